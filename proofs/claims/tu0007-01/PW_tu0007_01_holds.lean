import PyProof.Rows.All
import Wide.All
import OpenK.AllK
import Wide.FinOn
import PyProof.NoPylong
import PySem.Builtin.IntDigits
import Lean
import PySem.Challenge.RW_tu0007_01
set_option Elab.async false
set_option maxRecDepth 100000
set_option maxHeartbeats 0
set_option linter.all false
set_option bootstrap.genMatcherCode false
set_option genSizeOf false
namespace Mine
open PySem
local macro_rules
 |`(s! $x)=>do
  let bs:=((x.raw[0].isInterpolatedStrLit?).getD "").toUTF8.toList.map fun b=>Lean.Syntax.mkNumLit (toString b.toNat)
  let xs:=bs.toArray
  `(⟨⟨[$xs,*]⟩⟩)
section
instance neL{α:Type}:Nonempty (List α):=⟨[]⟩
instance neO{α:Type}:Nonempty (Option α):=⟨none⟩
theorem drink{α:Type}(i:Nonempty α)(P:α→Prop):Nonempty {x // P x→∀y,P y}:=
 (Classical.em (∀y,P y)).elim (fun h=>i.elim fun x=>⟨⟨x,fun _=>h⟩⟩) fun h=>(Classical.not_forall.mp h).elim fun x n=>⟨⟨x,fun p=>absurd p n⟩⟩
noncomputable def nx{α:Type}(i:Nonempty α)(P:α→Prop):α:=(Classical.choice (drink i P)).1
theorem sJ{α:Type}[i:Nonempty α]{P:α→Prop}(h:P (nx i P)):∀x,P x:=(Classical.choice (drink i P)).2 h
def tr1{α:Type}(_:α):Prop:=True
theorem aJ{α:Type}[i:Nonempty α]{P:α→Prop}(h:tr1 (nx i P)→P (nx i P)):∀x,P x:=sJ (h trivial)
noncomputable def bP{α β:Type}(i0:Nonempty α)(i1:Nonempty β)(P:α→β→Prop):α:=nx i0 fun x0=>∀x1,P x0 x1
noncomputable def bS{α β:Type}(i0:Nonempty α)(i1:Nonempty β)(P:α→β→Prop):β:=nx i1 (P (bP i0 i1 P))
def tr2{α β:Type}(_:α)(_:β):Prop:=True
theorem al2{α β:Type}[i0:Nonempty α][i1:Nonempty β]{P:α→β→Prop}(h:P (bP i0 i1 P) (bS i0 i1 P)):∀x0 x1,P x0 x1:=sJ (P:=fun x0=>∀x1,P x0 x1) (sJ h)
theorem aP{α β:Type}[i0:Nonempty α][i1:Nonempty β]{P:α→β→Prop}(h:tr2 (bP i0 i1 P) (bS i0 i1 P)→P (bP i0 i1 P) (bS i0 i1 P)):∀x0 x1,P x0 x1:=al2 (h trivial)
noncomputable def bM{α β γ δ:Type}(i0:Nonempty α)(i1:Nonempty β)(i2:Nonempty γ)(i3:Nonempty δ)(P:α→β→γ→δ→Prop):α:=bP i0 i1 fun x0 x1=>∀x2 x3,P x0 x1 x2 x3
noncomputable def bN{α β γ δ:Type}(i0:Nonempty α)(i1:Nonempty β)(i2:Nonempty γ)(i3:Nonempty δ)(P:α→β→γ→δ→Prop):β:=bS i0 i1 fun x0 x1=>∀x2 x3,P x0 x1 x2 x3
noncomputable def bQ{α β γ δ:Type}(i0:Nonempty α)(i1:Nonempty β)(i2:Nonempty γ)(i3:Nonempty δ)(P:α→β→γ→δ→Prop):γ:=bP i2 i3 (P (bM i0 i1 i2 i3 P) (bN i0 i1 i2 i3 P))
noncomputable def bR{α β γ δ:Type}(i0:Nonempty α)(i1:Nonempty β)(i2:Nonempty γ)(i3:Nonempty δ)(P:α→β→γ→δ→Prop):δ:=bS i2 i3 (P (bM i0 i1 i2 i3 P) (bN i0 i1 i2 i3 P))
def tr4{α β γ δ:Type}(_:α)(_:β)(_:γ)(_:δ):Prop:=True
theorem al4{α β γ δ:Type}[i0:Nonempty α][i1:Nonempty β][i2:Nonempty γ][i3:Nonempty δ]{P:α→β→γ→δ→Prop}(h:P (bM i0 i1 i2 i3 P) (bN i0 i1 i2 i3 P) (bQ i0 i1 i2 i3 P) (bR i0 i1 i2 i3 P)):∀x0 x1 x2 x3,P x0 x1 x2 x3:=al2 (P:=fun x0 x1=>∀x2 x3,P x0 x1 x2 x3) (al2 h)
theorem aN{α β γ δ:Type}[i0:Nonempty α][i1:Nonempty β][i2:Nonempty γ][i3:Nonempty δ]{P:α→β→γ→δ→Prop}(h:tr4 (bM i0 i1 i2 i3 P) (bN i0 i1 i2 i3 P) (bQ i0 i1 i2 i3 P) (bR i0 i1 i2 i3 P)→P (bM i0 i1 i2 i3 P) (bN i0 i1 i2 i3 P) (bQ i0 i1 i2 i3 P) (bR i0 i1 i2 i3 P)):∀x0 x1 x2 x3,P x0 x1 x2 x3:=al4 (h trivial)
noncomputable def bX{α β γ δ ε ζ η θ:Type}(i0:Nonempty α)(i1:Nonempty β)(i2:Nonempty γ)(i3:Nonempty δ)(i4:Nonempty ε)(i5:Nonempty ζ)(i6:Nonempty η)(i7:Nonempty θ)(P:α→β→γ→δ→ε→ζ→η→θ→Prop):α:=bM i0 i1 i2 i3 fun x0 x1 x2 x3=>∀x4 x5 x6 x7,P x0 x1 x2 x3 x4 x5 x6 x7
noncomputable def bY{α β γ δ ε ζ η θ:Type}(i0:Nonempty α)(i1:Nonempty β)(i2:Nonempty γ)(i3:Nonempty δ)(i4:Nonempty ε)(i5:Nonempty ζ)(i6:Nonempty η)(i7:Nonempty θ)(P:α→β→γ→δ→ε→ζ→η→θ→Prop):β:=bN i0 i1 i2 i3 fun x0 x1 x2 x3=>∀x4 x5 x6 x7,P x0 x1 x2 x3 x4 x5 x6 x7
noncomputable def bZ{α β γ δ ε ζ η θ:Type}(i0:Nonempty α)(i1:Nonempty β)(i2:Nonempty γ)(i3:Nonempty δ)(i4:Nonempty ε)(i5:Nonempty ζ)(i6:Nonempty η)(i7:Nonempty θ)(P:α→β→γ→δ→ε→ζ→η→θ→Prop):γ:=bQ i0 i1 i2 i3 fun x0 x1 x2 x3=>∀x4 x5 x6 x7,P x0 x1 x2 x3 x4 x5 x6 x7
noncomputable def b7{α β γ δ ε ζ η θ:Type}(i0:Nonempty α)(i1:Nonempty β)(i2:Nonempty γ)(i3:Nonempty δ)(i4:Nonempty ε)(i5:Nonempty ζ)(i6:Nonempty η)(i7:Nonempty θ)(P:α→β→γ→δ→ε→ζ→η→θ→Prop):δ:=bR i0 i1 i2 i3 fun x0 x1 x2 x3=>∀x4 x5 x6 x7,P x0 x1 x2 x3 x4 x5 x6 x7
noncomputable def cv{α β γ δ ε ζ η θ:Type}(i0:Nonempty α)(i1:Nonempty β)(i2:Nonempty γ)(i3:Nonempty δ)(i4:Nonempty ε)(i5:Nonempty ζ)(i6:Nonempty η)(i7:Nonempty θ)(P:α→β→γ→δ→ε→ζ→η→θ→Prop):ε:=bM i4 i5 i6 i7 (P (bX i0 i1 i2 i3 i4 i5 i6 i7 P) (bY i0 i1 i2 i3 i4 i5 i6 i7 P) (bZ i0 i1 i2 i3 i4 i5 i6 i7 P) (b7 i0 i1 i2 i3 i4 i5 i6 i7 P))
noncomputable def cw{α β γ δ ε ζ η θ:Type}(i0:Nonempty α)(i1:Nonempty β)(i2:Nonempty γ)(i3:Nonempty δ)(i4:Nonempty ε)(i5:Nonempty ζ)(i6:Nonempty η)(i7:Nonempty θ)(P:α→β→γ→δ→ε→ζ→η→θ→Prop):ζ:=bN i4 i5 i6 i7 (P (bX i0 i1 i2 i3 i4 i5 i6 i7 P) (bY i0 i1 i2 i3 i4 i5 i6 i7 P) (bZ i0 i1 i2 i3 i4 i5 i6 i7 P) (b7 i0 i1 i2 i3 i4 i5 i6 i7 P))
noncomputable def cx{α β γ δ ε ζ η θ:Type}(i0:Nonempty α)(i1:Nonempty β)(i2:Nonempty γ)(i3:Nonempty δ)(i4:Nonempty ε)(i5:Nonempty ζ)(i6:Nonempty η)(i7:Nonempty θ)(P:α→β→γ→δ→ε→ζ→η→θ→Prop):η:=bQ i4 i5 i6 i7 (P (bX i0 i1 i2 i3 i4 i5 i6 i7 P) (bY i0 i1 i2 i3 i4 i5 i6 i7 P) (bZ i0 i1 i2 i3 i4 i5 i6 i7 P) (b7 i0 i1 i2 i3 i4 i5 i6 i7 P))
noncomputable def cy{α β γ δ ε ζ η θ:Type}(i0:Nonempty α)(i1:Nonempty β)(i2:Nonempty γ)(i3:Nonempty δ)(i4:Nonempty ε)(i5:Nonempty ζ)(i6:Nonempty η)(i7:Nonempty θ)(P:α→β→γ→δ→ε→ζ→η→θ→Prop):θ:=bR i4 i5 i6 i7 (P (bX i0 i1 i2 i3 i4 i5 i6 i7 P) (bY i0 i1 i2 i3 i4 i5 i6 i7 P) (bZ i0 i1 i2 i3 i4 i5 i6 i7 P) (b7 i0 i1 i2 i3 i4 i5 i6 i7 P))
def tr8{α β γ δ ε ζ η θ:Type}(_:α)(_:β)(_:γ)(_:δ)(_:ε)(_:ζ)(_:η)(_:θ):Prop:=True
theorem al8{α β γ δ ε ζ η θ:Type}[i0:Nonempty α][i1:Nonempty β][i2:Nonempty γ][i3:Nonempty δ][i4:Nonempty ε][i5:Nonempty ζ][i6:Nonempty η][i7:Nonempty θ]{P:α→β→γ→δ→ε→ζ→η→θ→Prop}(h:P (bX i0 i1 i2 i3 i4 i5 i6 i7 P) (bY i0 i1 i2 i3 i4 i5 i6 i7 P) (bZ i0 i1 i2 i3 i4 i5 i6 i7 P) (b7 i0 i1 i2 i3 i4 i5 i6 i7 P) (cv i0 i1 i2 i3 i4 i5 i6 i7 P) (cw i0 i1 i2 i3 i4 i5 i6 i7 P) (cx i0 i1 i2 i3 i4 i5 i6 i7 P) (cy i0 i1 i2 i3 i4 i5 i6 i7 P)):∀x0 x1 x2 x3 x4 x5 x6 x7,P x0 x1 x2 x3 x4 x5 x6 x7:=al4 (P:=fun x0 x1 x2 x3=>∀x4 x5 x6 x7,P x0 x1 x2 x3 x4 x5 x6 x7) (al4 h)
theorem aT{α β γ δ ε ζ η θ:Type}[i0:Nonempty α][i1:Nonempty β][i2:Nonempty γ][i3:Nonempty δ][i4:Nonempty ε][i5:Nonempty ζ][i6:Nonempty η][i7:Nonempty θ]{P:α→β→γ→δ→ε→ζ→η→θ→Prop}(h:tr8 (bX i0 i1 i2 i3 i4 i5 i6 i7 P) (bY i0 i1 i2 i3 i4 i5 i6 i7 P) (bZ i0 i1 i2 i3 i4 i5 i6 i7 P) (b7 i0 i1 i2 i3 i4 i5 i6 i7 P) (cv i0 i1 i2 i3 i4 i5 i6 i7 P) (cw i0 i1 i2 i3 i4 i5 i6 i7 P) (cx i0 i1 i2 i3 i4 i5 i6 i7 P) (cy i0 i1 i2 i3 i4 i5 i6 i7 P)→P (bX i0 i1 i2 i3 i4 i5 i6 i7 P) (bY i0 i1 i2 i3 i4 i5 i6 i7 P) (bZ i0 i1 i2 i3 i4 i5 i6 i7 P) (b7 i0 i1 i2 i3 i4 i5 i6 i7 P) (cv i0 i1 i2 i3 i4 i5 i6 i7 P) (cw i0 i1 i2 i3 i4 i5 i6 i7 P) (cx i0 i1 i2 i3 i4 i5 i6 i7 P) (cy i0 i1 i2 i3 i4 i5 i6 i7 P)):∀x0 x1 x2 x3 x4 x5 x6 x7,P x0 x1 x2 x3 x4 x5 x6 x7:=al8 (h trivial)
def kp(K:Prop):Prop:=K
theorem kpi{K:Prop}(h:kp K):K:=h
theorem kpo{K:Prop}(h:K):kp K:=h
theorem jW{a b:Nat}(q:Nat.ble a b=true):a≤b:=Nat.le_of_ble_eq_true q
theorem cB{x B C:Nat}(h:x<B)(q:Nat.ble B C=true):x<C:=Nat.lt_of_lt_of_le h (jW q)
theorem bE{x B C:Nat}(k:Nat)(h:x<B)(q:Nat.ble (B+k) C=true):x+k<C:=cB (Nat.add_lt_add_right h k) q
theorem nW{x B C:Nat}(h:x≤B)(q:Nat.ble B C=true):x≤C:=Nat.le_trans h (jW q)
theorem a_ml{x B C:Nat}(k:Nat)(h:x≤B)(q:Nat.ble (B+k) C=true):x+k≤C:=nW (Nat.add_le_add_right h k) q
theorem gy{x B C:Nat}(h:x≤B)(q:Nat.ble (B+1) C=true):x<C:=nW (Nat.succ_le_succ h) q
theorem lu{x B C:Nat}(h:x<B)(q:Nat.ble B (C+1)=true):x≤C:=Nat.le_of_lt_succ (cB h q)
theorem cO{x k l:Nat}(q:Nat.ble k l=true):x+k≤x+l:=Nat.add_le_add_left (jW q) x
theorem ji{a b x:Int}(h:b≤x)(q:decide (a≤b)=true):a≤x:=Int.le_trans (of_decide_eq_true q) h
theorem qB{a b x:Int}(h:x≤a)(q:decide (a≤b)=true):x≤b:=Int.le_trans h (of_decide_eq_true q)
theorem Ci{a b x:Int}(h:x≤a)(q:decide (a<b)=true):x<b:=Int.lt_of_le_of_lt h (of_decide_eq_true q)
theorem vV{a b x:Int}(h:x<a)(q:decide (a≤b)=true):x<b:=Int.lt_of_lt_of_le h (of_decide_eq_true q)
theorem b8{a b c d x:Int}(h:a≤x∧x≤b)(p:decide (c≤a)=true)(q:decide (b≤d)=true):c≤x∧x≤d:=⟨ji h.1 p,qB h.2 q⟩
theorem eM{a b c d x y:Int}(h:a≤x∧x≤b)(k:c≤y∧y≤d):a+c≤x+y∧x+y≤b+d:=⟨Int.add_le_add h.1 k.1,Int.add_le_add h.2 k.2⟩
theorem jj{a b c d x y:Int}(h:a≤x∧x≤b)(k:c≤y∧y≤d):a - d≤x - y∧x - y≤b - c:=⟨Int.sub_le_sub h.1 k.2,Int.sub_le_sub h.2 k.1⟩
theorem a_ig{a b x:Int}(h:a≤x∧x≤b): -b≤-x∧-x≤-a:=⟨Int.neg_le_neg h.2,Int.neg_le_neg h.1⟩
theorem d6(k:Int):k≤k∧k≤k:=⟨Int.le_refl k,Int.le_refl k⟩
theorem eE{b x:Int}(h:0≤x)(k:x<b):0≤x∧x≤b - 1:=⟨h,Int.le_sub_one_of_lt k⟩
theorem a_im{a b x:Int}(h:a≤x∧x≤b):2 * a≤2 * x∧2 * x≤2 * b:=⟨Int.mul_le_mul_of_nonneg_left h.1 (by decide),Int.mul_le_mul_of_nonneg_left h.2 (by decide)⟩
theorem pB{a b x:Int}{n:Nat}(h:a≤x∧x≤b)(p:decide (-(n:Int)<a)=true)(q:decide (b<n)=true):x.natAbs<n:=by
 have h1: -(n:Int)<x:=Int.lt_of_lt_of_le (of_decide_eq_true p) h.1
 have h2:x<n:=Ci h.2 q
 cases x with
 |ofNat m=>exact Int.ofNat_lt.mp h2
 |negSucc m=>exact Int.ofNat_lt.mp (Int.neg_lt_neg_iff.mp h1)
def a_om(x:Int):List Int→Prop
 |[]=>False
 |a::l=>l.rec (x=a) fun _ _ _=>x=a∨a_om x l
theorem qC{P:Int→Prop}[d:DecidablePred P]{x:Int}(l:List Int)(q:l.all (fun a=>decide (P a))=true)(h:a_om x l):P x:=by
 induction l with
 |nil=>exact h.elim
 |cons a l ih=>
  have q:=Bool.and_eq_true_iff.mp (show(decide (P a) && l.all fun a=>decide (P a))=true from q)
  cases l with
  |nil=>exact(show x=a from h)▸of_decide_eq_true q.1
  |cons b l=>exact Or.elim (show x=a∨a_om x (b::l) from h) (fun e=>e▸of_decide_eq_true q.1) (ih q.2)
theorem yQ{m:Nat}{x:Int}(h:m≤1000)(l: -(10 * (m:Int))≤x)(u:x≤10 * (m:Int)): -1000000≤x∧x≤1000000:=by
 have k:(10:Int) * m≤10000:=Int.mul_le_mul_of_nonneg_left (Int.ofNat_le.mpr h) (by decide)
 exact⟨ji (Int.le_trans (Int.neg_le_neg k) l) rfl,qB (Int.le_trans u k) rfl⟩
theorem ar227{a b:Nat}{x y:Int}(h:a≤1000)(t: -(10 * ((min b a:Nat):Int))≤x∧x≤10 * ((min b a:Nat):Int)∧-(10 * ((min b a:Nat):Int))≤y∧y≤10 * ((min b a:Nat):Int)): -1000000≤x∧x≤1000000∧-1000000≤y∧y≤1000000:=
 have m:=Nat.le_trans (Nat.min_le_right b a) h
 have p:=yQ m t.1 t.2.1
 ⟨p.1,p.2,yQ m t.2.2.1 t.2.2.2⟩
theorem ar6{a b:Nat}(h:a≥b)(k:a - b=0):a=b:=Nat.le_antisymm (Nat.le_of_sub_eq_zero k) h
theorem ar128{a b c:Nat}(h:a≤b)(k:b≤a+c):a+(c - (a+c - b))=b:=by
 obtain⟨d,rfl⟩:=Nat.le.dest h
 rw[Nat.add_sub_add_left,Nat.sub_sub_self (Nat.le_of_add_le_add_left k)]
theorem ar132{a b c:Nat}(h:a≤b∧b≤a+c)(k:c≤b):a≤b∧b≤a+c∧c≤b∧a+c - b=a+c - b∧a+(c - (a+c - b))=b:=⟨h.1,h.2,k,rfl,ar128 h.1 h.2⟩
theorem ar151{a p:Nat}(h:a+1<2 * p)(h0:¬a=0):a / 2 - 1+1<p:=by
 rcases Nat.eq_zero_or_pos (a / 2) with e|e
 ·rw[e];exact Nat.lt_of_mul_lt_mul_left (a:=2) (Nat.lt_of_le_of_lt (Nat.succ_le_succ (Nat.pos_of_ne_zero h0)) h)
 ·rw[Nat.sub_add_cancel e];exact Nat.div_lt_of_lt_mul (Nat.lt_of_succ_lt h)
theorem ar152{a:Nat}(h0:¬a=0)(h1:¬a % 2=1):a=2 * (a / 2 - 1)+2:=by
 have e:=Nat.div_add_mod a 2
 rw[(Nat.mod_two_eq_zero_or_one a).resolve_right h1] at e
 rcases Nat.eq_zero_or_pos (a / 2) with q|q
 ·rw[q] at e;exact absurd e.symm h0
 ·have:2 * (a / 2 - 1+1)=a:=by rw[Nat.sub_add_cancel q];exact e
  exact this.symm
theorem ar147{a p:Nat}(h:a+1<2 * p)(h1:a % 2=1):a / 2+1<p:=by
 have e:=Nat.div_add_mod a 2
 rw[h1] at e
 refine Nat.lt_of_mul_lt_mul_left (a:=2) ?_
 show 2 * (a / 2)+1+1<2 * p
 rw[e];exact h
theorem ar148{a:Nat}(h1:a % 2=1):a=2 * (a / 2)+1:=by
 have e:=Nat.div_add_mod a 2
 rw[h1] at e;exact e.symm
theorem ar310{a:Nat}:(-1+(a:Int)).toNat=a - 1:=by
 cases a with
 |zero=>rfl
 |succ n=>
  have: -1+((n+1:Nat):Int)=n:=(Int.add_comm _ _).trans ((Int.add_assoc (n:Int) 1 (-1)).trans (Int.add_zero _))
  exact congrArg Int.toNat this
theorem ar97{a b:Nat}{x:Int}(e:a=b)(h:0≤x∧x≤(a:Int)∧a<1000):min x.toNat b=x.toNat:=Nat.min_eq_left (e▸Int.toNat_le.mpr h.2.1)
theorem ar126{a b:Nat}(h:a<b):b - a=b - (a+1)+1:=(Nat.sub_add_cancel (Nat.sub_pos_of_lt h)).symm
theorem ar195{a b c d e:Nat}(h:a=b)(k:c<d)(i:e=b↔c+1=d):((e:Int)=(a:Int)↔d≤c+1):=by
 subst h
 exact⟨fun q=>Nat.le_of_eq (i.mp (Int.ofNat.inj q)).symm,fun q=>congrArg _ (i.mpr (Nat.le_antisymm k q))⟩
theorem ar190{x y z:Int}(h:x≤1000000)(k: -1000000≤y)(l:z≤1000000):x - y+z<1073741824:=Ci (Int.add_le_add (Int.sub_le_sub h k) l) rfl
theorem ar422{a b c:Nat}(h:a<b)(m:c=a∨c=b∨c=b+1∨c=b+1+1):c<b+1+1+1+1:=by
 rcases m with rfl|rfl|rfl|rfl
 ·exact Nat.lt_add_right 4 h
 ·exact cO (k:=1) (l:=4) rfl
 ·exact cO (k:=2) (l:=4) rfl
 ·exact cO (k:=3) (l:=4) rfl
theorem ar423{a b:Nat}(h:a<b):¬(b+1+1+1=a∨b+1+1+1=b∨b+1+1+1=b+1∨b+1+1+1=b+1+1):=fun m=>
 m.elim (fun e=>Nat.ne_of_gt (Nat.lt_add_right 3 h) e) fun m=>m.elim (fun e=>Nat.ne_of_gt (cO (k:=1) (l:=3) rfl) e) fun m=>m.elim (fun e=>Nat.ne_of_gt (cO (k:=2) (l:=3) rfl) e) fun e=>Nat.ne_of_gt (cO (k:=3) (l:=3) rfl) e
theorem ar424{a b:Nat}(h:a<b):a≠b∧a≠b+1∧a≠b+1+1∧b≠b+1∧b≠b+1+1∧b+1≠b+1+1:=
 ⟨Nat.ne_of_lt h,Nat.ne_of_lt (Nat.lt_add_right 1 h),Nat.ne_of_lt (Nat.lt_add_right 2 h),Nat.ne_of_lt (cO (k:=1) (l:=1) rfl),Nat.ne_of_lt (cO (k:=1) (l:=2) rfl),Nat.ne_of_lt (cO (k:=2) (l:=2) rfl)⟩
theorem ar262{a b c d e f:Nat}(h:a≤4)(t:b<10000)(l:c≤b)(k:d≤4 * c)(p:e=a)(q:f=d):f+e<100000:=by
 subst p q
 exact Nat.lt_of_le_of_lt (Nat.add_le_add (Nat.le_trans k (Nat.mul_le_mul_left 4 (Nat.le_trans l (Nat.le_of_lt t)))) h) (jW rfl)
theorem ar261{b c d e:Nat}(t:b<10000)(l:c≤b)(k:d≤4 * c)(p:e=d):e<100000:=ar262 (Nat.zero_le 4) t l k rfl p
theorem ar76{a:Nat}(h:0<a):(a:Int) - 1=(((a:Int) - 1).toNat:Int):=(Int.toNat_of_nonneg (Int.le_sub_one_of_lt (Int.ofNat_lt.mpr h))).symm
theorem ar141{a b:Int}(h:0≤a)(k:a<4):(4 * b+a) / 4=b:=by
 rw[Int.add_comm,Int.add_mul_ediv_left _ _ (by decide),Int.ediv_eq_zero_of_lt h k,Int.zero_add]
theorem ar225{m:Nat}{x y:Int}(a: -(10 * (m:Int))≤x)(b:x≤10 * (m:Int))(c: -10≤y)(d:y≤10): -(10 * ((m+1:Nat):Int))≤y+x∧y+x≤10 * ((m+1:Nat):Int):=by
 have e:(10:Int) * ((m+1:Nat):Int)=10+10 * m:=(Int.mul_add 10 m 1).trans (Int.add_comm _ _)
 rw[e,Int.neg_add]
 exact⟨Int.add_le_add c a,Int.add_le_add d b⟩
theorem ar160{a b c d e:Nat}(h0:a<60)(h1:b≤a)(h2:c=b)(h3:d≤a+e)(h4:e<c):d<1000:=
 gy (Nat.le_trans h3 (Nat.add_le_add (Nat.le_of_lt h0) (Nat.le_of_lt (Nat.lt_trans (Nat.lt_of_lt_of_le h4 (h2▸h1)) h0)))) rfl
theorem ar121{a b c:Nat}(h:a≤b):a≤b - c+c:=Nat.le_trans h (Nat.le_add_of_sub_le (Nat.le_refl _))
theorem ar74{a:Nat}{x:Int}(h:0<a)(k:¬(a:Int)<x):(x - 1).toNat<a:=by
 cases a with
 |zero=>exact absurd h (Nat.lt_irrefl 0)
 |succ n=>exact Nat.lt_succ_of_le (Int.toNat_le.mpr (Int.sub_right_le_of_le_add (Int.not_lt.mp k)))
theorem ar37{x:Int}(h:x≤3):(1+x).toNat<6:=gy (Int.toNat_le.mpr (Int.add_le_add_left h 1:1+x≤((4:Nat):Int))) rfl
theorem ar197{a b c d e:Nat}(h:a≤2 ^ b)(k:c≤2 * d)(p:e=c)(q:a=d):e≤2 ^ b * 2:=by
 subst p q
 exact Nat.le_trans k (Nat.mul_comm 2 a▸Nat.mul_le_mul_right 2 h)
theorem ar73{a:Nat}(h:0<a):((a:Int) - 1).toNat<a:=(Int.toNat_lt' h).mpr (Int.sub_lt_self _ (by decide))
theorem ar206{a b c d:Nat}(h:a<b):c+a+(b - a+d)=c+(b+d):=by rw[Nat.add_assoc,←Nat.add_assoc a,Nat.add_sub_cancel' (Nat.le_of_lt h)]
theorem ar183{a b c:Int}{n:Nat}(h:a=b+1)(k:b≤c+n):a≤c+((n+1:Nat):Int):=h▸(Int.add_assoc c n 1▸Int.add_le_add_right k 1:b+1≤c+(n+1))
theorem ar167{a b c d e f:Nat}(h:a≤b+c)(p:d=e+f)(q:a=e)(k:f≤1):d≤b+(c+1):=by
 subst p q;exact(Nat.add_le_add h k:a+f≤b+c+1)
theorem ar185{a b c d e:Nat}(h:a<b)(k:c=0+d)(l:d<e):(c=e↔a+1=b+1):=
 ⟨fun q=>absurd ((k.trans (Nat.zero_add d)).symm.trans q) (Nat.ne_of_lt l),fun q=>absurd (Nat.succ.inj q) (Nat.ne_of_lt h)⟩
theorem ar93{x:Int}{n:Nat}(h:0≤x∧x≤(n:Int)∧n<1000): -9223372036854775808≤x∧x<9223372036854775808:=
 ⟨ji h.1 rfl,Ci (Int.le_trans h.2.1 (Int.ofNat_le.mpr (Nat.le_of_lt h.2.2))) rfl⟩
theorem ar88{a b:Nat}:(a:Int)=(b:Int) - 1↔a+1=b:=
 ⟨fun h=>Int.ofNat.inj ((congrArg (· +1) h).trans (Int.sub_add_cancel (b:Int) 1)),fun h=>h▸(Int.add_sub_cancel (a:Int) 1).symm⟩
theorem ar333{a b c d:Nat}(h:a<5000)(p:b=c)(k:d≤a+5)(l:c≤4 * d):b<1000000:=
 gy (p▸Nat.le_trans l (Nat.mul_le_mul_left 4 (Nat.le_trans k (Nat.add_le_add_right (Nat.le_of_lt h) 5)))) rfl
theorem Cj{a b c B C:Nat}(h:a<B)(k:b≤a)(e:c=b)(q:Nat.ble B C=true):c<C:=cB (Nat.lt_of_le_of_lt (e▸k) h) q
theorem ar401{a b c:Nat}(h:a+(b+1)<c):a+1+b<c:=by rw[Nat.add_right_comm];exact h
theorem ar105{a b c:Nat}(h:a+1+b=c):b<c:=h▸Nat.lt_add_of_pos_left (Nat.succ_pos a)
theorem ar92{a b c d e f:Nat}(p:a=b)(q:c=d)(h:e≠f∧a+c<100000):b+d≤16777216:=by
 subst p q;exact lu h.2 rfl
theorem ar421{a b c:Nat}(h:a≤6 * b+1)(k:c≤5):a+(c+1)≤6 * (b+1)+1:=Nat.le_trans (Nat.add_le_add h (Nat.succ_le_succ k)) (Nat.le_of_eq (Nat.add_right_comm (6 * b) 1 6))
theorem ar229{a b c:Nat}{p:Prop}(h:a<b)(e:a=c)(k:b<c+1):p:=absurd (Nat.lt_of_le_of_lt (Nat.le_of_lt_succ k) (e▸h)) (Nat.lt_irrefl _)
theorem uP{a b:Int}:a+(b - a)=b:=by rw[Int.add_comm,Int.sub_add_cancel]
theorem ar41{a b c d e f:Nat}(e1:a=b)(h:c≤b∧c+d=e+f)(k:¬(c:Int)<(a:Int)):c=b:=Nat.le_antisymm h.1 (e1▸Int.ofNat_le.mp (Int.not_lt.mp k))
theorem ar63{x:Int}{n:Nat}(h:x<0∧0≤x+(n:Int)):0≤x+(n:Int)∧x+(n:Int)<(n:Int):=⟨h.2,Int.lt_of_lt_of_le (Int.add_lt_add_right h.1 n) (Int.le_of_eq (Int.zero_add _))⟩
theorem ar60{x:Int}{n:Nat}(h:x<0∧0≤x+(n:Int)):(x+(n:Int)).toNat<n:=(Int.toNat_lt h.2).mpr (ar63 h).2
theorem ar180{a b c d:Nat}(h:a≤0+b)(k:c≤0+b)(l:d≤c):a+d≤2 * b:=by
 rw[Nat.zero_add] at h k;rw[Nat.two_mul];exact Nat.add_le_add h (Nat.le_trans l k)
theorem ar47{a b c:Nat}(e:a=b)(k:¬(c:Int)+1<(a:Int)):b≤c+1:=e▸Int.ofNat_le.mp (Int.not_lt.mp k)
theorem ar42{a b c:Nat}(e:a=b)(k:¬(c:Int)<(a:Int)):b≤c:=e▸Int.ofNat_le.mp (Int.not_lt.mp k)
theorem ar135{a b:Nat}(h:a+20 * (b+1)+5≤9000):a+3+20 * b+20≤9000:=by
 rw[Nat.add_right_comm a 3];exact Nat.le_trans (cO (x:=a+20 * b) (k:=23) (l:=25) rfl) h
theorem Ck{x k l C:Nat}(h:x+k≤C)(q:Nat.ble l k=true):x+l≤C:=Nat.le_trans (cO q) h
theorem uQ{a b c B C:Nat}(h:a+b+c≤B)(q:Nat.ble (B+1) C=true):a<C:=gy (Nat.le_trans (Nat.le_trans (Nat.le_add_right a b) (Nat.le_add_right _ c)) h) q
theorem ar25{a b:Nat}(h:a+20 * b+20≤9000):a+1+64<9900:=bE 65 (uQ h rfl:a<9001) rfl
theorem ar82{a b:Nat}(h:a+4 * b+4≤900):a+1+4 * b+1≤900:=by rw[Nat.add_right_comm a 1];exact Ck (k:=4) (l:=2) h rfl
theorem ar83{a b:Nat}(h:a+20 * b+20≤9000):a+1+20 * b+5≤9000:=by rw[Nat.add_right_comm a 1];exact Ck (k:=20) (l:=6) h rfl
theorem ar134{a b:Nat}(h:a+4 * (b+1)+1≤900):a+1+4 * b+4≤900:=by rw[Nat.add_right_comm a 1];exact h
theorem ar302{x y:Int}(h:0≤x)(k:y≤-10000)(l:¬-10000>y - x):y=y - x:=by
 have m:y≤y - x:=Int.le_trans k (Int.not_lt.mp l)
 have e:x≤0:=Int.le_of_add_le_add_right (b:=y) (by rw[Int.zero_add];exact Int.add_le_of_le_sub_left m)
 rw[Int.le_antisymm e h,Int.sub_zero]
theorem ar179{a b c:Nat}(h:a≤1)(k:b≤c):a+b≤c+1:=Nat.add_comm b a▸Nat.add_le_add k h
theorem ar118{a b c:Nat}(h:a≤b+(c+1)):a≤b+1+c:=by rw[Nat.add_right_comm];exact h
theorem ar250{a b:Nat}{x:Int}(e:(a:Int)=x)(h:x<(b:Int)):a<b:=Int.ofNat_lt.mp (e▸h)
theorem ar309{a:Nat}(h:0<a):(-1:Int)<0∧0≤-1+(a:Int):=⟨by decide,by rw[Int.add_comm];exact Int.le_sub_one_of_lt (Int.ofNat_lt.mpr h)⟩
theorem ar178{x y:Int}{n:Nat}(h:x≤y+(n:Int)):x≤y+((n+1:Nat):Int):=Int.le_trans h (Int.add_le_add_left (Int.ofNat_le.mpr (Nat.le_succ n)) y)
theorem ar276{a:Int}(h:0≤a)(k:a<2):a=0∨a=1:=by
 cases a with
 |ofNat n=>exact(Nat.le_one_iff_eq_zero_or_eq_one.mp (Nat.le_of_lt_succ (Int.ofNat_lt.mp k))).imp (congrArg Int.ofNat) (congrArg Int.ofNat)
 |negSucc n=>exact absurd h (Int.not_le.mpr (Int.negSucc_lt_zero n))
theorem vW{c:Prop}[Decidable c]{a b x y:Int}(h:a≤x∧x≤b)(k:a≤y∧y≤b):a≤(if c then x else y)∧(if c then x else y)≤b:=by split<;>assumption
theorem z10:(0:Int)≤0∧(0:Int)≤10:=⟨by decide,by decide⟩
theorem bd4{a b c d x:Int}(p:0≤a∧a≤10)(q:0≤b∧b≤10)(h:0≤x∧x≤100)(r:0≤c∧c≤10)(s:0≤d∧d≤10): -1000000≤a+b+x∧a+b+x≤1000000∧-1000000≤c+d∧c+d≤1000000:=
 have i:=b8 (c:=-1000000) (d:=1000000) (eM (eM p q) h) rfl rfl
 ⟨i.1,i.2,b8 (eM r s) rfl rfl⟩
theorem ar38{k:Nat}(h:(k:Int)≤3):k=0∨k=1∨k=2∨k=3:=
 match k,Int.ofNat_le.mp h with
 |0,_=>.inl rfl|1,_=>.inr (.inl rfl)|2,_=>.inr (.inr (.inl rfl))|3,_=>.inr (.inr (.inr rfl))
 |n+4,h=>absurd h (Nat.not_le.mpr (Nat.le_add_left 4 n))
theorem ar214{a b c:Int}:a+(b+(c - a - b))=c:=by rw[Int.sub_sub,←Int.add_assoc,Int.add_comm,Int.sub_add_cancel]
theorem ar217{a b c:Nat}:((a+b:Nat):Int)+((c:Int) - (b:Int))=((a+c:Nat):Int):=by rw[Int.natCast_add,Int.natCast_add,Int.add_assoc,uP]
theorem z03:(0:Int)≤0∧(0:Int)≤3:=⟨by decide,by decide⟩
end
section
open PyProof.Rows PySem.W
set_option backward.match.sparseCases false
noncomputable abbrev pw:Program:=PySem.Challenge.pw_tu0007_01
noncomputable def aR(k:Nat):Stmt:=(pw.main.body[k]?).getD (.Pass ⟨0,0,0,0⟩)
noncomputable def meIn(j:Nat):Stmt→Stmt
 |.ClassDef _ _ _ b .. =>(b[j]?).getD (.Pass ⟨0,0,0,0⟩)
 |_=>.Pass ⟨0,0,0,0⟩
noncomputable def cq(k j:Nat):Stmt:=meIn j (aR k)
noncomputable def dH:Stmt→DefRec
 |.FunctionDef n a b _ _ _ sc _ _ pos=>⟨n,a,b,sc,pos⟩
 |_=>⟨Str.empty,⟨[],[],none,[],[],none,[]⟩,[],⟨.module,[],false,false,[]⟩,⟨0,0,0,0⟩⟩
noncomputable def tu(l:List Value):Obj:={cls:=.type "tuple",data:=.seq ⟨l⟩}
noncomputable def re(T:String)(l:List Value):Obj:={cls:=.type T,data:=.fields ⟨l⟩}
noncomputable def di(P:Params)(l:List (Str×Nat×Value))(n:Nat):Obj:={cls:=.type "dict",data:=.dict ⟨l.map fun e=>⟨PyData.keyHash P e.1,.str e.1 e.2.1,e.2.2⟩⟩ n}
noncomputable def cl(name:Str)(bases mro:List Value)(ns:Addr)(subs:List Value)(slots:List (Option Value)):Obj:=
 {cls:=.type "type",data:=.cls {name:=name,bases:=bases,mro:=mro,ns:=ns,qualname:=name,subclasses:=subs},slots:=⟨slots⟩}
noncomputable def fo(st:Stmt)(qual:Str)(dflt md code:Value):Obj:=
 {cls:=.type "function",data:=.func (fnOf (dH st).name qual (dH st).params (dH st).body (dH st).scope dflt .none .none md none code .none)}
noncomputable def s0:Str:=s!"k"
noncomputable def s1:Str:=s!"_wall"
noncomputable def s2:Str:=s!"/claim/cut.py"
noncomputable def s3:Str:=s!"__main__"
noncomputable def s4:Str:=s!""
noncomputable def s5:Str:=s!"self"
noncomputable def s6:Str:=s!"reason"
noncomputable def s7:Str:=s!"__init__"
noncomputable def s8:Str:=s!"PageError.__init__"
noncomputable def s9:Str:=s!"gluepage.errors"
noncomputable def oE:Str:=s!"__module__"
noncomputable def oF:Str:=s!"__firstlineno__"
noncomputable def oG:Str:=s!"__static_attributes__"
noncomputable def iB:Str:=s!"__weakref__"
noncomputable def nX:Str:=s!"__doc__"
noncomputable def s15:Str:=s!"PageError"
noncomputable def s16:Str:=s!"BadArgument"
noncomputable def s17:Str:=s!"BadUnit"
noncomputable def s18:Str:=s!"Overflow"
noncomputable def qD:Str:=s!"value"
noncomputable def s20:Str:=s!"low"
noncomputable def s21:Str:=s!"high"
noncomputable def s22:Str:=s!"is_whole"
noncomputable def jX:Str:=s!"gluepage.scaled"
noncomputable def s24:Str:=s!"check_whole"
noncomputable def s25:Str:=s!"check_number"
noncomputable def s26:Str:=s!"check_dimen"
noncomputable def Cm:Str:=s!"number"
noncomputable def s28:Str:=s!"by"
noncomputable def s29:Str:=s!"rounded"
noncomputable def s30:Str:=s!"whole"
noncomputable def s31:Str:=s!"scale"
noncomputable def s32:Str:=s!"reading"
noncomputable def s33:Str:=s!"sign"
noncomputable def s35:Str:=s!"part"
noncomputable def s37:Str:=s!"places"
noncomputable def s38:Str:=s!"decimal_text"
noncomputable def s39:Str:=s!"count"
noncomputable def s40:Str:=s!"more"
noncomputable def s41:Str:=s!"times"
noncomputable def s42:Str:=s!"excess"
noncomputable def s43:Str:=s!"total"
noncomputable def s44:Str:=s!"ratio"
noncomputable def s45:Str:=s!"badness"
noncomputable def yR:Str:=s!"order"
noncomputable def s47:Str:=s!"order_text"
noncomputable def s48:Str:=s!"unit"
noncomputable def s49:Str:=s!"part_text"
noncomputable def lX:Str:=s!"width"
noncomputable def Cn:Str:=s!"stretch"
noncomputable def s52:Str:=s!"stretch_order"
noncomputable def s53:Str:=s!"shrink"
noncomputable def s54:Str:=s!"shrink_order"
noncomputable def s55:Str:=s!"Glue.__init__"
noncomputable def s56:Str:=s!"parts"
noncomputable def s57:Str:=s!"Glue.parts"
noncomputable def s58:Str:=s!"other"
noncomputable def s59:Str:=s!"same"
noncomputable def s60:Str:=s!"Glue.same"
noncomputable def s61:Str:=s!"added"
noncomputable def s62:Str:=s!"Glue.added"
noncomputable def s63:Str:=s!"Glue.times"
noncomputable def s64:Str:=s!"over"
noncomputable def s65:Str:=s!"Glue.over"
noncomputable def s66:Str:=s!"negated"
noncomputable def s67:Str:=s!"Glue.negated"
noncomputable def nS:Str:=s!"found"
noncomputable def s70:Str:=s!"text"
noncomputable def s71:Str:=s!"Glue.text"
noncomputable def iO:Str:=s!"__dict__"
noncomputable def s73:Str:=s!"Glue"
noncomputable def lL:Str:=s!"items"
noncomputable def qE:Str:=s!"node"
noncomputable def s76:Str:=s!"check_short"
noncomputable def gP:Str:=s!"gluepage.nodes"
noncomputable def qF:Str:=s!"kind"
noncomputable def s79:Str:=s!"height"
noncomputable def B5:Str:=s!"depth"
noncomputable def s81:Str:=s!"Box.__init__"
noncomputable def s82:Str:=s!"shift"
noncomputable def s83:Str:=s!"Box"
noncomputable def qG:Str:=s!"size"
noncomputable def s85:Str:=s!"Rule.__init__"
noncomputable def s86:Str:=s!"Rule"
noncomputable def lM:Str:=s!"sort"
noncomputable def s88:Str:=s!"Kern.__init__"
noncomputable def s89:Str:=s!"Kern"
noncomputable def s90:Str:=s!"glue"
noncomputable def s91:Str:=s!"leader"
noncomputable def s92:Str:=s!"Skip.__init__"
noncomputable def s93:Str:=s!"Skip"
noncomputable def s94:Str:=s!"Penalty.__init__"
noncomputable def s95:Str:=s!"Penalty"
noncomputable def s96:Str:=s!"pre"
noncomputable def s97:Str:=s!"post"
noncomputable def s98:Str:=s!"middle"
noncomputable def s99:Str:=s!"Disc.__init__"
noncomputable def yS:Str:=s!"Disc"
noncomputable def Co:Str:=s!"tokens"
noncomputable def s102:Str:=s!"Mark.__init__"
noncomputable def yT:Str:=s!"Mark"
noncomputable def Cp:Str:=s!"top"
noncomputable def sL:Str:=s!"cost"
noncomputable def s106:Str:=s!"Insert.__init__"
noncomputable def yU:Str:=s!"Insert"
noncomputable def s108:Str:=s!"Adjust.__init__"
noncomputable def yV:Str:=s!"Adjust"
noncomputable def Cq:Str:=s!"is_on"
noncomputable def s111:Str:=s!"MathEdge.__init__"
noncomputable def yW:Str:=s!"MathEdge"
noncomputable def Cr:Str:=s!"octets"
noncomputable def s114:Str:=s!"octet"
noncomputable def s115:Str:=s!"Special.__init__"
noncomputable def yX:Str:=s!"Special"
noncomputable def vX:Str:=s!"width_of"
noncomputable def s118:Str:=s!"Shape.__init__"
noncomputable def bK:Str:=s!"gluepage.breaks"
noncomputable def s120:Str:=s!"special"
noncomputable def s121:Str:=s!"Shape.special"
noncomputable def s122:Str:=s!"is_hung"
noncomputable def qH:Str:=s!"line"
noncomputable def s124:Str:=s!"Shape.line"
noncomputable def yY:Str:=s!"done"
noncomputable def s126:Str:=s!"hang_after"
noncomputable def s127:Str:=s!"hang_indent"
noncomputable def s128:Str:=s!"narrow"
noncomputable def s129:Str:=s!"rows"
noncomputable def yZ:Str:=s!"Shape"
noncomputable def s131:Str:=s!"Settings.__init__"
noncomputable def s132:Str:=s!"adjacent"
noncomputable def s133:Str:=s!"double_hyphen"
noncomputable def s134:Str:=s!"emergency"
noncomputable def s135:Str:=s!"ex_hyphen_penalty"
noncomputable def s136:Str:=s!"final_hyphen"
noncomputable def s137:Str:=s!"hyphen_penalty"
noncomputable def s138:Str:=s!"left_skip"
noncomputable def s139:Str:=s!"line_penalty"
noncomputable def Cs:Str:=s!"looseness"
noncomputable def s141:Str:=s!"pretolerance"
noncomputable def s142:Str:=s!"right_skip"
noncomputable def Cu:Str:=s!"tolerance"
noncomputable def za:Str:=s!"Settings"
noncomputable def qI:Str:=s!"spot"
noncomputable def vY:Str:=s!"fit"
noncomputable def vZ:Str:=s!"demerits"
noncomputable def Cv:Str:=s!"before"
noncomputable def s149:Str:=s!"Way.__init__"
noncomputable def zb:Str:=s!"Way"
noncomputable def d8:Str:=s!"settings"
noncomputable def nY:Str:=s!"shape"
noncomputable def Cw:Str:=s!"most"
noncomputable def sM:Str:=s!"ground"
noncomputable def lY:Str:=s!"is_last"
noncomputable def s156:Str:=s!"Trial.__init__"
noncomputable def nZ:Str:=s!"apart"
noncomputable def zc:Str:=s!"Trial"
noncomputable def wa:Str:=s!"check_settings"
noncomputable def wc:Str:=s!"is_dropped"
noncomputable def s161:Str:=s!"may"
noncomputable def s162:Str:=s!"is_behind"
noncomputable def pC:Str:=s!"place"
noncomputable def qJ:Str:=s!"penalty"
noncomputable def wd:Str:=s!"legal_breaks"
noncomputable def we:Str:=s!"start_behind"
noncomputable def wg:Str:=s!"row"
noncomputable def wh:Str:=s!"add_glue"
noncomputable def sN:Str:=s!"wide"
noncomputable def wj:Str:=s!"sums_ahead"
noncomputable def qK:Str:=s!"sums"
noncomputable def wk:Str:=s!"widened"
noncomputable def s173:Str:=s!"start"
noncomputable def s174:Str:=s!"begin"
noncomputable def sO:Str:=s!"end"
noncomputable def wm:Str:=s!"spots"
noncomputable def Cy:Str:=s!"extra"
noncomputable def wo:Str:=s!"ground_of"
noncomputable def wq:Str:=s!"line_totals"
noncomputable def s180:Str:=s!"short"
noncomputable def wt:Str:=s!"bad"
noncomputable def wu:Str:=s!"fitted"
noncomputable def wx:Str:=s!"line_demerits"
noncomputable def Cz:Str:=s!"is_twice"
noncomputable def CA:Str:=s!"is_end"
noncomputable def wy:Str:=s!"pair_demerits"
noncomputable def CB:Str:=s!"trial"
noncomputable def CC:Str:=s!"active"
noncomputable def s189:Str:=s!"kept"
noncomputable def CD:Str:=s!"best"
noncomputable def s191:Str:=s!"least"
noncomputable def wz:Str:=s!"way"
noncomputable def s193:Str:=s!"is_resort"
noncomputable def s194:Str:=s!"group"
noncomputable def s195:Str:=s!"old"
noncomputable def wA:Str:=s!"ways_to"
noncomputable def s197:Str:=s!"ways"
noncomputable def s198:Str:=s!"far"
noncomputable def s199:Str:=s!"is_nearer"
noncomputable def wB:Str:=s!"picked"
noncomputable def wC:Str:=s!"places_of"
noncomputable def wD:Str:=s!"choose"
noncomputable def CE:Str:=s!"script"
noncomputable def s204:Str:=s!"cell"
noncomputable def wF:Str:=s!"_law_pool"
noncomputable def dn:Str:=s!"law_tu0007_01"
noncomputable def fq:Str:=s!"pool"
noncomputable def CF:Str:=s!"many"
noncomputable def s209:Str:=s!"digit"
noncomputable def wG:Str:=s!"_law_take"
noncomputable def wH:Str:=s!"_law_settings"
noncomputable def s212:Str:=s!"indent"
noncomputable def s213:Str:=s!"after"
noncomputable def wJ:Str:=s!"_law_shape"
noncomputable def jk:Str:=s!"told"
noncomputable def sP:Str:=s!"others"
noncomputable def s217:Str:=s!"back"
noncomputable def wK:Str:=s!"_law_add"
noncomputable def s219:Str:=s!"cut"
noncomputable def wM:Str:=s!"_law_pieces"
noncomputable def wN:Str:=s!"_law_outside"
noncomputable def s222:Str:=s!"is_outer"
noncomputable def s223:Str:=s!"ahead"
noncomputable def wO:Str:=s!"_law_box"
noncomputable def s225:Str:=s!"amount"
noncomputable def s226:Str:=s!"is_free"
noncomputable def s227:Str:=s!"first"
noncomputable def s228:Str:=s!"second"
noncomputable def wQ:Str:=s!"_law_glue"
noncomputable def wR:Str:=s!"_law_amount"
noncomputable def s231:Str:=s!"fee"
noncomputable def wU:Str:=s!"_law_fee"
noncomputable def wV:Str:=s!"_law_disc"
noncomputable def wW:Str:=s!"_law_gap"
noncomputable def s235:Str:=s!"one"
noncomputable def s236:Str:=s!"this"
noncomputable def s237:Str:=s!"that"
noncomputable def wX:Str:=s!"_law_same"
noncomputable def s239:Str:=s!"nodes"
noncomputable def CG:Str:=s!"numbers"
noncomputable def s241:Str:=s!"given"
noncomputable def s242:Str:=s!"answer"
noncomputable def wY:Str:=s!"_law_answer"
noncomputable def wZ:Str:=s!"_law_alike"
noncomputable def s245:Str:=s!"turn"
noncomputable def s246:Str:=s!"due"
noncomputable def zd:Str:=s!"law"
noncomputable def s257:Str:=s!"MAX_DIMEN"
noncomputable def s258:Str:=s!"MAX_NUMBER"
noncomputable def s259:Str:=s!"INF_BAD"
noncomputable def s260:Str:=s!"NORMAL"
noncomputable def s263:Str:=s!"FILLL"
noncomputable def s265:Str:=s!"CHAR"
noncomputable def s266:Str:=s!"LIGATURE"
noncomputable def s267:Str:=s!"HBOX"
noncomputable def s268:Str:=s!"VBOX"
noncomputable def s269:Str:=s!"RULE"
noncomputable def s270:Str:=s!"KERN"
noncomputable def s271:Str:=s!"GLUE"
noncomputable def s272:Str:=s!"PENALTY"
noncomputable def s273:Str:=s!"DISC"
noncomputable def s277:Str:=s!"MATH"
noncomputable def s279:Str:=s!"UNSET"
noncomputable def s280:Str:=s!"NATURAL"
noncomputable def s283:Str:=s!"FONT_KERN"
noncomputable def s284:Str:=s!"EXPLICIT"
noncomputable def s286:Str:=s!"MU_KERN"
noncomputable def s287:Str:=s!"PLAIN"
noncomputable def s288:Str:=s!"ALEADERS"
noncomputable def s290:Str:=s!"XLEADERS"
noncomputable def s292:Str:=s!"NONSCRIPT"
noncomputable def s293:Str:=s!"NAMED"
noncomputable def s298:Str:=s!"EJECT"
noncomputable def s299:Str:=s!"FORBID"
noncomputable def s300:Str:=s!"VERY_LOOSE"
noncomputable def s301:Str:=s!"LOOSE_FIT"
noncomputable def s302:Str:=s!"DECENT_FIT"
noncomputable def s303:Str:=s!"TIGHT_FIT"
noncomputable def s304:Str:=s!"PLAIN_BREAK"
noncomputable def s305:Str:=s!"HYPHEN_BREAK"
noncomputable def s306:Str:=s!"TOO_LONG"
noncomputable def s307:Str:=s!"WORST_LINE"
noncomputable def s308:Str:=s!"NO_SUMS"
noncomputable def KA(P:Params):Frag:=[
 (15,tu []),
 (17,tu [.str s0 190]),
 (18,tu []),
 (20,re "code" [.str s1 187,.str s1 188,.str s2 189,.int 1 0,.int 1 0,.int 0 0,.int 0 0,.int 3 0,.ref 15,.bool true,.int 181 0,.ref 16,.none,.ref 17,.ref 18,.ref 19,.int 191 0,.int 1 0,.str s2 192]),
 (21,fo (aR 0) s1 (.none) (.str s3 164) (.ref 20)),
 (22,tu [.type "ValueError"]),
 (29,tu [.str s4 208]),
 (30,tu []),
 (32,tu [.str s5 212,.str s6 213]),
 (33,tu []),
 (35,re "code" [.str s7 209,.str s8 210,.str s2 211,.int 7 0,.int 2 0,.int 0 0,.int 0 0,.int 3 0,.ref 30,.bool true,.int 181 0,.ref 31,.none,.ref 32,.ref 33,.ref 34,.int 214 0,.int 7 0,.str s2 215]),
 (36,fo (cq 2 0) s8 (.ref 29) (.str s9 194) (.ref 35)),
 (37,tu [.str s6 217]),
 (38,di P [(oE,203,.str s9 194),(oF,207,.int 5 206),(s7,216,.ref 36),(oG,218,.ref 37),(iB,220,.ref 40),(nX,221,.none)] 3),
 (39,cl s15 [.type "ValueError"] [.ref 39,.type "ValueError",.type "Exception",.type "BaseException",.type "object"] 38 [.ref 52,.ref 64,.ref 76] [some (.ref 22),none,some (.str s15 196),some (.str s15 204),some (.builtin "ValueError.__new__"),some (.bool true)]),
 (40,re "getset_descriptor" [.str iB 219,.ref 39,.builtin "ExceptionGroup.__weakref__",.none]),
 (43,tu [.ref 39]),
 (50,tu []),
 (51,di P [(oE,231,.str s9 194),(oF,235,.int 9 234),(oG,236,.ref 50),(nX,237,.none)] 2),
 (52,cl s16 [.ref 39] [.ref 52,.ref 39,.type "ValueError",.type "Exception",.type "BaseException",.type "object"] 51 [] [some (.ref 43),none,some (.str s16 224),some (.str s16 232),some (.builtin "ValueError.__new__"),some (.bool true)]),
 (55,tu [.ref 39]),
 (62,tu []),
 (63,di P [(oE,247,.str s9 194),(oF,251,.int 11 250),(oG,252,.ref 62),(nX,253,.none)] 2),
 (64,cl s17 [.ref 39] [.ref 64,.ref 39,.type "ValueError",.type "Exception",.type "BaseException",.type "object"] 63 [] [some (.ref 55),none,some (.str s17 240),some (.str s17 248),some (.builtin "ValueError.__new__"),some (.bool true)]),
 (67,tu [.ref 39]),
 (74,tu []),
 (75,di P [(oE,263,.str s9 194),(oF,267,.int 13 266),(oG,268,.ref 74),(nX,269,.none)] 2),
 (76,cl s18 [.ref 39] [.ref 76,.ref 39,.type "ValueError",.type "Exception",.type "BaseException",.type "object"] 75 [] [some (.ref 67),none,some (.str s18 256),some (.str s18 264),some (.builtin "ValueError.__new__"),some (.bool true)]),
 (83,tu []),
 (85,tu [.str qD 301,.str s20 302,.str s21 303]),
 (86,tu []),
 (88,re "code" [.str s22 298,.str s22 299,.str s2 300,.int 21 0,.int 3 0,.int 0 0,.int 0 0,.int 3 0,.ref 83,.bool true,.int 181 0,.ref 84,.none,.ref 85,.ref 86,.ref 87,.int 304 0,.int 21 0,.str s2 305]),
 (89,fo (aR 12) s22 (.none) (.str jX 272) (.ref 88)),
 (90,tu []),
 (92,tu [.str qD 310]),
 (93,tu []),
 (95,re "code" [.str s24 307,.str s24 308,.str s2 309,.int 23 0,.int 1 0,.int 0 0,.int 0 0,.int 3 0,.ref 90,.bool true,.int 181 0,.ref 91,.none,.ref 92,.ref 93,.ref 94,.int 311 0,.int 23 0,.str s2 312]),
 (96,fo (aR 13) s24 (.none) (.str jX 272) (.ref 95)),
 (97,tu []),
 (99,tu [.str qD 317]),
 (100,tu []),
 (102,re "code" [.str s25 314,.str s25 315,.str s2 316,.int 27 0,.int 1 0,.int 0 0,.int 0 0,.int 3 0,.ref 97,.bool true,.int 181 0,.ref 98,.none,.ref 99,.ref 100,.ref 101,.int 318 0,.int 27 0,.str s2 319]),
 (103,fo (aR 14) s25 (.none) (.str jX 272) (.ref 102)),
 (104,tu []),
 (106,tu [.str qD 324]),
 (107,tu []),
 (109,re "code" [.str s26 321,.str s26 322,.str s2 323,.int 31 0,.int 1 0,.int 0 0,.int 0 0,.int 3 0,.ref 104,.bool true,.int 181 0,.ref 105,.none,.ref 106,.ref 107,.ref 108,.int 325 0,.int 31 0,.str s2 326]),
 (110,fo (aR 15) s26 (.none) (.str jX 272) (.ref 109)),
 (111,tu []),
 (113,tu [.str Cm 331,.str s28 332]),
 (114,tu []),
 (116,re "code" [.str s29 328,.str s29 329,.str s2 330,.int 35 0,.int 2 0,.int 0 0,.int 0 0,.int 3 0,.ref 111,.bool true,.int 181 0,.ref 112,.none,.ref 113,.ref 114,.ref 115,.int 333 0,.int 35 0,.str s2 334]),
 (117,fo (aR 16) s29 (.none) (.str jX 272) (.ref 116)),
 (118,tu []),
 (120,tu [.str s30 339,.str s31 340]),
 (121,tu []),
 (123,re "code" [.str s32 336,.str s32 337,.str s2 338,.int 41 0,.int 2 0,.int 0 0,.int 0 0,.int 3 0,.ref 118,.bool true,.int 181 0,.ref 119,.none,.ref 120,.ref 121,.ref 122,.int 341 0,.int 41 0,.str s2 342]),
 (124,fo (aR 17) s32 (.none) (.str jX 272) (.ref 123)),
 (125,tu []),
 (127,tu [.str qD 347,.str s33 348,.str s!"points" 349,.str s35 350,.str s31 351,.str s!"near" 352,.str s37 353]),
 (128,tu []),
 (130,re "code" [.str s38 344,.str s38 345,.str s2 346,.int 43 0,.int 1 0,.int 0 0,.int 0 0,.int 3 0,.ref 125,.bool true,.int 181 0,.ref 126,.none,.ref 127,.ref 128,.ref 129,.int 354 0,.int 43 0,.str s2 355]),
 (131,fo (aR 18) s38 (.none) (.str jX 272) (.ref 130)),
 (132,tu []),
 (134,tu [.str s39 360,.str qD 361,.str s40 362]),
 (135,tu []),
 (137,re "code" [.str s41 357,.str s41 358,.str s2 359,.int 54 0,.int 3 0,.int 0 0,.int 0 0,.int 3 0,.ref 132,.bool true,.int 181 0,.ref 133,.none,.ref 134,.ref 135,.ref 136,.int 363 0,.int 54 0,.str s2 364]),
 (138,fo (aR 19) s41 (.none) (.str jX 272) (.ref 137)),
 (139,tu []),
 (141,tu [.str s42 370,.str s43 371,.str s44 372]),
 (142,tu []),
 (144,re "code" [.str s45 367,.str s45 368,.str s2 369,.int 57 0,.int 2 0,.int 0 0,.int 0 0,.int 3 0,.ref 139,.bool true,.int 181 0,.ref 140,.none,.ref 141,.ref 142,.ref 143,.int 373 0,.int 57 0,.str s2 374]),
 (145,fo (aR 21) s45 (.none) (.str jX 272) (.ref 144)),
 (146,tu []),
 (148,tu [.str yR 379]),
 (149,tu []),
 (151,re "code" [.str s47 376,.str s47 377,.str s2 378,.int 73 0,.int 1 0,.int 0 0,.int 0 0,.int 3 0,.ref 146,.bool true,.int 181 0,.ref 147,.none,.ref 148,.ref 149,.ref 150,.int 380 0,.int 73 0,.str s2 381]),
 (152,fo (aR 22) s47 (.none) (.str jX 272) (.ref 151)),
 (153,tu []),
 (155,tu [.str qD 386,.str yR 387,.str s48 388]),
 (156,tu []),
 (158,re "code" [.str s49 383,.str s49 384,.str s2 385,.int 75 0,.int 3 0,.int 0 0,.int 0 0,.int 3 0,.ref 153,.bool true,.int 181 0,.ref 154,.none,.ref 155,.ref 156,.ref 157,.int 389 0,.int 75 0,.str s2 390]),
 (159,fo (aR 23) s49 (.none) (.str jX 272) (.ref 158)),
 (167,tu [.int 0 404,.int 0 405,.int 0 406,.int 0 407,.int 0 408]),
 (168,tu []),
 (170,tu [.str s5 412,.str lX 413,.str Cn 414,.str s52 415,.str s53 416,.str s54 417]),
 (171,tu []),
 (173,re "code" [.str s7 409,.str s55 410,.str s2 411,.int 79 0,.int 6 0,.int 0 0,.int 0 0,.int 3 0,.ref 168,.bool true,.int 181 0,.ref 169,.none,.ref 170,.ref 171,.ref 172,.int 418 0,.int 79 0,.str s2 419]),
 (174,fo (cq 24 0) s55 (.ref 167) (.str jX 272) (.ref 173)),
 (175,tu []),
 (177,tu [.str s5 424]),
 (178,tu []),
 (180,re "code" [.str s56 421,.str s57 422,.str s2 423,.int 88 0,.int 1 0,.int 0 0,.int 0 0,.int 3 0,.ref 175,.bool true,.int 181 0,.ref 176,.none,.ref 177,.ref 178,.ref 179,.int 425 0,.int 88 0,.str s2 426]),
 (181,fo (cq 24 1) s57 (.none) (.str jX 272) (.ref 180)),
 (182,tu []),
 (184,tu [.str s5 431,.str s58 432]),
 (185,tu []),
 (187,re "code" [.str s59 428,.str s60 429,.str s2 430,.int 91 0,.int 2 0,.int 0 0,.int 0 0,.int 3 0,.ref 182,.bool true,.int 181 0,.ref 183,.none,.ref 184,.ref 185,.ref 186,.int 433 0,.int 91 0,.str s2 434]),
 (188,fo (cq 24 2) s60 (.none) (.str jX 272) (.ref 187)),
 (189,tu []),
 (191,tu [.str s5 439,.str s58 440]),
 (192,tu []),
 (194,re "code" [.str s61 436,.str s62 437,.str s2 438,.int 94 0,.int 2 0,.int 0 0,.int 0 0,.int 3 0,.ref 189,.bool true,.int 181 0,.ref 190,.none,.ref 191,.ref 192,.ref 193,.int 441 0,.int 94 0,.str s2 442]),
 (195,fo (cq 24 3) s62 (.none) (.str jX 272) (.ref 194)),
 (196,tu []),
 (198,tu [.str s5 447,.str s39 448,.str Cn 449,.str s53 450]),
 (199,tu []),
 (201,re "code" [.str s41 444,.str s63 445,.str s2 446,.int 97 0,.int 2 0,.int 0 0,.int 0 0,.int 3 0,.ref 196,.bool true,.int 181 0,.ref 197,.none,.ref 198,.ref 199,.ref 200,.int 451 0,.int 97 0,.str s2 452]),
 (202,fo (cq 24 4) s63 (.none) (.str jX 272) (.ref 201)),
 (203,tu []),
 (205,tu [.str s5 457,.str s28 458]),
 (206,tu []),
 (208,re "code" [.str s64 454,.str s65 455,.str s2 456,.int 101 0,.int 2 0,.int 0 0,.int 0 0,.int 3 0,.ref 203,.bool true,.int 181 0,.ref 204,.none,.ref 205,.ref 206,.ref 207,.int 459 0,.int 101 0,.str s2 460]),
 (209,fo (cq 24 5) s65 (.none) (.str jX 272) (.ref 208)),
 (210,tu []),
 (212,tu [.str s5 465]),
 (213,tu []),
 (215,re "code" [.str s66 462,.str s67 463,.str s2 464,.int 104 0,.int 1 0,.int 0 0,.int 0 0,.int 3 0,.ref 210,.bool true,.int 181 0,.ref 211,.none,.ref 212,.ref 213,.ref 214,.int 466 0,.int 104 0,.str s2 467]),
 (216,fo (cq 24 6) s67 (.none) (.str jX 272) (.ref 215)),
 (217,tu [.str s!"pt" 469]),
 (218,tu []),
 (220,tu [.str s5 473,.str s48 474,.str nS 475]),
 (221,tu []),
 (223,re "code" [.str s70 470,.str s71 471,.str s2 472,.int 107 0,.int 2 0,.int 0 0,.int 0 0,.int 3 0,.ref 218,.bool true,.int 181 0,.ref 219,.none,.ref 220,.ref 221,.ref 222,.int 476 0,.int 107 0,.str s2 477]),
 (224,fo (cq 24 7) s71 (.ref 217) (.str jX 272) (.ref 223)),
 (225,tu [.str s53 479,.str s54 480,.str Cn 481,.str s52 482,.str lX 483]),
 (226,di P [(oE,399,.str jX 272),(oF,403,.int 77 402),(s7,420,.ref 174),(s56,427,.ref 181),(s59,435,.ref 188),(s61,443,.ref 195),(s41,453,.ref 202),(s64,461,.ref 209),(s66,468,.ref 216),(s70,478,.ref 224),(oG,484,.ref 225),(iO,486,.ref 228),(iB,488,.ref 229),(nX,489,.none)] 4),
 (227,cl s73 [.type "object"] [.ref 227,.type "object"] 226 [] [none,none,some (.str s73 392),some (.str s73 400),some (.builtin "object.__new__"),some (.bool true)]),
 (228,re "getset_descriptor" [.str iO 485,.ref 227,.builtin "function.__dict__",.builtin "function.__dict__#set"]),
 (229,re "getset_descriptor" [.str iB 487,.ref 227,.builtin "ExceptionGroup.__weakref__",.none])]
noncomputable def KB(P:Params):Frag:=[
 (256,tu []),
 (258,tu [.str lL 563,.str qE 564]),
 (259,tu []),
 (261,re "code" [.str s76 560,.str s76 561,.str s2 562,.int 121 0,.int 1 0,.int 0 0,.int 0 0,.int 3 0,.ref 256,.bool true,.int 181 0,.ref 257,.none,.ref 258,.ref 259,.ref 260,.int 565 0,.int 121 0,.str s2 566]),
 (262,fo (aR 32) s76 (.none) (.str gP 492) (.ref 261)),
 (270,tu []),
 (272,tu [.str s5 583,.str qF 584,.str lX 585,.str s79 586,.str B5 587,.str lL 588]),
 (273,tu []),
 (275,re "code" [.str s7 580,.str s81 581,.str s2 582,.int 128 0,.int 6 0,.int 0 0,.int 0 0,.int 3 0,.ref 270,.bool true,.int 181 0,.ref 271,.none,.ref 272,.ref 273,.ref 274,.int 589 0,.int 128 0,.str s2 590]),
 (276,fo (cq 33 0) s81 (.none) (.str gP 492) (.ref 275)),
 (277,tu [.str B5 592,.str s79 593,.str lL 594,.str qF 595,.str yR 596,.str s44 597,.str s82 598,.str s33 599,.str lX 600]),
 (278,di P [(oE,575,.str gP 492),(oF,579,.int 126 578),(s7,591,.ref 276),(oG,601,.ref 277),(iO,603,.ref 280),(iB,605,.ref 281),(nX,606,.none)] 4),
 (279,cl s83 [.type "object"] [.ref 279,.type "object"] 278 [] [none,none,some (.str s83 568),some (.str s83 576),some (.builtin "object.__new__"),some (.bool true)]),
 (280,re "getset_descriptor" [.str iO 602,.ref 279,.builtin "function.__dict__",.builtin "function.__dict__#set"]),
 (281,re "getset_descriptor" [.str iB 604,.ref 279,.builtin "ExceptionGroup.__weakref__",.none]),
 (291,tu []),
 (293,tu [.str s5 625,.str lX 626,.str s79 627,.str B5 628,.str qG 629]),
 (294,tu []),
 (296,re "code" [.str s7 622,.str s85 623,.str s2 624,.int 143 0,.int 4 0,.int 0 0,.int 0 0,.int 3 0,.ref 291,.bool true,.int 181 0,.ref 292,.none,.ref 293,.ref 294,.ref 295,.int 630 0,.int 143 0,.str s2 631]),
 (297,fo (cq 34 1) s85 (.none) (.str gP 492) (.ref 296)),
 (298,tu [.str B5 633,.str s79 634,.str lX 635]),
 (299,di P [(oE,616,.str gP 492),(oF,620,.int 140 619),(qF,621,.int 4 498),(s7,632,.ref 297),(oG,636,.ref 298),(iO,638,.ref 301),(iB,640,.ref 302),(nX,641,.none)] 4),
 (300,cl s86 [.type "object"] [.ref 300,.type "object"] 299 [] [none,none,some (.str s86 609),some (.str s86 617),some (.builtin "object.__new__"),some (.bool true)]),
 (301,re "getset_descriptor" [.str iO 637,.ref 300,.builtin "function.__dict__",.builtin "function.__dict__#set"]),
 (302,re "getset_descriptor" [.str iB 639,.ref 300,.builtin "ExceptionGroup.__weakref__",.none]),
 (312,tu []),
 (314,tu [.str s5 660,.str lX 661,.str lM 662]),
 (315,tu []),
 (317,re "code" [.str s7 657,.str s88 658,.str s2 659,.int 153 0,.int 3 0,.int 0 0,.int 0 0,.int 3 0,.ref 312,.bool true,.int 181 0,.ref 313,.none,.ref 314,.ref 315,.ref 316,.int 663 0,.int 153 0,.str s2 664]),
 (318,fo (cq 35 1) s88 (.none) (.str gP 492) (.ref 317)),
 (319,tu [.str lM 666,.str lX 667]),
 (320,di P [(oE,651,.str gP 492),(oF,655,.int 150 654),(qF,656,.int 5 499),(s7,665,.ref 318),(oG,668,.ref 319),(iO,670,.ref 322),(iB,672,.ref 323),(nX,673,.none)] 4),
 (321,cl s89 [.type "object"] [.ref 321,.type "object"] 320 [] [none,none,some (.str s89 644),some (.str s89 652),some (.builtin "object.__new__"),some (.bool true)]),
 (322,re "getset_descriptor" [.str iO 669,.ref 321,.builtin "function.__dict__",.builtin "function.__dict__#set"]),
 (323,re "getset_descriptor" [.str iB 671,.ref 321,.builtin "ExceptionGroup.__weakref__",.none]),
 (333,tu [.none]),
 (334,tu []),
 (336,tu [.str s5 692,.str s90 693,.str lM 694,.str s91 695]),
 (337,tu []),
 (339,re "code" [.str s7 689,.str s92 690,.str s2 691,.int 161 0,.int 4 0,.int 0 0,.int 0 0,.int 3 0,.ref 334,.bool true,.int 181 0,.ref 335,.none,.ref 336,.ref 337,.ref 338,.int 696 0,.int 161 0,.str s2 697]),
 (340,fo (cq 36 1) s92 (.ref 333) (.str gP 492) (.ref 339)),
 (341,tu [.str s90 699,.str s91 700,.str lM 701]),
 (342,di P [(oE,683,.str gP 492),(oF,687,.int 158 686),(qF,688,.int 6 500),(s7,698,.ref 340),(oG,702,.ref 341),(iO,704,.ref 344),(iB,706,.ref 345),(nX,707,.none)] 4),
 (343,cl s93 [.type "object"] [.ref 343,.type "object"] 342 [] [none,none,some (.str s93 676),some (.str s93 684),some (.builtin "object.__new__"),some (.bool true)]),
 (344,re "getset_descriptor" [.str iO 703,.ref 343,.builtin "function.__dict__",.builtin "function.__dict__#set"]),
 (345,re "getset_descriptor" [.str iB 705,.ref 343,.builtin "ExceptionGroup.__weakref__",.none]),
 (355,tu []),
 (357,tu [.str s5 726,.str qD 727]),
 (358,tu []),
 (360,re "code" [.str s7 723,.str s94 724,.str s2 725,.int 174 0,.int 2 0,.int 0 0,.int 0 0,.int 3 0,.ref 355,.bool true,.int 181 0,.ref 356,.none,.ref 357,.ref 358,.ref 359,.int 728 0,.int 174 0,.str s2 729]),
 (361,fo (cq 37 1) s94 (.none) (.str gP 492) (.ref 360)),
 (362,tu [.str qD 731]),
 (363,di P [(oE,717,.str gP 492),(oF,721,.int 171 720),(qF,722,.int 7 501),(s7,730,.ref 361),(oG,732,.ref 362),(iO,734,.ref 365),(iB,736,.ref 366),(nX,737,.none)] 4),
 (364,cl s95 [.type "object"] [.ref 364,.type "object"] 363 [] [none,none,some (.str s95 710),some (.str s95 718),some (.builtin "object.__new__"),some (.bool true)]),
 (365,re "getset_descriptor" [.str iO 733,.ref 364,.builtin "function.__dict__",.builtin "function.__dict__#set"]),
 (366,re "getset_descriptor" [.str iB 735,.ref 364,.builtin "ExceptionGroup.__weakref__",.none]),
 (376,tu []),
 (378,tu [.str s5 756,.str s96 757,.str s97 758,.str s98 759]),
 (379,tu []),
 (381,re "code" [.str s7 753,.str s99 754,.str s2 755,.int 179 0,.int 4 0,.int 0 0,.int 0 0,.int 3 0,.ref 376,.bool true,.int 181 0,.ref 377,.none,.ref 378,.ref 379,.ref 380,.int 760 0,.int 179 0,.str s2 761]),
 (382,fo (cq 38 1) s99 (.none) (.str gP 492) (.ref 381)),
 (383,tu [.str s98 763,.str s97 764,.str s96 765]),
 (384,di P [(oE,747,.str gP 492),(oF,751,.int 176 750),(qF,752,.int 8 510),(s7,762,.ref 382),(oG,766,.ref 383),(iO,768,.ref 386),(iB,770,.ref 387),(nX,771,.none)] 4),
 (385,cl yS [.type "object"] [.ref 385,.type "object"] 384 [] [none,none,some (.str yS 740),some (.str yS 748),some (.builtin "object.__new__"),some (.bool true)]),
 (386,re "getset_descriptor" [.str iO 767,.ref 385,.builtin "function.__dict__",.builtin "function.__dict__#set"]),
 (387,re "getset_descriptor" [.str iB 769,.ref 385,.builtin "ExceptionGroup.__weakref__",.none]),
 (397,tu []),
 (399,tu [.str s5 790,.str Co 791]),
 (400,tu []),
 (402,re "code" [.str s7 787,.str s102 788,.str s2 789,.int 186 0,.int 2 0,.int 0 0,.int 0 0,.int 3 0,.ref 397,.bool true,.int 181 0,.ref 398,.none,.ref 399,.ref 400,.ref 401,.int 792 0,.int 186 0,.str s2 793]),
 (403,fo (cq 39 1) s102 (.none) (.str gP 492) (.ref 402)),
 (404,tu [.str Co 795]),
 (405,di P [(oE,781,.str gP 492),(oF,785,.int 183 784),(qF,786,.int 9 511),(s7,794,.ref 403),(oG,796,.ref 404),(iO,798,.ref 407),(iB,800,.ref 408),(nX,801,.none)] 4),
 (406,cl yT [.type "object"] [.ref 406,.type "object"] 405 [] [none,none,some (.str yT 774),some (.str yT 782),some (.builtin "object.__new__"),some (.bool true)]),
 (407,re "getset_descriptor" [.str iO 797,.ref 406,.builtin "function.__dict__",.builtin "function.__dict__#set"]),
 (408,re "getset_descriptor" [.str iB 799,.ref 406,.builtin "ExceptionGroup.__weakref__",.none]),
 (418,tu []),
 (420,tu [.str s5 820,.str Cm 821,.str qG 822,.str B5 823,.str Cp 824,.str sL 825,.str lL 826]),
 (421,tu []),
 (423,re "code" [.str s7 817,.str s106 818,.str s2 819,.int 191 0,.int 7 0,.int 0 0,.int 0 0,.int 3 0,.ref 418,.bool true,.int 181 0,.ref 419,.none,.ref 420,.ref 421,.ref 422,.int 827 0,.int 191 0,.str s2 828]),
 (424,fo (cq 40 1) s106 (.none) (.str gP 492) (.ref 423)),
 (425,tu [.str sL 830,.str B5 831,.str lL 832,.str Cm 833,.str qG 834,.str Cp 835]),
 (426,di P [(oE,811,.str gP 492),(oF,815,.int 188 814),(qF,816,.int 10 512),(s7,829,.ref 424),(oG,836,.ref 425),(iO,838,.ref 428),(iB,840,.ref 429),(nX,841,.none)] 4),
 (427,cl yU [.type "object"] [.ref 427,.type "object"] 426 [] [none,none,some (.str yU 804),some (.str yU 812),some (.builtin "object.__new__"),some (.bool true)]),
 (428,re "getset_descriptor" [.str iO 837,.ref 427,.builtin "function.__dict__",.builtin "function.__dict__#set"]),
 (429,re "getset_descriptor" [.str iB 839,.ref 427,.builtin "ExceptionGroup.__weakref__",.none]),
 (439,tu []),
 (441,tu [.str s5 860,.str lL 861]),
 (442,tu []),
 (444,re "code" [.str s7 857,.str s108 858,.str s2 859,.int 203 0,.int 2 0,.int 0 0,.int 0 0,.int 3 0,.ref 439,.bool true,.int 181 0,.ref 440,.none,.ref 441,.ref 442,.ref 443,.int 862 0,.int 203 0,.str s2 863]),
 (445,fo (cq 41 1) s108 (.none) (.str gP 492) (.ref 444)),
 (446,tu [.str lL 865]),
 (447,di P [(oE,851,.str gP 492),(oF,855,.int 200 854),(qF,856,.int 11 513),(s7,864,.ref 445),(oG,866,.ref 446),(iO,868,.ref 449),(iB,870,.ref 450),(nX,871,.none)] 4),
 (448,cl yV [.type "object"] [.ref 448,.type "object"] 447 [] [none,none,some (.str yV 844),some (.str yV 852),some (.builtin "object.__new__"),some (.bool true)]),
 (449,re "getset_descriptor" [.str iO 867,.ref 448,.builtin "function.__dict__",.builtin "function.__dict__#set"]),
 (450,re "getset_descriptor" [.str iB 869,.ref 448,.builtin "ExceptionGroup.__weakref__",.none]),
 (460,tu []),
 (462,tu [.str s5 890,.str Cq 891,.str lX 892]),
 (463,tu []),
 (465,re "code" [.str s7 887,.str s111 888,.str s2 889,.int 208 0,.int 3 0,.int 0 0,.int 0 0,.int 3 0,.ref 460,.bool true,.int 181 0,.ref 461,.none,.ref 462,.ref 463,.ref 464,.int 893 0,.int 208 0,.str s2 894]),
 (466,fo (cq 42 1) s111 (.none) (.str gP 492) (.ref 465)),
 (467,tu [.str Cq 896,.str lX 897]),
 (468,di P [(oE,881,.str gP 492),(oF,885,.int 205 884),(qF,886,.int 12 514),(s7,895,.ref 466),(oG,898,.ref 467),(iO,900,.ref 470),(iB,902,.ref 471),(nX,903,.none)] 4),
 (469,cl yW [.type "object"] [.ref 469,.type "object"] 468 [] [none,none,some (.str yW 874),some (.str yW 882),some (.builtin "object.__new__"),some (.bool true)]),
 (470,re "getset_descriptor" [.str iO 899,.ref 469,.builtin "function.__dict__",.builtin "function.__dict__#set"]),
 (471,re "getset_descriptor" [.str iB 901,.ref 469,.builtin "ExceptionGroup.__weakref__",.none]),
 (481,tu []),
 (483,tu [.str s5 923,.str Cr 924,.str s114 925]),
 (484,tu []),
 (486,re "code" [.str s7 920,.str s115 921,.str s2 922,.int 215 0,.int 2 0,.int 0 0,.int 0 0,.int 3 0,.ref 481,.bool true,.int 181 0,.ref 482,.none,.ref 483,.ref 484,.ref 485,.int 926 0,.int 215 0,.str s2 927]),
 (487,fo (cq 43 2) s115 (.none) (.str gP 492) (.ref 486)),
 (488,tu [.str Cr 929]),
 (489,di P [(oE,913,.str gP 492),(oF,917,.int 211 916),(qF,918,.int 13 515),(lM,919,.int 0 552),(s7,928,.ref 487),(oG,930,.ref 488),(iO,932,.ref 491),(iB,934,.ref 492),(nX,935,.none)] 4),
 (490,cl yX [.type "object"] [.ref 490,.type "object"] 489 [] [none,none,some (.str yX 906),some (.str yX 914),some (.builtin "object.__new__"),some (.bool true)]),
 (491,re "getset_descriptor" [.str iO 931,.ref 490,.builtin "function.__dict__",.builtin "function.__dict__#set"]),
 (492,re "getset_descriptor" [.str iB 933,.ref 490,.builtin "ExceptionGroup.__weakref__",.none]),
 (495,tu []),
 (498,re "code" [.str vX 938,.str vX 939,.str s2 940,.int 222 0,.int 1 0,.int 0 0,.int 0 0,.int 3 0,.ref 495,.bool true,.int 181 0,.ref 496,.none,.none,.none,.ref 497,.int 941 0,.int 222 0,.str s2 942]),
 (499,fo (aR 44) vX (.none) (.str gP 492) (.ref 498))]
noncomputable def KC(P:Params):Frag:=[
 ]
noncomputable def KD(P:Params):Frag:=[
 (512,tu [.int 0 968,.int 0 969,.int 0 970,.int 0 971,.int 0 972,.int 0 973]),
 (520,tu []),
 (521,tu [.int 0 987,.int 1 988,.ref 520,.int 0 989]),
 (522,tu []),
 (525,re "code" [.str s7 990,.str s118 991,.str s2 992,.int 244 0,.int 6 0,.int 0 0,.int 0 0,.int 3 0,.ref 522,.bool true,.int 181 0,.ref 523,.none,.none,.none,.ref 524,.int 993 0,.int 244 0,.str s2 994]),
 (526,fo (cq 52 0) s118 (.ref 521) (.str bK 944) (.ref 525)),
 (527,tu []),
 (529,tu [.str s5 999]),
 (530,tu []),
 (532,re "code" [.str s120 996,.str s121 997,.str s2 998,.int 254 0,.int 1 0,.int 0 0,.int 0 0,.int 3 0,.ref 527,.bool true,.int 181 0,.ref 528,.none,.ref 529,.ref 530,.ref 531,.int 1000 0,.int 254 0,.str s2 1001]),
 (533,fo (cq 52 1) s121 (.none) (.str bK 944) (.ref 532)),
 (534,tu []),
 (536,tu [.str s5 1006,.str Cm 1007,.str s122 1008]),
 (537,tu []),
 (539,re "code" [.str qH 1003,.str s124 1004,.str s2 1005,.int 259 0,.int 2 0,.int 0 0,.int 0 0,.int 3 0,.ref 534,.bool true,.int 181 0,.ref 535,.none,.ref 536,.ref 537,.ref 538,.int 1009 0,.int 259 0,.str s2 1010]),
 (540,fo (cq 52 2) s124 (.none) (.str bK 944) (.ref 539)),
 (541,tu [.str yY 1012,.str s126 1013,.str s127 1014,.str s128 1015,.str s129 1016,.str lX 1017]),
 (542,di P [(oE,982,.str bK 944),(oF,986,.int 242 985),(s7,995,.ref 526),(s120,1002,.ref 533),(qH,1011,.ref 540),(oG,1018,.ref 541),(iO,1020,.ref 544),(iB,1022,.ref 545),(nX,1023,.none)] 4),
 (543,cl yZ [.type "object"] [.ref 543,.type "object"] 542 [] [none,none,some (.str yZ 975),some (.str yZ 983),some (.builtin "object.__new__"),some (.bool true)]),
 (544,re "getset_descriptor" [.str iO 1019,.ref 543,.builtin "function.__dict__",.builtin "function.__dict__#set"]),
 (545,re "getset_descriptor" [.str iB 1021,.ref 543,.builtin "ExceptionGroup.__weakref__",.none]),
 (555,tu []),
 (557,tu [.str s5 1041]),
 (558,tu []),
 (560,re "code" [.str s7 1038,.str s131 1039,.str s2 1040,.int 270 0,.int 1 0,.int 0 0,.int 0 0,.int 3 0,.ref 555,.bool true,.int 181 0,.ref 556,.none,.ref 557,.ref 558,.ref 559,.int 1042 0,.int 270 0,.str s2 1043]),
 (561,fo (cq 53 0) s131 (.none) (.str bK 944) (.ref 560)),
 (562,tu [.str s132 1045,.str s133 1046,.str s134 1047,.str s135 1048,.str s136 1049,.str s137 1050,.str s138 1051,.str s139 1052,.str Cs 1053,.str s141 1054,.str s142 1055,.str Cu 1056]),
 (563,di P [(oE,1033,.str bK 944),(oF,1037,.int 268 1036),(s7,1044,.ref 561),(oG,1057,.ref 562),(iO,1059,.ref 565),(iB,1061,.ref 566),(nX,1062,.none)] 4),
 (564,cl za [.type "object"] [.ref 564,.type "object"] 563 [] [none,none,some (.str za 1026),some (.str za 1034),some (.builtin "object.__new__"),some (.bool true)]),
 (565,re "getset_descriptor" [.str iO 1058,.ref 564,.builtin "function.__dict__",.builtin "function.__dict__#set"]),
 (566,re "getset_descriptor" [.str iB 1060,.ref 564,.builtin "ExceptionGroup.__weakref__",.none]),
 (576,tu []),
 (578,tu [.str s5 1080,.str qI 1081,.str qH 1082,.str vY 1083,.str vZ 1084,.str Cv 1085]),
 (579,tu []),
 (581,re "code" [.str s7 1077,.str s149 1078,.str s2 1079,.int 285 0,.int 6 0,.int 0 0,.int 0 0,.int 3 0,.ref 576,.bool true,.int 181 0,.ref 577,.none,.ref 578,.ref 579,.ref 580,.int 1086 0,.int 285 0,.str s2 1087]),
 (582,fo (cq 54 0) s149 (.none) (.str bK 944) (.ref 581)),
 (583,tu [.str Cv 1089,.str vZ 1090,.str vY 1091,.str qH 1092,.str qI 1093]),
 (584,di P [(oE,1072,.str bK 944),(oF,1076,.int 283 1075),(s7,1088,.ref 582),(oG,1094,.ref 583),(iO,1096,.ref 586),(iB,1098,.ref 587),(nX,1099,.none)] 4),
 (585,cl zb [.type "object"] [.ref 585,.type "object"] 584 [] [none,none,some (.str zb 1065),some (.str zb 1073),some (.builtin "object.__new__"),some (.bool true)]),
 (586,re "getset_descriptor" [.str iO 1095,.ref 585,.builtin "function.__dict__",.builtin "function.__dict__#set"]),
 (587,re "getset_descriptor" [.str iB 1097,.ref 585,.builtin "ExceptionGroup.__weakref__",.none]),
 (597,tu []),
 (599,tu [.str s5 1117,.str d8 1118,.str nY 1119,.str Cw 1120,.str sM 1121,.str lY 1122]),
 (600,tu []),
 (602,re "code" [.str s7 1114,.str s156 1115,.str s2 1116,.int 293 0,.int 6 0,.int 0 0,.int 0 0,.int 3 0,.ref 597,.bool true,.int 181 0,.ref 598,.none,.ref 599,.ref 600,.ref 601,.int 1123 0,.int 293 0,.str s2 1124]),
 (603,fo (cq 55 0) s156 (.none) (.str bK 944) (.ref 602)),
 (604,tu [.str nZ 1126,.str sM 1127,.str lY 1128,.str Cw 1129,.str d8 1130,.str nY 1131]),
 (605,di P [(oE,1109,.str bK 944),(oF,1113,.int 291 1112),(s7,1125,.ref 603),(oG,1132,.ref 604),(iO,1134,.ref 607),(iB,1136,.ref 608),(nX,1137,.none)] 4),
 (606,cl zc [.type "object"] [.ref 606,.type "object"] 605 [] [none,none,some (.str zc 1102),some (.str zc 1110),some (.builtin "object.__new__"),some (.bool true)]),
 (607,re "getset_descriptor" [.str iO 1133,.ref 606,.builtin "function.__dict__",.builtin "function.__dict__#set"]),
 (608,re "getset_descriptor" [.str iB 1135,.ref 606,.builtin "ExceptionGroup.__weakref__",.none]),
 (611,tu []),
 (613,tu [.str d8 1143,.str qD 1144]),
 (614,tu []),
 (616,re "code" [.str wa 1140,.str wa 1141,.str s2 1142,.int 300 0,.int 1 0,.int 0 0,.int 0 0,.int 3 0,.ref 611,.bool true,.int 181 0,.ref 612,.none,.ref 613,.ref 614,.ref 615,.int 1145 0,.int 300 0,.str s2 1146]),
 (617,fo (aR 56) wa (.none) (.str bK 944) (.ref 616)),
 (618,tu []),
 (620,tu [.str qE 1151]),
 (621,tu []),
 (623,re "code" [.str wc 1148,.str wc 1149,.str s2 1150,.int 304 0,.int 1 0,.int 0 0,.int 0 0,.int 3 0,.ref 618,.bool true,.int 181 0,.ref 619,.none,.ref 620,.ref 621,.ref 622,.int 1152 0,.int 304 0,.str s2 1153]),
 (624,fo (aR 57) wc (.none) (.str bK 944) (.ref 623)),
 (625,tu []),
 (627,tu [.str lL 1158,.str d8 1159,.str nS 1160,.str s161 1161,.str s162 1162,.str pC 1163,.str qE 1164,.str qF 1165,.str qJ 1166,.str lM 1167]),
 (628,tu []),
 (630,re "code" [.str wd 1155,.str wd 1156,.str s2 1157,.int 306 0,.int 2 0,.int 0 0,.int 0 0,.int 3 0,.ref 625,.bool true,.int 181 0,.ref 626,.none,.ref 627,.ref 628,.ref 629,.int 1168 0,.int 306 0,.str s2 1169]),
 (631,fo (aR 58) wd (.none) (.str bK 944) (.ref 630)),
 (632,tu []),
 (634,tu [.str lL 1174,.str pC 1175]),
 (635,tu []),
 (637,re "code" [.str we 1171,.str we 1172,.str s2 1173,.int 330 0,.int 2 0,.int 0 0,.int 0 0,.int 3 0,.ref 632,.bool true,.int 181 0,.ref 633,.none,.ref 634,.ref 635,.ref 636,.int 1176 0,.int 330 0,.str s2 1177]),
 (638,fo (aR 59) we (.none) (.str bK 944) (.ref 637)),
 (639,tu []),
 (641,tu [.str wg 1182,.str s90 1183]),
 (642,tu []),
 (644,re "code" [.str wh 1179,.str wh 1180,.str s2 1181,.int 338 0,.int 2 0,.int 0 0,.int 0 0,.int 3 0,.ref 639,.bool true,.int 181 0,.ref 640,.none,.ref 641,.ref 642,.ref 643,.int 1184 0,.int 338 0,.str s2 1185]),
 (645,fo (aR 60) wh (.none) (.str bK 944) (.ref 644)),
 (646,tu []),
 (648,tu [.str lL 1190,.str nS 1191,.str qE 1192]),
 (649,tu []),
 (651,re "code" [.str sN 1187,.str sN 1188,.str s2 1189,.int 344 0,.int 1 0,.int 0 0,.int 0 0,.int 3 0,.ref 646,.bool true,.int 181 0,.ref 647,.none,.ref 648,.ref 649,.ref 650,.int 1193 0,.int 344 0,.str s2 1194]),
 (652,fo (aR 61) sN (.none) (.str bK 944) (.ref 651)),
 (653,tu []),
 (655,tu [.str lL 1199,.str wg 1200,.str nS 1201,.str qE 1202]),
 (656,tu []),
 (658,re "code" [.str wj 1196,.str wj 1197,.str s2 1198,.int 349 0,.int 1 0,.int 0 0,.int 0 0,.int 3 0,.ref 653,.bool true,.int 181 0,.ref 654,.none,.ref 655,.ref 656,.ref 657,.int 1203 0,.int 349 0,.str s2 1204]),
 (659,fo (aR 62) wj (.none) (.str bK 944) (.ref 658)),
 (660,tu []),
 (662,tu [.str qK 1209,.str s40 1210]),
 (663,tu []),
 (665,re "code" [.str wk 1206,.str wk 1207,.str s2 1208,.int 361 0,.int 2 0,.int 0 0,.int 0 0,.int 3 0,.ref 660,.bool true,.int 181 0,.ref 661,.none,.ref 662,.ref 663,.ref 664,.int 1211 0,.int 361 0,.str s2 1212]),
 (666,fo (aR 63) wk (.none) (.str bK 944) (.ref 665)),
 (667,tu []),
 (669,tu [.str lL 1217,.str d8 1218,.str qK 1219,.str nS 1220,.str pC 1221,.str qJ 1222,.str lM 1223,.str s173 1224,.str s174 1225,.str sO 1226]),
 (670,tu []),
 (672,re "code" [.str wm 1214,.str wm 1215,.str s2 1216,.int 363 0,.int 2 0,.int 0 0,.int 0 0,.int 3 0,.ref 667,.bool true,.int 181 0,.ref 668,.none,.ref 669,.ref 670,.ref 671,.int 1227 0,.int 363 0,.str s2 1228]),
 (673,fo (aR 64) wm (.none) (.str bK 944) (.ref 672)),
 (674,tu []),
 (676,tu [.str d8 1233,.str Cy 1234,.str wg 1235]),
 (677,tu []),
 (679,re "code" [.str wo 1230,.str wo 1231,.str s2 1232,.int 374 0,.int 2 0,.int 0 0,.int 0 0,.int 3 0,.ref 674,.bool true,.int 181 0,.ref 675,.none,.ref 676,.ref 677,.ref 678,.int 1236 0,.int 374 0,.str s2 1237]),
 (680,fo (aR 65) wo (.none) (.str bK 944) (.ref 679)),
 (681,tu []),
 (684,re "code" [.str wq 1239,.str wq 1240,.str s2 1241,.int 380 0,.int 3 0,.int 0 0,.int 0 0,.int 3 0,.ref 681,.bool true,.int 181 0,.ref 682,.none,.none,.none,.ref 683,.int 1242 0,.int 380 0,.str s2 1243]),
 (685,fo (aR 66) wq (.none) (.str bK 944) (.ref 684)),
 (686,tu []),
 (688,tu [.str lX 1248,.str qK 1249,.str s180 1250,.str wt 1251]),
 (689,tu []),
 (691,re "code" [.str wu 1245,.str wu 1246,.str s2 1247,.int 382 0,.int 2 0,.int 0 0,.int 0 0,.int 3 0,.ref 686,.bool true,.int 181 0,.ref 687,.none,.ref 688,.ref 689,.ref 690,.int 1252 0,.int 382 0,.str s2 1253]),
 (692,fo (aR 67) wu (.none) (.str bK 944) (.ref 691)),
 (693,tu []),
 (695,tu [.str d8 1258,.str wt 1259,.str qJ 1260,.str sL 1261,.str nS 1262]),
 (696,tu []),
 (698,re "code" [.str wx 1255,.str wx 1256,.str s2 1257,.int 395 0,.int 3 0,.int 0 0,.int 0 0,.int 3 0,.ref 693,.bool true,.int 181 0,.ref 694,.none,.ref 695,.ref 696,.ref 697,.int 1263 0,.int 395 0,.str s2 1264]),
 (699,fo (aR 68) wx (.none) (.str bK 944) (.ref 698)),
 (700,tu []),
 (702,tu [.str d8 1269,.str Cz 1270,.str CA 1271,.str nZ 1272,.str nS 1273]),
 (703,tu []),
 (705,re "code" [.str wy 1266,.str wy 1267,.str s2 1268,.int 403 0,.int 4 0,.int 0 0,.int 0 0,.int 3 0,.ref 700,.bool true,.int 181 0,.ref 701,.none,.ref 702,.ref 703,.ref 704,.int 1274 0,.int 403 0,.str s2 1275]),
 (706,fo (aR 69) wy (.none) (.str bK 944) (.ref 705)),
 (707,tu []),
 (709,tu [.str CB 1280,.str qI 1281,.str CC 1282,.str CA 1283,.str pC 1284,.str qJ 1285,.str lM 1286,.str sO 1287,.str d8 1288,.str s189 1289,.str CD 1290,.str s191 1291,.str Cm 1292,.str wz 1293,.str qH 1294,.str qK 1295,.str wt 1296,.str vY 1297,.str s193 1298,.str vZ 1299,.str Cz 1300,.str s194 1301,.str s195 1302]),
 (710,tu []),
 (712,re "code" [.str wA 1277,.str wA 1278,.str s2 1279,.int 410 0,.int 4 0,.int 0 0,.int 0 0,.int 3 0,.ref 707,.bool true,.int 181 0,.ref 708,.none,.ref 709,.ref 710,.ref 711,.int 1303 0,.int 410 0,.str s2 1304]),
 (713,fo (aR 70) wA (.none) (.str bK 944) (.ref 712)),
 (714,tu []),
 (716,tu [.str s197 1309,.str Cs 1310,.str CD 1311,.str wz 1312,.str nS 1313,.str nZ 1314,.str s198 1315,.str s199 1316]),
 (717,tu []),
 (719,re "code" [.str wB 1306,.str wB 1307,.str s2 1308,.int 439 0,.int 2 0,.int 0 0,.int 0 0,.int 3 0,.ref 714,.bool true,.int 181 0,.ref 715,.none,.ref 716,.ref 717,.ref 718,.int 1317 0,.int 439 0,.str s2 1318]),
 (720,fo (aR 71) wB (.none) (.str bK 944) (.ref 719)),
 (721,tu []),
 (723,tu [.str wz 1323,.str nS 1324]),
 (724,tu []),
 (726,re "code" [.str wC 1320,.str wC 1321,.str s2 1322,.int 452 0,.int 1 0,.int 0 0,.int 0 0,.int 3 0,.ref 721,.bool true,.int 181 0,.ref 722,.none,.ref 723,.ref 724,.ref 725,.int 1325 0,.int 452 0,.str s2 1326]),
 (727,fo (aR 72) wC (.none) (.str bK 944) (.ref 726)),
 (728,tu []),
 (730,tu [.str lL 1331,.str d8 1332,.str nY 1333,.str Cu 1334,.str Cy 1335,.str lY 1336,.str sM 1337,.str CB 1338,.str CC 1339,.str qI 1340,.str nS 1341,.str nZ 1342]),
 (731,tu []),
 (733,re "code" [.str wD 1328,.str wD 1329,.str s2 1330,.int 458 0,.int 6 0,.int 0 0,.int 0 0,.int 3 0,.ref 728,.bool true,.int 181 0,.ref 729,.none,.ref 730,.ref 731,.ref 732,.int 1343 0,.int 458 0,.str s2 1344]),
 (734,fo (aR 73) wD (.none) (.str bK 944) (.ref 733)),
 (735,tu []),
 (737,tu [.str CE 1351,.str s30 1352,.str s204 1353,.str s35 1354]),
 (738,tu []),
 (740,re "code" [.str wF 1348,.str wF 1349,.str s2 1350,.int 472 0,.int 1 0,.int 0 0,.int 0 0,.int 3 0,.ref 735,.bool true,.int 181 0,.ref 736,.none,.ref 737,.ref 738,.ref 739,.int 1355 0,.int 472 0,.str s2 1356]),
 (741,fo (aR 75) wF (.none) (.str dn 1346) (.ref 740)),
 (742,tu []),
 (744,tu [.str fq 1361,.str CF 1362,.str s209 1363]),
 (745,tu []),
 (747,re "code" [.str wG 1358,.str wG 1359,.str s2 1360,.int 480 0,.int 2 0,.int 0 0,.int 0 0,.int 3 0,.ref 742,.bool true,.int 181 0,.ref 743,.none,.ref 744,.ref 745,.ref 746,.int 1364 0,.int 480 0,.str s2 1365]),
 (748,fo (aR 76) wG (.none) (.str dn 1346) (.ref 747)),
 (749,tu []),
 (751,tu [.str fq 1370,.str nS 1371]),
 (752,tu []),
 (754,re "code" [.str wH 1367,.str wH 1368,.str s2 1369,.int 487 0,.int 1 0,.int 0 0,.int 0 0,.int 3 0,.ref 749,.bool true,.int 181 0,.ref 750,.none,.ref 751,.ref 752,.ref 753,.int 1372 0,.int 487 0,.str s2 1373]),
 (755,fo (aR 77) wH (.none) (.str dn 1346) (.ref 754)),
 (756,tu []),
 (758,tu [.str fq 1378,.str lM 1379,.str qG 1380,.str yY 1381,.str s212 1382,.str s213 1383]),
 (759,tu []),
 (761,re "code" [.str wJ 1375,.str wJ 1376,.str s2 1377,.int 499 0,.int 1 0,.int 0 0,.int 0 0,.int 3 0,.ref 756,.bool true,.int 181 0,.ref 757,.none,.ref 758,.ref 759,.ref 760,.int 1384 0,.int 499 0,.str s2 1385]),
 (762,fo (aR 78) wJ (.none) (.str dn 1346) (.ref 761)),
 (763,tu []),
 (765,tu [.str jk 1390,.str qE 1391,.str sP 1392,.str s217 1393]),
 (766,tu []),
 (768,re "code" [.str wK 1387,.str wK 1388,.str s2 1389,.int 507 0,.int 4 0,.int 0 0,.int 0 0,.int 3 0,.ref 763,.bool true,.int 181 0,.ref 764,.none,.ref 765,.ref 766,.ref 767,.int 1394 0,.int 507 0,.str s2 1395]),
 (769,fo (aR 79) wK (.none) (.str dn 1346) (.ref 768)),
 (770,tu []),
 (772,tu [.str fq 1400,.str qG 1401,.str s219 1402,.str nZ 1403]),
 (773,tu []),
 (775,re "code" [.str wM 1397,.str wM 1398,.str s2 1399,.int 511 0,.int 2 0,.int 0 0,.int 0 0,.int 3 0,.ref 770,.bool true,.int 181 0,.ref 771,.none,.ref 772,.ref 773,.ref 774,.int 1404 0,.int 511 0,.str s2 1405]),
 (776,fo (aR 80) wM (.none) (.str dn 1346) (.ref 775)),
 (777,tu []),
 (779,tu [.str fq 1410,.str lM 1411]),
 (780,tu []),
 (782,re "code" [.str wN 1407,.str wN 1408,.str s2 1409,.int 516 0,.int 1 0,.int 0 0,.int 0 0,.int 3 0,.ref 777,.bool true,.int 181 0,.ref 778,.none,.ref 779,.ref 780,.ref 781,.int 1412 0,.int 516 0,.str s2 1413]),
 (783,fo (aR 81) wN (.none) (.str dn 1346) (.ref 782)),
 (784,tu []),
 (786,tu [.str fq 1418,.str jk 1419,.str d8 1420,.str s222 1421,.str qG 1422,.str lM 1423,.str qE 1424,.str sP 1425,.str s223 1426]),
 (787,tu []),
 (789,re "code" [.str wO 1415,.str wO 1416,.str s2 1417,.int 523 0,.int 4 0,.int 0 0,.int 0 0,.int 3 0,.ref 784,.bool true,.int 181 0,.ref 785,.none,.ref 786,.ref 787,.ref 788,.int 1427 0,.int 523 0,.str s2 1428]),
 (790,fo (aR 82) wO (.none) (.str dn 1346) (.ref 789)),
 (791,tu []),
 (793,tu [.str fq 1433,.str jk 1434,.str s225 1435,.str s226 1436,.str qE 1437,.str lM 1438,.str qG 1439,.str Cn 1440,.str yR 1441,.str s53 1442,.str s54 1443,.str sP 1444,.str s227 1445,.str s228 1446]),
 (794,tu []),
 (796,re "code" [.str wQ 1430,.str wQ 1431,.str s2 1432,.int 544 0,.int 4 0,.int 0 0,.int 0 0,.int 3 0,.ref 791,.bool true,.int 181 0,.ref 792,.none,.ref 793,.ref 794,.ref 795,.int 1447 0,.int 544 0,.str s2 1448]),
 (797,fo (aR 83) wQ (.none) (.str dn 1346) (.ref 796)),
 (798,tu []),
 (800,tu [.str fq 1453,.str qG 1454,.str Cn 1455,.str yR 1456]),
 (801,tu []),
 (803,re "code" [.str wR 1450,.str wR 1451,.str s2 1452,.int 563 0,.int 1 0,.int 0 0,.int 0 0,.int 3 0,.ref 798,.bool true,.int 181 0,.ref 799,.none,.ref 800,.ref 801,.ref 802,.int 1457 0,.int 563 0,.str s2 1458]),
 (804,fo (aR 84) wR (.none) (.str dn 1346) (.ref 803)),
 (805,tu []),
 (807,tu [.str fq 1463,.str jk 1464,.str s231 1465,.str s40 1466]),
 (808,tu []),
 (810,re "code" [.str wU 1460,.str wU 1461,.str s2 1462,.int 566 0,.int 3 0,.int 0 0,.int 0 0,.int 3 0,.ref 805,.bool true,.int 181 0,.ref 806,.none,.ref 807,.ref 808,.ref 809,.int 1467 0,.int 566 0,.str s2 1468]),
 (811,fo (aR 85) wU (.none) (.str dn 1346) (.ref 810)),
 (812,tu []),
 (815,re "code" [.str wV 1470,.str wV 1471,.str s2 1472,.int 569 0,.int 3 0,.int 0 0,.int 0 0,.int 3 0,.ref 812,.bool true,.int 181 0,.ref 813,.none,.none,.none,.ref 814,.int 1473 0,.int 569 0,.str s2 1474]),
 (816,fo (aR 86) wV (.none) (.str dn 1346) (.ref 815)),
 (817,tu []),
 (819,tu [.str fq 1479,.str jk 1480,.str d8 1481,.str lM 1482]),
 (820,tu []),
 (822,re "code" [.str wW 1476,.str wW 1477,.str s2 1478,.int 576 0,.int 3 0,.int 0 0,.int 0 0,.int 3 0,.ref 817,.bool true,.int 181 0,.ref 818,.none,.ref 819,.ref 820,.ref 821,.int 1483 0,.int 576 0,.str s2 1484]),
 (823,fo (aR 87) wW (.none) (.str dn 1346) (.ref 822)),
 (824,tu []),
 (826,tu [.str s235 1489,.str s58 1490,.str s236 1491,.str s237 1492]),
 (827,tu []),
 (829,re "code" [.str wX 1486,.str wX 1487,.str s2 1488,.int 598 0,.int 2 0,.int 0 0,.int 0 0,.int 3 0,.ref 824,.bool true,.int 181 0,.ref 825,.none,.ref 826,.ref 827,.ref 828,.int 1493 0,.int 598 0,.str s2 1494]),
 (830,fo (aR 88) wX (.none) (.str dn 1346) (.ref 829)),
 (831,tu []),
 (833,tu [.str s239 1499,.str d8 1500,.str nY 1501,.str CG 1502,.str lY 1503,.str s241 1504,.str s242 1505]),
 (834,tu []),
 (836,re "code" [.str wY 1496,.str wY 1497,.str s2 1498,.int 605 0,.int 5 0,.int 0 0,.int 0 0,.int 3 0,.ref 831,.bool true,.int 181 0,.ref 832,.none,.ref 833,.ref 834,.ref 835,.int 1506 0,.int 605 0,.str s2 1507]),
 (837,fo (aR 89) wY (.none) (.str dn 1346) (.ref 836)),
 (838,tu []),
 (841,re "code" [.str wZ 1509,.str wZ 1510,.str s2 1511,.int 612 0,.int 4 0,.int 0 0,.int 0 0,.int 3 0,.ref 838,.bool true,.int 181 0,.ref 839,.none,.none,.none,.ref 840,.int 1512 0,.int 612 0,.str s2 1513]),
 (842,fo (aR 90) wZ (.none) (.str dn 1346) (.ref 841)),
 (843,tu []),
 (845,tu [.str CE 1518,.str fq 1519,.str CF 1520,.str d8 1521,.str nY 1522,.str CG 1523,.str jk 1524,.str sO 1525,.str s245 1526,.str lY 1527,.str s246 1528]),
 (846,tu []),
 (848,re "code" [.str zd 1515,.str zd 1516,.str s2 1517,.int 623 0,.int 1 0,.int 0 0,.int 0 0,.int 3 0,.ref 843,.bool true,.int 181 0,.ref 844,.none,.ref 845,.ref 846,.ref 847,.int 1529 0,.int 623 0,.str s2 1530]),
 (849,fo (aR 91) zd (.none) (.str dn 1346) (.ref 848))]
noncomputable def mainL:List (Str×Nat×Value):=[(nX,166,.none),
 (s!"__package__",167,.none),
 (s!"__loader__",168,.builtin "__main__.__loader__#opaque"),
 (s!"__spec__",169,.none),
 (s!"__annotations__",170,.ref 6),
 (s!"__builtins__",171,.ref 4),
 (s!"__file__",173,.str s2 172),
 (s!"__cached__",174,.none),
 (s1,193,.ref 21),
 (s15,223,.ref 39),
 (s16,239,.ref 52),
 (s17,255,.ref 64),
 (s18,271,.ref 76),
 (s!"UNITY",275,.int 65536 274),
 (s257,281,.int 1073741823 280),
 (s258,287,.int 2147483647 286),
 (s259,289,.int 10000 288),
 (s260,294,.int 0 290),
 (s!"FIL",295,.int 1 291),
 (s!"FILL",296,.int 2 292),
 (s263,297,.int 3 293),
 (s22,306,.ref 89),
 (s24,313,.ref 96),
 (s25,320,.ref 103),
 (s26,327,.ref 110),
 (s29,335,.ref 117),
 (s32,343,.ref 124),
 (s38,356,.ref 131),
 (s41,365,.ref 138),
 (s!"times_scaled",366,.ref 138),
 (s45,375,.ref 145),
 (s47,382,.ref 152),
 (s49,391,.ref 159),
 (s73,491,.ref 227),
 (s265,502,.int 0 494),
 (s266,503,.int 1 495),
 (s267,504,.int 2 496),
 (s268,505,.int 3 497),
 (s269,506,.int 4 498),
 (s270,507,.int 5 499),
 (s271,508,.int 6 500),
 (s272,509,.int 7 501),
 (s273,517,.int 8 510),
 (s!"MARK",518,.int 9 511),
 (s!"INSERT",519,.int 10 512),
 (s!"ADJUST",520,.int 11 513),
 (s277,521,.int 12 514),
 (s!"SPECIAL",522,.int 13 515),
 (s279,523,.int 14 516),
 (s280,527,.int 0 524),
 (s!"STRETCHED",528,.int 1 525),
 (s!"SHRUNK",529,.int 2 526),
 (s283,534,.int 0 530),
 (s284,535,.int 1 531),
 (s!"ACCENT_KERN",536,.int 2 532),
 (s286,537,.int 3 533),
 (s287,545,.int 0 538),
 (s288,546,.int 1 539),
 (s!"CLEADERS",547,.int 2 540),
 (s290,548,.int 3 541),
 (s!"MU_SKIP",549,.int 4 542),
 (s292,550,.int 5 543),
 (s293,551,.int 100 544),
 (s!"FOR_DEVICE",556,.int 0 552),
 (s!"WRITING",557,.int 1 553),
 (s!"OPENING",558,.int 2 554),
 (s!"CLOSING",559,.int 3 555),
 (s76,567,.ref 262),
 (s83,608,.ref 279),
 (s86,643,.ref 300),
 (s89,675,.ref 321),
 (s93,709,.ref 343),
 (s95,739,.ref 364),
 (yS,773,.ref 385),
 (yT,803,.ref 406),
 (yU,843,.ref 427),
 (yV,873,.ref 448),
 (yW,905,.ref 469),
 (yX,937,.ref 490),
 (vX,943,.ref 499),
 (s298,949,.int (-10000) 947),
 (s299,950,.int 10000 948),
 (s300,955,.int 0 951),
 (s301,956,.int 1 952),
 (s302,957,.int 2 953),
 (s303,958,.int 3 954),
 (s304,961,.int 0 959),
 (s305,962,.int 1 960),
 (s306,965,.int 10001 964),
 (s307,967,.int 100000000 966),
 (s308,974,.ref 512),
 (yZ,1025,.ref 543),
 (za,1064,.ref 564),
 (zb,1101,.ref 585),
 (zc,1139,.ref 606),
 (wa,1147,.ref 617),
 (wc,1154,.ref 624),
 (wd,1170,.ref 631),
 (we,1178,.ref 638),
 (wh,1186,.ref 645),
 (sN,1195,.ref 652),
 (wj,1205,.ref 659),
 (wk,1213,.ref 666),
 (wm,1229,.ref 673),
 (wo,1238,.ref 680),
 (wq,1244,.ref 685),
 (wu,1254,.ref 692),
 (wx,1265,.ref 699),
 (wy,1276,.ref 706),
 (wA,1305,.ref 713),
 (wB,1319,.ref 720),
 (wC,1327,.ref 727),
 (wD,1345,.ref 734),
 (wF,1357,.ref 741),
 (wG,1366,.ref 748),
 (wH,1374,.ref 755),
 (wJ,1386,.ref 762),
 (wK,1396,.ref 769),
 (wM,1406,.ref 776),
 (wN,1414,.ref 783),
 (wO,1429,.ref 790),
 (wQ,1449,.ref 797),
 (wR,1459,.ref 804),
 (wU,1469,.ref 811),
 (wV,1475,.ref 816),
 (wW,1485,.ref 823),
 (wX,1495,.ref 830),
 (wY,1508,.ref 837),
 (wZ,1514,.ref 842),
 (zd,1531,.ref 849)]
noncomputable def pD(P:Params)(k:Nat)(v:Value):Obj:=di P ((s!"__name__",165,v)::mainL.take k) (k+1)
noncomputable def mainB(P:Params):Obj:=pD P 67 (.str gP 492)
noncomputable def mainC(P:Params):Obj:=pD P 80 (.str bK 944)
noncomputable def mainD(P:Params):Obj:=pD P 88 (.str bK 944)
noncomputable def oH(P:Params):Obj:=pD P 130 (.str dn 1346)
noncomputable def codesL:List Value:=[.int 1 0,.int 0 0,.ref 20,.int 5 0,.int 0 0,.ref 27,.int 9 0,.int 0 0,.ref 48,.int 11 0,.int 0 0,.ref 60,.int 13 0,.int 0 0,.ref 72,.int 21 0,.int 0 0,.ref 88,.int 23 0,.int 0 0,.ref 95,.int 27 0,.int 0 0,.ref 102,.int 31 0,.int 0 0,.ref 109,.int 35 0,.int 0 0,.ref 116,.int 41 0,.int 0 0,.ref 123,.int 43 0,.int 0 0,.ref 130,.int 54 0,.int 0 0,.ref 137,.int 57 0,.int 0 0,.ref 144,.int 73 0,.int 0 0,.ref 151,.int 75 0,.int 0 0,.ref 158,.int 77 0,.int 0 0,.ref 165,.int 121 0,.int 0 0,.ref 261,.int 126 0,.int 0 0,.ref 268,.int 140 0,.int 0 0,.ref 289,.int 150 0,.int 0 0,.ref 310,.int 158 0,.int 0 0,.ref 331,.int 171 0,.int 0 0,.ref 353,.int 176 0,.int 0 0,.ref 374,.int 183 0,.int 0 0,.ref 395,.int 188 0,.int 0 0,.ref 416,.int 200 0,.int 0 0,.ref 437,.int 205 0,.int 0 0,.ref 458,.int 211 0,.int 0 0,.ref 479,.int 222 0,.int 0 0,.ref 498,.int 242 0,.int 0 0,.ref 518,.int 268 0,.int 0 0,.ref 553,.int 283 0,.int 0 0,.ref 574,.int 291 0,.int 0 0,.ref 595,.int 300 0,.int 0 0,.ref 616,.int 304 0,.int 0 0,.ref 623,.int 306 0,.int 0 0,.ref 630,.int 330 0,.int 0 0,.ref 637,.int 338 0,.int 0 0,.ref 644,.int 344 0,.int 0 0,.ref 651,.int 349 0,.int 0 0,.ref 658,.int 361 0,.int 0 0,.ref 665,.int 363 0,.int 0 0,.ref 672,.int 374 0,.int 0 0,.ref 679,.int 380 0,.int 0 0,.ref 684,.int 382 0,.int 0 0,.ref 691,.int 395 0,.int 0 0,.ref 698,.int 403 0,.int 0 0,.ref 705,.int 410 0,.int 0 0,.ref 712,.int 439 0,.int 0 0,.ref 719,.int 452 0,.int 0 0,.ref 726,.int 458 0,.int 0 0,.ref 733,.int 472 0,.int 0 0,.ref 740,.int 480 0,.int 0 0,.ref 747,.int 487 0,.int 0 0,.ref 754,.int 499 0,.int 0 0,.ref 761,.int 507 0,.int 0 0,.ref 768,.int 511 0,.int 0 0,.ref 775,.int 516 0,.int 0 0,.ref 782,.int 523 0,.int 0 0,.ref 789,.int 544 0,.int 0 0,.ref 796,.int 563 0,.int 0 0,.ref 803,.int 566 0,.int 0 0,.ref 810,.int 569 0,.int 0 0,.ref 815,.int 576 0,.int 0 0,.ref 822,.int 598 0,.int 0 0,.ref 829,.int 605 0,.int 0 0,.ref 836,.int 612 0,.int 0 0,.ref 841,.int 623 0,.int 0 0,.ref 848]
noncomputable def cR(k:Nat):Obj:={cls:=.none,data:=.fields ⟨codesL.take k⟩}
noncomputable def o13:Obj:=re "code" [.str (Str.ofString "<module>") 182,.str (Str.ofString "<module>") 183,.str (Str.ofString "/claim/cut.py") 184,.int 1 0,.int 0 0,.int 0 0,.int 0 0,
     .int 0 0,.ref 11,.bool false,.int 181 0,.ref 12,.none,.none,.none,.none,.int 185 0,.int 1 0,.str (Str.ofString "/claim/cut.py") 186]
noncomputable def o14:Obj:={cls:=.type "frame",slots:= #[some (.ref 13),some (.ref 3),some (.ref 3),none,some (.str (Str.ofString "__main__") 164),none,some (.ref 0)]}
noncomputable def ze(P:Params)(o3 o12:Obj):List Obj:=[boot_o_0 P,boot_o_1 P,boot_o_2 P,o3,boot_o_4 P,boot_o_5 P,boot_o_6 P,boot_o_7 P,boot_o_8 P,boot_o_9 P,boot_o_10 P,tu [],o12,o13,o14]
noncomputable def CH(P:Params)(o3 o12:Obj)(f:Nat→Obj)(i:Nat):Obj:=bif Nat.blt i 15 then((ze P o3 o12)[i]?).getD default else f i
noncomputable def bt(g:Nat→Obj)(n:Nat):Nat→Nat→Nat→BT
 |0,_,_=>.nil
 |k+1,a,b=>bif Nat.blt b n then .node (g b) (bt g n k (2 * a) (a+b)) (bt g n k (2 * a) (2 * a+b)) else .nil
noncomputable def lZ(P:Params)(o3 o12:Obj)(f:Nat→Obj)(n toks:Nat)(os:OsState):SharedT:=⟨bt (CH P o3 o12 f) n 10 1 0,n,{},#[],{},toks,os⟩
noncomputable def p0:Pos:=⟨0,0,0,0⟩
noncomputable def zf:Env:={scope:=pw.main.scope,locals:=mainNs,globals:=mainNs,cells:=[],code:=.ref 13,frame:=some 14}
noncomputable def c0:Code:=.body (behindTheImports pw) zf
noncomputable def B0:List Frame:=[topFrame p0]
noncomputable def pE:Option Value:=some (.ref 6)
noncomputable def row:String:="special-get-raises"
noncomputable def l5(a k:Nat):List Stmt:=((behindTheImports pw).drop a).take k
noncomputable def kept(n:Nat):List Nat:=(List.range n).filter fun i=> !(i == 3) && !(i == 12)
noncomputable def runOf(w:World)(s:SharedT)(a k:Nat)(p:Pos):Option (Flow×SharedT×Code×Pos):=
 Fast.tw10110043849684766642 Fast.tw14364793385576792824 pw w 11 pE 1 3000 s (piecesOf (l5 a k) zf c0 p B0)
noncomputable abbrev Obs(β:Type):=Code×Pos×Nat×Life×Array GenState×Drawn×Nat×OsState×List (Option Obj)×List (Option Obj)×Option Obj×Option Obj×Bool×β
noncomputable def obsOf{β:Type}(ks ks':List Nat)(n:Nat)(ex:SharedT→β):Option (Flow×SharedT×Code×Pos)→Option (Obs β)
 |some (.next,s,c,p)=>some (c,p,s.n,s.life,s.gens,s.drawn,s.toks,s.os,ks.map s.tree.get,ks'.map s.tree.get,s.tree.get 3,s.tree.get 12,(List.range n).all (fun i=>(s.tree.get i).isSome),ex s)
 |_=>none
noncomputable def Part{β:Type}(a k:Nat)(p p':Pos)(n n' t t':Nat)(m m':Params→Obj)(cd cd':Obj)(K:Params→Frag)(ex:World→SharedT→β)(ev:World→β)(w:World):Prop:=
 (fun(f:Nat→Obj) (os:OsState)=>obsOf (kept n) ((K w.params).map (·.1)) n' (ex w) (runOf w (lZ w.params (m w.params) cd f n t os) a k p))=
  fun f os=>some (c0,p',n',{},#[],{},t',os,(kept n).map (fun i=>some (CH w.params (m w.params) cd f i)),(K w.params).map (fun x=>some x.2),some (m' w.params),some cd',true,ev w)
noncomputable def pF:DefRec:=dH (aR 91)
noncomputable def q:Program:={pw with main:={pw.main with body:=[aR 91]}}
noncomputable def loose:List Str:=pw.boundNames.filter fun n=> !(n == ("law":Str))
noncomputable def looksAt(w:World)(s:SharedT):=
 (staticsOk (importedModules pw.main.body) (boot_heap w.params) s.abs.heap && namesBound pw s.abs.heap && gensDone s.abs && laidKept (boot_heap w.params) s.abs.heap,
  openSeen q loose (importedModules pw.main.body) (fun _=>true) true s.abs)
noncomputable def uR(P:Params):Obj:=boot_o_3 P
noncomputable abbrev PA:=Part 0 32 p0 ⟨120,30,120,37⟩ 15 256 187 560 uR mainB (cR 0) (cR 51) KA (fun _ _=>()) fun _=>()
noncomputable abbrev PB:=Part 32 14 ⟨120,30,120,37⟩ ⟨235,0,235,8⟩ 256 500 560 946 mainB mainC (cR 51) (cR 90) KB (fun _ _=>()) fun _=>()
noncomputable abbrev PC:=Part 46 3 ⟨235,0,235,8⟩ ⟨238,13,238,25⟩ 500 512 946 963 mainC mainD (cR 90) (cR 90) KC (fun _ _=>()) fun _=>()
noncomputable abbrev PD:=Part 49 43 ⟨238,13,238,25⟩ ⟨623,0,641,15⟩ 512 850 963 1532 mainD oH (cR 90) (cR 207) KD looksAt fun _=>(true,openGood q loose)
theorem CI:∀w:World,PC (w.withFollow row false):=by intro w;unfold PC Part;kernel_rfl
theorem CJ:∀w:World,PC (w.withFollow row true):=by intro w;unfold PC Part;kernel_rfl
theorem CK:∀w:World,PA (w.withFollow row false):=by intro w;unfold PA Part;kernel_rfl
theorem CL:∀w:World,PA (w.withFollow row true):=by intro w;unfold PA Part;kernel_rfl
theorem partB:∀w:World,PB w:=by intro w;unfold PB Part;kernel_rfl
theorem partD:∀w:World,PD w:=by intro w;unfold PD Part;kernel_rfl
theorem partA(w:World):PA w:=byRow2 row CK CL w
theorem partC(w:World):PC w:=byRow2 row CI CJ w
theorem pG(g:Nat→Obj)(n:Nat):∀(k a b i:Nat),i+1<2 ^ k→(bt g n k a b).get i=if a * i+b<n then some (g (a * i+b)) else none
 |0,a,b,i,h=>by simp at h
 |k+1,a,b,i,h=>by
  have hp:2 ^ (k+1)=2 * 2 ^ k:=by rw[Nat.pow_succ];exact Nat.mul_comm _ _
  rw[hp] at h
  show(bif Nat.blt b n then BT.node (g b) (bt g n k (2 * a) (a+b)) (bt g n k (2 * a) (2 * a+b)) else BT.nil).get i=_
  by_cases hb:b<n
  ·rw[show Nat.blt b n=true from by simpa [Nat.blt_eq] using hb]
   show(BT.node _ _ _).get i=_
   rw[BT.get_node]
   by_cases h0:i=0
   ·subst h0;simp[hb]
   ·rw[if_neg h0]
    by_cases h1:i % 2=1
    ·rw[if_pos h1,pG g n k (2 * a) (a+b) (i / 2) (by exact ar147 h h1)]
     have e:2 * a * (i / 2)+(a+b)=a * i+b:=by
      have:i=2 * (i / 2)+1:=by exact ar148 h1
      generalize i / 2=j at this ⊢
      subst this
      rw[Nat.mul_add,Nat.mul_one,Nat.mul_comm 2 a,Nat.mul_assoc];exact(Nat.add_assoc _ _ _).symm
     rw[e]
    ·rw[if_neg h1,pG g n k (2 * a) (2 * a+b) (i / 2 - 1) (by exact ar151 h h0)]
     have e:2 * a * (i / 2 - 1)+(2 * a+b)=a * i+b:=by
      have:i=2 * (i / 2 - 1)+2:=by exact ar152 h0 h1
      generalize i / 2 - 1=j at this ⊢
      subst this
      rw[Nat.mul_add,Nat.mul_comm 2 a,Nat.mul_assoc];exact(Nat.add_assoc _ _ _).symm
     rw[e]
  ·have uS:Nat.blt b n=false:=by
    cases q:Nat.blt b n with
    |false=>rfl
    |true=>exact absurd (by simpa [Nat.blt_eq] using q) hb
   rw[uS]
   show BT.nil.get i=_
   rw[if_neg (by exact fun q=>hb (Nat.lt_of_le_of_lt (Nat.le_add_left _ _) q))];rfl
theorem pH{t t':BT}{n:Nat}{life:Life}(h:∀i,i<n→t.get i=t'.get i):absHeap t n life=absHeap t' n life:=by
 unfold absHeap BT.list
 congr 2
 refine List.map_congr_left fun i hi=> ?_
 rw[h i (List.mem_range.mp hi)]
theorem uT{P:Params}{a b:Obj}{f:Nat→Obj}{i:Nat}(h:i<15):CH P a b f i=((ze P a b)[i]?).getD default:=by
 unfold CH;rw[show Nat.blt i 15=true from by simpa [Nat.blt_eq] using h];rfl
theorem l6{P:Params}{a b:Obj}{f:Nat→Obj}{i:Nat}(h:15≤i):CH P a b f i=f i:=by
 unfold CH
 cases q:Nat.blt i 15 with
 |false=>rfl
 |true=>exact absurd (by simpa [Nat.blt_eq] using q) (by exact Nat.not_lt.mpr h)
theorem zg{n i:Nat}(h:i<n)(h3:i≠3)(pI:i≠12):i∈kept n:=by
 unfold kept
 rw[List.mem_filter]
 exact⟨List.mem_range.mpr h,by simp[h3,pI]⟩
theorem oI{α β:Type}{l:List α}{f g:α→β}(h:l.map f=l.map g):∀x∈l,f x=g x:=List.map_inj_left.mp h
theorem zh{P:Params}{a b a' b':Obj}:∀{i:Nat},i<15→i≠3→i≠12→(ze P a b)[i]? =(ze P a' b')[i]? :=fun {i} _ h3 pI=>by
 show(((ze P a' b').set 3 a).set 12 b)[i]? =_
 rw[List.getElem?_set_ne pI.symm,List.getElem?_set_ne h3.symm]
theorem qL{T:BT}{g:Nat→Obj}{n:Nat}(h:(kept n).map (fun i=>T.get i)=(kept n).map fun i=>some (g i)){i:Nat}(hi:i<n)(h3:i≠3)(pI:i≠12):(T.get i).getD default=g i:=by
 rw[oI h i (zg hi h3 pI)];rfl
theorem w3{P:Params}{T:BT}{m m' cd cd':Obj}{n n':Nat}{f:Nat→Obj}(hn:15≤n)(hnn:n≤n')(hmax:n'≤1000)(e7:(kept n).map (fun i=>T.get i)=(kept n).map fun i=>some (CH P m cd f i))(e9:T.get 3=some m')(sE:T.get 12=some cd')(hs:∀i,i<n'→∃o,T.get i=some o){i:Nat}(hi:i<n'):
  T.get i=some (CH P m' cd' (fun i=>(T.get i).getD default) i):=by
 obtain⟨o,ho⟩:=hs i hi
 rcases Nat.lt_or_ge i 15 with B6|B6
 ·rw[uT B6]
  by_cases h3:i=3
  ·subst h3;exact e9
  by_cases pI:i=12
  ·subst pI;exact sE
  have:=qL e7 (Nat.lt_of_lt_of_le B6 hn) h3 pI
  rw[ho] at this ⊢
  rw[uT B6,zh B6 h3 pI] at this
  exact congrArg some this
 ·rw[l6 B6]
  show _=some ((T.get i).getD default)
  rw[ho];rfl
theorem abs_eq{s:SharedT}{T:BT}{n:Nat}{life:Life}{gens:Array GenState}{drawn:Drawn}{toks:Nat}{os:OsState}(e1:s.n=n)(e2:s.life=life)(e3:s.gens=gens)(e4:s.drawn=drawn)(e5:s.toks=toks)(e6:s.os=os)(h:∀i,i<n→s.tree.get i=T.get i):s.abs=(⟨T,n,life,gens,drawn,toks,os⟩:SharedT).abs:=by
 subst e1 e2 e3 e4 e5 e6
 unfold SharedT.abs
 rw[pH h]
theorem jl{β:Type}{a k:Nat}{p p':Pos}{n n' t t':Nat}{m m':Params→Obj}{cd cd':Obj}{K:Params→Frag}{ex:World→SharedT→β}{ev:World→β}{w:World}(h:Part a k p p' n n' t t' m m' cd cd' K ex ev w)(hn:15≤n)(hnn:n≤n')(hmax:n'≤1000)(f:Nat→Obj)(os:OsState):
  ∃(f':Nat→Obj) (s:SharedT),segRun treeTable pw w 11 pE 1 3000 (lZ w.params (m w.params) cd f n t os).abs (piecesOf (l5 a k) zf c0 p B0)=some (.next,s.abs,c0,p')∧s.abs=(lZ w.params (m' w.params) cd' f' n' t' os).abs∧
   (∀i,15≤i→i<n→f' i=f i)∧(∀x∈K w.params,(x.1<n'→15≤x.1→f' x.1=x.2))∧ex w s=ev w:=by
 have e:=congrFun (congrFun h f) os
 unfold runOf at e
 rw[←Fast.te10110043849684766642,←Fast.te14364793385576792824] at e
 revert e
 cases hr:segRunT treeTable pw w 11 pE 1 3000 (lZ w.params (m w.params) cd f n t os) (piecesOf (l5 a k) zf c0 p B0) with
 |none=>intro e;cases e
 |some r=>
  obtain⟨fl,s,c,q⟩:=r
  cases fl with
  |next=>
   intro e
   have e:=Option.some.inj e
   obtain rfl:c=c0:=congrArg (fun t=>t.1) e
   obtain rfl:q=p':=congrArg (fun t=>t.2.1) e
   have e7:(kept n).map (fun i=>s.tree.get i)=_:=congrArg (fun t=>t.2.2.2.2.2.2.2.2.1) e
   have e8:((K w.params).map (·.1)).map s.tree.get=_:=congrArg (fun t=>t.2.2.2.2.2.2.2.2.2.1) e
   have e11:(List.range n').all (fun i=>(s.tree.get i).isSome)=true:=congrArg (fun t=>t.2.2.2.2.2.2.2.2.2.2.2.2.1) e
   have hs:∀i,i<n'→∃o,s.tree.get i=some o:=fun i hi=>Option.isSome_iff_exists.mp (List.all_eq_true.mp e11 i (List.mem_range.mpr hi))
   refine⟨fun i=>(s.tree.get i).getD default,s,segRun_of hr,?_,fun i h1 h2=> ?_,fun x hx h1 h2=> ?_,congrArg (fun t=>t.2.2.2.2.2.2.2.2.2.2.2.2.2) e⟩
   ·exact abs_eq (congrArg (fun t=>t.2.2.1) e) (congrArg (fun t=>t.2.2.2.1) e) (congrArg (fun t=>t.2.2.2.2.1) e) (congrArg (fun t=>t.2.2.2.2.2.1) e) (congrArg (fun t=>t.2.2.2.2.2.2.1) e) (congrArg (fun t=>t.2.2.2.2.2.2.2.1) e) fun i hi=>by
     rw[pG _ _ 10 1 0 i (by exact gy (Nat.le_trans hi hmax) rfl),Nat.one_mul,Nat.add_zero,if_pos hi]
     exact w3 hn hnn hmax e7 (congrArg (fun t=>t.2.2.2.2.2.2.2.2.2.2.1) e) (congrArg (fun t=>t.2.2.2.2.2.2.2.2.2.2.2.1) e) hs hi
   ·dsimp only
    rw[qL e7 h2 (by exact Nat.ne_of_gt (Nat.lt_of_lt_of_le (by decide) h1)) (by exact Nat.ne_of_gt (Nat.lt_of_lt_of_le (by decide) h1)),l6 h1]
   ·dsimp only
    have:=oI (f:=fun x:Nat×Obj=>s.tree.get x.1) (g:=fun x=>some x.2) (by rw[List.map_map] at e8;exact e8) x hx
    rw[this];rfl
  |_=>intro e;cases e
noncomputable def noParams:Params:={strHash:=fun _=>0,shareClass:=fun _=>0,mergeTok:=id,idOf:=fun _=>0,idOfShared:=fun _ _=>0,followText:=fun _=>false,idOfImm:=fun _=>0}
theorem pre_go(w:World)(os:OsState):topGo treeTable pw w 11 pE 12 ⟨boot_heap w.params,#[],boot_drawn,boot_toks,os⟩ (topStub pw)=
  some ((lZ w.params (uR w.params) (cR 0) (fun _=>default) 15 187 os).abs,⟨denote treeTable c0,c0,p0,B0⟩):=by kernel_rfl
theorem zi(w:World)(os:OsState):segRun treeTable pw w 11 pE 1 1 (lZ w.params (uR w.params) (cR 0) (fun _=>default) 15 187 os).abs (blockOf (behindTheImports pw) zf c0 p0 B0)=
  some (.next,(lZ w.params (uR w.params) (cR 0) (fun _=>default) 15 187 os).abs,c0,p0):=by kernel_rfl
theorem fin_go(w:World)(s:Shared)(p:Pos):topRun treeTable pw w 11 pE 2 s ⟨doneF .next,c0,p,B0⟩=some s:=by
 obtain⟨h,g,d,t,os⟩:=s
 kernel_rfl
theorem sQ:behindTheImports pw=l5 0 32++(l5 32 14++(l5 46 3++(l5 49 43++[]))):=by kernel_rfl
theorem KA_low(P:Params):(KA P).all (fun x=>Nat.ble 15 x.1 && Nat.blt x.1 256)=true:=by kernel_rfl
theorem KB_low(P:Params):(KB P).all (fun x=>Nat.ble 256 x.1 && Nat.blt x.1 500)=true:=by kernel_rfl
theorem KC_low(P:Params):(KC P).all (fun x=>Nat.ble 500 x.1 && Nat.blt x.1 512)=true:=by kernel_rfl
theorem KD_low(P:Params):(KD P).all (fun x=>Nat.ble 512 x.1 && Nat.blt x.1 850)=true:=by kernel_rfl
theorem pJ{l:Frag}{a b:Nat}(h:l.all (fun x=>Nat.ble a x.1 && Nat.blt x.1 b)=true){x:Nat×Obj}(hx:x∈l):a≤x.1∧x.1<b:=by
 have:=List.all_eq_true.mp h x hx
 rw[Bool.and_eq_true] at this
 exact⟨Nat.le_of_ble_eq_true this.1,by simpa [Nat.blt_eq] using this.2⟩
theorem CM(w:World)(os:OsState):∃(f:Nat→Obj) (s:SharedT),topRun treeTable pw w 11 pE (12+(1+(3000+(3000+(3000+(3000+2)))))) ⟨boot_heap w.params,#[],boot_drawn,boot_toks,os⟩ (topStub pw)=some s.abs∧
  s.abs=(lZ w.params (oH w.params) (cR 207) f 850 1532 os).abs∧(∀x∈KA w.params++(KB w.params++(KC w.params++KD w.params)),15≤x.1∧x.1<850∧f x.1=x.2)∧looksAt w s=(true,openGood q loose):=by
 obtain⟨f1,s1,r1,e1,k1,x1,-⟩:=jl (partA w) (by decide) (by decide) (by decide) (fun _=>default) os
 obtain⟨f2,s2,r2,e2,k2,x2,-⟩:=jl (partB w) (by decide) (by decide) (by decide) f1 os
 obtain⟨f3,s3,r3,e3,k3,x3,-⟩:=jl (partC w) (by decide) (by decide) (by decide) f2 os
 obtain⟨f4,s4,r4,e4,k4,x4,l4⟩:=jl (partD w) (by decide) (by decide) (by decide) f3 os
 rw[←e1] at r2
 rw[←e2] at r3
 rw[←e3] at r4
 refine⟨f4,s4,?_,e4,fun x hx=> ?_,l4⟩
 ·refine go_top (pre_go w os) ?_
  refine piece_block (zi w os) ?_
  rw[sQ]
  exact piece_app r1 (piece_app r2 (piece_app r3 (piece_app r4 (piece_nil (fin_go w _ _)))))
 ·obtain⟨i,o⟩:=x
  change Nat at i
  simp only[List.mem_append] at hx
  rcases hx with hx|hx|hx|hx
  ·obtain⟨l,l'⟩:15≤i∧i<256:=pJ (KA_low _) hx
   exact⟨l,(by exact cB l' rfl:i<850),(k4 i l (by exact cB l' rfl)).trans ((k3 i l (by exact cB l' rfl)).trans ((k2 i l (by exact l')).trans (x1 (i,o) hx l' l)))⟩
  ·obtain⟨l,l'⟩:256≤i∧i<500:=pJ (KB_low _) hx
   exact⟨(by exact Nat.le_trans (jW rfl) l:15≤i),(by exact cB l' rfl:i<850),(k4 i (by exact Nat.le_trans (jW rfl) l) (by exact cB l' rfl)).trans ((k3 i (by exact Nat.le_trans (jW rfl) l) (by exact l')).trans (x2 (i,o) hx l' (by exact Nat.le_trans (jW rfl) l:15≤i)))⟩
  ·obtain⟨l,l'⟩:500≤i∧i<512:=pJ (KC_low _) hx
   exact⟨(by exact Nat.le_trans (jW rfl) l:15≤i),(by exact cB l' rfl:i<850),(k4 i (by exact Nat.le_trans (jW rfl) l) (by exact l')).trans (x3 (i,o) hx l' (by exact Nat.le_trans (jW rfl) l:15≤i))⟩
  ·obtain⟨l,l'⟩:512≤i∧i<850:=pJ (KD_low _) hx
   exact⟨(by exact Nat.le_trans (jW rfl) l:15≤i),(by exact l':i<850),x4 (i,o) hx l' (by exact Nat.le_trans (jW rfl) l:15≤i)⟩
noncomputable def KK(P:Params):Frag:=(3,oH P)::(2,boot_o_2 P)::(KA P++(KB P++(KC P++KD P)))
theorem zj(P:Params):(KK P).all (fun x=>(alive x.2).isSome)=true:=by kernel_rfl
theorem zk{o:Obj}(h:(alive o).isSome=true):alive o=some o:=by
 obtain⟨c,d,dt,sl⟩:=o
 cases dt<;>first|rfl|exact absurd h Bool.false_ne_true
theorem KK_in{w:World}{f:Nat→Obj}{os:OsState}(hf:∀x∈KA w.params++(KB w.params++(KC w.params++KD w.params)),15≤x.1∧x.1<850∧f x.1=x.2):
  ∀x∈KK w.params,(lZ w.params (oH w.params) (cR 207) f 850 1532 os).abs.heap.get? x.1=some x.2:=by
 intro x hx
 have ha:=zk (List.all_eq_true.mp (zj w.params) x hx)
 have key:∀i,i<850→CH w.params (oH w.params) (cR 207) f i=x.2→(lZ w.params (oH w.params) (cR 207) f 850 1532 os).abs.heap.get? i=some x.2:=by
  intro i hi e
  show(absHeap _ 850 _).get? i=_
  rw[abs_get (o:=x.2) hi (by unfold lZ;dsimp only;rw[pG _ _ 10 1 0 i (by exact bE 1 hi rfl),Nat.one_mul,Nat.add_zero,if_pos hi,e])]
  exact ha
 unfold KK at hx
 rcases List.mem_cons.mp hx with rfl|hx
 ·exact key 3 (by decide) rfl
 rcases List.mem_cons.mp hx with rfl|hx
 ·exact key 2 (by decide) rfl
 ·obtain⟨h1,h2,h3⟩:=hf x hx
  exact key x.1 h2 (by rw[l6 h1,h3])
noncomputable def KAs(P:Params):List Addr:=(KK P).map (·.1)
theorem oJ(P:Params):KAs P=KAs Mine.noParams:=by kernel_rfl
theorem CN(w:World):((boot_heap w.params).isNs mainGlobals && (#[]:Array GenState).size == 0,(boot_heap w.params).objs.size,(boot_heap w.params).nsMap mainGlobals "__annotations__")=(true,11,pE):=by kernel_rfl
theorem open_e:opening pw=plainProg pw.main.scope.names:=by kernel_rfl
theorem open_f(s:Shared):fenceModules? pw s=some s:=by kernel_rfl
noncomputable def HK:Hook:=kHook KK (KAs noParams) (fun P=>(oJ P).symm)
theorem left:LeftO pw q loose (fun _=>true) HK.obs HK.val 20000:=by
 intro w
 obtain⟨⟨h,gs,d,k,os⟩,e,e'⟩:=Option.map_eq_some_iff.mp (boot_open (N:=20000) open_e (by decide) open_f w)
 obtain⟨rfl,rfl,rfl,rfl⟩:h=boot_heap w.params∧gs= #[]∧d=boot_drawn∧k=boot_toks:=by simpa using e'
 obtain⟨f,s,r,ea,hK,hl⟩:=CM w os
 have r:=topRun_mono (20000 - 12015) _ _ _ _ r
 have hl1:=congrArg Prod.fst hl
 have hl2:=congrArg Prod.snd hl
 have t:topFrom treeTable pw w 20000 ⟨boot_heap w.params,#[],boot_drawn,boot_toks,os⟩=some s.abs:=by
  unfold topFrom
  obtain⟨z1,z2,z3⟩:_∧_∧_:=by simpa only[Prod.mk.injEq] using CN w
  dsimp only
  rw[z1,z2,z3]
  dsimp only
  rw[show topRun treeTable pw w 11 pE 20000 _ (topStub pw)=some s.abs from r]
  show(match staticsOk _ _ _ && namesBound _ _ && gensDone _ && laidKept _ _ with|true=>_|false=>_)=_
  rw[show(staticsOk (importedModules pw.main.body) (boot_heap w.params) s.abs.heap && namesBound pw s.abs.heap && gensDone s.abs && laidKept (boot_heap w.params) s.abs.heap)=true from hl1]
 unfold openEnds
 rw[show fencedOpening treeTable pw w 20000=_ from e]
 show(topFrom treeTable pw w 20000 _).map _=_
 rw[t]
 refine congrArg some (Prod.ext hl2 ?_)
 show(KAs noParams).map s.abs.heap.get?=(KK w.params).map fun p=>some p.2
 rw[←oJ w.params,ea]
 unfold KAs
 rw[List.map_map]
 exact List.map_congr_left fun x hx=>KK_in hK x hx
end
section
open PySem.W
set_option backward.match.sparseCases false
theorem said:PySem.Challenge.rw_tu0007_01.wellSaid=true:=by
 unfold OpenLaw.wellSaid OpenRow.wellSaid OpenRow.partSaid looksOpen
 repeat' (with_reducible refine look_both ?_ ?_)
 ·try rw[PySem.W.Fast.te11788848310118352699];as_aux_lemma=>kernel_rfl
 ·try rw[PySem.W.Fast.te12862048085361865435];try rw[PySem.W.Fast.te9807087744658564304];as_aux_lemma=>kernel_rfl
 ·try rw[PySem.W.Fast.te8377067652309620493];as_aux_lemma=>kernel_rfl
 ·try rw[PySem.W.Fast.te14412699480532031325];try rw[PySem.W.Fast.sDec_eq];try rw[PySem.W.Fast.te3471404346716756564];try rw[PySem.W.Fast.te18344453789297297638];try rw[PySem.W.R.allR_eq];as_aux_lemma=>kernel_rfl
 ·try rw[PySem.W.Fast.te13343964577679436407];try rw[PySem.W.R.filterR_eq];try rw[PySem.W.Fast.te17691160309236699985];try rw[PySem.W.Fast.sDec_eq];try rw[PySem.W.Fast.te3471404346716756564];try rw[PySem.W.Fast.te5923862056798008813];try rw[PySem.W.R.allR_eq];try rw[PySem.W.Fast.te8326940854005059898];as_aux_lemma=>kernel_rfl
 ·try rw[PySem.W.Fast.te17868728402115742887];try rw[PySem.W.Fast.te17119622794617984870];as_aux_lemma=>kernel_rfl
 ·as_aux_lemma=>kernel_rfl
 ·as_aux_lemma=>kernel_rfl
 ·try rw[PySem.W.Fast.te9706382859710513879];try rw[PySem.W.R.allR_eq];as_aux_lemma=>kernel_rfl
 ·try rw[PySem.W.Fast.te2357444279172408678];try rw[PySem.W.S.strDecS_eq];try rw[PySem.W.Fast.te18344453789297297638];try rw[PySem.W.Fast.sDec_eq];try rw[PySem.W.Fast.te3471404346716756564];try rw[PySem.W.R.allR_eq];as_aux_lemma=>kernel_rfl
 ·try rw[PySem.W.Fast.sDec_eq];try rw[PySem.W.R.mapR_eq];as_aux_lemma=>kernel_rfl
 ·try rw[PySem.W.Fast.te18344453789297297638];try rw[PySem.W.Fast.sDec_eq];try rw[PySem.W.Fast.te3471404346716756564];try rw[PySem.W.Fast.named_eq];try rw[PySem.W.Fast.te4857012375875476094];try rw[PySem.W.R.allR_eq];as_aux_lemma=>kernel_rfl
 ·try rw[PySem.W.Fast.te13582783067957832011];as_aux_lemma=>kernel_rfl
 ·try rw[PySem.W.Fast.te5318747976498570220];as_aux_lemma=>kernel_rfl
 ·try rw[PySem.W.Fast.te5318747976498570220];as_aux_lemma=>kernel_rfl
 ·try rw[PySem.W.Fast.te5318747976498570220];try rw[PySem.W.R.allR_eq];as_aux_lemma=>kernel_rfl
 ·try rw[PySem.W.Fast.te4274047373036748609];try rw[PySem.W.R.anyR_eq];try rw[PySem.W.Fast.te4579403493507170074];try rw[PySem.W.R.allR_eq];as_aux_lemma=>kernel_rfl
 ·try rw[PySem.W.R.allR_eq];as_aux_lemma=>kernel_rfl
 ·as_aux_lemma=>kernel_rfl
 ·try rw[PySem.W.Fast.te18344453789297297638];try rw[PySem.W.Fast.sDec_eq];try rw[PySem.W.Fast.te3471404346716756564];as_aux_lemma=>kernel_rfl
 ·try rw[PySem.W.Fast.te12749700546528644094];try rw[PySem.W.Fast.sDec_eq];try rw[PySem.W.Fast.te3471404346716756564];as_aux_lemma=>kernel_rfl
 ·as_aux_lemma=>kernel_rfl
 ·try rw[PySem.W.Fast.te10501279942588096481];try rw[PySem.W.R.allR_eq];as_aux_lemma=>kernel_rfl
 ·try rw[PySem.W.Fast.te8179353310426384613];as_aux_lemma=>kernel_rfl
 ·as_aux_lemma=>kernel_rfl
 ·as_aux_lemma=>kernel_rfl
 ·try rw[PySem.W.Fast.te9572597257264208301];try rw[PySem.W.Fast.te797321630700447069];try rw[PySem.W.Fast.te8326940854005059898];as_aux_lemma=>kernel_rfl
 ·try rw[PySem.W.Fast.te9558739934217749035];as_aux_lemma=>kernel_rfl
 ·try rw[PySem.W.Fast.te16286561074155671207];as_aux_lemma=>kernel_rfl
 ·try rw[PySem.W.Fast.sDec_eq];try rw[PySem.W.R.allR_eq];as_aux_lemma=>kernel_rfl
 ·try rw[PySem.W.Fast.te6984425678791042302];try rw[PySem.W.Fast.sDec_eq];try rw[PySem.W.Fast.named_eq];try rw[PySem.W.Fast.te797321630700447069];try rw[PySem.W.R.allR_eq];as_aux_lemma=>kernel_rfl
 ·try rw[PySem.W.Fast.te6984425678791042302];try rw[PySem.W.Fast.te12879404354523853263];try rw[PySem.W.Fast.te17095254045102204799];try rw[PySem.W.R.allR_eq];as_aux_lemma=>kernel_rfl
 ·try rw[PySem.W.Fast.sDec_eq];try rw[PySem.W.Fast.te482687673346738481];try rw[PySem.W.Fast.te6984425678791042302];try rw[PySem.W.Fast.te12879404354523853263];try rw[PySem.W.Fast.te17095254045102204799];try rw[PySem.W.R.allR_eq];as_aux_lemma=>kernel_rfl
 ·try rw[PySem.W.Fast.te9572597257264208301];try rw[PySem.W.Fast.sDec_eq];try rw[PySem.W.Fast.te3471404346716756564];try rw[PySem.W.Fast.te17119622794617984870];as_aux_lemma=>kernel_rfl
 ·try rw[PySem.W.Fast.te10792542408131684335];try rw[PySem.W.Fast.sDec_eq];try rw[PySem.W.Fast.te3471404346716756564];as_aux_lemma=>kernel_rfl
 ·try rw[PySem.W.Fast.te10792542408131684335];try rw[PySem.W.Fast.sDec_eq];try rw[PySem.W.Fast.te7723801398212525404];as_aux_lemma=>kernel_rfl
 ·try rw[PySem.W.Fast.named_eq];try rw[PySem.W.Fast.te10792542408131684335];try rw[PySem.W.R.allR_eq];as_aux_lemma=>kernel_rfl
 ·try rw[PySem.W.Fast.te10792542408131684335];try rw[PySem.W.Fast.sDec_eq];try rw[PySem.W.Fast.te3471404346716756564];try rw[PySem.W.Fast.te17119622794617984870];as_aux_lemma=>kernel_rfl
 ·try rw[PySem.W.Fast.sDec_eq];try rw[PySem.W.Fast.te17119622794617984870];as_aux_lemma=>kernel_rfl
end
section
open PyProof.Rows PySem.W
set_option backward.match.sparseCases false
theorem w4:pw.tablesWhole=true:=by
 unfold Program.tablesWhole TablesWhole.wProgram
 rw[Fast.te6116379765354995101]
 kernel_rfl
theorem bare_ok:pw.bare:=⟨rfl,rfl,rfl,rfl,rfl,w4⟩
theorem def_ok:defOf q ("law":Str)=some (pF,[]):=by kernel_rfl
theorem the_ok:pw.theDef ("law":Str)=some (pF.params,pF.body,pF.scope):=by kernel_rfl
theorem kw_ok:kwWritten? pF.params.kwonlyargs pF.params.kw_defaults=some []:=by kernel_rfl
abbrev rw0:OpenLaw:=PySem.Challenge.rw_tu0007_01
theorem ok_ok:(chainsOk q && opensWell rw0.row.prog && (frees rw0.row.toRowW && rw0.row.within.isEmpty))=true:=by kernel_rfl
theorem head(call:WalkO q loose (fun _ _=>True) (fun w h=>(KK w.params).In h) rw0.row.toRowW pF [] fun f vs=>PySem.call f vs):PySem.Challenge.rw_tu0007_01.Holds:=by
 refine holds_law said fun said=> ?_
 refine holds_open (r:=rw0.row) (q:=q) (loose:=loose) (Xt:=fun _=>true) (XP:=fun _ _=>True) (Yf:=HK.obs) (Ya:=HK.val) (YP:=HK.says) (d:=pF) (kwd:=[]) (N:=20000) left HK.of HK.keeps (fun _ _=>trivial) (fun _ _ _ _ _=>trivial) def_ok the_ok kw_ok
  (fun _ _=>recFacts_nil rfl) rfl said ok_ok bare_ok ?hw call
 case hw=>w_witness2
end
section
set_option backward.match.sparseCases false
set_option genInjectivity false
inductive PV where
 |none|bool (b:Bool)|int (i:Int)|str (s:Str)|bytes|bG
 |tup (l:List PV)|ref (i:Nat)
instance:Nonempty PV:=⟨.none⟩
inductive aH where
 |list (l:List PV)
 |aW (l:List (Int×PV))
 |d9 (l:List (Nat×PV))
 |inst (c:Nat) (fs:List (Nat×PV))
instance:Nonempty aH:=⟨.list []⟩
noncomputable abbrev aa:=List aH
noncomputable abbrev Loc:=List (Option PV)
inductive XK where
 |made|flying|held
inductive BF where
 |abs|min|max|len|list|tuple|sum|sorted|int|bytes
mutual
inductive IE where
 |const (v:PV)
 |var (x:Nat)
 |bin (op:Operator) (a b:IE)
 |neg (a:IE)
 |not (a:IE)
 |and (a b:IE)
 |or (a b:IE)
 |ite (c a b:IE)
 |cmp (op:CmpOp) (a b:IE)
 |chain (op lN:CmpOp) (a b c:IE)
 |attr (a:IE) (n:Nat)
 |item (a i:IE)
 |eV (a:IE) (n:Nat)
 |l7 (a:IE)
 |qM (a:IE)
 |rev (a:IE)
 |list (es:jU)
 |tuple (es:jU)
 |d9 (ks:List Nat) (es:jU)
 |aW
 |ah (f:Nat) (es:jU)
 |callC (c:Nat) (es:jU)
 |bC (b:BF) (es:jU)
 |isInt (a:IE)
 |isBool (a:IE)
 |gY (a:IE)
 |append (o x:IE)
 |extend (o x:IE)
 |insert (o i x:IE)
 |zl (o k:IE)
 |zm (o k x:IE)
 |l8 (o:IE) (m:Nat) (es:jU)
 |comp (cg:List Nat) (src:gZ) (elt:IE)
inductive jU where
 |nil|cons (e:IE) (r:jU)
inductive gZ where
 |items (e:IE)
 |range (e:IE)
 |enum (e:IE)
 |zip (a b:IE)
end
mutual
inductive IS where
 |expr (e:IE)
 |assign (x:Nat) (e:IE)
 |bH (xs:List Nat) (e:IE)
 |aw (o:IE) (n:Nat) (e:IE)
 |iC (o i e:IE)
 |aug (x:Nat) (op:Operator) (e:IE)
 |lx (o i:IE) (op:Operator) (e:IE)
 |ite (c:IE) (a b:cp)
 |while (c:IE) (b:cp)
 |for (cg:List Nat) (src:gZ) (b:cp)
 |ret (e:IE)
 |raise
 |stuck
 |try (b:cp) (x:Nat) (v:PV)
 |cont
inductive cp where
 |nil|cons (s:IS) (r:cp)
end
instance:Nonempty jU:=⟨.nil⟩
instance:Nonempty IE:=⟨.aW⟩
instance:Nonempty gZ:=⟨.items .aW⟩
instance:Nonempty cp:=⟨.nil⟩
instance:Nonempty IS:=⟨.cont⟩
instance:Nonempty XK:=⟨.made⟩
instance:Nonempty BF:=⟨.abs⟩
structure iP where
 np:Nat
 jY:Nat
 dflt:List PV
 body:cp
structure ClsRec where
 init:Option Nat
 ma:List (Nat×PV)
 meths:List (Nat×Nat)
structure ec where
 fns:List (Nat×iP)
 pK:List (Nat×ClsRec)
 bad:List (Nat×Nat)
 bG:List Int
instance:Nonempty iP:=⟨⟨0,0,[],.nil⟩⟩
instance:Nonempty ClsRec:=⟨⟨none,[],[]⟩⟩
instance:Nonempty ec:=⟨⟨[],[],[],[]⟩⟩
inductive Fl where
 |next|cont|ret (v:PV)
theorem cj{α:Type}{P:Prop}{a:α}(h:none=some a):P:=by cases h
noncomputable def int?:PV→Option Int
 |.int i=>some i
 |_=>none
theorem mf{v:PV}{i:Int}(h:int? v=some i):v=.int i:=by
 cases v with
 |int j=>exact congrArg _ (Option.some.inj h)
 |_=>exact cj h
noncomputable def g0:List PV→List PV→Option Bool
 |[],y=>if y.isEmpty then some true else none
 |a::r,y=>match y with
  |[]=>none
  |b::t=>(int? a).bind fun i=>(int? b).bind fun k=>(g0 r t).map fun b=>decide (i=k) && b
noncomputable def n7(H:aa)(a b:PV):Option Bool:=
 match a,b with
 |.ref i,.ref j=>match H[i]?,H[j]? with
  |some (.list x),some (.list y)=>if x.length≠y.length then some false else g0 x y
  |some (.aW x),some (.aW [])=>some x.isEmpty
  |_,_=>none
 |_,_=>none
noncomputable def kK:List PV→Option (List Int)
 |[]=>some []
 |a::r=>(int? a).bind fun i=>(kK r).map (i::·)
noncomputable def place(i:Int)(n:Nat):Option Nat:=
 if n<1000000 then(if 0≤i∧i<n then some i.toNat else if i<0∧0≤i+n then some (i+n).toNat else none) else none
noncomputable def ey(k:Int):List (Int×PV)→Option PV
 |[]=>none
 |(j,v)::r=>if j=k then some v else ey k r
theorem pL{k j:Int}{v:PV}{r:List (Int×PV)}:ey k ((j,v)::r)=if j=k then some v else ey k r:=rfl
noncomputable def bB{α:Type}(k:Nat):List (Nat×α)→Option α
 |[]=>none
 |(j,v)::r=>if j=k then some v else bB k r
theorem fF{α:Type}{k j:Nat}{v:α}{r:List (Nat×α)}:bB k ((j,v)::r)=if j=k then some v else bB k r:=rfl
noncomputable def n8(k:Int)(v:PV):List (Int×PV)→List (Int×PV)
 |[]=>[(k,v)]
 |(j,u)::r=>if j=k then(j,v)::r else(j,u)::n8 k v r
theorem sR{k j:Int}{v u:PV}{r:List (Int×PV)}:n8 k v ((j,u)::r)=if j=k then(j,v)::r else(j,u)::n8 k v r:=rfl
noncomputable def putN(k:Nat)(v:PV):List (Nat×PV)→List (Nat×PV)
 |[]=>[(k,v)]
 |(j,u)::r=>if j=k then(j,v)::r else(j,u)::putN k v r
theorem zo{k j:Nat}{v u:PV}{r:List (Nat×PV)}:putN k v ((j,u)::r)=if j=k then(j,v)::r else(j,u)::putN k v r:=rfl
noncomputable def listAt(H:aa)(r:Nat):Option (List PV):=
 match H[r]? with
 |some (.list l)=>some l
 |_=>none
noncomputable def idictAt(H:aa)(r:Nat):Option (List (Int×PV)):=
 match H[r]? with
 |some (.aW l)=>some l
 |_=>none
noncomputable def insertSorted(x:Int):List Int→List Int
 |[]=>[x]
 |y::r=>if x≤y then x::y::r else y::insertSorted x r
theorem ed{x y:Int}{r:List Int}:insertSorted x (y::r)=if x≤y then x::y::r else y::insertSorted x r:=rfl
noncomputable def bO:List Int→List Int
 |[]=>[]
 |x::r=>insertSorted x (bO r)
noncomputable def jZ(P:ec)(n:Nat)(o:Option aH):Option PV:=
 match o with
 |some (.inst c fs)=>if P.bad.contains (c,n) then none else match bB n fs with
   |some v=>some v
   |none=>(bB c P.pK).bind fun k=>bB n k.ma
 |_=>none
noncomputable def g7(P:ec)(H:aa)(o:PV)(n:Nat):Option PV:=
 match o with
 |.ref r=>jZ P n H[r]?
 |_=>none
noncomputable def dX(P:ec)(H:aa)(o:PV)(n:Nat)(v:PV):Option aa:=
 match o with
 |.ref r=>match H[r]? with
  |some (.inst c fs)=>if P.bad.contains (c,n) then none else if fs.length<100 then some (H.set r (.inst c (putN n v fs))) else none
  |_=>none
 |_=>none
noncomputable def lO(H:aa)(o:PV)(n:Nat):Option PV:=
 match o with
 |.ref r=>match H[r]? with
  |some (.d9 es)=>bB n es
  |_=>none
 |_=>none
inductive Src where
 |fixed (l:List PV)
 |live (r:Nat)
 |enum (r:Nat)
 |zip (r t:Nat)
instance:Nonempty Src:=⟨.live 0⟩
instance:Nonempty Fl:=⟨.next⟩
instance:Nonempty (PV→aa→Prop):=⟨fun _ _=>True⟩
instance:Nonempty (XK→aa→Prop):=⟨fun _ _=>True⟩
instance:Nonempty (Fl→Loc→aa→Prop):=⟨fun _ _ _=>True⟩
instance:Nonempty (XK→Loc→aa→Prop):=⟨fun _ _ _=>True⟩
instance:Nonempty (Loc→aa→Prop):=⟨fun _ _=>True⟩
noncomputable def Src.get(H:aa)(k:Nat):Src→Option (Option PV)
 |.fixed l=>some l[k]?
 |.live r=>(listAt H r).map fun l=>l[k]?
 |.enum r=>(listAt H r).map fun l=>l[k]?.map fun v=>.tup [.int k,v]
 |.zip r t=>(listAt H r).bind fun l=>(listAt H t).map fun m=>match l[k]?,m[k]? with
  |some a,some b=>some (.tup [a,b])
  |_,_=>none
noncomputable def fZ:List Nat→Loc→Loc
 |[],loc=>loc
 |x::xs,loc=>fZ xs (loc.set x none)
noncomputable def dp(n:Int):List PV:=(List.range n.toNat).map fun(i:Nat)=>.int (Int.ofNat i)
noncomputable def jm(r:iP)(args:List PV):Option (List PV):=
 if args.length≤r.np∧r.np≤args.length+r.dflt.length then some (args++r.dflt.drop (args.length+r.dflt.length - r.np)) else none
noncomputable abbrev RP:=(PV→aa→Prop)→(XK→aa→Prop)→Prop
noncomputable def iX(P:ec)(m:Nat)(H:aa):PV→Option Nat
 |.ref i=>match H[i]? with
  |some (.inst c fs)=>if(bB m fs).isSome then none else(bB c P.pK).bind fun k=>bB m k.meths
  |_=>none
 |_=>none
end
section
set_option backward.match.sparseCases false
section
local macro_rules
 |`(#[$xs,*])=>do
  let mut r ←`(.nil)
  for x in xs.getElems.reverse do r ←`(.cons $x $r)
  return r
local macro_rules
 |`(‹$n›)=>`(.const (.int $n))
noncomputable def b89:cp:= #[.ret (.and (.isInt (.var 0)) (.and (.not (.isBool (.var 0))) (.chain .LtE .LtE (.var 1) (.var 0) (.var 2))))]
noncomputable def b96:cp:= #[.ite (.or (.not (.isInt (.var 0))) (.isBool (.var 0))) #[.stuck] .nil,.ret (.var 0)]
noncomputable def b103:cp:= #[.ite (.not (.chain .LtE .LtE (.neg ‹2147483647›) (.ah 96 #[.var 0]) ‹2147483647›)) #[.stuck] .nil,.ret (.var 0)]
noncomputable def b110:cp:= #[.ite (.not (.chain .LtE .LtE (.neg ‹1073741823›) (.ah 96 #[.var 0]) ‹1073741823›)) #[.stuck] .nil,.ret (.var 0)]
noncomputable def b145:cp:= #[.ite (.cmp .Lt (.var 0) ‹0›) #[.stuck] .nil,.ite (.cmp .Eq (.var 0) ‹0›) #[.ret ‹0›] .nil,.ite (.cmp .LtE (.var 1) ‹0›) #[.ret ‹10000›] .nil,.ite (.cmp .LtE (.var 0) ‹7230584›) #[.assign 2 (.bin .FloorDiv (.bin .Mult (.var 0) ‹297›) (.var 1))] #[.ite (.cmp .GtE (.var 1) ‹1663497›) #[.assign 2 (.bin .FloorDiv (.var 0) (.bin .FloorDiv (.var 1) ‹297›))] #[.assign 2 (.var 0)]],.ite (.cmp .Gt (.var 2) ‹1290›) #[.ret ‹10000›] .nil,.ret (.bin .FloorDiv (.bin .Add (.bin .Mult (.bin .Mult (.var 2) (.var 2)) (.var 2)) ‹131072›) ‹262144›)]
noncomputable def b174:cp:= #[.ite (.or (.not (.ah 89 #[.var 3,‹0›,‹3›])) (.not (.ah 89 #[.var 5,‹0›,‹3›]))) #[.stuck] .nil,.aw (.var 0) 0 (.ah 110 #[.var 1]),.aw (.var 0) 1 (.ah 110 #[.var 2]),.aw (.var 0) 2 (.ite (.cmp .NotEq (.var 2) ‹0›) (.var 3) ‹0›),.aw (.var 0) 3 (.ah 110 #[.var 4]),.aw (.var 0) 4 (.ite (.cmp .NotEq (.var 4) ‹0›) (.var 5) ‹0›)]
noncomputable def b181:cp:= #[.ret (.tuple #[.attr (.var 0) 0,.attr (.var 0) 1,.attr (.var 0) 2,.attr (.var 0) 3,.attr (.var 0) 4])]
noncomputable def b262:cp:= #[.for [1] (.items (.var 0)) #[.ite (.cmp .Gt (.attr (.var 1) 5) ‹5›) #[.stuck] .nil],.ret (.var 0)]
noncomputable def b276:cp:= #[.ite (.not (.ah 89 #[.var 1,‹2›,‹3›])) #[.stuck] .nil,.aw (.var 0) 5 (.var 1),.aw (.var 0) 0 (.ah 110 #[.var 2]),.aw (.var 0) 6 (.ah 110 #[.var 3]),.aw (.var 0) 7 (.ah 110 #[.var 4]),.aw (.var 0) 8 (.var 5),.aw (.var 0) 9 ‹0›,.aw (.var 0) 10 ‹0›,.aw (.var 0) 11 ‹0›,.aw (.var 0) 12 (.tuple #[‹0›,‹1›])]
noncomputable def b297:cp:= #[.for [4] (.items (.tuple #[.var 1,.var 2,.var 3])) #[.ite (.cmp .IsNot (.var 4) (.const .none)) #[.expr (.ah 110 #[.var 4])] .nil],.aw (.var 0) 0 (.var 1),.aw (.var 0) 6 (.var 2),.aw (.var 0) 7 (.var 3)]
noncomputable def b318:cp:= #[.ite (.not (.ah 89 #[.var 2,‹0›,‹3›])) #[.stuck] .nil,.aw (.var 0) 0 (.ah 110 #[.var 1]),.aw (.var 0) 13 (.var 2)]
noncomputable def b340:cp:= #[.ite (.and (.not (.ah 89 #[.var 2,‹0›,‹5›])) (.not (.ah 89 #[.var 2,‹100›,.bin .Add ‹100› ‹99›]))) #[.stuck] .nil,.ite (.cmp .Eq (.cmp .Is (.var 3) (.const .none)) (.chain .LtE .LtE ‹1› (.var 2) ‹3›)) #[.stuck] .nil,.ite (.and (.cmp .IsNot (.var 3) (.const .none)) (.not (.chain .LtE .LtE ‹2› (.attr (.var 3) 5) ‹4›))) #[.stuck] .nil,.aw (.var 0) 14 (.var 1),.aw (.var 0) 13 (.var 2),.aw (.var 0) 15 (.var 3)]
noncomputable def b361:cp:= #[.aw (.var 0) 16 (.ah 103 #[.var 1])]
noncomputable def b382:cp:= #[.aw (.var 0) 17 (.ah 262 #[.var 1]),.aw (.var 0) 18 (.ah 262 #[.var 2]),.aw (.var 0) 19 (.ah 262 #[.var 3])]
noncomputable def b403:cp:= #[.aw (.var 0) 20 (.bC .tuple #[.var 1])]
noncomputable def b424:cp:= #[.ite (.not (.ah 89 #[.var 1,‹0›,‹254›])) #[.stuck] .nil,.aw (.var 0) 21 (.var 1),.aw (.var 0) 22 (.ah 110 #[.var 2]),.aw (.var 0) 7 (.ah 110 #[.var 3]),.aw (.var 0) 23 (.var 4),.aw (.var 0) 24 (.ah 103 #[.var 5]),.aw (.var 0) 8 (.var 6)]
noncomputable def b445:cp:= #[.aw (.var 0) 8 (.var 1)]
noncomputable def b466:cp:= #[.aw (.var 0) 25 (.var 1),.aw (.var 0) 0 (.ah 110 #[.var 2])]
noncomputable def b487:cp:= #[.ite (.not (.gY (.var 1))) #[.stuck] .nil,.for [2] (.items (.var 1)) #[.ite (.not (.ah 89 #[.var 2,‹0›,‹255›])) #[.stuck] .nil],.aw (.var 0) 26 (.bC .bytes #[.var 1])]
noncomputable def b499:cp:= #[.assign 1 (.attr (.var 0) 5),.ite (.or (.cmp .Eq (.var 1) ‹0›) (.cmp .Eq (.var 1) ‹1›)) #[.ret (.l8 (.attr (.var 0) 27) 0 #[.attr (.var 0) 28])] .nil,.ite (.or (.cmp .Eq (.var 1) ‹2›) (.or (.cmp .Eq (.var 1) ‹3›) (.or (.cmp .Eq (.var 1) ‹5›) (.or (.cmp .Eq (.var 1) ‹12›) (.cmp .Eq (.var 1) ‹14›))))) #[.ret (.attr (.var 0) 0)] .nil,.ite (.cmp .Eq (.var 1) ‹4›) #[.ret (.ite (.cmp .Is (.attr (.var 0) 0) (.const .none)) ‹0› (.attr (.var 0) 0))] .nil,.ite (.cmp .Eq (.var 1) ‹6›) #[.ret (.attr (.attr (.var 0) 14) 0)] .nil,.ite (.cmp .Eq (.var 1) ‹8›) #[.ret (.bC .sum #[.comp [2] (.items (.attr (.var 0) 19)) (.ah 499 #[.var 2])])] .nil,.ret ‹0›]
noncomputable def b526:cp:= #[.aw (.var 0) 0 (.ah 110 #[.var 1]),.aw (.var 0) 29 (.ah 110 #[.var 2]),.aw (.var 0) 30 (.ah 110 #[.bin .Sub (.var 1) (.bC .abs #[.var 2])]),.aw (.var 0) 31 (.ah 103 #[.var 3]),.aw (.var 0) 32 (.bC .tuple #[.comp [6,7] (.items (.var 4)) (.tuple #[.ah 110 #[.var 6],.ah 110 #[.var 7]])]),.ite (.not (.ah 89 #[.var 5,‹0›,‹2147483647›])) #[.stuck] .nil,.aw (.var 0) 33 (.var 5)]
noncomputable def b533:cp:= #[.ite (.cmp .NotEq (.attr (.var 0) 32) (.tuple .nil)) #[.ret (.bin .Sub (.bC .len #[.attr (.var 0) 32]) ‹1›)] .nil,.ret (.ite (.cmp .NotEq (.attr (.var 0) 29) ‹0›) (.bC .abs #[.attr (.var 0) 31]) ‹0›)]
noncomputable def b540:cp:= #[.ite (.not (.ah 89 #[.var 1,‹1›,.bin .Mult ‹2› ‹2147483647›])) #[.stuck] .nil,.ite (.cmp .NotEq (.attr (.var 0) 32) (.tuple .nil)) #[.ret (.item (.attr (.var 0) 32) (.bin .Sub (.bC .min #[.var 1,.bC .len #[.attr (.var 0) 32]]) ‹1›))] .nil,.assign 2 (.cmp .Eq (.cmp .LtE (.var 1) (.bC .abs #[.attr (.var 0) 31])) (.cmp .Lt (.attr (.var 0) 31) ‹0›)),.ite (.or (.cmp .Eq (.attr (.var 0) 29) ‹0›) (.not (.var 2))) #[.ret (.tuple #[‹0›,.attr (.var 0) 0])] .nil,.ret (.tuple #[.bC .max #[‹0›,.attr (.var 0) 29],.attr (.var 0) 30])]
noncomputable def b561:cp:= #[.aw (.var 0) 34 ‹0›,.aw (.var 0) 35 ‹10000›,.aw (.var 0) 36 ‹0›,.aw (.var 0) 37 ‹0›,.aw (.var 0) 38 ‹0›,.aw (.var 0) 39 ‹0›,.aw (.var 0) 40 ‹0›,.aw (.var 0) 41 ‹0›,.aw (.var 0) 42 ‹0›,.aw (.var 0) 43 ‹0›,.aw (.var 0) 44 (.callC 227 .nil),.aw (.var 0) 45 (.callC 227 .nil)]
noncomputable def b582:cp:= #[.aw (.var 0) 46 (.var 1),.aw (.var 0) 47 (.var 2),.aw (.var 0) 48 (.var 3),.aw (.var 0) 49 (.var 4),.aw (.var 0) 50 (.var 5)]
noncomputable def b603:cp:= #[.aw (.var 0) 51 (.var 1),.aw (.var 0) 52 (.var 2),.aw (.var 0) 53 (.var 3),.aw (.var 0) 54 (.var 4),.aw (.var 0) 55 (.var 5),.aw (.var 0) 56 (.ite (.cmp .Eq (.attr (.var 1) 42) ‹0›) (.l8 (.var 2) 57 .nil) (.bin .Mult ‹2› ‹2147483647›))]
noncomputable def b617:cp:= #[.for [1] (.items (.tuple #[.attr (.var 0) 34,.attr (.var 0) 35,.attr (.var 0) 36,.attr (.var 0) 37,.attr (.var 0) 38,.attr (.var 0) 39,.attr (.var 0) 40,.attr (.var 0) 41,.attr (.var 0) 42])) #[.expr (.ah 103 #[.var 1])],.expr (.ah 110 #[.attr (.var 0) 43])]
noncomputable def b624:cp:= #[.ret (.or (.cmp .Eq (.attr (.var 0) 5) ‹6›) (.or (.cmp .Eq (.attr (.var 0) 5) ‹7›) (.or (.cmp .Eq (.attr (.var 0) 5) ‹12›) (.and (.cmp .Eq (.attr (.var 0) 5) ‹5›) (.cmp .Eq (.attr (.var 0) 13) ‹1›)))))]
noncomputable def b631:cp:= #[.assign 2 (.list .nil),.bH [3,4] (.tuple #[(.const (.bool true)),(.const (.bool false))]),.for [5,6] (.enum (.var 0)) #[.assign 7 (.attr (.var 6) 5),.bH [8,9] (.tuple #[‹10000›,‹0›]),.ite (.cmp .Eq (.var 7) ‹6›) #[.ite (.and (.var 3) (.var 4)) #[.assign 8 ‹0›] .nil] #[.ite (.cmp .Eq (.var 7) ‹7›) #[.assign 8 (.attr (.var 6) 16)] #[.ite (.cmp .Eq (.var 7) ‹8›) #[.assign 9 ‹1›,.assign 8 (.ite (.cmp .NotEq (.attr (.var 6) 17) (.list .nil)) (.attr (.var 1) 37) (.attr (.var 1) 38))] #[.ite (.or (.cmp .Eq (.var 7) ‹12›) (.and (.cmp .Eq (.var 7) ‹5›) (.cmp .Eq (.attr (.var 6) 13) ‹1›))) #[.ite (.cmp .Eq (.var 7) ‹12›) #[.assign 3 (.not (.attr (.var 6) 25))] .nil,.ite (.and (.var 3) (.and (.cmp .Lt (.bin .Add (.var 5) ‹1›) (.bC .len #[.var 0])) (.cmp .Eq (.attr (.item (.var 0) (.bin .Add (.var 5) ‹1›)) 5) ‹6›))) #[.assign 8 ‹0›] .nil] .nil]]],.ite (.cmp .Lt (.var 8) ‹10000›) #[.expr (.append (.var 2) (.tuple #[.var 5,.bC .max #[.var 8,(.const (.int (-10000)))],.var 9]))] .nil,.assign 4 (.not (.ah 624 #[.var 6]))],.expr (.append (.var 2) (.tuple #[.bC .len #[.var 0],(.const (.int (-10000))),‹1›])),.ret (.var 2)]
noncomputable def b638:cp:= #[.ite (.and (.cmp .Lt (.var 1) (.bC .len #[.var 0])) (.cmp .Eq (.attr (.item (.var 0) (.var 1)) 5) ‹8›)) #[.ite (.cmp .NotEq (.attr (.item (.var 0) (.var 1)) 18) (.list .nil)) #[.ret (.bin .Add (.var 1) ‹1›)] .nil,.aug 1 .Add ‹1›] .nil,.while (.and (.cmp .Lt (.var 1) (.bC .len #[.var 0])) (.ah 624 #[.item (.var 0) (.var 1)])) #[.aug 1 .Add ‹1›],.ret (.var 1)]
noncomputable def b645:cp:= #[.ite (.cmp .NotEq (.attr (.var 1) 4) ‹0›) #[.raise] .nil,.lx (.var 0) ‹0› .Add (.attr (.var 1) 0),.lx (.var 0) (.bin .Add ‹1› (.attr (.var 1) 2)) .Add (.attr (.var 1) 1),.lx (.var 0) ‹5› .Add (.attr (.var 1) 3)]
noncomputable def b652:cp:= #[.assign 1 ‹0›,.for [2] (.items (.var 0)) #[.aug 1 .Add (.ah 499 #[.var 2])],.ret (.var 1)]
noncomputable def b659:cp:= #[.assign 1 (.bC .list #[(.const (.tup [(.int 0),(.int 0),(.int 0),(.int 0),(.int 0),(.int 0)]))]),.assign 2 (.list #[(.const (.tup [(.int 0),(.int 0),(.int 0),(.int 0),(.int 0),(.int 0)]))]),.for [3] (.items (.var 0)) #[.ite (.cmp .Eq (.attr (.var 3) 5) ‹6›) #[.expr (.ah 645 #[.var 1,.attr (.var 3) 14])] #[.ite (.cmp .Eq (.attr (.var 3) 5) ‹8›) #[.lx (.var 1) ‹0› .Add (.ah 652 #[.attr (.var 3) 19])] #[.lx (.var 1) ‹0› .Add (.ah 499 #[.var 3])]],.expr (.append (.var 2) (.bC .tuple #[.var 1]))],.ret (.var 2)]
noncomputable def b666:cp:= #[.ret (.bin .Add (.tuple #[.bin .Add (.item (.var 0) ‹0›) (.var 1)]) (.qM (.var 0)))]
noncomputable def b673:cp:= #[.assign 2 (.ah 659 #[.var 0]),.assign 3 (.list .nil),.for [4,5,6] (.items (.ah 631 #[.var 0,.var 1])) #[.assign 7 (.ah 638 #[.var 0,.var 4]),.bH [8,9] (.tuple #[.item (.var 2) (.var 7),.item (.var 2) (.var 4)]),.ite (.and (.cmp .Lt (.var 4) (.bC .len #[.var 0])) (.cmp .Eq (.var 6) ‹1›)) #[.assign 8 (.ah 666 #[.var 8,.neg (.ah 652 #[.attr (.item (.var 0) (.var 4)) 18])]),.assign 9 (.ah 666 #[.var 9,.ah 652 #[.attr (.item (.var 0) (.var 4)) 17]])] .nil,.expr (.append (.var 3) (.tuple #[.var 4,.var 5,.var 6,.var 7,.var 8,.var 9]))],.ret (.var 3)]
noncomputable def b680:cp:= #[.assign 2 (.bC .list #[(.const (.tup [(.int 0),(.int 0),(.int 0),(.int 0),(.int 0),(.int 0)]))]),.expr (.ah 645 #[.var 2,.attr (.var 0) 44]),.expr (.ah 645 #[.var 2,.attr (.var 0) 45]),.lx (.var 2) ‹1› .Add (.ah 110 #[.var 1]),.ret (.bC .tuple #[.var 2])]
noncomputable def b685:cp:= #[.ret (.bC .tuple #[.comp [3] (.range ‹6›) (.bin .Add (.bin .Sub (.item (.var 1) (.var 3)) (.item (.var 0) (.var 3))) (.item (.var 2) (.var 3)))])]
noncomputable def b692:cp:= #[.assign 2 (.bin .Sub (.var 0) (.item (.var 1) ‹0›)),.ite (.cmp .Gt (.var 2) ‹0›) #[.ite (.or (.cmp .NotEq (.item (.var 1) ‹2›) ‹0›) (.or (.cmp .NotEq (.item (.var 1) ‹3›) ‹0›) (.cmp .NotEq (.item (.var 1) ‹4›) ‹0›))) #[.ret (.tuple #[‹0›,‹2›])] .nil,.assign 3 (.ah 145 #[.var 2,.item (.var 1) ‹1›]),.ite (.cmp .Gt (.var 3) ‹99›) #[.ret (.tuple #[.var 3,‹0›])] .nil,.ret (.tuple #[.var 3,.ite (.cmp .Gt (.var 3) ‹12›) ‹1› ‹2›])] .nil,.ite (.cmp .Gt (.neg (.var 2)) (.item (.var 1) ‹5›)) #[.ret (.tuple #[‹10001›,‹3›])] .nil,.assign 3 (.ah 145 #[.neg (.var 2),.item (.var 1) ‹5›]),.ret (.tuple #[.var 3,.ite (.cmp .Gt (.var 3) ‹12›) ‹3› ‹2›])]
noncomputable def b699:cp:= #[.assign 3 (.bin .Add (.attr (.var 0) 36) (.var 1)),.assign 4 (.ite (.cmp .GtE (.bC .abs #[.var 3]) ‹10000›) ‹100000000› (.bin .Mult (.var 3) (.var 3))),.ite (.cmp .Gt (.var 2) ‹0›) #[.ret (.bin .Add (.var 4) (.bin .Mult (.var 2) (.var 2)))] .nil,.ite (.cmp .Gt (.var 2) (.const (.int (-10000)))) #[.ret (.bin .Sub (.var 4) (.bin .Mult (.var 2) (.var 2)))] .nil,.ret (.var 4)]
noncomputable def b706:cp:= #[.assign 4 ‹0›,.ite (.var 1) #[.aug 4 .Add (.ite (.var 2) (.attr (.var 0) 41) (.attr (.var 0) 40))] .nil,.ite (.cmp .Gt (.var 3) ‹1›) #[.aug 4 .Add (.attr (.var 0) 39)] .nil,.ret (.var 4)]
noncomputable def b713:cp:= #[.bH [4,5,6,7] (.tuple #[.item (.var 1) ‹0›,.item (.var 1) ‹1›,.item (.var 1) ‹2›,.item (.var 1) ‹5›]),.assign 8 (.attr (.var 0) 51),.bH [9,10,11] (.tuple #[.list .nil,.aW,.aW]),.for [12,13] (.enum (.var 2)) #[.assign 14 (.bin .Add (.attr (.var 13) 47) ‹1›),.assign 15 (.ite (.cmp .Gt (.item (.attr (.var 13) 46) ‹3›) (.var 4)) (.attr (.var 0) 54) (.ah 685 #[.item (.attr (.var 13) 46) ‹4›,.var 7,.attr (.var 0) 54])),.bH [16,17] (.ah 692 #[.item (.l8 (.attr (.var 0) 52) 47 #[.var 14]) ‹1›,.var 15]),.assign 18 (.const (.bool false)),.ite (.or (.cmp .Gt (.var 16) ‹10000›) (.cmp .Eq (.var 5) (.const (.int (-10000))))) #[.assign 18 (.and (.attr (.var 0) 55) (.and (.cmp .Eq (.var 9) (.list .nil)) (.and (.cmp .Eq (.var 10) .aW) (.cmp .Eq (.var 12) (.bin .Sub (.bC .len #[.var 2]) ‹1›)))))] #[.expr (.append (.var 9) (.var 13))],.ite (.and (.cmp .Gt (.var 16) (.attr (.var 0) 53)) (.not (.var 18))) #[.cont] .nil,.assign 19 (.attr (.var 13) 49),.ite (.not (.var 18)) #[.assign 20 (.and (.cmp .Eq (.var 6) ‹1›) (.cmp .Eq (.item (.attr (.var 13) 46) ‹2›) ‹1›)),.aug 19 .Add (.bin .Add (.ah 699 #[.var 8,.var 16,.var 5]) (.ah 706 #[.var 8,.var 20,.var 3,.bC .abs #[.bin .Sub (.var 17) (.attr (.var 13) 48)]]))] .nil,.assign 21 (.bC .min #[.var 14,.bin .Add (.attr (.var 0) 56) ‹1›]),.assign 22 (.zl (.var 10) (.bin .Add (.bin .Mult ‹4› (.var 21)) (.var 17))),.ite (.or (.cmp .Is (.var 22) (.const .none)) (.cmp .LtE (.var 19) (.item (.var 22) ‹0›))) #[.iC (.var 10) (.bin .Add (.bin .Mult ‹4› (.var 21)) (.var 17)) (.tuple #[.var 19,.var 13,.var 14]),.iC (.var 11) (.var 21) (.bC .min #[.var 19,.zm (.var 11) (.var 21) (.var 19)])] .nil],.for [12] (.items (.bC .sorted #[.var 10])) #[.bH [19,13,14] (.item (.var 10) (.var 12)),.ite (.cmp .LtE (.var 19) (.bin .Add (.item (.var 11) (.bin .FloorDiv (.var 12) ‹4›)) (.bC .abs #[.attr (.var 8) 39]))) #[.expr (.append (.var 9) (.callC 585 #[.var 1,.var 14,.bin .Mod (.var 12) ‹4›,.var 19,.var 13]))] .nil],.ret (.var 9)]
noncomputable def b720:cp:= #[.assign 2 (.item (.var 0) ‹0›),.for [3] (.items (.var 0)) #[.ite (.cmp .Lt (.attr (.var 3) 49) (.attr (.var 2) 49)) #[.assign 2 (.var 3)] .nil],.bH [4,5] (.tuple #[.var 2,‹0›]),.ite (.cmp .NotEq (.var 1) ‹0›) #[.for [3] (.items (.var 0)) #[.assign 6 (.bin .Sub (.attr (.var 3) 47) (.attr (.var 2) 47)),.assign 7 (.or (.chain .LtE .Lt (.var 1) (.var 6) (.var 5)) (.chain .Lt .LtE (.var 5) (.var 6) (.var 1))),.ite (.or (.var 7) (.and (.cmp .Eq (.var 6) (.var 5)) (.cmp .Lt (.attr (.var 3) 49) (.attr (.var 4) 49)))) #[.bH [4,5] (.tuple #[.var 3,.var 6])] .nil]] .nil,.ret (.tuple #[.var 4,.var 5])]
noncomputable def b727:cp:= #[.assign 1 (.list .nil),.while (.cmp .IsNot (.attr (.var 0) 50) (.const .none)) #[.expr (.append (.var 1) (.item (.attr (.var 0) 46) ‹0›)),.assign 0 (.attr (.var 0) 50)],.ret (.rev (.var 1))]
noncomputable def b734:cp:= #[.expr (.ah 617 #[.var 1]),.assign 6 (.ah 680 #[.var 1,.var 4]),.assign 7 (.callC 606 #[.var 1,.var 2,.bC .min #[.ah 103 #[.var 3],‹10000›],.var 6,.var 5]),.assign 8 (.list #[.callC 585 #[.tuple #[.neg ‹1›,‹0›,‹0›,‹0›,(.const (.tup [(.int 0),(.int 0),(.int 0),(.int 0),(.int 0),(.int 0)])),(.const (.tup [(.int 0),(.int 0),(.int 0),(.int 0),(.int 0),(.int 0)]))],.attr (.var 2) 33,‹2›,‹0›,(.const .none)]]),.for [9] (.items (.ah 673 #[.var 0,.var 1])) #[.assign 8 (.ah 713 #[.var 7,.var 9,.var 8,.cmp .Eq (.item (.var 9) ‹0›) (.bC .len #[.var 0])]),.ite (.cmp .Eq (.var 8) (.list .nil)) #[.ret (.const .none)] .nil],.bH [10,11] (.ah 720 #[.var 8,.attr (.var 1) 42]),.ite (.and (.cmp .NotEq (.var 11) (.attr (.var 1) 42)) (.not (.var 5))) #[.ret (.const .none)] .nil,.ret (.ah 727 #[.var 10])]
noncomputable def b741:cp:= #[.assign 1 ‹0›,.for [2] (.items (.l7 (.var 0))) #[.assign 3 (.bC .abs #[.var 2]),.ite (.cmp .Lt (.var 3) (.bin .Pow ‹10› ‹18›)) #[.assign 3 (.bin .Mod (.bin .Mult (.bin .Add (.bin .Add (.bin .Mult ‹2› (.var 3)) ‹1›) (.bC .int #[.cmp .Lt (.var 2) ‹0›])) ‹618033988749894848204586834365638117720309179805762862135449›) (.bin .Pow ‹10› ‹60›))] .nil,.assign 1 (.bin .Mod (.bin .Add (.bin .Mult (.var 1) ‹1000003›) (.var 3)) (.bin .Pow ‹10› ‹300›))],.ret (.list #[.var 1,‹0›])]
noncomputable def b748:cp:= #[.ite (.cmp .Gt (.item (.var 0) ‹0›) ‹0›) #[.assign 2 (.bin .Mod (.item (.var 0) ‹0›) (.var 1)),.iC (.var 0) ‹0› (.bin .FloorDiv (.item (.var 0) ‹0›) (.var 1)),.ret (.var 2)] .nil,.lx (.var 0) ‹1› .Add ‹1›,.ret (.bin .Mod (.bin .Mod (.bin .Add (.bin .Add (.bin .Mult (.bin .Mult ‹7› (.item (.var 0) ‹1›)) (.item (.var 0) ‹1›)) (.bin .Mult ‹5› (.item (.var 0) ‹1›))) ‹3›) ‹101›) (.var 1))]
noncomputable def b755:cp:= #[.assign 1 (.callC 564 .nil),.aw (.var 1) 36 (.item (.list #[‹10›,‹0›,‹100›,.neg ‹50›]) (.ah 748 #[.var 0,‹4›])),.aw (.var 1) 37 (.item (.list #[‹50›,‹10000›,.neg ‹30›,‹0›,‹12000›,‹200›]) (.ah 748 #[.var 0,‹6›])),.aw (.var 1) 38 (.item (.list #[‹50›,‹10000›,.neg ‹20›]) (.ah 748 #[.var 0,‹3›])),.aw (.var 1) 39 (.item (.list #[‹0›,‹5000›,‹200›,.neg ‹300›]) (.ah 748 #[.var 0,‹4›])),.aw (.var 1) 40 (.item (.list #[‹0›,‹3000›,.neg ‹500›]) (.ah 748 #[.var 0,‹3›])),.aw (.var 1) 41 (.item (.list #[‹0›,‹1000›,‹5000›]) (.ah 748 #[.var 0,‹3›])),.aw (.var 1) 42 (.item (.list #[‹0›,‹0›,‹0›,‹1›,.neg ‹1›,‹2›]) (.ah 748 #[.var 0,‹6›])),.aw (.var 1) 44 (.item (.list #[.callC 227 .nil,.callC 227 #[‹3›,‹2›,‹0›,‹0›,‹0›],.callC 227 #[‹0›,‹5›,‹0›,‹1›,‹0›]]) (.ah 748 #[.var 0,‹3›])),.aw (.var 1) 45 (.item (.list #[.callC 227 .nil,.callC 227 #[‹2›,‹4›,‹0›,‹0›,‹0›],.callC 227 #[‹0›,‹9›,‹0›,‹0›,‹0›]]) (.ah 748 #[.var 0,‹3›])),.ret (.var 1)]
noncomputable def b762:cp:= #[.bH [1,2,3] (.tuple #[.ah 748 #[.var 0,‹4›],.bin .Add ‹40› (.ah 748 #[.var 0,‹50›]),.item (.list #[‹0›,‹0›,‹2›]) (.ah 748 #[.var 0,‹3›])]),.ite (.cmp .Lt (.var 1) ‹2›) #[.ret (.callC 543 #[.var 2,‹0›,‹1›,.tuple .nil,.var 3])] .nil,.ite (.cmp .Eq (.var 1) ‹2›) #[.ret (.callC 543 #[.var 2,‹7›,‹1›,.tuple #[.tuple #[‹0›,.var 2],.tuple #[‹5›,.bin .Sub (.var 2) ‹8›],.tuple #[‹0›,.bin .Add (.var 2) ‹6›]],.var 3])] .nil,.bH [4,5] (.item (.list #[.tuple #[‹10›,‹1›],.tuple #[.neg ‹12›,.neg ‹1›],.tuple #[‹9›,‹2›],.tuple #[.neg ‹8›,.neg ‹2›]]) (.ah 748 #[.var 0,‹4›])),.ret (.callC 543 #[.var 2,.var 4,.var 5,.tuple .nil,.var 3])]
noncomputable def b769:cp:= #[.expr (.append (.eV (.var 0) 60) (.bin .Add (.bC .len #[.eV (.var 0) 61]) (.var 3))),.expr (.append (.eV (.var 0) 62) (.var 1)),.expr (.extend (.eV (.var 0) 61) (.var 2))]
noncomputable def b776:cp:= #[.bH [2,3] (.tuple #[.bin .Add ‹1› (.ah 748 #[.var 0,‹5›]),.item (.list #[‹0›,‹2›,.neg ‹3›]) (.ah 748 #[.var 0,‹3›])]),.ite (.cmp .Eq (.var 3) ‹0›) #[.ret (.list #[.callC 279 #[‹2›,.var 2,‹0›,‹0›,.list .nil],.callC 279 #[‹2›,.bin .Sub (.var 1) (.var 2),‹0›,‹0›,.list .nil]])] .nil,.ret (.list #[.callC 279 #[‹2›,.var 2,‹0›,‹0›,.list .nil],.callC 321 #[.var 3,.ah 748 #[.var 0,‹4›]],.callC 279 #[‹2›,.bin .Sub (.bin .Sub (.var 1) (.var 2)) (.var 3),‹0›,‹0›,.list .nil]])]
noncomputable def b783:cp:= #[.assign 1 (.ah 748 #[.var 0,‹4›]),.ite (.cmp .Eq (.var 1) ‹0›) #[.ret (.callC 406 #[.list #[.tuple #[‹11›,‹65›]]])] .nil,.ite (.cmp .Eq (.var 1) ‹1›) #[.ret (.callC 490 #[.list #[‹65›,‹66›]])] .nil,.ret (.ite (.cmp .Eq (.var 1) ‹2›) (.callC 427 #[‹3›,‹9›,‹0›,.callC 227 .nil,‹100›,.list #[.callC 364 #[‹5›]]]) (.callC 448 #[.list #[.callC 321 #[‹4›,‹1›]]]))]
noncomputable def b790:cp:= #[.bH [4,5] (.tuple #[.bin .Add ‹8› (.ah 748 #[.var 0,‹25›]),.ah 748 #[.var 0,‹10›]]),.assign 6 (.callC 279 #[‹2›,.var 4,‹0›,‹0›,.list .nil]),.assign 7 (.list #[.var 6]),.ite (.cmp .Lt (.var 5) ‹3›) #[.assign 7 (.ah 776 #[.var 0,.var 4])] #[.ite (.cmp .Eq (.var 5) ‹3›) #[.assign 7 (.list #[.callC 279 #[‹2›,‹3›,‹0›,‹0›,.list .nil],.callC 364 #[.bin .Add ‹10000› (.ah 748 #[.var 0,‹3›])],.callC 279 #[‹2›,.bin .Sub (.var 4) ‹3›,‹0›,‹0›,.list .nil]])] #[.ite (.cmp .Eq (.var 5) ‹4›) #[.expr (.insert (.var 7) (.ah 748 #[.var 0,‹2›]) (.ah 783 #[.var 0]))] #[.ite (.cmp .Eq (.var 5) ‹5›) #[.assign 7 (.list #[.callC 300 #[.var 4,(.const .none),.item (.list #[(.const .none),‹3›]) (.ah 748 #[.var 0,‹2›])]])] #[.ite (.cmp .Eq (.var 5) ‹6›) #[.assign 7 (.list #[.callC 279 #[‹3›,.var 4,‹7›,‹3›,.list #[.callC 321 #[‹2›,‹1›]]]]),.aw (.item (.var 7) ‹0›) 9 (.neg ‹4›)] #[.ite (.and (.cmp .Eq (.var 5) ‹7›) (.var 3)) #[.assign 7 (.list #[.callC 469 #[(.const (.bool true)),‹0›],.var 6,.callC 469 #[(.const (.bool false)),‹0›]])] #[.ite (.and (.cmp .Eq (.var 5) ‹8›) (.cmp .GtE (.bC .max #[.attr (.var 2) 37,.attr (.var 2) 38]) ‹10000›)) #[.assign 8 (.ite (.cmp .GtE (.attr (.var 2) 37) ‹10000›) (.list #[.callC 279 #[‹2›,‹4›,‹0›,‹0›,.list .nil]]) (.list .nil)),.assign 7 (.list #[.callC 279 #[‹2›,‹5›,‹0›,‹0›,.list .nil],.callC 385 #[.var 8,.list #[.callC 279 #[‹2›,‹1›,‹0›,‹0›,.list .nil]],.list .nil],.callC 279 #[‹2›,.bin .Sub (.var 4) ‹5›,‹0›,‹0›,.list .nil]])] .nil]]]]]],.expr (.ah 769 #[.var 1,.var 6,.var 7,‹0›])]
noncomputable def zp:cp:= #[.bH [4,5] (.tuple #[.callC 343 #[.var 2,‹0›],.ah 748 #[.var 0,‹9›]]),.bH [6,7,8,9,10] (.l8 (.var 2) 65 .nil),.assign 11 (.list #[.var 4]),.ite (.cmp .Lt (.var 5) ‹4›) #[.assign 12 (.callC 227 #[.bin .Sub (.ah 748 #[.var 0,‹6›]) ‹1›,.ah 748 #[.var 0,‹4›],.var 8,.ah 748 #[.var 0,‹3›],.var 10]),.assign 13 (.callC 227 #[.bin .Sub (.var 6) (.attr (.var 12) 0),.bin .Sub (.var 7) (.attr (.var 12) 1),.var 8,.bin .Sub (.var 9) (.attr (.var 12) 3),.var 10]),.assign 11 (.list #[.callC 343 #[.var 12,‹0›],.callC 343 #[.var 13,‹0›]])] #[.ite (.cmp .Eq (.var 5) ‹4›) #[.assign 11 (.list #[.callC 343 #[.var 2,.bin .Add ‹1› (.ah 748 #[.var 0,‹3›]),.callC 300 #[(.const .none),‹2›,‹0›]]])] #[.ite (.cmp .Eq (.var 5) ‹5›) #[.assign 11 (.list #[.callC 343 #[.var 2,.bin .Add ‹100› (.ah 748 #[.var 0,‹19›])]])] #[.ite (.and (.cmp .Eq (.var 5) ‹6›) (.var 3)) #[.assign 11 (.list #[.callC 321 #[‹0›,‹1›],.var 4])] .nil]]],.ite (.cmp .In (.var 5) (.tuple #[‹1›,‹3›,‹6›,‹7›])) #[.expr (.append (.var 11) (.callC 364 #[.bin .Add ‹10000› (.ah 748 #[.var 0,‹3›])]))] .nil,.ite (.cmp .In (.var 5) (.tuple #[‹2›,‹3›,‹8›])) #[.expr (.append (.var 11) (.callC 321 #[‹0›,‹1›]))] .nil,.expr (.ah 769 #[.var 1,.var 4,.var 11,.ite (.and (.cmp .Eq (.attr (.item (.var 11) ‹0›) 5) ‹6›) (.cmp .Eq (.attr (.item (.eV (.var 1) 61) (.neg ‹1›)) 5) ‹12›)) (.neg ‹1›) ‹0›])]
noncomputable def b804:cp:= #[.bH [1,2,3] (.tuple #[.item (.list #[‹4›,‹5›,‹6›,‹7›,.neg ‹2›]) (.ah 748 #[.var 0,‹5›]),.bin .Add ‹1› (.ah 748 #[.var 0,‹7›]),.item (.list #[‹0›,‹0›,‹0›,‹0›,‹0›,‹1›,‹2›]) (.ah 748 #[.var 0,‹7›])]),.ret (.callC 227 #[.var 1,.var 2,.var 3,.item (.list #[‹0›,‹1›,‹2›,‹3›,‹8›]) (.ah 748 #[.var 0,‹5›]),.bC .int #[.cmp .Eq (.ah 748 #[.var 0,‹25›]) ‹7›]])]
noncomputable def b811:cp:= #[.assign 3 (.ah 748 #[.var 0,‹400›]),.expr (.ah 769 #[.var 1,.callC 364 #[.var 2],.list #[.callC 364 #[.ite (.cmp .GtE (.var 2) ‹10000›) (.bin .Add (.var 2) (.var 3)) (.ite (.cmp .LtE (.var 2) (.neg ‹10000›)) (.bin .Sub (.var 2) (.var 3)) (.var 2))]],‹0›])]
noncomputable def b816:cp:= #[.assign 3 (.comp [8] (.range ‹3›) (.item (.list #[(.const .none),‹3›,‹2›,‹6›]) (.ah 748 #[.var 0,‹4›]))),.assign 4 (.comp [9] (.items (.var 3)) (.ite (.cmp .Is (.var 9) (.const .none)) (.list .nil) (.list #[.callC 279 #[‹2›,.var 9,‹0›,‹0›,.list .nil]]))),.assign 5 (.comp [9] (.items (.var 3)) (.ite (.cmp .Is (.var 9) (.const .none)) (.list .nil) (.ah 776 #[.var 0,.var 9]))),.assign 6 (.ite (.cmp .Is (.item (.var 3) ‹0›) (.const .none)) (.attr (.var 2) 38) (.attr (.var 2) 37)),.assign 7 (.ite (.cmp .GtE (.var 6) ‹10000›) (.item (.var 5) ‹2›) (.list #[.callC 385 #[.item (.var 5) ‹0›,.item (.var 5) ‹1›,.item (.var 5) ‹2›]])),.expr (.ah 769 #[.var 1,.callC 385 #[.item (.var 4) ‹0›,.item (.var 4) ‹1›,.item (.var 4) ‹2›],.var 7,‹0›])]
noncomputable def b823:cp:= #[.assign 3 (.ah 748 #[.var 0,‹10›]),.ite (.cmp .Lt (.var 3) ‹4›) #[.expr (.ah 797 #[.var 0,.var 1,.ah 804 #[.var 0],(.const (.bool true))])] #[.ite (.cmp .Lt (.var 3) ‹6›) #[.expr (.ah 811 #[.var 0,.var 1,.item (.list #[‹50›,.neg ‹50›,‹10000›,‹120›,.neg ‹300›,‹9999›,.neg ‹10000›]) (.ah 748 #[.var 0,‹7›])]),.ite (.cmp .Gt (.ah 748 #[.var 0,‹3›]) ‹0›) #[.expr (.ah 797 #[.var 0,.var 1,.ah 804 #[.var 0],(.const (.bool false))])] .nil] #[.ite (.cmp .Eq (.var 3) ‹6›) #[.expr (.ah 816 #[.var 0,.var 1,.var 2])] #[.ite (.cmp .Eq (.var 3) ‹7›) #[.expr (.ah 769 #[.var 1,.callC 321 #[‹3›,‹1›],.list #[.callC 321 #[‹3›,‹1›]],‹0›]),.expr (.ah 797 #[.var 0,.var 1,.ah 804 #[.var 0],(.const (.bool false))])] #[.ite (.cmp .Eq (.var 3) ‹8›) #[.expr (.ah 769 #[.var 1,.callC 321 #[‹3›,‹0›],.list #[.callC 321 #[‹3›,.item (.list #[‹0›,‹2›,‹3›]) (.ah 748 #[.var 0,‹3›])]],‹0›]),.expr (.ah 797 #[.var 0,.var 1,.ah 804 #[.var 0],(.const (.bool true))])] #[.expr (.ah 769 #[.var 1,.callC 469 #[(.const (.bool true)),‹1›],.list #[.callC 469 #[(.const (.bool true)),‹1›]],‹0›]),.expr (.ah 790 #[.var 0,.var 1,.var 2,(.const (.bool false))]),.expr (.ah 797 #[.var 0,.var 1,.ah 804 #[.var 0],(.const (.bool false))]),.expr (.ah 769 #[.var 1,.callC 469 #[(.const (.bool false)),‹2›],.list #[.callC 469 #[(.const (.bool false)),‹2›]],‹0›]),.expr (.ah 797 #[.var 0,.var 1,.ah 804 #[.var 0],(.const (.bool false))])]]]]]]
noncomputable def b830:cp:= #[.ite (.cmp .NotEq (.bC .len #[.var 0]) (.bC .len #[.var 1])) #[.ret (.const (.bool false))] .nil,.for [2,3] (.zip (.var 0) (.var 1)) #[.ite (.cmp .IsNot (.var 2) (.var 3)) #[.ret (.const (.bool false))] .nil],.ret (.const (.bool true))]
noncomputable def b837:cp:= #[.assign 5 (.bC .list #[.var 0]),.try #[.assign 6 (.ah 734 #[.var 5,.var 1,.var 2,.item (.var 3) ‹0›,.item (.var 3) ‹1›,.var 4])] 6 (.str s!"refused"),.ret (.ite (.ah 830 #[.var 5,.var 0]) (.var 6) (.const (.str s!"changed")))]
noncomputable def b842:cp:= #[.ite (.cmp .Eq (.var 1) (.const (.str s!"refused"))) #[.ret (.cmp .Eq (.var 2) (.const (.str s!"refused")))] .nil,.ite (.cmp .Is (.var 1) (.const .none)) #[.ret (.and (.cmp .Is (.var 2) (.const .none)) (.not (.var 3)))] .nil,.ite (.or (.cmp .Eq (.var 1) (.const (.str s!"changed"))) (.or (.cmp .Is (.var 2) (.const .none)) (.or (.cmp .Eq (.var 2) (.const (.str s!"refused"))) (.cmp .Eq (.var 2) (.const (.str s!"changed")))))) #[.ret (.const (.bool false))] .nil,.for [4] (.items (.var 2)) #[.ite (.isBool (.var 4)) #[.ret (.const (.bool false))] .nil],.ret (.cmp .Eq (.var 2) (.comp [4] (.items (.var 1)) (.item (.eV (.var 0) 60) (.var 4))))]
noncomputable def w5:cp:= #[.assign 1 (.ah 741 #[.var 0]),.bH [2,3] (.tuple #[.item (.list #[‹2›,‹3›,‹4›,‹3›,‹2›]) (.ah 748 #[.var 1,‹5›]),.ah 755 #[.var 1]]),.assign 4 (.ah 762 #[.var 1]),.assign 5 (.tuple #[.item (.list #[‹10000›,‹200›,‹1000›,‹30›]) (.ah 748 #[.var 1,‹4›]),.item (.list #[‹0›,‹0›,‹20›]) (.ah 748 #[.var 1,‹3›])]),.bH [6,7] (.tuple #[.d9 [62,61,60] #[.list .nil,.list .nil,.list .nil],.ah 748 #[.var 1,‹4›]]),.expr (.ah 790 #[.var 1,.var 6,.var 3,(.const (.bool true))]),.for [8] (.range (.var 2)) #[.expr (.ah 823 #[.var 1,.var 6,.var 3]),.expr (.ah 790 #[.var 1,.var 6,.var 3,(.const (.bool true))])],.ite (.cmp .NotEq (.var 7) ‹2›) #[.expr (.ah 811 #[.var 1,.var 6,‹10000›]),.expr (.ah 797 #[.var 1,.var 6,.ite (.cmp .Lt (.var 7) ‹2›) (.callC 227 #[‹0›,‹6›,‹1›,‹0›,‹0›]) (.callC 227 #[‹2›,‹9›,‹0›,‹1›,‹0›]),(.const (.bool false))])] .nil,.expr (.append (.eV (.var 6) 60) (.bC .len #[.eV (.var 6) 61])),.for [9] (.items (.tuple #[(.const (.bool false)),(.const (.bool true))])) #[.assign 10 (.ah 837 #[.eV (.var 6) 62,.var 3,.var 4,.var 5,.var 9]),.ite (.not (.ah 842 #[.var 6,.var 10,.ah 837 #[.eV (.var 6) 61,.var 3,.var 4,.var 5,.var 9],.var 9])) #[.ret (.const (.bool false))] .nil],.ret (.const (.bool true))]
end
noncomputable def zq:List (Nat×iP):=[
 (89,⟨3,3,[],b89⟩),
 (96,⟨1,1,[],b96⟩),
 (103,⟨1,1,[],b103⟩),
 (110,⟨1,1,[],b110⟩),
 (145,⟨2,3,[],b145⟩),
 (174,⟨6,6,[(.int 0),(.int 0),(.int 0),(.int 0),(.int 0)],b174⟩),
 (181,⟨1,1,[],b181⟩),
 (262,⟨1,2,[],b262⟩),
 (276,⟨6,6,[],b276⟩),
 (297,⟨4,5,[],b297⟩),
 (318,⟨3,3,[],b318⟩),
 (340,⟨4,4,[.none],b340⟩),
 (361,⟨2,2,[],b361⟩),
 (382,⟨4,4,[],b382⟩),
 (403,⟨2,2,[],b403⟩),
 (424,⟨7,7,[],b424⟩),
 (445,⟨2,2,[],b445⟩),
 (466,⟨3,3,[],b466⟩),
 (487,⟨2,3,[],b487⟩),
 (499,⟨1,3,[],b499⟩),
 (526,⟨6,8,[(.int 0),(.int 1),(.tup []),(.int 0)],b526⟩),
 (533,⟨1,1,[],b533⟩),
 (540,⟨2,3,[],b540⟩),
 (561,⟨1,1,[],b561⟩),
 (582,⟨6,6,[],b582⟩),
 (603,⟨6,6,[],b603⟩),
 (617,⟨1,2,[],b617⟩),
 (624,⟨1,1,[],b624⟩),
 (631,⟨2,10,[],b631⟩),
 (638,⟨2,2,[],b638⟩),
 (645,⟨2,2,[],b645⟩),
 (652,⟨1,3,[],b652⟩),
 (659,⟨1,4,[],b659⟩),
 (666,⟨2,2,[],b666⟩),
 (673,⟨2,10,[],b673⟩),
 (680,⟨2,3,[],b680⟩),
 (685,⟨3,4,[],b685⟩),
 (692,⟨2,4,[],b692⟩),
 (699,⟨3,5,[],b699⟩),
 (706,⟨4,5,[],b706⟩),
 (713,⟨4,23,[],b713⟩),
 (720,⟨2,8,[],b720⟩),
 (727,⟨1,2,[],b727⟩),
 (734,⟨6,12,[],b734⟩),
 (741,⟨1,4,[],b741⟩),
 (748,⟨2,3,[],b748⟩),
 (755,⟨1,2,[],b755⟩),
 (762,⟨1,6,[],b762⟩),
 (769,⟨4,4,[],b769⟩),
 (776,⟨2,4,[],b776⟩),
 (783,⟨1,2,[],b783⟩),
 (790,⟨4,9,[],b790⟩),
 (797,⟨4,14,[],zp⟩),
 (804,⟨1,4,[],b804⟩),
 (811,⟨3,4,[],b811⟩),
 (816,⟨3,10,[],b816⟩),
 (823,⟨3,4,[],b823⟩),
 (830,⟨2,4,[],b830⟩),
 (837,⟨5,7,[],b837⟩),
 (842,⟨4,5,[],b842⟩),
 (849,⟨1,11,[],w5⟩)]
noncomputable def mh:List (Nat×ClsRec):=[
 (227,⟨some 174,[],[(65,181)]⟩),
 (279,⟨some 276,[],[]⟩),
 (300,⟨some 297,[(5,.int 4)],[]⟩),
 (321,⟨some 318,[(5,.int 5)],[]⟩),
 (343,⟨some 340,[(5,.int 6)],[]⟩),
 (364,⟨some 361,[(5,.int 7)],[]⟩),
 (385,⟨some 382,[(5,.int 8)],[]⟩),
 (406,⟨some 403,[(5,.int 9)],[]⟩),
 (427,⟨some 424,[(5,.int 10)],[]⟩),
 (448,⟨some 445,[(5,.int 11)],[]⟩),
 (469,⟨some 466,[(5,.int 12)],[]⟩),
 (490,⟨some 487,[(5,.int 13),(13,.int 0)],[]⟩),
 (543,⟨some 526,[],[(57,533),(47,540)]⟩),
 (564,⟨some 561,[],[]⟩),
 (585,⟨some 582,[],[]⟩),
 (606,⟨some 603,[],[]⟩)]
noncomputable def dQ:List (Nat×Nat):=[(227,65),(543,57),(543,47)]
noncomputable def aO(ns:List Int):ec:=⟨zq,mh,dQ,ns⟩
@[irreducible] def WO {α:Type} (x:Option α) (k:α→Prop):Prop:=∃a,x=some a∧k a
@[irreducible] def WG (c A:Prop):Prop:=c∧A
@[irreducible] def WP (c A B:Prop):Prop:=(c→A)∧(¬c→B)
theorem WO.of{α:Type}{x:Option α}{a:α}{k:α→Prop}(h:x=some a)(g:k a):WO x k:=by unfold WO;exact⟨a,h,g⟩
theorem WO.el{α:Type}{x:Option α}{k:α→Prop}(h:WO x k):∃a,x=some a∧k a:=by unfold WO at h;exact h
theorem WG.of{c A:Prop}(h:c)(g:A):WG c A:=by unfold WG;exact⟨h,g⟩
theorem WG.el{c A:Prop}(h:WG c A):c∧A:=by unfold WG at h;exact h
theorem WP.of{c A B:Prop}(h:c→A)(g:¬c→B):WP c A B:=by unfold WP;exact⟨h,g⟩
theorem WP.el{c A B:Prop}(h:WP c A B):(c→A)∧(¬c→B):=by unfold WP at h;exact h
theorem WP.pos{c A B:Prop}(h:c)(g:A):WP c A B:=.of (fun _=>g) fun n=>absurd h n
theorem WP.neg{c A B:Prop}(h:¬c)(g:B):WP c A B:=.of (fun n=>absurd n h) fun _=>g
abbrev wb(b:Bool)(A B:Prop):Prop:=match b with
 |true=>A
 |false=>B
theorem yN{b:Bool}{A B:Prop}(h:b=true→A)(g:b=false→B):wb b A B:=by cases b;exact g rfl;exact h rfl
theorem wbe{b:Bool}{A B:Prop}(h:wb b A B):(b=true→A)∧(b=false→B):=by cases b;exact⟨nofun,fun _=>h⟩;exact⟨fun _=>h,nofun⟩
abbrev WV(v:PV)(A B:Prop):Prop:=match v with
 |.bool b=>wb b A B
 |_=>False
abbrev look:Loc→Nat→(PV→Prop)→Prop
 |[],_,_=>False
 |o::_,0,k=>match o with
  |some v=>k v
  |none=>False
 |_::r,n+1,k=>look r n k
abbrev putL(v:PV):Loc→Nat→(Loc→Prop)→Prop
 |[],_,_=>False
 |_::r,0,k=>k (some v::r)
 |a::r,n+1,k=>putL v r n fun l=>k (a::l)
abbrev iQ:List Nat→List PV→Loc→(Loc→Prop)→Prop
 |[],[],loc,k=>k loc
 |x::xs,v::vs,loc,k=>putL v loc x fun l=>iQ xs vs l k
 |_,_,_,_=>False
abbrev jn(v:PV)(k:List PV→Prop):Prop:=match v with
 |.tup l=>k l
 |_=>False
theorem jn.el{v:PV}{k:List PV→Prop}(h:jn v k):∃i,v=.tup i∧k i:=by
 cases v<;>first|exact h.elim|exact⟨_,rfl,h⟩
abbrev f6(cg:List Nat)(v:PV)(loc:Loc)(k:Loc→Prop):Prop:=match cg with
 |[x]=>putL v loc x k
 |_=>jn v fun l=>iQ cg l loc k
abbrev wI(v:PV)(k:Int→Prop):Prop:=match v with
 |.int i=>k i
 |_=>False
theorem wI.el{v:PV}{k:Int→Prop}(h:wI v k):∃i,v=.int i∧k i:=by
 cases v<;>first|exact h.elim|exact⟨_,rfl,h⟩
abbrev dj(v:PV)(k:Nat→Prop):Prop:=match v with
 |.ref l=>k l
 |_=>False
theorem dj.el{v:PV}{k:Nat→Prop}(h:dj v k):∃i,v=.ref i∧k i:=by
 cases v<;>first|exact h.elim|exact⟨_,rfl,h⟩
abbrev wL(H:aa)(r:Nat)(k:List PV→Prop):Prop:=WO H[r]? fun o=>match o with
 |.list l=>k l
 |_=>False
theorem wL.el{H:aa}{r:Nat}{k:List PV→Prop}(h:wL H r k):∃l,H[r]? =some (.list l)∧k l:=by
 obtain⟨o,e,h⟩:=WO.el h
 cases o<;>first|exact h.elim|exact⟨_,e,h⟩
abbrev w6(H:aa)(r:Nat)(k:List (Int×PV)→Prop):Prop:=WO H[r]? fun o=>match o with
 |.aW l=>k l
 |_=>False
theorem w6.el{H:aa}{r:Nat}{k:List (Int×PV)→Prop}(h:w6 H r k):∃l,H[r]? =some (.aW l)∧k l:=by
 obtain⟨o,e,h⟩:=WO.el h
 cases o<;>first|exact h.elim|exact⟨_,e,h⟩
abbrev wAdd(x y:PV)(k:PV→Prop):Prop:=match x with
 |.int a=>wI y fun b=>k (.int (a+b))
 |.tup a=>jn y fun b=>WG (a.length+b.length<1000) (k (.tup (a++b)))
 |_=>False
abbrev wBin(op:Operator)(x y:PV)(k:PV→Prop):Prop:=match op with
 |.Add=>wAdd x y k
 |.Sub=>wI x fun a=>wI y fun b=>k (.int (a - b))
 |.Mult=>wI x fun a=>wI y fun b=>WG (a.natAbs<2 ^ 64∨b.natAbs<2 ^ 64) (k (.int (a * b)))
 |.FloorDiv=>wI x fun a=>wI y fun b=>WG (b≠0∧Builtin.divisionGoesByPylong a b=false) (k (.int (a.fdiv b)))
 |.Mod=>wI x fun a=>wI y fun b=>WG (b≠0) (k (.int (a.fmod b)))
 |.Pow=>wI x fun a=>wI y fun b=>WG (a.natAbs<2 ^ 64∧0≤b∧b≤1000) (k (.int (a ^ b.toNat)))
 |_=>False
abbrev wAug(op:Operator)(x y:PV)(k:PV→Prop):Prop:=match op with
 |.Add=>wI x fun a=>wI y fun b=>k (.int (a+b))
 |_=>False
abbrev wBo(v:PV)(k:Bool→Prop):Prop:=match v with
 |.bool l=>k l
 |_=>False
theorem wBo.el{v:PV}{k:Bool→Prop}(h:wBo v k):∃i,v=.bool i∧k i:=by
 cases v<;>first|exact h.elim|exact⟨_,rfl,h⟩
abbrev wSt(v:PV)(k:Str→Prop):Prop:=match v with
 |.str l=>k l
 |_=>False
theorem wSt.el{v:PV}{k:Str→Prop}(h:wSt v k):∃i,v=.str i∧k i:=by
 cases v<;>first|exact h.elim|exact⟨_,rfl,h⟩
abbrev wEq(H:aa)(x y:PV)(A B:Prop):Prop:=match x with
 |.int a=>wI y fun b=>WP (a=b) A B
 |.bool a=>wBo y fun b=>WP (a=b) A B
 |.str a=>wSt y fun b=>WP ((a == b)=true) A B
 |.none=>wSt y fun _=>B
 |.tup l=>(match y with
  |.tup m=>(match m with
   |[]=>(match l with
    |[]=>A
    |_::_=>B)
   |_::_=>False)
  |_=>False)
 |.ref i=>(match y with
  |.str _=>wL H i fun _=>B
  |.ref j=>WO (n7 H (.ref i) (.ref j)) fun t=>wb t A B
  |_=>False)
 |_=>False
abbrev wIs(x y:PV)(A B:Prop):Prop:=match y with
 |.none=>(match x with
  |.none=>A
  |.ref _=>B
  |.int _=>B
  |.tup _=>B
  |_=>False)
 |.ref j=>dj x fun i=>WP (i=j) A B
 |_=>False
abbrev qN(op:CmpOp)(H:aa)(x y:PV)(A B:Prop):Prop:=match op with
 |.Eq=>wEq H x y A B
 |.NotEq=>wEq H x y B A
 |.Is=>wIs x y A B
 |.IsNot=>wIs x y B A
 |.Lt=>wI x fun a=>wI y fun b=>WP (a<b) A B
 |.LtE=>wI x fun a=>wI y fun b=>WP (a≤b) A B
 |.Gt=>wI x fun a=>wI y fun b=>WP (b<a) A B
 |.GtE=>wI x fun a=>wI y fun b=>WP (b≤a) A B
 |.In=>wI x fun a=>jn y fun l=>WO (kK l) fun is=>WP (is.contains a=true) A B
 |_=>False
abbrev zr(op:CmpOp)(H:aa)(x y:PV)(k:Bool→Prop):Prop:=match op with
 |.Lt=>wI x fun a=>wI y fun b=>k (decide (a<b))
 |.LtE=>wI x fun a=>wI y fun b=>k (decide (a≤b))
 |.Gt=>wI x fun a=>wI y fun b=>k (decide (b<a))
 |.GtE=>wI x fun a=>wI y fun b=>k (decide (b≤a))
 |.Eq=>(match x with
  |.int a=>wI y fun b=>k (decide (a=b))
  |.bool a=>wBo y fun b=>k (a == b)
  |_=>wEq H x y (k true) (k false))
 |op=>qN op H x y (k true) (k false)
noncomputable abbrev short:List PV→Nat→Bool
 |[],_=>true
 |_::_,0=>false
 |_::r,n+1=>short r n
abbrev nU:List PV→Nat→(PV→Prop)→Prop
 |[],_,_=>False
 |v::_,0,k=>k v
 |_::r,n+1,k=>nU r n k
def kL(H:aa)(a i:PV)(k:PV→Prop):Prop:=match a with
 |.tup l=>wI i fun j=>(match j with
  |.ofNat n=>wb (short l 100) (nU l n k) False
  |.negSucc _=>False)
 |.ref r=>wI i fun j=>WO H[r]? fun o=>(match o with
  |.list l=>WO ((place j l.length).bind fun m=>l[m]?) k
  |.aW es=>WO (ey j es) k
  |_=>False)
 |_=>False
def f7(H:aa)(o i v:PV)(k:aa→Prop):Prop:=dj o fun r=>wI i fun j=>WO H[r]? fun o=>match o with
 |.list l=>WG (0≤j∧j<l.length∧l.length<100000) (k (H.set r (.list (l.set j.toNat v))))
 |.aW es=>WG (es.length<1000) (k (H.set r (.aW (n8 j v es))))
 |_=>False
abbrev w1(vs:List PV)(k:PV→Prop):Prop:=match vs with
 |[]=>False
 |a::r=>(match r with
  |[]=>k a
  |_::_=>False)
abbrev w2(vs:List PV)(k:PV→PV→Prop):Prop:=match vs with
 |[]=>False
 |a::r=>w1 r (k a)
theorem w1.el{vs:List PV}{k:PV→Prop}(h:w1 vs k):∃a,vs=[a]∧k a:=by
 cases vs with
 |nil=>exact h.elim
 |cons a r=>cases r with
  |nil=>exact⟨a,rfl,h⟩
  |cons _ _=>exact h.elim
theorem w2.el{vs:List PV}{k:PV→PV→Prop}(h:w2 vs k):∃a b,vs=[a,b]∧k a b:=by
 cases vs with
 |nil=>exact h.elim
 |cons a r=>obtain⟨b,rfl,h⟩:=w1.el (vs:=r) h;exact⟨a,b,rfl,h⟩
abbrev wLen(H:aa)(v:PV)(k:List PV→Prop):Prop:=match v with
 |.tup l=>WG (l.length<100000) (k l)
 |.ref r=>wL H r fun l=>WG (l.length<100000) (k l)
 |_=>False
abbrev wBf(b:BF)(vs:List PV)(H:aa)(k:PV→aa→Prop):Prop:=match b with
 |.abs=>w1 vs fun a=>wI a fun x=>k (.int (if x<0 then -x else x)) H
 |.min=>w2 vs fun a b=>wI a fun x=>wI b fun y=>k (.int (if y<x then y else x)) H
 |.max=>w2 vs fun a b=>wI a fun x=>wI b fun y=>k (.int (if y>x then y else x)) H
 |.len=>w1 vs fun a=>wLen H a fun l=>k (.int l.length) H
 |.list=>w1 vs fun a=>wLen H a fun l=>k (.ref H.length) (H++[.list l])
 |.tuple=>w1 vs fun a=>dj a fun r=>wL H r fun l=>WG (l.length<100000) (k (.tup l) H)
 |.sum=>w1 vs fun a=>dj a fun r=>wL H r fun l=>WO (kK l) fun ns=>k (.int ns.sum) H
 |.sorted=>w1 vs fun a=>dj a fun r=>w6 H r fun es=>WG (es.length<60) (k (.ref H.length) (H++[.list ((bO (es.map (·.1))).map .int)]))
 |.int=>w1 vs fun a=>(match a with
  |.bool b=>k (.int (if b then 1 else 0)) H
  |_=>False)
 |.bytes=>w1 vs fun a=>dj a fun r=>wL H r fun l=>WO (kK l) fun ns=>WG (ns.length<1000∧∀n∈ns,0≤n∧n<256) (k .bytes H)
abbrev wSrcI(H:aa)(v:PV)(k:Src→Prop):Prop:=match v with
 |.tup l=>WG (l.length<1000) (k (.fixed l))
 |.ref r=>wL H r fun l=>WG (l.length<100000) (k (.live r))
 |_=>False
abbrev mj(Q:Fl→Loc→aa→Prop)(R:Loc→aa→Prop)(f:Fl)(loc:Loc)(H:aa):Prop:=
 match f with
 |.next=>R loc H
 |.cont=>Q .cont loc H
 |.ret v=>Q (.ret v) loc H
def nE:XK→aa→Prop:=fun _ _=>False
def nES:XK→Loc→aa→Prop:=fun _ _ _=>False
@[irreducible] def Wc (x:RP) (Q:PV→aa→Prop) (E:XK→aa→Prop):Prop:=x Q E
theorem Wc.of{x:RP}{Q:PV→aa→Prop}{E:XK→aa→Prop}(h:x Q E):Wc x Q E:=by unfold Wc;exact h
theorem Wc.el{x:RP}{Q:PV→aa→Prop}{E:XK→aa→Prop}(h:Wc x Q E):x Q E:=by unfold Wc at h;exact h
noncomputable abbrev QL:=Fl→Loc→aa→Prop
noncomputable abbrev EL:=XK→Loc→aa→Prop
abbrev kM(Q:QL)(I:Loc→aa→Prop)(f:Fl)(loc:Loc)(H:aa):Prop:=match f with
 |.next=>I loc H
 |.cont=>I loc H
 |.ret v=>Q (.ret v) loc H
abbrev ml(E:EL)(x:XK)(loc:Loc)(H:aa):Prop:=match x with
 |.flying=>E .held loc H
 |_=>False
@[irreducible] def mn (body:Loc→aa→QL→EL→Prop) (cg:List Nat) (sr:Src) (loc:Loc) (H:aa) (Q:QL) (E:EL):Prop:=
 ∃(N:Nat) (item:Nat→PV) (I:Nat→Loc→aa→Prop),I 0 loc H∧(∀k loc H,I k loc H→k<N→sr.get H k=some (some (item k)))∧(∀loc H,I N loc H→sr.get H N=some none)∧
  (∀k loc H,k<N→I k loc H→f6 cg (item k) loc fun eO=>body eO H (kM Q (I (k+1))) (ml E))∧∀loc H,I N loc H→Q .next loc H
@[irreducible] def j1 (test:Loc→aa→(aa→Prop)→(aa→Prop)→(XK→aa→Prop)→Prop) (body:Loc→aa→QL→EL→Prop) (loc:Loc) (H:aa) (Q:QL):Prop:=
 ∃(N:Nat) (I:Nat→Loc→aa→Prop),I N loc H∧
  ∀k loc H,I k loc H→test loc H (fun H=>body loc H (kM Q fun loc H=>∃j,j<k∧I j loc H) nES) (fun H=>Q .next loc H) nE
@[irreducible] def mu (elt:Loc→aa→(PV→aa→Prop)→(XK→aa→Prop)→Prop) (cg:List Nat) (sr:Src) (loc:Loc) (H:aa) (R:List PV→aa→Prop):Prop:=
 ∃(N:Nat) (item:Nat→PV) (I:Nat→List PV→Loc→aa→Prop),I 0 [] loc H∧(∀k acc loc H,I k acc loc H→k<N→sr.get H k=some (some (item k)))∧(∀acc loc H,I N acc loc H→sr.get H N=some none)∧
  (∀k acc loc H,k<N→I k acc loc H→f6 cg (item k) loc fun eO=>elt eO H (fun x H=>acc.length<1000∧I (k+1) (acc++[x]) eO H) nE)∧∀acc loc H,I N acc loc H→R acc H
abbrev tryQ(Q:QL)(f:Fl)(loc:Loc)(H:aa):Prop:=match f with
 |.next=>Q .next loc H
 |_=>False
abbrev tryE(x:Nat)(v:PV)(Q:QL)(k:XK)(loc:Loc)(H:aa):Prop:=match k with
 |.flying=>putL v loc x fun l=>Q .next l H
 |_=>False
abbrev mkQ(R:PV→aa→Prop)(r:Nat)(v:PV)(H:aa):Prop:=match v with
 |.none=>R (.ref r) H
 |_=>False
section
variable (P:ec)(call:Nat→List PV→aa→RP)
noncomputable def cA(c:Nat)(args:List PV)(H:aa):RP:=fun R _=>
 match bB c P.pK with
 |some k=>match k.init with
  |some f=>call f (.ref H.length::args) (H++[.inst c []]) (mkQ R H.length) nE
  |none=>False
 |none=>False
mutual
noncomputable def wE:IE→Loc→aa→(PV→aa→Prop)→(XK→aa→Prop)→Prop
 |.const v,_,H,R,_=>R v H
 |.var x,loc,H,R,_=>look loc x fun v=>R v H
 |.bin op a b,loc,H,R,E=>wE a loc H (fun x H=>wE b loc H (fun y H=>wBin op x y fun v=>R v H) E) E
 |.neg a,loc,H,R,E=>wE a loc H (fun x H=>wI x fun i=>R (.int (-i)) H) E
 |.not a,loc,H,R,E=>wE a loc H (fun x H=>match x with
  |.bool b=>R (.bool (!b)) H
  |_=>False) E
 |.and a b,loc,H,R,E=>wT a loc H (fun H=>wE b loc H R E) (fun H=>R (.bool false) H) E
 |.or a b,loc,H,R,E=>wT a loc H (fun H=>R (.bool true) H) (fun H=>wE b loc H R E) E
 |.ite c a b,loc,H,R,E=>wT c loc H (fun H=>wE a loc H R E) (fun H=>wE b loc H R E) E
 |.cmp op a b,loc,H,R,E=>wE a loc H (fun x H=>wE b loc H (fun y H=>zr op H x y fun t=>R (.bool t) H) E) E
 |.chain op lN a b c,loc,H,R,E=>wE a loc H (fun x H=>wE b loc H (fun y H=>qN op H x y (wE c loc H (fun z H=>zr lN H y z fun t=>R (.bool t) H) E) (R (.bool false) H)) E) E
 |.attr a n,loc,H,R,E=>wE a loc H (fun x H=>WO (g7 P H x n) fun v=>R v H) E
 |.item a i,loc,H,R,E=>wE a loc H (fun x H=>wE i loc H (fun y H=>kL H x y fun v=>R v H) E) E
 |.eV a n,loc,H,R,E=>wE a loc H (fun x H=>WO (lO H x n) fun v=>R v H) E
 |.l7 a,loc,H,R,E=>wE a loc H (fun x H=>match x with
  |.bG=>R (.ref H.length) (H++[.list ((P.bG.take 24).map .int)])
  |_=>False) E
 |.qM a,loc,H,R,E=>wE a loc H (fun x H=>jn x fun l=>WG (1≤l.length∧l.length<1000) (R (.tup (l.drop 1)) H)) E
 |.rev a,loc,H,R,E=>wE a loc H (fun x H=>dj x fun r=>wL H r fun l=>WG (l.length<100000) (R (.ref H.length) (H++[.list l.reverse]))) E
 |.list es,loc,H,R,E=>wEs es loc H (fun vs H=>wb (short vs 999) (R (.ref H.length) (H++[.list vs])) False) E
 |.tuple es,loc,H,R,E=>wEs es loc H (fun vs H=>wb (short vs 999) (R (.tup vs) H) False) E
 |.d9 ks es,loc,H,R,E=>wEs es loc H (fun vs H=>WG (vs.length=ks.length∧ks.length<15∧ks.Nodup) (R (.ref H.length) (H++[.d9 (ks.zip vs)]))) E
 |.aW,_,H,R,_=>R (.ref H.length) (H++[.aW []])
 |.ah f es,loc,H,R,E=>wEs es loc H (fun vs H=>Wc (call f vs H) R E) E
 |.callC c es,loc,H,R,E=>wEs es loc H (fun vs H=>Wc (cA P call c vs H) R E) E
 |.bC b es,loc,H,R,E=>wEs es loc H (fun vs H=>wBf b vs H R) E
 |.isInt a,loc,H,R,E=>wE a loc H (fun x H=>match x with
  |.int _=>R (.bool true) H
  |.bool _=>R (.bool true) H
  |_=>False) E
 |.isBool a,loc,H,R,E=>wE a loc H (fun x H=>match x with
  |.int _=>R (.bool false) H
  |.bool _=>R (.bool true) H
  |_=>False) E
 |.gY a,loc,H,R,E=>wE a loc H (fun x H=>dj x fun r=>wL H r fun _=>R (.bool true) H) E
 |.append o x,loc,H,R,E=>wE o loc H (fun r H=>dj r fun r=>wL H r fun _=>wE x loc H (fun v H=>wL H r fun l=>WG (l.length<100000) (R .none (H.set r (.list (l++[v]))))) E) E
 |.extend o x,loc,H,R,E=>wE o loc H (fun r H=>dj r fun r=>wL H r fun _=>wE x loc H (fun v H=>dj v fun t=>wL H r fun l=>wL H t fun m=>WG (r≠t∧l.length+m.length<100000) (R .none (H.set r (.list (l++m))))) E) E
 |.insert o i x,loc,H,R,E=>wE o loc H (fun r H=>dj r fun r=>wL H r fun _=>wE i loc H (fun j H=>wE x loc H (fun v H=>wI j fun j=>wL H r fun l=>WG (0≤j∧j≤l.length∧l.length<1000) (R .none (H.set r (.list (l.take j.toNat++v::l.drop j.toNat))))) E) E) E
 |.zl o k,loc,H,R,E=>wE o loc H (fun r H=>dj r fun r=>w6 H r fun _=>wE k loc H (fun j H=>wI j fun j=>w6 H r fun es=>R ((ey j es).getD .none) H) E) E
 |.zm o k x,loc,H,R,E=>wE o loc H (fun r H=>dj r fun r=>w6 H r fun _=>wE k loc H (fun j H=>wE x loc H (fun d H=>wI j fun j=>w6 H r fun es=>R ((ey j es).getD d) H) E) E) E
 |.l8 o m es,loc,H,R,E=>wE o loc H (fun r H=>WO (iX P m H r) fun f=>wEs es loc H (fun vs H=>Wc (call f (r::vs) H) R nE) E) E
 |.comp cg src elt,loc,H,R,E=>wSrc src loc H (fun sr H=>mu (wE elt) cg sr (fZ cg loc) H (fun l H=>WG (l.length<1000) (R (.ref H.length) (H++[.list l])))) E
noncomputable def wT:IE→Loc→aa→(aa→Prop)→(aa→Prop)→(XK→aa→Prop)→Prop
 |.not a,loc,H,A,B,E=>wT a loc H B A E
 |.and a b,loc,H,A,B,E=>wT a loc H (fun H=>wT b loc H A B E) B E
 |.or a b,loc,H,A,B,E=>wT a loc H A (fun H=>wT b loc H A B E) E
 |.cmp op a b,loc,H,A,B,E=>wE a loc H (fun x H=>wE b loc H (fun y H=>qN op H x y (A H) (B H)) E) E
 |.chain op lN a b c,loc,H,A,B,E=>wE a loc H (fun x H=>wE b loc H (fun y H=>qN op H x y (wE c loc H (fun z H=>qN lN H y z (A H) (B H)) E) (B H)) E) E
 |.var x,loc,H,A,B,_=>look loc x fun v=>WV v (A H) (B H)
 |.ah f es,loc,H,A,B,E=>wEs es loc H (fun vs H=>Wc (call f vs H) (fun v H=>WV v (A H) (B H)) E) E
 |.attr a n,loc,H,A,B,E=>wE a loc H (fun x H=>WO (g7 P H x n) fun v=>WV v (A H) (B H)) E
 |.isInt a,loc,H,A,B,E=>wE a loc H (fun x H=>match x with
  |.int _=>A H
  |.bool _=>A H
  |_=>False) E
 |.isBool a,loc,H,A,B,E=>wE a loc H (fun x H=>match x with
  |.int _=>B H
  |.bool _=>A H
  |_=>False) E
 |.gY a,loc,H,A,_,E=>wE a loc H (fun x H=>dj x fun r=>wL H r fun _=>A H) E
 |_,_,_,_,_,_=>False
noncomputable def wEs:jU→Loc→aa→(List PV→aa→Prop)→(XK→aa→Prop)→Prop
 |.nil,_,H,R,_=>R [] H
 |.cons e r,loc,H,R,E=>wE e loc H (fun v H=>wEs r loc H (fun vs H=>R (v::vs) H) E) E
noncomputable def wSrc:gZ→Loc→aa→(Src→aa→Prop)→(XK→aa→Prop)→Prop
 |.items e,loc,H,R,E=>wE e loc H (fun v H=>wSrcI H v fun s=>R s H) E
 |.range e,loc,H,R,E=>wE e loc H (fun v H=>wI v fun n=>WG (0≤n∧n<1000) (R (.fixed (dp n)) H)) E
 |.enum e,loc,H,R,E=>wE e loc H (fun v H=>dj v fun r=>wL H r fun l=>WG (l.length<100000) (R (.enum r) H)) E
 |.zip a b,loc,H,R,E=>wE a loc H (fun v H=>wE b loc H (fun u H=>dj v fun r=>dj u fun t=>wL H r fun l=>wL H t fun m=>WG (l.length<100000∧m.length<100000) (R (.zip r t) H)) E) E
end
mutual
noncomputable def wS:IS→Loc→aa→QL→EL→Prop
 |.expr e,loc,H,Q,E=>wE P call e loc H (fun _ H=>Q .next loc H) (fun k H=>E k loc H)
 |.assign x e,loc,H,Q,E=>wE P call e loc H (fun v H=>putL v loc x fun l=>Q .next l H) (fun k H=>E k loc H)
 |.bH xs e,loc,H,Q,E=>wE P call e loc H (fun v H=>jn v fun l=>iQ xs l loc fun l=>Q .next l H) (fun k H=>E k loc H)
 |.aw o n e,loc,H,Q,E=>wE P call e loc H (fun v H=>wE P call o loc H (fun r H=>WO (dX P H r n v) fun H=>Q .next loc H) (fun k H=>E k loc H)) (fun k H=>E k loc H)
 |.iC o i e,loc,H,Q,E=>wE P call e loc H (fun v H=>wE P call o loc H (fun r H=>wE P call i loc H (fun j H=>f7 H r j v fun H=>Q .next loc H) (fun k H=>E k loc H)) (fun k H=>E k loc H)) (fun k H=>E k loc H)
 |.aug x op e,loc,H,Q,E=>look loc x fun u=>wE P call e loc H (fun v H=>wAug op u v fun w=>putL w loc x fun l=>Q .next l H) (fun k H=>E k loc H)
 |.lx o i op e,loc,H,Q,E=>wE P call o loc H (fun r H=>wE P call i loc H (fun j H=>kL H r j fun u=>wE P call e loc H (fun v H=>wAug op u v fun w=>f7 H r j w fun H=>Q .next loc H) (fun k H=>E k loc H)) (fun k H=>E k loc H)) (fun k H=>E k loc H)
 |.ite c a b,loc,H,Q,E=>wT P call c loc H (fun H=>wSs a loc H Q E) (fun H=>wSs b loc H Q E) (fun k H=>E k loc H)
 |.ret e,loc,H,Q,E=>wE P call e loc H (fun v H=>Q (.ret v) loc H) (fun k H=>E k loc H)
 |.raise,loc,H,_,E=>E .made loc H
 |.stuck,_,_,_,_=>False
 |.cont,loc,H,Q,_=>Q .cont loc H
 |.for cg src b,loc,H,Q,E=>wSrc P call src loc H (fun sr H=>mn (wSs b) cg sr loc H Q E) (fun k H=>E k loc H)
 |.while c b,loc,H,Q,_=>j1 (wT P call c) (wSs b) loc H Q
 |.try b x v,loc,H,Q,_=>wSs b loc H (tryQ Q) (tryE x v Q)
noncomputable def wSs:cp→Loc→aa→QL→EL→Prop
 |.nil,loc,H,Q,_=>Q .next loc H
 |.cons s r,loc,H,Q,E=>wS s loc H (mj Q fun loc H=>wSs r loc H Q E) E
end
end
abbrev fP(R:PV→aa→Prop)(f:Fl)(_:Loc)(H:aa):Prop:=match f with
 |.ret v=>R v H
 |.next=>R .none H
 |.cont=>False
noncomputable def qO(P:ec)(call:Nat→List PV→aa→RP)(f:Nat)(args:List PV)(H:aa):RP:=fun R E=>
 match bB f P.fns with
 |none=>False
 |some r=>match jm r args with
  |none=>False
  |some vs=>wSs P call r.body (vs.map some++List.replicate (r.jY - r.np) none) H (fP R) fun _ _ H=>E .flying H
noncomputable def callG(P:ec):Nat→Nat→List PV→aa→RP
 |0=>fun _ _ _ _ _=>False
 |n+1=>qO P (callG P n)
@[irreducible] noncomputable def aj (P:ec) (n:Nat):Nat→List PV→aa→RP:=callG P n
theorem sS{P:ec}{f:Nat}{args:List PV}{H:aa}:aj P 0 f args H=fun _ _=>False:=by unfold aj;rfl
theorem mz{P:ec}{n f:Nat}{args:List PV}{H:aa}:aj P (n+1) f args H=qO P (aj P n) f args H:=by unfold aj;rfl
end
section
open PyProof.Rows PySem.Calls PySem.W
set_option backward.match.sparseCases false
set_option genInjectivity false
structure Cx where
 prog:Program
 w:World
 K:Frag
 p:Program
 loose:List Str
 h₀:Heap
 mg:Str→Option Value
 mb:Str→Option Value
 ns:List Int
 tab:List Str
 bad:Addr
 known:List Nat
 ok:Prop
 X:ok→K.In h₀
 T:ok→TopRead p loose mg mb h₀
 nodup:ok→tab.Nodup
 few:ok→ns.length<1000
instance:Nonempty Drawn:=⟨{}⟩
instance:Nonempty Shared:=⟨{}⟩
instance:Nonempty Around:=⟨{}⟩
instance:Nonempty World:=⟨{draws:=fun _ _=>0,params:={strHash:=fun _=>0,shareClass:=fun _=>0,mergeTok:=id,idOf:=fun _=>0,idOfShared:=fun _ _=>0,followText:=fun _=>true,idOfImm:=fun _=>0}}⟩
instance:Nonempty Model:=⟨model default (Classical.choice inferInstance)⟩
instance:Nonempty Cx:=⟨⟨default,Classical.choice inferInstance,[],default,[],default,fun _=>none,fun _=>none,[],[],0,[],False,False.elim,False.elim,False.elim,False.elim⟩⟩
noncomputable def Cx.nm(X:Cx)(n:Nat):Str:=(X.tab[n]?).getD Str.empty
noncomputable abbrev Cx.M(X:Cx):Model:=model X.prog X.w
theorem Cx.inj(X:Cx)(k:X.ok){i j:Nat}(hi:i<X.tab.length)(hj:j<X.tab.length)(e:X.nm i=X.nm j):i=j:=by
 unfold Cx.nm at e
 rw[List.getElem?_eq_getElem hi,List.getElem?_eq_getElem hj] at e
 have P:=List.pairwise_iff_getElem.mp (X.nodup k)
 rcases Nat.lt_trichotomy i j with q|q|q
 ·exact absurd e (P i j hi hj q)
 ·exact q
 ·exact absurd e.symm (P j i hj hi q)
noncomputable abbrev lst(sT:Array Value)(n:Nat):Obj:=PySem.W.listOf sT n
structure Wd where
 B:Addr→Option Obj
 φ:List (Addr×Addr)
instance:Nonempty Wd:=⟨⟨fun _=>none,[]⟩⟩
def Own(W:Wd)(a:Addr):Prop:=∃p∈W.φ,a=p.1∨a=p.2
mutual
inductive VR(X:Cx)(W:Wd):PV→Value→Prop
 |none:VR X W .none .none
 |bool (b:Bool):VR X W (.bool b) (.bool b)
 |int (i:Int) (t:Tok):VR X W (.int i) (.int i t)
 |str (x:Str) (t:Tok):VR X W (.str x) (.str x t)
 |bytes (b:Array UInt8) (t:Tok):VR X W .bytes (.bytes b t)
 |ref (i:Nat) (p:Addr×Addr):W.φ[i]? =some p→VR X W (.ref i) (.ref p.1)
 |tup (l:List PV) (a:Addr) (o:Obj) (n:Nat) (vs:List Value):W.B a=some o→o.cls=.type "tuple"→o.data=.seq vs.toArray n→cM X W l vs→VR X W (.tup l) (.ref a)
 |bG (a:Addr) (o:Obj) (n:Nat) (vs:List Value):W.B a=some o→o.cls=.type "list"→o.data=.seq vs.toArray n→IntsAre vs X.ns→VR X W .bG (.ref a)
inductive cM(X:Cx)(W:Wd):List PV→List Value→Prop
 |nil:cM X W [] []
 |cons {v u l vs}:VR X W v u→cM X W l vs→cM X W (v::l) (u::vs)
end
def NsZ(h:Heap)(a:Addr)(m:Str→Option Value)(k:Nat):Prop:=
 ∃o es ep,h.get? a=some o∧o.data=.dict es ep∧StrKeys es∧(∀name,nsFind es name=m name)∧es.size≤k
theorem NsZ.ns{h:Heap}{a:Addr}{m:Str→Option Value}{k:Nat}(x:NsZ h a m k):h.Ns a m:=by
 obtain⟨o,es,ep,g,d,sk,f,_⟩:=x
 exact⟨o,es,ep,g,d,sk,f⟩
def MR(X:Cx)(W:Wd)(fs:List (Nat×PV))(m:Str→Option Value):Prop:=
 ∀n,n<X.tab.length→match bB n fs with
  |some v=>∃u,m (X.nm n)=some u∧VR X W v u
  |none=>m (X.nm n)=none
inductive DR(X:Cx)(W:Wd):List (Int×PV)→List (Int×Value)→Prop
 |nil:DR X W [] []
 |cons {k v u l vs}:VR X W v u→DR X W l vs→DR X W ((k,v)::l) ((k,u)::vs)
inductive SR(X:Cx)(W:Wd):List (Nat×PV)→List (Str×Value)→Prop
 |nil:SR X W [] []
 |cons {k v u l vs}:k<X.tab.length→VR X W v u→SR X W l vs→SR X W ((k,v)::l) ((X.nm k,u)::vs)
def ft(X:Cx)(W:Wd)(h:Heap)(p:Addr×Addr):aH→Prop
 |.list l=>p.2=p.1∧∃vs n,h.get? p.1=some (lst vs.toArray n)∧cM X W l vs
 |.aW l=>p.2=p.1∧(p.1 == sysModules)=false∧∃kvs,h.DictOf (intKind X.prog X.w) p.1 kvs∧DR X W l kvs
 |.d9 l=>p.2=p.1∧(p.1 == sysModules)=false∧∃kvs,h.DictOf (strKind X.prog X.w) p.1 kvs∧SR X W l kvs
 |.inst c fs=>(c∈X.known∧p.1≠p.2)∧h.get? p.1=some (instObj c p.2)∧∃m,NsZ h p.2 m fs.length∧MR X W fs m
structure HR(X:Cx)(W:Wd)(H:aa)(h:Heap):Prop where
 len:W.φ.length=H.length
 objs:∀(i:Nat) (p:Addr×Addr) (o:aH),W.φ[i]? =some p→H[i]? =some o→ft X W h p o
 apart:∀(i j:Nat) (p q:Addr×Addr),i≠j→W.φ[i]? =some p→W.φ[j]? =some q→p.1≠q.1∧p.1≠q.2∧p.2≠q.1∧p.2≠q.2
 frozen:∀a o,W.B a=some o→h.get? a=some o
 off:∀p∈W.φ,W.B p.1=none∧W.B p.2=none
 base:∀a o,X.h₀.get? a=some o→W.B a=some o
 ok:X.ok
structure Ext(W:Wd)(h:Heap)(W':Wd):Prop where
 B:∀a o,W.B a=some o→W'.B a=some o
 Bnew:∀a o,W'.B a=some o→W.B a=some o∨h.get? a=none
 φ:∃ψ,W'.φ=W.φ++ψ∧∀p∈ψ,h.get? p.1=none∧h.get? p.2=none
noncomputable def Fs(l:List Env):List Addr:=l.filterMap (·.frame)
structure Step(l:List Env)(L:Addr)(W:Wd)(h:Heap)(W':Wd)(h':Heap):Prop extends Ext W h W' where
 keep:∀a o,h.get? a=some o→¬Own W a→a≠L→a∉Fs l→h'.get? a=some o
 slots:∀a o,h.get? a=some o→a≠L→a∈Fs l→∃sl,h'.get? a=some {o with slots:=sl}
 live:∀a o,h.get? a=some o→∃o',h'.get? a=some o'
def g8(s s':Shared):Prop:=s'.gens=s.gens∧s'.drawn=s.drawn∧s'.os=s.os
theorem g8.refl(s:Shared):g8 s s:=⟨rfl,rfl,rfl⟩
theorem g8.trans{s s' B7:Shared}(x:g8 s s')(y:g8 s' B7):g8 s B7:=⟨y.1.trans x.1,y.2.1.trans x.2.1,y.2.2.trans x.2.2⟩
theorem Own.mono{W W':Wd}{h:Heap}(S:Ext W h W'){a:Addr}(x:Own W a):Own W' a:=by
 obtain⟨ψ,e,_⟩:=S.φ
 obtain⟨p,hp,q⟩:=x
 exact⟨p,by rw[e];exact List.mem_append_left _ hp,q⟩
theorem Ext.own{W W':Wd}{h:Heap}(S:Ext W h W'){a:Addr}{o:Obj}(ha:h.get? a=some o)(x:¬Own W a):¬Own W' a:=by
 obtain⟨ψ,e,hn⟩:=S.φ
 rintro⟨p,hp,q⟩
 rw[e] at hp
 rcases List.mem_append.mp hp with hp|hp
 ·exact x ⟨p,hp,q⟩
 ·have:=hn p hp
  rcases q with rfl|rfl
  ·rw[this.1] at ha;cases ha
  ·rw[this.2] at ha;cases ha
theorem Ext.refl(W:Wd)(h:Heap):Ext W h W:=⟨fun _ _ e=>e,fun _ _ e=>.inl e,⟨[],by simp,fun _ hp=>nomatch hp⟩⟩
theorem Ext.trans{W ct fu:Wd}{h h₁:Heap}(x:Ext W h ct)(live:∀a o,h.get? a=some o→∃o',h₁.get? a=some o')(y:Ext ct h₁ fu):Ext W h fu:=by
 have dead:∀a,h₁.get? a=none→h.get? a=none:=fun a e=>by
  cases q:h.get? a with
  |none=>rfl
  |some o=>obtain⟨o',e'⟩:=live a o q;rw[e] at e';cases e'
 refine⟨fun a o e=>y.B _ _ (x.B _ _ e),fun a o e=> ?_,?_⟩
 ·rcases y.Bnew a o e with e|e
  ·exact x.Bnew a o e
  ·exact .inr (dead a e)
 ·obtain⟨ψ,e,n⟩:=x.φ
  obtain⟨ψ',e',n'⟩:=y.φ
  refine⟨ψ++ψ',by rw[e',e,List.append_assoc],fun p hp=> ?_⟩
  rcases List.mem_append.mp hp with hp|hp
  ·exact n p hp
  ·exact⟨dead _ (n' p hp).1,dead _ (n' p hp).2⟩
theorem Step.refl(l:List Env)(L:Addr)(W:Wd)(h:Heap):Step l L W h W h:=⟨.refl W h,fun _ _ e _ _ _=>e,fun _ o e _ _=>⟨o.slots,e⟩,fun _ o e=>⟨o,e⟩⟩
theorem Step.trans{l:List Env}{L:Addr}{W ct fu:Wd}{h h₁ d7:Heap}(x:Step l L W h ct h₁)(y:Step l L ct h₁ fu d7):Step l L W h fu d7:=by
 refine⟨x.toExt.trans x.live y.toExt,fun a o e n l n'=>y.keep _ _ (x.keep a o e n l n') (x.own e n) l n',fun a o e n n'=> ?_,fun a o e=> ?_⟩
 ·obtain⟨sl,e'⟩:=x.slots a o e n n'
  obtain⟨w7,e''⟩:=y.slots a _ e' n n'
  exact⟨w7,e''⟩
 ·obtain⟨o',e'⟩:=x.live a o e
  exact y.live a o' e'
theorem Ext.at{W W':Wd}{h:Heap}(S:Ext W h W'){i:Nat}{p:Addr×Addr}(e:W.φ[i]? =some p):W'.φ[i]? =some p:=by
 obtain⟨ψ,q,_⟩:=S.φ
 rw[q,List.getElem?_append_left (List.getElem?_eq_some_iff.mp e).1];exact e
theorem VR.mono{X:Cx}{W W':Wd}{h:Heap}(S:Ext W h W'){v:PV}{u:Value}(x:VR X W v u):VR X W' v u:=
 x.rec (motive_1:=fun v u _=>VR X W' v u) (motive_2:=fun l vs _=>cM X W' l vs) .none .bool .int .str .bytes (fun i p e=>.ref i p (S.at e)) (fun l a o n vs e c d _ r=>.tup l a o n vs (S.B _ _ e) c d r) (fun a o n vs e c d r=>.bG a o n vs (S.B _ _ e) c d r) .nil fun _ _ x r=>.cons x r
section
variable {X:Cx}{W W':Wd}{h:Heap}{l m:List PV}{vs us:List Value}{v:PV}{u:Value}
theorem cM.ind{P:List PV→List Value→Prop}(h0:P [] [])(h1:∀{v u l vs},VR X W v u→cM X W l vs→P l vs→P (v::l) (u::vs))(x:cM X W l vs):P l vs:=
 x.rec (motive_1:=fun _ _ _=>True) (motive_2:=fun l vs _=>P l vs) trivial (fun _=>trivial) (fun _ _=>trivial) (fun _ _=>trivial) (fun _ _=>trivial) (fun _ _ _=>trivial) (fun _ _ _ _ _ _ _ _ _ _=>trivial) (fun _ _ _ _ _ _ _ _=>trivial) h0 fun a b _ ih=>h1 a b ih
theorem cM.mono(S:Ext W h W')(x:cM X W l vs):cM X W' l vs:=x.ind .nil fun a _ ih=>.cons (a.mono S) ih
theorem cM.length(x:cM X W l vs):l.length=vs.length:=x.ind (P:=fun l vs=>l.length=vs.length) rfl fun _ _ ih=>congrArg (· +1) ih
theorem cM.get{i:Nat}(x:cM X W l vs)(e:l[i]? =some v):∃u,vs[i]? =some u∧VR X W v u:=
 x.ind (P:=fun l vs=>∀i,l[i]? =some v→∃u,vs[i]? =some u∧VR X W v u) (fun _ e=>by rw[List.getElem?_nil] at e;cases e) (fun a _ ih i e=>by
  cases i with
  |zero=>obtain rfl:=Option.some.inj e;exact⟨_,rfl,a⟩
  |succ i=>exact ih i e) i e
theorem cM.append(x:cM X W l vs)(y:cM X W m us):cM X W (l++m) (vs++us):=x.ind (P:=fun l vs=>cM X W (l++m) (vs++us)) y fun a _ ih=>.cons a ih
theorem cM.take(n:Nat)(x:cM X W l vs):cM X W (l.take n) (vs.take n):=
 x.ind (P:=fun l vs=>∀n,cM X W (l.take n) (vs.take n)) (fun n=>by rw[List.take_nil,List.take_nil];exact .nil) (fun a _ ih n=>by
  cases n with
  |zero=>exact .nil
  |succ n=>exact .cons a (ih n)) n
theorem cM.drop(n:Nat)(x:cM X W l vs):cM X W (l.drop n) (vs.drop n):=
 x.ind (P:=fun l vs=>∀n,cM X W (l.drop n) (vs.drop n)) (fun n=>by rw[List.drop_nil,List.drop_nil];exact .nil) (fun a b ih n=>by
  cases n with
  |zero=>exact .cons a b
  |succ n=>exact ih n) n
theorem cM.reverse(x:cM X W l vs):cM X W l.reverse vs.reverse:=
 x.ind (P:=fun l vs=>cM X W l.reverse vs.reverse) .nil fun a _ ih=>by rw[List.reverse_cons,List.reverse_cons];exact ih.append (.cons a .nil)
theorem cM.set(i:Nat)(x:cM X W l vs)(y:VR X W v u):cM X W (l.set i v) (vs.set i u):=
 x.ind (P:=fun l vs=>∀i,cM X W (l.set i v) (vs.set i u)) (fun _=>.nil) (fun a b ih i=>by
  cases i with
  |zero=>exact .cons y b
  |succ i=>exact .cons a (ih i)) i
end
theorem MR.mono{X:Cx}{W W':Wd}{h:Heap}(S:Ext W h W'){fs:List (Nat×PV)}{m:Str→Option Value}(x:MR X W fs m):MR X W' fs m:=by
 intro n hn
 have:=x n hn
 split at this
 ·obtain⟨u,e,r⟩:=this;exact⟨u,e,r.mono S⟩
 ·exact this
theorem DR.mono{X:Cx}{W W':Wd}{h:Heap}(S:Ext W h W'){l:List (Int×PV)}{vs:List (Int×Value)}(x:DR X W l vs):DR X W' l vs:=by
 induction x with
 |nil=>exact .nil
 |cons a _ ih=>exact .cons (a.mono S) ih
theorem SR.mono{X:Cx}{W W':Wd}{h:Heap}(S:Ext W h W'){l:List (Nat×PV)}{vs:List (Str×Value)}(x:SR X W l vs):SR X W' l vs:=by
 induction x with
 |nil=>exact .nil
 |cons n a _ ih=>exact .cons n (a.mono S) ih
theorem ft.mono{X:Cx}{W W':Wd}{g h h':Heap}(S:Ext W g W'){p:Addr×Addr}(k1:∀o,h.get? p.1=some o→h'.get? p.1=some o)(k2:∀o,h.get? p.2=some o→h'.get? p.2=some o){o:aH}(x:ft X W h p o):ft X W' h' p o:=by
 revert X W W' g h h' p o
 apply aN;intro
 generalize bM .. =X,bN .. =W,bQ .. =W',bR .. =g
 apply aP;intro
 generalize bP .. =h,bS .. =h'
 intro S
 apply aJ;intro
 generalize nx .. =p
 intro k1 k2
 apply aJ;intro
 generalize nx .. =o
 intro x
 cases o with
 |list _=>obtain⟨e,vs,n,q,r⟩:=x;exact⟨e,vs,n,k1 _ q,r.mono S⟩
 |aW _=>obtain⟨e,s,kvs,⟨o,es,ep,z,q⟩,r⟩:=x;exact⟨e,s,kvs,⟨o,es,ep,k1 _ z,q⟩,r.mono S⟩
 |d9 _=>obtain⟨e,s,kvs,⟨o,es,ep,z,q⟩,r⟩:=x;exact⟨e,s,kvs,⟨o,es,ep,k1 _ z,q⟩,r.mono S⟩
 |inst _ _=>obtain⟨e,z,m,⟨o,es,ep,z',q⟩,r⟩:=x;exact⟨e,k1 _ z,m,⟨o,es,ep,k2 _ z',q⟩,r.mono S⟩
theorem HR.at{X:Cx}{W:Wd}{H:aa}{h:Heap}(R:HR X W H h){i:Nat}{o:aH}(e:H[i]? =some o):∃p,W.φ[i]? =some p∧ft X W h p o:=by
 have hi:i<W.φ.length:=by rw[R.len];exact(List.getElem?_eq_some_iff.mp e).1
 exact⟨_,List.getElem?_eq_getElem hi,R.objs i _ o (List.getElem?_eq_getElem hi) e⟩
theorem ft.live{X:Cx}{W:Wd}{h:Heap}{p:Addr×Addr}{o:aH}(x:ft X W h p o):(∃o',h.get? p.1=some o')∧∃o',h.get? p.2=some o':=by
 revert X W h p o
 apply aN;intro
 generalize bM .. =X,bN .. =W,bQ .. =h,bR .. =p
 apply aJ;intro
 generalize nx .. =o
 intro x
 cases o with
 |list _=>obtain⟨e,vs,n,g,r⟩:=x;rw[e];exact⟨⟨_,g⟩,_,g⟩
 |aW _=>obtain⟨e,_,kvs,⟨o,es,ep,g,_⟩,_⟩:=x;rw[e];exact⟨⟨o,g⟩,o,g⟩
 |d9 _=>obtain⟨e,_,kvs,⟨o,es,ep,g,_⟩,_⟩:=x;rw[e];exact⟨⟨o,g⟩,o,g⟩
 |inst _ _=>obtain⟨e,g,m,⟨o,es,ep,g',q⟩,r⟩:=x;exact⟨⟨_,g⟩,_,g'⟩
theorem HR.eZ{X:Cx}{W:Wd}{H:aa}{h:Heap}(R:HR X W H h){a:Addr}(x:Own W a):∃o,h.get? a=some o:=by
 obtain⟨p,hp,q⟩:=x
 obtain⟨i,hi,e⟩:=List.mem_iff_getElem.mp hp
 have hH:i<H.length:=by rw[←R.len];exact hi
 have:=(R.objs i p _ (by rw[←e];exact List.getElem?_eq_getElem hi) (List.getElem?_eq_getElem hH)).live
 rcases q with rfl|rfl
 ·exact this.1
 ·exact this.2
theorem HR.yO{X:Cx}{W:Wd}{H:aa}{h:Heap}(R:HR X W H h):X.K.In h:=(X.X R.ok).keeps fun a o e=>R.frozen _ _ (R.base _ _ e)
theorem HR.keep{X:Cx}{W:Wd}{H:aa}{h:Heap}(R:HR X W H h):∀a o,X.h₀.get? a=some o→h.get? a=some o:=fun a o e=>R.frozen _ _ (R.base _ _ e)
theorem HR.dz{X:Cx}{W:Wd}{H:aa}{h:Heap}(R:HR X W H h){a:Addr}{o:Obj}(e:W.B a=some o):¬Own W a:=by
 rintro⟨p,hp,q⟩
 have:=R.off p hp
 rcases q with rfl|rfl
 ·rw[this.1] at e;cases e
 ·rw[this.2] at e;cases e
def j2(W:Wd)(h:Heap)(l:List Env):Prop:=
 ∀e∈l,e.scope.kind≠.module∧∃L o,e.frame=some L∧W.B L=none∧¬Own W L∧h.get? L=some o∧∀vs,o.data≠.fields vs
structure St(X:Cx)(l:List Env)(W:Wd)(H:aa)(L:Addr)(m:Str→Option Value)(s:Shared):Prop where
 F:Fr X.h₀ L s.heap m
 R:HR X W H s.heap
 dz:W.B L=none
 dR:¬Own W L
 fr:j2 W s.heap l
theorem Fr.live{h₀ h:Heap}{L:Addr}{m:Str→Option Value}(F:Fr h₀ L h m):∃o,h.get? L=some o:=by
 obtain⟨o,_,_,e,_⟩:=F.ns;exact⟨o,e⟩
theorem Ext.dz{W W':Wd}{h:Heap}(S:Ext W h W'){a:Addr}{o:Obj}(e:h.get? a=some o)(n:W.B a=none):W'.B a=none:=by
 cases q:W'.B a with
 |none=>rfl
 |some o'=>
  rcases S.Bnew a o' q with q'|q'
  ·rw[n] at q';cases q'
  ·rw[e] at q';cases q'
theorem St.next{X:Cx}{l:List Env}{W W':Wd}{H H':aa}{L:Addr}{m m':Str→Option Value}{s s':Shared}(x:St X l W H L m s)(S:Step l L W s.heap W' s'.heap)(F:Fr X.h₀ L s'.heap m')(R:HR X W' H' s'.heap):St X l W' H' L m' s':=by
 obtain⟨o,e⟩:=Fr.live x.F
 refine⟨F,R,S.dz e x.dz,S.own e x.dR,fun en he=> ?_⟩
 obtain⟨hk,L',o',h1,h2,h3,h4,h5⟩:=x.fr en he
 refine⟨hk,L',?_⟩
 by_cases q:L'=L
 ·subst q
  obtain⟨o2,es,ep,g,d,_⟩:=F.ns
  exact⟨o2,h1,S.dz h4 h2,S.own h4 h3,g,fun vs z=>by rw[d] at z;cases z⟩
 ·obtain⟨sl,g⟩:=S.slots L' o' h4 q (List.mem_filterMap.mpr ⟨en,he,h1⟩)
  exact⟨_,h1,S.dz h4 h2,S.own h4 h3,g,h5⟩
end
section
open PyProof.Rows PySem.Calls PySem.W
set_option backward.match.sparseCases false
section
variable {X:Cx}{W W':Wd}{H H':aa}{h h':Heap}{l:List Env}{L:Addr}{m m':Str→Option Value}{s s':Shared}
theorem HR.iD(R:HR X W H h)(dz:W.B L=none)(dR:¬Own W L)(hk:∀a o,h.get? a=some o→a≠L→h'.get? a=some o):HR X W H h':=by
 refine⟨R.len,fun i p o e e'=> ?_,R.apart,fun a o e=>hk a o (R.frozen a o e) (by rintro rfl;rw[dz] at e;cases e),R.off,R.base,R.ok⟩
 have hp:p∈W.φ:=List.mem_of_getElem? e
 have n1:p.1≠L:=by rintro rfl;exact dR ⟨p,hp,.inl rfl⟩
 have n2:p.2≠L:=by rintro rfl;exact dR ⟨p,hp,.inr rfl⟩
 exact(R.objs i p o e e').mono (Ext.refl W h) (fun o q=>hk _ _ q n1) (fun o q=>hk _ _ q n2)
theorem Step.but(l:List Env)(W:Wd)(hk:∀a o,h.get? a=some o→a≠L→h'.get? a=some o)(hl:∃o,h'.get? L=some o):Step l L W h W h':=
 ⟨.refl W h,fun a o e _ n _=>hk a o e n,fun a o e n _=>⟨o.slots,hk a o e n⟩,fun a o e=>by
  by_cases q:a=L
  ·subst q;exact hl
  ·exact⟨o,hk a o e q⟩⟩
theorem HR.kept(R:HR X W H h)(hk:∀a o,h.get? a=some o→h'.get? a=some o):HR X W H h':=by
 refine⟨R.len,fun i p o e e'=> ?_,R.apart,fun a o e=>hk a o (R.frozen a o e),R.off,R.base,R.ok⟩
 exact(R.objs i p o e e').mono (Ext.refl W h) (fun o q=>hk _ _ q) (fun o q=>hk _ _ q)
theorem Step.iD(l:List Env)(E:Ext W h W')(hk:∀a o,h.get? a=some o→a≠L→h'.get? a=some o)(hl:∃o,h'.get? L=some o):Step l L W h W' h':=
 ⟨E,fun a o e _ n _=>hk a o e n,fun a o e n _=>⟨o.slots,hk a o e n⟩,fun a o e=>by
  by_cases q:a=L
  ·subst q;exact hl
  ·exact⟨o,hk a o e q⟩⟩
noncomputable def Wd.add(W:Wd)(p:Addr×Addr):Wd:=⟨W.B,W.φ++[p]⟩
noncomputable def Wd.freeze(W:Wd)(a:Addr)(o:Obj):Wd:=⟨fun b=>if b=a then some o else W.B b,W.φ⟩
theorem Ext.add(W:Wd){p:Addr×Addr}(d1:h.get? p.1=none)(d2:h.get? p.2=none):Ext W h (W.add p):=
 ⟨fun _ _ e=>e,fun _ _ e=>.inl e,⟨[p],rfl,fun q hq=>by rw[List.mem_singleton.mp hq];exact⟨d1,d2⟩⟩⟩
theorem HR.zt(R:HR X W H h){p:Addr×Addr}{o:aH}(dz:W.B L=none)(dR:¬Own W L)(hk:∀a o,h.get? a=some o→a≠L→h'.get? a=some o)(d1:h.get? p.1=none)(d2:h.get? p.2=none)
  (ho:ft X (W.add p) h' p o):HR X (W.add p) (H++[o]) h':=by
 revert X W H h h' L p o
 apply aN;intro
 generalize bM .. =X,bN .. =W,bQ .. =H,bR .. =h
 apply aP;intro
 generalize bP .. =h',bS .. =L
 intro R
 apply aP;intro
 generalize bP .. =p,bS .. =o
 intro dz dR hk d1 d2 ho
 have S:=Ext.add W d1 d2
 have old:∀i q,(W.add p).φ[i]? =some q→(i<W.φ.length∧W.φ[i]? =some q)∨(i=W.φ.length∧q=p):=fun i q e=>by
  have e:(W.φ++[p])[i]? =some q:=e
  rcases Nat.lt_or_ge i W.φ.length with l|l
  ·rw[List.getElem?_append_left l] at e;exact .inl ⟨l,e⟩
  ·rw[List.getElem?_append_right l] at e
   have l2:=(List.getElem?_eq_some_iff.mp e).1
   have:i - W.φ.length=0:=by simp at l2;exact l2
   rw[this] at e
   exact .inr ⟨by exact ar6 l this,by simpa using e.symm⟩
 have j4:∀(i:Nat) (q:Addr×Addr),W.φ[i]? =some q→q.1≠p.1∧q.1≠p.2∧q.2≠p.1∧q.2≠p.2:=fun i q e=>by
  have hq:q∈W.φ:=List.mem_of_getElem? e
  obtain⟨o1,e1⟩:=R.eZ ⟨q,hq,.inl rfl⟩
  obtain⟨o2,e2⟩:=R.eZ ⟨q,hq,.inr rfl⟩
  refine⟨?_,?_,?_,?_⟩<;>intro z
  ·rw[z,d1] at e1;cases e1
  ·rw[z,d2] at e1;cases e1
  ·rw[z,d1] at e2;cases e2
  ·rw[z,d2] at e2;cases e2
 refine⟨by show(W.φ++[p]).length=_;rw[List.length_append,List.length_append,R.len];rfl,?_,?_,fun a o e=>hk a o (R.frozen a o e) (by rintro rfl;have e:W.B a=some o:=e;rw[dz] at e;cases e),fun q hq=> ?_,R.base,R.ok⟩
 ·apply aP;intro
  generalize bP .. =i,bS .. =q
  apply aJ;intro
  generalize nx .. =o'
  intro e e'
  rcases old i q e with⟨l,e⟩|⟨l,rfl⟩
  ·rw[List.getElem?_append_left (by rw[←R.len];exact l)] at e'
   have hq:q∈W.φ:=List.mem_of_getElem? e
   exact(R.objs i q o' e e').mono S (fun o z=>hk _ _ z (by rintro rfl;exact dR ⟨q,hq,.inl rfl⟩)) (fun o z=>hk _ _ z (by rintro rfl;exact dR ⟨q,hq,.inr rfl⟩))
  ·rw[List.getElem?_append_right (by rw[←R.len,l];exact Nat.le_refl _),l,R.len,Nat.sub_self] at e'
   cases e'
   exact ho
 ·apply aN;intro
  generalize bM .. =i,bN .. =j,bQ .. =q,bR .. =r
  intro hij e e'
  rcases old i q e with⟨l,e1⟩|⟨l,e1⟩<;>rcases old j r e' with⟨l',e2⟩|⟨l',e2⟩
  ·exact R.apart i j q r hij e1 e2
  ·rw[e2];exact j4 i q e1
  ·have:=j4 j r e2
   rw[e1]
   exact⟨fun z=>this.1 z.symm,fun z=>this.2.2.1 z.symm,fun z=>this.2.1 z.symm,fun z=>this.2.2.2 z.symm⟩
  ·exact absurd (l.trans l'.symm) hij
 ·have hq:q∈W.φ++[p]:=hq
  rcases List.mem_append.mp hq with hq|hq
  ·exact R.off q hq
  ·rw[List.mem_singleton.mp hq]
   constructor
   ·cases z:W.B p.1 with
    |none=>exact z
    |some o'=>have:=R.frozen _ _ z;rw[d1] at this;cases this
   ·cases z:W.B p.2 with
    |none=>exact z
    |some o'=>have:=R.frozen _ _ z;rw[d2] at this;cases this
theorem Wd.sU(W:Wd)(p:Addr×Addr):(W.add p).φ[W.φ.length]? =some p:=by
 show(W.φ++[p])[W.φ.length]? =some p
 rw[List.getElem?_append_right (Nat.le_refl _),Nat.sub_self];rfl
theorem Ext.freeze(W:Wd){a:Addr}{o:Obj}(d:h.get? a=none)(dB:W.B a=none):Ext W h (W.freeze a o):=
 ⟨fun b o' e=>by show(if b=a then _ else _)=_;rw[if_neg (by rintro rfl;rw[dB] at e;cases e)];exact e,fun b o' e=>by
  by_cases q:b=a
  ·exact .inr (q▸d)
  ·have e:(if b=a then some o else W.B b)=some o':=e
   rw[if_neg q] at e;exact .inl e,⟨[],by simp[Wd.freeze],fun _ hp=>nomatch hp⟩⟩
theorem HR.dead(R:HR X W H h){a:Addr}(d:h.get? a=none):W.B a=none:=by
 cases z:W.B a with
 |none=>rfl
 |some o=>have:=R.frozen _ _ z;rw[d] at this;cases this
theorem HR.w8(R:HR X W H h){a:Addr}{o:Obj}(dz:W.B L=none)(dR:¬Own W L)(hk:∀a o,h.get? a=some o→a≠L→h'.get? a=some o)(d:h.get? a=none)(ha:h'.get? a=some o):HR X (W.freeze a o) H h':=by
 have S:=Ext.freeze W (o:=o) d (R.dead d)
 refine⟨R.len,fun i p o e e'=>have hp:p∈W.φ:=List.mem_of_getElem? e;(R.objs i p o e e').mono S (fun o z=>hk _ _ z (by rintro rfl;exact dR ⟨p,hp,.inl rfl⟩)) (fun o z=>hk _ _ z (by rintro rfl;exact dR ⟨p,hp,.inr rfl⟩)),R.apart,fun b o' e=> ?_,fun p hp=> ?_,fun b o' e=>S.B _ _ (R.base _ _ e),R.ok⟩
 ·have e:(if b=a then some o else W.B b)=some o':=e
  by_cases q:b=a
  ·rw[if_pos q] at e;cases e;rw[q];exact ha
  ·rw[if_neg q] at e;exact hk _ _ (R.frozen _ _ e) (by rintro rfl;rw[dz] at e;cases e)
 ·have z:∀x,W.B x=none→Own W x→(W.freeze a o).B x=none:=fun x hx ox=>by
   show(if x=a then _ else _)=none
   rw[if_neg (by rintro rfl;obtain⟨o',e⟩:=R.eZ ox;rw[d] at e;cases e)];exact hx
  exact⟨z _ (R.off p hp).1 ⟨p,hp,.inl rfl⟩,z _ (R.off p hp).2 ⟨p,hp,.inr rfl⟩⟩
theorem Wd.iE(W:Wd)(a:Addr)(o:Obj):(W.freeze a o).B a=some o:=by show(if a=a then _ else _)=_;rw[if_pos rfl]
theorem Step.mA{i:Nat}{p:Addr×Addr}{l:List Env}(fr:j2 W h l)(e:W.φ[i]? =some p)(hk:∀a o,h.get? a=some o→a≠L→a≠p.1→a≠p.2→h'.get? a=some o)(hl:∃o,h'.get? L=some o)(l1:∃o,h'.get? p.1=some o)(l2:∃o,h'.get? p.2=some o):Step l L W h W h':=by
 have hp:p∈W.φ:=List.mem_of_getElem? e
 have nn:∀a,¬Own W a→a≠p.1∧a≠p.2:=fun a n=>⟨by rintro rfl;exact n ⟨p,hp,.inl rfl⟩,by rintro rfl;exact n ⟨p,hp,.inr rfl⟩⟩
 refine⟨.refl W h,fun a o e n nl _=>hk a o e nl (nn a n).1 (nn a n).2,fun a o e nl hm=> ?_,fun a o e=> ?_⟩
 ·obtain⟨en,he,hf⟩:=List.mem_filterMap.mp hm
  obtain⟨_,L',o',h1,h2,h3,h4,h5⟩:=fr en he
  rw[hf] at h1;cases h1
  exact⟨o.slots,hk a o e nl (nn a h3).1 (nn a h3).2⟩
 by_cases q1:a=p.1
 ·subst q1;exact l1
 by_cases q2:a=p.2
 ·subst q2;exact l2
 by_cases q3:a=L
 ·subst q3;exact hl
 exact⟨o,hk a o e q3 q1 q2⟩
theorem HR.mA{i:Nat}{p:Addr×Addr}{o':aH}(R:HR X W H h)(e:W.φ[i]? =some p)(dz:W.B L=none)(dR:¬Own W L)(hk:∀a o,h.get? a=some o→a≠L→a≠p.1→a≠p.2→h'.get? a=some o)(ho:ft X W h' p o'):HR X W (H.set i o') h':=by
 have hp:p∈W.φ:=List.mem_of_getElem? e
 refine⟨by rw[List.length_set];exact R.len,fun j q o e1 e2=> ?_,R.apart,fun a o e1=>hk a o (R.frozen a o e1) (by rintro rfl;rw[dz] at e1;cases e1) ?_ ?_,R.off,R.base,R.ok⟩
 ·by_cases z:i=j
  ·subst z
   rw[e] at e1;cases e1
   have hl:i<H.length:=by rw[←R.len];exact(List.getElem?_eq_some_iff.mp e).1
   rw[List.getElem?_set_self hl] at e2
   cases e2;exact ho
  ·rw[List.getElem?_set_ne z] at e2
   have hq:q∈W.φ:=List.mem_of_getElem? e1
   have A:=R.apart i j p q z e e1
   exact(R.objs j q o e1 e2).mono (Ext.refl W h) (fun o x=>hk _ _ x (by rintro rfl;exact dR ⟨q,hq,.inl rfl⟩) (fun y=>A.1 y.symm) (fun y=>A.2.2.1 y.symm)) (fun o x=>hk _ _ x (by rintro rfl;exact dR ⟨q,hq,.inr rfl⟩) (fun y=>A.2.1 y.symm) (fun y=>A.2.2.2 y.symm))
 ·rintro rfl;rw[(R.off p hp).1] at e1;cases e1
 ·rintro rfl;rw[(R.off p hp).2] at e1;cases e1
theorem Fr.ez{h₀:Heap}(F:Fr h₀ L h m)(hk:∀a o,h.get? a=some o→h'.get? a=some o):Fr h₀ L h' m:=⟨F.ns.keeps hk,fun b o e=>hk _ _ (F.keep b o e),F.above⟩
theorem Fr.write{i:Nat}{p:Addr×Addr}(x:St X l W H L m s)(e:W.φ[i]? =some p)(hk:∀a o,s.heap.get? a=some o→a≠p.1→a≠p.2→h'.get? a=some o):Fr X.h₀ L h' m:=by
 have hp:p∈W.φ:=List.mem_of_getElem? e
 have nn:∀a,¬Own W a→a≠p.1∧a≠p.2:=fun a n=>⟨by rintro rfl;exact n ⟨p,hp,.inl rfl⟩,by rintro rfl;exact n ⟨p,hp,.inr rfl⟩⟩
 obtain⟨o,es,ep,g,r⟩:=x.F.ns
 refine⟨⟨o,es,ep,hk _ _ g (nn _ x.dR).1 (nn _ x.dR).2,r⟩,fun b ob eb=> ?_,x.F.above⟩
 have n:=nn _ (x.R.dz (x.R.base _ _ eb))
 exact hk _ _ (x.F.keep b ob eb) n.1 n.2
noncomputable def allN(h₀ h:Heap)(L:Addr)(as:List Addr):List (Addr×Obj):=
 (List.range h.objs.size).filterMap fun a=>if a=L∨a∈as∨(h₀.get? a).isSome=true then none else(h.get? a).map fun o=>(a,o)
theorem mB{h₀ h:Heap}{as:List Addr}{a:Addr}{o:Obj}:(a,o)∈allN h₀ h L as↔h.get? a=some o∧a≠L∧a∉as∧h₀.get? a=none:=by
 revert L h₀ h as a o
 apply aN;intro
 generalize bM .. =L,bN .. =h₀,bQ .. =h,bR .. =as
 apply aP;intro
 generalize bP .. =a,bS .. =o
 unfold allN
 rw[List.mem_filterMap]
 constructor
 ·rintro⟨b,_,e⟩
  split at e
  ·cases e
  ·rename_i q
   obtain⟨o',e1,e2⟩:=Option.map_eq_some_iff.mp e
   cases e2
   simp only[not_or] at q
   exact⟨e1,q.1,q.2.1,by have:=q.2.2;revert this;cases h₀.get? _<;>simp⟩
 ·rintro⟨e,n1,n2,n3⟩
  refine⟨a,List.mem_range.mpr (Heap.lt_size e),?_⟩
  rw[if_neg (by rw[n3];simp[n1,n2]),e];rfl
theorem f9(h₀ h:Heap)(L:Addr)(as:List Addr):News h₀ L h (allN h₀ h L as):=fun p hp=>by
 obtain⟨a,o⟩:=p
 have:=mB.mp hp
 exact⟨this.1,this.2.1,this.2.2.2⟩
theorem gh{h₀:Heap}{as:List Addr}(F:Fr h₀ L h m)(F':Fr h₀ L h' m')(N:∀p∈allN h₀ h L as,h'.get? p.1=some p.2):∀a o,h.get? a=some o→a≠L→a∉as→h'.get? a=some o:=fun a o e n1 n2=>by
 cases q:h₀.get? a with
 |none=>exact N (a,o) (mB.mpr ⟨e,n1,n2,q⟩)
 |some o'=>
  have:=F.keep a o' q
  rw[e] at this;cases this
  exact F'.keep a o q
end
end
section
open PyProof.Rows PySem.Calls PySem.W
set_option backward.match.sparseCases false
set_option genInjectivity false
def zu(X:Cx)(k:XK)(base:Heap)(l:List Env)(e:Addr)(h:Heap):Prop:=match k with
 |.made=>∀env outer,l=env::outer→∀(A:Around) (Q:Unit→Shared→Prop) (E:Value→Shared→Prop) (s':Shared),s'.heap=h→A.frames=some l→
   (∀h'' a0,Heap.FlyingW base outer e (.ref X.bad) a0 h''→h.UpToSlots h''→Q () {s' with heap:=h''})→wpAny X.M A (leaving env (.ref e)) Q E s'
 |.flying=>∃a0,Heap.FlyingW base l e (.ref X.bad) a0 h
 |.held=>∃a0 L env outer,l=env::outer∧env.frame=some L∧Heap.HeldW base l e (.ref X.bad) a0 L h
structure Flew(X:Cx)(l:List Env)(L:Addr)(W:Wd)(h:Heap)(k:XK)(H':aa)(e:Addr)(W':Wd)(base h':Heap):Prop extends Ext W h W' where
 R:HR X W' H' base
 j5:zu X k base l e h'
 keep:∀a o,h.get? a=some o→¬Own W a→a≠L→a∉Fs l→base.get? a=some o
 slots:∀a o,h.get? a=some o→a≠L→a∈Fs l→∃sl,h'.get? a=some {o with slots:=sl}
theorem Flew.of_step{X:Cx}{l:List Env}{L:Addr}{W ct W':Wd}{h h₁ base h':Heap}{k:XK}{H':aa}{e:Addr}(S:Step l L W h ct h₁)(x:Flew X l L ct h₁ k H' e W' base h'):Flew X l L W h k H' e W' base h':=by
 refine⟨S.toExt.trans S.live x.toExt,x.R,x.j5,fun a o e n n1 n2=>x.keep a o (S.keep a o e n n1 n2) (S.own e n) n1 n2,fun a o e n1 n2=> ?_⟩
 obtain⟨sl,e'⟩:=S.slots a o e n1 n2
 obtain⟨w7,e''⟩:=x.slots a _ e' n1 n2
 exact⟨w7,e''⟩
structure EnvOk(env:Env):Prop where
 kind:env.scope.kind=.function
 globals:env.globals=mainGlobals
 builtins:env.builtins=builtinsNs
def qP(W:Wd)(env:Env)(m:Str→Option Value)(x:Str)(u:Value):Prop:=
 (env.kindOf x=some .local∧m x=some u)∨
 ∃ca o,(env.kindOf x=some .cell∨env.kindOf x=some .free)∧env.cells.lookup x=some ca∧W.B ca=some o∧o.data=.cell (some u)
noncomputable abbrev Nu:=List (Str×Nat)
def jo(X:Cx)(W:Wd)(env:Env)(ν:Nu)(m:Str→Option Value)(loc:Loc):Prop:=
 ∀x i v,ν.lookup x=some i→loc[i]? =some (some v)→∃u,qP W env m x u∧VR X W v u
theorem qP.mono{W W':Wd}{h:Heap}(S:Ext W h W'){env:Env}{m:Str→Option Value}{x:Str}{u:Value}:qP W env m x u→qP W' env m x u:=
 Or.imp id fun h=>h.imp fun _ h=>h.imp fun _ h=>⟨h.1,h.2.1,S.B _ _ h.2.2.1,h.2.2.2⟩
theorem jo.mono{X:Cx}{W W':Wd}{h:Heap}(S:Ext W h W'){env:Env}{ν:Nu}{m:Str→Option Value}{loc:Loc}(x:jo X W env ν m loc):jo X W' env ν m loc:=fun y i v e e'=>
 let⟨u,a,b⟩:=x y i v e e'
 ⟨u,a.mono S,b.mono S⟩
structure zv(A:Around)(l:List Env)(n:Nat):Prop where
 handled:A.handled=none
 frames:A.frames=some l
 depth:A.depth+4 * n+4≤900
 units:A.units+20 * n+20≤9000
structure Pt where
 s:Shared
 W:Wd
 H:aa
instance:Nonempty Pt:=⟨⟨{},⟨fun _=>none,[]⟩,[]⟩⟩
structure Le(l:List Env)(L:Addr)(σ bo:Pt):Prop where
 step:Step l L σ.W σ.s.heap bo.W bo.s.heap
 same:g8 σ.s bo.s
theorem Le.refl{l:List Env}{L:Addr}(σ:Pt):Le l L σ σ:=⟨.refl ..,.refl _⟩
theorem Le.trans{l:List Env}{L:Addr}{σ ae ao:Pt}(x:Le l L σ ae)(y:Le l L ae ao):Le l L σ ao:=⟨x.step.trans y.step,x.same.trans y.same⟩
theorem Le.ext{l:List Env}{L:Addr}{σ ae:Pt}(x:Le l L σ ae):Ext σ.W σ.s.heap ae.W:=x.step.toExt
structure Ct(X:Cx)(n:Nat)(env:Env)(ν:Nu) where
 A:Around
 l:List Env
 B:Pt
 E:EL
 Ψ:Value→Shared→Prop
 ok:Prop
 ak:ok→zv A l n
 fr:ok→j2 B.W B.s.heap l
 bad:ok→∀k m loc H' e W' base s',Flew X l env.locals B.W B.s.heap k H' e W' base s'.heap→Fr X.h₀ env.locals s'.heap m→jo X W' env ν m loc→g8 B.s s'→E k loc H'→Ψ (.ref e) s'
instance {X:Cx}{n:Nat}{env:Env}{ν:Nu}:Nonempty (Ct X n env ν):=⟨⟨{},[],⟨{},⟨fun _=>none,[]⟩,[]⟩,fun _ _ _=>True,fun _ _=>True,False,False.elim,False.elim,False.elim⟩⟩
structure Here{X:Cx}{n:Nat}{env:Env}{ν:Nu}(C:Ct X n env ν)(m:Str→Option Value)(loc:Loc)(σ:Pt):Prop where
 st:St X C.l σ.W σ.H env.locals m σ.s
 lr:jo X σ.W env ν m loc
 le:Le C.l env.locals C.B σ
 ok:C.ok
section
variable {α β:Type}{X:Cx}{P:ec}{n:Nat}{env:Env}{ν:Nu}{C:Ct X n env ν}{m:Str→Option Value}{loc:Loc}{σ ae bo:Pt}
def Good(C:Ct X n env ν)(m:Str→Option Value)(loc:Loc)(σ:Pt)(Rel:Wd→α→β→Prop)(R:α→aa→Prop)(Φ:β→Shared→Prop):Prop:=
 ∀v u bo,Here C m loc bo→Le C.l env.locals σ bo→Rel bo.W v u→R v bo.H→Φ u bo.s
variable {Rel:Wd→α→β→Prop}{R:α→aa→Prop}{Φ:β→Shared→Prop}
theorem Good.le(k:Good C m loc σ Rel R Φ)(x:Le C.l env.locals σ ae):Good C m loc ae Rel R Φ:=fun v u bo hr y r h=>k v u bo hr (x.trans y) r h
theorem Here.go(hr:Here C m loc σ)(x:Le C.l env.locals σ bo)(st:St X C.l bo.W bo.H env.locals m bo.s):Here C m loc bo:=⟨st,hr.lr.mono x.ext,hr.le.trans x,hr.ok⟩
theorem Here.rel(hr:Here C m loc σ):HR X σ.W σ.H σ.s.heap:=hr.st.R
theorem Ct.raise(hr:Here C m loc σ){k:XK}{H':aa}{e:Addr}{W':Wd}{base:Heap}{s':Shared}(fl:Flew X C.l env.locals σ.W σ.s.heap k H' e W' base s'.heap)(F:Fr X.h₀ env.locals s'.heap m)(q:g8 σ.s s')(h:C.E k loc H'):C.Ψ (.ref e) s':=
 C.bad hr.ok k m loc H' e W' base s' (fl.of_step hr.le.step) F (hr.lr.mono fl.toExt) (hr.le.same.trans q) h
theorem VR.up{v:PV}{u:Value}(x:VR X σ.W v u){l:List Env}{L:Addr}(y:Le l L σ ae):VR X ae.W v u:=x.mono y.ext
theorem Here.ez(hr:Here C m loc σ){h':Heap}{tk:Nat}(hk:∀a o,σ.s.heap.get? a=some o→a≠env.locals→h'.get? a=some o)(F':Fr X.h₀ env.locals h' m):
  Here C m loc ⟨{σ.s with heap:=h',toks:=tk},σ.W,σ.H⟩∧Le C.l env.locals σ ⟨{σ.s with heap:=h',toks:=tk},σ.W,σ.H⟩:=by
 have S:Step C.l env.locals σ.W σ.s.heap σ.W h':=Step.iD C.l (.refl σ.W σ.s.heap) hk (Fr.live F')
 have x:Le C.l env.locals σ ⟨{σ.s with heap:=h',toks:=tk},σ.W,σ.H⟩:=⟨S,rfl,rfl,rfl⟩
 exact⟨hr.go x (hr.st.next (s':={σ.s with heap:=h',toks:=tk}) S F' (hr.rel.iD hr.st.dz hr.st.dR hk)),x⟩
theorem Here.add'(hr:Here C m loc σ){p:Addr×Addr}{o:aH}{h':Heap}{tk:Nat}(hk:∀a o,σ.s.heap.get? a=some o→a≠env.locals→h'.get? a=some o)(F':Fr X.h₀ env.locals h' m)(d1:σ.s.heap.get? p.1=none)(d2:σ.s.heap.get? p.2=none)
  (ho:ft X (σ.W.add p) h' p o):Here C m loc ⟨{σ.s with heap:=h',toks:=tk},σ.W.add p,σ.H++[o]⟩∧Le C.l env.locals σ ⟨{σ.s with heap:=h',toks:=tk},σ.W.add p,σ.H++[o]⟩∧VR X (σ.W.add p) (.ref σ.H.length) (.ref p.1):=by
 have S:Step C.l env.locals σ.W σ.s.heap (σ.W.add p) h':=Step.iD C.l (.add σ.W d1 d2) hk (Fr.live F')
 have x:Le C.l env.locals σ ⟨{σ.s with heap:=h',toks:=tk},σ.W.add p,σ.H++[o]⟩:=⟨S,rfl,rfl,rfl⟩
 exact⟨hr.go x (hr.st.next (s':={σ.s with heap:=h',toks:=tk}) S F' (hr.rel.zt hr.st.dz hr.st.dR hk d1 d2 ho)),x,by rw[←hr.rel.len];exact .ref _ p (σ.W.sU p)⟩
theorem Here.freeze'(hr:Here C m loc σ){a:Addr}{o:Obj}{h':Heap}{tk:Nat}(hk:∀a o,σ.s.heap.get? a=some o→a≠env.locals→h'.get? a=some o)(F':Fr X.h₀ env.locals h' m)(d:σ.s.heap.get? a=none)(ha:h'.get? a=some o):
  Here C m loc ⟨{σ.s with heap:=h',toks:=tk},σ.W.freeze a o,σ.H⟩∧Le C.l env.locals σ ⟨{σ.s with heap:=h',toks:=tk},σ.W.freeze a o,σ.H⟩:=by
 have S:Step C.l env.locals σ.W σ.s.heap (σ.W.freeze a o) h':=Step.iD C.l (Ext.freeze σ.W (o:=o) d (hr.rel.dead d)) hk (Fr.live F')
 have x:Le C.l env.locals σ ⟨{σ.s with heap:=h',toks:=tk},σ.W.freeze a o,σ.H⟩:=⟨S,rfl,rfl,rfl⟩
 exact⟨hr.go x (hr.st.next (s':={σ.s with heap:=h',toks:=tk}) S F' (hr.rel.w8 hr.st.dz hr.st.dR hk d ha)),x⟩
theorem Here.write(hr:Here C m loc σ){i:Nat}{p:Addr×Addr}{o:aH}{h':Heap}{tk:Nat}(e:σ.W.φ[i]? =some p)(hk:∀a o,σ.s.heap.get? a=some o→a≠p.1→a≠p.2→h'.get? a=some o)(ho:ft X σ.W h' p o):
  Here C m loc ⟨{σ.s with heap:=h',toks:=tk},σ.W,σ.H.set i o⟩∧Le C.l env.locals σ ⟨{σ.s with heap:=h',toks:=tk},σ.W,σ.H.set i o⟩:=by
 have sF:∀a o,σ.s.heap.get? a=some o→a≠env.locals→a≠p.1→a≠p.2→h'.get? a=some o:=fun a o e _ n1 n2=>hk a o e n1 n2
 have F':Fr X.h₀ env.locals h' m:=Fr.write hr.st e hk
 have S:Step C.l env.locals σ.W σ.s.heap σ.W h':=Step.mA hr.st.fr e sF (Fr.live F') ho.live.1 ho.live.2
 have x:Le C.l env.locals σ ⟨{σ.s with heap:=h',toks:=tk},σ.W,σ.H.set i o⟩:=⟨S,rfl,rfl,rfl⟩
 exact⟨hr.go x (hr.st.next (s':={σ.s with heap:=h',toks:=tk}) S F' (hr.rel.mA e hr.st.dz hr.st.dR sF ho)),x⟩
theorem gz{v:α}{u:β}(k:Good C m loc σ Rel R Φ)(hr:Here C m loc σ)(h:R v σ.H)(r:Rel σ.W v u):Φ u σ.s:=k v u σ hr (.refl σ) r h
theorem Here.toks(hr:Here C m loc σ){tk:Nat}:Here C m loc ⟨{σ.s with toks:=tk},σ.W,σ.H⟩∧Le C.l env.locals σ ⟨{σ.s with toks:=tk},σ.W,σ.H⟩:=hr.ez (fun _ _ e _=>e) hr.st.F
theorem cJ{v:α}{u:β}{tk:Nat}(k:Good C m loc σ Rel R Φ)(hr:Here C m loc σ)(h:R v σ.H)(r:Rel σ.W v u):Φ u {σ.s with toks:=tk}:=k v u ⟨{σ.s with toks:=tk},σ.W,σ.H⟩ hr.toks.1 hr.toks.2 r h
theorem jt{v:α}{u:β}{h':Heap}{tk:Nat}(k:Good C m loc σ Rel R Φ)(hr:Here C m loc σ)(h:R v σ.H)(r:Rel σ.W v u)(hk:∀a o,σ.s.heap.get? a=some o→a≠env.locals→h'.get? a=some o)(F':Fr X.h₀ env.locals h' m):Φ u {σ.s with heap:=h',toks:=tk}:=
 have z:=hr.ez (tk:=tk) hk F'
 k v u _ z.1 z.2 r h
theorem zw{R:PV→aa→Prop}{Φ:Value→Shared→Prop}{p:Addr×Addr}{o:aH}{h':Heap}{tk:Nat}(k:Good C m loc σ (VR X) R Φ)(hr:Here C m loc σ)(h:R (.ref σ.H.length) (σ.H++[o]))(hk:∀a o,σ.s.heap.get? a=some o→a≠env.locals→h'.get? a=some o)(F':Fr X.h₀ env.locals h' m)(d1:σ.s.heap.get? p.1=none)(d2:σ.s.heap.get? p.2=none)
  (ho:ft X (σ.W.add p) h' p o):Φ (.ref p.1) {σ.s with heap:=h',toks:=tk}:=
 have z:=hr.add' (tk:=tk) hk F' d1 d2 ho
 k _ _ _ z.1 z.2.1 z.2.2 h
theorem uU{R:PV→aa→Prop}{Φ:Value→Shared→Prop}{p:Addr×Addr}{o:aH}{h':Heap}{tk:Nat}{u:Value}(k:Good C m loc σ (VR X) R Φ)(hr:Here C m loc σ)(h:R (.ref σ.H.length) (σ.H++[o]))(hk:∀a o,σ.s.heap.get? a=some o→h'.get? a=some o)(d1:σ.s.heap.get? p.1=none)(d2:σ.s.heap.get? p.2=none)
  (ho:ft X (σ.W.add p) h' p o) (hu:u=.ref p.1):Φ u {σ.s with heap:=h',toks:=tk}:=by
 subst hu;exact zw k hr h (fun a o e _=>hk a o e) (Fr.ez hr.st.F hk) d1 d2 ho
theorem oK{R:PV→aa→Prop}{Φ:Value→Shared→Prop}{a:Addr}{o:Obj}{c:Nat}{vs:List Value}{ls:List PV}{h':Heap}{tk:Nat}(k:Good C m loc σ (VR X) R Φ)(hr:Here C m loc σ)(h:R (.tup ls) σ.H)(hk:∀a o,σ.s.heap.get? a=some o→a≠env.locals→h'.get? a=some o)(F':Fr X.h₀ env.locals h' m)(d:σ.s.heap.get? a=none)
  (ha:h'.get? a=some o) (hc:o.cls=.type "tuple") (hd:o.data=.seq vs.toArray c) (hv:cM X σ.W ls vs):Φ (.ref a) {σ.s with heap:=h',toks:=tk}:=
 have z:=hr.freeze' (tk:=tk) hk F' d ha
 k _ _ _ z.1 z.2 (.tup _ a o c vs (σ.W.iE a o) hc hd (hv.mono z.2.ext)) h
theorem mC{R:PV→aa→Prop}{Φ:Value→Shared→Prop}{a:Addr}{o:Obj}{c:Nat}{vs:List Value}{ls:List PV}{h':Heap}{tk:Nat}{u:Value}(k:Good C m loc σ (VR X) R Φ)(hr:Here C m loc σ)(h:R (.tup ls) σ.H)(hk:∀a o,σ.s.heap.get? a=some o→h'.get? a=some o)(d:σ.s.heap.get? a=none)
  (ha:h'.get? a=some o) (hc:o.cls=.type "tuple") (hd:o.data=.seq vs.toArray c) (hv:cM X σ.W ls vs) (hu:u=.ref a):Φ u {σ.s with heap:=h',toks:=tk}:=by
 subst hu;exact oK k hr h (fun a o e _=>hk a o e) (Fr.ez hr.st.F hk) d ha hc hd hv
theorem okWrite{v:α}{u:β}{i:Nat}{p:Addr×Addr}{o:aH}{h':Heap}{tk:Nat}(k:Good C m loc σ Rel R Φ)(hr:Here C m loc σ)(e:σ.W.φ[i]? =some p)(h:R v (σ.H.set i o))(r:Rel σ.W v u)(hk:∀a o,σ.s.heap.get? a=some o→a≠p.1→a≠p.2→h'.get? a=some o)
  (ho:ft X σ.W h' p o):Φ u {σ.s with heap:=h',toks:=tk}:=
 have z:=hr.write (tk:=tk) e hk ho
 k v u _ z.1 z.2 r h
end
theorem aV(h:Heap):h.get? h.objs.size=none:=by
 cases q:h.get? h.objs.size with
 |none=>rfl
 |some o=>exact absurd (Heap.lt_size q) (Nat.lt_irrefl _)
def GoE{α β:Type}(X:Cx)(n:Nat)(env:Env)(ν:Nu)(t:Sem β)(Rel:Wd→α→β→Prop)(T:Loc→aa→(α→aa→Prop)→(XK→aa→Prop)→Prop):Prop:=
 ∀(C:Ct X n env ν) m loc σ R Φ,Here C m loc σ→T loc σ.H R (fun k H=>C.E k loc H)→Good C m loc σ Rel R Φ→wpAny X.M C.A t Φ C.Ψ σ.s
def GoT{β:Type}(X:Cx)(n:Nat)(env:Env)(ν:Nu)(t:Sem β)(y z:β)(T:Loc→aa→(aa→Prop)→(aa→Prop)→(XK→aa→Prop)→Prop):Prop:=
 ∀(C:Ct X n env ν) m loc σ S F Φ,Here C m loc σ→T loc σ.H S F (fun k H=>C.E k loc H)→(∀bo,Here C m loc bo→Le C.l env.locals σ bo→S bo.H→Φ y bo.s)→(∀bo,Here C m loc bo→Le C.l env.locals σ bo→F bo.H→Φ z bo.s)→wpAny X.M C.A t Φ C.Ψ σ.s
structure az(X:Cx)(P:ec)(n:Nat)(env:Env)(ν:Nu)(e:Expr)(ie:IE):Prop where
 ev:GoE X n env ν (eval e env) (VR X) (wE P (aj P n) ie)
 tv:GoT X n env ν (eval e env) (.bool true) (.bool false) (wT P (aj P n) ie)
def iK(X:Cx)(P:ec)(n:Nat)(env:Env)(ν:Nu)(e:Expr)(ie:IE):Prop:=GoT X n env ν (isTrue e env (eval e env)) true false (wT P (aj P n) ie)
section
variable {X:Cx}{P:ec}{n:Nat}{env:Env}{ν:Nu}{e:Expr}{ie:IE}
theorem az.of(x:GoE X n env ν (eval e env) (VR X) (wE P (aj P n) ie))(h:∀{loc H S F E},wT P (aj P n) ie loc H S F E→False):az X P n env ν e ie:=⟨x,fun _ _ _ _ _ _ _ _ h'=>(h h').elim⟩
theorem WV.el{v:PV}{A B:Prop}(h:WV v A B):(v=.bool true∧A)∨(v=.bool false∧B):=by
 cases v with
 |bool b=>cases b;exact .inr ⟨rfl,h⟩;exact .inl ⟨rfl,h⟩
 |_=>exact h.elim
theorem VR.bool_inv{W:Wd}{b:Bool}{u:Value}(h:VR X W (.bool b) u):u=.bool b:=by cases h;rfl
theorem az.ofV(x:GoE X n env ν (eval e env) (VR X) (wE P (aj P n) ie))(h:∀{loc H S F E},wT P (aj P n) ie loc H S F E→wE P (aj P n) ie loc H (fun v H=>WV v (S H) (F H)) E):az X P n env ν e ie:=
 ⟨x,fun C m loc σ S F Φ hr h' kt kf=>x C m loc σ _ Φ hr (h h') fun v u bo dM le r w=>by
  rcases w.el with⟨rfl,w⟩|⟨rfl,w⟩
  ·rw[r.bool_inv];exact kt bo dM le w
  ·rw[r.bool_inv];exact kf bo dM le w⟩
end
end
section
open PyProof.Rows PySem.Calls PySem.W SeqAt
set_option genInjectivity false
section
variable {X:Cx}{W:Wd}{H:aa}{h:Heap}
theorem VR.int_inv{i:Int}{u:Value}(x:VR X W (.int i) u):∃t,u=.int i t:=by cases x;exact⟨_,rfl⟩
theorem VR.str_inv{i:Str}{u:Value}(x:VR X W (.str i) u):∃t,u=.str i t:=by cases x;exact⟨_,rfl⟩
theorem VR.none_inv{u:Value}(x:VR X W .none u):u=.none:=by cases x;rfl
theorem VR.ju{i:Nat}{u:Value}(x:VR X W (.ref i) u):∃p,W.φ[i]? =some p∧u=.ref p.1:=by cases x;exact⟨_,‹_›,rfl⟩
theorem fG{l:List PV}{u:Value}(R:HR X W H h)(v:VR X W (.tup l) u):∃a vs,u=.ref a∧IsTup h a vs.toArray∧cM X W l vs:=by
 cases v with
 |tup _ a o k vs hb hc hd r=>exact⟨a,vs,rfl,⟨o,R.frozen _ _ hb,hc,k,hd⟩,r⟩
theorem cM.nil_inv{vs:List Value}(x:cM X W [] vs):vs=[]:=by cases x;rfl
theorem cM.cons_inv{v:PV}{l:List PV}{vs:List Value}(x:cM X W (v::l) vs):∃u us,vs=u::us∧VR X W v u∧cM X W l us:=by
 cases x with|cons a b=>exact⟨_,_,rfl,a,b⟩
theorem HR.atR(R:HR X W H h){i:Nat}{u:Value}{o:aH}(v:VR X W (.ref i) u)(e:H[i]? =some o):∃p,u=.ref p.1∧W.φ[i]? =some p∧ft X W h p o:=by
 obtain⟨p,hp,rfl⟩:=v.ju
 obtain⟨p',B8,o⟩:=R.at e
 obtain rfl:=Option.some.inj (hp.symm.trans B8)
 exact⟨p,rfl,hp,o⟩
theorem HR.cI(R:HR X W H h){i:Nat}{u:Value}{x:List PV}(v:VR X W (.ref i) u)(e:H[i]? =some (.list x)):
  ∃a vs c,u=.ref a∧W.φ[i]? =some (a,a)∧h.get? a=some (lst vs.toArray c)∧cM X W x vs:=by
 revert X W H h i u x
 apply aN;intro
 generalize bM .. =X,bN .. =W,bQ .. =H,bR .. =h
 intro R
 apply aP;intro
 generalize bP .. =i,bS .. =u
 apply aJ;intro
 generalize nx .. =x
 intro v e
 obtain⟨⟨p1,p2⟩,e1,hp,e2,vs,c,g,r⟩:=R.atR v e
 obtain rfl:p2=p1:=e2
 exact⟨p2,vs,c,e1,hp,g,r⟩
theorem HR.gC(R:HR X W H h){i:Nat}{u:Value}{x:List (Int×PV)}(v:VR X W (.ref i) u)(e:H[i]? =some (.aW x)):
  ∃a kvs,u=.ref a∧W.φ[i]? =some (a,a)∧(a == sysModules)=false∧h.DictOf (intKind X.prog X.w) a kvs∧DR X W x kvs:=by
 revert X W H h i u x
 apply aN;intro
 generalize bM .. =X,bN .. =W,bQ .. =H,bR .. =h
 intro R
 apply aP;intro
 generalize bP .. =i,bS .. =u
 apply aJ;intro
 generalize nx .. =x
 intro v e
 obtain⟨⟨p1,p2⟩,e1,hp,e2,sm,kvs,g,r⟩:=R.atR v e
 obtain rfl:p2=p1:=e2
 exact⟨p2,kvs,e1,hp,sm,g,r⟩
theorem aI{a:Addr}{sT:Array Value}{k:Nat}(e:h.get? a=some (lst sT k)):h.IsList a sT:=⟨_,e,rfl,k,rfl⟩
theorem iY{a b:PV}{x y:Value}{f:Int→Int→Prop}(h:wI a fun i=>wI b fun j=>f i j)(hx:VR X W a x)(hy:VR X W b y):∃i j t u,x=.int i t∧y=.int j u∧f i j:=by
 obtain⟨i,rfl,h⟩:=wI.el h
 obtain⟨j,rfl,h⟩:=wI.el (v:=b) h
 obtain⟨t,rfl⟩:=hx.int_inv
 obtain⟨u,rfl⟩:=hy.int_inv
 exact⟨i,j,t,u,rfl,rfl,h⟩
end
section
variable {X:Cx}{P:ec}{n:Nat}{env:Env}{ν:Nu}{C:Ct X n env ν}{m:Str→Option Value}{loc:Loc}{σ:Pt}
theorem zv.cl{A:Around}{l:List Env}{n:Nat}(a:zv A l n):A.units<cLine:=by have:=a.units;show A.units<9900;exact uQ this rfl
theorem zv.cl64{A:Around}{l:List Env}{n:Nat}(a:zv A l n):A.in1.units+64<cLine:=by have:=a.units;show A.units+1+64<9900;exact ar25 this
theorem zx(k pos):az X P n env ν (.Constant .none k pos) (.const .none):=.of (fun C m loc σ R Φ hr h k=>wpAny_Constant_none (gz k hr h .none)) id
theorem zy(b k pos):az X P n env ν (.Constant (.bool b) k pos) (.const (.bool b)):=.of (fun C m loc σ R Φ hr h k=>wpAny_Constant_bool (gz k hr h (.bool b))) id
theorem snd_int(i k pos):az X P n env ν (.Constant (.int i) k pos) (.const (.int i)):=.of (fun C m loc σ R Φ hr h k=>wpAny_Constant_int (cJ k hr h (.int i _))) id
theorem snd_str(x k pos):az X P n env ν (.Constant (.str x) k pos) (.const (.str x)):=.of (fun C m loc σ R Φ hr h k=>wpAny_Constant_str (cJ k hr h (.str x _))) id
theorem kN{x:Str}{u:Value}{A:Around}{Q E:Value→Shared→Prop}(ev:EnvOk env)(hr:Here C m loc σ)(nr:qP σ.W env m x u)(hc:(x == ("__classdict__":Str))=false)(q:Q u σ.s):
  wpAny X.M A (loadName env x) Q E σ.s:=by
 rcases nr with⟨hl,hv⟩|⟨ca,o,hk,hl,hb,hd⟩
 ·exact wpAny_loadName_local ev.kind hl hr.st.F.ns hv q
 ·rcases hk with hk|hk
  ·exact wpAny_loadName_cell ev.kind hk hl ⟨o,hr.rel.frozen _ _ hb,hd⟩ q
  ·exact wpAny_loadName_free ev.kind hk hl ⟨o,hr.rel.frozen _ _ hb,hd⟩ q hc
theorem look.el{k:PV→Prop}:∀{l:Loc} {x:Nat},look l x k→∃v,l[x]? =some (some v)∧k v
 |[],_,h=>h.elim
 |some v::_,0,h=>⟨v,rfl,h⟩
 |none::_,0,h=>h.elim
 |_::r,n+1,h=>by rw[List.getElem?_cons_succ];exact look.el (l:=r) h
theorem snd_var{x:Str}{i:Nat}(pos:Pos)(ev:EnvOk env)(hx:ν.lookup x=some i)(hd:(x == ("__debug__":Str))=false)(hc:(x == ("__classdict__":Str))=false):az X P n env ν (.Name x pos) (.var i):=
 .ofV (fun C m loc σ R Φ hr h k=>by
  obtain⟨v,hv,h⟩:=look.el h
  obtain⟨u,nr,vr⟩:=hr.lr x i v hx hv
  exact wpAny_Name (kN ev hr nr hc (gz k hr h vr)) hd) id
theorem zz{x:Str}{v:PV}{u:Value}(pos:Pos)(ev:EnvOk env)(hx:env.kindOf x=some .globalImplicit)(hd:(x == ("__debug__":Str))=false)(e:nsIn X.K mainGlobals x=some (some u))
  (hv:∀W,(∀a o,X.h₀.get? a=some o→W.B a=some o)→VR X W v u):az X P n env ν (.Name x pos) (.const v):=
 .of (fun C m loc σ R Φ hr h k=>nameG_K hr.st.F (X.X hr.rel.ok) (X.T hr.rel.ok) e (gz k hr h (hv _ hr.rel.base)) ev.globals ev.kind hx hd) id
theorem add_el{a b:PV}{k:PV→Prop}(h:wAdd a b k):(∃i j,a=.int i∧b=.int j∧k (.int (i+j)))∨∃i j,a=.tup i∧b=.tup j∧i.length+j.length<1000∧k (.tup (i++j)):=by
 cases a with
 |int i=>obtain⟨j,e,h⟩:=wI.el (v:=b) h;exact .inl ⟨i,j,rfl,e,h⟩
 |tup i=>obtain⟨j,e,h⟩:=jn.el (v:=b) h;exact .inr ⟨i,j,rfl,e,h.el⟩
 |_=>exact h.elim
theorem sV{op:Operator}{a b:PV}{x y:Value}{R:PV→aa→Prop}{Φ E:Value→Shared→Prop}(hr:Here C m loc σ)(k:Good C m loc σ (VR X) R Φ)(hx:VR X σ.W a x)(hy:VR X σ.W b y)(h:wBin op a b fun v=>R v σ.H):
  wpAny X.M C.A (binaryOp op x y) Φ E σ.s:=by
 cases op with
 |Add=>
  rcases add_el (a:=a) (b:=b) (k:=fun v=>R v σ.H) h with⟨i,j,rfl,rfl,h⟩|⟨i,j,rfl,rfl,q,h⟩
  ·obtain⟨t,rfl⟩:=hx.int_inv
   obtain⟨u,rfl⟩:=hy.int_inv
   exact add_int (cJ k hr h (.int _ _))
  ·obtain⟨a1,vs,rfl,ht,r1⟩:=fG hr.rel hx
   obtain⟨a2,ws,rfl,hb,r2⟩:=fG hr.rel hy
   refine add_tuples hr.st.F (f9 X.h₀ σ.s.heap env.locals []) ht hb (fun ev=> ?_) (fun _ ew=> ?_) (fun _ _ h' F' N'=> ?_) (by rw[←r1.length,←r2.length,sizeLine_eq];exact lu q rfl)
   ·subst ev
    obtain rfl:i=[]:=List.eq_nil_of_length_eq_zero r1.length
    exact gz k hr h hy
   ·subst ew
    obtain rfl:j=[]:=List.eq_nil_of_length_eq_zero r2.length
    rw[List.append_nil] at h
    exact gz k hr h hx
   ·exact oK (tk:=σ.s.toks) k hr h (fun a o e q=>gh hr.st.F F' (fun p hp=>(N' p (List.mem_cons_of_mem _ hp)).1) a o e q List.not_mem_nil) F' (aV _) (N' _ (.head _)).1 rfl rfl (r1.append r2)
 |Sub=>obtain⟨i,j,t,u,rfl,rfl,h⟩:=iY h hx hy;exact sub_int (cJ k hr h (.int _ _))
 |Mult=>
  obtain⟨i,j,t,u,rfl,rfl,h⟩:=iY h hx hy
  exact mul_int (cJ k hr h.el.2 (.int _ _)) (h.el.1.elim (fun q=>.of_left (intBits_le q)) fun q=>.of_right (intBits_le q))
 |FloorDiv=>obtain⟨i,j,t,u,rfl,rfl,h⟩:=iY h hx hy;exact floordiv_int h.el.1.1 (cJ k hr h.el.2 (.int _ _)) (.inl h.el.1.2)
 |Mod=>obtain⟨i,j,t,u,rfl,rfl,h⟩:=iY h hx hy;exact mod_int' h.el.1 (cJ k hr h.el.2 (.int _ _))
 |Pow=>obtain⟨i,j,t,u,rfl,rfl,h⟩:=iY h hx hy;exact pow_int_small h.el.1.2.1 (Int.le_trans h.el.1.2.2 (by decide)) h.el.1.1 (cJ k hr h.el.2 (.int _ _))
 |_=>exact h.elim
theorem snd_bin{a b:Expr}{ia ib:IE}(op:Operator)(pos:Pos)(ha:az X P n env ν a ia)(hb:az X P n env ν b ib):az X P n env ν (.BinOp a op b pos) (.bin op ia ib):=
 .of (fun C m loc σ R Φ hr h k=>wpAny_BinOp (ha.ev C m loc σ _ _ hr h fun x u ae au ay aK h=>hb.ev C m loc ae _ _ au h fun y w ao aC aG bU h=>sV aC (k.le (ay.trans aG)) (aK.up aG) bU h)) id
theorem snd_neg{a:Expr}{ia:IE}(pos:Pos)(ha:az X P n env ν a ia):az X P n env ν (.UnaryOp .USub a pos) (.neg ia):=
 .of (fun C m loc σ R Φ hr h k=>wpAny_UnaryOp (ha.ev C m loc σ _ _ hr h fun x u ae au ay aK h=>by
  obtain⟨i,rfl,h⟩:=wI.el h
  obtain⟨t,rfl⟩:=aK.int_inv
  exact neg_int (cJ (k.le ay) au h (.int _ _)))) id
theorem snd_not{a:Expr}{ia:IE}(pos:Pos)(ha:az X P n env ν a ia):az X P n env ν (.UnaryOp .Not a pos) (.not ia):=
 ⟨fun C m loc σ R Φ hr h k=>wpAny_UnaryOp (ha.ev C m loc σ _ _ hr h fun x u ae au ay aK h=>by
  obtain⟨i,rfl,h⟩:=wBo.el (k:=fun b=>R (.bool (!b)) ae.H) h
  rw[aK.bool_inv]
  exact not_value (wpAny_truthy_bool (gz (k.le ay) au h (.bool _)))),
 fun C m loc σ S F Φ hr h kt kf=>wpAny_UnaryOp (ha.tv C m loc σ F S _ hr h (fun bo dM le h=>not_value (wpAny_truthy_bool (kf bo dM le h))) fun bo dM le h=>not_value (wpAny_truthy_bool (kt bo dM le h)))⟩
structure qQ(X:Cx)(P:ec)(n:Nat)(env:Env)(ν:Nu)(op:BoolOp)(es:List Expr)(ie:IE):Prop where
 ev:∀pos,GoE X n env ν (boolOp pos op (evalEach es env)) (VR X) (wE P (aj P n) ie)
 tv:∀pos,GoT X n env ν (boolOp pos op (evalEach es env)) (.bool true) (.bool false) (wT P (aj P n) ie)
def qR(X:Cx)(P:ec)(n:Nat)(env:Env)(ν:Nu)(op:BoolOp)(es:List Expr)(ie:IE):Prop:=GoT X n env ν (allTrue op es env) true false (wT P (aj P n) ie)
theorem zA{op:BoolOp}{a:Expr}{ia:IE}(ha:az X P n env ν a ia):qQ X P n env ν op [a] ia:=⟨fun _=>ha.ev,fun _=>ha.tv⟩
theorem zB{a b:Expr}{es:List Expr}{ia:IE}{pos:Pos}(ha:az X P n env ν a ia){C:Ct X n env ν}{S F:aa→Prop}{Φ:Value→Shared→Prop}(hr:Here C m loc σ)(h:wT P (aj P n) ia loc σ.H S F fun k H=>C.E k loc H)
  (kt:∀bo,Here C m loc bo→Le C.l env.locals σ bo→S bo.H→wpAny X.M C.A (boolOp pos .And (evalEach (b::es) env)) Φ C.Ψ bo.s) (kf:∀bo,Here C m loc bo→Le C.l env.locals σ bo→F bo.H→Φ (.bool false) bo.s):
  wpAny X.M C.A (boolOp pos .And (evalEach (a::b::es) env)) Φ C.Ψ σ.s:=by
 show wpAny X.M C.A (eval a env >>= fun v=>standAt pos >>= fun _=>holding [v] (truthy v) >>= fun t=>match BoolOp.And,t with
  |.And,false|.Or,true=>pure v
  |_,_=>boolOp pos .And (evalEach (b::es) env)) _ _ σ.s
 exact wpAny_bind (ha.tv C m loc σ S F _ hr h (fun bo dM le h=>wpAny_bind (wpAny_standAt (wpAny_bind (wpAny_holding (wpAny_truthy_bool (kt bo dM le h)))))) fun bo dM le h=>wpAny_bind (wpAny_standAt (wpAny_bind (wpAny_holding (wpAny_truthy_bool (wpAny_pure (kf bo dM le h)))))))
theorem or_go{a b:Expr}{es:List Expr}{ia:IE}{pos:Pos}(ha:az X P n env ν a ia){C:Ct X n env ν}{S F:aa→Prop}{Φ:Value→Shared→Prop}(hr:Here C m loc σ)(h:wT P (aj P n) ia loc σ.H S F fun k H=>C.E k loc H)
  (kt:∀bo,Here C m loc bo→Le C.l env.locals σ bo→S bo.H→Φ (.bool true) bo.s) (kf:∀bo,Here C m loc bo→Le C.l env.locals σ bo→F bo.H→wpAny X.M C.A (boolOp pos .Or (evalEach (b::es) env)) Φ C.Ψ bo.s):
  wpAny X.M C.A (boolOp pos .Or (evalEach (a::b::es) env)) Φ C.Ψ σ.s:=by
 show wpAny X.M C.A (eval a env >>= fun v=>standAt pos >>= fun _=>holding [v] (truthy v) >>= fun t=>match BoolOp.Or,t with
  |.And,false|.Or,true=>pure v
  |_,_=>boolOp pos .Or (evalEach (b::es) env)) _ _ σ.s
 exact wpAny_bind (ha.tv C m loc σ S F _ hr h (fun bo dM le h=>wpAny_bind (wpAny_standAt (wpAny_bind (wpAny_holding (wpAny_truthy_bool (wpAny_pure (kt bo dM le h))))))) fun bo dM le h=>wpAny_bind (wpAny_standAt (wpAny_bind (wpAny_holding (wpAny_truthy_bool (kf bo dM le h))))))
theorem zC{a b:Expr}{es:List Expr}{ia ib:IE}(ha:az X P n env ν a ia)(hb:qQ X P n env ν .And (b::es) ib):qQ X P n env ν .And (a::b::es) (.and ia ib):=
 ⟨fun pos C m loc σ R Φ hr h k=>zB ha hr h (fun bo dM le h=>hb.ev pos C m loc bo R Φ dM h (k.le le)) fun bo dM le h=>gz (k.le le) dM h (.bool _),
 fun pos C m loc σ S F Φ hr h kt kf=>zB ha hr h (fun bo dM le h=>hb.tv pos C m loc bo S F Φ dM h (fun iZ i8 i9=>kt iZ i8 (le.trans i9)) fun iZ i8 i9=>kf iZ i8 (le.trans i9)) kf⟩
theorem sndB_or{a b:Expr}{es:List Expr}{ia ib:IE}(ha:az X P n env ν a ia)(hb:qQ X P n env ν .Or (b::es) ib):qQ X P n env ν .Or (a::b::es) (.or ia ib):=
 ⟨fun pos C m loc σ R Φ hr h k=>or_go ha hr h (fun bo dM le h=>gz (k.le le) dM h (.bool _)) fun bo dM le h=>hb.ev pos C m loc bo R Φ dM h (k.le le),
 fun pos C m loc σ S F Φ hr h kt kf=>or_go ha hr h kt fun bo dM le h=>hb.tv pos C m loc bo S F Φ dM h (fun iZ i8 i9=>kt iZ i8 (le.trans i9)) fun iZ i8 i9=>kf iZ i8 (le.trans i9)⟩
theorem sW{op:BoolOp}{es:List Expr}{ie:IE}(pos:Pos)(h:qQ X P n env ν op es ie):az X P n env ν (.BoolOp op es pos) ie:=⟨h.ev pos,h.tv pos⟩
theorem zD{op:BoolOp}{a:Expr}{ia:IE}(ha:iK X P n env ν a ia):qR X P n env ν op [a] ia:=fun C m loc σ S F Φ hr h kt kf=>by
 cases op with
 |And=>exact wpAny_allTrue_And_cons (ha C m loc σ S F _ hr h (fun bo dM le h=>wpAny_allTrue_And_nil (kt bo dM le h)) kf)
 |Or=>exact wpAny_allTrue_Or_cons (ha C m loc σ S F _ hr h kt fun bo dM le h=>wpAny_allTrue_Or_nil (kf bo dM le h))
theorem zE{a b:Expr}{es:List Expr}{ia ib:IE}(ha:iK X P n env ν a ia)(hb:qR X P n env ν .And (b::es) ib):qR X P n env ν .And (a::b::es) (.and ia ib):=fun C m loc σ S F Φ hr h kt kf=>
 wpAny_allTrue_And_cons (ha C m loc σ _ F _ hr h (fun bo dM le h=>hb C m loc bo S F Φ dM h (fun iZ i8 i9=>kt iZ i8 (le.trans i9)) fun iZ i8 i9=>kf iZ i8 (le.trans i9)) kf)
theorem sndA_or{a b:Expr}{es:List Expr}{ia ib:IE}(ha:iK X P n env ν a ia)(hb:qR X P n env ν .Or (b::es) ib):qR X P n env ν .Or (a::b::es) (.or ia ib):=fun C m loc σ S F Φ hr h kt kf=>
 wpAny_allTrue_Or_cons (ha C m loc σ S _ _ hr h kt fun bo dM le h=>hb C m loc bo S F Φ dM h (fun iZ i8 i9=>kt iZ i8 (le.trans i9)) fun iZ i8 i9=>kf iZ i8 (le.trans i9))
theorem qS{op:BoolOp}{es:List Expr}{ie:IE}(pos:Pos)(h:qR X P n env ν op es ie):iK X P n env ν (.BoolOp op es pos) ie:=fun C m loc σ S F Φ hr h' kt kf=>wpAny_isTrue_BoolOp (h C m loc σ S F Φ hr h' kt kf)
theorem jv{a:Expr}{ia:IE}(ha:az X P n env ν a ia)(he:∀whole,isTrue a env whole=(do let v ←whole;standAt a.pos;holding [v] (truthy v))):iK X P n env ν a ia:=fun C m loc σ S F Φ hr h kt kf=>
 wpAny_isTrue_value (ha.tv C m loc σ S F _ hr h (fun bo dM le h=>wpAny_truthy_bool (kt bo dM le h)) fun bo dM le h=>wpAny_truthy_bool (kf bo dM le h)) (he _)
theorem zF{a:Expr}{ia:IE}(pos:Pos)(ha:iK X P n env ν a ia):iK X P n env ν (.UnaryOp .Not a pos) (.not ia):=fun C m loc σ S F Φ hr h kt kf=>
 wpAny_isTrue_Not (ha C m loc σ F S _ hr h kf kt)
theorem snd_ite{c a b:Expr}{ic ia ib:IE}(pos:Pos)(hc:iK X P n env ν c ic)(ha:az X P n env ν a ia)(hb:az X P n env ν b ib):az X P n env ν (.IfExp c a b pos) (.ite ic ia ib):=
 .of (fun C m loc σ R Φ hr h k=>wpAny_IfExp (hc C m loc σ _ _ _ hr h (fun bo dM le h=>ha.ev C m loc bo R Φ dM h (k.le le)) fun bo dM le h=>hb.ev C m loc bo R Φ dM h (k.le le))) id
end
end
section
open PyProof.Rows PySem.Calls PySem.W SeqAt
set_option backward.match.sparseCases false
section
variable {X:Cx}{W:Wd}{A:Around}{s:Shared}
theorem pM(x y:Int):decide (x=y)=(x == y):=by by_cases h:x=y<;>simp[h]
theorem kO{x y:List PV}{b:Bool}(h:g0 x y=some b):(x=[]∧y=[]∧b=true)∨∃i r k t b',x=.int i::r∧y=.int k::t∧g0 r t=some b'∧b=(decide (i=k) && b'):=by
 cases x with
 |nil=>cases y with
  |nil=>exact .inl ⟨rfl,rfl,(Option.some.inj h).symm⟩
  |cons=>exact cj h
 |cons a r=>cases y with
  |nil=>exact cj h
  |cons c t=>
   obtain⟨i,hi,h⟩:=Option.bind_eq_some_iff.mp h
   obtain⟨k,hk,h⟩:=Option.bind_eq_some_iff.mp h
   obtain⟨b',hb,e⟩:=Option.map_eq_some_iff.mp h
   exact .inr ⟨i,r,k,t,b',congrArg (· ::r) (mf hi),congrArg (· ::t) (mf hk),hb,e.symm⟩
theorem w9(A:Around)(s:Shared):∀(x:List PV) {y:List PV} {vs us:List Value} {b:Bool},g0 x y=some b→cM X W x vs→cM X W y us→vs.length=us.length∧∃e:Nat→Bool,(∀j (h1:j<vs.length) (h2:j<us.length),EqAt A s vs[j] us[j] (e j))∧b=(List.range vs.length).all e:=by
 revert X W A s
 apply aN;intro
 generalize bM .. =X,bN .. =W,bQ .. =A,bR .. =s
 intro x
 induction x with
 |nil=>
  intro y vs us b h hx hy
  rcases kO h with⟨_,rfl,rfl⟩|⟨_,_,_,_,_,e,_⟩
  ·rw[hx.nil_inv,hy.nil_inv];exact⟨rfl,fun _=>true,fun j h1=>absurd h1 (Nat.not_lt_zero _),rfl⟩
  ·cases e
 |cons a r ih=>
  intro y vs us b h hx hy
  rcases kO h with⟨e,_⟩|⟨i,r',k,t,b',e,rfl,hb,rfl⟩
  ·cases e
  cases e
  obtain⟨u,us',rfl,hu,hr⟩:=hx.cons_inv
  obtain⟨v,vs',rfl,hv,ht⟩:=hy.cons_inv
  obtain⟨t1,rfl⟩:=hu.int_inv
  obtain⟨t2,rfl⟩:=hv.int_inv
  obtain⟨hl,e,he,rfl⟩:=ih hb hr ht
  refine⟨congrArg (· +1) hl,fun j=>j.casesOn (decide (i=k)) e,fun j h1 h2=> ?_,?_⟩
  ·cases j with
   |zero=>exact EqAt.int_int i t1 k t2
   |succ j=>exact he j (Nat.lt_of_succ_lt_succ h1) (Nat.lt_of_succ_lt_succ h2)
  ·show _=(List.range (_+1)).all _
   rw[List.range_succ_eq_map,List.all_cons,List.all_map]
   rfl
def EqNe(M:Model)(A:Around)(s:Shared)(u w:Value)(t:Bool):Prop:=
 (∀Q E,Q (.bool t) s→wpAny M A (compareOp .Eq u w) Q E s)∧∀Q E,Q (.bool !t) s→wpAny M A (compareOp .NotEq u w) Q E s
end
section
variable {X:Cx}{P:ec}{n:Nat}{env:Env}{ν:Nu}{C:Ct X n env ν}{m:Str→Option Value}{loc:Loc}{σ:Pt}
theorem eq_refs{i j:Nat}{t:Bool}{x y:Value}(hr:Here C m loc σ)(e:n7 σ.H (.ref i) (.ref j)=some t)(hx:VR X σ.W (.ref i) x)(hy:VR X σ.W (.ref j) y):EqNe X.M C.A σ.s x y t:=by
 have e:(match σ.H[i]?,σ.H[j]? with
  |some (.list x),some (.list y)=>if x.length≠y.length then some false else g0 x y
  |some (.aW x),some (.aW [])=>some x.isEmpty
  |_,_=>none)=some t:=e
 cases hi:σ.H[i]? with
 |none=>rw[hi] at e;exact cj e
 |some p=>
 rw[hi] at e
 cases hj:σ.H[j]? with
 |none=>rw[hj] at e;cases p<;>exact cj e
 |some q=>
 rw[hj] at e
 cases p with
 |list p=>cases q with
  |list q=>
   obtain⟨a,vs,c,rfl,_,g,r⟩:=hr.rel.cI hx hi
   obtain⟨b,ws,d,rfl,_,g',r'⟩:=hr.rel.cI hy hj
   by_cases j6:p.length≠q.length
   ·obtain rfl:=Option.some.inj ((if_pos j6).symm.trans e)
    have ne:(vs.toArray.size !=ws.toArray.size)=true:=by rw[List.size_toArray,List.size_toArray,←r.length,←r'.length];exact bne_iff_ne.mpr j6
    exact⟨fun Q E q=>RcAt.lists_lengths (aI g) (aI g') ne (C.ak hr.ok).cl _ _ _ _ q,fun Q E q=>RcNeAt.lists_lengths (aI g) (aI g') ne (C.ak hr.ok).cl _ _ _ _ q⟩
   ·obtain⟨hl,ee,he,rfl⟩:=w9 C.A.in1 σ.s _ ((if_neg j6).symm.trans e) r r'
    have he':∀j (h1:j<vs.toArray.size) (h2:j<ws.toArray.size),EqAt C.A.in1 σ.s vs.toArray[j] ws.toArray[j] (ee j):=fun j h1 h2=>he j h1 h2
    exact⟨fun Q E q=>RcAt.lists (e:=ee) (aI g) (aI g') hl (C.ak hr.ok).cl he' _ _ _ _ q,fun Q E q=>RcNeAt.lists (e:=ee) (aI g) (aI g') hl (C.ak hr.ok).cl he' _ _ _ _ q⟩
  |_=>exact cj e
 |aW x'=>cases q with
  |aW q=>cases q with
   |cons _ _=>exact cj e
   |nil=>
   obtain rfl:=Option.some.inj e
   obtain⟨a,kvs,rfl,_,sm,dk,dr⟩:=hr.rel.gC hx hi
   obtain⟨b,kvs',rfl,_,sm',dk',dr'⟩:=hr.rel.gC hy hj
   cases dr'
   have z:kvs.length=([]:List (Int×Value)).length→_:=fun z=>List.eq_nil_of_length_eq_zero z
   have t:x'.isEmpty=(kvs.length == ([]:List (Int×Value)).length && true):=by cases dr<;>rfl
   rw[t]
   exact⟨fun Q E q=>keq_eq sm sm' dk dk' (C.ak hr.ok).cl (r:=true) (fun y=>by rw[z y];exact .nil) q,fun Q E q=>keq_ne sm sm' dk dk' (C.ak hr.ok).cl (r:=true) (fun y=>by rw[z y];exact .nil) q⟩
  |_=>exact cj e
 |_=>exact cj e
theorem uV{a b:PV}{x y:Value}{A B:Prop}(hr:Here C m loc σ)(hx:VR X σ.W a x)(hy:VR X σ.W b y)(h:wEq σ.H a b A B):∃t,EqNe X.M C.A σ.s x y t∧wb t A B:=by
 cases a with
 |int i=>
  obtain⟨j,rfl,h1⟩:=wI.el (v:=b) h
  obtain⟨t,rfl⟩:=hx.int_inv
  obtain⟨u,rfl⟩:=hy.int_inv
  exact⟨i == j,⟨fun Q E q=>eq_int q,fun Q E q=>RcNeAt.int_int _ _ _ _ _ _ _ _ q⟩,yN (fun e=>h1.el.1 (eq_of_beq e)) fun e=>h1.el.2 (ne_of_beq_false e)⟩
 |bool i=>
  obtain⟨j,rfl,h1⟩:=wBo.el (v:=b) h
  rw[hx.bool_inv,hy.bool_inv]
  exact⟨i == j,⟨fun Q E q=>eq_bool q,fun Q E q=>RcNeAt.bool_bool _ _ _ _ _ _ q⟩,yN (fun e=>h1.el.1 (eq_of_beq e)) fun e=>h1.el.2 (ne_of_beq_false e)⟩
 |str i=>
  obtain⟨j,rfl,h1⟩:=wSt.el (v:=b) h
  obtain⟨t,rfl⟩:=hx.str_inv
  obtain⟨u,rfl⟩:=hy.str_inv
  exact⟨i == j,⟨fun Q E q=>eq_str q,fun Q E q=>RcNeAt.str_str _ _ _ _ _ _ _ _ q⟩,yN (fun e=>h1.el.1 e) fun e=>h1.el.2 (by rw[e];decide)⟩
 |none=>
  obtain⟨j,rfl,h1⟩:=wSt.el (v:=b) h
  obtain⟨u,rfl⟩:=hy.str_inv
  rw[hx.none_inv]
  exact⟨false,⟨fun Q E q=>EqNone.eq_none_str q,fun Q E q=>RcNeAt.none_str _ _ _ _ _ _ q⟩,h1⟩
 |tup i=>
  obtain⟨j,rfl,h1⟩:=jn.el (v:=b) h
  cases j with
  |cons _ _=>exact h1.elim
  |nil=>
   obtain⟨a1,vs,rfl,t1,r1⟩:=fG hr.rel hx
   obtain⟨a2,ws,rfl,t2,r2⟩:=fG hr.rel hy
   rw[r2.nil_inv] at t2
   refine⟨(List.range (min vs.toArray.size ([]:List Value).toArray.size)).all (fun _=>true) && vs.toArray.size == ([]:List Value).toArray.size,⟨fun Q E q=>eq_tupleAt (e:=fun _=>true) t1 t2 (C.ak hr.ok).cl (fun j _ h2=>absurd h2 (Nat.not_lt_zero _)) q,fun Q E q=>RcNeAt.tuples (e:=fun _=>true) t1 t2 (C.ak hr.ok).cl (fun j _ h2=>absurd h2 (Nat.not_lt_zero _)) _ _ _ _ q⟩,?_⟩
   cases r1 with
   |nil=>exact h1
   |cons _ _=>exact h1
 |ref i=>
  cases b with
  |str j=>
   obtain⟨l,e,h1⟩:=wL.el (k:=fun _=>B) h
   obtain⟨a,vs,c,rfl,_,g,r⟩:=hr.rel.cI hx e
   obtain⟨u,rfl⟩:=hy.str_inv
   exact⟨false,⟨fun Q E q=>RcAt.list_str _ _ (aI g) (C.ak hr.ok).cl _ _ _ _ q,fun Q E q=>RcNeAt.list_str _ _ (aI g) (C.ak hr.ok).cl _ _ _ _ q⟩,h1⟩
  |ref j=>
   obtain⟨t,e,h⟩:=WO.el h
   exact⟨t,eq_refs hr e hx hy,h⟩
  |_=>exact h.elim
 |_=>exact h.elim
def NoTup(v:Value):Prop:=v=.type "list"∨v=.type "dict"∨∃c,v=.ref c
theorem qT{M:Model}{A:Around}{s:Shared}{a b:Addr}{oa ob:Obj}{Q:Bool→Shared→Prop}{E:Value→Shared→Prop}(ha:s.heap.get? a=some oa)(hb:s.heap.get? b=some ob)(ht:NoTup oa.cls)(q:Q (a == b) s):wpAny M A (isSame (.ref a) (.ref b)) Q E s:=by
 unfold isSame
 dsimp only
 cases e:a == b with
 |true=>rw[e] at q;rw[if_pos rfl];exact wpAny_pure q
 |false=>
  rw[e] at q
  rw[if_neg (by decide)]
  refine wpAny_bind (wpAny_load ha (wpAny_bind (wpAny_load hb ?_)))
  rcases ht with e|e|⟨c,e⟩<;>(rw[e];exact wpAny_pure q)
theorem ft.cls{h:Heap}{W:Wd}{p:Addr×Addr}{o:aH}(x:ft X W h p o):∃o',h.get? p.1=some o'∧NoTup o'.cls:=by
 revert X h W p o
 apply aN;intro
 generalize bM .. =X,bN .. =h,bQ .. =W,bR .. =p
 apply aJ;intro
 generalize nx .. =o
 intro x
 cases o with
 |list _=>obtain⟨_,_,_,g,_⟩:=x;exact⟨_,g,.inl rfl⟩
 |aW _=>obtain⟨_,_,_,⟨o,_,_,g,q,_⟩,_⟩:=x;exact⟨o,g,.inr (.inl q.1)⟩
 |d9 _=>obtain⟨_,_,_,⟨o,_,_,g,q,_⟩,_⟩:=x;exact⟨o,g,.inr (.inl q.1)⟩
 |inst c _=>obtain⟨_,g,_⟩:=x;exact⟨_,g,.inr (.inr ⟨c,rfl⟩)⟩
theorem uW{i j:Nat}{x y:Value}{M:Model}{A:Around}{Q:Bool→Shared→Prop}{E:Value→Shared→Prop}(hr:Here C m loc σ)(hx:VR X σ.W (.ref i) x)(hy:VR X σ.W (.ref j) y)(q:Q (decide (i=j)) σ.s):wpAny M A (isSame x y) Q E σ.s:=by
 obtain⟨p,hp,rfl⟩:=hx.ju
 obtain⟨p',B8,rfl⟩:=hy.ju
 have at':∀{i p},σ.W.φ[i]? =some p→∃o,ft X σ.W σ.s.heap p o:=fun hp=>by
  have hi:=(List.getElem?_eq_some_iff.mp hp).1
  rw[hr.rel.len] at hi
  exact⟨_,hr.rel.objs _ _ _ hp (List.getElem?_eq_getElem hi)⟩
 obtain⟨o1,z1⟩:=at' hp
 obtain⟨o2,z2⟩:=at' B8
 obtain⟨oa,ga,ta⟩:=z1.cls
 obtain⟨ob,gb,_⟩:=z2.cls
 refine qT ga gb ta ?_
 have:(p.1 == p'.1)=decide (i=j):=by
  by_cases e:i=j
  ·subst e
   obtain rfl:=Option.some.inj (hp.symm.trans B8)
   rw[decide_eq_true rfl];exact beq_self_eq_true _
  ·rw[decide_eq_false e]
   exact beq_false_of_ne (hr.rel.apart i j p p' e hp B8).1
 rw[this];exact q
theorem uX{a b:PV}{x y:Value}{A B:Prop}(hr:Here C m loc σ)(hx:VR X σ.W a x)(hy:VR X σ.W b y)(h:wIs a b A B):∃t,wb t A B∧(∀Q E,Q (.bool t) σ.s→wpAny X.M C.A (compareOp .Is x y) Q E σ.s)∧∀Q E,Q (.bool !t) σ.s→wpAny X.M C.A (compareOp .IsNot x y) Q E σ.s:=by
 cases b with
 |none=>
  obtain rfl:=hy.none_inv
  cases a with
  |none=>obtain rfl:=hx.none_inv;exact⟨true,h,fun Q E q=>is_none_none q,fun Q E q=>isnot_none_none q⟩
  |ref i=>obtain⟨p,hp,rfl⟩:=hx.ju;exact⟨false,h,fun Q E q=>is_ref_none q,fun Q E q=>isnot_ref_none q⟩
  |int i=>obtain⟨t,rfl⟩:=hx.int_inv;exact⟨false,h,fun Q E q=>is_int_none q,fun Q E q=>isnot_int_none q⟩
  |tup i=>obtain⟨a,vs,rfl,_⟩:=fG hr.rel hx;exact⟨false,h,fun Q E q=>is_ref_none q,fun Q E q=>isnot_ref_none q⟩
  |_=>exact h.elim
 |ref j=>
  obtain⟨i,rfl,h1⟩:=dj.el (v:=a) h
  refine⟨decide (i=j),yN (fun e=>h1.el.1 (of_decide_eq_true e)) fun e=>h1.el.2 (of_decide_eq_false e),fun Q E q=> ?_,fun Q E q=> ?_⟩
  ·show wpAny X.M C.A (isSame x y >>= fun z=>pure (Value.bool z)) Q E σ.s
   exact wpAny_bind (uW hr hx hy (wpAny_pure q))
  ·show wpAny X.M C.A (isSame x y >>= fun z=>pure (Value.bool (!z))) Q E σ.s
   exact wpAny_bind (uW hr hx hy (wpAny_pure q))
 |_=>exact h.elim
theorem oM{l:List PV}{ks:List Int}(h:kK l=some ks):(l=[]∧ks=[])∨∃i r kr,l=.int i::r∧kK r=some kr∧ks=i::kr:=by
 cases l with
 |nil=>exact .inl ⟨rfl,(Option.some.inj h).symm⟩
 |cons a r=>
  obtain⟨i,hi,h⟩:=Option.bind_eq_some_iff.mp h
  obtain⟨kr,e,q⟩:=Option.map_eq_some_iff.mp h
  exact .inr ⟨i,r,kr,congrArg (· ::r) (mf hi),e,q.symm⟩
theorem j7{W:Wd}:∀{l:List PV} {vs:List Value} {ks:List Int},kK l=some ks→cM X W l vs→IntsAre vs ks:=fun {l}=>by
 induction l with
 |nil=>
  intro vs ks h hx
  rcases oM h with⟨_,rfl⟩|⟨_,_,_,e,_⟩
  ·rw[hx.nil_inv];exact .nil
  ·cases e
 |cons a r ih=>
  intro vs ks h hx
  rcases oM h with⟨e,_⟩|⟨i,r',kr,e,hk,rfl⟩
  ·cases e
  cases e
  obtain⟨u,us',rfl,hu,hr⟩:=hx.cons_inv
  obtain⟨t,rfl⟩:=hu.int_inv
  exact .cons _ _ (ih hk hr)
noncomputable def pN(x:Int):Value→Bool
 |.int i _=>i == x
 |_=>false
theorem zG(x:Int){vs:List Value}{ks:List Int}(h:IntsAre vs ks):vs.any (pN x)=ks.contains x:=by
 induction h with
 |nil=>rfl
 |cons i _ r ih=>
  rw[List.any_cons,List.contains_cons,ih]
  show(i == x || _)=_
  rw[show(i == x)=(x == i) from by rw[←pM,←pM];exact decide_eq_decide.mpr eq_comm]
theorem zH(x:Int)(u:Tok)(A:Around)(s:Shared){vs:List Value}{ks:List Int}(h:IntsAre vs ks):∀y,y∈vs→EqAt A s y (.int x u) (pN x y):=by
 induction h with
 |nil=>exact fun y h=>absurd h List.not_mem_nil
 |cons i t r ih=>
  intro y h
  rcases List.mem_cons.mp h with rfl|h
  ·exact EqAt.int_int i t x u
  ·exact ih y h
theorem WP.dec{c A B:Prop}[Decidable c](h:WP c A B):wb (decide c) A B:=yN (fun e=>h.el.1 (of_decide_eq_true e)) fun e=>h.el.2 (of_decide_eq_false e)
theorem eP{op:CmpOp}{a b:PV}{x y:Value}{A B:Prop}{Q E:Value→Shared→Prop}(hr:Here C m loc σ)(hx:VR X σ.W a x)(hy:VR X σ.W b y)(h:qN op σ.H a b A B)(q:∀t,wb t A B→Q (.bool t) σ.s):wpAny X.M C.A (compareOp op x y) Q E σ.s:=by
 cases op with
 |Eq=>obtain⟨t,e,z⟩:=uV hr hx hy h;exact e.1 _ _ (q t z)
 |NotEq=>obtain⟨t,e,z⟩:=uV hr hx hy h;exact e.2 _ _ (q _ (by cases t;exact z;exact z))
 |Is=>obtain⟨t,z,e,_⟩:=uX hr hx hy h;exact e _ _ (q t z)
 |IsNot=>obtain⟨t,z,_,e⟩:=uX hr hx hy h;exact e _ _ (q _ (by cases t;exact z;exact z))
 |Lt=>obtain⟨i,j,t,u,rfl,rfl,h⟩:=iY h hx hy;exact lt_int (q _ h.dec)
 |LtE=>obtain⟨i,j,t,u,rfl,rfl,h⟩:=iY h hx hy;exact le_int (q _ h.dec)
 |Gt=>obtain⟨i,j,t,u,rfl,rfl,h⟩:=iY h hx hy;exact gt_int (q _ h.dec)
 |GtE=>obtain⟨i,j,t,u,rfl,rfl,h⟩:=iY h hx hy;exact ge_int (q _ h.dec)
 |In=>
  obtain⟨i,rfl,h1⟩:=wI.el (v:=a) h
  obtain⟨l,rfl,h2⟩:=jn.el (v:=b) h1
  obtain⟨ks,e,h3⟩:=WO.el h2
  obtain⟨t,rfl⟩:=hx.int_inv
  obtain⟨a,vs,rfl,ht,r⟩:=fG hr.rel hy
  have I:=j7 e r
  refine in_tupleAt (pN i) ht (fun y h=>zH i t C.A.in1 σ.s I y (by simpa using h)) ?_
  rw[show vs.toArray.any (pN i)=ks.contains i from by rw[←Array.any_toList];exact zG i I]
  exact q _ (yN (fun e=>h3.el.1 e) fun e=>h3.el.2 (by rw[e];decide))
 |_=>exact h.elim
theorem oN{op:CmpOp}{a b:PV}{x y:Value}{k:Bool→Prop}{Q E:Value→Shared→Prop}(hr:Here C m loc σ)(hx:VR X σ.W a x)(hy:VR X σ.W b y)(h:zr op σ.H a b k)(q:∀t,k t→Q (.bool t) σ.s):wpAny X.M C.A (compareOp op x y) Q E σ.s:=by
 have g:qN op σ.H a b (k true) (k false)→wpAny X.M C.A (compareOp op x y) Q E σ.s:=fun h=>eP hr hx hy h fun t z=>q t (by cases t;exact z;exact z)
 cases op with
 |Lt=>obtain⟨i,j,t,u,rfl,rfl,h⟩:=iY h hx hy;exact lt_int (q _ h)
 |LtE=>obtain⟨i,j,t,u,rfl,rfl,h⟩:=iY h hx hy;exact le_int (q _ h)
 |Gt=>obtain⟨i,j,t,u,rfl,rfl,h⟩:=iY h hx hy;exact gt_int (q _ h)
 |GtE=>obtain⟨i,j,t,u,rfl,rfl,h⟩:=iY h hx hy;exact ge_int (q _ h)
 |Eq=>
  cases a with
  |int i=>
   obtain⟨j,rfl,h1⟩:=wI.el (v:=b) h
   obtain⟨t,rfl⟩:=hx.int_inv
   obtain⟨u,rfl⟩:=hy.int_inv
   exact eq_int (by rw[←pM];exact q _ h1)
  |bool i=>
   obtain⟨j,rfl,h1⟩:=wBo.el (v:=b) h
   rw[hx.bool_inv,hy.bool_inv]
   exact eq_bool (q _ h1)
  |_=>exact g h
 |_=>exact g h
theorem snd_cmp{a b:Expr}{ia ib:IE}(op:CmpOp)(pos:Pos)(hm:behindInMarks op b=false)(ha:az X P n env ν a ia)(hb:az X P n env ν b ib):az X P n env ν (.Compare a [op] [b] pos) (.cmp op ia ib):=
 ⟨fun C m loc σ R Φ hr h k=>wpAny_Compare1 (ha.ev C m loc σ _ _ hr h fun x u ae au ay aK h=>hb.ev C m loc ae _ _ au h fun y w ao aC aG bU h=>oN aC (aK.up aG) bU h fun t h=>gz (k.le (ay.trans aG)) aC h (.bool _)) hm,
 fun C m loc σ S F Φ hr h kt kf=>wpAny_Compare1 (ha.ev C m loc σ _ _ hr h fun x u ae au ay aK h=>hb.ev C m loc ae _ _ au h fun y w ao aC aG bU h=>eP aC (aK.up aG) bU h fun t h=>by
  cases t
  ·exact kf ao aC (ay.trans aG) h
  ·exact kt ao aC (ay.trans aG) h) hm⟩
theorem zI{a b:Expr}{ia ib:IE}(op:CmpOp)(pos:Pos)(hm:behindInMarks op b=false)(ha:az X P n env ν a ia)(hb:az X P n env ν b ib):iK X P n env ν (.Compare a [op] [b] pos) (.cmp op ia ib):=
 fun C m loc σ S F Φ hr h kt kf=>wpAny_isTrue_Compare1 (ha.ev C m loc σ _ _ hr h fun x u ae au ay aK h=>hb.ev C m loc ae _ _ au h fun y w ao aC aG bU h=>eP aC (aK.up aG) bU h fun t h=>wpAny_truthy_bool (by
  cases t
  ·exact kf ao aC (ay.trans aG) h
  ·exact kt ao aC (ay.trans aG) h)) hm
theorem xa{a b c:Expr}{ia ib ic:IE}(op lN:CmpOp)(pos:Pos)(hm:lastMarks [op,lN] [b,c]=false)(ha:az X P n env ν a ia)(hb:az X P n env ν b ib)(hc:az X P n env ν c ic):
  az X P n env ν (.Compare a [op,lN] [b,c] pos) (.chain op lN ia ib ic):=
 ⟨fun C m loc σ R Φ hr h k=>Compare_chain (ha.ev C m loc σ _ _ hr h fun x u ae au ay aK h=>chain_link (hb.ev C m loc ae _ _ au h fun y w ao aC aG bU h=>eP aC (aK.up aG) bU h fun t h=>wpAny_truthy_bool (by
  cases t
  ·exact gz (k.le (ay.trans aG)) aC h (.bool _)
  ·exact chain_last (hc.ev C m loc ao _ _ aC h fun z w fH bW cK j8 h=>oN bW (bU.up cK) j8 h fun t h=>gz (k.le ((ay.trans aG).trans cK)) bW h (.bool _))))) hm,
 fun C m loc σ S F Φ hr h kt kf=>Compare_chain (ha.ev C m loc σ _ _ hr h fun x u ae au ay aK h=>chain_link (hb.ev C m loc ae _ _ au h fun y w ao aC aG bU h=>eP aC (aK.up aG) bU h fun t h=>wpAny_truthy_bool (by
  cases t
  ·exact kf ao aC (ay.trans aG) h
  ·exact chain_last (hc.ev C m loc ao _ _ aC h fun z w fH bW cK j8 h=>eP bW (bU.up cK) j8 h fun t h=>by
    cases t
    ·exact kf fH bW ((ay.trans aG).trans cK) h
    ·exact kt fH bW ((ay.trans aG).trans cK) h)))) hm⟩
theorem sX{a b c:Expr}{ia ib ic:IE}(op lN:CmpOp)(pos:Pos)(hm:lastMarks [op,lN] [b,c]=false)(ha:az X P n env ν a ia)(hb:az X P n env ν b ib)(hc:az X P n env ν c ic):
  iK X P n env ν (.Compare a [op,lN] [b,c] pos) (.chain op lN ia ib ic):=
 fun C m loc σ S F Φ hr h kt kf=>isTrue_chain (ha.ev C m loc σ _ _ hr h fun x u ae au ay aK h=>test_link (hb.ev C m loc ae _ _ au h fun y w ao aC aG bU h=>eP aC (aK.up aG) bU h fun t h=>wpAny_truthy_bool (by
  cases t
  ·exact kf ao aC (ay.trans aG) h
  ·exact test_last (hc.ev C m loc ao _ _ aC h fun z w fH bW cK j8 h=>eP bW (bU.up cK) j8 h fun t h=>wpAny_truthy_bool (by
    cases t
    ·exact kf fH bW ((ay.trans aG).trans cK) h
    ·exact kt fH bW ((ay.trans aG).trans cK) h))))) hm
end
end
section
open PyProof.Rows PySem.Calls PySem.W SeqAt
set_option backward.match.sparseCases false
set_option genInjectivity false
structure ClsOk(X:Cx)(P:ec)(c:Nat):Prop where
 plain:∀n,plainGet X.K c (X.nm n)=true
 zJ:hasDictIn X.K c=true
 setattr:findIn X.K (.ref c) "__setattr__"=some (some (.builtin "object.__setattr__"))
 over:plainOver X.K c=true
 get:∀n,n<X.tab.length→P.bad.contains (c,n)=false→∃attr,findIn X.K (.ref c) (X.nm n)=some attr∧noGet X.K attr=true∧takerIn X.K c (X.nm n)=some none
structure RecOk(X:Cx)(P:ec)(c:Nat)(k:ClsRec):Prop where
 known:c∈X.known
 makes:makesIn X.K c=true
 cattr:∀n v,bB n k.ma=some v→n<X.tab.length→∃a,findIn X.K (.ref c) (X.nm n)=some (some a)∧specialIn X.K a "__get__"=some none∧handedIn a=true∧copiedNames.contains (X.nm n)=false∧
  ∀W:Wd,(∀a o,X.h₀.get? a=some o→W.B a=some o)→VR X W v a
 meth:∀n f,bB n k.meths=some f→n<X.tab.length∧findIn X.K (.ref c) (X.nm n)=some (some (.ref f))∧isFn X.K (.ref f)=true∧keepIn X.K (.ref f)=true
 init:∀f,k.init=some f→findIn X.K (.ref c) "__init__"=some (some (.ref f))∧isFn X.K (.ref f)=true
structure n9(X:Cx)(P:ec):Prop where
 cls:∀c,c∈X.known→ClsOk X P c
 recs:∀c k,bB c P.pK=some k→RecOk X P c k
 bG:P.bG=X.ns
section
variable {X:Cx}{P:ec}{n:Nat}{env:Env}{ν:Nu}{C:Ct X n env ν}{m:Str→Option Value}{loc:Loc}{σ:Pt}{A:Around}{s:Shared}{W:Wd}{E:Value→Shared→Prop}
theorem j9{h:Heap}{d:Addr}{m:Str→Option Value}(N:h.Ns d m):∃o,h.get? d=some o∧∀x,lookIn x o=some (m x):=by
 obtain⟨o,es,ep,g,hd,hs,hf⟩:=N
 refine⟨o,g,fun x=> ?_⟩
 unfold lookIn
 rw[hd]
 dsimp only
 rw[←hf x]
 unfold nsFind findBy
 rw[←Array.find?_toList]
 cases q:es.toList.find? (·.key.isStr x) with
 |some e=>rfl
 |none=>
  have:es.toList.any (·.refKey)=false:=by
   rw[List.any_eq_false]
   intro e he
   obtain⟨y,t,hk⟩:=hs e (by simpa using he)
   simp[DictEntry.refKey,hk]
  dsimp only
  rw[this]
  rfl
theorem sY{h:Heap}{p:Addr×Addr}{c:Nat}{o:Obj}(g:h.get? p.1=some (instObj c p.2))(g':h.get? p.2=some o):InstAt h p.1 (instObj c p.2) c (some o):=⟨g,rfl,rfl,g'⟩
theorem VR.handed{v:PV}{u:Value}(x:VR X W v u):handedIn u=true:=by cases x<;>rfl
theorem xb{o v:PV}{k:Nat}{u:Value}{expr:Bool}{R:PV→aa→Prop}{Φ:Value→Shared→Prop}(pk:n9 X P)(hk:k<X.tab.length)(hr:Here C m loc σ)(q:Good C m loc σ (VR X) R Φ)(e:g7 P σ.H o k=some v)(hx:VR X σ.W o u)(h:R v σ.H):
  wpAny X.M C.A (getAttr u (X.nm k) expr) Φ E σ.s:=by
 cases o with
 |ref i=>
  have e:(match σ.H[i]? with
   |some (.inst c fs)=>if P.bad.contains (c,k) then none else match bB k fs with
    |some v=>some v
    |none=>(bB c P.pK).bind fun j=>bB k j.ma
   |_=>none)=some v:=e
  split at e
  ·rename_i c fs hi
   split at e
   ·cases e
   rename_i hb
   rw[Bool.not_eq_true] at hb
   obtain⟨p,rfl,hp,⟨kn,j6⟩,g,mi,N,mr⟩:=hr.rel.atR hx hi
   obtain⟨od,god,hl⟩:=j9 N.ns
   have K:=pk.cls c kn
   obtain⟨attr,ha,hn,ht⟩:=K.get k hk hb
   have I:=sY g god
   have M:=mr k hk
   split at e
   ·rename_i v' hv
    obtain rfl:=Option.some.inj e
    rw[hv] at M
    obtain⟨u,hu,vr⟩:=M
    exact get_value hr.rel.yO I (plainGet_of (K.plain k)).1 (findObj_own K.zJ ha hn (by rw[hl,hu])) vr.handed (cJ q hr h vr)
   ·rename_i hv
    obtain⟨kr,hkr,hca⟩:=Option.bind_eq_some_iff.mp e
    rw[hv] at M
    obtain⟨a,fa,sa,ha',cn,vr⟩:=(pk.recs c kr hkr).cattr k v hca hk
    exact get_value hr.rel.yO I (plainGet_of (K.plain k)).1 (findObj_cls K.zJ fa sa ha' cn (by rw[hl,M])) ha' (cJ q hr h (vr _ hr.rel.base))
  ·cases e
 |_=>cases e
theorem zK{a:Expr}{ia:IE}{k:Nat}{x:Str}(pos:Pos)(pk:n9 X P)(hk:k<X.tab.length)(hx:X.nm k=x)(ha:az X P n env ν a ia)
  (he:eval (.Attribute a x pos) env=(do
   let o ←eval a env
   standAt pos.atName
   let r ←holding [o] (getAttr o x true)
   letTemporaryGo a o r
   pure r)):az X P n env ν (.Attribute a x pos) (.attr ia k):=by
 subst hx
 exact .ofV (fun C m loc σ R Φ hr h q=>Attribute_any_ (ha.ev C m loc σ _ _ hr h fun x u ae au ay aK h=>by
  obtain⟨v,e,h⟩:=WO.el h
  exact xb pk hk au (q.le ay) e aK h) he) id
theorem sZ{i:Int}{k j:Nat}(e:place i k=some j):k<1000000∧j<k∧seqIndex? i k=some j∧-(k:Int)≤i∧i<k:=by
 revert i k j
 apply aP;intro
 generalize bP .. =i,bS .. =k
 apply aJ;intro
 generalize nx .. =j
 intro e
 unfold place at e
 split at e
 ·rename_i hk
  refine⟨hk,?_⟩
  unfold seqIndex?
  split at e
  ·rename_i q
   cases e
   refine⟨by exact(Int.toNat_lt q.1).mpr q.2,?_,by exact Int.le_trans (Int.neg_nonpos_of_nonneg (Int.natCast_nonneg _)) q.1,by exact q.2⟩
   dsimp only
   rw[if_neg (show ¬i<0 by exact Int.not_lt_of_ge q.1),if_pos (by simp;exact q)]
  ·split at e
   ·rename_i q1 q2
    cases e
    refine⟨by exact ar60 q2,?_,by omega,by exact Int.lt_of_lt_of_le q2.1 (Int.natCast_nonneg _)⟩
    dsimp only
    rw[if_pos q2.1,if_pos (by simp;exact ar63 q2)]
   ·cases e
 ·cases e
theorem og{a:Addr}{items:Array Value}{k:Int}{t:Tok}{j:Nat}{x:Value}{Q:Value→Shared→Prop}(hl:s.heap.IsList a items)(hp:place k items.size=some j)(hx:items[j]? =some x)(h:Q x s):
  wpAny X.M A (getItem (.ref a) (.int k t)) Q E s:=by
 revert X A s E a items k t j x Q
 apply aT;intro
 generalize bX .. =X,bY .. =A,bZ .. =s,b7 .. =E,cv .. =a,cw .. =items,cx .. =k,cy .. =t
 apply aP;intro
 generalize bP .. =j,bS .. =x
 apply aJ;intro
 generalize nx .. =Q
 intro hl hp hx h
 obtain⟨h1,h2,h3,h4,h5⟩:=sZ hp
 unfold place at hp
 rw[if_pos h1] at hp
 split at hp
 ·rename_i q;cases hp;exact wpAny_getItem_list hl q.1 (by exact vV (Int.lt_trans h5 (Int.ofNat_lt.mpr h1)) rfl) hx h
 ·split at hp
  ·rename_i q;cases hp;exact wpAny_getItem_list_neg hl q.1 h4 (by exact ji (Int.le_trans (Int.neg_le_neg (Int.le_of_lt (Int.ofNat_lt.mpr h1))) h4) rfl) hx h
  ·cases hp
theorem DR.look{es:List (Int×PV)}{kvs:List (Int×Value)}(r:DR X W es kvs)(k:Int):match ey k es with
  |some v=>∃u,valueAt kvs k=some u∧VR X W v u
  |none=>valueAt kvs k=none:=by
 induction r with
 |nil=>rfl
 |@cons j v u es vs vr _ ih=>
  rw[pL]
  unfold valueAt
  rw[List.find?_cons]
  by_cases q:j=k
  ·rw[if_pos q];simp only[q,decide_true];exact⟨u,rfl,vr⟩
  ·rw[if_neg q];simp only[q,decide_false];exact ih
theorem short.el:∀{l:List PV} {n:Nat},short l n=true→l.length≤n
 |[],_,_=>Nat.zero_le _
 |_::_,0,h=>by cases h
 |_::_,_+1,h=>Nat.succ_le_succ (short.el h)
theorem nU.el{k:PV→Prop}:∀{l:List PV} {n:Nat},nU l n k→∃v,l[n]? =some v∧k v
 |[],_,h=>h.elim
 |v::_,0,h=>⟨v,rfl,h⟩
 |_::r,n+1,h=>by rw[List.getElem?_cons_succ];exact nU.el (l:=r) h
theorem wbF{b:Bool}{A:Prop}(h:wb b A False):b=true∧A:=by cases b;exact h.elim;exact⟨rfl,h⟩
theorem oO{a i:PV}{x y:Value}{K:PV→Prop}{E:Value→Shared→Prop}{Q:Value→Shared→Prop}(hr:Here C m loc σ)(hx:VR X σ.W a x)(hy:VR X σ.W i y)(h:kL σ.H a i K)(q:∀v u tk,VR X σ.W v u→K v→Q u {σ.s with toks:=tk}):
  wpAny X.M C.A (getItem x y) Q E σ.s∧∃T id,σ.s.TypeIs x T∧typeLookup (.type T) "__getitem__"=pure (some (.builtin id)):=by
 cases a with
 |tup l=>
  obtain⟨j,rfl,h1⟩:=wI.el (v:=i) h
  cases j with
  |negSucc n=>exact h1.elim
  |ofNat j=>
   obtain⟨hs,h2⟩:=wbF (b:=short l 100) h1
   obtain⟨v,hv,h3⟩:=nU.el h2
   obtain⟨a,vs,rfl,ht,r⟩:=fG hr.rel hx
   obtain⟨t,rfl⟩:=hy.int_inv
   obtain⟨u,hu,vr⟩:=r.get hv
   have B9:vs.toArray.size=l.length:=by rw[List.size_toArray,r.length]
   have hj:j<vs.toArray.size:=by rw[B9];exact(List.getElem?_eq_some_iff.mp hv).1
   have:=short.el hs
   refine⟨getItem_tuple (j:=j) ht (by show -(_:Int)≤(j:Int);exact ji (Int.natCast_nonneg _) rfl) (by show(j:Int)<_;exact vV (Int.ofNat_lt.mpr (Nat.lt_of_lt_of_le hj (Nat.le_trans (Nat.le_of_eq B9) this))) rfl) ?_ (by simpa using hu) (q v u σ.s.toks vr h3),"tuple",_,ht.typeIs,slot_tuple_getitem.lookup⟩
   unfold seqIndex?
   dsimp only
   rw[if_neg (show ¬Int.ofNat j<0 from Int.not_lt.mpr (Int.natCast_nonneg j)),if_pos (by simp;omega)];rfl
 |ref r=>
  obtain⟨j,rfl,h1⟩:=wI.el (v:=i) h
  obtain⟨o,e,h2⟩:=WO.el h1
  obtain⟨t,rfl⟩:=hy.int_inv
  cases o with
  |list l=>
   obtain⟨v,e2,h3⟩:=WO.el h2
   obtain⟨c,hj,hv⟩:=Option.bind_eq_some_iff.mp e2
   obtain⟨a,vs,d,rfl,_,g,r⟩:=hr.rel.cI hx e
   obtain⟨u,hu,vr⟩:=r.get hv
   have B9:vs.toArray.size=l.length:=by rw[List.size_toArray,r.length]
   exact⟨og (aI g) (by rw[B9];exact hj) (by simpa using hu) (q v u σ.s.toks vr h3),"list",_,(aI g).typeIs,slot_list_getitem.lookup⟩
  |aW es=>
   obtain⟨v,e2,h3⟩:=WO.el h2
   obtain⟨a,kvs,rfl,_,sm,dk,dr⟩:=hr.rel.gC hx e
   have:=dr.look j
   rw[e2] at this
   obtain⟨u,hu,vr⟩:=this
   exact⟨wpAny_getItem_of (knd:=intKind X.prog X.w) (k:=j) (by simp[intKind,Value.isInt]) dk.mapOf hu (q v u _ vr h3),"dict",_,dk.typeIs,PySem.F.slot_dict_getitem.lookup⟩
  |_=>exact h2.elim
 |_=>exact h.elim
theorem zL{a i:Expr}{ia ii:IE}(pos:Pos)(hs:∀x y,subscripted i false x y=operate [x,y] (getItem x y))(ha:az X P n env ν a ia)(hi:az X P n env ν i ii):az X P n env ν (.Subscript a i pos) (.item ia ii):=
 .of (fun C m loc σ R Φ hr h q=>Subscript_ (ha.ev C m loc σ _ _ hr h fun x u ae au ay aK h=>hi.ev C m loc ae _ _ au h fun y w ao aC aG bU h=>by
  obtain⟨g,T,id,hT,hl⟩:=oO (E:=C.Ψ) (Q:=Φ) aC (aK.up aG) bU h fun v u tk vr h=>cJ (q.le (ay.trans aG)) aC h vr
  exact tail_any hT hl g (hs _ _))) id
theorem SR.lt{es:List (Nat×PV)}{kvs:List (Str×Value)}(r:SR X W es kvs){k:Nat}{v:PV}(e:bB k es=some v):k<X.tab.length:=by
 induction r with
 |nil=>cases e
 |@cons j v' u es vs hj vr _ ih=>
  rw[fF] at e
  split at e
  ·rename_i w;rw[←w];exact hj
  ·exact ih e
theorem SR.look(ok:X.ok){es:List (Nat×PV)}{kvs:List (Str×Value)}(r:SR X W es kvs){k:Nat}{v:PV}(e:bB k es=some v):∃u,valueAt kvs (X.nm k)=some u∧VR X W v u:=by
 induction r with
 |nil=>cases e
 |@cons j v' u es vs hj vr _ ih=>
  rw[fF] at e
  unfold valueAt
  rw[List.find?_cons]
  by_cases q:j=k
  ·rw[if_pos q] at e;cases e;simp only[q,decide_true];exact⟨u,rfl,vr⟩
  ·rw[if_neg q] at e
   by_cases z:X.nm j=X.nm k
   ·exfalso
    have hk:k<X.tab.length:=SR.lt (by assumption) e
    exact q (X.inj ok hj hk z)
   ·simp only[z,decide_false];exact ih e
theorem xc{a:Expr}{ia:IE}{k c:Nat}{x:Str}(pos p:Pos)(hx:X.nm k=x)(ha:az X P n env ν a ia):az X P n env ν (.Subscript a (.Constant (.str x) c p) pos) (.eV ia k):=by
 revert X P n env ν a ia k c x pos p
 apply aT;intro
 generalize bX .. =X,bY .. =P,bZ .. =n,b7 .. =env,cv .. =ν,cw .. =a,cx .. =ia,cy .. =k
 apply aN;intro
 generalize bM .. =c,bN .. =x,bQ .. =pos,bR .. =p
 intro hx ha
 subst hx
 exact .of (fun C m loc σ R Φ hr h q=>Subscript_ (ha.ev C m loc σ _ _ hr h fun x u ae au ay aK h=>wpAny_Constant_str (by
  obtain⟨v,e,h1⟩:=WO.el h
  cases x with
  |ref i=>
   have e:(match ae.H[i]? with
    |some (.d9 es)=>bB k es
    |_=>none)=some v:=e
   split at e
   ·rename_i es hi
    obtain⟨p,rfl,hp,_,sm,kvs,dk,dr⟩:=au.rel.atR aK hi
    obtain⟨u,hu,vr⟩:=dr.look au.rel.ok e
    exact tail_any (s:={ae.s with toks:=ae.s.toks+1}) dk.typeIs PySem.F.slot_dict_getitem.lookup (wpAny_getItem_of (s:={ae.s with toks:=ae.s.toks+1}) (knd:=PySem.strKind X.prog X.w) (k:=X.nm k) (by simp[PySem.strKind,Value.isStrOf]) dk.mapOf hu (cJ (q.le ay) au h1 vr)) (ops:=[.ref p.1,.str (X.nm k) ae.s.toks]) rfl
   ·cases e
  |_=>cases e))) id
end
end
section
open PyProof.Rows PySem.Calls PySem.W
set_option backward.match.sparseCases false
def gQ(X:Cx)(P:ec)(n:Nat)(env:Env)(ν:Nu)(es:List Expr)(dO:jU):Prop:=∀pos,GoE X n env ν (spliced (backTo pos (starEach es env))) (cM X) (wEs P (aj P n) dO)
section
variable {X:Cx}{W:Wd}{H:aa}{h h':Heap}{L:Addr}
theorem HR.addOff(R:HR X W H h){g:Heap}{p:Addr×Addr}{o:aH}(S:Ext W g (W.add p))(dz:W.B L=none)(dR:¬Own W L)(b1:W.B p.1=none)(b2:W.B p.2=none)(o1:¬Own W p.1)(o2:¬Own W p.2)
  (hk:∀a o,h.get? a=some o→a≠L→a≠p.1→a≠p.2→h'.get? a=some o) (ho:ft X (W.add p) h' p o):HR X (W.add p) (H++[o]) h':=by
 have old:∀i q,(W.add p).φ[i]? =some q→(i<W.φ.length∧W.φ[i]? =some q)∨(i=W.φ.length∧q=p):=fun i q e=>by
  have e:(W.φ++[p])[i]? =some q:=e
  rcases Nat.lt_or_ge i W.φ.length with l|l
  ·rw[List.getElem?_append_left l] at e;exact .inl ⟨l,e⟩
  ·rw[List.getElem?_append_right l] at e
   have l2:=(List.getElem?_eq_some_iff.mp e).1
   have:i - W.φ.length=0:=by simp at l2;exact l2
   rw[this] at e
   exact .inr ⟨by exact ar6 l this,by simpa using e.symm⟩
 have j4:∀(i:Nat) (q:Addr×Addr),W.φ[i]? =some q→q.1≠p.1∧q.1≠p.2∧q.2≠p.1∧q.2≠p.2:=fun i q e=>by
  have hq:q∈W.φ:=List.mem_of_getElem? e
  refine⟨?_,?_,?_,?_⟩<;>intro z
  ·exact o1 ⟨q,hq,.inl z.symm⟩
  ·exact o2 ⟨q,hq,.inl z.symm⟩
  ·exact o1 ⟨q,hq,.inr z.symm⟩
  ·exact o2 ⟨q,hq,.inr z.symm⟩
 refine⟨by show(W.φ++[p]).length=_;rw[List.length_append,List.length_append,R.len];rfl,fun i q o' e e'=> ?_,fun i j q r hij e e'=> ?_,fun a o e=>hk a o (R.frozen a o e) (by rintro rfl;have e:W.B a=some o:=e;rw[dz] at e;cases e) (by rintro rfl;have e:W.B _=some o:=e;rw[b1] at e;cases e) (by rintro rfl;have e:W.B _=some o:=e;rw[b2] at e;cases e),fun q hq=> ?_,R.base,R.ok⟩
 ·rcases old i q e with⟨l,e⟩|⟨l,rfl⟩
  ·rw[List.getElem?_append_left (by rw[←R.len];exact l)] at e'
   have hq:q∈W.φ:=List.mem_of_getElem? e
   have F:=j4 i q e
   exact(R.objs i q o' e e').mono S (fun o z=>hk _ _ z (by rintro rfl;exact dR ⟨q,hq,.inl rfl⟩) F.1 F.2.1) (fun o z=>hk _ _ z (by rintro rfl;exact dR ⟨q,hq,.inr rfl⟩) F.2.2.1 F.2.2.2)
  ·rw[List.getElem?_append_right (by rw[←R.len,l];exact Nat.le_refl _),l,R.len,Nat.sub_self] at e'
   cases e'
   exact ho
 ·rcases old i q e with⟨l,e1⟩|⟨l,e1⟩<;>rcases old j r e' with⟨l',e2⟩|⟨l',e2⟩
  ·exact R.apart i j q r hij e1 e2
  ·rw[e2];exact j4 i q e1
  ·have:=j4 j r e2
   rw[e1]
   exact⟨fun z=>this.1 z.symm,fun z=>this.2.2.1 z.symm,fun z=>this.2.1 z.symm,fun z=>this.2.2.2 z.symm⟩
  ·exact absurd (l.trans l'.symm) hij
 ·have hq:q∈W.φ++[p]:=hq
  rcases List.mem_append.mp hq with hq|hq
  ·exact R.off q hq
  ·rw[List.mem_singleton.mp hq];exact⟨b1,b2⟩
end
section
variable {X:Cx}{P:ec}{n:Nat}{env:Env}{ν:Nu}{C:Ct X n env ν}{m:Str→Option Value}{loc:Loc}{σ ao:Pt}{A:Around}{s:Shared}{W:Wd}{E:Value→Shared→Prop}
theorem Here.late(hr:Here C m loc σ){a:Addr}{o:aH}{h':Heap}{tk:Nat}(d:σ.s.heap.get? a=none)(aC:Here C m loc ao)(le:Le C.l env.locals σ ao)(no:¬Own ao.W a)(nb:ao.W.B a=none)(hk:∀b o,ao.s.heap.get? b=some o→b≠a→h'.get? b=some o)
  (ho:ft X (ao.W.add (a,a)) h' (a,a) o):Here C m loc ⟨{ao.s with heap:=h',toks:=tk},ao.W.add (a,a),ao.H++[o]⟩∧Le C.l env.locals σ ⟨{ao.s with heap:=h',toks:=tk},ao.W.add (a,a),ao.H++[o]⟩∧VR X (ao.W.add (a,a)) (.ref ao.H.length) (.ref a):=by
 have E:Ext ao.W σ.s.heap (ao.W.add (a,a)):=Ext.add ao.W d d
 have ne:∀{b o},σ.s.heap.get? b=some o→b≠a:=fun e z=>by rw[z,d] at e;cases e
 obtain⟨oL,eL⟩:=Fr.live hr.st.F
 have aL:env.locals≠a:=ne eL
 have S:=le.step
 obtain⟨ψ,hψ,dψ⟩:=S.φ
 have S':Step C.l env.locals σ.W σ.s.heap (ao.W.add (a,a)) h':=by
  refine⟨⟨S.B,S.Bnew,⟨ψ++[(a,a)],?_,fun p hp=> ?_⟩⟩,fun b o e n1 n2 n3=>hk b o (S.keep b o e n1 n2 n3) (ne e),fun b o e n1 n2=> ?_,fun b o e=> ?_⟩
  ·show ao.W.φ++[(a,a)]=_
   rw[hψ,List.append_assoc]
  ·rcases List.mem_append.mp hp with hp|hp
   ·exact dψ p hp
   ·rw[List.mem_singleton.mp hp];exact⟨d,d⟩
  ·obtain⟨sl,e'⟩:=S.slots b o e n1 n2
   exact⟨sl,hk b _ e' (ne e)⟩
  ·obtain⟨o',e'⟩:=S.live b o e
   exact⟨o',hk b _ e' (ne e)⟩
 have F':Fr X.h₀ env.locals h' m:=by
  obtain⟨o,es,ep,g,r⟩:=aC.st.F.ns
  exact⟨⟨o,es,ep,hk _ _ g aL,r⟩,fun b o e=>hk b o (aC.st.F.keep b o e) (ne (hr.st.F.keep b o e)),aC.st.F.above⟩
 have x:Le C.l env.locals σ ⟨{ao.s with heap:=h',toks:=tk},ao.W.add (a,a),ao.H++[o]⟩:=⟨S',le.same⟩
 exact⟨hr.go x (hr.st.next (s':={ao.s with heap:=h',toks:=tk}) S' F' (HR.addOff aC.rel E aC.st.dz aC.st.dR nb nb no no (fun b o e _ n _=>hk b o e n) ho)),x,by rw[←aC.rel.len];exact .ref _ (a,a) (ao.W.sU (a,a))⟩
theorem zM:gQ X P n env ν [] .nil:=fun pos C m loc σ R Φ hr h k=>wpAny_items_nil (gz k hr h .nil)
theorem xd{a:Expr}{es:List Expr}{ia:IE}{dO:jU}(he:starEach (a::es) env=(false,eval a env)::starEach es env)(ha:az X P n env ν a ia)(hs:gQ X P n env ν es dO):gQ X P n env ν (a::es) (.cons ia dO):=fun pos C m loc σ R Φ hr h k=>
 wpAny_items_cons (ha.ev C m loc σ _ _ hr h fun x u ae au ay aK h=>hs pos C m loc ae _ _ au h fun y w ao aC aG bU h=>gz (k.le (ay.trans aG)) aC h (.cons (aK.up aG) bU)) he
theorem cu(h:Heap)(o:Obj):∀a o',h.get? a=some o'→(h.push o).get? a=some o':=fun _ _ e=>Heap.get?_push_of_some o e
theorem xe{R:PV→aa→Prop}{Φ:Value→Shared→Prop}{ls:List PV}{vs:List Value}{c:Nat}{tk:Nat}(k:Good C m loc σ (VR X) R Φ)(hr:Here C m loc σ)(h:R (.ref σ.H.length) (σ.H++[.list ls]))(v:cM X σ.W ls vs):
  Φ (.ref σ.s.heap.objs.size) {σ.s with heap:=σ.s.heap.push (lst vs.toArray c),toks:=tk}:=
 uU (p:=(σ.s.heap.objs.size,σ.s.heap.objs.size)) k hr h (cu _ _) (aV _) (aV _) ⟨rfl,vs,c,Heap.get?_push_size _ rfl,v.mono (.add σ.W (aV σ.s.heap) (aV σ.s.heap))⟩ rfl
theorem mD{ls:List PV}{vs:List Value}(h:short ls 999=true)(v:cM X W ls vs):vs.length≤sizeLine:=by
 rw[←v.length,sizeLine_eq];have:=short.el h;exact nW this rfl
theorem zN{es:List Expr}{dO:jU}(pos:Pos)(h:gQ X P n env ν es dO):az X P n env ν (.List es pos) (.list dO):=
 .of (fun C m loc σ R Φ hr h' k=>wpAny_List (h pos C m loc σ _ _ hr h' fun x u ae au ay aK h=>⟨mD (wbF h).1 aK,xe (c:=0) (tk:=ae.s.toks) (k.le ay) au (wbF h).2 aK⟩)) id
theorem xf{es:List Expr}{dO:jU}(c:Nat)(pos:Pos)(h:gQ X P n env ν es dO):az X P n env ν (.Tuple es c pos) (.tuple dO):=
 .of (fun C m loc σ R Φ hr h' k=>wpAny_Tuple (h pos C m loc σ _ _ hr h' fun x u ae au ay aK h=>⟨mD (wbF h).1 aK,mC (tk:=ae.s.toks) (k.le ay) au (wbF h).2 (cu _ _) (aV _) (Heap.get?_push_size _ rfl) rfl rfl aK rfl⟩)) id
theorem kc(h:Heap)(o:Obj):h.get? (h.objs.size+1)=none∧(h.push o).objs.size=h.objs.size+1:=by
 refine⟨?_,Heap.size_push ..⟩
 cases q:h.get? (h.objs.size+1) with
 |none=>rfl
 |some o=>exact absurd (Heap.lt_size q) (Nat.not_lt.mpr (Nat.le_succ _))
theorem jw(h:Heap)(o x:Obj)(hx:x.isFreed=false):((h.push o).push x).get? (h.objs.size+1)=some x:=by
 have:=Heap.get?_push_size (h.push o) (o:=x) hx
 rw[Heap.size_push] at this;exact this
theorem fw(h:Heap)(o x:Obj):∀a o',h.get? a=some o'→((h.push o).push x).get? a=some o':=fun a o' e=>cu _ _ _ _ (cu _ _ _ _ e)
theorem okCut{R:PV→aa→Prop}{Φ:Value→Shared→Prop}{ls:List PV}{vs:List Value}{tk:Nat}{o:Obj}(k:Good C m loc σ (VR X) R Φ)(hr:Here C m loc σ)(h:R (.ref σ.H.length) (σ.H++[.list ls]))(v:cM X σ.W ls vs):
  Φ (.ref (σ.s.heap.push o).objs.size) {σ.s with heap:=(σ.s.heap.push o).push (lst vs.toArray 0),toks:=tk}:=
 have d:=kc σ.s.heap o
 uU (p:=(σ.s.heap.objs.size+1,σ.s.heap.objs.size+1)) k hr h (fw _ _ _) d.1 d.1 ⟨rfl,vs,0,jw _ _ _ rfl,v.mono (.add σ.W d.1 d.1)⟩ (by rw[d.2])
theorem ints_vr{W:Wd}(j:Nat){vs:List Value}{ks:List Int}(h:IntsAre vs ks):cM X W ((ks.take j).map .int) (vs.take j):=by
 induction h generalizing j with
 |nil=>rw[List.take_nil,List.take_nil];exact .nil
 |cons i t _ ih=>cases j with
  |zero=>exact .nil
  |succ j=>exact .cons (.int i t) (ih j)
theorem VR.tb{u:Value}(x:VR X W .bG u):∃a o c vs,u=.ref a∧W.B a=some o∧o.cls=.type "list"∧o.data=.seq vs.toArray c∧IntsAre vs X.ns:=by cases x;exact⟨_,_,_,_,rfl,‹_›,‹_›,‹_›,‹_›⟩
theorem tc{a:Expr}{ia:IE}{c:Nat}(p q pos:Pos)(pk:n9 X P)(hg:∀o r,letTemporaryGo a o r=pure ())(ha:az X P n env ν a ia):
  az X P n env ν (.Subscript a (.Slice none (some (.Constant (.int 24) c q)) none p) pos) (.l7 ia):=
 .of (fun C m loc σ R Φ hr h k=>wpAny_Subscript_Slice slot_list_getitem.lookup (ha.ev C m loc σ _ _ hr h fun x u ae au ay aK h=>by
  cases x with
  |bG=>
   obtain⟨a,o,d,vs,rfl,hb,hc,hd,hi⟩:=aK.tb
   refine wpAny_Slice (wpAny_pure (wpAny_Constant_int (k:=c) (pos:=q) (wpAny_pure ?_)))
   have hl:(ae.s.heap.push {cls:=.type "slice",data:=.fields #[Value.none,.int 24 ae.s.toks,.none]}).IsList a vs.toArray:=⟨o,Heap.get?_push_of_some _ (au.rel.frozen _ _ hb),hc,d,hd⟩
   refine⟨hl.typeIs,wpAny_getItem_list_slice (lo:=none) (hi:=some 24) (st:=none) hl (Heap.IsSliceOf.new _ _ _ _) .none (.int 24 _) .none (by decide) ?_ (by rw[List.size_toArray,sizeLine_eq];have:=hi.length;have:=(X.few hr.rel.ok);exact lu (Nat.lt_of_le_of_lt (Nat.le_of_eq ‹_›) ‹_›) rfl)⟩
   rw[show slicePick vs.toArray none (some 24) none=(vs.take 24).toArray from by have:=slicePick_upto' vs.toArray 24;simpa using this]
   rw[pk.bG] at h
   exact okCut (k.le ay) au h (ints_vr 24 hi)
  |_=>exact h.elim) hg) id
theorem snd_rev{a:Expr}{ia:IE}{c:Nat}(p q q' pos:Pos)(hg:∀o r,letTemporaryGo a o r=pure ())(ha:az X P n env ν a ia):
  az X P n env ν (.Subscript a (.Slice none none (some (.UnaryOp .USub (.Constant (.int 1) c q) q')) p) pos) (.rev ia):=
 .of (fun C m loc σ R Φ hr h k=>wpAny_Subscript_Slice_step slot_list_getitem.lookup (ha.ev C m loc σ _ _ hr h fun x u ae au ay aK h=>by
  obtain⟨i,rfl,h1⟩:=dj.el h
  obtain⟨l,e,h2⟩:=wL.el h1
  obtain⟨pp,vs,d,rfl,_,g,r⟩:=au.rel.cI aK e
  refine wpAny_Slice (wpAny_pure (wpAny_pure (wpAny_UnaryOp (wpAny_Constant_int (k:=c) (pos:=q) (neg_int ?_)))))
  have hl:(ae.s.heap.push {cls:=.type "slice",data:=.fields #[Value.none,.none,.int (-1) (ae.s.toks+1)]}).IsList pp vs.toArray:=aI (Heap.get?_push_of_some _ g)
  refine⟨hl.typeIs,wpAny_getItem_list_slice (lo:=none) (hi:=none) (st:=some (-1)) hl (Heap.IsSliceOf.new _ _ _ _) .none .none (.int (-1) _) (by decide) ?_ (by rw[List.size_toArray,←r.length,sizeLine_eq];have:=h2.el.1;exact lu this rfl)⟩
  rw[krv_pick]
  exact okCut (k.le ay) au h2.el.2 r.reverse) hg) id
theorem xg{a:Expr}{ia:IE}{c:Nat}(p q pos:Pos)(hg:∀o r,letTemporaryGo a o r=pure ())(ha:az X P n env ν a ia):
  az X P n env ν (.Subscript a (.Slice (some (.Constant (.int 1) c q)) none none p) pos) (.qM ia):=
 .of (fun C m loc σ R Φ hr h k=>wpAny_Subscript_Slice slot_tuple_getitem.lookup (ha.ev C m loc σ _ _ hr h fun x u ae au ay aK h=>by
  obtain⟨l,rfl,h1⟩:=jn.el h
  obtain⟨a,vs,rfl,ht,r⟩:=fG au.rel aK
  refine wpAny_Slice (wpAny_Constant_int (k:=c) (pos:=q) (wpAny_pure (wpAny_pure ?_)))
  have Ca:IsTup (ae.s.heap.push {cls:=.type "slice",data:=.fields #[Value.int 1 ae.s.toks,.none,.none]}) a vs.toArray:=ht.keeps (cu _ _)
  have d:=kc ae.s.heap {cls:=.type "slice",data:=.fields #[Value.int 1 ae.s.toks,.none,.none]}
  have hz:=h1.el.1
  refine⟨Ca.typeIs,getItem_tuple_from (a:=1) Ca (Heap.IsSliceOf.new _ _ _ _) (Nat.le_refl _) (by rw[List.size_toArray,←r.length];exact hz.1) ?_ (by rw[List.size_toArray,←r.length,sizeLine_eq];exact lu hz.2 rfl)⟩
  exact mC (a:=ae.s.heap.objs.size+1) (o:={cls:=.type "tuple",data:=.seq (vs.drop 1).toArray}) (c:=0) (tk:=ae.s.toks+1) (k.le ay) au h1.el.2 (fw _ _ _) d.1 (jw _ _ _ rfl) rfl rfl (r.drop 1) (by rw[d.2])) hg) id
theorem xh(pos:Pos):az X P n env ν (.Dict [] [] pos) .aW:=
 .of (fun C m loc σ R Φ hr h k=>wpAny_Dict_empty (uU (p:=(σ.s.heap.objs.size,σ.s.heap.objs.size)) (tk:=σ.s.toks) k hr h (cu _ _) (aV _) (aV _) ⟨rfl,hr.st.F.notModules (modules_low (X.T hr.rel.ok).nolimit),[],Heap.DictOf.new σ.s.heap,.nil⟩ rfl)) id
def PsR(X:Cx)(js:List Nat)(W:Wd)(vs:List PV)(us:List (Value×Value)):Prop:=allStrKeys us=true∧SR X W (js.zip vs) (strPairs us)∧(strPairs us).map (·.1)=js.map X.nm∧us.length=vs.length
def mE(X:Cx)(P:ec)(n:Nat)(env:Env)(ν:Nu)(ks:List (Option Expr))(js:List Nat)(es:List Expr)(dO:jU):Prop:=
 ks.length=js.length∧ks.length=es.length∧ks.all (·.isSome)=true∧∀pos,GoE X n env ν (evalPairs (pairTrees ks es env pos)) (PsR X js) (wEs P (aj P n) dO)
theorem zO:mE X P n env ν [] [] [] .nil:=⟨rfl,rfl,rfl,fun pos C m loc σ R Φ hr h k=>pairTrees_nil_walk (gz k hr h ⟨rfl,.nil,rfl,rfl⟩)⟩
theorem xj{x:Str}{c j:Nat}{p:Pos}{a:Expr}{ks:List (Option Expr)}{js:List Nat}{es:List Expr}{ia:IE}{dO:jU}(hj:j<X.tab.length)(hx:X.nm j=x)(ha:az X P n env ν a ia)(hs:mE X P n env ν ks js es dO):
  mE X P n env ν (some (.Constant (.str x) c p)::ks) (j::js) (a::es) (.cons ia dO):=by
 obtain⟨h1,h2,h3,hs⟩:=hs
 subst hx
 refine⟨congrArg (· +1) h1,congrArg (· +1) h2,h3,fun pos C m loc σ R Φ hr h k=>pairTrees_cons_walk (wpAny_Constant_str ?_)⟩
 have z:=hr.toks (tk:=σ.s.toks+1)
 refine ha.ev C m loc ⟨{σ.s with toks:=σ.s.toks+1},σ.W,σ.H⟩ _ _ z.1 h fun x u ae au ay aK h=>hs pos C m loc ae _ _ au h fun y w ao aC aG bU h=>gz (k.le ((z.2.trans ay).trans aG)) aC h ⟨bU.1,.cons hj (aK.up aG) bU.2.1,?_,congrArg (· +1) bU.2.2.2⟩
 show X.nm j::_=_
 rw[bU.2.2.1];rfl
theorem zP(ok:X.ok):∀l:List Nat,(∀j∈l,j<X.tab.length)→l.Nodup→(l.map X.nm).Nodup:=fun l=>by
 induction l with
 |nil=>intro _ _;exact List.nodup_nil
 |cons j r ih=>
  intro hb hn
  have hn:=List.nodup_cons.mp hn
  refine List.nodup_cons.mpr ⟨fun hm=> ?_,ih (fun i hi=>hb i (List.mem_cons_of_mem _ hi)) hn.2⟩
  obtain⟨i,hi,he⟩:=List.mem_map.mp hm
  have:=X.inj ok (hb i (List.mem_cons_of_mem _ hi)) (hb j (.head _)) he
  exact hn.1 (this▸hi)
theorem Here.fresh(hr:Here C m loc σ){a:Addr}(d:σ.s.heap.get? a=none):¬Own σ.W a∧σ.W.B a=none∧a≠env.locals∧a∉Fs C.l:=by
 refine⟨fun x=> ?_,hr.rel.dead d,fun z=> ?_,fun z=> ?_⟩
 ·obtain⟨o,e⟩:=hr.rel.eZ x;rw[d] at e;cases e
 ·obtain⟨o,e⟩:=Fr.live hr.st.F
  rw[←z,d] at e;cases e
 ·obtain⟨en,he,hf⟩:=List.mem_filterMap.mp z
  obtain⟨_,L',o',g1,_,_,g4,_⟩:=hr.st.fr en he
  rw[hf] at g1;cases g1
  rw[d] at g4;cases g4
theorem xk{ks:List (Option Expr)}{js:List Nat}{es:List Expr}{dO:jU}(pos:Pos)(h0:ks≠[])(hlen:ks.length≤15)(h:mE X P n env ν ks js es dO)(hjs:∀j∈js,j<X.tab.length):az X P n env ν (.Dict ks es pos) (.d9 js dO):=by
  revert X P n env ν ks js es dO pos
  apply aT;intro
  generalize bX .. =X,bY .. =P,bZ .. =n,b7 .. =env,cv .. =ν,cw .. =ks,cx .. =js,cy .. =es
  apply aP;intro
  generalize bP .. =dO,bS .. =pos
  intro h0 hlen h hjs
  refine .of ?_ id
  apply aJ;intro
  generalize nx .. =C
  apply aN;intro
  generalize bM .. =m,bN .. =loc,bQ .. =σ,bR .. =R
  apply aJ;intro
  generalize nx .. =Φ
  intro hr h' k
  obtain⟨h1,h2,h3,h⟩:=h
  refine wpAny_Dict_walk (knd:=PySem.strKind X.prog X.w) h3 h2 h0 hlen ?_
  have hd0:(σ.s.heap.push {cls:=.type "dict",data:=.dict #[]}).get? σ.s.heap.objs.size=some {cls:=.type "dict",data:=.dict #[]}:=Heap.get?_push_size _ rfl
  have z:=hr.ez (h':=σ.s.heap.push {cls:=.type "dict",data:=.dict #[]}) (tk:=σ.s.toks) (fun a o e _=>cu _ _ a o e) (Fr.ez hr.st.F (cu _ _))
  have f:=hr.fresh (aV σ.s.heap)
  refine h pos C m loc ⟨{σ.s with heap:=σ.s.heap.push {cls:=.type "dict",data:=.dict #[]},toks:=σ.s.toks},σ.W,σ.H⟩ _ _ z.1 h' fun x us ao aC aG bU e=> ?_
  obtain⟨a1,a2,a3,a4⟩:=bU
  obtain⟨hc,e⟩:=e.el
  have hnd:((strPairs us).map (·.1)).Nodup:=by rw[a3];exact zP hr.rel.ok js hjs hc.2.2
  have hdk:ao.s.heap.get? σ.s.heap.objs.size=some {cls:=.type "dict",data:=.dict #[]}:=aG.step.keep _ _ hd0 f.1 f.2.2.1 f.2.2.2
  have hD:ao.s.heap.DictOf (PySem.strKind X.prog X.w) σ.s.heap.objs.size []:=by
   obtain⟨o,es,ep,g,r⟩:=Heap.DictOf.new (knd:=PySem.strKind X.prog X.w) σ.s.heap
   rw[hd0] at g
   exact⟨o,es,ep,hdk.trans g,r⟩
  refine display_done_str a1 hnd hD fun h' hD' hs=> ?_
  have y:=hr.late (o:=.d9 (js.zip x)) (h':=h') (tk:=ao.s.toks+us.length) (aV _) aC (z.2.trans aG) (aG.step.own hd0 f.1) (aG.step.dz hd0 f.2.1) (fun b o e n=>(hs.2 b n).trans e) ⟨rfl,hr.st.F.notModules (modules_low (X.T hr.rel.ok).nolimit),strPairs us,hD',a2.mono (Ext.add ao.W (h:=σ.s.heap) (aV _) (aV _))⟩
  exact k _ _ _ y.1 y.2.1 y.2.2 e
end
end
section
open PyProof.Rows PySem.Calls PySem.W
set_option backward.match.sparseCases false
set_option genInjectivity false
structure cU(l:List Env)(W:Wd)(h:Heap)(W':Wd)(h':Heap):Prop extends Ext W h W' where
 keep:∀a o,h.get? a=some o→¬Own W a→a∉Fs l→h'.get? a=some o
 slots:∀a o,h.get? a=some o→a∈Fs l→∃sl,h'.get? a=some {o with slots:=sl}
 live:∀a o,h.get? a=some o→∃o',h'.get? a=some o'
theorem cU.step{l:List Env}{W W':Wd}{h h':Heap}(S:cU l W h W' h')(L:Addr):Step l L W h W' h':=⟨S.toExt,fun a o e n _ f=>S.keep a o e n f,fun a o e _ f=>S.slots a o e f,S.live⟩
theorem cU.trans{l:List Env}{W ct fu:Wd}{h h₁ d7:Heap}(x:cU l W h ct h₁)(y:cU l ct h₁ fu d7):cU l W h fu d7:=by
 refine⟨x.toExt.trans x.live y.toExt,fun a o e n n'=>y.keep _ _ (x.keep a o e n n') (x.own e n) n',fun a o e n'=> ?_,fun a o e=> ?_⟩
 ·obtain⟨sl,e'⟩:=x.slots a o e n'
  obtain⟨w7,e''⟩:=y.slots a _ e' n'
  exact⟨w7,e''⟩
 ·obtain⟨o',e'⟩:=x.live a o e
  exact y.live a o' e'
theorem cU.kept{l:List Env}{W W':Wd}{h h':Heap}(E:Ext W h W')(hk:∀a o,h.get? a=some o→h'.get? a=some o):cU l W h W' h':=
 ⟨E,fun a o e _ _=>hk a o e,fun a o e _=>⟨o.slots,hk a o e⟩,fun a o e=>⟨o,hk a o e⟩⟩
structure AOkC(A:Around)(l:List Env)(n:Nat):Prop where
 handled:A.handled=none
 frames:A.frames=some l
 depth:A.depth+4 * n+1≤900
 units:A.units+20 * n+5≤9000
theorem zv.call{A:Around}{l:List Env}{n:Nat}(a:zv A l n):AOkC A l n:=⟨a.handled,a.frames,by have:=a.depth;exact Ck this rfl,by have:=a.units;exact Ck this rfl⟩
theorem zv.make{A:Around}{l:List Env}{n:Nat}(a:zv A l n)(C:Addr)(rest:List Value)(kw:List (Str×Value)):AOkC (A.under (.builtin "type.__call__" ⟨.ref C::rest,kw⟩)) l n:=by
 have hw:(Code.builtin "type.__call__" ⟨.ref C::rest,kw⟩).weight=1:=by
  show(Code.frames _+_)+_+_=1
  rfl
 have hu:(Code.builtin "type.__call__" ⟨.ref C::rest,kw⟩).cUnits=1:=rfl
 refine⟨a.handled,?_,?_,?_⟩
 ·exact a.frames
 ·show A.depth+_+_+_≤_
  have:=a.depth
  rw[hw];exact ar82 this
 ·show A.units+_+_+_≤_
  have:=a.units
  rw[hu];exact ar83 this
structure qU(X:Cx)(l:List Env)(W:Wd)(s:Shared)(R:PV→aa→Prop)(u:Value)(s':Shared)(v:PV)(H':aa)(W':Wd):Prop where
 step:cU l W s.heap W' s'.heap
 rel:HR X W' H' s'.heap
 val:VR X W' v u
 same:g8 s s'
 ask:R v H'
structure uY(X:Cx)(l:List Env)(W:Wd)(s:Shared)(E:XK→aa→Prop)(e:Addr)(s':Shared)(H':aa)(W':Wd)(base:Heap)(a0:Value):Prop extends Ext W s.heap W' where
 rel:HR X W' H' base
 fly:Heap.FlyingW base l e (.ref X.bad) a0 s'.heap
 keep:∀a o,s.heap.get? a=some o→¬Own W a→a∉Fs l→base.get? a=some o
 slots:∀a o,s.heap.get? a=some o→a∈Fs l→∃sl,s'.heap.get? a=some {o with slots:=sl}
 same:g8 s s'
 ask:E .flying H'
def cS(X:Cx)(l:List Env)(W:Wd)(s:Shared)(R:PV→aa→Prop)(E:XK→aa→Prop)(res:Result)(s':Shared):Prop:=match res with
 |.ok (.ret u)=>∃v H' W',qU X l W s R u s' v H' W'
 |.error (.ref e)=>∃H' W' base a0,uY X l W s E e s' H' W' base a0
 |_=>False
theorem cS.el{X:Cx}{l:List Env}{W:Wd}{s:Shared}{R:PV→aa→Prop}{E:XK→aa→Prop}{res:Result}{s':Shared}(c:cS X l W s R E res s'):
  (∃u v H' W',res=.ok (.ret u)∧qU X l W s R u s' v H' W')∨∃e H' W' base a0,res=.error (.ref e)∧uY X l W s E e s' H' W' base a0:=by
 cases res with
 |ok f=>cases f with
  |ret u=>exact .inl ⟨u,c.imp fun _ c=>c.imp fun _ c=>c.imp fun _ c=>⟨rfl,c⟩⟩
  |_=>exact c.elim
 |error e=>cases e with
  |ref e=>exact .inr ⟨e,c.imp fun _ c=>c.imp fun _ c=>c.imp fun _ c=>c.imp fun _ c=>⟨rfl,c⟩⟩
  |_=>exact c.elim
def dS(X:Cx)(P:ec)(n:Nat):Prop:=
 ∀f A l s W H args us R E,aj P n f args H R E→HR X W H s.heap→X.h₀.objs.size≤s.heap.objs.size→j2 W s.heap l→cM X W args us→AOkC A l n→
  codeAny X.M A (.call (.ref f) ⟨us,[]⟩) (cS X l W s R E) s
section
variable {X:Cx}{P:ec}{n:Nat}{env:Env}{ν:Nu}{C:Ct X n env ν}{m:Str→Option Value}{loc:Loc}{σ ao:Pt}{A:Around}{s:Shared}{W:Wd}{H:aa}{L:Addr}{l:List Env}{E:Value→Shared→Prop}
theorem jx{h h':Heap}{o:Obj}{sl:Array (Option Value)}(N:h.Ns L m)(e:h.get? L=some o)(e':h'.get? L=some {o with slots:=sl}):h'.Ns L m:=by
 obtain⟨o',es,ep,g,hd,r⟩:=N
 rw[e] at g;cases g
 exact⟨_,es,ep,e',hd,r⟩
theorem Fr.zQ{h₀ h:Heap}(F:Fr h₀ L h m):h₀.objs.size≤h.objs.size:=by
 obtain⟨o,e⟩:=Fr.live F
 exact Nat.le_trans F.above (Nat.le_of_lt (Heap.lt_size e))
theorem cS.back{R:PV→aa→Prop}{Φ:Value→Shared→Prop}{K:XK→aa→Prop}(hr:Here C m loc σ)(k:Good C m loc σ (VR X) R Φ)(hK:∀H,K .flying H→C.E .flying loc H){res:Result}{s':Shared}(c:cS X C.l σ.W σ.s R K res s'):match res with
  |.ok (.ret u)=>Φ u s'
  |.ok _=>False
  |.error e=>C.Ψ e s':=by
 obtain⟨oL,eL⟩:=Fr.live hr.st.F
 have main:∀{h'},(∀b o,X.h₀.get? b=some o→h'.get? b=some o)→(env.locals∈Fs C.l→∃sl,h'.get? env.locals=some {oL with slots:=sl})→(env.locals∉Fs C.l→h'.get? env.locals=some oL)→Fr X.h₀ env.locals h' m:=fun hk h1 h2=>by
  refine⟨?_,hk,hr.st.F.above⟩
  by_cases hf:env.locals∈Fs C.l
  ·obtain⟨sl,e'⟩:=h1 hf
   exact jx hr.st.F.ns eL e'
  ·exact jx (sl:=oL.slots) hr.st.F.ns eL (h2 hf)
 rcases c.el with⟨u,v,H',W',rfl,c1⟩|⟨e,H',W',base,a0,rfl,c1⟩
 ·have x:Le C.l env.locals σ ⟨s',W',H'⟩:=⟨c1.step.step env.locals,c1.same⟩
  exact k v _ ⟨s',W',H'⟩ (hr.go x (hr.st.next x.step (main c1.rel.keep (c1.step.slots _ _ eL) (c1.step.keep _ _ eL hr.st.dR)) c1.rel)) x c1.val c1.ask
 ·exact Ct.raise hr (k:=.flying) ⟨c1.toExt,c1.rel,⟨a0,c1.fly⟩,fun a o e n _ f=>c1.keep a o e n f,fun a o e _ f=>c1.slots a o e f⟩ (main (fun b o e=>c1.fly.1 b o (c1.rel.keep b o e)) (c1.slots _ _ eL) fun hf=>c1.fly.1 _ _ (c1.keep _ _ eL hr.st.dR hf)) c1.same (hK _ c1.ask)
theorem cS.wp{R:PV→aa→Prop}{Φ:Value→Shared→Prop}{K:XK→aa→Prop}{f:Addr}{us:List Value}(hr:Here C m loc σ)(k:Good C m loc σ (VR X) R Φ)(hK:∀H,K .flying H→C.E .flying loc H)(c:codeAny X.M C.A (.call (.ref f) ⟨us,[]⟩) (cS X C.l σ.W σ.s R K) σ.s):wpAny X.M C.A (call (.ref f) us) Φ C.Ψ σ.s:=
 wpAny_call (codeAny_mono c fun res s' c=>by have:=cS.back hr k hK c;rcases res with x|(_|_|_|_)<;>exact this)
theorem oh{M:Model}{f:Value}{Q:Args→Shared→Prop}(h:wpAny M A (spliced []) (fun vs s'=>Q ⟨vs,[]⟩ s') E s):wpAny M A (evalArgs f true [] []) Q E s:=by
 unfold evalArgs
 show wpAny M A (spliced [] >>= _) Q E s
 refine wpAny_bind (wpAny_mono h (fun vs bc h₁=> ?_) fun _ _ x=>x)
 refine wpAny_bind (wpAny_pure ?_)
 refine wpAny_holding ?_
 exact wpAny_bind (wpAny_pure (wpAny_bind (wpAny_pure (wpAny_pure h₁))))
theorem pO{A:Around}{f:Value}{es:List Expr}{pos:Pos}{Q:Args→Shared→Prop}(fy:es=[]∨∃y rest,starEach es env=(false,y)::rest)(h:wpAny X.M A (spliced (backTo pos (starEach es env))) (fun vs s'=>Q ⟨vs,[]⟩ s') E s):wpAny X.M A (evalArgs f true (backTo pos (starEach es env)) []) Q E s:=by
 rcases fy with rfl|⟨y,rest,iL⟩
 ·exact oh h
 ·rw[iL] at h ⊢
  exact evalArgs_plain h
theorem mF{x:Str}{f:Nat}{es:List Expr}{dO:jU}{K:List PV→aa→Prop}{Φ:Value→Shared→Prop}(p pos:Pos)(ev:EnvOk env)(hx:env.kindOf x=some .globalImplicit)(hd:(x == ("__debug__":Str))=false)(en:nsIn X.K mainGlobals x=some (some (.ref f)))
  (hk:keepIn X.K (.ref f)=true) (gE:(backTo pos (starEach es env)).any (·.1)=false) (fy:es=[]∨∃y rest,starEach es env=(false,y)::rest) (hs:gQ X P n env ν es dO) (hr:Here C m loc σ) (h:wEs P (aj P n) dO loc σ.H K fun k H=>C.E k loc H)
  (hc:∀args us ae,Here C m loc ae→Le C.l env.locals σ ae→cM X ae.W args us→K args ae.H→wpAny X.M C.A (call (.ref f) us) Φ C.Ψ ae.s):
  wpAny X.M C.A (eval (.Call (.Name x p) es [] pos) env) Φ C.Ψ σ.s:=by
 refine wpAny_Call_Name_kw (nameG_K hr.st.F (X.X hr.rel.ok) (X.T hr.rel.ok) en ?_ ev.globals ev.kind hx hd)
 show wpAny X.M C.A (callWith pos (.ref f) [] (backTo pos (starEach es env)) []) _ _ σ.s
 exact callWith_of (P:=X.K.In) (by rw[gE];rfl) (keeps_K hk) (pO fy (hs pos C m loc σ K _ hr h fun args us ae au ay aK h=>⟨au.rel.yO,hc args us ae au ay aK h⟩))
theorem xl{x:Str}{f:Nat}{es:List Expr}{dO:jU}(p pos:Pos)(co:dS X P n)(ev:EnvOk env)(hx:env.kindOf x=some .globalImplicit)(hd:(x == ("__debug__":Str))=false)(en:nsIn X.K mainGlobals x=some (some (.ref f)))
  (hk:keepIn X.K (.ref f)=true) (gE:(backTo pos (starEach es env)).any (·.1)=false) (fy:es=[]∨∃y rest,starEach es env=(false,y)::rest) (hs:gQ X P n env ν es dO):
  az X P n env ν (.Call (.Name x p) es [] pos) (.ah f dO):=
 .ofV (fun C m loc σ R Φ hr h k=>mF p pos ev hx hd en hk gE fy hs hr h fun args us ae au ay aK h=>cS.wp (K:=fun k H=>C.E k loc H) au (k.le ay) (fun _ z=>z) (co f C.A C.l ae.s ae.W ae.H args us R _ (Wc.el h) au.rel (Fr.zQ au.st.F) au.st.fr aK (C.ak hr.ok).call)) id
theorem HR.add{h:Heap}(R:HR X W H h){p:Addr×Addr}{o:aH}{h':Heap}(hk:∀a o,h.get? a=some o→h'.get? a=some o)(d1:h.get? p.1=none)(d2:h.get? p.2=none)
  (ho:ft X (W.add p) h' p o):HR X (W.add p) (H++[o]) h':=
 R.zt (L:=p.1) (R.dead d1) (fun x=>by obtain⟨o,e⟩:=R.eZ x;rw[d1] at e;cases e) (fun a o e _=>hk a o e) d1 d2 ho
theorem make_ok(pk:n9 X P)(co:dS X P n){c:Nat}{args:List PV}{us:List Value}{R:PV→aa→Prop}{K:XK→aa→Prop}(e:cA P (aj P n) c args H R K)(rel:HR X W H s.heap)(hz:X.h₀.objs.size≤s.heap.objs.size)(fr:j2 W s.heap l)(v:cM X W args us)(ak:zv A l n):
  codeAny X.M A (.call (.ref c) ⟨us,[]⟩) (cS X l W s R K) s:=by
 unfold cA at e
 split at e
 ·rename_i k hk
  split at e
  ·rename_i f hf
   have Q:=pk.recs c k hk
   obtain⟨hi,hfn⟩:=Q.init f hf
   obtain⟨hp,g,d,t,os⟩:=s
   have KI:=rel.yO
   refine make_core (makes_of KI Q.makes) (looks_findIn KI hi) (fun self=>bind_fn KI self (beq_iff_eq.mp hfn)) (.inl rfl) ?_
   obtain⟨dd,sz⟩:=kc hp emptyDict
   let p:Addr×Addr:=(hp.objs.size+1,hp.objs.size)
   have hk2:=fw hp emptyDict (instObj c hp.objs.size)
   have E:=Ext.add W (p:=p) dd (aV hp)
   have R2:HR X (W.add p) (H++[.inst c []]) ((hp.push emptyDict).push (instObj c hp.objs.size)):=
    HR.add rel hk2 dd (aV hp) ⟨⟨Q.known,Nat.succ_ne_self _⟩,jw _ _ _ rfl,fun _=>none,⟨emptyDict,#[],0,cu _ _ _ _ (Heap.get?_push_size _ rfl),rfl,fun e he=>absurd he (Array.not_mem_empty _),fun _=>rfl,Nat.le_refl _⟩,fun n hn=>rfl⟩
   have S2:cU l W hp (W.add p) ((hp.push emptyDict).push (instObj c hp.objs.size)):=cU.kept E hk2
   have fr2:j2 (W.add p) ((hp.push emptyDict).push (instObj c hp.objs.size)) l:=fun en he=>by
    obtain⟨a1,L',o',h1,h2,h3,h4,h5⟩:=fr en he
    exact⟨a1,L',o',h1,E.dz h4 h2,E.own h4 h3,hk2 _ _ h4,h5⟩
   have vp:VR X (W.add p) (.ref H.length) (.ref (hp.objs.size+1)):=by rw[←rel.len];exact .ref _ p (W.sU p)
   refine codeAny_mono (co f (A.under (.builtin "type.__call__" ⟨.ref c::us,[]⟩)) l ⟨(hp.push emptyDict).push (instObj c hp.objs.size),g,d,t,os⟩ (W.add p) (H++[.inst c []]) (.ref H.length::args) (.ref (hp.objs.size+1)::us) _ _ e R2 (by rw[Heap.size_push,sz];exact Nat.le_succ_of_le (Nat.le_succ_of_le hz)) fr2 (.cons vp (v.mono E)) (ak.make c us [])) fun res s' ce=> ?_
   rcases ce.el with⟨u',v',H',W',rfl,c1⟩|⟨_,_,_,_,_,_,c1⟩
   ·have a:=c1.ask
    cases v' with
    |none=>
     obtain rfl:=c1.val.none_inv
     exact⟨rfl,_,H',W',S2.trans c1.step,c1.rel,vp.mono c1.step.toExt,c1.same,a⟩
    |_=>exact a.elim
   ·exact c1.ask.elim
  ·exact e.elim
 ·exact e.elim
theorem xn{x:Str}{c:Nat}{es:List Expr}{dO:jU}(p pos:Pos)(pk:n9 X P)(co:dS X P n)(ev:EnvOk env)(hx:env.kindOf x=some .globalImplicit)(hd:(x == ("__debug__":Str))=false)(en:nsIn X.K mainGlobals x=some (some (.ref c)))
  (hk:keepIn X.K (.ref c)=true) (gE:(backTo pos (starEach es env)).any (·.1)=false) (fy:es=[]∨∃y rest,starEach es env=(false,y)::rest) (hs:gQ X P n env ν es dO):
  az X P n env ν (.Call (.Name x p) es [] pos) (.callC c dO):=
 .of (fun C m loc σ R Φ hr h k=>mF p pos ev hx hd en hk gE fy hs hr h fun args us ae au ay aK h=>cS.wp (K:=fun k H=>C.E k loc H) au (k.le ay) (fun _ z=>z) (make_ok pk co (Wc.el h) au.rel (Fr.zQ au.st.F) au.st.fr aK (C.ak hr.ok))) id
theorem zR{x:Str}{v:Value}{Q:Value→Shared→Prop}(pos:Pos)(ev:EnvOk env)(hr:Here C m loc σ)(hx:env.kindOf x=some .globalImplicit)(hd:(x == ("__debug__":Str))=false)(e:nsIn X.K mainGlobals x=some none)(hv:bootBuiltins x=some v)(hn:x≠"__name__")(q:Q v σ.s):
  wpAny X.M A (eval (.Name x pos) env) Q E σ.s:=
 Calls.Name_function_global ev.kind hx (Calls.loadGlobal_builtin (by rw[ev.globals];exact(X.T hr.rel.ok).g.keeps hr.st.F.keep) (mg_none_of (X.X hr.rel.ok) (X.T hr.rel.ok).g e) (by rw[ev.builtins];exact(X.T hr.rel.ok).b.keeps hr.st.F.keep) (((X.T hr.rel.ok).builtins x hn).trans hv) q) hd
noncomputable def notRef:Value→Bool
 |.ref _=>false
 |_=>true
theorem g9{M:Model}{v:Value}(h:notRef v=true)(hp:Heap):∃k,(k=Keeper.frame∨k=Keeper.machine∨k=Keeper.boundFrame)∧Looks M hp (keeperOf v) k:=
 ⟨.machine,.inr (.inl rfl),Looks.of_pure (by cases v<;>first|rfl|cases h)⟩
theorem ef{x:Str}{v:Value}{es:List Expr}{Q:Value→Shared→Prop}(p pos:Pos)(ev:EnvOk env)(hr:Here C m loc σ)(hx:env.kindOf x=some .globalImplicit)(hd:(x == ("__debug__":Str))=false)(e:nsIn X.K mainGlobals x=some none)(hv:bootBuiltins x=some v)(hn:x≠"__name__")
  (hrf:notRef v=true) (gE:(backTo pos (starEach es env)).any (·.1)=false) (fy:es=[]∨∃y rest,starEach es env=(false,y)::rest)
  (h:wpAny X.M A (spliced (backTo pos (starEach es env))) (fun vs bc=>wpAny X.M A (call v vs) Q E bc) E σ.s):wpAny X.M A (eval (.Call (.Name x p) es [] pos) env) Q E σ.s:=by
 refine wpAny_Call_Name_kw (zR p ev hr hx hd e hv hn ?_)
 show wpAny X.M A (callWith pos v [] (backTo pos (starEach es env)) []) _ _ σ.s
 exact callWith_of (P:=fun _=>True) (by rw[gE];rfl) (fun h _=>g9 hrf h) (pO fy (wpAny_mono h (fun _ _ z=>⟨trivial,z⟩) fun _ _ z=>z))
def dI(X:Cx)(b:BF)(v:Value):Prop:=
 ∀{n env ν} {C:Ct X n env ν} {m loc σ R Φ E args us},Here C m loc σ→Good C m loc σ (VR X) R Φ→cM X σ.W args us→wBf b args σ.H R→wpAny X.M C.A (call v us) Φ E σ.s
theorem xo{x:Str}{v:Value}{b:BF}{es:List Expr}{dO:jU}(p pos:Pos)(lf:dI X b v)(ev:EnvOk env)(hx:env.kindOf x=some .globalImplicit)(hd:(x == ("__debug__":Str))=false)(e:nsIn X.K mainGlobals x=some none)(hv:bootBuiltins x=some v)(hn:x≠"__name__")
  (hrf:notRef v=true) (gE:(backTo pos (starEach es env)).any (·.1)=false) (fy:es=[]∨∃y rest,starEach es env=(false,y)::rest) (hs:gQ X P n env ν es dO):
  az X P n env ν (.Call (.Name x p) es [] pos) (.bC b dO):=
 .of (fun C m loc σ R Φ hr h k=>ef p pos ev hr hx hd e hv hn hrf gE fy (hs pos C m loc σ _ _ hr h fun args us ae au ay aK h=>lf au (k.le ay) aK h)) id
theorem one{vs:List PV}{us:List Value}{k:PV→Prop}(h:w1 vs k)(v:cM X W vs us):∃a u,us=[u]∧VR X W a u∧k a:=by
 obtain⟨a,rfl,h⟩:=w1.el h
 obtain⟨u,r,rfl,x,y⟩:=v.cons_inv
 rw[y.nil_inv]
 exact⟨a,u,rfl,x,h⟩
theorem oneL{vs:List PV}{us:List Value}{k:List PV→Prop}(h:w1 vs fun a=>dj a fun r=>wL H r k)(v:cM X W vs us){hp:Heap}(R:HR X W H hp):∃a xs c l,us=[.ref a]∧hp.get? a=some (lst xs.toArray c)∧cM X W l xs∧k l:=by
 obtain⟨a,u,rfl,x,h1⟩:=one h v
 obtain⟨r,rfl,h2⟩:=dj.el h1
 obtain⟨l,e,h3⟩:=wL.el h2
 obtain⟨a,xs,c,rfl,_,g,r⟩:=R.cI x e
 exact⟨a,xs,c,l,rfl,g,r,h3⟩
theorem twoI{vs:List PV}{us:List Value}{k:Int→Int→Prop}(h:w2 vs fun a b=>wI a fun i=>wI b fun j=>k i j)(v:cM X W vs us):∃i j t u,us=[.int i t,.int j u]∧k i j:=by
 obtain⟨a,b,rfl,h⟩:=w2.el h
 obtain⟨u,r,rfl,x,y⟩:=v.cons_inv
 obtain⟨w,r,rfl,y,z⟩:=y.cons_inv
 rw[z.nil_inv]
 obtain⟨i,j,t,u,rfl,rfl,h⟩:=iY h x y
 exact⟨i,j,t,u,rfl,h⟩
theorem oneT{vs:List PV}{us:List Value}{k:List PV→Prop}(h:w1 vs fun a=>wLen H a k)(v:cM X W vs us){hp:Heap}(R:HR X W H hp):∃a xs c l o T,us=[.ref a]∧(T="list"∨T="tuple")∧hp.get? a=some o∧o.cls=.type T∧o.data=.seq xs.toArray c∧cM X W l xs∧l.length<100000∧k l:=by
 revert X W H vs us k hp
 apply aN;intro
 generalize bM .. =X,bN .. =W,bQ .. =H,bR .. =vs
 apply aP;intro
 generalize bP .. =us,bS .. =k
 intro h v
 apply aJ;intro
 generalize nx .. =hp
 intro R
 obtain⟨a,u,rfl,x,h1⟩:=one h v
 cases a with
 |tup l=>
  obtain⟨a,xs,rfl,⟨o,g,hc,c,hd⟩,r⟩:=fG R x
  exact⟨a,xs,c,l,o,"tuple",rfl,.inr rfl,g,hc,hd,r,WG.el h1⟩
 |ref r=>
  obtain⟨l,e,h2⟩:=wL.el h1
  obtain⟨a,xs,c,rfl,_,g,r⟩:=R.cI x e
  exact⟨a,xs,c,l,_,"list",rfl,.inl rfl,g,rfl,rfl,r,h2.el⟩
 |_=>exact h1.elim
theorem not_nil{α:Type}{a:α}:a∉([]:List α):=List.not_mem_nil
theorem bf_abs:dI X .abs (.builtin "abs"):=fun hr k v h=>by
 obtain⟨a,u,rfl,x,h1⟩:=one h v
 obtain⟨i,rfl,h2⟩:=wI.el h1
 obtain⟨t,rfl⟩:=x.int_inv
 exact call_abs_int fun u tk=>cJ k hr h2 (.int _ _)
theorem bf_min:dI X .min (.builtin "min"):=fun {n env ν C m loc σ R Φ E args us} hr k v h=>by
 obtain⟨i,j,t,u,rfl,h1⟩:=twoI h v
 exact min_two_N (C.ak hr.ok).handled hr.st.F (f9 X.h₀ σ.s.heap env.locals []) fun h' tk F' N'=>jt k hr h1 (.int _ _) (fun a o e q=>gh hr.st.F F' (fun p hp=>(N' p hp).1) a o e q not_nil) F'
theorem bf_max:dI X .max (.builtin "max"):=fun {n env ν C m loc σ R Φ E args us} hr k v h=>by
 obtain⟨i,j,t,u,rfl,h1⟩:=twoI h v
 exact max_two_N (C.ak hr.ok).handled hr.st.F (f9 X.h₀ σ.s.heap env.locals []) fun h' tk F' N'=>jt k hr h1 (.int _ _) (fun a o e q=>gh hr.st.F F' (fun p hp=>(N' p hp).1) a o e q not_nil) F'
theorem bf_len:dI X .len (.builtin "len"):=fun {n env ν C m loc σ R Φ E args us} hr k v h=>by
 obtain⟨a,xs,c,l,o,T,rfl,hT,g,hc,hd,r,hz,h1⟩:=oneT h v hr.rel
 have q:∀t tk,Φ (.int (xs.toArray.size:Nat) t) {σ.s with toks:=tk}:=fun t tk=>by rw[List.size_toArray,←r.length];exact cJ k hr h1 (.int _ _)
 rcases hT with rfl|rfl
 ·exact call_len_list ⟨o,g,hc,c,hd⟩ (by rw[List.size_toArray,←r.length];exact vV (Int.ofNat_lt.mpr hz) rfl) (q _ _)
 ·exact len_tuple ⟨o,g,hc,c,hd⟩ (by rw[List.size_toArray,←r.length];exact vV (Int.ofNat_lt.mpr hz) rfl) (q _ _)
theorem bf_list:dI X .list (.type "list"):=fun {n env ν C m loc σ R Φ E args us} hr k v h=>by
 obtain⟨a,xs,c,l,o,T,rfl,hT,g,hc,hd,r,hz,h1⟩:=oneT h v hr.rel
 refine call_list_seq a hT g hc hd (fun h' c' hk hD=> ?_) (by rw[List.size_toArray,←r.length,sizeLine_eq];exact lu hz rfl)
 exact uU (p:=(σ.s.heap.objs.size,σ.s.heap.objs.size)) (tk:=σ.s.toks) k hr h1 hk (aV _) (aV _) ⟨rfl,xs,c',hD,r.mono (.add σ.W (aV σ.s.heap) (aV σ.s.heap))⟩ rfl
theorem zS{h h':Heap}(hk:∀a o,h.get? a=some o→h'.get? a=some o):h.get? h'.objs.size=none:=by
 cases q:h.get? h'.objs.size with
 |none=>rfl
 |some o=>exact absurd (Heap.lt_size (hk _ _ q)) (Nat.lt_irrefl _)
theorem zT:dI X .tuple (.type "tuple"):=fun {n env ν C m loc σ R Φ E args us} hr k v h=>by
 obtain⟨a,xs,c,l,rfl,g,r,h1⟩:=oneL h v hr.rel
 have hz:=h1.el.1
 exact call_tuple_list (aI g) (fun h' hk=>mC (tk:=σ.s.toks) k hr h1.el.2 (fun a o e=>cu _ _ _ _ (hk _ _ e)) (zS hk) (Heap.get?_push_size _ rfl) rfl rfl r rfl) (by rw[List.size_toArray,←r.length,sizeLine_eq];exact lu hz rfl)
theorem bf_sum:dI X .sum (.builtin "sum"):=fun {n env ν C m loc σ R Φ E args us} hr k v h=>by
 obtain⟨a,xs,c,l,rfl,g,r,h1⟩:=oneL h v hr.rel
 obtain⟨ns,e,h2⟩:=h1.el
 exact sumK (C.ak hr.ok).handled hr.st.F (f9 X.h₀ σ.s.heap env.locals []) (aI g) (j7 e r) fun h' tk t' F' N'=>jt k hr h2 (.int _ _) (fun a o e q=>gh hr.st.F F' (fun p hp=>(N' p hp).1) a o e q not_nil) F'
theorem bf_int:dI X .int (.type "int"):=fun {n env ν C m loc σ R Φ E args us} hr k v h=>by
 obtain⟨a,u,rfl,x,h1⟩:=one h v
 obtain⟨b,rfl,h2⟩:=wBo.el (k:=fun b=>R (.int (if b then 1 else 0)) σ.H) h1
 rw[x.bool_inv]
 exact call_int_bool (cJ k hr h2 (.int _ _))
theorem zU:dI X .bytes (.type "bytes"):=fun {n env ν C m loc σ R Φ E args us} hr k v h=>by
 obtain⟨a,xs,c,l,rfl,g,r,h1⟩:=oneL h v hr.rel
 obtain⟨ns,e,h2⟩:=h1.el
 have hz:=h2.el.1
 have I:=j7 e r
 exact call_bytes_ints (aI g) I hz.2 (by have:=I.length;rw[sizeLine_eq];omega) (C.ak hr.ok).handled fun h' t c hk=>jt k hr h2.el.2 (.bytes _ _) (fun a o e _=>hk a o e) (Fr.ez hr.st.F hk)
end
end
section
open PyProof.Rows PySem.Calls PySem.W
set_option backward.match.sparseCases false
theorem fI(x:Int)(l:List Int):(insertSorted x l).Perm (x::l):=by
 induction l with
 |nil=>
  exact .refl _
 |cons y r ih=>
  rw[ed]
  split
  ·exact .refl _
  ·exact((ih).cons y).trans (.swap x y r)
theorem oj(l:List Int):(bO l).Perm l:=by
 induction l with
 |nil=>
  exact .refl _
 |cons x r ih=>
  exact(fI x _).trans ((ih).cons x)
theorem iM(x:Int)(l:List Int):l.Pairwise (· ≤·)→(insertSorted x l).Pairwise (· ≤·):=by
 induction l with
 |nil=>
  intro _
  exact List.pairwise_singleton _ _
 |cons y r ih=>
  intro h
  have h':=List.pairwise_cons.mp h
  rw[ed]
  split
  ·rename_i q
   refine List.pairwise_cons.mpr ⟨fun z hz=> ?_,h⟩
   rcases List.mem_cons.mp hz with rfl|hz
   ·exact q
   ·exact Int.le_trans q (h'.1 z hz)
  ·rename_i q
   refine List.pairwise_cons.mpr ⟨fun z hz=> ?_,ih h'.2⟩
   rcases List.mem_cons.mp ((fI x r).mem_iff.mp hz) with rfl|hz
   ·exact Int.le_of_lt (Int.not_le.mp q)
   ·exact h'.1 z hz
theorem ly(l:List Int):(bO l).Pairwise (· ≤·):=by
 induction l with
 |nil=>
  exact .nil
 |cons x r ih=>
  exact iM x _ (ih)
theorem om{a b:List Int}(p:a.Perm b)(s:a.Pairwise (· ≤·)):a=bO b:=
 List.Perm.eq_of_pairwise (fun _ _ _ _ h1 h2=>Int.le_antisymm h1 h2) s (ly b) (p.trans (oj b).symm)
theorem qV{h:Heap}{a:Addr}{sT:Array Value}{k:Nat}(g:h.get? a=some (lst sT k)):∀b,Value.ref a=.ref b→∃o,h.get? b=some o∧o.dict=none:=fun b e=>by cases e;exact⟨_,g,rfl⟩
theorem ft.mG{X:Cx}{W:Wd}{h:Heap}{a:Addr}{sT:Array Value}{k:Nat}{f:Array Value→Array Value}{ls:List PV}(g:h.get? a=some (lst sT k))(r:cM X W ls (f sT).toList):ft X W (h.update a (Obj.mapSeq f)) (a,a) (.list ls):=
 ⟨rfl,(f sT).toList,_,IsL.update (l:=a) g f,r⟩
theorem hF{h:Heap}{a:Addr}{f:Obj→Obj}:∀b o,h.get? b=some o→b≠a→(h.update a f).get? b=some o:=fun _ _ e q=>(Heap.get?_update_other h f (fun z=>q z.symm)).trans e
noncomputable def notStar(e:Expr):Bool:= !(e.ctorIdx == 22)
theorem aD{a:Expr}(h:notStar a=true)(es:List Expr)(env:Env):starEach (a::es) env=(false,eval a env)::starEach es env:=by
 cases a<;>first|rfl|cases h
section
variable {X:Cx}{P:ec}{n:Nat}{env:Env}{ν:Nu}{C:Ct X n env ν}{m:Str→Option Value}{loc:Loc}{σ ao:Pt}{A:Around}{s:Shared}{W:Wd}{H:aa}{L:Addr}{l:List Env}{E:Value→Shared→Prop}
theorem DR.keys{es:List (Int×PV)}{kvs:List (Int×Value)}(h:DR X W es kvs):es.map (·.1)=kvs.map (·.1):=by
 induction h with
 |nil=>rfl
 |cons _ _ ih=>exact congrArg _ ih
theorem DR.length{es:List (Int×PV)}{kvs:List (Int×Value)}(h:DR X W es kvs):es.length=kvs.length:=by
 induction h with
 |nil=>rfl
 |cons _ _ ih=>exact congrArg (· +1) ih
theorem xq{vs:List Value}:∀{ks:List Int},vs.length=ks.length→(∀(j:Nat) (v:Value),vs[j]? =some v→∃k t,ks[j]? =some k∧v=Value.int k t)→IntsAre vs ks:=by
 induction vs with
 |nil=>intro ks hl _;rw[List.eq_nil_of_length_eq_zero hl.symm];exact .nil
 |cons v vs ih=>
  intro ks hl h
  obtain⟨k',t,e,rfl⟩:=h 0 v rfl
  cases ks with
  |nil=>exact cj e
  |cons k ks=>
   cases e
   exact .cons _ _ (ih (Nat.succ.inj hl) fun j v e=>h (j+1) v e)
theorem vr_ints{vs:List Value}{ks:List Int}(h:IntsAre vs ks):cM X W (ks.map .int) vs:=by
 induction h with
 |nil=>exact .nil
 |cons i t _ ih=>exact .cons (.int i t) ih
theorem oneD{vs:List PV}{us:List Value}{k:List (Int×PV)→Prop}(h:w1 vs fun a=>dj a fun r=>w6 H r k)(v:cM X W vs us){hp:Heap}(R:HR X W H hp):∃a kvs l,us=[.ref a]∧(a == sysModules)=false∧hp.DictOf (intKind X.prog X.w) a kvs∧DR X W l kvs∧k l:=by
 revert X W H vs us k hp
 apply aN;intro
 generalize bM .. =X,bN .. =W,bQ .. =H,bR .. =vs
 apply aP;intro
 generalize bP .. =us,bS .. =k
 intro h v
 apply aJ;intro
 generalize nx .. =hp
 intro R
 obtain⟨a,u,rfl,x,h1⟩:=one h v
 obtain⟨r,rfl,h2⟩:=dj.el h1
 obtain⟨l,e,h3⟩:=w6.el h2
 obtain⟨a,kvs,rfl,_,sm,g,r⟩:=R.gC x e
 exact⟨a,kvs,l,rfl,sm,g,r,h3⟩
theorem xt:dI X .sorted (.builtin "sorted"):=fun {n env ν C m loc σ R Φ E args us} hr k v h=>by
 obtain⟨a,kvs,es,rfl,sm,dk,dr,h1⟩:=oneD h v hr.rel
 obtain⟨hz,h1⟩:=h1.el
 obtain⟨ep,dat⟩:=dk.dictAt
 have hlen:=dr.length
 have F:=hr.st.F
 refine kdu_sorted (kdl_dict (knd:=intKind X.prog X.w) (kvs:=kvs) (ep:=ep) sm) (C.ak hr.ok).handled F (f9 X.h₀ σ.s.heap env.locals []) dat (by rw[sizeLine_eq];exact hlen▸lu hz rfl) fun D h' tk vs F' N' l1 hvl hv=> ?_
 have hI:IntsAre vs (kvs.map (·.1)):=xq (by rw[hvl,List.length_map]) fun j v e=>by
  obtain⟨k,x,hx,hk⟩:=hv j v e
  obtain⟨t,rfl⟩:=Value.isInt_shape hk
  exact⟨k,t,by rw[List.getElem?_map,hx];rfl,rfl⟩
 obtain⟨hD,nL,n0⟩:=N' _ (.head _)
 have hD:h'.get? D=some (seqObj "list" vs.toArray 0):=hD
 refine wpAny_call_entry slot_list_sort ⟨_,hD,rfl⟩ entry_list_sort (list_sort_tree hD hI (by exact cB (Nat.lt_of_le_of_lt (Nat.le_of_eq (hvl.trans hlen.symm)) hz) rfl) fun out ns' a1 a2 a3=>⟨_,rfl,?_⟩) (args_list_sort _)
 obtain rfl:=om a2 a3
 have zV:σ.s.heap.get? D=none:=by
  cases q:σ.s.heap.get? D with
  |none=>rfl
  |some o=>exact absurd (l1 (D,o) (mB.mpr ⟨q,nL,not_nil,n0⟩)) (Nat.lt_irrefl _)
 obtain⟨c,hc⟩:=sortedHeap_at (vs:=vs) (out:=out) hD
 have old:∀a o,h'.get? a=some o→a≠D→(sortedHeap h' D vs out).get? a=some o:=fun a o e q=>by rw[sortedHeap_old q (Heap.lt_size e)];exact e
 have F2:Fr X.h₀ env.locals (sortedHeap h' D vs out) m:=by
  obtain⟨o,es',ep',g,r⟩:=F'.ns
  exact⟨⟨o,es',ep',old _ _ g (Ne.symm nL),r⟩,fun b o e=>old b o (F'.keep b o e) (fun z=>by rw[z,n0] at e;cases e),F'.above⟩
 rw[dr.keys] at h1
 exact zw (p:=(D,D)) k hr h1 (fun a o e q=>old a o (gh F F' (fun p hp=>(N' p (List.mem_cons_of_mem _ hp)).1) a o e q not_nil) (fun z=>by rw[z,zV] at e;cases e)) F2 zV zV ⟨rfl,out.toList,c,hc,vr_ints a1⟩
theorem zW{x y:Str}{T:String}{a:Expr}{ia:IE}{K:PV→aa→Prop}{Φ:Value→Shared→Prop}(p p2 pos:Pos)(ev:EnvOk env)(hx:env.kindOf x=some .globalImplicit)(hd:(x == ("__debug__":Str))=false)(e:nsIn X.K mainGlobals x=some none)(hv:bootBuiltins x=some (.builtin "isinstance"))(hn:x≠"__name__")
  (hy:env.kindOf y=some .globalImplicit) (hd2:(y == ("__debug__":Str))=false) (e2:nsIn X.K mainGlobals y=some none) (hv2:bootBuiltins y=some (.type T)) (hn2:y≠"__name__")
  (iL:starEach [a,.Name y p2] env=[(false,eval a env),(false,eval (.Name y p2) env)]) (ha:az X P n env ν a ia) (hr:Here C m loc σ) (h:wE P (aj P n) ia loc σ.H K fun k H=>C.E k loc H)
  (q:∀v u ae,Here C m loc ae→Le C.l env.locals σ ae→VR X ae.W v u→K v ae.H→wpAny X.M C.A (call (.builtin "isinstance") [u,.type T]) Φ C.Ψ ae.s):
  wpAny X.M C.A (eval (.Call (.Name x p) [a,.Name y p2] [] pos) env) Φ C.Ψ σ.s:=by
 have lP:(backTo pos (starEach [a,.Name y p2] env)).any (·.1)=false:=by rw[iL];rfl
 exact ef p pos ev hr hx hd e hv hn rfl lP (.inr ⟨_,_,iL⟩) (wpAny_items_cons (ha.ev C m loc σ K _ hr h fun v u ae au ay aK h=>wpAny_items_cons (zR p2 ev au hy hd2 e2 hv2 hn2 (wpAny_items_nil (q v u ae au ay aK h))) rfl) (by rw[iL];rfl))
theorem xu{x y:Str}{a:Expr}{ia:IE}(p p2 pos:Pos)(ev:EnvOk env)(hx:env.kindOf x=some .globalImplicit)(hd:(x == ("__debug__":Str))=false)(e:nsIn X.K mainGlobals x=some none)(hv:bootBuiltins x=some (.builtin "isinstance"))(hn:x≠"__name__")
  (hy:env.kindOf y=some .globalImplicit) (hd2:(y == ("__debug__":Str))=false) (e2:nsIn X.K mainGlobals y=some none) (hv2:bootBuiltins y=some (.type "int")) (hn2:y≠"__name__")
  (iL:starEach [a,.Name y p2] env=[(false,eval a env),(false,eval (.Name y p2) env)]) (ha:az X P n env ν a ia):az X P n env ν (.Call (.Name x p) [a,.Name y p2] [] pos) (.isInt ia):=
 .ofV (fun C m loc σ R Φ hr h k=>zW p p2 pos ev hx hd e hv hn hy hd2 e2 hv2 hn2 iL ha hr h fun v u ae au ay aK h=>by
  cases v with
  |int i=>obtain⟨t,rfl⟩:=aK.int_inv;exact IsiPair.int_int (gz (k.le ay) au h (.bool _))
  |bool b=>rw[aK.bool_inv];exact IsiPair.bool_int (gz (k.le ay) au h (.bool _))
  |_=>exact h.elim) id
theorem td{x y:Str}{a:Expr}{ia:IE}(p p2 pos:Pos)(ev:EnvOk env)(hx:env.kindOf x=some .globalImplicit)(hd:(x == ("__debug__":Str))=false)(e:nsIn X.K mainGlobals x=some none)(hv:bootBuiltins x=some (.builtin "isinstance"))(hn:x≠"__name__")
  (hy:env.kindOf y=some .globalImplicit) (hd2:(y == ("__debug__":Str))=false) (e2:nsIn X.K mainGlobals y=some none) (hv2:bootBuiltins y=some (.type "bool")) (hn2:y≠"__name__")
  (iL:starEach [a,.Name y p2] env=[(false,eval a env),(false,eval (.Name y p2) env)]) (ha:az X P n env ν a ia):az X P n env ν (.Call (.Name x p) [a,.Name y p2] [] pos) (.isBool ia):=
 .ofV (fun C m loc σ R Φ hr h k=>zW p p2 pos ev hx hd e hv hn hy hd2 e2 hv2 hn2 iL ha hr h fun v u ae au ay aK h=>by
  cases v with
  |int i=>obtain⟨t,rfl⟩:=aK.int_inv;exact IsiPair.int_bool (cJ (k.le ay) au h (.bool _))
  |bool b=>rw[aK.bool_inv];exact IsiPair.bool_bool (gz (k.le ay) au h (.bool _))
  |_=>exact h.elim) id
def BTy(X:Cx)(env:Env)(y:Str)(T:String):Prop:=env.kindOf y=some .globalImplicit∧(y == ("__debug__":Str))=false∧nsIn X.K mainGlobals y=some none∧bootBuiltins y=some (.type T)∧y≠"__name__"
theorem xv{x y1 y2 y3 y4:Str}{a:Expr}{ia:IE}{tk:Nat}(p p1 p2 p3 p4 p5 pos:Pos)(ev:EnvOk env)(hx:env.kindOf x=some .globalImplicit)(hd:(x == ("__debug__":Str))=false)(e:nsIn X.K mainGlobals x=some none)(hv:bootBuiltins x=some (.builtin "isinstance"))(hn:x≠"__name__")
  (h1:BTy X env y1 "bytes") (h2:BTy X env y2 "bytearray") (h3:BTy X env y3 "list") (h4:BTy X env y4 "tuple")
  (iL:starEach [a,.Tuple [.Name y1 p1,.Name y2 p2,.Name y3 p3,.Name y4 p4] tk p5] env=[(false,eval a env),(false,eval (.Tuple [.Name y1 p1,.Name y2 p2,.Name y3 p3,.Name y4 p4] tk p5) env)]) (ha:az X P n env ν a ia):
  az X P n env ν (.Call (.Name x p) [a,.Tuple [.Name y1 p1,.Name y2 p2,.Name y3 p3,.Name y4 p4] tk p5] [] pos) (.gY ia):=
 .ofV (fun C m loc σ R Φ hr h k=>by
  have lP:(backTo pos (starEach [a,.Tuple [.Name y1 p1,.Name y2 p2,.Name y3 p3,.Name y4 p4] tk p5] env)).any (·.1)=false:=by rw[iL];rfl
  refine ef p pos ev hr hx hd e hv hn rfl lP (.inr ⟨_,_,iL⟩) (wpAny_items_cons (ha.ev C m loc σ _ _ hr h fun x u ae au ay aK h=> ?_) (by rw[iL];rfl))
  have nB:∀{y T Q} p,BTy X env y T→Q (.type T) ae.s→wpAny X.M C.A (eval (.Name y p) env) Q C.Ψ ae.s:=fun p t q=>zR p ev au t.1 t.2.1 t.2.2.1 t.2.2.2.1 t.2.2.2.2 q
  refine wpAny_items_cons (wpAny_Tuple (wpAny_items_cons (nB p1 h1 (wpAny_items_cons (nB p2 h2 (wpAny_items_cons (nB p3 h3 (wpAny_items_cons (nB p4 h4 (wpAny_items_nil ⟨by rw[sizeLine_eq];decide,wpAny_items_nil ?_⟩)) rfl)) rfl)) rfl)) rfl)) rfl
  obtain⟨i,rfl,h5⟩:=dj.el h
  obtain⟨l,e1,h6⟩:=wL.el (k:=fun _=>R (.bool true) ae.H) h5
  obtain⟨q,vs,c,rfl,_,g,_⟩:=au.rel.cI aK e1
  have hk:=cu ae.s.heap {cls:=.type "tuple",data:=.seq [.type "bytes",.type "bytearray",.type "list",.type "tuple"].toArray}
  refine IsiPair.tupleOf (Tx:="list") (vs:=[false,false,true,false]) (cs:=[.type "bytes",.type "bytearray",.type "list",.type "tuple"]) ?_ (aI (hk _ _ g)).typeIs (Heap.get?_push_size _ rfl) fun tk=>jt (k.le ay) au h6 (.bool true) (fun a o e _=>hk a o e) (Fr.ez au.st.F hk)
  exact AnswersAll.cons (Answers.of_false_list (by decide) (by rfl) (by rfl)) (AnswersAll.cons (Answers.of_false_list (by decide) (by rfl) (by rfl)) (AnswersAll.cons (Answers.of_true (by rfl) (by rfl)) (AnswersAll.cons (Answers.of_false_list (by decide) (by rfl) (by rfl)) AnswersAll.nil)))) id
noncomputable def ck(e:Expr):Bool:= !(e.ctorIdx == 16)
theorem base_of{o:Expr}(h:ck o=true)(x:Str)(w:Sem Value):attributeBase o x env w=w:=by
 cases o<;>first|rfl|cases h
theorem uZ{o:Expr}{name:Str}{es:List Expr}{Q:Value→Shared→Prop}(apos pos:Pos)(hb:ck o=true)(hl:(apos.endLine == pos.line)=true)(hn:es.length<30)(lP:(backTo pos (starEach es env)).all (!·.1)=true)
  (h:wpAny X.M A (eval o env) (fun ov bc=>∀pl,wpAny X.M A (getMethod ov name pl) (fun fx eQ=>wpAny X.M A (callWith pos fx.1 fx.2 (backTo pos (starEach es env)) []) Q E eQ) E bc) E s):
  wpAny X.M A (eval (.Call (.Attribute o name apos) es [] pos) env) Q E s:=by
 have few:methodCallForm (es.length+0) (backTo pos (starEach es env)) (backToKw pos (keywordEach [] env))=true:=by
  unfold methodCallForm
  rw[lP]
  show(true && true && decide (es.length+0+0<30))=true
  simp[hn]
 have he:eval (.Call (.Attribute o name apos) es [] pos) env=(do
   let ov ←attributeBase o name env (eval o env)
   standAt apos.atName
   methodCall o name apos pos env ov (es.length+0) (backTo pos (starEach es env)) (backToKw pos (keywordEach [] env))):=rfl
 rw[he,base_of hb]
 refine wpAny_bind (wpAny_mono h (fun ov bc h₁=>wpAny_bind (wpAny_standAt ?_)) fun _ _ x=>x)
 unfold methodCall
 rw[few]
 refine wpAny_bind (wpAny_holding (wpAny_mono (h₁ _) (fun fx eQ d7=> ?_) fun _ _ x=>x))
 have hp:methodCallPos true o env apos pos=pure pos:=by unfold methodCallPos;rw[hl];rfl
 show wpAny X.M A (methodCallPos true o env apos pos >>= _) _ _ _
 rw[hp]
 exact wpAny_bind (wpAny_pure d7)
def Plain(env:Env)(es:List Expr):Prop:=∀pos,(backTo pos (starEach es env)).any (·.1)=false
theorem jy{o:Expr}{name:Str}{es:List Expr}{T:String}{id:String}{Q:Value→Shared→Prop}(apos pos:Pos)(hb:ck o=true)(hl:(apos.endLine == pos.line)=true)(hn:es.length<30)(lP:(backTo pos (starEach es env)).all (!·.1)=true)
  (hp:(backTo pos (starEach es env)).any (·.1)=false) (iL:∃y rest,starEach es env=(false,y)::rest) (pa:PlainAttrs T) (slot:Slot T name id) (ty:typeOf (.builtin id)=pure (.type "method_descriptor"))
  (h:wpAny X.M A (eval o env) (fun ov bc=>bc.TypeIs ov T∧(∀a,ov=.ref a→∃o,bc.heap.get? a=some o∧o.dict=none)∧wpAny X.M A (spliced (backTo pos (starEach es env))) (fun vs eQ=>wpAny X.M A (call (.builtin id) (ov::vs)) Q E eQ) E bc) E s):
  wpAny X.M A (eval (.Call (.Attribute o name apos) es [] pos) env) Q E s:=by
 refine uZ apos pos hb hl hn lP (wpAny_mono h (fun ov bc h₁ pl=> ?_) fun _ _ x=>x)
 obtain⟨h1,h2,h3⟩:=h₁
 refine getMethod_builtin h1 pa slot ty h2 ?_
 refine callWith_of (P:=fun _=>True) (by rw[hp];rfl) (fun h _=>g9 (v:=.builtin id) rfl h) ?_
 have main:wpAny X.M A (spliced (backTo pos (starEach es env))) (fun vs bc=>True∧wpAny X.M A (call (.builtin id) ([ov]++vs)) Q E bc) E bc:=wpAny_mono h3 (fun _ _ z=>⟨trivial,z⟩) fun _ _ z=>z
 obtain⟨y,rest,iL⟩:=iL
 rw[iL] at main ⊢
 exact evalArgs_plain main
theorem mH{R:PV→aa→Prop}{Φ:Value→Shared→Prop}{v:PV}{u:Value}{i:Nat}{a:Addr}{sT:Array Value}{c tk:Nat}{f:Array Value→Array Value}{ls:List PV}(k:Good C m loc σ (VR X) R Φ)(hr:Here C m loc σ)(e:σ.W.φ[i]? =some (a,a))(g:σ.s.heap.get? a=some (lst sT c))(h:R v (σ.H.set i (.list ls)))(r:cM X σ.W ls (f sT).toList)(q:VR X σ.W v u):
  Φ u {σ.s with heap:=σ.s.heap.update a (Obj.mapSeq f),toks:=tk}:=
 okWrite k hr e h q (fun b o e n _=>hF b o e n) (.mG g r)
theorem kh{o a:Expr}{es:List Expr}{io:IE}{name:Str}{id:String}{K:Nat→List PV→aa→Prop}{Φ:Value→Shared→Prop}(apos pos:Pos)(hb:ck o=true)(hl:(apos.endLine == pos.line)=true)(hn:(a::es).length<30)(lP:(backTo pos (starEach (a::es) env)).all (!·.1)=true)
  (hp:(backTo pos (starEach (a::es) env)).any (·.1)=false) (iL:∃y rest,starEach (a::es) env=(false,y)::rest) (slot:Slot "list" name id) (ty:typeOf (.builtin id)=pure (.type "method_descriptor")) (ho:az X P n env ν o io) (hr:Here C m loc σ)
  (h:wE P (aj P n) io loc σ.H (fun r H=>dj r fun r=>wL H r fun l=>K r l H) fun k H=>C.E k loc H)
  (q:∀r l x ae,Here C m loc ae→Le C.l env.locals σ ae→VR X ae.W (.ref r) (.ref x)→K r l ae.H→wpAny X.M C.A (spliced (backTo pos (starEach (a::es) env))) (fun vs eQ=>wpAny X.M C.A (call (.builtin id) (.ref x::vs)) Φ C.Ψ eQ) C.Ψ ae.s):
  wpAny X.M C.A (eval (.Call (.Attribute o name apos) (a::es) [] pos) env) Φ C.Ψ σ.s:=
 jy apos pos hb hl hn lP hp iL PySem.F.plainAttrs_list slot ty (ho.ev C m loc σ _ _ hr h fun v u ae au ay aK h=>by
  obtain⟨r,rfl,h1⟩:=dj.el h
  obtain⟨l,e,h2⟩:=wL.el h1
  obtain⟨x,vs,c,rfl,hp,g,rr⟩:=au.rel.cI aK e
  exact⟨(aI g).typeIs,qV g,q r l x ae au ay aK h2⟩)
theorem HR.here(hr:Here C m loc σ){i:Nat}{x:Addr}{l:List PV}(v:VR X σ.W (.ref i) (.ref x))(e:σ.H[i]? =some (.list l)):∃vs c,σ.W.φ[i]? =some (x,x)∧σ.s.heap.get? x=some (lst vs.toArray c)∧cM X σ.W l vs:=by
 obtain⟨a,vs,c,e1,hp,g,r⟩:=hr.rel.cI v e
 cases e1
 exact⟨vs,c,hp,g,r⟩
theorem HR.hereD(hr:Here C m loc σ){i:Nat}{x:Addr}{l:List (Int×PV)}(v:VR X σ.W (.ref i) (.ref x))(e:σ.H[i]? =some (.aW l)):∃kvs,(x == sysModules)=false∧σ.s.heap.DictOf (intKind X.prog X.w) x kvs∧DR X σ.W l kvs:=by
 obtain⟨a,kvs,e1,hp,sm,g,r⟩:=hr.rel.gC v e
 cases e1
 exact⟨kvs,sm,g,r⟩
theorem te{o a:Expr}{io ia:IE}(apos pos:Pos)(hb:ck o=true)(hl:(apos.endLine == pos.line)=true)(sa:notStar a=true)(ho:az X P n env ν o io)(ha:az X P n env ν a ia):
  az X P n env ν (.Call (.Attribute o "append" apos) [a] [] pos) (.append io ia):=
 .of (fun C m loc σ R Φ hr h k=>kh apos pos hb hl (Nat.le_of_ble_eq_true rfl) (by rw[aD sa];rfl) (by rw[aD sa];rfl) ⟨_,_,aD sa _ _⟩ PySem.F.slot_list_append PySem.F.type_list_append ho hr h fun r _ x ae au ay aK h=>
  wpAny_items_cons (ha.ev C m loc ae _ _ au h fun v u ao aC aG bU h=>wpAny_items_nil (by
   obtain⟨l,e,h1⟩:=wL.el h
   obtain⟨vs,c,hp,g,rr⟩:=HR.here aC (aK.up aG) e
   have hlen:=rr.length
   have hz:=h1.el.1
   refine call_meets PySem.F.slot_list_append (aI g).typeIs PySem.F.entry_list_append (PySem.F.args_list_append_2 _ _) (list_append x vs.toArray c u (by rw[List.size_toArray,sizeLine_eq];exact hlen▸lu hz rfl)) ⟨g,?_⟩
   exact mH (k.le (ay.trans aG)) aC hp g h1.el.2 (by simpa using rr.append (.cons bU .nil)) .none)) (aD sa _ _)) id
theorem tf{o a:Expr}{io ia:IE}(apos pos:Pos)(hb:ck o=true)(hl:(apos.endLine == pos.line)=true)(sa:notStar a=true)(ho:az X P n env ν o io)(ha:az X P n env ν a ia):
  az X P n env ν (.Call (.Attribute o "extend" apos) [a] [] pos) (.extend io ia):=
 .of (fun C m loc σ R Φ hr h k=>kh apos pos hb hl (Nat.le_of_ble_eq_true rfl) (by rw[aD sa];rfl) (by rw[aD sa];rfl) ⟨_,_,aD sa _ _⟩ PySem.F.slot_list_extend PySem.F.type_list_extend ho hr h fun r _ x ae au ay aK h=>
  wpAny_items_cons (ha.ev C m loc ae _ _ au h fun v u ao aC aG bU h=>wpAny_items_nil (by
   obtain⟨t,rfl,h0⟩:=dj.el h
   obtain⟨l,e,h1⟩:=wL.el h0
   obtain⟨l',e',h2⟩:=wL.el h1
   obtain⟨vs,c,hp,g,rr⟩:=HR.here aC (aK.up aG) e
   obtain⟨b,vs',c',rfl,B8,g',rr'⟩:=aC.rel.cI bU e'
   have hlen:=rr.length
   have hlen':=rr'.length
   have hz:=h2.el.1
   have B9:vs.toArray.size+vs'.toArray.size≤sizeLine:=by rw[List.size_toArray,List.size_toArray,sizeLine_eq];exact ar92 hlen hlen' hz
   refine call_meets PySem.F.slot_list_extend (aI g).typeIs PySem.F.entry_list_extend (PySem.F.args_list_extend_2 _ _) (AutoSeq1.list_extend_list_list_0 x vs.toArray c b vs'.toArray c' (extend_door B9) (Nat.le_trans (Nat.le_add_right _ _) B9) (Nat.le_succ_of_le B9)) ⟨g,g',?_⟩
   exact mH (f:=fun x=>x++vs'.toArray) (k.le (ay.trans aG)) aC hp g h2.el.2 (by simpa using rr.append rr') .none)) (aD sa _ _)) id
theorem th{o a b:Expr}{io ia ib:IE}(apos pos:Pos)(hb:ck o=true)(hl:(apos.endLine == pos.line)=true)(sa:notStar a=true)(sb:notStar b=true)(ho:az X P n env ν o io)(ha:az X P n env ν a ia)(hB:az X P n env ν b ib):
  az X P n env ν (.Call (.Attribute o "insert" apos) [a,b] [] pos) (.insert io ia ib):=
 .of (fun C m loc σ R Φ hr h k=>kh apos pos hb hl (Nat.le_of_ble_eq_true rfl) (by rw[aD sa,aD sb];rfl) (by rw[aD sa,aD sb];rfl) ⟨_,_,aD sa _ _⟩ PySem.F.slot_list_insert PySem.F.type_list_insert ho hr h fun r _ x ae au ay aK h=>
  wpAny_items_cons (ha.ev C m loc ae _ _ au h fun j w ao aC aG bU h=>wpAny_items_cons (hB.ev C m loc ao _ _ aC h fun v u fH bW cK j8 h=>wpAny_items_nil (by
   obtain⟨j,rfl,h0⟩:=wI.el h
   obtain⟨l,e,h1⟩:=wL.el h0
   obtain⟨t,rfl⟩:=bU.int_inv
   obtain⟨vs,c,hp,g,rr⟩:=HR.here bW ((aK.up aG).up cK) e
   have hlen:=rr.length
   have hz:=h1.el.1
   have hf:Builtin.List.listFitsIndex j=true:=by unfold Builtin.List.listFitsIndex;simp;exact ar93 hz
   refine call_meets PySem.F.slot_list_insert (aI g).typeIs PySem.F.entry_list_insert (PySem.F.args_list_insert_3 _ _ _) (AutoSeq1.list_insert_list_int_val_1 x vs.toArray c j t u (by rw[hf];decide) (by rw[List.size_toArray,sizeLine_eq];exact hlen▸lu hz.2.2 rfl)) ⟨g,?_⟩
   refine mH (k.le ((ay.trans aG).trans cK)) bW hp g h1.el.2 ?_ .none
   have hj:¬j<0:=by exact Int.not_lt_of_ge hz.1
   have hm:min j.toNat vs.length=j.toNat:=by exact ar97 hlen hz
   have:((have k:=if j<0 then(j+(vs.toArray.size:Int)).toNat else min j.toNat vs.toArray.size;(vs.toArray.extract 0 k).push u++vs.toArray.extract k:Array Value)).toList=vs.take j.toNat++u::vs.drop j.toNat:=by
    dsimp only
    rw[if_neg hj,List.size_toArray,hm]
    simp
    exact List.take_of_length_le (by simp)
   rw[this]
   exact(rr.take _).append (.cons j8 (rr.drop _)))) (aD sb _ _)) (aD sa _ _)) id
theorem DR.get{es:List (Int×PV)}{kvs:List (Int×Value)}(r:DR X W es kvs)(k:Int){d:PV}{u:Value}(vr:VR X W d u):VR X W ((ey k es).getD d) ((valueAt kvs k).getD u):=by
 have:=r.look k
 split at this
 ·rename_i v hv
  obtain⟨w,e,x⟩:=this
  rw[hv,e];exact x
 ·rename_i hv
  rw[hv,this];exact vr
theorem qW{o a:Expr}{es:List Expr}{io:IE}{K:Nat→aa→Prop}{Φ:Value→Shared→Prop}(apos pos:Pos)(hb:ck o=true)(hl:(apos.endLine == pos.line)=true)(hn:(a::es).length<30)(lP:(backTo pos (starEach (a::es) env)).all (!·.1)=true)
  (hp:(backTo pos (starEach (a::es) env)).any (·.1)=false) (iL:∃y rest,starEach (a::es) env=(false,y)::rest) (ho:az X P n env ν o io) (hr:Here C m loc σ)
  (h:wE P (aj P n) io loc σ.H (fun r H=>dj r fun r=>w6 H r fun _=>K r H) fun k H=>C.E k loc H)
  (q:∀r x ae,Here C m loc ae→Le C.l env.locals σ ae→VR X ae.W (.ref r) (.ref x)→K r ae.H→wpAny X.M C.A (spliced (backTo pos (starEach (a::es) env))) (fun vs eQ=>wpAny X.M C.A (call (.builtin "dict.get") (.ref x::vs)) Φ C.Ψ eQ) C.Ψ ae.s):
  wpAny X.M C.A (eval (.Call (.Attribute o "get" apos) (a::es) [] pos) env) Φ C.Ψ σ.s:=
 jy apos pos hb hl hn lP hp iL PySem.F.plainAttrs_dict PySem.F.slot_dict_get PySem.F.type_dict_get (ho.ev C m loc σ _ _ hr h fun v u ae au ay aK h=>by
  obtain⟨r,rfl,h1⟩:=dj.el h
  obtain⟨l,e,h2⟩:=w6.el (k:=fun _=>K r ae.H) h1
  obtain⟨x,kvs,rfl,hp,sm,g,rr⟩:=au.rel.gC aK e
  exact⟨g.typeIs,g.mapOf.noDict,q r x ae au ay aK h2⟩)
theorem zX{o a:Expr}{io ia:IE}(apos pos:Pos)(hb:ck o=true)(hl:(apos.endLine == pos.line)=true)(sa:notStar a=true)(ho:az X P n env ν o io)(ha:az X P n env ν a ia):
  az X P n env ν (.Call (.Attribute o "get" apos) [a] [] pos) (.zl io ia):=
 .of (fun C m loc σ R Φ hr h k=>qW apos pos hb hl (Nat.le_of_ble_eq_true rfl) (by rw[aD sa];rfl) (by rw[aD sa];rfl) ⟨_,_,aD sa _ _⟩ ho hr h fun r x ae au ay aK h=>
  wpAny_items_cons (ha.ev C m loc ae _ _ au h fun v u ao aC aG bU h=>wpAny_items_nil (by
   obtain⟨j,rfl,h0⟩:=wI.el h
   obtain⟨l,e,h1⟩:=w6.el h0
   obtain⟨kvs,sm,g,rr⟩:=HR.hereD aC (aK.up aG) e
   obtain⟨t,rfl⟩:=bU.int_inv
   exact call_meetsIn PySem.F.slot_dict_get g.typeIs PySem.F.entry_dict_get (PySem.F.args_dict_get_2 _ _) (meets_dict_get (intKind X.prog X.w) (k:=j) x (by simp[intKind,Value.isInt]) sm) ⟨_,g.mapOf,cJ (Φ:=Φ) (u:=(valueAt kvs j).getD .none) (k.le (ay.trans aG)) aC h1 (rr.get j .none)⟩)) (aD sa _ _)) id
theorem zY{o a b:Expr}{io ia ib:IE}(apos pos:Pos)(hb:ck o=true)(hl:(apos.endLine == pos.line)=true)(sa:notStar a=true)(sb:notStar b=true)(ho:az X P n env ν o io)(ha:az X P n env ν a ia)(hB:az X P n env ν b ib):
  az X P n env ν (.Call (.Attribute o "get" apos) [a,b] [] pos) (.zm io ia ib):=
 .of (fun C m loc σ R Φ hr h k=>qW apos pos hb hl (Nat.le_of_ble_eq_true rfl) (by rw[aD sa,aD sb];rfl) (by rw[aD sa,aD sb];rfl) ⟨_,_,aD sa _ _⟩ ho hr h fun r x ae au ay aK h=>
  wpAny_items_cons (ha.ev C m loc ae _ _ au h fun j w ao aC aG bU h=>wpAny_items_cons (hB.ev C m loc ao _ _ aC h fun v u fH bW cK j8 h=>wpAny_items_nil (by
   obtain⟨j,rfl,h0⟩:=wI.el h
   obtain⟨l,e,h1⟩:=w6.el h0
   obtain⟨kvs,sm,g,rr⟩:=HR.hereD bW ((aK.up aG).up cK) e
   obtain⟨t,rfl⟩:=bU.int_inv
   exact call_meetsIn PySem.F.slot_dict_get g.typeIs PySem.F.entry_dict_get (PySem.F.args_dict_get_3 _ _ _) (meets_dict_get_default (intKind X.prog X.w) (k:=j) x (by simp[intKind,Value.isInt]) sm _) ⟨_,g.mapOf,cJ (Φ:=Φ) (u:=(valueAt kvs j).getD u) (k.le ((ay.trans aG).trans cK)) bW h1 (rr.get j j8)⟩)) (aD sb _ _)) (aD sa _ _)) id
theorem xw{o:Expr}{name:Str}{es:List Expr}{io:IE}{c:Nat}{dO:jU}(apos pos:Pos)(pk:n9 X P)(co:dS X P n)(hk:X.nm c=name)(hb:ck o=true)(hl:(apos.endLine == pos.line)=true)(hn:es.length<30)(lP:(backTo pos (starEach es env)).all (!·.1)=true)
  (hp:(backTo pos (starEach es env)).any (·.1)=false) (fy:es=[]∨∃y rest,starEach es env=(false,y)::rest) (ho:az X P n env ν o io) (hs:gQ X P n env ν es dO):
  az X P n env ν (.Call (.Attribute o name apos) es [] pos) (.l8 io c dO):=by
 revert X P n env ν o name es io c dO apos pos
 apply aT;intro
 generalize bX .. =X,bY .. =P,bZ .. =n,b7 .. =env,cv .. =ν,cw .. =o,cx .. =name,cy .. =es
 apply aN;intro
 generalize bM .. =io,bN .. =c,bQ .. =dO,bR .. =apos
 apply aJ;intro
 generalize nx .. =pos
 intro pk co hk hb hl hn lP hp fy ho hs
 subst hk
 refine .of (fun C m loc σ R Φ hr h k=>uZ apos pos hb hl hn lP (ho.ev C m loc σ _ _ hr h fun v u ae au ay aK h pl=> ?_)) id
 obtain⟨f,hf,h1⟩:=h.el
 cases v with
 |ref i=>
  have hf:(match ae.H[i]? with
   |some (.inst d fs)=>if(bB c fs).isSome then none else(bB d P.pK).bind fun k=>bB c k.meths
   |_=>none)=some f:=hf
  split at hf
  ·rename_i d fs hi
   split at hf
   ·cases hf
   rename_i hfs
   obtain⟨kr,hkr,hm⟩:=Option.bind_eq_some_iff.mp hf
   obtain⟨p,rfl,B8,⟨kn,j6⟩,g,mi,N,mr⟩:=au.rel.atR aK hi
   obtain⟨hk,hfi,hfn,hkeep⟩:=(pk.recs d kr hkr).meth c f hm
   obtain⟨od,god,hl⟩:=j9 N.ns
   have K:=pk.cls d kn
   have M:=mr c hk
   have hfs:bB c fs=none:=Option.not_isSome_iff_eq_none.mp hfs
   rw[hfs] at M
   refine method_fn au.rel.yO (sY g god) (plainGet_of (K.plain c)).1 (plainGet_of (K.plain c)).2 hfi (beq_iff_eq.mp hfn) (by show(lookIn (X.nm c) od).map _=_;rw[hl,M];rfl) ?_
   exact callWith_of (P:=X.K.In) (by rw[hp];rfl) (keeps_K hkeep) (pO fy (hs pos C m loc ae _ _ au h1 fun ys us ao aC aG bU h=>⟨aC.rel.yO,cS.wp (K:=nE) aC (k.le (ay.trans aG)) (fun _ z=>z.elim) (co f C.A C.l ao.s ao.W ao.H (.ref i::ys) (.ref p.1::us) R _ (Wc.el h) aC.rel (Fr.zQ aC.st.F) aC.st.fr (.cons (aK.up aG) bU) (C.ak hr.ok).call)⟩))
  ·cases hf
 |_=>cases hf
end
end
section
open PyProof.Rows PySem.Calls PySem.W
set_option backward.match.sparseCases false
set_option genInjectivity false
section
variable {X:Cx}{P:ec}{n:Nat}{env:Env}{ν:Nu}{C:Ct X n env ν}{m:Str→Option Value}{loc:Loc}{σ gi ao:Pt}{A:Around}{s:Shared}{W W':Wd}{H:aa}{h h' g:Heap}{L:Addr}{l:List Env}{E:Value→Shared→Prop}
structure ZD where
 TI:Addr
 TO:Addr
 i1:Addr
 i2:Addr
 a1:Addr
 a2:Addr
 x:Value
 y:Value
instance:Nonempty ZD:=⟨⟨0,0,0,0,0,0,.none,.none⟩⟩
structure qX(X:Cx)(W:Wd)(h:Heap)(r t k:Nat)(z:Addr)(fp:List Addr)(d:ZD):Prop where
 fp:fp=[z,d.TI,d.TO,d.i1,d.i2]
 hz:IsZip h z d.TI d.TO .none
 h1:IsPair h d.TI (.ref d.i1) (.ref d.i2)
 h2:IsPair h d.TO d.x d.y
 h3:h.IsListIter d.i1 d.a1 k
 h4:h.IsListIter d.i2 d.a2 k
 n1:d.TI≠d.TO
 n2:d.i1≠d.i2
 v1:VR X W (.ref r) (.ref d.a1)
 v2:VR X W (.ref t) (.ref d.a2)
def It(X:Cx)(W:Wd)(h:Heap):Src→Nat→Addr→List Addr→Prop
 |.fixed l,k,I,fp=>fp=[I]∧((∃t,h.IsTupleIter I t k∧VR X W (.tup l) (.ref t))∨∃c:Int,l=dp c∧IsRangeIter h I (k:Int) (((c.toNat:Nat):Int) - (k:Int)) 1)
 |.live r,k,I,fp=>fp=[I]∧∃a,h.IsListIter I a k∧VR X W (.ref r) (.ref a)
 |.enum r,k,e,fp=>∃I a old,fp=[e,I]∧IsEnum h e I (k:Int) old∧h.IsListIter I a k∧e≠I∧VR X W (.ref r) (.ref a)
 |.zip r t,k,z,fp=>∃d:ZD,qX X W h r t k z fp d
theorem in1{a b:Addr}(h:a∈[b]):a=b:=List.mem_singleton.mp h
theorem all5{p:Addr→Prop}{a b c d e:Addr}(h1:p a)(h2:p b)(h3:p c)(h4:p d)(h5:p e):∀x∈[a,b,c,d,e],p x:=fun x hx=>by
 rcases List.mem_cons.mp hx with rfl|hx
 ·exact h1
 rcases List.mem_cons.mp hx with rfl|hx
 ·exact h2
 rcases List.mem_cons.mp hx with rfl|hx
 ·exact h3
 rcases List.mem_cons.mp hx with rfl|hx
 ·exact h4
 ·rw[in1 hx];exact h5
theorem gF{I a k:Nat}(x:h.IsListIter I a k):∃o,h.get? I=some o:=x.elim fun o z=>⟨o,z.1⟩
theorem ti{I a k:Nat}(x:h.IsTupleIter I a k):∃o,h.get? I=some o:=x.elim fun o z=>⟨o,z.1⟩
theorem It.live{src:Src}{k:Nat}{I:Addr}{fp:List Addr}(x:It X W h src k I fp):∀a∈fp,∃o,h.get? a=some o:=by
 cases src with
 |fixed l=>
  obtain⟨rfl,⟨t,hi,_⟩|⟨c,_,hi⟩⟩:=x
  ·intro a ha;rw[in1 ha];exact ti hi
  ·intro a ha;rw[in1 ha];exact⟨_,hi⟩
 |live r=>obtain⟨rfl,t,hi,_⟩:=x;intro a ha;rw[in1 ha];exact gF hi
 |enum r=>
  obtain⟨I,a,old,rfl,he,hi,_⟩:=x
  intro a ha
  rcases List.mem_cons.mp ha with rfl|ha
  ·exact⟨_,he⟩
  ·rw[in1 ha];exact gF hi
 |zip r t=>
  obtain⟨d,z⟩:=x
  rw[z.fp]
  exact all5 ⟨_,z.hz⟩ ⟨_,z.h1⟩ ⟨_,z.h2⟩ (gF z.h3) (gF z.h4)
theorem tj{h h':Heap}{a t i:Nat}(x:Heap.IsTupleIter h a t i)(e:∀o,h.get? a=some o→h'.get? a=some o):Heap.IsTupleIter h' a t i:=let⟨o,ho,r⟩:=x;⟨o,e _ ho,r⟩
theorem It.mono{src:Src}{k:Nat}{I:Addr}{fp:List Addr}(x:It X W h src k I fp)(S:Ext W g W')(hk:∀a∈fp,∀o,h.get? a=some o→h'.get? a=some o):It X W' h' src k I fp:=by
 cases src with
 |fixed l=>
  obtain⟨rfl,⟨t,hi,v⟩|⟨c,e,hi⟩⟩:=x
  ·exact⟨rfl,.inl ⟨t,tj hi (hk _ (.head _)),v.mono S⟩⟩
  ·exact⟨rfl,.inr ⟨c,e,hk _ (.head _) _ hi⟩⟩
 |live r=>obtain⟨rfl,t,hi,v⟩:=x;exact⟨rfl,t,hi.at (hk _ (.head _)),v.mono S⟩
 |enum r=>obtain⟨I,a,old,rfl,he,hi,ne,v⟩:=x;exact⟨I,a,old,rfl,hk _ (.head _) _ he,hi.at (hk _ (.tail _ (.head _))),ne,v.mono S⟩
 |zip r t=>
  obtain⟨d,z⟩:=x
  have sF:∀a∈[I,d.TI,d.TO,d.i1,d.i2],∀o,h.get? a=some o→h'.get? a=some o:=z.fp▸hk
  exact⟨d,z.fp,sF _ (.head _) _ z.hz,sF _ (.tail _ (.head _)) _ z.h1,sF _ (.tail _ (.tail _ (.head _))) _ z.h2,z.h3.at (sF _ (.tail _ (.tail _ (.tail _ (.head _))))),z.h4.at (sF _ (.tail _ (.tail _ (.tail _ (.tail _ (.head _)))))),z.n1,z.n2,z.v1.mono S,z.v2.mono S⟩
def OffW(W:Wd)(l:List Env)(L:Addr)(fp:List Addr):Prop:=∀a∈fp,¬Own W a∧W.B a=none∧a≠L∧a∉Fs l
structure Nx(C:Ct X n env ν)(m:Str→Option Value)(fp:List Addr)(σ ao:Pt):Prop where
 ext:Ext σ.W σ.s.heap ao.W
 keep:∀a o,σ.s.heap.get? a=some o→a∉fp→ao.s.heap.get? a=some o
 st:St X C.l ao.W ao.H env.locals m ao.s
 same:g8 σ.s ao.s
 H:ao.H=σ.H
theorem Step.mod{W ct fu:Wd}{h h₁:Heap}(S:Step l L W h ct h₁){Z:List Addr}(hz:∀a∈Z,h.get? a=none)(E:Ext ct h₁ fu)(hk:∀a o,h₁.get? a=some o→a∉Z→h'.get? a=some o):Step l L W h fu h':=by
 have out:∀a o,h.get? a=some o→a∉Z:=fun a o e z=>by rw[hz a z] at e;cases e
 refine⟨S.toExt.trans S.live E,fun a o e n1 n2 n3=>hk a o (S.keep a o e n1 n2 n3) (out a o e),fun a o e n1 n2=> ?_,fun a o e=> ?_⟩
 ·obtain⟨sl,e'⟩:=S.slots a o e n1 n2
  exact⟨sl,hk a _ e' (out a o e)⟩
 ·obtain⟨o',e'⟩:=S.live a o e
  exact⟨o',hk a _ e' (out a o e)⟩
theorem Le.dead(x:Le l L gi σ){a:Addr}(d:σ.s.heap.get? a=none):gi.s.heap.get? a=none:=by
 cases q:gi.s.heap.get? a with
 |none=>rfl
 |some o=>obtain⟨o',e⟩:=x.step.live a o q;rw[d] at e;cases e
theorem Nx.le{fp:List Addr}(N:Nx C m fp σ ao)(x:Le C.l env.locals gi σ)(d:∀a∈fp,gi.s.heap.get? a=none):Le C.l env.locals gi ao:=⟨x.step.mod d N.ext N.keep,x.same.trans N.same⟩
theorem Nx.here{fp:List Addr}(N:Nx C m fp σ ao)(hr:Here C m loc σ)(x:Le C.l env.locals C.B gi)(d:∀a∈fp,gi.s.heap.get? a=none):Here C m loc ao:=⟨N.st,hr.lr.mono N.ext,N.le hr.le fun a ha=>x.dead (d a ha),hr.ok⟩
theorem HR.u4(R:HR X W H h){fp:List Addr}(off:∀a∈fp,¬Own W a∧W.B a=none)(hk:∀a o,h.get? a=some o→a∉fp→h'.get? a=some o):HR X W H h':=by
 refine⟨R.len,fun i p o e e'=> ?_,R.apart,fun a o e=>hk a o (R.frozen a o e) (fun z=>by have:=(off a z).2;rw[e] at this;cases this),R.off,R.base,R.ok⟩
 have hp:p∈W.φ:=List.mem_of_getElem? e
 exact(R.objs i p o e e').mono (.refl W h) (fun o z=>hk _ _ z fun q=>(off _ q).1 ⟨p,hp,.inl rfl⟩) (fun o z=>hk _ _ z fun q=>(off _ q).1 ⟨p,hp,.inr rfl⟩)
theorem gj{fp:List Addr}{tk:Nat}(hr:Here C m loc σ)(off:OffW σ.W C.l env.locals fp)(hk:∀a o,σ.s.heap.get? a=some o→a∉fp→h'.get? a=some o):Nx C m fp σ ⟨{σ.s with heap:=h',toks:=tk},σ.W,σ.H⟩:=by
 revert X n env ν C m loc σ h' fp tk
 apply aN;intro
 generalize bM .. =X,bN .. =n,bQ .. =env,bR .. =ν
 apply aJ;intro
 generalize nx .. =C
 apply aN;intro
 generalize bM .. =m,bN .. =loc,bQ .. =σ,bR .. =h'
 apply aP;intro
 generalize bP .. =fp,bS .. =tk
 intro hr off hk
 have F':Fr X.h₀ env.locals h' m:=by
  obtain⟨o,es,ep,g,r⟩:=hr.st.F.ns
  refine⟨⟨o,es,ep,hk _ _ g fun z=>(off _ z).2.2.1 rfl,r⟩,fun b o e=>hk b o (hr.st.F.keep b o e) fun z=> ?_,hr.st.F.above⟩
  have:=(off b z).2.1
  rw[hr.rel.base b o e] at this;cases this
 refine⟨.refl σ.W _,hk,⟨F',hr.rel.u4 (fun a z=>⟨(off a z).1,(off a z).2.1⟩) hk,hr.st.dz,hr.st.dR,?_⟩,⟨rfl,rfl,rfl⟩,rfl⟩
 apply aJ;intro
 generalize nx .. =en
 intro he
 obtain⟨lQ,L',o',g1,g2,g3,g4,g5⟩:=hr.st.fr en he
 exact⟨lQ,L',o',g1,g2,g3,hk _ _ g4 fun z=>(off _ z).2.2.2 (List.mem_filterMap.mpr ⟨en,he,g1⟩),g5⟩
theorem HR.icy(R:HR X W H h){a:Addr}{o:Obj}(d:W.B a=none)(no:¬Own W a)(ha:h.get? a=some o)(E:Ext W g (W.freeze a o)):HR X (W.freeze a o) H h:=by
 have old:∀{b},b≠a→(W.freeze a o).B b=W.B b:=fun n=>if_neg n
 refine⟨R.len,fun i p o' e e'=>(R.objs i p o' e e').mono E (fun _ z=>z) (fun _ z=>z),R.apart,fun b o' e=> ?_,fun p hp=> ?_,fun b o' e=>E.B _ _ (R.base b o' e),R.ok⟩
 ·by_cases q:b=a
  ·subst q;rw[Wd.iE] at e;cases e;exact ha
  ·rw[old q] at e;exact R.frozen b o' e
 ·have:=R.off p hp
  exact⟨(old fun z=>no ⟨p,hp,.inl z.symm⟩).trans this.1,(old fun z=>no ⟨p,hp,.inr z.symm⟩).trans this.2⟩
theorem oP{fp:List Addr}{tk:Nat}{a:Addr}{o:Obj}(hr:Here C m loc σ)(off:OffW σ.W C.l env.locals fp)(hk:∀a o,σ.s.heap.get? a=some o→a∉fp→h'.get? a=some o)(d:σ.s.heap.get? a=none)(ha:h'.get? a=some o):
  Nx C m fp σ ⟨{σ.s with heap:=h',toks:=tk},σ.W.freeze a o,σ.H⟩:=by
 revert X n env ν C m loc σ h' fp tk a o
 apply aN;intro
 generalize bM .. =X,bN .. =n,bQ .. =env,bR .. =ν
 apply aJ;intro
 generalize nx .. =C
 apply aT;intro
 generalize bX .. =m,bY .. =loc,bZ .. =σ,b7 .. =h',cv .. =fp,cw .. =tk,cx .. =a,cy .. =o
 intro hr off hk d ha
 have x:=gj (tk:=tk) hr off hk
 have E:=Ext.freeze σ.W (o:=o) d (hr.rel.dead d)
 obtain⟨oL,eL⟩:=Fr.live hr.st.F
 refine⟨E,hk,⟨x.st.F,x.st.R.icy (hr.rel.dead d) (hr.fresh d).1 ha E,E.dz eL hr.st.dz,E.own eL hr.st.dR,?_⟩,⟨rfl,rfl,rfl⟩,rfl⟩
 apply aJ;intro
 generalize nx .. =en
 intro he
 obtain⟨lQ,L',o',g1,g2,g3,g4,g5⟩:=x.st.fr en he
 obtain⟨_,L'',o'',f1,f2,f3,f4,f5⟩:=hr.st.fr en he
 rw[g1] at f1;cases f1
 exact⟨lQ,L',o',g1,E.dz f4 f2,E.own f4 f3,g4,g5⟩
noncomputable def du(e:Expr):Bool:=e.ctorIdx == 25
noncomputable def cm(e:Expr):Bool:=e.ctorIdx == 23
theorem go_name{t:Expr}(h:cm t=true)(it v:Value):letOwnedTupleGo t it v=pure ():=by
 cases t<;>first|rfl|cases h
theorem mI{t:Expr}{I:Addr}{o:Obj}{v:Value}{Q:Unit→Shared→Prop}{c:String}(ht:cm t=true∨du t=true)(hI:s.heap.get? I=some o)(hc:o.cls=.type c)(hn:["enumerate","zip","dict_itemiterator","dict_reverseitemiterator","odict_iterator","itertools.zip_longest","itertools.pairwise"].contains c=false)(q:Q () s):
  wpAny X.M A (letOwnedTupleGo t (.ref I) v) Q E s:=by
 rcases ht with ht|ht
 ·rw[go_name ht];exact wpAny_pure q
 ·cases t<;>first|(cases ht;done)|skip
  cases v<;>first|exact wpAny_pure q|skip
  rename_i a
  unfold letOwnedTupleGo
  refine wpAny_bind (wpAny_load hI ?_)
  obtain⟨oc,od,odt,os⟩:=o
  cases hc
  cases odt<;>first|exact wpAny_pure q|skip
  dsimp only
  rw[hn]
  exact wpAny_pure q
theorem hG(c:Int)(k:Nat):(dp c)[k]? =if k<c.toNat then some (.int (k:Int)) else none:=by
 unfold dp
 rw[List.getElem?_map]
 split
 ·rename_i q;rw[List.getElem?_range q];rfl
 ·rename_i q;rw[List.getElem?_eq_none (by simp;exact Int.toNat_le.mp (Nat.not_lt.mp q))];rfl
theorem hJ{a b:Addr}{oa ob:Obj}(ha:h.get? a=some oa)(hb:h.get? b=some ob)(q:oa.cls≠ob.cls):a≠b:=by
 rintro rfl
 rw[ha] at hb;cases hb
 exact q rfl
theorem qY{a b:Addr}(z:a∉[b]):a≠b:=fun q=>z (by rw[q];exact .head _)
theorem jz{l:List PV}{vs:List Value}{k:Nat}(r:cM X W l vs)(e:l[k]? =none):vs.toArray[k]? =none:=by
 rw[List.getElem?_toArray];rw[List.getElem?_eq_none_iff] at e ⊢;rw[←r.length];exact e
theorem cP{H:aa}{r:Nat}{x:List PV}(e:listAt H r=some x):H[r]? =some (.list x):=by
 unfold listAt at e;split at e
 ·rename_i q;cases e;exact q
 ·cases e
theorem zZ{z TI TO i1 i2 a1 a2 k:Nat}{x y:Value}(hz:IsZip h z TI TO .none)(h1:IsPair h TI (.ref i1) (.ref i2))(h2:IsPair h TO x y)(h3:h.IsListIter i1 a1 k)(h4:h.IsListIter i2 a2 k)(n1:TI≠TO)(n2:i1≠i2)(q:∀b∈[z,TI,TO,i1,i2],a1≠b∧a2≠b):ZipApart z TI TO i1 i2 a1 a2:=by
 obtain⟨o3,g3,c3,d3⟩:=id h3
 obtain⟨o4,g4,c4,d4⟩:=id h4
 have m0:=q z (.head _)
 have m2:=q TO (.tail _ (.tail _ (.head _)))
 have m3:=q i1 (.tail _ (.tail _ (.tail _ (.head _))))
 have m4:=q i2 (.tail _ (.tail _ (.tail _ (.tail _ (.head _)))))
 constructor<;>first|exact n1|exact n2|exact m0.1|exact m2.1|exact m3.1|exact m4.1|exact m0.2|exact m2.2|exact m3.2|exact m4.2|skip
 ·exact hJ h1 hz (by simp)
 ·exact hJ h2 hz (by simp)
 ·exact hJ g3 hz (by rw[c3];simp)
 ·exact hJ g4 hz (by rw[c4];simp)
 ·exact hJ h1 g3 (by rw[c3];simp)
 ·exact hJ h1 g4 (by rw[c4];simp)
 ·exact hJ h2 g3 (by rw[c3];simp)
 ·exact hJ h2 g4 (by rw[c4];simp)
theorem u5{a:Addr}{r:Nat}{fp:List Addr}(hr:Here C m loc σ)(off:OffW σ.W C.l env.locals fp)(v:VR X σ.W (.ref r) (.ref a)):∀b∈fp,a≠b:=fun b hb z=>by
 obtain⟨p,hp,e⟩:=v.ju
 cases e
 exact(off b hb).1 ⟨p,List.mem_of_getElem? hp,.inl z.symm⟩
theorem qX.apart{r t k:Nat}{z:Addr}{fp:List Addr}{d:ZD}(x:qX X σ.W σ.s.heap r t k z fp d)(hr:Here C m loc σ)(off:OffW σ.W C.l env.locals fp):ZipApart z d.TI d.TO d.i1 d.i2 d.a1 d.a2:=
 zZ x.hz x.h1 x.h2 x.h3 x.h4 x.n1 x.n2 (x.fp▸fun b hb=>⟨u5 hr off x.v1 b hb,u5 hr off x.v2 b hb⟩)
theorem qX.out{r t k:Nat}{z:Addr}{fp:List Addr}{d:ZD}(x:qX X σ.W σ.s.heap r t k z fp d){a:Addr}(h:a∉fp):a≠z∧a≠d.TO∧a≠d.i1∧a≠d.i2:=by
 rw[x.fp] at h
 exact⟨fun w=>h (by rw[w];exact .head _),fun w=>h (by rw[w];exact .tail _ (.tail _ (.head _))),fun w=>h (by rw[w];exact .tail _ (.tail _ (.tail _ (.head _)))),fun w=>h (by rw[w];exact .tail _ (.tail _ (.tail _ (.tail _ (.head _)))))⟩
theorem zip_get{ls ms:List PV}{k:Nat}{r:Option PV}(g:(match ls[k]?,ms[k]? with
  |some a,some b=>some (.tup [a,b])
  |_,_=>none)=r):(∃a b,ls[k]? =some a∧ms[k]? =some b∧r=some (.tup [a,b]))∨((ls[k]? =none∨ms[k]? =none)∧r=none):=by
 cases h1:ls[k]? with
 |none=>rw[h1] at g;exact .inr ⟨.inl rfl,g.symm⟩
 |some a=>
  cases h2:ms[k]? with
  |none=>rw[h1,h2] at g;exact .inr ⟨.inr rfl,g.symm⟩
  |some b=>rw[h1,h2] at g;exact .inl ⟨a,b,rfl,rfl,g.symm⟩
variable {Q:Option Value→Shared→Prop}{k:Nat}{I:Addr}{fp:List Addr}{v:PV}{target:Expr}
theorem xx{l:List PV}(x:It X σ.W σ.s.heap (.fixed l) k I fp)(hr:Here C m loc σ)(off:OffW σ.W C.l env.locals fp)(g:l[k]? =none)
  (q:∀h',Nx C m fp σ ⟨{σ.s with heap:=h',toks:=σ.s.toks},σ.W,σ.H⟩→Q none {σ.s with heap:=h'}):wpAny X.M C.A (pyNext (.ref I)) Q E σ.s:=by
 have hh:=(C.ak hr.ok).handled
 obtain⟨rfl,⟨t,hi,v⟩|⟨c,rfl,hi⟩⟩:=x
 ·obtain⟨a,vs,e,hT,vr⟩:=fG hr.rel v
  cases e
  exact wpAny_pyNext_tuple_end hh hi (show σ.s.heap.IsTuple t vs.toArray from hT) (jz vr g) fun h₁ he=>q h₁ (gj hr off fun a o e z=>he _ _ (qY z) e)
 ·rw[hG] at g
  split at g
  ·cases g
  ·exact wpAny_pyNext_range_end hh hi (by exact Int.sub_nonpos_of_le (Int.ofNat_le.mpr (Nat.not_lt.mp ‹_›))) fun h₁ he=>q h₁ (gj hr off fun a o e z=>he _ _ (qY z) e)
theorem z4{r:Nat}(x:It X σ.W σ.s.heap (.live r) k I fp)(hr:Here C m loc σ)(off:OffW σ.W C.l env.locals fp)(g:(Src.live r).get σ.H k=some none)
  (q:∀h',Nx C m fp σ ⟨{σ.s with heap:=h',toks:=σ.s.toks},σ.W,σ.H⟩→Q none {σ.s with heap:=h'}):wpAny X.M C.A (pyNext (.ref I)) Q E σ.s:=by
 obtain⟨ls,z6,g⟩:=Option.map_eq_some_iff.mp g
 obtain⟨rfl,a,hi,v⟩:=x
 obtain⟨vs,c,hp,gl,vr⟩:=HR.here hr v (cP z6)
 exact wpAny_pyNext_list_end (C.ak hr.ok).handled hi (aI gl) (jz vr g) fun h₁ he=>q h₁ (gj hr off fun a o e z=>he _ _ (qY z) e)
theorem z7{r:Nat}(x:It X σ.W σ.s.heap (.enum r) k I fp)(hr:Here C m loc σ)(off:OffW σ.W C.l env.locals fp)(g:(Src.enum r).get σ.H k=some none)
  (q:∀h',Nx C m fp σ ⟨{σ.s with heap:=h',toks:=σ.s.toks},σ.W,σ.H⟩→Q none {σ.s with heap:=h'}):wpAny X.M C.A (pyNext (.ref I)) Q E σ.s:=by
 obtain⟨ls,z6,g⟩:=Option.map_eq_some_iff.mp g
 obtain⟨J,a,old,rfl,he,hi,ne,v⟩:=x
 obtain⟨vs,c,hp,gl,vr⟩:=HR.here hr v (cP z6)
 exact wpAny_pyNext_enum_end (C.ak hr.ok).handled he hi (aI gl) (jz vr (Option.map_eq_none_iff.mp g)) fun h₁ hq=>q h₁ (gj hr off fun a o e z=>hq _ _ (fun w=>z (by rw[w];exact .tail _ (.head _))) e)
theorem end_zip{r t:Nat}(x:It X σ.W σ.s.heap (.zip r t) k I fp)(hr:Here C m loc σ)(off:OffW σ.W C.l env.locals fp)(g:(Src.zip r t).get σ.H k=some none)
  (q:∀h',Nx C m fp σ ⟨{σ.s with heap:=h',toks:=σ.s.toks},σ.W,σ.H⟩→Q none {σ.s with heap:=h'}):wpAny X.M C.A (pyNext (.ref I)) Q E σ.s:=by
 obtain⟨ls,z6,g⟩:=Option.bind_eq_some_iff.mp g
 obtain⟨ms,hms,g⟩:=Option.map_eq_some_iff.mp g
 obtain⟨d,x⟩:=x
 obtain⟨vs,c,hp,gl,vr⟩:=HR.here hr x.v1 (cP z6)
 obtain⟨us,c',B8,gl',vr'⟩:=HR.here hr x.v2 (cP hms)
 refine wpAny_pyNext_zip_end (C.ak hr.ok).handled (x.apart hr off) x.hz x.h1 x.h2 x.h3 x.h4 (aI gl) (aI gl') ?_ fun h₁ hq=>q h₁ (gj hr off fun a o e z=>have w:=x.out z;hq _ _ w.1 w.2.1 w.2.2.1 w.2.2.2 e)
 rcases zip_get g with⟨_,_,_,_,z⟩|⟨z,_⟩
 ·cases z
 ·exact z.imp (jz vr) (jz vr')
theorem z9{src:Src}(x:It X σ.W σ.s.heap src k I fp)(hr:Here C m loc σ)(off:OffW σ.W C.l env.locals fp)(g:src.get σ.H k=some none)
  (q:∀h',Nx C m fp σ ⟨{σ.s with heap:=h',toks:=σ.s.toks},σ.W,σ.H⟩→Q none {σ.s with heap:=h'}):wpAny X.M C.A (pyNext (.ref I)) Q E σ.s:=by
 cases src with
 |fixed l=>exact xx x hr off (Option.some.inj g) q
 |live r=>exact z4 x hr off g q
 |enum r=>exact z7 x hr off g q
 |zip r t=>exact end_zip x hr off g q
def ItK(C:Ct X n env ν)(m:Str→Option Value)(fp:List Addr)(σ:Pt)(src:Src)(k:Nat)(I:Addr)(target:Expr)(v:PV)(E:Value→Shared→Prop)(Q:Option Value→Shared→Prop):Prop:=
 ∀u bc,(∀Q':Unit→Shared→Prop,(∀ao,Nx C m fp σ ao→VR X ao.W v u→It X ao.W ao.s.heap src (k+1) I fp→Q' () ao.s)→wpAny X.M C.A (letOwnedTupleGo target (.ref I) u) Q' E bc)→Q (some u) bc
theorem tm{l:List PV}(Ca:cm target=true∨du target=true)(x:It X σ.W σ.s.heap (.fixed l) k I fp)(hr:Here C m loc σ)(off:OffW σ.W C.l env.locals fp)(g:l[k]? =some v)(q:ItK C m fp σ (.fixed l) k I target v E Q):wpAny X.M C.A (pyNext (.ref I)) Q E σ.s:=by
 obtain⟨rfl,⟨t,hi,vt⟩|⟨c,rfl,hi⟩⟩:=x
 ·obtain⟨a,vs,e,hT,vr⟩:=fG hr.rel vt
  cases e
  obtain⟨u,hu,vu⟩:=vr.get g
  refine wpAny_pyNext_tuple_item hi (show σ.s.heap.IsTuple t vs.toArray from hT) (by rw[List.getElem?_toArray];exact hu) fun h₁ hO qZ=>q u _ fun Q' z=> ?_
  obtain⟨o₁,e₁,c₁,_⟩:=id hO
  exact mI (s:={σ.s with heap:=h₁}) Ca e₁ c₁ (by decide) (z ⟨{σ.s with heap:=h₁,toks:=σ.s.toks},σ.W,σ.H⟩ (gj hr off fun a o e z=>(qZ.2 _ (qY z)).trans e) vu ⟨rfl,.inl ⟨t,hO,vt⟩⟩)
 ·rw[hG] at g
  split at g
  ·rename_i sG
   cases g
   refine wpAny_pyNext_range_item hi (by exact Int.sub_pos_of_lt (Int.ofNat_lt.mpr sG)) fun h₁ hO qZ=>q _ _ fun Q' z=> ?_
   have e1:((k:Int)+1)=((k+1:Nat):Int):=rfl
   have e2:(((c.toNat:Nat):Int) - (k:Int)) - 1=((c.toNat:Nat):Int) - ((k+1:Nat):Int):=by lia
   rw[e1,e2] at hO
   exact mI (s:={σ.s with heap:=h₁,toks:=σ.s.toks+1}) Ca hO rfl (by decide) (z ⟨{σ.s with heap:=h₁,toks:=σ.s.toks+1},σ.W,σ.H⟩ (gj hr off fun a o e z=>(qZ.2 _ (qY z)).trans e) (.int _ _) ⟨rfl,.inr ⟨c,rfl,hO⟩⟩)
  ·cases g
theorem xy{r:Nat}(Ca:cm target=true∨du target=true)(x:It X σ.W σ.s.heap (.live r) k I fp)(hr:Here C m loc σ)(off:OffW σ.W C.l env.locals fp)(g:(Src.live r).get σ.H k=some (some v))(q:ItK C m fp σ (.live r) k I target v E Q):wpAny X.M C.A (pyNext (.ref I)) Q E σ.s:=by
 obtain⟨ls,z6,g⟩:=Option.map_eq_some_iff.mp g
 obtain⟨rfl,a,hi,va⟩:=x
 obtain⟨vs,c,hp,gl,vr⟩:=HR.here hr va (cP z6)
 obtain⟨u,hu,vu⟩:=vr.get g
 refine wpAny_pyNext_list_item hi (aI gl) (by rw[List.getElem?_toArray];exact hu) fun h₁ hO qZ=>q u _ fun Q' z=> ?_
 obtain⟨o₁,e₁,c₁,_⟩:=id hO
 exact mI (s:={σ.s with heap:=h₁}) Ca e₁ c₁ (by decide) (z ⟨{σ.s with heap:=h₁,toks:=σ.s.toks},σ.W,σ.H⟩ (gj hr off fun a o e z=>(qZ.2 _ (qY z)).trans e) vu ⟨rfl,a,hO,va⟩)
theorem xA{r:Nat}(ht:du target=true)(x:It X σ.W σ.s.heap (.enum r) k I fp)(hr:Here C m loc σ)(off:OffW σ.W C.l env.locals fp)(g:(Src.enum r).get σ.H k=some (some v))(q:ItK C m fp σ (.enum r) k I target v E Q):wpAny X.M C.A (pyNext (.ref I)) Q E σ.s:=by
 obtain⟨ls,z6,g⟩:=Option.map_eq_some_iff.mp g
 obtain⟨w,g1,rfl⟩:=Option.map_eq_some_iff.mp g
 obtain⟨J,a,old,rfl,he,hi,ne,va⟩:=x
 obtain⟨vs,c,hp,gl,vr⟩:=HR.here hr va (cP z6)
 obtain⟨u,hu,vu⟩:=vr.get g1
 cases target<;>first|(cases ht;done)|skip
 refine wpAny_pyNext_enum_item he hi (aI gl) (by rw[List.getElem?_toArray];exact hu) ne fun h₁ he₁ hO ht₁ hz₁ u6=>q _ _ fun Q' z=>wpAny_letOwnedTupleGo_enum he₁ fun d7 he₂ fJ=> ?_
 have fJ:Heap.SameBut I h₁ d7:=fJ
 have Aa:d7.get? σ.s.heap.objs.size=some {cls:=.type "tuple",data:=.seq #[.int k σ.s.toks,u]}:=(fJ.2 _ (Nat.ne_of_gt (Heap.lt_size he))).trans ht₁
 have N:=oP (tk:=σ.s.toks+1) hr off (fun b o e z=>(fJ.2 _ (fun w=>z (by rw[w];exact .head _))).trans (u6 b o (fun w=>z (by rw[w];exact .head _)) (fun w=>z (by rw[w];exact .tail _ (.head _))) e)) (aV _) Aa
 exact z _ N (.tup _ σ.s.heap.objs.size _ 0 [.int k σ.s.toks,u] (Wd.iE _ _ _) rfl rfl (.cons (.int _ _) (.cons (vu.mono N.ext) .nil))) ⟨J,a,u,rfl,he₂,hO.extBut fJ.extBut (Ne.symm ne),ne,va.mono N.ext⟩
theorem Ab{r t:Nat}(ht:du target=true)(x:It X σ.W σ.s.heap (.zip r t) k I fp)(hr:Here C m loc σ)(off:OffW σ.W C.l env.locals fp)(g:(Src.zip r t).get σ.H k=some (some v))(q:ItK C m fp σ (.zip r t) k I target v E Q):wpAny X.M C.A (pyNext (.ref I)) Q E σ.s:=by
 revert X n env ν C m loc σ E Q k I fp v target r t
 apply aN;intro
 generalize bM .. =X,bN .. =n,bQ .. =env,bR .. =ν
 apply aJ;intro
 generalize nx .. =C
 apply aT;intro
 generalize bX .. =m,bY .. =loc,bZ .. =σ,b7 .. =E,cv .. =Q,cw .. =k,cx .. =I,cy .. =fp
 apply aN;intro
 generalize bM .. =v,bN .. =target,bQ .. =r,bR .. =t
 intro ht x hr off g q
 obtain⟨ls,z6,g⟩:=Option.bind_eq_some_iff.mp g
 obtain⟨ms,hms,g⟩:=Option.map_eq_some_iff.mp g
 obtain⟨d,x⟩:=x
 obtain⟨vs,c,hp,gl,vr⟩:=HR.here hr x.v1 (cP z6)
 obtain⟨us,c',B8,gl',vr'⟩:=HR.here hr x.v2 (cP hms)
 have D:=x.apart hr off
 cases target<;>first|(cases ht;done)|skip
 rcases zip_get g with⟨w1,w2,hw1,hw2,z⟩|⟨_,z⟩
 ·cases z
  obtain⟨u1,hu1,vu1⟩:=vr.get hw1
  obtain⟨u2,hu2,vu2⟩:=vr'.get hw2
  refine wpAny_pyNext_zip_item D x.hz x.h1 x.h2 x.h3 x.h4 (aI gl) (aI gl') (by rw[List.getElem?_toArray];exact hu1) (by rw[List.getElem?_toArray];exact hu2) fun h₁ hz₁ hO₁ b1 b2 hp₁ B9 u6=>q _ _ fun Q' z=>wpAny_letOwnedTupleGo_zip hz₁ fun d7 hz₂ fJ=> ?_
  have fJ:Heap.SameBut I h₁ d7:=fJ
  have Aa:d7.get? σ.s.heap.objs.size=some {cls:=.type "tuple",data:=.seq #[u1,u2]}:=(fJ.2 _ (Nat.ne_of_gt (Heap.lt_size x.hz))).trans hp₁
  have N:=oP (tk:=σ.s.toks) hr off (fun b o e z=>have w:=x.out z;(fJ.2 _ w.1).trans (u6 b o w.1 w.2.1 w.2.2.1 w.2.2.2 e)) (aV _) Aa
  exact z _ N (.tup _ σ.s.heap.objs.size _ 0 [u1,u2] (Wd.iE _ _ _) rfl rfl (.cons (vu1.mono N.ext) (.cons (vu2.mono N.ext) .nil)))
   ⟨⟨d.TI,d.TO,d.i1,d.i2,d.a1,d.a2,u1,u2⟩,x.fp,hz₂,(fJ.2 _ D.TIz).trans (u6 _ _ D.TIz D.TITO D.TIi1 D.TIi2 x.h1),(fJ.2 _ D.TOz).trans hO₁,b1.extBut fJ.extBut D.i1z,b2.extBut fJ.extBut D.i2z,x.n1,x.n2,x.v1.mono N.ext,x.v2.mono N.ext⟩
 ·cases z
theorem u7{src:Src}(x:It X σ.W σ.s.heap src k I fp)(hr:Here C m loc σ)(off:OffW σ.W C.l env.locals fp)(ht:du target=true∨(cm target=true∧∀r t,src≠.enum r∧src≠.zip r t))(g:src.get σ.H k=some (some v))(q:ItK C m fp σ src k I target v E Q):wpAny X.M C.A (pyNext (.ref I)) Q E σ.s:=by
 have Ca:cm target=true∨du target=true:=ht.elim .inr fun z=>.inl z.1
 cases src with
 |fixed l=>exact tm Ca x hr off (Option.some.inj g) q
 |live r=>exact xy Ca x hr off g q
 |enum r=>exact xA (ht.elim id fun z=>absurd rfl (z.2 r 0).1) x hr off g q
 |zip r t=>exact Ab (ht.elim id fun z=>absurd rfl (z.2 r t).2) x hr off g q
end
noncomputable def cW:gZ→Bool
 |.enum _=>false
 |.zip .. =>false
 |_=>true
def pP(src:Src):Prop:=∀r t,src≠.enum r∧src≠.zip r t
section
variable {X:Cx}{P:ec}{n:Nat}{env:Env}{ν:Nu}{C:Ct X n env ν}{m:Str→Option Value}{loc:Loc}{σ gi ae ao:Pt}{A:Around}{s:Shared}{W W':Wd}{H:aa}{h h' g:Heap}{L:Addr}{l:List Env}{E:Value→Shared→Prop}
def SrcK(C:Ct X n env ν)(m:Str→Option Value)(loc:Loc)(σ:Pt)(is:gZ)(R:Src→aa→Prop)(Φ:Value→Shared→Prop):Prop:=
 ∀src I fp bo,Here C m loc bo→Le C.l env.locals σ bo→It X bo.W bo.s.heap src 0 I fp→OffW bo.W C.l env.locals fp→(∀a∈fp,σ.s.heap.get? a=none)→(cW is=true→pP src)→R src bo.H→Φ (.ref I) bo.s
def dJ(X:Cx)(P:ec)(n:Nat)(env:Env)(ν:Nu)(e:Expr)(is:gZ):Prop:=
 ∀(C:Ct X n env ν) m loc σ R Φ,Here C m loc σ→wSrc P (aj P n) is loc σ.H R (fun k H=>C.E k loc H)→SrcK C m loc σ is R Φ→wpAny X.M C.A (eval e env) (fun v bc=>wpAny X.M C.A (pyIter v) Φ C.Ψ bc) C.Ψ σ.s
theorem Here.off(hr:Here C m loc σ){fp:List Addr}(d:∀a∈fp,σ.s.heap.get? a=none):OffW σ.W C.l env.locals fp:=fun a ha=>hr.fresh (d a ha)
theorem jA{src:Src}{I:Addr}{fp:List Addr}{tk:Nat}{is:gZ}{R:Src→aa→Prop}{Φ:Value→Shared→Prop}(q:SrcK C m loc σ is R Φ)(hr:Here C m loc ae)(le:Le C.l env.locals σ ae)(hk:∀a o,ae.s.heap.get? a=some o→h'.get? a=some o)(d:∀a∈fp,ae.s.heap.get? a=none)(it:It X ae.W h' src 0 I fp)(pl:cW is=true→pP src)(h:R src ae.H):
  Φ (.ref I) {ae.s with heap:=h',toks:=tk}:=
 have z:=hr.ez (tk:=tk) (fun a o e _=>hk a o e) (Fr.ez hr.st.F hk)
 q src I fp _ z.1 (le.trans z.2) it (hr.off d) (fun a ha=>le.dead (d a ha)) pl h
theorem tn{e:Expr}{ie:IE}(he:az X P n env ν e ie):dJ X P n env ν e (.items ie):=fun C m loc σ R Φ hr h q=>he.ev C m loc σ _ _ hr h fun v u ae au ay aK h=>by
 have d:∀a∈[ae.s.heap.objs.size],ae.s.heap.get? a=none:=fun a ha=>by rw[in1 ha];exact aV _
 cases v with
 |tup l=>
  obtain⟨a,vs,rfl,hT,vr⟩:=fG au.rel aK
  exact wpAny_pyIter_tuple (show ae.s.heap.IsTuple a vs.toArray from hT) (jA (src:=.fixed l) (tk:=ae.s.toks) q au ay (cu _ _) d ⟨rfl,.inl ⟨a,⟨_,Heap.get?_push_size _ rfl,rfl,rfl⟩,aK⟩⟩ (fun _ _ _=>⟨nofun,nofun⟩) (WG.el h).2)
 |ref r=>
  obtain⟨l,e,h1⟩:=wL.el h
  obtain⟨a,vs,c,rfl,hp,g,vr⟩:=au.rel.cI aK e
  exact wpAny_pyIter_list (aI g) (jA (src:=.live r) (tk:=ae.s.toks) q au ay (cu _ _) d ⟨rfl,a,⟨_,Heap.get?_push_size _ rfl,rfl,rfl⟩,aK⟩ (fun _ _ _=>⟨nofun,nofun⟩) h1.el.2)
 |_=>exact h.elim
theorem q6{x:Str}{v:Value}{a:Expr}{Q:Value→Shared→Prop}(p pos:Pos)(ev:EnvOk env)(hr:Here C m loc σ)(hx:env.kindOf x=some .globalImplicit)(hd:(x == ("__debug__":Str))=false)(e:nsIn X.K mainGlobals x=some none)(hv:bootBuiltins x=some v)(hn:x≠"__name__")
  (hrf:notRef v=true) (sa:notStar a=true) (h:wpAny X.M A (eval a env) (fun u bc=>wpAny X.M A (call v [u]) Q E bc) E σ.s):wpAny X.M A (eval (.Call (.Name x p) [a] [] pos) env) Q E σ.s:=
 ef p pos ev hr hx hd e hv hn hrf (by rw[aD sa];rfl) (.inr ⟨_,_,aD sa _ _⟩) (wpAny_items_cons (wpAny_mono h (fun _ _ z=>wpAny_items_nil z) fun _ _ z=>z) (aD sa _ _))
theorem dY(h:Heap)(k:Nat):h.get? (h.objs.size+k)=none:=by
 cases q:h.get? (h.objs.size+k) with
 |none=>rfl
 |some o=>exact absurd (Heap.lt_size q) (Nat.not_lt.mpr (Nat.le_add_right _ _))
theorem tq{x:Str}{a:Expr}{ia:IE}(p pos:Pos)(ev:EnvOk env)(hx:env.kindOf x=some .globalImplicit)(hd:(x == ("__debug__":Str))=false)(e:nsIn X.K mainGlobals x=some none)(hv:bootBuiltins x=some (.type "range"))(hn:x≠"__name__")(sa:notStar a=true)(ha:az X P n env ν a ia):
  dJ X P n env ν (.Call (.Name x p) [a] [] pos) (.range ia):=fun C m loc σ R Φ hr h q=>q6 p pos ev hr hx hd e hv hn rfl sa (ha.ev C m loc σ _ _ hr h fun v u ae au ay aK h=>by
 obtain⟨c,rfl,h1⟩:=wI.el h
 obtain⟨t,rfl⟩:=aK.int_inv
 have hc:=h1.el.1
 refine call_range_1 (wpAny_pyIter_range (IsRange.new ae.s.heap 0 c 1 _ _ _) (small_one (by decide) (by decide) (by exact ji hc.1 rfl) (by exact vV hc.2 rfl)) ?_)
 refine jA (src:=.fixed (dp c)) (tk:=ae.s.toks+1+1) (fp:=[(ae.s.heap.push {cls:=.type "range",data:=.fields #[.int 0 ae.s.toks,.int c t,.int 1 (ae.s.toks+1)]}).objs.size]) q au ay (fw _ _ _) (fun a ha=> ?_) ⟨rfl,.inr ⟨c,rfl,?_⟩⟩ (fun _ _ _=>⟨nofun,nofun⟩) h1.el.2
 ·rw[in1 ha,Heap.size_push];exact dY _ 1
 ·have:Builtin.Range.rangeSize 0 c 1=((c.toNat:Nat):Int) - ((0:Nat):Int):=by rw[rangeSize_nat];simp
  rw[←this]
  exact Heap.get?_push_size _ rfl)
theorem xB{x:Str}{a:Expr}{ia:IE}(p pos:Pos)(ev:EnvOk env)(hx:env.kindOf x=some .globalImplicit)(hd:(x == ("__debug__":Str))=false)(e:nsIn X.K mainGlobals x=some none)(hv:bootBuiltins x=some (.type "enumerate"))(hn:x≠"__name__")(sa:notStar a=true)(ha:az X P n env ν a ia):
  dJ X P n env ν (.Call (.Name x p) [a] [] pos) (.enum ia):=fun C m loc σ R Φ hr h q=>q6 p pos ev hr hx hd e hv hn rfl sa (ha.ev C m loc σ _ _ hr h fun v u ae au ay aK h=>by
 obtain⟨r,rfl,h1⟩:=dj.el h
 obtain⟨l,e,h2⟩:=wL.el h1
 obtain⟨a,vs,c,rfl,hp,g,vr⟩:=au.rel.cI aK e
 refine call_enumerate_1 g fun h₁ he hi hz hk=>wpAny_pyIter_enum he (jA (src:=.enum r) (tk:=ae.s.toks) (fp:=[ae.s.heap.objs.size+1,ae.s.heap.objs.size]) q au ay hk (fun b hb=> ?_) ⟨_,a,.none,rfl,he,hi,Nat.succ_ne_self _,aK⟩ nofun h2.el.2)
 rcases List.mem_cons.mp hb with rfl|hb
 ·exact dY _ 1
 ·rw[in1 hb];exact aV _)
theorem Ac{x:Str}{a b:Expr}{ia ib:IE}(p pos:Pos)(ev:EnvOk env)(hx:env.kindOf x=some .globalImplicit)(hd:(x == ("__debug__":Str))=false)(e:nsIn X.K mainGlobals x=some none)(hv:bootBuiltins x=some (.type "zip"))(hn:x≠"__name__")(sa:notStar a=true)(sb:notStar b=true)(ha:az X P n env ν a ia)(hb:az X P n env ν b ib):
  dJ X P n env ν (.Call (.Name x p) [a,b] [] pos) (.zip ia ib):=fun C m loc σ R Φ hr h q=>
 ef p pos ev hr hx hd e hv hn rfl (by rw[aD sa,aD sb];rfl) (.inr ⟨_,_,aD sa _ _⟩) (wpAny_items_cons (ha.ev C m loc σ _ _ hr h fun v u ae au ay aK h=>wpAny_items_cons (hb.ev C m loc ae _ _ au h fun w u' ao aC aG bU h=>wpAny_items_nil (by
  obtain⟨r,rfl,h1⟩:=dj.el h
  obtain⟨t,rfl,h2⟩:=dj.el h1
  obtain⟨l,e,h3⟩:=wL.el h2
  obtain⟨l',e',h4⟩:=wL.el h3
  have aK:=aK.up aG
  obtain⟨a,vs,c,rfl,hp,g,vr⟩:=aC.rel.cI aK e
  obtain⟨b,us,c',rfl,B8,g',vr'⟩:=aC.rel.cI bU e'
  refine call_zip_2 (aI g) (aI g') fun h₁ hz i1 i2 i3 i4 B9 hk=>wpAny_pyIter_zip hz ?_
  exact jA (src:=.zip r t) (tk:=ao.s.toks) (fp:=[ao.s.heap.objs.size+4,ao.s.heap.objs.size+2,ao.s.heap.objs.size+3,ao.s.heap.objs.size,ao.s.heap.objs.size+1]) q aC (ay.trans aG) hk (all5 (dY _ 4) (dY _ 2) (dY _ 3) (aV _) (dY _ 1))
   ⟨⟨_,_,_,_,a,b,_,_⟩,rfl,hz,i1,i2,i3,i4,(Nat.succ_ne_self _).symm,(Nat.succ_ne_self _).symm,aK,bU⟩ nofun h4.el.2)) (aD sb _ _)) (aD sa _ _))
def fQ(ν:Nu):Prop:=∀x y i,ν.lookup x=some i→ν.lookup y=some i→x=y
noncomputable def upd(m:Str→Option Value)(x:Str)(u:Value)(y:Str):Option Value:=if y=x then some u else m y
theorem jo.put{x:Str}{i:Nat}{v:PV}{u:Value}(inj:fQ ν)(lr:jo X W env ν m loc)(hx:env.kindOf x=some .local)(hi:ν.lookup x=some i)(vr:VR X W v u)(sG:i<loc.length):jo X W env ν (upd m x u) (loc.set i (some v)):=by
 intro y j v' hy hv
 by_cases q:j=i
 ·subst q
  obtain rfl:=inj y x j hy hi
  rw[List.getElem?_set_self sG] at hv
  cases hv
  exact⟨u,.inl ⟨hx,if_pos rfl⟩,vr⟩
 ·rw[List.getElem?_set_ne (fun z=>q z.symm)] at hv
  obtain⟨u',nr,vr'⟩:=lr y j v' hy hv
  refine⟨u',nr.imp (fun z=>⟨z.1,(if_neg ?_).trans z.2⟩) id,vr'⟩
  rintro rfl
  rw[hi] at hy;cases hy;exact q rfl
def tw(C:Ct X n env ν)(eO:Loc)(σ:Pt)(Q:Shared→Prop):Prop:=∀m' s',Here C m' eO ⟨s',σ.W,σ.H⟩→Le C.l env.locals σ ⟨s',σ.W,σ.H⟩→Q s'
theorem Here.set(hr:Here C m loc σ){x:Str}{i:Nat}{v:PV}{u:Value}{tk:Nat}(inj:fQ ν)(hx:env.kindOf x=some .local)(hi:ν.lookup x=some i)(vr:VR X σ.W v u)(sG:i<loc.length)(hn:h'.Ns env.locals (upd m x u))(hs:Heap.SameBut env.locals σ.s.heap h'):
  Here C (upd m x u) (loc.set i (some v)) ⟨{σ.s with heap:=h',toks:=tk},σ.W,σ.H⟩∧Le C.l env.locals σ ⟨{σ.s with heap:=h',toks:=tk},σ.W,σ.H⟩:=by
 have F':Fr X.h₀ env.locals h' (upd m x u):=Fr.set hr.st.F hn hs
 have hk:∀a o,σ.s.heap.get? a=some o→a≠env.locals→h'.get? a=some o:=fun a o e q=>(hs.2 a q).trans e
 have S:Step C.l env.locals σ.W σ.s.heap σ.W h':=Step.but C.l σ.W hk (Fr.live F')
 have x:Le C.l env.locals σ ⟨{σ.s with heap:=h',toks:=tk},σ.W,σ.H⟩:=⟨S,rfl,rfl,rfl⟩
 exact⟨⟨hr.st.next (s':={σ.s with heap:=h',toks:=tk}) S F' (hr.rel.iD hr.st.dz hr.st.dR hk),hr.lr.put inj hx hi vr sG,hr.le.trans x,hr.ok⟩,x⟩
theorem eG{x:Str}{i:Nat}{v:PV}{u:Value}{Q:Unit→Shared→Prop}(inj:fQ ν)(lQ:env.scope.kind=.function)(hr:Here C m loc σ)(hx:env.kindOf x=some .local)(hi:ν.lookup x=some i)(vr:VR X σ.W v u)(sG:i<loc.length)(q:tw C (loc.set i (some v)) σ (Q ())):
  wpAny X.M A (storeName env x u) Q E σ.s:=
 wpAny_storeName_local hx hr.st.F.ns (fun h' hn hs=>have z:=hr.set (tk:=σ.s.toks+1) inj hx hi vr sG hn hs;q _ _ z.1 z.2) (by rw[lQ];rfl)
theorem tw.up{Q:Shared→Prop}{s':Shared}(q:tw C loc σ Q)(x:Le C.l env.locals σ ⟨s',σ.W,σ.H⟩):tw C loc ⟨s',σ.W,σ.H⟩ Q:=fun m' B7 hr le=>q m' B7 hr (x.trans le)
theorem putL.el{v:PV}:∀{l:Loc} {x:Nat} {k:Loc→Prop},putL v l x k→x<l.length∧k (l.set x (some v))
 |[],_,_,h=>h.elim
 |_::_,0,_,h=>⟨Nat.succ_pos _,h⟩
 |a::r,n+1,k,h=>by
  obtain⟨e,g⟩:=putL.el (l:=r) h
  exact⟨Nat.succ_lt_succ e,g⟩
noncomputable def sets:List Nat→List PV→Loc→Loc
 |x::xs,v::vs,l=>sets xs vs (l.set x (some v))
 |_,_,l=>l
theorem iQ.el:∀{xs:List Nat} {vs:List PV} {l:Loc} {k:Loc→Prop},iQ xs vs l k→xs.length=vs.length∧(∀x∈xs,x<l.length)∧k (sets xs vs l)
 |[],[],_,_,h=>⟨rfl,nofun,h⟩
 |x::xs,v::vs,l,k,h=>by
  obtain⟨e,g⟩:=putL.el h
  obtain⟨e1,e2,g2⟩:=iQ.el g
  rw[List.length_set] at e2
  exact⟨congrArg (· +1) e1,fun y hy=>(List.mem_cons.mp hy).elim (fun z=>z▸e) (e2 y),g2⟩
 |[],_::_,_,_,h=>h.elim
 |_::_,[],_,_,h=>h.elim
inductive tx(env:Env)(ν:Nu):List Str→List Nat→Prop
 |nil:tx env ν [] []
 |cons {x:Str} {i:Nat} {xs:List Str} {is:List Nat}:env.kindOf x=some .local→ν.lookup x=some i→tx env ν xs is→tx env ν (x::xs) (i::is)
inductive gm(env:Env)(ν:Nu):List Expr→List Nat→Prop
 |nil:gm env ν [] []
 |cons {x:Str} {p:Pos} {i:Nat} {es:List Expr} {is:List Nat}:env.kindOf x=some .local→ν.lookup x=some i→gm env ν es is→gm env ν (.Name x p::es) (i::is)
inductive Cb(env:Env)(ν:Nu):Expr→List Nat→Prop
 |name {x:Str} {p:Pos} {i:Nat}:env.kindOf x=some .local→ν.lookup x=some i→Cb env ν (.Name x p) [i]
 |tup {es:List Expr} {is:List Nat} {k:Nat} {p:Pos}:gm env ν es is→2≤is.length→Cb env ν (.Tuple es k p) is
inductive Stores(env:Env)(ν:Nu):List (Value→Sem Unit)→List Nat→Prop
 |nil:Stores env ν [] []
 |cons {f:Value→Sem Unit} {x:Str} {i:Nat} {fs:List (Value→Sem Unit)} {is:List Nat}:(∀{M A u Q E s},wpAny M A (storeName env x u) Q E s→wpAny M A (f u) Q E s)→env.kindOf x=some .local→ν.lookup x=some i→Stores env ν fs is→Stores env ν (f::fs) (i::is)
theorem Stores.run(inj:fQ ν)(lQ:env.scope.kind=.function){fs:List (Value→Sem Unit)}{is:List Nat}(st:Stores env ν fs is):∀{m loc} {s:Shared} {W:Wd} {H:aa} {vs:List PV} {us:List Value} {Q:Unit→Shared→Prop},Here C m loc ⟨s,W,H⟩→cM X W vs us→is.length=vs.length→(∀x∈is,x<loc.length)→tw C (sets is vs loc) ⟨s,W,H⟩ (Q ())→wpAny X.M A (assignInOrder fs us) Q E s:=by
 induction st with
 |nil=>
  intro m loc s W H vs us Q hr vr hl hb q
  obtain rfl:vs=[]:=List.eq_nil_of_length_eq_zero hl.symm
  obtain rfl:=vr.nil_inv
  exact wpAny_pure (q m s hr (.refl _))
 |cons hf hx hi r ih=>
  intro m loc s W H vs us Q hr vr hl hb q
  cases vs with
  |nil=>cases hl
  |cons v vs=>
  obtain⟨u,us',rfl,v1,vr⟩:=vr.cons_inv
  refine wpAny_bind (wpAny_holding (hf (eG (σ:=⟨s,W,H⟩) inj lQ hr hx hi v1 (hb _ (.head _)) fun m' s' dM le=> ?_)))
  exact ih dM vr (Nat.succ.inj hl) (fun x hx=>by rw[List.length_set];exact hb x (.tail _ hx)) (tw.up (σ:=⟨s,W,H⟩) q le)
theorem gm.stores{es:List Expr}{is:List Nat}(x:gm env ν es is):Stores env ν ((assignEach es env).map (·.2)) is:=by
 induction x with
 |nil=>exact .nil
 |cons h1 h2 _ ih=>exact .cons (fun h=>wpAny_assign_Name h) h1 h2 ih
theorem gm.each{es:List Expr}{is:List Nat}(x:gm env ν es is):(assignEach es env).length=is.length∧(assignEach es env).findIdx? (·.1)=none:=by
 induction x with
 |nil=>exact⟨rfl,rfl⟩
 |@cons x p i es is _ _ _ ih=>
  refine⟨congrArg (· +1) ih.1,?_⟩
  show List.findIdx? (·.1) ((false,assign (.Name x p) env)::assignEach es env)=none
  rw[List.findIdx?_cons,ih.2];rfl
theorem mJ{es:List Expr}{is:List Nat}{l:List PV}{k:Nat}{p:Pos}{u:Value}{Q:Unit→Shared→Prop}{Ψ:Value→Shared→Prop}(ns:gm env ν es is)(inj:fQ ν)(lQ:env.scope.kind=.function)(hr:Here C m loc σ)(vr:VR X σ.W (.tup l) u){K:Loc→Prop}(h:iQ is l loc K)(q:∀eO,K eO→tw C eO σ (Q ())):
  wpAny X.M C.A (assign (.Tuple es k p) env u) Q Ψ σ.s:=by
 obtain⟨hl,hb,hk⟩:=iQ.el h
 obtain⟨a,vs,rfl,hT,vr⟩:=fG hr.rel vr
 refine wpAny_assign_Tuple (C.ak hr.ok).handled (show σ.s.heap.IsTuple a vs.toArray from hT) (by rw[ns.each.1,List.size_toArray,←vr.length,hl]) ns.each.2 fun h' he=> ?_
 have sF:∀b o,σ.s.heap.get? b=some o→h'.get? b=some o:=fun b o e=>he b o (Nat.ne_of_lt (Heap.lt_size e)) e
 have z:=hr.ez (tk:=σ.s.toks) (fun a o e _=>sF a o e) (Fr.ez hr.st.F sF)
 exact ns.stores.run inj lQ z.1 (by simpa using vr) hl hb ((q _ hk).up z.2)
theorem mK{t:Expr}{is:List Nat}{v:PV}{u:Value}{Q:Unit→Shared→Prop}{Ψ:Value→Shared→Prop}{K:Loc→Prop}(tg:Cb env ν t is)(inj:fQ ν)(lQ:env.scope.kind=.function)(hr:Here C m loc σ)(vr:VR X σ.W v u)(h:f6 is v loc K)(q:∀eO,K eO→tw C eO σ (Q ())):
  wpAny X.M C.A (assign t env u) Q Ψ σ.s:=by
 cases tg with
 |name hx hi=>
  obtain⟨hl,hk⟩:=putL.el h
  exact wpAny_assign_Name (eG inj lQ hr hx hi vr hl (q _ hk))
 |tup ns h2=>
  match is,h2,ns,h with
  |i::j::is,h2,ns,h=>
   obtain⟨l,rfl,h1⟩:=jn.el (v:=v) (k:=fun l=>iQ (i::j::is) l loc K) h
   exact mJ ns inj lQ hr vr h1 q
end
noncomputable def gG(e:Expr):Bool:= !(e.ctorIdx == 7)
theorem u9{e:Expr}(h:gG e=true)(env:Env)(x:Value):foldedSetIterable e env x=pure x:=by
 cases e<;>first|rfl|cases h
noncomputable def Ct.sub{X:Cx}{n:Nat}{env:Env}{ν:Nu}(C:Ct X n env ν)(cenv:Env)(ν':Nu)(σ:Pt)(Ψ:Value→Shared→Prop):Ct X n cenv ν':=⟨C.A,C.l,σ,nES,Ψ,C.ok∧j2 σ.W σ.s.heap C.l,fun k=>C.ak k.1,fun k=>k.2,fun _ _ _ _ _ _ _ _ _ _ _ _ _ h=>h.elim⟩
section
variable {X:Cx}{P:ec}{n:Nat}{env:Env}{ν ν':Nu}{C:Ct X n env ν}{m m₁ m₂:Str→Option Value}{loc aM ja:Loc}{σ gi ae ao:Pt}{A:Around}{s:Shared}{W ct fu:Wd}{H:aa}{h h₁ h' g:Heap}{L c D I:Addr}{l:List Env}{E:Value→Shared→Prop}{cenv:Env}{fp:List Addr}{src:Src}{acc:List PV}{k:Nat}
theorem Step.sub(S:Step l L W h ct h₁)(hC:h.get? c=none)(T:Step l c ct h₁ fu h'):Step l L W h fu h':=by
 have out:∀a o,h.get? a=some o→a≠c:=fun a o e z=>by rw[z,hC] at e;cases e
 refine⟨S.toExt.trans S.live T.toExt,fun a o e n1 n2 n3=>T.keep a o (S.keep a o e n1 n2 n3) (S.own e n1) (out a o e) n3,fun a o e n1 n2=> ?_,fun a o e=> ?_⟩
 ·obtain⟨sl,e'⟩:=S.slots a o e n1 n2
  obtain⟨w7,e''⟩:=T.slots a _ e' (out a o e) n2
  exact⟨w7,e''⟩
 ·obtain⟨o',e'⟩:=S.live a o e
  exact T.live a o' e'
theorem Fr.sub{H':aa}(F:Fr X.h₀ L h₁ m₁)(hLC:L≠c)(no:¬Own ct L)(T:Step l c ct h₁ fu h')(R:HR X fu H' h'):Fr X.h₀ L h' m₁:=by
 obtain⟨o,e⟩:=Fr.live F
 by_cases q:L∈Fs l
 ·obtain⟨sl,e'⟩:=T.slots L o e hLC q
  exact⟨jx F.ns e e',R.keep,F.above⟩
 ·exact⟨jx (sl:=o.slots) F.ns e (T.keep L o e no hLC q),R.keep,F.above⟩
theorem hU{elt target iter:Expr}{scope:Scope}{pos:Pos}{it acc:Value}{env:Env}{M:Model}{R:Result→Shared→Prop}(I:Nat→Shared→Prop)(hM:∃prog w,M=model prog w)
  (turn:∀n s,I n s→wpAny M A (pyNext it) (fun r bc=>match r with
   |none=>R (.ok .next) bc
   |some v=>wpAny M A (letOwnedTupleGo target it v) (fun _ s₁'=>wpAny M A (assign target env v) (fun _ eQ=>wpAny M A (eval elt env) (fun x s₃=>
     wpAny M A (call (.builtin "list.append") [acc,x]) (fun _ s₄=>∃m,m<n∧I m s₄) (notedBy M A env fun e s'=>R (.error e) s') s₃)
     (notedBy M A env fun e s'=>R (.error e) s') eQ) (notedBy M A env fun e s'=>R (.error e) s') s₁') (notedBy M A env fun e s'=>R (.error e) s') bc) (notedBy M A env fun e s'=>R (.error e) s') s)
  (n:Nat) (h:I n s):
  codeAny M A (.compLoop (.ListComp elt [⟨target,iter,[],0⟩] scope pos) 0 it acc env) R s:=by
 revert A s elt target iter scope pos it acc env M R I n
 apply aT;intro
 generalize bX .. =A,bY .. =s,bZ .. =elt,b7 .. =target,cv .. =iter,cw .. =scope,cx .. =pos,cy .. =it
 apply aN;intro
 generalize bM .. =acc,bN .. =env,bQ .. =M,bR .. =R
 apply aJ;intro
 generalize nx .. =I
 intro hM turn
 apply aJ;intro
 generalize nx .. =n
 intro h
 obtain⟨prog,w,rfl⟩:=hM
 refine codeAny_loop rfl I (fun n s hI=> ?_) n h
 show wpAny _ _ ((compTurn (.ListComp elt [⟨target,iter,[],0⟩] scope pos) 0 it acc env).onRaise (fun x=>do noteFrame x env;theTreesLotGoes x)) _ _ s
 refine wpAny_noted ?_
 rw[compTurn_list1]
 refine wpAny_bind (wpAny_standAt (wpAny_bind (wpAny_mono (turn n s hI) (fun r bc h₁=> ?_) fun _ _ h'=>h')))
 cases r with
 |none=>exact wpAny_pure h₁
 |some v=>
  refine wpAny_bind (wpAny_mono h₁ (fun _ s₁' h₁'=> ?_) fun _ _ h'=>h')
  exact wpAny_bind (wpAny_mono h₁' (fun _ eQ d7=>wpAny_bind (wpAny_bind (wpAny_mono d7 (fun x s₃ tA=>wpAny_bind (wpAny_mono tA
   (fun _ s₄ h₄=>wpAny_pure (wpAny_pure ⟨rfl,h₄⟩)) fun _ _ h'=>h')) fun _ _ h'=>h'))) fun _ _ h'=>h')
theorem OffW.mono{Z:List Addr}(x:OffW ct l L Z)(E:Ext ct h₁ fu)(live:∀a∈Z,∃o,h₁.get? a=some o):OffW fu l L Z:=fun a ha=>by
 obtain⟨o,e⟩:=live a ha
 exact⟨E.own e (x a ha).1,E.dz e (x a ha).2.1,(x a ha).2.2⟩
theorem OffW.sub{Z Z':List Addr}(x:OffW ct l L Z)(h:∀a∈Z',a∈Z):OffW ct l L Z':=fun a ha=>x a (h a ha)
structure fE(C:Ct X n env ν)(m:Str→Option Value)(loc:Loc)(σ:Pt)(cenv:Env)(ν':Nu)(fp:List Addr)(I D:Addr)(src:Src)(acc:List PV)(k:Nat)(aM:Loc)(m₁:Str→Option Value)(ae:Pt):Prop where
 le0:Le C.l env.locals C.B σ
 hr:Here C m loc ae
 le:Le C.l env.locals σ ae
 FC:Fr X.h₀ cenv.locals ae.s.heap m₁
 lr:jo X ae.W cenv ν' m₁ aM
 it:It X ae.W ae.s.heap src k I fp
 list:∃us d,ae.s.heap.get? D=some (lst us.toArray d)∧cM X ae.W acc us
 off:OffW ae.W C.l env.locals (D::cenv.locals::fp)
 dead:∀a∈D::cenv.locals::fp,σ.s.heap.get? a=none
 Dc:D≠cenv.locals
 Df:D∉fp
 cf:cenv.locals∉fp
theorem fE.live(x:fE C m loc σ cenv ν' fp I D src acc k aM m₁ ae):∀a∈D::cenv.locals::fp,∃o,ae.s.heap.get? a=some o:=fun a ha=>by
 rcases List.mem_cons.mp ha with rfl|ha
 ·obtain⟨us,d,e,_⟩:=x.list;exact⟨_,e⟩
 rcases List.mem_cons.mp ha with rfl|ha
 ·exact Fr.live x.FC
 ·exact x.it.live a ha
theorem fE.inn(x:fE C m loc σ cenv ν' fp I D src acc k aM m₁ ae)(Ψ:Value→Shared→Prop):Here (C.sub cenv ν' ae Ψ) m₁ aM ae:=
 have c:=x.off cenv.locals (.tail _ (.head _))
 ⟨⟨x.FC,x.hr.rel,c.2.1,c.1,x.hr.st.fr⟩,x.lr,.refl _,⟨x.hr.ok,x.hr.st.fr⟩⟩
theorem fE.xC(x:fE C m loc σ cenv ν' fp I D src acc k aM m₁ ae):OffW ae.W C.l cenv.locals (D::fp):=fun a ha=>by
 have ha':a∈D::cenv.locals::fp:=(List.mem_cons.mp ha).elim (fun z=>z▸.head _) fun z=>.tail _ (.tail _ z)
 have c:=x.off a ha'
 exact⟨c.1,c.2.1,(List.mem_cons.mp ha).elim (fun z=>z▸x.Dc) fun z w=>x.cf (w▸z),c.2.2.2⟩
theorem fE.on(x:fE C m loc σ cenv ν' fp I D src acc k aM m₁ ae)(E:Ext ae.W ae.s.heap ao.W)(F:Fr X.h₀ env.locals ao.s.heap m)(R:HR X ao.W ao.H ao.s.heap)(fr:j2 ao.W ao.s.heap C.l)(S:Step C.l env.locals σ.W σ.s.heap ao.W ao.s.heap)(q:g8 ae.s ao.s):
  Here C m loc ao∧Le C.l env.locals σ ao:=by
 obtain⟨oL,eL⟩:=Fr.live x.hr.st.F
 have y:Le C.l env.locals σ ao:=⟨S,x.le.same.trans q⟩
 exact⟨⟨⟨F,R,E.dz eL x.hr.st.dz,E.own eL x.hr.st.dR,fr⟩,x.hr.lr.mono E,x.le0.trans y,x.hr.ok⟩,y⟩
theorem fE.nx{k':Nat}(x:fE C m loc σ cenv ν' fp I D src acc k aM m₁ ae){Ψ:Value→Shared→Prop}(N:Nx (C.sub cenv ν' ae Ψ) m₁ fp ae ao):
  (Here C m loc ao∧Le C.l env.locals σ ao)∧Fr X.h₀ cenv.locals ao.s.heap m₁∧jo X ao.W cenv ν' m₁ aM∧(∃us d,ao.s.heap.get? D=some (lst us.toArray d)∧cM X ao.W acc us)∧OffW ao.W C.l env.locals (D::cenv.locals::fp):=by
 have offL:OffW ae.W C.l env.locals fp:=x.off.sub fun a ha=>.tail _ (.tail _ ha)
 have FL:Fr X.h₀ env.locals ao.s.heap m:=by
  obtain⟨o',es,ep,g,r⟩:=x.hr.st.F.ns
  exact⟨⟨o',es,ep,N.keep _ _ g fun z=>(offL _ z).2.2.1 rfl,r⟩,N.st.R.keep,x.hr.st.F.above⟩
 obtain⟨us,d,e,r⟩:=x.list
 exact⟨x.on N.ext FL N.st.R N.st.fr (x.le.step.mod (Z:=fp) (fun a ha=>x.dead a (.tail _ (.tail _ ha))) N.ext N.keep) N.same,N.st.F,x.lr.mono N.ext,⟨us,d,N.keep _ _ e x.Df,r.mono N.ext⟩,x.off.mono N.ext x.live⟩
theorem fE.turn{k':Nat}(x:fE C m loc σ cenv ν' fp I D src acc k aM m₁ ae){Ψ:Value→Shared→Prop}(N:Nx (C.sub cenv ν' ae Ψ) m₁ fp ae ao)(it:It X ao.W ao.s.heap src k' I fp):fE C m loc σ cenv ν' fp I D src acc k' aM m₁ ao:=
 have y:=x.nx (k':=k') N
 ⟨x.le0,y.1.1,y.1.2,y.2.1,y.2.2.1,it,y.2.2.2.1,y.2.2.2.2,x.dead,x.Dc,x.Df,x.cf⟩
theorem fE.stp{C':Ct X n cenv ν'}(hl:C'.l=C.l)(x:fE C m loc σ cenv ν' fp I D src acc k aM m₁ ae)(T:Le C'.l cenv.locals ae ao)(aC:Here C' m₂ ja ao):fE C m loc σ cenv ν' fp I D src acc k ja m₂ ao:=by
 obtain⟨A',l',B',E',Ψ',ak',fr',bad'⟩:=C'
 subst hl
 have keepZ:∀a∈D::fp,∀o,ae.s.heap.get? a=some o→ao.s.heap.get? a=some o:=fun a ha o e=>by
  have c:=x.xC a ha
  exact T.step.keep a o e c.1 c.2.2.1 c.2.2.2
 have y:=x.on T.ext (Fr.sub x.hr.st.F (fun z=>(x.off cenv.locals (.tail _ (.head _))).2.2.1 z.symm) x.hr.st.dR T.step aC.rel) aC.rel aC.st.fr (x.le.step.sub (x.dead cenv.locals (.tail _ (.head _))) T.step) T.same
 obtain⟨us,d,e,r⟩:=x.list
 exact⟨x.le0,y.1,y.2,aC.st.F,aC.lr,x.it.mono T.ext fun a ha=>keepZ a (.tail _ ha),⟨us,d,keepZ D (.head _) _ e,r.mono T.ext⟩,x.off.mono T.ext x.live,x.dead,x.Dc,x.Df,x.cf⟩
theorem fE.app(x:fE C m loc σ cenv ν' fp I D src acc k aM m₁ ae){v:PV}{u:Value}{us:List Value}{d:Nat}{tk:Nat}(e:ae.s.heap.get? D=some (lst us.toArray d))(r:cM X ae.W acc us)(vr:VR X ae.W v u):
  fE C m loc σ cenv ν' fp I D src (acc++[v]) k aM m₁ ⟨{ae.s with heap:=ae.s.heap.update D (Obj.mapSeq (·.push u)),toks:=tk},ae.W,ae.H⟩:=by
 have hk:∀a o,ae.s.heap.get? a=some o→a≠D→(ae.s.heap.update D (Obj.mapSeq (·.push u))).get? a=some o:=fun a o e q=>hF a o e q
 have hk1:∀a o,ae.s.heap.get? a=some o→a∉[D]→(ae.s.heap.update D (Obj.mapSeq (·.push u))).get? a=some o:=fun a o e q=>hk a o e fun z=>q (by rw[z];exact .head _)
 have NL:=gj (tk:=tk) x.hr (fp:=[D]) (x.off.sub fun a ha=>by rw[in1 ha];exact .head _) hk1
 have NC:=gj (tk:=tk) (x.inn C.Ψ) (fp:=[D]) (x.xC.sub fun a ha=>by rw[in1 ha];exact .head _) hk1
 have dd:∀a∈[D],σ.s.heap.get? a=none:=fun a ha=>x.dead a (by rw[in1 ha];exact .head _)
 have g:=IsL.update (l:=D) e (·.push u)
 exact⟨x.le0,NL.here x.hr x.le0 dd,NL.le x.le dd,NC.st.F,x.lr,x.it.mono (.refl ae.W ae.s.heap) fun a ha o e=>hk a o e (by rintro rfl;exact x.Df ha),
  ⟨us++[u],_,by rw[show(us++[u]).toArray=us.toArray.push u by simp];exact g,r.append (.cons vr .nil)⟩,x.off,x.dead,x.Dc,x.Df,x.cf⟩
structure CompEnd(C:Ct X n env ν)(m:Str→Option Value)(loc:Loc)(σ:Pt)(vs:List PV)(D c:Addr)(bo:Pt):Prop where
 hr:Here C m loc bo
 le:Le C.l env.locals σ bo
 le0:Le C.l env.locals C.B σ
 dC:σ.s.heap.get? c=none
 dD:σ.s.heap.get? D=none
 list:∃us d,bo.s.heap.get? D=some (lst us.toArray d)∧cM X bo.W vs us
 ns:∃m',bo.s.heap.Ns c m'
 xC:OffW bo.W C.l env.locals [c]
 offD:OffW bo.W C.l env.locals [D]
 Dc:D≠c
theorem xD{elt target iter:Expr}{scope:Scope}{pos:Pos}{cg:List Nat}{ielt:IE}{R:Result→Shared→Prop}{K:List PV→aa→Prop}(lQ:cenv.scope.kind=.function)(tg:Cb cenv ν' target cg)(inj:fQ ν')(he:az X P n cenv ν' elt ielt)
  (pl:du target=true∨(cm target=true∧pP src)) (hR:∀vs bo,K vs bo.H→CompEnd C m loc σ vs D cenv.locals bo→R (.ok .next) bo.s) (x:fE C m loc σ cenv ν' fp I D src [] 0 aM m₁ ae) (w:mu (wE P (aj P n) ielt) cg src aM ae.H K):
  codeAny X.M C.A (.compLoop (.ListComp elt [⟨target,iter,[],0⟩] scope pos) 0 (.ref I) (.ref D) cenv) R ae.s:=by
 revert X P n env ν ν' C m m₁ loc aM σ ae D I cenv fp src elt target iter scope pos cg ielt R K
 apply aN;intro
 generalize bM .. =X,bN .. =P,bQ .. =n,bR .. =env
 apply aP;intro
 generalize bP .. =ν,bS .. =ν'
 apply aJ;intro
 generalize nx .. =C
 apply aT;intro
 generalize bX .. =m,bY .. =m₁,bZ .. =loc,b7 .. =aM,cv .. =σ,cw .. =ae,cx .. =D,cy .. =I
 apply aT;intro
 generalize bX .. =cenv,bY .. =fp,bZ .. =src,b7 .. =elt,cv .. =target,cw .. =iter,cx .. =scope,cy .. =pos
 apply aN;intro
 generalize bM .. =cg,bN .. =ielt,bQ .. =R,bR .. =K
 intro lQ tg inj he pl hR x w
 unfold mu at w
 obtain⟨N,item,J,j0,get,fin,step,done⟩:=w
 refine hU (fun f s=>∃k acc aM m₁ ae,s=ae.s∧f+k=N∧J k acc aM ae.H∧fE C m loc σ cenv ν' fp I D src acc k aM m₁ ae) ⟨_,_,rfl⟩ ?_ N ⟨0,[],aM,m₁,ae,rfl,rfl,j0,x⟩
 rintro f _ ⟨k,acc,aM,m₁,ae,rfl,hf,j,x⟩
 have xi:=x.inn (notedBy X.M C.A cenv fun e s'=>R (.error e) s')
 have off:=x.xC.sub (Z':=fp) fun a ha=>.tail _ ha
 cases f with
 |zero=>
  obtain rfl:k=N:=(Nat.zero_add k).symm.trans hf
  refine z9 (C:=C.sub cenv ν' ae _) x.it xi off (fin _ _ _ j) fun h' N'=> ?_
  have y:=x.nx (k':=k) N'
  exact hR acc ⟨{ae.s with heap:=h',toks:=ae.s.toks},ae.W,ae.H⟩ (done _ _ _ j) ⟨y.1.1,y.1.2,x.le0,x.dead _ (.tail _ (.head _)),x.dead _ (.head _),y.2.2.2.1,⟨_,y.2.1.ns⟩,y.2.2.2.2.sub fun a ha=>by rw[in1 ha];exact .tail _ (.head _),y.2.2.2.2.sub fun a ha=>by rw[in1 ha];exact .head _,x.Dc⟩
 |succ f=>
  have hk:k<N:=by exact ar105 hf
  refine u7 (C:=C.sub cenv ν' ae _) x.it xi off pl (get _ _ _ _ j hk) fun u eQ go=>go _ fun ao N' vr it=> ?_
  have x2:=x.turn N' it
  have sp:=step k acc aM ae.H hk j
  rw[←N'.H] at sp
  refine mK (C:=C.sub cenv ν' ao C.Ψ) tg inj lQ (x2.inn C.Ψ) vr sp fun eO sp m3 s3 hr3 le3=> ?_
  have x3:=x2.stp (C:=C) (C':=C.sub cenv ν' ao C.Ψ) rfl le3 hr3
  refine he.ev (C.sub cenv ν' ⟨s3,ao.W,ao.H⟩ (notedBy X.M C.A cenv fun e s'=>R (.error e) s')) m3 eO ⟨s3,ao.W,ao.H⟩ _ _ (x3.inn _) sp fun v w hV hW mL v₄ h4=> ?_
  have x4:=x3.stp (C:=C) (C':=C.sub cenv ν' ⟨s3,ao.W,ao.H⟩ (notedBy X.M C.A cenv fun e s'=>R (.error e) s')) rfl mL hW
  obtain⟨us,d,eD,rD⟩:=x4.list
  have hl:=rD.length
  have hz:=h4.1
  refine call_meets PySem.F.slot_list_append (aI eD).typeIs PySem.F.entry_list_append (PySem.F.args_list_append_2 _ _) (list_append D us.toArray d w (by rw[List.size_toArray,sizeLine_eq];exact hl▸lu hz rfl)) ⟨eD,?_⟩
  exact⟨f,Nat.lt_succ_self f,k+1,acc++[v],eO,m3,⟨_,hV.W,hV.H⟩,rfl,by exact(Nat.add_right_comm _ _ 1).trans hf,h4.2,x4.app (tk:=hV.s.toks) eD rD v₄⟩
end
end
section
open PyProof.Rows PySem.Calls PySem.W
set_option backward.match.sparseCases false
section
variable {X:Cx}{P:ec}{n:Nat}{env:Env}{ν ν':Nu}{C:Ct X n env ν}{m m₁ m₂:Str→Option Value}{loc aM ja:Loc}{σ gi ae ao:Pt}{A:Around}{s:Shared}{W ct fu:Wd}{H:aa}{h h₁ h' g:Heap}{L c D I:Addr}{l:List Env}{E:Value→Shared→Prop}{fp:List Addr}{src:Src}
theorem mM(scope:Scope)(env:Env)(hf:∀x∈scope.names,x.2=.free→∃ca,env.cells.lookup x.1=some ca):
  ∃cl,closureFor scope env=pure cl∧∀y ca,(y,NameKind.free)∈scope.names→env.cells.lookup y=some ca→cl.lookup y=some ca:=by
 revert scope env
 apply aP;intro
 generalize bP .. =scope,bS .. =env
 intro hf
 have main:∀(ns:List (Str×NameKind)) (cs:List (Str×Addr)),(∀x∈ns,x.2=.free→∃ca,env.cells.lookup x.1=some ca)→(∀p∈cs,env.cells.lookup p.1=some p.2)→
   ∃cl,(forIn ns cs (fun(x:Str×NameKind) (r:List (Str×Addr))=>(if(x.2 == NameKind.free)=true then do
     let a ←cellOf env x.1
     pure (ForInStep.yield ((x.1,a)::r)) else pure (ForInStep.yield r):Sem (ForInStep (List (Str×Addr))))):Sem (List (Str×Addr)))=pure cl∧(∀p∈cl,env.cells.lookup p.1=some p.2)∧(∀p∈cs,p∈cl)∧∀y,(y,NameKind.free)∈ns→∃ca,(y,ca)∈cl:=by
  intro ns
  induction ns with
  |nil=>intro cs _ hc;exact⟨cs,rfl,hc,fun _ h=>h,fun y h=>nomatch h⟩
  |cons x ns ih=>
   intro cs hn hc
   obtain⟨x,k⟩:=x
   have hn':∀x∈ns,x.2=.free→∃ca,env.cells.lookup x.1=some ca:=fun y hy=>hn y (List.mem_cons_of_mem _ hy)
   rw[List.forIn_cons]
   by_cases hk:(k == NameKind.free)=true
   ·have sF:k=.free:=by simpa using hk
    subst sF
    obtain⟨ca,e⟩:=hn (x,.free) (.head _) rfl
    obtain⟨cl,h1,h2,h3,h4⟩:=ih ((x,ca)::cs) hn' (fun p hp=>by
     rcases List.mem_cons.mp hp with rfl|hp
     ·exact e
     ·exact hc p hp)
    refine⟨cl,?_,h2,fun p hp=>h3 p (List.mem_cons_of_mem _ hp),fun y hy=> ?_⟩
    ·dsimp only
     rw[if_pos hk]
     have:cellOf env x=pure ca:=by unfold cellOf;rw[e]
     rw[this]
     exact h1
    ·rcases List.mem_cons.mp hy with hy|hy
     ·cases hy;exact⟨ca,h3 _ (.head _)⟩
     ·exact h4 y hy
   ·obtain⟨cl,h1,h2,h3,h4⟩:=ih cs hn' hc
    refine⟨cl,?_,h2,h3,fun y hy=> ?_⟩
    ·dsimp only
     rw[if_neg hk]
     exact h1
    ·rcases List.mem_cons.mp hy with hy|hy
     ·cases hy;exact absurd rfl hk
     ·exact h4 y hy
 obtain⟨cl,h1,h2,_,h4⟩:=main scope.names [] hf (fun _ h=>nomatch h)
 refine⟨cl,?_,fun y ca hy e=> ?_⟩
 ·unfold closureFor
  exact(congrArg (fun(t:Sem (List (Str×Addr)))=>t >>= fun cs=>pure cs) h1).trans rfl
 ·obtain⟨c',hc'⟩:=h4 y hy
  have:∀(cl:List (Str×Addr)),(y,c')∈cl→∃c2,cl.lookup y=some c2∧(y,c2)∈cl:=fun cl=>by
   induction cl with
   |nil=>intro h;cases h
   |cons p r ih=>
    intro h
    obtain⟨z,b⟩:=p
    rw[List.lookup_cons]
    by_cases q:(y == z)=true
    ·simp only[q];have:y=z:=by simpa using q
     subst this;exact⟨b,rfl,.head _⟩
    ·simp only[Bool.not_eq_true] at q
     simp only[q]
     rcases List.mem_cons.mp h with h|h
     ·cases h;simp at q
     ·obtain⟨c2,e2,m2⟩:=ih h;exact⟨c2,e2,.tail _ m2⟩
  obtain⟨c2,e2,m2⟩:=this cl hc'
  have:=h2 _ m2
  rw[e] at this
  cases this
  exact e2
theorem it_self{k:Nat}{Q:Value→Shared→Prop}(x:It X W s.heap src k I fp)(q:Q (.ref I) s):wpAny X.M A (pyIter (.ref I)) Q E s:=by
 cases src with
 |fixed l=>
  obtain⟨_,⟨t,hi,_⟩|⟨c,_,hi⟩⟩:=x
  ·exact wpAny_pyIter_tupleiter hi q
  ·exact wpAny_pyIter_rangeiter hi q
 |live r=>obtain⟨_,t,hi,_⟩:=x;exact wpAny_pyIter_listiter hi q
 |enum r=>obtain⟨I,a,old,_,he,_⟩:=x;exact wpAny_pyIter_enum he q
 |zip r t=>obtain⟨d,x⟩:=x;exact wpAny_pyIter_zip x.hz q
theorem pQ(cg:List Nat):∀(loc:Loc) (j:Nat) (v:PV),(fZ cg loc)[j]? =some (some v)→j∉cg∧loc[j]? =some (some v):=by
 induction cg with
 |nil=>
  exact fun _ _ _ e=>⟨List.not_mem_nil,e⟩
 |cons x xs ih=>
  intro loc j v e
  unfold fZ at e
  obtain⟨h1,h2⟩:=ih _ j v e
  by_cases q:x=j
  ·subst q
   have sG:=(List.getElem?_eq_some_iff.mp h2).1
   rw[List.length_set] at sG
   rw[List.getElem?_set_self sG] at h2
   cases h2
  ·rw[List.getElem?_set_ne q] at h2
   exact⟨fun z=>(List.mem_cons.mp z).elim (fun w=>q w.symm) h1,h2⟩
def Vis(env cenv:Env)(ν ν':Nu)(cg:List Nat):Prop:=
 ∀y j,ν'.lookup y=some j→j∈cg∨(ν.lookup y=some j∧env.kindOf y≠some .local∧(cenv.kindOf y=some .cell∨cenv.kindOf y=some .free)∧∀ca,env.cells.lookup y=some ca→cenv.cells.lookup y=some ca)
theorem Vis.locs{cenv:Env}{cg:List Nat}{loc:Loc}{m':Str→Option Value}(v:Vis env cenv ν ν' cg)(lr:jo X W env ν m loc):jo X W cenv ν' m' (fZ cg loc):=by
 intro y j w hy hw
 obtain⟨h1,h2⟩:=pQ cg loc j w hw
 rcases v y j hy with h|⟨h3,h4,h5,h6⟩
 ·exact absurd h h1
 ·obtain⟨u,nr,vr⟩:=lr y j w h3 h2
  refine⟨u,?_,vr⟩
  rcases nr with⟨q,_⟩|⟨ca,o,q1,q2,q3,q4⟩
  ·exact absurd q h4
  ·exact .inr ⟨ca,o,h5,h6 ca q2,q3,q4⟩
theorem oQ{elt target iter:Expr}{scope:Scope}{cl:List (Str×Addr)}{pos spos:Pos}{cg:List Nat}{gU:gZ}{ielt:IE}{use:Option (Value→Sem Unit)}{Q:Value→Shared→Prop}{K:PV→aa→Prop}
  (hclos:closureFor scope env=pure cl) (jB:scope.kind=.function) (q7:∀y∈scope.names,y.2≠.cell) (mN:∀x∈scope.names,x.2=.local→scope.names.lookup x.1=some .local) (kP:gG iter=true)
  (tg:∀C,Cb (compEnvC scope cl C env) ν' target cg) (inj:fQ ν') (vis:∀C,Vis env (compEnvC scope cl C env) ν ν' cg) (hs:dJ X P n env ν iter gU) (he:∀C,az X P n (compEnvC scope cl C env) ν' elt ielt)
  (pl:du target=true∨(cm target=true∧cW gU=true)) (hr:Here C m loc σ) (h:wE P (aj P n) (.comp cg gU ielt) loc σ.H K fun k H=>C.E k loc H)
  (fin:∀vs D c bo,vs.length<1000→K (.ref bo.H.length) (bo.H++[.list vs])→CompEnd C m loc σ vs D c bo→compPost X.M C.A C.Ψ use Q (.ref D) c (.ok .next) bo.s):
  wpAny X.M C.A (comprehension (.ListComp elt [⟨target,iter,[],0⟩] scope pos) scope env spos (newList []) false (eval iter env) use) Q C.Ψ σ.s:=by
 refine wpAny_comprehension_free (use:=use) rfl (fun x=>u9 kP env x) hclos jB mN (hs C m loc σ _ _ hr h fun src I fp bo dM le it off dead hp w=> ?_)
 refine wpAny_newObj_type (wpAny_newFunctionEnv q7 (by intro y hy;cases hy) (fun tA tB pR=> ?_) jB)
 dsimp only at tB pR ⊢
 generalize hH2:bo.s.heap.push {cls:=.type "list",dict:=none,data:=.seq ([]:List Value).toArray}=H2 at tB pR ⊢
 have hcs:H2.objs.size=bo.s.heap.objs.size+1:=by rw[←hH2,Heap.size_push]
 have hDc:bo.s.heap.objs.size≠H2.objs.size:=by rw[hcs];exact(Nat.succ_ne_self _).symm
 have old:∀b o,bo.s.heap.get? b=some o→tA.get? b=some o:=fun b o e=>pR.extBut b o (by rw[hcs];exact Nat.ne_of_lt (Nat.lt_succ_of_lt (Heap.lt_size e))) (Heap.get?_push_of_some _ (hH2▸Heap.get?_push_of_some _ e))
 have hacc:tA.get? bo.s.heap.objs.size=some (lst ([]:List Value).toArray 0):=pR.extBut _ _ hDc (Heap.get?_push_of_some _ (hH2▸Heap.get?_push_size _ rfl))
 have dead2:∀a∈[bo.s.heap.objs.size,H2.objs.size],bo.s.heap.get? a=none:=fun a ha=>by
  rcases List.mem_cons.mp ha with rfl|ha
  ·exact aV _
  ·rw[in1 ha,hcs];exact dY _ 1
 have d1:=dead2 _ (.head _)
 have d2:=dead2 _ (.tail _ (.head _))
 have z:=dM.ez (h':=tA) (tk:=bo.s.toks+([]:List (Str×Value)).length) (fun a o e _=>old a o e) (Fr.ez dM.st.F old)
 have FC:Fr X.h₀ H2.objs.size tA (fun x=>([]:List (Str×Value)).reverse.lookup x):=⟨tB,z.1.rel.keep,by
  rw[hcs]
  obtain⟨o,e⟩:=Fr.live dM.st.F
  exact Nat.le_succ_of_le (Nat.le_trans dM.st.F.above (Nat.le_of_lt (Heap.lt_size e)))⟩
 have ci:fE C m loc σ (compEnvC scope cl H2.objs.size env) ν' fp I bo.s.heap.objs.size src [] 0 (fZ cg loc) (fun x=>([]:List (Str×Value)).reverse.lookup x) ⟨{bo.s with heap:=tA,toks:=bo.s.toks+([]:List (Str×Value)).length},bo.W,bo.H⟩:=by
  refine⟨hr.le,z.1,le.trans z.2,FC,(vis _).locs z.1.lr,it.mono (.refl bo.W bo.s.heap) fun a _ o e=>old a o e,⟨[],0,hacc,.nil⟩,fun a ha=> ?_,fun a ha=> ?_,hDc,fun z=> ?_,fun z=> ?_⟩
  ·rcases List.mem_cons.mp ha with rfl|ha
   ·exact dM.fresh d1
   rcases List.mem_cons.mp ha with rfl|ha
   ·exact dM.fresh d2
   ·exact off a ha
  ·rcases List.mem_cons.mp ha with rfl|ha
   ·exact le.dead d1
   rcases List.mem_cons.mp ha with rfl|ha
   ·exact le.dead d2
   ·exact dead a ha
  ·obtain⟨o,e⟩:=it.live _ z;rw[d1] at e;cases e
  ·obtain⟨o,e⟩:=it.live _ z;rw[show bo.s.heap.get? (compEnvC scope cl H2.objs.size env).locals=none from d2] at e;cases e
 have loop:=xD (elt:=elt) (iter:=iter) (scope:=scope) (pos:=pos) (P:=P) (ielt:=ielt) (R:=compPost X.M C.A C.Ψ use Q (.ref bo.s.heap.objs.size) H2.objs.size) (cenv:=compEnvC scope cl H2.objs.size env) (ν':=ν') (by simp[compEnvC,relabel,jB]) (tg _) inj (he _) (pl.imp id fun y=>⟨y.1,hp y.2⟩) (fun vs ao k ce=>fin vs _ _ ao k.el.1 k.el.2 ce) ci w
 exact codeAny_compStart_list loop (it_self ci.it loop)
theorem Ad{elt target iter:Expr}{scope:Scope}{pos:Pos}{cg:List Nat}{gU:gZ}{ielt:IE}
  (Ae:∀x∈scope.names,x.2=.free→∃ca,env.cells.lookup x.1=some ca) (jB:scope.kind=.function) (q7:∀y∈scope.names,y.2≠.cell) (mN:∀x∈scope.names,x.2=.local→scope.names.lookup x.1=some .local) (kP:gG iter=true)
  (tg:∀cl C,Cb (compEnvC scope cl C env) ν' target cg) (inj:fQ ν')
  (vis:∀cl C,(∀y ca,(y,NameKind.free)∈scope.names→env.cells.lookup y=some ca→cl.lookup y=some ca)→Vis env (compEnvC scope cl C env) ν ν' cg) (hs:dJ X P n env ν iter gU)
  (he:∀cl C,(∀y ca,(y,NameKind.free)∈scope.names→env.cells.lookup y=some ca→cl.lookup y=some ca)→az X P n (compEnvC scope cl C env) ν' elt ielt)
  (pl:du target=true∨(cm target=true∧cW gU=true)):az X P n env ν (.ListComp elt [⟨target,iter,[],0⟩] scope pos) (.comp cg gU ielt):=
 .of (fun C m loc σ R Φ hr h q=>by
  obtain⟨cl,hcl,hl⟩:=mM scope env Ae
  rw[eval_ListComp]
  refine oQ (use:=none) hcl jB q7 mN kP (tg cl) inj (fun C=>vis cl C hl) hs (fun C=>he cl C hl) pl hr h fun vs D c bo hlen k ce=> ?_
  obtain⟨m',hm'⟩:=ce.ns
  refine⟨m',hm',fun h' vc=> ?_⟩
  obtain⟨us,d,gD,rv⟩:=ce.list
  have dc:∀a∈[c],σ.s.heap.get? a=none:=fun a ha=>by rw[in1 ha];exact ce.dC
  have N:=gj (tk:=bo.s.toks) ce.hr (fp:=[c]) ce.xC fun a o e q=>(vc.2 a (qY q)).trans e
  have cD:=ce.offD D (.head _)
  have y:=hr.late (o:=.list vs) (h':=h') (tk:=bo.s.toks) ce.dD (N.here ce.hr ce.le0 dc) (N.le ce.le dc) cD.1 cD.2.1 (fun b o e _=>e) ⟨rfl,us,d,(vc.2 D ce.Dc).trans gD,rv.mono (Ext.add bo.W (h:=σ.s.heap) ce.dD ce.dD)⟩
  exact q _ _ _ y.1 y.2.1 y.2.2 k) id
end
end
section
open PyProof.Rows PySem.Calls PySem.W
set_option backward.match.sparseCases false
set_option genInjectivity false
inductive FlR(X:Cx)(W:Wd):Fl→Flow→Prop
 |next:FlR X W .next .next
 |cont:FlR X W .cont .cont
 |ret {v:PV} {u:Value}:VR X W v u→FlR X W (.ret v) (.ret u)
structure Top{X:Cx}{n:Nat}{env:Env}{ν:Nu}(C:Ct X n env ν):Prop where
 top:∃outer,C.l=env::outer
 frame:env.frame=some env.locals
def oR{X:Cx}{n:Nat}{env:Env}{ν:Nu}(C:Ct X n env ν)(σ:Pt)(Q:QL)(Φ:Flow→Shared→Prop):Prop:=
 ∀fl f bo m' eO,Here C m' eO bo→Le C.l env.locals σ bo→FlR X bo.W fl f→Q fl eO bo.H→Φ f bo.s
def GoS(X:Cx)(n:Nat)(env:Env)(ν:Nu)(t:Sem Flow)(T:Loc→aa→QL→EL→Prop):Prop:=
 ∀(C:Ct X n env ν) m loc σ Q Φ,Top C→Here C m loc σ→T loc σ.H Q C.E→oR C σ Q Φ→wpAny X.M C.A t Φ C.Ψ σ.s
def dK(X:Cx)(P:ec)(n:Nat)(env:Env)(ν:Nu)(t:Stmt)(is:IS):Prop:=GoS X n env ν (exec t env) (wS P (aj P n) is)
def fK(X:Cx)(P:ec)(n:Nat)(env:Env)(ν:Nu)(ts:List Stmt)(is:cp):Prop:=GoS X n env ν (execs ts env) (wSs P (aj P n) is)
noncomputable def dA(e:Expr):Bool:= !(e.ctorIdx == 8 || e.ctorIdx == 9 || e.ctorIdx == 10)
theorem hY{e:Expr}(h:dA e=true)(t:Option Expr)(k:Nat)(env:Env):swapsWith e t k env=pure false:=by
 cases e<;>first|rfl|cases h
theorem Af{env:Env}(hk:env.scope.kind=.function):interactive env=false:=by unfold interactive;rw[hk];rfl
section
variable {X:Cx}{P:ec}{n:Nat}{env:Env}{ν ν':Nu}{C:Ct X n env ν}{m m₁ m₂:Str→Option Value}{loc aM ja:Loc}{σ gi ae ao:Pt}{A:Around}{s:Shared}{W ct fu:Wd}{H:aa}{h h₁ h' g:Heap}{L c D I:Addr}{l:List Env}{E:Value→Shared→Prop}{Q:QL}{Φ:Flow→Shared→Prop}
theorem oR.le(k:oR C σ Q Φ)(x:Le C.l env.locals σ ae):oR C ae Q Φ:=fun fl f bo m' eO hr y r h=>k fl f bo m' eO hr (x.trans y) r h
theorem iR(k:oR C σ Q Φ)(hr:Here C m loc ae)(x:Le C.l env.locals σ ae)(h:Q .next loc ae.H):Φ .next ae.s:=k _ _ ae m loc hr x .next h
theorem tw.ok(k:oR C σ Q Φ)(x:Le C.l env.locals σ ae)(h:Q .next aM ae.H):tw C aM ae (Φ .next):=fun m' s' hr y=>k _ _ ⟨s',ae.W,ae.H⟩ m' aM hr (x.trans y) .next h
theorem xE:fK X P n env ν [] .nil:=fun C m loc σ Q Φ tp hr h k=>wpAny_execs_nil (iR k hr (.refl σ) h)
theorem tC{t:Stmt}{ts:List Stmt}{i:IS}{is:cp}(ht:dK X P n env ν t i)(hs:fK X P n env ν ts is):fK X P n env ν (t::ts) (.cons i is):=fun C m loc σ Q Φ tp hr h k=>
 wpAny_execs_cons (ht C m loc σ _ _ tp hr h fun fl f ae m₁ aM au ay fr q=>by
  cases fr with
  |next=>exact hs C m₁ aM ae Q Φ tp au q (k.le ay)
  |cont=>exact k _ _ ae m₁ aM au ay .cont q
  |ret v=>exact k _ _ ae m₁ aM au ay (.ret v) q)
theorem xF{a:Expr}{ia:IE}(pos:Pos)(hk:env.scope.kind=.function)(hc:dA a=true)(ha:az X P n env ν a ia):dK X P n env ν (.Expr a pos) (.expr ia):=fun C m loc σ Q Φ tp hr h k=>
 wpAny_Expr_any (ha.ev C m loc σ _ _ hr h fun v u ae au ay aK h=>iR k au ay h) (Af hk) (hY hc ..)
theorem Ag{a:Expr}{ia:IE}(pos:Pos)(ha:az X P n env ν a ia):dK X P n env ν (.Return (some a) pos) (.ret ia):=fun C m loc σ Q Φ tp hr h k=>
 wpAny_Return_some (ha.ev C m loc σ _ _ hr h fun v u ae au ay aK h=>k _ _ ae m loc au ay (.ret aK) h)
theorem xG(pos:Pos):dK X P n env ν (.Continue pos) .cont:=fun C m loc σ Q Φ tp hr h k=>wpAny_Continue (k _ _ σ m loc hr (.refl σ) .cont h)
theorem mO(t:Stmt):dK X P n env ν t .stuck:=fun C m loc σ Q Φ tp hr h k=>h.elim
theorem q8{x:Str}{i:Nat}{a:Expr}{ia:IE}(p pos:Pos)(inj:fQ ν)(hx:env.kindOf x=some .local)(lQ:env.scope.kind=.function)(hi:ν.lookup x=some i)(hc:dA a=true)(ha:az X P n env ν a ia):
  dK X P n env ν (.Assign [.Name x p] a pos) (.assign i ia):=fun C m loc σ Q Φ tp hr h k=>
 wpAny_Assign_Name (ha.ev C m loc σ _ _ hr h fun v u ae au ay aK h=>have z:=putL.el h;eG inj lQ au hx hi aK z.1 (tw.ok k ay z.2)) (hY hc ..)
theorem snd_ifS{c:Expr}{ic:IE}{a b:List Stmt}{ia ib:cp}(pos:Pos)(hc:iK X P n env ν c ic)(ha:fK X P n env ν a ia)(hb:fK X P n env ν b ib):dK X P n env ν (.If c a b pos) (.ite ic ia ib):=fun C m loc σ Q Φ tp hr h k=>
 wpAny_If (hc C m loc σ _ _ _ hr h (fun ae au ay h=>ha C m loc ae Q Φ tp au h (k.le ay)) fun ae au ay h=>hb C m loc ae Q Φ tp au h (k.le ay))
theorem mP{α:Type}(k n:Nat)(v:PV):∀fs:List (Nat×PV),bB k (putN n v fs)=if k=n then some v else bB k fs
 |[]=>by
  show(if n=k then some v else none)=if k=n then some v else none
  by_cases q:k=n
  ·rw[if_pos q.symm,if_pos q]
  ·rw[if_neg (fun z=>q z.symm),if_neg q]
 |(j,u)::r=>by
  rw[zo,fF]
  by_cases q:j=n
  ·rw[if_pos q,fF]
   by_cases z:k=n
   ·rw[if_pos (q.trans z.symm),if_pos z]
   ·rw[if_neg (fun w=>z (w.symm.trans q)),if_neg z,if_neg (fun w=>z (w.symm.trans q))]
  ·rw[if_neg q,fF]
   by_cases z:j=k
   ·rw[if_pos z,if_neg (fun w=>q (z.trans w)),if_pos z]
   ·rw[if_neg z,if_neg z]
    exact mP (α:=α) k n v r
theorem MR.put(ok:X.ok){fs:List (Nat×PV)}{mi:Str→Option Value}{k:Nat}{v:PV}{u:Value}(x:MR X W fs mi)(hk:k<X.tab.length)(vr:VR X W v u):MR X W (putN k v fs) (fun y=>if y=X.nm k then some u else mi y):=fun j hj=>by
 rw[mP (α:=Unit)]
 by_cases q:j=k
 ·rw[if_pos q]
  subst q
  exact⟨u,by simp,vr⟩
 ·rw[if_neg q]
  have ne:X.nm j≠X.nm k:=fun z=>q (X.inj ok hj hk z)
  have:=x j hj
  split at this
  ·obtain⟨u',e,r⟩:=this
   rename_i v' hv
   exact⟨u',by simp only[if_neg ne];exact e,r⟩
  ·show(if X.nm j=X.nm k then some u else mi (X.nm j))=none
   rw[if_neg ne];exact this
theorem hZ(k:Nat)(v:PV):∀fs:List (Nat×PV),(putN k v fs).length=fs.length+if(bB k fs).isSome then 0 else 1
 |[]=>rfl
 |(j,u)::r=>by
  rw[zo,fF]
  by_cases q:j=k
  ·rw[if_pos q,if_pos q];rfl
  ·rw[if_neg q,if_neg q,List.length_cons,List.length_cons,hZ k v r];exact Nat.add_right_comm _ _ _
theorem putN_le(k:Nat)(v:PV){fs:List (Nat×PV)}(h:fs.length<100):(putN k v fs).length≤16777216+1:=by
 rw[hZ];split
 ·exact nW (Nat.le_of_lt h) rfl
 ·exact a_ml 1 (Nat.le_of_lt h) rfl
theorem jC{M:Model}{a:Addr}{mi:Str→Option Value}{k:Nat}{name:Str}{v:Value}{Q:Unit→Shared→Prop}(hn:NsZ s.heap a mi k)
  (hQ:∀h',NsZ h' a (fun x=>if x=name then some v else mi x) (k+if(mi name).isSome then 0 else 1)→Heap.SameBut a s.heap h'→Q () {s with heap:=h',toks:=s.toks+1}):
  wpAny M A (nsSet a name v) Q E s:=by
 revert A s E M a mi k name v Q
 apply aT;intro
 generalize bX .. =A,bY .. =s,bZ .. =E,b7 .. =M,cv .. =a,cw .. =mi,cx .. =k,cy .. =name
 apply aP;intro
 generalize bP .. =v,bS .. =Q
 intro hn hQ
 intro Γ p _
 obtain⟨o,es,ep,ho,hd,hk,hm,hz⟩:=hn
 simp only[nsSet,strHash,Sem.wp_bind',Sem.wp_cmd_ask,Sem.wp_pure',Sem.wp_cmd_mkText]
 rw[Sem.wp_loadPart_of M Γ _ p {s with toks:=s.toks+1} (o:=o) _ ho]
 have hany:es.any (·.refKey)=false:=by
  rw[Array.any_eq_false'];intro e he;obtain⟨n,t,h⟩:=hk e he;simp[DictEntry.refKey,h]
 simp only[hd,aRefKeyMayBeTheName_eq,aRefKeyMayBeTheNameByArray,hany,Bool.and_false,Bool.false_eq_true,if_false,Sem.wp_cmd_updatePart]
 refine⟨by rw[ho];rfl,hQ _ ?_ (Heap.SameBut.update ..)⟩
 obtain⟨c,d,dt,sl⟩:=o
 subst hd
 have hmn:mi name=nsFind es name:=(hm name).symm
 cases hi:es.findIdx? (·.key.isStr name) with
 |some i=>
  refine⟨_,_,ep,Heap.get?_update_self _ ho (by simp only[Obj.putName_eq,Obj.putNameByArray,hi];rfl),by simp only[Obj.putName_eq,Obj.putNameByArray,hi];rfl,hk.modify _ _,fun x=> ?_,?_⟩
  ·show _=if x=name then some v else mi x
   rw[←hm];exact findBy_modify (fun n v=>v.isStr n) Value.isStr_inj es name x v i hi
  ·rw[Array.size_modify];exact Nat.le_trans hz (Nat.le_add_right _ _)
 |none=>
  refine⟨_,_,ep+1,Heap.get?_update_self _ ho (by simp only[Obj.putName_eq,Obj.putNameByArray,hi];rfl),by simp only[Obj.putName_eq,Obj.putNameByArray,hi];rfl,hk.push _ _ _ _,fun x=> ?_,?_⟩
  ·show _=if x=name then some v else mi x
   rw[←hm]
   exact findBy_push (fun n v=>v.isStr n) es name x _ _ v (fun y=>by
    show(name == y)=decide (y=name)
    by_cases h:y=name
    ·subst h;simp
    ·have:¬name=y:=fun e=>h e.symm
     simp[h,this]) hi
  ·have hno:nsFind es name=none:=by
    unfold nsFind findBy
    rw[Array.findIdx?_eq_none_iff] at hi
    rw[Array.find?_eq_none.mpr fun e he=>by have:=hi e he;simpa using this]
    rfl
   rw[hmn,hno,Array.size_push]
   exact Nat.succ_le_succ hz
theorem pS{o v:PV}{k:Nat}{a b:Value}{H':aa}{Q:Unit→Shared→Prop}(pk:n9 X P)(hk:k<X.tab.length)(hr:Here C m loc σ)(e:dX P σ.H o k v=some H')(ho:VR X σ.W o a)(hv:VR X σ.W v b)(q:∀s',Here C m loc ⟨s',σ.W,H'⟩→Le C.l env.locals σ ⟨s',σ.W,H'⟩→Q () s'):
  wpAny X.M A (setAttr a (X.nm k) b) Q E σ.s:=by
 revert X P n env ν C m loc σ A E o v k a b H' Q
 apply aN;intro
 generalize bM .. =X,bN .. =P,bQ .. =n,bR .. =env
 apply aJ;intro
 generalize nx .. =ν
 apply aJ;intro
 generalize nx .. =C
 apply aT;intro
 generalize bX .. =m,bY .. =loc,bZ .. =σ,b7 .. =A,cv .. =E,cw .. =o,cx .. =v,cy .. =k
 apply aN;intro
 generalize bM .. =a,bN .. =b,bQ .. =H',bR .. =Q
 intro pk hk hr e ho hv q
 cases o with
 |ref i=>
  have e:(match σ.H[i]? with
   |some (.inst c fs)=>if P.bad.contains (c,k) then none else if fs.length<100 then some (σ.H.set i (.inst c (putN k v fs))) else none
   |_=>none)=some H':=e
  split at e
  ·rename_i c fs hi
   split at e
   ·cases e
   rename_i hb
   rw[Bool.not_eq_true] at hb
   split at e
   ·rename_i sG
    obtain rfl:=Option.some.inj e
    obtain⟨p,rfl,hp,⟨kn,j6⟩,g,mi,N,mr⟩:=hr.rel.atR ho hi
    obtain⟨od,god,hl⟩:=j9 N.ns
    have K:=pk.cls c kn
    obtain⟨attr,ha,hn,ht⟩:=K.get k hk hb
    have I:=sY g god
    have KI:=hr.rel.yO
    refine set_plain KI I K.setattr (osa_open (s:={σ.s with toks:=σ.s.toks+1}) KI I K.over ht fun b'=> ?_)
    obtain⟨cd,hc,hd'⟩:=any_some (show(clsIn X.K c).any (·.hasDict)=true from K.zJ)
    refine wpAny_bind (wpAny_pure (wpAny_bind (wpAny_bind (wpAny_loadPart (s:={σ.s with toks:=σ.s.toks+1}) g (wpAny_bind ((looks_clsIn KI hc).here (s:={σ.s with toks:=σ.s.toks+1}) ?_))))))
    rw[hd']
    refine wpAny_pure (a:=some p.2) (wpAny_bind (wpAny_pure (wpAny_bind (jC (s:={σ.s with toks:=σ.s.toks+1}) N fun h' hn hs=> ?_))))
    have hs:Heap.SameBut p.2 σ.s.heap h':=hs
    have hlenE:fs.length+(if(mi (X.nm k)).isSome=true then 0 else 1)=(putN k v fs).length:=by
     rw[hZ]
     have:=mr k hk
     split at this
     ·rename_i w hw
      obtain⟨u,e,_⟩:=this
      rw[e,hw];rfl
     ·rename_i hw
      rw[this,hw];rfl
    rw[hlenE] at hn
    obtain⟨o',es',ep',g2,d2,sk2,f2,z2⟩:=id hn
    refine wpAny_bind (wpAny_lookBehind g2 (by rw[d2];exact pastItsLine_dict (by rw[sizeLine_eq];exact Nat.le_trans z2 (putN_le k v sG))) (wpAny_pure ?_))
    have z:=hr.write (o:=.inst c (putN k v fs)) (tk:=σ.s.toks+1+1) hp (fun a o e _ n2=>(hs.2 a n2).trans e) ⟨⟨kn,j6⟩,(hs.2 p.1 j6).trans g,_,hn,mr.put hr.rel.ok hk hv⟩
    exact q _ z.1 z.2
   ·cases e
  ·cases e
 |_=>cases e
theorem DR.stored{k:Int}{v:PV}{u:Value}(vr:VR X W v u){es:List (Int×PV)}{kvs:List (Int×Value)}(h:DR X W es kvs):(kvs.map (·.1)).Nodup→DR X W (n8 k v es) (PySem.stored kvs k u):=by
 induction h with
 |nil=>
  intro _
  unfold PySem.stored
  rw[List.any_nil,if_neg Bool.false_ne_true]
  exact .cons vr .nil
 |@cons j w x es kvs wr r ih=>
  intro hn
  have hn':=List.nodup_cons.mp hn
  rw[sR]
  unfold PySem.stored
  by_cases q:j=k
  ·rw[if_pos q]
   subst q
   simp only[List.any_cons,decide_true,Bool.true_or,if_true,List.map_cons]
   have:kvs.map (fun kv=>if kv.1=j then(kv.1,u) else kv)=kvs:=by
    refine map_eq_self fun kv hkv=>if_neg ?_
    rintro rfl
    exact hn'.1 (List.mem_map.mpr ⟨kv,hkv,rfl⟩)
   rw[this]
   exact .cons vr r
  ·rw[if_neg q]
   have ih:=ih hn'.2
   unfold PySem.stored at ih
   simp only[List.any_cons,decide_eq_false q,Bool.false_or]
   by_cases z:kvs.any (fun kv=>decide (kv.1=k))=true
   ·rw[if_pos z] at ih ⊢
    rw[List.map_cons,if_neg q]
    exact .cons wr ih
   ·rw[if_neg z] at ih ⊢
    exact .cons wr ih
theorem jD{o i v:PV}{a b c:Value}{K:aa→Prop}{Q:Unit→Shared→Prop}(hr:Here C m loc σ)(h:f7 σ.H o i v K)(ho:VR X σ.W o a)(hi:VR X σ.W i b)(hv:VR X σ.W v c)(q:∀s' H',Here C m loc ⟨s',σ.W,H'⟩→Le C.l env.locals σ ⟨s',σ.W,H'⟩→K H'→Q () s'):
  wpAny X.M A (setItem a b c) Q E σ.s:=by
 obtain⟨r,rfl,h1⟩:=dj.el h
 obtain⟨k,rfl,h2⟩:=wI.el h1
 obtain⟨o,e,h3⟩:=WO.el h2
 obtain⟨t,rfl⟩:=hi.int_inv
 cases o with
 |list ls=>
  obtain⟨hz,h4⟩:=WG.el h3
  obtain⟨x,vs,n,rfl,hp,g,rr⟩:=hr.rel.cI ho e
  have hlen:=rr.length
  have z:=hr.write (tk:=σ.s.toks) (h':=σ.s.heap.update x (Obj.mapSeq (·.setIfInBounds k.toNat c))) hp (fun a o e n _=>hF a o e n) (.mG g (by simpa using rr.set k.toNat hv))
  exact ki_setAt g hz.1 (by exact vV (Int.lt_trans hz.2.1 (Int.ofNat_lt.mpr hz.2.2)) rfl) (by rw[List.size_toArray];exact hlen▸hz.2.1) (q _ _ z.1 z.2 h4)
 |aW es=>
  obtain⟨hz,h4⟩:=WG.el h3
  obtain⟨x,kvs,rfl,hp,sm,dk,rr⟩:=hr.rel.gC ho e
  have hnd:(kvs.map (·.1)).Nodup:=by obtain⟨_,_,_,_,_,_,_,_,h⟩:=dk;exact h
  refine wpAny_setItem_pairs (knd:=intKind X.prog X.w) (k:=k) (by simp[intKind,Value.isInt]) dk (fun h' hd hs=> ?_) (by rw[←rr.length,sizeLine_eq];exact lu hz rfl)
  have z:=hr.write (o:=.aW (n8 k v es)) (tk:=σ.s.toks+1) hp (fun a o e n _=>(hs.2 a n).trans e) ⟨rfl,sm,_,hd,rr.stored hv hnd⟩
  exact q _ _ z.1 z.2 h4
 |_=>exact h3.elim
theorem q9{o a:Expr}{k:Nat}{x:Str}{io ia:IE}(p pos:Pos)(pk:n9 X P)(hk:k<X.tab.length)(hx:X.nm k=x)(hc:dA a=true)(ho:az X P n env ν o io)(ha:az X P n env ν a ia):
  dK X P n env ν (.Assign [.Attribute o x p] a pos) (.aw io k ia):=by
 subst hx
 exact fun C m loc σ Q Φ tp hr h K=>plainObj_wpAny_Assign_Attribute (ha.ev C m loc σ _ _ hr h fun v u ae au ay aK h=>ho.ev C m loc ae _ _ au h fun r w ao aC aG bU h=>by
  obtain⟨H',e,h⟩:=h.el
  exact pS pk hk aC e bU (aK.up aG) fun s' dM le'=>iR K dM ((ay.trans aG).trans le') h) (hY hc ..)
theorem rd{o i a:Expr}{io ii ia:IE}(p pos:Pos)(hc:dA a=true)(ho:az X P n env ν o io)(hi:az X P n env ν i ii)(ha:az X P n env ν a ia):
  dK X P n env ν (.Assign [.Subscript o i p] a pos) (.iC io ii ia):=fun C m loc σ Q Φ tp hr h K=>
 wpAny_Assign_Subscript (ha.ev C m loc σ _ _ hr h fun v u ae au ay aK h=>ho.ev C m loc ae _ _ au h fun r w ao aC aG bU h=>hi.ev C m loc ao _ _ aC h fun j w' fH bW cK j8 h=>
  jD bW h (bU.up cK) j8 ((aK.up aG).up cK) fun s' H' dM le' h=>iR K dM (((ay.trans aG).trans cK).trans le') h) (hY hc ..)
theorem rh{op:Operator}{a b:PV}{x y:Value}{R:PV→aa→Prop}{Φ E:Value→Shared→Prop}(hr:Here C m loc σ)(k:Good C m loc σ (VR X) R Φ)(hx:VR X σ.W a x)(hy:VR X σ.W b y)(h:wAug op a b fun v=>R v σ.H):wpAny X.M A (inplaceOp op x y) Φ E σ.s:=by
 cases op with
 |Add=>obtain⟨i,j,t,u,rfl,rfl,h⟩:=iY h hx hy;exact PyProof.Rows.iadd_int (cJ k hr h (.int _ _))
 |_=>exact h.elim
theorem Ah{x:Str}{i:Nat}{op:Operator}{a:Expr}{ia:IE}(p pos:Pos)(ev:EnvOk env)(inj:fQ ν)(hx:env.kindOf x=some .local)(hi:ν.lookup x=some i)(hc:(x == ("__classdict__":Str))=false)(ha:az X P n env ν a ia):
  dK X P n env ν (.AugAssign (.Name x p) op a pos) (.aug i op ia):=fun C m loc σ Q Φ tp hr h K=>by
 obtain⟨w,hv,h⟩:=look.el h
 obtain⟨u,nr,vr⟩:=hr.lr x i w hi hv
 exact wpAny_AugAssign_Name (kN ev hr nr hc (ha.ev C m loc σ _ _ hr h fun v u' ae au ay aK h=>rh (R:=fun w H=>putL w loc i fun l=>Q .next l H) au (fun v' b ao aC aG bU h=>have z:=putL.el h;eG inj ev.kind aC hx hi bU z.1 (tw.ok K (ay.trans aG) z.2)) (vr.up ay) aK h))
noncomputable def h9(e:Expr):Bool:= !(e.ctorIdx == 26)
theorem rj{i:Expr}(h:h9 i=true)(ov iv new:Value):augStore i ov iv new=(do holding [new,ov,iv] (setItem ov iv new);release [new,ov,iv] [];pure .next):=by
 cases i<;>first|rfl|cases h
theorem Ai{o i a:Expr}{op:Operator}{io ii ia:IE}(p pos:Pos)(ns:h9 i=true)(ho:az X P n env ν o io)(hi:az X P n env ν i ii)(ha:az X P n env ν a ia):
  dK X P n env ν (.AugAssign (.Subscript o i p) op a pos) (.lx io ii op ia):=fun C m loc σ Q Φ tp hr h K=>
 wpAny_AugAssign_SubscriptAny (ho.ev C m loc σ _ _ hr h fun r u ae au ay aK h=>hi.ev C m loc ae _ _ au h fun j w ao aC aG bU h=>by
  refine(oO (E:=C.Ψ) aC (aK.up aG) bU h fun old y tk vr h=> ?_).1
  have t:=aC.toks (tk:=tk)
  refine ha.ev C m loc ⟨{ao.s with toks:=tk},ao.W,ao.H⟩ _ _ t.1 h fun v b fH bW cK j8 h=> ?_
  refine rh (R:=fun w H=>f7 H r j w fun H=>Q .next loc H) bW (fun w c hV hW mL v₄ h=> ?_) (vr.up (t.2.trans cK)) j8 h
  exact jD hW h ((((aK.up aG).up t.2).up cK).up mL) (((bU.up t.2).up cK).up mL) v₄ fun s' H' dM le' h=>iR K dM ((((ay.trans aG).trans (t.2.trans cK)).trans mL).trans le') h) (fun ov iv new=>rj ns ov iv new)
end
end
section
open PyProof.Rows PySem.Calls PySem.W
theorem mQ{M:Model}{A:Around}{E:Value→Shared→Prop}{s:Shared}{base:Heap}{l:List Env}{env:Env}{L e:Addr}{cls a0:Value}(hf:env.frame=some L)(hh:Heap.HeldW base l e cls a0 L s.heap)
  (hQ:∀h',Heap.HeldW base l e cls a0 L h'→s.heap.UpToSlots h'→E (.ref e) {s with heap:=h'}):cameBackBy M A env E (.ref e) s:=by
 revert M A E s base l env L e cls a0
 apply aT;intro
 generalize bX .. =M,bY .. =A,bZ .. =E,b7 .. =s,cv .. =base,cw .. =l,cx .. =env,cy .. =L
 apply aP;intro
 generalize bP .. =e,bS .. =cls
 apply aJ;intro
 generalize nx .. =a0
 intro hf hh hQ
 obtain⟨f1,f2,f3,oe,vs,T,oT,ts,he,hcls,hd,h1,hnT,hTe,hT,hdT,h3⟩:=hh
 have hsz3:3<ts.size:=(Array.getElem?_eq_some_iff.mp h3).1
 have other:∀b,b≠T→(s.heap.update T (Obj.mapFields (·.setIfInBounds 3 ((some L:Option Addr).elim Value.none fun f=>rawInt f)))).get? b=s.heap.get? b:=
  fun b hb=>Heap.get?_update_other _ _ (Ne.symm hb)
 have rn:∀b o,s.heap.get? b=some o→(∀vs,o.data≠.fields vs)→b≠T:=fun b o hb hnf q=>by
  rw[q,hT] at hb;injection hb with hb;subst hb;exact hnf ts hdT
 unfold cameBackBy
 refine wpAny_bind (wpAny_field he hd h1 ?_)
 rw[if_neg (show ¬(Value.ref T == Value.none)=true from by simp)]
 unfold setFlight
 refine wpAny_bind (wpAny_field he hd h1 ?_)
 rw[if_pos (show(Value.ref T !=Value.none)=true from by simp),hf]
 refine wpAny_setField hT hdT hsz3 (hQ _ ⟨fun b o hbo=>(other b fun q=>by rw[q,hnT] at hbo;cases hbo).trans (f1 b o hbo),f2,
  f3.of_keeps fun b o hb hnf=>⟨o,(other b (rn b o hb hnf)).trans hb,rfl⟩,?_⟩ fun b o hb hnf=>⟨o.slots,(other b (rn b o hb hnf)).trans hb⟩)
 exact⟨oe,vs,T,_,_,(other e (Ne.symm hTe)).trans he,hcls,hd,h1,hnT,hTe,Heap.get?_update_self _ hT (Obj.isFreed_of_fields (Obj.data_mapFields hdT _)),Obj.data_mapFields hdT _,by simp[hsz3]⟩
section
variable {X:Cx}{P:ec}{n:Nat}{env:Env}{ν ν':Nu}{C:Ct X n env ν}{m m₁ m₂:Str→Option Value}{loc aM ja:Loc}{σ gi ae ao:Pt}{A:Around}{s:Shared}{W ct fu W':Wd}{H H':aa}{h h₁ d7 h' g base:Heap}{L c D I e:Addr}{l:List Env}{E:Value→Shared→Prop}{Q:QL}{Φ:Flow→Shared→Prop}{fp:List Addr}{src:Src}{k k':Nat}
theorem kQ:∀{is js:List Nat} {vs us:List PV} {loc:Loc},is.length=vs.length→sets (is++js) (vs++us) loc=sets js us (sets is vs loc)
 |[],_,[],_,_,_=>rfl
 |_::is,js,_::vs,us,_,h=>kQ (is:=is) (vs:=vs) (Nat.succ.inj h)
theorem oS{i:Nat}{v:PV}:∀{js:List Nat} {us:List PV} {loc:Loc},i∉js→sets js us (loc.set i (some v))=(sets js us loc).set i (some v)
 |[],_,_,_=>rfl
 |_::_,[],_,_=>rfl
 |j::js,u::us,loc,h=>by
  show sets js us ((loc.set i (some v)).set j (some u))=_
  have ne:i≠j:=fun z=>h (z▸.head _)
  rw[List.set_comm _ _ ne,oS fun z=>h (.tail _ z)];rfl
theorem jE:∀{is:List Nat} {vs:List PV} {loc:Loc},is.Nodup→is.length=vs.length→sets is.reverse vs.reverse loc=sets is vs loc
 |[],[],_,_,_=>rfl
 |i::is,v::vs,loc,hn,hl=>by
  have hn':=List.nodup_cons.mp hn
  have hl:=Nat.succ.inj hl
  rw[List.reverse_cons,List.reverse_cons,kQ (by rw[List.length_reverse,List.length_reverse];exact hl),jE hn'.2 hl]
  exact(oS hn'.1).symm
theorem Stores.append{fs gs:List (Value→Sem Unit)}{is js:List Nat}(a:Stores env ν fs is)(b:Stores env ν gs js):Stores env ν (fs++gs) (is++js):=by
 induction a with
 |nil=>exact b
 |cons h h1 h2 _ ih=>exact .cons h h1 h2 ih
theorem Stores.reverse{fs:List (Value→Sem Unit)}{is:List Nat}(a:Stores env ν fs is):Stores env ν fs.reverse is.reverse:=by
 induction a with
 |nil=>exact .nil
 |cons h h1 h2 _ ih=>rw[List.reverse_cons,List.reverse_cons];exact ih.append (.cons h h1 h2 .nil)
noncomputable def nameOf(e:Expr):Option Str:=swappedStores.match_8 (fun _=>Option Str) e (fun x _=>some x) fun _=>none
theorem gm.binds{es:List Expr}{is:List Nat}(x:gm env ν es is){names:List Str}(h:names=es.filterMap nameOf):names.length=is.length∧Stores env ν (names.map fun n=>bindName env n) is:=by
 subst h
 induction x with
 |nil=>exact⟨rfl,.nil⟩
 |cons h1 h2 _ ih=>exact⟨congrArg (· +1) ih.1,.cons (fun h=>wpAny_bindName h) h1 h2 ih.2⟩
noncomputable def nameAt(kind:Str→Option NameKind)(line:Nat)(e:Expr):Option Str:=swappedStores.match_8 (fun _=>Option Str) e (fun id pos=>if kind id == some .local && pos.line == line then some id else none) fun _=>none
noncomputable def isStar(e:Expr):Bool:=swappedStores.match_5 (fun _=>Bool) e (fun _ _=>true) fun _=>false
noncomputable def jF(ts vs:List Expr)(kind:Str→Option NameKind):Option (Option (List Str)):=
 if(!(ts.length == 2 || ts.length == 3) || vs.length !=ts.length)=true then some none
 else if vs.any isStar=true then some none
 else if((ts.filterMap (nameAt kind ((ts.head?.map (·.pos.line)).getD 0))).length !=ts.length || (ts.filterMap (nameAt kind ((ts.head?.map (·.pos.line)).getD 0))).eraseDups.length !=(ts.filterMap (nameAt kind ((ts.head?.map (·.pos.line)).getD 0))).length)=true then some none
 else if vs.all (foldedForSure 8)=true then some none
 else if vs.all (constantsAlone 8)=true then none
 else some (some (ts.filterMap (nameAt kind ((ts.head?.map (·.pos.line)).getD 0))))
def Pq(a:Option (Option (List Str)))(m:Sem (Option (List Str))):Prop:=∀x,a=some x→m=pure x
theorem Pq.ite{c:Prop}[Decidable c]{a b:Option (Option (List Str))}{m n:Sem (Option (List Str))}(h:Pq a m)(k:Pq b n):Pq (if c then a else b) (if c then m else n):=by
 split<;>assumption
theorem Pq.none{m:Sem (Option (List Str))}:Pq none m:=fun _ h=>by cases h
theorem Pq.some{x:Option (List Str)}:Pq (some x) (pure x):=fun _ h=>by cases h;rfl
theorem mR(hb:env.scope.kind=.function){ts vs:List Expr}{k k':Nat}{p p':Pos}{x:Option (List Str)}(h:jF ts vs env.kindOf=some x):swappedStores [.Tuple ts k p] (.Tuple vs k' p') env=pure x:=by
 have hbk:(env.blockKind !=.function)=false:=by unfold Env.blockKind;rw[hb];rfl
 have main:swappedStores [.Tuple ts k p] (.Tuple vs k' p') env=(if(!(ts.length == 2 || ts.length == 3) || vs.length !=ts.length || env.blockKind !=.function)=true then pure none
   else if vs.any isStar=true then pure none
   else if((ts.filterMap (nameAt env.kindOf ((ts.head?.map (·.pos.line)).getD 0))).length !=ts.length || (ts.filterMap (nameAt env.kindOf ((ts.head?.map (·.pos.line)).getD 0))).eraseDups.length !=(ts.filterMap (nameAt env.kindOf ((ts.head?.map (·.pos.line)).getD 0))).length)=true then pure none
   else if vs.all (foldedForSure 8)=true then pure none
   else if vs.all (constantsAlone 8)=true then unsupported "assign.tuple-of-constant-expressions:order-of-the-stores"
   else pure (some (ts.filterMap (nameAt env.kindOf ((ts.head?.map (·.pos.line)).getD 0))))):=rfl
 rw[hbk,Bool.or_false] at main
 exact main▸(Pq.ite .some (.ite .some (.ite .some (.ite .some (.ite .none .some)))):Pq (jF ts vs env.kindOf) _) x h
noncomputable def Aj(e:Expr):Bool:=e.ctorIdx == 25
theorem oo{ts:List Expr}{k:Nat}{p:Pos}{v:Expr}(h:Aj v=false):swappedStores [.Tuple ts k p] v env=pure none:=by
 cases v<;>first|rfl|cases h
theorem vd{ts:List Expr}{k:Nat}{p:Pos}{a:Expr}(hc:dA a=true)(ln:Nat):swapsWithSole [.Tuple ts k p] a ln env=pure false:=by
 have e:swapsWithSole [.Tuple ts k p] a ln env=swapsWith a (some (.Tuple ts k p)) ln env:=by unfold swapsWithSole;rfl
 rw[e]
 exact hY hc _ _ _
theorem xH{elt:Expr}{gens:List Comprehension}{scope:Scope}{pos p:Pos}{x:Str}(hb:env.scope.kind=.function)(hx:env.kindOf x=some .local)(hl:(p.line == pos.line)=true)(hn:(scope.names.any fun z=>z.1 == x && (z.2 == .local || z.2 == .cell))=false)(k:Nat):
  swapsWith (.ListComp elt gens scope pos) (some (.Name x p)) k env=pure true:=by
 unfold swapsWith
 dsimp only
 have hbk:(env.blockKind == .function)=true:=by unfold Env.blockKind;rw[hb];rfl
 have hl':(p.line == (Expr.ListComp elt gens scope pos).pos.line)=true:=hl
 rw[hbk,hx,hl']
 have:(scope.names.any fun x_1=>match x_1 with|(n,k)=>n == x && (k == NameKind.local || k == NameKind.cell))=false:=hn
 rw[this]
 rfl
theorem ro{ts:List Expr}{is:List Nat}{a:Expr}{ia:IE}{k:Nat}(p pos:Pos)(inj:fQ ν)(lQ:env.scope.kind=.function)(ns:gm env ν ts is)(nd:is.Nodup)(hc:dA a=true)
  (hw:swappedStores [.Tuple ts k p] a env=pure none∨∃names,swappedStores [.Tuple ts k p] a env=pure (some names)∧names=ts.filterMap nameOf) (ha:az X P n env ν a ia):
  dK X P n env ν (.Assign [.Tuple ts k p] a pos) (.bH is ia):=by
 revert X P n env ν ts is a ia k p pos
 apply aT;intro
 generalize bX .. =X,bY .. =P,bZ .. =n,b7 .. =env,cv .. =ν,cw .. =ts,cx .. =is,cy .. =a
 apply aN;intro
 generalize bM .. =ia,bN .. =k,bQ .. =p,bR .. =pos
 intro inj lQ ns nd hc hw ha
 apply aJ;intro
 generalize nx .. =C
 apply aN;intro
 generalize bM .. =m,bN .. =loc,bQ .. =σ,bR .. =Q
 apply aJ;intro
 generalize nx .. =Φ
 intro tp hr h K
 rcases hw with hw|⟨names,hw,hn⟩
 ·exact Assign_Tuple (ha.ev C m loc σ _ _ hr h fun v u ae au ay aK h=>by
   obtain⟨ls,rfl,h1⟩:=jn.el h
   exact mJ (Q:=fun _=>Φ .next) ns inj lQ au aK h1 fun eO q=>tw.ok K ay q) (vd hc _) hw
 ·refine Assign_Tuple_swapped (names:=names) (ha.ev C m loc σ _ _ hr h fun v u ae au ay aK h=> ?_) (vd hc _) hw
  obtain⟨ls,rfl,h1⟩:=jn.el h
  obtain⟨hl,hb,q⟩:=iQ.el h1
  obtain⟨b,vs,rfl,hT,vr⟩:=fG au.rel aK
  obtain⟨bl,bn⟩:=ns.binds hn
  have hz:names.length=vs.toArray.size:=by rw[bl,List.size_toArray,←vr.length,hl]
  rw[hz]
  refine wpAny_unpackItems_tuple (C.ak hr.ok).handled (show ae.s.heap.IsTuple b vs.toArray from hT) fun h' he=> ?_
  have hk:∀b o,ae.s.heap.get? b=some o→h'.get? b=some o:=fun b o e=>he b o (Nat.ne_of_lt (Heap.lt_size e)) e
  have z:=au.ez (tk:=ae.s.toks) (fun a o e _=>hk a o e) (Fr.ez au.st.F hk)
  have st:=bn.reverse
  rw[←List.map_reverse] at st
  refine st.run (Q:=fun _=>Φ .next) inj lQ z.1 vr.reverse (by rw[List.length_reverse,List.length_reverse];exact hl) (fun x hx=>hb x (List.mem_reverse.mp hx)) ?_
  rw[jE nd hl]
  exact tw.up (tw.ok K ay q) z.2
theorem mS{elt target iter:Expr}{scope:Scope}{pos spos p:Pos}{cg:List Nat}{gU:gZ}{ielt:IE}{x:Str}{i:Nat}(inj:fQ ν)(ev:EnvOk env)(hx:env.kindOf x=some .local)(hi:ν.lookup x=some i)(hl:(p.line == pos.line)=true)(hn:(scope.names.any fun z=>z.1 == x && (z.2 == .local || z.2 == .cell))=false)
  (Ae:∀x∈scope.names,x.2=.free→∃ca,env.cells.lookup x.1=some ca) (jB:scope.kind=.function) (q7:∀y∈scope.names,y.2≠.cell) (mN:∀x∈scope.names,x.2=.local→scope.names.lookup x.1=some .local) (kP:gG iter=true)
  (tg:∀cl C,Cb (compEnvC scope cl C env) ν' target cg) (inj':fQ ν')
  (vis:∀cl C,(∀y ca,(y,NameKind.free)∈scope.names→env.cells.lookup y=some ca→cl.lookup y=some ca)→Vis env (compEnvC scope cl C env) ν ν' cg) (hs:dJ X P n env ν iter gU)
  (he:∀cl C,(∀y ca,(y,NameKind.free)∈scope.names→env.cells.lookup y=some ca→cl.lookup y=some ca)→az X P n (compEnvC scope cl C env) ν' elt ielt)
  (pl:du target=true∨(cm target=true∧cW gU=true)):dK X P n env ν (.Assign [.Name x p] (.ListComp elt [⟨target,iter,[],0⟩] scope pos) spos) (.assign i (.comp cg gU ielt)):=fun C m loc σ Q Φ tp hr h K=>by
 obtain⟨cl,hcl,hlk⟩:=mM scope env Ae
 rw[exec_Assign_Name_used _ _ _ _ (xH ev.kind hx hl hn _)]
 refine wpAny_bind (wpAny_standAt (wpAny_bind ?_))
 show wpAny _ C.A (do let _ ←comprehension (.ListComp elt [⟨target,iter,[],0⟩] scope pos) scope env _ (newList []) false (eval iter env) (some (assign (.Name x p) env))) _ _ σ.s
 have h:wE P (aj P n) (.comp cg gU ielt) loc σ.H (fun v H=>putL v loc i fun l=>Q .next l H) fun k H=>C.E k loc H:=h
 refine wpAny_bind (wpAny_mono (oQ (use:=some (assign (.Name x p) env)) (Q:=fun _ s'=>Φ .next s') hcl jB q7 mN kP (tg cl) inj' (fun C=>vis cl C hlk) hs (fun C=>he cl C hlk) pl hr h fun vs D c bo hlen q ce=> ?_) (fun _ s' hq=>wpAny_pure (wpAny_pure hq)) fun _ _ e=>e)
 obtain⟨sG,q⟩:=putL.el q
 obtain⟨us,d,gD,rv⟩:=ce.list
 have cD:=ce.offD D (.head _)
 have cc:=ce.xC c (.head _)
 have y:=hr.late (o:=.list vs) (h':=bo.s.heap) (tk:=bo.s.toks) ce.dD ce.hr ce.le cD.1 cD.2.1 (fun b o e _=>e) ⟨rfl,us,d,gD,rv.mono (Ext.add bo.W (h:=σ.s.heap) ce.dD ce.dD)⟩
 show wpAny X.M C.A (assign (.Name x p) env (.ref D)) _ _ bo.s
 refine wpAny_assign_Name (eG (σ:=⟨bo.s,bo.W.add (D,D),bo.H++[.list vs]⟩) inj ev.kind y.1 hx hi y.2.2 sG fun m2 s2 hr2 le2=> ?_)
 obtain⟨mc,oc,es,ep,gc,rc⟩:=ce.ns
 have noc:¬Own (bo.W.add (D,D)) c:=by
  rintro⟨q,hq,z⟩
  rcases List.mem_append.mp hq with hq|hq
  ·exact cc.1 ⟨q,hq,z⟩
  ·rw[List.mem_singleton.mp hq] at z
   rcases z with z|z<;>exact ce.Dc z.symm
 refine⟨mc,⟨oc,es,ep,le2.step.keep c oc gc noc cc.2.2.1 cc.2.2.2,rc⟩,fun h' vc=> ?_⟩
 have N:=gj (tk:=s2.toks) hr2 (fp:=[c]) (fun a ha=>by rw[in1 ha];exact⟨noc,cc.2.1,cc.2.2⟩) fun a o e q=>(vc.2 a (qY q)).trans e
 have dc:∀a∈[c],σ.s.heap.get? a=none:=fun a ha=>by rw[in1 ha];exact ce.dC
 exact iR K (N.here hr2 ce.le0 dc) (N.le (y.2.1.trans le2) dc) q
noncomputable def Ct.noE(C:Ct X n env ν)(Ψ:Value→Shared→Prop):Ct X n env ν:=⟨C.A,C.l,C.B,nES,Ψ,C.ok,C.ak,C.fr,fun _ _ _ _ _ _ _ _ _ _ _ _ _ h=>h.elim⟩
theorem tD{c:Expr}{ic:IE}{b:List Stmt}{ib:cp}(pos:Pos)(hc:iK X P n env ν c ic)(hb:fK X P n env ν b ib):dK X P n env ν (.While c b [] pos) (.while ic ib):=by
 revert X P n env ν c ic b ib pos
 apply aT;intro
 generalize bX .. =X,bY .. =P,bZ .. =n,b7 .. =env,cv .. =ν,cw .. =c,cx .. =ic,cy .. =b
 apply aP;intro
 generalize bP .. =ib,bS .. =pos
 intro hc hb
 apply aJ;intro
 generalize nx .. =C
 apply aN;intro
 generalize bM .. =m,bN .. =loc,bQ .. =σ,bR .. =Q
 apply aJ;intro
 generalize nx .. =Φ
 intro tp hr h K
 have h:j1 (wT P (aj P n) ic) (wSs P (aj P n) ib) loc σ.H Q:=h
 unfold j1 at h
 obtain⟨N,J,j0,step⟩:=h
 refine wpAny_While (codeAny_whileLoop (fun f s=>∃m₁ aM ae,s=ae.s∧J f aM ae.H∧Here C m₁ aM ae∧Le C.l env.locals σ ae) ?_ N ⟨m,loc,σ,rfl,j0,hr,.refl σ⟩)
 rintro f _ ⟨m₁,aM,ae,rfl,j,au,ay⟩
 refine hc (C.noE _) m₁ aM ae _ _ _ ⟨au.st,au.lr,au.le,au.ok⟩ (step f aM ae.H j) (fun ao aC aG h=> ?_) fun ao aC aG h=> ?_
 ·rw[if_pos rfl]
  refine hb (C.noE _) m₁ aM ao _ _ ⟨tp.top,tp.frame⟩ ⟨aC.st,aC.lr,aC.le,aC.ok⟩ h fun fl f' fH m₃ tE bW cK fr q=> ?_
  have le:=(ay.trans aG).trans cK
  cases fr with
  |next=>obtain⟨j,hj,q⟩:=q;exact⟨j,hj,m₃,tE,fH,rfl,q,⟨bW.st,bW.lr,bW.le,bW.ok⟩,le⟩
  |cont=>obtain⟨j,hj,q⟩:=q;exact⟨j,hj,m₃,tE,fH,rfl,q,⟨bW.st,bW.lr,bW.le,bW.ok⟩,le⟩
  |ret vr=>exact K _ _ fH m₃ tE ⟨bW.st,bW.lr,bW.le,bW.ok⟩ le (.ret vr) q
 ·rw[if_neg (by decide)]
  exact wpAny_execs_nil (iR K ⟨aC.st,aC.lr,aC.le,aC.ok⟩ (ay.trans aG) h)
theorem Flew.same{x y:XK}(z:Flew X l L W h x H' e W' base h₁)(fr:j2 W h l)(sm:h₁.UpToSlots d7)(fl:zu X y base l e d7):Flew X l L W h y H' e W' base d7:=by
 refine⟨z.toExt,z.R,fl,z.keep,fun a o ea n1 n2=> ?_⟩
 obtain⟨sl,e1⟩:=z.slots a o ea n1 n2
 obtain⟨en,he,hf⟩:=List.mem_filterMap.mp n2
 obtain⟨_,L',o',g1,_,_,g4,g5⟩:=fr en he
 rw[hf] at g1;cases g1
 rw[ea] at g4;cases g4
 obtain⟨w7,e2⟩:=sm a _ e1 g5
 exact⟨w7,e2⟩
noncomputable def Ct.loop(C:Ct X n env ν):Ct X n env ν:=
 ⟨C.A,C.l,C.B,ml C.E,notedBy X.M C.A env fun e s'=>cameBackBy X.M C.A env C.Ψ e s',C.ok∧Top C,fun z=>C.ak z.1,fun z=>C.fr z.1,fun z k m loc H' e W' base s' fl F lr q h=>by
  cases k with
  |made=>exact h.elim
  |held=>exact h.elim
  |flying=>
   obtain⟨outer,ho⟩:=z.2.top
   obtain⟨a0,tF⟩:=fl.j5
   have hA:=(C.ak z.1).frames
   rw[ho] at hA tF
   refine wpAny_looks_onW hA z.2.frame tF fun h5 hh sm=>mQ z.2.frame hh fun h6 hh6 sm6=> ?_
   refine C.bad z.1 .held m loc H' e W' base {s' with heap:=h6} (fl.same (C.fr z.1) (sm.trans sm6) ⟨a0,env.locals,env,outer,ho,z.2.frame,by rw[ho];exact hh6⟩) ⟨sm6.ns (sm.ns F.ns),fun b o eb=>hh6.1 b o (fl.R.keep b o eb),F.above⟩ lr q h⟩
theorem Ak{target iter:Expr}{b:List Stmt}{cg:List Nat}{gU:gZ}{ib:cp}(pos:Pos)(tg:Cb env ν target cg)(inj:fQ ν)(lQ:env.scope.kind=.function)(kP:gG iter=true)(hs:dJ X P n env ν iter gU)
  (pl:du target=true∨(cm target=true∧cW gU=true)) (hb:fK X P n env ν b ib):dK X P n env ν (.For target iter b [] pos) (.for cg gU ib):=by
 revert X P n env ν target iter b cg gU ib pos
 apply aT;intro
 generalize bX .. =X,bY .. =P,bZ .. =n,b7 .. =env,cv .. =ν,cw .. =target,cx .. =iter,cy .. =b
 apply aN;intro
 generalize bM .. =cg,bN .. =gU,bQ .. =ib,bR .. =pos
 intro tg inj lQ kP hs pl hb
 apply aJ;intro
 generalize nx .. =C
 apply aN;intro
 generalize bM .. =m,bN .. =loc,bQ .. =σ,bR .. =Q
 apply aJ;intro
 generalize nx .. =Φ
 intro tp hr h K
 refine wpAny_For (hs C m loc σ _ _ hr h fun src I fp bo dM le it off dead hp w=> ?_) (fun x=>u9 kP env x)
 unfold mn at w
 obtain⟨N,item,J,j0,get,fin,step,done⟩:=w
 have pl':du target=true∨(cm target=true∧pP src):=pl.imp id fun y=>⟨y.1,hp y.2⟩
 refine codeAny_forLoop_any (fun f s=>∃k m₁ aM ae,s=ae.s∧f+k=N∧J k aM ae.H∧Here C m₁ aM ae∧Le C.l env.locals σ ae∧It X ae.W ae.s.heap src k I fp∧OffW ae.W C.l env.locals fp) ?_ N ⟨0,m,loc,bo,rfl,rfl,j0,dM,le,it,off⟩
 rintro f _ ⟨k,m₁,aM,ae,rfl,hf,j,au,ay,it,off⟩
 cases f with
 |zero=>
  obtain rfl:k=N:=(Nat.zero_add k).symm.trans hf
  exact z9 it au off (fin _ _ j) fun h' N'=>wpAny_execs_nil (iR K (N'.here au hr.le dead) (N'.le ay dead) (done _ _ j))
 |succ f=>
  have hk:k<N:=by exact ar105 hf
  refine u7 it au off pl' (get _ _ _ j hk) fun u eQ go=>go _ fun ao N' vr it₂=> ?_
  have sp:=step k aM ae.H hk j
  rw[←N'.H] at sp
  have aC:=N'.here au hr.le dead
  refine mK tg inj lQ aC vr sp fun eO sp m3 s3 hr3 le3=> ?_
  have le2:=N'.le ay dead
  refine hb C.loop m3 eO ⟨s3,ao.W,ao.H⟩ _ _ ⟨tp.top,tp.frame⟩ ⟨hr3.st,hr3.lr,hr3.le,hr3.ok,tp⟩ sp fun fl f' hV m₄ pT hW mL fr q=> ?_
  have T:=le3.trans mL
  have off2:=off.mono N'.ext it.live
  have inv:∀{a},a∈fp→∀o,ao.s.heap.get? a=some o→hV.s.heap.get? a=some o:=fun ha o e=>have z:=off2 _ ha;T.step.keep _ o e z.1 z.2.2.1 z.2.2.2
  have hW:Here C m₄ pT hV:=⟨hW.st,hW.lr,hW.le,hW.ok.1⟩
  have next:J (k+1) pT hV.H→∃g,g<f+1∧∃k m₁ aM ae,hV.s=ae.s∧g+k=N∧J k aM ae.H∧Here C m₁ aM ae∧Le C.l env.locals σ ae∧It X ae.W ae.s.heap src k I fp∧OffW ae.W C.l env.locals fp:=fun q=>
   ⟨f,Nat.lt_succ_self f,k+1,m₄,pT,hV,rfl,by exact(Nat.add_right_comm _ _ 1).trans hf,q,hW,le2.trans T,it₂.mono T.ext fun a ha=>inv ha,off2.mono T.ext it₂.live⟩
  cases fr with
  |next=>exact next q
  |cont=>exact next q
  |ret vr=>exact K _ _ hV m₄ pT hW (le2.trans T) (.ret vr) q
end
end
section
open PyProof.Rows PySem.Calls PySem.W
set_option genInjectivity false
theorem rq{α β:Type}(f:α→β→β)(g:α→β→Sem (ForInStep β))(h:∀a b,g a b=pure (.yield (f a b)))(l:List α):∀(b:β),forIn l b g=pure (l.foldl (fun b a=>f a b) b):=by
 induction l with
 |nil=>
  intro b
  exact rfl
 |cons a l ih=>
  intro b
  rw[List.forIn_cons,h,pure_bind]
  exact ih (f a b)
theorem gR{xs:List Str}{vs:List Value}{n:Str}:(∃i,xs[i]? =some n∧i<vs.length)→((xs.zip vs).lookup n).isSome=true:=by
 induction xs generalizing vs with
 |nil=>rintro⟨i,h,_⟩;simp at h
 |cons x xs ih=>
  rintro⟨i,h,hi⟩
  cases vs with
  |nil=>simp at hi
  |cons v vs=>
   rw[List.zip_cons_cons,List.lookup_cons]
   by_cases q:(n == x)=true
   ·rw[q];rfl
   ·rw[Bool.not_eq_true] at q
    rw[q]
    cases i with
    |zero=>simp at h;subst h;simp at q
    |succ i=>exact ih ⟨i,by simpa using h,by simpa using hi⟩
theorem lz{xs:List Str}{vs:List Value}{n:Str}(h:n∉xs):(xs.zip vs).lookup n=none:=by
 induction xs generalizing vs with
 |nil=>rfl
 |cons x xs ih=>
  cases vs with
  |nil=>rfl
  |cons v vs=>
   rw[List.zip_cons_cons,List.lookup_cons]
   have:(n == x)=false:=by simp;rintro rfl;exact h (.head _)
   rw[this]
   exact ih fun z=>h (.tail _ z)
theorem lC{xs:List Str}{us ds:List Value}:xs.zip (us++ds)=xs.zip us++(xs.drop us.length).zip ds:=by
 induction us generalizing xs with
 |nil=>simp
 |cons u us ih=>
  cases xs with
  |nil=>simp
  |cons x xs=>simp[ih]
theorem oq{xs:List Str}(nd:xs.Nodup):∀(us ds:List Value) (k:Nat),k≤us.length→us.length≤k+ds.length→k+ds.length=xs.length→
  ((xs.drop k).zip ds).foldl (fun(S:List (Str×Value)) (a:Str×Value)=>if(S.lookup a.1).isNone=true then S++[(a.1,a.2)] else S) (xs.zip us)=xs.zip (us++ds.drop (us.length - k)):=by
 intro us ds
 induction ds generalizing us with
 |nil=>
  intro k h1 h2 h3
  simp
 |cons d ds ih=>
  intro k h1 h2 h3
  have hk:k<xs.length:=by rw[←h3];simp
  rw[List.drop_eq_getElem_cons hk,List.zip_cons_cons,List.foldl_cons]
  by_cases q:k<us.length
  ·have:((xs.zip us).lookup xs[k]).isSome=true:=gR ⟨k,List.getElem?_eq_getElem hk,q⟩
   rw[if_neg (by rw[Option.isNone_eq_false_iff.mpr this];decide)]
   have:=ih us (k+1) q (by simp at h2 ⊢;exact ar118 h2) (by simp at h3 ⊢;exact(Nat.add_right_comm _ 1 _).trans h3)
   rw[this]
   congr 2
   have e:us.length - k=(us.length - (k+1))+1:=by exact ar126 q
   rw[e,List.drop_succ_cons]
  ·have hku:us.length=k:=by exact Nat.le_antisymm (Nat.not_lt.mp q) h1
   have hnone:(xs.zip us).lookup xs[k]=none:=by
    have e:∀(xs:List Str) (us:List Value),xs.zip us=(xs.take us.length).zip us:=fun xs=>by
     induction xs with
     |nil=>intro us;simp
     |cons x xs ih=>intro us;cases us with
      |nil=>simp
      |cons u us=>rw[List.zip_cons_cons,ih us];simp
    rw[e,hku]
    refine lz fun hm=> ?_
    obtain⟨i,hi,he⟩:=List.mem_iff_getElem.mp hm
    rw[List.getElem_take] at he
    have P:=List.pairwise_iff_getElem.mp nd
    have hi':i<k:=by simp at hi;exact Nat.lt_of_lt_of_le hi (Nat.min_le_left _ _)
    exact P i k (by lia) hk hi' he
   rw[if_pos (by rw[hnone];rfl)]
   have e2:xs.zip us++[(xs[k],d)]=xs.zip (us++[d]):=by
    rw[lC,hku,List.drop_eq_getElem_cons hk,List.zip_cons_cons,List.zip_nil_right]
   rw[e2]
   have:=ih (us++[d]) (k+1) (by simp;exact h1) (by simp;exact Nat.le_add_right_of_le (Nat.succ_le_succ (Nat.not_lt.mp q))) (by simp at h3 ⊢;exact(Nat.add_right_comm _ 1 _).trans h3)
   rw[this]
   congr 1
   simp[hku]
theorem mT{xs:List Str}:∀{vs:List Value},xs.Nodup→vs.length=xs.length→∀(S:List (Str×Value)),(∀n∈xs,S.lookup n=(xs.zip vs).lookup n)→xs.filterMap (fun n=>(S.lookup n).map (n,·))=xs.zip vs:=by
 induction xs with
 |nil=>intro vs _ h S _;rfl
 |cons x xs ih=>
  intro vs nd h S hS
  cases vs with
  |nil=>simp at h
  |cons v vs=>
   have nd':=List.nodup_cons.mp nd
   rw[List.zip_cons_cons,List.filterMap_cons,hS x (.head _),List.zip_cons_cons,List.lookup_cons]
   simp only[beq_self_eq_true,Option.map_some]
   rw[ih nd'.2 (by simpa using h) S fun n hn=> ?_]
   rw[hS n (.tail _ hn),List.zip_cons_cons,List.lookup_cons]
   have:(n == x)=false:=by simp;rintro rfl;exact nd'.1 hn
   rw[this]
theorem Al{α:Type}{M:Model}{A:Around}{c:Prop}[Decidable c]{t k:Sem α}{Q:α→Shared→Prop}{E:Value→Shared→Prop}{s:Shared}(h:¬c)(g:wpAny M A k Q E s):wpAny M A (if c then t else k) Q E s:=by rw[if_neg h];exact g
theorem args_eq:∀{p:Arguments},p.posonlyargs=[]→p.kwonlyargs=[]→p.vararg=none→p.kwarg=none→p=⟨[],p.args,none,[],p.kw_defaults,none,p.defaults⟩:=fun {p} a b c d=>by cases p;cases a;cases b;cases c;cases d;rfl
theorem fd_eq{fd:FuncData}{p:Arguments}(h:fd.params=p):fd={fd with params:=p}:=by subst h;rfl
theorem bp_miss{N:List Str}{us ds:List Value}(h1:us.length≤N.length)(h2:N.length≤us.length+ds.length)(h3:ds.length≤N.length):(List.filter (fun n=>((N.zip us).lookup n).isNone) (List.take (N.length - ds.length) N))=[]:=by
 rw[List.filter_eq_nil_iff]
 intro x hx
 obtain⟨i,hi,he⟩:=List.mem_iff_getElem.mp hx
 rw[List.getElem_take] at he
 have hi':i<N.length - ds.length:=by simp at hi;exact hi
 have:((N.zip us).lookup x).isSome=true:=gR ⟨i,by rw[←he];exact List.getElem?_eq_getElem (by exact Nat.lt_of_lt_of_le hi' (Nat.sub_le _ _)),by exact Nat.lt_of_lt_of_le hi' (Nat.sub_le_of_le_add h2)⟩
 rw[Option.isNone_eq_false_iff.mpr this];decide
theorem bp_end{N:List Str}{us ds:List Value}(nd:N.Nodup)(h1:us.length≤N.length)(h2:N.length≤us.length+ds.length)(h3:ds.length≤N.length):
  List.filterMap (fun n=>(List.lookup n (List.foldl (fun(b:List (Str×Value)) (p:Str×Value)=>if(b.lookup p.1).isNone=true then b++[(p.1,p.2)] else b) (N.zip us) ((List.drop (N.length - ds.length) N).zip ds))).map (n,·)) (N++[])=N.zip (us++ds.drop (us.length+ds.length - N.length)):=by
 rw[List.append_nil,oq nd us ds (N.length - ds.length) (by exact Nat.sub_le_of_le_add h2) (by exact ar121 h1) (by exact Nat.sub_add_cancel h3),show us.length - (N.length - ds.length)=us.length+ds.length - N.length from by exact Nat.sub_sub_right _ h3]
 exact mT nd (by simp;exact ar128 h1 h2) _ fun n _=>rfl
theorem bp_core{s:Shared}{fd:FuncData}{a:List Arg}{kd:List (Option Expr)}{df:List Expr}{us ds:List Value}{N:List Str}(hN:a.map Arg.arg=N)
  (look:∀(M:Model) (A:Around) (E:Value→Shared→Prop),wpAny M A (seqItems? fd.defaults) (fun r s'=>(r.getD #[]).toList=ds∧s'=s) E s)
  (nd:N.Nodup) (h1:us.length≤N.length) (h2:N.length≤us.length+ds.length) (h3:ds.length≤N.length):
  BindsTo s {fd with params:=⟨[],a,none,[],kd,none,df⟩} ⟨us,[]⟩ (N.zip (us++ds.drop (us.length+ds.length - N.length))):=by
 revert s fd a kd df us ds N
 apply aT;intro
 generalize bX .. =s,bY .. =fd,bZ .. =a,b7 .. =kd,cv .. =df,cw .. =us,cx .. =ds,cy .. =N
 intro hN look nd h1 h2 h3
 subst hN
 intro M A E Q hq
 refine wpAny_bind (wpAny_pure (a:=((a.map Arg.arg).zip us,([]:List (Str×Value)))) ?_)
 refine wpAny_bind (wpAny_mono (look M A E) (fun r s' z=> ?_) fun _ _ z=>z)
 obtain⟨hr,rfl⟩:=z
 refine Al (show ¬(decide (us.length>(([]:List Str)++a.map Arg.arg).length) && true)=true from ?_) (Al (show ¬(!(List.filter (fun n=>(((a.map Arg.arg).zip us).lookup n).isNone) (List.take ((a.map Arg.arg).length - (List.drop ((r.getD #[]).toList.length - (a.map Arg.arg).length) (r.getD #[]).toList).length) (a.map Arg.arg))).isEmpty)=true from ?_) ?_)
 ·rw[Bool.and_true,decide_eq_true_iff];exact Nat.not_lt.mpr h1
 ·rw[hr,show ds.length - (a.map Arg.arg).length=0 from Nat.sub_eq_zero_of_le h3,List.drop_zero,bp_miss h1 h2 h3];decide
 refine wpAny_bind (wpAny_of_eq (rq (fun(p:Str×Value) (S:List (Str×Value))=>if(S.lookup p.1).isNone=true then S++[(p.1,p.2)] else S) _ (fun p b=>by obtain⟨x,d⟩:=p;dsimp only;split<;>rfl) _ _) ?_)
 refine wpAny_bind (wpAny_pure ?_)
 refine Al (show ¬(!(([]:List Str)).isEmpty)=true from by decide) (wpAny_pure ?_)
 show Q (List.filterMap (fun n=>(List.lookup n (List.foldl (fun(b:List (Str×Value)) (p:Str×Value)=>if(b.lookup p.1).isNone=true then b++[(p.1,p.2)] else b) ((a.map Arg.arg).zip us) ((List.drop ((a.map Arg.arg).length - (List.drop ((r.getD #[]).toList.length - (a.map Arg.arg).length) (r.getD #[]).toList).length) (a.map Arg.arg)).zip (List.drop ((r.getD #[]).toList.length - (a.map Arg.arg).length) (r.getD #[]).toList)))).map (n,·)) (a.map Arg.arg++[])) s'
 rw[hr,show ds.length - (a.map Arg.arg).length=0 from Nat.sub_eq_zero_of_le h3,List.drop_zero,bp_end nd h1 h2 h3]
 exact hq
theorem kR{s:Shared}{fd:FuncData}{us ds:List Value}{o:Obj}{T:Addr}{n:Nat}{names:List Str}
  (hp:fd.params.posonlyargs=[]) (hk:fd.params.kwonlyargs=[]) (hv:fd.params.vararg=none) (hkw:fd.params.kwarg=none) (hn:fd.params.args.map (·.arg)=names) (nd:names.Nodup)
  (hd:(fd.defaults=.ref T∧s.heap.get? T=some o∧o.data=.seq ds.toArray n)∨(fd.defaults=.none∧ds=[])) (h1:us.length≤names.length) (h2:names.length≤us.length+ds.length) (h3:ds.length≤names.length):
  BindsTo s fd ⟨us,[]⟩ (names.zip (us++ds.drop (us.length+ds.length - names.length))):=by
 rw[fd_eq (args_eq hp hk hv hkw)]
 refine bp_core hn (fun M A E=> ?_) nd h1 h2 h3
 rcases hd with⟨hd,ho,hs⟩|⟨hd,rfl⟩
 ·rw[hd];exact wpAny_seqItems ho hs ⟨rfl,rfl⟩
 ·rw[hd];exact wpAny_pure ⟨rfl,rfl⟩
theorem oU{kindOf:Str→Option NameKind}:∀{bs:List (Str×Value)} {m:Str→Option Value} {y:Str},y∉bs.map (·.1)→bindL kindOf bs m y=m y
 |[],_,_,_=>rfl
 |(n,v)::r,m,y,h=>by
  unfold bindL
  rw[oU fun z=>h (.tail _ z)]
  have:y≠n:=fun z=>h (z▸.head _)
  split
  ·show(if y=n then some v else m y)=m y
   rw[if_neg this]
  ·rfl
theorem oV{kindOf:Str→Option NameKind}:∀{bs:List (Str×Value)} {m:Str→Option Value} {y:Str},y∉bs.map (·.1)→bindC kindOf bs m y=m y
 |[],_,_,_=>rfl
 |(n,v)::r,m,y,h=>by
  unfold bindC
  rw[oV fun z=>h (.tail _ z)]
  have:y≠n:=fun z=>h (z▸.head _)
  split
  ·rfl
  ·show(if y=n then some v else m y)=m y
   rw[if_neg this]
theorem kS{xs:List Str}{vs:List Value}{y:Str}(h:y∈(xs.zip vs).map (·.1)):y∈xs:=by
 obtain⟨p,hp,rfl⟩:=List.mem_map.mp h
 exact(List.of_mem_zip hp).1
theorem mU{kindOf:Str→Option NameKind}{y:Str}{v:Value}(hk:kindOf y=some .local){xs:List Str}:∀{vs:List Value} {m:Str→Option Value} {i:Nat},xs.Nodup→xs[i]? =some y→vs[i]? =some v→bindL kindOf (xs.zip vs) m y=some v:=by
 induction xs with
 |nil=>exact fun _ h _=>cj h
 |cons x xs ih=>
  intro vs m i nd h1 h2
  cases vs with
  |nil=>exact cj h2
  |cons w vs=>cases i with
   |zero=>
    cases h1;cases h2
    show bindL kindOf (xs.zip vs) _ _=_
    rw[oU fun z=>(List.nodup_cons.mp nd).1 (kS z),if_pos hk]
    exact if_pos rfl
   |succ i=>exact ih (List.nodup_cons.mp nd).2 h1 h2
theorem Am{kindOf:Str→Option NameKind}{y:Str}{v:Value}(hk:kindOf y≠some .local){xs:List Str}:∀{vs:List Value} {m:Str→Option Value} {i:Nat},xs.Nodup→xs[i]? =some y→vs[i]? =some v→bindC kindOf (xs.zip vs) m y=some v:=by
 induction xs with
 |nil=>exact fun _ h _=>cj h
 |cons x xs ih=>
  intro vs m i nd h1 h2
  cases vs with
  |nil=>exact cj h2
  |cons w vs=>cases i with
   |zero=>
    cases h1;cases h2
    show bindC kindOf (xs.zip vs) _ _=_
    rw[oV fun z=>(List.nodup_cons.mp nd).1 (kS z),if_neg hk]
    exact if_pos rfl
   |succ i=>exact ih (List.nodup_cons.mp nd).2 h1 h2
theorem fR:∀(names:List (Str×NameKind)) (n:Nat) (acc:List (Str×Addr)) (x:Str),(acc.lookup x).isSome=true→((cellsFrom n names acc).lookup x).isSome=true
 |[],_,_,_,h=>h
 |(y,k)::r,n,acc,x,h=>by
  unfold cellsFrom
  split
  ·refine fR r _ _ x ?_
   rw[List.lookup_cons]
   split
   ·rfl
   ·exact h
  ·exact fR r _ _ x h
theorem cellsFrom_some:∀(names:List (Str×NameKind)) (n:Nat) (acc:List (Str×Addr)) (x:Str),names.lookup x=some .cell→((cellsFrom n names acc).lookup x).isSome=true
 |[],_,_,_,h=>by simp at h
 |(y,k)::r,n,acc,x,h=>by
  rw[List.lookup_cons] at h
  unfold cellsFrom
  by_cases q:(x == y)=true
  ·rw[q] at h
   cases h
   rw[if_pos (by rfl)]
   refine fR r _ _ x ?_
   rw[List.lookup_cons,q];rfl
  ·rw[Bool.not_eq_true] at q
   rw[q] at h
   split
   ·exact cellsFrom_some r _ _ x h
   ·exact cellsFrom_some r _ _ x h
structure bq(env:Env)(sc:List (Str×NameKind)):Prop extends EnvOk env where
 names:env.scope.names=sc
 cells:∀x,(x,NameKind.cell)∈sc∨(x,NameKind.free)∈sc→∃ca,env.cells.lookup x=some ca
structure xI(X:Cx)(P:ec)(f:Addr)(r:iP)(fd:FuncData)(body:List Stmt)(names:List Str)(ν:Nu):Prop where
 obj:∃o,X.K.lookup f=some o∧o.data=.func fd
 code:∀h,X.K.In h→h.CodeRec fd.code fd.qualname
 stmts:fd.body=.stmts body
 kind:fd.scope.kind=.function
 co:fd.scope.isCoroutine=false
 gen:fd.scope.isGenerator=false
 clo:fd.closure=[]
 globals:fd.globals=mainGlobals
 builtins:fd.builtins=builtinsNs
 pU:fd.params.posonlyargs=[]
 tG:fd.params.kwonlyargs=[]
 vararg:fd.params.vararg=none
 kwarg:fd.params.kwarg=none
 args:fd.params.args.map (·.arg)=names
 nd:names.Nodup
 dflt:∃ds:List Value,(∀W:Wd,(∀a o,X.h₀.get? a=some o→W.B a=some o)→cM X W r.dflt ds)∧((∃T o n,fd.defaults=.ref T∧X.K.lookup T=some o∧o.data=.seq ds.toArray n)∨(fd.defaults=.none∧ds=[]))
 dle:r.dflt.length≤r.np
 np:r.np=names.length
 inj:fQ ν
 slots:∀x i,ν.lookup x=some i→i<r.jY
 params:∀i x,names[i]? =some x→ν.lookup x=some i
 kinds:∀x∈names,fd.scope.names.lookup x=some .local∨fd.scope.names.lookup x=some .cell
 ve:∀x k,(x,k)∈fd.scope.names→k=.cell∨k=.free→fd.scope.names.lookup x=some .cell
 snd:∀n,dS X P n→∀env,bq env fd.scope.names→fK X P n env ν body r.body
section
variable {X:Cx}{P:ec}{n:Nat}{env:Env}{ν ν':Nu}{m m₁ m₂:Str→Option Value}{loc aM ja:Loc}{A:Around}{s:Shared}{W ct fu W':Wd}{H H':aa}{h h₁ d7 h' g base:Heap}{L c D I e:Addr}{l:List Env}{E:Value→Shared→Prop}
theorem vf{R:Result→Shared→Prop}{a:Addr}{o:Obj}{fd:FuncData}{body:List Stmt}{args:Args}{binds:List (Str×Value)}
  (vg:A.depth<recursionLimit) (ho:s.heap.get? a=some o) (hdata:o.data=.func fd) (hlim:s.heap.NoLimit) (hcd:s.heap.CodeRec fd.code fd.qualname)
  (An:fd.body=.stmts body) (hbind:BindsTo s fd args binds) (hclo:fd.closure=[])
  (jB:∀x∈binds,fd.scope.names.lookup x.1=some .local∨(fd.scope.names.lookup x.1=some .cell∧((cellsFrom (s.heap.objs.size+1) fd.scope.names []).lookup x.1).isSome=true))
  (h:∀bc,InCallC s (callEnvC fd s.heap.objs.size a).locals (bindL (callEnvC fd s.heap.objs.size a).kindOf binds fun _=>none) (callEnvC fd s.heap.objs.size a).cells
    (bindC (callEnvC fd s.heap.objs.size a).kindOf binds fun _=>none) bc→
   wpAny X.M (A.deeper (callEnvC fd s.heap.objs.size a)) (execs body (callEnvC fd s.heap.objs.size a)) (fun f s'=>R (.ok (.ret (match f with|.ret v=>v|_=>.none))) s')
    (fun e s'=>wpAny X.M (A.deeper (callEnvC fd s.heap.objs.size a)) (leaving (callEnvC fd s.heap.objs.size a) e) (fun _ B7=>R (.error e) B7) (fun e' B7=>R (.error e') B7) s') bc)
  (hco:fd.scope.isCoroutine=false) (hgen:fd.scope.isGenerator=false) (hk:fd.scope.kind=.function):
  codeAny X.M A (.call (.ref a) args) R s:=by
 refine codeAny_call_function vg ho hdata hco hgen An hcd (hbind _ _ _ _ ?_)
 rw[hclo]
 refine wpAny_newFunctionEnv_cells hk jB fun env he s' x=> ?_
 subst he
 exact⟨hlim.keeps x.toInCall.keep,codeAny_func (h s' x)⟩
theorem rx{M:Model}{outer:List Env}{cls a0:Value}{Q:Unit→Shared→Prop}(hf:env.frame=some L)
  (hh:Heap.HeldW base (env::outer) e cls a0 L s.heap) (hQ:∀h',Heap.FlyingW base outer e cls a0 h'→s.heap.UpToSlots h'→Q () {s with heap:=h'}):wpAny M A (leaving env (.ref e)) Q E s:=by
 unfold leaving
 refine wpAny_bind (wpAny_noteFrame_againW hf hh.2.2.2 ?_)
 refine wpAny_landsW hh fun h' tF sm=> ?_
 obtain⟨k1,k2,⟨_,_,k3⟩,k4⟩:=tF
 exact hQ h' ⟨k1,k2,k3,k4⟩ sm
noncomputable def Wd.cells(W:Wd)(h:Heap)(cs:List Addr):Wd:=⟨fun b=>if b∈cs then h.get? b else W.B b,W.φ⟩
theorem fg{cs:List Addr}{a:Addr}(h:a∉cs):(W.cells h₁ cs).B a=W.B a:=if_neg h
theorem ry{cs:List Addr}{a:Addr}(h:a∈cs):(W.cells h₁ cs).B a=h₁.get? a:=if_pos h
theorem rz{cs:List Addr}(R:HR X W H h)(keep:∀a o,h.get? a=some o→h₁.get? a=some o)(dC:∀c∈cs,h.get? c=none):Ext W h (W.cells h₁ cs)∧HR X (W.cells h₁ cs) H h₁:=by
 have alive:∀{a:Addr} {o:Obj},h.get? a=some o→a∉cs:=fun e z=>by rw[dC _ z] at e;cases e
 have E1:Ext W h (W.cells h₁ cs):=by
  refine⟨fun a o ea=>(fg (alive (R.frozen a o ea))).trans ea,fun a o ea=> ?_,⟨[],(List.append_nil _).symm,fun _ h=>nomatch h⟩⟩
  by_cases q:a∈cs
  ·exact .inr (dC a q)
  ·rw[fg q] at ea;exact .inl ea
 refine⟨E1,R.len,fun i p o' ei eo=>(R.objs i p o' ei eo).mono E1 (fun o z=>keep _ _ z) (fun o z=>keep _ _ z),R.apart,fun a o ea=> ?_,fun p hp=> ?_,fun a o ea=>E1.B _ _ (R.base a o ea),R.ok⟩
 ·by_cases q:a∈cs
  ·rw[ry q] at ea;exact ea
  ·rw[fg q] at ea;exact keep _ _ (R.frozen a o ea)
 ·obtain⟨o1,e1⟩:=R.eZ ⟨p,hp,.inl rfl⟩
  obtain⟨o2,e2⟩:=R.eZ ⟨p,hp,.inr rfl⟩
  have:=R.off p hp
  exact⟨(fg (alive e1)).trans this.1,(fg (alive e2)).trans this.2⟩
theorem xJ{names:List Str}{vals:List Value}{xK:List PV}{k:Nat}{sc:List (Str×NameKind)}{lo:Nat}(ko:∀y,env.kindOf y=sc.lookup y)(inj:fQ ν)(params:∀i x,names[i]? =some x→ν.lookup x=some i)(kinds:∀x∈names,sc.lookup x=some .local∨sc.lookup x=some .cell)(nd:names.Nodup)(eC:env.cells=cellsFrom lo sc [])
  (mV:cM X W xK vals) (hlen:vals.length=names.length) (E1:Ext W h ct) (cell:∀y ca,env.cells.lookup y=some ca→∃o,ct.B ca=some o∧o.data=.cell (bindC env.kindOf (names.zip vals) (fun _=>none) y)):
  jo X ct env ν (bindL env.kindOf (names.zip vals) fun _=>none) (xK.map some++List.replicate k none):=fun y i w hy hw=>by
 have lP:=mV.length
 have hi:i<xK.length:=by
  rcases Nat.lt_or_ge i xK.length with q|q
  ·exact q
  ·rw[List.getElem?_append_right (by simpa using q)] at hw
   cases List.eq_of_mem_replicate (List.mem_of_getElem? hw)
 rw[List.getElem?_append_left (by simpa using hi),List.getElem?_map] at hw
 obtain⟨w',hw1,hw2⟩:=Option.map_eq_some_iff.mp hw
 cases hw2
 obtain⟨u,hu,vu⟩:=mV.get hw1
 have hin:i<names.length:=by rw[←hlen,←lP];exact hi
 have hyn:names[i]? =some y:=by
  have:=params i names[i] (List.getElem?_eq_getElem hin)
  rw[inj y names[i] i hy this]
  exact List.getElem?_eq_getElem hin
 refine⟨u,?_,vu.mono E1⟩
 rcases kinds y (List.mem_of_getElem? hyn) with q|q
 ·exact .inl ⟨(ko y).trans q,mU ((ko y).trans q) nd hyn hu⟩
 ·have ne:env.kindOf y≠some .local:=by rw[ko,q];decide
  obtain⟨ca,hca⟩:=Option.isSome_iff_exists.mp (cellsFrom_some _ lo [] _ q)
  rw[←eC] at hca
  obtain⟨oc,gc,dc⟩:=cell y ca hca
  rw[Am ne nd hyn hu] at dc
  exact .inr ⟨ca,oc,.inl ((ko y).trans q),hca,gc,dc⟩
theorem vh{a:Addr}(eF:env.frame=some env.locals)(h1:a∉Fs l)(h2:a≠env.locals):a∉Fs (env::l):=fun h3=>by
 obtain⟨en,he,hf⟩:=List.mem_filterMap.mp h3
 rcases List.mem_cons.mp he with rfl|he
 ·rw[eF] at hf;cases hf;exact h2 rfl
 ·exact h1 (List.mem_filterMap.mpr ⟨en,he,hf⟩)
theorem vi{a:Addr}(h:a∈Fs l):a∈Fs (env::l):=by
 obtain⟨en,he,hf⟩:=List.mem_filterMap.mp h
 exact List.mem_filterMap.mpr ⟨en,.tail _ he,hf⟩
structure jG(X:Cx)(l:List Env)(env:Env)(W:Wd)(h:Heap)(ct:Wd)(h₁:Heap):Prop where
 ext:Ext W h ct
 keep:∀a o,h.get? a=some o→h₁.get? a=some o
 dead:h.get? env.locals=none
 frame:env.frame=some env.locals
 own:∀a,Own ct a→Own W a
theorem jG.neL(b:jG X l env W h ct h₁){a:Addr}{o:Obj}(e:h.get? a=some o):a≠env.locals:=fun z=>by rw[z,b.dead] at e;cases e
theorem jG.good(b:jG X l env W h ct h₁)(S:Step (env::l) env.locals ct h₁ W' h'):cU l W h W' h':=
 ⟨b.ext.trans (fun a o e=>⟨o,b.keep _ _ e⟩) S.toExt,fun a o ea n1 n2=>S.keep a o (b.keep _ _ ea) (fun z=>n1 (b.own a z)) (b.neL ea) (vh b.frame n2 (b.neL ea)),fun a o ea n1=>S.slots a o (b.keep _ _ ea) (b.neL ea) (vi n1),fun a o ea=>S.live a o (b.keep _ _ ea)⟩
theorem jG.bad(b:jG X l env W h ct h₁){k:XK}{ex:Addr}{a0:Value}{s eQ:Shared}{K:XK→aa→Prop}(hs:s.heap=h)(fr:j2 W h l)(fl:Flew X (env::l) env.locals ct h₁ k H' ex W' base eQ.heap)(q:g8 s eQ)(tF:Heap.FlyingW base l ex (.ref X.bad) a0 h')(sm:eQ.heap.UpToSlots h')(hk:K .flying H'){R:PV→aa→Prop}:
  cS X l W s R K (.error (.ref ex)) {eQ with heap:=h'}:=by
 subst hs
 refine⟨H',W',base,a0,b.ext.trans (fun a o e=>⟨o,b.keep _ _ e⟩) fl.toExt,fl.R,tF,fun a o ea n1 n2=>fl.keep a o (b.keep _ _ ea) (fun z=>n1 (b.own a z)) (b.neL ea) (vh b.frame n2 (b.neL ea)),fun a o ea n1=> ?_,q.trans ⟨rfl,rfl,rfl⟩,hk⟩
 obtain⟨sl,e1⟩:=fl.slots a o (b.keep _ _ ea) (b.neL ea) (vi n1)
 obtain⟨en,he,hf⟩:=List.mem_filterMap.mp n1
 obtain⟨_,L',o',g1,_,_,g4,g5⟩:=fr en he
 rw[hf] at g1;cases g1
 rw[ea] at g4;cases g4
 obtain⟨w7,e2⟩:=sm a _ e1 g5
 exact⟨w7,e2⟩
theorem kT{fd:FuncData}{ds:List Value}(KI:X.K.In s.heap)(hdf:(∃T o n,fd.defaults=.ref T∧X.K.lookup T=some o∧o.data=.seq ds.toArray n)∨(fd.defaults=.none∧ds=[])):∃(T:Addr) (o:Obj) (n:Nat),(fd.defaults=.ref T∧s.heap.get? T=some o∧o.data=.seq ds.toArray n)∨(fd.defaults=.none∧ds=[]):=by
 revert X s fd ds
 apply aN;intro
 generalize bM .. =X,bN .. =s,bQ .. =fd,bR .. =ds
 intro KI hdf
 rcases hdf with⟨T,o,n,h1,h2,h3⟩|h
 ·exact⟨T,o,n,.inl ⟨h1,KI _ _ h2,h3⟩⟩
 ·exact⟨0,default,0,.inr h⟩
theorem fill_ok{a u np nm d d':Nat}(xM:a≤np∧np≤a+d)(hlu:a=u)(hld:d=d')(hnp:np=nm)(hdle:d≤np):u≤nm∧nm≤u+d'∧d'≤nm∧a+d - np=u+d' - nm∧u+(d' - (u+d' - nm))=nm:=by
 subst hlu hld hnp;exact ar132 xM hdle
theorem xN{args:List PV}{us:List Value}{f:Nat}{R:PV→aa→Prop}{K:XK→aa→Prop}(fn:∀f r,bB f P.fns=some r→∃fd body names ν,xI X P f r fd body names ν)(rel:HR X W H s.heap)(v:cM X W args us)(e:qO P (aj P n) f args H R K):
  ∃r fd body names ν,xI X P f r fd body names ν∧∃vals xK,BindsTo s fd ⟨us,[]⟩ (names.zip vals)∧cM X W xK vals∧vals.length=names.length∧wSs P (aj P n) r.body (xK.map some++List.replicate (r.jY - r.np) none) H (fP R) fun _ _ H=>K .flying H:=by
 revert X P n s W H args us f R K
 apply aT;intro
 generalize bX .. =X,bY .. =P,bZ .. =n,b7 .. =s,cv .. =W,cw .. =H,cx .. =args,cy .. =us
 apply aP;intro
 generalize bP .. =f,bS .. =R
 apply aJ;intro
 generalize nx .. =K
 intro fn rel v e
 unfold qO at e
 split at e
 ·exact e.elim
 rename_i rec hrec
 split at e
 ·exact e.elim
 rename_i vs hvs
 unfold jm at hvs
 split at hvs
 ·rename_i xM
  obtain rfl:=Option.some.inj hvs
  obtain⟨fd,body,names,ν,F⟩:=fn f rec hrec
  obtain⟨ds,hds,hdf⟩:=F.dflt
  have dr:=hds W rel.base
  have fo:=fill_ok xM v.length dr.length F.np F.dle
  obtain⟨T,oT,nT,hdT⟩:=kT rel.yO hdf
  refine⟨rec,fd,body,names,ν,F,_,_,kR F.pU F.tG F.vararg F.kwarg F.args F.nd hdT (us:=us) fo.1 fo.2.1 fo.2.2.1,?_,?_,e⟩
  ·rw[fo.2.2.2.1]
   exact v.append (dr.drop _)
  ·rw[List.length_append,List.length_drop];exact fo.2.2.2.2
 ·cases hvs
structure vj(X:Cx)(h:Heap)(fd:FuncData)(env:Env):Prop where
 L:env.locals=h.objs.size
 F:env.frame=some env.locals
 N:env.scope=fd.scope
 C:env.cells=cellsFrom (h.objs.size+1) fd.scope.names []
 O:EnvOk env
theorem rA{rec:iP}{fd:FuncData}{body:List Stmt}{names:List Str}{vals:List Value}{xK:List PV}{f:Addr}{bc:Shared}(F:xI X P f rec fd body names ν)(fo:vj X s.heap fd env)(rel:HR X W H s.heap)(hz:X.h₀.objs.size≤s.heap.objs.size)(fr:j2 W s.heap l)(mV:cM X W xK vals)(hlen:vals.length=names.length)
  (x:InCallC s env.locals (bindL env.kindOf (names.zip vals) fun _=>none) env.cells (bindC env.kindOf (names.zip vals) fun _=>none) bc):
  ∃ct,jG X l env W s.heap ct bc.heap∧St X (env::l) ct H env.locals (bindL env.kindOf (names.zip vals) fun _=>none) bc∧jo X ct env ν (bindL env.kindOf (names.zip vals) fun _=>none) (xK.map some++List.replicate (rec.jY - rec.np) none)∧g8 s bc:=by
 revert X P env ν s W H l rec fd body names vals xK f bc
 apply aT;intro
 generalize bX .. =X,bY .. =P,bZ .. =env,b7 .. =ν,cv .. =s,cw .. =W,cx .. =H,cy .. =l
 apply aT;intro
 generalize bX .. =rec,bY .. =fd,bZ .. =body,b7 .. =names,cv .. =vals,cw .. =xK,cx .. =f,cy .. =bc
 intro F fo rel hz fr mV hlen x
 have ko:∀y,env.kindOf y=fd.scope.names.lookup y:=fun y=>by unfold Env.kindOf;rw[fo.N]
 have gp:=x.toInCall.keep
 have dL:s.heap.get? env.locals=none:=by rw[fo.L];exact aV _
 have up:∀p∈env.cells,s.heap.objs.size<p.2:=fun p hp=>by have:=x.above p.1 p.2 hp;rw[fo.L] at this;exact this
 have dC:∀c∈env.cells.map (·.2),s.heap.get? c=none:=fun c hc=>by
  obtain⟨p,hp,rfl⟩:=List.mem_map.mp hc
  cases q:s.heap.get? p.2 with
  |none=>rfl
  |some o=>exact absurd (Heap.lt_size q) (Nat.not_lt.mpr (Nat.le_of_lt (up p hp)))
 obtain⟨E1,R1⟩:=rz (h₁:=bc.heap) rel gp dC
 have bg:jG X l env W s.heap (W.cells bc.heap (env.cells.map (·.2))) bc.heap:=⟨E1,gp,dL,fo.F,fun _ z=>z⟩
 have Ao:¬Own (W.cells bc.heap (env.cells.map (·.2))) env.locals:=fun z=>by
  obtain⟨o',e'⟩:=rel.eZ (bg.own _ z)
  rw[dL] at e';cases e'
 have noBL:(W.cells bc.heap (env.cells.map (·.2))).B env.locals=none:=(fg fun hc=>by
  obtain⟨p,hp,hq⟩:=List.mem_map.mp hc
  have:=up p hp
  rw[hq,fo.L] at this
  exact absurd this (Nat.lt_irrefl _)).trans (rel.dead dL)
 refine⟨_,bg,⟨⟨x.toInCall.ns,R1.keep,by rw[fo.L];exact hz⟩,R1,noBL,Ao,?_⟩,xJ (k:=rec.jY - rec.np) ko F.inj F.params F.kinds F.nd fo.C mV hlen E1 fun y ca hca=> ?_,?_⟩
 ·apply aJ;intro
  generalize nx .. =en
  intro he
  rcases List.mem_cons.mp he with rfl|he
  ·obtain⟨oL,es,ep,gL,dtL,_⟩:=x.toInCall.ns
   exact⟨by rw[fo.O.kind];decide,_,oL,fo.F,noBL,Ao,gL,fun vs z=>by rw[dtL] at z;cases z⟩
  ·obtain⟨hk,L',o',g1,g2,g3,g4,g5⟩:=fr en he
   exact⟨hk,L',o',g1,E1.dz g4 g2,E1.own g4 g3,gp _ _ g4,g5⟩
 ·obtain⟨oc,gc,dc⟩:=x.cell y ca hca
  exact⟨oc,(ry (List.mem_map.mpr ⟨(y,ca),mem_of_lookup hca,rfl⟩)).trans gc,dc⟩
 ·obtain⟨h1,tk,rfl⟩:=x.toInCall.same;exact⟨rfl,rfl,rfl⟩
theorem xO{A':Around}{bc eQ:Shared}{k:XK}{ex:Addr}{R:PV→aa→Prop}{K:XK→aa→Prop}(bg:jG X l env W s.heap ct bc.heap)(fr:j2 W s.heap l)(hA:A'.frames=some (env::l))(fl:Flew X (env::l) env.locals ct bc.heap k H' ex W' base eQ.heap)(q:g8 s eQ)(hk:K .flying H'):
  wpAny X.M A' (leaving env (.ref ex)) (fun _ B7=>cS X l W s R K (.error (.ref ex)) B7) E eQ:=by
 have fin:∀(a0:Value) (h':Heap),Heap.FlyingW base l ex (.ref X.bad) a0 h'→eQ.heap.UpToSlots h'→cS X l W s R K (.error (.ref ex)) {eQ with heap:=h'}:=fun a0 h' tF sm=>bg.bad rfl fr fl q tF sm hk
 cases k with
 |made=>exact fl.j5 env l rfl A' _ _ eQ rfl hA fun h' a0 tF sm=>fin a0 h' tF sm
 |flying=>
  obtain⟨a0,tF⟩:=fl.j5
  exact wpAny_leaves_onW hA bg.frame tF fun h' hfl' sm=>fin a0 h' hfl' sm
 |held=>
  obtain⟨a0,L',env',outer,hl,hf,hh⟩:=fl.j5
  cases hl
  rw[bg.frame] at hf;cases hf
  exact rx bg.frame hh fun h' hfl' sm=>fin a0 h' hfl' sm
theorem rB(fn:∀f r,bB f P.fns=some r→∃fd body names ν,xI X P f r fd body names ν)(co:dS X P n):dS X P (n+1):=by
 revert X P n
 apply aP;intro
 generalize bP .. =X,bS .. =P
 apply aJ;intro
 generalize nx .. =n
 intro fn co
 intro f A l s W H args us R K e rel hz fr v ak
 rw[mz] at e
 obtain⟨rec,fd,body,names,ν,F,vals,xK,hb,mV,hlen,e⟩:=xN fn rel v e
 obtain⟨o,ho,hd⟩:=F.obj
 have KI:=rel.yO
 have Ap:=ak.depth
 have hunits:=ak.units
 refine vf (by show A.depth<1000;exact uQ Ap rfl) (KI _ _ ho) hd ((X.T rel.ok).nolimit.keeps rel.keep) (F.code _ KI) F.stmts hb F.clo (fun x hx=>(F.kinds x.1 (List.of_mem_zip hx).1).imp id fun q=>⟨q,cellsFrom_some _ _ _ _ q⟩) (fun bc x=> ?_) F.co F.gen F.kind
 have fo:vj X s.heap fd (callEnvC fd s.heap.objs.size f):=⟨rfl,rfl,rfl,rfl,⟨F.kind,F.globals,F.builtins⟩⟩
 generalize callEnvC fd s.heap.objs.size f=env at x fo ⊢
 obtain⟨ct,bg,st1,lr1,same1⟩:=rA F fo rel hz fr mV hlen x
 have ak1:zv (A.deeper env) (env::l) n:=⟨ak.handled,Around.frames_deeper ak.frames,by show A.depth+1+4 * n+4≤900;exact ar134 Ap,by show A.units+3+20 * n+20≤9000;exact ar135 hunits⟩
 have eA:bq env fd.scope.names:=⟨fo.O,by rw[fo.N],fun y hy=>by
  rw[fo.C]
  exact Option.isSome_iff_exists.mp (cellsFrom_some _ _ _ _ (hy.elim (fun hy=>F.ve y _ hy (.inl rfl)) fun hy=>F.ve y _ hy (.inr rfl)))⟩
 refine F.snd n co env eA ⟨A.deeper env,env::l,⟨bc,ct,H⟩,fun _ _ H=>K .flying H,_,True,fun _=>ak1,fun _=>st1.fr,fun _ k m loc H' ex W' base eQ fl Fm lrm q hk=>xO bg fr ak1.frames fl (same1.trans q) hk⟩ _ _ ⟨bc,ct,H⟩ _ _ ⟨⟨l,rfl⟩,fo.F⟩ ⟨st1,lr1,.refl _,trivial⟩ e fun fl f' ao m' eO aC aG fr' q=> ?_
 have T:=bg.good aG.step
 have sm:=same1.trans aG.same
 cases fr' with
 |next=>exact⟨.none,_,_,T,aC.rel,.none,sm,q⟩
 |cont=>exact q.elim
 |ret vr=>exact⟨_,_,_,T,aC.rel,vr,sm,q⟩
end
end
section
open PyProof.Rows PySem.Calls PySem.W
set_option backward.match.sparseCases false
set_option genInjectivity false
section
open Builtin Builtin.ObjectAttr Builtin.Getset_descriptor
noncomputable def jH:List Value→Bool
 |.ref _::r=>jH r
 |l=>l == [.type "ValueError",.type "Exception",.type "BaseException",.type "object"]
noncomputable def lR(K:Frag)(C:Addr):Bool:=(clsIn K C).any fun cd=>jH cd.mro
theorem jb:∀{l:List Value},jH l=true→∃r t,l=r++t∧(∀x∈r,∃c,x=.ref c)∧t=[Value.type "ValueError",.type "Exception",.type "BaseException",.type "object"]
 |.ref c::r,e=>by
  obtain⟨a,t,h1,h2,h3⟩:=jb (l:=r) e
  exact⟨.ref c::a,t,by rw[h1];rfl,(fun x hx=>(List.mem_cons.mp hx).elim (fun q=>⟨c,q⟩) (h2 x)),h3⟩
 |[],e|.none::_,e|.ellipsis::_,e|.notImplemented::_,e|.bool _::_,e|.int _ _::_,e|.float _ _::_,e|.str _ _::_,e|.bytes _ _::_,e|.type _::_,e|.builtin _::_,e=>
  ⟨[],_,rfl,(fun x hx=>by cases hx),beq_iff_eq.mp e⟩
theorem tH(self:Value):∀{l:List Value},jH l=true→refuseLoop self "__setattr__" l=pure ():=by
 intro l e
 obtain⟨r,t,h1,h2,h3⟩:=jb e
 subst h1 h3
 clear e
 induction r with
 |nil=>exact PySem.F.store_ValueError.passes self
 |cons x r ih=>
  obtain⟨c,rfl⟩:=h2 x (.head _)
  rw[List.cons_append,refuseLoop_ref]
  exact ih fun y hy=>h2 y (.tail _ hy)
theorem rC{l:List Value}(e:jH l=true):l.contains (.type "object")=true:=by
 obtain⟨r,t,h1,h2,h3⟩:=jb e
 subst h1 h3
 simp
section
variable {prog:Program}{w:World}{A:Around}{s:Shared}{R:Result→Shared→Prop}{K:Frag}{x C:Addr}
theorem osa_exc{ox:Obj}{od:Option Obj}{name:Str}{tk:Tok}{v:Value}{r:Option Value}(X:K.In s.heap)(I:InstAt s.heap x ox C od)(hp:lR K C=true)(ht:takerIn K C name=some r)
  (h:∀b,wpAny (model prog w) A.in1 (match r with|some a=>setByDescriptor a (.ref x) v|none=>storeInOwnDict (.ref x) (.ref C) (.str name tk) name v b)
   (fun fin s'=>match fin with|.done f=>R (.ok f) s'|.again c'=>c'.quiet=true∧codeAny (model prog w) A c' R s') (fun e s'=>R (.error e) s') s):
  codeAny (model prog w) A (.call (.builtin "object.__setattr__") ⟨[.ref x,.str name tk,v],[]⟩) R s:=by
 revert prog w A s R K x C ox od name tk v r
 apply aN;intro
 generalize bM .. =prog,bN .. =w,bQ .. =A,bR .. =s
 apply aP;intro
 generalize bP .. =R,bS .. =K
 apply aJ;intro
 generalize nx .. =x
 apply aJ;intro
 generalize nx .. =C
 apply aN;intro
 generalize bM .. =ox,bN .. =od,bQ .. =name,bR .. =tk
 apply aP;intro
 generalize bP .. =v,bS .. =r
 intro X I hp ht h
 have SF:=PySem.F.store_object
 obtain⟨cd,hc,ho⟩:=any_some hp
 have ne:cd.mro.isEmpty=false:=by cases q:cd.mro with|nil=>rw[q] at ho;cases ho|cons _ _=>rfl
 have sub:Looks (model prog w) s.heap (isInstance (.ref x) (.type "object")) true:=I.type.andThen (looks_mroIn X (by unfold mroIn;rw[hc,Option.bind_some,if_neg (by rw[ne];decide),rC ho]))
 refine codeAny_call_builtin SF.slot.plain SF.entry (@check_slot (model prog w) _ _ s "object.__setattr__" "object" "__setattr__" (.ref x) [.str name tk,v] [] _ SF.kind SF.split sub (SF.args (.ref x) (.str name tk) v) ?_)
 obtain⟨attr,ha,hr⟩:=Option.bind_eq_some_iff.mp ht
 have hm:Looks (model prog w) s.heap (mroOf (.ref C)) cd.mro:=(looks_clsIn X hc).andThen .now
 have L3:Looks (model prog w) s.heap (storeTaker? attr) r:=by
  cases attr with
  |none=>cases hr;exact .now
  |some a=>
   obtain⟨b,hb,rfl⟩:=Option.map_eq_some_iff.mp hr
   refine(looks_takesIn X hb).andThen ?_
   cases b<;>exact .now
 rw[osa_eq,refuse_eq]
 refine wpAny_bind (wpAny_bind (I.type.here (wpAny_bind (hm.here ?_))))
 rw[tH _ ho]
 refine wpAny_pure (wpAny_bind (I.type.here (wpAny_bind ((looks_findIn X ha).here (wpAny_bind (L3.here ?_))))))
 exact h _
end
end
section
variable {prog:Program}{w:World}{A:Around}{R:Result→Shared→Prop}{h:Heap}{g:Array GenState}{d:Drawn}{t:Nat}{os:OsState}
variable {nm q:Str}{C N:Addr}{bs bm bmB:List Value}{jI:Bool}{sn:List Str}{sub:List Value}{ab:Bool}{col:Option Bool}{dd:Option Addr}{k0 k1 k2 k3 k5:Option Value}{B newId ig:String}
structure rE(B:String)(l:List Value):Prop where
 b:l.contains (.type B)=true
 base:l.contains (.type "BaseException")=true
 a:l.contains (.type "AttributeError")=false
 n:l.contains (.type "NameError")=false
theorem ot(F:ExcBaseFacts B newId ig bmB)(T:rE B (Value.ref C::bm)){rest:List Value}{Q:Unit→Shared→Prop}{E:Value→Shared→Prop}{M:Model}(hC:h.get? C=some (excClassObj nm q C N bs bm jI sn sub ab col dd k0 k1 k2 k3 k5 newId))
  (hq:Q () ⟨h,g,d,t,os⟩):wpAny M A (checkBuiltinCall newId ⟨.ref C::rest,[]⟩) Q E ⟨h,g,d,t,os⟩:=by
 revert A h g d t os nm q C N bs bm bmB jI sn sub ab col dd k0 k1 k2 k3 k5 B newId ig rest Q E M
 apply aT;intro
 generalize bX .. =A,bY .. =h,bZ .. =g,b7 .. =d,cv .. =t,cw .. =os,cx .. =nm,cy .. =q
 apply aJ;intro
 generalize nx .. =C
 apply aT;intro
 generalize bX .. =N,bY .. =bs,bZ .. =bm,b7 .. =bmB,cv .. =jI,cw .. =sn,cx .. =sub,cy .. =ab
 apply aT;intro
 generalize bX .. =col,bY .. =dd,bZ .. =k0,b7 .. =k1,cv .. =k2,cw .. =k3,cx .. =k5,cy .. =B
 apply aP;intro
 generalize bP .. =newId,bS .. =ig
 intro F T
 apply aN;intro
 generalize bM .. =rest,bN .. =Q,bQ .. =E,bR .. =M
 intro hC hq
 have hcont:=T.b
 have fy:=F.noStar
 simp only[checkBuiltinCall,F.newKind,F.newSplit,F.newRow]
 repeat (first|refine wpAny_loadPart_at hC ?_|(refine wpAny_isSubtype_exc hC ?_;rw[hcont])|refine wpAny_staticBase_exc hC ?_|refine wpAny_madeBy_exc hC ?_|simp only[bne_self_eq_false,Bool.false_eq_true,if_false]|wp_step)
 exact hq
theorem exc_new(F:ExcBaseFacts B newId ig bmB)(T:rE B (Value.ref C::bm)){rest:List Value}(hC:h.get? C=some (excClassObj nm q C N bs bm jI sn sub ab col dd k0 k1 k2 k3 k5 newId))
  (hq:R (.ok (.ret (.ref (h.objs.size+1)))) ⟨(h.push {cls:=.type "tuple",data:=.seq rest.toArray}).push
   {cls:=.ref C,data:=.fields #[.ref h.objs.size,.none,.none,.none,.bool false,.none]},g,d,t,os⟩) (rF:rest.length≤sizeLine):
  codeAny (model prog w) A (.builtin newId ⟨.ref C::rest,[]⟩) R ⟨h,g,d,t,os⟩:=by
 have hends:=F.ends
 have hcB:=T.b
 have hcA:=T.a
 have hcN:=T.n
 refine PySem.codeAny_builtinAt F.entry ?_
 unfold Builtin.«BaseException.__new__»
 refine PySem.wpAt_bind ?_
 show PySem.wpAt _ _ _ (stack >>= _) _ _ _
 refine PySem.wpAt_bind (PySem.wpAt_stack fun p below=>PySem.wpAt_of_wpAny ?_)
 wp_walk
 refine PySem.wpAt_of_wpAny ?_
 rw[F.owner]
 repeat (first|with_reducible refine wpAny_madeHere_exc F.canon hC ?_|with_reducible refine wpAny_loadPart_at hC ?_|(with_reducible refine wpAny_isSubtype_exc hC ?_;first|rw[hcB]|rw[hcA]|rw[hcN])|wp_step)
 show R _ _
 rw[Heap.size_push]
 exact hq
theorem ou{K:Frag}{f:Addr}{rest:List Value}{A':Around}(F:ExcBaseFacts B newId ig bmB)(T:rE B (Value.ref C::bm))(X:K.In h)(hC:h.get? C=some (excClassObj nm q C N bs bm jI sn sub ab col dd k0 k1 k2 k3 k5 newId))
  (hi:findIn K (.ref C) "__init__"=some (some (.ref f))) (hf:typeIn K (.ref f)=some (.type "function")) (rF:rest.length≤sizeLine)
  (hq:codeAny (model prog w) A' (.call (.ref f) ⟨.ref (h.objs.size+1)::rest,[]⟩) (InitBack (h.objs.size+1) R)
   ⟨(h.push {cls:=.type "tuple",data:=.seq rest.toArray}).push {cls:=.ref C,data:=.fields #[.ref h.objs.size,.none,.none,.none,.bool false,.none]},g,d,t,os⟩):
  wpAny (model prog w) A' (Builtin.«type.__call__» ⟨.ref C::rest,[]⟩) (fun fin s'=>match fin with
     |.done f=>R (.ok f) s'
     |.again c'=>c'.quiet=true∧codeAny (model prog w) A c' R s') (fun e s'=>R (.error e) s') ⟨h,g,d,t,os⟩:=by
 revert prog w A R h g d t os nm q C N bs bm bmB jI sn sub ab col dd k0 k1 k2 k3 k5 B newId ig K f rest A'
 apply aT;intro
 generalize bX .. =prog,bY .. =w,bZ .. =A,b7 .. =R,cv .. =h,cw .. =g,cx .. =d,cy .. =t
 apply aP;intro
 generalize bP .. =os,bS .. =nm
 apply aJ;intro
 generalize nx .. =q
 apply aJ;intro
 generalize nx .. =C
 apply aT;intro
 generalize bX .. =N,bY .. =bs,bZ .. =bm,b7 .. =bmB,cv .. =jI,cw .. =sn,cx .. =sub,cy .. =ab
 apply aT;intro
 generalize bX .. =col,bY .. =dd,bZ .. =k0,b7 .. =k1,cv .. =k2,cw .. =k3,cx .. =k5,cy .. =B
 apply aN;intro
 generalize bM .. =newId,bN .. =ig,bQ .. =K,bR .. =f
 apply aP;intro
 generalize bP .. =rest,bS .. =A'
 intro F T X hC hi hf rF hq
 repeat (first|with_reducible refine wpAny_loadPart_at hC ?_|with_reducible refine wpAny_madeBy_exc hC ?_|wp_step)
 refine codeAny_call_builtin_code (Code.quiet_builtin _ F.quiet) (ot F T hC ?_)
 refine exc_new F T hC ?_ rF
 show wpAny _ _ _ _ _ _
 have k:∀b o,h.get? b=some o→((h.push {cls:=.type "tuple",data:=.seq rest.toArray}).push {cls:=.ref C,data:=.fields #[.ref h.objs.size,.none,.none,.none,.bool false,.none]}).get? b=some o:=fun b o e=>Heap.get?_push_of_some _ (Heap.get?_push_of_some _ e)
 have hC₁:=Heap.get?_push_of_some {cls:=.ref C,data:=.fields #[.ref h.objs.size,.none,.none,.none,.bool false,.none]}
  (Heap.get?_push_of_some {cls:=.type "tuple",data:=.seq rest.toArray} hC)
 have hget:((h.push {cls:=.type "tuple",data:=.seq rest.toArray}).push
   {cls:=.ref C,data:=.fields #[.ref h.objs.size,.none,.none,.none,.bool false,.none]}).get? (h.objs.size+1)=some
   {cls:=.ref C,data:=.fields #[.ref h.objs.size,.none,.none,.none,.bool false,.none]}:=by heap_get
 have hcC:(Value.ref C::bm).contains (.ref C)=true:=by simp
 unfold isInstance
 repeat (first|with_reducible refine wpAny_loadPart_at hget ?_|(with_reducible refine wpAny_isSubtype_exc hC₁ ?_;rw[hcC])|wp_step)
 show wpAny _ _ (typeLookup (.ref C) _) _ _ _
 refine(looks_findIn (X.keeps k) hi).here (s:=⟨_,g,d,t,os⟩) ?_
 refine wpAny_holding (wpAny_bind ((bind_fn (X.keeps k) _ hf).here (s:=⟨_,g,d,t,os⟩) ?_))
 refine wpAny_bind (wpAny_call (codeAny_mono hq fun r s' z=> ?_))
 rcases r with e|(v|_|_|_)<;>first|exact z|exact z.elim|skip
 obtain⟨rfl,z⟩:=z
 exact wpAny_pure (wpAny_pure z)
theorem Ar{K:Frag}{f:Addr}{rest:List Value}(F:ExcBaseFacts B newId ig bmB)(T:rE B (Value.ref C::bm))(X:K.In h)(hC:h.get? C=some (excClassObj nm q C N bs bm jI sn sub ab col dd k0 k1 k2 k3 k5 newId))
  (hi:findIn K (.ref C) "__init__"=some (some (.ref f))) (hf:typeIn K (.ref f)=some (.type "function")) (rF:rest.length≤sizeLine)
  (hq:codeAny (model prog w) (A.under (.builtin "type.__call__" ⟨.ref C::rest,[]⟩)) (.call (.ref f) ⟨.ref (h.objs.size+1)::rest,[]⟩) (InitBack (h.objs.size+1) R)
   ⟨(h.push {cls:=.type "tuple",data:=.seq rest.toArray}).push {cls:=.ref C,data:=.fields #[.ref h.objs.size,.none,.none,.none,.bool false,.none]},g,d,t,os⟩):
  codeAny (model prog w) A (.call (.ref C) ⟨rest,[]⟩) R ⟨h,g,d,t,os⟩:=by
 have f1:=tc_lookup
 have f2:=tc_bind (.ref C)
 have hT:(⟨h,g,d,t,os⟩:Shared).TypeIs (.ref C) "type":=⟨_,hC,rfl⟩
 refine codeAny_of_tree ?_
 show wpAny _ _ (callAny (.ref C) _) _ _ _
 repeat (any_goals (first|assumption|with_reducible refine wpAny_loadPart_at hC ?_|wp_step))
 refine⟨rfl,?_⟩
 exact codeAny_call_builtin_at (Code.quiet_builtin _ (by decide+kernel)) entry_typeCall (wpAny_check_type_call_sub hC (ou F T X hC hi hf rF hq))
theorem tI{env:Env}{x:Sem Value}{E:Value→Shared→Prop}{s:Shared}{Q:Flow→Shared→Prop}(hbase:(Value.ref C::bm).contains (.type "BaseException")=true)(hh:A.handled=none)
  (hx:wpAny (model prog w) A x (fun v bc=>∃e dx vs,v=.ref e∧bc.heap.get? C=some (excClassObj nm q C N bs bm jI sn sub ab col dd k0 k1 k2 k3 k5 newId)∧
   bc.heap.get? e=some {cls:=.ref C,dict:=dx,data:=.fields vs}∧vs[1]? =some .none∧E (.ref e) bc) E s):
  wpAny (model prog w) A (raiseStmt env (some x) none) Q E s:=by
 unfold raiseStmt
 refine wpAny_bind (wpAny_mono hx (fun v bc h₁=> ?_) fun _ _ x=>x)
 obtain⟨e,dx,vs,rfl,hC,he,h1,hE⟩:=h₁
 obtain⟨hp,g,d,tk,os⟩:=bc
 repeat (first|with_reducible refine wpAny_loadPart_at he ?_|with_reducible refine wpAny_loadPart_at hC ?_|(with_reducible refine wpAny_isSubtype_exc hC ?_;rw[hbase])|wp_step)
 rw[h1]
 refine wpAny_pure ?_
 rw[if_neg (by decide)]
 exact wpAny_pure (wpAny_raiseNew_none hh hE)
end
structure tJ(X:Cx)(C f:Addr)(fd:FuncData):Prop where
 obj:∃o,X.K.lookup f=some o∧o.data=.func fd
 code:∀h,X.K.In h→h.CodeRec fd.code fd.qualname
 stmts:∃p1 p2 p3 p4,fd.body=.stmts [.Assign [.Attribute (.Name "self" p1) "reason" p2] (.Name "reason" p3) p4]
 kind:fd.scope.kind=.function
 co:fd.scope.isCoroutine=false
 gen:fd.scope.isGenerator=false
 clo:fd.closure=[]
 globals:fd.globals=mainGlobals
 builtins:fd.builtins=builtinsNs
 pU:fd.params.posonlyargs=[]
 tG:fd.params.kwonlyargs=[]
 vararg:fd.params.vararg=none
 kwarg:fd.params.kwarg=none
 args:fd.params.args.map (·.arg)=[("self":Str),("reason":Str)]
 dflt:∃ds:List Value,ds.length≤2∧((∃T o n,fd.defaults=.ref T∧X.K.lookup T=some o∧o.data=.seq ds.toArray n)∨(fd.defaults=.none∧ds=[]))
 k1:fd.scope.names.lookup ("self":Str)=some NameKind.local
 k2:fd.scope.names.lookup ("reason":Str)=some NameKind.local
 setattr:findIn X.K (.ref C) "__setattr__"=some (some (.builtin "object.__setattr__"))
 over:lR X.K C=true
 taker:takerIn X.K C "reason"=some none
 zJ:hasDictIn X.K C=true
section
variable {X:Cx}{A:Around}{s:Shared}{R:Result→Shared→Prop}
theorem As{E:Value→Shared→Prop}{C e:Addr}{vs:Array Value}{name:Str}{v:Value}{Q:Unit→Shared→Prop}(KI:X.K.In s.heap)(he:s.heap.get? e=some {cls:=.ref C,data:=.fields vs})(hs:findIn X.K (.ref C) "__setattr__"=some (some (.builtin "object.__setattr__")))
  (ho:lR X.K C=true) (ht:takerIn X.K C name=some none) (hd:hasDictIn X.K C=true)
  (q:∀h' tk d,(∀b o,s.heap.get? b=some o→b≠e→h'.get? b=some o)→h'.get? e=some {cls:=.ref C,dict:=some d,data:=.fields vs}→Q () {s with heap:=h',toks:=tk}):
  wpAny X.M A (setAttr (.ref e) name v) Q E s:=by
 revert X A s E C e vs name v Q
 apply aN;intro
 generalize bM .. =X,bN .. =A,bQ .. =s,bR .. =E
 apply aJ;intro
 generalize nx .. =C
 apply aN;intro
 generalize bM .. =e,bN .. =vs,bQ .. =name,bR .. =v
 apply aJ;intro
 generalize nx .. =Q
 intro KI he hs ho ht hd q
 have I:InstAt s.heap e {cls:=.ref C,data:=.fields vs} C none:=⟨he,rfl,rfl,trivial⟩
 refine set_plain KI I hs (osa_exc (s:={s with toks:=s.toks+1}) KI I ho ht fun b'=> ?_)
 obtain⟨cd,hc,hd'⟩:=any_some (show(clsIn X.K C).any (·.hasDict)=true from hd)
 obtain⟨h,g,dr,t,os⟩:=s
 dsimp only at KI he q ⊢
 refine wpAny_bind (wpAny_pure (wpAny_bind (wpAny_bind (wpAny_loadPart (s:=⟨h,g,dr,t+1,os⟩) he (wpAny_bind ((looks_clsIn KI hc).here (s:=⟨h,g,dr,t+1,os⟩) ?_))))))
 rw[hd']
 show wpAny _ _ (alloc emptyDict >>= fun dx=>update e (fun o=>{o with dict:=some dx}) >>= fun _=>pure (some dx)) _ _ _
 refine wpAny_bind (wpAny_alloc (wpAny_bind (wpAny_update (Heap.get?_push_of_some _ he) (wpAny_pure ?_))))
 have hd1:(h.push emptyDict).get? h.objs.size=some emptyDict:=Heap.get?_push_size _ rfl
 have j6:e≠h.objs.size:=Nat.ne_of_lt (Heap.lt_size he)
 have he2:((h.push emptyDict).update e fun o=>{o with dict:=some h.objs.size}).get? e=some {cls:=.ref C,dict:=some h.objs.size,data:=.fields vs}:=Heap.get?_update_self _ (Heap.get?_push_of_some _ he) rfl
 have hk2:∀b o,h.get? b=some o→b≠e→((h.push emptyDict).update e fun o=>{o with dict:=some h.objs.size}).get? b=some o:=fun b o eb n=>(Heap.get?_update_other _ _ (fun z=>n z.symm)).trans (Heap.get?_push_of_some _ eb)
 have hd2:((h.push emptyDict).update e fun o=>{o with dict:=some h.objs.size}).get? h.objs.size=some emptyDict:=(Heap.get?_update_other _ _ j6).trans hd1
 have N:NsZ ((h.push emptyDict).update e fun o=>{o with dict:=some h.objs.size}) h.objs.size (fun _=>none) 0:=⟨emptyDict,#[],0,hd2,rfl,fun e he=>absurd he (by simp),fun _=>rfl,Nat.le_refl _⟩
 refine wpAny_bind (wpAny_pure (wpAny_bind (jC (s:=⟨_,g,dr,t+1,os⟩) N fun h3 hn hs3=> ?_)))
 have hs3:Heap.SameBut h.objs.size ((h.push emptyDict).update e fun o=>{o with dict:=some h.objs.size}) h3:=hs3
 obtain⟨o',es',ep',g2,d2,sk2,f2,z2⟩:=id hn
 refine wpAny_bind (wpAny_lookBehind g2 (by rw[d2];exact pastItsLine_dict (by rw[sizeLine_eq];exact Nat.le_trans z2 (by simp))) (wpAny_pure ?_))
 exact q h3 _ h.objs.size (fun b o eb n=>(hs3.2 b (Nat.ne_of_lt (Heap.lt_size eb))).trans (hk2 b o eb n)) ((hs3.2 e j6).trans he2)
theorem Au(ok:X.ok){C f e:Addr}{fd:FuncData}{vs:Array Value}{u:Value}(F:tJ X C f fd)(KI:X.K.In s.heap)(hkp:∀a o,X.h₀.get? a=some o→s.heap.get? a=some o)(vg:A.depth<recursionLimit)(he:s.heap.get? e=some {cls:=.ref C,data:=.fields vs})
  (q:∀h' tk d,(∀b o,s.heap.get? b=some o→b≠e→h'.get? b=some o)→h'.get? e=some {cls:=.ref C,dict:=some d,data:=.fields vs}→R (.ok (.ret .none)) {s with heap:=h',toks:=tk}):
  codeAny X.M A (.call (.ref f) ⟨[.ref e,u],[]⟩) R s:=by
 revert X A s R C f e fd vs u
 apply aN;intro
 generalize bM .. =X,bN .. =A,bQ .. =s,bR .. =R
 intro ok
 apply aJ;intro
 generalize nx .. =C
 apply aN;intro
 generalize bM .. =f,bN .. =e,bQ .. =fd,bR .. =vs
 apply aJ;intro
 generalize nx .. =u
 intro F KI hkp vg he q
 obtain⟨o,ho,hd⟩:=F.obj
 obtain⟨ds,hds,hdf⟩:=F.dflt
 obtain⟨p1,p2,p3,p4,An⟩:=F.stmts
 have hb:BindsTo s fd ⟨[.ref e,u],[]⟩ ([("self":Str),("reason":Str)].zip ([.ref e,u]++ds.drop (2+ds.length - 2))):=by
  obtain⟨T,oT,nT,hdT⟩:=kT KI hdf
  exact kR F.pU F.tG F.vararg F.kwarg F.args (by decide) hdT (Nat.le_refl _) (Nat.le_add_right _ _) hds
 have hz:ds.drop (2+ds.length - 2)=[]:=by rw[List.drop_eq_nil_iff];lia
 rw[hz] at hb
 refine vf vg (KI _ _ ho) hd ((X.T ok).nolimit.keeps hkp) (F.code _ KI) An hb F.clo (fun x hx=> ?_) (fun bc x=> ?_) F.co F.gen F.kind
 ·have hx:x∈[(("self":Str),Value.ref e),(("reason":Str),u)]:=hx
  rcases List.mem_cons.mp hx with rfl|hx
  ·exact .inl F.k1
  ·rw[List.mem_singleton.mp hx];exact .inl F.k2
 generalize henv:callEnvC fd s.heap.objs.size f=env at x ⊢
 have eN:env.scope=fd.scope:=by rw[←henv];rfl
 have ko:∀y,env.kindOf y=fd.scope.names.lookup y:=fun y=>by unfold Env.kindOf;rw[eN]
 have kd:env.scope.kind=.function:=by rw[eN];exact F.kind
 have m1:(bindL env.kindOf ([("self":Str),("reason":Str)].zip [.ref e,u]) fun _=>none) ("self":Str)=some (.ref e):=mU (i:=0) ((ko _).trans F.k1) (by decide) rfl rfl
 have m2:(bindL env.kindOf ([("self":Str),("reason":Str)].zip [.ref e,u]) fun _=>none) ("reason":Str)=some u:=mU (i:=1) ((ko _).trans F.k2) (by decide) rfl rfl
 obtain⟨h1,tk,rfl⟩:=x.toInCall.same
 have gp:=x.toInCall.keep
 refine wpAny_execs_cons (plainObj_wpAny_Assign_Attribute ?_ (by rfl))
 refine wpAny_Name (wpAny_loadName_local kd ((ko _).trans F.k2) x.toInCall.ns m2 ?_) (by decide)
 refine wpAny_Name (wpAny_loadName_local kd ((ko _).trans F.k1) x.toInCall.ns m1 ?_) (by decide)
 refine As (KI.keeps gp) (gp _ _ he) F.setattr F.over F.taker F.zJ fun h' tk' d hk hg=>wpAny_execs_nil ?_
 exact q h' tk' d (fun b o eb n=>hk b o (gp _ _ eb) n) hg
end
structure eg(X:Cx):Prop where
 obj:∃nm q N bs bm jI sn sub ab col dd k0 k1 k2 k3 k5,X.K.lookup X.bad=some (excClassObj nm q X.bad N bs bm jI sn sub ab col dd k0 k1 k2 k3 k5 "ValueError.__new__")∧rE "ValueError" (Value.ref X.bad::bm)
 init:∃f fd,findIn X.K (.ref X.bad) "__init__"=some (some (.ref f))∧typeIn X.K (.ref f)=some (.type "function")∧tJ X X.bad f fd
 keep:keepIn X.K (.ref X.bad)=true
section
variable {X:Cx}{P:ec}{n:Nat}{env:Env}{ν ν':Nu}{C:Ct X n env ν}{m m' m₁ m₂:Str→Option Value}{loc aM ja:Loc}{σ:Pt}{A:Around}{s:Shared}{W ct fu W':Wd}{H H':aa}{h h₁ d7 h' g base:Heap}{L c D I e:Addr}{l:List Env}{E:Value→Shared→Prop}
theorem xP(fr:j2 W h l){as:List Addr}(hin:∀a∈Fs l,a∈as){l':List Env}:(∀en∈l',en∈l)→h.FunFrames (hideAll h as) l':=by
 induction l' with
 |nil=>
  intro _
  exact trivial
 |cons en r ih=>
  intro hs
  obtain⟨hk,L',o',g1,_,_,g4,g5⟩:=fr en (hs en (.head _))
  exact⟨hk,⟨L',o',g1,hideAll_none _ (hin _ (List.mem_filterMap.mpr ⟨en,hs en (.head _),g1⟩)),g4,g5⟩,ih fun x hx=>hs x (.tail _ hx)⟩
theorem xQ{e:Addr}{dx:Option Addr}{vs:Array Value}{a0:Value}(st:St X l W H L m s)(hk:∀a o,s.heap.get? a=some o→h'.get? a=some o)(d:s.heap.get? e=none)(he:h'.get? e=some {cls:=.ref X.bad,dict:=dx,data:=.fields vs})(h1:vs[1]? =some .none)(h0:vs[0]? =some a0):
  Flew X l L W s.heap .made H e W (hideAll s.heap (Fs l)) h':=by
 have offF:∀a∈Fs l,¬Own W a∧W.B a=none:=fun a ha=>by
  obtain⟨en,he,hf⟩:=List.mem_filterMap.mp ha
  obtain⟨_,L',o',g1,g2,g3,_,_⟩:=st.fr en he
  rw[hf] at g1;cases g1
  exact⟨g3,g2⟩
 refine⟨.refl W _,st.R.u4 (fp:=Fs l) offF fun a o ea n=>hideAll_get _ ea n,?_,fun a o ea _ _ n=>hideAll_get _ ea n,fun a o ea _ _=>⟨o.slots,hk a o ea⟩⟩
 intro env outer hl A Q E s' hs hfr hq
 subst hs
 have FF:s'.heap.FunFrames (hideAll s.heap (Fs l)) l:=(xP st.fr (fun a ha=>ha) fun en he=>he).of_keeps fun b o eb _=>⟨o,hk b o eb,rfl⟩
 subst hl
 have FF':=FF
 obtain⟨_,⟨L',o',hf,_⟩,_⟩:=FF'
 refine wpAny_leaving_firstW (base:=hideAll s.heap (Fs (env::outer))) hfr FF hf he (fun b o eb=>hk b o (of_hideAll _ eb)) ?_ rfl h1 h0 fun h'' hL=> ?_
 ·cases z:(hideAll s.heap (Fs (env::outer))).get? e with
  |none=>rfl
  |some o=>rw[of_hideAll _ z] at d;cases d
 ·obtain⟨k1,⟨_,_,k2⟩,k3,k4⟩:=hL
  refine hq h'' a0 ⟨k1,?_,k2,k3⟩ k4
  cases z:(hideAll s.heap (Fs (env::outer))).get? e with
  |none=>rfl
  |some o=>rw[of_hideAll _ z] at d;cases d
theorem exc_bad(ok:X.ok){R:Result→Shared→Prop}{u:Value}(RO:eg X)(KI:X.K.In s.heap)(hkp:∀a o,X.h₀.get? a=some o→s.heap.get? a=some o)(hdep:(A.under (.builtin "type.__call__" ⟨[.ref X.bad,u],[]⟩)).depth<recursionLimit)
  (q:∀h3 tk e dx vs a0,(∀b o,s.heap.get? b=some o→h3.get? b=some o)→s.heap.get? e=none→h3.get? e=some {cls:=.ref X.bad,dict:=dx,data:=.fields vs}→vs[1]? =some .none→vs[0]? =some a0→R (.ok (.ret (.ref e))) {s with heap:=h3,toks:=tk}):
  codeAny X.M A (.call (.ref X.bad) ⟨[u],[]⟩) R s:=by
 revert X A s R u
 apply aP;intro
 generalize bP .. =X,bS .. =A
 apply aJ;intro
 generalize nx .. =s
 intro ok
 apply aP;intro
 generalize bP .. =R,bS .. =u
 intro RO KI hkp hdep q
 obtain⟨nm,qn,N,bs,bm,jI,sn,sub,ab,col,dd,k0,k1,k2,k3,k5,hC,T⟩:=RO.obj
 obtain⟨f,fd,hi,hf,IO⟩:=RO.init
 obtain⟨h,gg,dr,t,os⟩:=s
 refine Ar PySem.F.excBase_ValueError T KI (KI _ _ hC) hi hf (by rw[sizeLine_eq];show 1≤16777216;decide) ?_
 have Av:=fw h {cls:=.type "tuple",data:=.seq [u].toArray} {cls:=.ref X.bad,data:=.fields #[.ref h.objs.size,.none,.none,.none,.bool false,.none]}
 have hget:=jw h {cls:=.type "tuple",data:=.seq [u].toArray} {cls:=.ref X.bad,data:=.fields #[.ref h.objs.size,.none,.none,.none,.bool false,.none]} rfl
 have dead:h.get? (h.objs.size+1)=none:=dY h 1
 exact Au ok IO (KI.keeps Av) (fun a o ea=>Av _ _ (hkp a o ea)) hdep hget fun h3 tk d hk3 hg3=>⟨rfl,q h3 tk _ _ _ _ (fun b o eb=>hk3 b o (Av _ _ eb) (fun z=>by rw[z,dead] at eb;cases eb)) dead hg3 rfl rfl⟩
theorem xR{x:Sem Value}{Q:Flow→Shared→Prop}(RO:eg X)(hh:A.handled=none)
  (hx:wpAny X.M A x (fun v bc=>X.K.In bc.heap∧∃e dx vs,v=.ref e∧bc.heap.get? e=some {cls:=.ref X.bad,dict:=dx,data:=.fields vs}∧vs[1]? =some .none∧E (.ref e) bc) E s):wpAny X.M A (raiseStmt env (some x) none) Q E s:=by
 revert X env A s E x Q
 apply aN;intro
 generalize bM .. =X,bN .. =env,bQ .. =A,bR .. =s
 apply aP;intro
 generalize bP .. =E,bS .. =x
 apply aJ;intro
 generalize nx .. =Q
 intro RO hh hx
 obtain⟨nm,qn,N,bs,bm,jI,sn,sub,ab,col,dd,k0,k1,k2,k3,k5,hC,T⟩:=RO.obj
 exact tI T.base hh (wpAny_mono hx (fun v bc z=>z.2.imp fun e y=>y.imp fun dx y=>y.imp fun vs y=>⟨y.1,z.1 _ _ hC,y.2⟩) fun _ _ z=>z)
theorem tK{x a:Str}{k:Nat}(np p mW pos:Pos)(RO:eg X)(ev:EnvOk env)(hx:env.kindOf x=some .globalImplicit)(hd:(x == ("__debug__":Str))=false)(en:nsIn X.K mainGlobals x=some (some (.ref X.bad))):
  dK X P n env ν (.Raise (some (.Call (.Name x np) [.Constant (.str a) k p] [] mW)) none pos) .raise:=by
 revert X P n env ν x a k np p mW pos
 apply aT;intro
 generalize bX .. =X,bY .. =P,bZ .. =n,b7 .. =env,cv .. =ν,cw .. =x,cx .. =a,cy .. =k
 apply aN;intro
 generalize bM .. =np,bN .. =p,bQ .. =mW,bR .. =pos
 intro RO ev hx hd en
 apply aJ;intro
 generalize nx .. =C
 apply aN;intro
 generalize bM .. =m,bN .. =loc,bQ .. =σ,bR .. =Q
 apply aJ;intro
 generalize nx .. =Φ
 intro tp hr hE K
 rw[arm_exec_Raise]
 refine wpAny_bind (wpAny_standAt (xR RO (C.ak hr.ok).handled (wpAny_bind (wpAny_Call_Name_kw (nameG_K hr.st.F (X.X hr.rel.ok) (X.T hr.rel.ok) en ?_ ev.globals ev.kind hx hd)))))
 show wpAny X.M C.A (callWith mW (.ref X.bad) [] (backTo mW (starEach [.Constant (.str a) k p] env)) []) _ _ σ.s
 refine callWith_of (P:=X.K.In) (by rfl) (keeps_K RO.keep) ?_
 have iL:starEach [.Constant (.str a) k p] env=[(false,eval (.Constant (.str a) k p) env)]:=rfl
 rw[iL]
 refine evalArgs_plain (wpAny_items_cons (wpAny_Constant_str (wpAny_items_nil ⟨hr.rel.yO,wpAny_call (exc_bad hr.rel.ok RO hr.rel.yO hr.rel.keep ?_ fun h3 tk e dx vs a0 hk dead hg h1 h0=>wpAny_bind (wpAny_standAt (wpAny_pure ⟨hr.rel.yO.keeps hk,e,dx,vs,rfl,hg,h1,?_⟩)))⟩)) iL)
 ·have h2:=((C.ak hr.ok).make X.bad [.str a σ.s.toks] []).depth
  show _<1000
  have h2:(C.A.under (.builtin "type.__call__" ⟨[.ref X.bad,.str a σ.s.toks],[]⟩)).depth+4 * n+1≤900:=h2
  exact uQ h2 rfl
 ·exact Ct.raise hr (xQ hr.st hk dead hg h1 h0) (Fr.ez hr.st.F hk) ⟨rfl,rfl,rfl⟩ hE
theorem Flew.landed{k:XK}{tk:Nat}(x:Flew X l L W s.heap k H' e W' base h₁)(st:St X l W H L m s)(F:Fr X.h₀ L h₁ m')(sm:h₁.UpToSlots d7)(stays:base.StaysIn d7):
  Step l L W s.heap W' d7∧St X l W' H' L m' {s with heap:=d7,toks:=tk}:=by
 have F2:Fr X.h₀ L d7 m':=⟨sm.ns F.ns,fun b o eb=>stays b o (x.R.keep b o eb),F.above⟩
 have slots:∀a o,s.heap.get? a=some o→a≠L→a∈Fs l→∃sl,d7.get? a=some {o with slots:=sl}:=fun a o ea n1 n2=>by
  obtain⟨sl,e1⟩:=x.slots a o ea n1 n2
  obtain⟨en,he,hf⟩:=List.mem_filterMap.mp n2
  obtain⟨_,L',o',g1,_,_,g4,g5⟩:=st.fr en he
  rw[hf] at g1;cases g1
  rw[ea] at g4;cases g4
  obtain⟨w7,e2⟩:=sm a _ e1 g5
  exact⟨w7,e2⟩
 have keep:∀a o,s.heap.get? a=some o→¬Own W a→a≠L→a∉Fs l→d7.get? a=some o:=fun a o ea n1 n2 n3=>stays a o (x.keep a o ea n1 n2 n3)
 have S:Step l L W s.heap W' ({s with heap:=d7,toks:=tk}:Shared).heap:=by
  refine⟨x.toExt,keep,slots,fun a o ea=> ?_⟩
  by_cases q1:a=L
  ·rw[q1];exact Fr.live F2
  by_cases q2:a∈Fs l
  ·obtain⟨sl,e1⟩:=slots a o ea q1 q2;exact⟨_,e1⟩
  by_cases q3:Own W a
  ·obtain⟨o',e'⟩:=x.R.eZ (q3.mono x.toExt)
   exact⟨o',stays a o' e'⟩
  ·exact⟨o,keep a o ea q3 q1 q2⟩
 exact⟨S,st.next (s':={s with heap:=d7,toks:=tk}) S F2 (x.R.kept fun a o ea=>stays a o ea)⟩
theorem xS{s bc:Shared}(q:g8 s bc)(h:Heap):({bc with heap:=h}:Shared)={s with heap:=h,toks:=bc.toks}:=by
 obtain⟨q1,q2,q3⟩:=q
 obtain⟨_,_,_,_,_⟩:=bc
 dsimp only at q1 q2 q3
 subst q1 q2 q3
 rfl
theorem rG{h5:Heap}{e:Addr}{ob:Obj}{R:Bool→Shared→Prop}(RO:eg X)(KI:X.K.In h5)(hob:h5.get? e=some ob)(hc:ob.cls=.ref X.bad)(q:R true {s with heap:=h5}):wpAny X.M A (excMatches (.ref e) (.ref X.bad)) R E {s with heap:=h5}:=by
 revert X A s E h5 e ob R
 apply aT;intro
 generalize bX .. =X,bY .. =A,bZ .. =s,b7 .. =E,cv .. =h5,cw .. =e,cx .. =ob,cy .. =R
 intro RO KI hob hc q
 obtain⟨nm,qn,N,bs,bm,jI,sn,sub,ab,col,dd,k0,k1,k2,k3,k5,hC,T⟩:=RO.obj
 refine wpAny_excMatches_sub_self (KI _ _ hC) hob hc ?_ q
 have:=T.base
 rw[List.contains_cons] at this
 simpa using this
theorem Aw{b:List Stmt}{ib:cp}{x y c:Str}{i k:Nat}(p1 p2 p3 p4 p5 pos:Pos)(RO:eg X)(ev:EnvOk env)(inj:fQ ν)(hx:env.kindOf x=some .globalImplicit)(hd:(x == ("__debug__":Str))=false)(en:nsIn X.K mainGlobals x=some (some (.ref X.bad)))
  (hy:env.kindOf y=some .local) (hi:ν.lookup y=some i) (hb:fK X P n env ν b ib):
  dK X P n env ν (.Try b [.ExceptHandler (some (.Name x p1)) none [.Assign [.Name y p2] (.Constant (.str c) k p3) p4] p5] [] [] pos) (.try ib i (.str c)):=by
 revert X P n env ν b ib x y c i k p1 p2 p3 p4 p5 pos
 apply aT;intro
 generalize bX .. =X,bY .. =P,bZ .. =n,b7 .. =env,cv .. =ν,cw .. =b,cx .. =ib,cy .. =x
 apply aT;intro
 generalize bX .. =y,bY .. =c,bZ .. =i,b7 .. =k,cv .. =p1,cw .. =p2,cx .. =p3,cy .. =p4
 apply aP;intro
 generalize bP .. =p5,bS .. =pos
 intro RO ev inj hx hd en hy hi hb
 apply aJ;intro
 generalize nx .. =C
 apply aN;intro
 generalize bM .. =m,bN .. =loc,bQ .. =σ,bR .. =Q
 apply aJ;intro
 generalize nx .. =Φ
 intro tp hr h K
 refine wpAny_Try_except (hb ⟨C.A,C.l,σ,tryE i (.str c) Q,_,True,fun _=>C.ak hr.ok,fun _=>hr.st.fr,fun _ kx m' eO H' ex W' base bc fl Fm lrm q h=> ?_⟩ m loc σ _ _ ⟨tp.top,tp.frame⟩ ⟨hr.st,hr.lr,.refl σ,trivial⟩ h fun fl f ae m₁ aM au ay fr q=> ?_)
 ·cases kx with
  |made=>exact h.elim
  |held=>exact h.elim
  |flying=>
   obtain⟨sG,h⟩:=putL.el h
   obtain⟨outer,ho⟩:=tp.top
   obtain⟨a0,tF⟩:=fl.j5
   have hA:=(C.ak hr.ok).frames
   rw[ho] at hA tF
   refine wpAny_looks_onW hA tp.frame tF fun h4 hh4 sm4=> ?_
   refine wpAny_landsW hh4 fun h5 hh5 sm5=> ?_
   have sm45:=sm4.trans sm5
   have F5:Fr X.h₀ env.locals h5 m':=⟨sm45.ns Fm.ns,fun b o eb=>hh5.1 b o (fl.R.keep b o eb),Fm.above⟩
   have KI5:X.K.In h5:=(X.X hr.rel.ok).keeps F5.keep
   obtain⟨ob,hob,hobc⟩:=hh5.there
   refine wpAny_handleBy_cons (codeAny_handlers_test (nameG_K (s:={bc with heap:=h5}) F5 (X.X hr.rel.ok) (X.T hr.rel.ok) en ?_ ev.globals ev.kind hx hd)) (by intro q;cases q)
   refine rG RO KI5 hob hobc (codeAny_handlers_suite ?_)
   refine lands_againW hh5 fun h6 hh6 sm6=> ?_
   obtain⟨S6,st6⟩:=fl.landed (tk:=bc.toks) hr.st Fm (sm45.trans sm6) hh6.1
   show wpAny X.M _ _ _ _ ({bc with heap:=h6}:Shared)
   rw[xS q]
   have x:Le C.l env.locals σ ⟨{σ.s with heap:=h6,toks:=bc.toks},W',H'⟩:=⟨S6,rfl,rfl,rfl⟩
   have hr6:Here C m' eO ⟨{σ.s with heap:=h6,toks:=bc.toks},W',H'⟩:=⟨st6,lrm,hr.le.trans x,hr.ok⟩
   have z:=hr6.toks (tk:=bc.toks+1)
   refine wpAny_execs_cons (wpAny_Assign_Name (wpAny_Constant_str ?_) (by rfl))
   exact eG (σ:=⟨{σ.s with heap:=h6,toks:=bc.toks+1},W',H'⟩) inj ev.kind z.1 hy hi (.str c _) sG fun m6 s6 hr7 le7=>wpAny_execs_nil (iR K hr7 ((x.trans z.2).trans le7) h)
 ·cases fr with
  |next=>exact wpAny_execs_nil (iR K ⟨au.st,au.lr,hr.le.trans ay,hr.ok⟩ ay q)
  |cont=>exact q.elim
  |ret _=>exact q.elim
end
inductive GV where
 |const (v:PV)|fn (f:Nat)|cls (c:Nat)|bi|bad
structure TE where
 tab:List Str
 sc:List (Str×NameKind)
 ν:Nu
 glob:List (Str×GV)
instance:Nonempty GV:=⟨.bi⟩
instance:Nonempty TE:=⟨⟨[],[],[],[]⟩⟩
noncomputable def idxOf(x:Str):List Str→Nat→Option Nat
 |[],_=>none
 |y::r,k=>if x == y then some k else idxOf x r (k+1)
noncomputable def TE.nm(T:TE)(x:Str):Option Nat:=idxOf x T.tab 0
noncomputable def TE.g(T:TE)(x:Str):Option GV:=if T.sc.lookup x == some .globalImplicit then T.glob.lookup x else none
noncomputable def isBi:Option GV→Bool
 |some .bi=>true
 |_=>false
noncomputable def TE.b(T:TE)(x:Str)(s:Str):Bool:=x == s && isBi (T.g x)
noncomputable def trG:Option GV→Option IE
 |some (.const v)=>some (.const v)
 |_=>none
noncomputable def Ax(T:TE)(x:Str):Option IE:=
 (T.sc.lookup x).bind fun k=>bif k == .globalImplicit then trG (T.glob.lookup x) else bif k == .globalExplicit then none else(T.ν.lookup x).map .var
noncomputable def Ay:List (Str×BF):=[("abs",.abs),("min",.min),("max",.max),("len",.len),("list",.list),("tuple",.tuple),("sum",.sum),("sorted",.sorted),("int",.int),("bytes",.bytes)]
noncomputable def fz(names sc:List (Str×NameKind)):List (Str×NameKind):=
 names.map fun(n,k)=>if k == .free && sc.lookup n == some .cell then(n,.cell) else(n,k)
noncomputable def TE.inner(T:TE)(scope:Scope)(cg:List (Str×Nat)):TE:=
 {T with sc:=fz scope.names T.sc,ν:=cg++T.ν.filter fun p=>scope.names.lookup p.1 == some .free}
noncomputable def o2{α β γ:Type}(f:α→β→γ)(a:Option α)(b:Option β):Option γ:=a.bind fun x=>b.map (f x)
noncomputable def o3{α β γ δ:Type}(f:α→β→γ→δ)(a:Option α)(b:Option β)(c:Option γ):Option δ:=a.bind fun x=>o2 (f x) b c
noncomputable def gd{α:Type}(b:Bool)(x:Option α):Option α:=bif b then x else none
theorem fL{α β γ:Type}{f:α→β→γ}{a:Option α}{b:Option β}{r:γ}(h:o2 f a b=some r):∃x y,a=some x∧b=some y∧f x y=r:=by
 cases a<;>cases b<;>cases h
 exact⟨_,_,rfl,rfl,rfl⟩
theorem o3_some{α β γ δ:Type}{f:α→β→γ→δ}{a:Option α}{b:Option β}{c:Option γ}{r:δ}(h:o3 f a b c=some r):∃x y z,a=some x∧b=some y∧c=some z∧f x y z=r:=by
 cases a<;>cases b<;>cases c<;>cases h
 exact⟨_,_,_,rfl,rfl,rfl,rfl⟩
theorem de{α:Type}{b:Bool}{x:Option α}{r:α}(h:gd b x=some r):b=true∧x=some r:=by
 cases b
 ·cases h
 ·exact⟨rfl,h⟩
theorem eH{α:Type}{b:Bool}{x y:Option α}{r:α}(h:(bif b then x else y)=some r):b=true∧x=some r∨b=false∧y=some r:=by
 cases b
 ·exact .inr ⟨rfl,h⟩
 ·exact .inl ⟨rfl,h⟩
theorem map_some{α β:Type}{f:α→β}{a:Option α}{r:β}(h:a.map f=some r):∃x,a=some x∧f x=r:=Option.map_eq_some_iff.mp h
theorem bind_some{α β:Type}{f:α→Option β}{a:Option α}{r:β}(h:a.bind f=some r):∃x,a=some x∧f x=some r:=Option.bind_eq_some_iff.mp h
theorem no{α:Type}{r:α}{C:Prop}(h:none=some r):C:=nomatch h
theorem eh{α:Type}{P:α→Prop}{a r:α}(h:some a=some r)(p:P a):P r:=Option.some.inj h▸p
theorem iS{α β γ:Type}{f:α→β→γ}{a:Option α}{b:Option β}{r:γ}{P:γ→Prop}(h:o2 f a b=some r)(H:∀x y,a=some x→b=some y→P (f x y)):P r:=by
 obtain⟨x,y,h1,h2,rfl⟩:=fL h;exact H x y h1 h2
theorem oW{α β γ δ:Type}{f:α→β→γ→δ}{a:Option α}{b:Option β}{c:Option γ}{r:δ}{P:δ→Prop}(h:o3 f a b c=some r)(H:∀x y z,a=some x→b=some y→c=some z→P (f x y z)):P r:=by
 obtain⟨x,y,z,h1,h2,h3,rfl⟩:=o3_some h;exact H x y z h1 h2 h3
theorem cV{α:Type}{b:Bool}{x:Option α}{r:α}{Q:Prop}(h:gd b x=some r)(H:b=true→x=some r→Q):Q:=H (de h).1 (de h).2
theorem cH{α β:Type}{f:α→β}{a:Option α}{r:β}{P:β→Prop}(h:a.map f=some r)(H:∀x,a=some x→P (f x)):P r:=by
 obtain⟨x,h1,rfl⟩:=map_some h;exact H x h1
theorem fM{α:Type}{b:Bool}{x y:Option α}{r:α}{Q:Prop}(h:(bif b then x else y)=some r)(H:b=true→x=some r→Q)(K:y=some r→Q):Q:=by
 cases b
 ·exact K h
 ·exact H rfl h
theorem cC{α β:Type}{f:α→Option β}{a:Option α}{r:β}{Q:Prop}(h:a.bind f=some r)(H:∀x,a=some x→f x=some r→Q):Q:=(bind_some h).elim fun x k=>H x k.1 k.2
noncomputable def gW{α β:Type}(f:α→Option β):List α→Option (List β)
 |[]=>some []
 |a::r=>o2 List.cons (f a) (gW f r)
noncomputable def dg(T:TE):Expr→Option Nat
 |.Name x _=>gd (T.sc.lookup x == some .local) (T.ν.lookup x)
 |_=>none
noncomputable def oX(T:TE):Expr→Option (List Nat)
 |.Name x p=>(dg T (.Name x p)).map fun i=>[i]
 |.Tuple es _ _=>gd (decide (2≤es.length)) (gW (dg T) es)
 |_=>none
set_option backward.match.sparseCases true in
noncomputable def jJ(e:Expr):List Str:=swappedStores.match_8 (fun _=>List Str) e (fun x _=>[x]) fun e=>W.isTupleDisplay.match_1 (fun _=>List Str) e (fun es _ _=>es.filterMap nameOf) fun _=>[]
noncomputable def cOf(e:Expr):Option Const:=isNumConstant.match_4 (fun _=>Option Const) e (fun c _ _=>some c) fun _=>none
noncomputable def cStr:Const→Option Str
 |.str x=>some x
 |_=>none
noncomputable def cInt:Const→Option Int
 |.int i=>some i
 |_=>none
noncomputable def strOf(e:Expr):Option Str:=(cOf e).bind cStr
noncomputable def tL(k:Option Expr):Option Str:=k.bind strOf
noncomputable def intOf(k:Option Expr):Option Int:=(k.bind cOf).bind cInt
noncomputable def Az:Option Expr→Option Int
 |some e=>match e with
  |.UnaryOp op e _=>match op with
   |.USub=>intOf (some e)
   |_=>none
  |_=>none
 |none=>none
noncomputable def trConst:Const→Option IE
 |.none=>some (.const .none)
 |.bool b=>some (.const (.bool b))
 |.int i=>some (.const (.int i))
 |.str x=>some (.const (.str x))
 |_=>none
noncomputable def trUn(a:Option IE):UnaryOp→Option IE
 |.USub=>a.map .neg
 |.Not=>a.map .not
 |_=>none
noncomputable def trCmp(f:Expr→Option IE)(a:Expr):List CmpOp→List Expr→Option IE
 |[op],bs=>match bs with
  |[b]=>gd (!behindInMarks op b) (o2 (.cmp op) (f a) (f b))
  |_=>none
 |[op,lN],bs=>match bs with
  |[b,c]=>gd (!lastMarks [op,lN] [b,c]) (o3 (.chain op lN) (f a) (f b) (f c))
  |_=>none
 |_,_=>none
theorem AA{f:Expr→Option IE}{a:Expr}{ops:List CmpOp}{bs:List Expr}{ie:IE}{Q:List CmpOp→List Expr→IE→Prop}(h:trCmp f a ops bs=some ie)
  (H:∀op b ia ib,(!behindInMarks op b)=true→f a=some ia→f b=some ib→Q [op] [b] (.cmp op ia ib))
  (K:∀op lN b c ia ib ic,(!lastMarks [op,lN] [b,c])=true→f a=some ia→f b=some ib→f c=some ic→Q [op,lN] [b,c] (.chain op lN ia ib ic)):Q ops bs ie:=by
 rcases ops with _|⟨op,_|⟨lN,_|_⟩⟩
 ·exact no h
 ·rcases bs with _|⟨b,_|_⟩
  ·exact no h
  ·exact cV h fun q h=>iS h fun _ _ h1 h2=>H _ _ _ _ q h1 h2
  ·exact no h
 ·rcases bs with _|⟨b,_|⟨c,_|_⟩⟩
  ·exact no h
  ·exact no h
  ·exact cV h fun q h=>oW h fun _ _ _ h1 h2 h3=>K _ _ _ _ _ _ _ q h1 h2 h3
  ·exact no h
 ·exact no h
noncomputable def trDict(T:TE)(ks:List (Option Expr))(es:List Expr)(dO:Option jU):Option IE:=
 match ks with
 |[]=>match es with
  |[]=>some .aW
  |_=>none
 |k::r=>gd (decide ((k::r).length≤15∧(k::r).length=es.length)) (o2 .d9 ((gW tL (k::r)).bind (gW T.nm)) dO)
noncomputable def boolI:BoolOp→IE→IE→IE
 |.And=>.and
 |.Or=>.or
noncomputable def trSl(l u s:Option Expr)(ia:IE):Option IE:=
 bif l.isNone && s.isNone && intOf u == some 24 then some (.l7 ia)
 else bif u.isNone && s.isNone && intOf l == some 1 then some (.qM ia)
 else bif l.isNone && u.isNone && Az s == some 1 then some (.rev ia) else none
noncomputable def AB(T:TE):List Expr→List Str→Bool
 |[],[]=>true
 |e::es,s::ss=>(nameOf e).elim false (T.b · s) && AB T es ss
 |_,_=>false
noncomputable def rowNames(T:TE)(es:List Expr):Bool:=AB T es ["bytes","bytearray","list","tuple"]
noncomputable def trIsi(T:TE)(f:Expr→Option IE):List Expr→Option IE
 |[a,t]=>gd (notStar a) (match t with
  |.Name y _=>bif T.b y "int" then(f a).map .isInt else bif T.b y "bool" then(f a).map .isBool else none
  |.Tuple es _ _=>gd (rowNames T es) ((f a).map .gY)
  |_=>none)
 |_=>none
noncomputable def trCg(T:TE)(g:Option GV)(x:Str)(args:List Expr)(dO:Option jU)(f:Expr→Option IE):Option IE:=
 match g with
 |some g=>match g with
  |.fn c=>dO.map (.ah c)
  |.cls c=>dO.map (.callC c)
  |.bi=>bif x == ("isinstance":Str) then trIsi T f args else(Ay.lookup x).bind fun b=>dO.map (.bC b)
  |_=>none
 |none=>none
noncomputable def m1(f:Expr→Option IE)(k:IE→IE):List Expr→Option IE
 |[a]=>gd (notStar a) ((f a).map k)
 |_=>none
noncomputable def m2(f:Expr→Option IE)(k:IE→IE→IE):List Expr→Option IE
 |[a,b]=>gd (notStar a && notStar b) (o2 k (f a) (f b))
 |_=>none
noncomputable def mget(f:Expr→Option IE)(io:IE)(args:List Expr):Option IE:=
 match args with
 |[_]=>m1 f (.zl io) args
 |_=>m2 f (.zm io) args
noncomputable def trMt(T:TE)(f:Expr→Option IE)(dO:Option jU)(x:Str)(args:List Expr)(io:IE):Option IE:=
 bif x == ("append":Str) then m1 f (.append io) args
 else bif x == ("extend":Str) then m1 f (.extend io) args
 else bif x == ("insert":Str) then m2 f (.insert io) args
 else bif x == ("get":Str) then mget f io args
 else o2 (.l8 io) (T.nm x) dO
noncomputable def trSrcE(T:TE)(f:Expr→Option IE)(e:Expr):Option gZ:=
 match e with
 |.Call g args yP _=>match g with
  |.Name x _=>match yP with
   |[]=>match args with
    |[a]=>bif T.b x "range" then gd (notStar a) ((f a).map .range) else bif T.b x "enumerate" then gd (notStar a) ((f a).map .enum) else(f e).map .items
    |[a,b]=>bif T.b x "zip" then gd (notStar a && notStar b) (o2 .zip (f a) (f b)) else(f e).map .items
    |_=>(f e).map .items
   |_=>(f e).map .items
  |_=>(f e).map .items
 |_=>(f e).map .items
mutual
noncomputable def tr(T:TE):Nat→Expr→Option IE
 |0,_=>none
 |n+1,e=>match e with
  |.Constant c _ _=>trConst c
  |.Name x _=>Ax T x
  |.BinOp a op b _=>o2 (.bin op) (tr T n a) (tr T n b)
  |.UnaryOp op a _=>trUn (tr T n a) op
  |.BoolOp op es _=>ki T n op es
  |.IfExp c a b _=>gd (fA n c) (o3 .ite (tr T n c) (tr T n a) (tr T n b))
  |.Compare a ops bs _=>trCmp (tr T n) a ops bs
  |.Attribute a x _=>gd (ck a) (o2 .attr (tr T n a) (T.nm x))
  |.Subscript a i _=>AD T n a i
  |.List es _=>(AE T n es).map .list
  |.Tuple es _ _=>(AE T n es).map .tuple
  |.Dict ks es _=>trDict T ks es (AE T n es)
  |.Call g args yP pos=>match yP with
   |[]=>match g with
    |.Name x _=>tM T n x args pos
    |.Attribute o x apos=>tN T n o x apos args pos
    |_=>none
   |_=>none
  |.ListComp elt gs scope _=>match gs with
   |[⟨target,iter,ifs,k⟩]=>gd (ifs.isEmpty && k == 0) (mX T n elt target iter scope)
   |_=>none
  |_=>none
noncomputable def AE(T:TE):Nat→List Expr→Option jU
 |0,_=>none
 |_+1,[]=>some .nil
 |n+1,e::r=>gd (notStar e) (o2 .cons (tr T n e) (AE T n r))
noncomputable def ki(T:TE):Nat→BoolOp→List Expr→Option IE
 |0,_,_=>none
 |_+1,_,[]=>none
 |n+1,op,e::r=>match r with
  |[]=>tr T n e
  |e2::r=>o2 (boolI op) (tr T n e) (ki T n op (e2::r))
noncomputable def AD(T:TE):Nat→Expr→Expr→Option IE
 |0,_,_=>none
 |n+1,a,i=>(tr T n a).bind fun ia=>match i with
  |.Slice l u s _=>gd (cm a) (trSl l u s ia)
  |i=>match strOf i with
   |some x=>(T.nm x).map (.eV ia)
   |none=>(tr T n i).map (.item ia)
noncomputable def tM(T:TE):Nat→Str→List Expr→Pos→Option IE
 |0,_,_,_=>none
 |n+1,x,args,_=>trCg T (T.g x) x args (AE T n args) (tr T n)
noncomputable def tN(T:TE):Nat→Expr→Str→Pos→List Expr→Pos→Option IE
 |0,_,_,_,_,_=>none
 |n+1,o,x,apos,args,pos=>gd (ck o && (apos.endLine == pos.line) && decide (args.length<30)) ((tr T n o).bind (trMt T (tr T n) (AE T n args) x args))
noncomputable def vm(T:TE):Nat→Expr→Option gZ
 |0,_=>none
 |n+1,e=>trSrcE T (tr T n) e
noncomputable def mX(T:TE):Nat→Expr→Expr→Expr→Scope→Option IE
 |0,_,_,_,_=>none
 |n+1,elt,target,iter,scope=>kj T n elt target iter scope
noncomputable def kj(T:TE):Nat→Expr→Expr→Expr→Scope→Option IE
 |0,_,_,_,_=>none
 |n+1,elt,target,iter,scope=>
  (gW (fun x=>(T.ν.lookup x).map fun i=>(x,i)) (jJ target)).bind fun tg=>
   gd (scope.kind == .function && scope.names.all (fun p=>p.2 !=.cell && (p.2 !=.local || scope.names.lookup p.1 == some .local) && (p.2 !=.free || T.sc.lookup p.1 == some .cell)) && gG iter)
    ((oX (T.inner scope tg) target).bind fun cg=>(vm T n iter).bind fun is=>gd (du target || (cm target && cW is)) ((tr (T.inner scope tg) n elt).map (.comp cg is)))
noncomputable def fA:Nat→Expr→Bool
 |0,_=>false
 |n+1,e=>match e with
  |.BoolOp _ es _=>iF n es
  |.UnaryOp op a _=>match op with
   |.Not=>fA n a
   |_=>false
  |.Compare .. =>true
  |.Name .. =>true
  |.Call .. =>true
  |.Attribute .. =>true
  |.Subscript .. =>true
  |.Constant .. =>true
  |_=>false
noncomputable def iF:Nat→List Expr→Bool
 |0,_=>false
 |_+1,[]=>true
 |n+1,e::r=>fA n e && iF n r
end
noncomputable def swapC(ts:List Expr):Option (Option (List Str))→Bool
 |some o=>o.elim true fun names=>names == ts.filterMap nameOf
 |none=>false
noncomputable def AF(T:TE)(ts:List Expr):Expr→Bool
 |.Tuple vs _ _=>swapC ts (jF ts vs (fun x=>T.sc.lookup x))
 |_=>true
noncomputable def tO:Option Expr→Option (Str×Str)
 |some e=>match e with
  |.Call g args yP _=>match yP with
   |[]=>match args with
    |[a]=>o2 Prod.mk (nameOf g) (strOf a)
    |_=>none
   |_=>none
  |_=>none
 |none=>none
noncomputable def gH(T:TE)(exc cause:Option Expr):IS:=
 match cause with
 |none=>match tO exc with
  |some (x,_)=>match T.g x with
   |some .bad=>.raise
   |_=>.stuck
  |none=>.stuck
 |some _=>.stuck
noncomputable def asgOf:List Stmt→Option (Expr×Str)
 |[s]=>match s with
  |.Assign ts v _=>match ts with
   |[t]=>(strOf v).map (Prod.mk t)
   |_=>none
  |_=>none
 |_=>none
noncomputable def tP(T:TE):List ExceptHandler→Option (Nat×Str)
 |[h]=>match h with
  |.ExceptHandler ty nm body _=>match nm with
   |none=>match ty with
    |some e=>(nameOf e).bind fun x=>match T.g x with
     |some .bad=>(asgOf body).bind fun q=>(dg T q.1).map fun i=>(i,q.2)
     |_=>none
    |none=>none
   |some _=>none
 |_=>none
noncomputable def xT(T:TE)(f:Expr→Option IE)(c:Expr→Expr→Expr→Scope→Option IE)(v:Expr):Expr→Option IS
 |.Name x p=>(dg T (.Name x p)).bind fun i=>match v with
  |.ListComp elt gs scope mW=>match gs with
   |[⟨target,iter,ifs,k⟩]=>gd (ifs.isEmpty && k == 0) (gd ((p.line == mW.line) && !(scope.names.any fun z=>z.1 == x && (z.2 == .local || z.2 == .cell))) ((c elt target iter scope).map (.assign i)))
   |_=>none
  |v=>gd (dA v) ((f v).map (.assign i))
 |.Tuple ts _ _=>(gW (dg T) ts).bind fun is=>gd (decide is.Nodup && dA v && AF T ts v) ((f v).map (.bH is))
 |.Attribute o x _=>gd (dA v) (o3 (fun k io iv=>.aw io k iv) (T.nm x) (f o) (f v))
 |.Subscript o i _=>gd (dA v) (o3 .iC (f o) (f i) (f v))
 |_=>none
noncomputable def trAug(T:TE)(f:Expr→Option IE)(op:Operator)(v:Expr):Expr→Option IS
 |.Name x p=>o2 (fun i iv=>.aug i op iv) (dg T (.Name x p)) (f v)
 |.Subscript o i _=>gd (h9 i) (o3 (fun io ii iv=>.lx io ii op iv) (f o) (f i) (f v))
 |_=>none
mutual
noncomputable def trS(T:TE):Nat→Stmt→Option IS
 |0,_=>none
 |n+1,s=>match s with
  |.Expr e _=>gd (dA e) ((tr T n e).map .expr)
  |.Assign ts v _=>match ts with
   |[t]=>xT T (tr T n) (mX T n) v t
   |_=>none
  |.AugAssign t op v _=>trAug T (tr T n) op v t
  |.If c a b _=>gd (fA n c) (o3 .ite (tr T n c) (ow T n a) (ow T n b))
  |.While c b o _=>gd (o.isEmpty && fA n c) (o2 .while (tr T n c) (ow T n b))
  |.For target iter b o _=>gd (o.isEmpty && gG iter) ((oX T target).bind fun cg=>(vm T n iter).bind fun is=>gd (du target || (cm target && cW is)) ((ow T n b).map (.for cg is)))
  |.Return v _=>match v with
   |some e=>(tr T n e).map .ret
   |none=>none
  |.Raise exc cause _=>some (gH T exc cause)
  |.Try b hs o f _=>gd (o.isEmpty && f.isEmpty) (o2 (fun i ib=>.try ib i.1 (.str i.2)) (tP T hs) (ow T n b))
  |.Continue _=>some .cont
  |_=>none
noncomputable def ow(T:TE):Nat→List Stmt→Option cp
 |0,_=>none
 |_+1,[]=>some .nil
 |n+1,s::r=>o2 .cons (trS T n s) (ow T n r)
end
def GOk(X:Cx)(x:Str):GV→Prop
 |.const v=>∃u,nsIn X.K mainGlobals x=some (some u)∧∀W:Wd,(∀a o,X.h₀.get? a=some o→W.B a=some o)→VR X W v u
 |.fn f=>nsIn X.K mainGlobals x=some (some (.ref f))∧keepIn X.K (.ref f)=true
 |.cls c=>nsIn X.K mainGlobals x=some (some (.ref c))∧keepIn X.K (.ref c)=true
 |.bi=>nsIn X.K mainGlobals x=some none∧x≠"__name__"
 |.bad=>nsIn X.K mainGlobals x=some (some (.ref X.bad))
structure fh(X:Cx)(T:TE):Prop where
 tab:X.tab=T.tab
 inj:fQ T.ν
 pV:∀x i,T.ν.lookup x=some i→(x == ("__debug__":Str))=false∧(x == ("__classdict__":Str))=false
 glob:∀x g,T.glob.lookup x=some g→(x == ("__debug__":Str))=false∧GOk X x g
theorem fi{α β:Type}{f:α→Option β}{a:α}{r:List α}{bs:List β}(e:gW f (a::r)=some bs):∃b br,f a=some b∧gW f r=some br∧bs=b::br:=by
 obtain⟨b,br,h1,h2,h3⟩:=fL e
 exact⟨b,br,h1,h2,h3.symm⟩
theorem ij{α β:Type}{f:α→Option β}{bs:List β}(e:gW f []=some bs):bs=[]:=by
 cases e;rfl
theorem rH{α β:Type}{f:α→Option β}{l:List α}:∀{bs:List β},gW f l=some bs→l.length=bs.length:=by
 induction l with
 |nil=>
  intro _ e;rw[ij e];rfl
 |cons a r ih=>
  intro _ e;obtain⟨b,br,_,h2,rfl⟩:=fi e;exact congrArg (· +1) (ih h2)
section
variable {X:Cx}{P:ec}{m:Nat}{env:Env}{T:TE}
theorem idxOf_c{x y:Str}{r:List Str}{k:Nat}:idxOf x (y::r) k=if x == y then some k else idxOf x r (k+1):=rfl
theorem tQ{x:Str}{l:List Str}:∀{k j:Nat},idxOf x l k=some j→∃i,j=k+i∧l[i]? =some x:=by
 induction l with
 |nil=>
  intro _ _ e
  exact cj e
 |cons y r ih=>
  intro k j e
  rw[idxOf_c] at e
  split at e
  ·rename_i q
   cases e
   have q:x=y:=by simpa using q
   subst q
   exact⟨0,rfl,rfl⟩
  ·obtain⟨i,h1,h2⟩:=ih e;exact⟨i+1,by lia,by simpa using h2⟩
theorem fh.nm(t:fh X T){x:Str}{k:Nat}(e:T.nm x=some k):X.nm k=x∧k<X.tab.length:=by
 obtain⟨i,h1,h2⟩:=tQ e
 have:k=i:=by lia
 subst this
 unfold Cx.nm
 rw[t.tab,h2]
 exact⟨rfl,(List.getElem?_eq_some_iff.mp h2).1⟩
theorem lS(ea:bq env T.sc)(x:Str):env.kindOf x=T.sc.lookup x:=by unfold Env.kindOf;rw[ea.names]
theorem pW(ea:bq env T.sc)(t:fh X T){x:Str}{g:GV}(e:T.g x=some g):env.kindOf x=some .globalImplicit∧(x == ("__debug__":Str))=false∧GOk X x g:=by
 unfold TE.g at e
 split at e
 ·rename_i q
  have q:T.sc.lookup x=some .globalImplicit:=by simpa using q
  exact⟨(lS ea x).trans q,t.glob x g e⟩
 ·cases e
theorem b_some(ea:bq env T.sc)(t:fh X T){x s:Str}(e:T.b x s=true):x=s∧env.kindOf x=some .globalImplicit∧(x == ("__debug__":Str))=false∧nsIn X.K mainGlobals x=some none∧x≠"__name__":=by
 have e:=Bool.and_eq_true_iff.mp e
 have h2:=e.2
 cases q:T.g x with
 |none=>rw[q] at h2;exact absurd h2 Bool.false_ne_true
 |some g=>
  rw[q] at h2
  cases g with
  |bi=>
   obtain⟨a,b,c⟩:=pW ea t q
   exact⟨eq_of_beq e.1,a,b,c.1,c.2⟩
  |_=>exact absurd h2 Bool.false_ne_true
theorem tR(ea:bq env T.sc)(t:fh X T){x:Str}{ie:IE}(p:Pos)(e:Ax T x=some ie):az X P m env T.ν (.Name x p) ie:=by
 revert X P m env T x ie p
 apply aN;intro
 generalize bM .. =X,bN .. =P,bQ .. =m,bR .. =env
 apply aJ;intro
 generalize nx .. =T
 intro ea t
 apply aP;intro
 generalize bP .. =x,bS .. =ie
 apply aJ;intro
 generalize nx .. =p
 intro e
 refine cC e fun k q e=>fM e (fun z e=> ?_) fun e=>fM e (fun _ e=>no e) fun e=>cH e fun i h1=>snd_var p ea.toEnvOk h1 (t.pV x i h1).1 (t.pV x i h1).2
 cases hv:T.glob.lookup x with
 |none=>rw[hv] at e;exact no e
 |some g=>
  rw[hv] at e
  cases g with
  |const v=>
   obtain⟨h1,u,h2,h3⟩:=t.glob x _ hv
   exact eh e (zz p ea.toEnvOk ((lS ea x).trans (eq_of_beq z▸q)) h1 h2 h3)
  |_=>exact no e
def dN(es:List Expr):Prop:=∀e∈es,notStar e=true
theorem dN.each{es:List Expr}(h:dN es)(env:Env):∀p∈starEach es env,p.1=false:=by
 induction es with
 |nil=>intro p hp;cases hp
 |cons a r ih=>
  intro p hp
  rw[aD (h a (.head _))] at hp
  rcases List.mem_cons.mp hp with rfl|hp
  ·rfl
  ·exact ih (fun e he=>h e (.tail _ he)) p hp
theorem dN.any{es:List Expr}(h:dN es)(env:Env)(pos:Pos):(backTo pos (starEach es env)).any (·.1)=false:=by
 rw[List.any_eq_false]
 intro p hp
 unfold backTo at hp
 obtain⟨q,hq,rfl⟩:=List.mem_map.mp hp
 have:=h.each env q hq
 obtain⟨q1,q2⟩:=q
 dsimp only at this ⊢
 rw[this];decide
theorem dN.all{es:List Expr}(h:dN es)(env:Env)(pos:Pos):(backTo pos (starEach es env)).all (!·.1)=true:=by
 rw[List.all_eq_true]
 intro p hp
 unfold backTo at hp
 obtain⟨q,hq,rfl⟩:=List.mem_map.mp hp
 have:=h.each env q hq
 obtain⟨q1,q2⟩:=q
 dsimp only at this ⊢
 rw[this];decide
theorem dN.star{es:List Expr}(h:dN es)(env:Env):es=[]∨∃y rest,starEach es env=(false,y)::rest:=by
 cases es with
 |nil=>exact .inl rfl
 |cons a r=>exact .inr ⟨_,_,aD (h a (.head _)) _ _⟩
theorem bf_all:∀p∈Ay,∃v,bootBuiltins p.1=some v∧notRef v=true∧dI X p.2 v:=by
 have c:∀{x:Str} {b:BF} {l:List (Str×BF)} {v:Value},bootBuiltins x=some v→notRef v=true→dI X b v→(∀p∈l,∃v,bootBuiltins p.1=some v∧notRef v=true∧dI X p.2 v)→∀p∈(x,b)::l,∃v,bootBuiltins p.1=some v∧notRef v=true∧dI X p.2 v:=
  fun h1 h2 h3 h4 p hp=>(List.mem_cons.mp hp).elim (fun e=>e▸⟨_,h1,h2,h3⟩) (h4 p)
 exact c (by decide+kernel) rfl bf_abs (c (by decide+kernel) rfl bf_min (c (by decide+kernel) rfl bf_max (c (by decide+kernel) rfl bf_len (c (by decide+kernel) rfl bf_list (c (by decide+kernel) rfl zT (c (by decide+kernel) rfl bf_sum (c (by decide+kernel) rfl xt (c (by decide+kernel) rfl bf_int (c (by decide+kernel) rfl zU fun _ h=>absurd h List.not_mem_nil)))))))))
theorem AG{x:Str}{b:BF}(e:Ay.lookup x=some b):∃v,bootBuiltins x=some v∧notRef v=true∧dI X b v:=bf_all (x,b) (mem_of_lookup e)
theorem dT(kd:env.scope.names=T.sc){x:Str}{p:Pos}{i:Nat}(e:dg T (.Name x p)=some i):env.kindOf x=some .local∧T.ν.lookup x=some i:=by
 obtain⟨q,e⟩:=de e
 have q:T.sc.lookup x=some .local:=by simpa using q
 exact⟨by unfold Env.kindOf;rw[kd];exact q,e⟩
theorem km{T:TE}{e:Expr}{i:Nat}(h:dg T e=some i):∃x p,e=.Name x p:=by
 cases e with
 |Name x p=>exact⟨x,p,rfl⟩
 |_=>exact no h
theorem kU(kd:env.scope.names=T.sc){es:List Expr}:∀{is:List Nat},gW (dg T) es=some is→gm env T.ν es is:=by
 induction es with
 |nil=>
  intro _ e;rw[ij e];exact .nil
 |cons a r ih=>
  intro _ e
  obtain⟨b,br,h1,h2,rfl⟩:=fi e
  obtain⟨x,p,rfl⟩:=km h1
  obtain⟨k1,k2⟩:=dT kd h1
  exact .cons k1 k2 (ih h2)
theorem oY(kd:env.scope.names=T.sc){t:Expr}{is:List Nat}(e:oX T t=some is):Cb env T.ν t is:=by
 cases t with
 |Name x p=>
  obtain⟨i,h1,rfl⟩:=map_some e
  obtain⟨k1,k2⟩:=dT kd h1
  exact .name k1 k2
 |Tuple es k p=>
  obtain⟨q,e⟩:=de e
  exact .tup (kU kd e) (by rw[←rH e];exact of_decide_eq_true q)
 |_=>exact no e
theorem tgt_mem{t:Expr}{is:List Nat}(e:oX T t=some is):∀y∈jJ t,∀j,T.ν.lookup y=some j→j∈is:=by
 cases t with
 |Name x p=>
  intro y hy j hj
  obtain⟨i,h1,rfl⟩:=map_some e
  unfold jJ at hy
  rw[List.mem_singleton.mp hy] at hj
  have h1:=(de h1).2
  rw[hj] at h1;cases h1;exact .head _
 |Tuple es k p=>
  have main:∀(es:List Expr) (is:List Nat),gW (dg T) es=some is→∀y∈es.filterMap nameOf,∀j,T.ν.lookup y=some j→j∈is:=fun es=>by
   induction es with
   |nil=>intro is _ y hy;cases hy
   |cons a r ih=>
    intro is e y hy j hj
    obtain⟨b,br,h1,h2,rfl⟩:=fi e
    obtain⟨x,p,rfl⟩:=km h1
    rcases List.mem_cons.mp (show y∈x::r.filterMap nameOf from hy) with rfl|hy
    ·have h1:=(de h1).2
     rw[hj] at h1;cases h1;exact .head _
    ·exact .tail _ (ih br h2 y hy j hj)
  exact main es is (de e).2
 |_=>exact no e
end
inductive jK(X:Cx)(P:ec)(m:Nat)(env:Env)(ν:Nu)(elt target iter:Expr)(scope:Scope):IE→Prop
 |mk {ν' cg is ielt} (c1:∀x∈scope.names,x.2=.free→∃ca,env.cells.lookup x.1=some ca) (c2:scope.kind=.function) (c3:∀y∈scope.names,y.2≠.cell) (c4:∀x∈scope.names,x.2=.local→scope.names.lookup x.1=some .local) (c5:gG iter=true) (c6:∀cl C,Cb (compEnvC scope cl C env) ν' target cg) (c7:fQ ν') (c8:∀cl C,(∀y ca,(y,NameKind.free)∈scope.names→env.cells.lookup y=some ca→cl.lookup y=some ca)→Vis env (compEnvC scope cl C env) ν ν' cg) (c9:dJ X P m env ν iter is) (c10:∀cl C,(∀y ca,(y,NameKind.free)∈scope.names→env.cells.lookup y=some ca→cl.lookup y=some ca)→az X P m (compEnvC scope cl C env) ν' elt ielt) (c11:du target=true∨(cm target=true∧cW is=true)):jK X P m env ν elt target iter scope (.comp cg is ielt)
structure ik(X:Cx)(P:ec)(m n:Nat):Prop where
 e:∀T env,fh X T→bq env T.sc→∀e ie,tr T n e=some ie→az X P m env T.ν e ie
 es:∀T env,fh X T→bq env T.sc→∀es dO,AE T n es=some dO→gQ X P m env T.ν es dO∧dN es
 ps:∀T env,fh X T→bq env T.sc→∀ks es xs js dO,gW tL ks=some xs→gW T.nm xs=some js→AE T n es=some dO→ks.length=es.length→mE X P m env T.ν ks js es dO∧∀j∈js,j<X.tab.length
 b:∀T env,fh X T→bq env T.sc→∀op es ie,ki T n op es=some ie→qQ X P m env T.ν op es ie
 t:∀T env,fh X T→bq env T.sc→∀e ie,tr T n e=some ie→fA n e=true→iK X P m env T.ν e ie
 a:∀T env,fh X T→bq env T.sc→∀op es ie,ki T n op es=some ie→iF n es=true→qR X P m env T.ν op es ie
 sub:∀T env,fh X T→bq env T.sc→∀a i ie pos,AD T n a i=some ie→az X P m env T.ν (.Subscript a i pos) ie
 call:∀T env,fh X T→bq env T.sc→∀x args p pos ie,tM T n x args pos=some ie→az X P m env T.ν (.Call (.Name x p) args [] pos) ie
 meth:∀T env,fh X T→bq env T.sc→∀o x apos args pos ie,tN T n o x apos args pos=some ie→az X P m env T.ν (.Call (.Attribute o x apos) args [] pos) ie
 src:∀T env,fh X T→bq env T.sc→∀e is,vm T n e=some is→dJ X P m env T.ν e is
 comp:∀T env,fh X T→bq env T.sc→∀elt target iter scope ie,mX T n elt target iter scope=some ie→jK X P m env T.ν elt target iter scope ie
 parts:∀T env,fh X T→bq env T.sc→∀elt target iter scope ie,kj T n elt target iter scope=some ie→jK X P m env T.ν elt target iter scope ie
section
variable {X:Cx}{P:ec}{m n:Nat}{env:Env}{T:TE}
theorem ik.zero:ik X P m 0:=by
 constructor<;>intros<;>exact no ‹_›
theorem pX{i:Expr}(h:h9 i=true)(x y:Value):subscripted i false x y=operate [x,y] (getItem x y):=by
 cases i<;>first|rfl|cases h
theorem xU{a:Expr}{x:Str}{pos:Pos}(h:ck a=true):eval (.Attribute a x pos) env=(do
   let o ←eval a env
   standAt pos.atName
   let r ←holding [o] (getAttr o x true)
   letTemporaryGo a o r
   pure r):=by
 cases a<;>first|rfl|cases h
theorem kq{a:Expr}(h:cm a=true)(o r:Value):letTemporaryGo a o r=pure ():=by
 cases a<;>first|rfl|cases h
theorem fj{α:Type}{l:List α}(h:l.isEmpty=true):l=[]:=List.isEmpty_iff.mp h
theorem xV{ν:Nu}{elt target iter:Expr}{ifs:List Expr}{k:Int}{scope:Scope}{p:Pos}{ie:IE}(q:(ifs.isEmpty && k == 0)=true)(C:jK X P m env ν elt target iter scope ie):az X P m env ν (.ListComp elt [⟨target,iter,ifs,k⟩] scope p) ie:=by
 have q:=Bool.and_eq_true_iff.mp q
 rw[fj q.1,eq_of_beq q.2]
 exact C.rec fun {_ _ _ _}=>Ad
theorem AH(pk:n9 X P)(B:ik X P m n)(t:fh X T)(ea:bq env T.sc){e:Expr}{ie:IE}(h:tr T (n+1) e=some ie):az X P m env T.ν e ie:=by
 revert X P m n env T e ie
 apply aN;intro
 generalize bM .. =X,bN .. =P,bQ .. =m,bR .. =n
 apply aP;intro
 generalize bP .. =env,bS .. =T
 intro pk B t ea
 apply aP;intro
 generalize bP .. =e,bS .. =ie
 intro h
 have E:∀{e ie},tr T n e=some ie→az X P m env T.ν e ie:=fun h=>B.e T env t ea _ _ h
 cases e with
 |Constant c k p=>
  cases c with
  |none=>exact eh h (zx k p)
  |bool b=>exact eh h (zy b k p)
  |int i=>exact eh h (snd_int i k p)
  |str x=>exact eh h (snd_str x k p)
  |_=>exact no h
 |Name x p=>exact tR ea t p h
 |BinOp a op b p=>exact iS h fun _ _ h1 h2=>snd_bin op p (E h1) (E h2)
 |UnaryOp op a p=>
  cases op with
  |USub=>exact cH h fun _ h1=>snd_neg p (E h1)
  |Not=>exact cH h fun _ h1=>snd_not p (E h1)
  |_=>exact no h
 |BoolOp op es p=>exact sW p (B.b T env t ea _ _ _ h)
 |IfExp c a b p=>exact cV h fun hc h=>oW h fun _ _ _ h1 h2 h3=>snd_ite p (B.t T env t ea _ _ h1 hc) (E h2) (E h3)
 |Compare a ops bs p=>exact AA (Q:=fun ops bs ie=>az X P m env T.ν (.Compare a ops bs p) ie) h (fun op _ _ _ q h1 h2=>snd_cmp op p (Bool.not_eq_true' _▸q) (E h1) (E h2)) fun op lN _ _ _ _ _ q h1 h2 h3=>xa op lN p (Bool.not_eq_true' _▸q) (E h1) (E h2) (E h3)
 |Attribute a x p=>exact cV h fun hc h=>iS h fun _ _ h1 h2=>zK p pk (t.nm h2).2 (t.nm h2).1 (E h1) (xU hc)
 |Subscript a i p=>exact B.sub T env t ea _ _ _ p h
 |List es p=>exact cH h fun _ h1=>zN p (B.es T env t ea _ _ h1).1
 |Tuple es k p=>exact cH h fun _ h1=>xf k p (B.es T env t ea _ _ h1).1
 |Dict ks es p=>
  rcases ks with _|⟨k,ks⟩
  ·rcases es with _|_
   ·exact eh h (xh p)
   ·exact no h
  ·exact cV h fun q h=>iS h fun js dO h2 h3=>cC h2 fun xs h1 h2=>
    have k:=B.ps T env t ea _ _ _ _ _ h1 h2 h3 (of_decide_eq_true q).2
    xk p (List.cons_ne_nil _ _) (of_decide_eq_true q).1 k.1 k.2
 |Call f args yP p=>
  rcases yP with _|_
  ·cases f with
   |Name x p'=>exact B.call T env t ea _ _ p' _ _ h
   |Attribute o x p'=>exact B.meth T env t ea _ _ _ _ _ _ h
   |_=>exact no h
  ·exact no h
 |ListComp elt gens scope p=>
  rcases gens with _|⟨⟨target,iter,ifs,k⟩,_|_⟩
  ·exact no h
  ·exact cV h fun q h=>xV q (B.comp T env t ea _ _ _ _ _ h)
  ·exact no h
 |_=>exact no h
end
end
section
open PyProof.Rows PySem.Calls PySem.W
set_option backward.match.sparseCases false
section
variable {X:Cx}{P:ec}{m n:Nat}{env:Env}{T:TE}
theorem es_step(B:ik X P m n)(t:fh X T)(ea:bq env T.sc){es:List Expr}{dO:jU}(h:AE T (n+1) es=some dO):gQ X P m env T.ν es dO∧dN es:=by
 cases es with
 |nil=>cases (Option.some.inj h);exact⟨zM,fun _ h=>nomatch h⟩
 |cons e r=>
  obtain⟨hs,h⟩:=de h
  obtain⟨ie,ir,h1,h2,rfl⟩:=fL h
  obtain⟨k1,k2⟩:=B.es T env t ea _ _ h2
  exact⟨xd (aD hs _ _) (B.e T env t ea _ _ h1) k1,fun x hx=>by
   rcases List.mem_cons.mp hx with rfl|hx
   ·exact hs
   ·exact k2 x hx⟩
theorem AI{P:Expr→Prop}{e:Expr}{c:Const}(h:cOf e=some c)(H:∀k p,P (.Constant c k p)):P e:=by
 cases e with
 |Constant k c p=>exact eh h (P:=fun d=>(∀k p,P (.Constant d k p))→_) (fun H=>H _ _) H
 |_=>exact no h
theorem jL{P:Expr→Prop}{e:Expr}{x:Str}(h:strOf e=some x)(H:∀k p,P (.Constant (.str x) k p)):P e:=cC h fun c h1 h2=>AI h1 (by
 cases c with
 |str y=>exact Option.some.inj h2▸H
 |_=>exact no h2)
theorem mY{P:Option Expr→Prop}{e:Option Expr}{x:Int}(h:intOf e=some x)(H:∀k p,P (some (.Constant (.int x) k p))):P e:=cC h fun c h1 h2=>cC h1 fun d h3 h4=>h3▸AI (P:=fun e=>P (some e)) h4 (by
 cases c with
 |int y=>exact Option.some.inj h2▸H
 |_=>exact no h2)
theorem AJ{P:Option Expr→Prop}{k:Option Expr}{i:Int}(h:Az k=some i)(H:∀c p q,P (some (.UnaryOp .USub (.Constant (.int i) c p) q))):P k:=by
 cases k with
 |none=>exact no h
 |some e=>
  cases e with
  |UnaryOp op e p=>
   cases op with
   |USub=>exact mY (P:=fun k=>∀e,k=some e→P (some (.UnaryOp .USub e p))) (e:=some e) h (fun c q _ z=>Option.some.inj z▸H _ _ _) e rfl
   |_=>exact no h
  |_=>exact no h
theorem ku{P:Expr→Prop}{e:Expr}{x:Str}(h:nameOf e=some x)(H:∀p,P (.Name x p)):P e:=by
 cases e with
 |Name y p=>exact eh h (P:=fun d=>(∀p,P (.Name d p))→_) (fun H=>H _) H
 |_=>exact no h
theorem ps_step(B:ik X P m n)(t:fh X T)(ea:bq env T.sc){ks:List (Option Expr)}{es:List Expr}{xs:List Str}{js:List Nat}{dO:jU}(h1:gW tL ks=some xs)(h2:gW T.nm xs=some js)(h:AE T (n+1) es=some dO)(hl:ks.length=es.length):
  mE X P m env T.ν ks js es dO∧∀j∈js,j<X.tab.length:=by
 cases es with
 |nil=>
  cases ks with
  |cons _ _=>cases hl
  |nil=>
   cases (Option.some.inj h)
   rw[ij h1] at h2
   rw[ij h2]
   exact⟨zO,fun _ h=>nomatch h⟩
 |cons e r=>
  cases ks with
  |nil=>cases hl
  |cons k ks=>
   obtain⟨_,h⟩:=de h
   obtain⟨ie,ir,g1,g2,rfl⟩:=fL h
   obtain⟨x,xr,a1,a2,rfl⟩:=fi h1
   obtain⟨j,jr,b1,b2,rfl⟩:=fi h2
   obtain⟨e',rfl,a1⟩:=bind_some a1
   refine jL (P:=fun k=>mE X P m env T.ν (some k::ks) (j::jr) (e::r) (.cons ie ir)∧∀i∈j::jr,i<X.tab.length) a1 fun c p=> ?_
   obtain⟨c1,c2⟩:=t.nm b1
   obtain⟨d1,d2⟩:=B.ps T env t ea _ _ _ _ _ a2 b2 g2 (Nat.succ.inj hl)
   exact⟨xj c2 c1 (B.e T env t ea _ _ g1) d1,fun i hi=>by
    rcases List.mem_cons.mp hi with rfl|hi
    ·exact c2
    ·exact d2 i hi⟩
theorem b_step(B:ik X P m n)(t:fh X T)(ea:bq env T.sc){op:BoolOp}{es:List Expr}{ie:IE}(h:ki T (n+1) op es=some ie):qQ X P m env T.ν op es ie:=by
 rcases es with _|⟨e,_|⟨e2,r⟩⟩
 ·exact no h
 ·exact zA (B.e T env t ea _ _ h)
 ·obtain⟨ia,ir,h1,h2,rfl⟩:=fL h
  cases op with
  |And=>exact zC (B.e T env t ea _ _ h1) (B.b T env t ea _ _ _ h2)
  |Or=>exact sndB_or (B.e T env t ea _ _ h1) (B.b T env t ea _ _ _ h2)
theorem a_step(B:ik X P m n)(t:fh X T)(ea:bq env T.sc){op:BoolOp}{es:List Expr}{ie:IE}(h:ki T (n+1) op es=some ie)(ht:iF (n+1) es=true):qR X P m env T.ν op es ie:=by
 rcases es with _|⟨e,_|⟨e2,r⟩⟩
 ·exact no h
 ·exact zD (B.t T env t ea _ _ h ((Bool.and_eq_true _ _).mp ht).1)
 ·have ht:=(Bool.and_eq_true _ _).mp ht
  obtain⟨ia,ir,h1,h2,rfl⟩:=fL h
  cases op with
  |And=>exact zE (B.t T env t ea _ _ h1 ht.1) (B.a T env t ea _ _ _ h2 ht.2)
  |Or=>exact sndA_or (B.t T env t ea _ _ h1 ht.1) (B.a T env t ea _ _ _ h2 ht.2)
theorem t_step(B:ik X P m n)(t:fh X T)(ea:bq env T.sc){e:Expr}{ie:IE}(h:tr T (n+1) e=some ie)(hE:az X P m env T.ν e ie)(ht:fA (n+1) e=true):iK X P m env T.ν e ie:=by
 revert X P m n env T e ie
 apply aN;intro
 generalize bM .. =X,bN .. =P,bQ .. =m,bR .. =n
 apply aP;intro
 generalize bP .. =env,bS .. =T
 intro B t ea
 apply aP;intro
 generalize bP .. =e,bS .. =ie
 intro h hE ht
 have E:∀{e ie},tr T n e=some ie→az X P m env T.ν e ie:=fun h=>B.e T env t ea _ _ h
 cases e with
 |BoolOp op es p=>exact qS p (B.a T env t ea _ _ _ h ht)
 |UnaryOp op a p=>
  cases op with
  |Not=>exact cH h fun _ h1=>zF p (B.t T env t ea _ _ h1 ht)
  |_=>exact nomatch (ht:false=true)
 |Compare a ops bs p=>exact AA (Q:=fun ops bs ie=>iK X P m env T.ν (.Compare a ops bs p) ie) h (fun op _ _ _ q h1 h2=>zI op p (Bool.not_eq_true' _▸q) (E h1) (E h2)) fun op lN _ _ _ _ _ q h1 h2 h3=>sX op lN p (Bool.not_eq_true' _▸q) (E h1) (E h2) (E h3)
 |Name x p=>exact jv hE fun _=>rfl
 |Call f args yP p=>exact jv hE fun _=>rfl
 |Attribute a x p=>exact jv hE fun _=>rfl
 |Subscript a i p=>exact jv hE fun _=>rfl
 |Constant c k p=>exact jv hE fun _=>rfl
 |_=>exact nomatch (ht:false=true)
theorem xW(t:fh X T){a i:Expr}{ia ie:IE}{pos:Pos}{oi:Option IE}(ha:az X P m env T.ν a ia)(hi:∀ii,oi=some ii→az X P m env T.ν i ii)(hn:h9 i=true)
  (h:(match strOf i with|some x=>(T.nm x).map (IE.eV ia)|none=>oi.map (IE.item ia))=some ie):az X P m env T.ν (.Subscript a i pos) ie:=by
 cases z:strOf i with
 |some x=>
  rw[z] at h
  exact cH h fun k h2=>jL (P:=fun i=>az X P m env T.ν (.Subscript a i pos) (.eV ia k)) z fun c p=>xc pos _ (t.nm h2).1 ha
 |none=>
  rw[z] at h
  exact cH h fun _ h2=>zL pos (pX hn) ha (hi _ h2)
theorem AK{α β γ:Type}[BEq γ][LawfulBEq γ]{a:Option α}{b:Option β}{c d:γ}(h:(a.isNone && b.isNone && c == d)=true):a=none∧b=none∧c=d:=
 have h1:=Bool.and_eq_true_iff.mp h
 have h2:=Bool.and_eq_true_iff.mp h1.1
 ⟨Option.isNone_iff_eq_none.mp h2.1,Option.isNone_iff_eq_none.mp h2.2,eq_of_beq h1.2⟩
theorem xX(pk:n9 X P){a:Expr}{l u s:Option Expr}{ia ie:IE}{p pos:Pos}(q:cm a=true)(ha:az X P m env T.ν a ia)(h:trSl l u s ia=some ie):az X P m env T.ν (.Subscript a (.Slice l u s p) pos) ie:=by
 refine fM h (fun z h1=> ?_) fun h=>fM h (fun z h1=> ?_) fun h=>fM h (fun z h1=> ?_) fun h=>no h
 ·have z:=AK z
  rw[z.1,z.2.1]
  exact eh h1 (mY (P:=fun u=>az X P m env T.ν (.Subscript a (.Slice none u none p) pos) (.l7 ia)) z.2.2 fun c p'=>tc _ _ pos pk (kq q) ha)
 ·have z:=AK z
  rw[z.1,z.2.1]
  exact eh h1 (mY (P:=fun l=>az X P m env T.ν (.Subscript a (.Slice l none none p) pos) (.qM ia)) z.2.2 fun c p'=>xg _ _ pos (kq q) ha)
 ·have z:=AK z
  rw[z.1,z.2.1]
  exact eh h1 (AJ (P:=fun s=>az X P m env T.ν (.Subscript a (.Slice none none s p) pos) (.rev ia)) z.2.2 fun c p' p2=>snd_rev _ _ _ pos (kq q) ha)
theorem AL(pk:n9 X P)(B:ik X P m n)(t:fh X T)(ea:bq env T.sc){a i:Expr}{ie:IE}(pos:Pos)(h:AD T (n+1) a i=some ie):az X P m env T.ν (.Subscript a i pos) ie:=by
 revert X P m n env T a i ie pos
 apply aN;intro
 generalize bM .. =X,bN .. =P,bQ .. =m,bR .. =n
 apply aP;intro
 generalize bP .. =env,bS .. =T
 intro pk B t ea
 apply aN;intro
 generalize bM .. =a,bN .. =i,bQ .. =ie,bR .. =pos
 intro h
 obtain⟨ia,h1,h⟩:=bind_some h
 have ha:=B.e T env t ea _ _ h1
 cases i with
 |Slice l u s p=>obtain⟨q,h⟩:=de h;exact xX pk q ha h
 |_=>exact xW t ha (fun _ h2=>B.e T env t ea _ _ h2) rfl h
theorem lT{es:List Expr}{s:Str}{ss:List Str}{Q:List Expr→Prop}(h:AB T es (s::ss)=true)(H:∀y p r,T.b y s=true→AB T r ss=true→Q (.Name y p::r)):Q es:=by
 cases es with
 |nil=>exact absurd h Bool.false_ne_true
 |cons e r=>
  have h:=Bool.and_eq_true_iff.mp h
  have h1:=h.1
  cases q:nameOf e with
  |none=>rw[q] at h1;exact absurd h1 Bool.false_ne_true
  |some y=>rw[q] at h1;exact ku (P:=fun e=>Q (e::r)) q fun p=>H y p r h1 h.2
theorem AM{es:List Expr}{Q:List Expr→Prop}(h:AB T es []=true)(H:Q []):Q es:=by
 cases es with
 |nil=>exact H
 |cons _ _=>exact absurd h Bool.false_ne_true
theorem bty(ea:bq env T.sc)(t:fh X T){x s:Str}{Ts:String}(e:T.b x s=true)(hs:bootBuiltins s=some (.type Ts)):BTy X env x Ts:=
 have h:=b_some ea t e
 ⟨h.2.1,h.2.2.1,h.2.2.2.1,h.1▸hs,h.2.2.2.2⟩
def BIs(X:Cx)(env:Env)(x:Str):Prop:=env.kindOf x=some .globalImplicit∧(x == ("__debug__":Str))=false∧nsIn X.K mainGlobals x=some none∧bootBuiltins x=some (.builtin "isinstance")∧x≠"__name__"
theorem AN(t:fh X T)(ea:bq env T.sc){x y:Str}{a:Expr}{p p2 pos:Pos}{ie:IE}{o:Option IE}(bx:BIs X env x)(sa:notStar a=true)(ha:∀ia,o=some ia→az X P m env T.ν a ia)
  (h:(bif T.b y "int" then o.map .isInt else bif T.b y "bool" then o.map .isBool else none)=some ie):az X P m env T.ν (.Call (.Name x p) [a,.Name y p2] [] pos) ie:=by
 have iL:starEach [a,.Name y p2] env=[(false,eval a env),(false,eval (.Name y p2) env)]:=by rw[aD sa];rfl
 rcases eH h with⟨hy,h1⟩|⟨_,h1⟩
 ·obtain⟨ia,h2,rfl⟩:=map_some h1
  have z:=bty ea t hy (Ts:="int") (by decide+kernel)
  exact xu p p2 pos ea.toEnvOk bx.1 bx.2.1 bx.2.2.1 bx.2.2.2.1 bx.2.2.2.2 z.1 z.2.1 z.2.2.1 z.2.2.2.1 z.2.2.2.2 iL (ha _ h2)
 rcases eH h1 with⟨hy,h1⟩|⟨_,h1⟩
 ·obtain⟨ia,h2,rfl⟩:=map_some h1
  have z:=bty ea t hy (Ts:="bool") (by decide+kernel)
  exact td p p2 pos ea.toEnvOk bx.1 bx.2.1 bx.2.2.1 bx.2.2.2.1 bx.2.2.2.2 z.1 z.2.1 z.2.2.1 z.2.2.2.1 z.2.2.2.2 iL (ha _ h2)
 ·exact no h1
theorem isi_row(t:fh X T)(ea:bq env T.sc){x:Str}{a:Expr}{es:List Expr}{k:Nat}{p p5 pos:Pos}{ia:IE}(bx:BIs X env x)(sa:notStar a=true)(ha:az X P m env T.ν a ia)
  (q:rowNames T es=true):az X P m env T.ν (.Call (.Name x p) [a,.Tuple es k p5] [] pos) (.gY ia):=by
 refine lT (Q:=fun es=>az X P m env T.ν (.Call (.Name x p) [a,.Tuple (es) k p5] [] pos) (.gY ia)) q fun y1 p1 _ q1 h=> ?_
 refine lT (Q:=fun es=>az X P m env T.ν (.Call (.Name x p) [a,.Tuple (.Name y1 p1::es) k p5] [] pos) (.gY ia)) h fun y2 p2 _ q2 h=> ?_
 refine lT (Q:=fun es=>az X P m env T.ν (.Call (.Name x p) [a,.Tuple (.Name y1 p1:: .Name y2 p2::es) k p5] [] pos) (.gY ia)) h fun y3 p3 _ q3 h=> ?_
 refine lT (Q:=fun es=>az X P m env T.ν (.Call (.Name x p) [a,.Tuple (.Name y1 p1:: .Name y2 p2:: .Name y3 p3::es) k p5] [] pos) (.gY ia)) h fun y4 p4 _ q4 h=> ?_
 refine AM (Q:=fun es=>az X P m env T.ν (.Call (.Name x p) [a,.Tuple (.Name y1 p1:: .Name y2 p2:: .Name y3 p3:: .Name y4 p4::es) k p5] [] pos) (.gY ia)) h ?_
 exact xv p p1 p2 p3 p4 p5 pos ea.toEnvOk bx.1 bx.2.1 bx.2.2.1 bx.2.2.2.1 bx.2.2.2.2 (bty ea t q1 (by decide+kernel)) (bty ea t q2 (by decide+kernel)) (bty ea t q3 (by decide+kernel)) (bty ea t q4 (by decide+kernel)) (by rw[aD sa];rfl) ha
theorem xY(B:ik X P m n)(t:fh X T)(ea:bq env T.sc){x:Str}{args:List Expr}{p pos:Pos}{ie:IE}(bx:BIs X env x)(h:trIsi T (tr T n) args=some ie):az X P m env T.ν (.Call (.Name x p) args [] pos) ie:=by
 rcases args with _|⟨a,_|⟨t',_|_⟩⟩
 ·exact no h
 ·exact no h
 ·obtain⟨sa,h1⟩:=de h
  cases t' with
  |Name y p2=>exact AN t ea bx sa (fun _ h2=>B.e T env t ea _ _ h2) h1
  |Tuple es tk p5=>
   exact cV h1 fun q h1=>cH h1 fun _ h2=>isi_row t ea bx sa (B.e T env t ea _ _ h2) q
  |_=>exact no h1
 ·exact no h
theorem xZ(pk:n9 X P)(co:dS X P m)(B:ik X P m n)(t:fh X T)(ea:bq env T.sc){x:Str}{args:List Expr}{p pos:Pos}{ie:IE}(h:tM T (n+1) x args pos=some ie):az X P m env T.ν (.Call (.Name x p) args [] pos) ie:=by
 revert X P m n env T x args p pos ie
 apply aN;intro
 generalize bM .. =X,bN .. =P,bQ .. =m,bR .. =n
 apply aP;intro
 generalize bP .. =env,bS .. =T
 intro pk co B t ea
 apply aN;intro
 generalize bM .. =x,bN .. =args,bQ .. =p,bR .. =pos
 apply aJ;intro
 generalize nx .. =ie
 intro h
 have h:trCg T (T.g x) x args (AE T n args) (tr T n)=some ie:=h
 cases hg:T.g x with
 |none=>rw[hg] at h;exact no h
 |some g=>
 rw[hg] at h
 obtain⟨k1,k2,k3⟩:=pW ea t hg
 cases g with
 |fn f=>
  obtain⟨dO,h1,rfl⟩:=map_some h
  obtain⟨s1,s2⟩:=B.es T env t ea _ _ h1
  exact xl p pos co ea.toEnvOk k1 k2 k3.1 k3.2 (s2.any env pos) (s2.star env) s1
 |cls c=>
  obtain⟨dO,h1,rfl⟩:=map_some h
  obtain⟨s1,s2⟩:=B.es T env t ea _ _ h1
  exact xn p pos pk co ea.toEnvOk k1 k2 k3.1 k3.2 (s2.any env pos) (s2.star env) s1
 |bi=>
  rcases eH h with⟨q,g⟩|⟨_,h⟩
  ·have q:x=("isinstance":Str):=by simpa using q
   subst q
   have hv:bootBuiltins ("isinstance":Str)=some (.builtin "isinstance"):=by decide+kernel
   exact xY B t ea ⟨k1,k2,k3.1,hv,k3.2⟩ g
  ·obtain⟨b,hb,h⟩:=bind_some h
   obtain⟨dO,h1,rfl⟩:=map_some h
   obtain⟨s1,s2⟩:=B.es T env t ea _ _ h1
   obtain⟨v,hv,hr,lf⟩:=AG (X:=X) hb
   exact xo p pos lf ea.toEnvOk k1 k2 k3.1 hv k3.2 hr (s2.any env pos) (s2.star env) s1
 |_=>exact no h
theorem pY{f:Expr→Option IE}{k:IE→IE}{args:List Expr}{ie:IE}(h:m1 f k args=some ie):∃a ia,args=[a]∧notStar a=true∧f a=some ia∧k ia=ie:=by
 rcases args with _|⟨a,_|_⟩
 ·exact no h
 ·obtain⟨sa,h⟩:=de h
  obtain⟨ia,h1,h2⟩:=map_some h
  exact⟨a,ia,rfl,sa,h1,h2⟩
 ·exact no h
theorem vn{f:Expr→Option IE}{k:IE→IE→IE}{args:List Expr}{ie:IE}(h:m2 f k args=some ie):∃a b ia ib,args=[a,b]∧notStar a=true∧notStar b=true∧f a=some ia∧f b=some ib∧k ia ib=ie:=by
 rcases args with _|⟨a,_|⟨b,_|_⟩⟩
 ·exact no h
 ·exact no h
 ·obtain⟨s,h⟩:=de h
  rw[Bool.and_eq_true] at s
  obtain⟨ia,ib,h1,h2,h3⟩:=fL h
  exact⟨a,b,ia,ib,rfl,s.1,s.2,h1,h2,h3⟩
 ·exact no h
theorem ya{f:Expr→Option IE}{o:Expr}{io:IE}{x:Str}{args:List Expr}{apos pos:Pos}{ie:IE}(hb:ck o=true)(hl:(apos.endLine == pos.line)=true)(ho:az X P m env T.ν o io)(E:∀e ie,f e=some ie→az X P m env T.ν e ie)(q:(x == ("append":Str))=true)
  (g:m1 f (.append io) args=some ie):az X P m env T.ν (.Call (.Attribute o x apos) args [] pos) ie:=by
 rw[eq_of_beq q]
 obtain⟨a,ia,rfl,sa,h2,rfl⟩:=pY g
 exact te apos pos hb hl sa ho (E _ _ h2)
theorem yb{f:Expr→Option IE}{o:Expr}{io:IE}{x:Str}{args:List Expr}{apos pos:Pos}{ie:IE}(hb:ck o=true)(hl:(apos.endLine == pos.line)=true)(ho:az X P m env T.ν o io)(E:∀e ie,f e=some ie→az X P m env T.ν e ie)(q:(x == ("extend":Str))=true)
  (g:m1 f (.extend io) args=some ie):az X P m env T.ν (.Call (.Attribute o x apos) args [] pos) ie:=by
 rw[eq_of_beq q]
 obtain⟨a,ia,rfl,sa,h2,rfl⟩:=pY g
 exact tf apos pos hb hl sa ho (E _ _ h2)
theorem yc{f:Expr→Option IE}{o:Expr}{io:IE}{x:Str}{args:List Expr}{apos pos:Pos}{ie:IE}(hb:ck o=true)(hl:(apos.endLine == pos.line)=true)(ho:az X P m env T.ν o io)(E:∀e ie,f e=some ie→az X P m env T.ν e ie)(q:(x == ("insert":Str))=true)
  (g:m2 f (.insert io) args=some ie):az X P m env T.ν (.Call (.Attribute o x apos) args [] pos) ie:=by
 rw[eq_of_beq q]
 obtain⟨a,b,ia,ib,rfl,sa,sb,h2,h3,rfl⟩:=vn g
 exact th apos pos hb hl sa sb ho (E _ _ h2) (E _ _ h3)
theorem vo{f:Expr→Option IE}{o:Expr}{io:IE}{args:List Expr}{apos pos:Pos}{ie:IE}(hb:ck o=true)(hl:(apos.endLine == pos.line)=true)(ho:az X P m env T.ν o io)(E:∀e ie,f e=some ie→az X P m env T.ν e ie)
  (g:m2 f (.zm io) args=some ie):az X P m env T.ν (.Call (.Attribute o "get" apos) args [] pos) ie:=by
 obtain⟨a,b,ia,ib,rfl,sa,sb,h2,h3,rfl⟩:=vn g
 exact zY apos pos hb hl sa sb ho (E _ _ h2) (E _ _ h3)
theorem me_get{f:Expr→Option IE}{o:Expr}{io:IE}{x:Str}{args:List Expr}{apos pos:Pos}{ie:IE}(hb:ck o=true)(hl:(apos.endLine == pos.line)=true)(ho:az X P m env T.ν o io)(E:∀e ie,f e=some ie→az X P m env T.ν e ie)(q:(x == ("get":Str))=true)
  (g:mget f io args=some ie):az X P m env T.ν (.Call (.Attribute o x apos) args [] pos) ie:=by
 rw[eq_of_beq q]
 rcases args with _|⟨a,_|⟨b,r⟩⟩
 ·exact vo hb hl ho E g
 ·obtain⟨a,ia,e,sa,h2,rfl⟩:=pY (f:=f) (k:=.zl io) (args:=[a]) g
  cases e
  exact zX apos pos hb hl sa ho (E _ _ h2)
 ·exact vo hb hl ho E g
theorem yd(pk:n9 X P)(co:dS X P m)(B:ik X P m n)(t:fh X T)(ea:bq env T.sc){o:Expr}{x:Str}{args:List Expr}{apos pos:Pos}{ie:IE}(h:tN T (n+1) o x apos args pos=some ie):az X P m env T.ν (.Call (.Attribute o x apos) args [] pos) ie:=by
 revert X P m n env T o x args apos pos ie
 apply aN;intro
 generalize bM .. =X,bN .. =P,bQ .. =m,bR .. =n
 apply aP;intro
 generalize bP .. =env,bS .. =T
 intro pk co B t ea
 apply aN;intro
 generalize bM .. =o,bN .. =x,bQ .. =args,bR .. =apos
 apply aP;intro
 generalize bP .. =pos,bS .. =ie
 intro h
 obtain⟨q,h⟩:=de h
 simp only[Bool.and_eq_true,decide_eq_true_eq] at q
 obtain⟨⟨hb,hl⟩,hn⟩:=q
 obtain⟨io,h1,h⟩:=bind_some h
 have E:∀{e ie},tr T n e=some ie→az X P m env T.ν e ie:=fun h=>B.e T env t ea _ _ h
 have ho:=E h1
 rcases eH h with⟨q,g⟩|⟨_,h⟩
 ·exact ya hb hl ho (fun _ _=>E) q g
 rcases eH h with⟨q,g⟩|⟨_,h⟩
 ·exact yb hb hl ho (fun _ _=>E) q g
 rcases eH h with⟨q,g⟩|⟨_,h⟩
 ·exact yc hb hl ho (fun _ _=>E) q g
 rcases eH h with⟨q,g⟩|⟨_,h⟩
 ·exact me_get hb hl ho (fun _ _=>E) q g
 ·obtain⟨k,dO,h2,h3,rfl⟩:=fL h
  obtain⟨s1,s2⟩:=B.es T env t ea _ _ h3
  exact xw apos pos pk co (t.nm h2).1 hb hl hn (s2.all env pos) (s2.any env pos) (s2.star env) ho s1
theorem src_range{ν:Nu}{x:Str}{a:Expr}{ia:IE}{p pos:Pos}(z:BTy X env x "range")(ev:EnvOk env)(sa:notStar a=true)(ha:az X P m env ν a ia):dJ X P m env ν (.Call (.Name x p) [a] [] pos) (.range ia):=
 tq _ _ ev z.1 z.2.1 z.2.2.1 z.2.2.2.1 z.2.2.2.2 sa ha
theorem AO{ν:Nu}{x:Str}{a:Expr}{ia:IE}{p pos:Pos}(z:BTy X env x "enumerate")(ev:EnvOk env)(sa:notStar a=true)(ha:az X P m env ν a ia):dJ X P m env ν (.Call (.Name x p) [a] [] pos) (.enum ia):=
 xB _ _ ev z.1 z.2.1 z.2.2.1 z.2.2.2.1 z.2.2.2.2 sa ha
theorem src_zip{ν:Nu}{x:Str}{a b:Expr}{ia ib:IE}{p pos:Pos}(z:BTy X env x "zip")(ev:EnvOk env)(sab:(notStar a && notStar b)=true)(ha:az X P m env ν a ia)(hb:az X P m env ν b ib):dJ X P m env ν (.Call (.Name x p) [a,b] [] pos) (.zip ia ib):=
 have s:=Bool.and_eq_true_iff.mp sab
 Ac _ _ ev z.1 z.2.1 z.2.2.1 z.2.2.2.1 z.2.2.2.2 s.1 s.2 ha hb
theorem AP(B:ik X P m n)(t:fh X T)(ea:bq env T.sc){e:Expr}{is:gZ}(h:vm T (n+1) e=some is):dJ X P m env T.ν e is:=by
 revert X P m n env T e is
 apply aN;intro
 generalize bM .. =X,bN .. =P,bQ .. =m,bR .. =n
 apply aP;intro
 generalize bP .. =env,bS .. =T
 intro B t ea
 apply aP;intro
 generalize bP .. =e,bS .. =is
 intro h
 have E:∀{e ie},tr T n e=some ie→az X P m env T.ν e ie:=fun h=>B.e T env t ea _ _ h
 have plain:∀{e is},(tr T n e).map gZ.items=some is→dJ X P m env T.ν e is:=fun h=>cH h fun _ h1=>tn (E h1)
 cases e with
 |Call g args yP pos=>
  cases g with
  |Name x p=>
   rcases yP with _|_
   ·rcases args with _|⟨a,_|⟨b,_|_⟩⟩
    ·exact plain h
    ·exact fM h (fun hx h=>cV h fun sa h=>cH h fun _ h1=>src_range (bty ea t hx (by decide+kernel)) ea.toEnvOk sa (E h1)) fun h=>
      fM h (fun hx h=>cV h fun sa h=>cH h fun _ h1=>AO (bty ea t hx (by decide+kernel)) ea.toEnvOk sa (E h1)) plain
    ·exact fM h (fun hx h=>cV h fun sa h=>iS h fun _ _ h1 h2=>src_zip (bty ea t hx (by decide+kernel)) ea.toEnvOk sa (E h1) (E h2)) plain
    ·exact plain h
   ·exact plain h
  |_=>exact plain h
 |_=>exact plain h
end
section
variable {X:Cx}{P:ec}{m n:Nat}{env:Env}{T:TE}
theorem fS(scope:Scope)(env:Env)(sc:List (Str×NameKind))(hk:env.scope.kind=.function)(hs:env.scope.names=sc):(relabel scope env).names=fz scope.names sc:=by
 unfold relabel fz
 dsimp only
 congr 1
 funext p
 obtain⟨x,k⟩:=p
 dsimp only
 have e1:(env.scope.kind == ScopeKind.function)=true:=by rw[hk];rfl
 have e2:env.kindOf x=sc.lookup x:=by unfold Env.kindOf;rw[hs]
 rw[e1,e2,Bool.and_true]
theorem dU{α:Type}(p:Str→Bool):∀(l:List (Str×α)) (x:Str),p x=true→(l.filter fun q=>p q.1).lookup x=l.lookup x
 |[],_,_=>rfl
 |(y,v)::r,x,h=>by
  rw[List.filter_cons]
  by_cases q:(x == y)=true
  ·have e:x=y:=by simpa using q
   subst e
   rw[if_pos h,List.lookup_cons,List.lookup_cons,q]
  ·rw[Bool.not_eq_true] at q
   split
   ·rw[List.lookup_cons,List.lookup_cons,q];exact dU p r x h
   ·rw[List.lookup_cons,q];exact dU p r x h
theorem dW{α:Type}(p:Str→Bool):∀(l:List (Str×α)) (x:Str) (v:α),(l.filter fun q=>p q.1).lookup x=some v→p x=true
 |[],_,_,h=>by simp at h
 |(y,w)::r,x,v,h=>by
  rw[List.filter_cons] at h
  split at h
  ·rename_i hp
   rw[List.lookup_cons] at h
   by_cases q:(x == y)=true
   ·have e:x=y:=by simpa using q
    rw[e];exact hp
   ·rw[Bool.not_eq_true] at q
    rw[q] at h
    exact dW p r x v h
  ·exact dW p r x v h
theorem AQ{α:Type}{l:List (Str×α)}{x:Str}{v:α}(h:l.lookup x=some v):(x,v)∈l:=mem_of_lookup h
theorem kW{f:Str→Option Nat}{xs:List Str}:∀{tg:List (Str×Nat)} {y:Str} {j:Nat},gW (fun x=>(f x).map fun i=>(x,i)) xs=some tg→tg.lookup y=some j→f y=some j∧y∈xs:=by
 induction xs with
 |nil=>
  intro _ _ _ e h;rw[ij e] at h;simp at h
 |cons x r ih=>
  intro _ y j e h
  obtain⟨b,br,h1,h2,rfl⟩:=fi e
  obtain⟨i,h3,rfl⟩:=Option.map_eq_some_iff.mp h1
  rw[List.lookup_cons] at h
  by_cases q:(y == x)=true
  ·have e:y=x:=by simpa using q
   subst e
   rw[q] at h
   cases h
   exact⟨h3,.head _⟩
  ·rw[Bool.not_eq_true] at q
   rw[q] at h
   obtain⟨k1,k2⟩:=ih h2 h
   exact⟨k1,.tail _ k2⟩
theorem lD{names sc:List (Str×NameKind)}{y:Str}(h:names.lookup y=some .free)(hs:sc.lookup y=some .cell):(fz names sc).lookup y=some .cell:=by
 unfold fz
 induction names with
 |nil=>simp at h
 |cons p r ih=>
  obtain⟨x,k⟩:=p
  rw[List.lookup_cons] at h
  rw[List.map_cons]
  dsimp only
  by_cases q:(y == x)=true
  ·have e:y=x:=by simpa using q
   subst e
   rw[q] at h
   cases h
   rw[hs]
   simp[List.lookup_cons]
  ·rw[Bool.not_eq_true] at q
   rw[q] at h
   split<;>(rw[List.lookup_cons,q];exact ih h)
theorem jM{names sc:List (Str×NameKind)}{x:Str}{k:NameKind}(h:(x,k)∈fz names sc):(x,k)∈names∨(k=.cell∧(x,NameKind.free)∈names):=by
 revert names sc x k
 apply aN;intro
 generalize bM .. =names,bN .. =sc,bQ .. =x,bR .. =k
 intro h
 unfold fz at h
 obtain⟨p,hp,e⟩:=List.mem_map.mp h
 obtain⟨y,k'⟩:=p
 dsimp only at e
 split at e
 ·rename_i q
  cases e
  rw[Bool.and_eq_true] at q
  have:k'=.free:=by simpa using q.1
  subst this
  exact .inr ⟨rfl,hp⟩
 ·cases e;exact .inl hp
def vq(T:TE)(scope:Scope):Prop:=∀p∈scope.names,p.2≠.cell∧(p.2=.local→scope.names.lookup p.1=some .local)∧(p.2=.free→T.sc.lookup p.1=some .cell)
theorem in_all{T:TE}{scope:Scope}(h:scope.names.all (fun p=>p.2 !=.cell && (p.2 !=.local || scope.names.lookup p.1 == some .local) && (p.2 !=.free || T.sc.lookup p.1 == some .cell))=true):vq T scope:=fun p hp=>by
 have:=List.all_eq_true.mp h p hp
 simp only[Bool.and_eq_true,bne_iff_ne,ne_eq,Bool.or_eq_true,beq_iff_eq] at this
 exact⟨this.1.1,fun e=>this.1.2.resolve_left fun z=>z e,fun e=>this.2.resolve_left fun z=>z e⟩
def TgOf(T:TE)(xs:List Str)(tg:List (Str×Nat)):Prop:=gW (fun x=>(T.ν.lookup x).map fun i=>(x,i)) xs=some tg
theorem vv{T:TE}{scope:Scope}{tg:List (Str×Nat)}{y:Str}{j:Nat}(h:(T.inner scope tg).ν.lookup y=some j):tg.lookup y=some j∨scope.names.lookup y=some .free∧T.ν.lookup y=some j:=by
 unfold TE.inner at h
 dsimp only at h
 rw[List.lookup_append] at h
 cases z:tg.lookup y with
 |some i=>rw[z] at h;exact .inl h
 |none=>
  rw[z] at h
  have h:(T.ν.filter fun p=>scope.names.lookup p.1 == some .free).lookup y=some j:=by simpa using h
  have hp:=dW (fun x=>scope.names.lookup x == some NameKind.free) T.ν y j h
  rw[dU (fun x=>scope.names.lookup x == some NameKind.free) T.ν y hp] at h
  exact .inr ⟨eq_of_beq hp,h⟩
theorem tS{T:TE}{scope:Scope}{xs:List Str}{tg:List (Str×Nat)}(k:TgOf T xs tg){y:Str}{j:Nat}(h:(T.inner scope tg).ν.lookup y=some j):T.ν.lookup y=some j:=
 (vv h).elim (fun q=>(kW k q).1) And.right
theorem AR{T:TE}{scope:Scope}{xs:List Str}{tg:List (Str×Nat)}(t:fh X T)(k:TgOf T xs tg):fh X (T.inner scope tg):=
 ⟨t.tab,fun x y i a b=>t.inj x y i (tS k a) (tS k b),fun x i a=>t.pV x i (tS k a),t.glob⟩
theorem vw(ea:bq env T.sc){scope:Scope}(a:vq T scope):∀x∈scope.names,x.2=.free→∃ca,env.cells.lookup x.1=some ca:=fun x hx e=>ea.cells x.1 (.inl (mem_of_lookup ((a x hx).2.2 e)))
theorem in_env(ea:bq env T.sc){scope:Scope}(a:vq T scope){tg:List (Str×Nat)}(hk:scope.kind=.function){cl:List (Str×Addr)}{C:Addr}(hl:∀y ca,(y,NameKind.free)∈scope.names→env.cells.lookup y=some ca→cl.lookup y=some ca):bq (compEnvC scope cl C env) (T.inner scope tg).sc:=by
 refine⟨⟨hk,ea.globals,ea.builtins⟩,fS scope env T.sc ea.kind ea.names,fun x hx=> ?_⟩
 have hx:(x,NameKind.free)∈scope.names:=by
  rcases hx with hx|hx
  ·rcases jM hx with q|⟨_,q⟩
   ·exact absurd rfl (a _ q).1
   ·exact q
  ·rcases jM hx with q|⟨q,_⟩
   ·exact q
   ·cases q
 exact(vw ea a _ hx rfl).elim fun ca e=>⟨ca,hl x ca hx e⟩
theorem in_vis(ea:bq env T.sc){scope:Scope}(a:vq T scope){tg:List (Str×Nat)}{target:Expr}{cg:List Nat}(k:TgOf T (jJ target) tg)(h1:oX (T.inner scope tg) target=some cg)
  {cl:List (Str×Addr)} {C:Addr} (hl:∀y ca,(y,NameKind.free)∈scope.names→env.cells.lookup y=some ca→cl.lookup y=some ca):Vis env (compEnvC scope cl C env) T.ν (T.inner scope tg).ν cg:=by
 intro y j hy
 rcases vv hy with z|⟨hf,z⟩
 ·exact .inl (tgt_mem h1 y (kW k z).2 j hy)
 ·have hc:=(a _ (mem_of_lookup hf)).2.2 rfl
  refine .inr ⟨z,?_,.inl ?_,fun ca e=>hl y ca (mem_of_lookup hf) e⟩
  ·rw[lS ea,hc];decide
  ·exact(congrArg (List.lookup y) (fS scope env T.sc ea.kind ea.names)).trans (lD hf hc)
theorem tT(B:ik X P m n)(t:fh X T)(ea:bq env T.sc){elt target iter:Expr}{scope:Scope}{ie:IE}(h:kj T (n+1) elt target iter scope=some ie):jK X P m env T.ν elt target iter scope ie:=
 cC h fun tg k h=>cV h fun q h=>cC h fun cg h1 h=>cC h fun is h2 h=>cV h fun lP h=>cH h fun ielt h3=>
  have q:=Bool.and_eq_true_iff.mp q
  have q1:=Bool.and_eq_true_iff.mp q.1
  have a:=in_all q1.2
  have hk:=eq_of_beq q1.1
  .mk (vw ea a) hk (fun y hy=>(a y hy).1) (fun x hx=>(a x hx).2.1) q.2 (fun _ _=>oY (fS scope env T.sc ea.kind ea.names) h1) (AR t k).inj (fun _ _ hl=>in_vis ea a k h1 hl) (B.src T env t ea _ _ h2)
   (fun _ _ hl=>B.e _ _ (AR t k) (in_env ea a hk hl) _ _ h3) (((Bool.or_eq_true _ _).mp lP).imp_right fun q=>Bool.and_eq_true_iff.mp q)
theorem bund(pk:n9 X P)(co:dS X P m):∀n,ik X P m n
 |0=>ik.zero
 |n+1=>by
  have B:=bund pk co n
  exact⟨fun T env t ea e ie h=>AH pk B t ea h,fun T env t ea es dO h=>es_step B t ea h,fun T env t ea ks es xs js dO h1 h2 h hl=>ps_step B t ea h1 h2 h hl,fun T env t ea op es ie h=>b_step B t ea h,
   fun T env t ea e ie h ht=>t_step B t ea h (AH pk B t ea h) ht,fun T env t ea op es ie h ht=>a_step B t ea h ht,fun T env t ea a i ie pos h=>AL pk B t ea pos h,fun T env t ea x args p pos ie h=>xZ pk co B t ea h,
   fun T env t ea o x apos args pos ie h=>yd pk co B t ea h,fun T env t ea e is h=>AP B t ea h,fun T env t ea elt target iter scope ie h=>by
    exact B.parts T env t ea _ _ _ _ _ h,fun T env t ea elt target iter scope ie h=>tT B t ea h⟩
end
end
section
open PyProof.Rows PySem.Calls PySem.W
set_option genInjectivity false
section
variable {X:Cx}{P:ec}{m n:Nat}{env:Env}{T:TE}
structure BundS(X:Cx)(P:ec)(m n:Nat):Prop where
 s:∀T env,fh X T→bq env T.sc→∀s is,trS T n s=some is→dK X P m env T.ν s is
 ss:∀T env,fh X T→bq env T.sc→∀ss iss,ow T n ss=some iss→fK X P m env T.ν ss iss
theorem pZ(ea:bq env T.sc){ts:List Expr}{k:Nat}{p:Pos}{v:Expr}(h:AF T ts v=true):
  swappedStores [.Tuple ts k p] v env=pure none∨∃names,swappedStores [.Tuple ts k p] v env=pure (some names)∧names=ts.filterMap nameOf:=by
 revert env T ts k p v
 apply aP;intro
 generalize bP .. =env,bS .. =T
 intro ea
 apply aN;intro
 generalize bM .. =ts,bN .. =k,bQ .. =p,bR .. =v
 intro h
 have e0:(fun x=>T.sc.lookup x)=env.kindOf:=by funext x;rw[lS ea]
 cases v with
 |Tuple vs k' p'=>
  have h:swapC ts (jF ts vs fun x=>T.sc.lookup x)=true:=h
  rw[e0] at h
  cases q:jF ts vs env.kindOf with
  |none=>rw[q] at h;exact absurd h Bool.false_ne_true
  |some o=>
   rw[q] at h
   cases o with
   |none=>exact .inl (mR ea.kind q)
   |some names=>exact .inr ⟨names,mR ea.kind q,eq_of_beq h⟩
 |_=>exact .inl (oo rfl)
theorem ye{e:Option Expr}{q:Str×Str}{Q:Option Expr→Prop}(h:tO e=some q)(H:∀p1 c p2 p3,Q (some (.Call (.Name q.1 p1) [.Constant (.str q.2) c p2] [] p3))):Q e:=by
 cases e with
 |none=>exact no h
 |some e=>
  cases e with
  |Call g args yP pos=>
   rcases yP with _|_
   ·rcases args with _|⟨a,_|_⟩
    ·exact no h
    ·exact iS (P:=fun q=>(∀p1 c p2 p3,Q (some (.Call (.Name q.1 p1) [.Constant (.str q.2) c p2] [] p3)))→Q (some (.Call g [a] [] pos))) h (fun x y h1 h2 H=>
      ku (P:=fun g=>Q (some (.Call g [a] [] pos))) h1 fun p=>jL (P:=fun a=>Q (some (.Call (.Name x p) [a] [] pos))) h2 fun c p2=>H p c p2 pos) H
    ·exact no h
   ·exact no h
  |_=>exact no h
theorem AS{b:List Stmt}{q:Expr×Str}{Q:List Stmt→Prop}(h:asgOf b=some q)(H:∀c p1 p2,Q [.Assign [q.1] (.Constant (.str q.2) c p1) p2]):Q b:=by
 rcases b with _|⟨s,_|_⟩
 ·exact no h
 ·cases s with
  |Assign ts v p=>
   rcases ts with _|⟨t,_|_⟩
   ·exact no h
   ·exact cH (P:=fun q:Expr×Str=>(∀c p1 p2,Q [.Assign [q.1] (.Constant (.str q.2) c p1) p2])→Q [.Assign [t] v p]) h (fun x h1 H=>jL (P:=fun v=>Q [.Assign [t] v p]) h1 fun c p2=>H c p2 p) H
   ·exact no h
  |_=>exact no h
 ·exact no h
theorem il{r:IS}{exc:Option Expr}{pos:Pos}{ν:Nu}(h:r=.stuck):dK X P m env ν (.Raise exc none pos) r:=h▸mO _
theorem rI(t:fh X T)(ea:bq env T.sc)(RO:eg X)(exc cause:Option Expr)(pos:Pos):dK X P m env T.ν (.Raise exc cause pos) (gH T exc cause):=by
 cases cause with
 |some _=>exact mO _
 |none=>
  cases z:tO exc with
  |none=>exact il (by unfold gH;rw[z])
  |some q=>
   cases hg:T.g q.1 with
   |none=>exact il (by unfold gH;rw[z];dsimp only;rw[hg])
   |some g=>
    cases g with
    |bad=>
     rw[show gH T _ none=.raise by unfold gH;rw[z];dsimp only;rw[hg]]
     have k:=pW ea t hg
     exact ye (Q:=fun e=>dK X P m env T.ν (.Raise e none pos) .raise) z fun _ _ _ _=>tK _ _ _ _ RO ea.toEnvOk k.1 k.2.1 k.2.2
    |_=>exact il (by unfold gH;rw[z];dsimp only;rw[hg])
theorem hand_el{hs:List ExceptHandler}{q:Nat×Str}{Q:List ExceptHandler→Prop}(h:tP T hs=some q)
  (H:∀x p1 y p2 c p3 p4 p5,T.g x=some .bad→dg T (.Name y p2)=some q.1→Q [.ExceptHandler (some (.Name x p1)) none [.Assign [.Name y p2] (.Constant (.str q.2) c p3) p4] p5]):Q hs:=by
 rcases hs with _|⟨⟨ty,nm,body,p⟩,_|_⟩
 ·exact no h
 ·cases nm with
  |some _=>exact no h
  |none=>
  cases ty with
  |none=>exact no h
  |some e=>
   refine cC h fun x hx h=>ku (P:=fun e=>Q [.ExceptHandler (some e) none body p]) hx fun p1=> ?_
   cases hg:T.g x with
   |none=>rw[hg] at h;exact no h
   |some g=>
    rw[hg] at h
    cases g with
    |bad=>
     refine cC h fun a ha h=>AS (Q:=fun b=>Q [.ExceptHandler (some (.Name x p1)) none b p]) ha fun c p3 p4=> ?_
     refine cH (P:=fun q:Nat×Str=>(∀x p1 y p2 c p3 p4 p5,T.g x=some .bad→dg T (.Name y p2)=some q.1→Q [.ExceptHandler (some (.Name x p1)) none [.Assign [.Name y p2] (.Constant (.str q.2) c p3) p4] p5])→_) h (fun i hi H=> ?_) H
     obtain⟨y,p2,e⟩:=km hi
     rw[e] at hi ⊢
     exact H x p1 y p2 c p3 p4 p hg hi
    |_=>exact no h
 ·exact no h
theorem AU(t:fh X T)(ea:bq env T.sc){f:Expr→Option IE}(E:∀e ie,f e=some ie→az X P m env T.ν e ie){x:Str}{v:Expr}{p pos:Pos}{is:IS}
  (h:((dg T (.Name x p)).bind fun i=>gd (dA v) ((f v).map (IS.assign i)))=some is):dK X P m env T.ν (.Assign [.Name x p] v pos) is:=by
 exact cC h fun i hi h0=>cV h0 fun q h1=>cH h1 fun _ h2=>
  have k:=dT ea.names hi
  q8 p pos t.inj k.1 ea.kind k.2 q (E _ _ h2)
theorem as_comp(BE:ik X P m n)(t:fh X T)(ea:bq env T.sc){f:Expr→Option IE}{x:Str}{elt target iter:Expr}{ifs:List Expr}{k:Int}{scope:Scope}{mW p pos:Pos}{is:IS}
  (h:xT T f (mX T n) (.ListComp elt [⟨target,iter,ifs,k⟩] scope mW) (.Name x p)=some is):dK X P m env T.ν (.Assign [.Name x p] (.ListComp elt [⟨target,iter,ifs,k⟩] scope mW) pos) is:=by
 refine cC h fun i hi h0=>cV h0 fun z g=>cV g fun q g1=>cH g1 fun ie h1=> ?_
 have z:=Bool.and_eq_true_iff.mp z
 have q:=Bool.and_eq_true_iff.mp q
 rw[fj z.1,eq_of_beq z.2]
 exact(BE.comp T env t ea _ _ _ _ _ h1).rec fun {_ _ _ _}=>mS t.inj ea.toEnvOk (dT ea.names hi).1 (dT ea.names hi).2 q.1 (by simpa using q.2)
theorem AV(t:fh X T)(ea:bq env T.sc){f:Expr→Option IE}{g:Expr→Expr→Expr→Scope→Option IE}(E:∀e ie,f e=some ie→az X P m env T.ν e ie){ts:List Expr}{k:Nat}{v:Expr}{p pos:Pos}{is:IS}
  (h:xT T f g v (.Tuple ts k p)=some is):dK X P m env T.ν (.Assign [.Tuple ts k p] v pos) is:=by
 exact cC h fun is hi h1=>cV h1 fun q h2=>cH h2 fun _ h3=>
  have q:=Bool.and_eq_true_iff.mp q
  have q1:=Bool.and_eq_true_iff.mp q.1
  ro p pos t.inj ea.kind (kU ea.names hi) (of_decide_eq_true q1.1) q1.2 (pZ ea q.2) (E _ _ h3)
theorem as_attr(pk:n9 X P)(t:fh X T){f:Expr→Option IE}{g:Expr→Expr→Expr→Scope→Option IE}(E:∀e ie,f e=some ie→az X P m env T.ν e ie){o v:Expr}{x:Str}{p pos:Pos}{is:IS}
  (h:xT T f g v (.Attribute o x p)=some is):dK X P m env T.ν (.Assign [.Attribute o x p] v pos) is:=by
 exact cV h fun q h1=>oW h1 fun _ _ _ h2 h3 h4=>q9 p pos pk (t.nm h2).2 (t.nm h2).1 q (E _ _ h3) (E _ _ h4)
theorem as_item{f:Expr→Option IE}{g:Expr→Expr→Expr→Scope→Option IE}(E:∀e ie,f e=some ie→az X P m env T.ν e ie){o i v:Expr}{p pos:Pos}{is:IS}
  (h:xT T f g v (.Subscript o i p)=some is):dK X P m env T.ν (.Assign [.Subscript o i p] v pos) is:=by
 exact cV h fun q h1=>oW h1 fun _ _ _ h2 h3 h4=>rd p pos q (E _ _ h2) (E _ _ h3) (E _ _ h4)
theorem AW(pk:n9 X P)(co:dS X P m)(t:fh X T)(ea:bq env T.sc){t0 v:Expr}{pos:Pos}{is:IS}(h:xT T (tr T n) (mX T n) v t0=some is):dK X P m env T.ν (.Assign [t0] v pos) is:=by
 have BE:=bund pk co n (P:=P) (X:=X) (m:=m)
 have E:∀e ie,tr T n e=some ie→az X P m env T.ν e ie:=fun _ _ h=>BE.e T env t ea _ _ h
 cases t0 with
 |Name x p=>
  cases v with
  |ListComp elt gs scope mW=>
   rcases gs with _|⟨⟨target,iter,ifs,k⟩,_|_⟩
   ·exact cC h fun _ _ h1=>no h1
   ·exact as_comp BE t ea h
   ·exact cC h fun _ _ h1=>no h1
  |_=>exact AU t ea E h
 |Tuple ts k p=>exact AV t ea E h
 |Attribute o x p=>exact as_attr pk t E h
 |Subscript o i p=>exact as_item E h
 |_=>exact no h
theorem AX(t:fh X T)(ea:bq env T.sc){x:Str}{op:Operator}{v:Expr}{p pos:Pos}{i:Nat}{iv:IE}(h:dg T (.Name x p)=some i)(hv:az X P m env T.ν v iv):dK X P m env T.ν (.AugAssign (.Name x p) op v pos) (.aug i op iv):=
 have k:=dT ea.names h
 Ah p pos ea.toEnvOk t.inj k.1 k.2 (t.pV x i k.2).2 hv
theorem tU{ν:Nu}{c:Expr}{r:Bool}{b o:List Stmt}{pos:Pos}{ic:IE}{ib:cp}(q:(o.isEmpty && r)=true)(hc:r=true→iK X P m env ν c ic)(hb:fK X P m env ν b ib):dK X P m env ν (.While c b o pos) (.while ic ib):=by
 have q:=Bool.and_eq_true_iff.mp q
 rw[fj q.1]
 exact tD pos (hc q.2) hb
theorem AY(t:fh X T)(ea:bq env T.sc){target iter:Expr}{b o:List Stmt}{pos:Pos}{cg:List Nat}{is:gZ}{ib:cp}(q:(o.isEmpty && gG iter)=true)(h1:oX T target=some cg)(hs:dJ X P m env T.ν iter is)(lP:(du target || (cm target && cW is))=true)
  (hb:fK X P m env T.ν b ib):dK X P m env T.ν (.For target iter b o pos) (.for cg is ib):=by
 have q:=Bool.and_eq_true_iff.mp q
 rw[fj q.1]
 exact Ak pos (oY ea.names h1) t.inj ea.kind q.2 hs (((Bool.or_eq_true _ _).mp lP).imp_right fun q=>Bool.and_eq_true_iff.mp q) hb
theorem AZ(t:fh X T)(ea:bq env T.sc)(RO:eg X){b o f:List Stmt}{hs:List ExceptHandler}{pos:Pos}{i:Nat×Str}{ib:cp}(q:(o.isEmpty && f.isEmpty)=true)(h:tP T hs=some i)(hb:fK X P m env T.ν b ib):dK X P m env T.ν (.Try b hs o f pos) (.try ib i.1 (.str i.2)):=by
 have q:=Bool.and_eq_true_iff.mp q
 rw[fj q.1,fj q.2]
 exact hand_el (Q:=fun hs=>dK X P m env T.ν (.Try b hs [] [] pos) (.try ib i.1 (.str i.2))) h fun _ _ _ _ _ _ _ _ q1 q2=>
  have k:=pW ea t q1
  have j:=dT ea.names q2
  Aw _ _ _ _ _ _ RO ea.toEnvOk t.inj k.1 k.2.1 k.2.2 j.1 j.2 hb
theorem s_step(pk:n9 X P)(co:dS X P m)(RO:eg X)(B:BundS X P m n)(t:fh X T)(ea:bq env T.sc){s:Stmt}{is:IS}(h:trS T (n+1) s=some is):dK X P m env T.ν s is:=by
 revert X P m n env T s is
 apply aN;intro
 generalize bM .. =X,bN .. =P,bQ .. =m,bR .. =n
 apply aP;intro
 generalize bP .. =env,bS .. =T
 intro pk co RO B t ea
 apply aP;intro
 generalize bP .. =s,bS .. =is
 intro h
 have BE:=bund pk co n (P:=P) (X:=X) (m:=m)
 have E:∀{e ie},tr T n e=some ie→az X P m env T.ν e ie:=fun h=>BE.e T env t ea _ _ h
 have S:∀{s is},ow T n s=some is→fK X P m env T.ν s is:=fun h=>B.ss T env t ea _ _ h
 cases s with
 |Expr e p=>exact cV h fun q h=>cH h fun _ h1=>xF p ea.kind q (E h1)
 |Assign ts v pos=>
  rcases ts with _|⟨t0,_|_⟩
  ·exact no h
  ·exact AW pk co t ea h
  ·exact no h
 |AugAssign t0 op v pos=>
  cases t0 with
  |Name x p=>exact iS h fun i _ h1 h2=>AX t ea h1 (E h2)
  |Subscript o i p=>exact cV h fun q h=>oW h fun _ _ _ h1 h2 h3=>Ai p pos q (E h1) (E h2) (E h3)
  |_=>exact no h
 |If c a b pos=>exact cV h fun q h=>oW h fun _ _ _ h1 h2 h3=>snd_ifS pos (BE.t T env t ea _ _ h1 q) (S h2) (S h3)
 |While c b o pos=>exact cV h fun q h=>iS h fun _ _ h1 h2=>tU q (fun q=>BE.t T env t ea _ _ h1 q) (S h2)
 |For target iter b o pos=>exact cV h fun q h=>cC h fun _ h1 h=>cC h fun _ h2 h=>cV h fun lP h=>cH h fun _ h3=>AY t ea q h1 (BE.src T env t ea _ _ h2) lP (S h3)
 |Return v pos=>
  cases v with
  |none=>exact no h
  |some e=>exact cH h fun _ h1=>Ag pos (E h1)
 |Continue pos=>exact eh h (xG pos)
 |Raise exc cause pos=>exact eh h (rI t ea RO exc cause pos)
 |Try b hs o f pos=>exact cV h fun q h=>iS h fun _ _ h1 h2=>AZ t ea RO q h1 (S h2)
 |_=>exact no h
theorem bundS(pk:n9 X P)(co:dS X P m)(RO:eg X):∀n,BundS X P m n
 |0=>by constructor<;>intros<;>exact no ‹_›
 |n+1=>by
  have B:=bundS pk co RO n
  refine⟨fun T env t ea s is h=>s_step pk co RO B t ea h,fun T env t ea ss iss h=> ?_⟩
  cases ss with
  |nil=>exact eh h xE
  |cons s r=>
   exact iS h fun _ _ h1 h2=>tC (B.s T env t ea _ _ h1) (B.ss T env t ea _ _ h2)
end
end
section
open PyProof.Rows PySem.Calls PySem.W
set_option backward.match.sparseCases false
noncomputable def n27:Str:=s!"font"
noncomputable def n28:Str:=s!"code"
noncomputable def n58:Str:=s!"append"
noncomputable def n59:Str:=s!"get"
noncomputable def n60:Str:=s!"moved"
noncomputable def n63:Str:=s!"extend"
noncomputable def n64:Str:=s!"insert"
noncomputable def n68:Str:=s!"isinstance"
noncomputable def n69:Str:=s!"int"
noncomputable def n70:Str:=s!"bool"
noncomputable def n99:Str:=s!"tuple"
noncomputable def n101:Str:=s!"bytes"
noncomputable def n102:Str:=s!"bytearray"
noncomputable def n103:Str:=s!"list"
noncomputable def n111:Str:=s!"sum"
noncomputable def n115:Str:=s!"abs"
noncomputable def n116:Str:=s!"len"
noncomputable def n118:Str:=s!"min"
noncomputable def n119:Str:=s!"max"
noncomputable def n128:Str:=s!"enumerate"
noncomputable def n149:Str:=s!"range"
noncomputable def n174:Str:=s!"sorted"
noncomputable def n221:Str:=s!"sizes"
noncomputable def n222:Str:=s!"texts"
noncomputable def n223:Str:=s!"pieces"
noncomputable def n233:Str:=s!"zip"
noncomputable def rJ:List Str:=[lX,Cn,s52,s53,s54,qF,s79,B5,lL,s82,s33,yR,s44,lM,s90,s91,qD,s96,s97,s98,Co,Cm,qG,Cp,sL,Cq,Cr,n27,n28,s127,s128,s126,s129,yY,s141,Cu,s139,s137,s135,s132,s133,s136,Cs,s134,s138,s142,qI,qH,vY,vZ,Cv,d8,nY,Cw,sM,lY,nZ,s120,n58,n59,n60,s58,s239,n63,n64,s56]
noncomputable def p6:List (Str×GV):=[
 (n68,.bi),
 (n69,.bi),
 (n70,.bi),
 (s16,.cls 52),
 (s258,.const (.int 2147483647)),
 (s24,.fn 96),
 (s18,.cls 76),
 (s257,.const (.int 1073741823)),
 (s259,.const (.int 10000)),
 (s22,.fn 89),
 (s260,.const (.int 0)),
 (s263,.const (.int 3)),
 (s26,.fn 110),
 (s270,.const (.int 5)),
 (s267,.const (.int 2)),
 (s268,.const (.int 3)),
 (s280,.const (.int 0)),
 (s283,.const (.int 0)),
 (s286,.const (.int 3)),
 (s287,.const (.int 0)),
 (s292,.const (.int 5)),
 (s293,.const (.int 100)),
 (s288,.const (.int 1)),
 (s290,.const (.int 3)),
 (s269,.const (.int 4)),
 (s25,.fn 103),
 (s76,.fn 262),
 (n99,.bi),
 (n101,.bi),
 (n102,.bi),
 (n103,.bi),
 (s265,.const (.int 0)),
 (s266,.const (.int 1)),
 (s277,.const (.int 12)),
 (s279,.const (.int 14)),
 (s271,.const (.int 6)),
 (s273,.const (.int 8)),
 (n111,.bi),
 (vX,.fn 499),
 (n115,.bi),
 (n116,.bi),
 (n118,.bi),
 (n119,.bi),
 (s73,.cls 227),
 (s272,.const (.int 7)),
 (s284,.const (.int 1)),
 (n128,.bi),
 (s299,.const (.int 10000)),
 (s304,.const (.int 0)),
 (s305,.const (.int 1)),
 (s298,.const (.int (-10000))),
 (wc,.fn 624),
 (s17,.bad),
 (s308,.const (.tup [(.int 0),(.int 0),(.int 0),(.int 0),(.int 0),(.int 0)])),
 (wh,.fn 645),
 (sN,.fn 652),
 (wj,.fn 659),
 (wd,.fn 631),
 (we,.fn 638),
 (wk,.fn 666),
 (n149,.bi),
 (s302,.const (.int 2)),
 (s45,.fn 145),
 (s300,.const (.int 0)),
 (s301,.const (.int 1)),
 (s306,.const (.int 10001)),
 (s303,.const (.int 3)),
 (s307,.const (.int 100000000)),
 (wq,.fn 685),
 (wu,.fn 692),
 (wx,.fn 699),
 (wy,.fn 706),
 (n174,.bi),
 (zb,.cls 585),
 (wa,.fn 617),
 (wo,.fn 680),
 (zc,.cls 606),
 (wm,.fn 673),
 (wA,.fn 713),
 (wB,.fn 720),
 (wC,.fn 727),
 (za,.cls 564),
 (wG,.fn 748),
 (yZ,.cls 543),
 (s83,.cls 279),
 (s89,.cls 321),
 (yT,.cls 406),
 (yX,.cls 490),
 (yU,.cls 427),
 (s95,.cls 364),
 (yV,.cls 448),
 (wM,.fn 776),
 (wN,.fn 783),
 (s86,.cls 300),
 (yW,.cls 469),
 (yS,.cls 385),
 (wK,.fn 769),
 (s93,.cls 343),
 (wQ,.fn 797),
 (wR,.fn 804),
 (wU,.fn 811),
 (wV,.fn 816),
 (wO,.fn 790),
 (n233,.bi),
 (wD,.fn 734),
 (wX,.fn 830),
 (wF,.fn 741),
 (wH,.fn 755),
 (wJ,.fn 762),
 (wW,.fn 823),
 (wY,.fn 837),
 (wZ,.fn 842)]
noncomputable def int1(i:Int):Value→Bool
 |.int j _=>i == j
 |_=>false
noncomputable def intV:PV→Value→Bool
 |.int i,u=>int1 i u
 |_,_=>false
noncomputable def vx(f:PV→Value→Bool):List PV→List Value→Bool
 |[],vs=>vs.isEmpty
 |v::r,vs=>match vs with|[]=>false|u::t=>f v u && vx f r t
theorem kX{X:Cx}{W:Wd}{f:PV→Value→Bool}(k:∀v u,f v u=true→VR X W v u){l:List PV}:∀{vs:List Value},vx f l vs=true→cM X W l vs:=by
 induction l with
 |nil=>intro vs h;cases vs with
  |nil=>exact .nil
  |cons _ _=>exact absurd h Bool.false_ne_true
 |cons v r ih=>intro vs h;cases vs with
  |nil=>exact absurd h Bool.false_ne_true
  |cons u t=>exact .cons (k _ _ (Bool.and_eq_true_iff.mp h).1) (ih (Bool.and_eq_true_iff.mp h).2)
theorem mZ{i:Int}{u:Value}(h:int1 i u=true):∃t,u=.int i t:=by
 cases u with
 |int j t=>exact⟨t,congrArg (fun x=>Value.int x t) (eq_of_beq h).symm⟩
 |_=>exact absurd h Bool.false_ne_true
theorem tV{X:Cx}{W:Wd}{v:PV}{u:Value}(h:intV v u=true):VR X W v u:=by
 cases v with
 |int i=>obtain⟨t,rfl⟩:=mZ h;exact .int _ _
 |_=>exact absurd h Bool.false_ne_true
noncomputable def seqD(c:Value):Data→Option (Value×List Value)
 |.seq vs _=>some (c,vs.toList)
 |_=>none
theorem seqD_el{c:Value}{d:Data}{p:Value×List Value}(h:seqD c d=some p):∃vs n,d=.seq vs n∧some (c,vs.toList)=some p:=by
 cases d with
 |seq vs n=>exact⟨vs,n,rfl,h⟩
 |_=>exact cj h
noncomputable def kY:Option Obj→Option (Value×List Value)
 |some o=>seqD o.cls o.data
 |none=>none
theorem m8{o:Option Obj}{c:Value}{l:List Value}(h:kY o=some (c,l)):∃o' n,o=some o'∧o'.cls=c∧o'.data=.seq l.toArray n:=by
 cases o with
 |none=>exact cj h
 |some o=>
  obtain⟨T,dd,d,sl⟩:=o
  obtain⟨vs,n,rfl,h1⟩:=seqD_el h
  cases h1;exact⟨_,n,rfl,rfl,by simp⟩
noncomputable def tupC(l:List PV):Option (Value×List Value)→Bool
 |some p=>p.1 == .type "tuple" && vx intV l p.2
 |none=>false
noncomputable def refC(f:Addr→Bool):Value→Bool
 |.ref a=>f a
 |_=>false
theorem vy{f:Addr→Bool}{u:Value}(h:refC f u=true):∃a,u=.ref a∧f a=true:=by
 cases u with
 |ref a=>exact⟨a,rfl,h⟩
 |_=>exact absurd h Bool.false_ne_true
noncomputable def vchk(K:Frag):PV→Value→Bool
 |.none,u=>u == .none
 |.bool a,u=>u == .bool a
 |.int i,u=>int1 i u
 |.tup l,u=>refC (fun a=>tupC l (kY (K.lookup a))) u
 |_,_=>false
theorem jc{X:Cx}(ok:X.ok){v:PV}{u:Value}(h:vchk X.K v u=true):∀W:Wd,(∀a o,X.h₀.get? a=some o→W.B a=some o)→VR X W v u:=by
 intro W hb
 cases v with
 |none=>rw[eq_of_beq h];exact .none
 |bool a=>rw[eq_of_beq h];exact .bool _
 |int i=>obtain⟨t,rfl⟩:=mZ h;exact .int _ _
 |tup l=>
  obtain⟨a,rfl,h1⟩:=vy h
  cases e:kY (X.K.lookup a) with
  |none=>rw[e] at h1;exact absurd h1 Bool.false_ne_true
  |some p=>
   rw[e] at h1
   obtain⟨o,n,hl,hc,hd⟩:=m8 e
   have h:=Bool.and_eq_true_iff.mp h1
   exact .tup l a o n p.2 (hb _ _ (X.X ok _ _ hl)) (hc.trans (eq_of_beq h.1)) hd (kX (fun _ _=>tV) h.2)
 |_=>exact absurd h Bool.false_ne_true
noncomputable def gV(K:Frag)(v:PV):Option (Option Value)→Bool
 |some (some u)=>vchk K v u
 |_=>false
noncomputable def gchk(K:Frag)(bad:Addr)(x:Str):GV→Bool
 |.const v=>gV K v (nsIn K mainGlobals x)
 |.fn f=>nsIn K mainGlobals x == some (some (.ref f)) && keepIn K (.ref f)
 |.cls c=>nsIn K mainGlobals x == some (some (.ref c)) && keepIn K (.ref c)
 |.bi=>nsIn K mainGlobals x == some none && x !=("__name__":Str)
 |.bad=>nsIn K mainGlobals x == some (some (.ref bad))
theorem tW{X:Cx}(ok:X.ok){x:Str}{g:GV}(h:gchk X.K X.bad x g=true):GOk X x g:=by
 cases g with
 |const v=>
  have h:gV X.K v (nsIn X.K mainGlobals x)=true:=h
  cases hu:nsIn X.K mainGlobals x with
  |none=>rw[hu] at h;exact absurd h Bool.false_ne_true
  |some o=>
   rw[hu] at h
   cases o with
   |none=>exact absurd h Bool.false_ne_true
   |some u=>exact⟨u,hu,jc ok h⟩
 |fn f=>have h:=Bool.and_eq_true_iff.mp h;exact⟨eq_of_beq h.1,h.2⟩
 |cls c=>have h:=Bool.and_eq_true_iff.mp h;exact⟨eq_of_beq h.1,h.2⟩
 |bi=>have h:=Bool.and_eq_true_iff.mp h;exact⟨eq_of_beq h.1,bne_iff_ne.mp h.2⟩
 |bad=>exact eq_of_beq h
noncomputable def A0(ν:Nu):Bool:=decide ((ν.map (·.2)).Nodup) && ν.all (fun p=>p.1 !=("__debug__":Str) && p.1 !=("__classdict__":Str))
noncomputable def A1(K:Frag)(bad:Addr)(glob:List (Str×GV)):Bool:=glob.all fun p=>p.1 !=("__debug__":Str) && gchk K bad p.1 p.2
theorem nu_ok{ν:Nu}(h:(ν.map (·.2)).Nodup):fQ ν:=fun x y i hx hy=>by
 have h1:=mem_of_lookup hx
 have h2:=mem_of_lookup hy
 clear hx hy
 induction ν with
 |nil=>cases h1
 |cons p r ih=>
  rw[List.map_cons,List.nodup_cons] at h
  rcases List.mem_cons.mp h1 with e1|h1<;>rcases List.mem_cons.mp h2 with e2|h2
  ·rw[←e1] at e2;cases e2;rfl
  ·exact absurd (List.mem_map.mpr ⟨(y,i),h2,by rw[←e1]⟩) h.1
  ·exact absurd (List.mem_map.mpr ⟨(x,i),h1,by rw[←e2]⟩) h.1
  ·exact ih h.2 h1 h2
theorem tok_of{X:Cx}(ok:X.ok){T:TE}(ht:X.tab=T.tab)(h:A0 T.ν=true)(k:A1 X.K X.bad T.glob=true):fh X T:=by
 have h:=Bool.and_eq_true_iff.mp h
 refine⟨ht,nu_ok (of_decide_eq_true h.1),fun x i e=> ?_,fun x g e=> ?_⟩
 ·have:=Bool.and_eq_true_iff.mp (List.all_eq_true.mp h.2 _ (mem_of_lookup e))
  exact⟨beq_false_of_ne (bne_iff_ne.mp this.1),beq_false_of_ne (bne_iff_ne.mp this.2)⟩
 ·have:=Bool.and_eq_true_iff.mp (List.all_eq_true.mp k _ (mem_of_lookup e))
  exact⟨beq_false_of_ne (bne_iff_ne.mp this.1),tW ok this.2⟩
noncomputable def dfltC(K:Frag)(l:List PV):Option (Value×List Value)→Bool
 |some p=>vx (vchk K) l p.2
 |none=>false
noncomputable def p7(K:Frag)(l:List PV)(v:Value):Bool:=(v == .none && l.isEmpty) || refC (fun T=>dfltC K l (kY (K.lookup T))) v
theorem tX{X:Cx}(ok:X.ok){l:List PV}{v:Value}(h:p7 X.K l v=true):∃ds:List Value,(∀W:Wd,(∀a o,X.h₀.get? a=some o→W.B a=some o)→cM X W l ds)∧((∃T o n,v=.ref T∧X.K.lookup T=some o∧o.data=.seq ds.toArray n)∨(v=.none∧ds=[])):=by
 revert X l v
 apply aJ;intro
 generalize nx .. =X
 intro ok
 apply aP;intro
 generalize bP .. =l,bS .. =v
 intro h
 rcases Bool.or_eq_true_iff.mp h with h|h
 ·have h:=Bool.and_eq_true_iff.mp h
  rw[List.isEmpty_iff.mp h.2]
  exact⟨[],fun _ _=>.nil,.inr ⟨eq_of_beq h.1,rfl⟩⟩
 ·obtain⟨T,rfl,h1⟩:=vy h
  cases e:kY (X.K.lookup T) with
  |none=>rw[e] at h1;exact absurd h1 Bool.false_ne_true
  |some p=>
   rw[e] at h1
   obtain⟨o,n,hl,_,hd⟩:=m8 e
   exact⟨p.2,fun W hb=>kX (fun _ _ h=>jc ok h W hb) h1,.inl ⟨T,o,n,rfl,hl,hd⟩⟩
noncomputable def A2(d:DefRec)(r:iP)(ν:Nu):Bool:=
 (d.scope.kind == .function && !d.scope.isCoroutine && !d.scope.isGenerator) && (d.params.posonlyargs.isEmpty && d.params.kwonlyargs.isEmpty && d.params.vararg.isNone && d.params.kwarg.isNone) &&
 (decide ((d.params.args.map (·.arg)).Nodup) && r.np == (d.params.args.map (·.arg)).length && decide (r.dflt.length≤r.np)) && decide ((ν.map (·.2)).Nodup) && ν.all (fun p=>decide (p.2<r.jY)) &&
 (List.zip (d.params.args.map (·.arg)) (List.range (d.params.args.map (·.arg)).length)).all (fun p=>ν.lookup p.1 == some p.2) &&
 (d.params.args.map (·.arg)).all (fun x=>d.scope.names.lookup x == some .local || d.scope.names.lookup x == some .cell) &&
 d.scope.names.all fun p=> !(p.2 == .cell || p.2 == .free) || d.scope.names.lookup p.1 == some .cell
theorem fn_of{X:Cx}(ok:X.ok){P:ec}{f:Addr}{r:iP}{st:Stmt}{qual:Str}{dflt md:Value}{code:Addr}{T:TE}(pk:n9 X P)(RO:eg X)(hl:X.K.lookup f=some (fo st qual dflt md (.ref code)))(hc:codeIn X.K (.ref code) qual=true)(hchk:A2 (dH st) r T.ν=true)
  (hd:p7 X.K r.dflt dflt=true) (ht:ow T 60 (dH st).body=some r.body) (hT:T.sc=(dH st).scope.names) (htab:X.tab=T.tab) (hte:A0 T.ν=true) (htg:A1 X.K X.bad T.glob=true):
  ∃fd body names ν,xI X P f r fd body names ν:=by
 revert X P f r st qual dflt md code T
 apply aJ;intro
 generalize nx .. =X
 intro ok
 apply aT;intro
 generalize bX .. =P,bY .. =f,bZ .. =r,b7 .. =st,cv .. =qual,cw .. =dflt,cx .. =md,cy .. =code
 apply aJ;intro
 generalize nx .. =T
 intro pk RO hl hc hchk hd ht hT htab hte htg
 have tok:=tok_of ok htab hte htg
 simp only[A2,Bool.and_eq_true,beq_iff_eq,Bool.not_eq_true',decide_eq_true_eq,List.all_eq_true,List.isEmpty_iff,Option.isNone_iff_eq_none,Bool.or_eq_true] at hchk
 obtain⟨⟨⟨⟨⟨⟨⟨⟨⟨a1,a2⟩,a3⟩,⟨⟨a4,a5⟩,a6⟩,a7⟩,⟨a8,a9⟩,A3⟩,a11⟩,sH⟩,a13⟩,a14⟩,a15⟩:=hchk
 refine⟨_,(dH st).body,(dH st).params.args.map (·.arg),T.ν,⟨⟨_,hl,rfl⟩,fun h KI=>codeRec_of KI hc,rfl,a1,a2,a3,rfl,rfl,rfl,a4,a5,a6,a7,rfl,a8,tX ok hd,A3,a9,nu_ok a11,fun x i e=>sH _ (mem_of_lookup e),fun i x e=> ?_,fun x hx=>a14 x hx,fun x k hx hk=> ?_,fun n co env ea=> ?_⟩⟩
 ·have hi:=(List.getElem?_eq_some_iff.mp e).1
  exact a13 (x,i) (List.mem_iff_getElem?.mpr ⟨i,by rw[List.getElem?_zip_eq_some];exact⟨e,List.getElem?_range hi⟩⟩)
 ·have h:=a15 (x,k) hx
  rcases hk with rfl|rfl
  ·rcases h with h|h
   ·simp at h
   ·exact h
  ·rcases h with h|h
   ·simp at h
   ·exact h
 ·exact(bundS pk co RO 60).ss T env tok (by rw[hT];exact ea) _ _ ht
noncomputable def p8(K:Frag)(c:Nat)(x:Str):Bool:=match findIn K (.ref c) x with
 |some attr=>noGet K attr && takerIn K c x == some none
 |none=>false
noncomputable def m9(K:Frag)(bad:List (Nat×Nat))(c:Nat):Nat→List Str→Bool
 |_,[]=>true
 |n,x::r=>(bad.contains (c,n) || p8 K c x) && m9 K bad c (n+1) r
theorem ip{K:Frag}{bad:List (Nat×Nat)}{c:Nat}:∀(l:List Str) (k:Nat),m9 K bad c k l=true→∀n x,l[n]? =some x→bad.contains (c,k+n)=false→p8 K c x=true
 |[],_,_,n,x,e,_=>by simp at e
 |y::r,k,h,0,x,e,hb=>by
  have h:=Bool.and_eq_true_iff.mp h
  cases e
  rw[Nat.add_zero] at hb
  rcases Bool.or_eq_true_iff.mp h.1 with h1|h1
  ·rw[hb] at h1;cases h1
  ·exact h1
 |y::r,k,h,n+1,x,e,hb=>by
  have h:=Bool.and_eq_true_iff.mp h
  exact ip r (k+1) h.2 n x e (by rw[Nat.add_right_comm,Nat.add_assoc];exact hb)
noncomputable def p9(K:Frag)(bad:List (Nat×Nat))(tab:List Str)(c:Nat):Bool:=
 (plainGet K c Str.empty && hasDictIn K c && (findIn K (.ref c) "__setattr__" == some (some (.builtin "object.__setattr__"))) && plainOver K c) && m9 K bad c 0 tab
theorem qc{X:Cx}{P:ec}{c:Nat}(h:p9 X.K P.bad X.tab c=true):ClsOk X P c:=by
 revert X P c
 apply aP;intro
 generalize bP .. =X,bS .. =P
 apply aJ;intro
 generalize nx .. =c
 intro h
 simp only[p9,Bool.and_eq_true,beq_iff_eq] at h
 obtain⟨⟨⟨⟨h1,h2⟩,h3⟩,h4⟩,h5⟩:=h
 refine⟨fun n=>h1,h2,h3,h4,fun n hn hb=> ?_⟩
 have:=ip X.tab 0 h5 n (X.nm n) (by unfold Cx.nm;rw[List.getElem?_eq_getElem hn];rfl) (by rw[Nat.zero_add];exact hb)
 unfold p8 at this
 split at this
 ·rename_i attr e
  simp only[Bool.and_eq_true,beq_iff_eq] at this
  exact⟨attr,e,this.1,this.2⟩
 ·cases this
noncomputable def rK(K:Frag)(tab:List Str)(c:Nat)(p:Nat×PV):Bool:=match tab[p.1]? with
 |none=>true
 |some x=>match findIn K (.ref c) x with
  |some (some a)=>specialIn K a "__get__" == some none && handedIn a && !copiedNames.contains x && vchk K p.2 a
  |_=>false
noncomputable def vz(K:Frag)(tab:List Str)(c:Nat)(p:Nat×Nat):Bool:=match tab[p.1]? with
 |none=>false
 |some x=>findIn K (.ref c) x == some (some (.ref p.2)) && isFn K (.ref p.2) && keepIn K (.ref p.2)
noncomputable def qd(K:Frag)(tab:List Str)(known:List Nat)(c:Nat)(k:ClsRec):Bool:=
 known.contains c && makesIn K c && k.ma.all (rK K tab c) && k.meths.all (vz K tab c) &&
 match k.init with
 |some f=>findIn K (.ref c) "__init__" == some (some (.ref f)) && isFn K (.ref f)
 |none=>true
theorem iG{α:Type}:∀{l:List (Nat×α)} {n:Nat} {v:α},bB n l=some v→(n,v)∈l
 |[],n,v,h=>cj h
 |(k,u)::r,n,v,h=>by
  rw[fF] at h
  split at h
  ·rename_i q
   cases h
   subst q
   exact .head _
  ·exact .tail _ (iG h)
theorem qe{X:Cx}(ok:X.ok){P:ec}{c:Nat}{k:ClsRec}(h:qd X.K X.tab X.known c k=true):RecOk X P c k:=by
 revert X P c k
 apply aJ;intro
 generalize nx .. =X
 intro ok
 apply aP;intro
 generalize bP .. =P,bS .. =c
 apply aJ;intro
 generalize nx .. =k
 intro h
 simp only[qd,Bool.and_eq_true,List.all_eq_true] at h
 obtain⟨⟨⟨⟨h1,h2⟩,h3⟩,h4⟩,h5⟩:=h
 refine⟨by simpa using h1,h2,?_,?_,fun f e=> ?_⟩
 ·apply aP;intro
  generalize bP .. =n,bS .. =v
  intro e hn
  have:=h3 _ (iG e)
  have hx:X.tab[n]? =some (X.nm n):=by unfold Cx.nm;rw[List.getElem?_eq_getElem hn];rfl
  unfold rK at this
  simp only[hx] at this
  split at this
  ·rename_i a ea
   simp only[Bool.and_eq_true,beq_iff_eq,Bool.not_eq_true'] at this
   exact⟨a,ea,this.1.1.1,this.1.1.2,this.1.2,jc ok this.2⟩
  ·cases this
 ·apply aP;intro
  generalize bP .. =n,bS .. =f
  intro e
  have:=h4 _ (iG e)
  unfold vz at this
  split at this
  ·cases this
  ·rename_i x hx
   have hn:=(List.getElem?_eq_some_iff.mp hx).1
   have:X.nm n=x:=by unfold Cx.nm;rw[hx];rfl
   subst this
   rename_i this
   simp only[Bool.and_eq_true,beq_iff_eq] at this
   exact⟨hn,this.1.1,this.1.2,this.2⟩
 ·rw[e] at h5
  simpa only[Bool.and_eq_true,beq_iff_eq] using h5
theorem pOk_of{X:Cx}(ok:X.ok){P:ec}(h1:X.known.all (p9 X.K P.bad X.tab)=true)(h2:P.pK.all (fun p=>qd X.K X.tab X.known p.1 p.2)=true)(h3:P.bG=X.ns):n9 X P:=by
 rw[List.all_eq_true] at h1 h2
 exact⟨fun c hc=>qc (h1 c hc),fun c k e=>qe ok (h2 _ (iG e)),h3⟩
noncomputable def qf:List Nat:=mh.map (·.1)
theorem c_1(P:Params):qf.all (p9 (KK P) dQ rJ)=true:=by kernel_rfl
theorem c_2(P:Params):mh.all (fun p=>qd (KK P) rJ qf p.1 p.2)=true:=by kernel_rfl
theorem c_3:rJ.Nodup:=by
 have:decide rJ.Nodup=true:=by kernel_rfl
 simpa using this
noncomputable def rL(d:DefRec):Bool:=
 (d.scope.kind == .function && !d.scope.isCoroutine && !d.scope.isGenerator) && (d.params.posonlyargs.isEmpty && d.params.kwonlyargs.isEmpty && d.params.vararg.isNone && d.params.kwarg.isNone) &&
 ((d.params.args.map (·.arg)) == [("self":Str),("reason":Str)]) && d.scope.names.lookup ("self":Str) == some .local && d.scope.names.lookup ("reason":Str) == some .local
theorem e_1(P:Params):(KK P).lookup 36=some (fo (cq 2 0) s8 (.ref 29) (.str s9 194) (.ref 35)):=by kernel_rfl
theorem e_2(P:Params):(codeIn (KK P) (.ref 35) s8 && rL (dH (cq 2 0)))=true:=by kernel_rfl
theorem e_2b:(dH (cq 2 0)).body=[.Assign [.Attribute (.Name "self" ⟨8,8,8,12⟩) "reason" ⟨8,8,8,19⟩] (.Name "reason" ⟨8,22,8,28⟩) ⟨8,8,8,28⟩]:=by kernel_rfl
theorem e_3(P:Params):((findIn (KK P) (.ref 64) "__setattr__" == some (some (.builtin "object.__setattr__"))) && lR (KK P) 64 && (takerIn (KK P) 64 "reason" == some none) && hasDictIn (KK P) 64)=true:=by kernel_rfl
theorem e_4(P:Params):((findIn (KK P) (.ref 64) "__init__" == some (some (.ref 36))) && (typeIn (KK P) (.ref 36) == some (.type "function")) && keepIn (KK P) (.ref 64))=true:=by kernel_rfl
noncomputable def dsC:Option (Value×List Value)→Bool
 |some p=>decide (p.2.length≤2)
 |none=>false
noncomputable def dsChk(K:Frag):Bool:=dsC (kY (K.lookup 29))
theorem e_5(P:Params):dsChk (KK P)=true:=by kernel_rfl
end
section
open PyProof.Rows PySem.Calls PySem.W
set_option backward.match.sparseCases false
set_option genInjectivity false
structure Text(X:Cx)(P:Params):Prop where
 ok:X.ok
 K:X.K=KK P
 tab:X.tab=rJ
 bad:X.bad=64
 known:X.known=qf
section
variable {X:Cx}{P:Params}
theorem pk_of(t:Text X P):n9 X (aO X.ns):=by
 refine pOk_of t.ok ?_ ?_ rfl
 ·rw[t.K,t.tab,t.known];exact c_1 P
 ·rw[t.K,t.tab,t.known];exact c_2 P
theorem init_of(t:Text X P):∃fd,tJ X X.bad 36 fd:=by
 have h2:=e_2 P
 have h3:=e_3 P
 have h5:=e_5 P
 rw[←t.K] at h2 h3 h5
 simp only[Bool.and_eq_true,beq_iff_eq,rL,Bool.not_eq_true',List.isEmpty_iff,Option.isNone_iff_eq_none] at h2 h3
 obtain⟨hc,⟨⟨⟨⟨⟨a1,a2⟩,a3⟩,⟨⟨a4,a5⟩,a6⟩,a7⟩,a8⟩,a9⟩,A3⟩:=h2
 obtain⟨⟨⟨b1,b2⟩,b3⟩,b4⟩:=h3
 refine⟨_,⟨⟨_,by rw[t.K];exact e_1 P,rfl⟩,fun h KI=>codeRec_of KI hc,⟨_,_,_,_,congrArg FuncBody.stmts e_2b⟩,a1,a2,a3,rfl,rfl,rfl,a4,a5,a6,a7,a8,?_,a9,A3,by rw[t.bad];exact b1,by rw[t.bad];exact b2,by rw[t.bad];exact b3,by rw[t.bad];exact b4⟩⟩
 have h5:dsC (kY (X.K.lookup 29))=true:=h5
 cases e:kY (X.K.lookup 29) with
 |none=>rw[e] at h5;exact absurd h5 Bool.false_ne_true
 |some p=>
  rw[e] at h5
  obtain⟨o,n,hl,_,hd⟩:=m8 e
  exact⟨p.2,of_decide_eq_true h5,.inl ⟨29,o,n,rfl,hl,hd⟩⟩
theorem bad_at(P:Params):(KK P).lookup 64=some (cl s17 [.ref 39] [.ref 64,.ref 39,.type "ValueError",.type "Exception",.type "BaseException",.type "object"] 63 [] [some (.ref 55),none,some (.str s17 240),some (.str s17 248),some (.builtin "ValueError.__new__"),some (.bool true)]):=by kernel_rfl
theorem RO_of(t:Text X P):eg X:=by
 have h4:=e_4 P
 rw[←t.K] at h4
 simp only[Bool.and_eq_true,beq_iff_eq] at h4
 obtain⟨⟨c1,c2⟩,c3⟩:=h4
 obtain⟨fd,I⟩:=init_of t
 refine⟨?_,⟨36,fd,by rw[t.bad];exact c1,c2,I⟩,by rw[t.bad];exact c3⟩
 rw[t.K,t.bad]
 refine⟨_,_,_,_,_,_,_,_,_,_,_,_,_,_,_,_,bad_at P,?_⟩
 constructor<;>decide
theorem yf{α:Type}{f:Nat}{Q:α→Prop}:∀r,bB f ([]:List (Nat×α))=some r→Q r:=fun r e=>by cases e
theorem af{α:Type}{f a:Nat}{b:α}{l:List (Nat×α)}{Q:Nat→α→Prop}(h1:Q a b)(h2:∀r,bB f l=some r→Q f r):∀r,bB f ((a,b)::l)=some r→Q f r:=fun r e=>by
 rw[fF] at e
 split at e
 ·rename_i q;subst q;cases e;exact h1
 ·exact h2 r e
def ax(X:Cx)(f:Nat)(r:iP):Prop:=∃fd body names ν,xI X (aO X.ns) f r fd body names ν
theorem gl_1(P:Params):A1 (KK P) 64 p6=true:=by kernel_rfl
theorem aF{f:Nat}{r:iP}(t:Text X P)(st:Stmt)(qual:Str)(dflt md:Value)(code:Addr)(ν:Nu)(hl:(KK P).lookup f=some (fo st qual dflt md (.ref code)))
  (hk:(codeIn (KK P) (.ref code) qual && (A2 (dH st) r ν && (p7 (KK P) r.dflt dflt && A0 ν)))=true) (ht:ow ⟨rJ,(dH st).scope.names,ν,p6⟩ 60 (dH st).body=some r.body):ax X f r:=by
 have k:=Bool.and_eq_true_iff.mp hk
 have k1:=Bool.and_eq_true_iff.mp k.2
 have k2:=Bool.and_eq_true_iff.mp k1.2
 have kk:=t.K
 have kb:=t.bad
 exact fn_of t.ok (T:=⟨rJ,(dH st).scope.names,ν,p6⟩) (pk_of t) (RO_of t) (by rw[kk];exact hl) (by rw[kk];exact k.1) k1.1 (by rw[kk];exact k2.1) ht rfl t.tab k2.2 (by rw[kk,kb];exact gl_1 P)
theorem f_89(t:Text X P):ax X 89 ⟨3,3,[],b89⟩:=aF t (aR 12) s22 .none (.str jX 272) 88 [(qD,0),(s20,1),(s21,2)] (by kernel_rfl) (by kernel_rfl) (by kernel_rfl)
theorem f_96(t:Text X P):ax X 96 ⟨1,1,[],b96⟩:=aF t (aR 13) s24 .none (.str jX 272) 95 [(qD,0)] (by kernel_rfl) (by kernel_rfl) (by kernel_rfl)
theorem f_103(t:Text X P):ax X 103 ⟨1,1,[],b103⟩:=aF t (aR 14) s25 .none (.str jX 272) 102 [(qD,0)] (by kernel_rfl) (by kernel_rfl) (by kernel_rfl)
theorem f_110(t:Text X P):ax X 110 ⟨1,1,[],b110⟩:=aF t (aR 15) s26 .none (.str jX 272) 109 [(qD,0)] (by kernel_rfl) (by kernel_rfl) (by kernel_rfl)
theorem f_145(t:Text X P):ax X 145 ⟨2,3,[],b145⟩:=aF t (aR 21) s45 .none (.str jX 272) 144 [(s42,0),(s43,1),(s44,2)] (by kernel_rfl) (by kernel_rfl) (by kernel_rfl)
theorem f_174(t:Text X P):ax X 174 ⟨6,6,[(.int 0),(.int 0),(.int 0),(.int 0),(.int 0)],b174⟩:=aF t (cq 24 0) s55 (.ref 167) (.str jX 272) 173 [(s5,0),(lX,1),(Cn,2),(s52,3),(s53,4),(s54,5)] (by kernel_rfl) (by kernel_rfl) (by kernel_rfl)
theorem f_181(t:Text X P):ax X 181 ⟨1,1,[],b181⟩:=aF t (cq 24 1) s57 .none (.str jX 272) 180 [(s5,0)] (by kernel_rfl) (by kernel_rfl) (by kernel_rfl)
theorem f_262(t:Text X P):ax X 262 ⟨1,2,[],b262⟩:=aF t (aR 32) s76 .none (.str gP 492) 261 [(lL,0),(qE,1)] (by kernel_rfl) (by kernel_rfl) (by kernel_rfl)
theorem f_276(t:Text X P):ax X 276 ⟨6,6,[],b276⟩:=aF t (cq 33 0) s81 .none (.str gP 492) 275 [(s5,0),(qF,1),(lX,2),(s79,3),(B5,4),(lL,5)] (by kernel_rfl) (by kernel_rfl) (by kernel_rfl)
theorem f_297(t:Text X P):ax X 297 ⟨4,5,[],b297⟩:=aF t (cq 34 1) s85 .none (.str gP 492) 296 [(s5,0),(lX,1),(s79,2),(B5,3),(qG,4)] (by kernel_rfl) (by kernel_rfl) (by kernel_rfl)
theorem f_318(t:Text X P):ax X 318 ⟨3,3,[],b318⟩:=aF t (cq 35 1) s88 .none (.str gP 492) 317 [(s5,0),(lX,1),(lM,2)] (by kernel_rfl) (by kernel_rfl) (by kernel_rfl)
theorem f_340(t:Text X P):ax X 340 ⟨4,4,[.none],b340⟩:=aF t (cq 36 1) s92 (.ref 333) (.str gP 492) 339 [(s5,0),(s90,1),(lM,2),(s91,3)] (by kernel_rfl) (by kernel_rfl) (by kernel_rfl)
theorem f_361(t:Text X P):ax X 361 ⟨2,2,[],b361⟩:=aF t (cq 37 1) s94 .none (.str gP 492) 360 [(s5,0),(qD,1)] (by kernel_rfl) (by kernel_rfl) (by kernel_rfl)
theorem f_382(t:Text X P):ax X 382 ⟨4,4,[],b382⟩:=aF t (cq 38 1) s99 .none (.str gP 492) 381 [(s5,0),(s96,1),(s97,2),(s98,3)] (by kernel_rfl) (by kernel_rfl) (by kernel_rfl)
theorem f_403(t:Text X P):ax X 403 ⟨2,2,[],b403⟩:=aF t (cq 39 1) s102 .none (.str gP 492) 402 [(s5,0),(Co,1)] (by kernel_rfl) (by kernel_rfl) (by kernel_rfl)
theorem f_424(t:Text X P):ax X 424 ⟨7,7,[],b424⟩:=aF t (cq 40 1) s106 .none (.str gP 492) 423 [(s5,0),(Cm,1),(qG,2),(B5,3),(Cp,4),(sL,5),(lL,6)] (by kernel_rfl) (by kernel_rfl) (by kernel_rfl)
theorem f_445(t:Text X P):ax X 445 ⟨2,2,[],b445⟩:=aF t (cq 41 1) s108 .none (.str gP 492) 444 [(s5,0),(lL,1)] (by kernel_rfl) (by kernel_rfl) (by kernel_rfl)
theorem f_466(t:Text X P):ax X 466 ⟨3,3,[],b466⟩:=aF t (cq 42 1) s111 .none (.str gP 492) 465 [(s5,0),(Cq,1),(lX,2)] (by kernel_rfl) (by kernel_rfl) (by kernel_rfl)
theorem f_487(t:Text X P):ax X 487 ⟨2,3,[],b487⟩:=aF t (cq 43 2) s115 .none (.str gP 492) 486 [(s5,0),(Cr,1),(s114,2)] (by kernel_rfl) (by kernel_rfl) (by kernel_rfl)
theorem f_499(t:Text X P):ax X 499 ⟨1,3,[],b499⟩:=aF t (aR 44) vX .none (.str gP 492) 498 [(qE,0),(qF,1),(s35,2)] (by kernel_rfl) (by kernel_rfl) (by kernel_rfl)
theorem f_526(t:Text X P):ax X 526 ⟨6,8,[(.int 0),(.int 1),(.tup []),(.int 0)],b526⟩:=aF t (cq 52 0) s118 (.ref 521) (.str bK 944) 525 [(s5,0),(lX,1),(s127,2),(s126,3),(s129,4),(yY,5),(s212,6),(sN,7)] (by kernel_rfl) (by kernel_rfl) (by kernel_rfl)
theorem f_533(t:Text X P):ax X 533 ⟨1,1,[],b533⟩:=aF t (cq 52 1) s121 .none (.str bK 944) 532 [(s5,0)] (by kernel_rfl) (by kernel_rfl) (by kernel_rfl)
theorem f_540(t:Text X P):ax X 540 ⟨2,3,[],b540⟩:=aF t (cq 52 2) s124 .none (.str bK 944) 539 [(s5,0),(Cm,1),(s122,2)] (by kernel_rfl) (by kernel_rfl) (by kernel_rfl)
theorem f_561(t:Text X P):ax X 561 ⟨1,1,[],b561⟩:=aF t (cq 53 0) s131 .none (.str bK 944) 560 [(s5,0)] (by kernel_rfl) (by kernel_rfl) (by kernel_rfl)
theorem f_582(t:Text X P):ax X 582 ⟨6,6,[],b582⟩:=aF t (cq 54 0) s149 .none (.str bK 944) 581 [(s5,0),(qI,1),(qH,2),(vY,3),(vZ,4),(Cv,5)] (by kernel_rfl) (by kernel_rfl) (by kernel_rfl)
theorem f_603(t:Text X P):ax X 603 ⟨6,6,[],b603⟩:=aF t (cq 55 0) s156 .none (.str bK 944) 602 [(s5,0),(d8,1),(nY,2),(Cw,3),(sM,4),(lY,5)] (by kernel_rfl) (by kernel_rfl) (by kernel_rfl)
theorem f_617(t:Text X P):ax X 617 ⟨1,2,[],b617⟩:=aF t (aR 56) wa .none (.str bK 944) 616 [(d8,0),(qD,1)] (by kernel_rfl) (by kernel_rfl) (by kernel_rfl)
theorem f_624(t:Text X P):ax X 624 ⟨1,1,[],b624⟩:=aF t (aR 57) wc .none (.str bK 944) 623 [(qE,0)] (by kernel_rfl) (by kernel_rfl) (by kernel_rfl)
theorem f_631(t:Text X P):ax X 631 ⟨2,10,[],b631⟩:=aF t (aR 58) wd .none (.str bK 944) 630 [(lL,0),(d8,1),(nS,2),(s161,3),(s162,4),(pC,5),(qE,6),(qF,7),(qJ,8),(lM,9)] (by kernel_rfl) (by kernel_rfl) (by kernel_rfl)
theorem f_638(t:Text X P):ax X 638 ⟨2,2,[],b638⟩:=aF t (aR 59) we .none (.str bK 944) 637 [(lL,0),(pC,1)] (by kernel_rfl) (by kernel_rfl) (by kernel_rfl)
theorem f_645(t:Text X P):ax X 645 ⟨2,2,[],b645⟩:=aF t (aR 60) wh .none (.str bK 944) 644 [(wg,0),(s90,1)] (by kernel_rfl) (by kernel_rfl) (by kernel_rfl)
theorem f_652(t:Text X P):ax X 652 ⟨1,3,[],b652⟩:=aF t (aR 61) sN .none (.str bK 944) 651 [(lL,0),(nS,1),(qE,2)] (by kernel_rfl) (by kernel_rfl) (by kernel_rfl)
theorem f_659(t:Text X P):ax X 659 ⟨1,4,[],b659⟩:=aF t (aR 62) wj .none (.str bK 944) 658 [(lL,0),(wg,1),(nS,2),(qE,3)] (by kernel_rfl) (by kernel_rfl) (by kernel_rfl)
theorem f_666(t:Text X P):ax X 666 ⟨2,2,[],b666⟩:=aF t (aR 63) wk .none (.str bK 944) 665 [(qK,0),(s40,1)] (by kernel_rfl) (by kernel_rfl) (by kernel_rfl)
theorem f_673(t:Text X P):ax X 673 ⟨2,10,[],b673⟩:=aF t (aR 64) wm .none (.str bK 944) 672 [(lL,0),(d8,1),(qK,2),(nS,3),(pC,4),(qJ,5),(lM,6),(s173,7),(s174,8),(sO,9)] (by kernel_rfl) (by kernel_rfl) (by kernel_rfl)
theorem f_680(t:Text X P):ax X 680 ⟨2,3,[],b680⟩:=aF t (aR 65) wo .none (.str bK 944) 679 [(d8,0),(Cy,1),(wg,2)] (by kernel_rfl) (by kernel_rfl) (by kernel_rfl)
theorem f_685(t:Text X P):ax X 685 ⟨3,4,[],b685⟩:=aF t (aR 66) wq .none (.str bK 944) 684 [(s174,0),(sO,1),(sM,2),(s0,3)] (by kernel_rfl) (by kernel_rfl) (by kernel_rfl)
theorem f_692(t:Text X P):ax X 692 ⟨2,4,[],b692⟩:=aF t (aR 67) wu .none (.str bK 944) 691 [(lX,0),(qK,1),(s180,2),(wt,3)] (by kernel_rfl) (by kernel_rfl) (by kernel_rfl)
theorem f_699(t:Text X P):ax X 699 ⟨3,5,[],b699⟩:=aF t (aR 68) wx .none (.str bK 944) 698 [(d8,0),(wt,1),(qJ,2),(sL,3),(nS,4)] (by kernel_rfl) (by kernel_rfl) (by kernel_rfl)
theorem f_706(t:Text X P):ax X 706 ⟨4,5,[],b706⟩:=aF t (aR 69) wy .none (.str bK 944) 705 [(d8,0),(Cz,1),(CA,2),(nZ,3),(nS,4)] (by kernel_rfl) (by kernel_rfl) (by kernel_rfl)
theorem f_713(t:Text X P):ax X 713 ⟨4,23,[],b713⟩:=aF t (aR 70) wA .none (.str bK 944) 712 [(CB,0),(qI,1),(CC,2),(CA,3),(pC,4),(qJ,5),(lM,6),(sO,7),(d8,8),(s189,9),(CD,10),(s191,11),(Cm,12),(wz,13),(qH,14),(qK,15),(wt,16),(vY,17),(s193,18),(vZ,19),(Cz,20),(s194,21),(s195,22)] (by kernel_rfl) (by kernel_rfl) (by kernel_rfl)
theorem f_720(t:Text X P):ax X 720 ⟨2,8,[],b720⟩:=aF t (aR 71) wB .none (.str bK 944) 719 [(s197,0),(Cs,1),(CD,2),(wz,3),(nS,4),(nZ,5),(s198,6),(s199,7)] (by kernel_rfl) (by kernel_rfl) (by kernel_rfl)
theorem f_727(t:Text X P):ax X 727 ⟨1,2,[],b727⟩:=aF t (aR 72) wC .none (.str bK 944) 726 [(wz,0),(nS,1)] (by kernel_rfl) (by kernel_rfl) (by kernel_rfl)
theorem f_734(t:Text X P):ax X 734 ⟨6,12,[],b734⟩:=aF t (aR 73) wD .none (.str bK 944) 733 [(lL,0),(d8,1),(nY,2),(Cu,3),(Cy,4),(lY,5),(sM,6),(CB,7),(CC,8),(qI,9),(nS,10),(nZ,11)] (by kernel_rfl) (by kernel_rfl) (by kernel_rfl)
theorem f_741(t:Text X P):ax X 741 ⟨1,4,[],b741⟩:=aF t (aR 75) wF .none (.str dn 1346) 740 [(CE,0),(s30,1),(s204,2),(s35,3)] (by kernel_rfl) (by kernel_rfl) (by kernel_rfl)
theorem f_748(t:Text X P):ax X 748 ⟨2,3,[],b748⟩:=aF t (aR 76) wG .none (.str dn 1346) 747 [(fq,0),(CF,1),(s209,2)] (by kernel_rfl) (by kernel_rfl) (by kernel_rfl)
theorem f_755(t:Text X P):ax X 755 ⟨1,2,[],b755⟩:=aF t (aR 77) wH .none (.str dn 1346) 754 [(fq,0),(nS,1)] (by kernel_rfl) (by kernel_rfl) (by kernel_rfl)
theorem f_762(t:Text X P):ax X 762 ⟨1,6,[],b762⟩:=aF t (aR 78) wJ .none (.str dn 1346) 761 [(fq,0),(lM,1),(qG,2),(yY,3),(s212,4),(s213,5)] (by kernel_rfl) (by kernel_rfl) (by kernel_rfl)
theorem f_769(t:Text X P):ax X 769 ⟨4,4,[],b769⟩:=aF t (aR 79) wK .none (.str dn 1346) 768 [(jk,0),(qE,1),(sP,2),(s217,3)] (by kernel_rfl) (by kernel_rfl) (by kernel_rfl)
theorem f_776(t:Text X P):ax X 776 ⟨2,4,[],b776⟩:=aF t (aR 80) wM .none (.str dn 1346) 775 [(fq,0),(qG,1),(s219,2),(nZ,3)] (by kernel_rfl) (by kernel_rfl) (by kernel_rfl)
theorem f_783(t:Text X P):ax X 783 ⟨1,2,[],b783⟩:=aF t (aR 81) wN .none (.str dn 1346) 782 [(fq,0),(lM,1)] (by kernel_rfl) (by kernel_rfl) (by kernel_rfl)
theorem f_790(t:Text X P):ax X 790 ⟨4,9,[],b790⟩:=aF t (aR 82) wO .none (.str dn 1346) 789 [(fq,0),(jk,1),(d8,2),(s222,3),(qG,4),(lM,5),(qE,6),(sP,7),(s223,8)] (by kernel_rfl) (by kernel_rfl) (by kernel_rfl)
theorem f_797(t:Text X P):ax X 797 ⟨4,14,[],zp⟩:=aF t (aR 83) wQ .none (.str dn 1346) 796 [(fq,0),(jk,1),(s225,2),(s226,3),(qE,4),(lM,5),(qG,6),(Cn,7),(yR,8),(s53,9),(s54,10),(sP,11),(s227,12),(s228,13)] (by kernel_rfl) (by kernel_rfl) (by kernel_rfl)
theorem f_804(t:Text X P):ax X 804 ⟨1,4,[],b804⟩:=aF t (aR 84) wR .none (.str dn 1346) 803 [(fq,0),(qG,1),(Cn,2),(yR,3)] (by kernel_rfl) (by kernel_rfl) (by kernel_rfl)
theorem f_811(t:Text X P):ax X 811 ⟨3,4,[],b811⟩:=aF t (aR 85) wU .none (.str dn 1346) 810 [(fq,0),(jk,1),(s231,2),(s40,3)] (by kernel_rfl) (by kernel_rfl) (by kernel_rfl)
theorem f_816(t:Text X P):ax X 816 ⟨3,10,[],b816⟩:=aF t (aR 86) wV .none (.str dn 1346) 815 [(fq,0),(jk,1),(d8,2),(n221,3),(n222,4),(n223,5),(sL,6),(sP,7),(s245,8),(qG,9)] (by kernel_rfl) (by kernel_rfl) (by kernel_rfl)
theorem f_823(t:Text X P):ax X 823 ⟨3,4,[],b823⟩:=aF t (aR 87) wW .none (.str dn 1346) 822 [(fq,0),(jk,1),(d8,2),(lM,3)] (by kernel_rfl) (by kernel_rfl) (by kernel_rfl)
theorem f_830(t:Text X P):ax X 830 ⟨2,4,[],b830⟩:=aF t (aR 88) wX .none (.str dn 1346) 829 [(s235,0),(s58,1),(s236,2),(s237,3)] (by kernel_rfl) (by kernel_rfl) (by kernel_rfl)
theorem f_837(t:Text X P):ax X 837 ⟨5,7,[],b837⟩:=aF t (aR 89) wY .none (.str dn 1346) 836 [(s239,0),(d8,1),(nY,2),(CG,3),(lY,4),(s241,5),(s242,6)] (by kernel_rfl) (by kernel_rfl) (by kernel_rfl)
theorem f_842(t:Text X P):ax X 842 ⟨4,5,[],b842⟩:=aF t (aR 90) wZ .none (.str dn 1346) 841 [(jk,0),(s246,1),(nS,2),(lY,3),(pC,4)] (by kernel_rfl) (by kernel_rfl) (by kernel_rfl)
theorem f_849(t:Text X P):ax X 849 ⟨1,11,[],w5⟩:=aF t (aR 91) zd .none (.str dn 1346) 848 [(CE,0),(fq,1),(CF,2),(d8,3),(nY,4),(CG,5),(jk,6),(sO,7),(s245,8),(lY,9),(s246,10)] (by kernel_rfl) (by kernel_rfl) (by kernel_rfl)
theorem fn_all(t:Text X P):∀f r,bB f (aO X.ns).fns=some r→ax X f r:=by
 intro f
 show ∀r,bB f zq=some r→ax X f r
 unfold zq
 refine af (Q:=ax X) (f_89 t) ?_
 refine af (Q:=ax X) (f_96 t) ?_
 refine af (Q:=ax X) (f_103 t) ?_
 refine af (Q:=ax X) (f_110 t) ?_
 refine af (Q:=ax X) (f_145 t) ?_
 refine af (Q:=ax X) (f_174 t) ?_
 refine af (Q:=ax X) (f_181 t) ?_
 refine af (Q:=ax X) (f_262 t) ?_
 refine af (Q:=ax X) (f_276 t) ?_
 refine af (Q:=ax X) (f_297 t) ?_
 refine af (Q:=ax X) (f_318 t) ?_
 refine af (Q:=ax X) (f_340 t) ?_
 refine af (Q:=ax X) (f_361 t) ?_
 refine af (Q:=ax X) (f_382 t) ?_
 refine af (Q:=ax X) (f_403 t) ?_
 refine af (Q:=ax X) (f_424 t) ?_
 refine af (Q:=ax X) (f_445 t) ?_
 refine af (Q:=ax X) (f_466 t) ?_
 refine af (Q:=ax X) (f_487 t) ?_
 refine af (Q:=ax X) (f_499 t) ?_
 refine af (Q:=ax X) (f_526 t) ?_
 refine af (Q:=ax X) (f_533 t) ?_
 refine af (Q:=ax X) (f_540 t) ?_
 refine af (Q:=ax X) (f_561 t) ?_
 refine af (Q:=ax X) (f_582 t) ?_
 refine af (Q:=ax X) (f_603 t) ?_
 refine af (Q:=ax X) (f_617 t) ?_
 refine af (Q:=ax X) (f_624 t) ?_
 refine af (Q:=ax X) (f_631 t) ?_
 refine af (Q:=ax X) (f_638 t) ?_
 refine af (Q:=ax X) (f_645 t) ?_
 refine af (Q:=ax X) (f_652 t) ?_
 refine af (Q:=ax X) (f_659 t) ?_
 refine af (Q:=ax X) (f_666 t) ?_
 refine af (Q:=ax X) (f_673 t) ?_
 refine af (Q:=ax X) (f_680 t) ?_
 refine af (Q:=ax X) (f_685 t) ?_
 refine af (Q:=ax X) (f_692 t) ?_
 refine af (Q:=ax X) (f_699 t) ?_
 refine af (Q:=ax X) (f_706 t) ?_
 refine af (Q:=ax X) (f_713 t) ?_
 refine af (Q:=ax X) (f_720 t) ?_
 refine af (Q:=ax X) (f_727 t) ?_
 refine af (Q:=ax X) (f_734 t) ?_
 refine af (Q:=ax X) (f_741 t) ?_
 refine af (Q:=ax X) (f_748 t) ?_
 refine af (Q:=ax X) (f_755 t) ?_
 refine af (Q:=ax X) (f_762 t) ?_
 refine af (Q:=ax X) (f_769 t) ?_
 refine af (Q:=ax X) (f_776 t) ?_
 refine af (Q:=ax X) (f_783 t) ?_
 refine af (Q:=ax X) (f_790 t) ?_
 refine af (Q:=ax X) (f_797 t) ?_
 refine af (Q:=ax X) (f_804 t) ?_
 refine af (Q:=ax X) (f_811 t) ?_
 refine af (Q:=ax X) (f_816 t) ?_
 refine af (Q:=ax X) (f_823 t) ?_
 refine af (Q:=ax X) (f_830 t) ?_
 refine af (Q:=ax X) (f_837 t) ?_
 refine af (Q:=ax X) (f_842 t) ?_
 refine af (Q:=ax X) (f_849 t) ?_
 exact yf
theorem co_of(t:Text X P):∀n,dS X (aO X.ns) n
 |0=>fun f A l s W H args us R E e=>by rw[sS] at e;exact e.elim
 |n+1=>rB (fn_all t) (co_of t n)
end
end
section
open PyProof.Rows PySem.Calls PySem.W
theorem rM{xs:List WData}:WShape.hasItems [] xs .int=true→∃ns:List Int,xs=ns.map WData.int:=by
 induction xs with
 |nil=>exact fun _=>⟨[],rfl⟩
 |cons x r ih=>
  intro h
  have h:=Bool.and_eq_true_iff.mp (show(WShape.has [] x .int && WShape.hasItems [] r .int)=true from h)
  exact(hasW_int h.1).elim fun i e=>(ih h.2).elim fun ns q=>⟨i::ns,by rw[e,q];rfl⟩
theorem A4{ns:List Int}(h2:WTm.holds [] (.and (.not (.lt (.lit (.int 63)) (.len (.arg 0)))) (.lit (.bool true))) {args:=[.list (ns.map WData.int)]}=true):ns.length≤63:=by
 have h2:(fun b:Bool=>WTm.holds [] (.and (.lit (.bool (!b))) (.lit (.bool true))) ⟨[],none,[],[]⟩) (decide ((63:Int)<(((ns.map WData.int).length:Nat):Int)))=true:=h2
 rw[List.length_map] at h2
 cases e:decide ((63:Int)<(ns.length:Nat)) with
 |true=>rw[e] at h2;exact nomatch (show false=true from h2)
 |false=>exact Int.ofNat_le.mp (Int.not_lt.mp (of_decide_eq_false e))
theorem pre_len{args:List WData}(h:rw0.row.toRowW.claim.pre args=true):∃ns:List Int,args=[.list (ns.map WData.int)]∧ns.length≤63:=by
 obtain⟨h1,h2⟩:=pre_splitW h
 obtain⟨d,r,rfl,h4,h3⟩:=hasAllW_cons (R:=[]) (es:=[]) (e:=.list .int) h1
 cases hasAllW_nil h3
 obtain⟨xs,rfl,h5⟩:=hasW_list h4
 obtain⟨ns,rfl⟩:=rM h5
 exact⟨ns,rfl,A4 h2⟩
theorem tY{cl:Str→Option Addr}{h:Heap}{ns:List Int}:∀{vs:List Value} {as:List Addr},ReadsAllW [] cl h vs (ns.map WData.int) as→IntsAre vs ns:=by
 induction ns with
 |nil=>exact fun r=>(readsAllW_nil_inv r).1▸.nil
 |cons n ns ih=>
  intro _ _ r
  obtain⟨v,vs,a,b,rfl,_,h,t⟩:=readsAllW_cons_inv r
  obtain⟨t,rfl,_⟩:=readsW_int_inv h
  exact .cons _ _ (ih ‹_›)
theorem law_at(P:Params):nsIn (KK P) mainGlobals ("law":Str)=some (some (.ref 849)):=by kernel_rfl
theorem A5:pF.name=("law":Str):=by kernel_rfl
theorem holds_of(main:∀ns:List Int,ns.length≤63→aj (aO ns) 20 849 [.bG] [] (fun v _=>v=.bool true) nE):PySem.Challenge.rw_tu0007_01.Holds:=by
 refine head ?_
 apply aN;intro
 generalize bM .. =w,bN .. =eR,bQ .. =bc,bR .. =mg
 intro mb G Y a o pm cd doc dV kV ha ho hcd hdf hm hg args vals as hpre hlay hrd hwl hlo
 obtain⟨ns,rfl,hn⟩:=pre_len hpre
 have run:=main ns hn
 have hrd:ReadsAllW [] (classAt eR.heap) bc.heap vals [.list (ns.map WData.int)] as:=hrd
 have e849:a=849:=by
  have:=mg_of Y G.T.g (law_at w.params)
  rw[A5,this] at hm
  cases hm;rfl
 subst e849
 obtain⟨v,vs,b,bs,rfl,-,hv,hvs⟩:=readsAllW_cons_inv hrd
 obtain rfl:=(readsAllW_nil_inv hvs).1
 obtain⟨l,ol,sT,n,ai,rfl,g1,g2,g3,g4,-⟩:=readsW_list_open hv
 have hi:=tY g4
 let X:Cx:=⟨rw0.row.toRowW.prog,w,KK w.params,q,looseW q loose,bc.heap,mg,mb,ns,rJ,64,qf,True,fun _=>Y,fun _=>topRead_of G.T,fun _=>c_3,fun _=>by omega⟩
 have t:Text X w.params:=⟨trivial,rfl,rfl,rfl,rfl⟩
 have co:dS X (aO ns) 20:=co_of t 20
 have R₀:HR X ⟨bc.heap.get?,[]⟩ [] bc.heap:=⟨rfl,fun i p o e=>by simp at e,fun i j p q _ e=>by simp at e,fun a o e=>e,fun p hp=>(by simp at hp),fun a o e=>e,trivial⟩
 have ak:AOkC callerA [] 20:=⟨rfl,rfl,by decide,by decide⟩
 have hc:=co 849 callerA [] bc ⟨bc.heap.get?,[]⟩ [] [.bG] [.ref l] _ _ run R₀ (Nat.le_refl _) (fun e he=>by cases he) (.cons (.bG l ol n sT.toList g1 g2 (by simpa using g3) hi) .nil) ak
 refine wpAny_call (codeAny_mono hc fun res s' c=> ?_)
 have key:res=.ok (.ret (.bool true))∧GoodWG rw0.row.toRowW.claim (classAt eR.heap) (ExcName.means eR.heap) [.list (ns.map WData.int)] bc res s':=by
  rcases c.el with⟨u,v,H',W',rfl,S,R,vr,q,rfl⟩|⟨_,_,_,_,_,_,c1⟩
  ·skip
   cases vr
   refine⟨rfl,GoodW.toG ⟨.inl ⟨.bool true,.bool true,[],rfl,fun cls=>rfl,.bool true,?_,fun _=>⟨List.nodup_nil,fun a ha=>by cases ha⟩⟩,fun b o e=>S.keep b o e (fun⟨p,hp,_⟩=>by cases hp) (by simp[Fs]),q.2.2,q.1.trans hg⟩⟩
   show(WShape.has [] (.bool true) .bool && WTm.holds [] (.eq .res (.lit (.bool true))) {args:=[.list (ns.map WData.int)],res:=some (.bool true),after:=[.list (ns.map WData.int)]})=true
   exact Bool.and_eq_true_iff.mpr ⟨rfl,congrArg (fun b=>WTm.holds [] (.lit (.bool b)) ⟨[],none,[],[]⟩) (same_self (.bool true))⟩
  ·exact c1.ask.elim
 obtain⟨rfl,g⟩:=key
 exact g
end
section
open PyProof
theorem exK{α:Type}(i:Nonempty α)(P:α→Prop):∃x,P x→∀y,P y:=
 (Classical.em (∀y,P y)).elim (fun h=>i.elim fun x=>⟨x,fun _=>h⟩) fun h=>(Classical.not_forall.mp h).elim fun x n=>⟨x,fun p=>absurd p n⟩
noncomputable def nxK{α:Type}[i:Nonempty α](P:α→Prop):α:=Classical.choose (exK i P)
theorem nxK_all{α:Type}[i:Nonempty α]{P:α→Prop}(h:P (nxK P)):∀x,P x:=Classical.choose_spec (exK i P) h
section
variable {α:Type}[Nonempty α](F:α→PV)(G:α→aa→Prop→Prop)(R:PV→aa→Prop)
noncomputable def cc:α×aa:=nxK fun p:α×aa=>G p.1 p.2 (R (F p.1) p.2)
noncomputable def ca:α:=(cc F G R).1
noncomputable def cb:aa:=(cc F G R).2
def Kt:Prop:=G (ca F G R) (cb F G R) (R (F (ca F G R)) (cb F G R))
end
theorem kt{α:Type}[Nonempty α]{F:α→PV}{G:α→aa→Prop→Prop}{R:PV→aa→Prop}(h:Kt F G R)(a:α)(H:aa):G a H (R (F a) H):=nxK_all (P:=fun p:α×aa=>G p.1 p.2 (R (F p.1) p.2)) h (a,H)
theorem oZ{α:Type}[Nonempty α]{F:α→PV}{G:α→aa→Prop→Prop}{R:PV→aa→Prop}(h:∀a H,G a H (R (F a) H)):Kt F G R:=h _ _
noncomputable def ep{α:Type}[Nonempty α](P:α→Prop):α:=Classical.epsilon P
theorem ex1{α:Type}[Nonempty α]{P:α→Prop}(h:∃x,P x):P (ep P):=Classical.epsilon_spec h
noncomputable abbrev frm(np m:Nat)(vs:List PV):Loc:=vs.map some++List.replicate (m - np) none
section
variable {P:ec}{n f:Nat}{args:List PV}{H:aa}{R:PV→aa→Prop}{E:XK→aa→Prop}
theorem o5{vs:List PV}{np m:Nat}{d:List PV}{b:cp}(hl:bB f P.fns=some ⟨np,m,d,b⟩)(hf:jm ⟨np,m,d,b⟩ args=some vs)
  (h:wSs P (aj P n) b (frm np m vs) H (fP R) (fun _ _ H=>E .flying H)):Wc (aj P (n+1) f args H) R E:=by
 refine .of ?_
 rw[mz]
 unfold qO
 rw[hl];dsimp only
 rw[hf]
 exact h
theorem aS{np m:Nat}{b:cp}(hl:bB f P.fns=some ⟨np,m,[],b⟩)(hf:args.length=np)
  (h:wSs P (aj P n) b (frm np m args) H (fP R) (fun _ _ H=>E .flying H)):Wc (aj P (n+1) f args H) R E:=by
 subst hf
 refine o5 hl ?_ h
 unfold jm
 rw[if_pos ⟨Nat.le_refl _,Nat.le_refl _⟩,List.drop_nil,List.append_nil]
theorem make{c f:Nat}{a:List (Nat×PV)}{ms:List (Nat×Nat)}{args:List PV}{call:Nat→List PV→aa→RP}(hl:bB c P.pK=some ⟨some f,a,ms⟩)
  (h:Wc (call f (.ref H.length::args) (H++[.inst c []])) (mkQ R H.length) nE):Wc (cA P call c args H) R E:=by
 refine .of ?_
 unfold cA
 rw[hl]
 exact h.el
end
theorem aX{H:aa}{o:aH}:(H++[o])[H.length]? =some o:=List.getElem?_concat_length
theorem getset{H:aa}{i:Nat}{o x:aH}(h:H[i]? =some x):(H.set i o)[i]? =some o:=List.getElem?_set_self (List.getElem?_eq_some_iff.mp h).1
theorem bz{H:aa}{i j:Nat}{o:aH}(h:i≠j):(H.set i o)[j]? =H[j]? :=List.getElem?_set_ne h
theorem nc{H:aa}{x y:aH}:(H++[x]).set H.length y=H++[y]:=by
 rw[List.set_append_right _ _ (Nat.le_refl _),Nat.sub_self];rfl
section
variable {ns:List Int}{n:Nat}{H:aa}{Q:QL}{E:EL}{loc:Loc}
theorem aB{c:Nat}{fs:List (Nat×PV)}{v:PV}{k:aa→Prop}(g:k (H++[.inst c (putN n v fs)]))(hb:dQ.contains (c,n)=false:=by rfl)(hf:Nat.ble 100 fs.length=false:=by rfl):
  WO (dX (aO ns) (H++[.inst c fs]) (.ref H.length) n v) k:=by
 refine .of (a:=H++[.inst c (putN n v fs)]) ?_ g
 have hf:fs.length<100:=Nat.lt_of_not_le fun h=>by rw[Nat.ble_eq_true_of_le h] at hf;cases hf
 unfold dX
 simp only[aX]
 rw[show(aO ns).bad=dQ from rfl,hb,if_neg (by decide),if_pos hf,nc]
theorem getNew{c:Nat}{fs:List (Nat×PV)}{v:PV}{k:PV→Prop}(h:bB n fs=some v)(g:k v)(hb:dQ.contains (c,n)=false:=by rfl):
  WO (g7 (aO ns) (H++[.inst c fs]) (.ref H.length) n) k:=by
 refine .of (a:=v) ?_ g
 show jZ _ _ _=_
 rw[aX]
 show(if _ then _ else _)=_
 rw[show(aO ns).bad=dQ from rfl,hb,if_neg (by decide),h]
theorem WP.or{a b A B:Prop}(h:a∨b→A)(g:¬a→¬b→B):WP a A (WP b A B):=.of (fun x=>h (.inl x)) fun x=>.of (fun y=>h (.inr y)) (g x)
theorem WP.or3{a b c A B:Prop}(h:a∨b∨c→A)(g:¬a→¬b→¬c→B):WP a A (WP b A (WP c A B)):=.of (fun x=>h (.inl x)) fun x=>.or (fun y=>h (.inr y)) (g x)
theorem WP.or5{a b c d e A B:Prop}(h:a∨b∨c∨d∨e→A)(g:¬a→¬b→¬c→¬d→¬e→B):WP a A (WP b A (WP c A (WP d A (WP e A B)))):=.of (fun x=>h (.inl x)) fun x=>.of (fun y=>h (.inr (.inl y))) fun y=>.or3 (fun z=>h (.inr (.inr z))) (g x y)
theorem WP.and{a b A B:Prop}(h:a→b→A)(g:¬(a∧b)→B):WP a (WP b A B) B:=.of (fun x=>.of (h x) fun y=>g fun z=>y z.2) fun x=>g fun z=>x z.1
theorem WP.and3{a b c A B:Prop}(h:a→b→c→A)(g:¬(a∧b∧c)→B):WP a (WP b (WP c A B) B) B:=.of (fun x=>.and (h x) fun y=>g fun z=>y z.2) fun x=>g fun z=>x z.1
theorem WP.iff{a b A B:Prop}(e:a↔b)(h:WP b A B):WP a A B:=.of (fun x=>h.el.1 (e.mp x)) fun x=>h.el.2 fun y=>x (e.mpr y)
theorem nxt{P:ec}{call:Nat→List PV→aa→RP}{b:cp}{s:IS}{r:cp}(h:wS P call s loc H (mj Q fun loc H=>wSs P call r loc H Q E) E)(hb:b=.cons s r:=by rfl):wSs P call b loc H Q E:=by subst hb;exact h
theorem cut{P:ec}{call:Nat→List PV→aa→RP}{s:IS}{r:cp}{σ:Type}(L:σ→Loc)(M:σ→aa)(J:σ→Prop)(h:∀N:Loc→aa→Prop,(∀s,J s→N (L s) (M s))→wS P call s loc H (mj Q N) E)
  (k:∀s,J s→wSs P call r (L s) (M s) Q E):wSs P call (.cons s r) loc H Q E:=h (fun loc H=>wSs P call r loc H Q E) k
theorem lE{P:ec}{call:Nat→List PV→aa→RP}{b:cp}{s:IS}{r:cp}{σ:Type}(L:σ→Loc)(M:σ→aa)(J:σ→Prop)(h:∀N:Loc→aa→Prop,(∀s,J s→N (L s) (M s))→wS P call s loc H (mj Q N) E)
  (k:∀s,J s→wSs P call r (L s) (M s) Q E) (hb:b=.cons s r:=by rfl):wSs P call b loc H Q E:=by subst hb;exact h (fun loc H=>wSs P call r loc H Q E) k
section
variable {body:Loc→aa→QL→EL→Prop}{cg:List Nat}{r:Nat}{σ:Type}(L:Nat→σ→Loc)(M:Nat→σ→aa)(J:Nat→σ→Prop)(eR:σ)
def A6(L:Nat→σ→Loc)(M:Nat→σ→aa)(J:Nat→σ→Prop)(k:Nat)(loc:Loc)(H:aa):Prop:=∃s,loc=L k s∧H=M k s∧J k s
theorem forI{sr:Src}(N:Nat)(item:Nat→PV)(i0:J 0 eR)(get:∀k s,J k s→k<N→sr.get (M k s) k=some (some (item k)))(fin:∀s,J N s→sr.get (M N s) N=some none)
  (step:∀k s,J k s→k<N→f6 cg (item k) (L k s) fun loc=>body loc (M k s) (kM Q (A6 L M J (k+1))) (ml E))
  (done:∀s,J N s→Q .next (L N s) (M N s)):mn body cg sr (L 0 eR) (M 0 eR) Q E:=by
 unfold mn
 refine⟨N,item,A6 L M J,⟨eR,rfl,rfl,i0⟩,?_,?_,?_,?_⟩
 ·rintro k _ _ ⟨s,rfl,rfl,j⟩ h;exact get k s j h
 ·rintro _ _ ⟨s,rfl,rfl,j⟩;exact fin s j
 ·rintro k _ _ h ⟨s,rfl,rfl,j⟩;exact step k s j h
 ·rintro _ _ ⟨s,rfl,rfl,j⟩;exact done s j
theorem qg(vs:List PV)(i0:J 0 eR)
  (step:∀k s v,J k s→vs[k]? =some v→f6 cg v (L k s) fun loc=>body loc (M k s) (kM Q (A6 L M J (k+1))) (ml E))
  (done:∀s,J vs.length s→Q .next (L vs.length s) (M vs.length s)):mn body cg (.fixed vs) (L 0 eR) (M 0 eR) Q E:=by
 refine forI L M J eR vs.length (fun k=>(vs[k]?).getD .none) i0 ?_ ?_ ?_ done
 ·intro k s _ h;show some _=_;rw[List.getElem?_eq_getElem h];rfl
 ·intro s _;show some _=_;rw[List.getElem?_eq_none (Nat.le_refl _)]
 ·intro k s j h;have:=step k s _ j (List.getElem?_eq_getElem h);rw[List.getElem?_eq_getElem h];exact this
theorem cX{H:aa}{l:List PV}(h:H[r]? =some (.list l)):listAt H r=some l:=by unfold listAt;rw[h]
theorem ej(vs:List PV)(i0:J 0 eR)(g:∀k s,J k s→(M k s)[r]? =some (.list vs))
  (step:∀k s v,J k s→vs[k]? =some v→f6 cg v (L k s) fun loc=>body loc (M k s) (kM Q (A6 L M J (k+1))) (ml E))
  (done:∀s,J vs.length s→Q .next (L vs.length s) (M vs.length s)):mn body cg (.live r) (L 0 eR) (M 0 eR) Q E:=by
 refine forI L M J eR vs.length (fun k=>(vs[k]?).getD .none) i0 ?_ ?_ ?_ done
 ·intro k s j h;show(listAt _ _).map _=_;rw[cX (g k s j),Option.map_some,List.getElem?_eq_getElem h];rfl
 ·intro s j;show(listAt _ _).map _=_;rw[cX (g _ s j),Option.map_some,List.getElem?_eq_none (Nat.le_refl _)]
 ·intro k s j h;have:=step k s _ j (List.getElem?_eq_getElem h);rw[List.getElem?_eq_getElem h];exact this
theorem vA(vs:List PV)(i0:J 0 eR)(g:∀k s,J k s→(M k s)[r]? =some (.list vs))
  (step:∀k s v,J k s→vs[k]? =some v→f6 cg (.tup [.int k,v]) (L k s) fun loc=>body loc (M k s) (kM Q (A6 L M J (k+1))) (ml E))
  (done:∀s,J vs.length s→Q .next (L vs.length s) (M vs.length s)):mn body cg (.enum r) (L 0 eR) (M 0 eR) Q E:=by
 refine forI L M J eR vs.length (fun k=>.tup [.int k,(vs[k]?).getD .none]) i0 ?_ ?_ ?_ done
 ·intro k s j h;show(listAt _ _).map _=_;rw[cX (g k s j),Option.map_some,List.getElem?_eq_getElem h];rfl
 ·intro s j;show(listAt _ _).map _=_;rw[cX (g _ s j),Option.map_some,List.getElem?_eq_none (Nat.le_refl _)];rfl
 ·intro k s j h;have:=step k s _ j (List.getElem?_eq_getElem h);rw[List.getElem?_eq_getElem h];exact this
def runF(body:Loc→aa→QL→EL→Prop)(cg:List Nat)(Q:QL)(E:EL):List PV→Loc→aa→Prop
 |[],loc,H=>Q .next loc H
 |v::r,loc,H=>f6 cg v loc fun loc=>body loc H (kM Q (runF body cg Q E r)) (ml E)
theorem iq{α:Type}{vs:List α}{k:Nat}(h:k<vs.length):vs.drop k=vs[k]::vs.drop (k+1):=(List.getElem_cons_drop h).symm
theorem forAll{vs:List PV}(h:runF body cg Q E vs loc H):mn body cg (.fixed vs) loc H Q E:=by
 unfold mn
 refine⟨vs.length,fun k=>(vs[k]?).getD .none,fun k=>runF body cg Q E (vs.drop k),h,?_,?_,?_,?_⟩
 ·intro k _ _ _ h;show some _=some (some ((vs[k]?).getD .none));rw[List.getElem?_eq_getElem h];rfl
 ·intro _ _ _;show some _=_;rw[List.getElem?_eq_none (Nat.le_refl _)]
 ·intro k loc H h i;rw[iq h] at i;show f6 cg ((vs[k]?).getD .none) loc _;rw[List.getElem?_eq_getElem h];exact i
 ·intro loc H i;rw[List.drop_length] at i;exact i
def runC(elt:Loc→aa→(PV→aa→Prop)→(XK→aa→Prop)→Prop)(cg:List Nat)(R:List PV→aa→Prop):List PV→List PV→Loc→aa→Prop
 |[],acc,_,H=>R acc H
 |v::r,acc,loc,H=>f6 cg v loc fun loc=>elt loc H (fun x H=>acc.length<1000∧runC elt cg R r (acc++[x]) loc H) nE
theorem qh{elt:Loc→aa→(PV→aa→Prop)→(XK→aa→Prop)→Prop}{R:List PV→aa→Prop}{vs:List PV}(h:runC elt cg R vs [] loc H):mu elt cg (.fixed vs) loc H R:=by
 unfold mu
 refine⟨vs.length,fun k=>(vs[k]?).getD .none,fun k=>runC elt cg R (vs.drop k),h,?_,?_,?_,?_⟩
 ·intro k _ _ _ _ h;show some _=some (some ((vs[k]?).getD .none));rw[List.getElem?_eq_getElem h];rfl
 ·intro _ _ _ _;show some _=_;rw[List.getElem?_eq_none (Nat.le_refl _)]
 ·intro k acc loc H h i;rw[iq h] at i;show f6 cg ((vs[k]?).getD .none) loc _;rw[List.getElem?_eq_getElem h];exact i
 ·intro acc loc H i;rw[List.drop_length] at i;exact i
end
end
noncomputable def fc:cp→Nat→IS
 |.cons s _,0=>s
 |.cons _ r,n+1=>fc r n
 |.nil,_=>.cont
noncomputable def iT:cp→Nat→cp
 |r,0=>r
 |.cons _ r,n+1=>iT r n
 |.nil,_=>.nil
noncomputable def A7:IS→cp
 |.for _ _ b=>b
 |.while _ b=>b
 |_=>.nil
noncomputable def thenS:IS→cp
 |.ite _ t _=>t
 |_=>.nil
def Dm(x:Int):Prop:=-1073741823≤x∧x≤1073741823
def Nm(x:Int):Prop:=-2147483647≤x∧x≤2147483647
def eT(p T:Nat)(H:aa):Prop:=∃w t:Int,H[p]? =some (.list [.int w,.int t])∧0≤w∧0≤t∧t≤T
theorem eT.list{p T:Nat}{H:aa}(h:eT p T H):∃l,H[p]? =some (.list l):=let⟨_,_,h,_⟩:=h;⟨_,h⟩
def TkG(p T:Nat)(m:Int)(H:aa)(d:Int)(H':aa)(C:Prop):Prop:=0≤d→d<m→∀o,H'=H.set p (.list o)→eT p (T+1) H'→C
section
variable {ns:List Int}{n:Nat}{H:aa}{R:PV→aa→Prop}{E:XK→aa→Prop}
theorem ky{lo hi x:Int}(h1:lo≤x)(h2:x≤hi)(k:R (.bool true) H):Wc (aj (aO ns) (n+1) 89 [.int x,.int lo,.int hi] H) R E:=by
 refine aS rfl rfl (.pos h1 ?_)
 show R (.bool (decide (x≤hi))) H
 rw[decide_eq_true h2];exact k
theorem fn89n{lo hi x:Int}(h:¬(lo≤x∧x≤hi))(k:R (.bool false) H):Wc (aj (aO ns) (n+1) 89 [.int x,.int lo,.int hi] H) R E:=by
 refine aS rfl rfl (.of (fun h1=> ?_) fun _=>k)
 show R (.bool (decide (x≤hi))) H
 rw[decide_eq_false fun h2=>h ⟨h1,h2⟩];exact k
theorem fn96{x:Int}(k:R (.int x) H):Wc (aj (aO ns) (n+1) 96 [.int x] H) R E:=aS rfl rfl k
theorem dF{x:Int}(h:Dm x)(k:R (.int x) H):Wc (aj (aO ns) (n+2) 110 [.int x] H) R E:=
 aS rfl rfl (fn96 (.pos h.1 (.pos h.2 k)))
theorem rN{x:Int}(h:Nm x)(k:R (.int x) H):Wc (aj (aO ns) (n+2) 103 [.int x] H) R E:=
 aS rfl rfl (fn96 (.pos h.1 (.pos h.2 k)))
theorem digit_of{w m:Int}(hm:0<m):0≤w.fmod m∧w.fmod m<m:=by
 rw[Int.fmod_eq_emod_of_nonneg _ (by exact Int.le_of_lt hm)]
 exact⟨Int.emod_nonneg _ (by exact(Int.ne_of_lt hm).symm),Int.emod_lt_of_pos _ hm⟩
theorem tZ{a b:PV}:((place 0 [a,b].length).bind fun m=>[a,b][m]?)=some a:=rfl
theorem qi{a b:PV}:((place 1 [a,b].length).bind fun m=>[a,b][m]?)=some b:=rfl
theorem set0{a b:PV}:(0:Int)≤0∧(0:Int)<[a,b].length∧[a,b].length<100000:=⟨by decide,(by decide:(0:Int)<2),(by decide:2<100000)⟩
theorem set1{a b:PV}:(0:Int)≤1∧(1:Int)<[a,b].length∧[a,b].length<100000:=⟨by decide,(by decide:(1:Int)<2),(by decide:2<100000)⟩
theorem s748{p T:Nat}{m:Int}(hp:eT p T H)(hm:0<m)(hm':m<1000)(hT:T<10 ^ 15)(k:Kt PV.int (TkG p T m H) R):Wc (aj (aO ns) (n+1) 748 [.ref p,.int m] H) R E:=by
 revert ns n H R E p T m
 apply aT;intro
 generalize bX .. =ns,bY .. =n,bZ .. =H,b7 .. =R,cv .. =E,cw .. =p,cx .. =T,cy .. =m
 intro hp hm hm' hT k
 have k:=kt k
 obtain⟨w,t,h,hw,h0,ht⟩:=hp
 have hq:∀x:Int,m≠0∧Builtin.divisionGoesByPylong x m=false:=fun x=>⟨by exact(Int.ne_of_lt hm).symm,noPylong_small (by exact pB (eE (Int.le_of_lt hm) hm') rfl rfl)⟩
 have s2:∀o,(H.set p o)[p]? =some o:=fun o=>getset h
 refine aS rfl rfl (.of h (.of tZ (.of (fun q=> ?_) fun q=> ?_)))
 ·refine .of h (.of tZ (.of (by exact(Int.ne_of_lt hm).symm) (.of h (.of tZ (.of (hq _) (.of h (.of set0 ?_)))))))
  refine k _ _ (digit_of hm).1 (digit_of hm).2 _ rfl ⟨_,_,s2 _,?_,h0,Int.le_trans ht (by exact Int.ofNat_le.mpr (Nat.le_succ _))⟩
  rw[Int.fdiv_eq_ediv_of_nonneg _ (by exact Int.le_of_lt hm)];exact Int.ediv_nonneg hw (by exact Int.le_of_lt hm)
 ·have h2:=s2 (.list [.int w,.int (t+1)])
  have l1:(t+1).natAbs<2 ^ 64:=by exact pB (eM ⟨h0,Int.le_trans ht (Int.ofNat_le.mpr (Nat.le_of_lt hT))⟩ (d6 1)) rfl rfl
  refine .of h (.of qi (.of h (.of set1 (.of h2 (.of qi (.of (.inr l1) (.of h2 (.of qi (.of (.inr l1) (.of h2 (.of qi (.of (.inr l1) (.of (by decide) (.of (by exact(Int.ne_of_lt hm).symm) ?_))))))))))))))
  exact k _ _ (digit_of hm).1 (digit_of hm).2 _ rfl ⟨_,_,h2,hw,by exact Int.le_add_one h0,by exact Int.add_le_add_right ht 1⟩
noncomputable def gI(fT total:Int):Int:=if fT≤7230584 then(fT * 297).fdiv total else if 1663497≤total then fT.fdiv (total.fdiv 297) else fT
noncomputable def lF(fT total:Int):Int:=if fT=0 then 0 else if total≤0 then 10000 else if 1290<gI fT total then 10000 else
 (gI fT total * gI fT total * gI fT total+131072).fdiv 262144
theorem oy{e t:Int}(he:0≤e)(ht:0<t):0≤gI e t:=by
 unfold gI
 split
 ·rw[Int.fdiv_eq_ediv_of_nonneg _ (by exact Int.le_of_lt ht)];exact Int.ediv_nonneg (by lia) (by exact Int.le_of_lt ht)
 ·split
  ·rw[Int.fdiv_eq_ediv_of_nonneg t (by lia)]
   have:0≤t / 297:=Int.ediv_nonneg (by exact Int.le_of_lt ht) (by lia)
   rw[Int.fdiv_eq_ediv_of_nonneg _ this];exact Int.ediv_nonneg he this
  ·exact he
theorem A9{t:Int}(h:1663497≤t)(k:t<1073741824):t / 297≠0∧t / 297<1073741824∧-1073741824<t / 297:=
 have i:1≤t / 297:=Int.le_ediv_of_mul_le (by decide) (ji h rfl)
 ⟨(Int.ne_of_lt i).symm,Int.lt_of_le_of_lt (Int.ediv_le_self _ (ji h rfl)) k,Int.lt_of_lt_of_le (by decide) i⟩
theorem fn145{e t:Int}(he:0≤e)(ht:t<1073741824)(k:R (.int (lF e t)) H):Wc (aj (aO ns) (n+1) 145 [.int e,.int t] H) R E:=by
 revert ns n H R E e t
 apply aN;intro
 generalize bM .. =ns,bN .. =n,bQ .. =H,bR .. =R
 apply aP;intro
 generalize bP .. =E,bS .. =e
 apply aJ;intro
 generalize nx .. =t
 intro he ht k
 refine aS rfl rfl (.neg (Int.not_lt.mpr he) (.of (fun q=> ?_) fun q=>.of (fun q2=> ?_) fun q2=> ?_))
 ·rw[lF,if_pos q] at k;exact k
 ·rw[lF,if_neg q,if_pos q2] at k;exact k
 have hr:=oy (e:=e) (t:=t) he (by exact Int.lt_of_not_ge q2)
 rw[lF,if_neg q,if_neg q2] at k
 refine cut (fun r:Int=>frm 2 3 [.int e,.int t] |>.set 2 (some (.int r))) (fun _=>H) (fun r=>r=gI e t) (fun N hN=> ?_) ?_
 ·unfold gI at hN
  have nz:t≠0:=by exact(Int.ne_of_lt (Int.not_le.mp q2)).symm
  have small:∀x b:Int,b≠0→b<1073741824→-1073741824<b→b≠0∧Builtin.divisionGoesByPylong x b=false:=fun x b h0 h h'=>⟨h0,noPylong_small (by exact pB ⟨Int.add_one_le_of_lt h',Int.le_sub_one_of_lt h⟩ rfl rfl)⟩
  refine .of (fun q3=> ?_) fun q3=>.of (fun q4=> ?_) fun q4=> ?_
  ·exact .of (.inr (by decide)) (.of (small _ _ nz ht (by exact Int.lt_trans (by decide) (Int.not_le.mp q2))) (hN _ (by rw[if_pos q3])))
  ·have e1:t.fdiv 297=t / 297:=Int.fdiv_eq_ediv_of_nonneg _ (by decide)
   exact .of (small _ _ (by decide) (by decide) (by decide)) (.of (small _ _ (e1▸(A9 q4 ht).1) (e1▸(A9 q4 ht).2.1) (e1▸(A9 q4 ht).2.2)) (hN _ (by rw[if_neg q3,if_pos q4])))
  ·exact hN _ (by rw[if_neg q3,if_neg q4])
 ·rintro _ rfl
  refine .of (fun q3=> ?_) fun q3=> ?_
  ·rw[if_pos q3] at k;exact k
  ·rw[if_neg q3] at k
   have h1:(gI e t).natAbs<2 ^ 64:=by exact pB ⟨hr,Int.not_lt.mp q3⟩ rfl rfl
   exact .of (.inl h1) (.of (.inr h1) (.of ⟨by decide,noPylong_small (by decide)⟩ k))
end
structure Sm where
 (a b c d e f:Int)
noncomputable def Sm.pv(s:Sm):PV:=.tup [.int s.a,.int s.b,.int s.c,.int s.d,.int s.e,.int s.f]
noncomputable def Sm.ls(s:Sm):List PV:=[.int s.a,.int s.b,.int s.c,.int s.d,.int s.e,.int s.f]
noncomputable def Sm.zero:Sm:=⟨0,0,0,0,0,0⟩
noncomputable def Sm.add(s t:Sm):Sm:=⟨s.a+t.a,s.b+t.b,s.c+t.c,s.d+t.d,s.e+t.e,s.f+t.f⟩
noncomputable def Sm.line(b e g:Sm):Sm:=⟨e.a - b.a+g.a,e.b - b.b+g.b,e.c - b.c+g.c,e.d - b.d+g.d,e.e - b.e+g.e,e.f - b.f+g.f⟩
instance:Nonempty Sm:=⟨.zero⟩
def Aq(H:aa)(v:PV)(n:Nat)(x:PV):Prop:=∀ns,g7 (aO ns) H v n=some x
theorem Aq.get{H H':aa}{v:PV}{n:Nat}{x:PV}(h:Aq H v n x)(k:∀(i c:Nat) (fs:List (Nat×PV)),H[i]? =some (aH.inst c fs)→H'[i]? =some (aH.inst c fs)):Aq H' v n x:=by
 intro ns
 cases v with
 |ref i=>
  have z:jZ (aO ns) n H[i]? =some x:=h ns
  show jZ (aO ns) n H'[i]? =some x
  cases e:H[i]? with
  |none=>rw[e] at z;exact nomatch (show none=some x from z)
  |some o=>
   rw[e] at z
   cases o with
   |inst c fs=>rw[k i c fs e];exact z
   |_=>exact nomatch (show none=some x from z)
 |_=>exact nomatch (show none=some x from h ns)
theorem Aq.app{H J:aa}{v:PV}{n:Nat}{x:PV}(h:Aq H v n x):Aq (H++J) v n x:=
 Aq.get h fun i _ _ e=>by rw[List.getElem?_append_left (List.getElem?_eq_some_iff.mp e).1];exact e
section
variable {ns:List Int}{n:Nat}{H:aa}{R:PV→aa→Prop}{E:XK→aa→Prop}
noncomputable def rO(w:Int)(s:Sm):Int×Int:=
 if 0<w - s.a then
  if s.c=0∧s.d=0∧s.e=0 then(lF (w - s.a) s.b,if 99<lF (w - s.a) s.b then 0 else if 12<lF (w - s.a) s.b then 1 else 2) else(0,2)
 else if s.f< -(w - s.a) then(10001,3)
 else(lF (-(w - s.a)) s.f,if 12<lF (-(w - s.a)) s.f then 3 else 2)
theorem eI{α:Type}{c:Prop}[Decidable c]{a b:α}{P:α→Prop}(h:P (if c then a else b)):(c→P a)∧(¬c→P b):=by
 split at h
 ·exact⟨fun _=>h,fun n=>absurd ‹c› n⟩
 ·exact⟨fun n=>absurd n ‹¬c›,fun _=>h⟩
theorem s692{w:Int}{s:Sm}(hb:s.b<1073741824)(hf:s.f<1073741824)(k:R (.tup [.int (rO w s).1,.int (rO w s).2]) H):Wc (aj (aO ns) (n+2) 692 [.int w,s.pv] H) R E:=by
 revert ns n H R E w s
 apply aN;intro
 generalize bM .. =ns,bN .. =n,bQ .. =H,bR .. =R
 apply aP;intro
 generalize bP .. =E,bS .. =w
 apply aJ;intro
 generalize nx .. =s
 intro hb hf k
 unfold rO at k
 have hk:=eI (P:=fun p:Int×Int=>R (.tup [.int p.1,.int p.2]) H) k
 refine aS rfl rfl (.of (fun q=> ?_) fun q=> ?_)
 ·have hk:=eI (P:=fun p:Int×Int=>R (.tup [.int p.1,.int p.2]) H) (hk.1 q)
  refine .and3 (fun z1 z2 z3=> ?_) fun z=> ?_
  rotate_left
  ·exact hk.2 z
  ·have k:=hk.1 ⟨z1,z2,z3⟩
   have k:=eI (P:=fun x:Int=>R (.tup [.int (lF (w - s.a) s.b),.int x]) H) k
   have k':=fun y=>eI (P:=fun x:Int=>R (.tup [.int (lF (w - s.a) s.b),.int x]) H) (k.2 y)
   exact fn145 (Int.le_of_lt q) hb (.of (fun y=>k.1 y) fun y=>.of (fun z=>(k' y).1 z) fun z=>(k' y).2 z)
 ·have hk:=eI (P:=fun p:Int×Int=>R (.tup [.int p.1,.int p.2]) H) (hk.2 q)
  refine .of (fun r=>hk.1 r) fun r=> ?_
  have k:=eI (P:=fun x:Int=>R (.tup [.int (lF (-(w - s.a)) s.f),.int x]) H) (hk.2 r)
  exact fn145 (by exact Int.neg_nonneg_of_nonpos (Int.not_lt.mp q)) hf (.of (fun z=>k.1 z) fun z=>k.2 z)
structure bp where
 (sI bT ex qA dbl fin loose:Int)
instance:Nonempty bp:=⟨⟨0,0,0,0,0,0,0⟩⟩
structure fU(H:aa)(v:PV)(S:bp):Prop where
 sI:Aq H v 36 (.int S.sI)
 bT:Aq H v 37 (.int S.bT)
 ex:Aq H v 38 (.int S.ex)
 qA:Aq H v 39 (.int S.qA)
 dbl:Aq H v 40 (.int S.dbl)
 fin:Aq H v 41 (.int S.fin)
 loose:Aq H v 42 (.int S.loose)
theorem fU.get{H':aa}{v:PV}{S:bp}(h:fU H v S)(k:∀n x,Aq H v n x→Aq H' v n x):fU H' v S:=⟨k _ _ h.sI,k _ _ h.bT,k _ _ h.ex,k _ _ h.qA,k _ _ h.dbl,k _ _ h.fin,k _ _ h.loose⟩
theorem fU.app{J:aa}{v:PV}{S:bp}(h:fU H v S):fU (H++J) v S:=h.get fun _ _ h=>h.app
noncomputable def kZ(S:bp)(bad pen:Int):Int:=
 let cost:=S.sI+bad
 let found:=if 10000≤(if cost<0 then -cost else cost) then 100000000 else cost * cost
 if 0<pen then found+pen * pen else if -10000<pen then found - pen * pen else found
theorem s699{v:PV}{S:bp}{bad pen:Int}(h:fU H v S)(hp:pen.natAbs<2 ^ 64)(k:R (.int (kZ S bad pen)) H):Wc (aj (aO ns) (n+1) 699 [v,.int bad,.int pen] H) R E:=by
 refine aS rfl rfl (.of (h.sI ns) ?_)
 refine lE (fun x:Int=>[some v,some (.int bad),some (.int pen),some (.int (S.sI+bad)),some (.int x)]) (fun _=>H) (fun x=>x=if 10000≤(if S.sI+bad<0 then -(S.sI+bad) else S.sI+bad) then 100000000 else(S.sI+bad) * (S.sI+bad)) (fun N hN=> ?_) ?_
 ·refine .of (fun q=>hN _ (if_pos q).symm) fun q=> ?_
  exact .of (.inl (by split at q;exact pB (a:=-10000) (b:=0) ⟨Int.le_of_lt (Int.neg_lt_of_neg_lt (Int.not_le.mp q)),Int.le_of_lt ‹_›⟩ rfl rfl;exact pB ⟨Int.not_lt.mp ‹_›,Int.le_of_lt (Int.not_le.mp q)⟩ rfl rfl)) (hN _ (if_neg q).symm)
 ·intro x hx
  unfold kZ at k
  dsimp only at k
  rw[←hx] at k
  have k1:=eI (P:=fun x:Int=>R (.int x) H) k
  refine .of (fun q=>.of (.inl hp) (k1.1 q)) fun q=> ?_
  have k2:=eI (P:=fun x:Int=>R (.int x) H) (k1.2 q)
  exact .of (fun q=>.of (.inl hp) (k2.1 q)) fun q=>k2.2 q
noncomputable def lh(S:bp)(twice isEnd:Bool)(apart:Int):Int:=
 (if twice then(if isEnd then S.fin else S.dbl) else 0)+(if 1<apart then S.qA else 0)
theorem s706{v:PV}{S:bp}{t e:Bool}{apart:Int}(h:fU H v S)(k:R (.int (lh S t e apart)) H):Wc (aj (aO ns) (n+1) 706 [v,.bool t,.bool e,.int apart] H) R E:=by
 refine aS rfl rfl ?_
 refine nxt ?_
 refine lE (fun x:Int=>[some v,some (.bool t),some (.bool e),some (.int apart),some (.int x)]) (fun _=>H) (fun x=>x=if t then(if e then S.fin else S.dbl) else 0) (fun N hN=> ?_) ?_
 ·cases t
  ·exact hN _ rfl
  ·have z:∀x:Int,0+x=x:=Int.zero_add
   cases e
   ·exact .of (h.dbl ns) (hN _ (z _))
   ·exact .of (h.fin ns) (hN _ (z _))
 ·rintro _ rfl
  unfold lh at k
  refine .of (fun q=>.of (h.qA ns) ?_) fun q=> ?_
  ·rw[if_pos q] at k;exact k
  ·rw[if_neg q,Int.add_zero] at k;exact k
theorem s685{b e g:Sm}(k:∀J,R (Sm.line b e g).pv (H++J)):Wc (aj (aO ns) (n+1) 685 [b.pv,e.pv,g.pv] H) R E:=by
 have l:∀{l:List PV},Nat.ble 1000 l.length=false→l.length<1000:=fun h=>Nat.lt_of_not_le fun h'=>by rw[Nat.ble_eq_true_of_le h'] at h;cases h
 refine aS rfl rfl (.of (by decide) (qh ⟨l rfl,l rfl,l rfl,l rfl,l rfl,l rfl,.of (l rfl) (.of aX (.of (Nat.lt_trans (l rfl) (by decide)) (k _)))⟩))
theorem s666{s:Sm}{x:Int}(k:R (Sm.pv {s with a:=s.a+x}) H):Wc (aj (aO ns) (n+1) 666 [s.pv,.int x] H) R E:=
 aS rfl rfl (.of ⟨(by decide:1≤6),(by decide:6<1000)⟩ (.of (by decide:1+5<1000) k))
end
def Pre(H H':aa):Prop:=∃J,H'=H++J
theorem Pre.refl(H:aa):Pre H H:=⟨[],by simp⟩
theorem Pre.trans{H rP rQ:aa}:Pre H rP→Pre rP rQ→Pre H rQ
 |⟨J,e⟩,⟨J',e'⟩=>⟨J++J',by rw[e',e,List.append_assoc]⟩
theorem Pre.app{H H':aa}(J:aa):Pre H H'→Pre H (H'++J)
 |⟨K,e⟩=>⟨K++J,by rw[e,List.append_assoc]⟩
theorem Pre.len{H H':aa}:Pre H H'→H.length≤H'.length
 |⟨K,e⟩=>by rw[e,List.length_append];exact Nat.le_add_right _ _
theorem Pre.get{H H':aa}{i:Nat}{o:aH}(x:Pre H H')(e:H[i]? =some o):H'[i]? =some o:=by
 obtain⟨J,rfl⟩:=x
 rw[List.getElem?_append_left (List.getElem?_eq_some_iff.mp e).1];exact e
theorem Pre.set{H H':aa}{i:Nat}{o:aH}(x:Pre H H')(h:H.length≤i):Pre H (H'.set i o):=by
 obtain⟨J,rfl⟩:=x
 exact⟨J.set (i - H.length) o,List.set_append_right _ _ h⟩
theorem Aq.pre{H H':aa}{v:PV}{n:Nat}{x:PV}(p:Pre H H')(h:Aq H v n x):Aq H' v n x:=by
 obtain⟨J,rfl⟩:=p;exact h.app
theorem fU.pre{H H':aa}{v:PV}{S:bp}(p:Pre H H')(h:fU H v S):fU H' v S:=by
 obtain⟨J,rfl⟩:=p;exact h.app
def bu{α β:Type}(R:α→β→Prop):List α→List β→Prop
 |[],[]=>True
 |a::l,b::m=>R a b∧bu R l m
 |_,_=>False
section
variable {α β:Type}{R R':α→β→Prop}
theorem bu.el{P:List α→List β→Prop}(h0:P [] [])(h1:∀a b l m,R a b→bu R l m→P l m→P (a::l) (b::m)){l:List α}:∀{m:List β},bu R l m→P l m:=by
 induction l with
 |nil=>intro m h;cases m with
  |nil=>exact h0
  |cons _ _=>exact h.elim
 |cons a l ih=>intro m h;cases m with
  |nil=>exact h.elim
  |cons b m=>exact h1 a b l m h.1 h.2 (ih h.2)
theorem bu.nil_inv{l:List α}(h:bu R l ([]:List β)):l=[]:=by
 cases l with
 |nil=>rfl
 |cons _ _=>exact h.elim
theorem bu.cons_inv{l:List α}{b:β}{m:List β}(h:bu R l (b::m)):∃a r,l=a::r∧R a b∧bu R r m:=by
 cases l with
 |nil=>exact h.elim
 |cons a r=>exact⟨a,r,rfl,h.1,h.2⟩
theorem bu.length{l:List α}{m:List β}(h:bu R l m):l.length=m.length:=
 bu.el (R:=R) (P:=fun l m=>l.length=m.length) rfl (fun _ _ _ _ _ _ r=>congrArg (· +1) r) h
theorem bu.mono(k:∀a b,R a b→R' a b){l:List α}{m:List β}:bu R l m→bu R' l m:=
 bu.el (R:=R) (P:=bu R') trivial fun a b _ _ h _ r=>⟨k a b h,r⟩
theorem bu.append{l l':List α}{m m':List β}(h:bu R l m)(y:bu R l' m'):bu R (l++l') (m++m'):=
 bu.el (R:=R) (P:=fun l m=>bu R (l++l') (m++m')) y (fun _ _ _ _ h _ r=>And.intro h r) h
theorem bu.get{l:List α}{m:List β}{i:Nat}{b:β}(h:bu R l m):m[i]? =some b→∃a,l[i]? =some a∧R a b:=
 bu.el (R:=R) (P:=fun l m=>∀i,m[i]? =some b→∃a,l[i]? =some a∧R a b) (fun _=>cj) (fun a b' _ _ h _ r i=>Nat.casesOn i (fun e=>⟨a,rfl,Option.some.inj e▸h⟩) fun i e=>r i e) h i
end
structure Gl where
 (w st so sh bJ:Int)
instance:Nonempty Gl:=⟨⟨0,0,0,0,0⟩⟩
structure yg(H:aa)(v:PV)(g:Gl):Prop where
 w:Aq H v 0 (.int g.w)
 st:Aq H v 1 (.int g.st)
 so:Aq H v 2 (.int g.so)
 sh:Aq H v 3 (.int g.sh)
 bJ:Aq H v 4 (.int g.bJ)
theorem yg.pre{H H':aa}{v:PV}{g:Gl}(p:Pre H H')(h:yg H v g):yg H' v g:=⟨h.w.pre p,h.st.pre p,h.so.pre p,h.sh.pre p,h.bJ.pre p⟩
def jd(H:aa)(v:PV)(w:Int):Prop:=∃k:Int,(k=2∨k=5)∧Aq H v 5 (.int k)∧Aq H v 0 (.int w)
theorem jd.pre{H H':aa}{v:PV}{w:Int}(p:Pre H H'):jd H v w→jd H' v w
 |⟨k,h,a,b⟩=>⟨k,h,a.pre p,b.pre p⟩
def gS(H:aa)(v:PV)(ws:List Int):Prop:=∃r vs,v=.ref r∧H[r]? =some (.list vs)∧vs.length<1000∧bu (jd H) vs ws
theorem gS.pre{H H':aa}{v:PV}{ws:List Int}(p:Pre H H'):gS H v ws→gS H' v ws
 |⟨r,vs,e,h,z,a⟩=>⟨r,vs,e,p.get h,z,a.mono fun _ _ x=>x.pre p⟩
inductive Nd where
 |box (k w:Int)|rule (w:Int)|bF (w sort:Int)|glue (g:Gl)|pen (v:Int)|bL (pre post mid:List Int)|math (on:Bool) (w:Int)|iU (k:Int)
instance:Nonempty Nd:=⟨.iU 0⟩
def iu(H:aa)(v:PV):Nd→Prop
 |.box k w=>(k=2∨k=3)∧Aq H v 5 (.int k)∧Aq H v 0 (.int w)
 |.rule w=>Aq H v 5 (.int 4)∧Aq H v 0 (.int w)
 |.bF w s=>Aq H v 5 (.int 5)∧Aq H v 0 (.int w)∧Aq H v 13 (.int s)
 |.glue g=>Aq H v 5 (.int 6)∧∃u,Aq H v 14 u∧yg H u g
 |.pen x=>Aq H v 5 (.int 7)∧Aq H v 16 (.int x)
 |.bL a b c=>Aq H v 5 (.int 8)∧∃u1 u2 u3,Aq H v 17 u1∧gS H u1 a∧Aq H v 18 u2∧gS H u2 b∧Aq H v 19 u3∧gS H u3 c
 |.math on w=>Aq H v 5 (.int 12)∧Aq H v 25 (.bool on)∧Aq H v 0 (.int w)
 |.iU k=>(k=9∨k=10∨k=11∨k=13)∧Aq H v 5 (.int k)
theorem iu.pre{H H':aa}{v:PV}(p:Pre H H'){d:Nd}(h:iu H v d):iu H' v d:=by
 cases d with
 |box _ _=>exact⟨h.1,h.2.1.pre p,h.2.2.pre p⟩
 |rule _=>exact⟨h.1.pre p,h.2.pre p⟩
 |bF _ _=>exact⟨h.1.pre p,h.2.1.pre p,h.2.2.pre p⟩
 |glue _=>exact⟨h.1.pre p,h.2.imp fun _ x=>⟨x.1.pre p,x.2.pre p⟩⟩
 |pen _=>exact⟨h.1.pre p,h.2.pre p⟩
 |bL _ _ _=>exact⟨h.1.pre p,h.2.imp fun _ x=>x.imp fun _ x=>x.imp fun _ x=>⟨x.1.pre p,x.2.1.pre p,x.2.2.1.pre p,x.2.2.2.1.pre p,x.2.2.2.2.1.pre p,x.2.2.2.2.2.pre p⟩⟩
 |math _ _=>exact⟨h.1.pre p,h.2.1.pre p,h.2.2.pre p⟩
 |iU _=>exact⟨h.1,h.2.pre p⟩
theorem kn{p:Prop}[Decidable p](h:decide p=false):¬p:=of_decide_eq_false h
noncomputable def Nd.kind:Nd→Int
 |.box k _=>k|.rule _=>4|.bF _ _=>5|.glue _=>6|.pen _=>7|.bL .. =>8|.math .. =>12|.iU k=>k
theorem iu.kind{H:aa}{v:PV}{d:Nd}(h:iu H v d):Aq H v 5 (.int d.kind):=by
 cases d with
 |box _ _=>exact h.2.1
 |iU _=>exact h.2
 |_=>exact h.1
noncomputable def Nd.wid:Nd→Int
 |.box _ w=>w|.rule w=>w|.bF w _=>w|.math _ w=>w|.glue _=>0|.pen _=>0|.bL _ _ _=>0|.iU _=>0
noncomputable def Nd.dropped:Nd→Bool
 |.glue _=>true|.pen _=>true|.math _ _=>true
 |.bF _ s=>s == 1
 |.box _ _=>false|.rule _=>false|.bL _ _ _=>false|.iU _=>false
theorem iu.range{H:aa}{v:PV}{d:Nd}(h:iu H v d):d.kind≠0∧d.kind≠1∧d.kind≠14:=by
 cases d with
 |box k w=>obtain⟨hk,_⟩:=h;rcases hk with rfl|rfl<;>exact⟨kn rfl,kn rfl,kn rfl⟩
 |iU k=>obtain⟨hk,_⟩:=h;rcases hk with rfl|rfl|rfl|rfl<;>exact⟨kn rfl,kn rfl,kn rfl⟩
 |_=>exact⟨kn rfl,kn rfl,kn rfl⟩
theorem iu.wide{H:aa}{v:PV}{d:Nd}(h:iu H v d)(k:d.kind=2∨d.kind=3∨d.kind=5∨d.kind=12∨d.kind=14):Aq H v 0 (.int d.wid):=by
 cases d with
 |box=>exact h.2.2
 |bF=>exact h.2.1
 |math=>exact h.2.2
 |iU=>rcases h.1 with rfl|rfl|rfl|rfl<;>exact absurd k (kn rfl)
 |_=>exact absurd k (kn rfl)
theorem iu.four{H:aa}{v:PV}{d:Nd}(h:iu H v d)(k:d.kind=4):Aq H v 0 (.int d.wid):=by
 cases d with
 |rule=>exact h.2
 |box=>rcases h.1 with rfl|rfl<;>cases k
 |iU=>rcases h.1 with rfl|rfl|rfl|rfl<;>cases k
 |_=>cases k
theorem iu.rest{H:aa}{v:PV}{d:Nd}(h:iu H v d)(h2:d.kind≠2)(h3:d.kind≠3)(h5:d.kind≠5)(pI:d.kind≠12)(h4:d.kind≠4):d.wid=0:=by
 cases d with
 |box k w=>rcases h.1 with rfl|rfl;exact absurd rfl h2;exact absurd rfl h3
 |rule=>exact absurd rfl h4
 |bF=>exact absurd rfl h5
 |math=>exact absurd rfl pI
 |_=>rfl
section
variable {ns:List Int}{n:Nat}{H:aa}{R:PV→aa→Prop}{E:XK→aa→Prop}
theorem s499{v:PV}{d:Nd}(h:iu H v d)(hg:d.kind≠6)(hd:d.kind≠8)(k:R (.int d.wid) H):Wc (aj (aO ns) (n+1) 499 [v] H) R E:=by
 revert ns n H R E v d
 apply aN;intro
 generalize bM .. =ns,bN .. =n,bQ .. =H,bR .. =R
 apply aP;intro
 generalize bP .. =E,bS .. =v
 apply aJ;intro
 generalize nx .. =d
 intro h hg hd k
 refine aS rfl rfl (.of (h.kind ns) (.or (fun z=>absurd h.range fun y=>z.elim y.1 y.2.1) fun _ _=>.or5 (fun z=>.of (h.wide z ns) k) fun k2 k3 k5 jN k14=>.of (fun z=>.of (h.four z ns) (.of (h.four z ns) k)) fun k4=>.neg hg (.neg hd ?_)))
 have e:=h.rest k2 k3 k5 jN k4
 rw[e] at k
 exact k
theorem s499s{v:PV}{w:Int}(h:jd H v w)(k:R (.int w) H):Wc (aj (aO ns) (n+1) 499 [v] H) R E:=by
 obtain⟨c,hk,h1,h2⟩:=h
 have hk:c≠0∧c≠1∧(c=2∨c=3∨c=5∨c=12∨c=14):=by rcases hk with rfl|rfl<;>decide
 exact aS rfl rfl (.of (h1 ns) (.neg hk.1 (.neg hk.2.1 (.or5 (fun _=>.of (h2 ns) k) fun k2 k3 k5 jN k14=>absurd hk.2.2 fun z=>z.elim k2 fun z=>z.elim k3 fun z=>z.elim k5 fun z=>z.elim jN k14))))
theorem iu.drop{v:PV}{d:Nd}(h:iu H v d)(k6:d.kind≠6)(k7:d.kind≠7)(jN:d.kind≠12):(d.kind≠5∧d.dropped=false)∨d.kind=5∧∃s:Int,Aq H v 13 (.int s)∧d.dropped=decide (s=1):=by
 cases d with
 |box k w=>left;rcases h.1 with rfl|rfl<;>exact⟨by show ¬_;exact kn rfl,rfl⟩
 |rule=>exact .inl ⟨by show ¬_;exact kn rfl,rfl⟩
 |bF w s=>exact .inr ⟨rfl,s,h.2.2,rfl⟩
 |bL=>exact .inl ⟨by show ¬_;exact kn rfl,rfl⟩
 |iU k=>left;rcases h.1 with rfl|rfl|rfl|rfl<;>exact⟨by show ¬_;exact kn rfl,rfl⟩
 |glue=>exact absurd rfl k6
 |pen=>exact absurd rfl k7
 |math=>exact absurd rfl jN
theorem iu.dropT{v:PV}{d:Nd}(h:iu H v d)(z:d.kind=6∨d.kind=7∨d.kind=12):d.dropped=true:=by
 cases d with
 |box k w=>rcases h.1 with rfl|rfl<;>exact absurd z (kn rfl)
 |iU k=>rcases h.1 with rfl|rfl|rfl|rfl<;>exact absurd z (kn rfl)
 |glue=>rfl
 |pen=>rfl
 |math=>rfl
 |_=>exact absurd z (kn rfl)
theorem s624{v:PV}{d:Nd}(h:iu H v d)(k:R (.bool d.dropped) H):Wc (aj (aO ns) (n+1) 624 [v] H) R E:=by
 revert ns n H R E v d
 apply aN;intro
 generalize bM .. =ns,bN .. =n,bQ .. =H,bR .. =R
 apply aP;intro
 generalize bP .. =E,bS .. =v
 apply aJ;intro
 generalize nx .. =d
 intro h k
 have t:=fun z=>h.dropT z▸k
 refine aS rfl rfl (.of (h.kind ns) (.of (fun z=>t (.inl z)) fun z1=>.of (h.kind ns) (.of (fun z=>t (.inr (.inl z))) fun z2=>.of (h.kind ns) (.of (fun z=>t (.inr (.inr z))) fun z3=>.of (h.kind ns) ?_))))
 rcases h.drop z1 z2 z3 with⟨e,q⟩|⟨e,s,a,q⟩
 ·rw[q] at k;exact .neg e k
 ·rw[q] at k;exact .pos e (.of (a ns) k)
theorem Ba{ws:List Int}{k:Nat}{w:Int}(h:ws[k]? =some w):(ws.take (k+1)).sum=(ws.take k).sum+w:=by rw[List.take_add_one,h];simp
theorem s652{v:PV}{ws:List Int}(h:gS H v ws)(k:R (.int ws.sum) H):Wc (aj (aO ns) (n+2) 652 [v] H) R E:=by
 revert ns n H R E v ws
 apply aN;intro
 generalize bM .. =ns,bN .. =n,bQ .. =H,bR .. =R
 apply aP;intro
 generalize bP .. =E,bS .. =v
 apply aJ;intro
 generalize nx .. =ws
 intro h k
 obtain⟨r,vs,rfl,hr,hz,a⟩:=h
 refine aS rfl rfl (.of hr (.of (by exact cB hz rfl) (ej (fun k y=>[some (.ref r),some (.int (ws.take k).sum),y]) (fun _ _=>H) (fun _ _=>True) none vs trivial (fun _ _ _=>hr) (fun k y v _ hv=> ?_) fun y _=> ?_)))
 ·have hk:=(List.getElem?_eq_some_iff.mp hv).1
  have hw:ws[k]? =some (ws[k]'(by rw[←a.length];exact hk)):=List.getElem?_eq_getElem _
  obtain⟨u,hu,ru⟩:=a.get hw
  cases hv.symm.trans hu
  exact s499s ru ⟨some v,congrArg (fun x:Int=>[some (.ref r),some (.int x),some v]) (Ba hw).symm,rfl,trivial⟩
 ·show R (.int (ws.take vs.length).sum) H
  rw[a.length,List.take_length];exact k
end
structure nf(H:aa)(a:Nat)(vs:List PV)(l:List Nd):Prop where
 at_:H[a]? =some (.list vs)
 small:vs.length<1000
 all:bu (iu H) vs l
theorem nf.pre{H H':aa}{a:Nat}{vs:List PV}{l:List Nd}(p:Pre H H')(h:nf H a vs l):nf H' a vs l:=⟨p.get h.at_,h.small,h.all.mono fun _ _ x=>x.pre p⟩
theorem nf.len{H:aa}{a:Nat}{vs:List PV}{l:List Nd}(h:nf H a vs l):vs.length=l.length:=h.all.length
theorem nf.get{H:aa}{a:Nat}{vs:List PV}{l:List Nd}(h:nf H a vs l){i:Nat}{d:Nd}(e:l[i]? =some d):∃v,vs[i]? =some v∧iu H v d:=h.all.get e
noncomputable def skip:List Nd→Nat
 |[]=>0
 |d::r=>if d.dropped then skip r+1 else 0
theorem t5{d:Nd}{r:List Nd}:skip (d::r)=if d.dropped then skip r+1 else 0:=rfl
theorem skip_n:skip []=0:=rfl
theorem vB(l:List Nd):skip l≤l.length:=by
 induction l with
 |nil=>
  exact Nat.le_refl _
 |cons d r ih=>
  rw[t5]
  split
  ·exact Nat.succ_le_succ (ih)
  ·exact Nat.zero_le _
noncomputable def aU(l:List Nd)(p:Nat):Nat:=match l[p]? with
 |some (.bL _ post _)=>if post=[] then p+1+skip (l.drop (p+1)) else p+1
 |_=>p+skip (l.drop p)
theorem t7{Q:Nat→Prop}{l:List Nd}{p:Nat}(h1:∀a q m,l[p]? =some (.bL a q m)→Q (if q=[] then p+1+skip (l.drop (p+1)) else p+1))(h2:Q (p+skip (l.drop p))):Q (aU l p):=by
 unfold aU
 cases e:l[p]? with
 |none=>exact h2
 |some d=>
  cases d with
  |bL a q m=>exact h1 a q m e
  |_=>exact h2
theorem uc(l:List Nd)(p:Nat)(h:p≤l.length):aU l p≤l.length:=by
 refine t7 (Q:=fun x=>x≤l.length) (fun a q m e=> ?_) ?_
 ·have h1:=(List.getElem?_eq_some_iff.mp e).1
  have h2:=vB (l.drop (p+1))
  rw[List.length_drop] at h2
  by_cases z:q=[]
  ·rw[if_pos z];exact(Nat.le_sub_iff_add_le' h1).mp h2
  ·rw[if_neg z];exact h1
 ·have:=vB (l.drop p)
  rw[List.length_drop] at this
  exact(Nat.le_sub_iff_add_le' h).mp this
theorem kz{i n:Nat}(h:i<n)(h2:n<1000000):place (i:Int) n=some i:=by
 unfold place
 rw[if_pos h2,if_pos ⟨by exact Int.natCast_nonneg _,by exact Int.ofNat_lt.mpr h⟩]
 simp
theorem fe{vs:List PV}{i:Nat}{v:PV}(h:vs[i]? =some v)(hs:vs.length<1000):((place (i:Int) vs.length).bind fun m=>vs[m]?)=some v:=by
 rw[kz (List.getElem?_eq_some_iff.mp h).1 (by exact cB hs rfl)];exact h
section
variable {ns:List Int}{n:Nat}{H:aa}{a:Nat}{vs:List PV}{l:List Nd}{R:PV→aa→Prop}{E:XK→aa→Prop}
theorem Bb{test:Loc→aa→(aa→Prop)→(aa→Prop)→(XK→aa→Prop)→Prop}{body:Loc→aa→QL→EL→Prop}{Q:QL}{σ:Type}(L:σ→Loc)(M:σ→aa)(J:σ→Prop)(f:σ→Nat)(eR:σ)(j0:J eR)
  (step:∀s,J s→∀N:Loc→aa→Prop,(∀s',J s'→f s'<f s→N (L s') (M s'))→test (L s) (M s) (fun H=>body (L s) H (kM Q N) nES) (fun H=>Q .next (L s) H) nE):j1 test body (L eR) (M eR) Q:=by
 unfold j1
 refine⟨f eR,fun k loc H=>∃s,loc=L s∧H=M s∧J s∧f s=k,⟨eR,rfl,rfl,j0,rfl⟩,?_⟩
 rintro k _ _ ⟨s,rfl,rfl,j,rfl⟩
 exact step s j _ fun s' j' h=>⟨_,h,s',rfl,rfl,j',rfl⟩
theorem yh{q:Nat}{d:Nd}(h:l[q]? =some d):skip (l.drop q)=if d.dropped then skip (l.drop (q+1))+1 else 0:=by
 obtain⟨z,rfl⟩:=List.getElem?_eq_some_iff.mp h
 rw[←List.getElem_cons_drop z,t5]
theorem kA(h:nf H a vs l){Q:QL}(p:Nat)(hp:p≤l.length)(hq:Q .next [some (.ref a),some (.int ((p+skip (l.drop p):Nat):Int))] H):
  j1 (wT (aO ns) (aj (aO ns) (n+1)) (.and (.cmp .Lt (.var 1) (.bC .len (.cons (.var 0) .nil))) (.ah 624 (.cons (.item (.var 0) (.var 1)) .nil)))) (wSs (aO ns) (aj (aO ns) (n+1)) (.cons (.aug 1 .Add (.const (.int 1))) .nil)) [some (.ref a),some (.int (p:Int))] H Q:=by
 revert ns n H a vs l Q p
 apply aN;intro
 generalize bM .. =ns,bN .. =n,bQ .. =H,bR .. =a
 apply aP;intro
 generalize bP .. =vs,bS .. =l
 intro h
 apply aP;intro
 generalize bP .. =Q,bS .. =p
 intro hp hq
 have hs:=h.small
 have hl:=h.len
 refine Bb (fun q:Nat=>[some (.ref a),some (.int (q:Int))]) (fun _=>H) (fun q=>q≤l.length∧q+skip (l.drop q)=p+skip (l.drop p)) (fun q=>l.length - q) p ⟨hp,rfl⟩ ?_
 apply aJ;intro
 generalize nx .. =q
 intro j N hN
 refine .of h.at_ (.of (Nat.lt_trans hs (by decide)) (.of (fun z=> ?_) fun z=> ?_))
 ·have z':q<l.length:=by rw[←hl];exact Int.ofNat_lt.mp z
  have hd:=List.getElem?_eq_getElem z'
  obtain⟨v,hv,rv⟩:=h.get hd
  have e:=yh hd
  refine .of h.at_ (.of (fe hv hs) (s624 rv ?_))
  cases y:l[q].dropped with
  |true=>
   rw[y] at e
   exact hN (q+1) ⟨z',by rw[←j.2,e];exact(Nat.add_right_comm ..).symm▸rfl⟩ (by exact Nat.sub_succ_lt_self _ _ z')
  |false=>
   rw[y] at e
   have:=j.2
   rw[e] at this
   rw[←this] at hq
   exact hq
 ·have:q=l.length:=by exact ar41 hl j z
  have e:=j.2
  rw[this,List.drop_length,skip_n,←this] at e
  rw[←e] at hq
  exact hq
theorem iu.bL{v:PV}{d:Nd}(h:iu H v d)(k:d.kind=8):∃p q m,d=.bL p q m:=by
 cases d with
 |bL p q m=>exact⟨p,q,m,rfl⟩
 |box k w=>rcases h.1 with rfl|rfl<;>cases k
 |iU k=>rcases h.1 with rfl|rfl|rfl|rfl<;>cases k
 |_=>cases k
theorem iu.isGlue{v:PV}{d:Nd}(h:iu H v d)(k:d.kind=6):∃g,d=.glue g:=by
 cases d with
 |glue g=>exact⟨g,rfl⟩
 |box k w=>rcases h.1 with rfl|rfl<;>cases k
 |iU k=>rcases h.1 with rfl|rfl|rfl|rfl<;>cases k
 |_=>cases k
theorem vC{r e:Nat}{ws:List Int}{vs:List PV}{A B:Prop}(h1:H[r]? =some (.list vs))(h2:H[e]? =some (.list []))(h:bu (jd H₀) vs ws)(ha:ws=[]→A)(hb:ws≠[]→B):WO (n7 H (.ref r) (.ref e)) fun t=>wb t A B:=by
 refine .of (a:=vs.isEmpty) ?_ ?_
 ·unfold n7
  simp only[h1,h2]
  cases vs with
  |nil=>rfl
  |cons _ _=>rfl
 ·cases vs<;>cases ws
  ·exact ha rfl
  ·exact h.elim
  ·exact h.elim
  ·exact hb nofun
theorem s638(h:nf H a vs l){p:Nat}(hp:p≤l.length)(k:∀J,R (.int (aU l p:Nat)) (H++J)):Wc (aj (aO ns) (n+2) 638 [.ref a,.int (p:Int)] H) R E:=by
 revert ns n H a vs l R E p
 apply aT;intro
 generalize bX .. =ns,bY .. =n,bZ .. =H,b7 .. =a,cv .. =vs,cw .. =l,cx .. =R,cy .. =E
 intro h
 apply aJ;intro
 generalize nx .. =p
 intro hp k
 have hs:=h.small
 have hl:=h.len
 have k0:R (.int (aU l p:Nat)) H:=by have:=k [];rw[List.append_nil] at this;exact this
 have lt:vs.length<100000:=Nat.lt_trans hs (by decide)
 refine aS rfl rfl (.of h.at_ (.of lt (.of (fun z=> ?_) fun z=> ?_)))
 ·have z':p<l.length:=by rw[←hl];exact Int.ofNat_lt.mp z
  have hd:=List.getElem?_eq_getElem z'
  obtain⟨v,hv,rv⟩:=h.get hd
  have hv':=fe hv hs
  generalize l[p]=d at *
  refine .of h.at_ (.of hv' (.of (rv.kind ns) (.of (fun y=> ?_) fun y=> ?_)))
  ·obtain⟨x,post,w,rfl⟩:=rv.bL y
   obtain⟨_,u1,u2,u3,b1,b2,b3,b4,b5,b6⟩:=rv
   obtain⟨r,ws,rfl,hr,hz,al⟩:=b4
   have p1:Pre H (H++[.list []]):=⟨_,rfl⟩
   refine .of h.at_ (.of hv' (.of (b3 ns) (vC (p1.get hr) aX al (fun e=> ?_) fun e=> ?_)))
   ·have e:aU l p=p+1+skip (l.drop (p+1)):=by unfold aU;rw[hd];exact if_pos e
    rw[e] at k
    exact kA (h.pre p1) (p+1) z' (k _)
   ·have e:aU l p=p+1:=by unfold aU;rw[hd];exact if_neg e
    rw[e] at k
    exact k _
  ·have e:aU l p=p+skip (l.drop p):=by
    unfold aU
    rw[hd]
    cases d with
    |bL _ _ _=>exact absurd rfl y
    |_=>rfl
   rw[e] at k0
   exact kA h p hp k0
 ·have e:aU l p=p+skip (l.drop p):=by
   unfold aU
   rw[List.getElem?_eq_none (by exact ar42 hl z)]
  rw[e] at k0
  exact kA h p hp k0
end
noncomputable def Gl.sm(g:Gl):Sm:=⟨g.w,if g.so=0 then g.st else 0,if g.so=1 then g.st else 0,if g.so=2 then g.st else 0,if g.so=3 then g.st else 0,g.sh⟩
noncomputable def Nd.sm:Nd→Sm
 |.glue g=>g.sm
 |.bL _ _ m=>⟨m.sum,0,0,0,0,0⟩
 |.box _ w=>⟨w,0,0,0,0,0⟩|.rule w=>⟨w,0,0,0,0,0⟩|.bF w _=>⟨w,0,0,0,0,0⟩|.math _ w=>⟨w,0,0,0,0,0⟩|.pen _=>⟨0,0,0,0,0,0⟩|.iU _=>⟨0,0,0,0,0,0⟩
noncomputable def total:List Nd→Sm
 |[]=>.zero
 |d::r=>d.sm.add (total r)
theorem jO{d:Nd}{r:List Nd}:total (d::r)=d.sm.add (total r):=rfl
theorem jP:total []=.zero:=rfl
theorem Sm.zero_add(s:Sm):Sm.zero.add s=s:=by simp[Sm.zero,Sm.add]
theorem Sm.add_zero(s:Sm):s.add .zero=s:=by simp[Sm.zero,Sm.add]
theorem Sm.add_assoc(s t u:Sm):(s.add t).add u=s.add (t.add u):=by simp[Sm.add,Int.add_assoc]
theorem aZ:∀l m:List Nd,total (l++m)=(total l).add (total m)
 |[],m=>by rw[List.nil_append,jP,Sm.zero_add]
 |d::r,m=>by rw[List.cons_append,jO,aZ r m,jO,Sm.add_assoc]
theorem nh{l:List Nd}{k:Nat}{d:Nd}(h:l[k]? =some d):total (l.take (k+1))=(total (l.take k)).add d.sm:=by
 rw[List.take_add_one,h,aZ]
 simp[jO,jP,Sm.add_zero]
noncomputable def Nd.bad:Nd→Bool
 |.glue g=>g.bJ !=0
 |_=>false
def Nd.bD:Nd→Prop
 |.glue g=>0≤g.so∧g.so≤3
 |_=>True
section
variable {ns:List Int}{n:Nat}{H:aa}{a:Nat}{vs:List PV}{l:List Nd}{R:PV→aa→Prop}{E:XK→aa→Prop}
theorem set6{s:Sm}{j:Int}(h:0≤j∧j<6):0≤j∧j<s.ls.length∧s.ls.length<100000:=⟨h.1,h.2,(by decide:6<100000)⟩
noncomputable def Sm.nU(s:Sm)(j:Nat):Int:=match j with
 |0=>s.a|1=>s.b|2=>s.c|3=>s.d|4=>s.e|_=>s.f
noncomputable def Sm.put(s:Sm)(j:Nat)(x:Int):Sm:=match j with
 |0=>{s with a:=x}|1=>{s with b:=x}|2=>{s with c:=x}|3=>{s with d:=x}|4=>{s with e:=x}|_=>{s with f:=x}
def Ix(j:Int)(m:Nat):Prop:=m<6∧j=m
theorem six{p:Nat→Prop}{m:Nat}(h:m<6)(h0:p 0)(h1:p 1)(h2:p 2)(h3:p 3)(h4:p 4)(h5:p 5):p m:=
 match m,h with
 |0,_=>h0|1,_=>h1|2,_=>h2|3,_=>h3|4,_=>h4|5,_=>h5
 |_+6,h=>absurd h (Nat.not_lt.mpr (Nat.le_add_left _ _))
theorem get6{s:Sm}{j:Int}{m:Nat}(h:Ix j m):((place j s.ls.length).bind fun m=>s.ls[m]?)=some (.int (s.nU m)):=by
 obtain⟨h,rfl⟩:=h
 rw[kz (show m<s.ls.length from h) (by decide:6<1000000)]
 exact six (p:=fun m=>s.ls[m]? =some (.int (s.nU m))) h rfl rfl rfl rfl rfl rfl
theorem put6{s:Sm}{j:Int}{m:Nat}{x:Int}(h:Ix j m):s.ls.set j.toNat (.int x)=(s.put m x).ls:=by
 obtain⟨h,rfl⟩:=h
 exact six (p:=fun m=>s.ls.set m (.int x)=(s.put m x).ls) h rfl rfl rfl rfl rfl rfl
theorem aug6{r:Nat}{s:Sm}{j x:Int}{m:Nat}{K:aa→Prop}(hr:H[r]? =some (.list s.ls))(h:Ix j m)(k:K (H.set r (.list (s.put m x).ls))):f7 H (.ref r) (.int j) (.int x) K:=by
 rw[←put6 h] at k
 exact .of hr (.of (set6 (by obtain⟨h,rfl⟩:=h;exact⟨Int.natCast_nonneg _,Int.ofNat_lt.mpr h⟩)) k)
theorem aug6'{r:Nat}{s:Sm}{j x:Int}{m:Nat}{o p:aH}{K:aa→Prop}(hr:H[r]? =some p)(h:Ix j m)(k:K (H.set r (.list (s.put m x).ls)))(ho:o=.list s.ls):f7 (H.set r o) (.ref r) (.int j) (.int x) K:=by
 subst ho
 refine aug6 (getset hr) h ?_
 rw[List.set_set];exact k
theorem rR{r:Nat}{s:Sm}{j:Int}{m:Nat}{K:PV→Prop}(hr:H[r]? =some (.list s.ls))(h:Ix j m)(k:K (.int (s.nU m))):kL H (.ref r) (.int j) K:=.of hr (.of (get6 h) k)
theorem add0{x b c d e y b' c' d' e':Int}(h1:b=b')(h2:c=c')(h3:d=d')(h4:e=e'):Sm.mk x b c d e y=Sm.mk x b' c' d' e' y:=by rw[h1,h2,h3,h4]
theorem put_sm{s:Sm}{g:Gl}{m:Nat}(hm:Ix (1+g.so) m)(h0:0≤g.so)(h3:g.so≤3):(((s.put 0 (s.nU 0+g.w)).put m ((s.put 0 (s.nU 0+g.w)).nU m+g.st)).put 5 (((s.put 0 (s.nU 0+g.w)).put m ((s.put 0 (s.nU 0+g.w)).nU m+g.st)).nU 5+g.sh))=s.add g.sm:=by
 obtain⟨w,st,so,sh,bJ⟩:=g
 obtain⟨hm,e⟩:=hm
 obtain⟨k,rfl⟩:=Int.eq_ofNat_of_zero_le h0
 have h3:(k:Int)≤3:=h3
 obtain rfl:1+k=m:=Int.ofNat.inj e
 rcases ar38 h3 with rfl|rfl|rfl|rfl
 ·exact add0 rfl (Int.add_zero _).symm (Int.add_zero _).symm (Int.add_zero _).symm
 ·exact add0 (Int.add_zero _).symm rfl (Int.add_zero _).symm (Int.add_zero _).symm
 ·exact add0 (Int.add_zero _).symm (Int.add_zero _).symm rfl (Int.add_zero _).symm
 ·exact add0 (Int.add_zero _).symm (Int.add_zero _).symm (Int.add_zero _).symm rfl
theorem Aq.setL{r:Nat}{v x:PV}{m:Nat}{o p:List PV}(h:Aq H v m x)(hr:H[r]? =some (.list p)):Aq (H.set r (.list o)) v m x:=
 h.get fun i c fs e=>by
  rw[bz (by rintro rfl;rw[hr] at e;cases e)];exact e
theorem s645{r:Nat}{v:PV}{s:Sm}{g:Gl}(hr:H[r]? =some (.list s.ls))(hg:yg H v g)(h0:0≤g.so)(h3:g.so≤3)(k:g.bJ=0→R .none (H.set r (.list (s.add g.sm).ls)))(ke:g.bJ≠0→E .flying H):
  Wc (aj (aO ns) (n+1) 645 [.ref r,v] H) R E:=by
 refine aS rfl rfl (.of (hg.bJ ns) (.of (fun z=> ?_) fun z=>ke z))
 have z0:Ix 0 0:=⟨by decide,rfl⟩
 have z5:Ix 5 5:=⟨by decide,rfl⟩
 obtain⟨m,z1⟩:∃m,Ix (1+g.so) m:=⟨(1+g.so).toNat,by exact ar37 h3,by exact(Int.toNat_of_nonneg (Int.add_nonneg (by decide) h0)).symm⟩
 have k:=k z
 rw[←put_sm z1 h0 h3] at k
 generalize hs1:s.put 0 (s.nU 0+g.w)=s1 at k
 generalize hs2:s1.put m (s1.nU m+g.st)=s2 at k
 have r1:∀{o},(H.set r o)[r]? =some o:=getset hr
 refine rR hr z0 (.of (hg.w ns) (aug6 hr z0 ?_))
 rw[hs1]
 refine .of ((hg.so.setL hr) ns) (rR r1 z1 (.of ((hg.st.setL hr) ns) (aug6' hr z1 ?_ rfl)))
 rw[hs2]
 exact rR r1 z5 (.of ((hg.sh.setL hr) ns) (aug6' hr z5 k rfl))
end
noncomputable def cL(l:List Nd):Bool:=l.any Nd.bad
noncomputable def ix(l:List Nd):List PV:=(List.range (l.length+1)).map fun k=>(total (l.take k)).pv
theorem ud{l:List Nd}{k:Nat}(h:k≤l.length):(ix l)[k]? =some (total (l.take k)).pv:=by
 unfold ix
 rw[List.getElem?_map,List.getElem?_range (by exact Nat.lt_succ_of_le h)]
 rfl
section
variable {ns:List Int}{n:Nat}{H:aa}{a:Nat}{vs:List PV}{l:List Nd}{R:PV→aa→Prop}{E:XK→aa→Prop}
theorem iu.plain{v:PV}{d:Nd}(h1:d.kind≠6)(h2:d.kind≠8):d.bad=false∧d.sm=⟨d.wid,0,0,0,0,0⟩:=by
 cases d<;>first|exact⟨rfl,rfl⟩|exact absurd rfl h1|exact absurd rfl h2
theorem put_a{s:Sm}{x:Int}:s.put 0 (s.nU 0+x)=s.add ⟨x,0,0,0,0,0⟩:=by show Sm.mk (s.a+x) s.b s.c s.d s.e s.f=Sm.mk _ _ _ _ _ _;simp
theorem yi{v:PV}{d:Nd}{s:Sm}{r:Nat}(hd:iu H v d)(hf:d.bD)(hr:H[r]? =some (.list s.ls)){Q:QL}{E:EL}{x0 x2:Option PV}
  (hq:d.bad=false→Q .next [x0,some (.ref r),x2,some v] (H.set r (.list (s.add d.sm).ls))) (he:d.bad=true→E .flying [x0,some (.ref r),x2,some v] H):
  wS (aO ns) (aj (aO ns) (n+2)) (.ite (.cmp .Eq (.attr (.var 3) 5) (.const (.int 6)))
   (.cons (.expr (.ah 645 (.cons (.var 1) (.cons (.attr (.var 3) 14) .nil)))) .nil)
   (.cons (.ite (.cmp .Eq (.attr (.var 3) 5) (.const (.int 8)))
    (.cons (.lx (.var 1) (.const (.int 0)) .Add (.ah 652 (.cons (.attr (.var 3) 19) .nil))) .nil)
    (.cons (.lx (.var 1) (.const (.int 0)) .Add (.ah 499 (.cons (.var 3) .nil))) .nil)) .nil)) [x0,some (.ref r),x2,some v] H Q E:=by
 revert ns n H v d s r Q E x0 x2
 apply aN;intro
 generalize bM .. =ns,bN .. =n,bQ .. =H,bR .. =v
 apply aP;intro
 generalize bP .. =d,bS .. =s
 apply aJ;intro
 generalize nx .. =r
 intro hd hf hr
 apply aN;intro
 generalize bM .. =Q,bN .. =E,bQ .. =x0,bR .. =x2
 intro hq he
 have z0:Ix 0 0:=⟨by decide,rfl⟩
 refine .of (hd.kind ns) (.of (fun z=> ?_) fun z=>.of (hd.kind ns) (.of (fun y=> ?_) fun y=> ?_))
 ·obtain⟨g,rfl⟩:=hd.isGlue z
  obtain⟨_,u,h14,hg⟩:=hd
  exact .of (h14 ns) (s645 hr hg hf.1 hf.2 (fun h0=>hq (by delta Nd.bad;simp[h0])) fun h0=>he (by delta Nd.bad;simp[h0]))
 ·obtain⟨p,q,m,rfl⟩:=hd.bL y
  obtain⟨_,u1,u2,u3,b1,b2,b3,b4,b5,b6⟩:=hd
  have k:=hq rfl
  rw[show Nd.sm (.bL p q m)=⟨m.sum,0,0,0,0,0⟩ from rfl,←put_a] at k
  exact rR hr z0 (.of (b5 ns) (s652 b6 (aug6 hr z0 k)))
 ·obtain⟨hb,hs⟩:=iu.plain (v:=v) z y
  have k:=hq hb
  rw[hs,←put_a] at k
  exact rR hr z0 (s499 hd z y (aug6 hr z0 k))
theorem forRef{body:Loc→aa→QL→EL→Prop}{cg:List Nat}{sr:Src}{Q:QL}{E:EL}{i j:Nat}{x y z:Option PV}{H':aa}(e:i=j)(h:mn body cg sr [x,y,some (.ref j),z] H' Q E):mn body cg sr [x,y,some (.ref i),z] H' Q E:=by subst e;exact h
def s659R(l:List Nd)(H:aa)(r:Nat)(H':aa)(C:Prop):Prop:=cL l=false→H.length≤r→Pre H H'→H'[r]? =some (.list (ix l))→C
structure SumJ(H:aa)(l:List Nd)(k:Nat)(s:aa×Option PV):Prop where
 pre:Pre H s.1
 ok:cL (l.take k)=false
 g1:s.1[H.length]? =some (.list (total (l.take k)).ls)
 g2:s.1[H.length+1]? =some (.list ((List.range (k+1)).map fun k=>(total (l.take k)).pv))
theorem s659(h:nf H a vs l)(hf:∀d∈l,d.bD)(k:Kt PV.ref (s659R l H) R)(ke:cL l=true→∀H',Pre H H'→E .flying H'):Wc (aj (aO ns) (n+3) 659 [.ref a] H) R E:=by
 revert ns n H a vs l R E
 apply aT;intro
 generalize bX .. =ns,bY .. =n,bZ .. =H,b7 .. =a,cv .. =vs,cw .. =l,cx .. =R,cy .. =E
 intro h hf k ke
 have k:=kt k
 have hs:=h.small
 have hl:=h.len
 have p1:Pre H (H++[aH.list Sm.zero.ls]++[aH.list [Sm.zero.pv]]):=((Pre.refl H).app _).app _
 have j6:H.length≠H.length+1:=(Nat.succ_ne_self _).symm
 have lt:vs.length<100000:=Nat.lt_trans hs (by decide)
 have el:(H++[aH.list Sm.zero.ls]).length=H.length+1:=by rw[List.length_append];rfl
 refine aS rfl rfl (.of (by decide:6<100000) (.of (p1.get h.at_) (.of lt ?_)))
 refine forRef el ?_
 refine ej (fun k (s:aa×Option PV)=>[some (.ref a),some (.ref H.length),some (.ref (H.length+1)),s.2]) (fun _ s=>s.1) (SumJ H l) (_,none) vs ⟨p1,rfl,?_,?_⟩ (fun k s j=>j.pre.get h.at_) (?_) fun s j=> ?_
 ·rw[List.getElem?_append_left (el.symm▸Nat.lt_succ_self _)];exact aX
 ·rw[←el];exact aX
 ·apply aP;intro
  generalize bP .. =k,bS .. =s
  apply aJ;intro
  generalize nx .. =v
  intro j hv
  have hk:=(List.getElem?_eq_some_iff.mp hv).1
  have hd:=List.getElem?_eq_getElem (l:=l) (by exact Nat.lt_of_lt_of_eq hk hl:k<l.length)
  obtain⟨u,hu,ru⟩:=h.get hd
  cases hv.symm.trans hu
  have dm:=List.mem_of_getElem? hd
  generalize l[k]=d at *
  refine yi (s:=total (l.take k)) (ru.pre j.pre) (hf d dm) j.g1 (fun uS=> ?_) fun uS=>ke (List.any_eq_true.mpr ⟨d,dm,uS⟩) _ j.pre
  have g2':=(bz (o:=.list ((total (l.take k)).add d.sm).ls) j6).trans j.g2
  refine .of g2' (.of (getset j.g1) (.of (by decide:6<100000) (.of g2' (.of ?_ ⟨(_,_),rfl,rfl,(j.pre.set (Nat.le_refl _)).set (Nat.le_succ _),?_,?_,?_⟩))))
  ·rw[List.length_map,List.length_range];exact bE 1 (Nat.lt_trans hk hs) rfl
  ·rw[cL,List.take_add_one,hd,List.any_append]
   show(cL (l.take k) || _)=false
   rw[j.ok]
   simp[uS]
  ·exact(bz j6.symm).trans ((getset j.g1).trans (by rw[nh hd]))
  ·refine(getset g2').trans ?_
   rw[List.range_succ (n:=k+1),List.map_append,List.map_cons,List.map_nil,nh hd]
   rfl
 ·have b:=j.ok
  have g:=j.g2
  rw[hl] at b g
  rw[List.take_length] at b
  exact k _ _ b (Nat.le_succ _) j.pre g
end
noncomputable def Nd.isGl:Nd→Bool
 |.glue _=>true
 |.box _ _=>false|.rule _=>false|.bF _ _=>false|.pen _=>false|.bL _ _ _=>false|.math _ _=>false|.iU _=>false
noncomputable def cE:List Nd→Bool
 |[]=>false
 |d::_=>d.isGl
noncomputable def dh(hp xp:Int)(may cN:Bool)(d:Nd)(r:List Nd):Int:=match d with
 |.glue _=>if may && cN then 0 else 10000
 |.pen v=>v
 |.bL p _ _=>if p=[] then xp else hp
 |.math on _=>if !on && cE r then 0 else 10000
 |.bF _ s=>if s=1∧may=true∧cE r=true then 0 else 10000
 |.box _ _=>10000|.rule _=>10000|.iU _=>10000
noncomputable def fN(may:Bool):Nd→Bool
 |.math on _=> !on
 |.box _ _=>may|.rule _=>may|.bF _ _=>may|.glue _=>may|.pen _=>may|.bL _ _ _=>may|.iU _=>may
noncomputable def fV:Nd→Int
 |.bL _ _ _=>1
 |.box _ _=>0|.rule _=>0|.bF _ _=>0|.glue _=>0|.pen _=>0|.math _ _=>0|.iU _=>0
noncomputable def er(x:Int):Int:=if -10000>x then -10000 else x
noncomputable def aQ(hp xp:Int):Bool→Bool→Nat→List Nd→List (Nat×Int×Int)
 |_,_,_,[]=>[]
 |may,cN,i,d::r=>(if dh hp xp (fN may d) cN d r<10000 then [(i,er (dh hp xp (fN may d) cN d r),fV d)] else [])++aQ hp xp (fN may d) (!d.dropped) (i+1) r
noncomputable def brk(p:Nat×Int×Int):PV:=.tup [.int p.1,.int p.2.1,.int p.2.2]
theorem kB(hp xp:Int)(may cN:Bool)(d:Nd)(r:List Nd):dh hp xp (fN may d) cN d r=dh hp xp may cN d r:=by
 cases d<;>rfl
theorem gq{hp xp:Int}{may cN:Bool}{i:Nat}{d:Nd}{r:List Nd}:aQ hp xp may cN i (d::r)=(if dh hp xp (fN may d) cN d r<10000 then [(i,er (dh hp xp (fN may d) cN d r),fV d)] else [])++aQ hp xp (fN may d) (!d.dropped) (i+1) r:=rfl
theorem Bc{hp xp:Int}{may cN:Bool}{i:Nat}:aQ hp xp may cN i []=[]:=rfl
theorem ue(hp xp:Int)(l:List Nd):∀(may cN:Bool) (i:Nat),(aQ hp xp may cN i l).length≤l.length:=by
 induction l with
 |nil=>
  intro _ _ _
  exact Nat.le_refl _
 |cons d r ih=>
  intro may cN i
  rw[gq]
  rw[List.length_append]
  have:=ih (fN may d) (!d.dropped) (i+1)
  rw[List.length_cons]
  split<;>simp<;>lia
theorem ne{a b:Int}(h:decide (a=b)=false):¬a=b:=of_decide_eq_false h
theorem iu.split{H:aa}{v:PV}{d:Nd}(h:iu H v d):(∃g,d=.glue g)∨(∃x,d=.pen x)∨(∃p q m,d=.bL p q m)∨(∃on w,d=.math on w)∨(∃w s,d=.bF w s)∨
  (d.kind≠6∧d.kind≠7∧d.kind≠8∧d.kind≠12∧d.kind≠5)∧(∀hp xp may cN r,dh hp xp may cN d r=10000)∧(∀may,fN may d=may)∧fV d=0:=by
 cases d with
 |glue g=>exact .inl ⟨g,rfl⟩
 |pen x=>exact .inr (.inl ⟨x,rfl⟩)
 |bL p q m=>exact .inr (.inr (.inl ⟨p,q,m,rfl⟩))
 |math on w=>exact .inr (.inr (.inr (.inl ⟨on,w,rfl⟩)))
 |bF w s=>exact .inr (.inr (.inr (.inr (.inl ⟨w,s,rfl⟩))))
 |box k w=>refine .inr (.inr (.inr (.inr (.inr ⟨?_,fun _ _ _ _ _=>rfl,fun _=>rfl,rfl⟩))));rcases h.1 with rfl|rfl<;>exact⟨ne rfl,ne rfl,ne rfl,ne rfl,ne rfl⟩
 |rule w=>exact .inr (.inr (.inr (.inr (.inr ⟨⟨ne rfl,ne rfl,ne rfl,ne rfl,ne rfl⟩,fun _ _ _ _ _=>rfl,fun _=>rfl,rfl⟩))))
 |iU k=>refine .inr (.inr (.inr (.inr (.inr ⟨?_,fun _ _ _ _ _=>rfl,fun _=>rfl,rfl⟩))));rcases h.1 with rfl|rfl|rfl|rfl<;>exact⟨ne rfl,ne rfl,ne rfl,ne rfl,ne rfl⟩
theorem qj{H:aa}{v:PV}{d:Nd}{r:List Nd}(h:iu H v d):cE (d::r)=decide (d.kind=6):=by
 cases d with
 |box k w=>rcases h.1 with rfl|rfl<;>rfl
 |iU k=>rcases h.1 with rfl|rfl|rfl|rfl<;>rfl
 |_=>rfl
section
variable {ns:List Int}{n:Nat}{H:aa}{a:Nat}{vs:List PV}{l:List Nd}{R:PV→aa→Prop}{E:XK→aa→Prop}
noncomputable def Be:IS:=.ite (.and (.var 3) (.and (.cmp .Lt (.bin .Add (.var 5) (.const (.int 1))) (.bC .len (.cons (.var 0) .nil))) (.cmp .Eq (.attr (.item (.var 0) (.bin .Add (.var 5) (.const (.int 1)))) 5) (.const (.int 6)))))
       (.cons (.assign 8 (.const (.int 0))) .nil) .nil
theorem vD(h:nf H a vs l){k:Nat}{m:Bool}{x1 x2 x4 x6 x7 x9:Option PV}{Q:QL}{E:EL}
  (hq:Q .next [some (.ref a),x1,x2,some (.bool m),x4,some (.int (k:Int)),x6,x7,some (.int (if(m && cE (l.drop (k+1)))=true then 0 else 10000)),x9] H):
  wS (aO ns) (aj (aO ns) n) Be [some (.ref a),x1,x2,some (.bool m),x4,some (.int (k:Int)),x6,x7,some (.int 10000),x9] H Q E:=by
 revert ns n H a vs l k m x1 x2 x4 x6 x7 x9 Q E
 apply aN;intro
 generalize bM .. =ns,bN .. =n,bQ .. =H,bR .. =a
 apply aP;intro
 generalize bP .. =vs,bS .. =l
 intro h
 apply aT;intro
 generalize bX .. =k,bY .. =m,bZ .. =x1,b7 .. =x2,cv .. =x4,cw .. =x6,cx .. =x7,cy .. =x9
 apply aP;intro
 generalize bP .. =Q,bS .. =E
 intro hq
 have hs:=h.small
 have hl:=h.len
 cases m with
 |false=>exact hq
 |true=>
  rw[Bool.true_and] at hq
  refine .of h.at_ (.of (Nat.lt_trans hs (by decide)) (.of (fun z=> ?_) fun z=> ?_))
  ·have z':k+1<l.length:=by rw[←hl];exact Int.ofNat_lt.mp z
   have hd:=List.getElem?_eq_getElem z'
   obtain⟨v,hv,rv⟩:=h.get hd
   rw[iq z',qj rv] at hq
   refine .of h.at_ (.of (fe hv hs) (.of (rv.kind ns) (.of (fun y=> ?_) fun y=> ?_)))
   ·rw[decide_eq_true y] at hq;exact hq
   ·rw[decide_eq_false y] at hq;exact hq
  ·rw[List.drop_eq_nil_of_le (by exact ar47 hl z)] at hq
   exact hq
noncomputable def stPen:IS:=.ite (.cmp .Eq (.var 7) (.const (.int 6)))
   (.cons (.ite (.and (.var 3) (.var 4))
    (.cons (.assign 8 (.const (.int 0))) .nil) .nil) .nil)
   (.cons (.ite (.cmp .Eq (.var 7) (.const (.int 7)))
    (.cons (.assign 8 (.attr (.var 6) 16)) .nil)
    (.cons (.ite (.cmp .Eq (.var 7) (.const (.int 8)))
     (.cons (.assign 9 (.const (.int 1)))
     (.cons (.assign 8 (.ite (.cmp .NotEq (.attr (.var 6) 17) (.list .nil)) (.attr (.var 1) 37) (.attr (.var 1) 38))) .nil))
     (.cons (.ite (.or (.cmp .Eq (.var 7) (.const (.int 12))) (.and (.cmp .Eq (.var 7) (.const (.int 5))) (.cmp .Eq (.attr (.var 6) 13) (.const (.int 1)))))
      (.cons (.ite (.cmp .Eq (.var 7) (.const (.int 12)))
       (.cons (.assign 3 (.not (.attr (.var 6) 25))) .nil) .nil)
      (.cons Be .nil)) .nil) .nil)) .nil)) .nil)
theorem Bf(h:nf H a vs l){st v:PV}{S:bp}(hS:fU H st S){k:Nat}{d:Nd}(rv:iu H v d){may cN:Bool}{x2:Option PV}{Q:QL}{E:EL}
  (hq:∀H',Pre H H'→Q .next [some (.ref a),some st,x2,some (.bool (fN may d)),some (.bool cN),some (.int k),some v,some (.int d.kind),some (.int (dh S.bT S.ex may cN d (l.drop (k+1)))),some (.int (fV d))] H'):
  wS (aO ns) (aj (aO ns) n) stPen [some (.ref a),some st,x2,some (.bool may),some (.bool cN),some (.int k),some v,some (.int d.kind),some (.int 10000),some (.int 0)] H Q E:=by
 revert ns n H a vs l st v S k d may cN x2 Q E
 apply aN;intro
 generalize bM .. =ns,bN .. =n,bQ .. =H,bR .. =a
 apply aP;intro
 generalize bP .. =vs,bS .. =l
 intro h
 apply aP;intro
 generalize bP .. =st,bS .. =v
 apply aJ;intro
 generalize nx .. =S
 intro hS
 apply aP;intro
 generalize bP .. =k,bS .. =d
 intro rv
 apply aN;intro
 generalize bM .. =may,bN .. =cN,bQ .. =x2,bR .. =Q
 apply aJ;intro
 generalize nx .. =E
 intro hq
 have Bg:=hq H (.refl _)
 rcases rv.split with⟨g,rfl⟩|⟨x,rfl⟩|⟨p,q,m,rfl⟩|⟨on,w,rfl⟩|⟨w,s,rfl⟩|⟨⟨h6,h7,h8,pI,h5⟩,e1,e2,e3⟩
 ·refine .pos rfl ?_
  cases may<;>cases cN<;>exact Bg
 ·exact .neg (ne rfl) (.pos rfl (.of (rv.2 ns) Bg))
 ·obtain⟨_,u1,u2,u3,b1,b2,_⟩:=rv
  obtain⟨r,ws,rfl,hr,hz,al⟩:=b2
  have p1:Pre H (H++[.list []]):=⟨_,rfl⟩
  have hq1:=hq _ p1
  dsimp only[dh] at hq1
  refine .neg (ne rfl) (.neg (ne rfl) (.pos rfl (.of (b1 ns) (vC (p1.get hr) aX al (fun e=> ?_) fun e=> ?_))))
  ·rw[if_pos e] at hq1
   exact .of ((hS.pre p1).ex ns) hq1
  ·rw[if_neg e] at hq1
   exact .of ((hS.pre p1).bT ns) hq1
 ·exact .neg (ne rfl) (.neg (ne rfl) (.neg (ne rfl) (.pos rfl (.pos rfl (.of (rv.2.1 ns) (vD h Bg))))))
 ·refine .neg (ne rfl) (.neg (ne rfl) (.neg (ne rfl) (.neg (ne rfl) (.pos rfl (.of (rv.2.2 ns) (.of (fun z=> ?_) fun z=> ?_))))))
  ·refine .neg (ne rfl) (vD h ?_)
   dsimp only[dh] at Bg
   have e:(if s=1∧may=true∧cE (l.drop (k+1))=true then(0:Int) else 10000)=if(may && cE (l.drop (k+1)))=true then 0 else 10000:=by simp only[z,true_and,Bool.and_eq_true]
   rw[e] at Bg
   exact Bg
  ·dsimp only[dh] at Bg
   rw[if_neg fun y=>z y.1] at Bg
   exact Bg
 ·rw[e1,e2,e3] at Bg
  exact .neg h6 (.neg h7 (.neg h8 (.neg pI (.neg h5 Bg))))
noncomputable def bj(S:bp)(l:List Nd):List (Nat×Int×Int):=aQ S.bT S.ex true false 0 l++[(l.length,-10000,1)]
structure LgS where
 H:aa
 may:Bool
 cN:Bool
 done:List (Nat×Int×Int)
 (y5 y6 y7 y8 y9:Option PV)
instance:Nonempty LgS:=⟨⟨[],true,true,[],none,none,none,none,none⟩⟩
structure LgJ(H:aa)(S:bp)(l:List Nd)(k:Nat)(s:LgS):Prop where
 pre:Pre H s.H
 len:s.done.length≤k
 at_:s.H[H.length]? =some (.list (s.done.map brk))
 eq:s.done++aQ S.bT S.ex s.may s.cN k (l.drop k)=aQ S.bT S.ex true false 0 l
def newG(H:aa)(l:List PV)(r:Nat)(H':aa)(C:Prop):Prop:=H.length≤r→Pre H H'→H'[r]? =some (.list l)→C
theorem s631(h:nf H a vs l){st:PV}{S:bp}(hS:fU H st S)(k:Kt PV.ref (newG H ((bj S l).map brk)) R):Wc (aj (aO ns) (n+2) 631 [.ref a,st] H) R E:=by
 revert ns n H a vs l R E st S
 apply aT;intro
 generalize bX .. =ns,bY .. =n,bZ .. =H,b7 .. =a,cv .. =vs,cw .. =l,cx .. =R,cy .. =E
 intro h
 apply aP;intro
 generalize bP .. =st,bS .. =S
 intro hS k
 have k:=kt k
 have hs:=h.small
 have hl:=h.len
 have lt:vs.length<100000:=Nat.lt_trans hs (by decide)
 have p1:Pre H (H++[aH.list []]):=(Pre.refl H).app _
 refine aS rfl rfl (.of (p1.get h.at_) (.of lt ?_))
 refine vA (fun k (s:LgS)=>[some (.ref a),some st,some (.ref H.length),some (.bool s.may),some (.bool s.cN),s.y5,s.y6,s.y7,s.y8,s.y9]) (fun _ s=>s.H) (LgJ H S l) ⟨H++[.list []],true,false,[],none,none,none,none,none⟩ vs ⟨p1,Nat.le_refl _,aX,rfl⟩ (fun k s j=>j.pre.get h.at_) (?_) ?_
 ·apply aP;intro
  generalize bP .. =k,bS .. =s
  apply aJ;intro
  generalize nx .. =v
  intro j hv
  have hk:=(List.getElem?_eq_some_iff.mp hv).1
  have sF:k<l.length:=by exact Nat.lt_of_lt_of_eq hk hl
  have hd:=List.getElem?_eq_getElem sF
  obtain⟨u,hu,ru⟩:=h.get hd
  cases hv.symm.trans hu
  have he:=j.eq
  rw[iq sF,gq,kB] at he
  generalize l[k]=d at *
  refine .of (ru.pre j.pre |>.kind ns) ?_
  refine Bf (h.pre j.pre) (hS.pre j.pre) (ru.pre j.pre) fun H2 p2=> ?_
  have g2:=p2.get j.at_
  have pp:=j.pre.trans p2
  have ld:=j.len
  refine .of (fun z=> ?_) fun z=> ?_
  ·rw[if_pos z] at he
   refine .of g2 (.of g2 (.of (by rw[List.length_map];exact cB (Nat.lt_of_le_of_lt ld (Nat.lt_trans hk hs)) rfl) (s624 (ru.pre (pp.set (Nat.le_refl _))) ⟨⟨_,fN s.may d,!d.dropped,s.done++[(k,er (dh S.bT S.ex s.may s.cN d (l.drop (k+1))),fV d)],_,_,_,_,_⟩,rfl,rfl,pp.set (Nat.le_refl _),?_,?_,?_⟩)))
   ·rw[List.length_append];exact Nat.succ_le_succ ld
   ·rw[List.map_append];exact getset g2
   ·rw[List.append_assoc];exact he
  ·rw[if_neg z] at he
   exact s624 (ru.pre pp) ⟨⟨_,fN s.may d,!d.dropped,s.done,_,_,_,_,_⟩,rfl,rfl,pp,Nat.le_succ_of_le ld,g2,he⟩
 ·apply aJ;intro
  generalize nx .. =s
  intro j
  have g:=j.at_
  have he:=j.eq
  have ld:=j.len
  rw[hl,List.drop_length,Bc,List.append_nil] at he
  refine .of g (.of (j.pre.get h.at_) (.of lt (.of g (.of (by rw[List.length_map];exact Nat.lt_of_le_of_lt ld lt) (k _ _ (Nat.le_refl _) (j.pre.set (Nat.le_refl _)) ?_)))))
  rw[bj,List.map_append,←he,←hl]
  exact getset g
end
structure Row where
 (place:Nat) (pen sort:Int) (start:Nat) (bg en:Sm)
instance:Nonempty Row:=⟨⟨0,0,0,0,.zero,.zero⟩⟩
noncomputable def Row.pv(r:Row):PV:=.tup [.int r.place,.int r.pen,.int r.sort,.int r.start,r.bg.pv,r.en.pv]
noncomputable def Sm.widen(s:Sm)(x:Int):Sm:={s with a:=s.a+x}
noncomputable def rowOf(l:List Nd)(b:Nat×Int×Int):Row:=match l[b.1]? with
 |some (.bL p q _)=>⟨b.1,b.2.1,b.2.2,aU l b.1,(total (l.take (aU l b.1))).widen (-q.sum),(total (l.take b.1)).widen p.sum⟩
 |_=>⟨b.1,b.2.1,b.2.2,aU l b.1,total (l.take (aU l b.1)),total (l.take b.1)⟩
noncomputable def rowsOf(S:bp)(l:List Nd):List Row:=(bj S l).map (rowOf l)
theorem ni{hp xp:Int}{l:List Nd}:∀{may cN:Bool} {i:Nat} {b:Nat×Int×Int},b∈aQ hp xp may cN i l→∃j d,l[j]? =some d∧b.1=i+j∧b.2.2=fV d:=by
 induction l with
 |nil=>
  intro _ _ _ _ h
  exact absurd h List.not_mem_nil
 |cons d r ih=>
  intro may cN i b h
  rw[gq] at h
  rcases List.mem_append.mp h with h|h
  ·split at h
   ·simp at h;subst h;exact⟨0,d,rfl,rfl,rfl⟩
   ·simp at h
  ·obtain⟨j,d',h1,h2,h3⟩:=ih h
   exact⟨j+1,d',h1,by exact h2.trans (Nat.add_right_comm _ 1 _),h3⟩
theorem nj(S:bp)(l:List Nd):(bj S l).length≤l.length+1:=by
 unfold bj
 rw[List.length_append]
 exact Nat.succ_le_succ (ue S.bT S.ex l true false 0)
theorem je{S:bp}{l:List Nd}{b:Nat×Int×Int}(h:b∈bj S l):(∃d,l[b.1]? =some d∧b.2.2=fV d)∨b=(l.length,-10000,1):=by
 rcases List.mem_append.mp h with h|h
 ·obtain⟨j,d,h1,h2,h3⟩:=ni h
  rw[Nat.zero_add] at h2
  rw[←h2] at h1
  exact .inl ⟨d,h1,h3⟩
 ·exact .inr (List.mem_singleton.mp h)
theorem yj{S:bp}{l:List Nd}{b:Nat×Int×Int}(h:b∈bj S l):b.1≤l.length:=by
 rcases je h with⟨d,e,_⟩|rfl
 ·exact Nat.le_of_lt (List.getElem?_eq_some_iff.mp e).1
 ·exact Nat.le_refl _
theorem jQ{Q:Row→Prop}{l:List Nd}{b:Nat×Int×Int}(h1:∀p q m,l[b.1]? =some (.bL p q m)→Q ⟨b.1,b.2.1,b.2.2,aU l b.1,(total (l.take (aU l b.1))).widen (-q.sum),(total (l.take b.1)).widen p.sum⟩)
  (h2:Q ⟨b.1,b.2.1,b.2.2,aU l b.1,total (l.take (aU l b.1)),total (l.take b.1)⟩):Q (rowOf l b):=by
 unfold rowOf
 cases e:l[b.1]? with
 |none=>exact h2
 |some d=>
  cases d with
  |bL p q m=>exact h1 p q m e
  |_=>exact h2
theorem yk{S:bp}{l:List Nd}{b:Nat×Int×Int}(h:b∈bj S l)(c:b.2.2≠1∨¬b.1<l.length):rowOf l b=⟨b.1,b.2.1,b.2.2,aU l b.1,total (l.take (aU l b.1)),total (l.take b.1)⟩:=by
 revert S l b
 apply aP;intro
 generalize bP .. =S,bS .. =l
 apply aJ;intro
 generalize nx .. =b
 intro h c
 refine jQ (Q:=fun r=>r=_) (fun p q m e=> ?_) rfl
 ·exfalso
  rcases c with c|c
  ·rcases je h with⟨d,e',q⟩|rfl
   ·rw[e'] at e;cases e;exact c q
   ·exact c rfl
  ·exact c (List.getElem?_eq_some_iff.mp e).1
structure SpS where
 H:aa
 (y4 y5 y6 y7 y8 y9:Option PV)
instance:Nonempty SpS:=⟨⟨[],none,none,none,none,none,none⟩⟩
structure SpJ(H:aa)(S:bp)(l:List Nd)(rs rb rf:Nat)(k:Nat)(s:SpS):Prop where
 pre:Pre H s.H
 sums:s.H[rs]? =some (.list (ix l))
 yl:s.H[rb]? =some (.list ((bj S l).map brk))
 found:s.H[rf]? =some (.list ((((bj S l).take k).map (rowOf l)).map Row.pv))
section
variable {ns:List Int}{n:Nat}{H:aa}{a:Nat}{vs:List PV}{l:List Nd}{R:PV→aa→Prop}{E:XK→aa→Prop}
theorem SpJ.app{H':aa}{S:bp}{rs rb rf k:Nat}{s:SpS}(j:SpJ H S l rs rb rf k s)(p:Pre s.H H'){y4 y5 y6 y7 y8 y9:Option PV}:SpJ H S l rs rb rf k ⟨H',y4,y5,y6,y7,y8,y9⟩:=⟨j.pre.trans p,p.get j.sums,p.get j.yl,p.get j.found⟩
theorem SpJ.put{S:bp}{rs rb rf k:Nat}{s:SpS}(j:SpJ H S l rs rb rf k s){b:Nat×Int×Int}(hb:(bj S l)[k]? =some b)(h1:H.length≤rf)(h2:rf≠rs)(h3:rf≠rb){x y:Sm}{y4 y5 y6 y7 y8 y9:Option PV}(e:rowOf l b=⟨b.1,b.2.1,b.2.2,aU l b.1,x,y⟩):
  SpJ H S l rs rb rf (k+1) ⟨s.H.set rf (.list ((((bj S l).take k).map (rowOf l)).map Row.pv++[.tup [.int b.1,.int b.2.1,.int b.2.2,.int (aU l b.1:Nat),x.pv,y.pv]])),y4,y5,y6,y7,y8,y9⟩:=by
 refine⟨j.pre.set h1,(bz h2).trans j.sums,(bz h3).trans j.yl,(getset j.found).trans ?_⟩
 rw[List.take_add_one,hb,List.map_append,List.map_append]
 show _=some (aH.list (_++[(rowOf l b).pv]))
 rw[e];rfl
theorem rS:(ix l).length=l.length+1:=by unfold ix;rw[List.length_map,List.length_range]
theorem vE(hs:l.length<1000){k:Nat}(h:k≤l.length):((place (k:Int) (ix l).length).bind fun m=>(ix l)[m]?)=some (total (l.take k)).pv:=by
 rw[kz (by rw[rS];exact Nat.lt_succ_of_le h) (by rw[rS];exact bE 1 hs rfl)];exact ud h
noncomputable def F673:cp:=A7 (fc b673 2)
noncomputable def D673:cp:=thenS (fc F673 2)
noncomputable def A673:cp:=iT F673 3
theorem rT{P:ec}{c:Nat→List PV→aa→RP}{x0 x1 x2:Option PV}{rf:Nat}{v4 v5 v6 v7 v8 v9:PV}{L:List PV}{Q:QL}{E:EL}(g:H[rf]? =some (.list L))(lt:L.length<100000)
  (q:Q .next [x0,x1,x2,some (.ref rf),some v4,some v5,some v6,some v7,some v8,some v9] (H.set rf (.list (L++[.tup [v4,v5,v6,v7,v8,v9]])))):wSs P c A673 [x0,x1,x2,some (.ref rf),some v4,some v5,some v6,some v7,some v8,some v9] H Q E:=
 .of g (.of g (.of lt q))
theorem ym(hh:nf H a vs l){p:Nat}{pp qq mm:List Int}(hd:l[p]? =some (.bL pp qq mm)){x1 x2 x3 x5 x6 x7:Option PV}{x y:Sm}{Q:QL}{E:EL}
  (q:Q .next [some (.ref a),x1,x2,x3,some (.int p),x5,x6,x7,some (x.widen (-qq.sum)).pv,some (y.widen pp.sum).pv] H):
  wSs (aO ns) (aj (aO ns) (n+3)) D673 [some (.ref a),x1,x2,x3,some (.int p),x5,x6,x7,some x.pv,some y.pv] H Q E:=by
 revert ns n H a vs l p pp qq mm x1 x2 x3 x5 x6 x7 x y Q E
 apply aN;intro
 generalize bM .. =ns,bN .. =n,bQ .. =H,bR .. =a
 apply aP;intro
 generalize bP .. =vs,bS .. =l
 intro hh
 apply aN;intro
 generalize bM .. =p,bN .. =pp,bQ .. =qq,bR .. =mm
 intro hd
 apply aT;intro
 generalize bX .. =x1,bY .. =x2,bZ .. =x3,b7 .. =x5,cv .. =x6,cw .. =x7,cx .. =x,cy .. =y
 apply aP;intro
 generalize bP .. =Q,bS .. =E
 intro q
 obtain⟨v,hv,rv⟩:=hh.get hd
 have hv':=fe hv hh.small
 obtain⟨_,u1,u2,u3,b1,b2,b3,b4,_⟩:=rv
 exact .of hh.at_ (.of hv' (.of (b3 ns) (s652 b4 (s666 (.of hh.at_ (.of hv' (.of (b1 ns) (s652 b2 (s666 q)))))))))
theorem yn{d:Nd}(h:fV d=1):∃p q m,d=.bL p q m:=by
 cases d with
 |bL p q m=>exact⟨_,_,_,rfl⟩
 |_=>cases h
theorem yo(h:nf H a vs l){S:bp}{rs rb rf k:Nat}{s:SpS}{b:Nat×Int×Int}(j:SpJ H S l rs rb rf k s)(hb:(bj S l)[k]? =some b)(f3:H.length≤rf)(n1:rf≠rs)(n2:rf≠rb){x1 y7 y8 y9:Option PV}{Q:QL}{E:EL}
  (q:∀s',SpJ H S l rs rb rf (k+1) s'→Q .next [some (.ref a),x1,some (.ref rs),some (.ref rf),s'.y4,s'.y5,s'.y6,s'.y7,s'.y8,s'.y9] s'.H):
  wSs (aO ns) (aj (aO ns) (n+3)) F673 [some (.ref a),x1,some (.ref rs),some (.ref rf),some (.int b.1),some (.int b.2.1),some (.int b.2.2),y7,y8,y9] s.H Q E:=by
 revert ns n H a vs l S rs rb rf k s b x1 y7 y8 y9 Q E
 apply aN;intro
 generalize bM .. =ns,bN .. =n,bQ .. =H,bR .. =a
 apply aP;intro
 generalize bP .. =vs,bS .. =l
 intro h
 apply aN;intro
 generalize bM .. =S,bN .. =rs,bQ .. =rb,bR .. =rf
 apply aP;intro
 generalize bP .. =k,bS .. =s
 apply aJ;intro
 generalize nx .. =b
 intro j hb f3 n1 n2
 apply aN;intro
 generalize bM .. =x1,bN .. =y7,bQ .. =y8,bR .. =y9
 apply aP;intro
 generalize bP .. =Q,bS .. =E
 intro q
 have vc:l.length<1000:=by rw[←h.len];exact h.small
 have hl:=h.len
 have hbm:b∈bj S l:=List.mem_of_getElem? hb
 have hbp:=yj hbm
 refine s638 (h.pre j.pre) hbp fun J=> ?_
 have q3:Pre s.H (s.H++J):=⟨J,rfl⟩
 have hh3:=(h.pre j.pre).pre q3
 have j3:=j.app (y4:=none) (y5:=none) (y6:=none) (y7:=none) (y8:=none) (y9:=none) q3
 have lenF:((((bj S l).take k).map (rowOf l)).map Row.pv).length<100000:=by
  have:=nj S l
  rw[List.length_map,List.length_map,List.length_take];exact cB (Nat.lt_of_le_of_lt (Nat.min_le_right _ _) (Nat.lt_of_le_of_lt this (bE 1 vc (C:=1001) rfl))) rfl
 refine .of j3.sums (.of (vE vc (uc l b.1 hbp)) (.of j3.sums (.of (vE vc hbp) (.of hh3.at_ (.of (Nat.lt_trans h.small (by decide)) (.and (fun y1 y2=> ?_) fun y=> ?_))))))
 ·have y1':b.1<l.length:=by rw[←hl];exact Int.ofNat_lt.mp y1
  rcases je hbm with⟨d,hd,e⟩|rfl
  ·obtain⟨pp,qq,mm,rfl⟩:=yn (e.symm.trans y2)
   exact ym hh3 hd (rT j3.found lenF (q ⟨_,_,_,_,_,_,_⟩ (j3.put hb f3 n1 n2 (x:=(total (l.take (aU l b.1))).widen (-qq.sum)) (y:=(total (l.take b.1)).widen pp.sum) (by unfold rowOf;rw[hd]))))
  ·exact absurd y1' (Nat.lt_irrefl _)
 ·refine rT j3.found lenF (q ⟨_,_,_,_,_,_,_⟩ (j3.put hb f3 n1 n2 (yk hbm ?_)))
  by_cases c:b.2.2=1
  ·exact .inr fun z=>y ⟨by rw[hl];exact Int.ofNat_lt.mpr z,c⟩
  ·exact .inl c
theorem s673(h:nf H a vs l)(hf:∀d∈l,d.bD){st:PV}{S:bp}(hS:fU H st S)(k:cL l=false→Kt PV.ref (newG H ((rowsOf S l).map Row.pv)) R)(ke:cL l=true→∀H',Pre H H'→E .flying H'):Wc (aj (aO ns) (n+4) 673 [.ref a,st] H) R E:=by
 revert ns n H a vs l R E st S
 apply aT;intro
 generalize bX .. =ns,bY .. =n,bZ .. =H,b7 .. =a,cv .. =vs,cw .. =l,cx .. =R,cy .. =E
 intro h hf
 apply aP;intro
 generalize bP .. =st,bS .. =S
 intro hS k ke
 refine aS rfl rfl (s659 h hf (oZ ?_) ke)
 apply aP;intro
 generalize bP .. =rs,bS .. =H1
 intro hb hrs p1 h1
 have q1:Pre H1 (H1++[.list []]):=⟨_,rfl⟩
 have p2:=p1.trans q1
 refine s631 (h.pre p2) (hS.pre p2) (oZ ?_)
 apply aP;intro
 generalize bP .. =rb,bS .. =H2
 intro hrb q2 h2
 have f3:H.length≤H1.length:=p1.len
 refine .of h2 (.of (by have:=nj S l;have:=h.small;have:=h.len;rw[List.length_map];lia) ?_)
 refine ej (fun k (s:SpS)=>[some (.ref a),some st,some (.ref rs),some (.ref H1.length),s.y4,s.y5,s.y6,s.y7,s.y8,s.y9]) (fun _ s=>s.H) (SpJ H S l rs rb H1.length) ⟨H2,none,none,none,none,none,none⟩ ((bj S l).map brk) ⟨p2.trans q2,q2.get (q1.get h1),h2,q2.get aX⟩ (fun k s j=>j.yl) (?_) fun s j=> ?_
 ·apply aP;intro
  generalize bP .. =k,bS .. =s
  apply aJ;intro
  generalize nx .. =v
  intro j hv
  obtain⟨b,uS,rfl⟩:∃b,(bj S l)[k]? =some b∧brk b=v:=by rw[List.getElem?_map] at hv;exact Option.map_eq_some_iff.mp hv
  have f2:H1.length<rb:=by have:=hrb;rw[List.length_append] at this;exact this
  exact yo h j uS f3 (Nat.ne_of_gt (List.getElem?_eq_some_iff.mp h1).1) (Nat.ne_of_lt f2) fun s' j'=>⟨s',rfl,rfl,j'⟩
 ·have g:=j.found
  rw[List.length_map,List.take_length] at g
  exact kt (k hb) _ _ f3 j.pre g
end
structure jh where
 (width iy narrow after:Int) (rows:List (Int×Int)) (done:Int)
instance:Nonempty jh:=⟨⟨0,0,0,0,[],0⟩⟩
noncomputable def jh.Bh(s:jh):PV:=.tup (s.rows.map fun p=>.tup [.int p.1,.int p.2])
noncomputable def jh.fs(s:jh):List (Nat×PV):=[(0,.int s.width),(29,.int s.iy),(30,.int s.narrow),(31,.int s.after),(32,s.Bh),(33,.int s.done)]
noncomputable def fW(x:Int):Int:=if x<0 then -x else x
noncomputable def fB(x y:Int):Int:=if y<x then y else x
noncomputable def jh.special(s:jh):Int:=if s.rows≠[] then(s.rows.length:Int) - 1 else if s.iy≠0 then fW s.after else 0
noncomputable def jh.vF(s:jh)(n:Int):Int:=
 if s.rows≠[] then((s.rows[(fB n s.rows.length - 1).toNat]?).getD (0,0)).2
 else if s.iy=0∨¬(decide (n≤fW s.after)=decide (s.after<0)) then s.width else s.narrow
def iz(H:aa)(v:PV)(s:jh):Prop:=∃r,v=.ref r∧H[r]? =some (.inst 543 s.fs)∧s.rows.length<100
theorem iz.pre{H H':aa}{v:PV}{s:jh}(p:Pre H H'):iz H v s→iz H' v s
 |⟨r,e,h,z⟩=>⟨r,e,p.get h,z⟩
theorem aA{H:aa}{r c n:Nat}{fs:List (Nat×PV)}{x:PV}(h:H[r]? =some (.inst c fs))(hb:dQ.contains (c,n)=false)(hx:bB n fs=some x):Aq H (.ref r) n x:=by
 intro ns
 show jZ _ _ _=_
 rw[h]
 show(if _ then _ else _)=_
 rw[show(aO ns).bad=dQ from rfl,hb,if_neg (by decide),hx]
section
variable {ns:List Int}{n:Nat}{H:aa}{R:PV→aa→Prop}{E:XK→aa→Prop}
theorem iz.aq{v:PV}{s:jh}(h:iz H v s):Aq H v 0 (.int s.width)∧Aq H v 29 (.int s.iy)∧Aq H v 30 (.int s.narrow)∧Aq H v 31 (.int s.after)∧Aq H v 32 s.Bh∧Aq H v 33 (.int s.done):=by
 obtain⟨r,rfl,h,z⟩:=h
 exact⟨aA h rfl rfl,aA h rfl rfl,aA h rfl rfl,aA h rfl rfl,aA h rfl rfl,aA h rfl rfl⟩
theorem iz.small{v:PV}{s:jh}(h:iz H v s):s.rows.length<100:=by
 obtain⟨r,rfl,h,z⟩:=h;exact z
theorem s533{v:PV}{s:jh}(h:iz H v s)(k:R (.int s.special) H):Wc (aj (aO ns) (n+1) 533 [v] H) R E:=by
 revert ns n H R E v s
 apply aN;intro
 generalize bM .. =ns,bN .. =n,bQ .. =H,bR .. =R
 apply aP;intro
 generalize bP .. =E,bS .. =v
 apply aJ;intro
 generalize nx .. =s
 intro h k
 obtain⟨h0,h29,h30,h31,h32,h33⟩:=h.aq
 have z:=h.small
 unfold jh.special at k
 have k1:=eI (P:=fun x:Int=>R (.int x) H) k
 refine aS rfl rfl (.of (h32 ns) ?_)
 show match(s.rows.map fun p=>PV.tup [.int p.1,.int p.2]) with|[]=>_|_::_=>_
 cases q:s.rows with
 |nil=>
  have k2:=eI (P:=fun x:Int=>R (.int x) H) (k1.2 fun x=>x q)
  exact .of (h29 ns) (.of (fun y=>k2.2 fun x=>x y) fun y=>.of (h31 ns) (k2.1 y))
 |cons x r=>
  have k2:=k1.1 (by rw[q];nofun)
  refine .of (h32 ns) (.of ?_ ?_)
  ·rw[List.length_map];exact cB z rfl
  ·rw[←List.length_map (as:=s.rows) fun p=>PV.tup [.int p.1,.int p.2]] at k2;exact k2
theorem tupGet{vs:List PV}{i:Nat}{j:Int}{v:PV}{k:PV→Prop}(h:vs[i]? =some v)(hs:vs.length≤100)(hj:j=i)(g:k v):kL H (.tup vs) (.int j) k:=by
 subst hj
 have sh:∀(l:List PV) (n:Nat),l.length≤n→short l n=true:=fun l=>by
  induction l with
  |nil=>exact fun _ _=>rfl
  |cons a r ih=>intro n h;cases n with
   |zero=>cases h
   |succ n=>exact ih n (Nat.le_of_succ_le_succ h)
 have nt:∀(l:List PV) (i:Nat),l[i]? =some v→nU l i k:=fun l=>by
  induction l with
  |nil=>intro i h;cases h
  |cons a r ih=>intro i h;cases i with
   |zero=>cases h;exact g
   |succ i=>exact ih i h
 show wb (short vs 100) (nU vs i k) False
 rw[sh vs 100 hs]
 exact nt vs i h
theorem imin_at{m:Int}{n:Nat}(h:1≤m)(k:0<n):1≤fB m n∧fB m n≤n:=by
 unfold fB
 split
 ·exact⟨Int.ofNat_lt.mpr k,Int.le_refl _⟩
 ·exact⟨h,Int.not_lt.mp ‹_›⟩
theorem s540{v:PV}{s:jh}(h:iz H v s){m:Int}(h1:1≤m)(h2:m≤4294967294)(k:∀x,R (.tup [x,.int (s.vF m)]) H):Wc (aj (aO ns) (n+2) 540 [v,.int m] H) R E:=by
 revert ns n H R E v s m
 apply aN;intro
 generalize bM .. =ns,bN .. =n,bQ .. =H,bR .. =R
 apply aP;intro
 generalize bP .. =E,bS .. =v
 apply aJ;intro
 generalize nx .. =s
 intro h
 apply aJ;intro
 generalize nx .. =m
 intro h1 h2 k
 obtain⟨h0,h29,h30,h31,h32,h33⟩:=h.aq
 have z:=h.small
 unfold jh.vF at k
 have k1:=eI (P:=fun x:Int=>∀y,R (.tup [y,.int x]) H) k
 refine aS rfl rfl (.of (.inl (by decide)) (ky h1 h2 (.of (h32 ns) ?_)))
 show match(s.rows.map fun p=>PV.tup [.int p.1,.int p.2]) with|[]=>_|_::_=>_
 cases q:s.rows with
 |nil=>
  have k2:=eI (P:=fun x:Int=>∀y,R (.tup [y,.int x]) H) (k1.2 fun x=>x q)
  refine .of (h31 ns) (.of (h31 ns) (.of (h29 ns) (.of (fun y=>.of (h0 ns) (k2.1 (.inl y) _)) fun y=>yN (fun e=> ?_) fun e=> ?_)))
  ·exact .of (h29 ns) (.of (h30 ns) (k2.2 (fun x=>x.elim y fun x=>x (eq_of_beq e)) _))
  ·exact .of (h0 ns) (k2.1 (.inr fun x=>ne_of_beq_false e x) _)
 |cons x r=>
  have k2:=k1.1 (by rw[q];nofun)
  have hp:0<s.rows.length:=by rw[q];exact Nat.succ_pos _
  have i:=imin_at h1 hp
  have l:(fB m s.rows.length - 1).toNat<s.rows.length:=(Int.toNat_lt' hp).mpr (Int.lt_of_lt_of_le (Int.sub_lt_self _ (by decide)) i.2)
  rw[List.getElem?_eq_getElem l] at k2
  have lm:=List.length_map (as:=s.rows) fun p=>PV.tup [.int p.1,.int p.2]
  refine .of (h32 ns) (.of (h32 ns) (.of (by rw[lm];exact cB z rfl) (tupGet (H:=H) (i:=(fB m s.rows.length - 1).toNat) (v:=.tup [.int (s.rows[(fB m s.rows.length - 1).toNat]).1,.int (s.rows[(fB m s.rows.length - 1).toNat]).2]) ?_ ?_ ?_ (k2 _))))
  ·rw[List.getElem?_map,List.getElem?_eq_getElem l];rfl
  ·rw[lm];exact Nat.le_of_lt z
  ·rw[lm];exact(Int.toNat_sub_of_le i.1).symm
end
structure Core where
 (pen sort:Int) (bg en:Sm)
structure Wy where
 (path:List Nat) (line fit cQ:Int)
structure eW where
 (S:bp) (dy:jh) (most:Int) (g:Sm) (last:Bool) (apart:Int)
structure uf where
 (cQ:Int) (way:Wy) (line:Int)
structure eS where
 (kept:List Wy) (best:List (Int×uf)) (least:List (Int×Int))
instance:Nonempty Core:=⟨⟨0,0,.zero,.zero⟩⟩
instance:Nonempty Wy:=⟨⟨[],0,0,0⟩⟩
instance:Nonempty eW:=⟨⟨⟨0,0,0,0,0,0,0⟩,⟨0,0,0,0,[],0⟩,0,.zero,false,0⟩⟩
instance:Nonempty uf:=⟨⟨0,⟨[],0,0,0⟩,0⟩⟩
instance:Nonempty eS:=⟨⟨[],[],[]⟩⟩
noncomputable def cF{α:Type}(k:Int):List (Int×α)→Option α
 |[]=>none
 |(j,v)::r=>if j=k then some v else cF k r
theorem gJ{α:Type}{k j:Int}{v:α}{r:List (Int×α)}:cF k ((j,v)::r)=if j=k then some v else cF k r:=rfl
noncomputable def putK{α:Type}(k:Int)(v:α):List (Int×α)→List (Int×α)
 |[]=>[(k,v)]
 |(j,u)::r=>if j=k then(j,v)::r else(j,u)::putK k v r
theorem kC{α:Type}{k j:Int}{v u:α}{r:List (Int×α)}:putK k v ((j,u)::r)=if j=k then(j,v)::r else(j,u)::putK k v r:=rfl
noncomputable def o6(cs:List Core)(w:Wy):Int:=match w.path with
 |[]=>0
 |i::_=>((cs[i]?).map Core.sort).getD 0
noncomputable def Bi(cs:List Core)(w:Wy):Sm:=match w.path with
 |[]=>.zero
 |i::_=>((cs[i]?).map Core.bg).getD .zero
noncomputable def vG(b:uf):Option uf→Bool
 |none=>true
 |some o=>decide (b.cQ≤o.cQ)
noncomputable def jf(group fit:Int)(b:uf)(s:eS):eS:=
 if vG b (cF (4 * group+fit) s.best)=true then
  ⟨s.kept,putK (4 * group+fit) b s.best,putK group (fB b.cQ ((cF group s.least).getD b.cQ)) s.least⟩ else s
noncomputable def qk(T:eW)(cs:List Core)(c:Core)(w:Wy):Int×Int:=rO (T.dy.vF (w.line+1)) (Sm.line (Bi cs w) c.en T.g)
noncomputable def gX(bad pen:Int):Bool:=decide (10000<bad) || decide (pen=-10000)
noncomputable def yp(T:eW)(s:eS)(at_:Bool):Bool:=T.last && (s.kept.isEmpty && (s.best.isEmpty && at_))
noncomputable def pDem(T:eW)(cs:List Core)(c:Core)(isEnd:Bool)(w:Wy):Int:=
 w.cQ+(kZ T.S (qk T cs c w).1 c.pen+lh T.S (decide (c.sort=1) && decide (o6 cs w=1)) isEnd (fW ((qk T cs c w).2 - w.fit)))
noncomputable def fC(T:eW)(cs:List Core)(c:Core)(isEnd:Bool)(len k:Nat)(w:Wy)(s:eS):eS:=
 let bf:=qk T cs c w
 let cut:=gX bf.1 c.pen
 let rs:=cut && yp T s (decide (k+1=len))
 let s':eS:=⟨if cut then s.kept else s.kept++[w],s.best,s.least⟩
 if T.most<bf.1∧rs=false then s'
 else jf (fB (w.line+1) (T.apart+1)) bf.2 ⟨if rs then w.cQ else pDem T cs c isEnd w,w,w.line+1⟩ s'
noncomputable def Row.core(r:Row):Core:=⟨r.pen,r.sort,r.bg,r.en⟩
noncomputable def cY(rows:List Row):List Nat→PV
 |[]=>.tup [.int (-1),.int 0,.int 0,.int 0,Sm.zero.pv,Sm.zero.pv]
 |i::_=>((rows[i]?).map Row.pv).getD .none
def fX(H:aa)(rows:List Row):PV→List Nat→Prop
 |v,[]=>Aq H v 46 (cY rows [])∧Aq H v 50 .none
 |v,i::p=>Aq H v 46 (cY rows (i::p))∧∃k,Aq H v 50 (.ref k)∧fX H rows (.ref k) p
structure dv(H:aa)(rows:List Row)(v:PV)(w:Wy):Prop where
 ref:∃k,v=.ref k
 line:Aq H v 47 (.int w.line)
 fit:Aq H v 48 (.int w.fit)
 cQ:Aq H v 49 (.int w.cQ)
 chain:fX H rows v w.path
def rU(H H':aa):Prop:=∀(i c:Nat) (fs:List (Nat×PV)),H[i]? =some (aH.inst c fs)→H'[i]? =some (aH.inst c fs)
theorem rU.refl(H:aa):rU H H:=fun _ _ _ h=>h
theorem rU.trans{H rP rQ:aa}(a:rU H rP)(b:rU rP rQ):rU H rQ:=fun i c fs h=>b i c fs (a i c fs h)
theorem Pre.ins{H H':aa}(p:Pre H H'):rU H H':=fun _ _ _ h=>p.get h
theorem rU.set{H H':aa}{r:Nat}{o x:aH}(a:rU H H')(h:H'[r]? =some o)(hn:∀c fs,o≠.inst c fs):rU H (H'.set r x):=by
 intro i c fs e
 have e':=a i c fs e
 rw[bz (by rintro rfl;rw[h] at e';cases e';exact hn _ _ rfl)]
 exact e'
theorem Aq.ins{H H':aa}{v:PV}{n:Nat}{x:PV}(p:rU H H')(h:Aq H v n x):Aq H' v n x:=h.get p
theorem fX.ins{H H':aa}{rows:List Row}(p:rU H H'):∀{v:PV} {l:List Nat},fX H rows v l→fX H' rows v l
 |_,[],⟨a,b⟩=>⟨a.ins p,b.ins p⟩
 |_,_::_,⟨a,k,b,c⟩=>⟨a.ins p,k,b.ins p,c.ins p⟩
theorem dv.ins{H H':aa}{rows:List Row}{v:PV}{w:Wy}(p:rU H H')(h:dv H rows v w):dv H' rows v w:=⟨h.ref,h.line.ins p,h.fit.ins p,h.cQ.ins p,h.chain.ins p⟩
theorem fX.spot{H:aa}{rows:List Row}{v:PV}:∀{l:List Nat},fX H rows v l→Aq H v 46 (cY rows l)
 |[],h=>h.1
 |_::_,h=>h.1
theorem yq(rows:List Row)(w:Wy)(place:Nat)(h:∀i∈w.path,∃r,rows[i]? =some r∧r.start≤place):
  ∃(a0 a1 a5:PV) (st:Nat),cY rows w.path=.tup [a0,a1,.int (o6 (rows.map Row.core) w),.int st,(Bi (rows.map Row.core) w).pv,a5]∧st≤place:=by
 obtain⟨path,line,fit,cQ⟩:=w
 cases path with
 |nil=>exact⟨_,_,_,0,rfl,Nat.zero_le _⟩
 |cons i p=>
  obtain⟨r,hr,hs⟩:=h i (List.mem_cons_self ..)
  refine⟨.int r.place,.int r.pen,r.en.pv,r.start,?_,hs⟩
  simp[cY,hr,o6,Bi,Row.pv,Row.core]
structure TrR(H:aa)(v st:PV)(T:eW):Prop where
 at_:Aq H v 51 st
 set:fU H st T.S
 sh:∃u,Aq H v 52 u∧iz H u T.dy
 most:Aq H v 53 (.int T.most)
 g:Aq H v 54 T.g.pv
 last:Aq H v 55 (.bool T.last)
 apart:Aq H v 56 (.int T.apart)
theorem TrR.pre{H H':aa}{v st:PV}{T:eW}(p:Pre H H')(h:TrR H v st T):TrR H' v st T:=by
 obtain⟨u,a,b⟩:=h.sh
 exact⟨h.at_.pre p,h.set.pre p,⟨u,a.pre p,b.pre p⟩,h.most.pre p,h.g.pre p,h.last.pre p,h.apart.pre p⟩
def nq(H:aa)(rows:List Row)(e:Int×PV)(b:Int×uf):Prop:=e.1=b.1∧∃v,e.2=.tup [.int b.2.cQ,v,.int b.2.line]∧dv H rows v b.2.way
structure rV(H₀ H:aa)(rows:List Row)(rk rb rl:Nat)(s:eS):Prop where
 k:∃vk,H[rk]? =some (.list vk)∧bu (dv H₀ rows) vk s.kept
 b:∃es,H[rb]? =some (.aW es)∧bu (nq H₀ rows) es s.best
 l:H[rl]? =some (.aW (s.least.map fun p=>(p.1,.int p.2)))
theorem rV.pre{H₀ H H':aa}{rows:List Row}{rk rb rl:Nat}{s:eS}(p:Pre H H')(h:rV H₀ H rows rk rb rl s):rV H₀ H' rows rk rb rl s:=by
 obtain⟨vk,a,b⟩:=h.k
 obtain⟨es,c,d⟩:=h.b
 exact⟨⟨vk,p.get a,b⟩,⟨es,p.get c,d⟩,p.get h.l⟩
theorem rW{H:aa}{rows:List Row}(k:Int):∀{es:List (Int×PV)} {bs:List (Int×uf)},bu (nq H rows) es bs→
  match cF k bs with|none=>ey k es=none|some b=>∃v,ey k es=some (.tup [.int b.cQ,v,.int b.line])∧dv H rows v b.way:=
 bu.el (R:=nq H rows) (P:=fun es bs=>match cF k bs with|none=>ey k es=none|some b=>∃v,ey k es=some (.tup [.int b.cQ,v,.int b.line])∧dv H rows v b.way) rfl fun a b es bs h _ ih=>by
  obtain⟨i,x⟩:=a
  obtain⟨j,b⟩:=b
  obtain⟨e,v,e2,hw⟩:=h
  cases e;cases e2
  rw[gJ,pL]
  by_cases q:i=k
  ·rw[if_pos q,if_pos q];exact⟨v,rfl,hw⟩
  ·rw[if_neg q,if_neg q];exact ih
theorem put_rel{H:aa}{rows:List Row}(k:Int){v:PV}{b:uf}(hw:dv H rows v b.way):∀{es:List (Int×PV)} {bs:List (Int×uf)},bu (nq H rows) es bs→
  bu (nq H rows) (n8 k (.tup [.int b.cQ,v,.int b.line]) es) (putK k b bs):=
 bu.el (R:=nq H rows) (P:=fun es bs=>bu (nq H rows) (n8 k (.tup [.int b.cQ,v,.int b.line]) es) (putK k b bs)) ⟨⟨rfl,v,rfl,hw⟩,trivial⟩ fun a b es bs h r ih=>by
  obtain⟨i,x⟩:=a
  obtain⟨j,b'⟩:=b
  obtain⟨e,u,e2,hu⟩:=h
  cases e;cases e2
  rw[sR,kC]
  by_cases q:i=k
  ·rw[if_pos q,if_pos q];exact⟨⟨rfl,v,rfl,hw⟩,r⟩
  ·rw[if_neg q,if_neg q];exact⟨⟨rfl,u,rfl,hu⟩,ih⟩
theorem Bj(k:Int):∀l:List (Int×Int),ey k (l.map fun p=>(p.1,.int p.2))=(cF k l).map .int
 |[]=>rfl
 |(j,v)::r=>by
  rw[List.map_cons,pL,gJ]
  split
  ·rfl
  ·exact Bj k r
theorem putLL(k m:Int):∀l:List (Int×Int),n8 k (.int m) (l.map fun p=>(p.1,.int p.2))=(putK k m l).map fun p=>(p.1,.int p.2)
 |[]=>rfl
 |(j,v)::r=>by
  rw[List.map_cons,sR,kC]
  split
  ·rfl
  ·rw[List.map_cons,putLL k m r]
theorem nu{α:Type}(k:Int)(v:α):∀l:List (Int×α),(putK k v l).length≤l.length+1
 |[]=>Nat.le_refl _
 |(j,u)::r=>by
  rw[kC]
  split
  ·simp
  ·have:=nu k v r;rw[List.length_cons,List.length_cons];exact Nat.succ_le_succ this
def eS.small(s:eS)(k:Nat):Prop:=s.kept.length≤k∧s.best.length≤k∧s.least.length≤k
theorem ug{g f:Int}{b:uf}{s:eS}{m:Nat}(h1:s.kept.length≤m+1)(h2:s.best.length≤m)(h3:s.least.length≤m):(jf g f b s).small (m+1):=by
 unfold jf
 split
 ·exact⟨h1,Nat.le_trans (nu _ _ _) (by exact Nat.succ_le_succ h2),Nat.le_trans (nu _ _ _) (by exact Nat.succ_le_succ h3)⟩
 ·exact⟨h1,by exact Nat.le_succ_of_le h2,by exact Nat.le_succ_of_le h3⟩
theorem lj{T:eW}{cs:List Core}{c:Core}{isEnd:Bool}{len k:Nat}{w:Wy}{s:eS}{m:Nat}(h:s.small m):(fC T cs c isEnd len k w s).small (m+1):=by
 obtain⟨h1,h2,h3⟩:=h
 have hk:(if gX (qk T cs c w).1 c.pen then s.kept else s.kept++[w]).length≤m+1:=by
  split
  ·exact Nat.le_succ_of_le h1
  ·rw[List.length_append,List.length_singleton];exact Nat.succ_le_succ h1
 unfold fC
 dsimp only
 split
 ·exact⟨hk,by show s.best.length≤_;exact Nat.le_succ_of_le h2,by show s.least.length≤_;exact Nat.le_succ_of_le h3⟩
 ·exact ug hk h2 h3
theorem Bl{ns:List Int}{H:aa}{v:PV}{s:jh}(h:iz H v s):iX (aO ns) 47 H v=some 540:=by
 obtain⟨r,rfl,hr,z⟩:=h
 unfold iX
 dsimp only
 rw[hr]
 rfl
theorem rX{ns:List Int}{H:aa}{v:PV}{s:jh}(h:iz H v s):iX (aO ns) 57 H v=some 533:=by
 obtain⟨r,rfl,hr,z⟩:=h
 unfold iX
 dsimp only
 rw[hr]
 rfl
noncomputable def yr:cp:=A7 (fc b713 3)
section
variable {ns:List Int}{n:Nat}{H₀ H:aa}{rows:List Row}{R:PV→aa→Prop}{E:XK→aa→Prop}
theorem vH{r e:Nat}{vs:List PV}{A B:Prop}(h1:H[r]? =some (.list vs))(h2:H[e]? =some (.list []))(ha:vs.isEmpty=true→A)(hb:vs.isEmpty=false→B):WO (n7 H (.ref r) (.ref e)) fun t=>wb t A B:=by
 refine .of (a:=vs.isEmpty) ?_ (yN ha hb)
 unfold n7
 simp only[h1,h2]
 cases vs with
 |nil=>rfl
 |cons _ _=>rfl
theorem dictNil{r e:Nat}{vs:List (Int×PV)}{A B:Prop}(h1:H[r]? =some (.aW vs))(h2:H[e]? =some (.aW []))(ha:vs.isEmpty=true→A)(hb:vs.isEmpty=false→B):WO (n7 H (.ref r) (.ref e)) fun t=>wb t A B:=by
 refine .of (a:=vs.isEmpty) ?_ (yN ha hb)
 unfold n7
 simp only[h1,h2]
theorem bu.isEmpty{α β:Type}{R:α→β→Prop}{l:List α}{m:List β}(h:bu R l m):l.isEmpty=m.isEmpty:=by
 cases l<;>cases m<;>first|rfl|exact h.elim
noncomputable def TL(tv sp:PV)(ra:Nat)(isEnd:Bool)(place:Nat)(pen sort:Int)(en:PV)(st:PV)(rk rb rl:Nat)(k:Nat)(wv:PV)(y:List (Option PV)):Loc:=
 some tv::some sp::some (.ref ra)::some (.bool isEnd)::some (.int place)::some (.int pen)::some (.int sort)::some en::some st::some (.ref rk)::some (.ref rb)::some (.ref rl)::some (.int k)::some wv::y
theorem rV.set{s:eS}{rk rb rl:Nat}(h:rV H₀ H rows rk rb rl s):rk≠rb∧rk≠rl:=by
 obtain⟨_,gk,_⟩:=h.k
 obtain⟨_,gb,_⟩:=h.b
 have gl:=h.l
 exact⟨fun e=>by(subst e;rw[gk] at gb;cases gb),fun e=>by(subst e;rw[gk] at gl;cases gl)⟩
theorem rV.push{s:eS}{rk rb rl:Nat}(h:rV H₀ H rows rk rb rl s){vk:List PV}{w:Wy}{wv:PV}(gk:H[rk]? =some (.list vk))(ak:bu (dv H₀ rows) vk s.kept)(hw:dv H₀ rows wv w):rV H₀ (H.set rk (.list (vk++[wv]))) rows rk rb rl ⟨s.kept++[w],s.best,s.least⟩:=by
 obtain⟨n1,n2⟩:=h.set
 obtain⟨es,gb,ab⟩:=h.b
 exact⟨⟨_,getset gk,ak.append ⟨hw,trivial⟩⟩,⟨_,by rw[bz n1];exact gb,ab⟩,by rw[bz n2];exact h.l⟩
theorem Bn{T:eW}{tv st wv sp en:PV}{w:Wy}{s:eS}{va:List PV}{ra rk rb rl k place:Nat}{isEnd:Bool}{pen sort bad:Int}{rY lG:Option PV}{vI:Option PV}{r:List (Option PV)}{Q:QL}{E:EL}
  (hT:TrR H₀ tv st T) (ha:H₀[ra]? =some (.list va)) (rZ:va.length<60) (hw:dv H₀ rows wv w) (hp:Pre H₀ H) (hs:rV H₀ H rows rk rb rl s) (h1:H₀.length≤rk) (hm:s.kept.length<1000)
  {N:Loc→aa→Prop} (hN:∀H',Pre H₀ H'→rV H₀ H' rows rk rb rl ⟨if gX bad pen then s.kept else s.kept++[w],s.best,s.least⟩→N (TL tv sp ra isEnd place pen sort en st rk rb rl k wv (rY::lG::some (.int bad)::vI::some (.bool (gX bad pen && yp T s (decide (k+1=va.length))))::r)) H'):
  wS (aO ns) (aj (aO ns) n) (fc yr 4) (TL tv sp ra isEnd place pen sort en st rk rb rl k wv (rY::lG::some (.int bad)::vI::some (.bool false)::r)) H (mj Q N) E:=by
 revert ns n H₀ H rows T tv st wv sp en w s va ra rk rb rl k place isEnd pen sort bad rY lG vI r Q E N
 apply aT;intro
 generalize bX .. =ns,bY .. =n,bZ .. =H₀,b7 .. =H,cv .. =rows,cw .. =T,cx .. =tv,cy .. =st
 apply aT;intro
 generalize bX .. =wv,bY .. =sp,bZ .. =en,b7 .. =w,cv .. =s,cw .. =va,cx .. =ra,cy .. =rk
 apply aT;intro
 generalize bX .. =rb,bY .. =rl,bZ .. =k,b7 .. =place,cv .. =isEnd,cw .. =pen,cx .. =sort,cy .. =bad
 apply aN;intro
 generalize bM .. =rY,bN .. =lG,bQ .. =vI,bR .. =r
 apply aP;intro
 generalize bP .. =Q,bS .. =E
 intro hT ha rZ hw hp hs h1 hm
 apply aJ;intro
 generalize nx .. =N
 intro hN
 obtain⟨vk,gk,ak⟩:=hs.k
 obtain⟨es,gb,ab⟩:=hs.b
 refine .or (fun z=> ?_) fun z1 z2=> ?_
 ·have c:gX bad pen=true:=by simpa [gX] using z
  rw[c] at hN
  have r1:Pre H (H++[.list []]):=⟨_,rfl⟩
  have r2:Pre H (H++[.list []]++[.aW []]):=r1.app _
  have hN0:=fun H' (p:Pre H H')=>hN H' (hp.trans p) (hs.pre p)
  have ek:=ak.isEmpty
  have eb:=ab.isEmpty
  have fin:∀{H':aa} {b:Bool},Pre H H'→b=yp T s (decide (k+1=va.length))→N (TL tv sp ra isEnd place pen sort en st rk rb rl k wv (rY::lG::some (.int bad)::vI::some (.bool b)::r)) H':=fun p e=>by rw[e];exact hN0 _ p
  refine .of (hT.last.pre hp ns) (yN (fun a=>vH (r1.get gk) aX (fun b=>dictNil (r2.get gb) aX (fun c=>.of ((hp.trans r2).get ha) (.of (by exact cB rZ rfl) (fin r2 ?_))) fun c=>fin r2 ?_) fun b=>fin r1 ?_) fun a=>fin (.refl _) ?_)
  ·rw[yp,a,←ek,b,←eb,c,Bool.true_and,Bool.true_and,Bool.true_and]
   exact decide_eq_decide.mpr (by exact ar88)
  ·rw[yp,←eb,c,Bool.false_and,Bool.and_false,Bool.and_false]
  ·rw[yp,←ek,b,Bool.false_and,Bool.and_false]
  ·rw[yp,a,Bool.false_and]
 ·have c:gX bad pen=false:=by rw[gX,decide_eq_false z1,decide_eq_false z2];rfl
  rw[c] at hN
  exact .of gk (.of gk (.of (by rw[ak.length];exact cB hm rfl) (hN _ (hp.set h1) (hs.push gk ak hw))))
theorem turnDem{T:eW}{tv st wv sp en:PV}{w:Wy}{ra rk rb rl k place:Nat}{isEnd rs:Bool}{pen sort bad fit:Int}{rY lG nv:Option PV}{r:List (Option PV)}{Q:QL}{E:EL}{a0 a1 a3 a4 a5:PV}{so:Int}
  (hT:fU H st T.S) (hf:Aq H wv 48 (.int w.fit)) (hsp:Aq H wv 46 (.tup [a0,a1,.int so,a3,a4,a5])) (uh: -10000≤pen∧pen≤10000)
  {N:Loc→aa→Prop} (hN:∀nv,N (TL tv sp ra isEnd place pen sort en st rk rb rl k wv (rY::lG::some (.int bad)::some (.int fit)::some (.bool rs)::some (.int (if rs=true then w.cQ else w.cQ+(kZ T.S bad pen+lh T.S (decide (sort=1) && decide (so=1)) isEnd (fW (fit - w.fit)))))::nv::r)) H):
  wS (aO ns) (aj (aO ns) (n+1)) (fc yr 7) (TL tv sp ra isEnd place pen sort en st rk rb rl k wv (rY::lG::some (.int bad)::some (.int fit)::some (.bool rs)::some (.int w.cQ)::nv::r)) H (mj Q N) E:=by
 have hp:pen.natAbs<2 ^ 64:=by exact pB uh rfl rfl
 cases rs with
 |true=>exact hN _
 |false=>
  have hN:∀t,t=(decide (sort=1) && decide (so=1))→N (TL tv sp ra isEnd place pen sort en st rk rb rl k wv (rY::lG::some (.int bad)::some (.int fit)::some (.bool false)::some (.int (w.cQ+(kZ T.S bad pen+lh T.S t isEnd (fW (fit - w.fit)))))::some (.bool t)::r)) H:=fun t e=>by rw[e];exact hN _
  refine .of (fun z=>.of (hsp ns) (s699 hT hp (.of (hf ns) (s706 hT (hN _ ?_))))) fun z=>s699 hT hp (.of (hf ns) (s706 hT (hN _ ?_)))
  ·rw[decide_eq_true z,Bool.true_and]
  ·rw[decide_eq_false z,Bool.false_and]
theorem turnPut{tv st wv sp en:PV}{w:Wy}{s:eS}{ra rk rb rl k place:Nat}{isEnd:Bool}{pen sort cQ g fit line:Int}{lG ui uj nv:Option PV}{es:List (Int×PV)}{Q:QL}{E:EL}
  (hw:dv H₀ rows wv w) (hp:Pre H₀ H) (hs:rV H₀ H rows rk rb rl s) (j6:rb≠rl) (h2:H₀.length≤rb) (h3:H₀.length≤rl) (hb:s.best.length<1000) (hl:s.least.length<1000) (gb:H[rb]? =some (.aW es)) (ab:bu (nq H₀ rows) es s.best)
  (hq:∀H',Pre H₀ H'→rV H₀ H' rows rk rb rl (jf g fit ⟨cQ,w,line⟩ s)→Q .next (TL tv sp ra isEnd place pen sort en st rk rb rl k wv [some (.int line),lG,ui,some (.int fit),uj,some (.int cQ),nv,some (.int g),some ((ey (4 * g+fit) es).getD .none)]) H'):
  wSs (aO ns) (aj (aO ns) n) (.cons (fc yr 10) .nil) (TL tv sp ra isEnd place pen sort en st rk rb rl k wv [some (.int line),lG,ui,some (.int fit),uj,some (.int cQ),nv,some (.int g),some ((ey (4 * g+fit) es).getD .none)]) H Q E:=by
 revert ns n H₀ H rows tv st wv sp en w s ra rk rb rl k place isEnd pen sort cQ g fit line lG ui uj nv es Q E
 apply aT;intro
 generalize bX .. =ns,bY .. =n,bZ .. =H₀,b7 .. =H,cv .. =rows,cw .. =tv,cx .. =st,cy .. =wv
 apply aT;intro
 generalize bX .. =sp,bY .. =en,bZ .. =w,b7 .. =s,cv .. =ra,cw .. =rk,cx .. =rb,cy .. =rl
 apply aT;intro
 generalize bX .. =k,bY .. =place,bZ .. =isEnd,b7 .. =pen,cv .. =sort,cw .. =cQ,cx .. =g,cy .. =fit
 apply aT;intro
 generalize bX .. =line,bY .. =lG,bZ .. =ui,b7 .. =uj,cv .. =nv,cw .. =es,cx .. =Q,cy .. =E
 intro hw hp hs j6 h2 h3 hb hl gb ab hq
 have lr:=rW (4 * g+fit) ab
 have lb:es.length=s.best.length:=ab.length
 obtain⟨n1,n2⟩:=hs.set
 have four:(4:Int).natAbs<2 ^ 64∨g.natAbs<2 ^ 64:=.inl (by decide)
 have gl':∀{o},(H.set rb o)[rl]? =some (.aW (s.least.map fun p=>(p.1,.int p.2))):=(bz j6).trans hs.l
 generalize hv:(ey (4 * g+fit) es).getD .none=v at hq ⊢
 have yes:vG ⟨cQ,w,line⟩ (cF (4 * g+fit) s.best)=true→wSs (aO ns) (aj (aO ns) n) (match fc yr 10 with|.ite _ a _=>a|_=>.nil) (TL tv sp ra isEnd place pen sort en st rk rb rl k wv [some (.int line),lG,ui,some (.int fit),uj,some (.int cQ),nv,some (.int g),some v]) H Q E:=fun z=>by
  have hq:=fun H' p q=>hq H' p (by rw[jf,if_pos z];exact q)
  have e2:((ey g (s.least.map fun p=>(p.1,PV.int p.2))).getD (.int cQ))=.int ((cF g s.least).getD cQ):=by
   rw[Bj];cases cF g s.least<;>rfl
  refine .of four (.of gb (.of (by exact lt_of_eq_of_lt lb hb) (.of gl' (.of gl' ?_))))
  dsimp only
  rw[e2]
  refine .of gl' (.of (by rw[List.length_map];exact hl) (hq _ ((hp.set h2).set h3) ⟨?_,⟨_,(bz j6.symm).trans (getset gb),put_rel (4 * g+fit) (b:=⟨cQ,w,line⟩) hw ab⟩,?_⟩))
  ·obtain⟨vk,gk,ak⟩:=hs.k
   exact⟨vk,by rw[bz n2.symm,bz n1.symm];exact gk,ak⟩
  ·refine(getset gl').trans ?_
   show some (aH.aW (n8 g (.int (fB cQ ((cF g s.least).getD cQ))) _))=_
   rw[putLL]
 have no:vG ⟨cQ,w,line⟩ (cF (4 * g+fit) s.best)=false→Q .next (TL tv sp ra isEnd place pen sort en st rk rb rl k wv [some (.int line),lG,ui,some (.int fit),uj,some (.int cQ),nv,some (.int g),some v]) H:=fun z=>by
  refine hq H hp ?_
  rw[jf,if_neg (by rw[z];decide)];exact hs
 cases hlk:cF (4 * g+fit) s.best with
 |none=>
  rw[hlk] at lr yes
  rw[lr] at hv
  cases hv
  exact yes rfl
 |some b=>
  rw[hlk] at lr yes no
  obtain⟨u,e,_⟩:=lr
  rw[e] at hv
  cases hv
  exact .of (fun z=>yes (decide_eq_true z)) fun z=>no (decide_eq_false z)
theorem turn{T:eW}{tv st wv sp:PV}{w:Wy}{s:eS}{va:List PV}{ra rk rb rl k place:Nat}{isEnd:Bool}{pen sort:Int}{en bg:Sm}{rY lG ui vI uj y19 nv Bo Bp:Option PV}
  {Q:QL} {E:EL}
  (hT:TrR H₀ tv st T) (ha:H₀[ra]? =some (.list va)) (rZ:va.length<60) (hw:dv H₀ rows wv w) (hm:s.small k) (hk:k<va.length)
  (hf:∀i∈w.path,∃r,rows[i]? =some r∧r.start≤place) (hp:Pre H₀ H) (hs:rV H₀ H rows rk rb rl s) (j6:rb≠rl) (h1:H₀.length≤rk) (h2:H₀.length≤rb) (h3:H₀.length≤rl)
  (hl0:0≤w.line) (hl1:w.line≤1000) (uh: -10000≤pen∧pen≤10000) (hb:∀b,b=(Sm.line (Bi (rows.map Row.core) w) en T.g)→b.b<1073741824∧b.f<1073741824)
  (hq:∀f H' z14 z15 z16 z17 z18 z19 z20 z21 z22,(f=.next∨f=.cont)→Pre H₀ H'→rV H₀ H' rows rk rb rl (fC T (rows.map Row.core) ⟨pen,sort,bg,en⟩ isEnd va.length k w s)→
   Q f (TL tv sp ra isEnd place pen sort en.pv st rk rb rl k wv [z14,z15,z16,z17,z18,z19,z20,z21,z22]) H'):
  wSs (aO ns) (aj (aO ns) (n+3)) yr (TL tv sp ra isEnd place pen sort en.pv st rk rb rl k wv [rY,lG,ui,vI,uj,y19,nv,Bo,Bp]) H Q E:=by
 revert ns n H₀ H rows T tv st wv sp w s va ra rk rb rl k place isEnd pen sort en bg rY lG ui vI uj y19 nv Bo Bp Q E
 apply aT;intro
 generalize bX .. =ns,bY .. =n,bZ .. =H₀,b7 .. =H,cv .. =rows,cw .. =T,cx .. =tv,cy .. =st
 apply aT;intro
 generalize bX .. =wv,bY .. =sp,bZ .. =w,b7 .. =s,cv .. =va,cw .. =ra,cx .. =rk,cy .. =rb
 apply aT;intro
 generalize bX .. =rl,bY .. =k,bZ .. =place,b7 .. =isEnd,cv .. =pen,cw .. =sort,cx .. =en,cy .. =bg
 apply aT;intro
 generalize bX .. =rY,bY .. =lG,bZ .. =ui,b7 .. =vI,cv .. =uj,cw .. =y19,cx .. =nv,cy .. =Bo
 apply aP;intro
 generalize bP .. =Bp,bS .. =Q
 apply aJ;intro
 generalize nx .. =E
 intro hT ha rZ hw hm hk hf hp hs j6 h1 h2 h3 hl0 hl1 uh hb hq
 obtain⟨a0,a1,a5,stt,hsp,iL⟩:=yq rows w place hf
 have w46:=hw.chain.spot
 rw[hsp] at w46
 obtain⟨sh,h52,hsh⟩:=hT.sh
 obtain⟨hb1,hb2⟩:=hb _ rfl
 obtain⟨m1,m2,m3⟩:=hm
 have w46p:=w46.pre hp ns
 refine .of (hw.line.pre hp ns) (.of w46p (.neg (by exact Int.not_lt_of_ge (Int.ofNat_le.mpr iL)) (.of w46p (.of (hT.g.pre hp ns) (s685 fun J=> ?_)))))
 have p1:=hp.app J
 have hs1:=hs.pre (Pre.app J (.refl _))
 refine .of (h52.pre p1 ns) (.of (Bl (hsh.pre p1)) (s540 (hsh.pre p1) (by exact Int.le_add_of_nonneg_left hl0) (by exact qB (Int.add_le_add_right hl1 1) rfl) fun x=>s692 hb1 hb2 ?_))
 have xM:rO (T.dy.vF (w.line+1)) (Sm.line (Bi (rows.map Row.core) w) en T.g)=qk T (rows.map Row.core) ⟨pen,sort,bg,en⟩ w:=rfl
 rw[xM]
 have sd:∀bf,bf=qk T (rows.map Row.core) ⟨pen,sort,bg,en⟩ w→fC T (rows.map Row.core) ⟨pen,sort,bg,en⟩ isEnd va.length k w s=
   if T.most<bf.1∧(gX bf.1 pen && yp T s (decide (k+1=va.length)))=false then⟨if gX bf.1 pen then s.kept else s.kept++[w],s.best,s.least⟩
   else jf (fB (w.line+1) (T.apart+1)) bf.2 ⟨if(gX bf.1 pen && yp T s (decide (k+1=va.length))) then w.cQ else w.cQ+(kZ T.S bf.1 pen+lh T.S (decide (sort=1) && decide (o6 (rows.map Row.core) w=1)) isEnd (fW (bf.2 - w.fit))),w,w.line+1⟩ ⟨if gX bf.1 pen then s.kept else s.kept++[w],s.best,s.least⟩:=by
  rintro _ rfl;rfl
 generalize qk T (rows.map Row.core) ⟨pen,sort,bg,en⟩ w=bf at sd ⊢
 replace sd:=sd _ rfl
 obtain⟨bad,fit⟩:=bf
 rw[sd] at hq
 clear sd xM
 dsimp only at hq
 refine nxt ?_
 refine lE (fun _:aa=>TL tv sp ra isEnd place pen sort en.pv st rk rb rl k wv (some (.int (w.line+1))::some (Sm.line (Bi (rows.map Row.core) w) en T.g).pv::some (.int bad)::some (.int fit)::some (.bool (gX bad pen && yp T s (decide (k+1=va.length))))::[y19,nv,Bo,Bp])) (fun H=>H) (fun H'=>Pre H₀ H'∧rV H₀ H' rows rk rb rl ⟨if gX bad pen then s.kept else s.kept++[w],s.best,s.least⟩) (fun N hN=>Bn hT ha rZ hw p1 hs1 h1 (by exact cB (Nat.lt_of_le_of_lt m1 (Nat.lt_trans hk rZ)) rfl) fun H' a b=>hN H' ⟨a,b⟩) ?_
 rintro H2 ⟨p2,hs2⟩
 generalize (gX bad pen && yp T s (decide (k+1=va.length)))=rs at hq ⊢
 generalize (if gX bad pen=true then s.kept else s.kept++[w])=kept at hq hs2
 by_cases hno:T.most<bad∧rs=false
 ·rw[if_pos hno] at hq
  obtain⟨z,rfl⟩:=hno
  exact .of (hT.most.pre p2 ns) (.pos z (hq .cont H2 _ _ _ _ _ _ _ _ _ (.inr rfl) p2 hs2))
 rw[if_neg hno] at hq
 have go:wSs (aO ns) (aj (aO ns) (n+3)) (iT yr 6) (TL tv sp ra isEnd place pen sort en.pv st rk rb rl k wv (some (.int (w.line+1))::some (Sm.line (Bi (rows.map Row.core) w) en T.g).pv::some (.int bad)::some (.int fit)::some (.bool rs)::[y19,nv,Bo,Bp])) H2 Q E:=by
  refine .of (hw.cQ.pre p2 ns) ?_
  refine lE (fun nv:Option PV=>TL tv sp ra isEnd place pen sort en.pv st rk rb rl k wv (some (.int (w.line+1))::some (Sm.line (Bi (rows.map Row.core) w) en T.g).pv::some (.int bad)::some (.int fit)::some (.bool rs)::some (.int (if rs=true then w.cQ else w.cQ+(kZ T.S bad pen+lh T.S (decide (sort=1) && decide (o6 (rows.map Row.core) w=1)) isEnd (fW (fit - w.fit)))))::nv::[Bo,Bp])) (fun _=>H2) (fun _=>True) (fun N hN=>turnDem (hT.set.pre p2) (hw.fit.pre p2) (w46.pre p2) uh fun y=>hN y trivial) fun y20' _=> ?_
  generalize (if rs=true then w.cQ else w.cQ+(kZ T.S bad pen+lh T.S (decide (sort=1) && decide (o6 (rows.map Row.core) w=1)) isEnd (fW (fit - w.fit))))=cQ at hq ⊢
  refine .of (hT.apart.pre p2 ns) ?_
  obtain⟨es,gb,ab⟩:=hs2.b
  refine .of gb (.of (.inl (by decide)) (.of gb ?_))
  exact turnPut hw p2 hs2 j6 h2 h3 (Nat.lt_of_le_of_lt m2 (by exact cB (Nat.lt_trans hk rZ) rfl)) (Nat.lt_of_le_of_lt m3 (by exact cB (Nat.lt_trans hk rZ) rfl)) gb ab fun H' p q=>hq .next H' _ _ _ _ _ _ _ _ _ (.inl rfl) p q
 refine .of (hT.most.pre p2 ns) (.of (fun z=> ?_) fun z=>go)
 cases rs with
 |true=>exact go
 |false=>exact absurd ⟨z,rfl⟩ hno
end
section
variable {ns:List Int}{n:Nat}{H:aa}{R:PV→aa→Prop}{E:XK→aa→Prop}
theorem m585{a b c d e:PV}(k:R (.ref H.length) (H++[.inst 585 [(46,a),(47,b),(48,c),(49,d),(50,e)]])):Wc (cA (aO ns) (aj (aO ns) (n+1)) 585 [a,b,c,d,e] H) R E:=
 make rfl (aS rfl rfl (aB (aB (aB (aB (aB k))))))
noncomputable def uk(w st so sh bJ:Int):List (Nat×PV):=[(0,.int w),(1,.int st),(2,.int (if st=0 then 0 else so)),(3,.int sh),(4,.int (if sh=0 then 0 else bJ))]
theorem m227{w st so sh bJ:Int}(hw:Dm w)(iL:Dm st)(hsh:Dm sh)(h1:0≤so∧so≤3)(h2:0≤bJ∧bJ≤3)(k:R (.ref H.length) (H++[.inst 227 (uk w st so sh bJ)])):
  Wc (cA (aO ns) (aj (aO ns) (n+3)) 227 [.int w,.int st,.int so,.int sh,.int bJ] H) R E:=by
 have k':∀x y:Int,x=(if st=0 then 0 else so)→y=(if sh=0 then 0 else bJ)→R (.ref H.length) (H++[.inst 227 [(0,.int w),(1,.int st),(2,.int x),(3,.int sh),(4,.int y)]]):=by rintro _ _ rfl rfl;exact k
 refine make rfl (o5 rfl rfl (ky h1.1 h1.2 (ky h2.1 h2.2 (dF hw (aB (dF iL (aB (.of (fun a=>aB (dF hsh (aB (.of (fun b=> ?_) fun b=> ?_)))) fun a=>aB (dF hsh (aB (.of (fun b=> ?_) fun b=> ?_)))))))))))
 ·exact aB (k' 0 0 (if_pos a).symm (if_pos b).symm)
 ·exact aB (k' 0 bJ (if_pos a).symm (if_neg b).symm)
 ·exact aB (k' so 0 (if_neg a).symm (if_pos b).symm)
 ·exact aB (k' so bJ (if_neg a).symm (if_neg b).symm)
end
noncomputable def fO(T:eW)(cs:List Core)(c:Core)(isEnd:Bool)(len:Nat):Nat→List Wy→eS→eS
 |_,[],s=>s
 |k,w::r,s=>fO T cs c isEnd len (k+1) r (fC T cs c isEnd len k w s)
theorem pLoop_c{T:eW}{cs:List Core}{c:Core}{isEnd:Bool}{len k:Nat}{w:Wy}{r:List Wy}{s:eS}:fO T cs c isEnd len k (w::r) s=fO T cs c isEnd len (k+1) r (fC T cs c isEnd len k w s):=rfl
theorem pLoop_n{T:eW}{cs:List Core}{c:Core}{isEnd:Bool}{len k:Nat}{s:eS}:fO T cs c isEnd len k [] s=s:=rfl
noncomputable def lH(T:eW)(j:Nat)(s:eS)(key:Int):List Wy:=match cF key s.best,cF (key.fdiv 4) s.least with
 |some b,some m=>if b.cQ≤m+fW T.S.qA then [⟨j::b.way.path,b.line,key.fmod 4,b.cQ⟩] else []
 |_,_=>[]
theorem vJ{Q:List Wy→Prop}{T:eW}{j:Nat}{s:eS}{key:Int}(h0:Q [])(h1:∀b m,cF key s.best=some b→cF (key.fdiv 4) s.least=some m→Q (if b.cQ≤m+fW T.S.qA then [⟨j::b.way.path,b.line,key.fmod 4,b.cQ⟩] else [])):Q (lH T j s key):=by
 unfold lH
 cases e:cF key s.best with
 |none=>exact h0
 |some b=>
  cases k:cF (key.fdiv 4) s.least with
  |none=>exact h0
  |some m=>exact h1 b m e k
noncomputable def pClose(T:eW)(j:Nat)(s:eS):List Wy:=s.kept++(bO (s.best.map (·.1))).flatMap (lH T j s)
noncomputable def gu(T:eW)(cs:List Core)(j:Nat)(c:Core)(isEnd:Bool)(bV:List Wy):List Wy:=pClose T j (fO T cs c isEnd bV.length 0 bV ⟨[],[],[]⟩)
theorem kD{α:Type}{k:Int}{v:α}:∀{l:List (Int×α)},cF k l=some v→(k,v)∈l
 |(j,u)::r,h=>by
  rw[gJ] at h
  split at h
  ·rename_i e;cases h;subst e;exact List.mem_cons_self ..
  ·exact List.mem_cons_of_mem _ (kD h)
theorem kE{α:Type}{k:Int}:∀{l:List (Int×α)},k∈l.map (·.1)→∃v,cF k l=some v
 |[],h=>by simp at h
 |(j,u)::r,h=>by
  rw[gJ]
  by_cases e:j=k
  ·exact⟨u,if_pos e⟩
  ·rw[if_neg e]
   rw[List.map_cons,List.mem_cons] at h
   rcases h with h|h
   ·exact absurd h.symm e
   ·exact kE h
theorem fD{α:Type}(k:Int)(v:α)(i:Int):∀l:List (Int×α),cF i (putK k v l)=if k=i then some v else cF i l
 |[]=>rfl
 |(j,u)::r=>by
  rw[kC,gJ]
  by_cases e:j=k
  ·rw[if_pos e,gJ]
   by_cases q:k=i
   ·rw[if_pos q,if_pos (e.trans q)]
   ·have n:¬j=i:=fun z=>q (e.symm.trans z)
    rw[if_neg q,if_neg n,if_neg n]
  ·rw[if_neg e,gJ]
   by_cases q:j=i
   ·rw[if_pos q,if_pos q,if_neg (fun z=>e (q.trans z.symm))]
   ·rw[if_neg q,if_neg q,fD k v i r]
theorem mem_ins(x y:Int)(l:List Int):y∈insertSorted x l↔y=x∨y∈l:=by
 induction l with
 |nil=>
  exact List.mem_cons
 |cons z r ih=>
  rw[ed]
  split
  ·simp
  ·simp only[List.mem_cons,ih]
   constructor
   ·rintro(h|h|h)<;>simp[h]
   ·rintro(h|h|h)<;>simp[h]
theorem se(y:Int)(l:List Int):y∈bO l↔y∈l:=by
 induction l with
 |nil=>
  simp[bO]
 |cons x r ih=>
  simp only[bO,mem_ins,ih,List.mem_cons]
theorem len_ins(x:Int)(l:List Int):(insertSorted x l).length=l.length+1:=by
 induction l with
 |nil=>
  exact rfl
 |cons z r ih=>
  rw[ed]
  split
  ·rfl
  ·rw[List.length_cons,List.length_cons,ih]
theorem sf(l:List Int):(bO l).length=l.length:=by
 induction l with
 |nil=>
  exact rfl
 |cons x r ih=>
  rw[bO,len_ins,ih];rfl
def eS.has(s:eS):Prop:=∀k b,cF k s.best=some b→∃m,cF (k.fdiv 4) s.least=some m
theorem gK(w:Int)(s:Sm):0≤(rO w s).2∧(rO w s).2<4:=by
 unfold rO
 split
 ·split
  ·dsimp only;split
   ·lia
   ·split<;>lia
  ·exact⟨by decide,by decide⟩
 ·split
  ·exact⟨by decide,by decide⟩
  ·dsimp only;split<;>lia
theorem lU{g f:Int}(h0:0≤f)(h4:f<4):(4 * g+f).fdiv 4=g:=by
 rw[Int.fdiv_eq_ediv_of_nonneg _ (by decide)];exact ar141 h0 h4
theorem Bq{g f:Int}{b:uf}{s:eS}(h:s.has)(h0:0≤f)(h4:f<4):(jf g f b s).has:=by
 unfold jf
 split
 ·intro k b' e
  dsimp only at e ⊢
  rw[fD] at e ⊢
  by_cases q:g=k.fdiv 4
  ·rw[if_pos q];exact⟨_,rfl⟩
  ·rw[if_neg q]
   rw[if_neg (by rintro rfl;exact q (lU h0 h4).symm)] at e
   exact h k b' e
 ·exact h
theorem o7{T:eW}{cs:List Core}{c:Core}{isEnd:Bool}{len k:Nat}{w:Wy}{s:eS}(h:s.has):(fC T cs c isEnd len k w s).has:=by
 unfold fC
 dsimp only
 split
 ·exact h
 ·exact Bq h (gK _ _).1 (gK _ _).2
theorem o8{T:eW}{cs:List Core}{c:Core}{isEnd:Bool}{len:Nat}(l:List Wy):∀(k:Nat) (s:eS),s.has→(fO T cs c isEnd len k l s).has:=by
 induction l with
 |nil=>
  exact fun _ _ h=>h
 |cons _ l ih=>
  exact fun k _ h=>ih (k+1) _ (o7 h)
theorem ll{T:eW}{cs:List Core}{c:Core}{isEnd:Bool}{len:Nat}(l:List Wy):∀(k:Nat) (s:eS) (m:Nat),s.small m→(fO T cs c isEnd len k l s).small (m+l.length):=by
 induction l with
 |nil=>
  intro _ _ _ h
  exact h
 |cons w l ih=>
  intro k s m h
  have:=ih (k+1) (fC T cs c isEnd len k w s) (m+1) (lj h)
  rw[List.length_cons,Nat.add_comm l.length 1,←Nat.add_assoc];exact this
theorem drop_cons{α:Type}{l:List α}{k:Nat}{d:α}(h:l[k]? =some d):l.drop k=d::l.drop (k+1):=by
 have z:=(List.getElem?_eq_some_iff.mp h).1
 rw[←List.getElem_cons_drop z]
 rw[List.getElem?_eq_getElem z] at h
 cases h;rfl
theorem Br{H:aa}{rows:List Row}:∀{es:List (Int×PV)} {bs:List (Int×uf)},bu (nq H rows) es bs→es.map (·.1)=bs.map (·.1):=
 bu.el (R:=nq H rows) (P:=fun es bs=>es.map (·.1)=bs.map (·.1)) rfl fun _ _ _ _ h _ r=>by rw[List.map_cons,List.map_cons,h.1,r]
theorem um{H:aa}{rows:List Row}{v:PV}{w:Wy}(h:dv H rows v w):∃k,v=.ref k∧fX H rows (.ref k) w.path:=by
 obtain⟨k,e⟩:=h.ref
 subst e
 exact⟨k,rfl,h.chain⟩
section
variable {ns:List Int}{n:Nat}{H:aa}{rows:List Row}
noncomputable def C713:cp:=A7 (fc b713 4)
theorem close{T:eW}{tv st sp:PV}{s:eS}{x2 x3 x4 x5 x6 x7 rY lG ui vI uj y19 nv Bo Bp:Option PV}{rk rb rl j:Nat}{x13:Option PV}{row:Row}{H₀:aa}{key:Int}{es:List (Int×PV)}{vk:List PV}{L:List Wy}
  {Q:QL} {E:EL} (hS:fU H₀ st T.S) (ny:rows[j]? =some row) (hsp:sp=row.pv) (hh:s.has) (hk:key∈s.best.map (·.1))
  (p:Pre H₀ H) (gk:H[rk]? =some (.list vk)) (gb:H[rb]? =some (.aW es)) (gl:H[rl]? =some (.aW (s.least.map fun p=>(p.1,.int p.2)))) (ab:bu (nq H₀ rows) es s.best) (ak:bu (dv H rows) vk L) (hl:vk.length<1000) (h1:H₀.length≤rk)
  (hq:∀nV vk' z13 z14 z19,Pre H₀ nV→(∀i o,i≠rk→H[i]? =some o→nV[i]? =some o)→nV[rk]? =some (.list vk')→bu (dv nV rows) vk' (L++lH T j s key)→Q .next [some tv,some sp,x2,x3,x4,x5,x6,x7,some st,some (.ref rk),some (.ref rb),some (.ref rl),some (.int key),z13,z14,lG,ui,vI,uj,z19,nv,Bo,Bp] nV):
  wSs (aO ns) (aj (aO ns) (n+3)) C713 [some tv,some sp,x2,x3,x4,x5,x6,x7,some st,some (.ref rk),some (.ref rb),some (.ref rl),some (.int key),x13,rY,lG,ui,vI,uj,y19,nv,Bo,Bp] H Q E:=by
 obtain⟨b,hb⟩:=kE hk
 have lr:=rW key ab
 rw[hb] at lr
 obtain⟨v,e,hw⟩:=lr
 obtain⟨m,hm⟩:=hh key b hb
 have hnew:lH T j s key=if b.cQ≤m+fW T.S.qA then [⟨j::b.way.path,b.line,key.fmod 4,b.cQ⟩] else []:=by
  unfold lH;rw[hb,hm]
 rw[hnew] at hq
 have el:ey (key.fdiv 4) (s.least.map fun p=>(p.1,PV.int p.2))=some (.int m):=by rw[Bj,hm];rfl
 refine .of gb (.of e (.of ⟨by decide,noPylong_small (by decide)⟩ (.of gl (.of el (.of ((hS.qA.pre p) ns) (.of (fun z=> ?_) fun z=> ?_))))))
 ·rw[if_pos (show b.cQ≤m+fW T.S.qA from z)] at hq
  let o:aH:=.inst 585 [(46,sp),(47,PV.int b.line),(48,PV.int (key.fmod 4)),(49,PV.int b.cQ),(50,v)]
  have g:(H++[o])[rk]? =some (.list vk):=(Pre.app _ (.refl H)).get gk
  have i1:rU H ((H++[o]).set rk (.list (vk++[.ref H.length]))):=(Pre.app _ (.refl H)).ins.set g (by intro c fs h;cases h)
  have nr:rk≠H.length:=Nat.ne_of_lt (List.getElem?_eq_some_iff.mp gk).1
  have gn:((H++[o]).set rk (.list (vk++[.ref H.length])))[H.length]? =some o:=(bz nr).trans aX
  refine .of gk (.of (by decide) (m585 (.of g (.of (by exact cB hl rfl) (hq _ _ _ _ _ ((p.app _).set h1) (fun i x hi ho=>(bz (Ne.symm hi)).trans ((Pre.app _ (.refl H)).get ho)) (getset g) ((ak.mono fun _ _ h=>h.ins i1).append ⟨?_,trivial⟩))))))
  obtain⟨k0,rfl,ch⟩:=um hw
  have hsp':sp=cY rows (j::b.way.path):=by rw[hsp];simp[cY,ny]
  exact⟨⟨_,rfl⟩,aA gn rfl rfl,aA gn rfl rfl,aA gn rfl rfl,⟨aA gn rfl (by rw[←hsp'];rfl),k0,aA gn rfl rfl,ch.ins (p.ins.trans i1)⟩⟩
 ·rw[if_neg (show ¬b.cQ≤m+fW T.S.qA from z),List.append_nil] at hq
  exact hq H vk _ _ _ p (fun _ _ _ h=>h) gk ak
end
section
variable {ns:List Int}{n:Nat}{H:aa}{rows:List Row}{R:PV→aa→Prop}{E:XK→aa→Prop}
theorem sg(T:eW)(j:Nat)(s:eS)(key:Int):(lH T j s key).length≤1:=by
 revert T j s key
 apply aN;intro
 generalize bM .. =T,bN .. =j,bQ .. =s,bR .. =key
 refine vJ (Q:=fun l=>l.length≤1) (Nat.zero_le _) fun b m _ _=> ?_
 split
 ·exact Nat.le_refl _
 ·exact Nat.zero_le _
structure WOk(rows:List Row)(T:eW)(row:Row)(w:Wy):Prop where
 path:∀i∈w.path,∃r,rows[i]? =some r∧r.start≤row.place
 l0:0≤w.line
 l1:w.line≤1000
 sm:∀b,b=(Sm.line (Bi (rows.map Row.core) w) row.en T.g)→b.b<1073741824∧b.f<1073741824
structure WtS where
 H:aa
 s:eS
 (a b c d e f g h i j k:Option PV)
instance:Nonempty WtS:=⟨⟨[],⟨[],[],[]⟩,none,none,none,none,none,none,none,none,none,none,none⟩⟩
structure WtJ(H:aa)(rows:List Row)(T:eW)(core:Core)(isEnd:Bool)(len:Nat)(bV:List Wy)(fin:eS)(k:Nat)(z:WtS):Prop where
 pre:Pre H z.H
 st:rV H z.H rows H.length (H.length+1) (H.length+2) z.s
 small:z.s.small k
 go:fO T (rows.map Row.core) core isEnd len k (bV.drop k) z.s=fin
structure ClJ(H:aa)(rows:List Row)(T:eW)(j:Nat)(fin:eS)(es:List (Int×PV))(keys:List Int)(rs len:Nat)(k:Nat)(z:WtS):Prop where
 pre:Pre H z.H
 src:z.H[rs]? =some (.list (keys.map .int))
 b:z.H[H.length+1]? =some (.aW es)
 l:z.H[H.length+2]? =some (.aW (fin.least.map fun p=>(p.1,.int p.2)))
 at_:∃vk,z.H[H.length]? =some (.list vk)∧bu (dv z.H rows) vk (fin.kept++(keys.take k).flatMap (lH T j fin))∧vk.length≤len+k
def waysG(H:aa)(rows:List Row)(l:List Wy)(p:Nat×List PV)(H':aa)(C:Prop):Prop:=Pre H H'→H'[p.1]? =some (.list p.2)→bu (dv H' rows) p.2 l→C
noncomputable def wtL(tv:PV)(row:Row)(ra:Nat)(isEnd:Bool)(st:PV)(r0 r1 r2:Nat)(z:WtS):Loc:=[some tv,some row.pv,some (.ref ra),some (.bool isEnd),some (.int row.place),some (.int row.pen),some (.int row.sort),some row.en.pv,some st,some (.ref r0),some (.ref r1),some (.ref r2),z.a,z.b,z.c,z.d,z.e,z.f,z.g,z.h,z.i,z.j,z.k]
theorem s713{T:eW}{tv st:PV}{row:Row}{bV:List Wy}{va:List PV}{ra j:Nat}{isEnd:Bool}
  (hT:TrR H tv st T) (ha:H[ra]? =some (.list va)) (rZ:va.length<60) (hA:bu (dv H rows) va bV) (ny:rows[j]? =some row)
  (hok:∀w∈bV,WOk rows T row w) (uh: -10000≤row.pen∧row.pen≤10000) (k:Kt (fun p:Nat×List PV=>.ref p.1) (waysG H rows (gu T (rows.map Row.core) j row.core isEnd bV)) R):
  Wc (aj (aO ns) (n+4) 713 [tv,row.pv,.ref ra,.bool isEnd] H) R E:=by
 revert ns n H rows R E T tv st row bV va ra j isEnd
 apply aT;intro
 generalize bX .. =ns,bY .. =n,bZ .. =H,b7 .. =rows,cv .. =R,cw .. =E,cx .. =T,cy .. =tv
 apply aN;intro
 generalize bM .. =st,bN .. =row,bQ .. =bV,bR .. =va
 apply aP;intro
 generalize bP .. =ra,bS .. =j
 apply aJ;intro
 generalize nx .. =isEnd
 intro hT ha rZ hA ny hok uh k
 have k:=kt k
 have hlen:=hA.length
 have c1:Pre H (H++[aH.list []]):=(Pre.refl H).app _
 have c2:=c1.app [aH.aW []]
 have c3:=c2.app [aH.aW []]
 have l1:(H++[aH.list []]).length=H.length+1:=by simp
 have l2:(H++[aH.list []]++[aH.aW []]).length=H.length+2:=by simp
 have gk0:(H++[aH.list []]++[aH.aW []]++[aH.aW []])[H.length]? =some (.list []):=(Pre.app [aH.aW []] (Pre.app [aH.aW []] (Pre.refl _))).get aX
 have gb0:(H++[aH.list []]++[aH.aW []]++[aH.aW []])[H.length+1]? =some (.aW []):=(Pre.app [aH.aW []] (Pre.refl _)).get (by rw[←l1];exact aX)
 have gl0:(H++[aH.list []]++[aH.aW []]++[aH.aW []])[H.length+2]? =some (.aW []):=by rw[←l2];exact aX
 generalize yt:fO T (rows.map Row.core) row.core isEnd va.length 0 bV ⟨[],[],[]⟩=fin
 have hw:gu T (rows.map Row.core) j row.core isEnd bV=pClose T j fin:=by unfold gu;rw[←hlen,yt]
 rw[hw] at k
 have hhas:fin.has:=by rw[←yt];exact o8 _ _ _ (fun k b e=>by cases e)
 have hsm:fin.small va.length:=by
  have:=ll (T:=T) (cs:=rows.map Row.core) (c:=row.core) (isEnd:=isEnd) (len:=va.length) bV 0 ⟨[],[],[]⟩ 0 ⟨Nat.le_refl _,Nat.le_refl _,Nat.le_refl _⟩
  rw[yt,←hlen,Nat.zero_add] at this;exact this
 refine aS rfl rfl (.of (hT.at_ ns) ?_)
 refine nxt ?_
 show wSs _ _ _ [some tv,some row.pv,some (.ref ra),some (.bool isEnd),some (.int row.place),some (.int row.pen),some (.int row.sort),some row.en.pv,some st,some (.ref H.length),some (.ref (H++[aH.list []]).length),some (.ref (H++[aH.list []]++[aH.aW []]).length),none,none,none,none,none,none,none,none,none,none,none] _ _ _
 rw[l1,l2]
 refine cut (wtL tv row ra isEnd st H.length (H.length+1) (H.length+2)) (fun z=>z.H) (fun z=>Pre H z.H∧rV H z.H rows H.length (H.length+1) (H.length+2) fin) (fun N hN=>.of (c3.get ha) (.of (by exact cB rZ rfl) ?_)) ?_
 ·refine vA (fun _=>wtL tv row ra isEnd st H.length (H.length+1) (H.length+2)) (fun _ z=>z.H) (WtJ H rows T row.core isEnd va.length bV fin) ⟨_,⟨[],[],[]⟩,none,none,none,none,none,none,none,none,none,none,none⟩ va ⟨c3,⟨⟨[],gk0,trivial⟩,⟨[],gb0,trivial⟩,gl0⟩,⟨Nat.le_refl _,Nat.le_refl _,Nat.le_refl _⟩,by rw[List.drop_zero];exact yt⟩ (fun k z j=>j.pre.get ha) (fun k z v i hv=> ?_) fun z i=>hN z ⟨i.pre,?_⟩
  ·have hk:=(List.getElem?_eq_some_iff.mp hv).1
   have hw:bV[k]? =some _:=List.getElem?_eq_getElem (by rw[←hlen];exact hk)
   obtain⟨u,hu,ru⟩:=hA.get hw
   cases hv.symm.trans hu
   have ok:=hok _ (List.mem_of_getElem? hw)
   have he:=i.go
   rw[drop_cons hw,pLoop_c] at he
   refine turn (n:=n) (bg:=row.bg) (H₀:=H) hT ha rZ ru i.small hk ok.path i.pre i.st (Nat.ne_of_lt (Nat.lt_succ_self _)) (Nat.le_refl _) (Nat.le_succ _) (Nat.le_add_right _ 2) ok.l0 ok.l1 uh ok.sm fun f H' z14 z15 z16 z17 z18 z19 z20 z21 z22 hf p' vc=> ?_
   rcases hf with rfl|rfl<;>exact⟨⟨H',_,_,_,_,_,_,_,_,_,_,_,_⟩,rfl,rfl,p',vc,lj i.small,he⟩
  ·have e:=i.go
   rw[hlen,List.drop_length,pLoop_n] at e
   rw[←e];exact i.st
 rintro⟨H2,_,y12,y13,rY,lG,ui,vI,uj,y19,nv,Bo,Bp⟩ ⟨p2,hs⟩
 obtain⟨vk,gk,ak⟩:=hs.k
 obtain⟨es,gb,ab⟩:=hs.b
 have gl:=hs.l
 have ek:=Br ab
 obtain⟨m1,m2,m3⟩:=hsm
 have lk:vk.length=fin.kept.length:=ak.length
 have lb:es.length=fin.best.length:=ab.length
 obtain⟨keys,vK⟩:∃keys,keys=bO (fin.best.map (·.1)):=⟨_,rfl⟩
 have lkeys:keys.length=fin.best.length:=by rw[vK,sf,List.length_map]
 have hsrc:(H2++[aH.list ((bO (es.map (·.1))).map .int)])[H2.length]? =some (.list (keys.map .int)):=by rw[ek,←vK];exact aX
 have q0:Pre H2 (H2++[aH.list ((bO (es.map (·.1))).map .int)]):=Pre.app _ (.refl _)
 have lt:(keys.map PV.int).length<100000:=by rw[List.length_map];exact Cj rZ m2 lkeys rfl
 refine .of gb (.of (by exact Cj rZ m2 lb rfl) (.of hsrc (.of lt ?_)))
 refine ej (fun _=>wtL tv row ra isEnd st H.length (H.length+1) (H.length+2)) (fun _ z=>z.H) (ClJ H rows T j fin es keys H2.length va.length) ⟨_,fin,y12,y13,rY,lG,ui,vI,uj,y19,nv,Bo,Bp⟩ (keys.map .int) ⟨p2.trans q0,hsrc,q0.get gb,q0.get gl,vk,q0.get gk,by rw[List.take_zero,List.flatMap_nil,List.append_nil];exact ak.mono fun _ _ h=>h.ins (p2.trans q0).ins,by exact Nat.le_trans (Nat.le_of_eq lk) m1⟩ (fun k z j=>j.src) (fun k z v i hv=> ?_) fun z i=> ?_
 ·obtain⟨key,hkey,rfl⟩:∃key,keys[k]? =some key∧PV.int key=v:=by rw[List.getElem?_map] at hv;exact Option.map_eq_some_iff.mp hv
  have hm:key∈fin.best.map (·.1):=by rw[←se,←vK];exact List.mem_of_getElem? hkey
  obtain⟨vk,gk,ak,hvk⟩:=i.at_
  have hk:=(List.getElem?_eq_some_iff.mp hkey).1
  have f2:H.length+2<H2.length:=(List.getElem?_eq_some_iff.mp gl).1
  refine close (n:=n) (H₀:=H) (L:=fin.kept++(keys.take k).flatMap (lH T j fin)) hT.set ny rfl hhas hm i.pre gk i.b i.l ab ak (by exact ar160 rZ m2 lkeys hvk hk) (Nat.le_refl _) fun nV vk' z13 z14 z19 p' keep gk' ak'=>⟨⟨nV,fin,_,_,_,_,_,_,_,_,_,_,_⟩,rfl,rfl,p',keep _ _ (by exact Nat.ne_of_gt (Nat.lt_of_le_of_lt (Nat.le_add_right _ 2) f2)) i.src,keep _ _ (by exact Nat.succ_ne_self _) i.b,keep _ _ (by lia) i.l,vk',gk',?_,?_⟩
  ·rw[List.take_add_one,hkey,List.flatMap_append,←List.append_assoc]
   simpa using ak'
  ·have e1:=ak'.length
   have e2:=ak.length
   have:=sg T j fin key
   rw[List.length_append] at e1
   exact ar167 hvk e1 e2 this
 ·obtain⟨vk,gk,ak,hvk⟩:=i.at_
  rw[List.length_map,List.take_length,vK] at ak
  exact k (_,vk) _ i.pre gk ak
end
theorem yg.ins{H H':aa}{v:PV}{g:Gl}(p:rU H H')(h:yg H v g):yg H' v g:=⟨h.w.ins p,h.st.ins p,h.so.ins p,h.sh.ins p,h.bJ.ins p⟩
structure oz(H:aa)(v:PV)(S:bp)(gl gr:Gl):Prop where
 r:fU H v S
 pre:∃x,Aq H v 34 (.int x)∧-2147483647≤x∧x≤2147483647
 ff:∃x,Aq H v 35 (.int x)∧-2147483647≤x∧x≤2147483647
 emg:∃x,Aq H v 43 (.int x)∧-1073741823≤x∧x≤1073741823
 lg:∃u,Aq H v 44 u∧yg H u gl
 rg:∃u,Aq H v 45 u∧yg H u gr
 ok:∀x∈[S.sI,S.bT,S.ex,S.qA,S.dbl,S.fin,S.loose],-100000≤x∧x≤100000
 lok:gl.bJ=0∧0≤gl.so∧gl.so≤3
 rok:gr.bJ=0∧0≤gr.so∧gr.so≤3
theorem oz.ins{H H':aa}{v:PV}{S:bp}{gl gr:Gl}(p:rU H H')(h:oz H v S gl gr):oz H' v S gl gr:=by
 obtain⟨⟨a1,a2,a3,a4,a5,a6,a7⟩,⟨x1,b1,c1⟩,⟨x2,b2,c2⟩,⟨x3,b3,c3⟩,⟨u1,d1,e1⟩,⟨u2,d2,e2⟩,k1,k2,k3⟩:=h
 exact⟨⟨a1.ins p,a2.ins p,a3.ins p,a4.ins p,a5.ins p,a6.ins p,a7.ins p⟩,⟨x1,b1.ins p,c1⟩,⟨x2,b2.ins p,c2⟩,⟨x3,b3.ins p,c3⟩,⟨u1,d1.ins p,e1.ins p⟩,⟨u2,d2.ins p,e2.ins p⟩,k1,k2,k3⟩
noncomputable def cT(gl gr:Gl)(extra:Int):Sm:={(gl.sm.add gr.sm) with b:=(gl.sm.add gr.sm).b+extra}
noncomputable def et:List Wy→Wy→Wy
 |[],b=>b
 |w::r,b=>et r (if w.cQ<b.cQ then w else b)
noncomputable def eX(loose:Int)(base:Wy):List Wy→Wy×Int→Wy×Int
 |[],p=>p
 |w::r,p=>eX loose base r (if((loose≤w.line - base.line∧w.line - base.line<p.2)∨(p.2<w.line - base.line∧w.line - base.line≤loose))∨(w.line - base.line=p.2∧w.cQ<p.1.cQ) then(w,w.line - base.line) else p)
theorem vL{loose:Int}{base w:Wy}{r:List Wy}{p:Wy×Int}:eX loose base (w::r) p=eX loose base r (if((loose≤w.line - base.line∧w.line - base.line<p.2)∨(p.2<w.line - base.line∧w.line - base.line≤loose))∨(w.line - base.line=p.2∧w.cQ<p.1.cQ) then(w,w.line - base.line) else p):=rfl
theorem pNear_n{loose:Int}{base:Wy}{p:Wy×Int}:eX loose base [] p=p:=rfl
noncomputable def gT(bI:List Wy)(w0:Wy)(loose:Int):Wy×Int:=if loose=0 then(et bI w0,0) else eX loose (et bI w0) bI (et bI w0,0)
section
variable {ns:List Int}{n:Nat}{H:aa}{rows:List Row}{R:PV→aa→Prop}{E:XK→aa→Prop}
theorem s680{st:PV}{S:bp}{gl gr:Gl}(h:oz H st S gl gr){extra:Int}(he:Dm extra)(k:∀J,R (cT gl gr extra).pv (H++J)):Wc (aj (aO ns) (n+3) 680 [st,.int extra] H) R E:=by
 revert ns n H R E st S gl gr extra
 apply aT;intro
 generalize bX .. =ns,bY .. =n,bZ .. =H,b7 .. =R,cv .. =E,cw .. =st,cx .. =S,cy .. =gl
 apply aJ;intro
 generalize nx .. =gr
 intro h
 apply aJ;intro
 generalize nx .. =extra
 intro he k
 obtain⟨u1,a1,g1⟩:=h.lg
 obtain⟨u2,a2,g2⟩:=h.rg
 have p1:Pre H (H++[aH.list Sm.zero.ls]):=(Pre.refl H).app _
 have i1:∀o,rU H ((H++[aH.list Sm.zero.ls]).set H.length o):=fun o=>p1.ins.set aX (by intro c fs h;cases h)
 refine aS rfl rfl (.of (by decide:6<100000) (.of ((a1.pre p1) ns) (s645 (s:=.zero) aX (g1.pre p1) h.lok.2.1 h.lok.2.2 (fun _=> ?_) fun x=>absurd h.lok.1 x)))
 rw[Sm.zero_add]
 refine .of ((a2.ins (i1 _)) ns) (s645 (s:=gl.sm) (getset aX) (g2.ins (i1 _)) h.rok.2.1 h.rok.2.2 (fun _=> ?_) fun x=>absurd h.rok.1 x)
 rw[List.set_set,nc]
 have k:=k [.list (cT gl gr extra).ls]
 exact .of aX (.of (get6 (s:=gl.sm.add gr.sm) (m:=1) ⟨by decide,rfl⟩) (dF he (.of aX (.of (set6 (s:=gl.sm.add gr.sm) (by decide)) (by rw[nc];exact .of aX (.of (by decide:6<100000) k))))))
theorem s617{st:PV}{S:bp}{gl gr:Gl}(h:oz H st S gl gr)(k:R .none H):Wc (aj (aO ns) (n+3) 617 [st] H) R E:=by
 revert ns n H R E st S gl gr
 apply aT;intro
 generalize bX .. =ns,bY .. =n,bZ .. =H,b7 .. =R,cv .. =E,cw .. =st,cx .. =S,cy .. =gl
 apply aJ;intro
 generalize nx .. =gr
 intro h k
 obtain⟨x1,b1,c1⟩:=h.pre
 obtain⟨x2,b2,c2⟩:=h.ff
 obtain⟨x3,b3,c3⟩:=h.emg
 have ok:∀x∈[S.sI,S.bT,S.ex,S.qA,S.dbl,S.fin,S.loose],Nm x:=fun x m=>by have:=h.ok x m;unfold Nm;exact b8 this rfl rfl
 refine aS rfl rfl (.of (b1 ns) (.of (b2 ns) (.of (h.r.sI ns) (.of (h.r.bT ns) (.of (h.r.ex ns) (.of (h.r.qA ns) (.of (h.r.dbl ns) (.of (h.r.fin ns) (.of (h.r.loose ns) (.of (by decide:9<1000) ?_))))))))))
 refine qg (fun _ y=>[some st,y]) (fun _ _=>H) (fun _ _=>True) none ([x1,x2,S.sI,S.bT,S.ex,S.qA,S.dbl,S.fin,S.loose].map PV.int) trivial (fun k y v _ hv=> ?_) fun y _=>.of (b3 ns) (dF c3 k)
 obtain⟨x,hx,rfl⟩:∃x,[x1,x2,S.sI,S.bT,S.ex,S.qA,S.dbl,S.fin,S.loose][k]? =some x∧PV.int x=v:=by rw[List.getElem?_map] at hv;exact Option.map_eq_some_iff.mp hv
 have hm:Nm x:=by
  rcases List.mem_cons.mp (List.mem_of_getElem? hx) with rfl|m
  ·exact c1
  rcases List.mem_cons.mp m with rfl|m
  ·exact c2
  ·exact ok x m
 exact rN hm ⟨_,rfl,rfl,trivial⟩
noncomputable def cG(rows:List Row)(p:List Nat):List PV:=p.map fun i=>.int (((rows[i]?).map fun r=>(r.place:Int)).getD 0)
theorem s727{v:PV}{p:List Nat}(hv:∃k,v=.ref k)(h:fX H rows v p)(hp:∀i∈p,∃r,rows[i]? =some r)(hl:p.length<1000)(k:Kt PV.ref (fun r H' C=>Pre H H'→H'[r]? =some (.list (cG rows p.reverse))→C) R):
  Wc (aj (aO ns) (n+1) 727 [v] H) R E:=by
 revert ns n H rows R E v p
 apply aT;intro
 generalize bX .. =ns,bY .. =n,bZ .. =H,b7 .. =rows,cv .. =R,cw .. =E,cx .. =v,cy .. =p
 intro hv h hp hl k
 have k:=kt k
 have c1:Pre H (H++[aH.list []]):=(Pre.refl H).app _
 refine aS rfl rfl ?_
 refine nxt ?_
 refine lE (fun s:aa×PV=>[some s.2,some (.ref H.length)]) (fun s=>s.1) (fun s=>Pre H s.1∧s.1[H.length]? =some (.list (cG rows p))) (fun N hN=> ?_) fun s j=> ?_
 ·refine Bb (fun s:aa×PV×List Nat×List Nat=>[some s.2.1,some (.ref H.length)]) (fun s=>s.1) (fun s=>Pre H s.1∧p=s.2.2.1++s.2.2.2∧(∃k,s.2.1=.ref k)∧fX H rows s.2.1 s.2.2.2∧s.1[H.length]? =some (.list (cG rows s.2.2.1))) (fun s=>s.2.2.2.length) (_,v,[],p) ⟨c1,rfl,hv,h,aX⟩ fun s j N' hN'=> ?_
  obtain⟨H',v,d,q⟩:=s
  obtain⟨pr,e,hv,ch,g⟩:=j
  dsimp only at pr e hv ch g ⊢
  cases q with
  |nil=>
   rw[List.append_nil] at e
   subst e
   exact .of ((ch.2.pre pr) ns) (hN (H',v) ⟨pr,g⟩)
  |cons i q=>
   obtain⟨yR,k,lX,ch'⟩:=ch
   obtain⟨r,hr⟩:=hp i (by rw[e];simp)
   have hs:cY rows (i::q)=r.pv:=by simp[cY,hr]
   rw[hs] at yR
   have ld:(cG rows d).length<100000:=by
    unfold cG;rw[List.length_map]
    have:=congrArg List.length e
    rw[List.length_append] at this;exact cB (Nat.lt_of_le_of_lt (Nat.le_add_right _ _) (this▸hl)) rfl
   refine .of ((lX.pre pr) ns) (.of g (.of ((yR.pre pr) ns) (.of g (.of ld (.of ((lX.pre (pr.set (Nat.le_refl _))) ns) (hN' (_,.ref k,d++[i],q) ⟨pr.set (Nat.le_refl _),by rw[e];simp,⟨k,rfl⟩,ch',(getset g).trans ?_⟩ (Nat.lt_succ_self _)))))))
   simp[cG,hr]
 ·have ld:(cG rows p).length<100000:=by unfold cG;rw[List.length_map];exact cB hl rfl
  refine .of j.2 (.of ld (k _ _ (j.1.app _) (aX.trans ?_)))
  simp[cG]
theorem pick1{vs:List PV}{bI:List Wy}{r:Nat}{loose:Int}(g:H[r]? =some (.list vs))(a:bu (dv H rows) vs bI){b:Wy}{bv:PV}(hb:dv H rows bv b)(hl:vs.length<1000){x4 x5 x6 x7 x3:Option PV}
  {Q:QL} {E:EL} (hq:∀bv' y,dv H rows bv' (et bI b)→Q .next [some (.ref r),some (.int loose),some bv',y,x4,x5,x6,x7] H):
  wS (aO ns) (aj (aO ns) n) (fc b720 1) [some (.ref r),some (.int loose),some bv,x3,x4,x5,x6,x7] H Q E:=by
 revert ns n H rows vs bI r loose b bv x4 x5 x6 x7 x3 Q E
 apply aT;intro
 generalize bX .. =ns,bY .. =n,bZ .. =H,b7 .. =rows,cv .. =vs,cw .. =bI,cx .. =r,cy .. =loose
 intro g a
 apply aP;intro
 generalize bP .. =b,bS .. =bv
 intro hb hl
 apply aN;intro
 generalize bM .. =x4,bN .. =x5,bQ .. =x6,bR .. =x7
 apply aP;intro
 generalize bP .. =x3,bS .. =Q
 apply aJ;intro
 generalize nx .. =E
 intro hq
 refine .of g (.of (Nat.lt_trans hl (by decide)) ?_)
 refine ej (fun _ (s:Wy×PV×Option PV)=>[some (.ref r),some (.int loose),some s.2.1,s.2.2,x4,x5,x6,x7]) (fun _ _=>H) (fun k s=>dv H rows s.2.1 s.1∧et (bI.drop k) s.1=et bI b) (b,bv,x3) vs ⟨hb,rfl⟩ (fun _ _ _=>g) (?_) fun s j=> ?_
 ·apply aP;intro
  generalize bP .. =k,bS .. =s
  apply aJ;intro
  generalize nx .. =v
  intro j hv
  have hw:bI[k]? =some _:=List.getElem?_eq_getElem (by rw[←a.length];exact(List.getElem?_eq_some_iff.mp hv).1)
  obtain⟨u,hu,ru⟩:=a.get hw
  cases hv.symm.trans hu
  obtain⟨uS,he⟩:=j
  rw[drop_cons hw,et] at he
  refine .of (ru.cQ ns) (.of (uS.cQ ns) (.of (fun z=>⟨(_,v,some v),rfl,rfl,ru,?_⟩) fun z=>⟨(_,s.2.1,some v),rfl,rfl,uS,?_⟩))
  ·rw[if_pos z] at he;exact he
  ·rw[if_neg z] at he;exact he
 ·obtain⟨uS,he⟩:=j
  rw[a.length,List.drop_length,et] at he
  exact hq _ _ (he▸uS)
theorem pick2{vs:List PV}{bI:List Wy}{r:Nat}{loose:Int}(g:H[r]? =some (.list vs))(a:bu (dv H rows) vs bI){b f:Wy}{bv fv:PV}{ap:Int}(hb:dv H rows bv b)(hf:dv H rows fv f)(hl:vs.length<1000){x6 x7 x3:Option PV}
  {Q:QL} {E:EL} (hq:∀fv' y y6 y7,dv H rows fv' (eX loose b bI (f,ap)).1→Q .next [some (.ref r),some (.int loose),some bv,y,some fv',some (.int (eX loose b bI (f,ap)).2),y6,y7] H):
  wS (aO ns) (aj (aO ns) n) (match fc b720 3 with|.ite _ a _=>fc a 0|s=>s) [some (.ref r),some (.int loose),some bv,x3,some fv,some (.int ap),x6,x7] H Q E:=by
 revert ns n H rows vs bI r loose b f bv fv ap x6 x7 x3 Q E
 apply aT;intro
 generalize bX .. =ns,bY .. =n,bZ .. =H,b7 .. =rows,cv .. =vs,cw .. =bI,cx .. =r,cy .. =loose
 intro g a
 apply aN;intro
 generalize bM .. =b,bN .. =f,bQ .. =bv,bR .. =fv
 apply aJ;intro
 generalize nx .. =ap
 intro hb hf hl
 apply aN;intro
 generalize bM .. =x6,bN .. =x7,bQ .. =x3,bR .. =Q
 apply aJ;intro
 generalize nx .. =E
 intro hq
 refine .of g (.of (Nat.lt_trans hl (by decide)) ?_)
 refine ej (fun _ (s:(Wy×Int)×PV×Option PV×Option PV×Option PV)=>[some (.ref r),some (.int loose),some bv,s.2.2.1,some s.2.1,some (.int s.1.2),s.2.2.2.1,s.2.2.2.2]) (fun _ _=>H) (fun k s=>dv H rows s.2.1 s.1.1∧eX loose b (bI.drop k) s.1=eX loose b bI (f,ap)) ((f,ap),fv,x3,x6,x7) vs ⟨hf,rfl⟩ (fun _ _ _=>g) (?_) ?_
 ·apply aP;intro
  generalize bP .. =k,bS .. =s
  intro v j hv
  have hw:bI[k]? =some _:=List.getElem?_eq_getElem (by rw[←a.length];exact(List.getElem?_eq_some_iff.mp hv).1)
  obtain⟨u,hu,ru⟩:=a.get hw
  cases hv.symm.trans hu
  obtain⟨⟨f',Cc⟩,fv',y,y6,y7⟩:=s
  obtain⟨hf',he⟩:=j
  rw[drop_cons hw,vL] at he
  generalize bI[k]'_=w at *
  dsimp only at he hf' ⊢
  refine .of (ru.line ns) (.of (hb.line ns) ?_)
  refine lE (fun t:Bool=>[some (.ref r),some (.int loose),some bv,some v,some fv',some (.int Cc),some (.int (w.line - b.line)),some (.bool t)]) (fun _=>H) (fun t=>t=decide ((loose≤w.line - b.line∧w.line - b.line<Cc)∨(Cc<w.line - b.line∧w.line - b.line≤loose))) (fun N hN=> ?_) fun t ht=> ?_
  ·refine .and (fun z1 z2=>hN true (decide_eq_true (.inl ⟨z1,z2⟩)).symm) fun z=>.of (fun z1=>hN _ ?_) fun z1=>hN false (decide_eq_false fun y=>y.elim z fun y=>z1 y.1).symm
   exact decide_eq_decide.mpr ⟨fun z2=>.inr ⟨z1,z2⟩,fun y=>y.elim (fun y=>absurd y z) fun y=>y.2⟩
  ·have yes:(((loose≤w.line - b.line∧w.line - b.line<Cc)∨(Cc<w.line - b.line∧w.line - b.line≤loose))∨(w.line - b.line=Cc∧w.cQ<f'.cQ))→eX loose b (bI.drop (k+1)) (w,w.line - b.line)=eX loose b bI (f,ap):=fun z=>by rw[if_pos z] at he;exact he
   have no:¬(((loose≤w.line - b.line∧w.line - b.line<Cc)∨(Cc<w.line - b.line∧w.line - b.line≤loose))∨(w.line - b.line=Cc∧w.cQ<f'.cQ))→eX loose b (bI.drop (k+1)) (f',Cc)=eX loose b bI (f,ap):=fun z=>by rw[if_neg z] at he;exact he
   refine yN (fun e=>⟨((_,_),_,_,_,_),rfl,rfl,ru,yes (.inl (of_decide_eq_true (ht.symm.trans e)))⟩) fun e=> ?_
   have e:=of_decide_eq_false (ht.symm.trans e)
   exact .of (fun z2=>.of (ru.cQ ns) (.of (hf'.cQ ns) (.of (fun z3=>⟨((_,_),_,_,_,_),rfl,rfl,ru,yes (.inr ⟨z2,z3⟩)⟩) fun z3=>⟨((_,_),_,_,_,_),rfl,rfl,hf',no fun y=>y.elim e fun y=>z3 y.2⟩))) fun z2=>⟨((_,_),_,_,_,_),rfl,rfl,hf',no fun y=>y.elim e fun y=>z2 y.1⟩
 ·apply aJ;intro
  generalize nx .. =s
  intro j
  obtain⟨uS,he⟩:=j
  rw[a.length,List.drop_length,pNear_n] at he
  have:=hq s.2.1 s.2.2.1 s.2.2.2.1 s.2.2.2.2 (by rw[←he];exact uS)
  rw[←he] at this
  exact this
theorem s720{vs:List PV}{w:Wy}{bI:List Wy}{r:Nat}{loose:Int}(g:H[r]? =some (.list vs))(a:bu (dv H rows) vs (w::bI))(hl:vs.length<1000)(k:∀u,dv H rows u (gT (w::bI) w loose).1→R (.tup [u,.int (gT (w::bI) w loose).2]) H):
  Wc (aj (aO ns) (n+1) 720 [.ref r,.int loose] H) R E:=by
 obtain⟨v0,h0,r0⟩:=a.get (i:=0) (b:=w) rfl
 have hpk:gT (w::bI) w loose=if loose=0 then(et (w::bI) w,0) else eX loose (et (w::bI) w) (w::bI) (et (w::bI) w,0):=rfl
 refine aS rfl rfl (.of g (.of (fe h0 hl) ?_))
 refine lE (fun s:PV×Option PV=>[some (.ref r),some (.int loose),some s.1,s.2,none,none,none,none]) (fun _=>H) (fun s=>dv H rows s.1 (et (w::bI) w)) (fun N hN=>pick1 g a r0 hl fun bv y hb=>hN (bv,y) hb) fun s hb=> ?_
 refine nxt ?_
 refine lE (fun t:PV×Option PV×Option PV×Option PV=>[some (.ref r),some (.int loose),some s.1,t.2.1,some t.1,some (.int (gT (w::bI) w loose).2),t.2.2.1,t.2.2.2]) (fun _=>H) (fun t=>dv H rows t.1 (gT (w::bI) w loose).1) (fun N hN=> ?_) fun t ht=> ?_
 rotate_left
 ·exact k _ ht
 rw[hpk] at hN
 refine .of (fun z=> ?_) fun z=> ?_
 ·rw[if_pos z] at hN;exact hN (_,_,_,_) hb
 ·rw[if_neg z] at hN;exact pick2 g a hb hb hl fun fv y y6 y7 hf=>hN (_,_,_,_) hf
end
noncomputable def nA(T:eW)(cs:List Core):Nat→List Core→List Wy→Option (List Wy)
 |_,[],a=>some a
 |j,c::r,a=>if(gu T cs j c r.isEmpty a).isEmpty then none else nA T cs (j+1) r (gu T cs j c r.isEmpty a)
theorem uo{T:eW}{cs:List Core}{j:Nat}{c:Core}{r:List Core}{a:List Wy}:nA T cs j (c::r) a=if(gu T cs j c r.isEmpty a).isEmpty then none else nA T cs (j+1) r (gu T cs j c r.isEmpty a):=rfl
theorem pRun_n{T:eW}{cs:List Core}{j:Nat}{a:List Wy}:nA T cs j [] a=some a:=rfl
noncomputable def uq(T:eW):List Wy→Option (List Nat)
 |[]=>none
 |w::r=>if(gT (w::r) w T.S.loose).2≠T.S.loose∧T.last=false then none else some (gT (w::r) w T.S.loose).1.path.reverse
noncomputable def dP(T:eW)(cs:List Core):Option (List Nat):=(nA T cs 0 cs [⟨[],T.dy.done,2,0⟩]).bind (uq T)
structure nC(d:Int)(k:Nat)(w:Wy):Prop where
 path:∀i∈w.path,i<k
 len:w.path.length≤k
 l0:0≤w.line
 l1:w.line≤d+k
theorem nC.mono{d:Int}{k:Nat}{w:Wy}(h:nC d k w):nC d (k+1) w:=⟨fun i m=>Nat.lt_succ_of_lt (h.path i m),Nat.le_succ_of_le h.len,h.l0,by have:=h.l1;exact ar178 this⟩
theorem si{α:Type}{k:Int}{v:α}{x:Int×α}:∀{l:List (Int×α)},x∈putK k v l→x=(k,v)∨x∈l
 |[],h=>.inl (List.mem_singleton.mp h)
 |(j,u)::r,h=>by
  rw[kC] at h
  split at h
  ·rename_i e
   rcases List.mem_cons.mp h with h|h
   ·exact .inl (by rw[h,e])
   ·exact .inr (List.mem_cons_of_mem _ h)
  ·rcases List.mem_cons.mp h with h|h
   ·exact .inr (by rw[h];exact List.mem_cons_self ..)
   ·rcases si h with h|h
    ·exact .inl h
    ·exact .inr (List.mem_cons_of_mem _ h)
def eS.from(P:Wy→Prop)(s:eS):Prop:=(∀w∈s.kept,P w)∧∀x∈s.best,P x.2.way∧x.2.line=x.2.way.line+1
theorem yu{P:Wy→Prop}{g f:Int}{b:uf}{s:eS}(h:s.from P)(hw:P b.way∧b.line=b.way.line+1):(jf g f b s).from P:=by
 unfold jf
 split
 ·refine⟨h.1,fun x m=> ?_⟩
  rcases si m with m|m
  ·subst m;exact hw
  ·exact h.2 x m
 ·exact h
theorem ur{P:Wy→Prop}{T:eW}{cs:List Core}{c:Core}{isEnd:Bool}{len k:Nat}{w:Wy}{s:eS}(h:s.from P)(hw:P w):(fC T cs c isEnd len k w s).from P:=by
 have hk:∀u∈(if gX (qk T cs c w).1 c.pen then s.kept else s.kept++[w]),P u:=by
  intro u m
  split at m
  ·exact h.1 u m
  ·rcases List.mem_append.mp m with m|m
   ·exact h.1 u m
   ·rw[List.mem_singleton.mp m];exact hw
 unfold fC
 dsimp only
 split
 ·exact⟨hk,h.2⟩
 ·exact yu ⟨hk,h.2⟩ ⟨hw,rfl⟩
theorem uu{P:Wy→Prop}{T:eW}{cs:List Core}{c:Core}{isEnd:Bool}{len:Nat}(l:List Wy):∀(k:Nat) (s:eS),s.from P→(∀w∈l,P w)→(fO T cs c isEnd len k l s).from P:=by
 induction l with
 |nil=>
  exact fun _ _ h _=>h
 |cons w l ih=>
  exact fun k _ h hl=>ih (k+1) _ (ur h (hl w (List.mem_cons_self ..))) fun u m=>hl u (List.mem_cons_of_mem _ m)
theorem o9{d:Int}{k:Nat}{T:eW}{cs:List Core}{c:Core}{isEnd:Bool}{l:List Wy}(h:∀w∈l,nC d k w):∀w∈gu T cs k c isEnd l,nC d (k+1) w:=by
 revert d k T cs c isEnd l
 apply aN;intro
 generalize bM .. =d,bN .. =k,bQ .. =T,bR .. =cs
 apply aP;intro
 generalize bP .. =c,bS .. =isEnd
 apply aJ;intro
 generalize nx .. =l
 intro h
 intro w m
 have fr:=uu (P:=nC d k) (T:=T) (cs:=cs) (c:=c) (isEnd:=isEnd) (len:=l.length) l 0 ⟨[],[],[]⟩ ⟨by simp,by simp⟩ h
 unfold gu pClose at m
 rcases List.mem_append.mp m with m|m
 ·exact(fr.1 w m).mono
 ·obtain⟨key,mk,mw⟩:=List.mem_flatMap.mp m
  revert mw
  refine vJ (Q:=fun l=>w∈l→_) (fun mw=>absurd mw List.not_mem_nil) fun b m0 hb hm mw=> ?_
  by_cases z:b.cQ≤m0+fW T.S.qA
  ·rw[if_pos z,List.mem_singleton] at mw
   subst mw
   obtain⟨hb1,hb2⟩:=fr.2 _ (kD hb)
   dsimp only at hb1 hb2
   refine⟨?_,?_,?_,?_⟩
   ·intro i mi
    rcases List.mem_cons.mp mi with e|e
    ·subst e;exact Nat.lt_succ_self _
    ·exact Nat.lt_succ_of_lt (hb1.path i e)
   ·exact Nat.succ_le_succ hb1.len
   ·have:=hb1.l0;dsimp only;exact hb2▸Int.le_add_one this
   ·have:=hb1.l1;dsimp only;exact ar183 hb2 this
  ·rw[if_neg z] at mw;exact absurd mw List.not_mem_nil
theorem Bs{f:Int→List Wy}(h:∀k,(f k).length≤1)(l:List Int):(l.flatMap f).length≤l.length:=by
 induction l with
 |nil=>
  exact Nat.le_refl _
 |cons x r ih=>
  have:=h x
  have:=ih
  rw[List.flatMap_cons,List.length_append,List.length_cons];exact ar179 ‹_› ‹_›
theorem yv{T:eW}{cs:List Core}{k:Nat}{c:Core}{isEnd:Bool}(l:List Wy):(gu T cs k c isEnd l).length≤2 * l.length:=by
 obtain⟨h1,h2,h3⟩:=ll (T:=T) (cs:=cs) (c:=c) (isEnd:=isEnd) (len:=l.length) l 0 ⟨[],[],[]⟩ 0 ⟨Nat.le_refl _,Nat.le_refl _,Nat.le_refl _⟩
 unfold gu pClose
 rw[List.length_append]
 have:=Bs (sg T k (fO T cs c isEnd l.length 0 l ⟨[],[],[]⟩)) (bO ((fO T cs c isEnd l.length 0 l ⟨[],[],[]⟩).best.map (·.1)))
 rw[sf,List.length_map] at this
 exact ar180 h1 h2 this
def Bd(s:Sm):Prop:=-1000000≤s.b∧s.b≤1000000∧-1000000≤s.f∧s.f≤1000000
structure kF(rows:List Row):Prop where
 len:rows.length≤6
 ord:∀(i k:Nat) (ri rk:Row),i<k→rows[i]? =some ri→rows[k]? =some rk→ri.start≤rk.place
 bd:∀r∈rows,Bd r.bg∧Bd r.en∧-10000≤r.pen∧r.pen≤10000
theorem kF.wok{rows:List Row}(h:kF rows){T:eW}(hg:Bd T.g){d:Int}{k:Nat}{row:Row}{w:Wy}(hr:rows[k]? =some row)(hd:d≤100)(hw:nC d k w):WOk rows T row w:=by
 revert rows T d k row w
 apply aJ;intro
 generalize nx .. =rows
 intro h
 apply aJ;intro
 generalize nx .. =T
 intro hg
 apply aN;intro
 generalize bM .. =d,bN .. =k,bQ .. =row,bR .. =w
 intro hr hd hw
 have hk:=(List.getElem?_eq_some_iff.mp hr).1
 have hl:=h.len
 refine⟨fun i m=> ?_,hw.l0,by have:=hw.l1;exact qB (Int.le_trans this (Int.add_le_add hd (Int.ofNat_le.mpr (Nat.le_of_lt (Nat.lt_of_lt_of_le hk hl))))) rfl,?_⟩
 ·have hi:=hw.path i m
  obtain⟨r,e⟩:∃r,rows[i]? =some r:=⟨_,List.getElem?_eq_getElem (by exact Nat.lt_trans hi hk)⟩
  exact⟨r,e,h.ord i k r row hi e hr⟩
 ·rintro b rfl
  have b0:Bd (Bi (rows.map Row.core) w):=by
   unfold Bi
   split
   ·exact⟨by decide,by decide,by decide,by decide⟩
   ·rename_i i p e
    have hi:=hw.path i (by rw[e];exact List.mem_cons_self ..)
    obtain⟨r,e⟩:∃r,rows[i]? =some r:=⟨_,List.getElem?_eq_getElem (by exact Nat.lt_trans hi hk)⟩
    rw[List.getElem?_map,e]
    exact(h.bd r (List.mem_of_getElem? e)).1
  obtain⟨_,⟨e1,e2,e3,e4⟩,_⟩:=h.bd row (List.mem_of_getElem? hr)
  obtain⟨b1,b2,b3,b4⟩:=b0
  obtain⟨g1,g2,g3,g4⟩:=hg
  unfold Sm.line
  dsimp only
  exact⟨ar190 e2 b1 g2,ar190 e4 b3 g4⟩
theorem qm{S:bp}{l:List Nd}{k:Nat}{b:Nat×Int×Int}(h:(bj S l)[k]? =some b):(b.1=l.length↔k+1=(bj S l).length):=by
 revert S l k b
 apply aN;intro
 generalize bM .. =S,bN .. =l,bQ .. =k,bR .. =b
 intro h
 have hk:=(List.getElem?_eq_some_iff.mp h).1
 unfold bj at h hk ⊢
 rw[List.length_append,List.length_singleton] at hk ⊢
 rcases Nat.lt_or_ge k (aQ S.bT S.ex true false 0 l).length with q|q
 ·rw[List.getElem?_append_left q] at h
  obtain⟨j,d,h1,h2,h3⟩:=ni (List.mem_of_getElem? h)
  have:=(List.getElem?_eq_some_iff.mp h1).1
  exact ar185 q h2 this
 ·rw[List.getElem?_append_right q] at h
  have:k - (aQ S.bT S.ex true false 0 l).length=0:=by exact Nat.sub_eq_zero_of_le (Nat.le_of_lt_succ hk)
  rw[this] at h
  cases h
  simp;exact ar6 q this
theorem uv{S:bp}{l:List Nd}{k:Nat}{r:Row}(h:(rowsOf S l)[k]? =some r):(r.place=l.length↔k+1=(rowsOf S l).length):=by
 revert S l k r
 apply aN;intro
 generalize bM .. =S,bN .. =l,bQ .. =k,bR .. =r
 intro h
 unfold rowsOf at h ⊢
 rw[List.length_map]
 rw[List.getElem?_map] at h
 cases e:(bj S l)[k]? with
 |none=>rw[e] at h;cases h
 |some b=>
  rw[e] at h
  cases h
  have:(rowOf l b).place=b.1:=jQ (Q:=fun r=>r.place=b.1) (fun _ _ _ _=>rfl) rfl
  rw[this]
  exact qm e
theorem yw(l:List Wy):∀(b:Wy),et l b=b∨et l b∈l:=by
 induction l with
 |nil=>
  exact fun _=>.inl rfl
 |cons w r ih=>
  intro b
  rw[et]
  rcases ih (if w.cQ<b.cQ then w else b) with h|h
  ·rw[h]
   split
   ·exact .inr (List.mem_cons_self ..)
   ·exact .inl rfl
  ·exact .inr (List.mem_cons_of_mem _ h)
theorem yx(loose:Int)(base:Wy)(l:List Wy):∀(p:Wy×Int),(eX loose base l p).1=p.1∨(eX loose base l p).1∈l:=by
 induction l with
 |nil=>
  intro _
  exact .inl rfl
 |cons w r ih=>
  intro p
  rw[vL]
  rcases ih (if((loose≤w.line - base.line∧w.line - base.line<p.2)∨(p.2<w.line - base.line∧w.line - base.line≤loose))∨(w.line - base.line=p.2∧w.cQ<p.1.cQ) then(w,w.line - base.line) else p) with h|h
  ·rw[h]
   split
   ·exact .inr (List.mem_cons_self ..)
   ·exact .inl rfl
  ·exact .inr (List.mem_cons_of_mem _ h)
theorem pb(w:Wy)(bI:List Wy)(loose:Int):(gT (w::bI) w loose).1∈w::bI:=by
 have hb:et (w::bI) w∈w::bI:=by
  rcases yw (w::bI) w with h|h
  ·rw[h];exact List.mem_cons_self ..
  ·exact h
 unfold gT
 split
 ·exact hb
 ·rcases yx loose (et (w::bI) w) (w::bI) (et (w::bI) w,0) with h|h
  ·rw[h];exact hb
  ·exact h
noncomputable def nD(S:bp)(dy:jh)(gl gr:Gl)(ff extra:Int)(last:Bool):eW:=⟨S,dy,fB ff 10000,cT gl gr extra,last,if S.loose=0 then dy.special else 4294967294⟩
section
variable {ns:List Int}{n:Nat}{H:aa}{R:PV→aa→Prop}{E:XK→aa→Prop}
theorem m606{st sh g:PV}{S:bp}{dy:jh}{most:Int}{last:Bool}(hS:fU H st S)(hs:iz H sh dy)(k:R (.ref H.length) (H++[.inst 606 [(51,st),(52,sh),(53,.int most),(54,g),(55,.bool last),(56,.int (if S.loose=0 then dy.special else 4294967294))]])):Wc (cA (aO ns) (aj (aO ns) (n+2)) 606 [st,sh,.int most,g,.bool last] H) R E:=by
 revert ns n H R E st sh g S dy most last
 apply aT;intro
 generalize bX .. =ns,bY .. =n,bZ .. =H,b7 .. =R,cv .. =E,cw .. =st,cx .. =sh,cy .. =g
 apply aN;intro
 generalize bM .. =S,bN .. =dy,bQ .. =most,bR .. =last
 intro hS hs k
 have pp:∀o,Pre H (H++[o]):=fun o=>Pre.app _ (.refl _)
 have k1:=eI (P:=fun x:Int=>R (.ref H.length) (H++[.inst 606 [(51,st),(52,sh),(53,.int most),(54,g),(55,.bool last),(56,.int x)]])) k
 exact make rfl (aS rfl rfl (aB (aB (aB (aB (aB (.of ((hS.loose.pre (pp _)) ns) (.of (fun z=>.of (rX (hs.pre (pp _))) (s533 (hs.pre (pp _)) (aB (k1.1 z)))) fun z=>.of (.inl (by decide)) (aB (k1.2 z))))))))))
def chR(H:aa)(rows:List Row)(R:PV→aa→Prop):Option (List Nat)→Prop
 |none=>∀H',Pre H H'→R .none H'
 |some p=>∀r H',Pre H H'→H'[r]? =some (.list (cG rows p))→R (.ref r) H'
structure ChS where
 H:aa
 bV:List Wy
 r:Nat
 vs:List PV
 y:Option PV
instance:Nonempty ChS:=⟨⟨[],[],0,[],none⟩⟩
structure ChJ(H:aa)(rows:List Row)(rr:Nat)(T:eW)(d:Int)(k:Nat)(s:ChS):Prop where
 pre:Pre H s.H
 yl:s.H[rr]? =some (.list (rows.map Row.pv))
 at_:s.H[s.r]? =some (.list s.vs)
 all:bu (dv s.H rows) s.vs s.bV
 len:s.vs.length≤2 ^ k
 inv:∀w∈s.bV,nC d k w
 ne:s.bV≠[]
 run:nA T (rows.map Row.core) k ((rows.map Row.core).drop k) s.bV=nA T (rows.map Row.core) 0 (rows.map Row.core) [⟨[],d,2,0⟩]
theorem Bt{S:bp}{st sh a6 a7 v4 a0:PV}{ff:Int}{last:Bool}{rows:List Row}{d:Int}{s:ChS}{w:Wy}{bI:List Wy}{m:Nat}{H₀:aa}{k:Nat}(hr:rows.length<1000)(hk:k≤rows.length)
  (hS:fU s.H st S) (gv:s.H[s.r]? =some (.list s.vs)) (av:bu (dv s.H rows) s.vs (w::bI)) (lv:s.vs.length<1000) (iv:∀u∈w::bI,nC d k u) (p:Pre H₀ s.H)
  (kk:chR H₀ rows R (if(gT (w::bI) w S.loose).2≠S.loose∧last=false then none else some (gT (w::bI) w S.loose).1.path.reverse)):
  wSs (aO ns) (aj (aO ns) (m+5)) (iT b734 5) [some a0,some st,some sh,some (.int ff),some v4,some (.bool last),some a6,some a7,some (.ref s.r),s.y,none,none] s.H (fP R) (fun _ _ H=>E .flying H):=by
 refine .of (hS.loose ns) (s720 gv av lv fun u hu=>.of (hS.loose ns) ?_)
 have hin:=iv _ (pb w bI S.loose)
 have go:¬((gT (w::bI) w S.loose).2≠S.loose∧last=false)→Wc (aj (aO ns) (m+5) 727 [u] s.H) (fun v H=>fP R (.ret v) [] H) (fun k H=>E .flying H):=fun z=>by
  rw[if_neg z] at kk
  exact s727 hu.ref hu.chain (fun i m=>⟨_,List.getElem?_eq_getElem (Nat.lt_of_lt_of_le (hin.path i m) hk)⟩) (Nat.lt_of_le_of_lt hin.len (by exact Nat.lt_of_le_of_lt hk hr)) (oZ fun r H' q g=>kk r H' (p.trans q) g)
 refine .of (fun z=>go fun y=>y.1 z) fun z=> ?_
 cases last with
 |true=>exact go fun y=>nomatch y.2
 |false=>rw[if_pos ⟨z,rfl⟩] at kk;exact kk _ p
theorem s734{a:Nat}{vs:List PV}{l:List Nd}{st sh:PV}{S:bp}{gl gr:Gl}{dy:jh}{ff extra:Int}{last:Bool}
  (h:nf H a vs l) (hf:∀d∈l,d.bD) (hX:oz H st S gl gr) (hs:iz H sh dy) (hd:0≤dy.done∧dy.done≤100) (ht:Nm ff) (he:Dm extra)
  (ok:kF (rowsOf S l)) (hg:Bd (cT gl gr extra)) (k:cL l=false→chR H (rowsOf S l) R (dP (nD S dy gl gr ff extra last) ((rowsOf S l).map Row.core))) (ke:cL l=true→∀H',Pre H H'→E .flying H'):
  Wc (aj (aO ns) (n+6) 734 [.ref a,st,sh,.int ff,.int extra,.bool last] H) R E:=by
 revert ns n H R E a vs l st sh S gl gr dy ff extra last
 apply aT;intro
 generalize bX .. =ns,bY .. =n,bZ .. =H,b7 .. =R,cv .. =E,cw .. =a,cx .. =vs,cy .. =l
 apply aT;intro
 generalize bX .. =st,bY .. =sh,bZ .. =S,b7 .. =gl,cv .. =gr,cw .. =dy,cx .. =ff,cy .. =extra
 apply aJ;intro
 generalize nx .. =last
 intro h hf hX hs hd ht he ok hg k ke
 obtain⟨T,hTT⟩:∃T,T=nD S dy gl gr ff extra last:=⟨_,rfl⟩
 rw[←hTT] at k
 have hrp:=fun {k r} (e:(rowsOf S l)[k]? =some r)=>uv e
 have h673:=fun {H':aa} {R':PV→aa→Prop} {E':XK→aa→Prop} (p:Pre H H') k ke=>s673 (n:=n+1) (R:=R') (E:=E') (ns:=ns) (h.pre p) hf (hX.r.pre p) k ke
 generalize rowsOf S l=rows at *
 have hlen:=h.len
 have hsm:=h.small
 have lt:vs.length<100000:=Nat.lt_trans hsm (by decide)
 have hrl:=ok.len
 refine aS rfl rfl (s617 hX (s680 hX he ?_))
 apply aJ;intro
 generalize nx .. =J1
 have p1:Pre H (H++J1):=⟨J1,rfl⟩
 generalize H++J1=H1 at *
 refine rN ht (m606 (hX.r.pre p1) (hs.pre p1) ?_)
 have yy:(H1++[aH.inst 606 [(51,st),(52,sh),(53,.int (fB ff 10000)),(54,(cT gl gr extra).pv),(55,.bool last),(56,.int (if S.loose=0 then dy.special else 4294967294))]])[H1.length]? =some (.inst 606 [(51,st),(52,sh),(53,.int (fB ff 10000)),(54,(cT gl gr extra).pv),(55,.bool last),(56,.int (if S.loose=0 then dy.special else 4294967294))]):=aX
 have q12:Pre H1 (H1++[aH.inst 606 [(51,st),(52,sh),(53,.int (fB ff 10000)),(54,(cT gl gr extra).pv),(55,.bool last),(56,.int (if S.loose=0 then dy.special else 4294967294))]]):=Pre.app _ (.refl _)
 show wSs _ _ _ [some (.ref a),some st,some sh,some (.int ff),some (.int extra),some (.bool last),some (cT gl gr extra).pv,some (.ref H1.length),none,none,none,none] (H1++[aH.inst 606 [(51,st),(52,sh),(53,.int (fB ff 10000)),(54,(cT gl gr extra).pv),(55,.bool last),(56,.int (if S.loose=0 then dy.special else 4294967294))]]) _ _
 generalize H1++[aH.inst 606 [(51,st),(52,sh),(53,.int (fB ff 10000)),(54,(cT gl gr extra).pv),(55,.bool last),(56,.int (if S.loose=0 then dy.special else 4294967294))]]=H2 at *
 have p2:=p1.trans q12
 have hT:TrR H2 (.ref H1.length) st T:=by
  rw[hTT]
  exact⟨aA yy rfl rfl,hX.r.pre p2,⟨sh,aA yy rfl rfl,hs.pre p2⟩,aA yy rfl rfl,aA yy rfl rfl,aA yy rfl rfl,aA yy rfl rfl⟩
 refine .of (((hs.pre p2).aq.2.2.2.2.2) ns) (m585 ?_)
 have Bu:(H2++[aH.inst 585 [(46,cY rows []),(47,.int dy.done),(48,.int 2),(49,.int 0),(50,.none)]]++[aH.list [.ref H2.length]])[H2.length]? =some (.inst 585 [(46,cY rows []),(47,.int dy.done),(48,.int 2),(49,.int 0),(50,.none)]):=(Pre.app _ (.refl _)).get aX
 have gra:(H2++[aH.inst 585 [(46,cY rows []),(47,.int dy.done),(48,.int 2),(49,.int 0),(50,.none)]]++[aH.list [.ref H2.length]])[(H2++[aH.inst 585 [(46,cY rows []),(47,.int dy.done),(48,.int 2),(49,.int 0),(50,.none)]]).length]? =some (.list [.ref H2.length]):=aX
 have q23:Pre H2 (H2++[aH.inst 585 [(46,cY rows []),(47,.int dy.done),(48,.int 2),(49,.int 0),(50,.none)]]++[aH.list [.ref H2.length]]):=Pre.app _ (Pre.app _ (.refl _))
 show wSs _ _ _ [some (.ref a),some st,some sh,some (.int ff),some (.int extra),some (.bool last),some (cT gl gr extra).pv,some (.ref H1.length),some (.ref (H2++[aH.inst 585 [(46,cY rows []),(47,.int dy.done),(48,.int 2),(49,.int 0),(50,.none)]]).length),none,none,none] (H2++[aH.inst 585 [(46,cY rows []),(47,.int dy.done),(48,.int 2),(49,.int 0),(50,.none)]]++[aH.list [.ref H2.length]]) _ _
 generalize (H2++[aH.inst 585 [(46,cY rows []),(47,.int dy.done),(48,.int 2),(49,.int 0),(50,.none)]]).length=ra at *
 generalize H2++[aH.inst 585 [(46,cY rows []),(47,.int dy.done),(48,.int 2),(49,.int 0),(50,.none)]]++[aH.list [.ref H2.length]]=H3 at *
 have p3:=p2.trans q23
 have hway:dv H3 rows (.ref H2.length) ⟨[],dy.done,2,0⟩:=⟨⟨_,rfl⟩,aA Bu rfl rfl,aA Bu rfl rfl,aA Bu rfl rfl,aA Bu rfl rfl,aA Bu rfl rfl⟩
 have hT3:=hT.pre q23
 have hdn:T.dy.done=dy.done:=by rw[hTT];rfl
 have hSS:T.S=S:=by rw[hTT];rfl
 have hLL:T.last=last:=by rw[hTT];rfl
 have hgT:Bd T.g:=by rw[hTT];exact hg
 clear hTT hs
 refine h673 p3 (fun hb=>oZ ?_) fun hb H4 q34=>ke hb _ (p3.trans q34)
 apply aP;intro
 generalize bP .. =rr,bS .. =H4
 intro hrr q34 hR
 have kk:=k hb
 have p4:=p3.trans q34
 have hT4:=hT3.pre q34
 have ch:∀bV,nA T (rows.map Row.core) 0 (rows.map Row.core) [⟨[],dy.done,2,0⟩]=bV→dP T (rows.map Row.core)=bV.bind (uq T):=fun _ e=>by unfold dP;rw[hdn,e]
 refine .of hR (.of (by rw[List.length_map];exact gy hrl rfl) ?_)
 refine ej (fun _ (s:ChS)=>[some (.ref a),some st,some sh,some (.int ff),some (.int extra),some (.bool last),some (cT gl gr extra).pv,some (.ref H1.length),some (.ref s.r),s.y,none,none]) (fun _ s=>s.H) (ChJ H4 rows rr T dy.done) ⟨H4,[⟨[],dy.done,2,0⟩],ra,[.ref H2.length],none⟩ (rows.map Row.pv)
  ⟨.refl _,hR,q34.get gra,⟨hway.ins q34.ins,trivial⟩,Nat.le_refl _,by simp only[List.mem_singleton,forall_eq];exact⟨by simp,Nat.le_refl _,hd.1,by dsimp only;lia⟩,by simp,by rw[List.drop_zero]⟩ (fun k s j=>j.yl) (fun k s v j hv=> ?_) fun s j=> ?_
 ·obtain⟨row,ny,rfl⟩:∃row,rows[k]? =some row∧row.pv=v:=by rw[List.getElem?_map] at hv;exact Option.map_eq_some_iff.mp hv
  have hk:=(List.getElem?_eq_some_iff.mp ny).1
  have hT5:=hT4.pre j.pre
  have hl2:2 ^ k≤2 ^ 5:=Nat.pow_le_pow_right (by decide) (by exact Nat.le_of_lt_succ (Nat.lt_of_lt_of_le hk hrl))
  have hmem:=List.mem_of_getElem? ny
  have lv:=j.len
  have yt:decide ((row.place:Int)=(vs.length:Int))=((rows.map Row.core).drop (k+1)).isEmpty:=by
   have h1:=hrp ny
   rw[Bool.eq_iff_iff,decide_eq_true_iff,List.isEmpty_iff,List.drop_eq_nil_iff,List.length_map]
   exact ar195 hlen hk h1
  refine .of ((p4.trans j.pre).get h.at_) (.of lt (s713 hT5 j.at_ (by exact gy (Nat.le_trans lv hl2) rfl) j.all ny (fun w m=>ok.wok hgT ny hd.2 (j.inv w m)) (ok.bd row hmem).2.2 (oZ fun p H5 q5 gv' av'=> ?_)))
  obtain⟨r',vs'⟩:=p
  dsimp only at gv' av' ⊢
  rw[yt] at av'
  have hcore:(rows.map Row.core)[k]? =some row.core:=by rw[List.getElem?_map,ny];rfl
  have qo:=j.run
  rw[drop_cons hcore,uo] at qo
  have lw:=yv (T:=T) (cs:=rows.map Row.core) (k:=k) (c:=row.core) (isEnd:=((rows.map Row.core).drop (k+1)).isEmpty) s.bV
  have iw:=o9 (T:=T) (cs:=rows.map Row.core) (c:=row.core) (isEnd:=((rows.map Row.core).drop (k+1)).isEmpty) j.inv
  generalize gu T (rows.map Row.core) k row.core ((rows.map Row.core).drop (k+1)).isEmpty s.bV=new at qo av' lw iw
  have e1:=av'.length
  have e2:=j.all.length
  have ee:=av'.isEmpty
  have pn:Pre H5 (H5++[aH.list []]):=Pre.app _ (.refl _)
  refine vH (pn.get gv') aX (fun z=> ?_) fun z=> ?_
  ·rw[←ee,z,if_pos rfl] at qo
   rw[ch _ qo.symm] at kk
   exact kk _ ((p4.trans (j.pre.trans q5)).app _)
  ·rw[←ee,z,if_neg (by decide)] at qo
   refine⟨⟨_,new,r',vs',some row.pv⟩,rfl,rfl,(j.pre.trans q5).app _,pn.get (q5.get j.yl),pn.get gv',av'.mono fun _ _ x=>x.ins pn.ins,?_,iw,?_,qo⟩
   ·dsimp only;rw[Nat.pow_succ];exact ar197 lv lw e1 e2
   ·intro e;dsimp only at e;rw[e] at ee;rw[ee] at z;cases z
 ·have qo:=j.run
  rw[List.drop_eq_nil_of_le (by rw[List.length_map,List.length_map];exact Nat.le_refl _),pRun_n] at qo
  have lv:=j.len
  rw[List.length_map] at lv
  have hl2:2 ^ rows.length≤2 ^ 6:=Nat.pow_le_pow_right (by decide) hrl
  rw[ch _ qo.symm] at kk
  have iv:=j.inv
  have av:=j.all
  obtain⟨w,bI,e⟩:=List.exists_cons_of_ne_nil j.ne
  rw[e] at kk iv av
  rw[Option.bind_some,uq,hSS,hLL] at kk
  rw[List.length_map] at iv
  exact Bt (m:=n) (by exact gy hrl rfl) (Nat.le_refl _) (hX.r.pre (p4.trans j.pre)) j.at_ av (by exact gy (Nat.le_trans lv hl2) rfl) iv (p4.trans j.pre) kk
end
def Hd(r:List Nd):Prop:=cE r=false∧total (r.take (skip r))=.zero
structure Bk where
 (k:Nat) (pen sort:Int) (pre:Sm) (ps qs:Int) (sk:Bool)
instance:Nonempty Bk:=⟨⟨0,0,0,.zero,0,0,false⟩⟩
structure dG(S:bp)(m:Bool)(u:List Nd)(o:Option Bk):Prop where
 scan:∀i r,Hd r→∃cN,aQ S.bT S.ex m true i (u++r)=(o.toList.map fun b=>(i+b.k,b.pen,b.sort))++aQ S.bT S.ex true cN (i+u.length) r
 row:∀b,o=some b→b.k<u.length∧∀P r,Hd r→rowOf (P++(u++r)) (P.length+b.k,b.pen,b.sort)=⟨P.length+b.k,b.pen,b.sort,P.length+(u.length+(if b.sk then skip r else 0)),((total P).add (total u)).widen (-b.qs),((total P).add b.pre).widen b.ps⟩
noncomputable def ar(tl:Bool):List Nd:=if tl then [.math false 0] else []
theorem Bv{u:List Nd}:∀(r:List Nd),(∀d∈u,d.dropped=true)→skip (u++r)=u.length+skip r:=by
 induction u with
 |nil=>
  intro r _;simp
 |cons d u ih=>
  intro r h
  rw[List.cons_append,t5,if_pos (h d (List.mem_cons_self ..)),ih r fun x m=>h x (List.mem_cons_of_mem _ m),List.length_cons];exact Nat.add_right_comm _ _ _
theorem fk{α:Type}(P l:List α)(n:Nat):(P++l).take (P.length+n)=P++l.take n:=by
 rw[List.take_append]
 simp[List.take_of_length_le]
theorem qp{α:Type}(P l:List α)(n:Nat):(P++l)[P.length+n]? =l[n]? :=by
 rw[List.getElem?_append_right (by exact Nat.le_add_right _ _)];congr 1;exact Nat.add_sub_cancel_left _ _
theorem pd{α:Type}(P l:List α)(n:Nat):(P++l).drop (P.length+n)=l.drop n:=by
 rw[List.drop_append]
 simp
theorem Sm.gM(s:Sm):s.widen 0=s:=by simp[Sm.widen]
theorem iH{u:List Nd}{k:Nat}{pen sort:Int}{d:Nd}(hk:u[k]? =some d)(hn:d.kind≠8)(h:∀d∈u.drop k,d.dropped=true)(P r:List Nd)(hr:Hd r):
  rowOf (P++(u++r)) (P.length+k,pen,sort)=⟨P.length+k,pen,sort,P.length+(u.length+(if true then skip r else 0)),((total P).add (total u)).widen (-0),((total P).add (total (u.take k))).widen 0⟩:=by
 revert u k pen sort d P r
 apply aN;intro
 generalize bM .. =u,bN .. =k,bQ .. =pen,bR .. =sort
 apply aJ;intro
 generalize nx .. =d
 intro hk hn h
 apply aP;intro
 generalize bP .. =P,bS .. =r
 intro hr
 have kl:=(List.getElem?_eq_some_iff.mp hk).1
 have g:(P++(u++r))[P.length+k]? =some d:=by rw[qp,List.getElem?_append_left kl];exact hk
 have hd:(u++r).drop k=u.drop k++r:=List.drop_append_of_le_length (by exact Nat.le_of_lt kl)
 have hs:aU (P++(u++r)) (P.length+k)=P.length+(u.length+skip r):=by
  have:aU (P++(u++r)) (P.length+k)=P.length+k+skip ((P++(u++r)).drop (P.length+k)):=by
   unfold aU
   rw[g]
   cases d<;>first|rfl|exact absurd rfl hn
  rw[this,pd,hd,Bv r h,List.length_drop];exact ar206 kl
 have dM:rowOf (P++(u++r)) (P.length+k,pen,sort)=⟨P.length+k,pen,sort,aU (P++(u++r)) (P.length+k),total ((P++(u++r)).take (aU (P++(u++r)) (P.length+k))),total ((P++(u++r)).take (P.length+k))⟩:=by
  unfold rowOf
  dsimp only
  rw[g]
  cases d<;>first|rfl|exact absurd rfl hn
 rw[if_pos rfl,dM,hs,fk,fk,fk,List.take_append_of_le_length (by exact Nat.le_of_lt kl),aZ,aZ,aZ,hr.2,Sm.add_zero,Int.neg_zero,Sm.gM,Sm.gM]
theorem Bw{t:List Nd}{p q m:List Int}{pen sort:Int}(P r:List Nd)(hr:Hd r):
  rowOf (P++(t++[Nd.bL p q m]++r)) (P.length+t.length,pen,sort)=⟨P.length+t.length,pen,sort,P.length+((t++[Nd.bL p q m]).length+(if q.isEmpty then skip r else 0)),((total P).add (total (t++[Nd.bL p q m]))).widen (-q.sum),((total P).add (total t)).widen p.sum⟩:=by
 revert t p q m pen sort P r
 apply aT;intro
 generalize bX .. =t,bY .. =p,bZ .. =q,b7 .. =m,cv .. =pen,cw .. =sort,cx .. =P,cy .. =r
 intro hr
 have g:(P++(t++[Nd.bL p q m]++r))[P.length+t.length]? =some (.bL p q m):=by rw[qp,List.append_assoc,List.getElem?_append_right (by exact Nat.le_refl _),Nat.sub_self];rfl
 have e1:P.length+t.length+1=P.length+((t++[Nd.bL p q m]).length):=by simp;exact Nat.add_assoc _ _ _
 have hs:aU (P++(t++[Nd.bL p q m]++r)) (P.length+t.length)=P.length+((t++[Nd.bL p q m]).length+(if q.isEmpty then skip r else 0)):=by
  unfold aU
  rw[g]
  dsimp only
  cases q with
  |nil=>
   rw[if_pos rfl,e1,pd]
   have:(t++[Nd.bL p [] m]++r).drop (t++[Nd.bL p [] m]).length=r:=by rw[List.drop_append_of_le_length (Nat.le_refl _),List.drop_length];rfl
   rw[this,Nat.add_assoc];rfl
  |cons _ _=>rw[if_neg (by simp),if_neg (by simp)];exact e1
 have hz:total (r.take (if q.isEmpty then skip r else 0))=.zero:=by
  split
  ·exact hr.2
  ·rw[List.take_zero];rfl
 unfold rowOf
 dsimp only
 rw[g]
 dsimp only
 have ht:(t++[Nd.bL p q m]++r).take t.length=t:=by rw[List.append_assoc,List.take_append_of_le_length (Nat.le_refl _),List.take_length]
 rw[hs,fk,fk,fk,ht]
 simp only[aZ,hz,Sm.add_zero]
theorem aY{hp xp:Int}{may cN:Bool}{i:Nat}{d:Nd}{r:List Nd}(h:10000≤dh hp xp may cN d r):aQ hp xp may cN i (d::r)=aQ hp xp (fN may d) (!d.dropped) (i+1) r:=by
 rw[gq,kB,if_neg (by exact Int.not_lt_of_ge h),List.nil_append]
theorem dZ{hp xp p:Int}{may cN:Bool}{i:Nat}{d:Nd}{r:List Nd}(h:dh hp xp may cN d r=p)(h':p<10000):aQ hp xp may cN i (d::r)=(i,er p,fV d)::aQ hp xp (fN may d) (!d.dropped) (i+1) r:=by
 rw[gq,kB,h,if_pos h'];rfl
inductive Qt:List Nd→Prop
 |nil:Qt []
 |glue (g:Gl) (z:List Nd):Qt z→Qt (.glue g::z)
 |pen (p:Int) (z:List Nd):10000≤p→Qt z→Qt (.pen p::z)
 |bF (w:Int):Qt [.bF w 1]
theorem Qt.dropped{z:List Nd}(h:Qt z):∀d∈z,d.dropped=true:=by
 induction h with
 |nil=>simp
 |glue g z _ ih=>intro d m;rcases List.mem_cons.mp m with e|e;(subst e;rfl);exact ih d e
 |pen p z _ _ ih=>intro d m;rcases List.mem_cons.mp m with e|e;(subst e;rfl);exact ih d e
 |bF w=>intro d m;rw[List.mem_singleton.mp m];rfl
theorem Qt.scan{S:bp}{m:Bool}{z:List Nd}(h:Qt z):∀(cN:Bool) (i:Nat) (r:List Nd),cE r=false→(m && cN)=false→∃uw,aQ S.bT S.ex m cN i (z++r)=aQ S.bT S.ex m uw (i+z.length) r:=by
 induction h with
 |nil=>intro cN i r _ _;exact⟨cN,rfl⟩
 |glue g z _ ih=>
  intro cN i r hr hb
  obtain⟨b,e⟩:=ih false (i+1) r hr (Bool.and_false _)
  refine⟨b,?_⟩
  rw[List.cons_append,aY (by delta dh;simp[hb]),List.length_cons,Nat.add_comm z.length 1,←Nat.add_assoc]
  exact e
 |pen p z hp _ ih=>
  intro cN i r hr hb
  obtain⟨b,e⟩:=ih false (i+1) r hr (Bool.and_false _)
  refine⟨b,?_⟩
  rw[List.cons_append,aY (d:=.pen p) (by delta dh;simpa using hp),List.length_cons,Nat.add_comm z.length 1,←Nat.add_assoc]
  exact e
 |bF w=>
  intro cN i r hr hb
  refine⟨false,?_⟩
  rw[List.cons_append,aY (by delta dh;simp[hr])]
  rfl
theorem eJ(tl:Bool):total (ar tl)=.zero:=by cases tl<;>rfl
theorem tail_dropped(tl:Bool):∀d∈ar tl,d.dropped=true:=by cases tl<;>simp[ar]<;>rfl
theorem iI{S:bp}{tl:Bool}{i:Nat}{u:List Nd}(h:cE u=false):∃cN,(tl=false→cN=true)∧aQ S.bT S.ex (!tl) true i (ar tl++u)=aQ S.bT S.ex true cN (i+(ar tl).length) u:=by
 cases tl with
 |false=>exact⟨true,fun _=>rfl,rfl⟩
 |true=>refine⟨false,(fun x=>nomatch x),?_⟩;exact aY (by delta dh;simp[h])
theorem clamp0:er 0=0:=rfl
section
variable {S:bp}{tl:Bool}{z:List Nd}{g:Gl}{p q m:List Int}{w v:Int}
theorem Bx(hz:Qt z):dG S (!tl) (ar tl++.glue g::z) (some ⟨0,0,0,.zero,0,0,true⟩):=by
 constructor
 ·intro i r hr
  cases tl with
  |false=>
   obtain⟨b,e⟩:=hz.scan (S:=S) (m:=true) false (i+1) r hr.1 rfl
   refine⟨b,?_⟩
   show aQ S.bT S.ex true true i (.glue g::(z++r))=(i,0,0)::aQ S.bT S.ex true b (i+(z.length+1)) r
   rw[dZ (p:=0) rfl (by decide),show i+(z.length+1)=i+1+z.length by exact(Nat.add_right_comm _ 1 _).symm,←e];rfl
  |true=>
   obtain⟨b,e⟩:=(Qt.glue g z hz).scan (S:=S) (m:=true) false (i+1) r hr.1 rfl
   refine⟨b,?_⟩
   show aQ S.bT S.ex false true i (.math false 0:: .glue g::(z++r))=(i,0,0)::aQ S.bT S.ex true b (i+(z.length+1+1)) r
   rw[dZ (p:=0) rfl (by decide),show i+(z.length+1+1)=i+1+(Nd.glue g::z).length by rw[List.length_cons];lia]
   exact congrArg _ e
 ·rintro b e
  cases e
  refine⟨by simp<;>exact Nat.succ_pos _,fun P r hr=> ?_⟩
  cases tl with
  |false=>exact iH (u:=ar false++.glue g::z) (k:=0) rfl (kn rfl) (Qt.glue g z hz).dropped P r hr
  |true=>exact iH (u:=ar true++.glue g::z) (k:=0) rfl (kn rfl) (by intro d m;rcases List.mem_cons.mp m with e|e;(subst e;rfl);exact(Qt.glue g z hz).dropped d e) P r hr
theorem u_at{d:Nd}{pen:Int}(hn:d.kind≠8)(hd:d.dropped=true)(hg:cE (d::z)=false)(hq:∀x∈z,x.dropped=true)(hs:fV d=0)
  (sc:∀cN i r,Hd r→∃uw,aQ S.bT S.ex true cN i (d::(z++r))=(i,pen,0)::aQ S.bT S.ex true uw (i+1+z.length) r):
  dG S (!tl) (ar tl++d::z) (some ⟨(ar tl).length,pen,0,.zero,0,0,true⟩):=by
 constructor
 ·intro i r hr
  obtain⟨b0,_,e0⟩:=iI (S:=S) (tl:=tl) (i:=i) (u:=d::(z++r)) (by cases d<;>first|rfl|exact hg)
  obtain⟨b,e⟩:=sc b0 (i+(ar tl).length) r hr
  refine⟨b,?_⟩
  rw[List.append_assoc,List.cons_append,e0,e,show i+(ar tl++d::z).length=i+(ar tl).length+1+z.length by simp;lia]
  rfl
 ·rintro b e
  cases e
  refine⟨by simp,fun P r hr=> ?_⟩
  have:=iH (u:=ar tl++d::z) (k:=(ar tl).length) (pen:=pen) (sort:=0) (d:=d) (by rw[List.getElem?_append_right (Nat.le_refl _),Nat.sub_self];rfl) hn (by
   rw[List.drop_append_of_le_length (Nat.le_refl _),List.drop_length,List.nil_append]
   intro x m
   rcases List.mem_cons.mp m with e|e
   ·subst e;exact hd
   ·exact hq x e) P r hr
  rw[List.take_append_of_le_length (Nat.le_refl _),List.take_length,eJ] at this
  exact this
theorem ux(hz:Qt z):dG S (!tl) (ar tl++.bF w 1:: .glue g::z) (some ⟨(ar tl).length,0,0,.zero,0,0,true⟩):=by
 refine u_at (kn rfl) rfl rfl (Qt.glue g z hz).dropped rfl ?_
 intro cN i r hr
 obtain⟨b,e⟩:=(Qt.glue g z hz).scan (S:=S) (m:=true) false (i+1) r hr.1 rfl
 refine⟨b,?_⟩
 rw[dZ (p:=0) rfl (by decide)]
 exact congrArg _ e
theorem vM(hz:Qt z)(hp:w<10000):dG S (!tl) (ar tl++.pen w::z) (some ⟨(ar tl).length,er w,0,.zero,0,0,true⟩):=by
 refine u_at (kn rfl) rfl rfl hz.dropped rfl ?_
 intro cN i r hr
 obtain⟨b,e⟩:=hz.scan (S:=S) (m:=true) false (i+1) r hr.1 rfl
 refine⟨b,?_⟩
 rw[dZ (p:=w) rfl hp]
 exact congrArg _ e
theorem nF{u:List Nd}(hg:∀r,Hd r→cE (u++r)=false)(sc:∀cN i r,Hd r→∃uw,aQ S.bT S.ex true cN i (u++r)=aQ S.bT S.ex true uw (i+u.length) r):dG S (!tl) (ar tl++u) none:=by
 constructor
 ·intro i r hr
  obtain⟨b0,_,e0⟩:=iI (S:=S) (tl:=tl) (i:=i) (u:=u++r) (hg r hr)
  obtain⟨b,e⟩:=sc b0 (i+(ar tl).length) r hr
  refine⟨b,?_⟩
  rw[List.append_assoc,e0,e,List.length_append,←Nat.add_assoc]
  rfl
 ·rintro b e;cases e
theorem gw(hz:Qt z)(hp:10000≤w):dG S (!tl) (ar tl++.pen w::z) none:=by
 refine nF (fun r _=>rfl) ?_
 intro cN i r hr
 obtain⟨b,e⟩:=(Qt.pen w z hp hz).scan (S:=S) (m:=true) false i r hr.1 rfl
 refine⟨b,?_⟩
 rw[←e,List.cons_append,aY (d:=.pen w) (by delta dh;simpa using hp),aY (d:=.pen w) (by delta dh;simpa using hp)]
noncomputable def costOf(S:bp)(p:List Int):Int:=if p=[] then S.ex else S.bT
theorem By(hp:costOf S p<10000):dG S (!tl) (ar tl++[.bL p q m]) (some ⟨(ar tl).length,er (costOf S p),1,.zero,p.sum,q.sum,q.isEmpty⟩):=by
 revert S tl p q m
 apply aN;intro
 generalize bM .. =S,bN .. =tl,bQ .. =p,bR .. =q
 apply aJ;intro
 generalize nx .. =m
 intro hp
 constructor
 ·intro i r hr
  obtain⟨b0,_,e0⟩:=iI (S:=S) (tl:=tl) (i:=i) (u:=.bL p q m::r) rfl
  refine⟨true,?_⟩
  rw[List.append_assoc,List.cons_append,List.nil_append,e0,dZ (p:=costOf S p) rfl hp,List.length_append]
  rfl
 ·rintro b e
  cases e
  refine⟨by simp,fun P r hr=> ?_⟩
  have:=Bw (t:=ar tl) (p:=p) (q:=q) (m:=m) (pen:=er (costOf S p)) (sort:=1) P r hr
  rw[eJ] at this
  exact this
theorem yz(hp:10000≤costOf S p):dG S (!tl) (ar tl++[.bL p q m]) none:=by
 refine nF (fun r _=>rfl) ?_
 intro cN i r hr
 exact⟨true,aY hp⟩
theorem nG{f:List Nd}{d:Nd}(hn:d.kind≠8)(hd:d.dropped=true)(hq:∀x∈z,x.dropped=true)(hg:∀r,cE (f++r)=false)
  (s1:∀cN i r,Hd r→∃uw,aQ S.bT S.ex true cN i (f++d::(z++r))=(i+f.length,0,0)::aQ S.bT S.ex true uw (i+f.length+1+z.length) r):
  dG S (!tl) (ar tl++(f++d::z)) (some ⟨(ar tl).length+f.length,0,0,total f,0,0,true⟩):=by
 revert S tl z f d
 apply aN;intro
 generalize bM .. =S,bN .. =tl,bQ .. =z,bR .. =f
 apply aJ;intro
 generalize nx .. =d
 intro hn hd hq hg s1
 constructor
 ·intro i r hr
  obtain⟨b0,_,e0⟩:=iI (S:=S) (tl:=tl) (i:=i) (u:=f++d::(z++r)) (hg _)
  obtain⟨b,e⟩:=s1 b0 (i+(ar tl).length) r hr
  refine⟨b,?_⟩
  have l:i+(ar tl++(f++d::z)).length=i+(ar tl).length+f.length+1+z.length:=by simp;lia
  rw[List.append_assoc,List.append_assoc,List.cons_append,e0,e,l,Nat.add_assoc]
  rfl
 ·rintro b e
  cases e
  refine⟨by simp<;>lia,fun P r hr=> ?_⟩
  have hl:(ar tl).length+f.length=(ar tl++f).length:=by simp
  have:=iH (u:=ar tl++(f++d::z)) (k:=(ar tl).length+f.length) (pen:=0) (sort:=0) (d:=d) (by rw[←List.append_assoc,hl,List.getElem?_append_right (Nat.le_refl _),Nat.sub_self];rfl) hn (by
   rw[←List.append_assoc,hl,List.drop_append_of_le_length (Nat.le_refl _),List.drop_length,List.nil_append]
   intro x m
   rcases List.mem_cons.mp m with e|e
   ·subst e;exact hd
   ·exact hq x e) P r hr
  have ht:(ar tl++(f++d::z)).take ((ar tl).length+f.length)=ar tl++f:=by rw[←List.append_assoc,hl,List.take_append_of_le_length (Nat.le_refl _),List.take_length]
  rw[ht,show total (ar tl++f)=total f by rw[aZ,eJ,Sm.zero_add]] at this
  exact this
theorem vN(hz:Qt z)(hv:v≠1):dG S (!tl) (ar tl++.bF w v:: .glue g::z) (some ⟨(ar tl).length+1,0,0,total [.bF w v],0,0,true⟩):=by
 refine nG (f:=[.bF w v]) (d:=.glue g) (kn rfl) rfl hz.dropped (fun r=>rfl) ?_
 intro cN i r hr
 obtain⟨b,e⟩:=hz.scan (S:=S) (m:=true) false (i+1+1) r hr.1 rfl
 refine⟨b,?_⟩
 have hb:(!(Nd.bF w v).dropped)=true:=by delta Nd.dropped;simp[hv]
 rw[List.cons_append,List.nil_append,aY (by delta dh;simp[hv]),hb,dZ (p:=0) rfl (by decide)]
 exact congrArg _ e
theorem u_fkern{x:Int}(hz:Qt z)(hv:v≠1):dG S (!tl) (ar tl++.bF w v:: .bF x 1:: .glue g::z) (some ⟨(ar tl).length+1,0,0,total [.bF w v],0,0,true⟩):=by
 refine nG (f:=[.bF w v]) (d:=.bF x 1) (kn rfl) rfl (Qt.glue g z hz).dropped (fun r=>rfl) ?_
 intro cN i r hr
 obtain⟨b,e⟩:=(Qt.glue g z hz).scan (S:=S) (m:=true) false (i+1+1) r hr.1 rfl
 refine⟨b,?_⟩
 rw[List.cons_append,List.nil_append,aY (by delta dh;simp[hv]),dZ (p:=0) rfl (by decide)]
 exact congrArg _ e
structure fY(S:bp)(w:Int)(c:List Nd):Prop where
 scan:∀may cN i r,aQ S.bT S.ex may cN i (c++r)=aQ S.bT S.ex may true (i+c.length) r
 skp:∀r,skip (c++r)=0
 ng:∀r,cE (c++r)=false
 iV:total c=⟨w,0,0,0,0,0⟩
 bad:cL c=false
 bD:∀d∈c,d.bD
theorem Bz{c y:List Nd}{h:Gl}{x a b:Int}(hc:fY S x c)(hz:Qt z)(hy:Qt y):
  dG S (!tl) (ar tl++((.math true a::c++.glue g::z)++.math false b:: .glue h::y)) (some ⟨(ar tl).length+(.math true a::c++.glue g::z:List Nd).length,0,0,total (.math true a::c++.glue g::z),0,0,true⟩):=by
 refine nG (d:=.math false b) (kn rfl) rfl (Qt.glue h y hy).dropped (fun r=>rfl) ?_
 intro cN i r hr
 obtain⟨b1,e1⟩:=(Qt.glue g z hz).scan (S:=S) (m:=false) true (i+1+c.length) (.math false b::(.glue h::y++r)) rfl rfl
 obtain⟨b2,e2⟩:=(Qt.glue h y hy).scan (S:=S) (m:=true) false (i+(.math true a::c++.glue g::z:List Nd).length+1) r hr.1 rfl
 refine⟨b2,?_⟩
 have l:i+1+c.length+(Nd.glue g::z).length=i+(.math true a::c++.glue g::z:List Nd).length:=by simp;lia
 rw[List.append_assoc,List.cons_append,aY (d:=.math true a) (by delta dh;simp),hc.scan]
 show aQ S.bT S.ex false true (i+1+c.length) _=_
 rw[e1,l,dZ (p:=0) (by delta dh cE Nd.isGl;simp) (by decide)]
 exact congrArg _ e2
end
section
variable {S:bp}{w:Int}
theorem all1{P:Nd→Prop}{d:Nd}(h:P d):∀x∈[d],P x:=fun x m=>by rw[List.mem_singleton.mp m];exact h
theorem eu{P:Nd→Prop}{d:Nd}{l:List Nd}(h:P d)(h':∀x∈l,P x):∀x∈d::l,P x:=fun x m=>by
 rcases List.mem_cons.mp m with e|e
 ·rw[e];exact h
 ·exact h' x e
theorem nH(k:Int):fY S w [.box k w]:=⟨fun _ _ _ _=>aY (Int.le_refl _),fun _=>rfl,fun _=>rfl,congrArg (fun x=>Sm.mk x 0 0 0 0 0) (Int.add_zero w),rfl,all1 trivial⟩
theorem q_rule:fY S w [.rule w]:=⟨fun _ _ _ _=>aY (Int.le_refl _),fun _=>rfl,fun _=>rfl,congrArg (fun x=>Sm.mk x 0 0 0 0 0) (Int.add_zero w),rfl,all1 trivial⟩
theorem ad1{a b:Int}:a+(b - a+0)=b:=by rw[Int.add_zero,uP]
theorem ad2{a b:Int}:a+(0+(b - a+0))=b:=by rw[Int.zero_add,ad1]
theorem ad3{a b c:Int}:a+(c+(b - a - c+0))=b:=by rw[Int.add_zero,ar214]
theorem q_two(k c:Int):fY S w [.box k c,.box k (w - c)]:=⟨fun _ _ _ _=>(aY (Int.le_refl _)).trans (aY (Int.le_refl _)),fun _=>rfl,fun _=>rfl,congrArg (fun x=>Sm.mk x 0 0 0 0 0) ad1,rfl,eu trivial (all1 trivial)⟩
theorem BA(k c a s:Int):fY S w [.box k c,.bF a s,.box k (w - c - a)]:=⟨fun _ _ _ _=>(aY (Int.le_refl _)).trans ((aY (Int.le_of_eq (if_neg fun h=>nomatch h.2.2).symm)).trans (aY (Int.le_refl _))),fun _=>rfl,fun _=>rfl,congrArg (fun x=>Sm.mk x 0 0 0 0 0) ad3,rfl,eu trivial (eu trivial (all1 trivial))⟩
theorem q_pen(k c p:Int)(hp:10000≤p):fY S w [.box k c,.pen p,.box k (w - c)]:=⟨fun _ _ _ _=>(aY (Int.le_refl _)).trans ((aY (d:=.pen p) hp).trans (aY (Int.le_refl _))),fun _=>rfl,fun _=>rfl,congrArg (fun x=>Sm.mk x 0 0 0 0 0) ad2,rfl,eu trivial (eu trivial (all1 trivial))⟩
theorem q_oth1(k t:Int):fY S w [.iU t,.box k w]:=⟨fun _ _ _ _=>(aY (Int.le_refl _)).trans (aY (Int.le_refl _)),fun _=>rfl,fun _=>rfl,congrArg (fun x=>Sm.mk x 0 0 0 0 0) ((Int.zero_add _).trans (Int.add_zero w)),rfl,eu trivial (all1 trivial)⟩
theorem q_oth2(k t:Int):fY S w [.box k w,.iU t]:=⟨fun _ _ _ _=>(aY (Int.le_refl _)).trans (aY (Int.le_refl _)),fun _=>rfl,fun _=>rfl,congrArg (fun x=>Sm.mk x 0 0 0 0 0) (Int.add_zero w),rfl,eu trivial (all1 trivial)⟩
theorem q_disc(k c:Int)(p q:List Int)(hp:10000≤costOf S p):fY S w [.box k c,.bL p q [],.box k (w - c)]:=⟨fun _ _ _ _=>(aY (Int.le_refl _)).trans ((aY (d:=.bL p q []) hp).trans (aY (Int.le_refl _))),fun _=>rfl,fun _=>rfl,congrArg (fun x=>Sm.mk x 0 0 0 0 0) ad2,rfl,eu trivial (eu trivial (all1 trivial))⟩
noncomputable def bA(ld:Bool):List Nd:=if ld then [.math true 0] else []
theorem pe{ld:Bool}{c:List Nd}(h:fY S w c)(cN:Bool)(i:Nat)(r:List Nd):aQ S.bT S.ex true cN i (bA ld++(c++r))=aQ S.bT S.ex (!ld) true (i+(bA ld++c).length) r:=by
 cases ld with
 |false=>exact h.scan true cN i r
 |true=>
  rw[List.length_append,←Nat.add_assoc,←h.scan]
  exact aY (Int.le_refl _)
theorem pg{ld:Bool}{c:List Nd}(h:fY S w c)(r:List Nd):skip (bA ld++(c++r))=(bA ld).length:=by
 cases ld with
 |false=>exact h.skp r
 |true=>show skip (c++r)+1=1;rw[h.skp]
theorem qr{ld:Bool}{c:List Nd}(h:fY S w c)(r:List Nd):Hd (bA ld++(c++r)):=by
 refine⟨?_,?_⟩
 ·cases ld with
  |false=>exact h.ng r
  |true=>rfl
 ·rw[pg h,List.take_append_of_le_length (Nat.le_refl _),List.take_length]
  cases ld<;>rfl
end
def yA(d:Nd):Prop:=-10≤d.sm.b∧d.sm.b≤10∧-10≤d.sm.f∧d.sm.f≤10
def Bm(mv:List Int)(t:Nat):Option Bk→Option Bk→Prop
 |none,none=>True
 |some a,some b=>a.pen=b.pen∧a.sort=b.sort∧a.pre=b.pre∧a.ps=b.ps∧a.qs=b.qs∧mv[a.k]? =some ((b.k:Int) - t)
 |_,_=>False
structure nI(S:bp)(tl:Bool)(gA gB:List Nd)(mv:List Int):Prop where
 len:mv.length=gA.length
 iV:total gA=total gB
 bad:cL gA=cL gB
 bD:(∀d∈gA,d.bD)∧∀d∈gB,d.bD
 ph:∀d∈gA,yA d
 brk:∃oA oB,dG S true gA oA∧dG S (!tl) (ar tl++gB) oB∧Bm mv (ar tl).length oA oB
noncomputable def brA(R:List (Row×Row)):List (Nat×Int×Int):=R.map fun p=>(p.1.place,p.1.pen,p.1.sort)
noncomputable def brB(R:List (Row×Row)):List (Nat×Int×Int):=R.map fun p=>(p.2.place,p.2.pen,p.2.sort)
structure PrR(A B:List Nd)(mv:List Int)(p:Row×Row):Prop where
 ra:∀r,rowOf (A++r) (p.1.place,p.1.pen,p.1.sort)=p.1
 rb:∀r,rowOf (B++r) (p.2.place,p.2.pen,p.2.sort)=p.2
 core:p.1.core=p.2.core
 mvd:mv[p.1.place]? =some (p.2.place:Int)
 st:p.1.start≤A.length∧p.2.start≤B.length
 lt:p.1.place<A.length
structure Pf(S:bp)(tl:Bool)(A B:List Nd)(mv:List Int)(R:List (Row×Row)):Prop where
 la:∀r,aQ S.bT S.ex true false 0 (A++r)=brA R++aQ S.bT S.ex true true A.length r
 lb:∀r,aQ S.bT S.ex true false 0 (B++r)=brB R++aQ S.bT S.ex (!tl) true B.length r
 pr:∀p∈R,PrR A B mv p
 ord:∀(i k:Nat) (p q:Row×Row),i<k→R[i]? =some p→R[k]? =some q→p.1.start≤q.1.place∧p.2.start≤q.2.place
 iV:total A=total B
 bad:cL A=cL B
 len:mv.length=A.length
 ph:∀d∈A,yA d
 bD:(∀d∈A,d.bD)∧∀d∈B,d.bD
theorem d5(l m:List Nd):cL (l++m)=(cL l || cL m):=by unfold cL;rw[List.any_append]
theorem PrR.ext{A B:List Nd}{mv:List Int}{p:Row×Row}(h:PrR A B mv p)(a b:List Nd)(m:List Int):PrR (A++a) (B++b) (mv++m) p:=by
 refine⟨fun r=>by rw[List.append_assoc];exact h.ra _,fun r=>by rw[List.append_assoc];exact h.rb _,h.core,?_,?_,?_⟩
 ·rw[List.getElem?_append_left (List.getElem?_eq_some_iff.mp h.mvd).1];exact h.mvd
 ·have:=h.st;rw[List.length_append,List.length_append];exact⟨Nat.le_add_right_of_le this.1,Nat.le_add_right_of_le this.2⟩
 ·have:=h.lt;rw[List.length_append];exact Nat.lt_add_right _ this
theorem jR{tl:Bool}:cL (bA tl)=false∧cL (ar tl)=false:=by cases tl<;>exact⟨rfl,rfl⟩
theorem iJ{tl:Bool}:(∀d∈bA tl,d.bD)∧∀d∈ar tl,d.bD:=by cases tl<;>simp[bA,ar,Nd.bD]
theorem nJ(tl:Bool):total (bA tl)=.zero:=by cases tl<;>rfl
theorem Pf.start{S:bp}{w x:Int}{c:List Nd}(ld:Bool)(hc:fY S w c):Pf S ld [.box 2 w] (bA ld++c) [x] []:=by
 refine⟨fun r=>(nH 2).scan true false 0 r |>.trans (by simp[brA]),fun r=> ?_,by simp,by simp,?_,?_,rfl,?_,?_,?_⟩
 ·rw[List.append_assoc,pe hc,Nat.zero_add];rfl
 ·rw[aZ,nJ,Sm.zero_add,hc.iV];exact(nH (S:=S) 2).iV
 ·rw[d5,jR.1,hc.bad];rfl
 ·intro d m
  rw[List.mem_singleton.mp m]
  exact⟨by show(-10:Int)≤0;decide,by show(0:Int)≤10;decide,by show(-10:Int)≤0;decide,by show(0:Int)≤10;decide⟩
 ·intro d m;rw[List.mem_singleton.mp m];trivial
 ·intro d m
  rcases List.mem_append.mp m with m|m
  ·exact iJ.1 d m
  ·exact hc.bD d m
noncomputable def mkA(P u:List Nd)(b:Bk)(x:Nat):Row:=⟨P.length+b.k,b.pen,b.sort,P.length+(u.length+(if b.sk then x else 0)),((total P).add (total u)).widen (-b.qs),((total P).add b.pre).widen b.ps⟩
theorem Pf.step{S:bp}{tl ld:Bool}{A B gA gB c:List Nd}{mv uy:List Int}{R:List (Row×Row)}{w x:Int}(h:Pf S tl A B mv R)(g:nI S tl gA gB uy)(hc:fY S w c):
  ∃R',Pf S ld (A++(gA++[Nd.box 2 w])) (B++((ar tl++gB)++(bA ld++c))) (mv++(uy.map (((B++ar tl).length:Int)+·)++[x])) R'∧R'.length≤R.length+1:=by
 revert S tl ld A B gA gB c mv uy R w x
 apply aT;intro
 generalize bX .. =S,bY .. =tl,bZ .. =ld,b7 .. =A,cv .. =B,cw .. =gA,cx .. =gB,cy .. =c
 apply aN;intro
 generalize bM .. =mv,bN .. =uy,bQ .. =R,bR .. =w
 apply aJ;intro
 generalize nx .. =x
 intro h g hc
 obtain⟨oA,oB,uA,uB,hm⟩:=g.brk
 have hb:fY S w [.box 2 w]:=nH 2
 have hA:∀r,Hd ([.box 2 w]++r):=fun r=>qr (ld:=false) hb r
 have sA:∀r,∃cN,aQ S.bT S.ex true true A.length (gA++([.box 2 w]++r))=(oA.toList.map fun b=>(A.length+b.k,b.pen,b.sort))++aQ S.bT S.ex true cN (A.length+gA.length) ([.box 2 w]++r):=fun r=>uA.scan _ _ (hA r)
 have lA:∀r,aQ S.bT S.ex true false 0 (A++(gA++[.box 2 w])++r)=(brA R++oA.toList.map fun b=>(A.length+b.k,b.pen,b.sort))++aQ S.bT S.ex true true (A++(gA++[Nd.box 2 w])).length r:=by
  intro r
  obtain⟨cN,e⟩:=sA r
  rw[List.append_assoc,List.append_assoc,h.la,e,hb.scan,List.append_assoc,List.length_append,List.length_append,←Nat.add_assoc]
 have lB:∀r,aQ S.bT S.ex true false 0 (B++((ar tl++gB)++(bA ld++c))++r)=(brB R++oB.toList.map fun b=>(B.length+b.k,b.pen,b.sort))++aQ S.bT S.ex (!ld) true (B++((ar tl++gB)++(bA ld++c))).length r:=by
  intro r
  obtain⟨cN,e⟩:=uB.scan B.length (bA ld++(c++r)) (qr hc r)
  have l:(B++((ar tl++gB)++(bA ld++c))).length=B.length+(ar tl++gB).length+(bA ld++c).length:=by rw[List.length_append,List.length_append,←Nat.add_assoc]
  rw[l,←pe hc cN,List.append_assoc (brB R),←e,←h.lb]
  simp only[List.append_assoc]
 have iV:total (A++(gA++[Nd.box 2 w]))=total (B++((ar tl++gB)++(bA ld++c))):=by
  simp only[aZ,eJ,nJ,Sm.zero_add,h.iV,g.iV,hb.iV,hc.iV]
 have bad:cL (A++(gA++[Nd.box 2 w]))=cL (B++((ar tl++gB)++(bA ld++c))):=by
  simp only[d5,jR.1,jR.2,hb.bad,hc.bad,h.bad,g.bad,Bool.false_or]
 have len:(mv++(uy.map (((B++ar tl).length:Int)+·)++[x])).length=(A++(gA++[Nd.box 2 w])).length:=by
  simp[h.len,g.len]
 have ph:∀d∈A++(gA++[.box 2 w]),yA d:=by
  intro d m
  rcases List.mem_append.mp m with m|m
  ·exact h.ph d m
  ·rcases List.mem_append.mp m with m|m
   ·exact g.ph d m
   ·rw[List.mem_singleton.mp m]
    exact⟨by show(-10:Int)≤0;decide,by show(0:Int)≤10;decide,by show(-10:Int)≤0;decide,by show(0:Int)≤10;decide⟩
 have bD:(∀d∈A++(gA++[.box 2 w]),d.bD)∧∀d∈B++((ar tl++gB)++(bA ld++c)),d.bD:=by
  refine⟨fun d m=> ?_,fun d m=> ?_⟩
  ·rcases List.mem_append.mp m with m|m
   ·exact h.bD.1 d m
   ·rcases List.mem_append.mp m with m|m
    ·exact g.bD.1 d m
    ·rw[List.mem_singleton.mp m];trivial
  ·rcases List.mem_append.mp m with m|m
   ·exact h.bD.2 d m
   ·rcases List.mem_append.mp m with m|m
    ·rcases List.mem_append.mp m with m|m
     ·exact iJ.2 d m
     ·exact g.bD.2 d m
    ·rcases List.mem_append.mp m with m|m
     ·exact iJ.1 d m
     ·exact hc.bD d m
 cases oA with
 |none=>
  cases oB with
  |some _=>exact hm.elim
  |none=>
   refine⟨R,⟨?_,?_,fun p m=>(h.pr p m).ext _ _ _,h.ord,iV,bad,len,ph,bD⟩,Nat.le_succ _⟩
   ·intro r;rw[lA];simp
   ·intro r;rw[lB];simp
 |some a=>
  cases oB with
  |none=>exact hm.elim
  |some b=>
   obtain⟨e1,e2,e3,e4,e5,e6⟩:=hm
   obtain⟨ka,rowA⟩:=uA.row a rfl
   obtain⟨kb,rowB⟩:=uB.row b rfl
   have hp:PrR (A++(gA++[Nd.box 2 w])) (B++((ar tl++gB)++(bA ld++c))) (mv++(uy.map (((B++ar tl).length:Int)+·)++[x])) (mkA A gA a 0,mkA B (ar tl++gB) b (bA ld).length):=by
    refine⟨fun r=> ?_,fun r=> ?_,?_,?_,?_,?_⟩
    ·have:=rowA A ([.box 2 w]++r) (hA r)
     have z:skip ([.box 2 w]++r)=0:=hb.skp r
     rw[z] at this
     simp only[List.append_assoc] at this ⊢
     exact this
    ·have:=rowB B (bA ld++(c++r)) (qr hc r)
     rw[pg hc] at this
     simp only[List.append_assoc] at this ⊢
     exact this
    ·simp only[mkA,Row.core,Core.mk.injEq]
     refine⟨e1,e2,?_,?_⟩
     ·rw[h.iV,aZ (ar tl),eJ,Sm.zero_add,g.iV,e5]
     ·rw[h.iV,e3,e4]
    ·show(mv++_)[A.length+a.k]? =some (((B.length+b.k:Nat):Int))
     rw[←h.len,qp,List.getElem?_append_left (by rw[List.length_map];exact(List.getElem?_eq_some_iff.mp e6).1),List.getElem?_map,e6]
     show some (((B++ar tl).length:Int)+((b.k:Int) - ((ar tl).length:Int)))=_
     rw[List.length_append]
     exact congrArg some ar217
    ·constructor
     ·show A.length+(gA.length+(if a.sk then 0 else 0))≤_
      rw[List.length_append,List.length_append]
      split<;>exact Nat.add_le_add_left (Nat.le_add_right _ _) _
     ·show B.length+((ar tl++gB).length+(if b.sk then(bA ld).length else 0))≤_
      simp only[List.length_append]
      split
      ·exact Nat.add_le_add_left (Nat.add_le_add_left (Nat.le_add_right _ _) _) _
      ·exact Nat.add_le_add_left (Nat.add_le_add_left (Nat.zero_le _) _) _
    ·show A.length+a.k<_
     rw[List.length_append,List.length_append];exact Nat.add_lt_add_left (Nat.lt_add_right _ ka) _
   refine⟨R++[(mkA A gA a 0,mkA B (ar tl++gB) b (bA ld).length)],⟨?_,?_,?_,?_,iV,bad,len,ph,bD⟩,by simp⟩
   ·intro r;rw[lA,brA,brA,List.map_append];rfl
   ·intro r;rw[lB,brB,brB,List.map_append];rfl
   ·intro p m
    rcases List.mem_append.mp m with m|m
    ·exact(h.pr p m).ext _ _ _
    ·rw[List.mem_singleton.mp m];exact hp
   ·intro i k p q hik hi hk
    rcases Nat.lt_or_ge k R.length with y|y
    ·rw[List.getElem?_append_left y] at hk
     rw[List.getElem?_append_left (by exact Nat.lt_trans hik y)] at hi
     exact h.ord i k p q hik hi hk
    ·rw[List.getElem?_append_right y] at hk
     have y0:k - R.length=0:=by
      have:=(List.getElem?_eq_some_iff.mp hk).1
      simp at this;exact this
     rw[y0] at hk
     cases hk
     rw[List.getElem?_append_left (Nat.lt_of_lt_of_le hik (Nat.le_of_sub_eq_zero y0))] at hi
     have:=(h.pr p (List.mem_of_getElem? hi)).st
     exact⟨Nat.le_trans this.1 (Nat.le_add_right _ _),Nat.le_trans this.2 (Nat.le_add_right _ _)⟩
theorem uz{hp xp:Int}{l:List Nd}:∀{may cN:Bool} {i:Nat} {b:Nat×Int×Int},b∈aQ hp xp may cN i l→-10000≤b.2.1∧b.2.1≤10000:=by
 induction l with
 |nil=>
  intro _ _ _ _ h
  exact absurd h List.not_mem_nil
 |cons d r ih=>
  intro may cN i b h
  rw[gq] at h
  rcases List.mem_append.mp h with h|h
  ·split at h
   ·rename_i q
    rw[List.mem_singleton] at h;subst h
    unfold er
    dsimp only
    split
    ·exact⟨by decide,by decide⟩
    ·exact⟨Int.not_lt.mp ‹_›,Int.le_of_lt q⟩
   ·simp at h
  ·exact ih h
theorem lV{x y:Int}{n:Nat}(h1: -(10 * n:Int)≤x)(h2:x≤10 * n)(h3: -10≤y)(h4:y≤10): -(10 * (n+1:Nat):Int)≤y+x∧y+x≤10 * (n+1:Nat):=by exact ar225 h1 h2 h3 h4
theorem BB(l:List Nd):(∀d∈l,yA d)→-(10 * l.length:Int)≤(total l).b∧(total l).b≤10 * l.length∧-(10 * l.length:Int)≤(total l).f∧(total l).f≤10 * l.length:=by
 induction l with
 |nil=>
  intro _;simp[jP,Sm.zero]
 |cons d r ih=>
  intro h
  obtain⟨a1,a2,a3,a4⟩:=ih fun x m=>h x (List.mem_cons_of_mem _ m)
  obtain⟨b1,b2,b3,b4⟩:=h d (List.mem_cons_self ..)
  exact⟨(lV a1 a2 b1 b2).1,(lV a1 a2 b1 b2).2,(lV a3 a4 b3 b4).1,(lV a3 a4 b3 b4).2⟩
theorem lW{l:List Nd}(h:∀d∈l,yA d)(hl:l.length≤1000)(n:Nat)(x:Int):Bd ((total (l.take n)).widen x):=by
 have:=BB (l.take n) fun d m=>h d (List.mem_of_mem_take m)
 rw[List.length_take] at this
 unfold Bd Sm.widen
 dsimp only
 exact ar227 hl this
theorem row_bd{l:List Nd}(h:∀d∈l,yA d)(hl:l.length≤1000)(b:Nat×Int×Int):Bd (rowOf l b).bg∧Bd (rowOf l b).en:=by
 refine jQ (Q:=fun r=>Bd r.bg∧Bd r.en) (fun _ _ _ _=> ?_) ?_
 ·exact⟨lW h hl _ _,lW h hl _ _⟩
 ·exact⟨by have:=lW h hl (aU l b.1) 0;rwa [Sm.gM] at this,by have:=lW h hl b.1 0;rwa [Sm.gM] at this⟩
theorem sj(l:List Nd):rowOf l (l.length,-10000,1)=⟨l.length,-10000,1,l.length,total l,total l⟩:=by
 have g:l[l.length]? =none:=List.getElem?_eq_none (Nat.le_refl _)
 have s:aU l l.length=l.length:=by
  unfold aU
  rw[g,List.drop_length]
  rfl
 unfold rowOf
 dsimp only
 rw[g]
 dsimp only
 rw[s,List.take_length]
theorem sq{S:bp}{m:Bool}{u:List Nd}{i:Nat}(h:dG S m u none):aQ S.bT S.ex m true i u=[]:=by
 obtain⟨b,e⟩:=h.scan i [] ⟨rfl,rfl⟩
 rw[List.append_nil] at e
 rw[e];rfl
theorem gN{α:Type}{l:List α}{x y:α}{i:Nat}(h:(l++[x])[i]? =some y):l[i]? =some y∨(i=l.length∧y=x):=by
 rcases Nat.lt_or_ge i l.length with q|q
 ·rw[List.getElem?_append_left q] at h;exact .inl h
 ·rw[List.getElem?_append_right q] at h
  have z:=(List.getElem?_eq_some_iff.mp h).1
  have:i - l.length=0:=by simp at z;exact z
  rw[this] at h
  cases h
  exact .inr ⟨by exact ar6 q this,rfl⟩
structure uC(S:bp)(a b:List Nd)(m:List Int):Prop where
 core:(rowsOf S a).map Row.core=(rowsOf S b).map Row.core
 mvd:∀(i:Nat) (p q:Row),(rowsOf S a)[i]? =some p→(rowsOf S b)[i]? =some q→m[p.place]? =some (q.place:Int)
 okA:kF (rowsOf S a)
 okB:kF (rowsOf S b)
 bad:cL a=cL b
 bD:(∀d∈a,d.bD)∧∀d∈b,d.bD
theorem Pf.fin{S:bp}{tl:Bool}{A B eA eB:List Nd}{mv oC:List Int}{R:List (Row×Row)}(h:Pf S tl A B mv R)(uA:dG S true eA none)(uB:dG S (!tl) (ar tl++eB) none)(iV:total eA=total eB)(bad:cL eA=cL eB)
  (ph:∀d∈eA,yA d) (bD:(∀d∈eA,d.bD)∧∀d∈eB,d.bD) (len:oC.length=eA.length) (hR:R.length≤5) (hl:(A++eA).length≤1000):
  uC S (A++eA) (B++(ar tl++eB)) (mv++oC++[((B++(ar tl++eB)).length:Int)]):=by
 revert S tl A B eA eB mv oC R
 apply aT;intro
 generalize bX .. =S,bY .. =tl,bZ .. =A,b7 .. =B,cv .. =eA,cw .. =eB,cx .. =mv,cy .. =oC
 apply aJ;intro
 generalize nx .. =R
 intro h uA uB iV bad ph bD len hR hl
 generalize ha:A++eA=a at hl ⊢
 generalize hb:B++(ar tl++eB)=b
 have ba:bj S a=brA R++[(a.length,-10000,1)]:=by
  unfold bj;rw[←ha,h.la,sq uA,List.append_nil]
 have bb:bj S b=brB R++[(b.length,-10000,1)]:=by
  unfold bj;rw[←hb,h.lb,sq uB,List.append_nil]
 have ra:rowsOf S a=R.map (·.1)++[⟨a.length,-10000,1,a.length,total a,total a⟩]:=by
  unfold rowsOf
  rw[ba,List.map_append,List.map_cons,List.map_nil,sj,brA,List.map_map]
  congr 1
  refine List.map_congr_left fun p m=> ?_
  have:=(h.pr p m).ra eA
  rw[ha] at this;exact this
 have rb:rowsOf S b=R.map (·.2)++[⟨b.length,-10000,1,b.length,total b,total b⟩]:=by
  unfold rowsOf
  rw[bb,List.map_append,List.map_cons,List.map_nil,sj,brB,List.map_map]
  congr 1
  refine List.map_congr_left fun p m=> ?_
  have:=(h.pr p m).rb (ar tl++eB)
  rw[hb] at this;exact this
 have tab:total a=total b:=by
  rw[←ha,←hb];simp only[aZ,eJ,Sm.zero_add,h.iV,iV]
 have core:(rowsOf S a).map Row.core=(rowsOf S b).map Row.core:=by
  rw[ra,rb,List.map_append,List.map_append,List.map_map,List.map_map]
  congr 1
  ·exact List.map_congr_left fun p m=>(h.pr p m).core
  ·simp only[List.map_cons,List.map_nil,Row.core,tab]
 have smA:∀d∈a,yA d:=by
  intro d m
  rw[←ha] at m
  rcases List.mem_append.mp m with m|m
  ·exact h.ph d m
  ·exact ph d m
 have bdA:∀r∈rowsOf S a,Bd r.bg∧Bd r.en∧-10000≤r.pen∧r.pen≤10000:=by
  intro r m
  obtain⟨x,mx,e⟩:=List.mem_map.mp m
  have hp:r.pen=x.2.1:=by rw[←e];exact jQ (Q:=fun r=>r.pen=x.2.1) (fun _ _ _ _=>rfl) rfl
  have:=row_bd smA hl x
  rw[e] at this
  refine⟨this.1,this.2,?_⟩
  rw[hp]
  rcases List.mem_append.mp mx with mx|mx
  ·exact uz mx
  ·rw[List.mem_singleton.mp mx];exact⟨Int.le_refl _,by show(-10000:Int)≤10000;decide⟩
 have la:A.length≤a.length:=by rw[←ha,List.length_append];exact Nat.le_add_right _ _
 have lb:B.length≤b.length:=by rw[←hb,List.length_append];exact Nat.le_add_right _ _
 refine⟨core,?_,⟨?_,?_,bdA⟩,⟨?_,?_,?_⟩,?_,?_,?_⟩
 ·intro i p q hp hq
  rw[ra] at hp
  rw[rb] at hq
  rcases gN hp with hp|⟨ei,ep⟩
  ·rcases gN hq with hq|⟨ei,eq⟩
   ·rw[List.getElem?_map] at hp hq
    cases hx:R[i]? with
    |none=>rw[hx] at hp;cases hp
    |some x=>
     rw[hx] at hp hq
     cases hp;cases hq
     have:=(h.pr x (List.mem_of_getElem? hx)).mvd
     rw[List.append_assoc,List.getElem?_append_left (List.getElem?_eq_some_iff.mp this).1]
     exact this
   ·have:=(List.getElem?_eq_some_iff.mp hp).1
    rw[List.length_map] at this ei;lia
  ·rcases gN hq with hq|⟨ei',eq⟩
   ·have:=(List.getElem?_eq_some_iff.mp hq).1
    rw[List.length_map] at this ei;lia
   ·subst ep eq
    have:a.length=(mv++oC).length:=by rw[←ha,List.length_append,List.length_append,h.len,len]
    show(mv++oC++[(b.length:Int)])[a.length]? =some (b.length:Int)
    rw[this,List.getElem?_append_right (Nat.le_refl _),Nat.sub_self];rfl
 ·rw[ra];simp;exact hR
 ·intro i k ri rk hik hi hk
  rw[ra] at hi hk
  rcases gN hi with hi|⟨ei,_⟩
  ·rw[List.getElem?_map] at hi
   cases hx:R[i]? with
   |none=>rw[hx] at hi;cases hi
   |some x=>
    rw[hx] at hi;cases hi
    rcases gN hk with hk|⟨_,ek⟩
    ·rw[List.getElem?_map] at hk
     cases hy:R[k]? with
     |none=>rw[hy] at hk;cases hk
     |some y=>rw[hy] at hk;cases hk;exact(h.ord i k x y hik hx hy).1
    ·subst ek;exact Nat.le_trans (h.pr x (List.mem_of_getElem? hx)).st.1 la
  ·have:=(List.getElem?_eq_some_iff.mp hk).1
   rw[List.length_append,List.length_singleton] at this;exact ar229 hik ei this
 ·rw[rb];simp;exact hR
 ·intro i k ri rk hik hi hk
  rw[rb] at hi hk
  rcases gN hi with hi|⟨ei,_⟩
  ·rw[List.getElem?_map] at hi
   cases hx:R[i]? with
   |none=>rw[hx] at hi;cases hi
   |some x=>
    rw[hx] at hi;cases hi
    rcases gN hk with hk|⟨_,ek⟩
    ·rw[List.getElem?_map] at hk
     cases hy:R[k]? with
     |none=>rw[hy] at hk;cases hk
     |some y=>rw[hy] at hk;cases hk;exact(h.ord i k x y hik hx hy).2
    ·subst ek;exact Nat.le_trans (h.pr x (List.mem_of_getElem? hx)).st.2 lb
  ·have:=(List.getElem?_eq_some_iff.mp hk).1
   rw[List.length_append,List.length_singleton] at this;lia
 ·intro r m
  obtain⟨i,hi⟩:=List.getElem?_of_mem m
  have hc:((rowsOf S b).map Row.core)[i]? =some r.core:=by rw[List.getElem?_map,hi];rfl
  rw[←core,List.getElem?_map] at hc
  cases hx:(rowsOf S a)[i]? with
  |none=>rw[hx] at hc;cases hc
  |some x=>
   rw[hx] at hc
   have e:x.core=r.core:=Option.some.inj hc
   have:=bdA x (List.mem_of_getElem? hx)
   simp only[Row.core,Core.mk.injEq] at e
   obtain⟨e1,_,e3,e4⟩:=e
   rw[e1,e3,e4] at this
   exact this
 ·rw[←ha,←hb];simp only[d5,jR.2,h.bad,bad,Bool.false_or]
 ·intro d m
  rw[←ha] at m
  rcases List.mem_append.mp m with m|m
  ·exact h.bD.1 d m
  ·exact bD.1 d m
 ·intro d m
  rw[←hb] at m
  rcases List.mem_append.mp m with m|m
  ·exact h.bD.2 d m
  ·rcases List.mem_append.mp m with m|m
   ·exact iJ.2 d m
   ·exact bD.2 d m
def eS.uD(s:eS):Prop:=∀g m,cF g s.least=some m→∃k b,cF k s.best=some b∧k.fdiv 4=g∧b.cQ=m
theorem uE(x y:Int):(fB x y=x∧x≤y)∨(fB x y=y∧y<x):=by unfold fB;split;exact .inr ⟨rfl,‹_›⟩;exact .inl ⟨rfl,Int.not_lt.mp ‹_›⟩
theorem yB{g f:Int}{b:uf}{s:eS}(h:s.uD)(hh:s.has)(h0:0≤f)(h4:f<4):(jf g f b s).uD:=by
 revert g f b s
 apply aN;intro
 generalize bM .. =g,bN .. =f,bQ .. =b,bR .. =s
 intro h hh h0 h4
 unfold jf
 split
 ·rename_i hb
  intro g' m e
  dsimp only at e ⊢
  rw[fD] at e
  by_cases q:g=g'
  ·subst q
   rw[if_pos rfl] at e
   cases e
   cases hm:cF g s.least with
   |none=>
    refine⟨4 * g+f,b,by rw[fD,if_pos rfl],lU h0 h4,?_⟩
    show b.cQ=fB b.cQ b.cQ
    unfold fB;split<;>rfl
   |some m=>
    rcases uE b.cQ m with⟨c1,c2⟩|⟨c1,c2⟩
    ·exact⟨4 * g+f,b,by rw[fD,if_pos rfl],lU h0 h4,c1.symm⟩
    ·obtain⟨k,b',e1,e2,e3⟩:=h g m hm
     refine⟨k,b',?_,e2,by rw[e3];exact c1.symm⟩
     rw[fD,if_neg]
     ·exact e1
     ·rintro rfl
      rw[e1] at hb
      have:b.cQ≤b'.cQ:=by simpa [vG] using hb
      exact absurd (Int.lt_of_lt_of_le c2 (e3▸this)) (Int.lt_irrefl _)
  ·rw[if_neg q] at e
   obtain⟨k,b',e1,e2,e3⟩:=h g' m e
   refine⟨k,b',?_,e2,e3⟩
   rw[fD,if_neg]
   ·exact e1
   ·rintro rfl;exact q ((lU h0 h4).symm.trans e2)
 ·exact h
theorem uF{T:eW}{cs:List Core}{c:Core}{isEnd:Bool}{len k:Nat}{w:Wy}{s:eS}(h:s.uD)(hh:s.has):(fC T cs c isEnd len k w s).uD:=by
 unfold fC
 dsimp only
 split
 ·exact h
 ·exact yB h hh (gK _ _).1 (gK _ _).2
theorem uG{T:eW}{cs:List Core}{c:Core}{isEnd:Bool}{len:Nat}(l:List Wy):∀(k:Nat) (s:eS),s.uD→s.has→(fO T cs c isEnd len k l s).uD:=by
 induction l with
 |nil=>
  exact fun _ _ h _=>h
 |cons _ l ih=>
  exact fun k _ h hh=>ih (k+1) _ (uF h hh) (o7 hh)
theorem put_ne{α:Type}(k:Int)(v:α)(l:List (Int×α)):putK k v l≠[]:=by
 cases l with
 |nil=>exact List.cons_ne_nil _ _
 |cons x r=>obtain⟨j,u⟩:=x;rw[kC];split<;>exact List.cons_ne_nil _ _
def eS.full(s:eS):Prop:=s.kept≠[]∨s.best≠[]
theorem kG{g f:Int}{b:uf}{s:eS}(h:s.full∨s.best=[]):(jf g f b s).full:=by
 unfold jf
 split
 ·exact .inr (put_ne _ _ _)
 ·rename_i hb
  rcases h with h|h
  ·exact h
  ·rw[h] at hb;exact absurd rfl hb
theorem uH{T:eW}{cs:List Core}{c:Core}{isEnd:Bool}{len k:Nat}{w:Wy}{s:eS}(hT:T.last=true)(h:s.full∨k+1=len):(fC T cs c isEnd len k w s).full:=by
 revert T cs c isEnd len k w s
 apply aT;intro
 generalize bX .. =T,bY .. =cs,bZ .. =c,b7 .. =isEnd,cv .. =len,cw .. =k,cx .. =w,cy .. =s
 intro hT h
 unfold fC
 dsimp only
 cases hc:gX (qk T cs c w).1 c.pen with
 |false=>
  rw[Bool.false_and]
  have:(⟨s.kept++[w],s.best,s.least⟩:eS).full:=.inl (by simp)
  split
  ·exact this
  ·exact kG (.inl this)
 |true=>
  rw[Bool.true_and,if_pos rfl]
  by_cases hf:s.full
  ·split
   ·exact hf
   ·exact kG (.inl hf)
  ·have hk:s.kept=[]:=Decidable.byContradiction fun x=>hf (.inl x)
   have hb:s.best=[]:=by
    cases e:s.best with
    |nil=>rfl
    |cons _ _=>exact absurd (.inr (by rw[e];simp)) hf
   have hl:k+1=len:=h.resolve_left hf
   have hr:yp T s (decide (k+1=len))=true:=by
    unfold yp;rw[hT,hk,hb,decide_eq_true hl];rfl
   rw[hr,if_neg (by rintro⟨_,x⟩;cases x)]
   exact kG (.inr hb)
theorem uI{T:eW}{cs:List Core}{c:Core}{isEnd:Bool}{len:Nat}(hT:T.last=true)(l:List Wy):∀(k:Nat) (s:eS),(s.full∨l≠[])→k+l.length=len→(fO T cs c isEnd len k l s).full:=by
 induction l with
 |nil=>
  intro _ _ h _
  exact h.resolve_right (fun x=>x rfl)
 |cons w l ih=>
  intro k s h e
  refine ih (k+1) _ ?_ (by rw[List.length_cons] at e;exact(Nat.add_right_comm _ 1 _).trans e)
  cases l with
  |nil=>exact .inl (uH hT (.inr e))
  |cons _ _=>exact .inr (by simp)
theorem yC{T:eW}{j:Nat}{s:eS}(h:s.full)(hh:s.has)(hb:s.uD):pClose T j s≠[]:=by
 revert T j s
 apply aP;intro
 generalize bP .. =T,bS .. =j
 apply aJ;intro
 generalize nx .. =s
 intro h hh hb
 unfold pClose
 intro e
 rw[List.append_eq_nil_iff] at e
 rcases h with h|h
 ·exact h e.1
 ·cases e':s.best with
  |nil=>exact h e'
  |cons x r=>
   obtain⟨k0,hk0⟩:∃k,k∈s.best.map (·.1):=⟨x.1,by rw[e'];simp⟩
   obtain⟨b0,e0⟩:=kE hk0
   obtain⟨m,hm⟩:=hh k0 b0 e0
   obtain⟨k,b,e1,e2,e3⟩:=hb _ m hm
   have hin:k∈bO (s.best.map (·.1)):=(se _ _).mpr (List.mem_map.mpr ⟨_,kD e1,rfl⟩)
   have hn:lH T j s k=[⟨j::b.way.path,b.line,k.fmod 4,b.cQ⟩]:=by
    unfold lH
    rw[e1,e2,hm]
    dsimp only
    rw[if_pos]
    rw[e3]
    have:0≤fW T.S.qA:=by unfold fW;split<;>lia
    exact Int.le_add_of_nonneg_right this
   have:(⟨j::b.way.path,b.line,k.fmod 4,b.cQ⟩:Wy)∈(bO (s.best.map (·.1))).flatMap (lH T j s):=List.mem_flatMap.mpr ⟨k,hin,by rw[hn];simp⟩
   rw[e.2] at this
   cases this
theorem BC{T:eW}{cs:List Core}{j:Nat}{c:Core}{isEnd:Bool}{l:List Wy}(hT:T.last=true)(h:l≠[]):gu T cs j c isEnd l≠[]:=
 yC (uI hT l 0 _ (.inr h) (Nat.zero_add _)) (o8 _ _ _ (fun k b e=>by cases e)) (uG _ _ _ (fun g m e=>by cases e) (fun k b e=>by cases e))
theorem pRun_ne{T:eW}{cs:List Core}(hT:T.last=true)(r:List Core):∀(j:Nat) (a:List Wy),a≠[]→∃a',nA T cs j r a=some a'∧a'≠[]:=by
 induction r with
 |nil=>
  intro _ a h
  exact⟨a,rfl,h⟩
 |cons c r ih=>
  intro j a h
  have hn:=BC (cs:=cs) (j:=j) (c:=c) (isEnd:=r.isEmpty) hT h
  rw[uo,if_neg (by rw[List.isEmpty_iff];exact hn)]
  exact ih (j+1) _ hn
theorem yD{T:eW}{cs:List Core}(hT:T.last=true):∃p,dP T cs=some p:=by
 obtain⟨a,e,h⟩:=pRun_ne (cs:=cs) hT cs 0 [⟨[],T.dy.done,2,0⟩] (by simp)
 unfold dP
 rw[e]
 cases a with
 |nil=>exact absurd rfl h
 |cons w r=>
  show ∃p,uq T (w::r)=some p
  unfold uq
  dsimp only
  rw[if_neg (by rintro⟨_,x⟩;rw[hT] at x;cases x)]
  exact⟨_,rfl⟩
noncomputable def bfs(k w h d:Int)(v:PV):List (Nat×PV):=[(5,.int k),(0,.int w),(6,.int h),(7,.int d),(8,v),(9,.int 0),(10,.int 0),(11,.int 0),(12,.tup [.int 0,.int 1])]
def Dv(a:PV):Prop:=a=.none∨∃x,a=.int x∧Dm x
section
variable {ns:List Int}{n:Nat}{H:aa}{R:PV→aa→Prop}{E:XK→aa→Prop}
theorem m279{k w h d:Int}{v:PV}(hk:2≤k∧k≤3)(hw:Dm w)(hh:Dm h)(hd:Dm d)(kk:R (.ref H.length) (H++[.inst 279 (bfs k w h d v)])):Wc (cA (aO ns) (aj (aO ns) (n+3)) 279 [.int k,.int w,.int h,.int d,v] H) R E:=
 make rfl (aS rfl rfl (ky hk.1 hk.2 (aB (dF hw (aB (dF hh (aB (dF hd (aB (aB (aB (aB (aB (aB kk))))))))))))))
theorem m321{w s:Int}(hs:0≤s∧s≤3)(hw:Dm w)(k:R (.ref H.length) (H++[.inst 321 [(0,.int w),(13,.int s)]])):Wc (cA (aO ns) (aj (aO ns) (n+3)) 321 [.int w,.int s] H) R E:=
 make rfl (aS rfl rfl (ky hs.1 hs.2 (dF hw (aB (aB k)))))
theorem m364{v:Int}(hv:Nm v)(k:R (.ref H.length) (H++[.inst 364 [(16,.int v)]])):Wc (cA (aO ns) (aj (aO ns) (n+3)) 364 [.int v] H) R E:=
 make rfl (aS rfl rfl (rN hv (aB k)))
theorem m469{b:Bool}{w:Int}(hw:Dm w)(k:R (.ref H.length) (H++[.inst 469 [(25,.bool b),(0,.int w)]])):Wc (cA (aO ns) (aj (aO ns) (n+3)) 469 [.bool b,.int w] H) R E:=
 make rfl (aS rfl rfl (aB (dF hw (aB k))))
theorem m448{v:PV}(k:R (.ref H.length) (H++[.inst 448 [(8,v)]])):Wc (cA (aO ns) (aj (aO ns) (n+1)) 448 [v] H) R E:=
 make rfl (aS rfl rfl (aB k))
theorem m406{r:Nat}{l:List PV}(hr:H[r]? =some (.list l))(hl:l.length<1000)(k:R (.ref H.length) (H++[.inst 406 [(20,.tup l)]])):Wc (cA (aO ns) (aj (aO ns) (n+1)) 406 [.ref r] H) R E:=
 make rfl (aS rfl rfl (.of ((Pre.app _ (.refl _)).get hr) (.of (Nat.lt_trans hl (by decide)) (aB k))))
theorem m427{a b c e:Int}{t v:PV}(ha:0≤a∧a≤254)(hb:Dm b)(hc:Dm c)(he:Nm e)(k:R (.ref H.length) (H++[.inst 427 [(21,.int a),(22,.int b),(7,.int c),(23,t),(24,.int e),(8,v)]])):
  Wc (cA (aO ns) (aj (aO ns) (n+3)) 427 [.int a,.int b,.int c,t,.int e,v] H) R E:=
 make rfl (aS rfl rfl (ky ha.1 ha.2 (aB (dF hb (aB (dF hc (aB (aB (rN he (aB (aB k)))))))))))
theorem m300{a b c:PV}(ha:Dv a)(hb:Dv b)(hc:Dv c)(k:R (.ref H.length) (H++[.inst 300 [(0,a),(6,b),(7,c)]])):Wc (cA (aO ns) (aj (aO ns) (n+3)) 300 [a,b,c] H) R E:=by
 revert ns n H R E a b c
 apply aT;intro
 generalize bX .. =ns,bY .. =n,bZ .. =H,b7 .. =R,cv .. =E,cw .. =a,cx .. =b,cy .. =c
 intro ha hb hc k
 refine make rfl (aS rfl rfl (.of (by decide:3<1000) ?_))
 refine qg (fun _ y=>[some (.ref H.length),some a,some b,some c,y]) (fun _ _=>H++[.inst 300 []]) (fun _ _=>True) none [a,b,c] trivial (fun i y v _ hv=> ?_) fun y _=> ?_
 rotate_left
 ·exact aB (aB (aB k))
 have all:∀x∈[a,b,c],Dv x:=by simp[ha,hb,hc]
 rcases all v (List.mem_of_getElem? hv) with rfl|⟨i,rfl,hi⟩
 ·exact⟨_,rfl,rfl,trivial⟩
 ·exact dF hi ⟨_,rfl,rfl,trivial⟩
theorem m343{g:PV}{s:Int}(hs:s=0∨(100≤s∧s≤199))(k:R (.ref H.length) (H++[.inst 343 [(14,g),(13,.int s),(15,.none)]])):Wc (cA (aO ns) (aj (aO ns) (n+3)) 343 [g,.int s] H) R E:=by
 revert ns n H R E g s
 apply aN;intro
 generalize bM .. =ns,bN .. =n,bQ .. =H,bR .. =R
 apply aP;intro
 generalize bP .. =E,bS .. =g
 apply aJ;intro
 generalize nx .. =s
 intro hs k
 refine make rfl (o5 rfl rfl ?_)
 rcases hs with rfl|hs
 ·exact ky (by decide) (by decide) (.neg (by decide) (.neg nofun (aB (aB (aB k)))))
 ·exact fn89n (by exact fun q=>absurd (Int.le_trans hs.1 q.2) (by decide)) (ky hs.1 hs.2 (.pos (by exact ji hs.1 rfl) (.neg (by rw[decide_eq_false (by exact fun q=>absurd (Int.le_trans hs.1 q) (by decide))];nofun) (aB (aB (aB k))))))
theorem m343L{g:PV}{r:Nat}{s:Int}(hs:1≤s∧s≤3)(hr:Aq H (.ref r) 5 (.int 4))(k:R (.ref H.length) (H++[.inst 343 [(14,g),(13,.int s),(15,.ref r)]])):Wc (cA (aO ns) (aj (aO ns) (n+3)) 343 [g,.int s,.ref r] H) R E:=by
 refine make rfl (o5 rfl rfl (ky (by exact ji hs.1 rfl) (by exact qB hs.2 rfl) (.pos hs.1 (.neg (by rw[decide_eq_true hs.2];nofun) (.of ((hr.pre (Pre.app _ (.refl H))) ns) (.pos (by decide) (.pos (by decide) (aB (aB (aB k))))))))))
theorem fn181{r:Nat}{w st so sh bJ:Int}(h:H[r]? =some (.inst 227 (uk w st so sh bJ)))(k:R (.tup [.int w,.int st,.int (if st=0 then 0 else so),.int sh,.int (if sh=0 then 0 else bJ)]) H):Wc (aj (aO ns) (n+1) 181 [.ref r] H) R E:=
 aS rfl rfl (.of (aA h rfl rfl ns) (.of (aA h rfl rfl ns) (.of (aA h rfl rfl ns) (.of (aA h rfl rfl ns) (.of (aA h rfl rfl ns) k)))))
end
structure aE(M:List Nat)(H H':aa):Prop where
 len:H.length≤H'.length
 at_:∀i o,i∉M→H[i]? =some o→H'[i]? =some o
theorem aE.refl{M:List Nat}(H:aa):aE M H H:=⟨Nat.le_refl _,fun _ _ _ h=>h⟩
theorem aE.trans{M:List Nat}{H rP rQ:aa}(a:aE M H rP)(b:aE M rP rQ):aE M H rQ:=⟨Nat.le_trans a.len b.len,fun i o m h=>b.at_ i o m (a.at_ i o m h)⟩
theorem Pre.keep{M:List Nat}{H H':aa}(p:Pre H H'):aE M H H':=⟨p.len,fun _ _ _ h=>p.get h⟩
theorem aE.app{M:List Nat}{H H':aa}(a:aE M H H')(J:aa):aE M H (H'++J):=a.trans (Pre.app J (.refl _)).keep
theorem aE.set{M:List Nat}{H H':aa}{r:Nat}{o:aH}(a:aE M H H')(h:r∈M∨H.length≤r):aE M H (H'.set r o):=by
 refine⟨by rw[List.length_set];exact a.len,fun i x m e=> ?_⟩
 have hi:=(List.getElem?_eq_some_iff.mp e).1
 rw[bz (by rintro rfl;rcases h with h|h;exact m h;exact absurd h (Nat.not_le.mpr hi))]
 exact a.at_ i x m e
structure At(M:List Nat)(H:aa)(r:Nat)(o:aH):Prop where
 at_:H[r]? =some o
 nK:r∉M
theorem At.keep{M:List Nat}{H H':aa}{r:Nat}{o:aH}(k:aE M H H')(h:At M H r o):At M H' r o:=⟨k.at_ _ _ h.nK h.at_,h.nK⟩
def Low(M:List Nat)(H:aa):Prop:=∀i∈M,i<H.length
theorem Low.keep{M:List Nat}{H H':aa}(k:aE M H H')(h:Low M H):Low M H':=fun i m=>Nat.lt_of_lt_of_le (h i m) k.len
theorem Low.new{M:List Nat}{H:aa}(h:Low M H)(o:aH):At M (H++[o]) H.length o:=⟨aX,fun m=>Nat.lt_irrefl _ (h _ m)⟩
theorem Low.app{M:List Nat}{H:aa}(h:Low M H)(J:aa):Low M (H++J):=h.keep ((aE.refl H).app J)
def dE(M:List Nat)(H:aa)(v:PV)(d:Nd):Prop:=∀H',aE M H H'→iu H' v d
theorem dE.keep{M:List Nat}{H H':aa}{v:PV}{d:Nd}(k:aE M H H')(h:dE M H v d):dE M H' v d:=fun nV k'=>h nV (k.trans k')
theorem dE.now{M:List Nat}{H:aa}{v:PV}{d:Nd}(h:dE M H v d):iu H v d:=h H (.refl _)
theorem dE.all{M:List Nat}{H H':aa}{vs:List PV}{l:List Nd}(k:aE M H H')(h:bu (dE M H) vs l):bu (dE M H') vs l:=h.mono fun _ _ x=>x.keep k
theorem dE.of{M:List Nat}{H:aa}{r c:Nat}{fs:List (Nat×PV)}{d:Nd}(h:At M H r (.inst c fs))(f:∀H',H'[r]? =some (.inst c fs)→iu H' (.ref r) d):dE M H (.ref r) d:=fun H' k=>f H' (h.keep k).at_
section
variable {M:List Nat}{H:aa}{r:Nat}
theorem eU{c n:Nat}{fs:List (Nat×PV)}{x:PV}{k:ClsRec}(h:H[r]? =some (.inst c fs))(hb:dQ.contains (c,n)=false)(hx:bB n fs=none)(hc:bB c mh=some k)(hk:bB n k.ma=some x):Aq H (.ref r) n x:=by
 intro ns
 show jZ _ _ _=_
 rw[h]
 show(if _ then _ else _)=_
 rw[show(aO ns).bad=dQ from rfl,hb,if_neg (by decide),hx,show(aO ns).pK=mh from rfl,hc]
 exact hk
theorem k_box{k w h d:Int}{v:PV}(hk:k=2∨k=3)(a:At M H r (.inst 279 (bfs k w h d v))):dE M H (.ref r) (.box k w):=
 .of a fun _ g=>⟨hk,aA g rfl rfl,aA g rfl rfl⟩
theorem k_rule{w:Int}{b c:PV}(a:At M H r (.inst 300 [(0,.int w),(6,b),(7,c)])):dE M H (.ref r) (.rule w):=
 .of a fun _ g=>⟨eU g rfl rfl rfl rfl,aA g rfl rfl⟩
theorem k_kern{w s:Int}(a:At M H r (.inst 321 [(0,.int w),(13,.int s)])):dE M H (.ref r) (.bF w s):=
 .of a fun _ g=>⟨eU g rfl rfl rfl rfl,aA g rfl rfl,aA g rfl rfl⟩
theorem k_pen{w:Int}(a:At M H r (.inst 364 [(16,.int w)])):dE M H (.ref r) (.pen w):=
 .of a fun _ g=>⟨eU g rfl rfl rfl rfl,aA g rfl rfl⟩
theorem k_math{b:Bool}{w:Int}(a:At M H r (.inst 469 [(25,.bool b),(0,.int w)])):dE M H (.ref r) (.math b w):=
 .of a fun _ g=>⟨eU g rfl rfl rfl rfl,aA g rfl rfl,aA g rfl rfl⟩
theorem k_mark{v:PV}(a:At M H r (.inst 406 [(20,v)])):dE M H (.ref r) (.iU 9):=
 .of a fun _ g=>⟨.inl rfl,eU g rfl rfl rfl rfl⟩
theorem yE{v:PV}(a:At M H r (.inst 490 [(26,v)])):dE M H (.ref r) (.iU 13):=
 .of a fun _ g=>⟨.inr (.inr (.inr rfl)),eU g rfl rfl rfl rfl⟩
theorem BD{a b c d e f:PV}(h:At M H r (.inst 427 [(21,a),(22,b),(7,c),(23,d),(24,e),(8,f)])):dE M H (.ref r) (.iU 10):=
 .of h fun _ g=>⟨.inr (.inl rfl),eU g rfl rfl rfl rfl⟩
theorem BG{v:PV}(a:At M H r (.inst 448 [(8,v)])):dE M H (.ref r) (.iU 11):=
 .of a fun _ g=>⟨.inr (.inr (.inl rfl)),eU g rfl rfl rfl rfl⟩
noncomputable def cZ(w st so sh bJ:Int):Gl:=⟨w,st,if st=0 then 0 else so,sh,if sh=0 then 0 else bJ⟩
theorem BH{w st so sh bJ:Int}(g:H[r]? =some (.inst 227 (uk w st so sh bJ))):yg H (.ref r) (cZ w st so sh bJ):=
 ⟨aA g rfl rfl,aA g rfl rfl,aA g rfl rfl,aA g rfl rfl,aA g rfl rfl⟩
theorem nM{g c:Nat}{s l:PV}{w st so sh bJ:Int}(a:At M H r (.inst 343 [(14,.ref g),(13,s),(15,l)]))(b:At M H g (.inst 227 (uk w st so sh bJ))):dE M H (.ref r) (.glue (cZ w st so sh bJ)):=
 fun _ k=>⟨eU (a.keep k).at_ rfl rfl rfl rfl,.ref g,aA (a.keep k).at_ rfl rfl,BH (b.keep k).at_⟩
def kH(M:List Nat)(H:aa)(v:PV)(ws:List Int):Prop:=∀H',aE M H H'→gS H' v ws
theorem kH.keep{H':aa}{v:PV}{ws:List Int}(k:aE M H H')(h:kH M H v ws):kH M H' v ws:=fun nV k'=>h nV (k.trans k')
theorem k_disc{a b c:Nat}{p q m:List Int}(h:At M H r (.inst 385 [(17,.ref a),(18,.ref b),(19,.ref c)]))(h1:kH M H (.ref a) p)(h2:kH M H (.ref b) q)(h3:kH M H (.ref c) m):dE M H (.ref r) (.bL p q m):=
 fun _ k=>⟨eU (h.keep k).at_ rfl rfl rfl rfl,_,_,_,aA (h.keep k).at_ rfl rfl,h1 _ k,aA (h.keep k).at_ rfl rfl,h2 _ k,aA (h.keep k).at_ rfl rfl,h3 _ k⟩
def ShK(M:List Nat)(H:aa)(v:PV)(w:Int):Prop:=∀H',aE M H H'→jd H' v w
theorem ShK.keep{H':aa}{v:PV}{w:Int}(k:aE M H H')(h:ShK M H v w):ShK M H' v w:=fun nV k'=>h nV (k.trans k')
theorem kH.of{vs:List PV}{ws:List Int}(h:At M H r (.list vs))(hl:vs.length<1000)(a:bu (ShK M H) vs ws):kH M H (.ref r) ws:=
 fun _ k=>⟨r,vs,rfl,(h.keep k).at_,hl,a.mono fun _ _ x=>x _ k⟩
theorem sh_box{w h d:Int}{v:PV}(a:At M H r (.inst 279 (bfs 2 w h d v))):ShK M H (.ref r) w:=fun _ k=>⟨2,.inl rfl,aA (a.keep k).at_ rfl rfl,aA (a.keep k).at_ rfl rfl⟩
theorem sh_kern{w s:Int}(a:At M H r (.inst 321 [(0,.int w),(13,.int s)])):ShK M H (.ref r) w:=fun _ k=>⟨5,.inr rfl,eU (a.keep k).at_ rfl rfl rfl rfl,aA (a.keep k).at_ rfl rfl⟩
end
section
variable {ns:List Int}{n:Nat}{H:aa}{R:PV→aa→Prop}{E:XK→aa→Prop}
theorem BI{v:PV}{ws:List Int}(h:gS H v ws)(k:R v H):Wc (aj (aO ns) (n+1) 262 [v] H) R E:=by
 revert ns n H R E v ws
 apply aN;intro
 generalize bM .. =ns,bN .. =n,bQ .. =H,bR .. =R
 apply aP;intro
 generalize bP .. =E,bS .. =v
 apply aJ;intro
 generalize nx .. =ws
 intro h k
 obtain⟨r,vs,rfl,hr,hz,a⟩:=h
 refine aS rfl rfl (.of hr (.of (Nat.lt_trans hz (by decide)) ?_))
 refine ej (fun _ y=>[some (.ref r),y]) (fun _ _=>H) (fun _ _=>True) none vs trivial (fun _ _ _=>hr) (fun k y v _ hv=> ?_) fun y _=>k
 obtain⟨u,hu,c,hc,h5,h0⟩:=a.get (List.getElem?_eq_getElem (by rw[←a.length];exact(List.getElem?_eq_some_iff.mp hv).1))
 cases hv.symm.trans hu
 exact .of (h5 ns) (.neg (by exact qC (P:=fun x=>¬5<x) [2,5] rfl hc) ⟨_,rfl,rfl,trivial⟩)
theorem m385{a b c:PV}{p q m:List Int}(ha:gS H a p)(hb:gS H b q)(hc:gS H c m)(k:R (.ref H.length) (H++[.inst 385 [(17,a),(18,b),(19,c)]])):Wc (cA (aO ns) (aj (aO ns) (n+2)) 385 [a,b,c] H) R E:=by
 have pp:∀o,Pre H (H++[o]):=fun o=>Pre.app _ (.refl _)
 exact make rfl (aS rfl rfl (BI (ha.pre (pp _)) (aB (BI (hb.pre (pp _)) (aB (BI (hc.pre (pp _)) (aB k)))))))
theorem m490{r:Nat}(hr:H[r]? =some (.list [.int 65,.int 66]))(k:R (.ref H.length) (H++[.inst 490 [(26,.bytes)]])):Wc (cA (aO ns) (aj (aO ns) (n+2)) 490 [.ref r] H) R E:=by
 revert ns n H R E r
 apply aN;intro
 generalize bM .. =ns,bN .. =n,bQ .. =H,bR .. =R
 apply aP;intro
 generalize bP .. =E,bS .. =r
 intro hr k
 have dM:=(Pre.app [aH.inst 490 []] (.refl H)).get hr
 refine make rfl (aS rfl rfl (.of dM (.of dM (.of (by decide:2<100000) ?_))))
 refine ej (fun _ y=>[some (.ref H.length),some (.ref r),y]) (fun _ _=>H++[.inst 490 []]) (fun _ _=>True) none [.int 65,.int 66] trivial (fun _ _ _=>dM) (fun i y v _ hv=> ?_) fun y _=> ?_
 rotate_left
 ·exact .of dM (.of rfl (.of ⟨by decide,by decide⟩ (aB k)))
 have hk:i=0∨i=1:=by have:=(List.getElem?_eq_some_iff.mp hv).1;simp at this;exact Nat.le_one_iff_eq_zero_or_eq_one.mp (Nat.le_of_lt_succ this)
 rcases hk with rfl|rfl<;>cases hv<;>exact ky (by decide) (by decide) ⟨_,rfl,rfl,trivial⟩
end
section
variable {ns:List Int}{n:Nat}{H:aa}{R:PV→aa→Prop}{E:XK→aa→Prop}
theorem s741(k:∀w:Int,0≤w→R (.ref (H.length+1)) (H++[.list ((ns.take 24).map .int)]++[.list [.int w,.int 0]])):Wc (aj (aO ns) (n+1) 741 [.bG] H) R E:=by
 revert ns n H R E
 apply aN;intro
 generalize bM .. =ns,bN .. =n,bQ .. =H,bR .. =R
 apply aJ;intro
 generalize nx .. =E
 intro k
 have hl:((ns.take 24).map PV.int).length<100000:=by rw[List.length_map,List.length_take];exact gy (Nat.min_le_left _ _) rfl
 have p2:∀{x y:Int},x.natAbs<2 ^ 64→x.natAbs<2 ^ 64∨y.natAbs<2 ^ 64:=.inl
 have g:∀{y:Int},0≤y∧y≤1000→(10:Int).natAbs<2 ^ 64∧0≤y∧y≤1000:=fun h=>⟨by decide,h⟩
 refine aS rfl rfl (.of aX (.of hl ?_))
 refine ej (fun _ (s:Int×Option PV×Option PV)=>[some .bG,some (.int s.1),s.2.1,s.2.2]) (fun _ _=>H++[.list ((ns.take 24).map .int)]) (fun _ s=>0≤s.1) (0,none,none) ((ns.take 24).map .int) (Int.le_refl _) (fun _ _ _=>aX) (?_) fun s j=> ?_
 ·apply aP;intro
  generalize bP .. =i,bS .. =s
  intro v j hv
  obtain⟨c,hc,rfl⟩:∃c,(ns.take 24)[i]? =some c∧PV.int c=v:=by rw[List.getElem?_map] at hv;exact Option.map_eq_some_iff.mp hv
  generalize (618033988749894848204586834365638117720309179805762862135449:Int)=B
  refine nxt ?_
  refine lE (fun z:Int=>[some .bG,some (.int s.1),some (.int c),some (.int z)]) (fun _=>H++[.list ((ns.take 24).map .int)]) (fun _=>True) (fun N hN=> ?_) fun z _=> ?_
  ·refine .of (g (by decide)) (.of (fun q=> ?_) fun q=>hN _ trivial)
   have q':(if c<0 then -c else c)<1000000000000000000:=by
    have e:(10:Int) ^ (18:Int).toNat=1000000000000000000:=by decide+kernel
    rw[e] at q;exact q
   have a0:0≤(if c<0 then -c else c):=by split;exact Int.neg_nonneg_of_nonpos (Int.le_of_lt ‹_›);exact Int.not_lt.mp ‹_›
   generalize (if c<0 then -c else c)=a at *
   refine .of (p2 (by decide)) (.of (p2 ?_) (.of (g (by decide)) (.of (by decide+kernel) (hN _ trivial))))
   show(2 * a+1+(if decide (c<0)=true then 1 else 0)).natAbs<2 ^ 64
   split
   ·exact pB (eM (eM (a_im (eE a0 q')) (d6 1)) (d6 1)) rfl rfl
   ·exact pB (eM (eM (a_im (eE a0 q')) (d6 1)) (d6 0)) rfl rfl
  ·refine .of (.inr (by decide)) (.of (g (by decide)) (.of (by decide+kernel) ⟨(_,_,_),rfl,rfl,?_⟩))
   exact(digit_of (by decide+kernel)).1
 ·have e:(H++[aH.list ((ns.take 24).map .int)]).length=H.length+1:=List.length_append
  have k:=k s.1 j
  rw[←e] at k
  exact k
end
theorem aE.wide{M M':List Nat}{H H':aa}(h:∀i∈M,i∈M')(k:aE M H H'):aE M' H H':=⟨k.len,fun i o m e=>k.at_ i o (fun x=>m (h i x)) e⟩
structure Env(M:List Nat)(p T:Nat)(H:aa):Prop where
 low:Low M H
 mem:p∈M
 qu:eT p T H
theorem eT.app{p T:Nat}{H:aa}(J:aa):eT p T H→eT p T (H++J)
 |⟨w,t,g,h⟩=>⟨w,t,(Pre.app J (.refl _)).get g,h⟩
theorem eT.le{p T T':Nat}{H:aa}(h:T≤T'):eT p T H→eT p T' H
 |⟨w,t,g,a,b,c⟩=>⟨w,t,g,a,b,by exact Int.le_trans c (Int.ofNat_le.mpr h)⟩
section
variable {ns:List Int}{n:Nat}{M:List Nat}{p T:Nat}{H:aa}{R:PV→aa→Prop}{E:XK→aa→Prop}
theorem Env.wide{H':aa}(e:Env M p T H)(k:aE [p] H H'):aE M H H':=k.wide fun i m=>by rw[List.mem_singleton.mp m];exact e.mem
theorem Env.le{T':Nat}(e:Env M p T H)(h:T≤T'):Env M p T' H:=⟨e.low,e.mem,e.qu.le h⟩
theorem Env.new(e:Env M p T H)(o:aH):aE [p] H (H++[o])∧Env M p T (H++[o])∧At M (H++[o]) H.length o:=
 ⟨(aE.refl H).app _,⟨e.low.app _,e.mem,e.qu.app _⟩,e.low.new o⟩
theorem At.e{H':aa}{r:Nat}{o:aH}(e:Env M p T H)(k:aE [p] H H')(h:At M H r o):At M H' r o:=h.keep (e.wide k)
theorem dE.e{H':aa}{v:PV}{d:Nd}(e:Env M p T H)(k:aE [p] H H')(h:dE M H v d):dE M H' v d:=h.keep (e.wide k)
theorem dE.alle{H':aa}{vs:List PV}{l:List Nd}(e:Env M p T H)(k:aE [p] H H')(h:bu (dE M H) vs l):bu (dE M H') vs l:=dE.all (e.wide k) h
structure nN(M:List Nat)(H:aa)(r:Nat)(l:List Nd):Prop where
 ex:∃vs,At M H r (.list vs)∧bu (dE M H) vs l
theorem nN.e{H':aa}{r:Nat}{l:List Nd}(e:Env M p T H)(k:aE [p] H H'):nN M H r l→nN M H' r l
 |⟨vs,a,b⟩=>⟨vs,a.e e k,dE.alle e k b⟩
theorem dw(e:Env M p T H)(m:Int)(h0:0<m)(h1:m<1000)(hT:T<10 ^ 15)(k:∀(d:Int) H',0≤d→d<m→aE [p] H H'→Env M p (T+1) H'→R (.int d) H'):Wc (aj (aO ns) (n+1) 748 [.ref p,.int m] H) R E:=
 s748 e.qu h0 h1 hT (oZ fun d H' d0 d1 o eq hp=>by
  subst eq
  have kk:aE [p] H (H.set p (.list o)):=(aE.refl H).set (.inl (List.mem_singleton.mpr rfl))
  exact k d _ d0 d1 kk ⟨e.low.keep (e.wide kk),e.mem,hp⟩)
theorem lp(e:Env M p T H){vs:List PV}{m:Int}{K:PV→aa→Prop}(hm:(vs.length:Int)=m)(h0:0<m)(h1:m<1000)(hT:T<10 ^ 15)(k:∀v∈vs,∀H',aE [p] H H'→Env M p (T+1) H'→K v H'):
  Wc (aj (aO ns) (n+1) 748 [.ref p,.int m] (H++[.list vs])) (fun y H'=>kL H' (.ref H.length) y fun v=>K v H') E:=by
 obtain⟨k0,e0,a0⟩:=e.new (.list vs)
 refine dw e0 m h0 h1 hT fun d H' d0 d1 k1 e1=> ?_
 obtain⟨i,rfl⟩:∃i:Nat,d=(i:Int):=⟨d.toNat,by exact Int.eq_natCast_toNat.mpr d0⟩
 have hd:i<vs.length:=by exact Int.ofNat_lt.mp (hm▸d1)
 exact .of (a0.keep (e0.wide k1)).at_ (.of (fe (List.getElem?_eq_getElem hd) (by exact ar250 (b:=1000) hm h1)) (k _ (List.getElem_mem _) H' (k0.trans k1) e1))
theorem lI{x:Int}(e:Env M p T H)(hd:Dm x)(k:∀r H',aE [p] H H'→Env M p T H'→dE M H' (.ref r) (.box 2 x)→R (.ref r) H'):Wc (cA (aO ns) (aj (aO ns) (n+3)) 279 [.int 2,.int x,.int 0,.int 0,.ref H.length] (H++[.list []])) R E:=by
 obtain⟨k1,e1,-⟩:=e.new (.list [])
 obtain⟨k2,e2,a2⟩:=e1.new (.inst 279 (bfs 2 x 0 0 (.ref H.length)))
 exact m279 (by decide) hd ⟨by decide,by decide⟩ ⟨by decide,by decide⟩ (k _ _ (k1.trans k2) e2 (k_box (.inl rfl) a2))
theorem jS{x s:Int}(e:Env M p T H)(hs:0≤s∧s≤3)(hd:Dm x)(k:∀r H',aE [p] H H'→Env M p T H'→dE M H' (.ref r) (.bF x s)→R (.ref r) H'):Wc (cA (aO ns) (aj (aO ns) (n+3)) 321 [.int x,.int s] H) R E:=by
 obtain⟨k1,e1,a1⟩:=e.new _
 exact m321 hs hd (k _ _ k1 e1 (k_kern a1))
theorem BJ{x:Int}(e:Env M p T H)(hd:Nm x)(k:∀r H',aE [p] H H'→Env M p T H'→dE M H' (.ref r) (.pen x)→R (.ref r) H'):Wc (cA (aO ns) (aj (aO ns) (n+3)) 364 [.int x] H) R E:=by
 obtain⟨k1,e1,a1⟩:=e.new _
 exact m364 hd (k _ _ k1 e1 (k_pen a1))
theorem pj{x:Int}{b:Bool}(e:Env M p T H)(hd:Dm x)(k:∀r H',aE [p] H H'→Env M p T H'→dE M H' (.ref r) (.math b x)→R (.ref r) H'):Wc (cA (aO ns) (aj (aO ns) (n+3)) 469 [.bool b,.int x] H) R E:=by
 obtain⟨k1,e1,a1⟩:=e.new _
 exact m469 hd (k _ _ k1 e1 (k_math a1))
theorem vO{w st so sh bJ:Int}(e:Env M p T H)(hw:Dm w)(iL:Dm st)(hsh:Dm sh)(h1:0≤so∧so≤3)(h2:0≤bJ∧bJ≤3)(k:∀r H',aE [p] H H'→Env M p T H'→At M H' r (.inst 227 (uk w st so sh bJ))→R (.ref r) H'):
  Wc (cA (aO ns) (aj (aO ns) (n+3)) 227 [.int w,.int st,.int so,.int sh,.int bJ] H) R E:=by
 obtain⟨k1,e1,a1⟩:=e.new _
 exact m227 hw iL hsh h1 h2 (k _ _ k1 e1 a1)
theorem vP{s:Int}{g:PV}(e:Env M p T H)(hs:s=0∨(100≤s∧s≤199))(k:∀r H',aE [p] H H'→Env M p T H'→At M H' r (.inst 343 [(14,g),(13,.int s),(15,.none)])→R (.ref r) H'):Wc (cA (aO ns) (aj (aO ns) (n+3)) 343 [g,.int s] H) R E:=by
 obtain⟨k1,e1,a1⟩:=e.new _
 exact m343 hs (k _ _ k1 e1 a1)
theorem Env.row(e:Env M p T H)(vs:List PV)(l:List Nd)(h:bu (dE M H) vs l):aE [p] H (H++[.list vs])∧Env M p T (H++[.list vs])∧nN M (H++[.list vs]) H.length l:=by
 obtain⟨k,e',a⟩:=e.new (.list vs)
 exact⟨k,e',vs,a,dE.alle e k h⟩
def PcQ(size:Int)(l:List Nd):Prop:=(∃c,l=[.box 2 c,.box 2 (size - c)])∨∃c a s,l=[.box 2 c,.bF a s,.box 2 (size - c - a)]
theorem s776{size:Int}(e:Env M p T H)(hs: -1000≤size∧size≤1000)(hT:T<10 ^ 12)(k:∀r l H',nN M H' r l→PcQ size l→aE [p] H H'→Env M p (T+3) H'→R (.ref r) H'):Wc (aj (aO ns) (n+4) 776 [.ref p,.int size] H) R E:=by
 revert ns n M p T H R E size
 apply aT;intro
 generalize bX .. =ns,bY .. =n,bZ .. =M,b7 .. =p,cv .. =T,cw .. =H,cx .. =R,cy .. =E
 apply aJ;intro
 generalize nx .. =size
 intro e hs hT k
 refine aS rfl rfl (dw e 5 (by decide) (by decide) (by exact cB hT rfl) fun c H1 c0 c1 k1 e1=>lp e1 rfl (by decide) (by decide) (by exact bE 1 hT rfl) fun v mv H2 k2 e2=> ?_)
 obtain⟨a,rfl,ha⟩:∃a:Int,v=.int a∧-3≤a∧a≤2:=by
  simp only[List.mem_cons,List.not_mem_nil,or_false] at mv
  rcases mv with rfl|rfl|rfl<;>exact⟨_,rfl,by decide⟩
 refine .of (fun z=> ?_) fun z=> ?_
 ·refine lI e2 (by unfold Dm;exact b8 (eM (d6 1) (eE c0 c1)) rfl rfl) fun r3 H3 k3 e3 a3=>lI e3 (by unfold Dm;exact b8 (jj hs (eM (d6 1) (eE c0 c1))) rfl rfl) fun r4 H4 k4 e4 a4=> ?_
  obtain⟨k5,e5,a5⟩:=e4.row [.ref r3,.ref r4] [.box 2 (1+c),.box 2 (size - (1+c))] ⟨a3.e e3 k4,a4,trivial⟩
  exact k _ _ _ a5 (.inl ⟨_,rfl⟩) (k1.trans (k2.trans (k3.trans (k4.trans k5)))) (e5.le (by exact cO (k:=2) (l:=3) rfl))
 ·refine lI e2 (by unfold Dm;exact b8 (eM (d6 1) (eE c0 c1)) rfl rfl) fun r3 H3 k3 e3 a3=>dw e3 4 (by decide) (by decide) (by exact bE 2 hT rfl) fun s H4 s0 s1 k4 e4=>jS e4 ⟨s0,by exact Int.le_of_lt_add_one s1⟩ (by unfold Dm;exact b8 ha rfl rfl) fun r5 H5 k5 e5 a5=>lI e5 (by unfold Dm;exact b8 (jj (jj hs (eM (d6 1) (eE c0 c1))) ha) rfl rfl) fun r6 H6 k6 e6 a6=> ?_
  obtain⟨k7,e7,a7⟩:=e6.row [.ref r3,.ref r5,.ref r6] [.box 2 (1+c),.bF a s,.box 2 (size - (1+c) - a)] ⟨((a3.e e3 k4).e e4 k5).e e5 k6,a5.e e5 k6,a6,trivial⟩
  exact k _ _ _ a7 (.inr ⟨_,_,_,rfl⟩) (k1.trans (k2.trans (k3.trans (k4.trans (k5.trans (k6.trans k7)))))) e7
theorem qv{call:Nat→List PV→aa→RP}(hc:call=aj (aO ns) (n+3))(e:Env M p T H)(k:∀r H',aE [p] H H'→Env M p T H'→At M H' r (.inst 227 (uk 0 0 0 0 0))→R (.ref r) H'):
  Wc (cA (aO ns) call 227 [] H) R E:=by
 subst hc
 have z:Dm 0:=⟨by decide,by decide⟩
 obtain⟨k1,e1,a1⟩:=e.new (.inst 227 (uk 0 0 0 0 0))
 exact make rfl (o5 rfl rfl (ky (by decide) (by decide) (ky (by decide) (by decide) (dF z (aB (dF z (aB (.pos rfl (aB (dF z (aB (.pos rfl (aB (k _ _ k1 e1 a1))))))))))))))
theorem s783(e:Env M p T H)(hT:T<10 ^ 12)(k:∀r c H',dE M H' (.ref r) (.iU c)→aE [p] H H'→Env M p (T+1) H'→R (.ref r) H'):Wc (aj (aO ns) (n+4) 783 [.ref p] H) R E:=by
 revert ns n M p T H R E
 apply aT;intro
 generalize bX .. =ns,bY .. =n,bZ .. =M,b7 .. =p,cv .. =T,cw .. =H,cx .. =R,cy .. =E
 intro e hT k
 refine aS rfl rfl (dw e 4 (by decide) (by decide) (by exact cB hT rfl) fun c H1 c0 c1 k1 e1=>.of (fun _=> ?_) fun _=>.of (fun _=> ?_) fun _=>.of (fun _=> ?_) fun _=> ?_)
 ·obtain⟨k2,e2,a2⟩:=e1.new (.list [.tup [.int 11,.int 65]])
  obtain⟨k3,e3,a3⟩:=e2.new _
  exact m406 a2.at_ (by decide:1<1000) (k _ _ _ (k_mark a3) (k1.trans (k2.trans k3)) e3)
 ·obtain⟨k2,e2,a2⟩:=e1.new (.list [.int 65,.int 66])
  obtain⟨k3,e3,a3⟩:=e2.new _
  exact m490 a2.at_ (k _ _ _ (yE a3) (k1.trans (k2.trans k3)) e3)
 ·refine qv rfl e1 fun r2 H2 k2 e2 a2=>BJ e2 ⟨by decide,by decide⟩ fun r3 H3 k3 e3 a3=> ?_
  obtain⟨k4,e4,a4⟩:=e3.new (.list [.ref r3])
  obtain⟨k5,e5,a5⟩:=e4.new _
  exact m427 (by decide) ⟨by decide,by decide⟩ ⟨by decide,by decide⟩ ⟨by decide,by decide⟩ (k _ _ _ (BD a5) (k1.trans (k2.trans (k3.trans (k4.trans k5)))) e5)
 ·refine jS e1 (by decide) ⟨by decide,by decide⟩ fun r2 H2 k2 e2 a2=> ?_
  obtain⟨k4,e4,a4⟩:=e2.new (.list [.ref r2])
  obtain⟨k5,e5,a5⟩:=e4.new _
  exact m448 (k _ _ _ (BG a5) (k1.trans (k2.trans (k4.trans k5))) e5)
end
structure Told(M:List Nat)(p t a b m T:Nat)(H:aa)(A B:List Nd)(mv:List Int):Prop where
 env:Env M p T H
 told:At M H t (.d9 [(62,.ref a),(61,.ref b),(60,.ref m)])
 mem:a∈M∧b∈M∧m∈M
 ne:p≠a∧p≠b∧p≠m∧a≠b∧a≠m∧b≠m
 fa:∃vs,H[a]? =some (.list vs)∧bu (dE M H) vs A
 fb:∃vs,H[b]? =some (.list vs)∧bu (dE M H) vs B
 fm:H[m]? =some (.list (mv.map .int))
 la:A.length≤T
 lb:B.length≤4 * A.length
 lm:mv.length=A.length
section
variable {ns:List Int}{n:Nat}{M:List Nat}{p t a b m T:Nat}{H:aa}{A B:List Nd}{mv:List Int}
theorem gp{H':aa}{i:Nat}{o:aH}(k:aE [p] H H')(h:p≠i)(e:H[i]? =some o):H'[i]? =some o:=k.at_ i o (fun x=>h (List.mem_singleton.mp x).symm) e
theorem Told.e{H':aa}{T':Nat}(h:Told M p t a b m T H A B mv)(k:aE [p] H H')(e:Env M p T' H')(l:T≤T'):Told M p t a b m T' H' A B mv:=by
 obtain⟨va,a1,a2⟩:=h.fa
 obtain⟨vb,b1,b2⟩:=h.fb
 exact⟨e,h.told.e h.env k,h.mem,h.ne,⟨va,gp k h.ne.1 a1,dE.alle h.env k a2⟩,⟨vb,gp k h.ne.2.1 b1,dE.alle h.env k b2⟩,gp k h.ne.2.2.1 h.fm,Nat.le_trans h.la l,h.lb,h.lm⟩
theorem Told.le{T':Nat}(h:Told M p t a b m T H A B mv)(l:T≤T'):Told M p t a b m T' H A B mv:=h.e (.refl H) (h.env.le l) l
variable {R:PV→aa→Prop}{E:XK→aa→Prop}
theorem Cd{t k:Nat}{es:List (Nat×PV)}{v:PV}(h:H[t]? =some (.d9 es))(e:bB k es=some v):lO H (.ref t) k=some v:=by
 unfold lO
 simp only[h]
 exact e
theorem su{v:PV}{d:Nd}{r:Nat}{l:List Nd}{back:Int}(h:Told M p t a b m T H A B mv)(hd:dE M H v d)(hr:nN M H r l)(hl:l.length≤4)(hT:T<10000)
  (k:∀H',Told M p t a b m (T+1) H' (A++[d]) (B++l) (mv++[(B.length:Int)+back])→aE M H H'→R .none H'):Wc (aj (aO ns) (n+1) 769 [.ref t,v,.ref r,.int back] H) R E:=by
 revert ns n M p t a b m T H A B mv R E v d r l back
 apply aT;intro
 generalize bX .. =ns,bY .. =n,bZ .. =M,b7 .. =p,cv .. =t,cw .. =a,cx .. =b,cy .. =m
 apply aT;intro
 generalize bX .. =T,bY .. =H,bZ .. =A,b7 .. =B,cv .. =mv,cw .. =R,cx .. =E,cy .. =v
 apply aN;intro
 generalize bM .. =d,bN .. =r,bQ .. =l,bR .. =back
 intro h hd hr hl hT k
 obtain⟨va,a1,a2⟩:=h.fa
 obtain⟨vb,b1,b2⟩:=h.fb
 obtain⟨vr,r1,r2⟩:=hr
 obtain⟨n1,n2,n3,n4,n5,n6⟩:=h.ne
 obtain⟨m1,m2,m3⟩:=h.mem
 have ht:=h.told.at_
 have rm:b≠r:=fun x=>r1.nK (x▸m2)
 have la:=h.la
 have lb:=h.lb
 have rZ:va.length<100000:=by have:=a2.length;exact Cj hT la this rfl
 have hvb:vb.length<100000:=by have:=b2.length;exact ar261 hT la lb this
 have hmv:(mv.map PV.int).length<100000:=by have:=h.lm;rw[List.length_map];exact Cj hT la this rfl
 have hvr:b≠r∧vb.length+vr.length<100000:=⟨rm,by have:=r2.length;have:=b2.length;exact ar262 hl hT la lb ‹_› ‹_›⟩
 have fin:∀H1 H2 H3,H1=H.set m (.list (mv.map .int++[.int (vb.length+back)]))→H2=H1.set a (.list (va++[v]))→H3=H2.set b (.list (vb++vr))→
   (aE M H H1∧H1[a]? =some (.list va))∧(aE M H H2∧H2[b]? =some (.list vb))∧R .none H3:=by
  intro H1 H2 H3 e1 e2 e3
  have k1:aE M H H1:=e1▸(aE.refl H).set (.inl m3)
  have a1':H1[a]? =some (.list va):=by rw[e1,bz (Ne.symm n5)];exact a1
  have k2:aE M H H2:=e2▸k1.set (.inl m1)
  have b1':H2[b]? =some (.list vb):=by rw[e2,bz n4,e1,bz (Ne.symm n6)];exact b1
  have kk:aE M H H3:=e3▸k2.set (.inl m2)
  have hp:eT p T H3:=by
   obtain⟨w,x,g,q⟩:=h.env.qu
   refine⟨w,x,?_,q⟩
   rw[e3,bz (Ne.symm n2),e2,bz (Ne.symm n1),e1,bz (Ne.symm n3)];exact g
  refine⟨⟨k1,a1'⟩,⟨k2,b1'⟩,k H3 ⟨⟨h.env.low.keep kk,h.env.mem,hp.le (Nat.le_succ _)⟩,h.told.keep kk,h.mem,h.ne,⟨va++[v],?_,(dE.all kk a2).append ⟨hd.keep kk,trivial⟩⟩,⟨vb++vr,by rw[e3];exact getset b1',(dE.all kk b2).append (dE.all kk r2)⟩,?_,?_,?_,?_⟩ kk⟩
  ·rw[e3,bz (Ne.symm n4),e2];exact getset a1'
  ·rw[e3,bz n6,e2,bz n5,e1,getset h.fm,List.map_append,b2.length];rfl
  ·rw[List.length_append];exact Nat.succ_le_succ la
  ·rw[List.length_append,List.length_append,List.length_singleton];exact Nat.add_le_add lb hl
  ·rw[List.length_append,List.length_append,h.lm];rfl
 obtain⟨⟨k1,f1⟩,⟨k2,f2⟩,f3⟩:=fin _ _ _ rfl rfl rfl
 have t1:=k1.at_ _ _ h.told.nK ht
 have t2:=k2.at_ _ _ h.told.nK ht
 exact aS rfl rfl (.of (Cd ht rfl) (.of h.fm (.of (Cd ht rfl) (.of b1 (.of hvb (.of h.fm (.of hmv (.of (Cd t1 rfl) (.of f1 (.of f1 (.of rZ (.of (Cd t2 rfl) (.of f2 (.of f2 (.of (k2.at_ _ _ r1.nK r1.at_) (.of hvr f3))))))))))))))))
end
def sv(M:List Nat)(H:aa)(v:PV)(S:bp):Prop:=∀H',aE M H H'→fU H' v S
theorem sv.keep{M:List Nat}{H H':aa}{v:PV}{S:bp}(k:aE M H H')(h:sv M H v S):sv M H' v S:=fun nV k'=>h nV (k.trans k')
def uJ(S:bp)(w:Int)(outer:Bool)(l:List Nd):Prop:=∃c ld c0 d,l=bA ld++c++ar ld∧fY S w c∧c=c0++[d]∧d.kind≠12∧(outer=false→ld=false)∧l.length≤4
theorem uJ.of{S:bp}{w:Int}{outer:Bool}{c c0:List Nd}{d:Nd}(h:fY S w c)(e:c=c0++[d])(hd:d.kind≠12)(hl:c.length≤4):uJ S w outer c:=
 ⟨c,false,c0,d,by simp[bA,ar],h,e,hd,fun _=>rfl,hl⟩
theorem PcQ.box{S:bp}{w:Int}{outer:Bool}{l:List Nd}:PcQ w l→uJ S w outer l
 |.inl ⟨c,e⟩=>by subst e;exact .of (q_two 2 c) (c0:=[.box 2 c]) rfl (kn rfl) (by simp)
 |.inr ⟨c,a,s,e⟩=>by subst e;exact .of (BA 2 c a s) (c0:=[.box 2 c,.bF a s]) rfl (kn rfl) (by simp)
theorem iA{M:List Nat}{H:aa}{v:PV}{w:Int}(h:dE M H v (.box 2 w)):ShK M H v w:=fun H' k=>let⟨_,a,b⟩:=h H' k;⟨2,.inl rfl,a,b⟩
theorem yF{M:List Nat}{H:aa}{v:PV}{w s:Int}(h:dE M H v (.bF w s)):ShK M H v w:=fun H' k=>let⟨a,b,_⟩:=h H' k;⟨5,.inr rfl,a,b⟩
section
variable {R:PV→aa→Prop}{E:XK→aa→Prop}{ns:List Int}{n:Nat}{M:List Nat}{p t a b m T:Nat}{H:aa}{A B:List Nd}{mv:List Int}{S:bp}{st:PV}
theorem BK(e:Env M p T H):aE [p] H (H++[.list []])∧Env M p T (H++[.list []])∧kH M (H++[.list []]) (.ref H.length) []:=by
 obtain⟨k,e',a⟩:=e.new (.list [])
 exact⟨k,e',kH.of a (by simp) trivial⟩
theorem BL{v:PV}{w:Int}(e:Env M p T H)(h:dE M H v (.box 2 w)):aE [p] H (H++[.list [v]])∧Env M p T (H++[.list [v]])∧kH M (H++[.list [v]]) (.ref H.length) [w]:=by
 obtain⟨k,e',a⟩:=e.new (.list [v])
 exact⟨k,e',kH.of a (by simp) ⟨(iA h).keep (e.wide k),trivial⟩⟩
theorem kH.e{H':aa}{v:PV}{ws:List Int}(e:Env M p T H)(k:aE [p] H H')(h:kH M H v ws):kH M H' v ws:=h.keep (e.wide k)
theorem BM{x y z:Nat}{P q mm:List Int}(e:Env M p T H)(hx:kH M H (.ref x) P)(hy:kH M H (.ref y) q)(hz:kH M H (.ref z) mm)(k:∀r H',aE [p] H H'→Env M p T H'→dE M H' (.ref r) (.bL P q mm)→R (.ref r) H'):
  Wc (cA (aO ns) (aj (aO ns) (n+2)) 385 [.ref x,.ref y,.ref z] H) R E:=by
 obtain⟨k2,e2,a2⟩:=e.new _
 exact m385 (hx H (.refl _)) (hy H (.refl _)) (hz H (.refl _)) (k _ _ k2 e2 (k_disc a2 (hx.e e k2) (hy.e e k2) (hz.e e k2)))
theorem Env.set{r:Nat}{o:aH}(e:Env M p T H)(h:r∉M):Env M p T (H.set r o):=by
 refine⟨fun i m=>by rw[List.length_set];exact e.low i m,e.mem,?_⟩
 obtain⟨w,t,g,q⟩:=e.qu
 have hr:r≠p:=fun x=>h (x▸e.mem)
 exact⟨w,t,by rw[bz hr];exact g,q⟩
theorem Env.more{r:Nat}(e:Env M p T H)(h:r<H.length):Env (r::M) p T H:=
 ⟨fun i m=>by rcases List.mem_cons.mp m with q|q;(rw[q];exact h);exact e.low i q,List.mem_cons_of_mem _ e.mem,e.qu⟩
theorem Env.less{r:Nat}(e:Env (r::M) p T H)(h:p∈M):Env M p T H:=⟨fun i m=>e.low i (List.mem_cons_of_mem _ m),h,e.qu⟩
theorem dE.less{r:Nat}{v:PV}{d:Nd}(h:dE (r::M) H v d):dE M H v d:=fun H' k=>h H' (k.wide fun _ x=>List.mem_cons_of_mem _ x)
theorem dE.setm{r:Nat}{o:aH}{v:PV}{d:Nd}(h:dE (r::M) H v d):dE M (H.set r o) v d:=(h.keep ((aE.refl H).set (.inl (List.mem_cons_self ..)))).less
theorem k_box'{r:Nat}{w h d x:Int}{k:Int}{v:PV}(hk:k=2∨k=3)(a:At M H r (.inst 279 [(5,.int k),(0,.int w),(6,.int h),(7,.int d),(8,v),(9,.int x),(10,.int 0),(11,.int 0),(12,.tup [.int 0,.int 1])])):dE M H (.ref r) (.box k w):=
 .of a fun _ g=>⟨hk,aA g rfl rfl,aA g rfl rfl⟩
end
noncomputable def pq:IS→cp
 |.ite _ _ b=>b
 |_=>.nil
theorem WP.andb{a A B:Prop}{b:Bool}(h:a→b=true→A)(g:¬(a∧b=true)→B):WP a (wb b A B) B:=.of (fun x=>yN (h x) fun y=>g fun z=>by rw[y] at z;cases z.2) fun x=>g fun z=>x z.1
theorem eK{H:aa}{x c n:Nat}{fs:List (Nat×PV)}{v:PV}{ns:List Int}(h:H[x]? =some (.inst c fs))(hb:dQ.contains (c,n)=false)(hf:fs.length<100):dX (aO ns) H (.ref x) n v=some (H.set x (.inst c (putN n v fs))):=by
 unfold dX
 simp only[h]
 rw[show(aO ns).bad=dQ from rfl,hb,if_neg (by decide),if_pos hf]
structure BxS where
 r:Nat
 l:List Nd
 H:aa
 y:Option PV
instance:Nonempty BxS:=⟨⟨0,[],[],none⟩⟩
structure BxJ(M:List Nat)(p T:Nat)(S:bp)(w:Int)(outer:Bool)(H:aa)(s:BxS):Prop where
 row:nN M s.H s.r s.l
 ok:uJ S w outer s.l
 keep:aE [p] H s.H
 env:Env M p (T+9) s.H
noncomputable def D790:cp:=iT (thenS (fc (pq (fc (pq (fc (pq (fc (pq (fc (pq (fc (pq (fc b790 3)) 0)) 0)) 0)) 0)) 0)) 0)) 1
section
variable {R:PV→aa→Prop}{ns:List Int}{n:Nat}{M:List Nat}{p t a b m T:Nat}{H:aa}{A B:List Nd}{mv:List Int}{S:bp}{st:PV}{w s:Int}{outer:Bool}{r:Nat}
noncomputable def bxL(p t:Nat)(st:PV)(outer:Bool)(w s:Int)(r:Nat)(z:BxS):Loc:=[some (.ref p),some (.ref t),some st,some (.bool outer),some (.int w),some (.int s),some (.ref r),some (.ref z.r),z.y]
theorem vQ{Q:QL}{E:EL}{H4:aa}{x q:Nat}{P:List Int}(hN:∀z,BxJ M p T S w outer H z→Q .next (bxL p t st outer w s r z) z.H)(hw: -1000≤w∧w≤1000)(hx:kH M H4 (.ref x) P)(k4:aE [p] H H4)(e4:Env M p (T+2) H4)(hc:10000≤costOf S P):
  wSs (aO ns) (aj (aO ns) (n+4)) D790 (bxL p t st outer w s r ⟨q,[],H4,some (.ref x)⟩) H4 Q E:=by
 revert ns n M p t T H S st w s outer r Q E H4 x q P
 apply aT;intro
 generalize bX .. =ns,bY .. =n,bZ .. =M,b7 .. =p,cv .. =t,cw .. =T,cx .. =H,cy .. =S
 apply aT;intro
 generalize bX .. =st,bY .. =w,bZ .. =s,b7 .. =outer,cv .. =r,cw .. =Q,cx .. =E,cy .. =H4
 apply aP;intro
 generalize bP .. =x,bS .. =q
 apply aJ;intro
 generalize nx .. =P
 intro hN hw hx k4 e4 hc
 refine lI e4 ⟨by decide,by decide⟩ fun r6 H6 k6 e6 a6=>lI e6 ⟨by decide,by decide⟩ fun r7 H7 k7 e7 a7=> ?_
 obtain⟨k8,e8,t8⟩:=BL e7 a7
 obtain⟨k9,e9,t9⟩:=BK e8
 refine BM e9 ((((hx.e e4 k6).e e6 k7).e e7 k8).e e8 k9) (t8.e e8 k9) t9 fun r10 H10 lJ sE A3=>lI sE (by unfold Dm;exact b8 (jj hw (d6 5)) rfl rfl) fun r11 Ce qw e11 a11=> ?_
 obtain⟨jN,uK,sH⟩:=e11.row [.ref r6,.ref r10,.ref r11] [.box 2 5,.bL P [1] [],.box 2 (w - 5)] ⟨(((((a6.e e6 k7).e e7 k8).e e8 k9).e e9 lJ).e sE qw),A3.e sE qw,a11,trivial⟩
 exact hN ⟨_,_,_,_⟩ ⟨sH,.of (q_disc 2 5 P [1] hc) (c0:=[.box 2 5,.bL P [1] []]) rfl (by simp[Nd.kind]) (by simp),k4.trans (k6.trans (k7.trans (k8.trans (k9.trans (lJ.trans (qw.trans jN)))))),uK.le (by exact cO (k:=2) (l:=9) rfl)⟩
theorem BN{N:Loc→aa→Prop}{Q:QL}{E:EL}(hN:∀z,BxJ M p T S w outer H z→N (bxL p t st outer w s r z) z.H)(hw: -1000≤w∧w≤1000)(e:Env M p (T+2) H)(hT:T<5000)(a3:dE M H (.ref r) (.box 2 w))(hS:sv M H st S):
  wS (aO ns) (aj (aO ns) (n+4)) (fc b790 3) (bxL p t st outer w s r ⟨H.length,[],H,none⟩) (H++[.list [.ref r]]) (mj Q N) E:=by
 revert ns n M p t T H S st w s outer r N Q E
 apply aT;intro
 generalize bX .. =ns,bY .. =n,bZ .. =M,b7 .. =p,cv .. =t,cw .. =T,cx .. =H,cy .. =S
 apply aT;intro
 generalize bX .. =st,bY .. =w,bZ .. =s,b7 .. =outer,cv .. =r,cw .. =N,cx .. =Q,cy .. =E
 intro hN hw e hT a3 hS
 obtain⟨k4,e4,a4⟩:=e.new (.list [.ref r])
 have b4:=a3.e e k4
 refine .of (fun z=> ?_) fun _=>.of (fun z=> ?_) fun _=>.of (fun z=> ?_) fun _=>.of (fun z=> ?_) fun _=>.of (fun z=> ?_) fun _=>.andb (fun z ho=> ?_) fun _=> ?_
 ·exact s776 e4 hw (by exact bE 2 hT rfl) fun r5 l H5 r5' q k5 e5=>hN ⟨_,_,_,_⟩ ⟨r5',q.box,k4.trans k5,e5.le (by exact cO (k:=5) (l:=9) rfl)⟩
 ·refine lI e4 ⟨by decide,by decide⟩ fun r5 H5 k5 e5 a5=>dw e5 3 (by decide) (by decide) (by exact bE 2 hT rfl) fun d H6 d0 d1 k6 e6=>BJ e6 (by unfold Nm;exact b8 (eM (d6 10000) (eE d0 d1)) rfl rfl) fun r7 H7 k7 e7 a7=>lI e7 (by unfold Dm;exact b8 (jj hw (d6 3)) rfl rfl) fun r8 H8 k8 e8 a8=> ?_
  obtain⟨k9,e9,a9⟩:=e8.row [.ref r5,.ref r7,.ref r8] [.box 2 3,.pen (10000+d),.box 2 (w - 3)] ⟨((a5.e e5 k6).e e6 k7).e e7 k8,a7.e e7 k8,a8,trivial⟩
  exact hN ⟨_,_,_,_⟩ ⟨a9,.of (q_pen 2 3 (10000+d) (by exact Int.le_add_of_nonneg_right d0)) (c0:=[.box 2 3,.pen (10000+d)]) rfl (by simp[Nd.kind]) (by simp),k4.trans (k5.trans (k6.trans (k7.trans (k8.trans k9)))),e9.le (by exact cO (k:=3) (l:=9) rfl)⟩
 ·have hn:H.length<(H++[aH.list [PV.ref r]]).length:=by rw[List.length_append];exact Nat.lt_succ_self _
  refine .of a4.at_ (dw (e4.more hn) 2 (by decide) (by decide) (by exact bE 2 hT rfl) fun d H5 d0 d1 k5 e5=>s783 e5 (by exact bE 3 hT rfl) fun r6 kk6 H6 a6 k6 e6=> ?_)
  have g6:=((a4.e e4 k5).e (e5.less e.mem) k6).at_
  refine .of g6 (.of ⟨d0,by show d≤1;exact Int.le_of_lt_add_one d1,(by decide:1<1000)⟩ ?_)
  have K:∀o,aE [p] H (H6.set H.length o):=fun o=>(k4.trans (k5.trans k6)).set (.inr (Nat.le_refl _))
  have E6:∀o,Env M p (T+9) (H6.set H.length o):=fun o=>((e6.less e.mem).set a4.nK).le (by exact cO (k:=4) (l:=9) rfl)
  have c:d=0∨d=1:=by exact ar276 d0 d1
  rcases c with rfl|rfl
  ·exact hN ⟨_,[.iU kk6,.box 2 w],_,_⟩ ⟨⟨[.ref r6,.ref r],⟨getset g6,a4.nK⟩,a6.setm,a3.e e (K _),trivial⟩,.of (q_oth1 2 kk6) (c0:=[.iU kk6]) rfl (by simp[Nd.kind]) (by simp),K _,E6 _⟩
  ·have hk:(Nd.iU kk6).kind≠12:=by
    have:=(a6 H6 (.refl _)).1
    show kk6≠12
    exact qC (P:=fun x=>x≠12) [9,10,11,13] rfl this
   exact hN ⟨_,[.box 2 w,.iU kk6],_,_⟩ ⟨⟨[.ref r,.ref r6],⟨getset g6,a4.nK⟩,a3.e e (K _),a6.setm,trivial⟩,.of (q_oth2 2 kk6) (c0:=[.box 2 w]) rfl hk (by simp),K _,E6 _⟩
 ·refine lp e4 rfl (by decide) (by decide) (by exact bE 2 hT rfl) fun v mv H5 k5 e5=> ?_
  have hv:Dv v:=by
   rcases List.mem_cons.mp mv with q|q
   ·exact .inl q
   ·exact .inr ⟨3,List.mem_singleton.mp q,by decide,by decide⟩
  obtain⟨k6,e6,a6⟩:=e5.new (.inst 300 [(0,.int w),(6,.none),(7,v)])
  obtain⟨k7,e7,a7⟩:=e6.row [.ref H5.length] [.rule w] ⟨k_rule a6,trivial⟩
  exact m300 (.inr ⟨w,rfl,by unfold Dm;exact b8 hw rfl rfl⟩) (.inl rfl) hv (hN ⟨_,_,_,_⟩ ⟨a7,.of q_rule (c0:=[]) rfl (by simp[Nd.kind]) (by simp),k4.trans (k5.trans (k6.trans k7)),e7.le (by exact cO (k:=3) (l:=9) rfl)⟩)
 ·refine jS e4 (by decide) ⟨by decide,by decide⟩ fun r5 H5 k5 e5 a5=> ?_
  obtain⟨k6,e6,a6⟩:=e5.new (.list [.ref r5])
  obtain⟨k7,e7,a7⟩:=e6.new (.inst 279 (bfs 3 w 7 3 (.ref H5.length)))
  have lo:H.length≤(H5++[aH.list [.ref r5]]).length:=Nat.le_trans k4.len (Nat.le_trans k5.len k6.len)
  refine m279 (by decide) (by unfold Dm;exact b8 hw rfl rfl) ⟨by decide,by decide⟩ ⟨by decide,by decide⟩ ?_
  generalize (H5++[aH.list [.ref r5]]).length=x at *
  generalize H5++[aH.list [.ref r5]]++[aH.inst 279 (bfs 3 w 7 3 (.ref H5.length))]=H7 at *
  obtain⟨k8,e8,a8⟩:=e7.new (.list [.ref x])
  have a9:=(a7.e e7 k8).at_
  have hx:H7.length≠x:=(Nat.ne_of_lt (List.getElem?_eq_some_iff.mp a7.at_).1).symm
  have K9:∀o,aE [x] (H7++[aH.list [.ref x]]) ((H7++[aH.list [.ref x]]).set x o):=fun o=>(aE.refl _).set (.inl (List.mem_singleton.mpr rfl))
  exact .of a8.at_ (.of rfl (.of (eK a9 rfl (by decide:9<100)) (hN ⟨_,[.box 3 w],_,_⟩ ⟨⟨[.ref x],⟨(K9 _).at_ _ _ (fun q=>hx (List.mem_singleton.mp q)) a8.at_,a8.nK⟩,k_box' (.inr rfl) ⟨getset a9,a7.nK⟩,trivial⟩,.of (nH 3) (c0:=[]) rfl (by simp[Nd.kind]) (by simp),(k4.trans (k5.trans (k6.trans (k7.trans k8)))).set (.inr lo),(e8.set a7.nK).le (by exact cO (k:=2) (l:=9) rfl)⟩)))
 ·refine pj e4 ⟨by decide,by decide⟩ fun r5 H5 k5 e5 a5=>pj e5 ⟨by decide,by decide⟩ fun r6 H6 k6 e6 a6=> ?_
  obtain⟨k7,e7,a7⟩:=e6.row [.ref r5,.ref r,.ref r6] [.math true 0,.box 2 w,.math false 0] ⟨a5.e e5 k6,(b4.e e4 k5).e e5 k6,a6,trivial⟩
  exact hN ⟨_,_,_,_⟩ ⟨a7,⟨[.box 2 w],true,[],.box 2 w,rfl,nH 2,rfl,by simp[Nd.kind],fun q=>(by rw[ho] at q;cases q),by simp⟩,k4.trans (k5.trans (k6.trans k7)),e7.le (by exact cO (k:=2) (l:=9) rfl)⟩
 ·have S4:=hS.keep (e.wide k4)
  have s37:=(S4 _ (.refl _)).bT ns
  have s38:=(S4 _ (.refl _)).ex ns
  have fin:N (bxL p t st outer w s r ⟨H.length,[.box 2 w],H++[.list [.ref r]],none⟩) (H++[.list [.ref r]]):=hN ⟨_,_,_,_⟩ ⟨⟨_,a4,b4,trivial⟩,.of (nH 2) (c0:=[]) rfl (by simp[Nd.kind]) (by simp),k4,e4.le (by exact cO (k:=2) (l:=9) rfl)⟩
  refine .of (fun z8=>.of s37 (.of s38 (.of (fun q=>.of s37 (.of (fun h=> ?_) fun h=> ?_)) fun _=>fin))) fun _=>fin
  ·refine lI e4 ⟨by decide,by decide⟩ fun r5 H5 k5 e5 a5=> ?_
   obtain⟨k6,e6,t6⟩:=BL e5 a5
   exact vQ hN hw t6 (k4.trans (k5.trans k6)) e6 h
  ·obtain⟨k6,e6,t6⟩:=BK e4
   refine vQ hN hw t6 (k4.trans k6) e6 ?_
   show 10000≤S.ex
   split at q<;>lia
theorem s790{E:XK→aa→Prop}(h:Told M p t a b m T H A B mv)(hS:sv M H st S)(hT:T<5000)
  (k:∀w l H',uJ S w outer l→Told M p t a b m (T+10) H' (A++[.box 2 w]) (B++l) (mv++[(B.length:Int)+0])→aE M H H'→R .none H'):Wc (aj (aO ns) (n+5) 790 [.ref p,.ref t,st,.bool outer] H) R E:=by
 refine aS rfl rfl (dw h.env 25 (by decide) (by decide) (by exact cB hT rfl) fun c H1 c0 c1 k1 e1=>dw e1 10 (by decide) (by decide) (by exact bE 1 hT rfl) fun s H2 s0 s1 k2 e2=>lI e2 (by unfold Dm;exact b8 (eM (d6 8) (eE c0 c1)) rfl rfl) fun r H3 k3 e3 a3=> ?_)
 have K:=k1.trans (k2.trans k3)
 have h3:=h.e K e3 (by exact Nat.le_add_right _ 2)
 have S3:=hS.keep (h.env.wide K)
 refine nxt ?_
 refine lE (bxL p t st outer (8+c) s r) (fun z=>z.H) (BxJ M p T S (8+c) outer H3) (fun N hN=>BN hN (by exact b8 (eM (d6 8) (eE c0 c1)) rfl rfl) e3 hT a3 S3) fun z j=> ?_
 have h4:=h3.e j.keep j.env (by exact cO (k:=2) (l:=9) rfl)
 exact su h4 (a3.e e3 j.keep) j.row j.ok.choose_spec.choose_spec.choose_spec.choose_spec.2.2.2.2.2 (by exact bE 9 hT rfl) fun H5 h5 k5=>k _ _ _ j.ok h5 ((h.env.wide K).trans ((e3.wide j.keep).trans k5))
end
structure eY(w st so sh bJ:Int):Prop where
 w: -10≤w∧w≤10
 st:0≤st∧st≤10
 so:0≤so∧so≤3
 sh:0≤sh∧sh≤10
 bJ:0≤bJ∧bJ≤3
def BO(x y:Int):Prop:=(10000≤x∧10000≤y)∨(x<10000∧y<10000∧er x=er y)
section
variable {R:PV→aa→Prop}{E:XK→aa→Prop}{ns:List Int}{n:Nat}{M:List Nat}{p t a b m T:Nat}{H:aa}{A B:List Nd}{mv:List Int}{S:bp}{st:PV}
theorem iW(ms:List Int)(e:Env M p T H){m:Int}{K:PV→aa→Prop}(hm:(ms.length:Int)=m)(h0:0<m)(h1:m<1000)(hT:T<10 ^ 15)(k:∀x∈ms,∀H',aE [p] H H'→Env M p (T+1) H'→K (.int x) H'):
  Wc (aj (aO ns) (n+1) 748 [.ref p,.int m] (H++[.list (ms.map .int)])) (fun y H'=>kL H' (.ref H.length) y fun v=>K v H') E:=
 lp e (by rw[List.length_map];exact hm) h0 h1 hT fun v mv H' k' e'=>by
  obtain⟨x,mx,rfl⟩:=List.mem_map.mp mv
  exact k x mx H' k' e'
theorem s804(e:Env M p T H)(hT:T<10 ^ 12)(k:∀r w st so sh bJ H',At M H' r (.inst 227 (uk w st so sh bJ))→eY w st so sh bJ→aE [p] H H'→Env M p (T+5) H'→R (.ref r) H'):Wc (aj (aO ns) (n+4) 804 [.ref p] H) R E:=by
 revert R E ns n M p T H
 apply aT;intro
 generalize bX .. =R,bY .. =E,bZ .. =ns,b7 .. =n,cv .. =M,cw .. =p,cx .. =T,cy .. =H
 intro e hT k
 refine aS rfl rfl (iW [4,5,6,7,-2] e rfl (by decide) (by decide) (by exact cB hT rfl) fun w mw H1 k1 e1=>dw e1 7 (by decide) (by decide) (by exact bE 1 hT rfl) fun s H2 s0 s1 k2 e2=>iW [0,0,0,0,0,1,2] e2 rfl (by decide) (by decide) (by exact bE 2 hT rfl) fun o mo H3 k3 e3=>
  iW [0,1,2,3,8] e3 rfl (by decide) (by decide) (by exact bE 3 hT rfl) fun x mx H4 k4 e4=>dw e4 25 (by decide) (by decide) (by exact bE 4 hT rfl) fun y H5 y0 y1 k5 e5=> ?_)
 have q1:=(by decide:∀w∈[4,5,6,7,-2],-10≤w∧w≤(10:Int)) w mw
 have q2:0≤1+s∧1+s≤10:=⟨Int.add_nonneg (by decide) s0,Int.add_le_add (by decide:(1:Int)≤3) (Int.le_of_lt s1)⟩
 have q3:=(by decide:∀w∈[0,0,0,0,0,1,2],0≤w∧w≤(3:Int)) o mo
 have q4:=(by decide:∀w∈[0,1,2,3,8],0≤w∧w≤(10:Int)) x mx
 have q5:0≤(if decide (y=7)=true then(1:Int) else 0)∧(if decide (y=7)=true then(1:Int) else 0)≤3:=by split<;>exact⟨by decide,by decide⟩
 have dm:∀{x:Int},-10≤x∧x≤10→Dm x:=fun h=>by unfold Dm;exact b8 h rfl rfl
 exact vO e5 (dm q1) (dm ⟨Int.le_trans (by decide) q2.1,q2.2⟩) (dm ⟨Int.le_trans (by decide) q4.1,q4.2⟩) q3 q5 fun r H6 k6 e6 a6=>k _ _ _ _ _ _ _ a6 ⟨q1,q2,q3,q4,q5⟩ (k1.trans (k2.trans (k3.trans (k4.trans (k5.trans k6))))) e6
theorem s811{x:Int}(h:Told M p t a b m T H A B mv)(hx: -10000≤x∧x≤10000)(hT:T<5000)(k:∀y H',BO x y→Told M p t a b m (T+2) H' (A++[.pen x]) (B++[.pen y]) (mv++[(B.length:Int)+0])→aE M H H'→R .none H'):
  Wc (aj (aO ns) (n+5) 811 [.ref p,.ref t,.int x] H) R E:=by
 revert R E ns n M p t a b m T H A B mv x
 apply aT;intro
 generalize bX .. =R,bY .. =E,bZ .. =ns,b7 .. =n,cv .. =M,cw .. =p,cx .. =t,cy .. =a
 apply aT;intro
 generalize bX .. =b,bY .. =m,bZ .. =T,b7 .. =H,cv .. =A,cw .. =B,cx .. =mv,cy .. =x
 intro h hx hT k
 refine aS rfl rfl (dw h.env 400 (by decide) (by decide) (by exact cB hT rfl) fun c H1 c0 c1 k1 e1=>BJ e1 (by unfold Nm;exact b8 hx rfl rfl) fun r2 H2 k2 e2 a2=>.of (fun z=> ?_) fun z=>.of (fun z'=> ?_) fun z'=> ?_)
 all_goals
  refine BJ e2 (by unfold Nm;first|exact b8 (eM hx (eE c0 c1)) rfl rfl|exact b8 (jj hx (eE c0 c1)) rfl rfl|exact b8 hx rfl rfl) fun r3 H3 k3 e3 a3=> ?_
  obtain⟨k4,e4,a4⟩:=e3.row [.ref r3] [.pen _] ⟨a3,trivial⟩
  have K:=k1.trans (k2.trans (k3.trans k4))
  refine su (h.e K e4 (by exact Nat.le_succ _)) ((a2.e e2 k3).e e3 k4) a4 (by decide:1≤4) (by exact bE 1 hT rfl) fun H5 h5 k5=>k _ _ ?_ h5 ((h.env.wide K).trans k5)
  unfold BO er
 ·left;exact⟨z,Int.le_trans z (Int.le_add_of_nonneg_right c0)⟩
 ·right;refine⟨by exact Int.lt_of_not_ge z,by exact Int.lt_of_le_of_lt (Int.sub_le_self _ c0) (Int.not_le.mp z),?_⟩;rw[if_neg (Int.not_lt_of_ge hx.1)];split;exact Int.le_antisymm z' hx.1;exact ar302 c0 z' ‹_›
 ·right;exact⟨by exact Int.lt_of_not_ge z,by exact Int.lt_of_not_ge z,rfl⟩
end
theorem cz(x o k:Int):(if(if x=0 then 0 else o)=k then x else 0)=if o=k then x else 0:=by
 by_cases h:x=0
 ·subst h;simp
 ·rw[if_neg h]
theorem vR(w st so sh bJ:Int):(cZ w st so sh bJ).sm=⟨w,if so=0 then st else 0,if so=1 then st else 0,if so=2 then st else 0,if so=3 then st else 0,sh⟩:=by
 show(⟨w,if(if st=0 then 0 else so)=0 then st else 0,if(if st=0 then 0 else so)=1 then st else 0,if(if st=0 then 0 else so)=2 then st else 0,if(if st=0 then 0 else so)=3 then st else 0,sh⟩:Sm)=_
 simp only[cz]
theorem uL(x w:Int):x+(w - x)=w:=by exact uP
theorem BP(w st so sh bJ x y z:Int):total [.glue (cZ x y (if st=0 then 0 else so) z (if sh=0 then 0 else bJ)),.glue (cZ (w - x) (st - y) (if st=0 then 0 else so) (sh - z) (if sh=0 then 0 else bJ))]=total [.glue (cZ w st so sh bJ)]:=by
 have e:∀k,(if so=k then st else 0)=(if(if st=0 then 0 else so)=k then y else 0)+if(if st=0 then 0 else so)=k then st - y else 0:=by
  intro k
  rw[←cz st so k]
  generalize (if st=0 then(0:Int) else so)=o
  by_cases h:o=k
  ·rw[if_pos h,if_pos h,if_pos h];exact(uL y st).symm
  ·rw[if_neg h,if_neg h,if_neg h];rfl
 simp only[jO,jP];delta Nd.sm;simp only[vR,Sm.add,Sm.zero,Int.add_zero]
 rw[e 0,e 1,e 2,e 3,uL,uL]
theorem yG(w st so sh bJ x y z:Int):cL [.glue (cZ x y (if st=0 then 0 else so) z (if sh=0 then 0 else bJ)),.glue (cZ (w - x) (st - y) (if st=0 then 0 else so) (sh - z) (if sh=0 then 0 else bJ))]=cL [.glue (cZ w st so sh bJ)]:=by
 simp only[cL,List.any_cons,List.any_nil];delta Nd.bad;simp only[cZ,Bool.or_false]
 by_cases h:sh=0
 ·subst h;simp
 ·rw[if_neg h]
  by_cases h':bJ=0
  ·subst h';simp
  ·by_cases hz:z=0
   ·subst hz;simp[h,h']
   ·simp[hz,h']
def Qp(z:List Nd):Prop:=∀d∈z,(∃g,d=.glue g)∨∃p,10000≤p∧d=.pen p
theorem Qp.qt{z:List Nd}:Qp z→Qt z:=by
 induction z with
 |nil=>
  exact fun _=>.nil
 |cons d z ih=>
  intro h
  have q:Qt z:=ih fun x m=>h x (List.mem_cons_of_mem _ m)
  rcases h d (List.mem_cons_self ..) with⟨g,rfl⟩|⟨p,hp,rfl⟩
  ·exact .glue g z q
  ·exact .pen p z hp q
theorem Qp.bF{z:List Nd}:Qp z→Qt (z++[.bF 0 1]):=by
 induction z with
 |nil=>
  exact fun _=>.bF 0
 |cons d z ih=>
  intro h
  have q:Qt (z++[.bF 0 1]):=ih fun x m=>h x (List.mem_cons_of_mem _ m)
  rcases h d (List.mem_cons_self ..) with⟨g,rfl⟩|⟨p,hp,rfl⟩
  ·exact .glue g _ q
  ·exact .pen p _ hp q
theorem Qp.pen{z:List Nd}{p:Int}(h:Qp z)(hp:10000≤p):Qp (z++[.pen p]):=by
 intro d m
 rcases List.mem_append.mp m with m|m
 ·exact h d m
 ·exact .inr ⟨p,hp,List.mem_singleton.mp m⟩
structure Sim(g:Gl)(l:List Nd):Prop where
 iV:total l=total [.glue g]
 bad:cL l=cL [.glue g]
 bD:∀d∈l,d.bD
theorem Sim.more{g:Gl}{l:List Nd}{d:Nd}(h:Sim g l)(h0:d.sm=.zero)(h1:d.bad=false)(h2:d.bD):Sim g (l++[d]):=by
 refine⟨?_,?_,?_⟩
 ·rw[aZ,h.iV,show total [d]=.zero by rw[jO,jP,h0,Sm.zero_add],Sm.add_zero]
 ·rw[d5,h.bad];simp[cL,h1]
 ·intro x m
  rcases List.mem_append.mp m with m|m
  ·exact h.bD x m
  ·rw[List.mem_singleton.mp m];exact h2
def FH(free:Bool)(f:List Nd):Prop:=(∃g,f=[.glue g])∨(free=true∧∃g,f=[.bF 0 1,.glue g])
def jV(free:Bool)(g:Gl)(k:Nat)(l:List Nd):Prop:=∃f z,l=f++z∧FH free f∧Qp z∧Sim g l∧l.length≤k
def qx(free:Bool)(g:Gl)(l:List Nd):Prop:=∃f z,l=f++z∧FH free f∧Qt z∧Sim g l∧l.length≤4
theorem jV.pen{free:Bool}{g:Gl}{k:Nat}{l:List Nd}{p:Int}(h:jV free g k l)(hp:10000≤p):jV free g (k+1) (l++[.pen p]):=by
 obtain⟨f,z,rfl,a,b,c,d⟩:=h
 exact⟨f,z++[.pen p],by simp,a,b.pen hp,c.more rfl rfl trivial,by rw[List.length_append];simp;simpa using d⟩
theorem jV.mono{free:Bool}{g:Gl}{k k':Nat}{l:List Nd}(h:jV free g k l)(hk:k≤k'):jV free g k' l:=by
 obtain⟨f,z,e,a,b,c,d⟩:=h
 exact⟨f,z,e,a,b,c,Nat.le_trans d hk⟩
theorem jV.bF{free:Bool}{g:Gl}{l:List Nd}(h:jV free g 3 l):qx free g (l++[.bF 0 1]):=by
 obtain⟨f,z,rfl,a,b,c,d⟩:=h
 exact⟨f,z++[.bF 0 1],by simp,a,b.bF,c.more rfl rfl trivial,by rw[List.length_append];simp;simpa using d⟩
theorem jV.done{free:Bool}{g:Gl}{l:List Nd}(h:jV free g 3 l):qx free g l:=by
 obtain⟨f,z,e,a,b,c,d⟩:=h
 exact⟨f,z,e,a,b.qt,c,by exact Nat.le_succ_of_le d⟩
theorem jV.one{free:Bool}{w st so sh bJ:Int}(h:eY w st so sh bJ):jV free (cZ w st so sh bJ) 2 [.glue (cZ w st so sh bJ)]:=by
 refine⟨_,[],rfl,.inl ⟨_,rfl⟩,(fun d m=>(nomatch m)),⟨rfl,rfl,fun d m=> ?_⟩,by simp⟩
 rw[List.mem_singleton.mp m]
 have:=h.so
 show 0≤(if st=0 then 0 else so)∧(if st=0 then 0 else so)≤3
 split<;>omega
theorem jV.two{free:Bool}{w st so sh bJ x y z:Int}(h:eY w st so sh bJ):jV free (cZ w st so sh bJ) 2 [.glue (cZ x y (if st=0 then 0 else so) z (if sh=0 then 0 else bJ)),.glue (cZ (w - x) (st - y) (if st=0 then 0 else so) (sh - z) (if sh=0 then 0 else bJ))]:=by
 refine⟨[_],[_],rfl,.inl ⟨_,rfl⟩,(fun d m=>.inl ⟨_,List.mem_singleton.mp m⟩),⟨BP ..,yG ..,fun d m=> ?_⟩,by simp⟩
 have:=h.so
 rcases List.mem_cons.mp m with q|q
 ·rw[q]
  show 0≤(if y=0 then 0 else(if st=0 then 0 else so))∧(if y=0 then 0 else(if st=0 then 0 else so))≤3
  split
  ·decide
  ·split<;>lia
 ·rw[List.mem_singleton.mp q]
  show 0≤(if st - y=0 then 0 else(if st=0 then 0 else so))∧(if st - y=0 then 0 else(if st=0 then 0 else so))≤3
  split
  ·decide
  ·split<;>lia
theorem jV.kg{w st so sh bJ:Int}(h:eY w st so sh bJ):jV true (cZ w st so sh bJ) 2 [.bF 0 1,.glue (cZ w st so sh bJ)]:=by
 refine⟨_,[],rfl,.inr ⟨rfl,_,rfl⟩,(fun d m=>(nomatch m)),⟨?_,rfl,fun d m=> ?_⟩,by simp⟩
 ·show(Sm.zero).add _=_
  rw[Sm.zero_add]
 ·rcases List.mem_cons.mp m with q|q
  ·rw[q];trivial
  ·obtain⟨_,_,e,a,b,c,d'⟩:=jV.one (free:=true) h
   exact c.bD d q
section
variable {ns:List Int}{n:Nat}{M:List Nat}{p t a b m T:Nat}{H:aa}{A B:List Nd}{mv:List Int}{S:bp}{st:PV}
structure iN(M:List Nat)(H:aa)(r:Nat)(vs:List PV)(l:List Nd):Prop where
 at_:At M H r (.list vs)
 all:bu (dE (r::M) H) vs l
theorem dE.behind{v:PV}{d:Nd}{o:aH}(h:dE M H v d):dE (H.length::M) (H++[o]) v d:=by
 intro nV k
 refine h nV ⟨?_,fun i x m e=> ?_⟩
 ·have:=k.len;rw[List.length_append] at this;exact Nat.le_trans (Nat.le_add_right _ _) this
 ·have hi:=(List.getElem?_eq_some_iff.mp e).1
  refine k.at_ i x (fun q=> ?_) ((Pre.app _ (.refl _)).get e)
  rcases List.mem_cons.mp q with q|q
  ·exact Nat.ne_of_lt hi q
  ·exact m q
theorem iN.of(e:Env M p T H){vs:List PV}{l:List Nd}(h:bu (dE M H) vs l):iN M (H++[.list vs]) H.length vs l:=⟨e.low.new _,h.mono fun _ _ x=>x.behind⟩
theorem iN.e{H':aa}{r:Nat}{vs:List PV}{l:List Nd}(e:Env M p T H)(k:aE [p] H H')(h:iN M H r vs l):iN M H' r vs l:=
 ⟨h.at_.e e k,dE.all ((e.wide k).wide fun _ x=>List.mem_cons_of_mem _ x) h.all⟩
theorem iN.k{r:Nat}{vs:List PV}{l:List Nd}(h:iN M H r vs l):nN M H r l:=⟨vs,h.at_,h.all.mono fun _ _ x=>x.less⟩
theorem iN.push{r:Nat}{vs:List PV}{l:List Nd}{v:PV}{d:Nd}(h:iN M H r vs l)(hd:dE (r::M) H v d):iN M (H.set r (.list (vs++[v]))) r (vs++[v]) (l++[d]):=by
 have k:aE (r::M) H (H.set r (.list (vs++[v]))):=(aE.refl H).set (.inl (List.mem_cons_self ..))
 exact⟨⟨getset h.at_.at_,h.at_.nK⟩,(dE.all k h.all).append ⟨hd.keep k,trivial⟩⟩
theorem yH{g:Nat}{w st so sh bJ:Int}(h:H[g]? =some (.inst 227 (uk w st so sh bJ))):iX (aO ns) 65 H (.ref g)=some 181:=by
 unfold iX
 dsimp only
 rw[h]
 rfl
noncomputable def da(l B:List Nd):Int:=if(l.head?.map Nd.kind)=some 6∧(B.getLast?.map Nd.kind)=some 12 then -1 else 0
theorem p_last{k:Nat}(h:0<k)(h':k<1000000):place (-1) k=some (k - 1):=by
 unfold place
 rw[if_pos h',if_neg (by lia),if_pos (by exact ar309 h)]
 congr 1
 exact ar310
end
structure GsS where
 r:Nat
 vs:List PV
 l:List Nd
 H:aa
 (y z:Option PV)
instance:Nonempty GsS:=⟨⟨0,[],[],[],none,none⟩⟩
structure GsJ(M:List Nat)(p T:Nat)(Q:List Nd→Prop)(H:aa)(s:GsS):Prop where
 lo:H.length≤s.r
 row:iN M s.H s.r s.vs s.l
 q:Q s.l
 keep:aE [p] H s.H
 env:Env M p T s.H
section
variable {R:PV→aa→Prop}{ns:List Int}{n:Nat}{M:List Nat}{p t a b m T:Nat}{H:aa}{A B:List Nd}{mv:List Int}{S:bp}{w st so sh bJ s so' sho':Int}{free:Bool}{r1 g:Nat}
noncomputable def Cf(p t g:Nat)(free:Bool)(r1:Nat)(s w st so sh bJ:Int)(z:GsS):Loc:=[some (.ref p),some (.ref t),some (.ref g),some (.bool free),some (.ref r1),some (.int s),some (.int w),some (.int st),some (.int so),some (.int sh),some (.int bJ),some (.ref z.r),z.y,z.z]
theorem yI{N:Loc→aa→Prop}{Q:QL}{E:EL}(hN:∀z,GsJ M p (T+3) (jV free (cZ w st so sh bJ) 2) H z→N (Cf p t g free r1 s w st (if st=0 then 0 else so) sh (if sh=0 then 0 else bJ) z) z.H)(ok:eY w st so sh bJ)(e:Env M p T H)(hT:T<6000)(hg:At M H g (.inst 227 (uk w st so sh bJ)))
  (a2:dE M H (.ref r1) (.glue (cZ w st so sh bJ))):wS (aO ns) (aj (aO ns) (n+4)) (fc zp 3) (Cf p t g free r1 s w st (if st=0 then 0 else so) sh (if sh=0 then 0 else bJ) ⟨H.length,[],[],H,none,none⟩) (H++[.list [.ref r1]]) (mj Q N) E:=by
 revert ns n M p t T H w st so sh bJ s free r1 g N Q E
 apply aT;intro
 generalize bX .. =ns,bY .. =n,bZ .. =M,b7 .. =p,cv .. =t,cw .. =T,cx .. =H,cy .. =w
 apply aT;intro
 generalize bX .. =st,bY .. =so,bZ .. =sh,b7 .. =bJ,cv .. =s,cw .. =free,cx .. =r1,cy .. =g
 apply aP;intro
 generalize bP .. =N,bS .. =Q
 apply aJ;intro
 generalize nx .. =E
 intro hN ok e hT hg a2
 obtain⟨k3,e3,a3⟩:=e.new (.list [.ref r1])
 have g3:=hg.e e k3
 have b3:=a2.e e k3
 have bs:0≤(if st=0 then 0 else so)∧(if st=0 then 0 else so)≤3:=by have:=ok.so;split<;>lia
 have bh:0≤(if sh=0 then 0 else bJ)∧(if sh=0 then 0 else bJ)≤3:=by have:=ok.bJ;split<;>lia
 have bw:=ok.w
 have bt:=ok.st
 have bsh:=ok.sh
 have stay:N (Cf p t g free r1 s w st (if st=0 then 0 else so) sh (if sh=0 then 0 else bJ) ⟨H.length,[.ref r1],[.glue (cZ w st so sh bJ)],H++[.list [.ref r1]],none,none⟩) (H++[.list [.ref r1]]):=hN _ ⟨Nat.le_refl _,iN.of e ⟨a2,trivial⟩,jV.one ok,k3,e3.le (by exact Nat.le_add_right _ _)⟩
 refine .of (fun z=> ?_) fun _=>.of (fun z=> ?_) fun _=>.of (fun z=> ?_) fun _=>.andb (fun z hf=> ?_) fun _=>stay
 ·refine dw e3 6 (by decide) (by decide) (by exact cB hT rfl) fun x H4 x0 x1 k4 e4=>dw e4 4 (by decide) (by decide) (by exact bE 1 hT rfl) fun y H5 y0 y1 k5 e5=>dw e5 3 (by decide) (by decide) (by exact bE 2 hT rfl) fun u H6 u0 u1 k6 e6=>
   vO e6 (by unfold Dm;exact b8 (jj (eE x0 x1) (d6 1)) rfl rfl) (by unfold Dm;exact b8 (eE y0 y1) rfl rfl) (by unfold Dm;exact b8 (eE u0 u1) rfl rfl) bs bh fun r7 H7 k7 e7 a7=> ?_
  have q0:g7 (aO ns) H7 (.ref r7) 0=some (.int (x - 1)):=aA a7.at_ rfl rfl ns
  have q1:g7 (aO ns) H7 (.ref r7) 1=some (.int y):=aA a7.at_ rfl rfl ns
  have q3:g7 (aO ns) H7 (.ref r7) 3=some (.int u):=aA a7.at_ rfl rfl ns
  refine .of q0 (.of q1 (.of q3 (vO e7 (by unfold Dm;exact b8 (jj bw (jj (eE x0 x1) (d6 1))) rfl rfl) (by unfold Dm;exact b8 (jj bt (eE y0 y1)) rfl rfl) (by unfold Dm;exact b8 (jj bsh (eE u0 u1)) rfl rfl) bs bh fun r8 H8 k8 e8 a8=>vP e8 (.inl rfl) fun r9 H9 k9 e9 a9=>vP e9 (.inl rfl) fun r10 H10 lJ sE A3=> ?_)))
  have n1:=nM (c:=0) ((a9.e e9 lJ)) (((a7.e e7 k8).e e8 k9).e e9 lJ)
  have n2:=nM (c:=0) A3 ((a8.e e8 k9).e e9 lJ)
  have K:=k3.trans (k4.trans (k5.trans (k6.trans (k7.trans (k8.trans (k9.trans lJ))))))
  exact hN ⟨_,_,_,_,_,_⟩ ⟨K.len,iN.of sE (l:=[_,_]) ⟨n1,n2,trivial⟩,jV.two (free:=free) (x:=x - 1) (y:=y) (z:=u) ok,K.trans ((aE.refl _).app _),(sE.new _).2.1⟩
 ·refine dw e3 3 (by decide) (by decide) (by exact cB hT rfl) ?_
  apply aP;intro
  generalize bP .. =x,bS .. =H4
  intro x0 x1 k4 e4
  obtain⟨k5,e5,a5⟩:=e4.new (.inst 300 [(0,.none),(6,.int 2),(7,.int 0)])
  obtain⟨k6,e6,a6⟩:=e5.new (.inst 343 [(14,.ref g),(13,.int (1+x)),(15,.ref H4.length)])
  have n1:=nM (c:=0) a6 (((g3.e e3 k4).e e4 k5).e e5 k6)
  have K:=k3.trans (k4.trans (k5.trans k6))
  exact m300 (.inl rfl) (.inr ⟨2,rfl,by decide,by decide⟩) (.inr ⟨0,rfl,by decide,by decide⟩) (m343L (by exact b8 (eM (d6 1) (eE x0 x1)) rfl rfl) (eU a5.at_ rfl rfl rfl rfl) (hN ⟨_,_,_,_,_,_⟩ ⟨K.len,iN.of e6 (l:=[_]) ⟨n1,trivial⟩,jV.one ok,K.trans ((aE.refl _).app _),(e6.new _).2.1.le (by exact cO (k:=1) (l:=3) rfl)⟩))
 ·refine dw e3 19 (by decide) (by decide) (by exact cB hT rfl) fun x H4 x0 x1 k4 e4=>vP e4 (.inr (by exact b8 (eM (d6 100) (eE x0 x1)) rfl rfl)) fun r6 H6 k6 e6 a6=> ?_
  have n1:=nM (c:=0) a6 ((g3.e e3 k4).e e4 k6)
  have K:=k3.trans (k4.trans k6)
  exact hN ⟨_,_,_,_,_,_⟩ ⟨K.len,iN.of e6 (l:=[_]) ⟨n1,trivial⟩,jV.one ok,K.trans ((aE.refl _).app _),(e6.new _).2.1.le (by exact cO (k:=1) (l:=3) rfl)⟩
 ·refine jS e3 (by decide) ⟨by decide,by decide⟩ fun r4 H4 k4 e4 a4=> ?_
  have K:=k3.trans k4
  subst hf
  exact hN ⟨_,_,_,_,_,_⟩ ⟨K.len,iN.of e4 (l:=[_,_]) ⟨a4,b3.e e3 k4,trivial⟩,jV.kg ok,K.trans ((aE.refl _).app _),(e4.new _).2.1.le (by exact Nat.le_add_right _ _)⟩
theorem wCmpIn{H:aa}{x:Int}{is:List Int}{l:List PV}{A B:Prop}(h:kK l=some is)(ha:A)(hb:B):qN .In H (.int x) (.tup l) A B:=.of h (.of (fun _=>ha) fun _=>hb)
theorem gluePen{N:Loc→aa→Prop}{Q:QL}{E:EL}{z:GsS}(hN:∀z,GsJ M p (T+1) (jV free (cZ w st so sh bJ) 3) H z→N (Cf p t g free r1 s w st so' sh sho' z) z.H)(j:GsJ M p T (jV free (cZ w st so sh bJ) 2) H z)(hT:T<6000):
  wS (aO ns) (aj (aO ns) (n+4)) (fc zp 4) (Cf p t g free r1 s w st so' sh sho' z) z.H (mj Q N) E:=by
 have hl:z.l.length≤2:=j.q.choose_spec.choose_spec.2.2.2.2
 have hv:z.vs.length<100000:=by have:=j.row.all.length;exact gy (Nat.le_trans (Nat.le_of_eq this) hl) rfl
 have e':=j.env.more (List.getElem?_eq_some_iff.mp j.row.at_.at_).1
 refine .of (a:=[1,3,6,7]) rfl (.of (fun _=> ?_) fun _=>hN z ⟨j.lo,j.row,j.q.mono (by decide),j.keep,j.env.le (Nat.le_succ _)⟩)
 refine .of j.row.at_.at_ (dw e' 3 (by decide) (by decide) (by exact cB hT rfl) fun x H4 x0 x1 k4 e4=>BJ e4 (by unfold Nm;exact b8 (eM (d6 10000) (eE x0 x1)) rfl rfl) fun r5 H5 k5 e5 a5=> ?_)
 have h5:=(j.row.e j.env k4).e (e4.less j.env.mem) k5
 have fin:=hN ⟨z.r,z.vs++[.ref r5],z.l++[.pen (10000+x)],H5.set z.r (.list (z.vs++[.ref r5])),z.y,z.z⟩ ⟨j.lo,h5.push a5,j.q.pen (by exact Int.le_add_of_nonneg_right x0),(j.keep.trans (k4.trans k5)).set (.inr j.lo),(e5.less j.env.mem).set h5.at_.nK⟩
 exact .of h5.at_.at_ (.of hv fin)
theorem BQ{N:Loc→aa→Prop}{Q:QL}{E:EL}{z:GsS}(hN:∀z,GsJ M p T (qx free (cZ w st so sh bJ)) H z→N (Cf p t g free r1 s w st so' sh sho' z) z.H)(j:GsJ M p T (jV free (cZ w st so sh bJ) 3) H z)(hT:T<6000):
  wS (aO ns) (aj (aO ns) (n+4)) (fc zp 5) (Cf p t g free r1 s w st so' sh sho' z) z.H (mj Q N) E:=by
 have hl:z.l.length≤3:=j.q.choose_spec.choose_spec.2.2.2.2
 have hv:z.vs.length<100000:=by have:=j.row.all.length;lia
 have e':=j.env.more (List.getElem?_eq_some_iff.mp j.row.at_.at_).1
 refine .of (a:=[2,3,8]) rfl (.of (fun _=> ?_) fun _=>hN z ⟨j.lo,j.row,j.q.done,j.keep,j.env⟩)
 refine .of j.row.at_.at_ (jS e' (by decide) ⟨by decide,by decide⟩ fun r5 H5 k5 e5 a5=> ?_)
 have h5:=j.row.e j.env k5
 have fin:=hN ⟨z.r,z.vs++[.ref r5],z.l++[.bF 0 1],H5.set z.r (.list (z.vs++[.ref r5])),z.y,z.z⟩ ⟨j.lo,h5.push a5,j.q.bF,(j.keep.trans k5).set (.inr j.lo),(e5.less j.env.mem).set h5.at_.nK⟩
 exact .of h5.at_.at_ (.of hv fin)
theorem s797{E:XK→aa→Prop}(h:Told M p t a b m T H A B mv)(hg:At M H g (.inst 227 (uk w st so sh bJ)))(ok:eY w st so sh bJ)(hB:B≠[])(hT:T<5000)
  (k:∀l H',qx free (cZ w st so sh bJ) l→Told M p t a b m (T+8) H' (A++[.glue (cZ w st so sh bJ)]) (B++l) (mv++[(B.length:Int)+da l B])→aE M H H'→R .none H'):
  Wc (aj (aO ns) (n+5) 797 [.ref p,.ref t,.ref g,.bool free] H) R E:=by
 revert R ns n M p t a b m T H A B mv w st so sh bJ free g E
 apply aT;intro
 generalize bX .. =R,bY .. =ns,bZ .. =n,b7 .. =M,cv .. =p,cw .. =t,cx .. =a,cy .. =b
 apply aT;intro
 generalize bX .. =m,bY .. =T,bZ .. =H,b7 .. =A,cv .. =B,cw .. =mv,cx .. =w,cy .. =st
 apply aN;intro
 generalize bM .. =so,bN .. =sh,bQ .. =bJ,bR .. =free
 apply aP;intro
 generalize bP .. =g,bS .. =E
 intro h hg ok hB hT k
 refine aS rfl rfl (vP h.env (.inl rfl) fun r1 H1 k1 e1 a1=>dw e1 9 (by decide) (by decide) (by exact cB hT rfl) fun s H2 s0 s1 k2 e2=> ?_)
 have K:=k1.trans k2
 have g2:=(hg.e h.env k1).e e1 k2
 have h2:=h.e K e2 (Nat.le_succ _)
 have kk:=h.env.wide K
 have a2:dE M H2 (.ref r1) (.glue (cZ w st so sh bJ)):=nM (c:=0) (a1.e e1 k2) g2
 refine .of (yH g2.at_) (fn181 g2.at_ ?_)
 refine nxt ?_
 refine lE (Cf p t g free r1 s w st (if st=0 then 0 else so) sh (if sh=0 then 0 else bJ)) (fun z=>z.H) (GsJ M p (T+4) (jV free (cZ w st so sh bJ) 2) H2) (fun N hN=>yI hN ok e2 (by exact bE 1 hT rfl) g2 a2) fun z j=> ?_
 refine cut (Cf p t g free r1 s w st (if st=0 then 0 else so) sh (if sh=0 then 0 else bJ)) (fun z=>z.H) (GsJ M p (T+5) (jV free (cZ w st so sh bJ) 3) H2) (fun N hN=>gluePen hN j (by exact bE 4 hT rfl)) fun z j=> ?_
 refine cut (Cf p t g free r1 s w st (if st=0 then 0 else so) sh (if sh=0 then 0 else bJ)) (fun z=>z.H) (GsJ M p (T+5) (qx free (cZ w st so sh bJ)) H2) (fun N hN=>BQ hN j (by exact bE 5 hT rfl)) fun z j=> ?_
 have h3:=h2.e j.keep j.env (by exact cO (k:=1) (l:=5) rfl)
 obtain⟨vb,b1,b2⟩:=h3.fb
 have jq:=j.q
 obtain⟨f,z',e',hf,-,-,hl4⟩:=j.q
 obtain⟨d0,l',el⟩:∃d0 l',z.l=d0::l':=by
  rcases hf with⟨g,rfl⟩|⟨_,g,rfl⟩
  ·exact⟨_,_,e'⟩
  ·exact⟨_,_,e'⟩
 obtain⟨v0,hv0,hd0⟩:=j.row.all.get (i:=0) (b:=d0) (by rw[el];rfl)
 have lv:=j.row.all.length
 have lb:=b2.length
 have la:=h3.la
 have lb':=h3.lb
 obtain⟨dl,hdl⟩:∃dl,B.getLast?=some dl:=⟨_,List.getLast?_eq_some_getLast hB⟩
 have hdl':=hdl
 rw[List.getLast?_eq_getElem?] at hdl'
 obtain⟨vl,q1,q2⟩:=b2.get hdl'
 have hB0:0<B.length:=List.length_pos_iff.mpr hB
 have bk:da z.l B=if d0.kind=6∧dl.kind=12 then -1 else 0:=by
  unfold da
  rw[el,hdl]
  simp
 have fin:∀{R':PV→aa→Prop} bk,bk=da z.l B→(∀H',R .none H'→R' .none H')→Wc (aj (aO ns) (n+4) 769 [.ref t,.ref r1,.ref z.r,.int bk] z.H) R' fun k H'=>E .flying H':=fun bk e hR=>by
  subst e
  exact su h3 (a2.e e2 j.keep) j.row.k hl4 (by exact bE 5 hT rfl) fun H5 h5 k5=>hR _ (k _ _ jq (h5.le (by exact cO (k:=6) (l:=8) rfl)) (kk.trans ((e2.wide j.keep).trans k5)))
 have lP:((place (-1) vb.length).bind fun m=>vb[m]?)=some vl:=by
  rw[p_last (by exact Nat.lt_of_lt_of_eq hB0 lb.symm) (by exact ar333 hT lb la lb'),lb];exact q1
 have pl0:=fe hv0 (by exact gy (Nat.le_trans (Nat.le_of_eq lv) hl4) rfl:z.vs.length<1000)
 have nk:¬(d0.kind=6∧dl.kind=12)→(if d0.kind=6∧dl.kind=12 then(-1:Int) else 0)=0:=fun x=>if_neg x
 exact .of j.row.at_.at_ (.of pl0 (.of (hd0.now.kind ns) (.of (fun y1=>.of (Cd h3.told.at_ rfl) (.of b1 (.of lP (.of (q2.now.kind ns) (.of (fun y2=>fin _ (bk.trans (if_pos ⟨y1,y2⟩)).symm fun _ h=>h) fun y2=>fin _ (bk.trans (nk fun x=>y2 x.2)).symm fun _ h=>h))))) fun y1=>fin _ (bk.trans (nk fun x=>y1 x.1)).symm fun _ h=>h)))
end
section
variable {H:aa}{loc:Loc}{cg:List Nat}{elt:Loc→aa→(PV→aa→Prop)→(XK→aa→Prop)→Prop}{r:Nat}
def yJ(elt:Loc→aa→(PV→aa→Prop)→(XK→aa→Prop)→Prop)(cg:List Nat)(R:List PV→aa→Prop)(r:Nat)(vs:List PV):List PV→List PV→Loc→aa→Prop
 |[],acc,_,H=>H[r]? =some (.list vs)∧R acc H
 |v::l,acc,loc,H=>H[r]? =some (.list vs)∧f6 cg v loc fun loc=>elt loc H (fun x H=>acc.length<1000∧yJ elt cg R r vs l (acc++[x]) loc H) nE
theorem yJ.at{R:List PV→aa→Prop}{vs l acc:List PV}(h:yJ elt cg R r vs l acc loc H):H[r]? =some (.list vs):=by
 cases l<;>exact h.1
theorem nO{R:List PV→aa→Prop}{vs:List PV}(h:yJ elt cg R r vs vs [] loc H):mu elt cg (.live r) loc H R:=by
 unfold mu
 refine⟨vs.length,fun k=>(vs[k]?).getD .none,fun k=>yJ elt cg R r vs (vs.drop k),h,?_,?_,?_,?_⟩
 ·intro k _ _ H i h;show(listAt _ _).map _=some (some ((vs[k]?).getD .none));rw[cX i.at,Option.map_some,List.getElem?_eq_getElem h];rfl
 ·intro _ _ H i;show(listAt _ _).map _=_;rw[cX i.at,Option.map_some,List.getElem?_eq_none (Nat.le_refl _)]
 ·intro k acc loc H h i;rw[iq h] at i;show f6 cg ((vs[k]?).getD .none) loc _;rw[List.getElem?_eq_getElem h];exact i.2
 ·intro acc loc H i;rw[List.drop_length] at i;exact i.2
end
noncomputable def jg:Option Int→PV
 |none=>.none
 |some x=>.int x
noncomputable def txt:Option Int→List Int
 |none=>[]
 |some x=>[x]
def SzOk(o:Option Int):Prop:=∀x,o=some x→2≤x∧x≤6
def pcs:Option Int→List Nd→Prop
 |none,l=>l=[]
 |some x,l=>PcQ x l
def PcR(M:List Nat)(H:aa)(v:PV)(o:Option Int):Prop:=∃r l,v=.ref r∧nN M H r l∧pcs o l
section
variable {R:PV→aa→Prop}{ns:List Int}{n:Nat}{M:List Nat}{p t a b m T:Nat}{H:aa}{A B:List Nd}{mv:List Int}{S:bp}{st:PV}
theorem PcR.text{v:PV}{o:Option Int}(h:PcR M H v o):∃ws,kH M H v ws∧ws.sum=(txt o).sum∧ws.isEmpty=(txt o).isEmpty:=by
 revert M H v o
 apply aN;intro
 generalize bM .. =M,bN .. =H,bQ .. =v,bR .. =o
 intro h
 obtain⟨r,l,rfl,⟨vs,h1,h2⟩,h3⟩:=h
 cases o with
 |none=>
  subst h3
  rw[bu.nil_inv h2] at h1
  exact⟨[],kH.of h1 (by simp) trivial,rfl,rfl⟩
 |some x=>
  rcases h3 with⟨c,rfl⟩|⟨c,a,s,rfl⟩
  ·obtain⟨v1,r1,rfl,x1,h3⟩:=bu.cons_inv h2
   obtain⟨v2,r2,rfl,x2,h4⟩:=bu.cons_inv h3
   rw[bu.nil_inv h4] at h1
   exact⟨[c,x - c],kH.of h1 (by simp) ⟨iA x1,iA x2,trivial⟩,by simp[txt];exact uP,rfl⟩
  ·obtain⟨v1,r1,rfl,x1,h3⟩:=bu.cons_inv h2
   obtain⟨v2,r2,rfl,x2,h4⟩:=bu.cons_inv h3
   obtain⟨v3,r3,rfl,x3,h5⟩:=bu.cons_inv h4
   rw[bu.nil_inv h5] at h1
   exact⟨[c,a,x - c - a],kH.of h1 (by simp) ⟨iA x1,yF x2,iA x3,trivial⟩,by simp[txt];exact ar214,rfl⟩
theorem PcR.e{H':aa}{v:PV}{o:Option Int}(e:Env M p T H)(k:aE [p] H H'):PcR M H v o→PcR M H' v o
 |⟨r,l,h,a,b⟩=>⟨r,l,h,a.e e k,b⟩
def px(S:bp)(o0 o1 o2:Option Int)(l:List Nd):Prop:=
 if 10000≤costOf S (txt o0) then pcs o2 l else ∃P q mm,l=[.bL P q mm]∧(P.sum=(txt o0).sum∧P.isEmpty=(txt o0).isEmpty)∧(q.sum=(txt o1).sum∧q.isEmpty=(txt o1).isEmpty)∧mm.sum=(txt o2).sum
theorem size_of{v:PV}(h:v∈[PV.none,.int 3,.int 2,.int 6]):∃o,v=jg o∧SzOk o:=by
 simp only[List.mem_cons,List.not_mem_nil,or_false] at h
 rcases h with rfl|rfl|rfl|rfl
 ·exact⟨none,rfl,fun x e=>by cases e⟩
 ·exact⟨some 3,rfl,fun x e=>by cases e;decide⟩
 ·exact⟨some 2,rfl,fun x e=>by cases e;decide⟩
 ·exact⟨some 6,rfl,fun x e=>by cases e;decide⟩
theorem BR{x0 x1 x2 x3 x4 x5 x6 x7 x8:Option PV}{K:PV→aa→Prop}{E:XK→aa→Prop}(o:Option Int)(ho:SzOk o)(e:Env M p T H)(k:∀r H',kH M H' (.ref r) (txt o)→aE [p] H H'→Env M p T H'→K (.ref r) H'):
  wE (aO ns) (aj (aO ns) (n+4)) (.ite (.cmp .Is (.var 9) (.const .none)) (.list .nil) (.list (.cons (.callC 279 (.cons (.const (.int 2)) (.cons (.var 9) (.cons (.const (.int 0)) (.cons (.const (.int 0)) (.cons (.list .nil) .nil)))))) .nil))) [x0,x1,x2,x3,x4,x5,x6,x7,x8,some (jg o)] H K E:=by
 cases o with
 |none=>
  obtain⟨k3,e3,t3⟩:=BK e
  exact k _ _ t3 k3 e3
 |some x=>
  have hx:=ho x rfl
  refine lI e (by unfold Dm;exact b8 hx rfl rfl) fun r H3 k3 e3 a3=> ?_
  obtain⟨k4,e4,t4⟩:=BL e3 a3
  exact k _ _ t4 (k3.trans k4) e4
theorem uM{x1 x2 x3 x4 x5 x6 x7 x8:Option PV}{K:PV→aa→Prop}{E:XK→aa→Prop}(o:Option Int)(ho:SzOk o)(e:Env M p T H)(hT:T<10000)(k:∀v H',PcR M H' v o→aE [p] H H'→Env M p (T+3) H'→K v H'):
  wE (aO ns) (aj (aO ns) (n+4)) (.ite (.cmp .Is (.var 9) (.const .none)) (.list .nil) (.ah 776 (.cons (.var 0) (.cons (.var 9) .nil)))) [some (.ref p),x1,x2,x3,x4,x5,x6,x7,x8,some (jg o)] H K E:=by
 cases o with
 |none=>
  obtain⟨k3,e3,t3⟩:=e.row [] [] trivial
  exact k _ _ ⟨_,_,rfl,t3,rfl⟩ k3 (e3.le (by exact Nat.le_add_right _ _))
 |some x=>
  have hx:=ho x rfl
  exact s776 e (by exact b8 hx rfl rfl) (by exact cB hT rfl) fun r l H4 a4 q4 k4 e4=>k _ _ ⟨_,_,rfl,a4,q4⟩ k4 e4
theorem get3{x y z:PV}{k:Nat}{v:PV}(h:[x,y,z][k]? =some v):((place (k:Int) [x,y,z].length).bind fun m=>[x,y,z][m]?)=some v:=fe h (by decide:3<1000)
theorem BS{rp:Nat}{p0 p1 p2:PV}{o0 o1 o2:Option Int}{x0 x1 x2 x3 x4 x7 x8 x9:Option PV}{N:Loc→aa→Prop}{Q:QL}{E:EL}(e:Env M p T H)(sH:At M H rp (.list [p0,p1,p2]))(Y0:PcR M H p0 o0)(Y1:PcR M H p1 o1)(Y2:PcR M H p2 o2)
  (hN:∀r l H',nN M H' r l→px S o0 o1 o2 l→l.length≤4→aE [p] H H'→Env M p T H'→N [x0,x1,x2,x3,x4,some (.ref rp),some (.int (costOf S (txt o0))),some (.ref r),x8,x9] H'):
  wS (aO ns) (aj (aO ns) (n+4)) (fc b816 4) [x0,x1,x2,x3,x4,some (.ref rp),some (.int (costOf S (txt o0))),x7,x8,x9] H (mj Q N) E:=by
 obtain⟨w0,tw0,sw0,ew0⟩:=Y0.text
 obtain⟨w1,tw1,sw1,ew1⟩:=Y1.text
 obtain⟨w2,tw2,sw2,ew2⟩:=Y2.text
 obtain⟨r0,l0,rfl,-,-⟩:=Y0
 obtain⟨r1,l1,rfl,-,-⟩:=Y1
 obtain⟨r2,l2,rfl,rk2,pc2⟩:=Y2
 refine .of (fun z=> ?_) fun z=> ?_
 ·refine .of sH.at_ (.of (get3 (k:=2) rfl) (hN _ _ _ rk2 ?_ ?_ (.refl _) e))
  ·unfold px;rw[if_pos z];exact pc2
  ·cases o2 with
   |none=>rw[pc2];exact Nat.zero_le _
   |some x=>rcases pc2 with⟨c,rfl⟩|⟨c,a,s,rfl⟩<;>(show _≤4;simp)
 ·refine .of sH.at_ (.of (get3 (k:=0) rfl) (.of sH.at_ (.of (get3 (k:=1) rfl) (.of sH.at_ (.of (get3 (k:=2) rfl) (BM e tw0 tw1 tw2 fun r H13 Cg e13 a13=> ?_))))))
  obtain⟨k14,e14,a14⟩:=e13.row [.ref r] [.bL w0 w1 w2] ⟨a13,trivial⟩
  refine hN _ _ _ a14 ?_ (by simp) (Cg.trans k14) e14
  unfold px
  rw[if_neg z]
  exact⟨_,_,_,rfl,⟨sw0,ew0⟩,⟨sw1,ew1⟩,sw2⟩
theorem BU{rt r t0 t1 t2:Nat}{P q mm:List Int}{l:List Nd}{x0 x2 x3 x5 x6 x8 x9:Option PV}{Q:QL}{E:EL}(h:Told M p t a b m T H A B mv)(gt:At M H rt (.list [.ref t0,.ref t1,.ref t2]))
  (T0:kH M H (.ref t0) P) (T1:kH M H (.ref t1) q) (T2:kH M H (.ref t2) mm) (rk:nN M H r l) (l4:l.length≤4) (hT:T<10000)
  (k:∀H',Told M p t a b m (T+1) H' (A++[.bL P q mm]) (B++l) (mv++[(B.length:Int)+0])→aE M H H'→Q .next [x0,some (.ref t),x2,x3,some (.ref rt),x5,x6,some (.ref r),x8,x9] H'):
  wSs (aO ns) (aj (aO ns) (n+4)) (iT b816 5) [x0,some (.ref t),x2,x3,some (.ref rt),x5,x6,some (.ref r),x8,x9] H Q E:=by
 have g:=gt.at_
 refine .of g (.of (get3 (k:=0) rfl) (.of g (.of (get3 (k:=1) rfl) (.of g (.of (get3 (k:=2) rfl) (BM h.env T0 T1 T2 fun r5 H14 k14 e14 a14=> ?_))))))
 exact su (h.e k14 e14 (Nat.le_refl _)) a14 (rk.e h.env k14) l4 hT fun H15 B6 k15=>k _ B6 ((h.env.wide k14).trans k15)
theorem s816{E:XK→aa→Prop}(h:Told M p t a b m T H A B mv)(hS:sv M H st S)(hT:T<5000)
  (k:∀o0 o1 o2 l H',px S o0 o1 o2 l→Told M p t a b m (T+15) H' (A++[.bL (txt o0) (txt o1) (txt o2)]) (B++l) (mv++[(B.length:Int)+0])→aE M H H'→R .none H'):Wc (aj (aO ns) (n+5) 816 [.ref p,.ref t,st] H) R E:=by
 revert R ns n M p t a b m T H A B mv S st E
 apply aT;intro
 generalize bX .. =R,bY .. =ns,bZ .. =n,b7 .. =M,cv .. =p,cw .. =t,cx .. =a,cy .. =b
 apply aT;intro
 generalize bX .. =m,bY .. =T,bZ .. =H,b7 .. =A,cv .. =B,cw .. =mv,cx .. =S,cy .. =st
 apply aJ;intro
 generalize nx .. =E
 intro h hS hT k
 have lt:∀{k},Nat.ble 1000 k=false→k<1000:=fun h=>Nat.lt_of_not_le fun h'=>by rw[Nat.ble_eq_true_of_le h'] at h;cases h
 refine aS rfl rfl (.of (by decide) (qh (lp h.env rfl (by decide) (by decide) (by exact cB hT rfl) fun v0 m0 H1 k1 e1=>⟨lt rfl,lp e1 rfl (by decide) (by decide) (by exact bE 1 hT rfl) fun v1 m1 H2 k2 e2=>⟨lt rfl,lp e2 rfl (by decide) (by decide) (by exact bE 2 hT rfl) fun v2 m2 H3 k3 e3=>⟨lt rfl,.of (lt rfl) ?_⟩⟩⟩)))
 obtain⟨o0,rfl,q0⟩:=size_of m0
 obtain⟨o1,rfl,q1⟩:=size_of m1
 obtain⟨o2,rfl,q2⟩:=size_of m2
 obtain⟨k4,e4,a4⟩:=e3.new (.list [jg o0,jg o1,jg o2])
 have K4:=k1.trans (k2.trans (k3.trans k4))
 have g4:∀{H'},aE [p] _ H'→H'[H3.length]? =some (.list [jg o0,jg o1,jg o2]):=fun k=>(a4.e e4 k).at_
 refine .of a4.at_ (.of (Nat.lt_trans (lt rfl) (by decide:1000<100000)) (nO (vs:=[jg o0,jg o1,jg o2]) ⟨a4.at_,BR o0 q0 e4 fun t0 H5 x0 k5 e5=>⟨lt rfl,g4 k5,BR o1 q1 e5 fun t1 H6 x1 k6 e6=>⟨lt rfl,g4 (k5.trans k6),BR o2 q2 e6 fun t2 H7 x2 k7 e7=>⟨lt rfl,g4 (k5.trans (k6.trans k7)),.of (lt rfl) ?_⟩⟩⟩⟩))
 have K7:=k5.trans (k6.trans k7)
 obtain⟨k8,e8,a8⟩:=e7.new (.list [.ref t0,.ref t1,.ref t2])
 have K8:=K7.trans k8
 have X0:=((x0.e e5 k6).e e6 k7).e e7 k8
 have X1:=(x1.e e6 k7).e e7 k8
 have X2:=x2.e e7 k8
 refine .of (g4 K8) (.of (Nat.lt_trans (lt rfl) (by decide:1000<100000)) (nO (vs:=[jg o0,jg o1,jg o2]) ⟨g4 K8,uM o0 q0 e8 (by exact bE 3 hT rfl) fun p0 H9 y0 k9 e9=>⟨lt rfl,g4 (K8.trans k9),uM o1 q1 e9 (by exact bE 6 hT rfl) fun p1 H10 y1 lJ sE=>⟨lt rfl,g4 (K8.trans (k9.trans lJ)),uM o2 q2 sE (by exact bE 9 hT rfl) fun p2 Ce y2 qw e11=>⟨lt rfl,g4 (K8.trans (k9.trans (lJ.trans qw))),.of (lt rfl) ?_⟩⟩⟩⟩))
 have K11:=k9.trans (lJ.trans qw)
 obtain⟨jN,uK,sH⟩:=e11.new (.list [p0,p1,p2])
 have K12:=K11.trans jN
 have Y0:=((y0.e e9 lJ).e sE qw).e e11 jN
 have Y1:=(y1.e sE qw).e e11 jN
 have Y2:=y2.e e11 jN
 have gs:=g4 (K8.trans K12)
 have K:=K4.trans (K8.trans K12)
 have pI:=h.e K (uK.le (by exact cO (k:=12) (l:=12) rfl:_≤T+12)) (by exact Nat.le_add_right _ _)
 have S12:=(hS.keep (h.env.wide K)) _ (.refl _)
 have T0:=X0.e e8 K12
 have T1:=X1.e e8 K12
 have T2:=X2.e e8 K12
 have A8:=a8.e e8 K12
 have kk:=h.env.wide K
 refine cut (fun _:Unit=>[some (.ref p),some (.ref t),some st,some (.ref H3.length),some (.ref H7.length),some (.ref Ce.length),some (.int (costOf S (txt o0))),none,none,none]) (fun _=>Ce++[.list [p0,p1,p2]]) (fun _=>True) (fun N hN=>.of gs (.of (get3 (k:=0) rfl) ?_)) fun _ _=> ?_
 ·have hN:=hN () trivial
  cases o0 with
  |none=>exact .of (S12.ex ns) hN
  |some x=>exact .of (S12.bT ns) hN
 exact BS uK sH Y0 Y1 Y2 fun r l H13 rk dq l4 Cg e13=>BU (pI.e Cg e13 (Nat.le_refl _)) (A8.e uK Cg) (T0.e uK Cg) (T1.e uK Cg) (T2.e uK Cg) rk l4 (by exact bE 12 hT rfl) fun H15 B6 k15=>k _ _ _ _ _ dq (B6.le (by exact cO (k:=13) (l:=15) rfl)) (kk.trans ((uK.wide Cg).trans k15))
end
section
variable {S:bp}{tl free:Bool}{g h:Gl}{l B:List Nd}
structure oD(g:Gl):Prop where
 ph:yA (.glue g)
 bD:(Nd.glue g).bD
theorem oD.of{w st so sh bJ:Int}(h:eY w st so sh bJ):oD (cZ w st so sh bJ):=by
 obtain⟨a,b,c,d,e⟩:=h
 refine⟨?_,?_⟩
 ·unfold yA
  have:(Nd.glue (cZ w st so sh bJ)).sm=(cZ w st so sh bJ).sm:=rfl
  rw[this,vR]
  exact⟨ji (vW b z10).1 rfl,(vW b z10).2,ji d.1 rfl,d.2⟩
 ·show 0≤(if st=0 then 0 else so)∧(if st=0 then 0 else so)≤3
  exact vW z03 c
def Lst(tl:Bool)(B:List Nd):Prop:=(B.getLast?.map Nd.kind=some 12)↔tl=true
theorem qx.plain(q:qx false g l):∃g' z,l=.glue g'::z∧Qt z∧Sim g l:=by
 obtain⟨f,z,rfl,⟨g',rfl⟩|⟨e,_⟩,b,c,d⟩:=q
 ·exact⟨g',z,rfl,b,c⟩
 ·cases e
theorem qx.cases(q:qx free g l):(∃g' z,l=.glue g'::z∧Qt z)∨∃g' z,l=.bF 0 1:: .glue g'::z∧Qt z:=by
 obtain⟨f,z,rfl,⟨g',rfl⟩|⟨_,g',rfl⟩,b,c,d⟩:=q
 ·exact .inl ⟨g',z,rfl,b⟩
 ·exact .inr ⟨g',z,rfl,b⟩
theorem qx.sim(q:qx free g l):Sim g l:=by
 obtain⟨_,_,_,_,_,c,_⟩:=q;exact c
theorem qy{d:Nd}(h:∃x,d.sm=⟨x,0,0,0,0,0⟩):yA d:=by
 obtain⟨x,e⟩:=h
 unfold yA
 rw[e]
 dsimp only
 lia
theorem alla{P:Nd→Prop}{k l:List Nd}(h:∀x∈k,P x)(h':∀x∈l,P x):∀x∈k++l,P x:=fun x m=>(List.mem_append.mp m).elim (h x) (h' x)
theorem g_glue(q:qx true g l)(hg:oD g)(hB:Lst tl B):nI S tl [.glue g] l [da l B]:=by
 refine⟨rfl,q.sim.iV.symm,q.sim.bad.symm,⟨all1 hg.bD,q.sim.bD⟩,all1 hg.ph,?_⟩
 have uA:dG S true [.glue g] (some ⟨0,0,0,.zero,0,0,true⟩):=Bx (tl:=false) (z:=[]) .nil
 rcases q.cases with⟨g',z,rfl,hz⟩|⟨g',z,rfl,hz⟩
 ·refine⟨_,_,uA,Bx hz,rfl,rfl,rfl,rfl,rfl,?_⟩
  unfold Lst at hB
  unfold da
  cases tl with
  |true=>rw[if_pos ⟨rfl,hB.mpr rfl⟩];rfl
  |false=>rw[if_neg (fun x=>by have:=hB.mp x.2;cases this)];rfl
 ·refine⟨_,_,uA,ux hz,rfl,rfl,rfl,rfl,rfl,?_⟩
  unfold da
  rw[if_neg (fun x=>by have:=x.1;simp[Nd.kind] at this)]
  show some (0:Int)=some _
  simp
theorem pen_sim{x y:Int}:total [Nd.pen x]=total [.pen y]:=rfl
theorem g_pen{x y:Int}(q:BO x y):nI S tl [.pen x] [.pen y] [0]:=by
 refine⟨rfl,rfl,rfl,⟨all1 trivial,all1 trivial⟩,all1 (qy ⟨0,rfl⟩),?_⟩
 rcases q with⟨a,b⟩|⟨a,b,c⟩
 ·exact⟨none,none,gw (tl:=false) (z:=[]) .nil a,gw .nil b,trivial⟩
 ·refine⟨_,_,vM (tl:=false) (z:=[]) .nil a,vM .nil b,c,rfl,rfl,rfl,rfl,?_⟩
  show some (0:Int)=some _
  simp
theorem gx(d:Nd)(l:List Nd):cL (d::l)=(d.bad || cL l):=rfl
theorem nP{x y k:Int}(q:BO x y)(ql:qx false g l)(hg:oD g):nI S tl [.pen x,.glue g] (.pen y::l) [0,k]:=by
 obtain⟨g',z,rfl,hz,hs⟩:=ql.plain
 refine⟨rfl,?_,?_,⟨eu trivial (all1 hg.bD),eu trivial hs.bD⟩,eu (qy ⟨0,rfl⟩) (all1 hg.ph),?_⟩
 ·show(Nd.pen x).sm.add _=(Nd.pen y).sm.add _
  rw[hs.iV];rfl
 ·rw[gx (.pen y),hs.bad];rfl
 rcases q with⟨a,b⟩|⟨a,b,c⟩
 ·exact⟨none,none,gw (tl:=false) (z:=[.glue g]) (.glue _ _ .nil) a,gw (.glue _ _ hz) b,trivial⟩
 ·refine⟨_,_,vM (tl:=false) (z:=[.glue g]) (.glue _ _ .nil) a,vM (.glue _ _ hz) b,c,rfl,rfl,rfl,rfl,?_⟩
  show some (0:Int)=some _
  simp
theorem g_kern{w k:Int}(ql:qx false g l)(hg:oD g):nI S tl [.bF w 1,.glue g] (.bF w 1::l) [0,k]:=by
 obtain⟨g',z,rfl,hz,hs⟩:=ql.plain
 refine⟨rfl,?_,?_,⟨eu trivial (all1 hg.bD),eu trivial hs.bD⟩,eu (qy ⟨w,rfl⟩) (all1 hg.ph),?_⟩
 ·show(Nd.bF w 1).sm.add _=(Nd.bF w 1).sm.add _
  rw[hs.iV]
 ·rw[gx (.bF w 1) (.glue g'::z),hs.bad];rfl
 ·refine⟨_,_,ux (tl:=false) (z:=[]) .nil,ux hz,rfl,rfl,rfl,rfl,rfl,?_⟩
  show some (0:Int)=some _
  simp
theorem g_fkern{w v:Int}(hv:v≠1)(ql:qx true g l)(hg:oD g)(hB:(B.getLast?.map Nd.kind)=some 5):nI S tl [.bF w 0,.glue g] (.bF w v::l) [0,1+da l B]:=by
 have hs:=ql.sim
 have hb:da l B=0:=by unfold da;rw[hB,if_neg (fun x=>by have:=x.2;simp at this)]
 rw[hb]
 refine⟨rfl,?_,?_,⟨eu trivial (all1 hg.bD),eu trivial hs.bD⟩,eu (qy ⟨w,rfl⟩) (all1 hg.ph),?_⟩
 ·show(Nd.bF w 0).sm.add _=(Nd.bF w v).sm.add _
  rw[hs.iV];rfl
 ·rw[gx (.bF w v),hs.bad];rfl
 ·have uA:=vN (S:=S) (tl:=false) (z:=[]) (g:=g) (w:=w) (v:=0) .nil (by decide)
  rcases ql.cases with⟨g',z,rfl,hz⟩|⟨g',z,rfl,hz⟩
  ·refine⟨_,_,uA,vN hz hv,rfl,rfl,rfl,rfl,rfl,?_⟩
   show some (1+0:Int)=some _
   simp;lia
  ·refine⟨_,_,uA,u_fkern hz hv,rfl,rfl,rfl,rfl,rfl,?_⟩
   show some (1+0:Int)=some _
   simp;lia
theorem PcQ.q{w:Int}(h:PcQ w l):fY S w l:=by
 rcases h with⟨c,rfl⟩|⟨c,a,s,rfl⟩
 ·exact q_two 2 c
 ·exact BA 2 c a s
theorem vS{P Q:List Int}(h:P.isEmpty=Q.isEmpty):costOf S P=costOf S Q:=by
 unfold costOf
 cases P<;>cases Q<;>simp_all
theorem g_disc{o0 o1 o2:Option Int}(q:px S o0 o1 o2 l):nI S tl [.bL (txt o0) (txt o1) (txt o2)] l [0]:=by
 revert S tl l o0 o1 o2
 apply aN;intro
 generalize bM .. =S,bN .. =tl,bQ .. =l,bR .. =o0
 apply aP;intro
 generalize bP .. =o1,bS .. =o2
 intro q
 unfold px at q
 split at q
 ·rename_i hc
  have key:total l=⟨(txt o2).sum,0,0,0,0,0⟩∧cL l=false∧(∀d∈l,d.bD)∧dG S (!tl) (ar tl++l) none:=by
   cases o2 with
   |none=>
    cases (q:l=[])
    refine⟨rfl,rfl,by simp,nF (fun r hr=>hr.1) ?_⟩
    intro cN i r _
    exact⟨cN,rfl⟩
   |some x=>
    have b:fY S x l:=PcQ.q q
    refine⟨?_,b.bad,b.bD,nF (fun r _=>b.ng r) ?_⟩
    ·rw[b.iV];simp[txt]
    ·intro cN i r _
     exact⟨true,b.scan _ _ _ _⟩
  obtain⟨k1,k2,k3,k4⟩:=key
  refine⟨rfl,?_,?_,⟨all1 trivial,k3⟩,all1 (qy ⟨_,rfl⟩),none,none,yz (tl:=false) hc,k4,trivial⟩
  ·rw[k1];show Sm.add _ .zero=_;rw[Sm.add_zero];rfl
  ·rw[k2];rfl
 ·rename_i hc
  obtain⟨P,q,mm,rfl,⟨a1,a2⟩,⟨b1,b2⟩,c1⟩:=q
  refine⟨rfl,?_,rfl,⟨all1 trivial,all1 trivial⟩,all1 (qy ⟨_,rfl⟩),?_⟩
  ·show Sm.add ⟨_,_,_,_,_,_⟩ _=Sm.add ⟨_,_,_,_,_,_⟩ _
   rw[c1]
  ·refine⟨_,_,By (tl:=false) (by exact Int.lt_of_not_ge hc),By (by rw[vS a2];exact Int.lt_of_not_ge hc),?_,rfl,rfl,a1.symm,b1.symm,?_⟩
   ·show er _=er _
    rw[vS a2]
   ·show some (0:Int)=some _
    simp
theorem g_math{w:Int}{c l':List Nd}{x y z:Int}{k:Int}(hc:fY S w c)(q:qx false g l)(q':qx false h l')(hg:oD g)(hh:oD h):
  nI S tl [.math true 1,.box 2 w,.glue g,.math false 2,.glue h] (.math true 1::(c++(l++.math false 2::l'))) [x,y,z,((1+c.length+l.length:Nat):Int),k]:=by
 obtain⟨g',z1,rfl,hz,hs⟩:=q.plain
 obtain⟨h',z2,rfl,hz',vc⟩:=q'.plain
 have bx:fY S w [.box 2 w]:=nH 2
 have e1:total (Nd.math true 1::(c++(Nd.glue g'::z1)))=total [.math true 1,.box 2 w,.glue g]:=by
  show(Nd.math true 1).sm.add (total (c++_))=(Nd.math true 1).sm.add (total ([.box 2 w]++[.glue g]))
  rw[aZ,aZ,hc.iV,bx.iV,hs.iV]
 have e2:total (Nd.math false 2::(Nd.glue h'::z2))=total [.math false 2,.glue h]:=by
  show(Nd.math false 2).sm.add _=(Nd.math false 2).sm.add _
  rw[vc.iV]
 have eB:(Nd.math true 1::(c++(Nd.glue g'::z1++.math false 2::Nd.glue h'::z2)))=(Nd.math true 1::(c++(Nd.glue g'::z1)))++(Nd.math false 2::(Nd.glue h'::z2)):=by simp
 refine⟨rfl,?_,?_,⟨eu trivial (eu trivial (eu hg.bD (eu trivial (all1 hh.bD)))),?_⟩,eu (qy ⟨_,rfl⟩) (eu (qy ⟨_,rfl⟩) (eu hg.ph (eu (qy ⟨_,rfl⟩) (all1 hh.ph)))),?_⟩
 ·rw[eB,aZ,e1,e2,←aZ];rfl
 ·rw[eB,d5,gx (.math true 1) (c++_),d5,hc.bad,hs.bad,gx _ (Nd.glue h'::z2),vc.bad]
  show(false || (false || ((Nd.glue g).bad || (false || cL [.glue h]))))=(false || (false || ((Nd.glue g).bad || false)) || (false || cL [.glue h]))
  cases (Nd.glue g).bad<;>rfl
 ·rw[eB]
  exact alla (eu trivial (alla hc.bD hs.bD)) (eu trivial vc.bD)
 ·have uA:=Bz (S:=S) (tl:=false) (a:=1) (b:=2) (g:=g) (h:=h) bx .nil .nil
  have uB:=Bz (S:=S) (tl:=tl) (a:=1) (b:=2) (g:=g') (h:=h') hc hz hz'
  refine⟨_,some ⟨(ar tl).length+(.math true 1::c++.glue g'::z1:List Nd).length,0,0,total (.math true 1::c++.glue g'::z1),0,0,true⟩,uA,?_,?_⟩
  ·rw[eB];exact uB
  ·refine⟨rfl,rfl,e1.symm,rfl,rfl,?_⟩
   show some (((1+c.length+(Nd.glue g'::z1).length:Nat):Int))=some _
   simp;lia
end
section
variable {R:PV→aa→Prop}{E:XK→aa→Prop}{ns:List Int}{n:Nat}{M:List Nat}{p t a b m T:Nat}{H:aa}{A B:List Nd}{mv:List Int}{S:bp}{st:PV}
def GapO(S:bp)(M:List Nat)(p t a b m T:Nat)(tl:Bool)(H:aa)(A B:List Nd)(mv:List Int)(H':aa):Prop:=
 ∃gA gB uy,nI S tl gA gB uy∧gA.length≤5∧Told M p t a b m (T+60) H' (A++gA) (B++gB) (mv++uy.map ((B.length:Int)+·))∧aE M H H'
theorem kI(B:List Nd)(d:Nd):((B++[d]).getLast?.map Nd.kind)=some d.kind:=by simp
theorem pz{free:Bool}(h:Told M p t a b m T H A B mv)(hB:B≠[])(hT:T<4000){K:PV→aa→Prop}{E':XK→aa→Prop}
  (hQ:∀g l H',oD g→qx free g l→Told M p t a b m (T+13) H' (A++[.glue g]) (B++l) (mv++[(B.length:Int)+da l B])→aE M H H'→K .none H'):
  Wc (aj (aO ns) (n+5) 804 [.ref p] H) (fun v H'=>Wc (aj (aO ns) (n+5) 797 [.ref p,.ref t,v,.bool free] H') K E) E':=
 s804 h.env (by exact cB hT rfl) fun r w s so sh bJ H1 g ok k1 e1=>s797 (h.e k1 e1 (by exact Nat.le_add_right _ _)) g ok hB (by exact bE 5 hT rfl) fun l H2 hl h2 k2=>hQ _ l H2 (.of ok) hl h2 ((h.env.wide k1).trans k2)
theorem len_snoc{α:Type}{B:List α}{d:α}:((B++[d]).length:Int)=(B.length:Int)+1:=by simp
theorem mv_two{d:Nd}{x:Int}:mv++[0,1+x].map ((B.length:Int)+·)=mv++[(B.length:Int)+0]++[((B++[d]).length:Int)+x]:=by
 simp;lia
theorem GapO.two{tl:Bool}{H':aa}{d d':Nd}{g:Gl}{l:List Nd}{x:Int}{T':Nat}(q:nI S tl [d',.glue g] (d::l) [0,1+x])(h:Told M p t a b m T' H' (A++[d']++[.glue g]) (B++[d]++l) (mv++[(B.length:Int)+0]++[((B++[d]).length:Int)+x]))(hT:T'≤T+60)(k:aE M H H'):GapO S M p t a b m T tl H A B mv H':=by
 refine⟨_,_,_,q,by simp,?_,k⟩
 rw[mv_two (d:=d)]
 rw[List.append_assoc,List.append_assoc] at h
 exact h.le hT
theorem s823{tl:Bool}(h:Told M p t a b m T H A B mv)(hS:sv M H st S)(hB:B≠[])(hl:Lst tl B)(hT:T<3000)(k:∀H',GapO S M p t a b m T tl H A B mv H'→R .none H'):
  Wc (aj (aO ns) (n+6) 823 [.ref p,.ref t,st] H) R E:=by
 revert R E ns n M p t a b m T H A B mv S st tl
 apply aT;intro
 generalize bX .. =R,bY .. =E,bZ .. =ns,b7 .. =n,cv .. =M,cw .. =p,cx .. =t,cy .. =a
 apply aT;intro
 generalize bX .. =b,bY .. =m,bZ .. =T,b7 .. =H,cv .. =A,cw .. =B,cx .. =mv,cy .. =S
 apply aP;intro
 generalize bP .. =st,bS .. =tl
 intro h hS hB hl hT k
 refine aS rfl rfl (dw h.env 10 (by decide) (by decide) (by exact cB hT rfl) fun s H1 s0 s1 k1 e1=> ?_)
 have h1:=h.e k1 e1 (by exact Nat.le_succ _)
 have kk:=h.env.wide k1
 have S1:=hS.keep kk
 have ne:∀{d},B++[d]≠[]:=by simp
 have dm:∀{x:Int},-100≤x→x≤100→Dm x:=fun a b=>⟨by exact ji a rfl,by exact qB b rfl⟩
 refine .of (fun z=> ?_) fun _=>.of (fun z=> ?_) fun _=>.of (fun z=> ?_) fun _=>.of (fun z=> ?_) fun _=>.of (fun z=> ?_) fun _=> ?_
 ·exact pz h1 hB (by exact bE 1 hT rfl) fun g l H2 hg hq h2 k2=>k _ ⟨_,_,_,g_glue hq hg hl,by simp,h2.le (by exact cO (k:=14) (l:=60) rfl),kk.trans k2⟩
 ·refine iW [50,-50,10000,120,-300,9999,-10000] h1.env rfl (by decide) (by decide) (by exact bE 1 hT rfl) fun x mx H2 k2 e2=> ?_
  have hx: -10000≤x∧x≤10000:=by
   simp only[List.mem_cons,List.not_mem_nil,or_false] at mx;exact qC (P:=fun x=>-10000≤x∧x≤10000) [50,-50,10000,120,-300,9999,-10000] rfl mx
  refine s811 (h1.e k2 e2 (by exact cO (k:=1) (l:=2) rfl)) hx (by exact bE 2 hT rfl) fun y H3 hq h3 k3=>dw h3.env 3 (by decide) (by decide) (by exact bE 4 hT rfl) fun u H4 u0 u1 k4 e4=> ?_
  have h4:=h3.e k4 e4 (by exact cO (k:=4) (l:=5) rfl)
  have K4:=kk.trans ((h1.env.wide k2).trans (k3.trans (h3.env.wide k4)))
  exact .of (fun _=>pz h4 ne (by exact bE 5 hT rfl) fun g l H5 hg hq' h5 k5=>k _ (.two (nP hq hq' hg) h5 (by exact cO (k:=18) (l:=60) rfl) (K4.trans k5))) fun _=>k _ ⟨_,_,[0],g_pen hq,by simp,h4.le (by exact cO (k:=5) (l:=60) rfl),K4⟩
 ·exact s816 h1 S1 (by exact bE 1 hT rfl) fun o0 o1 o2 l H2 dq h2 k2=>k _ ⟨_,_,[0],g_disc dq,by simp,h2.le (by exact cO (k:=16) (l:=60) rfl),kk.trans k2⟩
 ·refine jS h1.env (by decide) (dm (by decide) (by decide)) fun r2 H2 k2 e2 a2=>jS e2 (by decide) (dm (by decide) (by decide)) fun r3 H3 k3 e3 a3=> ?_
  obtain⟨k4,e4,a4⟩:=e3.row [.ref r3] [.bF 3 1] ⟨a3,trivial⟩
  have K:=k2.trans (k3.trans k4)
  exact su (h1.e K e4 (by exact Nat.le_refl _)) ((a2.e e2 k3).e e3 k4) a4 (by decide:1≤4) (by exact bE 1 hT rfl) fun H5 h5 k5=>pz h5 ne (by exact bE 2 hT rfl) fun g l H6 hg hq h6 k6=>k _ (.two (g_kern (w:=3) hq hg) h6 (by exact cO (k:=15) (l:=60) rfl) (kk.trans ((h1.env.wide K).trans (k5.trans k6))))
 ·refine jS h1.env (by decide) (dm (by decide) (by decide)) fun r2 H2 k2 e2 a2=>iW [0,2,3] e2 rfl (by decide) (by decide) (by exact bE 1 hT rfl) fun v mv' H3 k3 e3=> ?_
  have hv:v≠1∧0≤v∧v≤3:=by
   simp only[List.mem_cons,List.not_mem_nil,or_false] at mv';exact qC (P:=fun x=>x≠1∧0≤x∧x≤3) [0,2,3] rfl mv'
  refine jS e3 hv.2 (dm (by decide) (by decide)) fun r4 H4 k4 e4 a4=> ?_
  obtain⟨k5,e5,a5⟩:=e4.row [.ref r4] [.bF 3 v] ⟨a4,trivial⟩
  have K:=k2.trans (k3.trans (k4.trans k5))
  exact su (h1.e K e5 (by exact cO (k:=1) (l:=2) rfl)) (((a2.e e2 k3).e e3 k4).e e4 k5) a5 (by decide:1≤4) (by exact bE 2 hT rfl) fun H6 h6 k6=>pz h6 ne (by exact bE 3 hT rfl) fun g l H7 hg hq h7 k7=>k _ (.two (g_fkern (w:=3) hv.1 hq hg (kI _ _)) h7 (by exact cO (k:=16) (l:=60) rfl) (kk.trans ((h1.env.wide K).trans (k6.trans k7))))
 refine pj h1.env (dm (by decide) (by decide)) fun r2 H2 k2 e2 a2=>pj e2 (dm (by decide) (by decide)) fun r3 H3 k3 e3 a3=> ?_
 obtain⟨k4,e4,a4⟩:=e3.row [.ref r3] [.math true 1] ⟨a3,trivial⟩
 have K4:=k2.trans (k3.trans k4)
 refine su (h1.e K4 e4 (by exact Nat.le_refl _)) ((a2.e e2 k3).e e3 k4) a4 (by decide:1≤4) (by exact bE 1 hT rfl) fun H5 h5 k5=> ?_
 have K5:=(h1.env.wide K4).trans k5
 refine s790 h5 (S1.keep K5) (by exact bE 2 hT rfl) fun w lb H6 hb h6 k6=>pz h6 (by simp) (by exact bE 12 hT rfl) fun g l H7 hg hq h7 k7=>pj h7.env (dm (by decide) (by decide)) fun r8 H8 k8 e8 a8=>pj e8 (dm (by decide) (by decide)) fun r9 H9 k9 e9 a9=> ?_
 obtain⟨lJ,sE,A3⟩:=e9.row [.ref r9] [.math false 2] ⟨a9,trivial⟩
 have K10:=k8.trans (k9.trans lJ)
 refine su (h7.e K10 sE (by exact Nat.le_refl _)) ((a8.e e8 k9).e e9 lJ) A3 (by decide:1≤4) (by exact bE 25 hT rfl) fun Ce lK qw=>pz lK (by simp) (by exact bE 26 hT rfl) fun g' l' H12 hg' hq' pI jN=>k _ ?_
 obtain⟨c,ld,c0,d,hlb,hc,-,-,hld,-⟩:=hb
 have hf:=hld rfl
 subst hf
 have elb:lb=c:=by rw[hlb];simp[bA,ar]
 subst elb
 refine⟨_,_,[0,1,1+lb.length+da l (B++[.math true 1]++lb),((1+lb.length+l.length:Nat):Int),1+lb.length+l.length+1+da l' (B++[.math true 1]++lb++l++[.math false 2])],g_math hc hq hq' hg hg',by simp,?_,kk.trans (K5.trans (k6.trans (k7.trans ((h7.env.wide K10).trans (qw.trans jN)))))⟩
 have:=pI.le (T':=T+60) (by exact cO (k:=39) (l:=60) rfl)
 have e:mv++[0,1,1+lb.length+da l (B++[.math true 1]++lb),((1+lb.length+l.length:Nat):Int),1+lb.length+l.length+1+da l' (B++[.math true 1]++lb++l++[.math false 2])].map ((B.length:Int)+·)
   =mv++[(B.length:Int)+0]++[((B++[Nd.math true 1]).length:Int)+0]++[((B++[Nd.math true 1]++lb).length:Int)+da l (B++[.math true 1]++lb)]++[((B++[Nd.math true 1]++lb++l).length:Int)+0]++[((B++[Nd.math true 1]++lb++l++[Nd.math false 2]).length:Int)+da l' (B++[.math true 1]++lb++l++[.math false 2])]:=by
  simp;lia
 rw[e]
 have eA:A++[.math true 1,.box 2 w,.glue g,.math false 2,.glue g']=A++[.math true 1]++[.box 2 w]++[.glue g]++[.math false 2]++[.glue g']:=by simp
 have eB:B++(.math true 1::(lb++(l++.math false 2::l')))=B++[.math true 1]++lb++l++[.math false 2]++l':=by simp
 rw[eA,eB]
 exact this
end
section
variable {R:PV→aa→Prop}{E:XK→aa→Prop}{ns:List Int}{n:Nat}{M:List Nat}{p t a b m T:Nat}{H:aa}{S:bp}{st:PV}
noncomputable def setF(g1 g2:Nat):List (Nat×PV):=[(34,.int 0),(35,.int 10000),(36,.int 0),(37,.int 0),(38,.int 0),(39,.int 0),(40,.int 0),(41,.int 0),(42,.int 0),(43,.int 0),(44,.ref g1),(45,.ref g2)]
theorem m564(e:Env M p T H)(k:∀r g1 g2 H',r∉M→H.length≤r→aE [p] H H'→Env M p T H'→H'[r]? =some (.inst 564 (setF g1 g2))→R (.ref r) H'):Wc (cA (aO ns) (aj (aO ns) (n+4)) 564 [] H) R E:=by
 refine make rfl (aS rfl rfl (aB (aB (aB (aB (aB (aB (aB (aB (aB (aB ?_)))))))))))
 obtain⟨k1,e1,a1⟩:=e.new (.inst 564 [(34,PV.int 0),(35,PV.int 10000),(36,.int 0),(37,.int 0),(38,.int 0),(39,.int 0),(40,.int 0),(41,.int 0),(42,.int 0),(43,.int 0)])
 refine qv rfl (e1.more (by rw[List.length_append];exact Nat.lt_succ_self _)) fun g1 H2 k2 e2 b2=> ?_
 have a2:=a1.e e1 k2
 refine .of (eK a2.at_ rfl (by decide:10<100)) ?_
 have k3:∀o,aE [p] H (H2.set H.length o):=fun o=>(k1.trans k2).set (.inr (Nat.le_refl _))
 have e3:∀o,Env M p T (H2.set H.length o):=fun o=>(e2.less e.mem).set a2.nK
 have a3:∀{o},(H2.set H.length o)[H.length]? =some o:=getset a2.at_
 refine qv rfl (e3 _) fun g2 H4 k4 e4 b4=> ?_
 have a4:=(At.e (e3 _) k4 ⟨a3,a2.nK⟩).at_
 exact .of (eK a4 rfl (by decide:11<100)) (k H.length g1 g2 _ a2.nK (Nat.le_refl _) (((k3 _).trans k4).set (.inr (Nat.le_refl _))) (e4.set a2.nK) (getset a4))
def lq(M:List Nat)(H:aa)(v:PV)(S:bp)(gl gr:Gl):Prop:=∀H',aE M H H'→oz H' v S gl gr
theorem lq.keep{H':aa}{v:PV}{gl gr:Gl}(k:aE M H H')(h:lq M H v S gl gr):lq M H' v S gl gr:=fun nV k'=>h nV (k.trans k')
theorem lq.s{v:PV}{gl gr:Gl}(h:lq M H v S gl gr):sv M H v S:=fun H' k=>(h H' k).r
def kJ(g:Gl):Prop:=∃w st so sh,eY w st so sh 0∧g=cZ w st so sh 0
theorem kJ.lok{g:Gl}(h:kJ g):g.bJ=0∧0≤g.so∧g.so≤3:=by
 obtain⟨w,st,so,sh,a,rfl⟩:=h
 have:=a.so
 show(if sh=0 then 0 else(0:Int))=0∧0≤(if st=0 then 0 else so)∧(if st=0 then 0 else so)≤3
 exact⟨by split<;>rfl,vW z03 this⟩
theorem kJ.bd{g g':Gl}{x:Int}(h:kJ g)(h':kJ g')(hx:0≤x∧x≤100):Bd (cT g g' x):=by
 obtain⟨w,st,so,sh,a,rfl⟩:=h
 obtain⟨w',st',so',sh',a',rfl⟩:=h'
 have h1:=a.st
 have h2:=a'.st
 have h3:=a.sh
 have h4:=a'.sh
 unfold Bd cT
 rw[vR,vR]
 exact bd4 (vW h1 z10) (vW h2 z10) hx h3 h4
theorem set_of{r g1 g2:Nat}{x1 x2 x3 x4 x5 x6 x7:Int}{gl gr:Gl}(h:H[r]? =some (.inst 564 [(34,.int 0),(35,.int 10000),(36,.int x1),(37,.int x2),(38,.int x3),(39,.int x4),(40,.int x5),(41,.int x6),(42,.int x7),(43,.int 0),(44,.ref g1),(45,.ref g2)]))
  (h1:yg H (.ref g1) gl) (h2:yg H (.ref g2) gr) (o1:kJ gl) (o2:kJ gr) (b:∀x∈[x1,x2,x3,x4,x5,x6,x7],-100000≤x∧x≤100000):oz H (.ref r) ⟨x1,x2,x3,x4,x5,x6,x7⟩ gl gr:=
 ⟨⟨aA h rfl rfl,aA h rfl rfl,aA h rfl rfl,aA h rfl rfl,aA h rfl rfl,aA h rfl rfl,aA h rfl rfl⟩,⟨0,aA h rfl rfl,by decide⟩,⟨10000,aA h rfl rfl,by decide⟩,⟨0,aA h rfl rfl,by decide⟩,
  ⟨_,aA h rfl rfl,h1⟩,⟨_,aA h rfl rfl,h2⟩,b,o1.lok,o2.lok⟩
theorem aE.drop{H1 H2:aa}{r:Nat}(a:aE M H H1)(b:aE (r::M) H1 H2)(h:H.length≤r):aE M H H2:=by
 refine⟨Nat.le_trans a.len b.len,fun i o m e=>b.at_ i o (fun q=> ?_) (a.at_ i o m e)⟩
 have:=(List.getElem?_eq_some_iff.mp e).1
 rcases List.mem_cons.mp q with q|q
 ·exact Nat.ne_of_lt (Nat.lt_of_lt_of_le this h) q
 ·exact m q
end
section
variable {R:PV→aa→Prop}{E:XK→aa→Prop}{ns:List Int}{n:Nat}{M:List Nat}{p t a b m T:Nat}{H:aa}{S:bp}{st:PV}
theorem setM{r k:Nat}{fs:List (Nat×PV)}{v:PV}{K:aa→Prop}(e:Env (r::M) p T H)(hr:H[r]? =some (.inst 564 fs))(hp:p≠r)(hb:dQ.contains (564,k)=false)(hl:fs.length<100)
  (g:∀H',aE (r::M) H H'→Env (r::M) p T H'→H'[r]? =some (.inst 564 (putN k v fs))→K H'):WO (dX (aO ns) H (.ref r) k v) K:=by
 refine .of (eK hr hb hl) (g _ ((aE.refl _).set (.inl (List.mem_cons_self ..))) ⟨fun i q=>by rw[List.length_set];exact e.low i q,e.mem,?_⟩ (getset hr))
 obtain⟨w,t,g,q⟩:=e.qu
 exact⟨w,t,by rw[bz (Ne.symm hp)];exact g,q⟩
theorem gO{r k:Nat}{m:Int}{fs:List (Nat×PV)}{K:aa→Prop}{E':XK→aa→Prop}(ms:List Int)(e:Env (r::M) p T H)(hr:H[r]? =some (.inst 564 fs))(hp:p≠r)(hb:dQ.contains (564,k)=false)(hl:fs.length<100)(hm:(ms.length:Int)=m)(h0:0<m)(h1:m<1000)(hT:T<10 ^ 12)
  (g:∀x∈ms,∀H',aE (r::M) H H'→Env (r::M) p (T+1) H'→H'[r]? =some (.inst 564 (putN k (.int x) fs))→K H'):
  Wc (aj (aO ns) (n+1) 748 [.ref p,.int m] (H++[.list (ms.map .int)])) (fun y H'=>kL H' (.ref H.length) y fun v=>WO (dX (aO ns) H' (.ref r) k v) K) E':=
 iW ms e hm h0 h1 (by exact cB hT rfl) fun x mx H1 k1 e1=>setM e1 (gp k1 hp hr) hp hb hl fun H2 k2 e2 a2=>g x mx H2 ((e.wide k1).trans k2) e2 a2
theorem in5{x:Int}{ms:List Int}(h:∀x∈ms,-100000≤x∧x≤100000)(m:x∈ms): -100000≤x∧x≤100000:=h x m
theorem vT{w st so sh:Int}{K:PV→aa→Prop}{E':XK→aa→Prop}(ok:eY w st so sh 0)(e:Env M p T H)(k:∀r H',aE [p] H H'→Env M p T H'→At M H' r (.inst 227 (uk w st so sh 0))→K (.ref r) H'):
  Wc (cA (aO ns) (aj (aO ns) (n+3)) 227 [.int w,.int st,.int so,.int sh,.int 0] H) K E':=by
 obtain⟨h1,h2,h3,h4,h5⟩:=ok
 exact vO e (by unfold Dm;exact b8 h1 rfl rfl) (by unfold Dm;exact b8 h2 rfl rfl) (by unfold Dm;exact b8 h4 rfl rfl) h3 h5 k
theorem vU{r k:Nat}{c1 c2 c3 c4 d1 d2 d3 d4:Int}{fs:List (Nat×PV)}{Q:QL}{E:EL}(e:Env (r::M) p T H)(hr:H[r]? =some (.inst 564 fs))(hp:p≠r)(hb:dQ.contains (564,k)=false)(hl:fs.length<100)
  (hc:eY c1 c2 c3 c4 0) (hd:eY d1 d2 d3 d4 0) (hT:T<10 ^ 12)
  (h:∀g H' w st so sh,eY w st so sh 0→aE (r::M) H H'→Env (r::M) p (T+1) H'→At (r::M) H' g (.inst 227 (uk w st so sh 0))→H'[r]? =some (.inst 564 (putN k (.ref g) fs))→Q .next [some (.ref p),some (.ref r)] H'):
  wS (aO ns) (aj (aO ns) (n+3)) (.aw (.var 1) k (.item (.list (.cons (.callC 227 .nil) (.cons (.callC 227 (.cons (.const (.int c1)) (.cons (.const (.int c2)) (.cons (.const (.int c3)) (.cons (.const (.int c4)) (.cons (.const (.int 0)) .nil)))))) (.cons (.callC 227 (.cons (.const (.int d1)) (.cons (.const (.int d2)) (.cons (.const (.int d3)) (.cons (.const (.int d4)) (.cons (.const (.int 0)) .nil)))))) .nil)))) (.ah 748 (.cons (.var 0) (.cons (.const (.int 3)) .nil))))) [some (.ref p),some (.ref r)] H Q E:=by
 refine qv rfl e fun g1 H1 k1 e1 a1=>vT hc e1 fun g2 H2 k2 e2 a2=>vT hd e2 fun g3 H3 k3 e3 a3=>lp e3 rfl (by decide) (by decide) (by exact cB hT rfl) fun v mv H4 k4 e4=> ?_
 have b1:=((a1.e e1 k2).e e2 k3).e e3 k4
 have b2:=(a2.e e2 k3).e e3 k4
 have b3:=a3.e e3 k4
 have K:=k1.trans (k2.trans (k3.trans k4))
 obtain⟨g,w,s,o,x,ok,rfl,hg⟩:∃g w s o x,eY w s o x 0∧v=.ref g∧At (r::M) H4 g (.inst 227 (uk w s o x 0)):=by
  simp only[List.mem_cons,List.not_mem_nil,or_false] at mv
  rcases mv with rfl|rfl|rfl
  ·exact⟨g1,0,0,0,0,⟨by decide,by decide,by decide,by decide,by decide⟩,rfl,b1⟩
  ·exact⟨g2,_,_,_,_,hc,rfl,b2⟩
  ·exact⟨g3,_,_,_,_,hd,rfl,b3⟩
 exact setM e4 (gp K hp hr) hp hb hl fun H5 k5 e5 a5=>h g H5 w s o x ok ((e.wide K).trans k5) e5 (hg.keep k5) a5
theorem s755(e:Env M p T H)(hT:T<10 ^ 10)(k:∀r S gl gr H',lq M H' (.ref r) S gl gr→kJ gl→kJ gr→aE M H H'→Env M p (T+9) H'→R (.ref r) H'):Wc (aj (aO ns) (n+5) 755 [.ref p] H) R E:=by
 revert R E ns n M p T H
 apply aT;intro
 generalize bX .. =R,bY .. =E,bZ .. =ns,b7 .. =n,cv .. =M,cw .. =p,cx .. =T,cy .. =H
 intro e hT k
 refine aS rfl rfl (m564 e ?_)
 apply aN;intro
 generalize bM .. =r,bN .. =g1,bQ .. =g2,bR .. =H1
 intro hm hlo k1 e1 a1
 have hp:p≠r:=fun x=>hm (x▸e.mem)
 have e1':=e1.more (List.getElem?_eq_some_iff.mp a1).1
 have l12:∀{l:List (Nat×PV)},l.length=12→l.length<100:=fun h=>h▸(by decide)
 refine gO [10,0,100,-50] e1' a1 hp rfl (by decide:12<100) rfl (by decide) (by decide) (by exact cB hT rfl) ?_
 apply aJ;intro
 generalize nx .. =x1
 intro m1 H2 k2 e2 a2
 replace m1:=in5 (by decide) m1
 refine gO [50,10000,-30,0,12000,200] e2 a2 hp rfl (by decide:12<100) rfl (by decide) (by decide) (by exact bE 1 hT rfl) fun x2 m2 H3 k3 e3 a3=> ?_
 replace m2:=in5 (by decide) m2
 refine gO [50,10000,-20] e3 a3 hp rfl (by decide:12<100) rfl (by decide) (by decide) (by exact bE 2 hT rfl) fun x3 m3 H4 k4 e4 a4=> ?_
 replace m3:=in5 (by decide) m3
 refine gO [0,5000,200,-300] e4 a4 hp rfl (by decide:12<100) rfl (by decide) (by decide) (by exact bE 3 hT rfl) fun x4 m4 H5 k5 e5 a5=> ?_
 replace m4:=in5 (by decide) m4
 refine gO [0,3000,-500] e5 a5 hp rfl (by decide:12<100) rfl (by decide) (by decide) (by exact bE 4 hT rfl) fun x5 m5 H6 k6 e6 a6=> ?_
 replace m5:=in5 (by decide) m5
 refine gO [0,1000,5000] e6 a6 hp rfl (by decide:12<100) rfl (by decide) (by decide) (by exact bE 5 hT rfl) fun x6 m6 H7 k7 e7 a7=> ?_
 replace m6:=in5 (by decide) m6
 refine gO [0,0,0,1,-1,2] e7 a7 hp rfl (by decide:12<100) rfl (by decide) (by decide) (by exact bE 6 hT rfl) fun x7 m7 H8 k8 e8 a8=> ?_
 replace m7:=in5 (by decide) m7
 have ok:∀{w st so sh:Int},(-10≤w∧w≤10)→(0≤st∧st≤10)→(0≤so∧so≤3)→(0≤sh∧sh≤10)→eY w st so sh 0:=fun a b c d=>⟨a,b,c,d,by decide⟩
 refine vU e8 a8 hp rfl (by decide:12<100) (ok (by decide) (by decide) (by decide) (by decide)) (ok (by decide) (by decide) (by decide) (by decide)) (by exact bE 7 hT rfl) fun gl H9 w s o x BV k9 e9 ag9 a9=> ?_
 refine vU e9 a9 hp rfl (by decide:12<100) (ok (by decide) (by decide) (by decide) (by decide)) (ok (by decide) (by decide) (by decide) (by decide)) (by exact bE 8 hT rfl) fun gr H10 w' s' o' x' BW lJ sE ag10 A3=> ?_
 have K:aE (r::M) H1 H10:=k2.trans (k3.trans (k4.trans (k5.trans (k6.trans (k7.trans (k8.trans (k9.trans lJ)))))))
 have ag:=ag9.keep lJ
 refine k r ⟨x1,x2,x3,x4,x5,x6,x7⟩ (cZ w s o x 0) (cZ w' s' o' x' 0) H10 (fun nV k=> ?_) ⟨w,s,o,x,BV,rfl⟩ ⟨w',s',o',x',BW,rfl⟩ ((e.wide k1).drop K hlo) (sE.less e.mem)
 refine set_of (k.at_ _ _ hm A3) (BH (k.at_ _ _ (fun q=>ag.nK (List.mem_cons_of_mem _ q)) ag.at_)) (BH (k.at_ _ _ (fun q=>ag10.nK (List.mem_cons_of_mem _ q)) ag10.at_)) ⟨w,s,o,x,BV,rfl⟩ ⟨w',s',o',x',BW,rfl⟩ ?_
 intro y my
 simp only[List.mem_cons,List.not_mem_nil,or_false] at my
 rcases my with rfl|rfl|rfl|rfl|rfl|rfl|rfl<;>assumption
end
section
variable {R:PV→aa→Prop}{E:XK→aa→Prop}{ns:List Int}{n:Nat}{M:List Nat}{p t a b m T:Nat}{H:aa}{S:bp}{st:PV}
noncomputable def pA(q:Int×Int):PV:=.tup [.int q.1,.int q.2]
theorem rowC{R:List PV→aa→Prop}{x0 x1 x2 x3 x4 x5:Option PV}(rows:List (Int×Int)):∀(acc:List PV) (y z:Option PV),(∀q∈rows,Dm q.1∧Dm q.2)→acc.length+rows.length<1000→R (acc++rows.map pA) H→
  runC (wE (aO ns) (aj (aO ns) (n+2)) (.tuple (.cons (.ah 110 (.cons (.var 6) .nil)) (.cons (.ah 110 (.cons (.var 7) .nil)) .nil)))) [6,7] R (rows.map pA) acc [x0,x1,x2,x3,x4,x5,y,z] H:=by
 induction rows with
 |nil=>
  intro acc _ _ _ _ h;rw[List.map_nil,List.append_nil] at h;exact h
 |cons q rows ih=>
  intro acc y z hq hl h
  have hd:=hq q (List.mem_cons_self ..)
  rw[List.length_cons] at hl
  exact dF hd.1 (dF hd.2 ⟨by exact Nat.lt_of_le_of_lt (Nat.le_add_right _ _) hl,ih _ _ _ (fun x m=>hq x (List.mem_cons_of_mem _ m)) (by rw[List.length_append,List.length_singleton];exact ar401 hl) (by rw[List.append_assoc];exact h)⟩)
theorem m543{w iy after done:Int}{rows:List (Int×Int)}(e:Env M p T H)(h1: -1000≤w∧w≤1000)(h2: -1000≤iy∧iy≤1000)(h3: -1000≤after∧after≤1000)(h4:0≤done∧done≤100)(hr:rows.length<100)(hq:∀q∈rows,Dm q.1∧Dm q.2)
  (k:∀r H',aE [p] H H'→Env M p T H'→At M H' r (.inst 543 (jh.fs ⟨w,iy,w - fW iy,after,rows,done⟩))→R (.ref r) H'):Wc (cA (aO ns) (aj (aO ns) (n+4)) 543 [.int w,.int iy,.int after,.tup (rows.map pA),.int done] H) R E:=by
 revert R E ns n M p T H w iy after done rows
 apply aT;intro
 generalize bX .. =R,bY .. =E,bZ .. =ns,b7 .. =n,cv .. =M,cw .. =p,cx .. =T,cy .. =H
 apply aN;intro
 generalize bM .. =w,bN .. =iy,bQ .. =after,bR .. =done
 apply aJ;intro
 generalize nx .. =rows
 intro e h1 h2 h3 h4 hr hq k
 obtain⟨k1,e1,a1⟩:=e.new (.inst 543 [(0,.int w),(29,.int iy),(30,.int (w - fW iy)),(31,.int after)])
 have hl:(rows.map pA).length<1000:=by rw[List.length_map];exact cB hr rfl
 obtain⟨k2,e2,a2⟩:=e1.new (.list (rows.map pA))
 have g2:=a1.e e1 k2
 refine make rfl (o5 rfl rfl (dF (by unfold Dm;exact b8 h1 rfl rfl) (aB (dF (by unfold Dm;exact b8 h2 rfl rfl) (aB (dF (x:=w - fW iy) (by unfold Dm fW;split;exact b8 (jj h1 (a_ig h2)) rfl rfl;exact b8 (jj h1 h2) rfl rfl) (aB (rN (by unfold Nm;exact b8 h3 rfl rfl) (aB (.of hl (qh (rowC rows [] none none hq (by rw[List.length_nil];exact cB (lt_of_eq_of_lt (Nat.zero_add _) hr) rfl) (.of hl (.of a2.at_ (.of (Nat.lt_trans hl (by decide)) (.of (eK g2.at_ rfl (by decide:4<100)) ?_))))))))))))))))
 have a3:∀{o},((H++[aH.inst 543 [(0,.int w),(29,.int iy),(30,.int (w - fW iy)),(31,.int after)]]++[aH.list (rows.map pA)]).set H.length o)[H.length]? =some o:=getset g2.at_
 refine ky h4.1 (by exact qB h4.2 rfl) (.of (eK a3 rfl (by decide:5<100)) ?_)
 rw[List.set_set]
 exact k _ _ ((k1.trans k2).set (.inr (Nat.le_refl _))) (e2.set a1.nK) ⟨getset g2.at_,a1.nK⟩
def sx(M:List Nat)(H:aa)(v:PV)(s:jh):Prop:=∀H',aE M H H'→iz H' v s
theorem sx.keep{H':aa}{v:PV}{s:jh}(k:aE M H H')(h:sx M H v s):sx M H' v s:=fun nV k'=>h nV (k.trans k')
theorem sx.of{r:Nat}{s:jh}(a:At M H r (.inst 543 s.fs))(h:s.rows.length<100):sx M H (.ref r) s:=fun _ k=>⟨r,rfl,(a.keep k).at_,h⟩
theorem s762(e:Env M p T H)(hT:T<10 ^ 10)(k:∀r s H',sx M H' (.ref r) s→(0≤s.done∧s.done≤100)→aE [p] H H'→Env M p (T+4) H'→R (.ref r) H'):Wc (aj (aO ns) (n+5) 762 [.ref p] H) R E:=by
 revert R E ns n M p T H
 apply aT;intro
 generalize bX .. =R,bY .. =E,bZ .. =ns,b7 .. =n,cv .. =M,cw .. =p,cx .. =T,cy .. =H
 intro e hT k
 refine aS rfl rfl (dw e 4 (by decide) (by decide) (by exact cB hT rfl) fun s H1 s0 s1 k1 e1=>dw e1 50 (by decide) (by decide) (by exact bE 1 hT rfl) fun w H2 w0 w1 k2 e2=>iW [0,0,2] e2 rfl (by decide) (by decide) (by exact bE 2 hT rfl) fun d md H3 k3 e3=> ?_)
 have hd:0≤d∧d≤100:=by
  simp only[List.mem_cons,List.not_mem_nil,or_false] at md;exact qC (P:=fun x=>0≤x∧x≤100) [0,0,2] rfl md
 have K3:=k1.trans (k2.trans k3)
 refine .of (fun z=> ?_) fun _=>.of (fun z=> ?_) fun _=> ?_
 ·exact m543 (rows:=[]) e3 (by exact b8 (eM (d6 40) (eE w0 w1)) rfl rfl) (by decide) (by decide) hd (by decide) (by simp) fun r H4 k4 e4 a4=>k _ _ _ (.of a4 (by decide:0<100)) hd (K3.trans k4) (e4.le (by exact cO (k:=3) (l:=4) rfl))
 ·refine m543 (rows:=[(0,40+w),(5,40+w - 8),(0,40+w+6)]) e3 (by exact b8 (eM (d6 40) (eE w0 w1)) rfl rfl) (by decide) (by decide) hd (by decide:3<100) ?_ fun r H4 k4 e4 a4=>k _ _ _ (.of a4 (by decide:3<100)) hd (K3.trans k4) (e4.le (by exact cO (k:=3) (l:=4) rfl))
  intro q mq
  simp only[List.mem_cons,List.not_mem_nil,or_false] at mq
  rcases mq with rfl|rfl|rfl<;>unfold Dm<;>dsimp only<;>first|exact⟨b8 (d6 _) rfl rfl,b8 (eM (d6 40) (eE w0 w1)) rfl rfl⟩|exact⟨b8 (d6 _) rfl rfl,b8 (jj (eM (d6 40) (eE w0 w1)) (d6 8)) rfl rfl⟩|exact⟨b8 (d6 _) rfl rfl,b8 (eM (eM (d6 40) (eE w0 w1)) (d6 6)) rfl rfl⟩
 ·refine lp e3 rfl (by decide) (by decide) (by exact bE 3 hT rfl) fun v mv H4 k4 e4=> ?_
  obtain⟨x,y,rfl,hx,hy⟩:∃x y,v=.tup [.int x,.int y]∧(-1000≤x∧x≤1000)∧(-1000≤y∧y≤1000):=by
   simp only[List.mem_cons,List.not_mem_nil,or_false] at mv
   rcases mv with rfl|rfl|rfl|rfl<;>exact⟨_,_,rfl,by decide,by decide⟩
  exact m543 (rows:=[]) e4 (by exact b8 (eM (d6 40) (eE w0 w1)) rfl rfl) hx hy hd (by decide) (by simp) fun r H5 k5 e5 a5=>k _ _ _ (.of a5 (by decide:0<100)) hd (K3.trans (k4.trans k5)) e5
end
theorem BX{d:Int}{T:eW}{cs:List Core}(r:List Core):∀(j:Nat) (a a':List Wy),(∀w∈a,nC d j w)→nA T cs j r a=some a'→∀w∈a',nC d (j+r.length) w:=by
 induction r with
 |nil=>
  intro j a a' h e;cases e;exact h
 |cons c r ih=>
  intro j a a' h e
  rw[uo] at e
  split at e
  ·cases e
  ·have:=ih (j+1) _ a' (o9 (T:=T) (cs:=cs) (c:=c) (isEnd:=r.isEmpty) h) e
   rw[List.length_cons,Nat.add_comm r.length 1,←Nat.add_assoc]
   exact this
theorem yK{T:eW}{cs:List Core}{p:List Nat}(h0:0≤T.dy.done)(e:dP T cs=some p):p.length≤cs.length∧∀i∈p,i<cs.length:=by
 revert T cs p
 apply aP;intro
 generalize bP .. =T,bS .. =cs
 apply aJ;intro
 generalize nx .. =p
 intro h0 e
 unfold dP at e
 cases h:nA T cs 0 cs [⟨[],T.dy.done,2,0⟩] with
 |none=>rw[h] at e;cases e
 |some a=>
  rw[h] at e
  have inv:=BX (d:=T.dy.done) cs 0 _ a (by
   intro w m
   rw[List.mem_singleton.mp m]
   exact⟨by simp,Nat.le_refl _,h0,by dsimp only;lia⟩) h
  cases a with
  |nil=>cases e
  |cons w r=>
   replace e:uq T (w::r)=some p:=e
   unfold uq at e
   dsimp only at e
   split at e
   ·cases e
   ·cases e
    have wi:=inv _ (pb w r T.S.loose)
    rw[Nat.zero_add] at wi
    exact⟨by rw[List.length_reverse];exact wi.len,fun i m=>wi.path i (List.mem_reverse.mp m)⟩
section
variable {R:PV→aa→Prop}{E:XK→aa→Prop}{ns:List Int}{n:Nat}{H:aa}
theorem Aq.ref{v:PV}{k:Nat}{x:PV}(h:Aq H v k x):∃r,v=.ref r:=by
 have:=h []
 cases v with
 |ref r=>exact⟨r,rfl⟩
 |_=>cases this
theorem s830{a b:Nat}{vs:List PV}(ha:H[a]? =some (.list vs))(hb:H[b]? =some (.list vs))(hl:vs.length<1000)(hv:∀v∈vs,∃r,v=.ref r)(k:R (.bool true) H):Wc (aj (aO ns) (n+1) 830 [.ref a,.ref b] H) R E:=by
 revert R E ns n H a b vs
 apply aT;intro
 generalize bX .. =R,bY .. =E,bZ .. =ns,b7 .. =n,cv .. =H,cw .. =a,cx .. =b,cy .. =vs
 intro ha hb hl hv k
 have hl':vs.length<100000:=Nat.lt_trans hl (by decide)
 refine aS rfl rfl (.of ha (.of hl' (.of hb (.of hl' (.pos rfl (.of ha (.of hb (.of ⟨hl',hl'⟩ ?_))))))))
 refine forI (fun _ (y:Option PV×Option PV)=>[some (.ref a),some (.ref b),y.1,y.2]) (fun _ _=>H) (fun _ _=>True) (none,none) vs.length (fun k=>.tup [(vs[k]?).getD .none,(vs[k]?).getD .none]) trivial ?_ ?_ (fun k y _ hk=> ?_) fun y _=>k
 ·intro k _ _ hk
  show(listAt H a).bind _=_
  rw[cX ha];show(listAt H b).map _=_
  rw[cX hb,Option.map_some,List.getElem?_eq_getElem hk];rfl
 ·intro _ _
  show(listAt H a).bind _=_
  rw[cX ha];show(listAt H b).map _=_
  rw[cX hb,Option.map_some,List.getElem?_eq_none (Nat.le_refl _)]
 ·obtain⟨r,e⟩:=hv _ (List.getElem_mem hk)
  rw[List.getElem?_eq_getElem hk,e]
  exact .pos rfl ⟨(_,_),rfl,rfl,trivial⟩
noncomputable def nQ:Str:=⟨#[114,101,102,117,115,101,100]⟩
noncomputable def changedS:Str:=⟨#[99,104,97,110,103,101,100]⟩
def nR(H:aa)(v:PV)(rows:List Row)(bad:Bool)(P:Option (List Nat)):Prop:=
 if bad=true then v=.str nQ else match P with
 |none=>v=.none
 |some p=>∃r,v=.ref r∧H[r]? =some (.list (cG rows p))
theorem nR.pre{H':aa}{v:PV}{rows:List Row}{bad:Bool}{P:Option (List Nat)}(k:Pre H H')(h:nR H v rows bad P):nR H' v rows bad P:=by
 unfold nR at h ⊢
 split at h
 ·rename_i q;rw[if_pos q];exact h
 ·rename_i q
  rw[if_neg q]
  cases P with
  |none=>exact h
  |some p=>obtain⟨r,e,g⟩:=h;exact⟨r,e,k.get g⟩
theorem nf.refs{a:Nat}{vs:List PV}{l:List Nd}(h:nf H a vs l):∀v∈vs,∃r,v=.ref r:=by
 intro v m
 obtain⟨i,hi⟩:=List.getElem?_of_mem m
 have hk:=(List.getElem?_eq_some_iff.mp hi).1
 obtain⟨d,hd⟩:∃d,l[i]? =some d:=⟨_,List.getElem?_eq_getElem (by rw[←h.len];exact hk)⟩
 obtain⟨u,hu,q⟩:=h.get hd
 rw[hi] at hu
 cases hu
 exact q.kind.ref
theorem s837{a:Nat}{vs:List PV}{l:List Nd}{st sh:PV}{S:bp}{gl gr:Gl}{dy:jh}{ff extra:Int}{last:Bool}
  (h:nf H a vs l) (hf:∀d∈l,d.bD) (hX:oz H st S gl gr) (hs:iz H sh dy) (hd:0≤dy.done∧dy.done≤100) (ht:Nm ff) (he:Dm extra)
  (ok:kF (rowsOf S l)) (hg:Bd (cT gl gr extra)) (k:∀v H',Pre H H'→nR H' v (rowsOf S l) (cL l) (dP (nD S dy gl gr ff extra last) ((rowsOf S l).map Row.core))→R v H'):
  Wc (aj (aO ns) (n+7) 837 [.ref a,st,sh,.tup [.int ff,.int extra],.bool last] H) R E:=by
 revert R E ns n H a vs l st sh S gl gr dy ff extra last
 apply aT;intro
 generalize bX .. =R,bY .. =E,bZ .. =ns,b7 .. =n,cv .. =H,cw .. =a,cx .. =vs,cy .. =l
 apply aT;intro
 generalize bX .. =st,bY .. =sh,bZ .. =S,b7 .. =gl,cv .. =gr,cw .. =dy,cx .. =ff,cy .. =extra
 apply aJ;intro
 generalize nx .. =last
 intro h hf hX hs hd ht he ok hg k
 have hl:vs.length<100000:=Nat.lt_trans h.small (by decide)
 have p1:Pre H (H++[aH.list vs]):=Pre.app _ (.refl _)
 have hc:nf (H++[aH.list vs]) H.length vs l:=⟨aX,h.small,(h.pre p1).all⟩
 refine aS rfl rfl (.of h.at_ (.of hl ?_))
 refine lE (fun s:PV×aa=>[some (.ref a),some st,some sh,some (.tup [.int ff,.int extra]),some (.bool last),some (.ref H.length),some s.1]) (fun s=>s.2) (fun s=>Pre (H++[aH.list vs]) s.2∧nR s.2 s.1 (rowsOf S l) (cL l) (dP (nD S dy gl gr ff extra last) ((rowsOf S l).map Row.core))) (?_) ?_
 ·apply aJ;intro
  generalize nx .. =N
  intro hN
  refine s734 hc hf (hX.ins p1.ins) (hs.pre p1) hd ht he ok hg (fun hb=> ?_) fun hb H1 p2=>hN (.str nQ,H1) ⟨p2,by unfold nR;rw[if_pos hb]⟩
  have hN:∀v H1,Pre (H++[aH.list vs]) H1→(match dP (nD S dy gl gr ff extra last) ((rowsOf S l).map Row.core) with|none=>v=.none|some p=>∃r,v=.ref r∧H1[r]? =some (.list (cG (rowsOf S l) p)))→N [some (.ref a),some st,some sh,some (.tup [.int ff,.int extra]),some (.bool last),some (.ref H.length),some v] H1:=fun v H1 p2 q=>hN (v,H1) ⟨p2,by unfold nR;rw[if_neg (by rw[hb];decide)];exact q⟩
  cases hP:dP (nD S dy gl gr ff extra last) ((rowsOf S l).map Row.core) with
  |none=>rw[hP] at hN;exact fun H1 p2=>hN _ H1 p2 rfl
  |some q=>rw[hP] at hN;exact fun r H1 p2 g=>hN _ H1 p2 ⟨r,rfl,g⟩
 ·apply aJ;intro
  generalize nx .. =s
  intro j
  have hc':=hc.pre j.1
  have h':=(h.pre p1).pre j.1
  exact s830 hc'.at_ h'.at_ h.small h'.refs (k _ _ (p1.trans j.1) j.2)
end
theorem sy(l:List Int):g0 (l.map .int) (l.map .int)=some true:=by
 induction l with
 |nil=>
  exact rfl
 |cons x l ih=>
  show(g0 (l.map .int) (l.map .int)).map (fun b=>decide (x=x) && b)=_
  rw[ih,decide_eq_true rfl];rfl
noncomputable def placeOf(rows:List Row)(i:Nat):Int:=((rows[i]?).map fun r=>(r.place:Int)).getD 0
theorem uN(rows:List Row)(p:List Nat):cG rows p=(p.map (placeOf rows)).map .int:=by
 unfold cG placeOf
 rw[List.map_map]
 rfl
section
variable {R:PV→aa→Prop}{E:XK→aa→Prop}{ns:List Int}{n:Nat}{H:aa}
theorem BY{R:List PV→aa→Prop}{t m d:Nat}{mv:List Int}{f:Nat→Int}{g:Nat→Int}{vs:List PV}{x1 x2 x3:Option PV}(ht:lO H (.ref t) 60=some (.ref m))(hm:H[m]? =some (.list (mv.map .int)))(hd:H[d]? =some (.list vs))(hmv:mv.length<1000):
  ∀(q:List Nat) (acc:List PV) (y:Option PV),(∀i∈q,∃k:Nat,f i=k∧mv[k]? =some (g i))→acc.length+q.length<1000→R (acc++(q.map g).map .int) H→
  yJ (wE (aO ns) (aj (aO ns) n) (.item (.eV (.var 0) 60) (.var 4))) [4] R d vs ((q.map f).map .int) acc [some (.ref t),x1,x2,x3,y] H
 |[],acc,_,_,_,h=>by rw[List.map_nil,List.map_nil,List.append_nil] at h;exact⟨hd,h⟩
 |i::q,acc,y,hq,hl,h=>by
  obtain⟨k,e1,e2⟩:=hq i (List.mem_cons_self ..)
  rw[List.length_cons] at hl
  have e3:(mv.map PV.int)[k]? =some (.int (g i)):=by rw[List.getElem?_map,e2];rfl
  rw[List.map_cons,List.map_cons,e1]
  exact⟨hd,.of ht (.of hm (.of (fe e3 (by rw[List.length_map];exact hmv)) ⟨by exact Nat.lt_of_le_of_lt (Nat.le_add_right _ _) hl,BY ht hm hd hmv q _ _ (fun x m=>hq x (List.mem_cons_of_mem _ m)) (by rw[List.length_append,List.length_singleton];exact ar401 hl) (by rw[List.append_assoc];exact h)⟩))⟩
theorem s842{t a b m:Nat}{mv:List Int}{due found:PV}{ra rb:List Row}{bad last:Bool}{P:Option (List Nat)}(ht:H[t]? =some (.d9 [(62,.ref a),(61,.ref b),(60,.ref m)]))(hm:H[m]? =some (.list (mv.map .int)))
  (hd:nR H due ra bad P) (hf:nR H found rb bad P) (hl:last=true→bad=false→P≠none) (hmv:mv.length<1000)
  (hP:∀p,P=some p→p.length<1000∧∀i∈p,∃k:Nat,placeOf ra i=k∧mv[k]? =some (placeOf rb i)) (k:∀H',Pre H H'→R (.bool true) H'):
  Wc (aj (aO ns) (n+1) 842 [.ref t,due,found,.bool last] H) R E:=by
 unfold nR nQ at hd hf
 have s1:((⟨#[114,101,102,117,115,101,100]⟩:Str) == ⟨#[114,101,102,117,115,101,100]⟩)=true:=beq_self_eq_true _
 split at hd
 ·rename_i q
  rw[if_pos q] at hf
  subst hd hf
  exact aS rfl rfl (.pos s1 (.pos s1 (k _ (.refl _))))
 rename_i q
 rw[if_neg q] at hf
 have hb:bad=false:=by cases bad<;>simp_all
 cases P with
 |none=>
  replace hd:due=.none:=hd
  replace hf:found=.none:=hf
  subst hd hf
  have hlast:last=false:=by
   cases last with
   |false=>rfl
   |true=>exact absurd rfl (hl rfl hb)
  subst hlast
  exact aS rfl rfl (k _ (.refl _))
 |some p=>
  obtain⟨d,rfl,gd⟩:=hd
  obtain⟨f,rfl,gf⟩:=hf
  obtain⟨hp1,hp2⟩:=hP p rfl
  rw[uN] at gd gf
  have l1:((p.map (placeOf ra)).map PV.int).length<100000:=by simp;lia
  have l2:((p.map (placeOf rb)).map PV.int).length<1000:=by simp;lia
  refine aS rfl rfl (.of gd (.of gd (.of gf (.of gf (.of gf (.of (Nat.lt_trans l2 (by decide)) ?_))))))
  refine ej (fun _ y=>[some (.ref t),some (.ref d),some (.ref f),some (.bool last),y]) (fun _ _=>H) (fun _ _=>True) none ((p.map (placeOf rb)).map .int) trivial (fun _ _ _=>gf) (fun i y v _ hv=> ?_) fun y _=> ?_
  ·obtain⟨x,_,rfl⟩:=List.mem_map.mp (List.mem_of_getElem? hv)
   exact⟨_,rfl,rfl,trivial⟩
  ·have p0:Pre H (H++[aH.list ((p.map (placeOf rb)).map PV.int)]):=Pre.app _ (.refl _)
   refine .of gd (.of l1 (nO (BY (Cd ht rfl) hm gd hmv p [] _ hp2 (by rw[List.length_nil];lia) (.of l2 (.of (a:=true) ?_ (k _ p0))))))
   show n7 (H++[aH.list ((p.map (placeOf rb)).map PV.int)]) (.ref f) (.ref H.length)=some true
   unfold n7
   simp only[p0.get gf,aX]
   exact(if_neg fun x=>x rfl).trans (sy _)
end
theorem sC{ld:Bool}{c c0:List Nd}{d:Nd}(P:List Nd)(e:c=c0++[d])(h:d.kind≠12):Lst ld (P++(bA ld++c++ar ld)):=by
 subst e
 unfold Lst
 cases ld with
 |true=>
  have:P++(bA true++(c0++[d])++ar true)=(P++bA true++(c0++[d]))++[.math false 0]:=by simp[ar]
  rw[this,kI]
  exact⟨fun _=>rfl,fun _=>rfl⟩
 |false=>
  have:P++(bA false++(c0++[d])++ar false)=(P++c0)++[d]:=by simp[ar,bA]
  rw[this,kI]
  exact⟨fun x=>absurd (Option.some.inj x) h,fun x=>by cases x⟩
structure yL(S:bp)(tl:Bool)(eA eB:List Nd)(oC:List Int):Prop where
 ua:dG S true eA none
 ub:dG S (!tl) (ar tl++eB) none
 iV:total eA=total eB
 bad:cL eA=cL eB
 ph:∀d∈eA,yA d
 bD:(∀d∈eA,d.bD)∧∀d∈eB,d.bD
 len:oC.length=eA.length
 small:eA.length≤2
theorem end_none{S:bp}{tl:Bool}:yL S tl [] [] []:=by
 have u:∀tl,dG S (!tl) (ar tl++[]) none:=fun tl=>nF (fun r hr=>hr.1) fun cN i r _=>⟨cN,rfl⟩
 exact⟨u false,u tl,rfl,rfl,by simp,by simp,rfl,by simp⟩
theorem BZ{S:bp}{tl:Bool}{y k0 k1:Int}{g:Gl}{l:List Nd}(q:BO 10000 y)(ql:qx false g l)(hg:oD g):yL S tl [.pen 10000,.glue g] (.pen y::l) [k0,k1]:=by
 have G:=nP (S:=S) (tl:=tl) (k:=k1) q ql hg
 obtain⟨g',z,rfl,hz,hs⟩:=ql.plain
 have hy:10000≤y:=by rcases q with q|q;exact q.2;exact absurd q.1 (by decide)
 exact⟨gw (tl:=false) (z:=[.glue g]) (.glue _ _ .nil) (Int.le_refl _),gw (.glue _ _ hz) hy,G.iV,G.bad,G.ph,G.bD,rfl,by simp⟩
theorem aE.part{M M':List Nat}{H H1 H2:aa}(a:aE M H H1)(b:aE M' H1 H2)(h:∀i∈M',i∈M∨H.length≤i):aE M H H2:=by
 refine⟨Nat.le_trans a.len b.len,fun i o m e=>b.at_ i o (fun q=> ?_) (a.at_ i o m e)⟩
 have:=(List.getElem?_eq_some_iff.mp e).1
 rcases h i q with q|q
 ·exact m q
 ·exact absurd q (Nat.not_le.mpr this)
section
variable {M:List Nat}{p t a b m T:Nat}{H:aa}{A B:List Nd}{mv:List Int}{S:bp}
structure Far(M:List Nat)(p t a b m T:Nat)(S:bp)(k:Nat)(H:aa):Prop where
 ex:∃tl A B mv R,Pf S tl A B mv R∧R.length≤k∧A.length≤6 * k+1∧Told M p t a b m (T+80 * k) H A (B++ar tl) mv∧Lst tl (B++ar tl)∧B++ar tl≠[]
theorem yM{w:Int}{l:List Nd}(h:Told M p t a b m T H [.box 2 w] l [0])(hb:uJ S w true l):Far M p t a b m T S 0 H:=by
 obtain⟨c,ld,c0,d,hl,hc,he,hd,-,-⟩:=hb
 have hl':l=(bA ld++c)++ar ld:=hl
 refine⟨ld,[.box 2 w],bA ld++c,[0],[],Pf.start ld hc,Nat.le_refl _,by simp,?_,?_,?_⟩
 ·rw[←hl'];exact h
 ·have:=sC (ld:=ld) [] he hd
  rwa [List.nil_append] at this
 ·rw[he];simp
theorem B1{k:Nat}{tl:Bool}{gA gB l:List Nd}{uy:List Int}{R:List (Row×Row)}{w x:Int}{H':aa}(pf:Pf S tl A B mv R)(hR:R.length≤k)(hA:A.length≤6 * k+1)(g:nI S tl gA gB uy)(hg:gA.length≤5)(hb:uJ S w true l)
  (h:Told M p t a b m (T+80 * (k+1)) H' (A++gA++[.box 2 w]) (B++ar tl++gB++l) (mv++uy.map (((B++ar tl).length:Int)+·)++[x])):Far M p t a b m T S (k+1) H':=by
 obtain⟨c,ld,c0,d,hl,hc,he,hd,-,-⟩:=hb
 obtain⟨R',pf',hR'⟩:=Pf.step (ld:=ld) (x:=x) pf g hc
 have eB:B++ar tl++gB++l=(B++((ar tl++gB)++(bA ld++c)))++ar ld:=by rw[hl];simp
 have eA:A++gA++[.box 2 w]=A++(gA++[.box 2 w]):=by simp
 have em:mv++uy.map (((B++ar tl).length:Int)+·)++[x]=mv++(uy.map (((B++ar tl).length:Int)+·)++[x]):=by simp
 rw[eA,eB,em] at h
 refine⟨ld,_,_,_,R',pf',by exact Nat.le_trans hR' (Nat.succ_le_succ hR),?_,h,?_,?_⟩
 ·simp only[List.length_append,List.length_singleton];exact ar421 hA hg
 ·have:=sC (ld:=ld) (B++(ar tl++gB)) he hd
  simpa using this
 ·rw[he];simp
theorem uC.of{tl:Bool}{eA eB:List Nd}{oC:List Int}{R:List (Row×Row)}(pf:Pf S tl A B mv R)(hR:R.length≤5)(hA:A.length≤998)(e:yL S tl eA eB oC):
  uC S (A++eA) (B++ar tl++eB) (mv++oC++[((B++ar tl++eB).length:Int)]):=by
 have:=Pf.fin pf e.ua e.ub e.iV e.bad e.ph e.bD e.len hR (by rw[List.length_append];have:=e.small;exact nW (Nat.add_le_add hA this) rfl)
 rw[List.append_assoc B]
 exact this
theorem uC.places{a b:List Nd}{mv:List Int}(h:uC S a b mv){T:eW}(h0:0≤T.dy.done):∀p,dP T ((rowsOf S a).map Row.core)=some p→p.length<1000∧∀i∈p,∃k:Nat,placeOf (rowsOf S a) i=k∧mv[k]? =some (placeOf (rowsOf S b) i):=by
 intro p e
 obtain⟨h1,h2⟩:=yK h0 e
 have hl:=h.okA.len
 rw[List.length_map] at h1 h2
 have hab:(rowsOf S a).length=(rowsOf S b).length:=by have:=congrArg List.length h.core;simpa using this
 refine⟨by exact gy (Nat.le_trans h1 hl) rfl,fun i m=> ?_⟩
 have hi:=h2 i m
 obtain⟨x,hx⟩:∃x,(rowsOf S a)[i]? =some x:=⟨_,List.getElem?_eq_getElem hi⟩
 obtain⟨y,hy⟩:∃y,(rowsOf S b)[i]? =some y:=⟨_,List.getElem?_eq_getElem (by exact Nat.lt_of_lt_of_eq hi hab)⟩
 refine⟨x.place,?_,?_⟩
 ·unfold placeOf;rw[hx];rfl
 ·rw[h.mvd i x y hx hy]
  unfold placeOf;rw[hy];rfl
end
section
variable {ns:List Int}{n:Nat}
theorem uO{p T:Nat}{H:aa}(e:Env [p] p T H):Told [p,H.length,H.length+1,H.length+1+1] p (H.length+1+1+1) H.length (H.length+1) (H.length+1+1) T (H++[.list []]++[.list []]++[.list []]++[.d9 [(62,.ref H.length),(61,.ref (H.length+1)),(60,.ref (H.length+1+1))]]) [] [] []:=by
 have hp:p<H.length:=e.low p (List.mem_singleton.mpr rfl)
 refine⟨⟨?_,List.mem_cons_self ..,((((e.qu.app _).app _).app _).app _)⟩,⟨?_,?_⟩,?_,?_,⟨[],?_,trivial⟩,⟨[],?_,trivial⟩,?_,Nat.zero_le _,Nat.zero_le _,rfl⟩
 ·intro i m
  simp only[List.mem_cons,List.not_mem_nil,or_false] at m
  simp only[List.length_append,List.length_singleton]
  exact ar422 hp m
 ·have:H.length+1+1+1=(H++[aH.list []]++[aH.list []]++[aH.list []]).length:=by simp
  rw[this];exact aX
 ·simp only[List.mem_cons,List.not_mem_nil,or_false];exact ar423 hp
 ·simp
 ·exact ar424 hp
 ·rw[List.append_assoc,List.append_assoc,List.append_assoc,List.getElem?_append_right (Nat.le_refl _),Nat.sub_self];rfl
 ·rw[List.append_assoc,List.append_assoc,List.append_assoc,List.getElem?_append_right (by exact Nat.le_succ _),show H.length+1 - H.length=1 by exact Nat.add_sub_cancel_left _ 1];rfl
 ·rw[List.append_assoc,List.append_assoc,List.append_assoc,List.getElem?_append_right (by exact Nat.le_add_right _ 2),show H.length+1+1 - H.length=2 by exact Nat.add_sub_cancel_left _ 2];rfl
structure LwS where
 H:aa
 y:Option PV
theorem lawEnd{many e ff extra:Int}{p r rs t a b m:Nat}{y x:Option PV}{va vb:List PV}{mv:List Int}{a1 b1:List Nd}{S:bp}{gl gr:Gl}{dy:jh}{H:aa}{E:EL}(tt:H[t]? =some (.d9 [(62,.ref a),(61,.ref b),(60,.ref m)]))(xm:H[m]? =some (.list (mv.map .int)))
  (ia:nf H a va a1) (ib:nf H b vb b1) (hX:oz H (.ref r) S gl gr) (hs:iz H (.ref rs) dy) (jT:0≤dy.done∧dy.done≤100) (sD:Nm ff) (qz:0≤extra∧extra≤100) (BV:kJ gl) (BW:kJ gr) (both:uC S a1 b1 mv) (lmv:mv.length<1000):
  wSs (aO ns) (aj (aO ns) (n+8)) (iT w5 9) [some .bG,some (.ref p),some (.int many),some (.ref r),some (.ref rs),some (.tup [.int ff,.int extra]),some (.ref t),some (.int e),y,none,x] H (fP fun v _=>v=.bool true) E:=by
 revert ns n many e ff extra p r rs t a b m y x va vb mv a1 b1 S gl gr dy H E
 apply aT;intro
 generalize bX .. =ns,bY .. =n,bZ .. =many,b7 .. =e,cv .. =ff,cw .. =extra,cx .. =p,cy .. =r
 apply aT;intro
 generalize bX .. =rs,bY .. =t,bZ .. =a,b7 .. =b,cv .. =m,cw .. =y,cx .. =x,cy .. =va
 apply aT;intro
 generalize bX .. =vb,bY .. =mv,bZ .. =a1,b7 .. =b1,cv .. =S,cw .. =gl,cx .. =gr,cy .. =dy
 apply aP;intro
 generalize bP .. =H,bS .. =E
 intro tt xm ia ib hX hs jT sD qz BV BW both lmv
 have he:Dm extra:=by unfold Dm;exact b8 qz rfl rfl
 refine .of (by decide:2<1000) ?_
 refine qg (fun _ (s:aa×Option PV×Option PV)=>[some .bG,some (.ref p),some (.int many),some (.ref r),some (.ref rs),some (.tup [.int ff,.int extra]),some (.ref t),some (.int e),y,s.2.1,s.2.2]) (fun _ s=>s.1) (fun _ s=>Pre H s.1) (H,none,x) [.bool false,.bool true] (.refl _) (fun k s v p13 hv=> ?_) fun s _=>rfl
 obtain⟨last,rfl⟩:∃last,v=.bool last:=by
  have:=List.mem_of_getElem? hv
  simp only[List.mem_cons,List.not_mem_nil,or_false] at this
  rcases this with rfl|rfl<;>exact⟨_,rfl⟩
 refine .of (Cd (p13.get tt) rfl) (s837 (ia.pre p13) both.bD.1 (hX.ins p13.ins) (hs.pre p13) jT sD he both.okA (BV.bd BW qz) fun due H13 p14 hdue=> ?_)
 have q14:=p13.trans p14
 refine .of (Cd (q14.get tt) rfl) (s837 (ib.pre q14) both.bD.2 (hX.ins q14.ins) (hs.pre q14) jT sD he both.okB (BV.bd BW qz) fun found H14 p15 B2=> ?_)
 have q15:=q14.trans p15
 rw[←both.core,←both.bad] at B2
 refine s842 (q15.get tt) (q15.get xm) (hdue.pre p15) B2 (fun hl _=> ?_) lmv (both.places jT.1) fun H15 p16=>⟨(_,_,_),rfl,rfl,q15.trans p16⟩
 subst hl
 obtain⟨q,hq⟩:=yD (T:=nD S dy gl gr ff extra true) (cs:=(rowsOf S a1).map Row.core) rfl
 rw[hq];nofun
theorem lawMid{many e ff extra:Int}{p r rs t a b m k:Nat}{M:List Nat}{y:Option PV}{tl:Bool}{A B:List Nd}{mv:List Int}{R:List (Row×Row)}{S:bp}{gl gr:Gl}{dy:jh}{H:aa}(pf:Pf S tl A B mv R)(hR:R.length≤k)(hk:k≤4)(hA:A.length≤6 * k+1)(h:Told M p t a b m 400 H A (B++ar tl) mv)(j6:B++ar tl≠[])
  (hX:lq M H (.ref r) S gl gr) (hs:sx M H (.ref rs) dy) (jT:0≤dy.done∧dy.done≤100) (sD:Nm ff) (qz:0≤extra∧extra≤100) (BV:kJ gl) (BW:kJ gr):
  wSs (aO ns) (aj (aO ns) (n+8)) (iT w5 7) [some .bG,some (.ref p),some (.int many),some (.ref r),some (.ref rs),some (.tup [.int ff,.int extra]),some (.ref t),some (.int e),y,none,none] H (fP fun v _=>v=.bool true) fun _ _ _=>False:=by
 revert ns n many e ff extra p r rs t a b m k M y tl A B mv R S gl gr dy H
 apply aT;intro
 generalize bX .. =ns,bY .. =n,bZ .. =many,b7 .. =e,cv .. =ff,cw .. =extra,cx .. =p,cy .. =r
 apply aT;intro
 generalize bX .. =rs,bY .. =t,bZ .. =a,b7 .. =b,cv .. =m,cw .. =k,cx .. =M,cy .. =y
 apply aT;intro
 generalize bX .. =tl,bY .. =A,bZ .. =B,b7 .. =mv,cv .. =R,cw .. =S,cx .. =gl,cy .. =gr
 apply aP;intro
 generalize bP .. =dy,bS .. =H
 intro pf hR hk hA h j6 hX hs jT sD qz BV BW
 refine cut (fun _:aa×List Nd×List Nd×List Int=>[some .bG,some (.ref p),some (.int many),some (.ref r),some (.ref rs),some (.tup [.int ff,.int extra]),some (.ref t),some (.int e),y,none,none]) (fun s=>s.1) (fun s=>yL S tl s.2.1 s.2.2.1 s.2.2.2∧Told M p t a b m 500 s.1 (A++s.2.1) (B++ar tl++s.2.2.1) (mv++s.2.2.2)∧aE M H s.1) (fun N hN=>.of (fun z=> ?_) fun z=> ?_) ?_
 ·have:=h.le (T':=500) (by decide)
  exact hN (H,[],[],[]) ⟨end_none,by simpa using this,.refl _⟩
 ·refine s811 h (by decide) (by decide) fun y' Ce hq lK qw=> ?_
  have ok:∀{w st so sh:Int},(-10≤w∧w≤10)→(0≤st∧st≤10)→(0≤so∧so≤3)→(0≤sh∧sh≤10)→eY w st so sh 0:=fun a b c d=>⟨a,b,c,d,by decide⟩
  have fin:∀{w st so sh:Int} {H12:aa} {g:Nat} {K:PV→aa→Prop} {E:XK→aa→Prop},eY w st so sh 0→aE [p] Ce H12→Env M p 402 H12→At M H12 g (.inst 227 (uk w st so sh 0))→(∀eA eB oC H',yL S tl eA eB oC→Told M p t a b m 500 H' (A++eA) (B++ar tl++eB) (mv++oC)→aE M H H'→K .none H')→Wc (aj (aO ns) (n+8) 797 [.ref p,.ref t,.ref g,.bool false] H12) K E:=by
   intro w st so sh H12 g K E ok jN uK sH hK
   refine s797 (lK.e jN uK (Nat.le_refl _)) sH ok (by simp) (by decide) fun l H13 hl h13 Cg=>hK [.pen 10000,.glue (cZ w st so sh 0)] (.pen y'::l) [((B++ar tl).length:Int)+0,((B++ar tl++[Nd.pen y']).length:Int)+da l (B++ar tl++[Nd.pen y'])] H13 (BZ hq hl (.of ok)) ?_ (qw.trans ((lK.env.wide jN).trans Cg))
   have:=h13.le (T':=500) (by decide)
   rw[List.append_assoc A,List.append_assoc (B++ar tl),List.append_assoc mv] at this
   exact this
  have hN':∀eA eB oC H',yL S tl eA eB oC→Told M p t a b m 500 H' (A++eA) (B++ar tl++eB) (mv++oC)→aE M H H'→N [some .bG,some (.ref p),some (.int many),some (.ref r),some (.ref rs),some (.tup [.int ff,.int extra]),some (.ref t),some (.int e),y,none,none] H':=fun eA eB oC H' a b c=>hN (H',eA,eB,oC) ⟨a,b,c⟩
  exact .of (fun z=>vT (ok (by decide) (by decide) (by decide) (by decide)) lK.env fun g H12 jN uK sH=>fin (ok (by decide) (by decide) (by decide) (by decide)) jN uK sH hN') fun z=>vT (ok (by decide) (by decide) (by decide) (by decide)) lK.env fun g H12 jN uK sH=>fin (ok (by decide) (by decide) (by decide) (by decide)) jN uK sH hN'
 rintro⟨Ce,eA,eB,oC⟩ ⟨hE,lK,qw⟩
 dsimp only at hE lK qw ⊢
 have hX11:=hX.keep qw
 have hs11:=hs.keep qw
 have both:=uC.of pf (by exact nW (Nat.le_trans hR hk) rfl) (by exact nW (Nat.le_trans hA (Nat.succ_le_succ (Nat.mul_le_mul_left 6 hk))) rfl) hE
 have sA:(A++eA).length≤30:=by rw[List.length_append];have:=hE.small;exact nW (Nat.add_le_add (Nat.le_trans hA (Nat.succ_le_succ (Nat.mul_le_mul_left 6 hk))) this) rfl
 generalize A++eA=a1 at lK both sA
 generalize B++ar tl++eB=b1 at lK both
 generalize mv++oC=mv1 at lK both
 obtain⟨va,ga,qa⟩:=lK.fa
 obtain⟨vb,gb,qb⟩:=lK.fb
 have lva:va.length≤30:=by rw[qa.length];exact sA
 have lvb:vb.length≤120:=by rw[qb.length];have:=lK.lb;exact nW (Nat.le_trans this (Nat.mul_le_mul_left 4 sA)) rfl
 have lmv:mv1.length≤30:=by rw[lK.lm];exact sA
 have hc:(mv1.map PV.int)++[.int vb.length]=(mv1++[(b1.length:Int)]).map .int:=by rw[List.map_append,qb.length];rfl
 obtain⟨n1,n2,n3,n4,n5,n6⟩:=lK.ne
 have jN:∀{o},aE M Ce (Ce.set m o):=(aE.refl _).set (.inl lK.mem.2.2)
 refine .of (Cd lK.told.at_ rfl) (.of lK.fm (.of (Cd lK.told.at_ rfl) (.of gb (.of (by exact gy lvb rfl) (.of lK.fm (.of (by rw[List.length_map];exact gy lmv rfl) ?_))))))
 refine lawEnd (lK.told.keep jN).at_ ((getset lK.fm).trans (by rw[hc])) ⟨(bz (Ne.symm n5)).trans ga,by exact gy lva rfl,(dE.all jN qa).mono fun _ _ x=>x.now⟩ ⟨(bz (Ne.symm n6)).trans gb,by exact gy lvb rfl,(dE.all jN qb).mono fun _ _ x=>x.now⟩ (hX11 _ jN) (hs11 _ jN) jT sD qz BV BW both (by rw[List.length_append];simp;exact bE 1 (Nat.lt_succ_of_le lmv) rfl)
theorem lawHead{p:Nat}{H1:aa}(E1:Env [p] p 0 H1):wSs (aO ns) (aj (aO ns) (n+8)) (iT w5 1) [some .bG,some (.ref p),none,none,none,none,none,none,none,none,none] H1 (fP fun v _=>v=.bool true) fun _ _ _=>False:=by
 revert ns n p H1
 apply aN;intro
 generalize bM .. =ns,bN .. =n,bQ .. =p,bR .. =H1
 intro E1
 refine iW [2,3,4,3,2] E1 rfl (by decide) (by decide) (by decide) fun many mm H2 k2 e2=>s755 e2 (by decide) fun r S gl gr H3 hX BV BW k3 e3=>s762 e3 (by decide) fun rs dy H4 hs jT k4 e4=>iW [10000,200,1000,30] e4 rfl (by decide) (by decide) (by decide) fun ff mt H5 k5 e5=>iW [0,0,20] e5 rfl (by decide) (by decide) (by decide) fun extra me H6 k6 e6=> ?_
 have B3:0≤many∧many≤4:=by simp only[List.mem_cons,List.not_mem_nil,or_false] at mm;exact qC (P:=fun x=>0≤x∧x≤4) [2,3,4,3,2] rfl mm
 have sD:Nm ff:=by simp only[List.mem_cons,List.not_mem_nil,or_false] at mt;unfold Nm;exact qC (P:=fun x=>-2147483647≤x∧x≤2147483647) [10000,200,1000,30] rfl mt
 have qz:0≤extra∧extra≤100:=by simp only[List.mem_cons,List.not_mem_nil,or_false] at me;exact qC (P:=fun x=>0≤x∧x≤100) [0,0,20] rfl me
 have hX6:=hX.keep (k4.trans (k5.trans k6))
 have hs6:=hs.keep (k5.trans k6)
 have T7:=uO e6
 have K7:aE [p] H6 (H6++[.list []]++[.list []]++[.list []]++[.d9 [(62,.ref H6.length),(61,.ref (H6.length+1)),(60,.ref (H6.length+1+1))]]):=((((aE.refl _).app _).app _).app _).app _
 have l1:(H6++[aH.list []]).length=H6.length+1:=by simp
 have l2:(H6++[aH.list []]++[aH.list []]).length=H6.length+1+1:=by simp
 have l3:(H6++[aH.list []]++[aH.list []]++[aH.list []]).length=H6.length+1+1+1:=by simp
 refine .of ⟨(rfl:3=3),by decide,by decide⟩ ?_
 have go:∀{M:List Nat} {H7:aa} {t a b m:Nat},(∀{H'},aE M H7 H'→aE [p] H6 H')→Told M p t a b m 17 H7 [] [] []→Wc (aj (aO ns) (n+8) 748 [.ref p,.int 4] H7) (fun v H=>wSs (aO ns) (aj (aO ns) (n+8)) (iT w5 5) [some .bG,some (.ref p),some (.int many),some (.ref r),some (.ref rs),some (.tup [.int ff,.int extra]),some (.ref t),some v,none,none,none] H (fP fun v _=>v=.bool true) fun _ _ _=>False) (fun _ _=>False):=by
  intro M H7 t a b m part T7
  have hX7:lq M H7 (.ref r) S gl gr:=fun H' k=>hX6 H' (part k)
  have hs7:sx M H7 (.ref rs) dy:=fun H' k=>hs6 H' (part k)
  refine dw T7.env 4 (by decide) (by decide) (by decide) fun e H8 e0 e4 k8 e8=> ?_
  have T8:=T7.e k8 e8 (by decide)
  have kk:=T7.env.wide k8
  refine s790 T8 (hX7.keep kk).s (by decide) fun w1 l9 H9 b9 T9 k9=> ?_
  have hX9:=hX7.keep (kk.trans k9)
  have hs9:=hs7.keep (kk.trans k9)
  have F9:=yM T9 b9
  have hN:(dp many).length≤4:=by
   unfold dp
   simp;exact qB B3.2 rfl
  refine .of ⟨by exact ji B3.1 rfl,by exact Ci B3.2 rfl⟩ ?_
  refine qg (fun _ (s:aa×Option PV)=>[some .bG,some (.ref p),some (.int many),some (.ref r),some (.ref rs),some (.tup [.int ff,.int extra]),some (.ref t),some (.int e),s.2,none,none]) (fun _ s=>s.1) (fun k s=>Far M p t a b m 28 S k s.1∧aE M H9 s.1) (H9,none) (dp many) ⟨F9,.refl _⟩ (fun k s v j hv=> ?_) fun s j=> ?_
  ·obtain⟨⟨tl,A,B,mv,R,pf,hR,hA,h,hlst,j6⟩,lJ⟩:=j
   have hk:=(List.getElem?_eq_some_iff.mp hv).1
   refine s823 h (hX9.keep lJ).s j6 hlst (by exact gy (Nat.add_le_add_left (Nat.mul_le_mul_left 80 (Nat.le_trans (Nat.le_of_lt hk) hN)) 28) rfl) fun Ce g=> ?_
   obtain⟨gA,gB,uy,g,hg5,lK,qw⟩:=g
   exact s790 lK (hX9.keep (lJ.trans qw)).s (by exact bE 60 (gy (C:=4000) (Nat.add_le_add_left (Nat.mul_le_mul_left 80 (Nat.le_trans (Nat.le_of_lt hk) hN)) 28) rfl) rfl) fun w12 l12 H12 b12 pI jN=>⟨(_,_),rfl,rfl,B1 pf hR hA g hg5 b12 (pI.le (by exact cO (x:=28+80 * _) (k:=70) (l:=80) rfl)),lJ.trans (qw.trans jN)⟩
  ·obtain⟨⟨tl,A,B,mv,R,pf,hR,hA,h,hlst,j6⟩,lJ⟩:=j
   exact lawMid pf hR hN hA (h.le (by exact nW (Nat.add_le_add_left (Nat.mul_le_mul_left 80 hN) 28) rfl)) j6 (hX9.keep lJ) (hs9.keep lJ) jT sD qz BV BW
 rw[l1,l2,l3]
 refine go (M:=[p,H6.length,H6.length+1,H6.length+1+1]) (fun k=>K7.part k ?_) (T7.le (by decide))
 intro i m
 simp only[List.mem_cons,List.not_mem_nil,or_false] at m ⊢
 lia
theorem s849:Wc (aj (aO ns) (n+9) 849 [.bG] []) (fun v _=>v=.bool true) nE:=by
 refine aS rfl rfl (s741 fun w w0=> ?_)
 have g1:([]++[aH.list ((ns.take 24).map .int)]++[aH.list [.int w,.int 0]])[1]? =some (.list [.int w,.int 0]):=rfl
 exact lawHead ⟨fun i m=>by rw[List.mem_singleton.mp m];exact(by decide:1<2),List.mem_singleton.mpr rfl,w,0,g1,w0,Int.le_refl _,by decide⟩
theorem B4(ns:List Int):aj (aO ns) 20 849 [.bG] [] (fun v _=>v=.bool true) nE:=(s849 (ns:=ns) (n:=11)).el
end
end
section
theorem fin:PySem.Challenge.rw_tu0007_01.Holds:=holds_of fun ns _=>B4 ns
end
end Mine
theorem PySem.Challenge.cw_tu0007_01_holds : PySem.Challenge.rw_tu0007_01.Holds :=
 Mine.fin
