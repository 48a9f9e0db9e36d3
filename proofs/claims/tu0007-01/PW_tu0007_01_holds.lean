import PyProof.Rows.All
import Wide.All
import OpenK.AllK
import Wide.FinOn
import PyProof.NoPylong
import PySem.Builtin.IntDigits
import Lean
import PySem.Challenge.RW_tu0007_01
set_option Elab.async false
set_option maxRecDepth 100000
set_option maxHeartbeats 0
set_option linter.all false
set_option bootstrap.genMatcherCode false
set_option genSizeOf false
namespace Mine
open PySem
local macro_rules
 |`(s! $x)=>do
  let bs:=((x.raw[0].isInterpolatedStrLit?).getD "").toUTF8.toList.map fun b=>Lean.Syntax.mkNumLit (toString b.toNat)
  let xs:=bs.toArray
  `(⟨⟨[$xs,*]⟩⟩)
section
instance Ft{α:Type}:Nonempty (List α):=⟨[]⟩
instance Zd{α:Type}:Nonempty (Option α):=⟨none⟩
theorem Er{α:Type}(i:Nonempty α)(P:α→Prop):Nonempty {x // P x→∀y,P y}:=
 (Classical.em (∀y,P y)).elim (fun h=>i.elim fun x=>⟨⟨x,fun _=>h⟩⟩) fun h=>(Classical.not_forall.mp h).elim fun x n=>⟨⟨x,fun p=>absurd p n⟩⟩
noncomputable def nx{α:Type}(i:Nonempty α)(P:α→Prop):α:=(Classical.choice (Er i P)).1
theorem sN{α:Type}[i:Nonempty α]{P:α→Prop}(h:P (nx i P)):∀x,P x:=(Classical.choice (Er i P)).2 h
def V0{α:Type}(_:α):Prop:=True
theorem aI{α:Type}[i:Nonempty α]{P:α→Prop}(h:V0 (nx i P)→P (nx i P)):∀x,P x:=sN (h trivial)
noncomputable def bI{α β:Type}(i0:Nonempty α)(i1:Nonempty β)(P:α→β→Prop):α:=nx i0 fun x0=>∀x1,P x0 x1
noncomputable def bJ{α β:Type}(i0:Nonempty α)(i1:Nonempty β)(P:α→β→Prop):β:=nx i1 (P (bI i0 i1 P))
def V1{α β:Type}(_:α)(_:β):Prop:=True
theorem Qw{α β:Type}[i0:Nonempty α][i1:Nonempty β]{P:α→β→Prop}(h:P (bI i0 i1 P) (bJ i0 i1 P)):∀x0 x1,P x0 x1:=sN (P:=fun x0=>∀x1,P x0 x1) (sN h)
theorem aM{α β:Type}[i0:Nonempty α][i1:Nonempty β]{P:α→β→Prop}(h:V1 (bI i0 i1 P) (bJ i0 i1 P)→P (bI i0 i1 P) (bJ i0 i1 P)):∀x0 x1,P x0 x1:=Qw (h trivial)
noncomputable def bL{α β γ δ:Type}(i0:Nonempty α)(i1:Nonempty β)(i2:Nonempty γ)(i3:Nonempty δ)(P:α→β→γ→δ→Prop):α:=bI i0 i1 fun x0 x1=>∀x2 x3,P x0 x1 x2 x3
noncomputable def bM{α β γ δ:Type}(i0:Nonempty α)(i1:Nonempty β)(i2:Nonempty γ)(i3:Nonempty δ)(P:α→β→γ→δ→Prop):β:=bJ i0 i1 fun x0 x1=>∀x2 x3,P x0 x1 x2 x3
noncomputable def bQ{α β γ δ:Type}(i0:Nonempty α)(i1:Nonempty β)(i2:Nonempty γ)(i3:Nonempty δ)(P:α→β→γ→δ→Prop):γ:=bI i2 i3 (P (bL i0 i1 i2 i3 P) (bM i0 i1 i2 i3 P))
noncomputable def bR{α β γ δ:Type}(i0:Nonempty α)(i1:Nonempty β)(i2:Nonempty γ)(i3:Nonempty δ)(P:α→β→γ→δ→Prop):δ:=bJ i2 i3 (P (bL i0 i1 i2 i3 P) (bM i0 i1 i2 i3 P))
def V2{α β γ δ:Type}(_:α)(_:β)(_:γ)(_:δ):Prop:=True
theorem Qx{α β γ δ:Type}[i0:Nonempty α][i1:Nonempty β][i2:Nonempty γ][i3:Nonempty δ]{P:α→β→γ→δ→Prop}(h:P (bL i0 i1 i2 i3 P) (bM i0 i1 i2 i3 P) (bQ i0 i1 i2 i3 P) (bR i0 i1 i2 i3 P)):∀x0 x1 x2 x3,P x0 x1 x2 x3:=Qw (P:=fun x0 x1=>∀x2 x3,P x0 x1 x2 x3) (Qw h)
theorem aO{α β γ δ:Type}[i0:Nonempty α][i1:Nonempty β][i2:Nonempty γ][i3:Nonempty δ]{P:α→β→γ→δ→Prop}(h:V2 (bL i0 i1 i2 i3 P) (bM i0 i1 i2 i3 P) (bQ i0 i1 i2 i3 P) (bR i0 i1 i2 i3 P)→P (bL i0 i1 i2 i3 P) (bM i0 i1 i2 i3 P) (bQ i0 i1 i2 i3 P) (bR i0 i1 i2 i3 P)):∀x0 x1 x2 x3,P x0 x1 x2 x3:=Qx (h trivial)
noncomputable def bT{α β γ δ ε ζ η θ:Type}(i0:Nonempty α)(i1:Nonempty β)(i2:Nonempty γ)(i3:Nonempty δ)(i4:Nonempty ε)(i5:Nonempty ζ)(i6:Nonempty η)(i7:Nonempty θ)(P:α→β→γ→δ→ε→ζ→η→θ→Prop):α:=bL i0 i1 i2 i3 fun x0 x1 x2 x3=>∀x4 x5 x6 x7,P x0 x1 x2 x3 x4 x5 x6 x7
noncomputable def bU{α β γ δ ε ζ η θ:Type}(i0:Nonempty α)(i1:Nonempty β)(i2:Nonempty γ)(i3:Nonempty δ)(i4:Nonempty ε)(i5:Nonempty ζ)(i6:Nonempty η)(i7:Nonempty θ)(P:α→β→γ→δ→ε→ζ→η→θ→Prop):β:=bM i0 i1 i2 i3 fun x0 x1 x2 x3=>∀x4 x5 x6 x7,P x0 x1 x2 x3 x4 x5 x6 x7
noncomputable def bV{α β γ δ ε ζ η θ:Type}(i0:Nonempty α)(i1:Nonempty β)(i2:Nonempty γ)(i3:Nonempty δ)(i4:Nonempty ε)(i5:Nonempty ζ)(i6:Nonempty η)(i7:Nonempty θ)(P:α→β→γ→δ→ε→ζ→η→θ→Prop):γ:=bQ i0 i1 i2 i3 fun x0 x1 x2 x3=>∀x4 x5 x6 x7,P x0 x1 x2 x3 x4 x5 x6 x7
noncomputable def bW{α β γ δ ε ζ η θ:Type}(i0:Nonempty α)(i1:Nonempty β)(i2:Nonempty γ)(i3:Nonempty δ)(i4:Nonempty ε)(i5:Nonempty ζ)(i6:Nonempty η)(i7:Nonempty θ)(P:α→β→γ→δ→ε→ζ→η→θ→Prop):δ:=bR i0 i1 i2 i3 fun x0 x1 x2 x3=>∀x4 x5 x6 x7,P x0 x1 x2 x3 x4 x5 x6 x7
noncomputable def cj{α β γ δ ε ζ η θ:Type}(i0:Nonempty α)(i1:Nonempty β)(i2:Nonempty γ)(i3:Nonempty δ)(i4:Nonempty ε)(i5:Nonempty ζ)(i6:Nonempty η)(i7:Nonempty θ)(P:α→β→γ→δ→ε→ζ→η→θ→Prop):ε:=bL i4 i5 i6 i7 (P (bT i0 i1 i2 i3 i4 i5 i6 i7 P) (bU i0 i1 i2 i3 i4 i5 i6 i7 P) (bV i0 i1 i2 i3 i4 i5 i6 i7 P) (bW i0 i1 i2 i3 i4 i5 i6 i7 P))
noncomputable def ck{α β γ δ ε ζ η θ:Type}(i0:Nonempty α)(i1:Nonempty β)(i2:Nonempty γ)(i3:Nonempty δ)(i4:Nonempty ε)(i5:Nonempty ζ)(i6:Nonempty η)(i7:Nonempty θ)(P:α→β→γ→δ→ε→ζ→η→θ→Prop):ζ:=bM i4 i5 i6 i7 (P (bT i0 i1 i2 i3 i4 i5 i6 i7 P) (bU i0 i1 i2 i3 i4 i5 i6 i7 P) (bV i0 i1 i2 i3 i4 i5 i6 i7 P) (bW i0 i1 i2 i3 i4 i5 i6 i7 P))
noncomputable def cm{α β γ δ ε ζ η θ:Type}(i0:Nonempty α)(i1:Nonempty β)(i2:Nonempty γ)(i3:Nonempty δ)(i4:Nonempty ε)(i5:Nonempty ζ)(i6:Nonempty η)(i7:Nonempty θ)(P:α→β→γ→δ→ε→ζ→η→θ→Prop):η:=bQ i4 i5 i6 i7 (P (bT i0 i1 i2 i3 i4 i5 i6 i7 P) (bU i0 i1 i2 i3 i4 i5 i6 i7 P) (bV i0 i1 i2 i3 i4 i5 i6 i7 P) (bW i0 i1 i2 i3 i4 i5 i6 i7 P))
noncomputable def cp{α β γ δ ε ζ η θ:Type}(i0:Nonempty α)(i1:Nonempty β)(i2:Nonempty γ)(i3:Nonempty δ)(i4:Nonempty ε)(i5:Nonempty ζ)(i6:Nonempty η)(i7:Nonempty θ)(P:α→β→γ→δ→ε→ζ→η→θ→Prop):θ:=bR i4 i5 i6 i7 (P (bT i0 i1 i2 i3 i4 i5 i6 i7 P) (bU i0 i1 i2 i3 i4 i5 i6 i7 P) (bV i0 i1 i2 i3 i4 i5 i6 i7 P) (bW i0 i1 i2 i3 i4 i5 i6 i7 P))
def V3{α β γ δ ε ζ η θ:Type}(_:α)(_:β)(_:γ)(_:δ)(_:ε)(_:ζ)(_:η)(_:θ):Prop:=True
theorem V4{α β γ δ ε ζ η θ:Type}[i0:Nonempty α][i1:Nonempty β][i2:Nonempty γ][i3:Nonempty δ][i4:Nonempty ε][i5:Nonempty ζ][i6:Nonempty η][i7:Nonempty θ]{P:α→β→γ→δ→ε→ζ→η→θ→Prop}(h:P (bT i0 i1 i2 i3 i4 i5 i6 i7 P) (bU i0 i1 i2 i3 i4 i5 i6 i7 P) (bV i0 i1 i2 i3 i4 i5 i6 i7 P) (bW i0 i1 i2 i3 i4 i5 i6 i7 P) (cj i0 i1 i2 i3 i4 i5 i6 i7 P) (ck i0 i1 i2 i3 i4 i5 i6 i7 P) (cm i0 i1 i2 i3 i4 i5 i6 i7 P) (cp i0 i1 i2 i3 i4 i5 i6 i7 P)):∀x0 x1 x2 x3 x4 x5 x6 x7,P x0 x1 x2 x3 x4 x5 x6 x7:=Qx (P:=fun x0 x1 x2 x3=>∀x4 x5 x6 x7,P x0 x1 x2 x3 x4 x5 x6 x7) (Qx h)
theorem aQ{α β γ δ ε ζ η θ:Type}[i0:Nonempty α][i1:Nonempty β][i2:Nonempty γ][i3:Nonempty δ][i4:Nonempty ε][i5:Nonempty ζ][i6:Nonempty η][i7:Nonempty θ]{P:α→β→γ→δ→ε→ζ→η→θ→Prop}(h:V3 (bT i0 i1 i2 i3 i4 i5 i6 i7 P) (bU i0 i1 i2 i3 i4 i5 i6 i7 P) (bV i0 i1 i2 i3 i4 i5 i6 i7 P) (bW i0 i1 i2 i3 i4 i5 i6 i7 P) (cj i0 i1 i2 i3 i4 i5 i6 i7 P) (ck i0 i1 i2 i3 i4 i5 i6 i7 P) (cm i0 i1 i2 i3 i4 i5 i6 i7 P) (cp i0 i1 i2 i3 i4 i5 i6 i7 P)→P (bT i0 i1 i2 i3 i4 i5 i6 i7 P) (bU i0 i1 i2 i3 i4 i5 i6 i7 P) (bV i0 i1 i2 i3 i4 i5 i6 i7 P) (bW i0 i1 i2 i3 i4 i5 i6 i7 P) (cj i0 i1 i2 i3 i4 i5 i6 i7 P) (ck i0 i1 i2 i3 i4 i5 i6 i7 P) (cm i0 i1 i2 i3 i4 i5 i6 i7 P) (cp i0 i1 i2 i3 i4 i5 i6 i7 P)):∀x0 x1 x2 x3 x4 x5 x6 x7,P x0 x1 x2 x3 x4 x5 x6 x7:=V4 (h trivial)
def kp(K:Prop):Prop:=K
theorem Ze{K:Prop}(h:kp K):K:=h
theorem Zf{K:Prop}(h:K):kp K:=h
theorem jY{a b:Nat}(q:Nat.ble a b=true):a≤b:=Nat.le_of_ble_eq_true q
theorem cE{x B C:Nat}(h:x<B)(q:Nat.ble B C=true):x<C:=Nat.lt_of_lt_of_le h (jY q)
theorem bE{x B C:Nat}(k:Nat)(h:x<B)(q:Nat.ble (B+k) C=true):x+k<C:=cE (Nat.add_lt_add_right h k) q
theorem nZ{x B C:Nat}(h:x≤B)(q:Nat.ble B C=true):x≤C:=Nat.le_trans h (jY q)
theorem Qy{x B C:Nat}(k:Nat)(h:x≤B)(q:Nat.ble (B+k) C=true):x+k≤C:=nZ (Nat.add_le_add_right h k) q
theorem gC{x B C:Nat}(h:x≤B)(q:Nat.ble (B+1) C=true):x<C:=nZ (Nat.succ_le_succ h) q
theorem ly{x B C:Nat}(h:x<B)(q:Nat.ble B (C+1)=true):x≤C:=Nat.le_of_lt_succ (cE h q)
theorem cR{x k l:Nat}(q:Nat.ble k l=true):x+k≤x+l:=Nat.add_le_add_left (jY q) x
theorem jk{a b x:Int}(h:b≤x)(q:decide (a≤b)=true):a≤x:=Int.le_trans (of_decide_eq_true q) h
theorem qF{a b x:Int}(h:x≤a)(q:decide (a≤b)=true):x≤b:=Int.le_trans h (of_decide_eq_true q)
theorem Co{a b x:Int}(h:x≤a)(q:decide (a<b)=true):x<b:=Int.lt_of_le_of_lt h (of_decide_eq_true q)
theorem wa{a b x:Int}(h:x<a)(q:decide (a≤b)=true):x<b:=Int.lt_of_lt_of_le h (of_decide_eq_true q)
theorem cq{a b c d x:Int}(h:a≤x∧x≤b)(p:decide (c≤a)=true)(q:decide (b≤d)=true):c≤x∧x≤d:=⟨jk h.1 p,qF h.2 q⟩
theorem eP{a b c d x y:Int}(h:a≤x∧x≤b)(k:c≤y∧y≤d):a+c≤x+y∧x+y≤b+d:=⟨Int.add_le_add h.1 k.1,Int.add_le_add h.2 k.2⟩
theorem jl{a b c d x y:Int}(h:a≤x∧x≤b)(k:c≤y∧y≤d):a - d≤x - y∧x - y≤b - c:=⟨Int.sub_le_sub h.1 k.2,Int.sub_le_sub h.2 k.1⟩
theorem Qz{a b x:Int}(h:a≤x∧x≤b): -b≤-x∧-x≤-a:=⟨Int.neg_le_neg h.2,Int.neg_le_neg h.1⟩
theorem d8(k:Int):k≤k∧k≤k:=⟨Int.le_refl k,Int.le_refl k⟩
theorem eH{b x:Int}(h:0≤x)(k:x<b):0≤x∧x≤b - 1:=⟨h,Int.le_sub_one_of_lt k⟩
theorem IT{a b x:Int}(h:a≤x∧x≤b):2 * a≤2 * x∧2 * x≤2 * b:=⟨Int.mul_le_mul_of_nonneg_left h.1 (by decide),Int.mul_le_mul_of_nonneg_left h.2 (by decide)⟩
theorem pF{a b x:Int}{n:Nat}(h:a≤x∧x≤b)(p:decide (-(n:Int)<a)=true)(q:decide (b<n)=true):x.natAbs<n:=by
 have h1: -(n:Int)<x:=Int.lt_of_lt_of_le (of_decide_eq_true p) h.1
 have h2:x<n:=Co h.2 q
 cases x with
 |ofNat m=>exact Int.ofNat_lt.mp h2
 |negSucc m=>exact Int.ofNat_lt.mp (Int.neg_lt_neg_iff.mp h1)
def Fu(x:Int):List Int→Prop
 |[]=>False
 |a::l=>l.rec (x=a) fun _ _ _=>x=a∨Fu x l
theorem qG{P:Int→Prop}[d:DecidablePred P]{x:Int}(l:List Int)(q:l.all (fun a=>decide (P a))=true)(h:Fu x l):P x:=by
 induction l with
 |nil=>exact h.elim
 |cons a l ih=>
  have q:=Bool.and_eq_true_iff.mp (show(decide (P a) && l.all fun a=>decide (P a))=true from q)
  cases l with
  |nil=>exact(show x=a from h)▸of_decide_eq_true q.1
  |cons b l=>exact Or.elim (show x=a∨Fu x (b::l) from h) (fun e=>e▸of_decide_eq_true q.1) (ih q.2)
theorem yV{m:Nat}{x:Int}(h:m≤1000)(l: -(10 * (m:Int))≤x)(u:x≤10 * (m:Int)): -1000000≤x∧x≤1000000:=by
 have k:(10:Int) * m≤10000:=Int.mul_le_mul_of_nonneg_left (Int.ofNat_le.mpr h) (by decide)
 exact⟨jk (Int.le_trans (Int.neg_le_neg k) l) rfl,qF (Int.le_trans u k) rfl⟩
theorem IU{a b:Nat}{x y:Int}(h:a≤1000)(t: -(10 * ((min b a:Nat):Int))≤x∧x≤10 * ((min b a:Nat):Int)∧-(10 * ((min b a:Nat):Int))≤y∧y≤10 * ((min b a:Nat):Int)): -1000000≤x∧x≤1000000∧-1000000≤y∧y≤1000000:=
 have m:=Nat.le_trans (Nat.min_le_right b a) h
 have p:=yV m t.1 t.2.1
 ⟨p.1,p.2,yV m t.2.2.1 t.2.2.2⟩
theorem PJ{a b:Nat}(h:a≥b)(k:a - b=0):a=b:=Nat.le_antisymm (Nat.le_of_sub_eq_zero k) h
theorem Es{a b c:Nat}(h:a≤b)(k:b≤a+c):a+(c - (a+c - b))=b:=by
 obtain⟨d,rfl⟩:=Nat.le.dest h
 rw[Nat.add_sub_add_left,Nat.sub_sub_self (Nat.le_of_add_le_add_left k)]
theorem IV{a b c:Nat}(h:a≤b∧b≤a+c)(k:c≤b):a≤b∧b≤a+c∧c≤b∧a+c - b=a+c - b∧a+(c - (a+c - b))=b:=⟨h.1,h.2,k,rfl,Es h.1 h.2⟩
theorem IW{a p:Nat}(h:a+1<2 * p)(h0:¬a=0):a / 2 - 1+1<p:=by
 rcases Nat.eq_zero_or_pos (a / 2) with e|e
 ·rw[e];exact Nat.lt_of_mul_lt_mul_left (a:=2) (Nat.lt_of_le_of_lt (Nat.succ_le_succ (Nat.pos_of_ne_zero h0)) h)
 ·rw[Nat.sub_add_cancel e];exact Nat.div_lt_of_lt_mul (Nat.lt_of_succ_lt h)
theorem IX{a:Nat}(h0:¬a=0)(h1:¬a % 2=1):a=2 * (a / 2 - 1)+2:=by
 have e:=Nat.div_add_mod a 2
 rw[(Nat.mod_two_eq_zero_or_one a).resolve_right h1] at e
 rcases Nat.eq_zero_or_pos (a / 2) with q|q
 ·rw[q] at e;exact absurd e.symm h0
 ·have:2 * (a / 2 - 1+1)=a:=by rw[Nat.sub_add_cancel q];exact e
  exact this.symm
theorem IY{a p:Nat}(h:a+1<2 * p)(h1:a % 2=1):a / 2+1<p:=by
 have e:=Nat.div_add_mod a 2
 rw[h1] at e
 refine Nat.lt_of_mul_lt_mul_left (a:=2) ?_
 show 2 * (a / 2)+1+1<2 * p
 rw[e];exact h
theorem IZ{a:Nat}(h1:a % 2=1):a=2 * (a / 2)+1:=by
 have e:=Nat.div_add_mod a 2
 rw[h1] at e;exact e.symm
theorem I0{a:Nat}:(-1+(a:Int)).toNat=a - 1:=by
 cases a with
 |zero=>rfl
 |succ n=>
  have: -1+((n+1:Nat):Int)=n:=(Int.add_comm _ _).trans ((Int.add_assoc (n:Int) 1 (-1)).trans (Int.add_zero _))
  exact congrArg Int.toNat this
theorem QA{a b:Nat}{x:Int}(e:a=b)(h:0≤x∧x≤(a:Int)∧a<1000):min x.toNat b=x.toNat:=Nat.min_eq_left (e▸Int.toNat_le.mpr h.2.1)
theorem I1{a b:Nat}(h:a<b):b - a=b - (a+1)+1:=(Nat.sub_add_cancel (Nat.sub_pos_of_lt h)).symm
theorem I2{a b c d e:Nat}(h:a=b)(k:c<d)(i:e=b↔c+1=d):((e:Int)=(a:Int)↔d≤c+1):=by
 subst h
 exact⟨fun q=>Nat.le_of_eq (i.mp (Int.ofNat.inj q)).symm,fun q=>congrArg _ (i.mpr (Nat.le_antisymm k q))⟩
theorem Et{x y z:Int}(h:x≤1000000)(k: -1000000≤y)(l:z≤1000000):x - y+z<1073741824:=Co (Int.add_le_add (Int.sub_le_sub h k) l) rfl
theorem I3{a b c:Nat}(h:a<b)(m:c=a∨c=b∨c=b+1∨c=b+1+1):c<b+1+1+1+1:=by
 rcases m with rfl|rfl|rfl|rfl
 ·exact Nat.lt_add_right 4 h
 ·exact cR (k:=1) (l:=4) rfl
 ·exact cR (k:=2) (l:=4) rfl
 ·exact cR (k:=3) (l:=4) rfl
theorem I4{a b:Nat}(h:a<b):¬(b+1+1+1=a∨b+1+1+1=b∨b+1+1+1=b+1∨b+1+1+1=b+1+1):=fun m=>
 m.elim (fun e=>Nat.ne_of_gt (Nat.lt_add_right 3 h) e) fun m=>m.elim (fun e=>Nat.ne_of_gt (cR (k:=1) (l:=3) rfl) e) fun m=>m.elim (fun e=>Nat.ne_of_gt (cR (k:=2) (l:=3) rfl) e) fun e=>Nat.ne_of_gt (cR (k:=3) (l:=3) rfl) e
theorem I5{a b:Nat}(h:a<b):a≠b∧a≠b+1∧a≠b+1+1∧b≠b+1∧b≠b+1+1∧b+1≠b+1+1:=
 ⟨Nat.ne_of_lt h,Nat.ne_of_lt (Nat.lt_add_right 1 h),Nat.ne_of_lt (Nat.lt_add_right 2 h),Nat.ne_of_lt (cR (k:=1) (l:=1) rfl),Nat.ne_of_lt (cR (k:=1) (l:=2) rfl),Nat.ne_of_lt (cR (k:=2) (l:=2) rfl)⟩
theorem Eu{a b c d e f:Nat}(h:a≤4)(t:b<10000)(l:c≤b)(k:d≤4 * c)(p:e=a)(q:f=d):f+e<100000:=by
 subst p q
 exact Nat.lt_of_le_of_lt (Nat.add_le_add (Nat.le_trans k (Nat.mul_le_mul_left 4 (Nat.le_trans l (Nat.le_of_lt t)))) h) (jY rfl)
theorem I6{b c d e:Nat}(t:b<10000)(l:c≤b)(k:d≤4 * c)(p:e=d):e<100000:=Eu (Nat.zero_le 4) t l k rfl p
theorem V5{a:Nat}(h:0<a):(a:Int) - 1=(((a:Int) - 1).toNat:Int):=(Int.toNat_of_nonneg (Int.le_sub_one_of_lt (Int.ofNat_lt.mpr h))).symm
theorem I7{a b:Int}(h:0≤a)(k:a<4):(4 * b+a) / 4=b:=by
 rw[Int.add_comm,Int.add_mul_ediv_left _ _ (by decide),Int.ediv_eq_zero_of_lt h k,Int.zero_add]
theorem I8{m:Nat}{x y:Int}(a: -(10 * (m:Int))≤x)(b:x≤10 * (m:Int))(c: -10≤y)(d:y≤10): -(10 * ((m+1:Nat):Int))≤y+x∧y+x≤10 * ((m+1:Nat):Int):=by
 have e:(10:Int) * ((m+1:Nat):Int)=10+10 * m:=(Int.mul_add 10 m 1).trans (Int.add_comm _ _)
 rw[e,Int.neg_add]
 exact⟨Int.add_le_add c a,Int.add_le_add d b⟩
theorem I9{a b c d e:Nat}(h0:a<60)(h1:b≤a)(h2:c=b)(h3:d≤a+e)(h4:e<c):d<1000:=
 gC (Nat.le_trans h3 (Nat.add_le_add (Nat.le_of_lt h0) (Nat.le_of_lt (Nat.lt_trans (Nat.lt_of_lt_of_le h4 (h2▸h1)) h0)))) rfl
theorem Ja{a b c:Nat}(h:a≤b):a≤b - c+c:=Nat.le_trans h (Nat.le_add_of_sub_le (Nat.le_refl _))
theorem V6{a:Nat}{x:Int}(h:0<a)(k:¬(a:Int)<x):(x - 1).toNat<a:=by
 cases a with
 |zero=>exact absurd h (Nat.lt_irrefl 0)
 |succ n=>exact Nat.lt_succ_of_le (Int.toNat_le.mpr (Int.sub_right_le_of_le_add (Int.not_lt.mp k)))
theorem QB{x:Int}(h:x≤3):(1+x).toNat<6:=gC (Int.toNat_le.mpr (Int.add_le_add_left h 1:1+x≤((4:Nat):Int))) rfl
theorem Jb{a b c d e:Nat}(h:a≤2 ^ b)(k:c≤2 * d)(p:e=c)(q:a=d):e≤2 ^ b * 2:=by
 subst p q
 exact Nat.le_trans k (Nat.mul_comm 2 a▸Nat.mul_le_mul_right 2 h)
theorem V7{a:Nat}(h:0<a):((a:Int) - 1).toNat<a:=(Int.toNat_lt' h).mpr (Int.sub_lt_self _ (by decide))
theorem Jc{a b c d:Nat}(h:a<b):c+a+(b - a+d)=c+(b+d):=by rw[Nat.add_assoc,←Nat.add_assoc a,Nat.add_sub_cancel' (Nat.le_of_lt h)]
theorem Jd{a b c:Int}{n:Nat}(h:a=b+1)(k:b≤c+n):a≤c+((n+1:Nat):Int):=h▸(Int.add_assoc c n 1▸Int.add_le_add_right k 1:b+1≤c+(n+1))
theorem Je{a b c d e f:Nat}(h:a≤b+c)(p:d=e+f)(q:a=e)(k:f≤1):d≤b+(c+1):=by
 subst p q;exact(Nat.add_le_add h k:a+f≤b+c+1)
theorem Jf{a b c d e:Nat}(h:a<b)(k:c=0+d)(l:d<e):(c=e↔a+1=b+1):=
 ⟨fun q=>absurd ((k.trans (Nat.zero_add d)).symm.trans q) (Nat.ne_of_lt l),fun q=>absurd (Nat.succ.inj q) (Nat.ne_of_lt h)⟩
theorem QC{x:Int}{n:Nat}(h:0≤x∧x≤(n:Int)∧n<1000): -9223372036854775808≤x∧x<9223372036854775808:=
 ⟨jk h.1 rfl,Co (Int.le_trans h.2.1 (Int.ofNat_le.mpr (Nat.le_of_lt h.2.2))) rfl⟩
theorem QD{a b:Nat}:(a:Int)=(b:Int) - 1↔a+1=b:=
 ⟨fun h=>Int.ofNat.inj ((congrArg (· +1) h).trans (Int.sub_add_cancel (b:Int) 1)),fun h=>h▸(Int.add_sub_cancel (a:Int) 1).symm⟩
theorem Jg{a b c d:Nat}(h:a<5000)(p:b=c)(k:d≤a+5)(l:c≤4 * d):b<1000000:=
 gC (p▸Nat.le_trans l (Nat.mul_le_mul_left 4 (Nat.le_trans k (Nat.add_le_add_right (Nat.le_of_lt h) 5)))) rfl
theorem Cp{a b c B C:Nat}(h:a<B)(k:b≤a)(e:c=b)(q:Nat.ble B C=true):c<C:=cE (Nat.lt_of_le_of_lt (e▸k) h) q
theorem Ew{a b c:Nat}(h:a+(b+1)<c):a+1+b<c:=by rw[Nat.add_right_comm];exact h
theorem Ex{a b c:Nat}(h:a+1+b=c):b<c:=h▸Nat.lt_add_of_pos_left (Nat.succ_pos a)
theorem QE{a b c d e f:Nat}(p:a=b)(q:c=d)(h:e≠f∧a+c<100000):b+d≤16777216:=by
 subst p q;exact ly h.2 rfl
theorem Jh{a b c:Nat}(h:a≤6 * b+1)(k:c≤5):a+(c+1)≤6 * (b+1)+1:=Nat.le_trans (Nat.add_le_add h (Nat.succ_le_succ k)) (Nat.le_of_eq (Nat.add_right_comm (6 * b) 1 6))
theorem Ji{a b c:Nat}{p:Prop}(h:a<b)(e:a=c)(k:b<c+1):p:=absurd (Nat.lt_of_le_of_lt (Nat.le_of_lt_succ k) (e▸h)) (Nat.lt_irrefl _)
theorem uS{a b:Int}:a+(b - a)=b:=by rw[Int.add_comm,Int.sub_add_cancel]
theorem QF{a b c d e f:Nat}(e1:a=b)(h:c≤b∧c+d=e+f)(k:¬(c:Int)<(a:Int)):c=b:=Nat.le_antisymm h.1 (e1▸Int.ofNat_le.mp (Int.not_lt.mp k))
theorem Jj{x:Int}{n:Nat}(h:x<0∧0≤x+(n:Int)):0≤x+(n:Int)∧x+(n:Int)<(n:Int):=⟨h.2,Int.lt_of_lt_of_le (Int.add_lt_add_right h.1 n) (Int.le_of_eq (Int.zero_add _))⟩
theorem QG{x:Int}{n:Nat}(h:x<0∧0≤x+(n:Int)):(x+(n:Int)).toNat<n:=(Int.toNat_lt h.2).mpr (Jj h).2
theorem Jk{a b c d:Nat}(h:a≤0+b)(k:c≤0+b)(l:d≤c):a+d≤2 * b:=by
 rw[Nat.zero_add] at h k;rw[Nat.two_mul];exact Nat.add_le_add h (Nat.le_trans l k)
theorem QH{a b c:Nat}(e:a=b)(k:¬(c:Int)+1<(a:Int)):b≤c+1:=e▸Int.ofNat_le.mp (Int.not_lt.mp k)
theorem QI{a b c:Nat}(e:a=b)(k:¬(c:Int)<(a:Int)):b≤c:=e▸Int.ofNat_le.mp (Int.not_lt.mp k)
theorem Jl{a b:Nat}(h:a+20 * (b+1)+5≤9000):a+3+20 * b+20≤9000:=by
 rw[Nat.add_right_comm a 3];exact Nat.le_trans (cR (x:=a+20 * b) (k:=23) (l:=25) rfl) h
theorem Cq{x k l C:Nat}(h:x+k≤C)(q:Nat.ble l k=true):x+l≤C:=Nat.le_trans (cR q) h
theorem uT{a b c B C:Nat}(h:a+b+c≤B)(q:Nat.ble (B+1) C=true):a<C:=gC (Nat.le_trans (Nat.le_trans (Nat.le_add_right a b) (Nat.le_add_right _ c)) h) q
theorem QJ{a b:Nat}(h:a+20 * b+20≤9000):a+1+64<9900:=bE 65 (uT h rfl:a<9001) rfl
theorem QK{a b:Nat}(h:a+4 * b+4≤900):a+1+4 * b+1≤900:=by rw[Nat.add_right_comm a 1];exact Cq (k:=4) (l:=2) h rfl
theorem QM{a b:Nat}(h:a+20 * b+20≤9000):a+1+20 * b+5≤9000:=by rw[Nat.add_right_comm a 1];exact Cq (k:=20) (l:=6) h rfl
theorem Jm{a b:Nat}(h:a+4 * (b+1)+1≤900):a+1+4 * b+4≤900:=by rw[Nat.add_right_comm a 1];exact h
theorem Jn{x y:Int}(h:0≤x)(k:y≤-10000)(l:¬-10000>y - x):y=y - x:=by
 have m:y≤y - x:=Int.le_trans k (Int.not_lt.mp l)
 have e:x≤0:=Int.le_of_add_le_add_right (b:=y) (by rw[Int.zero_add];exact Int.add_le_of_le_sub_left m)
 rw[Int.le_antisymm e h,Int.sub_zero]
theorem Jo{a b c:Nat}(h:a≤1)(k:b≤c):a+b≤c+1:=Nat.add_comm b a▸Nat.add_le_add k h
theorem Jp{a b c:Nat}(h:a≤b+(c+1)):a≤b+1+c:=by rw[Nat.add_right_comm];exact h
theorem Jq{a b:Nat}{x:Int}(e:(a:Int)=x)(h:x<(b:Int)):a<b:=Int.ofNat_lt.mp (e▸h)
theorem Jr{a:Nat}(h:0<a):(-1:Int)<0∧0≤-1+(a:Int):=⟨by decide,by rw[Int.add_comm];exact Int.le_sub_one_of_lt (Int.ofNat_lt.mpr h)⟩
theorem Js{x y:Int}{n:Nat}(h:x≤y+(n:Int)):x≤y+((n+1:Nat):Int):=Int.le_trans h (Int.add_le_add_left (Int.ofNat_le.mpr (Nat.le_succ n)) y)
theorem Jt{a:Int}(h:0≤a)(k:a<2):a=0∨a=1:=by
 cases a with
 |ofNat n=>exact(Nat.le_one_iff_eq_zero_or_eq_one.mp (Nat.le_of_lt_succ (Int.ofNat_lt.mp k))).imp (congrArg Int.ofNat) (congrArg Int.ofNat)
 |negSucc n=>exact absurd h (Int.not_le.mpr (Int.negSucc_lt_zero n))
theorem wc{c:Prop}[Decidable c]{a b x y:Int}(h:a≤x∧x≤b)(k:a≤y∧y≤b):a≤(if c then x else y)∧(if c then x else y)≤b:=by split<;>assumption
theorem PK:(0:Int)≤0∧(0:Int)≤10:=⟨by decide,by decide⟩
theorem V8{a b c d x:Int}(p:0≤a∧a≤10)(q:0≤b∧b≤10)(h:0≤x∧x≤100)(r:0≤c∧c≤10)(s:0≤d∧d≤10): -1000000≤a+b+x∧a+b+x≤1000000∧-1000000≤c+d∧c+d≤1000000:=
 have i:=cq (c:=-1000000) (d:=1000000) (eP (eP p q) h) rfl rfl
 ⟨i.1,i.2,cq (eP r s) rfl rfl⟩
theorem QN{k:Nat}(h:(k:Int)≤3):k=0∨k=1∨k=2∨k=3:=
 match k,Int.ofNat_le.mp h with
 |0,_=>.inl rfl|1,_=>.inr (.inl rfl)|2,_=>.inr (.inr (.inl rfl))|3,_=>.inr (.inr (.inr rfl))
 |n+4,h=>absurd h (Nat.not_le.mpr (Nat.le_add_left 4 n))
theorem Ey{a b c:Int}:a+(b+(c - a - b))=c:=by rw[Int.sub_sub,←Int.add_assoc,Int.add_comm,Int.sub_add_cancel]
theorem Ju{a b c:Nat}:((a+b:Nat):Int)+((c:Int) - (b:Int))=((a+c:Nat):Int):=by rw[Int.natCast_add,Int.natCast_add,Int.add_assoc,uS]
theorem Ur:(0:Int)≤0∧(0:Int)≤3:=⟨by decide,by decide⟩
end
section
open PyProof.Rows PySem.W
set_option backward.match.sparseCases false
noncomputable abbrev pw:Program:=PySem.Challenge.pw_tu0007_01
noncomputable def aS(k:Nat):Stmt:=(pw.main.body[k]?).getD (.Pass ⟨0,0,0,0⟩)
noncomputable def QO(j:Nat):Stmt→Stmt
 |.ClassDef _ _ _ b .. =>(b[j]?).getD (.Pass ⟨0,0,0,0⟩)
 |_=>.Pass ⟨0,0,0,0⟩
noncomputable def cy(k j:Nat):Stmt:=QO j (aS k)
noncomputable def dJ:Stmt→DefRec
 |.FunctionDef n a b _ _ _ sc _ _ pos=>⟨n,a,b,sc,pos⟩
 |_=>⟨Str.empty,⟨[],[],none,[],[],none,[]⟩,[],⟨.module,[],false,false,[]⟩,⟨0,0,0,0⟩⟩
noncomputable def tu(l:List Value):Obj:={cls:=.type "tuple",data:=.seq ⟨l⟩}
noncomputable def re(T:String)(l:List Value):Obj:={cls:=.type T,data:=.fields ⟨l⟩}
noncomputable def di(P:Params)(l:List (Str×Nat×Value))(n:Nat):Obj:={cls:=.type "dict",data:=.dict ⟨l.map fun e=>⟨PyData.keyHash P e.1,.str e.1 e.2.1,e.2.2⟩⟩ n}
noncomputable def cl(name:Str)(bases mro:List Value)(ns:Addr)(subs:List Value)(slots:List (Option Value)):Obj:=
 {cls:=.type "type",data:=.cls {name:=name,bases:=bases,mro:=mro,ns:=ns,qualname:=name,subclasses:=subs},slots:=⟨slots⟩}
noncomputable def fo(st:Stmt)(qual:Str)(dflt md code:Value):Obj:=
 {cls:=.type "function",data:=.func (fnOf (dJ st).name qual (dJ st).params (dJ st).body (dJ st).scope dflt .none .none md none code .none)}
noncomputable def s0:Str:=s!"k"
noncomputable def s1:Str:=s!"_wall"
noncomputable def s2:Str:=s!"/claim/cut.py"
noncomputable def s3:Str:=s!"__main__"
noncomputable def s4:Str:=s!""
noncomputable def s5:Str:=s!"self"
noncomputable def s6:Str:=s!"reason"
noncomputable def s7:Str:=s!"__init__"
noncomputable def s8:Str:=s!"PageError.__init__"
noncomputable def s9:Str:=s!"gluepage.errors"
noncomputable def oH:Str:=s!"__module__"
noncomputable def oI:Str:=s!"__firstlineno__"
noncomputable def oJ:Str:=s!"__static_attributes__"
noncomputable def iD:Str:=s!"__weakref__"
noncomputable def n7:Str:=s!"__doc__"
noncomputable def PL:Str:=s!"PageError"
noncomputable def Jv:Str:=s!"BadArgument"
noncomputable def Ez:Str:=s!"BadUnit"
noncomputable def Jw:Str:=s!"Overflow"
noncomputable def qH:Str:=s!"value"
noncomputable def Us:Str:=s!"low"
noncomputable def Ut:Str:=s!"high"
noncomputable def Ia:Str:=s!"is_whole"
noncomputable def jZ:Str:=s!"gluepage.scaled"
noncomputable def Ib:Str:=s!"check_whole"
noncomputable def Ic:Str:=s!"check_number"
noncomputable def Ie:Str:=s!"check_dimen"
noncomputable def Cr:Str:=s!"number"
noncomputable def Uu:Str:=s!"by"
noncomputable def PM:Str:=s!"rounded"
noncomputable def QP:Str:=s!"whole"
noncomputable def Uv:Str:=s!"scale"
noncomputable def PN:Str:=s!"reading"
noncomputable def QQ:Str:=s!"sign"
noncomputable def PO:Str:=s!"part"
noncomputable def PQ:Str:=s!"places"
noncomputable def Ig:Str:=s!"decimal_text"
noncomputable def Uw:Str:=s!"count"
noncomputable def Jx:Str:=s!"more"
noncomputable def Ih:Str:=s!"times"
noncomputable def Ux:Str:=s!"excess"
noncomputable def Uy:Str:=s!"total"
noncomputable def PR:Str:=s!"ratio"
noncomputable def Ii:Str:=s!"badness"
noncomputable def yW:Str:=s!"order"
noncomputable def PS:Str:=s!"order_text"
noncomputable def Uz:Str:=s!"unit"
noncomputable def PT:Str:=s!"part_text"
noncomputable def lZ:Str:=s!"width"
noncomputable def Cs:Str:=s!"stretch"
noncomputable def PU:Str:=s!"stretch_order"
noncomputable def Fv:Str:=s!"shrink"
noncomputable def Ij:Str:=s!"shrink_order"
noncomputable def QR:Str:=s!"Glue.__init__"
noncomputable def QS:Str:=s!"parts"
noncomputable def QT:Str:=s!"Glue.parts"
noncomputable def Jy:Str:=s!"other"
noncomputable def UA:Str:=s!"same"
noncomputable def UB:Str:=s!"Glue.same"
noncomputable def UC:Str:=s!"added"
noncomputable def UD:Str:=s!"Glue.added"
noncomputable def UE:Str:=s!"Glue.times"
noncomputable def UG:Str:=s!"over"
noncomputable def UH:Str:=s!"Glue.over"
noncomputable def UI:Str:=s!"negated"
noncomputable def UJ:Str:=s!"Glue.negated"
noncomputable def nW:Str:=s!"found"
noncomputable def UK:Str:=s!"text"
noncomputable def UL:Str:=s!"Glue.text"
noncomputable def iQ:Str:=s!"__dict__"
noncomputable def Jz:Str:=s!"Glue"
noncomputable def lN:Str:=s!"items"
noncomputable def qI:Str:=s!"node"
noncomputable def Ik:Str:=s!"check_short"
noncomputable def gR:Str:=s!"gluepage.nodes"
noncomputable def qJ:Str:=s!"kind"
noncomputable def Fw:Str:=s!"height"
noncomputable def Ca:Str:=s!"depth"
noncomputable def QU:Str:=s!"Box.__init__"
noncomputable def UM:Str:=s!"shift"
noncomputable def JA:Str:=s!"Box"
noncomputable def qK:Str:=s!"size"
noncomputable def QV:Str:=s!"Rule.__init__"
noncomputable def JB:Str:=s!"Rule"
noncomputable def lO:Str:=s!"sort"
noncomputable def QW:Str:=s!"Kern.__init__"
noncomputable def JC:Str:=s!"Kern"
noncomputable def Il:Str:=s!"glue"
noncomputable def PW:Str:=s!"leader"
noncomputable def QX:Str:=s!"Skip.__init__"
noncomputable def JD:Str:=s!"Skip"
noncomputable def QY:Str:=s!"Penalty.__init__"
noncomputable def JE:Str:=s!"Penalty"
noncomputable def PX:Str:=s!"pre"
noncomputable def PY:Str:=s!"post"
noncomputable def PZ:Str:=s!"middle"
noncomputable def QZ:Str:=s!"Disc.__init__"
noncomputable def yX:Str:=s!"Disc"
noncomputable def Cu:Str:=s!"tokens"
noncomputable def Fx:Str:=s!"Mark.__init__"
noncomputable def yY:Str:=s!"Mark"
noncomputable def Cv:Str:=s!"top"
noncomputable def sO:Str:=s!"cost"
noncomputable def Fy:Str:=s!"Insert.__init__"
noncomputable def yZ:Str:=s!"Insert"
noncomputable def Fz:Str:=s!"Adjust.__init__"
noncomputable def za:Str:=s!"Adjust"
noncomputable def Cw:Str:=s!"is_on"
noncomputable def FA:Str:=s!"MathEdge.__init__"
noncomputable def zb:Str:=s!"MathEdge"
noncomputable def Cy:Str:=s!"octets"
noncomputable def JF:Str:=s!"octet"
noncomputable def FD:Str:=s!"Special.__init__"
noncomputable def zc:Str:=s!"Special"
noncomputable def wd:Str:=s!"width_of"
noncomputable def FE:Str:=s!"Shape.__init__"
noncomputable def bO:Str:=s!"gluepage.breaks"
noncomputable def FG:Str:=s!"special"
noncomputable def FI:Str:=s!"Shape.special"
noncomputable def JG:Str:=s!"is_hung"
noncomputable def qL:Str:=s!"line"
noncomputable def FJ:Str:=s!"Shape.line"
noncomputable def zd:Str:=s!"done"
noncomputable def FK:Str:=s!"hang_after"
noncomputable def FN:Str:=s!"hang_indent"
noncomputable def JH:Str:=s!"narrow"
noncomputable def FO:Str:=s!"rows"
noncomputable def ze:Str:=s!"Shape"
noncomputable def FP:Str:=s!"Settings.__init__"
noncomputable def JI:Str:=s!"adjacent"
noncomputable def JJ:Str:=s!"double_hyphen"
noncomputable def JK:Str:=s!"emergency"
noncomputable def JL:Str:=s!"ex_hyphen_penalty"
noncomputable def JM:Str:=s!"final_hyphen"
noncomputable def JN:Str:=s!"hyphen_penalty"
noncomputable def JO:Str:=s!"left_skip"
noncomputable def JP:Str:=s!"line_penalty"
noncomputable def Cz:Str:=s!"looseness"
noncomputable def JQ:Str:=s!"pretolerance"
noncomputable def JR:Str:=s!"right_skip"
noncomputable def CA:Str:=s!"tolerance"
noncomputable def zf:Str:=s!"Settings"
noncomputable def qM:Str:=s!"spot"
noncomputable def we:Str:=s!"fit"
noncomputable def wg:Str:=s!"demerits"
noncomputable def CB:Str:=s!"before"
noncomputable def FQ:Str:=s!"Way.__init__"
noncomputable def zg:Str:=s!"Way"
noncomputable def ec:Str:=s!"settings"
noncomputable def n8:Str:=s!"shape"
noncomputable def CC:Str:=s!"most"
noncomputable def sP:Str:=s!"ground"
noncomputable def l5:Str:=s!"is_last"
noncomputable def FR:Str:=s!"Trial.__init__"
noncomputable def n9:Str:=s!"apart"
noncomputable def zh:Str:=s!"Trial"
noncomputable def wh:Str:=s!"check_settings"
noncomputable def wj:Str:=s!"is_dropped"
noncomputable def JS:Str:=s!"may"
noncomputable def JT:Str:=s!"is_behind"
noncomputable def pG:Str:=s!"place"
noncomputable def qN:Str:=s!"penalty"
noncomputable def wk:Str:=s!"legal_breaks"
noncomputable def wm:Str:=s!"start_behind"
noncomputable def wo:Str:=s!"row"
noncomputable def wq:Str:=s!"add_glue"
noncomputable def sQ:Str:=s!"wide"
noncomputable def wt:Str:=s!"sums_ahead"
noncomputable def qO:Str:=s!"sums"
noncomputable def wu:Str:=s!"widened"
noncomputable def JU:Str:=s!"start"
noncomputable def FT:Str:=s!"begin"
noncomputable def sR:Str:=s!"end"
noncomputable def wx:Str:=s!"spots"
noncomputable def CD:Str:=s!"extra"
noncomputable def wy:Str:=s!"ground_of"
noncomputable def wz:Str:=s!"line_totals"
noncomputable def JV:Str:=s!"short"
noncomputable def wA:Str:=s!"bad"
noncomputable def wB:Str:=s!"fitted"
noncomputable def wC:Str:=s!"line_demerits"
noncomputable def CE:Str:=s!"is_twice"
noncomputable def CF:Str:=s!"is_end"
noncomputable def wD:Str:=s!"pair_demerits"
noncomputable def CG:Str:=s!"trial"
noncomputable def CH:Str:=s!"active"
noncomputable def JW:Str:=s!"kept"
noncomputable def CI:Str:=s!"best"
noncomputable def JX:Str:=s!"least"
noncomputable def wF:Str:=s!"way"
noncomputable def JY:Str:=s!"is_resort"
noncomputable def JZ:Str:=s!"group"
noncomputable def J0:Str:=s!"old"
noncomputable def wG:Str:=s!"ways_to"
noncomputable def J2:Str:=s!"ways"
noncomputable def J3:Str:=s!"far"
noncomputable def J4:Str:=s!"is_nearer"
noncomputable def wH:Str:=s!"picked"
noncomputable def wJ:Str:=s!"places_of"
noncomputable def wK:Str:=s!"choose"
noncomputable def CJ:Str:=s!"script"
noncomputable def J5:Str:=s!"cell"
noncomputable def wM:Str:=s!"_law_pool"
noncomputable def du:Str:=s!"law_tu0007_01"
noncomputable def fu:Str:=s!"pool"
noncomputable def CK:Str:=s!"many"
noncomputable def J6:Str:=s!"digit"
noncomputable def wN:Str:=s!"_law_take"
noncomputable def wO:Str:=s!"_law_settings"
noncomputable def FU:Str:=s!"indent"
noncomputable def J7:Str:=s!"after"
noncomputable def wQ:Str:=s!"_law_shape"
noncomputable def jm:Str:=s!"told"
noncomputable def sS:Str:=s!"others"
noncomputable def J8:Str:=s!"back"
noncomputable def wR:Str:=s!"_law_add"
noncomputable def J9:Str:=s!"cut"
noncomputable def wU:Str:=s!"_law_pieces"
noncomputable def wV:Str:=s!"_law_outside"
noncomputable def Ka:Str:=s!"is_outer"
noncomputable def Kb:Str:=s!"ahead"
noncomputable def wW:Str:=s!"_law_box"
noncomputable def Kc:Str:=s!"amount"
noncomputable def Kd:Str:=s!"is_free"
noncomputable def Ke:Str:=s!"first"
noncomputable def Kf:Str:=s!"second"
noncomputable def wX:Str:=s!"_law_glue"
noncomputable def wY:Str:=s!"_law_amount"
noncomputable def Kg:Str:=s!"fee"
noncomputable def wZ:Str:=s!"_law_fee"
noncomputable def w3:Str:=s!"_law_disc"
noncomputable def w4:Str:=s!"_law_gap"
noncomputable def Kh:Str:=s!"one"
noncomputable def Ki:Str:=s!"this"
noncomputable def Kj:Str:=s!"that"
noncomputable def w5:Str:=s!"_law_same"
noncomputable def FV:Str:=s!"nodes"
noncomputable def CL:Str:=s!"numbers"
noncomputable def Kk:Str:=s!"given"
noncomputable def Kl:Str:=s!"answer"
noncomputable def w6:Str:=s!"_law_answer"
noncomputable def w7:Str:=s!"_law_alike"
noncomputable def FW:Str:=s!"turn"
noncomputable def FX:Str:=s!"due"
noncomputable def zi:Str:=s!"law"
noncomputable def Km:Str:=s!"MAX_DIMEN"
noncomputable def Kn:Str:=s!"MAX_NUMBER"
noncomputable def Ko:Str:=s!"INF_BAD"
noncomputable def Kp:Str:=s!"NORMAL"
noncomputable def Kq:Str:=s!"FILLL"
noncomputable def Kr:Str:=s!"CHAR"
noncomputable def Ks:Str:=s!"LIGATURE"
noncomputable def Ku:Str:=s!"HBOX"
noncomputable def Kv:Str:=s!"VBOX"
noncomputable def Kw:Str:=s!"RULE"
noncomputable def Kx:Str:=s!"KERN"
noncomputable def Ky:Str:=s!"GLUE"
noncomputable def Kz:Str:=s!"PENALTY"
noncomputable def KG:Str:=s!"DISC"
noncomputable def KH:Str:=s!"MATH"
noncomputable def KJ:Str:=s!"UNSET"
noncomputable def KL:Str:=s!"NATURAL"
noncomputable def KN:Str:=s!"FONT_KERN"
noncomputable def KO:Str:=s!"EXPLICIT"
noncomputable def KP:Str:=s!"MU_KERN"
noncomputable def KQ:Str:=s!"PLAIN"
noncomputable def KR:Str:=s!"ALEADERS"
noncomputable def KS:Str:=s!"XLEADERS"
noncomputable def KU:Str:=s!"NONSCRIPT"
noncomputable def KV:Str:=s!"NAMED"
noncomputable def KW:Str:=s!"EJECT"
noncomputable def KX:Str:=s!"FORBID"
noncomputable def KY:Str:=s!"VERY_LOOSE"
noncomputable def KZ:Str:=s!"LOOSE_FIT"
noncomputable def K0:Str:=s!"DECENT_FIT"
noncomputable def K1:Str:=s!"TIGHT_FIT"
noncomputable def K2:Str:=s!"PLAIN_BREAK"
noncomputable def K6:Str:=s!"HYPHEN_BREAK"
noncomputable def La:Str:=s!"TOO_LONG"
noncomputable def Lb:Str:=s!"WORST_LINE"
noncomputable def Lc:Str:=s!"NO_SUMS"
noncomputable def KA(P:Params):Frag:=[
 (15,tu []),
 (17,tu [.str s0 190]),
 (18,tu []),
 (20,re "code" [.str s1 187,.str s1 188,.str s2 189,.int 1 0,.int 1 0,.int 0 0,.int 0 0,.int 3 0,.ref 15,.bool true,.int 181 0,.ref 16,.none,.ref 17,.ref 18,.ref 19,.int 191 0,.int 1 0,.str s2 192]),
 (21,fo (aS 0) s1 (.none) (.str s3 164) (.ref 20)),
 (22,tu [.type "ValueError"]),
 (29,tu [.str s4 208]),
 (30,tu []),
 (32,tu [.str s5 212,.str s6 213]),
 (33,tu []),
 (35,re "code" [.str s7 209,.str s8 210,.str s2 211,.int 7 0,.int 2 0,.int 0 0,.int 0 0,.int 3 0,.ref 30,.bool true,.int 181 0,.ref 31,.none,.ref 32,.ref 33,.ref 34,.int 214 0,.int 7 0,.str s2 215]),
 (36,fo (cy 2 0) s8 (.ref 29) (.str s9 194) (.ref 35)),
 (37,tu [.str s6 217]),
 (38,di P [(oH,203,.str s9 194),(oI,207,.int 5 206),(s7,216,.ref 36),(oJ,218,.ref 37),(iD,220,.ref 40),(n7,221,.none)] 3),
 (39,cl PL [.type "ValueError"] [.ref 39,.type "ValueError",.type "Exception",.type "BaseException",.type "object"] 38 [.ref 52,.ref 64,.ref 76] [some (.ref 22),none,some (.str PL 196),some (.str PL 204),some (.builtin "ValueError.__new__"),some (.bool true)]),
 (40,re "getset_descriptor" [.str iD 219,.ref 39,.builtin "ExceptionGroup.__weakref__",.none]),
 (43,tu [.ref 39]),
 (50,tu []),
 (51,di P [(oH,231,.str s9 194),(oI,235,.int 9 234),(oJ,236,.ref 50),(n7,237,.none)] 2),
 (52,cl Jv [.ref 39] [.ref 52,.ref 39,.type "ValueError",.type "Exception",.type "BaseException",.type "object"] 51 [] [some (.ref 43),none,some (.str Jv 224),some (.str Jv 232),some (.builtin "ValueError.__new__"),some (.bool true)]),
 (55,tu [.ref 39]),
 (62,tu []),
 (63,di P [(oH,247,.str s9 194),(oI,251,.int 11 250),(oJ,252,.ref 62),(n7,253,.none)] 2),
 (64,cl Ez [.ref 39] [.ref 64,.ref 39,.type "ValueError",.type "Exception",.type "BaseException",.type "object"] 63 [] [some (.ref 55),none,some (.str Ez 240),some (.str Ez 248),some (.builtin "ValueError.__new__"),some (.bool true)]),
 (67,tu [.ref 39]),
 (74,tu []),
 (75,di P [(oH,263,.str s9 194),(oI,267,.int 13 266),(oJ,268,.ref 74),(n7,269,.none)] 2),
 (76,cl Jw [.ref 39] [.ref 76,.ref 39,.type "ValueError",.type "Exception",.type "BaseException",.type "object"] 75 [] [some (.ref 67),none,some (.str Jw 256),some (.str Jw 264),some (.builtin "ValueError.__new__"),some (.bool true)]),
 (83,tu []),
 (85,tu [.str qH 301,.str Us 302,.str Ut 303]),
 (86,tu []),
 (88,re "code" [.str Ia 298,.str Ia 299,.str s2 300,.int 21 0,.int 3 0,.int 0 0,.int 0 0,.int 3 0,.ref 83,.bool true,.int 181 0,.ref 84,.none,.ref 85,.ref 86,.ref 87,.int 304 0,.int 21 0,.str s2 305]),
 (89,fo (aS 12) Ia (.none) (.str jZ 272) (.ref 88)),
 (90,tu []),
 (92,tu [.str qH 310]),
 (93,tu []),
 (95,re "code" [.str Ib 307,.str Ib 308,.str s2 309,.int 23 0,.int 1 0,.int 0 0,.int 0 0,.int 3 0,.ref 90,.bool true,.int 181 0,.ref 91,.none,.ref 92,.ref 93,.ref 94,.int 311 0,.int 23 0,.str s2 312]),
 (96,fo (aS 13) Ib (.none) (.str jZ 272) (.ref 95)),
 (97,tu []),
 (99,tu [.str qH 317]),
 (100,tu []),
 (102,re "code" [.str Ic 314,.str Ic 315,.str s2 316,.int 27 0,.int 1 0,.int 0 0,.int 0 0,.int 3 0,.ref 97,.bool true,.int 181 0,.ref 98,.none,.ref 99,.ref 100,.ref 101,.int 318 0,.int 27 0,.str s2 319]),
 (103,fo (aS 14) Ic (.none) (.str jZ 272) (.ref 102)),
 (104,tu []),
 (106,tu [.str qH 324]),
 (107,tu []),
 (109,re "code" [.str Ie 321,.str Ie 322,.str s2 323,.int 31 0,.int 1 0,.int 0 0,.int 0 0,.int 3 0,.ref 104,.bool true,.int 181 0,.ref 105,.none,.ref 106,.ref 107,.ref 108,.int 325 0,.int 31 0,.str s2 326]),
 (110,fo (aS 15) Ie (.none) (.str jZ 272) (.ref 109)),
 (111,tu []),
 (113,tu [.str Cr 331,.str Uu 332]),
 (114,tu []),
 (116,re "code" [.str PM 328,.str PM 329,.str s2 330,.int 35 0,.int 2 0,.int 0 0,.int 0 0,.int 3 0,.ref 111,.bool true,.int 181 0,.ref 112,.none,.ref 113,.ref 114,.ref 115,.int 333 0,.int 35 0,.str s2 334]),
 (117,fo (aS 16) PM (.none) (.str jZ 272) (.ref 116)),
 (118,tu []),
 (120,tu [.str QP 339,.str Uv 340]),
 (121,tu []),
 (123,re "code" [.str PN 336,.str PN 337,.str s2 338,.int 41 0,.int 2 0,.int 0 0,.int 0 0,.int 3 0,.ref 118,.bool true,.int 181 0,.ref 119,.none,.ref 120,.ref 121,.ref 122,.int 341 0,.int 41 0,.str s2 342]),
 (124,fo (aS 17) PN (.none) (.str jZ 272) (.ref 123)),
 (125,tu []),
 (127,tu [.str qH 347,.str QQ 348,.str s!"points" 349,.str PO 350,.str Uv 351,.str s!"near" 352,.str PQ 353]),
 (128,tu []),
 (130,re "code" [.str Ig 344,.str Ig 345,.str s2 346,.int 43 0,.int 1 0,.int 0 0,.int 0 0,.int 3 0,.ref 125,.bool true,.int 181 0,.ref 126,.none,.ref 127,.ref 128,.ref 129,.int 354 0,.int 43 0,.str s2 355]),
 (131,fo (aS 18) Ig (.none) (.str jZ 272) (.ref 130)),
 (132,tu []),
 (134,tu [.str Uw 360,.str qH 361,.str Jx 362]),
 (135,tu []),
 (137,re "code" [.str Ih 357,.str Ih 358,.str s2 359,.int 54 0,.int 3 0,.int 0 0,.int 0 0,.int 3 0,.ref 132,.bool true,.int 181 0,.ref 133,.none,.ref 134,.ref 135,.ref 136,.int 363 0,.int 54 0,.str s2 364]),
 (138,fo (aS 19) Ih (.none) (.str jZ 272) (.ref 137)),
 (139,tu []),
 (141,tu [.str Ux 370,.str Uy 371,.str PR 372]),
 (142,tu []),
 (144,re "code" [.str Ii 367,.str Ii 368,.str s2 369,.int 57 0,.int 2 0,.int 0 0,.int 0 0,.int 3 0,.ref 139,.bool true,.int 181 0,.ref 140,.none,.ref 141,.ref 142,.ref 143,.int 373 0,.int 57 0,.str s2 374]),
 (145,fo (aS 21) Ii (.none) (.str jZ 272) (.ref 144)),
 (146,tu []),
 (148,tu [.str yW 379]),
 (149,tu []),
 (151,re "code" [.str PS 376,.str PS 377,.str s2 378,.int 73 0,.int 1 0,.int 0 0,.int 0 0,.int 3 0,.ref 146,.bool true,.int 181 0,.ref 147,.none,.ref 148,.ref 149,.ref 150,.int 380 0,.int 73 0,.str s2 381]),
 (152,fo (aS 22) PS (.none) (.str jZ 272) (.ref 151)),
 (153,tu []),
 (155,tu [.str qH 386,.str yW 387,.str Uz 388]),
 (156,tu []),
 (158,re "code" [.str PT 383,.str PT 384,.str s2 385,.int 75 0,.int 3 0,.int 0 0,.int 0 0,.int 3 0,.ref 153,.bool true,.int 181 0,.ref 154,.none,.ref 155,.ref 156,.ref 157,.int 389 0,.int 75 0,.str s2 390]),
 (159,fo (aS 23) PT (.none) (.str jZ 272) (.ref 158)),
 (167,tu [.int 0 404,.int 0 405,.int 0 406,.int 0 407,.int 0 408]),
 (168,tu []),
 (170,tu [.str s5 412,.str lZ 413,.str Cs 414,.str PU 415,.str Fv 416,.str Ij 417]),
 (171,tu []),
 (173,re "code" [.str s7 409,.str QR 410,.str s2 411,.int 79 0,.int 6 0,.int 0 0,.int 0 0,.int 3 0,.ref 168,.bool true,.int 181 0,.ref 169,.none,.ref 170,.ref 171,.ref 172,.int 418 0,.int 79 0,.str s2 419]),
 (174,fo (cy 24 0) QR (.ref 167) (.str jZ 272) (.ref 173)),
 (175,tu []),
 (177,tu [.str s5 424]),
 (178,tu []),
 (180,re "code" [.str QS 421,.str QT 422,.str s2 423,.int 88 0,.int 1 0,.int 0 0,.int 0 0,.int 3 0,.ref 175,.bool true,.int 181 0,.ref 176,.none,.ref 177,.ref 178,.ref 179,.int 425 0,.int 88 0,.str s2 426]),
 (181,fo (cy 24 1) QT (.none) (.str jZ 272) (.ref 180)),
 (182,tu []),
 (184,tu [.str s5 431,.str Jy 432]),
 (185,tu []),
 (187,re "code" [.str UA 428,.str UB 429,.str s2 430,.int 91 0,.int 2 0,.int 0 0,.int 0 0,.int 3 0,.ref 182,.bool true,.int 181 0,.ref 183,.none,.ref 184,.ref 185,.ref 186,.int 433 0,.int 91 0,.str s2 434]),
 (188,fo (cy 24 2) UB (.none) (.str jZ 272) (.ref 187)),
 (189,tu []),
 (191,tu [.str s5 439,.str Jy 440]),
 (192,tu []),
 (194,re "code" [.str UC 436,.str UD 437,.str s2 438,.int 94 0,.int 2 0,.int 0 0,.int 0 0,.int 3 0,.ref 189,.bool true,.int 181 0,.ref 190,.none,.ref 191,.ref 192,.ref 193,.int 441 0,.int 94 0,.str s2 442]),
 (195,fo (cy 24 3) UD (.none) (.str jZ 272) (.ref 194)),
 (196,tu []),
 (198,tu [.str s5 447,.str Uw 448,.str Cs 449,.str Fv 450]),
 (199,tu []),
 (201,re "code" [.str Ih 444,.str UE 445,.str s2 446,.int 97 0,.int 2 0,.int 0 0,.int 0 0,.int 3 0,.ref 196,.bool true,.int 181 0,.ref 197,.none,.ref 198,.ref 199,.ref 200,.int 451 0,.int 97 0,.str s2 452]),
 (202,fo (cy 24 4) UE (.none) (.str jZ 272) (.ref 201)),
 (203,tu []),
 (205,tu [.str s5 457,.str Uu 458]),
 (206,tu []),
 (208,re "code" [.str UG 454,.str UH 455,.str s2 456,.int 101 0,.int 2 0,.int 0 0,.int 0 0,.int 3 0,.ref 203,.bool true,.int 181 0,.ref 204,.none,.ref 205,.ref 206,.ref 207,.int 459 0,.int 101 0,.str s2 460]),
 (209,fo (cy 24 5) UH (.none) (.str jZ 272) (.ref 208)),
 (210,tu []),
 (212,tu [.str s5 465]),
 (213,tu []),
 (215,re "code" [.str UI 462,.str UJ 463,.str s2 464,.int 104 0,.int 1 0,.int 0 0,.int 0 0,.int 3 0,.ref 210,.bool true,.int 181 0,.ref 211,.none,.ref 212,.ref 213,.ref 214,.int 466 0,.int 104 0,.str s2 467]),
 (216,fo (cy 24 6) UJ (.none) (.str jZ 272) (.ref 215)),
 (217,tu [.str s!"pt" 469]),
 (218,tu []),
 (220,tu [.str s5 473,.str Uz 474,.str nW 475]),
 (221,tu []),
 (223,re "code" [.str UK 470,.str UL 471,.str s2 472,.int 107 0,.int 2 0,.int 0 0,.int 0 0,.int 3 0,.ref 218,.bool true,.int 181 0,.ref 219,.none,.ref 220,.ref 221,.ref 222,.int 476 0,.int 107 0,.str s2 477]),
 (224,fo (cy 24 7) UL (.ref 217) (.str jZ 272) (.ref 223)),
 (225,tu [.str Fv 479,.str Ij 480,.str Cs 481,.str PU 482,.str lZ 483]),
 (226,di P [(oH,399,.str jZ 272),(oI,403,.int 77 402),(s7,420,.ref 174),(QS,427,.ref 181),(UA,435,.ref 188),(UC,443,.ref 195),(Ih,453,.ref 202),(UG,461,.ref 209),(UI,468,.ref 216),(UK,478,.ref 224),(oJ,484,.ref 225),(iQ,486,.ref 228),(iD,488,.ref 229),(n7,489,.none)] 4),
 (227,cl Jz [.type "object"] [.ref 227,.type "object"] 226 [] [none,none,some (.str Jz 392),some (.str Jz 400),some (.builtin "object.__new__"),some (.bool true)]),
 (228,re "getset_descriptor" [.str iQ 485,.ref 227,.builtin "function.__dict__",.builtin "function.__dict__#set"]),
 (229,re "getset_descriptor" [.str iD 487,.ref 227,.builtin "ExceptionGroup.__weakref__",.none])]
noncomputable def KB(P:Params):Frag:=[
 (256,tu []),
 (258,tu [.str lN 563,.str qI 564]),
 (259,tu []),
 (261,re "code" [.str Ik 560,.str Ik 561,.str s2 562,.int 121 0,.int 1 0,.int 0 0,.int 0 0,.int 3 0,.ref 256,.bool true,.int 181 0,.ref 257,.none,.ref 258,.ref 259,.ref 260,.int 565 0,.int 121 0,.str s2 566]),
 (262,fo (aS 32) Ik (.none) (.str gR 492) (.ref 261)),
 (270,tu []),
 (272,tu [.str s5 583,.str qJ 584,.str lZ 585,.str Fw 586,.str Ca 587,.str lN 588]),
 (273,tu []),
 (275,re "code" [.str s7 580,.str QU 581,.str s2 582,.int 128 0,.int 6 0,.int 0 0,.int 0 0,.int 3 0,.ref 270,.bool true,.int 181 0,.ref 271,.none,.ref 272,.ref 273,.ref 274,.int 589 0,.int 128 0,.str s2 590]),
 (276,fo (cy 33 0) QU (.none) (.str gR 492) (.ref 275)),
 (277,tu [.str Ca 592,.str Fw 593,.str lN 594,.str qJ 595,.str yW 596,.str PR 597,.str UM 598,.str QQ 599,.str lZ 600]),
 (278,di P [(oH,575,.str gR 492),(oI,579,.int 126 578),(s7,591,.ref 276),(oJ,601,.ref 277),(iQ,603,.ref 280),(iD,605,.ref 281),(n7,606,.none)] 4),
 (279,cl JA [.type "object"] [.ref 279,.type "object"] 278 [] [none,none,some (.str JA 568),some (.str JA 576),some (.builtin "object.__new__"),some (.bool true)]),
 (280,re "getset_descriptor" [.str iQ 602,.ref 279,.builtin "function.__dict__",.builtin "function.__dict__#set"]),
 (281,re "getset_descriptor" [.str iD 604,.ref 279,.builtin "ExceptionGroup.__weakref__",.none]),
 (291,tu []),
 (293,tu [.str s5 625,.str lZ 626,.str Fw 627,.str Ca 628,.str qK 629]),
 (294,tu []),
 (296,re "code" [.str s7 622,.str QV 623,.str s2 624,.int 143 0,.int 4 0,.int 0 0,.int 0 0,.int 3 0,.ref 291,.bool true,.int 181 0,.ref 292,.none,.ref 293,.ref 294,.ref 295,.int 630 0,.int 143 0,.str s2 631]),
 (297,fo (cy 34 1) QV (.none) (.str gR 492) (.ref 296)),
 (298,tu [.str Ca 633,.str Fw 634,.str lZ 635]),
 (299,di P [(oH,616,.str gR 492),(oI,620,.int 140 619),(qJ,621,.int 4 498),(s7,632,.ref 297),(oJ,636,.ref 298),(iQ,638,.ref 301),(iD,640,.ref 302),(n7,641,.none)] 4),
 (300,cl JB [.type "object"] [.ref 300,.type "object"] 299 [] [none,none,some (.str JB 609),some (.str JB 617),some (.builtin "object.__new__"),some (.bool true)]),
 (301,re "getset_descriptor" [.str iQ 637,.ref 300,.builtin "function.__dict__",.builtin "function.__dict__#set"]),
 (302,re "getset_descriptor" [.str iD 639,.ref 300,.builtin "ExceptionGroup.__weakref__",.none]),
 (312,tu []),
 (314,tu [.str s5 660,.str lZ 661,.str lO 662]),
 (315,tu []),
 (317,re "code" [.str s7 657,.str QW 658,.str s2 659,.int 153 0,.int 3 0,.int 0 0,.int 0 0,.int 3 0,.ref 312,.bool true,.int 181 0,.ref 313,.none,.ref 314,.ref 315,.ref 316,.int 663 0,.int 153 0,.str s2 664]),
 (318,fo (cy 35 1) QW (.none) (.str gR 492) (.ref 317)),
 (319,tu [.str lO 666,.str lZ 667]),
 (320,di P [(oH,651,.str gR 492),(oI,655,.int 150 654),(qJ,656,.int 5 499),(s7,665,.ref 318),(oJ,668,.ref 319),(iQ,670,.ref 322),(iD,672,.ref 323),(n7,673,.none)] 4),
 (321,cl JC [.type "object"] [.ref 321,.type "object"] 320 [] [none,none,some (.str JC 644),some (.str JC 652),some (.builtin "object.__new__"),some (.bool true)]),
 (322,re "getset_descriptor" [.str iQ 669,.ref 321,.builtin "function.__dict__",.builtin "function.__dict__#set"]),
 (323,re "getset_descriptor" [.str iD 671,.ref 321,.builtin "ExceptionGroup.__weakref__",.none]),
 (333,tu [.none]),
 (334,tu []),
 (336,tu [.str s5 692,.str Il 693,.str lO 694,.str PW 695]),
 (337,tu []),
 (339,re "code" [.str s7 689,.str QX 690,.str s2 691,.int 161 0,.int 4 0,.int 0 0,.int 0 0,.int 3 0,.ref 334,.bool true,.int 181 0,.ref 335,.none,.ref 336,.ref 337,.ref 338,.int 696 0,.int 161 0,.str s2 697]),
 (340,fo (cy 36 1) QX (.ref 333) (.str gR 492) (.ref 339)),
 (341,tu [.str Il 699,.str PW 700,.str lO 701]),
 (342,di P [(oH,683,.str gR 492),(oI,687,.int 158 686),(qJ,688,.int 6 500),(s7,698,.ref 340),(oJ,702,.ref 341),(iQ,704,.ref 344),(iD,706,.ref 345),(n7,707,.none)] 4),
 (343,cl JD [.type "object"] [.ref 343,.type "object"] 342 [] [none,none,some (.str JD 676),some (.str JD 684),some (.builtin "object.__new__"),some (.bool true)]),
 (344,re "getset_descriptor" [.str iQ 703,.ref 343,.builtin "function.__dict__",.builtin "function.__dict__#set"]),
 (345,re "getset_descriptor" [.str iD 705,.ref 343,.builtin "ExceptionGroup.__weakref__",.none]),
 (355,tu []),
 (357,tu [.str s5 726,.str qH 727]),
 (358,tu []),
 (360,re "code" [.str s7 723,.str QY 724,.str s2 725,.int 174 0,.int 2 0,.int 0 0,.int 0 0,.int 3 0,.ref 355,.bool true,.int 181 0,.ref 356,.none,.ref 357,.ref 358,.ref 359,.int 728 0,.int 174 0,.str s2 729]),
 (361,fo (cy 37 1) QY (.none) (.str gR 492) (.ref 360)),
 (362,tu [.str qH 731]),
 (363,di P [(oH,717,.str gR 492),(oI,721,.int 171 720),(qJ,722,.int 7 501),(s7,730,.ref 361),(oJ,732,.ref 362),(iQ,734,.ref 365),(iD,736,.ref 366),(n7,737,.none)] 4),
 (364,cl JE [.type "object"] [.ref 364,.type "object"] 363 [] [none,none,some (.str JE 710),some (.str JE 718),some (.builtin "object.__new__"),some (.bool true)]),
 (365,re "getset_descriptor" [.str iQ 733,.ref 364,.builtin "function.__dict__",.builtin "function.__dict__#set"]),
 (366,re "getset_descriptor" [.str iD 735,.ref 364,.builtin "ExceptionGroup.__weakref__",.none]),
 (376,tu []),
 (378,tu [.str s5 756,.str PX 757,.str PY 758,.str PZ 759]),
 (379,tu []),
 (381,re "code" [.str s7 753,.str QZ 754,.str s2 755,.int 179 0,.int 4 0,.int 0 0,.int 0 0,.int 3 0,.ref 376,.bool true,.int 181 0,.ref 377,.none,.ref 378,.ref 379,.ref 380,.int 760 0,.int 179 0,.str s2 761]),
 (382,fo (cy 38 1) QZ (.none) (.str gR 492) (.ref 381)),
 (383,tu [.str PZ 763,.str PY 764,.str PX 765]),
 (384,di P [(oH,747,.str gR 492),(oI,751,.int 176 750),(qJ,752,.int 8 510),(s7,762,.ref 382),(oJ,766,.ref 383),(iQ,768,.ref 386),(iD,770,.ref 387),(n7,771,.none)] 4),
 (385,cl yX [.type "object"] [.ref 385,.type "object"] 384 [] [none,none,some (.str yX 740),some (.str yX 748),some (.builtin "object.__new__"),some (.bool true)]),
 (386,re "getset_descriptor" [.str iQ 767,.ref 385,.builtin "function.__dict__",.builtin "function.__dict__#set"]),
 (387,re "getset_descriptor" [.str iD 769,.ref 385,.builtin "ExceptionGroup.__weakref__",.none]),
 (397,tu []),
 (399,tu [.str s5 790,.str Cu 791]),
 (400,tu []),
 (402,re "code" [.str s7 787,.str Fx 788,.str s2 789,.int 186 0,.int 2 0,.int 0 0,.int 0 0,.int 3 0,.ref 397,.bool true,.int 181 0,.ref 398,.none,.ref 399,.ref 400,.ref 401,.int 792 0,.int 186 0,.str s2 793]),
 (403,fo (cy 39 1) Fx (.none) (.str gR 492) (.ref 402)),
 (404,tu [.str Cu 795]),
 (405,di P [(oH,781,.str gR 492),(oI,785,.int 183 784),(qJ,786,.int 9 511),(s7,794,.ref 403),(oJ,796,.ref 404),(iQ,798,.ref 407),(iD,800,.ref 408),(n7,801,.none)] 4),
 (406,cl yY [.type "object"] [.ref 406,.type "object"] 405 [] [none,none,some (.str yY 774),some (.str yY 782),some (.builtin "object.__new__"),some (.bool true)]),
 (407,re "getset_descriptor" [.str iQ 797,.ref 406,.builtin "function.__dict__",.builtin "function.__dict__#set"]),
 (408,re "getset_descriptor" [.str iD 799,.ref 406,.builtin "ExceptionGroup.__weakref__",.none]),
 (418,tu []),
 (420,tu [.str s5 820,.str Cr 821,.str qK 822,.str Ca 823,.str Cv 824,.str sO 825,.str lN 826]),
 (421,tu []),
 (423,re "code" [.str s7 817,.str Fy 818,.str s2 819,.int 191 0,.int 7 0,.int 0 0,.int 0 0,.int 3 0,.ref 418,.bool true,.int 181 0,.ref 419,.none,.ref 420,.ref 421,.ref 422,.int 827 0,.int 191 0,.str s2 828]),
 (424,fo (cy 40 1) Fy (.none) (.str gR 492) (.ref 423)),
 (425,tu [.str sO 830,.str Ca 831,.str lN 832,.str Cr 833,.str qK 834,.str Cv 835]),
 (426,di P [(oH,811,.str gR 492),(oI,815,.int 188 814),(qJ,816,.int 10 512),(s7,829,.ref 424),(oJ,836,.ref 425),(iQ,838,.ref 428),(iD,840,.ref 429),(n7,841,.none)] 4),
 (427,cl yZ [.type "object"] [.ref 427,.type "object"] 426 [] [none,none,some (.str yZ 804),some (.str yZ 812),some (.builtin "object.__new__"),some (.bool true)]),
 (428,re "getset_descriptor" [.str iQ 837,.ref 427,.builtin "function.__dict__",.builtin "function.__dict__#set"]),
 (429,re "getset_descriptor" [.str iD 839,.ref 427,.builtin "ExceptionGroup.__weakref__",.none]),
 (439,tu []),
 (441,tu [.str s5 860,.str lN 861]),
 (442,tu []),
 (444,re "code" [.str s7 857,.str Fz 858,.str s2 859,.int 203 0,.int 2 0,.int 0 0,.int 0 0,.int 3 0,.ref 439,.bool true,.int 181 0,.ref 440,.none,.ref 441,.ref 442,.ref 443,.int 862 0,.int 203 0,.str s2 863]),
 (445,fo (cy 41 1) Fz (.none) (.str gR 492) (.ref 444)),
 (446,tu [.str lN 865]),
 (447,di P [(oH,851,.str gR 492),(oI,855,.int 200 854),(qJ,856,.int 11 513),(s7,864,.ref 445),(oJ,866,.ref 446),(iQ,868,.ref 449),(iD,870,.ref 450),(n7,871,.none)] 4),
 (448,cl za [.type "object"] [.ref 448,.type "object"] 447 [] [none,none,some (.str za 844),some (.str za 852),some (.builtin "object.__new__"),some (.bool true)]),
 (449,re "getset_descriptor" [.str iQ 867,.ref 448,.builtin "function.__dict__",.builtin "function.__dict__#set"]),
 (450,re "getset_descriptor" [.str iD 869,.ref 448,.builtin "ExceptionGroup.__weakref__",.none]),
 (460,tu []),
 (462,tu [.str s5 890,.str Cw 891,.str lZ 892]),
 (463,tu []),
 (465,re "code" [.str s7 887,.str FA 888,.str s2 889,.int 208 0,.int 3 0,.int 0 0,.int 0 0,.int 3 0,.ref 460,.bool true,.int 181 0,.ref 461,.none,.ref 462,.ref 463,.ref 464,.int 893 0,.int 208 0,.str s2 894]),
 (466,fo (cy 42 1) FA (.none) (.str gR 492) (.ref 465)),
 (467,tu [.str Cw 896,.str lZ 897]),
 (468,di P [(oH,881,.str gR 492),(oI,885,.int 205 884),(qJ,886,.int 12 514),(s7,895,.ref 466),(oJ,898,.ref 467),(iQ,900,.ref 470),(iD,902,.ref 471),(n7,903,.none)] 4),
 (469,cl zb [.type "object"] [.ref 469,.type "object"] 468 [] [none,none,some (.str zb 874),some (.str zb 882),some (.builtin "object.__new__"),some (.bool true)]),
 (470,re "getset_descriptor" [.str iQ 899,.ref 469,.builtin "function.__dict__",.builtin "function.__dict__#set"]),
 (471,re "getset_descriptor" [.str iD 901,.ref 469,.builtin "ExceptionGroup.__weakref__",.none]),
 (481,tu []),
 (483,tu [.str s5 923,.str Cy 924,.str JF 925]),
 (484,tu []),
 (486,re "code" [.str s7 920,.str FD 921,.str s2 922,.int 215 0,.int 2 0,.int 0 0,.int 0 0,.int 3 0,.ref 481,.bool true,.int 181 0,.ref 482,.none,.ref 483,.ref 484,.ref 485,.int 926 0,.int 215 0,.str s2 927]),
 (487,fo (cy 43 2) FD (.none) (.str gR 492) (.ref 486)),
 (488,tu [.str Cy 929]),
 (489,di P [(oH,913,.str gR 492),(oI,917,.int 211 916),(qJ,918,.int 13 515),(lO,919,.int 0 552),(s7,928,.ref 487),(oJ,930,.ref 488),(iQ,932,.ref 491),(iD,934,.ref 492),(n7,935,.none)] 4),
 (490,cl zc [.type "object"] [.ref 490,.type "object"] 489 [] [none,none,some (.str zc 906),some (.str zc 914),some (.builtin "object.__new__"),some (.bool true)]),
 (491,re "getset_descriptor" [.str iQ 931,.ref 490,.builtin "function.__dict__",.builtin "function.__dict__#set"]),
 (492,re "getset_descriptor" [.str iD 933,.ref 490,.builtin "ExceptionGroup.__weakref__",.none]),
 (495,tu []),
 (498,re "code" [.str wd 938,.str wd 939,.str s2 940,.int 222 0,.int 1 0,.int 0 0,.int 0 0,.int 3 0,.ref 495,.bool true,.int 181 0,.ref 496,.none,.none,.none,.ref 497,.int 941 0,.int 222 0,.str s2 942]),
 (499,fo (aS 44) wd (.none) (.str gR 492) (.ref 498))]
noncomputable def KC(P:Params):Frag:=[
 ]
noncomputable def KD(P:Params):Frag:=[
 (512,tu [.int 0 968,.int 0 969,.int 0 970,.int 0 971,.int 0 972,.int 0 973]),
 (520,tu []),
 (521,tu [.int 0 987,.int 1 988,.ref 520,.int 0 989]),
 (522,tu []),
 (525,re "code" [.str s7 990,.str FE 991,.str s2 992,.int 244 0,.int 6 0,.int 0 0,.int 0 0,.int 3 0,.ref 522,.bool true,.int 181 0,.ref 523,.none,.none,.none,.ref 524,.int 993 0,.int 244 0,.str s2 994]),
 (526,fo (cy 52 0) FE (.ref 521) (.str bO 944) (.ref 525)),
 (527,tu []),
 (529,tu [.str s5 999]),
 (530,tu []),
 (532,re "code" [.str FG 996,.str FI 997,.str s2 998,.int 254 0,.int 1 0,.int 0 0,.int 0 0,.int 3 0,.ref 527,.bool true,.int 181 0,.ref 528,.none,.ref 529,.ref 530,.ref 531,.int 1000 0,.int 254 0,.str s2 1001]),
 (533,fo (cy 52 1) FI (.none) (.str bO 944) (.ref 532)),
 (534,tu []),
 (536,tu [.str s5 1006,.str Cr 1007,.str JG 1008]),
 (537,tu []),
 (539,re "code" [.str qL 1003,.str FJ 1004,.str s2 1005,.int 259 0,.int 2 0,.int 0 0,.int 0 0,.int 3 0,.ref 534,.bool true,.int 181 0,.ref 535,.none,.ref 536,.ref 537,.ref 538,.int 1009 0,.int 259 0,.str s2 1010]),
 (540,fo (cy 52 2) FJ (.none) (.str bO 944) (.ref 539)),
 (541,tu [.str zd 1012,.str FK 1013,.str FN 1014,.str JH 1015,.str FO 1016,.str lZ 1017]),
 (542,di P [(oH,982,.str bO 944),(oI,986,.int 242 985),(s7,995,.ref 526),(FG,1002,.ref 533),(qL,1011,.ref 540),(oJ,1018,.ref 541),(iQ,1020,.ref 544),(iD,1022,.ref 545),(n7,1023,.none)] 4),
 (543,cl ze [.type "object"] [.ref 543,.type "object"] 542 [] [none,none,some (.str ze 975),some (.str ze 983),some (.builtin "object.__new__"),some (.bool true)]),
 (544,re "getset_descriptor" [.str iQ 1019,.ref 543,.builtin "function.__dict__",.builtin "function.__dict__#set"]),
 (545,re "getset_descriptor" [.str iD 1021,.ref 543,.builtin "ExceptionGroup.__weakref__",.none]),
 (555,tu []),
 (557,tu [.str s5 1041]),
 (558,tu []),
 (560,re "code" [.str s7 1038,.str FP 1039,.str s2 1040,.int 270 0,.int 1 0,.int 0 0,.int 0 0,.int 3 0,.ref 555,.bool true,.int 181 0,.ref 556,.none,.ref 557,.ref 558,.ref 559,.int 1042 0,.int 270 0,.str s2 1043]),
 (561,fo (cy 53 0) FP (.none) (.str bO 944) (.ref 560)),
 (562,tu [.str JI 1045,.str JJ 1046,.str JK 1047,.str JL 1048,.str JM 1049,.str JN 1050,.str JO 1051,.str JP 1052,.str Cz 1053,.str JQ 1054,.str JR 1055,.str CA 1056]),
 (563,di P [(oH,1033,.str bO 944),(oI,1037,.int 268 1036),(s7,1044,.ref 561),(oJ,1057,.ref 562),(iQ,1059,.ref 565),(iD,1061,.ref 566),(n7,1062,.none)] 4),
 (564,cl zf [.type "object"] [.ref 564,.type "object"] 563 [] [none,none,some (.str zf 1026),some (.str zf 1034),some (.builtin "object.__new__"),some (.bool true)]),
 (565,re "getset_descriptor" [.str iQ 1058,.ref 564,.builtin "function.__dict__",.builtin "function.__dict__#set"]),
 (566,re "getset_descriptor" [.str iD 1060,.ref 564,.builtin "ExceptionGroup.__weakref__",.none]),
 (576,tu []),
 (578,tu [.str s5 1080,.str qM 1081,.str qL 1082,.str we 1083,.str wg 1084,.str CB 1085]),
 (579,tu []),
 (581,re "code" [.str s7 1077,.str FQ 1078,.str s2 1079,.int 285 0,.int 6 0,.int 0 0,.int 0 0,.int 3 0,.ref 576,.bool true,.int 181 0,.ref 577,.none,.ref 578,.ref 579,.ref 580,.int 1086 0,.int 285 0,.str s2 1087]),
 (582,fo (cy 54 0) FQ (.none) (.str bO 944) (.ref 581)),
 (583,tu [.str CB 1089,.str wg 1090,.str we 1091,.str qL 1092,.str qM 1093]),
 (584,di P [(oH,1072,.str bO 944),(oI,1076,.int 283 1075),(s7,1088,.ref 582),(oJ,1094,.ref 583),(iQ,1096,.ref 586),(iD,1098,.ref 587),(n7,1099,.none)] 4),
 (585,cl zg [.type "object"] [.ref 585,.type "object"] 584 [] [none,none,some (.str zg 1065),some (.str zg 1073),some (.builtin "object.__new__"),some (.bool true)]),
 (586,re "getset_descriptor" [.str iQ 1095,.ref 585,.builtin "function.__dict__",.builtin "function.__dict__#set"]),
 (587,re "getset_descriptor" [.str iD 1097,.ref 585,.builtin "ExceptionGroup.__weakref__",.none]),
 (597,tu []),
 (599,tu [.str s5 1117,.str ec 1118,.str n8 1119,.str CC 1120,.str sP 1121,.str l5 1122]),
 (600,tu []),
 (602,re "code" [.str s7 1114,.str FR 1115,.str s2 1116,.int 293 0,.int 6 0,.int 0 0,.int 0 0,.int 3 0,.ref 597,.bool true,.int 181 0,.ref 598,.none,.ref 599,.ref 600,.ref 601,.int 1123 0,.int 293 0,.str s2 1124]),
 (603,fo (cy 55 0) FR (.none) (.str bO 944) (.ref 602)),
 (604,tu [.str n9 1126,.str sP 1127,.str l5 1128,.str CC 1129,.str ec 1130,.str n8 1131]),
 (605,di P [(oH,1109,.str bO 944),(oI,1113,.int 291 1112),(s7,1125,.ref 603),(oJ,1132,.ref 604),(iQ,1134,.ref 607),(iD,1136,.ref 608),(n7,1137,.none)] 4),
 (606,cl zh [.type "object"] [.ref 606,.type "object"] 605 [] [none,none,some (.str zh 1102),some (.str zh 1110),some (.builtin "object.__new__"),some (.bool true)]),
 (607,re "getset_descriptor" [.str iQ 1133,.ref 606,.builtin "function.__dict__",.builtin "function.__dict__#set"]),
 (608,re "getset_descriptor" [.str iD 1135,.ref 606,.builtin "ExceptionGroup.__weakref__",.none]),
 (611,tu []),
 (613,tu [.str ec 1143,.str qH 1144]),
 (614,tu []),
 (616,re "code" [.str wh 1140,.str wh 1141,.str s2 1142,.int 300 0,.int 1 0,.int 0 0,.int 0 0,.int 3 0,.ref 611,.bool true,.int 181 0,.ref 612,.none,.ref 613,.ref 614,.ref 615,.int 1145 0,.int 300 0,.str s2 1146]),
 (617,fo (aS 56) wh (.none) (.str bO 944) (.ref 616)),
 (618,tu []),
 (620,tu [.str qI 1151]),
 (621,tu []),
 (623,re "code" [.str wj 1148,.str wj 1149,.str s2 1150,.int 304 0,.int 1 0,.int 0 0,.int 0 0,.int 3 0,.ref 618,.bool true,.int 181 0,.ref 619,.none,.ref 620,.ref 621,.ref 622,.int 1152 0,.int 304 0,.str s2 1153]),
 (624,fo (aS 57) wj (.none) (.str bO 944) (.ref 623)),
 (625,tu []),
 (627,tu [.str lN 1158,.str ec 1159,.str nW 1160,.str JS 1161,.str JT 1162,.str pG 1163,.str qI 1164,.str qJ 1165,.str qN 1166,.str lO 1167]),
 (628,tu []),
 (630,re "code" [.str wk 1155,.str wk 1156,.str s2 1157,.int 306 0,.int 2 0,.int 0 0,.int 0 0,.int 3 0,.ref 625,.bool true,.int 181 0,.ref 626,.none,.ref 627,.ref 628,.ref 629,.int 1168 0,.int 306 0,.str s2 1169]),
 (631,fo (aS 58) wk (.none) (.str bO 944) (.ref 630)),
 (632,tu []),
 (634,tu [.str lN 1174,.str pG 1175]),
 (635,tu []),
 (637,re "code" [.str wm 1171,.str wm 1172,.str s2 1173,.int 330 0,.int 2 0,.int 0 0,.int 0 0,.int 3 0,.ref 632,.bool true,.int 181 0,.ref 633,.none,.ref 634,.ref 635,.ref 636,.int 1176 0,.int 330 0,.str s2 1177]),
 (638,fo (aS 59) wm (.none) (.str bO 944) (.ref 637)),
 (639,tu []),
 (641,tu [.str wo 1182,.str Il 1183]),
 (642,tu []),
 (644,re "code" [.str wq 1179,.str wq 1180,.str s2 1181,.int 338 0,.int 2 0,.int 0 0,.int 0 0,.int 3 0,.ref 639,.bool true,.int 181 0,.ref 640,.none,.ref 641,.ref 642,.ref 643,.int 1184 0,.int 338 0,.str s2 1185]),
 (645,fo (aS 60) wq (.none) (.str bO 944) (.ref 644)),
 (646,tu []),
 (648,tu [.str lN 1190,.str nW 1191,.str qI 1192]),
 (649,tu []),
 (651,re "code" [.str sQ 1187,.str sQ 1188,.str s2 1189,.int 344 0,.int 1 0,.int 0 0,.int 0 0,.int 3 0,.ref 646,.bool true,.int 181 0,.ref 647,.none,.ref 648,.ref 649,.ref 650,.int 1193 0,.int 344 0,.str s2 1194]),
 (652,fo (aS 61) sQ (.none) (.str bO 944) (.ref 651)),
 (653,tu []),
 (655,tu [.str lN 1199,.str wo 1200,.str nW 1201,.str qI 1202]),
 (656,tu []),
 (658,re "code" [.str wt 1196,.str wt 1197,.str s2 1198,.int 349 0,.int 1 0,.int 0 0,.int 0 0,.int 3 0,.ref 653,.bool true,.int 181 0,.ref 654,.none,.ref 655,.ref 656,.ref 657,.int 1203 0,.int 349 0,.str s2 1204]),
 (659,fo (aS 62) wt (.none) (.str bO 944) (.ref 658)),
 (660,tu []),
 (662,tu [.str qO 1209,.str Jx 1210]),
 (663,tu []),
 (665,re "code" [.str wu 1206,.str wu 1207,.str s2 1208,.int 361 0,.int 2 0,.int 0 0,.int 0 0,.int 3 0,.ref 660,.bool true,.int 181 0,.ref 661,.none,.ref 662,.ref 663,.ref 664,.int 1211 0,.int 361 0,.str s2 1212]),
 (666,fo (aS 63) wu (.none) (.str bO 944) (.ref 665)),
 (667,tu []),
 (669,tu [.str lN 1217,.str ec 1218,.str qO 1219,.str nW 1220,.str pG 1221,.str qN 1222,.str lO 1223,.str JU 1224,.str FT 1225,.str sR 1226]),
 (670,tu []),
 (672,re "code" [.str wx 1214,.str wx 1215,.str s2 1216,.int 363 0,.int 2 0,.int 0 0,.int 0 0,.int 3 0,.ref 667,.bool true,.int 181 0,.ref 668,.none,.ref 669,.ref 670,.ref 671,.int 1227 0,.int 363 0,.str s2 1228]),
 (673,fo (aS 64) wx (.none) (.str bO 944) (.ref 672)),
 (674,tu []),
 (676,tu [.str ec 1233,.str CD 1234,.str wo 1235]),
 (677,tu []),
 (679,re "code" [.str wy 1230,.str wy 1231,.str s2 1232,.int 374 0,.int 2 0,.int 0 0,.int 0 0,.int 3 0,.ref 674,.bool true,.int 181 0,.ref 675,.none,.ref 676,.ref 677,.ref 678,.int 1236 0,.int 374 0,.str s2 1237]),
 (680,fo (aS 65) wy (.none) (.str bO 944) (.ref 679)),
 (681,tu []),
 (684,re "code" [.str wz 1239,.str wz 1240,.str s2 1241,.int 380 0,.int 3 0,.int 0 0,.int 0 0,.int 3 0,.ref 681,.bool true,.int 181 0,.ref 682,.none,.none,.none,.ref 683,.int 1242 0,.int 380 0,.str s2 1243]),
 (685,fo (aS 66) wz (.none) (.str bO 944) (.ref 684)),
 (686,tu []),
 (688,tu [.str lZ 1248,.str qO 1249,.str JV 1250,.str wA 1251]),
 (689,tu []),
 (691,re "code" [.str wB 1245,.str wB 1246,.str s2 1247,.int 382 0,.int 2 0,.int 0 0,.int 0 0,.int 3 0,.ref 686,.bool true,.int 181 0,.ref 687,.none,.ref 688,.ref 689,.ref 690,.int 1252 0,.int 382 0,.str s2 1253]),
 (692,fo (aS 67) wB (.none) (.str bO 944) (.ref 691)),
 (693,tu []),
 (695,tu [.str ec 1258,.str wA 1259,.str qN 1260,.str sO 1261,.str nW 1262]),
 (696,tu []),
 (698,re "code" [.str wC 1255,.str wC 1256,.str s2 1257,.int 395 0,.int 3 0,.int 0 0,.int 0 0,.int 3 0,.ref 693,.bool true,.int 181 0,.ref 694,.none,.ref 695,.ref 696,.ref 697,.int 1263 0,.int 395 0,.str s2 1264]),
 (699,fo (aS 68) wC (.none) (.str bO 944) (.ref 698)),
 (700,tu []),
 (702,tu [.str ec 1269,.str CE 1270,.str CF 1271,.str n9 1272,.str nW 1273]),
 (703,tu []),
 (705,re "code" [.str wD 1266,.str wD 1267,.str s2 1268,.int 403 0,.int 4 0,.int 0 0,.int 0 0,.int 3 0,.ref 700,.bool true,.int 181 0,.ref 701,.none,.ref 702,.ref 703,.ref 704,.int 1274 0,.int 403 0,.str s2 1275]),
 (706,fo (aS 69) wD (.none) (.str bO 944) (.ref 705)),
 (707,tu []),
 (709,tu [.str CG 1280,.str qM 1281,.str CH 1282,.str CF 1283,.str pG 1284,.str qN 1285,.str lO 1286,.str sR 1287,.str ec 1288,.str JW 1289,.str CI 1290,.str JX 1291,.str Cr 1292,.str wF 1293,.str qL 1294,.str qO 1295,.str wA 1296,.str we 1297,.str JY 1298,.str wg 1299,.str CE 1300,.str JZ 1301,.str J0 1302]),
 (710,tu []),
 (712,re "code" [.str wG 1277,.str wG 1278,.str s2 1279,.int 410 0,.int 4 0,.int 0 0,.int 0 0,.int 3 0,.ref 707,.bool true,.int 181 0,.ref 708,.none,.ref 709,.ref 710,.ref 711,.int 1303 0,.int 410 0,.str s2 1304]),
 (713,fo (aS 70) wG (.none) (.str bO 944) (.ref 712)),
 (714,tu []),
 (716,tu [.str J2 1309,.str Cz 1310,.str CI 1311,.str wF 1312,.str nW 1313,.str n9 1314,.str J3 1315,.str J4 1316]),
 (717,tu []),
 (719,re "code" [.str wH 1306,.str wH 1307,.str s2 1308,.int 439 0,.int 2 0,.int 0 0,.int 0 0,.int 3 0,.ref 714,.bool true,.int 181 0,.ref 715,.none,.ref 716,.ref 717,.ref 718,.int 1317 0,.int 439 0,.str s2 1318]),
 (720,fo (aS 71) wH (.none) (.str bO 944) (.ref 719)),
 (721,tu []),
 (723,tu [.str wF 1323,.str nW 1324]),
 (724,tu []),
 (726,re "code" [.str wJ 1320,.str wJ 1321,.str s2 1322,.int 452 0,.int 1 0,.int 0 0,.int 0 0,.int 3 0,.ref 721,.bool true,.int 181 0,.ref 722,.none,.ref 723,.ref 724,.ref 725,.int 1325 0,.int 452 0,.str s2 1326]),
 (727,fo (aS 72) wJ (.none) (.str bO 944) (.ref 726)),
 (728,tu []),
 (730,tu [.str lN 1331,.str ec 1332,.str n8 1333,.str CA 1334,.str CD 1335,.str l5 1336,.str sP 1337,.str CG 1338,.str CH 1339,.str qM 1340,.str nW 1341,.str n9 1342]),
 (731,tu []),
 (733,re "code" [.str wK 1328,.str wK 1329,.str s2 1330,.int 458 0,.int 6 0,.int 0 0,.int 0 0,.int 3 0,.ref 728,.bool true,.int 181 0,.ref 729,.none,.ref 730,.ref 731,.ref 732,.int 1343 0,.int 458 0,.str s2 1344]),
 (734,fo (aS 73) wK (.none) (.str bO 944) (.ref 733)),
 (735,tu []),
 (737,tu [.str CJ 1351,.str QP 1352,.str J5 1353,.str PO 1354]),
 (738,tu []),
 (740,re "code" [.str wM 1348,.str wM 1349,.str s2 1350,.int 472 0,.int 1 0,.int 0 0,.int 0 0,.int 3 0,.ref 735,.bool true,.int 181 0,.ref 736,.none,.ref 737,.ref 738,.ref 739,.int 1355 0,.int 472 0,.str s2 1356]),
 (741,fo (aS 75) wM (.none) (.str du 1346) (.ref 740)),
 (742,tu []),
 (744,tu [.str fu 1361,.str CK 1362,.str J6 1363]),
 (745,tu []),
 (747,re "code" [.str wN 1358,.str wN 1359,.str s2 1360,.int 480 0,.int 2 0,.int 0 0,.int 0 0,.int 3 0,.ref 742,.bool true,.int 181 0,.ref 743,.none,.ref 744,.ref 745,.ref 746,.int 1364 0,.int 480 0,.str s2 1365]),
 (748,fo (aS 76) wN (.none) (.str du 1346) (.ref 747)),
 (749,tu []),
 (751,tu [.str fu 1370,.str nW 1371]),
 (752,tu []),
 (754,re "code" [.str wO 1367,.str wO 1368,.str s2 1369,.int 487 0,.int 1 0,.int 0 0,.int 0 0,.int 3 0,.ref 749,.bool true,.int 181 0,.ref 750,.none,.ref 751,.ref 752,.ref 753,.int 1372 0,.int 487 0,.str s2 1373]),
 (755,fo (aS 77) wO (.none) (.str du 1346) (.ref 754)),
 (756,tu []),
 (758,tu [.str fu 1378,.str lO 1379,.str qK 1380,.str zd 1381,.str FU 1382,.str J7 1383]),
 (759,tu []),
 (761,re "code" [.str wQ 1375,.str wQ 1376,.str s2 1377,.int 499 0,.int 1 0,.int 0 0,.int 0 0,.int 3 0,.ref 756,.bool true,.int 181 0,.ref 757,.none,.ref 758,.ref 759,.ref 760,.int 1384 0,.int 499 0,.str s2 1385]),
 (762,fo (aS 78) wQ (.none) (.str du 1346) (.ref 761)),
 (763,tu []),
 (765,tu [.str jm 1390,.str qI 1391,.str sS 1392,.str J8 1393]),
 (766,tu []),
 (768,re "code" [.str wR 1387,.str wR 1388,.str s2 1389,.int 507 0,.int 4 0,.int 0 0,.int 0 0,.int 3 0,.ref 763,.bool true,.int 181 0,.ref 764,.none,.ref 765,.ref 766,.ref 767,.int 1394 0,.int 507 0,.str s2 1395]),
 (769,fo (aS 79) wR (.none) (.str du 1346) (.ref 768)),
 (770,tu []),
 (772,tu [.str fu 1400,.str qK 1401,.str J9 1402,.str n9 1403]),
 (773,tu []),
 (775,re "code" [.str wU 1397,.str wU 1398,.str s2 1399,.int 511 0,.int 2 0,.int 0 0,.int 0 0,.int 3 0,.ref 770,.bool true,.int 181 0,.ref 771,.none,.ref 772,.ref 773,.ref 774,.int 1404 0,.int 511 0,.str s2 1405]),
 (776,fo (aS 80) wU (.none) (.str du 1346) (.ref 775)),
 (777,tu []),
 (779,tu [.str fu 1410,.str lO 1411]),
 (780,tu []),
 (782,re "code" [.str wV 1407,.str wV 1408,.str s2 1409,.int 516 0,.int 1 0,.int 0 0,.int 0 0,.int 3 0,.ref 777,.bool true,.int 181 0,.ref 778,.none,.ref 779,.ref 780,.ref 781,.int 1412 0,.int 516 0,.str s2 1413]),
 (783,fo (aS 81) wV (.none) (.str du 1346) (.ref 782)),
 (784,tu []),
 (786,tu [.str fu 1418,.str jm 1419,.str ec 1420,.str Ka 1421,.str qK 1422,.str lO 1423,.str qI 1424,.str sS 1425,.str Kb 1426]),
 (787,tu []),
 (789,re "code" [.str wW 1415,.str wW 1416,.str s2 1417,.int 523 0,.int 4 0,.int 0 0,.int 0 0,.int 3 0,.ref 784,.bool true,.int 181 0,.ref 785,.none,.ref 786,.ref 787,.ref 788,.int 1427 0,.int 523 0,.str s2 1428]),
 (790,fo (aS 82) wW (.none) (.str du 1346) (.ref 789)),
 (791,tu []),
 (793,tu [.str fu 1433,.str jm 1434,.str Kc 1435,.str Kd 1436,.str qI 1437,.str lO 1438,.str qK 1439,.str Cs 1440,.str yW 1441,.str Fv 1442,.str Ij 1443,.str sS 1444,.str Ke 1445,.str Kf 1446]),
 (794,tu []),
 (796,re "code" [.str wX 1430,.str wX 1431,.str s2 1432,.int 544 0,.int 4 0,.int 0 0,.int 0 0,.int 3 0,.ref 791,.bool true,.int 181 0,.ref 792,.none,.ref 793,.ref 794,.ref 795,.int 1447 0,.int 544 0,.str s2 1448]),
 (797,fo (aS 83) wX (.none) (.str du 1346) (.ref 796)),
 (798,tu []),
 (800,tu [.str fu 1453,.str qK 1454,.str Cs 1455,.str yW 1456]),
 (801,tu []),
 (803,re "code" [.str wY 1450,.str wY 1451,.str s2 1452,.int 563 0,.int 1 0,.int 0 0,.int 0 0,.int 3 0,.ref 798,.bool true,.int 181 0,.ref 799,.none,.ref 800,.ref 801,.ref 802,.int 1457 0,.int 563 0,.str s2 1458]),
 (804,fo (aS 84) wY (.none) (.str du 1346) (.ref 803)),
 (805,tu []),
 (807,tu [.str fu 1463,.str jm 1464,.str Kg 1465,.str Jx 1466]),
 (808,tu []),
 (810,re "code" [.str wZ 1460,.str wZ 1461,.str s2 1462,.int 566 0,.int 3 0,.int 0 0,.int 0 0,.int 3 0,.ref 805,.bool true,.int 181 0,.ref 806,.none,.ref 807,.ref 808,.ref 809,.int 1467 0,.int 566 0,.str s2 1468]),
 (811,fo (aS 85) wZ (.none) (.str du 1346) (.ref 810)),
 (812,tu []),
 (815,re "code" [.str w3 1470,.str w3 1471,.str s2 1472,.int 569 0,.int 3 0,.int 0 0,.int 0 0,.int 3 0,.ref 812,.bool true,.int 181 0,.ref 813,.none,.none,.none,.ref 814,.int 1473 0,.int 569 0,.str s2 1474]),
 (816,fo (aS 86) w3 (.none) (.str du 1346) (.ref 815)),
 (817,tu []),
 (819,tu [.str fu 1479,.str jm 1480,.str ec 1481,.str lO 1482]),
 (820,tu []),
 (822,re "code" [.str w4 1476,.str w4 1477,.str s2 1478,.int 576 0,.int 3 0,.int 0 0,.int 0 0,.int 3 0,.ref 817,.bool true,.int 181 0,.ref 818,.none,.ref 819,.ref 820,.ref 821,.int 1483 0,.int 576 0,.str s2 1484]),
 (823,fo (aS 87) w4 (.none) (.str du 1346) (.ref 822)),
 (824,tu []),
 (826,tu [.str Kh 1489,.str Jy 1490,.str Ki 1491,.str Kj 1492]),
 (827,tu []),
 (829,re "code" [.str w5 1486,.str w5 1487,.str s2 1488,.int 598 0,.int 2 0,.int 0 0,.int 0 0,.int 3 0,.ref 824,.bool true,.int 181 0,.ref 825,.none,.ref 826,.ref 827,.ref 828,.int 1493 0,.int 598 0,.str s2 1494]),
 (830,fo (aS 88) w5 (.none) (.str du 1346) (.ref 829)),
 (831,tu []),
 (833,tu [.str FV 1499,.str ec 1500,.str n8 1501,.str CL 1502,.str l5 1503,.str Kk 1504,.str Kl 1505]),
 (834,tu []),
 (836,re "code" [.str w6 1496,.str w6 1497,.str s2 1498,.int 605 0,.int 5 0,.int 0 0,.int 0 0,.int 3 0,.ref 831,.bool true,.int 181 0,.ref 832,.none,.ref 833,.ref 834,.ref 835,.int 1506 0,.int 605 0,.str s2 1507]),
 (837,fo (aS 89) w6 (.none) (.str du 1346) (.ref 836)),
 (838,tu []),
 (841,re "code" [.str w7 1509,.str w7 1510,.str s2 1511,.int 612 0,.int 4 0,.int 0 0,.int 0 0,.int 3 0,.ref 838,.bool true,.int 181 0,.ref 839,.none,.none,.none,.ref 840,.int 1512 0,.int 612 0,.str s2 1513]),
 (842,fo (aS 90) w7 (.none) (.str du 1346) (.ref 841)),
 (843,tu []),
 (845,tu [.str CJ 1518,.str fu 1519,.str CK 1520,.str ec 1521,.str n8 1522,.str CL 1523,.str jm 1524,.str sR 1525,.str FW 1526,.str l5 1527,.str FX 1528]),
 (846,tu []),
 (848,re "code" [.str zi 1515,.str zi 1516,.str s2 1517,.int 623 0,.int 1 0,.int 0 0,.int 0 0,.int 3 0,.ref 843,.bool true,.int 181 0,.ref 844,.none,.ref 845,.ref 846,.ref 847,.int 1529 0,.int 623 0,.str s2 1530]),
 (849,fo (aS 91) zi (.none) (.str du 1346) (.ref 848))]
noncomputable def Ld:List (Str×Nat×Value):=[(n7,166,.none),
 (s!"__package__",167,.none),
 (s!"__loader__",168,.builtin "__main__.__loader__#opaque"),
 (s!"__spec__",169,.none),
 (s!"__annotations__",170,.ref 6),
 (s!"__builtins__",171,.ref 4),
 (s!"__file__",173,.str s2 172),
 (s!"__cached__",174,.none),
 (s1,193,.ref 21),
 (PL,223,.ref 39),
 (Jv,239,.ref 52),
 (Ez,255,.ref 64),
 (Jw,271,.ref 76),
 (s!"UNITY",275,.int 65536 274),
 (Km,281,.int 1073741823 280),
 (Kn,287,.int 2147483647 286),
 (Ko,289,.int 10000 288),
 (Kp,294,.int 0 290),
 (s!"FIL",295,.int 1 291),
 (s!"FILL",296,.int 2 292),
 (Kq,297,.int 3 293),
 (Ia,306,.ref 89),
 (Ib,313,.ref 96),
 (Ic,320,.ref 103),
 (Ie,327,.ref 110),
 (PM,335,.ref 117),
 (PN,343,.ref 124),
 (Ig,356,.ref 131),
 (Ih,365,.ref 138),
 (s!"times_scaled",366,.ref 138),
 (Ii,375,.ref 145),
 (PS,382,.ref 152),
 (PT,391,.ref 159),
 (Jz,491,.ref 227),
 (Kr,502,.int 0 494),
 (Ks,503,.int 1 495),
 (Ku,504,.int 2 496),
 (Kv,505,.int 3 497),
 (Kw,506,.int 4 498),
 (Kx,507,.int 5 499),
 (Ky,508,.int 6 500),
 (Kz,509,.int 7 501),
 (KG,517,.int 8 510),
 (s!"MARK",518,.int 9 511),
 (s!"INSERT",519,.int 10 512),
 (s!"ADJUST",520,.int 11 513),
 (KH,521,.int 12 514),
 (s!"SPECIAL",522,.int 13 515),
 (KJ,523,.int 14 516),
 (KL,527,.int 0 524),
 (s!"STRETCHED",528,.int 1 525),
 (s!"SHRUNK",529,.int 2 526),
 (KN,534,.int 0 530),
 (KO,535,.int 1 531),
 (s!"ACCENT_KERN",536,.int 2 532),
 (KP,537,.int 3 533),
 (KQ,545,.int 0 538),
 (KR,546,.int 1 539),
 (s!"CLEADERS",547,.int 2 540),
 (KS,548,.int 3 541),
 (s!"MU_SKIP",549,.int 4 542),
 (KU,550,.int 5 543),
 (KV,551,.int 100 544),
 (s!"FOR_DEVICE",556,.int 0 552),
 (s!"WRITING",557,.int 1 553),
 (s!"OPENING",558,.int 2 554),
 (s!"CLOSING",559,.int 3 555),
 (Ik,567,.ref 262),
 (JA,608,.ref 279),
 (JB,643,.ref 300),
 (JC,675,.ref 321),
 (JD,709,.ref 343),
 (JE,739,.ref 364),
 (yX,773,.ref 385),
 (yY,803,.ref 406),
 (yZ,843,.ref 427),
 (za,873,.ref 448),
 (zb,905,.ref 469),
 (zc,937,.ref 490),
 (wd,943,.ref 499),
 (KW,949,.int (-10000) 947),
 (KX,950,.int 10000 948),
 (KY,955,.int 0 951),
 (KZ,956,.int 1 952),
 (K0,957,.int 2 953),
 (K1,958,.int 3 954),
 (K2,961,.int 0 959),
 (K6,962,.int 1 960),
 (La,965,.int 10001 964),
 (Lb,967,.int 100000000 966),
 (Lc,974,.ref 512),
 (ze,1025,.ref 543),
 (zf,1064,.ref 564),
 (zg,1101,.ref 585),
 (zh,1139,.ref 606),
 (wh,1147,.ref 617),
 (wj,1154,.ref 624),
 (wk,1170,.ref 631),
 (wm,1178,.ref 638),
 (wq,1186,.ref 645),
 (sQ,1195,.ref 652),
 (wt,1205,.ref 659),
 (wu,1213,.ref 666),
 (wx,1229,.ref 673),
 (wy,1238,.ref 680),
 (wz,1244,.ref 685),
 (wB,1254,.ref 692),
 (wC,1265,.ref 699),
 (wD,1276,.ref 706),
 (wG,1305,.ref 713),
 (wH,1319,.ref 720),
 (wJ,1327,.ref 727),
 (wK,1345,.ref 734),
 (wM,1357,.ref 741),
 (wN,1366,.ref 748),
 (wO,1374,.ref 755),
 (wQ,1386,.ref 762),
 (wR,1396,.ref 769),
 (wU,1406,.ref 776),
 (wV,1414,.ref 783),
 (wW,1429,.ref 790),
 (wX,1449,.ref 797),
 (wY,1459,.ref 804),
 (wZ,1469,.ref 811),
 (w3,1475,.ref 816),
 (w4,1485,.ref 823),
 (w5,1495,.ref 830),
 (w6,1508,.ref 837),
 (w7,1514,.ref 842),
 (zi,1531,.ref 849)]
noncomputable def pH(P:Params)(k:Nat)(v:Value):Obj:=di P ((s!"__name__",165,v)::Ld.take k) (k+1)
noncomputable def EA(P:Params):Obj:=pH P 67 (.str gR 492)
noncomputable def EB(P:Params):Obj:=pH P 80 (.str bO 944)
noncomputable def EC(P:Params):Obj:=pH P 88 (.str bO 944)
noncomputable def oK(P:Params):Obj:=pH P 130 (.str du 1346)
noncomputable def FY:List Value:=[.int 1 0,.int 0 0,.ref 20,.int 5 0,.int 0 0,.ref 27,.int 9 0,.int 0 0,.ref 48,.int 11 0,.int 0 0,.ref 60,.int 13 0,.int 0 0,.ref 72,.int 21 0,.int 0 0,.ref 88,.int 23 0,.int 0 0,.ref 95,.int 27 0,.int 0 0,.ref 102,.int 31 0,.int 0 0,.ref 109,.int 35 0,.int 0 0,.ref 116,.int 41 0,.int 0 0,.ref 123,.int 43 0,.int 0 0,.ref 130,.int 54 0,.int 0 0,.ref 137,.int 57 0,.int 0 0,.ref 144,.int 73 0,.int 0 0,.ref 151,.int 75 0,.int 0 0,.ref 158,.int 77 0,.int 0 0,.ref 165,.int 121 0,.int 0 0,.ref 261,.int 126 0,.int 0 0,.ref 268,.int 140 0,.int 0 0,.ref 289,.int 150 0,.int 0 0,.ref 310,.int 158 0,.int 0 0,.ref 331,.int 171 0,.int 0 0,.ref 353,.int 176 0,.int 0 0,.ref 374,.int 183 0,.int 0 0,.ref 395,.int 188 0,.int 0 0,.ref 416,.int 200 0,.int 0 0,.ref 437,.int 205 0,.int 0 0,.ref 458,.int 211 0,.int 0 0,.ref 479,.int 222 0,.int 0 0,.ref 498,.int 242 0,.int 0 0,.ref 518,.int 268 0,.int 0 0,.ref 553,.int 283 0,.int 0 0,.ref 574,.int 291 0,.int 0 0,.ref 595,.int 300 0,.int 0 0,.ref 616,.int 304 0,.int 0 0,.ref 623,.int 306 0,.int 0 0,.ref 630,.int 330 0,.int 0 0,.ref 637,.int 338 0,.int 0 0,.ref 644,.int 344 0,.int 0 0,.ref 651,.int 349 0,.int 0 0,.ref 658,.int 361 0,.int 0 0,.ref 665,.int 363 0,.int 0 0,.ref 672,.int 374 0,.int 0 0,.ref 679,.int 380 0,.int 0 0,.ref 684,.int 382 0,.int 0 0,.ref 691,.int 395 0,.int 0 0,.ref 698,.int 403 0,.int 0 0,.ref 705,.int 410 0,.int 0 0,.ref 712,.int 439 0,.int 0 0,.ref 719,.int 452 0,.int 0 0,.ref 726,.int 458 0,.int 0 0,.ref 733,.int 472 0,.int 0 0,.ref 740,.int 480 0,.int 0 0,.ref 747,.int 487 0,.int 0 0,.ref 754,.int 499 0,.int 0 0,.ref 761,.int 507 0,.int 0 0,.ref 768,.int 511 0,.int 0 0,.ref 775,.int 516 0,.int 0 0,.ref 782,.int 523 0,.int 0 0,.ref 789,.int 544 0,.int 0 0,.ref 796,.int 563 0,.int 0 0,.ref 803,.int 566 0,.int 0 0,.ref 810,.int 569 0,.int 0 0,.ref 815,.int 576 0,.int 0 0,.ref 822,.int 598 0,.int 0 0,.ref 829,.int 605 0,.int 0 0,.ref 836,.int 612 0,.int 0 0,.ref 841,.int 623 0,.int 0 0,.ref 848]
noncomputable def cT(k:Nat):Obj:={cls:=.none,data:=.fields ⟨FY.take k⟩}
noncomputable def V9:Obj:=re "code" [.str (Str.ofString "<module>") 182,.str (Str.ofString "<module>") 183,.str (Str.ofString "/claim/cut.py") 184,.int 1 0,.int 0 0,.int 0 0,.int 0 0,
     .int 0 0,.ref 11,.bool false,.int 181 0,.ref 12,.none,.none,.none,.none,.int 185 0,.int 1 0,.str (Str.ofString "/claim/cut.py") 186]
noncomputable def Wa:Obj:={cls:=.type "frame",slots:= #[some (.ref 13),some (.ref 3),some (.ref 3),none,some (.str (Str.ofString "__main__") 164),none,some (.ref 0)]}
noncomputable def zj(P:Params)(o3 Lf:Obj):List Obj:=[boot_o_0 P,boot_o_1 P,boot_o_2 P,o3,boot_o_4 P,boot_o_5 P,boot_o_6 P,boot_o_7 P,boot_o_8 P,boot_o_9 P,boot_o_10 P,tu [],Lf,V9,Wa]
noncomputable def CM(P:Params)(o3 Lf:Obj)(f:Nat→Obj)(i:Nat):Obj:=bif Nat.blt i 15 then((zj P o3 Lf)[i]?).getD default else f i
noncomputable def bt(g:Nat→Obj)(n:Nat):Nat→Nat→Nat→BT
 |0,_,_=>.nil
 |k+1,a,b=>bif Nat.blt b n then .node (g b) (bt g n k (2 * a) (a+b)) (bt g n k (2 * a) (2 * a+b)) else .nil
noncomputable def l6(P:Params)(o3 Lf:Obj)(f:Nat→Obj)(n toks:Nat)(os:OsState):SharedT:=⟨bt (CM P o3 Lf f) n 10 1 0,n,{},#[],{},toks,os⟩
noncomputable def p0:Pos:=⟨0,0,0,0⟩
noncomputable def zk:Env:={scope:=pw.main.scope,locals:=mainNs,globals:=mainNs,cells:=[],code:=.ref 13,frame:=some 14}
noncomputable def c0:Code:=.body (behindTheImports pw) zk
noncomputable def B0:List Frame:=[topFrame p0]
noncomputable def pI:Option Value:=some (.ref 6)
noncomputable def row:String:="special-get-raises"
noncomputable def l7(a k:Nat):List Stmt:=((behindTheImports pw).drop a).take k
noncomputable def kept(n:Nat):List Nat:=(List.range n).filter fun i=> !(i == 3) && !(i == 12)
noncomputable def runOf(w:World)(s:SharedT)(a k:Nat)(p:Pos):Option (Flow×SharedT×Code×Pos):=
 Fast.tw10110043849684766642 Fast.tw14364793385576792824 pw w 11 pI 1 3000 s (piecesOf (l7 a k) zk c0 p B0)
noncomputable abbrev Wb(β:Type):=Code×Pos×Nat×Life×Array GenState×Drawn×Nat×OsState×List (Option Obj)×List (Option Obj)×Option Obj×Option Obj×Bool×β
noncomputable def Lg{β:Type}(ks We:List Nat)(n:Nat)(ex:SharedT→β):Option (Flow×SharedT×Code×Pos)→Option (Wb β)
 |some (.next,s,c,p)=>some (c,p,s.n,s.life,s.gens,s.drawn,s.toks,s.os,ks.map s.tree.get,We.map s.tree.get,s.tree.get 3,s.tree.get 12,(List.range n).all (fun i=>(s.tree.get i).isSome),ex s)
 |_=>none
noncomputable def Part{β:Type}(a k:Nat)(p p':Pos)(n n' t t':Nat)(m m':Params→Obj)(cd FZ:Obj)(K:Params→Frag)(ex:World→SharedT→β)(ev:World→β)(w:World):Prop:=
 (fun(f:Nat→Obj) (os:OsState)=>Lg (kept n) ((K w.params).map (·.1)) n' (ex w) (runOf w (l6 w.params (m w.params) cd f n t os) a k p))=
  fun f os=>some (c0,p',n',{},#[],{},t',os,(kept n).map (fun i=>some (CM w.params (m w.params) cd f i)),(K w.params).map (fun x=>some x.2),some (m' w.params),some FZ,true,ev w)
noncomputable def pJ:DefRec:=dJ (aS 91)
noncomputable def q:Program:={pw with main:={pw.main with body:=[aS 91]}}
noncomputable def loose:List Str:=pw.boundNames.filter fun n=> !(n == ("law":Str))
noncomputable def looksAt(w:World)(s:SharedT):=
 (staticsOk (importedModules pw.main.body) (boot_heap w.params) s.abs.heap && namesBound pw s.abs.heap && gensDone s.abs && laidKept (boot_heap w.params) s.abs.heap,
  openSeen q loose (importedModules pw.main.body) (fun _=>true) true s.abs)
noncomputable def uU(P:Params):Obj:=boot_o_3 P
noncomputable abbrev PA:=Part 0 32 p0 ⟨120,30,120,37⟩ 15 256 187 560 uU EA (cT 0) (cT 51) KA (fun _ _=>()) fun _=>()
noncomputable abbrev PB:=Part 32 14 ⟨120,30,120,37⟩ ⟨235,0,235,8⟩ 256 500 560 946 EA EB (cT 51) (cT 90) KB (fun _ _=>()) fun _=>()
noncomputable abbrev PC:=Part 46 3 ⟨235,0,235,8⟩ ⟨238,13,238,25⟩ 500 512 946 963 EB EC (cT 90) (cT 90) KC (fun _ _=>()) fun _=>()
noncomputable abbrev PD:=Part 49 43 ⟨238,13,238,25⟩ ⟨623,0,641,15⟩ 512 850 963 1532 EC oK (cT 90) (cT 207) KD looksAt fun _=>(true,openGood q loose)
theorem CN:∀w:World,PC (w.withFollow row false):=by intro w;unfold PC Part;kernel_rfl
theorem CO:∀w:World,PC (w.withFollow row true):=by intro w;unfold PC Part;kernel_rfl
theorem CP:∀w:World,PA (w.withFollow row false):=by intro w;unfold PA Part;kernel_rfl
theorem CQ:∀w:World,PA (w.withFollow row true):=by intro w;unfold PA Part;kernel_rfl
theorem Lh:∀w:World,PB w:=by intro w;unfold PB Part;kernel_rfl
theorem Li:∀w:World,PD w:=by intro w;unfold PD Part;kernel_rfl
theorem Lj(w:World):PA w:=byRow2 row CP CQ w
theorem Lk(w:World):PC w:=byRow2 row CN CO w
theorem pK(g:Nat→Obj)(n:Nat):∀(k a b i:Nat),i+1<2 ^ k→(bt g n k a b).get i=if a * i+b<n then some (g (a * i+b)) else none
 |0,a,b,i,h=>by simp at h
 |k+1,a,b,i,h=>by
  have hp:2 ^ (k+1)=2 * 2 ^ k:=by rw[Nat.pow_succ];exact Nat.mul_comm _ _
  rw[hp] at h
  show(bif Nat.blt b n then BT.node (g b) (bt g n k (2 * a) (a+b)) (bt g n k (2 * a) (2 * a+b)) else BT.nil).get i=_
  by_cases hb:b<n
  ·rw[show Nat.blt b n=true from by simpa [Nat.blt_eq] using hb]
   show(BT.node _ _ _).get i=_
   rw[BT.get_node]
   by_cases h0:i=0
   ·subst h0;simp[hb]
   ·rw[if_neg h0]
    by_cases h1:i % 2=1
    ·rw[if_pos h1,pK g n k (2 * a) (a+b) (i / 2) (by exact IY h h1)]
     have e:2 * a * (i / 2)+(a+b)=a * i+b:=by
      have:i=2 * (i / 2)+1:=by exact IZ h1
      generalize i / 2=j at this ⊢
      subst this
      rw[Nat.mul_add,Nat.mul_one,Nat.mul_comm 2 a,Nat.mul_assoc];exact(Nat.add_assoc _ _ _).symm
     rw[e]
    ·rw[if_neg h1,pK g n k (2 * a) (2 * a+b) (i / 2 - 1) (by exact IW h h0)]
     have e:2 * a * (i / 2 - 1)+(2 * a+b)=a * i+b:=by
      have:i=2 * (i / 2 - 1)+2:=by exact IX h0 h1
      generalize i / 2 - 1=j at this ⊢
      subst this
      rw[Nat.mul_add,Nat.mul_comm 2 a,Nat.mul_assoc];exact(Nat.add_assoc _ _ _).symm
     rw[e]
  ·have uV:Nat.blt b n=false:=by
    cases q:Nat.blt b n with
    |false=>rfl
    |true=>exact absurd (by simpa [Nat.blt_eq] using q) hb
   rw[uV]
   show BT.nil.get i=_
   rw[if_neg (by exact fun q=>hb (Nat.lt_of_le_of_lt (Nat.le_add_left _ _) q))];rfl
theorem pL{t t':BT}{n:Nat}{life:Life}(h:∀i,i<n→t.get i=t'.get i):absHeap t n life=absHeap t' n life:=by
 unfold absHeap BT.list
 congr 2
 refine List.map_congr_left fun i hi=> ?_
 rw[h i (List.mem_range.mp hi)]
theorem uW{P:Params}{a b:Obj}{f:Nat→Obj}{i:Nat}(h:i<15):CM P a b f i=((zj P a b)[i]?).getD default:=by
 unfold CM;rw[show Nat.blt i 15=true from by simpa [Nat.blt_eq] using h];rfl
theorem l8{P:Params}{a b:Obj}{f:Nat→Obj}{i:Nat}(h:15≤i):CM P a b f i=f i:=by
 unfold CM
 cases q:Nat.blt i 15 with
 |false=>rfl
 |true=>exact absurd (by simpa [Nat.blt_eq] using q) (by exact Nat.not_lt.mpr h)
theorem zl{n i:Nat}(h:i<n)(h3:i≠3)(pM:i≠12):i∈kept n:=by
 unfold kept
 rw[List.mem_filter]
 exact⟨List.mem_range.mpr h,by simp[h3,pM]⟩
theorem oM{α β:Type}{l:List α}{f g:α→β}(h:l.map f=l.map g):∀x∈l,f x=g x:=List.map_inj_left.mp h
theorem zm{P:Params}{a b a' b':Obj}:∀{i:Nat},i<15→i≠3→i≠12→(zj P a b)[i]? =(zj P a' b')[i]? :=fun {i} _ h3 pM=>by
 show(((zj P a' b').set 3 a).set 12 b)[i]? =_
 rw[List.getElem?_set_ne pM.symm,List.getElem?_set_ne h3.symm]
theorem qP{T:BT}{g:Nat→Obj}{n:Nat}(h:(kept n).map (fun i=>T.get i)=(kept n).map fun i=>some (g i)){i:Nat}(hi:i<n)(h3:i≠3)(pM:i≠12):(T.get i).getD default=g i:=by
 rw[oM h i (zl hi h3 pM)];rfl
theorem w8{P:Params}{T:BT}{m m' cd FZ:Obj}{n n':Nat}{f:Nat→Obj}(hn:15≤n)(UN:n≤n')(F0:n'≤1000)(e7:(kept n).map (fun i=>T.get i)=(kept n).map fun i=>some (CM P m cd f i))(e9:T.get 3=some m')(sI:T.get 12=some FZ)(hs:∀i,i<n'→∃o,T.get i=some o){i:Nat}(hi:i<n'):
  T.get i=some (CM P m' FZ (fun i=>(T.get i).getD default) i):=by
 obtain⟨o,ho⟩:=hs i hi
 rcases Nat.lt_or_ge i 15 with Cb|Cb
 ·rw[uW Cb]
  by_cases h3:i=3
  ·subst h3;exact e9
  by_cases pM:i=12
  ·subst pM;exact sI
  have:=qP e7 (Nat.lt_of_lt_of_le Cb hn) h3 pM
  rw[ho] at this ⊢
  rw[uW Cb,zm Cb h3 pM] at this
  exact congrArg some this
 ·rw[l8 Cb]
  show _=some ((T.get i).getD default)
  rw[ho];rfl
theorem abs_eq{s:SharedT}{T:BT}{n:Nat}{life:Life}{gens:Array GenState}{drawn:Drawn}{toks:Nat}{os:OsState}(e1:s.n=n)(e2:s.life=life)(e3:s.gens=gens)(e4:s.drawn=drawn)(e5:s.toks=toks)(e6:s.os=os)(h:∀i,i<n→s.tree.get i=T.get i):s.abs=(⟨T,n,life,gens,drawn,toks,os⟩:SharedT).abs:=by
 subst e1 e2 e3 e4 e5 e6
 unfold SharedT.abs
 rw[pL h]
theorem Ll{Wf Wg Wh Wi Wj Wk Wl Wm Wn Q0 Q1 Q2 Q3 Q4:Type}{a1 b1:Wf}{a2 b2:Wg}{a3 b3:Wh}{a4 b4:Wi}{a5 b5:Wj}{a6 b6:Wk}{a7 b7:Wl}{a8 b8:Wm}{a9 b9:Wn}{uX UO:Q0}{Im UP:Q1}{oN P0:Q2}{Io UQ:Q3}{ED UR:Q4}{Q:Prop}(h:(a1,a2,a3,a4,a5,a6,a7,a8,a9,uX,Im,oN,Io,ED)=(b1,b2,b3,b4,b5,b6,b7,b8,b9,UO,UP,P0,UQ,UR))(H:a1=b1→a2=b2→a3=b3→a4=b4→a5=b5→a6=b6→a7=b7→a8=b8→a9=b9→uX=UO→Im=UP→oN=P0→Io=UQ→ED=UR→Q):Q:=
 H (congrArg (fun t=>t.1) h) (congrArg (fun t=>t.2.1) h) (congrArg (fun t=>t.2.2.1) h) (congrArg (fun t=>t.2.2.2.1) h) (congrArg (fun t=>t.2.2.2.2.1) h) (congrArg (fun t=>t.2.2.2.2.2.1) h) (congrArg (fun t=>t.2.2.2.2.2.2.1) h) (congrArg (fun t=>t.2.2.2.2.2.2.2.1) h) (congrArg (fun t=>t.2.2.2.2.2.2.2.2.1) h) (congrArg (fun t=>t.2.2.2.2.2.2.2.2.2.1) h) (congrArg (fun t=>t.2.2.2.2.2.2.2.2.2.2.1) h) (congrArg (fun t=>t.2.2.2.2.2.2.2.2.2.2.2.1) h) (congrArg (fun t=>t.2.2.2.2.2.2.2.2.2.2.2.2.1) h) (congrArg (fun t=>t.2.2.2.2.2.2.2.2.2.2.2.2.2) h)
theorem jn{β:Type}{a k:Nat}{p p':Pos}{n n' t t':Nat}{m m':Params→Obj}{cd FZ:Obj}{K:Params→Frag}{ex:World→SharedT→β}{ev:World→β}{w:World}(h:Part a k p p' n n' t t' m m' cd FZ K ex ev w)(hn:15≤n)(UN:n≤n')(F0:n'≤1000)(f:Nat→Obj)(os:OsState):
  ∃(f':Nat→Obj) (s:SharedT),segRun treeTable pw w 11 pI 1 3000 (l6 w.params (m w.params) cd f n t os).abs (piecesOf (l7 a k) zk c0 p B0)=some (.next,s.abs,c0,p')∧s.abs=(l6 w.params (m' w.params) FZ f' n' t' os).abs∧
   (∀i,15≤i→i<n→f' i=f i)∧(∀x∈K w.params,(x.1<n'→15≤x.1→f' x.1=x.2))∧ex w s=ev w:=by
 have e:=congrFun (congrFun h f) os
 unfold runOf at e
 rw[←Fast.te10110043849684766642,←Fast.te14364793385576792824] at e
 revert e
 cases hr:segRunT treeTable pw w 11 pI 1 3000 (l6 w.params (m w.params) cd f n t os) (piecesOf (l7 a k) zk c0 p B0) with
 |none=>intro e;cases e
 |some r=>
  obtain⟨fl,s,c,q⟩:=r
  cases fl with
  |next=>
   intro e
   refine Ll (Option.some.inj e) fun e1 e2 x3 x4 x5 x6 x7 x8 e7 e8 Wo Wq EE Wr=> ?_
   subst e1 e2
   have hs:∀i,i<n'→∃o,s.tree.get i=some o:=fun i hi=>Option.isSome_iff_exists.mp (List.all_eq_true.mp EE i (List.mem_range.mpr hi))
   refine⟨fun i=>(s.tree.get i).getD default,s,segRun_of hr,?_,fun i h1 h2=> ?_,fun x hx h1 h2=> ?_,Wr⟩
   ·exact abs_eq x3 x4 x5 x6 x7 x8 fun i hi=>by
     rw[pK _ _ 10 1 0 i (by exact gC (Nat.le_trans hi F0) rfl),Nat.one_mul,Nat.add_zero,if_pos hi]
     exact w8 hn UN F0 e7 Wo Wq hs hi
   ·dsimp only
    rw[qP e7 h2 (by exact Nat.ne_of_gt (Nat.lt_of_lt_of_le (by decide) h1)) (by exact Nat.ne_of_gt (Nat.lt_of_lt_of_le (by decide) h1)),l8 h1]
   ·dsimp only
    have:=oM (f:=fun x:Nat×Obj=>s.tree.get x.1) (g:=fun x=>some x.2) (by rw[List.map_map] at e8;exact e8) x hx
    rw[this];rfl
  |_=>intro e;cases e
noncomputable def noParams:Params:={strHash:=fun _=>0,shareClass:=fun _=>0,mergeTok:=id,idOf:=fun _=>0,idOfShared:=fun _ _=>0,followText:=fun _=>false,idOfImm:=fun _=>0}
theorem F1(w:World)(os:OsState):topGo treeTable pw w 11 pI 12 ⟨boot_heap w.params,#[],boot_drawn,boot_toks,os⟩ (topStub pw)=
  some ((l6 w.params (uU w.params) (cT 0) (fun _=>default) 15 187 os).abs,⟨denote treeTable c0,c0,p0,B0⟩):=by kernel_rfl
theorem zo(w:World)(os:OsState):segRun treeTable pw w 11 pI 1 1 (l6 w.params (uU w.params) (cT 0) (fun _=>default) 15 187 os).abs (blockOf (behindTheImports pw) zk c0 p0 B0)=
  some (.next,(l6 w.params (uU w.params) (cT 0) (fun _=>default) 15 187 os).abs,c0,p0):=by kernel_rfl
theorem F3(w:World)(s:Shared)(p:Pos):topRun treeTable pw w 11 pI 2 s ⟨doneF .next,c0,p,B0⟩=some s:=by
 obtain⟨h,g,d,t,os⟩:=s
 kernel_rfl
theorem sT:behindTheImports pw=l7 0 32++(l7 32 14++(l7 46 3++(l7 49 43++[]))):=by kernel_rfl
theorem F4(P:Params):(KA P).all (fun x=>Nat.ble 15 x.1 && Nat.blt x.1 256)=true:=by kernel_rfl
theorem F6(P:Params):(KB P).all (fun x=>Nat.ble 256 x.1 && Nat.blt x.1 500)=true:=by kernel_rfl
theorem F7(P:Params):(KC P).all (fun x=>Nat.ble 500 x.1 && Nat.blt x.1 512)=true:=by kernel_rfl
theorem F8(P:Params):(KD P).all (fun x=>Nat.ble 512 x.1 && Nat.blt x.1 850)=true:=by kernel_rfl
theorem pN{l:Frag}{a b:Nat}(h:l.all (fun x=>Nat.ble a x.1 && Nat.blt x.1 b)=true){x:Nat×Obj}(hx:x∈l):a≤x.1∧x.1<b:=by
 have:=List.all_eq_true.mp h x hx
 rw[Bool.and_eq_true] at this
 exact⟨Nat.le_of_ble_eq_true this.1,by simpa [Nat.blt_eq] using this.2⟩
theorem CR(w:World)(os:OsState):∃(f:Nat→Obj) (s:SharedT),topRun treeTable pw w 11 pI (12+(1+(3000+(3000+(3000+(3000+2)))))) ⟨boot_heap w.params,#[],boot_drawn,boot_toks,os⟩ (topStub pw)=some s.abs∧
  s.abs=(l6 w.params (oK w.params) (cT 207) f 850 1532 os).abs∧(∀x∈KA w.params++(KB w.params++(KC w.params++KD w.params)),15≤x.1∧x.1<850∧f x.1=x.2)∧looksAt w s=(true,openGood q loose):=by
 obtain⟨f1,s1,r1,e1,k1,x1,-⟩:=jn (Lj w) (by decide) (by decide) (by decide) (fun _=>default) os
 obtain⟨f2,s2,r2,e2,k2,x2,-⟩:=jn (Lh w) (by decide) (by decide) (by decide) f1 os
 obtain⟨f3,s3,r3,e3,k3,x3,-⟩:=jn (Lk w) (by decide) (by decide) (by decide) f2 os
 obtain⟨f4,s4,r4,e4,k4,x4,l4⟩:=jn (Li w) (by decide) (by decide) (by decide) f3 os
 rw[←e1] at r2
 rw[←e2] at r3
 rw[←e3] at r4
 refine⟨f4,s4,?_,e4,fun x hx=> ?_,l4⟩
 ·refine go_top (F1 w os) ?_
  refine piece_block (zo w os) ?_
  rw[sT]
  exact piece_app r1 (piece_app r2 (piece_app r3 (piece_app r4 (piece_nil (F3 w _ _)))))
 ·obtain⟨i,o⟩:=x
  change Nat at i
  simp only[List.mem_append] at hx
  rcases hx with hx|hx|hx|hx
  ·obtain⟨l,l'⟩:15≤i∧i<256:=pN (F4 _) hx
   exact⟨l,(by exact cE l' rfl:i<850),(k4 i l (by exact cE l' rfl)).trans ((k3 i l (by exact cE l' rfl)).trans ((k2 i l (by exact l')).trans (x1 (i,o) hx l' l)))⟩
  ·obtain⟨l,l'⟩:256≤i∧i<500:=pN (F6 _) hx
   exact⟨(by exact Nat.le_trans (jY rfl) l:15≤i),(by exact cE l' rfl:i<850),(k4 i (by exact Nat.le_trans (jY rfl) l) (by exact cE l' rfl)).trans ((k3 i (by exact Nat.le_trans (jY rfl) l) (by exact l')).trans (x2 (i,o) hx l' (by exact Nat.le_trans (jY rfl) l:15≤i)))⟩
  ·obtain⟨l,l'⟩:500≤i∧i<512:=pN (F7 _) hx
   exact⟨(by exact Nat.le_trans (jY rfl) l:15≤i),(by exact cE l' rfl:i<850),(k4 i (by exact Nat.le_trans (jY rfl) l) (by exact l')).trans (x3 (i,o) hx l' (by exact Nat.le_trans (jY rfl) l:15≤i))⟩
  ·obtain⟨l,l'⟩:512≤i∧i<850:=pN (F8 _) hx
   exact⟨(by exact Nat.le_trans (jY rfl) l:15≤i),(by exact l':i<850),x4 (i,o) hx l' (by exact Nat.le_trans (jY rfl) l:15≤i)⟩
noncomputable def KK(P:Params):Frag:=(3,oK P)::(2,boot_o_2 P)::(KA P++(KB P++(KC P++KD P)))
theorem zp(P:Params):(KK P).all (fun x=>(alive x.2).isSome)=true:=by kernel_rfl
theorem zq{o:Obj}(h:(alive o).isSome=true):alive o=some o:=by
 obtain⟨c,d,dt,sl⟩:=o
 cases dt<;>first|rfl|exact absurd h Bool.false_ne_true
theorem Lm{w:World}{f:Nat→Obj}{os:OsState}(hf:∀x∈KA w.params++(KB w.params++(KC w.params++KD w.params)),15≤x.1∧x.1<850∧f x.1=x.2):
  ∀x∈KK w.params,(l6 w.params (oK w.params) (cT 207) f 850 1532 os).abs.heap.get? x.1=some x.2:=by
 intro x hx
 have ha:=zq (List.all_eq_true.mp (zp w.params) x hx)
 have key:∀i,i<850→CM w.params (oK w.params) (cT 207) f i=x.2→(l6 w.params (oK w.params) (cT 207) f 850 1532 os).abs.heap.get? i=some x.2:=by
  intro i hi e
  show(absHeap _ 850 _).get? i=_
  rw[abs_get (o:=x.2) hi (by unfold l6;dsimp only;rw[pK _ _ 10 1 0 i (by exact bE 1 hi rfl),Nat.one_mul,Nat.add_zero,if_pos hi,e])]
  exact ha
 unfold KK at hx
 rcases List.mem_cons.mp hx with rfl|hx
 ·exact key 3 (by decide) rfl
 rcases List.mem_cons.mp hx with rfl|hx
 ·exact key 2 (by decide) rfl
 ·obtain⟨h1,h2,h3⟩:=hf x hx
  exact key x.1 h2 (by rw[l8 h1,h3])
noncomputable def Ln(P:Params):List Addr:=(KK P).map (·.1)
theorem oO(P:Params):Ln P=Ln Mine.noParams:=by kernel_rfl
theorem CS(w:World):((boot_heap w.params).isNs mainGlobals && (#[]:Array GenState).size == 0,(boot_heap w.params).objs.size,(boot_heap w.params).nsMap mainGlobals "__annotations__")=(true,11,pI):=by kernel_rfl
theorem Ga:opening pw=plainProg pw.main.scope.names:=by kernel_rfl
theorem Gb(s:Shared):fenceModules? pw s=some s:=by kernel_rfl
noncomputable def HK:Hook:=kHook KK (Ln noParams) (fun P=>(oO P).symm)
theorem left:LeftO pw q loose (fun _=>true) HK.obs HK.val 20000:=by
 intro w
 obtain⟨⟨h,gs,d,k,os⟩,e,e'⟩:=Option.map_eq_some_iff.mp (boot_open (N:=20000) Ga (by decide) Gb w)
 obtain⟨rfl,rfl,rfl,rfl⟩:h=boot_heap w.params∧gs= #[]∧d=boot_drawn∧k=boot_toks:=by simpa using e'
 obtain⟨f,s,r,ea,hK,hl⟩:=CR w os
 have r:=topRun_mono (20000 - 12015) _ _ _ _ r
 have P1:=congrArg Prod.fst hl
 have Lo:=congrArg Prod.snd hl
 have t:topFrom treeTable pw w 20000 ⟨boot_heap w.params,#[],boot_drawn,boot_toks,os⟩=some s.abs:=by
  unfold topFrom
  obtain⟨z1,z2,z3⟩:_∧_∧_:=by simpa only[Prod.mk.injEq] using CS w
  dsimp only
  rw[z1,z2,z3]
  dsimp only
  rw[show topRun treeTable pw w 11 pI 20000 _ (topStub pw)=some s.abs from r]
  show(match staticsOk _ _ _ && namesBound _ _ && gensDone _ && laidKept _ _ with|true=>_|false=>_)=_
  rw[show(staticsOk (importedModules pw.main.body) (boot_heap w.params) s.abs.heap && namesBound pw s.abs.heap && gensDone s.abs && laidKept (boot_heap w.params) s.abs.heap)=true from P1]
 unfold openEnds
 rw[show fencedOpening treeTable pw w 20000=_ from e]
 show(topFrom treeTable pw w 20000 _).map _=_
 rw[t]
 refine congrArg some (Prod.ext Lo ?_)
 show(Ln noParams).map s.abs.heap.get?=(KK w.params).map fun p=>some p.2
 rw[←oO w.params,ea]
 unfold Ln
 rw[List.map_map]
 exact List.map_congr_left fun x hx=>Lm hK x hx
end
section
open PySem.W
set_option backward.match.sparseCases false
theorem Gd:PySem.Challenge.rw_tu0007_01.wellSaid=true:=by
 unfold OpenLaw.wellSaid OpenRow.wellSaid OpenRow.partSaid looksOpen
 repeat' (with_reducible refine look_both ?_ ?_)
 ·try rw[PySem.W.Fast.te11788848310118352699];as_aux_lemma=>kernel_rfl
 ·try rw[PySem.W.Fast.te12862048085361865435];try rw[PySem.W.Fast.te9807087744658564304];as_aux_lemma=>kernel_rfl
 ·try rw[PySem.W.Fast.te8377067652309620493];as_aux_lemma=>kernel_rfl
 ·try rw[PySem.W.Fast.te14412699480532031325];try rw[PySem.W.Fast.sDec_eq];try rw[PySem.W.Fast.te3471404346716756564];try rw[PySem.W.Fast.te18344453789297297638];try rw[PySem.W.R.allR_eq];as_aux_lemma=>kernel_rfl
 ·try rw[PySem.W.Fast.te13343964577679436407];try rw[PySem.W.R.filterR_eq];try rw[PySem.W.Fast.te17691160309236699985];try rw[PySem.W.Fast.sDec_eq];try rw[PySem.W.Fast.te3471404346716756564];try rw[PySem.W.Fast.te5923862056798008813];try rw[PySem.W.R.allR_eq];try rw[PySem.W.Fast.te8326940854005059898];as_aux_lemma=>kernel_rfl
 ·try rw[PySem.W.Fast.te17868728402115742887];try rw[PySem.W.Fast.te17119622794617984870];as_aux_lemma=>kernel_rfl
 ·as_aux_lemma=>kernel_rfl
 ·as_aux_lemma=>kernel_rfl
 ·try rw[PySem.W.Fast.te9706382859710513879];try rw[PySem.W.R.allR_eq];as_aux_lemma=>kernel_rfl
 ·try rw[PySem.W.Fast.te2357444279172408678];try rw[PySem.W.S.strDecS_eq];try rw[PySem.W.Fast.te18344453789297297638];try rw[PySem.W.Fast.sDec_eq];try rw[PySem.W.Fast.te3471404346716756564];try rw[PySem.W.R.allR_eq];as_aux_lemma=>kernel_rfl
 ·try rw[PySem.W.Fast.sDec_eq];try rw[PySem.W.R.mapR_eq];as_aux_lemma=>kernel_rfl
 ·try rw[PySem.W.Fast.te18344453789297297638];try rw[PySem.W.Fast.sDec_eq];try rw[PySem.W.Fast.te3471404346716756564];try rw[PySem.W.Fast.named_eq];try rw[PySem.W.Fast.te4857012375875476094];try rw[PySem.W.R.allR_eq];as_aux_lemma=>kernel_rfl
 ·try rw[PySem.W.Fast.te13582783067957832011];as_aux_lemma=>kernel_rfl
 ·try rw[PySem.W.Fast.te5318747976498570220];as_aux_lemma=>kernel_rfl
 ·try rw[PySem.W.Fast.te5318747976498570220];as_aux_lemma=>kernel_rfl
 ·try rw[PySem.W.Fast.te5318747976498570220];try rw[PySem.W.R.allR_eq];as_aux_lemma=>kernel_rfl
 ·try rw[PySem.W.Fast.te4274047373036748609];try rw[PySem.W.R.anyR_eq];try rw[PySem.W.Fast.te4579403493507170074];try rw[PySem.W.R.allR_eq];as_aux_lemma=>kernel_rfl
 ·try rw[PySem.W.R.allR_eq];as_aux_lemma=>kernel_rfl
 ·as_aux_lemma=>kernel_rfl
 ·try rw[PySem.W.Fast.te18344453789297297638];try rw[PySem.W.Fast.sDec_eq];try rw[PySem.W.Fast.te3471404346716756564];as_aux_lemma=>kernel_rfl
 ·try rw[PySem.W.Fast.te12749700546528644094];try rw[PySem.W.Fast.sDec_eq];try rw[PySem.W.Fast.te3471404346716756564];as_aux_lemma=>kernel_rfl
 ·as_aux_lemma=>kernel_rfl
 ·try rw[PySem.W.Fast.te10501279942588096481];try rw[PySem.W.R.allR_eq];as_aux_lemma=>kernel_rfl
 ·try rw[PySem.W.Fast.te8179353310426384613];as_aux_lemma=>kernel_rfl
 ·as_aux_lemma=>kernel_rfl
 ·as_aux_lemma=>kernel_rfl
 ·try rw[PySem.W.Fast.te9572597257264208301];try rw[PySem.W.Fast.te797321630700447069];try rw[PySem.W.Fast.te8326940854005059898];as_aux_lemma=>kernel_rfl
 ·try rw[PySem.W.Fast.te9558739934217749035];as_aux_lemma=>kernel_rfl
 ·try rw[PySem.W.Fast.te16286561074155671207];as_aux_lemma=>kernel_rfl
 ·try rw[PySem.W.Fast.sDec_eq];try rw[PySem.W.R.allR_eq];as_aux_lemma=>kernel_rfl
 ·try rw[PySem.W.Fast.te6984425678791042302];try rw[PySem.W.Fast.sDec_eq];try rw[PySem.W.Fast.named_eq];try rw[PySem.W.Fast.te797321630700447069];try rw[PySem.W.R.allR_eq];as_aux_lemma=>kernel_rfl
 ·try rw[PySem.W.Fast.te6984425678791042302];try rw[PySem.W.Fast.te12879404354523853263];try rw[PySem.W.Fast.te17095254045102204799];try rw[PySem.W.R.allR_eq];as_aux_lemma=>kernel_rfl
 ·try rw[PySem.W.Fast.sDec_eq];try rw[PySem.W.Fast.te482687673346738481];try rw[PySem.W.Fast.te6984425678791042302];try rw[PySem.W.Fast.te12879404354523853263];try rw[PySem.W.Fast.te17095254045102204799];try rw[PySem.W.R.allR_eq];as_aux_lemma=>kernel_rfl
 ·try rw[PySem.W.Fast.te9572597257264208301];try rw[PySem.W.Fast.sDec_eq];try rw[PySem.W.Fast.te3471404346716756564];try rw[PySem.W.Fast.te17119622794617984870];as_aux_lemma=>kernel_rfl
 ·try rw[PySem.W.Fast.te10792542408131684335];try rw[PySem.W.Fast.sDec_eq];try rw[PySem.W.Fast.te3471404346716756564];as_aux_lemma=>kernel_rfl
 ·try rw[PySem.W.Fast.te10792542408131684335];try rw[PySem.W.Fast.sDec_eq];try rw[PySem.W.Fast.te7723801398212525404];as_aux_lemma=>kernel_rfl
 ·try rw[PySem.W.Fast.named_eq];try rw[PySem.W.Fast.te10792542408131684335];try rw[PySem.W.R.allR_eq];as_aux_lemma=>kernel_rfl
 ·try rw[PySem.W.Fast.te10792542408131684335];try rw[PySem.W.Fast.sDec_eq];try rw[PySem.W.Fast.te3471404346716756564];try rw[PySem.W.Fast.te17119622794617984870];as_aux_lemma=>kernel_rfl
 ·try rw[PySem.W.Fast.sDec_eq];try rw[PySem.W.Fast.te17119622794617984870];as_aux_lemma=>kernel_rfl
end
section
open PyProof.Rows PySem.W
set_option backward.match.sparseCases false
theorem w9:pw.tablesWhole=true:=by
 unfold Program.tablesWhole TablesWhole.wProgram
 rw[Fast.te6116379765354995101]
 kernel_rfl
theorem CT:pw.bare:=⟨rfl,rfl,rfl,rfl,rfl,w9⟩
theorem Ge:defOf q ("law":Str)=some (pJ,[]):=by kernel_rfl
theorem Gf:pw.theDef ("law":Str)=some (pJ.params,pJ.body,pJ.scope):=by kernel_rfl
theorem Lp:kwWritten? pJ.params.kwonlyargs pJ.params.kw_defaults=some []:=by kernel_rfl
abbrev EF:OpenLaw:=PySem.Challenge.rw_tu0007_01
theorem Lq:(chainsOk q && opensWell EF.row.prog && (frees EF.row.toRowW && EF.row.within.isEmpty))=true:=by kernel_rfl
theorem head(call:WalkO q loose (fun _ _=>True) (fun w h=>(KK w.params).In h) EF.row.toRowW pJ [] fun f vs=>PySem.call f vs):PySem.Challenge.rw_tu0007_01.Holds:=by
 refine holds_law Gd fun Gd=> ?_
 refine holds_open (r:=EF.row) (q:=q) (loose:=loose) (Xt:=fun _=>true) (XP:=fun _ _=>True) (Yf:=HK.obs) (Ya:=HK.val) (YP:=HK.says) (d:=pJ) (kwd:=[]) (N:=20000) left HK.of HK.keeps (fun _ _=>trivial) (fun _ _ _ _ _=>trivial) Ge Gf Lp
  (fun _ _=>recFacts_nil rfl) rfl Gd Lq CT ?hw call
 case hw=>w_witness2
end
section
set_option backward.match.sparseCases false
set_option genInjectivity false
inductive PV where
 |none|bool (b:Bool)|int (i:Int)|str (s:Str)|bytes|bG
 |tup (l:List PV)|ref (i:Nat)
instance:Nonempty PV:=⟨.none⟩
inductive aF where
 |list (l:List PV)
 |aW (l:List (Int×PV))
 |ed (l:List (Nat×PV))
 |inst (c:Nat) (fs:List (Nat×PV))
instance:Nonempty aF:=⟨.list []⟩
noncomputable abbrev aa:=List aF
noncomputable abbrev Loc:=List (Option PV)
inductive XK where
 |made|flying|held
inductive BF where
 |abs|min|max|len|list|tuple|sum|sorted|int|bytes
mutual
inductive IE where
 |const (v:PV)
 |var (x:Nat)
 |bin (op:Operator) (a b:IE)
 |neg (a:IE)
 |not (a:IE)
 |and (a b:IE)
 |or (a b:IE)
 |ite (c a b:IE)
 |cmp (op:CmpOp) (a b:IE)
 |chain (op lP:CmpOp) (a b c:IE)
 |attr (a:IE) (n:Nat)
 |item (a i:IE)
 |eX (a:IE) (n:Nat)
 |ma (a:IE)
 |qQ (a:IE)
 |rev (a:IE)
 |list (es:jW)
 |tuple (es:jW)
 |ed (ks:List Nat) (es:jW)
 |aW
 |ah (f:Nat) (es:jW)
 |callC (c:Nat) (es:jW)
 |bC (b:BF) (es:jW)
 |isInt (a:IE)
 |isBool (a:IE)
 |g0 (a:IE)
 |append (o x:IE)
 |extend (o x:IE)
 |insert (o i x:IE)
 |zr (o k:IE)
 |zt (o k x:IE)
 |mf (o:IE) (m:Nat) (es:jW)
 |comp (ct:List Nat) (src:g7) (elt:IE)
inductive jW where
 |nil|cons (e:IE) (r:jW)
inductive g7 where
 |items (e:IE)
 |range (e:IE)
 |enum (e:IE)
 |zip (a b:IE)
end
mutual
inductive IS where
 |expr (e:IE)
 |assign (x:Nat) (e:IE)
 |bH (xs:List Nat) (e:IE)
 |aw (o:IE) (n:Nat) (e:IE)
 |iE (o i e:IE)
 |aug (x:Nat) (op:Operator) (e:IE)
 |lz (o i:IE) (op:Operator) (e:IE)
 |ite (c:IE) (a b:cx)
 |while (c:IE) (b:cx)
 |for (ct:List Nat) (src:g7) (b:cx)
 |ret (e:IE)
 |raise
 |stuck
 |try (b:cx) (x:Nat) (v:PV)
 |cont
inductive cx where
 |nil|cons (s:IS) (r:cx)
end
instance:Nonempty jW:=⟨.nil⟩
instance:Nonempty IE:=⟨.aW⟩
instance:Nonempty g7:=⟨.items .aW⟩
instance:Nonempty cx:=⟨.nil⟩
instance:Nonempty IS:=⟨.cont⟩
instance:Nonempty XK:=⟨.made⟩
instance:Nonempty BF:=⟨.abs⟩
structure iR where
 np:Nat
 j1:Nat
 dflt:List PV
 body:cx
structure ClsRec where
 init:Option Nat
 mh:List (Nat×PV)
 meths:List (Nat×Nat)
structure ef where
 fns:List (Nat×iR)
 pO:List (Nat×ClsRec)
 bad:List (Nat×Nat)
 bG:List Int
instance:Nonempty iR:=⟨⟨0,0,[],.nil⟩⟩
instance:Nonempty ClsRec:=⟨⟨none,[],[]⟩⟩
instance:Nonempty ef:=⟨⟨[],[],[],[]⟩⟩
inductive Fl where
 |next|cont|ret (v:PV)
theorem cu{α:Type}{P:Prop}{a:α}(h:none=some a):P:=by cases h
noncomputable def int?:PV→Option Int
 |.int i=>some i
 |_=>none
theorem mj{v:PV}{i:Int}(h:int? v=some i):v=.int i:=by
 cases v with
 |int j=>exact congrArg _ (Option.some.inj h)
 |_=>exact cu h
noncomputable def g8:List PV→List PV→Option Bool
 |[],y=>if y.isEmpty then some true else none
 |a::r,y=>match y with
  |[]=>none
  |b::t=>(int? a).bind fun i=>(int? b).bind fun k=>(g8 r t).map fun b=>decide (i=k) && b
noncomputable def og(H:aa)(a b:PV):Option Bool:=
 match a,b with
 |.ref i,.ref j=>match H[i]?,H[j]? with
  |some (.list x),some (.list y)=>if x.length≠y.length then some false else g8 x y
  |some (.aW x),some (.aW [])=>some x.isEmpty
  |_,_=>none
 |_,_=>none
noncomputable def kM:List PV→Option (List Int)
 |[]=>some []
 |a::r=>(int? a).bind fun i=>(kM r).map (i::·)
noncomputable def place(i:Int)(n:Nat):Option Nat:=
 if n<1000000 then(if 0≤i∧i<n then some i.toNat else if i<0∧0≤i+n then some (i+n).toNat else none) else none
noncomputable def eE(k:Int):List (Int×PV)→Option PV
 |[]=>none
 |(j,v)::r=>if j=k then some v else eE k r
theorem pP{k j:Int}{v:PV}{r:List (Int×PV)}:eE k ((j,v)::r)=if j=k then some v else eE k r:=rfl
noncomputable def bA{α:Type}(k:Nat):List (Nat×α)→Option α
 |[]=>none
 |(j,v)::r=>if j=k then some v else bA k r
theorem fH{α:Type}{k j:Nat}{v:α}{r:List (Nat×α)}:bA k ((j,v)::r)=if j=k then some v else bA k r:=rfl
noncomputable def oh(k:Int)(v:PV):List (Int×PV)→List (Int×PV)
 |[]=>[(k,v)]
 |(j,u)::r=>if j=k then(j,v)::r else(j,u)::oh k v r
theorem sU{k j:Int}{v u:PV}{r:List (Int×PV)}:oh k v ((j,u)::r)=if j=k then(j,v)::r else(j,u)::oh k v r:=rfl
noncomputable def putN(k:Nat)(v:PV):List (Nat×PV)→List (Nat×PV)
 |[]=>[(k,v)]
 |(j,u)::r=>if j=k then(j,v)::r else(j,u)::putN k v r
theorem zu{k j:Nat}{v u:PV}{r:List (Nat×PV)}:putN k v ((j,u)::r)=if j=k then(j,v)::r else(j,u)::putN k v r:=rfl
noncomputable def zv:Option aF→Option (List PV)
 |some (.list l)=>some l
 |_=>none
noncomputable def listAt(H:aa)(r:Nat):Option (List PV):=zv H[r]?
noncomputable def P2(H:aa)(r:Nat):Option (List (Int×PV)):=
 match H[r]? with
 |some (.aW l)=>some l
 |_=>none
noncomputable def insertSorted(x:Int):List Int→List Int
 |[]=>[x]
 |y::r=>if x≤y then x::y::r else y::insertSorted x r
theorem eg{x y:Int}{r:List Int}:insertSorted x (y::r)=if x≤y then x::y::r else y::insertSorted x r:=rfl
noncomputable def bZ:List Int→List Int
 |[]=>[]
 |x::r=>insertSorted x (bZ r)
noncomputable def j2(P:ef)(n:Nat)(o:Option aF):Option PV:=
 match o with
 |some (.inst c fs)=>if P.bad.contains (c,n) then none else match bA n fs with
   |some v=>some v
   |none=>(bA c P.pO).bind fun k=>bA n k.mh
 |_=>none
noncomputable def g9(P:ef)(H:aa)(o:PV)(n:Nat):Option PV:=
 match o with
 |.ref r=>j2 P n H[r]?
 |_=>none
noncomputable def dZ(P:ef)(H:aa)(o:PV)(n:Nat)(v:PV):Option aa:=
 match o with
 |.ref r=>match H[r]? with
  |some (.inst c fs)=>if P.bad.contains (c,n) then none else if fs.length<100 then some (H.set r (.inst c (putN n v fs))) else none
  |_=>none
 |_=>none
noncomputable def lQ(H:aa)(o:PV)(n:Nat):Option PV:=
 match o with
 |.ref r=>match H[r]? with
  |some (.ed es)=>bA n es
  |_=>none
 |_=>none
inductive Src where
 |fixed (l:List PV)
 |live (r:Nat)
 |enum (r:Nat)
 |zip (r t:Nat)
instance:Nonempty Src:=⟨.live 0⟩
instance:Nonempty Fl:=⟨.next⟩
instance:Nonempty (PV→aa→Prop):=⟨fun _ _=>True⟩
instance:Nonempty (XK→aa→Prop):=⟨fun _ _=>True⟩
instance:Nonempty (Fl→Loc→aa→Prop):=⟨fun _ _ _=>True⟩
instance:Nonempty (XK→Loc→aa→Prop):=⟨fun _ _ _=>True⟩
instance:Nonempty (Loc→aa→Prop):=⟨fun _ _=>True⟩
noncomputable def Src.get(H:aa)(k:Nat):Src→Option (Option PV)
 |.fixed l=>some l[k]?
 |.live r=>(listAt H r).map fun l=>l[k]?
 |.enum r=>(listAt H r).map fun l=>l[k]?.map fun v=>.tup [.int k,v]
 |.zip r t=>(listAt H r).bind fun l=>(listAt H t).map fun m=>match l[k]?,m[k]? with
  |some a,some b=>some (.tup [a,b])
  |_,_=>none
noncomputable def f7:List Nat→Loc→Loc
 |[],loc=>loc
 |x::xs,loc=>f7 xs (loc.set x none)
noncomputable def dv(n:Int):List PV:=(List.range n.toNat).map fun(i:Nat)=>.int (Int.ofNat i)
noncomputable def jo(r:iR)(args:List PV):Option (List PV):=
 if args.length≤r.np∧r.np≤args.length+r.dflt.length then some (args++r.dflt.drop (args.length+r.dflt.length - r.np)) else none
noncomputable abbrev RP:=(PV→aa→Prop)→(XK→aa→Prop)→Prop
noncomputable def iZ(P:ef)(m:Nat)(H:aa):PV→Option Nat
 |.ref i=>match H[i]? with
  |some (.inst c fs)=>if(bA m fs).isSome then none else(bA c P.pO).bind fun k=>bA m k.meths
  |_=>none
 |_=>none
end
section
set_option backward.match.sparseCases false
section
local macro_rules
 |`(#[$xs,*])=>do
  let mut r ←`(.nil)
  for x in xs.getElems.reverse do r ←`(.cons $x $r)
  return r
noncomputable def US:cx:= #[.ret (.and (.isInt (.var 0)) (.and (.not (.isBool (.var 0))) (.chain .LtE .LtE (.var 1) (.var 0) (.var 2))))]
noncomputable def UT:cx:= #[.ite (.or (.not (.isInt (.var 0))) (.isBool (.var 0))) #[.stuck] .nil,.ret (.var 0)]
noncomputable def Lr:cx:= #[.ite (.not (.chain .LtE .LtE (.neg (.const (.int 2147483647))) (.ah 96 #[.var 0]) (.const (.int 2147483647)))) #[.stuck] .nil,.ret (.var 0)]
noncomputable def Ls:cx:= #[.ite (.not (.chain .LtE .LtE (.neg (.const (.int 1073741823))) (.ah 96 #[.var 0]) (.const (.int 1073741823)))) #[.stuck] .nil,.ret (.var 0)]
noncomputable def Lu:cx:= #[.ite (.cmp .Lt (.var 0) (.const (.int 0))) #[.stuck] .nil,.ite (.cmp .Eq (.var 0) (.const (.int 0))) #[.ret (.const (.int 0))] .nil,.ite (.cmp .LtE (.var 1) (.const (.int 0))) #[.ret (.const (.int 10000))] .nil,.ite (.cmp .LtE (.var 0) (.const (.int 7230584))) #[.assign 2 (.bin .FloorDiv (.bin .Mult (.var 0) (.const (.int 297))) (.var 1))] #[.ite (.cmp .GtE (.var 1) (.const (.int 1663497))) #[.assign 2 (.bin .FloorDiv (.var 0) (.bin .FloorDiv (.var 1) (.const (.int 297))))] #[.assign 2 (.var 0)]],.ite (.cmp .Gt (.var 2) (.const (.int 1290))) #[.ret (.const (.int 10000))] .nil,.ret (.bin .FloorDiv (.bin .Add (.bin .Mult (.bin .Mult (.var 2) (.var 2)) (.var 2)) (.const (.int 131072))) (.const (.int 262144)))]
noncomputable def Lv:cx:= #[.ite (.or (.not (.ah 89 #[.var 3,(.const (.int 0)),(.const (.int 3))])) (.not (.ah 89 #[.var 5,(.const (.int 0)),(.const (.int 3))]))) #[.stuck] .nil,.aw (.var 0) 0 (.ah 110 #[.var 1]),.aw (.var 0) 1 (.ah 110 #[.var 2]),.aw (.var 0) 2 (.ite (.cmp .NotEq (.var 2) (.const (.int 0))) (.var 3) (.const (.int 0))),.aw (.var 0) 3 (.ah 110 #[.var 4]),.aw (.var 0) 4 (.ite (.cmp .NotEq (.var 4) (.const (.int 0))) (.var 5) (.const (.int 0)))]
noncomputable def Lw:cx:= #[.ret (.tuple #[.attr (.var 0) 0,.attr (.var 0) 1,.attr (.var 0) 2,.attr (.var 0) 3,.attr (.var 0) 4])]
noncomputable def Lx:cx:= #[.for [1] (.items (.var 0)) #[.ite (.cmp .Gt (.attr (.var 1) 5) (.const (.int 5))) #[.stuck] .nil],.ret (.var 0)]
noncomputable def Ly:cx:= #[.ite (.not (.ah 89 #[.var 1,(.const (.int 2)),(.const (.int 3))])) #[.stuck] .nil,.aw (.var 0) 5 (.var 1),.aw (.var 0) 0 (.ah 110 #[.var 2]),.aw (.var 0) 6 (.ah 110 #[.var 3]),.aw (.var 0) 7 (.ah 110 #[.var 4]),.aw (.var 0) 8 (.var 5),.aw (.var 0) 9 (.const (.int 0)),.aw (.var 0) 10 (.const (.int 0)),.aw (.var 0) 11 (.const (.int 0)),.aw (.var 0) 12 (.tuple #[(.const (.int 0)),(.const (.int 1))])]
noncomputable def Lz:cx:= #[.for [4] (.items (.tuple #[.var 1,.var 2,.var 3])) #[.ite (.cmp .IsNot (.var 4) (.const .none)) #[.expr (.ah 110 #[.var 4])] .nil],.aw (.var 0) 0 (.var 1),.aw (.var 0) 6 (.var 2),.aw (.var 0) 7 (.var 3)]
noncomputable def LA:cx:= #[.ite (.not (.ah 89 #[.var 2,(.const (.int 0)),(.const (.int 3))])) #[.stuck] .nil,.aw (.var 0) 0 (.ah 110 #[.var 1]),.aw (.var 0) 13 (.var 2)]
noncomputable def LB:cx:= #[.ite (.and (.not (.ah 89 #[.var 2,(.const (.int 0)),(.const (.int 5))])) (.not (.ah 89 #[.var 2,(.const (.int 100)),.bin .Add (.const (.int 100)) (.const (.int 99))]))) #[.stuck] .nil,.ite (.cmp .Eq (.cmp .Is (.var 3) (.const .none)) (.chain .LtE .LtE (.const (.int 1)) (.var 2) (.const (.int 3)))) #[.stuck] .nil,.ite (.and (.cmp .IsNot (.var 3) (.const .none)) (.not (.chain .LtE .LtE (.const (.int 2)) (.attr (.var 3) 5) (.const (.int 4))))) #[.stuck] .nil,.aw (.var 0) 14 (.var 1),.aw (.var 0) 13 (.var 2),.aw (.var 0) 15 (.var 3)]
noncomputable def LC:cx:= #[.aw (.var 0) 16 (.ah 103 #[.var 1])]
noncomputable def LD:cx:= #[.aw (.var 0) 17 (.ah 262 #[.var 1]),.aw (.var 0) 18 (.ah 262 #[.var 2]),.aw (.var 0) 19 (.ah 262 #[.var 3])]
noncomputable def LF:cx:= #[.aw (.var 0) 20 (.bC .tuple #[.var 1])]
noncomputable def LG:cx:= #[.ite (.not (.ah 89 #[.var 1,(.const (.int 0)),(.const (.int 254))])) #[.stuck] .nil,.aw (.var 0) 21 (.var 1),.aw (.var 0) 22 (.ah 110 #[.var 2]),.aw (.var 0) 7 (.ah 110 #[.var 3]),.aw (.var 0) 23 (.var 4),.aw (.var 0) 24 (.ah 103 #[.var 5]),.aw (.var 0) 8 (.var 6)]
noncomputable def LH:cx:= #[.aw (.var 0) 8 (.var 1)]
noncomputable def LI:cx:= #[.aw (.var 0) 25 (.var 1),.aw (.var 0) 0 (.ah 110 #[.var 2])]
noncomputable def LJ:cx:= #[.ite (.not (.g0 (.var 1))) #[.stuck] .nil,.for [2] (.items (.var 1)) #[.ite (.not (.ah 89 #[.var 2,(.const (.int 0)),(.const (.int 255))])) #[.stuck] .nil],.aw (.var 0) 26 (.bC .bytes #[.var 1])]
noncomputable def LK:cx:= #[.assign 1 (.attr (.var 0) 5),.ite (.or (.cmp .Eq (.var 1) (.const (.int 0))) (.cmp .Eq (.var 1) (.const (.int 1)))) #[.ret (.mf (.attr (.var 0) 27) 0 #[.attr (.var 0) 28])] .nil,.ite (.or (.cmp .Eq (.var 1) (.const (.int 2))) (.or (.cmp .Eq (.var 1) (.const (.int 3))) (.or (.cmp .Eq (.var 1) (.const (.int 5))) (.or (.cmp .Eq (.var 1) (.const (.int 12))) (.cmp .Eq (.var 1) (.const (.int 14))))))) #[.ret (.attr (.var 0) 0)] .nil,.ite (.cmp .Eq (.var 1) (.const (.int 4))) #[.ret (.ite (.cmp .Is (.attr (.var 0) 0) (.const .none)) (.const (.int 0)) (.attr (.var 0) 0))] .nil,.ite (.cmp .Eq (.var 1) (.const (.int 6))) #[.ret (.attr (.attr (.var 0) 14) 0)] .nil,.ite (.cmp .Eq (.var 1) (.const (.int 8))) #[.ret (.bC .sum #[.comp [2] (.items (.attr (.var 0) 19)) (.ah 499 #[.var 2])])] .nil,.ret (.const (.int 0))]
noncomputable def LL:cx:= #[.aw (.var 0) 0 (.ah 110 #[.var 1]),.aw (.var 0) 29 (.ah 110 #[.var 2]),.aw (.var 0) 30 (.ah 110 #[.bin .Sub (.var 1) (.bC .abs #[.var 2])]),.aw (.var 0) 31 (.ah 103 #[.var 3]),.aw (.var 0) 32 (.bC .tuple #[.comp [6,7] (.items (.var 4)) (.tuple #[.ah 110 #[.var 6],.ah 110 #[.var 7]])]),.ite (.not (.ah 89 #[.var 5,(.const (.int 0)),(.const (.int 2147483647))])) #[.stuck] .nil,.aw (.var 0) 33 (.var 5)]
noncomputable def LM:cx:= #[.ite (.cmp .NotEq (.attr (.var 0) 32) (.tuple .nil)) #[.ret (.bin .Sub (.bC .len #[.attr (.var 0) 32]) (.const (.int 1)))] .nil,.ret (.ite (.cmp .NotEq (.attr (.var 0) 29) (.const (.int 0))) (.bC .abs #[.attr (.var 0) 31]) (.const (.int 0)))]
noncomputable def LN:cx:= #[.ite (.not (.ah 89 #[.var 1,(.const (.int 1)),.bin .Mult (.const (.int 2)) (.const (.int 2147483647))])) #[.stuck] .nil,.ite (.cmp .NotEq (.attr (.var 0) 32) (.tuple .nil)) #[.ret (.item (.attr (.var 0) 32) (.bin .Sub (.bC .min #[.var 1,.bC .len #[.attr (.var 0) 32]]) (.const (.int 1))))] .nil,.assign 2 (.cmp .Eq (.cmp .LtE (.var 1) (.bC .abs #[.attr (.var 0) 31])) (.cmp .Lt (.attr (.var 0) 31) (.const (.int 0)))),.ite (.or (.cmp .Eq (.attr (.var 0) 29) (.const (.int 0))) (.not (.var 2))) #[.ret (.tuple #[(.const (.int 0)),.attr (.var 0) 0])] .nil,.ret (.tuple #[.bC .max #[(.const (.int 0)),.attr (.var 0) 29],.attr (.var 0) 30])]
noncomputable def LO:cx:= #[.aw (.var 0) 34 (.const (.int 0)),.aw (.var 0) 35 (.const (.int 10000)),.aw (.var 0) 36 (.const (.int 0)),.aw (.var 0) 37 (.const (.int 0)),.aw (.var 0) 38 (.const (.int 0)),.aw (.var 0) 39 (.const (.int 0)),.aw (.var 0) 40 (.const (.int 0)),.aw (.var 0) 41 (.const (.int 0)),.aw (.var 0) 42 (.const (.int 0)),.aw (.var 0) 43 (.const (.int 0)),.aw (.var 0) 44 (.callC 227 .nil),.aw (.var 0) 45 (.callC 227 .nil)]
noncomputable def LP:cx:= #[.aw (.var 0) 46 (.var 1),.aw (.var 0) 47 (.var 2),.aw (.var 0) 48 (.var 3),.aw (.var 0) 49 (.var 4),.aw (.var 0) 50 (.var 5)]
noncomputable def LQ:cx:= #[.aw (.var 0) 51 (.var 1),.aw (.var 0) 52 (.var 2),.aw (.var 0) 53 (.var 3),.aw (.var 0) 54 (.var 4),.aw (.var 0) 55 (.var 5),.aw (.var 0) 56 (.ite (.cmp .Eq (.attr (.var 1) 42) (.const (.int 0))) (.mf (.var 2) 57 .nil) (.bin .Mult (.const (.int 2)) (.const (.int 2147483647))))]
noncomputable def LR:cx:= #[.for [1] (.items (.tuple #[.attr (.var 0) 34,.attr (.var 0) 35,.attr (.var 0) 36,.attr (.var 0) 37,.attr (.var 0) 38,.attr (.var 0) 39,.attr (.var 0) 40,.attr (.var 0) 41,.attr (.var 0) 42])) #[.expr (.ah 103 #[.var 1])],.expr (.ah 110 #[.attr (.var 0) 43])]
noncomputable def LS:cx:= #[.ret (.or (.cmp .Eq (.attr (.var 0) 5) (.const (.int 6))) (.or (.cmp .Eq (.attr (.var 0) 5) (.const (.int 7))) (.or (.cmp .Eq (.attr (.var 0) 5) (.const (.int 12))) (.and (.cmp .Eq (.attr (.var 0) 5) (.const (.int 5))) (.cmp .Eq (.attr (.var 0) 13) (.const (.int 1)))))))]
noncomputable def LU:cx:= #[.assign 2 (.list .nil),.bH [3,4] (.tuple #[(.const (.bool true)),(.const (.bool false))]),.for [5,6] (.enum (.var 0)) #[.assign 7 (.attr (.var 6) 5),.bH [8,9] (.tuple #[(.const (.int 10000)),(.const (.int 0))]),.ite (.cmp .Eq (.var 7) (.const (.int 6))) #[.ite (.and (.var 3) (.var 4)) #[.assign 8 (.const (.int 0))] .nil] #[.ite (.cmp .Eq (.var 7) (.const (.int 7))) #[.assign 8 (.attr (.var 6) 16)] #[.ite (.cmp .Eq (.var 7) (.const (.int 8))) #[.assign 9 (.const (.int 1)),.assign 8 (.ite (.cmp .NotEq (.attr (.var 6) 17) (.list .nil)) (.attr (.var 1) 37) (.attr (.var 1) 38))] #[.ite (.or (.cmp .Eq (.var 7) (.const (.int 12))) (.and (.cmp .Eq (.var 7) (.const (.int 5))) (.cmp .Eq (.attr (.var 6) 13) (.const (.int 1))))) #[.ite (.cmp .Eq (.var 7) (.const (.int 12))) #[.assign 3 (.not (.attr (.var 6) 25))] .nil,.ite (.and (.var 3) (.and (.cmp .Lt (.bin .Add (.var 5) (.const (.int 1))) (.bC .len #[.var 0])) (.cmp .Eq (.attr (.item (.var 0) (.bin .Add (.var 5) (.const (.int 1)))) 5) (.const (.int 6))))) #[.assign 8 (.const (.int 0))] .nil] .nil]]],.ite (.cmp .Lt (.var 8) (.const (.int 10000))) #[.expr (.append (.var 2) (.tuple #[.var 5,.bC .max #[.var 8,(.const (.int (-10000)))],.var 9]))] .nil,.assign 4 (.not (.ah 624 #[.var 6]))],.expr (.append (.var 2) (.tuple #[.bC .len #[.var 0],(.const (.int (-10000))),(.const (.int 1))])),.ret (.var 2)]
noncomputable def LV:cx:= #[.ite (.and (.cmp .Lt (.var 1) (.bC .len #[.var 0])) (.cmp .Eq (.attr (.item (.var 0) (.var 1)) 5) (.const (.int 8)))) #[.ite (.cmp .NotEq (.attr (.item (.var 0) (.var 1)) 18) (.list .nil)) #[.ret (.bin .Add (.var 1) (.const (.int 1)))] .nil,.aug 1 .Add (.const (.int 1))] .nil,.while (.and (.cmp .Lt (.var 1) (.bC .len #[.var 0])) (.ah 624 #[.item (.var 0) (.var 1)])) #[.aug 1 .Add (.const (.int 1))],.ret (.var 1)]
noncomputable def LW:cx:= #[.ite (.cmp .NotEq (.attr (.var 1) 4) (.const (.int 0))) #[.raise] .nil,.lz (.var 0) (.const (.int 0)) .Add (.attr (.var 1) 0),.lz (.var 0) (.bin .Add (.const (.int 1)) (.attr (.var 1) 2)) .Add (.attr (.var 1) 1),.lz (.var 0) (.const (.int 5)) .Add (.attr (.var 1) 3)]
noncomputable def LX:cx:= #[.assign 1 (.const (.int 0)),.for [2] (.items (.var 0)) #[.aug 1 .Add (.ah 499 #[.var 2])],.ret (.var 1)]
noncomputable def LY:cx:= #[.assign 1 (.bC .list #[(.const (.tup [(.int 0),(.int 0),(.int 0),(.int 0),(.int 0),(.int 0)]))]),.assign 2 (.list #[(.const (.tup [(.int 0),(.int 0),(.int 0),(.int 0),(.int 0),(.int 0)]))]),.for [3] (.items (.var 0)) #[.ite (.cmp .Eq (.attr (.var 3) 5) (.const (.int 6))) #[.expr (.ah 645 #[.var 1,.attr (.var 3) 14])] #[.ite (.cmp .Eq (.attr (.var 3) 5) (.const (.int 8))) #[.lz (.var 1) (.const (.int 0)) .Add (.ah 652 #[.attr (.var 3) 19])] #[.lz (.var 1) (.const (.int 0)) .Add (.ah 499 #[.var 3])]],.expr (.append (.var 2) (.bC .tuple #[.var 1]))],.ret (.var 2)]
noncomputable def LZ:cx:= #[.ret (.bin .Add (.tuple #[.bin .Add (.item (.var 0) (.const (.int 0))) (.var 1)]) (.qQ (.var 0)))]
noncomputable def Gg:cx:= #[.assign 2 (.ah 659 #[.var 0]),.assign 3 (.list .nil),.for [4,5,6] (.items (.ah 631 #[.var 0,.var 1])) #[.assign 7 (.ah 638 #[.var 0,.var 4]),.bH [8,9] (.tuple #[.item (.var 2) (.var 7),.item (.var 2) (.var 4)]),.ite (.and (.cmp .Lt (.var 4) (.bC .len #[.var 0])) (.cmp .Eq (.var 6) (.const (.int 1)))) #[.assign 8 (.ah 666 #[.var 8,.neg (.ah 652 #[.attr (.item (.var 0) (.var 4)) 18])]),.assign 9 (.ah 666 #[.var 9,.ah 652 #[.attr (.item (.var 0) (.var 4)) 17]])] .nil,.expr (.append (.var 3) (.tuple #[.var 4,.var 5,.var 6,.var 7,.var 8,.var 9]))],.ret (.var 3)]
noncomputable def L0:cx:= #[.assign 2 (.bC .list #[(.const (.tup [(.int 0),(.int 0),(.int 0),(.int 0),(.int 0),(.int 0)]))]),.expr (.ah 645 #[.var 2,.attr (.var 0) 44]),.expr (.ah 645 #[.var 2,.attr (.var 0) 45]),.lz (.var 2) (.const (.int 1)) .Add (.ah 110 #[.var 1]),.ret (.bC .tuple #[.var 2])]
noncomputable def L1:cx:= #[.ret (.bC .tuple #[.comp [3] (.range (.const (.int 6))) (.bin .Add (.bin .Sub (.item (.var 1) (.var 3)) (.item (.var 0) (.var 3))) (.item (.var 2) (.var 3)))])]
noncomputable def L2:cx:= #[.assign 2 (.bin .Sub (.var 0) (.item (.var 1) (.const (.int 0)))),.ite (.cmp .Gt (.var 2) (.const (.int 0))) #[.ite (.or (.cmp .NotEq (.item (.var 1) (.const (.int 2))) (.const (.int 0))) (.or (.cmp .NotEq (.item (.var 1) (.const (.int 3))) (.const (.int 0))) (.cmp .NotEq (.item (.var 1) (.const (.int 4))) (.const (.int 0))))) #[.ret (.tuple #[(.const (.int 0)),(.const (.int 2))])] .nil,.assign 3 (.ah 145 #[.var 2,.item (.var 1) (.const (.int 1))]),.ite (.cmp .Gt (.var 3) (.const (.int 99))) #[.ret (.tuple #[.var 3,(.const (.int 0))])] .nil,.ret (.tuple #[.var 3,.ite (.cmp .Gt (.var 3) (.const (.int 12))) (.const (.int 1)) (.const (.int 2))])] .nil,.ite (.cmp .Gt (.neg (.var 2)) (.item (.var 1) (.const (.int 5)))) #[.ret (.tuple #[(.const (.int 10001)),(.const (.int 3))])] .nil,.assign 3 (.ah 145 #[.neg (.var 2),.item (.var 1) (.const (.int 5))]),.ret (.tuple #[.var 3,.ite (.cmp .Gt (.var 3) (.const (.int 12))) (.const (.int 3)) (.const (.int 2))])]
noncomputable def L4:cx:= #[.assign 3 (.bin .Add (.attr (.var 0) 36) (.var 1)),.assign 4 (.ite (.cmp .GtE (.bC .abs #[.var 3]) (.const (.int 10000))) (.const (.int 100000000)) (.bin .Mult (.var 3) (.var 3))),.ite (.cmp .Gt (.var 2) (.const (.int 0))) #[.ret (.bin .Add (.var 4) (.bin .Mult (.var 2) (.var 2)))] .nil,.ite (.cmp .Gt (.var 2) (.const (.int (-10000)))) #[.ret (.bin .Sub (.var 4) (.bin .Mult (.var 2) (.var 2)))] .nil,.ret (.var 4)]
noncomputable def L5:cx:= #[.assign 4 (.const (.int 0)),.ite (.var 1) #[.aug 4 .Add (.ite (.var 2) (.attr (.var 0) 41) (.attr (.var 0) 40))] .nil,.ite (.cmp .Gt (.var 3) (.const (.int 1))) #[.aug 4 .Add (.attr (.var 0) 39)] .nil,.ret (.var 4)]
noncomputable def CU:cx:= #[.bH [4,5,6,7] (.tuple #[.item (.var 1) (.const (.int 0)),.item (.var 1) (.const (.int 1)),.item (.var 1) (.const (.int 2)),.item (.var 1) (.const (.int 5))]),.assign 8 (.attr (.var 0) 51),.bH [9,10,11] (.tuple #[.list .nil,.aW,.aW]),.for [12,13] (.enum (.var 2)) #[.assign 14 (.bin .Add (.attr (.var 13) 47) (.const (.int 1))),.assign 15 (.ite (.cmp .Gt (.item (.attr (.var 13) 46) (.const (.int 3))) (.var 4)) (.attr (.var 0) 54) (.ah 685 #[.item (.attr (.var 13) 46) (.const (.int 4)),.var 7,.attr (.var 0) 54])),.bH [16,17] (.ah 692 #[.item (.mf (.attr (.var 0) 52) 47 #[.var 14]) (.const (.int 1)),.var 15]),.assign 18 (.const (.bool false)),.ite (.or (.cmp .Gt (.var 16) (.const (.int 10000))) (.cmp .Eq (.var 5) (.const (.int (-10000))))) #[.assign 18 (.and (.attr (.var 0) 55) (.and (.cmp .Eq (.var 9) (.list .nil)) (.and (.cmp .Eq (.var 10) .aW) (.cmp .Eq (.var 12) (.bin .Sub (.bC .len #[.var 2]) (.const (.int 1)))))))] #[.expr (.append (.var 9) (.var 13))],.ite (.and (.cmp .Gt (.var 16) (.attr (.var 0) 53)) (.not (.var 18))) #[.cont] .nil,.assign 19 (.attr (.var 13) 49),.ite (.not (.var 18)) #[.assign 20 (.and (.cmp .Eq (.var 6) (.const (.int 1))) (.cmp .Eq (.item (.attr (.var 13) 46) (.const (.int 2))) (.const (.int 1)))),.aug 19 .Add (.bin .Add (.ah 699 #[.var 8,.var 16,.var 5]) (.ah 706 #[.var 8,.var 20,.var 3,.bC .abs #[.bin .Sub (.var 17) (.attr (.var 13) 48)]]))] .nil,.assign 21 (.bC .min #[.var 14,.bin .Add (.attr (.var 0) 56) (.const (.int 1))]),.assign 22 (.zr (.var 10) (.bin .Add (.bin .Mult (.const (.int 4)) (.var 21)) (.var 17))),.ite (.or (.cmp .Is (.var 22) (.const .none)) (.cmp .LtE (.var 19) (.item (.var 22) (.const (.int 0))))) #[.iE (.var 10) (.bin .Add (.bin .Mult (.const (.int 4)) (.var 21)) (.var 17)) (.tuple #[.var 19,.var 13,.var 14]),.iE (.var 11) (.var 21) (.bC .min #[.var 19,.zt (.var 11) (.var 21) (.var 19)])] .nil],.for [12] (.items (.bC .sorted #[.var 10])) #[.bH [19,13,14] (.item (.var 10) (.var 12)),.ite (.cmp .LtE (.var 19) (.bin .Add (.item (.var 11) (.bin .FloorDiv (.var 12) (.const (.int 4)))) (.bC .abs #[.attr (.var 8) 39]))) #[.expr (.append (.var 9) (.callC 585 #[.var 1,.var 14,.bin .Mod (.var 12) (.const (.int 4)),.var 19,.var 13]))] .nil],.ret (.var 9)]
noncomputable def CV:cx:= #[.assign 2 (.item (.var 0) (.const (.int 0))),.for [3] (.items (.var 0)) #[.ite (.cmp .Lt (.attr (.var 3) 49) (.attr (.var 2) 49)) #[.assign 2 (.var 3)] .nil],.bH [4,5] (.tuple #[.var 2,(.const (.int 0))]),.ite (.cmp .NotEq (.var 1) (.const (.int 0))) #[.for [3] (.items (.var 0)) #[.assign 6 (.bin .Sub (.attr (.var 3) 47) (.attr (.var 2) 47)),.assign 7 (.or (.chain .LtE .Lt (.var 1) (.var 6) (.var 5)) (.chain .Lt .LtE (.var 5) (.var 6) (.var 1))),.ite (.or (.var 7) (.and (.cmp .Eq (.var 6) (.var 5)) (.cmp .Lt (.attr (.var 3) 49) (.attr (.var 4) 49)))) #[.bH [4,5] (.tuple #[.var 3,.var 6])] .nil]] .nil,.ret (.tuple #[.var 4,.var 5])]
noncomputable def L6:cx:= #[.assign 1 (.list .nil),.while (.cmp .IsNot (.attr (.var 0) 50) (.const .none)) #[.expr (.append (.var 1) (.item (.attr (.var 0) 46) (.const (.int 0)))),.assign 0 (.attr (.var 0) 50)],.ret (.rev (.var 1))]
noncomputable def Gh:cx:= #[.expr (.ah 617 #[.var 1]),.assign 6 (.ah 680 #[.var 1,.var 4]),.assign 7 (.callC 606 #[.var 1,.var 2,.bC .min #[.ah 103 #[.var 3],(.const (.int 10000))],.var 6,.var 5]),.assign 8 (.list #[.callC 585 #[.tuple #[.neg (.const (.int 1)),(.const (.int 0)),(.const (.int 0)),(.const (.int 0)),(.const (.tup [(.int 0),(.int 0),(.int 0),(.int 0),(.int 0),(.int 0)])),(.const (.tup [(.int 0),(.int 0),(.int 0),(.int 0),(.int 0),(.int 0)]))],.attr (.var 2) 33,(.const (.int 2)),(.const (.int 0)),(.const .none)]]),.for [9] (.items (.ah 673 #[.var 0,.var 1])) #[.assign 8 (.ah 713 #[.var 7,.var 9,.var 8,.cmp .Eq (.item (.var 9) (.const (.int 0))) (.bC .len #[.var 0])]),.ite (.cmp .Eq (.var 8) (.list .nil)) #[.ret (.const .none)] .nil],.bH [10,11] (.ah 720 #[.var 8,.attr (.var 1) 42]),.ite (.and (.cmp .NotEq (.var 11) (.attr (.var 1) 42)) (.not (.var 5))) #[.ret (.const .none)] .nil,.ret (.ah 727 #[.var 10])]
noncomputable def L7:cx:= #[.assign 1 (.const (.int 0)),.for [2] (.items (.ma (.var 0))) #[.assign 3 (.bC .abs #[.var 2]),.ite (.cmp .Lt (.var 3) (.bin .Pow (.const (.int 10)) (.const (.int 18)))) #[.assign 3 (.bin .Mod (.bin .Mult (.bin .Add (.bin .Add (.bin .Mult (.const (.int 2)) (.var 3)) (.const (.int 1))) (.bC .int #[.cmp .Lt (.var 2) (.const (.int 0))])) (.const (.int 618033988749894848204586834365638117720309179805762862135449))) (.bin .Pow (.const (.int 10)) (.const (.int 60))))] .nil,.assign 1 (.bin .Mod (.bin .Add (.bin .Mult (.var 1) (.const (.int 1000003))) (.var 3)) (.bin .Pow (.const (.int 10)) (.const (.int 300))))],.ret (.list #[.var 1,(.const (.int 0))])]
noncomputable def L8:cx:= #[.ite (.cmp .Gt (.item (.var 0) (.const (.int 0))) (.const (.int 0))) #[.assign 2 (.bin .Mod (.item (.var 0) (.const (.int 0))) (.var 1)),.iE (.var 0) (.const (.int 0)) (.bin .FloorDiv (.item (.var 0) (.const (.int 0))) (.var 1)),.ret (.var 2)] .nil,.lz (.var 0) (.const (.int 1)) .Add (.const (.int 1)),.ret (.bin .Mod (.bin .Mod (.bin .Add (.bin .Add (.bin .Mult (.bin .Mult (.const (.int 7)) (.item (.var 0) (.const (.int 1)))) (.item (.var 0) (.const (.int 1)))) (.bin .Mult (.const (.int 5)) (.item (.var 0) (.const (.int 1))))) (.const (.int 3))) (.const (.int 101))) (.var 1))]
noncomputable def L9:cx:= #[.assign 1 (.callC 564 .nil),.aw (.var 1) 36 (.item (.list #[(.const (.int 10)),(.const (.int 0)),(.const (.int 100)),.neg (.const (.int 50))]) (.ah 748 #[.var 0,(.const (.int 4))])),.aw (.var 1) 37 (.item (.list #[(.const (.int 50)),(.const (.int 10000)),.neg (.const (.int 30)),(.const (.int 0)),(.const (.int 12000)),(.const (.int 200))]) (.ah 748 #[.var 0,(.const (.int 6))])),.aw (.var 1) 38 (.item (.list #[(.const (.int 50)),(.const (.int 10000)),.neg (.const (.int 20))]) (.ah 748 #[.var 0,(.const (.int 3))])),.aw (.var 1) 39 (.item (.list #[(.const (.int 0)),(.const (.int 5000)),(.const (.int 200)),.neg (.const (.int 300))]) (.ah 748 #[.var 0,(.const (.int 4))])),.aw (.var 1) 40 (.item (.list #[(.const (.int 0)),(.const (.int 3000)),.neg (.const (.int 500))]) (.ah 748 #[.var 0,(.const (.int 3))])),.aw (.var 1) 41 (.item (.list #[(.const (.int 0)),(.const (.int 1000)),(.const (.int 5000))]) (.ah 748 #[.var 0,(.const (.int 3))])),.aw (.var 1) 42 (.item (.list #[(.const (.int 0)),(.const (.int 0)),(.const (.int 0)),(.const (.int 1)),.neg (.const (.int 1)),(.const (.int 2))]) (.ah 748 #[.var 0,(.const (.int 6))])),.aw (.var 1) 44 (.item (.list #[.callC 227 .nil,.callC 227 #[(.const (.int 3)),(.const (.int 2)),(.const (.int 0)),(.const (.int 0)),(.const (.int 0))],.callC 227 #[(.const (.int 0)),(.const (.int 5)),(.const (.int 0)),(.const (.int 1)),(.const (.int 0))]]) (.ah 748 #[.var 0,(.const (.int 3))])),.aw (.var 1) 45 (.item (.list #[.callC 227 .nil,.callC 227 #[(.const (.int 2)),(.const (.int 4)),(.const (.int 0)),(.const (.int 0)),(.const (.int 0))],.callC 227 #[(.const (.int 0)),(.const (.int 9)),(.const (.int 0)),(.const (.int 0)),(.const (.int 0))]]) (.ah 748 #[.var 0,(.const (.int 3))])),.ret (.var 1)]
noncomputable def Ma:cx:= #[.bH [1,2,3] (.tuple #[.ah 748 #[.var 0,(.const (.int 4))],.bin .Add (.const (.int 40)) (.ah 748 #[.var 0,(.const (.int 50))]),.item (.list #[(.const (.int 0)),(.const (.int 0)),(.const (.int 2))]) (.ah 748 #[.var 0,(.const (.int 3))])]),.ite (.cmp .Lt (.var 1) (.const (.int 2))) #[.ret (.callC 543 #[.var 2,(.const (.int 0)),(.const (.int 1)),.tuple .nil,.var 3])] .nil,.ite (.cmp .Eq (.var 1) (.const (.int 2))) #[.ret (.callC 543 #[.var 2,(.const (.int 7)),(.const (.int 1)),.tuple #[.tuple #[(.const (.int 0)),.var 2],.tuple #[(.const (.int 5)),.bin .Sub (.var 2) (.const (.int 8))],.tuple #[(.const (.int 0)),.bin .Add (.var 2) (.const (.int 6))]],.var 3])] .nil,.bH [4,5] (.item (.list #[.tuple #[(.const (.int 10)),(.const (.int 1))],.tuple #[.neg (.const (.int 12)),.neg (.const (.int 1))],.tuple #[(.const (.int 9)),(.const (.int 2))],.tuple #[.neg (.const (.int 8)),.neg (.const (.int 2))]]) (.ah 748 #[.var 0,(.const (.int 4))])),.ret (.callC 543 #[.var 2,.var 4,.var 5,.tuple .nil,.var 3])]
noncomputable def Mb:cx:= #[.expr (.append (.eX (.var 0) 60) (.bin .Add (.bC .len #[.eX (.var 0) 61]) (.var 3))),.expr (.append (.eX (.var 0) 62) (.var 1)),.expr (.extend (.eX (.var 0) 61) (.var 2))]
noncomputable def Mc:cx:= #[.bH [2,3] (.tuple #[.bin .Add (.const (.int 1)) (.ah 748 #[.var 0,(.const (.int 5))]),.item (.list #[(.const (.int 0)),(.const (.int 2)),.neg (.const (.int 3))]) (.ah 748 #[.var 0,(.const (.int 3))])]),.ite (.cmp .Eq (.var 3) (.const (.int 0))) #[.ret (.list #[.callC 279 #[(.const (.int 2)),.var 2,(.const (.int 0)),(.const (.int 0)),.list .nil],.callC 279 #[(.const (.int 2)),.bin .Sub (.var 1) (.var 2),(.const (.int 0)),(.const (.int 0)),.list .nil]])] .nil,.ret (.list #[.callC 279 #[(.const (.int 2)),.var 2,(.const (.int 0)),(.const (.int 0)),.list .nil],.callC 321 #[.var 3,.ah 748 #[.var 0,(.const (.int 4))]],.callC 279 #[(.const (.int 2)),.bin .Sub (.bin .Sub (.var 1) (.var 2)) (.var 3),(.const (.int 0)),(.const (.int 0)),.list .nil]])]
noncomputable def Md:cx:= #[.assign 1 (.ah 748 #[.var 0,(.const (.int 4))]),.ite (.cmp .Eq (.var 1) (.const (.int 0))) #[.ret (.callC 406 #[.list #[.tuple #[(.const (.int 11)),(.const (.int 65))]]])] .nil,.ite (.cmp .Eq (.var 1) (.const (.int 1))) #[.ret (.callC 490 #[.list #[(.const (.int 65)),(.const (.int 66))]])] .nil,.ret (.ite (.cmp .Eq (.var 1) (.const (.int 2))) (.callC 427 #[(.const (.int 3)),(.const (.int 9)),(.const (.int 0)),.callC 227 .nil,(.const (.int 100)),.list #[.callC 364 #[(.const (.int 5))]]]) (.callC 448 #[.list #[.callC 321 #[(.const (.int 4)),(.const (.int 1))]]]))]
noncomputable def CW:cx:= #[.bH [4,5] (.tuple #[.bin .Add (.const (.int 8)) (.ah 748 #[.var 0,(.const (.int 25))]),.ah 748 #[.var 0,(.const (.int 10))]]),.assign 6 (.callC 279 #[(.const (.int 2)),.var 4,(.const (.int 0)),(.const (.int 0)),.list .nil]),.assign 7 (.list #[.var 6]),.ite (.cmp .Lt (.var 5) (.const (.int 3))) #[.assign 7 (.ah 776 #[.var 0,.var 4])] #[.ite (.cmp .Eq (.var 5) (.const (.int 3))) #[.assign 7 (.list #[.callC 279 #[(.const (.int 2)),(.const (.int 3)),(.const (.int 0)),(.const (.int 0)),.list .nil],.callC 364 #[.bin .Add (.const (.int 10000)) (.ah 748 #[.var 0,(.const (.int 3))])],.callC 279 #[(.const (.int 2)),.bin .Sub (.var 4) (.const (.int 3)),(.const (.int 0)),(.const (.int 0)),.list .nil]])] #[.ite (.cmp .Eq (.var 5) (.const (.int 4))) #[.expr (.insert (.var 7) (.ah 748 #[.var 0,(.const (.int 2))]) (.ah 783 #[.var 0]))] #[.ite (.cmp .Eq (.var 5) (.const (.int 5))) #[.assign 7 (.list #[.callC 300 #[.var 4,(.const .none),.item (.list #[(.const .none),(.const (.int 3))]) (.ah 748 #[.var 0,(.const (.int 2))])]])] #[.ite (.cmp .Eq (.var 5) (.const (.int 6))) #[.assign 7 (.list #[.callC 279 #[(.const (.int 3)),.var 4,(.const (.int 7)),(.const (.int 3)),.list #[.callC 321 #[(.const (.int 2)),(.const (.int 1))]]]]),.aw (.item (.var 7) (.const (.int 0))) 9 (.neg (.const (.int 4)))] #[.ite (.and (.cmp .Eq (.var 5) (.const (.int 7))) (.var 3)) #[.assign 7 (.list #[.callC 469 #[(.const (.bool true)),(.const (.int 0))],.var 6,.callC 469 #[(.const (.bool false)),(.const (.int 0))]])] #[.ite (.and (.cmp .Eq (.var 5) (.const (.int 8))) (.cmp .GtE (.bC .max #[.attr (.var 2) 37,.attr (.var 2) 38]) (.const (.int 10000)))) #[.assign 8 (.ite (.cmp .GtE (.attr (.var 2) 37) (.const (.int 10000))) (.list #[.callC 279 #[(.const (.int 2)),(.const (.int 4)),(.const (.int 0)),(.const (.int 0)),.list .nil]]) (.list .nil)),.assign 7 (.list #[.callC 279 #[(.const (.int 2)),(.const (.int 5)),(.const (.int 0)),(.const (.int 0)),.list .nil],.callC 385 #[.var 8,.list #[.callC 279 #[(.const (.int 2)),(.const (.int 1)),(.const (.int 0)),(.const (.int 0)),.list .nil]],.list .nil],.callC 279 #[(.const (.int 2)),.bin .Sub (.var 4) (.const (.int 5)),(.const (.int 0)),(.const (.int 0)),.list .nil]])] .nil]]]]]],.expr (.ah 769 #[.var 1,.var 6,.var 7,(.const (.int 0))])]
noncomputable def zw:cx:= #[.bH [4,5] (.tuple #[.callC 343 #[.var 2,(.const (.int 0))],.ah 748 #[.var 0,(.const (.int 9))]]),.bH [6,7,8,9,10] (.mf (.var 2) 65 .nil),.assign 11 (.list #[.var 4]),.ite (.cmp .Lt (.var 5) (.const (.int 4))) #[.assign 12 (.callC 227 #[.bin .Sub (.ah 748 #[.var 0,(.const (.int 6))]) (.const (.int 1)),.ah 748 #[.var 0,(.const (.int 4))],.var 8,.ah 748 #[.var 0,(.const (.int 3))],.var 10]),.assign 13 (.callC 227 #[.bin .Sub (.var 6) (.attr (.var 12) 0),.bin .Sub (.var 7) (.attr (.var 12) 1),.var 8,.bin .Sub (.var 9) (.attr (.var 12) 3),.var 10]),.assign 11 (.list #[.callC 343 #[.var 12,(.const (.int 0))],.callC 343 #[.var 13,(.const (.int 0))]])] #[.ite (.cmp .Eq (.var 5) (.const (.int 4))) #[.assign 11 (.list #[.callC 343 #[.var 2,.bin .Add (.const (.int 1)) (.ah 748 #[.var 0,(.const (.int 3))]),.callC 300 #[(.const .none),(.const (.int 2)),(.const (.int 0))]]])] #[.ite (.cmp .Eq (.var 5) (.const (.int 5))) #[.assign 11 (.list #[.callC 343 #[.var 2,.bin .Add (.const (.int 100)) (.ah 748 #[.var 0,(.const (.int 19))])]])] #[.ite (.and (.cmp .Eq (.var 5) (.const (.int 6))) (.var 3)) #[.assign 11 (.list #[.callC 321 #[(.const (.int 0)),(.const (.int 1))],.var 4])] .nil]]],.ite (.cmp .In (.var 5) (.tuple #[(.const (.int 1)),(.const (.int 3)),(.const (.int 6)),(.const (.int 7))])) #[.expr (.append (.var 11) (.callC 364 #[.bin .Add (.const (.int 10000)) (.ah 748 #[.var 0,(.const (.int 3))])]))] .nil,.ite (.cmp .In (.var 5) (.tuple #[(.const (.int 2)),(.const (.int 3)),(.const (.int 8))])) #[.expr (.append (.var 11) (.callC 321 #[(.const (.int 0)),(.const (.int 1))]))] .nil,.expr (.ah 769 #[.var 1,.var 4,.var 11,.ite (.and (.cmp .Eq (.attr (.item (.var 11) (.const (.int 0))) 5) (.const (.int 6))) (.cmp .Eq (.attr (.item (.eX (.var 1) 61) (.neg (.const (.int 1)))) 5) (.const (.int 12)))) (.neg (.const (.int 1))) (.const (.int 0))])]
noncomputable def Me:cx:= #[.bH [1,2,3] (.tuple #[.item (.list #[(.const (.int 4)),(.const (.int 5)),(.const (.int 6)),(.const (.int 7)),.neg (.const (.int 2))]) (.ah 748 #[.var 0,(.const (.int 5))]),.bin .Add (.const (.int 1)) (.ah 748 #[.var 0,(.const (.int 7))]),.item (.list #[(.const (.int 0)),(.const (.int 0)),(.const (.int 0)),(.const (.int 0)),(.const (.int 0)),(.const (.int 1)),(.const (.int 2))]) (.ah 748 #[.var 0,(.const (.int 7))])]),.ret (.callC 227 #[.var 1,.var 2,.var 3,.item (.list #[(.const (.int 0)),(.const (.int 1)),(.const (.int 2)),(.const (.int 3)),(.const (.int 8))]) (.ah 748 #[.var 0,(.const (.int 5))]),.bC .int #[.cmp .Eq (.ah 748 #[.var 0,(.const (.int 25))]) (.const (.int 7))]])]
noncomputable def Mf:cx:= #[.assign 3 (.ah 748 #[.var 0,(.const (.int 400))]),.expr (.ah 769 #[.var 1,.callC 364 #[.var 2],.list #[.callC 364 #[.ite (.cmp .GtE (.var 2) (.const (.int 10000))) (.bin .Add (.var 2) (.var 3)) (.ite (.cmp .LtE (.var 2) (.neg (.const (.int 10000)))) (.bin .Sub (.var 2) (.var 3)) (.var 2))]],(.const (.int 0))])]
noncomputable def CX:cx:= #[.assign 3 (.comp [8] (.range (.const (.int 3))) (.item (.list #[(.const .none),(.const (.int 3)),(.const (.int 2)),(.const (.int 6))]) (.ah 748 #[.var 0,(.const (.int 4))]))),.assign 4 (.comp [9] (.items (.var 3)) (.ite (.cmp .Is (.var 9) (.const .none)) (.list .nil) (.list #[.callC 279 #[(.const (.int 2)),.var 9,(.const (.int 0)),(.const (.int 0)),.list .nil]]))),.assign 5 (.comp [9] (.items (.var 3)) (.ite (.cmp .Is (.var 9) (.const .none)) (.list .nil) (.ah 776 #[.var 0,.var 9]))),.assign 6 (.ite (.cmp .Is (.item (.var 3) (.const (.int 0))) (.const .none)) (.attr (.var 2) 38) (.attr (.var 2) 37)),.assign 7 (.ite (.cmp .GtE (.var 6) (.const (.int 10000))) (.item (.var 5) (.const (.int 2))) (.list #[.callC 385 #[.item (.var 5) (.const (.int 0)),.item (.var 5) (.const (.int 1)),.item (.var 5) (.const (.int 2))]])),.expr (.ah 769 #[.var 1,.callC 385 #[.item (.var 4) (.const (.int 0)),.item (.var 4) (.const (.int 1)),.item (.var 4) (.const (.int 2))],.var 7,(.const (.int 0))])]
noncomputable def Mg:cx:= #[.assign 3 (.ah 748 #[.var 0,(.const (.int 10))]),.ite (.cmp .Lt (.var 3) (.const (.int 4))) #[.expr (.ah 797 #[.var 0,.var 1,.ah 804 #[.var 0],(.const (.bool true))])] #[.ite (.cmp .Lt (.var 3) (.const (.int 6))) #[.expr (.ah 811 #[.var 0,.var 1,.item (.list #[(.const (.int 50)),.neg (.const (.int 50)),(.const (.int 10000)),(.const (.int 120)),.neg (.const (.int 300)),(.const (.int 9999)),.neg (.const (.int 10000))]) (.ah 748 #[.var 0,(.const (.int 7))])]),.ite (.cmp .Gt (.ah 748 #[.var 0,(.const (.int 3))]) (.const (.int 0))) #[.expr (.ah 797 #[.var 0,.var 1,.ah 804 #[.var 0],(.const (.bool false))])] .nil] #[.ite (.cmp .Eq (.var 3) (.const (.int 6))) #[.expr (.ah 816 #[.var 0,.var 1,.var 2])] #[.ite (.cmp .Eq (.var 3) (.const (.int 7))) #[.expr (.ah 769 #[.var 1,.callC 321 #[(.const (.int 3)),(.const (.int 1))],.list #[.callC 321 #[(.const (.int 3)),(.const (.int 1))]],(.const (.int 0))]),.expr (.ah 797 #[.var 0,.var 1,.ah 804 #[.var 0],(.const (.bool false))])] #[.ite (.cmp .Eq (.var 3) (.const (.int 8))) #[.expr (.ah 769 #[.var 1,.callC 321 #[(.const (.int 3)),(.const (.int 0))],.list #[.callC 321 #[(.const (.int 3)),.item (.list #[(.const (.int 0)),(.const (.int 2)),(.const (.int 3))]) (.ah 748 #[.var 0,(.const (.int 3))])]],(.const (.int 0))]),.expr (.ah 797 #[.var 0,.var 1,.ah 804 #[.var 0],(.const (.bool true))])] #[.expr (.ah 769 #[.var 1,.callC 469 #[(.const (.bool true)),(.const (.int 1))],.list #[.callC 469 #[(.const (.bool true)),(.const (.int 1))]],(.const (.int 0))]),.expr (.ah 790 #[.var 0,.var 1,.var 2,(.const (.bool false))]),.expr (.ah 797 #[.var 0,.var 1,.ah 804 #[.var 0],(.const (.bool false))]),.expr (.ah 769 #[.var 1,.callC 469 #[(.const (.bool false)),(.const (.int 2))],.list #[.callC 469 #[(.const (.bool false)),(.const (.int 2))]],(.const (.int 0))]),.expr (.ah 797 #[.var 0,.var 1,.ah 804 #[.var 0],(.const (.bool false))])]]]]]]
noncomputable def Mh:cx:= #[.ite (.cmp .NotEq (.bC .len #[.var 0]) (.bC .len #[.var 1])) #[.ret (.const (.bool false))] .nil,.for [2,3] (.zip (.var 0) (.var 1)) #[.ite (.cmp .IsNot (.var 2) (.var 3)) #[.ret (.const (.bool false))] .nil],.ret (.const (.bool true))]
noncomputable def Mi:cx:= #[.assign 5 (.bC .list #[.var 0]),.try #[.assign 6 (.ah 734 #[.var 5,.var 1,.var 2,.item (.var 3) (.const (.int 0)),.item (.var 3) (.const (.int 1)),.var 4])] 6 (.str s!"refused"),.ret (.ite (.ah 830 #[.var 5,.var 0]) (.var 6) (.const (.str s!"changed")))]
noncomputable def Mj:cx:= #[.ite (.cmp .Eq (.var 1) (.const (.str s!"refused"))) #[.ret (.cmp .Eq (.var 2) (.const (.str s!"refused")))] .nil,.ite (.cmp .Is (.var 1) (.const .none)) #[.ret (.and (.cmp .Is (.var 2) (.const .none)) (.not (.var 3)))] .nil,.ite (.or (.cmp .Eq (.var 1) (.const (.str s!"changed"))) (.or (.cmp .Is (.var 2) (.const .none)) (.or (.cmp .Eq (.var 2) (.const (.str s!"refused"))) (.cmp .Eq (.var 2) (.const (.str s!"changed")))))) #[.ret (.const (.bool false))] .nil,.for [4] (.items (.var 2)) #[.ite (.isBool (.var 4)) #[.ret (.const (.bool false))] .nil],.ret (.cmp .Eq (.var 2) (.comp [4] (.items (.var 1)) (.item (.eX (.var 0) 60) (.var 4))))]
noncomputable def xa:cx:= #[.assign 1 (.ah 741 #[.var 0]),.bH [2,3] (.tuple #[.item (.list #[(.const (.int 2)),(.const (.int 3)),(.const (.int 4)),(.const (.int 3)),(.const (.int 2))]) (.ah 748 #[.var 1,(.const (.int 5))]),.ah 755 #[.var 1]]),.assign 4 (.ah 762 #[.var 1]),.assign 5 (.tuple #[.item (.list #[(.const (.int 10000)),(.const (.int 200)),(.const (.int 1000)),(.const (.int 30))]) (.ah 748 #[.var 1,(.const (.int 4))]),.item (.list #[(.const (.int 0)),(.const (.int 0)),(.const (.int 20))]) (.ah 748 #[.var 1,(.const (.int 3))])]),.bH [6,7] (.tuple #[.ed [62,61,60] #[.list .nil,.list .nil,.list .nil],.ah 748 #[.var 1,(.const (.int 4))]]),.expr (.ah 790 #[.var 1,.var 6,.var 3,(.const (.bool true))]),.for [8] (.range (.var 2)) #[.expr (.ah 823 #[.var 1,.var 6,.var 3]),.expr (.ah 790 #[.var 1,.var 6,.var 3,(.const (.bool true))])],.ite (.cmp .NotEq (.var 7) (.const (.int 2))) #[.expr (.ah 811 #[.var 1,.var 6,(.const (.int 10000))]),.expr (.ah 797 #[.var 1,.var 6,.ite (.cmp .Lt (.var 7) (.const (.int 2))) (.callC 227 #[(.const (.int 0)),(.const (.int 6)),(.const (.int 1)),(.const (.int 0)),(.const (.int 0))]) (.callC 227 #[(.const (.int 2)),(.const (.int 9)),(.const (.int 0)),(.const (.int 1)),(.const (.int 0))]),(.const (.bool false))])] .nil,.expr (.append (.eX (.var 6) 60) (.bC .len #[.eX (.var 6) 61])),.for [9] (.items (.tuple #[(.const (.bool false)),(.const (.bool true))])) #[.assign 10 (.ah 837 #[.eX (.var 6) 62,.var 3,.var 4,.var 5,.var 9]),.ite (.not (.ah 842 #[.var 6,.var 10,.ah 837 #[.eX (.var 6) 61,.var 3,.var 4,.var 5,.var 9],.var 9])) #[.ret (.const (.bool false))] .nil],.ret (.const (.bool true))]
end
noncomputable def zx:List (Nat×iR):=[
 (89,⟨3,3,[],US⟩),
 (96,⟨1,1,[],UT⟩),
 (103,⟨1,1,[],Lr⟩),
 (110,⟨1,1,[],Ls⟩),
 (145,⟨2,3,[],Lu⟩),
 (174,⟨6,6,[(.int 0),(.int 0),(.int 0),(.int 0),(.int 0)],Lv⟩),
 (181,⟨1,1,[],Lw⟩),
 (262,⟨1,2,[],Lx⟩),
 (276,⟨6,6,[],Ly⟩),
 (297,⟨4,5,[],Lz⟩),
 (318,⟨3,3,[],LA⟩),
 (340,⟨4,4,[.none],LB⟩),
 (361,⟨2,2,[],LC⟩),
 (382,⟨4,4,[],LD⟩),
 (403,⟨2,2,[],LF⟩),
 (424,⟨7,7,[],LG⟩),
 (445,⟨2,2,[],LH⟩),
 (466,⟨3,3,[],LI⟩),
 (487,⟨2,3,[],LJ⟩),
 (499,⟨1,3,[],LK⟩),
 (526,⟨6,8,[(.int 0),(.int 1),(.tup []),(.int 0)],LL⟩),
 (533,⟨1,1,[],LM⟩),
 (540,⟨2,3,[],LN⟩),
 (561,⟨1,1,[],LO⟩),
 (582,⟨6,6,[],LP⟩),
 (603,⟨6,6,[],LQ⟩),
 (617,⟨1,2,[],LR⟩),
 (624,⟨1,1,[],LS⟩),
 (631,⟨2,10,[],LU⟩),
 (638,⟨2,2,[],LV⟩),
 (645,⟨2,2,[],LW⟩),
 (652,⟨1,3,[],LX⟩),
 (659,⟨1,4,[],LY⟩),
 (666,⟨2,2,[],LZ⟩),
 (673,⟨2,10,[],Gg⟩),
 (680,⟨2,3,[],L0⟩),
 (685,⟨3,4,[],L1⟩),
 (692,⟨2,4,[],L2⟩),
 (699,⟨3,5,[],L4⟩),
 (706,⟨4,5,[],L5⟩),
 (713,⟨4,23,[],CU⟩),
 (720,⟨2,8,[],CV⟩),
 (727,⟨1,2,[],L6⟩),
 (734,⟨6,12,[],Gh⟩),
 (741,⟨1,4,[],L7⟩),
 (748,⟨2,3,[],L8⟩),
 (755,⟨1,2,[],L9⟩),
 (762,⟨1,6,[],Ma⟩),
 (769,⟨4,4,[],Mb⟩),
 (776,⟨2,4,[],Mc⟩),
 (783,⟨1,2,[],Md⟩),
 (790,⟨4,9,[],CW⟩),
 (797,⟨4,14,[],zw⟩),
 (804,⟨1,4,[],Me⟩),
 (811,⟨3,4,[],Mf⟩),
 (816,⟨3,10,[],CX⟩),
 (823,⟨3,4,[],Mg⟩),
 (830,⟨2,4,[],Mh⟩),
 (837,⟨5,7,[],Mi⟩),
 (842,⟨4,5,[],Mj⟩),
 (849,⟨1,11,[],xa⟩)]
noncomputable def ml:List (Nat×ClsRec):=[
 (227,⟨some 174,[],[(65,181)]⟩),
 (279,⟨some 276,[],[]⟩),
 (300,⟨some 297,[(5,.int 4)],[]⟩),
 (321,⟨some 318,[(5,.int 5)],[]⟩),
 (343,⟨some 340,[(5,.int 6)],[]⟩),
 (364,⟨some 361,[(5,.int 7)],[]⟩),
 (385,⟨some 382,[(5,.int 8)],[]⟩),
 (406,⟨some 403,[(5,.int 9)],[]⟩),
 (427,⟨some 424,[(5,.int 10)],[]⟩),
 (448,⟨some 445,[(5,.int 11)],[]⟩),
 (469,⟨some 466,[(5,.int 12)],[]⟩),
 (490,⟨some 487,[(5,.int 13),(13,.int 0)],[]⟩),
 (543,⟨some 526,[],[(57,533),(47,540)]⟩),
 (564,⟨some 561,[],[]⟩),
 (585,⟨some 582,[],[]⟩),
 (606,⟨some 603,[],[]⟩)]
noncomputable def dS:List (Nat×Nat):=[(227,65),(543,57),(543,47)]
noncomputable def aP(ns:List Int):ef:=⟨zx,ml,dS,ns⟩
@[irreducible] def WO {α:Type} (x:Option α) (k:α→Prop):Prop:=∃a,x=some a∧k a
@[irreducible] def WG (c A:Prop):Prop:=c∧A
@[irreducible] def WP (c A B:Prop):Prop:=(c→A)∧(¬c→B)
theorem WO.of{α:Type}{x:Option α}{a:α}{k:α→Prop}(h:x=some a)(g:k a):WO x k:=by unfold WO;exact⟨a,h,g⟩
theorem WO.el{α:Type}{x:Option α}{k:α→Prop}(h:WO x k):∃a,x=some a∧k a:=by unfold WO at h;exact h
theorem WG.of{c A:Prop}(h:c)(g:A):WG c A:=by unfold WG;exact⟨h,g⟩
theorem WG.el{c A:Prop}(h:WG c A):c∧A:=by unfold WG at h;exact h
theorem WP.of{c A B:Prop}(h:c→A)(g:¬c→B):WP c A B:=by unfold WP;exact⟨h,g⟩
theorem WP.el{c A B:Prop}(h:WP c A B):(c→A)∧(¬c→B):=by unfold WP at h;exact h
theorem WP.pos{c A B:Prop}(h:c)(g:A):WP c A B:=.of (fun _=>g) fun n=>absurd h n
theorem WP.neg{c A B:Prop}(h:¬c)(g:B):WP c A B:=.of (fun n=>absurd n h) fun _=>g
abbrev wb(b:Bool)(A B:Prop):Prop:=match b with
 |true=>A
 |false=>B
theorem yS{b:Bool}{A B:Prop}(h:b=true→A)(g:b=false→B):wb b A B:=by cases b;exact g rfl;exact h rfl
theorem Zg{b:Bool}{A B:Prop}(h:wb b A B):(b=true→A)∧(b=false→B):=by cases b;exact⟨nofun,fun _=>h⟩;exact⟨fun _=>h,nofun⟩
abbrev WV(v:PV)(A B:Prop):Prop:=match v with
 |.bool b=>wb b A B
 |_=>False
abbrev look:Loc→Nat→(PV→Prop)→Prop
 |[],_,_=>False
 |o::_,0,k=>match o with
  |some v=>k v
  |none=>False
 |_::r,n+1,k=>look r n k
abbrev putL(v:PV):Loc→Nat→(Loc→Prop)→Prop
 |[],_,_=>False
 |_::r,0,k=>k (some v::r)
 |a::r,n+1,k=>putL v r n fun l=>k (a::l)
abbrev iS:List Nat→List PV→Loc→(Loc→Prop)→Prop
 |[],[],loc,k=>k loc
 |x::xs,v::vs,loc,k=>putL v loc x fun l=>iS xs vs l k
 |_,_,_,_=>False
abbrev jt(v:PV)(k:List PV→Prop):Prop:=match v with
 |.tup l=>k l
 |_=>False
theorem jt.el{v:PV}{k:List PV→Prop}(h:jt v k):∃i,v=.tup i∧k i:=by
 cases v<;>first|exact h.elim|exact⟨_,rfl,h⟩
abbrev f9(ct:List Nat)(v:PV)(loc:Loc)(k:Loc→Prop):Prop:=match ct with
 |[x]=>putL v loc x k
 |_=>jt v fun l=>iS ct l loc k
abbrev wI(v:PV)(k:Int→Prop):Prop:=match v with
 |.int i=>k i
 |_=>False
theorem wI.el{v:PV}{k:Int→Prop}(h:wI v k):∃i,v=.int i∧k i:=by
 cases v<;>first|exact h.elim|exact⟨_,rfl,h⟩
abbrev dp(v:PV)(k:Nat→Prop):Prop:=match v with
 |.ref l=>k l
 |_=>False
theorem dp.el{v:PV}{k:Nat→Prop}(h:dp v k):∃i,v=.ref i∧k i:=by
 cases v<;>first|exact h.elim|exact⟨_,rfl,h⟩
abbrev wL(H:aa)(r:Nat)(k:List PV→Prop):Prop:=WO H[r]? fun o=>match o with
 |.list l=>k l
 |_=>False
theorem wL.el{H:aa}{r:Nat}{k:List PV→Prop}(h:wL H r k):∃l,H[r]? =some (.list l)∧k l:=by
 obtain⟨o,e,h⟩:=WO.el h
 cases o<;>first|exact h.elim|exact⟨_,e,h⟩
abbrev xb(H:aa)(r:Nat)(k:List (Int×PV)→Prop):Prop:=WO H[r]? fun o=>match o with
 |.aW l=>k l
 |_=>False
theorem xb.el{H:aa}{r:Nat}{k:List (Int×PV)→Prop}(h:xb H r k):∃l,H[r]? =some (.aW l)∧k l:=by
 obtain⟨o,e,h⟩:=WO.el h
 cases o<;>first|exact h.elim|exact⟨_,e,h⟩
abbrev Mk(x y:PV)(k:PV→Prop):Prop:=match x with
 |.int a=>wI y fun b=>k (.int (a+b))
 |.tup a=>jt y fun b=>WG (a.length+b.length<1000) (k (.tup (a++b)))
 |_=>False
abbrev Ml(op:Operator)(x y:PV)(k:PV→Prop):Prop:=match op with
 |.Add=>Mk x y k
 |.Sub=>wI x fun a=>wI y fun b=>k (.int (a - b))
 |.Mult=>wI x fun a=>wI y fun b=>WG (a.natAbs<2 ^ 64∨b.natAbs<2 ^ 64) (k (.int (a * b)))
 |.FloorDiv=>wI x fun a=>wI y fun b=>WG (b≠0∧Builtin.divisionGoesByPylong a b=false) (k (.int (a.fdiv b)))
 |.Mod=>wI x fun a=>wI y fun b=>WG (b≠0) (k (.int (a.fmod b)))
 |.Pow=>wI x fun a=>wI y fun b=>WG (a.natAbs<2 ^ 64∧0≤b∧b≤1000) (k (.int (a ^ b.toNat)))
 |_=>False
abbrev Gi(op:Operator)(x y:PV)(k:PV→Prop):Prop:=match op with
 |.Add=>wI x fun a=>wI y fun b=>k (.int (a+b))
 |_=>False
abbrev EG(v:PV)(k:Bool→Prop):Prop:=match v with
 |.bool l=>k l
 |_=>False
theorem EG.el{v:PV}{k:Bool→Prop}(h:EG v k):∃i,v=.bool i∧k i:=by
 cases v<;>first|exact h.elim|exact⟨_,rfl,h⟩
abbrev Ip(v:PV)(k:Str→Prop):Prop:=match v with
 |.str l=>k l
 |_=>False
theorem Ip.el{v:PV}{k:Str→Prop}(h:Ip v k):∃i,v=.str i∧k i:=by
 cases v<;>first|exact h.elim|exact⟨_,rfl,h⟩
abbrev P4(H:aa)(x y:PV)(A B:Prop):Prop:=match x with
 |.int a=>wI y fun b=>WP (a=b) A B
 |.bool a=>EG y fun b=>WP (a=b) A B
 |.str a=>Ip y fun b=>WP ((a == b)=true) A B
 |.none=>Ip y fun _=>B
 |.tup l=>(match y with
  |.tup m=>(match m with
   |[]=>(match l with
    |[]=>A
    |_::_=>B)
   |_::_=>False)
  |_=>False)
 |.ref i=>(match y with
  |.str _=>wL H i fun _=>B
  |.ref j=>WO (og H (.ref i) (.ref j)) fun t=>wb t A B
  |_=>False)
 |_=>False
abbrev Q5(x y:PV)(A B:Prop):Prop:=match y with
 |.none=>(match x with
  |.none=>A
  |.ref _=>B
  |.int _=>B
  |.tup _=>B
  |_=>False)
 |.ref j=>dp x fun i=>WP (i=j) A B
 |_=>False
abbrev qR(op:CmpOp)(H:aa)(x y:PV)(A B:Prop):Prop:=match op with
 |.Eq=>P4 H x y A B
 |.NotEq=>P4 H x y B A
 |.Is=>Q5 x y A B
 |.IsNot=>Q5 x y B A
 |.Lt=>wI x fun a=>wI y fun b=>WP (a<b) A B
 |.LtE=>wI x fun a=>wI y fun b=>WP (a≤b) A B
 |.Gt=>wI x fun a=>wI y fun b=>WP (b<a) A B
 |.GtE=>wI x fun a=>wI y fun b=>WP (b≤a) A B
 |.In=>wI x fun a=>jt y fun l=>WO (kM l) fun is=>WP (is.contains a=true) A B
 |_=>False
abbrev zy(op:CmpOp)(H:aa)(x y:PV)(k:Bool→Prop):Prop:=match op with
 |.Lt=>wI x fun a=>wI y fun b=>k (decide (a<b))
 |.LtE=>wI x fun a=>wI y fun b=>k (decide (a≤b))
 |.Gt=>wI x fun a=>wI y fun b=>k (decide (b<a))
 |.GtE=>wI x fun a=>wI y fun b=>k (decide (b≤a))
 |.Eq=>(match x with
  |.int a=>wI y fun b=>k (decide (a=b))
  |.bool a=>EG y fun b=>k (a == b)
  |_=>P4 H x y (k true) (k false))
 |op=>qR op H x y (k true) (k false)
noncomputable abbrev short:List PV→Nat→Bool
 |[],_=>true
 |_::_,0=>false
 |_::r,n+1=>short r n
abbrev nX:List PV→Nat→(PV→Prop)→Prop
 |[],_,_=>False
 |v::_,0,k=>k v
 |_::r,n+1,k=>nX r n k
def kN(H:aa)(a i:PV)(k:PV→Prop):Prop:=match a with
 |.tup l=>wI i fun j=>(match j with
  |.ofNat n=>wb (short l 100) (nX l n k) False
  |.negSucc _=>False)
 |.ref r=>wI i fun j=>WO H[r]? fun o=>(match o with
  |.list l=>WO ((place j l.length).bind fun m=>l[m]?) k
  |.aW es=>WO (eE j es) k
  |_=>False)
 |_=>False
def gh(H:aa)(o i v:PV)(k:aa→Prop):Prop:=dp o fun r=>wI i fun j=>WO H[r]? fun o=>match o with
 |.list l=>WG (0≤j∧j<l.length∧l.length<100000) (k (H.set r (.list (l.set j.toNat v))))
 |.aW es=>WG (es.length<1000) (k (H.set r (.aW (oh j v es))))
 |_=>False
abbrev w1(vs:List PV)(k:PV→Prop):Prop:=match vs with
 |[]=>False
 |a::r=>(match r with
  |[]=>k a
  |_::_=>False)
abbrev w2(vs:List PV)(k:PV→PV→Prop):Prop:=match vs with
 |[]=>False
 |a::r=>w1 r (k a)
theorem w1.el{vs:List PV}{k:PV→Prop}(h:w1 vs k):∃a,vs=[a]∧k a:=by
 cases vs with
 |nil=>exact h.elim
 |cons a r=>cases r with
  |nil=>exact⟨a,rfl,h⟩
  |cons _ _=>exact h.elim
theorem w2.el{vs:List PV}{k:PV→PV→Prop}(h:w2 vs k):∃a b,vs=[a,b]∧k a b:=by
 cases vs with
 |nil=>exact h.elim
 |cons a r=>obtain⟨b,rfl,h⟩:=w1.el (vs:=r) h;exact⟨a,b,rfl,h⟩
abbrev Gj(H:aa)(v:PV)(k:List PV→Prop):Prop:=match v with
 |.tup l=>WG (l.length<100000) (k l)
 |.ref r=>wL H r fun l=>WG (l.length<100000) (k l)
 |_=>False
abbrev UU(b:BF)(vs:List PV)(H:aa)(k:PV→aa→Prop):Prop:=match b with
 |.abs=>w1 vs fun a=>wI a fun x=>k (.int (if x<0 then -x else x)) H
 |.min=>w2 vs fun a b=>wI a fun x=>wI b fun y=>k (.int (if y<x then y else x)) H
 |.max=>w2 vs fun a b=>wI a fun x=>wI b fun y=>k (.int (if y>x then y else x)) H
 |.len=>w1 vs fun a=>Gj H a fun l=>k (.int l.length) H
 |.list=>w1 vs fun a=>Gj H a fun l=>k (.ref H.length) (H++[.list l])
 |.tuple=>w1 vs fun a=>dp a fun r=>wL H r fun l=>WG (l.length<100000) (k (.tup l) H)
 |.sum=>w1 vs fun a=>dp a fun r=>wL H r fun l=>WO (kM l) fun ns=>k (.int ns.sum) H
 |.sorted=>w1 vs fun a=>dp a fun r=>xb H r fun es=>WG (es.length<60) (k (.ref H.length) (H++[.list ((bZ (es.map (·.1))).map .int)]))
 |.int=>w1 vs fun a=>(match a with
  |.bool b=>k (.int (if b then 1 else 0)) H
  |_=>False)
 |.bytes=>w1 vs fun a=>dp a fun r=>wL H r fun l=>WO (kM l) fun ns=>WG (ns.length<1000∧∀n∈ns,0≤n∧n<256) (k .bytes H)
abbrev Mm(H:aa)(v:PV)(k:Src→Prop):Prop:=match v with
 |.tup l=>WG (l.length<1000) (k (.fixed l))
 |.ref r=>wL H r fun l=>WG (l.length<100000) (k (.live r))
 |_=>False
abbrev mn(Q:Fl→Loc→aa→Prop)(R:Loc→aa→Prop)(f:Fl)(loc:Loc)(H:aa):Prop:=
 match f with
 |.next=>R loc H
 |.cont=>Q .cont loc H
 |.ret v=>Q (.ret v) loc H
def nE:XK→aa→Prop:=fun _ _=>False
def P5:XK→Loc→aa→Prop:=fun _ _ _=>False
@[irreducible] def Wc (x:RP) (Q:PV→aa→Prop) (E:XK→aa→Prop):Prop:=x Q E
theorem Wc.of{x:RP}{Q:PV→aa→Prop}{E:XK→aa→Prop}(h:x Q E):Wc x Q E:=by unfold Wc;exact h
theorem Wc.el{x:RP}{Q:PV→aa→Prop}{E:XK→aa→Prop}(h:Wc x Q E):x Q E:=by unfold Wc at h;exact h
noncomputable abbrev QL:=Fl→Loc→aa→Prop
noncomputable abbrev EL:=XK→Loc→aa→Prop
abbrev kO(Q:QL)(I:Loc→aa→Prop)(f:Fl)(loc:Loc)(H:aa):Prop:=match f with
 |.next=>I loc H
 |.cont=>I loc H
 |.ret v=>Q (.ret v) loc H
abbrev mu(E:EL)(x:XK)(loc:Loc)(H:aa):Prop:=match x with
 |.flying=>E .held loc H
 |_=>False
@[irreducible] def mz (body:Loc→aa→QL→EL→Prop) (ct:List Nat) (sr:Src) (loc:Loc) (H:aa) (Q:QL) (E:EL):Prop:=
 ∃(N:Nat) (item:Nat→PV) (I:Nat→Loc→aa→Prop),I 0 loc H∧(∀k loc H,I k loc H→k<N→sr.get H k=some (some (item k)))∧(∀loc H,I N loc H→sr.get H N=some none)∧
  (∀k loc H,k<N→I k loc H→f9 ct (item k) loc fun eQ=>body eQ H (kO Q (I (k+1))) (mu E))∧∀loc H,I N loc H→Q .next loc H
@[irreducible] def j4 (test:Loc→aa→(aa→Prop)→(aa→Prop)→(XK→aa→Prop)→Prop) (body:Loc→aa→QL→EL→Prop) (loc:Loc) (H:aa) (Q:QL):Prop:=
 ∃(N:Nat) (I:Nat→Loc→aa→Prop),I N loc H∧
  ∀k loc H,I k loc H→test loc H (fun H=>body loc H (kO Q fun loc H=>∃j,j<k∧I j loc H) P5) (fun H=>Q .next loc H) nE
@[irreducible] def mA (elt:Loc→aa→(PV→aa→Prop)→(XK→aa→Prop)→Prop) (ct:List Nat) (sr:Src) (loc:Loc) (H:aa) (R:List PV→aa→Prop):Prop:=
 ∃(N:Nat) (item:Nat→PV) (I:Nat→List PV→Loc→aa→Prop),I 0 [] loc H∧(∀k acc loc H,I k acc loc H→k<N→sr.get H k=some (some (item k)))∧(∀acc loc H,I N acc loc H→sr.get H N=some none)∧
  (∀k acc loc H,k<N→I k acc loc H→f9 ct (item k) loc fun eQ=>elt eQ H (fun x H=>acc.length<1000∧I (k+1) (acc++[x]) eQ H) nE)∧∀acc loc H,I N acc loc H→R acc H
abbrev Q6(Q:QL)(f:Fl)(loc:Loc)(H:aa):Prop:=match f with
 |.next=>Q .next loc H
 |_=>False
abbrev Mn(x:Nat)(v:PV)(Q:QL)(k:XK)(loc:Loc)(H:aa):Prop:=match k with
 |.flying=>putL v loc x fun l=>Q .next l H
 |_=>False
abbrev UW(R:PV→aa→Prop)(r:Nat)(v:PV)(H:aa):Prop:=match v with
 |.none=>R (.ref r) H
 |_=>False
section
variable (P:ef)(call:Nat→List PV→aa→RP)
noncomputable def cC(c:Nat)(args:List PV)(H:aa):RP:=fun R _=>
 match bA c P.pO with
 |some k=>match k.init with
  |some f=>call f (.ref H.length::args) (H++[.inst c []]) (UW R H.length) nE
  |none=>False
 |none=>False
mutual
noncomputable def wE:IE→Loc→aa→(PV→aa→Prop)→(XK→aa→Prop)→Prop
 |.const v,_,H,R,_=>R v H
 |.var x,loc,H,R,_=>look loc x fun v=>R v H
 |.bin op a b,loc,H,R,E=>wE a loc H (fun x H=>wE b loc H (fun y H=>Ml op x y fun v=>R v H) E) E
 |.neg a,loc,H,R,E=>wE a loc H (fun x H=>wI x fun i=>R (.int (-i)) H) E
 |.not a,loc,H,R,E=>wE a loc H (fun x H=>match x with
  |.bool b=>R (.bool (!b)) H
  |_=>False) E
 |.and a b,loc,H,R,E=>wT a loc H (fun H=>wE b loc H R E) (fun H=>R (.bool false) H) E
 |.or a b,loc,H,R,E=>wT a loc H (fun H=>R (.bool true) H) (fun H=>wE b loc H R E) E
 |.ite c a b,loc,H,R,E=>wT c loc H (fun H=>wE a loc H R E) (fun H=>wE b loc H R E) E
 |.cmp op a b,loc,H,R,E=>wE a loc H (fun x H=>wE b loc H (fun y H=>zy op H x y fun t=>R (.bool t) H) E) E
 |.chain op lP a b c,loc,H,R,E=>wE a loc H (fun x H=>wE b loc H (fun y H=>qR op H x y (wE c loc H (fun z H=>zy lP H y z fun t=>R (.bool t) H) E) (R (.bool false) H)) E) E
 |.attr a n,loc,H,R,E=>wE a loc H (fun x H=>WO (g9 P H x n) fun v=>R v H) E
 |.item a i,loc,H,R,E=>wE a loc H (fun x H=>wE i loc H (fun y H=>kN H x y fun v=>R v H) E) E
 |.eX a n,loc,H,R,E=>wE a loc H (fun x H=>WO (lQ H x n) fun v=>R v H) E
 |.ma a,loc,H,R,E=>wE a loc H (fun x H=>match x with
  |.bG=>R (.ref H.length) (H++[.list ((P.bG.take 24).map .int)])
  |_=>False) E
 |.qQ a,loc,H,R,E=>wE a loc H (fun x H=>jt x fun l=>WG (1≤l.length∧l.length<1000) (R (.tup (l.drop 1)) H)) E
 |.rev a,loc,H,R,E=>wE a loc H (fun x H=>dp x fun r=>wL H r fun l=>WG (l.length<100000) (R (.ref H.length) (H++[.list l.reverse]))) E
 |.list es,loc,H,R,E=>wEs es loc H (fun vs H=>wb (short vs 999) (R (.ref H.length) (H++[.list vs])) False) E
 |.tuple es,loc,H,R,E=>wEs es loc H (fun vs H=>wb (short vs 999) (R (.tup vs) H) False) E
 |.ed ks es,loc,H,R,E=>wEs es loc H (fun vs H=>WG (vs.length=ks.length∧ks.length<15∧ks.Nodup) (R (.ref H.length) (H++[.ed (ks.zip vs)]))) E
 |.aW,_,H,R,_=>R (.ref H.length) (H++[.aW []])
 |.ah f es,loc,H,R,E=>wEs es loc H (fun vs H=>Wc (call f vs H) R E) E
 |.callC c es,loc,H,R,E=>wEs es loc H (fun vs H=>Wc (cC P call c vs H) R E) E
 |.bC b es,loc,H,R,E=>wEs es loc H (fun vs H=>UU b vs H R) E
 |.isInt a,loc,H,R,E=>wE a loc H (fun x H=>match x with
  |.int _=>R (.bool true) H
  |.bool _=>R (.bool true) H
  |_=>False) E
 |.isBool a,loc,H,R,E=>wE a loc H (fun x H=>match x with
  |.int _=>R (.bool false) H
  |.bool _=>R (.bool true) H
  |_=>False) E
 |.g0 a,loc,H,R,E=>wE a loc H (fun x H=>dp x fun r=>wL H r fun _=>R (.bool true) H) E
 |.append o x,loc,H,R,E=>wE o loc H (fun r H=>dp r fun r=>wL H r fun _=>wE x loc H (fun v H=>wL H r fun l=>WG (l.length<100000) (R .none (H.set r (.list (l++[v]))))) E) E
 |.extend o x,loc,H,R,E=>wE o loc H (fun r H=>dp r fun r=>wL H r fun _=>wE x loc H (fun v H=>dp v fun t=>wL H r fun l=>wL H t fun m=>WG (r≠t∧l.length+m.length<100000) (R .none (H.set r (.list (l++m))))) E) E
 |.insert o i x,loc,H,R,E=>wE o loc H (fun r H=>dp r fun r=>wL H r fun _=>wE i loc H (fun j H=>wE x loc H (fun v H=>wI j fun j=>wL H r fun l=>WG (0≤j∧j≤l.length∧l.length<1000) (R .none (H.set r (.list (l.take j.toNat++v::l.drop j.toNat))))) E) E) E
 |.zr o k,loc,H,R,E=>wE o loc H (fun r H=>dp r fun r=>xb H r fun _=>wE k loc H (fun j H=>wI j fun j=>xb H r fun es=>R ((eE j es).getD .none) H) E) E
 |.zt o k x,loc,H,R,E=>wE o loc H (fun r H=>dp r fun r=>xb H r fun _=>wE k loc H (fun j H=>wE x loc H (fun d H=>wI j fun j=>xb H r fun es=>R ((eE j es).getD d) H) E) E) E
 |.mf o m es,loc,H,R,E=>wE o loc H (fun r H=>WO (iZ P m H r) fun f=>wEs es loc H (fun vs H=>Wc (call f (r::vs) H) R nE) E) E
 |.comp ct src elt,loc,H,R,E=>Gk src loc H (fun sr H=>mA (wE elt) ct sr (f7 ct loc) H (fun l H=>WG (l.length<1000) (R (.ref H.length) (H++[.list l])))) E
noncomputable def wT:IE→Loc→aa→(aa→Prop)→(aa→Prop)→(XK→aa→Prop)→Prop
 |.not a,loc,H,A,B,E=>wT a loc H B A E
 |.and a b,loc,H,A,B,E=>wT a loc H (fun H=>wT b loc H A B E) B E
 |.or a b,loc,H,A,B,E=>wT a loc H A (fun H=>wT b loc H A B E) E
 |.cmp op a b,loc,H,A,B,E=>wE a loc H (fun x H=>wE b loc H (fun y H=>qR op H x y (A H) (B H)) E) E
 |.chain op lP a b c,loc,H,A,B,E=>wE a loc H (fun x H=>wE b loc H (fun y H=>qR op H x y (wE c loc H (fun z H=>qR lP H y z (A H) (B H)) E) (B H)) E) E
 |.var x,loc,H,A,B,_=>look loc x fun v=>WV v (A H) (B H)
 |.ah f es,loc,H,A,B,E=>wEs es loc H (fun vs H=>Wc (call f vs H) (fun v H=>WV v (A H) (B H)) E) E
 |.attr a n,loc,H,A,B,E=>wE a loc H (fun x H=>WO (g9 P H x n) fun v=>WV v (A H) (B H)) E
 |.isInt a,loc,H,A,B,E=>wE a loc H (fun x H=>match x with
  |.int _=>A H
  |.bool _=>A H
  |_=>False) E
 |.isBool a,loc,H,A,B,E=>wE a loc H (fun x H=>match x with
  |.int _=>B H
  |.bool _=>A H
  |_=>False) E
 |.g0 a,loc,H,A,_,E=>wE a loc H (fun x H=>dp x fun r=>wL H r fun _=>A H) E
 |_,_,_,_,_,_=>False
noncomputable def wEs:jW→Loc→aa→(List PV→aa→Prop)→(XK→aa→Prop)→Prop
 |.nil,_,H,R,_=>R [] H
 |.cons e r,loc,H,R,E=>wE e loc H (fun v H=>wEs r loc H (fun vs H=>R (v::vs) H) E) E
noncomputable def Gk:g7→Loc→aa→(Src→aa→Prop)→(XK→aa→Prop)→Prop
 |.items e,loc,H,R,E=>wE e loc H (fun v H=>Mm H v fun s=>R s H) E
 |.range e,loc,H,R,E=>wE e loc H (fun v H=>wI v fun n=>WG (0≤n∧n<1000) (R (.fixed (dv n)) H)) E
 |.enum e,loc,H,R,E=>wE e loc H (fun v H=>dp v fun r=>wL H r fun l=>WG (l.length<100000) (R (.enum r) H)) E
 |.zip a b,loc,H,R,E=>wE a loc H (fun v H=>wE b loc H (fun u H=>dp v fun r=>dp u fun t=>wL H r fun l=>wL H t fun m=>WG (l.length<100000∧m.length<100000) (R (.zip r t) H)) E) E
end
mutual
noncomputable def wS:IS→Loc→aa→QL→EL→Prop
 |.expr e,loc,H,Q,E=>wE P call e loc H (fun _ H=>Q .next loc H) (fun k H=>E k loc H)
 |.assign x e,loc,H,Q,E=>wE P call e loc H (fun v H=>putL v loc x fun l=>Q .next l H) (fun k H=>E k loc H)
 |.bH xs e,loc,H,Q,E=>wE P call e loc H (fun v H=>jt v fun l=>iS xs l loc fun l=>Q .next l H) (fun k H=>E k loc H)
 |.aw o n e,loc,H,Q,E=>wE P call e loc H (fun v H=>wE P call o loc H (fun r H=>WO (dZ P H r n v) fun H=>Q .next loc H) (fun k H=>E k loc H)) (fun k H=>E k loc H)
 |.iE o i e,loc,H,Q,E=>wE P call e loc H (fun v H=>wE P call o loc H (fun r H=>wE P call i loc H (fun j H=>gh H r j v fun H=>Q .next loc H) (fun k H=>E k loc H)) (fun k H=>E k loc H)) (fun k H=>E k loc H)
 |.aug x op e,loc,H,Q,E=>look loc x fun u=>wE P call e loc H (fun v H=>Gi op u v fun w=>putL w loc x fun l=>Q .next l H) (fun k H=>E k loc H)
 |.lz o i op e,loc,H,Q,E=>wE P call o loc H (fun r H=>wE P call i loc H (fun j H=>kN H r j fun u=>wE P call e loc H (fun v H=>Gi op u v fun w=>gh H r j w fun H=>Q .next loc H) (fun k H=>E k loc H)) (fun k H=>E k loc H)) (fun k H=>E k loc H)
 |.ite c a b,loc,H,Q,E=>wT P call c loc H (fun H=>wSs a loc H Q E) (fun H=>wSs b loc H Q E) (fun k H=>E k loc H)
 |.ret e,loc,H,Q,E=>wE P call e loc H (fun v H=>Q (.ret v) loc H) (fun k H=>E k loc H)
 |.raise,loc,H,_,E=>E .made loc H
 |.stuck,_,_,_,_=>False
 |.cont,loc,H,Q,_=>Q .cont loc H
 |.for ct src b,loc,H,Q,E=>Gk P call src loc H (fun sr H=>mz (wSs b) ct sr loc H Q E) (fun k H=>E k loc H)
 |.while c b,loc,H,Q,_=>j4 (wT P call c) (wSs b) loc H Q
 |.try b x v,loc,H,Q,_=>wSs b loc H (Q6 Q) (Mn x v Q)
noncomputable def wSs:cx→Loc→aa→QL→EL→Prop
 |.nil,loc,H,Q,_=>Q .next loc H
 |.cons s r,loc,H,Q,E=>wS s loc H (mn Q fun loc H=>wSs r loc H Q E) E
end
end
abbrev fR(R:PV→aa→Prop)(f:Fl)(_:Loc)(H:aa):Prop:=match f with
 |.ret v=>R v H
 |.next=>R .none H
 |.cont=>False
noncomputable def qS(P:ef)(call:Nat→List PV→aa→RP)(f:Nat)(args:List PV)(H:aa):RP:=fun R E=>
 match bA f P.fns with
 |none=>False
 |some r=>match jo r args with
  |none=>False
  |some vs=>wSs P call r.body (vs.map some++List.replicate (r.j1 - r.np) none) H (fR R) fun _ _ H=>E .flying H
noncomputable def EH(P:ef):Nat→Nat→List PV→aa→RP
 |0=>fun _ _ _ _ _=>False
 |n+1=>qS P (EH P n)
@[irreducible] noncomputable def aj (P:ef) (n:Nat):Nat→List PV→aa→RP:=EH P n
theorem sV{P:ef}{f:Nat}{args:List PV}{H:aa}:aj P 0 f args H=fun _ _=>False:=by unfold aj;rfl
theorem mB{P:ef}{n f:Nat}{args:List PV}{H:aa}:aj P (n+1) f args H=qS P (aj P n) f args H:=by unfold aj;rfl
end
section
open PyProof.Rows PySem.Calls PySem.W
set_option backward.match.sparseCases false
set_option genInjectivity false
structure Cx where
 prog:Program
 w:World
 K:Frag
 p:Program
 loose:List Str
 h₀:Heap
 mg:Str→Option Value
 mb:Str→Option Value
 ns:List Int
 tab:List Str
 bad:Addr
 known:List Nat
 ok:Prop
 X:ok→K.In h₀
 T:ok→TopRead p loose mg mb h₀
 nodup:ok→tab.Nodup
 Q7:ok→ns.length<1000
instance:Nonempty Drawn:=⟨{}⟩
instance:Nonempty Shared:=⟨{}⟩
instance:Nonempty Around:=⟨{}⟩
instance:Nonempty World:=⟨{draws:=fun _ _=>0,params:={strHash:=fun _=>0,shareClass:=fun _=>0,mergeTok:=id,idOf:=fun _=>0,idOfShared:=fun _ _=>0,followText:=fun _=>true,idOfImm:=fun _=>0}}⟩
instance:Nonempty Model:=⟨model default (Classical.choice inferInstance)⟩
instance:Nonempty Cx:=⟨⟨default,Classical.choice inferInstance,[],default,[],default,fun _=>none,fun _=>none,[],[],0,[],False,False.elim,False.elim,False.elim,False.elim⟩⟩
noncomputable def Cx.nm(X:Cx)(n:Nat):Str:=(X.tab[n]?).getD Str.empty
noncomputable abbrev Cx.M(X:Cx):Model:=model X.prog X.w
theorem Cx.inj(X:Cx)(k:X.ok){i j:Nat}(hi:i<X.tab.length)(hj:j<X.tab.length)(e:X.nm i=X.nm j):i=j:=by
 unfold Cx.nm at e
 rw[List.getElem?_eq_getElem hi,List.getElem?_eq_getElem hj] at e
 have P:=List.pairwise_iff_getElem.mp (X.nodup k)
 rcases Nat.lt_trichotomy i j with q|q|q
 ·exact absurd e (P i j hi hj q)
 ·exact q
 ·exact absurd e.symm (P j i hj hi q)
noncomputable abbrev lst(sW:Array Value)(n:Nat):Obj:=PySem.W.listOf sW n
structure Wd where
 B:Addr→Option Obj
 φ:List (Addr×Addr)
instance:Nonempty Wd:=⟨⟨fun _=>none,[]⟩⟩
def Own(W:Wd)(a:Addr):Prop:=∃p∈W.φ,a=p.1∨a=p.2
mutual
inductive VR(X:Cx)(W:Wd):PV→Value→Prop
 |none:VR X W .none .none
 |bool (b:Bool):VR X W (.bool b) (.bool b)
 |int (i:Int) (t:Tok):VR X W (.int i) (.int i t)
 |str (x:Str) (t:Tok):VR X W (.str x) (.str x t)
 |bytes (b:Array UInt8) (t:Tok):VR X W .bytes (.bytes b t)
 |ref (i:Nat) (p:Addr×Addr):W.φ[i]? =some p→VR X W (.ref i) (.ref p.1)
 |tup (l:List PV) (a:Addr) (o:Obj) (n:Nat) (vs:List Value):W.B a=some o→o.cls=.type "tuple"→o.data=.seq vs.toArray n→cO X W l vs→VR X W (.tup l) (.ref a)
 |bG (a:Addr) (o:Obj) (n:Nat) (vs:List Value):W.B a=some o→o.cls=.type "list"→o.data=.seq vs.toArray n→IntsAre vs X.ns→VR X W .bG (.ref a)
inductive cO(X:Cx)(W:Wd):List PV→List Value→Prop
 |nil:cO X W [] []
 |cons {v u l vs}:VR X W v u→cO X W l vs→cO X W (v::l) (u::vs)
end
def Iq(h:Heap)(a:Addr)(m:Str→Option Value)(k:Nat):Prop:=
 ∃o es ep,h.get? a=some o∧o.data=.dict es ep∧StrKeys es∧(∀name,nsFind es name=m name)∧es.size≤k
theorem Iq.ns{h:Heap}{a:Addr}{m:Str→Option Value}{k:Nat}(x:Iq h a m k):h.Ns a m:=by
 obtain⟨o,es,ep,g,d,sk,f,_⟩:=x
 exact⟨o,es,ep,g,d,sk,f⟩
def MR(X:Cx)(W:Wd)(fs:List (Nat×PV))(m:Str→Option Value):Prop:=
 ∀n,n<X.tab.length→match bA n fs with
  |some v=>∃u,m (X.nm n)=some u∧VR X W v u
  |none=>m (X.nm n)=none
inductive DR(X:Cx)(W:Wd):List (Int×PV)→List (Int×Value)→Prop
 |nil:DR X W [] []
 |cons {k v u l vs}:VR X W v u→DR X W l vs→DR X W ((k,v)::l) ((k,u)::vs)
inductive SR(X:Cx)(W:Wd):List (Nat×PV)→List (Str×Value)→Prop
 |nil:SR X W [] []
 |cons {k v u l vs}:k<X.tab.length→VR X W v u→SR X W l vs→SR X W ((k,v)::l) ((X.nm k,u)::vs)
def fw(X:Cx)(W:Wd)(h:Heap)(p:Addr×Addr):aF→Prop
 |.list l=>p.2=p.1∧∃vs n,h.get? p.1=some (lst vs.toArray n)∧cO X W l vs
 |.aW l=>p.2=p.1∧(p.1 == sysModules)=false∧∃kvs,h.DictOf (intKind X.prog X.w) p.1 kvs∧DR X W l kvs
 |.ed l=>p.2=p.1∧(p.1 == sysModules)=false∧∃kvs,h.DictOf (strKind X.prog X.w) p.1 kvs∧SR X W l kvs
 |.inst c fs=>(c∈X.known∧p.1≠p.2)∧h.get? p.1=some (instObj c p.2)∧∃m,Iq h p.2 m fs.length∧MR X W fs m
structure HR(X:Cx)(W:Wd)(H:aa)(h:Heap):Prop where
 len:W.φ.length=H.length
 objs:∀(i:Nat) (p:Addr×Addr) (o:aF),W.φ[i]? =some p→H[i]? =some o→fw X W h p o
 apart:∀(i j:Nat) (p q:Addr×Addr),i≠j→W.φ[i]? =some p→W.φ[j]? =some q→p.1≠q.1∧p.1≠q.2∧p.2≠q.1∧p.2≠q.2
 frozen:∀a o,W.B a=some o→h.get? a=some o
 off:∀p∈W.φ,W.B p.1=none∧W.B p.2=none
 base:∀a o,X.h₀.get? a=some o→W.B a=some o
 ok:X.ok
structure Ext(W:Wd)(h:Heap)(W':Wd):Prop where
 B:∀a o,W.B a=some o→W'.B a=some o
 CY:∀a o,W'.B a=some o→W.B a=some o∨h.get? a=none
 φ:∃ψ,W'.φ=W.φ++ψ∧∀p∈ψ,h.get? p.1=none∧h.get? p.2=none
noncomputable def Fs(l:List Env):List Addr:=l.filterMap (·.frame)
structure Step(l:List Env)(L:Addr)(W:Wd)(h:Heap)(W':Wd)(h':Heap):Prop extends Ext W h W' where
 keep:∀a o,h.get? a=some o→¬Own W a→a≠L→a∉Fs l→h'.get? a=some o
 slots:∀a o,h.get? a=some o→a≠L→a∈Fs l→∃sl,h'.get? a=some {o with slots:=sl}
 live:∀a o,h.get? a=some o→∃o',h'.get? a=some o'
def hF(s s':Shared):Prop:=s'.gens=s.gens∧s'.drawn=s.drawn∧s'.os=s.os
theorem hF.refl(s:Shared):hF s s:=⟨rfl,rfl,rfl⟩
theorem hF.trans{s s' Cc:Shared}(x:hF s s')(y:hF s' Cc):hF s Cc:=⟨y.1.trans x.1,y.2.1.trans x.2.1,y.2.2.trans x.2.2⟩
theorem Own.mono{W W':Wd}{h:Heap}(S:Ext W h W'){a:Addr}(x:Own W a):Own W' a:=by
 obtain⟨ψ,e,_⟩:=S.φ
 obtain⟨p,hp,q⟩:=x
 exact⟨p,by rw[e];exact List.mem_append_left _ hp,q⟩
theorem Ext.own{W W':Wd}{h:Heap}(S:Ext W h W'){a:Addr}{o:Obj}(ha:h.get? a=some o)(x:¬Own W a):¬Own W' a:=by
 obtain⟨ψ,e,hn⟩:=S.φ
 rintro⟨p,hp,q⟩
 rw[e] at hp
 rcases List.mem_append.mp hp with hp|hp
 ·exact x ⟨p,hp,q⟩
 ·have:=hn p hp
  rcases q with rfl|rfl
  ·rw[this.1] at ha;cases ha
  ·rw[this.2] at ha;cases ha
theorem Ext.refl(W:Wd)(h:Heap):Ext W h W:=⟨fun _ _ e=>e,fun _ _ e=>.inl e,⟨[],by simp,fun _ hp=>nomatch hp⟩⟩
theorem Ext.trans{W cA fy:Wd}{h h₁:Heap}(x:Ext W h cA)(live:∀a o,h.get? a=some o→∃o',h₁.get? a=some o')(y:Ext cA h₁ fy):Ext W h fy:=by
 have dead:∀a,h₁.get? a=none→h.get? a=none:=fun a e=>by
  cases q:h.get? a with
  |none=>rfl
  |some o=>obtain⟨o',e'⟩:=live a o q;rw[e] at e';cases e'
 refine⟨fun a o e=>y.B _ _ (x.B _ _ e),fun a o e=> ?_,?_⟩
 ·rcases y.CY a o e with e|e
  ·exact x.CY a o e
  ·exact .inr (dead a e)
 ·obtain⟨ψ,e,n⟩:=x.φ
  obtain⟨Ws,e',n'⟩:=y.φ
  refine⟨ψ++Ws,by rw[e',e,List.append_assoc],fun p hp=> ?_⟩
  rcases List.mem_append.mp hp with hp|hp
  ·exact n p hp
  ·exact⟨dead _ (n' p hp).1,dead _ (n' p hp).2⟩
theorem Step.refl(l:List Env)(L:Addr)(W:Wd)(h:Heap):Step l L W h W h:=⟨.refl W h,fun _ _ e _ _ _=>e,fun _ o e _ _=>⟨o.slots,e⟩,fun _ o e=>⟨o,e⟩⟩
theorem Step.trans{l:List Env}{L:Addr}{W cA fy:Wd}{h h₁ d9:Heap}(x:Step l L W h cA h₁)(y:Step l L cA h₁ fy d9):Step l L W h fy d9:=by
 refine⟨x.toExt.trans x.live y.toExt,fun a o e n l n'=>y.keep _ _ (x.keep a o e n l n') (x.own e n) l n',fun a o e n n'=> ?_,fun a o e=> ?_⟩
 ·obtain⟨sl,e'⟩:=x.slots a o e n n'
  obtain⟨xc,Gm⟩:=y.slots a _ e' n n'
  exact⟨xc,Gm⟩
 ·obtain⟨o',e'⟩:=x.live a o e
  exact y.live a o' e'
theorem Ext.at{W W':Wd}{h:Heap}(S:Ext W h W'){i:Nat}{p:Addr×Addr}(e:W.φ[i]? =some p):W'.φ[i]? =some p:=by
 obtain⟨ψ,q,_⟩:=S.φ
 rw[q,List.getElem?_append_left (List.getElem?_eq_some_iff.mp e).1];exact e
theorem VR.mono{X:Cx}{W W':Wd}{h:Heap}(S:Ext W h W'){v:PV}{u:Value}(x:VR X W v u):VR X W' v u:=
 x.rec (motive_1:=fun v u _=>VR X W' v u) (motive_2:=fun l vs _=>cO X W' l vs) .none .bool .int .str .bytes (fun i p e=>.ref i p (S.at e)) (fun l a o n vs e c d _ r=>.tup l a o n vs (S.B _ _ e) c d r) (fun a o n vs e c d r=>.bG a o n vs (S.B _ _ e) c d r) .nil fun _ _ x r=>.cons x r
section
variable {X:Cx}{W W':Wd}{h:Heap}{l m:List PV}{vs us:List Value}{v:PV}{u:Value}
theorem cO.ind{P:List PV→List Value→Prop}(h0:P [] [])(h1:∀{v u l vs},VR X W v u→cO X W l vs→P l vs→P (v::l) (u::vs))(x:cO X W l vs):P l vs:=
 x.rec (motive_1:=fun _ _ _=>True) (motive_2:=fun l vs _=>P l vs) trivial (fun _=>trivial) (fun _ _=>trivial) (fun _ _=>trivial) (fun _ _=>trivial) (fun _ _ _=>trivial) (fun _ _ _ _ _ _ _ _ _ _=>trivial) (fun _ _ _ _ _ _ _ _=>trivial) h0 fun a b _ ih=>h1 a b ih
theorem cO.mono(S:Ext W h W')(x:cO X W l vs):cO X W' l vs:=x.ind .nil fun a _ ih=>.cons (a.mono S) ih
theorem cO.length(x:cO X W l vs):l.length=vs.length:=x.ind (P:=fun l vs=>l.length=vs.length) rfl fun _ _ ih=>congrArg (· +1) ih
theorem cO.get{i:Nat}(x:cO X W l vs)(e:l[i]? =some v):∃u,vs[i]? =some u∧VR X W v u:=
 x.ind (P:=fun l vs=>∀i,l[i]? =some v→∃u,vs[i]? =some u∧VR X W v u) (fun _ e=>by rw[List.getElem?_nil] at e;cases e) (fun a _ ih i e=>by
  cases i with
  |zero=>obtain rfl:=Option.some.inj e;exact⟨_,rfl,a⟩
  |succ i=>exact ih i e) i e
theorem cO.append(x:cO X W l vs)(y:cO X W m us):cO X W (l++m) (vs++us):=x.ind (P:=fun l vs=>cO X W (l++m) (vs++us)) y fun a _ ih=>.cons a ih
theorem cO.take(n:Nat)(x:cO X W l vs):cO X W (l.take n) (vs.take n):=
 x.ind (P:=fun l vs=>∀n,cO X W (l.take n) (vs.take n)) (fun n=>by rw[List.take_nil,List.take_nil];exact .nil) (fun a _ ih n=>by
  cases n with
  |zero=>exact .nil
  |succ n=>exact .cons a (ih n)) n
theorem cO.drop(n:Nat)(x:cO X W l vs):cO X W (l.drop n) (vs.drop n):=
 x.ind (P:=fun l vs=>∀n,cO X W (l.drop n) (vs.drop n)) (fun n=>by rw[List.drop_nil,List.drop_nil];exact .nil) (fun a b ih n=>by
  cases n with
  |zero=>exact .cons a b
  |succ n=>exact ih n) n
theorem cO.reverse(x:cO X W l vs):cO X W l.reverse vs.reverse:=
 x.ind (P:=fun l vs=>cO X W l.reverse vs.reverse) .nil fun a _ ih=>by rw[List.reverse_cons,List.reverse_cons];exact ih.append (.cons a .nil)
theorem cO.set(i:Nat)(x:cO X W l vs)(y:VR X W v u):cO X W (l.set i v) (vs.set i u):=
 x.ind (P:=fun l vs=>∀i,cO X W (l.set i v) (vs.set i u)) (fun _=>.nil) (fun a b ih i=>by
  cases i with
  |zero=>exact .cons y b
  |succ i=>exact .cons a (ih i)) i
end
theorem MR.mono{X:Cx}{W W':Wd}{h:Heap}(S:Ext W h W'){fs:List (Nat×PV)}{m:Str→Option Value}(x:MR X W fs m):MR X W' fs m:=by
 intro n hn
 have:=x n hn
 split at this
 ·obtain⟨u,e,r⟩:=this;exact⟨u,e,r.mono S⟩
 ·exact this
theorem DR.mono{X:Cx}{W W':Wd}{h:Heap}(S:Ext W h W'){l:List (Int×PV)}{vs:List (Int×Value)}(x:DR X W l vs):DR X W' l vs:=by
 induction x with
 |nil=>exact .nil
 |cons a _ ih=>exact .cons (a.mono S) ih
theorem SR.mono{X:Cx}{W W':Wd}{h:Heap}(S:Ext W h W'){l:List (Nat×PV)}{vs:List (Str×Value)}(x:SR X W l vs):SR X W' l vs:=by
 induction x with
 |nil=>exact .nil
 |cons n a _ ih=>exact .cons n (a.mono S) ih
theorem fw.mono{X:Cx}{W W':Wd}{g h h':Heap}(S:Ext W g W'){p:Addr×Addr}(k1:∀o,h.get? p.1=some o→h'.get? p.1=some o)(k2:∀o,h.get? p.2=some o→h'.get? p.2=some o){o:aF}(x:fw X W h p o):fw X W' h' p o:=by
 revert X W W' g h h' p o
 apply aO;intro
 generalize bL .. =X,bM .. =W,bQ .. =W',bR .. =g
 apply aM;intro
 generalize bI .. =h,bJ .. =h'
 intro S
 apply aI;intro
 generalize nx .. =p
 intro k1 k2
 apply aI;intro
 generalize nx .. =o
 intro x
 cases o with
 |list _=>obtain⟨e,vs,n,q,r⟩:=x;exact⟨e,vs,n,k1 _ q,r.mono S⟩
 |aW _=>obtain⟨e,s,kvs,⟨o,es,ep,z,q⟩,r⟩:=x;exact⟨e,s,kvs,⟨o,es,ep,k1 _ z,q⟩,r.mono S⟩
 |ed _=>obtain⟨e,s,kvs,⟨o,es,ep,z,q⟩,r⟩:=x;exact⟨e,s,kvs,⟨o,es,ep,k1 _ z,q⟩,r.mono S⟩
 |inst _ _=>obtain⟨e,z,m,⟨o,es,ep,z',q⟩,r⟩:=x;exact⟨e,k1 _ z,m,⟨o,es,ep,k2 _ z',q⟩,r.mono S⟩
theorem HR.at{X:Cx}{W:Wd}{H:aa}{h:Heap}(R:HR X W H h){i:Nat}{o:aF}(e:H[i]? =some o):∃p,W.φ[i]? =some p∧fw X W h p o:=by
 have hi:i<W.φ.length:=by rw[R.len];exact(List.getElem?_eq_some_iff.mp e).1
 exact⟨_,List.getElem?_eq_getElem hi,R.objs i _ o (List.getElem?_eq_getElem hi) e⟩
theorem fw.live{X:Cx}{W:Wd}{h:Heap}{p:Addr×Addr}{o:aF}(x:fw X W h p o):(∃o',h.get? p.1=some o')∧∃o',h.get? p.2=some o':=by
 revert X W h p o
 apply aO;intro
 generalize bL .. =X,bM .. =W,bQ .. =h,bR .. =p
 apply aI;intro
 generalize nx .. =o
 intro x
 cases o with
 |list _=>obtain⟨e,vs,n,g,r⟩:=x;rw[e];exact⟨⟨_,g⟩,_,g⟩
 |aW _=>obtain⟨e,_,kvs,⟨o,es,ep,g,_⟩,_⟩:=x;rw[e];exact⟨⟨o,g⟩,o,g⟩
 |ed _=>obtain⟨e,_,kvs,⟨o,es,ep,g,_⟩,_⟩:=x;rw[e];exact⟨⟨o,g⟩,o,g⟩
 |inst _ _=>obtain⟨e,g,m,⟨o,es,ep,g',q⟩,r⟩:=x;exact⟨⟨_,g⟩,_,g'⟩
theorem HR.fe{X:Cx}{W:Wd}{H:aa}{h:Heap}(R:HR X W H h){a:Addr}(x:Own W a):∃o,h.get? a=some o:=by
 obtain⟨p,hp,q⟩:=x
 obtain⟨i,hi,e⟩:=List.mem_iff_getElem.mp hp
 have hH:i<H.length:=by rw[←R.len];exact hi
 have:=(R.objs i p _ (by rw[←e];exact List.getElem?_eq_getElem hi) (List.getElem?_eq_getElem hH)).live
 rcases q with rfl|rfl
 ·exact this.1
 ·exact this.2
theorem HR.yT{X:Cx}{W:Wd}{H:aa}{h:Heap}(R:HR X W H h):X.K.In h:=(X.X R.ok).keeps fun a o e=>R.frozen _ _ (R.base _ _ e)
theorem HR.keep{X:Cx}{W:Wd}{H:aa}{h:Heap}(R:HR X W H h):∀a o,X.h₀.get? a=some o→h.get? a=some o:=fun a o e=>R.frozen _ _ (R.base _ _ e)
theorem HR.dE{X:Cx}{W:Wd}{H:aa}{h:Heap}(R:HR X W H h){a:Addr}{o:Obj}(e:W.B a=some o):¬Own W a:=by
 rintro⟨p,hp,q⟩
 have:=R.off p hp
 rcases q with rfl|rfl
 ·rw[this.1] at e;cases e
 ·rw[this.2] at e;cases e
def j5(W:Wd)(h:Heap)(l:List Env):Prop:=
 ∀e∈l,e.scope.kind≠.module∧∃L o,e.frame=some L∧W.B L=none∧¬Own W L∧h.get? L=some o∧∀vs,o.data≠.fields vs
structure St(X:Cx)(l:List Env)(W:Wd)(H:aa)(L:Addr)(m:Str→Option Value)(s:Shared):Prop where
 F:Fr X.h₀ L s.heap m
 R:HR X W H s.heap
 dE:W.B L=none
 dT:¬Own W L
 fr:j5 W s.heap l
theorem Fr.live{h₀ h:Heap}{L:Addr}{m:Str→Option Value}(F:Fr h₀ L h m):∃o,h.get? L=some o:=by
 obtain⟨o,_,_,e,_⟩:=F.ns;exact⟨o,e⟩
theorem Ext.dE{W W':Wd}{h:Heap}(S:Ext W h W'){a:Addr}{o:Obj}(e:h.get? a=some o)(n:W.B a=none):W'.B a=none:=by
 cases q:W'.B a with
 |none=>rfl
 |some o'=>
  rcases S.CY a o' q with q'|q'
  ·rw[n] at q';cases q'
  ·rw[e] at q';cases q'
theorem St.next{X:Cx}{l:List Env}{W W':Wd}{H H':aa}{L:Addr}{m m':Str→Option Value}{s s':Shared}(x:St X l W H L m s)(S:Step l L W s.heap W' s'.heap)(F:Fr X.h₀ L s'.heap m')(R:HR X W' H' s'.heap):St X l W' H' L m' s':=by
 obtain⟨o,e⟩:=Fr.live x.F
 refine⟨F,R,S.dE e x.dE,S.own e x.dT,fun en he=> ?_⟩
 obtain⟨hk,L',o',h1,h2,h3,h4,h5⟩:=x.fr en he
 refine⟨hk,L',?_⟩
 by_cases q:L'=L
 ·subst q
  obtain⟨o2,es,ep,g,d,_⟩:=F.ns
  exact⟨o2,h1,S.dE h4 h2,S.own h4 h3,g,fun vs z=>by rw[d] at z;cases z⟩
 ·obtain⟨sl,g⟩:=S.slots L' o' h4 q (List.mem_filterMap.mpr ⟨en,he,h1⟩)
  exact⟨_,h1,S.dE h4 h2,S.own h4 h3,g,h5⟩
end
section
open PyProof.Rows PySem.Calls PySem.W
set_option backward.match.sparseCases false
section
variable {X:Cx}{W W':Wd}{H H':aa}{h h':Heap}{l:List Env}{L:Addr}{m m':Str→Option Value}{s s':Shared}
theorem HR.iF(R:HR X W H h)(dE:W.B L=none)(dT:¬Own W L)(hk:∀a o,h.get? a=some o→a≠L→h'.get? a=some o):HR X W H h':=by
 refine⟨R.len,fun i p o e e'=> ?_,R.apart,fun a o e=>hk a o (R.frozen a o e) (by rintro rfl;rw[dE] at e;cases e),R.off,R.base,R.ok⟩
 have hp:p∈W.φ:=List.mem_of_getElem? e
 have n1:p.1≠L:=by rintro rfl;exact dT ⟨p,hp,.inl rfl⟩
 have n2:p.2≠L:=by rintro rfl;exact dT ⟨p,hp,.inr rfl⟩
 exact(R.objs i p o e e').mono (Ext.refl W h) (fun o q=>hk _ _ q n1) (fun o q=>hk _ _ q n2)
theorem Step.but(l:List Env)(W:Wd)(hk:∀a o,h.get? a=some o→a≠L→h'.get? a=some o)(hl:∃o,h'.get? L=some o):Step l L W h W h':=
 ⟨.refl W h,fun a o e _ n _=>hk a o e n,fun a o e n _=>⟨o.slots,hk a o e n⟩,fun a o e=>by
  by_cases q:a=L
  ·subst q;exact hl
  ·exact⟨o,hk a o e q⟩⟩
theorem HR.kept(R:HR X W H h)(hk:∀a o,h.get? a=some o→h'.get? a=some o):HR X W H h':=by
 refine⟨R.len,fun i p o e e'=> ?_,R.apart,fun a o e=>hk a o (R.frozen a o e),R.off,R.base,R.ok⟩
 exact(R.objs i p o e e').mono (Ext.refl W h) (fun o q=>hk _ _ q) (fun o q=>hk _ _ q)
theorem Step.iF(l:List Env)(E:Ext W h W')(hk:∀a o,h.get? a=some o→a≠L→h'.get? a=some o)(hl:∃o,h'.get? L=some o):Step l L W h W' h':=
 ⟨E,fun a o e _ n _=>hk a o e n,fun a o e n _=>⟨o.slots,hk a o e n⟩,fun a o e=>by
  by_cases q:a=L
  ·subst q;exact hl
  ·exact⟨o,hk a o e q⟩⟩
noncomputable def Wd.add(W:Wd)(p:Addr×Addr):Wd:=⟨W.B,W.φ++[p]⟩
noncomputable def Wd.freeze(W:Wd)(a:Addr)(o:Obj):Wd:=⟨fun b=>if b=a then some o else W.B b,W.φ⟩
theorem Ext.add(W:Wd){p:Addr×Addr}(d1:h.get? p.1=none)(d2:h.get? p.2=none):Ext W h (W.add p):=
 ⟨fun _ _ e=>e,fun _ _ e=>.inl e,⟨[p],rfl,fun q hq=>by rw[List.mem_singleton.mp hq];exact⟨d1,d2⟩⟩⟩
theorem HR.zz(R:HR X W H h){p:Addr×Addr}{o:aF}(dE:W.B L=none)(dT:¬Own W L)(hk:∀a o,h.get? a=some o→a≠L→h'.get? a=some o)(d1:h.get? p.1=none)(d2:h.get? p.2=none)
  (ho:fw X (W.add p) h' p o):HR X (W.add p) (H++[o]) h':=by
 revert X W H h h' L p o
 apply aO;intro
 generalize bL .. =X,bM .. =W,bQ .. =H,bR .. =h
 apply aM;intro
 generalize bI .. =h',bJ .. =L
 intro R
 apply aM;intro
 generalize bI .. =p,bJ .. =o
 intro dE dT hk d1 d2 ho
 have S:=Ext.add W d1 d2
 have old:∀i q,(W.add p).φ[i]? =some q→(i<W.φ.length∧W.φ[i]? =some q)∨(i=W.φ.length∧q=p):=fun i q e=>by
  have e:(W.φ++[p])[i]? =some q:=e
  rcases Nat.lt_or_ge i W.φ.length with l|l
  ·rw[List.getElem?_append_left l] at e;exact .inl ⟨l,e⟩
  ·rw[List.getElem?_append_right l] at e
   have l2:=(List.getElem?_eq_some_iff.mp e).1
   have:i - W.φ.length=0:=by simp at l2;exact l2
   rw[this] at e
   exact .inr ⟨by exact PJ l this,by simpa using e.symm⟩
 have j6:∀(i:Nat) (q:Addr×Addr),W.φ[i]? =some q→q.1≠p.1∧q.1≠p.2∧q.2≠p.1∧q.2≠p.2:=fun i q e=>by
  have hq:q∈W.φ:=List.mem_of_getElem? e
  obtain⟨o1,e1⟩:=R.fe ⟨q,hq,.inl rfl⟩
  obtain⟨o2,e2⟩:=R.fe ⟨q,hq,.inr rfl⟩
  refine⟨?_,?_,?_,?_⟩<;>intro z
  ·rw[z,d1] at e1;cases e1
  ·rw[z,d2] at e1;cases e1
  ·rw[z,d1] at e2;cases e2
  ·rw[z,d2] at e2;cases e2
 refine⟨by show(W.φ++[p]).length=_;rw[List.length_append,List.length_append,R.len];rfl,?_,?_,fun a o e=>hk a o (R.frozen a o e) (by rintro rfl;have e:W.B a=some o:=e;rw[dE] at e;cases e),fun q hq=> ?_,R.base,R.ok⟩
 ·apply aM;intro
  generalize bI .. =i,bJ .. =q
  apply aI;intro
  generalize nx .. =o'
  intro e e'
  rcases old i q e with⟨l,e⟩|⟨l,rfl⟩
  ·rw[List.getElem?_append_left (by rw[←R.len];exact l)] at e'
   have hq:q∈W.φ:=List.mem_of_getElem? e
   exact(R.objs i q o' e e').mono S (fun o z=>hk _ _ z (by rintro rfl;exact dT ⟨q,hq,.inl rfl⟩)) (fun o z=>hk _ _ z (by rintro rfl;exact dT ⟨q,hq,.inr rfl⟩))
  ·rw[List.getElem?_append_right (by rw[←R.len,l];exact Nat.le_refl _),l,R.len,Nat.sub_self] at e'
   cases e'
   exact ho
 ·apply aO;intro
  generalize bL .. =i,bM .. =j,bQ .. =q,bR .. =r
  intro Mo e e'
  rcases old i q e with⟨l,e1⟩|⟨l,e1⟩<;>rcases old j r e' with⟨l',e2⟩|⟨l',e2⟩
  ·exact R.apart i j q r Mo e1 e2
  ·rw[e2];exact j6 i q e1
  ·have:=j6 j r e2
   rw[e1]
   exact⟨fun z=>this.1 z.symm,fun z=>this.2.2.1 z.symm,fun z=>this.2.1 z.symm,fun z=>this.2.2.2 z.symm⟩
  ·exact absurd (l.trans l'.symm) Mo
 ·have hq:q∈W.φ++[p]:=hq
  rcases List.mem_append.mp hq with hq|hq
  ·exact R.off q hq
  ·rw[List.mem_singleton.mp hq]
   constructor
   ·cases z:W.B p.1 with
    |none=>exact z
    |some o'=>have:=R.frozen _ _ z;rw[d1] at this;cases this
   ·cases z:W.B p.2 with
    |none=>exact z
    |some o'=>have:=R.frozen _ _ z;rw[d2] at this;cases this
theorem Wd.sX(W:Wd)(p:Addr×Addr):(W.add p).φ[W.φ.length]? =some p:=by
 show(W.φ++[p])[W.φ.length]? =some p
 rw[List.getElem?_append_right (Nat.le_refl _),Nat.sub_self];rfl
theorem Ext.freeze(W:Wd){a:Addr}{o:Obj}(d:h.get? a=none)(dB:W.B a=none):Ext W h (W.freeze a o):=
 ⟨fun b o' e=>by show(if b=a then _ else _)=_;rw[if_neg (by rintro rfl;rw[dB] at e;cases e)];exact e,fun b o' e=>by
  by_cases q:b=a
  ·exact .inr (q▸d)
  ·have e:(if b=a then some o else W.B b)=some o':=e
   rw[if_neg q] at e;exact .inl e,⟨[],by simp[Wd.freeze],fun _ hp=>nomatch hp⟩⟩
theorem HR.dead(R:HR X W H h){a:Addr}(d:h.get? a=none):W.B a=none:=by
 cases z:W.B a with
 |none=>rfl
 |some o=>have:=R.frozen _ _ z;rw[d] at this;cases this
theorem HR.xd(R:HR X W H h){a:Addr}{o:Obj}(dE:W.B L=none)(dT:¬Own W L)(hk:∀a o,h.get? a=some o→a≠L→h'.get? a=some o)(d:h.get? a=none)(ha:h'.get? a=some o):HR X (W.freeze a o) H h':=by
 have S:=Ext.freeze W (o:=o) d (R.dead d)
 refine⟨R.len,fun i p o e e'=>have hp:p∈W.φ:=List.mem_of_getElem? e;(R.objs i p o e e').mono S (fun o z=>hk _ _ z (by rintro rfl;exact dT ⟨p,hp,.inl rfl⟩)) (fun o z=>hk _ _ z (by rintro rfl;exact dT ⟨p,hp,.inr rfl⟩)),R.apart,fun b o' e=> ?_,fun p hp=> ?_,fun b o' e=>S.B _ _ (R.base _ _ e),R.ok⟩
 ·have e:(if b=a then some o else W.B b)=some o':=e
  by_cases q:b=a
  ·rw[if_pos q] at e;cases e;rw[q];exact ha
  ·rw[if_neg q] at e;exact hk _ _ (R.frozen _ _ e) (by rintro rfl;rw[dE] at e;cases e)
 ·have z:∀x,W.B x=none→Own W x→(W.freeze a o).B x=none:=fun x hx ox=>by
   show(if x=a then _ else _)=none
   rw[if_neg (by rintro rfl;obtain⟨o',e⟩:=R.fe ox;rw[d] at e;cases e)];exact hx
  exact⟨z _ (R.off p hp).1 ⟨p,hp,.inl rfl⟩,z _ (R.off p hp).2 ⟨p,hp,.inr rfl⟩⟩
theorem Wd.iG(W:Wd)(a:Addr)(o:Obj):(W.freeze a o).B a=some o:=by show(if a=a then _ else _)=_;rw[if_pos rfl]
theorem Step.mC{i:Nat}{p:Addr×Addr}{l:List Env}(fr:j5 W h l)(e:W.φ[i]? =some p)(hk:∀a o,h.get? a=some o→a≠L→a≠p.1→a≠p.2→h'.get? a=some o)(hl:∃o,h'.get? L=some o)(l1:∃o,h'.get? p.1=some o)(l2:∃o,h'.get? p.2=some o):Step l L W h W h':=by
 have hp:p∈W.φ:=List.mem_of_getElem? e
 have nn:∀a,¬Own W a→a≠p.1∧a≠p.2:=fun a n=>⟨by rintro rfl;exact n ⟨p,hp,.inl rfl⟩,by rintro rfl;exact n ⟨p,hp,.inr rfl⟩⟩
 refine⟨.refl W h,fun a o e n nl _=>hk a o e nl (nn a n).1 (nn a n).2,fun a o e nl hm=> ?_,fun a o e=> ?_⟩
 ·obtain⟨en,he,hf⟩:=List.mem_filterMap.mp hm
  obtain⟨_,L',o',h1,h2,h3,h4,h5⟩:=fr en he
  rw[hf] at h1;cases h1
  exact⟨o.slots,hk a o e nl (nn a h3).1 (nn a h3).2⟩
 by_cases q1:a=p.1
 ·subst q1;exact l1
 by_cases q2:a=p.2
 ·subst q2;exact l2
 by_cases q3:a=L
 ·subst q3;exact hl
 exact⟨o,hk a o e q3 q1 q2⟩
theorem HR.mC{i:Nat}{p:Addr×Addr}{o':aF}(R:HR X W H h)(e:W.φ[i]? =some p)(dE:W.B L=none)(dT:¬Own W L)(hk:∀a o,h.get? a=some o→a≠L→a≠p.1→a≠p.2→h'.get? a=some o)(ho:fw X W h' p o'):HR X W (H.set i o') h':=by
 have hp:p∈W.φ:=List.mem_of_getElem? e
 refine⟨by rw[List.length_set];exact R.len,fun j q o e1 e2=> ?_,R.apart,fun a o e1=>hk a o (R.frozen a o e1) (by rintro rfl;rw[dE] at e1;cases e1) ?_ ?_,R.off,R.base,R.ok⟩
 ·by_cases z:i=j
  ·subst z
   rw[e] at e1;cases e1
   have hl:i<H.length:=by rw[←R.len];exact(List.getElem?_eq_some_iff.mp e).1
   rw[List.getElem?_set_self hl] at e2
   cases e2;exact ho
  ·rw[List.getElem?_set_ne z] at e2
   have hq:q∈W.φ:=List.mem_of_getElem? e1
   have A:=R.apart i j p q z e e1
   exact(R.objs j q o e1 e2).mono (Ext.refl W h) (fun o x=>hk _ _ x (by rintro rfl;exact dT ⟨q,hq,.inl rfl⟩) (fun y=>A.1 y.symm) (fun y=>A.2.2.1 y.symm)) (fun o x=>hk _ _ x (by rintro rfl;exact dT ⟨q,hq,.inr rfl⟩) (fun y=>A.2.1 y.symm) (fun y=>A.2.2.2 y.symm))
 ·rintro rfl;rw[(R.off p hp).1] at e1;cases e1
 ·rintro rfl;rw[(R.off p hp).2] at e1;cases e1
theorem Fr.eG{h₀:Heap}(F:Fr h₀ L h m)(hk:∀a o,h.get? a=some o→h'.get? a=some o):Fr h₀ L h' m:=⟨F.ns.keeps hk,fun b o e=>hk _ _ (F.keep b o e),F.above⟩
theorem Fr.write{i:Nat}{p:Addr×Addr}(x:St X l W H L m s)(e:W.φ[i]? =some p)(hk:∀a o,s.heap.get? a=some o→a≠p.1→a≠p.2→h'.get? a=some o):Fr X.h₀ L h' m:=by
 have hp:p∈W.φ:=List.mem_of_getElem? e
 have nn:∀a,¬Own W a→a≠p.1∧a≠p.2:=fun a n=>⟨by rintro rfl;exact n ⟨p,hp,.inl rfl⟩,by rintro rfl;exact n ⟨p,hp,.inr rfl⟩⟩
 obtain⟨o,es,ep,g,r⟩:=x.F.ns
 refine⟨⟨o,es,ep,hk _ _ g (nn _ x.dT).1 (nn _ x.dT).2,r⟩,fun b ob eb=> ?_,x.F.above⟩
 have n:=nn _ (x.R.dE (x.R.base _ _ eb))
 exact hk _ _ (x.F.keep b ob eb) n.1 n.2
noncomputable def CZ(h₀ h:Heap)(L:Addr)(as:List Addr):List (Addr×Obj):=
 (List.range h.objs.size).filterMap fun a=>if a=L∨a∈as∨(h₀.get? a).isSome=true then none else(h.get? a).map fun o=>(a,o)
theorem mD{h₀ h:Heap}{as:List Addr}{a:Addr}{o:Obj}:(a,o)∈CZ h₀ h L as↔h.get? a=some o∧a≠L∧a∉as∧h₀.get? a=none:=by
 revert L h₀ h as a o
 apply aO;intro
 generalize bL .. =L,bM .. =h₀,bQ .. =h,bR .. =as
 apply aM;intro
 generalize bI .. =a,bJ .. =o
 unfold CZ
 rw[List.mem_filterMap]
 constructor
 ·rintro⟨b,_,e⟩
  split at e
  ·cases e
  ·rename_i q
   obtain⟨o',e1,e2⟩:=Option.map_eq_some_iff.mp e
   cases e2
   simp only[not_or] at q
   exact⟨e1,q.1,q.2.1,by have:=q.2.2;revert this;cases h₀.get? _<;>simp⟩
 ·rintro⟨e,n1,n2,n3⟩
  refine⟨a,List.mem_range.mpr (Heap.lt_size e),?_⟩
  rw[if_neg (by rw[n3];simp[n1,n2]),e];rfl
theorem gi(h₀ h:Heap)(L:Addr)(as:List Addr):News h₀ L h (CZ h₀ h L as):=fun p hp=>by
 obtain⟨a,o⟩:=p
 have:=mD.mp hp
 exact⟨this.1,this.2.1,this.2.2.2⟩
theorem gj{h₀:Heap}{as:List Addr}(F:Fr h₀ L h m)(F':Fr h₀ L h' m')(N:∀p∈CZ h₀ h L as,h'.get? p.1=some p.2):∀a o,h.get? a=some o→a≠L→a∉as→h'.get? a=some o:=fun a o e n1 n2=>by
 cases q:h₀.get? a with
 |none=>exact N (a,o) (mD.mpr ⟨e,n1,n2,q⟩)
 |some o'=>
  have:=F.keep a o' q
  rw[e] at this;cases this
  exact F'.keep a o q
end
end
section
open PyProof.Rows PySem.Calls PySem.W
set_option backward.match.sparseCases false
set_option genInjectivity false
def zA(X:Cx)(k:XK)(base:Heap)(l:List Env)(e:Addr)(h:Heap):Prop:=match k with
 |.made=>∀env outer,l=env::outer→∀(A:Around) (Q:Unit→Shared→Prop) (E:Value→Shared→Prop) (s':Shared),s'.heap=h→A.frames=some l→
   (∀Mp a0,Heap.FlyingW base outer e (.ref X.bad) a0 Mp→h.UpToSlots Mp→Q () {s' with heap:=Mp})→wpAny X.M A (leaving env (.ref e)) Q E s'
 |.flying=>∃a0,Heap.FlyingW base l e (.ref X.bad) a0 h
 |.held=>∃a0 L env outer,l=env::outer∧env.frame=some L∧Heap.HeldW base l e (.ref X.bad) a0 L h
structure Flew(X:Cx)(l:List Env)(L:Addr)(W:Wd)(h:Heap)(k:XK)(H':aa)(e:Addr)(W':Wd)(base h':Heap):Prop extends Ext W h W' where
 R:HR X W' H' base
 j7:zA X k base l e h'
 keep:∀a o,h.get? a=some o→¬Own W a→a≠L→a∉Fs l→base.get? a=some o
 slots:∀a o,h.get? a=some o→a≠L→a∈Fs l→∃sl,h'.get? a=some {o with slots:=sl}
theorem Flew.C0{X:Cx}{l:List Env}{L:Addr}{W cA W':Wd}{h h₁ base h':Heap}{k:XK}{H':aa}{e:Addr}(S:Step l L W h cA h₁)(x:Flew X l L cA h₁ k H' e W' base h'):Flew X l L W h k H' e W' base h':=by
 refine⟨S.toExt.trans S.live x.toExt,x.R,x.j7,fun a o e n n1 n2=>x.keep a o (S.keep a o e n n1 n2) (S.own e n) n1 n2,fun a o e n1 n2=> ?_⟩
 obtain⟨sl,e'⟩:=S.slots a o e n1 n2
 obtain⟨xc,Gm⟩:=x.slots a _ e' n1 n2
 exact⟨xc,Gm⟩
structure EnvOk(env:Env):Prop where
 kind:env.scope.kind=.function
 globals:env.globals=mainGlobals
 builtins:env.builtins=builtinsNs
def qT(W:Wd)(env:Env)(m:Str→Option Value)(x:Str)(u:Value):Prop:=
 (env.kindOf x=some .local∧m x=some u)∨
 ∃ca o,(env.kindOf x=some .cell∨env.kindOf x=some .free)∧env.cells.lookup x=some ca∧W.B ca=some o∧o.data=.cell (some u)
noncomputable abbrev Nu:=List (Str×Nat)
def ju(X:Cx)(W:Wd)(env:Env)(ν:Nu)(m:Str→Option Value)(loc:Loc):Prop:=
 ∀x i v,ν.lookup x=some i→loc[i]? =some (some v)→∃u,qT W env m x u∧VR X W v u
theorem qT.mono{W W':Wd}{h:Heap}(S:Ext W h W'){env:Env}{m:Str→Option Value}{x:Str}{u:Value}:qT W env m x u→qT W' env m x u:=
 Or.imp id fun h=>h.imp fun _ h=>h.imp fun _ h=>⟨h.1,h.2.1,S.B _ _ h.2.2.1,h.2.2.2⟩
theorem ju.mono{X:Cx}{W W':Wd}{h:Heap}(S:Ext W h W'){env:Env}{ν:Nu}{m:Str→Option Value}{loc:Loc}(x:ju X W env ν m loc):ju X W' env ν m loc:=fun y i v e e'=>
 let⟨u,a,b⟩:=x y i v e e'
 ⟨u,a.mono S,b.mono S⟩
structure zB(A:Around)(l:List Env)(n:Nat):Prop where
 handled:A.handled=none
 frames:A.frames=some l
 depth:A.depth+4 * n+4≤900
 units:A.units+20 * n+20≤9000
structure Pt where
 s:Shared
 W:Wd
 H:aa
instance:Nonempty Pt:=⟨⟨{},⟨fun _=>none,[]⟩,[]⟩⟩
structure Le(l:List Env)(L:Addr)(σ bo:Pt):Prop where
 step:Step l L σ.W σ.s.heap bo.W bo.s.heap
 same:hF σ.s bo.s
theorem Le.refl{l:List Env}{L:Addr}(σ:Pt):Le l L σ σ:=⟨.refl ..,.refl _⟩
theorem Le.trans{l:List Env}{L:Addr}{σ ae ao:Pt}(x:Le l L σ ae)(y:Le l L ae ao):Le l L σ ao:=⟨x.step.trans y.step,x.same.trans y.same⟩
theorem Le.ext{l:List Env}{L:Addr}{σ ae:Pt}(x:Le l L σ ae):Ext σ.W σ.s.heap ae.W:=x.step.toExt
structure Ct(X:Cx)(n:Nat)(env:Env)(ν:Nu) where
 A:Around
 l:List Env
 B:Pt
 E:EL
 Ψ:Value→Shared→Prop
 ok:Prop
 ak:ok→zB A l n
 fr:ok→j5 B.W B.s.heap l
 bad:ok→∀k m loc H' e W' base s',Flew X l env.locals B.W B.s.heap k H' e W' base s'.heap→Fr X.h₀ env.locals s'.heap m→ju X W' env ν m loc→hF B.s s'→E k loc H'→Ψ (.ref e) s'
instance {X:Cx}{n:Nat}{env:Env}{ν:Nu}:Nonempty (Ct X n env ν):=⟨⟨{},[],⟨{},⟨fun _=>none,[]⟩,[]⟩,fun _ _ _=>True,fun _ _=>True,False,False.elim,False.elim,False.elim⟩⟩
structure Here{X:Cx}{n:Nat}{env:Env}{ν:Nu}(C:Ct X n env ν)(m:Str→Option Value)(loc:Loc)(σ:Pt):Prop where
 st:St X C.l σ.W σ.H env.locals m σ.s
 lr:ju X σ.W env ν m loc
 le:Le C.l env.locals C.B σ
 ok:C.ok
section
variable {α β:Type}{X:Cx}{P:ef}{n:Nat}{env:Env}{ν:Nu}{C:Ct X n env ν}{m:Str→Option Value}{loc:Loc}{σ ae bo:Pt}
def Good(C:Ct X n env ν)(m:Str→Option Value)(loc:Loc)(σ:Pt)(Rel:Wd→α→β→Prop)(R:α→aa→Prop)(Φ:β→Shared→Prop):Prop:=
 ∀v u bo,Here C m loc bo→Le C.l env.locals σ bo→Rel bo.W v u→R v bo.H→Φ u bo.s
variable {Rel:Wd→α→β→Prop}{R:α→aa→Prop}{Φ:β→Shared→Prop}
theorem Good.le(k:Good C m loc σ Rel R Φ)(x:Le C.l env.locals σ ae):Good C m loc ae Rel R Φ:=fun v u bo hr y r h=>k v u bo hr (x.trans y) r h
theorem Here.go(hr:Here C m loc σ)(x:Le C.l env.locals σ bo)(st:St X C.l bo.W bo.H env.locals m bo.s):Here C m loc bo:=⟨st,hr.lr.mono x.ext,hr.le.trans x,hr.ok⟩
theorem Here.rel(hr:Here C m loc σ):HR X σ.W σ.H σ.s.heap:=hr.st.R
theorem Ct.raise(hr:Here C m loc σ){k:XK}{H':aa}{e:Addr}{W':Wd}{base:Heap}{s':Shared}(fl:Flew X C.l env.locals σ.W σ.s.heap k H' e W' base s'.heap)(F:Fr X.h₀ env.locals s'.heap m)(q:hF σ.s s')(h:C.E k loc H'):C.Ψ (.ref e) s':=
 C.bad hr.ok k m loc H' e W' base s' (fl.C0 hr.le.step) F (hr.lr.mono fl.toExt) (hr.le.same.trans q) h
theorem VR.up{v:PV}{u:Value}(x:VR X σ.W v u){l:List Env}{L:Addr}(y:Le l L σ ae):VR X ae.W v u:=x.mono y.ext
theorem Here.eG(hr:Here C m loc σ){h':Heap}{tk:Nat}(hk:∀a o,σ.s.heap.get? a=some o→a≠env.locals→h'.get? a=some o)(F':Fr X.h₀ env.locals h' m):
  Here C m loc ⟨{σ.s with heap:=h',toks:=tk},σ.W,σ.H⟩∧Le C.l env.locals σ ⟨{σ.s with heap:=h',toks:=tk},σ.W,σ.H⟩:=by
 have S:Step C.l env.locals σ.W σ.s.heap σ.W h':=Step.iF C.l (.refl σ.W σ.s.heap) hk (Fr.live F')
 have x:Le C.l env.locals σ ⟨{σ.s with heap:=h',toks:=tk},σ.W,σ.H⟩:=⟨S,rfl,rfl,rfl⟩
 exact⟨hr.go x (hr.st.next (s':={σ.s with heap:=h',toks:=tk}) S F' (hr.rel.iF hr.st.dE hr.st.dT hk)),x⟩
theorem Here.Q8(hr:Here C m loc σ){p:Addr×Addr}{o:aF}{h':Heap}{tk:Nat}(hk:∀a o,σ.s.heap.get? a=some o→a≠env.locals→h'.get? a=some o)(F':Fr X.h₀ env.locals h' m)(d1:σ.s.heap.get? p.1=none)(d2:σ.s.heap.get? p.2=none)
  (ho:fw X (σ.W.add p) h' p o):Here C m loc ⟨{σ.s with heap:=h',toks:=tk},σ.W.add p,σ.H++[o]⟩∧Le C.l env.locals σ ⟨{σ.s with heap:=h',toks:=tk},σ.W.add p,σ.H++[o]⟩∧VR X (σ.W.add p) (.ref σ.H.length) (.ref p.1):=by
 have S:Step C.l env.locals σ.W σ.s.heap (σ.W.add p) h':=Step.iF C.l (.add σ.W d1 d2) hk (Fr.live F')
 have x:Le C.l env.locals σ ⟨{σ.s with heap:=h',toks:=tk},σ.W.add p,σ.H++[o]⟩:=⟨S,rfl,rfl,rfl⟩
 exact⟨hr.go x (hr.st.next (s':={σ.s with heap:=h',toks:=tk}) S F' (hr.rel.zz hr.st.dE hr.st.dT hk d1 d2 ho)),x,by rw[←hr.rel.len];exact .ref _ p (σ.W.sX p)⟩
theorem Here.C1(hr:Here C m loc σ){a:Addr}{o:Obj}{h':Heap}{tk:Nat}(hk:∀a o,σ.s.heap.get? a=some o→a≠env.locals→h'.get? a=some o)(F':Fr X.h₀ env.locals h' m)(d:σ.s.heap.get? a=none)(ha:h'.get? a=some o):
  Here C m loc ⟨{σ.s with heap:=h',toks:=tk},σ.W.freeze a o,σ.H⟩∧Le C.l env.locals σ ⟨{σ.s with heap:=h',toks:=tk},σ.W.freeze a o,σ.H⟩:=by
 have S:Step C.l env.locals σ.W σ.s.heap (σ.W.freeze a o) h':=Step.iF C.l (Ext.freeze σ.W (o:=o) d (hr.rel.dead d)) hk (Fr.live F')
 have x:Le C.l env.locals σ ⟨{σ.s with heap:=h',toks:=tk},σ.W.freeze a o,σ.H⟩:=⟨S,rfl,rfl,rfl⟩
 exact⟨hr.go x (hr.st.next (s':={σ.s with heap:=h',toks:=tk}) S F' (hr.rel.xd hr.st.dE hr.st.dT hk d ha)),x⟩
theorem Here.write(hr:Here C m loc σ){i:Nat}{p:Addr×Addr}{o:aF}{h':Heap}{tk:Nat}(e:σ.W.φ[i]? =some p)(hk:∀a o,σ.s.heap.get? a=some o→a≠p.1→a≠p.2→h'.get? a=some o)(ho:fw X σ.W h' p o):
  Here C m loc ⟨{σ.s with heap:=h',toks:=tk},σ.W,σ.H.set i o⟩∧Le C.l env.locals σ ⟨{σ.s with heap:=h',toks:=tk},σ.W,σ.H.set i o⟩:=by
 have sJ:∀a o,σ.s.heap.get? a=some o→a≠env.locals→a≠p.1→a≠p.2→h'.get? a=some o:=fun a o e _ n1 n2=>hk a o e n1 n2
 have F':Fr X.h₀ env.locals h' m:=Fr.write hr.st e hk
 have S:Step C.l env.locals σ.W σ.s.heap σ.W h':=Step.mC hr.st.fr e sJ (Fr.live F') ho.live.1 ho.live.2
 have x:Le C.l env.locals σ ⟨{σ.s with heap:=h',toks:=tk},σ.W,σ.H.set i o⟩:=⟨S,rfl,rfl,rfl⟩
 exact⟨hr.go x (hr.st.next (s':={σ.s with heap:=h',toks:=tk}) S F' (hr.rel.mC e hr.st.dE hr.st.dT sJ ho)),x⟩
theorem gE{v:α}{u:β}(k:Good C m loc σ Rel R Φ)(hr:Here C m loc σ)(h:R v σ.H)(r:Rel σ.W v u):Φ u σ.s:=k v u σ hr (.refl σ) r h
theorem Here.toks(hr:Here C m loc σ){tk:Nat}:Here C m loc ⟨{σ.s with toks:=tk},σ.W,σ.H⟩∧Le C.l env.locals σ ⟨{σ.s with toks:=tk},σ.W,σ.H⟩:=hr.eG (fun _ _ e _=>e) hr.st.F
theorem cL{v:α}{u:β}{tk:Nat}(k:Good C m loc σ Rel R Φ)(hr:Here C m loc σ)(h:R v σ.H)(r:Rel σ.W v u):Φ u {σ.s with toks:=tk}:=k v u ⟨{σ.s with toks:=tk},σ.W,σ.H⟩ hr.toks.1 hr.toks.2 r h
theorem jv{v:α}{u:β}{h':Heap}{tk:Nat}(k:Good C m loc σ Rel R Φ)(hr:Here C m loc σ)(h:R v σ.H)(r:Rel σ.W v u)(hk:∀a o,σ.s.heap.get? a=some o→a≠env.locals→h'.get? a=some o)(F':Fr X.h₀ env.locals h' m):Φ u {σ.s with heap:=h',toks:=tk}:=
 have z:=hr.eG (tk:=tk) hk F'
 k v u _ z.1 z.2 r h
theorem zC{R:PV→aa→Prop}{Φ:Value→Shared→Prop}{p:Addr×Addr}{o:aF}{h':Heap}{tk:Nat}(k:Good C m loc σ (VR X) R Φ)(hr:Here C m loc σ)(h:R (.ref σ.H.length) (σ.H++[o]))(hk:∀a o,σ.s.heap.get? a=some o→a≠env.locals→h'.get? a=some o)(F':Fr X.h₀ env.locals h' m)(d1:σ.s.heap.get? p.1=none)(d2:σ.s.heap.get? p.2=none)
  (ho:fw X (σ.W.add p) h' p o):Φ (.ref p.1) {σ.s with heap:=h',toks:=tk}:=
 have z:=hr.Q8 (tk:=tk) hk F' d1 d2 ho
 k _ _ _ z.1 z.2.1 z.2.2 h
theorem uY{R:PV→aa→Prop}{Φ:Value→Shared→Prop}{p:Addr×Addr}{o:aF}{h':Heap}{tk:Nat}{u:Value}(k:Good C m loc σ (VR X) R Φ)(hr:Here C m loc σ)(h:R (.ref σ.H.length) (σ.H++[o]))(hk:∀a o,σ.s.heap.get? a=some o→h'.get? a=some o)(d1:σ.s.heap.get? p.1=none)(d2:σ.s.heap.get? p.2=none)
  (ho:fw X (σ.W.add p) h' p o) (hu:u=.ref p.1):Φ u {σ.s with heap:=h',toks:=tk}:=by
 subst hu;exact zC k hr h (fun a o e _=>hk a o e) (Fr.eG hr.st.F hk) d1 d2 ho
theorem oP{R:PV→aa→Prop}{Φ:Value→Shared→Prop}{a:Addr}{o:Obj}{c:Nat}{vs:List Value}{ls:List PV}{h':Heap}{tk:Nat}(k:Good C m loc σ (VR X) R Φ)(hr:Here C m loc σ)(h:R (.tup ls) σ.H)(hk:∀a o,σ.s.heap.get? a=some o→a≠env.locals→h'.get? a=some o)(F':Fr X.h₀ env.locals h' m)(d:σ.s.heap.get? a=none)
  (ha:h'.get? a=some o) (hc:o.cls=.type "tuple") (hd:o.data=.seq vs.toArray c) (hv:cO X σ.W ls vs):Φ (.ref a) {σ.s with heap:=h',toks:=tk}:=
 have z:=hr.C1 (tk:=tk) hk F' d ha
 k _ _ _ z.1 z.2 (.tup _ a o c vs (σ.W.iG a o) hc hd (hv.mono z.2.ext)) h
theorem mE{R:PV→aa→Prop}{Φ:Value→Shared→Prop}{a:Addr}{o:Obj}{c:Nat}{vs:List Value}{ls:List PV}{h':Heap}{tk:Nat}{u:Value}(k:Good C m loc σ (VR X) R Φ)(hr:Here C m loc σ)(h:R (.tup ls) σ.H)(hk:∀a o,σ.s.heap.get? a=some o→h'.get? a=some o)(d:σ.s.heap.get? a=none)
  (ha:h'.get? a=some o) (hc:o.cls=.type "tuple") (hd:o.data=.seq vs.toArray c) (hv:cO X σ.W ls vs) (hu:u=.ref a):Φ u {σ.s with heap:=h',toks:=tk}:=by
 subst hu;exact oP k hr h (fun a o e _=>hk a o e) (Fr.eG hr.st.F hk) d ha hc hd hv
theorem C2{v:α}{u:β}{i:Nat}{p:Addr×Addr}{o:aF}{h':Heap}{tk:Nat}(k:Good C m loc σ Rel R Φ)(hr:Here C m loc σ)(e:σ.W.φ[i]? =some p)(h:R v (σ.H.set i o))(r:Rel σ.W v u)(hk:∀a o,σ.s.heap.get? a=some o→a≠p.1→a≠p.2→h'.get? a=some o)
  (ho:fw X σ.W h' p o):Φ u {σ.s with heap:=h',toks:=tk}:=
 have z:=hr.write (tk:=tk) e hk ho
 k v u _ z.1 z.2 r h
end
theorem aV(h:Heap):h.get? h.objs.size=none:=by
 cases q:h.get? h.objs.size with
 |none=>rfl
 |some o=>exact absurd (Heap.lt_size q) (Nat.lt_irrefl _)
def Ir{α β:Type}(X:Cx)(n:Nat)(env:Env)(ν:Nu)(t:Sem β)(Rel:Wd→α→β→Prop)(T:Loc→aa→(α→aa→Prop)→(XK→aa→Prop)→Prop):Prop:=
 ∀(C:Ct X n env ν) m loc σ R Φ,Here C m loc σ→T loc σ.H R (fun k H=>C.E k loc H)→Good C m loc σ Rel R Φ→wpAny X.M C.A t Φ C.Ψ σ.s
def P6{β:Type}(X:Cx)(n:Nat)(env:Env)(ν:Nu)(t:Sem β)(y z:β)(T:Loc→aa→(aa→Prop)→(aa→Prop)→(XK→aa→Prop)→Prop):Prop:=
 ∀(C:Ct X n env ν) m loc σ S F Φ,Here C m loc σ→T loc σ.H S F (fun k H=>C.E k loc H)→(∀bo,Here C m loc bo→Le C.l env.locals σ bo→S bo.H→Φ y bo.s)→(∀bo,Here C m loc bo→Le C.l env.locals σ bo→F bo.H→Φ z bo.s)→wpAny X.M C.A t Φ C.Ψ σ.s
structure az(X:Cx)(P:ef)(n:Nat)(env:Env)(ν:Nu)(e:Expr)(ie:IE):Prop where
 ev:Ir X n env ν (eval e env) (VR X) (wE P (aj P n) ie)
 tv:P6 X n env ν (eval e env) (.bool true) (.bool false) (wT P (aj P n) ie)
def iM(X:Cx)(P:ef)(n:Nat)(env:Env)(ν:Nu)(e:Expr)(ie:IE):Prop:=P6 X n env ν (isTrue e env (eval e env)) true false (wT P (aj P n) ie)
section
variable {X:Cx}{P:ef}{n:Nat}{env:Env}{ν:Nu}{e:Expr}{ie:IE}
theorem az.of(x:Ir X n env ν (eval e env) (VR X) (wE P (aj P n) ie))(h:∀{loc H S F E},wT P (aj P n) ie loc H S F E→False):az X P n env ν e ie:=⟨x,fun _ _ _ _ _ _ _ _ h'=>(h h').elim⟩
theorem WV.el{v:PV}{A B:Prop}(h:WV v A B):(v=.bool true∧A)∨(v=.bool false∧B):=by
 cases v with
 |bool b=>cases b;exact .inr ⟨rfl,h⟩;exact .inl ⟨rfl,h⟩
 |_=>exact h.elim
theorem VR.bool_inv{W:Wd}{b:Bool}{u:Value}(h:VR X W (.bool b) u):u=.bool b:=by cases h;rfl
theorem az.Iu(x:Ir X n env ν (eval e env) (VR X) (wE P (aj P n) ie))(h:∀{loc H S F E},wT P (aj P n) ie loc H S F E→wE P (aj P n) ie loc H (fun v H=>WV v (S H) (F H)) E):az X P n env ν e ie:=
 ⟨x,fun C m loc σ S F Φ hr h' kt kf=>x C m loc σ _ Φ hr (h h') fun v u bo dO le r w=>by
  rcases w.el with⟨rfl,w⟩|⟨rfl,w⟩
  ·rw[r.bool_inv];exact kt bo dO le w
  ·rw[r.bool_inv];exact kf bo dO le w⟩
end
end
section
open PyProof.Rows PySem.Calls PySem.W SeqAt
set_option genInjectivity false
section
variable {X:Cx}{W:Wd}{H:aa}{h:Heap}
theorem VR.int_inv{i:Int}{u:Value}(x:VR X W (.int i) u):∃t,u=.int i t:=by cases x;exact⟨_,rfl⟩
theorem VR.str_inv{i:Str}{u:Value}(x:VR X W (.str i) u):∃t,u=.str i t:=by cases x;exact⟨_,rfl⟩
theorem VR.none_inv{u:Value}(x:VR X W .none u):u=.none:=by cases x;rfl
theorem VR.jw{i:Nat}{u:Value}(x:VR X W (.ref i) u):∃p,W.φ[i]? =some p∧u=.ref p.1:=by cases x;exact⟨_,‹_›,rfl⟩
theorem fI{l:List PV}{u:Value}(R:HR X W H h)(v:VR X W (.tup l) u):∃a vs,u=.ref a∧IsTup h a vs.toArray∧cO X W l vs:=by
 cases v with
 |tup _ a o k vs hb hc hd r=>exact⟨a,vs,rfl,⟨o,R.frozen _ _ hb,hc,k,hd⟩,r⟩
theorem cO.nil_inv{vs:List Value}(x:cO X W [] vs):vs=[]:=by cases x;rfl
theorem cO.cons_inv{v:PV}{l:List PV}{vs:List Value}(x:cO X W (v::l) vs):∃u us,vs=u::us∧VR X W v u∧cO X W l us:=by
 cases x with|cons a b=>exact⟨_,_,rfl,a,b⟩
theorem HR.Iv(R:HR X W H h){i:Nat}{u:Value}{o:aF}(v:VR X W (.ref i) u)(e:H[i]? =some o):∃p,u=.ref p.1∧W.φ[i]? =some p∧fw X W h p o:=by
 obtain⟨p,hp,rfl⟩:=v.jw
 obtain⟨p',Cd,o⟩:=R.at e
 obtain rfl:=Option.some.inj (hp.symm.trans Cd)
 exact⟨p,rfl,hp,o⟩
theorem HR.cK(R:HR X W H h){i:Nat}{u:Value}{x:List PV}(v:VR X W (.ref i) u)(e:H[i]? =some (.list x)):
  ∃a vs c,u=.ref a∧W.φ[i]? =some (a,a)∧h.get? a=some (lst vs.toArray c)∧cO X W x vs:=by
 revert X W H h i u x
 apply aO;intro
 generalize bL .. =X,bM .. =W,bQ .. =H,bR .. =h
 intro R
 apply aM;intro
 generalize bI .. =i,bJ .. =u
 apply aI;intro
 generalize nx .. =x
 intro v e
 obtain⟨⟨p1,p2⟩,e1,hp,e2,vs,c,g,r⟩:=R.Iv v e
 obtain rfl:p2=p1:=e2
 exact⟨p2,vs,c,e1,hp,g,r⟩
theorem HR.gF(R:HR X W H h){i:Nat}{u:Value}{x:List (Int×PV)}(v:VR X W (.ref i) u)(e:H[i]? =some (.aW x)):
  ∃a kvs,u=.ref a∧W.φ[i]? =some (a,a)∧(a == sysModules)=false∧h.DictOf (intKind X.prog X.w) a kvs∧DR X W x kvs:=by
 revert X W H h i u x
 apply aO;intro
 generalize bL .. =X,bM .. =W,bQ .. =H,bR .. =h
 intro R
 apply aM;intro
 generalize bI .. =i,bJ .. =u
 apply aI;intro
 generalize nx .. =x
 intro v e
 obtain⟨⟨p1,p2⟩,e1,hp,e2,sm,kvs,g,r⟩:=R.Iv v e
 obtain rfl:p2=p1:=e2
 exact⟨p2,kvs,e1,hp,sm,g,r⟩
theorem aJ{a:Addr}{sW:Array Value}{k:Nat}(e:h.get? a=some (lst sW k)):h.IsList a sW:=⟨_,e,rfl,k,rfl⟩
theorem i8{a b:PV}{x y:Value}{f:Int→Int→Prop}(h:wI a fun i=>wI b fun j=>f i j)(hx:VR X W a x)(hy:VR X W b y):∃i j t u,x=.int i t∧y=.int j u∧f i j:=by
 obtain⟨i,rfl,h⟩:=wI.el h
 obtain⟨j,rfl,h⟩:=wI.el (v:=b) h
 obtain⟨t,rfl⟩:=hx.int_inv
 obtain⟨u,rfl⟩:=hy.int_inv
 exact⟨i,j,t,u,rfl,rfl,h⟩
end
section
variable {X:Cx}{P:ef}{n:Nat}{env:Env}{ν:Nu}{C:Ct X n env ν}{m:Str→Option Value}{loc:Loc}{σ:Pt}
theorem zB.cl{A:Around}{l:List Env}{n:Nat}(a:zB A l n):A.units<cLine:=by have:=a.units;show A.units<9900;exact uT this rfl
theorem zB.Wt{A:Around}{l:List Env}{n:Nat}(a:zB A l n):A.in1.units+64<cLine:=by have:=a.units;show A.units+1+64<9900;exact QJ this
theorem zD(k pos):az X P n env ν (.Constant .none k pos) (.const .none):=.of (fun C m loc σ R Φ hr h k=>wpAny_Constant_none (gE k hr h .none)) id
theorem zE(b k pos):az X P n env ν (.Constant (.bool b) k pos) (.const (.bool b)):=.of (fun C m loc σ R Φ hr h k=>wpAny_Constant_bool (gE k hr h (.bool b))) id
theorem C3(i k pos):az X P n env ν (.Constant (.int i) k pos) (.const (.int i)):=.of (fun C m loc σ R Φ hr h k=>wpAny_Constant_int (cL k hr h (.int i _))) id
theorem C4(x k pos):az X P n env ν (.Constant (.str x) k pos) (.const (.str x)):=.of (fun C m loc σ R Φ hr h k=>wpAny_Constant_str (cL k hr h (.str x _))) id
theorem kP{x:Str}{u:Value}{A:Around}{Q E:Value→Shared→Prop}(ev:EnvOk env)(hr:Here C m loc σ)(nr:qT σ.W env m x u)(hc:(x == ("__classdict__":Str))=false)(q:Q u σ.s):
  wpAny X.M A (loadName env x) Q E σ.s:=by
 rcases nr with⟨hl,hv⟩|⟨ca,o,hk,hl,hb,hd⟩
 ·exact wpAny_loadName_local ev.kind hl hr.st.F.ns hv q
 ·rcases hk with hk|hk
  ·exact wpAny_loadName_cell ev.kind hk hl ⟨o,hr.rel.frozen _ _ hb,hd⟩ q
  ·exact wpAny_loadName_free ev.kind hk hl ⟨o,hr.rel.frozen _ _ hb,hd⟩ q hc
theorem look.el{k:PV→Prop}:∀{l:Loc} {x:Nat},look l x k→∃v,l[x]? =some (some v)∧k v
 |[],_,h=>h.elim
 |some v::_,0,h=>⟨v,rfl,h⟩
 |none::_,0,h=>h.elim
 |_::r,n+1,h=>by rw[List.getElem?_cons_succ];exact look.el (l:=r) h
theorem C5{x:Str}{i:Nat}(pos:Pos)(ev:EnvOk env)(hx:ν.lookup x=some i)(hd:(x == ("__debug__":Str))=false)(hc:(x == ("__classdict__":Str))=false):az X P n env ν (.Name x pos) (.var i):=
 .Iu (fun C m loc σ R Φ hr h k=>by
  obtain⟨v,hv,h⟩:=look.el h
  obtain⟨u,nr,vr⟩:=hr.lr x i v hx hv
  exact wpAny_Name (kP ev hr nr hc (gE k hr h vr)) hd) id
theorem zF{x:Str}{v:PV}{u:Value}(pos:Pos)(ev:EnvOk env)(hx:env.kindOf x=some .globalImplicit)(hd:(x == ("__debug__":Str))=false)(e:nsIn X.K mainGlobals x=some (some u))
  (hv:∀W,(∀a o,X.h₀.get? a=some o→W.B a=some o)→VR X W v u):az X P n env ν (.Name x pos) (.const v):=
 .of (fun C m loc σ R Φ hr h k=>nameG_K hr.st.F (X.X hr.rel.ok) (X.T hr.rel.ok) e (gE k hr h (hv _ hr.rel.base)) ev.globals ev.kind hx hd) id
theorem Gn{a b:PV}{k:PV→Prop}(h:Mk a b k):(∃i j,a=.int i∧b=.int j∧k (.int (i+j)))∨∃i j,a=.tup i∧b=.tup j∧i.length+j.length<1000∧k (.tup (i++j)):=by
 cases a with
 |int i=>obtain⟨j,e,h⟩:=wI.el (v:=b) h;exact .inl ⟨i,j,rfl,e,h⟩
 |tup i=>obtain⟨j,e,h⟩:=jt.el (v:=b) h;exact .inr ⟨i,j,rfl,e,h.el⟩
 |_=>exact h.elim
theorem sY{op:Operator}{a b:PV}{x y:Value}{R:PV→aa→Prop}{Φ E:Value→Shared→Prop}(hr:Here C m loc σ)(k:Good C m loc σ (VR X) R Φ)(hx:VR X σ.W a x)(hy:VR X σ.W b y)(h:Ml op a b fun v=>R v σ.H):
  wpAny X.M C.A (binaryOp op x y) Φ E σ.s:=by
 cases op with
 |Add=>
  rcases Gn (a:=a) (b:=b) (k:=fun v=>R v σ.H) h with⟨i,j,rfl,rfl,h⟩|⟨i,j,rfl,rfl,q,h⟩
  ·obtain⟨t,rfl⟩:=hx.int_inv
   obtain⟨u,rfl⟩:=hy.int_inv
   exact add_int (cL k hr h (.int _ _))
  ·obtain⟨a1,vs,rfl,ht,r1⟩:=fI hr.rel hx
   obtain⟨a2,ws,rfl,hb,r2⟩:=fI hr.rel hy
   refine add_tuples hr.st.F (gi X.h₀ σ.s.heap env.locals []) ht hb (fun ev=> ?_) (fun _ ew=> ?_) (fun _ _ h' F' N'=> ?_) (by rw[←r1.length,←r2.length,sizeLine_eq];exact ly q rfl)
   ·subst ev
    obtain rfl:i=[]:=List.eq_nil_of_length_eq_zero r1.length
    exact gE k hr h hy
   ·subst ew
    obtain rfl:j=[]:=List.eq_nil_of_length_eq_zero r2.length
    rw[List.append_nil] at h
    exact gE k hr h hx
   ·exact oP (tk:=σ.s.toks) k hr h (fun a o e q=>gj hr.st.F F' (fun p hp=>(N' p (List.mem_cons_of_mem _ hp)).1) a o e q List.not_mem_nil) F' (aV _) (N' _ (.head _)).1 rfl rfl (r1.append r2)
 |Sub=>obtain⟨i,j,t,u,rfl,rfl,h⟩:=i8 h hx hy;exact sub_int (cL k hr h (.int _ _))
 |Mult=>
  obtain⟨i,j,t,u,rfl,rfl,h⟩:=i8 h hx hy
  exact mul_int (cL k hr h.el.2 (.int _ _)) (h.el.1.elim (fun q=>.of_left (intBits_le q)) fun q=>.of_right (intBits_le q))
 |FloorDiv=>obtain⟨i,j,t,u,rfl,rfl,h⟩:=i8 h hx hy;exact floordiv_int h.el.1.1 (cL k hr h.el.2 (.int _ _)) (.inl h.el.1.2)
 |Mod=>obtain⟨i,j,t,u,rfl,rfl,h⟩:=i8 h hx hy;exact mod_int' h.el.1 (cL k hr h.el.2 (.int _ _))
 |Pow=>obtain⟨i,j,t,u,rfl,rfl,h⟩:=i8 h hx hy;exact pow_int_small h.el.1.2.1 (Int.le_trans h.el.1.2.2 (by decide)) h.el.1.1 (cL k hr h.el.2 (.int _ _))
 |_=>exact h.elim
theorem C6{a b:Expr}{ia ib:IE}(op:Operator)(pos:Pos)(ha:az X P n env ν a ia)(hb:az X P n env ν b ib):az X P n env ν (.BinOp a op b pos) (.bin op ia ib):=
 .of (fun C m loc σ R Φ hr h k=>wpAny_BinOp (ha.ev C m loc σ _ _ hr h fun x u ae au ay aK h=>hb.ev C m loc ae _ _ au h fun y w ao aC aH bX h=>sY aC (k.le (ay.trans aH)) (aK.up aH) bX h)) id
theorem C7{a:Expr}{ia:IE}(pos:Pos)(ha:az X P n env ν a ia):az X P n env ν (.UnaryOp .USub a pos) (.neg ia):=
 .of (fun C m loc σ R Φ hr h k=>wpAny_UnaryOp (ha.ev C m loc σ _ _ hr h fun x u ae au ay aK h=>by
  obtain⟨i,rfl,h⟩:=wI.el h
  obtain⟨t,rfl⟩:=aK.int_inv
  exact neg_int (cL (k.le ay) au h (.int _ _)))) id
theorem C8{a:Expr}{ia:IE}(pos:Pos)(ha:az X P n env ν a ia):az X P n env ν (.UnaryOp .Not a pos) (.not ia):=
 ⟨fun C m loc σ R Φ hr h k=>wpAny_UnaryOp (ha.ev C m loc σ _ _ hr h fun x u ae au ay aK h=>by
  obtain⟨i,rfl,h⟩:=EG.el (k:=fun b=>R (.bool (!b)) ae.H) h
  rw[aK.bool_inv]
  exact not_value (wpAny_truthy_bool (gE (k.le ay) au h (.bool _)))),
 fun C m loc σ S F Φ hr h kt kf=>wpAny_UnaryOp (ha.tv C m loc σ F S _ hr h (fun bo dO le h=>not_value (wpAny_truthy_bool (kf bo dO le h))) fun bo dO le h=>not_value (wpAny_truthy_bool (kt bo dO le h)))⟩
structure qU(X:Cx)(P:ef)(n:Nat)(env:Env)(ν:Nu)(op:BoolOp)(es:List Expr)(ie:IE):Prop where
 ev:∀pos,Ir X n env ν (boolOp pos op (evalEach es env)) (VR X) (wE P (aj P n) ie)
 tv:∀pos,P6 X n env ν (boolOp pos op (evalEach es env)) (.bool true) (.bool false) (wT P (aj P n) ie)
def qV(X:Cx)(P:ef)(n:Nat)(env:Env)(ν:Nu)(op:BoolOp)(es:List Expr)(ie:IE):Prop:=P6 X n env ν (allTrue op es env) true false (wT P (aj P n) ie)
theorem zG{op:BoolOp}{a:Expr}{ia:IE}(ha:az X P n env ν a ia):qU X P n env ν op [a] ia:=⟨fun _=>ha.ev,fun _=>ha.tv⟩
theorem zH{a b:Expr}{es:List Expr}{ia:IE}{pos:Pos}(ha:az X P n env ν a ia){C:Ct X n env ν}{S F:aa→Prop}{Φ:Value→Shared→Prop}(hr:Here C m loc σ)(h:wT P (aj P n) ia loc σ.H S F fun k H=>C.E k loc H)
  (kt:∀bo,Here C m loc bo→Le C.l env.locals σ bo→S bo.H→wpAny X.M C.A (boolOp pos .And (evalEach (b::es) env)) Φ C.Ψ bo.s) (kf:∀bo,Here C m loc bo→Le C.l env.locals σ bo→F bo.H→Φ (.bool false) bo.s):
  wpAny X.M C.A (boolOp pos .And (evalEach (a::b::es) env)) Φ C.Ψ σ.s:=by
 show wpAny X.M C.A (eval a env >>= fun v=>standAt pos >>= fun _=>holding [v] (truthy v) >>= fun t=>match BoolOp.And,t with
  |.And,false|.Or,true=>pure v
  |_,_=>boolOp pos .And (evalEach (b::es) env)) _ _ σ.s
 exact wpAny_bind (ha.tv C m loc σ S F _ hr h (fun bo dO le h=>wpAny_bind (wpAny_standAt (wpAny_bind (wpAny_holding (wpAny_truthy_bool (kt bo dO le h)))))) fun bo dO le h=>wpAny_bind (wpAny_standAt (wpAny_bind (wpAny_holding (wpAny_truthy_bool (wpAny_pure (kf bo dO le h)))))))
theorem EI{a b:Expr}{es:List Expr}{ia:IE}{pos:Pos}(ha:az X P n env ν a ia){C:Ct X n env ν}{S F:aa→Prop}{Φ:Value→Shared→Prop}(hr:Here C m loc σ)(h:wT P (aj P n) ia loc σ.H S F fun k H=>C.E k loc H)
  (kt:∀bo,Here C m loc bo→Le C.l env.locals σ bo→S bo.H→Φ (.bool true) bo.s) (kf:∀bo,Here C m loc bo→Le C.l env.locals σ bo→F bo.H→wpAny X.M C.A (boolOp pos .Or (evalEach (b::es) env)) Φ C.Ψ bo.s):
  wpAny X.M C.A (boolOp pos .Or (evalEach (a::b::es) env)) Φ C.Ψ σ.s:=by
 show wpAny X.M C.A (eval a env >>= fun v=>standAt pos >>= fun _=>holding [v] (truthy v) >>= fun t=>match BoolOp.Or,t with
  |.And,false|.Or,true=>pure v
  |_,_=>boolOp pos .Or (evalEach (b::es) env)) _ _ σ.s
 exact wpAny_bind (ha.tv C m loc σ S F _ hr h (fun bo dO le h=>wpAny_bind (wpAny_standAt (wpAny_bind (wpAny_holding (wpAny_truthy_bool (wpAny_pure (kt bo dO le h))))))) fun bo dO le h=>wpAny_bind (wpAny_standAt (wpAny_bind (wpAny_holding (wpAny_truthy_bool (kf bo dO le h))))))
theorem zI{a b:Expr}{es:List Expr}{ia ib:IE}(ha:az X P n env ν a ia)(hb:qU X P n env ν .And (b::es) ib):qU X P n env ν .And (a::b::es) (.and ia ib):=
 ⟨fun pos C m loc σ R Φ hr h k=>zH ha hr h (fun bo dO le h=>hb.ev pos C m loc bo R Φ dO h (k.le le)) fun bo dO le h=>gE (k.le le) dO h (.bool _),
 fun pos C m loc σ S F Φ hr h kt kf=>zH ha hr h (fun bo dO le h=>hb.tv pos C m loc bo S F Φ dO h (fun i9 ja jb=>kt i9 ja (le.trans jb)) fun i9 ja jb=>kf i9 ja (le.trans jb)) kf⟩
theorem C9{a b:Expr}{es:List Expr}{ia ib:IE}(ha:az X P n env ν a ia)(hb:qU X P n env ν .Or (b::es) ib):qU X P n env ν .Or (a::b::es) (.or ia ib):=
 ⟨fun pos C m loc σ R Φ hr h k=>EI ha hr h (fun bo dO le h=>gE (k.le le) dO h (.bool _)) fun bo dO le h=>hb.ev pos C m loc bo R Φ dO h (k.le le),
 fun pos C m loc σ S F Φ hr h kt kf=>EI ha hr h kt fun bo dO le h=>hb.tv pos C m loc bo S F Φ dO h (fun i9 ja jb=>kt i9 ja (le.trans jb)) fun i9 ja jb=>kf i9 ja (le.trans jb)⟩
theorem sZ{op:BoolOp}{es:List Expr}{ie:IE}(pos:Pos)(h:qU X P n env ν op es ie):az X P n env ν (.BoolOp op es pos) ie:=⟨h.ev pos,h.tv pos⟩
theorem zJ{op:BoolOp}{a:Expr}{ia:IE}(ha:iM X P n env ν a ia):qV X P n env ν op [a] ia:=fun C m loc σ S F Φ hr h kt kf=>by
 cases op with
 |And=>exact wpAny_allTrue_And_cons (ha C m loc σ S F _ hr h (fun bo dO le h=>wpAny_allTrue_And_nil (kt bo dO le h)) kf)
 |Or=>exact wpAny_allTrue_Or_cons (ha C m loc σ S F _ hr h kt fun bo dO le h=>wpAny_allTrue_Or_nil (kf bo dO le h))
theorem zK{a b:Expr}{es:List Expr}{ia ib:IE}(ha:iM X P n env ν a ia)(hb:qV X P n env ν .And (b::es) ib):qV X P n env ν .And (a::b::es) (.and ia ib):=fun C m loc σ S F Φ hr h kt kf=>
 wpAny_allTrue_And_cons (ha C m loc σ _ F _ hr h (fun bo dO le h=>hb C m loc bo S F Φ dO h (fun i9 ja jb=>kt i9 ja (le.trans jb)) fun i9 ja jb=>kf i9 ja (le.trans jb)) kf)
theorem Dd{a b:Expr}{es:List Expr}{ia ib:IE}(ha:iM X P n env ν a ia)(hb:qV X P n env ν .Or (b::es) ib):qV X P n env ν .Or (a::b::es) (.or ia ib):=fun C m loc σ S F Φ hr h kt kf=>
 wpAny_allTrue_Or_cons (ha C m loc σ S _ _ hr h kt fun bo dO le h=>hb C m loc bo S F Φ dO h (fun i9 ja jb=>kt i9 ja (le.trans jb)) fun i9 ja jb=>kf i9 ja (le.trans jb))
theorem qW{op:BoolOp}{es:List Expr}{ie:IE}(pos:Pos)(h:qV X P n env ν op es ie):iM X P n env ν (.BoolOp op es pos) ie:=fun C m loc σ S F Φ hr h' kt kf=>wpAny_isTrue_BoolOp (h C m loc σ S F Φ hr h' kt kf)
theorem jx{a:Expr}{ia:IE}(ha:az X P n env ν a ia)(he:∀whole,isTrue a env whole=(do let v ←whole;standAt a.pos;holding [v] (truthy v))):iM X P n env ν a ia:=fun C m loc σ S F Φ hr h kt kf=>
 wpAny_isTrue_value (ha.tv C m loc σ S F _ hr h (fun bo dO le h=>wpAny_truthy_bool (kt bo dO le h)) fun bo dO le h=>wpAny_truthy_bool (kf bo dO le h)) (he _)
theorem zL{a:Expr}{ia:IE}(pos:Pos)(ha:iM X P n env ν a ia):iM X P n env ν (.UnaryOp .Not a pos) (.not ia):=fun C m loc σ S F Φ hr h kt kf=>
 wpAny_isTrue_Not (ha C m loc σ F S _ hr h kf kt)
theorem De{c a b:Expr}{ic ia ib:IE}(pos:Pos)(hc:iM X P n env ν c ic)(ha:az X P n env ν a ia)(hb:az X P n env ν b ib):az X P n env ν (.IfExp c a b pos) (.ite ic ia ib):=
 .of (fun C m loc σ R Φ hr h k=>wpAny_IfExp (hc C m loc σ _ _ _ hr h (fun bo dO le h=>ha.ev C m loc bo R Φ dO h (k.le le)) fun bo dO le h=>hb.ev C m loc bo R Φ dO h (k.le le))) id
end
end
section
open PyProof.Rows PySem.Calls PySem.W SeqAt
set_option backward.match.sparseCases false
section
variable {X:Cx}{W:Wd}{A:Around}{s:Shared}
theorem pQ(x y:Int):decide (x=y)=(x == y):=by by_cases h:x=y<;>simp[h]
theorem kQ{x y:List PV}{b:Bool}(h:g8 x y=some b):(x=[]∧y=[]∧b=true)∨∃i r k t b',x=.int i::r∧y=.int k::t∧g8 r t=some b'∧b=(decide (i=k) && b'):=by
 cases x with
 |nil=>cases y with
  |nil=>exact .inl ⟨rfl,rfl,(Option.some.inj h).symm⟩
  |cons=>exact cu h
 |cons a r=>cases y with
  |nil=>exact cu h
  |cons c t=>
   obtain⟨i,hi,h⟩:=Option.bind_eq_some_iff.mp h
   obtain⟨k,hk,h⟩:=Option.bind_eq_some_iff.mp h
   obtain⟨b',hb,e⟩:=Option.map_eq_some_iff.mp h
   exact .inr ⟨i,r,k,t,b',congrArg (· ::r) (mj hi),congrArg (· ::t) (mj hk),hb,e.symm⟩
theorem xe(A:Around)(s:Shared):∀(x:List PV) {y:List PV} {vs us:List Value} {b:Bool},g8 x y=some b→cO X W x vs→cO X W y us→vs.length=us.length∧∃e:Nat→Bool,(∀j (h1:j<vs.length) (h2:j<us.length),EqAt A s vs[j] us[j] (e j))∧b=(List.range vs.length).all e:=by
 revert X W A s
 apply aO;intro
 generalize bL .. =X,bM .. =W,bQ .. =A,bR .. =s
 intro x
 induction x with
 |nil=>
  intro y vs us b h hx hy
  rcases kQ h with⟨_,rfl,rfl⟩|⟨_,_,_,_,_,e,_⟩
  ·rw[hx.nil_inv,hy.nil_inv];exact⟨rfl,fun _=>true,fun j h1=>absurd h1 (Nat.not_lt_zero _),rfl⟩
  ·cases e
 |cons a r ih=>
  intro y vs us b h hx hy
  rcases kQ h with⟨e,_⟩|⟨i,r',k,t,b',e,rfl,hb,rfl⟩
  ·cases e
  cases e
  obtain⟨u,UX,rfl,hu,hr⟩:=hx.cons_inv
  obtain⟨v,Iw,rfl,hv,ht⟩:=hy.cons_inv
  obtain⟨t1,rfl⟩:=hu.int_inv
  obtain⟨t2,rfl⟩:=hv.int_inv
  obtain⟨hl,e,he,rfl⟩:=ih hb hr ht
  refine⟨congrArg (· +1) hl,fun j=>j.casesOn (decide (i=k)) e,fun j h1 h2=> ?_,?_⟩
  ·cases j with
   |zero=>exact EqAt.int_int i t1 k t2
   |succ j=>exact he j (Nat.lt_of_succ_lt_succ h1) (Nat.lt_of_succ_lt_succ h2)
  ·show _=(List.range (_+1)).all _
   rw[List.range_succ_eq_map,List.all_cons,List.all_map]
   rfl
def Mq(M:Model)(A:Around)(s:Shared)(u w:Value)(t:Bool):Prop:=
 (∀Q E,Q (.bool t) s→wpAny M A (compareOp .Eq u w) Q E s)∧∀Q E,Q (.bool !t) s→wpAny M A (compareOp .NotEq u w) Q E s
end
section
variable {X:Cx}{P:ef}{n:Nat}{env:Env}{ν:Nu}{C:Ct X n env ν}{m:Str→Option Value}{loc:Loc}{σ:Pt}
theorem Dg{i j:Nat}{t:Bool}{x y:Value}(hr:Here C m loc σ)(e:og σ.H (.ref i) (.ref j)=some t)(hx:VR X σ.W (.ref i) x)(hy:VR X σ.W (.ref j) y):Mq X.M C.A σ.s x y t:=by
 revert X n env ν C m loc σ i j t x y
 apply aO;intro
 generalize bL .. =X,bM .. =n,bQ .. =env,bR .. =ν
 apply aI;intro
 generalize nx .. =C
 apply aQ;intro
 generalize bT .. =m,bU .. =loc,bV .. =σ,bW .. =i,cj .. =j,ck .. =t,cm .. =x,cp .. =y
 intro hr e hx hy
 have e:(match σ.H[i]?,σ.H[j]? with
  |some (.list x),some (.list y)=>if x.length≠y.length then some false else g8 x y
  |some (.aW x),some (.aW [])=>some x.isEmpty
  |_,_=>none)=some t:=e
 cases hi:σ.H[i]? with
 |none=>rw[hi] at e;exact cu e
 |some p=>
 rw[hi] at e
 cases hj:σ.H[j]? with
 |none=>rw[hj] at e;cases p<;>exact cu e
 |some q=>
 rw[hj] at e
 cases p with
 |list p=>cases q with
  |list q=>
   obtain⟨a,vs,c,rfl,_,g,r⟩:=hr.rel.cK hx hi
   obtain⟨b,ws,d,rfl,_,g',r'⟩:=hr.rel.cK hy hj
   by_cases j8:p.length≠q.length
   ·obtain rfl:=Option.some.inj ((if_pos j8).symm.trans e)
    have ne:(vs.toArray.size !=ws.toArray.size)=true:=by rw[List.size_toArray,List.size_toArray,←r.length,←r'.length];exact bne_iff_ne.mpr j8
    exact⟨fun Q E q=>RcAt.lists_lengths (aJ g) (aJ g') ne (C.ak hr.ok).cl _ _ _ _ q,fun Q E q=>RcNeAt.lists_lengths (aJ g) (aJ g') ne (C.ak hr.ok).cl _ _ _ _ q⟩
   ·obtain⟨hl,ee,he,rfl⟩:=xe C.A.in1 σ.s _ ((if_neg j8).symm.trans e) r r'
    have UY:∀j (h1:j<vs.toArray.size) (h2:j<ws.toArray.size),EqAt C.A.in1 σ.s vs.toArray[j] ws.toArray[j] (ee j):=fun j h1 h2=>he j h1 h2
    exact⟨fun Q E q=>RcAt.lists (e:=ee) (aJ g) (aJ g') hl (C.ak hr.ok).cl UY _ _ _ _ q,fun Q E q=>RcNeAt.lists (e:=ee) (aJ g) (aJ g') hl (C.ak hr.ok).cl UY _ _ _ _ q⟩
  |_=>exact cu e
 |aW x'=>cases q with
  |aW q=>cases q with
   |cons _ _=>exact cu e
   |nil=>
   obtain rfl:=Option.some.inj e
   obtain⟨a,kvs,rfl,_,sm,dk,dr⟩:=hr.rel.gF hx hi
   obtain⟨b,Wu,rfl,_,UZ,U0,Wv⟩:=hr.rel.gF hy hj
   cases Wv
   have z:kvs.length=([]:List (Int×Value)).length→_:=fun z=>List.eq_nil_of_length_eq_zero z
   have t:x'.isEmpty=(kvs.length == ([]:List (Int×Value)).length && true):=by cases dr<;>rfl
   rw[t]
   exact⟨fun Q E q=>keq_eq sm UZ dk U0 (C.ak hr.ok).cl (r:=true) (fun y=>by rw[z y];exact .nil) q,fun Q E q=>keq_ne sm UZ dk U0 (C.ak hr.ok).cl (r:=true) (fun y=>by rw[z y];exact .nil) q⟩
  |_=>exact cu e
 |_=>exact cu e
theorem uZ{a b:PV}{x y:Value}{A B:Prop}(hr:Here C m loc σ)(hx:VR X σ.W a x)(hy:VR X σ.W b y)(h:P4 σ.H a b A B):∃t,Mq X.M C.A σ.s x y t∧wb t A B:=by
 cases a with
 |int i=>
  obtain⟨j,rfl,h1⟩:=wI.el (v:=b) h
  obtain⟨t,rfl⟩:=hx.int_inv
  obtain⟨u,rfl⟩:=hy.int_inv
  exact⟨i == j,⟨fun Q E q=>eq_int q,fun Q E q=>RcNeAt.int_int _ _ _ _ _ _ _ _ q⟩,yS (fun e=>h1.el.1 (eq_of_beq e)) fun e=>h1.el.2 (ne_of_beq_false e)⟩
 |bool i=>
  obtain⟨j,rfl,h1⟩:=EG.el (v:=b) h
  rw[hx.bool_inv,hy.bool_inv]
  exact⟨i == j,⟨fun Q E q=>eq_bool q,fun Q E q=>RcNeAt.bool_bool _ _ _ _ _ _ q⟩,yS (fun e=>h1.el.1 (eq_of_beq e)) fun e=>h1.el.2 (ne_of_beq_false e)⟩
 |str i=>
  obtain⟨j,rfl,h1⟩:=Ip.el (v:=b) h
  obtain⟨t,rfl⟩:=hx.str_inv
  obtain⟨u,rfl⟩:=hy.str_inv
  exact⟨i == j,⟨fun Q E q=>eq_str q,fun Q E q=>RcNeAt.str_str _ _ _ _ _ _ _ _ q⟩,yS (fun e=>h1.el.1 e) fun e=>h1.el.2 (by rw[e];decide)⟩
 |none=>
  obtain⟨j,rfl,h1⟩:=Ip.el (v:=b) h
  obtain⟨u,rfl⟩:=hy.str_inv
  rw[hx.none_inv]
  exact⟨false,⟨fun Q E q=>EqNone.eq_none_str q,fun Q E q=>RcNeAt.none_str _ _ _ _ _ _ q⟩,h1⟩
 |tup i=>
  obtain⟨j,rfl,h1⟩:=jt.el (v:=b) h
  cases j with
  |cons _ _=>exact h1.elim
  |nil=>
   obtain⟨a1,vs,rfl,t1,r1⟩:=fI hr.rel hx
   obtain⟨a2,ws,rfl,t2,r2⟩:=fI hr.rel hy
   rw[r2.nil_inv] at t2
   refine⟨(List.range (min vs.toArray.size ([]:List Value).toArray.size)).all (fun _=>true) && vs.toArray.size == ([]:List Value).toArray.size,⟨fun Q E q=>eq_tupleAt (e:=fun _=>true) t1 t2 (C.ak hr.ok).cl (fun j _ h2=>absurd h2 (Nat.not_lt_zero _)) q,fun Q E q=>RcNeAt.tuples (e:=fun _=>true) t1 t2 (C.ak hr.ok).cl (fun j _ h2=>absurd h2 (Nat.not_lt_zero _)) _ _ _ _ q⟩,?_⟩
   cases r1 with
   |nil=>exact h1
   |cons _ _=>exact h1
 |ref i=>
  cases b with
  |str j=>
   obtain⟨l,e,h1⟩:=wL.el (k:=fun _=>B) h
   obtain⟨a,vs,c,rfl,_,g,r⟩:=hr.rel.cK hx e
   obtain⟨u,rfl⟩:=hy.str_inv
   exact⟨false,⟨fun Q E q=>RcAt.list_str _ _ (aJ g) (C.ak hr.ok).cl _ _ _ _ q,fun Q E q=>RcNeAt.list_str _ _ (aJ g) (C.ak hr.ok).cl _ _ _ _ q⟩,h1⟩
  |ref j=>
   obtain⟨t,e,h⟩:=WO.el h
   exact⟨t,Dg hr e hx hy,h⟩
  |_=>exact h.elim
 |_=>exact h.elim
def EJ(v:Value):Prop:=v=.type "list"∨v=.type "dict"∨∃c,v=.ref c
theorem qX{M:Model}{A:Around}{s:Shared}{a b:Addr}{oa ob:Obj}{Q:Bool→Shared→Prop}{E:Value→Shared→Prop}(ha:s.heap.get? a=some oa)(hb:s.heap.get? b=some ob)(ht:EJ oa.cls)(q:Q (a == b) s):wpAny M A (isSame (.ref a) (.ref b)) Q E s:=by
 unfold isSame
 dsimp only
 cases e:a == b with
 |true=>rw[e] at q;rw[if_pos rfl];exact wpAny_pure q
 |false=>
  rw[e] at q
  rw[if_neg (by decide)]
  refine wpAny_bind (wpAny_load ha (wpAny_bind (wpAny_load hb ?_)))
  rcases ht with e|e|⟨c,e⟩<;>(rw[e];exact wpAny_pure q)
theorem fw.cls{h:Heap}{W:Wd}{p:Addr×Addr}{o:aF}(x:fw X W h p o):∃o',h.get? p.1=some o'∧EJ o'.cls:=by
 revert X h W p o
 apply aO;intro
 generalize bL .. =X,bM .. =h,bQ .. =W,bR .. =p
 apply aI;intro
 generalize nx .. =o
 intro x
 cases o with
 |list _=>obtain⟨_,_,_,g,_⟩:=x;exact⟨_,g,.inl rfl⟩
 |aW _=>obtain⟨_,_,_,⟨o,_,_,g,q,_⟩,_⟩:=x;exact⟨o,g,.inr (.inl q.1)⟩
 |ed _=>obtain⟨_,_,_,⟨o,_,_,g,q,_⟩,_⟩:=x;exact⟨o,g,.inr (.inl q.1)⟩
 |inst c _=>obtain⟨_,g,_⟩:=x;exact⟨_,g,.inr (.inr ⟨c,rfl⟩)⟩
theorem u4{i j:Nat}{x y:Value}{M:Model}{A:Around}{Q:Bool→Shared→Prop}{E:Value→Shared→Prop}(hr:Here C m loc σ)(hx:VR X σ.W (.ref i) x)(hy:VR X σ.W (.ref j) y)(q:Q (decide (i=j)) σ.s):wpAny M A (isSame x y) Q E σ.s:=by
 obtain⟨p,hp,rfl⟩:=hx.jw
 obtain⟨p',Cd,rfl⟩:=hy.jw
 have at':∀{i p},σ.W.φ[i]? =some p→∃o,fw X σ.W σ.s.heap p o:=fun hp=>by
  have hi:=(List.getElem?_eq_some_iff.mp hp).1
  rw[hr.rel.len] at hi
  exact⟨_,hr.rel.objs _ _ _ hp (List.getElem?_eq_getElem hi)⟩
 obtain⟨o1,z1⟩:=at' hp
 obtain⟨o2,z2⟩:=at' Cd
 obtain⟨oa,ga,ta⟩:=z1.cls
 obtain⟨ob,gb,_⟩:=z2.cls
 refine qX ga gb ta ?_
 have:(p.1 == p'.1)=decide (i=j):=by
  by_cases e:i=j
  ·subst e
   obtain rfl:=Option.some.inj (hp.symm.trans Cd)
   rw[decide_eq_true rfl];exact beq_self_eq_true _
  ·rw[decide_eq_false e]
   exact beq_false_of_ne (hr.rel.apart i j p p' e hp Cd).1
 rw[this];exact q
theorem u5{a b:PV}{x y:Value}{A B:Prop}(hr:Here C m loc σ)(hx:VR X σ.W a x)(hy:VR X σ.W b y)(h:Q5 a b A B):∃t,wb t A B∧(∀Q E,Q (.bool t) σ.s→wpAny X.M C.A (compareOp .Is x y) Q E σ.s)∧∀Q E,Q (.bool !t) σ.s→wpAny X.M C.A (compareOp .IsNot x y) Q E σ.s:=by
 cases b with
 |none=>
  obtain rfl:=hy.none_inv
  cases a with
  |none=>obtain rfl:=hx.none_inv;exact⟨true,h,fun Q E q=>is_none_none q,fun Q E q=>isnot_none_none q⟩
  |ref i=>obtain⟨p,hp,rfl⟩:=hx.jw;exact⟨false,h,fun Q E q=>is_ref_none q,fun Q E q=>isnot_ref_none q⟩
  |int i=>obtain⟨t,rfl⟩:=hx.int_inv;exact⟨false,h,fun Q E q=>is_int_none q,fun Q E q=>isnot_int_none q⟩
  |tup i=>obtain⟨a,vs,rfl,_⟩:=fI hr.rel hx;exact⟨false,h,fun Q E q=>is_ref_none q,fun Q E q=>isnot_ref_none q⟩
  |_=>exact h.elim
 |ref j=>
  obtain⟨i,rfl,h1⟩:=dp.el (v:=a) h
  refine⟨decide (i=j),yS (fun e=>h1.el.1 (of_decide_eq_true e)) fun e=>h1.el.2 (of_decide_eq_false e),fun Q E q=> ?_,fun Q E q=> ?_⟩
  ·show wpAny X.M C.A (isSame x y >>= fun z=>pure (Value.bool z)) Q E σ.s
   exact wpAny_bind (u4 hr hx hy (wpAny_pure q))
  ·show wpAny X.M C.A (isSame x y >>= fun z=>pure (Value.bool (!z))) Q E σ.s
   exact wpAny_bind (u4 hr hx hy (wpAny_pure q))
 |_=>exact h.elim
theorem oQ{l:List PV}{ks:List Int}(h:kM l=some ks):(l=[]∧ks=[])∨∃i r kr,l=.int i::r∧kM r=some kr∧ks=i::kr:=by
 cases l with
 |nil=>exact .inl ⟨rfl,(Option.some.inj h).symm⟩
 |cons a r=>
  obtain⟨i,hi,h⟩:=Option.bind_eq_some_iff.mp h
  obtain⟨kr,e,q⟩:=Option.map_eq_some_iff.mp h
  exact .inr ⟨i,r,kr,congrArg (· ::r) (mj hi),e,q.symm⟩
theorem j9{W:Wd}:∀{l:List PV} {vs:List Value} {ks:List Int},kM l=some ks→cO X W l vs→IntsAre vs ks:=fun {l}=>by
 induction l with
 |nil=>
  intro vs ks h hx
  rcases oQ h with⟨_,rfl⟩|⟨_,_,_,e,_⟩
  ·rw[hx.nil_inv];exact .nil
  ·cases e
 |cons a r ih=>
  intro vs ks h hx
  rcases oQ h with⟨e,_⟩|⟨i,r',kr,e,hk,rfl⟩
  ·cases e
  cases e
  obtain⟨u,UX,rfl,hu,hr⟩:=hx.cons_inv
  obtain⟨t,rfl⟩:=hu.int_inv
  exact .cons _ _ (ih hk hr)
noncomputable def pR(x:Int):Value→Bool
 |.int i _=>i == x
 |_=>false
theorem zM(x:Int){vs:List Value}{ks:List Int}(h:IntsAre vs ks):vs.any (pR x)=ks.contains x:=by
 induction h with
 |nil=>rfl
 |cons i _ r ih=>
  rw[List.any_cons,List.contains_cons,ih]
  show(i == x || _)=_
  rw[show(i == x)=(x == i) from by rw[←pQ,←pQ];exact decide_eq_decide.mpr eq_comm]
theorem zN(x:Int)(u:Tok)(A:Around)(s:Shared){vs:List Value}{ks:List Int}(h:IntsAre vs ks):∀y,y∈vs→EqAt A s y (.int x u) (pR x y):=by
 induction h with
 |nil=>exact fun y h=>absurd h List.not_mem_nil
 |cons i t r ih=>
  intro y h
  rcases List.mem_cons.mp h with rfl|h
  ·exact EqAt.int_int i t x u
  ·exact ih y h
theorem WP.dec{c A B:Prop}[Decidable c](h:WP c A B):wb (decide c) A B:=yS (fun e=>h.el.1 (of_decide_eq_true e)) fun e=>h.el.2 (of_decide_eq_false e)
theorem eR{op:CmpOp}{a b:PV}{x y:Value}{A B:Prop}{Q E:Value→Shared→Prop}(hr:Here C m loc σ)(hx:VR X σ.W a x)(hy:VR X σ.W b y)(h:qR op σ.H a b A B)(q:∀t,wb t A B→Q (.bool t) σ.s):wpAny X.M C.A (compareOp op x y) Q E σ.s:=by
 cases op with
 |Eq=>obtain⟨t,e,z⟩:=uZ hr hx hy h;exact e.1 _ _ (q t z)
 |NotEq=>obtain⟨t,e,z⟩:=uZ hr hx hy h;exact e.2 _ _ (q _ (by cases t;exact z;exact z))
 |Is=>obtain⟨t,z,e,_⟩:=u5 hr hx hy h;exact e _ _ (q t z)
 |IsNot=>obtain⟨t,z,_,e⟩:=u5 hr hx hy h;exact e _ _ (q _ (by cases t;exact z;exact z))
 |Lt=>obtain⟨i,j,t,u,rfl,rfl,h⟩:=i8 h hx hy;exact lt_int (q _ h.dec)
 |LtE=>obtain⟨i,j,t,u,rfl,rfl,h⟩:=i8 h hx hy;exact le_int (q _ h.dec)
 |Gt=>obtain⟨i,j,t,u,rfl,rfl,h⟩:=i8 h hx hy;exact gt_int (q _ h.dec)
 |GtE=>obtain⟨i,j,t,u,rfl,rfl,h⟩:=i8 h hx hy;exact ge_int (q _ h.dec)
 |In=>
  obtain⟨i,rfl,h1⟩:=wI.el (v:=a) h
  obtain⟨l,rfl,h2⟩:=jt.el (v:=b) h1
  obtain⟨ks,e,h3⟩:=WO.el h2
  obtain⟨t,rfl⟩:=hx.int_inv
  obtain⟨a,vs,rfl,ht,r⟩:=fI hr.rel hy
  have I:=j9 e r
  refine in_tupleAt (pR i) ht (fun y h=>zN i t C.A.in1 σ.s I y (by simpa using h)) ?_
  rw[show vs.toArray.any (pR i)=ks.contains i from by rw[←Array.any_toList];exact zM i I]
  exact q _ (yS (fun e=>h3.el.1 e) fun e=>h3.el.2 (by rw[e];decide))
 |_=>exact h.elim
theorem oR{op:CmpOp}{a b:PV}{x y:Value}{k:Bool→Prop}{Q E:Value→Shared→Prop}(hr:Here C m loc σ)(hx:VR X σ.W a x)(hy:VR X σ.W b y)(h:zy op σ.H a b k)(q:∀t,k t→Q (.bool t) σ.s):wpAny X.M C.A (compareOp op x y) Q E σ.s:=by
 have g:qR op σ.H a b (k true) (k false)→wpAny X.M C.A (compareOp op x y) Q E σ.s:=fun h=>eR hr hx hy h fun t z=>q t (by cases t;exact z;exact z)
 cases op with
 |Lt=>obtain⟨i,j,t,u,rfl,rfl,h⟩:=i8 h hx hy;exact lt_int (q _ h)
 |LtE=>obtain⟨i,j,t,u,rfl,rfl,h⟩:=i8 h hx hy;exact le_int (q _ h)
 |Gt=>obtain⟨i,j,t,u,rfl,rfl,h⟩:=i8 h hx hy;exact gt_int (q _ h)
 |GtE=>obtain⟨i,j,t,u,rfl,rfl,h⟩:=i8 h hx hy;exact ge_int (q _ h)
 |Eq=>
  cases a with
  |int i=>
   obtain⟨j,rfl,h1⟩:=wI.el (v:=b) h
   obtain⟨t,rfl⟩:=hx.int_inv
   obtain⟨u,rfl⟩:=hy.int_inv
   exact eq_int (by rw[←pQ];exact q _ h1)
  |bool i=>
   obtain⟨j,rfl,h1⟩:=EG.el (v:=b) h
   rw[hx.bool_inv,hy.bool_inv]
   exact eq_bool (q _ h1)
  |_=>exact g h
 |_=>exact g h
theorem Dh{a b:Expr}{ia ib:IE}(op:CmpOp)(pos:Pos)(hm:behindInMarks op b=false)(ha:az X P n env ν a ia)(hb:az X P n env ν b ib):az X P n env ν (.Compare a [op] [b] pos) (.cmp op ia ib):=
 ⟨fun C m loc σ R Φ hr h k=>wpAny_Compare1 (ha.ev C m loc σ _ _ hr h fun x u ae au ay aK h=>hb.ev C m loc ae _ _ au h fun y w ao aC aH bX h=>oR aC (aK.up aH) bX h fun t h=>gE (k.le (ay.trans aH)) aC h (.bool _)) hm,
 fun C m loc σ S F Φ hr h kt kf=>wpAny_Compare1 (ha.ev C m loc σ _ _ hr h fun x u ae au ay aK h=>hb.ev C m loc ae _ _ au h fun y w ao aC aH bX h=>eR aC (aK.up aH) bX h fun t h=>by
  cases t
  ·exact kf ao aC (ay.trans aH) h
  ·exact kt ao aC (ay.trans aH) h) hm⟩
theorem zO{a b:Expr}{ia ib:IE}(op:CmpOp)(pos:Pos)(hm:behindInMarks op b=false)(ha:az X P n env ν a ia)(hb:az X P n env ν b ib):iM X P n env ν (.Compare a [op] [b] pos) (.cmp op ia ib):=
 fun C m loc σ S F Φ hr h kt kf=>wpAny_isTrue_Compare1 (ha.ev C m loc σ _ _ hr h fun x u ae au ay aK h=>hb.ev C m loc ae _ _ au h fun y w ao aC aH bX h=>eR aC (aK.up aH) bX h fun t h=>wpAny_truthy_bool (by
  cases t
  ·exact kf ao aC (ay.trans aH) h
  ·exact kt ao aC (ay.trans aH) h)) hm
theorem xf{a b c:Expr}{ia ib ic:IE}(op lP:CmpOp)(pos:Pos)(hm:lastMarks [op,lP] [b,c]=false)(ha:az X P n env ν a ia)(hb:az X P n env ν b ib)(hc:az X P n env ν c ic):
  az X P n env ν (.Compare a [op,lP] [b,c] pos) (.chain op lP ia ib ic):=
 ⟨fun C m loc σ R Φ hr h k=>Compare_chain (ha.ev C m loc σ _ _ hr h fun x u ae au ay aK h=>chain_link (hb.ev C m loc ae _ _ au h fun y w ao aC aH bX h=>eR aC (aK.up aH) bX h fun t h=>wpAny_truthy_bool (by
  cases t
  ·exact gE (k.le (ay.trans aH)) aC h (.bool _)
  ·exact chain_last (hc.ev C m loc ao _ _ aC h fun z w fJ cg cM kc h=>oR cg (bX.up cM) kc h fun t h=>gE (k.le ((ay.trans aH).trans cM)) cg h (.bool _))))) hm,
 fun C m loc σ S F Φ hr h kt kf=>Compare_chain (ha.ev C m loc σ _ _ hr h fun x u ae au ay aK h=>chain_link (hb.ev C m loc ae _ _ au h fun y w ao aC aH bX h=>eR aC (aK.up aH) bX h fun t h=>wpAny_truthy_bool (by
  cases t
  ·exact kf ao aC (ay.trans aH) h
  ·exact chain_last (hc.ev C m loc ao _ _ aC h fun z w fJ cg cM kc h=>eR cg (bX.up cM) kc h fun t h=>by
    cases t
    ·exact kf fJ cg ((ay.trans aH).trans cM) h
    ·exact kt fJ cg ((ay.trans aH).trans cM) h)))) hm⟩
theorem tb{a b c:Expr}{ia ib ic:IE}(op lP:CmpOp)(pos:Pos)(hm:lastMarks [op,lP] [b,c]=false)(ha:az X P n env ν a ia)(hb:az X P n env ν b ib)(hc:az X P n env ν c ic):
  iM X P n env ν (.Compare a [op,lP] [b,c] pos) (.chain op lP ia ib ic):=
 fun C m loc σ S F Φ hr h kt kf=>isTrue_chain (ha.ev C m loc σ _ _ hr h fun x u ae au ay aK h=>test_link (hb.ev C m loc ae _ _ au h fun y w ao aC aH bX h=>eR aC (aK.up aH) bX h fun t h=>wpAny_truthy_bool (by
  cases t
  ·exact kf ao aC (ay.trans aH) h
  ·exact test_last (hc.ev C m loc ao _ _ aC h fun z w fJ cg cM kc h=>eR cg (bX.up cM) kc h fun t h=>wpAny_truthy_bool (by
    cases t
    ·exact kf fJ cg ((ay.trans aH).trans cM) h
    ·exact kt fJ cg ((ay.trans aH).trans cM) h))))) hm
end
end
section
open PyProof.Rows PySem.Calls PySem.W SeqAt
set_option backward.match.sparseCases false
set_option genInjectivity false
structure EK(X:Cx)(P:ef)(c:Nat):Prop where
 plain:∀n,plainGet X.K c (X.nm n)=true
 zP:hasDictIn X.K c=true
 setattr:findIn X.K (.ref c) "__setattr__"=some (some (.builtin "object.__setattr__"))
 over:plainOver X.K c=true
 get:∀n,n<X.tab.length→P.bad.contains (c,n)=false→∃attr,findIn X.K (.ref c) (X.nm n)=some attr∧noGet X.K attr=true∧takerIn X.K c (X.nm n)=some none
structure EM(X:Cx)(P:ef)(c:Nat)(k:ClsRec):Prop where
 known:c∈X.known
 makes:makesIn X.K c=true
 Mr:∀n v,bA n k.mh=some v→n<X.tab.length→∃a,findIn X.K (.ref c) (X.nm n)=some (some a)∧specialIn X.K a "__get__"=some none∧handedIn a=true∧copiedNames.contains (X.nm n)=false∧
  ∀W:Wd,(∀a o,X.h₀.get? a=some o→W.B a=some o)→VR X W v a
 Gp:∀n f,bA n k.meths=some f→n<X.tab.length∧findIn X.K (.ref c) (X.nm n)=some (some (.ref f))∧isFn X.K (.ref f)=true∧keepIn X.K (.ref f)=true
 init:∀f,k.init=some f→findIn X.K (.ref c) "__init__"=some (some (.ref f))∧isFn X.K (.ref f)=true
structure oj(X:Cx)(P:ef):Prop where
 cls:∀c,c∈X.known→EK X P c
 Gq:∀c k,bA c P.pO=some k→EM X P c k
 bG:P.bG=X.ns
section
variable {X:Cx}{P:ef}{n:Nat}{env:Env}{ν:Nu}{C:Ct X n env ν}{m:Str→Option Value}{loc:Loc}{σ:Pt}{A:Around}{s:Shared}{W:Wd}{E:Value→Shared→Prop}
theorem kh{h:Heap}{d:Addr}{m:Str→Option Value}(N:h.Ns d m):∃o,h.get? d=some o∧∀x,lookIn x o=some (m x):=by
 obtain⟨o,es,ep,g,hd,hs,hf⟩:=N
 refine⟨o,g,fun x=> ?_⟩
 unfold lookIn
 rw[hd]
 dsimp only
 rw[←hf x]
 unfold nsFind findBy
 rw[←Array.find?_toList]
 cases q:es.toList.find? (·.key.isStr x) with
 |some e=>rfl
 |none=>
  have:es.toList.any (·.refKey)=false:=by
   rw[List.any_eq_false]
   intro e he
   obtain⟨y,t,hk⟩:=hs e (by simpa using he)
   simp[DictEntry.refKey,hk]
  dsimp only
  rw[this]
  rfl
theorem tc{h:Heap}{p:Addr×Addr}{c:Nat}{o:Obj}(g:h.get? p.1=some (instObj c p.2))(g':h.get? p.2=some o):InstAt h p.1 (instObj c p.2) c (some o):=⟨g,rfl,rfl,g'⟩
theorem VR.handed{v:PV}{u:Value}(x:VR X W v u):handedIn u=true:=by cases x<;>rfl
theorem xg{o v:PV}{k:Nat}{u:Value}{expr:Bool}{R:PV→aa→Prop}{Φ:Value→Shared→Prop}(pk:oj X P)(hk:k<X.tab.length)(hr:Here C m loc σ)(q:Good C m loc σ (VR X) R Φ)(e:g9 P σ.H o k=some v)(hx:VR X σ.W o u)(h:R v σ.H):
  wpAny X.M C.A (getAttr u (X.nm k) expr) Φ E σ.s:=by
 cases o with
 |ref i=>
  have e:(match σ.H[i]? with
   |some (.inst c fs)=>if P.bad.contains (c,k) then none else match bA k fs with
    |some v=>some v
    |none=>(bA c P.pO).bind fun j=>bA k j.mh
   |_=>none)=some v:=e
  split at e
  ·rename_i c fs hi
   split at e
   ·cases e
   rename_i hb
   rw[Bool.not_eq_true] at hb
   obtain⟨p,rfl,hp,⟨kn,j8⟩,g,mi,N,mr⟩:=hr.rel.Iv hx hi
   obtain⟨od,Ms,hl⟩:=kh N.ns
   have K:=pk.cls c kn
   obtain⟨attr,ha,hn,ht⟩:=K.get k hk hb
   have I:=tc g Ms
   have M:=mr k hk
   split at e
   ·rename_i v' hv
    obtain rfl:=Option.some.inj e
    rw[hv] at M
    obtain⟨u,hu,vr⟩:=M
    exact get_value hr.rel.yT I (plainGet_of (K.plain k)).1 (findObj_own K.zP ha hn (by rw[hl,hu])) vr.handed (cL q hr h vr)
   ·rename_i hv
    obtain⟨kr,Q9,EN⟩:=Option.bind_eq_some_iff.mp e
    rw[hv] at M
    obtain⟨a,fa,sa,P7,cn,vr⟩:=(pk.Gq c kr Q9).Mr k v EN hk
    exact get_value hr.rel.yT I (plainGet_of (K.plain k)).1 (findObj_cls K.zP fa sa P7 cn (by rw[hl,M])) P7 (cL q hr h (vr _ hr.rel.base))
  ·cases e
 |_=>cases e
theorem zQ{a:Expr}{ia:IE}{k:Nat}{x:Str}(pos:Pos)(pk:oj X P)(hk:k<X.tab.length)(hx:X.nm k=x)(ha:az X P n env ν a ia)
  (he:eval (.Attribute a x pos) env=(do
   let o ←eval a env
   standAt pos.atName
   let r ←holding [o] (getAttr o x true)
   letTemporaryGo a o r
   pure r)):az X P n env ν (.Attribute a x pos) (.attr ia k):=by
 subst hx
 exact .Iu (fun C m loc σ R Φ hr h q=>Attribute_any_ (ha.ev C m loc σ _ _ hr h fun x u ae au ay aK h=>by
  obtain⟨v,e,h⟩:=WO.el h
  exact xg pk hk au (q.le ay) e aK h) he) id
theorem td{i:Int}{k j:Nat}(e:place i k=some j):k<1000000∧j<k∧seqIndex? i k=some j∧-(k:Int)≤i∧i<k:=by
 revert i k j
 apply aM;intro
 generalize bI .. =i,bJ .. =k
 apply aI;intro
 generalize nx .. =j
 intro e
 unfold place at e
 split at e
 ·rename_i hk
  refine⟨hk,?_⟩
  unfold seqIndex?
  split at e
  ·rename_i q
   cases e
   refine⟨by exact(Int.toNat_lt q.1).mpr q.2,?_,by exact Int.le_trans (Int.neg_nonpos_of_nonneg (Int.natCast_nonneg _)) q.1,by exact q.2⟩
   dsimp only
   rw[if_neg (show ¬i<0 by exact Int.not_lt_of_ge q.1),if_pos (by simp;exact q)]
  ·split at e
   ·rename_i q1 q2
    cases e
    refine⟨by exact QG q2,?_,by omega,by exact Int.lt_of_lt_of_le q2.1 (Int.natCast_nonneg _)⟩
    dsimp only
    rw[if_pos q2.1,if_pos (by simp;exact Jj q2)]
   ·cases e
 ·cases e
theorem om{a:Addr}{items:Array Value}{k:Int}{t:Tok}{j:Nat}{x:Value}{Q:Value→Shared→Prop}(hl:s.heap.IsList a items)(hp:place k items.size=some j)(hx:items[j]? =some x)(h:Q x s):
  wpAny X.M A (getItem (.ref a) (.int k t)) Q E s:=by
 revert X A s E a items k t j x Q
 apply aQ;intro
 generalize bT .. =X,bU .. =A,bV .. =s,bW .. =E,cj .. =a,ck .. =items,cm .. =k,cp .. =t
 apply aM;intro
 generalize bI .. =j,bJ .. =x
 apply aI;intro
 generalize nx .. =Q
 intro hl hp hx h
 obtain⟨h1,h2,h3,h4,h5⟩:=td hp
 unfold place at hp
 rw[if_pos h1] at hp
 split at hp
 ·rename_i q;cases hp;exact wpAny_getItem_list hl q.1 (by exact wa (Int.lt_trans h5 (Int.ofNat_lt.mpr h1)) rfl) hx h
 ·split at hp
  ·rename_i q;cases hp;exact wpAny_getItem_list_neg hl q.1 h4 (by exact jk (Int.le_trans (Int.neg_le_neg (Int.le_of_lt (Int.ofNat_lt.mpr h1))) h4) rfl) hx h
  ·cases hp
theorem DR.look{es:List (Int×PV)}{kvs:List (Int×Value)}(r:DR X W es kvs)(k:Int):match eE k es with
  |some v=>∃u,valueAt kvs k=some u∧VR X W v u
  |none=>valueAt kvs k=none:=by
 induction r with
 |nil=>rfl
 |@cons j v u es vs vr _ ih=>
  rw[pP]
  unfold valueAt
  rw[List.find?_cons]
  by_cases q:j=k
  ·rw[if_pos q];simp only[q,decide_true];exact⟨u,rfl,vr⟩
  ·rw[if_neg q];simp only[q,decide_false];exact ih
theorem short.el:∀{l:List PV} {n:Nat},short l n=true→l.length≤n
 |[],_,_=>Nat.zero_le _
 |_::_,0,h=>by cases h
 |_::_,_+1,h=>Nat.succ_le_succ (short.el h)
theorem nX.el{k:PV→Prop}:∀{l:List PV} {n:Nat},nX l n k→∃v,l[n]? =some v∧k v
 |[],_,h=>h.elim
 |v::_,0,h=>⟨v,rfl,h⟩
 |_::r,n+1,h=>by rw[List.getElem?_cons_succ];exact nX.el (l:=r) h
theorem Mt{b:Bool}{A:Prop}(h:wb b A False):b=true∧A:=by cases b;exact h.elim;exact⟨rfl,h⟩
theorem oS{a i:PV}{x y:Value}{K:PV→Prop}{E:Value→Shared→Prop}{Q:Value→Shared→Prop}(hr:Here C m loc σ)(hx:VR X σ.W a x)(hy:VR X σ.W i y)(h:kN σ.H a i K)(q:∀v u tk,VR X σ.W v u→K v→Q u {σ.s with toks:=tk}):
  wpAny X.M C.A (getItem x y) Q E σ.s∧∃T id,σ.s.TypeIs x T∧typeLookup (.type T) "__getitem__"=pure (some (.builtin id)):=by
 cases a with
 |tup l=>
  obtain⟨j,rfl,h1⟩:=wI.el (v:=i) h
  cases j with
  |negSucc n=>exact h1.elim
  |ofNat j=>
   obtain⟨hs,h2⟩:=Mt (b:=short l 100) h1
   obtain⟨v,hv,h3⟩:=nX.el h2
   obtain⟨a,vs,rfl,ht,r⟩:=fI hr.rel hx
   obtain⟨t,rfl⟩:=hy.int_inv
   obtain⟨u,hu,vr⟩:=r.get hv
   have Ce:vs.toArray.size=l.length:=by rw[List.size_toArray,r.length]
   have hj:j<vs.toArray.size:=by rw[Ce];exact(List.getElem?_eq_some_iff.mp hv).1
   have:=short.el hs
   refine⟨getItem_tuple (j:=j) ht (by show -(_:Int)≤(j:Int);exact jk (Int.natCast_nonneg _) rfl) (by show(j:Int)<_;exact wa (Int.ofNat_lt.mpr (Nat.lt_of_lt_of_le hj (Nat.le_trans (Nat.le_of_eq Ce) this))) rfl) ?_ (by simpa using hu) (q v u σ.s.toks vr h3),"tuple",_,ht.typeIs,slot_tuple_getitem.lookup⟩
   unfold seqIndex?
   dsimp only
   rw[if_neg (show ¬Int.ofNat j<0 from Int.not_lt.mpr (Int.natCast_nonneg j)),if_pos (by simp;omega)];rfl
 |ref r=>
  obtain⟨j,rfl,h1⟩:=wI.el (v:=i) h
  obtain⟨o,e,h2⟩:=WO.el h1
  obtain⟨t,rfl⟩:=hy.int_inv
  cases o with
  |list l=>
   obtain⟨v,e2,h3⟩:=WO.el h2
   obtain⟨c,hj,hv⟩:=Option.bind_eq_some_iff.mp e2
   obtain⟨a,vs,d,rfl,_,g,r⟩:=hr.rel.cK hx e
   obtain⟨u,hu,vr⟩:=r.get hv
   have Ce:vs.toArray.size=l.length:=by rw[List.size_toArray,r.length]
   exact⟨om (aJ g) (by rw[Ce];exact hj) (by simpa using hu) (q v u σ.s.toks vr h3),"list",_,(aJ g).typeIs,slot_list_getitem.lookup⟩
  |aW es=>
   obtain⟨v,e2,h3⟩:=WO.el h2
   obtain⟨a,kvs,rfl,_,sm,dk,dr⟩:=hr.rel.gF hx e
   have:=dr.look j
   rw[e2] at this
   obtain⟨u,hu,vr⟩:=this
   exact⟨wpAny_getItem_of (knd:=intKind X.prog X.w) (k:=j) (by simp[intKind,Value.isInt]) dk.mapOf hu (q v u _ vr h3),"dict",_,dk.typeIs,PySem.F.slot_dict_getitem.lookup⟩
  |_=>exact h2.elim
 |_=>exact h.elim
theorem zR{a i:Expr}{ia ii:IE}(pos:Pos)(hs:∀x y,subscripted i false x y=operate [x,y] (getItem x y))(ha:az X P n env ν a ia)(hi:az X P n env ν i ii):az X P n env ν (.Subscript a i pos) (.item ia ii):=
 .of (fun C m loc σ R Φ hr h q=>Subscript_ (ha.ev C m loc σ _ _ hr h fun x u ae au ay aK h=>hi.ev C m loc ae _ _ au h fun y w ao aC aH bX h=>by
  obtain⟨g,T,id,hT,hl⟩:=oS (E:=C.Ψ) (Q:=Φ) aC (aK.up aH) bX h fun v u tk vr h=>cL (q.le (ay.trans aH)) aC h vr
  exact tail_any hT hl g (hs _ _))) id
theorem SR.lt{es:List (Nat×PV)}{kvs:List (Str×Value)}(r:SR X W es kvs){k:Nat}{v:PV}(e:bA k es=some v):k<X.tab.length:=by
 induction r with
 |nil=>cases e
 |@cons j v' u es vs hj vr _ ih=>
  rw[fH] at e
  split at e
  ·rename_i w;rw[←w];exact hj
  ·exact ih e
theorem SR.look(ok:X.ok){es:List (Nat×PV)}{kvs:List (Str×Value)}(r:SR X W es kvs){k:Nat}{v:PV}(e:bA k es=some v):∃u,valueAt kvs (X.nm k)=some u∧VR X W v u:=by
 induction r with
 |nil=>cases e
 |@cons j v' u es vs hj vr _ ih=>
  rw[fH] at e
  unfold valueAt
  rw[List.find?_cons]
  by_cases q:j=k
  ·rw[if_pos q] at e;cases e;simp only[q,decide_true];exact⟨u,rfl,vr⟩
  ·rw[if_neg q] at e
   by_cases z:X.nm j=X.nm k
   ·exfalso
    have hk:k<X.tab.length:=SR.lt (by assumption) e
    exact q (X.inj ok hj hk z)
   ·simp only[z,decide_false];exact ih e
theorem xh{a:Expr}{ia:IE}{k c:Nat}{x:Str}(pos p:Pos)(hx:X.nm k=x)(ha:az X P n env ν a ia):az X P n env ν (.Subscript a (.Constant (.str x) c p) pos) (.eX ia k):=by
 revert X P n env ν a ia k c x pos p
 apply aQ;intro
 generalize bT .. =X,bU .. =P,bV .. =n,bW .. =env,cj .. =ν,ck .. =a,cm .. =ia,cp .. =k
 apply aO;intro
 generalize bL .. =c,bM .. =x,bQ .. =pos,bR .. =p
 intro hx ha
 subst hx
 exact .of (fun C m loc σ R Φ hr h q=>Subscript_ (ha.ev C m loc σ _ _ hr h fun x u ae au ay aK h=>wpAny_Constant_str (by
  obtain⟨v,e,h1⟩:=WO.el h
  cases x with
  |ref i=>
   have e:(match ae.H[i]? with
    |some (.ed es)=>bA k es
    |_=>none)=some v:=e
   split at e
   ·rename_i es hi
    obtain⟨p,rfl,hp,_,sm,kvs,dk,dr⟩:=au.rel.Iv aK hi
    obtain⟨u,hu,vr⟩:=dr.look au.rel.ok e
    exact tail_any (s:={ae.s with toks:=ae.s.toks+1}) dk.typeIs PySem.F.slot_dict_getitem.lookup (wpAny_getItem_of (s:={ae.s with toks:=ae.s.toks+1}) (knd:=PySem.strKind X.prog X.w) (k:=X.nm k) (by simp[PySem.strKind,Value.isStrOf]) dk.mapOf hu (cL (q.le ay) au h1 vr)) (ops:=[.ref p.1,.str (X.nm k) ae.s.toks]) rfl
   ·cases e
  |_=>cases e))) id
end
end
section
open PyProof.Rows PySem.Calls PySem.W
set_option backward.match.sparseCases false
def gS(X:Cx)(P:ef)(n:Nat)(env:Env)(ν:Nu)(es:List Expr)(dQ:jW):Prop:=∀pos,Ir X n env ν (spliced (backTo pos (starEach es env))) (cO X) (wEs P (aj P n) dQ)
section
variable {X:Cx}{W:Wd}{H:aa}{h h':Heap}{L:Addr}
theorem HR.Gr(R:HR X W H h){g:Heap}{p:Addr×Addr}{o:aF}(S:Ext W g (W.add p))(dE:W.B L=none)(dT:¬Own W L)(b1:W.B p.1=none)(b2:W.B p.2=none)(o1:¬Own W p.1)(o2:¬Own W p.2)
  (hk:∀a o,h.get? a=some o→a≠L→a≠p.1→a≠p.2→h'.get? a=some o) (ho:fw X (W.add p) h' p o):HR X (W.add p) (H++[o]) h':=by
 have old:∀i q,(W.add p).φ[i]? =some q→(i<W.φ.length∧W.φ[i]? =some q)∨(i=W.φ.length∧q=p):=fun i q e=>by
  have e:(W.φ++[p])[i]? =some q:=e
  rcases Nat.lt_or_ge i W.φ.length with l|l
  ·rw[List.getElem?_append_left l] at e;exact .inl ⟨l,e⟩
  ·rw[List.getElem?_append_right l] at e
   have l2:=(List.getElem?_eq_some_iff.mp e).1
   have:i - W.φ.length=0:=by simp at l2;exact l2
   rw[this] at e
   exact .inr ⟨by exact PJ l this,by simpa using e.symm⟩
 have j6:∀(i:Nat) (q:Addr×Addr),W.φ[i]? =some q→q.1≠p.1∧q.1≠p.2∧q.2≠p.1∧q.2≠p.2:=fun i q e=>by
  have hq:q∈W.φ:=List.mem_of_getElem? e
  refine⟨?_,?_,?_,?_⟩<;>intro z
  ·exact o1 ⟨q,hq,.inl z.symm⟩
  ·exact o2 ⟨q,hq,.inl z.symm⟩
  ·exact o1 ⟨q,hq,.inr z.symm⟩
  ·exact o2 ⟨q,hq,.inr z.symm⟩
 refine⟨by show(W.φ++[p]).length=_;rw[List.length_append,List.length_append,R.len];rfl,fun i q o' e e'=> ?_,fun i j q r Mo e e'=> ?_,fun a o e=>hk a o (R.frozen a o e) (by rintro rfl;have e:W.B a=some o:=e;rw[dE] at e;cases e) (by rintro rfl;have e:W.B _=some o:=e;rw[b1] at e;cases e) (by rintro rfl;have e:W.B _=some o:=e;rw[b2] at e;cases e),fun q hq=> ?_,R.base,R.ok⟩
 ·rcases old i q e with⟨l,e⟩|⟨l,rfl⟩
  ·rw[List.getElem?_append_left (by rw[←R.len];exact l)] at e'
   have hq:q∈W.φ:=List.mem_of_getElem? e
   have F:=j6 i q e
   exact(R.objs i q o' e e').mono S (fun o z=>hk _ _ z (by rintro rfl;exact dT ⟨q,hq,.inl rfl⟩) F.1 F.2.1) (fun o z=>hk _ _ z (by rintro rfl;exact dT ⟨q,hq,.inr rfl⟩) F.2.2.1 F.2.2.2)
  ·rw[List.getElem?_append_right (by rw[←R.len,l];exact Nat.le_refl _),l,R.len,Nat.sub_self] at e'
   cases e'
   exact ho
 ·rcases old i q e with⟨l,e1⟩|⟨l,e1⟩<;>rcases old j r e' with⟨l',e2⟩|⟨l',e2⟩
  ·exact R.apart i j q r Mo e1 e2
  ·rw[e2];exact j6 i q e1
  ·have:=j6 j r e2
   rw[e1]
   exact⟨fun z=>this.1 z.symm,fun z=>this.2.2.1 z.symm,fun z=>this.2.1 z.symm,fun z=>this.2.2.2 z.symm⟩
  ·exact absurd (l.trans l'.symm) Mo
 ·have hq:q∈W.φ++[p]:=hq
  rcases List.mem_append.mp hq with hq|hq
  ·exact R.off q hq
  ·rw[List.mem_singleton.mp hq];exact⟨b1,b2⟩
end
section
variable {X:Cx}{P:ef}{n:Nat}{env:Env}{ν:Nu}{C:Ct X n env ν}{m:Str→Option Value}{loc:Loc}{σ ao:Pt}{A:Around}{s:Shared}{W:Wd}{E:Value→Shared→Prop}
theorem Here.Gs(hr:Here C m loc σ){a:Addr}{o:aF}{h':Heap}{tk:Nat}(d:σ.s.heap.get? a=none)(aC:Here C m loc ao)(le:Le C.l env.locals σ ao)(no:¬Own ao.W a)(nb:ao.W.B a=none)(hk:∀b o,ao.s.heap.get? b=some o→b≠a→h'.get? b=some o)
  (ho:fw X (ao.W.add (a,a)) h' (a,a) o):Here C m loc ⟨{ao.s with heap:=h',toks:=tk},ao.W.add (a,a),ao.H++[o]⟩∧Le C.l env.locals σ ⟨{ao.s with heap:=h',toks:=tk},ao.W.add (a,a),ao.H++[o]⟩∧VR X (ao.W.add (a,a)) (.ref ao.H.length) (.ref a):=by
 have E:Ext ao.W σ.s.heap (ao.W.add (a,a)):=Ext.add ao.W d d
 have ne:∀{b o},σ.s.heap.get? b=some o→b≠a:=fun e z=>by rw[z,d] at e;cases e
 obtain⟨oL,eL⟩:=Fr.live hr.st.F
 have aL:env.locals≠a:=ne eL
 have S:=le.step
 obtain⟨ψ,Ww,Wx⟩:=S.φ
 have S':Step C.l env.locals σ.W σ.s.heap (ao.W.add (a,a)) h':=by
  refine⟨⟨S.B,S.CY,⟨ψ++[(a,a)],?_,fun p hp=> ?_⟩⟩,fun b o e n1 n2 n3=>hk b o (S.keep b o e n1 n2 n3) (ne e),fun b o e n1 n2=> ?_,fun b o e=> ?_⟩
  ·show ao.W.φ++[(a,a)]=_
   rw[Ww,List.append_assoc]
  ·rcases List.mem_append.mp hp with hp|hp
   ·exact Wx p hp
   ·rw[List.mem_singleton.mp hp];exact⟨d,d⟩
  ·obtain⟨sl,e'⟩:=S.slots b o e n1 n2
   exact⟨sl,hk b _ e' (ne e)⟩
  ·obtain⟨o',e'⟩:=S.live b o e
   exact⟨o',hk b _ e' (ne e)⟩
 have F':Fr X.h₀ env.locals h' m:=by
  obtain⟨o,es,ep,g,r⟩:=aC.st.F.ns
  exact⟨⟨o,es,ep,hk _ _ g aL,r⟩,fun b o e=>hk b o (aC.st.F.keep b o e) (ne (hr.st.F.keep b o e)),aC.st.F.above⟩
 have x:Le C.l env.locals σ ⟨{ao.s with heap:=h',toks:=tk},ao.W.add (a,a),ao.H++[o]⟩:=⟨S',le.same⟩
 exact⟨hr.go x (hr.st.next (s':={ao.s with heap:=h',toks:=tk}) S' F' (HR.Gr aC.rel E aC.st.dE aC.st.dT nb nb no no (fun b o e _ n _=>hk b o e n) ho)),x,by rw[←aC.rel.len];exact .ref _ (a,a) (ao.W.sX (a,a))⟩
theorem zS:gS X P n env ν [] .nil:=fun pos C m loc σ R Φ hr h k=>wpAny_items_nil (gE k hr h .nil)
theorem xj{a:Expr}{es:List Expr}{ia:IE}{dQ:jW}(he:starEach (a::es) env=(false,eval a env)::starEach es env)(ha:az X P n env ν a ia)(hs:gS X P n env ν es dQ):gS X P n env ν (a::es) (.cons ia dQ):=fun pos C m loc σ R Φ hr h k=>
 wpAny_items_cons (ha.ev C m loc σ _ _ hr h fun x u ae au ay aK h=>hs pos C m loc ae _ _ au h fun y w ao aC aH bX h=>gE (k.le (ay.trans aH)) aC h (.cons (aK.up aH) bX)) he
theorem cB(h:Heap)(o:Obj):∀a o',h.get? a=some o'→(h.push o).get? a=some o':=fun _ _ e=>Heap.get?_push_of_some o e
theorem xk{R:PV→aa→Prop}{Φ:Value→Shared→Prop}{ls:List PV}{vs:List Value}{c:Nat}{tk:Nat}(k:Good C m loc σ (VR X) R Φ)(hr:Here C m loc σ)(h:R (.ref σ.H.length) (σ.H++[.list ls]))(v:cO X σ.W ls vs):
  Φ (.ref σ.s.heap.objs.size) {σ.s with heap:=σ.s.heap.push (lst vs.toArray c),toks:=tk}:=
 uY (p:=(σ.s.heap.objs.size,σ.s.heap.objs.size)) k hr h (cB _ _) (aV _) (aV _) ⟨rfl,vs,c,Heap.get?_push_size _ rfl,v.mono (.add σ.W (aV σ.s.heap) (aV σ.s.heap))⟩ rfl
theorem mF{ls:List PV}{vs:List Value}(h:short ls 999=true)(v:cO X W ls vs):vs.length≤sizeLine:=by
 rw[←v.length,sizeLine_eq];have:=short.el h;exact nZ this rfl
theorem zT{es:List Expr}{dQ:jW}(pos:Pos)(h:gS X P n env ν es dQ):az X P n env ν (.List es pos) (.list dQ):=
 .of (fun C m loc σ R Φ hr h' k=>wpAny_List (h pos C m loc σ _ _ hr h' fun x u ae au ay aK h=>⟨mF (Mt h).1 aK,xk (c:=0) (tk:=ae.s.toks) (k.le ay) au (Mt h).2 aK⟩)) id
theorem xl{es:List Expr}{dQ:jW}(c:Nat)(pos:Pos)(h:gS X P n env ν es dQ):az X P n env ν (.Tuple es c pos) (.tuple dQ):=
 .of (fun C m loc σ R Φ hr h' k=>wpAny_Tuple (h pos C m loc σ _ _ hr h' fun x u ae au ay aK h=>⟨mF (Mt h).1 aK,mE (tk:=ae.s.toks) (k.le ay) au (Mt h).2 (cB _ _) (aV _) (Heap.get?_push_size _ rfl) rfl rfl aK rfl⟩)) id
theorem ki(h:Heap)(o:Obj):h.get? (h.objs.size+1)=none∧(h.push o).objs.size=h.objs.size+1:=by
 refine⟨?_,Heap.size_push ..⟩
 cases q:h.get? (h.objs.size+1) with
 |none=>rfl
 |some o=>exact absurd (Heap.lt_size q) (Nat.not_lt.mpr (Nat.le_succ _))
theorem jy(h:Heap)(o x:Obj)(hx:x.isFreed=false):((h.push o).push x).get? (h.objs.size+1)=some x:=by
 have:=Heap.get?_push_size (h.push o) (o:=x) hx
 rw[Heap.size_push] at this;exact this
theorem fz(h:Heap)(o x:Obj):∀a o',h.get? a=some o'→((h.push o).push x).get? a=some o':=fun a o' e=>cB _ _ _ _ (cB _ _ _ _ e)
theorem EO{R:PV→aa→Prop}{Φ:Value→Shared→Prop}{ls:List PV}{vs:List Value}{tk:Nat}{o:Obj}(k:Good C m loc σ (VR X) R Φ)(hr:Here C m loc σ)(h:R (.ref σ.H.length) (σ.H++[.list ls]))(v:cO X σ.W ls vs):
  Φ (.ref (σ.s.heap.push o).objs.size) {σ.s with heap:=(σ.s.heap.push o).push (lst vs.toArray 0),toks:=tk}:=
 have d:=ki σ.s.heap o
 uY (p:=(σ.s.heap.objs.size+1,σ.s.heap.objs.size+1)) k hr h (fz _ _ _) d.1 d.1 ⟨rfl,vs,0,jy _ _ _ rfl,v.mono (.add σ.W d.1 d.1)⟩ (by rw[d.2])
theorem Di{W:Wd}(j:Nat){vs:List Value}{ks:List Int}(h:IntsAre vs ks):cO X W ((ks.take j).map .int) (vs.take j):=by
 induction h generalizing j with
 |nil=>rw[List.take_nil,List.take_nil];exact .nil
 |cons i t _ ih=>cases j with
  |zero=>exact .nil
  |succ j=>exact .cons (.int i t) (ih j)
theorem VR.te{u:Value}(x:VR X W .bG u):∃a o c vs,u=.ref a∧W.B a=some o∧o.cls=.type "list"∧o.data=.seq vs.toArray c∧IntsAre vs X.ns:=by cases x;exact⟨_,_,_,_,rfl,‹_›,‹_›,‹_›,‹_›⟩
theorem tf{a:Expr}{ia:IE}{c:Nat}(p q pos:Pos)(pk:oj X P)(hg:∀o r,letTemporaryGo a o r=pure ())(ha:az X P n env ν a ia):
  az X P n env ν (.Subscript a (.Slice none (some (.Constant (.int 24) c q)) none p) pos) (.ma ia):=
 .of (fun C m loc σ R Φ hr h k=>wpAny_Subscript_Slice slot_list_getitem.lookup (ha.ev C m loc σ _ _ hr h fun x u ae au ay aK h=>by
  cases x with
  |bG=>
   obtain⟨a,o,d,vs,rfl,hb,hc,hd,hi⟩:=aK.te
   refine wpAny_Slice (wpAny_pure (wpAny_Constant_int (k:=c) (pos:=q) (wpAny_pure ?_)))
   have hl:(ae.s.heap.push {cls:=.type "slice",data:=.fields #[Value.none,.int 24 ae.s.toks,.none]}).IsList a vs.toArray:=⟨o,Heap.get?_push_of_some _ (au.rel.frozen _ _ hb),hc,d,hd⟩
   refine⟨hl.typeIs,wpAny_getItem_list_slice (lo:=none) (hi:=some 24) (st:=none) hl (Heap.IsSliceOf.new _ _ _ _) .none (.int 24 _) .none (by decide) ?_ (by rw[List.size_toArray,sizeLine_eq];have:=hi.length;have:=(X.Q7 hr.rel.ok);exact ly (Nat.lt_of_le_of_lt (Nat.le_of_eq ‹_›) ‹_›) rfl)⟩
   rw[show slicePick vs.toArray none (some 24) none=(vs.take 24).toArray from by have:=slicePick_upto' vs.toArray 24;simpa using this]
   rw[pk.bG] at h
   exact EO (k.le ay) au h (Di 24 hi)
  |_=>exact h.elim) hg) id
theorem Dj{a:Expr}{ia:IE}{c:Nat}(p q q' pos:Pos)(hg:∀o r,letTemporaryGo a o r=pure ())(ha:az X P n env ν a ia):
  az X P n env ν (.Subscript a (.Slice none none (some (.UnaryOp .USub (.Constant (.int 1) c q) q')) p) pos) (.rev ia):=
 .of (fun C m loc σ R Φ hr h k=>wpAny_Subscript_Slice_step slot_list_getitem.lookup (ha.ev C m loc σ _ _ hr h fun x u ae au ay aK h=>by
  obtain⟨i,rfl,h1⟩:=dp.el h
  obtain⟨l,e,h2⟩:=wL.el h1
  obtain⟨pp,vs,d,rfl,_,g,r⟩:=au.rel.cK aK e
  refine wpAny_Slice (wpAny_pure (wpAny_pure (wpAny_UnaryOp (wpAny_Constant_int (k:=c) (pos:=q) (neg_int ?_)))))
  have hl:(ae.s.heap.push {cls:=.type "slice",data:=.fields #[Value.none,.none,.int (-1) (ae.s.toks+1)]}).IsList pp vs.toArray:=aJ (Heap.get?_push_of_some _ g)
  refine⟨hl.typeIs,wpAny_getItem_list_slice (lo:=none) (hi:=none) (st:=some (-1)) hl (Heap.IsSliceOf.new _ _ _ _) .none .none (.int (-1) _) (by decide) ?_ (by rw[List.size_toArray,←r.length,sizeLine_eq];have:=h2.el.1;exact ly this rfl)⟩
  rw[krv_pick]
  exact EO (k.le ay) au h2.el.2 r.reverse) hg) id
theorem xn{a:Expr}{ia:IE}{c:Nat}(p q pos:Pos)(hg:∀o r,letTemporaryGo a o r=pure ())(ha:az X P n env ν a ia):
  az X P n env ν (.Subscript a (.Slice (some (.Constant (.int 1) c q)) none none p) pos) (.qQ ia):=
 .of (fun C m loc σ R Φ hr h k=>wpAny_Subscript_Slice slot_tuple_getitem.lookup (ha.ev C m loc σ _ _ hr h fun x u ae au ay aK h=>by
  obtain⟨l,rfl,h1⟩:=jt.el h
  obtain⟨a,vs,rfl,ht,r⟩:=fI au.rel aK
  refine wpAny_Slice (wpAny_Constant_int (k:=c) (pos:=q) (wpAny_pure (wpAny_pure ?_)))
  have Cf:IsTup (ae.s.heap.push {cls:=.type "slice",data:=.fields #[Value.int 1 ae.s.toks,.none,.none]}) a vs.toArray:=ht.keeps (cB _ _)
  have d:=ki ae.s.heap {cls:=.type "slice",data:=.fields #[Value.int 1 ae.s.toks,.none,.none]}
  have hz:=h1.el.1
  refine⟨Cf.typeIs,getItem_tuple_from (a:=1) Cf (Heap.IsSliceOf.new _ _ _ _) (Nat.le_refl _) (by rw[List.size_toArray,←r.length];exact hz.1) ?_ (by rw[List.size_toArray,←r.length,sizeLine_eq];exact ly hz.2 rfl)⟩
  exact mE (a:=ae.s.heap.objs.size+1) (o:={cls:=.type "tuple",data:=.seq (vs.drop 1).toArray}) (c:=0) (tk:=ae.s.toks+1) (k.le ay) au h1.el.2 (fz _ _ _) d.1 (jy _ _ _ rfl) rfl rfl (r.drop 1) (by rw[d.2])) hg) id
theorem xo(pos:Pos):az X P n env ν (.Dict [] [] pos) .aW:=
 .of (fun C m loc σ R Φ hr h k=>wpAny_Dict_empty (uY (p:=(σ.s.heap.objs.size,σ.s.heap.objs.size)) (tk:=σ.s.toks) k hr h (cB _ _) (aV _) (aV _) ⟨rfl,hr.st.F.notModules (modules_low (X.T hr.rel.ok).nolimit),[],Heap.DictOf.new σ.s.heap,.nil⟩ rfl)) id
def Wz(X:Cx)(js:List Nat)(W:Wd)(vs:List PV)(us:List (Value×Value)):Prop:=allStrKeys us=true∧SR X W (js.zip vs) (strPairs us)∧(strPairs us).map (·.1)=js.map X.nm∧us.length=vs.length
def mG(X:Cx)(P:ef)(n:Nat)(env:Env)(ν:Nu)(ks:List (Option Expr))(js:List Nat)(es:List Expr)(dQ:jW):Prop:=
 ks.length=js.length∧ks.length=es.length∧ks.all (·.isSome)=true∧∀pos,Ir X n env ν (evalPairs (pairTrees ks es env pos)) (Wz X js) (wEs P (aj P n) dQ)
theorem zU:mG X P n env ν [] [] [] .nil:=⟨rfl,rfl,rfl,fun pos C m loc σ R Φ hr h k=>pairTrees_nil_walk (gE k hr h ⟨rfl,.nil,rfl,rfl⟩)⟩
theorem xq{x:Str}{c j:Nat}{p:Pos}{a:Expr}{ks:List (Option Expr)}{js:List Nat}{es:List Expr}{ia:IE}{dQ:jW}(hj:j<X.tab.length)(hx:X.nm j=x)(ha:az X P n env ν a ia)(hs:mG X P n env ν ks js es dQ):
  mG X P n env ν (some (.Constant (.str x) c p)::ks) (j::js) (a::es) (.cons ia dQ):=by
 obtain⟨h1,h2,h3,hs⟩:=hs
 subst hx
 refine⟨congrArg (· +1) h1,congrArg (· +1) h2,h3,fun pos C m loc σ R Φ hr h k=>pairTrees_cons_walk (wpAny_Constant_str ?_)⟩
 have z:=hr.toks (tk:=σ.s.toks+1)
 refine ha.ev C m loc ⟨{σ.s with toks:=σ.s.toks+1},σ.W,σ.H⟩ _ _ z.1 h fun x u ae au ay aK h=>hs pos C m loc ae _ _ au h fun y w ao aC aH bX h=>gE (k.le ((z.2.trans ay).trans aH)) aC h ⟨bX.1,.cons hj (aK.up aH) bX.2.1,?_,congrArg (· +1) bX.2.2.2⟩
 show X.nm j::_=_
 rw[bX.2.2.1];rfl
theorem zV(ok:X.ok):∀l:List Nat,(∀j∈l,j<X.tab.length)→l.Nodup→(l.map X.nm).Nodup:=fun l=>by
 induction l with
 |nil=>intro _ _;exact List.nodup_nil
 |cons j r ih=>
  intro hb hn
  have hn:=List.nodup_cons.mp hn
  refine List.nodup_cons.mpr ⟨fun hm=> ?_,ih (fun i hi=>hb i (List.mem_cons_of_mem _ hi)) hn.2⟩
  obtain⟨i,hi,he⟩:=List.mem_map.mp hm
  have:=X.inj ok (hb i (List.mem_cons_of_mem _ hi)) (hb j (.head _)) he
  exact hn.1 (this▸hi)
theorem Here.fresh(hr:Here C m loc σ){a:Addr}(d:σ.s.heap.get? a=none):¬Own σ.W a∧σ.W.B a=none∧a≠env.locals∧a∉Fs C.l:=by
 refine⟨fun x=> ?_,hr.rel.dead d,fun z=> ?_,fun z=> ?_⟩
 ·obtain⟨o,e⟩:=hr.rel.fe x;rw[d] at e;cases e
 ·obtain⟨o,e⟩:=Fr.live hr.st.F
  rw[←z,d] at e;cases e
 ·obtain⟨en,he,hf⟩:=List.mem_filterMap.mp z
  obtain⟨_,L',o',g1,_,_,g4,_⟩:=hr.st.fr en he
  rw[hf] at g1;cases g1
  rw[d] at g4;cases g4
theorem xt{ks:List (Option Expr)}{js:List Nat}{es:List Expr}{dQ:jW}(pos:Pos)(h0:ks≠[])(hlen:ks.length≤15)(h:mG X P n env ν ks js es dQ)(U1:∀j∈js,j<X.tab.length):az X P n env ν (.Dict ks es pos) (.ed js dQ):=by
  revert X P n env ν ks js es dQ pos
  apply aQ;intro
  generalize bT .. =X,bU .. =P,bV .. =n,bW .. =env,cj .. =ν,ck .. =ks,cm .. =js,cp .. =es
  apply aM;intro
  generalize bI .. =dQ,bJ .. =pos
  intro h0 hlen h U1
  refine .of ?_ id
  apply aI;intro
  generalize nx .. =C
  apply aO;intro
  generalize bL .. =m,bM .. =loc,bQ .. =σ,bR .. =R
  apply aI;intro
  generalize nx .. =Φ
  intro hr h' k
  obtain⟨h1,h2,h3,h⟩:=h
  refine wpAny_Dict_walk (knd:=PySem.strKind X.prog X.w) h3 h2 h0 hlen ?_
  have Iy:(σ.s.heap.push {cls:=.type "dict",data:=.dict #[]}).get? σ.s.heap.objs.size=some {cls:=.type "dict",data:=.dict #[]}:=Heap.get?_push_size _ rfl
  have z:=hr.eG (h':=σ.s.heap.push {cls:=.type "dict",data:=.dict #[]}) (tk:=σ.s.toks) (fun a o e _=>cB _ _ a o e) (Fr.eG hr.st.F (cB _ _))
  have f:=hr.fresh (aV σ.s.heap)
  refine h pos C m loc ⟨{σ.s with heap:=σ.s.heap.push {cls:=.type "dict",data:=.dict #[]},toks:=σ.s.toks},σ.W,σ.H⟩ _ _ z.1 h' fun x us ao aC aH bX e=> ?_
  obtain⟨a1,a2,a3,a4⟩:=bX
  obtain⟨hc,e⟩:=e.el
  have Ra:((strPairs us).map (·.1)).Nodup:=by rw[a3];exact zV hr.rel.ok js U1 hc.2.2
  have WA:ao.s.heap.get? σ.s.heap.objs.size=some {cls:=.type "dict",data:=.dict #[]}:=aH.step.keep _ _ Iy f.1 f.2.2.1 f.2.2.2
  have hD:ao.s.heap.DictOf (PySem.strKind X.prog X.w) σ.s.heap.objs.size []:=by
   obtain⟨o,es,ep,g,r⟩:=Heap.DictOf.new (knd:=PySem.strKind X.prog X.w) σ.s.heap
   rw[Iy] at g
   exact⟨o,es,ep,WA.trans g,r⟩
  refine display_done_str a1 Ra hD fun h' WB hs=> ?_
  have y:=hr.Gs (o:=.ed (js.zip x)) (h':=h') (tk:=ao.s.toks+us.length) (aV _) aC (z.2.trans aH) (aH.step.own Iy f.1) (aH.step.dE Iy f.2.1) (fun b o e n=>(hs.2 b n).trans e) ⟨rfl,hr.st.F.notModules (modules_low (X.T hr.rel.ok).nolimit),strPairs us,WB,a2.mono (Ext.add ao.W (h:=σ.s.heap) (aV _) (aV _))⟩
  exact k _ _ _ y.1 y.2.1 y.2.2 e
end
end
section
open PyProof.Rows PySem.Calls PySem.W
set_option backward.match.sparseCases false
set_option genInjectivity false
structure cW(l:List Env)(W:Wd)(h:Heap)(W':Wd)(h':Heap):Prop extends Ext W h W' where
 keep:∀a o,h.get? a=some o→¬Own W a→a∉Fs l→h'.get? a=some o
 slots:∀a o,h.get? a=some o→a∈Fs l→∃sl,h'.get? a=some {o with slots:=sl}
 live:∀a o,h.get? a=some o→∃o',h'.get? a=some o'
theorem cW.step{l:List Env}{W W':Wd}{h h':Heap}(S:cW l W h W' h')(L:Addr):Step l L W h W' h':=⟨S.toExt,fun a o e n _ f=>S.keep a o e n f,fun a o e _ f=>S.slots a o e f,S.live⟩
theorem cW.trans{l:List Env}{W cA fy:Wd}{h h₁ d9:Heap}(x:cW l W h cA h₁)(y:cW l cA h₁ fy d9):cW l W h fy d9:=by
 refine⟨x.toExt.trans x.live y.toExt,fun a o e n n'=>y.keep _ _ (x.keep a o e n n') (x.own e n) n',fun a o e n'=> ?_,fun a o e=> ?_⟩
 ·obtain⟨sl,e'⟩:=x.slots a o e n'
  obtain⟨xc,Gm⟩:=y.slots a _ e' n'
  exact⟨xc,Gm⟩
 ·obtain⟨o',e'⟩:=x.live a o e
  exact y.live a o' e'
theorem cW.kept{l:List Env}{W W':Wd}{h h':Heap}(E:Ext W h W')(hk:∀a o,h.get? a=some o→h'.get? a=some o):cW l W h W' h':=
 ⟨E,fun a o e _ _=>hk a o e,fun a o e _=>⟨o.slots,hk a o e⟩,fun a o e=>⟨o,hk a o e⟩⟩
structure Dk(A:Around)(l:List Env)(n:Nat):Prop where
 handled:A.handled=none
 frames:A.frames=some l
 depth:A.depth+4 * n+1≤900
 units:A.units+20 * n+5≤9000
theorem zB.call{A:Around}{l:List Env}{n:Nat}(a:zB A l n):Dk A l n:=⟨a.handled,a.frames,by have:=a.depth;exact Cq this rfl,by have:=a.units;exact Cq this rfl⟩
theorem zB.make{A:Around}{l:List Env}{n:Nat}(a:zB A l n)(C:Addr)(rest:List Value)(kw:List (Str×Value)):Dk (A.under (.builtin "type.__call__" ⟨.ref C::rest,kw⟩)) l n:=by
 have hw:(Code.builtin "type.__call__" ⟨.ref C::rest,kw⟩).weight=1:=by
  show(Code.frames _+_)+_+_=1
  rfl
 have hu:(Code.builtin "type.__call__" ⟨.ref C::rest,kw⟩).cUnits=1:=rfl
 refine⟨a.handled,?_,?_,?_⟩
 ·exact a.frames
 ·show A.depth+_+_+_≤_
  have:=a.depth
  rw[hw];exact QK this
 ·show A.units+_+_+_≤_
  have:=a.units
  rw[hu];exact QM this
structure qY(X:Cx)(l:List Env)(W:Wd)(s:Shared)(R:PV→aa→Prop)(u:Value)(s':Shared)(v:PV)(H':aa)(W':Wd):Prop where
 step:cW l W s.heap W' s'.heap
 rel:HR X W' H' s'.heap
 val:VR X W' v u
 same:hF s s'
 ask:R v H'
structure u6(X:Cx)(l:List Env)(W:Wd)(s:Shared)(E:XK→aa→Prop)(e:Addr)(s':Shared)(H':aa)(W':Wd)(base:Heap)(a0:Value):Prop extends Ext W s.heap W' where
 rel:HR X W' H' base
 Rb:Heap.FlyingW base l e (.ref X.bad) a0 s'.heap
 keep:∀a o,s.heap.get? a=some o→¬Own W a→a∉Fs l→base.get? a=some o
 slots:∀a o,s.heap.get? a=some o→a∈Fs l→∃sl,s'.heap.get? a=some {o with slots:=sl}
 same:hF s s'
 ask:E .flying H'
def cU(X:Cx)(l:List Env)(W:Wd)(s:Shared)(R:PV→aa→Prop)(E:XK→aa→Prop)(res:Result)(s':Shared):Prop:=match res with
 |.ok (.ret u)=>∃v H' W',qY X l W s R u s' v H' W'
 |.error (.ref e)=>∃H' W' base a0,u6 X l W s E e s' H' W' base a0
 |_=>False
theorem cU.el{X:Cx}{l:List Env}{W:Wd}{s:Shared}{R:PV→aa→Prop}{E:XK→aa→Prop}{res:Result}{s':Shared}(c:cU X l W s R E res s'):
  (∃u v H' W',res=.ok (.ret u)∧qY X l W s R u s' v H' W')∨∃e H' W' base a0,res=.error (.ref e)∧u6 X l W s E e s' H' W' base a0:=by
 cases res with
 |ok f=>cases f with
  |ret u=>exact .inl ⟨u,c.imp fun _ c=>c.imp fun _ c=>c.imp fun _ c=>⟨rfl,c⟩⟩
  |_=>exact c.elim
 |error e=>cases e with
  |ref e=>exact .inr ⟨e,c.imp fun _ c=>c.imp fun _ c=>c.imp fun _ c=>c.imp fun _ c=>⟨rfl,c⟩⟩
  |_=>exact c.elim
def dU(X:Cx)(P:ef)(n:Nat):Prop:=
 ∀f A l s W H args us R E,aj P n f args H R E→HR X W H s.heap→X.h₀.objs.size≤s.heap.objs.size→j5 W s.heap l→cO X W args us→Dk A l n→
  codeAny X.M A (.call (.ref f) ⟨us,[]⟩) (cU X l W s R E) s
section
variable {X:Cx}{P:ef}{n:Nat}{env:Env}{ν:Nu}{C:Ct X n env ν}{m:Str→Option Value}{loc:Loc}{σ ao:Pt}{A:Around}{s:Shared}{W:Wd}{H:aa}{L:Addr}{l:List Env}{E:Value→Shared→Prop}
theorem jz{h h':Heap}{o:Obj}{sl:Array (Option Value)}(N:h.Ns L m)(e:h.get? L=some o)(e':h'.get? L=some {o with slots:=sl}):h'.Ns L m:=by
 obtain⟨o',es,ep,g,hd,r⟩:=N
 rw[e] at g;cases g
 exact⟨_,es,ep,e',hd,r⟩
theorem Fr.zW{h₀ h:Heap}(F:Fr h₀ L h m):h₀.objs.size≤h.objs.size:=by
 obtain⟨o,e⟩:=Fr.live F
 exact Nat.le_trans F.above (Nat.le_of_lt (Heap.lt_size e))
theorem cU.back{R:PV→aa→Prop}{Φ:Value→Shared→Prop}{K:XK→aa→Prop}(hr:Here C m loc σ)(k:Good C m loc σ (VR X) R Φ)(hK:∀H,K .flying H→C.E .flying loc H){res:Result}{s':Shared}(c:cU X C.l σ.W σ.s R K res s'):match res with
  |.ok (.ret u)=>Φ u s'
  |.ok _=>False
  |.error e=>C.Ψ e s':=by
 obtain⟨oL,eL⟩:=Fr.live hr.st.F
 have main:∀{h'},(∀b o,X.h₀.get? b=some o→h'.get? b=some o)→(env.locals∈Fs C.l→∃sl,h'.get? env.locals=some {oL with slots:=sl})→(env.locals∉Fs C.l→h'.get? env.locals=some oL)→Fr X.h₀ env.locals h' m:=fun hk h1 h2=>by
  refine⟨?_,hk,hr.st.F.above⟩
  by_cases hf:env.locals∈Fs C.l
  ·obtain⟨sl,e'⟩:=h1 hf
   exact jz hr.st.F.ns eL e'
  ·exact jz (sl:=oL.slots) hr.st.F.ns eL (h2 hf)
 rcases c.el with⟨u,v,H',W',rfl,c1⟩|⟨e,H',W',base,a0,rfl,c1⟩
 ·have x:Le C.l env.locals σ ⟨s',W',H'⟩:=⟨c1.step.step env.locals,c1.same⟩
  exact k v _ ⟨s',W',H'⟩ (hr.go x (hr.st.next x.step (main c1.rel.keep (c1.step.slots _ _ eL) (c1.step.keep _ _ eL hr.st.dT)) c1.rel)) x c1.val c1.ask
 ·exact Ct.raise hr (k:=.flying) ⟨c1.toExt,c1.rel,⟨a0,c1.Rb⟩,fun a o e n _ f=>c1.keep a o e n f,fun a o e _ f=>c1.slots a o e f⟩ (main (fun b o e=>c1.Rb.1 b o (c1.rel.keep b o e)) (c1.slots _ _ eL) fun hf=>c1.Rb.1 _ _ (c1.keep _ _ eL hr.st.dT hf)) c1.same (hK _ c1.ask)
theorem cU.wp{R:PV→aa→Prop}{Φ:Value→Shared→Prop}{K:XK→aa→Prop}{f:Addr}{us:List Value}(hr:Here C m loc σ)(k:Good C m loc σ (VR X) R Φ)(hK:∀H,K .flying H→C.E .flying loc H)(c:codeAny X.M C.A (.call (.ref f) ⟨us,[]⟩) (cU X C.l σ.W σ.s R K) σ.s):wpAny X.M C.A (call (.ref f) us) Φ C.Ψ σ.s:=
 wpAny_call (codeAny_mono c fun res s' c=>by have:=cU.back hr k hK c;rcases res with x|(_|_|_|_)<;>exact this)
theorem oo{M:Model}{f:Value}{Q:Args→Shared→Prop}(h:wpAny M A (spliced []) (fun vs s'=>Q ⟨vs,[]⟩ s') E s):wpAny M A (evalArgs f true [] []) Q E s:=by
 unfold evalArgs
 show wpAny M A (spliced [] >>= _) Q E s
 refine wpAny_bind (wpAny_mono h (fun vs bc h₁=> ?_) fun _ _ x=>x)
 refine wpAny_bind (wpAny_pure ?_)
 refine wpAny_holding ?_
 exact wpAny_bind (wpAny_pure (wpAny_bind (wpAny_pure (wpAny_pure h₁))))
theorem pS{A:Around}{f:Value}{es:List Expr}{pos:Pos}{Q:Args→Shared→Prop}(fA:es=[]∨∃y rest,starEach es env=(false,y)::rest)(h:wpAny X.M A (spliced (backTo pos (starEach es env))) (fun vs s'=>Q ⟨vs,[]⟩ s') E s):wpAny X.M A (evalArgs f true (backTo pos (starEach es env)) []) Q E s:=by
 rcases fA with rfl|⟨y,rest,iN⟩
 ·exact oo h
 ·rw[iN] at h ⊢
  exact evalArgs_plain h
theorem mH{x:Str}{f:Nat}{es:List Expr}{dQ:jW}{K:List PV→aa→Prop}{Φ:Value→Shared→Prop}(p pos:Pos)(ev:EnvOk env)(hx:env.kindOf x=some .globalImplicit)(hd:(x == ("__debug__":Str))=false)(en:nsIn X.K mainGlobals x=some (some (.ref f)))
  (hk:keepIn X.K (.ref f)=true) (gG:(backTo pos (starEach es env)).any (·.1)=false) (fA:es=[]∨∃y rest,starEach es env=(false,y)::rest) (hs:gS X P n env ν es dQ) (hr:Here C m loc σ) (h:wEs P (aj P n) dQ loc σ.H K fun k H=>C.E k loc H)
  (hc:∀args us ae,Here C m loc ae→Le C.l env.locals σ ae→cO X ae.W args us→K args ae.H→wpAny X.M C.A (call (.ref f) us) Φ C.Ψ ae.s):
  wpAny X.M C.A (eval (.Call (.Name x p) es [] pos) env) Φ C.Ψ σ.s:=by
 refine wpAny_Call_Name_kw (nameG_K hr.st.F (X.X hr.rel.ok) (X.T hr.rel.ok) en ?_ ev.globals ev.kind hx hd)
 show wpAny X.M C.A (callWith pos (.ref f) [] (backTo pos (starEach es env)) []) _ _ σ.s
 exact callWith_of (P:=X.K.In) (by rw[gG];rfl) (keeps_K hk) (pS fA (hs pos C m loc σ K _ hr h fun args us ae au ay aK h=>⟨au.rel.yT,hc args us ae au ay aK h⟩))
theorem xu{x:Str}{f:Nat}{es:List Expr}{dQ:jW}(p pos:Pos)(co:dU X P n)(ev:EnvOk env)(hx:env.kindOf x=some .globalImplicit)(hd:(x == ("__debug__":Str))=false)(en:nsIn X.K mainGlobals x=some (some (.ref f)))
  (hk:keepIn X.K (.ref f)=true) (gG:(backTo pos (starEach es env)).any (·.1)=false) (fA:es=[]∨∃y rest,starEach es env=(false,y)::rest) (hs:gS X P n env ν es dQ):
  az X P n env ν (.Call (.Name x p) es [] pos) (.ah f dQ):=
 .Iu (fun C m loc σ R Φ hr h k=>mH p pos ev hx hd en hk gG fA hs hr h fun args us ae au ay aK h=>cU.wp (K:=fun k H=>C.E k loc H) au (k.le ay) (fun _ z=>z) (co f C.A C.l ae.s ae.W ae.H args us R _ (Wc.el h) au.rel (Fr.zW au.st.F) au.st.fr aK (C.ak hr.ok).call)) id
theorem HR.add{h:Heap}(R:HR X W H h){p:Addr×Addr}{o:aF}{h':Heap}(hk:∀a o,h.get? a=some o→h'.get? a=some o)(d1:h.get? p.1=none)(d2:h.get? p.2=none)
  (ho:fw X (W.add p) h' p o):HR X (W.add p) (H++[o]) h':=
 R.zz (L:=p.1) (R.dead d1) (fun x=>by obtain⟨o,e⟩:=R.fe x;rw[d1] at e;cases e) (fun a o e _=>hk a o e) d1 d2 ho
theorem Dl(pk:oj X P)(co:dU X P n){c:Nat}{args:List PV}{us:List Value}{R:PV→aa→Prop}{K:XK→aa→Prop}(e:cC P (aj P n) c args H R K)(rel:HR X W H s.heap)(hz:X.h₀.objs.size≤s.heap.objs.size)(fr:j5 W s.heap l)(v:cO X W args us)(ak:zB A l n):
  codeAny X.M A (.call (.ref c) ⟨us,[]⟩) (cU X l W s R K) s:=by
 unfold cC at e
 split at e
 ·rename_i k hk
  split at e
  ·rename_i f hf
   have Q:=pk.Gq c k hk
   obtain⟨hi,Rc⟩:=Q.init f hf
   obtain⟨hp,g,d,t,os⟩:=s
   have KI:=rel.yT
   refine make_core (makes_of KI Q.makes) (looks_findIn KI hi) (fun self=>bind_fn KI self (beq_iff_eq.mp Rc)) (.inl rfl) ?_
   obtain⟨dd,sz⟩:=ki hp emptyDict
   let p:Addr×Addr:=(hp.objs.size+1,hp.objs.size)
   have Mu:=fz hp emptyDict (instObj c hp.objs.size)
   have E:=Ext.add W (p:=p) dd (aV hp)
   have R2:HR X (W.add p) (H++[.inst c []]) ((hp.push emptyDict).push (instObj c hp.objs.size)):=
    HR.add rel Mu dd (aV hp) ⟨⟨Q.known,Nat.succ_ne_self _⟩,jy _ _ _ rfl,fun _=>none,⟨emptyDict,#[],0,cB _ _ _ _ (Heap.get?_push_size _ rfl),rfl,fun e he=>absurd he (Array.not_mem_empty _),fun _=>rfl,Nat.le_refl _⟩,fun n hn=>rfl⟩
   have S2:cW l W hp (W.add p) ((hp.push emptyDict).push (instObj c hp.objs.size)):=cW.kept E Mu
   have WC:j5 (W.add p) ((hp.push emptyDict).push (instObj c hp.objs.size)) l:=fun en he=>by
    obtain⟨a1,L',o',h1,h2,h3,h4,h5⟩:=fr en he
    exact⟨a1,L',o',h1,E.dE h4 h2,E.own h4 h3,Mu _ _ h4,h5⟩
   have vp:VR X (W.add p) (.ref H.length) (.ref (hp.objs.size+1)):=by rw[←rel.len];exact .ref _ p (W.sX p)
   refine codeAny_mono (co f (A.under (.builtin "type.__call__" ⟨.ref c::us,[]⟩)) l ⟨(hp.push emptyDict).push (instObj c hp.objs.size),g,d,t,os⟩ (W.add p) (H++[.inst c []]) (.ref H.length::args) (.ref (hp.objs.size+1)::us) _ _ e R2 (by rw[Heap.size_push,sz];exact Nat.le_succ_of_le (Nat.le_succ_of_le hz)) WC (.cons vp (v.mono E)) (ak.make c us [])) fun res s' ce=> ?_
   rcases ce.el with⟨u',v',H',W',rfl,c1⟩|⟨_,_,_,_,_,_,c1⟩
   ·have a:=c1.ask
    cases v' with
    |none=>
     obtain rfl:=c1.val.none_inv
     exact⟨rfl,_,H',W',S2.trans c1.step,c1.rel,vp.mono c1.step.toExt,c1.same,a⟩
    |_=>exact a.elim
   ·exact c1.ask.elim
  ·exact e.elim
 ·exact e.elim
theorem xv{x:Str}{c:Nat}{es:List Expr}{dQ:jW}(p pos:Pos)(pk:oj X P)(co:dU X P n)(ev:EnvOk env)(hx:env.kindOf x=some .globalImplicit)(hd:(x == ("__debug__":Str))=false)(en:nsIn X.K mainGlobals x=some (some (.ref c)))
  (hk:keepIn X.K (.ref c)=true) (gG:(backTo pos (starEach es env)).any (·.1)=false) (fA:es=[]∨∃y rest,starEach es env=(false,y)::rest) (hs:gS X P n env ν es dQ):
  az X P n env ν (.Call (.Name x p) es [] pos) (.callC c dQ):=
 .of (fun C m loc σ R Φ hr h k=>mH p pos ev hx hd en hk gG fA hs hr h fun args us ae au ay aK h=>cU.wp (K:=fun k H=>C.E k loc H) au (k.le ay) (fun _ z=>z) (Dl pk co (Wc.el h) au.rel (Fr.zW au.st.F) au.st.fr aK (C.ak hr.ok))) id
theorem zX{x:Str}{v:Value}{Q:Value→Shared→Prop}(pos:Pos)(ev:EnvOk env)(hr:Here C m loc σ)(hx:env.kindOf x=some .globalImplicit)(hd:(x == ("__debug__":Str))=false)(e:nsIn X.K mainGlobals x=some none)(hv:bootBuiltins x=some v)(hn:x≠"__name__")(q:Q v σ.s):
  wpAny X.M A (eval (.Name x pos) env) Q E σ.s:=
 Calls.Name_function_global ev.kind hx (Calls.loadGlobal_builtin (by rw[ev.globals];exact(X.T hr.rel.ok).g.keeps hr.st.F.keep) (mg_none_of (X.X hr.rel.ok) (X.T hr.rel.ok).g e) (by rw[ev.builtins];exact(X.T hr.rel.ok).b.keeps hr.st.F.keep) (((X.T hr.rel.ok).builtins x hn).trans hv) q) hd
noncomputable def notRef:Value→Bool
 |.ref _=>false
 |_=>true
theorem hG{M:Model}{v:Value}(h:notRef v=true)(hp:Heap):∃k,(k=Keeper.frame∨k=Keeper.machine∨k=Keeper.boundFrame)∧Looks M hp (keeperOf v) k:=
 ⟨.machine,.inr (.inl rfl),Looks.of_pure (by cases v<;>first|rfl|cases h)⟩
theorem eh{x:Str}{v:Value}{es:List Expr}{Q:Value→Shared→Prop}(p pos:Pos)(ev:EnvOk env)(hr:Here C m loc σ)(hx:env.kindOf x=some .globalImplicit)(hd:(x == ("__debug__":Str))=false)(e:nsIn X.K mainGlobals x=some none)(hv:bootBuiltins x=some v)(hn:x≠"__name__")
  (Mv:notRef v=true) (gG:(backTo pos (starEach es env)).any (·.1)=false) (fA:es=[]∨∃y rest,starEach es env=(false,y)::rest)
  (h:wpAny X.M A (spliced (backTo pos (starEach es env))) (fun vs bc=>wpAny X.M A (call v vs) Q E bc) E σ.s):wpAny X.M A (eval (.Call (.Name x p) es [] pos) env) Q E σ.s:=by
 refine wpAny_Call_Name_kw (zX p ev hr hx hd e hv hn ?_)
 show wpAny X.M A (callWith pos v [] (backTo pos (starEach es env)) []) _ _ σ.s
 exact callWith_of (P:=fun _=>True) (by rw[gG];rfl) (fun h _=>hG Mv h) (pS fA (wpAny_mono h (fun _ _ z=>⟨trivial,z⟩) fun _ _ z=>z))
def dK(X:Cx)(b:BF)(v:Value):Prop:=
 ∀{n env ν} {C:Ct X n env ν} {m loc σ R Φ E args us},Here C m loc σ→Good C m loc σ (VR X) R Φ→cO X σ.W args us→UU b args σ.H R→wpAny X.M C.A (call v us) Φ E σ.s
theorem xw{x:Str}{v:Value}{b:BF}{es:List Expr}{dQ:jW}(p pos:Pos)(lf:dK X b v)(ev:EnvOk env)(hx:env.kindOf x=some .globalImplicit)(hd:(x == ("__debug__":Str))=false)(e:nsIn X.K mainGlobals x=some none)(hv:bootBuiltins x=some v)(hn:x≠"__name__")
  (Mv:notRef v=true) (gG:(backTo pos (starEach es env)).any (·.1)=false) (fA:es=[]∨∃y rest,starEach es env=(false,y)::rest) (hs:gS X P n env ν es dQ):
  az X P n env ν (.Call (.Name x p) es [] pos) (.bC b dQ):=
 .of (fun C m loc σ R Φ hr h k=>eh p pos ev hr hx hd e hv hn Mv gG fA (hs pos C m loc σ _ _ hr h fun args us ae au ay aK h=>lf au (k.le ay) aK h)) id
theorem one{vs:List PV}{us:List Value}{k:PV→Prop}(h:w1 vs k)(v:cO X W vs us):∃a u,us=[u]∧VR X W a u∧k a:=by
 obtain⟨a,rfl,h⟩:=w1.el h
 obtain⟨u,r,rfl,x,y⟩:=v.cons_inv
 rw[y.nil_inv]
 exact⟨a,u,rfl,x,h⟩
theorem Gu{vs:List PV}{us:List Value}{k:List PV→Prop}(h:w1 vs fun a=>dp a fun r=>wL H r k)(v:cO X W vs us){hp:Heap}(R:HR X W H hp):∃a xs c l,us=[.ref a]∧hp.get? a=some (lst xs.toArray c)∧cO X W l xs∧k l:=by
 obtain⟨a,u,rfl,x,h1⟩:=one h v
 obtain⟨r,rfl,h2⟩:=dp.el h1
 obtain⟨l,e,h3⟩:=wL.el h2
 obtain⟨a,xs,c,rfl,_,g,r⟩:=R.cK x e
 exact⟨a,xs,c,l,rfl,g,r,h3⟩
theorem Mw{vs:List PV}{us:List Value}{k:Int→Int→Prop}(h:w2 vs fun a b=>wI a fun i=>wI b fun j=>k i j)(v:cO X W vs us):∃i j t u,us=[.int i t,.int j u]∧k i j:=by
 obtain⟨a,b,rfl,h⟩:=w2.el h
 obtain⟨u,r,rfl,x,y⟩:=v.cons_inv
 obtain⟨w,r,rfl,y,z⟩:=y.cons_inv
 rw[z.nil_inv]
 obtain⟨i,j,t,u,rfl,rfl,h⟩:=i8 h x y
 exact⟨i,j,t,u,rfl,h⟩
theorem Mx{vs:List PV}{us:List Value}{k:List PV→Prop}(h:w1 vs fun a=>Gj H a k)(v:cO X W vs us){hp:Heap}(R:HR X W H hp):∃a xs c l o T,us=[.ref a]∧(T="list"∨T="tuple")∧hp.get? a=some o∧o.cls=.type T∧o.data=.seq xs.toArray c∧cO X W l xs∧l.length<100000∧k l:=by
 revert X W H vs us k hp
 apply aO;intro
 generalize bL .. =X,bM .. =W,bQ .. =H,bR .. =vs
 apply aM;intro
 generalize bI .. =us,bJ .. =k
 intro h v
 apply aI;intro
 generalize nx .. =hp
 intro R
 obtain⟨a,u,rfl,x,h1⟩:=one h v
 cases a with
 |tup l=>
  obtain⟨a,xs,rfl,⟨o,g,hc,c,hd⟩,r⟩:=fI R x
  exact⟨a,xs,c,l,o,"tuple",rfl,.inr rfl,g,hc,hd,r,WG.el h1⟩
 |ref r=>
  obtain⟨l,e,h2⟩:=wL.el h1
  obtain⟨a,xs,c,rfl,_,g,r⟩:=R.cK x e
  exact⟨a,xs,c,l,_,"list",rfl,.inl rfl,g,rfl,rfl,r,h2.el⟩
 |_=>exact h1.elim
theorem not_nil{α:Type}{a:α}:a∉([]:List α):=List.not_mem_nil
theorem Gv:dK X .abs (.builtin "abs"):=fun hr k v h=>by
 obtain⟨a,u,rfl,x,h1⟩:=one h v
 obtain⟨i,rfl,h2⟩:=wI.el h1
 obtain⟨t,rfl⟩:=x.int_inv
 exact call_abs_int fun u tk=>cL k hr h2 (.int _ _)
theorem Gw:dK X .min (.builtin "min"):=fun {n env ν C m loc σ R Φ E args us} hr k v h=>by
 obtain⟨i,j,t,u,rfl,h1⟩:=Mw h v
 exact min_two_N (C.ak hr.ok).handled hr.st.F (gi X.h₀ σ.s.heap env.locals []) fun h' tk F' N'=>jv k hr h1 (.int _ _) (fun a o e q=>gj hr.st.F F' (fun p hp=>(N' p hp).1) a o e q not_nil) F'
theorem Gx:dK X .max (.builtin "max"):=fun {n env ν C m loc σ R Φ E args us} hr k v h=>by
 obtain⟨i,j,t,u,rfl,h1⟩:=Mw h v
 exact max_two_N (C.ak hr.ok).handled hr.st.F (gi X.h₀ σ.s.heap env.locals []) fun h' tk F' N'=>jv k hr h1 (.int _ _) (fun a o e q=>gj hr.st.F F' (fun p hp=>(N' p hp).1) a o e q not_nil) F'
theorem Gy:dK X .len (.builtin "len"):=fun {n env ν C m loc σ R Φ E args us} hr k v h=>by
 obtain⟨a,xs,c,l,o,T,rfl,hT,g,hc,hd,r,hz,h1⟩:=Mx h v hr.rel
 have q:∀t tk,Φ (.int (xs.toArray.size:Nat) t) {σ.s with toks:=tk}:=fun t tk=>by rw[List.size_toArray,←r.length];exact cL k hr h1 (.int _ _)
 rcases hT with rfl|rfl
 ·exact call_len_list ⟨o,g,hc,c,hd⟩ (by rw[List.size_toArray,←r.length];exact wa (Int.ofNat_lt.mpr hz) rfl) (q _ _)
 ·exact len_tuple ⟨o,g,hc,c,hd⟩ (by rw[List.size_toArray,←r.length];exact wa (Int.ofNat_lt.mpr hz) rfl) (q _ _)
theorem Dn:dK X .list (.type "list"):=fun {n env ν C m loc σ R Φ E args us} hr k v h=>by
 obtain⟨a,xs,c,l,o,T,rfl,hT,g,hc,hd,r,hz,h1⟩:=Mx h v hr.rel
 refine call_list_seq a hT g hc hd (fun h' c' hk hD=> ?_) (by rw[List.size_toArray,←r.length,sizeLine_eq];exact ly hz rfl)
 exact uY (p:=(σ.s.heap.objs.size,σ.s.heap.objs.size)) (tk:=σ.s.toks) k hr h1 hk (aV _) (aV _) ⟨rfl,xs,c',hD,r.mono (.add σ.W (aV σ.s.heap) (aV σ.s.heap))⟩ rfl
theorem zY{h h':Heap}(hk:∀a o,h.get? a=some o→h'.get? a=some o):h.get? h'.objs.size=none:=by
 cases q:h.get? h'.objs.size with
 |none=>rfl
 |some o=>exact absurd (Heap.lt_size (hk _ _ q)) (Nat.lt_irrefl _)
theorem zZ:dK X .tuple (.type "tuple"):=fun {n env ν C m loc σ R Φ E args us} hr k v h=>by
 obtain⟨a,xs,c,l,rfl,g,r,h1⟩:=Gu h v hr.rel
 have hz:=h1.el.1
 exact call_tuple_list (aJ g) (fun h' hk=>mE (tk:=σ.s.toks) k hr h1.el.2 (fun a o e=>cB _ _ _ _ (hk _ _ e)) (zY hk) (Heap.get?_push_size _ rfl) rfl rfl r rfl) (by rw[List.size_toArray,←r.length,sizeLine_eq];exact ly hz rfl)
theorem Gz:dK X .sum (.builtin "sum"):=fun {n env ν C m loc σ R Φ E args us} hr k v h=>by
 obtain⟨a,xs,c,l,rfl,g,r,h1⟩:=Gu h v hr.rel
 obtain⟨ns,e,h2⟩:=h1.el
 exact sumK (C.ak hr.ok).handled hr.st.F (gi X.h₀ σ.s.heap env.locals []) (aJ g) (j9 e r) fun h' tk t' F' N'=>jv k hr h2 (.int _ _) (fun a o e q=>gj hr.st.F F' (fun p hp=>(N' p hp).1) a o e q not_nil) F'
theorem GA:dK X .int (.type "int"):=fun {n env ν C m loc σ R Φ E args us} hr k v h=>by
 obtain⟨a,u,rfl,x,h1⟩:=one h v
 obtain⟨b,rfl,h2⟩:=EG.el (k:=fun b=>R (.int (if b then 1 else 0)) σ.H) h1
 rw[x.bool_inv]
 exact call_int_bool (cL k hr h2 (.int _ _))
theorem z4:dK X .bytes (.type "bytes"):=fun {n env ν C m loc σ R Φ E args us} hr k v h=>by
 obtain⟨a,xs,c,l,rfl,g,r,h1⟩:=Gu h v hr.rel
 obtain⟨ns,e,h2⟩:=h1.el
 have hz:=h2.el.1
 have I:=j9 e r
 exact call_bytes_ints (aJ g) I hz.2 (by have:=I.length;rw[sizeLine_eq];omega) (C.ak hr.ok).handled fun h' t c hk=>jv k hr h2.el.2 (.bytes _ _) (fun a o e _=>hk a o e) (Fr.eG hr.st.F hk)
end
end
section
open PyProof.Rows PySem.Calls PySem.W
set_option backward.match.sparseCases false
theorem fK(x:Int)(l:List Int):(insertSorted x l).Perm (x::l):=by
 induction l with
 |nil=>
  exact .refl _
 |cons y r ih=>
  rw[eg]
  split
  ·exact .refl _
  ·exact((ih).cons y).trans (.swap x y r)
theorem oq(l:List Int):(bZ l).Perm l:=by
 induction l with
 |nil=>
  exact .refl _
 |cons x r ih=>
  exact(fK x _).trans ((ih).cons x)
theorem iO(x:Int)(l:List Int):l.Pairwise (· ≤·)→(insertSorted x l).Pairwise (· ≤·):=by
 induction l with
 |nil=>
  intro _
  exact List.pairwise_singleton _ _
 |cons y r ih=>
  intro h
  have h':=List.pairwise_cons.mp h
  rw[eg]
  split
  ·rename_i q
   refine List.pairwise_cons.mpr ⟨fun z hz=> ?_,h⟩
   rcases List.mem_cons.mp hz with rfl|hz
   ·exact q
   ·exact Int.le_trans q (h'.1 z hz)
  ·rename_i q
   refine List.pairwise_cons.mpr ⟨fun z hz=> ?_,ih h'.2⟩
   rcases List.mem_cons.mp ((fK x r).mem_iff.mp hz) with rfl|hz
   ·exact Int.le_of_lt (Int.not_le.mp q)
   ·exact h'.1 z hz
theorem lC(l:List Int):(bZ l).Pairwise (· ≤·):=by
 induction l with
 |nil=>
  exact .nil
 |cons x r ih=>
  exact iO x _ (ih)
theorem ot{a b:List Int}(p:a.Perm b)(s:a.Pairwise (· ≤·)):a=bZ b:=
 List.Perm.eq_of_pairwise (fun _ _ _ _ h1 h2=>Int.le_antisymm h1 h2) s (lC b) (p.trans (oq b).symm)
theorem qZ{h:Heap}{a:Addr}{sW:Array Value}{k:Nat}(g:h.get? a=some (lst sW k)):∀b,Value.ref a=.ref b→∃o,h.get? b=some o∧o.dict=none:=fun b e=>by cases e;exact⟨_,g,rfl⟩
theorem fw.mI{X:Cx}{W:Wd}{h:Heap}{a:Addr}{sW:Array Value}{k:Nat}{f:Array Value→Array Value}{ls:List PV}(g:h.get? a=some (lst sW k))(r:cO X W ls (f sW).toList):fw X W (h.update a (Obj.mapSeq f)) (a,a) (.list ls):=
 ⟨rfl,(f sW).toList,_,IsL.update (l:=a) g f,r⟩
theorem hJ{h:Heap}{a:Addr}{f:Obj→Obj}:∀b o,h.get? b=some o→b≠a→(h.update a f).get? b=some o:=fun _ _ e q=>(Heap.get?_update_other h f (fun z=>q z.symm)).trans e
noncomputable def notStar(e:Expr):Bool:= !(e.ctorIdx == 22)
theorem aD{a:Expr}(h:notStar a=true)(es:List Expr)(env:Env):starEach (a::es) env=(false,eval a env)::starEach es env:=by
 cases a<;>first|rfl|cases h
section
variable {X:Cx}{P:ef}{n:Nat}{env:Env}{ν:Nu}{C:Ct X n env ν}{m:Str→Option Value}{loc:Loc}{σ ao:Pt}{A:Around}{s:Shared}{W:Wd}{H:aa}{L:Addr}{l:List Env}{E:Value→Shared→Prop}
theorem DR.keys{es:List (Int×PV)}{kvs:List (Int×Value)}(h:DR X W es kvs):es.map (·.1)=kvs.map (·.1):=by
 induction h with
 |nil=>rfl
 |cons _ _ ih=>exact congrArg _ ih
theorem DR.length{es:List (Int×PV)}{kvs:List (Int×Value)}(h:DR X W es kvs):es.length=kvs.length:=by
 induction h with
 |nil=>rfl
 |cons _ _ ih=>exact congrArg (· +1) ih
theorem xx{vs:List Value}:∀{ks:List Int},vs.length=ks.length→(∀(j:Nat) (v:Value),vs[j]? =some v→∃k t,ks[j]? =some k∧v=Value.int k t)→IntsAre vs ks:=by
 induction vs with
 |nil=>intro ks hl _;rw[List.eq_nil_of_length_eq_zero hl.symm];exact .nil
 |cons v vs ih=>
  intro ks hl h
  obtain⟨k',t,e,rfl⟩:=h 0 v rfl
  cases ks with
  |nil=>exact cu e
  |cons k ks=>
   cases e
   exact .cons _ _ (ih (Nat.succ.inj hl) fun j v e=>h (j+1) v e)
theorem Dp{vs:List Value}{ks:List Int}(h:IntsAre vs ks):cO X W (ks.map .int) vs:=by
 induction h with
 |nil=>exact .nil
 |cons i t _ ih=>exact .cons (.int i t) ih
theorem Rd{vs:List PV}{us:List Value}{k:List (Int×PV)→Prop}(h:w1 vs fun a=>dp a fun r=>xb H r k)(v:cO X W vs us){hp:Heap}(R:HR X W H hp):∃a kvs l,us=[.ref a]∧(a == sysModules)=false∧hp.DictOf (intKind X.prog X.w) a kvs∧DR X W l kvs∧k l:=by
 revert X W H vs us k hp
 apply aO;intro
 generalize bL .. =X,bM .. =W,bQ .. =H,bR .. =vs
 apply aM;intro
 generalize bI .. =us,bJ .. =k
 intro h v
 apply aI;intro
 generalize nx .. =hp
 intro R
 obtain⟨a,u,rfl,x,h1⟩:=one h v
 obtain⟨r,rfl,h2⟩:=dp.el h1
 obtain⟨l,e,h3⟩:=xb.el h2
 obtain⟨a,kvs,rfl,_,sm,g,r⟩:=R.gF x e
 exact⟨a,kvs,l,rfl,sm,g,r,h3⟩
theorem xy:dK X .sorted (.builtin "sorted"):=fun {n env ν C m loc σ R Φ E args us} hr k v h=>by
 obtain⟨a,kvs,es,rfl,sm,dk,dr,h1⟩:=Rd h v hr.rel
 obtain⟨hz,h1⟩:=h1.el
 obtain⟨ep,dat⟩:=dk.dictAt
 have hlen:=dr.length
 have F:=hr.st.F
 refine kdu_sorted (kdl_dict (knd:=intKind X.prog X.w) (kvs:=kvs) (ep:=ep) sm) (C.ak hr.ok).handled F (gi X.h₀ σ.s.heap env.locals []) dat (by rw[sizeLine_eq];exact hlen▸ly hz rfl) fun D h' tk vs F' N' l1 U2 hv=> ?_
 have hI:IntsAre vs (kvs.map (·.1)):=xx (by rw[U2,List.length_map]) fun j v e=>by
  obtain⟨k,x,hx,hk⟩:=hv j v e
  obtain⟨t,rfl⟩:=Value.isInt_shape hk
  exact⟨k,t,by rw[List.getElem?_map,hx];rfl,rfl⟩
 obtain⟨hD,nL,n0⟩:=N' _ (.head _)
 have hD:h'.get? D=some (seqObj "list" vs.toArray 0):=hD
 refine wpAny_call_entry slot_list_sort ⟨_,hD,rfl⟩ entry_list_sort (list_sort_tree hD hI (by exact cE (Nat.lt_of_le_of_lt (Nat.le_of_eq (U2.trans hlen.symm)) hz) rfl) fun out Zh a1 a2 a3=>⟨_,rfl,?_⟩) (args_list_sort _)
 obtain rfl:=ot a2 a3
 have z6:σ.s.heap.get? D=none:=by
  cases q:σ.s.heap.get? D with
  |none=>rfl
  |some o=>exact absurd (l1 (D,o) (mD.mpr ⟨q,nL,not_nil,n0⟩)) (Nat.lt_irrefl _)
 obtain⟨c,hc⟩:=sortedHeap_at (vs:=vs) (out:=out) hD
 have old:∀a o,h'.get? a=some o→a≠D→(sortedHeap h' D vs out).get? a=some o:=fun a o e q=>by rw[sortedHeap_old q (Heap.lt_size e)];exact e
 have F2:Fr X.h₀ env.locals (sortedHeap h' D vs out) m:=by
  obtain⟨o,Rf,Rg,g,r⟩:=F'.ns
  exact⟨⟨o,Rf,Rg,old _ _ g (Ne.symm nL),r⟩,fun b o e=>old b o (F'.keep b o e) (fun z=>by rw[z,n0] at e;cases e),F'.above⟩
 rw[dr.keys] at h1
 exact zC (p:=(D,D)) k hr h1 (fun a o e q=>old a o (gj F F' (fun p hp=>(N' p (List.mem_cons_of_mem _ hp)).1) a o e q not_nil) (fun z=>by rw[z,z6] at e;cases e)) F2 z6 z6 ⟨rfl,out.toList,c,hc,Dp a1⟩
theorem z7{x y:Str}{T:String}{a:Expr}{ia:IE}{K:PV→aa→Prop}{Φ:Value→Shared→Prop}(p p2 pos:Pos)(ev:EnvOk env)(hx:env.kindOf x=some .globalImplicit)(hd:(x == ("__debug__":Str))=false)(e:nsIn X.K mainGlobals x=some none)(hv:bootBuiltins x=some (.builtin "isinstance"))(hn:x≠"__name__")
  (hy:env.kindOf y=some .globalImplicit) (hd2:(y == ("__debug__":Str))=false) (e2:nsIn X.K mainGlobals y=some none) (My:bootBuiltins y=some (.type T)) (Mz:y≠"__name__")
  (iN:starEach [a,.Name y p2] env=[(false,eval a env),(false,eval (.Name y p2) env)]) (ha:az X P n env ν a ia) (hr:Here C m loc σ) (h:wE P (aj P n) ia loc σ.H K fun k H=>C.E k loc H)
  (q:∀v u ae,Here C m loc ae→Le C.l env.locals σ ae→VR X ae.W v u→K v ae.H→wpAny X.M C.A (call (.builtin "isinstance") [u,.type T]) Φ C.Ψ ae.s):
  wpAny X.M C.A (eval (.Call (.Name x p) [a,.Name y p2] [] pos) env) Φ C.Ψ σ.s:=by
 have lR:(backTo pos (starEach [a,.Name y p2] env)).any (·.1)=false:=by rw[iN];rfl
 exact eh p pos ev hr hx hd e hv hn rfl lR (.inr ⟨_,_,iN⟩) (wpAny_items_cons (ha.ev C m loc σ K _ hr h fun v u ae au ay aK h=>wpAny_items_cons (zX p2 ev au hy hd2 e2 My Mz (wpAny_items_nil (q v u ae au ay aK h))) rfl) (by rw[iN];rfl))
theorem xA{x y:Str}{a:Expr}{ia:IE}(p p2 pos:Pos)(ev:EnvOk env)(hx:env.kindOf x=some .globalImplicit)(hd:(x == ("__debug__":Str))=false)(e:nsIn X.K mainGlobals x=some none)(hv:bootBuiltins x=some (.builtin "isinstance"))(hn:x≠"__name__")
  (hy:env.kindOf y=some .globalImplicit) (hd2:(y == ("__debug__":Str))=false) (e2:nsIn X.K mainGlobals y=some none) (My:bootBuiltins y=some (.type "int")) (Mz:y≠"__name__")
  (iN:starEach [a,.Name y p2] env=[(false,eval a env),(false,eval (.Name y p2) env)]) (ha:az X P n env ν a ia):az X P n env ν (.Call (.Name x p) [a,.Name y p2] [] pos) (.isInt ia):=
 .Iu (fun C m loc σ R Φ hr h k=>z7 p p2 pos ev hx hd e hv hn hy hd2 e2 My Mz iN ha hr h fun v u ae au ay aK h=>by
  cases v with
  |int i=>obtain⟨t,rfl⟩:=aK.int_inv;exact IsiPair.int_int (gE (k.le ay) au h (.bool _))
  |bool b=>rw[aK.bool_inv];exact IsiPair.bool_int (gE (k.le ay) au h (.bool _))
  |_=>exact h.elim) id
theorem th{x y:Str}{a:Expr}{ia:IE}(p p2 pos:Pos)(ev:EnvOk env)(hx:env.kindOf x=some .globalImplicit)(hd:(x == ("__debug__":Str))=false)(e:nsIn X.K mainGlobals x=some none)(hv:bootBuiltins x=some (.builtin "isinstance"))(hn:x≠"__name__")
  (hy:env.kindOf y=some .globalImplicit) (hd2:(y == ("__debug__":Str))=false) (e2:nsIn X.K mainGlobals y=some none) (My:bootBuiltins y=some (.type "bool")) (Mz:y≠"__name__")
  (iN:starEach [a,.Name y p2] env=[(false,eval a env),(false,eval (.Name y p2) env)]) (ha:az X P n env ν a ia):az X P n env ν (.Call (.Name x p) [a,.Name y p2] [] pos) (.isBool ia):=
 .Iu (fun C m loc σ R Φ hr h k=>z7 p p2 pos ev hx hd e hv hn hy hd2 e2 My Mz iN ha hr h fun v u ae au ay aK h=>by
  cases v with
  |int i=>obtain⟨t,rfl⟩:=aK.int_inv;exact IsiPair.int_bool (cL (k.le ay) au h (.bool _))
  |bool b=>rw[aK.bool_inv];exact IsiPair.bool_bool (gE (k.le ay) au h (.bool _))
  |_=>exact h.elim) id
def Dq(X:Cx)(env:Env)(y:Str)(T:String):Prop:=env.kindOf y=some .globalImplicit∧(y == ("__debug__":Str))=false∧nsIn X.K mainGlobals y=some none∧bootBuiltins y=some (.type T)∧y≠"__name__"
theorem xB{x y1 y2 y3 y4:Str}{a:Expr}{ia:IE}{tk:Nat}(p p1 p2 p3 p4 p5 pos:Pos)(ev:EnvOk env)(hx:env.kindOf x=some .globalImplicit)(hd:(x == ("__debug__":Str))=false)(e:nsIn X.K mainGlobals x=some none)(hv:bootBuiltins x=some (.builtin "isinstance"))(hn:x≠"__name__")
  (h1:Dq X env y1 "bytes") (h2:Dq X env y2 "bytearray") (h3:Dq X env y3 "list") (h4:Dq X env y4 "tuple")
  (iN:starEach [a,.Tuple [.Name y1 p1,.Name y2 p2,.Name y3 p3,.Name y4 p4] tk p5] env=[(false,eval a env),(false,eval (.Tuple [.Name y1 p1,.Name y2 p2,.Name y3 p3,.Name y4 p4] tk p5) env)]) (ha:az X P n env ν a ia):
  az X P n env ν (.Call (.Name x p) [a,.Tuple [.Name y1 p1,.Name y2 p2,.Name y3 p3,.Name y4 p4] tk p5] [] pos) (.g0 ia):=
 .Iu (fun C m loc σ R Φ hr h k=>by
  have lR:(backTo pos (starEach [a,.Tuple [.Name y1 p1,.Name y2 p2,.Name y3 p3,.Name y4 p4] tk p5] env)).any (·.1)=false:=by rw[iN];rfl
  refine eh p pos ev hr hx hd e hv hn rfl lR (.inr ⟨_,_,iN⟩) (wpAny_items_cons (ha.ev C m loc σ _ _ hr h fun x u ae au ay aK h=> ?_) (by rw[iN];rfl))
  have nB:∀{y T Q} p,Dq X env y T→Q (.type T) ae.s→wpAny X.M C.A (eval (.Name y p) env) Q C.Ψ ae.s:=fun p t q=>zX p ev au t.1 t.2.1 t.2.2.1 t.2.2.2.1 t.2.2.2.2 q
  refine wpAny_items_cons (wpAny_Tuple (wpAny_items_cons (nB p1 h1 (wpAny_items_cons (nB p2 h2 (wpAny_items_cons (nB p3 h3 (wpAny_items_cons (nB p4 h4 (wpAny_items_nil ⟨by rw[sizeLine_eq];decide,wpAny_items_nil ?_⟩)) rfl)) rfl)) rfl)) rfl)) rfl
  obtain⟨i,rfl,h5⟩:=dp.el h
  obtain⟨l,e1,h6⟩:=wL.el (k:=fun _=>R (.bool true) ae.H) h5
  obtain⟨q,vs,c,rfl,_,g,_⟩:=au.rel.cK aK e1
  have hk:=cB ae.s.heap {cls:=.type "tuple",data:=.seq [.type "bytes",.type "bytearray",.type "list",.type "tuple"].toArray}
  refine IsiPair.tupleOf (Tx:="list") (vs:=[false,false,true,false]) (cs:=[.type "bytes",.type "bytearray",.type "list",.type "tuple"]) ?_ (aJ (hk _ _ g)).typeIs (Heap.get?_push_size _ rfl) fun tk=>jv (k.le ay) au h6 (.bool true) (fun a o e _=>hk a o e) (Fr.eG au.st.F hk)
  exact AnswersAll.cons (Answers.of_false_list (by decide) (by rfl) (by rfl)) (AnswersAll.cons (Answers.of_false_list (by decide) (by rfl) (by rfl)) (AnswersAll.cons (Answers.of_true (by rfl) (by rfl)) (AnswersAll.cons (Answers.of_false_list (by decide) (by rfl) (by rfl)) AnswersAll.nil)))) id
noncomputable def cv(e:Expr):Bool:= !(e.ctorIdx == 16)
theorem Dr{o:Expr}(h:cv o=true)(x:Str)(w:Sem Value):attributeBase o x env w=w:=by
 cases o<;>first|rfl|cases h
theorem u7{o:Expr}{name:Str}{es:List Expr}{Q:Value→Shared→Prop}(apos pos:Pos)(hb:cv o=true)(hl:(apos.endLine == pos.line)=true)(hn:es.length<30)(lR:(backTo pos (starEach es env)).all (!·.1)=true)
  (h:wpAny X.M A (eval o env) (fun ov bc=>∀pl,wpAny X.M A (getMethod ov name pl) (fun fx eS=>wpAny X.M A (callWith pos fx.1 fx.2 (backTo pos (starEach es env)) []) Q E eS) E bc) E s):
  wpAny X.M A (eval (.Call (.Attribute o name apos) es [] pos) env) Q E s:=by
 have Q7:methodCallForm (es.length+0) (backTo pos (starEach es env)) (backToKw pos (keywordEach [] env))=true:=by
  unfold methodCallForm
  rw[lR]
  show(true && true && decide (es.length+0+0<30))=true
  simp[hn]
 have he:eval (.Call (.Attribute o name apos) es [] pos) env=(do
   let ov ←attributeBase o name env (eval o env)
   standAt apos.atName
   methodCall o name apos pos env ov (es.length+0) (backTo pos (starEach es env)) (backToKw pos (keywordEach [] env))):=rfl
 rw[he,Dr hb]
 refine wpAny_bind (wpAny_mono h (fun ov bc h₁=>wpAny_bind (wpAny_standAt ?_)) fun _ _ x=>x)
 unfold methodCall
 rw[Q7]
 refine wpAny_bind (wpAny_holding (wpAny_mono (h₁ _) (fun fx eS d9=> ?_) fun _ _ x=>x))
 have hp:methodCallPos true o env apos pos=pure pos:=by unfold methodCallPos;rw[hl];rfl
 show wpAny X.M A (methodCallPos true o env apos pos >>= _) _ _ _
 rw[hp]
 exact wpAny_bind (wpAny_pure d9)
def Plain(env:Env)(es:List Expr):Prop:=∀pos,(backTo pos (starEach es env)).any (·.1)=false
theorem jA{o:Expr}{name:Str}{es:List Expr}{T:String}{id:String}{Q:Value→Shared→Prop}(apos pos:Pos)(hb:cv o=true)(hl:(apos.endLine == pos.line)=true)(hn:es.length<30)(lR:(backTo pos (starEach es env)).all (!·.1)=true)
  (hp:(backTo pos (starEach es env)).any (·.1)=false) (iN:∃y rest,starEach es env=(false,y)::rest) (pa:PlainAttrs T) (slot:Slot T name id) (ty:typeOf (.builtin id)=pure (.type "method_descriptor"))
  (h:wpAny X.M A (eval o env) (fun ov bc=>bc.TypeIs ov T∧(∀a,ov=.ref a→∃o,bc.heap.get? a=some o∧o.dict=none)∧wpAny X.M A (spliced (backTo pos (starEach es env))) (fun vs eS=>wpAny X.M A (call (.builtin id) (ov::vs)) Q E eS) E bc) E s):
  wpAny X.M A (eval (.Call (.Attribute o name apos) es [] pos) env) Q E s:=by
 refine u7 apos pos hb hl hn lR (wpAny_mono h (fun ov bc h₁ pl=> ?_) fun _ _ x=>x)
 obtain⟨h1,h2,h3⟩:=h₁
 refine getMethod_builtin h1 pa slot ty h2 ?_
 refine callWith_of (P:=fun _=>True) (by rw[hp];rfl) (fun h _=>hG (v:=.builtin id) rfl h) ?_
 have main:wpAny X.M A (spliced (backTo pos (starEach es env))) (fun vs bc=>True∧wpAny X.M A (call (.builtin id) ([ov]++vs)) Q E bc) E bc:=wpAny_mono h3 (fun _ _ z=>⟨trivial,z⟩) fun _ _ z=>z
 obtain⟨y,rest,iN⟩:=iN
 rw[iN] at main ⊢
 exact evalArgs_plain main
theorem mJ{R:PV→aa→Prop}{Φ:Value→Shared→Prop}{v:PV}{u:Value}{i:Nat}{a:Addr}{sW:Array Value}{c tk:Nat}{f:Array Value→Array Value}{ls:List PV}(k:Good C m loc σ (VR X) R Φ)(hr:Here C m loc σ)(e:σ.W.φ[i]? =some (a,a))(g:σ.s.heap.get? a=some (lst sW c))(h:R v (σ.H.set i (.list ls)))(r:cO X σ.W ls (f sW).toList)(q:VR X σ.W v u):
  Φ u {σ.s with heap:=σ.s.heap.update a (Obj.mapSeq f),toks:=tk}:=
 C2 k hr e h q (fun b o e n _=>hJ b o e n) (.mI g r)
theorem kj{o a:Expr}{es:List Expr}{io:IE}{name:Str}{id:String}{K:Nat→List PV→aa→Prop}{Φ:Value→Shared→Prop}(apos pos:Pos)(hb:cv o=true)(hl:(apos.endLine == pos.line)=true)(hn:(a::es).length<30)(lR:(backTo pos (starEach (a::es) env)).all (!·.1)=true)
  (hp:(backTo pos (starEach (a::es) env)).any (·.1)=false) (iN:∃y rest,starEach (a::es) env=(false,y)::rest) (slot:Slot "list" name id) (ty:typeOf (.builtin id)=pure (.type "method_descriptor")) (ho:az X P n env ν o io) (hr:Here C m loc σ)
  (h:wE P (aj P n) io loc σ.H (fun r H=>dp r fun r=>wL H r fun l=>K r l H) fun k H=>C.E k loc H)
  (q:∀r l x ae,Here C m loc ae→Le C.l env.locals σ ae→VR X ae.W (.ref r) (.ref x)→K r l ae.H→wpAny X.M C.A (spliced (backTo pos (starEach (a::es) env))) (fun vs eS=>wpAny X.M C.A (call (.builtin id) (.ref x::vs)) Φ C.Ψ eS) C.Ψ ae.s):
  wpAny X.M C.A (eval (.Call (.Attribute o name apos) (a::es) [] pos) env) Φ C.Ψ σ.s:=
 jA apos pos hb hl hn lR hp iN PySem.F.plainAttrs_list slot ty (ho.ev C m loc σ _ _ hr h fun v u ae au ay aK h=>by
  obtain⟨r,rfl,h1⟩:=dp.el h
  obtain⟨l,e,h2⟩:=wL.el h1
  obtain⟨x,vs,c,rfl,hp,g,rr⟩:=au.rel.cK aK e
  exact⟨(aJ g).typeIs,qZ g,q r l x ae au ay aK h2⟩)
theorem HR.here(hr:Here C m loc σ){i:Nat}{x:Addr}{l:List PV}(v:VR X σ.W (.ref i) (.ref x))(e:σ.H[i]? =some (.list l)):∃vs c,σ.W.φ[i]? =some (x,x)∧σ.s.heap.get? x=some (lst vs.toArray c)∧cO X σ.W l vs:=by
 obtain⟨a,vs,c,e1,hp,g,r⟩:=hr.rel.cK v e
 cases e1
 exact⟨vs,c,hp,g,r⟩
theorem HR.EP(hr:Here C m loc σ){i:Nat}{x:Addr}{l:List (Int×PV)}(v:VR X σ.W (.ref i) (.ref x))(e:σ.H[i]? =some (.aW l)):∃kvs,(x == sysModules)=false∧σ.s.heap.DictOf (intKind X.prog X.w) x kvs∧DR X σ.W l kvs:=by
 obtain⟨a,kvs,e1,hp,sm,g,r⟩:=hr.rel.gF v e
 cases e1
 exact⟨kvs,sm,g,r⟩
theorem ti{o a:Expr}{io ia:IE}(apos pos:Pos)(hb:cv o=true)(hl:(apos.endLine == pos.line)=true)(sa:notStar a=true)(ho:az X P n env ν o io)(ha:az X P n env ν a ia):
  az X P n env ν (.Call (.Attribute o "append" apos) [a] [] pos) (.append io ia):=
 .of (fun C m loc σ R Φ hr h k=>kj apos pos hb hl (Nat.le_of_ble_eq_true rfl) (by rw[aD sa];rfl) (by rw[aD sa];rfl) ⟨_,_,aD sa _ _⟩ PySem.F.slot_list_append PySem.F.type_list_append ho hr h fun r _ x ae au ay aK h=>
  wpAny_items_cons (ha.ev C m loc ae _ _ au h fun v u ao aC aH bX h=>wpAny_items_nil (by
   obtain⟨l,e,h1⟩:=wL.el h
   obtain⟨vs,c,hp,g,rr⟩:=HR.here aC (aK.up aH) e
   have hlen:=rr.length
   have hz:=h1.el.1
   refine call_meets PySem.F.slot_list_append (aJ g).typeIs PySem.F.entry_list_append (PySem.F.args_list_append_2 _ _) (list_append x vs.toArray c u (by rw[List.size_toArray,sizeLine_eq];exact hlen▸ly hz rfl)) ⟨g,?_⟩
   exact mJ (k.le (ay.trans aH)) aC hp g h1.el.2 (by simpa using rr.append (.cons bX .nil)) .none)) (aD sa _ _)) id
theorem tj{o a:Expr}{io ia:IE}(apos pos:Pos)(hb:cv o=true)(hl:(apos.endLine == pos.line)=true)(sa:notStar a=true)(ho:az X P n env ν o io)(ha:az X P n env ν a ia):
  az X P n env ν (.Call (.Attribute o "extend" apos) [a] [] pos) (.extend io ia):=
 .of (fun C m loc σ R Φ hr h k=>kj apos pos hb hl (Nat.le_of_ble_eq_true rfl) (by rw[aD sa];rfl) (by rw[aD sa];rfl) ⟨_,_,aD sa _ _⟩ PySem.F.slot_list_extend PySem.F.type_list_extend ho hr h fun r _ x ae au ay aK h=>
  wpAny_items_cons (ha.ev C m loc ae _ _ au h fun v u ao aC aH bX h=>wpAny_items_nil (by
   obtain⟨t,rfl,h0⟩:=dp.el h
   obtain⟨l,e,h1⟩:=wL.el h0
   obtain⟨l',e',h2⟩:=wL.el h1
   obtain⟨vs,c,hp,g,rr⟩:=HR.here aC (aK.up aH) e
   obtain⟨b,Iw,c',rfl,Cd,g',U3⟩:=aC.rel.cK bX e'
   have hlen:=rr.length
   have MA:=U3.length
   have hz:=h2.el.1
   have Ce:vs.toArray.size+Iw.toArray.size≤sizeLine:=by rw[List.size_toArray,List.size_toArray,sizeLine_eq];exact QE hlen MA hz
   refine call_meets PySem.F.slot_list_extend (aJ g).typeIs PySem.F.entry_list_extend (PySem.F.args_list_extend_2 _ _) (AutoSeq1.list_extend_list_list_0 x vs.toArray c b Iw.toArray c' (extend_door Ce) (Nat.le_trans (Nat.le_add_right _ _) Ce) (Nat.le_succ_of_le Ce)) ⟨g,g',?_⟩
   exact mJ (f:=fun x=>x++Iw.toArray) (k.le (ay.trans aH)) aC hp g h2.el.2 (by simpa using rr.append U3) .none)) (aD sa _ _)) id
theorem tm{o a b:Expr}{io ia ib:IE}(apos pos:Pos)(hb:cv o=true)(hl:(apos.endLine == pos.line)=true)(sa:notStar a=true)(sb:notStar b=true)(ho:az X P n env ν o io)(ha:az X P n env ν a ia)(hB:az X P n env ν b ib):
  az X P n env ν (.Call (.Attribute o "insert" apos) [a,b] [] pos) (.insert io ia ib):=
 .of (fun C m loc σ R Φ hr h k=>kj apos pos hb hl (Nat.le_of_ble_eq_true rfl) (by rw[aD sa,aD sb];rfl) (by rw[aD sa,aD sb];rfl) ⟨_,_,aD sa _ _⟩ PySem.F.slot_list_insert PySem.F.type_list_insert ho hr h fun r _ x ae au ay aK h=>
  wpAny_items_cons (ha.ev C m loc ae _ _ au h fun j w ao aC aH bX h=>wpAny_items_cons (hB.ev C m loc ao _ _ aC h fun v u fJ cg cM kc h=>wpAny_items_nil (by
   obtain⟨j,rfl,h0⟩:=wI.el h
   obtain⟨l,e,h1⟩:=wL.el h0
   obtain⟨t,rfl⟩:=bX.int_inv
   obtain⟨vs,c,hp,g,rr⟩:=HR.here cg ((aK.up aH).up cM) e
   have hlen:=rr.length
   have hz:=h1.el.1
   have hf:Builtin.List.listFitsIndex j=true:=by unfold Builtin.List.listFitsIndex;simp;exact QC hz
   refine call_meets PySem.F.slot_list_insert (aJ g).typeIs PySem.F.entry_list_insert (PySem.F.args_list_insert_3 _ _ _) (AutoSeq1.list_insert_list_int_val_1 x vs.toArray c j t u (by rw[hf];decide) (by rw[List.size_toArray,sizeLine_eq];exact hlen▸ly hz.2.2 rfl)) ⟨g,?_⟩
   refine mJ (k.le ((ay.trans aH).trans cM)) cg hp g h1.el.2 ?_ .none
   have hj:¬j<0:=by exact Int.not_lt_of_ge hz.1
   have hm:min j.toNat vs.length=j.toNat:=by exact QA hlen hz
   have:((have k:=if j<0 then(j+(vs.toArray.size:Int)).toNat else min j.toNat vs.toArray.size;(vs.toArray.extract 0 k).push u++vs.toArray.extract k:Array Value)).toList=vs.take j.toNat++u::vs.drop j.toNat:=by
    dsimp only
    rw[if_neg hj,List.size_toArray,hm]
    simp
    exact List.take_of_length_le (by simp)
   rw[this]
   exact(rr.take _).append (.cons kc (rr.drop _)))) (aD sb _ _)) (aD sa _ _)) id
theorem DR.get{es:List (Int×PV)}{kvs:List (Int×Value)}(r:DR X W es kvs)(k:Int){d:PV}{u:Value}(vr:VR X W d u):VR X W ((eE k es).getD d) ((valueAt kvs k).getD u):=by
 have:=r.look k
 split at this
 ·rename_i v hv
  obtain⟨w,e,x⟩:=this
  rw[hv,e];exact x
 ·rename_i hv
  rw[hv,this];exact vr
theorem q6{o a:Expr}{es:List Expr}{io:IE}{K:Nat→aa→Prop}{Φ:Value→Shared→Prop}(apos pos:Pos)(hb:cv o=true)(hl:(apos.endLine == pos.line)=true)(hn:(a::es).length<30)(lR:(backTo pos (starEach (a::es) env)).all (!·.1)=true)
  (hp:(backTo pos (starEach (a::es) env)).any (·.1)=false) (iN:∃y rest,starEach (a::es) env=(false,y)::rest) (ho:az X P n env ν o io) (hr:Here C m loc σ)
  (h:wE P (aj P n) io loc σ.H (fun r H=>dp r fun r=>xb H r fun _=>K r H) fun k H=>C.E k loc H)
  (q:∀r x ae,Here C m loc ae→Le C.l env.locals σ ae→VR X ae.W (.ref r) (.ref x)→K r ae.H→wpAny X.M C.A (spliced (backTo pos (starEach (a::es) env))) (fun vs eS=>wpAny X.M C.A (call (.builtin "dict.get") (.ref x::vs)) Φ C.Ψ eS) C.Ψ ae.s):
  wpAny X.M C.A (eval (.Call (.Attribute o "get" apos) (a::es) [] pos) env) Φ C.Ψ σ.s:=
 jA apos pos hb hl hn lR hp iN PySem.F.plainAttrs_dict PySem.F.slot_dict_get PySem.F.type_dict_get (ho.ev C m loc σ _ _ hr h fun v u ae au ay aK h=>by
  obtain⟨r,rfl,h1⟩:=dp.el h
  obtain⟨l,e,h2⟩:=xb.el (k:=fun _=>K r ae.H) h1
  obtain⟨x,kvs,rfl,hp,sm,g,rr⟩:=au.rel.gF aK e
  exact⟨g.typeIs,g.mapOf.noDict,q r x ae au ay aK h2⟩)
theorem z9{o a:Expr}{io ia:IE}(apos pos:Pos)(hb:cv o=true)(hl:(apos.endLine == pos.line)=true)(sa:notStar a=true)(ho:az X P n env ν o io)(ha:az X P n env ν a ia):
  az X P n env ν (.Call (.Attribute o "get" apos) [a] [] pos) (.zr io ia):=
 .of (fun C m loc σ R Φ hr h k=>q6 apos pos hb hl (Nat.le_of_ble_eq_true rfl) (by rw[aD sa];rfl) (by rw[aD sa];rfl) ⟨_,_,aD sa _ _⟩ ho hr h fun r x ae au ay aK h=>
  wpAny_items_cons (ha.ev C m loc ae _ _ au h fun v u ao aC aH bX h=>wpAny_items_nil (by
   obtain⟨j,rfl,h0⟩:=wI.el h
   obtain⟨l,e,h1⟩:=xb.el h0
   obtain⟨kvs,sm,g,rr⟩:=HR.EP aC (aK.up aH) e
   obtain⟨t,rfl⟩:=bX.int_inv
   exact call_meetsIn PySem.F.slot_dict_get g.typeIs PySem.F.entry_dict_get (PySem.F.args_dict_get_2 _ _) (meets_dict_get (intKind X.prog X.w) (k:=j) x (by simp[intKind,Value.isInt]) sm) ⟨_,g.mapOf,cL (Φ:=Φ) (u:=(valueAt kvs j).getD .none) (k.le (ay.trans aH)) aC h1 (rr.get j .none)⟩)) (aD sa _ _)) id
theorem Aa{o a b:Expr}{io ia ib:IE}(apos pos:Pos)(hb:cv o=true)(hl:(apos.endLine == pos.line)=true)(sa:notStar a=true)(sb:notStar b=true)(ho:az X P n env ν o io)(ha:az X P n env ν a ia)(hB:az X P n env ν b ib):
  az X P n env ν (.Call (.Attribute o "get" apos) [a,b] [] pos) (.zt io ia ib):=
 .of (fun C m loc σ R Φ hr h k=>q6 apos pos hb hl (Nat.le_of_ble_eq_true rfl) (by rw[aD sa,aD sb];rfl) (by rw[aD sa,aD sb];rfl) ⟨_,_,aD sa _ _⟩ ho hr h fun r x ae au ay aK h=>
  wpAny_items_cons (ha.ev C m loc ae _ _ au h fun j w ao aC aH bX h=>wpAny_items_cons (hB.ev C m loc ao _ _ aC h fun v u fJ cg cM kc h=>wpAny_items_nil (by
   obtain⟨j,rfl,h0⟩:=wI.el h
   obtain⟨l,e,h1⟩:=xb.el h0
   obtain⟨kvs,sm,g,rr⟩:=HR.EP cg ((aK.up aH).up cM) e
   obtain⟨t,rfl⟩:=bX.int_inv
   exact call_meetsIn PySem.F.slot_dict_get g.typeIs PySem.F.entry_dict_get (PySem.F.args_dict_get_3 _ _ _) (meets_dict_get_default (intKind X.prog X.w) (k:=j) x (by simp[intKind,Value.isInt]) sm _) ⟨_,g.mapOf,cL (Φ:=Φ) (u:=(valueAt kvs j).getD u) (k.le ((ay.trans aH).trans cM)) cg h1 (rr.get j kc)⟩)) (aD sb _ _)) (aD sa _ _)) id
theorem xC{o:Expr}{name:Str}{es:List Expr}{io:IE}{c:Nat}{dQ:jW}(apos pos:Pos)(pk:oj X P)(co:dU X P n)(hk:X.nm c=name)(hb:cv o=true)(hl:(apos.endLine == pos.line)=true)(hn:es.length<30)(lR:(backTo pos (starEach es env)).all (!·.1)=true)
  (hp:(backTo pos (starEach es env)).any (·.1)=false) (fA:es=[]∨∃y rest,starEach es env=(false,y)::rest) (ho:az X P n env ν o io) (hs:gS X P n env ν es dQ):
  az X P n env ν (.Call (.Attribute o name apos) es [] pos) (.mf io c dQ):=by
 revert X P n env ν o name es io c dQ apos pos
 apply aQ;intro
 generalize bT .. =X,bU .. =P,bV .. =n,bW .. =env,cj .. =ν,ck .. =o,cm .. =name,cp .. =es
 apply aO;intro
 generalize bL .. =io,bM .. =c,bQ .. =dQ,bR .. =apos
 apply aI;intro
 generalize nx .. =pos
 intro pk co hk hb hl hn lR hp fA ho hs
 subst hk
 refine .of (fun C m loc σ R Φ hr h k=>u7 apos pos hb hl hn lR (ho.ev C m loc σ _ _ hr h fun v u ae au ay aK h pl=> ?_)) id
 obtain⟨f,hf,h1⟩:=h.el
 cases v with
 |ref i=>
  have hf:(match ae.H[i]? with
   |some (.inst d fs)=>if(bA c fs).isSome then none else(bA d P.pO).bind fun k=>bA c k.meths
   |_=>none)=some f:=hf
  split at hf
  ·rename_i d fs hi
   split at hf
   ·cases hf
   rename_i Rh
   obtain⟨kr,Q9,hm⟩:=Option.bind_eq_some_iff.mp hf
   obtain⟨p,rfl,Cd,⟨kn,j8⟩,g,mi,N,mr⟩:=au.rel.Iv aK hi
   obtain⟨hk,WD,Rc,MB⟩:=(pk.Gq d kr Q9).Gp c f hm
   obtain⟨od,Ms,hl⟩:=kh N.ns
   have K:=pk.cls d kn
   have M:=mr c hk
   have Rh:bA c fs=none:=Option.not_isSome_iff_eq_none.mp Rh
   rw[Rh] at M
   refine method_fn au.rel.yT (tc g Ms) (plainGet_of (K.plain c)).1 (plainGet_of (K.plain c)).2 WD (beq_iff_eq.mp Rc) (by show(lookIn (X.nm c) od).map _=_;rw[hl,M];rfl) ?_
   exact callWith_of (P:=X.K.In) (by rw[hp];rfl) (keeps_K MB) (pS fA (hs pos C m loc ae _ _ au h1 fun ys us ao aC aH bX h=>⟨aC.rel.yT,cU.wp (K:=nE) aC (k.le (ay.trans aH)) (fun _ z=>z.elim) (co f C.A C.l ao.s ao.W ao.H (.ref i::ys) (.ref p.1::us) R _ (Wc.el h) aC.rel (Fr.zW aC.st.F) aC.st.fr (.cons (aK.up aH) bX) (C.ak hr.ok).call)⟩))
  ·cases hf
 |_=>cases hf
end
end
section
open PyProof.Rows PySem.Calls PySem.W
set_option backward.match.sparseCases false
set_option genInjectivity false
section
variable {X:Cx}{P:ef}{n:Nat}{env:Env}{ν:Nu}{C:Ct X n env ν}{m:Str→Option Value}{loc:Loc}{σ gm ao:Pt}{A:Around}{s:Shared}{W W':Wd}{H:aa}{h h' g:Heap}{L:Addr}{l:List Env}{E:Value→Shared→Prop}
structure ZD where
 TI:Addr
 TO:Addr
 i1:Addr
 i2:Addr
 a1:Addr
 a2:Addr
 x:Value
 y:Value
instance:Nonempty ZD:=⟨⟨0,0,0,0,0,0,.none,.none⟩⟩
structure q7(X:Cx)(W:Wd)(h:Heap)(r t k:Nat)(z:Addr)(fp:List Addr)(d:ZD):Prop where
 fp:fp=[z,d.TI,d.TO,d.i1,d.i2]
 hz:IsZip h z d.TI d.TO .none
 h1:IsPair h d.TI (.ref d.i1) (.ref d.i2)
 h2:IsPair h d.TO d.x d.y
 h3:h.IsListIter d.i1 d.a1 k
 h4:h.IsListIter d.i2 d.a2 k
 n1:d.TI≠d.TO
 n2:d.i1≠d.i2
 v1:VR X W (.ref r) (.ref d.a1)
 v2:VR X W (.ref t) (.ref d.a2)
def It(X:Cx)(W:Wd)(h:Heap):Src→Nat→Addr→List Addr→Prop
 |.fixed l,k,I,fp=>fp=[I]∧((∃t,h.IsTupleIter I t k∧VR X W (.tup l) (.ref t))∨∃c:Int,l=dv c∧IsRangeIter h I (k:Int) (((c.toNat:Nat):Int) - (k:Int)) 1)
 |.live r,k,I,fp=>fp=[I]∧∃a,h.IsListIter I a k∧VR X W (.ref r) (.ref a)
 |.enum r,k,e,fp=>∃I a old,fp=[e,I]∧IsEnum h e I (k:Int) old∧h.IsListIter I a k∧e≠I∧VR X W (.ref r) (.ref a)
 |.zip r t,k,z,fp=>∃d:ZD,q7 X W h r t k z fp d
theorem in1{a b:Addr}(h:a∈[b]):a=b:=List.mem_singleton.mp h
theorem MC{p:Addr→Prop}{a b c d e:Addr}(h1:p a)(h2:p b)(h3:p c)(h4:p d)(h5:p e):∀x∈[a,b,c,d,e],p x:=fun x hx=>by
 rcases List.mem_cons.mp hx with rfl|hx
 ·exact h1
 rcases List.mem_cons.mp hx with rfl|hx
 ·exact h2
 rcases List.mem_cons.mp hx with rfl|hx
 ·exact h3
 rcases List.mem_cons.mp hx with rfl|hx
 ·exact h4
 ·rw[in1 hx];exact h5
theorem gH{I a k:Nat}(x:h.IsListIter I a k):∃o,h.get? I=some o:=x.elim fun o z=>⟨o,z.1⟩
theorem tn{I a k:Nat}(x:h.IsTupleIter I a k):∃o,h.get? I=some o:=x.elim fun o z=>⟨o,z.1⟩
theorem It.live{src:Src}{k:Nat}{I:Addr}{fp:List Addr}(x:It X W h src k I fp):∀a∈fp,∃o,h.get? a=some o:=by
 cases src with
 |fixed l=>
  obtain⟨rfl,⟨t,hi,_⟩|⟨c,_,hi⟩⟩:=x
  ·intro a ha;rw[in1 ha];exact tn hi
  ·intro a ha;rw[in1 ha];exact⟨_,hi⟩
 |live r=>obtain⟨rfl,t,hi,_⟩:=x;intro a ha;rw[in1 ha];exact gH hi
 |enum r=>
  obtain⟨I,a,old,rfl,he,hi,_⟩:=x
  intro a ha
  rcases List.mem_cons.mp ha with rfl|ha
  ·exact⟨_,he⟩
  ·rw[in1 ha];exact gH hi
 |zip r t=>
  obtain⟨d,z⟩:=x
  rw[z.fp]
  exact MC ⟨_,z.hz⟩ ⟨_,z.h1⟩ ⟨_,z.h2⟩ (gH z.h3) (gH z.h4)
theorem tq{h h':Heap}{a t i:Nat}(x:Heap.IsTupleIter h a t i)(e:∀o,h.get? a=some o→h'.get? a=some o):Heap.IsTupleIter h' a t i:=let⟨o,ho,r⟩:=x;⟨o,e _ ho,r⟩
theorem It.mono{src:Src}{k:Nat}{I:Addr}{fp:List Addr}(x:It X W h src k I fp)(S:Ext W g W')(hk:∀a∈fp,∀o,h.get? a=some o→h'.get? a=some o):It X W' h' src k I fp:=by
 cases src with
 |fixed l=>
  obtain⟨rfl,⟨t,hi,v⟩|⟨c,e,hi⟩⟩:=x
  ·exact⟨rfl,.inl ⟨t,tq hi (hk _ (.head _)),v.mono S⟩⟩
  ·exact⟨rfl,.inr ⟨c,e,hk _ (.head _) _ hi⟩⟩
 |live r=>obtain⟨rfl,t,hi,v⟩:=x;exact⟨rfl,t,hi.at (hk _ (.head _)),v.mono S⟩
 |enum r=>obtain⟨I,a,old,rfl,he,hi,ne,v⟩:=x;exact⟨I,a,old,rfl,hk _ (.head _) _ he,hi.at (hk _ (.tail _ (.head _))),ne,v.mono S⟩
 |zip r t=>
  obtain⟨d,z⟩:=x
  have sJ:∀a∈[I,d.TI,d.TO,d.i1,d.i2],∀o,h.get? a=some o→h'.get? a=some o:=z.fp▸hk
  exact⟨d,z.fp,sJ _ (.head _) _ z.hz,sJ _ (.tail _ (.head _)) _ z.h1,sJ _ (.tail _ (.tail _ (.head _))) _ z.h2,z.h3.at (sJ _ (.tail _ (.tail _ (.tail _ (.head _))))),z.h4.at (sJ _ (.tail _ (.tail _ (.tail _ (.tail _ (.head _)))))),z.n1,z.n2,z.v1.mono S,z.v2.mono S⟩
def OffW(W:Wd)(l:List Env)(L:Addr)(fp:List Addr):Prop:=∀a∈fp,¬Own W a∧W.B a=none∧a≠L∧a∉Fs l
structure Nx(C:Ct X n env ν)(m:Str→Option Value)(fp:List Addr)(σ ao:Pt):Prop where
 ext:Ext σ.W σ.s.heap ao.W
 keep:∀a o,σ.s.heap.get? a=some o→a∉fp→ao.s.heap.get? a=some o
 st:St X C.l ao.W ao.H env.locals m ao.s
 same:hF σ.s ao.s
 H:ao.H=σ.H
theorem Step.mod{W cA fy:Wd}{h h₁:Heap}(S:Step l L W h cA h₁){Z:List Addr}(hz:∀a∈Z,h.get? a=none)(E:Ext cA h₁ fy)(hk:∀a o,h₁.get? a=some o→a∉Z→h'.get? a=some o):Step l L W h fy h':=by
 have out:∀a o,h.get? a=some o→a∉Z:=fun a o e z=>by rw[hz a z] at e;cases e
 refine⟨S.toExt.trans S.live E,fun a o e n1 n2 n3=>hk a o (S.keep a o e n1 n2 n3) (out a o e),fun a o e n1 n2=> ?_,fun a o e=> ?_⟩
 ·obtain⟨sl,e'⟩:=S.slots a o e n1 n2
  exact⟨sl,hk a _ e' (out a o e)⟩
 ·obtain⟨o',e'⟩:=S.live a o e
  exact⟨o',hk a _ e' (out a o e)⟩
theorem Le.dead(x:Le l L gm σ){a:Addr}(d:σ.s.heap.get? a=none):gm.s.heap.get? a=none:=by
 cases q:gm.s.heap.get? a with
 |none=>rfl
 |some o=>obtain⟨o',e⟩:=x.step.live a o q;rw[d] at e;cases e
theorem Nx.le{fp:List Addr}(N:Nx C m fp σ ao)(x:Le C.l env.locals gm σ)(d:∀a∈fp,gm.s.heap.get? a=none):Le C.l env.locals gm ao:=⟨x.step.mod d N.ext N.keep,x.same.trans N.same⟩
theorem Nx.here{fp:List Addr}(N:Nx C m fp σ ao)(hr:Here C m loc σ)(x:Le C.l env.locals C.B gm)(d:∀a∈fp,gm.s.heap.get? a=none):Here C m loc ao:=⟨N.st,hr.lr.mono N.ext,N.le hr.le fun a ha=>x.dead (d a ha),hr.ok⟩
theorem HR.u9(R:HR X W H h){fp:List Addr}(off:∀a∈fp,¬Own W a∧W.B a=none)(hk:∀a o,h.get? a=some o→a∉fp→h'.get? a=some o):HR X W H h':=by
 refine⟨R.len,fun i p o e e'=> ?_,R.apart,fun a o e=>hk a o (R.frozen a o e) (fun z=>by have:=(off a z).2;rw[e] at this;cases this),R.off,R.base,R.ok⟩
 have hp:p∈W.φ:=List.mem_of_getElem? e
 exact(R.objs i p o e e').mono (.refl W h) (fun o z=>hk _ _ z fun q=>(off _ q).1 ⟨p,hp,.inl rfl⟩) (fun o z=>hk _ _ z fun q=>(off _ q).1 ⟨p,hp,.inr rfl⟩)
theorem gp{fp:List Addr}{tk:Nat}(hr:Here C m loc σ)(off:OffW σ.W C.l env.locals fp)(hk:∀a o,σ.s.heap.get? a=some o→a∉fp→h'.get? a=some o):Nx C m fp σ ⟨{σ.s with heap:=h',toks:=tk},σ.W,σ.H⟩:=by
 revert X n env ν C m loc σ h' fp tk
 apply aO;intro
 generalize bL .. =X,bM .. =n,bQ .. =env,bR .. =ν
 apply aI;intro
 generalize nx .. =C
 apply aO;intro
 generalize bL .. =m,bM .. =loc,bQ .. =σ,bR .. =h'
 apply aM;intro
 generalize bI .. =fp,bJ .. =tk
 intro hr off hk
 have F':Fr X.h₀ env.locals h' m:=by
  obtain⟨o,es,ep,g,r⟩:=hr.st.F.ns
  refine⟨⟨o,es,ep,hk _ _ g fun z=>(off _ z).2.2.1 rfl,r⟩,fun b o e=>hk b o (hr.st.F.keep b o e) fun z=> ?_,hr.st.F.above⟩
  have:=(off b z).2.1
  rw[hr.rel.base b o e] at this;cases this
 refine⟨.refl σ.W _,hk,⟨F',hr.rel.u9 (fun a z=>⟨(off a z).1,(off a z).2.1⟩) hk,hr.st.dE,hr.st.dT,?_⟩,⟨rfl,rfl,rfl⟩,rfl⟩
 apply aI;intro
 generalize nx .. =en
 intro he
 obtain⟨lS,L',o',g1,g2,g3,g4,g5⟩:=hr.st.fr en he
 exact⟨lS,L',o',g1,g2,g3,hk _ _ g4 fun z=>(off _ z).2.2.2 (List.mem_filterMap.mpr ⟨en,he,g1⟩),g5⟩
theorem HR.WE(R:HR X W H h){a:Addr}{o:Obj}(d:W.B a=none)(no:¬Own W a)(ha:h.get? a=some o)(E:Ext W g (W.freeze a o)):HR X (W.freeze a o) H h:=by
 have old:∀{b},b≠a→(W.freeze a o).B b=W.B b:=fun n=>if_neg n
 refine⟨R.len,fun i p o' e e'=>(R.objs i p o' e e').mono E (fun _ z=>z) (fun _ z=>z),R.apart,fun b o' e=> ?_,fun p hp=> ?_,fun b o' e=>E.B _ _ (R.base b o' e),R.ok⟩
 ·by_cases q:b=a
  ·subst q;rw[Wd.iG] at e;cases e;exact ha
  ·rw[old q] at e;exact R.frozen b o' e
 ·have:=R.off p hp
  exact⟨(old fun z=>no ⟨p,hp,.inl z.symm⟩).trans this.1,(old fun z=>no ⟨p,hp,.inr z.symm⟩).trans this.2⟩
theorem oU{fp:List Addr}{tk:Nat}{a:Addr}{o:Obj}(hr:Here C m loc σ)(off:OffW σ.W C.l env.locals fp)(hk:∀a o,σ.s.heap.get? a=some o→a∉fp→h'.get? a=some o)(d:σ.s.heap.get? a=none)(ha:h'.get? a=some o):
  Nx C m fp σ ⟨{σ.s with heap:=h',toks:=tk},σ.W.freeze a o,σ.H⟩:=by
 revert X n env ν C m loc σ h' fp tk a o
 apply aO;intro
 generalize bL .. =X,bM .. =n,bQ .. =env,bR .. =ν
 apply aI;intro
 generalize nx .. =C
 apply aQ;intro
 generalize bT .. =m,bU .. =loc,bV .. =σ,bW .. =h',cj .. =fp,ck .. =tk,cm .. =a,cp .. =o
 intro hr off hk d ha
 have x:=gp (tk:=tk) hr off hk
 have E:=Ext.freeze σ.W (o:=o) d (hr.rel.dead d)
 obtain⟨oL,eL⟩:=Fr.live hr.st.F
 refine⟨E,hk,⟨x.st.F,x.st.R.WE (hr.rel.dead d) (hr.fresh d).1 ha E,E.dE eL hr.st.dE,E.own eL hr.st.dT,?_⟩,⟨rfl,rfl,rfl⟩,rfl⟩
 apply aI;intro
 generalize nx .. =en
 intro he
 obtain⟨lS,L',o',g1,g2,g3,g4,g5⟩:=x.st.fr en he
 obtain⟨_,Zi,Zj,f1,f2,f3,f4,f5⟩:=hr.st.fr en he
 rw[g1] at f1;cases f1
 exact⟨lS,L',o',g1,E.dE f4 f2,E.own f4 f3,g4,g5⟩
noncomputable def dw(e:Expr):Bool:=e.ctorIdx == 25
noncomputable def cw(e:Expr):Bool:=e.ctorIdx == 23
theorem Ds{t:Expr}(h:cw t=true)(it v:Value):letOwnedTupleGo t it v=pure ():=by
 cases t<;>first|rfl|cases h
theorem mK{t:Expr}{I:Addr}{o:Obj}{v:Value}{Q:Unit→Shared→Prop}{c:String}(ht:cw t=true∨dw t=true)(hI:s.heap.get? I=some o)(hc:o.cls=.type c)(hn:["enumerate","zip","dict_itemiterator","dict_reverseitemiterator","odict_iterator","itertools.zip_longest","itertools.pairwise"].contains c=false)(q:Q () s):
  wpAny X.M A (letOwnedTupleGo t (.ref I) v) Q E s:=by
 rcases ht with ht|ht
 ·rw[Ds ht];exact wpAny_pure q
 ·cases t<;>first|(cases ht;done)|skip
  cases v<;>first|exact wpAny_pure q|skip
  rename_i a
  unfold letOwnedTupleGo
  refine wpAny_bind (wpAny_load hI ?_)
  obtain⟨oc,od,WH,os⟩:=o
  cases hc
  cases WH<;>first|exact wpAny_pure q|skip
  dsimp only
  rw[hn]
  exact wpAny_pure q
theorem hO(c:Int)(k:Nat):(dv c)[k]? =if k<c.toNat then some (.int (k:Int)) else none:=by
 unfold dv
 rw[List.getElem?_map]
 split
 ·rename_i q;rw[List.getElem?_range q];rfl
 ·rename_i q;rw[List.getElem?_eq_none (by simp;exact Int.toNat_le.mp (Nat.not_lt.mp q))];rfl
theorem hU{a b:Addr}{oa ob:Obj}(ha:h.get? a=some oa)(hb:h.get? b=some ob)(q:oa.cls≠ob.cls):a≠b:=by
 rintro rfl
 rw[ha] at hb;cases hb
 exact q rfl
theorem q8{a b:Addr}(z:a∉[b]):a≠b:=fun q=>z (by rw[q];exact .head _)
theorem jB{l:List PV}{vs:List Value}{k:Nat}(r:cO X W l vs)(e:l[k]? =none):vs.toArray[k]? =none:=by
 rw[List.getElem?_toArray];rw[List.getElem?_eq_none_iff] at e ⊢;rw[←r.length];exact e
theorem cS{H:aa}{r:Nat}{x:List PV}(e:listAt H r=some x):H[r]? =some (.list x):=by
 have e:zv H[r]? =some x:=e
 cases q:H[r]? with
 |none=>rw[q] at e;exact nomatch (show none=some x from e)
 |some o=>
  rw[q] at e
  cases o with
  |list l=>exact congrArg (fun l=>some (aF.list l)) (Option.some.inj e)
  |_=>exact nomatch (show none=some x from e)
theorem Ab{z TI TO i1 i2 a1 a2 k:Nat}{x y:Value}(hz:IsZip h z TI TO .none)(h1:IsPair h TI (.ref i1) (.ref i2))(h2:IsPair h TO x y)(h3:h.IsListIter i1 a1 k)(h4:h.IsListIter i2 a2 k)(n1:TI≠TO)(n2:i1≠i2)(q:∀b∈[z,TI,TO,i1,i2],a1≠b∧a2≠b):ZipApart z TI TO i1 i2 a1 a2:=by
 obtain⟨o3,g3,c3,d3⟩:=id h3
 obtain⟨o4,g4,c4,d4⟩:=id h4
 have m0:=q z (.head _)
 have m2:=q TO (.tail _ (.tail _ (.head _)))
 have m3:=q i1 (.tail _ (.tail _ (.tail _ (.head _))))
 have m4:=q i2 (.tail _ (.tail _ (.tail _ (.tail _ (.head _)))))
 constructor<;>first|exact n1|exact n2|exact m0.1|exact m2.1|exact m3.1|exact m4.1|exact m0.2|exact m2.2|exact m3.2|exact m4.2|skip
 ·exact hU h1 hz (by simp)
 ·exact hU h2 hz (by simp)
 ·exact hU g3 hz (by rw[c3];simp)
 ·exact hU g4 hz (by rw[c4];simp)
 ·exact hU h1 g3 (by rw[c3];simp)
 ·exact hU h1 g4 (by rw[c4];simp)
 ·exact hU h2 g3 (by rw[c3];simp)
 ·exact hU h2 g4 (by rw[c4];simp)
theorem vc{a:Addr}{r:Nat}{fp:List Addr}(hr:Here C m loc σ)(off:OffW σ.W C.l env.locals fp)(v:VR X σ.W (.ref r) (.ref a)):∀b∈fp,a≠b:=fun b hb z=>by
 obtain⟨p,hp,e⟩:=v.jw
 cases e
 exact(off b hb).1 ⟨p,List.mem_of_getElem? hp,.inl z.symm⟩
theorem q7.apart{r t k:Nat}{z:Addr}{fp:List Addr}{d:ZD}(x:q7 X σ.W σ.s.heap r t k z fp d)(hr:Here C m loc σ)(off:OffW σ.W C.l env.locals fp):ZipApart z d.TI d.TO d.i1 d.i2 d.a1 d.a2:=
 Ab x.hz x.h1 x.h2 x.h3 x.h4 x.n1 x.n2 (x.fp▸fun b hb=>⟨vc hr off x.v1 b hb,vc hr off x.v2 b hb⟩)
theorem q7.out{r t k:Nat}{z:Addr}{fp:List Addr}{d:ZD}(x:q7 X σ.W σ.s.heap r t k z fp d){a:Addr}(h:a∉fp):a≠z∧a≠d.TO∧a≠d.i1∧a≠d.i2:=by
 rw[x.fp] at h
 exact⟨fun w=>h (by rw[w];exact .head _),fun w=>h (by rw[w];exact .tail _ (.tail _ (.head _))),fun w=>h (by rw[w];exact .tail _ (.tail _ (.tail _ (.head _)))),fun w=>h (by rw[w];exact .tail _ (.tail _ (.tail _ (.tail _ (.head _)))))⟩
theorem zip_get{ls ms:List PV}{k:Nat}{r:Option PV}(g:(match ls[k]?,ms[k]? with
  |some a,some b=>some (.tup [a,b])
  |_,_=>none)=r):(∃a b,ls[k]? =some a∧ms[k]? =some b∧r=some (.tup [a,b]))∨((ls[k]? =none∨ms[k]? =none)∧r=none):=by
 cases h1:ls[k]? with
 |none=>rw[h1] at g;exact .inr ⟨.inl rfl,g.symm⟩
 |some a=>
  cases h2:ms[k]? with
  |none=>rw[h1,h2] at g;exact .inr ⟨.inr rfl,g.symm⟩
  |some b=>rw[h1,h2] at g;exact .inl ⟨a,b,rfl,rfl,g.symm⟩
variable {Q:Option Value→Shared→Prop}{k:Nat}{I:Addr}{fp:List Addr}{v:PV}{target:Expr}
theorem xD{l:List PV}(x:It X σ.W σ.s.heap (.fixed l) k I fp)(hr:Here C m loc σ)(off:OffW σ.W C.l env.locals fp)(g:l[k]? =none)
  (q:∀h',Nx C m fp σ ⟨{σ.s with heap:=h',toks:=σ.s.toks},σ.W,σ.H⟩→Q none {σ.s with heap:=h'}):wpAny X.M C.A (pyNext (.ref I)) Q E σ.s:=by
 have hh:=(C.ak hr.ok).handled
 obtain⟨rfl,⟨t,hi,v⟩|⟨c,rfl,hi⟩⟩:=x
 ·obtain⟨a,vs,e,hT,vr⟩:=fI hr.rel v
  cases e
  exact wpAny_pyNext_tuple_end hh hi (show σ.s.heap.IsTuple t vs.toArray from hT) (jB vr g) fun h₁ he=>q h₁ (gp hr off fun a o e z=>he _ _ (q8 z) e)
 ·rw[hO] at g
  split at g
  ·cases g
  ·exact wpAny_pyNext_range_end hh hi (by exact Int.sub_nonpos_of_le (Int.ofNat_le.mpr (Nat.not_lt.mp ‹_›))) fun h₁ he=>q h₁ (gp hr off fun a o e z=>he _ _ (q8 z) e)
theorem Ac{r:Nat}(x:It X σ.W σ.s.heap (.live r) k I fp)(hr:Here C m loc σ)(off:OffW σ.W C.l env.locals fp)(g:(Src.live r).get σ.H k=some none)
  (q:∀h',Nx C m fp σ ⟨{σ.s with heap:=h',toks:=σ.s.toks},σ.W,σ.H⟩→Q none {σ.s with heap:=h'}):wpAny X.M C.A (pyNext (.ref I)) Q E σ.s:=by
 obtain⟨ls,Ad,g⟩:=Option.map_eq_some_iff.mp g
 obtain⟨rfl,a,hi,v⟩:=x
 obtain⟨vs,c,hp,gl,vr⟩:=HR.here hr v (cS Ad)
 exact wpAny_pyNext_list_end (C.ak hr.ok).handled hi (aJ gl) (jB vr g) fun h₁ he=>q h₁ (gp hr off fun a o e z=>he _ _ (q8 z) e)
theorem Ae{r:Nat}(x:It X σ.W σ.s.heap (.enum r) k I fp)(hr:Here C m loc σ)(off:OffW σ.W C.l env.locals fp)(g:(Src.enum r).get σ.H k=some none)
  (q:∀h',Nx C m fp σ ⟨{σ.s with heap:=h',toks:=σ.s.toks},σ.W,σ.H⟩→Q none {σ.s with heap:=h'}):wpAny X.M C.A (pyNext (.ref I)) Q E σ.s:=by
 obtain⟨ls,Ad,g⟩:=Option.map_eq_some_iff.mp g
 obtain⟨J,a,old,rfl,he,hi,ne,v⟩:=x
 obtain⟨vs,c,hp,gl,vr⟩:=HR.here hr v (cS Ad)
 exact wpAny_pyNext_enum_end (C.ak hr.ok).handled he hi (aJ gl) (jB vr (Option.map_eq_none_iff.mp g)) fun h₁ hq=>q h₁ (gp hr off fun a o e z=>hq _ _ (fun w=>z (by rw[w];exact .tail _ (.head _))) e)
theorem Dt{r t:Nat}(x:It X σ.W σ.s.heap (.zip r t) k I fp)(hr:Here C m loc σ)(off:OffW σ.W C.l env.locals fp)(g:(Src.zip r t).get σ.H k=some none)
  (q:∀h',Nx C m fp σ ⟨{σ.s with heap:=h',toks:=σ.s.toks},σ.W,σ.H⟩→Q none {σ.s with heap:=h'}):wpAny X.M C.A (pyNext (.ref I)) Q E σ.s:=by
 obtain⟨ls,Ad,g⟩:=Option.bind_eq_some_iff.mp g
 obtain⟨ms,Ri,g⟩:=Option.map_eq_some_iff.mp g
 obtain⟨d,x⟩:=x
 obtain⟨vs,c,hp,gl,vr⟩:=HR.here hr x.v1 (cS Ad)
 obtain⟨us,c',Cd,ER,Iz⟩:=HR.here hr x.v2 (cS Ri)
 refine wpAny_pyNext_zip_end (C.ak hr.ok).handled (x.apart hr off) x.hz x.h1 x.h2 x.h3 x.h4 (aJ gl) (aJ ER) ?_ fun h₁ hq=>q h₁ (gp hr off fun a o e z=>have w:=x.out z;hq _ _ w.1 w.2.1 w.2.2.1 w.2.2.2 e)
 rcases zip_get g with⟨_,_,_,_,z⟩|⟨z,_⟩
 ·cases z
 ·exact z.imp (jB vr) (jB Iz)
theorem Af{src:Src}(x:It X σ.W σ.s.heap src k I fp)(hr:Here C m loc σ)(off:OffW σ.W C.l env.locals fp)(g:src.get σ.H k=some none)
  (q:∀h',Nx C m fp σ ⟨{σ.s with heap:=h',toks:=σ.s.toks},σ.W,σ.H⟩→Q none {σ.s with heap:=h'}):wpAny X.M C.A (pyNext (.ref I)) Q E σ.s:=by
 cases src with
 |fixed l=>exact xD x hr off (Option.some.inj g) q
 |live r=>exact Ac x hr off g q
 |enum r=>exact Ae x hr off g q
 |zip r t=>exact Dt x hr off g q
def MD(C:Ct X n env ν)(m:Str→Option Value)(fp:List Addr)(σ:Pt)(src:Src)(k:Nat)(I:Addr)(target:Expr)(v:PV)(E:Value→Shared→Prop)(Q:Option Value→Shared→Prop):Prop:=
 ∀u bc,(∀Q':Unit→Shared→Prop,(∀ao,Nx C m fp σ ao→VR X ao.W v u→It X ao.W ao.s.heap src (k+1) I fp→Q' () ao.s)→wpAny X.M C.A (letOwnedTupleGo target (.ref I) u) Q' E bc)→Q (some u) bc
theorem tw{l:List PV}(Cf:cw target=true∨dw target=true)(x:It X σ.W σ.s.heap (.fixed l) k I fp)(hr:Here C m loc σ)(off:OffW σ.W C.l env.locals fp)(g:l[k]? =some v)(q:MD C m fp σ (.fixed l) k I target v E Q):wpAny X.M C.A (pyNext (.ref I)) Q E σ.s:=by
 obtain⟨rfl,⟨t,hi,vt⟩|⟨c,rfl,hi⟩⟩:=x
 ·obtain⟨a,vs,e,hT,vr⟩:=fI hr.rel vt
  cases e
  obtain⟨u,hu,vu⟩:=vr.get g
  refine wpAny_pyNext_tuple_item hi (show σ.s.heap.IsTuple t vs.toArray from hT) (by rw[List.getElem?_toArray];exact hu) fun h₁ hV q9=>q u _ fun Q' z=> ?_
  obtain⟨Rj,GB,c₁,_⟩:=id hV
  exact mK (s:={σ.s with heap:=h₁}) Cf GB c₁ (by decide) (z ⟨{σ.s with heap:=h₁,toks:=σ.s.toks},σ.W,σ.H⟩ (gp hr off fun a o e z=>(q9.2 _ (q8 z)).trans e) vu ⟨rfl,.inl ⟨t,hV,vt⟩⟩)
 ·rw[hO] at g
  split at g
  ·rename_i sL
   cases g
   refine wpAny_pyNext_range_item hi (by exact Int.sub_pos_of_lt (Int.ofNat_lt.mpr sL)) fun h₁ hV q9=>q _ _ fun Q' z=> ?_
   have e1:((k:Int)+1)=((k+1:Nat):Int):=rfl
   have e2:(((c.toNat:Nat):Int) - (k:Int)) - 1=((c.toNat:Nat):Int) - ((k+1:Nat):Int):=by lia
   rw[e1,e2] at hV
   exact mK (s:={σ.s with heap:=h₁,toks:=σ.s.toks+1}) Cf hV rfl (by decide) (z ⟨{σ.s with heap:=h₁,toks:=σ.s.toks+1},σ.W,σ.H⟩ (gp hr off fun a o e z=>(q9.2 _ (q8 z)).trans e) (.int _ _) ⟨rfl,.inr ⟨c,rfl,hV⟩⟩)
  ·cases g
theorem xE{r:Nat}(Cf:cw target=true∨dw target=true)(x:It X σ.W σ.s.heap (.live r) k I fp)(hr:Here C m loc σ)(off:OffW σ.W C.l env.locals fp)(g:(Src.live r).get σ.H k=some (some v))(q:MD C m fp σ (.live r) k I target v E Q):wpAny X.M C.A (pyNext (.ref I)) Q E σ.s:=by
 obtain⟨ls,Ad,g⟩:=Option.map_eq_some_iff.mp g
 obtain⟨rfl,a,hi,va⟩:=x
 obtain⟨vs,c,hp,gl,vr⟩:=HR.here hr va (cS Ad)
 obtain⟨u,hu,vu⟩:=vr.get g
 refine wpAny_pyNext_list_item hi (aJ gl) (by rw[List.getElem?_toArray];exact hu) fun h₁ hV q9=>q u _ fun Q' z=> ?_
 obtain⟨Rj,GB,c₁,_⟩:=id hV
 exact mK (s:={σ.s with heap:=h₁}) Cf GB c₁ (by decide) (z ⟨{σ.s with heap:=h₁,toks:=σ.s.toks},σ.W,σ.H⟩ (gp hr off fun a o e z=>(q9.2 _ (q8 z)).trans e) vu ⟨rfl,a,hV,va⟩)
theorem xF{r:Nat}(ht:dw target=true)(x:It X σ.W σ.s.heap (.enum r) k I fp)(hr:Here C m loc σ)(off:OffW σ.W C.l env.locals fp)(g:(Src.enum r).get σ.H k=some (some v))(q:MD C m fp σ (.enum r) k I target v E Q):wpAny X.M C.A (pyNext (.ref I)) Q E σ.s:=by
 obtain⟨ls,Ad,g⟩:=Option.map_eq_some_iff.mp g
 obtain⟨w,g1,rfl⟩:=Option.map_eq_some_iff.mp g
 obtain⟨J,a,old,rfl,he,hi,ne,va⟩:=x
 obtain⟨vs,c,hp,gl,vr⟩:=HR.here hr va (cS Ad)
 obtain⟨u,hu,vu⟩:=vr.get g1
 cases target<;>first|(cases ht;done)|skip
 refine wpAny_pyNext_enum_item he hi (aJ gl) (by rw[List.getElem?_toArray];exact hu) ne fun h₁ ME hV MF ES vd=>q _ _ fun Q' z=>wpAny_letOwnedTupleGo_enum ME fun d9 MG fL=> ?_
 have fL:Heap.SameBut I h₁ d9:=fL
 have Ag:d9.get? σ.s.heap.objs.size=some {cls:=.type "tuple",data:=.seq #[.int k σ.s.toks,u]}:=(fL.2 _ (Nat.ne_of_gt (Heap.lt_size he))).trans MF
 have N:=oU (tk:=σ.s.toks+1) hr off (fun b o e z=>(fL.2 _ (fun w=>z (by rw[w];exact .head _))).trans (vd b o (fun w=>z (by rw[w];exact .head _)) (fun w=>z (by rw[w];exact .tail _ (.head _))) e)) (aV _) Ag
 exact z _ N (.tup _ σ.s.heap.objs.size _ 0 [.int k σ.s.toks,u] (Wd.iG _ _ _) rfl rfl (.cons (.int _ _) (.cons (vu.mono N.ext) .nil))) ⟨J,a,u,rfl,MG,hV.extBut fL.extBut (Ne.symm ne),ne,va.mono N.ext⟩
theorem Ah{r t:Nat}(ht:dw target=true)(x:It X σ.W σ.s.heap (.zip r t) k I fp)(hr:Here C m loc σ)(off:OffW σ.W C.l env.locals fp)(g:(Src.zip r t).get σ.H k=some (some v))(q:MD C m fp σ (.zip r t) k I target v E Q):wpAny X.M C.A (pyNext (.ref I)) Q E σ.s:=by
 revert X n env ν C m loc σ E Q k I fp v target r t
 apply aO;intro
 generalize bL .. =X,bM .. =n,bQ .. =env,bR .. =ν
 apply aI;intro
 generalize nx .. =C
 apply aQ;intro
 generalize bT .. =m,bU .. =loc,bV .. =σ,bW .. =E,cj .. =Q,ck .. =k,cm .. =I,cp .. =fp
 apply aO;intro
 generalize bL .. =v,bM .. =target,bQ .. =r,bR .. =t
 intro ht x hr off g q
 obtain⟨ls,Ad,g⟩:=Option.bind_eq_some_iff.mp g
 obtain⟨ms,Ri,g⟩:=Option.map_eq_some_iff.mp g
 obtain⟨d,x⟩:=x
 obtain⟨vs,c,hp,gl,vr⟩:=HR.here hr x.v1 (cS Ad)
 obtain⟨us,c',Cd,ER,Iz⟩:=HR.here hr x.v2 (cS Ri)
 have D:=x.apart hr off
 cases target<;>first|(cases ht;done)|skip
 rcases zip_get g with⟨w1,w2,Rk,Rl,z⟩|⟨_,z⟩
 ·cases z
  obtain⟨u1,WI,WJ⟩:=vr.get Rk
  obtain⟨u2,WK,WL⟩:=Iz.get Rl
  refine wpAny_pyNext_zip_item D x.hz x.h1 x.h2 x.h3 x.h4 (aJ gl) (aJ ER) (by rw[List.getElem?_toArray];exact WI) (by rw[List.getElem?_toArray];exact WK) fun h₁ ES MH b1 b2 MI Ce vd=>q _ _ fun Q' z=>wpAny_letOwnedTupleGo_zip ES fun d9 MJ fL=> ?_
  have fL:Heap.SameBut I h₁ d9:=fL
  have Ag:d9.get? σ.s.heap.objs.size=some {cls:=.type "tuple",data:=.seq #[u1,u2]}:=(fL.2 _ (Nat.ne_of_gt (Heap.lt_size x.hz))).trans MI
  have N:=oU (tk:=σ.s.toks) hr off (fun b o e z=>have w:=x.out z;(fL.2 _ w.1).trans (vd b o w.1 w.2.1 w.2.2.1 w.2.2.2 e)) (aV _) Ag
  exact z _ N (.tup _ σ.s.heap.objs.size _ 0 [u1,u2] (Wd.iG _ _ _) rfl rfl (.cons (WJ.mono N.ext) (.cons (WL.mono N.ext) .nil)))
   ⟨⟨d.TI,d.TO,d.i1,d.i2,d.a1,d.a2,u1,u2⟩,x.fp,MJ,(fL.2 _ D.TIz).trans (vd _ _ D.TIz D.TITO D.TIi1 D.TIi2 x.h1),(fL.2 _ D.TOz).trans MH,b1.extBut fL.extBut D.i1z,b2.extBut fL.extBut D.i2z,x.n1,x.n2,x.v1.mono N.ext,x.v2.mono N.ext⟩
 ·cases z
theorem ve{src:Src}(x:It X σ.W σ.s.heap src k I fp)(hr:Here C m loc σ)(off:OffW σ.W C.l env.locals fp)(ht:dw target=true∨(cw target=true∧∀r t,src≠.enum r∧src≠.zip r t))(g:src.get σ.H k=some (some v))(q:MD C m fp σ src k I target v E Q):wpAny X.M C.A (pyNext (.ref I)) Q E σ.s:=by
 have Cf:cw target=true∨dw target=true:=ht.elim .inr fun z=>.inl z.1
 cases src with
 |fixed l=>exact tw Cf x hr off (Option.some.inj g) q
 |live r=>exact xE Cf x hr off g q
 |enum r=>exact xF (ht.elim id fun z=>absurd rfl (z.2 r 0).1) x hr off g q
 |zip r t=>exact Ah (ht.elim id fun z=>absurd rfl (z.2 r t).2) x hr off g q
end
noncomputable def cY:g7→Bool
 |.enum _=>false
 |.zip .. =>false
 |_=>true
def pT(src:Src):Prop:=∀r t,src≠.enum r∧src≠.zip r t
section
variable {X:Cx}{P:ef}{n:Nat}{env:Env}{ν:Nu}{C:Ct X n env ν}{m:Str→Option Value}{loc:Loc}{σ gm ae ao:Pt}{A:Around}{s:Shared}{W W':Wd}{H:aa}{h h' g:Heap}{L:Addr}{l:List Env}{E:Value→Shared→Prop}
def MK(C:Ct X n env ν)(m:Str→Option Value)(loc:Loc)(σ:Pt)(is:g7)(R:Src→aa→Prop)(Φ:Value→Shared→Prop):Prop:=
 ∀src I fp bo,Here C m loc bo→Le C.l env.locals σ bo→It X bo.W bo.s.heap src 0 I fp→OffW bo.W C.l env.locals fp→(∀a∈fp,σ.s.heap.get? a=none)→(cY is=true→pT src)→R src bo.H→Φ (.ref I) bo.s
def dM(X:Cx)(P:ef)(n:Nat)(env:Env)(ν:Nu)(e:Expr)(is:g7):Prop:=
 ∀(C:Ct X n env ν) m loc σ R Φ,Here C m loc σ→Gk P (aj P n) is loc σ.H R (fun k H=>C.E k loc H)→MK C m loc σ is R Φ→wpAny X.M C.A (eval e env) (fun v bc=>wpAny X.M C.A (pyIter v) Φ C.Ψ bc) C.Ψ σ.s
theorem Here.off(hr:Here C m loc σ){fp:List Addr}(d:∀a∈fp,σ.s.heap.get? a=none):OffW σ.W C.l env.locals fp:=fun a ha=>hr.fresh (d a ha)
theorem jC{src:Src}{I:Addr}{fp:List Addr}{tk:Nat}{is:g7}{R:Src→aa→Prop}{Φ:Value→Shared→Prop}(q:MK C m loc σ is R Φ)(hr:Here C m loc ae)(le:Le C.l env.locals σ ae)(hk:∀a o,ae.s.heap.get? a=some o→h'.get? a=some o)(d:∀a∈fp,ae.s.heap.get? a=none)(it:It X ae.W h' src 0 I fp)(pl:cY is=true→pT src)(h:R src ae.H):
  Φ (.ref I) {ae.s with heap:=h',toks:=tk}:=
 have z:=hr.eG (tk:=tk) (fun a o e _=>hk a o e) (Fr.eG hr.st.F hk)
 q src I fp _ z.1 (le.trans z.2) it (hr.off d) (fun a ha=>le.dead (d a ha)) pl h
theorem tx{e:Expr}{ie:IE}(he:az X P n env ν e ie):dM X P n env ν e (.items ie):=fun C m loc σ R Φ hr h q=>he.ev C m loc σ _ _ hr h fun v u ae au ay aK h=>by
 have d:∀a∈[ae.s.heap.objs.size],ae.s.heap.get? a=none:=fun a ha=>by rw[in1 ha];exact aV _
 cases v with
 |tup l=>
  obtain⟨a,vs,rfl,hT,vr⟩:=fI au.rel aK
  exact wpAny_pyIter_tuple (show ae.s.heap.IsTuple a vs.toArray from hT) (jC (src:=.fixed l) (tk:=ae.s.toks) q au ay (cB _ _) d ⟨rfl,.inl ⟨a,⟨_,Heap.get?_push_size _ rfl,rfl,rfl⟩,aK⟩⟩ (fun _ _ _=>⟨nofun,nofun⟩) (WG.el h).2)
 |ref r=>
  obtain⟨l,e,h1⟩:=wL.el h
  obtain⟨a,vs,c,rfl,hp,g,vr⟩:=au.rel.cK aK e
  exact wpAny_pyIter_list (aJ g) (jC (src:=.live r) (tk:=ae.s.toks) q au ay (cB _ _) d ⟨rfl,a,⟨_,Heap.get?_push_size _ rfl,rfl,rfl⟩,aK⟩ (fun _ _ _=>⟨nofun,nofun⟩) h1.el.2)
 |_=>exact h.elim
theorem rd{x:Str}{v:Value}{a:Expr}{Q:Value→Shared→Prop}(p pos:Pos)(ev:EnvOk env)(hr:Here C m loc σ)(hx:env.kindOf x=some .globalImplicit)(hd:(x == ("__debug__":Str))=false)(e:nsIn X.K mainGlobals x=some none)(hv:bootBuiltins x=some v)(hn:x≠"__name__")
  (Mv:notRef v=true) (sa:notStar a=true) (h:wpAny X.M A (eval a env) (fun u bc=>wpAny X.M A (call v [u]) Q E bc) E σ.s):wpAny X.M A (eval (.Call (.Name x p) [a] [] pos) env) Q E σ.s:=
 eh p pos ev hr hx hd e hv hn Mv (by rw[aD sa];rfl) (.inr ⟨_,_,aD sa _ _⟩) (wpAny_items_cons (wpAny_mono h (fun _ _ z=>wpAny_items_nil z) fun _ _ z=>z) (aD sa _ _))
theorem d5(h:Heap)(k:Nat):h.get? (h.objs.size+k)=none:=by
 cases q:h.get? (h.objs.size+k) with
 |none=>rfl
 |some o=>exact absurd (Heap.lt_size q) (Nat.not_lt.mpr (Nat.le_add_right _ _))
theorem tA{x:Str}{a:Expr}{ia:IE}(p pos:Pos)(ev:EnvOk env)(hx:env.kindOf x=some .globalImplicit)(hd:(x == ("__debug__":Str))=false)(e:nsIn X.K mainGlobals x=some none)(hv:bootBuiltins x=some (.type "range"))(hn:x≠"__name__")(sa:notStar a=true)(ha:az X P n env ν a ia):
  dM X P n env ν (.Call (.Name x p) [a] [] pos) (.range ia):=fun C m loc σ R Φ hr h q=>rd p pos ev hr hx hd e hv hn rfl sa (ha.ev C m loc σ _ _ hr h fun v u ae au ay aK h=>by
 obtain⟨c,rfl,h1⟩:=wI.el h
 obtain⟨t,rfl⟩:=aK.int_inv
 have hc:=h1.el.1
 refine call_range_1 (wpAny_pyIter_range (IsRange.new ae.s.heap 0 c 1 _ _ _) (small_one (by decide) (by decide) (by exact jk hc.1 rfl) (by exact wa hc.2 rfl)) ?_)
 refine jC (src:=.fixed (dv c)) (tk:=ae.s.toks+1+1) (fp:=[(ae.s.heap.push {cls:=.type "range",data:=.fields #[.int 0 ae.s.toks,.int c t,.int 1 (ae.s.toks+1)]}).objs.size]) q au ay (fz _ _ _) (fun a ha=> ?_) ⟨rfl,.inr ⟨c,rfl,?_⟩⟩ (fun _ _ _=>⟨nofun,nofun⟩) h1.el.2
 ·rw[in1 ha,Heap.size_push];exact d5 _ 1
 ·have:Builtin.Range.rangeSize 0 c 1=((c.toNat:Nat):Int) - ((0:Nat):Int):=by rw[rangeSize_nat];simp
  rw[←this]
  exact Heap.get?_push_size _ rfl)
theorem xG{x:Str}{a:Expr}{ia:IE}(p pos:Pos)(ev:EnvOk env)(hx:env.kindOf x=some .globalImplicit)(hd:(x == ("__debug__":Str))=false)(e:nsIn X.K mainGlobals x=some none)(hv:bootBuiltins x=some (.type "enumerate"))(hn:x≠"__name__")(sa:notStar a=true)(ha:az X P n env ν a ia):
  dM X P n env ν (.Call (.Name x p) [a] [] pos) (.enum ia):=fun C m loc σ R Φ hr h q=>rd p pos ev hr hx hd e hv hn rfl sa (ha.ev C m loc σ _ _ hr h fun v u ae au ay aK h=>by
 obtain⟨r,rfl,h1⟩:=dp.el h
 obtain⟨l,e,h2⟩:=wL.el h1
 obtain⟨a,vs,c,rfl,hp,g,vr⟩:=au.rel.cK aK e
 refine call_enumerate_1 g fun h₁ he hi hz hk=>wpAny_pyIter_enum he (jC (src:=.enum r) (tk:=ae.s.toks) (fp:=[ae.s.heap.objs.size+1,ae.s.heap.objs.size]) q au ay hk (fun b hb=> ?_) ⟨_,a,.none,rfl,he,hi,Nat.succ_ne_self _,aK⟩ nofun h2.el.2)
 rcases List.mem_cons.mp hb with rfl|hb
 ·exact d5 _ 1
 ·rw[in1 hb];exact aV _)
theorem Ai{x:Str}{a b:Expr}{ia ib:IE}(p pos:Pos)(ev:EnvOk env)(hx:env.kindOf x=some .globalImplicit)(hd:(x == ("__debug__":Str))=false)(e:nsIn X.K mainGlobals x=some none)(hv:bootBuiltins x=some (.type "zip"))(hn:x≠"__name__")(sa:notStar a=true)(sb:notStar b=true)(ha:az X P n env ν a ia)(hb:az X P n env ν b ib):
  dM X P n env ν (.Call (.Name x p) [a,b] [] pos) (.zip ia ib):=fun C m loc σ R Φ hr h q=>
 eh p pos ev hr hx hd e hv hn rfl (by rw[aD sa,aD sb];rfl) (.inr ⟨_,_,aD sa _ _⟩) (wpAny_items_cons (ha.ev C m loc σ _ _ hr h fun v u ae au ay aK h=>wpAny_items_cons (hb.ev C m loc ae _ _ au h fun w u' ao aC aH bX h=>wpAny_items_nil (by
  obtain⟨r,rfl,h1⟩:=dp.el h
  obtain⟨t,rfl,h2⟩:=dp.el h1
  obtain⟨l,e,h3⟩:=wL.el h2
  obtain⟨l',e',h4⟩:=wL.el h3
  have aK:=aK.up aH
  obtain⟨a,vs,c,rfl,hp,g,vr⟩:=aC.rel.cK aK e
  obtain⟨b,us,c',rfl,Cd,g',Iz⟩:=aC.rel.cK bX e'
  refine call_zip_2 (aJ g) (aJ g') fun h₁ hz i1 i2 i3 i4 Ce hk=>wpAny_pyIter_zip hz ?_
  exact jC (src:=.zip r t) (tk:=ao.s.toks) (fp:=[ao.s.heap.objs.size+4,ao.s.heap.objs.size+2,ao.s.heap.objs.size+3,ao.s.heap.objs.size,ao.s.heap.objs.size+1]) q aC (ay.trans aH) hk (MC (d5 _ 4) (d5 _ 2) (d5 _ 3) (aV _) (d5 _ 1))
   ⟨⟨_,_,_,_,a,b,_,_⟩,rfl,hz,i1,i2,i3,i4,(Nat.succ_ne_self _).symm,(Nat.succ_ne_self _).symm,aK,bX⟩ nofun h4.el.2)) (aD sb _ _)) (aD sa _ _))
def fS(ν:Nu):Prop:=∀x y i,ν.lookup x=some i→ν.lookup y=some i→x=y
noncomputable def upd(m:Str→Option Value)(x:Str)(u:Value)(y:Str):Option Value:=if y=x then some u else m y
theorem ju.put{x:Str}{i:Nat}{v:PV}{u:Value}(inj:fS ν)(lr:ju X W env ν m loc)(hx:env.kindOf x=some .local)(hi:ν.lookup x=some i)(vr:VR X W v u)(sL:i<loc.length):ju X W env ν (upd m x u) (loc.set i (some v)):=by
 intro y j v' hy hv
 by_cases q:j=i
 ·subst q
  obtain rfl:=inj y x j hy hi
  rw[List.getElem?_set_self sL] at hv
  cases hv
  exact⟨u,.inl ⟨hx,if_pos rfl⟩,vr⟩
 ·rw[List.getElem?_set_ne (fun z=>q z.symm)] at hv
  obtain⟨u',nr,Iz⟩:=lr y j v' hy hv
  refine⟨u',nr.imp (fun z=>⟨z.1,(if_neg ?_).trans z.2⟩) id,Iz⟩
  rintro rfl
  rw[hi] at hy;cases hy;exact q rfl
def tB(C:Ct X n env ν)(eQ:Loc)(σ:Pt)(Q:Shared→Prop):Prop:=∀m' s',Here C m' eQ ⟨s',σ.W,σ.H⟩→Le C.l env.locals σ ⟨s',σ.W,σ.H⟩→Q s'
theorem Here.set(hr:Here C m loc σ){x:Str}{i:Nat}{v:PV}{u:Value}{tk:Nat}(inj:fS ν)(hx:env.kindOf x=some .local)(hi:ν.lookup x=some i)(vr:VR X σ.W v u)(sL:i<loc.length)(hn:h'.Ns env.locals (upd m x u))(hs:Heap.SameBut env.locals σ.s.heap h'):
  Here C (upd m x u) (loc.set i (some v)) ⟨{σ.s with heap:=h',toks:=tk},σ.W,σ.H⟩∧Le C.l env.locals σ ⟨{σ.s with heap:=h',toks:=tk},σ.W,σ.H⟩:=by
 have F':Fr X.h₀ env.locals h' (upd m x u):=Fr.set hr.st.F hn hs
 have hk:∀a o,σ.s.heap.get? a=some o→a≠env.locals→h'.get? a=some o:=fun a o e q=>(hs.2 a q).trans e
 have S:Step C.l env.locals σ.W σ.s.heap σ.W h':=Step.but C.l σ.W hk (Fr.live F')
 have x:Le C.l env.locals σ ⟨{σ.s with heap:=h',toks:=tk},σ.W,σ.H⟩:=⟨S,rfl,rfl,rfl⟩
 exact⟨⟨hr.st.next (s':={σ.s with heap:=h',toks:=tk}) S F' (hr.rel.iF hr.st.dE hr.st.dT hk),hr.lr.put inj hx hi vr sL,hr.le.trans x,hr.ok⟩,x⟩
theorem eI{x:Str}{i:Nat}{v:PV}{u:Value}{Q:Unit→Shared→Prop}(inj:fS ν)(lS:env.scope.kind=.function)(hr:Here C m loc σ)(hx:env.kindOf x=some .local)(hi:ν.lookup x=some i)(vr:VR X σ.W v u)(sL:i<loc.length)(q:tB C (loc.set i (some v)) σ (Q ())):
  wpAny X.M A (storeName env x u) Q E σ.s:=
 wpAny_storeName_local hx hr.st.F.ns (fun h' hn hs=>have z:=hr.set (tk:=σ.s.toks+1) inj hx hi vr sL hn hs;q _ _ z.1 z.2) (by rw[lS];rfl)
theorem tB.up{Q:Shared→Prop}{s':Shared}(q:tB C loc σ Q)(x:Le C.l env.locals σ ⟨s',σ.W,σ.H⟩):tB C loc ⟨s',σ.W,σ.H⟩ Q:=fun m' Cc hr le=>q m' Cc hr (x.trans le)
theorem putL.el{v:PV}:∀{l:Loc} {x:Nat} {k:Loc→Prop},putL v l x k→x<l.length∧k (l.set x (some v))
 |[],_,_,h=>h.elim
 |_::_,0,_,h=>⟨Nat.succ_pos _,h⟩
 |a::r,n+1,k,h=>by
  obtain⟨e,g⟩:=putL.el (l:=r) h
  exact⟨Nat.succ_lt_succ e,g⟩
noncomputable def sets:List Nat→List PV→Loc→Loc
 |x::xs,v::vs,l=>sets xs vs (l.set x (some v))
 |_,_,l=>l
theorem iS.el:∀{xs:List Nat} {vs:List PV} {l:Loc} {k:Loc→Prop},iS xs vs l k→xs.length=vs.length∧(∀x∈xs,x<l.length)∧k (sets xs vs l)
 |[],[],_,_,h=>⟨rfl,nofun,h⟩
 |x::xs,v::vs,l,k,h=>by
  obtain⟨e,g⟩:=putL.el h
  obtain⟨e1,e2,g2⟩:=iS.el g
  rw[List.length_set] at e2
  exact⟨congrArg (· +1) e1,fun y hy=>(List.mem_cons.mp hy).elim (fun z=>z▸e) (e2 y),g2⟩
 |[],_::_,_,_,h=>h.elim
 |_::_,[],_,_,h=>h.elim
inductive tC(env:Env)(ν:Nu):List Str→List Nat→Prop
 |nil:tC env ν [] []
 |cons {x:Str} {i:Nat} {xs:List Str} {is:List Nat}:env.kindOf x=some .local→ν.lookup x=some i→tC env ν xs is→tC env ν (x::xs) (i::is)
inductive gq(env:Env)(ν:Nu):List Expr→List Nat→Prop
 |nil:gq env ν [] []
 |cons {x:Str} {p:Pos} {i:Nat} {es:List Expr} {is:List Nat}:env.kindOf x=some .local→ν.lookup x=some i→gq env ν es is→gq env ν (.Name x p::es) (i::is)
inductive Cg(env:Env)(ν:Nu):Expr→List Nat→Prop
 |name {x:Str} {p:Pos} {i:Nat}:env.kindOf x=some .local→ν.lookup x=some i→Cg env ν (.Name x p) [i]
 |tup {es:List Expr} {is:List Nat} {k:Nat} {p:Pos}:gq env ν es is→2≤is.length→Cg env ν (.Tuple es k p) is
inductive Stores(env:Env)(ν:Nu):List (Value→Sem Unit)→List Nat→Prop
 |nil:Stores env ν [] []
 |cons {f:Value→Sem Unit} {x:Str} {i:Nat} {fs:List (Value→Sem Unit)} {is:List Nat}:(∀{M A u Q E s},wpAny M A (storeName env x u) Q E s→wpAny M A (f u) Q E s)→env.kindOf x=some .local→ν.lookup x=some i→Stores env ν fs is→Stores env ν (f::fs) (i::is)
theorem Stores.run(inj:fS ν)(lS:env.scope.kind=.function){fs:List (Value→Sem Unit)}{is:List Nat}(st:Stores env ν fs is):∀{m loc} {s:Shared} {W:Wd} {H:aa} {vs:List PV} {us:List Value} {Q:Unit→Shared→Prop},Here C m loc ⟨s,W,H⟩→cO X W vs us→is.length=vs.length→(∀x∈is,x<loc.length)→tB C (sets is vs loc) ⟨s,W,H⟩ (Q ())→wpAny X.M A (assignInOrder fs us) Q E s:=by
 induction st with
 |nil=>
  intro m loc s W H vs us Q hr vr hl hb q
  obtain rfl:vs=[]:=List.eq_nil_of_length_eq_zero hl.symm
  obtain rfl:=vr.nil_inv
  exact wpAny_pure (q m s hr (.refl _))
 |cons hf hx hi r ih=>
  intro m loc s W H vs us Q hr vr hl hb q
  cases vs with
  |nil=>cases hl
  |cons v vs=>
  obtain⟨u,UX,rfl,v1,vr⟩:=vr.cons_inv
  refine wpAny_bind (wpAny_holding (hf (eI (σ:=⟨s,W,H⟩) inj lS hr hx hi v1 (hb _ (.head _)) fun m' s' dO le=> ?_)))
  exact ih dO vr (Nat.succ.inj hl) (fun x hx=>by rw[List.length_set];exact hb x (.tail _ hx)) (tB.up (σ:=⟨s,W,H⟩) q le)
theorem gq.stores{es:List Expr}{is:List Nat}(x:gq env ν es is):Stores env ν ((assignEach es env).map (·.2)) is:=by
 induction x with
 |nil=>exact .nil
 |cons h1 h2 _ ih=>exact .cons (fun h=>wpAny_assign_Name h) h1 h2 ih
theorem gq.each{es:List Expr}{is:List Nat}(x:gq env ν es is):(assignEach es env).length=is.length∧(assignEach es env).findIdx? (·.1)=none:=by
 induction x with
 |nil=>exact⟨rfl,rfl⟩
 |@cons x p i es is _ _ _ ih=>
  refine⟨congrArg (· +1) ih.1,?_⟩
  show List.findIdx? (·.1) ((false,assign (.Name x p) env)::assignEach es env)=none
  rw[List.findIdx?_cons,ih.2];rfl
theorem mL{es:List Expr}{is:List Nat}{l:List PV}{k:Nat}{p:Pos}{u:Value}{Q:Unit→Shared→Prop}{Ψ:Value→Shared→Prop}(ns:gq env ν es is)(inj:fS ν)(lS:env.scope.kind=.function)(hr:Here C m loc σ)(vr:VR X σ.W (.tup l) u){K:Loc→Prop}(h:iS is l loc K)(q:∀eQ,K eQ→tB C eQ σ (Q ())):
  wpAny X.M C.A (assign (.Tuple es k p) env u) Q Ψ σ.s:=by
 obtain⟨hl,hb,hk⟩:=iS.el h
 obtain⟨a,vs,rfl,hT,vr⟩:=fI hr.rel vr
 refine wpAny_assign_Tuple (C.ak hr.ok).handled (show σ.s.heap.IsTuple a vs.toArray from hT) (by rw[ns.each.1,List.size_toArray,←vr.length,hl]) ns.each.2 fun h' he=> ?_
 have sJ:∀b o,σ.s.heap.get? b=some o→h'.get? b=some o:=fun b o e=>he b o (Nat.ne_of_lt (Heap.lt_size e)) e
 have z:=hr.eG (tk:=σ.s.toks) (fun a o e _=>sJ a o e) (Fr.eG hr.st.F sJ)
 exact ns.stores.run inj lS z.1 (by simpa using vr) hl hb ((q _ hk).up z.2)
theorem mM{t:Expr}{is:List Nat}{v:PV}{u:Value}{Q:Unit→Shared→Prop}{Ψ:Value→Shared→Prop}{K:Loc→Prop}(tg:Cg env ν t is)(inj:fS ν)(lS:env.scope.kind=.function)(hr:Here C m loc σ)(vr:VR X σ.W v u)(h:f9 is v loc K)(q:∀eQ,K eQ→tB C eQ σ (Q ())):
  wpAny X.M C.A (assign t env u) Q Ψ σ.s:=by
 cases tg with
 |name hx hi=>
  obtain⟨hl,hk⟩:=putL.el h
  exact wpAny_assign_Name (eI inj lS hr hx hi vr hl (q _ hk))
 |tup ns h2=>
  match is,h2,ns,h with
  |i::j::is,h2,ns,h=>
   obtain⟨l,rfl,h1⟩:=jt.el (v:=v) (k:=fun l=>iS (i::j::is) l loc K) h
   exact mL ns inj lS hr vr h1 q
end
noncomputable def gI(e:Expr):Bool:= !(e.ctorIdx == 7)
theorem vf{e:Expr}(h:gI e=true)(env:Env)(x:Value):foldedSetIterable e env x=pure x:=by
 cases e<;>first|rfl|cases h
noncomputable def Ct.sub{X:Cx}{n:Nat}{env:Env}{ν:Nu}(C:Ct X n env ν)(cenv:Env)(ν':Nu)(σ:Pt)(Ψ:Value→Shared→Prop):Ct X n cenv ν':=⟨C.A,C.l,σ,P5,Ψ,C.ok∧j5 σ.W σ.s.heap C.l,fun k=>C.ak k.1,fun k=>k.2,fun _ _ _ _ _ _ _ _ _ _ _ _ _ h=>h.elim⟩
section
variable {X:Cx}{P:ef}{n:Nat}{env:Env}{ν ν':Nu}{C:Ct X n env ν}{m m₁ m₂:Str→Option Value}{loc aN jc:Loc}{σ gm ae ao:Pt}{A:Around}{s:Shared}{W cA fy:Wd}{H:aa}{h h₁ h' g:Heap}{L c D I:Addr}{l:List Env}{E:Value→Shared→Prop}{cenv:Env}{fp:List Addr}{src:Src}{acc:List PV}{k:Nat}
theorem Step.sub(S:Step l L W h cA h₁)(hC:h.get? c=none)(T:Step l c cA h₁ fy h'):Step l L W h fy h':=by
 have out:∀a o,h.get? a=some o→a≠c:=fun a o e z=>by rw[z,hC] at e;cases e
 refine⟨S.toExt.trans S.live T.toExt,fun a o e n1 n2 n3=>T.keep a o (S.keep a o e n1 n2 n3) (S.own e n1) (out a o e) n3,fun a o e n1 n2=> ?_,fun a o e=> ?_⟩
 ·obtain⟨sl,e'⟩:=S.slots a o e n1 n2
  obtain⟨xc,Gm⟩:=T.slots a _ e' (out a o e) n2
  exact⟨xc,Gm⟩
 ·obtain⟨o',e'⟩:=S.live a o e
  exact T.live a o' e'
theorem Fr.sub{H':aa}(F:Fr X.h₀ L h₁ m₁)(U4:L≠c)(no:¬Own cA L)(T:Step l c cA h₁ fy h')(R:HR X fy H' h'):Fr X.h₀ L h' m₁:=by
 obtain⟨o,e⟩:=Fr.live F
 by_cases q:L∈Fs l
 ·obtain⟨sl,e'⟩:=T.slots L o e U4 q
  exact⟨jz F.ns e e',R.keep,F.above⟩
 ·exact⟨jz (sl:=o.slots) F.ns e (T.keep L o e no U4 q),R.keep,F.above⟩
theorem hW{elt target iter:Expr}{scope:Scope}{pos:Pos}{it acc:Value}{env:Env}{M:Model}{R:Result→Shared→Prop}(I:Nat→Shared→Prop)(hM:∃prog w,M=model prog w)
  (turn:∀n s,I n s→wpAny M A (pyNext it) (fun r bc=>match r with
   |none=>R (.ok .next) bc
   |some v=>wpAny M A (letOwnedTupleGo target it v) (fun _ ET=>wpAny M A (assign target env v) (fun _ eS=>wpAny M A (eval elt env) (fun x ML=>
     wpAny M A (call (.builtin "list.append") [acc,x]) (fun _ MM=>∃m,m<n∧I m MM) (notedBy M A env fun e s'=>R (.error e) s') ML)
     (notedBy M A env fun e s'=>R (.error e) s') eS) (notedBy M A env fun e s'=>R (.error e) s') ET) (notedBy M A env fun e s'=>R (.error e) s') bc) (notedBy M A env fun e s'=>R (.error e) s') s)
  (n:Nat) (h:I n s):
  codeAny M A (.compLoop (.ListComp elt [⟨target,iter,[],0⟩] scope pos) 0 it acc env) R s:=by
 revert A s elt target iter scope pos it acc env M R I n
 apply aQ;intro
 generalize bT .. =A,bU .. =s,bV .. =elt,bW .. =target,cj .. =iter,ck .. =scope,cm .. =pos,cp .. =it
 apply aO;intro
 generalize bL .. =acc,bM .. =env,bQ .. =M,bR .. =R
 apply aI;intro
 generalize nx .. =I
 intro hM turn
 apply aI;intro
 generalize nx .. =n
 intro h
 obtain⟨prog,w,rfl⟩:=hM
 refine codeAny_loop rfl I (fun n s hI=> ?_) n h
 show wpAny _ _ ((compTurn (.ListComp elt [⟨target,iter,[],0⟩] scope pos) 0 it acc env).onRaise (fun x=>do noteFrame x env;theTreesLotGoes x)) _ _ s
 refine wpAny_noted ?_
 rw[compTurn_list1]
 refine wpAny_bind (wpAny_standAt (wpAny_bind (wpAny_mono (turn n s hI) (fun r bc h₁=> ?_) fun _ _ h'=>h')))
 cases r with
 |none=>exact wpAny_pure h₁
 |some v=>
  refine wpAny_bind (wpAny_mono h₁ (fun _ ET MN=> ?_) fun _ _ h'=>h')
  exact wpAny_bind (wpAny_mono MN (fun _ eS d9=>wpAny_bind (wpAny_bind (wpAny_mono d9 (fun x ML tD=>wpAny_bind (wpAny_mono tD
   (fun _ MM Rm=>wpAny_pure (wpAny_pure ⟨rfl,Rm⟩)) fun _ _ h'=>h')) fun _ _ h'=>h'))) fun _ _ h'=>h')
theorem OffW.mono{Z:List Addr}(x:OffW cA l L Z)(E:Ext cA h₁ fy)(live:∀a∈Z,∃o,h₁.get? a=some o):OffW fy l L Z:=fun a ha=>by
 obtain⟨o,e⟩:=live a ha
 exact⟨E.own e (x a ha).1,E.dE e (x a ha).2.1,(x a ha).2.2⟩
theorem OffW.sub{Z Z':List Addr}(x:OffW cA l L Z)(h:∀a∈Z',a∈Z):OffW cA l L Z':=fun a ha=>x a (h a ha)
structure fG(C:Ct X n env ν)(m:Str→Option Value)(loc:Loc)(σ:Pt)(cenv:Env)(ν':Nu)(fp:List Addr)(I D:Addr)(src:Src)(acc:List PV)(k:Nat)(aN:Loc)(m₁:Str→Option Value)(ae:Pt):Prop where
 Du:Le C.l env.locals C.B σ
 hr:Here C m loc ae
 le:Le C.l env.locals σ ae
 FC:Fr X.h₀ cenv.locals ae.s.heap m₁
 lr:ju X ae.W cenv ν' m₁ aN
 it:It X ae.W ae.s.heap src k I fp
 list:∃us d,ae.s.heap.get? D=some (lst us.toArray d)∧cO X ae.W acc us
 off:OffW ae.W C.l env.locals (D::cenv.locals::fp)
 dead:∀a∈D::cenv.locals::fp,σ.s.heap.get? a=none
 Dc:D≠cenv.locals
 Df:D∉fp
 cf:cenv.locals∉fp
theorem fG.live(x:fG C m loc σ cenv ν' fp I D src acc k aN m₁ ae):∀a∈D::cenv.locals::fp,∃o,ae.s.heap.get? a=some o:=fun a ha=>by
 rcases List.mem_cons.mp ha with rfl|ha
 ·obtain⟨us,d,e,_⟩:=x.list;exact⟨_,e⟩
 rcases List.mem_cons.mp ha with rfl|ha
 ·exact Fr.live x.FC
 ·exact x.it.live a ha
theorem fG.P8(x:fG C m loc σ cenv ν' fp I D src acc k aN m₁ ae)(Ψ:Value→Shared→Prop):Here (C.sub cenv ν' ae Ψ) m₁ aN ae:=
 have c:=x.off cenv.locals (.tail _ (.head _))
 ⟨⟨x.FC,x.hr.rel,c.2.1,c.1,x.hr.st.fr⟩,x.lr,.refl _,⟨x.hr.ok,x.hr.st.fr⟩⟩
theorem fG.xH(x:fG C m loc σ cenv ν' fp I D src acc k aN m₁ ae):OffW ae.W C.l cenv.locals (D::fp):=fun a ha=>by
 have P7:a∈D::cenv.locals::fp:=(List.mem_cons.mp ha).elim (fun z=>z▸.head _) fun z=>.tail _ (.tail _ z)
 have c:=x.off a P7
 exact⟨c.1,c.2.1,(List.mem_cons.mp ha).elim (fun z=>z▸x.Dc) fun z w=>x.cf (w▸z),c.2.2.2⟩
theorem fG.on(x:fG C m loc σ cenv ν' fp I D src acc k aN m₁ ae)(E:Ext ae.W ae.s.heap ao.W)(F:Fr X.h₀ env.locals ao.s.heap m)(R:HR X ao.W ao.H ao.s.heap)(fr:j5 ao.W ao.s.heap C.l)(S:Step C.l env.locals σ.W σ.s.heap ao.W ao.s.heap)(q:hF ae.s ao.s):
  Here C m loc ao∧Le C.l env.locals σ ao:=by
 obtain⟨oL,eL⟩:=Fr.live x.hr.st.F
 have y:Le C.l env.locals σ ao:=⟨S,x.le.same.trans q⟩
 exact⟨⟨⟨F,R,E.dE eL x.hr.st.dE,E.own eL x.hr.st.dT,fr⟩,x.hr.lr.mono E,x.Du.trans y,x.hr.ok⟩,y⟩
theorem fG.nx{k':Nat}(x:fG C m loc σ cenv ν' fp I D src acc k aN m₁ ae){Ψ:Value→Shared→Prop}(N:Nx (C.sub cenv ν' ae Ψ) m₁ fp ae ao):
  (Here C m loc ao∧Le C.l env.locals σ ao)∧Fr X.h₀ cenv.locals ao.s.heap m₁∧ju X ao.W cenv ν' m₁ aN∧(∃us d,ao.s.heap.get? D=some (lst us.toArray d)∧cO X ao.W acc us)∧OffW ao.W C.l env.locals (D::cenv.locals::fp):=by
 have Rn:OffW ae.W C.l env.locals fp:=x.off.sub fun a ha=>.tail _ (.tail _ ha)
 have FL:Fr X.h₀ env.locals ao.s.heap m:=by
  obtain⟨o',es,ep,g,r⟩:=x.hr.st.F.ns
  exact⟨⟨o',es,ep,N.keep _ _ g fun z=>(Rn _ z).2.2.1 rfl,r⟩,N.st.R.keep,x.hr.st.F.above⟩
 obtain⟨us,d,e,r⟩:=x.list
 exact⟨x.on N.ext FL N.st.R N.st.fr (x.le.step.mod (Z:=fp) (fun a ha=>x.dead a (.tail _ (.tail _ ha))) N.ext N.keep) N.same,N.st.F,x.lr.mono N.ext,⟨us,d,N.keep _ _ e x.Df,r.mono N.ext⟩,x.off.mono N.ext x.live⟩
theorem fG.turn{k':Nat}(x:fG C m loc σ cenv ν' fp I D src acc k aN m₁ ae){Ψ:Value→Shared→Prop}(N:Nx (C.sub cenv ν' ae Ψ) m₁ fp ae ao)(it:It X ao.W ao.s.heap src k' I fp):fG C m loc σ cenv ν' fp I D src acc k' aN m₁ ao:=
 have y:=x.nx (k':=k') N
 ⟨x.Du,y.1.1,y.1.2,y.2.1,y.2.2.1,it,y.2.2.2.1,y.2.2.2.2,x.dead,x.Dc,x.Df,x.cf⟩
theorem fG.U5{C':Ct X n cenv ν'}(hl:C'.l=C.l)(x:fG C m loc σ cenv ν' fp I D src acc k aN m₁ ae)(T:Le C'.l cenv.locals ae ao)(aC:Here C' m₂ jc ao):fG C m loc σ cenv ν' fp I D src acc k jc m₂ ao:=by
 obtain⟨A',l',B',E',Zk,Ro,U6,WM⟩:=C'
 subst hl
 have EU:∀a∈D::fp,∀o,ae.s.heap.get? a=some o→ao.s.heap.get? a=some o:=fun a ha o e=>by
  have c:=x.xH a ha
  exact T.step.keep a o e c.1 c.2.2.1 c.2.2.2
 have y:=x.on T.ext (Fr.sub x.hr.st.F (fun z=>(x.off cenv.locals (.tail _ (.head _))).2.2.1 z.symm) x.hr.st.dT T.step aC.rel) aC.rel aC.st.fr (x.le.step.sub (x.dead cenv.locals (.tail _ (.head _))) T.step) T.same
 obtain⟨us,d,e,r⟩:=x.list
 exact⟨x.Du,y.1,y.2,aC.st.F,aC.lr,x.it.mono T.ext fun a ha=>EU a (.tail _ ha),⟨us,d,EU D (.head _) _ e,r.mono T.ext⟩,x.off.mono T.ext x.live,x.dead,x.Dc,x.Df,x.cf⟩
theorem fG.app(x:fG C m loc σ cenv ν' fp I D src acc k aN m₁ ae){v:PV}{u:Value}{us:List Value}{d:Nat}{tk:Nat}(e:ae.s.heap.get? D=some (lst us.toArray d))(r:cO X ae.W acc us)(vr:VR X ae.W v u):
  fG C m loc σ cenv ν' fp I D src (acc++[v]) k aN m₁ ⟨{ae.s with heap:=ae.s.heap.update D (Obj.mapSeq (·.push u)),toks:=tk},ae.W,ae.H⟩:=by
 have hk:∀a o,ae.s.heap.get? a=some o→a≠D→(ae.s.heap.update D (Obj.mapSeq (·.push u))).get? a=some o:=fun a o e q=>hJ a o e q
 have U7:∀a o,ae.s.heap.get? a=some o→a∉[D]→(ae.s.heap.update D (Obj.mapSeq (·.push u))).get? a=some o:=fun a o e q=>hk a o e fun z=>q (by rw[z];exact .head _)
 have NL:=gp (tk:=tk) x.hr (fp:=[D]) (x.off.sub fun a ha=>by rw[in1 ha];exact .head _) U7
 have NC:=gp (tk:=tk) (x.P8 C.Ψ) (fp:=[D]) (x.xH.sub fun a ha=>by rw[in1 ha];exact .head _) U7
 have dd:∀a∈[D],σ.s.heap.get? a=none:=fun a ha=>x.dead a (by rw[in1 ha];exact .head _)
 have g:=IsL.update (l:=D) e (·.push u)
 exact⟨x.Du,NL.here x.hr x.Du dd,NL.le x.le dd,NC.st.F,x.lr,x.it.mono (.refl ae.W ae.s.heap) fun a ha o e=>hk a o e (by rintro rfl;exact x.Df ha),
  ⟨us++[u],_,by rw[show(us++[u]).toArray=us.toArray.push u by simp];exact g,r.append (.cons vr .nil)⟩,x.off,x.dead,x.Dc,x.Df,x.cf⟩
structure CompEnd(C:Ct X n env ν)(m:Str→Option Value)(loc:Loc)(σ:Pt)(vs:List PV)(D c:Addr)(bo:Pt):Prop where
 hr:Here C m loc bo
 le:Le C.l env.locals σ bo
 Du:Le C.l env.locals C.B σ
 dC:σ.s.heap.get? c=none
 dD:σ.s.heap.get? D=none
 list:∃us d,bo.s.heap.get? D=some (lst us.toArray d)∧cO X bo.W vs us
 ns:∃m',bo.s.heap.Ns c m'
 xH:OffW bo.W C.l env.locals [c]
 MO:OffW bo.W C.l env.locals [D]
 Dc:D≠c
theorem xI{elt target iter:Expr}{scope:Scope}{pos:Pos}{ct:List Nat}{ielt:IE}{R:Result→Shared→Prop}{K:List PV→aa→Prop}(lS:cenv.scope.kind=.function)(tg:Cg cenv ν' target ct)(inj:fS ν')(he:az X P n cenv ν' elt ielt)
  (pl:dw target=true∨(cw target=true∧pT src)) (hR:∀vs bo,K vs bo.H→CompEnd C m loc σ vs D cenv.locals bo→R (.ok .next) bo.s) (x:fG C m loc σ cenv ν' fp I D src [] 0 aN m₁ ae) (w:mA (wE P (aj P n) ielt) ct src aN ae.H K):
  codeAny X.M C.A (.compLoop (.ListComp elt [⟨target,iter,[],0⟩] scope pos) 0 (.ref I) (.ref D) cenv) R ae.s:=by
 revert X P n env ν ν' C m m₁ loc aN σ ae D I cenv fp src elt target iter scope pos ct ielt R K
 apply aO;intro
 generalize bL .. =X,bM .. =P,bQ .. =n,bR .. =env
 apply aM;intro
 generalize bI .. =ν,bJ .. =ν'
 apply aI;intro
 generalize nx .. =C
 apply aQ;intro
 generalize bT .. =m,bU .. =m₁,bV .. =loc,bW .. =aN,cj .. =σ,ck .. =ae,cm .. =D,cp .. =I
 apply aQ;intro
 generalize bT .. =cenv,bU .. =fp,bV .. =src,bW .. =elt,cj .. =target,ck .. =iter,cm .. =scope,cp .. =pos
 apply aO;intro
 generalize bL .. =ct,bM .. =ielt,bQ .. =R,bR .. =K
 intro lS tg inj he pl hR x w
 unfold mA at w
 obtain⟨N,item,J,j0,get,fin,step,done⟩:=w
 refine hW (fun f s=>∃k acc aN m₁ ae,s=ae.s∧f+k=N∧J k acc aN ae.H∧fG C m loc σ cenv ν' fp I D src acc k aN m₁ ae) ⟨_,_,rfl⟩ ?_ N ⟨0,[],aN,m₁,ae,rfl,rfl,j0,x⟩
 rintro f _ ⟨k,acc,aN,m₁,ae,rfl,hf,j,x⟩
 have xi:=x.P8 (notedBy X.M C.A cenv fun e s'=>R (.error e) s')
 have off:=x.xH.sub (Z':=fp) fun a ha=>.tail _ ha
 cases f with
 |zero=>
  obtain rfl:k=N:=(Nat.zero_add k).symm.trans hf
  refine Af (C:=C.sub cenv ν' ae _) x.it xi off (fin _ _ _ j) fun h' N'=> ?_
  have y:=x.nx (k':=k) N'
  exact hR acc ⟨{ae.s with heap:=h',toks:=ae.s.toks},ae.W,ae.H⟩ (done _ _ _ j) ⟨y.1.1,y.1.2,x.Du,x.dead _ (.tail _ (.head _)),x.dead _ (.head _),y.2.2.2.1,⟨_,y.2.1.ns⟩,y.2.2.2.2.sub fun a ha=>by rw[in1 ha];exact .tail _ (.head _),y.2.2.2.2.sub fun a ha=>by rw[in1 ha];exact .head _,x.Dc⟩
 |succ f=>
  have hk:k<N:=by exact Ex hf
  refine ve (C:=C.sub cenv ν' ae _) x.it xi off pl (get _ _ _ _ j hk) fun u eS go=>go _ fun ao N' vr it=> ?_
  have x2:=x.turn N' it
  have sp:=step k acc aN ae.H hk j
  rw[←N'.H] at sp
  refine mM (C:=C.sub cenv ν' ao C.Ψ) tg inj lS (x2.P8 C.Ψ) vr sp fun eQ sp m3 s3 IA Rp=> ?_
  have x3:=x2.U5 (C:=C) (C':=C.sub cenv ν' ao C.Ψ) rfl Rp IA
  refine he.ev (C.sub cenv ν' ⟨s3,ao.W,ao.H⟩ (notedBy X.M C.A cenv fun e s'=>R (.error e) s')) m3 eQ ⟨s3,ao.W,ao.H⟩ _ _ (x3.P8 _) sp fun v w hY hZ mN GC h4=> ?_
  have x4:=x3.U5 (C:=C) (C':=C.sub cenv ν' ⟨s3,ao.W,ao.H⟩ (notedBy X.M C.A cenv fun e s'=>R (.error e) s')) rfl mN hZ
  obtain⟨us,d,eD,rD⟩:=x4.list
  have hl:=rD.length
  have hz:=h4.1
  refine call_meets PySem.F.slot_list_append (aJ eD).typeIs PySem.F.entry_list_append (PySem.F.args_list_append_2 _ _) (list_append D us.toArray d w (by rw[List.size_toArray,sizeLine_eq];exact hl▸ly hz rfl)) ⟨eD,?_⟩
  exact⟨f,Nat.lt_succ_self f,k+1,acc++[v],eQ,m3,⟨_,hY.W,hY.H⟩,rfl,by exact(Nat.add_right_comm _ _ 1).trans hf,h4.2,x4.app (tk:=hY.s.toks) eD rD GC⟩
end
end
section
open PyProof.Rows PySem.Calls PySem.W
set_option backward.match.sparseCases false
section
variable {X:Cx}{P:ef}{n:Nat}{env:Env}{ν ν':Nu}{C:Ct X n env ν}{m m₁ m₂:Str→Option Value}{loc aN jc:Loc}{σ gm ae ao:Pt}{A:Around}{s:Shared}{W cA fy:Wd}{H:aa}{h h₁ h' g:Heap}{L c D I:Addr}{l:List Env}{E:Value→Shared→Prop}{fp:List Addr}{src:Src}
theorem mO(scope:Scope)(env:Env)(hf:∀x∈scope.names,x.2=.free→∃ca,env.cells.lookup x.1=some ca):
  ∃cl,closureFor scope env=pure cl∧∀y ca,(y,NameKind.free)∈scope.names→env.cells.lookup y=some ca→cl.lookup y=some ca:=by
 revert scope env
 apply aM;intro
 generalize bI .. =scope,bJ .. =env
 intro hf
 have main:∀(ns:List (Str×NameKind)) (cs:List (Str×Addr)),(∀x∈ns,x.2=.free→∃ca,env.cells.lookup x.1=some ca)→(∀p∈cs,env.cells.lookup p.1=some p.2)→
   ∃cl,(forIn ns cs (fun(x:Str×NameKind) (r:List (Str×Addr))=>(if(x.2 == NameKind.free)=true then do
     let a ←cellOf env x.1
     pure (ForInStep.yield ((x.1,a)::r)) else pure (ForInStep.yield r):Sem (ForInStep (List (Str×Addr))))):Sem (List (Str×Addr)))=pure cl∧(∀p∈cl,env.cells.lookup p.1=some p.2)∧(∀p∈cs,p∈cl)∧∀y,(y,NameKind.free)∈ns→∃ca,(y,ca)∈cl:=by
  intro ns
  induction ns with
  |nil=>intro cs _ hc;exact⟨cs,rfl,hc,fun _ h=>h,fun y h=>nomatch h⟩
  |cons x ns ih=>
   intro cs hn hc
   obtain⟨x,k⟩:=x
   have EV:∀x∈ns,x.2=.free→∃ca,env.cells.lookup x.1=some ca:=fun y hy=>hn y (List.mem_cons_of_mem _ hy)
   rw[List.forIn_cons]
   by_cases hk:(k == NameKind.free)=true
   ·have sJ:k=.free:=by simpa using hk
    subst sJ
    obtain⟨ca,e⟩:=hn (x,.free) (.head _) rfl
    obtain⟨cl,h1,h2,h3,h4⟩:=ih ((x,ca)::cs) EV (fun p hp=>by
     rcases List.mem_cons.mp hp with rfl|hp
     ·exact e
     ·exact hc p hp)
    refine⟨cl,?_,h2,fun p hp=>h3 p (List.mem_cons_of_mem _ hp),fun y hy=> ?_⟩
    ·dsimp only
     rw[if_pos hk]
     have:cellOf env x=pure ca:=by unfold cellOf;rw[e]
     rw[this]
     exact h1
    ·rcases List.mem_cons.mp hy with hy|hy
     ·cases hy;exact⟨ca,h3 _ (.head _)⟩
     ·exact h4 y hy
   ·obtain⟨cl,h1,h2,h3,h4⟩:=ih cs EV hc
    refine⟨cl,?_,h2,h3,fun y hy=> ?_⟩
    ·dsimp only
     rw[if_neg hk]
     exact h1
    ·rcases List.mem_cons.mp hy with hy|hy
     ·cases hy;exact absurd rfl hk
     ·exact h4 y hy
 obtain⟨cl,h1,h2,_,h4⟩:=main scope.names [] hf (fun _ h=>nomatch h)
 refine⟨cl,?_,fun y ca hy e=> ?_⟩
 ·unfold closureFor
  exact(congrArg (fun(t:Sem (List (Str×Addr)))=>t >>= fun cs=>pure cs) h1).trans rfl
 ·obtain⟨c',Rq⟩:=h4 y hy
  have:∀(cl:List (Str×Addr)),(y,c')∈cl→∃c2,cl.lookup y=some c2∧(y,c2)∈cl:=fun cl=>by
   induction cl with
   |nil=>intro h;cases h
   |cons p r ih=>
    intro h
    obtain⟨z,b⟩:=p
    rw[List.lookup_cons]
    by_cases q:(y == z)=true
    ·simp only[q];have:y=z:=by simpa using q
     subst this;exact⟨b,rfl,.head _⟩
    ·simp only[Bool.not_eq_true] at q
     simp only[q]
     rcases List.mem_cons.mp h with h|h
     ·cases h;simp at q
     ·obtain⟨c2,e2,m2⟩:=ih h;exact⟨c2,e2,.tail _ m2⟩
  obtain⟨c2,e2,m2⟩:=this cl Rq
  have:=h2 _ m2
  rw[e] at this
  cases this
  exact e2
theorem Dw{k:Nat}{Q:Value→Shared→Prop}(x:It X W s.heap src k I fp)(q:Q (.ref I) s):wpAny X.M A (pyIter (.ref I)) Q E s:=by
 cases src with
 |fixed l=>
  obtain⟨_,⟨t,hi,_⟩|⟨c,_,hi⟩⟩:=x
  ·exact wpAny_pyIter_tupleiter hi q
  ·exact wpAny_pyIter_rangeiter hi q
 |live r=>obtain⟨_,t,hi,_⟩:=x;exact wpAny_pyIter_listiter hi q
 |enum r=>obtain⟨I,a,old,_,he,_⟩:=x;exact wpAny_pyIter_enum he q
 |zip r t=>obtain⟨d,x⟩:=x;exact wpAny_pyIter_zip x.hz q
theorem pU(ct:List Nat):∀(loc:Loc) (j:Nat) (v:PV),(f7 ct loc)[j]? =some (some v)→j∉ct∧loc[j]? =some (some v):=by
 induction ct with
 |nil=>
  exact fun _ _ _ e=>⟨List.not_mem_nil,e⟩
 |cons x xs ih=>
  intro loc j v e
  have e:(f7 xs (loc.set x none))[j]? =some (some v):=e
  obtain⟨h1,h2⟩:=ih _ j v e
  by_cases q:x=j
  ·subst q
   have sL:=(List.getElem?_eq_some_iff.mp h2).1
   rw[List.length_set] at sL
   rw[List.getElem?_set_self sL] at h2
   cases h2
  ·rw[List.getElem?_set_ne q] at h2
   exact⟨fun z=>(List.mem_cons.mp z).elim (fun w=>q w.symm) h1,h2⟩
def GD(env cenv:Env)(ν ν':Nu)(ct:List Nat):Prop:=
 ∀y j,ν'.lookup y=some j→j∈ct∨(ν.lookup y=some j∧env.kindOf y≠some .local∧(cenv.kindOf y=some .cell∨cenv.kindOf y=some .free)∧∀ca,env.cells.lookup y=some ca→cenv.cells.lookup y=some ca)
theorem GD.locs{cenv:Env}{ct:List Nat}{loc:Loc}{m':Str→Option Value}(v:GD env cenv ν ν' ct)(lr:ju X W env ν m loc):ju X W cenv ν' m' (f7 ct loc):=by
 intro y j w hy hw
 obtain⟨h1,h2⟩:=pU ct loc j w hw
 rcases v y j hy with h|⟨h3,h4,h5,h6⟩
 ·exact absurd h h1
 ·obtain⟨u,nr,vr⟩:=lr y j w h3 h2
  refine⟨u,?_,vr⟩
  rcases nr with⟨q,_⟩|⟨ca,o,q1,q2,q3,q4⟩
  ·exact absurd q h4
  ·exact .inr ⟨ca,o,h5,h6 ca q2,q3,q4⟩
theorem oV{elt target iter:Expr}{scope:Scope}{cl:List (Str×Addr)}{pos GF:Pos}{ct:List Nat}{gX:g7}{ielt:IE}{use:Option (Value→Sem Unit)}{Q:Value→Shared→Prop}{K:PV→aa→Prop}
  (MP:closureFor scope env=pure cl) (jD:scope.kind=.function) (rh:∀y∈scope.names,y.2≠.cell) (mP:∀x∈scope.names,x.2=.local→scope.names.lookup x.1=some .local) (kR:gI iter=true)
  (tg:∀C,Cg (compEnvC scope cl C env) ν' target ct) (inj:fS ν') (MQ:∀C,GD env (compEnvC scope cl C env) ν ν' ct) (hs:dM X P n env ν iter gX) (he:∀C,az X P n (compEnvC scope cl C env) ν' elt ielt)
  (pl:dw target=true∨(cw target=true∧cY gX=true)) (hr:Here C m loc σ) (h:wE P (aj P n) (.comp ct gX ielt) loc σ.H K fun k H=>C.E k loc H)
  (fin:∀vs D c bo,vs.length<1000→K (.ref bo.H.length) (bo.H++[.list vs])→CompEnd C m loc σ vs D c bo→compPost X.M C.A C.Ψ use Q (.ref D) c (.ok .next) bo.s):
  wpAny X.M C.A (comprehension (.ListComp elt [⟨target,iter,[],0⟩] scope pos) scope env GF (newList []) false (eval iter env) use) Q C.Ψ σ.s:=by
 refine wpAny_comprehension_free (use:=use) rfl (fun x=>vf kR env x) MP jD mP (hs C m loc σ _ _ hr h fun src I fp bo dO le it off dead hp w=> ?_)
 refine wpAny_newObj_type (wpAny_newFunctionEnv rh (by intro y hy;cases hy) (fun tD tE pV=> ?_) jD)
 dsimp only at tE pV ⊢
 generalize Rr:bo.s.heap.push {cls:=.type "list",dict:=none,data:=.seq ([]:List Value).toArray}=H2 at tE pV ⊢
 have P9:H2.objs.size=bo.s.heap.objs.size+1:=by rw[←Rr,Heap.size_push]
 have U8:bo.s.heap.objs.size≠H2.objs.size:=by rw[P9];exact(Nat.succ_ne_self _).symm
 have old:∀b o,bo.s.heap.get? b=some o→tD.get? b=some o:=fun b o e=>pV.extBut b o (by rw[P9];exact Nat.ne_of_lt (Nat.lt_succ_of_lt (Heap.lt_size e))) (Heap.get?_push_of_some _ (Rr▸Heap.get?_push_of_some _ e))
 have Rt:tD.get? bo.s.heap.objs.size=some (lst ([]:List Value).toArray 0):=pV.extBut _ _ U8 (Heap.get?_push_of_some _ (Rr▸Heap.get?_push_size _ rfl))
 have EW:∀a∈[bo.s.heap.objs.size,H2.objs.size],bo.s.heap.get? a=none:=fun a ha=>by
  rcases List.mem_cons.mp ha with rfl|ha
  ·exact aV _
  ·rw[in1 ha,P9];exact d5 _ 1
 have d1:=EW _ (.head _)
 have d2:=EW _ (.tail _ (.head _))
 have z:=dO.eG (h':=tD) (tk:=bo.s.toks+([]:List (Str×Value)).length) (fun a o e _=>old a o e) (Fr.eG dO.st.F old)
 have FC:Fr X.h₀ H2.objs.size tD (fun x=>([]:List (Str×Value)).reverse.lookup x):=⟨tE,z.1.rel.keep,by
  rw[P9]
  obtain⟨o,e⟩:=Fr.live dO.st.F
  exact Nat.le_succ_of_le (Nat.le_trans dO.st.F.above (Nat.le_of_lt (Heap.lt_size e)))⟩
 have ci:fG C m loc σ (compEnvC scope cl H2.objs.size env) ν' fp I bo.s.heap.objs.size src [] 0 (f7 ct loc) (fun x=>([]:List (Str×Value)).reverse.lookup x) ⟨{bo.s with heap:=tD,toks:=bo.s.toks+([]:List (Str×Value)).length},bo.W,bo.H⟩:=by
  refine⟨hr.le,z.1,le.trans z.2,FC,(MQ _).locs z.1.lr,it.mono (.refl bo.W bo.s.heap) fun a _ o e=>old a o e,⟨[],0,Rt,.nil⟩,fun a ha=> ?_,fun a ha=> ?_,U8,fun z=> ?_,fun z=> ?_⟩
  ·rcases List.mem_cons.mp ha with rfl|ha
   ·exact dO.fresh d1
   rcases List.mem_cons.mp ha with rfl|ha
   ·exact dO.fresh d2
   ·exact off a ha
  ·rcases List.mem_cons.mp ha with rfl|ha
   ·exact le.dead d1
   rcases List.mem_cons.mp ha with rfl|ha
   ·exact le.dead d2
   ·exact dead a ha
  ·obtain⟨o,e⟩:=it.live _ z;rw[d1] at e;cases e
  ·obtain⟨o,e⟩:=it.live _ z;rw[show bo.s.heap.get? (compEnvC scope cl H2.objs.size env).locals=none from d2] at e;cases e
 have loop:=xI (elt:=elt) (iter:=iter) (scope:=scope) (pos:=pos) (P:=P) (ielt:=ielt) (R:=compPost X.M C.A C.Ψ use Q (.ref bo.s.heap.objs.size) H2.objs.size) (cenv:=compEnvC scope cl H2.objs.size env) (ν':=ν') (by simp[compEnvC,relabel,jD]) (tg _) inj (he _) (pl.imp id fun y=>⟨y.1,hp y.2⟩) (fun vs ao k ce=>fin vs _ _ ao k.el.1 k.el.2 ce) ci w
 exact codeAny_compStart_list loop (Dw ci.it loop)
theorem Aj{elt target iter:Expr}{scope:Scope}{pos:Pos}{ct:List Nat}{gX:g7}{ielt:IE}
  (Ak:∀x∈scope.names,x.2=.free→∃ca,env.cells.lookup x.1=some ca) (jD:scope.kind=.function) (rh:∀y∈scope.names,y.2≠.cell) (mP:∀x∈scope.names,x.2=.local→scope.names.lookup x.1=some .local) (kR:gI iter=true)
  (tg:∀cl C,Cg (compEnvC scope cl C env) ν' target ct) (inj:fS ν')
  (MQ:∀cl C,(∀y ca,(y,NameKind.free)∈scope.names→env.cells.lookup y=some ca→cl.lookup y=some ca)→GD env (compEnvC scope cl C env) ν ν' ct) (hs:dM X P n env ν iter gX)
  (he:∀cl C,(∀y ca,(y,NameKind.free)∈scope.names→env.cells.lookup y=some ca→cl.lookup y=some ca)→az X P n (compEnvC scope cl C env) ν' elt ielt)
  (pl:dw target=true∨(cw target=true∧cY gX=true)):az X P n env ν (.ListComp elt [⟨target,iter,[],0⟩] scope pos) (.comp ct gX ielt):=
 .of (fun C m loc σ R Φ hr h q=>by
  obtain⟨cl,Ru,hl⟩:=mO scope env Ak
  rw[eval_ListComp]
  refine oV (use:=none) Ru jD rh mP kR (tg cl) inj (fun C=>MQ cl C hl) hs (fun C=>he cl C hl) pl hr h fun vs D c bo hlen k ce=> ?_
  obtain⟨m',Qa⟩:=ce.ns
  refine⟨m',Qa,fun h' vg=> ?_⟩
  obtain⟨us,d,gD,rv⟩:=ce.list
  have dc:∀a∈[c],σ.s.heap.get? a=none:=fun a ha=>by rw[in1 ha];exact ce.dC
  have N:=gp (tk:=bo.s.toks) ce.hr (fp:=[c]) ce.xH fun a o e q=>(vg.2 a (q8 q)).trans e
  have cD:=ce.MO D (.head _)
  have y:=hr.Gs (o:=.list vs) (h':=h') (tk:=bo.s.toks) ce.dD (N.here ce.hr ce.Du dc) (N.le ce.le dc) cD.1 cD.2.1 (fun b o e _=>e) ⟨rfl,us,d,(vg.2 D ce.Dc).trans gD,rv.mono (Ext.add bo.W (h:=σ.s.heap) ce.dD ce.dD)⟩
  exact q _ _ _ y.1 y.2.1 y.2.2 k) id
end
end
section
open PyProof.Rows PySem.Calls PySem.W
set_option backward.match.sparseCases false
set_option genInjectivity false
inductive Qb(X:Cx)(W:Wd):Fl→Flow→Prop
 |next:Qb X W .next .next
 |cont:Qb X W .cont .cont
 |ret {v:PV} {u:Value}:VR X W v u→Qb X W (.ret v) (.ret u)
structure Top{X:Cx}{n:Nat}{env:Env}{ν:Nu}(C:Ct X n env ν):Prop where
 top:∃outer,C.l=env::outer
 frame:env.frame=some env.locals
def oW{X:Cx}{n:Nat}{env:Env}{ν:Nu}(C:Ct X n env ν)(σ:Pt)(Q:QL)(Φ:Flow→Shared→Prop):Prop:=
 ∀fl f bo m' eQ,Here C m' eQ bo→Le C.l env.locals σ bo→Qb X bo.W fl f→Q fl eQ bo.H→Φ f bo.s
def U9(X:Cx)(n:Nat)(env:Env)(ν:Nu)(t:Sem Flow)(T:Loc→aa→QL→EL→Prop):Prop:=
 ∀(C:Ct X n env ν) m loc σ Q Φ,Top C→Here C m loc σ→T loc σ.H Q C.E→oW C σ Q Φ→wpAny X.M C.A t Φ C.Ψ σ.s
def dN(X:Cx)(P:ef)(n:Nat)(env:Env)(ν:Nu)(t:Stmt)(is:IS):Prop:=U9 X n env ν (exec t env) (wS P (aj P n) is)
def fM(X:Cx)(P:ef)(n:Nat)(env:Env)(ν:Nu)(ts:List Stmt)(is:cx):Prop:=U9 X n env ν (execs ts env) (wSs P (aj P n) is)
noncomputable def dF(e:Expr):Bool:= !(e.ctorIdx == 8 || e.ctorIdx == 9 || e.ctorIdx == 10)
theorem h9{e:Expr}(h:dF e=true)(t:Option Expr)(k:Nat)(env:Env):swapsWith e t k env=pure false:=by
 cases e<;>first|rfl|cases h
theorem Al{env:Env}(hk:env.scope.kind=.function):interactive env=false:=by unfold interactive;rw[hk];rfl
section
variable {X:Cx}{P:ef}{n:Nat}{env:Env}{ν ν':Nu}{C:Ct X n env ν}{m m₁ m₂:Str→Option Value}{loc aN jc:Loc}{σ gm ae ao:Pt}{A:Around}{s:Shared}{W cA fy:Wd}{H:aa}{h h₁ h' g:Heap}{L c D I:Addr}{l:List Env}{E:Value→Shared→Prop}{Q:QL}{Φ:Flow→Shared→Prop}
theorem oW.le(k:oW C σ Q Φ)(x:Le C.l env.locals σ ae):oW C ae Q Φ:=fun fl f bo m' eQ hr y r h=>k fl f bo m' eQ hr (x.trans y) r h
theorem iT(k:oW C σ Q Φ)(hr:Here C m loc ae)(x:Le C.l env.locals σ ae)(h:Q .next loc ae.H):Φ .next ae.s:=k _ _ ae m loc hr x .next h
theorem tB.ok(k:oW C σ Q Φ)(x:Le C.l env.locals σ ae)(h:Q .next aN ae.H):tB C aN ae (Φ .next):=fun m' s' hr y=>k _ _ ⟨s',ae.W,ae.H⟩ m' aN hr (x.trans y) .next h
theorem xJ:fM X P n env ν [] .nil:=fun C m loc σ Q Φ tp hr h k=>wpAny_execs_nil (iT k hr (.refl σ) h)
theorem tF{t:Stmt}{ts:List Stmt}{i:IS}{is:cx}(ht:dN X P n env ν t i)(hs:fM X P n env ν ts is):fM X P n env ν (t::ts) (.cons i is):=fun C m loc σ Q Φ tp hr h k=>
 wpAny_execs_cons (ht C m loc σ _ _ tp hr h fun fl f ae m₁ aN au ay fr q=>by
  cases fr with
  |next=>exact hs C m₁ aN ae Q Φ tp au q (k.le ay)
  |cont=>exact k _ _ ae m₁ aN au ay .cont q
  |ret v=>exact k _ _ ae m₁ aN au ay (.ret v) q)
theorem xK{a:Expr}{ia:IE}(pos:Pos)(hk:env.scope.kind=.function)(hc:dF a=true)(ha:az X P n env ν a ia):dN X P n env ν (.Expr a pos) (.expr ia):=fun C m loc σ Q Φ tp hr h k=>
 wpAny_Expr_any (ha.ev C m loc σ _ _ hr h fun v u ae au ay aK h=>iT k au ay h) (Al hk) (h9 hc ..)
theorem Am{a:Expr}{ia:IE}(pos:Pos)(ha:az X P n env ν a ia):dN X P n env ν (.Return (some a) pos) (.ret ia):=fun C m loc σ Q Φ tp hr h k=>
 wpAny_Return_some (ha.ev C m loc σ _ _ hr h fun v u ae au ay aK h=>k _ _ ae m loc au ay (.ret aK) h)
theorem xM(pos:Pos):dN X P n env ν (.Continue pos) .cont:=fun C m loc σ Q Φ tp hr h k=>wpAny_Continue (k _ _ σ m loc hr (.refl σ) .cont h)
theorem mQ(t:Stmt):dN X P n env ν t .stuck:=fun C m loc σ Q Φ tp hr h k=>h.elim
theorem rj{x:Str}{i:Nat}{a:Expr}{ia:IE}(p pos:Pos)(inj:fS ν)(hx:env.kindOf x=some .local)(lS:env.scope.kind=.function)(hi:ν.lookup x=some i)(hc:dF a=true)(ha:az X P n env ν a ia):
  dN X P n env ν (.Assign [.Name x p] a pos) (.assign i ia):=fun C m loc σ Q Φ tp hr h k=>
 wpAny_Assign_Name (ha.ev C m loc σ _ _ hr h fun v u ae au ay aK h=>have z:=putL.el h;eI inj lS au hx hi aK z.1 (tB.ok k ay z.2)) (h9 hc ..)
theorem Dx{c:Expr}{ic:IE}{a b:List Stmt}{ia ib:cx}(pos:Pos)(hc:iM X P n env ν c ic)(ha:fM X P n env ν a ia)(hb:fM X P n env ν b ib):dN X P n env ν (.If c a b pos) (.ite ic ia ib):=fun C m loc σ Q Φ tp hr h k=>
 wpAny_If (hc C m loc σ _ _ _ hr h (fun ae au ay h=>ha C m loc ae Q Φ tp au h (k.le ay)) fun ae au ay h=>hb C m loc ae Q Φ tp au h (k.le ay))
theorem mR{α:Type}(k n:Nat)(v:PV):∀fs:List (Nat×PV),bA k (putN n v fs)=if k=n then some v else bA k fs
 |[]=>by
  show(if n=k then some v else none)=if k=n then some v else none
  by_cases q:k=n
  ·rw[if_pos q.symm,if_pos q]
  ·rw[if_neg (fun z=>q z.symm),if_neg q]
 |(j,u)::r=>by
  rw[zu,fH]
  by_cases q:j=n
  ·rw[if_pos q,fH]
   by_cases z:k=n
   ·rw[if_pos (q.trans z.symm),if_pos z]
   ·rw[if_neg (fun w=>z (w.symm.trans q)),if_neg z,if_neg (fun w=>z (w.symm.trans q))]
  ·rw[if_neg q,fH]
   by_cases z:j=k
   ·rw[if_pos z,if_neg (fun w=>q (z.trans w)),if_pos z]
   ·rw[if_neg z,if_neg z]
    exact mR (α:=α) k n v r
theorem MR.put(ok:X.ok){fs:List (Nat×PV)}{mi:Str→Option Value}{k:Nat}{v:PV}{u:Value}(x:MR X W fs mi)(hk:k<X.tab.length)(vr:VR X W v u):MR X W (putN k v fs) (fun y=>if y=X.nm k then some u else mi y):=fun j hj=>by
 rw[mR (α:=Unit)]
 by_cases q:j=k
 ·rw[if_pos q]
  subst q
  exact⟨u,by simp,vr⟩
 ·rw[if_neg q]
  have ne:X.nm j≠X.nm k:=fun z=>q (X.inj ok hj hk z)
  have:=x j hj
  split at this
  ·obtain⟨u',e,r⟩:=this
   rename_i v' hv
   exact⟨u',by simp only[if_neg ne];exact e,r⟩
  ·show(if X.nm j=X.nm k then some u else mi (X.nm j))=none
   rw[if_neg ne];exact this
theorem ig(k:Nat)(v:PV):∀fs:List (Nat×PV),(putN k v fs).length=fs.length+if(bA k fs).isSome then 0 else 1
 |[]=>rfl
 |(j,u)::r=>by
  rw[zu,fH]
  by_cases q:j=k
  ·rw[if_pos q,if_pos q];rfl
  ·rw[if_neg q,if_neg q,List.length_cons,List.length_cons,ig k v r];exact Nat.add_right_comm _ _ _
theorem Dy(k:Nat)(v:PV){fs:List (Nat×PV)}(h:fs.length<100):(putN k v fs).length≤16777216+1:=by
 rw[ig];split
 ·exact nZ (Nat.le_of_lt h) rfl
 ·exact Qy 1 (Nat.le_of_lt h) rfl
theorem jE{M:Model}{a:Addr}{mi:Str→Option Value}{k:Nat}{name:Str}{v:Value}{Q:Unit→Shared→Prop}(hn:Iq s.heap a mi k)
  (hQ:∀h',Iq h' a (fun x=>if x=name then some v else mi x) (k+if(mi name).isSome then 0 else 1)→Heap.SameBut a s.heap h'→Q () {s with heap:=h',toks:=s.toks+1}):
  wpAny M A (nsSet a name v) Q E s:=by
 revert A s E M a mi k name v Q
 apply aQ;intro
 generalize bT .. =A,bU .. =s,bV .. =E,bW .. =M,cj .. =a,ck .. =mi,cm .. =k,cp .. =name
 apply aM;intro
 generalize bI .. =v,bJ .. =Q
 intro hn hQ
 intro Γ p _
 obtain⟨o,es,ep,ho,hd,hk,hm,hz⟩:=hn
 simp only[nsSet,strHash,Sem.wp_bind',Sem.wp_cmd_ask,Sem.wp_pure',Sem.wp_cmd_mkText]
 rw[Sem.wp_loadPart_of M Γ _ p {s with toks:=s.toks+1} (o:=o) _ ho]
 have Rv:es.any (·.refKey)=false:=by
  rw[Array.any_eq_false'];intro e he;obtain⟨n,t,h⟩:=hk e he;simp[DictEntry.refKey,h]
 simp only[hd,aRefKeyMayBeTheName_eq,aRefKeyMayBeTheNameByArray,Rv,Bool.and_false,Bool.false_eq_true,if_false,Sem.wp_cmd_updatePart]
 refine⟨by rw[ho];rfl,hQ _ ?_ (Heap.SameBut.update ..)⟩
 obtain⟨c,d,dt,sl⟩:=o
 subst hd
 have WN:mi name=nsFind es name:=(hm name).symm
 cases hi:es.findIdx? (·.key.isStr name) with
 |some i=>
  refine⟨_,_,ep,Heap.get?_update_self _ ho (by simp only[Obj.putName_eq,Obj.putNameByArray,hi];rfl),by simp only[Obj.putName_eq,Obj.putNameByArray,hi];rfl,hk.modify _ _,fun x=> ?_,?_⟩
  ·show _=if x=name then some v else mi x
   rw[←hm];exact findBy_modify (fun n v=>v.isStr n) Value.isStr_inj es name x v i hi
  ·rw[Array.size_modify];exact Nat.le_trans hz (Nat.le_add_right _ _)
 |none=>
  refine⟨_,_,ep+1,Heap.get?_update_self _ ho (by simp only[Obj.putName_eq,Obj.putNameByArray,hi];rfl),by simp only[Obj.putName_eq,Obj.putNameByArray,hi];rfl,hk.push _ _ _ _,fun x=> ?_,?_⟩
  ·show _=if x=name then some v else mi x
   rw[←hm]
   exact findBy_push (fun n v=>v.isStr n) es name x _ _ v (fun y=>by
    show(name == y)=decide (y=name)
    by_cases h:y=name
    ·subst h;simp
    ·have:¬name=y:=fun e=>h e.symm
     simp[h,this]) hi
  ·have IB:nsFind es name=none:=by
    unfold nsFind findBy
    rw[Array.findIdx?_eq_none_iff] at hi
    rw[Array.find?_eq_none.mpr fun e he=>by have:=hi e he;simpa using this]
    rfl
   rw[WN,IB,Array.size_push]
   exact Nat.succ_le_succ hz
theorem pW{o v:PV}{k:Nat}{a b:Value}{H':aa}{Q:Unit→Shared→Prop}(pk:oj X P)(hk:k<X.tab.length)(hr:Here C m loc σ)(e:dZ P σ.H o k v=some H')(ho:VR X σ.W o a)(hv:VR X σ.W v b)(q:∀s',Here C m loc ⟨s',σ.W,H'⟩→Le C.l env.locals σ ⟨s',σ.W,H'⟩→Q () s'):
  wpAny X.M A (setAttr a (X.nm k) b) Q E σ.s:=by
 revert X P n env ν C m loc σ A E o v k a b H' Q
 apply aO;intro
 generalize bL .. =X,bM .. =P,bQ .. =n,bR .. =env
 apply aI;intro
 generalize nx .. =ν
 apply aI;intro
 generalize nx .. =C
 apply aQ;intro
 generalize bT .. =m,bU .. =loc,bV .. =σ,bW .. =A,cj .. =E,ck .. =o,cm .. =v,cp .. =k
 apply aO;intro
 generalize bL .. =a,bM .. =b,bQ .. =H',bR .. =Q
 intro pk hk hr e ho hv q
 cases o with
 |ref i=>
  have e:(match σ.H[i]? with
   |some (.inst c fs)=>if P.bad.contains (c,k) then none else if fs.length<100 then some (σ.H.set i (.inst c (putN k v fs))) else none
   |_=>none)=some H':=e
  split at e
  ·rename_i c fs hi
   split at e
   ·cases e
   rename_i hb
   rw[Bool.not_eq_true] at hb
   split at e
   ·rename_i sL
    obtain rfl:=Option.some.inj e
    obtain⟨p,rfl,hp,⟨kn,j8⟩,g,mi,N,mr⟩:=hr.rel.Iv ho hi
    obtain⟨od,Ms,hl⟩:=kh N.ns
    have K:=pk.cls c kn
    obtain⟨attr,ha,hn,ht⟩:=K.get k hk hb
    have I:=tc g Ms
    have KI:=hr.rel.yT
    refine set_plain KI I K.setattr (osa_open (s:={σ.s with toks:=σ.s.toks+1}) KI I K.over ht fun b'=> ?_)
    obtain⟨cd,hc,Rw⟩:=any_some (show(clsIn X.K c).any (·.hasDict)=true from K.zP)
    refine wpAny_bind (wpAny_pure (wpAny_bind (wpAny_bind (wpAny_loadPart (s:={σ.s with toks:=σ.s.toks+1}) g (wpAny_bind ((looks_clsIn KI hc).here (s:={σ.s with toks:=σ.s.toks+1}) ?_))))))
    rw[Rw]
    refine wpAny_pure (a:=some p.2) (wpAny_bind (wpAny_pure (wpAny_bind (jE (s:={σ.s with toks:=σ.s.toks+1}) N fun h' hn hs=> ?_))))
    have hs:Heap.SameBut p.2 σ.s.heap h':=hs
    have MS:fs.length+(if(mi (X.nm k)).isSome=true then 0 else 1)=(putN k v fs).length:=by
     rw[ig]
     have:=mr k hk
     split at this
     ·rename_i w hw
      obtain⟨u,e,_⟩:=this
      rw[e,hw];rfl
     ·rename_i hw
      rw[this,hw];rfl
    rw[MS] at hn
    obtain⟨o',Rf,Rg,g2,d2,WQ,f2,z2⟩:=id hn
    refine wpAny_bind (wpAny_lookBehind g2 (by rw[d2];exact pastItsLine_dict (by rw[sizeLine_eq];exact Nat.le_trans z2 (Dy k v sL))) (wpAny_pure ?_))
    have z:=hr.write (o:=.inst c (putN k v fs)) (tk:=σ.s.toks+1+1) hp (fun a o e _ n2=>(hs.2 a n2).trans e) ⟨⟨kn,j8⟩,(hs.2 p.1 j8).trans g,_,hn,mr.put hr.rel.ok hk hv⟩
    exact q _ z.1 z.2
   ·cases e
  ·cases e
 |_=>cases e
theorem DR.stored{k:Int}{v:PV}{u:Value}(vr:VR X W v u){es:List (Int×PV)}{kvs:List (Int×Value)}(h:DR X W es kvs):(kvs.map (·.1)).Nodup→DR X W (oh k v es) (PySem.stored kvs k u):=by
 induction h with
 |nil=>
  intro _
  unfold PySem.stored
  rw[List.any_nil,if_neg Bool.false_ne_true]
  exact .cons vr .nil
 |@cons j w x es kvs wr r ih=>
  intro hn
  have EV:=List.nodup_cons.mp hn
  rw[sU]
  unfold PySem.stored
  by_cases q:j=k
  ·rw[if_pos q]
   subst q
   simp only[List.any_cons,decide_true,Bool.true_or,if_true,List.map_cons]
   have:kvs.map (fun kv=>if kv.1=j then(kv.1,u) else kv)=kvs:=by
    refine map_eq_self fun kv WR=>if_neg ?_
    rintro rfl
    exact EV.1 (List.mem_map.mpr ⟨kv,WR,rfl⟩)
   rw[this]
   exact .cons vr r
  ·rw[if_neg q]
   have ih:=ih EV.2
   unfold PySem.stored at ih
   simp only[List.any_cons,decide_eq_false q,Bool.false_or]
   by_cases z:kvs.any (fun kv=>decide (kv.1=k))=true
   ·rw[if_pos z] at ih ⊢
    rw[List.map_cons,if_neg q]
    exact .cons wr ih
   ·rw[if_neg z] at ih ⊢
    exact .cons wr ih
theorem jF{o i v:PV}{a b c:Value}{K:aa→Prop}{Q:Unit→Shared→Prop}(hr:Here C m loc σ)(h:gh σ.H o i v K)(ho:VR X σ.W o a)(hi:VR X σ.W i b)(hv:VR X σ.W v c)(q:∀s' H',Here C m loc ⟨s',σ.W,H'⟩→Le C.l env.locals σ ⟨s',σ.W,H'⟩→K H'→Q () s'):
  wpAny X.M A (setItem a b c) Q E σ.s:=by
 obtain⟨r,rfl,h1⟩:=dp.el h
 obtain⟨k,rfl,h2⟩:=wI.el h1
 obtain⟨o,e,h3⟩:=WO.el h2
 obtain⟨t,rfl⟩:=hi.int_inv
 cases o with
 |list ls=>
  obtain⟨hz,h4⟩:=WG.el h3
  obtain⟨x,vs,n,rfl,hp,g,rr⟩:=hr.rel.cK ho e
  have hlen:=rr.length
  have z:=hr.write (tk:=σ.s.toks) (h':=σ.s.heap.update x (Obj.mapSeq (·.setIfInBounds k.toNat c))) hp (fun a o e n _=>hJ a o e n) (.mI g (by simpa using rr.set k.toNat hv))
  exact ki_setAt g hz.1 (by exact wa (Int.lt_trans hz.2.1 (Int.ofNat_lt.mpr hz.2.2)) rfl) (by rw[List.size_toArray];exact hlen▸hz.2.1) (q _ _ z.1 z.2 h4)
 |aW es=>
  obtain⟨hz,h4⟩:=WG.el h3
  obtain⟨x,kvs,rfl,hp,sm,dk,rr⟩:=hr.rel.gF ho e
  have Ra:(kvs.map (·.1)).Nodup:=by obtain⟨_,_,_,_,_,_,_,_,h⟩:=dk;exact h
  refine wpAny_setItem_pairs (knd:=intKind X.prog X.w) (k:=k) (by simp[intKind,Value.isInt]) dk (fun h' hd hs=> ?_) (by rw[←rr.length,sizeLine_eq];exact ly hz rfl)
  have z:=hr.write (o:=.aW (oh k v es)) (tk:=σ.s.toks+1) hp (fun a o e n _=>(hs.2 a n).trans e) ⟨rfl,sm,_,hd,rr.stored hv Ra⟩
  exact q _ _ z.1 z.2 h4
 |_=>exact h3.elim
theorem rn{o a:Expr}{k:Nat}{x:Str}{io ia:IE}(p pos:Pos)(pk:oj X P)(hk:k<X.tab.length)(hx:X.nm k=x)(hc:dF a=true)(ho:az X P n env ν o io)(ha:az X P n env ν a ia):
  dN X P n env ν (.Assign [.Attribute o x p] a pos) (.aw io k ia):=by
 subst hx
 exact fun C m loc σ Q Φ tp hr h K=>plainObj_wpAny_Assign_Attribute (ha.ev C m loc σ _ _ hr h fun v u ae au ay aK h=>ho.ev C m loc ae _ _ au h fun r w ao aC aH bX h=>by
  obtain⟨H',e,h⟩:=h.el
  exact pW pk hk aC e bX (aK.up aH) fun s' dO MT=>iT K dO ((ay.trans aH).trans MT) h) (h9 hc ..)
theorem ro{o i a:Expr}{io ii ia:IE}(p pos:Pos)(hc:dF a=true)(ho:az X P n env ν o io)(hi:az X P n env ν i ii)(ha:az X P n env ν a ia):
  dN X P n env ν (.Assign [.Subscript o i p] a pos) (.iE io ii ia):=fun C m loc σ Q Φ tp hr h K=>
 wpAny_Assign_Subscript (ha.ev C m loc σ _ _ hr h fun v u ae au ay aK h=>ho.ev C m loc ae _ _ au h fun r w ao aC aH bX h=>hi.ev C m loc ao _ _ aC h fun j w' fJ cg cM kc h=>
  jF cg h (bX.up cM) kc ((aK.up aH).up cM) fun s' H' dO MT h=>iT K dO (((ay.trans aH).trans cM).trans MT) h) (h9 hc ..)
theorem rq{op:Operator}{a b:PV}{x y:Value}{R:PV→aa→Prop}{Φ E:Value→Shared→Prop}(hr:Here C m loc σ)(k:Good C m loc σ (VR X) R Φ)(hx:VR X σ.W a x)(hy:VR X σ.W b y)(h:Gi op a b fun v=>R v σ.H):wpAny X.M A (inplaceOp op x y) Φ E σ.s:=by
 cases op with
 |Add=>obtain⟨i,j,t,u,rfl,rfl,h⟩:=i8 h hx hy;exact PyProof.Rows.iadd_int (cL k hr h (.int _ _))
 |_=>exact h.elim
theorem An{x:Str}{i:Nat}{op:Operator}{a:Expr}{ia:IE}(p pos:Pos)(ev:EnvOk env)(inj:fS ν)(hx:env.kindOf x=some .local)(hi:ν.lookup x=some i)(hc:(x == ("__classdict__":Str))=false)(ha:az X P n env ν a ia):
  dN X P n env ν (.AugAssign (.Name x p) op a pos) (.aug i op ia):=fun C m loc σ Q Φ tp hr h K=>by
 obtain⟨w,hv,h⟩:=look.el h
 obtain⟨u,nr,vr⟩:=hr.lr x i w hi hv
 exact wpAny_AugAssign_Name (kP ev hr nr hc (ha.ev C m loc σ _ _ hr h fun v u' ae au ay aK h=>rq (R:=fun w H=>putL w loc i fun l=>Q .next l H) au (fun v' b ao aC aH bX h=>have z:=putL.el h;eI inj ev.kind aC hx hi bX z.1 (tB.ok K (ay.trans aH) z.2)) (vr.up ay) aK h))
noncomputable def ij(e:Expr):Bool:= !(e.ctorIdx == 26)
theorem rx{i:Expr}(h:ij i=true)(ov iv new:Value):augStore i ov iv new=(do holding [new,ov,iv] (setItem ov iv new);release [new,ov,iv] [];pure .next):=by
 cases i<;>first|rfl|cases h
theorem Ao{o i a:Expr}{op:Operator}{io ii ia:IE}(p pos:Pos)(ns:ij i=true)(ho:az X P n env ν o io)(hi:az X P n env ν i ii)(ha:az X P n env ν a ia):
  dN X P n env ν (.AugAssign (.Subscript o i p) op a pos) (.lz io ii op ia):=fun C m loc σ Q Φ tp hr h K=>
 wpAny_AugAssign_SubscriptAny (ho.ev C m loc σ _ _ hr h fun r u ae au ay aK h=>hi.ev C m loc ae _ _ au h fun j w ao aC aH bX h=>by
  refine(oS (E:=C.Ψ) aC (aK.up aH) bX h fun old y tk vr h=> ?_).1
  have t:=aC.toks (tk:=tk)
  refine ha.ev C m loc ⟨{ao.s with toks:=tk},ao.W,ao.H⟩ _ _ t.1 h fun v b fJ cg cM kc h=> ?_
  refine rq (R:=fun w H=>gh H r j w fun H=>Q .next loc H) cg (fun w c hY hZ mN GC h=> ?_) (vr.up (t.2.trans cM)) kc h
  exact jF hZ h ((((aK.up aH).up t.2).up cM).up mN) (((bX.up t.2).up cM).up mN) GC fun s' H' dO MT h=>iT K dO ((((ay.trans aH).trans (t.2.trans cM)).trans mN).trans MT) h) (fun ov iv new=>rx ns ov iv new)
end
end
section
open PyProof.Rows PySem.Calls PySem.W
theorem mS{M:Model}{A:Around}{E:Value→Shared→Prop}{s:Shared}{base:Heap}{l:List Env}{env:Env}{L e:Addr}{cls a0:Value}(hf:env.frame=some L)(hh:Heap.HeldW base l e cls a0 L s.heap)
  (hQ:∀h',Heap.HeldW base l e cls a0 L h'→s.heap.UpToSlots h'→E (.ref e) {s with heap:=h'}):cameBackBy M A env E (.ref e) s:=by
 revert M A E s base l env L e cls a0
 apply aQ;intro
 generalize bT .. =M,bU .. =A,bV .. =E,bW .. =s,cj .. =base,ck .. =l,cm .. =env,cp .. =L
 apply aM;intro
 generalize bI .. =e,bJ .. =cls
 apply aI;intro
 generalize nx .. =a0
 intro hf hh hQ
 obtain⟨f1,f2,f3,oe,vs,T,oT,ts,he,Rx,hd,h1,Va,Vb,hT,EX,h3⟩:=hh
 have MU:3<ts.size:=(Array.getElem?_eq_some_iff.mp h3).1
 have other:∀b,b≠T→(s.heap.update T (Obj.mapFields (·.setIfInBounds 3 ((some L:Option Addr).elim Value.none fun f=>rawInt f)))).get? b=s.heap.get? b:=
  fun b hb=>Heap.get?_update_other _ _ (Ne.symm hb)
 have ry:∀b o,s.heap.get? b=some o→(∀vs,o.data≠.fields vs)→b≠T:=fun b o hb MV q=>by
  rw[q,hT] at hb;injection hb with hb;subst hb;exact MV ts EX
 unfold cameBackBy
 refine wpAny_bind (wpAny_field he hd h1 ?_)
 rw[if_neg (show ¬(Value.ref T == Value.none)=true from by simp)]
 unfold setFlight
 refine wpAny_bind (wpAny_field he hd h1 ?_)
 rw[if_pos (show(Value.ref T !=Value.none)=true from by simp),hf]
 refine wpAny_setField hT EX MU (hQ _ ⟨fun b o Ry=>(other b fun q=>by rw[q,Va] at Ry;cases Ry).trans (f1 b o Ry),f2,
  f3.of_keeps fun b o hb MV=>⟨o,(other b (ry b o hb MV)).trans hb,rfl⟩,?_⟩ fun b o hb MV=>⟨o.slots,(other b (ry b o hb MV)).trans hb⟩)
 exact⟨oe,vs,T,_,_,(other e (Ne.symm Vb)).trans he,Rx,hd,h1,Va,Vb,Heap.get?_update_self _ hT (Obj.isFreed_of_fields (Obj.data_mapFields EX _)),Obj.data_mapFields EX _,by simp[MU]⟩
section
variable {X:Cx}{P:ef}{n:Nat}{env:Env}{ν ν':Nu}{C:Ct X n env ν}{m m₁ m₂:Str→Option Value}{loc aN jc:Loc}{σ gm ae ao:Pt}{A:Around}{s:Shared}{W cA fy W':Wd}{H H':aa}{h h₁ d9 h' g base:Heap}{L c D I e:Addr}{l:List Env}{E:Value→Shared→Prop}{Q:QL}{Φ:Flow→Shared→Prop}{fp:List Addr}{src:Src}{k k':Nat}
theorem kS:∀{is js:List Nat} {vs us:List PV} {loc:Loc},is.length=vs.length→sets (is++js) (vs++us) loc=sets js us (sets is vs loc)
 |[],_,[],_,_,_=>rfl
 |_::is,js,_::vs,us,_,h=>kS (is:=is) (vs:=vs) (Nat.succ.inj h)
theorem oX{i:Nat}{v:PV}:∀{js:List Nat} {us:List PV} {loc:Loc},i∉js→sets js us (loc.set i (some v))=(sets js us loc).set i (some v)
 |[],_,_,_=>rfl
 |_::_,[],_,_=>rfl
 |j::js,u::us,loc,h=>by
  show sets js us ((loc.set i (some v)).set j (some u))=_
  have ne:i≠j:=fun z=>h (z▸.head _)
  rw[List.set_comm _ _ ne,oX fun z=>h (.tail _ z)];rfl
theorem jG:∀{is:List Nat} {vs:List PV} {loc:Loc},is.Nodup→is.length=vs.length→sets is.reverse vs.reverse loc=sets is vs loc
 |[],[],_,_,_=>rfl
 |i::is,v::vs,loc,hn,hl=>by
  have EV:=List.nodup_cons.mp hn
  have hl:=Nat.succ.inj hl
  rw[List.reverse_cons,List.reverse_cons,kS (by rw[List.length_reverse,List.length_reverse];exact hl),jG EV.2 hl]
  exact(oX EV.1).symm
theorem Stores.append{fs gs:List (Value→Sem Unit)}{is js:List Nat}(a:Stores env ν fs is)(b:Stores env ν gs js):Stores env ν (fs++gs) (is++js):=by
 induction a with
 |nil=>exact b
 |cons h h1 h2 _ ih=>exact .cons h h1 h2 ih
theorem Stores.reverse{fs:List (Value→Sem Unit)}{is:List Nat}(a:Stores env ν fs is):Stores env ν fs.reverse is.reverse:=by
 induction a with
 |nil=>exact .nil
 |cons h h1 h2 _ ih=>rw[List.reverse_cons,List.reverse_cons];exact ih.append (.cons h h1 h2 .nil)
noncomputable def nameOf(e:Expr):Option Str:=swappedStores.match_8 (fun _=>Option Str) e (fun x _=>some x) fun _=>none
theorem gq.binds{es:List Expr}{is:List Nat}(x:gq env ν es is){names:List Str}(h:names=es.filterMap nameOf):names.length=is.length∧Stores env ν (names.map fun n=>bindName env n) is:=by
 subst h
 induction x with
 |nil=>exact⟨rfl,.nil⟩
 |cons h1 h2 _ ih=>exact⟨congrArg (· +1) ih.1,.cons (fun h=>wpAny_bindName h) h1 h2 ih.2⟩
noncomputable def nameAt(kind:Str→Option NameKind)(line:Nat)(e:Expr):Option Str:=swappedStores.match_8 (fun _=>Option Str) e (fun id pos=>if kind id == some .local && pos.line == line then some id else none) fun _=>none
noncomputable def isStar(e:Expr):Bool:=swappedStores.match_5 (fun _=>Bool) e (fun _ _=>true) fun _=>false
noncomputable def jH(ts vs:List Expr)(kind:Str→Option NameKind):Option (Option (List Str)):=
 if(!(ts.length == 2 || ts.length == 3) || vs.length !=ts.length)=true then some none
 else if vs.any isStar=true then some none
 else if((ts.filterMap (nameAt kind ((ts.head?.map (·.pos.line)).getD 0))).length !=ts.length || (ts.filterMap (nameAt kind ((ts.head?.map (·.pos.line)).getD 0))).eraseDups.length !=(ts.filterMap (nameAt kind ((ts.head?.map (·.pos.line)).getD 0))).length)=true then some none
 else if vs.all (foldedForSure 8)=true then some none
 else if vs.all (constantsAlone 8)=true then none
 else some (some (ts.filterMap (nameAt kind ((ts.head?.map (·.pos.line)).getD 0))))
def Pq(a:Option (Option (List Str)))(m:Sem (Option (List Str))):Prop:=∀x,a=some x→m=pure x
theorem Pq.ite{c:Prop}[Decidable c]{a b:Option (Option (List Str))}{m n:Sem (Option (List Str))}(h:Pq a m)(k:Pq b n):Pq (if c then a else b) (if c then m else n):=by
 split<;>assumption
theorem Pq.none{m:Sem (Option (List Str))}:Pq none m:=fun _ h=>by cases h
theorem Pq.some{x:Option (List Str)}:Pq (some x) (pure x):=fun _ h=>by cases h;rfl
theorem mT(hb:env.scope.kind=.function){ts vs:List Expr}{k k':Nat}{p p':Pos}{x:Option (List Str)}(h:jH ts vs env.kindOf=some x):swappedStores [.Tuple ts k p] (.Tuple vs k' p') env=pure x:=by
 have Rz:(env.blockKind !=.function)=false:=by unfold Env.blockKind;rw[hb];rfl
 have main:swappedStores [.Tuple ts k p] (.Tuple vs k' p') env=(if(!(ts.length == 2 || ts.length == 3) || vs.length !=ts.length || env.blockKind !=.function)=true then pure none
   else if vs.any isStar=true then pure none
   else if((ts.filterMap (nameAt env.kindOf ((ts.head?.map (·.pos.line)).getD 0))).length !=ts.length || (ts.filterMap (nameAt env.kindOf ((ts.head?.map (·.pos.line)).getD 0))).eraseDups.length !=(ts.filterMap (nameAt env.kindOf ((ts.head?.map (·.pos.line)).getD 0))).length)=true then pure none
   else if vs.all (foldedForSure 8)=true then pure none
   else if vs.all (constantsAlone 8)=true then unsupported "assign.tuple-of-constant-expressions:order-of-the-stores"
   else pure (some (ts.filterMap (nameAt env.kindOf ((ts.head?.map (·.pos.line)).getD 0))))):=rfl
 rw[Rz,Bool.or_false] at main
 exact main▸(Pq.ite .some (.ite .some (.ite .some (.ite .some (.ite .none .some)))):Pq (jH ts vs env.kindOf) _) x h
noncomputable def Ap(e:Expr):Bool:=e.ctorIdx == 25
theorem ou{ts:List Expr}{k:Nat}{p:Pos}{v:Expr}(h:Ap v=false):swappedStores [.Tuple ts k p] v env=pure none:=by
 cases v<;>first|rfl|cases h
theorem vh{ts:List Expr}{k:Nat}{p:Pos}{a:Expr}(hc:dF a=true)(ln:Nat):swapsWithSole [.Tuple ts k p] a ln env=pure false:=by
 have e:swapsWithSole [.Tuple ts k p] a ln env=swapsWith a (some (.Tuple ts k p)) ln env:=by unfold swapsWithSole;rfl
 rw[e]
 exact h9 hc _ _ _
theorem xN{elt:Expr}{gens:List Comprehension}{scope:Scope}{pos p:Pos}{x:Str}(hb:env.scope.kind=.function)(hx:env.kindOf x=some .local)(hl:(p.line == pos.line)=true)(hn:(scope.names.any fun z=>z.1 == x && (z.2 == .local || z.2 == .cell))=false)(k:Nat):
  swapsWith (.ListComp elt gens scope pos) (some (.Name x p)) k env=pure true:=by
 unfold swapsWith
 dsimp only
 have Rz:(env.blockKind == .function)=true:=by unfold Env.blockKind;rw[hb];rfl
 have EY:(p.line == (Expr.ListComp elt gens scope pos).pos.line)=true:=hl
 rw[Rz,hx,EY]
 have:(scope.names.any fun WS=>match WS with|(n,k)=>n == x && (k == NameKind.local || k == NameKind.cell))=false:=hn
 rw[this]
 rfl
theorem rz{ts:List Expr}{is:List Nat}{a:Expr}{ia:IE}{k:Nat}(p pos:Pos)(inj:fS ν)(lS:env.scope.kind=.function)(ns:gq env ν ts is)(nd:is.Nodup)(hc:dF a=true)
  (hw:swappedStores [.Tuple ts k p] a env=pure none∨∃names,swappedStores [.Tuple ts k p] a env=pure (some names)∧names=ts.filterMap nameOf) (ha:az X P n env ν a ia):
  dN X P n env ν (.Assign [.Tuple ts k p] a pos) (.bH is ia):=by
 revert X P n env ν ts is a ia k p pos
 apply aQ;intro
 generalize bT .. =X,bU .. =P,bV .. =n,bW .. =env,cj .. =ν,ck .. =ts,cm .. =is,cp .. =a
 apply aO;intro
 generalize bL .. =ia,bM .. =k,bQ .. =p,bR .. =pos
 intro inj lS ns nd hc hw ha
 apply aI;intro
 generalize nx .. =C
 apply aO;intro
 generalize bL .. =m,bM .. =loc,bQ .. =σ,bR .. =Q
 apply aI;intro
 generalize nx .. =Φ
 intro tp hr h K
 rcases hw with hw|⟨names,hw,hn⟩
 ·exact Assign_Tuple (ha.ev C m loc σ _ _ hr h fun v u ae au ay aK h=>by
   obtain⟨ls,rfl,h1⟩:=jt.el h
   exact mL (Q:=fun _=>Φ .next) ns inj lS au aK h1 fun eQ q=>tB.ok K ay q) (vh hc _) hw
 ·refine Assign_Tuple_swapped (names:=names) (ha.ev C m loc σ _ _ hr h fun v u ae au ay aK h=> ?_) (vh hc _) hw
  obtain⟨ls,rfl,h1⟩:=jt.el h
  obtain⟨hl,hb,q⟩:=iS.el h1
  obtain⟨b,vs,rfl,hT,vr⟩:=fI au.rel aK
  obtain⟨bl,bn⟩:=ns.binds hn
  have hz:names.length=vs.toArray.size:=by rw[bl,List.size_toArray,←vr.length,hl]
  rw[hz]
  refine wpAny_unpackItems_tuple (C.ak hr.ok).handled (show ae.s.heap.IsTuple b vs.toArray from hT) fun h' he=> ?_
  have hk:∀b o,ae.s.heap.get? b=some o→h'.get? b=some o:=fun b o e=>he b o (Nat.ne_of_lt (Heap.lt_size e)) e
  have z:=au.eG (tk:=ae.s.toks) (fun a o e _=>hk a o e) (Fr.eG au.st.F hk)
  have st:=bn.reverse
  rw[←List.map_reverse] at st
  refine st.run (Q:=fun _=>Φ .next) inj lS z.1 vr.reverse (by rw[List.length_reverse,List.length_reverse];exact hl) (fun x hx=>hb x (List.mem_reverse.mp hx)) ?_
  rw[jG nd hl]
  exact tB.up (tB.ok K ay q) z.2
theorem mU{elt target iter:Expr}{scope:Scope}{pos GF p:Pos}{ct:List Nat}{gX:g7}{ielt:IE}{x:Str}{i:Nat}(inj:fS ν)(ev:EnvOk env)(hx:env.kindOf x=some .local)(hi:ν.lookup x=some i)(hl:(p.line == pos.line)=true)(hn:(scope.names.any fun z=>z.1 == x && (z.2 == .local || z.2 == .cell))=false)
  (Ak:∀x∈scope.names,x.2=.free→∃ca,env.cells.lookup x.1=some ca) (jD:scope.kind=.function) (rh:∀y∈scope.names,y.2≠.cell) (mP:∀x∈scope.names,x.2=.local→scope.names.lookup x.1=some .local) (kR:gI iter=true)
  (tg:∀cl C,Cg (compEnvC scope cl C env) ν' target ct) (RA:fS ν')
  (MQ:∀cl C,(∀y ca,(y,NameKind.free)∈scope.names→env.cells.lookup y=some ca→cl.lookup y=some ca)→GD env (compEnvC scope cl C env) ν ν' ct) (hs:dM X P n env ν iter gX)
  (he:∀cl C,(∀y ca,(y,NameKind.free)∈scope.names→env.cells.lookup y=some ca→cl.lookup y=some ca)→az X P n (compEnvC scope cl C env) ν' elt ielt)
  (pl:dw target=true∨(cw target=true∧cY gX=true)):dN X P n env ν (.Assign [.Name x p] (.ListComp elt [⟨target,iter,[],0⟩] scope pos) GF) (.assign i (.comp ct gX ielt)):=fun C m loc σ Q Φ tp hr h K=>by
 obtain⟨cl,Ru,MW⟩:=mO scope env Ak
 rw[exec_Assign_Name_used _ _ _ _ (xN ev.kind hx hl hn _)]
 refine wpAny_bind (wpAny_standAt (wpAny_bind ?_))
 show wpAny _ C.A (do let _ ←comprehension (.ListComp elt [⟨target,iter,[],0⟩] scope pos) scope env _ (newList []) false (eval iter env) (some (assign (.Name x p) env))) _ _ σ.s
 have h:wE P (aj P n) (.comp ct gX ielt) loc σ.H (fun v H=>putL v loc i fun l=>Q .next l H) fun k H=>C.E k loc H:=h
 refine wpAny_bind (wpAny_mono (oV (use:=some (assign (.Name x p) env)) (Q:=fun _ s'=>Φ .next s') Ru jD rh mP kR (tg cl) RA (fun C=>MQ cl C MW) hs (fun C=>he cl C MW) pl hr h fun vs D c bo hlen q ce=> ?_) (fun _ s' hq=>wpAny_pure (wpAny_pure hq)) fun _ _ e=>e)
 obtain⟨sL,q⟩:=putL.el q
 obtain⟨us,d,gD,rv⟩:=ce.list
 have cD:=ce.MO D (.head _)
 have cc:=ce.xH c (.head _)
 have y:=hr.Gs (o:=.list vs) (h':=bo.s.heap) (tk:=bo.s.toks) ce.dD ce.hr ce.le cD.1 cD.2.1 (fun b o e _=>e) ⟨rfl,us,d,gD,rv.mono (Ext.add bo.W (h:=σ.s.heap) ce.dD ce.dD)⟩
 show wpAny X.M C.A (assign (.Name x p) env (.ref D)) _ _ bo.s
 refine wpAny_assign_Name (eI (σ:=⟨bo.s,bo.W.add (D,D),bo.H++[.list vs]⟩) inj ev.kind y.1 hx hi y.2.2 sL fun m2 s2 Vc MX=> ?_)
 obtain⟨mc,oc,es,ep,gc,rc⟩:=ce.ns
 have Vd:¬Own (bo.W.add (D,D)) c:=by
  rintro⟨q,hq,z⟩
  rcases List.mem_append.mp hq with hq|hq
  ·exact cc.1 ⟨q,hq,z⟩
  ·rw[List.mem_singleton.mp hq] at z
   rcases z with z|z<;>exact ce.Dc z.symm
 refine⟨mc,⟨oc,es,ep,MX.step.keep c oc gc Vd cc.2.2.1 cc.2.2.2,rc⟩,fun h' vg=> ?_⟩
 have N:=gp (tk:=s2.toks) Vc (fp:=[c]) (fun a ha=>by rw[in1 ha];exact⟨Vd,cc.2.1,cc.2.2⟩) fun a o e q=>(vg.2 a (q8 q)).trans e
 have dc:∀a∈[c],σ.s.heap.get? a=none:=fun a ha=>by rw[in1 ha];exact ce.dC
 exact iT K (N.here Vc ce.Du dc) (N.le (y.2.1.trans MX) dc) q
noncomputable def Ct.Ve(C:Ct X n env ν)(Ψ:Value→Shared→Prop):Ct X n env ν:=⟨C.A,C.l,C.B,P5,Ψ,C.ok,C.ak,C.fr,fun _ _ _ _ _ _ _ _ _ _ _ _ _ h=>h.elim⟩
theorem tG{c:Expr}{ic:IE}{b:List Stmt}{ib:cx}(pos:Pos)(hc:iM X P n env ν c ic)(hb:fM X P n env ν b ib):dN X P n env ν (.While c b [] pos) (.while ic ib):=by
 revert X P n env ν c ic b ib pos
 apply aQ;intro
 generalize bT .. =X,bU .. =P,bV .. =n,bW .. =env,cj .. =ν,ck .. =c,cm .. =ic,cp .. =b
 apply aM;intro
 generalize bI .. =ib,bJ .. =pos
 intro hc hb
 apply aI;intro
 generalize nx .. =C
 apply aO;intro
 generalize bL .. =m,bM .. =loc,bQ .. =σ,bR .. =Q
 apply aI;intro
 generalize nx .. =Φ
 intro tp hr h K
 have h:j4 (wT P (aj P n) ic) (wSs P (aj P n) ib) loc σ.H Q:=h
 unfold j4 at h
 obtain⟨N,J,j0,step⟩:=h
 refine wpAny_While (codeAny_whileLoop (fun f s=>∃m₁ aN ae,s=ae.s∧J f aN ae.H∧Here C m₁ aN ae∧Le C.l env.locals σ ae) ?_ N ⟨m,loc,σ,rfl,j0,hr,.refl σ⟩)
 rintro f _ ⟨m₁,aN,ae,rfl,j,au,ay⟩
 refine hc (C.Ve _) m₁ aN ae _ _ _ ⟨au.st,au.lr,au.le,au.ok⟩ (step f aN ae.H j) (fun ao aC aH h=> ?_) fun ao aC aH h=> ?_
 ·rw[if_pos rfl]
  refine hb (C.Ve _) m₁ aN ao _ _ ⟨tp.top,tp.frame⟩ ⟨aC.st,aC.lr,aC.le,aC.ok⟩ h fun fl f' fJ GG tH cg cM fr q=> ?_
  have le:=(ay.trans aH).trans cM
  cases fr with
  |next=>obtain⟨j,hj,q⟩:=q;exact⟨j,hj,GG,tH,fJ,rfl,q,⟨cg.st,cg.lr,cg.le,cg.ok⟩,le⟩
  |cont=>obtain⟨j,hj,q⟩:=q;exact⟨j,hj,GG,tH,fJ,rfl,q,⟨cg.st,cg.lr,cg.le,cg.ok⟩,le⟩
  |ret vr=>exact K _ _ fJ GG tH ⟨cg.st,cg.lr,cg.le,cg.ok⟩ le (.ret vr) q
 ·rw[if_neg (by decide)]
  exact wpAny_execs_nil (iT K ⟨aC.st,aC.lr,aC.le,aC.ok⟩ (ay.trans aH) h)
theorem Flew.same{x y:XK}(z:Flew X l L W h x H' e W' base h₁)(fr:j5 W h l)(sm:h₁.UpToSlots d9)(fl:zA X y base l e d9):Flew X l L W h y H' e W' base d9:=by
 refine⟨z.toExt,z.R,fl,z.keep,fun a o ea n1 n2=> ?_⟩
 obtain⟨sl,e1⟩:=z.slots a o ea n1 n2
 obtain⟨en,he,hf⟩:=List.mem_filterMap.mp n2
 obtain⟨_,L',o',g1,_,_,g4,g5⟩:=fr en he
 rw[hf] at g1;cases g1
 rw[ea] at g4;cases g4
 obtain⟨xc,e2⟩:=sm a _ e1 g5
 exact⟨xc,e2⟩
noncomputable def Ct.loop(C:Ct X n env ν):Ct X n env ν:=
 ⟨C.A,C.l,C.B,mu C.E,notedBy X.M C.A env fun e s'=>cameBackBy X.M C.A env C.Ψ e s',C.ok∧Top C,fun z=>C.ak z.1,fun z=>C.fr z.1,fun z k m loc H' e W' base s' fl F lr q h=>by
  cases k with
  |made=>exact h.elim
  |held=>exact h.elim
  |flying=>
   obtain⟨outer,ho⟩:=z.2.top
   obtain⟨a0,tI⟩:=fl.j7
   have hA:=(C.ak z.1).frames
   rw[ho] at hA tI
   refine wpAny_looks_onW hA z.2.frame tI fun h5 hh sm=>mS z.2.frame hh fun h6 Qc Qd=> ?_
   refine C.bad z.1 .held m loc H' e W' base {s' with heap:=h6} (fl.same (C.fr z.1) (sm.trans Qd) ⟨a0,env.locals,env,outer,ho,z.2.frame,by rw[ho];exact Qc⟩) ⟨Qd.ns (sm.ns F.ns),fun b o eb=>Qc.1 b o (fl.R.keep b o eb),F.above⟩ lr q h⟩
theorem Ar{target iter:Expr}{b:List Stmt}{ct:List Nat}{gX:g7}{ib:cx}(pos:Pos)(tg:Cg env ν target ct)(inj:fS ν)(lS:env.scope.kind=.function)(kR:gI iter=true)(hs:dM X P n env ν iter gX)
  (pl:dw target=true∨(cw target=true∧cY gX=true)) (hb:fM X P n env ν b ib):dN X P n env ν (.For target iter b [] pos) (.for ct gX ib):=by
 revert X P n env ν target iter b ct gX ib pos
 apply aQ;intro
 generalize bT .. =X,bU .. =P,bV .. =n,bW .. =env,cj .. =ν,ck .. =target,cm .. =iter,cp .. =b
 apply aO;intro
 generalize bL .. =ct,bM .. =gX,bQ .. =ib,bR .. =pos
 intro tg inj lS kR hs pl hb
 apply aI;intro
 generalize nx .. =C
 apply aO;intro
 generalize bL .. =m,bM .. =loc,bQ .. =σ,bR .. =Q
 apply aI;intro
 generalize nx .. =Φ
 intro tp hr h K
 refine wpAny_For (hs C m loc σ _ _ hr h fun src I fp bo dO le it off dead hp w=> ?_) (fun x=>vf kR env x)
 unfold mz at w
 obtain⟨N,item,J,j0,get,fin,step,done⟩:=w
 have WT:dw target=true∨(cw target=true∧pT src):=pl.imp id fun y=>⟨y.1,hp y.2⟩
 refine codeAny_forLoop_any (fun f s=>∃k m₁ aN ae,s=ae.s∧f+k=N∧J k aN ae.H∧Here C m₁ aN ae∧Le C.l env.locals σ ae∧It X ae.W ae.s.heap src k I fp∧OffW ae.W C.l env.locals fp) ?_ N ⟨0,m,loc,bo,rfl,rfl,j0,dO,le,it,off⟩
 rintro f _ ⟨k,m₁,aN,ae,rfl,hf,j,au,ay,it,off⟩
 cases f with
 |zero=>
  obtain rfl:k=N:=(Nat.zero_add k).symm.trans hf
  exact Af it au off (fin _ _ j) fun h' N'=>wpAny_execs_nil (iT K (N'.here au hr.le dead) (N'.le ay dead) (done _ _ j))
 |succ f=>
  have hk:k<N:=by exact Ex hf
  refine ve it au off WT (get _ _ _ j hk) fun u eS go=>go _ fun ao N' vr it₂=> ?_
  have sp:=step k aN ae.H hk j
  rw[←N'.H] at sp
  have aC:=N'.here au hr.le dead
  refine mM tg inj lS aC vr sp fun eQ sp m3 s3 IA Rp=> ?_
  have MX:=N'.le ay dead
  refine hb C.loop m3 eQ ⟨s3,ao.W,ao.H⟩ _ _ ⟨tp.top,tp.frame⟩ ⟨IA.st,IA.lr,IA.le,IA.ok,tp⟩ sp fun fl f' hY GH pX hZ mN fr q=> ?_
  have T:=Rp.trans mN
  have MY:=off.mono N'.ext it.live
  have inv:∀{a},a∈fp→∀o,ao.s.heap.get? a=some o→hY.s.heap.get? a=some o:=fun ha o e=>have z:=MY _ ha;T.step.keep _ o e z.1 z.2.2.1 z.2.2.2
  have hZ:Here C GH pX hY:=⟨hZ.st,hZ.lr,hZ.le,hZ.ok.1⟩
  have next:J (k+1) pX hY.H→∃g,g<f+1∧∃k m₁ aN ae,hY.s=ae.s∧g+k=N∧J k aN ae.H∧Here C m₁ aN ae∧Le C.l env.locals σ ae∧It X ae.W ae.s.heap src k I fp∧OffW ae.W C.l env.locals fp:=fun q=>
   ⟨f,Nat.lt_succ_self f,k+1,GH,pX,hY,rfl,by exact(Nat.add_right_comm _ _ 1).trans hf,q,hZ,MX.trans T,it₂.mono T.ext fun a ha=>inv ha,MY.mono T.ext it₂.live⟩
  cases fr with
  |next=>exact next q
  |cont=>exact next q
  |ret vr=>exact K _ _ hY GH pX hZ (MX.trans T) (.ret vr) q
end
end
section
open PyProof.Rows PySem.Calls PySem.W
set_option genInjectivity false
theorem rA{α β:Type}(f:α→β→β)(g:α→β→Sem (ForInStep β))(h:∀a b,g a b=pure (.yield (f a b)))(l:List α):∀(b:β),forIn l b g=pure (l.foldl (fun b a=>f a b) b):=by
 induction l with
 |nil=>
  intro b
  exact rfl
 |cons a l ih=>
  intro b
  rw[List.forIn_cons,h,pure_bind]
  exact ih (f a b)
theorem gT{xs:List Str}{vs:List Value}{n:Str}:(∃i,xs[i]? =some n∧i<vs.length)→((xs.zip vs).lookup n).isSome=true:=by
 induction xs generalizing vs with
 |nil=>rintro⟨i,h,_⟩;simp at h
 |cons x xs ih=>
  rintro⟨i,h,hi⟩
  cases vs with
  |nil=>simp at hi
  |cons v vs=>
   rw[List.zip_cons_cons,List.lookup_cons]
   by_cases q:(n == x)=true
   ·rw[q];rfl
   ·rw[Bool.not_eq_true] at q
    rw[q]
    cases i with
    |zero=>simp at h;subst h;simp at q
    |succ i=>exact ih ⟨i,by simpa using h,by simpa using hi⟩
theorem lD{xs:List Str}{vs:List Value}{n:Str}(h:n∉xs):(xs.zip vs).lookup n=none:=by
 induction xs generalizing vs with
 |nil=>rfl
 |cons x xs ih=>
  cases vs with
  |nil=>rfl
  |cons v vs=>
   rw[List.zip_cons_cons,List.lookup_cons]
   have:(n == x)=false:=by simp;rintro rfl;exact h (.head _)
   rw[this]
   exact ih fun z=>h (.tail _ z)
theorem lE{xs:List Str}{us ds:List Value}:xs.zip (us++ds)=xs.zip us++(xs.drop us.length).zip ds:=by
 induction us generalizing xs with
 |nil=>simp
 |cons u us ih=>
  cases xs with
  |nil=>simp
  |cons x xs=>simp[ih]
theorem ow{xs:List Str}(nd:xs.Nodup):∀(us ds:List Value) (k:Nat),k≤us.length→us.length≤k+ds.length→k+ds.length=xs.length→
  ((xs.drop k).zip ds).foldl (fun(S:List (Str×Value)) (a:Str×Value)=>if(S.lookup a.1).isNone=true then S++[(a.1,a.2)] else S) (xs.zip us)=xs.zip (us++ds.drop (us.length - k)):=by
 intro us ds
 induction ds generalizing us with
 |nil=>
  intro k h1 h2 h3
  simp
 |cons d ds ih=>
  intro k h1 h2 h3
  have hk:k<xs.length:=by rw[←h3];simp
  rw[List.drop_eq_getElem_cons hk,List.zip_cons_cons,List.foldl_cons]
  by_cases q:k<us.length
  ·have:((xs.zip us).lookup xs[k]).isSome=true:=gT ⟨k,List.getElem?_eq_getElem hk,q⟩
   rw[if_neg (by rw[Option.isNone_eq_false_iff.mpr this];decide)]
   have:=ih us (k+1) q (by simp at h2 ⊢;exact Jp h2) (by simp at h3 ⊢;exact(Nat.add_right_comm _ 1 _).trans h3)
   rw[this]
   congr 2
   have e:us.length - k=(us.length - (k+1))+1:=by exact I1 q
   rw[e,List.drop_succ_cons]
  ·have RB:us.length=k:=by exact Nat.le_antisymm (Nat.not_lt.mp q) h1
   have MZ:(xs.zip us).lookup xs[k]=none:=by
    have e:∀(xs:List Str) (us:List Value),xs.zip us=(xs.take us.length).zip us:=fun xs=>by
     induction xs with
     |nil=>intro us;simp
     |cons x xs ih=>intro us;cases us with
      |nil=>simp
      |cons u us=>rw[List.zip_cons_cons,ih us];simp
    rw[e,RB]
    refine lD fun hm=> ?_
    obtain⟨i,hi,he⟩:=List.mem_iff_getElem.mp hm
    rw[List.getElem_take] at he
    have P:=List.pairwise_iff_getElem.mp nd
    have Qe:i<k:=by simp at hi;exact Nat.lt_of_lt_of_le hi (Nat.min_le_left _ _)
    exact P i k (by lia) hk Qe he
   rw[if_pos (by rw[MZ];rfl)]
   have e2:xs.zip us++[(xs[k],d)]=xs.zip (us++[d]):=by
    rw[lE,RB,List.drop_eq_getElem_cons hk,List.zip_cons_cons,List.zip_nil_right]
   rw[e2]
   have:=ih (us++[d]) (k+1) (by simp;exact h1) (by simp;exact Nat.le_add_right_of_le (Nat.succ_le_succ (Nat.not_lt.mp q))) (by simp at h3 ⊢;exact(Nat.add_right_comm _ 1 _).trans h3)
   rw[this]
   congr 1
   simp[RB]
theorem mV{xs:List Str}:∀{vs:List Value},xs.Nodup→vs.length=xs.length→∀(S:List (Str×Value)),(∀n∈xs,S.lookup n=(xs.zip vs).lookup n)→xs.filterMap (fun n=>(S.lookup n).map (n,·))=xs.zip vs:=by
 induction xs with
 |nil=>intro vs _ h S _;rfl
 |cons x xs ih=>
  intro vs nd h S hS
  cases vs with
  |nil=>simp at h
  |cons v vs=>
   have Vf:=List.nodup_cons.mp nd
   rw[List.zip_cons_cons,List.filterMap_cons,hS x (.head _),List.zip_cons_cons,List.lookup_cons]
   simp only[beq_self_eq_true,Option.map_some]
   rw[ih Vf.2 (by simpa using h) S fun n hn=> ?_]
   rw[hS n (.tail _ hn),List.zip_cons_cons,List.lookup_cons]
   have:(n == x)=false:=by simp;rintro rfl;exact Vf.1 hn
   rw[this]
theorem As{α:Type}{M:Model}{A:Around}{c:Prop}[Decidable c]{t k:Sem α}{Q:α→Shared→Prop}{E:Value→Shared→Prop}{s:Shared}(h:¬c)(g:wpAny M A k Q E s):wpAny M A (if c then t else k) Q E s:=by rw[if_neg h];exact g
theorem args_eq:∀{p:Arguments},p.posonlyargs=[]→p.kwonlyargs=[]→p.vararg=none→p.kwarg=none→p=⟨[],p.args,none,[],p.kw_defaults,none,p.defaults⟩:=fun {p} a b c d=>by cases p;cases a;cases b;cases c;cases d;rfl
theorem M0{fd:FuncData}{p:Arguments}(h:fd.params=p):fd={fd with params:=p}:=by subst h;rfl
theorem Dz{N:List Str}{us ds:List Value}(h1:us.length≤N.length)(h2:N.length≤us.length+ds.length)(h3:ds.length≤N.length):(List.filter (fun n=>((N.zip us).lookup n).isNone) (List.take (N.length - ds.length) N))=[]:=by
 rw[List.filter_eq_nil_iff]
 intro x hx
 obtain⟨i,hi,he⟩:=List.mem_iff_getElem.mp hx
 rw[List.getElem_take] at he
 have Qe:i<N.length - ds.length:=by simp at hi;exact hi
 have:((N.zip us).lookup x).isSome=true:=gT ⟨i,by rw[←he];exact List.getElem?_eq_getElem (by exact Nat.lt_of_lt_of_le Qe (Nat.sub_le _ _)),by exact Nat.lt_of_lt_of_le Qe (Nat.sub_le_of_le_add h2)⟩
 rw[Option.isNone_eq_false_iff.mpr this];decide
theorem GI{N:List Str}{us ds:List Value}(nd:N.Nodup)(h1:us.length≤N.length)(h2:N.length≤us.length+ds.length)(h3:ds.length≤N.length):
  List.filterMap (fun n=>(List.lookup n (List.foldl (fun(b:List (Str×Value)) (p:Str×Value)=>if(b.lookup p.1).isNone=true then b++[(p.1,p.2)] else b) (N.zip us) ((List.drop (N.length - ds.length) N).zip ds))).map (n,·)) (N++[])=N.zip (us++ds.drop (us.length+ds.length - N.length)):=by
 rw[List.append_nil,ow nd us ds (N.length - ds.length) (by exact Nat.sub_le_of_le_add h2) (by exact Ja h1) (by exact Nat.sub_add_cancel h3),show us.length - (N.length - ds.length)=us.length+ds.length - N.length from by exact Nat.sub_sub_right _ h3]
 exact mV nd (by simp;exact Es h1 h2) _ fun n _=>rfl
theorem DA{s:Shared}{fd:FuncData}{a:List Arg}{kd:List (Option Expr)}{df:List Expr}{us ds:List Value}{N:List Str}(hN:a.map Arg.arg=N)
  (look:∀(M:Model) (A:Around) (E:Value→Shared→Prop),wpAny M A (seqItems? fd.defaults) (fun r s'=>(r.getD #[]).toList=ds∧s'=s) E s)
  (nd:N.Nodup) (h1:us.length≤N.length) (h2:N.length≤us.length+ds.length) (h3:ds.length≤N.length):
  BindsTo s {fd with params:=⟨[],a,none,[],kd,none,df⟩} ⟨us,[]⟩ (N.zip (us++ds.drop (us.length+ds.length - N.length))):=by
 revert s fd a kd df us ds N
 apply aQ;intro
 generalize bT .. =s,bU .. =fd,bV .. =a,bW .. =kd,cj .. =df,ck .. =us,cm .. =ds,cp .. =N
 intro hN look nd h1 h2 h3
 subst hN
 intro M A E Q hq
 refine wpAny_bind (wpAny_pure (a:=((a.map Arg.arg).zip us,([]:List (Str×Value)))) ?_)
 refine wpAny_bind (wpAny_mono (look M A E) (fun r s' z=> ?_) fun _ _ z=>z)
 obtain⟨hr,rfl⟩:=z
 refine As (show ¬(decide (us.length>(([]:List Str)++a.map Arg.arg).length) && true)=true from ?_) (As (show ¬(!(List.filter (fun n=>(((a.map Arg.arg).zip us).lookup n).isNone) (List.take ((a.map Arg.arg).length - (List.drop ((r.getD #[]).toList.length - (a.map Arg.arg).length) (r.getD #[]).toList).length) (a.map Arg.arg))).isEmpty)=true from ?_) ?_)
 ·rw[Bool.and_true,decide_eq_true_iff];exact Nat.not_lt.mpr h1
 ·rw[hr,show ds.length - (a.map Arg.arg).length=0 from Nat.sub_eq_zero_of_le h3,List.drop_zero,Dz h1 h2 h3];decide
 refine wpAny_bind (wpAny_of_eq (rA (fun(p:Str×Value) (S:List (Str×Value))=>if(S.lookup p.1).isNone=true then S++[(p.1,p.2)] else S) _ (fun p b=>by obtain⟨x,d⟩:=p;dsimp only;split<;>rfl) _ _) ?_)
 refine wpAny_bind (wpAny_pure ?_)
 refine As (show ¬(!(([]:List Str)).isEmpty)=true from by decide) (wpAny_pure ?_)
 show Q (List.filterMap (fun n=>(List.lookup n (List.foldl (fun(b:List (Str×Value)) (p:Str×Value)=>if(b.lookup p.1).isNone=true then b++[(p.1,p.2)] else b) ((a.map Arg.arg).zip us) ((List.drop ((a.map Arg.arg).length - (List.drop ((r.getD #[]).toList.length - (a.map Arg.arg).length) (r.getD #[]).toList).length) (a.map Arg.arg)).zip (List.drop ((r.getD #[]).toList.length - (a.map Arg.arg).length) (r.getD #[]).toList)))).map (n,·)) (a.map Arg.arg++[])) s'
 rw[hr,show ds.length - (a.map Arg.arg).length=0 from Nat.sub_eq_zero_of_le h3,List.drop_zero,GI nd h1 h2 h3]
 exact hq
theorem kT{s:Shared}{fd:FuncData}{us ds:List Value}{o:Obj}{T:Addr}{n:Nat}{names:List Str}
  (hp:fd.params.posonlyargs=[]) (hk:fd.params.kwonlyargs=[]) (hv:fd.params.vararg=none) (WU:fd.params.kwarg=none) (hn:fd.params.args.map (·.arg)=names) (nd:names.Nodup)
  (hd:(fd.defaults=.ref T∧s.heap.get? T=some o∧o.data=.seq ds.toArray n)∨(fd.defaults=.none∧ds=[])) (h1:us.length≤names.length) (h2:names.length≤us.length+ds.length) (h3:ds.length≤names.length):
  BindsTo s fd ⟨us,[]⟩ (names.zip (us++ds.drop (us.length+ds.length - names.length))):=by
 rw[M0 (args_eq hp hk hv WU)]
 refine DA hn (fun M A E=> ?_) nd h1 h2 h3
 rcases hd with⟨hd,ho,hs⟩|⟨hd,rfl⟩
 ·rw[hd];exact wpAny_seqItems ho hs ⟨rfl,rfl⟩
 ·rw[hd];exact wpAny_pure ⟨rfl,rfl⟩
theorem oY{kindOf:Str→Option NameKind}:∀{bs:List (Str×Value)} {m:Str→Option Value} {y:Str},y∉bs.map (·.1)→bindL kindOf bs m y=m y
 |[],_,_,_=>rfl
 |(n,v)::r,m,y,h=>by
  unfold bindL
  rw[oY fun z=>h (.tail _ z)]
  have:y≠n:=fun z=>h (z▸.head _)
  split
  ·show(if y=n then some v else m y)=m y
   rw[if_neg this]
  ·rfl
theorem oZ{kindOf:Str→Option NameKind}:∀{bs:List (Str×Value)} {m:Str→Option Value} {y:Str},y∉bs.map (·.1)→bindC kindOf bs m y=m y
 |[],_,_,_=>rfl
 |(n,v)::r,m,y,h=>by
  unfold bindC
  rw[oZ fun z=>h (.tail _ z)]
  have:y≠n:=fun z=>h (z▸.head _)
  split
  ·rfl
  ·show(if y=n then some v else m y)=m y
   rw[if_neg this]
theorem kU{xs:List Str}{vs:List Value}{y:Str}(h:y∈(xs.zip vs).map (·.1)):y∈xs:=by
 obtain⟨p,hp,rfl⟩:=List.mem_map.mp h
 exact(List.of_mem_zip hp).1
theorem mW{kindOf:Str→Option NameKind}{y:Str}{v:Value}(hk:kindOf y=some .local){xs:List Str}:∀{vs:List Value} {m:Str→Option Value} {i:Nat},xs.Nodup→xs[i]? =some y→vs[i]? =some v→bindL kindOf (xs.zip vs) m y=some v:=by
 induction xs with
 |nil=>exact fun _ h _=>cu h
 |cons x xs ih=>
  intro vs m i nd h1 h2
  cases vs with
  |nil=>exact cu h2
  |cons w vs=>cases i with
   |zero=>
    cases h1;cases h2
    show bindL kindOf (xs.zip vs) _ _=_
    rw[oY fun z=>(List.nodup_cons.mp nd).1 (kU z),if_pos hk]
    exact if_pos rfl
   |succ i=>exact ih (List.nodup_cons.mp nd).2 h1 h2
theorem Au{kindOf:Str→Option NameKind}{y:Str}{v:Value}(hk:kindOf y≠some .local){xs:List Str}:∀{vs:List Value} {m:Str→Option Value} {i:Nat},xs.Nodup→xs[i]? =some y→vs[i]? =some v→bindC kindOf (xs.zip vs) m y=some v:=by
 induction xs with
 |nil=>exact fun _ h _=>cu h
 |cons x xs ih=>
  intro vs m i nd h1 h2
  cases vs with
  |nil=>exact cu h2
  |cons w vs=>cases i with
   |zero=>
    cases h1;cases h2
    show bindC kindOf (xs.zip vs) _ _=_
    rw[oZ fun z=>(List.nodup_cons.mp nd).1 (kU z),if_neg hk]
    exact if_pos rfl
   |succ i=>exact ih (List.nodup_cons.mp nd).2 h1 h2
theorem fT:∀(names:List (Str×NameKind)) (n:Nat) (acc:List (Str×Addr)) (x:Str),(acc.lookup x).isSome=true→((cellsFrom n names acc).lookup x).isSome=true
 |[],_,_,_,h=>h
 |(y,k)::r,n,acc,x,h=>by
  unfold cellsFrom
  split
  ·refine fT r _ _ x ?_
   rw[List.lookup_cons]
   split
   ·rfl
   ·exact h
  ·exact fT r _ _ x h
theorem cellsFrom_some:∀(names:List (Str×NameKind)) (n:Nat) (acc:List (Str×Addr)) (x:Str),names.lookup x=some .cell→((cellsFrom n names acc).lookup x).isSome=true
 |[],_,_,_,h=>by simp at h
 |(y,k)::r,n,acc,x,h=>by
  rw[List.lookup_cons] at h
  unfold cellsFrom
  by_cases q:(x == y)=true
  ·rw[q] at h
   cases h
   rw[if_pos (by rfl)]
   refine fT r _ _ x ?_
   rw[List.lookup_cons,q];rfl
  ·rw[Bool.not_eq_true] at q
   rw[q] at h
   split
   ·exact cellsFrom_some r _ _ x h
   ·exact cellsFrom_some r _ _ x h
structure bq(env:Env)(sc:List (Str×NameKind)):Prop extends EnvOk env where
 names:env.scope.names=sc
 cells:∀x,(x,NameKind.cell)∈sc∨(x,NameKind.free)∈sc→∃ca,env.cells.lookup x=some ca
structure xO(X:Cx)(P:ef)(f:Addr)(r:iR)(fd:FuncData)(body:List Stmt)(names:List Str)(ν:Nu):Prop where
 obj:∃o,X.K.lookup f=some o∧o.data=.func fd
 code:∀h,X.K.In h→h.CodeRec fd.code fd.qualname
 stmts:fd.body=.stmts body
 kind:fd.scope.kind=.function
 co:fd.scope.isCoroutine=false
 gen:fd.scope.isGenerator=false
 RC:fd.closure=[]
 globals:fd.globals=mainGlobals
 builtins:fd.builtins=builtinsNs
 pY:fd.params.posonlyargs=[]
 tJ:fd.params.kwonlyargs=[]
 vararg:fd.params.vararg=none
 kwarg:fd.params.kwarg=none
 args:fd.params.args.map (·.arg)=names
 nd:names.Nodup
 dflt:∃ds:List Value,(∀W:Wd,(∀a o,X.h₀.get? a=some o→W.B a=some o)→cO X W r.dflt ds)∧((∃T o n,fd.defaults=.ref T∧X.K.lookup T=some o∧o.data=.seq ds.toArray n)∨(fd.defaults=.none∧ds=[]))
 WW:r.dflt.length≤r.np
 np:r.np=names.length
 inj:fS ν
 slots:∀x i,ν.lookup x=some i→i<r.j1
 params:∀i x,names[i]? =some x→ν.lookup x=some i
 kinds:∀x∈names,fd.scope.names.lookup x=some .local∨fd.scope.names.lookup x=some .cell
 vi:∀x k,(x,k)∈fd.scope.names→k=.cell∨k=.free→fd.scope.names.lookup x=some .cell
 snd:∀n,dU X P n→∀env,bq env fd.scope.names→fM X P n env ν body r.body
section
variable {X:Cx}{P:ef}{n:Nat}{env:Env}{ν ν':Nu}{m m₁ m₂:Str→Option Value}{loc aN jc:Loc}{A:Around}{s:Shared}{W cA fy W':Wd}{H H':aa}{h h₁ d9 h' g base:Heap}{L c D I e:Addr}{l:List Env}{E:Value→Shared→Prop}
theorem vj{R:Result→Shared→Prop}{a:Addr}{o:Obj}{fd:FuncData}{body:List Stmt}{args:Args}{binds:List (Str×Value)}
  (vm:A.depth<recursionLimit) (ho:s.heap.get? a=some o) (M1:o.data=.func fd) (RD:s.heap.NoLimit) (Vg:s.heap.CodeRec fd.code fd.qualname)
  (Av:fd.body=.stmts body) (M3:BindsTo s fd args binds) (RE:fd.closure=[])
  (jD:∀x∈binds,fd.scope.names.lookup x.1=some .local∨(fd.scope.names.lookup x.1=some .cell∧((cellsFrom (s.heap.objs.size+1) fd.scope.names []).lookup x.1).isSome=true))
  (h:∀bc,InCallC s (callEnvC fd s.heap.objs.size a).locals (bindL (callEnvC fd s.heap.objs.size a).kindOf binds fun _=>none) (callEnvC fd s.heap.objs.size a).cells
    (bindC (callEnvC fd s.heap.objs.size a).kindOf binds fun _=>none) bc→
   wpAny X.M (A.deeper (callEnvC fd s.heap.objs.size a)) (execs body (callEnvC fd s.heap.objs.size a)) (fun f s'=>R (.ok (.ret (match f with|.ret v=>v|_=>.none))) s')
    (fun e s'=>wpAny X.M (A.deeper (callEnvC fd s.heap.objs.size a)) (leaving (callEnvC fd s.heap.objs.size a) e) (fun _ Cc=>R (.error e) Cc) (fun e' Cc=>R (.error e') Cc) s') bc)
  (WX:fd.scope.isCoroutine=false) (RF:fd.scope.isGenerator=false) (hk:fd.scope.kind=.function):
  codeAny X.M A (.call (.ref a) args) R s:=by
 refine codeAny_call_function vm ho M1 WX RF Av Vg (M3 _ _ _ _ ?_)
 rw[RE]
 refine wpAny_newFunctionEnv_cells hk jD fun env he s' x=> ?_
 subst he
 exact⟨RD.keeps x.toInCall.keep,codeAny_func (h s' x)⟩
theorem rB{M:Model}{outer:List Env}{cls a0:Value}{Q:Unit→Shared→Prop}(hf:env.frame=some L)
  (hh:Heap.HeldW base (env::outer) e cls a0 L s.heap) (hQ:∀h',Heap.FlyingW base outer e cls a0 h'→s.heap.UpToSlots h'→Q () {s with heap:=h'}):wpAny M A (leaving env (.ref e)) Q E s:=by
 unfold leaving
 refine wpAny_bind (wpAny_noteFrame_againW hf hh.2.2.2 ?_)
 refine wpAny_landsW hh fun h' tI sm=> ?_
 obtain⟨k1,k2,⟨_,_,k3⟩,k4⟩:=tI
 exact hQ h' ⟨k1,k2,k3,k4⟩ sm
noncomputable def Wd.cells(W:Wd)(h:Heap)(cs:List Addr):Wd:=⟨fun b=>if b∈cs then h.get? b else W.B b,W.φ⟩
theorem fi{cs:List Addr}{a:Addr}(h:a∉cs):(W.cells h₁ cs).B a=W.B a:=if_neg h
theorem rC{cs:List Addr}{a:Addr}(h:a∈cs):(W.cells h₁ cs).B a=h₁.get? a:=if_pos h
theorem rE{cs:List Addr}(R:HR X W H h)(keep:∀a o,h.get? a=some o→h₁.get? a=some o)(dC:∀c∈cs,h.get? c=none):Ext W h (W.cells h₁ cs)∧HR X (W.cells h₁ cs) H h₁:=by
 have alive:∀{a:Addr} {o:Obj},h.get? a=some o→a∉cs:=fun e z=>by rw[dC _ z] at e;cases e
 have E1:Ext W h (W.cells h₁ cs):=by
  refine⟨fun a o ea=>(fi (alive (R.frozen a o ea))).trans ea,fun a o ea=> ?_,⟨[],(List.append_nil _).symm,fun _ h=>nomatch h⟩⟩
  by_cases q:a∈cs
  ·exact .inr (dC a q)
  ·rw[fi q] at ea;exact .inl ea
 refine⟨E1,R.len,fun i p o' ei eo=>(R.objs i p o' ei eo).mono E1 (fun o z=>keep _ _ z) (fun o z=>keep _ _ z),R.apart,fun a o ea=> ?_,fun p hp=> ?_,fun a o ea=>E1.B _ _ (R.base a o ea),R.ok⟩
 ·by_cases q:a∈cs
  ·rw[rC q] at ea;exact ea
  ·rw[fi q] at ea;exact keep _ _ (R.frozen a o ea)
 ·obtain⟨o1,e1⟩:=R.fe ⟨p,hp,.inl rfl⟩
  obtain⟨o2,e2⟩:=R.fe ⟨p,hp,.inr rfl⟩
  have:=R.off p hp
  exact⟨(fi (alive e1)).trans this.1,(fi (alive e2)).trans this.2⟩
theorem xP{names:List Str}{vals:List Value}{xQ:List PV}{k:Nat}{sc:List (Str×NameKind)}{lo:Nat}(ko:∀y,env.kindOf y=sc.lookup y)(inj:fS ν)(params:∀i x,names[i]? =some x→ν.lookup x=some i)(kinds:∀x∈names,sc.lookup x=some .local∨sc.lookup x=some .cell)(nd:names.Nodup)(eC:env.cells=cellsFrom lo sc [])
  (mX:cO X W xQ vals) (hlen:vals.length=names.length) (E1:Ext W h cA) (cell:∀y ca,env.cells.lookup y=some ca→∃o,cA.B ca=some o∧o.data=.cell (bindC env.kindOf (names.zip vals) (fun _=>none) y)):
  ju X cA env ν (bindL env.kindOf (names.zip vals) fun _=>none) (xQ.map some++List.replicate k none):=fun y i w hy hw=>by
 have lR:=mX.length
 have hi:i<xQ.length:=by
  rcases Nat.lt_or_ge i xQ.length with q|q
  ·exact q
  ·rw[List.getElem?_append_right (by simpa using q)] at hw
   cases List.eq_of_mem_replicate (List.mem_of_getElem? hw)
 rw[List.getElem?_append_left (by simpa using hi),List.getElem?_map] at hw
 obtain⟨w',Rk,Rl⟩:=Option.map_eq_some_iff.mp hw
 cases Rl
 obtain⟨u,hu,vu⟩:=mX.get Rk
 have DB:i<names.length:=by rw[←hlen,←lR];exact hi
 have RG:names[i]? =some y:=by
  have:=params i names[i] (List.getElem?_eq_getElem DB)
  rw[inj y names[i] i hy this]
  exact List.getElem?_eq_getElem DB
 refine⟨u,?_,vu.mono E1⟩
 rcases kinds y (List.mem_of_getElem? RG) with q|q
 ·exact .inl ⟨(ko y).trans q,mW ((ko y).trans q) nd RG hu⟩
 ·have ne:env.kindOf y≠some .local:=by rw[ko,q];decide
  obtain⟨ca,EN⟩:=Option.isSome_iff_exists.mp (cellsFrom_some _ lo [] _ q)
  rw[←eC] at EN
  obtain⟨oc,gc,dc⟩:=cell y ca EN
  rw[Au ne nd RG hu] at dc
  exact .inr ⟨ca,oc,.inl ((ko y).trans q),EN,gc,dc⟩
theorem vn{a:Addr}(eF:env.frame=some env.locals)(h1:a∉Fs l)(h2:a≠env.locals):a∉Fs (env::l):=fun h3=>by
 obtain⟨en,he,hf⟩:=List.mem_filterMap.mp h3
 rcases List.mem_cons.mp he with rfl|he
 ·rw[eF] at hf;cases hf;exact h2 rfl
 ·exact h1 (List.mem_filterMap.mpr ⟨en,he,hf⟩)
theorem vo{a:Addr}(h:a∈Fs l):a∈Fs (env::l):=by
 obtain⟨en,he,hf⟩:=List.mem_filterMap.mp h
 exact List.mem_filterMap.mpr ⟨en,.tail _ he,hf⟩
structure jI(X:Cx)(l:List Env)(env:Env)(W:Wd)(h:Heap)(cA:Wd)(h₁:Heap):Prop where
 ext:Ext W h cA
 keep:∀a o,h.get? a=some o→h₁.get? a=some o
 dead:h.get? env.locals=none
 frame:env.frame=some env.locals
 own:∀a,Own cA a→Own W a
theorem jI.Ft(b:jI X l env W h cA h₁){a:Addr}{o:Obj}(e:h.get? a=some o):a≠env.locals:=fun z=>by rw[z,b.dead] at e;cases e
theorem jI.good(b:jI X l env W h cA h₁)(S:Step (env::l) env.locals cA h₁ W' h'):cW l W h W' h':=
 ⟨b.ext.trans (fun a o e=>⟨o,b.keep _ _ e⟩) S.toExt,fun a o ea n1 n2=>S.keep a o (b.keep _ _ ea) (fun z=>n1 (b.own a z)) (b.Ft ea) (vn b.frame n2 (b.Ft ea)),fun a o ea n1=>S.slots a o (b.keep _ _ ea) (b.Ft ea) (vo n1),fun a o ea=>S.live a o (b.keep _ _ ea)⟩
theorem jI.bad(b:jI X l env W h cA h₁){k:XK}{ex:Addr}{a0:Value}{s eS:Shared}{K:XK→aa→Prop}(hs:s.heap=h)(fr:j5 W h l)(fl:Flew X (env::l) env.locals cA h₁ k H' ex W' base eS.heap)(q:hF s eS)(tI:Heap.FlyingW base l ex (.ref X.bad) a0 h')(sm:eS.heap.UpToSlots h')(hk:K .flying H'){R:PV→aa→Prop}:
  cU X l W s R K (.error (.ref ex)) {eS with heap:=h'}:=by
 subst hs
 refine⟨H',W',base,a0,b.ext.trans (fun a o e=>⟨o,b.keep _ _ e⟩) fl.toExt,fl.R,tI,fun a o ea n1 n2=>fl.keep a o (b.keep _ _ ea) (fun z=>n1 (b.own a z)) (b.Ft ea) (vn b.frame n2 (b.Ft ea)),fun a o ea n1=> ?_,q.trans ⟨rfl,rfl,rfl⟩,hk⟩
 obtain⟨sl,e1⟩:=fl.slots a o (b.keep _ _ ea) (b.Ft ea) (vo n1)
 obtain⟨en,he,hf⟩:=List.mem_filterMap.mp n1
 obtain⟨_,L',o',g1,_,_,g4,g5⟩:=fr en he
 rw[hf] at g1;cases g1
 rw[ea] at g4;cases g4
 obtain⟨xc,e2⟩:=sm a _ e1 g5
 exact⟨xc,e2⟩
theorem kW{fd:FuncData}{ds:List Value}(KI:X.K.In s.heap)(GJ:(∃T o n,fd.defaults=.ref T∧X.K.lookup T=some o∧o.data=.seq ds.toArray n)∨(fd.defaults=.none∧ds=[])):∃(T:Addr) (o:Obj) (n:Nat),(fd.defaults=.ref T∧s.heap.get? T=some o∧o.data=.seq ds.toArray n)∨(fd.defaults=.none∧ds=[]):=by
 revert X s fd ds
 apply aO;intro
 generalize bL .. =X,bM .. =s,bQ .. =fd,bR .. =ds
 intro KI GJ
 rcases GJ with⟨T,o,n,h1,h2,h3⟩|h
 ·exact⟨T,o,n,.inl ⟨h1,KI _ _ h2,h3⟩⟩
 ·exact⟨0,default,0,.inr h⟩
theorem DC{a u np nm d d':Nat}(xR:a≤np∧np≤a+d)(WY:a=u)(RH:d=d')(WZ:np=nm)(RI:d≤np):u≤nm∧nm≤u+d'∧d'≤nm∧a+d - np=u+d' - nm∧u+(d' - (u+d' - nm))=nm:=by
 subst WY RH WZ;exact IV xR RI
theorem xS{args:List PV}{us:List Value}{f:Nat}{R:PV→aa→Prop}{K:XK→aa→Prop}(fn:∀f r,bA f P.fns=some r→∃fd body names ν,xO X P f r fd body names ν)(rel:HR X W H s.heap)(v:cO X W args us)(e:qS P (aj P n) f args H R K):
  ∃r fd body names ν,xO X P f r fd body names ν∧∃vals xQ,BindsTo s fd ⟨us,[]⟩ (names.zip vals)∧cO X W xQ vals∧vals.length=names.length∧wSs P (aj P n) r.body (xQ.map some++List.replicate (r.j1 - r.np) none) H (fR R) fun _ _ H=>K .flying H:=by
 revert X P n s W H args us f R K
 apply aQ;intro
 generalize bT .. =X,bU .. =P,bV .. =n,bW .. =s,cj .. =W,ck .. =H,cm .. =args,cp .. =us
 apply aM;intro
 generalize bI .. =f,bJ .. =R
 apply aI;intro
 generalize nx .. =K
 intro fn rel v e
 unfold qS at e
 split at e
 ·exact e.elim
 rename_i rec RJ
 split at e
 ·exact e.elim
 rename_i vs IC
 unfold jo at IC
 split at IC
 ·rename_i xR
  obtain rfl:=Option.some.inj IC
  obtain⟨fd,body,names,ν,F⟩:=fn f rec RJ
  obtain⟨ds,RK,GJ⟩:=F.dflt
  have dr:=RK W rel.base
  have fo:=DC xR v.length dr.length F.np F.WW
  obtain⟨T,oT,nT,EX⟩:=kW rel.yT GJ
  refine⟨rec,fd,body,names,ν,F,_,_,kT F.pY F.tJ F.vararg F.kwarg F.args F.nd EX (us:=us) fo.1 fo.2.1 fo.2.2.1,?_,?_,e⟩
  ·rw[fo.2.2.2.1]
   exact v.append (dr.drop _)
  ·rw[List.length_append,List.length_drop];exact fo.2.2.2.2
 ·cases IC
structure vq(X:Cx)(h:Heap)(fd:FuncData)(env:Env):Prop where
 L:env.locals=h.objs.size
 F:env.frame=some env.locals
 N:env.scope=fd.scope
 C:env.cells=cellsFrom (h.objs.size+1) fd.scope.names []
 O:EnvOk env
theorem rF{rec:iR}{fd:FuncData}{body:List Stmt}{names:List Str}{vals:List Value}{xQ:List PV}{f:Addr}{bc:Shared}(F:xO X P f rec fd body names ν)(fo:vq X s.heap fd env)(rel:HR X W H s.heap)(hz:X.h₀.objs.size≤s.heap.objs.size)(fr:j5 W s.heap l)(mX:cO X W xQ vals)(hlen:vals.length=names.length)
  (x:InCallC s env.locals (bindL env.kindOf (names.zip vals) fun _=>none) env.cells (bindC env.kindOf (names.zip vals) fun _=>none) bc):
  ∃cA,jI X l env W s.heap cA bc.heap∧St X (env::l) cA H env.locals (bindL env.kindOf (names.zip vals) fun _=>none) bc∧ju X cA env ν (bindL env.kindOf (names.zip vals) fun _=>none) (xQ.map some++List.replicate (rec.j1 - rec.np) none)∧hF s bc:=by
 revert X P env ν s W H l rec fd body names vals xQ f bc
 apply aQ;intro
 generalize bT .. =X,bU .. =P,bV .. =env,bW .. =ν,cj .. =s,ck .. =W,cm .. =H,cp .. =l
 apply aQ;intro
 generalize bT .. =rec,bU .. =fd,bV .. =body,bW .. =names,cj .. =vals,ck .. =xQ,cm .. =f,cp .. =bc
 intro F fo rel hz fr mX hlen x
 have ko:∀y,env.kindOf y=fd.scope.names.lookup y:=fun y=>by unfold Env.kindOf;rw[fo.N]
 have gu:=x.toInCall.keep
 have dL:s.heap.get? env.locals=none:=by rw[fo.L];exact aV _
 have up:∀p∈env.cells,s.heap.objs.size<p.2:=fun p hp=>by have:=x.above p.1 p.2 hp;rw[fo.L] at this;exact this
 have dC:∀c∈env.cells.map (·.2),s.heap.get? c=none:=fun c hc=>by
  obtain⟨p,hp,rfl⟩:=List.mem_map.mp hc
  cases q:s.heap.get? p.2 with
  |none=>rfl
  |some o=>exact absurd (Heap.lt_size q) (Nat.not_lt.mpr (Nat.le_of_lt (up p hp)))
 obtain⟨E1,R1⟩:=rE (h₁:=bc.heap) rel gu dC
 have bg:jI X l env W s.heap (W.cells bc.heap (env.cells.map (·.2))) bc.heap:=⟨E1,gu,dL,fo.F,fun _ z=>z⟩
 have Aw:¬Own (W.cells bc.heap (env.cells.map (·.2))) env.locals:=fun z=>by
  obtain⟨o',e'⟩:=rel.fe (bg.own _ z)
  rw[dL] at e';cases e'
 have M4:(W.cells bc.heap (env.cells.map (·.2))).B env.locals=none:=(fi fun hc=>by
  obtain⟨p,hp,hq⟩:=List.mem_map.mp hc
  have:=up p hp
  rw[hq,fo.L] at this
  exact absurd this (Nat.lt_irrefl _)).trans (rel.dead dL)
 refine⟨_,bg,⟨⟨x.toInCall.ns,R1.keep,by rw[fo.L];exact hz⟩,R1,M4,Aw,?_⟩,xP (k:=rec.j1 - rec.np) ko F.inj F.params F.kinds F.nd fo.C mX hlen E1 fun y ca EN=> ?_,?_⟩
 ·apply aI;intro
  generalize nx .. =en
  intro he
  rcases List.mem_cons.mp he with rfl|he
  ·obtain⟨oL,es,ep,gL,W0,_⟩:=x.toInCall.ns
   exact⟨by rw[fo.O.kind];decide,_,oL,fo.F,M4,Aw,gL,fun vs z=>by rw[W0] at z;cases z⟩
  ·obtain⟨hk,L',o',g1,g2,g3,g4,g5⟩:=fr en he
   exact⟨hk,L',o',g1,E1.dE g4 g2,E1.own g4 g3,gu _ _ g4,g5⟩
 ·obtain⟨oc,gc,dc⟩:=x.cell y ca EN
  exact⟨oc,(rC (List.mem_map.mpr ⟨(y,ca),mem_of_lookup EN,rfl⟩)).trans gc,dc⟩
 ·obtain⟨h1,tk,rfl⟩:=x.toInCall.same;exact⟨rfl,rfl,rfl⟩
theorem xT{A':Around}{bc eS:Shared}{k:XK}{ex:Addr}{R:PV→aa→Prop}{K:XK→aa→Prop}(bg:jI X l env W s.heap cA bc.heap)(fr:j5 W s.heap l)(hA:A'.frames=some (env::l))(fl:Flew X (env::l) env.locals cA bc.heap k H' ex W' base eS.heap)(q:hF s eS)(hk:K .flying H'):
  wpAny X.M A' (leaving env (.ref ex)) (fun _ Cc=>cU X l W s R K (.error (.ref ex)) Cc) E eS:=by
 have fin:∀(a0:Value) (h':Heap),Heap.FlyingW base l ex (.ref X.bad) a0 h'→eS.heap.UpToSlots h'→cU X l W s R K (.error (.ref ex)) {eS with heap:=h'}:=fun a0 h' tI sm=>bg.bad rfl fr fl q tI sm hk
 cases k with
 |made=>exact fl.j7 env l rfl A' _ _ eS rfl hA fun h' a0 tI sm=>fin a0 h' tI sm
 |flying=>
  obtain⟨a0,tI⟩:=fl.j7
  exact wpAny_leaves_onW hA bg.frame tI fun h' GK sm=>fin a0 h' GK sm
 |held=>
  obtain⟨a0,L',W2,outer,hl,hf,hh⟩:=fl.j7
  cases hl
  rw[bg.frame] at hf;cases hf
  exact rB bg.frame hh fun h' GK sm=>fin a0 h' GK sm
theorem rG(fn:∀f r,bA f P.fns=some r→∃fd body names ν,xO X P f r fd body names ν)(co:dU X P n):dU X P (n+1):=by
 revert X P n
 apply aM;intro
 generalize bI .. =X,bJ .. =P
 apply aI;intro
 generalize nx .. =n
 intro fn co
 intro f A l s W H args us R K e rel hz fr v ak
 rw[mB] at e
 obtain⟨rec,fd,body,names,ν,F,vals,xQ,hb,mX,hlen,e⟩:=xS fn rel v e
 obtain⟨o,ho,hd⟩:=F.obj
 have KI:=rel.yT
 have Ax:=ak.depth
 have GL:=ak.units
 refine vj (by show A.depth<1000;exact uT Ax rfl) (KI _ _ ho) hd ((X.T rel.ok).nolimit.keeps rel.keep) (F.code _ KI) F.stmts hb F.RC (fun x hx=>(F.kinds x.1 (List.of_mem_zip hx).1).imp id fun q=>⟨q,cellsFrom_some _ _ _ _ q⟩) (fun bc x=> ?_) F.co F.gen F.kind
 have fo:vq X s.heap fd (callEnvC fd s.heap.objs.size f):=⟨rfl,rfl,rfl,rfl,⟨F.kind,F.globals,F.builtins⟩⟩
 generalize callEnvC fd s.heap.objs.size f=env at x fo ⊢
 obtain⟨cA,bg,Vh,W3,EZ⟩:=rF F fo rel hz fr mX hlen x
 have Vi:zB (A.deeper env) (env::l) n:=⟨ak.handled,Around.frames_deeper ak.frames,by show A.depth+1+4 * n+4≤900;exact Jm Ax,by show A.units+3+20 * n+20≤9000;exact Jl GL⟩
 have eA:bq env fd.scope.names:=⟨fo.O,by rw[fo.N],fun y hy=>by
  rw[fo.C]
  exact Option.isSome_iff_exists.mp (cellsFrom_some _ _ _ _ (hy.elim (fun hy=>F.vi y _ hy (.inl rfl)) fun hy=>F.vi y _ hy (.inr rfl)))⟩
 refine F.snd n co env eA ⟨A.deeper env,env::l,⟨bc,cA,H⟩,fun _ _ H=>K .flying H,_,True,fun _=>Vi,fun _=>Vh.fr,fun _ k m loc H' ex W' base eS fl Fm Vj q hk=>xT bg fr Vi.frames fl (EZ.trans q) hk⟩ _ _ ⟨bc,cA,H⟩ _ _ ⟨⟨l,rfl⟩,fo.F⟩ ⟨Vh,W3,.refl _,trivial⟩ e fun fl f' ao m' eQ aC aH U6 q=> ?_
 have T:=bg.good aH.step
 have sm:=EZ.trans aH.same
 cases U6 with
 |next=>exact⟨.none,_,_,T,aC.rel,.none,sm,q⟩
 |cont=>exact q.elim
 |ret vr=>exact⟨_,_,_,T,aC.rel,vr,sm,q⟩
end
end
section
open PyProof.Rows PySem.Calls PySem.W
set_option backward.match.sparseCases false
set_option genInjectivity false
section
open Builtin Builtin.ObjectAttr Builtin.Getset_descriptor
noncomputable def jJ:List Value→Bool
 |.ref _::r=>jJ r
 |l=>l == [.type "ValueError",.type "Exception",.type "BaseException",.type "object"]
noncomputable def lT(K:Frag)(C:Addr):Bool:=(clsIn K C).any fun cd=>jJ cd.mro
theorem jd:∀{l:List Value},jJ l=true→∃r t,l=r++t∧(∀x∈r,∃c,x=.ref c)∧t=[Value.type "ValueError",.type "Exception",.type "BaseException",.type "object"]
 |.ref c::r,e=>by
  obtain⟨a,t,h1,h2,h3⟩:=jd (l:=r) e
  exact⟨.ref c::a,t,by rw[h1];rfl,(fun x hx=>(List.mem_cons.mp hx).elim (fun q=>⟨c,q⟩) (h2 x)),h3⟩
 |[],e|.none::_,e|.ellipsis::_,e|.notImplemented::_,e|.bool _::_,e|.int _ _::_,e|.float _ _::_,e|.str _ _::_,e|.bytes _ _::_,e|.type _::_,e|.builtin _::_,e=>
  ⟨[],_,rfl,(fun x hx=>by cases hx),beq_iff_eq.mp e⟩
theorem tK(self:Value):∀{l:List Value},jJ l=true→refuseLoop self "__setattr__" l=pure ():=by
 intro l e
 obtain⟨r,t,h1,h2,h3⟩:=jd e
 subst h1 h3
 clear e
 induction r with
 |nil=>exact PySem.F.store_ValueError.passes self
 |cons x r ih=>
  obtain⟨c,rfl⟩:=h2 x (.head _)
  rw[List.cons_append,refuseLoop_ref]
  exact ih fun y hy=>h2 y (.tail _ hy)
theorem rH{l:List Value}(e:jJ l=true):l.contains (.type "object")=true:=by
 obtain⟨r,t,h1,h2,h3⟩:=jd e
 subst h1 h3
 simp
section
variable {prog:Program}{w:World}{A:Around}{s:Shared}{R:Result→Shared→Prop}{K:Frag}{x C:Addr}
theorem DD{ox:Obj}{od:Option Obj}{name:Str}{tk:Tok}{v:Value}{r:Option Value}(X:K.In s.heap)(I:InstAt s.heap x ox C od)(hp:lT K C=true)(ht:takerIn K C name=some r)
  (h:∀b,wpAny (model prog w) A.in1 (match r with|some a=>setByDescriptor a (.ref x) v|none=>storeInOwnDict (.ref x) (.ref C) (.str name tk) name v b)
   (fun fin s'=>match fin with|.done f=>R (.ok f) s'|.again c'=>c'.quiet=true∧codeAny (model prog w) A c' R s') (fun e s'=>R (.error e) s') s):
  codeAny (model prog w) A (.call (.builtin "object.__setattr__") ⟨[.ref x,.str name tk,v],[]⟩) R s:=by
 revert prog w A s R K x C ox od name tk v r
 apply aO;intro
 generalize bL .. =prog,bM .. =w,bQ .. =A,bR .. =s
 apply aM;intro
 generalize bI .. =R,bJ .. =K
 apply aI;intro
 generalize nx .. =x
 apply aI;intro
 generalize nx .. =C
 apply aO;intro
 generalize bL .. =ox,bM .. =od,bQ .. =name,bR .. =tk
 apply aM;intro
 generalize bI .. =v,bJ .. =r
 intro X I hp ht h
 have SF:=PySem.F.store_object
 obtain⟨cd,hc,ho⟩:=any_some hp
 have ne:cd.mro.isEmpty=false:=by cases q:cd.mro with|nil=>rw[q] at ho;cases ho|cons _ _=>rfl
 have sub:Looks (model prog w) s.heap (isInstance (.ref x) (.type "object")) true:=I.type.andThen (looks_mroIn X (by unfold mroIn;rw[hc,Option.bind_some,if_neg (by rw[ne];decide),rH ho]))
 refine codeAny_call_builtin SF.slot.plain SF.entry (@check_slot (model prog w) _ _ s "object.__setattr__" "object" "__setattr__" (.ref x) [.str name tk,v] [] _ SF.kind SF.split sub (SF.args (.ref x) (.str name tk) v) ?_)
 obtain⟨attr,ha,hr⟩:=Option.bind_eq_some_iff.mp ht
 have hm:Looks (model prog w) s.heap (mroOf (.ref C)) cd.mro:=(looks_clsIn X hc).andThen .now
 have L3:Looks (model prog w) s.heap (storeTaker? attr) r:=by
  cases attr with
  |none=>cases hr;exact .now
  |some a=>
   obtain⟨b,hb,rfl⟩:=Option.map_eq_some_iff.mp hr
   refine(looks_takesIn X hb).andThen ?_
   cases b<;>exact .now
 rw[osa_eq,refuse_eq]
 refine wpAny_bind (wpAny_bind (I.type.here (wpAny_bind (hm.here ?_))))
 rw[tK _ ho]
 refine wpAny_pure (wpAny_bind (I.type.here (wpAny_bind ((looks_findIn X ha).here (wpAny_bind (L3.here ?_))))))
 exact h _
end
end
section
variable {prog:Program}{w:World}{A:Around}{R:Result→Shared→Prop}{h:Heap}{g:Array GenState}{d:Drawn}{t:Nat}{os:OsState}
variable {nm q:Str}{C N:Addr}{bs bm E0:List Value}{jK:Bool}{sn:List Str}{sub:List Value}{ab:Bool}{col:Option Bool}{dd:Option Addr}{k0 k1 k2 k3 k5:Option Value}{B newId ik:String}
structure rI(B:String)(l:List Value):Prop where
 b:l.contains (.type B)=true
 base:l.contains (.type "BaseException")=true
 a:l.contains (.type "AttributeError")=false
 n:l.contains (.type "NameError")=false
theorem oy(F:ExcBaseFacts B newId ik E0)(T:rI B (Value.ref C::bm)){rest:List Value}{Q:Unit→Shared→Prop}{E:Value→Shared→Prop}{M:Model}(hC:h.get? C=some (excClassObj nm q C N bs bm jK sn sub ab col dd k0 k1 k2 k3 k5 newId))
  (hq:Q () ⟨h,g,d,t,os⟩):wpAny M A (checkBuiltinCall newId ⟨.ref C::rest,[]⟩) Q E ⟨h,g,d,t,os⟩:=by
 revert A h g d t os nm q C N bs bm E0 jK sn sub ab col dd k0 k1 k2 k3 k5 B newId ik rest Q E M
 apply aQ;intro
 generalize bT .. =A,bU .. =h,bV .. =g,bW .. =d,cj .. =t,ck .. =os,cm .. =nm,cp .. =q
 apply aI;intro
 generalize nx .. =C
 apply aQ;intro
 generalize bT .. =N,bU .. =bs,bV .. =bm,bW .. =E0,cj .. =jK,ck .. =sn,cm .. =sub,cp .. =ab
 apply aQ;intro
 generalize bT .. =col,bU .. =dd,bV .. =k0,bW .. =k1,cj .. =k2,ck .. =k3,cm .. =k5,cp .. =B
 apply aM;intro
 generalize bI .. =newId,bJ .. =ik
 intro F T
 apply aO;intro
 generalize bL .. =rest,bM .. =Q,bQ .. =E,bR .. =M
 intro hC hq
 have M5:=T.b
 have fA:=F.noStar
 simp only[checkBuiltinCall,F.newKind,F.newSplit,F.newRow]
 repeat (first|refine wpAny_loadPart_at hC ?_|(refine wpAny_isSubtype_exc hC ?_;rw[M5])|refine wpAny_staticBase_exc hC ?_|refine wpAny_madeBy_exc hC ?_|simp only[bne_self_eq_false,Bool.false_eq_true,if_false]|wp_step)
 exact hq
theorem DE(F:ExcBaseFacts B newId ik E0)(T:rI B (Value.ref C::bm)){rest:List Value}(hC:h.get? C=some (excClassObj nm q C N bs bm jK sn sub ab col dd k0 k1 k2 k3 k5 newId))
  (hq:R (.ok (.ret (.ref (h.objs.size+1)))) ⟨(h.push {cls:=.type "tuple",data:=.seq rest.toArray}).push
   {cls:=.ref C,data:=.fields #[.ref h.objs.size,.none,.none,.none,.bool false,.none]},g,d,t,os⟩) (rJ:rest.length≤sizeLine):
  codeAny (model prog w) A (.builtin newId ⟨.ref C::rest,[]⟩) R ⟨h,g,d,t,os⟩:=by
 have Vk:=F.ends
 have W4:=T.b
 have W5:=T.a
 have W6:=T.n
 refine PySem.codeAny_builtinAt F.entry ?_
 unfold Builtin.«BaseException.__new__»
 refine PySem.wpAt_bind ?_
 show PySem.wpAt _ _ _ (stack >>= _) _ _ _
 refine PySem.wpAt_bind (PySem.wpAt_stack fun p below=>PySem.wpAt_of_wpAny ?_)
 wp_walk
 refine PySem.wpAt_of_wpAny ?_
 rw[F.owner]
 repeat (first|with_reducible refine wpAny_madeHere_exc F.canon hC ?_|with_reducible refine wpAny_loadPart_at hC ?_|(with_reducible refine wpAny_isSubtype_exc hC ?_;first|rw[W4]|rw[W5]|rw[W6])|wp_step)
 show R _ _
 rw[Heap.size_push]
 exact hq
theorem oz{K:Frag}{f:Addr}{rest:List Value}{A':Around}(F:ExcBaseFacts B newId ik E0)(T:rI B (Value.ref C::bm))(X:K.In h)(hC:h.get? C=some (excClassObj nm q C N bs bm jK sn sub ab col dd k0 k1 k2 k3 k5 newId))
  (hi:findIn K (.ref C) "__init__"=some (some (.ref f))) (hf:typeIn K (.ref f)=some (.type "function")) (rJ:rest.length≤sizeLine)
  (hq:codeAny (model prog w) A' (.call (.ref f) ⟨.ref (h.objs.size+1)::rest,[]⟩) (InitBack (h.objs.size+1) R)
   ⟨(h.push {cls:=.type "tuple",data:=.seq rest.toArray}).push {cls:=.ref C,data:=.fields #[.ref h.objs.size,.none,.none,.none,.bool false,.none]},g,d,t,os⟩):
  wpAny (model prog w) A' (Builtin.«type.__call__» ⟨.ref C::rest,[]⟩) (fun fin s'=>match fin with
     |.done f=>R (.ok f) s'
     |.again c'=>c'.quiet=true∧codeAny (model prog w) A c' R s') (fun e s'=>R (.error e) s') ⟨h,g,d,t,os⟩:=by
 revert prog w A R h g d t os nm q C N bs bm E0 jK sn sub ab col dd k0 k1 k2 k3 k5 B newId ik K f rest A'
 apply aQ;intro
 generalize bT .. =prog,bU .. =w,bV .. =A,bW .. =R,cj .. =h,ck .. =g,cm .. =d,cp .. =t
 apply aM;intro
 generalize bI .. =os,bJ .. =nm
 apply aI;intro
 generalize nx .. =q
 apply aI;intro
 generalize nx .. =C
 apply aQ;intro
 generalize bT .. =N,bU .. =bs,bV .. =bm,bW .. =E0,cj .. =jK,ck .. =sn,cm .. =sub,cp .. =ab
 apply aQ;intro
 generalize bT .. =col,bU .. =dd,bV .. =k0,bW .. =k1,cj .. =k2,ck .. =k3,cm .. =k5,cp .. =B
 apply aO;intro
 generalize bL .. =newId,bM .. =ik,bQ .. =K,bR .. =f
 apply aM;intro
 generalize bI .. =rest,bJ .. =A'
 intro F T X hC hi hf rJ hq
 repeat (first|with_reducible refine wpAny_loadPart_at hC ?_|with_reducible refine wpAny_madeBy_exc hC ?_|wp_step)
 refine codeAny_call_builtin_code (Code.quiet_builtin _ F.quiet) (oy F T hC ?_)
 refine DE F T hC ?_ rJ
 show wpAny _ _ _ _ _ _
 have k:∀b o,h.get? b=some o→((h.push {cls:=.type "tuple",data:=.seq rest.toArray}).push {cls:=.ref C,data:=.fields #[.ref h.objs.size,.none,.none,.none,.bool false,.none]}).get? b=some o:=fun b o e=>Heap.get?_push_of_some _ (Heap.get?_push_of_some _ e)
 have M6:=Heap.get?_push_of_some {cls:=.ref C,data:=.fields #[.ref h.objs.size,.none,.none,.none,.bool false,.none]}
  (Heap.get?_push_of_some {cls:=.type "tuple",data:=.seq rest.toArray} hC)
 have GN:((h.push {cls:=.type "tuple",data:=.seq rest.toArray}).push
   {cls:=.ref C,data:=.fields #[.ref h.objs.size,.none,.none,.none,.bool false,.none]}).get? (h.objs.size+1)=some
   {cls:=.ref C,data:=.fields #[.ref h.objs.size,.none,.none,.none,.bool false,.none]}:=by heap_get
 have W7:(Value.ref C::bm).contains (.ref C)=true:=by simp
 unfold isInstance
 repeat (first|with_reducible refine wpAny_loadPart_at GN ?_|(with_reducible refine wpAny_isSubtype_exc M6 ?_;rw[W7])|wp_step)
 show wpAny _ _ (typeLookup (.ref C) _) _ _ _
 refine(looks_findIn (X.keeps k) hi).here (s:=⟨_,g,d,t,os⟩) ?_
 refine wpAny_holding (wpAny_bind ((bind_fn (X.keeps k) _ hf).here (s:=⟨_,g,d,t,os⟩) ?_))
 refine wpAny_bind (wpAny_call (codeAny_mono hq fun r s' z=> ?_))
 rcases r with e|(v|_|_|_)<;>first|exact z|exact z.elim|skip
 obtain⟨rfl,z⟩:=z
 exact wpAny_pure (wpAny_pure z)
theorem Ay{K:Frag}{f:Addr}{rest:List Value}(F:ExcBaseFacts B newId ik E0)(T:rI B (Value.ref C::bm))(X:K.In h)(hC:h.get? C=some (excClassObj nm q C N bs bm jK sn sub ab col dd k0 k1 k2 k3 k5 newId))
  (hi:findIn K (.ref C) "__init__"=some (some (.ref f))) (hf:typeIn K (.ref f)=some (.type "function")) (rJ:rest.length≤sizeLine)
  (hq:codeAny (model prog w) (A.under (.builtin "type.__call__" ⟨.ref C::rest,[]⟩)) (.call (.ref f) ⟨.ref (h.objs.size+1)::rest,[]⟩) (InitBack (h.objs.size+1) R)
   ⟨(h.push {cls:=.type "tuple",data:=.seq rest.toArray}).push {cls:=.ref C,data:=.fields #[.ref h.objs.size,.none,.none,.none,.bool false,.none]},g,d,t,os⟩):
  codeAny (model prog w) A (.call (.ref C) ⟨rest,[]⟩) R ⟨h,g,d,t,os⟩:=by
 have f1:=tc_lookup
 have f2:=tc_bind (.ref C)
 have hT:(⟨h,g,d,t,os⟩:Shared).TypeIs (.ref C) "type":=⟨_,hC,rfl⟩
 refine codeAny_of_tree ?_
 show wpAny _ _ (callAny (.ref C) _) _ _ _
 repeat (any_goals (first|assumption|with_reducible refine wpAny_loadPart_at hC ?_|wp_step))
 refine⟨rfl,?_⟩
 exact codeAny_call_builtin_at (Code.quiet_builtin _ (by decide+kernel)) entry_typeCall (wpAny_check_type_call_sub hC (oz F T X hC hi hf rJ hq))
theorem tL{env:Env}{x:Sem Value}{E:Value→Shared→Prop}{s:Shared}{Q:Flow→Shared→Prop}(M7:(Value.ref C::bm).contains (.type "BaseException")=true)(hh:A.handled=none)
  (hx:wpAny (model prog w) A x (fun v bc=>∃e dx vs,v=.ref e∧bc.heap.get? C=some (excClassObj nm q C N bs bm jK sn sub ab col dd k0 k1 k2 k3 k5 newId)∧
   bc.heap.get? e=some {cls:=.ref C,dict:=dx,data:=.fields vs}∧vs[1]? =some .none∧E (.ref e) bc) E s):
  wpAny (model prog w) A (raiseStmt env (some x) none) Q E s:=by
 unfold raiseStmt
 refine wpAny_bind (wpAny_mono hx (fun v bc h₁=> ?_) fun _ _ x=>x)
 obtain⟨e,dx,vs,rfl,hC,he,h1,hE⟩:=h₁
 obtain⟨hp,g,d,tk,os⟩:=bc
 repeat (first|with_reducible refine wpAny_loadPart_at he ?_|with_reducible refine wpAny_loadPart_at hC ?_|(with_reducible refine wpAny_isSubtype_exc hC ?_;rw[M7])|wp_step)
 rw[h1]
 refine wpAny_pure ?_
 rw[if_neg (by decide)]
 exact wpAny_pure (wpAny_raiseNew_none hh hE)
end
structure tM(X:Cx)(C f:Addr)(fd:FuncData):Prop where
 obj:∃o,X.K.lookup f=some o∧o.data=.func fd
 code:∀h,X.K.In h→h.CodeRec fd.code fd.qualname
 stmts:∃p1 p2 p3 p4,fd.body=.stmts [.Assign [.Attribute (.Name "self" p1) "reason" p2] (.Name "reason" p3) p4]
 kind:fd.scope.kind=.function
 co:fd.scope.isCoroutine=false
 gen:fd.scope.isGenerator=false
 RC:fd.closure=[]
 globals:fd.globals=mainGlobals
 builtins:fd.builtins=builtinsNs
 pY:fd.params.posonlyargs=[]
 tJ:fd.params.kwonlyargs=[]
 vararg:fd.params.vararg=none
 kwarg:fd.params.kwarg=none
 args:fd.params.args.map (·.arg)=[("self":Str),("reason":Str)]
 dflt:∃ds:List Value,ds.length≤2∧((∃T o n,fd.defaults=.ref T∧X.K.lookup T=some o∧o.data=.seq ds.toArray n)∨(fd.defaults=.none∧ds=[]))
 k1:fd.scope.names.lookup ("self":Str)=some NameKind.local
 k2:fd.scope.names.lookup ("reason":Str)=some NameKind.local
 setattr:findIn X.K (.ref C) "__setattr__"=some (some (.builtin "object.__setattr__"))
 over:lT X.K C=true
 M8:takerIn X.K C "reason"=some none
 zP:hasDictIn X.K C=true
section
variable {X:Cx}{A:Around}{s:Shared}{R:Result→Shared→Prop}
theorem Az{E:Value→Shared→Prop}{C e:Addr}{vs:Array Value}{name:Str}{v:Value}{Q:Unit→Shared→Prop}(KI:X.K.In s.heap)(he:s.heap.get? e=some {cls:=.ref C,data:=.fields vs})(hs:findIn X.K (.ref C) "__setattr__"=some (some (.builtin "object.__setattr__")))
  (ho:lT X.K C=true) (ht:takerIn X.K C name=some none) (hd:hasDictIn X.K C=true)
  (q:∀h' tk d,(∀b o,s.heap.get? b=some o→b≠e→h'.get? b=some o)→h'.get? e=some {cls:=.ref C,dict:=some d,data:=.fields vs}→Q () {s with heap:=h',toks:=tk}):
  wpAny X.M A (setAttr (.ref e) name v) Q E s:=by
 revert X A s E C e vs name v Q
 apply aO;intro
 generalize bL .. =X,bM .. =A,bQ .. =s,bR .. =E
 apply aI;intro
 generalize nx .. =C
 apply aO;intro
 generalize bL .. =e,bM .. =vs,bQ .. =name,bR .. =v
 apply aI;intro
 generalize nx .. =Q
 intro KI he hs ho ht hd q
 have I:InstAt s.heap e {cls:=.ref C,data:=.fields vs} C none:=⟨he,rfl,rfl,trivial⟩
 refine set_plain KI I hs (DD (s:={s with toks:=s.toks+1}) KI I ho ht fun b'=> ?_)
 obtain⟨cd,hc,Rw⟩:=any_some (show(clsIn X.K C).any (·.hasDict)=true from hd)
 obtain⟨h,g,dr,t,os⟩:=s
 dsimp only at KI he q ⊢
 refine wpAny_bind (wpAny_pure (wpAny_bind (wpAny_bind (wpAny_loadPart (s:=⟨h,g,dr,t+1,os⟩) he (wpAny_bind ((looks_clsIn KI hc).here (s:=⟨h,g,dr,t+1,os⟩) ?_))))))
 rw[Rw]
 show wpAny _ _ (alloc emptyDict >>= fun dx=>update e (fun o=>{o with dict:=some dx}) >>= fun _=>pure (some dx)) _ _ _
 refine wpAny_bind (wpAny_alloc (wpAny_bind (wpAny_update (Heap.get?_push_of_some _ he) (wpAny_pure ?_))))
 have W8:(h.push emptyDict).get? h.objs.size=some emptyDict:=Heap.get?_push_size _ rfl
 have j8:e≠h.objs.size:=Nat.ne_of_lt (Heap.lt_size he)
 have W9:((h.push emptyDict).update e fun o=>{o with dict:=some h.objs.size}).get? e=some {cls:=.ref C,dict:=some h.objs.size,data:=.fields vs}:=Heap.get?_update_self _ (Heap.get?_push_of_some _ he) rfl
 have Mu:∀b o,h.get? b=some o→b≠e→((h.push emptyDict).update e fun o=>{o with dict:=some h.objs.size}).get? b=some o:=fun b o eb n=>(Heap.get?_update_other _ _ (fun z=>n z.symm)).trans (Heap.get?_push_of_some _ eb)
 have hd2:((h.push emptyDict).update e fun o=>{o with dict:=some h.objs.size}).get? h.objs.size=some emptyDict:=(Heap.get?_update_other _ _ j8).trans W8
 have N:Iq ((h.push emptyDict).update e fun o=>{o with dict:=some h.objs.size}) h.objs.size (fun _=>none) 0:=⟨emptyDict,#[],0,hd2,rfl,fun e he=>absurd he (by simp),fun _=>rfl,Nat.le_refl _⟩
 refine wpAny_bind (wpAny_pure (wpAny_bind (jE (s:=⟨_,g,dr,t+1,os⟩) N fun h3 hn Qf=> ?_)))
 have Qf:Heap.SameBut h.objs.size ((h.push emptyDict).update e fun o=>{o with dict:=some h.objs.size}) h3:=Qf
 obtain⟨o',Rf,Rg,g2,d2,WQ,f2,z2⟩:=id hn
 refine wpAny_bind (wpAny_lookBehind g2 (by rw[d2];exact pastItsLine_dict (by rw[sizeLine_eq];exact Nat.le_trans z2 (by simp))) (wpAny_pure ?_))
 exact q h3 _ h.objs.size (fun b o eb n=>(Qf.2 b (Nat.ne_of_lt (Heap.lt_size eb))).trans (Mu b o eb n)) ((Qf.2 e j8).trans W9)
theorem AA(ok:X.ok){C f e:Addr}{fd:FuncData}{vs:Array Value}{u:Value}(F:tM X C f fd)(KI:X.K.In s.heap)(M9:∀a o,X.h₀.get? a=some o→s.heap.get? a=some o)(vm:A.depth<recursionLimit)(he:s.heap.get? e=some {cls:=.ref C,data:=.fields vs})
  (q:∀h' tk d,(∀b o,s.heap.get? b=some o→b≠e→h'.get? b=some o)→h'.get? e=some {cls:=.ref C,dict:=some d,data:=.fields vs}→R (.ok (.ret .none)) {s with heap:=h',toks:=tk}):
  codeAny X.M A (.call (.ref f) ⟨[.ref e,u],[]⟩) R s:=by
 revert X A s R C f e fd vs u
 apply aO;intro
 generalize bL .. =X,bM .. =A,bQ .. =s,bR .. =R
 intro ok
 apply aI;intro
 generalize nx .. =C
 apply aO;intro
 generalize bL .. =f,bM .. =e,bQ .. =fd,bR .. =vs
 apply aI;intro
 generalize nx .. =u
 intro F KI M9 vm he q
 obtain⟨o,ho,hd⟩:=F.obj
 obtain⟨ds,RK,GJ⟩:=F.dflt
 obtain⟨p1,p2,p3,p4,Av⟩:=F.stmts
 have hb:BindsTo s fd ⟨[.ref e,u],[]⟩ ([("self":Str),("reason":Str)].zip ([.ref e,u]++ds.drop (2+ds.length - 2))):=by
  obtain⟨T,oT,nT,EX⟩:=kW KI GJ
  exact kT F.pY F.tJ F.vararg F.kwarg F.args (by decide) EX (Nat.le_refl _) (Nat.le_add_right _ _) RK
 have hz:ds.drop (2+ds.length - 2)=[]:=by rw[List.drop_eq_nil_iff];lia
 rw[hz] at hb
 refine vj vm (KI _ _ ho) hd ((X.T ok).nolimit.keeps M9) (F.code _ KI) Av hb F.RC (fun x hx=> ?_) (fun bc x=> ?_) F.co F.gen F.kind
 ·have hx:x∈[(("self":Str),Value.ref e),(("reason":Str),u)]:=hx
  rcases List.mem_cons.mp hx with rfl|hx
  ·exact .inl F.k1
  ·rw[List.mem_singleton.mp hx];exact .inl F.k2
 generalize RL:callEnvC fd s.heap.objs.size f=env at x ⊢
 have eN:env.scope=fd.scope:=by rw[←RL];rfl
 have ko:∀y,env.kindOf y=fd.scope.names.lookup y:=fun y=>by unfold Env.kindOf;rw[eN]
 have kd:env.scope.kind=.function:=by rw[eN];exact F.kind
 have m1:(bindL env.kindOf ([("self":Str),("reason":Str)].zip [.ref e,u]) fun _=>none) ("self":Str)=some (.ref e):=mW (i:=0) ((ko _).trans F.k1) (by decide) rfl rfl
 have m2:(bindL env.kindOf ([("self":Str),("reason":Str)].zip [.ref e,u]) fun _=>none) ("reason":Str)=some u:=mW (i:=1) ((ko _).trans F.k2) (by decide) rfl rfl
 obtain⟨h1,tk,rfl⟩:=x.toInCall.same
 have gu:=x.toInCall.keep
 refine wpAny_execs_cons (plainObj_wpAny_Assign_Attribute ?_ (by rfl))
 refine wpAny_Name (wpAny_loadName_local kd ((ko _).trans F.k2) x.toInCall.ns m2 ?_) (by decide)
 refine wpAny_Name (wpAny_loadName_local kd ((ko _).trans F.k1) x.toInCall.ns m1 ?_) (by decide)
 refine Az (KI.keeps gu) (gu _ _ he) F.setattr F.over F.M8 F.zP fun h' Xa d hk hg=>wpAny_execs_nil ?_
 exact q h' Xa d (fun b o eb n=>hk b o (gu _ _ eb) n) hg
end
structure ej(X:Cx):Prop where
 obj:∃nm q N bs bm jK sn sub ab col dd k0 k1 k2 k3 k5,X.K.lookup X.bad=some (excClassObj nm q X.bad N bs bm jK sn sub ab col dd k0 k1 k2 k3 k5 "ValueError.__new__")∧rI "ValueError" (Value.ref X.bad::bm)
 init:∃f fd,findIn X.K (.ref X.bad) "__init__"=some (some (.ref f))∧typeIn X.K (.ref f)=some (.type "function")∧tM X X.bad f fd
 keep:keepIn X.K (.ref X.bad)=true
section
variable {X:Cx}{P:ef}{n:Nat}{env:Env}{ν ν':Nu}{C:Ct X n env ν}{m m' m₁ m₂:Str→Option Value}{loc aN jc:Loc}{σ:Pt}{A:Around}{s:Shared}{W cA fy W':Wd}{H H':aa}{h h₁ d9 h' g base:Heap}{L c D I e:Addr}{l:List Env}{E:Value→Shared→Prop}
theorem xU(fr:j5 W h l){as:List Addr}(DB:∀a∈Fs l,a∈as){l':List Env}:(∀en∈l',en∈l)→h.FunFrames (hideAll h as) l':=by
 induction l' with
 |nil=>
  intro _
  exact trivial
 |cons en r ih=>
  intro hs
  obtain⟨hk,L',o',g1,_,_,g4,g5⟩:=fr en (hs en (.head _))
  exact⟨hk,⟨L',o',g1,hideAll_none _ (DB _ (List.mem_filterMap.mpr ⟨en,hs en (.head _),g1⟩)),g4,g5⟩,ih fun x hx=>hs x (.tail _ hx)⟩
theorem xV{e:Addr}{dx:Option Addr}{vs:Array Value}{a0:Value}(st:St X l W H L m s)(hk:∀a o,s.heap.get? a=some o→h'.get? a=some o)(d:s.heap.get? e=none)(he:h'.get? e=some {cls:=.ref X.bad,dict:=dx,data:=.fields vs})(h1:vs[1]? =some .none)(h0:vs[0]? =some a0):
  Flew X l L W s.heap .made H e W (hideAll s.heap (Fs l)) h':=by
 have RM:∀a∈Fs l,¬Own W a∧W.B a=none:=fun a ha=>by
  obtain⟨en,he,hf⟩:=List.mem_filterMap.mp ha
  obtain⟨_,L',o',g1,g2,g3,_,_⟩:=st.fr en he
  rw[hf] at g1;cases g1
  exact⟨g3,g2⟩
 refine⟨.refl W _,st.R.u9 (fp:=Fs l) RM fun a o ea n=>hideAll_get _ ea n,?_,fun a o ea _ _ n=>hideAll_get _ ea n,fun a o ea _ _=>⟨o.slots,hk a o ea⟩⟩
 intro env outer hl A Q E s' hs Xb hq
 subst hs
 have FF:s'.heap.FunFrames (hideAll s.heap (Fs l)) l:=(xU st.fr (fun a ha=>ha) fun en he=>he).of_keeps fun b o eb _=>⟨o,hk b o eb,rfl⟩
 subst hl
 have Xc:=FF
 obtain⟨_,⟨L',o',hf,_⟩,_⟩:=Xc
 refine wpAny_leaving_firstW (base:=hideAll s.heap (Fs (env::outer))) Xb FF hf he (fun b o eb=>hk b o (of_hideAll _ eb)) ?_ rfl h1 h0 fun Mp hL=> ?_
 ·cases z:(hideAll s.heap (Fs (env::outer))).get? e with
  |none=>rfl
  |some o=>rw[of_hideAll _ z] at d;cases d
 ·obtain⟨k1,⟨_,_,k2⟩,k3,k4⟩:=hL
  refine hq Mp a0 ⟨k1,?_,k2,k3⟩ k4
  cases z:(hideAll s.heap (Fs (env::outer))).get? e with
  |none=>rfl
  |some o=>rw[of_hideAll _ z] at d;cases d
theorem DF(ok:X.ok){R:Result→Shared→Prop}{u:Value}(RO:ej X)(KI:X.K.In s.heap)(M9:∀a o,X.h₀.get? a=some o→s.heap.get? a=some o)(Na:(A.under (.builtin "type.__call__" ⟨[.ref X.bad,u],[]⟩)).depth<recursionLimit)
  (q:∀h3 tk e dx vs a0,(∀b o,s.heap.get? b=some o→h3.get? b=some o)→s.heap.get? e=none→h3.get? e=some {cls:=.ref X.bad,dict:=dx,data:=.fields vs}→vs[1]? =some .none→vs[0]? =some a0→R (.ok (.ret (.ref e))) {s with heap:=h3,toks:=tk}):
  codeAny X.M A (.call (.ref X.bad) ⟨[u],[]⟩) R s:=by
 revert X A s R u
 apply aM;intro
 generalize bI .. =X,bJ .. =A
 apply aI;intro
 generalize nx .. =s
 intro ok
 apply aM;intro
 generalize bI .. =R,bJ .. =u
 intro RO KI M9 Na q
 obtain⟨nm,qn,N,bs,bm,jK,sn,sub,ab,col,dd,k0,k1,k2,k3,k5,hC,T⟩:=RO.obj
 obtain⟨f,fd,hi,hf,IO⟩:=RO.init
 obtain⟨h,gg,dr,t,os⟩:=s
 refine Ay PySem.F.excBase_ValueError T KI (KI _ _ hC) hi hf (by rw[sizeLine_eq];show 1≤16777216;decide) ?_
 have AB:=fz h {cls:=.type "tuple",data:=.seq [u].toArray} {cls:=.ref X.bad,data:=.fields #[.ref h.objs.size,.none,.none,.none,.bool false,.none]}
 have GN:=jy h {cls:=.type "tuple",data:=.seq [u].toArray} {cls:=.ref X.bad,data:=.fields #[.ref h.objs.size,.none,.none,.none,.bool false,.none]} rfl
 have dead:h.get? (h.objs.size+1)=none:=d5 h 1
 exact AA ok IO (KI.keeps AB) (fun a o ea=>AB _ _ (M9 a o ea)) Na GN fun h3 tk d Xd Xe=>⟨rfl,q h3 tk _ _ _ _ (fun b o eb=>Xd b o (AB _ _ eb) (fun z=>by rw[z,dead] at eb;cases eb)) dead Xe rfl rfl⟩
theorem xW{x:Sem Value}{Q:Flow→Shared→Prop}(RO:ej X)(hh:A.handled=none)
  (hx:wpAny X.M A x (fun v bc=>X.K.In bc.heap∧∃e dx vs,v=.ref e∧bc.heap.get? e=some {cls:=.ref X.bad,dict:=dx,data:=.fields vs}∧vs[1]? =some .none∧E (.ref e) bc) E s):wpAny X.M A (raiseStmt env (some x) none) Q E s:=by
 revert X env A s E x Q
 apply aO;intro
 generalize bL .. =X,bM .. =env,bQ .. =A,bR .. =s
 apply aM;intro
 generalize bI .. =E,bJ .. =x
 apply aI;intro
 generalize nx .. =Q
 intro RO hh hx
 obtain⟨nm,qn,N,bs,bm,jK,sn,sub,ab,col,dd,k0,k1,k2,k3,k5,hC,T⟩:=RO.obj
 exact tL T.base hh (wpAny_mono hx (fun v bc z=>z.2.imp fun e y=>y.imp fun dx y=>y.imp fun vs y=>⟨y.1,z.1 _ _ hC,y.2⟩) fun _ _ z=>z)
theorem tN{x a:Str}{k:Nat}(np p mY pos:Pos)(RO:ej X)(ev:EnvOk env)(hx:env.kindOf x=some .globalImplicit)(hd:(x == ("__debug__":Str))=false)(en:nsIn X.K mainGlobals x=some (some (.ref X.bad))):
  dN X P n env ν (.Raise (some (.Call (.Name x np) [.Constant (.str a) k p] [] mY)) none pos) .raise:=by
 revert X P n env ν x a k np p mY pos
 apply aQ;intro
 generalize bT .. =X,bU .. =P,bV .. =n,bW .. =env,cj .. =ν,ck .. =x,cm .. =a,cp .. =k
 apply aO;intro
 generalize bL .. =np,bM .. =p,bQ .. =mY,bR .. =pos
 intro RO ev hx hd en
 apply aI;intro
 generalize nx .. =C
 apply aO;intro
 generalize bL .. =m,bM .. =loc,bQ .. =σ,bR .. =Q
 apply aI;intro
 generalize nx .. =Φ
 intro tp hr hE K
 rw[arm_exec_Raise]
 refine wpAny_bind (wpAny_standAt (xW RO (C.ak hr.ok).handled (wpAny_bind (wpAny_Call_Name_kw (nameG_K hr.st.F (X.X hr.rel.ok) (X.T hr.rel.ok) en ?_ ev.globals ev.kind hx hd)))))
 show wpAny X.M C.A (callWith mY (.ref X.bad) [] (backTo mY (starEach [.Constant (.str a) k p] env)) []) _ _ σ.s
 refine callWith_of (P:=X.K.In) (by rfl) (keeps_K RO.keep) ?_
 have iN:starEach [.Constant (.str a) k p] env=[(false,eval (.Constant (.str a) k p) env)]:=rfl
 rw[iN]
 refine evalArgs_plain (wpAny_items_cons (wpAny_Constant_str (wpAny_items_nil ⟨hr.rel.yT,wpAny_call (DF hr.rel.ok RO hr.rel.yT hr.rel.keep ?_ fun h3 tk e dx vs a0 hk dead hg h1 h0=>wpAny_bind (wpAny_standAt (wpAny_pure ⟨hr.rel.yT.keeps hk,e,dx,vs,rfl,hg,h1,?_⟩)))⟩)) iN)
 ·have h2:=((C.ak hr.ok).make X.bad [.str a σ.s.toks] []).depth
  show _<1000
  have h2:(C.A.under (.builtin "type.__call__" ⟨[.ref X.bad,.str a σ.s.toks],[]⟩)).depth+4 * n+1≤900:=h2
  exact uT h2 rfl
 ·exact Ct.raise hr (xV hr.st hk dead hg h1 h0) (Fr.eG hr.st.F hk) ⟨rfl,rfl,rfl⟩ hE
theorem Flew.landed{k:XK}{tk:Nat}(x:Flew X l L W s.heap k H' e W' base h₁)(st:St X l W H L m s)(F:Fr X.h₀ L h₁ m')(sm:h₁.UpToSlots d9)(stays:base.StaysIn d9):
  Step l L W s.heap W' d9∧St X l W' H' L m' {s with heap:=d9,toks:=tk}:=by
 have F2:Fr X.h₀ L d9 m':=⟨sm.ns F.ns,fun b o eb=>stays b o (x.R.keep b o eb),F.above⟩
 have slots:∀a o,s.heap.get? a=some o→a≠L→a∈Fs l→∃sl,d9.get? a=some {o with slots:=sl}:=fun a o ea n1 n2=>by
  obtain⟨sl,e1⟩:=x.slots a o ea n1 n2
  obtain⟨en,he,hf⟩:=List.mem_filterMap.mp n2
  obtain⟨_,L',o',g1,_,_,g4,g5⟩:=st.fr en he
  rw[hf] at g1;cases g1
  rw[ea] at g4;cases g4
  obtain⟨xc,e2⟩:=sm a _ e1 g5
  exact⟨xc,e2⟩
 have keep:∀a o,s.heap.get? a=some o→¬Own W a→a≠L→a∉Fs l→d9.get? a=some o:=fun a o ea n1 n2 n3=>stays a o (x.keep a o ea n1 n2 n3)
 have S:Step l L W s.heap W' ({s with heap:=d9,toks:=tk}:Shared).heap:=by
  refine⟨x.toExt,keep,slots,fun a o ea=> ?_⟩
  by_cases q1:a=L
  ·rw[q1];exact Fr.live F2
  by_cases q2:a∈Fs l
  ·obtain⟨sl,e1⟩:=slots a o ea q1 q2;exact⟨_,e1⟩
  by_cases q3:Own W a
  ·obtain⟨o',e'⟩:=x.R.fe (q3.mono x.toExt)
   exact⟨o',stays a o' e'⟩
  ·exact⟨o,keep a o ea q3 q1 q2⟩
 exact⟨S,st.next (s':={s with heap:=d9,toks:=tk}) S F2 (x.R.kept fun a o ea=>stays a o ea)⟩
theorem xX{s bc:Shared}(q:hF s bc)(h:Heap):({bc with heap:=h}:Shared)={s with heap:=h,toks:=bc.toks}:=by
 obtain⟨q1,q2,q3⟩:=q
 obtain⟨_,_,_,_,_⟩:=bc
 dsimp only at q1 q2 q3
 subst q1 q2 q3
 rfl
theorem rK{h5:Heap}{e:Addr}{ob:Obj}{R:Bool→Shared→Prop}(RO:ej X)(KI:X.K.In h5)(Qg:h5.get? e=some ob)(hc:ob.cls=.ref X.bad)(q:R true {s with heap:=h5}):wpAny X.M A (excMatches (.ref e) (.ref X.bad)) R E {s with heap:=h5}:=by
 revert X A s E h5 e ob R
 apply aQ;intro
 generalize bT .. =X,bU .. =A,bV .. =s,bW .. =E,cj .. =h5,ck .. =e,cm .. =ob,cp .. =R
 intro RO KI Qg hc q
 obtain⟨nm,qn,N,bs,bm,jK,sn,sub,ab,col,dd,k0,k1,k2,k3,k5,hC,T⟩:=RO.obj
 refine wpAny_excMatches_sub_self (KI _ _ hC) Qg hc ?_ q
 have:=T.base
 rw[List.contains_cons] at this
 simpa using this
theorem AD{b:List Stmt}{ib:cx}{x y c:Str}{i k:Nat}(p1 p2 p3 p4 p5 pos:Pos)(RO:ej X)(ev:EnvOk env)(inj:fS ν)(hx:env.kindOf x=some .globalImplicit)(hd:(x == ("__debug__":Str))=false)(en:nsIn X.K mainGlobals x=some (some (.ref X.bad)))
  (hy:env.kindOf y=some .local) (hi:ν.lookup y=some i) (hb:fM X P n env ν b ib):
  dN X P n env ν (.Try b [.ExceptHandler (some (.Name x p1)) none [.Assign [.Name y p2] (.Constant (.str c) k p3) p4] p5] [] [] pos) (.try ib i (.str c)):=by
 revert X P n env ν b ib x y c i k p1 p2 p3 p4 p5 pos
 apply aQ;intro
 generalize bT .. =X,bU .. =P,bV .. =n,bW .. =env,cj .. =ν,ck .. =b,cm .. =ib,cp .. =x
 apply aQ;intro
 generalize bT .. =y,bU .. =c,bV .. =i,bW .. =k,cj .. =p1,ck .. =p2,cm .. =p3,cp .. =p4
 apply aM;intro
 generalize bI .. =p5,bJ .. =pos
 intro RO ev inj hx hd en hy hi hb
 apply aI;intro
 generalize nx .. =C
 apply aO;intro
 generalize bL .. =m,bM .. =loc,bQ .. =σ,bR .. =Q
 apply aI;intro
 generalize nx .. =Φ
 intro tp hr h K
 refine wpAny_Try_except (hb ⟨C.A,C.l,σ,Mn i (.str c) Q,_,True,fun _=>C.ak hr.ok,fun _=>hr.st.fr,fun _ kx m' eQ H' ex W' base bc fl Fm Vj q h=> ?_⟩ m loc σ _ _ ⟨tp.top,tp.frame⟩ ⟨hr.st,hr.lr,.refl σ,trivial⟩ h fun fl f ae m₁ aN au ay fr q=> ?_)
 ·cases kx with
  |made=>exact h.elim
  |held=>exact h.elim
  |flying=>
   obtain⟨sL,h⟩:=putL.el h
   obtain⟨outer,ho⟩:=tp.top
   obtain⟨a0,tI⟩:=fl.j7
   have hA:=(C.ak hr.ok).frames
   rw[ho] at hA tI
   refine wpAny_looks_onW hA tp.frame tI fun h4 Xf Xg=> ?_
   refine wpAny_landsW Xf fun h5 RN Xh=> ?_
   have Nb:=Xg.trans Xh
   have F5:Fr X.h₀ env.locals h5 m':=⟨Nb.ns Fm.ns,fun b o eb=>RN.1 b o (fl.R.keep b o eb),Fm.above⟩
   have Xi:X.K.In h5:=(X.X hr.rel.ok).keeps F5.keep
   obtain⟨ob,Qg,RQ⟩:=RN.there
   refine wpAny_handleBy_cons (codeAny_handlers_test (nameG_K (s:={bc with heap:=h5}) F5 (X.X hr.rel.ok) (X.T hr.rel.ok) en ?_ ev.globals ev.kind hx hd)) (by intro q;cases q)
   refine rK RO Xi Qg RQ (codeAny_handlers_suite ?_)
   refine lands_againW RN fun h6 Qc Qd=> ?_
   obtain⟨S6,Xj⟩:=fl.landed (tk:=bc.toks) hr.st Fm (Nb.trans Qd) Qc.1
   show wpAny X.M _ _ _ _ ({bc with heap:=h6}:Shared)
   rw[xX q]
   have x:Le C.l env.locals σ ⟨{σ.s with heap:=h6,toks:=bc.toks},W',H'⟩:=⟨S6,rfl,rfl,rfl⟩
   have Xk:Here C m' eQ ⟨{σ.s with heap:=h6,toks:=bc.toks},W',H'⟩:=⟨Xj,Vj,hr.le.trans x,hr.ok⟩
   have z:=Xk.toks (tk:=bc.toks+1)
   refine wpAny_execs_cons (wpAny_Assign_Name (wpAny_Constant_str ?_) (by rfl))
   exact eI (σ:=⟨{σ.s with heap:=h6,toks:=bc.toks+1},W',H'⟩) inj ev.kind z.1 hy hi (.str c _) sL fun m6 s6 Xl Xm=>wpAny_execs_nil (iT K Xl ((x.trans z.2).trans Xm) h)
 ·cases fr with
  |next=>exact wpAny_execs_nil (iT K ⟨au.st,au.lr,hr.le.trans ay,hr.ok⟩ ay q)
  |cont=>exact q.elim
  |ret _=>exact q.elim
end
inductive GV where
 |const (v:PV)|fn (f:Nat)|cls (c:Nat)|bi|bad
structure TE where
 tab:List Str
 sc:List (Str×NameKind)
 ν:Nu
 glob:List (Str×GV)
instance:Nonempty GV:=⟨.bi⟩
instance:Nonempty TE:=⟨⟨[],[],[],[]⟩⟩
noncomputable def idxOf(x:Str):List Str→Nat→Option Nat
 |[],_=>none
 |y::r,k=>if x == y then some k else idxOf x r (k+1)
noncomputable def TE.nm(T:TE)(x:Str):Option Nat:=idxOf x T.tab 0
noncomputable def TE.g(T:TE)(x:Str):Option GV:=if T.sc.lookup x == some .globalImplicit then T.glob.lookup x else none
noncomputable def RR:Option GV→Bool
 |some .bi=>true
 |_=>false
noncomputable def TE.b(T:TE)(x:Str)(s:Str):Bool:=x == s && RR (T.g x)
noncomputable def Xn:Option GV→Option IE
 |some (.const v)=>some (.const v)
 |_=>none
noncomputable def AE(T:TE)(x:Str):Option IE:=
 (T.sc.lookup x).bind fun k=>bif k == .globalImplicit then Xn (T.glob.lookup x) else bif k == .globalExplicit then none else(T.ν.lookup x).map .var
noncomputable def AF:List (Str×BF):=[("abs",.abs),("min",.min),("max",.max),("len",.len),("list",.list),("tuple",.tuple),("sum",.sum),("sorted",.sorted),("int",.int),("bytes",.bytes)]
noncomputable def fB(names sc:List (Str×NameKind)):List (Str×NameKind):=
 names.map fun(n,k)=>if k == .free && sc.lookup n == some .cell then(n,.cell) else(n,k)
noncomputable def TE.inner(T:TE)(scope:Scope)(ct:List (Str×Nat)):TE:=
 {T with sc:=fB scope.names T.sc,ν:=ct++T.ν.filter fun p=>scope.names.lookup p.1 == some .free}
noncomputable def o2{α β γ:Type}(f:α→β→γ)(a:Option α)(b:Option β):Option γ:=a.bind fun x=>b.map (f x)
noncomputable def o3{α β γ δ:Type}(f:α→β→γ→δ)(a:Option α)(b:Option β)(c:Option γ):Option δ:=a.bind fun x=>o2 (f x) b c
noncomputable def gd{α:Type}(b:Bool)(x:Option α):Option α:=bif b then x else none
theorem fN{α β γ:Type}{f:α→β→γ}{a:Option α}{b:Option β}{r:γ}(h:o2 f a b=some r):∃x y,a=some x∧b=some y∧f x y=r:=by
 cases a<;>cases b<;>cases h
 exact⟨_,_,rfl,rfl,rfl⟩
theorem DG{α β γ δ:Type}{f:α→β→γ→δ}{a:Option α}{b:Option β}{c:Option γ}{r:δ}(h:o3 f a b c=some r):∃x y z,a=some x∧b=some y∧c=some z∧f x y z=r:=by
 cases a<;>cases b<;>cases c<;>cases h
 exact⟨_,_,_,rfl,rfl,rfl,rfl⟩
theorem dh{α:Type}{b:Bool}{x:Option α}{r:α}(h:gd b x=some r):b=true∧x=some r:=by
 cases b
 ·cases h
 ·exact⟨rfl,h⟩
theorem eJ{α:Type}{b:Bool}{x y:Option α}{r:α}(h:(bif b then x else y)=some r):b=true∧x=some r∨b=false∧y=some r:=by
 cases b
 ·exact .inr ⟨rfl,h⟩
 ·exact .inl ⟨rfl,h⟩
theorem map_some{α β:Type}{f:α→β}{a:Option α}{r:β}(h:a.map f=some r):∃x,a=some x∧f x=r:=Option.map_eq_some_iff.mp h
theorem bind_some{α β:Type}{f:α→Option β}{a:Option α}{r:β}(h:a.bind f=some r):∃x,a=some x∧f x=some r:=Option.bind_eq_some_iff.mp h
theorem no{α:Type}{r:α}{C:Prop}(h:none=some r):C:=nomatch h
theorem er{α:Type}{P:α→Prop}{a r:α}(h:some a=some r)(p:P a):P r:=Option.some.inj h▸p
theorem iU{α β γ:Type}{f:α→β→γ}{a:Option α}{b:Option β}{r:γ}{P:γ→Prop}(h:o2 f a b=some r)(H:∀x y,a=some x→b=some y→P (f x y)):P r:=by
 obtain⟨x,y,h1,h2,rfl⟩:=fN h;exact H x y h1 h2
theorem o5{α β γ δ:Type}{f:α→β→γ→δ}{a:Option α}{b:Option β}{c:Option γ}{r:δ}{P:δ→Prop}(h:o3 f a b c=some r)(H:∀x y z,a=some x→b=some y→c=some z→P (f x y z)):P r:=by
 obtain⟨x,y,z,h1,h2,h3,rfl⟩:=DG h;exact H x y z h1 h2 h3
theorem cX{α:Type}{b:Bool}{x:Option α}{r:α}{Q:Prop}(h:gd b x=some r)(H:b=true→x=some r→Q):Q:=H (dh h).1 (dh h).2
theorem cJ{α β:Type}{f:α→β}{a:Option α}{r:β}{P:β→Prop}(h:a.map f=some r)(H:∀x,a=some x→P (f x)):P r:=by
 obtain⟨x,h1,rfl⟩:=map_some h;exact H x h1
theorem fO{α:Type}{b:Bool}{x y:Option α}{r:α}{Q:Prop}(h:(bif b then x else y)=some r)(H:b=true→x=some r→Q)(K:y=some r→Q):Q:=by
 cases b
 ·exact K h
 ·exact H rfl h
theorem cF{α β:Type}{f:α→Option β}{a:Option α}{r:β}{Q:Prop}(h:a.bind f=some r)(H:∀x,a=some x→f x=some r→Q):Q:=(bind_some h).elim fun x k=>H x k.1 k.2
noncomputable def gY{α β:Type}(f:α→Option β):List α→Option (List β)
 |[]=>some []
 |a::r=>o2 List.cons (f a) (gY f r)
noncomputable def dj(T:TE):Expr→Option Nat
 |.Name x _=>gd (T.sc.lookup x == some .local) (T.ν.lookup x)
 |_=>none
noncomputable def o6(T:TE):Expr→Option (List Nat)
 |.Name x p=>(dj T (.Name x p)).map fun i=>[i]
 |.Tuple es _ _=>gd (decide (2≤es.length)) (gY (dj T) es)
 |_=>none
set_option backward.match.sparseCases true in
noncomputable def jL(e:Expr):List Str:=swappedStores.match_8 (fun _=>List Str) e (fun x _=>[x]) fun e=>W.isTupleDisplay.match_1 (fun _=>List Str) e (fun es _ _=>es.filterMap nameOf) fun _=>[]
noncomputable def RS(e:Expr):Option Const:=isNumConstant.match_4 (fun _=>Option Const) e (fun c _ _=>some c) fun _=>none
noncomputable def cStr:Const→Option Str
 |.str x=>some x
 |_=>none
noncomputable def cInt:Const→Option Int
 |.int i=>some i
 |_=>none
noncomputable def strOf(e:Expr):Option Str:=(RS e).bind cStr
noncomputable def tO(k:Option Expr):Option Str:=k.bind strOf
noncomputable def intOf(k:Option Expr):Option Int:=(k.bind RS).bind cInt
noncomputable def AG:Option Expr→Option Int
 |some e=>match e with
  |.UnaryOp op e _=>match op with
   |.USub=>intOf (some e)
   |_=>none
  |_=>none
 |none=>none
noncomputable def DH:Const→Option IE
 |.none=>some (.const .none)
 |.bool b=>some (.const (.bool b))
 |.int i=>some (.const (.int i))
 |.str x=>some (.const (.str x))
 |_=>none
noncomputable def RT(a:Option IE):UnaryOp→Option IE
 |.USub=>a.map .neg
 |.Not=>a.map .not
 |_=>none
noncomputable def E2(f:Expr→Option IE)(a:Expr):List CmpOp→List Expr→Option IE
 |[op],bs=>match bs with
  |[b]=>gd (!behindInMarks op b) (o2 (.cmp op) (f a) (f b))
  |_=>none
 |[op,lP],bs=>match bs with
  |[b,c]=>gd (!lastMarks [op,lP] [b,c]) (o3 (.chain op lP) (f a) (f b) (f c))
  |_=>none
 |_,_=>none
theorem AH{f:Expr→Option IE}{a:Expr}{ops:List CmpOp}{bs:List Expr}{ie:IE}{Q:List CmpOp→List Expr→IE→Prop}(h:E2 f a ops bs=some ie)
  (H:∀op b ia ib,(!behindInMarks op b)=true→f a=some ia→f b=some ib→Q [op] [b] (.cmp op ia ib))
  (K:∀op lP b c ia ib ic,(!lastMarks [op,lP] [b,c])=true→f a=some ia→f b=some ib→f c=some ic→Q [op,lP] [b,c] (.chain op lP ia ib ic)):Q ops bs ie:=by
 rcases ops with _|⟨op,_|⟨lP,_|_⟩⟩
 ·exact no h
 ·rcases bs with _|⟨b,_|_⟩
  ·exact no h
  ·exact cX h fun q h=>iU h fun _ _ h1 h2=>H _ _ _ _ q h1 h2
  ·exact no h
 ·rcases bs with _|⟨b,_|⟨c,_|_⟩⟩
  ·exact no h
  ·exact no h
  ·exact cX h fun q h=>o5 h fun _ _ _ h1 h2 h3=>K _ _ _ _ _ _ _ q h1 h2 h3
  ·exact no h
 ·exact no h
noncomputable def GO(T:TE)(ks:List (Option Expr))(es:List Expr)(dQ:Option jW):Option IE:=
 match ks with
 |[]=>match es with
  |[]=>some .aW
  |_=>none
 |k::r=>gd (decide ((k::r).length≤15∧(k::r).length=es.length)) (o2 .ed ((gY tO (k::r)).bind (gY T.nm)) dQ)
noncomputable def Nc:BoolOp→IE→IE→IE
 |.And=>.and
 |.Or=>.or
noncomputable def Nf(l u s:Option Expr)(ia:IE):Option IE:=
 bif l.isNone && s.isNone && intOf u == some 24 then some (.ma ia)
 else bif u.isNone && s.isNone && intOf l == some 1 then some (.qQ ia)
 else bif l.isNone && u.isNone && AG s == some 1 then some (.rev ia) else none
noncomputable def AI(T:TE):List Expr→List Str→Bool
 |[],[]=>true
 |e::es,s::ss=>(nameOf e).elim false (T.b · s) && AI T es ss
 |_,_=>false
noncomputable def rowNames(T:TE)(es:List Expr):Bool:=AI T es ["bytes","bytearray","list","tuple"]
noncomputable def E3(T:TE)(f:Expr→Option IE):List Expr→Option IE
 |[a,t]=>gd (notStar a) (match t with
  |.Name y _=>bif T.b y "int" then(f a).map .isInt else bif T.b y "bool" then(f a).map .isBool else none
  |.Tuple es _ _=>gd (rowNames T es) ((f a).map .g0)
  |_=>none)
 |_=>none
noncomputable def Ng(T:TE)(g:Option GV)(x:Str)(args:List Expr)(dQ:Option jW)(f:Expr→Option IE):Option IE:=
 match g with
 |some g=>match g with
  |.fn c=>dQ.map (.ah c)
  |.cls c=>dQ.map (.callC c)
  |.bi=>bif x == ("isinstance":Str) then E3 T f args else(AF.lookup x).bind fun b=>dQ.map (.bC b)
  |_=>none
 |none=>none
noncomputable def m1(f:Expr→Option IE)(k:IE→IE):List Expr→Option IE
 |[a]=>gd (notStar a) ((f a).map k)
 |_=>none
noncomputable def m2(f:Expr→Option IE)(k:IE→IE→IE):List Expr→Option IE
 |[a,b]=>gd (notStar a && notStar b) (o2 k (f a) (f b))
 |_=>none
noncomputable def Nh(f:Expr→Option IE)(io:IE)(args:List Expr):Option IE:=
 match args with
 |[_]=>m1 f (.zr io) args
 |_=>m2 f (.zt io) args
noncomputable def RU(T:TE)(f:Expr→Option IE)(dQ:Option jW)(x:Str)(args:List Expr)(io:IE):Option IE:=
 bif x == ("append":Str) then m1 f (.append io) args
 else bif x == ("extend":Str) then m1 f (.extend io) args
 else bif x == ("insert":Str) then m2 f (.insert io) args
 else bif x == ("get":Str) then Nh f io args
 else o2 (.mf io) (T.nm x) dQ
noncomputable def GP(T:TE)(f:Expr→Option IE)(e:Expr):Option g7:=
 match e with
 |.Call g args yU _=>match g with
  |.Name x _=>match yU with
   |[]=>match args with
    |[a]=>bif T.b x "range" then gd (notStar a) ((f a).map .range) else bif T.b x "enumerate" then gd (notStar a) ((f a).map .enum) else(f e).map .items
    |[a,b]=>bif T.b x "zip" then gd (notStar a && notStar b) (o2 .zip (f a) (f b)) else(f e).map .items
    |_=>(f e).map .items
   |_=>(f e).map .items
  |_=>(f e).map .items
 |_=>(f e).map .items
mutual
noncomputable def tr(T:TE):Nat→Expr→Option IE
 |0,_=>none
 |n+1,e=>match e with
  |.Constant c _ _=>DH c
  |.Name x _=>AE T x
  |.BinOp a op b _=>o2 (.bin op) (tr T n a) (tr T n b)
  |.UnaryOp op a _=>RT (tr T n a) op
  |.BoolOp op es _=>km T n op es
  |.IfExp c a b _=>gd (fC n c) (o3 .ite (tr T n c) (tr T n a) (tr T n b))
  |.Compare a ops bs _=>E2 (tr T n) a ops bs
  |.Attribute a x _=>gd (cv a) (o2 .attr (tr T n a) (T.nm x))
  |.Subscript a i _=>AJ T n a i
  |.List es _=>(AK T n es).map .list
  |.Tuple es _ _=>(AK T n es).map .tuple
  |.Dict ks es _=>GO T ks es (AK T n es)
  |.Call g args yU pos=>match yU with
   |[]=>match g with
    |.Name x _=>tP T n x args pos
    |.Attribute o x apos=>tQ T n o x apos args pos
    |_=>none
   |_=>none
  |.ListComp elt gs scope _=>match gs with
   |[⟨target,iter,ifs,k⟩]=>gd (ifs.isEmpty && k == 0) (mZ T n elt target iter scope)
   |_=>none
  |_=>none
noncomputable def AK(T:TE):Nat→List Expr→Option jW
 |0,_=>none
 |_+1,[]=>some .nil
 |n+1,e::r=>gd (notStar e) (o2 .cons (tr T n e) (AK T n r))
noncomputable def km(T:TE):Nat→BoolOp→List Expr→Option IE
 |0,_,_=>none
 |_+1,_,[]=>none
 |n+1,op,e::r=>match r with
  |[]=>tr T n e
  |e2::r=>o2 (Nc op) (tr T n e) (km T n op (e2::r))
noncomputable def AJ(T:TE):Nat→Expr→Expr→Option IE
 |0,_,_=>none
 |n+1,a,i=>(tr T n a).bind fun ia=>match i with
  |.Slice l u s _=>gd (cw a) (Nf l u s ia)
  |i=>match strOf i with
   |some x=>(T.nm x).map (.eX ia)
   |none=>(tr T n i).map (.item ia)
noncomputable def tP(T:TE):Nat→Str→List Expr→Pos→Option IE
 |0,_,_,_=>none
 |n+1,x,args,_=>Ng T (T.g x) x args (AK T n args) (tr T n)
noncomputable def tQ(T:TE):Nat→Expr→Str→Pos→List Expr→Pos→Option IE
 |0,_,_,_,_,_=>none
 |n+1,o,x,apos,args,pos=>gd (cv o && (apos.endLine == pos.line) && decide (args.length<30)) ((tr T n o).bind (RU T (tr T n) (AK T n args) x args))
noncomputable def vv(T:TE):Nat→Expr→Option g7
 |0,_=>none
 |n+1,e=>GP T (tr T n) e
noncomputable def mZ(T:TE):Nat→Expr→Expr→Expr→Scope→Option IE
 |0,_,_,_,_=>none
 |n+1,elt,target,iter,scope=>kq T n elt target iter scope
noncomputable def kq(T:TE):Nat→Expr→Expr→Expr→Scope→Option IE
 |0,_,_,_,_=>none
 |n+1,elt,target,iter,scope=>
  (gY (fun x=>(T.ν.lookup x).map fun i=>(x,i)) (jL target)).bind fun tg=>
   gd (scope.kind == .function && scope.names.all (fun p=>p.2 !=.cell && (p.2 !=.local || scope.names.lookup p.1 == some .local) && (p.2 !=.free || T.sc.lookup p.1 == some .cell)) && gI iter)
    ((o6 (T.inner scope tg) target).bind fun ct=>(vv T n iter).bind fun is=>gd (dw target || (cw target && cY is)) ((tr (T.inner scope tg) n elt).map (.comp ct is)))
noncomputable def fC:Nat→Expr→Bool
 |0,_=>false
 |n+1,e=>match e with
  |.BoolOp _ es _=>iH n es
  |.UnaryOp op a _=>match op with
   |.Not=>fC n a
   |_=>false
  |.Compare .. =>true
  |.Name .. =>true
  |.Call .. =>true
  |.Attribute .. =>true
  |.Subscript .. =>true
  |.Constant .. =>true
  |_=>false
noncomputable def iH:Nat→List Expr→Bool
 |0,_=>false
 |_+1,[]=>true
 |n+1,e::r=>fC n e && iH n r
end
noncomputable def E4(ts:List Expr):Option (Option (List Str))→Bool
 |some o=>o.elim true fun names=>names == ts.filterMap nameOf
 |none=>false
noncomputable def AL(T:TE)(ts:List Expr):Expr→Bool
 |.Tuple vs _ _=>E4 ts (jH ts vs (fun x=>T.sc.lookup x))
 |_=>true
noncomputable def tR:Option Expr→Option (Str×Str)
 |some e=>match e with
  |.Call g args yU _=>match yU with
   |[]=>match args with
    |[a]=>o2 Prod.mk (nameOf g) (strOf a)
    |_=>none
   |_=>none
  |_=>none
 |none=>none
noncomputable def gJ(T:TE)(exc cause:Option Expr):IS:=
 match cause with
 |none=>match tR exc with
  |some (x,_)=>match T.g x with
   |some .bad=>.raise
   |_=>.stuck
  |none=>.stuck
 |some _=>.stuck
noncomputable def E5:List Stmt→Option (Expr×Str)
 |[s]=>match s with
  |.Assign ts v _=>match ts with
   |[t]=>(strOf v).map (Prod.mk t)
   |_=>none
  |_=>none
 |_=>none
noncomputable def tS(T:TE):List ExceptHandler→Option (Nat×Str)
 |[h]=>match h with
  |.ExceptHandler ty nm body _=>match nm with
   |none=>match ty with
    |some e=>(nameOf e).bind fun x=>match T.g x with
     |some .bad=>(E5 body).bind fun q=>(dj T q.1).map fun i=>(i,q.2)
     |_=>none
    |none=>none
   |some _=>none
 |_=>none
noncomputable def xY(T:TE)(f:Expr→Option IE)(c:Expr→Expr→Expr→Scope→Option IE)(v:Expr):Expr→Option IS
 |.Name x p=>(dj T (.Name x p)).bind fun i=>match v with
  |.ListComp elt gs scope mY=>match gs with
   |[⟨target,iter,ifs,k⟩]=>gd (ifs.isEmpty && k == 0) (gd ((p.line == mY.line) && !(scope.names.any fun z=>z.1 == x && (z.2 == .local || z.2 == .cell))) ((c elt target iter scope).map (.assign i)))
   |_=>none
  |v=>gd (dF v) ((f v).map (.assign i))
 |.Tuple ts _ _=>(gY (dj T) ts).bind fun is=>gd (decide is.Nodup && dF v && AL T ts v) ((f v).map (.bH is))
 |.Attribute o x _=>gd (dF v) (o3 (fun k io iv=>.aw io k iv) (T.nm x) (f o) (f v))
 |.Subscript o i _=>gd (dF v) (o3 .iE (f o) (f i) (f v))
 |_=>none
noncomputable def Ni(T:TE)(f:Expr→Option IE)(op:Operator)(v:Expr):Expr→Option IS
 |.Name x p=>o2 (fun i iv=>.aug i op iv) (dj T (.Name x p)) (f v)
 |.Subscript o i _=>gd (ij i) (o3 (fun io ii iv=>.lz io ii op iv) (f o) (f i) (f v))
 |_=>none
mutual
noncomputable def RV(T:TE):Nat→Stmt→Option IS
 |0,_=>none
 |n+1,s=>match s with
  |.Expr e _=>gd (dF e) ((tr T n e).map .expr)
  |.Assign ts v _=>match ts with
   |[t]=>xY T (tr T n) (mZ T n) v t
   |_=>none
  |.AugAssign t op v _=>Ni T (tr T n) op v t
  |.If c a b _=>gd (fC n c) (o3 .ite (tr T n c) (oC T n a) (oC T n b))
  |.While c b o _=>gd (o.isEmpty && fC n c) (o2 .while (tr T n c) (oC T n b))
  |.For target iter b o _=>gd (o.isEmpty && gI iter) ((o6 T target).bind fun ct=>(vv T n iter).bind fun is=>gd (dw target || (cw target && cY is)) ((oC T n b).map (.for ct is)))
  |.Return v _=>match v with
   |some e=>(tr T n e).map .ret
   |none=>none
  |.Raise exc cause _=>some (gJ T exc cause)
  |.Try b hs o f _=>gd (o.isEmpty && f.isEmpty) (o2 (fun i ib=>.try ib i.1 (.str i.2)) (tS T hs) (oC T n b))
  |.Continue _=>some .cont
  |_=>none
noncomputable def oC(T:TE):Nat→List Stmt→Option cx
 |0,_=>none
 |_+1,[]=>some .nil
 |n+1,s::r=>o2 .cons (RV T n s) (oC T n r)
end
def RW(X:Cx)(x:Str):GV→Prop
 |.const v=>∃u,nsIn X.K mainGlobals x=some (some u)∧∀W:Wd,(∀a o,X.h₀.get? a=some o→W.B a=some o)→VR X W v u
 |.fn f=>nsIn X.K mainGlobals x=some (some (.ref f))∧keepIn X.K (.ref f)=true
 |.cls c=>nsIn X.K mainGlobals x=some (some (.ref c))∧keepIn X.K (.ref c)=true
 |.bi=>nsIn X.K mainGlobals x=some none∧x≠"__name__"
 |.bad=>nsIn X.K mainGlobals x=some (some (.ref X.bad))
structure fj(X:Cx)(T:TE):Prop where
 tab:X.tab=T.tab
 inj:fS T.ν
 pZ:∀x i,T.ν.lookup x=some i→(x == ("__debug__":Str))=false∧(x == ("__classdict__":Str))=false
 glob:∀x g,T.glob.lookup x=some g→(x == ("__debug__":Str))=false∧RW X x g
theorem fk{α β:Type}{f:α→Option β}{a:α}{r:List α}{bs:List β}(e:gY f (a::r)=some bs):∃b br,f a=some b∧gY f r=some br∧bs=b::br:=by
 obtain⟨b,br,h1,h2,h3⟩:=fN e
 exact⟨b,br,h1,h2,h3.symm⟩
theorem il{α β:Type}{f:α→Option β}{bs:List β}(e:gY f []=some bs):bs=[]:=by
 cases e;rfl
theorem rL{α β:Type}{f:α→Option β}{l:List α}:∀{bs:List β},gY f l=some bs→l.length=bs.length:=by
 induction l with
 |nil=>
  intro _ e;rw[il e];rfl
 |cons a r ih=>
  intro _ e;obtain⟨b,br,_,h2,rfl⟩:=fk e;exact congrArg (· +1) (ih h2)
section
variable {X:Cx}{P:ef}{m:Nat}{env:Env}{T:TE}
theorem DI{x y:Str}{r:List Str}{k:Nat}:idxOf x (y::r) k=if x == y then some k else idxOf x r (k+1):=rfl
theorem tT{x:Str}{l:List Str}:∀{k j:Nat},idxOf x l k=some j→∃i,j=k+i∧l[i]? =some x:=by
 induction l with
 |nil=>
  intro _ _ e
  exact cu e
 |cons y r ih=>
  intro k j e
  rw[DI] at e
  split at e
  ·rename_i q
   cases e
   have q:x=y:=by simpa using q
   subst q
   exact⟨0,rfl,rfl⟩
  ·obtain⟨i,h1,h2⟩:=ih e;exact⟨i+1,by lia,by simpa using h2⟩
theorem fj.nm(t:fj X T){x:Str}{k:Nat}(e:T.nm x=some k):X.nm k=x∧k<X.tab.length:=by
 obtain⟨i,h1,h2⟩:=tT e
 have:k=i:=by lia
 subst this
 unfold Cx.nm
 rw[t.tab,h2]
 exact⟨rfl,(List.getElem?_eq_some_iff.mp h2).1⟩
theorem lU(ea:bq env T.sc)(x:Str):env.kindOf x=T.sc.lookup x:=by unfold Env.kindOf;rw[ea.names]
theorem p6(ea:bq env T.sc)(t:fj X T){x:Str}{g:GV}(e:T.g x=some g):env.kindOf x=some .globalImplicit∧(x == ("__debug__":Str))=false∧RW X x g:=by
 unfold TE.g at e
 split at e
 ·rename_i q
  have q:T.sc.lookup x=some .globalImplicit:=by simpa using q
  exact⟨(lU ea x).trans q,t.glob x g e⟩
 ·cases e
theorem GQ(ea:bq env T.sc)(t:fj X T){x s:Str}(e:T.b x s=true):x=s∧env.kindOf x=some .globalImplicit∧(x == ("__debug__":Str))=false∧nsIn X.K mainGlobals x=some none∧x≠"__name__":=by
 revert X env T x s
 apply aM;intro
 generalize bI .. =X,bJ .. =env
 apply aI;intro
 generalize nx .. =T
 intro ea t
 apply aM;intro
 generalize bI .. =x,bJ .. =s
 intro e
 have e:=Bool.and_eq_true_iff.mp e
 have h2:=e.2
 cases q:T.g x with
 |none=>rw[q] at h2;exact absurd h2 Bool.false_ne_true
 |some g=>
  rw[q] at h2
  cases g with
  |bi=>
   obtain⟨a,b,c⟩:=p6 ea t q
   exact⟨eq_of_beq e.1,a,b,c.1,c.2⟩
  |_=>exact absurd h2 Bool.false_ne_true
theorem tU(ea:bq env T.sc)(t:fj X T){x:Str}{ie:IE}(p:Pos)(e:AE T x=some ie):az X P m env T.ν (.Name x p) ie:=by
 revert X P m env T x ie p
 apply aO;intro
 generalize bL .. =X,bM .. =P,bQ .. =m,bR .. =env
 apply aI;intro
 generalize nx .. =T
 intro ea t
 apply aM;intro
 generalize bI .. =x,bJ .. =ie
 apply aI;intro
 generalize nx .. =p
 intro e
 refine cF e fun k q e=>fO e (fun z e=> ?_) fun e=>fO e (fun _ e=>no e) fun e=>cJ e fun i h1=>C5 p ea.toEnvOk h1 (t.pZ x i h1).1 (t.pZ x i h1).2
 cases hv:T.glob.lookup x with
 |none=>rw[hv] at e;exact no e
 |some g=>
  rw[hv] at e
  cases g with
  |const v=>
   obtain⟨h1,u,h2,h3⟩:=t.glob x _ hv
   exact er e (zF p ea.toEnvOk ((lU ea x).trans (eq_of_beq z▸q)) h1 h2 h3)
  |_=>exact no e
def dP(es:List Expr):Prop:=∀e∈es,notStar e=true
theorem dP.each{es:List Expr}(h:dP es)(env:Env):∀p∈starEach es env,p.1=false:=by
 induction es with
 |nil=>intro p hp;cases hp
 |cons a r ih=>
  intro p hp
  rw[aD (h a (.head _))] at hp
  rcases List.mem_cons.mp hp with rfl|hp
  ·rfl
  ·exact ih (fun e he=>h e (.tail _ he)) p hp
theorem dP.any{es:List Expr}(h:dP es)(env:Env)(pos:Pos):(backTo pos (starEach es env)).any (·.1)=false:=by
 rw[List.any_eq_false]
 intro p hp
 unfold backTo at hp
 obtain⟨q,hq,rfl⟩:=List.mem_map.mp hp
 have:=h.each env q hq
 obtain⟨q1,q2⟩:=q
 dsimp only at this ⊢
 rw[this];decide
theorem dP.all{es:List Expr}(h:dP es)(env:Env)(pos:Pos):(backTo pos (starEach es env)).all (!·.1)=true:=by
 rw[List.all_eq_true]
 intro p hp
 unfold backTo at hp
 obtain⟨q,hq,rfl⟩:=List.mem_map.mp hp
 have:=h.each env q hq
 obtain⟨q1,q2⟩:=q
 dsimp only at this ⊢
 rw[this];decide
theorem dP.star{es:List Expr}(h:dP es)(env:Env):es=[]∨∃y rest,starEach es env=(false,y)::rest:=by
 cases es with
 |nil=>exact .inl rfl
 |cons a r=>exact .inr ⟨_,_,aD (h a (.head _)) _ _⟩
theorem GR:∀p∈AF,∃v,bootBuiltins p.1=some v∧notRef v=true∧dK X p.2 v:=by
 have c:∀{x:Str} {b:BF} {l:List (Str×BF)} {v:Value},bootBuiltins x=some v→notRef v=true→dK X b v→(∀p∈l,∃v,bootBuiltins p.1=some v∧notRef v=true∧dK X p.2 v)→∀p∈(x,b)::l,∃v,bootBuiltins p.1=some v∧notRef v=true∧dK X p.2 v:=
  fun h1 h2 h3 h4 p hp=>(List.mem_cons.mp hp).elim (fun e=>e▸⟨_,h1,h2,h3⟩) (h4 p)
 exact c (by decide+kernel) rfl Gv (c (by decide+kernel) rfl Gw (c (by decide+kernel) rfl Gx (c (by decide+kernel) rfl Gy (c (by decide+kernel) rfl Dn (c (by decide+kernel) rfl zZ (c (by decide+kernel) rfl Gz (c (by decide+kernel) rfl xy (c (by decide+kernel) rfl GA (c (by decide+kernel) rfl z4 fun _ h=>absurd h List.not_mem_nil)))))))))
theorem AM{x:Str}{b:BF}(e:AF.lookup x=some b):∃v,bootBuiltins x=some v∧notRef v=true∧dK X b v:=GR (x,b) (mem_of_lookup e)
theorem dW(kd:env.scope.names=T.sc){x:Str}{p:Pos}{i:Nat}(e:dj T (.Name x p)=some i):env.kindOf x=some .local∧T.ν.lookup x=some i:=by
 obtain⟨q,e⟩:=dh e
 have q:T.sc.lookup x=some .local:=by simpa using q
 exact⟨by unfold Env.kindOf;rw[kd];exact q,e⟩
theorem ku{T:TE}{e:Expr}{i:Nat}(h:dj T e=some i):∃x p,e=.Name x p:=by
 cases e with
 |Name x p=>exact⟨x,p,rfl⟩
 |_=>exact no h
theorem kX(kd:env.scope.names=T.sc){es:List Expr}:∀{is:List Nat},gY (dj T) es=some is→gq env T.ν es is:=by
 induction es with
 |nil=>
  intro _ e;rw[il e];exact .nil
 |cons a r ih=>
  intro _ e
  obtain⟨b,br,h1,h2,rfl⟩:=fk e
  obtain⟨x,p,rfl⟩:=ku h1
  obtain⟨k1,k2⟩:=dW kd h1
  exact .cons k1 k2 (ih h2)
theorem o7(kd:env.scope.names=T.sc){t:Expr}{is:List Nat}(e:o6 T t=some is):Cg env T.ν t is:=by
 cases t with
 |Name x p=>
  obtain⟨i,h1,rfl⟩:=map_some e
  obtain⟨k1,k2⟩:=dW kd h1
  exact .name k1 k2
 |Tuple es k p=>
  obtain⟨q,e⟩:=dh e
  exact .tup (kX kd e) (by rw[←rL e];exact of_decide_eq_true q)
 |_=>exact no e
theorem DJ{t:Expr}{is:List Nat}(e:o6 T t=some is):∀y∈jL t,∀j,T.ν.lookup y=some j→j∈is:=by
 cases t with
 |Name x p=>
  intro y hy j hj
  obtain⟨i,h1,rfl⟩:=map_some e
  unfold jL at hy
  rw[List.mem_singleton.mp hy] at hj
  have h1:=(dh h1).2
  rw[hj] at h1;cases h1;exact .head _
 |Tuple es k p=>
  have main:∀(es:List Expr) (is:List Nat),gY (dj T) es=some is→∀y∈es.filterMap nameOf,∀j,T.ν.lookup y=some j→j∈is:=fun es=>by
   induction es with
   |nil=>intro is _ y hy;cases hy
   |cons a r ih=>
    intro is e y hy j hj
    obtain⟨b,br,h1,h2,rfl⟩:=fk e
    obtain⟨x,p,rfl⟩:=ku h1
    rcases List.mem_cons.mp (show y∈x::r.filterMap nameOf from hy) with rfl|hy
    ·have h1:=(dh h1).2
     rw[hj] at h1;cases h1;exact .head _
    ·exact .tail _ (ih br h2 y hy j hj)
  exact main es is (dh e).2
 |_=>exact no e
end
inductive jM(X:Cx)(P:ef)(m:Nat)(env:Env)(ν:Nu)(elt target iter:Expr)(scope:Scope):IE→Prop
 |mk {ν' ct is ielt} (c1:∀x∈scope.names,x.2=.free→∃ca,env.cells.lookup x.1=some ca) (c2:scope.kind=.function) (c3:∀y∈scope.names,y.2≠.cell) (c4:∀x∈scope.names,x.2=.local→scope.names.lookup x.1=some .local) (c5:gI iter=true) (c6:∀cl C,Cg (compEnvC scope cl C env) ν' target ct) (c7:fS ν') (c8:∀cl C,(∀y ca,(y,NameKind.free)∈scope.names→env.cells.lookup y=some ca→cl.lookup y=some ca)→GD env (compEnvC scope cl C env) ν ν' ct) (c9:dM X P m env ν iter is) (Zl:∀cl C,(∀y ca,(y,NameKind.free)∈scope.names→env.cells.lookup y=some ca→cl.lookup y=some ca)→az X P m (compEnvC scope cl C env) ν' elt ielt) (Zm:dw target=true∨(cw target=true∧cY is=true)):jM X P m env ν elt target iter scope (.comp ct is ielt)
structure ip(X:Cx)(P:ef)(m n:Nat):Prop where
 e:∀T env,fj X T→bq env T.sc→∀e ie,tr T n e=some ie→az X P m env T.ν e ie
 es:∀T env,fj X T→bq env T.sc→∀es dQ,AK T n es=some dQ→gS X P m env T.ν es dQ∧dP es
 ps:∀T env,fj X T→bq env T.sc→∀ks es xs js dQ,gY tO ks=some xs→gY T.nm xs=some js→AK T n es=some dQ→ks.length=es.length→mG X P m env T.ν ks js es dQ∧∀j∈js,j<X.tab.length
 b:∀T env,fj X T→bq env T.sc→∀op es ie,km T n op es=some ie→qU X P m env T.ν op es ie
 t:∀T env,fj X T→bq env T.sc→∀e ie,tr T n e=some ie→fC n e=true→iM X P m env T.ν e ie
 a:∀T env,fj X T→bq env T.sc→∀op es ie,km T n op es=some ie→iH n es=true→qV X P m env T.ν op es ie
 sub:∀T env,fj X T→bq env T.sc→∀a i ie pos,AJ T n a i=some ie→az X P m env T.ν (.Subscript a i pos) ie
 call:∀T env,fj X T→bq env T.sc→∀x args p pos ie,tP T n x args pos=some ie→az X P m env T.ν (.Call (.Name x p) args [] pos) ie
 Gp:∀T env,fj X T→bq env T.sc→∀o x apos args pos ie,tQ T n o x apos args pos=some ie→az X P m env T.ν (.Call (.Attribute o x apos) args [] pos) ie
 src:∀T env,fj X T→bq env T.sc→∀e is,vv T n e=some is→dM X P m env T.ν e is
 comp:∀T env,fj X T→bq env T.sc→∀elt target iter scope ie,mZ T n elt target iter scope=some ie→jM X P m env T.ν elt target iter scope ie
 parts:∀T env,fj X T→bq env T.sc→∀elt target iter scope ie,kq T n elt target iter scope=some ie→jM X P m env T.ν elt target iter scope ie
section
variable {X:Cx}{P:ef}{m n:Nat}{env:Env}{T:TE}
theorem ip.zero:ip X P m 0:=by
 constructor<;>intros<;>exact no ‹_›
theorem p7{i:Expr}(h:ij i=true)(x y:Value):subscripted i false x y=operate [x,y] (getItem x y):=by
 cases i<;>first|rfl|cases h
theorem xZ{a:Expr}{x:Str}{pos:Pos}(h:cv a=true):eval (.Attribute a x pos) env=(do
   let o ←eval a env
   standAt pos.atName
   let r ←holding [o] (getAttr o x true)
   letTemporaryGo a o r
   pure r):=by
 cases a<;>first|rfl|cases h
theorem ky{a:Expr}(h:cw a=true)(o r:Value):letTemporaryGo a o r=pure ():=by
 cases a<;>first|rfl|cases h
theorem fq{α:Type}{l:List α}(h:l.isEmpty=true):l=[]:=List.isEmpty_iff.mp h
theorem ya{ν:Nu}{elt target iter:Expr}{ifs:List Expr}{k:Int}{scope:Scope}{p:Pos}{ie:IE}(q:(ifs.isEmpty && k == 0)=true)(C:jM X P m env ν elt target iter scope ie):az X P m env ν (.ListComp elt [⟨target,iter,ifs,k⟩] scope p) ie:=by
 have q:=Bool.and_eq_true_iff.mp q
 rw[fq q.1,eq_of_beq q.2]
 exact C.rec fun {_ _ _ _}=>Aj
theorem AN(pk:oj X P)(B:ip X P m n)(t:fj X T)(ea:bq env T.sc){e:Expr}{ie:IE}(h:tr T (n+1) e=some ie):az X P m env T.ν e ie:=by
 revert X P m n env T e ie
 apply aO;intro
 generalize bL .. =X,bM .. =P,bQ .. =m,bR .. =n
 apply aM;intro
 generalize bI .. =env,bJ .. =T
 intro pk B t ea
 apply aM;intro
 generalize bI .. =e,bJ .. =ie
 intro h
 have E:∀{e ie},tr T n e=some ie→az X P m env T.ν e ie:=fun h=>B.e T env t ea _ _ h
 cases e with
 |Constant c k p=>
  cases c with
  |none=>exact er h (zD k p)
  |bool b=>exact er h (zE b k p)
  |int i=>exact er h (C3 i k p)
  |str x=>exact er h (C4 x k p)
  |_=>exact no h
 |Name x p=>exact tU ea t p h
 |BinOp a op b p=>exact iU h fun _ _ h1 h2=>C6 op p (E h1) (E h2)
 |UnaryOp op a p=>
  cases op with
  |USub=>exact cJ h fun _ h1=>C7 p (E h1)
  |Not=>exact cJ h fun _ h1=>C8 p (E h1)
  |_=>exact no h
 |BoolOp op es p=>exact sZ p (B.b T env t ea _ _ _ h)
 |IfExp c a b p=>exact cX h fun hc h=>o5 h fun _ _ _ h1 h2 h3=>De p (B.t T env t ea _ _ h1 hc) (E h2) (E h3)
 |Compare a ops bs p=>exact AH (Q:=fun ops bs ie=>az X P m env T.ν (.Compare a ops bs p) ie) h (fun op _ _ _ q h1 h2=>Dh op p (Bool.not_eq_true' _▸q) (E h1) (E h2)) fun op lP _ _ _ _ _ q h1 h2 h3=>xf op lP p (Bool.not_eq_true' _▸q) (E h1) (E h2) (E h3)
 |Attribute a x p=>exact cX h fun hc h=>iU h fun _ _ h1 h2=>zQ p pk (t.nm h2).2 (t.nm h2).1 (E h1) (xZ hc)
 |Subscript a i p=>exact B.sub T env t ea _ _ _ p h
 |List es p=>exact cJ h fun _ h1=>zT p (B.es T env t ea _ _ h1).1
 |Tuple es k p=>exact cJ h fun _ h1=>xl k p (B.es T env t ea _ _ h1).1
 |Dict ks es p=>
  rcases ks with _|⟨k,ks⟩
  ·rcases es with _|_
   ·exact er h (xo p)
   ·exact no h
  ·exact cX h fun q h=>iU h fun js dQ h2 h3=>cF h2 fun xs h1 h2=>
    have k:=B.ps T env t ea _ _ _ _ _ h1 h2 h3 (of_decide_eq_true q).2
    xt p (List.cons_ne_nil _ _) (of_decide_eq_true q).1 k.1 k.2
 |Call f args yU p=>
  rcases yU with _|_
  ·cases f with
   |Name x p'=>exact B.call T env t ea _ _ p' _ _ h
   |Attribute o x p'=>exact B.Gp T env t ea _ _ _ _ _ _ h
   |_=>exact no h
  ·exact no h
 |ListComp elt gens scope p=>
  rcases gens with _|⟨⟨target,iter,ifs,k⟩,_|_⟩
  ·exact no h
  ·exact cX h fun q h=>ya q (B.comp T env t ea _ _ _ _ _ h)
  ·exact no h
 |_=>exact no h
end
end
section
open PyProof.Rows PySem.Calls PySem.W
set_option backward.match.sparseCases false
section
variable {X:Cx}{P:ef}{m n:Nat}{env:Env}{T:TE}
theorem DK(B:ip X P m n)(t:fj X T)(ea:bq env T.sc){es:List Expr}{dQ:jW}(h:AK T (n+1) es=some dQ):gS X P m env T.ν es dQ∧dP es:=by
 cases es with
 |nil=>cases (Option.some.inj h);exact⟨zS,fun _ h=>nomatch h⟩
 |cons e r=>
  obtain⟨hs,h⟩:=dh h
  obtain⟨ie,ir,h1,h2,rfl⟩:=fN h
  obtain⟨k1,k2⟩:=B.es T env t ea _ _ h2
  exact⟨xj (aD hs _ _) (B.e T env t ea _ _ h1) k1,fun x hx=>by
   rcases List.mem_cons.mp hx with rfl|hx
   ·exact hs
   ·exact k2 x hx⟩
theorem AO{P:Expr→Prop}{e:Expr}{c:Const}(h:RS e=some c)(H:∀k p,P (.Constant c k p)):P e:=by
 cases e with
 |Constant k c p=>exact er h (P:=fun d=>(∀k p,P (.Constant d k p))→_) (fun H=>H _ _) H
 |_=>exact no h
theorem jN{P:Expr→Prop}{e:Expr}{x:Str}(h:strOf e=some x)(H:∀k p,P (.Constant (.str x) k p)):P e:=cF h fun c h1 h2=>AO h1 (by
 cases c with
 |str y=>exact Option.some.inj h2▸H
 |_=>exact no h2)
theorem m8{P:Option Expr→Prop}{e:Option Expr}{x:Int}(h:intOf e=some x)(H:∀k p,P (some (.Constant (.int x) k p))):P e:=cF h fun c h1 h2=>cF h1 fun d h3 h4=>h3▸AO (P:=fun e=>P (some e)) h4 (by
 cases c with
 |int y=>exact Option.some.inj h2▸H
 |_=>exact no h2)
theorem AP{P:Option Expr→Prop}{k:Option Expr}{i:Int}(h:AG k=some i)(H:∀c p q,P (some (.UnaryOp .USub (.Constant (.int i) c p) q))):P k:=by
 cases k with
 |none=>exact no h
 |some e=>
  cases e with
  |UnaryOp op e p=>
   cases op with
   |USub=>exact m8 (P:=fun k=>∀e,k=some e→P (some (.UnaryOp .USub e p))) (e:=some e) h (fun c q _ z=>Option.some.inj z▸H _ _ _) e rfl
   |_=>exact no h
  |_=>exact no h
theorem kz{P:Expr→Prop}{e:Expr}{x:Str}(h:nameOf e=some x)(H:∀p,P (.Name x p)):P e:=by
 cases e with
 |Name y p=>exact er h (P:=fun d=>(∀p,P (.Name d p))→_) (fun H=>H _) H
 |_=>exact no h
theorem DL(B:ip X P m n)(t:fj X T)(ea:bq env T.sc){ks:List (Option Expr)}{es:List Expr}{xs:List Str}{js:List Nat}{dQ:jW}(h1:gY tO ks=some xs)(h2:gY T.nm xs=some js)(h:AK T (n+1) es=some dQ)(hl:ks.length=es.length):
  mG X P m env T.ν ks js es dQ∧∀j∈js,j<X.tab.length:=by
 cases es with
 |nil=>
  cases ks with
  |cons _ _=>cases hl
  |nil=>
   cases (Option.some.inj h)
   rw[il h1] at h2
   rw[il h2]
   exact⟨zU,fun _ h=>nomatch h⟩
 |cons e r=>
  cases ks with
  |nil=>cases hl
  |cons k ks=>
   obtain⟨_,h⟩:=dh h
   obtain⟨ie,ir,g1,g2,rfl⟩:=fN h
   obtain⟨x,xr,a1,a2,rfl⟩:=fk h1
   obtain⟨j,jr,b1,b2,rfl⟩:=fk h2
   obtain⟨e',rfl,a1⟩:=bind_some a1
   refine jN (P:=fun k=>mG X P m env T.ν (some k::ks) (j::jr) (e::r) (.cons ie ir)∧∀i∈j::jr,i<X.tab.length) a1 fun c p=> ?_
   obtain⟨c1,c2⟩:=t.nm b1
   obtain⟨d1,d2⟩:=B.ps T env t ea _ _ _ _ _ a2 b2 g2 (Nat.succ.inj hl)
   exact⟨xq c2 c1 (B.e T env t ea _ _ g1) d1,fun i hi=>by
    rcases List.mem_cons.mp hi with rfl|hi
    ·exact c2
    ·exact d2 i hi⟩
theorem GS(B:ip X P m n)(t:fj X T)(ea:bq env T.sc){op:BoolOp}{es:List Expr}{ie:IE}(h:km T (n+1) op es=some ie):qU X P m env T.ν op es ie:=by
 rcases es with _|⟨e,_|⟨e2,r⟩⟩
 ·exact no h
 ·exact zG (B.e T env t ea _ _ h)
 ·obtain⟨ia,ir,h1,h2,rfl⟩:=fN h
  cases op with
  |And=>exact zI (B.e T env t ea _ _ h1) (B.b T env t ea _ _ _ h2)
  |Or=>exact C9 (B.e T env t ea _ _ h1) (B.b T env t ea _ _ _ h2)
theorem GU(B:ip X P m n)(t:fj X T)(ea:bq env T.sc){op:BoolOp}{es:List Expr}{ie:IE}(h:km T (n+1) op es=some ie)(ht:iH (n+1) es=true):qV X P m env T.ν op es ie:=by
 rcases es with _|⟨e,_|⟨e2,r⟩⟩
 ·exact no h
 ·exact zJ (B.t T env t ea _ _ h ((Bool.and_eq_true _ _).mp ht).1)
 ·have ht:=(Bool.and_eq_true _ _).mp ht
  obtain⟨ia,ir,h1,h2,rfl⟩:=fN h
  cases op with
  |And=>exact zK (B.t T env t ea _ _ h1 ht.1) (B.a T env t ea _ _ _ h2 ht.2)
  |Or=>exact Dd (B.t T env t ea _ _ h1 ht.1) (B.a T env t ea _ _ _ h2 ht.2)
theorem GW(B:ip X P m n)(t:fj X T)(ea:bq env T.sc){e:Expr}{ie:IE}(h:tr T (n+1) e=some ie)(hE:az X P m env T.ν e ie)(ht:fC (n+1) e=true):iM X P m env T.ν e ie:=by
 revert X P m n env T e ie
 apply aO;intro
 generalize bL .. =X,bM .. =P,bQ .. =m,bR .. =n
 apply aM;intro
 generalize bI .. =env,bJ .. =T
 intro B t ea
 apply aM;intro
 generalize bI .. =e,bJ .. =ie
 intro h hE ht
 have E:∀{e ie},tr T n e=some ie→az X P m env T.ν e ie:=fun h=>B.e T env t ea _ _ h
 cases e with
 |BoolOp op es p=>exact qW p (B.a T env t ea _ _ _ h ht)
 |UnaryOp op a p=>
  cases op with
  |Not=>exact cJ h fun _ h1=>zL p (B.t T env t ea _ _ h1 ht)
  |_=>exact nomatch (ht:false=true)
 |Compare a ops bs p=>exact AH (Q:=fun ops bs ie=>iM X P m env T.ν (.Compare a ops bs p) ie) h (fun op _ _ _ q h1 h2=>zO op p (Bool.not_eq_true' _▸q) (E h1) (E h2)) fun op lP _ _ _ _ _ q h1 h2 h3=>tb op lP p (Bool.not_eq_true' _▸q) (E h1) (E h2) (E h3)
 |Name x p=>exact jx hE fun _=>rfl
 |Call f args yU p=>exact jx hE fun _=>rfl
 |Attribute a x p=>exact jx hE fun _=>rfl
 |Subscript a i p=>exact jx hE fun _=>rfl
 |Constant c k p=>exact jx hE fun _=>rfl
 |_=>exact nomatch (ht:false=true)
theorem yb(t:fj X T){a i:Expr}{ia ie:IE}{pos:Pos}{oi:Option IE}(ha:az X P m env T.ν a ia)(hi:∀ii,oi=some ii→az X P m env T.ν i ii)(hn:ij i=true)
  (h:(match strOf i with|some x=>(T.nm x).map (IE.eX ia)|none=>oi.map (IE.item ia))=some ie):az X P m env T.ν (.Subscript a i pos) ie:=by
 cases z:strOf i with
 |some x=>
  rw[z] at h
  exact cJ h fun k h2=>jN (P:=fun i=>az X P m env T.ν (.Subscript a i pos) (.eX ia k)) z fun c p=>xh pos _ (t.nm h2).1 ha
 |none=>
  rw[z] at h
  exact cJ h fun _ h2=>zR pos (p7 hn) ha (hi _ h2)
theorem AQ{α β γ:Type}[BEq γ][LawfulBEq γ]{a:Option α}{b:Option β}{c d:γ}(h:(a.isNone && b.isNone && c == d)=true):a=none∧b=none∧c=d:=
 have h1:=Bool.and_eq_true_iff.mp h
 have h2:=Bool.and_eq_true_iff.mp h1.1
 ⟨Option.isNone_iff_eq_none.mp h2.1,Option.isNone_iff_eq_none.mp h2.2,eq_of_beq h1.2⟩
theorem yc(pk:oj X P){a:Expr}{l u s:Option Expr}{ia ie:IE}{p pos:Pos}(q:cw a=true)(ha:az X P m env T.ν a ia)(h:Nf l u s ia=some ie):az X P m env T.ν (.Subscript a (.Slice l u s p) pos) ie:=by
 refine fO h (fun z h1=> ?_) fun h=>fO h (fun z h1=> ?_) fun h=>fO h (fun z h1=> ?_) fun h=>no h
 ·have z:=AQ z
  rw[z.1,z.2.1]
  exact er h1 (m8 (P:=fun u=>az X P m env T.ν (.Subscript a (.Slice none u none p) pos) (.ma ia)) z.2.2 fun c p'=>tf _ _ pos pk (ky q) ha)
 ·have z:=AQ z
  rw[z.1,z.2.1]
  exact er h1 (m8 (P:=fun l=>az X P m env T.ν (.Subscript a (.Slice l none none p) pos) (.qQ ia)) z.2.2 fun c p'=>xn _ _ pos (ky q) ha)
 ·have z:=AQ z
  rw[z.1,z.2.1]
  exact er h1 (AP (P:=fun s=>az X P m env T.ν (.Subscript a (.Slice none none s p) pos) (.rev ia)) z.2.2 fun c p' p2=>Dj _ _ _ pos (ky q) ha)
theorem AR(pk:oj X P)(B:ip X P m n)(t:fj X T)(ea:bq env T.sc){a i:Expr}{ie:IE}(pos:Pos)(h:AJ T (n+1) a i=some ie):az X P m env T.ν (.Subscript a i pos) ie:=by
 revert X P m n env T a i ie pos
 apply aO;intro
 generalize bL .. =X,bM .. =P,bQ .. =m,bR .. =n
 apply aM;intro
 generalize bI .. =env,bJ .. =T
 intro pk B t ea
 apply aO;intro
 generalize bL .. =a,bM .. =i,bQ .. =ie,bR .. =pos
 intro h
 obtain⟨ia,h1,h⟩:=bind_some h
 have ha:=B.e T env t ea _ _ h1
 cases i with
 |Slice l u s p=>obtain⟨q,h⟩:=dh h;exact yc pk q ha h
 |_=>exact yb t ha (fun _ h2=>B.e T env t ea _ _ h2) rfl h
theorem lV{es:List Expr}{s:Str}{ss:List Str}{Q:List Expr→Prop}(h:AI T es (s::ss)=true)(H:∀y p r,T.b y s=true→AI T r ss=true→Q (.Name y p::r)):Q es:=by
 cases es with
 |nil=>exact absurd h Bool.false_ne_true
 |cons e r=>
  have h:=Bool.and_eq_true_iff.mp h
  have h1:=h.1
  cases q:nameOf e with
  |none=>rw[q] at h1;exact absurd h1 Bool.false_ne_true
  |some y=>rw[q] at h1;exact kz (P:=fun e=>Q (e::r)) q fun p=>H y p r h1 h.2
theorem AS{es:List Expr}{Q:List Expr→Prop}(h:AI T es []=true)(H:Q []):Q es:=by
 cases es with
 |nil=>exact H
 |cons _ _=>exact absurd h Bool.false_ne_true
theorem DM(ea:bq env T.sc)(t:fj X T){x s:Str}{Ts:String}(e:T.b x s=true)(hs:bootBuiltins s=some (.type Ts)):Dq X env x Ts:=
 have h:=GQ ea t e
 ⟨h.2.1,h.2.2.1,h.2.2.2.1,h.1▸hs,h.2.2.2.2⟩
def RX(X:Cx)(env:Env)(x:Str):Prop:=env.kindOf x=some .globalImplicit∧(x == ("__debug__":Str))=false∧nsIn X.K mainGlobals x=some none∧bootBuiltins x=some (.builtin "isinstance")∧x≠"__name__"
theorem AU(t:fj X T)(ea:bq env T.sc){x y:Str}{a:Expr}{p p2 pos:Pos}{ie:IE}{o:Option IE}(bx:RX X env x)(sa:notStar a=true)(ha:∀ia,o=some ia→az X P m env T.ν a ia)
  (h:(bif T.b y "int" then o.map .isInt else bif T.b y "bool" then o.map .isBool else none)=some ie):az X P m env T.ν (.Call (.Name x p) [a,.Name y p2] [] pos) ie:=by
 have iN:starEach [a,.Name y p2] env=[(false,eval a env),(false,eval (.Name y p2) env)]:=by rw[aD sa];rfl
 rcases eJ h with⟨hy,h1⟩|⟨_,h1⟩
 ·obtain⟨ia,h2,rfl⟩:=map_some h1
  have z:=DM ea t hy (Ts:="int") (by decide+kernel)
  exact xA p p2 pos ea.toEnvOk bx.1 bx.2.1 bx.2.2.1 bx.2.2.2.1 bx.2.2.2.2 z.1 z.2.1 z.2.2.1 z.2.2.2.1 z.2.2.2.2 iN (ha _ h2)
 rcases eJ h1 with⟨hy,h1⟩|⟨_,h1⟩
 ·obtain⟨ia,h2,rfl⟩:=map_some h1
  have z:=DM ea t hy (Ts:="bool") (by decide+kernel)
  exact th p p2 pos ea.toEnvOk bx.1 bx.2.1 bx.2.2.1 bx.2.2.2.1 bx.2.2.2.2 z.1 z.2.1 z.2.2.1 z.2.2.2.1 z.2.2.2.2 iN (ha _ h2)
 ·exact no h1
theorem DN(t:fj X T)(ea:bq env T.sc){x:Str}{a:Expr}{es:List Expr}{k:Nat}{p p5 pos:Pos}{ia:IE}(bx:RX X env x)(sa:notStar a=true)(ha:az X P m env T.ν a ia)
  (q:rowNames T es=true):az X P m env T.ν (.Call (.Name x p) [a,.Tuple es k p5] [] pos) (.g0 ia):=by
 refine lV (Q:=fun es=>az X P m env T.ν (.Call (.Name x p) [a,.Tuple (es) k p5] [] pos) (.g0 ia)) q fun y1 p1 _ q1 h=> ?_
 refine lV (Q:=fun es=>az X P m env T.ν (.Call (.Name x p) [a,.Tuple (.Name y1 p1::es) k p5] [] pos) (.g0 ia)) h fun y2 p2 _ q2 h=> ?_
 refine lV (Q:=fun es=>az X P m env T.ν (.Call (.Name x p) [a,.Tuple (.Name y1 p1:: .Name y2 p2::es) k p5] [] pos) (.g0 ia)) h fun y3 p3 _ q3 h=> ?_
 refine lV (Q:=fun es=>az X P m env T.ν (.Call (.Name x p) [a,.Tuple (.Name y1 p1:: .Name y2 p2:: .Name y3 p3::es) k p5] [] pos) (.g0 ia)) h fun y4 p4 _ q4 h=> ?_
 refine AS (Q:=fun es=>az X P m env T.ν (.Call (.Name x p) [a,.Tuple (.Name y1 p1:: .Name y2 p2:: .Name y3 p3:: .Name y4 p4::es) k p5] [] pos) (.g0 ia)) h ?_
 exact xB p p1 p2 p3 p4 p5 pos ea.toEnvOk bx.1 bx.2.1 bx.2.2.1 bx.2.2.2.1 bx.2.2.2.2 (DM ea t q1 (by decide+kernel)) (DM ea t q2 (by decide+kernel)) (DM ea t q3 (by decide+kernel)) (DM ea t q4 (by decide+kernel)) (by rw[aD sa];rfl) ha
theorem yd(B:ip X P m n)(t:fj X T)(ea:bq env T.sc){x:Str}{args:List Expr}{p pos:Pos}{ie:IE}(bx:RX X env x)(h:E3 T (tr T n) args=some ie):az X P m env T.ν (.Call (.Name x p) args [] pos) ie:=by
 rcases args with _|⟨a,_|⟨t',_|_⟩⟩
 ·exact no h
 ·exact no h
 ·obtain⟨sa,h1⟩:=dh h
  cases t' with
  |Name y p2=>exact AU t ea bx sa (fun _ h2=>B.e T env t ea _ _ h2) h1
  |Tuple es tk p5=>
   exact cX h1 fun q h1=>cJ h1 fun _ h2=>DN t ea bx sa (B.e T env t ea _ _ h2) q
  |_=>exact no h1
 ·exact no h
theorem ye(pk:oj X P)(co:dU X P m)(B:ip X P m n)(t:fj X T)(ea:bq env T.sc){x:Str}{args:List Expr}{p pos:Pos}{ie:IE}(h:tP T (n+1) x args pos=some ie):az X P m env T.ν (.Call (.Name x p) args [] pos) ie:=by
 revert X P m n env T x args p pos ie
 apply aO;intro
 generalize bL .. =X,bM .. =P,bQ .. =m,bR .. =n
 apply aM;intro
 generalize bI .. =env,bJ .. =T
 intro pk co B t ea
 apply aO;intro
 generalize bL .. =x,bM .. =args,bQ .. =p,bR .. =pos
 apply aI;intro
 generalize nx .. =ie
 intro h
 have h:Ng T (T.g x) x args (AK T n args) (tr T n)=some ie:=h
 cases hg:T.g x with
 |none=>rw[hg] at h;exact no h
 |some g=>
 rw[hg] at h
 obtain⟨k1,k2,k3⟩:=p6 ea t hg
 cases g with
 |fn f=>
  obtain⟨dQ,h1,rfl⟩:=map_some h
  obtain⟨s1,s2⟩:=B.es T env t ea _ _ h1
  exact xu p pos co ea.toEnvOk k1 k2 k3.1 k3.2 (s2.any env pos) (s2.star env) s1
 |cls c=>
  obtain⟨dQ,h1,rfl⟩:=map_some h
  obtain⟨s1,s2⟩:=B.es T env t ea _ _ h1
  exact xv p pos pk co ea.toEnvOk k1 k2 k3.1 k3.2 (s2.any env pos) (s2.star env) s1
 |bi=>
  rcases eJ h with⟨q,g⟩|⟨_,h⟩
  ·have q:x=("isinstance":Str):=by simpa using q
   subst q
   have hv:bootBuiltins ("isinstance":Str)=some (.builtin "isinstance"):=by decide+kernel
   exact yd B t ea ⟨k1,k2,k3.1,hv,k3.2⟩ g
  ·obtain⟨b,hb,h⟩:=bind_some h
   obtain⟨dQ,h1,rfl⟩:=map_some h
   obtain⟨s1,s2⟩:=B.es T env t ea _ _ h1
   obtain⟨v,hv,hr,lf⟩:=AM (X:=X) hb
   exact xw p pos lf ea.toEnvOk k1 k2 k3.1 hv k3.2 hr (s2.any env pos) (s2.star env) s1
 |_=>exact no h
theorem p8{f:Expr→Option IE}{k:IE→IE}{args:List Expr}{ie:IE}(h:m1 f k args=some ie):∃a ia,args=[a]∧notStar a=true∧f a=some ia∧k ia=ie:=by
 rcases args with _|⟨a,_|_⟩
 ·exact no h
 ·obtain⟨sa,h⟩:=dh h
  obtain⟨ia,h1,h2⟩:=map_some h
  exact⟨a,ia,rfl,sa,h1,h2⟩
 ·exact no h
theorem vw{f:Expr→Option IE}{k:IE→IE→IE}{args:List Expr}{ie:IE}(h:m2 f k args=some ie):∃a b ia ib,args=[a,b]∧notStar a=true∧notStar b=true∧f a=some ia∧f b=some ib∧k ia ib=ie:=by
 rcases args with _|⟨a,_|⟨b,_|_⟩⟩
 ·exact no h
 ·exact no h
 ·obtain⟨s,h⟩:=dh h
  rw[Bool.and_eq_true] at s
  obtain⟨ia,ib,h1,h2,h3⟩:=fN h
  exact⟨a,b,ia,ib,rfl,s.1,s.2,h1,h2,h3⟩
 ·exact no h
theorem yf{f:Expr→Option IE}{o:Expr}{io:IE}{x:Str}{args:List Expr}{apos pos:Pos}{ie:IE}(hb:cv o=true)(hl:(apos.endLine == pos.line)=true)(ho:az X P m env T.ν o io)(E:∀e ie,f e=some ie→az X P m env T.ν e ie)(q:(x == ("append":Str))=true)
  (g:m1 f (.append io) args=some ie):az X P m env T.ν (.Call (.Attribute o x apos) args [] pos) ie:=by
 rw[eq_of_beq q]
 obtain⟨a,ia,rfl,sa,h2,rfl⟩:=p8 g
 exact ti apos pos hb hl sa ho (E _ _ h2)
theorem yg{f:Expr→Option IE}{o:Expr}{io:IE}{x:Str}{args:List Expr}{apos pos:Pos}{ie:IE}(hb:cv o=true)(hl:(apos.endLine == pos.line)=true)(ho:az X P m env T.ν o io)(E:∀e ie,f e=some ie→az X P m env T.ν e ie)(q:(x == ("extend":Str))=true)
  (g:m1 f (.extend io) args=some ie):az X P m env T.ν (.Call (.Attribute o x apos) args [] pos) ie:=by
 rw[eq_of_beq q]
 obtain⟨a,ia,rfl,sa,h2,rfl⟩:=p8 g
 exact tj apos pos hb hl sa ho (E _ _ h2)
theorem yh{f:Expr→Option IE}{o:Expr}{io:IE}{x:Str}{args:List Expr}{apos pos:Pos}{ie:IE}(hb:cv o=true)(hl:(apos.endLine == pos.line)=true)(ho:az X P m env T.ν o io)(E:∀e ie,f e=some ie→az X P m env T.ν e ie)(q:(x == ("insert":Str))=true)
  (g:m2 f (.insert io) args=some ie):az X P m env T.ν (.Call (.Attribute o x apos) args [] pos) ie:=by
 rw[eq_of_beq q]
 obtain⟨a,b,ia,ib,rfl,sa,sb,h2,h3,rfl⟩:=vw g
 exact tm apos pos hb hl sa sb ho (E _ _ h2) (E _ _ h3)
theorem vx{f:Expr→Option IE}{o:Expr}{io:IE}{args:List Expr}{apos pos:Pos}{ie:IE}(hb:cv o=true)(hl:(apos.endLine == pos.line)=true)(ho:az X P m env T.ν o io)(E:∀e ie,f e=some ie→az X P m env T.ν e ie)
  (g:m2 f (.zt io) args=some ie):az X P m env T.ν (.Call (.Attribute o "get" apos) args [] pos) ie:=by
 obtain⟨a,b,ia,ib,rfl,sa,sb,h2,h3,rfl⟩:=vw g
 exact Aa apos pos hb hl sa sb ho (E _ _ h2) (E _ _ h3)
theorem GX{f:Expr→Option IE}{o:Expr}{io:IE}{x:Str}{args:List Expr}{apos pos:Pos}{ie:IE}(hb:cv o=true)(hl:(apos.endLine == pos.line)=true)(ho:az X P m env T.ν o io)(E:∀e ie,f e=some ie→az X P m env T.ν e ie)(q:(x == ("get":Str))=true)
  (g:Nh f io args=some ie):az X P m env T.ν (.Call (.Attribute o x apos) args [] pos) ie:=by
 rw[eq_of_beq q]
 rcases args with _|⟨a,_|⟨b,r⟩⟩
 ·exact vx hb hl ho E g
 ·obtain⟨a,ia,e,sa,h2,rfl⟩:=p8 (f:=f) (k:=.zr io) (args:=[a]) g
  cases e
  exact z9 apos pos hb hl sa ho (E _ _ h2)
 ·exact vx hb hl ho E g
theorem yi(pk:oj X P)(co:dU X P m)(B:ip X P m n)(t:fj X T)(ea:bq env T.sc){o:Expr}{x:Str}{args:List Expr}{apos pos:Pos}{ie:IE}(h:tQ T (n+1) o x apos args pos=some ie):az X P m env T.ν (.Call (.Attribute o x apos) args [] pos) ie:=by
 revert X P m n env T o x args apos pos ie
 apply aO;intro
 generalize bL .. =X,bM .. =P,bQ .. =m,bR .. =n
 apply aM;intro
 generalize bI .. =env,bJ .. =T
 intro pk co B t ea
 apply aO;intro
 generalize bL .. =o,bM .. =x,bQ .. =args,bR .. =apos
 apply aM;intro
 generalize bI .. =pos,bJ .. =ie
 intro h
 obtain⟨q,h⟩:=dh h
 simp only[Bool.and_eq_true,decide_eq_true_eq] at q
 obtain⟨⟨hb,hl⟩,hn⟩:=q
 obtain⟨io,h1,h⟩:=bind_some h
 have E:∀{e ie},tr T n e=some ie→az X P m env T.ν e ie:=fun h=>B.e T env t ea _ _ h
 have ho:=E h1
 rcases eJ h with⟨q,g⟩|⟨_,h⟩
 ·exact yf hb hl ho (fun _ _=>E) q g
 rcases eJ h with⟨q,g⟩|⟨_,h⟩
 ·exact yg hb hl ho (fun _ _=>E) q g
 rcases eJ h with⟨q,g⟩|⟨_,h⟩
 ·exact yh hb hl ho (fun _ _=>E) q g
 rcases eJ h with⟨q,g⟩|⟨_,h⟩
 ·exact GX hb hl ho (fun _ _=>E) q g
 ·obtain⟨k,dQ,h2,h3,rfl⟩:=fN h
  obtain⟨s1,s2⟩:=B.es T env t ea _ _ h3
  exact xC apos pos pk co (t.nm h2).1 hb hl hn (s2.all env pos) (s2.any env pos) (s2.star env) ho s1
theorem src_range{ν:Nu}{x:Str}{a:Expr}{ia:IE}{p pos:Pos}(z:Dq X env x "range")(ev:EnvOk env)(sa:notStar a=true)(ha:az X P m env ν a ia):dM X P m env ν (.Call (.Name x p) [a] [] pos) (.range ia):=
 tA _ _ ev z.1 z.2.1 z.2.2.1 z.2.2.2.1 z.2.2.2.2 sa ha
theorem AV{ν:Nu}{x:Str}{a:Expr}{ia:IE}{p pos:Pos}(z:Dq X env x "enumerate")(ev:EnvOk env)(sa:notStar a=true)(ha:az X P m env ν a ia):dM X P m env ν (.Call (.Name x p) [a] [] pos) (.enum ia):=
 xG _ _ ev z.1 z.2.1 z.2.2.1 z.2.2.2.1 z.2.2.2.2 sa ha
theorem DO{ν:Nu}{x:Str}{a b:Expr}{ia ib:IE}{p pos:Pos}(z:Dq X env x "zip")(ev:EnvOk env)(Xo:(notStar a && notStar b)=true)(ha:az X P m env ν a ia)(hb:az X P m env ν b ib):dM X P m env ν (.Call (.Name x p) [a,b] [] pos) (.zip ia ib):=
 have s:=Bool.and_eq_true_iff.mp Xo
 Ai _ _ ev z.1 z.2.1 z.2.2.1 z.2.2.2.1 z.2.2.2.2 s.1 s.2 ha hb
theorem AW(B:ip X P m n)(t:fj X T)(ea:bq env T.sc){e:Expr}{is:g7}(h:vv T (n+1) e=some is):dM X P m env T.ν e is:=by
 revert X P m n env T e is
 apply aO;intro
 generalize bL .. =X,bM .. =P,bQ .. =m,bR .. =n
 apply aM;intro
 generalize bI .. =env,bJ .. =T
 intro B t ea
 apply aM;intro
 generalize bI .. =e,bJ .. =is
 intro h
 have E:∀{e ie},tr T n e=some ie→az X P m env T.ν e ie:=fun h=>B.e T env t ea _ _ h
 have plain:∀{e is},(tr T n e).map g7.items=some is→dM X P m env T.ν e is:=fun h=>cJ h fun _ h1=>tx (E h1)
 cases e with
 |Call g args yU pos=>
  cases g with
  |Name x p=>
   rcases yU with _|_
   ·rcases args with _|⟨a,_|⟨b,_|_⟩⟩
    ·exact plain h
    ·exact fO h (fun hx h=>cX h fun sa h=>cJ h fun _ h1=>src_range (DM ea t hx (by decide+kernel)) ea.toEnvOk sa (E h1)) fun h=>
      fO h (fun hx h=>cX h fun sa h=>cJ h fun _ h1=>AV (DM ea t hx (by decide+kernel)) ea.toEnvOk sa (E h1)) plain
    ·exact fO h (fun hx h=>cX h fun sa h=>iU h fun _ _ h1 h2=>DO (DM ea t hx (by decide+kernel)) ea.toEnvOk sa (E h1) (E h2)) plain
    ·exact plain h
   ·exact plain h
  |_=>exact plain h
 |_=>exact plain h
end
section
variable {X:Cx}{P:ef}{m n:Nat}{env:Env}{T:TE}
theorem fU(scope:Scope)(env:Env)(sc:List (Str×NameKind))(hk:env.scope.kind=.function)(hs:env.scope.names=sc):(relabel scope env).names=fB scope.names sc:=by
 unfold relabel fB
 dsimp only
 congr 1
 funext p
 obtain⟨x,k⟩:=p
 dsimp only
 have e1:(env.scope.kind == ScopeKind.function)=true:=by rw[hk];rfl
 have e2:env.kindOf x=sc.lookup x:=by unfold Env.kindOf;rw[hs]
 rw[e1,e2,Bool.and_true]
theorem dX{α:Type}(p:Str→Bool):∀(l:List (Str×α)) (x:Str),p x=true→(l.filter fun q=>p q.1).lookup x=l.lookup x
 |[],_,_=>rfl
 |(y,v)::r,x,h=>by
  rw[List.filter_cons]
  by_cases q:(x == y)=true
  ·have e:x=y:=by simpa using q
   subst e
   rw[if_pos h,List.lookup_cons,List.lookup_cons,q]
  ·rw[Bool.not_eq_true] at q
   split
   ·rw[List.lookup_cons,List.lookup_cons,q];exact dX p r x h
   ·rw[List.lookup_cons,q];exact dX p r x h
theorem dY{α:Type}(p:Str→Bool):∀(l:List (Str×α)) (x:Str) (v:α),(l.filter fun q=>p q.1).lookup x=some v→p x=true
 |[],_,_,h=>by simp at h
 |(y,w)::r,x,v,h=>by
  rw[List.filter_cons] at h
  split at h
  ·rename_i hp
   rw[List.lookup_cons] at h
   by_cases q:(x == y)=true
   ·have e:x=y:=by simpa using q
    rw[e];exact hp
   ·rw[Bool.not_eq_true] at q
    rw[q] at h
    exact dY p r x v h
  ·exact dY p r x v h
theorem AX{α:Type}{l:List (Str×α)}{x:Str}{v:α}(h:l.lookup x=some v):(x,v)∈l:=mem_of_lookup h
theorem kY{f:Str→Option Nat}{xs:List Str}:∀{tg:List (Str×Nat)} {y:Str} {j:Nat},gY (fun x=>(f x).map fun i=>(x,i)) xs=some tg→tg.lookup y=some j→f y=some j∧y∈xs:=by
 induction xs with
 |nil=>
  intro _ _ _ e h;rw[il e] at h;simp at h
 |cons x r ih=>
  intro _ y j e h
  obtain⟨b,br,h1,h2,rfl⟩:=fk e
  obtain⟨i,h3,rfl⟩:=Option.map_eq_some_iff.mp h1
  rw[List.lookup_cons] at h
  by_cases q:(y == x)=true
  ·have e:y=x:=by simpa using q
   subst e
   rw[q] at h
   cases h
   exact⟨h3,.head _⟩
  ·rw[Bool.not_eq_true] at q
   rw[q] at h
   obtain⟨k1,k2⟩:=ih h2 h
   exact⟨k1,.tail _ k2⟩
theorem lF{names sc:List (Str×NameKind)}{y:Str}(h:names.lookup y=some .free)(hs:sc.lookup y=some .cell):(fB names sc).lookup y=some .cell:=by
 unfold fB
 induction names with
 |nil=>simp at h
 |cons p r ih=>
  obtain⟨x,k⟩:=p
  rw[List.lookup_cons] at h
  rw[List.map_cons]
  dsimp only
  by_cases q:(y == x)=true
  ·have e:y=x:=by simpa using q
   subst e
   rw[q] at h
   cases h
   rw[hs]
   simp[List.lookup_cons]
  ·rw[Bool.not_eq_true] at q
   rw[q] at h
   split<;>(rw[List.lookup_cons,q];exact ih h)
theorem jO{names sc:List (Str×NameKind)}{x:Str}{k:NameKind}(h:(x,k)∈fB names sc):(x,k)∈names∨(k=.cell∧(x,NameKind.free)∈names):=by
 revert names sc x k
 apply aO;intro
 generalize bL .. =names,bM .. =sc,bQ .. =x,bR .. =k
 intro h
 unfold fB at h
 obtain⟨p,hp,e⟩:=List.mem_map.mp h
 obtain⟨y,k'⟩:=p
 dsimp only at e
 split at e
 ·rename_i q
  cases e
  rw[Bool.and_eq_true] at q
  have:k'=.free:=by simpa using q.1
  subst this
  exact .inr ⟨rfl,hp⟩
 ·cases e;exact .inl hp
def vy(T:TE)(scope:Scope):Prop:=∀p∈scope.names,p.2≠.cell∧(p.2=.local→scope.names.lookup p.1=some .local)∧(p.2=.free→T.sc.lookup p.1=some .cell)
theorem GY{T:TE}{scope:Scope}(h:scope.names.all (fun p=>p.2 !=.cell && (p.2 !=.local || scope.names.lookup p.1 == some .local) && (p.2 !=.free || T.sc.lookup p.1 == some .cell))=true):vy T scope:=fun p hp=>by
 have:=List.all_eq_true.mp h p hp
 simp only[Bool.and_eq_true,bne_iff_ne,ne_eq,Bool.or_eq_true,beq_iff_eq] at this
 exact⟨this.1.1,fun e=>this.1.2.resolve_left fun z=>z e,fun e=>this.2.resolve_left fun z=>z e⟩
def GZ(T:TE)(xs:List Str)(tg:List (Str×Nat)):Prop:=gY (fun x=>(T.ν.lookup x).map fun i=>(x,i)) xs=some tg
theorem vz{T:TE}{scope:Scope}{tg:List (Str×Nat)}{y:Str}{j:Nat}(h:(T.inner scope tg).ν.lookup y=some j):tg.lookup y=some j∨scope.names.lookup y=some .free∧T.ν.lookup y=some j:=by
 unfold TE.inner at h
 dsimp only at h
 rw[List.lookup_append] at h
 cases z:tg.lookup y with
 |some i=>rw[z] at h;exact .inl h
 |none=>
  rw[z] at h
  have h:(T.ν.filter fun p=>scope.names.lookup p.1 == some .free).lookup y=some j:=by simpa using h
  have hp:=dY (fun x=>scope.names.lookup x == some NameKind.free) T.ν y j h
  rw[dX (fun x=>scope.names.lookup x == some NameKind.free) T.ν y hp] at h
  exact .inr ⟨eq_of_beq hp,h⟩
theorem tV{T:TE}{scope:Scope}{xs:List Str}{tg:List (Str×Nat)}(k:GZ T xs tg){y:Str}{j:Nat}(h:(T.inner scope tg).ν.lookup y=some j):T.ν.lookup y=some j:=
 (vz h).elim (fun q=>(kY k q).1) And.right
theorem AY{T:TE}{scope:Scope}{xs:List Str}{tg:List (Str×Nat)}(t:fj X T)(k:GZ T xs tg):fj X (T.inner scope tg):=
 ⟨t.tab,fun x y i a b=>t.inj x y i (tV k a) (tV k b),fun x i a=>t.pZ x i (tV k a),t.glob⟩
theorem vA(ea:bq env T.sc){scope:Scope}(a:vy T scope):∀x∈scope.names,x.2=.free→∃ca,env.cells.lookup x.1=some ca:=fun x hx e=>ea.cells x.1 (.inl (mem_of_lookup ((a x hx).2.2 e)))
theorem G0(ea:bq env T.sc){scope:Scope}(a:vy T scope){tg:List (Str×Nat)}(hk:scope.kind=.function){cl:List (Str×Addr)}{C:Addr}(hl:∀y ca,(y,NameKind.free)∈scope.names→env.cells.lookup y=some ca→cl.lookup y=some ca):bq (compEnvC scope cl C env) (T.inner scope tg).sc:=by
 refine⟨⟨hk,ea.globals,ea.builtins⟩,fU scope env T.sc ea.kind ea.names,fun x hx=> ?_⟩
 have hx:(x,NameKind.free)∈scope.names:=by
  rcases hx with hx|hx
  ·rcases jO hx with q|⟨_,q⟩
   ·exact absurd rfl (a _ q).1
   ·exact q
  ·rcases jO hx with q|⟨q,_⟩
   ·exact q
   ·cases q
 exact(vA ea a _ hx rfl).elim fun ca e=>⟨ca,hl x ca hx e⟩
theorem G1(ea:bq env T.sc){scope:Scope}(a:vy T scope){tg:List (Str×Nat)}{target:Expr}{ct:List Nat}(k:GZ T (jL target) tg)(h1:o6 (T.inner scope tg) target=some ct)
  {cl:List (Str×Addr)} {C:Addr} (hl:∀y ca,(y,NameKind.free)∈scope.names→env.cells.lookup y=some ca→cl.lookup y=some ca):GD env (compEnvC scope cl C env) T.ν (T.inner scope tg).ν ct:=by
 intro y j hy
 rcases vz hy with z|⟨hf,z⟩
 ·exact .inl (DJ h1 y (kY k z).2 j hy)
 ·have hc:=(a _ (mem_of_lookup hf)).2.2 rfl
  refine .inr ⟨z,?_,.inl ?_,fun ca e=>hl y ca (mem_of_lookup hf) e⟩
  ·rw[lU ea,hc];decide
  ·exact(congrArg (List.lookup y) (fU scope env T.sc ea.kind ea.names)).trans (lF hf hc)
theorem tW(B:ip X P m n)(t:fj X T)(ea:bq env T.sc){elt target iter:Expr}{scope:Scope}{ie:IE}(h:kq T (n+1) elt target iter scope=some ie):jM X P m env T.ν elt target iter scope ie:=
 cF h fun tg k h=>cX h fun q h=>cF h fun ct h1 h=>cF h fun is h2 h=>cX h fun lR h=>cJ h fun ielt h3=>
  have q:=Bool.and_eq_true_iff.mp q
  have q1:=Bool.and_eq_true_iff.mp q.1
  have a:=GY q1.2
  have hk:=eq_of_beq q1.1
  .mk (vA ea a) hk (fun y hy=>(a y hy).1) (fun x hx=>(a x hx).2.1) q.2 (fun _ _=>o7 (fU scope env T.sc ea.kind ea.names) h1) (AY t k).inj (fun _ _ hl=>G1 ea a k h1 hl) (B.src T env t ea _ _ h2)
   (fun _ _ hl=>B.e _ _ (AY t k) (G0 ea a hk hl) _ _ h3) (((Bool.or_eq_true _ _).mp lR).imp_right fun q=>Bool.and_eq_true_iff.mp q)
theorem G2(pk:oj X P)(co:dU X P m):∀n,ip X P m n
 |0=>ip.zero
 |n+1=>by
  have B:=G2 pk co n
  exact⟨fun T env t ea e ie h=>AN pk B t ea h,fun T env t ea es dQ h=>DK B t ea h,fun T env t ea ks es xs js dQ h1 h2 h hl=>DL B t ea h1 h2 h hl,fun T env t ea op es ie h=>GS B t ea h,
   fun T env t ea e ie h ht=>GW B t ea h (AN pk B t ea h) ht,fun T env t ea op es ie h ht=>GU B t ea h ht,fun T env t ea a i ie pos h=>AR pk B t ea pos h,fun T env t ea x args p pos ie h=>ye pk co B t ea h,
   fun T env t ea o x apos args pos ie h=>yi pk co B t ea h,fun T env t ea e is h=>AW B t ea h,fun T env t ea elt target iter scope ie h=>by
    exact B.parts T env t ea _ _ _ _ _ h,fun T env t ea elt target iter scope ie h=>tW B t ea h⟩
end
end
section
open PyProof.Rows PySem.Calls PySem.W
set_option genInjectivity false
section
variable {X:Cx}{P:ef}{m n:Nat}{env:Env}{T:TE}
structure E7(X:Cx)(P:ef)(m n:Nat):Prop where
 s:∀T env,fj X T→bq env T.sc→∀s is,RV T n s=some is→dN X P m env T.ν s is
 ss:∀T env,fj X T→bq env T.sc→∀ss RY,oC T n ss=some RY→fM X P m env T.ν ss RY
theorem p9(ea:bq env T.sc){ts:List Expr}{k:Nat}{p:Pos}{v:Expr}(h:AL T ts v=true):
  swappedStores [.Tuple ts k p] v env=pure none∨∃names,swappedStores [.Tuple ts k p] v env=pure (some names)∧names=ts.filterMap nameOf:=by
 revert env T ts k p v
 apply aM;intro
 generalize bI .. =env,bJ .. =T
 intro ea
 apply aO;intro
 generalize bL .. =ts,bM .. =k,bQ .. =p,bR .. =v
 intro h
 have e0:(fun x=>T.sc.lookup x)=env.kindOf:=by funext x;rw[lU ea]
 cases v with
 |Tuple vs k' p'=>
  have h:E4 ts (jH ts vs fun x=>T.sc.lookup x)=true:=h
  rw[e0] at h
  cases q:jH ts vs env.kindOf with
  |none=>rw[q] at h;exact absurd h Bool.false_ne_true
  |some o=>
   rw[q] at h
   cases o with
   |none=>exact .inl (mT ea.kind q)
   |some names=>exact .inr ⟨names,mT ea.kind q,eq_of_beq h⟩
 |_=>exact .inl (ou rfl)
theorem yj{e:Option Expr}{q:Str×Str}{Q:Option Expr→Prop}(h:tR e=some q)(H:∀p1 c p2 p3,Q (some (.Call (.Name q.1 p1) [.Constant (.str q.2) c p2] [] p3))):Q e:=by
 cases e with
 |none=>exact no h
 |some e=>
  cases e with
  |Call g args yU pos=>
   rcases yU with _|_
   ·rcases args with _|⟨a,_|_⟩
    ·exact no h
    ·exact iU (P:=fun q=>(∀p1 c p2 p3,Q (some (.Call (.Name q.1 p1) [.Constant (.str q.2) c p2] [] p3)))→Q (some (.Call g [a] [] pos))) h (fun x y h1 h2 H=>
      kz (P:=fun g=>Q (some (.Call g [a] [] pos))) h1 fun p=>jN (P:=fun a=>Q (some (.Call (.Name x p) [a] [] pos))) h2 fun c p2=>H p c p2 pos) H
    ·exact no h
   ·exact no h
  |_=>exact no h
theorem AZ{b:List Stmt}{q:Expr×Str}{Q:List Stmt→Prop}(h:E5 b=some q)(H:∀c p1 p2,Q [.Assign [q.1] (.Constant (.str q.2) c p1) p2]):Q b:=by
 rcases b with _|⟨s,_|_⟩
 ·exact no h
 ·cases s with
  |Assign ts v p=>
   rcases ts with _|⟨t,_|_⟩
   ·exact no h
   ·exact cJ (P:=fun q:Expr×Str=>(∀c p1 p2,Q [.Assign [q.1] (.Constant (.str q.2) c p1) p2])→Q [.Assign [t] v p]) h (fun x h1 H=>jN (P:=fun v=>Q [.Assign [t] v p]) h1 fun c p2=>H c p2 p) H
   ·exact no h
  |_=>exact no h
 ·exact no h
theorem iq{r:IS}{exc:Option Expr}{pos:Pos}{ν:Nu}(h:r=.stuck):dN X P m env ν (.Raise exc none pos) r:=h▸mQ _
theorem rM(t:fj X T)(ea:bq env T.sc)(RO:ej X)(exc cause:Option Expr)(pos:Pos):dN X P m env T.ν (.Raise exc cause pos) (gJ T exc cause):=by
 revert X P m env T exc cause pos
 apply aO;intro
 generalize bL .. =X,bM .. =P,bQ .. =m,bR .. =env
 apply aI;intro
 generalize nx .. =T
 intro t ea RO
 apply aM;intro
 generalize bI .. =exc,bJ .. =cause
 apply aI;intro
 generalize nx .. =pos
 cases cause with
 |some _=>exact mQ _
 |none=>
  cases z:tR exc with
  |none=>exact iq (by unfold gJ;rw[z])
  |some q=>
   cases hg:T.g q.1 with
   |none=>exact iq (by unfold gJ;rw[z];dsimp only;rw[hg])
   |some g=>
    cases g with
    |bad=>
     rw[show gJ T _ none=.raise by unfold gJ;rw[z];dsimp only;rw[hg]]
     have k:=p6 ea t hg
     exact yj (Q:=fun e=>dN X P m env T.ν (.Raise e none pos) .raise) z fun _ _ _ _=>tN _ _ _ _ RO ea.toEnvOk k.1 k.2.1 k.2.2
    |_=>exact iq (by unfold gJ;rw[z];dsimp only;rw[hg])
theorem DP{hs:List ExceptHandler}{q:Nat×Str}{Q:List ExceptHandler→Prop}(h:tS T hs=some q)
  (H:∀x p1 y p2 c p3 p4 p5,T.g x=some .bad→dj T (.Name y p2)=some q.1→Q [.ExceptHandler (some (.Name x p1)) none [.Assign [.Name y p2] (.Constant (.str q.2) c p3) p4] p5]):Q hs:=by
 rcases hs with _|⟨⟨ty,nm,body,p⟩,_|_⟩
 ·exact no h
 ·cases nm with
  |some _=>exact no h
  |none=>
  cases ty with
  |none=>exact no h
  |some e=>
   refine cF h fun x hx h=>kz (P:=fun e=>Q [.ExceptHandler (some e) none body p]) hx fun p1=> ?_
   cases hg:T.g x with
   |none=>rw[hg] at h;exact no h
   |some g=>
    rw[hg] at h
    cases g with
    |bad=>
     refine cF h fun a ha h=>AZ (Q:=fun b=>Q [.ExceptHandler (some (.Name x p1)) none b p]) ha fun c p3 p4=> ?_
     refine cJ (P:=fun q:Nat×Str=>(∀x p1 y p2 c p3 p4 p5,T.g x=some .bad→dj T (.Name y p2)=some q.1→Q [.ExceptHandler (some (.Name x p1)) none [.Assign [.Name y p2] (.Constant (.str q.2) c p3) p4] p5])→_) h (fun i hi H=> ?_) H
     obtain⟨y,p2,e⟩:=ku hi
     rw[e] at hi ⊢
     exact H x p1 y p2 c p3 p4 p hg hi
    |_=>exact no h
 ·exact no h
theorem A0(t:fj X T)(ea:bq env T.sc){f:Expr→Option IE}(E:∀e ie,f e=some ie→az X P m env T.ν e ie){x:Str}{v:Expr}{p pos:Pos}{is:IS}
  (h:((dj T (.Name x p)).bind fun i=>gd (dF v) ((f v).map (IS.assign i)))=some is):dN X P m env T.ν (.Assign [.Name x p] v pos) is:=by
 exact cF h fun i hi h0=>cX h0 fun q h1=>cJ h1 fun _ h2=>
  have k:=dW ea.names hi
  rj p pos t.inj k.1 ea.kind k.2 q (E _ _ h2)
theorem DQ(BE:ip X P m n)(t:fj X T)(ea:bq env T.sc){f:Expr→Option IE}{x:Str}{elt target iter:Expr}{ifs:List Expr}{k:Int}{scope:Scope}{mY p pos:Pos}{is:IS}
  (h:xY T f (mZ T n) (.ListComp elt [⟨target,iter,ifs,k⟩] scope mY) (.Name x p)=some is):dN X P m env T.ν (.Assign [.Name x p] (.ListComp elt [⟨target,iter,ifs,k⟩] scope mY) pos) is:=by
 refine cF h fun i hi h0=>cX h0 fun z g=>cX g fun q g1=>cJ g1 fun ie h1=> ?_
 have z:=Bool.and_eq_true_iff.mp z
 have q:=Bool.and_eq_true_iff.mp q
 rw[fq z.1,eq_of_beq z.2]
 exact(BE.comp T env t ea _ _ _ _ _ h1).rec fun {_ _ _ _}=>mU t.inj ea.toEnvOk (dW ea.names hi).1 (dW ea.names hi).2 q.1 (by simpa using q.2)
theorem A1(t:fj X T)(ea:bq env T.sc){f:Expr→Option IE}{g:Expr→Expr→Expr→Scope→Option IE}(E:∀e ie,f e=some ie→az X P m env T.ν e ie){ts:List Expr}{k:Nat}{v:Expr}{p pos:Pos}{is:IS}
  (h:xY T f g v (.Tuple ts k p)=some is):dN X P m env T.ν (.Assign [.Tuple ts k p] v pos) is:=by
 exact cF h fun is hi h1=>cX h1 fun q h2=>cJ h2 fun _ h3=>
  have q:=Bool.and_eq_true_iff.mp q
  have q1:=Bool.and_eq_true_iff.mp q.1
  rz p pos t.inj ea.kind (kX ea.names hi) (of_decide_eq_true q1.1) q1.2 (p9 ea q.2) (E _ _ h3)
theorem DS(pk:oj X P)(t:fj X T){f:Expr→Option IE}{g:Expr→Expr→Expr→Scope→Option IE}(E:∀e ie,f e=some ie→az X P m env T.ν e ie){o v:Expr}{x:Str}{p pos:Pos}{is:IS}
  (h:xY T f g v (.Attribute o x p)=some is):dN X P m env T.ν (.Assign [.Attribute o x p] v pos) is:=by
 exact cX h fun q h1=>o5 h1 fun _ _ _ h2 h3 h4=>rn p pos pk (t.nm h2).2 (t.nm h2).1 q (E _ _ h3) (E _ _ h4)
theorem DT{f:Expr→Option IE}{g:Expr→Expr→Expr→Scope→Option IE}(E:∀e ie,f e=some ie→az X P m env T.ν e ie){o i v:Expr}{p pos:Pos}{is:IS}
  (h:xY T f g v (.Subscript o i p)=some is):dN X P m env T.ν (.Assign [.Subscript o i p] v pos) is:=by
 exact cX h fun q h1=>o5 h1 fun _ _ _ h2 h3 h4=>ro p pos q (E _ _ h2) (E _ _ h3) (E _ _ h4)
theorem A2(pk:oj X P)(co:dU X P m)(t:fj X T)(ea:bq env T.sc){t0 v:Expr}{pos:Pos}{is:IS}(h:xY T (tr T n) (mZ T n) v t0=some is):dN X P m env T.ν (.Assign [t0] v pos) is:=by
 have BE:=G2 pk co n (P:=P) (X:=X) (m:=m)
 have E:∀e ie,tr T n e=some ie→az X P m env T.ν e ie:=fun _ _ h=>BE.e T env t ea _ _ h
 cases t0 with
 |Name x p=>
  cases v with
  |ListComp elt gs scope mY=>
   rcases gs with _|⟨⟨target,iter,ifs,k⟩,_|_⟩
   ·exact cF h fun _ _ h1=>no h1
   ·exact DQ BE t ea h
   ·exact cF h fun _ _ h1=>no h1
  |_=>exact A0 t ea E h
 |Tuple ts k p=>exact A1 t ea E h
 |Attribute o x p=>exact DS pk t E h
 |Subscript o i p=>exact DT E h
 |_=>exact no h
theorem A3(t:fj X T)(ea:bq env T.sc){x:Str}{op:Operator}{v:Expr}{p pos:Pos}{i:Nat}{iv:IE}(h:dj T (.Name x p)=some i)(hv:az X P m env T.ν v iv):dN X P m env T.ν (.AugAssign (.Name x p) op v pos) (.aug i op iv):=
 have k:=dW ea.names h
 An p pos ea.toEnvOk t.inj k.1 k.2 (t.pZ x i k.2).2 hv
theorem tX{ν:Nu}{c:Expr}{r:Bool}{b o:List Stmt}{pos:Pos}{ic:IE}{ib:cx}(q:(o.isEmpty && r)=true)(hc:r=true→iM X P m env ν c ic)(hb:fM X P m env ν b ib):dN X P m env ν (.While c b o pos) (.while ic ib):=by
 have q:=Bool.and_eq_true_iff.mp q
 rw[fq q.1]
 exact tG pos (hc q.2) hb
theorem A4(t:fj X T)(ea:bq env T.sc){target iter:Expr}{b o:List Stmt}{pos:Pos}{ct:List Nat}{is:g7}{ib:cx}(q:(o.isEmpty && gI iter)=true)(h1:o6 T target=some ct)(hs:dM X P m env T.ν iter is)(lR:(dw target || (cw target && cY is))=true)
  (hb:fM X P m env T.ν b ib):dN X P m env T.ν (.For target iter b o pos) (.for ct is ib):=by
 have q:=Bool.and_eq_true_iff.mp q
 rw[fq q.1]
 exact Ar pos (o7 ea.names h1) t.inj ea.kind q.2 hs (((Bool.or_eq_true _ _).mp lR).imp_right fun q=>Bool.and_eq_true_iff.mp q) hb
theorem A5(t:fj X T)(ea:bq env T.sc)(RO:ej X){b o f:List Stmt}{hs:List ExceptHandler}{pos:Pos}{i:Nat×Str}{ib:cx}(q:(o.isEmpty && f.isEmpty)=true)(h:tS T hs=some i)(hb:fM X P m env T.ν b ib):dN X P m env T.ν (.Try b hs o f pos) (.try ib i.1 (.str i.2)):=by
 have q:=Bool.and_eq_true_iff.mp q
 rw[fq q.1,fq q.2]
 exact DP (Q:=fun hs=>dN X P m env T.ν (.Try b hs [] [] pos) (.try ib i.1 (.str i.2))) h fun _ _ _ _ _ _ _ _ q1 q2=>
  have k:=p6 ea t q1
  have j:=dW ea.names q2
  AD _ _ _ _ _ _ RO ea.toEnvOk t.inj k.1 k.2.1 k.2.2 j.1 j.2 hb
theorem G3(pk:oj X P)(co:dU X P m)(RO:ej X)(B:E7 X P m n)(t:fj X T)(ea:bq env T.sc){s:Stmt}{is:IS}(h:RV T (n+1) s=some is):dN X P m env T.ν s is:=by
 revert X P m n env T s is
 apply aO;intro
 generalize bL .. =X,bM .. =P,bQ .. =m,bR .. =n
 apply aM;intro
 generalize bI .. =env,bJ .. =T
 intro pk co RO B t ea
 apply aM;intro
 generalize bI .. =s,bJ .. =is
 intro h
 have BE:=G2 pk co n (P:=P) (X:=X) (m:=m)
 have E:∀{e ie},tr T n e=some ie→az X P m env T.ν e ie:=fun h=>BE.e T env t ea _ _ h
 have S:∀{s is},oC T n s=some is→fM X P m env T.ν s is:=fun h=>B.ss T env t ea _ _ h
 cases s with
 |Expr e p=>exact cX h fun q h=>cJ h fun _ h1=>xK p ea.kind q (E h1)
 |Assign ts v pos=>
  rcases ts with _|⟨t0,_|_⟩
  ·exact no h
  ·exact A2 pk co t ea h
  ·exact no h
 |AugAssign t0 op v pos=>
  cases t0 with
  |Name x p=>exact iU h fun i _ h1 h2=>A3 t ea h1 (E h2)
  |Subscript o i p=>exact cX h fun q h=>o5 h fun _ _ _ h1 h2 h3=>Ao p pos q (E h1) (E h2) (E h3)
  |_=>exact no h
 |If c a b pos=>exact cX h fun q h=>o5 h fun _ _ _ h1 h2 h3=>Dx pos (BE.t T env t ea _ _ h1 q) (S h2) (S h3)
 |While c b o pos=>exact cX h fun q h=>iU h fun _ _ h1 h2=>tX q (fun q=>BE.t T env t ea _ _ h1 q) (S h2)
 |For target iter b o pos=>exact cX h fun q h=>cF h fun _ h1 h=>cF h fun _ h2 h=>cX h fun lR h=>cJ h fun _ h3=>A4 t ea q h1 (BE.src T env t ea _ _ h2) lR (S h3)
 |Return v pos=>
  cases v with
  |none=>exact no h
  |some e=>exact cJ h fun _ h1=>Am pos (E h1)
 |Continue pos=>exact er h (xM pos)
 |Raise exc cause pos=>exact er h (rM t ea RO exc cause pos)
 |Try b hs o f pos=>exact cX h fun q h=>iU h fun _ _ h1 h2=>A5 t ea RO q h1 (S h2)
 |_=>exact no h
theorem E8(pk:oj X P)(co:dU X P m)(RO:ej X):∀n,E7 X P m n
 |0=>by constructor<;>intros<;>exact no ‹_›
 |n+1=>by
  have B:=E8 pk co RO n
  refine⟨fun T env t ea s is h=>G3 pk co RO B t ea h,fun T env t ea ss RY h=> ?_⟩
  cases ss with
  |nil=>exact er h xJ
  |cons s r=>
   exact iU h fun _ _ h1 h2=>tF (B.s T env t ea _ _ h1) (B.ss T env t ea _ _ h2)
end
end
section
open PyProof.Rows PySem.Calls PySem.W
set_option backward.match.sparseCases false
noncomputable def Xp:Str:=s!"font"
noncomputable def Xq:Str:=s!"code"
noncomputable def Xr:Str:=s!"append"
noncomputable def Xs:Str:=s!"get"
noncomputable def Xu:Str:=s!"moved"
noncomputable def Xv:Str:=s!"extend"
noncomputable def Xw:Str:=s!"insert"
noncomputable def Xx:Str:=s!"isinstance"
noncomputable def Xy:Str:=s!"int"
noncomputable def Xz:Str:=s!"bool"
noncomputable def XA:Str:=s!"tuple"
noncomputable def RZ:Str:=s!"bytes"
noncomputable def R0:Str:=s!"bytearray"
noncomputable def R3:Str:=s!"list"
noncomputable def R4:Str:=s!"sum"
noncomputable def R5:Str:=s!"abs"
noncomputable def R6:Str:=s!"len"
noncomputable def R7:Str:=s!"min"
noncomputable def R8:Str:=s!"max"
noncomputable def R9:Str:=s!"enumerate"
noncomputable def Sa:Str:=s!"range"
noncomputable def Sb:Str:=s!"sorted"
noncomputable def Sd:Str:=s!"sizes"
noncomputable def Se:Str:=s!"texts"
noncomputable def Sf:Str:=s!"pieces"
noncomputable def Sg:Str:=s!"zip"
noncomputable def rN:List Str:=[lZ,Cs,PU,Fv,Ij,qJ,Fw,Ca,lN,UM,QQ,yW,PR,lO,Il,PW,qH,PX,PY,PZ,Cu,Cr,qK,Cv,sO,Cw,Cy,Xp,Xq,FN,JH,FK,FO,zd,JQ,CA,JP,JN,JL,JI,JJ,JM,Cz,JK,JO,JR,qM,qL,we,wg,CB,ec,n8,CC,sP,l5,n9,FG,Xr,Xs,Xu,Jy,FV,Xv,Xw,QS]
noncomputable def qc:List (Str×GV):=[
 (Xx,.bi),
 (Xy,.bi),
 (Xz,.bi),
 (Jv,.cls 52),
 (Kn,.const (.int 2147483647)),
 (Ib,.fn 96),
 (Jw,.cls 76),
 (Km,.const (.int 1073741823)),
 (Ko,.const (.int 10000)),
 (Ia,.fn 89),
 (Kp,.const (.int 0)),
 (Kq,.const (.int 3)),
 (Ie,.fn 110),
 (Kx,.const (.int 5)),
 (Ku,.const (.int 2)),
 (Kv,.const (.int 3)),
 (KL,.const (.int 0)),
 (KN,.const (.int 0)),
 (KP,.const (.int 3)),
 (KQ,.const (.int 0)),
 (KU,.const (.int 5)),
 (KV,.const (.int 100)),
 (KR,.const (.int 1)),
 (KS,.const (.int 3)),
 (Kw,.const (.int 4)),
 (Ic,.fn 103),
 (Ik,.fn 262),
 (XA,.bi),
 (RZ,.bi),
 (R0,.bi),
 (R3,.bi),
 (Kr,.const (.int 0)),
 (Ks,.const (.int 1)),
 (KH,.const (.int 12)),
 (KJ,.const (.int 14)),
 (Ky,.const (.int 6)),
 (KG,.const (.int 8)),
 (R4,.bi),
 (wd,.fn 499),
 (R5,.bi),
 (R6,.bi),
 (R7,.bi),
 (R8,.bi),
 (Jz,.cls 227),
 (Kz,.const (.int 7)),
 (KO,.const (.int 1)),
 (R9,.bi),
 (KX,.const (.int 10000)),
 (K2,.const (.int 0)),
 (K6,.const (.int 1)),
 (KW,.const (.int (-10000))),
 (wj,.fn 624),
 (Ez,.bad),
 (Lc,.const (.tup [(.int 0),(.int 0),(.int 0),(.int 0),(.int 0),(.int 0)])),
 (wq,.fn 645),
 (sQ,.fn 652),
 (wt,.fn 659),
 (wk,.fn 631),
 (wm,.fn 638),
 (wu,.fn 666),
 (Sa,.bi),
 (K0,.const (.int 2)),
 (Ii,.fn 145),
 (KY,.const (.int 0)),
 (KZ,.const (.int 1)),
 (La,.const (.int 10001)),
 (K1,.const (.int 3)),
 (Lb,.const (.int 100000000)),
 (wz,.fn 685),
 (wB,.fn 692),
 (wC,.fn 699),
 (wD,.fn 706),
 (Sb,.bi),
 (zg,.cls 585),
 (wh,.fn 617),
 (wy,.fn 680),
 (zh,.cls 606),
 (wx,.fn 673),
 (wG,.fn 713),
 (wH,.fn 720),
 (wJ,.fn 727),
 (zf,.cls 564),
 (wN,.fn 748),
 (ze,.cls 543),
 (JA,.cls 279),
 (JC,.cls 321),
 (yY,.cls 406),
 (zc,.cls 490),
 (yZ,.cls 427),
 (JE,.cls 364),
 (za,.cls 448),
 (wU,.fn 776),
 (wV,.fn 783),
 (JB,.cls 300),
 (zb,.cls 469),
 (yX,.cls 385),
 (wR,.fn 769),
 (JD,.cls 343),
 (wX,.fn 797),
 (wY,.fn 804),
 (wZ,.fn 811),
 (w3,.fn 816),
 (wW,.fn 790),
 (Sg,.bi),
 (wK,.fn 734),
 (w5,.fn 830),
 (wM,.fn 741),
 (wO,.fn 755),
 (wQ,.fn 762),
 (w4,.fn 823),
 (w6,.fn 837),
 (w7,.fn 842)]
noncomputable def G4(i:Int):Value→Bool
 |.int j _=>i == j
 |_=>false
noncomputable def Nj:PV→Value→Bool
 |.int i,u=>G4 i u
 |_,_=>false
noncomputable def vB(f:PV→Value→Bool):List PV→List Value→Bool
 |[],vs=>vs.isEmpty
 |v::r,vs=>match vs with|[]=>false|u::t=>f v u && vB f r t
theorem kZ{X:Cx}{W:Wd}{f:PV→Value→Bool}(k:∀v u,f v u=true→VR X W v u){l:List PV}:∀{vs:List Value},vB f l vs=true→cO X W l vs:=by
 induction l with
 |nil=>intro vs h;cases vs with
  |nil=>exact .nil
  |cons _ _=>exact absurd h Bool.false_ne_true
 |cons v r ih=>intro vs h;cases vs with
  |nil=>exact absurd h Bool.false_ne_true
  |cons u t=>exact .cons (k _ _ (Bool.and_eq_true_iff.mp h).1) (ih (Bool.and_eq_true_iff.mp h).2)
theorem m9{i:Int}{u:Value}(h:G4 i u=true):∃t,u=.int i t:=by
 cases u with
 |int j t=>exact⟨t,congrArg (fun x=>Value.int x t) (eq_of_beq h).symm⟩
 |_=>exact absurd h Bool.false_ne_true
theorem tY{X:Cx}{W:Wd}{v:PV}{u:Value}(h:Nj v u=true):VR X W v u:=by
 cases v with
 |int i=>obtain⟨t,rfl⟩:=m9 h;exact .int _ _
 |_=>exact absurd h Bool.false_ne_true
noncomputable def Nk(c:Value):Data→Option (Value×List Value)
 |.seq vs _=>some (c,vs.toList)
 |_=>none
theorem DU{c:Value}{d:Data}{p:Value×List Value}(h:Nk c d=some p):∃vs n,d=.seq vs n∧some (c,vs.toList)=some p:=by
 cases d with
 |seq vs n=>exact⟨vs,n,rfl,h⟩
 |_=>exact cu h
noncomputable def lh:Option Obj→Option (Value×List Value)
 |some o=>Nk o.cls o.data
 |none=>none
theorem nc{o:Option Obj}{c:Value}{l:List Value}(h:lh o=some (c,l)):∃o' n,o=some o'∧o'.cls=c∧o'.data=.seq l.toArray n:=by
 cases o with
 |none=>exact cu h
 |some o=>
  obtain⟨T,dd,d,sl⟩:=o
  obtain⟨vs,n,rfl,h1⟩:=DU h
  cases h1;exact⟨_,n,rfl,rfl,by simp⟩
noncomputable def Sh(l:List PV):Option (Value×List Value)→Bool
 |some p=>p.1 == .type "tuple" && vB Nj l p.2
 |none=>false
noncomputable def G5(f:Addr→Bool):Value→Bool
 |.ref a=>f a
 |_=>false
theorem vC{f:Addr→Bool}{u:Value}(h:G5 f u=true):∃a,u=.ref a∧f a=true:=by
 cases u with
 |ref a=>exact⟨a,rfl,h⟩
 |_=>exact absurd h Bool.false_ne_true
noncomputable def DV(K:Frag):PV→Value→Bool
 |.none,u=>u == .none
 |.bool a,u=>u == .bool a
 |.int i,u=>G4 i u
 |.tup l,u=>G5 (fun a=>Sh l (lh (K.lookup a))) u
 |_,_=>false
theorem je{X:Cx}(ok:X.ok){v:PV}{u:Value}(h:DV X.K v u=true):∀W:Wd,(∀a o,X.h₀.get? a=some o→W.B a=some o)→VR X W v u:=by
 intro W hb
 cases v with
 |none=>rw[eq_of_beq h];exact .none
 |bool a=>rw[eq_of_beq h];exact .bool _
 |int i=>obtain⟨t,rfl⟩:=m9 h;exact .int _ _
 |tup l=>
  obtain⟨a,rfl,h1⟩:=vC h
  cases e:lh (X.K.lookup a) with
  |none=>rw[e] at h1;exact absurd h1 Bool.false_ne_true
  |some p=>
   rw[e] at h1
   obtain⟨o,n,hl,hc,hd⟩:=nc e
   have h:=Bool.and_eq_true_iff.mp h1
   exact .tup l a o n p.2 (hb _ _ (X.X ok _ _ hl)) (hc.trans (eq_of_beq h.1)) hd (kZ (fun _ _=>tY) h.2)
 |_=>exact absurd h Bool.false_ne_true
noncomputable def gV(K:Frag)(v:PV):Option (Option Value)→Bool
 |some (some u)=>DV K v u
 |_=>false
noncomputable def Nl(K:Frag)(bad:Addr)(x:Str):GV→Bool
 |.const v=>gV K v (nsIn K mainGlobals x)
 |.fn f=>nsIn K mainGlobals x == some (some (.ref f)) && keepIn K (.ref f)
 |.cls c=>nsIn K mainGlobals x == some (some (.ref c)) && keepIn K (.ref c)
 |.bi=>nsIn K mainGlobals x == some none && x !=("__name__":Str)
 |.bad=>nsIn K mainGlobals x == some (some (.ref bad))
theorem tZ{X:Cx}(ok:X.ok){x:Str}{g:GV}(h:Nl X.K X.bad x g=true):RW X x g:=by
 cases g with
 |const v=>
  have h:gV X.K v (nsIn X.K mainGlobals x)=true:=h
  cases hu:nsIn X.K mainGlobals x with
  |none=>rw[hu] at h;exact absurd h Bool.false_ne_true
  |some o=>
   rw[hu] at h
   cases o with
   |none=>exact absurd h Bool.false_ne_true
   |some u=>exact⟨u,hu,je ok h⟩
 |fn f=>have h:=Bool.and_eq_true_iff.mp h;exact⟨eq_of_beq h.1,h.2⟩
 |cls c=>have h:=Bool.and_eq_true_iff.mp h;exact⟨eq_of_beq h.1,h.2⟩
 |bi=>have h:=Bool.and_eq_true_iff.mp h;exact⟨eq_of_beq h.1,bne_iff_ne.mp h.2⟩
 |bad=>exact eq_of_beq h
noncomputable def A6(ν:Nu):Bool:=decide ((ν.map (·.2)).Nodup) && ν.all (fun p=>p.1 !=("__debug__":Str) && p.1 !=("__classdict__":Str))
noncomputable def A7(K:Frag)(bad:Addr)(glob:List (Str×GV)):Bool:=glob.all fun p=>p.1 !=("__debug__":Str) && Nl K bad p.1 p.2
theorem E9{ν:Nu}(h:(ν.map (·.2)).Nodup):fS ν:=fun x y i hx hy=>by
 have h1:=mem_of_lookup hx
 have h2:=mem_of_lookup hy
 clear hx hy
 induction ν with
 |nil=>cases h1
 |cons p r ih=>
  rw[List.map_cons,List.nodup_cons] at h
  rcases List.mem_cons.mp h1 with e1|h1<;>rcases List.mem_cons.mp h2 with e2|h2
  ·rw[←e1] at e2;cases e2;rfl
  ·exact absurd (List.mem_map.mpr ⟨(y,i),h2,by rw[←e1]⟩) h.1
  ·exact absurd (List.mem_map.mpr ⟨(x,i),h1,by rw[←e2]⟩) h.1
  ·exact ih h.2 h1 h2
theorem G6{X:Cx}(ok:X.ok){T:TE}(ht:X.tab=T.tab)(h:A6 T.ν=true)(k:A7 X.K X.bad T.glob=true):fj X T:=by
 have h:=Bool.and_eq_true_iff.mp h
 refine⟨ht,E9 (of_decide_eq_true h.1),fun x i e=> ?_,fun x g e=> ?_⟩
 ·have:=Bool.and_eq_true_iff.mp (List.all_eq_true.mp h.2 _ (mem_of_lookup e))
  exact⟨beq_false_of_ne (bne_iff_ne.mp this.1),beq_false_of_ne (bne_iff_ne.mp this.2)⟩
 ·have:=Bool.and_eq_true_iff.mp (List.all_eq_true.mp k _ (mem_of_lookup e))
  exact⟨beq_false_of_ne (bne_iff_ne.mp this.1),tZ ok this.2⟩
noncomputable def Nn(K:Frag)(l:List PV):Option (Value×List Value)→Bool
 |some p=>vB (DV K) l p.2
 |none=>false
noncomputable def qd(K:Frag)(l:List PV)(v:Value):Bool:=(v == .none && l.isEmpty) || G5 (fun T=>Nn K l (lh (K.lookup T))) v
theorem t5{X:Cx}(ok:X.ok){l:List PV}{v:Value}(h:qd X.K l v=true):∃ds:List Value,(∀W:Wd,(∀a o,X.h₀.get? a=some o→W.B a=some o)→cO X W l ds)∧((∃T o n,v=.ref T∧X.K.lookup T=some o∧o.data=.seq ds.toArray n)∨(v=.none∧ds=[])):=by
 revert X l v
 apply aI;intro
 generalize nx .. =X
 intro ok
 apply aM;intro
 generalize bI .. =l,bJ .. =v
 intro h
 rcases Bool.or_eq_true_iff.mp h with h|h
 ·have h:=Bool.and_eq_true_iff.mp h
  rw[List.isEmpty_iff.mp h.2]
  exact⟨[],fun _ _=>.nil,.inr ⟨eq_of_beq h.1,rfl⟩⟩
 ·obtain⟨T,rfl,h1⟩:=vC h
  cases e:lh (X.K.lookup T) with
  |none=>rw[e] at h1;exact absurd h1 Bool.false_ne_true
  |some p=>
   rw[e] at h1
   obtain⟨o,n,hl,_,hd⟩:=nc e
   exact⟨p.2,fun W hb=>kZ (fun _ _ h=>je ok h W hb) h1,.inl ⟨T,o,n,rfl,hl,hd⟩⟩
noncomputable def A9(d:DefRec)(r:iR)(ν:Nu):Bool:=
 (d.scope.kind == .function && !d.scope.isCoroutine && !d.scope.isGenerator) && (d.params.posonlyargs.isEmpty && d.params.kwonlyargs.isEmpty && d.params.vararg.isNone && d.params.kwarg.isNone) &&
 (decide ((d.params.args.map (·.arg)).Nodup) && r.np == (d.params.args.map (·.arg)).length && decide (r.dflt.length≤r.np)) && decide ((ν.map (·.2)).Nodup) && ν.all (fun p=>decide (p.2<r.j1)) &&
 (List.zip (d.params.args.map (·.arg)) (List.range (d.params.args.map (·.arg)).length)).all (fun p=>ν.lookup p.1 == some p.2) &&
 (d.params.args.map (·.arg)).all (fun x=>d.scope.names.lookup x == some .local || d.scope.names.lookup x == some .cell) &&
 d.scope.names.all fun p=> !(p.2 == .cell || p.2 == .free) || d.scope.names.lookup p.1 == some .cell
theorem Np{X:Cx}(ok:X.ok){P:ef}{f:Addr}{r:iR}{st:Stmt}{qual:Str}{dflt md:Value}{code:Addr}{T:TE}(pk:oj X P)(RO:ej X)(hl:X.K.lookup f=some (fo st qual dflt md (.ref code)))(hc:codeIn X.K (.ref code) qual=true)(G7:A9 (dJ st) r T.ν=true)
  (hd:qd X.K r.dflt dflt=true) (ht:oC T 60 (dJ st).body=some r.body) (hT:T.sc=(dJ st).scope.names) (Nq:X.tab=T.tab) (Vl:A6 T.ν=true) (Vm:A7 X.K X.bad T.glob=true):
  ∃fd body names ν,xO X P f r fd body names ν:=by
 revert X P f r st qual dflt md code T
 apply aI;intro
 generalize nx .. =X
 intro ok
 apply aQ;intro
 generalize bT .. =P,bU .. =f,bV .. =r,bW .. =st,cj .. =qual,ck .. =dflt,cm .. =md,cp .. =code
 apply aI;intro
 generalize nx .. =T
 intro pk RO hl hc G7 hd ht hT Nq Vl Vm
 have tok:=G6 ok Nq Vl Vm
 simp only[A9,Bool.and_eq_true,beq_iff_eq,Bool.not_eq_true',decide_eq_true_eq,List.all_eq_true,List.isEmpty_iff,Option.isNone_iff_eq_none,Bool.or_eq_true] at G7
 obtain⟨⟨⟨⟨⟨⟨⟨⟨⟨a1,a2⟩,a3⟩,⟨⟨a4,a5⟩,a6⟩,a7⟩,⟨a8,a9⟩,uX⟩,Im⟩,oN⟩,Io⟩,ED⟩,XB⟩:=G7
 refine⟨_,(dJ st).body,(dJ st).params.args.map (·.arg),T.ν,⟨⟨_,hl,rfl⟩,fun h KI=>codeRec_of KI hc,rfl,a1,a2,a3,rfl,rfl,rfl,a4,a5,a6,a7,rfl,a8,t5 ok hd,uX,a9,E9 Im,fun x i e=>oN _ (mem_of_lookup e),fun i x e=> ?_,fun x hx=>ED x hx,fun x k hx hk=> ?_,fun n co env ea=> ?_⟩⟩
 ·have hi:=(List.getElem?_eq_some_iff.mp e).1
  exact Io (x,i) (List.mem_iff_getElem?.mpr ⟨i,by rw[List.getElem?_zip_eq_some];exact⟨e,List.getElem?_range hi⟩⟩)
 ·have h:=XB (x,k) hx
  rcases hk with rfl|rfl
  ·rcases h with h|h
   ·simp at h
   ·exact h
  ·rcases h with h|h
   ·simp at h
   ·exact h
 ·exact(E8 pk co RO 60).ss T env tok (by rw[hT];exact ea) _ _ ht
noncomputable def qe(K:Frag)(c:Nat)(x:Str):Bool:=match findIn K (.ref c) x with
 |some attr=>noGet K attr && takerIn K c x == some none
 |none=>false
noncomputable def nf(K:Frag)(bad:List (Nat×Nat))(c:Nat):Nat→List Str→Bool
 |_,[]=>true
 |n,x::r=>(bad.contains (c,n) || qe K c x) && nf K bad c (n+1) r
theorem iu{K:Frag}{bad:List (Nat×Nat)}{c:Nat}:∀(l:List Str) (k:Nat),nf K bad c k l=true→∀n x,l[n]? =some x→bad.contains (c,k+n)=false→qe K c x=true
 |[],_,_,n,x,e,_=>by simp at e
 |y::r,k,h,0,x,e,hb=>by
  have h:=Bool.and_eq_true_iff.mp h
  cases e
  rw[Nat.add_zero] at hb
  rcases Bool.or_eq_true_iff.mp h.1 with h1|h1
  ·rw[hb] at h1;cases h1
  ·exact h1
 |y::r,k,h,n+1,x,e,hb=>by
  have h:=Bool.and_eq_true_iff.mp h
  exact iu r (k+1) h.2 n x e (by rw[Nat.add_right_comm,Nat.add_assoc];exact hb)
noncomputable def qf(K:Frag)(bad:List (Nat×Nat))(tab:List Str)(c:Nat):Bool:=
 (plainGet K c Str.empty && hasDictIn K c && (findIn K (.ref c) "__setattr__" == some (some (.builtin "object.__setattr__"))) && plainOver K c) && nf K bad c 0 tab
theorem qg{X:Cx}{P:ef}{c:Nat}(h:qf X.K P.bad X.tab c=true):EK X P c:=by
 revert X P c
 apply aM;intro
 generalize bI .. =X,bJ .. =P
 apply aI;intro
 generalize nx .. =c
 intro h
 simp only[qf,Bool.and_eq_true,beq_iff_eq] at h
 obtain⟨⟨⟨⟨h1,h2⟩,h3⟩,h4⟩,h5⟩:=h
 refine⟨fun n=>h1,h2,h3,h4,fun n hn hb=> ?_⟩
 have:=iu X.tab 0 h5 n (X.nm n) (by unfold Cx.nm;rw[List.getElem?_eq_getElem hn];rfl) (by rw[Nat.zero_add];exact hb)
 unfold qe at this
 split at this
 ·rename_i attr e
  simp only[Bool.and_eq_true,beq_iff_eq] at this
  exact⟨attr,e,this.1,this.2⟩
 ·cases this
noncomputable def rO(K:Frag)(tab:List Str)(c:Nat)(p:Nat×PV):Bool:=match tab[p.1]? with
 |none=>true
 |some x=>match findIn K (.ref c) x with
  |some (some a)=>specialIn K a "__get__" == some none && handedIn a && !copiedNames.contains x && DV K p.2 a
  |_=>false
noncomputable def vD(K:Frag)(tab:List Str)(c:Nat)(p:Nat×Nat):Bool:=match tab[p.1]? with
 |none=>false
 |some x=>findIn K (.ref c) x == some (some (.ref p.2)) && isFn K (.ref p.2) && keepIn K (.ref p.2)
noncomputable def qh(K:Frag)(tab:List Str)(known:List Nat)(c:Nat)(k:ClsRec):Bool:=
 known.contains c && makesIn K c && k.mh.all (rO K tab c) && k.meths.all (vD K tab c) &&
 match k.init with
 |some f=>findIn K (.ref c) "__init__" == some (some (.ref f)) && isFn K (.ref f)
 |none=>true
theorem iI{α:Type}:∀{l:List (Nat×α)} {n:Nat} {v:α},bA n l=some v→(n,v)∈l
 |[],n,v,h=>cu h
 |(k,u)::r,n,v,h=>by
  rw[fH] at h
  split at h
  ·rename_i q
   cases h
   subst q
   exact .head _
  ·exact .tail _ (iI h)
theorem qi{X:Cx}(ok:X.ok){P:ef}{c:Nat}{k:ClsRec}(h:qh X.K X.tab X.known c k=true):EM X P c k:=by
 revert X P c k
 apply aI;intro
 generalize nx .. =X
 intro ok
 apply aM;intro
 generalize bI .. =P,bJ .. =c
 apply aI;intro
 generalize nx .. =k
 intro h
 simp only[qh,Bool.and_eq_true,List.all_eq_true] at h
 obtain⟨⟨⟨⟨h1,h2⟩,h3⟩,h4⟩,h5⟩:=h
 refine⟨by simpa using h1,h2,?_,?_,fun f e=> ?_⟩
 ·apply aM;intro
  generalize bI .. =n,bJ .. =v
  intro e hn
  have:=h3 _ (iI e)
  have hx:X.tab[n]? =some (X.nm n):=by unfold Cx.nm;rw[List.getElem?_eq_getElem hn];rfl
  unfold rO at this
  simp only[hx] at this
  split at this
  ·rename_i a ea
   simp only[Bool.and_eq_true,beq_iff_eq,Bool.not_eq_true'] at this
   exact⟨a,ea,this.1.1.1,this.1.1.2,this.1.2,je ok this.2⟩
  ·cases this
 ·apply aM;intro
  generalize bI .. =n,bJ .. =f
  intro e
  have:=h4 _ (iI e)
  unfold vD at this
  split at this
  ·cases this
  ·rename_i x hx
   have hn:=(List.getElem?_eq_some_iff.mp hx).1
   have:X.nm n=x:=by unfold Cx.nm;rw[hx];rfl
   subst this
   rename_i this
   simp only[Bool.and_eq_true,beq_iff_eq] at this
   exact⟨hn,this.1.1,this.1.2,this.2⟩
 ·rw[e] at h5
  simpa only[Bool.and_eq_true,beq_iff_eq] using h5
theorem G8{X:Cx}(ok:X.ok){P:ef}(h1:X.known.all (qf X.K P.bad X.tab)=true)(h2:P.pO.all (fun p=>qh X.K X.tab X.known p.1 p.2)=true)(h3:P.bG=X.ns):oj X P:=by
 rw[List.all_eq_true] at h1 h2
 exact⟨fun c hc=>qg (h1 c hc),fun c k e=>qi ok (h2 _ (iI e)),h3⟩
noncomputable def qj:List Nat:=ml.map (·.1)
theorem XC(P:Params):qj.all (qf (KK P) dS rN)=true:=by kernel_rfl
theorem XD(P:Params):ml.all (fun p=>qh (KK P) rN qj p.1 p.2)=true:=by kernel_rfl
theorem XE:rN.Nodup:=by
 have:decide rN.Nodup=true:=by kernel_rfl
 simpa using this
noncomputable def rP(d:DefRec):Bool:=
 (d.scope.kind == .function && !d.scope.isCoroutine && !d.scope.isGenerator) && (d.params.posonlyargs.isEmpty && d.params.kwonlyargs.isEmpty && d.params.vararg.isNone && d.params.kwarg.isNone) &&
 ((d.params.args.map (·.arg)) == [("self":Str),("reason":Str)]) && d.scope.names.lookup ("self":Str) == some .local && d.scope.names.lookup ("reason":Str) == some .local
theorem XF(P:Params):(KK P).lookup 36=some (fo (cy 2 0) s8 (.ref 29) (.str s9 194) (.ref 35)):=by kernel_rfl
theorem XG(P:Params):(codeIn (KK P) (.ref 35) s8 && rP (dJ (cy 2 0)))=true:=by kernel_rfl
theorem Si:(dJ (cy 2 0)).body=[.Assign [.Attribute (.Name "self" ⟨8,8,8,12⟩) "reason" ⟨8,8,8,19⟩] (.Name "reason" ⟨8,22,8,28⟩) ⟨8,8,8,28⟩]:=by kernel_rfl
theorem XH(P:Params):((findIn (KK P) (.ref 64) "__setattr__" == some (some (.builtin "object.__setattr__"))) && lT (KK P) 64 && (takerIn (KK P) 64 "reason" == some none) && hasDictIn (KK P) 64)=true:=by kernel_rfl
theorem XI(P:Params):((findIn (KK P) (.ref 64) "__init__" == some (some (.ref 36))) && (typeIn (KK P) (.ref 36) == some (.type "function")) && keepIn (KK P) (.ref 64))=true:=by kernel_rfl
noncomputable def Vn:Option (Value×List Value)→Bool
 |some p=>decide (p.2.length≤2)
 |none=>false
noncomputable def Nr(K:Frag):Bool:=Vn (lh (K.lookup 29))
theorem XJ(P:Params):Nr (KK P)=true:=by kernel_rfl
end
section
open PyProof.Rows PySem.Calls PySem.W
set_option backward.match.sparseCases false
set_option genInjectivity false
structure Text(X:Cx)(P:Params):Prop where
 ok:X.ok
 K:X.K=KK P
 tab:X.tab=rN
 bad:X.bad=64
 known:X.known=qj
section
variable {X:Cx}{P:Params}
theorem Nt(t:Text X P):oj X (aP X.ns):=by
 refine G8 t.ok ?_ ?_ rfl
 ·rw[t.K,t.tab,t.known];exact XC P
 ·rw[t.K,t.tab,t.known];exact XD P
theorem DW(t:Text X P):∃fd,tM X X.bad 36 fd:=by
 have h2:=XG P
 have h3:=XH P
 have h5:=XJ P
 rw[←t.K] at h2 h3 h5
 simp only[Bool.and_eq_true,beq_iff_eq,rP,Bool.not_eq_true',List.isEmpty_iff,Option.isNone_iff_eq_none] at h2 h3
 obtain⟨hc,⟨⟨⟨⟨⟨a1,a2⟩,a3⟩,⟨⟨a4,a5⟩,a6⟩,a7⟩,a8⟩,a9⟩,uX⟩:=h2
 obtain⟨⟨⟨b1,b2⟩,b3⟩,b4⟩:=h3
 refine⟨_,⟨⟨_,by rw[t.K];exact XF P,rfl⟩,fun h KI=>codeRec_of KI hc,⟨_,_,_,_,congrArg FuncBody.stmts Si⟩,a1,a2,a3,rfl,rfl,rfl,a4,a5,a6,a7,a8,?_,a9,uX,by rw[t.bad];exact b1,by rw[t.bad];exact b2,by rw[t.bad];exact b3,by rw[t.bad];exact b4⟩⟩
 have h5:Vn (lh (X.K.lookup 29))=true:=h5
 cases e:lh (X.K.lookup 29) with
 |none=>rw[e] at h5;exact absurd h5 Bool.false_ne_true
 |some p=>
  rw[e] at h5
  obtain⟨o,n,hl,_,hd⟩:=nc e
  exact⟨p.2,of_decide_eq_true h5,.inl ⟨29,o,n,rfl,hl,hd⟩⟩
theorem G9(P:Params):(KK P).lookup 64=some (cl Ez [.ref 39] [.ref 64,.ref 39,.type "ValueError",.type "Exception",.type "BaseException",.type "object"] 63 [] [some (.ref 55),none,some (.str Ez 240),some (.str Ez 248),some (.builtin "ValueError.__new__"),some (.bool true)]):=by kernel_rfl
theorem Nv(t:Text X P):ej X:=by
 have h4:=XI P
 rw[←t.K] at h4
 simp only[Bool.and_eq_true,beq_iff_eq] at h4
 obtain⟨⟨c1,c2⟩,c3⟩:=h4
 obtain⟨fd,I⟩:=DW t
 refine⟨?_,⟨36,fd,by rw[t.bad];exact c1,c2,I⟩,by rw[t.bad];exact c3⟩
 rw[t.K,t.bad]
 refine⟨_,_,_,_,_,_,_,_,_,_,_,_,_,_,_,_,G9 P,?_⟩
 constructor<;>decide
theorem yk{α:Type}{f:Nat}{Q:α→Prop}:∀r,bA f ([]:List (Nat×α))=some r→Q r:=fun r e=>by cases e
theorem af{α:Type}{f a:Nat}{b:α}{l:List (Nat×α)}{Q:Nat→α→Prop}(h1:Q a b)(h2:∀r,bA f l=some r→Q f r):∀r,bA f ((a,b)::l)=some r→Q f r:=fun r e=>by
 rw[fH] at e
 split at e
 ·rename_i q;subst q;cases e;exact h1
 ·exact h2 r e
def ax(X:Cx)(f:Nat)(r:iR):Prop:=∃fd body names ν,xO X (aP X.ns) f r fd body names ν
theorem Sj(P:Params):A7 (KK P) 64 qc=true:=by kernel_rfl
theorem aG{f:Nat}{r:iR}(t:Text X P)(st:Stmt)(qual:Str)(dflt md:Value)(code:Addr)(ν:Nu)(hl:(KK P).lookup f=some (fo st qual dflt md (.ref code)))
  (hk:(codeIn (KK P) (.ref code) qual && (A9 (dJ st) r ν && (qd (KK P) r.dflt dflt && A6 ν)))=true) (ht:oC ⟨rN,(dJ st).scope.names,ν,qc⟩ 60 (dJ st).body=some r.body):ax X f r:=by
 have k:=Bool.and_eq_true_iff.mp hk
 have k1:=Bool.and_eq_true_iff.mp k.2
 have k2:=Bool.and_eq_true_iff.mp k1.2
 have kk:=t.K
 have kb:=t.bad
 exact Np t.ok (T:=⟨rN,(dJ st).scope.names,ν,qc⟩) (Nt t) (Nv t) (by rw[kk];exact hl) (by rw[kk];exact k.1) k1.1 (by rw[kk];exact k2.1) ht rfl t.tab k2.2 (by rw[kk,kb];exact Sj P)
theorem Sk(t:Text X P):ax X 89 ⟨3,3,[],US⟩:=aG t (aS 12) Ia .none (.str jZ 272) 88 [(qH,0),(Us,1),(Ut,2)] (by kernel_rfl) (by kernel_rfl) (by kernel_rfl)
theorem Sl(t:Text X P):ax X 96 ⟨1,1,[],UT⟩:=aG t (aS 13) Ib .none (.str jZ 272) 95 [(qH,0)] (by kernel_rfl) (by kernel_rfl) (by kernel_rfl)
theorem Nw(t:Text X P):ax X 103 ⟨1,1,[],Lr⟩:=aG t (aS 14) Ic .none (.str jZ 272) 102 [(qH,0)] (by kernel_rfl) (by kernel_rfl) (by kernel_rfl)
theorem Ny(t:Text X P):ax X 110 ⟨1,1,[],Ls⟩:=aG t (aS 15) Ie .none (.str jZ 272) 109 [(qH,0)] (by kernel_rfl) (by kernel_rfl) (by kernel_rfl)
theorem Nz(t:Text X P):ax X 145 ⟨2,3,[],Lu⟩:=aG t (aS 21) Ii .none (.str jZ 272) 144 [(Ux,0),(Uy,1),(PR,2)] (by kernel_rfl) (by kernel_rfl) (by kernel_rfl)
theorem NA(t:Text X P):ax X 174 ⟨6,6,[(.int 0),(.int 0),(.int 0),(.int 0),(.int 0)],Lv⟩:=aG t (cy 24 0) QR (.ref 167) (.str jZ 272) 173 [(s5,0),(lZ,1),(Cs,2),(PU,3),(Fv,4),(Ij,5)] (by kernel_rfl) (by kernel_rfl) (by kernel_rfl)
theorem NB(t:Text X P):ax X 181 ⟨1,1,[],Lw⟩:=aG t (cy 24 1) QT .none (.str jZ 272) 180 [(s5,0)] (by kernel_rfl) (by kernel_rfl) (by kernel_rfl)
theorem ND(t:Text X P):ax X 262 ⟨1,2,[],Lx⟩:=aG t (aS 32) Ik .none (.str gR 492) 261 [(lN,0),(qI,1)] (by kernel_rfl) (by kernel_rfl) (by kernel_rfl)
theorem NF(t:Text X P):ax X 276 ⟨6,6,[],Ly⟩:=aG t (cy 33 0) QU .none (.str gR 492) 275 [(s5,0),(qJ,1),(lZ,2),(Fw,3),(Ca,4),(lN,5)] (by kernel_rfl) (by kernel_rfl) (by kernel_rfl)
theorem NG(t:Text X P):ax X 297 ⟨4,5,[],Lz⟩:=aG t (cy 34 1) QV .none (.str gR 492) 296 [(s5,0),(lZ,1),(Fw,2),(Ca,3),(qK,4)] (by kernel_rfl) (by kernel_rfl) (by kernel_rfl)
theorem NH(t:Text X P):ax X 318 ⟨3,3,[],LA⟩:=aG t (cy 35 1) QW .none (.str gR 492) 317 [(s5,0),(lZ,1),(lO,2)] (by kernel_rfl) (by kernel_rfl) (by kernel_rfl)
theorem NI(t:Text X P):ax X 340 ⟨4,4,[.none],LB⟩:=aG t (cy 36 1) QX (.ref 333) (.str gR 492) 339 [(s5,0),(Il,1),(lO,2),(PW,3)] (by kernel_rfl) (by kernel_rfl) (by kernel_rfl)
theorem NJ(t:Text X P):ax X 361 ⟨2,2,[],LC⟩:=aG t (cy 37 1) QY .none (.str gR 492) 360 [(s5,0),(qH,1)] (by kernel_rfl) (by kernel_rfl) (by kernel_rfl)
theorem NK(t:Text X P):ax X 382 ⟨4,4,[],LD⟩:=aG t (cy 38 1) QZ .none (.str gR 492) 381 [(s5,0),(PX,1),(PY,2),(PZ,3)] (by kernel_rfl) (by kernel_rfl) (by kernel_rfl)
theorem NM(t:Text X P):ax X 403 ⟨2,2,[],LF⟩:=aG t (cy 39 1) Fx .none (.str gR 492) 402 [(s5,0),(Cu,1)] (by kernel_rfl) (by kernel_rfl) (by kernel_rfl)
theorem NN(t:Text X P):ax X 424 ⟨7,7,[],LG⟩:=aG t (cy 40 1) Fy .none (.str gR 492) 423 [(s5,0),(Cr,1),(qK,2),(Ca,3),(Cv,4),(sO,5),(lN,6)] (by kernel_rfl) (by kernel_rfl) (by kernel_rfl)
theorem NO(t:Text X P):ax X 445 ⟨2,2,[],LH⟩:=aG t (cy 41 1) Fz .none (.str gR 492) 444 [(s5,0),(lN,1)] (by kernel_rfl) (by kernel_rfl) (by kernel_rfl)
theorem NP(t:Text X P):ax X 466 ⟨3,3,[],LI⟩:=aG t (cy 42 1) FA .none (.str gR 492) 465 [(s5,0),(Cw,1),(lZ,2)] (by kernel_rfl) (by kernel_rfl) (by kernel_rfl)
theorem NQ(t:Text X P):ax X 487 ⟨2,3,[],LJ⟩:=aG t (cy 43 2) FD .none (.str gR 492) 486 [(s5,0),(Cy,1),(JF,2)] (by kernel_rfl) (by kernel_rfl) (by kernel_rfl)
theorem NR(t:Text X P):ax X 499 ⟨1,3,[],LK⟩:=aG t (aS 44) wd .none (.str gR 492) 498 [(qI,0),(qJ,1),(PO,2)] (by kernel_rfl) (by kernel_rfl) (by kernel_rfl)
theorem NS(t:Text X P):ax X 526 ⟨6,8,[(.int 0),(.int 1),(.tup []),(.int 0)],LL⟩:=aG t (cy 52 0) FE (.ref 521) (.str bO 944) 525 [(s5,0),(lZ,1),(FN,2),(FK,3),(FO,4),(zd,5),(FU,6),(sQ,7)] (by kernel_rfl) (by kernel_rfl) (by kernel_rfl)
theorem NT(t:Text X P):ax X 533 ⟨1,1,[],LM⟩:=aG t (cy 52 1) FI .none (.str bO 944) 532 [(s5,0)] (by kernel_rfl) (by kernel_rfl) (by kernel_rfl)
theorem NU(t:Text X P):ax X 540 ⟨2,3,[],LN⟩:=aG t (cy 52 2) FJ .none (.str bO 944) 539 [(s5,0),(Cr,1),(JG,2)] (by kernel_rfl) (by kernel_rfl) (by kernel_rfl)
theorem NV(t:Text X P):ax X 561 ⟨1,1,[],LO⟩:=aG t (cy 53 0) FP .none (.str bO 944) 560 [(s5,0)] (by kernel_rfl) (by kernel_rfl) (by kernel_rfl)
theorem NW(t:Text X P):ax X 582 ⟨6,6,[],LP⟩:=aG t (cy 54 0) FQ .none (.str bO 944) 581 [(s5,0),(qM,1),(qL,2),(we,3),(wg,4),(CB,5)] (by kernel_rfl) (by kernel_rfl) (by kernel_rfl)
theorem NX(t:Text X P):ax X 603 ⟨6,6,[],LQ⟩:=aG t (cy 55 0) FR .none (.str bO 944) 602 [(s5,0),(ec,1),(n8,2),(CC,3),(sP,4),(l5,5)] (by kernel_rfl) (by kernel_rfl) (by kernel_rfl)
theorem NY(t:Text X P):ax X 617 ⟨1,2,[],LR⟩:=aG t (aS 56) wh .none (.str bO 944) 616 [(ec,0),(qH,1)] (by kernel_rfl) (by kernel_rfl) (by kernel_rfl)
theorem NZ(t:Text X P):ax X 624 ⟨1,1,[],LS⟩:=aG t (aS 57) wj .none (.str bO 944) 623 [(qI,0)] (by kernel_rfl) (by kernel_rfl) (by kernel_rfl)
theorem N0(t:Text X P):ax X 631 ⟨2,10,[],LU⟩:=aG t (aS 58) wk .none (.str bO 944) 630 [(lN,0),(ec,1),(nW,2),(JS,3),(JT,4),(pG,5),(qI,6),(qJ,7),(qN,8),(lO,9)] (by kernel_rfl) (by kernel_rfl) (by kernel_rfl)
theorem N1(t:Text X P):ax X 638 ⟨2,2,[],LV⟩:=aG t (aS 59) wm .none (.str bO 944) 637 [(lN,0),(pG,1)] (by kernel_rfl) (by kernel_rfl) (by kernel_rfl)
theorem N2(t:Text X P):ax X 645 ⟨2,2,[],LW⟩:=aG t (aS 60) wq .none (.str bO 944) 644 [(wo,0),(Il,1)] (by kernel_rfl) (by kernel_rfl) (by kernel_rfl)
theorem N3(t:Text X P):ax X 652 ⟨1,3,[],LX⟩:=aG t (aS 61) sQ .none (.str bO 944) 651 [(lN,0),(nW,1),(qI,2)] (by kernel_rfl) (by kernel_rfl) (by kernel_rfl)
theorem N4(t:Text X P):ax X 659 ⟨1,4,[],LY⟩:=aG t (aS 62) wt .none (.str bO 944) 658 [(lN,0),(wo,1),(nW,2),(qI,3)] (by kernel_rfl) (by kernel_rfl) (by kernel_rfl)
theorem N5(t:Text X P):ax X 666 ⟨2,2,[],LZ⟩:=aG t (aS 63) wu .none (.str bO 944) 665 [(qO,0),(Jx,1)] (by kernel_rfl) (by kernel_rfl) (by kernel_rfl)
theorem N6(t:Text X P):ax X 673 ⟨2,10,[],Gg⟩:=aG t (aS 64) wx .none (.str bO 944) 672 [(lN,0),(ec,1),(qO,2),(nW,3),(pG,4),(qN,5),(lO,6),(JU,7),(FT,8),(sR,9)] (by kernel_rfl) (by kernel_rfl) (by kernel_rfl)
theorem N7(t:Text X P):ax X 680 ⟨2,3,[],L0⟩:=aG t (aS 65) wy .none (.str bO 944) 679 [(ec,0),(CD,1),(wo,2)] (by kernel_rfl) (by kernel_rfl) (by kernel_rfl)
theorem N8(t:Text X P):ax X 685 ⟨3,4,[],L1⟩:=aG t (aS 66) wz .none (.str bO 944) 684 [(FT,0),(sR,1),(sP,2),(s0,3)] (by kernel_rfl) (by kernel_rfl) (by kernel_rfl)
theorem N9(t:Text X P):ax X 692 ⟨2,4,[],L2⟩:=aG t (aS 67) wB .none (.str bO 944) 691 [(lZ,0),(qO,1),(JV,2),(wA,3)] (by kernel_rfl) (by kernel_rfl) (by kernel_rfl)
theorem Oa(t:Text X P):ax X 699 ⟨3,5,[],L4⟩:=aG t (aS 68) wC .none (.str bO 944) 698 [(ec,0),(wA,1),(qN,2),(sO,3),(nW,4)] (by kernel_rfl) (by kernel_rfl) (by kernel_rfl)
theorem Ob(t:Text X P):ax X 706 ⟨4,5,[],L5⟩:=aG t (aS 69) wD .none (.str bO 944) 705 [(ec,0),(CE,1),(CF,2),(n9,3),(nW,4)] (by kernel_rfl) (by kernel_rfl) (by kernel_rfl)
theorem Oc(t:Text X P):ax X 713 ⟨4,23,[],CU⟩:=aG t (aS 70) wG .none (.str bO 944) 712 [(CG,0),(qM,1),(CH,2),(CF,3),(pG,4),(qN,5),(lO,6),(sR,7),(ec,8),(JW,9),(CI,10),(JX,11),(Cr,12),(wF,13),(qL,14),(qO,15),(wA,16),(we,17),(JY,18),(wg,19),(CE,20),(JZ,21),(J0,22)] (by kernel_rfl) (by kernel_rfl) (by kernel_rfl)
theorem Od(t:Text X P):ax X 720 ⟨2,8,[],CV⟩:=aG t (aS 71) wH .none (.str bO 944) 719 [(J2,0),(Cz,1),(CI,2),(wF,3),(nW,4),(n9,5),(J3,6),(J4,7)] (by kernel_rfl) (by kernel_rfl) (by kernel_rfl)
theorem Oe(t:Text X P):ax X 727 ⟨1,2,[],L6⟩:=aG t (aS 72) wJ .none (.str bO 944) 726 [(wF,0),(nW,1)] (by kernel_rfl) (by kernel_rfl) (by kernel_rfl)
theorem Of(t:Text X P):ax X 734 ⟨6,12,[],Gh⟩:=aG t (aS 73) wK .none (.str bO 944) 733 [(lN,0),(ec,1),(n8,2),(CA,3),(CD,4),(l5,5),(sP,6),(CG,7),(CH,8),(qM,9),(nW,10),(n9,11)] (by kernel_rfl) (by kernel_rfl) (by kernel_rfl)
theorem Og(t:Text X P):ax X 741 ⟨1,4,[],L7⟩:=aG t (aS 75) wM .none (.str du 1346) 740 [(CJ,0),(QP,1),(J5,2),(PO,3)] (by kernel_rfl) (by kernel_rfl) (by kernel_rfl)
theorem Oh(t:Text X P):ax X 748 ⟨2,3,[],L8⟩:=aG t (aS 76) wN .none (.str du 1346) 747 [(fu,0),(CK,1),(J6,2)] (by kernel_rfl) (by kernel_rfl) (by kernel_rfl)
theorem Oi(t:Text X P):ax X 755 ⟨1,2,[],L9⟩:=aG t (aS 77) wO .none (.str du 1346) 754 [(fu,0),(nW,1)] (by kernel_rfl) (by kernel_rfl) (by kernel_rfl)
theorem Oj(t:Text X P):ax X 762 ⟨1,6,[],Ma⟩:=aG t (aS 78) wQ .none (.str du 1346) 761 [(fu,0),(lO,1),(qK,2),(zd,3),(FU,4),(J7,5)] (by kernel_rfl) (by kernel_rfl) (by kernel_rfl)
theorem Ol(t:Text X P):ax X 769 ⟨4,4,[],Mb⟩:=aG t (aS 79) wR .none (.str du 1346) 768 [(jm,0),(qI,1),(sS,2),(J8,3)] (by kernel_rfl) (by kernel_rfl) (by kernel_rfl)
theorem Om(t:Text X P):ax X 776 ⟨2,4,[],Mc⟩:=aG t (aS 80) wU .none (.str du 1346) 775 [(fu,0),(qK,1),(J9,2),(n9,3)] (by kernel_rfl) (by kernel_rfl) (by kernel_rfl)
theorem Oo(t:Text X P):ax X 783 ⟨1,2,[],Md⟩:=aG t (aS 81) wV .none (.str du 1346) 782 [(fu,0),(lO,1)] (by kernel_rfl) (by kernel_rfl) (by kernel_rfl)
theorem Oq(t:Text X P):ax X 790 ⟨4,9,[],CW⟩:=aG t (aS 82) wW .none (.str du 1346) 789 [(fu,0),(jm,1),(ec,2),(Ka,3),(qK,4),(lO,5),(qI,6),(sS,7),(Kb,8)] (by kernel_rfl) (by kernel_rfl) (by kernel_rfl)
theorem Ot(t:Text X P):ax X 797 ⟨4,14,[],zw⟩:=aG t (aS 83) wX .none (.str du 1346) 796 [(fu,0),(jm,1),(Kc,2),(Kd,3),(qI,4),(lO,5),(qK,6),(Cs,7),(yW,8),(Fv,9),(Ij,10),(sS,11),(Ke,12),(Kf,13)] (by kernel_rfl) (by kernel_rfl) (by kernel_rfl)
theorem Ou(t:Text X P):ax X 804 ⟨1,4,[],Me⟩:=aG t (aS 84) wY .none (.str du 1346) 803 [(fu,0),(qK,1),(Cs,2),(yW,3)] (by kernel_rfl) (by kernel_rfl) (by kernel_rfl)
theorem Ov(t:Text X P):ax X 811 ⟨3,4,[],Mf⟩:=aG t (aS 85) wZ .none (.str du 1346) 810 [(fu,0),(jm,1),(Kg,2),(Jx,3)] (by kernel_rfl) (by kernel_rfl) (by kernel_rfl)
theorem Ow(t:Text X P):ax X 816 ⟨3,10,[],CX⟩:=aG t (aS 86) w3 .none (.str du 1346) 815 [(fu,0),(jm,1),(ec,2),(Sd,3),(Se,4),(Sf,5),(sO,6),(sS,7),(FW,8),(qK,9)] (by kernel_rfl) (by kernel_rfl) (by kernel_rfl)
theorem Ox(t:Text X P):ax X 823 ⟨3,4,[],Mg⟩:=aG t (aS 87) w4 .none (.str du 1346) 822 [(fu,0),(jm,1),(ec,2),(lO,3)] (by kernel_rfl) (by kernel_rfl) (by kernel_rfl)
theorem Oy(t:Text X P):ax X 830 ⟨2,4,[],Mh⟩:=aG t (aS 88) w5 .none (.str du 1346) 829 [(Kh,0),(Jy,1),(Ki,2),(Kj,3)] (by kernel_rfl) (by kernel_rfl) (by kernel_rfl)
theorem Oz(t:Text X P):ax X 837 ⟨5,7,[],Mi⟩:=aG t (aS 89) w6 .none (.str du 1346) 836 [(FV,0),(ec,1),(n8,2),(CL,3),(l5,4),(Kk,5),(Kl,6)] (by kernel_rfl) (by kernel_rfl) (by kernel_rfl)
theorem OA(t:Text X P):ax X 842 ⟨4,5,[],Mj⟩:=aG t (aS 90) w7 .none (.str du 1346) 841 [(jm,0),(FX,1),(nW,2),(l5,3),(pG,4)] (by kernel_rfl) (by kernel_rfl) (by kernel_rfl)
theorem OB(t:Text X P):ax X 849 ⟨1,11,[],xa⟩:=aG t (aS 91) zi .none (.str du 1346) 848 [(CJ,0),(fu,1),(CK,2),(ec,3),(n8,4),(CL,5),(jm,6),(sR,7),(FW,8),(l5,9),(FX,10)] (by kernel_rfl) (by kernel_rfl) (by kernel_rfl)
theorem Ha(t:Text X P):∀f r,bA f (aP X.ns).fns=some r→ax X f r:=by
 intro f
 show ∀r,bA f zx=some r→ax X f r
 unfold zx
 refine af (Q:=ax X) (Sk t) ?_
 refine af (Q:=ax X) (Sl t) ?_
 refine af (Q:=ax X) (Nw t) ?_
 refine af (Q:=ax X) (Ny t) ?_
 refine af (Q:=ax X) (Nz t) ?_
 refine af (Q:=ax X) (NA t) ?_
 refine af (Q:=ax X) (NB t) ?_
 refine af (Q:=ax X) (ND t) ?_
 refine af (Q:=ax X) (NF t) ?_
 refine af (Q:=ax X) (NG t) ?_
 refine af (Q:=ax X) (NH t) ?_
 refine af (Q:=ax X) (NI t) ?_
 refine af (Q:=ax X) (NJ t) ?_
 refine af (Q:=ax X) (NK t) ?_
 refine af (Q:=ax X) (NM t) ?_
 refine af (Q:=ax X) (NN t) ?_
 refine af (Q:=ax X) (NO t) ?_
 refine af (Q:=ax X) (NP t) ?_
 refine af (Q:=ax X) (NQ t) ?_
 refine af (Q:=ax X) (NR t) ?_
 refine af (Q:=ax X) (NS t) ?_
 refine af (Q:=ax X) (NT t) ?_
 refine af (Q:=ax X) (NU t) ?_
 refine af (Q:=ax X) (NV t) ?_
 refine af (Q:=ax X) (NW t) ?_
 refine af (Q:=ax X) (NX t) ?_
 refine af (Q:=ax X) (NY t) ?_
 refine af (Q:=ax X) (NZ t) ?_
 refine af (Q:=ax X) (N0 t) ?_
 refine af (Q:=ax X) (N1 t) ?_
 refine af (Q:=ax X) (N2 t) ?_
 refine af (Q:=ax X) (N3 t) ?_
 refine af (Q:=ax X) (N4 t) ?_
 refine af (Q:=ax X) (N5 t) ?_
 refine af (Q:=ax X) (N6 t) ?_
 refine af (Q:=ax X) (N7 t) ?_
 refine af (Q:=ax X) (N8 t) ?_
 refine af (Q:=ax X) (N9 t) ?_
 refine af (Q:=ax X) (Oa t) ?_
 refine af (Q:=ax X) (Ob t) ?_
 refine af (Q:=ax X) (Oc t) ?_
 refine af (Q:=ax X) (Od t) ?_
 refine af (Q:=ax X) (Oe t) ?_
 refine af (Q:=ax X) (Of t) ?_
 refine af (Q:=ax X) (Og t) ?_
 refine af (Q:=ax X) (Oh t) ?_
 refine af (Q:=ax X) (Oi t) ?_
 refine af (Q:=ax X) (Oj t) ?_
 refine af (Q:=ax X) (Ol t) ?_
 refine af (Q:=ax X) (Om t) ?_
 refine af (Q:=ax X) (Oo t) ?_
 refine af (Q:=ax X) (Oq t) ?_
 refine af (Q:=ax X) (Ot t) ?_
 refine af (Q:=ax X) (Ou t) ?_
 refine af (Q:=ax X) (Ov t) ?_
 refine af (Q:=ax X) (Ow t) ?_
 refine af (Q:=ax X) (Ox t) ?_
 refine af (Q:=ax X) (Oy t) ?_
 refine af (Q:=ax X) (Oz t) ?_
 refine af (Q:=ax X) (OA t) ?_
 refine af (Q:=ax X) (OB t) ?_
 exact yk
theorem Fb(t:Text X P):∀n,dU X (aP X.ns) n
 |0=>fun f A l s W H args us R E e=>by rw[sV] at e;exact e.elim
 |n+1=>rG (Ha t) (Fb t n)
end
end
section
open PyProof.Rows PySem.Calls PySem.W
theorem rQ{xs:List WData}:WShape.hasItems [] xs .int=true→∃ns:List Int,xs=ns.map WData.int:=by
 induction xs with
 |nil=>exact fun _=>⟨[],rfl⟩
 |cons x r ih=>
  intro h
  have h:=Bool.and_eq_true_iff.mp (show(WShape.has [] x .int && WShape.hasItems [] r .int)=true from h)
  exact(hasW_int h.1).elim fun i e=>(ih h.2).elim fun ns q=>⟨i::ns,by rw[e,q];rfl⟩
theorem Ba{ns:List Int}(h2:WTm.holds [] (.and (.not (.lt (.lit (.int 63)) (.len (.arg 0)))) (.lit (.bool true))) {args:=[.list (ns.map WData.int)]}=true):ns.length≤63:=by
 have h2:(fun b:Bool=>WTm.holds [] (.and (.lit (.bool (!b))) (.lit (.bool true))) ⟨[],none,[],[]⟩) (decide ((63:Int)<(((ns.map WData.int).length:Nat):Int)))=true:=h2
 rw[List.length_map] at h2
 cases e:decide ((63:Int)<(ns.length:Nat)) with
 |true=>rw[e] at h2;exact nomatch (show false=true from h2)
 |false=>exact Int.ofNat_le.mp (Int.not_lt.mp (of_decide_eq_false e))
theorem DX{args:List WData}(h:EF.row.toRowW.claim.pre args=true):∃ns:List Int,args=[.list (ns.map WData.int)]∧ns.length≤63:=by
 obtain⟨h1,h2⟩:=pre_splitW h
 obtain⟨d,r,rfl,h4,h3⟩:=hasAllW_cons (R:=[]) (es:=[]) (e:=.list .int) h1
 cases hasAllW_nil h3
 obtain⟨xs,rfl,h5⟩:=hasW_list h4
 obtain⟨ns,rfl⟩:=rQ h5
 exact⟨ns,rfl,Ba h2⟩
theorem t7{cl:Str→Option Addr}{h:Heap}{ns:List Int}:∀{vs:List Value} {as:List Addr},ReadsAllW [] cl h vs (ns.map WData.int) as→IntsAre vs ns:=by
 induction ns with
 |nil=>exact fun r=>(readsAllW_nil_inv r).1▸.nil
 |cons n ns ih=>
  intro _ _ r
  obtain⟨v,vs,a,b,rfl,_,h,t⟩:=readsAllW_cons_inv r
  obtain⟨t,rfl,_⟩:=readsW_int_inv h
  exact .cons _ _ (ih ‹_›)
theorem Hb(P:Params):nsIn (KK P) mainGlobals ("law":Str)=some (some (.ref 849)):=by kernel_rfl
theorem Bb:pJ.name=("law":Str):=by kernel_rfl
theorem holds_of(main:∀ns:List Int,ns.length≤63→aj (aP ns) 20 849 [.bG] [] (fun v _=>v=.bool true) nE):PySem.Challenge.rw_tu0007_01.Holds:=by
 refine head ?_
 apply aO;intro
 generalize bL .. =w,bM .. =eT,bQ .. =bc,bR .. =mg
 intro mb G Y a o pm cd doc dV kV ha ho Vg GJ hm hg args vals as Sn XM So Zn Vo
 obtain⟨ns,rfl,hn⟩:=DX Sn
 have run:=main ns hn
 have So:ReadsAllW [] (classAt eT.heap) bc.heap vals [.list (ns.map WData.int)] as:=So
 have Sp:a=849:=by
  have:=mg_of Y G.T.g (Hb w.params)
  rw[Bb,this] at hm
  cases hm;rfl
 subst Sp
 obtain⟨v,vs,b,bs,rfl,-,hv,IC⟩:=readsAllW_cons_inv So
 obtain rfl:=(readsAllW_nil_inv IC).1
 obtain⟨l,ol,sW,n,ai,rfl,g1,g2,g3,g4,-⟩:=readsW_list_open hv
 have hi:=t7 g4
 let X:Cx:=⟨EF.row.toRowW.prog,w,KK w.params,q,looseW q loose,bc.heap,mg,mb,ns,rN,64,qj,True,fun _=>Y,fun _=>topRead_of G.T,fun _=>XE,fun _=>by omega⟩
 have t:Text X w.params:=⟨trivial,rfl,rfl,rfl,rfl⟩
 have co:dU X (aP ns) 20:=Fb t 20
 have R₀:HR X ⟨bc.heap.get?,[]⟩ [] bc.heap:=⟨rfl,fun i p o e=>by simp at e,fun i j p q _ e=>by simp at e,fun a o e=>e,fun p hp=>(by simp at hp),fun a o e=>e,trivial⟩
 have ak:Dk callerA [] 20:=⟨rfl,rfl,by decide,by decide⟩
 have hc:=co 849 callerA [] bc ⟨bc.heap.get?,[]⟩ [] [.bG] [.ref l] _ _ run R₀ (Nat.le_refl _) (fun e he=>by cases he) (.cons (.bG l ol n sW.toList g1 g2 (by simpa using g3) hi) .nil) ak
 refine wpAny_call (codeAny_mono hc fun res s' c=> ?_)
 have key:res=.ok (.ret (.bool true))∧GoodWG EF.row.toRowW.claim (classAt eT.heap) (ExcName.means eT.heap) [.list (ns.map WData.int)] bc res s':=by
  rcases c.el with⟨u,v,H',W',rfl,S,R,vr,q,rfl⟩|⟨_,_,_,_,_,_,c1⟩
  ·skip
   cases vr
   refine⟨rfl,GoodW.toG ⟨.inl ⟨.bool true,.bool true,[],rfl,fun cls=>rfl,.bool true,?_,fun _=>⟨List.nodup_nil,fun a ha=>by cases ha⟩⟩,fun b o e=>S.keep b o e (fun⟨p,hp,_⟩=>by cases hp) (by simp[Fs]),q.2.2,q.1.trans hg⟩⟩
   show(WShape.has [] (.bool true) .bool && WTm.holds [] (.eq .res (.lit (.bool true))) {args:=[.list (ns.map WData.int)],res:=some (.bool true),after:=[.list (ns.map WData.int)]})=true
   exact Bool.and_eq_true_iff.mpr ⟨rfl,congrArg (fun b=>WTm.holds [] (.lit (.bool b)) ⟨[],none,[],[]⟩) (same_self (.bool true))⟩
  ·exact c1.ask.elim
 obtain⟨rfl,g⟩:=key
 exact g
end
section
open PyProof
theorem Vp{α:Type}(i:Nonempty α)(P:α→Prop):∃x,P x→∀y,P y:=
 (Classical.em (∀y,P y)).elim (fun h=>i.elim fun x=>⟨x,fun _=>h⟩) fun h=>(Classical.not_forall.mp h).elim fun x n=>⟨x,fun p=>absurd p n⟩
noncomputable def Vq{α:Type}[i:Nonempty α](P:α→Prop):α:=Classical.choose (Vp i P)
theorem DY{α:Type}[i:Nonempty α]{P:α→Prop}(h:P (Vq P)):∀x,P x:=Classical.choose_spec (Vp i P) h
section
variable {α:Type}[Nonempty α](F:α→PV)(G:α→aa→Prop→Prop)(R:PV→aa→Prop)
noncomputable def cc:α×aa:=Vq fun p:α×aa=>G p.1 p.2 (R (F p.1) p.2)
noncomputable def ca:α:=(cc F G R).1
noncomputable def cb:aa:=(cc F G R).2
def Kt:Prop:=G (ca F G R) (cb F G R) (R (F (ca F G R)) (cb F G R))
end
theorem kt{α:Type}[Nonempty α]{F:α→PV}{G:α→aa→Prop→Prop}{R:PV→aa→Prop}(h:Kt F G R)(a:α)(H:aa):G a H (R (F a) H):=DY (P:=fun p:α×aa=>G p.1 p.2 (R (F p.1) p.2)) h (a,H)
theorem o8{α:Type}[Nonempty α]{F:α→PV}{G:α→aa→Prop→Prop}{R:PV→aa→Prop}(h:∀a H,G a H (R (F a) H)):Kt F G R:=h _ _
noncomputable def ep{α:Type}[Nonempty α](P:α→Prop):α:=Classical.epsilon P
theorem Zo{α:Type}[Nonempty α]{P:α→Prop}(h:∃x,P x):P (ep P):=Classical.epsilon_spec h
noncomputable abbrev Sq(np m:Nat)(vs:List PV):Loc:=vs.map some++List.replicate (m - np) none
section
variable {P:ef}{n f:Nat}{args:List PV}{H:aa}{R:PV→aa→Prop}{E:XK→aa→Prop}
theorem o9{vs:List PV}{np m:Nat}{d:List PV}{b:cx}(hl:bA f P.fns=some ⟨np,m,d,b⟩)(hf:jo ⟨np,m,d,b⟩ args=some vs)
  (h:wSs P (aj P n) b (Sq np m vs) H (fR R) (fun _ _ H=>E .flying H)):Wc (aj P (n+1) f args H) R E:=by
 refine .of ?_
 rw[mB]
 unfold qS
 rw[hl];dsimp only
 rw[hf]
 exact h
theorem aT{np m:Nat}{b:cx}(hl:bA f P.fns=some ⟨np,m,[],b⟩)(hf:args.length=np)
  (h:wSs P (aj P n) b (Sq np m args) H (fR R) (fun _ _ H=>E .flying H)):Wc (aj P (n+1) f args H) R E:=by
 subst hf
 refine o9 hl ?_ h
 unfold jo
 rw[if_pos ⟨Nat.le_refl _,Nat.le_refl _⟩,List.drop_nil,List.append_nil]
theorem make{c f:Nat}{a:List (Nat×PV)}{ms:List (Nat×Nat)}{args:List PV}{call:Nat→List PV→aa→RP}(hl:bA c P.pO=some ⟨some f,a,ms⟩)
  (h:Wc (call f (.ref H.length::args) (H++[.inst c []])) (UW R H.length) nE):Wc (cC P call c args H) R E:=by
 refine .of ?_
 unfold cC
 rw[hl]
 exact h.el
end
theorem aX{H:aa}{o:aF}:(H++[o])[H.length]? =some o:=List.getElem?_concat_length
theorem getset{H:aa}{i:Nat}{o x:aF}(h:H[i]? =some x):(H.set i o)[i]? =some o:=List.getElem?_set_self (List.getElem?_eq_some_iff.mp h).1
theorem bz{H:aa}{i j:Nat}{o:aF}(h:i≠j):(H.set i o)[j]? =H[j]? :=List.getElem?_set_ne h
theorem nh{H:aa}{x y:aF}:(H++[x]).set H.length y=H++[y]:=by
 rw[List.set_append_right _ _ (Nat.le_refl _),Nat.sub_self];rfl
section
variable {ns:List Int}{n:Nat}{H:aa}{Q:QL}{E:EL}{loc:Loc}
theorem aB{c:Nat}{fs:List (Nat×PV)}{v:PV}{k:aa→Prop}(g:k (H++[.inst c (putN n v fs)]))(hb:dS.contains (c,n)=false:=by rfl)(hf:Nat.ble 100 fs.length=false:=by rfl):
  WO (dZ (aP ns) (H++[.inst c fs]) (.ref H.length) n v) k:=by
 refine .of (a:=H++[.inst c (putN n v fs)]) ?_ g
 have hf:fs.length<100:=Nat.lt_of_not_le fun h=>by rw[Nat.ble_eq_true_of_le h] at hf;cases hf
 unfold dZ
 simp only[aX]
 rw[show(aP ns).bad=dS from rfl,hb,if_neg (by decide),if_pos hf,nh]
theorem Sr{c:Nat}{fs:List (Nat×PV)}{v:PV}{k:PV→Prop}(h:bA n fs=some v)(g:k v)(hb:dS.contains (c,n)=false:=by rfl):
  WO (g9 (aP ns) (H++[.inst c fs]) (.ref H.length) n) k:=by
 refine .of (a:=v) ?_ g
 show j2 _ _ _=_
 rw[aX]
 show(if _ then _ else _)=_
 rw[show(aP ns).bad=dS from rfl,hb,if_neg (by decide),h]
theorem WP.or{a b A B:Prop}(h:a∨b→A)(g:¬a→¬b→B):WP a A (WP b A B):=.of (fun x=>h (.inl x)) fun x=>.of (fun y=>h (.inr y)) (g x)
theorem WP.or3{a b c A B:Prop}(h:a∨b∨c→A)(g:¬a→¬b→¬c→B):WP a A (WP b A (WP c A B)):=.of (fun x=>h (.inl x)) fun x=>.or (fun y=>h (.inr y)) (g x)
theorem WP.Vr{a b c d e A B:Prop}(h:a∨b∨c∨d∨e→A)(g:¬a→¬b→¬c→¬d→¬e→B):WP a A (WP b A (WP c A (WP d A (WP e A B)))):=.of (fun x=>h (.inl x)) fun x=>.of (fun y=>h (.inr (.inl y))) fun y=>.or3 (fun z=>h (.inr (.inr z))) (g x y)
theorem WP.and{a b A B:Prop}(h:a→b→A)(g:¬(a∧b)→B):WP a (WP b A B) B:=.of (fun x=>.of (h x) fun y=>g fun z=>y z.2) fun x=>g fun z=>x z.1
theorem WP.Ss{a b c A B:Prop}(h:a→b→c→A)(g:¬(a∧b∧c)→B):WP a (WP b (WP c A B) B) B:=.of (fun x=>.and (h x) fun y=>g fun z=>y z.2) fun x=>g fun z=>x z.1
theorem WP.iff{a b A B:Prop}(e:a↔b)(h:WP b A B):WP a A B:=.of (fun x=>h.el.1 (e.mp x)) fun x=>h.el.2 fun y=>x (e.mpr y)
theorem Fc{P:ef}{call:Nat→List PV→aa→RP}{b:cx}{s:IS}{r:cx}(h:wS P call s loc H (mn Q fun loc H=>wSs P call r loc H Q E) E)(hb:b=.cons s r:=by rfl):wSs P call b loc H Q E:=by subst hb;exact h
theorem cut{P:ef}{call:Nat→List PV→aa→RP}{s:IS}{r:cx}{σ:Type}(L:σ→Loc)(M:σ→aa)(J:σ→Prop)(h:∀N:Loc→aa→Prop,(∀s,J s→N (L s) (M s))→wS P call s loc H (mn Q N) E)
  (k:∀s,J s→wSs P call r (L s) (M s) Q E):wSs P call (.cons s r) loc H Q E:=h (fun loc H=>wSs P call r loc H Q E) k
theorem lG{P:ef}{call:Nat→List PV→aa→RP}{b:cx}{s:IS}{r:cx}{σ:Type}(L:σ→Loc)(M:σ→aa)(J:σ→Prop)(h:∀N:Loc→aa→Prop,(∀s,J s→N (L s) (M s))→wS P call s loc H (mn Q N) E)
  (k:∀s,J s→wSs P call r (L s) (M s) Q E) (hb:b=.cons s r:=by rfl):wSs P call b loc H Q E:=by subst hb;exact h (fun loc H=>wSs P call r loc H Q E) k
section
variable {body:Loc→aa→QL→EL→Prop}{ct:List Nat}{r:Nat}{σ:Type}(L:Nat→σ→Loc)(M:Nat→σ→aa)(J:Nat→σ→Prop)(eT:σ)
def Bc(L:Nat→σ→Loc)(M:Nat→σ→aa)(J:Nat→σ→Prop)(k:Nat)(loc:Loc)(H:aa):Prop:=∃s,loc=L k s∧H=M k s∧J k s
theorem DZ{sr:Src}(N:Nat)(item:Nat→PV)(i0:J 0 eT)(get:∀k s,J k s→k<N→sr.get (M k s) k=some (some (item k)))(fin:∀s,J N s→sr.get (M N s) N=some none)
  (step:∀k s,J k s→k<N→f9 ct (item k) (L k s) fun loc=>body loc (M k s) (kO Q (Bc L M J (k+1))) (mu E))
  (done:∀s,J N s→Q .next (L N s) (M N s)):mz body ct sr (L 0 eT) (M 0 eT) Q E:=by
 unfold mz
 refine⟨N,item,Bc L M J,⟨eT,rfl,rfl,i0⟩,?_,?_,?_,?_⟩
 ·rintro k _ _ ⟨s,rfl,rfl,j⟩ h;exact get k s j h
 ·rintro _ _ ⟨s,rfl,rfl,j⟩;exact fin s j
 ·rintro k _ _ h ⟨s,rfl,rfl,j⟩;exact step k s j h
 ·rintro _ _ ⟨s,rfl,rfl,j⟩;exact done s j
theorem qk(vs:List PV)(i0:J 0 eT)
  (step:∀k s v,J k s→vs[k]? =some v→f9 ct v (L k s) fun loc=>body loc (M k s) (kO Q (Bc L M J (k+1))) (mu E))
  (done:∀s,J vs.length s→Q .next (L vs.length s) (M vs.length s)):mz body ct (.fixed vs) (L 0 eT) (M 0 eT) Q E:=by
 refine DZ L M J eT vs.length (fun k=>(vs[k]?).getD .none) i0 ?_ ?_ ?_ done
 ·intro k s _ h;show some _=_;rw[List.getElem?_eq_getElem h];rfl
 ·intro s _;show some _=_;rw[List.getElem?_eq_none (Nat.le_refl _)]
 ·intro k s j h;have:=step k s _ j (List.getElem?_eq_getElem h);rw[List.getElem?_eq_getElem h];exact this
theorem cZ{H:aa}{l:List PV}(h:H[r]? =some (.list l)):listAt H r=some l:=congrArg zv h
theorem et(vs:List PV)(i0:J 0 eT)(g:∀k s,J k s→(M k s)[r]? =some (.list vs))
  (step:∀k s v,J k s→vs[k]? =some v→f9 ct v (L k s) fun loc=>body loc (M k s) (kO Q (Bc L M J (k+1))) (mu E))
  (done:∀s,J vs.length s→Q .next (L vs.length s) (M vs.length s)):mz body ct (.live r) (L 0 eT) (M 0 eT) Q E:=by
 refine DZ L M J eT vs.length (fun k=>(vs[k]?).getD .none) i0 ?_ ?_ ?_ done
 ·intro k s j h;show(listAt _ _).map _=_;rw[cZ (g k s j),Option.map_some,List.getElem?_eq_getElem h];rfl
 ·intro s j;show(listAt _ _).map _=_;rw[cZ (g _ s j),Option.map_some,List.getElem?_eq_none (Nat.le_refl _)]
 ·intro k s j h;have:=step k s _ j (List.getElem?_eq_getElem h);rw[List.getElem?_eq_getElem h];exact this
theorem vE(vs:List PV)(i0:J 0 eT)(g:∀k s,J k s→(M k s)[r]? =some (.list vs))
  (step:∀k s v,J k s→vs[k]? =some v→f9 ct (.tup [.int k,v]) (L k s) fun loc=>body loc (M k s) (kO Q (Bc L M J (k+1))) (mu E))
  (done:∀s,J vs.length s→Q .next (L vs.length s) (M vs.length s)):mz body ct (.enum r) (L 0 eT) (M 0 eT) Q E:=by
 refine DZ L M J eT vs.length (fun k=>.tup [.int k,(vs[k]?).getD .none]) i0 ?_ ?_ ?_ done
 ·intro k s j h;show(listAt _ _).map _=_;rw[cZ (g k s j),Option.map_some,List.getElem?_eq_getElem h];rfl
 ·intro s j;show(listAt _ _).map _=_;rw[cZ (g _ s j),Option.map_some,List.getElem?_eq_none (Nat.le_refl _)];rfl
 ·intro k s j h;have:=step k s _ j (List.getElem?_eq_getElem h);rw[List.getElem?_eq_getElem h];exact this
def Hc(body:Loc→aa→QL→EL→Prop)(ct:List Nat)(Q:QL)(E:EL):List PV→Loc→aa→Prop
 |[],loc,H=>Q .next loc H
 |v::r,loc,H=>f9 ct v loc fun loc=>body loc H (kO Q (Hc body ct Q E r)) (mu E)
theorem ix{α:Type}{vs:List α}{k:Nat}(h:k<vs.length):vs.drop k=vs[k]::vs.drop (k+1):=(List.getElem_cons_drop h).symm
theorem Su{vs:List PV}(h:Hc body ct Q E vs loc H):mz body ct (.fixed vs) loc H Q E:=by
 unfold mz
 refine⟨vs.length,fun k=>(vs[k]?).getD .none,fun k=>Hc body ct Q E (vs.drop k),h,?_,?_,?_,?_⟩
 ·intro k _ _ _ h;show some _=some (some ((vs[k]?).getD .none));rw[List.getElem?_eq_getElem h];rfl
 ·intro _ _ _;show some _=_;rw[List.getElem?_eq_none (Nat.le_refl _)]
 ·intro k loc H h i;rw[ix h] at i;show f9 ct ((vs[k]?).getD .none) loc _;rw[List.getElem?_eq_getElem h];exact i
 ·intro loc H i;rw[List.drop_length] at i;exact i
def runC(elt:Loc→aa→(PV→aa→Prop)→(XK→aa→Prop)→Prop)(ct:List Nat)(R:List PV→aa→Prop):List PV→List PV→Loc→aa→Prop
 |[],acc,_,H=>R acc H
 |v::r,acc,loc,H=>f9 ct v loc fun loc=>elt loc H (fun x H=>acc.length<1000∧runC elt ct R r (acc++[x]) loc H) nE
theorem qm{elt:Loc→aa→(PV→aa→Prop)→(XK→aa→Prop)→Prop}{R:List PV→aa→Prop}{vs:List PV}(h:runC elt ct R vs [] loc H):mA elt ct (.fixed vs) loc H R:=by
 unfold mA
 refine⟨vs.length,fun k=>(vs[k]?).getD .none,fun k=>runC elt ct R (vs.drop k),h,?_,?_,?_,?_⟩
 ·intro k _ _ _ _ h;show some _=some (some ((vs[k]?).getD .none));rw[List.getElem?_eq_getElem h];rfl
 ·intro _ _ _ _;show some _=_;rw[List.getElem?_eq_none (Nat.le_refl _)]
 ·intro k acc loc H h i;rw[ix h] at i;show f9 ct ((vs[k]?).getD .none) loc _;rw[List.getElem?_eq_getElem h];exact i
 ·intro acc loc H i;rw[List.drop_length] at i;exact i
end
end
noncomputable def ff:cx→Nat→IS
 |.cons s _,0=>s
 |.cons _ r,n+1=>ff r n
 |.nil,_=>.cont
noncomputable def iV:cx→Nat→cx
 |r,0=>r
 |.cons _ r,n+1=>iV r n
 |.nil,_=>.nil
noncomputable def Be:IS→cx
 |.for _ _ b=>b
 |.while _ b=>b
 |_=>.nil
noncomputable def Fd:IS→cx
 |.ite _ t _=>t
 |_=>.nil
def Dm(x:Int):Prop:=-1073741823≤x∧x≤1073741823
def Nm(x:Int):Prop:=-2147483647≤x∧x≤2147483647
def eV(p T:Nat)(H:aa):Prop:=∃w t:Int,H[p]? =some (.list [.int w,.int t])∧0≤w∧0≤t∧t≤T
theorem eV.list{p T:Nat}{H:aa}(h:eV p T H):∃l,H[p]? =some (.list l):=let⟨_,_,h,_⟩:=h;⟨_,h⟩
def XN(p T:Nat)(m:Int)(H:aa)(d:Int)(H':aa)(C:Prop):Prop:=0≤d→d<m→∀o,H'=H.set p (.list o)→eV p (T+1) H'→C
section
variable {ns:List Int}{n:Nat}{H:aa}{R:PV→aa→Prop}{E:XK→aa→Prop}
theorem kA{lo hi x:Int}(h1:lo≤x)(h2:x≤hi)(k:R (.bool true) H):Wc (aj (aP ns) (n+1) 89 [.int x,.int lo,.int hi] H) R E:=by
 refine aT rfl rfl (.pos h1 ?_)
 show R (.bool (decide (x≤hi))) H
 rw[decide_eq_true h2];exact k
theorem OC{lo hi x:Int}(h:¬(lo≤x∧x≤hi))(k:R (.bool false) H):Wc (aj (aP ns) (n+1) 89 [.int x,.int lo,.int hi] H) R E:=by
 refine aT rfl rfl (.of (fun h1=> ?_) fun _=>k)
 show R (.bool (decide (x≤hi))) H
 rw[decide_eq_false fun h2=>h ⟨h1,h2⟩];exact k
theorem OD{x:Int}(k:R (.int x) H):Wc (aj (aP ns) (n+1) 96 [.int x] H) R E:=aT rfl rfl k
theorem dH{x:Int}(h:Dm x)(k:R (.int x) H):Wc (aj (aP ns) (n+2) 110 [.int x] H) R E:=
 aT rfl rfl (OD (.pos h.1 (.pos h.2 k)))
theorem rR{x:Int}(h:Nm x)(k:R (.int x) H):Wc (aj (aP ns) (n+2) 103 [.int x] H) R E:=
 aT rfl rfl (OD (.pos h.1 (.pos h.2 k)))
theorem digit_of{w m:Int}(hm:0<m):0≤w.fmod m∧w.fmod m<m:=by
 rw[Int.fmod_eq_emod_of_nonneg _ (by exact Int.le_of_lt hm)]
 exact⟨Int.emod_nonneg _ (by exact(Int.ne_of_lt hm).symm),Int.emod_lt_of_pos _ hm⟩
theorem uc{a b:PV}:((place 0 [a,b].length).bind fun m=>[a,b][m]?)=some a:=rfl
theorem qo{a b:PV}:((place 1 [a,b].length).bind fun m=>[a,b][m]?)=some b:=rfl
theorem Sv{a b:PV}:(0:Int)≤0∧(0:Int)<[a,b].length∧[a,b].length<100000:=⟨by decide,(by decide:(0:Int)<2),(by decide:2<100000)⟩
theorem Sw{a b:PV}:(0:Int)≤1∧(1:Int)<[a,b].length∧[a,b].length<100000:=⟨by decide,(by decide:(1:Int)<2),(by decide:2<100000)⟩
theorem Sx{p T:Nat}{m:Int}(hp:eV p T H)(hm:0<m)(Qa:m<1000)(hT:T<10 ^ 15)(k:Kt PV.int (XN p T m H) R):Wc (aj (aP ns) (n+1) 748 [.ref p,.int m] H) R E:=by
 revert ns n H R E p T m
 apply aQ;intro
 generalize bT .. =ns,bU .. =n,bV .. =H,bW .. =R,cj .. =E,ck .. =p,cm .. =T,cp .. =m
 intro hp hm Qa hT k
 have k:=kt k
 obtain⟨w,t,h,hw,h0,ht⟩:=hp
 have hq:∀x:Int,m≠0∧Builtin.divisionGoesByPylong x m=false:=fun x=>⟨by exact(Int.ne_of_lt hm).symm,noPylong_small (by exact pF (eH (Int.le_of_lt hm) Qa) rfl rfl)⟩
 have s2:∀o,(H.set p o)[p]? =some o:=fun o=>getset h
 refine aT rfl rfl (.of h (.of uc (.of (fun q=> ?_) fun q=> ?_)))
 ·refine .of h (.of uc (.of (by exact(Int.ne_of_lt hm).symm) (.of h (.of uc (.of (hq _) (.of h (.of Sv ?_)))))))
  refine k _ _ (digit_of hm).1 (digit_of hm).2 _ rfl ⟨_,_,s2 _,?_,h0,Int.le_trans ht (by exact Int.ofNat_le.mpr (Nat.le_succ _))⟩
  rw[Int.fdiv_eq_ediv_of_nonneg _ (by exact Int.le_of_lt hm)];exact Int.ediv_nonneg hw (by exact Int.le_of_lt hm)
 ·have h2:=s2 (.list [.int w,.int (t+1)])
  have l1:(t+1).natAbs<2 ^ 64:=by exact pF (eP ⟨h0,Int.le_trans ht (Int.ofNat_le.mpr (Nat.le_of_lt hT))⟩ (d8 1)) rfl rfl
  refine .of h (.of qo (.of h (.of Sw (.of h2 (.of qo (.of (.inr l1) (.of h2 (.of qo (.of (.inr l1) (.of h2 (.of qo (.of (.inr l1) (.of (by decide) (.of (by exact(Int.ne_of_lt hm).symm) ?_))))))))))))))
  exact k _ _ (digit_of hm).1 (digit_of hm).2 _ rfl ⟨_,_,h2,hw,by exact Int.le_add_one h0,by exact Int.add_le_add_right ht 1⟩
noncomputable def gK(fV total:Int):Int:=if fV≤7230584 then(fV * 297).fdiv total else if 1663497≤total then fV.fdiv (total.fdiv 297) else fV
noncomputable def lH(fV total:Int):Int:=if fV=0 then 0 else if total≤0 then 10000 else if 1290<gK fV total then 10000 else
 (gK fV total * gK fV total * gK fV total+131072).fdiv 262144
theorem oD{e t:Int}(he:0≤e)(ht:0<t):0≤gK e t:=by
 unfold gK
 split
 ·rw[Int.fdiv_eq_ediv_of_nonneg _ (by exact Int.le_of_lt ht)];exact Int.ediv_nonneg (by lia) (by exact Int.le_of_lt ht)
 ·split
  ·rw[Int.fdiv_eq_ediv_of_nonneg t (by lia)]
   have:0≤t / 297:=Int.ediv_nonneg (by exact Int.le_of_lt ht) (by lia)
   rw[Int.fdiv_eq_ediv_of_nonneg _ this];exact Int.ediv_nonneg he this
  ·exact he
theorem Bf{t:Int}(h:1663497≤t)(k:t<1073741824):t / 297≠0∧t / 297<1073741824∧-1073741824<t / 297:=
 have i:1≤t / 297:=Int.le_ediv_of_mul_le (by decide) (jk h rfl)
 ⟨(Int.ne_of_lt i).symm,Int.lt_of_le_of_lt (Int.ediv_le_self _ (jk h rfl)) k,Int.lt_of_lt_of_le (by decide) i⟩
theorem Fe{e t:Int}(he:0≤e)(ht:t<1073741824)(k:R (.int (lH e t)) H):Wc (aj (aP ns) (n+1) 145 [.int e,.int t] H) R E:=by
 revert ns n H R E e t
 apply aO;intro
 generalize bL .. =ns,bM .. =n,bQ .. =H,bR .. =R
 apply aM;intro
 generalize bI .. =E,bJ .. =e
 apply aI;intro
 generalize nx .. =t
 intro he ht k
 refine aT rfl rfl (.neg (Int.not_lt.mpr he) (.of (fun q=> ?_) fun q=>.of (fun q2=> ?_) fun q2=> ?_))
 ·rw[lH,if_pos q] at k;exact k
 ·rw[lH,if_neg q,if_pos q2] at k;exact k
 have hr:=oD (e:=e) (t:=t) he (by exact Int.lt_of_not_ge q2)
 rw[lH,if_neg q,if_neg q2] at k
 refine cut (fun r:Int=>Sq 2 3 [.int e,.int t] |>.set 2 (some (.int r))) (fun _=>H) (fun r=>r=gK e t) (fun N hN=> ?_) ?_
 ·unfold gK at hN
  have nz:t≠0:=by exact(Int.ne_of_lt (Int.not_le.mp q2)).symm
  have small:∀x b:Int,b≠0→b<1073741824→-1073741824<b→b≠0∧Builtin.divisionGoesByPylong x b=false:=fun x b h0 h h'=>⟨h0,noPylong_small (by exact pF ⟨Int.add_one_le_of_lt h',Int.le_sub_one_of_lt h⟩ rfl rfl)⟩
  refine .of (fun q3=> ?_) fun q3=>.of (fun q4=> ?_) fun q4=> ?_
  ·exact .of (.inr (by decide)) (.of (small _ _ nz ht (by exact Int.lt_trans (by decide) (Int.not_le.mp q2))) (hN _ (by rw[if_pos q3])))
  ·have e1:t.fdiv 297=t / 297:=Int.fdiv_eq_ediv_of_nonneg _ (by decide)
   exact .of (small _ _ (by decide) (by decide) (by decide)) (.of (small _ _ (e1▸(Bf q4 ht).1) (e1▸(Bf q4 ht).2.1) (e1▸(Bf q4 ht).2.2)) (hN _ (by rw[if_neg q3,if_pos q4])))
  ·exact hN _ (by rw[if_neg q3,if_neg q4])
 ·rintro _ rfl
  refine .of (fun q3=> ?_) fun q3=> ?_
  ·rw[if_pos q3] at k;exact k
  ·rw[if_neg q3] at k
   have h1:(gK e t).natAbs<2 ^ 64:=by exact pF ⟨hr,Int.not_lt.mp q3⟩ rfl rfl
   exact .of (.inl h1) (.of (.inr h1) (.of ⟨by decide,noPylong_small (by decide)⟩ k))
end
structure Sm where
 (a b c d e f:Int)
noncomputable def Sm.pv(s:Sm):PV:=.tup [.int s.a,.int s.b,.int s.c,.int s.d,.int s.e,.int s.f]
noncomputable def Sm.ls(s:Sm):List PV:=[.int s.a,.int s.b,.int s.c,.int s.d,.int s.e,.int s.f]
noncomputable def Sm.zero:Sm:=⟨0,0,0,0,0,0⟩
noncomputable def Sm.add(s t:Sm):Sm:=⟨s.a+t.a,s.b+t.b,s.c+t.c,s.d+t.d,s.e+t.e,s.f+t.f⟩
noncomputable def Sm.line(b e g:Sm):Sm:=⟨e.a - b.a+g.a,e.b - b.b+g.b,e.c - b.c+g.c,e.d - b.d+g.d,e.e - b.e+g.e,e.f - b.f+g.f⟩
instance:Nonempty Sm:=⟨.zero⟩
def Aq(H:aa)(v:PV)(n:Nat)(x:PV):Prop:=∀ns,g9 (aP ns) H v n=some x
theorem Aq.get{H H':aa}{v:PV}{n:Nat}{x:PV}(h:Aq H v n x)(k:∀(i c:Nat) (fs:List (Nat×PV)),H[i]? =some (aF.inst c fs)→H'[i]? =some (aF.inst c fs)):Aq H' v n x:=by
 intro ns
 cases v with
 |ref i=>
  have z:j2 (aP ns) n H[i]? =some x:=h ns
  show j2 (aP ns) n H'[i]? =some x
  cases e:H[i]? with
  |none=>rw[e] at z;exact nomatch (show none=some x from z)
  |some o=>
   rw[e] at z
   cases o with
   |inst c fs=>rw[k i c fs e];exact z
   |_=>exact nomatch (show none=some x from z)
 |_=>exact nomatch (show none=some x from h ns)
theorem Aq.app{H J:aa}{v:PV}{n:Nat}{x:PV}(h:Aq H v n x):Aq (H++J) v n x:=
 Aq.get h fun i _ _ e=>by rw[List.getElem?_append_left (List.getElem?_eq_some_iff.mp e).1];exact e
section
variable {ns:List Int}{n:Nat}{H:aa}{R:PV→aa→Prop}{E:XK→aa→Prop}
noncomputable def rS(w:Int)(s:Sm):Int×Int:=
 if 0<w - s.a then
  if s.c=0∧s.d=0∧s.e=0 then(lH (w - s.a) s.b,if 99<lH (w - s.a) s.b then 0 else if 12<lH (w - s.a) s.b then 1 else 2) else(0,2)
 else if s.f< -(w - s.a) then(10001,3)
 else(lH (-(w - s.a)) s.f,if 12<lH (-(w - s.a)) s.f then 3 else 2)
theorem eK{α:Type}{c:Prop}[Decidable c]{a b:α}{P:α→Prop}(h:P (if c then a else b)):(c→P a)∧(¬c→P b):=by
 split at h
 ·exact⟨fun _=>h,fun n=>absurd ‹c› n⟩
 ·exact⟨fun n=>absurd n ‹¬c›,fun _=>h⟩
theorem Sy{w:Int}{s:Sm}(hb:s.b<1073741824)(hf:s.f<1073741824)(k:R (.tup [.int (rS w s).1,.int (rS w s).2]) H):Wc (aj (aP ns) (n+2) 692 [.int w,s.pv] H) R E:=by
 revert ns n H R E w s
 apply aO;intro
 generalize bL .. =ns,bM .. =n,bQ .. =H,bR .. =R
 apply aM;intro
 generalize bI .. =E,bJ .. =w
 apply aI;intro
 generalize nx .. =s
 intro hb hf k
 unfold rS at k
 have hk:=eK (P:=fun p:Int×Int=>R (.tup [.int p.1,.int p.2]) H) k
 refine aT rfl rfl (.of (fun q=> ?_) fun q=> ?_)
 ·have hk:=eK (P:=fun p:Int×Int=>R (.tup [.int p.1,.int p.2]) H) (hk.1 q)
  refine .Ss (fun z1 z2 z3=> ?_) fun z=> ?_
  rotate_left
  ·exact hk.2 z
  ·have k:=hk.1 ⟨z1,z2,z3⟩
   have k:=eK (P:=fun x:Int=>R (.tup [.int (lH (w - s.a) s.b),.int x]) H) k
   have k':=fun y=>eK (P:=fun x:Int=>R (.tup [.int (lH (w - s.a) s.b),.int x]) H) (k.2 y)
   exact Fe (Int.le_of_lt q) hb (.of (fun y=>k.1 y) fun y=>.of (fun z=>(k' y).1 z) fun z=>(k' y).2 z)
 ·have hk:=eK (P:=fun p:Int×Int=>R (.tup [.int p.1,.int p.2]) H) (hk.2 q)
  refine .of (fun r=>hk.1 r) fun r=> ?_
  have k:=eK (P:=fun x:Int=>R (.tup [.int (lH (-(w - s.a)) s.f),.int x]) H) (hk.2 r)
  exact Fe (by exact Int.neg_nonneg_of_nonpos (Int.not_lt.mp q)) hf (.of (fun z=>k.1 z) fun z=>k.2 z)
structure bp where
 (sM bS ex qE dbl fin loose:Int)
instance:Nonempty bp:=⟨⟨0,0,0,0,0,0,0⟩⟩
structure fW(H:aa)(v:PV)(S:bp):Prop where
 sM:Aq H v 36 (.int S.sM)
 bS:Aq H v 37 (.int S.bS)
 ex:Aq H v 38 (.int S.ex)
 qE:Aq H v 39 (.int S.qE)
 dbl:Aq H v 40 (.int S.dbl)
 fin:Aq H v 41 (.int S.fin)
 loose:Aq H v 42 (.int S.loose)
theorem fW.get{H':aa}{v:PV}{S:bp}(h:fW H v S)(k:∀n x,Aq H v n x→Aq H' v n x):fW H' v S:=⟨k _ _ h.sM,k _ _ h.bS,k _ _ h.ex,k _ _ h.qE,k _ _ h.dbl,k _ _ h.fin,k _ _ h.loose⟩
theorem fW.app{J:aa}{v:PV}{S:bp}(h:fW H v S):fW (H++J) v S:=h.get fun _ _ h=>h.app
noncomputable def lj(S:bp)(bad pen:Int):Int:=
 let cost:=S.sM+bad
 let found:=if 10000≤(if cost<0 then -cost else cost) then 100000000 else cost * cost
 if 0<pen then found+pen * pen else if -10000<pen then found - pen * pen else found
theorem OE{v:PV}{S:bp}{bad pen:Int}(h:fW H v S)(hp:pen.natAbs<2 ^ 64)(k:R (.int (lj S bad pen)) H):Wc (aj (aP ns) (n+1) 699 [v,.int bad,.int pen] H) R E:=by
 refine aT rfl rfl (.of (h.sM ns) ?_)
 refine lG (fun x:Int=>[some v,some (.int bad),some (.int pen),some (.int (S.sM+bad)),some (.int x)]) (fun _=>H) (fun x=>x=if 10000≤(if S.sM+bad<0 then -(S.sM+bad) else S.sM+bad) then 100000000 else(S.sM+bad) * (S.sM+bad)) (fun N hN=> ?_) ?_
 ·refine .of (fun q=>hN _ (if_pos q).symm) fun q=> ?_
  exact .of (.inl (by split at q;exact pF (a:=-10000) (b:=0) ⟨Int.le_of_lt (Int.neg_lt_of_neg_lt (Int.not_le.mp q)),Int.le_of_lt ‹_›⟩ rfl rfl;exact pF ⟨Int.not_lt.mp ‹_›,Int.le_of_lt (Int.not_le.mp q)⟩ rfl rfl)) (hN _ (if_neg q).symm)
 ·intro x hx
  unfold lj at k
  dsimp only at k
  rw[←hx] at k
  have k1:=eK (P:=fun x:Int=>R (.int x) H) k
  refine .of (fun q=>.of (.inl hp) (k1.1 q)) fun q=> ?_
  have k2:=eK (P:=fun x:Int=>R (.int x) H) (k1.2 q)
  exact .of (fun q=>.of (.inl hp) (k2.1 q)) fun q=>k2.2 q
noncomputable def ll(S:bp)(twice isEnd:Bool)(apart:Int):Int:=
 (if twice then(if isEnd then S.fin else S.dbl) else 0)+(if 1<apart then S.qE else 0)
theorem OF{v:PV}{S:bp}{t e:Bool}{apart:Int}(h:fW H v S)(k:R (.int (ll S t e apart)) H):Wc (aj (aP ns) (n+1) 706 [v,.bool t,.bool e,.int apart] H) R E:=by
 refine aT rfl rfl ?_
 refine Fc ?_
 refine lG (fun x:Int=>[some v,some (.bool t),some (.bool e),some (.int apart),some (.int x)]) (fun _=>H) (fun x=>x=if t then(if e then S.fin else S.dbl) else 0) (fun N hN=> ?_) ?_
 ·cases t
  ·exact hN _ rfl
  ·have z:∀x:Int,0+x=x:=Int.zero_add
   cases e
   ·exact .of (h.dbl ns) (hN _ (z _))
   ·exact .of (h.fin ns) (hN _ (z _))
 ·rintro _ rfl
  unfold ll at k
  refine .of (fun q=>.of (h.qE ns) ?_) fun q=> ?_
  ·rw[if_pos q] at k;exact k
  ·rw[if_neg q,Int.add_zero] at k;exact k
theorem Sz{b e g:Sm}(k:∀J,R (Sm.line b e g).pv (H++J)):Wc (aj (aP ns) (n+1) 685 [b.pv,e.pv,g.pv] H) R E:=by
 have l:∀{l:List PV},Nat.ble 1000 l.length=false→l.length<1000:=fun h=>Nat.lt_of_not_le fun h'=>by rw[Nat.ble_eq_true_of_le h'] at h;cases h
 refine aT rfl rfl (.of (by decide) (qm ⟨l rfl,l rfl,l rfl,l rfl,l rfl,l rfl,.of (l rfl) (.of aX (.of (Nat.lt_trans (l rfl) (by decide)) (k _)))⟩))
theorem OG{s:Sm}{x:Int}(k:R (Sm.pv {s with a:=s.a+x}) H):Wc (aj (aP ns) (n+1) 666 [s.pv,.int x] H) R E:=
 aT rfl rfl (.of ⟨(by decide:1≤6),(by decide:6<1000)⟩ (.of (by decide:1+5<1000) k))
end
def Pre(H H':aa):Prop:=∃J,H'=H++J
theorem Pre.refl(H:aa):Pre H H:=⟨[],by simp⟩
theorem Pre.trans{H rT rU:aa}:Pre H rT→Pre rT rU→Pre H rU
 |⟨J,e⟩,⟨J',e'⟩=>⟨J++J',by rw[e',e,List.append_assoc]⟩
theorem Pre.app{H H':aa}(J:aa):Pre H H'→Pre H (H'++J)
 |⟨K,e⟩=>⟨K++J,by rw[e,List.append_assoc]⟩
theorem Pre.len{H H':aa}:Pre H H'→H.length≤H'.length
 |⟨K,e⟩=>by rw[e,List.length_append];exact Nat.le_add_right _ _
theorem Pre.get{H H':aa}{i:Nat}{o:aF}(x:Pre H H')(e:H[i]? =some o):H'[i]? =some o:=by
 obtain⟨J,rfl⟩:=x
 rw[List.getElem?_append_left (List.getElem?_eq_some_iff.mp e).1];exact e
theorem Pre.set{H H':aa}{i:Nat}{o:aF}(x:Pre H H')(h:H.length≤i):Pre H (H'.set i o):=by
 obtain⟨J,rfl⟩:=x
 exact⟨J.set (i - H.length) o,List.set_append_right _ _ h⟩
theorem Aq.pre{H H':aa}{v:PV}{n:Nat}{x:PV}(p:Pre H H')(h:Aq H v n x):Aq H' v n x:=by
 obtain⟨J,rfl⟩:=p;exact h.app
theorem fW.pre{H H':aa}{v:PV}{S:bp}(p:Pre H H')(h:fW H v S):fW H' v S:=by
 obtain⟨J,rfl⟩:=p;exact h.app
def bu{α β:Type}(R:α→β→Prop):List α→List β→Prop
 |[],[]=>True
 |a::l,b::m=>R a b∧bu R l m
 |_,_=>False
section
variable {α β:Type}{R R':α→β→Prop}
theorem bu.el{P:List α→List β→Prop}(h0:P [] [])(h1:∀a b l m,R a b→bu R l m→P l m→P (a::l) (b::m)){l:List α}:∀{m:List β},bu R l m→P l m:=by
 induction l with
 |nil=>intro m h;cases m with
  |nil=>exact h0
  |cons _ _=>exact h.elim
 |cons a l ih=>intro m h;cases m with
  |nil=>exact h.elim
  |cons b m=>exact h1 a b l m h.1 h.2 (ih h.2)
theorem bu.nil_inv{l:List α}(h:bu R l ([]:List β)):l=[]:=by
 cases l with
 |nil=>rfl
 |cons _ _=>exact h.elim
theorem bu.cons_inv{l:List α}{b:β}{m:List β}(h:bu R l (b::m)):∃a r,l=a::r∧R a b∧bu R r m:=by
 cases l with
 |nil=>exact h.elim
 |cons a r=>exact⟨a,r,rfl,h.1,h.2⟩
theorem bu.length{l:List α}{m:List β}(h:bu R l m):l.length=m.length:=
 bu.el (R:=R) (P:=fun l m=>l.length=m.length) rfl (fun _ _ _ _ _ _ r=>congrArg (· +1) r) h
theorem bu.mono(k:∀a b,R a b→R' a b){l:List α}{m:List β}:bu R l m→bu R' l m:=
 bu.el (R:=R) (P:=bu R') trivial fun a b _ _ h _ r=>⟨k a b h,r⟩
theorem bu.append{l l':List α}{m m':List β}(h:bu R l m)(y:bu R l' m'):bu R (l++l') (m++m'):=
 bu.el (R:=R) (P:=fun l m=>bu R (l++l') (m++m')) y (fun _ _ _ _ h _ r=>And.intro h r) h
theorem bu.get{l:List α}{m:List β}{i:Nat}{b:β}(h:bu R l m):m[i]? =some b→∃a,l[i]? =some a∧R a b:=
 bu.el (R:=R) (P:=fun l m=>∀i,m[i]? =some b→∃a,l[i]? =some a∧R a b) (fun _=>cu) (fun a b' _ _ h _ r i=>Nat.casesOn i (fun e=>⟨a,rfl,Option.some.inj e▸h⟩) fun i e=>r i e) h i
end
structure Gl where
 (w st so sh bN:Int)
instance:Nonempty Gl:=⟨⟨0,0,0,0,0⟩⟩
structure yl(H:aa)(v:PV)(g:Gl):Prop where
 w:Aq H v 0 (.int g.w)
 st:Aq H v 1 (.int g.st)
 so:Aq H v 2 (.int g.so)
 sh:Aq H v 3 (.int g.sh)
 bN:Aq H v 4 (.int g.bN)
theorem yl.pre{H H':aa}{v:PV}{g:Gl}(p:Pre H H')(h:yl H v g):yl H' v g:=⟨h.w.pre p,h.st.pre p,h.so.pre p,h.sh.pre p,h.bN.pre p⟩
def jf(H:aa)(v:PV)(w:Int):Prop:=∃k:Int,(k=2∨k=5)∧Aq H v 5 (.int k)∧Aq H v 0 (.int w)
theorem jf.pre{H H':aa}{v:PV}{w:Int}(p:Pre H H'):jf H v w→jf H' v w
 |⟨k,h,a,b⟩=>⟨k,h,a.pre p,b.pre p⟩
def gU(H:aa)(v:PV)(ws:List Int):Prop:=∃r vs,v=.ref r∧H[r]? =some (.list vs)∧vs.length<1000∧bu (jf H) vs ws
theorem gU.pre{H H':aa}{v:PV}{ws:List Int}(p:Pre H H'):gU H v ws→gU H' v ws
 |⟨r,vs,e,h,z,a⟩=>⟨r,vs,e,p.get h,z,a.mono fun _ _ x=>x.pre p⟩
inductive Nd where
 |box (k w:Int)|rule (w:Int)|bF (w sort:Int)|glue (g:Gl)|pen (v:Int)|bP (pre post mid:List Int)|math (on:Bool) (w:Int)|iW (k:Int)
instance:Nonempty Nd:=⟨.iW 0⟩
def iy(H:aa)(v:PV):Nd→Prop
 |.box k w=>(k=2∨k=3)∧Aq H v 5 (.int k)∧Aq H v 0 (.int w)
 |.rule w=>Aq H v 5 (.int 4)∧Aq H v 0 (.int w)
 |.bF w s=>Aq H v 5 (.int 5)∧Aq H v 0 (.int w)∧Aq H v 13 (.int s)
 |.glue g=>Aq H v 5 (.int 6)∧∃u,Aq H v 14 u∧yl H u g
 |.pen x=>Aq H v 5 (.int 7)∧Aq H v 16 (.int x)
 |.bP a b c=>Aq H v 5 (.int 8)∧∃u1 u2 u3,Aq H v 17 u1∧gU H u1 a∧Aq H v 18 u2∧gU H u2 b∧Aq H v 19 u3∧gU H u3 c
 |.math on w=>Aq H v 5 (.int 12)∧Aq H v 25 (.bool on)∧Aq H v 0 (.int w)
 |.iW k=>(k=9∨k=10∨k=11∨k=13)∧Aq H v 5 (.int k)
theorem iy.pre{H H':aa}{v:PV}(p:Pre H H'){d:Nd}(h:iy H v d):iy H' v d:=by
 cases d with
 |box _ _=>exact⟨h.1,h.2.1.pre p,h.2.2.pre p⟩
 |rule _=>exact⟨h.1.pre p,h.2.pre p⟩
 |bF _ _=>exact⟨h.1.pre p,h.2.1.pre p,h.2.2.pre p⟩
 |glue _=>exact⟨h.1.pre p,h.2.imp fun _ x=>⟨x.1.pre p,x.2.pre p⟩⟩
 |pen _=>exact⟨h.1.pre p,h.2.pre p⟩
 |bP _ _ _=>exact⟨h.1.pre p,h.2.imp fun _ x=>x.imp fun _ x=>x.imp fun _ x=>⟨x.1.pre p,x.2.1.pre p,x.2.2.1.pre p,x.2.2.2.1.pre p,x.2.2.2.2.1.pre p,x.2.2.2.2.2.pre p⟩⟩
 |math _ _=>exact⟨h.1.pre p,h.2.1.pre p,h.2.2.pre p⟩
 |iW _=>exact⟨h.1,h.2.pre p⟩
theorem kn{p:Prop}[Decidable p](h:decide p=false):¬p:=of_decide_eq_false h
noncomputable def Nd.kind:Nd→Int
 |.box k _=>k|.rule _=>4|.bF _ _=>5|.glue _=>6|.pen _=>7|.bP .. =>8|.math .. =>12|.iW k=>k
theorem iy.kind{H:aa}{v:PV}{d:Nd}(h:iy H v d):Aq H v 5 (.int d.kind):=by
 cases d with
 |box _ _=>exact h.2.1
 |iW _=>exact h.2
 |_=>exact h.1
noncomputable def Nd.OH:Nd→Int
 |.box _ w=>w|.rule w=>w|.bF w _=>w|.math _ w=>w|.glue _=>0|.pen _=>0|.bP _ _ _=>0|.iW _=>0
noncomputable def Nd.dropped:Nd→Bool
 |.glue _=>true|.pen _=>true|.math _ _=>true
 |.bF _ s=>s == 1
 |.box _ _=>false|.rule _=>false|.bP _ _ _=>false|.iW _=>false
theorem iy.range{H:aa}{v:PV}{d:Nd}(h:iy H v d):d.kind≠0∧d.kind≠1∧d.kind≠14:=by
 cases d with
 |box k w=>obtain⟨hk,_⟩:=h;rcases hk with rfl|rfl<;>exact⟨kn rfl,kn rfl,kn rfl⟩
 |iW k=>obtain⟨hk,_⟩:=h;rcases hk with rfl|rfl|rfl|rfl<;>exact⟨kn rfl,kn rfl,kn rfl⟩
 |_=>exact⟨kn rfl,kn rfl,kn rfl⟩
theorem iy.wide{H:aa}{v:PV}{d:Nd}(h:iy H v d)(k:d.kind=2∨d.kind=3∨d.kind=5∨d.kind=12∨d.kind=14):Aq H v 0 (.int d.OH):=by
 cases d with
 |box=>exact h.2.2
 |bF=>exact h.2.1
 |math=>exact h.2.2
 |iW=>rcases h.1 with rfl|rfl|rfl|rfl<;>exact absurd k (kn rfl)
 |_=>exact absurd k (kn rfl)
theorem iy.four{H:aa}{v:PV}{d:Nd}(h:iy H v d)(k:d.kind=4):Aq H v 0 (.int d.OH):=by
 cases d with
 |rule=>exact h.2
 |box=>rcases h.1 with rfl|rfl<;>cases k
 |iW=>rcases h.1 with rfl|rfl|rfl|rfl<;>cases k
 |_=>cases k
theorem iy.rest{H:aa}{v:PV}{d:Nd}(h:iy H v d)(h2:d.kind≠2)(h3:d.kind≠3)(h5:d.kind≠5)(pM:d.kind≠12)(h4:d.kind≠4):d.OH=0:=by
 cases d with
 |box k w=>rcases h.1 with rfl|rfl;exact absurd rfl h2;exact absurd rfl h3
 |rule=>exact absurd rfl h4
 |bF=>exact absurd rfl h5
 |math=>exact absurd rfl pM
 |_=>rfl
section
variable {ns:List Int}{n:Nat}{H:aa}{R:PV→aa→Prop}{E:XK→aa→Prop}
theorem SA{v:PV}{d:Nd}(h:iy H v d)(hg:d.kind≠6)(hd:d.kind≠8)(k:R (.int d.OH) H):Wc (aj (aP ns) (n+1) 499 [v] H) R E:=by
 revert ns n H R E v d
 apply aO;intro
 generalize bL .. =ns,bM .. =n,bQ .. =H,bR .. =R
 apply aM;intro
 generalize bI .. =E,bJ .. =v
 apply aI;intro
 generalize nx .. =d
 intro h hg hd k
 refine aT rfl rfl (.of (h.kind ns) (.or (fun z=>absurd h.range fun y=>z.elim y.1 y.2.1) fun _ _=>.Vr (fun z=>.of (h.wide z ns) k) fun k2 k3 k5 jP Ff=>.of (fun z=>.of (h.four z ns) (.of (h.four z ns) k)) fun k4=>.neg hg (.neg hd ?_)))
 have e:=h.rest k2 k3 k5 jP k4
 rw[e] at k
 exact k
theorem OI{v:PV}{w:Int}(h:jf H v w)(k:R (.int w) H):Wc (aj (aP ns) (n+1) 499 [v] H) R E:=by
 obtain⟨c,hk,h1,h2⟩:=h
 have hk:c≠0∧c≠1∧(c=2∨c=3∨c=5∨c=12∨c=14):=by rcases hk with rfl|rfl<;>decide
 exact aT rfl rfl (.of (h1 ns) (.neg hk.1 (.neg hk.2.1 (.Vr (fun _=>.of (h2 ns) k) fun k2 k3 k5 jP Ff=>absurd hk.2.2 fun z=>z.elim k2 fun z=>z.elim k3 fun z=>z.elim k5 fun z=>z.elim jP Ff))))
theorem iy.drop{v:PV}{d:Nd}(h:iy H v d)(k6:d.kind≠6)(k7:d.kind≠7)(jP:d.kind≠12):(d.kind≠5∧d.dropped=false)∨d.kind=5∧∃s:Int,Aq H v 13 (.int s)∧d.dropped=decide (s=1):=by
 cases d with
 |box k w=>left;rcases h.1 with rfl|rfl<;>exact⟨by show ¬_;exact kn rfl,rfl⟩
 |rule=>exact .inl ⟨by show ¬_;exact kn rfl,rfl⟩
 |bF w s=>exact .inr ⟨rfl,s,h.2.2,rfl⟩
 |bP=>exact .inl ⟨by show ¬_;exact kn rfl,rfl⟩
 |iW k=>left;rcases h.1 with rfl|rfl|rfl|rfl<;>exact⟨by show ¬_;exact kn rfl,rfl⟩
 |glue=>exact absurd rfl k6
 |pen=>exact absurd rfl k7
 |math=>exact absurd rfl jP
theorem iy.OJ{v:PV}{d:Nd}(h:iy H v d)(z:d.kind=6∨d.kind=7∨d.kind=12):d.dropped=true:=by
 cases d with
 |box k w=>rcases h.1 with rfl|rfl<;>exact absurd z (kn rfl)
 |iW k=>rcases h.1 with rfl|rfl|rfl|rfl<;>exact absurd z (kn rfl)
 |glue=>rfl
 |pen=>rfl
 |math=>rfl
 |_=>exact absurd z (kn rfl)
theorem He{v:PV}{d:Nd}(h:iy H v d)(k:R (.bool d.dropped) H):Wc (aj (aP ns) (n+1) 624 [v] H) R E:=by
 revert ns n H R E v d
 apply aO;intro
 generalize bL .. =ns,bM .. =n,bQ .. =H,bR .. =R
 apply aM;intro
 generalize bI .. =E,bJ .. =v
 apply aI;intro
 generalize nx .. =d
 intro h k
 have t:=fun z=>h.OJ z▸k
 refine aT rfl rfl (.of (h.kind ns) (.of (fun z=>t (.inl z)) fun z1=>.of (h.kind ns) (.of (fun z=>t (.inr (.inl z))) fun z2=>.of (h.kind ns) (.of (fun z=>t (.inr (.inr z))) fun z3=>.of (h.kind ns) ?_))))
 rcases h.drop z1 z2 z3 with⟨e,q⟩|⟨e,s,a,q⟩
 ·rw[q] at k;exact .neg e k
 ·rw[q] at k;exact .pos e (.of (a ns) k)
theorem Bg{ws:List Int}{k:Nat}{w:Int}(h:ws[k]? =some w):(ws.take (k+1)).sum=(ws.take k).sum+w:=by rw[List.take_add_one,h];simp
theorem Hf{v:PV}{ws:List Int}(h:gU H v ws)(k:R (.int ws.sum) H):Wc (aj (aP ns) (n+2) 652 [v] H) R E:=by
 revert ns n H R E v ws
 apply aO;intro
 generalize bL .. =ns,bM .. =n,bQ .. =H,bR .. =R
 apply aM;intro
 generalize bI .. =E,bJ .. =v
 apply aI;intro
 generalize nx .. =ws
 intro h k
 obtain⟨r,vs,rfl,hr,hz,a⟩:=h
 refine aT rfl rfl (.of hr (.of (by exact cE hz rfl) (et (fun k y=>[some (.ref r),some (.int (ws.take k).sum),y]) (fun _ _=>H) (fun _ _=>True) none vs trivial (fun _ _ _=>hr) (fun k y v _ hv=> ?_) fun y _=> ?_)))
 ·have hk:=(List.getElem?_eq_some_iff.mp hv).1
  have hw:ws[k]? =some (ws[k]'(by rw[←a.length];exact hk)):=List.getElem?_eq_getElem _
  obtain⟨u,hu,ru⟩:=a.get hw
  cases hv.symm.trans hu
  exact OI ru ⟨some v,congrArg (fun x:Int=>[some (.ref r),some (.int x),some v]) (Bg hw).symm,rfl,trivial⟩
 ·show R (.int (ws.take vs.length).sum) H
  rw[a.length,List.take_length];exact k
end
structure ni(H:aa)(a:Nat)(vs:List PV)(l:List Nd):Prop where
 at_:H[a]? =some (.list vs)
 small:vs.length<1000
 all:bu (iy H) vs l
theorem ni.pre{H H':aa}{a:Nat}{vs:List PV}{l:List Nd}(p:Pre H H')(h:ni H a vs l):ni H' a vs l:=⟨p.get h.at_,h.small,h.all.mono fun _ _ x=>x.pre p⟩
theorem ni.len{H:aa}{a:Nat}{vs:List PV}{l:List Nd}(h:ni H a vs l):vs.length=l.length:=h.all.length
theorem ni.get{H:aa}{a:Nat}{vs:List PV}{l:List Nd}(h:ni H a vs l){i:Nat}{d:Nd}(e:l[i]? =some d):∃v,vs[i]? =some v∧iy H v d:=h.all.get e
noncomputable def skip:List Nd→Nat
 |[]=>0
 |d::r=>if d.dropped then skip r+1 else 0
theorem ud{d:Nd}{r:List Nd}:skip (d::r)=if d.dropped then skip r+1 else 0:=rfl
theorem Hg:skip []=0:=rfl
theorem vF(l:List Nd):skip l≤l.length:=by
 induction l with
 |nil=>
  exact Nat.le_refl _
 |cons d r ih=>
  rw[ud]
  split
  ·exact Nat.succ_le_succ (ih)
  ·exact Nat.zero_le _
noncomputable def aU(l:List Nd)(p:Nat):Nat:=match l[p]? with
 |some (.bP _ post _)=>if post=[] then p+1+skip (l.drop (p+1)) else p+1
 |_=>p+skip (l.drop p)
theorem ue{Q:Nat→Prop}{l:List Nd}{p:Nat}(h1:∀a q m,l[p]? =some (.bP a q m)→Q (if q=[] then p+1+skip (l.drop (p+1)) else p+1))(h2:Q (p+skip (l.drop p))):Q (aU l p):=by
 unfold aU
 cases e:l[p]? with
 |none=>exact h2
 |some d=>
  cases d with
  |bP a q m=>exact h1 a q m e
  |_=>exact h2
theorem uf(l:List Nd)(p:Nat)(h:p≤l.length):aU l p≤l.length:=by
 refine ue (Q:=fun x=>x≤l.length) (fun a q m e=> ?_) ?_
 ·have h1:=(List.getElem?_eq_some_iff.mp e).1
  have h2:=vF (l.drop (p+1))
  rw[List.length_drop] at h2
  by_cases z:q=[]
  ·rw[if_pos z];exact(Nat.le_sub_iff_add_le' h1).mp h2
  ·rw[if_neg z];exact h1
 ·have:=vF (l.drop p)
  rw[List.length_drop] at this
  exact(Nat.le_sub_iff_add_le' h).mp this
theorem kB{i n:Nat}(h:i<n)(h2:n<1000000):place (i:Int) n=some i:=by
 unfold place
 rw[if_pos h2,if_pos ⟨by exact Int.natCast_nonneg _,by exact Int.ofNat_lt.mpr h⟩]
 simp
theorem fg{vs:List PV}{i:Nat}{v:PV}(h:vs[i]? =some v)(hs:vs.length<1000):((place (i:Int) vs.length).bind fun m=>vs[m]?)=some v:=by
 rw[kB (List.getElem?_eq_some_iff.mp h).1 (by exact cE hs rfl)];exact h
section
variable {ns:List Int}{n:Nat}{H:aa}{a:Nat}{vs:List PV}{l:List Nd}{R:PV→aa→Prop}{E:XK→aa→Prop}
theorem Bh{test:Loc→aa→(aa→Prop)→(aa→Prop)→(XK→aa→Prop)→Prop}{body:Loc→aa→QL→EL→Prop}{Q:QL}{σ:Type}(L:σ→Loc)(M:σ→aa)(J:σ→Prop)(f:σ→Nat)(eT:σ)(j0:J eT)
  (step:∀s,J s→∀N:Loc→aa→Prop,(∀s',J s'→f s'<f s→N (L s') (M s'))→test (L s) (M s) (fun H=>body (L s) H (kO Q N) P5) (fun H=>Q .next (L s) H) nE):j4 test body (L eT) (M eT) Q:=by
 unfold j4
 refine⟨f eT,fun k loc H=>∃s,loc=L s∧H=M s∧J s∧f s=k,⟨eT,rfl,rfl,j0,rfl⟩,?_⟩
 rintro k _ _ ⟨s,rfl,rfl,j,rfl⟩
 exact step s j _ fun s' j' h=>⟨_,h,s',rfl,rfl,j',rfl⟩
theorem ym{q:Nat}{d:Nd}(h:l[q]? =some d):skip (l.drop q)=if d.dropped then skip (l.drop (q+1))+1 else 0:=by
 obtain⟨z,rfl⟩:=List.getElem?_eq_some_iff.mp h
 rw[←List.getElem_cons_drop z,ud]
theorem kC(h:ni H a vs l){Q:QL}(p:Nat)(hp:p≤l.length)(hq:Q .next [some (.ref a),some (.int ((p+skip (l.drop p):Nat):Int))] H):
  j4 (wT (aP ns) (aj (aP ns) (n+1)) (.and (.cmp .Lt (.var 1) (.bC .len (.cons (.var 0) .nil))) (.ah 624 (.cons (.item (.var 0) (.var 1)) .nil)))) (wSs (aP ns) (aj (aP ns) (n+1)) (.cons (.aug 1 .Add (.const (.int 1))) .nil)) [some (.ref a),some (.int (p:Int))] H Q:=by
 revert ns n H a vs l Q p
 apply aO;intro
 generalize bL .. =ns,bM .. =n,bQ .. =H,bR .. =a
 apply aM;intro
 generalize bI .. =vs,bJ .. =l
 intro h
 apply aM;intro
 generalize bI .. =Q,bJ .. =p
 intro hp hq
 have hs:=h.small
 have hl:=h.len
 refine Bh (fun q:Nat=>[some (.ref a),some (.int (q:Int))]) (fun _=>H) (fun q=>q≤l.length∧q+skip (l.drop q)=p+skip (l.drop p)) (fun q=>l.length - q) p ⟨hp,rfl⟩ ?_
 apply aI;intro
 generalize nx .. =q
 intro j N hN
 refine .of h.at_ (.of (Nat.lt_trans hs (by decide)) (.of (fun z=> ?_) fun z=> ?_))
 ·have z':q<l.length:=by rw[←hl];exact Int.ofNat_lt.mp z
  have hd:=List.getElem?_eq_getElem z'
  obtain⟨v,hv,rv⟩:=h.get hd
  have e:=ym hd
  refine .of h.at_ (.of (fg hv hs) (He rv ?_))
  cases y:l[q].dropped with
  |true=>
   rw[y] at e
   exact hN (q+1) ⟨z',by rw[←j.2,e];exact(Nat.add_right_comm ..).symm▸rfl⟩ (by exact Nat.sub_succ_lt_self _ _ z')
  |false=>
   rw[y] at e
   have:=j.2
   rw[e] at this
   rw[←this] at hq
   exact hq
 ·have:q=l.length:=by exact QF hl j z
  have e:=j.2
  rw[this,List.drop_length,Hg,←this] at e
  rw[←e] at hq
  exact hq
theorem iy.bP{v:PV}{d:Nd}(h:iy H v d)(k:d.kind=8):∃p q m,d=.bP p q m:=by
 cases d with
 |bP p q m=>exact⟨p,q,m,rfl⟩
 |box k w=>rcases h.1 with rfl|rfl<;>cases k
 |iW k=>rcases h.1 with rfl|rfl|rfl|rfl<;>cases k
 |_=>cases k
theorem iy.Hh{v:PV}{d:Nd}(h:iy H v d)(k:d.kind=6):∃g,d=.glue g:=by
 cases d with
 |glue g=>exact⟨g,rfl⟩
 |box k w=>rcases h.1 with rfl|rfl<;>cases k
 |iW k=>rcases h.1 with rfl|rfl|rfl|rfl<;>cases k
 |_=>cases k
theorem vG{r e:Nat}{ws:List Int}{vs:List PV}{A B:Prop}(h1:H[r]? =some (.list vs))(h2:H[e]? =some (.list []))(h:bu (jf H₀) vs ws)(ha:ws=[]→A)(hb:ws≠[]→B):WO (og H (.ref r) (.ref e)) fun t=>wb t A B:=by
 refine .of (a:=vs.isEmpty) ?_ ?_
 ·unfold og
  simp only[h1,h2]
  cases vs with
  |nil=>rfl
  |cons _ _=>rfl
 ·cases vs<;>cases ws
  ·exact ha rfl
  ·exact h.elim
  ·exact h.elim
  ·exact hb nofun
theorem SD(h:ni H a vs l){p:Nat}(hp:p≤l.length)(k:∀J,R (.int (aU l p:Nat)) (H++J)):Wc (aj (aP ns) (n+2) 638 [.ref a,.int (p:Int)] H) R E:=by
 revert ns n H a vs l R E p
 apply aQ;intro
 generalize bT .. =ns,bU .. =n,bV .. =H,bW .. =a,cj .. =vs,ck .. =l,cm .. =R,cp .. =E
 intro h
 apply aI;intro
 generalize nx .. =p
 intro hp k
 have hs:=h.small
 have hl:=h.len
 have k0:R (.int (aU l p:Nat)) H:=by have:=k [];rw[List.append_nil] at this;exact this
 have lt:vs.length<100000:=Nat.lt_trans hs (by decide)
 refine aT rfl rfl (.of h.at_ (.of lt (.of (fun z=> ?_) fun z=> ?_)))
 ·have z':p<l.length:=by rw[←hl];exact Int.ofNat_lt.mp z
  have hd:=List.getElem?_eq_getElem z'
  obtain⟨v,hv,rv⟩:=h.get hd
  have OK:=fg hv hs
  generalize l[p]=d at *
  refine .of h.at_ (.of OK (.of (rv.kind ns) (.of (fun y=> ?_) fun y=> ?_)))
  ·obtain⟨x,post,w,rfl⟩:=rv.bP y
   obtain⟨_,u1,u2,u3,b1,b2,b3,b4,b5,b6⟩:=rv
   obtain⟨r,ws,rfl,hr,hz,al⟩:=b4
   have p1:Pre H (H++[.list []]):=⟨_,rfl⟩
   refine .of h.at_ (.of OK (.of (b3 ns) (vG (p1.get hr) aX al (fun e=> ?_) fun e=> ?_)))
   ·have e:aU l p=p+1+skip (l.drop (p+1)):=by unfold aU;rw[hd];exact if_pos e
    rw[e] at k
    exact kC (h.pre p1) (p+1) z' (k _)
   ·have e:aU l p=p+1:=by unfold aU;rw[hd];exact if_neg e
    rw[e] at k
    exact k _
  ·have e:aU l p=p+skip (l.drop p):=by
    unfold aU
    rw[hd]
    cases d with
    |bP _ _ _=>exact absurd rfl y
    |_=>rfl
   rw[e] at k0
   exact kC h p hp k0
 ·have e:aU l p=p+skip (l.drop p):=by
   unfold aU
   rw[List.getElem?_eq_none (by exact QI hl z)]
  rw[e] at k0
  exact kC h p hp k0
end
noncomputable def Gl.sm(g:Gl):Sm:=⟨g.w,if g.so=0 then g.st else 0,if g.so=1 then g.st else 0,if g.so=2 then g.st else 0,if g.so=3 then g.st else 0,g.sh⟩
noncomputable def Nd.sm:Nd→Sm
 |.glue g=>g.sm
 |.bP _ _ m=>⟨m.sum,0,0,0,0,0⟩
 |.box _ w=>⟨w,0,0,0,0,0⟩|.rule w=>⟨w,0,0,0,0,0⟩|.bF w _=>⟨w,0,0,0,0,0⟩|.math _ w=>⟨w,0,0,0,0,0⟩|.pen _=>⟨0,0,0,0,0,0⟩|.iW _=>⟨0,0,0,0,0,0⟩
noncomputable def total:List Nd→Sm
 |[]=>.zero
 |d::r=>d.sm.add (total r)
theorem jQ{d:Nd}{r:List Nd}:total (d::r)=d.sm.add (total r):=rfl
theorem jR:total []=.zero:=rfl
theorem Sm.zero_add(s:Sm):Sm.zero.add s=s:=by simp[Sm.zero,Sm.add]
theorem Sm.add_zero(s:Sm):s.add .zero=s:=by simp[Sm.zero,Sm.add]
theorem Sm.add_assoc(s t u:Sm):(s.add t).add u=s.add (t.add u):=by simp[Sm.add,Int.add_assoc]
theorem aZ:∀l m:List Nd,total (l++m)=(total l).add (total m)
 |[],m=>by rw[List.nil_append,jR,Sm.zero_add]
 |d::r,m=>by rw[List.cons_append,jQ,aZ r m,jQ,Sm.add_assoc]
theorem nj{l:List Nd}{k:Nat}{d:Nd}(h:l[k]? =some d):total (l.take (k+1))=(total (l.take k)).add d.sm:=by
 rw[List.take_add_one,h,aZ]
 simp[jQ,jR,Sm.add_zero]
noncomputable def Nd.bad:Nd→Bool
 |.glue g=>g.bN !=0
 |_=>false
def Nd.bD:Nd→Prop
 |.glue g=>0≤g.so∧g.so≤3
 |_=>True
section
variable {ns:List Int}{n:Nat}{H:aa}{a:Nat}{vs:List PV}{l:List Nd}{R:PV→aa→Prop}{E:XK→aa→Prop}
theorem OL{s:Sm}{j:Int}(h:0≤j∧j<6):0≤j∧j<s.ls.length∧s.ls.length<100000:=⟨h.1,h.2,(by decide:6<100000)⟩
noncomputable def Sm.nX(s:Sm)(j:Nat):Int:=match j with
 |0=>s.a|1=>s.b|2=>s.c|3=>s.d|4=>s.e|_=>s.f
noncomputable def Sm.put(s:Sm)(j:Nat)(x:Int):Sm:=match j with
 |0=>{s with a:=x}|1=>{s with b:=x}|2=>{s with c:=x}|3=>{s with d:=x}|4=>{s with e:=x}|_=>{s with f:=x}
def Ix(j:Int)(m:Nat):Prop:=m<6∧j=m
theorem six{p:Nat→Prop}{m:Nat}(h:m<6)(h0:p 0)(h1:p 1)(h2:p 2)(h3:p 3)(h4:p 4)(h5:p 5):p m:=
 match m,h with
 |0,_=>h0|1,_=>h1|2,_=>h2|3,_=>h3|4,_=>h4|5,_=>h5
 |_+6,h=>absurd h (Nat.not_lt.mpr (Nat.le_add_left _ _))
theorem OM{s:Sm}{j:Int}{m:Nat}(h:Ix j m):((place j s.ls.length).bind fun m=>s.ls[m]?)=some (.int (s.nX m)):=by
 obtain⟨h,rfl⟩:=h
 rw[kB (show m<s.ls.length from h) (by decide:6<1000000)]
 exact six (p:=fun m=>s.ls[m]? =some (.int (s.nX m))) h rfl rfl rfl rfl rfl rfl
theorem SE{s:Sm}{j:Int}{m:Nat}{x:Int}(h:Ix j m):s.ls.set j.toNat (.int x)=(s.put m x).ls:=by
 obtain⟨h,rfl⟩:=h
 exact six (p:=fun m=>s.ls.set m (.int x)=(s.put m x).ls) h rfl rfl rfl rfl rfl rfl
theorem D0{r:Nat}{s:Sm}{j x:Int}{m:Nat}{K:aa→Prop}(hr:H[r]? =some (.list s.ls))(h:Ix j m)(k:K (H.set r (.list (s.put m x).ls))):gh H (.ref r) (.int j) (.int x) K:=by
 rw[←SE h] at k
 exact .of hr (.of (OL (by obtain⟨h,rfl⟩:=h;exact⟨Int.natCast_nonneg _,Int.ofNat_lt.mpr h⟩)) k)
theorem Fg{r:Nat}{s:Sm}{j x:Int}{m:Nat}{o p:aF}{K:aa→Prop}(hr:H[r]? =some p)(h:Ix j m)(k:K (H.set r (.list (s.put m x).ls)))(ho:o=.list s.ls):gh (H.set r o) (.ref r) (.int j) (.int x) K:=by
 subst ho
 refine D0 (getset hr) h ?_
 rw[List.set_set];exact k
theorem rV{r:Nat}{s:Sm}{j:Int}{m:Nat}{K:PV→Prop}(hr:H[r]? =some (.list s.ls))(h:Ix j m)(k:K (.int (s.nX m))):kN H (.ref r) (.int j) K:=.of hr (.of (OM h) k)
theorem D1{x b c d e y b' c' d' e':Int}(h1:b=b')(h2:c=c')(h3:d=d')(h4:e=e'):Sm.mk x b c d e y=Sm.mk x b' c' d' e' y:=by rw[h1,h2,h3,h4]
theorem Hi{s:Sm}{g:Gl}{m:Nat}(hm:Ix (1+g.so) m)(h0:0≤g.so)(h3:g.so≤3):(((s.put 0 (s.nX 0+g.w)).put m ((s.put 0 (s.nX 0+g.w)).nX m+g.st)).put 5 (((s.put 0 (s.nX 0+g.w)).put m ((s.put 0 (s.nX 0+g.w)).nX m+g.st)).nX 5+g.sh))=s.add g.sm:=by
 obtain⟨w,st,so,sh,bN⟩:=g
 obtain⟨hm,e⟩:=hm
 obtain⟨k,rfl⟩:=Int.eq_ofNat_of_zero_le h0
 have h3:(k:Int)≤3:=h3
 obtain rfl:1+k=m:=Int.ofNat.inj e
 rcases QN h3 with rfl|rfl|rfl|rfl
 ·exact D1 rfl (Int.add_zero _).symm (Int.add_zero _).symm (Int.add_zero _).symm
 ·exact D1 (Int.add_zero _).symm rfl (Int.add_zero _).symm (Int.add_zero _).symm
 ·exact D1 (Int.add_zero _).symm (Int.add_zero _).symm rfl (Int.add_zero _).symm
 ·exact D1 (Int.add_zero _).symm (Int.add_zero _).symm (Int.add_zero _).symm rfl
theorem Aq.Hj{r:Nat}{v x:PV}{m:Nat}{o p:List PV}(h:Aq H v m x)(hr:H[r]? =some (.list p)):Aq (H.set r (.list o)) v m x:=
 h.get fun i c fs e=>by
  rw[bz (by rintro rfl;rw[hr] at e;cases e)];exact e
theorem Hk{r:Nat}{v:PV}{s:Sm}{g:Gl}(hr:H[r]? =some (.list s.ls))(hg:yl H v g)(h0:0≤g.so)(h3:g.so≤3)(k:g.bN=0→R .none (H.set r (.list (s.add g.sm).ls)))(ke:g.bN≠0→E .flying H):
  Wc (aj (aP ns) (n+1) 645 [.ref r,v] H) R E:=by
 refine aT rfl rfl (.of (hg.bN ns) (.of (fun z=> ?_) fun z=>ke z))
 have z0:Ix 0 0:=⟨by decide,rfl⟩
 have z5:Ix 5 5:=⟨by decide,rfl⟩
 obtain⟨m,z1⟩:∃m,Ix (1+g.so) m:=⟨(1+g.so).toNat,by exact QB h3,by exact(Int.toNat_of_nonneg (Int.add_nonneg (by decide) h0)).symm⟩
 have k:=k z
 rw[←Hi z1 h0 h3] at k
 generalize SG:s.put 0 (s.nX 0+g.w)=s1 at k
 generalize ID:s1.put m (s1.nX m+g.st)=s2 at k
 have r1:∀{o},(H.set r o)[r]? =some o:=getset hr
 refine rV hr z0 (.of (hg.w ns) (D0 hr z0 ?_))
 rw[SG]
 refine .of ((hg.so.Hj hr) ns) (rV r1 z1 (.of ((hg.st.Hj hr) ns) (Fg hr z1 ?_ rfl)))
 rw[ID]
 exact rV r1 z5 (.of ((hg.sh.Hj hr) ns) (Fg hr z5 k rfl))
end
noncomputable def cN(l:List Nd):Bool:=l.any Nd.bad
noncomputable def iz(l:List Nd):List PV:=(List.range (l.length+1)).map fun k=>(total (l.take k)).pv
theorem ug{l:List Nd}{k:Nat}(h:k≤l.length):(iz l)[k]? =some (total (l.take k)).pv:=by
 unfold iz
 rw[List.getElem?_map,List.getElem?_range (by exact Nat.lt_succ_of_le h)]
 rfl
section
variable {ns:List Int}{n:Nat}{H:aa}{a:Nat}{vs:List PV}{l:List Nd}{R:PV→aa→Prop}{E:XK→aa→Prop}
theorem iy.plain{v:PV}{d:Nd}(h1:d.kind≠6)(h2:d.kind≠8):d.bad=false∧d.sm=⟨d.OH,0,0,0,0,0⟩:=by
 cases d<;>first|exact⟨rfl,rfl⟩|exact absurd rfl h1|exact absurd rfl h2
theorem Fh{s:Sm}{x:Int}:s.put 0 (s.nX 0+x)=s.add ⟨x,0,0,0,0,0⟩:=by show Sm.mk (s.a+x) s.b s.c s.d s.e s.f=Sm.mk _ _ _ _ _ _;simp
theorem yn{v:PV}{d:Nd}{s:Sm}{r:Nat}(hd:iy H v d)(hf:d.bD)(hr:H[r]? =some (.list s.ls)){Q:QL}{E:EL}{x0 x2:Option PV}
  (hq:d.bad=false→Q .next [x0,some (.ref r),x2,some v] (H.set r (.list (s.add d.sm).ls))) (he:d.bad=true→E .flying [x0,some (.ref r),x2,some v] H):
  wS (aP ns) (aj (aP ns) (n+2)) (.ite (.cmp .Eq (.attr (.var 3) 5) (.const (.int 6)))
   (.cons (.expr (.ah 645 (.cons (.var 1) (.cons (.attr (.var 3) 14) .nil)))) .nil)
   (.cons (.ite (.cmp .Eq (.attr (.var 3) 5) (.const (.int 8)))
    (.cons (.lz (.var 1) (.const (.int 0)) .Add (.ah 652 (.cons (.attr (.var 3) 19) .nil))) .nil)
    (.cons (.lz (.var 1) (.const (.int 0)) .Add (.ah 499 (.cons (.var 3) .nil))) .nil)) .nil)) [x0,some (.ref r),x2,some v] H Q E:=by
 revert ns n H v d s r Q E x0 x2
 apply aO;intro
 generalize bL .. =ns,bM .. =n,bQ .. =H,bR .. =v
 apply aM;intro
 generalize bI .. =d,bJ .. =s
 apply aI;intro
 generalize nx .. =r
 intro hd hf hr
 apply aO;intro
 generalize bL .. =Q,bM .. =E,bQ .. =x0,bR .. =x2
 intro hq he
 have z0:Ix 0 0:=⟨by decide,rfl⟩
 refine .of (hd.kind ns) (.of (fun z=> ?_) fun z=>.of (hd.kind ns) (.of (fun y=> ?_) fun y=> ?_))
 ·obtain⟨g,rfl⟩:=hd.Hh z
  obtain⟨_,u,XO,hg⟩:=hd
  exact .of (XO ns) (Hk hr hg hf.1 hf.2 (fun h0=>hq (by delta Nd.bad;simp[h0])) fun h0=>he (by delta Nd.bad;simp[h0]))
 ·obtain⟨p,q,m,rfl⟩:=hd.bP y
  obtain⟨_,u1,u2,u3,b1,b2,b3,b4,b5,b6⟩:=hd
  have k:=hq rfl
  rw[show Nd.sm (.bP p q m)=⟨m.sum,0,0,0,0,0⟩ from rfl,←Fh] at k
  exact rV hr z0 (.of (b5 ns) (Hf b6 (D0 hr z0 k)))
 ·obtain⟨hb,hs⟩:=iy.plain (v:=v) z y
  have k:=hq hb
  rw[hs,←Fh] at k
  exact rV hr z0 (SA hd z y (D0 hr z0 k))
theorem Hl{body:Loc→aa→QL→EL→Prop}{ct:List Nat}{sr:Src}{Q:QL}{E:EL}{i j:Nat}{x y z:Option PV}{H':aa}(e:i=j)(h:mz body ct sr [x,y,some (.ref j),z] H' Q E):mz body ct sr [x,y,some (.ref i),z] H' Q E:=by subst e;exact h
def ON(l:List Nd)(H:aa)(r:Nat)(H':aa)(C:Prop):Prop:=cN l=false→H.length≤r→Pre H H'→H'[r]? =some (.list (iz l))→C
structure SH(H:aa)(l:List Nd)(k:Nat)(s:aa×Option PV):Prop where
 pre:Pre H s.1
 ok:cN (l.take k)=false
 g1:s.1[H.length]? =some (.list (total (l.take k)).ls)
 g2:s.1[H.length+1]? =some (.list ((List.range (k+1)).map fun k=>(total (l.take k)).pv))
theorem SI(h:ni H a vs l)(hf:∀d∈l,d.bD)(k:Kt PV.ref (ON l H) R)(ke:cN l=true→∀H',Pre H H'→E .flying H'):Wc (aj (aP ns) (n+3) 659 [.ref a] H) R E:=by
 revert ns n H a vs l R E
 apply aQ;intro
 generalize bT .. =ns,bU .. =n,bV .. =H,bW .. =a,cj .. =vs,ck .. =l,cm .. =R,cp .. =E
 intro h hf k ke
 have k:=kt k
 have hs:=h.small
 have hl:=h.len
 have p1:Pre H (H++[aF.list Sm.zero.ls]++[aF.list [Sm.zero.pv]]):=((Pre.refl H).app _).app _
 have j8:H.length≠H.length+1:=(Nat.succ_ne_self _).symm
 have lt:vs.length<100000:=Nat.lt_trans hs (by decide)
 have el:(H++[aF.list Sm.zero.ls]).length=H.length+1:=by rw[List.length_append];rfl
 refine aT rfl rfl (.of (by decide:6<100000) (.of (p1.get h.at_) (.of lt ?_)))
 refine Hl el ?_
 refine et (fun k (s:aa×Option PV)=>[some (.ref a),some (.ref H.length),some (.ref (H.length+1)),s.2]) (fun _ s=>s.1) (SH H l) (_,none) vs ⟨p1,rfl,?_,?_⟩ (fun k s j=>j.pre.get h.at_) (?_) fun s j=> ?_
 ·rw[List.getElem?_append_left (el.symm▸Nat.lt_succ_self _)];exact aX
 ·rw[←el];exact aX
 ·apply aM;intro
  generalize bI .. =k,bJ .. =s
  apply aI;intro
  generalize nx .. =v
  intro j hv
  have hk:=(List.getElem?_eq_some_iff.mp hv).1
  have hd:=List.getElem?_eq_getElem (l:=l) (by exact Nat.lt_of_lt_of_eq hk hl:k<l.length)
  obtain⟨u,hu,ru⟩:=h.get hd
  cases hv.symm.trans hu
  have dm:=List.mem_of_getElem? hd
  generalize l[k]=d at *
  refine yn (s:=total (l.take k)) (ru.pre j.pre) (hf d dm) j.g1 (fun uV=> ?_) fun uV=>ke (List.any_eq_true.mpr ⟨d,dm,uV⟩) _ j.pre
  have SJ:=(bz (o:=.list ((total (l.take k)).add d.sm).ls) j8).trans j.g2
  refine .of SJ (.of (getset j.g1) (.of (by decide:6<100000) (.of SJ (.of ?_ ⟨(_,_),rfl,rfl,(j.pre.set (Nat.le_refl _)).set (Nat.le_succ _),?_,?_,?_⟩))))
  ·rw[List.length_map,List.length_range];exact bE 1 (Nat.lt_trans hk hs) rfl
  ·rw[cN,List.take_add_one,hd,List.any_append]
   show(cN (l.take k) || _)=false
   rw[j.ok]
   simp[uV]
  ·exact(bz j8.symm).trans ((getset j.g1).trans (by rw[nj hd]))
  ·refine(getset SJ).trans ?_
   rw[List.range_succ (n:=k+1),List.map_append,List.map_cons,List.map_nil,nj hd]
   rfl
 ·have b:=j.ok
  have g:=j.g2
  rw[hl] at b g
  rw[List.take_length] at b
  exact k _ _ b (Nat.le_succ _) j.pre g
end
noncomputable def Nd.OO:Nd→Bool
 |.glue _=>true
 |.box _ _=>false|.rule _=>false|.bF _ _=>false|.pen _=>false|.bP _ _ _=>false|.math _ _=>false|.iW _=>false
noncomputable def cG:List Nd→Bool
 |[]=>false
 |d::_=>d.OO
noncomputable def dn(hp xp:Int)(may cP:Bool)(d:Nd)(r:List Nd):Int:=match d with
 |.glue _=>if may && cP then 0 else 10000
 |.pen v=>v
 |.bP p _ _=>if p=[] then xp else hp
 |.math on _=>if !on && cG r then 0 else 10000
 |.bF _ s=>if s=1∧may=true∧cG r=true then 0 else 10000
 |.box _ _=>10000|.rule _=>10000|.iW _=>10000
noncomputable def fP(may:Bool):Nd→Bool
 |.math on _=> !on
 |.box _ _=>may|.rule _=>may|.bF _ _=>may|.glue _=>may|.pen _=>may|.bP _ _ _=>may|.iW _=>may
noncomputable def fX:Nd→Int
 |.bP _ _ _=>1
 |.box _ _=>0|.rule _=>0|.bF _ _=>0|.glue _=>0|.pen _=>0|.math _ _=>0|.iW _=>0
noncomputable def eu(x:Int):Int:=if -10000>x then -10000 else x
noncomputable def aR(hp xp:Int):Bool→Bool→Nat→List Nd→List (Nat×Int×Int)
 |_,_,_,[]=>[]
 |may,cP,i,d::r=>(if dn hp xp (fP may d) cP d r<10000 then [(i,eu (dn hp xp (fP may d) cP d r),fX d)] else [])++aR hp xp (fP may d) (!d.dropped) (i+1) r
noncomputable def brk(p:Nat×Int×Int):PV:=.tup [.int p.1,.int p.2.1,.int p.2.2]
theorem kD(hp xp:Int)(may cP:Bool)(d:Nd)(r:List Nd):dn hp xp (fP may d) cP d r=dn hp xp may cP d r:=by
 cases d<;>rfl
theorem gw{hp xp:Int}{may cP:Bool}{i:Nat}{d:Nd}{r:List Nd}:aR hp xp may cP i (d::r)=(if dn hp xp (fP may d) cP d r<10000 then [(i,eu (dn hp xp (fP may d) cP d r),fX d)] else [])++aR hp xp (fP may d) (!d.dropped) (i+1) r:=rfl
theorem Bi{hp xp:Int}{may cP:Bool}{i:Nat}:aR hp xp may cP i []=[]:=rfl
theorem uh(hp xp:Int)(l:List Nd):∀(may cP:Bool) (i:Nat),(aR hp xp may cP i l).length≤l.length:=by
 induction l with
 |nil=>
  intro _ _ _
  exact Nat.le_refl _
 |cons d r ih=>
  intro may cP i
  rw[gw]
  rw[List.length_append]
  have:=ih (fP may d) (!d.dropped) (i+1)
  rw[List.length_cons]
  split<;>simp<;>lia
theorem ne{a b:Int}(h:decide (a=b)=false):¬a=b:=of_decide_eq_false h
theorem iy.split{H:aa}{v:PV}{d:Nd}(h:iy H v d):(∃g,d=.glue g)∨(∃x,d=.pen x)∨(∃p q m,d=.bP p q m)∨(∃on w,d=.math on w)∨(∃w s,d=.bF w s)∨
  (d.kind≠6∧d.kind≠7∧d.kind≠8∧d.kind≠12∧d.kind≠5)∧(∀hp xp may cP r,dn hp xp may cP d r=10000)∧(∀may,fP may d=may)∧fX d=0:=by
 cases d with
 |glue g=>exact .inl ⟨g,rfl⟩
 |pen x=>exact .inr (.inl ⟨x,rfl⟩)
 |bP p q m=>exact .inr (.inr (.inl ⟨p,q,m,rfl⟩))
 |math on w=>exact .inr (.inr (.inr (.inl ⟨on,w,rfl⟩)))
 |bF w s=>exact .inr (.inr (.inr (.inr (.inl ⟨w,s,rfl⟩))))
 |box k w=>refine .inr (.inr (.inr (.inr (.inr ⟨?_,fun _ _ _ _ _=>rfl,fun _=>rfl,rfl⟩))));rcases h.1 with rfl|rfl<;>exact⟨ne rfl,ne rfl,ne rfl,ne rfl,ne rfl⟩
 |rule w=>exact .inr (.inr (.inr (.inr (.inr ⟨⟨ne rfl,ne rfl,ne rfl,ne rfl,ne rfl⟩,fun _ _ _ _ _=>rfl,fun _=>rfl,rfl⟩))))
 |iW k=>refine .inr (.inr (.inr (.inr (.inr ⟨?_,fun _ _ _ _ _=>rfl,fun _=>rfl,rfl⟩))));rcases h.1 with rfl|rfl|rfl|rfl<;>exact⟨ne rfl,ne rfl,ne rfl,ne rfl,ne rfl⟩
theorem qp{H:aa}{v:PV}{d:Nd}{r:List Nd}(h:iy H v d):cG (d::r)=decide (d.kind=6):=by
 cases d with
 |box k w=>rcases h.1 with rfl|rfl<;>rfl
 |iW k=>rcases h.1 with rfl|rfl|rfl|rfl<;>rfl
 |_=>rfl
section
variable {ns:List Int}{n:Nat}{H:aa}{a:Nat}{vs:List PV}{l:List Nd}{R:PV→aa→Prop}{E:XK→aa→Prop}
noncomputable def Bj:IS:=.ite (.and (.var 3) (.and (.cmp .Lt (.bin .Add (.var 5) (.const (.int 1))) (.bC .len (.cons (.var 0) .nil))) (.cmp .Eq (.attr (.item (.var 0) (.bin .Add (.var 5) (.const (.int 1)))) 5) (.const (.int 6)))))
       (.cons (.assign 8 (.const (.int 0))) .nil) .nil
theorem vH(h:ni H a vs l){k:Nat}{m:Bool}{x1 x2 x4 x6 x7 x9:Option PV}{Q:QL}{E:EL}
  (hq:Q .next [some (.ref a),x1,x2,some (.bool m),x4,some (.int (k:Int)),x6,x7,some (.int (if(m && cG (l.drop (k+1)))=true then 0 else 10000)),x9] H):
  wS (aP ns) (aj (aP ns) n) Bj [some (.ref a),x1,x2,some (.bool m),x4,some (.int (k:Int)),x6,x7,some (.int 10000),x9] H Q E:=by
 revert ns n H a vs l k m x1 x2 x4 x6 x7 x9 Q E
 apply aO;intro
 generalize bL .. =ns,bM .. =n,bQ .. =H,bR .. =a
 apply aM;intro
 generalize bI .. =vs,bJ .. =l
 intro h
 apply aQ;intro
 generalize bT .. =k,bU .. =m,bV .. =x1,bW .. =x2,cj .. =x4,ck .. =x6,cm .. =x7,cp .. =x9
 apply aM;intro
 generalize bI .. =Q,bJ .. =E
 intro hq
 have hs:=h.small
 have hl:=h.len
 cases m with
 |false=>exact hq
 |true=>
  rw[Bool.true_and] at hq
  refine .of h.at_ (.of (Nat.lt_trans hs (by decide)) (.of (fun z=> ?_) fun z=> ?_))
  ·have z':k+1<l.length:=by rw[←hl];exact Int.ofNat_lt.mp z
   have hd:=List.getElem?_eq_getElem z'
   obtain⟨v,hv,rv⟩:=h.get hd
   rw[ix z',qp rv] at hq
   refine .of h.at_ (.of (fg hv hs) (.of (rv.kind ns) (.of (fun y=> ?_) fun y=> ?_)))
   ·rw[decide_eq_true y] at hq;exact hq
   ·rw[decide_eq_false y] at hq;exact hq
  ·rw[List.drop_eq_nil_of_le (by exact QH hl z)] at hq
   exact hq
noncomputable def OP:IS:=.ite (.cmp .Eq (.var 7) (.const (.int 6)))
   (.cons (.ite (.and (.var 3) (.var 4))
    (.cons (.assign 8 (.const (.int 0))) .nil) .nil) .nil)
   (.cons (.ite (.cmp .Eq (.var 7) (.const (.int 7)))
    (.cons (.assign 8 (.attr (.var 6) 16)) .nil)
    (.cons (.ite (.cmp .Eq (.var 7) (.const (.int 8)))
     (.cons (.assign 9 (.const (.int 1)))
     (.cons (.assign 8 (.ite (.cmp .NotEq (.attr (.var 6) 17) (.list .nil)) (.attr (.var 1) 37) (.attr (.var 1) 38))) .nil))
     (.cons (.ite (.or (.cmp .Eq (.var 7) (.const (.int 12))) (.and (.cmp .Eq (.var 7) (.const (.int 5))) (.cmp .Eq (.attr (.var 6) 13) (.const (.int 1)))))
      (.cons (.ite (.cmp .Eq (.var 7) (.const (.int 12)))
       (.cons (.assign 3 (.not (.attr (.var 6) 25))) .nil) .nil)
      (.cons Bj .nil)) .nil) .nil)) .nil)) .nil)
theorem Bl(h:ni H a vs l){st v:PV}{S:bp}(hS:fW H st S){k:Nat}{d:Nd}(rv:iy H v d){may cP:Bool}{x2:Option PV}{Q:QL}{E:EL}
  (hq:∀H',Pre H H'→Q .next [some (.ref a),some st,x2,some (.bool (fP may d)),some (.bool cP),some (.int k),some v,some (.int d.kind),some (.int (dn S.bS S.ex may cP d (l.drop (k+1)))),some (.int (fX d))] H'):
  wS (aP ns) (aj (aP ns) n) OP [some (.ref a),some st,x2,some (.bool may),some (.bool cP),some (.int k),some v,some (.int d.kind),some (.int 10000),some (.int 0)] H Q E:=by
 revert ns n H a vs l st v S k d may cP x2 Q E
 apply aO;intro
 generalize bL .. =ns,bM .. =n,bQ .. =H,bR .. =a
 apply aM;intro
 generalize bI .. =vs,bJ .. =l
 intro h
 apply aM;intro
 generalize bI .. =st,bJ .. =v
 apply aI;intro
 generalize nx .. =S
 intro hS
 apply aM;intro
 generalize bI .. =k,bJ .. =d
 intro rv
 apply aO;intro
 generalize bL .. =may,bM .. =cP,bQ .. =x2,bR .. =Q
 apply aI;intro
 generalize nx .. =E
 intro hq
 have Bn:=hq H (.refl _)
 rcases rv.split with⟨g,rfl⟩|⟨x,rfl⟩|⟨p,q,m,rfl⟩|⟨on,w,rfl⟩|⟨w,s,rfl⟩|⟨⟨h6,h7,h8,pM,h5⟩,e1,e2,e3⟩
 ·refine .pos rfl ?_
  cases may<;>cases cP<;>exact Bn
 ·exact .neg (ne rfl) (.pos rfl (.of (rv.2 ns) Bn))
 ·obtain⟨_,u1,u2,u3,b1,b2,_⟩:=rv
  obtain⟨r,ws,rfl,hr,hz,al⟩:=b2
  have p1:Pre H (H++[.list []]):=⟨_,rfl⟩
  have OQ:=hq _ p1
  dsimp only[dn] at OQ
  refine .neg (ne rfl) (.neg (ne rfl) (.pos rfl (.of (b1 ns) (vG (p1.get hr) aX al (fun e=> ?_) fun e=> ?_))))
  ·rw[if_pos e] at OQ
   exact .of ((hS.pre p1).ex ns) OQ
  ·rw[if_neg e] at OQ
   exact .of ((hS.pre p1).bS ns) OQ
 ·exact .neg (ne rfl) (.neg (ne rfl) (.neg (ne rfl) (.pos rfl (.pos rfl (.of (rv.2.1 ns) (vH h Bn))))))
 ·refine .neg (ne rfl) (.neg (ne rfl) (.neg (ne rfl) (.neg (ne rfl) (.pos rfl (.of (rv.2.2 ns) (.of (fun z=> ?_) fun z=> ?_))))))
  ·refine .neg (ne rfl) (vH h ?_)
   dsimp only[dn] at Bn
   have e:(if s=1∧may=true∧cG (l.drop (k+1))=true then(0:Int) else 10000)=if(may && cG (l.drop (k+1)))=true then 0 else 10000:=by simp only[z,true_and,Bool.and_eq_true]
   rw[e] at Bn
   exact Bn
  ·dsimp only[dn] at Bn
   rw[if_neg fun y=>z y.1] at Bn
   exact Bn
 ·rw[e1,e2,e3] at Bn
  exact .neg h6 (.neg h7 (.neg h8 (.neg pM (.neg h5 Bn))))
noncomputable def bj(S:bp)(l:List Nd):List (Nat×Int×Int):=aR S.bS S.ex true false 0 l++[(l.length,-10000,1)]
structure SK where
 H:aa
 may:Bool
 cP:Bool
 done:List (Nat×Int×Int)
 (y5 y6 y7 y8 y9:Option PV)
instance:Nonempty SK:=⟨⟨[],true,true,[],none,none,none,none,none⟩⟩
structure XQ(H:aa)(S:bp)(l:List Nd)(k:Nat)(s:SK):Prop where
 pre:Pre H s.H
 len:s.done.length≤k
 at_:s.H[H.length]? =some (.list (s.done.map brk))
 eq:s.done++aR S.bS S.ex s.may s.cP k (l.drop k)=aR S.bS S.ex true false 0 l
def OR(H:aa)(l:List PV)(r:Nat)(H':aa)(C:Prop):Prop:=H.length≤r→Pre H H'→H'[r]? =some (.list l)→C
theorem SM(h:ni H a vs l){st:PV}{S:bp}(hS:fW H st S)(k:Kt PV.ref (OR H ((bj S l).map brk)) R):Wc (aj (aP ns) (n+2) 631 [.ref a,st] H) R E:=by
 revert ns n H a vs l R E st S
 apply aQ;intro
 generalize bT .. =ns,bU .. =n,bV .. =H,bW .. =a,cj .. =vs,ck .. =l,cm .. =R,cp .. =E
 intro h
 apply aM;intro
 generalize bI .. =st,bJ .. =S
 intro hS k
 have k:=kt k
 have hs:=h.small
 have hl:=h.len
 have lt:vs.length<100000:=Nat.lt_trans hs (by decide)
 have p1:Pre H (H++[aF.list []]):=(Pre.refl H).app _
 refine aT rfl rfl (.of (p1.get h.at_) (.of lt ?_))
 refine vE (fun k (s:SK)=>[some (.ref a),some st,some (.ref H.length),some (.bool s.may),some (.bool s.cP),s.y5,s.y6,s.y7,s.y8,s.y9]) (fun _ s=>s.H) (XQ H S l) ⟨H++[.list []],true,false,[],none,none,none,none,none⟩ vs ⟨p1,Nat.le_refl _,aX,rfl⟩ (fun k s j=>j.pre.get h.at_) (?_) ?_
 ·apply aM;intro
  generalize bI .. =k,bJ .. =s
  apply aI;intro
  generalize nx .. =v
  intro j hv
  have hk:=(List.getElem?_eq_some_iff.mp hv).1
  have sJ:k<l.length:=by exact Nat.lt_of_lt_of_eq hk hl
  have hd:=List.getElem?_eq_getElem sJ
  obtain⟨u,hu,ru⟩:=h.get hd
  cases hv.symm.trans hu
  have he:=j.eq
  rw[ix sJ,gw,kD] at he
  generalize l[k]=d at *
  refine .of (ru.pre j.pre |>.kind ns) ?_
  refine Bl (h.pre j.pre) (hS.pre j.pre) (ru.pre j.pre) fun H2 p2=> ?_
  have g2:=p2.get j.at_
  have pp:=j.pre.trans p2
  have ld:=j.len
  refine .of (fun z=> ?_) fun z=> ?_
  ·rw[if_pos z] at he
   refine .of g2 (.of g2 (.of (by rw[List.length_map];exact cE (Nat.lt_of_le_of_lt ld (Nat.lt_trans hk hs)) rfl) (He (ru.pre (pp.set (Nat.le_refl _))) ⟨⟨_,fP s.may d,!d.dropped,s.done++[(k,eu (dn S.bS S.ex s.may s.cP d (l.drop (k+1))),fX d)],_,_,_,_,_⟩,rfl,rfl,pp.set (Nat.le_refl _),?_,?_,?_⟩)))
   ·rw[List.length_append];exact Nat.succ_le_succ ld
   ·rw[List.map_append];exact getset g2
   ·rw[List.append_assoc];exact he
  ·rw[if_neg z] at he
   exact He (ru.pre pp) ⟨⟨_,fP s.may d,!d.dropped,s.done,_,_,_,_,_⟩,rfl,rfl,pp,Nat.le_succ_of_le ld,g2,he⟩
 ·apply aI;intro
  generalize nx .. =s
  intro j
  have g:=j.at_
  have he:=j.eq
  have ld:=j.len
  rw[hl,List.drop_length,Bi,List.append_nil] at he
  refine .of g (.of (j.pre.get h.at_) (.of lt (.of g (.of (by rw[List.length_map];exact Nat.lt_of_le_of_lt ld lt) (k _ _ (Nat.le_refl _) (j.pre.set (Nat.le_refl _)) ?_)))))
  rw[bj,List.map_append,←he,←hl]
  exact getset g
end
structure Row where
 (place:Nat) (pen sort:Int) (start:Nat) (bg en:Sm)
instance:Nonempty Row:=⟨⟨0,0,0,0,.zero,.zero⟩⟩
noncomputable def Row.pv(r:Row):PV:=.tup [.int r.place,.int r.pen,.int r.sort,.int r.start,r.bg.pv,r.en.pv]
noncomputable def Sm.widen(s:Sm)(x:Int):Sm:={s with a:=s.a+x}
noncomputable def rowOf(l:List Nd)(b:Nat×Int×Int):Row:=match l[b.1]? with
 |some (.bP p q _)=>⟨b.1,b.2.1,b.2.2,aU l b.1,(total (l.take (aU l b.1))).widen (-q.sum),(total (l.take b.1)).widen p.sum⟩
 |_=>⟨b.1,b.2.1,b.2.2,aU l b.1,total (l.take (aU l b.1)),total (l.take b.1)⟩
noncomputable def rowsOf(S:bp)(l:List Nd):List Row:=(bj S l).map (rowOf l)
theorem nq{hp xp:Int}{l:List Nd}:∀{may cP:Bool} {i:Nat} {b:Nat×Int×Int},b∈aR hp xp may cP i l→∃j d,l[j]? =some d∧b.1=i+j∧b.2.2=fX d:=by
 induction l with
 |nil=>
  intro _ _ _ _ h
  exact absurd h List.not_mem_nil
 |cons d r ih=>
  intro may cP i b h
  rw[gw] at h
  rcases List.mem_append.mp h with h|h
  ·split at h
   ·simp at h;subst h;exact⟨0,d,rfl,rfl,rfl⟩
   ·simp at h
  ·obtain⟨j,d',h1,h2,h3⟩:=ih h
   exact⟨j+1,d',h1,by exact h2.trans (Nat.add_right_comm _ 1 _),h3⟩
theorem nu(S:bp)(l:List Nd):(bj S l).length≤l.length+1:=by
 unfold bj
 rw[List.length_append]
 exact Nat.succ_le_succ (uh S.bS S.ex l true false 0)
theorem jg{S:bp}{l:List Nd}{b:Nat×Int×Int}(h:b∈bj S l):(∃d,l[b.1]? =some d∧b.2.2=fX d)∨b=(l.length,-10000,1):=by
 rcases List.mem_append.mp h with h|h
 ·obtain⟨j,d,h1,h2,h3⟩:=nq h
  rw[Nat.zero_add] at h2
  rw[←h2] at h1
  exact .inl ⟨d,h1,h3⟩
 ·exact .inr (List.mem_singleton.mp h)
theorem yo{S:bp}{l:List Nd}{b:Nat×Int×Int}(h:b∈bj S l):b.1≤l.length:=by
 rcases jg h with⟨d,e,_⟩|rfl
 ·exact Nat.le_of_lt (List.getElem?_eq_some_iff.mp e).1
 ·exact Nat.le_refl _
theorem jS{Q:Row→Prop}{l:List Nd}{b:Nat×Int×Int}(h1:∀p q m,l[b.1]? =some (.bP p q m)→Q ⟨b.1,b.2.1,b.2.2,aU l b.1,(total (l.take (aU l b.1))).widen (-q.sum),(total (l.take b.1)).widen p.sum⟩)
  (h2:Q ⟨b.1,b.2.1,b.2.2,aU l b.1,total (l.take (aU l b.1)),total (l.take b.1)⟩):Q (rowOf l b):=by
 revert Q l b
 apply aM;intro
 generalize bI .. =Q,bJ .. =l
 apply aI;intro
 generalize nx .. =b
 intro h1 h2
 unfold rowOf
 cases e:l[b.1]? with
 |none=>exact h2
 |some d=>
  cases d with
  |bP p q m=>exact h1 p q m e
  |_=>exact h2
theorem yp{S:bp}{l:List Nd}{b:Nat×Int×Int}(h:b∈bj S l)(c:b.2.2≠1∨¬b.1<l.length):rowOf l b=⟨b.1,b.2.1,b.2.2,aU l b.1,total (l.take (aU l b.1)),total (l.take b.1)⟩:=by
 revert S l b
 apply aM;intro
 generalize bI .. =S,bJ .. =l
 apply aI;intro
 generalize nx .. =b
 intro h c
 refine jS (Q:=fun r=>r=_) (fun p q m e=> ?_) rfl
 ·exfalso
  rcases c with c|c
  ·rcases jg h with⟨d,e',q⟩|rfl
   ·rw[e'] at e;cases e;exact c q
   ·exact c rfl
  ·exact c (List.getElem?_eq_some_iff.mp e).1
structure IF where
 H:aa
 (y4 y5 y6 y7 y8 y9:Option PV)
instance:Nonempty IF:=⟨⟨[],none,none,none,none,none,none⟩⟩
structure D2(H:aa)(S:bp)(l:List Nd)(rs rb rf:Nat)(k:Nat)(s:IF):Prop where
 pre:Pre H s.H
 sums:s.H[rs]? =some (.list (iz l))
 yq:s.H[rb]? =some (.list ((bj S l).map brk))
 found:s.H[rf]? =some (.list ((((bj S l).take k).map (rowOf l)).map Row.pv))
section
variable {ns:List Int}{n:Nat}{H:aa}{a:Nat}{vs:List PV}{l:List Nd}{R:PV→aa→Prop}{E:XK→aa→Prop}
theorem D2.app{H':aa}{S:bp}{rs rb rf k:Nat}{s:IF}(j:D2 H S l rs rb rf k s)(p:Pre s.H H'){y4 y5 y6 y7 y8 y9:Option PV}:D2 H S l rs rb rf k ⟨H',y4,y5,y6,y7,y8,y9⟩:=⟨j.pre.trans p,p.get j.sums,p.get j.yq,p.get j.found⟩
theorem D2.put{S:bp}{rs rb rf k:Nat}{s:IF}(j:D2 H S l rs rb rf k s){b:Nat×Int×Int}(hb:(bj S l)[k]? =some b)(h1:H.length≤rf)(h2:rf≠rs)(h3:rf≠rb){x y:Sm}{y4 y5 y6 y7 y8 y9:Option PV}(e:rowOf l b=⟨b.1,b.2.1,b.2.2,aU l b.1,x,y⟩):
  D2 H S l rs rb rf (k+1) ⟨s.H.set rf (.list ((((bj S l).take k).map (rowOf l)).map Row.pv++[.tup [.int b.1,.int b.2.1,.int b.2.2,.int (aU l b.1:Nat),x.pv,y.pv]])),y4,y5,y6,y7,y8,y9⟩:=by
 refine⟨j.pre.set h1,(bz h2).trans j.sums,(bz h3).trans j.yq,(getset j.found).trans ?_⟩
 rw[List.take_add_one,hb,List.map_append,List.map_append]
 show _=some (aF.list (_++[(rowOf l b).pv]))
 rw[e];rfl
theorem rW:(iz l).length=l.length+1:=by unfold iz;rw[List.length_map,List.length_range]
theorem vI(hs:l.length<1000){k:Nat}(h:k≤l.length):((place (k:Int) (iz l).length).bind fun m=>(iz l)[m]?)=some (total (l.take k)).pv:=by
 rw[kB (by rw[rW];exact Nat.lt_succ_of_le h) (by rw[rW];exact bE 1 hs rfl)];exact ug h
noncomputable def Hm:cx:=Be (ff Gg 2)
noncomputable def SN:cx:=Fd (ff Hm 2)
noncomputable def SO:cx:=iV Hm 3
theorem rX{P:ef}{c:Nat→List PV→aa→RP}{x0 x1 x2:Option PV}{rf:Nat}{v4 v5 v6 v7 v8 v9:PV}{L:List PV}{Q:QL}{E:EL}(g:H[rf]? =some (.list L))(lt:L.length<100000)
  (q:Q .next [x0,x1,x2,some (.ref rf),some v4,some v5,some v6,some v7,some v8,some v9] (H.set rf (.list (L++[.tup [v4,v5,v6,v7,v8,v9]])))):wSs P c SO [x0,x1,x2,some (.ref rf),some v4,some v5,some v6,some v7,some v8,some v9] H Q E:=
 .of g (.of g (.of lt q))
theorem yr(hh:ni H a vs l){p:Nat}{pp qq mm:List Int}(hd:l[p]? =some (.bP pp qq mm)){x1 x2 x3 x5 x6 x7:Option PV}{x y:Sm}{Q:QL}{E:EL}
  (q:Q .next [some (.ref a),x1,x2,x3,some (.int p),x5,x6,x7,some (x.widen (-qq.sum)).pv,some (y.widen pp.sum).pv] H):
  wSs (aP ns) (aj (aP ns) (n+3)) SN [some (.ref a),x1,x2,x3,some (.int p),x5,x6,x7,some x.pv,some y.pv] H Q E:=by
 revert ns n H a vs l p pp qq mm x1 x2 x3 x5 x6 x7 x y Q E
 apply aO;intro
 generalize bL .. =ns,bM .. =n,bQ .. =H,bR .. =a
 apply aM;intro
 generalize bI .. =vs,bJ .. =l
 intro hh
 apply aO;intro
 generalize bL .. =p,bM .. =pp,bQ .. =qq,bR .. =mm
 intro hd
 apply aQ;intro
 generalize bT .. =x1,bU .. =x2,bV .. =x3,bW .. =x5,cj .. =x6,ck .. =x7,cm .. =x,cp .. =y
 apply aM;intro
 generalize bI .. =Q,bJ .. =E
 intro q
 obtain⟨v,hv,rv⟩:=hh.get hd
 have OK:=fg hv hh.small
 obtain⟨_,u1,u2,u3,b1,b2,b3,b4,_⟩:=rv
 exact .of hh.at_ (.of OK (.of (b3 ns) (Hf b4 (OG (.of hh.at_ (.of OK (.of (b1 ns) (Hf b2 (OG q)))))))))
theorem yt{d:Nd}(h:fX d=1):∃p q m,d=.bP p q m:=by
 cases d with
 |bP p q m=>exact⟨_,_,_,rfl⟩
 |_=>cases h
theorem yu(h:ni H a vs l){S:bp}{rs rb rf k:Nat}{s:IF}{b:Nat×Int×Int}(j:D2 H S l rs rb rf k s)(hb:(bj S l)[k]? =some b)(f3:H.length≤rf)(n1:rf≠rs)(n2:rf≠rb){x1 y7 y8 y9:Option PV}{Q:QL}{E:EL}
  (q:∀s',D2 H S l rs rb rf (k+1) s'→Q .next [some (.ref a),x1,some (.ref rs),some (.ref rf),s'.y4,s'.y5,s'.y6,s'.y7,s'.y8,s'.y9] s'.H):
  wSs (aP ns) (aj (aP ns) (n+3)) Hm [some (.ref a),x1,some (.ref rs),some (.ref rf),some (.int b.1),some (.int b.2.1),some (.int b.2.2),y7,y8,y9] s.H Q E:=by
 revert ns n H a vs l S rs rb rf k s b x1 y7 y8 y9 Q E
 apply aO;intro
 generalize bL .. =ns,bM .. =n,bQ .. =H,bR .. =a
 apply aM;intro
 generalize bI .. =vs,bJ .. =l
 intro h
 apply aO;intro
 generalize bL .. =S,bM .. =rs,bQ .. =rb,bR .. =rf
 apply aM;intro
 generalize bI .. =k,bJ .. =s
 apply aI;intro
 generalize nx .. =b
 intro j hb f3 n1 n2
 apply aO;intro
 generalize bL .. =x1,bM .. =y7,bQ .. =y8,bR .. =y9
 apply aM;intro
 generalize bI .. =Q,bJ .. =E
 intro q
 have vg:l.length<1000:=by rw[←h.len];exact h.small
 have hl:=h.len
 have SP:b∈bj S l:=List.mem_of_getElem? hb
 have SQ:=yo SP
 refine SD (h.pre j.pre) SQ fun J=> ?_
 have q3:Pre s.H (s.H++J):=⟨J,rfl⟩
 have Vs:=(h.pre j.pre).pre q3
 have j3:=j.app (y4:=none) (y5:=none) (y6:=none) (y7:=none) (y8:=none) (y9:=none) q3
 have OS:((((bj S l).take k).map (rowOf l)).map Row.pv).length<100000:=by
  have:=nu S l
  rw[List.length_map,List.length_map,List.length_take];exact cE (Nat.lt_of_le_of_lt (Nat.min_le_right _ _) (Nat.lt_of_le_of_lt this (bE 1 vg (C:=1001) rfl))) rfl
 refine .of j3.sums (.of (vI vg (uf l b.1 SQ)) (.of j3.sums (.of (vI vg SQ) (.of Vs.at_ (.of (Nat.lt_trans h.small (by decide)) (.and (fun y1 y2=> ?_) fun y=> ?_))))))
 ·have XR:b.1<l.length:=by rw[←hl];exact Int.ofNat_lt.mp y1
  rcases jg SP with⟨d,hd,e⟩|rfl
  ·obtain⟨pp,qq,mm,rfl⟩:=yt (e.symm.trans y2)
   exact yr Vs hd (rX j3.found OS (q ⟨_,_,_,_,_,_,_⟩ (j3.put hb f3 n1 n2 (x:=(total (l.take (aU l b.1))).widen (-qq.sum)) (y:=(total (l.take b.1)).widen pp.sum) (by unfold rowOf;rw[hd]))))
  ·exact absurd XR (Nat.lt_irrefl _)
 ·refine rX j3.found OS (q ⟨_,_,_,_,_,_,_⟩ (j3.put hb f3 n1 n2 (yp SP ?_)))
  by_cases c:b.2.2=1
  ·exact .inr fun z=>y ⟨by rw[hl];exact Int.ofNat_lt.mpr z,c⟩
  ·exact .inl c
theorem SS(h:ni H a vs l)(hf:∀d∈l,d.bD){st:PV}{S:bp}(hS:fW H st S)(k:cN l=false→Kt PV.ref (OR H ((rowsOf S l).map Row.pv)) R)(ke:cN l=true→∀H',Pre H H'→E .flying H'):Wc (aj (aP ns) (n+4) 673 [.ref a,st] H) R E:=by
 revert ns n H a vs l R E st S
 apply aQ;intro
 generalize bT .. =ns,bU .. =n,bV .. =H,bW .. =a,cj .. =vs,ck .. =l,cm .. =R,cp .. =E
 intro h hf
 apply aM;intro
 generalize bI .. =st,bJ .. =S
 intro hS k ke
 refine aT rfl rfl (SI h hf (o8 ?_) ke)
 apply aM;intro
 generalize bI .. =rs,bJ .. =H1
 intro hb Zp p1 h1
 have q1:Pre H1 (H1++[.list []]):=⟨_,rfl⟩
 have p2:=p1.trans q1
 refine SM (h.pre p2) (hS.pre p2) (o8 ?_)
 apply aM;intro
 generalize bI .. =rb,bJ .. =H2
 intro XS q2 h2
 have f3:H.length≤H1.length:=p1.len
 refine .of h2 (.of (by have:=nu S l;have:=h.small;have:=h.len;rw[List.length_map];lia) ?_)
 refine et (fun k (s:IF)=>[some (.ref a),some st,some (.ref rs),some (.ref H1.length),s.y4,s.y5,s.y6,s.y7,s.y8,s.y9]) (fun _ s=>s.H) (D2 H S l rs rb H1.length) ⟨H2,none,none,none,none,none,none⟩ ((bj S l).map brk) ⟨p2.trans q2,q2.get (q1.get h1),h2,q2.get aX⟩ (fun k s j=>j.yq) (?_) fun s j=> ?_
 ·apply aM;intro
  generalize bI .. =k,bJ .. =s
  apply aI;intro
  generalize nx .. =v
  intro j hv
  obtain⟨b,uV,rfl⟩:∃b,(bj S l)[k]? =some b∧brk b=v:=by rw[List.getElem?_map] at hv;exact Option.map_eq_some_iff.mp hv
  have f2:H1.length<rb:=by have:=XS;rw[List.length_append] at this;exact this
  exact yu h j uV f3 (Nat.ne_of_gt (List.getElem?_eq_some_iff.mp h1).1) (Nat.ne_of_lt f2) fun s' j'=>⟨s',rfl,rfl,j'⟩
 ·have g:=j.found
  rw[List.length_map,List.take_length] at g
  exact kt (k hb) _ _ f3 j.pre g
end
structure jj where
 (width iA narrow after:Int) (rows:List (Int×Int)) (done:Int)
instance:Nonempty jj:=⟨⟨0,0,0,0,[],0⟩⟩
noncomputable def jj.Bo(s:jj):PV:=.tup (s.rows.map fun p=>.tup [.int p.1,.int p.2])
noncomputable def jj.fs(s:jj):List (Nat×PV):=[(0,.int s.width),(29,.int s.iA),(30,.int s.narrow),(31,.int s.after),(32,s.Bo),(33,.int s.done)]
noncomputable def fY(x:Int):Int:=if x<0 then -x else x
noncomputable def fD(x y:Int):Int:=if y<x then y else x
noncomputable def jj.special(s:jj):Int:=if s.rows≠[] then(s.rows.length:Int) - 1 else if s.iA≠0 then fY s.after else 0
noncomputable def jj.vJ(s:jj)(n:Int):Int:=
 if s.rows≠[] then((s.rows[(fD n s.rows.length - 1).toNat]?).getD (0,0)).2
 else if s.iA=0∨¬(decide (n≤fY s.after)=decide (s.after<0)) then s.width else s.narrow
def iB(H:aa)(v:PV)(s:jj):Prop:=∃r,v=.ref r∧H[r]? =some (.inst 543 s.fs)∧s.rows.length<100
theorem iB.pre{H H':aa}{v:PV}{s:jj}(p:Pre H H'):iB H v s→iB H' v s
 |⟨r,e,h,z⟩=>⟨r,e,p.get h,z⟩
theorem aA{H:aa}{r c n:Nat}{fs:List (Nat×PV)}{x:PV}(h:H[r]? =some (.inst c fs))(hb:dS.contains (c,n)=false)(hx:bA n fs=some x):Aq H (.ref r) n x:=by
 intro ns
 show j2 _ _ _=_
 rw[h]
 show(if _ then _ else _)=_
 rw[show(aP ns).bad=dS from rfl,hb,if_neg (by decide),hx]
section
variable {ns:List Int}{n:Nat}{H:aa}{R:PV→aa→Prop}{E:XK→aa→Prop}
theorem iB.aq{v:PV}{s:jj}(h:iB H v s):Aq H v 0 (.int s.width)∧Aq H v 29 (.int s.iA)∧Aq H v 30 (.int s.narrow)∧Aq H v 31 (.int s.after)∧Aq H v 32 s.Bo∧Aq H v 33 (.int s.done):=by
 obtain⟨r,rfl,h,z⟩:=h
 exact⟨aA h rfl rfl,aA h rfl rfl,aA h rfl rfl,aA h rfl rfl,aA h rfl rfl,aA h rfl rfl⟩
theorem iB.small{v:PV}{s:jj}(h:iB H v s):s.rows.length<100:=by
 obtain⟨r,rfl,h,z⟩:=h;exact z
theorem SU{v:PV}{s:jj}(h:iB H v s)(k:R (.int s.special) H):Wc (aj (aP ns) (n+1) 533 [v] H) R E:=by
 revert ns n H R E v s
 apply aO;intro
 generalize bL .. =ns,bM .. =n,bQ .. =H,bR .. =R
 apply aM;intro
 generalize bI .. =E,bJ .. =v
 apply aI;intro
 generalize nx .. =s
 intro h k
 obtain⟨h0,Qh,Vt,Qi,IG,XT⟩:=h.aq
 have z:=h.small
 unfold jj.special at k
 have k1:=eK (P:=fun x:Int=>R (.int x) H) k
 refine aT rfl rfl (.of (IG ns) ?_)
 show match(s.rows.map fun p=>PV.tup [.int p.1,.int p.2]) with|[]=>_|_::_=>_
 cases q:s.rows with
 |nil=>
  have k2:=eK (P:=fun x:Int=>R (.int x) H) (k1.2 fun x=>x q)
  exact .of (Qh ns) (.of (fun y=>k2.2 fun x=>x y) fun y=>.of (Qi ns) (k2.1 y))
 |cons x r=>
  have k2:=k1.1 (by rw[q];nofun)
  refine .of (IG ns) (.of ?_ ?_)
  ·rw[List.length_map];exact cE z rfl
  ·rw[←List.length_map (as:=s.rows) fun p=>PV.tup [.int p.1,.int p.2]] at k2;exact k2
theorem Hn{vs:List PV}{i:Nat}{j:Int}{v:PV}{k:PV→Prop}(h:vs[i]? =some v)(hs:vs.length≤100)(hj:j=i)(g:k v):kN H (.tup vs) (.int j) k:=by
 subst hj
 have sh:∀(l:List PV) (n:Nat),l.length≤n→short l n=true:=fun l=>by
  induction l with
  |nil=>exact fun _ _=>rfl
  |cons a r ih=>intro n h;cases n with
   |zero=>cases h
   |succ n=>exact ih n (Nat.le_of_succ_le_succ h)
 have nt:∀(l:List PV) (i:Nat),l[i]? =some v→nX l i k:=fun l=>by
  induction l with
  |nil=>intro i h;cases h
  |cons a r ih=>intro i h;cases i with
   |zero=>cases h;exact g
   |succ i=>exact ih i h
 show wb (short vs 100) (nX vs i k) False
 rw[sh vs 100 hs]
 exact nt vs i h
theorem D3{m:Int}{n:Nat}(h:1≤m)(k:0<n):1≤fD m n∧fD m n≤n:=by
 unfold fD
 split
 ·exact⟨Int.ofNat_lt.mpr k,Int.le_refl _⟩
 ·exact⟨h,Int.not_lt.mp ‹_›⟩
theorem SV{v:PV}{s:jj}(h:iB H v s){m:Int}(h1:1≤m)(h2:m≤4294967294)(k:∀x,R (.tup [x,.int (s.vJ m)]) H):Wc (aj (aP ns) (n+2) 540 [v,.int m] H) R E:=by
 revert ns n H R E v s m
 apply aO;intro
 generalize bL .. =ns,bM .. =n,bQ .. =H,bR .. =R
 apply aM;intro
 generalize bI .. =E,bJ .. =v
 apply aI;intro
 generalize nx .. =s
 intro h
 apply aI;intro
 generalize nx .. =m
 intro h1 h2 k
 obtain⟨h0,Qh,Vt,Qi,IG,XT⟩:=h.aq
 have z:=h.small
 unfold jj.vJ at k
 have k1:=eK (P:=fun x:Int=>∀y,R (.tup [y,.int x]) H) k
 refine aT rfl rfl (.of (.inl (by decide)) (kA h1 h2 (.of (IG ns) ?_)))
 show match(s.rows.map fun p=>PV.tup [.int p.1,.int p.2]) with|[]=>_|_::_=>_
 cases q:s.rows with
 |nil=>
  have k2:=eK (P:=fun x:Int=>∀y,R (.tup [y,.int x]) H) (k1.2 fun x=>x q)
  refine .of (Qi ns) (.of (Qi ns) (.of (Qh ns) (.of (fun y=>.of (h0 ns) (k2.1 (.inl y) _)) fun y=>yS (fun e=> ?_) fun e=> ?_)))
  ·exact .of (Qh ns) (.of (Vt ns) (k2.2 (fun x=>x.elim y fun x=>x (eq_of_beq e)) _))
  ·exact .of (h0 ns) (k2.1 (.inr fun x=>ne_of_beq_false e x) _)
 |cons x r=>
  have k2:=k1.1 (by rw[q];nofun)
  have hp:0<s.rows.length:=by rw[q];exact Nat.succ_pos _
  have i:=D3 h1 hp
  have l:(fD m s.rows.length - 1).toNat<s.rows.length:=(Int.toNat_lt' hp).mpr (Int.lt_of_lt_of_le (Int.sub_lt_self _ (by decide)) i.2)
  rw[List.getElem?_eq_getElem l] at k2
  have lm:=List.length_map (as:=s.rows) fun p=>PV.tup [.int p.1,.int p.2]
  refine .of (IG ns) (.of (IG ns) (.of (by rw[lm];exact cE z rfl) (Hn (H:=H) (i:=(fD m s.rows.length - 1).toNat) (v:=.tup [.int (s.rows[(fD m s.rows.length - 1).toNat]).1,.int (s.rows[(fD m s.rows.length - 1).toNat]).2]) ?_ ?_ ?_ (k2 _))))
  ·rw[List.getElem?_map,List.getElem?_eq_getElem l];rfl
  ·rw[lm];exact Nat.le_of_lt z
  ·rw[lm];exact(Int.toNat_sub_of_le i.1).symm
end
structure Core where
 (pen sort:Int) (bg en:Sm)
structure Wy where
 (path:List Nat) (line fit cQ:Int)
structure eY where
 (S:bp) (dA:jj) (most:Int) (g:Sm) (last:Bool) (apart:Int)
structure ui where
 (cQ:Int) (way:Wy) (line:Int)
structure eU where
 (kept:List Wy) (best:List (Int×ui)) (least:List (Int×Int))
instance:Nonempty Core:=⟨⟨0,0,.zero,.zero⟩⟩
instance:Nonempty Wy:=⟨⟨[],0,0,0⟩⟩
instance:Nonempty eY:=⟨⟨⟨0,0,0,0,0,0,0⟩,⟨0,0,0,0,[],0⟩,0,.zero,false,0⟩⟩
instance:Nonempty ui:=⟨⟨0,⟨[],0,0,0⟩,0⟩⟩
instance:Nonempty eU:=⟨⟨[],[],[]⟩⟩
noncomputable def cH{α:Type}(k:Int):List (Int×α)→Option α
 |[]=>none
 |(j,v)::r=>if j=k then some v else cH k r
theorem gM{α:Type}{k j:Int}{v:α}{r:List (Int×α)}:cH k ((j,v)::r)=if j=k then some v else cH k r:=rfl
noncomputable def putK{α:Type}(k:Int)(v:α):List (Int×α)→List (Int×α)
 |[]=>[(k,v)]
 |(j,u)::r=>if j=k then(j,v)::r else(j,u)::putK k v r
theorem kE{α:Type}{k j:Int}{v u:α}{r:List (Int×α)}:putK k v ((j,u)::r)=if j=k then(j,v)::r else(j,u)::putK k v r:=rfl
noncomputable def pb(cs:List Core)(w:Wy):Int:=match w.path with
 |[]=>0
 |i::_=>((cs[i]?).map Core.sort).getD 0
noncomputable def Bp(cs:List Core)(w:Wy):Sm:=match w.path with
 |[]=>.zero
 |i::_=>((cs[i]?).map Core.bg).getD .zero
noncomputable def vK(b:ui):Option ui→Bool
 |none=>true
 |some o=>decide (b.cQ≤o.cQ)
noncomputable def jh(group fit:Int)(b:ui)(s:eU):eU:=
 if vK b (cH (4 * group+fit) s.best)=true then
  ⟨s.kept,putK (4 * group+fit) b s.best,putK group (fD b.cQ ((cH group s.least).getD b.cQ)) s.least⟩ else s
noncomputable def qr(T:eY)(cs:List Core)(c:Core)(w:Wy):Int×Int:=rS (T.dA.vJ (w.line+1)) (Sm.line (Bp cs w) c.en T.g)
noncomputable def gZ(bad pen:Int):Bool:=decide (10000<bad) || decide (pen=-10000)
noncomputable def yv(T:eY)(s:eU)(at_:Bool):Bool:=T.last && (s.kept.isEmpty && (s.best.isEmpty && at_))
noncomputable def SW(T:eY)(cs:List Core)(c:Core)(isEnd:Bool)(w:Wy):Int:=
 w.cQ+(lj T.S (qr T cs c w).1 c.pen+ll T.S (decide (c.sort=1) && decide (pb cs w=1)) isEnd (fY ((qr T cs c w).2 - w.fit)))
noncomputable def fE(T:eY)(cs:List Core)(c:Core)(isEnd:Bool)(len k:Nat)(w:Wy)(s:eU):eU:=
 let bf:=qr T cs c w
 let cut:=gZ bf.1 c.pen
 let rs:=cut && yv T s (decide (k+1=len))
 let s':eU:=⟨if cut then s.kept else s.kept++[w],s.best,s.least⟩
 if T.most<bf.1∧rs=false then s'
 else jh (fD (w.line+1) (T.apart+1)) bf.2 ⟨if rs then w.cQ else SW T cs c isEnd w,w,w.line+1⟩ s'
noncomputable def Row.core(r:Row):Core:=⟨r.pen,r.sort,r.bg,r.en⟩
noncomputable def da(rows:List Row):List Nat→PV
 |[]=>.tup [.int (-1),.int 0,.int 0,.int 0,Sm.zero.pv,Sm.zero.pv]
 |i::_=>((rows[i]?).map Row.pv).getD .none
def fZ(H:aa)(rows:List Row):PV→List Nat→Prop
 |v,[]=>Aq H v 46 (da rows [])∧Aq H v 50 .none
 |v,i::p=>Aq H v 46 (da rows (i::p))∧∃k,Aq H v 50 (.ref k)∧fZ H rows (.ref k) p
structure dy(H:aa)(rows:List Row)(v:PV)(w:Wy):Prop where
 ref:∃k,v=.ref k
 line:Aq H v 47 (.int w.line)
 fit:Aq H v 48 (.int w.fit)
 cQ:Aq H v 49 (.int w.cQ)
 chain:fZ H rows v w.path
def rY(H H':aa):Prop:=∀(i c:Nat) (fs:List (Nat×PV)),H[i]? =some (aF.inst c fs)→H'[i]? =some (aF.inst c fs)
theorem rY.refl(H:aa):rY H H:=fun _ _ _ h=>h
theorem rY.trans{H rT rU:aa}(a:rY H rT)(b:rY rT rU):rY H rU:=fun i c fs h=>b i c fs (a i c fs h)
theorem Pre.ins{H H':aa}(p:Pre H H'):rY H H':=fun _ _ _ h=>p.get h
theorem rY.set{H H':aa}{r:Nat}{o x:aF}(a:rY H H')(h:H'[r]? =some o)(hn:∀c fs,o≠.inst c fs):rY H (H'.set r x):=by
 intro i c fs e
 have e':=a i c fs e
 rw[bz (by rintro rfl;rw[h] at e';cases e';exact hn _ _ rfl)]
 exact e'
theorem Aq.ins{H H':aa}{v:PV}{n:Nat}{x:PV}(p:rY H H')(h:Aq H v n x):Aq H' v n x:=h.get p
theorem fZ.ins{H H':aa}{rows:List Row}(p:rY H H'):∀{v:PV} {l:List Nat},fZ H rows v l→fZ H' rows v l
 |_,[],⟨a,b⟩=>⟨a.ins p,b.ins p⟩
 |_,_::_,⟨a,k,b,c⟩=>⟨a.ins p,k,b.ins p,c.ins p⟩
theorem dy.ins{H H':aa}{rows:List Row}{v:PV}{w:Wy}(p:rY H H')(h:dy H rows v w):dy H' rows v w:=⟨h.ref,h.line.ins p,h.fit.ins p,h.cQ.ins p,h.chain.ins p⟩
theorem fZ.SX{H:aa}{rows:List Row}{v:PV}:∀{l:List Nat},fZ H rows v l→Aq H v 46 (da rows l)
 |[],h=>h.1
 |_::_,h=>h.1
theorem yw(rows:List Row)(w:Wy)(place:Nat)(h:∀i∈w.path,∃r,rows[i]? =some r∧r.start≤place):
  ∃(a0 a1 a5:PV) (st:Nat),da rows w.path=.tup [a0,a1,.int (pb (rows.map Row.core) w),.int st,(Bp (rows.map Row.core) w).pv,a5]∧st≤place:=by
 obtain⟨path,line,fit,cQ⟩:=w
 cases path with
 |nil=>exact⟨_,_,_,0,rfl,Nat.zero_le _⟩
 |cons i p=>
  obtain⟨r,hr,hs⟩:=h i (List.mem_cons_self ..)
  refine⟨.int r.place,.int r.pen,r.en.pv,r.start,?_,hs⟩
  simp[da,hr,pb,Bp,Row.pv,Row.core]
structure Ho(H:aa)(v st:PV)(T:eY):Prop where
 at_:Aq H v 51 st
 set:fW H st T.S
 sh:∃u,Aq H v 52 u∧iB H u T.dA
 most:Aq H v 53 (.int T.most)
 g:Aq H v 54 T.g.pv
 last:Aq H v 55 (.bool T.last)
 apart:Aq H v 56 (.int T.apart)
theorem Ho.pre{H H':aa}{v st:PV}{T:eY}(p:Pre H H')(h:Ho H v st T):Ho H' v st T:=by
 obtain⟨u,a,b⟩:=h.sh
 exact⟨h.at_.pre p,h.set.pre p,⟨u,a.pre p,b.pre p⟩,h.most.pre p,h.g.pre p,h.last.pre p,h.apart.pre p⟩
def nv(H:aa)(rows:List Row)(e:Int×PV)(b:Int×ui):Prop:=e.1=b.1∧∃v,e.2=.tup [.int b.2.cQ,v,.int b.2.line]∧dy H rows v b.2.way
structure rZ(H₀ H:aa)(rows:List Row)(rk rb rl:Nat)(s:eU):Prop where
 k:∃vk,H[rk]? =some (.list vk)∧bu (dy H₀ rows) vk s.kept
 b:∃es,H[rb]? =some (.aW es)∧bu (nv H₀ rows) es s.best
 l:H[rl]? =some (.aW (s.least.map fun p=>(p.1,.int p.2)))
theorem rZ.pre{H₀ H H':aa}{rows:List Row}{rk rb rl:Nat}{s:eU}(p:Pre H H')(h:rZ H₀ H rows rk rb rl s):rZ H₀ H' rows rk rb rl s:=by
 obtain⟨vk,a,b⟩:=h.k
 obtain⟨es,c,d⟩:=h.b
 exact⟨⟨vk,p.get a,b⟩,⟨es,p.get c,d⟩,p.get h.l⟩
theorem sd{H:aa}{rows:List Row}(k:Int):∀{es:List (Int×PV)} {bs:List (Int×ui)},bu (nv H rows) es bs→
  match cH k bs with|none=>eE k es=none|some b=>∃v,eE k es=some (.tup [.int b.cQ,v,.int b.line])∧dy H rows v b.way:=
 bu.el (R:=nv H rows) (P:=fun es bs=>match cH k bs with|none=>eE k es=none|some b=>∃v,eE k es=some (.tup [.int b.cQ,v,.int b.line])∧dy H rows v b.way) rfl fun a b es bs h _ ih=>by
  obtain⟨i,x⟩:=a
  obtain⟨j,b⟩:=b
  obtain⟨e,v,e2,hw⟩:=h
  cases e;cases e2
  rw[gM,pP]
  by_cases q:i=k
  ·rw[if_pos q,if_pos q];exact⟨v,rfl,hw⟩
  ·rw[if_neg q,if_neg q];exact ih
theorem D4{H:aa}{rows:List Row}(k:Int){v:PV}{b:ui}(hw:dy H rows v b.way):∀{es:List (Int×PV)} {bs:List (Int×ui)},bu (nv H rows) es bs→
  bu (nv H rows) (oh k (.tup [.int b.cQ,v,.int b.line]) es) (putK k b bs):=
 bu.el (R:=nv H rows) (P:=fun es bs=>bu (nv H rows) (oh k (.tup [.int b.cQ,v,.int b.line]) es) (putK k b bs)) ⟨⟨rfl,v,rfl,hw⟩,trivial⟩ fun a b es bs h r ih=>by
  obtain⟨i,x⟩:=a
  obtain⟨j,b'⟩:=b
  obtain⟨e,u,e2,hu⟩:=h
  cases e;cases e2
  rw[sU,kE]
  by_cases q:i=k
  ·rw[if_pos q,if_pos q];exact⟨⟨rfl,v,rfl,hw⟩,r⟩
  ·rw[if_neg q,if_neg q];exact⟨⟨rfl,u,rfl,hu⟩,ih⟩
theorem Bq(k:Int):∀l:List (Int×Int),eE k (l.map fun p=>(p.1,.int p.2))=(cH k l).map .int
 |[]=>rfl
 |(j,v)::r=>by
  rw[List.map_cons,pP,gM]
  split
  ·rfl
  ·exact Bq k r
theorem Fi(k m:Int):∀l:List (Int×Int),oh k (.int m) (l.map fun p=>(p.1,.int p.2))=(putK k m l).map fun p=>(p.1,.int p.2)
 |[]=>rfl
 |(j,v)::r=>by
  rw[List.map_cons,sU,kE]
  split
  ·rfl
  ·rw[List.map_cons,Fi k m r]
theorem ny{α:Type}(k:Int)(v:α):∀l:List (Int×α),(putK k v l).length≤l.length+1
 |[]=>Nat.le_refl _
 |(j,u)::r=>by
  rw[kE]
  split
  ·simp
  ·have:=ny k v r;rw[List.length_cons,List.length_cons];exact Nat.succ_le_succ this
def eU.small(s:eU)(k:Nat):Prop:=s.kept.length≤k∧s.best.length≤k∧s.least.length≤k
theorem uj{g f:Int}{b:ui}{s:eU}{m:Nat}(h1:s.kept.length≤m+1)(h2:s.best.length≤m)(h3:s.least.length≤m):(jh g f b s).small (m+1):=by
 unfold jh
 split
 ·exact⟨h1,Nat.le_trans (ny _ _ _) (by exact Nat.succ_le_succ h2),Nat.le_trans (ny _ _ _) (by exact Nat.succ_le_succ h3)⟩
 ·exact⟨h1,by exact Nat.le_succ_of_le h2,by exact Nat.le_succ_of_le h3⟩
theorem lp{T:eY}{cs:List Core}{c:Core}{isEnd:Bool}{len k:Nat}{w:Wy}{s:eU}{m:Nat}(h:s.small m):(fE T cs c isEnd len k w s).small (m+1):=by
 obtain⟨h1,h2,h3⟩:=h
 have hk:(if gZ (qr T cs c w).1 c.pen then s.kept else s.kept++[w]).length≤m+1:=by
  split
  ·exact Nat.le_succ_of_le h1
  ·rw[List.length_append,List.length_singleton];exact Nat.succ_le_succ h1
 unfold fE
 dsimp only
 split
 ·exact⟨hk,by show s.best.length≤_;exact Nat.le_succ_of_le h2,by show s.least.length≤_;exact Nat.le_succ_of_le h3⟩
 ·exact uj hk h2 h3
theorem Br{ns:List Int}{H:aa}{v:PV}{s:jj}(h:iB H v s):iZ (aP ns) 47 H v=some 540:=by
 obtain⟨r,rfl,hr,z⟩:=h
 unfold iZ
 dsimp only
 rw[hr]
 rfl
theorem se{ns:List Int}{H:aa}{v:PV}{s:jj}(h:iB H v s):iZ (aP ns) 57 H v=some 533:=by
 obtain⟨r,rfl,hr,z⟩:=h
 unfold iZ
 dsimp only
 rw[hr]
 rfl
noncomputable def yx:cx:=Be (ff CU 3)
section
variable {ns:List Int}{n:Nat}{H₀ H:aa}{rows:List Row}{R:PV→aa→Prop}{E:XK→aa→Prop}
theorem vL{r e:Nat}{vs:List PV}{A B:Prop}(h1:H[r]? =some (.list vs))(h2:H[e]? =some (.list []))(ha:vs.isEmpty=true→A)(hb:vs.isEmpty=false→B):WO (og H (.ref r) (.ref e)) fun t=>wb t A B:=by
 refine .of (a:=vs.isEmpty) ?_ (yS ha hb)
 unfold og
 simp only[h1,h2]
 cases vs with
 |nil=>rfl
 |cons _ _=>rfl
theorem D5{r e:Nat}{vs:List (Int×PV)}{A B:Prop}(h1:H[r]? =some (.aW vs))(h2:H[e]? =some (.aW []))(ha:vs.isEmpty=true→A)(hb:vs.isEmpty=false→B):WO (og H (.ref r) (.ref e)) fun t=>wb t A B:=by
 refine .of (a:=vs.isEmpty) ?_ (yS ha hb)
 unfold og
 simp only[h1,h2]
theorem bu.isEmpty{α β:Type}{R:α→β→Prop}{l:List α}{m:List β}(h:bu R l m):l.isEmpty=m.isEmpty:=by
 cases l<;>cases m<;>first|rfl|exact h.elim
noncomputable def TL(tv sp:PV)(ra:Nat)(isEnd:Bool)(place:Nat)(pen sort:Int)(en:PV)(st:PV)(rk rb rl:Nat)(k:Nat)(wv:PV)(y:List (Option PV)):Loc:=
 some tv::some sp::some (.ref ra)::some (.bool isEnd)::some (.int place)::some (.int pen)::some (.int sort)::some en::some st::some (.ref rk)::some (.ref rb)::some (.ref rl)::some (.int k)::some wv::y
theorem rZ.set{s:eU}{rk rb rl:Nat}(h:rZ H₀ H rows rk rb rl s):rk≠rb∧rk≠rl:=by
 obtain⟨_,gk,_⟩:=h.k
 obtain⟨_,gb,_⟩:=h.b
 have gl:=h.l
 exact⟨fun e=>by(subst e;rw[gk] at gb;cases gb),fun e=>by(subst e;rw[gk] at gl;cases gl)⟩
theorem rZ.push{s:eU}{rk rb rl:Nat}(h:rZ H₀ H rows rk rb rl s){vk:List PV}{w:Wy}{wv:PV}(gk:H[rk]? =some (.list vk))(ak:bu (dy H₀ rows) vk s.kept)(hw:dy H₀ rows wv w):rZ H₀ (H.set rk (.list (vk++[wv]))) rows rk rb rl ⟨s.kept++[w],s.best,s.least⟩:=by
 obtain⟨n1,n2⟩:=h.set
 obtain⟨es,gb,ab⟩:=h.b
 exact⟨⟨_,getset gk,ak.append ⟨hw,trivial⟩⟩,⟨_,by rw[bz n1];exact gb,ab⟩,by rw[bz n2];exact h.l⟩
theorem Bs{T:eY}{tv st wv sp en:PV}{w:Wy}{s:eU}{va:List PV}{ra rk rb rl k place:Nat}{isEnd:Bool}{pen sort bad:Int}{sf lI:Option PV}{vM:Option PV}{r:List (Option PV)}{Q:QL}{E:EL}
  (hT:Ho H₀ tv st T) (ha:H₀[ra]? =some (.list va)) (sg:va.length<60) (hw:dy H₀ rows wv w) (hp:Pre H₀ H) (hs:rZ H₀ H rows rk rb rl s) (h1:H₀.length≤rk) (hm:s.kept.length<1000)
  {N:Loc→aa→Prop} (hN:∀H',Pre H₀ H'→rZ H₀ H' rows rk rb rl ⟨if gZ bad pen then s.kept else s.kept++[w],s.best,s.least⟩→N (TL tv sp ra isEnd place pen sort en st rk rb rl k wv (sf::lI::some (.int bad)::vM::some (.bool (gZ bad pen && yv T s (decide (k+1=va.length))))::r)) H'):
  wS (aP ns) (aj (aP ns) n) (ff yx 4) (TL tv sp ra isEnd place pen sort en st rk rb rl k wv (sf::lI::some (.int bad)::vM::some (.bool false)::r)) H (mn Q N) E:=by
 revert ns n H₀ H rows T tv st wv sp en w s va ra rk rb rl k place isEnd pen sort bad sf lI vM r Q E N
 apply aQ;intro
 generalize bT .. =ns,bU .. =n,bV .. =H₀,bW .. =H,cj .. =rows,ck .. =T,cm .. =tv,cp .. =st
 apply aQ;intro
 generalize bT .. =wv,bU .. =sp,bV .. =en,bW .. =w,cj .. =s,ck .. =va,cm .. =ra,cp .. =rk
 apply aQ;intro
 generalize bT .. =rb,bU .. =rl,bV .. =k,bW .. =place,cj .. =isEnd,ck .. =pen,cm .. =sort,cp .. =bad
 apply aO;intro
 generalize bL .. =sf,bM .. =lI,bQ .. =vM,bR .. =r
 apply aM;intro
 generalize bI .. =Q,bJ .. =E
 intro hT ha sg hw hp hs h1 hm
 apply aI;intro
 generalize nx .. =N
 intro hN
 obtain⟨vk,gk,ak⟩:=hs.k
 obtain⟨es,gb,ab⟩:=hs.b
 refine .or (fun z=> ?_) fun z1 z2=> ?_
 ·have c:gZ bad pen=true:=by simpa [gZ] using z
  rw[c] at hN
  have r1:Pre H (H++[.list []]):=⟨_,rfl⟩
  have r2:Pre H (H++[.list []]++[.aW []]):=r1.app _
  have XU:=fun H' (p:Pre H H')=>hN H' (hp.trans p) (hs.pre p)
  have ek:=ak.isEmpty
  have eb:=ab.isEmpty
  have fin:∀{H':aa} {b:Bool},Pre H H'→b=yv T s (decide (k+1=va.length))→N (TL tv sp ra isEnd place pen sort en st rk rb rl k wv (sf::lI::some (.int bad)::vM::some (.bool b)::r)) H':=fun p e=>by rw[e];exact XU _ p
  refine .of (hT.last.pre hp ns) (yS (fun a=>vL (r1.get gk) aX (fun b=>D5 (r2.get gb) aX (fun c=>.of ((hp.trans r2).get ha) (.of (by exact cE sg rfl) (fin r2 ?_))) fun c=>fin r2 ?_) fun b=>fin r1 ?_) fun a=>fin (.refl _) ?_)
  ·rw[yv,a,←ek,b,←eb,c,Bool.true_and,Bool.true_and,Bool.true_and]
   exact decide_eq_decide.mpr (by exact QD)
  ·rw[yv,←eb,c,Bool.false_and,Bool.and_false,Bool.and_false]
  ·rw[yv,←ek,b,Bool.false_and,Bool.and_false]
  ·rw[yv,a,Bool.false_and]
 ·have c:gZ bad pen=false:=by rw[gZ,decide_eq_false z1,decide_eq_false z2];rfl
  rw[c] at hN
  exact .of gk (.of gk (.of (by rw[ak.length];exact cE hm rfl) (hN _ (hp.set h1) (hs.push gk ak hw))))
theorem D6{T:eY}{tv st wv sp en:PV}{w:Wy}{ra rk rb rl k place:Nat}{isEnd rs:Bool}{pen sort bad fit:Int}{sf lI nA:Option PV}{r:List (Option PV)}{Q:QL}{E:EL}{a0 a1 a3 a4 a5:PV}{so:Int}
  (hT:fW H st T.S) (hf:Aq H wv 48 (.int w.fit)) (OT:Aq H wv 46 (.tup [a0,a1,.int so,a3,a4,a5])) (uk: -10000≤pen∧pen≤10000)
  {N:Loc→aa→Prop} (hN:∀nA,N (TL tv sp ra isEnd place pen sort en st rk rb rl k wv (sf::lI::some (.int bad)::some (.int fit)::some (.bool rs)::some (.int (if rs=true then w.cQ else w.cQ+(lj T.S bad pen+ll T.S (decide (sort=1) && decide (so=1)) isEnd (fY (fit - w.fit)))))::nA::r)) H):
  wS (aP ns) (aj (aP ns) (n+1)) (ff yx 7) (TL tv sp ra isEnd place pen sort en st rk rb rl k wv (sf::lI::some (.int bad)::some (.int fit)::some (.bool rs)::some (.int w.cQ)::nA::r)) H (mn Q N) E:=by
 have hp:pen.natAbs<2 ^ 64:=by exact pF uk rfl rfl
 cases rs with
 |true=>exact hN _
 |false=>
  have hN:∀t,t=(decide (sort=1) && decide (so=1))→N (TL tv sp ra isEnd place pen sort en st rk rb rl k wv (sf::lI::some (.int bad)::some (.int fit)::some (.bool false)::some (.int (w.cQ+(lj T.S bad pen+ll T.S t isEnd (fY (fit - w.fit)))))::some (.bool t)::r)) H:=fun t e=>by rw[e];exact hN _
  refine .of (fun z=>.of (OT ns) (OE hT hp (.of (hf ns) (OF hT (hN _ ?_))))) fun z=>OE hT hp (.of (hf ns) (OF hT (hN _ ?_)))
  ·rw[decide_eq_true z,Bool.true_and]
  ·rw[decide_eq_false z,Bool.false_and]
theorem D7{tv st wv sp en:PV}{w:Wy}{s:eU}{ra rk rb rl k place:Nat}{isEnd:Bool}{pen sort cQ g fit line:Int}{lI um uo nA:Option PV}{es:List (Int×PV)}{Q:QL}{E:EL}
  (hw:dy H₀ rows wv w) (hp:Pre H₀ H) (hs:rZ H₀ H rows rk rb rl s) (j8:rb≠rl) (h2:H₀.length≤rb) (h3:H₀.length≤rl) (hb:s.best.length<1000) (hl:s.least.length<1000) (gb:H[rb]? =some (.aW es)) (ab:bu (nv H₀ rows) es s.best)
  (hq:∀H',Pre H₀ H'→rZ H₀ H' rows rk rb rl (jh g fit ⟨cQ,w,line⟩ s)→Q .next (TL tv sp ra isEnd place pen sort en st rk rb rl k wv [some (.int line),lI,um,some (.int fit),uo,some (.int cQ),nA,some (.int g),some ((eE (4 * g+fit) es).getD .none)]) H'):
  wSs (aP ns) (aj (aP ns) n) (.cons (ff yx 10) .nil) (TL tv sp ra isEnd place pen sort en st rk rb rl k wv [some (.int line),lI,um,some (.int fit),uo,some (.int cQ),nA,some (.int g),some ((eE (4 * g+fit) es).getD .none)]) H Q E:=by
 revert ns n H₀ H rows tv st wv sp en w s ra rk rb rl k place isEnd pen sort cQ g fit line lI um uo nA es Q E
 apply aQ;intro
 generalize bT .. =ns,bU .. =n,bV .. =H₀,bW .. =H,cj .. =rows,ck .. =tv,cm .. =st,cp .. =wv
 apply aQ;intro
 generalize bT .. =sp,bU .. =en,bV .. =w,bW .. =s,cj .. =ra,ck .. =rk,cm .. =rb,cp .. =rl
 apply aQ;intro
 generalize bT .. =k,bU .. =place,bV .. =isEnd,bW .. =pen,cj .. =sort,ck .. =cQ,cm .. =g,cp .. =fit
 apply aQ;intro
 generalize bT .. =line,bU .. =lI,bV .. =um,bW .. =uo,cj .. =nA,ck .. =es,cm .. =Q,cp .. =E
 intro hw hp hs j8 h2 h3 hb hl gb ab hq
 have lr:=sd (4 * g+fit) ab
 have lb:es.length=s.best.length:=ab.length
 obtain⟨n1,n2⟩:=hs.set
 have four:(4:Int).natAbs<2 ^ 64∨g.natAbs<2 ^ 64:=.inl (by decide)
 have ER:∀{o},(H.set rb o)[rl]? =some (.aW (s.least.map fun p=>(p.1,.int p.2))):=(bz j8).trans hs.l
 generalize hv:(eE (4 * g+fit) es).getD .none=v at hq ⊢
 have yes:vK ⟨cQ,w,line⟩ (cH (4 * g+fit) s.best)=true→wSs (aP ns) (aj (aP ns) n) (match ff yx 10 with|.ite _ a _=>a|_=>.nil) (TL tv sp ra isEnd place pen sort en st rk rb rl k wv [some (.int line),lI,um,some (.int fit),uo,some (.int cQ),nA,some (.int g),some v]) H Q E:=fun z=>by
  have hq:=fun H' p q=>hq H' p (by rw[jh,if_pos z];exact q)
  have e2:((eE g (s.least.map fun p=>(p.1,PV.int p.2))).getD (.int cQ))=.int ((cH g s.least).getD cQ):=by
   rw[Bq];cases cH g s.least<;>rfl
  refine .of four (.of gb (.of (by exact lt_of_eq_of_lt lb hb) (.of ER (.of ER ?_))))
  dsimp only
  rw[e2]
  refine .of ER (.of (by rw[List.length_map];exact hl) (hq _ ((hp.set h2).set h3) ⟨?_,⟨_,(bz j8.symm).trans (getset gb),D4 (4 * g+fit) (b:=⟨cQ,w,line⟩) hw ab⟩,?_⟩))
  ·obtain⟨vk,gk,ak⟩:=hs.k
   exact⟨vk,by rw[bz n2.symm,bz n1.symm];exact gk,ak⟩
  ·refine(getset ER).trans ?_
   show some (aF.aW (oh g (.int (fD cQ ((cH g s.least).getD cQ))) _))=_
   rw[Fi]
 have no:vK ⟨cQ,w,line⟩ (cH (4 * g+fit) s.best)=false→Q .next (TL tv sp ra isEnd place pen sort en st rk rb rl k wv [some (.int line),lI,um,some (.int fit),uo,some (.int cQ),nA,some (.int g),some v]) H:=fun z=>by
  refine hq H hp ?_
  rw[jh,if_neg (by rw[z];decide)];exact hs
 cases MW:cH (4 * g+fit) s.best with
 |none=>
  rw[MW] at lr yes
  rw[lr] at hv
  cases hv
  exact yes rfl
 |some b=>
  rw[MW] at lr yes no
  obtain⟨u,e,_⟩:=lr
  rw[e] at hv
  cases hv
  exact .of (fun z=>yes (decide_eq_true z)) fun z=>no (decide_eq_false z)
theorem turn{T:eY}{tv st wv sp:PV}{w:Wy}{s:eU}{va:List PV}{ra rk rb rl k place:Nat}{isEnd:Bool}{pen sort:Int}{en bg:Sm}{sf lI um vM uo D8 nA Bt Bu:Option PV}
  {Q:QL} {E:EL}
  (hT:Ho H₀ tv st T) (ha:H₀[ra]? =some (.list va)) (sg:va.length<60) (hw:dy H₀ rows wv w) (hm:s.small k) (hk:k<va.length)
  (hf:∀i∈w.path,∃r,rows[i]? =some r∧r.start≤place) (hp:Pre H₀ H) (hs:rZ H₀ H rows rk rb rl s) (j8:rb≠rl) (h1:H₀.length≤rk) (h2:H₀.length≤rb) (h3:H₀.length≤rl)
  (Vu:0≤w.line) (P1:w.line≤1000) (uk: -10000≤pen∧pen≤10000) (hb:∀b,b=(Sm.line (Bp (rows.map Row.core) w) en T.g)→b.b<1073741824∧b.f<1073741824)
  (hq:∀f H' OU Vv Vw Vx Vy OV Vz VA VB,(f=.next∨f=.cont)→Pre H₀ H'→rZ H₀ H' rows rk rb rl (fE T (rows.map Row.core) ⟨pen,sort,bg,en⟩ isEnd va.length k w s)→
   Q f (TL tv sp ra isEnd place pen sort en.pv st rk rb rl k wv [OU,Vv,Vw,Vx,Vy,OV,Vz,VA,VB]) H'):
  wSs (aP ns) (aj (aP ns) (n+3)) yx (TL tv sp ra isEnd place pen sort en.pv st rk rb rl k wv [sf,lI,um,vM,uo,D8,nA,Bt,Bu]) H Q E:=by
 revert ns n H₀ H rows T tv st wv sp w s va ra rk rb rl k place isEnd pen sort en bg sf lI um vM uo D8 nA Bt Bu Q E
 apply aQ;intro
 generalize bT .. =ns,bU .. =n,bV .. =H₀,bW .. =H,cj .. =rows,ck .. =T,cm .. =tv,cp .. =st
 apply aQ;intro
 generalize bT .. =wv,bU .. =sp,bV .. =w,bW .. =s,cj .. =va,ck .. =ra,cm .. =rk,cp .. =rb
 apply aQ;intro
 generalize bT .. =rl,bU .. =k,bV .. =place,bW .. =isEnd,cj .. =pen,ck .. =sort,cm .. =en,cp .. =bg
 apply aQ;intro
 generalize bT .. =sf,bU .. =lI,bV .. =um,bW .. =vM,cj .. =uo,ck .. =D8,cm .. =nA,cp .. =Bt
 apply aM;intro
 generalize bI .. =Bu,bJ .. =Q
 apply aI;intro
 generalize nx .. =E
 intro hT ha sg hw hm hk hf hp hs j8 h1 h2 h3 Vu P1 uk hb hq
 obtain⟨a0,a1,a5,Zq,OT,iN⟩:=yw rows w place hf
 have SY:=hw.chain.SX
 rw[OT] at SY
 obtain⟨sh,XW,Hp⟩:=hT.sh
 obtain⟨Hq,OW⟩:=hb _ rfl
 obtain⟨m1,m2,m3⟩:=hm
 have OX:=SY.pre hp ns
 refine .of (hw.line.pre hp ns) (.of OX (.neg (by exact Int.not_lt_of_ge (Int.ofNat_le.mpr iN)) (.of OX (.of (hT.g.pre hp ns) (Sz fun J=> ?_)))))
 have p1:=hp.app J
 have SG:=hs.pre (Pre.app J (.refl _))
 refine .of (XW.pre p1 ns) (.of (Br (Hp.pre p1)) (SV (Hp.pre p1) (by exact Int.le_add_of_nonneg_left Vu) (by exact qF (Int.add_le_add_right P1 1) rfl) fun x=>Sy Hq OW ?_))
 have xR:rS (T.dA.vJ (w.line+1)) (Sm.line (Bp (rows.map Row.core) w) en T.g)=qr T (rows.map Row.core) ⟨pen,sort,bg,en⟩ w:=rfl
 rw[xR]
 have si:∀bf,bf=qr T (rows.map Row.core) ⟨pen,sort,bg,en⟩ w→fE T (rows.map Row.core) ⟨pen,sort,bg,en⟩ isEnd va.length k w s=
   if T.most<bf.1∧(gZ bf.1 pen && yv T s (decide (k+1=va.length)))=false then⟨if gZ bf.1 pen then s.kept else s.kept++[w],s.best,s.least⟩
   else jh (fD (w.line+1) (T.apart+1)) bf.2 ⟨if(gZ bf.1 pen && yv T s (decide (k+1=va.length))) then w.cQ else w.cQ+(lj T.S bf.1 pen+ll T.S (decide (sort=1) && decide (pb (rows.map Row.core) w=1)) isEnd (fY (bf.2 - w.fit))),w,w.line+1⟩ ⟨if gZ bf.1 pen then s.kept else s.kept++[w],s.best,s.least⟩:=by
  rintro _ rfl;rfl
 generalize qr T (rows.map Row.core) ⟨pen,sort,bg,en⟩ w=bf at si ⊢
 replace si:=si _ rfl
 obtain⟨bad,fit⟩:=bf
 rw[si] at hq
 clear si xR
 dsimp only at hq
 refine Fc ?_
 refine lG (fun _:aa=>TL tv sp ra isEnd place pen sort en.pv st rk rb rl k wv (some (.int (w.line+1))::some (Sm.line (Bp (rows.map Row.core) w) en T.g).pv::some (.int bad)::some (.int fit)::some (.bool (gZ bad pen && yv T s (decide (k+1=va.length))))::[D8,nA,Bt,Bu])) (fun H=>H) (fun H'=>Pre H₀ H'∧rZ H₀ H' rows rk rb rl ⟨if gZ bad pen then s.kept else s.kept++[w],s.best,s.least⟩) (fun N hN=>Bs hT ha sg hw p1 SG h1 (by exact cE (Nat.lt_of_le_of_lt m1 (Nat.lt_trans hk sg)) rfl) fun H' a b=>hN H' ⟨a,b⟩) ?_
 rintro H2 ⟨p2,ID⟩
 generalize (gZ bad pen && yv T s (decide (k+1=va.length)))=rs at hq ⊢
 generalize (if gZ bad pen=true then s.kept else s.kept++[w])=kept at hq ID
 by_cases IB:T.most<bad∧rs=false
 ·rw[if_pos IB] at hq
  obtain⟨z,rfl⟩:=IB
  exact .of (hT.most.pre p2 ns) (.pos z (hq .cont H2 _ _ _ _ _ _ _ _ _ (.inr rfl) p2 ID))
 rw[if_neg IB] at hq
 have go:wSs (aP ns) (aj (aP ns) (n+3)) (iV yx 6) (TL tv sp ra isEnd place pen sort en.pv st rk rb rl k wv (some (.int (w.line+1))::some (Sm.line (Bp (rows.map Row.core) w) en T.g).pv::some (.int bad)::some (.int fit)::some (.bool rs)::[D8,nA,Bt,Bu])) H2 Q E:=by
  refine .of (hw.cQ.pre p2 ns) ?_
  refine lG (fun nA:Option PV=>TL tv sp ra isEnd place pen sort en.pv st rk rb rl k wv (some (.int (w.line+1))::some (Sm.line (Bp (rows.map Row.core) w) en T.g).pv::some (.int bad)::some (.int fit)::some (.bool rs)::some (.int (if rs=true then w.cQ else w.cQ+(lj T.S bad pen+ll T.S (decide (sort=1) && decide (pb (rows.map Row.core) w=1)) isEnd (fY (fit - w.fit)))))::nA::[Bt,Bu])) (fun _=>H2) (fun _=>True) (fun N hN=>D6 (hT.set.pre p2) (hw.fit.pre p2) (SY.pre p2) uk fun y=>hN y trivial) fun XX _=> ?_
  generalize (if rs=true then w.cQ else w.cQ+(lj T.S bad pen+ll T.S (decide (sort=1) && decide (pb (rows.map Row.core) w=1)) isEnd (fY (fit - w.fit))))=cQ at hq ⊢
  refine .of (hT.apart.pre p2 ns) ?_
  obtain⟨es,gb,ab⟩:=ID.b
  refine .of gb (.of (.inl (by decide)) (.of gb ?_))
  exact D7 hw p2 ID j8 h2 h3 (Nat.lt_of_le_of_lt m2 (by exact cE (Nat.lt_trans hk sg) rfl)) (Nat.lt_of_le_of_lt m3 (by exact cE (Nat.lt_trans hk sg) rfl)) gb ab fun H' p q=>hq .next H' _ _ _ _ _ _ _ _ _ (.inl rfl) p q
 refine .of (hT.most.pre p2 ns) (.of (fun z=> ?_) fun z=>go)
 cases rs with
 |true=>exact go
 |false=>exact absurd ⟨z,rfl⟩ IB
end
section
variable {ns:List Int}{n:Nat}{H:aa}{R:PV→aa→Prop}{E:XK→aa→Prop}
theorem OY{a b c d e:PV}(k:R (.ref H.length) (H++[.inst 585 [(46,a),(47,b),(48,c),(49,d),(50,e)]])):Wc (cC (aP ns) (aj (aP ns) (n+1)) 585 [a,b,c,d,e] H) R E:=
 make rfl (aT rfl rfl (aB (aB (aB (aB (aB k))))))
noncomputable def uq(w st so sh bN:Int):List (Nat×PV):=[(0,.int w),(1,.int st),(2,.int (if st=0 then 0 else so)),(3,.int sh),(4,.int (if sh=0 then 0 else bN))]
theorem S0{w st so sh bN:Int}(hw:Dm w)(iN:Dm st)(Hp:Dm sh)(h1:0≤so∧so≤3)(h2:0≤bN∧bN≤3)(k:R (.ref H.length) (H++[.inst 227 (uq w st so sh bN)])):
  Wc (cC (aP ns) (aj (aP ns) (n+3)) 227 [.int w,.int st,.int so,.int sh,.int bN] H) R E:=by
 have k':∀x y:Int,x=(if st=0 then 0 else so)→y=(if sh=0 then 0 else bN)→R (.ref H.length) (H++[.inst 227 [(0,.int w),(1,.int st),(2,.int x),(3,.int sh),(4,.int y)]]):=by rintro _ _ rfl rfl;exact k
 refine make rfl (o9 rfl rfl (kA h1.1 h1.2 (kA h2.1 h2.2 (dH hw (aB (dH iN (aB (.of (fun a=>aB (dH Hp (aB (.of (fun b=> ?_) fun b=> ?_)))) fun a=>aB (dH Hp (aB (.of (fun b=> ?_) fun b=> ?_)))))))))))
 ·exact aB (k' 0 0 (if_pos a).symm (if_pos b).symm)
 ·exact aB (k' 0 bN (if_pos a).symm (if_neg b).symm)
 ·exact aB (k' so 0 (if_neg a).symm (if_pos b).symm)
 ·exact aB (k' so bN (if_neg a).symm (if_neg b).symm)
end
noncomputable def fQ(T:eY)(cs:List Core)(c:Core)(isEnd:Bool)(len:Nat):Nat→List Wy→eU→eU
 |_,[],s=>s
 |k,w::r,s=>fQ T cs c isEnd len (k+1) r (fE T cs c isEnd len k w s)
theorem D9{T:eY}{cs:List Core}{c:Core}{isEnd:Bool}{len k:Nat}{w:Wy}{r:List Wy}{s:eU}:fQ T cs c isEnd len k (w::r) s=fQ T cs c isEnd len (k+1) r (fE T cs c isEnd len k w s):=rfl
theorem Ea{T:eY}{cs:List Core}{c:Core}{isEnd:Bool}{len k:Nat}{s:eU}:fQ T cs c isEnd len k [] s=s:=rfl
noncomputable def lJ(T:eY)(j:Nat)(s:eU)(key:Int):List Wy:=match cH key s.best,cH (key.fdiv 4) s.least with
 |some b,some m=>if b.cQ≤m+fY T.S.qE then [⟨j::b.way.path,b.line,key.fmod 4,b.cQ⟩] else []
 |_,_=>[]
theorem vN{Q:List Wy→Prop}{T:eY}{j:Nat}{s:eU}{key:Int}(h0:Q [])(h1:∀b m,cH key s.best=some b→cH (key.fdiv 4) s.least=some m→Q (if b.cQ≤m+fY T.S.qE then [⟨j::b.way.path,b.line,key.fmod 4,b.cQ⟩] else [])):Q (lJ T j s key):=by
 unfold lJ
 cases e:cH key s.best with
 |none=>exact h0
 |some b=>
  cases k:cH (key.fdiv 4) s.least with
  |none=>exact h0
  |some m=>exact h1 b m e k
noncomputable def pClose(T:eY)(j:Nat)(s:eU):List Wy:=s.kept++(bZ (s.best.map (·.1))).flatMap (lJ T j s)
noncomputable def gx(T:eY)(cs:List Core)(j:Nat)(c:Core)(isEnd:Bool)(bY:List Wy):List Wy:=pClose T j (fQ T cs c isEnd bY.length 0 bY ⟨[],[],[]⟩)
theorem kF{α:Type}{k:Int}{v:α}:∀{l:List (Int×α)},cH k l=some v→(k,v)∈l
 |(j,u)::r,h=>by
  rw[gM] at h
  split at h
  ·rename_i e;cases h;subst e;exact List.mem_cons_self ..
  ·exact List.mem_cons_of_mem _ (kF h)
theorem kG{α:Type}{k:Int}:∀{l:List (Int×α)},k∈l.map (·.1)→∃v,cH k l=some v
 |[],h=>by simp at h
 |(j,u)::r,h=>by
  rw[gM]
  by_cases e:j=k
  ·exact⟨u,if_pos e⟩
  ·rw[if_neg e]
   rw[List.map_cons,List.mem_cons] at h
   rcases h with h|h
   ·exact absurd h.symm e
   ·exact kG h
theorem fF{α:Type}(k:Int)(v:α)(i:Int):∀l:List (Int×α),cH i (putK k v l)=if k=i then some v else cH i l
 |[]=>rfl
 |(j,u)::r=>by
  rw[kE,gM]
  by_cases e:j=k
  ·rw[if_pos e,gM]
   by_cases q:k=i
   ·rw[if_pos q,if_pos (e.trans q)]
   ·have n:¬j=i:=fun z=>q (e.symm.trans z)
    rw[if_neg q,if_neg n,if_neg n]
  ·rw[if_neg e,gM]
   by_cases q:j=i
   ·rw[if_pos q,if_pos q,if_neg (fun z=>e (q.trans z.symm))]
   ·rw[if_neg q,if_neg q,fF k v i r]
theorem Eb(x y:Int)(l:List Int):y∈insertSorted x l↔y=x∨y∈l:=by
 induction l with
 |nil=>
  exact List.mem_cons
 |cons z r ih=>
  rw[eg]
  split
  ·simp
  ·simp only[List.mem_cons,ih]
   constructor
   ·rintro(h|h|h)<;>simp[h]
   ·rintro(h|h|h)<;>simp[h]
theorem nC{x:Int}{r:List Int}:bZ (x::r)=insertSorted x (bZ r):=rfl
theorem sj(y:Int)(l:List Int):y∈bZ l↔y∈l:=by
 induction l with
 |nil=>
  exact Iff.rfl
 |cons x r ih=>
  rw[nC,Eb,ih,List.mem_cons]
theorem Ec(x:Int)(l:List Int):(insertSorted x l).length=l.length+1:=by
 induction l with
 |nil=>
  exact rfl
 |cons z r ih=>
  rw[eg]
  split
  ·rfl
  ·rw[List.length_cons,List.length_cons,ih]
theorem sq(l:List Int):(bZ l).length=l.length:=by
 induction l with
 |nil=>
  exact rfl
 |cons x r ih=>
  rw[nC,Ec,ih];rfl
def eU.has(s:eU):Prop:=∀k b,cH k s.best=some b→∃m,cH (k.fdiv 4) s.least=some m
theorem gN(w:Int)(s:Sm):0≤(rS w s).2∧(rS w s).2<4:=by
 unfold rS
 split
 ·split
  ·dsimp only;split
   ·lia
   ·split<;>lia
  ·exact⟨by decide,by decide⟩
 ·split
  ·exact⟨by decide,by decide⟩
  ·dsimp only;split<;>lia
theorem lW{g f:Int}(h0:0≤f)(h4:f<4):(4 * g+f).fdiv 4=g:=by
 rw[Int.fdiv_eq_ediv_of_nonneg _ (by decide)];exact I7 h0 h4
theorem Bv{g f:Int}{b:ui}{s:eU}(h:s.has)(h0:0≤f)(h4:f<4):(jh g f b s).has:=by
 unfold jh
 split
 ·intro k b' e
  dsimp only at e ⊢
  rw[fF] at e ⊢
  by_cases q:g=k.fdiv 4
  ·rw[if_pos q];exact⟨_,rfl⟩
  ·rw[if_neg q]
   rw[if_neg (by rintro rfl;exact q (lW h0 h4).symm)] at e
   exact h k b' e
 ·exact h
theorem pd{T:eY}{cs:List Core}{c:Core}{isEnd:Bool}{len k:Nat}{w:Wy}{s:eU}(h:s.has):(fE T cs c isEnd len k w s).has:=by
 unfold fE
 dsimp only
 split
 ·exact h
 ·exact Bv h (gN _ _).1 (gN _ _).2
theorem pe{T:eY}{cs:List Core}{c:Core}{isEnd:Bool}{len:Nat}(l:List Wy):∀(k:Nat) (s:eU),s.has→(fQ T cs c isEnd len k l s).has:=by
 induction l with
 |nil=>
  exact fun _ _ h=>h
 |cons _ l ih=>
  exact fun k _ h=>ih (k+1) _ (pd h)
theorem lq{T:eY}{cs:List Core}{c:Core}{isEnd:Bool}{len:Nat}(l:List Wy):∀(k:Nat) (s:eU) (m:Nat),s.small m→(fQ T cs c isEnd len k l s).small (m+l.length):=by
 induction l with
 |nil=>
  intro _ _ _ h
  exact h
 |cons w l ih=>
  intro k s m h
  have:=ih (k+1) (fE T cs c isEnd len k w s) (m+1) (lp h)
  rw[List.length_cons,Nat.add_comm l.length 1,←Nat.add_assoc];exact this
theorem drop_cons{α:Type}{l:List α}{k:Nat}{d:α}(h:l[k]? =some d):l.drop k=d::l.drop (k+1):=by
 have z:=(List.getElem?_eq_some_iff.mp h).1
 rw[←List.getElem_cons_drop z]
 rw[List.getElem?_eq_getElem z] at h
 cases h;rfl
theorem Bw{H:aa}{rows:List Row}:∀{es:List (Int×PV)} {bs:List (Int×ui)},bu (nv H rows) es bs→es.map (·.1)=bs.map (·.1):=
 bu.el (R:=nv H rows) (P:=fun es bs=>es.map (·.1)=bs.map (·.1)) rfl fun _ _ _ _ h _ r=>by rw[List.map_cons,List.map_cons,h.1,r]
theorem ur{H:aa}{rows:List Row}{v:PV}{w:Wy}(h:dy H rows v w):∃k,v=.ref k∧fZ H rows (.ref k) w.path:=by
 obtain⟨k,e⟩:=h.ref
 subst e
 exact⟨k,rfl,h.chain⟩
section
variable {ns:List Int}{n:Nat}{H:aa}{rows:List Row}
noncomputable def S5:cx:=Be (ff CU 4)
theorem close{T:eY}{tv st sp:PV}{s:eU}{x2 x3 x4 x5 x6 x7 sf lI um vM uo D8 nA Bt Bu:Option PV}{rk rb rl j:Nat}{XY:Option PV}{row:Row}{H₀:aa}{key:Int}{es:List (Int×PV)}{vk:List PV}{L:List Wy}
  {Q:QL} {E:EL} (hS:fW H₀ st T.S) (nD:rows[j]? =some row) (OT:sp=row.pv) (hh:s.has) (hk:key∈s.best.map (·.1))
  (p:Pre H₀ H) (gk:H[rk]? =some (.list vk)) (gb:H[rb]? =some (.aW es)) (gl:H[rl]? =some (.aW (s.least.map fun p=>(p.1,.int p.2)))) (ab:bu (nv H₀ rows) es s.best) (ak:bu (dy H rows) vk L) (hl:vk.length<1000) (h1:H₀.length≤rk)
  (hq:∀nY Qj VC OU OV,Pre H₀ nY→(∀i o,i≠rk→H[i]? =some o→nY[i]? =some o)→nY[rk]? =some (.list Qj)→bu (dy nY rows) Qj (L++lJ T j s key)→Q .next [some tv,some sp,x2,x3,x4,x5,x6,x7,some st,some (.ref rk),some (.ref rb),some (.ref rl),some (.int key),VC,OU,lI,um,vM,uo,OV,nA,Bt,Bu] nY):
  wSs (aP ns) (aj (aP ns) (n+3)) S5 [some tv,some sp,x2,x3,x4,x5,x6,x7,some st,some (.ref rk),some (.ref rb),some (.ref rl),some (.int key),XY,sf,lI,um,vM,uo,D8,nA,Bt,Bu] H Q E:=by
 obtain⟨b,hb⟩:=kG hk
 have lr:=sd key ab
 rw[hb] at lr
 obtain⟨v,e,hw⟩:=lr
 obtain⟨m,hm⟩:=hh key b hb
 have S7:lJ T j s key=if b.cQ≤m+fY T.S.qE then [⟨j::b.way.path,b.line,key.fmod 4,b.cQ⟩] else []:=by
  unfold lJ;rw[hb,hm]
 rw[S7] at hq
 have el:eE (key.fdiv 4) (s.least.map fun p=>(p.1,PV.int p.2))=some (.int m):=by rw[Bq,hm];rfl
 refine .of gb (.of e (.of ⟨by decide,noPylong_small (by decide)⟩ (.of gl (.of el (.of ((hS.qE.pre p) ns) (.of (fun z=> ?_) fun z=> ?_))))))
 ·rw[if_pos (show b.cQ≤m+fY T.S.qE from z)] at hq
  let o:aF:=.inst 585 [(46,sp),(47,PV.int b.line),(48,PV.int (key.fmod 4)),(49,PV.int b.cQ),(50,v)]
  have g:(H++[o])[rk]? =some (.list vk):=(Pre.app _ (.refl H)).get gk
  have i1:rY H ((H++[o]).set rk (.list (vk++[.ref H.length]))):=(Pre.app _ (.refl H)).ins.set g (by intro c fs h;cases h)
  have nr:rk≠H.length:=Nat.ne_of_lt (List.getElem?_eq_some_iff.mp gk).1
  have gn:((H++[o]).set rk (.list (vk++[.ref H.length])))[H.length]? =some o:=(bz nr).trans aX
  refine .of gk (.of (by decide) (OY (.of g (.of (by exact cE hl rfl) (hq _ _ _ _ _ ((p.app _).set h1) (fun i x hi ho=>(bz (Ne.symm hi)).trans ((Pre.app _ (.refl H)).get ho)) (getset g) ((ak.mono fun _ _ h=>h.ins i1).append ⟨?_,trivial⟩))))))
  obtain⟨k0,rfl,ch⟩:=ur hw
  have S8:sp=da rows (j::b.way.path):=by rw[OT];simp[da,nD]
  exact⟨⟨_,rfl⟩,aA gn rfl rfl,aA gn rfl rfl,aA gn rfl rfl,⟨aA gn rfl (by rw[←S8];rfl),k0,aA gn rfl rfl,ch.ins (p.ins.trans i1)⟩⟩
 ·rw[if_neg (show ¬b.cQ≤m+fY T.S.qE from z),List.append_nil] at hq
  exact hq H vk _ _ _ p (fun _ _ _ h=>h) gk ak
end
section
variable {ns:List Int}{n:Nat}{H:aa}{rows:List Row}{R:PV→aa→Prop}{E:XK→aa→Prop}
theorem su(T:eY)(j:Nat)(s:eU)(key:Int):(lJ T j s key).length≤1:=by
 revert T j s key
 apply aO;intro
 generalize bL .. =T,bM .. =j,bQ .. =s,bR .. =key
 refine vN (Q:=fun l=>l.length≤1) (Nat.zero_le _) fun b m _ _=> ?_
 split
 ·exact Nat.le_refl _
 ·exact Nat.zero_le _
structure VD(rows:List Row)(T:eY)(row:Row)(w:Wy):Prop where
 path:∀i∈w.path,∃r,rows[i]? =some r∧r.start≤row.place
 l0:0≤w.line
 l1:w.line≤1000
 sm:∀b,b=(Sm.line (Bp (rows.map Row.core) w) row.en T.g)→b.b<1073741824∧b.f<1073741824
structure Qk where
 H:aa
 s:eU
 (a b c d e f g h i j k:Option PV)
instance:Nonempty Qk:=⟨⟨[],⟨[],[],[]⟩,none,none,none,none,none,none,none,none,none,none,none⟩⟩
structure XZ(H:aa)(rows:List Row)(T:eY)(core:Core)(isEnd:Bool)(len:Nat)(bY:List Wy)(fin:eU)(k:Nat)(z:Qk):Prop where
 pre:Pre H z.H
 st:rZ H z.H rows H.length (H.length+1) (H.length+2) z.s
 small:z.s.small k
 go:fQ T (rows.map Row.core) core isEnd len k (bY.drop k) z.s=fin
structure X3(H:aa)(rows:List Row)(T:eY)(j:Nat)(fin:eU)(es:List (Int×PV))(keys:List Int)(rs len:Nat)(k:Nat)(z:Qk):Prop where
 pre:Pre H z.H
 src:z.H[rs]? =some (.list (keys.map .int))
 b:z.H[H.length+1]? =some (.aW es)
 l:z.H[H.length+2]? =some (.aW (fin.least.map fun p=>(p.1,.int p.2)))
 at_:∃vk,z.H[H.length]? =some (.list vk)∧bu (dy z.H rows) vk (fin.kept++(keys.take k).flatMap (lJ T j fin))∧vk.length≤len+k
def OZ(H:aa)(rows:List Row)(l:List Wy)(p:Nat×List PV)(H':aa)(C:Prop):Prop:=Pre H H'→H'[p.1]? =some (.list p.2)→bu (dy H' rows) p.2 l→C
noncomputable def S9(tv:PV)(row:Row)(ra:Nat)(isEnd:Bool)(st:PV)(r0 r1 r2:Nat)(z:Qk):Loc:=[some tv,some row.pv,some (.ref ra),some (.bool isEnd),some (.int row.place),some (.int row.pen),some (.int row.sort),some row.en.pv,some st,some (.ref r0),some (.ref r1),some (.ref r2),z.a,z.b,z.c,z.d,z.e,z.f,z.g,z.h,z.i,z.j,z.k]
theorem Ta{T:eY}{tv st:PV}{row:Row}{bY:List Wy}{va:List PV}{ra j:Nat}{isEnd:Bool}
  (hT:Ho H tv st T) (ha:H[ra]? =some (.list va)) (sg:va.length<60) (hA:bu (dy H rows) va bY) (nD:rows[j]? =some row)
  (VE:∀w∈bY,VD rows T row w) (uk: -10000≤row.pen∧row.pen≤10000) (k:Kt (fun p:Nat×List PV=>.ref p.1) (OZ H rows (gx T (rows.map Row.core) j row.core isEnd bY)) R):
  Wc (aj (aP ns) (n+4) 713 [tv,row.pv,.ref ra,.bool isEnd] H) R E:=by
 revert ns n H rows R E T tv st row bY va ra j isEnd
 apply aQ;intro
 generalize bT .. =ns,bU .. =n,bV .. =H,bW .. =rows,cj .. =R,ck .. =E,cm .. =T,cp .. =tv
 apply aO;intro
 generalize bL .. =st,bM .. =row,bQ .. =bY,bR .. =va
 apply aM;intro
 generalize bI .. =ra,bJ .. =j
 apply aI;intro
 generalize nx .. =isEnd
 intro hT ha sg hA nD VE uk k
 have k:=kt k
 have hlen:=hA.length
 have c1:Pre H (H++[aF.list []]):=(Pre.refl H).app _
 have c2:=c1.app [aF.aW []]
 have c3:=c2.app [aF.aW []]
 have l1:(H++[aF.list []]).length=H.length+1:=by simp
 have l2:(H++[aF.list []]++[aF.aW []]).length=H.length+2:=by simp
 have X4:(H++[aF.list []]++[aF.aW []]++[aF.aW []])[H.length]? =some (.list []):=(Pre.app [aF.aW []] (Pre.app [aF.aW []] (Pre.refl _))).get aX
 have X5:(H++[aF.list []]++[aF.aW []]++[aF.aW []])[H.length+1]? =some (.aW []):=(Pre.app [aF.aW []] (Pre.refl _)).get (by rw[←l1];exact aX)
 have X6:(H++[aF.list []]++[aF.aW []]++[aF.aW []])[H.length+2]? =some (.aW []):=by rw[←l2];exact aX
 generalize yy:fQ T (rows.map Row.core) row.core isEnd va.length 0 bY ⟨[],[],[]⟩=fin
 have hw:gx T (rows.map Row.core) j row.core isEnd bY=pClose T j fin:=by unfold gx;rw[←hlen,yy]
 rw[hw] at k
 have Tb:fin.has:=by rw[←yy];exact pe _ _ _ (fun k b e=>by cases e)
 have Tc:fin.small va.length:=by
  have:=lq (T:=T) (cs:=rows.map Row.core) (c:=row.core) (isEnd:=isEnd) (len:=va.length) bY 0 ⟨[],[],[]⟩ 0 ⟨Nat.le_refl _,Nat.le_refl _,Nat.le_refl _⟩
  rw[yy,←hlen,Nat.zero_add] at this;exact this
 refine aT rfl rfl (.of (hT.at_ ns) ?_)
 refine Fc ?_
 show wSs _ _ _ [some tv,some row.pv,some (.ref ra),some (.bool isEnd),some (.int row.place),some (.int row.pen),some (.int row.sort),some row.en.pv,some st,some (.ref H.length),some (.ref (H++[aF.list []]).length),some (.ref (H++[aF.list []]++[aF.aW []]).length),none,none,none,none,none,none,none,none,none,none,none] _ _ _
 rw[l1,l2]
 refine cut (S9 tv row ra isEnd st H.length (H.length+1) (H.length+2)) (fun z=>z.H) (fun z=>Pre H z.H∧rZ H z.H rows H.length (H.length+1) (H.length+2) fin) (fun N hN=>.of (c3.get ha) (.of (by exact cE sg rfl) ?_)) ?_
 ·refine vE (fun _=>S9 tv row ra isEnd st H.length (H.length+1) (H.length+2)) (fun _ z=>z.H) (XZ H rows T row.core isEnd va.length bY fin) ⟨_,⟨[],[],[]⟩,none,none,none,none,none,none,none,none,none,none,none⟩ va ⟨c3,⟨⟨[],X4,trivial⟩,⟨[],X5,trivial⟩,X6⟩,⟨Nat.le_refl _,Nat.le_refl _,Nat.le_refl _⟩,by rw[List.drop_zero];exact yy⟩ (fun k z j=>j.pre.get ha) (fun k z v i hv=> ?_) fun z i=>hN z ⟨i.pre,?_⟩
  ·have hk:=(List.getElem?_eq_some_iff.mp hv).1
   have hw:bY[k]? =some _:=List.getElem?_eq_getElem (by rw[←hlen];exact hk)
   obtain⟨u,hu,ru⟩:=hA.get hw
   cases hv.symm.trans hu
   have ok:=VE _ (List.mem_of_getElem? hw)
   have he:=i.go
   rw[drop_cons hw,D9] at he
   refine turn (n:=n) (bg:=row.bg) (H₀:=H) hT ha sg ru i.small hk ok.path i.pre i.st (Nat.ne_of_lt (Nat.lt_succ_self _)) (Nat.le_refl _) (Nat.le_succ _) (Nat.le_add_right _ 2) ok.l0 ok.l1 uk ok.sm fun f H' OU Vv Vw Vx Vy OV Vz VA VB hf p' vg=> ?_
   rcases hf with rfl|rfl<;>exact⟨⟨H',_,_,_,_,_,_,_,_,_,_,_,_⟩,rfl,rfl,p',vg,lp i.small,he⟩
  ·have e:=i.go
   rw[hlen,List.drop_length,Ea] at e
   rw[←e];exact i.st
 rintro⟨H2,_,X7,X8,sf,lI,um,vM,uo,D8,nA,Bt,Bu⟩ ⟨p2,hs⟩
 obtain⟨vk,gk,ak⟩:=hs.k
 obtain⟨es,gb,ab⟩:=hs.b
 have gl:=hs.l
 have ek:=Bw ab
 obtain⟨m1,m2,m3⟩:=Tc
 have lk:vk.length=fin.kept.length:=ak.length
 have lb:es.length=fin.best.length:=ab.length
 obtain⟨keys,vO⟩:∃keys,keys=bZ (fin.best.map (·.1)):=⟨_,rfl⟩
 have Fj:keys.length=fin.best.length:=by rw[vO,sq,List.length_map]
 have O0:(H2++[aF.list ((bZ (es.map (·.1))).map .int)])[H2.length]? =some (.list (keys.map .int)):=by rw[ek,←vO];exact aX
 have q0:Pre H2 (H2++[aF.list ((bZ (es.map (·.1))).map .int)]):=Pre.app _ (.refl _)
 have lt:(keys.map PV.int).length<100000:=by rw[List.length_map];exact Cp sg m2 Fj rfl
 refine .of gb (.of (by exact Cp sg m2 lb rfl) (.of O0 (.of lt ?_)))
 refine et (fun _=>S9 tv row ra isEnd st H.length (H.length+1) (H.length+2)) (fun _ z=>z.H) (X3 H rows T j fin es keys H2.length va.length) ⟨_,fin,X7,X8,sf,lI,um,vM,uo,D8,nA,Bt,Bu⟩ (keys.map .int) ⟨p2.trans q0,O0,q0.get gb,q0.get gl,vk,q0.get gk,by rw[List.take_zero,List.flatMap_nil,List.append_nil];exact ak.mono fun _ _ h=>h.ins (p2.trans q0).ins,by exact Nat.le_trans (Nat.le_of_eq lk) m1⟩ (fun k z j=>j.src) (fun k z v i hv=> ?_) fun z i=> ?_
 ·obtain⟨key,Hr,rfl⟩:∃key,keys[k]? =some key∧PV.int key=v:=by rw[List.getElem?_map] at hv;exact Option.map_eq_some_iff.mp hv
  have hm:key∈fin.best.map (·.1):=by rw[←sj,←vO];exact List.mem_of_getElem? Hr
  obtain⟨vk,gk,ak,Td⟩:=i.at_
  have hk:=(List.getElem?_eq_some_iff.mp Hr).1
  have f2:H.length+2<H2.length:=(List.getElem?_eq_some_iff.mp gl).1
  refine close (n:=n) (H₀:=H) (L:=fin.kept++(keys.take k).flatMap (lJ T j fin)) hT.set nD rfl Tb hm i.pre gk i.b i.l ab ak (by exact I9 sg m2 Fj Td hk) (Nat.le_refl _) fun nY Qj VC OU OV p' keep X9 Ro=>⟨⟨nY,fin,_,_,_,_,_,_,_,_,_,_,_⟩,rfl,rfl,p',keep _ _ (by exact Nat.ne_of_gt (Nat.lt_of_le_of_lt (Nat.le_add_right _ 2) f2)) i.src,keep _ _ (by exact Nat.succ_ne_self _) i.b,keep _ _ (by lia) i.l,Qj,X9,?_,?_⟩
  ·rw[List.take_add_one,Hr,List.flatMap_append,←List.append_assoc]
   simpa using Ro
  ·have e1:=Ro.length
   have e2:=ak.length
   have:=su T j fin key
   rw[List.length_append] at e1
   exact Je Td e1 e2 this
 ·obtain⟨vk,gk,ak,Td⟩:=i.at_
  rw[List.length_map,List.take_length,vO] at ak
  exact k (_,vk) _ i.pre gk ak
end
theorem yl.ins{H H':aa}{v:PV}{g:Gl}(p:rY H H')(h:yl H v g):yl H' v g:=⟨h.w.ins p,h.st.ins p,h.so.ins p,h.sh.ins p,h.bN.ins p⟩
structure oE(H:aa)(v:PV)(S:bp)(gl gr:Gl):Prop where
 r:fW H v S
 pre:∃x,Aq H v 34 (.int x)∧-2147483647≤x∧x≤2147483647
 fh:∃x,Aq H v 35 (.int x)∧-2147483647≤x∧x≤2147483647
 Yb:∃x,Aq H v 43 (.int x)∧-1073741823≤x∧x≤1073741823
 lg:∃u,Aq H v 44 u∧yl H u gl
 rg:∃u,Aq H v 45 u∧yl H u gr
 ok:∀x∈[S.sM,S.bS,S.ex,S.qE,S.dbl,S.fin,S.loose],-100000≤x∧x≤100000
 IH:gl.bN=0∧0≤gl.so∧gl.so≤3
 Te:gr.bN=0∧0≤gr.so∧gr.so≤3
theorem oE.ins{H H':aa}{v:PV}{S:bp}{gl gr:Gl}(p:rY H H')(h:oE H v S gl gr):oE H' v S gl gr:=by
 obtain⟨⟨a1,a2,a3,a4,a5,a6,a7⟩,⟨x1,b1,c1⟩,⟨x2,b2,c2⟩,⟨x3,b3,c3⟩,⟨u1,d1,e1⟩,⟨u2,d2,e2⟩,k1,k2,k3⟩:=h
 exact⟨⟨a1.ins p,a2.ins p,a3.ins p,a4.ins p,a5.ins p,a6.ins p,a7.ins p⟩,⟨x1,b1.ins p,c1⟩,⟨x2,b2.ins p,c2⟩,⟨x3,b3.ins p,c3⟩,⟨u1,d1.ins p,e1.ins p⟩,⟨u2,d2.ins p,e2.ins p⟩,k1,k2,k3⟩
noncomputable def cV(gl gr:Gl)(extra:Int):Sm:={(gl.sm.add gr.sm) with b:=(gl.sm.add gr.sm).b+extra}
noncomputable def ey:List Wy→Wy→Wy
 |[],b=>b
 |w::r,b=>ey r (if w.cQ<b.cQ then w else b)
theorem vP{w b:Wy}{r:List Wy}:ey (w::r) b=ey r (if w.cQ<b.cQ then w else b):=rfl
theorem Ed{b:Wy}:ey [] b=b:=rfl
noncomputable def eZ(loose:Int)(base:Wy):List Wy→Wy×Int→Wy×Int
 |[],p=>p
 |w::r,p=>eZ loose base r (if((loose≤w.line - base.line∧w.line - base.line<p.2)∨(p.2<w.line - base.line∧w.line - base.line≤loose))∨(w.line - base.line=p.2∧w.cQ<p.1.cQ) then(w,w.line - base.line) else p)
theorem vQ{loose:Int}{base w:Wy}{r:List Wy}{p:Wy×Int}:eZ loose base (w::r) p=eZ loose base r (if((loose≤w.line - base.line∧w.line - base.line<p.2)∨(p.2<w.line - base.line∧w.line - base.line≤loose))∨(w.line - base.line=p.2∧w.cQ<p.1.cQ) then(w,w.line - base.line) else p):=rfl
theorem Ee{loose:Int}{base:Wy}{p:Wy×Int}:eZ loose base [] p=p:=rfl
noncomputable def gW(bK:List Wy)(w0:Wy)(loose:Int):Wy×Int:=if loose=0 then(ey bK w0,0) else eZ loose (ey bK w0) bK (ey bK w0,0)
section
variable {ns:List Int}{n:Nat}{H:aa}{rows:List Row}{R:PV→aa→Prop}{E:XK→aa→Prop}
theorem Tf{st:PV}{S:bp}{gl gr:Gl}(h:oE H st S gl gr){extra:Int}(he:Dm extra)(k:∀J,R (cV gl gr extra).pv (H++J)):Wc (aj (aP ns) (n+3) 680 [st,.int extra] H) R E:=by
 revert ns n H R E st S gl gr extra
 apply aQ;intro
 generalize bT .. =ns,bU .. =n,bV .. =H,bW .. =R,cj .. =E,ck .. =st,cm .. =S,cp .. =gl
 apply aI;intro
 generalize nx .. =gr
 intro h
 apply aI;intro
 generalize nx .. =extra
 intro he k
 obtain⟨u1,a1,g1⟩:=h.lg
 obtain⟨u2,a2,g2⟩:=h.rg
 have p1:Pre H (H++[aF.list Sm.zero.ls]):=(Pre.refl H).app _
 have i1:∀o,rY H ((H++[aF.list Sm.zero.ls]).set H.length o):=fun o=>p1.ins.set aX (by intro c fs h;cases h)
 refine aT rfl rfl (.of (by decide:6<100000) (.of ((a1.pre p1) ns) (Hk (s:=.zero) aX (g1.pre p1) h.IH.2.1 h.IH.2.2 (fun _=> ?_) fun x=>absurd h.IH.1 x)))
 rw[Sm.zero_add]
 refine .of ((a2.ins (i1 _)) ns) (Hk (s:=gl.sm) (getset aX) (g2.ins (i1 _)) h.Te.2.1 h.Te.2.2 (fun _=> ?_) fun x=>absurd h.Te.1 x)
 rw[List.set_set,nh]
 have k:=k [.list (cV gl gr extra).ls]
 exact .of aX (.of (OM (s:=gl.sm.add gr.sm) (m:=1) ⟨by decide,rfl⟩) (dH he (.of aX (.of (OL (s:=gl.sm.add gr.sm) (by decide)) (by rw[nh];exact .of aX (.of (by decide:6<100000) k))))))
theorem Tg{st:PV}{S:bp}{gl gr:Gl}(h:oE H st S gl gr)(k:R .none H):Wc (aj (aP ns) (n+3) 617 [st] H) R E:=by
 revert ns n H R E st S gl gr
 apply aQ;intro
 generalize bT .. =ns,bU .. =n,bV .. =H,bW .. =R,cj .. =E,ck .. =st,cm .. =S,cp .. =gl
 apply aI;intro
 generalize nx .. =gr
 intro h k
 obtain⟨x1,b1,c1⟩:=h.pre
 obtain⟨x2,b2,c2⟩:=h.fh
 obtain⟨x3,b3,c3⟩:=h.Yb
 have ok:∀x∈[S.sM,S.bS,S.ex,S.qE,S.dbl,S.fin,S.loose],Nm x:=fun x m=>by have:=h.ok x m;unfold Nm;exact cq this rfl rfl
 refine aT rfl rfl (.of (b1 ns) (.of (b2 ns) (.of (h.r.sM ns) (.of (h.r.bS ns) (.of (h.r.ex ns) (.of (h.r.qE ns) (.of (h.r.dbl ns) (.of (h.r.fin ns) (.of (h.r.loose ns) (.of (by decide:9<1000) ?_))))))))))
 refine qk (fun _ y=>[some st,y]) (fun _ _=>H) (fun _ _=>True) none ([x1,x2,S.sM,S.bS,S.ex,S.qE,S.dbl,S.fin,S.loose].map PV.int) trivial (fun k y v _ hv=> ?_) fun y _=>.of (b3 ns) (dH c3 k)
 obtain⟨x,hx,rfl⟩:∃x,[x1,x2,S.sM,S.bS,S.ex,S.qE,S.dbl,S.fin,S.loose][k]? =some x∧PV.int x=v:=by rw[List.getElem?_map] at hv;exact Option.map_eq_some_iff.mp hv
 have hm:Nm x:=by
  rcases List.mem_cons.mp (List.mem_of_getElem? hx) with rfl|m
  ·exact c1
  rcases List.mem_cons.mp m with rfl|m
  ·exact c2
  ·exact ok x m
 exact rR hm ⟨_,rfl,rfl,trivial⟩
noncomputable def cI(rows:List Row)(p:List Nat):List PV:=p.map fun i=>.int (((rows[i]?).map fun r=>(r.place:Int)).getD 0)
theorem Th{v:PV}{p:List Nat}(hv:∃k,v=.ref k)(h:fZ H rows v p)(hp:∀i∈p,∃r,rows[i]? =some r)(hl:p.length<1000)(k:Kt PV.ref (fun r H' C=>Pre H H'→H'[r]? =some (.list (cI rows p.reverse))→C) R):
  Wc (aj (aP ns) (n+1) 727 [v] H) R E:=by
 revert ns n H rows R E v p
 apply aQ;intro
 generalize bT .. =ns,bU .. =n,bV .. =H,bW .. =rows,cj .. =R,ck .. =E,cm .. =v,cp .. =p
 intro hv h hp hl k
 have k:=kt k
 have c1:Pre H (H++[aF.list []]):=(Pre.refl H).app _
 refine aT rfl rfl ?_
 refine Fc ?_
 refine lG (fun s:aa×PV=>[some s.2,some (.ref H.length)]) (fun s=>s.1) (fun s=>Pre H s.1∧s.1[H.length]? =some (.list (cI rows p))) (fun N hN=> ?_) fun s j=> ?_
 ·refine Bh (fun s:aa×PV×List Nat×List Nat=>[some s.2.1,some (.ref H.length)]) (fun s=>s.1) (fun s=>Pre H s.1∧p=s.2.2.1++s.2.2.2∧(∃k,s.2.1=.ref k)∧fZ H rows s.2.1 s.2.2.2∧s.1[H.length]? =some (.list (cI rows s.2.2.1))) (fun s=>s.2.2.2.length) (_,v,[],p) ⟨c1,rfl,hv,h,aX⟩ fun s j N' Ql=> ?_
  obtain⟨H',v,d,q⟩:=s
  obtain⟨pr,e,hv,ch,g⟩:=j
  dsimp only at pr e hv ch g ⊢
  cases q with
  |nil=>
   rw[List.append_nil] at e
   subst e
   exact .of ((ch.2.pre pr) ns) (hN (H',v) ⟨pr,g⟩)
  |cons i q=>
   obtain⟨yW,k,lZ,Yc⟩:=ch
   obtain⟨r,hr⟩:=hp i (by rw[e];simp)
   have hs:da rows (i::q)=r.pv:=by simp[da,hr]
   rw[hs] at yW
   have ld:(cI rows d).length<100000:=by
    unfold cI;rw[List.length_map]
    have:=congrArg List.length e
    rw[List.length_append] at this;exact cE (Nat.lt_of_le_of_lt (Nat.le_add_right _ _) (this▸hl)) rfl
   refine .of ((lZ.pre pr) ns) (.of g (.of ((yW.pre pr) ns) (.of g (.of ld (.of ((lZ.pre (pr.set (Nat.le_refl _))) ns) (Ql (_,.ref k,d++[i],q) ⟨pr.set (Nat.le_refl _),by rw[e];simp,⟨k,rfl⟩,Yc,(getset g).trans ?_⟩ (Nat.lt_succ_self _)))))))
   simp[cI,hr]
 ·have ld:(cI rows p).length<100000:=by unfold cI;rw[List.length_map];exact cE hl rfl
  refine .of j.2 (.of ld (k _ _ (j.1.app _) (aX.trans ?_)))
  simp[cI]
theorem O1{vs:List PV}{bK:List Wy}{r:Nat}{loose:Int}(g:H[r]? =some (.list vs))(a:bu (dy H rows) vs bK){b:Wy}{bv:PV}(hb:dy H rows bv b)(hl:vs.length<1000){x4 x5 x6 x7 x3:Option PV}
  {Q:QL} {E:EL} (hq:∀VF y,dy H rows VF (ey bK b)→Q .next [some (.ref r),some (.int loose),some VF,y,x4,x5,x6,x7] H):
  wS (aP ns) (aj (aP ns) n) (ff CV 1) [some (.ref r),some (.int loose),some bv,x3,x4,x5,x6,x7] H Q E:=by
 revert ns n H rows vs bK r loose b bv x4 x5 x6 x7 x3 Q E
 apply aQ;intro
 generalize bT .. =ns,bU .. =n,bV .. =H,bW .. =rows,cj .. =vs,ck .. =bK,cm .. =r,cp .. =loose
 intro g a
 apply aM;intro
 generalize bI .. =b,bJ .. =bv
 intro hb hl
 apply aO;intro
 generalize bL .. =x4,bM .. =x5,bQ .. =x6,bR .. =x7
 apply aM;intro
 generalize bI .. =x3,bJ .. =Q
 apply aI;intro
 generalize nx .. =E
 intro hq
 refine .of g (.of (Nat.lt_trans hl (by decide)) ?_)
 refine et (fun _ (s:Wy×PV×Option PV)=>[some (.ref r),some (.int loose),some s.2.1,s.2.2,x4,x5,x6,x7]) (fun _ _=>H) (fun k s=>dy H rows s.2.1 s.1∧ey (bK.drop k) s.1=ey bK b) (b,bv,x3) vs ⟨hb,rfl⟩ (fun _ _ _=>g) (?_) fun s j=> ?_
 ·apply aM;intro
  generalize bI .. =k,bJ .. =s
  apply aI;intro
  generalize nx .. =v
  intro j hv
  have hw:bK[k]? =some _:=List.getElem?_eq_getElem (by rw[←a.length];exact(List.getElem?_eq_some_iff.mp hv).1)
  obtain⟨u,hu,ru⟩:=a.get hw
  cases hv.symm.trans hu
  obtain⟨uV,he⟩:=j
  rw[drop_cons hw,vP] at he
  refine .of (ru.cQ ns) (.of (uV.cQ ns) (.of (fun z=>⟨(_,v,some v),rfl,rfl,ru,?_⟩) fun z=>⟨(_,s.2.1,some v),rfl,rfl,uV,?_⟩))
  ·rw[if_pos z] at he;exact he
  ·rw[if_neg z] at he;exact he
 ·obtain⟨uV,he⟩:=j
  rw[a.length,List.drop_length,Ed] at he
  exact hq _ _ (he▸uV)
theorem O2{vs:List PV}{bK:List Wy}{r:Nat}{loose:Int}(g:H[r]? =some (.list vs))(a:bu (dy H rows) vs bK){b f:Wy}{bv fv:PV}{ap:Int}(hb:dy H rows bv b)(hf:dy H rows fv f)(hl:vs.length<1000){x6 x7 x3:Option PV}
  {Q:QL} {E:EL} (hq:∀Qm y y6 y7,dy H rows Qm (eZ loose b bK (f,ap)).1→Q .next [some (.ref r),some (.int loose),some bv,y,some Qm,some (.int (eZ loose b bK (f,ap)).2),y6,y7] H):
  wS (aP ns) (aj (aP ns) n) (match ff CV 3 with|.ite _ a _=>ff a 0|s=>s) [some (.ref r),some (.int loose),some bv,x3,some fv,some (.int ap),x6,x7] H Q E:=by
 revert ns n H rows vs bK r loose b f bv fv ap x6 x7 x3 Q E
 apply aQ;intro
 generalize bT .. =ns,bU .. =n,bV .. =H,bW .. =rows,cj .. =vs,ck .. =bK,cm .. =r,cp .. =loose
 intro g a
 apply aO;intro
 generalize bL .. =b,bM .. =f,bQ .. =bv,bR .. =fv
 apply aI;intro
 generalize nx .. =ap
 intro hb hf hl
 apply aO;intro
 generalize bL .. =x6,bM .. =x7,bQ .. =x3,bR .. =Q
 apply aI;intro
 generalize nx .. =E
 intro hq
 refine .of g (.of (Nat.lt_trans hl (by decide)) ?_)
 refine et (fun _ (s:(Wy×Int)×PV×Option PV×Option PV×Option PV)=>[some (.ref r),some (.int loose),some bv,s.2.2.1,some s.2.1,some (.int s.1.2),s.2.2.2.1,s.2.2.2.2]) (fun _ _=>H) (fun k s=>dy H rows s.2.1 s.1.1∧eZ loose b (bK.drop k) s.1=eZ loose b bK (f,ap)) ((f,ap),fv,x3,x6,x7) vs ⟨hf,rfl⟩ (fun _ _ _=>g) (?_) ?_
 ·apply aM;intro
  generalize bI .. =k,bJ .. =s
  intro v j hv
  have hw:bK[k]? =some _:=List.getElem?_eq_getElem (by rw[←a.length];exact(List.getElem?_eq_some_iff.mp hv).1)
  obtain⟨u,hu,ru⟩:=a.get hw
  cases hv.symm.trans hu
  obtain⟨⟨f',Ci⟩,Qm,y,y6,y7⟩:=s
  obtain⟨Qn,he⟩:=j
  rw[drop_cons hw,vQ] at he
  generalize bK[k]'_=w at *
  dsimp only at he Qn ⊢
  refine .of (ru.line ns) (.of (hb.line ns) ?_)
  refine lG (fun t:Bool=>[some (.ref r),some (.int loose),some bv,some v,some Qm,some (.int Ci),some (.int (w.line - b.line)),some (.bool t)]) (fun _=>H) (fun t=>t=decide ((loose≤w.line - b.line∧w.line - b.line<Ci)∨(Ci<w.line - b.line∧w.line - b.line≤loose))) (fun N hN=> ?_) fun t ht=> ?_
  ·refine .and (fun z1 z2=>hN true (decide_eq_true (.inl ⟨z1,z2⟩)).symm) fun z=>.of (fun z1=>hN _ ?_) fun z1=>hN false (decide_eq_false fun y=>y.elim z fun y=>z1 y.1).symm
   exact decide_eq_decide.mpr ⟨fun z2=>.inr ⟨z1,z2⟩,fun y=>y.elim (fun y=>absurd y z) fun y=>y.2⟩
  ·have yes:(((loose≤w.line - b.line∧w.line - b.line<Ci)∨(Ci<w.line - b.line∧w.line - b.line≤loose))∨(w.line - b.line=Ci∧w.cQ<f'.cQ))→eZ loose b (bK.drop (k+1)) (w,w.line - b.line)=eZ loose b bK (f,ap):=fun z=>by rw[if_pos z] at he;exact he
   have no:¬(((loose≤w.line - b.line∧w.line - b.line<Ci)∨(Ci<w.line - b.line∧w.line - b.line≤loose))∨(w.line - b.line=Ci∧w.cQ<f'.cQ))→eZ loose b (bK.drop (k+1)) (f',Ci)=eZ loose b bK (f,ap):=fun z=>by rw[if_neg z] at he;exact he
   refine yS (fun e=>⟨((_,_),_,_,_,_),rfl,rfl,ru,yes (.inl (of_decide_eq_true (ht.symm.trans e)))⟩) fun e=> ?_
   have e:=of_decide_eq_false (ht.symm.trans e)
   exact .of (fun z2=>.of (ru.cQ ns) (.of (Qn.cQ ns) (.of (fun z3=>⟨((_,_),_,_,_,_),rfl,rfl,ru,yes (.inr ⟨z2,z3⟩)⟩) fun z3=>⟨((_,_),_,_,_,_),rfl,rfl,Qn,no fun y=>y.elim e fun y=>z3 y.2⟩))) fun z2=>⟨((_,_),_,_,_,_),rfl,rfl,Qn,no fun y=>y.elim e fun y=>z2 y.1⟩
 ·apply aI;intro
  generalize nx .. =s
  intro j
  obtain⟨uV,he⟩:=j
  rw[a.length,List.drop_length,Ee] at he
  have:=hq s.2.1 s.2.2.1 s.2.2.2.1 s.2.2.2.2 (by rw[←he];exact uV)
  rw[←he] at this
  exact this
theorem Ti{vs:List PV}{w:Wy}{bK:List Wy}{r:Nat}{loose:Int}(g:H[r]? =some (.list vs))(a:bu (dy H rows) vs (w::bK))(hl:vs.length<1000)(k:∀u,dy H rows u (gW (w::bK) w loose).1→R (.tup [u,.int (gW (w::bK) w loose).2]) H):
  Wc (aj (aP ns) (n+1) 720 [.ref r,.int loose] H) R E:=by
 obtain⟨v0,h0,r0⟩:=a.get (i:=0) (b:=w) rfl
 have Yd:gW (w::bK) w loose=if loose=0 then(ey (w::bK) w,0) else eZ loose (ey (w::bK) w) (w::bK) (ey (w::bK) w,0):=rfl
 refine aT rfl rfl (.of g (.of (fg h0 hl) ?_))
 refine lG (fun s:PV×Option PV=>[some (.ref r),some (.int loose),some s.1,s.2,none,none,none,none]) (fun _=>H) (fun s=>dy H rows s.1 (ey (w::bK) w)) (fun N hN=>O1 g a r0 hl fun bv y hb=>hN (bv,y) hb) fun s hb=> ?_
 refine Fc ?_
 refine lG (fun t:PV×Option PV×Option PV×Option PV=>[some (.ref r),some (.int loose),some s.1,t.2.1,some t.1,some (.int (gW (w::bK) w loose).2),t.2.2.1,t.2.2.2]) (fun _=>H) (fun t=>dy H rows t.1 (gW (w::bK) w loose).1) (fun N hN=> ?_) fun t ht=> ?_
 rotate_left
 ·exact k _ ht
 rw[Yd] at hN
 refine .of (fun z=> ?_) fun z=> ?_
 ·rw[if_pos z] at hN;exact hN (_,_,_,_) hb
 ·rw[if_neg z] at hN;exact O2 g a hb hb hl fun fv y y6 y7 hf=>hN (_,_,_,_) hf
end
noncomputable def nF(T:eY)(cs:List Core):Nat→List Core→List Wy→Option (List Wy)
 |_,[],a=>some a
 |j,c::r,a=>if(gx T cs j c r.isEmpty a).isEmpty then none else nF T cs (j+1) r (gx T cs j c r.isEmpty a)
theorem uu{T:eY}{cs:List Core}{j:Nat}{c:Core}{r:List Core}{a:List Wy}:nF T cs j (c::r) a=if(gx T cs j c r.isEmpty a).isEmpty then none else nF T cs (j+1) r (gx T cs j c r.isEmpty a):=rfl
theorem Hs{T:eY}{cs:List Core}{j:Nat}{a:List Wy}:nF T cs j [] a=some a:=rfl
noncomputable def uv(T:eY):List Wy→Option (List Nat)
 |[]=>none
 |w::r=>if(gW (w::r) w T.S.loose).2≠T.S.loose∧T.last=false then none else some (gW (w::r) w T.S.loose).1.path.reverse
noncomputable def dR(T:eY)(cs:List Core):Option (List Nat):=(nF T cs 0 cs [⟨[],T.dA.done,2,0⟩]).bind (uv T)
structure nG(d:Int)(k:Nat)(w:Wy):Prop where
 path:∀i∈w.path,i<k
 len:w.path.length≤k
 l0:0≤w.line
 l1:w.line≤d+k
theorem nG.mono{d:Int}{k:Nat}{w:Wy}(h:nG d k w):nG d (k+1) w:=⟨fun i m=>Nat.lt_succ_of_lt (h.path i m),Nat.le_succ_of_le h.len,h.l0,by have:=h.l1;exact Js this⟩
theorem sv{α:Type}{k:Int}{v:α}{x:Int×α}:∀{l:List (Int×α)},x∈putK k v l→x=(k,v)∨x∈l
 |[],h=>.inl (List.mem_singleton.mp h)
 |(j,u)::r,h=>by
  rw[kE] at h
  split at h
  ·rename_i e
   rcases List.mem_cons.mp h with h|h
   ·exact .inl (by rw[h,e])
   ·exact .inr (List.mem_cons_of_mem _ h)
  ·rcases List.mem_cons.mp h with h|h
   ·exact .inr (by rw[h];exact List.mem_cons_self ..)
   ·rcases sv h with h|h
    ·exact .inl h
    ·exact .inr (List.mem_cons_of_mem _ h)
def eU.from(P:Wy→Prop)(s:eU):Prop:=(∀w∈s.kept,P w)∧∀x∈s.best,P x.2.way∧x.2.line=x.2.way.line+1
theorem yz{P:Wy→Prop}{g f:Int}{b:ui}{s:eU}(h:s.from P)(hw:P b.way∧b.line=b.way.line+1):(jh g f b s).from P:=by
 unfold jh
 split
 ·refine⟨h.1,fun x m=> ?_⟩
  rcases sv m with m|m
  ·subst m;exact hw
  ·exact h.2 x m
 ·exact h
theorem uw{P:Wy→Prop}{T:eY}{cs:List Core}{c:Core}{isEnd:Bool}{len k:Nat}{w:Wy}{s:eU}(h:s.from P)(hw:P w):(fE T cs c isEnd len k w s).from P:=by
 have hk:∀u∈(if gZ (qr T cs c w).1 c.pen then s.kept else s.kept++[w]),P u:=by
  intro u m
  split at m
  ·exact h.1 u m
  ·rcases List.mem_append.mp m with m|m
   ·exact h.1 u m
   ·rw[List.mem_singleton.mp m];exact hw
 unfold fE
 dsimp only
 split
 ·exact⟨hk,h.2⟩
 ·exact yz ⟨hk,h.2⟩ ⟨hw,rfl⟩
theorem ux{P:Wy→Prop}{T:eY}{cs:List Core}{c:Core}{isEnd:Bool}{len:Nat}(l:List Wy):∀(k:Nat) (s:eU),s.from P→(∀w∈l,P w)→(fQ T cs c isEnd len k l s).from P:=by
 induction l with
 |nil=>
  exact fun _ _ h _=>h
 |cons w l ih=>
  exact fun k _ h hl=>ih (k+1) _ (uw h (hl w (List.mem_cons_self ..))) fun u m=>hl u (List.mem_cons_of_mem _ m)
theorem pg{d:Int}{k:Nat}{T:eY}{cs:List Core}{c:Core}{isEnd:Bool}{l:List Wy}(h:∀w∈l,nG d k w):∀w∈gx T cs k c isEnd l,nG d (k+1) w:=by
 revert d k T cs c isEnd l
 apply aO;intro
 generalize bL .. =d,bM .. =k,bQ .. =T,bR .. =cs
 apply aM;intro
 generalize bI .. =c,bJ .. =isEnd
 apply aI;intro
 generalize nx .. =l
 intro h
 intro w m
 have fr:=ux (P:=nG d k) (T:=T) (cs:=cs) (c:=c) (isEnd:=isEnd) (len:=l.length) l 0 ⟨[],[],[]⟩ ⟨by simp,by simp⟩ h
 unfold gx pClose at m
 rcases List.mem_append.mp m with m|m
 ·exact(fr.1 w m).mono
 ·obtain⟨key,mk,mw⟩:=List.mem_flatMap.mp m
  revert mw
  refine vN (Q:=fun l=>w∈l→_) (fun mw=>absurd mw List.not_mem_nil) fun b m0 hb hm mw=> ?_
  by_cases z:b.cQ≤m0+fY T.S.qE
  ·rw[if_pos z,List.mem_singleton] at mw
   subst mw
   obtain⟨Hq,OW⟩:=fr.2 _ (kF hb)
   dsimp only at Hq OW
   refine⟨?_,?_,?_,?_⟩
   ·intro i mi
    rcases List.mem_cons.mp mi with e|e
    ·subst e;exact Nat.lt_succ_self _
    ·exact Nat.lt_succ_of_lt (Hq.path i e)
   ·exact Nat.succ_le_succ Hq.len
   ·have:=Hq.l0;dsimp only;exact OW▸Int.le_add_one this
   ·have:=Hq.l1;dsimp only;exact Jd OW this
  ·rw[if_neg z] at mw;exact absurd mw List.not_mem_nil
theorem Bx{f:Int→List Wy}(h:∀k,(f k).length≤1)(l:List Int):(l.flatMap f).length≤l.length:=by
 induction l with
 |nil=>
  exact Nat.le_refl _
 |cons x r ih=>
  have:=h x
  have:=ih
  rw[List.flatMap_cons,List.length_append,List.length_cons];exact Jo ‹_› ‹_›
theorem yA{T:eY}{cs:List Core}{k:Nat}{c:Core}{isEnd:Bool}(l:List Wy):(gx T cs k c isEnd l).length≤2 * l.length:=by
 obtain⟨h1,h2,h3⟩:=lq (T:=T) (cs:=cs) (c:=c) (isEnd:=isEnd) (len:=l.length) l 0 ⟨[],[],[]⟩ 0 ⟨Nat.le_refl _,Nat.le_refl _,Nat.le_refl _⟩
 unfold gx pClose
 rw[List.length_append]
 have:=Bx (su T k (fQ T cs c isEnd l.length 0 l ⟨[],[],[]⟩)) (bZ ((fQ T cs c isEnd l.length 0 l ⟨[],[],[]⟩).best.map (·.1)))
 rw[sq,List.length_map] at this
 exact Jk h1 h2 this
def Bd(s:Sm):Prop:=-1000000≤s.b∧s.b≤1000000∧-1000000≤s.f∧s.f≤1000000
structure kH(rows:List Row):Prop where
 len:rows.length≤6
 ord:∀(i k:Nat) (ri rk:Row),i<k→rows[i]? =some ri→rows[k]? =some rk→ri.start≤rk.place
 bd:∀r∈rows,Bd r.bg∧Bd r.en∧-10000≤r.pen∧r.pen≤10000
theorem kH.Ye{rows:List Row}(h:kH rows){T:eY}(hg:Bd T.g){d:Int}{k:Nat}{row:Row}{w:Wy}(hr:rows[k]? =some row)(hd:d≤100)(hw:nG d k w):VD rows T row w:=by
 revert rows T d k row w
 apply aI;intro
 generalize nx .. =rows
 intro h
 apply aI;intro
 generalize nx .. =T
 intro hg
 apply aO;intro
 generalize bL .. =d,bM .. =k,bQ .. =row,bR .. =w
 intro hr hd hw
 have hk:=(List.getElem?_eq_some_iff.mp hr).1
 have hl:=h.len
 refine⟨fun i m=> ?_,hw.l0,by have:=hw.l1;exact qF (Int.le_trans this (Int.add_le_add hd (Int.ofNat_le.mpr (Nat.le_of_lt (Nat.lt_of_lt_of_le hk hl))))) rfl,?_⟩
 ·have hi:=hw.path i m
  obtain⟨r,e⟩:∃r,rows[i]? =some r:=⟨_,List.getElem?_eq_getElem (by exact Nat.lt_trans hi hk)⟩
  exact⟨r,e,h.ord i k r row hi e hr⟩
 ·rintro b rfl
  have b0:Bd (Bp (rows.map Row.core) w):=by
   unfold Bp
   split
   ·exact⟨by decide,by decide,by decide,by decide⟩
   ·rename_i i p e
    have hi:=hw.path i (by rw[e];exact List.mem_cons_self ..)
    obtain⟨r,e⟩:∃r,rows[i]? =some r:=⟨_,List.getElem?_eq_getElem (by exact Nat.lt_trans hi hk)⟩
    rw[List.getElem?_map,e]
    exact(h.bd r (List.mem_of_getElem? e)).1
  obtain⟨_,⟨e1,e2,e3,e4⟩,_⟩:=h.bd row (List.mem_of_getElem? hr)
  obtain⟨b1,b2,b3,b4⟩:=b0
  obtain⟨g1,g2,g3,g4⟩:=hg
  unfold Sm.line
  dsimp only
  exact⟨Et e2 b1 g2,Et e4 b3 g4⟩
theorem qu{S:bp}{l:List Nd}{k:Nat}{b:Nat×Int×Int}(h:(bj S l)[k]? =some b):(b.1=l.length↔k+1=(bj S l).length):=by
 revert S l k b
 apply aO;intro
 generalize bL .. =S,bM .. =l,bQ .. =k,bR .. =b
 intro h
 have hk:=(List.getElem?_eq_some_iff.mp h).1
 unfold bj at h hk ⊢
 rw[List.length_append,List.length_singleton] at hk ⊢
 rcases Nat.lt_or_ge k (aR S.bS S.ex true false 0 l).length with q|q
 ·rw[List.getElem?_append_left q] at h
  obtain⟨j,d,h1,h2,h3⟩:=nq (List.mem_of_getElem? h)
  have:=(List.getElem?_eq_some_iff.mp h1).1
  exact Jf q h2 this
 ·rw[List.getElem?_append_right q] at h
  have:k - (aR S.bS S.ex true false 0 l).length=0:=by exact Nat.sub_eq_zero_of_le (Nat.le_of_lt_succ hk)
  rw[this] at h
  cases h
  simp;exact PJ q this
theorem uy{S:bp}{l:List Nd}{k:Nat}{r:Row}(h:(rowsOf S l)[k]? =some r):(r.place=l.length↔k+1=(rowsOf S l).length):=by
 revert S l k r
 apply aO;intro
 generalize bL .. =S,bM .. =l,bQ .. =k,bR .. =r
 intro h
 unfold rowsOf at h ⊢
 rw[List.length_map]
 rw[List.getElem?_map] at h
 cases e:(bj S l)[k]? with
 |none=>rw[e] at h;cases h
 |some b=>
  rw[e] at h
  cases h
  have:(rowOf l b).place=b.1:=jS (Q:=fun r=>r.place=b.1) (fun _ _ _ _=>rfl) rfl
  rw[this]
  exact qu e
theorem yB(l:List Wy):∀(b:Wy),ey l b=b∨ey l b∈l:=by
 induction l with
 |nil=>
  exact fun _=>.inl rfl
 |cons w r ih=>
  intro b
  rw[vP]
  rcases ih (if w.cQ<b.cQ then w else b) with h|h
  ·rw[h]
   split
   ·exact .inr (List.mem_cons_self ..)
   ·exact .inl rfl
  ·exact .inr (List.mem_cons_of_mem _ h)
theorem yC(loose:Int)(base:Wy)(l:List Wy):∀(p:Wy×Int),(eZ loose base l p).1=p.1∨(eZ loose base l p).1∈l:=by
 induction l with
 |nil=>
  intro _
  exact .inl rfl
 |cons w r ih=>
  intro p
  rw[vQ]
  rcases ih (if((loose≤w.line - base.line∧w.line - base.line<p.2)∨(p.2<w.line - base.line∧w.line - base.line≤loose))∨(w.line - base.line=p.2∧w.cQ<p.1.cQ) then(w,w.line - base.line) else p) with h|h
  ·rw[h]
   split
   ·exact .inr (List.mem_cons_self ..)
   ·exact .inl rfl
  ·exact .inr (List.mem_cons_of_mem _ h)
theorem ph(w:Wy)(bK:List Wy)(loose:Int):(gW (w::bK) w loose).1∈w::bK:=by
 have hb:ey (w::bK) w∈w::bK:=by
  rcases yB (w::bK) w with h|h
  ·rw[h];exact List.mem_cons_self ..
  ·exact h
 unfold gW
 split
 ·exact hb
 ·rcases yC loose (ey (w::bK) w) (w::bK) (ey (w::bK) w,0) with h|h
  ·rw[h];exact hb
  ·exact h
noncomputable def nH(S:bp)(dA:jj)(gl gr:Gl)(fh extra:Int)(last:Bool):eY:=⟨S,dA,fD fh 10000,cV gl gr extra,last,if S.loose=0 then dA.special else 4294967294⟩
section
variable {ns:List Int}{n:Nat}{H:aa}{R:PV→aa→Prop}{E:XK→aa→Prop}
theorem Tj{st sh g:PV}{S:bp}{dA:jj}{most:Int}{last:Bool}(hS:fW H st S)(hs:iB H sh dA)(k:R (.ref H.length) (H++[.inst 606 [(51,st),(52,sh),(53,.int most),(54,g),(55,.bool last),(56,.int (if S.loose=0 then dA.special else 4294967294))]])):Wc (cC (aP ns) (aj (aP ns) (n+2)) 606 [st,sh,.int most,g,.bool last] H) R E:=by
 revert ns n H R E st sh g S dA most last
 apply aQ;intro
 generalize bT .. =ns,bU .. =n,bV .. =H,bW .. =R,cj .. =E,ck .. =st,cm .. =sh,cp .. =g
 apply aO;intro
 generalize bL .. =S,bM .. =dA,bQ .. =most,bR .. =last
 intro hS hs k
 have pp:∀o,Pre H (H++[o]):=fun o=>Pre.app _ (.refl _)
 have k1:=eK (P:=fun x:Int=>R (.ref H.length) (H++[.inst 606 [(51,st),(52,sh),(53,.int most),(54,g),(55,.bool last),(56,.int x)]])) k
 exact make rfl (aT rfl rfl (aB (aB (aB (aB (aB (.of ((hS.loose.pre (pp _)) ns) (.of (fun z=>.of (se (hs.pre (pp _))) (SU (hs.pre (pp _)) (aB (k1.1 z)))) fun z=>.of (.inl (by decide)) (aB (k1.2 z))))))))))
def VG(H:aa)(rows:List Row)(R:PV→aa→Prop):Option (List Nat)→Prop
 |none=>∀H',Pre H H'→R .none H'
 |some p=>∀r H',Pre H H'→H'[r]? =some (.list (cI rows p))→R (.ref r) H'
structure Qo where
 H:aa
 bY:List Wy
 r:Nat
 vs:List PV
 y:Option PV
instance:Nonempty Qo:=⟨⟨[],[],0,[],none⟩⟩
structure Yg(H:aa)(rows:List Row)(rr:Nat)(T:eY)(d:Int)(k:Nat)(s:Qo):Prop where
 pre:Pre H s.H
 yq:s.H[rr]? =some (.list (rows.map Row.pv))
 at_:s.H[s.r]? =some (.list s.vs)
 all:bu (dy s.H rows) s.vs s.bY
 len:s.vs.length≤2 ^ k
 inv:∀w∈s.bY,nG d k w
 ne:s.bY≠[]
 run:nF T (rows.map Row.core) k ((rows.map Row.core).drop k) s.bY=nF T (rows.map Row.core) 0 (rows.map Row.core) [⟨[],d,2,0⟩]
theorem By{S:bp}{st sh a6 a7 v4 a0:PV}{fh:Int}{last:Bool}{rows:List Row}{d:Int}{s:Qo}{w:Wy}{bK:List Wy}{m:Nat}{H₀:aa}{k:Nat}(hr:rows.length<1000)(hk:k≤rows.length)
  (hS:fW s.H st S) (gv:s.H[s.r]? =some (.list s.vs)) (av:bu (dy s.H rows) s.vs (w::bK)) (lv:s.vs.length<1000) (iv:∀u∈w::bK,nG d k u) (p:Pre H₀ s.H)
  (kk:VG H₀ rows R (if(gW (w::bK) w S.loose).2≠S.loose∧last=false then none else some (gW (w::bK) w S.loose).1.path.reverse)):
  wSs (aP ns) (aj (aP ns) (m+5)) (iV Gh 5) [some a0,some st,some sh,some (.int fh),some v4,some (.bool last),some a6,some a7,some (.ref s.r),s.y,none,none] s.H (fR R) (fun _ _ H=>E .flying H):=by
 refine .of (hS.loose ns) (Ti gv av lv fun u hu=>.of (hS.loose ns) ?_)
 have DB:=iv _ (ph w bK S.loose)
 have go:¬((gW (w::bK) w S.loose).2≠S.loose∧last=false)→Wc (aj (aP ns) (m+5) 727 [u] s.H) (fun v H=>fR R (.ret v) [] H) (fun k H=>E .flying H):=fun z=>by
  rw[if_neg z] at kk
  exact Th hu.ref hu.chain (fun i m=>⟨_,List.getElem?_eq_getElem (Nat.lt_of_lt_of_le (DB.path i m) hk)⟩) (Nat.lt_of_le_of_lt DB.len (by exact Nat.lt_of_le_of_lt hk hr)) (o8 fun r H' q g=>kk r H' (p.trans q) g)
 refine .of (fun z=>go fun y=>y.1 z) fun z=> ?_
 cases last with
 |true=>exact go fun y=>nomatch y.2
 |false=>rw[if_pos ⟨z,rfl⟩] at kk;exact kk _ p
theorem Tn{a:Nat}{vs:List PV}{l:List Nd}{st sh:PV}{S:bp}{gl gr:Gl}{dA:jj}{fh extra:Int}{last:Bool}
  (h:ni H a vs l) (hf:∀d∈l,d.bD) (hX:oE H st S gl gr) (hs:iB H sh dA) (hd:0≤dA.done∧dA.done≤100) (ht:Nm fh) (he:Dm extra)
  (ok:kH (rowsOf S l)) (hg:Bd (cV gl gr extra)) (k:cN l=false→VG H (rowsOf S l) R (dR (nH S dA gl gr fh extra last) ((rowsOf S l).map Row.core))) (ke:cN l=true→∀H',Pre H H'→E .flying H'):
  Wc (aj (aP ns) (n+6) 734 [.ref a,st,sh,.int fh,.int extra,.bool last] H) R E:=by
 revert ns n H R E a vs l st sh S gl gr dA fh extra last
 apply aQ;intro
 generalize bT .. =ns,bU .. =n,bV .. =H,bW .. =R,cj .. =E,ck .. =a,cm .. =vs,cp .. =l
 apply aQ;intro
 generalize bT .. =st,bU .. =sh,bV .. =S,bW .. =gl,cj .. =gr,ck .. =dA,cm .. =fh,cp .. =extra
 apply aI;intro
 generalize nx .. =last
 intro h hf hX hs hd ht he ok hg k ke
 obtain⟨T,Ht⟩:∃T,T=nH S dA gl gr fh extra last:=⟨_,rfl⟩
 rw[←Ht] at k
 have Yh:=fun {k r} (e:(rowsOf S l)[k]? =some r)=>uy e
 have To:=fun {H':aa} {R':PV→aa→Prop} {E':XK→aa→Prop} (p:Pre H H') k ke=>SS (n:=n+1) (R:=R') (E:=E') (ns:=ns) (h.pre p) hf (hX.r.pre p) k ke
 generalize rowsOf S l=rows at *
 have hlen:=h.len
 have Tc:=h.small
 have lt:vs.length<100000:=Nat.lt_trans Tc (by decide)
 have Qq:=ok.len
 refine aT rfl rfl (Tg hX (Tf hX he ?_))
 apply aI;intro
 generalize nx .. =J1
 have p1:Pre H (H++J1):=⟨J1,rfl⟩
 generalize H++J1=H1 at *
 refine rR ht (Tj (hX.r.pre p1) (hs.pre p1) ?_)
 have yD:(H1++[aF.inst 606 [(51,st),(52,sh),(53,.int (fD fh 10000)),(54,(cV gl gr extra).pv),(55,.bool last),(56,.int (if S.loose=0 then dA.special else 4294967294))]])[H1.length]? =some (.inst 606 [(51,st),(52,sh),(53,.int (fD fh 10000)),(54,(cV gl gr extra).pv),(55,.bool last),(56,.int (if S.loose=0 then dA.special else 4294967294))]):=aX
 have Yi:Pre H1 (H1++[aF.inst 606 [(51,st),(52,sh),(53,.int (fD fh 10000)),(54,(cV gl gr extra).pv),(55,.bool last),(56,.int (if S.loose=0 then dA.special else 4294967294))]]):=Pre.app _ (.refl _)
 show wSs _ _ _ [some (.ref a),some st,some sh,some (.int fh),some (.int extra),some (.bool last),some (cV gl gr extra).pv,some (.ref H1.length),none,none,none,none] (H1++[aF.inst 606 [(51,st),(52,sh),(53,.int (fD fh 10000)),(54,(cV gl gr extra).pv),(55,.bool last),(56,.int (if S.loose=0 then dA.special else 4294967294))]]) _ _
 generalize H1++[aF.inst 606 [(51,st),(52,sh),(53,.int (fD fh 10000)),(54,(cV gl gr extra).pv),(55,.bool last),(56,.int (if S.loose=0 then dA.special else 4294967294))]]=H2 at *
 have p2:=p1.trans Yi
 have hT:Ho H2 (.ref H1.length) st T:=by
  rw[Ht]
  exact⟨aA yD rfl rfl,hX.r.pre p2,⟨sh,aA yD rfl rfl,hs.pre p2⟩,aA yD rfl rfl,aA yD rfl rfl,aA yD rfl rfl,aA yD rfl rfl⟩
 refine .of (((hs.pre p2).aq.2.2.2.2.2) ns) (OY ?_)
 have Bz:(H2++[aF.inst 585 [(46,da rows []),(47,.int dA.done),(48,.int 2),(49,.int 0),(50,.none)]]++[aF.list [.ref H2.length]])[H2.length]? =some (.inst 585 [(46,da rows []),(47,.int dA.done),(48,.int 2),(49,.int 0),(50,.none)]):=(Pre.app _ (.refl _)).get aX
 have Yj:(H2++[aF.inst 585 [(46,da rows []),(47,.int dA.done),(48,.int 2),(49,.int 0),(50,.none)]]++[aF.list [.ref H2.length]])[(H2++[aF.inst 585 [(46,da rows []),(47,.int dA.done),(48,.int 2),(49,.int 0),(50,.none)]]).length]? =some (.list [.ref H2.length]):=aX
 have VH:Pre H2 (H2++[aF.inst 585 [(46,da rows []),(47,.int dA.done),(48,.int 2),(49,.int 0),(50,.none)]]++[aF.list [.ref H2.length]]):=Pre.app _ (Pre.app _ (.refl _))
 show wSs _ _ _ [some (.ref a),some st,some sh,some (.int fh),some (.int extra),some (.bool last),some (cV gl gr extra).pv,some (.ref H1.length),some (.ref (H2++[aF.inst 585 [(46,da rows []),(47,.int dA.done),(48,.int 2),(49,.int 0),(50,.none)]]).length),none,none,none] (H2++[aF.inst 585 [(46,da rows []),(47,.int dA.done),(48,.int 2),(49,.int 0),(50,.none)]]++[aF.list [.ref H2.length]]) _ _
 generalize (H2++[aF.inst 585 [(46,da rows []),(47,.int dA.done),(48,.int 2),(49,.int 0),(50,.none)]]).length=ra at *
 generalize H2++[aF.inst 585 [(46,da rows []),(47,.int dA.done),(48,.int 2),(49,.int 0),(50,.none)]]++[aF.list [.ref H2.length]]=H3 at *
 have p3:=p2.trans VH
 have Tp:dy H3 rows (.ref H2.length) ⟨[],dA.done,2,0⟩:=⟨⟨_,rfl⟩,aA Bz rfl rfl,aA Bz rfl rfl,aA Bz rfl rfl,aA Bz rfl rfl,aA Bz rfl rfl⟩
 have Yk:=hT.pre VH
 have Yl:T.dA.done=dA.done:=by rw[Ht];rfl
 have Ym:T.S=S:=by rw[Ht];rfl
 have Yn:T.last=last:=by rw[Ht];rfl
 have Yo:Bd T.g:=by rw[Ht];exact hg
 clear Ht hs
 refine To p3 (fun hb=>o8 ?_) fun hb H4 II=>ke hb _ (p3.trans II)
 apply aM;intro
 generalize bI .. =rr,bJ .. =H4
 intro Zr II hR
 have kk:=k hb
 have p4:=p3.trans II
 have Yp:=Yk.pre II
 have ch:∀bY,nF T (rows.map Row.core) 0 (rows.map Row.core) [⟨[],dA.done,2,0⟩]=bY→dR T (rows.map Row.core)=bY.bind (uv T):=fun _ e=>by unfold dR;rw[Yl,e]
 refine .of hR (.of (by rw[List.length_map];exact gC Qq rfl) ?_)
 refine et (fun _ (s:Qo)=>[some (.ref a),some st,some sh,some (.int fh),some (.int extra),some (.bool last),some (cV gl gr extra).pv,some (.ref H1.length),some (.ref s.r),s.y,none,none]) (fun _ s=>s.H) (Yg H4 rows rr T dA.done) ⟨H4,[⟨[],dA.done,2,0⟩],ra,[.ref H2.length],none⟩ (rows.map Row.pv)
  ⟨.refl _,hR,II.get Yj,⟨Tp.ins II.ins,trivial⟩,Nat.le_refl _,by simp only[List.mem_singleton,forall_eq];exact⟨by simp,Nat.le_refl _,hd.1,by dsimp only;lia⟩,by simp,by rw[List.drop_zero]⟩ (fun k s j=>j.yq) (fun k s v j hv=> ?_) fun s j=> ?_
 ·obtain⟨row,nD,rfl⟩:∃row,rows[k]? =some row∧row.pv=v:=by rw[List.getElem?_map] at hv;exact Option.map_eq_some_iff.mp hv
  have hk:=(List.getElem?_eq_some_iff.mp nD).1
  have Yq:=Yp.pre j.pre
  have Lo:2 ^ k≤2 ^ 5:=Nat.pow_le_pow_right (by decide) (by exact Nat.le_of_lt_succ (Nat.lt_of_lt_of_le hk Qq))
  have Tq:=List.mem_of_getElem? nD
  have lv:=j.len
  have yy:decide ((row.place:Int)=(vs.length:Int))=((rows.map Row.core).drop (k+1)).isEmpty:=by
   have h1:=Yh nD
   rw[Bool.eq_iff_iff,decide_eq_true_iff,List.isEmpty_iff,List.drop_eq_nil_iff,List.length_map]
   exact I2 hlen hk h1
  refine .of ((p4.trans j.pre).get h.at_) (.of lt (Ta Yq j.at_ (by exact gC (Nat.le_trans lv Lo) rfl) j.all nD (fun w m=>ok.Ye Yo nD hd.2 (j.inv w m)) (ok.bd row Tq).2.2 (o8 fun p H5 q5 Tr IJ=> ?_)))
  obtain⟨r',Iw⟩:=p
  dsimp only at Tr IJ ⊢
  rw[yy] at IJ
  have O3:(rows.map Row.core)[k]? =some row.core:=by rw[List.getElem?_map,nD];rfl
  have qv:=j.run
  rw[drop_cons O3,uu] at qv
  have lw:=yA (T:=T) (cs:=rows.map Row.core) (k:=k) (c:=row.core) (isEnd:=((rows.map Row.core).drop (k+1)).isEmpty) s.bY
  have iw:=pg (T:=T) (cs:=rows.map Row.core) (c:=row.core) (isEnd:=((rows.map Row.core).drop (k+1)).isEmpty) j.inv
  generalize gx T (rows.map Row.core) k row.core ((rows.map Row.core).drop (k+1)).isEmpty s.bY=new at qv IJ lw iw
  have e1:=IJ.length
  have e2:=j.all.length
  have ee:=IJ.isEmpty
  have pn:Pre H5 (H5++[aF.list []]):=Pre.app _ (.refl _)
  refine vL (pn.get Tr) aX (fun z=> ?_) fun z=> ?_
  ·rw[←ee,z,if_pos rfl] at qv
   rw[ch _ qv.symm] at kk
   exact kk _ ((p4.trans (j.pre.trans q5)).app _)
  ·rw[←ee,z,if_neg (by decide)] at qv
   refine⟨⟨_,new,r',Iw,some row.pv⟩,rfl,rfl,(j.pre.trans q5).app _,pn.get (q5.get j.yq),pn.get Tr,IJ.mono fun _ _ x=>x.ins pn.ins,?_,iw,?_,qv⟩
   ·dsimp only;rw[Nat.pow_succ];exact Jb lv lw e1 e2
   ·intro e;dsimp only at e;rw[e] at ee;rw[ee] at z;cases z
 ·have qv:=j.run
  rw[List.drop_eq_nil_of_le (by rw[List.length_map,List.length_map];exact Nat.le_refl _),Hs] at qv
  have lv:=j.len
  rw[List.length_map] at lv
  have Lo:2 ^ rows.length≤2 ^ 6:=Nat.pow_le_pow_right (by decide) Qq
  rw[ch _ qv.symm] at kk
  have iv:=j.inv
  have av:=j.all
  obtain⟨w,bK,e⟩:=List.exists_cons_of_ne_nil j.ne
  rw[e] at kk iv av
  rw[Option.bind_some,uv,Ym,Yn] at kk
  rw[List.length_map] at iv
  exact By (m:=n) (by exact gC Qq rfl) (Nat.le_refl _) (hX.r.pre (p4.trans j.pre)) j.at_ av (by exact gC (Nat.le_trans lv Lo) rfl) iv (p4.trans j.pre) kk
end
def Hd(r:List Nd):Prop:=cG r=false∧total (r.take (skip r))=.zero
structure Bk where
 (k:Nat) (pen sort:Int) (pre:Sm) (ps qs:Int) (sk:Bool)
instance:Nonempty Bk:=⟨⟨0,0,0,.zero,0,0,false⟩⟩
structure dI(S:bp)(m:Bool)(u:List Nd)(o:Option Bk):Prop where
 scan:∀i r,Hd r→∃cP,aR S.bS S.ex m true i (u++r)=(o.toList.map fun b=>(i+b.k,b.pen,b.sort))++aR S.bS S.ex true cP (i+u.length) r
 row:∀b,o=some b→b.k<u.length∧∀P r,Hd r→rowOf (P++(u++r)) (P.length+b.k,b.pen,b.sort)=⟨P.length+b.k,b.pen,b.sort,P.length+(u.length+(if b.sk then skip r else 0)),((total P).add (total u)).widen (-b.qs),((total P).add b.pre).widen b.ps⟩
noncomputable def ar(tl:Bool):List Nd:=if tl then [.math false 0] else []
theorem BA{u:List Nd}:∀(r:List Nd),(∀d∈u,d.dropped=true)→skip (u++r)=u.length+skip r:=by
 induction u with
 |nil=>
  intro r _;simp
 |cons d u ih=>
  intro r h
  rw[List.cons_append,ud,if_pos (h d (List.mem_cons_self ..)),ih r fun x m=>h x (List.mem_cons_of_mem _ m),List.length_cons];exact Nat.add_right_comm _ _ _
theorem ft{α:Type}(P l:List α)(n:Nat):(P++l).take (P.length+n)=P++l.take n:=by
 rw[List.take_append]
 simp[List.take_of_length_le]
theorem qw{α:Type}(P l:List α)(n:Nat):(P++l)[P.length+n]? =l[n]? :=by
 rw[List.getElem?_append_right (by exact Nat.le_add_right _ _)];congr 1;exact Nat.add_sub_cancel_left _ _
theorem pj{α:Type}(P l:List α)(n:Nat):(P++l).drop (P.length+n)=l.drop n:=by
 rw[List.drop_append]
 simp
theorem Sm.gO(s:Sm):s.widen 0=s:=by simp[Sm.widen]
theorem iJ{u:List Nd}{k:Nat}{pen sort:Int}{d:Nd}(hk:u[k]? =some d)(hn:d.kind≠8)(h:∀d∈u.drop k,d.dropped=true)(P r:List Nd)(hr:Hd r):
  rowOf (P++(u++r)) (P.length+k,pen,sort)=⟨P.length+k,pen,sort,P.length+(u.length+(if true then skip r else 0)),((total P).add (total u)).widen (-0),((total P).add (total (u.take k))).widen 0⟩:=by
 revert u k pen sort d P r
 apply aO;intro
 generalize bL .. =u,bM .. =k,bQ .. =pen,bR .. =sort
 apply aI;intro
 generalize nx .. =d
 intro hk hn h
 apply aM;intro
 generalize bI .. =P,bJ .. =r
 intro hr
 have kl:=(List.getElem?_eq_some_iff.mp hk).1
 have g:(P++(u++r))[P.length+k]? =some d:=by rw[qw,List.getElem?_append_left kl];exact hk
 have hd:(u++r).drop k=u.drop k++r:=List.drop_append_of_le_length (by exact Nat.le_of_lt kl)
 have hs:aU (P++(u++r)) (P.length+k)=P.length+(u.length+skip r):=by
  have:aU (P++(u++r)) (P.length+k)=P.length+k+skip ((P++(u++r)).drop (P.length+k)):=by
   unfold aU
   rw[g]
   cases d<;>first|rfl|exact absurd rfl hn
  rw[this,pj,hd,BA r h,List.length_drop];exact Jc kl
 have dO:rowOf (P++(u++r)) (P.length+k,pen,sort)=⟨P.length+k,pen,sort,aU (P++(u++r)) (P.length+k),total ((P++(u++r)).take (aU (P++(u++r)) (P.length+k))),total ((P++(u++r)).take (P.length+k))⟩:=by
  unfold rowOf
  dsimp only
  rw[g]
  cases d<;>first|rfl|exact absurd rfl hn
 rw[if_pos rfl,dO,hs,ft,ft,ft,List.take_append_of_le_length (by exact Nat.le_of_lt kl),aZ,aZ,aZ,hr.2,Sm.add_zero,Int.neg_zero,Sm.gO,Sm.gO]
theorem BB{t:List Nd}{p q m:List Int}{pen sort:Int}(P r:List Nd)(hr:Hd r):
  rowOf (P++(t++[Nd.bP p q m]++r)) (P.length+t.length,pen,sort)=⟨P.length+t.length,pen,sort,P.length+((t++[Nd.bP p q m]).length+(if q.isEmpty then skip r else 0)),((total P).add (total (t++[Nd.bP p q m]))).widen (-q.sum),((total P).add (total t)).widen p.sum⟩:=by
 revert t p q m pen sort P r
 apply aQ;intro
 generalize bT .. =t,bU .. =p,bV .. =q,bW .. =m,cj .. =pen,ck .. =sort,cm .. =P,cp .. =r
 intro hr
 have g:(P++(t++[Nd.bP p q m]++r))[P.length+t.length]? =some (.bP p q m):=by rw[qw,List.append_assoc,List.getElem?_append_right (by exact Nat.le_refl _),Nat.sub_self];rfl
 have e1:P.length+t.length+1=P.length+((t++[Nd.bP p q m]).length):=by simp;exact Nat.add_assoc _ _ _
 have hs:aU (P++(t++[Nd.bP p q m]++r)) (P.length+t.length)=P.length+((t++[Nd.bP p q m]).length+(if q.isEmpty then skip r else 0)):=by
  unfold aU
  rw[g]
  dsimp only
  cases q with
  |nil=>
   rw[if_pos rfl,e1,pj]
   have:(t++[Nd.bP p [] m]++r).drop (t++[Nd.bP p [] m]).length=r:=by rw[List.drop_append_of_le_length (Nat.le_refl _),List.drop_length];rfl
   rw[this,Nat.add_assoc];rfl
  |cons _ _=>rw[if_neg (by simp),if_neg (by simp)];exact e1
 have hz:total (r.take (if q.isEmpty then skip r else 0))=.zero:=by
  split
  ·exact hr.2
  ·rw[List.take_zero];rfl
 unfold rowOf
 dsimp only
 rw[g]
 dsimp only
 have ht:(t++[Nd.bP p q m]++r).take t.length=t:=by rw[List.append_assoc,List.take_append_of_le_length (Nat.le_refl _),List.take_length]
 rw[hs,ft,ft,ft,ht]
 simp only[aZ,hz,Sm.add_zero]
theorem aY{hp xp:Int}{may cP:Bool}{i:Nat}{d:Nd}{r:List Nd}(h:10000≤dn hp xp may cP d r):aR hp xp may cP i (d::r)=aR hp xp (fP may d) (!d.dropped) (i+1) r:=by
 rw[gw,kD,if_neg (by exact Int.not_lt_of_ge h),List.nil_append]
theorem d6{hp xp p:Int}{may cP:Bool}{i:Nat}{d:Nd}{r:List Nd}(h:dn hp xp may cP d r=p)(h':p<10000):aR hp xp may cP i (d::r)=(i,eu p,fX d)::aR hp xp (fP may d) (!d.dropped) (i+1) r:=by
 rw[gw,kD,h,if_pos h'];rfl
inductive Qt:List Nd→Prop
 |nil:Qt []
 |glue (g:Gl) (z:List Nd):Qt z→Qt (.glue g::z)
 |pen (p:Int) (z:List Nd):10000≤p→Qt z→Qt (.pen p::z)
 |bF (w:Int):Qt [.bF w 1]
theorem Qt.dropped{z:List Nd}(h:Qt z):∀d∈z,d.dropped=true:=by
 induction h with
 |nil=>simp
 |glue g z _ ih=>intro d m;rcases List.mem_cons.mp m with e|e;(subst e;rfl);exact ih d e
 |pen p z _ _ ih=>intro d m;rcases List.mem_cons.mp m with e|e;(subst e;rfl);exact ih d e
 |bF w=>intro d m;rw[List.mem_singleton.mp m];rfl
theorem Qt.scan{S:bp}{m:Bool}{z:List Nd}(h:Qt z):∀(cP:Bool) (i:Nat) (r:List Nd),cG r=false→(m && cP)=false→∃uz,aR S.bS S.ex m cP i (z++r)=aR S.bS S.ex m uz (i+z.length) r:=by
 revert S m z
 apply aM;intro
 generalize bI .. =S,bJ .. =m
 apply aI;intro
 generalize nx .. =z
 intro h
 induction h with
 |nil=>intro cP i r _ _;exact⟨cP,rfl⟩
 |glue g z _ ih=>
  intro cP i r hr hb
  obtain⟨b,e⟩:=ih false (i+1) r hr (Bool.and_false _)
  refine⟨b,?_⟩
  rw[List.cons_append,aY (by delta dn;simp[hb]),List.length_cons,Nat.add_comm z.length 1,←Nat.add_assoc]
  exact e
 |pen p z hp _ ih=>
  intro cP i r hr hb
  obtain⟨b,e⟩:=ih false (i+1) r hr (Bool.and_false _)
  refine⟨b,?_⟩
  rw[List.cons_append,aY (d:=.pen p) (by delta dn;simpa using hp),List.length_cons,Nat.add_comm z.length 1,←Nat.add_assoc]
  exact e
 |bF w=>
  intro cP i r hr hb
  refine⟨false,?_⟩
  rw[List.cons_append,aY (by delta dn;simp[hr])]
  rfl
theorem eM(tl:Bool):total (ar tl)=.zero:=by cases tl<;>rfl
theorem Ef(tl:Bool):∀d∈ar tl,d.dropped=true:=by cases tl<;>simp[ar]<;>rfl
theorem iK{S:bp}{tl:Bool}{i:Nat}{u:List Nd}(h:cG u=false):∃cP,(tl=false→cP=true)∧aR S.bS S.ex (!tl) true i (ar tl++u)=aR S.bS S.ex true cP (i+(ar tl).length) u:=by
 cases tl with
 |false=>exact⟨true,fun _=>rfl,rfl⟩
 |true=>refine⟨false,(fun x=>nomatch x),?_⟩;exact aY (by delta dn;simp[h])
theorem Tt:eu 0=0:=rfl
section
variable {S:bp}{tl:Bool}{z:List Nd}{g:Gl}{p q m:List Int}{w v:Int}
theorem BC(hz:Qt z):dI S (!tl) (ar tl++.glue g::z) (some ⟨0,0,0,.zero,0,0,true⟩):=by
 constructor
 ·intro i r hr
  cases tl with
  |false=>
   obtain⟨b,e⟩:=hz.scan (S:=S) (m:=true) false (i+1) r hr.1 rfl
   refine⟨b,?_⟩
   show aR S.bS S.ex true true i (.glue g::(z++r))=(i,0,0)::aR S.bS S.ex true b (i+(z.length+1)) r
   rw[d6 (p:=0) rfl (by decide),show i+(z.length+1)=i+1+z.length by exact(Nat.add_right_comm _ 1 _).symm,←e];rfl
  |true=>
   obtain⟨b,e⟩:=(Qt.glue g z hz).scan (S:=S) (m:=true) false (i+1) r hr.1 rfl
   refine⟨b,?_⟩
   show aR S.bS S.ex false true i (.math false 0:: .glue g::(z++r))=(i,0,0)::aR S.bS S.ex true b (i+(z.length+1+1)) r
   rw[d6 (p:=0) rfl (by decide),show i+(z.length+1+1)=i+1+(Nd.glue g::z).length by rw[List.length_cons];lia]
   exact congrArg _ e
 ·rintro b e
  cases e
  refine⟨by simp<;>exact Nat.succ_pos _,fun P r hr=> ?_⟩
  cases tl with
  |false=>exact iJ (u:=ar false++.glue g::z) (k:=0) rfl (kn rfl) (Qt.glue g z hz).dropped P r hr
  |true=>exact iJ (u:=ar true++.glue g::z) (k:=0) rfl (kn rfl) (by intro d m;rcases List.mem_cons.mp m with e|e;(subst e;rfl);exact(Qt.glue g z hz).dropped d e) P r hr
theorem O4{d:Nd}{pen:Int}(hn:d.kind≠8)(hd:d.dropped=true)(hg:cG (d::z)=false)(hq:∀x∈z,x.dropped=true)(hs:fX d=0)
  (sc:∀cP i r,Hd r→∃uz,aR S.bS S.ex true cP i (d::(z++r))=(i,pen,0)::aR S.bS S.ex true uz (i+1+z.length) r):
  dI S (!tl) (ar tl++d::z) (some ⟨(ar tl).length,pen,0,.zero,0,0,true⟩):=by
 constructor
 ·intro i r hr
  obtain⟨b0,_,e0⟩:=iK (S:=S) (tl:=tl) (i:=i) (u:=d::(z++r)) (by cases d<;>first|rfl|exact hg)
  obtain⟨b,e⟩:=sc b0 (i+(ar tl).length) r hr
  refine⟨b,?_⟩
  rw[List.append_assoc,List.cons_append,e0,e,show i+(ar tl++d::z).length=i+(ar tl).length+1+z.length by simp;lia]
  rfl
 ·rintro b e
  cases e
  refine⟨by simp,fun P r hr=> ?_⟩
  have:=iJ (u:=ar tl++d::z) (k:=(ar tl).length) (pen:=pen) (sort:=0) (d:=d) (by rw[List.getElem?_append_right (Nat.le_refl _),Nat.sub_self];rfl) hn (by
   rw[List.drop_append_of_le_length (Nat.le_refl _),List.drop_length,List.nil_append]
   intro x m
   rcases List.mem_cons.mp m with e|e
   ·subst e;exact hd
   ·exact hq x e) P r hr
  rw[List.take_append_of_le_length (Nat.le_refl _),List.take_length,eM] at this
  exact this
theorem uC(hz:Qt z):dI S (!tl) (ar tl++.bF w 1:: .glue g::z) (some ⟨(ar tl).length,0,0,.zero,0,0,true⟩):=by
 refine O4 (kn rfl) rfl rfl (Qt.glue g z hz).dropped rfl ?_
 intro cP i r hr
 obtain⟨b,e⟩:=(Qt.glue g z hz).scan (S:=S) (m:=true) false (i+1) r hr.1 rfl
 refine⟨b,?_⟩
 rw[d6 (p:=0) rfl (by decide)]
 exact congrArg _ e
theorem vR(hz:Qt z)(hp:w<10000):dI S (!tl) (ar tl++.pen w::z) (some ⟨(ar tl).length,eu w,0,.zero,0,0,true⟩):=by
 refine O4 (kn rfl) rfl rfl hz.dropped rfl ?_
 intro cP i r hr
 obtain⟨b,e⟩:=hz.scan (S:=S) (m:=true) false (i+1) r hr.1 rfl
 refine⟨b,?_⟩
 rw[d6 (p:=w) rfl hp]
 exact congrArg _ e
theorem nI{u:List Nd}(hg:∀r,Hd r→cG (u++r)=false)(sc:∀cP i r,Hd r→∃uz,aR S.bS S.ex true cP i (u++r)=aR S.bS S.ex true uz (i+u.length) r):dI S (!tl) (ar tl++u) none:=by
 constructor
 ·intro i r hr
  obtain⟨b0,_,e0⟩:=iK (S:=S) (tl:=tl) (i:=i) (u:=u++r) (hg r hr)
  obtain⟨b,e⟩:=sc b0 (i+(ar tl).length) r hr
  refine⟨b,?_⟩
  rw[List.append_assoc,e0,e,List.length_append,←Nat.add_assoc]
  rfl
 ·rintro b e;cases e
theorem gy(hz:Qt z)(hp:10000≤w):dI S (!tl) (ar tl++.pen w::z) none:=by
 refine nI (fun r _=>rfl) ?_
 intro cP i r hr
 obtain⟨b,e⟩:=(Qt.pen w z hp hz).scan (S:=S) (m:=true) false i r hr.1 rfl
 refine⟨b,?_⟩
 rw[←e,List.cons_append,aY (d:=.pen w) (by delta dn;simpa using hp),aY (d:=.pen w) (by delta dn;simpa using hp)]
noncomputable def costOf(S:bp)(p:List Int):Int:=if p=[] then S.ex else S.bS
theorem BD(hp:costOf S p<10000):dI S (!tl) (ar tl++[.bP p q m]) (some ⟨(ar tl).length,eu (costOf S p),1,.zero,p.sum,q.sum,q.isEmpty⟩):=by
 revert S tl p q m
 apply aO;intro
 generalize bL .. =S,bM .. =tl,bQ .. =p,bR .. =q
 apply aI;intro
 generalize nx .. =m
 intro hp
 constructor
 ·intro i r hr
  obtain⟨b0,_,e0⟩:=iK (S:=S) (tl:=tl) (i:=i) (u:=.bP p q m::r) rfl
  refine⟨true,?_⟩
  rw[List.append_assoc,List.cons_append,List.nil_append,e0,d6 (p:=costOf S p) rfl hp,List.length_append]
  rfl
 ·rintro b e
  cases e
  refine⟨by simp,fun P r hr=> ?_⟩
  have:=BB (t:=ar tl) (p:=p) (q:=q) (m:=m) (pen:=eu (costOf S p)) (sort:=1) P r hr
  rw[eM] at this
  exact this
theorem yE(hp:10000≤costOf S p):dI S (!tl) (ar tl++[.bP p q m]) none:=by
 refine nI (fun r _=>rfl) ?_
 intro cP i r hr
 exact⟨true,aY hp⟩
theorem nJ{f:List Nd}{d:Nd}(hn:d.kind≠8)(hd:d.dropped=true)(hq:∀x∈z,x.dropped=true)(hg:∀r,cG (f++r)=false)
  (s1:∀cP i r,Hd r→∃uz,aR S.bS S.ex true cP i (f++d::(z++r))=(i+f.length,0,0)::aR S.bS S.ex true uz (i+f.length+1+z.length) r):
  dI S (!tl) (ar tl++(f++d::z)) (some ⟨(ar tl).length+f.length,0,0,total f,0,0,true⟩):=by
 revert S tl z f d
 apply aO;intro
 generalize bL .. =S,bM .. =tl,bQ .. =z,bR .. =f
 apply aI;intro
 generalize nx .. =d
 intro hn hd hq hg s1
 constructor
 ·intro i r hr
  obtain⟨b0,_,e0⟩:=iK (S:=S) (tl:=tl) (i:=i) (u:=f++d::(z++r)) (hg _)
  obtain⟨b,e⟩:=s1 b0 (i+(ar tl).length) r hr
  refine⟨b,?_⟩
  have l:i+(ar tl++(f++d::z)).length=i+(ar tl).length+f.length+1+z.length:=by simp;lia
  rw[List.append_assoc,List.append_assoc,List.cons_append,e0,e,l,Nat.add_assoc]
  rfl
 ·rintro b e
  cases e
  refine⟨by simp<;>lia,fun P r hr=> ?_⟩
  have hl:(ar tl).length+f.length=(ar tl++f).length:=by simp
  have:=iJ (u:=ar tl++(f++d::z)) (k:=(ar tl).length+f.length) (pen:=0) (sort:=0) (d:=d) (by rw[←List.append_assoc,hl,List.getElem?_append_right (Nat.le_refl _),Nat.sub_self];rfl) hn (by
   rw[←List.append_assoc,hl,List.drop_append_of_le_length (Nat.le_refl _),List.drop_length,List.nil_append]
   intro x m
   rcases List.mem_cons.mp m with e|e
   ·subst e;exact hd
   ·exact hq x e) P r hr
  have ht:(ar tl++(f++d::z)).take ((ar tl).length+f.length)=ar tl++f:=by rw[←List.append_assoc,hl,List.take_append_of_le_length (Nat.le_refl _),List.take_length]
  rw[ht,show total (ar tl++f)=total f by rw[aZ,eM,Sm.zero_add]] at this
  exact this
theorem vS(hz:Qt z)(hv:v≠1):dI S (!tl) (ar tl++.bF w v:: .glue g::z) (some ⟨(ar tl).length+1,0,0,total [.bF w v],0,0,true⟩):=by
 refine nJ (f:=[.bF w v]) (d:=.glue g) (kn rfl) rfl hz.dropped (fun r=>rfl) ?_
 intro cP i r hr
 obtain⟨b,e⟩:=hz.scan (S:=S) (m:=true) false (i+1+1) r hr.1 rfl
 refine⟨b,?_⟩
 have hb:(!(Nd.bF w v).dropped)=true:=by delta Nd.dropped;simp[hv]
 rw[List.cons_append,List.nil_append,aY (by delta dn;simp[hv]),hb,d6 (p:=0) rfl (by decide)]
 exact congrArg _ e
theorem Eg{x:Int}(hz:Qt z)(hv:v≠1):dI S (!tl) (ar tl++.bF w v:: .bF x 1:: .glue g::z) (some ⟨(ar tl).length+1,0,0,total [.bF w v],0,0,true⟩):=by
 refine nJ (f:=[.bF w v]) (d:=.bF x 1) (kn rfl) rfl (Qt.glue g z hz).dropped (fun r=>rfl) ?_
 intro cP i r hr
 obtain⟨b,e⟩:=(Qt.glue g z hz).scan (S:=S) (m:=true) false (i+1+1) r hr.1 rfl
 refine⟨b,?_⟩
 rw[List.cons_append,List.nil_append,aY (by delta dn;simp[hv]),d6 (p:=0) rfl (by decide)]
 exact congrArg _ e
structure f6(S:bp)(w:Int)(c:List Nd):Prop where
 scan:∀may cP i r,aR S.bS S.ex may cP i (c++r)=aR S.bS S.ex may true (i+c.length) r
 Tu:∀r,skip (c++r)=0
 ng:∀r,cG (c++r)=false
 iX:total c=⟨w,0,0,0,0,0⟩
 bad:cN c=false
 bD:∀d∈c,d.bD
theorem BG{c y:List Nd}{h:Gl}{x a b:Int}(hc:f6 S x c)(hz:Qt z)(hy:Qt y):
  dI S (!tl) (ar tl++((.math true a::c++.glue g::z)++.math false b:: .glue h::y)) (some ⟨(ar tl).length+(.math true a::c++.glue g::z:List Nd).length,0,0,total (.math true a::c++.glue g::z),0,0,true⟩):=by
 refine nJ (d:=.math false b) (kn rfl) rfl (Qt.glue h y hy).dropped (fun r=>rfl) ?_
 intro cP i r hr
 obtain⟨b1,e1⟩:=(Qt.glue g z hz).scan (S:=S) (m:=false) true (i+1+c.length) (.math false b::(.glue h::y++r)) rfl rfl
 obtain⟨b2,e2⟩:=(Qt.glue h y hy).scan (S:=S) (m:=true) false (i+(.math true a::c++.glue g::z:List Nd).length+1) r hr.1 rfl
 refine⟨b2,?_⟩
 have l:i+1+c.length+(Nd.glue g::z).length=i+(.math true a::c++.glue g::z:List Nd).length:=by simp;lia
 rw[List.append_assoc,List.cons_append,aY (d:=.math true a) (by delta dn;simp),hc.scan]
 show aR S.bS S.ex false true (i+1+c.length) _=_
 rw[e1,l,d6 (p:=0) (by delta dn cG Nd.OO;simp) (by decide)]
 exact congrArg _ e2
end
section
variable {S:bp}{w:Int}
theorem all1{P:Nd→Prop}{d:Nd}(h:P d):∀x∈[d],P x:=fun x m=>by rw[List.mem_singleton.mp m];exact h
theorem ez{P:Nd→Prop}{d:Nd}{l:List Nd}(h:P d)(h':∀x∈l,P x):∀x∈d::l,P x:=fun x m=>by
 rcases List.mem_cons.mp m with e|e
 ·rw[e];exact h
 ·exact h' x e
theorem nK(k:Int):f6 S w [.box k w]:=⟨fun _ _ _ _=>aY (Int.le_refl _),fun _=>rfl,fun _=>rfl,congrArg (fun x=>Sm.mk x 0 0 0 0 0) (Int.add_zero w),rfl,all1 trivial⟩
theorem Hu:f6 S w [.rule w]:=⟨fun _ _ _ _=>aY (Int.le_refl _),fun _=>rfl,fun _=>rfl,congrArg (fun x=>Sm.mk x 0 0 0 0 0) (Int.add_zero w),rfl,all1 trivial⟩
theorem VI{a b:Int}:a+(b - a+0)=b:=by rw[Int.add_zero,uS]
theorem VJ{a b:Int}:a+(0+(b - a+0))=b:=by rw[Int.zero_add,VI]
theorem Yr{a b c:Int}:a+(c+(b - a - c+0))=b:=by rw[Int.add_zero,Ey]
theorem Fn(k c:Int):f6 S w [.box k c,.box k (w - c)]:=⟨fun _ _ _ _=>(aY (Int.le_refl _)).trans (aY (Int.le_refl _)),fun _=>rfl,fun _=>rfl,congrArg (fun x=>Sm.mk x 0 0 0 0 0) VI,rfl,ez trivial (all1 trivial)⟩
theorem BH(k c a s:Int):f6 S w [.box k c,.bF a s,.box k (w - c - a)]:=⟨fun _ _ _ _=>(aY (Int.le_refl _)).trans ((aY (Int.le_of_eq (if_neg fun h=>nomatch h.2.2).symm)).trans (aY (Int.le_refl _))),fun _=>rfl,fun _=>rfl,congrArg (fun x=>Sm.mk x 0 0 0 0 0) Yr,rfl,ez trivial (ez trivial (all1 trivial))⟩
theorem O5(k c p:Int)(hp:10000≤p):f6 S w [.box k c,.pen p,.box k (w - c)]:=⟨fun _ _ _ _=>(aY (Int.le_refl _)).trans ((aY (d:=.pen p) hp).trans (aY (Int.le_refl _))),fun _=>rfl,fun _=>rfl,congrArg (fun x=>Sm.mk x 0 0 0 0 0) VJ,rfl,ez trivial (ez trivial (all1 trivial))⟩
theorem Hv(k t:Int):f6 S w [.iW t,.box k w]:=⟨fun _ _ _ _=>(aY (Int.le_refl _)).trans (aY (Int.le_refl _)),fun _=>rfl,fun _=>rfl,congrArg (fun x=>Sm.mk x 0 0 0 0 0) ((Int.zero_add _).trans (Int.add_zero w)),rfl,ez trivial (all1 trivial)⟩
theorem Hw(k t:Int):f6 S w [.box k w,.iW t]:=⟨fun _ _ _ _=>(aY (Int.le_refl _)).trans (aY (Int.le_refl _)),fun _=>rfl,fun _=>rfl,congrArg (fun x=>Sm.mk x 0 0 0 0 0) (Int.add_zero w),rfl,ez trivial (all1 trivial)⟩
theorem Hx(k c:Int)(p q:List Int)(hp:10000≤costOf S p):f6 S w [.box k c,.bP p q [],.box k (w - c)]:=⟨fun _ _ _ _=>(aY (Int.le_refl _)).trans ((aY (d:=.bP p q []) hp).trans (aY (Int.le_refl _))),fun _=>rfl,fun _=>rfl,congrArg (fun x=>Sm.mk x 0 0 0 0 0) VJ,rfl,ez trivial (ez trivial (all1 trivial))⟩
noncomputable def bB(ld:Bool):List Nd:=if ld then [.math true 0] else []
theorem pq{ld:Bool}{c:List Nd}(h:f6 S w c)(cP:Bool)(i:Nat)(r:List Nd):aR S.bS S.ex true cP i (bB ld++(c++r))=aR S.bS S.ex (!ld) true (i+(bB ld++c).length) r:=by
 cases ld with
 |false=>exact h.scan true cP i r
 |true=>
  rw[List.length_append,←Nat.add_assoc,←h.scan]
  exact aY (Int.le_refl _)
theorem px{ld:Bool}{c:List Nd}(h:f6 S w c)(r:List Nd):skip (bB ld++(c++r))=(bB ld).length:=by
 cases ld with
 |false=>exact h.Tu r
 |true=>show skip (c++r)+1=1;rw[h.Tu]
theorem qx{ld:Bool}{c:List Nd}(h:f6 S w c)(r:List Nd):Hd (bB ld++(c++r)):=by
 refine⟨?_,?_⟩
 ·cases ld with
  |false=>exact h.ng r
  |true=>rfl
 ·rw[px h,List.take_append_of_le_length (Nat.le_refl _),List.take_length]
  cases ld<;>rfl
end
def yF(d:Nd):Prop:=-10≤d.sm.b∧d.sm.b≤10∧-10≤d.sm.f∧d.sm.f≤10
def Bm(mv:List Int)(t:Nat):Option Bk→Option Bk→Prop
 |none,none=>True
 |some a,some b=>a.pen=b.pen∧a.sort=b.sort∧a.pre=b.pre∧a.ps=b.ps∧a.qs=b.qs∧mv[a.k]? =some ((b.k:Int) - t)
 |_,_=>False
structure nM(S:bp)(tl:Bool)(gA gB:List Nd)(mv:List Int):Prop where
 len:mv.length=gA.length
 iX:total gA=total gB
 bad:cN gA=cN gB
 bD:(∀d∈gA,d.bD)∧∀d∈gB,d.bD
 pz:∀d∈gA,yF d
 brk:∃oA oB,dI S true gA oA∧dI S (!tl) (ar tl++gB) oB∧Bm mv (ar tl).length oA oB
noncomputable def Hy(R:List (Row×Row)):List (Nat×Int×Int):=R.map fun p=>(p.1.place,p.1.pen,p.1.sort)
noncomputable def Hz(R:List (Row×Row)):List (Nat×Int×Int):=R.map fun p=>(p.2.place,p.2.pen,p.2.sort)
structure O6(A B:List Nd)(mv:List Int)(p:Row×Row):Prop where
 ra:∀r,rowOf (A++r) (p.1.place,p.1.pen,p.1.sort)=p.1
 rb:∀r,rowOf (B++r) (p.2.place,p.2.pen,p.2.sort)=p.2
 core:p.1.core=p.2.core
 O7:mv[p.1.place]? =some (p.2.place:Int)
 st:p.1.start≤A.length∧p.2.start≤B.length
 lt:p.1.place<A.length
structure Pf(S:bp)(tl:Bool)(A B:List Nd)(mv:List Int)(R:List (Row×Row)):Prop where
 la:∀r,aR S.bS S.ex true false 0 (A++r)=Hy R++aR S.bS S.ex true true A.length r
 lb:∀r,aR S.bS S.ex true false 0 (B++r)=Hz R++aR S.bS S.ex (!tl) true B.length r
 pr:∀p∈R,O6 A B mv p
 ord:∀(i k:Nat) (p q:Row×Row),i<k→R[i]? =some p→R[k]? =some q→p.1.start≤q.1.place∧p.2.start≤q.2.place
 iX:total A=total B
 bad:cN A=cN B
 len:mv.length=A.length
 pz:∀d∈A,yF d
 bD:(∀d∈A,d.bD)∧∀d∈B,d.bD
theorem d7(l m:List Nd):cN (l++m)=(cN l || cN m):=by unfold cN;rw[List.any_append]
theorem O6.ext{A B:List Nd}{mv:List Int}{p:Row×Row}(h:O6 A B mv p)(a b:List Nd)(m:List Int):O6 (A++a) (B++b) (mv++m) p:=by
 refine⟨fun r=>by rw[List.append_assoc];exact h.ra _,fun r=>by rw[List.append_assoc];exact h.rb _,h.core,?_,?_,?_⟩
 ·rw[List.getElem?_append_left (List.getElem?_eq_some_iff.mp h.O7).1];exact h.O7
 ·have:=h.st;rw[List.length_append,List.length_append];exact⟨Nat.le_add_right_of_le this.1,Nat.le_add_right_of_le this.2⟩
 ·have:=h.lt;rw[List.length_append];exact Nat.lt_add_right _ this
theorem jT{tl:Bool}:cN (bB tl)=false∧cN (ar tl)=false:=by cases tl<;>exact⟨rfl,rfl⟩
theorem iL{tl:Bool}:(∀d∈bB tl,d.bD)∧∀d∈ar tl,d.bD:=by
 cases tl
 ·exact⟨fun _ m=>absurd m List.not_mem_nil,fun _ m=>absurd m List.not_mem_nil⟩
 ·exact⟨all1 (P:=Nd.bD) trivial,all1 (P:=Nd.bD) trivial⟩
theorem nN(tl:Bool):total (bB tl)=.zero:=by cases tl<;>rfl
theorem Pf.start{S:bp}{w x:Int}{c:List Nd}(ld:Bool)(hc:f6 S w c):Pf S ld [.box 2 w] (bB ld++c) [x] []:=by
 refine⟨fun r=>(nK 2).scan true false 0 r |>.trans (by simp[Hy]),fun r=> ?_,by simp,by simp,?_,?_,rfl,?_,?_,?_⟩
 ·rw[List.append_assoc,pq hc,Nat.zero_add];rfl
 ·rw[aZ,nN,Sm.zero_add,hc.iX];exact(nK (S:=S) 2).iX
 ·rw[d7,jT.1,hc.bad];rfl
 ·intro d m
  rw[List.mem_singleton.mp m]
  exact⟨by show(-10:Int)≤0;decide,by show(0:Int)≤10;decide,by show(-10:Int)≤0;decide,by show(0:Int)≤10;decide⟩
 ·intro d m;rw[List.mem_singleton.mp m];trivial
 ·intro d m
  rcases List.mem_append.mp m with m|m
  ·exact iL.1 d m
  ·exact hc.bD d m
noncomputable def O8(P u:List Nd)(b:Bk)(x:Nat):Row:=⟨P.length+b.k,b.pen,b.sort,P.length+(u.length+(if b.sk then x else 0)),((total P).add (total u)).widen (-b.qs),((total P).add b.pre).widen b.ps⟩
theorem Pf.step{S:bp}{tl ld:Bool}{A B gA gB c:List Nd}{mv uD:List Int}{R:List (Row×Row)}{w x:Int}(h:Pf S tl A B mv R)(g:nM S tl gA gB uD)(hc:f6 S w c):
  ∃R',Pf S ld (A++(gA++[Nd.box 2 w])) (B++((ar tl++gB)++(bB ld++c))) (mv++(uD.map (((B++ar tl).length:Int)+·)++[x])) R'∧R'.length≤R.length+1:=by
 revert S tl ld A B gA gB c mv uD R w x
 apply aQ;intro
 generalize bT .. =S,bU .. =tl,bV .. =ld,bW .. =A,cj .. =B,ck .. =gA,cm .. =gB,cp .. =c
 apply aO;intro
 generalize bL .. =mv,bM .. =uD,bQ .. =R,bR .. =w
 apply aI;intro
 generalize nx .. =x
 intro h g hc
 obtain⟨oA,oB,uA,uB,hm⟩:=g.brk
 have hb:f6 S w [.box 2 w]:=nK 2
 have hA:∀r,Hd ([.box 2 w]++r):=fun r=>qx (ld:=false) hb r
 have sA:∀r,∃cP,aR S.bS S.ex true true A.length (gA++([.box 2 w]++r))=(oA.toList.map fun b=>(A.length+b.k,b.pen,b.sort))++aR S.bS S.ex true cP (A.length+gA.length) ([.box 2 w]++r):=fun r=>uA.scan _ _ (hA r)
 have lA:∀r,aR S.bS S.ex true false 0 (A++(gA++[.box 2 w])++r)=(Hy R++oA.toList.map fun b=>(A.length+b.k,b.pen,b.sort))++aR S.bS S.ex true true (A++(gA++[Nd.box 2 w])).length r:=by
  intro r
  obtain⟨cP,e⟩:=sA r
  rw[List.append_assoc,List.append_assoc,h.la,e,hb.scan,List.append_assoc,List.length_append,List.length_append,←Nat.add_assoc]
 have lB:∀r,aR S.bS S.ex true false 0 (B++((ar tl++gB)++(bB ld++c))++r)=(Hz R++oB.toList.map fun b=>(B.length+b.k,b.pen,b.sort))++aR S.bS S.ex (!ld) true (B++((ar tl++gB)++(bB ld++c))).length r:=by
  intro r
  obtain⟨cP,e⟩:=uB.scan B.length (bB ld++(c++r)) (qx hc r)
  have l:(B++((ar tl++gB)++(bB ld++c))).length=B.length+(ar tl++gB).length+(bB ld++c).length:=by rw[List.length_append,List.length_append,←Nat.add_assoc]
  rw[l,←pq hc cP,List.append_assoc (Hz R),←e,←h.lb]
  simp only[List.append_assoc]
 have iX:total (A++(gA++[Nd.box 2 w]))=total (B++((ar tl++gB)++(bB ld++c))):=by
  simp only[aZ,eM,nN,Sm.zero_add,h.iX,g.iX,hb.iX,hc.iX]
 have bad:cN (A++(gA++[Nd.box 2 w]))=cN (B++((ar tl++gB)++(bB ld++c))):=by
  simp only[d7,jT.1,jT.2,hb.bad,hc.bad,h.bad,g.bad,Bool.false_or]
 have len:(mv++(uD.map (((B++ar tl).length:Int)+·)++[x])).length=(A++(gA++[Nd.box 2 w])).length:=by
  simp[h.len,g.len]
 have pz:∀d∈A++(gA++[.box 2 w]),yF d:=by
  intro d m
  rcases List.mem_append.mp m with m|m
  ·exact h.pz d m
  ·rcases List.mem_append.mp m with m|m
   ·exact g.pz d m
   ·rw[List.mem_singleton.mp m]
    exact⟨by show(-10:Int)≤0;decide,by show(0:Int)≤10;decide,by show(-10:Int)≤0;decide,by show(0:Int)≤10;decide⟩
 have bD:(∀d∈A++(gA++[.box 2 w]),d.bD)∧∀d∈B++((ar tl++gB)++(bB ld++c)),d.bD:=by
  refine⟨fun d m=> ?_,fun d m=> ?_⟩
  ·rcases List.mem_append.mp m with m|m
   ·exact h.bD.1 d m
   ·rcases List.mem_append.mp m with m|m
    ·exact g.bD.1 d m
    ·rw[List.mem_singleton.mp m];trivial
  ·rcases List.mem_append.mp m with m|m
   ·exact h.bD.2 d m
   ·rcases List.mem_append.mp m with m|m
    ·rcases List.mem_append.mp m with m|m
     ·exact iL.2 d m
     ·exact g.bD.2 d m
    ·rcases List.mem_append.mp m with m|m
     ·exact iL.1 d m
     ·exact hc.bD d m
 cases oA with
 |none=>
  cases oB with
  |some _=>exact hm.elim
  |none=>
   refine⟨R,⟨?_,?_,fun p m=>(h.pr p m).ext _ _ _,h.ord,iX,bad,len,pz,bD⟩,Nat.le_succ _⟩
   ·intro r;rw[lA];simp
   ·intro r;rw[lB];simp
 |some a=>
  cases oB with
  |none=>exact hm.elim
  |some b=>
   obtain⟨e1,e2,e3,e4,e5,e6⟩:=hm
   obtain⟨ka,Tv⟩:=uA.row a rfl
   obtain⟨kb,Tw⟩:=uB.row b rfl
   have hp:O6 (A++(gA++[Nd.box 2 w])) (B++((ar tl++gB)++(bB ld++c))) (mv++(uD.map (((B++ar tl).length:Int)+·)++[x])) (O8 A gA a 0,O8 B (ar tl++gB) b (bB ld).length):=by
    refine⟨fun r=> ?_,fun r=> ?_,?_,?_,?_,?_⟩
    ·have:=Tv A ([.box 2 w]++r) (hA r)
     have z:skip ([.box 2 w]++r)=0:=hb.Tu r
     rw[z] at this
     simp only[List.append_assoc] at this ⊢
     exact this
    ·have:=Tw B (bB ld++(c++r)) (qx hc r)
     rw[px hc] at this
     simp only[List.append_assoc] at this ⊢
     exact this
    ·simp only[O8,Row.core,Core.mk.injEq]
     refine⟨e1,e2,?_,?_⟩
     ·rw[h.iX,aZ (ar tl),eM,Sm.zero_add,g.iX,e5]
     ·rw[h.iX,e3,e4]
    ·show(mv++_)[A.length+a.k]? =some (((B.length+b.k:Nat):Int))
     rw[←h.len,qw,List.getElem?_append_left (by rw[List.length_map];exact(List.getElem?_eq_some_iff.mp e6).1),List.getElem?_map,e6]
     show some (((B++ar tl).length:Int)+((b.k:Int) - ((ar tl).length:Int)))=_
     rw[List.length_append]
     exact congrArg some Ju
    ·constructor
     ·show A.length+(gA.length+(if a.sk then 0 else 0))≤_
      rw[List.length_append,List.length_append]
      split<;>exact Nat.add_le_add_left (Nat.le_add_right _ _) _
     ·show B.length+((ar tl++gB).length+(if b.sk then(bB ld).length else 0))≤_
      simp only[List.length_append]
      split
      ·exact Nat.add_le_add_left (Nat.add_le_add_left (Nat.le_add_right _ _) _) _
      ·exact Nat.add_le_add_left (Nat.add_le_add_left (Nat.zero_le _) _) _
    ·show A.length+a.k<_
     rw[List.length_append,List.length_append];exact Nat.add_lt_add_left (Nat.lt_add_right _ ka) _
   refine⟨R++[(O8 A gA a 0,O8 B (ar tl++gB) b (bB ld).length)],⟨?_,?_,?_,?_,iX,bad,len,pz,bD⟩,by simp⟩
   ·intro r;rw[lA,Hy,Hy,List.map_append];rfl
   ·intro r;rw[lB,Hz,Hz,List.map_append];rfl
   ·intro p m
    rcases List.mem_append.mp m with m|m
    ·exact(h.pr p m).ext _ _ _
    ·rw[List.mem_singleton.mp m];exact hp
   ·intro i k p q Fo hi hk
    rcases Nat.lt_or_ge k R.length with y|y
    ·rw[List.getElem?_append_left y] at hk
     rw[List.getElem?_append_left (by exact Nat.lt_trans Fo y)] at hi
     exact h.ord i k p q Fo hi hk
    ·rw[List.getElem?_append_right y] at hk
     have y0:k - R.length=0:=by
      have:=(List.getElem?_eq_some_iff.mp hk).1
      simp at this;exact this
     rw[y0] at hk
     cases hk
     rw[List.getElem?_append_left (Nat.lt_of_lt_of_le Fo (Nat.le_of_sub_eq_zero y0))] at hi
     have:=(h.pr p (List.mem_of_getElem? hi)).st
     exact⟨Nat.le_trans this.1 (Nat.le_add_right _ _),Nat.le_trans this.2 (Nat.le_add_right _ _)⟩
theorem uE{hp xp:Int}{l:List Nd}:∀{may cP:Bool} {i:Nat} {b:Nat×Int×Int},b∈aR hp xp may cP i l→-10000≤b.2.1∧b.2.1≤10000:=by
 induction l with
 |nil=>
  intro _ _ _ _ h
  exact absurd h List.not_mem_nil
 |cons d r ih=>
  intro may cP i b h
  rw[gw] at h
  rcases List.mem_append.mp h with h|h
  ·split at h
   ·rename_i q
    rw[List.mem_singleton] at h;subst h
    unfold eu
    dsimp only
    split
    ·exact⟨by decide,by decide⟩
    ·exact⟨Int.not_lt.mp ‹_›,Int.le_of_lt q⟩
   ·simp at h
  ·exact ih h
theorem lX{x y:Int}{n:Nat}(h1: -(10 * n:Int)≤x)(h2:x≤10 * n)(h3: -10≤y)(h4:y≤10): -(10 * (n+1:Nat):Int)≤y+x∧y+x≤10 * (n+1:Nat):=by exact I8 h1 h2 h3 h4
theorem BI(l:List Nd):(∀d∈l,yF d)→-(10 * l.length:Int)≤(total l).b∧(total l).b≤10 * l.length∧-(10 * l.length:Int)≤(total l).f∧(total l).f≤10 * l.length:=by
 induction l with
 |nil=>
  intro _;simp[jR,Sm.zero]
 |cons d r ih=>
  intro h
  obtain⟨a1,a2,a3,a4⟩:=ih fun x m=>h x (List.mem_cons_of_mem _ m)
  obtain⟨b1,b2,b3,b4⟩:=h d (List.mem_cons_self ..)
  exact⟨(lX a1 a2 b1 b2).1,(lX a1 a2 b1 b2).2,(lX a3 a4 b3 b4).1,(lX a3 a4 b3 b4).2⟩
theorem lY{l:List Nd}(h:∀d∈l,yF d)(hl:l.length≤1000)(n:Nat)(x:Int):Bd ((total (l.take n)).widen x):=by
 have:=BI (l.take n) fun d m=>h d (List.mem_of_mem_take m)
 rw[List.length_take] at this
 unfold Bd Sm.widen
 dsimp only
 exact IU hl this
theorem HA{l:List Nd}(h:∀d∈l,yF d)(hl:l.length≤1000)(b:Nat×Int×Int):Bd (rowOf l b).bg∧Bd (rowOf l b).en:=by
 refine jS (Q:=fun r=>Bd r.bg∧Bd r.en) (fun _ _ _ _=> ?_) ?_
 ·exact⟨lY h hl _ _,lY h hl _ _⟩
 ·exact⟨by have:=lY h hl (aU l b.1) 0;rwa [Sm.gO] at this,by have:=lY h hl b.1 0;rwa [Sm.gO] at this⟩
theorem sx(l:List Nd):rowOf l (l.length,-10000,1)=⟨l.length,-10000,1,l.length,total l,total l⟩:=by
 revert l
 apply aI;intro
 generalize nx .. =l
 have g:l[l.length]? =none:=List.getElem?_eq_none (Nat.le_refl _)
 have s:aU l l.length=l.length:=by
  unfold aU
  rw[g,List.drop_length]
  rfl
 unfold rowOf
 dsimp only
 rw[g]
 dsimp only
 rw[s,List.take_length]
theorem sy{S:bp}{m:Bool}{u:List Nd}{i:Nat}(h:dI S m u none):aR S.bS S.ex m true i u=[]:=by
 obtain⟨b,e⟩:=h.scan i [] ⟨rfl,rfl⟩
 rw[List.append_nil] at e
 rw[e];rfl
theorem gP{α:Type}{l:List α}{x y:α}{i:Nat}(h:(l++[x])[i]? =some y):l[i]? =some y∨(i=l.length∧y=x):=by
 rcases Nat.lt_or_ge i l.length with q|q
 ·rw[List.getElem?_append_left q] at h;exact .inl h
 ·rw[List.getElem?_append_right q] at h
  have z:=(List.getElem?_eq_some_iff.mp h).1
  have:i - l.length=0:=by simp at z;exact z
  rw[this] at h
  cases h
  exact .inr ⟨by exact PJ q this,rfl⟩
structure uF(S:bp)(a b:List Nd)(m:List Int):Prop where
 core:(rowsOf S a).map Row.core=(rowsOf S b).map Row.core
 O7:∀(i:Nat) (p q:Row),(rowsOf S a)[i]? =some p→(rowsOf S b)[i]? =some q→m[p.place]? =some (q.place:Int)
 VK:kH (rowsOf S a)
 Ys:kH (rowsOf S b)
 bad:cN a=cN b
 bD:(∀d∈a,d.bD)∧∀d∈b,d.bD
theorem Pf.fin{S:bp}{tl:Bool}{A B eA eB:List Nd}{mv oF:List Int}{R:List (Row×Row)}(h:Pf S tl A B mv R)(uA:dI S true eA none)(uB:dI S (!tl) (ar tl++eB) none)(iX:total eA=total eB)(bad:cN eA=cN eB)
  (pz:∀d∈eA,yF d) (bD:(∀d∈eA,d.bD)∧∀d∈eB,d.bD) (len:oF.length=eA.length) (hR:R.length≤5) (hl:(A++eA).length≤1000):
  uF S (A++eA) (B++(ar tl++eB)) (mv++oF++[((B++(ar tl++eB)).length:Int)]):=by
 revert S tl A B eA eB mv oF R
 apply aQ;intro
 generalize bT .. =S,bU .. =tl,bV .. =A,bW .. =B,cj .. =eA,ck .. =eB,cm .. =mv,cp .. =oF
 apply aI;intro
 generalize nx .. =R
 intro h uA uB iX bad pz bD len hR hl
 generalize ha:A++eA=a at hl ⊢
 generalize hb:B++(ar tl++eB)=b
 have ba:bj S a=Hy R++[(a.length,-10000,1)]:=by
  unfold bj;rw[←ha,h.la,sy uA,List.append_nil]
 have bb:bj S b=Hz R++[(b.length,-10000,1)]:=by
  unfold bj;rw[←hb,h.lb,sy uB,List.append_nil]
 have ra:rowsOf S a=R.map (·.1)++[⟨a.length,-10000,1,a.length,total a,total a⟩]:=by
  unfold rowsOf
  rw[ba,List.map_append,List.map_cons,List.map_nil,sx,Hy,List.map_map]
  congr 1
  refine List.map_congr_left fun p m=> ?_
  have:=(h.pr p m).ra eA
  rw[ha] at this;exact this
 have rb:rowsOf S b=R.map (·.2)++[⟨b.length,-10000,1,b.length,total b,total b⟩]:=by
  unfold rowsOf
  rw[bb,List.map_append,List.map_cons,List.map_nil,sx,Hz,List.map_map]
  congr 1
  refine List.map_congr_left fun p m=> ?_
  have:=(h.pr p m).rb (ar tl++eB)
  rw[hb] at this;exact this
 have tab:total a=total b:=by
  rw[←ha,←hb];simp only[aZ,eM,Sm.zero_add,h.iX,iX]
 have core:(rowsOf S a).map Row.core=(rowsOf S b).map Row.core:=by
  rw[ra,rb,List.map_append,List.map_append,List.map_map,List.map_map]
  congr 1
  ·exact List.map_congr_left fun p m=>(h.pr p m).core
  ·simp only[List.map_cons,List.map_nil,Row.core,tab]
 have Yt:∀d∈a,yF d:=by
  intro d m
  rw[←ha] at m
  rcases List.mem_append.mp m with m|m
  ·exact h.pz d m
  ·exact pz d m
 have VL:∀r∈rowsOf S a,Bd r.bg∧Bd r.en∧-10000≤r.pen∧r.pen≤10000:=by
  intro r m
  obtain⟨x,mx,e⟩:=List.mem_map.mp m
  have hp:r.pen=x.2.1:=by rw[←e];exact jS (Q:=fun r=>r.pen=x.2.1) (fun _ _ _ _=>rfl) rfl
  have:=HA Yt hl x
  rw[e] at this
  refine⟨this.1,this.2,?_⟩
  rw[hp]
  rcases List.mem_append.mp mx with mx|mx
  ·exact uE mx
  ·rw[List.mem_singleton.mp mx];exact⟨Int.le_refl _,by show(-10000:Int)≤10000;decide⟩
 have la:A.length≤a.length:=by rw[←ha,List.length_append];exact Nat.le_add_right _ _
 have lb:B.length≤b.length:=by rw[←hb,List.length_append];exact Nat.le_add_right _ _
 refine⟨core,?_,⟨?_,?_,VL⟩,⟨?_,?_,?_⟩,?_,?_,?_⟩
 ·intro i p q hp hq
  rw[ra] at hp
  rw[rb] at hq
  rcases gP hp with hp|⟨ei,ep⟩
  ·rcases gP hq with hq|⟨ei,eq⟩
   ·rw[List.getElem?_map] at hp hq
    cases hx:R[i]? with
    |none=>rw[hx] at hp;cases hp
    |some x=>
     rw[hx] at hp hq
     cases hp;cases hq
     have:=(h.pr x (List.mem_of_getElem? hx)).O7
     rw[List.append_assoc,List.getElem?_append_left (List.getElem?_eq_some_iff.mp this).1]
     exact this
   ·have:=(List.getElem?_eq_some_iff.mp hp).1
    rw[List.length_map] at this ei;lia
  ·rcases gP hq with hq|⟨Zs,eq⟩
   ·have:=(List.getElem?_eq_some_iff.mp hq).1
    rw[List.length_map] at this ei;lia
   ·subst ep eq
    have:a.length=(mv++oF).length:=by rw[←ha,List.length_append,List.length_append,h.len,len]
    show(mv++oF++[(b.length:Int)])[a.length]? =some (b.length:Int)
    rw[this,List.getElem?_append_right (Nat.le_refl _),Nat.sub_self];rfl
 ·rw[ra];simp;exact hR
 ·intro i k ri rk Fo hi hk
  rw[ra] at hi hk
  rcases gP hi with hi|⟨ei,_⟩
  ·rw[List.getElem?_map] at hi
   cases hx:R[i]? with
   |none=>rw[hx] at hi;cases hi
   |some x=>
    rw[hx] at hi;cases hi
    rcases gP hk with hk|⟨_,ek⟩
    ·rw[List.getElem?_map] at hk
     cases hy:R[k]? with
     |none=>rw[hy] at hk;cases hk
     |some y=>rw[hy] at hk;cases hk;exact(h.ord i k x y Fo hx hy).1
    ·subst ek;exact Nat.le_trans (h.pr x (List.mem_of_getElem? hx)).st.1 la
  ·have:=(List.getElem?_eq_some_iff.mp hk).1
   rw[List.length_append,List.length_singleton] at this;exact Ji Fo ei this
 ·rw[rb];simp;exact hR
 ·intro i k ri rk Fo hi hk
  rw[rb] at hi hk
  rcases gP hi with hi|⟨ei,_⟩
  ·rw[List.getElem?_map] at hi
   cases hx:R[i]? with
   |none=>rw[hx] at hi;cases hi
   |some x=>
    rw[hx] at hi;cases hi
    rcases gP hk with hk|⟨_,ek⟩
    ·rw[List.getElem?_map] at hk
     cases hy:R[k]? with
     |none=>rw[hy] at hk;cases hk
     |some y=>rw[hy] at hk;cases hk;exact(h.ord i k x y Fo hx hy).2
    ·subst ek;exact Nat.le_trans (h.pr x (List.mem_of_getElem? hx)).st.2 lb
  ·have:=(List.getElem?_eq_some_iff.mp hk).1
   rw[List.length_append,List.length_singleton] at this;lia
 ·intro r m
  obtain⟨i,hi⟩:=List.getElem?_of_mem m
  have hc:((rowsOf S b).map Row.core)[i]? =some r.core:=by rw[List.getElem?_map,hi];rfl
  rw[←core,List.getElem?_map] at hc
  cases hx:(rowsOf S a)[i]? with
  |none=>rw[hx] at hc;cases hc
  |some x=>
   rw[hx] at hc
   have e:x.core=r.core:=Option.some.inj hc
   have:=VL x (List.mem_of_getElem? hx)
   simp only[Row.core,Core.mk.injEq] at e
   obtain⟨e1,_,e3,e4⟩:=e
   rw[e1,e3,e4] at this
   exact this
 ·rw[←ha,←hb];simp only[d7,jT.2,h.bad,bad,Bool.false_or]
 ·intro d m
  rw[←ha] at m
  rcases List.mem_append.mp m with m|m
  ·exact h.bD.1 d m
  ·exact bD.1 d m
 ·intro d m
  rw[←hb] at m
  rcases List.mem_append.mp m with m|m
  ·exact h.bD.2 d m
  ·rcases List.mem_append.mp m with m|m
   ·exact iL.2 d m
   ·exact bD.2 d m
def eU.uG(s:eU):Prop:=∀g m,cH g s.least=some m→∃k b,cH k s.best=some b∧k.fdiv 4=g∧b.cQ=m
theorem uH(x y:Int):(fD x y=x∧x≤y)∨(fD x y=y∧y<x):=by unfold fD;split;exact .inr ⟨rfl,‹_›⟩;exact .inl ⟨rfl,Int.not_lt.mp ‹_›⟩
theorem yG{g f:Int}{b:ui}{s:eU}(h:s.uG)(hh:s.has)(h0:0≤f)(h4:f<4):(jh g f b s).uG:=by
 revert g f b s
 apply aO;intro
 generalize bL .. =g,bM .. =f,bQ .. =b,bR .. =s
 intro h hh h0 h4
 unfold jh
 split
 ·rename_i hb
  intro g' m e
  dsimp only at e ⊢
  rw[fF] at e
  by_cases q:g=g'
  ·subst q
   rw[if_pos rfl] at e
   cases e
   cases hm:cH g s.least with
   |none=>
    refine⟨4 * g+f,b,by rw[fF,if_pos rfl],lW h0 h4,?_⟩
    show b.cQ=fD b.cQ b.cQ
    unfold fD;split<;>rfl
   |some m=>
    rcases uH b.cQ m with⟨c1,c2⟩|⟨c1,c2⟩
    ·exact⟨4 * g+f,b,by rw[fF,if_pos rfl],lW h0 h4,c1.symm⟩
    ·obtain⟨k,b',e1,e2,e3⟩:=h g m hm
     refine⟨k,b',?_,e2,by rw[e3];exact c1.symm⟩
     rw[fF,if_neg]
     ·exact e1
     ·rintro rfl
      rw[e1] at hb
      have:b.cQ≤b'.cQ:=by simpa [vK] using hb
      exact absurd (Int.lt_of_lt_of_le c2 (e3▸this)) (Int.lt_irrefl _)
  ·rw[if_neg q] at e
   obtain⟨k,b',e1,e2,e3⟩:=h g' m e
   refine⟨k,b',?_,e2,e3⟩
   rw[fF,if_neg]
   ·exact e1
   ·rintro rfl;exact q ((lW h0 h4).symm.trans e2)
 ·exact h
theorem uI{T:eY}{cs:List Core}{c:Core}{isEnd:Bool}{len k:Nat}{w:Wy}{s:eU}(h:s.uG)(hh:s.has):(fE T cs c isEnd len k w s).uG:=by
 unfold fE
 dsimp only
 split
 ·exact h
 ·exact yG h hh (gN _ _).1 (gN _ _).2
theorem uJ{T:eY}{cs:List Core}{c:Core}{isEnd:Bool}{len:Nat}(l:List Wy):∀(k:Nat) (s:eU),s.uG→s.has→(fQ T cs c isEnd len k l s).uG:=by
 induction l with
 |nil=>
  exact fun _ _ h _=>h
 |cons _ l ih=>
  exact fun k _ h hh=>ih (k+1) _ (uI h hh) (pd hh)
theorem HB{α:Type}(k:Int)(v:α)(l:List (Int×α)):putK k v l≠[]:=by
 cases l with
 |nil=>exact List.cons_ne_nil _ _
 |cons x r=>obtain⟨j,u⟩:=x;rw[kE];split<;>exact List.cons_ne_nil _ _
def eU.full(s:eU):Prop:=s.kept≠[]∨s.best≠[]
theorem kI{g f:Int}{b:ui}{s:eU}(h:s.full∨s.best=[]):(jh g f b s).full:=by
 unfold jh
 split
 ·exact .inr (HB _ _ _)
 ·rename_i hb
  rcases h with h|h
  ·exact h
  ·rw[h] at hb;exact absurd rfl hb
theorem uK{T:eY}{cs:List Core}{c:Core}{isEnd:Bool}{len k:Nat}{w:Wy}{s:eU}(hT:T.last=true)(h:s.full∨k+1=len):(fE T cs c isEnd len k w s).full:=by
 revert T cs c isEnd len k w s
 apply aQ;intro
 generalize bT .. =T,bU .. =cs,bV .. =c,bW .. =isEnd,cj .. =len,ck .. =k,cm .. =w,cp .. =s
 intro hT h
 unfold fE
 dsimp only
 cases hc:gZ (qr T cs c w).1 c.pen with
 |false=>
  rw[Bool.false_and]
  have:(⟨s.kept++[w],s.best,s.least⟩:eU).full:=.inl (by simp)
  split
  ·exact this
  ·exact kI (.inl this)
 |true=>
  rw[Bool.true_and,if_pos rfl]
  by_cases hf:s.full
  ·split
   ·exact hf
   ·exact kI (.inl hf)
  ·have hk:s.kept=[]:=Decidable.byContradiction fun x=>hf (.inl x)
   have hb:s.best=[]:=by
    cases e:s.best with
    |nil=>rfl
    |cons _ _=>exact absurd (.inr (by rw[e];simp)) hf
   have hl:k+1=len:=h.resolve_left hf
   have hr:yv T s (decide (k+1=len))=true:=by
    unfold yv;rw[hT,hk,hb,decide_eq_true hl];rfl
   rw[hr,if_neg (by rintro⟨_,x⟩;cases x)]
   exact kI (.inr hb)
theorem uL{T:eY}{cs:List Core}{c:Core}{isEnd:Bool}{len:Nat}(hT:T.last=true)(l:List Wy):∀(k:Nat) (s:eU),(s.full∨l≠[])→k+l.length=len→(fQ T cs c isEnd len k l s).full:=by
 induction l with
 |nil=>
  intro _ _ h _
  exact h.resolve_right (fun x=>x rfl)
 |cons w l ih=>
  intro k s h e
  refine ih (k+1) _ ?_ (by rw[List.length_cons] at e;exact(Nat.add_right_comm _ 1 _).trans e)
  cases l with
  |nil=>exact .inl (uK hT (.inr e))
  |cons _ _=>exact .inr (by simp)
theorem yH{T:eY}{j:Nat}{s:eU}(h:s.full)(hh:s.has)(hb:s.uG):pClose T j s≠[]:=by
 revert T j s
 apply aM;intro
 generalize bI .. =T,bJ .. =j
 apply aI;intro
 generalize nx .. =s
 intro h hh hb
 unfold pClose
 intro e
 rw[List.append_eq_nil_iff] at e
 rcases h with h|h
 ·exact h e.1
 ·cases e':s.best with
  |nil=>exact h e'
  |cons x r=>
   obtain⟨k0,Yu⟩:∃k,k∈s.best.map (·.1):=⟨x.1,by rw[e'];simp⟩
   obtain⟨b0,e0⟩:=kG Yu
   obtain⟨m,hm⟩:=hh k0 b0 e0
   obtain⟨k,b,e1,e2,e3⟩:=hb _ m hm
   have DB:k∈bZ (s.best.map (·.1)):=(sj _ _).mpr (List.mem_map.mpr ⟨_,kF e1,rfl⟩)
   have hn:lJ T j s k=[⟨j::b.way.path,b.line,k.fmod 4,b.cQ⟩]:=by
    unfold lJ
    rw[e1,e2,hm]
    dsimp only
    rw[if_pos]
    rw[e3]
    have:0≤fY T.S.qE:=by unfold fY;split<;>lia
    exact Int.le_add_of_nonneg_right this
   have:(⟨j::b.way.path,b.line,k.fmod 4,b.cQ⟩:Wy)∈(bZ (s.best.map (·.1))).flatMap (lJ T j s):=List.mem_flatMap.mpr ⟨k,DB,by rw[hn];simp⟩
   rw[e.2] at this
   cases this
theorem BJ{T:eY}{cs:List Core}{j:Nat}{c:Core}{isEnd:Bool}{l:List Wy}(hT:T.last=true)(h:l≠[]):gx T cs j c isEnd l≠[]:=
 yH (uL hT l 0 _ (.inr h) (Nat.zero_add _)) (pe _ _ _ (fun k b e=>by cases e)) (uJ _ _ _ (fun g m e=>by cases e) (fun k b e=>by cases e))
theorem Eh{T:eY}{cs:List Core}(hT:T.last=true)(r:List Core):∀(j:Nat) (a:List Wy),a≠[]→∃a',nF T cs j r a=some a'∧a'≠[]:=by
 induction r with
 |nil=>
  intro _ a h
  exact⟨a,rfl,h⟩
 |cons c r ih=>
  intro j a h
  have hn:=BJ (cs:=cs) (j:=j) (c:=c) (isEnd:=r.isEmpty) hT h
  rw[uu,if_neg (by rw[List.isEmpty_iff];exact hn)]
  exact ih (j+1) _ hn
theorem yI{T:eY}{cs:List Core}(hT:T.last=true):∃p,dR T cs=some p:=by
 revert T cs
 apply aM;intro
 generalize bI .. =T,bJ .. =cs
 intro hT
 obtain⟨a,e,h⟩:=Eh (cs:=cs) hT cs 0 [⟨[],T.dA.done,2,0⟩] (by simp)
 unfold dR
 rw[e]
 cases a with
 |nil=>exact absurd rfl h
 |cons w r=>
  show ∃p,uv T (w::r)=some p
  unfold uv
  dsimp only
  rw[if_neg (by rintro⟨_,x⟩;rw[hT] at x;cases x)]
  exact⟨_,rfl⟩
noncomputable def IK(k w h d:Int)(v:PV):List (Nat×PV):=[(5,.int k),(0,.int w),(6,.int h),(7,.int d),(8,v),(9,.int 0),(10,.int 0),(11,.int 0),(12,.tup [.int 0,.int 1])]
def Dv(a:PV):Prop:=a=.none∨∃x,a=.int x∧Dm x
section
variable {ns:List Int}{n:Nat}{H:aa}{R:PV→aa→Prop}{E:XK→aa→Prop}
theorem O9{k w h d:Int}{v:PV}(hk:2≤k∧k≤3)(hw:Dm w)(hh:Dm h)(hd:Dm d)(kk:R (.ref H.length) (H++[.inst 279 (IK k w h d v)])):Wc (cC (aP ns) (aj (aP ns) (n+3)) 279 [.int k,.int w,.int h,.int d,v] H) R E:=
 make rfl (aT rfl rfl (kA hk.1 hk.2 (aB (dH hw (aB (dH hh (aB (dH hd (aB (aB (aB (aB (aB (aB kk))))))))))))))
theorem Tz{w s:Int}(hs:0≤s∧s≤3)(hw:Dm w)(k:R (.ref H.length) (H++[.inst 321 [(0,.int w),(13,.int s)]])):Wc (cC (aP ns) (aj (aP ns) (n+3)) 321 [.int w,.int s] H) R E:=
 make rfl (aT rfl rfl (kA hs.1 hs.2 (dH hw (aB (aB k)))))
theorem TA{v:Int}(hv:Nm v)(k:R (.ref H.length) (H++[.inst 364 [(16,.int v)]])):Wc (cC (aP ns) (aj (aP ns) (n+3)) 364 [.int v] H) R E:=
 make rfl (aT rfl rfl (rR hv (aB k)))
theorem TB{b:Bool}{w:Int}(hw:Dm w)(k:R (.ref H.length) (H++[.inst 469 [(25,.bool b),(0,.int w)]])):Wc (cC (aP ns) (aj (aP ns) (n+3)) 469 [.bool b,.int w] H) R E:=
 make rfl (aT rfl rfl (aB (dH hw (aB k))))
theorem TC{v:PV}(k:R (.ref H.length) (H++[.inst 448 [(8,v)]])):Wc (cC (aP ns) (aj (aP ns) (n+1)) 448 [v] H) R E:=
 make rfl (aT rfl rfl (aB k))
theorem TF{r:Nat}{l:List PV}(hr:H[r]? =some (.list l))(hl:l.length<1000)(k:R (.ref H.length) (H++[.inst 406 [(20,.tup l)]])):Wc (cC (aP ns) (aj (aP ns) (n+1)) 406 [.ref r] H) R E:=
 make rfl (aT rfl rfl (.of ((Pre.app _ (.refl _)).get hr) (.of (Nat.lt_trans hl (by decide)) (aB k))))
theorem TG{a b c e:Int}{t v:PV}(ha:0≤a∧a≤254)(hb:Dm b)(hc:Dm c)(he:Nm e)(k:R (.ref H.length) (H++[.inst 427 [(21,.int a),(22,.int b),(7,.int c),(23,t),(24,.int e),(8,v)]])):
  Wc (cC (aP ns) (aj (aP ns) (n+3)) 427 [.int a,.int b,.int c,t,.int e,v] H) R E:=
 make rfl (aT rfl rfl (kA ha.1 ha.2 (aB (dH hb (aB (dH hc (aB (aB (rR he (aB (aB k)))))))))))
theorem Pa{a b c:PV}(ha:Dv a)(hb:Dv b)(hc:Dv c)(k:R (.ref H.length) (H++[.inst 300 [(0,a),(6,b),(7,c)]])):Wc (cC (aP ns) (aj (aP ns) (n+3)) 300 [a,b,c] H) R E:=by
 revert ns n H R E a b c
 apply aQ;intro
 generalize bT .. =ns,bU .. =n,bV .. =H,bW .. =R,cj .. =E,ck .. =a,cm .. =b,cp .. =c
 intro ha hb hc k
 refine make rfl (aT rfl rfl (.of (by decide:3<1000) ?_))
 refine qk (fun _ y=>[some (.ref H.length),some a,some b,some c,y]) (fun _ _=>H++[.inst 300 []]) (fun _ _=>True) none [a,b,c] trivial (fun i y v _ hv=> ?_) fun y _=> ?_
 rotate_left
 ·exact aB (aB (aB k))
 have all:∀x∈[a,b,c],Dv x:=by simp[ha,hb,hc]
 rcases all v (List.mem_of_getElem? hv) with rfl|⟨i,rfl,hi⟩
 ·exact⟨_,rfl,rfl,trivial⟩
 ·exact dH hi ⟨_,rfl,rfl,trivial⟩
theorem TH{g:PV}{s:Int}(hs:s=0∨(100≤s∧s≤199))(k:R (.ref H.length) (H++[.inst 343 [(14,g),(13,.int s),(15,.none)]])):Wc (cC (aP ns) (aj (aP ns) (n+3)) 343 [g,.int s] H) R E:=by
 revert ns n H R E g s
 apply aO;intro
 generalize bL .. =ns,bM .. =n,bQ .. =H,bR .. =R
 apply aM;intro
 generalize bI .. =E,bJ .. =g
 apply aI;intro
 generalize nx .. =s
 intro hs k
 refine make rfl (o9 rfl rfl ?_)
 rcases hs with rfl|hs
 ·exact kA (by decide) (by decide) (.neg (by decide) (.neg nofun (aB (aB (aB k)))))
 ·exact OC (by exact fun q=>absurd (Int.le_trans hs.1 q.2) (by decide)) (kA hs.1 hs.2 (.pos (by exact jk hs.1 rfl) (.neg (by rw[decide_eq_false (by exact fun q=>absurd (Int.le_trans hs.1 q) (by decide))];nofun) (aB (aB (aB k))))))
theorem Pb{g:PV}{r:Nat}{s:Int}(hs:1≤s∧s≤3)(hr:Aq H (.ref r) 5 (.int 4))(k:R (.ref H.length) (H++[.inst 343 [(14,g),(13,.int s),(15,.ref r)]])):Wc (cC (aP ns) (aj (aP ns) (n+3)) 343 [g,.int s,.ref r] H) R E:=by
 refine make rfl (o9 rfl rfl (kA (by exact jk hs.1 rfl) (by exact qF hs.2 rfl) (.pos hs.1 (.neg (by rw[decide_eq_true hs.2];nofun) (.of ((hr.pre (Pre.app _ (.refl H))) ns) (.pos (by decide) (.pos (by decide) (aB (aB (aB k))))))))))
theorem Pc{r:Nat}{w st so sh bN:Int}(h:H[r]? =some (.inst 227 (uq w st so sh bN)))(k:R (.tup [.int w,.int st,.int (if st=0 then 0 else so),.int sh,.int (if sh=0 then 0 else bN)]) H):Wc (aj (aP ns) (n+1) 181 [.ref r] H) R E:=
 aT rfl rfl (.of (aA h rfl rfl ns) (.of (aA h rfl rfl ns) (.of (aA h rfl rfl ns) (.of (aA h rfl rfl ns) (.of (aA h rfl rfl ns) k)))))
end
structure aE(M:List Nat)(H H':aa):Prop where
 len:H.length≤H'.length
 at_:∀i o,i∉M→H[i]? =some o→H'[i]? =some o
theorem aE.refl{M:List Nat}(H:aa):aE M H H:=⟨Nat.le_refl _,fun _ _ _ h=>h⟩
theorem aE.trans{M:List Nat}{H rT rU:aa}(a:aE M H rT)(b:aE M rT rU):aE M H rU:=⟨Nat.le_trans a.len b.len,fun i o m h=>b.at_ i o m (a.at_ i o m h)⟩
theorem Pre.keep{M:List Nat}{H H':aa}(p:Pre H H'):aE M H H':=⟨p.len,fun _ _ _ h=>p.get h⟩
theorem aE.app{M:List Nat}{H H':aa}(a:aE M H H')(J:aa):aE M H (H'++J):=a.trans (Pre.app J (.refl _)).keep
theorem aE.set{M:List Nat}{H H':aa}{r:Nat}{o:aF}(a:aE M H H')(h:r∈M∨H.length≤r):aE M H (H'.set r o):=by
 refine⟨by rw[List.length_set];exact a.len,fun i x m e=> ?_⟩
 have hi:=(List.getElem?_eq_some_iff.mp e).1
 rw[bz (by rintro rfl;rcases h with h|h;exact m h;exact absurd h (Nat.not_le.mpr hi))]
 exact a.at_ i x m e
structure At(M:List Nat)(H:aa)(r:Nat)(o:aF):Prop where
 at_:H[r]? =some o
 nO:r∉M
theorem At.keep{M:List Nat}{H H':aa}{r:Nat}{o:aF}(k:aE M H H')(h:At M H r o):At M H' r o:=⟨k.at_ _ _ h.nO h.at_,h.nO⟩
def Ei(M:List Nat)(H:aa):Prop:=∀i∈M,i<H.length
theorem Ei.keep{M:List Nat}{H H':aa}(k:aE M H H')(h:Ei M H):Ei M H':=fun i m=>Nat.lt_of_lt_of_le (h i m) k.len
theorem Ei.new{M:List Nat}{H:aa}(h:Ei M H)(o:aF):At M (H++[o]) H.length o:=⟨aX,fun m=>Nat.lt_irrefl _ (h _ m)⟩
theorem Ei.app{M:List Nat}{H:aa}(h:Ei M H)(J:aa):Ei M (H++J):=h.keep ((aE.refl H).app J)
def dG(M:List Nat)(H:aa)(v:PV)(d:Nd):Prop:=∀H',aE M H H'→iy H' v d
theorem dG.keep{M:List Nat}{H H':aa}{v:PV}{d:Nd}(k:aE M H H')(h:dG M H v d):dG M H' v d:=fun nY k'=>h nY (k.trans k')
theorem dG.now{M:List Nat}{H:aa}{v:PV}{d:Nd}(h:dG M H v d):iy H v d:=h H (.refl _)
theorem dG.all{M:List Nat}{H H':aa}{vs:List PV}{l:List Nd}(k:aE M H H')(h:bu (dG M H) vs l):bu (dG M H') vs l:=h.mono fun _ _ x=>x.keep k
theorem dG.of{M:List Nat}{H:aa}{r c:Nat}{fs:List (Nat×PV)}{d:Nd}(h:At M H r (.inst c fs))(f:∀H',H'[r]? =some (.inst c fs)→iy H' (.ref r) d):dG M H (.ref r) d:=fun H' k=>f H' (h.keep k).at_
section
variable {M:List Nat}{H:aa}{r:Nat}
theorem eW{c n:Nat}{fs:List (Nat×PV)}{x:PV}{k:ClsRec}(h:H[r]? =some (.inst c fs))(hb:dS.contains (c,n)=false)(hx:bA n fs=none)(hc:bA c ml=some k)(hk:bA n k.mh=some x):Aq H (.ref r) n x:=by
 intro ns
 show j2 _ _ _=_
 rw[h]
 show(if _ then _ else _)=_
 rw[show(aP ns).bad=dS from rfl,hb,if_neg (by decide),hx,show(aP ns).pO=ml from rfl,hc]
 exact hk
theorem Pd{k w h d:Int}{v:PV}(hk:k=2∨k=3)(a:At M H r (.inst 279 (IK k w h d v))):dG M H (.ref r) (.box k w):=
 .of a fun _ g=>⟨hk,aA g rfl rfl,aA g rfl rfl⟩
theorem HC{w:Int}{b c:PV}(a:At M H r (.inst 300 [(0,.int w),(6,b),(7,c)])):dG M H (.ref r) (.rule w):=
 .of a fun _ g=>⟨eW g rfl rfl rfl rfl,aA g rfl rfl⟩
theorem HD{w s:Int}(a:At M H r (.inst 321 [(0,.int w),(13,.int s)])):dG M H (.ref r) (.bF w s):=
 .of a fun _ g=>⟨eW g rfl rfl rfl rfl,aA g rfl rfl,aA g rfl rfl⟩
theorem Pe{w:Int}(a:At M H r (.inst 364 [(16,.int w)])):dG M H (.ref r) (.pen w):=
 .of a fun _ g=>⟨eW g rfl rfl rfl rfl,aA g rfl rfl⟩
theorem HE{b:Bool}{w:Int}(a:At M H r (.inst 469 [(25,.bool b),(0,.int w)])):dG M H (.ref r) (.math b w):=
 .of a fun _ g=>⟨eW g rfl rfl rfl rfl,aA g rfl rfl,aA g rfl rfl⟩
theorem HF{v:PV}(a:At M H r (.inst 406 [(20,v)])):dG M H (.ref r) (.iW 9):=
 .of a fun _ g=>⟨.inl rfl,eW g rfl rfl rfl rfl⟩
theorem yJ{v:PV}(a:At M H r (.inst 490 [(26,v)])):dG M H (.ref r) (.iW 13):=
 .of a fun _ g=>⟨.inr (.inr (.inr rfl)),eW g rfl rfl rfl rfl⟩
theorem BK{a b c d e f:PV}(h:At M H r (.inst 427 [(21,a),(22,b),(7,c),(23,d),(24,e),(8,f)])):dG M H (.ref r) (.iW 10):=
 .of h fun _ g=>⟨.inr (.inl rfl),eW g rfl rfl rfl rfl⟩
theorem BL{v:PV}(a:At M H r (.inst 448 [(8,v)])):dG M H (.ref r) (.iW 11):=
 .of a fun _ g=>⟨.inr (.inr (.inl rfl)),eW g rfl rfl rfl rfl⟩
noncomputable def de(w st so sh bN:Int):Gl:=⟨w,st,if st=0 then 0 else so,sh,if sh=0 then 0 else bN⟩
theorem BM{w st so sh bN:Int}(g:H[r]? =some (.inst 227 (uq w st so sh bN))):yl H (.ref r) (de w st so sh bN):=
 ⟨aA g rfl rfl,aA g rfl rfl,aA g rfl rfl,aA g rfl rfl,aA g rfl rfl⟩
theorem nP{g c:Nat}{s l:PV}{w st so sh bN:Int}(a:At M H r (.inst 343 [(14,.ref g),(13,s),(15,l)]))(b:At M H g (.inst 227 (uq w st so sh bN))):dG M H (.ref r) (.glue (de w st so sh bN)):=
 fun _ k=>⟨eW (a.keep k).at_ rfl rfl rfl rfl,.ref g,aA (a.keep k).at_ rfl rfl,BM (b.keep k).at_⟩
def kJ(M:List Nat)(H:aa)(v:PV)(ws:List Int):Prop:=∀H',aE M H H'→gU H' v ws
theorem kJ.keep{H':aa}{v:PV}{ws:List Int}(k:aE M H H')(h:kJ M H v ws):kJ M H' v ws:=fun nY k'=>h nY (k.trans k')
theorem HG{a b c:Nat}{p q m:List Int}(h:At M H r (.inst 385 [(17,.ref a),(18,.ref b),(19,.ref c)]))(h1:kJ M H (.ref a) p)(h2:kJ M H (.ref b) q)(h3:kJ M H (.ref c) m):dG M H (.ref r) (.bP p q m):=
 fun _ k=>⟨eW (h.keep k).at_ rfl rfl rfl rfl,_,_,_,aA (h.keep k).at_ rfl rfl,h1 _ k,aA (h.keep k).at_ rfl rfl,h2 _ k,aA (h.keep k).at_ rfl rfl,h3 _ k⟩
def Fp(M:List Nat)(H:aa)(v:PV)(w:Int):Prop:=∀H',aE M H H'→jf H' v w
theorem Fp.keep{H':aa}{v:PV}{w:Int}(k:aE M H H')(h:Fp M H v w):Fp M H' v w:=fun nY k'=>h nY (k.trans k')
theorem kJ.of{vs:List PV}{ws:List Int}(h:At M H r (.list vs))(hl:vs.length<1000)(a:bu (Fp M H) vs ws):kJ M H (.ref r) ws:=
 fun _ k=>⟨r,vs,rfl,(h.keep k).at_,hl,a.mono fun _ _ x=>x _ k⟩
theorem TJ{w h d:Int}{v:PV}(a:At M H r (.inst 279 (IK 2 w h d v))):Fp M H (.ref r) w:=fun _ k=>⟨2,.inl rfl,aA (a.keep k).at_ rfl rfl,aA (a.keep k).at_ rfl rfl⟩
theorem Qr{w s:Int}(a:At M H r (.inst 321 [(0,.int w),(13,.int s)])):Fp M H (.ref r) w:=fun _ k=>⟨5,.inr rfl,eW (a.keep k).at_ rfl rfl rfl rfl,aA (a.keep k).at_ rfl rfl⟩
end
section
variable {ns:List Int}{n:Nat}{H:aa}{R:PV→aa→Prop}{E:XK→aa→Prop}
theorem BN{v:PV}{ws:List Int}(h:gU H v ws)(k:R v H):Wc (aj (aP ns) (n+1) 262 [v] H) R E:=by
 revert ns n H R E v ws
 apply aO;intro
 generalize bL .. =ns,bM .. =n,bQ .. =H,bR .. =R
 apply aM;intro
 generalize bI .. =E,bJ .. =v
 apply aI;intro
 generalize nx .. =ws
 intro h k
 obtain⟨r,vs,rfl,hr,hz,a⟩:=h
 refine aT rfl rfl (.of hr (.of (Nat.lt_trans hz (by decide)) ?_))
 refine et (fun _ y=>[some (.ref r),y]) (fun _ _=>H) (fun _ _=>True) none vs trivial (fun _ _ _=>hr) (fun k y v _ hv=> ?_) fun y _=>k
 obtain⟨u,hu,c,hc,h5,h0⟩:=a.get (List.getElem?_eq_getElem (by rw[←a.length];exact(List.getElem?_eq_some_iff.mp hv).1))
 cases hv.symm.trans hu
 exact .of (h5 ns) (.neg (by exact qG (P:=fun x=>¬5<x) [2,5] rfl hc) ⟨_,rfl,rfl,trivial⟩)
theorem TK{a b c:PV}{p q m:List Int}(ha:gU H a p)(hb:gU H b q)(hc:gU H c m)(k:R (.ref H.length) (H++[.inst 385 [(17,a),(18,b),(19,c)]])):Wc (cC (aP ns) (aj (aP ns) (n+2)) 385 [a,b,c] H) R E:=by
 have pp:∀o,Pre H (H++[o]):=fun o=>Pre.app _ (.refl _)
 exact make rfl (aT rfl rfl (BN (ha.pre (pp _)) (aB (BN (hb.pre (pp _)) (aB (BN (hc.pre (pp _)) (aB k)))))))
theorem TM{r:Nat}(hr:H[r]? =some (.list [.int 65,.int 66]))(k:R (.ref H.length) (H++[.inst 490 [(26,.bytes)]])):Wc (cC (aP ns) (aj (aP ns) (n+2)) 490 [.ref r] H) R E:=by
 revert ns n H R E r
 apply aO;intro
 generalize bL .. =ns,bM .. =n,bQ .. =H,bR .. =R
 apply aM;intro
 generalize bI .. =E,bJ .. =r
 intro hr k
 have dO:=(Pre.app [aF.inst 490 []] (.refl H)).get hr
 refine make rfl (aT rfl rfl (.of dO (.of dO (.of (by decide:2<100000) ?_))))
 refine et (fun _ y=>[some (.ref H.length),some (.ref r),y]) (fun _ _=>H++[.inst 490 []]) (fun _ _=>True) none [.int 65,.int 66] trivial (fun _ _ _=>dO) (fun i y v _ hv=> ?_) fun y _=> ?_
 rotate_left
 ·exact .of dO (.of rfl (.of ⟨by decide,by decide⟩ (aB k)))
 have hk:i=0∨i=1:=by have:=(List.getElem?_eq_some_iff.mp hv).1;simp at this;exact Nat.le_one_iff_eq_zero_or_eq_one.mp (Nat.le_of_lt_succ this)
 rcases hk with rfl|rfl<;>cases hv<;>exact kA (by decide) (by decide) ⟨_,rfl,rfl,trivial⟩
end
section
variable {ns:List Int}{n:Nat}{H:aa}{R:PV→aa→Prop}{E:XK→aa→Prop}
theorem TN(k:∀w:Int,0≤w→R (.ref (H.length+1)) (H++[.list ((ns.take 24).map .int)]++[.list [.int w,.int 0]])):Wc (aj (aP ns) (n+1) 741 [.bG] H) R E:=by
 revert ns n H R E
 apply aO;intro
 generalize bL .. =ns,bM .. =n,bQ .. =H,bR .. =R
 apply aI;intro
 generalize nx .. =E
 intro k
 have hl:((ns.take 24).map PV.int).length<100000:=by rw[List.length_map,List.length_take];exact gC (Nat.min_le_left _ _) rfl
 have p2:∀{x y:Int},x.natAbs<2 ^ 64→x.natAbs<2 ^ 64∨y.natAbs<2 ^ 64:=.inl
 have g:∀{y:Int},0≤y∧y≤1000→(10:Int).natAbs<2 ^ 64∧0≤y∧y≤1000:=fun h=>⟨by decide,h⟩
 refine aT rfl rfl (.of aX (.of hl ?_))
 refine et (fun _ (s:Int×Option PV×Option PV)=>[some .bG,some (.int s.1),s.2.1,s.2.2]) (fun _ _=>H++[.list ((ns.take 24).map .int)]) (fun _ s=>0≤s.1) (0,none,none) ((ns.take 24).map .int) (Int.le_refl _) (fun _ _ _=>aX) (?_) fun s j=> ?_
 ·apply aM;intro
  generalize bI .. =i,bJ .. =s
  intro v j hv
  obtain⟨c,hc,rfl⟩:∃c,(ns.take 24)[i]? =some c∧PV.int c=v:=by rw[List.getElem?_map] at hv;exact Option.map_eq_some_iff.mp hv
  generalize (618033988749894848204586834365638117720309179805762862135449:Int)=B
  refine Fc ?_
  refine lG (fun z:Int=>[some .bG,some (.int s.1),some (.int c),some (.int z)]) (fun _=>H++[.list ((ns.take 24).map .int)]) (fun _=>True) (fun N hN=> ?_) fun z _=> ?_
  ·refine .of (g (by decide)) (.of (fun q=> ?_) fun q=>hN _ trivial)
   have q':(if c<0 then -c else c)<1000000000000000000:=by
    have e:(10:Int) ^ (18:Int).toNat=1000000000000000000:=by decide+kernel
    rw[e] at q;exact q
   have a0:0≤(if c<0 then -c else c):=by split;exact Int.neg_nonneg_of_nonpos (Int.le_of_lt ‹_›);exact Int.not_lt.mp ‹_›
   generalize (if c<0 then -c else c)=a at *
   refine .of (p2 (by decide)) (.of (p2 ?_) (.of (g (by decide)) (.of (by decide+kernel) (hN _ trivial))))
   show(2 * a+1+(if decide (c<0)=true then 1 else 0)).natAbs<2 ^ 64
   split
   ·exact pF (eP (eP (IT (eH a0 q')) (d8 1)) (d8 1)) rfl rfl
   ·exact pF (eP (eP (IT (eH a0 q')) (d8 1)) (d8 0)) rfl rfl
  ·refine .of (.inr (by decide)) (.of (g (by decide)) (.of (by decide+kernel) ⟨(_,_,_),rfl,rfl,?_⟩))
   exact(digit_of (by decide+kernel)).1
 ·have e:(H++[aF.list ((ns.take 24).map .int)]).length=H.length+1:=List.length_append
  have k:=k s.1 j
  rw[←e] at k
  exact k
end
theorem aE.wide{M M':List Nat}{H H':aa}(h:∀i∈M,i∈M')(k:aE M H H'):aE M' H H':=⟨k.len,fun i o m e=>k.at_ i o (fun x=>m (h i x)) e⟩
structure Env(M:List Nat)(p T:Nat)(H:aa):Prop where
 low:Ei M H
 mem:p∈M
 qy:eV p T H
theorem eV.app{p T:Nat}{H:aa}(J:aa):eV p T H→eV p T (H++J)
 |⟨w,t,g,h⟩=>⟨w,t,(Pre.app J (.refl _)).get g,h⟩
theorem eV.le{p T T':Nat}{H:aa}(h:T≤T'):eV p T H→eV p T' H
 |⟨w,t,g,a,b,c⟩=>⟨w,t,g,a,b,by exact Int.le_trans c (Int.ofNat_le.mpr h)⟩
section
variable {ns:List Int}{n:Nat}{M:List Nat}{p T:Nat}{H:aa}{R:PV→aa→Prop}{E:XK→aa→Prop}
theorem Env.wide{H':aa}(e:Env M p T H)(k:aE [p] H H'):aE M H H':=k.wide fun i m=>by rw[List.mem_singleton.mp m];exact e.mem
theorem Env.le{T':Nat}(e:Env M p T H)(h:T≤T'):Env M p T' H:=⟨e.low,e.mem,e.qy.le h⟩
theorem Env.new(e:Env M p T H)(o:aF):aE [p] H (H++[o])∧Env M p T (H++[o])∧At M (H++[o]) H.length o:=
 ⟨(aE.refl H).app _,⟨e.low.app _,e.mem,e.qy.app _⟩,e.low.new o⟩
theorem At.e{H':aa}{r:Nat}{o:aF}(e:Env M p T H)(k:aE [p] H H')(h:At M H r o):At M H' r o:=h.keep (e.wide k)
theorem dG.e{H':aa}{v:PV}{d:Nd}(e:Env M p T H)(k:aE [p] H H')(h:dG M H v d):dG M H' v d:=h.keep (e.wide k)
theorem dG.Ej{H':aa}{vs:List PV}{l:List Nd}(e:Env M p T H)(k:aE [p] H H')(h:bu (dG M H) vs l):bu (dG M H') vs l:=dG.all (e.wide k) h
structure nQ(M:List Nat)(H:aa)(r:Nat)(l:List Nd):Prop where
 ex:∃vs,At M H r (.list vs)∧bu (dG M H) vs l
theorem nQ.e{H':aa}{r:Nat}{l:List Nd}(e:Env M p T H)(k:aE [p] H H'):nQ M H r l→nQ M H' r l
 |⟨vs,a,b⟩=>⟨vs,a.e e k,dG.Ej e k b⟩
theorem dz(e:Env M p T H)(m:Int)(h0:0<m)(h1:m<1000)(hT:T<10 ^ 15)(k:∀(d:Int) H',0≤d→d<m→aE [p] H H'→Env M p (T+1) H'→R (.int d) H'):Wc (aj (aP ns) (n+1) 748 [.ref p,.int m] H) R E:=
 Sx e.qy h0 h1 hT (o8 fun d H' d0 d1 o eq hp=>by
  subst eq
  have kk:aE [p] H (H.set p (.list o)):=(aE.refl H).set (.inl (List.mem_singleton.mpr rfl))
  exact k d _ d0 d1 kk ⟨e.low.keep (e.wide kk),e.mem,hp⟩)
theorem lu(e:Env M p T H){vs:List PV}{m:Int}{K:PV→aa→Prop}(hm:(vs.length:Int)=m)(h0:0<m)(h1:m<1000)(hT:T<10 ^ 15)(k:∀v∈vs,∀H',aE [p] H H'→Env M p (T+1) H'→K v H'):
  Wc (aj (aP ns) (n+1) 748 [.ref p,.int m] (H++[.list vs])) (fun y H'=>kN H' (.ref H.length) y fun v=>K v H') E:=by
 obtain⟨k0,e0,a0⟩:=e.new (.list vs)
 refine dz e0 m h0 h1 hT fun d H' d0 d1 k1 e1=> ?_
 obtain⟨i,rfl⟩:∃i:Nat,d=(i:Int):=⟨d.toNat,by exact Int.eq_natCast_toNat.mpr d0⟩
 have hd:i<vs.length:=by exact Int.ofNat_lt.mp (hm▸d1)
 exact .of (a0.keep (e0.wide k1)).at_ (.of (fg (List.getElem?_eq_getElem hd) (by exact Jq (b:=1000) hm h1)) (k _ (List.getElem_mem _) H' (k0.trans k1) e1))
theorem lK{x:Int}(e:Env M p T H)(hd:Dm x)(k:∀r H',aE [p] H H'→Env M p T H'→dG M H' (.ref r) (.box 2 x)→R (.ref r) H'):Wc (cC (aP ns) (aj (aP ns) (n+3)) 279 [.int 2,.int x,.int 0,.int 0,.ref H.length] (H++[.list []])) R E:=by
 obtain⟨k1,e1,-⟩:=e.new (.list [])
 obtain⟨k2,e2,a2⟩:=e1.new (.inst 279 (IK 2 x 0 0 (.ref H.length)))
 exact O9 (by decide) hd ⟨by decide,by decide⟩ ⟨by decide,by decide⟩ (k _ _ (k1.trans k2) e2 (Pd (.inl rfl) a2))
theorem jU{x s:Int}(e:Env M p T H)(hs:0≤s∧s≤3)(hd:Dm x)(k:∀r H',aE [p] H H'→Env M p T H'→dG M H' (.ref r) (.bF x s)→R (.ref r) H'):Wc (cC (aP ns) (aj (aP ns) (n+3)) 321 [.int x,.int s] H) R E:=by
 obtain⟨k1,e1,a1⟩:=e.new _
 exact Tz hs hd (k _ _ k1 e1 (HD a1))
theorem BO{x:Int}(e:Env M p T H)(hd:Nm x)(k:∀r H',aE [p] H H'→Env M p T H'→dG M H' (.ref r) (.pen x)→R (.ref r) H'):Wc (cC (aP ns) (aj (aP ns) (n+3)) 364 [.int x] H) R E:=by
 obtain⟨k1,e1,a1⟩:=e.new _
 exact TA hd (k _ _ k1 e1 (Pe a1))
theorem pA{x:Int}{b:Bool}(e:Env M p T H)(hd:Dm x)(k:∀r H',aE [p] H H'→Env M p T H'→dG M H' (.ref r) (.math b x)→R (.ref r) H'):Wc (cC (aP ns) (aj (aP ns) (n+3)) 469 [.bool b,.int x] H) R E:=by
 obtain⟨k1,e1,a1⟩:=e.new _
 exact TB hd (k _ _ k1 e1 (HE a1))
theorem vT{w st so sh bN:Int}(e:Env M p T H)(hw:Dm w)(iN:Dm st)(Hp:Dm sh)(h1:0≤so∧so≤3)(h2:0≤bN∧bN≤3)(k:∀r H',aE [p] H H'→Env M p T H'→At M H' r (.inst 227 (uq w st so sh bN))→R (.ref r) H'):
  Wc (cC (aP ns) (aj (aP ns) (n+3)) 227 [.int w,.int st,.int so,.int sh,.int bN] H) R E:=by
 obtain⟨k1,e1,a1⟩:=e.new _
 exact S0 hw iN Hp h1 h2 (k _ _ k1 e1 a1)
theorem vU{s:Int}{g:PV}(e:Env M p T H)(hs:s=0∨(100≤s∧s≤199))(k:∀r H',aE [p] H H'→Env M p T H'→At M H' r (.inst 343 [(14,g),(13,.int s),(15,.none)])→R (.ref r) H'):Wc (cC (aP ns) (aj (aP ns) (n+3)) 343 [g,.int s] H) R E:=by
 obtain⟨k1,e1,a1⟩:=e.new _
 exact TH hs (k _ _ k1 e1 a1)
theorem Env.row(e:Env M p T H)(vs:List PV)(l:List Nd)(h:bu (dG M H) vs l):aE [p] H (H++[.list vs])∧Env M p T (H++[.list vs])∧nQ M (H++[.list vs]) H.length l:=by
 obtain⟨k,e',a⟩:=e.new (.list vs)
 exact⟨k,e',vs,a,dG.Ej e k h⟩
def HH(size:Int)(l:List Nd):Prop:=(∃c,l=[.box 2 c,.box 2 (size - c)])∨∃c a s,l=[.box 2 c,.bF a s,.box 2 (size - c - a)]
theorem Pg{size:Int}(e:Env M p T H)(hs: -1000≤size∧size≤1000)(hT:T<10 ^ 12)(k:∀r l H',nQ M H' r l→HH size l→aE [p] H H'→Env M p (T+3) H'→R (.ref r) H'):Wc (aj (aP ns) (n+4) 776 [.ref p,.int size] H) R E:=by
 revert ns n M p T H R E size
 apply aQ;intro
 generalize bT .. =ns,bU .. =n,bV .. =M,bW .. =p,cj .. =T,ck .. =H,cm .. =R,cp .. =E
 apply aI;intro
 generalize nx .. =size
 intro e hs hT k
 refine aT rfl rfl (dz e 5 (by decide) (by decide) (by exact cE hT rfl) fun c H1 c0 c1 k1 e1=>lu e1 rfl (by decide) (by decide) (by exact bE 1 hT rfl) fun v mv H2 k2 e2=> ?_)
 obtain⟨a,rfl,ha⟩:∃a:Int,v=.int a∧-3≤a∧a≤2:=by
  simp only[List.mem_cons,List.not_mem_nil,or_false] at mv
  rcases mv with rfl|rfl|rfl<;>exact⟨_,rfl,by decide⟩
 refine .of (fun z=> ?_) fun z=> ?_
 ·refine lK e2 (by unfold Dm;exact cq (eP (d8 1) (eH c0 c1)) rfl rfl) fun r3 H3 k3 e3 a3=>lK e3 (by unfold Dm;exact cq (jl hs (eP (d8 1) (eH c0 c1))) rfl rfl) fun r4 H4 k4 e4 a4=> ?_
  obtain⟨k5,e5,a5⟩:=e4.row [.ref r3,.ref r4] [.box 2 (1+c),.box 2 (size - (1+c))] ⟨a3.e e3 k4,a4,trivial⟩
  exact k _ _ _ a5 (.inl ⟨_,rfl⟩) (k1.trans (k2.trans (k3.trans (k4.trans k5)))) (e5.le (by exact cR (k:=2) (l:=3) rfl))
 ·refine lK e2 (by unfold Dm;exact cq (eP (d8 1) (eH c0 c1)) rfl rfl) fun r3 H3 k3 e3 a3=>dz e3 4 (by decide) (by decide) (by exact bE 2 hT rfl) fun s H4 s0 s1 k4 e4=>jU e4 ⟨s0,by exact Int.le_of_lt_add_one s1⟩ (by unfold Dm;exact cq ha rfl rfl) fun r5 H5 k5 e5 a5=>lK e5 (by unfold Dm;exact cq (jl (jl hs (eP (d8 1) (eH c0 c1))) ha) rfl rfl) fun r6 H6 k6 e6 a6=> ?_
  obtain⟨k7,e7,a7⟩:=e6.row [.ref r3,.ref r5,.ref r6] [.box 2 (1+c),.bF a s,.box 2 (size - (1+c) - a)] ⟨((a3.e e3 k4).e e4 k5).e e5 k6,a5.e e5 k6,a6,trivial⟩
  exact k _ _ _ a7 (.inr ⟨_,_,_,rfl⟩) (k1.trans (k2.trans (k3.trans (k4.trans (k5.trans (k6.trans k7)))))) e7
theorem qz{call:Nat→List PV→aa→RP}(hc:call=aj (aP ns) (n+3))(e:Env M p T H)(k:∀r H',aE [p] H H'→Env M p T H'→At M H' r (.inst 227 (uq 0 0 0 0 0))→R (.ref r) H'):
  Wc (cC (aP ns) call 227 [] H) R E:=by
 subst hc
 have z:Dm 0:=⟨by decide,by decide⟩
 obtain⟨k1,e1,a1⟩:=e.new (.inst 227 (uq 0 0 0 0 0))
 exact make rfl (o9 rfl rfl (kA (by decide) (by decide) (kA (by decide) (by decide) (dH z (aB (dH z (aB (.pos rfl (aB (dH z (aB (.pos rfl (aB (k _ _ k1 e1 a1))))))))))))))
theorem TP(e:Env M p T H)(hT:T<10 ^ 12)(k:∀r c H',dG M H' (.ref r) (.iW c)→aE [p] H H'→Env M p (T+1) H'→R (.ref r) H'):Wc (aj (aP ns) (n+4) 783 [.ref p] H) R E:=by
 revert ns n M p T H R E
 apply aQ;intro
 generalize bT .. =ns,bU .. =n,bV .. =M,bW .. =p,cj .. =T,ck .. =H,cm .. =R,cp .. =E
 intro e hT k
 refine aT rfl rfl (dz e 4 (by decide) (by decide) (by exact cE hT rfl) fun c H1 c0 c1 k1 e1=>.of (fun _=> ?_) fun _=>.of (fun _=> ?_) fun _=>.of (fun _=> ?_) fun _=> ?_)
 ·obtain⟨k2,e2,a2⟩:=e1.new (.list [.tup [.int 11,.int 65]])
  obtain⟨k3,e3,a3⟩:=e2.new _
  exact TF a2.at_ (by decide:1<1000) (k _ _ _ (HF a3) (k1.trans (k2.trans k3)) e3)
 ·obtain⟨k2,e2,a2⟩:=e1.new (.list [.int 65,.int 66])
  obtain⟨k3,e3,a3⟩:=e2.new _
  exact TM a2.at_ (k _ _ _ (yJ a3) (k1.trans (k2.trans k3)) e3)
 ·refine qz rfl e1 fun r2 H2 k2 e2 a2=>BO e2 ⟨by decide,by decide⟩ fun r3 H3 k3 e3 a3=> ?_
  obtain⟨k4,e4,a4⟩:=e3.new (.list [.ref r3])
  obtain⟨k5,e5,a5⟩:=e4.new _
  exact TG (by decide) ⟨by decide,by decide⟩ ⟨by decide,by decide⟩ ⟨by decide,by decide⟩ (k _ _ _ (BK a5) (k1.trans (k2.trans (k3.trans (k4.trans k5)))) e5)
 ·refine jU e1 (by decide) ⟨by decide,by decide⟩ fun r2 H2 k2 e2 a2=> ?_
  obtain⟨k4,e4,a4⟩:=e2.new (.list [.ref r2])
  obtain⟨k5,e5,a5⟩:=e4.new _
  exact TC (k _ _ _ (BL a5) (k1.trans (k2.trans (k4.trans k5))) e5)
end
structure Told(M:List Nat)(p t a b m T:Nat)(H:aa)(A B:List Nd)(mv:List Int):Prop where
 env:Env M p T H
 told:At M H t (.ed [(62,.ref a),(61,.ref b),(60,.ref m)])
 mem:a∈M∧b∈M∧m∈M
 ne:p≠a∧p≠b∧p≠m∧a≠b∧a≠m∧b≠m
 fa:∃vs,H[a]? =some (.list vs)∧bu (dG M H) vs A
 fb:∃vs,H[b]? =some (.list vs)∧bu (dG M H) vs B
 fm:H[m]? =some (.list (mv.map .int))
 la:A.length≤T
 lb:B.length≤4 * A.length
 lm:mv.length=A.length
section
variable {ns:List Int}{n:Nat}{M:List Nat}{p t a b m T:Nat}{H:aa}{A B:List Nd}{mv:List Int}
theorem gu{H':aa}{i:Nat}{o:aF}(k:aE [p] H H')(h:p≠i)(e:H[i]? =some o):H'[i]? =some o:=k.at_ i o (fun x=>h (List.mem_singleton.mp x).symm) e
theorem Told.e{H':aa}{T':Nat}(h:Told M p t a b m T H A B mv)(k:aE [p] H H')(e:Env M p T' H')(l:T≤T'):Told M p t a b m T' H' A B mv:=by
 obtain⟨va,a1,a2⟩:=h.fa
 obtain⟨vb,b1,b2⟩:=h.fb
 exact⟨e,h.told.e h.env k,h.mem,h.ne,⟨va,gu k h.ne.1 a1,dG.Ej h.env k a2⟩,⟨vb,gu k h.ne.2.1 b1,dG.Ej h.env k b2⟩,gu k h.ne.2.2.1 h.fm,Nat.le_trans h.la l,h.lb,h.lm⟩
theorem Told.le{T':Nat}(h:Told M p t a b m T H A B mv)(l:T≤T'):Told M p t a b m T' H A B mv:=h.e (.refl H) (h.env.le l) l
variable {R:PV→aa→Prop}{E:XK→aa→Prop}
theorem Cj{t k:Nat}{es:List (Nat×PV)}{v:PV}(h:H[t]? =some (.ed es))(e:bA k es=some v):lQ H (.ref t) k=some v:=by
 unfold lQ
 simp only[h]
 exact e
theorem sC{v:PV}{d:Nd}{r:Nat}{l:List Nd}{back:Int}(h:Told M p t a b m T H A B mv)(hd:dG M H v d)(hr:nQ M H r l)(hl:l.length≤4)(hT:T<10000)
  (k:∀H',Told M p t a b m (T+1) H' (A++[d]) (B++l) (mv++[(B.length:Int)+back])→aE M H H'→R .none H'):Wc (aj (aP ns) (n+1) 769 [.ref t,v,.ref r,.int back] H) R E:=by
 revert ns n M p t a b m T H A B mv R E v d r l back
 apply aQ;intro
 generalize bT .. =ns,bU .. =n,bV .. =M,bW .. =p,cj .. =t,ck .. =a,cm .. =b,cp .. =m
 apply aQ;intro
 generalize bT .. =T,bU .. =H,bV .. =A,bW .. =B,cj .. =mv,ck .. =R,cm .. =E,cp .. =v
 apply aO;intro
 generalize bL .. =d,bM .. =r,bQ .. =l,bR .. =back
 intro h hd hr hl hT k
 obtain⟨va,a1,a2⟩:=h.fa
 obtain⟨vb,b1,b2⟩:=h.fb
 obtain⟨vr,r1,r2⟩:=hr
 obtain⟨n1,n2,n3,n4,n5,n6⟩:=h.ne
 obtain⟨m1,m2,m3⟩:=h.mem
 have ht:=h.told.at_
 have rm:b≠r:=fun x=>r1.nO (x▸m2)
 have la:=h.la
 have lb:=h.lb
 have sg:va.length<100000:=by have:=a2.length;exact Cp hT la this rfl
 have Yv:vb.length<100000:=by have:=b2.length;exact I6 hT la lb this
 have IL:(mv.map PV.int).length<100000:=by have:=h.lm;rw[List.length_map];exact Cp hT la this rfl
 have Yw:b≠r∧vb.length+vr.length<100000:=⟨rm,by have:=r2.length;have:=b2.length;exact Eu hl hT la lb ‹_› ‹_›⟩
 have fin:∀H1 H2 H3,H1=H.set m (.list (mv.map .int++[.int (vb.length+back)]))→H2=H1.set a (.list (va++[v]))→H3=H2.set b (.list (vb++vr))→
   (aE M H H1∧H1[a]? =some (.list va))∧(aE M H H2∧H2[b]? =some (.list vb))∧R .none H3:=by
  intro H1 H2 H3 e1 e2 e3
  have k1:aE M H H1:=e1▸(aE.refl H).set (.inl m3)
  have VM:H1[a]? =some (.list va):=by rw[e1,bz (Ne.symm n5)];exact a1
  have k2:aE M H H2:=e2▸k1.set (.inl m1)
  have VN:H2[b]? =some (.list vb):=by rw[e2,bz n4,e1,bz (Ne.symm n6)];exact b1
  have kk:aE M H H3:=e3▸k2.set (.inl m2)
  have hp:eV p T H3:=by
   obtain⟨w,x,g,q⟩:=h.env.qy
   refine⟨w,x,?_,q⟩
   rw[e3,bz (Ne.symm n2),e2,bz (Ne.symm n1),e1,bz (Ne.symm n3)];exact g
  refine⟨⟨k1,VM⟩,⟨k2,VN⟩,k H3 ⟨⟨h.env.low.keep kk,h.env.mem,hp.le (Nat.le_succ _)⟩,h.told.keep kk,h.mem,h.ne,⟨va++[v],?_,(dG.all kk a2).append ⟨hd.keep kk,trivial⟩⟩,⟨vb++vr,by rw[e3];exact getset VN,(dG.all kk b2).append (dG.all kk r2)⟩,?_,?_,?_,?_⟩ kk⟩
  ·rw[e3,bz (Ne.symm n4),e2];exact getset VM
  ·rw[e3,bz n6,e2,bz n5,e1,getset h.fm,List.map_append,b2.length];rfl
  ·rw[List.length_append];exact Nat.succ_le_succ la
  ·rw[List.length_append,List.length_append,List.length_singleton];exact Nat.add_le_add lb hl
  ·rw[List.length_append,List.length_append,h.lm];rfl
 obtain⟨⟨k1,f1⟩,⟨k2,f2⟩,f3⟩:=fin _ _ _ rfl rfl rfl
 have t1:=k1.at_ _ _ h.told.nO ht
 have t2:=k2.at_ _ _ h.told.nO ht
 exact aT rfl rfl (.of (Cj ht rfl) (.of h.fm (.of (Cj ht rfl) (.of b1 (.of Yv (.of h.fm (.of IL (.of (Cj t1 rfl) (.of f1 (.of f1 (.of sg (.of (Cj t2 rfl) (.of f2 (.of f2 (.of (k2.at_ _ _ r1.nO r1.at_) (.of Yw f3))))))))))))))))
end
def sD(M:List Nat)(H:aa)(v:PV)(S:bp):Prop:=∀H',aE M H H'→fW H' v S
theorem sD.keep{M:List Nat}{H H':aa}{v:PV}{S:bp}(k:aE M H H')(h:sD M H v S):sD M H' v S:=fun nY k'=>h nY (k.trans k')
def uM(S:bp)(w:Int)(outer:Bool)(l:List Nd):Prop:=∃c ld c0 d,l=bB ld++c++ar ld∧f6 S w c∧c=c0++[d]∧d.kind≠12∧(outer=false→ld=false)∧l.length≤4
theorem uM.of{S:bp}{w:Int}{outer:Bool}{c c0:List Nd}{d:Nd}(h:f6 S w c)(e:c=c0++[d])(hd:d.kind≠12)(hl:c.length≤4):uM S w outer c:=
 ⟨c,false,c0,d,by simp[bB,ar],h,e,hd,fun _=>rfl,hl⟩
theorem HH.box{S:bp}{w:Int}{outer:Bool}{l:List Nd}:HH w l→uM S w outer l
 |.inl ⟨c,e⟩=>by subst e;exact .of (Fn 2 c) (c0:=[.box 2 c]) rfl (kn rfl) (by simp)
 |.inr ⟨c,a,s,e⟩=>by subst e;exact .of (BH 2 c a s) (c0:=[.box 2 c,.bF a s]) rfl (kn rfl) (by simp)
theorem iC{M:List Nat}{H:aa}{v:PV}{w:Int}(h:dG M H v (.box 2 w)):Fp M H v w:=fun H' k=>let⟨_,a,b⟩:=h H' k;⟨2,.inl rfl,a,b⟩
theorem yK{M:List Nat}{H:aa}{v:PV}{w s:Int}(h:dG M H v (.bF w s)):Fp M H v w:=fun H' k=>let⟨a,b,_⟩:=h H' k;⟨5,.inr rfl,a,b⟩
section
variable {R:PV→aa→Prop}{E:XK→aa→Prop}{ns:List Int}{n:Nat}{M:List Nat}{p t a b m T:Nat}{H:aa}{A B:List Nd}{mv:List Int}{S:bp}{st:PV}
theorem BP(e:Env M p T H):aE [p] H (H++[.list []])∧Env M p T (H++[.list []])∧kJ M (H++[.list []]) (.ref H.length) []:=by
 obtain⟨k,e',a⟩:=e.new (.list [])
 exact⟨k,e',kJ.of a (by simp) trivial⟩
theorem BQ{v:PV}{w:Int}(e:Env M p T H)(h:dG M H v (.box 2 w)):aE [p] H (H++[.list [v]])∧Env M p T (H++[.list [v]])∧kJ M (H++[.list [v]]) (.ref H.length) [w]:=by
 obtain⟨k,e',a⟩:=e.new (.list [v])
 exact⟨k,e',kJ.of a (by simp) ⟨(iC h).keep (e.wide k),trivial⟩⟩
theorem kJ.e{H':aa}{v:PV}{ws:List Int}(e:Env M p T H)(k:aE [p] H H')(h:kJ M H v ws):kJ M H' v ws:=h.keep (e.wide k)
theorem BR{x y z:Nat}{P q mm:List Int}(e:Env M p T H)(hx:kJ M H (.ref x) P)(hy:kJ M H (.ref y) q)(hz:kJ M H (.ref z) mm)(k:∀r H',aE [p] H H'→Env M p T H'→dG M H' (.ref r) (.bP P q mm)→R (.ref r) H'):
  Wc (cC (aP ns) (aj (aP ns) (n+2)) 385 [.ref x,.ref y,.ref z] H) R E:=by
 obtain⟨k2,e2,a2⟩:=e.new _
 exact TK (hx H (.refl _)) (hy H (.refl _)) (hz H (.refl _)) (k _ _ k2 e2 (HG a2 (hx.e e k2) (hy.e e k2) (hz.e e k2)))
theorem Env.set{r:Nat}{o:aF}(e:Env M p T H)(h:r∉M):Env M p T (H.set r o):=by
 refine⟨fun i m=>by rw[List.length_set];exact e.low i m,e.mem,?_⟩
 obtain⟨w,t,g,q⟩:=e.qy
 have hr:r≠p:=fun x=>h (x▸e.mem)
 exact⟨w,t,by rw[bz hr];exact g,q⟩
theorem Env.more{r:Nat}(e:Env M p T H)(h:r<H.length):Env (r::M) p T H:=
 ⟨fun i m=>by rcases List.mem_cons.mp m with q|q;(rw[q];exact h);exact e.low i q,List.mem_cons_of_mem _ e.mem,e.qy⟩
theorem Env.less{r:Nat}(e:Env (r::M) p T H)(h:p∈M):Env M p T H:=⟨fun i m=>e.low i (List.mem_cons_of_mem _ m),h,e.qy⟩
theorem dG.less{r:Nat}{v:PV}{d:Nd}(h:dG (r::M) H v d):dG M H v d:=fun H' k=>h H' (k.wide fun _ x=>List.mem_cons_of_mem _ x)
theorem dG.Ph{r:Nat}{o:aF}{v:PV}{d:Nd}(h:dG (r::M) H v d):dG M (H.set r o) v d:=(h.keep ((aE.refl H).set (.inl (List.mem_cons_self ..)))).less
theorem HI{r:Nat}{w h d x:Int}{k:Int}{v:PV}(hk:k=2∨k=3)(a:At M H r (.inst 279 [(5,.int k),(0,.int w),(6,.int h),(7,.int d),(8,v),(9,.int x),(10,.int 0),(11,.int 0),(12,.tup [.int 0,.int 1])])):dG M H (.ref r) (.box k w):=
 .of a fun _ g=>⟨hk,aA g rfl rfl,aA g rfl rfl⟩
end
noncomputable def pB:IS→cx
 |.ite _ _ b=>b
 |_=>.nil
theorem WP.Pj{a A B:Prop}{b:Bool}(h:a→b=true→A)(g:¬(a∧b=true)→B):WP a (wb b A B) B:=.of (fun x=>yS (h x) fun y=>g fun z=>by rw[y] at z;cases z.2) fun x=>g fun z=>x z.1
theorem eO{H:aa}{x c n:Nat}{fs:List (Nat×PV)}{v:PV}{ns:List Int}(h:H[x]? =some (.inst c fs))(hb:dS.contains (c,n)=false)(hf:fs.length<100):dZ (aP ns) H (.ref x) n v=some (H.set x (.inst c (putN n v fs))):=by
 unfold dZ
 simp only[h]
 rw[show(aP ns).bad=dS from rfl,hb,if_neg (by decide),if_pos hf]
structure TQ where
 r:Nat
 l:List Nd
 H:aa
 y:Option PV
instance:Nonempty TQ:=⟨⟨0,[],[],none⟩⟩
structure TR(M:List Nat)(p T:Nat)(S:bp)(w:Int)(outer:Bool)(H:aa)(s:TQ):Prop where
 row:nQ M s.H s.r s.l
 ok:uM S w outer s.l
 keep:aE [p] H s.H
 env:Env M p (T+9) s.H
noncomputable def TS:cx:=iV (Fd (ff (pB (ff (pB (ff (pB (ff (pB (ff (pB (ff (pB (ff CW 3)) 0)) 0)) 0)) 0)) 0)) 0)) 1
section
variable {R:PV→aa→Prop}{ns:List Int}{n:Nat}{M:List Nat}{p t a b m T:Nat}{H:aa}{A B:List Nd}{mv:List Int}{S:bp}{st:PV}{w s:Int}{outer:Bool}{r:Nat}
noncomputable def IM(p t:Nat)(st:PV)(outer:Bool)(w s:Int)(r:Nat)(z:TQ):Loc:=[some (.ref p),some (.ref t),some st,some (.bool outer),some (.int w),some (.int s),some (.ref r),some (.ref z.r),z.y]
theorem vV{Q:QL}{E:EL}{H4:aa}{x q:Nat}{P:List Int}(hN:∀z,TR M p T S w outer H z→Q .next (IM p t st outer w s r z) z.H)(hw: -1000≤w∧w≤1000)(hx:kJ M H4 (.ref x) P)(k4:aE [p] H H4)(e4:Env M p (T+2) H4)(hc:10000≤costOf S P):
  wSs (aP ns) (aj (aP ns) (n+4)) TS (IM p t st outer w s r ⟨q,[],H4,some (.ref x)⟩) H4 Q E:=by
 revert ns n M p t T H S st w s outer r Q E H4 x q P
 apply aQ;intro
 generalize bT .. =ns,bU .. =n,bV .. =M,bW .. =p,cj .. =t,ck .. =T,cm .. =H,cp .. =S
 apply aQ;intro
 generalize bT .. =st,bU .. =w,bV .. =s,bW .. =outer,cj .. =r,ck .. =Q,cm .. =E,cp .. =H4
 apply aM;intro
 generalize bI .. =x,bJ .. =q
 apply aI;intro
 generalize nx .. =P
 intro hN hw hx k4 e4 hc
 refine lK e4 ⟨by decide,by decide⟩ fun r6 H6 k6 e6 a6=>lK e6 ⟨by decide,by decide⟩ fun r7 H7 k7 e7 a7=> ?_
 obtain⟨k8,e8,t8⟩:=BQ e7 a7
 obtain⟨k9,e9,t9⟩:=BP e8
 refine BR e9 ((((hx.e e4 k6).e e6 k7).e e7 k8).e e8 k9) (t8.e e8 k9) t9 fun VO Pk lL sI uX=>lK sI (by unfold Dm;exact cq (jl hw (d8 5)) rfl rfl) fun Yx Ck qA EE Im=> ?_
 obtain⟨jP,uN,oN⟩:=EE.row [.ref r6,.ref VO,.ref Yx] [.box 2 5,.bP P [1] [],.box 2 (w - 5)] ⟨(((((a6.e e6 k7).e e7 k8).e e8 k9).e e9 lL).e sI qA),uX.e sI qA,Im,trivial⟩
 exact hN ⟨_,_,_,_⟩ ⟨oN,.of (Hx 2 5 P [1] hc) (c0:=[.box 2 5,.bP P [1] []]) rfl (kn rfl) (by simp),k4.trans (k6.trans (k7.trans (k8.trans (k9.trans (lL.trans (qA.trans jP)))))),uN.le (by exact cR (k:=2) (l:=9) rfl)⟩
theorem BS{N:Loc→aa→Prop}{Q:QL}{E:EL}(hN:∀z,TR M p T S w outer H z→N (IM p t st outer w s r z) z.H)(hw: -1000≤w∧w≤1000)(e:Env M p (T+2) H)(hT:T<5000)(a3:dG M H (.ref r) (.box 2 w))(hS:sD M H st S):
  wS (aP ns) (aj (aP ns) (n+4)) (ff CW 3) (IM p t st outer w s r ⟨H.length,[],H,none⟩) (H++[.list [.ref r]]) (mn Q N) E:=by
 revert ns n M p t T H S st w s outer r N Q E
 apply aQ;intro
 generalize bT .. =ns,bU .. =n,bV .. =M,bW .. =p,cj .. =t,ck .. =T,cm .. =H,cp .. =S
 apply aQ;intro
 generalize bT .. =st,bU .. =w,bV .. =s,bW .. =outer,cj .. =r,ck .. =N,cm .. =Q,cp .. =E
 intro hN hw e hT a3 hS
 obtain⟨k4,e4,a4⟩:=e.new (.list [.ref r])
 have b4:=a3.e e k4
 refine .of (fun z=> ?_) fun _=>.of (fun z=> ?_) fun _=>.of (fun z=> ?_) fun _=>.of (fun z=> ?_) fun _=>.of (fun z=> ?_) fun _=>.Pj (fun z ho=> ?_) fun _=> ?_
 ·exact Pg e4 hw (by exact bE 2 hT rfl) fun r5 l H5 Yy q k5 e5=>hN ⟨_,_,_,_⟩ ⟨Yy,q.box,k4.trans k5,e5.le (by exact cR (k:=5) (l:=9) rfl)⟩
 ·refine lK e4 ⟨by decide,by decide⟩ fun r5 H5 k5 e5 a5=>dz e5 3 (by decide) (by decide) (by exact bE 2 hT rfl) fun d H6 d0 d1 k6 e6=>BO e6 (by unfold Nm;exact cq (eP (d8 10000) (eH d0 d1)) rfl rfl) fun r7 H7 k7 e7 a7=>lK e7 (by unfold Dm;exact cq (jl hw (d8 3)) rfl rfl) fun r8 H8 k8 e8 a8=> ?_
  obtain⟨k9,e9,a9⟩:=e8.row [.ref r5,.ref r7,.ref r8] [.box 2 3,.pen (10000+d),.box 2 (w - 3)] ⟨((a5.e e5 k6).e e6 k7).e e7 k8,a7.e e7 k8,a8,trivial⟩
  exact hN ⟨_,_,_,_⟩ ⟨a9,.of (O5 2 3 (10000+d) (by exact Int.le_add_of_nonneg_right d0)) (c0:=[.box 2 3,.pen (10000+d)]) rfl (kn rfl) (by simp),k4.trans (k5.trans (k6.trans (k7.trans (k8.trans k9)))),e9.le (by exact cR (k:=3) (l:=9) rfl)⟩
 ·have hn:H.length<(H++[aF.list [PV.ref r]]).length:=by rw[List.length_append];exact Nat.lt_succ_self _
  refine .of a4.at_ (dz (e4.more hn) 2 (by decide) (by decide) (by exact bE 2 hT rfl) fun d H5 d0 d1 k5 e5=>TP e5 (by exact bE 3 hT rfl) fun r6 HJ H6 a6 k6 e6=> ?_)
  have g6:=((a4.e e4 k5).e (e5.less e.mem) k6).at_
  refine .of g6 (.of ⟨d0,by show d≤1;exact Int.le_of_lt_add_one d1,(by decide:1<1000)⟩ ?_)
  have K:∀o,aE [p] H (H6.set H.length o):=fun o=>(k4.trans (k5.trans k6)).set (.inr (Nat.le_refl _))
  have E6:∀o,Env M p (T+9) (H6.set H.length o):=fun o=>((e6.less e.mem).set a4.nO).le (by exact cR (k:=4) (l:=9) rfl)
  have c:d=0∨d=1:=by exact Jt d0 d1
  rcases c with rfl|rfl
  ·exact hN ⟨_,[.iW HJ,.box 2 w],_,_⟩ ⟨⟨[.ref r6,.ref r],⟨getset g6,a4.nO⟩,a6.Ph,a3.e e (K _),trivial⟩,.of (Hv 2 HJ) (c0:=[.iW HJ]) rfl (kn rfl) (by simp),K _,E6 _⟩
  ·have hk:(Nd.iW HJ).kind≠12:=by
    have:=(a6 H6 (.refl _)).1
    show HJ≠12
    exact qG (P:=fun x=>x≠12) [9,10,11,13] rfl this
   exact hN ⟨_,[.box 2 w,.iW HJ],_,_⟩ ⟨⟨[.ref r,.ref r6],⟨getset g6,a4.nO⟩,a3.e e (K _),a6.Ph,trivial⟩,.of (Hw 2 HJ) (c0:=[.box 2 w]) rfl hk (by simp),K _,E6 _⟩
 ·refine lu e4 rfl (by decide) (by decide) (by exact bE 2 hT rfl) fun v mv H5 k5 e5=> ?_
  have hv:Dv v:=by
   rcases List.mem_cons.mp mv with q|q
   ·exact .inl q
   ·exact .inr ⟨3,List.mem_singleton.mp q,by decide,by decide⟩
  obtain⟨k6,e6,a6⟩:=e5.new (.inst 300 [(0,.int w),(6,.none),(7,v)])
  obtain⟨k7,e7,a7⟩:=e6.row [.ref H5.length] [.rule w] ⟨HC a6,trivial⟩
  exact Pa (.inr ⟨w,rfl,by unfold Dm;exact cq hw rfl rfl⟩) (.inl rfl) hv (hN ⟨_,_,_,_⟩ ⟨a7,.of Hu (c0:=[]) rfl (kn rfl) (by simp),k4.trans (k5.trans (k6.trans k7)),e7.le (by exact cR (k:=3) (l:=9) rfl)⟩)
 ·refine jU e4 (by decide) ⟨by decide,by decide⟩ fun r5 H5 k5 e5 a5=> ?_
  obtain⟨k6,e6,a6⟩:=e5.new (.list [.ref r5])
  obtain⟨k7,e7,a7⟩:=e6.new (.inst 279 (IK 3 w 7 3 (.ref H5.length)))
  have lo:H.length≤(H5++[aF.list [.ref r5]]).length:=Nat.le_trans k4.len (Nat.le_trans k5.len k6.len)
  refine O9 (by decide) (by unfold Dm;exact cq hw rfl rfl) ⟨by decide,by decide⟩ ⟨by decide,by decide⟩ ?_
  generalize (H5++[aF.list [.ref r5]]).length=x at *
  generalize H5++[aF.list [.ref r5]]++[aF.inst 279 (IK 3 w 7 3 (.ref H5.length))]=H7 at *
  obtain⟨k8,e8,a8⟩:=e7.new (.list [.ref x])
  have a9:=(a7.e e7 k8).at_
  have hx:H7.length≠x:=(Nat.ne_of_lt (List.getElem?_eq_some_iff.mp a7.at_).1).symm
  have K9:∀o,aE [x] (H7++[aF.list [.ref x]]) ((H7++[aF.list [.ref x]]).set x o):=fun o=>(aE.refl _).set (.inl (List.mem_singleton.mpr rfl))
  exact .of a8.at_ (.of rfl (.of (eO a9 rfl (by decide:9<100)) (hN ⟨_,[.box 3 w],_,_⟩ ⟨⟨[.ref x],⟨(K9 _).at_ _ _ (fun q=>hx (List.mem_singleton.mp q)) a8.at_,a8.nO⟩,HI (.inr rfl) ⟨getset a9,a7.nO⟩,trivial⟩,.of (nK 3) (c0:=[]) rfl (kn rfl) (by simp),(k4.trans (k5.trans (k6.trans (k7.trans k8)))).set (.inr lo),(e8.set a7.nO).le (by exact cR (k:=2) (l:=9) rfl)⟩)))
 ·refine pA e4 ⟨by decide,by decide⟩ fun r5 H5 k5 e5 a5=>pA e5 ⟨by decide,by decide⟩ fun r6 H6 k6 e6 a6=> ?_
  obtain⟨k7,e7,a7⟩:=e6.row [.ref r5,.ref r,.ref r6] [.math true 0,.box 2 w,.math false 0] ⟨a5.e e5 k6,(b4.e e4 k5).e e5 k6,a6,trivial⟩
  exact hN ⟨_,_,_,_⟩ ⟨a7,⟨[.box 2 w],true,[],.box 2 w,rfl,nK 2,rfl,kn rfl,fun q=>(by rw[ho] at q;cases q),by simp⟩,k4.trans (k5.trans (k6.trans k7)),e7.le (by exact cR (k:=2) (l:=9) rfl)⟩
 ·have S4:=hS.keep (e.wide k4)
  have PQ:=(S4 _ (.refl _)).bS ns
  have Ig:=(S4 _ (.refl _)).ex ns
  have fin:N (IM p t st outer w s r ⟨H.length,[.box 2 w],H++[.list [.ref r]],none⟩) (H++[.list [.ref r]]):=hN ⟨_,_,_,_⟩ ⟨⟨_,a4,b4,trivial⟩,.of (nK 2) (c0:=[]) rfl (kn rfl) (by simp),k4,e4.le (by exact cR (k:=2) (l:=9) rfl)⟩
  refine .of (fun z8=>.of PQ (.of Ig (.of (fun q=>.of PQ (.of (fun h=> ?_) fun h=> ?_)) fun _=>fin))) fun _=>fin
  ·refine lK e4 ⟨by decide,by decide⟩ fun r5 H5 k5 e5 a5=> ?_
   obtain⟨k6,e6,t6⟩:=BQ e5 a5
   exact vV hN hw t6 (k4.trans (k5.trans k6)) e6 h
  ·obtain⟨k6,e6,t6⟩:=BP e4
   refine vV hN hw t6 (k4.trans k6) e6 ?_
   show 10000≤S.ex
   split at q<;>lia
theorem HL{E:XK→aa→Prop}(h:Told M p t a b m T H A B mv)(hS:sD M H st S)(hT:T<5000)
  (k:∀w l H',uM S w outer l→Told M p t a b m (T+10) H' (A++[.box 2 w]) (B++l) (mv++[(B.length:Int)+0])→aE M H H'→R .none H'):Wc (aj (aP ns) (n+5) 790 [.ref p,.ref t,st,.bool outer] H) R E:=by
 refine aT rfl rfl (dz h.env 25 (by decide) (by decide) (by exact cE hT rfl) fun c H1 c0 c1 k1 e1=>dz e1 10 (by decide) (by decide) (by exact bE 1 hT rfl) fun s H2 s0 s1 k2 e2=>lK e2 (by unfold Dm;exact cq (eP (d8 8) (eH c0 c1)) rfl rfl) fun r H3 k3 e3 a3=> ?_)
 have K:=k1.trans (k2.trans k3)
 have h3:=h.e K e3 (by exact Nat.le_add_right _ 2)
 have S3:=hS.keep (h.env.wide K)
 refine Fc ?_
 refine lG (IM p t st outer (8+c) s r) (fun z=>z.H) (TR M p T S (8+c) outer H3) (fun N hN=>BS hN (by exact cq (eP (d8 8) (eH c0 c1)) rfl rfl) e3 hT a3 S3) fun z j=> ?_
 have h4:=h3.e j.keep j.env (by exact cR (k:=2) (l:=9) rfl)
 exact sC h4 (a3.e e3 j.keep) j.row j.ok.choose_spec.choose_spec.choose_spec.choose_spec.2.2.2.2.2 (by exact bE 9 hT rfl) fun H5 h5 k5=>k _ _ _ j.ok h5 ((h.env.wide K).trans ((e3.wide j.keep).trans k5))
end
structure fc(w st so sh bN:Int):Prop where
 w: -10≤w∧w≤10
 st:0≤st∧st≤10
 so:0≤so∧so≤3
 sh:0≤sh∧sh≤10
 bN:0≤bN∧bN≤3
def BU(x y:Int):Prop:=(10000≤x∧10000≤y)∨(x<10000∧y<10000∧eu x=eu y)
section
variable {R:PV→aa→Prop}{E:XK→aa→Prop}{ns:List Int}{n:Nat}{M:List Nat}{p t a b m T:Nat}{H:aa}{A B:List Nd}{mv:List Int}{S:bp}{st:PV}
theorem iY(ms:List Int)(e:Env M p T H){m:Int}{K:PV→aa→Prop}(hm:(ms.length:Int)=m)(h0:0<m)(h1:m<1000)(hT:T<10 ^ 15)(k:∀x∈ms,∀H',aE [p] H H'→Env M p (T+1) H'→K (.int x) H'):
  Wc (aj (aP ns) (n+1) 748 [.ref p,.int m] (H++[.list (ms.map .int)])) (fun y H'=>kN H' (.ref H.length) y fun v=>K v H') E:=
 lu e (by rw[List.length_map];exact hm) h0 h1 hT fun v mv H' k' e'=>by
  obtain⟨x,mx,rfl⟩:=List.mem_map.mp mv
  exact k x mx H' k' e'
theorem TU(e:Env M p T H)(hT:T<10 ^ 12)(k:∀r w st so sh bN H',At M H' r (.inst 227 (uq w st so sh bN))→fc w st so sh bN→aE [p] H H'→Env M p (T+5) H'→R (.ref r) H'):Wc (aj (aP ns) (n+4) 804 [.ref p] H) R E:=by
 revert R E ns n M p T H
 apply aQ;intro
 generalize bT .. =R,bU .. =E,bV .. =ns,bW .. =n,cj .. =M,ck .. =p,cm .. =T,cp .. =H
 intro e hT k
 refine aT rfl rfl (iY [4,5,6,7,-2] e rfl (by decide) (by decide) (by exact cE hT rfl) fun w mw H1 k1 e1=>dz e1 7 (by decide) (by decide) (by exact bE 1 hT rfl) fun s H2 s0 s1 k2 e2=>iY [0,0,0,0,0,1,2] e2 rfl (by decide) (by decide) (by exact bE 2 hT rfl) fun o mo H3 k3 e3=>
  iY [0,1,2,3,8] e3 rfl (by decide) (by decide) (by exact bE 3 hT rfl) fun x mx H4 k4 e4=>dz e4 25 (by decide) (by decide) (by exact bE 4 hT rfl) fun y H5 y0 y1 k5 e5=> ?_)
 have q1:=(by decide:∀w∈[4,5,6,7,-2],-10≤w∧w≤(10:Int)) w mw
 have q2:0≤1+s∧1+s≤10:=⟨Int.add_nonneg (by decide) s0,Int.add_le_add (by decide:(1:Int)≤3) (Int.le_of_lt s1)⟩
 have q3:=(by decide:∀w∈[0,0,0,0,0,1,2],0≤w∧w≤(3:Int)) o mo
 have q4:=(by decide:∀w∈[0,1,2,3,8],0≤w∧w≤(10:Int)) x mx
 have q5:0≤(if decide (y=7)=true then(1:Int) else 0)∧(if decide (y=7)=true then(1:Int) else 0)≤3:=by split<;>exact⟨by decide,by decide⟩
 have dm:∀{x:Int},-10≤x∧x≤10→Dm x:=fun h=>by unfold Dm;exact cq h rfl rfl
 exact vT e5 (dm q1) (dm ⟨Int.le_trans (by decide) q2.1,q2.2⟩) (dm ⟨Int.le_trans (by decide) q4.1,q4.2⟩) q3 q5 fun r H6 k6 e6 a6=>k _ _ _ _ _ _ _ a6 ⟨q1,q2,q3,q4,q5⟩ (k1.trans (k2.trans (k3.trans (k4.trans (k5.trans k6))))) e6
theorem Pl{x:Int}(h:Told M p t a b m T H A B mv)(hx: -10000≤x∧x≤10000)(hT:T<5000)(k:∀y H',BU x y→Told M p t a b m (T+2) H' (A++[.pen x]) (B++[.pen y]) (mv++[(B.length:Int)+0])→aE M H H'→R .none H'):
  Wc (aj (aP ns) (n+5) 811 [.ref p,.ref t,.int x] H) R E:=by
 revert R E ns n M p t a b m T H A B mv x
 apply aQ;intro
 generalize bT .. =R,bU .. =E,bV .. =ns,bW .. =n,cj .. =M,ck .. =p,cm .. =t,cp .. =a
 apply aQ;intro
 generalize bT .. =b,bU .. =m,bV .. =T,bW .. =H,cj .. =A,ck .. =B,cm .. =mv,cp .. =x
 intro h hx hT k
 refine aT rfl rfl (dz h.env 400 (by decide) (by decide) (by exact cE hT rfl) fun c H1 c0 c1 k1 e1=>BO e1 (by unfold Nm;exact cq hx rfl rfl) fun r2 H2 k2 e2 a2=>.of (fun z=> ?_) fun z=>.of (fun z'=> ?_) fun z'=> ?_)
 all_goals
  refine BO e2 (by unfold Nm;first|exact cq (eP hx (eH c0 c1)) rfl rfl|exact cq (jl hx (eH c0 c1)) rfl rfl|exact cq hx rfl rfl) fun r3 H3 k3 e3 a3=> ?_
  obtain⟨k4,e4,a4⟩:=e3.row [.ref r3] [.pen _] ⟨a3,trivial⟩
  have K:=k1.trans (k2.trans (k3.trans k4))
  refine sC (h.e K e4 (by exact Nat.le_succ _)) ((a2.e e2 k3).e e3 k4) a4 (by decide:1≤4) (by exact bE 1 hT rfl) fun H5 h5 k5=>k _ _ ?_ h5 ((h.env.wide K).trans k5)
  unfold BU eu
 ·left;exact⟨z,Int.le_trans z (Int.le_add_of_nonneg_right c0)⟩
 ·right;refine⟨by exact Int.lt_of_not_ge z,by exact Int.lt_of_le_of_lt (Int.sub_le_self _ c0) (Int.not_le.mp z),?_⟩;rw[if_neg (Int.not_lt_of_ge hx.1)];split;exact Int.le_antisymm z' hx.1;exact Jn c0 z' ‹_›
 ·right;exact⟨by exact Int.lt_of_not_ge z,by exact Int.lt_of_not_ge z,rfl⟩
end
theorem cz(x o k:Int):(if(if x=0 then 0 else o)=k then x else 0)=if o=k then x else 0:=by
 by_cases h:x=0
 ·subst h;simp
 ·rw[if_neg h]
theorem vW(w st so sh bN:Int):(de w st so sh bN).sm=⟨w,if so=0 then st else 0,if so=1 then st else 0,if so=2 then st else 0,if so=3 then st else 0,sh⟩:=by
 show(⟨w,if(if st=0 then 0 else so)=0 then st else 0,if(if st=0 then 0 else so)=1 then st else 0,if(if st=0 then 0 else so)=2 then st else 0,if(if st=0 then 0 else so)=3 then st else 0,sh⟩:Sm)=_
 simp only[cz]
theorem uO(x w:Int):x+(w - x)=w:=by exact uS
theorem BV(w st so sh bN x y z:Int):total [.glue (de x y (if st=0 then 0 else so) z (if sh=0 then 0 else bN)),.glue (de (w - x) (st - y) (if st=0 then 0 else so) (sh - z) (if sh=0 then 0 else bN))]=total [.glue (de w st so sh bN)]:=by
 have e:∀k,(if so=k then st else 0)=(if(if st=0 then 0 else so)=k then y else 0)+if(if st=0 then 0 else so)=k then st - y else 0:=by
  intro k
  rw[←cz st so k]
  generalize (if st=0 then(0:Int) else so)=o
  by_cases h:o=k
  ·rw[if_pos h,if_pos h,if_pos h];exact(uO y st).symm
  ·rw[if_neg h,if_neg h,if_neg h];rfl
 simp only[jQ,jR];delta Nd.sm;simp only[vW,Sm.add,Sm.zero,Int.add_zero]
 rw[e 0,e 1,e 2,e 3,uO,uO]
theorem yL(w st so sh bN x y z:Int):cN [.glue (de x y (if st=0 then 0 else so) z (if sh=0 then 0 else bN)),.glue (de (w - x) (st - y) (if st=0 then 0 else so) (sh - z) (if sh=0 then 0 else bN))]=cN [.glue (de w st so sh bN)]:=by
 simp only[cN,List.any_cons,List.any_nil];delta Nd.bad;simp only[de,Bool.or_false]
 by_cases h:sh=0
 ·subst h;simp
 ·rw[if_neg h]
  by_cases h':bN=0
  ·subst h';simp
  ·by_cases hz:z=0
   ·subst hz;simp[h,h']
   ·simp[hz,h']
def Qp(z:List Nd):Prop:=∀d∈z,(∃g,d=.glue g)∨∃p,10000≤p∧d=.pen p
theorem Qp.qt{z:List Nd}:Qp z→Qt z:=by
 induction z with
 |nil=>
  exact fun _=>.nil
 |cons d z ih=>
  intro h
  have q:Qt z:=ih fun x m=>h x (List.mem_cons_of_mem _ m)
  rcases h d (List.mem_cons_self ..) with⟨g,rfl⟩|⟨p,hp,rfl⟩
  ·exact .glue g z q
  ·exact .pen p z hp q
theorem Qp.bF{z:List Nd}:Qp z→Qt (z++[.bF 0 1]):=by
 induction z with
 |nil=>
  exact fun _=>.bF 0
 |cons d z ih=>
  intro h
  have q:Qt (z++[.bF 0 1]):=ih fun x m=>h x (List.mem_cons_of_mem _ m)
  rcases h d (List.mem_cons_self ..) with⟨g,rfl⟩|⟨p,hp,rfl⟩
  ·exact .glue g _ q
  ·exact .pen p _ hp q
theorem Qp.pen{z:List Nd}{p:Int}(h:Qp z)(hp:10000≤p):Qp (z++[.pen p]):=by
 intro d m
 rcases List.mem_append.mp m with m|m
 ·exact h d m
 ·exact .inr ⟨p,hp,List.mem_singleton.mp m⟩
structure HM(g:Gl)(l:List Nd):Prop where
 iX:total l=total [.glue g]
 bad:cN l=cN [.glue g]
 bD:∀d∈l,d.bD
theorem HM.more{g:Gl}{l:List Nd}{d:Nd}(h:HM g l)(h0:d.sm=.zero)(h1:d.bad=false)(h2:d.bD):HM g (l++[d]):=by
 refine⟨?_,?_,?_⟩
 ·rw[aZ,h.iX,show total [d]=.zero by rw[jQ,jR,h0,Sm.zero_add],Sm.add_zero]
 ·rw[d7,h.bad];simp[cN,h1]
 ·intro x m
  rcases List.mem_append.mp m with m|m
  ·exact h.bD x m
  ·rw[List.mem_singleton.mp m];exact h2
def FH(free:Bool)(f:List Nd):Prop:=(∃g,f=[.glue g])∨(free=true∧∃g,f=[.bF 0 1,.glue g])
def jX(free:Bool)(g:Gl)(k:Nat)(l:List Nd):Prop:=∃f z,l=f++z∧FH free f∧Qp z∧HM g l∧l.length≤k
def qB(free:Bool)(g:Gl)(l:List Nd):Prop:=∃f z,l=f++z∧FH free f∧Qt z∧HM g l∧l.length≤4
theorem jX.pen{free:Bool}{g:Gl}{k:Nat}{l:List Nd}{p:Int}(h:jX free g k l)(hp:10000≤p):jX free g (k+1) (l++[.pen p]):=by
 obtain⟨f,z,rfl,a,b,c,d⟩:=h
 exact⟨f,z++[.pen p],by simp,a,b.pen hp,c.more rfl rfl trivial,by rw[List.length_append];simp;simpa using d⟩
theorem jX.mono{free:Bool}{g:Gl}{k k':Nat}{l:List Nd}(h:jX free g k l)(hk:k≤k'):jX free g k' l:=by
 obtain⟨f,z,e,a,b,c,d⟩:=h
 exact⟨f,z,e,a,b,c,Nat.le_trans d hk⟩
theorem jX.bF{free:Bool}{g:Gl}{l:List Nd}(h:jX free g 3 l):qB free g (l++[.bF 0 1]):=by
 obtain⟨f,z,rfl,a,b,c,d⟩:=h
 exact⟨f,z++[.bF 0 1],by simp,a,b.bF,c.more rfl rfl trivial,by rw[List.length_append];simp;simpa using d⟩
theorem jX.done{free:Bool}{g:Gl}{l:List Nd}(h:jX free g 3 l):qB free g l:=by
 obtain⟨f,z,e,a,b,c,d⟩:=h
 exact⟨f,z,e,a,b.qt,c,by exact Nat.le_succ_of_le d⟩
theorem jX.one{free:Bool}{w st so sh bN:Int}(h:fc w st so sh bN):jX free (de w st so sh bN) 2 [.glue (de w st so sh bN)]:=by
 refine⟨_,[],rfl,.inl ⟨_,rfl⟩,(fun d m=>(nomatch m)),⟨rfl,rfl,fun d m=> ?_⟩,by simp⟩
 rw[List.mem_singleton.mp m]
 have:=h.so
 show 0≤(if st=0 then 0 else so)∧(if st=0 then 0 else so)≤3
 split<;>omega
theorem jX.two{free:Bool}{w st so sh bN x y z:Int}(h:fc w st so sh bN):jX free (de w st so sh bN) 2 [.glue (de x y (if st=0 then 0 else so) z (if sh=0 then 0 else bN)),.glue (de (w - x) (st - y) (if st=0 then 0 else so) (sh - z) (if sh=0 then 0 else bN))]:=by
 refine⟨[_],[_],rfl,.inl ⟨_,rfl⟩,(fun d m=>.inl ⟨_,List.mem_singleton.mp m⟩),⟨BV ..,yL ..,fun d m=> ?_⟩,by simp⟩
 have:=h.so
 rcases List.mem_cons.mp m with q|q
 ·rw[q]
  show 0≤(if y=0 then 0 else(if st=0 then 0 else so))∧(if y=0 then 0 else(if st=0 then 0 else so))≤3
  split
  ·decide
  ·split<;>lia
 ·rw[List.mem_singleton.mp q]
  show 0≤(if st - y=0 then 0 else(if st=0 then 0 else so))∧(if st - y=0 then 0 else(if st=0 then 0 else so))≤3
  split
  ·decide
  ·split<;>lia
theorem jX.kg{w st so sh bN:Int}(h:fc w st so sh bN):jX true (de w st so sh bN) 2 [.bF 0 1,.glue (de w st so sh bN)]:=by
 refine⟨_,[],rfl,.inr ⟨rfl,_,rfl⟩,(fun d m=>(nomatch m)),⟨?_,rfl,fun d m=> ?_⟩,by simp⟩
 ·show(Sm.zero).add _=_
  rw[Sm.zero_add]
 ·rcases List.mem_cons.mp m with q|q
  ·rw[q];trivial
  ·obtain⟨_,_,e,a,b,c,d'⟩:=jX.one (free:=true) h
   exact c.bD d q
section
variable {ns:List Int}{n:Nat}{M:List Nat}{p t a b m T:Nat}{H:aa}{A B:List Nd}{mv:List Int}{S:bp}{st:PV}
structure iP(M:List Nat)(H:aa)(r:Nat)(vs:List PV)(l:List Nd):Prop where
 at_:At M H r (.list vs)
 all:bu (dG (r::M) H) vs l
theorem dG.behind{v:PV}{d:Nd}{o:aF}(h:dG M H v d):dG (H.length::M) (H++[o]) v d:=by
 intro nY k
 refine h nY ⟨?_,fun i x m e=> ?_⟩
 ·have:=k.len;rw[List.length_append] at this;exact Nat.le_trans (Nat.le_add_right _ _) this
 ·have hi:=(List.getElem?_eq_some_iff.mp e).1
  refine k.at_ i x (fun q=> ?_) ((Pre.app _ (.refl _)).get e)
  rcases List.mem_cons.mp q with q|q
  ·exact Nat.ne_of_lt hi q
  ·exact m q
theorem iP.of(e:Env M p T H){vs:List PV}{l:List Nd}(h:bu (dG M H) vs l):iP M (H++[.list vs]) H.length vs l:=⟨e.low.new _,h.mono fun _ _ x=>x.behind⟩
theorem iP.e{H':aa}{r:Nat}{vs:List PV}{l:List Nd}(e:Env M p T H)(k:aE [p] H H')(h:iP M H r vs l):iP M H' r vs l:=
 ⟨h.at_.e e k,dG.all ((e.wide k).wide fun _ x=>List.mem_cons_of_mem _ x) h.all⟩
theorem iP.k{r:Nat}{vs:List PV}{l:List Nd}(h:iP M H r vs l):nQ M H r l:=⟨vs,h.at_,h.all.mono fun _ _ x=>x.less⟩
theorem iP.push{r:Nat}{vs:List PV}{l:List Nd}{v:PV}{d:Nd}(h:iP M H r vs l)(hd:dG (r::M) H v d):iP M (H.set r (.list (vs++[v]))) r (vs++[v]) (l++[d]):=by
 have k:aE (r::M) H (H.set r (.list (vs++[v]))):=(aE.refl H).set (.inl (List.mem_cons_self ..))
 exact⟨⟨getset h.at_.at_,h.at_.nO⟩,(dG.all k h.all).append ⟨hd.keep k,trivial⟩⟩
theorem yM{g:Nat}{w st so sh bN:Int}(h:H[g]? =some (.inst 227 (uq w st so sh bN))):iZ (aP ns) 65 H (.ref g)=some 181:=by
 unfold iZ
 dsimp only
 rw[h]
 rfl
noncomputable def dg(l B:List Nd):Int:=if(l.head?.map Nd.kind)=some 6∧(B.getLast?.map Nd.kind)=some 12 then -1 else 0
theorem HN{k:Nat}(h:0<k)(h':k<1000000):place (-1) k=some (k - 1):=by
 unfold place
 rw[if_pos h',if_neg (by lia),if_pos (by exact Jr h)]
 congr 1
 exact I0
end
structure Pm where
 r:Nat
 vs:List PV
 l:List Nd
 H:aa
 (y z:Option PV)
instance:Nonempty Pm:=⟨⟨0,[],[],[],none,none⟩⟩
structure Fq(M:List Nat)(p T:Nat)(Q:List Nd→Prop)(H:aa)(s:Pm):Prop where
 lo:H.length≤s.r
 row:iP M s.H s.r s.vs s.l
 q:Q s.l
 keep:aE [p] H s.H
 env:Env M p T s.H
section
variable {R:PV→aa→Prop}{ns:List Int}{n:Nat}{M:List Nat}{p t a b m T:Nat}{H:aa}{A B:List Nd}{mv:List Int}{S:bp}{w st so sh bN s Pn Ek:Int}{free:Bool}{r1 g:Nat}
noncomputable def Cm(p t g:Nat)(free:Bool)(r1:Nat)(s w st so sh bN:Int)(z:Pm):Loc:=[some (.ref p),some (.ref t),some (.ref g),some (.bool free),some (.ref r1),some (.int s),some (.int w),some (.int st),some (.int so),some (.int sh),some (.int bN),some (.ref z.r),z.y,z.z]
theorem yN{N:Loc→aa→Prop}{Q:QL}{E:EL}(hN:∀z,Fq M p (T+3) (jX free (de w st so sh bN) 2) H z→N (Cm p t g free r1 s w st (if st=0 then 0 else so) sh (if sh=0 then 0 else bN) z) z.H)(ok:fc w st so sh bN)(e:Env M p T H)(hT:T<6000)(hg:At M H g (.inst 227 (uq w st so sh bN)))
  (a2:dG M H (.ref r1) (.glue (de w st so sh bN))):wS (aP ns) (aj (aP ns) (n+4)) (ff zw 3) (Cm p t g free r1 s w st (if st=0 then 0 else so) sh (if sh=0 then 0 else bN) ⟨H.length,[],[],H,none,none⟩) (H++[.list [.ref r1]]) (mn Q N) E:=by
 revert ns n M p t T H w st so sh bN s free r1 g N Q E
 apply aQ;intro
 generalize bT .. =ns,bU .. =n,bV .. =M,bW .. =p,cj .. =t,ck .. =T,cm .. =H,cp .. =w
 apply aQ;intro
 generalize bT .. =st,bU .. =so,bV .. =sh,bW .. =bN,cj .. =s,ck .. =free,cm .. =r1,cp .. =g
 apply aM;intro
 generalize bI .. =N,bJ .. =Q
 apply aI;intro
 generalize nx .. =E
 intro hN ok e hT hg a2
 obtain⟨k3,e3,a3⟩:=e.new (.list [.ref r1])
 have g3:=hg.e e k3
 have b3:=a2.e e k3
 have bs:0≤(if st=0 then 0 else so)∧(if st=0 then 0 else so)≤3:=by have:=ok.so;split<;>lia
 have bh:0≤(if sh=0 then 0 else bN)∧(if sh=0 then 0 else bN)≤3:=by have:=ok.bN;split<;>lia
 have bw:=ok.w
 have bt:=ok.st
 have Yz:=ok.sh
 have TV:N (Cm p t g free r1 s w st (if st=0 then 0 else so) sh (if sh=0 then 0 else bN) ⟨H.length,[.ref r1],[.glue (de w st so sh bN)],H++[.list [.ref r1]],none,none⟩) (H++[.list [.ref r1]]):=hN _ ⟨Nat.le_refl _,iP.of e ⟨a2,trivial⟩,jX.one ok,k3,e3.le (by exact Nat.le_add_right _ _)⟩
 refine .of (fun z=> ?_) fun _=>.of (fun z=> ?_) fun _=>.of (fun z=> ?_) fun _=>.Pj (fun z hf=> ?_) fun _=>TV
 ·refine dz e3 6 (by decide) (by decide) (by exact cE hT rfl) fun x H4 x0 x1 k4 e4=>dz e4 4 (by decide) (by decide) (by exact bE 1 hT rfl) fun y H5 y0 y1 k5 e5=>dz e5 3 (by decide) (by decide) (by exact bE 2 hT rfl) fun u H6 u0 u1 k6 e6=>
   vT e6 (by unfold Dm;exact cq (jl (eH x0 x1) (d8 1)) rfl rfl) (by unfold Dm;exact cq (eH y0 y1) rfl rfl) (by unfold Dm;exact cq (eH u0 u1) rfl rfl) bs bh fun r7 H7 k7 e7 a7=> ?_
  have q0:g9 (aP ns) H7 (.ref r7) 0=some (.int (x - 1)):=aA a7.at_ rfl rfl ns
  have q1:g9 (aP ns) H7 (.ref r7) 1=some (.int y):=aA a7.at_ rfl rfl ns
  have q3:g9 (aP ns) H7 (.ref r7) 3=some (.int u):=aA a7.at_ rfl rfl ns
  refine .of q0 (.of q1 (.of q3 (vT e7 (by unfold Dm;exact cq (jl bw (jl (eH x0 x1) (d8 1))) rfl rfl) (by unfold Dm;exact cq (jl bt (eH y0 y1)) rfl rfl) (by unfold Dm;exact cq (jl Yz (eH u0 u1)) rfl rfl) bs bh fun r8 H8 k8 e8 a8=>vU e8 (.inl rfl) fun r9 H9 k9 e9 a9=>vU e9 (.inl rfl) fun VO Pk lL sI uX=> ?_)))
  have n1:=nP (c:=0) ((a9.e e9 lL)) (((a7.e e7 k8).e e8 k9).e e9 lL)
  have n2:=nP (c:=0) uX ((a8.e e8 k9).e e9 lL)
  have K:=k3.trans (k4.trans (k5.trans (k6.trans (k7.trans (k8.trans (k9.trans lL))))))
  exact hN ⟨_,_,_,_,_,_⟩ ⟨K.len,iP.of sI (l:=[_,_]) ⟨n1,n2,trivial⟩,jX.two (free:=free) (x:=x - 1) (y:=y) (z:=u) ok,K.trans ((aE.refl _).app _),(sI.new _).2.1⟩
 ·refine dz e3 3 (by decide) (by decide) (by exact cE hT rfl) ?_
  apply aM;intro
  generalize bI .. =x,bJ .. =H4
  intro x0 x1 k4 e4
  obtain⟨k5,e5,a5⟩:=e4.new (.inst 300 [(0,.none),(6,.int 2),(7,.int 0)])
  obtain⟨k6,e6,a6⟩:=e5.new (.inst 343 [(14,.ref g),(13,.int (1+x)),(15,.ref H4.length)])
  have n1:=nP (c:=0) a6 (((g3.e e3 k4).e e4 k5).e e5 k6)
  have K:=k3.trans (k4.trans (k5.trans k6))
  exact Pa (.inl rfl) (.inr ⟨2,rfl,by decide,by decide⟩) (.inr ⟨0,rfl,by decide,by decide⟩) (Pb (by exact cq (eP (d8 1) (eH x0 x1)) rfl rfl) (eW a5.at_ rfl rfl rfl rfl) (hN ⟨_,_,_,_,_,_⟩ ⟨K.len,iP.of e6 (l:=[_]) ⟨n1,trivial⟩,jX.one ok,K.trans ((aE.refl _).app _),(e6.new _).2.1.le (by exact cR (k:=1) (l:=3) rfl)⟩))
 ·refine dz e3 19 (by decide) (by decide) (by exact cE hT rfl) fun x H4 x0 x1 k4 e4=>vU e4 (.inr (by exact cq (eP (d8 100) (eH x0 x1)) rfl rfl)) fun r6 H6 k6 e6 a6=> ?_
  have n1:=nP (c:=0) a6 ((g3.e e3 k4).e e4 k6)
  have K:=k3.trans (k4.trans k6)
  exact hN ⟨_,_,_,_,_,_⟩ ⟨K.len,iP.of e6 (l:=[_]) ⟨n1,trivial⟩,jX.one ok,K.trans ((aE.refl _).app _),(e6.new _).2.1.le (by exact cR (k:=1) (l:=3) rfl)⟩
 ·refine jU e3 (by decide) ⟨by decide,by decide⟩ fun r4 H4 k4 e4 a4=> ?_
  have K:=k3.trans k4
  subst hf
  exact hN ⟨_,_,_,_,_,_⟩ ⟨K.len,iP.of e4 (l:=[_,_]) ⟨a4,b3.e e3 k4,trivial⟩,jX.kg ok,K.trans ((aE.refl _).app _),(e4.new _).2.1.le (by exact Nat.le_add_right _ _)⟩
theorem TX{H:aa}{x:Int}{is:List Int}{l:List PV}{A B:Prop}(h:kM l=some is)(ha:A)(hb:B):qR .In H (.int x) (.tup l) A B:=.of h (.of (fun _=>ha) fun _=>hb)
theorem El{N:Loc→aa→Prop}{Q:QL}{E:EL}{z:Pm}(hN:∀z,Fq M p (T+1) (jX free (de w st so sh bN) 3) H z→N (Cm p t g free r1 s w st Pn sh Ek z) z.H)(j:Fq M p T (jX free (de w st so sh bN) 2) H z)(hT:T<6000):
  wS (aP ns) (aj (aP ns) (n+4)) (ff zw 4) (Cm p t g free r1 s w st Pn sh Ek z) z.H (mn Q N) E:=by
 have hl:z.l.length≤2:=j.q.choose_spec.choose_spec.2.2.2.2
 have hv:z.vs.length<100000:=by have:=j.row.all.length;exact gC (Nat.le_trans (Nat.le_of_eq this) hl) rfl
 have e':=j.env.more (List.getElem?_eq_some_iff.mp j.row.at_.at_).1
 refine .of (a:=[1,3,6,7]) rfl (.of (fun _=> ?_) fun _=>hN z ⟨j.lo,j.row,j.q.mono (by decide),j.keep,j.env.le (Nat.le_succ _)⟩)
 refine .of j.row.at_.at_ (dz e' 3 (by decide) (by decide) (by exact cE hT rfl) fun x H4 x0 x1 k4 e4=>BO e4 (by unfold Nm;exact cq (eP (d8 10000) (eH x0 x1)) rfl rfl) fun r5 H5 k5 e5 a5=> ?_)
 have h5:=(j.row.e j.env k4).e (e4.less j.env.mem) k5
 have fin:=hN ⟨z.r,z.vs++[.ref r5],z.l++[.pen (10000+x)],H5.set z.r (.list (z.vs++[.ref r5])),z.y,z.z⟩ ⟨j.lo,h5.push a5,j.q.pen (by exact Int.le_add_of_nonneg_right x0),(j.keep.trans (k4.trans k5)).set (.inr j.lo),(e5.less j.env.mem).set h5.at_.nO⟩
 exact .of h5.at_.at_ (.of hv fin)
theorem BW{N:Loc→aa→Prop}{Q:QL}{E:EL}{z:Pm}(hN:∀z,Fq M p T (qB free (de w st so sh bN)) H z→N (Cm p t g free r1 s w st Pn sh Ek z) z.H)(j:Fq M p T (jX free (de w st so sh bN) 3) H z)(hT:T<6000):
  wS (aP ns) (aj (aP ns) (n+4)) (ff zw 5) (Cm p t g free r1 s w st Pn sh Ek z) z.H (mn Q N) E:=by
 have hl:z.l.length≤3:=j.q.choose_spec.choose_spec.2.2.2.2
 have hv:z.vs.length<100000:=by have:=j.row.all.length;lia
 have e':=j.env.more (List.getElem?_eq_some_iff.mp j.row.at_.at_).1
 refine .of (a:=[2,3,8]) rfl (.of (fun _=> ?_) fun _=>hN z ⟨j.lo,j.row,j.q.done,j.keep,j.env⟩)
 refine .of j.row.at_.at_ (jU e' (by decide) ⟨by decide,by decide⟩ fun r5 H5 k5 e5 a5=> ?_)
 have h5:=j.row.e j.env k5
 have fin:=hN ⟨z.r,z.vs++[.ref r5],z.l++[.bF 0 1],H5.set z.r (.list (z.vs++[.ref r5])),z.y,z.z⟩ ⟨j.lo,h5.push a5,j.q.bF,(j.keep.trans k5).set (.inr j.lo),(e5.less j.env.mem).set h5.at_.nO⟩
 exact .of h5.at_.at_ (.of hv fin)
theorem Po{E:XK→aa→Prop}(h:Told M p t a b m T H A B mv)(hg:At M H g (.inst 227 (uq w st so sh bN)))(ok:fc w st so sh bN)(hB:B≠[])(hT:T<5000)
  (k:∀l H',qB free (de w st so sh bN) l→Told M p t a b m (T+8) H' (A++[.glue (de w st so sh bN)]) (B++l) (mv++[(B.length:Int)+dg l B])→aE M H H'→R .none H'):
  Wc (aj (aP ns) (n+5) 797 [.ref p,.ref t,.ref g,.bool free] H) R E:=by
 revert R ns n M p t a b m T H A B mv w st so sh bN free g E
 apply aQ;intro
 generalize bT .. =R,bU .. =ns,bV .. =n,bW .. =M,cj .. =p,ck .. =t,cm .. =a,cp .. =b
 apply aQ;intro
 generalize bT .. =m,bU .. =T,bV .. =H,bW .. =A,cj .. =B,ck .. =mv,cm .. =w,cp .. =st
 apply aO;intro
 generalize bL .. =so,bM .. =sh,bQ .. =bN,bR .. =free
 apply aM;intro
 generalize bI .. =g,bJ .. =E
 intro h hg ok hB hT k
 refine aT rfl rfl (vU h.env (.inl rfl) fun r1 H1 k1 e1 a1=>dz e1 9 (by decide) (by decide) (by exact cE hT rfl) fun s H2 s0 s1 k2 e2=> ?_)
 have K:=k1.trans k2
 have g2:=(hg.e h.env k1).e e1 k2
 have h2:=h.e K e2 (Nat.le_succ _)
 have kk:=h.env.wide K
 have a2:dG M H2 (.ref r1) (.glue (de w st so sh bN)):=nP (c:=0) (a1.e e1 k2) g2
 refine .of (yM g2.at_) (Pc g2.at_ ?_)
 refine Fc ?_
 refine lG (Cm p t g free r1 s w st (if st=0 then 0 else so) sh (if sh=0 then 0 else bN)) (fun z=>z.H) (Fq M p (T+4) (jX free (de w st so sh bN) 2) H2) (fun N hN=>yN hN ok e2 (by exact bE 1 hT rfl) g2 a2) fun z j=> ?_
 refine cut (Cm p t g free r1 s w st (if st=0 then 0 else so) sh (if sh=0 then 0 else bN)) (fun z=>z.H) (Fq M p (T+5) (jX free (de w st so sh bN) 3) H2) (fun N hN=>El hN j (by exact bE 4 hT rfl)) fun z j=> ?_
 refine cut (Cm p t g free r1 s w st (if st=0 then 0 else so) sh (if sh=0 then 0 else bN)) (fun z=>z.H) (Fq M p (T+5) (qB free (de w st so sh bN)) H2) (fun N hN=>BW hN j (by exact bE 5 hT rfl)) fun z j=> ?_
 have h3:=h2.e j.keep j.env (by exact cR (k:=1) (l:=5) rfl)
 obtain⟨vb,b1,b2⟩:=h3.fb
 have jq:=j.q
 obtain⟨f,z',e',hf,-,-,VP⟩:=j.q
 obtain⟨d0,l',el⟩:∃d0 l',z.l=d0::l':=by
  rcases hf with⟨g,rfl⟩|⟨_,g,rfl⟩
  ·exact⟨_,_,e'⟩
  ·exact⟨_,_,e'⟩
 obtain⟨v0,YA,Iy⟩:=j.row.all.get (i:=0) (b:=d0) (by rw[el];rfl)
 have lv:=j.row.all.length
 have lb:=b2.length
 have la:=h3.la
 have YB:=h3.lb
 obtain⟨dl,VQ⟩:∃dl,B.getLast?=some dl:=⟨_,List.getLast?_eq_some_getLast hB⟩
 have Pp:=VQ
 rw[List.getLast?_eq_getElem?] at Pp
 obtain⟨vl,q1,q2⟩:=b2.get Pp
 have YC:0<B.length:=List.length_pos_iff.mpr hB
 have bk:dg z.l B=if d0.kind=6∧dl.kind=12 then -1 else 0:=by
  unfold dg
  rw[el,VQ]
  simp
 have fin:∀{R':PV→aa→Prop} bk,bk=dg z.l B→(∀H',R .none H'→R' .none H')→Wc (aj (aP ns) (n+4) 769 [.ref t,.ref r1,.ref z.r,.int bk] z.H) R' fun k H'=>E .flying H':=fun bk e hR=>by
  subst e
  exact sC h3 (a2.e e2 j.keep) j.row.k VP (by exact bE 5 hT rfl) fun H5 h5 k5=>hR _ (k _ _ jq (h5.le (by exact cR (k:=6) (l:=8) rfl)) (kk.trans ((e2.wide j.keep).trans k5)))
 have lR:((place (-1) vb.length).bind fun m=>vb[m]?)=some vl:=by
  rw[HN (by exact Nat.lt_of_lt_of_eq YC lb.symm) (by exact Jg hT lb la YB),lb];exact q1
 have YD:=fg YA (by exact gC (Nat.le_trans (Nat.le_of_eq lv) VP) rfl:z.vs.length<1000)
 have nk:¬(d0.kind=6∧dl.kind=12)→(if d0.kind=6∧dl.kind=12 then(-1:Int) else 0)=0:=fun x=>if_neg x
 exact .of j.row.at_.at_ (.of YD (.of (Iy.now.kind ns) (.of (fun y1=>.of (Cj h3.told.at_ rfl) (.of b1 (.of lR (.of (q2.now.kind ns) (.of (fun y2=>fin _ (bk.trans (if_pos ⟨y1,y2⟩)).symm fun _ h=>h) fun y2=>fin _ (bk.trans (nk fun x=>y2 x.2)).symm fun _ h=>h))))) fun y1=>fin _ (bk.trans (nk fun x=>y1 x.1)).symm fun _ h=>h)))
end
section
variable {H:aa}{loc:Loc}{ct:List Nat}{elt:Loc→aa→(PV→aa→Prop)→(XK→aa→Prop)→Prop}{r:Nat}
def yO(elt:Loc→aa→(PV→aa→Prop)→(XK→aa→Prop)→Prop)(ct:List Nat)(R:List PV→aa→Prop)(r:Nat)(vs:List PV):List PV→List PV→Loc→aa→Prop
 |[],acc,_,H=>H[r]? =some (.list vs)∧R acc H
 |v::l,acc,loc,H=>H[r]? =some (.list vs)∧f9 ct v loc fun loc=>elt loc H (fun x H=>acc.length<1000∧yO elt ct R r vs l (acc++[x]) loc H) nE
theorem yO.at{R:List PV→aa→Prop}{vs l acc:List PV}(h:yO elt ct R r vs l acc loc H):H[r]? =some (.list vs):=by
 cases l<;>exact h.1
theorem nR{R:List PV→aa→Prop}{vs:List PV}(h:yO elt ct R r vs vs [] loc H):mA elt ct (.live r) loc H R:=by
 unfold mA
 refine⟨vs.length,fun k=>(vs[k]?).getD .none,fun k=>yO elt ct R r vs (vs.drop k),h,?_,?_,?_,?_⟩
 ·intro k _ _ H i h;show(listAt _ _).map _=some (some ((vs[k]?).getD .none));rw[cZ i.at,Option.map_some,List.getElem?_eq_getElem h];rfl
 ·intro _ _ H i;show(listAt _ _).map _=_;rw[cZ i.at,Option.map_some,List.getElem?_eq_none (Nat.le_refl _)]
 ·intro k acc loc H h i;rw[ix h] at i;show f9 ct ((vs[k]?).getD .none) loc _;rw[List.getElem?_eq_getElem h];exact i.2
 ·intro acc loc H i;rw[List.drop_length] at i;exact i.2
end
noncomputable def ji:Option Int→PV
 |none=>.none
 |some x=>.int x
noncomputable def txt:Option Int→List Int
 |none=>[]
 |some x=>[x]
def HO(o:Option Int):Prop:=∀x,o=some x→2≤x∧x≤6
def VS:Option Int→List Nd→Prop
 |none,l=>l=[]
 |some x,l=>HH x l
def Em(M:List Nat)(H:aa)(v:PV)(o:Option Int):Prop:=∃r l,v=.ref r∧nQ M H r l∧VS o l
section
variable {R:PV→aa→Prop}{ns:List Int}{n:Nat}{M:List Nat}{p t a b m T:Nat}{H:aa}{A B:List Nd}{mv:List Int}{S:bp}{st:PV}
theorem Em.text{v:PV}{o:Option Int}(h:Em M H v o):∃ws,kJ M H v ws∧ws.sum=(txt o).sum∧ws.isEmpty=(txt o).isEmpty:=by
 revert M H v o
 apply aO;intro
 generalize bL .. =M,bM .. =H,bQ .. =v,bR .. =o
 intro h
 obtain⟨r,l,rfl,⟨vs,h1,h2⟩,h3⟩:=h
 cases o with
 |none=>
  subst h3
  rw[bu.nil_inv h2] at h1
  exact⟨[],kJ.of h1 (by simp) trivial,rfl,rfl⟩
 |some x=>
  rcases h3 with⟨c,rfl⟩|⟨c,a,s,rfl⟩
  ·obtain⟨v1,r1,rfl,x1,h3⟩:=bu.cons_inv h2
   obtain⟨v2,r2,rfl,x2,h4⟩:=bu.cons_inv h3
   rw[bu.nil_inv h4] at h1
   exact⟨[c,x - c],kJ.of h1 (by simp) ⟨iC x1,iC x2,trivial⟩,by simp[txt];exact uS,rfl⟩
  ·obtain⟨v1,r1,rfl,x1,h3⟩:=bu.cons_inv h2
   obtain⟨v2,r2,rfl,x2,h4⟩:=bu.cons_inv h3
   obtain⟨v3,r3,rfl,x3,h5⟩:=bu.cons_inv h4
   rw[bu.nil_inv h5] at h1
   exact⟨[c,a,x - c - a],kJ.of h1 (by simp) ⟨iC x1,yK x2,iC x3,trivial⟩,by simp[txt];exact Ey,rfl⟩
theorem Em.e{H':aa}{v:PV}{o:Option Int}(e:Env M p T H)(k:aE [p] H H'):Em M H v o→Em M H' v o
 |⟨r,l,h,a,b⟩=>⟨r,l,h,a.e e k,b⟩
def pC(S:bp)(o0 o1 o2:Option Int)(l:List Nd):Prop:=
 if 10000≤costOf S (txt o0) then VS o2 l else ∃P q mm,l=[.bP P q mm]∧(P.sum=(txt o0).sum∧P.isEmpty=(txt o0).isEmpty)∧(q.sum=(txt o1).sum∧q.isEmpty=(txt o1).isEmpty)∧mm.sum=(txt o2).sum
theorem size_of{v:PV}(h:v∈[PV.none,.int 3,.int 2,.int 6]):∃o,v=ji o∧HO o:=by
 simp only[List.mem_cons,List.not_mem_nil,or_false] at h
 rcases h with rfl|rfl|rfl|rfl
 ·exact⟨none,rfl,fun x e=>by cases e⟩
 ·exact⟨some 3,rfl,fun x e=>by cases e;decide⟩
 ·exact⟨some 2,rfl,fun x e=>by cases e;decide⟩
 ·exact⟨some 6,rfl,fun x e=>by cases e;decide⟩
theorem BX{x0 x1 x2 x3 x4 x5 x6 x7 x8:Option PV}{K:PV→aa→Prop}{E:XK→aa→Prop}(o:Option Int)(ho:HO o)(e:Env M p T H)(k:∀r H',kJ M H' (.ref r) (txt o)→aE [p] H H'→Env M p T H'→K (.ref r) H'):
  wE (aP ns) (aj (aP ns) (n+4)) (.ite (.cmp .Is (.var 9) (.const .none)) (.list .nil) (.list (.cons (.callC 279 (.cons (.const (.int 2)) (.cons (.var 9) (.cons (.const (.int 0)) (.cons (.const (.int 0)) (.cons (.list .nil) .nil)))))) .nil))) [x0,x1,x2,x3,x4,x5,x6,x7,x8,some (ji o)] H K E:=by
 cases o with
 |none=>
  obtain⟨k3,e3,t3⟩:=BP e
  exact k _ _ t3 k3 e3
 |some x=>
  have hx:=ho x rfl
  refine lK e (by unfold Dm;exact cq hx rfl rfl) fun r H3 k3 e3 a3=> ?_
  obtain⟨k4,e4,t4⟩:=BQ e3 a3
  exact k _ _ t4 (k3.trans k4) e4
theorem uP{x1 x2 x3 x4 x5 x6 x7 x8:Option PV}{K:PV→aa→Prop}{E:XK→aa→Prop}(o:Option Int)(ho:HO o)(e:Env M p T H)(hT:T<10000)(k:∀v H',Em M H' v o→aE [p] H H'→Env M p (T+3) H'→K v H'):
  wE (aP ns) (aj (aP ns) (n+4)) (.ite (.cmp .Is (.var 9) (.const .none)) (.list .nil) (.ah 776 (.cons (.var 0) (.cons (.var 9) .nil)))) [some (.ref p),x1,x2,x3,x4,x5,x6,x7,x8,some (ji o)] H K E:=by
 cases o with
 |none=>
  obtain⟨k3,e3,t3⟩:=e.row [] [] trivial
  exact k _ _ ⟨_,_,rfl,t3,rfl⟩ k3 (e3.le (by exact Nat.le_add_right _ _))
 |some x=>
  have hx:=ho x rfl
  exact Pg e (by exact cq hx rfl rfl) (by exact cE hT rfl) fun r l H4 a4 q4 k4 e4=>k _ _ ⟨_,_,rfl,a4,q4⟩ k4 e4
theorem get3{x y z:PV}{k:Nat}{v:PV}(h:[x,y,z][k]? =some v):((place (k:Int) [x,y,z].length).bind fun m=>[x,y,z][m]?)=some v:=fg h (by decide:3<1000)
theorem BY{rp:Nat}{p0 p1 p2:PV}{o0 o1 o2:Option Int}{x0 x1 x2 x3 x4 x7 x8 x9:Option PV}{N:Loc→aa→Prop}{Q:QL}{E:EL}(e:Env M p T H)(oN:At M H rp (.list [p0,p1,p2]))(Y0:Em M H p0 o0)(Y1:Em M H p1 o1)(Y2:Em M H p2 o2)
  (hN:∀r l H',nQ M H' r l→pC S o0 o1 o2 l→l.length≤4→aE [p] H H'→Env M p T H'→N [x0,x1,x2,x3,x4,some (.ref rp),some (.int (costOf S (txt o0))),some (.ref r),x8,x9] H'):
  wS (aP ns) (aj (aP ns) (n+4)) (ff CX 4) [x0,x1,x2,x3,x4,some (.ref rp),some (.int (costOf S (txt o0))),x7,x8,x9] H (mn Q N) E:=by
 revert ns n M p T H S rp p0 p1 p2 o0 o1 o2 x0 x1 x2 x3 x4 x7 x8 x9 N Q E
 apply aQ;intro
 generalize bT .. =ns,bU .. =n,bV .. =M,bW .. =p,cj .. =T,ck .. =H,cm .. =S,cp .. =rp
 apply aQ;intro
 generalize bT .. =p0,bU .. =p1,bV .. =p2,bW .. =o0,cj .. =o1,ck .. =o2,cm .. =x0,cp .. =x1
 apply aQ;intro
 generalize bT .. =x2,bU .. =x3,bV .. =x4,bW .. =x7,cj .. =x8,ck .. =x9,cm .. =N,cp .. =Q
 apply aI;intro
 generalize nx .. =E
 intro e oN Y0 Y1 Y2 hN
 obtain⟨w0,YE,YF,YG⟩:=Y0.text
 obtain⟨w1,YH,YI,YJ⟩:=Y1.text
 obtain⟨w2,YK,YL,Zt⟩:=Y2.text
 obtain⟨r0,l0,rfl,-,-⟩:=Y0
 obtain⟨r1,l1,rfl,-,-⟩:=Y1
 obtain⟨r2,l2,rfl,YM,TY⟩:=Y2
 refine .of (fun z=> ?_) fun z=> ?_
 ·refine .of oN.at_ (.of (get3 (k:=2) rfl) (hN _ _ _ YM ?_ ?_ (.refl _) e))
  ·unfold pC;rw[if_pos z];exact TY
  ·cases o2 with
   |none=>rw[TY];exact Nat.zero_le _
   |some x=>rcases TY with⟨c,rfl⟩|⟨c,a,s,rfl⟩<;>(show _≤4;simp)
 ·refine .of oN.at_ (.of (get3 (k:=0) rfl) (.of oN.at_ (.of (get3 (k:=1) rfl) (.of oN.at_ (.of (get3 (k:=2) rfl) (BR e YE YH YK fun r Qs Cn TZ Io=> ?_))))))
  obtain⟨Ff,T3,ED⟩:=TZ.row [.ref r] [.bP w0 w1 w2] ⟨Io,trivial⟩
  refine hN _ _ _ ED ?_ (by simp) (Cn.trans Ff) T3
  unfold pC
  rw[if_neg z]
  exact⟨_,_,_,rfl,⟨YF,YG⟩,⟨YI,YJ⟩,YL⟩
theorem BZ{rt r t0 t1 t2:Nat}{P q mm:List Int}{l:List Nd}{x0 x2 x3 x5 x6 x8 x9:Option PV}{Q:QL}{E:EL}(h:Told M p t a b m T H A B mv)(gt:At M H rt (.list [.ref t0,.ref t1,.ref t2]))
  (T0:kJ M H (.ref t0) P) (T1:kJ M H (.ref t1) q) (T2:kJ M H (.ref t2) mm) (rk:nQ M H r l) (l4:l.length≤4) (hT:T<10000)
  (k:∀H',Told M p t a b m (T+1) H' (A++[.bP P q mm]) (B++l) (mv++[(B.length:Int)+0])→aE M H H'→Q .next [x0,some (.ref t),x2,x3,some (.ref rt),x5,x6,some (.ref r),x8,x9] H'):
  wSs (aP ns) (aj (aP ns) (n+4)) (iV CX 5) [x0,some (.ref t),x2,x3,some (.ref rt),x5,x6,some (.ref r),x8,x9] H Q E:=by
 have g:=gt.at_
 refine .of g (.of (get3 (k:=0) rfl) (.of g (.of (get3 (k:=1) rfl) (.of g (.of (get3 (k:=2) rfl) (BR h.env T0 T1 T2 fun r5 YN Ff T3 ED=> ?_))))))
 exact sC (h.e Ff T3 (Nat.le_refl _)) ED (rk.e h.env Ff) l4 hT fun VT Cb T4=>k _ Cb ((h.env.wide Ff).trans T4)
theorem T5{E:XK→aa→Prop}(h:Told M p t a b m T H A B mv)(hS:sD M H st S)(hT:T<5000)
  (k:∀o0 o1 o2 l H',pC S o0 o1 o2 l→Told M p t a b m (T+15) H' (A++[.bP (txt o0) (txt o1) (txt o2)]) (B++l) (mv++[(B.length:Int)+0])→aE M H H'→R .none H'):Wc (aj (aP ns) (n+5) 816 [.ref p,.ref t,st] H) R E:=by
 revert R ns n M p t a b m T H A B mv S st E
 apply aQ;intro
 generalize bT .. =R,bU .. =ns,bV .. =n,bW .. =M,cj .. =p,ck .. =t,cm .. =a,cp .. =b
 apply aQ;intro
 generalize bT .. =m,bU .. =T,bV .. =H,bW .. =A,cj .. =B,ck .. =mv,cm .. =S,cp .. =st
 apply aI;intro
 generalize nx .. =E
 intro h hS hT k
 have lt:∀{k},Nat.ble 1000 k=false→k<1000:=fun h=>Nat.lt_of_not_le fun h'=>by rw[Nat.ble_eq_true_of_le h'] at h;cases h
 refine aT rfl rfl (.of (by decide) (qm (lu h.env rfl (by decide) (by decide) (by exact cE hT rfl) fun v0 m0 H1 k1 e1=>⟨lt rfl,lu e1 rfl (by decide) (by decide) (by exact bE 1 hT rfl) fun v1 m1 H2 k2 e2=>⟨lt rfl,lu e2 rfl (by decide) (by decide) (by exact bE 2 hT rfl) fun v2 m2 H3 k3 e3=>⟨lt rfl,.of (lt rfl) ?_⟩⟩⟩)))
 obtain⟨o0,rfl,q0⟩:=size_of m0
 obtain⟨o1,rfl,q1⟩:=size_of m1
 obtain⟨o2,rfl,q2⟩:=size_of m2
 obtain⟨k4,e4,a4⟩:=e3.new (.list [ji o0,ji o1,ji o2])
 have K4:=k1.trans (k2.trans (k3.trans k4))
 have g4:∀{H'},aE [p] _ H'→H'[H3.length]? =some (.list [ji o0,ji o1,ji o2]):=fun k=>(a4.e e4 k).at_
 refine .of a4.at_ (.of (Nat.lt_trans (lt rfl) (by decide:1000<100000)) (nR (vs:=[ji o0,ji o1,ji o2]) ⟨a4.at_,BX o0 q0 e4 fun t0 H5 x0 k5 e5=>⟨lt rfl,g4 k5,BX o1 q1 e5 fun t1 H6 x1 k6 e6=>⟨lt rfl,g4 (k5.trans k6),BX o2 q2 e6 fun t2 H7 x2 k7 e7=>⟨lt rfl,g4 (k5.trans (k6.trans k7)),.of (lt rfl) ?_⟩⟩⟩⟩))
 have K7:=k5.trans (k6.trans k7)
 obtain⟨k8,e8,a8⟩:=e7.new (.list [.ref t0,.ref t1,.ref t2])
 have K8:=K7.trans k8
 have X0:=((x0.e e5 k6).e e6 k7).e e7 k8
 have X1:=(x1.e e6 k7).e e7 k8
 have X2:=x2.e e7 k8
 refine .of (g4 K8) (.of (Nat.lt_trans (lt rfl) (by decide:1000<100000)) (nR (vs:=[ji o0,ji o1,ji o2]) ⟨g4 K8,uP o0 q0 e8 (by exact bE 3 hT rfl) fun p0 H9 y0 k9 e9=>⟨lt rfl,g4 (K8.trans k9),uP o1 q1 e9 (by exact bE 6 hT rfl) fun p1 Pk y1 lL sI=>⟨lt rfl,g4 (K8.trans (k9.trans lL)),uP o2 q2 sI (by exact bE 9 hT rfl) fun p2 Ck y2 qA EE=>⟨lt rfl,g4 (K8.trans (k9.trans (lL.trans qA))),.of (lt rfl) ?_⟩⟩⟩⟩))
 have YO:=k9.trans (lL.trans qA)
 obtain⟨jP,uN,oN⟩:=EE.new (.list [p0,p1,p2])
 have IP:=YO.trans jP
 have Y0:=((y0.e e9 lL).e sI qA).e EE jP
 have Y1:=(y1.e sI qA).e EE jP
 have Y2:=y2.e EE jP
 have gs:=g4 (K8.trans IP)
 have K:=K4.trans (K8.trans IP)
 have pM:=h.e K (uN.le (by exact cR (k:=12) (l:=12) rfl:_≤T+12)) (by exact Nat.le_add_right _ _)
 have VU:=(hS.keep (h.env.wide K)) _ (.refl _)
 have T0:=X0.e e8 IP
 have T1:=X1.e e8 IP
 have T2:=X2.e e8 IP
 have A8:=a8.e e8 IP
 have kk:=h.env.wide K
 refine cut (fun _:Unit=>[some (.ref p),some (.ref t),some st,some (.ref H3.length),some (.ref H7.length),some (.ref Ck.length),some (.int (costOf S (txt o0))),none,none,none]) (fun _=>Ck++[.list [p0,p1,p2]]) (fun _=>True) (fun N hN=>.of gs (.of (get3 (k:=0) rfl) ?_)) fun _ _=> ?_
 ·have hN:=hN () trivial
  cases o0 with
  |none=>exact .of (VU.ex ns) hN
  |some x=>exact .of (VU.bS ns) hN
 exact BY uN oN Y0 Y1 Y2 fun r l Qs rk dq l4 Cn TZ=>BZ (pM.e Cn TZ (Nat.le_refl _)) (A8.e uN Cn) (T0.e uN Cn) (T1.e uN Cn) (T2.e uN Cn) rk l4 (by exact bE 12 hT rfl) fun VT Cb T4=>k _ _ _ _ _ dq (Cb.le (by exact cR (k:=13) (l:=15) rfl)) (kk.trans ((uN.wide Cn).trans T4))
end
section
variable {S:bp}{tl free:Bool}{g h:Gl}{l B:List Nd}
structure oG(g:Gl):Prop where
 pz:yF (.glue g)
 bD:(Nd.glue g).bD
theorem oG.of{w st so sh bN:Int}(h:fc w st so sh bN):oG (de w st so sh bN):=by
 obtain⟨a,b,c,d,e⟩:=h
 refine⟨?_,?_⟩
 ·unfold yF
  have:(Nd.glue (de w st so sh bN)).sm=(de w st so sh bN).sm:=rfl
  rw[this,vW]
  exact⟨jk (wc b PK).1 rfl,(wc b PK).2,jk d.1 rfl,d.2⟩
 ·show 0≤(if st=0 then 0 else so)∧(if st=0 then 0 else so)≤3
  exact wc Ur c
def IQ(tl:Bool)(B:List Nd):Prop:=(B.getLast?.map Nd.kind=some 12)↔tl=true
theorem qB.plain(q:qB false g l):∃g' z,l=.glue g'::z∧Qt z∧HM g l:=by
 obtain⟨f,z,rfl,⟨g',rfl⟩|⟨e,_⟩,b,c,d⟩:=q
 ·exact⟨g',z,rfl,b,c⟩
 ·cases e
theorem qB.cases(q:qB free g l):(∃g' z,l=.glue g'::z∧Qt z)∨∃g' z,l=.bF 0 1:: .glue g'::z∧Qt z:=by
 obtain⟨f,z,rfl,⟨g',rfl⟩|⟨_,g',rfl⟩,b,c,d⟩:=q
 ·exact .inl ⟨g',z,rfl,b⟩
 ·exact .inr ⟨g',z,rfl,b⟩
theorem qB.sim(q:qB free g l):HM g l:=by
 obtain⟨_,_,_,_,_,c,_⟩:=q;exact c
theorem qC{d:Nd}(h:∃x,d.sm=⟨x,0,0,0,0,0⟩):yF d:=by
 obtain⟨x,e⟩:=h
 unfold yF
 rw[e]
 dsimp only
 lia
theorem Pr{P:Nd→Prop}{k l:List Nd}(h:∀x∈k,P x)(h':∀x∈l,P x):∀x∈k++l,P x:=fun x m=>(List.mem_append.mp m).elim (h x) (h' x)
theorem HP(q:qB true g l)(hg:oG g)(hB:IQ tl B):nM S tl [.glue g] l [dg l B]:=by
 refine⟨rfl,q.sim.iX.symm,q.sim.bad.symm,⟨all1 hg.bD,q.sim.bD⟩,all1 hg.pz,?_⟩
 have uA:dI S true [.glue g] (some ⟨0,0,0,.zero,0,0,true⟩):=BC (tl:=false) (z:=[]) .nil
 rcases q.cases with⟨g',z,rfl,hz⟩|⟨g',z,rfl,hz⟩
 ·refine⟨_,_,uA,BC hz,rfl,rfl,rfl,rfl,rfl,?_⟩
  unfold IQ at hB
  unfold dg
  cases tl with
  |true=>rw[if_pos ⟨rfl,hB.mpr rfl⟩];rfl
  |false=>rw[if_neg (fun x=>by have:=hB.mp x.2;cases this)];rfl
 ·refine⟨_,_,uA,uC hz,rfl,rfl,rfl,rfl,rfl,?_⟩
  unfold dg
  rw[if_neg (fun x=>by have:=x.1;simp[Nd.kind] at this)]
  show some (0:Int)=some _
  simp
theorem Qu{x y:Int}:total [Nd.pen x]=total [.pen y]:=rfl
theorem Pu{x y:Int}(q:BU x y):nM S tl [.pen x] [.pen y] [0]:=by
 refine⟨rfl,rfl,rfl,⟨all1 trivial,all1 trivial⟩,all1 (qC ⟨0,rfl⟩),?_⟩
 rcases q with⟨a,b⟩|⟨a,b,c⟩
 ·exact⟨none,none,gy (tl:=false) (z:=[]) .nil a,gy .nil b,trivial⟩
 ·refine⟨_,_,vR (tl:=false) (z:=[]) .nil a,vR .nil b,c,rfl,rfl,rfl,rfl,?_⟩
  show some (0:Int)=some _
  simp
theorem gz(d:Nd)(l:List Nd):cN (d::l)=(d.bad || cN l):=rfl
theorem nS{x y k:Int}(q:BU x y)(ql:qB false g l)(hg:oG g):nM S tl [.pen x,.glue g] (.pen y::l) [0,k]:=by
 obtain⟨g',z,rfl,hz,hs⟩:=ql.plain
 refine⟨rfl,?_,?_,⟨ez trivial (all1 hg.bD),ez trivial hs.bD⟩,ez (qC ⟨0,rfl⟩) (all1 hg.pz),?_⟩
 ·show(Nd.pen x).sm.add _=(Nd.pen y).sm.add _
  rw[hs.iX];rfl
 ·rw[gz (.pen y),hs.bad];rfl
 rcases q with⟨a,b⟩|⟨a,b,c⟩
 ·exact⟨none,none,gy (tl:=false) (z:=[.glue g]) (.glue _ _ .nil) a,gy (.glue _ _ hz) b,trivial⟩
 ·refine⟨_,_,vR (tl:=false) (z:=[.glue g]) (.glue _ _ .nil) a,vR (.glue _ _ hz) b,c,rfl,rfl,rfl,rfl,?_⟩
  show some (0:Int)=some _
  simp
theorem HQ{w k:Int}(ql:qB false g l)(hg:oG g):nM S tl [.bF w 1,.glue g] (.bF w 1::l) [0,k]:=by
 obtain⟨g',z,rfl,hz,hs⟩:=ql.plain
 refine⟨rfl,?_,?_,⟨ez trivial (all1 hg.bD),ez trivial hs.bD⟩,ez (qC ⟨w,rfl⟩) (all1 hg.pz),?_⟩
 ·show(Nd.bF w 1).sm.add _=(Nd.bF w 1).sm.add _
  rw[hs.iX]
 ·rw[gz (.bF w 1) (.glue g'::z),hs.bad];rfl
 ·refine⟨_,_,uC (tl:=false) (z:=[]) .nil,uC hz,rfl,rfl,rfl,rfl,rfl,?_⟩
  show some (0:Int)=some _
  simp
theorem En{w v:Int}(hv:v≠1)(ql:qB true g l)(hg:oG g)(hB:(B.getLast?.map Nd.kind)=some 5):nM S tl [.bF w 0,.glue g] (.bF w v::l) [0,1+dg l B]:=by
 have hs:=ql.sim
 have hb:dg l B=0:=by unfold dg;rw[hB,if_neg (fun x=>by have:=x.2;simp at this)]
 rw[hb]
 refine⟨rfl,?_,?_,⟨ez trivial (all1 hg.bD),ez trivial hs.bD⟩,ez (qC ⟨w,rfl⟩) (all1 hg.pz),?_⟩
 ·show(Nd.bF w 0).sm.add _=(Nd.bF w v).sm.add _
  rw[hs.iX];rfl
 ·rw[gz (.bF w v),hs.bad];rfl
 ·have uA:=vS (S:=S) (tl:=false) (z:=[]) (g:=g) (w:=w) (v:=0) .nil (by decide)
  rcases ql.cases with⟨g',z,rfl,hz⟩|⟨g',z,rfl,hz⟩
  ·refine⟨_,_,uA,vS hz hv,rfl,rfl,rfl,rfl,rfl,?_⟩
   show some (1+0:Int)=some _
   simp;lia
  ·refine⟨_,_,uA,Eg hz hv,rfl,rfl,rfl,rfl,rfl,?_⟩
   show some (1+0:Int)=some _
   simp;lia
theorem HH.q{w:Int}(h:HH w l):f6 S w l:=by
 rcases h with⟨c,rfl⟩|⟨c,a,s,rfl⟩
 ·exact Fn 2 c
 ·exact BH 2 c a s
theorem vX{P Q:List Int}(h:P.isEmpty=Q.isEmpty):costOf S P=costOf S Q:=by
 unfold costOf
 cases P<;>cases Q<;>simp_all
theorem HS{o0 o1 o2:Option Int}(q:pC S o0 o1 o2 l):nM S tl [.bP (txt o0) (txt o1) (txt o2)] l [0]:=by
 revert S tl l o0 o1 o2
 apply aO;intro
 generalize bL .. =S,bM .. =tl,bQ .. =l,bR .. =o0
 apply aM;intro
 generalize bI .. =o1,bJ .. =o2
 intro q
 unfold pC at q
 split at q
 ·rename_i hc
  have key:total l=⟨(txt o2).sum,0,0,0,0,0⟩∧cN l=false∧(∀d∈l,d.bD)∧dI S (!tl) (ar tl++l) none:=by
   cases o2 with
   |none=>
    cases (q:l=[])
    refine⟨rfl,rfl,by simp,nI (fun r hr=>hr.1) ?_⟩
    intro cP i r _
    exact⟨cP,rfl⟩
   |some x=>
    have b:f6 S x l:=HH.q q
    refine⟨?_,b.bad,b.bD,nI (fun r _=>b.ng r) ?_⟩
    ·rw[b.iX];simp[txt]
    ·intro cP i r _
     exact⟨true,b.scan _ _ _ _⟩
  obtain⟨k1,k2,k3,k4⟩:=key
  refine⟨rfl,?_,?_,⟨all1 trivial,k3⟩,all1 (qC ⟨_,rfl⟩),none,none,yE (tl:=false) hc,k4,trivial⟩
  ·rw[k1];show Sm.add _ .zero=_;rw[Sm.add_zero];rfl
  ·rw[k2];rfl
 ·rename_i hc
  obtain⟨P,q,mm,rfl,⟨a1,a2⟩,⟨b1,b2⟩,c1⟩:=q
  refine⟨rfl,?_,rfl,⟨all1 trivial,all1 trivial⟩,all1 (qC ⟨_,rfl⟩),?_⟩
  ·show Sm.add ⟨_,_,_,_,_,_⟩ _=Sm.add ⟨_,_,_,_,_,_⟩ _
   rw[c1]
  ·refine⟨_,_,BD (tl:=false) (by exact Int.lt_of_not_ge hc),BD (by rw[vX a2];exact Int.lt_of_not_ge hc),?_,rfl,rfl,a1.symm,b1.symm,?_⟩
   ·show eu _=eu _
    rw[vX a2]
   ·show some (0:Int)=some _
    simp
theorem HT{w:Int}{c l':List Nd}{x y z:Int}{k:Int}(hc:f6 S w c)(q:qB false g l)(q':qB false h l')(hg:oG g)(hh:oG h):
  nM S tl [.math true 1,.box 2 w,.glue g,.math false 2,.glue h] (.math true 1::(c++(l++.math false 2::l'))) [x,y,z,((1+c.length+l.length:Nat):Int),k]:=by
 obtain⟨g',z1,rfl,hz,hs⟩:=q.plain
 obtain⟨h',z2,rfl,YQ,vg⟩:=q'.plain
 have bx:f6 S w [.box 2 w]:=nK 2
 have e1:total (Nd.math true 1::(c++(Nd.glue g'::z1)))=total [.math true 1,.box 2 w,.glue g]:=by
  show(Nd.math true 1).sm.add (total (c++_))=(Nd.math true 1).sm.add (total ([.box 2 w]++[.glue g]))
  rw[aZ,aZ,hc.iX,bx.iX,hs.iX]
 have e2:total (Nd.math false 2::(Nd.glue h'::z2))=total [.math false 2,.glue h]:=by
  show(Nd.math false 2).sm.add _=(Nd.math false 2).sm.add _
  rw[vg.iX]
 have eB:(Nd.math true 1::(c++(Nd.glue g'::z1++.math false 2::Nd.glue h'::z2)))=(Nd.math true 1::(c++(Nd.glue g'::z1)))++(Nd.math false 2::(Nd.glue h'::z2)):=by simp
 refine⟨rfl,?_,?_,⟨ez trivial (ez trivial (ez hg.bD (ez trivial (all1 hh.bD)))),?_⟩,ez (qC ⟨_,rfl⟩) (ez (qC ⟨_,rfl⟩) (ez hg.pz (ez (qC ⟨_,rfl⟩) (all1 hh.pz)))),?_⟩
 ·rw[eB,aZ,e1,e2,←aZ];rfl
 ·rw[eB,d7,gz (.math true 1) (c++_),d7,hc.bad,hs.bad,gz _ (Nd.glue h'::z2),vg.bad]
  show(false || (false || ((Nd.glue g).bad || (false || cN [.glue h]))))=(false || (false || ((Nd.glue g).bad || false)) || (false || cN [.glue h]))
  cases (Nd.glue g).bad<;>rfl
 ·rw[eB]
  exact Pr (ez trivial (Pr hc.bD hs.bD)) (ez trivial vg.bD)
 ·have uA:=BG (S:=S) (tl:=false) (a:=1) (b:=2) (g:=g) (h:=h) bx .nil .nil
  have uB:=BG (S:=S) (tl:=tl) (a:=1) (b:=2) (g:=g') (h:=h') hc hz YQ
  refine⟨_,some ⟨(ar tl).length+(.math true 1::c++.glue g'::z1:List Nd).length,0,0,total (.math true 1::c++.glue g'::z1),0,0,true⟩,uA,?_,?_⟩
  ·rw[eB];exact uB
  ·refine⟨rfl,rfl,e1.symm,rfl,rfl,?_⟩
   show some (((1+c.length+(Nd.glue g'::z1).length:Nat):Int))=some _
   simp;lia
end
section
variable {R:PV→aa→Prop}{E:XK→aa→Prop}{ns:List Int}{n:Nat}{M:List Nat}{p t a b m T:Nat}{H:aa}{A B:List Nd}{mv:List Int}{S:bp}{st:PV}
def HU(S:bp)(M:List Nat)(p t a b m T:Nat)(tl:Bool)(H:aa)(A B:List Nd)(mv:List Int)(H':aa):Prop:=
 ∃gA gB uD,nM S tl gA gB uD∧gA.length≤5∧Told M p t a b m (T+60) H' (A++gA) (B++gB) (mv++uD.map ((B.length:Int)+·))∧aE M H H'
theorem kK(B:List Nd)(d:Nd):((B++[d]).getLast?.map Nd.kind)=some d.kind:=by simp
theorem pD{free:Bool}(h:Told M p t a b m T H A B mv)(hB:B≠[])(hT:T<4000){K:PV→aa→Prop}{E':XK→aa→Prop}
  (hQ:∀g l H',oG g→qB free g l→Told M p t a b m (T+13) H' (A++[.glue g]) (B++l) (mv++[(B.length:Int)+dg l B])→aE M H H'→K .none H'):
  Wc (aj (aP ns) (n+5) 804 [.ref p] H) (fun v H'=>Wc (aj (aP ns) (n+5) 797 [.ref p,.ref t,v,.bool free] H') K E) E':=
 TU h.env (by exact cE hT rfl) fun r w s so sh bN H1 g ok k1 e1=>Po (h.e k1 e1 (by exact Nat.le_add_right _ _)) g ok hB (by exact bE 5 hT rfl) fun l H2 hl h2 k2=>hQ _ l H2 (.of ok) hl h2 ((h.env.wide k1).trans k2)
theorem Pw{α:Type}{B:List α}{d:α}:((B++[d]).length:Int)=(B.length:Int)+1:=by simp
theorem HV{d:Nd}{x:Int}:mv++[0,1+x].map ((B.length:Int)+·)=mv++[(B.length:Int)+0]++[((B++[d]).length:Int)+x]:=by
 simp;lia
theorem HU.two{tl:Bool}{H':aa}{d d':Nd}{g:Gl}{l:List Nd}{x:Int}{T':Nat}(q:nM S tl [d',.glue g] (d::l) [0,1+x])(h:Told M p t a b m T' H' (A++[d']++[.glue g]) (B++[d]++l) (mv++[(B.length:Int)+0]++[((B++[d]).length:Int)+x]))(hT:T'≤T+60)(k:aE M H H'):HU S M p t a b m T tl H A B mv H':=by
 refine⟨_,_,_,q,by simp,?_,k⟩
 rw[HV (d:=d)]
 rw[List.append_assoc,List.append_assoc] at h
 exact h.le hT
theorem T6{tl:Bool}(h:Told M p t a b m T H A B mv)(hS:sD M H st S)(hB:B≠[])(hl:IQ tl B)(hT:T<3000)(k:∀H',HU S M p t a b m T tl H A B mv H'→R .none H'):
  Wc (aj (aP ns) (n+6) 823 [.ref p,.ref t,st] H) R E:=by
 revert R E ns n M p t a b m T H A B mv S st tl
 apply aQ;intro
 generalize bT .. =R,bU .. =E,bV .. =ns,bW .. =n,cj .. =M,ck .. =p,cm .. =t,cp .. =a
 apply aQ;intro
 generalize bT .. =b,bU .. =m,bV .. =T,bW .. =H,cj .. =A,ck .. =B,cm .. =mv,cp .. =S
 apply aM;intro
 generalize bI .. =st,bJ .. =tl
 intro h hS hB hl hT k
 refine aT rfl rfl (dz h.env 10 (by decide) (by decide) (by exact cE hT rfl) fun s H1 s0 s1 k1 e1=> ?_)
 have h1:=h.e k1 e1 (by exact Nat.le_succ _)
 have kk:=h.env.wide k1
 have S1:=hS.keep kk
 have ne:∀{d},B++[d]≠[]:=by simp
 have dm:∀{x:Int},-100≤x→x≤100→Dm x:=fun a b=>⟨by exact jk a rfl,by exact qF b rfl⟩
 refine .of (fun z=> ?_) fun _=>.of (fun z=> ?_) fun _=>.of (fun z=> ?_) fun _=>.of (fun z=> ?_) fun _=>.of (fun z=> ?_) fun _=> ?_
 ·exact pD h1 hB (by exact bE 1 hT rfl) fun g l H2 hg hq h2 k2=>k _ ⟨_,_,_,HP hq hg hl,by simp,h2.le (by exact cR (k:=14) (l:=60) rfl),kk.trans k2⟩
 ·refine iY [50,-50,10000,120,-300,9999,-10000] h1.env rfl (by decide) (by decide) (by exact bE 1 hT rfl) fun x mx H2 k2 e2=> ?_
  have hx: -10000≤x∧x≤10000:=by
   simp only[List.mem_cons,List.not_mem_nil,or_false] at mx;exact qG (P:=fun x=>-10000≤x∧x≤10000) [50,-50,10000,120,-300,9999,-10000] rfl mx
  refine Pl (h1.e k2 e2 (by exact cR (k:=1) (l:=2) rfl)) hx (by exact bE 2 hT rfl) fun y H3 hq h3 k3=>dz h3.env 3 (by decide) (by decide) (by exact bE 4 hT rfl) fun u H4 u0 u1 k4 e4=> ?_
  have h4:=h3.e k4 e4 (by exact cR (k:=4) (l:=5) rfl)
  have K4:=kk.trans ((h1.env.wide k2).trans (k3.trans (h3.env.wide k4)))
  exact .of (fun _=>pD h4 ne (by exact bE 5 hT rfl) fun g l H5 hg Ua h5 k5=>k _ (.two (nS hq Ua hg) h5 (by exact cR (k:=18) (l:=60) rfl) (K4.trans k5))) fun _=>k _ ⟨_,_,[0],Pu hq,by simp,h4.le (by exact cR (k:=5) (l:=60) rfl),K4⟩
 ·exact T5 h1 S1 (by exact bE 1 hT rfl) fun o0 o1 o2 l H2 dq h2 k2=>k _ ⟨_,_,[0],HS dq,by simp,h2.le (by exact cR (k:=16) (l:=60) rfl),kk.trans k2⟩
 ·refine jU h1.env (by decide) (dm (by decide) (by decide)) fun r2 H2 k2 e2 a2=>jU e2 (by decide) (dm (by decide) (by decide)) fun r3 H3 k3 e3 a3=> ?_
  obtain⟨k4,e4,a4⟩:=e3.row [.ref r3] [.bF 3 1] ⟨a3,trivial⟩
  have K:=k2.trans (k3.trans k4)
  exact sC (h1.e K e4 (by exact Nat.le_refl _)) ((a2.e e2 k3).e e3 k4) a4 (by decide:1≤4) (by exact bE 1 hT rfl) fun H5 h5 k5=>pD h5 ne (by exact bE 2 hT rfl) fun g l H6 hg hq h6 k6=>k _ (.two (HQ (w:=3) hq hg) h6 (by exact cR (k:=15) (l:=60) rfl) (kk.trans ((h1.env.wide K).trans (k5.trans k6))))
 ·refine jU h1.env (by decide) (dm (by decide) (by decide)) fun r2 H2 k2 e2 a2=>iY [0,2,3] e2 rfl (by decide) (by decide) (by exact bE 1 hT rfl) fun v VV H3 k3 e3=> ?_
  have hv:v≠1∧0≤v∧v≤3:=by
   simp only[List.mem_cons,List.not_mem_nil,or_false] at VV;exact qG (P:=fun x=>x≠1∧0≤x∧x≤3) [0,2,3] rfl VV
  refine jU e3 hv.2 (dm (by decide) (by decide)) fun r4 H4 k4 e4 a4=> ?_
  obtain⟨k5,e5,a5⟩:=e4.row [.ref r4] [.bF 3 v] ⟨a4,trivial⟩
  have K:=k2.trans (k3.trans (k4.trans k5))
  exact sC (h1.e K e5 (by exact cR (k:=1) (l:=2) rfl)) (((a2.e e2 k3).e e3 k4).e e4 k5) a5 (by decide:1≤4) (by exact bE 2 hT rfl) fun H6 h6 k6=>pD h6 ne (by exact bE 3 hT rfl) fun g l H7 hg hq h7 k7=>k _ (.two (En (w:=3) hv.1 hq hg (kK _ _)) h7 (by exact cR (k:=16) (l:=60) rfl) (kk.trans ((h1.env.wide K).trans (k6.trans k7))))
 refine pA h1.env (dm (by decide) (by decide)) fun r2 H2 k2 e2 a2=>pA e2 (dm (by decide) (by decide)) fun r3 H3 k3 e3 a3=> ?_
 obtain⟨k4,e4,a4⟩:=e3.row [.ref r3] [.math true 1] ⟨a3,trivial⟩
 have K4:=k2.trans (k3.trans k4)
 refine sC (h1.e K4 e4 (by exact Nat.le_refl _)) ((a2.e e2 k3).e e3 k4) a4 (by decide:1≤4) (by exact bE 1 hT rfl) fun H5 h5 k5=> ?_
 have K5:=(h1.env.wide K4).trans k5
 refine HL h5 (S1.keep K5) (by exact bE 2 hT rfl) fun w lb H6 hb h6 k6=>pD h6 (by simp) (by exact bE 12 hT rfl) fun g l H7 hg hq h7 k7=>pA h7.env (dm (by decide) (by decide)) fun r8 H8 k8 e8 a8=>pA e8 (dm (by decide) (by decide)) fun r9 H9 k9 e9 a9=> ?_
 obtain⟨lL,sI,uX⟩:=e9.row [.ref r9] [.math false 2] ⟨a9,trivial⟩
 have VW:=k8.trans (k9.trans lL)
 refine sC (h7.e VW sI (by exact Nat.le_refl _)) ((a8.e e8 k9).e e9 lL) uX (by decide:1≤4) (by exact bE 25 hT rfl) fun Ck lM qA=>pD lM (by simp) (by exact bE 26 hT rfl) fun g' l' Eo YR Ua pM jP=>k _ ?_
 obtain⟨c,ld,c0,d,YS,hc,-,-,RH,-⟩:=hb
 have hf:=RH rfl
 subst hf
 have YT:lb=c:=by rw[YS];simp[bB,ar]
 subst YT
 refine⟨_,_,[0,1,1+lb.length+dg l (B++[.math true 1]++lb),((1+lb.length+l.length:Nat):Int),1+lb.length+l.length+1+dg l' (B++[.math true 1]++lb++l++[.math false 2])],HT hc hq Ua hg YR,by simp,?_,kk.trans (K5.trans (k6.trans (k7.trans ((h7.env.wide VW).trans (qA.trans jP)))))⟩
 have:=pM.le (T':=T+60) (by exact cR (k:=39) (l:=60) rfl)
 have e:mv++[0,1,1+lb.length+dg l (B++[.math true 1]++lb),((1+lb.length+l.length:Nat):Int),1+lb.length+l.length+1+dg l' (B++[.math true 1]++lb++l++[.math false 2])].map ((B.length:Int)+·)
   =mv++[(B.length:Int)+0]++[((B++[Nd.math true 1]).length:Int)+0]++[((B++[Nd.math true 1]++lb).length:Int)+dg l (B++[.math true 1]++lb)]++[((B++[Nd.math true 1]++lb++l).length:Int)+0]++[((B++[Nd.math true 1]++lb++l++[Nd.math false 2]).length:Int)+dg l' (B++[.math true 1]++lb++l++[.math false 2])]:=by
  simp;lia
 rw[e]
 have eA:A++[.math true 1,.box 2 w,.glue g,.math false 2,.glue g']=A++[.math true 1]++[.box 2 w]++[.glue g]++[.math false 2]++[.glue g']:=by simp
 have eB:B++(.math true 1::(lb++(l++.math false 2::l')))=B++[.math true 1]++lb++l++[.math false 2]++l':=by simp
 rw[eA,eB]
 exact this
end
section
variable {R:PV→aa→Prop}{E:XK→aa→Prop}{ns:List Int}{n:Nat}{M:List Nat}{p t a b m T:Nat}{H:aa}{S:bp}{st:PV}
noncomputable def Ub(g1 g2:Nat):List (Nat×PV):=[(34,.int 0),(35,.int 10000),(36,.int 0),(37,.int 0),(38,.int 0),(39,.int 0),(40,.int 0),(41,.int 0),(42,.int 0),(43,.int 0),(44,.ref g1),(45,.ref g2)]
theorem Uc(e:Env M p T H)(k:∀r g1 g2 H',r∉M→H.length≤r→aE [p] H H'→Env M p T H'→H'[r]? =some (.inst 564 (Ub g1 g2))→R (.ref r) H'):Wc (cC (aP ns) (aj (aP ns) (n+4)) 564 [] H) R E:=by
 refine make rfl (aT rfl rfl (aB (aB (aB (aB (aB (aB (aB (aB (aB (aB ?_)))))))))))
 obtain⟨k1,e1,a1⟩:=e.new (.inst 564 [(34,PV.int 0),(35,PV.int 10000),(36,.int 0),(37,.int 0),(38,.int 0),(39,.int 0),(40,.int 0),(41,.int 0),(42,.int 0),(43,.int 0)])
 refine qz rfl (e1.more (by rw[List.length_append];exact Nat.lt_succ_self _)) fun g1 H2 k2 e2 b2=> ?_
 have a2:=a1.e e1 k2
 refine .of (eO a2.at_ rfl (by decide:10<100)) ?_
 have k3:∀o,aE [p] H (H2.set H.length o):=fun o=>(k1.trans k2).set (.inr (Nat.le_refl _))
 have e3:∀o,Env M p T (H2.set H.length o):=fun o=>(e2.less e.mem).set a2.nO
 have a3:∀{o},(H2.set H.length o)[H.length]? =some o:=getset a2.at_
 refine qz rfl (e3 _) fun g2 H4 k4 e4 b4=> ?_
 have a4:=(At.e (e3 _) k4 ⟨a3,a2.nO⟩).at_
 exact .of (eO a4 rfl (by decide:11<100)) (k H.length g1 g2 _ a2.nO (Nat.le_refl _) (((k3 _).trans k4).set (.inr (Nat.le_refl _))) (e4.set a2.nO) (getset a4))
def lx(M:List Nat)(H:aa)(v:PV)(S:bp)(gl gr:Gl):Prop:=∀H',aE M H H'→oE H' v S gl gr
theorem lx.keep{H':aa}{v:PV}{gl gr:Gl}(k:aE M H H')(h:lx M H v S gl gr):lx M H' v S gl gr:=fun nY k'=>h nY (k.trans k')
theorem lx.s{v:PV}{gl gr:Gl}(h:lx M H v S gl gr):sD M H v S:=fun H' k=>(h H' k).r
def kL(g:Gl):Prop:=∃w st so sh,fc w st so sh 0∧g=de w st so sh 0
theorem kL.IH{g:Gl}(h:kL g):g.bN=0∧0≤g.so∧g.so≤3:=by
 obtain⟨w,st,so,sh,a,rfl⟩:=h
 have:=a.so
 show(if sh=0 then 0 else(0:Int))=0∧0≤(if st=0 then 0 else so)∧(if st=0 then 0 else so)≤3
 exact⟨by split<;>rfl,wc Ur this⟩
theorem kL.bd{g g':Gl}{x:Int}(h:kL g)(h':kL g')(hx:0≤x∧x≤100):Bd (cV g g' x):=by
 obtain⟨w,st,so,sh,a,rfl⟩:=h
 obtain⟨w',Zu,Pn,Zv,a',rfl⟩:=h'
 have h1:=a.st
 have h2:=a'.st
 have h3:=a.sh
 have h4:=a'.sh
 unfold Bd cV
 rw[vW,vW]
 exact V8 (wc h1 PK) (wc h2 PK) hx h3 h4
theorem HW{r g1 g2:Nat}{x1 x2 x3 x4 x5 x6 x7:Int}{gl gr:Gl}(h:H[r]? =some (.inst 564 [(34,.int 0),(35,.int 10000),(36,.int x1),(37,.int x2),(38,.int x3),(39,.int x4),(40,.int x5),(41,.int x6),(42,.int x7),(43,.int 0),(44,.ref g1),(45,.ref g2)]))
  (h1:yl H (.ref g1) gl) (h2:yl H (.ref g2) gr) (o1:kL gl) (o2:kL gr) (b:∀x∈[x1,x2,x3,x4,x5,x6,x7],-100000≤x∧x≤100000):oE H (.ref r) ⟨x1,x2,x3,x4,x5,x6,x7⟩ gl gr:=
 ⟨⟨aA h rfl rfl,aA h rfl rfl,aA h rfl rfl,aA h rfl rfl,aA h rfl rfl,aA h rfl rfl,aA h rfl rfl⟩,⟨0,aA h rfl rfl,by decide⟩,⟨10000,aA h rfl rfl,by decide⟩,⟨0,aA h rfl rfl,by decide⟩,
  ⟨_,aA h rfl rfl,h1⟩,⟨_,aA h rfl rfl,h2⟩,b,o1.IH,o2.IH⟩
theorem aE.drop{H1 H2:aa}{r:Nat}(a:aE M H H1)(b:aE (r::M) H1 H2)(h:H.length≤r):aE M H H2:=by
 refine⟨Nat.le_trans a.len b.len,fun i o m e=>b.at_ i o (fun q=> ?_) (a.at_ i o m e)⟩
 have:=(List.getElem?_eq_some_iff.mp e).1
 rcases List.mem_cons.mp q with q|q
 ·exact Nat.ne_of_lt (Nat.lt_of_lt_of_le this h) q
 ·exact m q
end
section
variable {R:PV→aa→Prop}{E:XK→aa→Prop}{ns:List Int}{n:Nat}{M:List Nat}{p t a b m T:Nat}{H:aa}{S:bp}{st:PV}
theorem setM{r k:Nat}{fs:List (Nat×PV)}{v:PV}{K:aa→Prop}(e:Env (r::M) p T H)(hr:H[r]? =some (.inst 564 fs))(hp:p≠r)(hb:dS.contains (564,k)=false)(hl:fs.length<100)
  (g:∀H',aE (r::M) H H'→Env (r::M) p T H'→H'[r]? =some (.inst 564 (putN k v fs))→K H'):WO (dZ (aP ns) H (.ref r) k v) K:=by
 refine .of (eO hr hb hl) (g _ ((aE.refl _).set (.inl (List.mem_cons_self ..))) ⟨fun i q=>by rw[List.length_set];exact e.low i q,e.mem,?_⟩ (getset hr))
 obtain⟨w,t,g,q⟩:=e.qy
 exact⟨w,t,by rw[bz (Ne.symm hp)];exact g,q⟩
theorem gQ{r k:Nat}{m:Int}{fs:List (Nat×PV)}{K:aa→Prop}{E':XK→aa→Prop}(ms:List Int)(e:Env (r::M) p T H)(hr:H[r]? =some (.inst 564 fs))(hp:p≠r)(hb:dS.contains (564,k)=false)(hl:fs.length<100)(hm:(ms.length:Int)=m)(h0:0<m)(h1:m<1000)(hT:T<10 ^ 12)
  (g:∀x∈ms,∀H',aE (r::M) H H'→Env (r::M) p (T+1) H'→H'[r]? =some (.inst 564 (putN k (.int x) fs))→K H'):
  Wc (aj (aP ns) (n+1) 748 [.ref p,.int m] (H++[.list (ms.map .int)])) (fun y H'=>kN H' (.ref H.length) y fun v=>WO (dZ (aP ns) H' (.ref r) k v) K) E':=
 iY ms e hm h0 h1 (by exact cE hT rfl) fun x mx H1 k1 e1=>setM e1 (gu k1 hp hr) hp hb hl fun H2 k2 e2 a2=>g x mx H2 ((e.wide k1).trans k2) e2 a2
theorem HX{x:Int}{ms:List Int}(h:∀x∈ms,-100000≤x∧x≤100000)(m:x∈ms): -100000≤x∧x≤100000:=h x m
theorem vY{w st so sh:Int}{K:PV→aa→Prop}{E':XK→aa→Prop}(ok:fc w st so sh 0)(e:Env M p T H)(k:∀r H',aE [p] H H'→Env M p T H'→At M H' r (.inst 227 (uq w st so sh 0))→K (.ref r) H'):
  Wc (cC (aP ns) (aj (aP ns) (n+3)) 227 [.int w,.int st,.int so,.int sh,.int 0] H) K E':=by
 obtain⟨h1,h2,h3,h4,h5⟩:=ok
 exact vT e (by unfold Dm;exact cq h1 rfl rfl) (by unfold Dm;exact cq h2 rfl rfl) (by unfold Dm;exact cq h4 rfl rfl) h3 h5 k
theorem vZ{r k:Nat}{c1 c2 c3 c4 d1 d2 d3 d4:Int}{fs:List (Nat×PV)}{Q:QL}{E:EL}(e:Env (r::M) p T H)(hr:H[r]? =some (.inst 564 fs))(hp:p≠r)(hb:dS.contains (564,k)=false)(hl:fs.length<100)
  (hc:fc c1 c2 c3 c4 0) (hd:fc d1 d2 d3 d4 0) (hT:T<10 ^ 12)
  (h:∀g H' w st so sh,fc w st so sh 0→aE (r::M) H H'→Env (r::M) p (T+1) H'→At (r::M) H' g (.inst 227 (uq w st so sh 0))→H'[r]? =some (.inst 564 (putN k (.ref g) fs))→Q .next [some (.ref p),some (.ref r)] H'):
  wS (aP ns) (aj (aP ns) (n+3)) (.aw (.var 1) k (.item (.list (.cons (.callC 227 .nil) (.cons (.callC 227 (.cons (.const (.int c1)) (.cons (.const (.int c2)) (.cons (.const (.int c3)) (.cons (.const (.int c4)) (.cons (.const (.int 0)) .nil)))))) (.cons (.callC 227 (.cons (.const (.int d1)) (.cons (.const (.int d2)) (.cons (.const (.int d3)) (.cons (.const (.int d4)) (.cons (.const (.int 0)) .nil)))))) .nil)))) (.ah 748 (.cons (.var 0) (.cons (.const (.int 3)) .nil))))) [some (.ref p),some (.ref r)] H Q E:=by
 refine qz rfl e fun g1 H1 k1 e1 a1=>vY hc e1 fun g2 H2 k2 e2 a2=>vY hd e2 fun g3 H3 k3 e3 a3=>lu e3 rfl (by decide) (by decide) (by exact cE hT rfl) fun v mv H4 k4 e4=> ?_
 have b1:=((a1.e e1 k2).e e2 k3).e e3 k4
 have b2:=(a2.e e2 k3).e e3 k4
 have b3:=a3.e e3 k4
 have K:=k1.trans (k2.trans (k3.trans k4))
 obtain⟨g,w,s,o,x,ok,rfl,hg⟩:∃g w s o x,fc w s o x 0∧v=.ref g∧At (r::M) H4 g (.inst 227 (uq w s o x 0)):=by
  simp only[List.mem_cons,List.not_mem_nil,or_false] at mv
  rcases mv with rfl|rfl|rfl
  ·exact⟨g1,0,0,0,0,⟨by decide,by decide,by decide,by decide,by decide⟩,rfl,b1⟩
  ·exact⟨g2,_,_,_,_,hc,rfl,b2⟩
  ·exact⟨g3,_,_,_,_,hd,rfl,b3⟩
 exact setM e4 (gu K hp hr) hp hb hl fun H5 k5 e5 a5=>h g H5 w s o x ok ((e.wide K).trans k5) e5 (hg.keep k5) a5
theorem Ud(e:Env M p T H)(hT:T<10 ^ 10)(k:∀r S gl gr H',lx M H' (.ref r) S gl gr→kL gl→kL gr→aE M H H'→Env M p (T+9) H'→R (.ref r) H'):Wc (aj (aP ns) (n+5) 755 [.ref p] H) R E:=by
 revert R E ns n M p T H
 apply aQ;intro
 generalize bT .. =R,bU .. =E,bV .. =ns,bW .. =n,cj .. =M,ck .. =p,cm .. =T,cp .. =H
 intro e hT k
 refine aT rfl rfl (Uc e ?_)
 apply aO;intro
 generalize bL .. =r,bM .. =g1,bQ .. =g2,bR .. =H1
 intro hm Vo k1 e1 a1
 have hp:p≠r:=fun x=>hm (x▸e.mem)
 have YU:=e1.more (List.getElem?_eq_some_iff.mp a1).1
 have YV:∀{l:List (Nat×PV)},l.length=12→l.length<100:=fun h=>h▸(by decide)
 refine gQ [10,0,100,-50] YU a1 hp rfl (by decide:12<100) rfl (by decide) (by decide) (by exact cE hT rfl) ?_
 apply aI;intro
 generalize nx .. =x1
 intro m1 H2 k2 e2 a2
 replace m1:=HX (by decide) m1
 refine gQ [50,10000,-30,0,12000,200] e2 a2 hp rfl (by decide:12<100) rfl (by decide) (by decide) (by exact bE 1 hT rfl) fun x2 m2 H3 k3 e3 a3=> ?_
 replace m2:=HX (by decide) m2
 refine gQ [50,10000,-20] e3 a3 hp rfl (by decide:12<100) rfl (by decide) (by decide) (by exact bE 2 hT rfl) fun x3 m3 H4 k4 e4 a4=> ?_
 replace m3:=HX (by decide) m3
 refine gQ [0,5000,200,-300] e4 a4 hp rfl (by decide:12<100) rfl (by decide) (by decide) (by exact bE 3 hT rfl) fun x4 m4 H5 k5 e5 a5=> ?_
 replace m4:=HX (by decide) m4
 refine gQ [0,3000,-500] e5 a5 hp rfl (by decide:12<100) rfl (by decide) (by decide) (by exact bE 4 hT rfl) fun x5 m5 H6 k6 e6 a6=> ?_
 replace m5:=HX (by decide) m5
 refine gQ [0,1000,5000] e6 a6 hp rfl (by decide:12<100) rfl (by decide) (by decide) (by exact bE 5 hT rfl) fun x6 m6 H7 k7 e7 a7=> ?_
 replace m6:=HX (by decide) m6
 refine gQ [0,0,0,1,-1,2] e7 a7 hp rfl (by decide:12<100) rfl (by decide) (by decide) (by exact bE 6 hT rfl) fun x7 m7 H8 k8 e8 a8=> ?_
 replace m7:=HX (by decide) m7
 have ok:∀{w st so sh:Int},(-10≤w∧w≤10)→(0≤st∧st≤10)→(0≤so∧so≤3)→(0≤sh∧sh≤10)→fc w st so sh 0:=fun a b c d=>⟨a,b,c,d,by decide⟩
 refine vZ e8 a8 hp rfl (by decide:12<100) (ok (by decide) (by decide) (by decide) (by decide)) (ok (by decide) (by decide) (by decide) (by decide)) (by exact bE 7 hT rfl) fun gl H9 w s o x B1 k9 e9 YW a9=> ?_
 refine vZ e9 a9 hp rfl (by decide:12<100) (ok (by decide) (by decide) (by decide) (by decide)) (ok (by decide) (by decide) (by decide) (by decide)) (by exact bE 8 hT rfl) fun gr Pk w' s' o' x' B2 lL sI Px uX=> ?_
 have K:aE (r::M) H1 Pk:=k2.trans (k3.trans (k4.trans (k5.trans (k6.trans (k7.trans (k8.trans (k9.trans lL)))))))
 have ag:=YW.keep lL
 refine k r ⟨x1,x2,x3,x4,x5,x6,x7⟩ (de w s o x 0) (de w' s' o' x' 0) Pk (fun nY k=> ?_) ⟨w,s,o,x,B1,rfl⟩ ⟨w',s',o',x',B2,rfl⟩ ((e.wide k1).drop K Vo) (sI.less e.mem)
 refine HW (k.at_ _ _ hm uX) (BM (k.at_ _ _ (fun q=>ag.nO (List.mem_cons_of_mem _ q)) ag.at_)) (BM (k.at_ _ _ (fun q=>Px.nO (List.mem_cons_of_mem _ q)) Px.at_)) ⟨w,s,o,x,B1,rfl⟩ ⟨w',s',o',x',B2,rfl⟩ ?_
 intro y my
 simp only[List.mem_cons,List.not_mem_nil,or_false] at my
 rcases my with rfl|rfl|rfl|rfl|rfl|rfl|rfl<;>assumption
end
section
variable {R:PV→aa→Prop}{E:XK→aa→Prop}{ns:List Int}{n:Nat}{M:List Nat}{p t a b m T:Nat}{H:aa}{S:bp}{st:PV}
noncomputable def pE(q:Int×Int):PV:=.tup [.int q.1,.int q.2]
theorem Ue{R:List PV→aa→Prop}{x0 x1 x2 x3 x4 x5:Option PV}(rows:List (Int×Int)):∀(acc:List PV) (y z:Option PV),(∀q∈rows,Dm q.1∧Dm q.2)→acc.length+rows.length<1000→R (acc++rows.map pE) H→
  runC (wE (aP ns) (aj (aP ns) (n+2)) (.tuple (.cons (.ah 110 (.cons (.var 6) .nil)) (.cons (.ah 110 (.cons (.var 7) .nil)) .nil)))) [6,7] R (rows.map pE) acc [x0,x1,x2,x3,x4,x5,y,z] H:=by
 induction rows with
 |nil=>
  intro acc _ _ _ _ h;rw[List.map_nil,List.append_nil] at h;exact h
 |cons q rows ih=>
  intro acc y z hq hl h
  have hd:=hq q (List.mem_cons_self ..)
  rw[List.length_cons] at hl
  exact dH hd.1 (dH hd.2 ⟨by exact Nat.lt_of_le_of_lt (Nat.le_add_right _ _) hl,ih _ _ _ (fun x m=>hq x (List.mem_cons_of_mem _ m)) (by rw[List.length_append,List.length_singleton];exact Ew hl) (by rw[List.append_assoc];exact h)⟩)
theorem HY{w iA after done:Int}{rows:List (Int×Int)}(e:Env M p T H)(h1: -1000≤w∧w≤1000)(h2: -1000≤iA∧iA≤1000)(h3: -1000≤after∧after≤1000)(h4:0≤done∧done≤100)(hr:rows.length<100)(hq:∀q∈rows,Dm q.1∧Dm q.2)
  (k:∀r H',aE [p] H H'→Env M p T H'→At M H' r (.inst 543 (jj.fs ⟨w,iA,w - fY iA,after,rows,done⟩))→R (.ref r) H'):Wc (cC (aP ns) (aj (aP ns) (n+4)) 543 [.int w,.int iA,.int after,.tup (rows.map pE),.int done] H) R E:=by
 revert R E ns n M p T H w iA after done rows
 apply aQ;intro
 generalize bT .. =R,bU .. =E,bV .. =ns,bW .. =n,cj .. =M,ck .. =p,cm .. =T,cp .. =H
 apply aO;intro
 generalize bL .. =w,bM .. =iA,bQ .. =after,bR .. =done
 apply aI;intro
 generalize nx .. =rows
 intro e h1 h2 h3 h4 hr hq k
 obtain⟨k1,e1,a1⟩:=e.new (.inst 543 [(0,.int w),(29,.int iA),(30,.int (w - fY iA)),(31,.int after)])
 have hl:(rows.map pE).length<1000:=by rw[List.length_map];exact cE hr rfl
 obtain⟨k2,e2,a2⟩:=e1.new (.list (rows.map pE))
 have g2:=a1.e e1 k2
 refine make rfl (o9 rfl rfl (dH (by unfold Dm;exact cq h1 rfl rfl) (aB (dH (by unfold Dm;exact cq h2 rfl rfl) (aB (dH (x:=w - fY iA) (by unfold Dm fY;split;exact cq (jl h1 (Qz h2)) rfl rfl;exact cq (jl h1 h2) rfl rfl) (aB (rR (by unfold Nm;exact cq h3 rfl rfl) (aB (.of hl (qm (Ue rows [] none none hq (by rw[List.length_nil];exact cE (lt_of_eq_of_lt (Nat.zero_add _) hr) rfl) (.of hl (.of a2.at_ (.of (Nat.lt_trans hl (by decide)) (.of (eO g2.at_ rfl (by decide:4<100)) ?_))))))))))))))))
 have a3:∀{o},((H++[aF.inst 543 [(0,.int w),(29,.int iA),(30,.int (w - fY iA)),(31,.int after)]]++[aF.list (rows.map pE)]).set H.length o)[H.length]? =some o:=getset g2.at_
 refine kA h4.1 (by exact qF h4.2 rfl) (.of (eO a3 rfl (by decide:5<100)) ?_)
 rw[List.set_set]
 exact k _ _ ((k1.trans k2).set (.inr (Nat.le_refl _))) (e2.set a1.nO) ⟨getset g2.at_,a1.nO⟩
def sE(M:List Nat)(H:aa)(v:PV)(s:jj):Prop:=∀H',aE M H H'→iB H' v s
theorem sE.keep{H':aa}{v:PV}{s:jj}(k:aE M H H')(h:sE M H v s):sE M H' v s:=fun nY k'=>h nY (k.trans k')
theorem sE.of{r:Nat}{s:jj}(a:At M H r (.inst 543 s.fs))(h:s.rows.length<100):sE M H (.ref r) s:=fun _ k=>⟨r,rfl,(a.keep k).at_,h⟩
theorem Ug(e:Env M p T H)(hT:T<10 ^ 10)(k:∀r s H',sE M H' (.ref r) s→(0≤s.done∧s.done≤100)→aE [p] H H'→Env M p (T+4) H'→R (.ref r) H'):Wc (aj (aP ns) (n+5) 762 [.ref p] H) R E:=by
 revert R E ns n M p T H
 apply aQ;intro
 generalize bT .. =R,bU .. =E,bV .. =ns,bW .. =n,cj .. =M,ck .. =p,cm .. =T,cp .. =H
 intro e hT k
 refine aT rfl rfl (dz e 4 (by decide) (by decide) (by exact cE hT rfl) fun s H1 s0 s1 k1 e1=>dz e1 50 (by decide) (by decide) (by exact bE 1 hT rfl) fun w H2 w0 w1 k2 e2=>iY [0,0,2] e2 rfl (by decide) (by decide) (by exact bE 2 hT rfl) fun d md H3 k3 e3=> ?_)
 have hd:0≤d∧d≤100:=by
  simp only[List.mem_cons,List.not_mem_nil,or_false] at md;exact qG (P:=fun x=>0≤x∧x≤100) [0,0,2] rfl md
 have K3:=k1.trans (k2.trans k3)
 refine .of (fun z=> ?_) fun _=>.of (fun z=> ?_) fun _=> ?_
 ·exact HY (rows:=[]) e3 (by exact cq (eP (d8 40) (eH w0 w1)) rfl rfl) (by decide) (by decide) hd (by decide) (by simp) fun r H4 k4 e4 a4=>k _ _ _ (.of a4 (by decide:0<100)) hd (K3.trans k4) (e4.le (by exact cR (k:=3) (l:=4) rfl))
 ·refine HY (rows:=[(0,40+w),(5,40+w - 8),(0,40+w+6)]) e3 (by exact cq (eP (d8 40) (eH w0 w1)) rfl rfl) (by decide) (by decide) hd (by decide:3<100) ?_ fun r H4 k4 e4 a4=>k _ _ _ (.of a4 (by decide:3<100)) hd (K3.trans k4) (e4.le (by exact cR (k:=3) (l:=4) rfl))
  intro q mq
  simp only[List.mem_cons,List.not_mem_nil,or_false] at mq
  rcases mq with rfl|rfl|rfl<;>unfold Dm<;>dsimp only<;>first|exact⟨cq (d8 _) rfl rfl,cq (eP (d8 40) (eH w0 w1)) rfl rfl⟩|exact⟨cq (d8 _) rfl rfl,cq (jl (eP (d8 40) (eH w0 w1)) (d8 8)) rfl rfl⟩|exact⟨cq (d8 _) rfl rfl,cq (eP (eP (d8 40) (eH w0 w1)) (d8 6)) rfl rfl⟩
 ·refine lu e3 rfl (by decide) (by decide) (by exact bE 3 hT rfl) fun v mv H4 k4 e4=> ?_
  obtain⟨x,y,rfl,hx,hy⟩:∃x y,v=.tup [.int x,.int y]∧(-1000≤x∧x≤1000)∧(-1000≤y∧y≤1000):=by
   simp only[List.mem_cons,List.not_mem_nil,or_false] at mv
   rcases mv with rfl|rfl|rfl|rfl<;>exact⟨_,_,rfl,by decide,by decide⟩
  exact HY (rows:=[]) e4 (by exact cq (eP (d8 40) (eH w0 w1)) rfl rfl) hx hy hd (by decide) (by simp) fun r H5 k5 e5 a5=>k _ _ _ (.of a5 (by decide:0<100)) hd (K3.trans (k4.trans k5)) e5
end
theorem B3{d:Int}{T:eY}{cs:List Core}(r:List Core):∀(j:Nat) (a a':List Wy),(∀w∈a,nG d j w)→nF T cs j r a=some a'→∀w∈a',nG d (j+r.length) w:=by
 induction r with
 |nil=>
  intro j a a' h e;cases e;exact h
 |cons c r ih=>
  intro j a a' h e
  rw[uu] at e
  split at e
  ·cases e
  ·have:=ih (j+1) _ a' (pg (T:=T) (cs:=cs) (c:=c) (isEnd:=r.isEmpty) h) e
   rw[List.length_cons,Nat.add_comm r.length 1,←Nat.add_assoc]
   exact this
theorem yP{T:eY}{cs:List Core}{p:List Nat}(h0:0≤T.dA.done)(e:dR T cs=some p):p.length≤cs.length∧∀i∈p,i<cs.length:=by
 revert T cs p
 apply aM;intro
 generalize bI .. =T,bJ .. =cs
 apply aI;intro
 generalize nx .. =p
 intro h0 e
 unfold dR at e
 cases h:nF T cs 0 cs [⟨[],T.dA.done,2,0⟩] with
 |none=>rw[h] at e;cases e
 |some a=>
  rw[h] at e
  have inv:=B3 (d:=T.dA.done) cs 0 _ a (by
   intro w m
   rw[List.mem_singleton.mp m]
   exact⟨by simp,Nat.le_refl _,h0,by dsimp only;lia⟩) h
  cases a with
  |nil=>cases e
  |cons w r=>
   replace e:uv T (w::r)=some p:=e
   unfold uv at e
   dsimp only at e
   split at e
   ·cases e
   ·cases e
    have wi:=inv _ (ph w r T.S.loose)
    rw[Nat.zero_add] at wi
    exact⟨by rw[List.length_reverse];exact wi.len,fun i m=>wi.path i (List.mem_reverse.mp m)⟩
section
variable {R:PV→aa→Prop}{E:XK→aa→Prop}{ns:List Int}{n:Nat}{H:aa}
theorem Aq.ref{v:PV}{k:Nat}{x:PV}(h:Aq H v k x):∃r,v=.ref r:=by
 have:=h []
 cases v with
 |ref r=>exact⟨r,rfl⟩
 |_=>cases this
theorem Uh{a b:Nat}{vs:List PV}(ha:H[a]? =some (.list vs))(hb:H[b]? =some (.list vs))(hl:vs.length<1000)(hv:∀v∈vs,∃r,v=.ref r)(k:R (.bool true) H):Wc (aj (aP ns) (n+1) 830 [.ref a,.ref b] H) R E:=by
 revert R E ns n H a b vs
 apply aQ;intro
 generalize bT .. =R,bU .. =E,bV .. =ns,bW .. =n,cj .. =H,ck .. =a,cm .. =b,cp .. =vs
 intro ha hb hl hv k
 have EY:vs.length<100000:=Nat.lt_trans hl (by decide)
 refine aT rfl rfl (.of ha (.of EY (.of hb (.of EY (.pos rfl (.of ha (.of hb (.of ⟨EY,EY⟩ ?_))))))))
 refine DZ (fun _ (y:Option PV×Option PV)=>[some (.ref a),some (.ref b),y.1,y.2]) (fun _ _=>H) (fun _ _=>True) (none,none) vs.length (fun k=>.tup [(vs[k]?).getD .none,(vs[k]?).getD .none]) trivial ?_ ?_ (fun k y _ hk=> ?_) fun y _=>k
 ·intro k _ _ hk
  show(listAt H a).bind _=_
  rw[cZ ha];show(listAt H b).map _=_
  rw[cZ hb,Option.map_some,List.getElem?_eq_getElem hk];rfl
 ·intro _ _
  show(listAt H a).bind _=_
  rw[cZ ha];show(listAt H b).map _=_
  rw[cZ hb,Option.map_some,List.getElem?_eq_none (Nat.le_refl _)]
 ·obtain⟨r,e⟩:=hv _ (List.getElem_mem hk)
  rw[List.getElem?_eq_getElem hk,e]
  exact .pos rfl ⟨(_,_),rfl,rfl,trivial⟩
noncomputable def nU:Str:=⟨#[114,101,102,117,115,101,100]⟩
noncomputable def Py:Str:=⟨#[99,104,97,110,103,101,100]⟩
def nV(H:aa)(v:PV)(rows:List Row)(bad:Bool)(P:Option (List Nat)):Prop:=
 if bad=true then v=.str nU else match P with
 |none=>v=.none
 |some p=>∃r,v=.ref r∧H[r]? =some (.list (cI rows p))
theorem nV.pre{H':aa}{v:PV}{rows:List Row}{bad:Bool}{P:Option (List Nat)}(k:Pre H H')(h:nV H v rows bad P):nV H' v rows bad P:=by
 unfold nV at h ⊢
 split at h
 ·rename_i q;rw[if_pos q];exact h
 ·rename_i q
  rw[if_neg q]
  cases P with
  |none=>exact h
  |some p=>obtain⟨r,e,g⟩:=h;exact⟨r,e,k.get g⟩
theorem ni.refs{a:Nat}{vs:List PV}{l:List Nd}(h:ni H a vs l):∀v∈vs,∃r,v=.ref r:=by
 intro v m
 obtain⟨i,hi⟩:=List.getElem?_of_mem m
 have hk:=(List.getElem?_eq_some_iff.mp hi).1
 obtain⟨d,hd⟩:∃d,l[i]? =some d:=⟨_,List.getElem?_eq_getElem (by rw[←h.len];exact hk)⟩
 obtain⟨u,hu,q⟩:=h.get hd
 rw[hi] at hu
 cases hu
 exact q.kind.ref
theorem Pz{a:Nat}{vs:List PV}{l:List Nd}{st sh:PV}{S:bp}{gl gr:Gl}{dA:jj}{fh extra:Int}{last:Bool}
  (h:ni H a vs l) (hf:∀d∈l,d.bD) (hX:oE H st S gl gr) (hs:iB H sh dA) (hd:0≤dA.done∧dA.done≤100) (ht:Nm fh) (he:Dm extra)
  (ok:kH (rowsOf S l)) (hg:Bd (cV gl gr extra)) (k:∀v H',Pre H H'→nV H' v (rowsOf S l) (cN l) (dR (nH S dA gl gr fh extra last) ((rowsOf S l).map Row.core))→R v H'):
  Wc (aj (aP ns) (n+7) 837 [.ref a,st,sh,.tup [.int fh,.int extra],.bool last] H) R E:=by
 revert R E ns n H a vs l st sh S gl gr dA fh extra last
 apply aQ;intro
 generalize bT .. =R,bU .. =E,bV .. =ns,bW .. =n,cj .. =H,ck .. =a,cm .. =vs,cp .. =l
 apply aQ;intro
 generalize bT .. =st,bU .. =sh,bV .. =S,bW .. =gl,cj .. =gr,ck .. =dA,cm .. =fh,cp .. =extra
 apply aI;intro
 generalize nx .. =last
 intro h hf hX hs hd ht he ok hg k
 have hl:vs.length<100000:=Nat.lt_trans h.small (by decide)
 have p1:Pre H (H++[aF.list vs]):=Pre.app _ (.refl _)
 have hc:ni (H++[aF.list vs]) H.length vs l:=⟨aX,h.small,(h.pre p1).all⟩
 refine aT rfl rfl (.of h.at_ (.of hl ?_))
 refine lG (fun s:PV×aa=>[some (.ref a),some st,some sh,some (.tup [.int fh,.int extra]),some (.bool last),some (.ref H.length),some s.1]) (fun s=>s.2) (fun s=>Pre (H++[aF.list vs]) s.2∧nV s.2 s.1 (rowsOf S l) (cN l) (dR (nH S dA gl gr fh extra last) ((rowsOf S l).map Row.core))) (?_) ?_
 ·apply aI;intro
  generalize nx .. =N
  intro hN
  refine Tn hc hf (hX.ins p1.ins) (hs.pre p1) hd ht he ok hg (fun hb=> ?_) fun hb H1 p2=>hN (.str nU,H1) ⟨p2,by unfold nV;rw[if_pos hb]⟩
  have hN:∀v H1,Pre (H++[aF.list vs]) H1→(match dR (nH S dA gl gr fh extra last) ((rowsOf S l).map Row.core) with|none=>v=.none|some p=>∃r,v=.ref r∧H1[r]? =some (.list (cI (rowsOf S l) p)))→N [some (.ref a),some st,some sh,some (.tup [.int fh,.int extra]),some (.bool last),some (.ref H.length),some v] H1:=fun v H1 p2 q=>hN (v,H1) ⟨p2,by unfold nV;rw[if_neg (by rw[hb];decide)];exact q⟩
  cases hP:dR (nH S dA gl gr fh extra last) ((rowsOf S l).map Row.core) with
  |none=>rw[hP] at hN;exact fun H1 p2=>hN _ H1 p2 rfl
  |some q=>rw[hP] at hN;exact fun r H1 p2 g=>hN _ H1 p2 ⟨r,rfl,g⟩
 ·apply aI;intro
  generalize nx .. =s
  intro j
  have Rq:=hc.pre j.1
  have h':=(h.pre p1).pre j.1
  exact Uh Rq.at_ h'.at_ h.small h'.refs (k _ _ (p1.trans j.1) j.2)
end
theorem sF(l:List Int):g8 (l.map .int) (l.map .int)=some true:=by
 induction l with
 |nil=>
  exact rfl
 |cons x l ih=>
  show(g8 (l.map .int) (l.map .int)).map (fun b=>decide (x=x) && b)=_
  rw[ih,decide_eq_true rfl];rfl
noncomputable def placeOf(rows:List Row)(i:Nat):Int:=((rows[i]?).map fun r=>(r.place:Int)).getD 0
theorem uQ(rows:List Row)(p:List Nat):cI rows p=(p.map (placeOf rows)).map .int:=by
 unfold cI placeOf
 rw[List.map_map]
 rfl
section
variable {R:PV→aa→Prop}{E:XK→aa→Prop}{ns:List Int}{n:Nat}{H:aa}
theorem B4{R:List PV→aa→Prop}{t m d:Nat}{mv:List Int}{f:Nat→Int}{g:Nat→Int}{vs:List PV}{x1 x2 x3:Option PV}(ht:lQ H (.ref t) 60=some (.ref m))(hm:H[m]? =some (.list (mv.map .int)))(hd:H[d]? =some (.list vs))(IL:mv.length<1000):
  ∀(q:List Nat) (acc:List PV) (y:Option PV),(∀i∈q,∃k:Nat,f i=k∧mv[k]? =some (g i))→acc.length+q.length<1000→R (acc++(q.map g).map .int) H→
  yO (wE (aP ns) (aj (aP ns) n) (.item (.eX (.var 0) 60) (.var 4))) [4] R d vs ((q.map f).map .int) acc [some (.ref t),x1,x2,x3,y] H
 |[],acc,_,_,_,h=>by rw[List.map_nil,List.map_nil,List.append_nil] at h;exact⟨hd,h⟩
 |i::q,acc,y,hq,hl,h=>by
  obtain⟨k,e1,e2⟩:=hq i (List.mem_cons_self ..)
  rw[List.length_cons] at hl
  have e3:(mv.map PV.int)[k]? =some (.int (g i)):=by rw[List.getElem?_map,e2];rfl
  rw[List.map_cons,List.map_cons,e1]
  exact⟨hd,.of ht (.of hm (.of (fg e3 (by rw[List.length_map];exact IL)) ⟨by exact Nat.lt_of_le_of_lt (Nat.le_add_right _ _) hl,B4 ht hm hd IL q _ _ (fun x m=>hq x (List.mem_cons_of_mem _ m)) (by rw[List.length_append,List.length_singleton];exact Ew hl) (by rw[List.append_assoc];exact h)⟩))⟩
theorem Ui{t a b m:Nat}{mv:List Int}{Qv found:PV}{ra rb:List Row}{bad last:Bool}{P:Option (List Nat)}(ht:H[t]? =some (.ed [(62,.ref a),(61,.ref b),(60,.ref m)]))(hm:H[m]? =some (.list (mv.map .int)))
  (hd:nV H Qv ra bad P) (hf:nV H found rb bad P) (hl:last=true→bad=false→P≠none) (IL:mv.length<1000)
  (hP:∀p,P=some p→p.length<1000∧∀i∈p,∃k:Nat,placeOf ra i=k∧mv[k]? =some (placeOf rb i)) (k:∀H',Pre H H'→R (.bool true) H'):
  Wc (aj (aP ns) (n+1) 842 [.ref t,Qv,found,.bool last] H) R E:=by
 unfold nV nU at hd hf
 have s1:((⟨#[114,101,102,117,115,101,100]⟩:Str) == ⟨#[114,101,102,117,115,101,100]⟩)=true:=beq_self_eq_true _
 split at hd
 ·rename_i q
  rw[if_pos q] at hf
  subst hd hf
  exact aT rfl rfl (.pos s1 (.pos s1 (k _ (.refl _))))
 rename_i q
 rw[if_neg q] at hf
 have hb:bad=false:=by cases bad<;>simp_all
 cases P with
 |none=>
  replace hd:Qv=.none:=hd
  replace hf:found=.none:=hf
  subst hd hf
  have PE:last=false:=by
   cases last with
   |false=>rfl
   |true=>exact absurd rfl (hl rfl hb)
  subst PE
  exact aT rfl rfl (k _ (.refl _))
 |some p=>
  obtain⟨d,rfl,gd⟩:=hd
  obtain⟨f,rfl,gf⟩:=hf
  obtain⟨Zw,YX⟩:=hP p rfl
  rw[uQ] at gd gf
  have l1:((p.map (placeOf ra)).map PV.int).length<100000:=by simp;lia
  have l2:((p.map (placeOf rb)).map PV.int).length<1000:=by simp;lia
  refine aT rfl rfl (.of gd (.of gd (.of gf (.of gf (.of gf (.of (Nat.lt_trans l2 (by decide)) ?_))))))
  refine et (fun _ y=>[some (.ref t),some (.ref d),some (.ref f),some (.bool last),y]) (fun _ _=>H) (fun _ _=>True) none ((p.map (placeOf rb)).map .int) trivial (fun _ _ _=>gf) (fun i y v _ hv=> ?_) fun y _=> ?_
  ·obtain⟨x,_,rfl⟩:=List.mem_map.mp (List.mem_of_getElem? hv)
   exact⟨_,rfl,rfl,trivial⟩
  ·have p0:Pre H (H++[aF.list ((p.map (placeOf rb)).map PV.int)]):=Pre.app _ (.refl _)
   refine .of gd (.of l1 (nR (B4 (Cj ht rfl) hm gd IL p [] _ YX (by rw[List.length_nil];lia) (.of l2 (.of (a:=true) ?_ (k _ p0))))))
   show og (H++[aF.list ((p.map (placeOf rb)).map PV.int)]) (.ref f) (.ref H.length)=some true
   unfold og
   simp only[p0.get gf,aX]
   exact(if_neg fun x=>x rfl).trans (sF _)
end
theorem sG{ld:Bool}{c c0:List Nd}{d:Nd}(P:List Nd)(e:c=c0++[d])(h:d.kind≠12):IQ ld (P++(bB ld++c++ar ld)):=by
 subst e
 unfold IQ
 cases ld with
 |true=>
  have:P++(bB true++(c0++[d])++ar true)=(P++bB true++(c0++[d]))++[.math false 0]:=by simp[ar]
  rw[this,kK]
  exact⟨fun _=>rfl,fun _=>rfl⟩
 |false=>
  have:P++(bB false++(c0++[d])++ar false)=(P++c0)++[d]:=by simp[ar,bB]
  rw[this,kK]
  exact⟨fun x=>absurd (Option.some.inj x) h,fun x=>by cases x⟩
structure yQ(S:bp)(tl:Bool)(eA eB:List Nd)(oF:List Int):Prop where
 ua:dI S true eA none
 ub:dI S (!tl) (ar tl++eB) none
 iX:total eA=total eB
 bad:cN eA=cN eB
 pz:∀d∈eA,yF d
 bD:(∀d∈eA,d.bD)∧∀d∈eB,d.bD
 len:oF.length=eA.length
 small:eA.length≤2
theorem end_none{S:bp}{tl:Bool}:yQ S tl [] [] []:=by
 have u:∀tl,dI S (!tl) (ar tl++[]) none:=fun tl=>nI (fun r hr=>hr.1) fun cP i r _=>⟨cP,rfl⟩
 exact⟨u false,u tl,rfl,rfl,by simp,by simp,rfl,by simp⟩
theorem B5{S:bp}{tl:Bool}{y k0 k1:Int}{g:Gl}{l:List Nd}(q:BU 10000 y)(ql:qB false g l)(hg:oG g):yQ S tl [.pen 10000,.glue g] (.pen y::l) [k0,k1]:=by
 have G:=nS (S:=S) (tl:=tl) (k:=k1) q ql hg
 obtain⟨g',z,rfl,hz,hs⟩:=ql.plain
 have hy:10000≤y:=by rcases q with q|q;exact q.2;exact absurd q.1 (by decide)
 exact⟨gy (tl:=false) (z:=[.glue g]) (.glue _ _ .nil) (Int.le_refl _),gy (.glue _ _ hz) hy,G.iX,G.bad,G.pz,G.bD,rfl,by simp⟩
theorem aE.part{M M':List Nat}{H H1 H2:aa}(a:aE M H H1)(b:aE M' H1 H2)(h:∀i∈M',i∈M∨H.length≤i):aE M H H2:=by
 refine⟨Nat.le_trans a.len b.len,fun i o m e=>b.at_ i o (fun q=> ?_) (a.at_ i o m e)⟩
 have:=(List.getElem?_eq_some_iff.mp e).1
 rcases h i q with q|q
 ·exact m q
 ·exact absurd q (Nat.not_le.mpr this)
section
variable {M:List Nat}{p t a b m T:Nat}{H:aa}{A B:List Nd}{mv:List Int}{S:bp}
structure Uj(M:List Nat)(p t a b m T:Nat)(S:bp)(k:Nat)(H:aa):Prop where
 ex:∃tl A B mv R,Pf S tl A B mv R∧R.length≤k∧A.length≤6 * k+1∧Told M p t a b m (T+80 * k) H A (B++ar tl) mv∧IQ tl (B++ar tl)∧B++ar tl≠[]
theorem yR{w:Int}{l:List Nd}(h:Told M p t a b m T H [.box 2 w] l [0])(hb:uM S w true l):Uj M p t a b m T S 0 H:=by
 obtain⟨c,ld,c0,d,hl,hc,he,hd,-,-⟩:=hb
 have EY:l=(bB ld++c)++ar ld:=hl
 refine⟨ld,[.box 2 w],bB ld++c,[0],[],Pf.start ld hc,Nat.le_refl _,by simp,?_,?_,?_⟩
 ·rw[←EY];exact h
 ·have:=sG (ld:=ld) [] he hd
  rwa [List.nil_append] at this
 ·rw[he];simp
theorem B6{k:Nat}{tl:Bool}{gA gB l:List Nd}{uD:List Int}{R:List (Row×Row)}{w x:Int}{H':aa}(pf:Pf S tl A B mv R)(hR:R.length≤k)(hA:A.length≤6 * k+1)(g:nM S tl gA gB uD)(hg:gA.length≤5)(hb:uM S w true l)
  (h:Told M p t a b m (T+80 * (k+1)) H' (A++gA++[.box 2 w]) (B++ar tl++gB++l) (mv++uD.map (((B++ar tl).length:Int)+·)++[x])):Uj M p t a b m T S (k+1) H':=by
 obtain⟨c,ld,c0,d,hl,hc,he,hd,-,-⟩:=hb
 obtain⟨R',YY,YZ⟩:=Pf.step (ld:=ld) (x:=x) pf g hc
 have eB:B++ar tl++gB++l=(B++((ar tl++gB)++(bB ld++c)))++ar ld:=by rw[hl];simp
 have eA:A++gA++[.box 2 w]=A++(gA++[.box 2 w]):=by simp
 have em:mv++uD.map (((B++ar tl).length:Int)+·)++[x]=mv++(uD.map (((B++ar tl).length:Int)+·)++[x]):=by simp
 rw[eA,eB,em] at h
 refine⟨ld,_,_,_,R',YY,by exact Nat.le_trans YZ (Nat.succ_le_succ hR),?_,h,?_,?_⟩
 ·simp only[List.length_append,List.length_singleton];exact Jh hA hg
 ·have:=sG (ld:=ld) (B++(ar tl++gB)) he hd
  simpa using this
 ·rw[he];simp
theorem uF.of{tl:Bool}{eA eB:List Nd}{oF:List Int}{R:List (Row×Row)}(pf:Pf S tl A B mv R)(hR:R.length≤5)(hA:A.length≤998)(e:yQ S tl eA eB oF):
  uF S (A++eA) (B++ar tl++eB) (mv++oF++[((B++ar tl++eB).length:Int)]):=by
 have:=Pf.fin pf e.ua e.ub e.iX e.bad e.pz e.bD e.len hR (by rw[List.length_append];have:=e.small;exact nZ (Nat.add_le_add hA this) rfl)
 rw[List.append_assoc B]
 exact this
theorem uF.places{a b:List Nd}{mv:List Int}(h:uF S a b mv){T:eY}(h0:0≤T.dA.done):∀p,dR T ((rowsOf S a).map Row.core)=some p→p.length<1000∧∀i∈p,∃k:Nat,placeOf (rowsOf S a) i=k∧mv[k]? =some (placeOf (rowsOf S b) i):=by
 intro p e
 obtain⟨h1,h2⟩:=yP h0 e
 have hl:=h.VK.len
 rw[List.length_map] at h1 h2
 have Y3:(rowsOf S a).length=(rowsOf S b).length:=by have:=congrArg List.length h.core;simpa using this
 refine⟨by exact gC (Nat.le_trans h1 hl) rfl,fun i m=> ?_⟩
 have hi:=h2 i m
 obtain⟨x,hx⟩:∃x,(rowsOf S a)[i]? =some x:=⟨_,List.getElem?_eq_getElem hi⟩
 obtain⟨y,hy⟩:∃y,(rowsOf S b)[i]? =some y:=⟨_,List.getElem?_eq_getElem (by exact Nat.lt_of_lt_of_eq hi Y3)⟩
 refine⟨x.place,?_,?_⟩
 ·unfold placeOf;rw[hx];rfl
 ·rw[h.O7 i x y hx hy]
  unfold placeOf;rw[hy];rfl
end
section
variable {ns:List Int}{n:Nat}
theorem uR{p T:Nat}{H:aa}(e:Env [p] p T H):Told [p,H.length,H.length+1,H.length+1+1] p (H.length+1+1+1) H.length (H.length+1) (H.length+1+1) T (H++[.list []]++[.list []]++[.list []]++[.ed [(62,.ref H.length),(61,.ref (H.length+1)),(60,.ref (H.length+1+1))]]) [] [] []:=by
 have hp:p<H.length:=e.low p (List.mem_singleton.mpr rfl)
 refine⟨⟨?_,List.mem_cons_self ..,((((e.qy.app _).app _).app _).app _)⟩,⟨?_,?_⟩,?_,?_,⟨[],?_,trivial⟩,⟨[],?_,trivial⟩,?_,Nat.zero_le _,Nat.zero_le _,rfl⟩
 ·intro i m
  simp only[List.mem_cons,List.not_mem_nil,or_false] at m
  simp only[List.length_append,List.length_singleton]
  exact I3 hp m
 ·have:H.length+1+1+1=(H++[aF.list []]++[aF.list []]++[aF.list []]).length:=by simp
  rw[this];exact aX
 ·simp only[List.mem_cons,List.not_mem_nil,or_false];exact I4 hp
 ·simp
 ·exact I5 hp
 ·rw[List.append_assoc,List.append_assoc,List.append_assoc,List.getElem?_append_right (Nat.le_refl _),Nat.sub_self];rfl
 ·rw[List.append_assoc,List.append_assoc,List.append_assoc,List.getElem?_append_right (by exact Nat.le_succ _),show H.length+1 - H.length=1 by exact Nat.add_sub_cancel_left _ 1];rfl
 ·rw[List.append_assoc,List.append_assoc,List.append_assoc,List.getElem?_append_right (by exact Nat.le_add_right _ 2),show H.length+1+1 - H.length=2 by exact Nat.add_sub_cancel_left _ 2];rfl
structure Zx where
 H:aa
 y:Option PV
theorem HZ{many e fh extra:Int}{p r rs t a b m:Nat}{y x:Option PV}{va vb:List PV}{mv:List Int}{a1 b1:List Nd}{S:bp}{gl gr:Gl}{dA:jj}{H:aa}{E:EL}(tt:H[t]? =some (.ed [(62,.ref a),(61,.ref b),(60,.ref m)]))(xm:H[m]? =some (.list (mv.map .int)))
  (ia:ni H a va a1) (ib:ni H b vb b1) (hX:oE H (.ref r) S gl gr) (hs:iB H (.ref rs) dA) (jV:0≤dA.done∧dA.done≤100) (sH:Nm fh) (qD:0≤extra∧extra≤100) (B1:kL gl) (B2:kL gr) (both:uF S a1 b1 mv) (PF:mv.length<1000):
  wSs (aP ns) (aj (aP ns) (n+8)) (iV xa 9) [some .bG,some (.ref p),some (.int many),some (.ref r),some (.ref rs),some (.tup [.int fh,.int extra]),some (.ref t),some (.int e),y,none,x] H (fR fun v _=>v=.bool true) E:=by
 revert ns n many e fh extra p r rs t a b m y x va vb mv a1 b1 S gl gr dA H E
 apply aQ;intro
 generalize bT .. =ns,bU .. =n,bV .. =many,bW .. =e,cj .. =fh,ck .. =extra,cm .. =p,cp .. =r
 apply aQ;intro
 generalize bT .. =rs,bU .. =t,bV .. =a,bW .. =b,cj .. =m,ck .. =y,cm .. =x,cp .. =va
 apply aQ;intro
 generalize bT .. =vb,bU .. =mv,bV .. =a1,bW .. =b1,cj .. =S,ck .. =gl,cm .. =gr,cp .. =dA
 apply aM;intro
 generalize bI .. =H,bJ .. =E
 intro tt xm ia ib hX hs jV sH qD B1 B2 both PF
 have he:Dm extra:=by unfold Dm;exact cq qD rfl rfl
 refine .of (by decide:2<1000) ?_
 refine qk (fun _ (s:aa×Option PV×Option PV)=>[some .bG,some (.ref p),some (.int many),some (.ref r),some (.ref rs),some (.tup [.int fh,.int extra]),some (.ref t),some (.int e),y,s.2.1,s.2.2]) (fun _ s=>s.1) (fun _ s=>Pre H s.1) (H,none,x) [.bool false,.bool true] (.refl _) (fun k s v PG hv=> ?_) fun s _=>rfl
 obtain⟨last,rfl⟩:∃last,v=.bool last:=by
  have:=List.mem_of_getElem? hv
  simp only[List.mem_cons,List.not_mem_nil,or_false] at this
  rcases this with rfl|rfl<;>exact⟨_,rfl⟩
 refine .of (Cj (PG.get tt) rfl) (Pz (ia.pre PG) both.bD.1 (hX.ins PG.ins) (hs.pre PG) jV sH he both.VK (B1.bd B2 qD) fun Qv Qs Y4 Uk=> ?_)
 have PH:=PG.trans Y4
 refine .of (Cj (PH.get tt) rfl) (Pz (ib.pre PH) both.bD.2 (hX.ins PH.ins) (hs.pre PH) jV sH he both.Ys (B1.bd B2 qD) fun found YN VX B7=> ?_)
 have Ul:=PH.trans VX
 rw[←both.core,←both.bad] at B7
 refine Ui (Ul.get tt) (Ul.get xm) (Uk.pre VX) B7 (fun hl _=> ?_) PF (both.places jV.1) fun VT Y5=>⟨(_,_,_),rfl,rfl,Ul.trans Y5⟩
 subst hl
 obtain⟨q,hq⟩:=yI (T:=nH S dA gl gr fh extra true) (cs:=(rowsOf S a1).map Row.core) rfl
 rw[hq];nofun
theorem H0{many e fh extra:Int}{p r rs t a b m k:Nat}{M:List Nat}{y:Option PV}{tl:Bool}{A B:List Nd}{mv:List Int}{R:List (Row×Row)}{S:bp}{gl gr:Gl}{dA:jj}{H:aa}(pf:Pf S tl A B mv R)(hR:R.length≤k)(hk:k≤4)(hA:A.length≤6 * k+1)(h:Told M p t a b m 400 H A (B++ar tl) mv)(j8:B++ar tl≠[])
  (hX:lx M H (.ref r) S gl gr) (hs:sE M H (.ref rs) dA) (jV:0≤dA.done∧dA.done≤100) (sH:Nm fh) (qD:0≤extra∧extra≤100) (B1:kL gl) (B2:kL gr):
  wSs (aP ns) (aj (aP ns) (n+8)) (iV xa 7) [some .bG,some (.ref p),some (.int many),some (.ref r),some (.ref rs),some (.tup [.int fh,.int extra]),some (.ref t),some (.int e),y,none,none] H (fR fun v _=>v=.bool true) fun _ _ _=>False:=by
 revert ns n many e fh extra p r rs t a b m k M y tl A B mv R S gl gr dA H
 apply aQ;intro
 generalize bT .. =ns,bU .. =n,bV .. =many,bW .. =e,cj .. =fh,ck .. =extra,cm .. =p,cp .. =r
 apply aQ;intro
 generalize bT .. =rs,bU .. =t,bV .. =a,bW .. =b,cj .. =m,ck .. =k,cm .. =M,cp .. =y
 apply aQ;intro
 generalize bT .. =tl,bU .. =A,bV .. =B,bW .. =mv,cj .. =R,ck .. =S,cm .. =gl,cp .. =gr
 apply aM;intro
 generalize bI .. =dA,bJ .. =H
 intro pf hR hk hA h j8 hX hs jV sH qD B1 B2
 refine cut (fun _:aa×List Nd×List Nd×List Int=>[some .bG,some (.ref p),some (.int many),some (.ref r),some (.ref rs),some (.tup [.int fh,.int extra]),some (.ref t),some (.int e),y,none,none]) (fun s=>s.1) (fun s=>yQ S tl s.2.1 s.2.2.1 s.2.2.2∧Told M p t a b m 500 s.1 (A++s.2.1) (B++ar tl++s.2.2.1) (mv++s.2.2.2)∧aE M H s.1) (fun N hN=>.of (fun z=> ?_) fun z=> ?_) ?_
 ·have:=h.le (T':=500) (by decide)
  exact hN (H,[],[],[]) ⟨end_none,by simpa using this,.refl _⟩
 ·refine Pl h (by decide) (by decide) fun y' Ck hq lM qA=> ?_
  have ok:∀{w st so sh:Int},(-10≤w∧w≤10)→(0≤st∧st≤10)→(0≤so∧so≤3)→(0≤sh∧sh≤10)→fc w st so sh 0:=fun a b c d=>⟨a,b,c,d,by decide⟩
  have fin:∀{w st so sh:Int} {Eo:aa} {g:Nat} {K:PV→aa→Prop} {E:XK→aa→Prop},fc w st so sh 0→aE [p] Ck Eo→Env M p 402 Eo→At M Eo g (.inst 227 (uq w st so sh 0))→(∀eA eB oF H',yQ S tl eA eB oF→Told M p t a b m 500 H' (A++eA) (B++ar tl++eB) (mv++oF)→aE M H H'→K .none H')→Wc (aj (aP ns) (n+8) 797 [.ref p,.ref t,.ref g,.bool false] Eo) K E:=by
   intro w st so sh Eo g K E ok jP uN oN hK
   refine Po (lM.e jP uN (Nat.le_refl _)) oN ok (by simp) (by decide) fun l Qs hl Y6 Cn=>hK [.pen 10000,.glue (de w st so sh 0)] (.pen y'::l) [((B++ar tl).length:Int)+0,((B++ar tl++[Nd.pen y']).length:Int)+dg l (B++ar tl++[Nd.pen y'])] Qs (B5 hq hl (.of ok)) ?_ (qA.trans ((lM.env.wide jP).trans Cn))
   have:=Y6.le (T':=500) (by decide)
   rw[List.append_assoc A,List.append_assoc (B++ar tl),List.append_assoc mv] at this
   exact this
  have Ql:∀eA eB oF H',yQ S tl eA eB oF→Told M p t a b m 500 H' (A++eA) (B++ar tl++eB) (mv++oF)→aE M H H'→N [some .bG,some (.ref p),some (.int many),some (.ref r),some (.ref rs),some (.tup [.int fh,.int extra]),some (.ref t),some (.int e),y,none,none] H':=fun eA eB oF H' a b c=>hN (H',eA,eB,oF) ⟨a,b,c⟩
  exact .of (fun z=>vY (ok (by decide) (by decide) (by decide) (by decide)) lM.env fun g Eo jP uN oN=>fin (ok (by decide) (by decide) (by decide) (by decide)) jP uN oN Ql) fun z=>vY (ok (by decide) (by decide) (by decide) (by decide)) lM.env fun g Eo jP uN oN=>fin (ok (by decide) (by decide) (by decide) (by decide)) jP uN oN Ql
 rintro⟨Ck,eA,eB,oF⟩ ⟨hE,lM,qA⟩
 dsimp only at hE lM qA ⊢
 have Um:=hX.keep qA
 have Un:=hs.keep qA
 have both:=uF.of pf (by exact nZ (Nat.le_trans hR hk) rfl) (by exact nZ (Nat.le_trans hA (Nat.succ_le_succ (Nat.mul_le_mul_left 6 hk))) rfl) hE
 have sA:(A++eA).length≤30:=by rw[List.length_append];have:=hE.small;exact nZ (Nat.add_le_add (Nat.le_trans hA (Nat.succ_le_succ (Nat.mul_le_mul_left 6 hk))) this) rfl
 generalize A++eA=a1 at lM both sA
 generalize B++ar tl++eB=b1 at lM both
 generalize mv++oF=Uo at lM both
 obtain⟨va,ga,qa⟩:=lM.fa
 obtain⟨vb,gb,qb⟩:=lM.fb
 have Y7:va.length≤30:=by rw[qa.length];exact sA
 have VY:vb.length≤120:=by rw[qb.length];have:=lM.lb;exact nZ (Nat.le_trans this (Nat.mul_le_mul_left 4 sA)) rfl
 have PF:Uo.length≤30:=by rw[lM.lm];exact sA
 have hc:(Uo.map PV.int)++[.int vb.length]=(Uo++[(b1.length:Int)]).map .int:=by rw[List.map_append,qb.length];rfl
 obtain⟨n1,n2,n3,n4,n5,n6⟩:=lM.ne
 have jP:∀{o},aE M Ck (Ck.set m o):=(aE.refl _).set (.inl lM.mem.2.2)
 refine .of (Cj lM.told.at_ rfl) (.of lM.fm (.of (Cj lM.told.at_ rfl) (.of gb (.of (by exact gC VY rfl) (.of lM.fm (.of (by rw[List.length_map];exact gC PF rfl) ?_))))))
 refine HZ (lM.told.keep jP).at_ ((getset lM.fm).trans (by rw[hc])) ⟨(bz (Ne.symm n5)).trans ga,by exact gC Y7 rfl,(dG.all jP qa).mono fun _ _ x=>x.now⟩ ⟨(bz (Ne.symm n6)).trans gb,by exact gC VY rfl,(dG.all jP qb).mono fun _ _ x=>x.now⟩ (Um _ jP) (Un _ jP) jV sH qD B1 B2 both (by rw[List.length_append];simp;exact bE 1 (Nat.lt_succ_of_le PF) rfl)
theorem Ep{p:Nat}{H1:aa}(E1:Env [p] p 0 H1):wSs (aP ns) (aj (aP ns) (n+8)) (iV xa 1) [some .bG,some (.ref p),none,none,none,none,none,none,none,none,none] H1 (fR fun v _=>v=.bool true) fun _ _ _=>False:=by
 revert ns n p H1
 apply aO;intro
 generalize bL .. =ns,bM .. =n,bQ .. =p,bR .. =H1
 intro E1
 refine iY [2,3,4,3,2] E1 rfl (by decide) (by decide) (by decide) fun many mm H2 k2 e2=>Ud e2 (by decide) fun r S gl gr H3 hX B1 B2 k3 e3=>Ug e3 (by decide) fun rs dA H4 hs jV k4 e4=>iY [10000,200,1000,30] e4 rfl (by decide) (by decide) (by decide) fun fh mt H5 k5 e5=>iY [0,0,20] e5 rfl (by decide) (by decide) (by decide) fun extra me H6 k6 e6=> ?_
 have B8:0≤many∧many≤4:=by simp only[List.mem_cons,List.not_mem_nil,or_false] at mm;exact qG (P:=fun x=>0≤x∧x≤4) [2,3,4,3,2] rfl mm
 have sH:Nm fh:=by simp only[List.mem_cons,List.not_mem_nil,or_false] at mt;unfold Nm;exact qG (P:=fun x=>-2147483647≤x∧x≤2147483647) [10000,200,1000,30] rfl mt
 have qD:0≤extra∧extra≤100:=by simp only[List.mem_cons,List.not_mem_nil,or_false] at me;exact qG (P:=fun x=>0≤x∧x≤100) [0,0,20] rfl me
 have Y8:=hX.keep (k4.trans (k5.trans k6))
 have Y9:=hs.keep (k5.trans k6)
 have T7:=uR e6
 have K7:aE [p] H6 (H6++[.list []]++[.list []]++[.list []]++[.ed [(62,.ref H6.length),(61,.ref (H6.length+1)),(60,.ref (H6.length+1+1))]]):=((((aE.refl _).app _).app _).app _).app _
 have l1:(H6++[aF.list []]).length=H6.length+1:=by simp
 have l2:(H6++[aF.list []]++[aF.list []]).length=H6.length+1+1:=by simp
 have l3:(H6++[aF.list []]++[aF.list []]++[aF.list []]).length=H6.length+1+1+1:=by simp
 refine .of ⟨(rfl:3=3),by decide,by decide⟩ ?_
 have go:∀{M:List Nat} {H7:aa} {t a b m:Nat},(∀{H'},aE M H7 H'→aE [p] H6 H')→Told M p t a b m 17 H7 [] [] []→Wc (aj (aP ns) (n+8) 748 [.ref p,.int 4] H7) (fun v H=>wSs (aP ns) (aj (aP ns) (n+8)) (iV xa 5) [some .bG,some (.ref p),some (.int many),some (.ref r),some (.ref rs),some (.tup [.int fh,.int extra]),some (.ref t),some v,none,none,none] H (fR fun v _=>v=.bool true) fun _ _ _=>False) (fun _ _=>False):=by
  intro M H7 t a b m part T7
  have VZ:lx M H7 (.ref r) S gl gr:=fun H' k=>Y8 H' (part k)
  have Za:sE M H7 (.ref rs) dA:=fun H' k=>Y9 H' (part k)
  refine dz T7.env 4 (by decide) (by decide) (by decide) fun e H8 e0 e4 k8 e8=> ?_
  have T8:=T7.e k8 e8 (by decide)
  have kk:=T7.env.wide k8
  refine HL T8 (VZ.keep kk).s (by decide) fun w1 l9 H9 b9 T9 k9=> ?_
  have Up:=VZ.keep (kk.trans k9)
  have Zb:=Za.keep (kk.trans k9)
  have F9:=yR T9 b9
  have hN:(dv many).length≤4:=by
   unfold dv
   simp;exact qF B8.2 rfl
  refine .of ⟨by exact jk B8.1 rfl,by exact Co B8.2 rfl⟩ ?_
  refine qk (fun _ (s:aa×Option PV)=>[some .bG,some (.ref p),some (.int many),some (.ref r),some (.ref rs),some (.tup [.int fh,.int extra]),some (.ref t),some (.int e),s.2,none,none]) (fun _ s=>s.1) (fun k s=>Uj M p t a b m 28 S k s.1∧aE M H9 s.1) (H9,none) (dv many) ⟨F9,.refl _⟩ (fun k s v j hv=> ?_) fun s j=> ?_
  ·obtain⟨⟨tl,A,B,mv,R,pf,hR,hA,h,PI,j8⟩,lL⟩:=j
   have hk:=(List.getElem?_eq_some_iff.mp hv).1
   refine T6 h (Up.keep lL).s j8 PI (by exact gC (Nat.add_le_add_left (Nat.mul_le_mul_left 80 (Nat.le_trans (Nat.le_of_lt hk) hN)) 28) rfl) fun Ck g=> ?_
   obtain⟨gA,gB,uD,g,Zc,lM,qA⟩:=g
   exact HL lM (Up.keep (lL.trans qA)).s (by exact bE 60 (gC (C:=4000) (Nat.add_le_add_left (Nat.mul_le_mul_left 80 (Nat.le_trans (Nat.le_of_lt hk) hN)) 28) rfl) rfl) fun Zy YV Eo P0 pM jP=>⟨(_,_),rfl,rfl,B6 pf hR hA g Zc P0 (pM.le (by exact cR (x:=28+80 * _) (k:=70) (l:=80) rfl)),lL.trans (qA.trans jP)⟩
  ·obtain⟨⟨tl,A,B,mv,R,pf,hR,hA,h,PI,j8⟩,lL⟩:=j
   exact H0 pf hR hN hA (h.le (by exact nZ (Nat.add_le_add_left (Nat.mul_le_mul_left 80 hN) 28) rfl)) j8 (Up.keep lL) (Zb.keep lL) jV sH qD B1 B2
 rw[l1,l2,l3]
 refine go (M:=[p,H6.length,H6.length+1,H6.length+1+1]) (fun k=>K7.part k ?_) (T7.le (by decide))
 intro i m
 simp only[List.mem_cons,List.not_mem_nil,or_false] at m ⊢
 lia
theorem Uq:Wc (aj (aP ns) (n+9) 849 [.bG] []) (fun v _=>v=.bool true) nE:=by
 refine aT rfl rfl (TN fun w w0=> ?_)
 have g1:([]++[aF.list ((ns.take 24).map .int)]++[aF.list [.int w,.int 0]])[1]? =some (.list [.int w,.int 0]):=rfl
 exact Ep ⟨fun i m=>by rw[List.mem_singleton.mp m];exact(by decide:1<2),List.mem_singleton.mpr rfl,w,0,g1,w0,Int.le_refl _,by decide⟩
theorem B9(ns:List Int):aj (aP ns) 20 849 [.bG] [] (fun v _=>v=.bool true) nE:=(Uq (ns:=ns) (n:=11)).el
end
end
section
theorem fin:PySem.Challenge.rw_tu0007_01.Holds:=holds_of fun ns _=>B9 ns
end
end Mine
theorem PySem.Challenge.cw_tu0007_01_holds : PySem.Challenge.rw_tu0007_01.Holds :=
 Mine.fin
