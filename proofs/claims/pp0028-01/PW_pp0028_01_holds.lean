import PyProof.Rows.All
import Wide.All
import OpenK.AllK
import Wide.FinOn
import Lean
import PySem.Challenge.RW_pp0028_01
set_option linter.all false
set_option maxRecDepth 100000
set_option Elab.async false
set_option tactic.hygienic false
set_option genSizeOf false
set_option genSizeOfSpec false
set_option genInjectivity false
set_option genCtorIdx false
set_option bootstrap.genMatcherCode false
namespace Mine.Tactic
noncomputable section
noncomputable def a8:= @Option.some.inj
noncomputable def cj:= @Nat.eq_of_beq_eq_true
noncomputable def dG:= @Nat.le_of_ble_eq_true
noncomputable def gn:= @Nat.ble_eq_true_of_le
noncomputable def bz:= @congrArg
noncomputable def bf:= @absurd
noncomputable def ct:= @Nat.le_trans
noncomputable def b8:= @Nat.le_refl
noncomputable def f6:= @Nat.lt_succ_of_le
noncomputable def hF:= @Nat.lt_of_lt_of_le
noncomputable def kc:= @Nat.ne_of_beq_eq_false
noncomputable def fi:= @Prod.mk.inj
noncomputable def e0:= @Nat.lt_irrefl
noncomputable def oG:= @decide_eq_true
def cB:= @Classical.choice
def d4:= @Exists.elim
def fr:= @Nat.le_of_eq
def gP:= @Nat.le_succ
def kd:= @Classical.byContradiction
def cO:= @if_neg
def df:= @if_pos
def c0:= @Eq.trans
section
variable{P0 a6 bg P3 b7 cD dH eA f7 P9 mU:Prop}{G:Prop}
theorem bC(h:P0/\a6)(H:P0->a6->G):G:=H h.1 h.2
theorem eU(h:P0/\a6/\bg)(H:P0->a6->bg->G):G:=bC h.2 (H h.1)
theorem l3(h:P0/\a6/\bg/\P3)(H:P0->a6->bg->P3->G):G:=eU h.2 (H h.1)
theorem GV(h:P0/\a6/\bg/\P3/\b7)(H:P0->a6->bg->P3->b7->G):G:=l3 h.2 (H h.1)
theorem GW(h:P0/\a6/\bg/\P3/\b7/\cD)(H:P0->a6->bg->P3->b7->cD->G):G:=GV h.2 (H h.1)
theorem GX(h:P0/\a6/\bg/\P3/\b7/\cD/\dH)(H:P0->a6->bg->P3->b7->cD->dH->G):G:=GW h.2 (H h.1)
theorem GY(h:P0/\a6/\bg/\P3/\b7/\cD/\dH/\eA)(H:P0->a6->bg->P3->b7->cD->dH->eA->G):G:=GX h.2 (H h.1)
theorem GZ(h:P0/\a6/\bg/\P3/\b7/\cD/\dH/\eA/\f7)(H:P0->a6->bg->P3->b7->cD->dH->eA->f7->G):G:=GY h.2 (H h.1)
theorem BK(h:P0/\a6/\bg/\P3/\b7/\cD/\dH/\eA/\f7/\P9)(H:P0->a6->bg->P3->b7->cD->dH->eA->f7->P9->G):G:=GZ h.2 (H h.1)
theorem NH(h:P0/\a6/\bg/\P3/\b7/\cD/\dH/\eA/\f7/\P9/\mU)(H:P0->a6->bg->P3->b7->cD->dH->eA->f7->P9->mU->G):G:=BK h.2 (H h.1)
end
section
variable{d6:Sort _}{P0 a6 bg P3 b7 cD dH eA f7 P9 mU:d6->Prop}{G:Prop}
theorem cL(h:∃a,P0 a)(H:∀a,P0 a->G):G:=d4 h H
theorem a4(h:∃a,P0 a/\a6 a)(H:∀a,P0 a->a6 a->G):G:=d4 h λa h=>bC h (H a)
theorem fV(h:∃a,P0 a/\a6 a/\bg a)(H:∀a,P0 a->a6 a->bg a->G):G:=d4 h λa h=>eU h (H a)
theorem tG(h:∃a,P0 a/\a6 a/\bg a/\P3 a)(H:∀a,P0 a->a6 a->bg a->P3 a->G):G:=d4 h λa h=>l3 h (H a)
theorem G0(h:∃a,P0 a/\a6 a/\bg a/\P3 a/\b7 a)(H:∀a,P0 a->a6 a->bg a->P3 a->b7 a->G):G:=d4 h λa h=>GV h (H a)
theorem BL(h:∃a,P0 a/\a6 a/\bg a/\P3 a/\b7 a/\cD a)(H:∀a,P0 a->a6 a->bg a->P3 a->b7 a->cD a->G):G:=d4 h λa h=>GW h (H a)
theorem NI(h:∃a,P0 a/\a6 a/\bg a/\P3 a/\b7 a/\cD a/\dH a)(H:∀a,P0 a->a6 a->bg a->P3 a->b7 a->cD a->dH a->G):G:=d4 h λa h=>GX h (H a)
theorem NJ(h:∃a,P0 a/\a6 a/\bg a/\P3 a/\b7 a/\cD a/\dH a/\eA a)(H:∀a,P0 a->a6 a->bg a->P3 a->b7 a->cD a->dH a->eA a->G):G:=d4 h λa h=>GY h (H a)
theorem NK(h:∃a,P0 a/\a6 a/\bg a/\P3 a/\b7 a/\cD a/\dH a/\eA a/\f7 a)(H:∀a,P0 a->a6 a->bg a->P3 a->b7 a->cD a->dH a->eA a->f7 a->G):G:=d4 h λa h=>GZ h (H a)
theorem NL(h:∃a,P0 a/\a6 a/\bg a/\P3 a/\b7 a/\cD a/\dH a/\eA a/\f7 a/\P9 a/\mU a)(H:∀a,P0 a->a6 a->bg a->P3 a->b7 a->cD a->dH a->eA a->f7 a->P9 a->mU a->G):G:=d4 h λa h=>NH h (H a)
end
section
variable{d6 fj:Sort _}{P0 a6 bg P3 b7 cD dH eA f7 P9 mU:d6->fj->Prop}{G:Prop}
theorem kG(h:∃a b,P0 a b)(H:∀a b,P0 a b->G):G:=d4 h λa h=>cL h (H a)
theorem cS(h:∃a b,P0 a b/\a6 a b)(H:∀a b,P0 a b->a6 a b->G):G:=d4 h λa h=>a4 h (H a)
theorem hp(h:∃a b,P0 a b/\a6 a b/\bg a b)(H:∀a b,P0 a b->a6 a b->bg a b->G):G:=d4 h λa h=>fV h (H a)
theorem fk(h:∃a b,P0 a b/\a6 a b/\bg a b/\P3 a b)(H:∀a b,P0 a b->a6 a b->bg a b->P3 a b->G):G:=d4 h λa h=>tG h (H a)
theorem h4(h:∃a b,P0 a b/\a6 a b/\bg a b/\P3 a b/\b7 a b)(H:∀a b,P0 a b->a6 a b->bg a b->P3 a b->b7 a b->G):G:=d4 h λa h=>G0 h (H a)
theorem jm(h:∃a b,P0 a b/\a6 a b/\bg a b/\P3 a b/\b7 a b/\cD a b)(H:∀a b,P0 a b->a6 a b->bg a b->P3 a b->b7 a b->cD a b->G):G:=d4 h λa h=>BL h (H a)
theorem NM(h:∃a b,P0 a b/\a6 a b/\bg a b/\P3 a b/\b7 a b/\cD a b/\dH a b)(H:∀a b,P0 a b->a6 a b->bg a b->P3 a b->b7 a b->cD a b->dH a b->G):G:=d4 h λa h=>NI h (H a)
theorem NN(h:∃a b,P0 a b/\a6 a b/\bg a b/\P3 a b/\b7 a b/\cD a b/\dH a b/\eA a b)(H:∀a b,P0 a b->a6 a b->bg a b->P3 a b->b7 a b->cD a b->dH a b->eA a b->G):G:=d4 h λa h=>NJ h (H a)
theorem NO(h:∃a b,P0 a b/\a6 a b/\bg a b/\P3 a b/\b7 a b/\cD a b/\dH a b/\eA a b/\f7 a b)(H:∀a b,P0 a b->a6 a b->bg a b->P3 a b->b7 a b->cD a b->dH a b->eA a b->f7 a b->G):G:=d4 h λa h=>NK h (H a)
theorem NP(h:∃a b,P0 a b/\a6 a b/\bg a b/\P3 a b/\b7 a b/\cD a b/\dH a b/\eA a b/\f7 a b/\P9 a b/\mU a b)(H:∀a b,P0 a b->a6 a b->bg a b->P3 a b->b7 a b->cD a b->dH a b->eA a b->f7 a b->P9 a b->mU a b->G):G:=d4 h λa h=>NL h (H a)
end
section
variable{d6 fj hq:Sort _}{P0 a6 bg P3 b7 cD dH eA f7 P9 mU:d6->fj->hq->Prop}{G:Prop}
theorem G1(h:∃a b c,P0 a b c)(H:∀a b c,P0 a b c->G):G:=d4 h λa h=>kG h (H a)
theorem fl(h:∃a b c,P0 a b c/\a6 a b c)(H:∀a b c,P0 a b c->a6 a b c->G):G:=d4 h λa h=>cS h (H a)
theorem eB(h:∃a b c,P0 a b c/\a6 a b c/\bg a b c)(H:∀a b c,P0 a b c->a6 a b c->bg a b c->G):G:=d4 h λa h=>hp h (H a)
theorem pV(h:∃a b c,P0 a b c/\a6 a b c/\bg a b c/\P3 a b c)(H:∀a b c,P0 a b c->a6 a b c->bg a b c->P3 a b c->G):G:=d4 h λa h=>fk h (H a)
theorem tH(h:∃a b c,P0 a b c/\a6 a b c/\bg a b c/\P3 a b c/\b7 a b c)(H:∀a b c,P0 a b c->a6 a b c->bg a b c->P3 a b c->b7 a b c->G):G:=d4 h λa h=>h4 h (H a)
theorem yl(h:∃a b c,P0 a b c/\a6 a b c/\bg a b c/\P3 a b c/\b7 a b c/\cD a b c)(H:∀a b c,P0 a b c->a6 a b c->bg a b c->P3 a b c->b7 a b c->cD a b c->G):G:=d4 h λa h=>jm h (H a)
theorem NQ(h:∃a b c,P0 a b c/\a6 a b c/\bg a b c/\P3 a b c/\b7 a b c/\cD a b c/\dH a b c)(H:∀a b c,P0 a b c->a6 a b c->bg a b c->P3 a b c->b7 a b c->cD a b c->dH a b c->G):G:=d4 h λa h=>NM h (H a)
theorem NR(h:∃a b c,P0 a b c/\a6 a b c/\bg a b c/\P3 a b c/\b7 a b c/\cD a b c/\dH a b c/\eA a b c)(H:∀a b c,P0 a b c->a6 a b c->bg a b c->P3 a b c->b7 a b c->cD a b c->dH a b c->eA a b c->G):G:=d4 h λa h=>NN h (H a)
theorem NS(h:∃a b c,P0 a b c/\a6 a b c/\bg a b c/\P3 a b c/\b7 a b c/\cD a b c/\dH a b c/\eA a b c/\f7 a b c)(H:∀a b c,P0 a b c->a6 a b c->bg a b c->P3 a b c->b7 a b c->cD a b c->dH a b c->eA a b c->f7 a b c->G):G:=d4 h λa h=>NO h (H a)
theorem rj(h:∃a b c,P0 a b c/\a6 a b c/\bg a b c/\P3 a b c/\b7 a b c/\cD a b c/\dH a b c/\eA a b c/\f7 a b c/\P9 a b c/\mU a b c)(H:∀a b c,P0 a b c->a6 a b c->bg a b c->P3 a b c->b7 a b c->cD a b c->dH a b c->eA a b c->f7 a b c->P9 a b c->mU a b c->G):G:=d4 h λa h=>NP h (H a)
end
section
variable{d6 fj hq lh:Sort _}{P0 a6 bg P3 b7 cD dH eA f7:d6->fj->hq->lh->Prop}{G:Prop}
theorem NT(h:∃a b c d,P0 a b c d)(H:∀a b c d,P0 a b c d->G):G:=d4 h λa h=>G1 h (H a)
theorem tI(h:∃a b c d,P0 a b c d/\a6 a b c d)(H:∀a b c d,P0 a b c d->a6 a b c d->G):G:=d4 h λa h=>fl h (H a)
theorem vG(h:∃a b c d,P0 a b c d/\a6 a b c d/\bg a b c d)(H:∀a b c d,P0 a b c d->a6 a b c d->bg a b c d->G):G:=d4 h λa h=>eB h (H a)
theorem ym(h:∃a b c d,P0 a b c d/\a6 a b c d/\bg a b c d/\P3 a b c d)(H:∀a b c d,P0 a b c d->a6 a b c d->bg a b c d->P3 a b c d->G):G:=d4 h λa h=>pV h (H a)
theorem vH(h:∃a b c d,P0 a b c d/\a6 a b c d/\bg a b c d/\P3 a b c d/\b7 a b c d/\cD a b c d)(H:∀a b c d,P0 a b c d->a6 a b c d->bg a b c d->P3 a b c d->b7 a b c d->cD a b c d->G):G:=d4 h λa h=>yl h (H a)
theorem vI(h:∃a b c d,P0 a b c d/\a6 a b c d/\bg a b c d/\P3 a b c d/\b7 a b c d/\cD a b c d/\dH a b c d)(H:∀a b c d,P0 a b c d->a6 a b c d->bg a b c d->P3 a b c d->b7 a b c d->cD a b c d->dH a b c d->G):G:=d4 h λa h=>NQ h (H a)
theorem G2(h:∃a b c d,P0 a b c d/\a6 a b c d/\bg a b c d/\P3 a b c d/\b7 a b c d/\cD a b c d/\dH a b c d/\eA a b c d)(H:∀a b c d,P0 a b c d->a6 a b c d->bg a b c d->P3 a b c d->b7 a b c d->cD a b c d->dH a b c d->eA a b c d->G):G:=d4 h λa h=>NR h (H a)
theorem NU(h:∃a b c d,P0 a b c d/\a6 a b c d/\bg a b c d/\P3 a b c d/\b7 a b c d/\cD a b c d/\dH a b c d/\eA a b c d/\f7 a b c d)(H:∀a b c d,P0 a b c d->a6 a b c d->bg a b c d->P3 a b c d->b7 a b c d->cD a b c d->dH a b c d->eA a b c d->f7 a b c d->G):G:=d4 h λa h=>NS h (H a)
end
section
variable{d6 fj hq lh tJ:Sort _}{P0 a6 bg P3 b7 cD dH eA f7:d6->fj->hq->lh->tJ->Prop}{G:Prop}
theorem NV(h:∃a b c d e,P0 a b c d e)(H:∀a b c d e,P0 a b c d e->G):G:=d4 h λa h=>NT h (H a)
theorem NW(h:∃a b c d e,P0 a b c d e/\a6 a b c d e/\bg a b c d e)(H:∀a b c d e,P0 a b c d e->a6 a b c d e->bg a b c d e->G):G:=d4 h λa h=>vG h (H a)
theorem NX(h:∃a b c d e,P0 a b c d e/\a6 a b c d e/\bg a b c d e/\P3 a b c d e)(H:∀a b c d e,P0 a b c d e->a6 a b c d e->bg a b c d e->P3 a b c d e->G):G:=d4 h λa h=>ym h (H a)
theorem G3(h:∃a b c d e,P0 a b c d e/\a6 a b c d e/\bg a b c d e/\P3 a b c d e/\b7 a b c d e/\cD a b c d e/\dH a b c d e/\eA a b c d e/\f7 a b c d e)(H:∀a b c d e,P0 a b c d e->a6 a b c d e->bg a b c d e->P3 a b c d e->b7 a b c d e->cD a b c d e->dH a b c d e->eA a b c d e->f7 a b c d e->G):G:=d4 h λa h=>NU h (H a)
end
theorem G4{d6 fj hq lh tJ NY:Sort _}{P0:d6->fj->hq->lh->tJ->NY->Prop}{G:Prop}(h:∃a b c d e f,P0 a b c d e f)(H:∀a b c d e f,P0 a b c d e f->G):G:=d4 h λa h=>NV h (H a)
@[elab_as_elim] theorem ab{aI:Sort _}{motive:aI->Prop}{a b:aI}(h:a=b)(x:motive b):motive a:=by rw[h];exact x
@[elab_as_elim] theorem bM{aI:Sort _}{motive:aI->Prop}{a b:aI}(h:b=a)(x:motive b):motive a:=by rw[<-h];exact x
theorem sn{aI:Type _}{a:aI}{G:Prop}(h:some a=none):G:=nomatch h
theorem ns{aI:Type _}{a:aI}{G:Prop}(h:none=some a):G:=nomatch h
theorem rk{G:Prop}(h:true=false):G:=nomatch h
section
variable{P0 a6 bg P3 b7:Prop}
theorem fs(h0:P0)(ae:a6)(af:bg):P0/\a6/\bg:=⟨h0,ae,af⟩
theorem h5(h0:P0)(ae:a6)(af:bg)(ax:P3):P0/\a6/\bg/\P3:=⟨h0,ae,af,ax⟩
theorem NZ(h0:P0)(ae:a6)(af:bg)(ax:P3)(a0:b7):P0/\a6/\bg/\P3/\b7:=⟨h0,ae,af,ax,a0⟩
end
section
variable{d6:Sort _}{P0 a6 bg P3 b7 cD:d6->Prop}
theorem yn(a:d6)(h0:P0 a):∃a,P0 a:=⟨a,h0⟩
theorem bq(a:d6)(h0:P0 a)(ae:a6 a):∃a,P0 a/\a6 a:=⟨a,h0,ae⟩
theorem fW(a:d6)(h0:P0 a)(ae:a6 a)(af:bg a):∃a,P0 a/\a6 a/\bg a:=⟨a,h0,ae,af⟩
theorem rl(a:d6)(h0:P0 a)(ae:a6 a)(af:bg a)(ax:P3 a):∃a,P0 a/\a6 a/\bg a/\P3 a:=⟨a,h0,ae,af,ax⟩
theorem N0(a:d6)(h0:P0 a)(ae:a6 a)(af:bg a)(ax:P3 a)(a0:b7 a):∃a,P0 a/\a6 a/\bg a/\P3 a/\b7 a:=⟨a,h0,ae,af,ax,a0⟩
theorem vJ(a:d6)(h0:P0 a)(ae:a6 a)(af:bg a)(ax:P3 a)(a0:b7 a)(cn:cD a):∃a,P0 a/\a6 a/\bg a/\P3 a/\b7 a/\cD a:=⟨a,h0,ae,af,ax,a0,cn⟩
end
section
variable{d6 fj:Sort _}{P0 a6 bg P3 b7 cD:d6->fj->Prop}
theorem tK(a:d6)(b:fj)(h0:P0 a b):∃a b,P0 a b:=⟨a,b,h0⟩
theorem eK(a:d6)(b:fj)(h0:P0 a b)(ae:a6 a b):∃a b,P0 a b/\a6 a b:=⟨a,b,h0,ae⟩
theorem iw(a:d6)(b:fj)(h0:P0 a b)(ae:a6 a b)(af:bg a b):∃a b,P0 a b/\a6 a b/\bg a b:=⟨a,b,h0,ae,af⟩
theorem rm(a:d6)(b:fj)(h0:P0 a b)(ae:a6 a b)(af:bg a b)(ax:P3 a b):∃a b,P0 a b/\a6 a b/\bg a b/\P3 a b:=⟨a,b,h0,ae,af,ax⟩
theorem nM(a:d6)(b:fj)(h0:P0 a b)(ae:a6 a b)(af:bg a b)(ax:P3 a b)(a0:b7 a b):∃a b,P0 a b/\a6 a b/\bg a b/\P3 a b/\b7 a b:=⟨a,b,h0,ae,af,ax,a0⟩
theorem BM(a:d6)(b:fj)(h0:P0 a b)(ae:a6 a b)(af:bg a b)(ax:P3 a b)(a0:b7 a b)(cn:cD a b):∃a b,P0 a b/\a6 a b/\bg a b/\P3 a b/\b7 a b/\cD a b:=⟨a,b,h0,ae,af,ax,a0,cn⟩
end
section
variable{d6 fj hq:Sort _}{P0 a6 bg P3 b7 cD:d6->fj->hq->Prop}
theorem mV(a:d6)(b:fj)(c:hq)(h0:P0 a b c)(ae:a6 a b c):∃a b c,P0 a b c/\a6 a b c:=⟨a,b,c,h0,ae⟩
theorem ix(a:d6)(b:fj)(c:hq)(h0:P0 a b c)(ae:a6 a b c)(af:bg a b c):∃a b c,P0 a b c/\a6 a b c/\bg a b c:=⟨a,b,c,h0,ae,af⟩
theorem tL(a:d6)(b:fj)(c:hq)(h0:P0 a b c)(ae:a6 a b c)(af:bg a b c)(ax:P3 a b c):∃a b c,P0 a b c/\a6 a b c/\bg a b c/\P3 a b c:=⟨a,b,c,h0,ae,af,ax⟩
theorem vK(a:d6)(b:fj)(c:hq)(h0:P0 a b c)(ae:a6 a b c)(af:bg a b c)(ax:P3 a b c)(a0:b7 a b c):∃a b c,P0 a b c/\a6 a b c/\bg a b c/\P3 a b c/\b7 a b c:=⟨a,b,c,h0,ae,af,ax,a0⟩
theorem BN(a:d6)(b:fj)(c:hq)(h0:P0 a b c)(ae:a6 a b c)(af:bg a b c)(ax:P3 a b c)(a0:b7 a b c)(cn:cD a b c):∃a b c,P0 a b c/\a6 a b c/\bg a b c/\P3 a b c/\b7 a b c/\cD a b c:=⟨a,b,c,h0,ae,af,ax,a0,cn⟩
end
section
variable{d6 fj hq lh:Sort _}{P0 a6 bg P3:d6->fj->hq->lh->Prop}
theorem N1(a:d6)(b:fj)(c:hq)(d:lh)(h0:P0 a b c d)(ae:a6 a b c d):∃a b c d,P0 a b c d/\a6 a b c d:=⟨a,b,c,d,h0,ae⟩
theorem yo(a:d6)(b:fj)(c:hq)(d:lh)(h0:P0 a b c d)(ae:a6 a b c d)(af:bg a b c d):∃a b c d,P0 a b c d/\a6 a b c d/\bg a b c d:=⟨a,b,c,d,h0,ae,af⟩
theorem G5(a:d6)(b:fj)(c:hq)(d:lh)(h0:P0 a b c d)(ae:a6 a b c d)(af:bg a b c d)(ax:P3 a b c d):∃a b c d,P0 a b c d/\a6 a b c d/\bg a b c d/\P3 a b c d:=⟨a,b,c,d,h0,ae,af,ax⟩
end
theorem N2{d6 fj hq lh tJ:Sort _}{P0 a6 bg P3:d6->fj->hq->lh->tJ->Prop}(a:d6)(b:fj)(c:hq)(d:lh)(e:tJ)(h0:P0 a b c d e)(ae:a6 a b c d e)(af:bg a b c d e)(ax:P3 a b c d e):∃a b c d e,P0 a b c d e/\a6 a b c d e/\bg a b c d e/\P3 a b c d e:=⟨a,b,c,d,e,h0,ae,af,ax⟩
section
variable{a b c d e f g i j k l m n:Bool}{G:Prop}
theorem f8(h:(a&&(b&&c))=true)(H:a=true->b=true->c=true->G):G:=(Bool.and_eq_true_iff.mp h).elim λp q=>(Bool.and_eq_true_iff.mp q).elim λr s=>H p r s
theorem tM(h:(a&&(b&&(c&&d)))=true)(H:a=true->b=true->c=true->d=true->G):G:=(Bool.and_eq_true_iff.mp h).elim λp q=>f8 q (H p)
theorem yp(h:(a&&(b&&(c&&(d&&e))))=true)(H:a=true->b=true->c=true->d=true->e=true->G):G:=(Bool.and_eq_true_iff.mp h).elim λp q=>tM q (H p)
theorem vL(h:(a&&(b&&(c&&(d&&(e&&f)))))=true)(H:a=true->b=true->c=true->d=true->e=true->f=true->G):G:=(Bool.and_eq_true_iff.mp h).elim λp q=>yp q (H p)
theorem BO(h:(a&&(b&&(c&&(d&&(e&&(f&&g))))))=true)(H:a=true->b=true->c=true->d=true->e=true->f=true->g=true->G):G:=(Bool.and_eq_true_iff.mp h).elim λp q=>vL q (H p)
theorem BP(h:(a&&(b&&(c&&(d&&(e&&(f&&(g&&i)))))))=true)(H:a=true->b=true->c=true->d=true->e=true->f=true->g=true->i=true->G):G:=(Bool.and_eq_true_iff.mp h).elim λp q=>BO q (H p)
theorem A9(h:(a&&(b&&(c&&(d&&(e&&(f&&(g&&(i&&j))))))))=true)(H:a=true->b=true->c=true->d=true->e=true->f=true->g=true->i=true->j=true->G):G:=(Bool.and_eq_true_iff.mp h).elim λp q=>BP q (H p)
theorem N3(h:(a&&(b&&(c&&(d&&(e&&(f&&(g&&(i&&(j&&k)))))))))=true)(H:a=true->b=true->c=true->d=true->e=true->f=true->g=true->i=true->j=true->k=true->G):G:=(Bool.and_eq_true_iff.mp h).elim λp q=>A9 q (H p)
theorem BQ(h:(a&&(b&&(c&&(d&&(e&&(f&&(g&&(i&&(j&&(k&&l))))))))))=true)(H:a=true->b=true->c=true->d=true->e=true->f=true->g=true->i=true->j=true->k=true->l=true->G):G:=(Bool.and_eq_true_iff.mp h).elim λp q=>N3 q (H p)
theorem N4(h:(a&&(b&&(c&&(d&&(e&&(f&&(g&&(i&&(j&&(k&&(l&&m)))))))))))=true)(H:a=true->b=true->c=true->d=true->e=true->f=true->g=true->i=true->j=true->k=true->l=true->m=true->G):G:=(Bool.and_eq_true_iff.mp h).elim λp q=>BQ q (H p)
theorem N5(h:(a&&(b&&(c&&(d&&(e&&(f&&(g&&(i&&(j&&(k&&(l&&(m&&n))))))))))))=true)(H:a=true->b=true->c=true->d=true->e=true->f=true->g=true->i=true->j=true->k=true->l=true->m=true->n=true->G):G:=(Bool.and_eq_true_iff.mp h).elim λp q=>N4 q (H p)
end
section
set_option genSizeOf false
set_option genSizeOfSpec false
set_option genInjectivity false
inductive V where
 |none|bool (b:Bool)|int (i:Int)|str (s:List Nat)
 |ref (id:Nat)
 |tup (l:List V)
 |aD (b:Nat) (l:List V)--a list adS adT turns any more;b bounds adU length
 |fn (f:Nat)
 deriving Inhabited
noncomputable def V.ctorIdx(v:V):Nat:= @V.casesOn (λx9=>Nat) v 0 (λx9=>1) (λx9=>2) (λx9=>3) (λx9=>4) (λx9=>5) (λx9 x9=>6) (λx9=>7)
inductive O where
 |inst (c b1:Nat) (Y:List (Nat×V))
 |list (b:Nat) (l:List V)
 |ba (b:Nat) (ah:List (List Nat×V))
 |ck (b:Nat) (ah:List (Int×V))
 deriving Inhabited
noncomputable def O.ctorIdx(v:O):Nat:= @O.casesOn (λx9=>Nat) v (λx9 x9 x9=>0) (λx9 x9=>1) (λx9 x9=>2) (λx9 x9=>3)
structure St where
 heap:Nat->Option O
 nx:Nat->Nat
 orc:List V--answers to adV
 log:Prop--N6 rn answers given l4 adW adX on
inductive Res(aI:Type)where
 |ok (a:aI) (z:St)
 |exc (z:St)
 |stuck
noncomputable def Res.ctorIdx{aI:Type}(v:Res aI):Nat:= @Res.casesOn aI (λx9=>Nat) v (λx9 x9=>0) (λx9=>1) 2
abbrev aK:=Nat->Option V
noncomputable def aK.set(C:aK)(x:Nat)(v:V):aK:=λy=>match Nat.beq y x with|true=>some v|false=>C y
noncomputable def St.dI(z:St)(k:Nat):Bool:=match Nat.blt k 64 with|true=>Nat.blt (z.nx k) 1024|false=>false
noncomputable def St.set(z:St)(id:Nat)(o:O):St:={z with heap:=λj=>match Nat.beq j id with|true=>some o|false=>z.heap j}
noncomputable def St.aT(z:St)(k:Nat):Nat:=k*1024+z.nx k
noncomputable def St.new(z:St)(k:Nat)(o:O):St:=
 {z with heap:=(λj=>match Nat.beq j (z.aT k)with|true=>some o|false=>z.heap j),nx:=λbF=>match Nat.beq bF k with|true=>z.nx k+1|false=>z.nx bF}
noncomputable def St.say(z:St)(p:Prop):St:={z with log:=z.log/\p}
noncomputable def St.empty:St:=⟨λx9=>none,λx9=>0,[],True⟩
noncomputable def Res.bind{aI bG:Type}(r:Res aI)(f:aI->St->Res bG):Res bG:=match r with
 | .ok a z=>f a z
 | .exc z=> .exc z
 | .stuck=> .stuck
inductive jL where
 |add|l5|sub|mod|eq|ne|vM|ro|gt|isNone|er|isin|l6|idx|rp|rq|rr
 |len|list|nN (tag:Nat)|sorted|l7|oH|append|pop
noncomputable def jL.ctorIdx(v:jL):Nat:= @jL.casesOn (λx9=>Nat) v 0 1 2 3 4 5 6 7 8 9 10 11 12 13 14 15 16 17 18 (λx9=>19) 20 21 22 23 24
inductive E where
 |val (v:V)
 |glob (g:Nat)
 |aa (x:Nat)
 |au (e:E) (a:Nat)
 |bh (f:Nat) (args:List E)
 |new (c:Nat) (args:List E)
 |newD (c:Nat) (vs:List V)
 |tN (e:E) (args:List E)
 |bi (b:jL) (args:List E)
 |e1 (b:jL) (o:E) (args:List E)
 |and (ah:List E)|or (ah:List E)|not (a:E)
 |ite (c a b:E)
 |tup (ah:List E)
 |aD (ah:List E)
 |g5 (tag:Nat) (ah:List E)
 |dict (tag:Nat) (nO:Bool) (kvs:List E)
 |comp (tag:Option Nat) (bP:E) (x:Nat) (iter:E) (cU:List E)
 |oI (bP:E) (x:Nat) (k:E)
 |nP (bP:E) (x:Nat) (iter:E) (y:Nat) (gQ:E) (cU:List E)
 |kH (tag:Nat) (k v:E) (x:Nat) (iter:E)
 |rep (x k:E)
 |li (x y:Nat)
 |stuck
inductive S where
 |assign (x:Nat) (e:E)
 |unpack (xs:List Nat) (e:E)
 |a7 (o:E) (a:Nat) (e:E)
 |tO (o:E) (a:Nat) (bS:E) (aX:Nat) (e:E)
 |i0 (o i e:E)
 |lj (x:Nat) (e:E)
 |pW (o:E) (a:Nat) (e:E)
 |rt (o i e:E)
 |expr (e:E)
 |ite (c:E) (t f:List S)
 |i1 (c:E) (b:List S)
 |eL (x:Nat) (e:E) (b:List S)
 |forR (x:Nat) (k:E) (b:List S)
 |ret (e:E)
 |cont
 |raise (args:List E)
 |tP (e:E)
 |blk (i:Nat)
 |stuck
inductive cg where
 |next|cont|ret (v:V)
noncomputable def cg.ctorIdx(v:cg):Nat:= @cg.casesOn (λx9=>Nat) v 0 1 (λx9=>2)
structure bT where
 fn:Nat->List V->St->Res V
 blk:Nat->aK->St->Res (cg×aK)
structure cu where
 params:List Nat
 body:List S
 deriving Inhabited
noncomputable def el:List Nat->List Nat->Bool
 |[],[]=>true
 |a::r,b::t=>match Nat.beq a b with|true=>el r t|false=>false
 |_,_=>false
noncomputable def eC(a b:Int):Bool:=match a,b with
 | .ofNat m, .ofNat n=>Nat.beq m n
 | .negSucc m, .negSucc n=>Nat.beq m n
 |_,_=>false
noncomputable def vN:Bool->Bool->Bool
 |true,b=>b
 |false,true=>false
 |false,false=>true
def tQ(x y:V):Option Bool:=match x with
 | .none=>match y with
  | .none=>some true
  | .str _=>some false
  | .int _=>some false
  |_=>none
 | .str a=>match y with
  | .none=>some false
  | .str b=>some (el a b)
  |_=>none
 | .int a=>match y with
  | .none=>some false
  | .int b=>some (eC a b)
  |_=>none
 | .bool a=>match y with
  | .bool b=>some (vN a b)
  |_=>none
 |_=>none
def ru(x y:V):Option Bool:=match x with
 | .str a=>match y with
  | .str b=>some (el a b)
  |_=>none
 | .int a=>match y with
  | .int b=>some (eC a b)
  |_=>none
 |_=>none
def oJ:List V->List V->Option Bool
 |[],[]=>some true
 |a::r,b::t=>match ru a b with
  |some x=>match oJ r t with
   |some y=>some (x&&y)
   |none=>none
  |none=>none
 |_,_=>some false
noncomputable def g6(z:St):V->Option (Nat×List V)
 | .aD b l=>some (b,l)
 | .ref id=>match z.heap id with
  |some (.list b l)=>some (b,l)
  |_=>none
 |_=>none
noncomputable def oK:List V->List V->Bool
 |[],[]=>true
 |_::r,_::t=>oK r t
 |_,_=>false
def ke(l m:List V):Option Bool:=match oK l m with
 |true=>oJ l m
 |false=>some false
def l8(z:St)(a b:V):Option Bool:=match g6 z a with
 |some (_,l)=>match g6 z b with
  |some (_,m)=>ke l m
  |none=>none
 |none=>tQ a b
def c7(k:List Nat):List (List Nat×V)->Option V
 |[]=>none
 |(bF,v)::r=>match el bF k with|true=>some v|false=>c7 k r
def jM(k:Int):List (Int×V)->Option V
 |[]=>none
 |(bF,v)::r=>match eC bF k with|true=>some v|false=>jM k r
def fJ(k:List Nat)(v:V):List (List Nat×V)->List (List Nat×V)
 |[]=>[(k,v)]
 |(bF,v')::r=>match el bF k with|true=>(bF,v)::r|false=>(bF,v')::fJ k v r
def ma(k:Int)(v:V):List (Int×V)->List (Int×V)
 |[]=>[(k,v)]
 |(bF,v')::r=>match eC bF k with|true=>(bF,v)::r|false=>(bF,v')::ma k v r
def ll(s:List Nat):List V->Option Bool
 |[]=>some false
 | .str t::r=>match ll s r with
  |some b=>some (el t s||b)
  |none=>none
 |_=>none
def tR(n:Int):List V->Option Bool
 |[]=>some false
 | .int t::r=>match tR n r with
  |some b=>some (eC t n||b)
  |none=>none
 |_=>none
noncomputable def vO(c:Nat):List Nat->Bool
 |[]=>false
 |a::t=>match Nat.beq c a with|true=>true|false=>vO c t
noncomputable def oL(k:List Nat->Option Bool):V->Option Bool
 | .str s=>k s
 |_=>none
noncomputable def vP(k:Int->Option Bool):V->Option Bool
 | .int s=>k s
 |_=>none
noncomputable def N7(k:Nat->Option Bool):List Nat->Option Bool
 |[]=>none
 |c::r=>match r with|[]=>k c|_::_=>none
def yq(a:V)(l:List V):Option Bool:=match a with
 | .int n=>tR n l
 | .str s=>ll s l
 |_=>none
def lm(z:St)(a b:V):Option Bool:=match b with
 | .tup l=>oL (λs=>ll s l) a
 | .aD _ l=>oL (λs=>ll s l) a
 | .str t=>oL (λs=>N7 (λc=>some (vO c t)) s) a
 | .ref id=>match z.heap id with
  |some o=>match o with
   | .ba _ ah=>oL (λs=>some (c7 s ah).isSome) a
   | .ck _ ah=>vP (λn=>some (jM n ah).isSome) a
   | .list _ l=>yq a l
   | .inst .. =>none
  |none=>none
 |_=>none
noncomputable def em{aI:Type}(o:Option aI)(z:St):Res aI:=match o with
 |some a=> .ok a z
 |none=> .stuck
noncomputable def oM:List Nat->List Nat->Bool
 |[],_=>true
 |_::_,[]=>false
 |a::r,b::t=>match Nat.blt a b with
  |true=>true
  |false=>match Nat.blt b a with
   |true=>false
   |false=>oM r t
def tS(s:List Nat):List (List Nat)->List (List Nat)
 |[]=>[s]
 |a::r=>match oM s a with|true=>s::a::r|false=>a::tS s r
def rv:List (List Nat)->List (List Nat)
 |[]=>[]
 |a::r=>tS a (rv r)
noncomputable def hr:Nat->List V
 |0=>[]
 |n+1=>hr n++[.int (.ofNat n)]
noncomputable def small(n:Nat):Bool:=Nat.ble n 10000
noncomputable def tT(a b:Int):Bool:=match b-a with
 | .negSucc _=>true
 | .ofNat _=>false
noncomputable def yr:V->Bool
 | .none=>true
 |_=>false
noncomputable def G6:V->Bool
 | .none=>false
 |_=>true
noncomputable def dA(k:V->Res V):List V->Res V
 |[]=> .stuck
 |a::r=>match r with|[]=>k a|_::_=> .stuck
def cP(k:V->V->Res V):List V->Res V
 |[]=> .stuck
 |a::r=>dA (k a) r
def G7(k:V->V->V->Res V):List V->Res V
 |[]=> .stuck
 |a::r=>cP (k a) r
noncomputable def h6(k:Int->Res V):V->Res V
 | .int i=>k i
 |_=> .stuck
def hG(k:Nat->Res V)(v:V):Res V:=h6 (λi=>match i with| .ofNat n=>k n| .negSucc _=> .stuck) v
noncomputable def pX(k:List Nat->Res V):V->Res V
 | .str s=>k s
 |_=> .stuck
noncomputable def rx(k:Nat->List V->Res V):V->Res V
 | .aD b l=>k b l
 |_=> .stuck
noncomputable def oN(z:St)(k:Nat->O->Res V):V->Res V
 | .ref id=>match z.heap id with
  |some o=>k id o
  |none=> .stuck
 |_=> .stuck
noncomputable def vQ(k:Nat->List V->Res V):O->Res V
 | .list b l=>k b l
 |_=> .stuck
noncomputable def BR(k:Nat->List (List Nat×V)->Res V):O->Res V
 | .ba b ah=>k b ah
 |_=> .stuck
noncomputable def BS(oO:Nat->List (List Nat×V)->Res V)(vR:Nat->List (Int×V)->Res V):O->Res V
 | .ba b ah=>oO b ah
 | .ck b ah=>vR b ah
 |_=> .stuck
noncomputable def ry(z:St)(k:V->St->Res V):Res V:=match z.orc with
 |v::bU=>k v {z with orc:=bU}
 |[]=> .stuck
noncomputable def dr(c:Bool)(r:Res V):Res V:=match c with|true=>r|false=> .stuck
noncomputable def g7{aI:Type}(o:Option aI)(k:aI->Res V):Res V:=match o with|some a=>k a|none=> .stuck
def ys(z:St)(x y:V):Res V:=match x with
 | .int a=>h6 (λb=> .ok (.int (a+b)) z) y
 | .str a=>pX (λb=>dr (small a.length&&small b.length) (.ok (.str (a++b)) z)) y
 |_=>g7 (g6 z x) λp=>g7 (g6 z y) λq=>dr (small (p.1+q.1)) (.ok (.aD (p.1+q.1) (p.2++q.2)) z)
def N8(z:St)(x y:V):Res V:=g7 (g6 z x) λp=>g7 (g6 z y) λq=>dr (small p.1&&small q.1) (ry z λv z=>hG (λb=> .ok (.aD b (p.2++q.2)) (z.say (p.2.length+q.2.length<=b))) v)
def BU(z:St)(x y:V):Res V:=h6 (λa=>hG (λn=>match n with|0=> .stuck|n+1=> .ok (.int (a%(.ofNat (n+1)))) z) y) x
def BV(z:St)(f:Bool->Bool)(x y:V):Res V:=rx (λx9 l=>rx (λx9 m=>ry z λv z=>match v with| .bool r=> .ok (.bool r) (z.say (ke l m=some (f r)))|_=> .stuck) y) x
def rz(z:St)(o i:V):Res V:=match o with
 | .aD b l=>hG (λn=>dr (small b) (em (l[n]?) z)) i
 | .tup l=>hG (λn=>dr (small l.length) (em (l[n]?) z)) i
 | .str s=>hG (λn=>dr (small s.length) (em ((s[n]?).map λc=> .str [c]) z)) i
 | .ref id=>g7 (z.heap id) λo=>match o with
  | .list b l=>hG (λn=>dr (small b) (em (l[n]?) z)) i
  | .ba _ ah=>pX (λs=>em (c7 s ah) z) i
  | .ck _ ah=>h6 (λn=>em (jM n ah) z) i
  | .inst .. => .stuck
 |_=> .stuck
def N9(z:St)(x y:V):Res V:=rx (λb l=>h6 (λk=>dr (small b) (ry z λv z=>rx (λcV m=> .ok (.aD cV m) (z.say (∃j:Nat,k=Int.ofNat j/\m=l.drop j/\m.length<=cV))) v)) y) x
def yt(z:St)(x:V):Res V:=match x with
 | .aD b l=>dr (small b) (.ok (.int (.ofNat l.length)) z)
 | .tup l=>dr (small l.length) (.ok (.int (.ofNat l.length)) z)
 | .ref id=>g7 (z.heap id) λo=>match o with
  | .list b l=>dr (small b) (.ok (.int (.ofNat l.length)) z)
  | .ba b ah=>dr (small b) (.ok (.int (.ofNat ah.length)) z)
  | .ck b ah=>dr (small b) (.ok (.int (.ofNat ah.length)) z)
  | .inst .. => .stuck
 |_=> .stuck
def Oa(tag:Nat)(z:St)(x:V):Res V:=oN z (λx9 o=>BR (λx9 ah=>match ah with|[]=> .ok (.ref (z.aT tag)) (z.new tag (.ba 0 []))|_::_=> .stuck) o) x
def Ob(z:St)(x:V):Res V:=oN z (λx9 o=>BR (λb ah=>dr (Nat.blt b 64) (.ok (.aD b ((rv (ah.map (·.1))).map .str)) z)) o) x
def Oc(z:St)(x k d:V):Res V:=oN z (λx9 o=>BS (λx9 ah=>pX (λs=> .ok ((c7 s ah).getD d) z) k) (λx9 ah=>h6 (λn=> .ok ((jM n ah).getD d) z) k) o) x
noncomputable def BW(o:Option V)(z:St)(d:V)(σ':St):Res V:=match o with|some v=> .ok v z|none=> .ok d σ'
def Od(z:St)(x k d:V):Res V:=oN z (λid o=>BS
 (λb ah=>pX (λs=>dr (small b) (BW (c7 s ah) z d (z.set id (.ba (b+1) (fJ s d ah))))) k)
 (λb ah=>h6 (λn=>dr (small b) (BW (jM n ah) z d (z.set id (.ck (b+1) (ma n d ah))))) k) o) x
def vS(z:St)(x v:V):Res V:=oN z (λid o=>vQ (λb l=>dr (small b) (.ok .none (z.set id (.list (b+1) (l++[v]))))) o) x
def yu(z:St)(x:V):Res V:=oN z (λid o=>vQ (λb l=>dr (small b) (g7 l.getLast? λv=> .ok v (z.set id (.list b l.dropLast)))) o) x
def bi(b:jL)(args:List V)(z:St):Res V:=match b with
 | .add=>cP (ys z) args
 | .l5=>cP (N8 z) args
 | .sub=>cP (λx y=>h6 (λa=>h6 (λb=> .ok (.int (a-b)) z) y) x) args
 | .mod=>cP (BU z) args
 | .eq=>cP (λx y=>em ((l8 z x y).map .bool) z) args
 | .ne=>cP (λx y=>em ((l8 z x y).map λr=> .bool !r) z) args
 | .vM=>cP (BV z λr=>r) args
 | .ro=>cP (BV z λr=>!r) args
 | .gt=>cP (λx y=>h6 (λa=>h6 (λb=> .ok (.bool (tT a b)) z) y) x) args
 | .isNone=>dA (λx=> .ok (.bool (yr x)) z) args
 | .er=>dA (λx=> .ok (.bool (G6 x)) z) args
 | .isin=>cP (λx y=>em ((lm z x y).map .bool) z) args
 | .l6=>cP (λx y=>em ((lm z x y).map λr=> .bool !r) z) args
 | .idx=>cP (rz z) args
 | .rp=>cP (N9 z) args
 | .rq=>cP (λx y=>rx (λb l=>hG (λk=> .ok (.aD b (l.drop k)) z) y) x) args
 | .rr=>cP (λx y=>rx (λb l=>hG (λk=>dr (small b) (.ok (.aD b (l.take k)) z)) y) x) args
 | .len=>dA (yt z) args
 | .list=>dA (λx=>g7 (g6 z x) λp=>dr (small p.1) (.ok (.aD p.1 p.2) z)) args
 | .nN tag=>dA (Oa tag z) args
 | .sorted=>dA (Ob z) args
 | .l7=>G7 (Oc z) args
 | .oH=>G7 (Od z) args
 | .append=>cP (vS z) args
 | .pop=>dA (yu z) args
noncomputable def yv(z:St):V->Bool
 | .ref id=>match z.heap id with
  |some (.ba _ _)=>true
  |some (.ck _ _)=>true
  |_=>false
 |_=>false
noncomputable def rA(z:St):V->Bool
 | .ref id=>match z.heap id with
  |some (.list _ _)=>true
  |_=>false
 |_=>false
def rB(b:jL)(z:St)(x:V):Bool:=match b with
 | .l7=>yv z x
 | .oH=>yv z x
 | .append=>rA z x
 | .pop=>rA z x
 |_=>false
noncomputable def dk(a:Nat):List (Nat×V)->Option V
 |[]=>none
 |(b,v)::r=>match Nat.beq b a with|true=>some v|false=>dk a r
noncomputable def pY(a:Nat)(v:V):List (Nat×V)->List (Nat×V)
 |[]=>[(a,v)]
 |(b,w)::r=>match Nat.beq b a with|true=>(a,v)::r|false=>(b,w)::pY a v r
def tU(v:V)(a:Nat)(z:St):Res V:=match v with
 | .ref id=>match z.heap id with
  |some (.inst _ _ Y)=>em (dk a Y) z
  |_=> .stuck
 |_=> .stuck
def mb(o:V)(a:Nat)(v:V)(z:St):Res Unit:=match o with
 | .ref id=>match z.heap id with
  |some (.inst c b1 Y)=>match Nat.ble b1 900 with
   |true=>match dk a Y with
    |some be=> .ok () (z.set id (.inst c b1 (pY a v Y)))
    |none=> .ok () (z.set id (.inst c (b1+1) (pY a v Y)))
   |false=> .stuck
  |_=> .stuck
 |_=> .stuck
def iy(o i v:V)(z:St):Res Unit:=match o with
 | .ref id=>match z.heap id with
  |some (.ba b ah)=>match i with
   | .str s=>match small b with|true=> .ok () (z.set id (.ba (b+1) (fJ s v ah)))|false=> .stuck
   |_=> .stuck
  |some (.ck b ah)=>match i with
   | .int n=>match small b with|true=> .ok () (z.set id (.ck (b+1) (ma n v ah)))|false=> .stuck
   |_=> .stuck
  |_=> .stuck
 |_=> .stuck
def nQ(old v:V)(z:St):Res V:=match old with
 | .int a=>match v with
  | .int b=> .ok (.int (a+b)) z
  |_=> .stuck
 | .ref id=>match z.heap id with
  |some (.list p l)=>match g6 z v with
   |some (q,m)=>match small (p+q)with|true=> .ok (.ref id) (z.set id (.list (p+q) (l++m)))|false=> .stuck
   |none=> .stuck
  |_=> .stuck
 |_=> .stuck
noncomputable def truth:V->Option Bool
 | .bool b=>some b
 |_=>none
noncomputable def Res.cx{aI:Type}:Res aI->Res aI
 | .ok a z=> .ok a z
 | .exc _=> .stuck
 | .stuck=> .stuck
noncomputable def jn(v:V)(acc:List V)(z:St):Res (List V):=match Nat.blt acc.length 10000 with
 |true=> .ok (acc++[v]) z
 |false=> .stuck
def dN(turn:V->aK->St->Res (cg×aK)):List V->aK->St->Res (cg×aK)
 |[],C,z=> .ok (.next,C) z
 |v::r,C,z=>(turn v C z).bind λx z=>match x.1 with
  | .ret w=> .ok (.ret w,x.2) z
  |_=>dN turn r x.2 z
def iz(turn:V->aK->St->Res (cg×aK))(id:Nat):Nat->Nat->aK->St->Res (cg×aK)
 |0,_,_,_=> .stuck
 |n+1,j,C,z=>match z.heap id with
  |some (.list _ l)=>match l[j]?with
   |none=> .ok (.next,C) z
   |some v=>(turn v C z).bind λx z=>match x.1 with
    | .ret w=> .ok (.ret w,x.2) z
    |_=>iz turn id n (j+1) x.2 z
  |_=> .stuck
def jN(test:aK->St->Res V)(body:aK->St->Res (cg×aK)):Nat->aK->St->Res (cg×aK)
 |0,_,_=> .stuck
 |n+1,C,z=>(test C z).cx.bind λb z=>match truth b with
  |some true=>(body C z).cx.bind λx z=>match x.1 with
   | .ret w=> .ok (.ret w,x.2) z
   |_=>jN test body n x.2 z
  |some false=> .ok (.next,C) z
  |none=> .stuck
noncomputable def kf(turn:V->List V->St->Res (List V)):List V->List V->St->Res (List V)
 |[],acc,z=> .ok acc z
 |v::r,acc,z=>(turn v acc z).bind λacc z=>kf turn r acc z
noncomputable def pZ(turn:V->List V->St->Res (List V))(id:Nat):Nat->Nat->List V->St->Res (List V)
 |0,_,_,_=> .stuck
 |n+1,j,acc,z=>match z.heap id with
  |some (.list _ l)=>match l[j]?with
   |none=> .ok acc z
   |some v=>(turn v acc z).bind λacc z=>pZ turn id n (j+1) acc z
  |_=> .stuck
def h7(turn:V->List V->St->Res (List V))(it:V)(acc:List V)(z:St):Res (List V):=match it with
 | .aD _ l=>kf turn l acc z
 | .ref id=>match z.heap id with
  |some (.list _ _)=>pZ turn id 200 0 acc z
  |_=> .stuck
 |_=> .stuck
noncomputable def kg:List Nat->List V->aK->Option aK
 |[],[],C=>some C
 |x::xs,v::vs,C=>kg xs vs (C.set x v)
 |_,_,_=>none
structure ca where
 fns:Nat->cu
 BX:Nat->V
 g8:Nat->Nat
 vT:Nat->List S
def condB{aI:Type}(v:V)(t f:Res aI):Res aI:=match truth v with
 |some true=>t
 |some false=>f
 |none=> .stuck
mutual
def az(P:ca)(F:bT):E->aK->St->Res V
 | .val v,_,z=> .ok v z
 | .glob g,_,z=> .ok (P.BX g) z
 | .aa x,C,z=>em (C x) z
 | .au e a,C,z=>(az P F e C z).bind λv z=>tU v a z
 | .bh f args,C,z=>(de P F args C z).bind λvs z=>F.fn f vs z
 | .new c args,C,z=>(de P F args C z).bind λvs z=>match z.dI c with
   |true=>(F.fn (P.g8 c) (.ref (z.aT c)::vs) (z.new c (.inst c 0 []))).bind λr σ'=>match r with
    | .none=> .ok (.ref (z.aT c)) σ'
    |_=> .stuck
   |false=> .stuck
 | .newD c vs,_,z=>match z.dI c with
   |true=>(F.fn (P.g8 c) (.ref (z.aT c)::vs) (z.new c (.inst c 0 []))).bind λr σ'=>match r with
    | .none=> .ok (.ref (z.aT c)) σ'
    |_=> .stuck
   |false=> .stuck
 | .tN e args,C,z=>(az P F e C z).bind λf z=>(de P F args C z).bind λvs z=>match f with
   | .fn f=>F.fn f vs z
   |_=> .stuck
 | .bi b args,C,z=>(de P F args C z).bind λvs z=>match b with
   | .nN tag=>match z.dI tag with
    |true=>Mine.Tactic.bi b vs z
    |false=> .stuck
   |_=>Mine.Tactic.bi b vs z
 | .e1 b o args,C,z=>(az P F o C z).bind λx z=>match rB b z x with
   |true=>(de P F args C z).bind λvs z=>Mine.Tactic.bi b (x::vs) z
   |false=> .stuck
 | .and ah,C,z=>mc P F ah C z
 | .or ah,C,z=>p0 P F ah C z
 | .not a,C,z=>(az P F a C z).bind λv z=>condB v (.ok (.bool false) z) (.ok (.bool true) z)
 | .ite c a b,C,z=>(az P F c C z).bind λv z=>condB v (az P F a C z) (az P F b C z)
 | .tup ah,C,z=>(de P F ah C z).bind λvs z=>match small vs.length with
   |true=> .ok (.tup vs) z
   |false=> .stuck
 | .aD ah,C,z=>(de P F ah C z).bind λvs z=>match small vs.length with
   |true=> .ok (.aD vs.length vs) z
   |false=> .stuck
 | .g5 tag ah,C,z=>(de P F ah C z).bind λvs z=>match small vs.length&&z.dI tag with
   |true=> .ok (.ref (z.aT tag)) (z.new tag (.list vs.length vs))
   |false=> .stuck
 | .dict tag nO kvs,C,z=>match kvs with
   |[]=>match z.dI tag with
    |true=>match nO with
     |true=> .ok (.ref (z.aT tag)) (z.new tag (.ck 0 []))
     |false=> .ok (.ref (z.aT tag)) (z.new tag (.ba 0 []))
    |false=> .stuck
   |_=>match nO with
    |true=> .stuck
    |false=>(p3 P F kvs C z).bind λah z=>match z.dI tag with
     |true=> .ok (.ref (z.aT tag)) (z.new tag (.ba ah.length ah))
     |false=> .stuck
 | .comp tag bP x iter cU,C,z=>(az P F iter C z).bind λit z=>
   (h7 (λw acc z=>(jO P F cU (C.set x w) z).bind λb z=>match b with
    |true=>(az P F bP (C.set x w) z).bind λv z=>jn v acc z
    |false=> .ok acc z) it [] z).cx.bind λl z=>match tag with
   |some tag=>match z.dI tag with
    |true=> .ok (.ref (z.aT tag)) (z.new tag (.list l.length l))
    |false=> .stuck
   |none=> .ok (.aD l.length l) z
 | .oI bP x k,C,z=>(az P F k C z).bind λdY z=>match dY with
   | .int (.ofNat j)=>match small j with
    |true=>(kf (λw acc z=>(az P F bP (C.set x w) z).bind λv z=>jn v acc z) (hr j) [] z).cx.bind λl z=> .ok (.aD l.length l) z
    |false=> .stuck
   |_=> .stuck
 | .nP bP x iter y gQ cU,C,z=>match C y with
  |some be=> .stuck
  |none=>(az P F iter C z).bind λit z=>
   (h7 (λw acc z=>(az P F gQ (C.set x w) z).bind λit2 z=>
    h7 (λu acc z=>(jO P F cU ((C.set x w).set y u) z).bind λb z=>match b with
     |true=>(az P F bP ((C.set x w).set y u) z).bind λv z=>jn v acc z
     |false=> .ok acc z) it2 acc z) it [] z).cx.bind λl z=> .ok (.aD l.length l) z
 | .kH tag k v x iter,C,z=>(az P F iter C z).bind λit z=>match it with
   | .aD _ items=>match z.dI tag with
    |true=>(dN (λw x9 σ'=>(az P F k (C.set x w) σ').bind λdY σ'=>(az P F v (C.set x w) σ').bind λjP σ'=>
     (iy (.ref (z.aT tag)) dY jP σ').bind λx9 σ'=> .ok (.next,C) σ') items C (z.new tag (.ba 0 []))).cx.bind λx9 σ'=> .ok (.ref (z.aT tag)) σ'
    |false=> .stuck
   |_=> .stuck
 | .rep x k,C,z=>(az P F x C z).bind λv z=>(az P F k C z).bind λdY z=>match dY with
   | .int (.ofNat 1)=> .ok (.aD 1 [v]) z
   | .int (.ofNat 2)=> .ok (.aD 2 [v,v]) z
   |_=> .stuck
 | .li x y,C,z=>match Nat.beq x y with
   |true=> .stuck
   |false=>match C x with
    |some (.ref id)=>match z.heap id with
     |some (.ck b ah)=>match small b with|true=> .ok (.aD ah.length (ah.map λp=>p.2)) z|false=> .stuck
     |_=> .stuck
    |_=> .stuck
 | .stuck,_,_=> .stuck
def de(P:ca)(F:bT):List E->aK->St->Res (List V)
 |[],_,z=> .ok [] z
 |e::r,C,z=>(az P F e C z).bind λv z=>(de P F r C z).bind λvs z=> .ok (v::vs) z
def mc(P:ca)(F:bT):List E->aK->St->Res V
 |[],_,_=> .stuck
 |e::r,C,z=>match r with
  |[]=>az P F e C z
  |_=>(az P F e C z).bind λv z=>condB v (mc P F r C z) (.ok (.bool false) z)
def p0(P:ca)(F:bT):List E->aK->St->Res V
 |[],_,_=> .stuck
 |e::r,C,z=>match r with
  |[]=>az P F e C z
  |_=>(az P F e C z).bind λv z=>condB v (.ok (.bool true) z) (p0 P F r C z)
def p3(P:ca)(F:bT):List E->aK->St->Res (List (List Nat×V))
 |[],_,z=> .ok [] z
 |[_],_,_=> .stuck
 |k::v::r,C,z=>(az P F k C z).bind λdY z=>(az P F v C z).bind λjP z=>(p3 P F r C z).bind λah z=>match dY with
   | .str s=>match c7 s ah with
    |none=> .ok ((s,jP)::ah) z
    |some be=> .stuck
   |_=> .stuck
def jO(P:ca)(F:bT):List E->aK->St->Res Bool
 |[],_,z=> .ok true z
 |c::r,C,z=>(az P F c C z).bind λv z=>condB v (jO P F r C z) (.ok false z)
end
noncomputable def yw:Nat:=60
mutual
def c6(P:ca)(F:bT):S->aK->St->Res (cg×aK)
 | .assign x e,C,z=>(az P F e C z).bind λv z=> .ok (.next,C.set x v) z
 | .unpack xs e,C,z=>(az P F e C z).bind λv z=>match v with
   | .tup l=>match kg xs l C with
    |some bJ=> .ok (.next,bJ) z
    |none=> .stuck
   |_=> .stuck
 | .a7 o a e,C,z=>(az P F e C z).bind λv z=>(az P F o C z).bind λbN z=>(mb bN a v z).bind λx9 z=> .ok (.next,C) z
 | .tO o a bS aX e,C,z=>(az P F e C z).bind λv z=>match v with
   | .tup [cl,cA]=>(az P F o C z).bind λbN z=>(mb bN a cl z).bind λx9 z=>(az P F bS C z).bind λbN z=>(mb bN aX cA z).bind λx9 z=> .ok (.next,C) z
   |_=> .stuck
 | .i0 o i e,C,z=>(az P F e C z).bind λv z=>(az P F o C z).bind λbN z=>(az P F i C z).bind λfE z=>(iy bN fE v z).bind λx9 z=> .ok (.next,C) z
 | .lj x e,C,z=>match C x with
   |some old=>(az P F e C z).bind λv z=>(nQ old v z).bind λr z=> .ok (.next,C.set x r) z
   |none=> .stuck
 | .pW o a e,C,z=>(az P F o C z).bind λbN z=>(tU bN a z).bind λold z=>(az P F e C z).bind λv z=>(nQ old v z).bind λr z=>(mb bN a r z).bind λx9 z=> .ok (.next,C) z
 | .rt o i e,C,z=>(az P F o C z).bind λbN z=>(az P F i C z).bind λfE z=>(Mine.Tactic.bi .idx [bN,fE] z).bind λold z=>(az P F e C z).bind λv z=>(nQ old v z).bind λr z=>(iy bN fE r z).bind λx9 z=> .ok (.next,C) z
 | .expr e,C,z=>(az P F e C z).bind λx9 z=> .ok (.next,C) z
 | .ite c t f,C,z=>(az P F c C z).bind λv z=>condB v (bc P F t C z) (bc P F f C z)
 | .i1 c b,C,z=>jN (λC z=>az P F c C z) (λC z=>bc P F b C z) yw C z
 | .eL x e b,C,z=>(az P F e C z).bind λit z=>match it with
   | .aD _ l=>dN (λv C z=>bc P F b (C.set x v) z) l C z
   | .tup l=>dN (λv C z=>bc P F b (C.set x v) z) l C z
   | .ref id=>match z.heap id with
    |some (.list _ _)=>iz (λv C z=>bc P F b (C.set x v) z) id 200 0 C z
    |some (.ba _ [])=> .ok (.next,C) z
    |_=> .stuck
   |_=> .stuck
 | .forR x k b,C,z=>(az P F k C z).bind λdY z=>match dY with
   | .int (.ofNat j)=>match small j with
    |true=>dN (λv C z=>bc P F b (C.set x v) z) (hr j) C z
    |false=> .stuck
   |_=> .stuck
 | .ret e,C,z=>(az P F e C z).bind λv z=> .ok (.ret v,C) z
 | .cont,C,z=> .ok (.cont,C) z
 | .raise args,C,z=>(de P F args C z).bind λvs z=>match vs with
   |[.int _, .str _]=> .exc z
   |_=> .stuck
 | .tP e,C,z=>match az P F e C z with
   | .ok v z=> .ok (.ret v,C) z
   | .exc z=> .ok (.ret .none,C) z
   | .stuck=> .stuck
 | .blk i,C,z=>F.blk i C z
 | .stuck,_,_=> .stuck
def bc(P:ca)(F:bT):List S->aK->St->Res (cg×aK)
 |[],C,z=> .ok (.next,C) z
 |s::r,C,z=>(c6 P F s C z).bind λx z=>match x.1 with
   | .next=>bc P F r x.2 z
   |_=> .ok x z
end
def dO(P:ca)(F:bT)(f:Nat)(args:List V)(z:St):Res V:=match kg (P.fns f).params args (λx9=>none)with
  |some C=>(bc P F (P.fns f).body C z).bind λx z=>match x.1 with
   | .ret v=> .ok v z
   | .next=> .ok .none z
   | .cont=> .stuck
  |none=> .stuck
def rC(P:ca)(F:bT)(i:Nat)(C:aK)(z:St):Res (cg×aK):=bc P F (P.vT i) C z
structure Oe where
 en:Nat
 fn:Nat->Option (List V->St->Res V)
 blk:Nat->Option (aK->St->Res (cg×aK))
def G8(P:ca)(W:Oe):Nat->bT
 |0=>⟨λx9 x9 x9=> .stuck,λx9 x9 x9=> .stuck⟩
 |n+1=>⟨λf args z=>match W.fn f with
   |some g=>match Nat.ble W.en (n+1)with|true=>g args z|false=> .stuck
   |none=>dO P (G8 P W n) f args z,
  λi C z=>match W.blk i with
   |some g=>match Nat.ble W.en (n+1)with|true=>g C z|false=> .stuck
   |none=>rC P (G8 P W n) i C z⟩
section
variable{z σ':St}{a b v w x y:V}{r t l m:List V}{id n j k p q:Nat}{C bJ:aK}{ah:List (List Nat×V)}{s u:List Nat}{o:O}{i:Int}{acc:List V}{A:Type}
theorem yx:oK [] (b::t)=false:=rfl
theorem yy:oK (a::r) []=false:=rfl
theorem yz:oK (a::r) (b::t)=oK r t:=rfl
theorem BY:el (n::s) (k::u)=match Nat.beq n k with|true=>el s u|false=>false:=rfl
theorem BZ:oM [] s=true:=rfl
theorem B0:oM (n::s) []=false:=rfl
theorem B1:oM (n::s) (k::u)=match Nat.blt n k with|true=>true|false=>match Nat.blt k n with|true=>false|false=>oM s u:=rfl
theorem G9:hr 0=[]:=rfl
theorem yA:hr (n+1)=hr n++[.int (.ofNat n)]:=rfl
theorem oP:c7 s []=none:=rfl
theorem md:c7 s ((u,v)::ah)=match el u s with|true=>some v|false=>c7 s ah:=rfl
theorem oQ:fJ s v []=[(s,v)]:=rfl
theorem mW:fJ s v ((u,w)::ah)=match el u s with|true=>(u,v)::ah|false=>(u,w)::fJ s v ah:=rfl
theorem Of:ll s (.str u::r)=match ll s r with|some b=>some (el u s||b)|none=>none:=rfl
theorem nR:kf turn [] acc z= .ok acc z:=rfl
theorem nS:kf turn (v::r) acc z=(turn v acc z).bind λacc z=>kf turn r acc z:=rfl
theorem B2:dN turn [] C z= .ok (.next,C) z:=rfl
theorem p4:dN turn (v::r) C z=(turn v C z).bind λx z=>match x.1 with| .ret w=> .ok (.ret w,x.2) z|_=>dN turn r x.2 z:=rfl
theorem tV:jN test body (n+1) C z=(test C z).cx.bind λb z=>match truth b with|some true=>((body C z).cx.bind λx z=>match x.1 with| .ret w=> .ok (.ret w,x.2) z|_=>jN test body n x.2 z)|some false=> .ok (.next,C) z|none=> .stuck:=rfl
theorem Ha(h:z.heap id=some (.list p l)):pZ turn id (n+1) j acc z=match l[j]?with|none=> .ok acc z|some v=>(turn v acc z).bind λacc z=>pZ turn id n (j+1) acc z:=
 (bz (λq:Option O=>match q with|some (.list _ l)=>(match l[j]?with|none=>Res.ok acc z|some v=>(turn v acc z).bind λacc z=>pZ turn id n (j+1) acc z)|_=> .stuck) h:_)
theorem p5(h:z.heap id=some (.list p l)):iz turn id (n+1) j C z=match l[j]?with|none=> .ok (.next,C) z|some v=>(turn v C z).bind λx z=>match x.1 with| .ret w=> .ok (.ret w,x.2) z|_=>iz turn id n (j+1) x.2 z:=
 (bz (λq:Option O=>match q with|some (.list _ l)=>(match l[j]?with|none=>Res.ok (cg.next,C) z|some v=>(turn v C z).bind λx z=>match x.1 with| .ret w=> .ok (.ret w,x.2) z|_=>iz turn id n (j+1) x.2 z)|_=> .stuck) h:_)
theorem hH:em (some e) z= .ok e z:=rfl
theorem oR:(Res.ok e z).cx= .ok e z:=rfl
theorem oS{t f:Res A}:condB (.bool true) t f=t:=rfl
theorem oT{t f:Res A}:condB (.bool false) t f=f:=rfl
theorem kI:truth (.bool c)=some c:=rfl
theorem vU(h:z.heap id=some (.inst n k Y)):tU (.ref id) p z=em (dk p Y) z:=
 (bz (λq:Option O=>match q with|some (.inst _ _ Y)=>em (dk p Y) z|_=> .stuck) h:_)
theorem B3(h:z.heap id=some (.ba n ah)):lm z (.str s) (.ref id)=some (c7 s ah).isSome:=
 (bz (λq:Option O=>match q with|some o=>(match o with| .ba _ ah=>oL (λs=>some (c7 s ah).isSome) (.str s)| .ck _ ah=>vP (λn=>some (jM n ah).isSome) (.str s)| .list _ l=>yq (.str s) l| .inst .. =>none)|none=>none) h:_)
theorem Hb(h:z.heap id=some (.list n l)):lm z (.int i) (.ref id)=tR i l:=
 (bz (λq:Option O=>match q with|some o=>(match o with| .ba _ ah=>oL (λs=>some (c7 s ah).isSome) (.int i)| .ck _ ah=>vP (λn=>some (jM n ah).isSome) (.int i)| .list _ l=>yq (.int i) l| .inst .. =>none)|none=>none) h:_)
theorem Hc:lm z (.str s) (.aD n l)=ll s l:=rfl
theorem yB(h:z.heap id=some o):oN z f (.ref id)=f id o:=
 (bz (λq:Option O=>match q with|some o=>f id o|none=> .stuck) h:_)
theorem yC:vQ f (.list n l)=f n l:=rfl
theorem vV(h:z.heap id=some (.list n l)):rA z (.ref id)=true:=(bz (λq:Option O=>match q with|some (.list _ _)=>true|_=>false) h:_)
theorem B4:rB .append z x=rA z x:=rfl
theorem Hd:rB .pop z x=rA z x:=rfl
theorem He(h:z.heap id=some (.list n l)):g6 z (.ref id)=some (n,l):=(bz (λq:Option O=>match q with|some (.list b l)=>some (b,l)|_=>none) h:_)
theorem Hf:l8 z (.aD n l) (.aD k m)=ke l m:=rfl
theorem yD(h:z.heap id=some (.list n l)):l8 z (.ref id) (.aD k m)=ke l m:=(bz (λq:Option (Nat×List V)=>match q with|some (_,l)=>ke l m|none=>tQ (.ref id) (.aD k m)) (He h):_)
theorem yE:ys z (.aD n l) (.aD k m)=dr (small (n+k)) (.ok (.aD (n+k) (l++m)) z):=rfl
theorem Og(h:z.heap id=some (.list n l))(h':z.heap k=some (.list p m)):nQ (.ref id) (.ref k) z=match small (n+p)with|true=> .ok (.ref id) (z.set id (.list (n+p) (l++m)))|false=> .stuck:=
 (bz (λq:Option O=>match q with|some (.list p l)=>(match g6 z (.ref k)with|some (q,m)=>(match small (p+q)with|true=>Res.ok (V.ref id) (z.set id (.list (p+q) (l++m)))|false=> .stuck)|none=> .stuck)|_=> .stuck) h:_).trans (bz (λq:Option (Nat×List V)=>match q with|some (q,m)=>(match small (n+q)with|true=>Res.ok (V.ref id) (z.set id (.list (n+q) (l++m)))|false=> .stuck)|none=> .stuck) (He h'))
end
end
section
open Mine.Tactic
abbrev fa:List Nat:=[112,114,105,118,97,116,101]
abbrev i2:List Nat:=[118,105,115,105,98,108,101]
abbrev me:List Nat:=[99,101,108,108,115]
abbrev nT:List Nat:=[101,110,116,105,116,121]
abbrev oU:List Nat:=[116,121,112,101]
abbrev rD:List Nat:=[114,101,99,111,114,100]
abbrev rE:List Nat:=[105,110,99,111,109,112,108,101,116,101]
abbrev rF:List Nat:=[111,117,116,115,105,100,101]
abbrev tW:List Nat:=[112,97,99,107,97,103,101]
abbrev tX:List Nat:=[97,98,99,100,101,102]
abbrev yF:List Nat:=[112,114,111,116,101,99,116,101,100]
noncomputable def gF{aI:Type}(d:aI):List aI->Nat->aI
 |[],_=>d
 |a::_,0=>a
 |_::r,n+1=>gF d r n
noncomputable def Oh:cu:=⟨[0],[ .assign 1 (.au (.aa 0) 1), .ite (.bi .isNone [.aa 1]) [.ret (.val (.bool true))] [], .stuck, .stuck, .stuck, .stuck]⟩
noncomputable def p6:cu:=⟨[2,3,4],[ .assign 5 (.new 2 [.val (.str [105,110,116]), .aa 2]), .a7 (.aa 5) 3 (.aa 3), .a7 (.aa 5) 4 (.aa 4), .ret (.aa 5)]⟩
noncomputable def B5:cu:=⟨[2,6,7,8],[ .assign 5 (.new 2 [.val (.str rD), .aa 2]), .a7 (.aa 5) 6 (.bi .list [.aa 6]), .a7 (.aa 5) 7 (.bi .list [.aa 7]), .a7 (.aa 5) 8 (.aa 8), .a7 (.aa 5) 9 (.bi .eq [.aa 6, .aD []]), .ret (.aa 5)]⟩
noncomputable def B6:cu:=⟨[10,2],[ .assign 5 (.new 2 [.au (.aa 10) 11, .aa 2]), .a7 (.aa 5) 10 (.aa 10), .a7 (.aa 5) 3 (.au (.aa 10) 3), .a7 (.aa 5) 4 (.au (.aa 10) 4), .a7 (.aa 5) 12 (.au (.aa 10) 12), .a7 (.aa 5) 13 (.au (.aa 10) 13), .a7 (.aa 5) 14 (.au (.aa 10) 14), .a7 (.aa 5) 15 (.au (.aa 10) 15), .a7 (.aa 5) 16 (.au (.aa 10) 16), .a7 (.aa 5) 9 (.au (.aa 10) 9), .a7 (.aa 5) 6 (.au (.aa 10) 6), .a7 (.aa 5) 7 (.au (.aa 10) 7), .a7 (.aa 5) 8 (.au (.aa 10) 8), .a7 (.aa 5) 17 (.au (.aa 10) 17), .a7 (.aa 5) 18 (.au (.aa 10) 18), .a7 (.aa 5) 19 (.au (.aa 10) 19), .a7 (.aa 5) 20 (.au (.aa 10) 20), .a7 (.aa 5) 21 (.bi (.nN 10) [.au (.aa 10) 21]), .ret (.aa 5)]⟩
noncomputable def Oi:cu:=⟨[22,23],[ .a7 (.aa 22) 23 (.aa 23), .ret (.aa 22)]⟩
noncomputable def Oj:cu:=⟨[22],[ .ret (.new 3 [.aa 22, .val (.none)])]⟩
noncomputable def Ok:cu:=⟨[24,0],[ .assign 1 (.au (.aa 0) 1), .ite (.or [.bi .isNone [.aa 1], .bi .eq [.bi .idx [.aa 1, .val (.int (0))], .val (.str [110,97,109,101,100])]]) [.ret (.aa 0)] [], .stuck, .stuck, .stuck, .stuck]⟩
noncomputable def Ol:cu:=⟨[0],[ .assign 22 (.au (.aa 0) 25), .ite (.bi .eq [.au (.aa 22) 11, .val (.str [99,108,97,115,115])]) [.stuck] [], .ite (.bi .er [.au (.aa 0) 1]) [.stuck] [], .ite (.or [.bi .eq [.au (.aa 22) 11, .val (.str [97,114,114,97,121])], .bh 8 [.aa 22]]) [.stuck] [], .ret (.bi .eq [.comp none (.aa 26) 26 (.au (.aa 22) 6) [.bi .isNone [.bi .idx [.aa 26, .val (.int (2))]]], .aD []])]⟩
noncomputable def Om:cu:=⟨[22],[ .ret (.and [.bi .eq [.au (.aa 22) 11, .val (.str fa)], .not (.au (.aa 22) 9), .bi .eq [.au (.aa 22) 6, .aD []]])]⟩
noncomputable def f9:cu:=⟨[22],[ .ret (.or [.au (.aa 22) 20, .bi .eq [.au (.aa 22) 11, .val (.str [116,97,115,107])], .bi .eq [.au (.aa 22) 11, .val (.str yF)]])]⟩
noncomputable def Oo:cu:=⟨[8],[ .assign 27 (.aD []), .ite (.bi .er [.aa 8]) [.stuck] [], .ret (.aa 27)]⟩
noncomputable def Oq:cu:=⟨[24],[ .pW (.aa 24) 28 (.val (.int (1))), .ret (.au (.aa 24) 28)]⟩
noncomputable def Ot:cu:=⟨[24,2,29,30],[ .ite (.and [.bi .er [.aa 29], .bi .l6 [.bi .idx [.aa 30, .val (.int (0))], .tup [.val (.str rD), .val (.str fa), .val (.str rE)]]]) [.stuck] [], .ret (.tN (.bi .idx [.au (.aa 24) 31, .bi .add [.val (.str [97,115,32]), .bi .idx [.aa 30, .val (.int (0))]]]) [.aa 24, .aa 2, .aa 29, .aa 30])]⟩
noncomputable def Ou:cu:=⟨[32,22],[ .a7 (.aa 32) 10 (.aa 22), .a7 (.aa 32) 17 (.bh 5 [.aa 22]), .a7 (.aa 32) 19 (.val (.bool true)), .a7 (.aa 22) 32 (.aa 32)]⟩
noncomputable def Ov:cu:=⟨[24,22,23],[ .a7 (.aa 22) 23 (.ite (.bi .gt [.aa 23, .val (.int (0))]) (.aa 23) (.bh 11 [.aa 24])), .ite (.au (.aa 22) 19) [.expr (.bh 13 [.new 2 [.val (.str [99,108,97,115,115]), .bi .add [.au (.aa 22) 2, .val (.str [39,99,108,97,115,115])]], .aa 22]), .a7 (.au (.aa 22) 32) 23 (.bh 11 [.aa 24])] [], .ite (.and [.bi .eq [.au (.aa 22) 11, .val (.str fa)], .bi .er [.au (.aa 22) 17], .bi .eq [.au (.au (.au (.aa 22) 17) 25) 23, .val (.int (0))]]) [.a7 (.au (.au (.aa 22) 17) 25) 23 (.au (.aa 22) 23), .a7 (.au (.au (.aa 22) 17) 25) 32 (.au (.aa 22) 32)] []]⟩
noncomputable def Ow:cu:=⟨[22,5],[ .assign 33 (.ite (.bi .isNone [.au (.aa 22) 10]) (.dict 11 false []) (.au (.au (.aa 22) 10) 21)), .eL 34 (.au (.aa 22) 21) [.stuck]]⟩
noncomputable def Ox:cu:=⟨[22],[ .ret (.and [.bi .eq [.au (.aa 22) 11, .val (.str fa)], .bi .er [.au (.aa 22) 17], .bi .eq [.au (.au (.au (.aa 22) 17) 25) 23, .au (.aa 22) 23]])]⟩
noncomputable def Oy:cu:=⟨[11,35,10],[ .assign 36 (.new 4 [.aa 11, .aa 35, .aa 10]), .ite (.bi .er [.aa 35]) [.a7 (.aa 35) 36 (.aa 36)] [], .ret (.aa 36)]⟩
noncomputable def Oz:cu:=⟨[36],[ .a7 (.aa 36) 37 (.val (.str fa))]⟩
noncomputable def OA:cu:=⟨[38,39],[ .assign 40 (.aa 39), .i1 (.bi .er [.aa 40]) [.ite (.bi .eq [.au (.aa 40) 23, .au (.aa 38) 23]) [.ret (.val (.bool true))] [], .assign 40 (.au (.aa 40) 10)], .ret (.val (.bool false))]⟩
noncomputable def OB:cu:=⟨[36],[ .assign 40 (.aa 36), .i1 (.bi .l6 [.au (.aa 40) 11, .glob 0]) [.assign 40 (.au (.aa 40) 10)], .ret (.aa 40)]⟩
noncomputable def OC:cu:=⟨[36,41],[ .assign 42 (.ite (.bi .eq [.au (.aa 41) 11, .val (.str [101,120,99,101,112,116,105,111,110])]) (.au (.aa 36) 43) (.bh 20 [.aa 36])), .assign 28 (.e1 .l7 (.au (.aa 42) 44) [.au (.aa 41) 2, .val (.int (0))]), .i0 (.au (.aa 42) 44) (.au (.aa 41) 2) (.bi .add [.aa 28, .val (.int (1))]), .a7 (.aa 41) 45 (.ite (.bi .eq [.aa 28, .val (.int (0))]) (.au (.aa 41) 2) (.stuck))]⟩
noncomputable def OD:cu:=⟨[36,41],[ .assign 46 (.comp none (.aa 48) 48 (.e1 .l7 (.au (.aa 36) 47) [.au (.aa 41) 2, .aD []]) [.not (.au (.aa 48) 49)]), .assign 50 (.comp none (.aa 48) 48 (.aa 46) [.stuck]), .ite (.bi .ne [.comp none (.aa 48) 48 (.aa 50) [.not (.au (.aa 48) 51)], .aD []]) [.stuck, .stuck, .stuck] [], .eL 48 (.aa 50) [.stuck]]⟩
noncomputable def OE:cu:=⟨[36,41],[ .ite (.and [.bi .isin [.val (.str [46]), .au (.aa 41) 2], .stuck]) [.stuck] [], .expr (.bh 22 [.aa 36, .aa 41]), .pW (.au (.aa 36) 43) 5 (.val (.int (1))), .a7 (.aa 41) 23 (.au (.au (.aa 36) 43) 5), .a7 (.aa 41) 52 (.aa 36), .a7 (.aa 41) 37 (.au (.aa 36) 37), .expr (.bh 21 [.aa 36, .aa 41]), .expr (.e1 .append (.e1 .oH (.au (.aa 36) 47) [.au (.aa 41) 2, .g5 12 []]) [.aa 41]), .expr (.e1 .append (.au (.aa 36) 53) [.aa 41])]⟩
noncomputable def OF:cu:=⟨[41],[ .a7 (.aa 41) 54 (.val (.bool true))]⟩
noncomputable def OG:cu:=⟨[36,41],[ .expr (.bh 23 [.aa 36, .aa 41]), .expr (.bh 24 [.aa 41])]⟩
noncomputable def OH:cu:=⟨[36,23],[ .expr (.e1 .oH (.au (.au (.aa 36) 43) 55) [.aa 23, .tup [.aa 36, .au (.aa 36) 37]])]⟩
noncomputable def OI:cu:=⟨[41,56],[ .eL 48 (.aa 56) [.stuck], .ret (.val (.bool false))]⟩
noncomputable def OJ:cu:=⟨[39,2],[ .assign 57 (.g5 13 []), .assign 58 (.g5 14 []), .assign 40 (.aa 39), .i1 (.bi .er [.aa 40]) [.assign 26 (.comp none (.aa 41) 41 (.e1 .l7 (.au (.aa 40) 47) [.aa 2, .aD []]) [.not (.au (.aa 41) 49)]), .lj 57 (.comp none (.aa 41) 41 (.aa 26) [.and [.au (.aa 41) 54, .not (.bh 27 [.aa 41, .aa 58])]]), .lj 58 (.aa 26), .assign 40 (.au (.aa 40) 10)], .ret (.tup [.aa 57, .aa 58])]⟩
noncomputable def OK:cu:=⟨[39,2],[ .assign 57 (.aD []), .assign 40 (.aa 39), .i1 (.bi .er [.aa 40]) [.assign 26 (.aD []), .eL 59 (.au (.aa 40) 60) [.stuck], .eL 23 (.au (.aa 40) 61) [.stuck], .eL 41 (.aa 26) [.stuck], .assign 40 (.au (.aa 40) 10)], .ret (.aa 57)]⟩
noncomputable def OL:cu:=⟨[39,2],[ .unpack [57,58] (.bh 28 [.aa 39, .aa 2]), .assign 62 (.bh 29 [.aa 39, .aa 2]), .ite (.and [.bi .gt [.bi .len [.aa 62], .val (.int (1))], .stuck]) [.stuck] [], .ret (.bi .add [.aa 57, .comp none (.aa 41) 41 (.aa 62) [.not (.bh 27 [.aa 41, .aa 58])]])]⟩
noncomputable def OM:cu:=⟨[41,39],[ .ite (.and [.bi .er [.au (.aa 41) 63], .bh 19 [.au (.aa 41) 52, .aa 39]]) [.ret (.au (.aa 41) 63)] [], .ret (.au (.aa 41) 0)]⟩
noncomputable def ON:cu:=⟨[36,2,34],[ .eL 41 (.e1 .l7 (.au (.aa 36) 47) [.aa 2, .aD []]) [.ite (.and [.bi .eq [.au (.aa 41) 34, .aa 34], .not (.au (.aa 41) 64), .not (.au (.aa 41) 51), .not (.au (.aa 41) 49)]) [.ret (.aa 41)] []], .ret (.val (.none))]⟩
noncomputable def OO:cu:=⟨[0],[ .assign 65 (.val (.int (0))), .i1 (.and [.bi .eq [.au (.au (.aa 0) 25) 11, .val (.str fa)], .bi .er [.au (.au (.aa 0) 25) 17]]) [.assign 66 (.au (.au (.aa 0) 25) 17), .lj 65 (.val (.int (1))), .ite (.bi .gt [.aa 65, .glob 1]) [.stuck] [], .assign 0 (.ite (.bi .isNone [.au (.aa 0) 1]) (.aa 66) (.new 3 [.au (.aa 66) 25, .au (.aa 0) 1]))], .ret (.aa 0)]⟩
noncomputable def OP:cu:=⟨[22],[ .ite (.bi .ne [.au (.aa 22) 11, .val (.str fa)]) [.ret (.aa 22)] [], .ret (.au (.bh 33 [.new 3 [.aa 22, .val (.none)]]) 25)]⟩
noncomputable def B7:cu:=⟨[8],[ .assign 57 (.aD []), .assign 67 (.g5 15 [.aa 8]), .i1 (.bi .ne [.aa 67, .aD []]) [.assign 40 (.e1 .pop (.aa 67) []), .ite (.bi .isNone [.aa 40]) [.cont] [], .stuck], .ret (.aa 57)]⟩
noncomputable def OQ:cu:=⟨[11],[ .assign 57 (.g5 16 []), .assign 40 (.aa 11), .i1 (.bi .er [.aa 40]) [.expr (.e1 .append (.aa 57) [.aa 40]), .assign 40 (.au (.aa 40) 10)], .ret (.aa 57)]⟩
noncomputable def OR:cu:=⟨[11,68],[ .eL 69 (.bh 36 [.aa 11]) [.ite (.bi .eq [.au (.aa 69) 23, .au (.aa 68) 23]) [.ret (.val (.bool true))] []], .ret (.val (.bool false))]⟩
noncomputable def OS:cu:=⟨[10,7,70],[ .assign 71 (.dict 17 false []), .assign 47 (.bi .add [.comp none (.bi .idx [.aa 26, .val (.int (0))]) 26 (.bi .add [.au (.aa 10) 6, .au (.aa 10) 7]) [], .bh 35 [.au (.aa 10) 8]]), .eL 2 (.bi .add [.aa 47, .comp none (.bi .idx [.aa 26, .val (.int (0))]) 26 (.aa 7) []]) [.ite (.bi .isin [.aa 2, .aa 71]) [.raise [.aa 70, .val (.str [97,32,99,111,109,112,111,110,101,110,116,32,115,116,97,110,100,115,32,116,119,105,99,101])]] [], .i0 (.aa 71) (.aa 2) (.val (.bool true))]]⟩
noncomputable def OT:cu:=⟨[11,70],[ .assign 10 (.bh 34 [.au (.aa 11) 10]), .ite (.bi .ne [.au (.aa 10) 11, .val (.str rD)]) [.stuck] [], .assign 72 (.bi .rp [.au (.aa 11) 7, .bi .len [.au (.au (.aa 11) 10) 7]]), .expr (.bh 38 [.aa 10, .aa 72, .aa 70]), .assign 66 (.bh 3 [.aa 10, .au (.aa 11) 2]), .a7 (.aa 66) 23 (.au (.aa 11) 23), .a7 (.aa 66) 7 (.bi .l5 [.au (.aa 10) 7, .aa 72]), .a7 (.aa 66) 20 (.au (.aa 11) 20), .a7 (.aa 66) 21 (.au (.aa 11) 21), .a7 (.aa 66) 32 (.au (.aa 11) 32), .a7 (.aa 11) 17 (.bh 5 [.aa 66])]⟩
noncomputable def OU:cu:=⟨[10,2,23,7,70],[ .ite (.not (.au (.aa 10) 19)) [.stuck] [], .expr (.bh 38 [.aa 10, .aa 7, .aa 70]), .assign 5 (.bh 3 [.aa 10, .aa 2]), .a7 (.aa 5) 23 (.aa 23), .a7 (.aa 5) 7 (.bi .l5 [.au (.aa 10) 7, .bi .list [.aa 7]]), .ite (.bi .eq [.au (.aa 10) 11, .val (.str fa)]) [.a7 (.aa 5) 17 (.val (.none)), .ite (.bi .er [.au (.aa 10) 17]) [.expr (.bh 39 [.aa 5, .aa 70])] []] [], .ret (.aa 5)]⟩
noncomputable def OV:cu:=⟨[11,34,73],[ .assign 74 (.and [.bi .er [.au (.aa 11) 10], .bi .isin [.aa 34, .au (.au (.aa 11) 10) 21]]), .i0 (.au (.aa 11) 21) (.aa 34) (.aa 73), .ret (.aa 74)]⟩
noncomputable def OW:cu:=⟨[24,22,10],[ .ite (.bi .l6 [.au (.aa 10) 23, .au (.au (.au (.aa 24) 39) 43) 55]) [.stuck] [], .unpack [52,37] (.bi .idx [.au (.au (.au (.aa 24) 39) 43) 55, .au (.aa 10) 23]), .assign 75 (.bh 19 [.aa 52, .au (.aa 24) 39]), .eL 48 (.bi .list [.au (.aa 52) 53]) [.ite (.or [.bi .ne [.au (.aa 48) 11, .val (.str [115,117,98])], .au (.aa 48) 49, .not (.stuck)]) [.cont] [], .stuck]]⟩
noncomputable def OX:cu:=⟨[24,41,0],[ .expr (.bh 26 [.au (.aa 24) 39, .au (.au (.aa 0) 25) 23]), .expr (.bh 51 [.aa 24, .au (.aa 0) 25]), .ite (.bi .eq [.au (.au (.aa 0) 25) 11, .val (.str [101,110,117,109])]) [.stuck] [], .ite (.bi .er [.au (.au (.aa 0) 25) 10]) [.expr (.bh 42 [.aa 24, .au (.aa 0) 25, .au (.au (.aa 0) 25) 10])] [], .assign 57 (.g5 18 [.tup [.val (.str oU), .au (.aa 24) 70, .au (.aa 0) 25]]), .ite (.bh 16 [.au (.aa 0) 25]) [.expr (.e1 .append (.aa 57) [.tup [.val (.str oU), .au (.aa 24) 70, .au (.au (.au (.aa 0) 25) 17) 25]])] [], .ite (.not (.bh 0 [.aa 0])) [.stuck] [], .ret (.aa 57)]⟩
noncomputable def OY:cu:=⟨[30],[ .assign 39 (.e1 .l7 (.dict 19 false [.val (.str rD), .val (.int (5)), .val (.str [100,101,114,105,118,101,100]), .val (.int (3)), .val (.str fa), .val (.int (3)), .val (.str [101,120,116,101,110,115,105,111,110]), .val (.int (2))]) [.bi .idx [.aa 30, .val (.int (0))], .val (.int (0))]), .ite (.and [.bi .gt [.aa 39, .val (.int (0))], .bi .idx [.aa 30, .aa 39]]) [.stuck] [], .ret (.val (.none))]⟩
noncomputable def OZ:cu:=⟨[24,76],[ .unpack [77,70,2,29,30] (.aa 76), .assign 67 (.bh 32 [.au (.aa 24) 39, .aa 2, .val (.none)]), .ite (.bi .er [.aa 67]) [.ret (.bh 46 [.aa 24, .aa 67, .aa 29, .aa 30])] [], .assign 41 (.new 1 [.val (.str oU), .aa 2, .val (.none), .val (.none), .val (.none), .aa 70]), .expr (.bh 23 [.au (.aa 24) 39, .aa 41]), .assign 78 (.bi .isin [.bi .idx [.aa 30, .val (.int (0))], .tup [.val (.str fa), .val (.str rE), .val (.str [101,120,116,101,110,115,105,111,110])]]), .ite (.and [.aa 78, .bi .ne [.bi .idx [.aa 30, .val (.int (0))], .val (.str rE)], .or [.bi .ne [.au (.au (.aa 24) 39) 11, .val (.str tW)], .bi .ne [.au (.au (.aa 24) 39) 37, .val (.str i2)]]]) [.stuck] [], .assign 0 (.bh 6 [.aa 24, .bh 12 [.aa 24, .au (.aa 41) 45, .aa 29, .aa 30]]), .expr (.bh 14 [.aa 24, .au (.aa 0) 25, .val (.int (0))]), .a7 (.aa 41) 0 (.aa 0), .a7 (.aa 41) 64 (.not (.aa 78)), .a7 (.aa 41) 79 (.bh 44 [.aa 30]), .a7 (.au (.aa 0) 25) 80 (.bi .eq [.au (.aa 41) 79, .glob 2]), .expr (.bh 24 [.aa 41]), .ite (.aa 78) [.expr (.bh 26 [.au (.aa 24) 39, .au (.au (.aa 0) 25) 23]), .ite (.bi .er [.au (.au (.aa 0) 25) 10]) [.stuck] [], .ret (.aD [])] [], .ret (.bh 43 [.aa 24, .aa 41, .aa 0])]⟩
noncomputable def O0:cu:=⟨[24,41,29,30],[ .ite (.or [.bi .ne [.au (.aa 41) 11, .val (.str oU)], .bi .isin [.bi .idx [.aa 30, .val (.int (0))], .tup [.val (.str fa), .val (.str rE), .val (.str [101,120,116,101,110,115,105,111,110])]]]) [.stuck] [], .assign 81 (.au (.au (.aa 41) 0) 25), .ite (.bi .isin [.au (.aa 81) 11, .tup [.val (.str [116,97,115,107]), .val (.str yF)]]) [.stuck] [], .ite (.and [.bi .ne [.au (.aa 81) 11, .val (.str rE)], .bi .ne [.au (.au (.aa 24) 39) 37, .val (.str fa)]]) [.stuck] [], .assign 0 (.bh 6 [.aa 24, .bh 12 [.aa 24, .au (.aa 41) 45, .aa 29, .aa 30]]), .assign 63 (.au (.aa 0) 25), .a7 (.aa 63) 80 (.bi .eq [.bh 44 [.aa 30], .glob 2]), .expr (.bh 48 [.aa 24, .aa 81, .aa 0]), .assign 82 (.and [.bi .eq [.au (.aa 63) 11, .val (.str [97,114,114,97,121])], .au (.aa 63) 9]), .ite (.and [.bi .eq [.au (.aa 81) 11, .val (.str fa)], .not (.bh 0 [.aa 0]), .not (.aa 82)]) [.stuck] [], .expr (.bh 14 [.aa 24, .aa 63, .au (.aa 81) 23]), .a7 (.aa 41) 64 (.val (.bool true)), .ite (.bi .eq [.au (.aa 81) 11, .val (.str rE)]) [.stuck, .stuck] [], .ite (.bi .eq [.au (.aa 81) 11, .val (.str fa)]) [.expr (.bh 15 [.aa 81, .aa 63]), .a7 (.aa 81) 21 (.au (.aa 63) 21), .a7 (.aa 81) 10 (.au (.aa 63) 10), .a7 (.aa 81) 17 (.aa 0), .ite (.bi .er [.au (.aa 81) 32]) [.expr (.bh 13 [.au (.aa 81) 32, .aa 63])] [], .a7 (.aa 41) 63 (.aa 0), .ret (.bi .add [.bh 43 [.aa 24, .aa 41, .aa 0], .bh 47 [.aa 24]])] [], .stuck, .stuck, .stuck, .stuck]⟩
noncomputable def O1:cu:=⟨[24],[ .assign 57 (.g5 20 []), .eL 48 (.au (.au (.aa 24) 39) 53) [.assign 22 (.ite (.or [.bi .ne [.au (.aa 48) 11, .val (.str oU)], .not (.au (.aa 48) 64)]) (.val (.none)) (.au (.au (.aa 48) 0) 25)), .ite (.or [.bi .isNone [.aa 22], .bi .ne [.au (.aa 22) 11, .val (.str fa)], .bi .er [.au (.aa 22) 17], .bi .isNone [.au (.aa 22) 10]]) [.cont] [], .ite (.bi .er [.au (.au (.aa 22) 10) 17]) [.expr (.bh 39 [.aa 22, .au (.aa 48) 70]), .a7 (.aa 48) 63 (.au (.aa 22) 17), .expr (.e1 .append (.aa 57) [.tup [.val (.str oU), .au (.aa 24) 70, .au (.au (.aa 22) 17) 25]])] []], .ret (.aa 57)]⟩
noncomputable def O2:cu:=⟨[24,81,0],[ .assign 63 (.au (.aa 0) 25), .ite (.bi .eq [.au (.aa 81) 11, .val (.str rE)]) [.stuck] [], .ite (.and [.bh 9 [.aa 63], .not (.au (.aa 81) 20)]) [.stuck] [], .ite (.and [.au (.aa 81) 19, .not (.au (.aa 63) 19)]) [.stuck] [], .ite (.and [.au (.aa 63) 80, .not (.au (.aa 81) 80)]) [.stuck] [], .ite (.and [.bi .er [.au (.aa 81) 10], .not (.stuck)]) [.stuck] [], .assign 83 (.g5 21 []), .eL 22 (.tup [.aa 81, .aa 63]) [.expr (.e1 .append (.aa 83) [.comp none (.tup [.bi .idx [.aa 26, .val (.int (0))], .au (.au (.bi .idx [.aa 26, .val (.int (1))]) 25) 23, .au (.bi .idx [.aa 26, .val (.int (1))]) 1, .bi .isNone [.bi .idx [.aa 26, .val (.int (2))]]]) 26 (.au (.aa 22) 6) []])], .ite (.and [.bi .ne [.bi .idx [.aa 83, .val (.int (0))], .bi .idx [.aa 83, .val (.int (1))]], .not (.stuck)]) [.stuck] [], .ite (.and [.not (.bh 7 [.aa 0]), .stuck]) [.stuck] [], .ite (.or [.bh 50 [.aa 63, .au (.aa 81) 23], .bh 37 [.aa 63, .aa 81]]) [.stuck] []]⟩
noncomputable def O3:cu:=⟨[22],[ .assign 57 (.comp (some 22) (.au (.bi .idx [.aa 26, .val (.int (1))]) 25) 26 (.bi .add [.au (.aa 22) 7, .bh 10 [.au (.aa 22) 8]]) []), .ite (.and [.bi .eq [.au (.aa 22) 11, .val (.str fa)], .bi .er [.au (.aa 22) 17]]) [.expr (.e1 .append (.aa 57) [.au (.au (.aa 22) 17) 25])] [], .ite (.bi .er [.au (.aa 22) 16]) [.stuck] [], .ret (.aa 57)]⟩
noncomputable def O4:cu:=⟨[22,23],[ .assign 71 (.g5 23 []), .assign 67 (.bh 49 [.aa 22]), .i1 (.bi .ne [.aa 67, .aD []]) [.assign 69 (.e1 .pop (.aa 67) []), .ite (.bi .eq [.au (.aa 69) 23, .aa 23]) [.stuck] [], .ite (.bi .l6 [.au (.aa 69) 23, .aa 71]) [.expr (.e1 .append (.aa 71) [.au (.aa 69) 23]), .lj 67 (.bh 49 [.aa 69])] []], .ret (.val (.bool false))]⟩
noncomputable def O5:cu:=⟨[24,22],[ .assign 84 (.bh 49 [.aa 22]), .forR 85 (.glob 3) [.assign 71 (.dict 24 true []), .eL 69 (.aa 84) [.eL 56 (.bh 49 [.aa 69]) [.i0 (.aa 71) (.au (.aa 56) 23) (.aa 56)]], .assign 84 (.li 71 23), .ite (.bi .eq [.aa 84, .aD []]) [.ret (.val .none)] []], .stuck]⟩
noncomputable def yG:cu:=⟨[86,87],[ .rt (.aa 86) (.val (.str [97,116])) (.val (.int (1))), .ite (.bi .gt [.bi .idx [.aa 86, .val (.str [97,116])], .bi .len [.bi .idx [.aa 86, .val (.str me)]]]) [.ret (.bi .mod [.bi .idx [.glob 4, .bi .mod [.bi .sub [.bi .idx [.aa 86, .val (.str [97,116])], .val (.int (1))], .bi .len [.glob 4]]], .aa 87])] [], .ret (.bi .mod [.bi .idx [.bi .idx [.aa 86, .val (.str me)], .bi .sub [.bi .idx [.aa 86, .val (.str [97,116])], .val (.int (1))]], .aa 87])]⟩
noncomputable def B8:cu:=⟨[24,47],[ .ret (.comp none (.tup [.aa 2, .bi .idx [.au (.aa 24) 88, .val (.str [105,110,116,101,103,101,114])], .val (.none)]) 2 (.aa 47) [])]⟩
noncomputable def O6:cu:=⟨[24,2,29,30],[ .assign 5 (.new 2 [.val (.str fa), .aa 2]), .tO (.aa 5) 19 (.aa 5) 89 (.tup [.val (.bool true), .val (.bool true)]), .ret (.bh 5 [.aa 5])]⟩
noncomputable def O7:cu:=⟨[24,2,29,30],[ .assign 5 (.bh 2 [.aa 2, .aD [], .bh 53 [.aa 24, .bi .idx [.aa 30, .val (.int (1))]], .val (.none)]), .a7 (.aa 5) 19 (.val (.bool true)), .ret (.bh 5 [.aa 5])]⟩
noncomputable def O8:cu:=⟨[24,2,29,30],[ .assign 10 (.bh 31 [.bi .idx [.aa 30, .val (.int (1))], .au (.aa 24) 39]), .ret (.new 3 [.bh 40 [.au (.aa 10) 25, .aa 2, .val (.int (0)), .bh 53 [.aa 24, .bi .idx [.aa 30, .val (.int (2))]], .au (.aa 24) 70], .val (.none)])]⟩
noncomputable def B9:cu:=⟨[86],[ .ret (.oI (.bi .idx [.val (.str tX), .bh 52 [.aa 86, .val (.int (6))]]) 85 (.bh 52 [.aa 86, .val (.int (3))]))]⟩
noncomputable def O9:cu:=⟨[24,2,30],[ .tP (.comp none (.bi .idx [.aa 26, .val (.int (2))]) 26 (.bh 45 [.aa 24, .tup [.val (.str [116,121,112,101,100,101,99,108]), .val (.int (3)), .aa 2, .val (.none), .aa 30]]) [.bi .eq [.bi .idx [.aa 26, .val (.int (0))], .val (.str oU)]])]⟩
noncomputable def Ca:cu:=⟨[22],[ .ret (.comp none (.bi .idx [.aa 26, .val (.int (0))]) 26 (.au (.aa 22) 7) [])]⟩
noncomputable def Pa:cu:=⟨[86,24,90,2,91],[ .assign 10 (.bi .idx [.aa 91, .bh 52 [.aa 86, .bi .len [.aa 91]]]), .assign 72 (.bh 57 [.aa 86]), .assign 26 (.bi .idx [.aa 90, .aa 10]), .assign 71 (.ite (.or [.bi .eq [.au (.au (.aa 24) 39) 11, .val (.str [98,108,111,99,107])], .bi .eq [.au (.au (.aa 24) 39) 37, .val (.str i2)]]) (.bi .idx [.aa 26, .val (.str [115,101,101,110])]) (.bi .idx [.aa 26, .val (.str [97,108,108])])), .assign 92 (.ite (.bi .er [.bi .idx [.bi .idx [.aa 90, .val (.str [116])], .val (.str [97,108,108])]]) (.bi .idx [.aa 26, .val (.str [97,108,108])]) (.aa 71)), .blk 6, .assign 94 (.bh 58 [.aa 24, .aa 2, .tup [.val (.str [109,111,114,101]), .bi .idx [.aa 26, .val (.str nT)], .aa 72]]), .ite (.or [.bi .isNone [.aa 94], .not (.aa 93)]) [.ret (.tup [.val (.bool false), .and [.bi .isNone [.aa 94], .not (.aa 93)]])] [], .assign 41 (.bi .idx [.bh 30 [.au (.aa 24) 39, .aa 2], .val (.int (0))]), .assign 95 (.ite (.bi .isNone [.bi .idx [.aa 26, .val (.str [97,108,108])]]) (.val (.none)) (.bi .l5 [.bi .idx [.aa 26, .val (.str [97,108,108])], .aa 72])), .i0 (.aa 90) (.aa 2) (.dict 26 false [.val (.str nT), .aa 41, .val (.str [115,101,101,110]), .bi .l5 [.aa 71, .aa 72], .val (.str [111,119,110]), .aa 72, .val (.str [112,97,114,101,110,116]), .aa 10, .val (.str [97,108,108]), .aa 95]), .assign 96 (.and [.bi .er [.aa 95], .bi .eq [.au (.au (.au (.aa 41) 0) 25) 11, .val (.str fa)]]), .ret (.tup [.val (.bool true), .bi .eq [.comp none (.au (.aa 22) 23) 22 (.aa 94) [], .rep (.au (.au (.au (.aa 41) 0) 25) 23) (.ite (.aa 96) (.val (.int (2))) (.val (.int (1))))]])]⟩
noncomputable def Pb:cu:=⟨[90,2],[ .assign 26 (.bi .idx [.aa 90, .aa 2]), .ite (.bi .isNone [.bi .idx [.aa 26, .val (.str [97,108,108])]]) [.i0 (.aa 26) (.val (.str [97,108,108])) (.bi .l5 [.bh 61 [.aa 90, .bi .idx [.aa 26, .val (.str [112,97,114,101,110,116])]], .bi .idx [.aa 26, .val (.str [111,119,110])]])] [], .ret (.bi .idx [.aa 26, .val (.str [97,108,108])])]⟩
noncomputable def Pc:cu:=⟨[90,2,39,97,98],[ .assign 26 (.bi .idx [.aa 90, .aa 2]), .assign 41 (.bi .idx [.aa 26, .val (.str nT)]), .unpack [99,100] (.tup [.au (.bh 31 [.aa 41, .aa 97]) 25, .au (.bh 31 [.aa 41, .aa 39]) 25]), .assign 63 (.bh 34 [.aa 99]), .ite (.or [.bi .ne [.au (.aa 63) 11, .val (.str rD)], .bi .ro [.bh 59 [.aa 63], .bi .idx [.aa 26, .val (.str [97,108,108])]], .bi .ne [.au (.aa 63) 23, .au (.aa 99) 23]]) [.stuck] [], .ite (.or [.bi .ne [.au (.aa 99) 11, .ite (.bi .eq [.aa 98, .val (.str fa)]) (.val (.str rD)) (.val (.str fa))], .bi .ro [.bh 59 [.aa 99], .bi .idx [.aa 26, .val (.str [115,101,101,110])]]]) [.stuck] [], .ite (.bi .ro [.bh 59 [.aa 100], .ite (.bi .eq [.aa 98, .val (.str i2)]) (.bi .idx [.aa 26, .val (.str [97,108,108])]) (.bi .idx [.aa 26, .val (.str [115,101,101,110])])]) [.stuck] [], .expr (.bh 41 [.aa 99, .bi .add [.val (.str [103,111,32]), .aa 2], .aa 2]), .assign 101 (.comp none (.bh 34 [.au (.au (.bi .idx [.bi .idx [.aa 90, .aa 69], .val (.str nT)]) 0) 25]) 69 (.bi .sorted [.aa 90]) []), .assign 102 (.comp none (.bi .idx [.au (.aa 103) 21, .bi .add [.val (.str [103,111,32]), .aa 2]]) 103 (.aa 101) [.bi .isin [.bi .add [.val (.str [103,111,32]), .aa 2], .au (.aa 103) 21]]), .ret (.and [.bi .eq [.aa 102, .aD [.aa 2]], .bi .eq [.bi .idx [.au (.aa 63) 21, .bi .add [.val (.str [103,111,32]), .aa 2]], .aa 2], .bh 37 [.aa 63, .au (.au (.bi .idx [.bi .idx [.aa 90, .val (.str [116])], .val (.str nT)]) 0) 25]])]⟩
noncomputable def Pd:cu:=⟨[104],[ .blk 0, .eL 98 (.tup [.val (.str i2), .val (.str fa), .val (.str rF)]) [.ite (.bi .eq [.aa 98, .val (.str fa)]) [.blk 1, .blk 7, .blk 8] [], .ite (.bi .eq [.aa 98, .val (.str rF)]) [.blk 2] [], .forR 85 (.bh 52 [.aa 86, .ite (.bi .eq [.aa 98, .val (.str fa)]) (.val (.int (3))) (.val (.int (4)))]) [.blk 3]], .eL 98 (.tup [.val (.str i2), .val (.str fa), .val (.str rF)]) [.blk 4], .blk 5]⟩
noncomputable def Pe:cu:=⟨[111,11,2,34,0,79,70],[ .a7 (.aa 111) 11 (.aa 11), .a7 (.aa 111) 2 (.aa 2), .a7 (.aa 111) 34 (.aa 34), .a7 (.aa 111) 0 (.aa 0), .a7 (.aa 111) 79 (.aa 79), .a7 (.aa 111) 70 (.aa 70), .a7 (.aa 111) 23 (.val (.int (0))), .a7 (.aa 111) 45 (.val (.str [])), .a7 (.aa 111) 52 (.val (.none)), .a7 (.aa 111) 37 (.val (.str [])), .a7 (.aa 111) 36 (.val (.none)), .a7 (.aa 111) 63 (.val (.none)), .a7 (.aa 111) 54 (.val (.bool false)), .a7 (.aa 111) 64 (.val (.bool false)), .a7 (.aa 111) 18 (.val (.bool false)), .a7 (.aa 111) 51 (.val (.bool false)), .a7 (.aa 111) 49 (.val (.bool false))]⟩
noncomputable def Pf:cu:=⟨[111,11,2],[ .a7 (.aa 111) 11 (.aa 11), .a7 (.aa 111) 2 (.aa 2), .a7 (.aa 111) 23 (.val (.int (0))), .a7 (.aa 111) 10 (.val (.none)), .a7 (.aa 111) 3 (.val (.none)), .a7 (.aa 111) 4 (.val (.none)), .a7 (.aa 111) 12 (.aD []), .a7 (.aa 111) 13 (.val (.int (0))), .a7 (.aa 111) 14 (.tup [.val (.int (1)), .val (.int (1))]), .a7 (.aa 111) 15 (.aD []), .a7 (.aa 111) 16 (.val (.none)), .a7 (.aa 111) 9 (.val (.bool true)), .a7 (.aa 111) 6 (.aD []), .a7 (.aa 111) 7 (.aD []), .a7 (.aa 111) 8 (.val (.none)), .a7 (.aa 111) 17 (.val (.none)), .a7 (.aa 111) 19 (.val (.bool false)), .a7 (.aa 111) 32 (.val (.none)), .a7 (.aa 111) 20 (.val (.bool false)), .a7 (.aa 111) 89 (.val (.bool false)), .a7 (.aa 111) 80 (.val (.bool false)), .a7 (.aa 111) 18 (.val (.bool false)), .a7 (.aa 111) 112 (.val (.bool false)), .a7 (.aa 111) 21 (.dict 36 false [])]⟩
noncomputable def Pg:cu:=⟨[111,22,1],[ .a7 (.aa 111) 25 (.aa 22), .a7 (.aa 111) 1 (.aa 1)]⟩
noncomputable def Ph:cu:=⟨[111,39,113,114,88],[ .a7 (.aa 111) 39 (.aa 39), .a7 (.aa 111) 113 (.aa 113), .a7 (.aa 111) 114 (.aa 114), .a7 (.aa 111) 88 (.aa 88), .a7 (.aa 111) 115 (.val (.none)), .a7 (.aa 111) 116 (.val (.none)), .a7 (.aa 111) 117 (.dict 37 false []), .a7 (.aa 111) 118 (.dict 38 false []), .a7 (.aa 111) 31 (.dict 39 false []), .a7 (.aa 111) 119 (.dict 40 false []), .a7 (.aa 111) 70 (.val (.int (1))), .a7 (.aa 111) 28 (.val (.int (100))), .a7 (.aa 111) 120 (.val (.int (0)))]⟩
noncomputable def Pj:cu:=⟨[111,11,35,10],[ .a7 (.aa 111) 11 (.aa 11), .a7 (.aa 111) 35 (.aa 35), .a7 (.aa 111) 10 (.aa 10), .a7 (.aa 111) 43 (.ite (.bi .isNone [.aa 10]) (.aa 111) (.au (.aa 10) 43)), .a7 (.aa 111) 5 (.val (.int (0))), .pW (.au (.aa 111) 43) 5 (.val (.int (1))), .a7 (.aa 111) 23 (.au (.au (.aa 111) 43) 5), .a7 (.aa 111) 84 (.ite (.bi .isNone [.aa 10]) (.val (.int (0))) (.bi .add [.au (.aa 10) 84, .ite (.bi .isin [.aa 11, .glob 0]) (.val (.int (1))) (.val (.int (0)))])), .a7 (.aa 111) 37 (.ite (.bi .eq [.aa 11, .val (.str tW)]) (.val (.str i2)) (.val (.str [98,111,100,121]))), .a7 (.aa 111) 47 (.dict 41 false []), .a7 (.aa 111) 53 (.g5 42 []), .a7 (.aa 111) 60 (.aD []), .a7 (.aa 111) 61 (.aD []), .a7 (.aa 111) 44 (.dict 43 false []), .a7 (.aa 111) 55 (.dict 44 true []), .a7 (.aa 111) 121 (.val (.none))]⟩
noncomputable def Pk:cu:=⟨[111,122,123,124,125,126,127,128],[ .a7 (.aa 111) 122 (.aa 122), .a7 (.aa 111) 123 (.aa 123), .a7 (.aa 111) 124 (.aa 124), .a7 (.aa 111) 125 (.aa 125), .a7 (.aa 111) 126 (.aa 126), .a7 (.aa 111) 127 (.aa 127), .a7 (.aa 111) 128 (.aa 128)]⟩
def Pl:Nat->cu:=gF (⟨[],[.stuck]⟩) [Oh,p6,B5,B6,Oi,Oj,Ok,Ol,Om,f9,Oo,Oq,Ot,Ou,Ov,Ow,Ox,Oy,Oz,OA,OB,OC,OD,OE,OF,OG,OH,OI,OJ,OK,OL,OM,ON,OO,OP,B7,OQ,OR,OS,OT,OU,OV,OW,OX,OY,OZ,O0,O1,O2,O3,O4,O5,yG,B8,O6,O7,O8,B9,O9,Ca,Pa,Pb,Pc,Pd,Pe,Pf,Pg,Ph,Pj,Pk]
def Hg:Nat->V:=gF .none [ .tup [.str [114,111,111,116], .str [115,117,98], .str [116,97,115,107], .str yF], .int (40), .str [97,98,115,116,114,97,99,116], .int (40), .tup [.int (1), .int (0), .int (2), .int (0), .int (1), .int (2), .int (1), .int (1), .int (2), .int (1), .int (0), .int (2), .int (3), .int (2), .int (4), .int (5), .int (2), .int (0)]]
def Pm:Nat->Nat:=gF 10000 [64,64,65,66,68,67,69]
def Pn:Nat->List S:=gF [.stuck] [[.assign 86 (.dict 27 false [.val (.str me), .bi .rr [.aa 104, .val (.int (60))], .val (.str [97,116]), .val (.int (0))]), .assign 105 (.bh 17 [.val (.str [114,111,111,116]), .val (.none), .val (.none)]), .assign 35 (.new 1 [.val (.str tW), .val (.str [112]), .val (.none), .val (.none), .val (.none), .val (.int (1))]), .expr (.bh 25 [.aa 105, .aa 35]), .unpack [39,97] (.tup [.bh 17 [.val (.str tW), .aa 35, .aa 105], .bh 17 [.val (.str [98,108,111,99,107]), .val (.none), .aa 105]]), .assign 24 (.new 5 [.aa 39, .newD 6 [.int (32), .int (1000000), .int (50), .int (10000), .int (100000), .int (50), .int (1000000)], .val (.none), .dict 28 false [.val (.str [105,110,116,101,103,101,114]), .bh 5 [.bh 4 [.bh 1 [.val (.str [110]), .val (.int (-8)), .val (.int (7))], .val (.int (61))]]]]), .a7 (.aa 24) 31 (.dict 29 false [.val (.str [97,115,32,112,114,105,118,97,116,101]), .val (.fn 54), .val (.str [97,115,32,114,111,119]), .val (.fn 55), .val (.str [97,115,32,109,111,114,101]), .val (.fn 56)]), .ite (.bi .ne [.bh 58 [.aa 24, .val (.str [116]), .tup [.val (.str fa), .val (.bool true), .val (.bool false), .val (.bool false)]], .aD []]) [.stuck] [], .assign 90 (.dict 31 false [.val (.str [116]), .dict 30 false [.val (.str nT), .bi .idx [.bh 30 [.aa 39, .val (.str [116])], .val (.int (0))], .val (.str [115,101,101,110]), .aD [], .val (.str [111,119,110]), .aD [], .val (.str [112,97,114,101,110,116]), .val (.str []), .val (.str [97,108,108]), .val (.none)]]), .assign 106 (.dict 35 false [.val (.str i2), .g5 32 [], .val (.str fa), .g5 33 [], .val (.str rF), .g5 34 []])],[.expr (.bh 18 [.aa 39]), .assign 107 (.bh 52 [.aa 86, .val (.int (6))]), .i0 (.bi .idx [.aa 90, .val (.str [116])]) (.val (.str [97,108,108])) (.oI (.bi .idx [.val (.str [97,98,99,100,101,102,97,98]), .bi .add [.aa 107, .aa 108]]) 108 (.bh 52 [.aa 86, .val (.int (3))]))],[.a7 (.aa 24) 39 (.aa 97)],[.assign 2 (.bi .add [.bi .idx [.aa 98, .val (.int (0))], .bi .idx [.val (.str [49,50,51]), .aa 85]]), .assign 91 (.ite (.bi .ne [.aa 98, .val (.str i2)]) (.bi .add [.bi .add [.aD [.val (.str [116])], .bi .idx [.aa 106, .val (.str i2)]], .bi .idx [.aa 106, .aa 98]]) (.bi .add [.aD [.val (.str [116])], .bi .idx [.aa 106, .aa 98]])), .unpack [110,93] (.bh 60 [.aa 86, .aa 24, .aa 90, .aa 2, .aa 91]), .ite (.or [.not (.aa 110), .not (.aa 93)]) [.ret (.aa 93)] [], .expr (.e1 .append (.bi .idx [.aa 106, .aa 98]) [.aa 2])],[.ite (.bi .ne [.comp none (.aa 2) 2 (.bi .idx [.aa 106, .aa 98]) [.not (.bh 62 [.aa 90, .aa 2, .aa 39, .aa 97, .aa 98])], .aD []]) [.stuck] []],[.ret (.bi .vM [.bh 59 [.bh 34 [.au (.au (.bi .idx [.bi .idx [.aa 90, .val (.str [116])], .val (.str nT)]) 0) 25]], .bi .idx [.bi .idx [.aa 90, .val (.str [116])], .val (.str [97,108,108])]])],[.assign 93 (.and [.bi .eq [.bi .len [.kH 25 (.aa 69) (.val (.int (1))) 69 (.aa 72)], .bi .len [.aa 72]], .bi .eq [.comp none (.aa 69) 69 (.aa 72) [.bi .isin [.aa 69, .bi .l5 [.aa 71, .aa 92]]], .aD []]])],[.assign 93 (.bi .eq [.nP (.aa 69) 2 (.bi .idx [.aa 106, .val (.str i2)]) 69 (.bi .idx [.bi .idx [.aa 90, .aa 2], .val (.str [111,119,110])]) [.bi .isin [.aa 69, .bi .idx [.bi .idx [.aa 90, .val (.str [116])], .val (.str [97,108,108])]]], .aD []])],[.assign 94 (.bh 58 [.aa 24, .val (.str [116]), .tup [.val (.str [114,111,119]), .bi .idx [.bi .idx [.aa 90, .val (.str [116])], .val (.str [97,108,108])]]]), .ite (.or [.bi .isNone [.aa 94], .not (.aa 93)]) [.ret (.and [.bi .isNone [.aa 94], .not (.aa 93)])] [], .assign 109 (.comp none (.au (.au (.au (.bi .idx [.bi .idx [.aa 90, .aa 2], .val (.str nT)]) 0) 25) 23) 2 (.bi .add [.aD [.val (.str [116])], .bi .idx [.aa 106, .val (.str i2)]]) []), .ite (.bi .ne [.comp none (.au (.aa 22) 23) 22 (.aa 94) [], .aa 109]) [.stuck] [], .eL 2 (.bi .idx [.aa 106, .val (.str i2)]) [.expr (.bh 61 [.aa 90, .aa 2])]]]
def P0:ca:=⟨Pl,Hg,Pm,Pn⟩
abbrev rG:Nat:=63
abbrev Cb:Nat:=64
abbrev yH:Nat:=70
noncomputable def Po:List (List Nat):=[[115,117,98,116,121,112,101],[99,111,110,115,116,114,97,105,110,116],[110,97,109,101],[108,111,119],[104,105,103,104],[109,97,100,101],[100,105,115,99,114,105,109,105,110,97,110,116,115],[99,111,109,112,111,110,101,110,116,115],[118,97,114,105,97,110,116],[105,115,95,99,111,110,115,116,114,97,105,110,101,100],[112,97,114,101,110,116],[107,105,110,100],[108,105,116,101,114,97,108,115],[109,111,100,117,108,117,115],[115,109,97,108,108],[105,110,100,101,120],[99,111,109,112,111,110,101,110,116],[100,101,115,105,103,110,97,116,101,100],[105,115,95,99,111,110,115,116,97,110,116],[105,115,95,116,97,103,103,101,100],[105,115,95,108,105,109,105,116,101,100],[111,112,101,114,97,116,105,111,110,115],[116],[110,117,109,98,101,114],[115,99,111,112,101],oU,[114,111,119],[114,111,119,115],[99,111,117,110,116],[100,105,115,99,115],[100,101,102,105,110,105,116,105,111,110],[100,101,99,108,97,114,97,116,105,111,110,115],[119,105,100,101],[105,110,104,101,114,105,116,101,100],[107,101,121],[111,119,110,101,114],[114,101,103,105,111,110],[112,97,114,116],[111,117,116,101,114],[112,108,97,99,101],[104,101,114,101],nT,[102,114,97,109,101],[114,111,111,116],[99,111,117,110,116,115],[117,110,105,113,117,101],[115,116,97,110,100,105,110,103],[110,97,109,101,115],[111,116,104,101,114],[105,115,95,111,118,101,114,114,105,100,100,101,110],[114,105,118,97,108,115],[105,115,95,105,109,112,108,105,99,105,116],[104,111,109,101],[111,114,100,101,114],[105,115,95,114,101,97,100,121],[116,121,112,101,95,104,111,109,101,115],[105,110,110,101,114],[102,111,117,110,100],[97,114,111,117,110,100],tW,[117,115,101,115],[117,115,101,95,116,121,112,101,115],[111,102,102,101,114,101,100],[102,117,108,108],[105,115,95,99,111,109,112,108,101,116,101],[116,117,114,110,115],[98,101,104,105,110,100],[119,97,105,116,105,110,103],[97,110,99,101,115,116,111,114],[111,110,101],[108,105,110,101],[107,110,111,119,110],[111,119,110],[115,117,98,112,114,111,103,114,97,109],[111,118,101,114,114,105,100,101,115],[105,115,95,119,105,116,104,105,110],[100,101,99,108,97,114,97,116,105,111,110],[119,111,114,100],[105,115,95,112,97,114,116,105,97,108],[100,97,116,97],[105,115,95,97,98,115,116,114,97,99,116],[112,97,114,116,105,97,108],[105,115,95,111,119,110,95,97,114,114,97,121],[116,111,108,100],[108,101,118,101,108],[116,117,114,110],[106,97,114],[115,105,100,101,115],[116,121,112,101,115],[105,115,95,112,114,105,118,97,116,101],[98,111,111,107],[99,104,111,105,99,101,115],[104,105,100,100,101,110],[105,115,95,114,105,103,104,116],[104,101,97,114,100],[119,104,111,108,101],[105,115,95,107,110,111,119,110],[98,108,111,99,107],[115,111,114,116],rF,[105,110,115,105,100,101],[116,97,103,115],[104,111,108,100,101,114,115],[116,97,103],[115,99,114,105,112,116],[108,105,98,114,97,114,121],[115,111,114,116,115],[102,105,114,115,116],[97,116],[110,117,109,98,101,114,115],[103,111,101,115],[115,101,108,102],[105,115,95,108,97,116,101],[108,105,109,105,116,115],[99,104,111,111,115,101],[116,121,112,101,100],[115,116,97,116,105,99],[98,117,105,108,100,101,114,115],[119,97,121,115],[115,116,97,116,101,109,101,110,116,115],[117,110,100,101,114,95,119,97,121],[103,101,110,101,114,105,99],[119,105,100,116,104],[115,116,101,112,115],[100,101,112,116,104],[109,101,109,98,101,114,115],[116,101,120,116],[116,97,115,107,115],[104,101,97,112]]
abbrev oV:Nat:=129
noncomputable def Hh:List (List Nat):=[[105,115,95,115,101,116,116,108,101,100],[105,110,116,95,116,121,112,101],[114,101,99,111,114,100,95,116,121,112,101],[100,101,114,105,118,101,100,95,116,121,112,101],[110,117,109,98,101,114,101,100],[119,104,111,108,101,95,115,117,98,116,121,112,101],[115,101,116,116,108,101,100],[105,115,95,100,101,102,105,110,105,116,101],[105,115,95,98,111,120],[105,115,95,108,105,109,105,116,101,100,95,116,121,112,101],[118,97,114,105,97,110,116,95,114,111,119,115],[110,101,119,95,110,117,109,98,101,114],[100,101,102,105,110,101,100,95,115,117,98,116,121,112,101],[99,108,97,115,115,95,111,102],[103,105,118,101,95,110,117,109,98,101,114],[107,101,101,112,95,111,112,101,114,97,116,105,111,110,115],[104,97,115,95,98,101,104,105,110,100],[111,112,101,110,95,114,101,103,105,111,110],[98,101,103,105,110,95,112,114,105,118,97,116,101],[101,110,99,108,111,115,101,115],[102,114,97,109,101,95,114,101,103,105,111,110],[103,105,118,101,95,117,110,105,113,117,101],[115,101,116,116,108,101,95,114,105,118,97,108,115],[100,101,99,108,97,114,101],[109,97,107,101,95,114,101,97,100,121],[100,101,99,108,97,114,101,95,114,101,97,100,121],[110,111,116,101,95,116,121,112,101],[105,115,95,104,105,100,100,101,110],[105,109,109,101,100,105,97,116,101,95,101,110,116,105,116,105,101,115],[111,102,102,101,114,101,100,95,101,110,116,105,116,105,101,115],[108,111,111,107,95,117,112],[118,105,101,119,95,111,102],[117,110,102,105,110,105,115,104,101,100],[102,117,108,108,95,115,117,98,116,121,112,101],[102,117,108,108,95,116,121,112,101],[118,97,114,105,97,110,116,95,110,97,109,101,115],[108,105,110,101,95,111,102,95,116,121,112,101],[105,115,95,100,101,115,99,101,110,100,97,110,116],[99,104,101,99,107,95,110,101,119,95,110,97,109,101,115],[108,97,121,95,98,101,104,105,110,100],[101,120,116,101,110,100,95,116,121,112,101],[108,97,121,95,111,112,101,114,97,116,105,111,110],[105,110,104,101,114,105,116,95,111,112,101,114,97,116,105,111,110,115],[97,102,116,101,114,95,116,121,112,101],[97,98,115,116,114,97,99,116,95,119,111,114,100],[100,101,99,108,97,114,101,95,116,121,112,101],[99,111,109,112,108,101,116,101,95,116,121,112,101],[102,105,108,108,95,101,120,116,101,110,115,105,111,110,115],[99,104,101,99,107,95,102,117,108,108],[112,97,114,116,95,116,121,112,101,115],[104,111,108,100,115,95,116,121,112,101],[99,104,101,99,107,95,108,101,118,101,108,115],[95,108,97,119,95,112,105,99,107],[95,108,97,119,95,114,111,119,115],[95,108,97,119,95,112,114,105,118,97,116,101],[95,108,97,119,95,114,101,99,111,114,100],[95,108,97,119,95,101,120,116,101,110,115,105,111,110],[95,108,97,119,95,111,119,110],[95,108,97,119,95,104,101,97,114,100],[95,108,97,119,95,115,104,111,119,110],[95,108,97,119,95,101,120,116,101,110,100],[95,108,97,119,95,119,104,111,108,101],[95,108,97,119,95,105,115,95,114,105,103,104,116],[108,97,119]]
noncomputable def tY:List Nat:=[144,193,200,207,214,221,233,238,245,252,259,287,294,301,308,315,329,365,372,379,386,393,398,405,412,419,426,433,438,455,460,467,474,481,488,493,500,507,512,519,526,533,540,571,578,585,592,599,604,609,616,621,651,656,663,670,677,682,687,692,697,704,709,714,49,158,179,273,351,636]
noncomputable def Hi:List (List Nat):=[[69,110,116,105,116,121],[69,110,116,105,116,121],[84,121,112,101],[83,117,98,116,121,112,101],[82,101,103,105,111,110],[83,99,111,112,101],[76,105,109,105,116,115]]
noncomputable def tZ:List Nat:=[52,52,161,182,354,276,639]
noncomputable def Cc:List (List Nat):=[[70,82,65,77,69,95,75,73,78,68,83],[77,79,83,84,95,80,82,73,86,65,84,69],[65,66,83,84,82,65,67,84],[77,79,83,84,95,76,69,86,69,76,83],[95,108,97,119,95,114,101,115,116]]
abbrev Cd:Nat:=5
noncomputable def Pp:List Int:=[32,1000000,50,10000,100000,50,1000000]
end
section
open PySem PySem.W PyProof.Rows MeetsSeq PySem.Calls
abbrev cc:=Value->Shared->Prop
noncomputable def aV:= @wpAny_bind
noncomputable def bQ:= @wpAny_pure
noncomputable def cd:= @wpAny_mono
def ha:= @wpAny_standAt
def hI:= @wpAny_holding
def hJ:= @Heap.get?_push_size
def ft:= @Heap.lt_size
def gG:= @sizeLine_eq
structure ch where
 nm:Nat->Str
 bV:Nat
 c8:Nat->Addr
 e2:Nat->Addr
 t4:Nat
 glV:Nat->V
 Ce:Nat->Value
noncomputable def ci(s:List Nat):Str:=⟨s.toArray⟩
noncomputable def rH(x:Expr):Bool:=!Nat.beq x.ctorIdx 26
def gb{T:Type}(g:T->Nat)(i:Nat)(x:T)(f:g x=i->Bool):Bool:= @Bool.rec (λb=>Nat.beq (g x) i=b->Bool) (λx9=>false) (λh=>f (cj h)) (Nat.beq (g x) i) rfl
theorem gp{g:T->Nat}{x:T}{f:g x=i->Bool}{G:Prop}(h:gb g i x f=true)(H:∀q,f q=true->G):G:=
 @Bool.rec (λb=>∀e:Nat.beq (g x) i=b,@Bool.rec (λb=>Nat.beq (g x) i=b->Bool) (λx9=>false) (λh=>f (cj h)) b e=true->G) (λx9 h=>Bool.noConfusion h) (λe h=>H _ h) (Nat.beq (g x) i) rfl h
def Cf(k:BoolOp->List Expr->Pos->Bool)(x:Expr):Bool:=gb Expr.ctorIdx 0 x λh=>Expr.BoolOp.elim x h k
def t5(k:Expr->Operator->Expr->Pos->Bool)(x:Expr):Bool:=gb Expr.ctorIdx 2 x λh=>Expr.BinOp.elim x h k
def Cg(k:UnaryOp->Expr->Pos->Bool)(x:Expr):Bool:=gb Expr.ctorIdx 3 x λh=>Expr.UnaryOp.elim x h k
def Hj(k:Expr->Expr->Expr->Pos->Bool)(x:Expr):Bool:=gb Expr.ctorIdx 5 x λh=>Expr.IfExp.elim x h k
def Hk(k:List (Option Expr)->List Expr->Pos->Bool)(x:Expr):Bool:=gb Expr.ctorIdx 6 x λh=>Expr.Dict.elim x h k
def rI(k:Expr->List Comprehension->Scope->Pos->Bool)(x:Expr):Bool:=gb Expr.ctorIdx 8 x λh=>Expr.ListComp.elim x h k
def Hl(k:Expr->Expr->List Comprehension->Scope->Pos->Bool)(x:Expr):Bool:=gb Expr.ctorIdx 10 x λh=>Expr.DictComp.elim x h k
def Hm(k:Expr->List CmpOp->List Expr->Pos->Bool)(x:Expr):Bool:=gb Expr.ctorIdx 15 x λh=>Expr.Compare.elim x h k
def rJ(k:Expr->List Expr->List Keyword->Pos->Bool)(x:Expr):Bool:=gb Expr.ctorIdx 16 x λh=>Expr.Call.elim x h k
def yI(k:Const->Nat->Pos->Bool)(x:Expr):Bool:=gb Expr.ctorIdx 19 x λh=>Expr.Constant.elim x h k
def oW(k:Expr->Str->Pos->Bool)(x:Expr):Bool:=gb Expr.ctorIdx 20 x λh=>Expr.Attribute.elim x h k
def oX(k:Expr->Expr->Pos->Bool)(x:Expr):Bool:=gb Expr.ctorIdx 21 x λh=>Expr.Subscript.elim x h k
def gq(k:Str->Pos->Bool)(x:Expr):Bool:=gb Expr.ctorIdx 23 x λh=>Expr.Name.elim x h k
def yJ(k:List Expr->Pos->Bool)(x:Expr):Bool:=gb Expr.ctorIdx 24 x λh=>Expr.List.elim x h k
def t6(k:List Expr->Nat->Pos->Bool)(x:Expr):Bool:=gb Expr.ctorIdx 25 x λh=>Expr.Tuple.elim x h k
def Ch(k:Option Expr->Option Expr->Option Expr->Pos->Bool)(x:Expr):Bool:=gb Expr.ctorIdx 26 x λh=>Expr.Slice.elim x h k
def vW(k:Option Expr->Pos->Bool)(x:Stmt):Bool:=gb Stmt.ctorIdx 3 x λh=>Stmt.Return.elim x h k
def rK(k:List Expr->Expr->Pos->Bool)(x:Stmt):Bool:=gb Stmt.ctorIdx 5 x λh=>Stmt.Assign.elim x h k
def yK(k:Expr->Operator->Expr->Pos->Bool)(x:Stmt):Bool:=gb Stmt.ctorIdx 7 x λh=>Stmt.AugAssign.elim x h k
def Ci(k:Expr->Expr->List Stmt->List Stmt->Pos->Bool)(x:Stmt):Bool:=gb Stmt.ctorIdx 9 x λh=>Stmt.For.elim x h k
def Hn(k:Expr->List Stmt->List Stmt->Pos->Bool)(x:Stmt):Bool:=gb Stmt.ctorIdx 11 x λh=>Stmt.While.elim x h k
def Ho(k:Expr->List Stmt->List Stmt->Pos->Bool)(x:Stmt):Bool:=gb Stmt.ctorIdx 12 x λh=>Stmt.If.elim x h k
def Hp(k:Option Expr->Option Expr->Pos->Bool)(x:Stmt):Bool:=gb Stmt.ctorIdx 16 x λh=>Stmt.Raise.elim x h k
def Hq(k:List Stmt->List ExceptHandler->List Stmt->List Stmt->Pos->Bool)(x:Stmt):Bool:=gb Stmt.ctorIdx 17 x λh=>Stmt.Try.elim x h k
def Cj(k:Expr->Pos->Bool)(x:Stmt):Bool:=gb Stmt.ctorIdx 24 x λh=>Stmt.Expr.elim x h k
def Hr(k:Pos->Bool)(x:Stmt):Bool:=gb Stmt.ctorIdx 27 x λh=>Stmt.Continue.elim x h k
noncomputable def t7(x:Operator):Bool:=Nat.beq x.ctorIdx 0
noncomputable def Hs(x:Operator):Bool:=Nat.beq x.ctorIdx 1
noncomputable def Ht(x:Operator):Bool:=Nat.beq x.ctorIdx 5
noncomputable def Hu(x:Operator):Bool:=Nat.beq x.ctorIdx 2
noncomputable def Ck(x:CmpOp):Bool:=Nat.beq x.ctorIdx 0
noncomputable def Cm(x:CmpOp):Bool:=Nat.beq x.ctorIdx 1
noncomputable def Hv(x:CmpOp):Bool:=Nat.beq x.ctorIdx 4
noncomputable def Hw(x:CmpOp):Bool:=Nat.beq x.ctorIdx 6
noncomputable def Hx(x:CmpOp):Bool:=Nat.beq x.ctorIdx 7
noncomputable def Hy(x:CmpOp):Bool:=Nat.beq x.ctorIdx 8
noncomputable def Hz(x:CmpOp):Bool:=Nat.beq x.ctorIdx 9
noncomputable def HA(x:UnaryOp):Bool:=Nat.beq x.ctorIdx 1
noncomputable def HB(x:UnaryOp):Bool:=Nat.beq x.ctorIdx 3
noncomputable def HC(x:BoolOp):Bool:=Nat.beq x.ctorIdx 0
noncomputable def HD(x:BoolOp):Bool:=Nat.beq x.ctorIdx 1
noncomputable def fK{aI:Type}(l:List aI):Bool:=l.casesOn (motive:=λx9=>Bool) true (λx9 x9=>false)
noncomputable def nU{aI:Type}(k:aI->List aI->Bool)(l:List aI):Bool:=l.casesOn (motive:=λx9=>Bool) false (λa r=>k a r)
def hs{aI:Type}(k:aI->Bool)(l:List aI):Bool:=nU (λa r=>fK r&&k a) l
def oY{aI:Type}(k:aI->aI->Bool)(l:List aI):Bool:=nU (λa r=>hs (λb=>k a b) r) l
noncomputable def kJ{aI:Type}(o:Option aI):Bool:=o.casesOn (motive:=λx9=>Bool) true (λx9=>false)
noncomputable def hK{aI:Type}(k:aI->Bool)(o:Option aI):Bool:=o.casesOn (motive:=λx9=>Bool) false (λa=>k a)
def dJ(a b:Str):Bool:=el a.cps.toList b.cps.toList
noncomputable def gr(a b:NameKind):Bool:=Nat.beq a.ctorIdx b.ctorIdx
structure cR where
 nm:Nat->Str
 bV:Nat
 Cn:Nat->Str
 vX:Nat
 Co:Nat->Str
 vY:Nat
 glN:Nat->Str
 t4:Nat
 names:List (Str×NameKind)
 jo:Nat
 oZ:List Int
def p7(x:Str):List (Str×NameKind)->Option NameKind
 |[]=>none
 |(y,k)::r=>match dJ x y with|true=>some k|false=>p7 x r
def fX(names:List (Str×NameKind))(x:Str)(k:NameKind):Bool:=match p7 x names with|some bF=>gr bF k|none=>false
def t8(names:List (Str×NameKind))(x:Str):Bool:=match p7 x names with
 |some .local=>true
 |some .cell=>true
 |some .free=>true
 |_=>false
def ht(x:Str):Bool:=!dJ x "__debug__"&&!dJ x "__classdict__"
def cR.var(ao:cR)(x:Nat)(s:Str):Bool:=Nat.blt x ao.bV&&dJ s (ao.nm x)&&t8 ao.names s&&ht s
def cR.rL(ao:cR)(x:Nat)(s:Str):Bool:=Nat.blt x ao.bV&&dJ s (ao.nm x)
def cR.p8(ao:cR)(s t:Str):Bool:=dJ s t&&fX ao.names s .globalImplicit&&ht s
def HE:V->Const->Bool
 | .none, .none=>true
 | .bool b, .bool c=>vN b c
 | .int i, .int j=>eC i j
 | .str s, .str t=>el s t.cps.toList
 |_,_=>false
def vZ(x:Expr):Bool:=!Nat.beq x.ctorIdx 16||rJ (λx9 xs x9 x9=>!fK xs) x
noncomputable def gc(x:Expr):Bool:=!Nat.beq x.ctorIdx 22
noncomputable def fL(x:Expr):Bool:=!Nat.beq x.ctorIdx 7
noncomputable def i3(a b:Nat):Bool:=Nat.beq a b
def yL:List V->List Int->Bool
 |[],[]=>true
 | .int a::r,b::t=>eC a b&&yL r t
 |_,_=>false
def mX(names:List (Str×NameKind))(aA:List (Str×NameKind)):List (Str×NameKind):=
 aA.map λp=>match gr p.2 .free&&fX names p.1 .cell with|true=>(p.1, .cell)|false=>p
def Pq(aA:List (Str×NameKind)):Bool:=aA.all λp=>!gr p.2 .cell
def Pr(names aA:List (Str×NameKind)):Bool:=aA.all λp=>match gr p.2 .free with|true=>fX names p.1 .cell||fX names p.1 .free|false=>true
def Ps(aA:List (Str×NameKind)):Bool:=aA.all λp=>match gr p.2 .local with|true=>fX aA p.1 .local|false=>true
def yM(x:Str):List Str->Bool
 |[]=>false
 |y::r=>match dJ x y with|true=>true|false=>yM x r
def jq(l:List Str)(aA:List (Str×NameKind)):Bool:=aA.all λp=>match gr p.2 .local with|true=>yM p.1 (".0"::l)|false=>true
noncomputable def Cp:ScopeKind->Bool
 | .function=>true
 |_=>false
def rM(names:List (Str×NameKind))(aA:Scope):Bool:=Cp aA.kind&&Pq aA.names&&Pr names aA.names&&Ps aA.names
noncomputable def HF(e:E)(y:Nat):Bool:=match e with
 | .aa x=>Nat.beq x y
 |_=>false
def HG(e:E)(j:Int):Bool:=match e with
 | .val (.int i)=>eC i j
 |_=>false
def cR.sub(ao:cR)(aA:Scope):cR:={ao with names:=mX ao.names aA.names}
def rN(k:Str->Expr->List Expr->Bool)(g:Comprehension):Bool:=gq (λs x9=>eC g.is_async 0&&k s g.iter g.ifs) g.target
def Cq(ao:cR)(k:Expr->Bool)(x:Expr):Bool:=rJ (λf xs dm x9=>fK dm&&(gq (λs x9=>ao.p8 s "range") f&&hs (λa=>gc a&&k a) xs)) x
def mY(ao:cR)(t:Str)(k:List Expr->Bool)(x:Expr):Bool:=rJ (λf xs dm x9=>fK dm&&(gq (λs x9=>ao.p8 s t) f&&k xs)) x
def nV(o:CmpOp->Bool)(k:Expr->Expr->Bool)(x:Expr):Bool:=Hm (λl nW rs x9=>hs o nW&&hs (λr=>k l r) rs) x
noncomputable def Pt:Const->Bool
 | .none=>true
 |_=>false
noncomputable def Pu(k:Int->Bool):Const->Bool
 | .int i=>k i
 |_=>false
def rO(x:Expr):Bool:=yI (λc x9 x9=>Pt c) x
def Cr(k:Int->Bool)(x:Expr):Bool:=yI (λc x9 x9=>Pu k c) x
noncomputable def Pw(k:Int->Bool):V->Bool
 | .int i=>k i
 |_=>false
noncomputable def Px(k:Nat->Bool):V->Bool
 | .fn i=>k i
 |_=>false
def Cs(ao:cR)(v:V)(x:Expr):Bool:=
 yI (λc x9 x9=>HE v c) x||(Cg (λo x x9=>HB o&&Cr (λj=>Pw (λi=>eC i (-j)) v) x) x||
  gq (λs x9=>Px (λf=>Nat.blt f ao.vX&&ao.p8 s (ao.Cn f)) v) x)
def HH(ao:cR)(ah:List Expr->Bool)(b:jL)(x:Expr):Bool:=match b with
 | .add=>t5 (λl o r x9=>t7 o&&ah [l,r]) x
 | .l5=>t5 (λl o r x9=>t7 o&&ah [l,r]) x
 | .sub=>t5 (λl o r x9=>Hs o&&ah [l,r]) x
 | .mod=>t5 (λl o r x9=>Ht o&&ah [l,r]) x
 | .eq=>nV Ck (λl r=>fL r&&ah [l,r]) x
 | .ne=>nV Cm (λl r=>fL r&&ah [l,r]) x
 | .vM=>nV Ck (λl r=>fL r&&ah [l,r]) x
 | .ro=>nV Cm (λl r=>fL r&&ah [l,r]) x
 | .gt=>nV Hv (λl r=>fL r&&ah [l,r]) x
 | .isNone=>nV Hw (λl r=>rO r&&ah [l]) x
 | .er=>nV Hx (λl r=>rO r&&ah [l]) x
 | .isin=>nV Hy (λl r=>fL r&&ah [l,r]) x
 | .l6=>nV Hz (λl r=>fL r&&ah [l,r]) x
 | .idx=>oX (λo i x9=>rH i&&ah [o,i]) x
 | .rp=>oX (λo i x9=>Ch (λa b c x9=>kJ b&&(kJ c&&hK (λl=>ah [o,l]) a)) i) x
 | .rq=>false
 | .rr=>oX (λo i x9=>Ch (λa b c x9=>kJ a&&(kJ c&&hK (λl=>ah [o,l]) b)) i) x
 | .len=>mY ao "len" ah x
 | .list=>mY ao "list" ah x
 | .nN _=>mY ao "dict" ah x
 | .sorted=>mY ao "sorted" ah x
 | .l7=>false
 | .oH=>false
 | .append=>false
 | .pop=>false
def HI(b:jL)(s:Str):Bool:=match b with
 | .l7=>dJ s "get"
 | .oH=>dJ s "setdefault"
 | .append=>dJ s "append"
 | .pop=>dJ s "pop"
 |_=>false
noncomputable def yN:List (Option Expr)->List Expr->List Expr
 |[],_=>[]
 |k::dm,vs=>k.getD (.Name "?" default)::vs.headD (.Name "?" default)::yN dm vs.tail
def yO:List (Option Expr)->List Expr->Bool
 |[],vs=>fK vs
 |k::dm,vs=>k.isSome&&nU (λx9 r=>yO dm r) vs
mutual
def dw:E->cR->Expr->Bool
 | .stuck,_,_=>true
 | .val v,ao,x=>Cs ao v x
 | .glob g,ao,x=>gq (λs x9=>Nat.blt g ao.t4&&ao.p8 s (ao.glN g)) x
 | .aa y,ao,x=>gq (λs x9=>ao.var y s) x
 | .au e a,ao,x=>oW (λo s x9=>ao.rL a s&&(vZ o&&dw e ao o)) x
 | .bh f args,ao,x=>Nat.blt f ao.vX&&mY ao (ao.Cn f) (λxs=>gR args ao xs) x
 | .new c args,ao,x=>Nat.blt c ao.vY&&mY ao (ao.Co c) (λxs=>gR args ao xs) x
 | .newD c vs,ao,x=>i3 c ao.jo&&(Nat.blt c ao.vY&&(yL vs ao.oZ&&mY ao (ao.Co c) fK x))
 | .tN e args,ao,x=>rJ (λf xs dm x9=>fK dm&&(oX (λo i p=>dw e ao (.Subscript o i p)) f&&gR args ao xs)) x
 | .bi b args,ao,x=>HH ao (λxs=>gR args ao xs) b x
 | .e1 b e args,ao,x=>rJ (λf xs dm p=>fK dm&&oW (λo s ap=>HI b s&&(vZ o&&(i3 ap.endLine p.line&&(Nat.blt xs.length 20&&(dw e ao o&&gR args ao xs))))) f) x
 | .and ah,ao,x=>Cf (λo xs x9=>HC o&&gR ah ao xs) x
 | .or ah,ao,x=>Cf (λo xs x9=>HD o&&gR ah ao xs) x
 | .not a,ao,x=>Cg (λo v x9=>HA o&&dw a ao v) x
 | .ite c a b,ao,x=>Hj (λt u v x9=>dw c ao t&&(dw a ao u&&dw b ao v)) x
 | .tup ah,ao,x=>t6 (λxs x9 x9=>gR ah ao xs) x
 | .aD ah,ao,x=>yJ (λxs x9=>gR ah ao xs) x
 | .g5 _ ah,ao,x=>yJ (λxs x9=>gR ah ao xs) x
 | .dict _ _ kvs,ao,x=>Hk (λdm vs x9=>yO dm vs&&(Nat.ble dm.length 12&&gR kvs ao (yN dm vs))) x
 | .comp _ bP y iter cU,ao,x=>rI (λdx h8 aA x9=>hs (rN λs it ifs=>rM ao.names aA&&(jq [s] aA.names&&(fX aA.names s .local&&(Nat.blt y ao.bV&&(dJ s (ao.nm y)&&(fL it&&(dw iter ao it&&(dw bP (ao.sub aA) dx&&gR cU (ao.sub aA) ifs)))))))) h8) x
 | .oI bP y k,ao,x=>rI (λdx h8 aA x9=>hs (rN λs it ifs=>fK ifs&&(rM ao.names aA&&(jq [s] aA.names&&(fX aA.names s .local&&(Nat.blt y ao.bV&&(dJ s (ao.nm y)&&(Cq ao (λa=>dw k ao a) it&&dw bP (ao.sub aA) dx))))))) h8) x
 | .nP bP y iter aE gQ cU,ao,x=>rI (λdx h8 aA x9=>oY (λgd fm=>rN (λs it HJ=>fK HJ&&rN (λcC it2 ifs=>rM ao.names aA&&(jq [s,cC] aA.names&&(fX aA.names s .local&&(fX aA.names cC .local&&(Nat.blt y ao.bV&&(dJ s (ao.nm y)&&(Nat.blt aE ao.bV&&(dJ cC (ao.nm aE)&&(fL it&&(fL it2&&(!i3 y aE&&
    (dw iter ao it&&(dw gQ (ao.sub aA) it2&&(dw bP (ao.sub aA) dx&&gR cU (ao.sub aA) ifs)))))))))))))) fm) gd) h8) x
 | .kH _ k v y iter,ao,x=>Hl (λrP rQ h8 aA x9=>hs (rN λs it ifs=>fK ifs&&(rM ao.names aA&&(fX aA.names s .local&&(fL it&&(ht s&&(HF k y&&(gq (λb5 x9=>dJ b5 s) rP&&(Cr (λj=>HG v j) rQ&&dw iter ao it)))))))) h8) x
 | .rep e k,ao,x=>t5 (λl o r x9=>Hu o&&yJ (λHK x9=>hs (λa=>gc a&&(dw e ao a&&dw k ao r)) HK) l) x
 | .li y aE,ao,x=>rI (λdx h8 aA x9=>oX (λo i x9=>gq (λb5 x9=>gq (λcC x9=>hs (rN λeD it ifs=>fK ifs&&(gq (λv0 x9=>dJ b5 v0) it&&(rM ao.names aA&&(jq [eD] aA.names&&(dJ cC eD&&(fX aA.names eD .local&&(Nat.blt aE ao.bV&&(dJ eD (ao.nm aE)&&(t8 (mX ao.names aA.names) b5&&(ht eD&&ao.var y b5)))))))))) h8) i) o) dx) x
def gR:List E->cR->List Expr->Bool
 |[],_,xs=>fK xs
 |e::ah,ao,xs=>nU (λx xs=>gc x&&(dw e ao x&&gR ah ao xs)) xs
end
noncomputable def yP(x:Expr):Bool:=!(Nat.ble 8 x.ctorIdx&&Nat.ble x.ctorIdx 10)
def ua(t:Str)(aA:List (Str×NameKind)):Bool:=aA.all λp=>!(dJ p.1 t&&(gr p.2 .local||gr p.2 .cell))
def cR.st(ao:cR)(y:Nat)(s:Str):Bool:=Nat.blt y ao.bV&&dJ s (ao.nm y)&&(fX ao.names s .local||fX ao.names s .cell)
def v1(ao:cR):List Nat->List Expr->Bool
 |[],b2=>fK b2
 |y::dn,b2=>nU (λt b2=>gq (λs x9=>ao.st y s) t&&v1 ao dn b2) b2
noncomputable def Py(x:Expr):Bool:=!Nat.beq x.ctorIdx 25
def Pz(ao:cR)(cM cQ:Nat)(b2:List Expr)(cl cA:Expr):Bool:=oY (λt1 t2=>gq (λb5 p1=>gq (λcC p2=>gc cl&&(gc cA&&(fX ao.names b5 .cell||(fX ao.names b5 .local&&(fX ao.names cC .local&&(i3 p2.line p1.line&&(!i3 cM cQ&&(!foldedForSure 8 cl&&!constantsAlone 8 cl)))))))) t2) t1) b2
def Ct(ao:cR)(dn:List Nat)(b2:List Expr)(x:Expr):Bool:=Py x||oY (λcM cQ=>t6 (λvs x9 x9=>oY (λcl cA=>Pz ao cM cQ b2 cl cA) vs) x) dn
noncomputable def PA:E->Bool
 | .val .none=>true
 |_=>false
noncomputable def HL(e:E):Bool:=match e with| .comp .. =>true| .li .. =>true|_=>false
noncomputable def yQ:S->Option Nat
 | .blk i=>some i
 |_=>none
def PB(k:Str->List Stmt->Bool)(h:ExceptHandler):Bool:= @ExceptHandler.casesOn (λx9=>Bool) h λt nm b x9=>kJ nm&&hK (gq λs x9=>k s b) t
mutual
def Cu(ao:cR)(len:Nat->Nat)(cb:Nat->List Stmt->Bool):S->Stmt->Bool
 | .stuck,_=>true
 | .assign y e,x=>rK (λb2 v x9=>hs (gq λs p=>ao.st y s&&(dw e ao v&&(yP v||(HL e&&(fX ao.names s .local&&rI (λx9 x9 aA pos=>i3 p.line pos.line&&ua s aA.names) v))))) b2) x
 | .unpack dn e,x=>rK (λb2 v x9=>hs (t6 λb2 x9 x9=>v1 ao dn b2&&(dw e ao v&&Ct ao dn b2 v)) b2) x
 | .a7 o a e,x=>rK (λb2 v x9=>hs (oW λb0 s x9=>ao.rL a s&&(dw o ao b0&&dw e ao v)) b2) x
 | .tO o a bS aX e,x=>rK (λb2 v x9=>hs (t6 λb2 x9 x9=>oY (λt1 t2=>oW (λb0 b5 x9=>oW (λjQ cC x9=>t6 (λvs k hL=>oY (λcl cA=>ao.rL a b5&&(ao.rL aX cC&&(gc cl&&(gc cA&&(dw o ao b0&&(dw bS ao jQ&&dw e ao (.Tuple [cl,cA] k hL))))))) vs) v) t2) t1) b2) b2) x
 | .i0 o i e,x=>rK (λb2 v x9=>hs (oX λb0 jR x9=>dw o ao b0&&(dw i ao jR&&dw e ao v)) b2) x
 | .lj y e,x=>yK (λt op v x9=>t7 op&&gq (λs x9=>ao.st y s&&dw e ao v) t) x
 | .pW o a e,x=>yK (λt op v x9=>t7 op&&oW (λb0 s x9=>ao.rL a s&&(dw o ao b0&&dw e ao v)) t) x
 | .rt o i e,x=>yK (λt op v x9=>t7 op&&oX (λb0 jR x9=>rH jR&&(dw o ao b0&&(dw i ao jR&&dw e ao v))) t) x
 | .expr e,x=>Cj (λv x9=>yP v&&dw e ao v) x
 | .ite c t f,x=>Ho (λv ub uc x9=>dw c ao v&&(mf ao len cb t ub&&mf ao len cb f uc)) x
 | .i1 c b,x=>Hn (λv body mZ x9=>fK mZ&&(dw c ao v&&mf ao len cb b body)) x
 | .eL y e b,x=>Ci (λt v body mZ x9=>fK mZ&&gq (λs x9=>ao.st y s&&(fL v&&(dw e ao v&&mf ao len cb b body))) t) x
 | .forR y k b,x=>Ci (λt v body mZ x9=>fK mZ&&gq (λs x9=>ao.st y s&&(Cq ao (λa=>dw k ao a) v&&mf ao len cb b body)) t) x
 | .ret e,x=>vW (λv x9=>hK (λv=>dw e ao v) v||(kJ v&&PA e)) x
 | .cont,x=>Hr (λx9=>true) x
 | .raise ah,x=>Hp (λv c x9=>kJ c&&hK (mY ao "CheckFault" λxs=>gR ah ao xs) v) x
 | .tP e,x=>Hq (λb ar mZ fin x9=>fK mZ&&(fK fin&&hs (vW λv x9=>hs (PB λs ai=>ao.p8 s "CheckFault"&&(hs (vW λr x9=>hK rO r) ai&&hK (λv=>dw e ao v) v)) ar) b)) x
 | .blk _,_=>false
def mf(ao:cR)(len:Nat->Nat)(cb:Nat->List Stmt->Bool):List S->List Stmt->Bool
 |[],xs=>fK xs
 |s::r,xs=>match yQ s with
  |some i=>cb i (xs.take (len i))&&mf ao len cb r (xs.drop (len i))
  |none=>nU (λx xs=>Cu ao len cb s x&&mf ao len cb r xs) xs
end
def HM(ao:cR):List S->List Stmt->Bool:=mf ao (λx9=>0) (λx9 x9=>false)
def ud(ao:cR)(P:ca):List S->List Stmt->Bool:=mf ao (λi=>(P.vT i).length) (λi xs=>HM ao (P.vT i) xs)
def Cv(ao:cR):List Nat->List Str->Bool
 |[],[]=>true
 |x::xs,s::jS=>dJ s (ao.nm x)&&Cv ao xs jS
 |_,_=>false
def Cw:List Nat->Bool
 |[]=>true
 |x::xs=>xs.all (λy=>!i3 x y)&&Cw xs
noncomputable def Cx:Value->Bool
 | .none=>true
 |_=>false
noncomputable def ue:PySem.Data->Option FuncData
 | .func aF=>some aF
 |_=>none
def yR(K:Frag)(k:FuncData->List Stmt->Bool)(a:Addr):Bool:=hK (λo:Obj=>hK (λaF:FuncData=>FuncBody.casesOn (motive:=λx9=>Bool) aF.body (k aF) λx9=>false) (ue o.data)) (K.lookup a)
def Cy(K:Frag)(aF:FuncData)(r:Bool):Bool:=codeIn K aF.code aF.qualname&&(fK aF.closure&&(i3 aF.globals mainGlobals&&(i3 aF.builtins builtinsNs&&(Cp aF.scope.kind&&(!aF.scope.isCoroutine&&(!aF.scope.isGenerator&&(fK aF.params.posonlyargs&&(fK aF.params.kwonlyargs&&(kJ aF.params.vararg&&(kJ aF.params.kwarg&&r))))))))))
def PC(ao:cR)(names:List (Str×NameKind))(x:Nat):Bool:=Nat.blt x ao.bV&&(fX names (ao.nm x) .local||fX names (ao.nm x) .cell)
def HN(K:Frag)(ao:cR)(P:ca)(f:Nat)(a:Addr)(d:Bool):Bool:=yR K (λaF body=>Cy K aF (ud {ao with names:=aF.scope.names} P (P.fns f).body body&&((d||Cx aF.defaults)&&
   (Cv ao (P.fns f).params (aF.params.args.map (·.arg))&&((P.fns f).params.all (PC ao aF.scope.names)&&(Cw (P.fns f).params&&aF.scope.names.all (λp=>!gr p.2 .free))))))) a
def jr(x:Nat):Str:=ci (gF [] Po x)
def ln(K:Frag)(g:Nat):Value:=match nsIn K mainGlobals (ci (gF [] Cc g))with
 |some (some v)=>v
 |_=> .none
def HO(K:Frag):ch:=⟨jr,oV,gF 52 tY,gF 52 tZ,Cd,Hg,ln K⟩
def yS:cR:=⟨jr,oV,λf=>ci (gF [] Hh f),Cb,λc=>ci (gF [] Hi c),7,λg=>ci (gF [] Cc g),Cd,[],6,Pp⟩
noncomputable def nX:Nat->(Nat->Bool)->Bool
 |0,_=>true
 |n+1,f=>nX n f&&f n
noncomputable def Cz(K:Frag)(x:Str)(a:Addr):Bool:=nsIn K mainGlobals x==some (some (.ref a))
noncomputable def o0:Option (Option Value)->Bool
 |some none=>true
 |_=>false
noncomputable def HP:Option (Option Value)->Bool
 |some (some _)=>true
 |_=>false
def HQ(cls y aE:Str)(body:List Stmt):Bool:=
 oY (λb5 cC=>Cj (λc x9=>rJ (λf xs HR kh=>fK HR&&oW (λo ini ap=>gq (λc x9=>dJ c cls&&(dJ ini "__init__"&&oY (λa b=>gq (λa x9=>dJ a "self"&&gq (λb x9=>dJ b "text"&&rK (λb2 v x9=>hs (λt=>oW (λo CA x9=>gq (λs x9=>dJ s "self"&&(dJ CA y&&gq (λCB x9=>dJ CB aE&&i3 ap.endLine kh.line) v)) o) t) b2) cC) b) a) xs)) o) f) c) b5) body
def CC:List Str->List Str->Bool
 |[],[]=>true
 |a::r,b::t=>dJ a b&&CC r t
 |_,_=>false
def CD(K:Frag)(a:Addr)(bR:List Str)(cls y aE:Str):Bool:=yR K (λaF body=>Cy K aF (HQ cls y aE body&&(Cx aF.defaults&&(CC (aF.params.args.map (·.arg)) bR&&(bR.all (λx=>fX aF.scope.names x .local)&&fX aF.scope.names cls .globalImplicit))))) a
def CE(K:Frag)(a:Addr):Option FuncData:=(K.lookup a).bind λo=>ue o.data
def PD:List Str:=(P0.fns 69).params.map jr
noncomputable def HS:List Value:=[.int 32 1126, .int 1000000 1129, .int 50 1130, .int 10000 1133, .int 100000 1136, .int 50 1137, .int 1000000 1140]
def CF:List Value:=[.str (ci [114,111,111,116]) 698, .str (ci [115,117,98]) 699, .str (ci [116,97,115,107]) 700, .str (ci yF) 701]
noncomputable def CG:List Value:=[.int 1 1172, .int 0 1173, .int 2 1174, .int 0 1175, .int 1 1176, .int 2 1177, .int 1 1178, .int 1 1179, .int 2 1180, .int 1 1181, .int 0 1182, .int 2 1183, .int 3 1184, .int 2 1185, .int 4 1186, .int 5 1187, .int 2 1188, .int 0 1189]
noncomputable def yT(vs:List Value):Obj:={cls:= .type "tuple",data:= .seq vs.toArray}
noncomputable def PE:PySem.Data->Option ClassData
 | .cls eb=>some eb
 |_=>none
def CH(K:Frag)(b6:Addr):Bool:=hK (λo:Obj=>hK (λeb=>!eb.abstract&&(!eb.hasDel&&((o.slots.toList[4]?).join==some (.builtin "Exception.__new__")&&(!eb.mro.isEmpty&&(eb.mro.contains (.ref b6)&&(eb.mro.contains (.type "Exception")&&(eb.mro.contains (.type "BaseException")&&
   (!eb.mro.contains (.type "AttributeError")&&(!eb.mro.contains (.type "NameError")&&(specialIn K (.ref b6) "__call__"==some (some (.builtin "type.__call__"))&&instIn K (.ref b6) (.type "type")==some true)))))))))) (PE o.data)) (K.lookup b6)
noncomputable def CI(b6 D:Addr)(l:List Value):Bool:=l==[.ref b6, .ref D, .type "Exception", .type "BaseException", .type "object"]
def rR(K:Frag)(c:Addr):Prop:=findIn K (.ref c) "__getattribute__"=some (some (.builtin "object.__getattribute__"))/\findIn K (.ref c) "__setattr__"=some (some (.builtin "object.__setattr__"))/\plainOver K c=true/\(clsIn K c).any (·.hasDict)=true/\nX oV (λx=>o0 (findIn K (.ref c) (jr x)))=true
def qa(K:Frag)(c:Nat):Prop:=makesIn K (gF 52 tZ c)=true/\findIn K (.ref (gF 52 tZ c)) "__init__"=some (some (.ref (gF 52 tY (P0.g8 c))))/\typeIn K (.ref (gF 52 tY (P0.g8 c)))=some (.type "function")/\keepIn K (.ref (gF 52 tZ c))=true
def rS(K:Frag)(S:Setting)(ay qc:List Value):Prop:=((CE K 636).bind λaF=>peek K S (bindArgs aF ⟨ay,[]⟩))=some (PD.zip (ay++qc))
abbrev cE(K:Frag):Prop:=(nX yH (λf=>HN K yS P0 f (gF 52 tY f) (i3 f 69))=true)/\(rR K 52)/\(rR K 161)/\(rR K 182)/\(rR K 354)/\(rR K 276)/\(rR K 639)/\(qa K 0)/\(qa K 1)/\(qa K 2)/\(qa K 3)/\(qa K 4)/\(qa K 5)/\(qa K 6)/\(nX Cb (λf=>Cz K (ci (gF [] Hh f)) (gF 52 tY f))=true)/\(nX 7 (λc=>Cz K (ci (gF [] Hi c)) (gF 52 tZ c))=true)/\(nX Cd (λg=>HP (nsIn K mainGlobals (ci (gF [] Cc g))))=true)/\(CH K 128=true)/\(findIn K (.ref 128) "__setattr__"=some (some (.builtin "object.__setattr__")))/\((clsIn K 128).any (λeb=>eb.hasDict&&CI 128 108 eb.mro)=true)/\(takerIn K 128 "text"=some none)/\(takerIn K 128 "line"=some none)/\(typeIn K (.ref 128)=some (.type "type"))/\(findIn K (.type "type") "__getattribute__"=some (some (.builtin "type.__getattribute__")))/\(subIn K (.type "type") (.type "type")=some true)/\(findCls K (.type "Exception") (.type "type") "__init__"=some (.val (.builtin "Exception.__init__")))/\(CD K 105 ["self","text"] "Exception" "text" "text"=true)/\(CD K 125 ["self","line","text"] "AdaError" "line" "line"=true)/\((o0 (nsIn K mainGlobals "len")&&o0 (nsIn K mainGlobals "list")&&o0 (nsIn K mainGlobals "dict")&&o0 (nsIn K mainGlobals "sorted")&&o0 (nsIn K mainGlobals "range")&&o0 (nsIn K mainGlobals "Exception"))=true)/\(nsIn K mainGlobals "AdaError"=some (some (.ref 108)))/\(specialIn K (.ref 108) "__getattribute__"=some (some (.builtin "type.__getattribute__")))/\(readsIn K 108 (.type "type")=true)/\(findCls K (.ref 108) (.type "type") "__init__"=some (.val (.ref 105)))/\(findIn K (.ref 128) "__init__"=some (some (.ref 125)))/\(typeIn K (.ref 125)=some (.type "function"))/\(keepIn K (.ref 128)=true)/\(nsIn K mainGlobals "CheckFault"=some (some (.ref 128)))/\(∀S a1 a2 a3 cv ec eV fM gS,rS K S [a1,a2,a3,cv,ec,eV,fM,gS] [])/\(∀S a,rS K S [a] HS)/\((K.lookup 636).isSome=true)/\(K.lookup 337=some (yT CF))/\(K.lookup 644=some (yT CG))/\(ln K 0= .ref 337)/\(ln K 1= .int 40 889)/\(ln K 2= .str (ci [97,98,115,116,114,97,99,116]) 976)/\(ln K 3= .int 40 978)/\(ln K 4= .ref 644)/\(nsIn K mainGlobals "law"=some (some (.ref 714)))
section
variable(x:cE a)
def cE.t1:=x.2.2.2.2.2.2.2.2
def cE.t2:=x.t1.2.2.2.2.2.2.2.2
def cE.t3:=x.t2.2.2.2.2.2.2.2.2
def cE.o1:=x.t3.2.2.2.2.2.2.2.2
def cE.qd:=x.o1.2.2.2.2.2.2.2.2
def cE.fns:=x.1
def cE.CJ:=x.2.1
def cE.PF:=x.2.2.1
def cE.PG:=x.2.2.2.1
def cE.PH:=x.2.2.2.2.1
def cE.PI:=x.2.2.2.2.2.1
def cE.PJ:=x.2.2.2.2.2.2.1
def cE.n0:=x.2.2.2.2.2.2.2.1
def cE.c4:=x.t1.1
def cE.dg:=x.t1.2.1
def cE.hb:=x.t1.2.2.1
def cE.i4:=x.t1.2.2.2.1
def cE.jT:=x.t1.2.2.2.2.1
def cE.mg:=x.t1.2.2.2.2.2.1
def cE.PK:=x.t1.2.2.2.2.2.2.1
def cE.clsR:=x.t1.2.2.2.2.2.2.2.1
def cE.PL:=x.t2.1
def cE.uf:=x.t2.2.1
def cE.v2:=x.t2.2.2.1
def cE.mro:=x.t2.2.2.2.1
def cE.CK:=x.t2.2.2.2.2.1
def cE.noL:=x.t2.2.2.2.2.2.1
def cE.yU:=x.t2.2.2.2.2.2.2.1
def cE.ga:=x.t2.2.2.2.2.2.2.2.1
def cE.sub:=x.t3.1
def cE.found:=x.t3.2.1
def cE.PM:=x.t3.2.2.1
def cE.PN:=x.t3.2.2.2.1
def cE.HT:=x.t3.2.2.2.2.1
def cE.rdD:=x.t3.2.2.2.2.2.1
def cE.gaD:=x.t3.2.2.2.2.2.2.1
def cE.rsD:=x.t3.2.2.2.2.2.2.2.1
def cE.fcD:=x.o1.1
def cE.ini:=x.o1.2.1
def cE.fn:=x.o1.2.2.1
def cE.keepC:=x.o1.2.2.2.1
def cE.rdC:=x.o1.2.2.2.2.1
def cE.PO:=x.o1.2.2.2.2.2.1
def cE.PP:=x.o1.2.2.2.2.2.2.1
def cE.PQ:=x.o1.2.2.2.2.2.2.2.1
def cE.HU:=x.qd.1
def cE.rs:=x.qd.2.1
def cE.PR:=x.qd.2.2.1
def cE.PS:=x.qd.2.2.2.1
def cE.PT:=x.qd.2.2.2.2.1
def cE.PU:=x.qd.2.2.2.2.2.1
def cE.PV:=x.qd.2.2.2.2.2.2.1
def cE.PW:=x.qd.2.2.2.2.2.2.2
end
structure yV where
 prog:Program
 w:World
 B:Heap
 K:Frag
def Ask(c:yV):Prop:=cE c.K->c.K.In c.B->∀(s:Shared)(kK mh:Str->Option Value)(m0:Program)(m1:List Str)(a:Addr)(xs:List Int)(p:Params)(R:Result->Shared->Prop)(yW:Addr),s.heap=c.B->TopRead m0 m1 kK mh s.heap->xs.length<=63->Well p s.heap (.ref a) (ofPy (PyData.list (xs.map PyData.int)))->
 (∀h' aR,(∀b o,s.heap.get? b=some o->h'.get? b=some o)->R (.ok (.ret (.bool true))) {s with heap:=h',toks:=aR})->kK "law"=some (.ref yW)->codeAny (model c.prog c.w) callerA (.call (.ref yW) ⟨[.ref a],[]⟩) R s
def cell:yV:= @Classical.epsilon yV ⟨⟨default,aWorld 0,default,default⟩⟩ λc=>¬Ask c
theorem PX(h:Ask cell)(c:yV):Ask c:=kd λn=>Classical.epsilon_spec (p:=λc=>¬Ask c) ⟨c,n⟩ h
@[irreducible] noncomputable def prog:Program:=cell.prog
@[irreducible] noncomputable def w:World:=cell.w
@[irreducible] noncomputable def B:Heap:=cell.B
@[irreducible] noncomputable def K:Frag:=cell.K
@[irreducible] def T:ch:=HO K
@[irreducible] noncomputable def b6:Addr:=128
theorem PY:cell.prog=prog:=by unfold prog;rfl
theorem w_eq:cell.w=w:=by unfold w;rfl
theorem PZ:cell.B=B:=by unfold B;rfl
theorem K_eq:cell.K=K:=by unfold K;rfl
theorem qe:T=HO K:=by unfold T;rfl
theorem o2:b6=128:=by unfold b6;rfl
theorem ne{a:Type}[i:Nonempty a]:Nonempty a:=i
theorem hc:Nonempty St:=⟨St.empty⟩
theorem o3:Nonempty bT:=⟨⟨λx9 x9 x9=> .stuck,λx9 x9 x9=> .stuck⟩⟩
theorem v3:Nonempty ca:=⟨P0⟩
theorem ug:Nonempty PySem.Shared:=⟨{}⟩
theorem HV:Nonempty E:=⟨.stuck⟩
theorem m2:Nonempty PySem.Around:=⟨PySem.callerA⟩
theorem P1:Nonempty PySem.Drawn:=⟨{}⟩
theorem P2:Nonempty PySem.Model:=⟨PySem.model prog w⟩
theorem GE{aI:Type}{P:aI->Prop}{i:Nonempty aI}{t:aI}(q:t= @Classical.epsilon aI i P)(o:¬P t)(y:aI):¬P y:=λn=>o (q▸Classical.epsilon_spec ⟨y,n⟩)
section
open PySem PySem.W PyProof.Rows MeetsSeq PySem.Calls
section
variable{aH a1 a2 a3 cv ec eV fM gS a9 mi rT:Type}(n0:Nonempty aH)(c4:Nonempty a1)(dg:Nonempty a2)(hb:Nonempty a3)(i4:Nonempty cv)(jT:Nonempty ec)(mg:Nonempty eV)(qf:Nonempty fM)(uh:Nonempty gS)(n9:Nonempty a9)(yX:Nonempty mi)(HW:Nonempty rT)(fu:aH)(gT:a1)(e3:a2)(hM:a3)(kL:cv)(jU:ec)(i5:eV)(cm:fM)(be:gS)(x9:a9)(yY:mi)(HX:rT)
def HY(p:aH->Prop)(m:aH):Prop:=p m
noncomputable def P4(p:aH->Prop):aH:= @Classical.epsilon _ ⟨cB n0⟩ λm=>¬HY p m
theorem o4{p:aH->Prop}(o:p fu)(q:fu=P4 n0 p):∀d5,p d5:=λd5=>kd (GE q (· o) d5)
def HZ(p:aH->a1->Prop)(m:aH×a1):Prop:=HY (p m.1) m.2
noncomputable def P5(p:aH->a1->Prop):aH×a1:= @Classical.epsilon _ ⟨(cB n0,cB c4)⟩ λm=>¬HZ p m
theorem qg{p:aH->a1->Prop}(o:p fu gT)(q:(fu,gT)=P5 n0 c4 p):∀d5 cM,p d5 cM:=λd5 cM=>kd (GE q (· o) (d5,cM))
def H0(p:aH->a1->a2->Prop)(m:aH×a1×a2):Prop:=HZ (p m.1) m.2
noncomputable def CL(p:aH->a1->a2->Prop):aH×a1×a2:= @Classical.epsilon _ ⟨(cB n0,cB c4,cB dg)⟩ λm=>¬H0 p m
theorem v4{p:aH->a1->a2->Prop}(o:p fu gT e3)(q:(fu,gT,e3)=CL n0 c4 dg p):∀d5 cM cQ,p d5 cM cQ:=λd5 cM cQ=>kd (GE q (· o) (d5,cM,cQ))
def H1(p:aH->a1->a2->a3->Prop)(m:aH×a1×a2×a3):Prop:=H0 (p m.1) m.2
noncomputable def P6(p:aH->a1->a2->a3->Prop):aH×a1×a2×a3:= @Classical.epsilon _ ⟨(cB n0,cB c4,cB dg,cB hb)⟩ λm=>¬H1 p m
theorem P7{p:aH->a1->a2->a3->Prop}(o:p fu gT e3 hM)(q:(fu,gT,e3,hM)=P6 n0 c4 dg hb p):∀d5 cM cQ fv,p d5 cM cQ fv:=λd5 cM cQ fv=>kd (GE q (· o) (d5,cM,cQ,fv))
def H2(p:aH->a1->a2->a3->cv->Prop)(m:aH×a1×a2×a3×cv):Prop:=H1 (p m.1) m.2
noncomputable def P8(p:aH->a1->a2->a3->cv->Prop):aH×a1×a2×a3×cv:= @Classical.epsilon _ ⟨(cB n0,cB c4,cB dg,cB hb,cB i4)⟩ λm=>¬H2 p m
theorem rU{p:aH->a1->a2->a3->cv->Prop}(o:p fu gT e3 hM kL)(q:(fu,gT,e3,hM,kL)=P8 n0 c4 dg hb i4 p):∀d5 cM cQ fv gf,p d5 cM cQ fv gf:=λd5 cM cQ fv gf=>kd (GE q (· o) (d5,cM,cQ,fv,gf))
def H3(p:aH->a1->a2->a3->cv->ec->Prop)(m:aH×a1×a2×a3×cv×ec):Prop:=H2 (p m.1) m.2
noncomputable def Qa(p:aH->a1->a2->a3->cv->ec->Prop):aH×a1×a2×a3×cv×ec:= @Classical.epsilon _ ⟨(cB n0,cB c4,cB dg,cB hb,cB i4,cB jT)⟩ λm=>¬H3 p m
theorem rV{p:aH->a1->a2->a3->cv->ec->Prop}(o:p fu gT e3 hM kL jU)(q:(fu,gT,e3,hM,kL,jU)=Qa n0 c4 dg hb i4 jT p):∀d5 cM cQ fv gf hd,p d5 cM cQ fv gf hd:=λd5 cM cQ fv gf hd=>kd (GE q (· o) (d5,cM,cQ,fv,gf,hd))
def H4(p:aH->a1->a2->a3->cv->ec->eV->Prop)(m:aH×a1×a2×a3×cv×ec×eV):Prop:=H3 (p m.1) m.2
noncomputable def Qb(p:aH->a1->a2->a3->cv->ec->eV->Prop):aH×a1×a2×a3×cv×ec×eV:= @Classical.epsilon _ ⟨(cB n0,cB c4,cB dg,cB hb,cB i4,cB jT,cB mg)⟩ λm=>¬H4 p m
theorem H5{p:aH->a1->a2->a3->cv->ec->eV->Prop}(o:p fu gT e3 hM kL jU i5)(q:(fu,gT,e3,hM,kL,jU,i5)=Qb n0 c4 dg hb i4 jT mg p):∀d5 cM cQ fv gf hd iA,p d5 cM cQ fv gf hd iA:=λd5 cM cQ fv gf hd iA=>kd (GE q (· o) (d5,cM,cQ,fv,gf,hd,iA))
def H6(p:aH->a1->a2->a3->cv->ec->eV->fM->Prop)(m:aH×a1×a2×a3×cv×ec×eV×fM):Prop:=H4 (p m.1) m.2
noncomputable def Qc(p:aH->a1->a2->a3->cv->ec->eV->fM->Prop):aH×a1×a2×a3×cv×ec×eV×fM:= @Classical.epsilon _ ⟨(cB n0,cB c4,cB dg,cB hb,cB i4,cB jT,cB mg,cB qf)⟩ λm=>¬H6 p m
theorem v5{p:aH->a1->a2->a3->cv->ec->eV->fM->Prop}(o:p fu gT e3 hM kL jU i5 cm)(q:(fu,gT,e3,hM,kL,jU,i5,cm)=Qc n0 c4 dg hb i4 jT mg qf p):∀d5 cM cQ fv gf hd iA ki,p d5 cM cQ fv gf hd iA ki:=λd5 cM cQ fv gf hd iA ki=>kd (GE q (· o) (d5,cM,cQ,fv,gf,hd,iA,ki))
def H7(p:aH->a1->a2->a3->cv->ec->eV->fM->gS->Prop)(m:aH×a1×a2×a3×cv×ec×eV×fM×gS):Prop:=H6 (p m.1) m.2
noncomputable def L9(p:aH->a1->a2->a3->cv->ec->eV->fM->gS->Prop):aH×a1×a2×a3×cv×ec×eV×fM×gS:= @Classical.epsilon _ ⟨(cB n0,cB c4,cB dg,cB hb,cB i4,cB jT,cB mg,cB qf,cB uh)⟩ λm=>¬H7 p m
theorem CM{p:aH->a1->a2->a3->cv->ec->eV->fM->gS->Prop}(o:p fu gT e3 hM kL jU i5 cm be)(q:(fu,gT,e3,hM,kL,jU,i5,cm,be)=L9 n0 c4 dg hb i4 jT mg qf uh p):∀d5 cM cQ fv gf hd iA ki m3,p d5 cM cQ fv gf hd iA ki m3:=λd5 cM cQ fv gf hd iA ki m3=>kd (GE q (· o) (d5,cM,cQ,fv,gf,hd,iA,ki,m3))
def Qd(p:aH->a1->a2->a3->cv->ec->eV->fM->gS->a9->Prop)(m:aH×a1×a2×a3×cv×ec×eV×fM×gS×a9):Prop:=H7 (p m.1) m.2
def H8(p:aH->a1->a2->a3->cv->ec->eV->fM->gS->a9->mi->Prop)(m:aH×a1×a2×a3×cv×ec×eV×fM×gS×a9×mi):Prop:=Qd (p m.1) m.2
noncomputable def Qe(p:aH->a1->a2->a3->cv->ec->eV->fM->gS->a9->mi->Prop):aH×a1×a2×a3×cv×ec×eV×fM×gS×a9×mi:= @Classical.epsilon _ ⟨(cB n0,cB c4,cB dg,cB hb,cB i4,cB jT,cB mg,cB qf,cB uh,cB n9,cB yX)⟩ λm=>¬H8 p m
theorem Qf{p:aH->a1->a2->a3->cv->ec->eV->fM->gS->a9->mi->Prop}(o:p fu gT e3 hM kL jU i5 cm be x9 yY)(q:(fu,gT,e3,hM,kL,jU,i5,cm,be,x9,yY)=Qe n0 c4 dg hb i4 jT mg qf uh n9 yX p):∀d5 cM cQ fv gf hd iA ki m3 y9 rW,p d5 cM cQ fv gf hd iA ki m3 y9 rW:=λd5 cM cQ fv gf hd iA ki m3 y9 rW=>kd (GE q (· o) (d5,cM,cQ,fv,gf,hd,iA,ki,m3,y9,rW))
def Qg(p:aH->a1->a2->a3->cv->ec->eV->fM->gS->a9->mi->rT->Prop)(m:aH×a1×a2×a3×cv×ec×eV×fM×gS×a9×mi×rT):Prop:=H8 (p m.1) m.2
noncomputable def Qh(p:aH->a1->a2->a3->cv->ec->eV->fM->gS->a9->mi->rT->Prop):aH×a1×a2×a3×cv×ec×eV×fM×gS×a9×mi×rT:= @Classical.epsilon _ ⟨(cB n0,cB c4,cB dg,cB hb,cB i4,cB jT,cB mg,cB qf,cB uh,cB n9,cB yX,cB HW)⟩ λm=>¬Qg p m
theorem rX{p:aH->a1->a2->a3->cv->ec->eV->fM->gS->a9->mi->rT->Prop}(o:p fu gT e3 hM kL jU i5 cm be x9 yY HX)(q:(fu,gT,e3,hM,kL,jU,i5,cm,be,x9,yY,HX)=Qh n0 c4 dg hb i4 jT mg qf uh n9 yX HW p):∀d5 cM cQ fv gf hd iA ki m3 y9 rW CN,p d5 cM cQ fv gf hd iA ki m3 y9 rW CN:=λd5 cM cQ fv gf hd iA ki m3 y9 rW CN=>kd (GE q (· o) (d5,cM,cQ,fv,gf,hd,iA,ki,m3,y9,rW,CN))
end
end
theorem b3{G:Prop}(h:false=true):G:=Bool.noConfusion h
noncomputable abbrev bX:=Nat->Option (Addr×Addr)
noncomputable abbrev bY:=Addr->Option (Bool×List Value)
noncomputable def SeqAt(h:Heap)(a:Addr)(t:Bool)(vs:List Value):Prop:=
 ∃n,h.get? a=some {cls:= .type (if t then "tuple"else "list"),data:= .seq vs.toArray n}
mutual
inductive Den(I:bX)(Z:bY):V->Value->Prop
 |none:Den I Z .none .none
 |bool (b:Bool):Den I Z (.bool b) (.bool b)
 |int (i:Int) (t:Tok):Den I Z (.int i) (.int i t)
 |str (s:List Nat) (t:Tok):Den I Z (.str s) (.str (ci s) t)
 |ref {id:Nat} {a d:Addr}:I id=some (a,d)->Den I Z (.ref id) (.ref a)
 |tup {l:List V} {a:Addr} {vs:List Value}:Z a=some (true,vs)->bn I Z l vs->Den I Z (.tup l) (.ref a)
 |aD {b:Nat} {l:List V} {a:Addr} {vs:List Value}:Z a=some (false,vs)->bn I Z l vs->l.length<=b->Den I Z (.aD b l) (.ref a)
 |fn (f:Nat):Den I Z (.fn f) (.ref (T.c8 f))
inductive bn(I:bX)(Z:bY):List V->List Value->Prop
 |nil:bn I Z [] []
 |cons {v:V} {w:Value} {l:List V} {vs:List Value}:Den I Z v w->bn I Z l vs->bn I Z (v::l) (w::vs)
end
section
variable{I:bX}{Z:bY}{u:Value}{ev:List Value}{G:Value->Prop}{qh:List Value->Prop}
@[elab_as_elim] theorem Den.fb(d:Den I Z (.int i) u)(H:∀t,G (.int i t)):G u:=by cases d;exact H _
@[elab_as_elim] theorem Den.gU(d:Den I Z (.str s) u)(H:∀t,G (.str (ci s) t)):G u:=by cases d;exact H _
@[elab_as_elim] theorem Den.yZ(d:Den I Z (.bool b) u)(H:G (.bool b)):G u:=by cases d;exact H
@[elab_as_elim] theorem Den.mj(d:Den I Z .none u)(H:G .none):G u:=by cases d;exact H
@[elab_as_elim] theorem Den.Qi{id:Nat}(d:Den I Z (.ref id) u)(H:∀a d,I id=some (a,d)->G (.ref a)):G u:=by cases d with|ref h=>exact H _ _ h
@[elab_as_elim] theorem Den.CO(d:Den I Z (.tup l) u)(H:∀a vs,Z a=some (true,vs)->bn I Z l vs->G (.ref a)):G u:=by cases d with|tup h k=>exact H _ _ h k
@[elab_as_elim] theorem Den.v6(d:Den I Z (.aD b l) u)(H:∀a vs,Z a=some (false,vs)->bn I Z l vs->l.length<=b->G (.ref a)):G u:=by cases d with|aD h k e=>exact H _ _ h k e
@[elab_as_elim] theorem bn.nY(d:bn I Z [] ev)(H:qh []):qh ev:=by cases d;exact H
@[elab_as_elim] theorem bn.kM(d:bn I Z (v::l) ev)(H:∀a ay,Den I Z v a->bn I Z l ay->qh (a::ay)):qh ev:=by cases d with|cons a b=>exact H _ _ a b
@[elab_as_elim] theorem bn.o5(d:bn I Z [v] ev)(H:∀a,Den I Z v a->qh [a]):qh ev:=d.kM λa x9 h k=>k.nY (H a h)
@[elab_as_elim] theorem bn.y0(d:bn I Z [v,v'] ev)(H:∀a b,Den I Z v a->Den I Z v' b->qh [a,b]):qh ev:=d.kM λa x9 h k=>k.o5 λb h'=>H a b h h'
end
def he(I κ':bX):Prop:=∀id p,I id=some p->κ' id=some p
def hg(Z Z':bY):Prop:=∀a p,Z a=some p->Z' a=some p
theorem he.refl(I:bX):he I I:=λx9 x9 h=>h
theorem hg.refl(Z:bY):hg Z Z:=λx9 x9 h=>h
theorem he.trans(x:he a b)(y:he b c):he a c:=λi p h=>y i p (x i p h)
theorem hg.trans(x:hg a b)(y:hg b c):hg a c:=λi p h=>y i p (x i p h)
theorem Den.mono(ag:he I κ')(hz:hg Z Z'){w:Value}(d:Den I Z v w):Den κ' Z' v w:=
 @Den.rec I Z (λv w x9=>Den κ' Z' v w) (λl vs x9=>bn κ' Z' l vs) .none .bool .int .str (λh=> .ref (ag _ _ h)) (λh x9 ih=> .tup (hz _ _ h) ih) (λh x9 b ih=> .aD (hz _ _ h) ih b) .fn .nil (λx9 x9 a b=> .cons a b) v w d
theorem bn.mono(ag:he I κ')(hz:hg Z Z')(d:bn I Z l vs):bn κ' Z' l vs:=
 @bn.rec I Z (λv w x9=>Den κ' Z' v w) (λl vs x9=>bn κ' Z' l vs) .none .bool .int .str (λh=> .ref (ag _ _ h)) (λh x9 ih=> .tup (hz _ _ h) ih) (λh x9 b ih=> .aD (hz _ _ h) ih b) .fn .nil (λx9 x9 a b=> .cons a b) l vs d
theorem bn.length(h:bn I Z l vs):l.length=vs.length:=by
 induction l generalizing vs with
 |nil=>exact h.nY rfl
 |cons v l ih=>exact h.kM λa ay x9 t=>bz (·+1) (ih t)
theorem bn.append(h:bn I Z l vs)(k:bn I Z m dK):bn I Z (l++m) (vs++dK):=by
 induction l generalizing vs with
 |nil=>exact h.nY k
 |cons v l ih=>exact h.kM λa ay d t=> .cons d (ih t)
theorem bn.get(h:bn I Z l vs){i:Nat}(e:l[i]?=some v):∃w,vs[i]?=some w/\Den I Z v w:=by
 induction l generalizing vs i with
 |nil=>exact ns e
 |cons x l ih=>
  cases i with
  |zero=>obtain rfl:=a8 e;exact h.kM λa ay d t=>(bq a rfl d)
  |succ j=>exact h.kM λa ay d t=>ih t e
theorem bn.drop(h:bn I Z l vs)(n:Nat):bn I Z (l.drop n) (vs.drop n):=by
 induction n generalizing l vs with
 |zero=>exact h
 |succ n ih=>cases l with
  |nil=>exact h.nY .nil
  |cons v l=>exact h.kM λa ay d t=>ih t
theorem bn.take(h:bn I Z l vs)(n:Nat):bn I Z (l.take n) (vs.take n):=by
 induction n generalizing l vs with
 |zero=>exact .nil
 |succ n ih=>cases l with
  |nil=>exact h.nY .nil
  |cons v l=>exact h.kM λa ay d t=> .cons d (ih t)
theorem bn.snoc{w:Value}(h:bn I Z l vs)(k:Den I Z v w):bn I Z (l++[v]) (vs++[w]):=h.append (.cons k .nil)
theorem bn.dropLast(h:bn I Z l vs):bn I Z l.dropLast vs.dropLast:=by refine ab List.dropLast_eq_take (ab List.dropLast_eq_take (ab h.length ?_));exact h.take _
theorem bn.getLast(h:bn I Z l vs)(e:l.getLast?=some v):∃w,vs.getLast?=some w/\Den I Z v w:=by rw[List.getLast?_eq_getElem?]at e⊢;refine bM h.length ?_;exact h.get e
class inductive gV(I:bX)(Z:bY):List (List Nat×V)->List (Str×Value)->Prop
 |nil:gV I Z [] []
 |cons {k:List Nat} {v:V} {w:Value} {ah:List (List Nat×V)} {kvs:List (Str×Value)}:Den I Z v w->gV I Z ah kvs->gV I Z ((k,v)::ah) ((ci k,w)::kvs)
class inductive iB(I:bX)(Z:bY):List (Int×V)->List (Int×Value)->Prop
 |nil:iB I Z [] []
 |cons {k:Int} {v:V} {w:Value} {ah:List (Int×V)} {kvs:List (Int×Value)}:Den I Z v w->iB I Z ah kvs->iB I Z ((k,v)::ah) ((k,w)::kvs)
theorem gV.mono(ag:he I κ')(hz:hg Z Z')(h:gV I Z ah kvs):gV κ' Z' ah kvs:=by
 induction h with
 |nil=>exact .nil
 |cons a be ih=>exact .cons (a.mono ag hz) ih
theorem iB.mono(ag:he I κ')(hz:hg Z Z')(h:iB I Z ah kvs):iB κ' Z' ah kvs:=by
 induction h with
 |nil=>exact .nil
 |cons a be ih=>exact .cons (a.mono ag hz) ih
theorem gV.length(h:gV I Z ah kvs):ah.length=kvs.length:=by induction h with|nil=>rfl|cons be cm ih=>simp[ih]
theorem iB.length(h:iB I Z ah kvs):ah.length=kvs.length:=by induction h with|nil=>rfl|cons be cm ih=>simp[ih]
def hN(I:bX)(Z:bY)(h:Heap)(a d:Addr):O->Prop
 | .inst c b1 Y=>(∃b0,h.get? a=some b0/\b0.cls= .ref (T.e2 c)/\b0.dict=some d/\b0.data= .plain)/\
   (∃ds ah ep m,h.get? d=some ds/\ds.cls= .type "dict"/\ds.data= .dict ah ep/\ah.size<=b1/\h.Ns d m/\
    ∀x v,dk x Y=some v->∃u,m (T.nm x)=some u/\Den I Z v u)/\∀x v,dk x Y=some v->x<T.bV
 | .list b l=>d=a/\∃vs,SeqAt h a false vs/\bn I Z l vs/\l.length<=b
 | .ba b ah=>d=a/\∃kvs,h.DictOf (strKind prog w) a kvs/\gV I Z ah kvs/\ah.length<=b
 | .ck b ah=>d=a/\∃kvs,h.DictOf (intKind prog w) a kvs/\iB I Z ah kvs/\ah.length<=b
def ew(I:bX)(z:St)(b:Addr):Prop:=∃id a d,z.heap id≠none/\I id=some (a,d)/\(b=a\/b=d)
structure bu(I:bX)(Z:bY)(z:St)(h:Heap):Prop where
 base:B.StaysIn h
 frz:∀a t vs,Z a=some (t,vs)->SeqAt h a t vs
 obj:∀id o,z.heap id=some o->∃a d,I id=some (a,d)/\hN I Z h a d o
 apart:∀i j a d aX dy,i≠j->z.heap i≠none->z.heap j≠none->I i=some (a,d)->I j=some (aX,dy)->a≠aX/\a≠dy/\d≠aX/\d≠dy
 out:∀b,ew I z b->Z b=none/\B.get? b=none
 fresh:∀k i,k<64->z.nx k<=i->i<1024->I (k*1024+i)=none
 gl:∀g,g<T.t4->Den I Z (T.glV g) (T.Ce g)
 sys:∀b,ew I z b->b≠sysModules
 low:∃a o,sysModules<a/\B.get? a=some o
noncomputable def Kept(l:Prop)(o:Obj)(x:Option Obj):Prop:=∃ed,x=some {o with slots:=ed}/\(¬l->ed=o.slots)
theorem Kept.refl(l:Prop)(o:Obj):Kept l o (some o):=(bq o.slots rfl (λx9=>rfl))
theorem Kept.of_eq(e:x=some o):Kept l o x:=e▸ .refl l o
theorem Kept.trans(a:Kept l o x)(b:∀bS,x=some bS->Kept l bS y):Kept l o y:=by refine a4 a ?_;try clear a;rintro ed rfl e;refine a4 (b _ rfl) ?_;intro Qj cy ey;refine ab cy ?_;exact bq Qj rfl (λn=>(ey n).trans (e n))
theorem Kept.exact(a:Kept l o x)(n:¬l):x=some o:=by refine a4 a ?_;try clear a;intro ed cy e;refine c0 cy ?_;exact ab (e n) rfl
theorem Kept.there(a:Kept l o x):∃bS,x=some bS/\bS.data=o.data/\bS.cls=o.cls:=by refine a4 a ?_;try clear a;rintro ed rfl e;exact fW _ rfl rfl rfl
theorem Kept.mono(a:Kept l o x)(k:l->i6):Kept i6 o x:=
 a4 a λed e f=>(bq ed e (λn=>f λq=>n (k q)))
structure ee(I:bX)(Z:bY)(z:St)(h:Heap)(κ':bX)(Z':bY)(σ':St)(h':Heap):Prop where
 kle:he I κ'
 zle:hg Z Z'
 keep:∀b o,h.get? b=some o->¬ew I z b->h'.get? b=some o
 foot:∀b,ew κ' σ' b->ew I z b\/h.objs.size<=b
 zed:∀b,Z' b≠none->Z b≠none\/h.objs.size<=b
 size:h.objs.size<=h'.objs.size
theorem ee.refl(I:bX)(Z:bY)(z:St)(h:Heap):ee I Z z h I Z z h:=⟨.refl _, .refl _,λx9 x9 e x9=>e,λx9 x=> .inl x,λx9 x=> .inl x,b8 _⟩
theorem SeqAt.same(x:SeqAt h a t vs)(e:h'.get? a=h.get? a):SeqAt h' a t vs:=
 cL x λn as=>⟨n,e.trans as⟩
theorem SeqAt.isList(x:SeqAt h a false vs):h.IsList a vs.toArray:=cL x λn as=>⟨_,as,rfl,n,rfl⟩
theorem SeqAt.isTup(x:SeqAt h a true vs):IsTup h a vs.toArray:=cL x λn as=>⟨_,as,rfl,n,rfl⟩
theorem SeqAt.qi(x:SeqAt h a false vs):∃n,IsL h a vs.toArray n:=x
theorem SeqAt.lt(x:SeqAt h a t vs):a<h.objs.size:=cL x λx9 as=>ft as
section
theorem hN.same(x:hN I Z h a d o)(kN:h'.get? a=h.get? a)(rY:h'.get? d=h.get? d):hN I Z h' a d o:=by
 revert o x kN rY;revert I Z h h' a d;refine@(rV ne ne ne ne ne ne ?κ9 ?Z9 ?h9 ?h'9 ?a9 ?d9 ?_ ?_)
 rotate_left 6
 (
 intro o x kN rY
 cases o with
 |inst c b1 Y=>refine eU x ?_;try clear x;intro dZ dh hO;refine a4 dZ ?_;try clear dZ;intro b0 ae dR;refine vH dh ?_;try clear dh;rintro ds ah ep m af eM gg hh ⟨bS,dD,kj,ax,iC⟩ ib;exact fs (bq b0 (kN.trans ae) dR) ⟨ds,ah,ep,m,rY.trans af,eM,gg,hh,(mV bS dD kj (rY.trans ax) iC),ib⟩ hO
 |list b l=>obtain⟨e,vs,ae,r⟩:=x;exact⟨e,vs,ae.same kN,r⟩
 |ba b ah=>obtain⟨e,kvs,v7,r⟩:=x;refine fl v7 ?_;try clear v7;intro o dD ep ae dR;exact⟨e,kvs,(mV o dD ep (kN.trans ae) dR),r⟩
 |ck b ah=>
  obtain⟨e,kvs,v7,r⟩:=x;refine fl v7 ?_;try clear v7;intro o dD ep ae dR
  exact⟨e,kvs,(mV o dD ep (kN.trans ae) dR),r⟩)
 rfl
theorem hN.mono(x:hN I Z h a d o)(ag:he I κ')(hz:hg Z Z'):hN κ' Z' h a d o:=by
 cases o with
 |inst c b1 Y=>refine eU x ?_;try clear x;intro h0 dh hO;refine vH dh ?_;try clear dh;intro ds ah ep m af eM gg hh iC ib;exact fs h0 ⟨ds,ah,ep,m,af,eM,gg,hh,iC,λx v e=>a4 (ib x v e) λu a1 a2=>(bq u a1 (a2.mono ag hz))⟩ hO
 |list b l=>obtain⟨e,vs,ae,dR,eM⟩:=x;exact⟨e,vs,ae,dR.mono ag hz,eM⟩
 |ba b ah=>obtain⟨e,kvs,ae,dR,eM⟩:=x;exact⟨e,kvs,ae,dR.mono ag hz,eM⟩
 |ck b ah=>obtain⟨e,kvs,ae,dR,eM⟩:=x;exact⟨e,kvs,ae,dR.mono ag hz,eM⟩
theorem hN.there(x:hN I Z h a d o):(∃x,h.get? a=some x)/\∃x,h.get? d=some x:=by
 cases o with
 |inst c b1 Y=>refine eU x ?_;try clear x;intro dZ dh x9;refine a4 dZ ?_;try clear dZ;intro b0 ae dR;refine tI dh ?_;try clear dh;intro ds ah ep m af x9;exact⟨⟨_,ae⟩,⟨_,af⟩⟩
 |list b l=>obtain⟨e,vs,⟨n,as⟩,r⟩:=x;subst e;exact⟨⟨_,as⟩,⟨_,as⟩⟩
 |ba b ah=>obtain⟨e,kvs,⟨o,dD,ep,ae,dR⟩,r⟩:=x;subst e;exact⟨⟨_,ae⟩,⟨_,ae⟩⟩
 |ck b ah=>obtain⟨e,kvs,⟨o,dD,ep,ae,dR⟩,r⟩:=x;subst e;exact⟨⟨_,ae⟩,⟨_,ae⟩⟩
variable{I:bX}{Z:bY}{z:St}{h h':Heap}
theorem ew.lt(R:bu I Z z h)(f:ew I z b):b<h.objs.size:=by
 refine eB f ?_;try clear f;intro id a d aq ag ai
 cases as:z.heap id with
 |none=>exact bf as aq
 |some o=>
  refine cS (R.obj id o as) ?_;intro aX dy ez x;replace ez:=(ag).symm.trans ez;clear ag aq R;refine bC (fi (a8 ez)) ?_;rintro rfl rfl;refine bC x.there ?_;intro dZ dh;refine cL dZ ?_;try clear dZ;intro x9 ae;refine cL dh ?_;try clear dh;intro x9 af;clear x ez
  rcases ai with rfl|rfl
  ·exact ft ae
  ·exact ft af
theorem bu.rZ(R:bu I Z z h)(aE:Z b≠none):b<h.objs.size:=by
 cases e:Z b with
 |none=>exact bf e aE
 |some p=>exact(R.frz b p.1 p.2 e).lt
theorem bu.blt(R:bu I Z z h)(aE:B.get? b=some o):b<h.objs.size:=ft (R.base b o aE)
theorem bu.grow(R:bu I Z z h)(ag:∀b o,h.get? b=some o->h'.get? b=some o):bu I Z z h' where
 base:=λb o e=>ag b o (R.base b o e)
 frz:=λa t vs e=>cL (R.frz a t vs e) λn as=>⟨n,ag _ _ as⟩
 obj:=λid o e=>by
  refine cS (R.obj id o e) ?_;intro a d ae x;refine bC x.there ?_;intro dZ dh;refine cL dZ ?_;try clear dZ;intro CP aL;refine cL dh ?_;try clear dh;intro ds aN;exact eK a d ae (x.same ((ag _ _ aL).trans aL.symm) ((ag _ _ aN).trans aN.symm))
 apart:=R.apart
 out:=R.out
 fresh:=R.fresh
 gl:=R.gl
 sys:=R.sys
 low:=R.low
theorem bu.r0(R:bu I Z z h)(aL:h.objs.size<=a):a≠sysModules:=by refine cS R.low ?_;intro b o ai as;have:=R.blt as;exact Nat.ne_of_gt (hF (Nat.lt_trans ai this) aL)
theorem ee.grow(ag:∀b o,h.get? b=some o->h'.get? b=some o)(ar:h.objs.size<=h'.objs.size):ee I Z z h I Z z h':=
 ⟨.refl _, .refl _,λb o e x9=>ag b o e,λx9 x=> .inl x,λx9 x=> .inl x,ar⟩
noncomputable def bY.put(Z:bY)(a:Addr)(t:Bool)(vs:List Value):bY:=λb=>if b=a then some (t,vs)else Z b
theorem bu.freeze(R:bu I Z z h)(aq:h.objs.size<=a)(ar:SeqAt h' a t vs)(ag:∀b o,h.get? b=some o->h'.get? b=some o):
  bu I (Z.put a t vs) z h'/\hg Z (Z.put a t vs):=by
 have hz:hg Z (Z.put a t vs):=λb p e=>by
  have:b≠a:=λq=>bf (R.rZ (b:=b) (by refine ab e ?_;simp)) (Nat.not_lt.mpr (q▸aq));refine(?_:(if b=a then _ else _)=_);exact ab (cO this) (ab e rfl)
 refine⟨⟨(R.grow ag).base,λb t' gW e=>?_,λid o e=>?_,R.apart,λb f=>?_,R.fresh,λg bw=>(R.gl g bw).mono (.refl _) hz,R.sys,R.low⟩,hz⟩
 ·by_cases q:b=a
  ·subst q;have:some (t,vs)=some (t',gW):=by refine bM e ?_;refine(?_:_=(if b=b then _ else _));exact ab (df rfl) rfl
   (refine bC (fi (a8 this)) ?_;rintro rfl rfl);exact ar
  ·have:Z b=some (t',gW):=by refine bM e ?_;refine(?_:_=(if b=a then _ else _));exact ab (cO q) rfl
   exact(R.grow ag).frz b t' gW this
 ·(refine cS ((R.grow ag).obj id o e) ?_;intro aX dy ae x);exact eK aX dy ae (x.mono (.refl _) hz)
 ·refine⟨?_,(R.out b f).2⟩;have:b≠a:=λq=>bf (f.lt R) (Nat.not_lt.mpr (q▸aq));refine(?_:(if b=a then _ else _)=_);refine c0 (cO this) ?_;exact(R.out b f).1
theorem ee.freeze(aq:h.objs.size<=a)(hz:hg Z (Z.put a t vs))(ag:∀b o,h.get? b=some o->h'.get? b=some o)(ar:h.objs.size<=h'.objs.size):
  ee I Z z h I (Z.put a t vs) z h':=
 ⟨.refl _,hz,λb o e x9=>ag b o e,λx9 x=> .inl x,λb x=>by
  by_cases q:b=a
  ·exact .inr (q▸aq)
  ·refine .inl λe=>x ?_;refine(?_:(if b=a then _ else _)=_)
   exact ab (cO q) (ab e rfl),ar⟩
noncomputable def bX.put(I:bX)(id:Nat)(a d:Addr):bX:=λj=>if j=id then some (a,d)else I j
theorem qj(z:St)(k:Nat)(o:O)(j:Nat):(z.new k o).heap j=if j=z.aT k then some o else z.heap j:=by
 refine(?_:(match Nat.beq j (z.aT k)with|true=>some o|false=>z.heap j)=_)
 cases h:Nat.beq j (z.aT k)with
 |true=>exact ab (df (cj h)) rfl
 |false=>exact ab (cO (kc h)) rfl
theorem CQ(z:St)(id:Nat)(o:O)(j:Nat):(z.set id o).heap j=if j=id then some o else z.heap j:=by
 refine(?_:(match Nat.beq j id with|true=>some o|false=>z.heap j)=_)
 cases h:Nat.beq j id with
 |true=>exact ab (df (cj h)) rfl
 |false=>exact ab (cO (kc h)) rfl
theorem Ia(z:St)(k:Nat)(o:O)(bF:Nat):(z.new k o).nx bF=if bF=k then z.nx k+1 else z.nx bF:=by
 refine(?_:(match Nat.beq bF k with|true=>z.nx k+1|false=>z.nx bF)=_)
 cases h:Nat.beq bF k with
 |true=>exact ab (df (cj h)) rfl
 |false=>exact ab (cO (kc h)) rfl
theorem ui(h:z.dI k=true):k<64/\z.nx k<1024:=by
 unfold St.dI at h
 split at h
 ·rename_i q;exact⟨dG q,dG h⟩
 ·exact b3 h
theorem bu.y1(R:bu I Z z h)(ai:z.dI k=true):I (z.aT k)=none/\z.heap (z.aT k)=none:=by
 refine⟨(R.fresh k (z.nx k) (ui ai).1 (b8 _) (ui ai).2),?_⟩
 cases e:z.heap (z.aT k)with
 |none=>rfl
 |some o=>(refine cS (R.obj _ o e) ?_;intro a d af x9);replace af:=(show I (z.aT k)=none from(R.fresh k (z.nx k) (ui ai).1 (b8 _) (ui ai).2)).symm.trans af;exact ns af
theorem bu.newObj(R:bu I Z z h)(ai:z.dI k=true)(aL:h.objs.size<=a)(aN:h.objs.size<=d)(as:hN I Z h' a d o)
  (ag:∀b o,h.get? b=some o->h'.get? b=some o):bu (I.put (z.aT k) a d) Z (z.new k o) h'/\he I (I.put (z.aT k) a d):=by
 have gs:he I (I.put (z.aT k) a d):=λj p e=>by
  refine(?_:(if j=z.aT k then _ else _)=_);exact ab (cO (λq=>by rw[q,(R.y1 ai).1]at e;exact nomatch e)) (ab e rfl)
 have m4:(I.put (z.aT k) a d) (z.aT k)=some (a,d):=df rfl;have iE:∀j,j≠z.aT k->(I.put (z.aT k) a d) j=I j:=λj q=>cO q;have bW:=R.grow ag
 have lo:∀j aX dy,z.heap j≠none->I j=some (aX,dy)->aX<h.objs.size/\dy<h.objs.size:=λj aX dy ae af=>⟨ew.lt R (ix j aX dy ae af (.inl rfl)),ew.lt R (ix j aX dy ae af (.inr rfl))⟩
 have i7:∀j,(z.new k o).heap j≠none->j≠z.aT k->z.heap j≠none:=λj ae q=>by rw[qj,if_neg q]at ae;exact ae
 refine⟨⟨bW.base,bW.frz,λj v8 e=>?_,λi j r1 r2 eE eF ne aW cF js jt=>?_,λb f=>?_,λbF i wa aW kk=>?_,λg bw=>(R.gl g bw).mono gs (.refl _),λb f=>?_,R.low⟩,gs⟩
 ·rw[qj]at e
  by_cases q:j=z.aT k
  ·subst q;rw[if_pos rfl]at e;obtain rfl:=a8 e;exact eK a d m4 (as.mono gs (.refl _))
  ·rw[if_neg q]at e;refine cS (bW.obj j v8 e) ?_;intro aX dy ae x;exact⟨aX,dy,by refine c0 (iE j q) ?_;exact ae,x.mono gs (.refl _)⟩
 ·by_cases lq:i=z.aT k
  ·have lr:j≠z.aT k:=λq=>ne (lq.trans q.symm);rw[lq,m4]at js;refine bC (fi (a8 js)) ?_;rintro rfl rfl;replace jt:=(iE j lr).symm.trans jt;refine bC (lo j eE eF (i7 j cF lr) jt) ?_;intro eN es;exact h5 (Nat.ne_of_gt (hF eN aL)) (Nat.ne_of_gt (hF es aL)) (Nat.ne_of_gt (hF eN aN)) (Nat.ne_of_gt (hF es aN))
  ·by_cases lr:j=z.aT k
   ·rw[lr,m4]at jt;refine bC (fi (a8 jt)) ?_;rintro rfl rfl;replace js:=(iE i lq).symm.trans js;refine bC (lo i r1 r2 (i7 i aW lq) js) ?_;intro eN es;exact h5 (Nat.ne_of_lt (hF eN aL)) (Nat.ne_of_lt (hF eN aN)) (Nat.ne_of_lt (hF es aL)) (Nat.ne_of_lt (hF es aN))
   ·rw[iE i lq]at js;rw[iE j lr]at jt;exact R.apart i j r1 r2 eE eF ne (i7 i aW lq) (i7 j cF lr) js jt
 ·refine eB f ?_;try clear f;intro j eE eF ae af ax
  by_cases q:j=z.aT k
  ·rw[q,m4]at af;cases af;have hu:h.objs.size<=b:=by rcases ax with rfl|rfl<;>assumption
   refine⟨?_,?_⟩
   ·cases e:Z b with
    |none=>rfl
    |some p=>exact bf (R.rZ (b:=b) (by refine ab e ?_;simp)) (Nat.not_lt.mpr hu)
   ·cases e:B.get? b with
    |none=>rfl
    |some p=>exact bf (R.blt e) (Nat.not_lt.mpr hu)
  ·rw[iE j q]at af;exact R.out b ⟨j,eE,eF,i7 j ae q,af,ax⟩
 ·rw[Ia]at aW
  by_cases q:bF=k
  ·subst q;replace aW:=(df rfl)▸aW;refine c0 (iE _ (λe=>by unfold St.aT at e;lia)) ?_;exact R.fresh bF i wa (by lia) kk
  ·replace aW:=(cO q)▸aW;have:=(ui ai).2;refine c0 (iE _ (λe=>by unfold St.aT at e;lia)) ?_;exact R.fresh bF i wa aW kk
 ·refine eB f ?_;try clear f;intro j eE eF ae af ax
  by_cases q:j=z.aT k
  ·rw[q,m4]at af;cases af
   rcases ax with rfl|rfl
   ·exact R.r0 aL
   ·exact R.r0 aN
  ·rw[iE j q]at af;exact R.sys b ⟨j,eE,eF,i7 j ae q,af,ax⟩
theorem ee.newObj{Z:bY}(wb:I (z.aT k)=none)(aL:h.objs.size<=a)(aN:h.objs.size<=d)(gs:he I (I.put (z.aT k) a d))
  (ag:∀b o,h.get? b=some o->h'.get? b=some o) (ar:h.objs.size<=h'.objs.size):ee I Z z h (I.put (z.aT k) a d) Z (z.new k o) h':=
 ⟨gs, .refl _,λb o e x9=>ag b o e,λb dz=>eB dz λj eE eF ae af ax=>by
  by_cases q:j=z.aT k
  ·rw[q]at af;have:(I.put (z.aT k) a d) (z.aT k)=some (a,d):=df rfl;replace af:=(this).symm.trans af;clear ag gs wb Z;refine bC (fi (a8 af)) ?_;rintro rfl rfl
   rcases ax with rfl|rfl
   ·exact .inr aL
   ·exact .inr aN
  ·rw[show(I.put (z.aT k) a d) j=I j from if_neg q]at af;rw[qj,if_neg q]at ae
   exact .inl (ix j eE eF ae af ax),λx9 x=> .inl x,ar⟩
theorem bu.upd(R:bu I Z z h){id:Nat}(as:z.heap id=some o)(ag:I id=some (a,d))(ai:b=a\/b=d)(ar:Heap.SameBut b h h')(e4:hN I Z h' a d bS):
  bu I Z (z.set id bS) h':=by
 have Ib:ew I z b:=(ix id a d (by refine ab as ?_;simp) ag ai)
 have i7:∀j,(z.set id bS).heap j≠none->z.heap j≠none:=λj ae=>by
  rw[CQ]at ae
  by_cases q:j=id
  ·refine ab q (ab as ?_);simp
  ·rw[if_neg q]at ae;exact ae
 refine⟨λc kl e=>?_,λc t vs e=>?_,λj v8 e=>?_,λi j r1 r2 eE eF ne aW cF js jt=>R.apart i j r1 r2 eE eF ne (i7 i aW) (i7 j cF) js jt,λc dz=>eB dz λj eE eF ae af ax=>R.out c ⟨j,eE,eF,i7 j ae,af,ax⟩,R.fresh,R.gl,λc dz=>eB dz λj eE eF ae af ax=>R.sys c ⟨j,eE,eF,i7 j ae,af,ax⟩,R.low⟩
 ·have:c≠b:=λq=>by rw[q,(R.out b Ib).2]at e;exact nomatch e
  exact(ar.2 c this).trans (R.base c kl e)
 ·have:c≠b:=λq=>by rw[q,(R.out b Ib).1]at e;exact nomatch e
  exact(R.frz c t vs e).same (ar.2 c this)
 ·rw[CQ]at e
  by_cases q:j=id
  ·subst q;rw[if_pos rfl]at e;refine bM (a8 e) ?_;exact eK a d ag e4
  ·replace e:=(cO q).symm.trans e;refine cS (R.obj j v8 e) ?_;intro eE eF ae x;refine l3 (R.apart id j a d eE eF (λaE=>q aE.symm) (by refine ab as ?_;simp) (by refine ab e ?_;simp) ag ae) ?_;intro p1 p2 fY gH;have r3:eE≠b:=by rcases ai with rfl|rfl<;>first|exactλaE=>p1 aE.symm|exactλaE=>fY aE.symm
   exact eK eE eF ae (x.same (ar.2 eE r3) (ar.2 eF ((by rcases ai with rfl|rfl<;>first|exactλaE=>p2 aE.symm|exactλaE=>gH aE.symm):eF≠b)))
theorem ee.upd{id:Nat}(as:z.heap id=some o)(ag:I id=some (a,d))(ai:b=a\/b=d)(ar:Heap.SameBut b h h'):ee I Z z h I Z (z.set id bS) h':=
 ⟨.refl _, .refl _,λc kl e cG=>(ar.2 c λq=>cG (q▸(ix id a d (by refine ab as ?_;simp) ag ai))).trans e,λc dz=>eB dz λj eE eF ae af ax=> .inl ⟨j,eE,eF,by
  rw[CQ]at ae
  by_cases q:j=id
  ·refine ab q (ab as ?_);simp
  ·rw[if_neg q]at ae;exact ae,af,ax⟩,λx9 x=> .inl x,fr ar.1.symm⟩
end
def cI(J:Env)(b:Addr):Prop:=b=J.locals\/∃n,J.kindOf n=some .cell/\J.cells.lookup n=some b
noncomputable def aG(_:Addr):Prop:=False
noncomputable def qk(Y:List Env)(b:Addr):Prop:=∃J∈Y,J.frame=some b
structure cw(Y:List Env)(O:Addr->Prop)(I:bX)(Z:bY)(z:St)(h:Heap)(κ':bX)(Z':bY)(σ':St)(h':Heap):Prop where
 kle:he I κ'
 zle:hg Z Z'
 keep:∀b o,h.get? b=some o->¬ew I z b->¬O b->Kept (qk Y b) o (h'.get? b)
 foot:∀b,ew κ' σ' b->ew I z b\/h.objs.size<=b
 zed:∀b,Z' b≠none->Z b≠none\/h.objs.size<=b
 size:h.objs.size<=h'.objs.size
theorem ee.fN{O:Addr->Prop}(x:ee I Z z h κ' Z' σ' h'):cw Y O I Z z h κ' Z' σ' h':=
 ⟨x.kle,x.zle,λb o e cG x9=> .of_eq (x.keep b o e cG),x.foot,x.zed,x.size⟩
theorem cw.mono{O O':Addr->Prop}(x:cw Y O I Z z h κ' Z' σ' h')(k:∀b,b<h.objs.size->O b->O' b):cw Y O' I Z z h κ' Z' σ' h':=
 ⟨x.kle,x.zle,λb o e cG no=>x.keep b o e cG λq=>no (k b (ft e) q),x.foot,x.zed,x.size⟩
theorem cw.trans{O:Addr->Prop}(x:cw Y O I Z z h wc wd c1 bO)(y:cw Y O wc wd c1 bO o6 o7 ef c2):cw Y O I Z z h o6 o7 ef c2 where
 kle:=x.kle.trans y.kle
 zle:=x.zle.trans y.zle
 keep:=λb o e cG no=>(x.keep b o e cG no).trans λbS ey=>y.keep b bS ey (λf=>(x.foot b f).elim cG λg=>bf (ft e) (Nat.not_lt.mpr g)) no
 foot:=λb f=>(y.foot b f).elim (x.foot b) λg=> .inr (ct x.size g)
 zed:=λb aE=>(y.zed b aE).elim (x.zed b) λg=> .inr (ct x.size g)
 size:=ct x.size y.size
theorem ql{h h':Heap}(n:h.Ns a m)(k:∀o,h.get? a=some o->Kept l o (h'.get? a)):h'.Ns a m:=by refine eB n ?_;try clear n;intro o ah ep as aN r;refine fV ((k o as).there) ?_;intro bS e4 d0 x9;exact ix bS ah ep e4 (d0.trans aN) r
theorem CR{h h':Heap}(n:h.IsCell a v)(k:∀o,h.get? a=some o->Kept l o (h'.get? a)):h'.IsCell a v:=by refine a4 n ?_;try clear n;intro o as aN;refine fV ((k o as).there) ?_;intro bS e4 d0 x9;exact bq bS e4 (d0.trans aN)
structure d7(I:bX)(Z:bY)(z:St)(J:Env)(C:aK)(h:Heap):Prop where
 kind:J.scope.kind= .function
 glob:J.globals=mainGlobals
 blt:J.builtins=builtinsNs
 ns:∃m,h.Ns J.locals m/\∀x v,C x=some v->J.kindOf (T.nm x)=some .local->∃u,m (T.nm x)=some u/\Den I Z v u
 cell:∀n,(J.kindOf n=some .cell\/J.kindOf n=some .free)->∃c bN,J.cells.lookup n=some c/\h.IsCell c bN/\¬ew I z c/\c≠J.locals/\∀x v,T.nm x=n->C x=some v->∃u,bN=some u/\Den I Z v u
 apart:∀n hP c,J.cells.lookup n=some c->J.cells.lookup hP=some c->n=hP
 noL:¬ew I z J.locals
 dom:∀x v,C x=some v->x<T.bV
structure eG(I:bX)(z:St)(A:Around)(Y:List Env)(h:Heap):Prop where
 frames:A.frames=some Y
 funs:∀J∈Y,J.scope.kind≠ .module/\∃L m,J.frame=some L/\B.get? L=none/\h.Ns L m/\¬ew I z L
noncomputable abbrev gX(A:Around)(n:Nat):Prop:=(A.handled=none)/\(A.depth+4*n+10<recursionLimit)/\(A.units+40*n+100<cLine)
def gX.handled(x:gX a b):=x.1
def gX.depth(x:gX a b):=x.2.1
def gX.units(x:gX a b):=x.2.2
section
variable{I κ':bX}{Z Z':bY}{z σ':St}{h h':Heap}{J:Env}{C:aK}{A:Around}{Y:List Env}
theorem m5{O:Addr->Prop}(x:cw Y O I Z z h κ' Z' σ' h')(ai:b<h.objs.size)(cG:¬ew I z b):¬ew κ' σ' b:=
 λf=>(x.foot b f).elim cG λg=>bf ai (Nat.not_lt.mpr g)
theorem we(x:h.IsCell c bN):c<h.objs.size:=a4 x λx9 as x9=>ft as
theorem d7.ext{O:Addr->Prop}(F:d7 I Z z J C h)(x:cw Y O I Z z h κ' Z' σ' h')(Qk:¬O J.locals)(Ql:∀n c,(J.kindOf n=some .cell\/J.kindOf n=some .free)->J.cells.lookup n=some c->¬O c):d7 κ' Z' σ' J C h' where
 kind:=F.kind
 glob:=F.glob
 blt:=F.blt
 ns:=by refine a4 F.ns ?_;intro m aq ak;exact bq m (ql aq λo as=>x.keep _ _ as F.noL Qk) (λy v e k=>a4 (ak y v e k) λu a1 a2=>(bq u a1 (a2.mono x.kle x.zle)))
 cell:=λn aq=>by
  refine h4 (F.cell n aq) ?_;intro c bN aB bA cG o8 ak;exact nM c bN aB (CR bA λo as=>x.keep _ _ as cG (Ql n c aq aB)) (m5 x (we bA) cG) o8 (λy v e k=>a4 (ak y v e k) λu a1 a2=>(bq u a1 (a2.mono x.kle x.zle)))
 apart:=F.apart
 noL:=m5 x (a4 F.ns λx9 aq x9=>aq.lt) F.noL
 dom:=F.dom
theorem d7.eO(F:d7 I Z z J C h)(x:cw Y aG I Z z h κ' Z' σ' h'):d7 κ' Z' σ' J C h':=F.ext x id λx9 x9 x9 x9=>id
theorem eG.ext{O:Addr->Prop}(S:eG I z A Y h)(x:cw Y O I Z z h κ' Z' σ' h')(aq:∀J∈Y,∀L m,J.frame=some L->h.Ns L m->∃e5,h'.Ns L e5):eG κ' σ' A Y h' where
 frames:=S.frames
 funs:=λJ aM=>by
  obtain⟨k,L,m,hf,ai,aJ,cG⟩:=S.funs J aM;refine cL (aq J aM L m hf aJ) ?_;intro e5 kO;exact⟨k,L,e5,hf,ai,kO,m5 x aJ.lt cG⟩
theorem eG.eO(S:eG I z A Y h)(x:cw Y aG I Z z h κ' Z' σ' h'):eG κ' σ' A Y h':=
 S.ext x λJ aM L m hf aJ=>⟨m,ql aJ λo as=>x.keep _ _ as (by
  obtain⟨_,uj,_,r4,_,_,cG⟩:=S.funs J aM
  replace r4:=(hf).symm.trans r4;obtain rfl:=a8 r4;exact cG) id⟩
end
def y2(H:Heap)(Y:List Env)(h':Heap)(e:Addr):Prop:=
 (∃ml vs aH,h'.get? e=some ml/\ml.cls= .ref b6/\ml.data= .fields vs/\vs[1]?=some .none/\vs[0]?=some aH)\/
 (∃aH cs,h'.TracedAtW H e (.ref b6) aH cs/\(cs= .none\/∃J bU L,Y=J::bU/\J.frame=some L/\cs=rawInt L))
structure hi(O:Addr->Prop)(Y:List Env)(I:bX)(Z:bY)(z:St)(h:Heap)(σ':St)(h':Heap)(e:Addr):Prop where
 ex:∃(κ':bX)(Z':bY)(H:Heap),he I κ'/\hg Z Z'/\(∀b,ew κ' σ' b->ew I z b\/h.objs.size<=b)/\(∀b,Z' b≠none->Z b≠none\/h.objs.size<=b)/\h.objs.size<=h'.objs.size/\
  H.StaysIn h'/\H.get? e=none/\bu κ' Z' σ' H/\(∀J∈Y,J.scope.kind≠ .module/\∃L m,J.frame=some L/\H.get? L=none/\B.get? L=none/\h'.Ns L m/\¬ew κ' σ' L)/\y2 H Y h' e/\
  (∀b o,h.get? b=some o->¬ew I z b->¬O b->H.get? b=some o\/(qk Y b/\Kept True o (h'.get? b)))
abbrev fZ:=St->bX->bY->Heap->Prop
abbrev eg(aI bG:Type):=St->bX->bY->Heap->bG->aI->Prop
structure Goes(Y:List Env)(O:Addr->Prop)(P qm:fZ):Prop where
 out:∀{I:bX}{Z:bY}{z:St}{h:Heap}{κ':bX}{Z':bY}{σ':St}{h':Heap},cw Y O I Z z h κ' Z' σ' h'->P z I Z h->qm σ' κ' Z' h'
structure CS(Y:List Env){aI bG:Type}(D:eg aI bG):Prop where
 out:∀{I:bX}{Z:bY}{z:St}{h:Heap}{κ':bX}{Z':bY}{σ':St}{h':Heap}{b:bG}{a:aI},cw Y aG I Z z h κ' Z' σ' h'->D z I Z h b a->D σ' κ' Z' h' b a
noncomputable abbrev aY(aI:Type):=Around->(aI->Shared->Prop)->(cc)->Shared->Prop
abbrev bj{aI:Type}(t:Sem aI):aY aI:=λA Q E s=>wpAny (model prog w) A t Q E s
abbrev aY.bind{aI bG:Type}(W:aY aI)(f:aI->aY bG):aY bG:=λA Q E s=>W A (λa s'=>f a A Q E s') E s
def Qm{aI:Type}(O:Addr->Prop)(n:Nat)(Y:List Env)(bo:fZ)(z:St)(t:aY aI)(σ':St)(y3:bX->bY->Heap->aI->Prop):Prop:=
 ∀(A:Around)(I:bX)(Z:bY)(s:Shared)(Q:aI->Shared->Prop)(E:cc),gX A n->eG I z A Y s.heap->bu I Z z s.heap->bo z I Z s.heap->
  (∀κ' Z' h' aR a,cw Y O I Z z s.heap κ' Z' σ' h'->bu κ' Z' σ' h'->eG κ' σ' A Y h'->y3 κ' Z' h' a->Q a {s with heap:=h',toks:=aR})->t A Q E s
def Qo{aI:Type}(O:Addr->Prop)(n:Nat)(Y:List Env)(bo:fZ)(z:St)(t:aY aI)(σ':St):Prop:=
 ∀(A:Around)(I:bX)(Z:bY)(s:Shared)(Q:aI->Shared->Prop)(E:cc),gX A n->eG I z A Y s.heap->bu I Z z s.heap->bo z I Z s.heap->
  (∀h' aR e,hi O Y I Z z s.heap σ' h' e->E (.ref e) {s with heap:=h',toks:=aR})->t A Q E s
def av{aI bG:Type}(O:Addr->Prop)(D:eg aI bG)(n:Nat)(Y:List Env)(bo:fZ)(z:St)(t:aY aI):Res bG->Prop
 | .ok b σ'=>(σ'.log->z.log)/\(σ'.log->Qm O n Y bo z t σ' λI Z h a=>D σ' I Z h b a)
 | .exc σ'=>(σ'.log->z.log)/\(σ'.log->Qo O n Y bo z t σ')
 | .stuck=>True
abbrev bD{aI bG:Type}(O:Addr->Prop)(D:eg aI bG)(n:Nat)(Y:List Env)(bo:fZ)(z:St)(t:Sem aI)(r:Res bG):Prop:=av O D n Y bo z (bj t) r
section
variable{n:Nat}{Y:List Env}{bo:fZ}{z:St}{O:Addr->Prop}
theorem hi.back(x:cw Y O I Z z h κ' Z' σ' h')(R:hi O Y κ' Z' σ' h' fc dp e):hi O Y I Z z h fc dp e:=by
 refine rj R.ex ?_;intro o6 o7 H dR eM gg hh iC ib hO km iF ls kP;refine⟨o6,o7,H,x.kle.trans dR,x.zle.trans eM,λb f=>(gg b f).elim (x.foot b) λg=> .inr (ct x.size g),λb aE=>(hh b aE).elim (x.zed b) λg=> .inr (ct x.size g),ct x.size iC,ib,hO,km,iF,ls,λb o ai cG no=>?_⟩;have k:=x.keep b o ai cG no
 by_cases uk:qk Y b
 ·skip
  refine .inr ⟨uk,(k.mono λx9=>trivial).trans λlu bB=>?_⟩
  rcases kP b lu bB (m5 x (ft ai) cG) no with q|⟨_,q⟩
  ·exact .of_eq (ib b lu q)
  ·exact q
 ·rcases kP b o (k.exact uk) (m5 x (ft ai) cG) no with q|⟨Qp,q⟩
  ·exact .inl q
  ·exact bf Qp uk
theorem hi.mono(R:hi O Y I Z z h fc dp e)(k:∀b,b<h.objs.size->O b->O' b):hi O' Y I Z z h fc dp e:=by refine rj R.ex ?_;intro o6 o7 H dR eM gg hh iC ib hO km iF ls kP;exact⟨o6,o7,H,dR,eM,gg,hh,iC,ib,hO,km,iF,ls,λb o ai cG no=>kP b o ai cG λq=>no (k b (ft ai) q)⟩
theorem av.seq{aI bG hv kQ:Type}[Inhabited aI]{D₁:eg aI bG}{D₂:eg hv kQ}{Kp:fZ}{t:aY aI}{r:Res bG}{f:aI->aY hv}{g:bG->St->Res kQ}(e6:Goes Y O bo Kp)
  (ae:av O D₁ n Y bo z t r) (af:∀b σ' a,av O D₂ n Y (λz I Z h=>Kp z I Z h/\D₁ z I Z h b a) σ' (f a) (g b σ')):av O D₂ n Y bo z (t.bind f) (r.bind g):=by
 cases r with
 |stuck=>trivial
 |exc σ'=>exact⟨ae.1,λaP A I Z s Q E aw aS am aj dt=>ae.2 aP A I Z s _ E aw aS am aj dt⟩
 |ok b c1=>
  refine(?_:av O D₂ n Y bo z (t.bind f) (g b c1))
  cases bw:g b c1 with
  |stuck=>trivial
  |exc ef=>
   have k2:∀a,av O D₂ n Y (λz I Z h=>Kp z I Z h/\D₁ z I Z h b a) c1 (f a) (.exc ef):=λa=>bw▸af b c1 a;have es:=(k2 default).1;refine⟨λaP=>ae.1 (es aP),λaP A I Z s Q E aw aS am aj dt=>?_⟩;refine ae.2 (es aP) A I Z s _ E aw aS am aj λκ' Z' h' aR a x bW dP d=>?_;exact(k2 a).2 aP A κ' Z' {s with heap:=h',toks:=aR} Q E aw dP bW ⟨e6.out x aj,d⟩ λdp lv e CT=>dt dp lv e (CT.back x)
  |ok c ef=>
   have es:=((λa=>bw▸af b c1 a:∀a,av O D₂ n Y (λz I Z h=>Kp z I Z h/\D₁ z I Z h b a) c1 (f a) (.ok c ef)) default).1;refine⟨λaP=>ae.1 (es aP),λaP A I Z s Q E aw aS am aj aC=>?_⟩;refine ae.2 (es aP) A I Z s _ E aw aS am aj λκ' Z' h' aR a x bW dP d=>?_;exact((λa=>bw▸af b c1 a:∀a,av O D₂ n Y (λz I Z h=>Kp z I Z h/\D₁ z I Z h b a) c1 (f a) (.ok c ef)) a).2 aP A κ' Z' {s with heap:=h',toks:=aR} Q E aw dP bW ⟨e6.out x aj,d⟩ λr5 r6 dp lv aX x' kn r7 dy=>aC r5 r6 dp lv aX (x.trans x') kn r7 dy
theorem av.tree(h:av O D n Y bo z t r)(bH:∀A s Q E,t A Q E s->t' A Q E s):av O D n Y bo z t' r:=by
 cases r with
 |stuck=>trivial
 |exc p=>exact⟨h.1,λaP A I Z s Q E aw aS am aj dt=>bH A s Q E (h.2 aP A I Z s Q E aw aS am aj dt)⟩
 |ok b σ'=>exact⟨h.1,λaP A I Z s Q E aw aS am aj aC=>bH A s Q E (h.2 aP A I Z s Q E aw aS am aj aC)⟩
theorem bD.seq{aI bG hv kQ:Type}[Inhabited aI]{D₁:eg aI bG}{D₂:eg hv kQ}{Kp:fZ}{t:Sem aI}{r:Res bG}{f:aI->Sem hv}{g:bG->St->Res kQ}(e6:Goes Y O bo Kp)
  (ae:bD O D₁ n Y bo z t r) (af:∀b σ' a,bD O D₂ n Y (λz I Z h=>Kp z I Z h/\D₁ z I Z h b a) σ' (f a) (g b σ')):bD O D₂ n Y bo z (t>>=f) (r.bind g):=
 (av.seq (t:=bj t) (f:=λa=>bj (f a)) e6 ae af).tree λx9 x9 x9 x9 x=>aV x
theorem Goes.and(e6:Goes Y aG P qm)(y4:CS Y D):Goes Y aG (λz I Z h=>P z I Z h/\D z I Z h b a) (λz I Z h=>qm z I Z h/\D z I Z h b a):=
 ⟨λx y=>⟨e6.out x y.1,y4.out x y.2⟩⟩
theorem cw.rfl':cw Y O I Z z h I Z z h:=(ee.refl I Z z h).fN
theorem bD.pure(h:∀I Z h,bo z I Z h->D z I Z h b a):bD O D n Y bo z (Pure.pure a) (.ok b z):=
 ⟨id,λx9 x9 I Z s x9 x9 x9 aS am aj aC=>bQ (aC I Z s.heap s.toks a .rfl' am aS (h I Z s.heap aj))⟩
theorem av.pre(h:av O D n Y P z t r)(k:∀I Z h,bo z I Z h->P z I Z h):av O D n Y bo z t r:=by
 cases r with
 |stuck=>trivial
 |exc p=>exact⟨h.1,λaP A I Z s Q E aw aS am aj dt=>h.2 aP A I Z s Q E aw aS am (k _ _ _ aj) dt⟩
 |ok b σ'=>exact⟨h.1,λaP A I Z s Q E aw aS am aj aC=>h.2 aP A I Z s Q E aw aS am (k _ _ _ aj) aC⟩
theorem av.post(h:av O D n Y bo z t r)(k:∀z I Z h b a,D z I Z h b a->D' z I Z h b a):av O D' n Y bo z t r:=by
 cases r with
 |stuck=>trivial
 |exc p=>exact h
 |ok b σ'=>exact⟨h.1,λaP A I Z s Q E aw aS am aj aC=>h.2 aP A I Z s Q E aw aS am aj λκ' Z' h' aR a x bW dP d=>aC κ' Z' h' aR a x bW dP (k _ _ _ _ _ _ d)⟩
theorem av.wide(h:av O D n Y bo z t r)(k:∀b,O b->O' b):av O' D n Y bo z t r:=by
 cases r with
 |stuck=>trivial
 |exc p=>exact⟨h.1,λaP A I Z s Q E aw aS am aj dt=>h.2 aP A I Z s Q E aw aS am aj λh' aR e u=>dt h' aR e (u.mono λb x9=>k b)⟩
 |ok b σ'=>exact⟨h.1,λaP A I Z s Q E aw aS am aj aC=>h.2 aP A I Z s Q E aw aS am aj λκ' Z' h' aR a x bW dP d=>aC κ' Z' h' aR a (x.mono λb x9=>k b) bW dP d⟩
theorem av.stuck:av O D n Y bo z t .stuck:=trivial
theorem av.leaf(aP:σ'.log->z.log)
  (h:∀(A:Around)(I:bX)(Z:bY)(s:Shared)(Q:aI->Shared->Prop)(E:cc),σ'.log->gX A n->eG I z A Y s.heap->bu I Z z s.heap->bo z I Z s.heap->
   (∀κ' Z' h' aR a,cw Y aG I Z z s.heap κ' Z' σ' h'->bu κ' Z' σ' h'->D σ' κ' Z' h' b a->Q a {s with heap:=h',toks:=aR})->t A Q E s):
  av aG D n Y bo z t (.ok b σ'):=⟨aP,λl A I Z s Q E aw aS am aj aC=>h A I Z s Q E l aw aS am aj λκ' Z' h' aR a x bW d=>aC κ' Z' h' aR a x bW (aS.eO x) d⟩
end
abbrev bb:eg Value V:=λx9 I Z x9 b a=>Den I Z b a
abbrev CU:eg (List Value) (List V):=λx9 I Z x9 b a=>bn I Z b a
theorem fd:CS Y bb:=⟨λx d=>d.mono x.kle x.zle⟩
theorem jV:∀a b,el a b=decide (a=b)
 |[],[]=>rfl
 |[],_::_=>rfl
 |_::_,[]=>rfl
 |a::r,b::t=>by
  dsimp only[BY]
  cases h:Nat.beq a b with
  |true=>have:=cj h;subst this;refine c0 (jV r t) ?_;simp
  |false=>have:=kc h;simp[this]
theorem nZ(a b:Int):eC a b=decide (a=b):=by
 cases a with
 |ofNat m=>cases b with
  |ofNat n=>
   refine(?_:Nat.beq m n=_)
   cases h:Nat.beq m n with
   |true=>have:=cj h;subst this;simp
   |false=>have:=kc h;exact(decide_eq_false (by intro q;cases q;exact this rfl)).symm
  |negSucc n=>rfl
 |negSucc m=>cases b with
  |ofNat n=>rfl
  |negSucc n=>
   refine(?_:Nat.beq m n=_)
   cases h:Nat.beq m n with
   |true=>have:=cj h;subst this;simp
   |false=>have:=kc h;simp[this]
theorem CV(a b:Bool):vN a b=(a==b):=by cases a<;>cases b<;>rfl
theorem Qq(c:Nat):∀l,vO c l=decide (c∈l):=by
 intro br
 induction br with
 |nil=>exact rfl
 |cons a t ih=>
  dsimp only[vO]
  cases h:Nat.beq c a with
  |true=>have:=cj h;subst this;simp
  |false=>have:=kc h;refine c0 ih ?_;simp[this]
theorem y5(h:ci a=ci b):a=b:=by
 have:(ci a).cps.toList=(ci b).cps.toList:=by exact ab h rfl
 simpa[ci]using this
theorem CW(a b:List Nat):(ci a==ci b)=el a b:=by
 rw[jV]
 by_cases h:a=b
 ·subst h;simp
 ·have:¬ci a=ci b:=λq=>h (y5 q);simp[h,this]
theorem Qr(a b:List Nat):ci a++ci b=ci (a++b):=by refine(?_:Str.mk _=Str.mk _);simp[ci]
theorem CX(a:List Nat):(ci a).length=a.length:=by simp[ci,Str.length]
theorem ic(h:small n=true):n<=10000:=dG h
section
variable{n:Nat}{Y:List Env}{z:St}{I:bX}{Z:bY}{h:Heap}
section
variable{R:Res V->Prop}{R1:V->Res V->Prop}{R2:List V->Res V->Prop}{RO:O->Res V->Prop}{r:Res V}
theorem iG(h0:R .stuck)(h:c=true->R r):R (dr c r):=by cases c;exact h0;exact h rfl
theorem qn(h0:R .stuck)(h:∀a,o=some a->R (k a)):R (g7 o k):=by cases o;exact h0;exact h _ rfl
theorem ul(h0:R .stuck)(h:∀a,o=some a->R (.ok a z)):R (em o z):=by cases o;exact h0;exact h _ rfl
theorem CY(h0:R .stuck)(h:∀v bU,z.orc=v::bU->R (k v {z with orc:=bU})):R (ry z k):=by unfold ry;cases e:z.orc;exact h0;exact h _ _ e
theorem m6(h0:∀v,R1 v .stuck)(h:∀i,R1 (.int i) (k i))(v:V):R1 v (h6 k v):=by cases v<;>first|exact h _|exact h0 _
theorem r8(h0:∀v,R1 v .stuck)(h:∀i,R1 (.int (.ofNat i)) (k i))(v:V):R1 v (hG k v):=m6 (R1:=R1) h0 (λi=>by cases i;exact h _;exact h0 _) v
theorem y6(h0:∀v,R1 v .stuck)(h:∀i,R1 (.str i) (k i))(v:V):R1 v (pX k v):=by cases v<;>first|exact h _|exact h0 _
theorem wg(h0:∀v,R1 v .stuck)(h:∀b l,R1 (.aD b l) (k b l))(v:V):R1 v (rx k v):=by cases v<;>first|exact h _ _|exact h0 _
set_option tactic.hygienic true in
theorem um(h0:∀v,R1 v .stuck)(h:∀id o,z.heap id=some o->R1 (.ref id) (k id o))(v:V):R1 v (oN z k v):=by
 cases v
 case ref id=>refine(?_:R1 _ (match z.heap id with|some o=>k id o|none=> .stuck));cases e:z.heap id;exact h0 _;exact h _ _ e
 all_goals exact h0 _
theorem Ic(h0:∀o,RO o .stuck)(h:∀b l,RO (.list b l) (k b l))(o:O):RO o (vQ k o):=by cases o<;>first|exact h _ _|exact h0 _
theorem Ie(h0:∀o,RO o .stuck)(h:∀b l,RO (.ba b l) (k b l))(o:O):RO o (BR k o):=by cases o<;>first|exact h _ _|exact h0 _
theorem Ig(h0:∀o,RO o .stuck)(h:∀b l,RO (.ba b l) (oO b l))(h':∀b l,RO (.ck b l) (vR b l))(o:O):RO o (BS oO vR o):=by cases o<;>first|exact h _ _|exact h' _ _|exact h0 _
set_option tactic.hygienic true in
theorem un(h0:∀l,R2 l .stuck)(h:∀a,R2 [a] (k a))(l:List V):R2 l (dA k l):=by
 cases l
 case nil=>exact h0 _
 case cons a r=>cases r;exact h a;exact h0 _
set_option tactic.hygienic true in
theorem Ih(h0:∀l,R2 l .stuck)(h:∀a b,R2 [a,b] (k a b))(l:List V):R2 l (cP k l):=by
 cases l
 case nil=>exact h0 _
 case cons a r=>exact un (R2:=λr x=>R2 (a::r) x) (λx9=>h0 _) (λb=>h a b) r
end
set_option tactic.hygienic true in
theorem Qs{F:V->Prop}(e:g6 z x=some (p,l))(ae:F (.aD p l))(af:∀id,z.heap id=some (.list p l)->F (.ref id)):F x:=by
 cases x
 case aD b m=>(refine bC (fi (a8 e)) ?_;rintro rfl rfl);exact ae
 case ref id=>
  replace e:(match z.heap id with|some (.list b l)=>some (b,l)|_=>none)=some (p,l):=e;clear ae
  cases as:z.heap id with
  |none=>replace e:=as▸e;exact ns e
  |some o=>
   replace e:=as▸e;cases o
   case list b m=>(refine bC (fi (a8 e)) ?_;rintro rfl rfl);exact af id as
   all_goals exact ns e
 all_goals exact ns e
@[elab_as_elim] theorem y7(R:bu I Z z h){id:Nat}(as:z.heap id=some o){G:Value->Prop}(d:Den I Z (.ref id) u)(H:∀a d,I id=some (a,d)->hN I Z h a d o->G (.ref a)):G u:=by refine d.Qi λa d ag=>?_;refine cS (R.obj id o as) ?_;intro aX dy ez x;replace ez:=(ag).symm.trans ez;refine bC (fi (a8 ez)) ?_;rintro rfl rfl;exact H _ _ ag x
theorem ko(R:bu I Z z h)(d:Den I Z x a)(e:g6 z x=some (p,l)):
  ∃c vs,a= .ref c/\SeqAt h c false vs/\bn I Z l vs/\l.length<=p:=by
 revert d;refine Qs (F:=λx=>Den I Z x a->∃c vs,a= .ref c/\SeqAt h c false vs/\bn I Z l vs/\l.length<=p) e (λd=>d.v6 λa vs hz ak ai=>(rm _ _ rfl (R.frz _ _ _ hz) ak ai)) λid as d=>y7 R as d λa d ag x=>?_;obtain⟨cy,vs,ar,ak,ai⟩:=x;exact rm _ vs rfl ar ak ai
theorem av.quiet(H:∀(A:Around)(I:bX)(Z:bY)(s:Shared)(Q:cc)(E:cc),gX A n->bu I Z z s.heap->bo z I Z s.heap->
  (∀aR a,Den I Z v a->Q a {s with toks:=aR})->t A Q E s):av aG bb n Y bo z t (.ok v z):=
 .leaf id λA I Z s Q E x9 aw x9 am aj aC=>H A I Z s Q E aw am aj λaR a d=>aC I Z s.heap aR a .rfl' am d
theorem av.made(H:∀(A:Around)(I:bX)(Z:bY)(s:Shared)(Q:cc)(E:cc),gX A n->bu I Z z s.heap->bo z I Z s.heap->
  (∀h' aR c vs,s.heap.objs.size<=c->(∀b o,s.heap.get? b=some o->h'.get? b=some o)->SeqAt h' c false vs->bn I Z l vs->l.length<=b->Q (.ref c) {s with heap:=h',toks:=aR})->t A Q E s):
  av aG bb n Y bo z t (.ok (.aD b l) z):=
 .leaf id λA I Z s Q E x9 aw x9 am aj aC=>H A I Z s Q E aw am aj λh' aR c vs aB ag ar ak ai=>by
  exact aC I _ h' aR _ (ee.freeze aB (am.freeze aB ar ag).2 ag (Nat.le_of_lt (Nat.lt_of_le_of_lt aB ar.lt))).fN (am.freeze aB ar ag).1 (.aD (df rfl) (ak.mono (.refl _) (am.freeze aB ar ag).2) ai)
theorem av.Qt(H:∀(A:Around)(I:bX)(Z:bY)(s:Shared)(Q:cc)(E:cc),gX A n->bu I Z z s.heap->bo z I Z s.heap->
  (∀h' aR c vs,s.heap.objs.size<=c->(∀b o,s.heap.get? b=some o->h'.get? b=some o)->SeqAt h' c true vs->bn I Z l vs->Q (.ref c) {s with heap:=h',toks:=aR})->t A Q E s):
  av aG bb n Y bo z t (.ok (.tup l) z):=
 .leaf id λA I Z s Q E x9 aw x9 am aj aC=>H A I Z s Q E aw am aj λh' aR c vs aB ag ar ak=>by
  exact aC I _ h' aR _ (ee.freeze aB (am.freeze aB ar ag).2 ag (Nat.le_of_lt (Nat.lt_of_le_of_lt aB ar.lt))).fN (am.freeze aB ar ag).1 (.tup (df rfl) (ak.mono (.refl _) (am.freeze aB ar ag).2))
theorem et(h:Heap)(o:Obj):∀b x,h.get? b=some x->(h.push o).get? b=some x:=λx9 x9 e=>Heap.get?_push_of_some _ e
theorem gX.line(r:gX A n):A.units<cLine:=Nat.lt_of_le_of_lt (by lia) r.units
abbrev m7(x:V)(a:Value):fZ:=λx9 I Z x9=>Den I Z x a
abbrev dS(x y:V)(a b:Value):fZ:=λx9 I Z x9=>Den I Z x a/\Den I Z y b
abbrev Ii(x y aE:V)(a b c:Value):fZ:=λx9 I Z x9=>Den I Z x a/\Den I Z y b/\Den I Z aE c
abbrev eu(n:Nat)(Y:List Env)(bo:fZ)(z:St)(t:Sem Value)(r:Res V):Prop:=bD aG bb n Y bo z t r
theorem CZ(vs dK:List Value):(vs++dK).toArray=vs.toArray++dK.toArray:=by simp
theorem Qu(ae:l<=p)(af:m<=q)(ar:small (p+q)=true):l+m<=sizeLine:=by refine ab gG ?_;have:=ic ar;lia
set_option tactic.hygienic true in
theorem Qv(x y:V)(a b:Value):eu n Y (dS x y a b) z (binaryOp .Add a b) (bi .add [x,y] z):=by
 have lists:eu n Y (dS x y a b) z (binaryOp .Add a b) (g7 (g6 z x) λp=>g7 (g6 z y) λq=>dr (small (p.1+q.1)) (.ok (.aD (p.1+q.1) (p.2++q.2)) z)):=by refine qn .stuck λp aQ=>qn .stuck λq bx=>iG .stuck λar=>?_;refine .made λA I Z s Q E aw am aj aC=>?_;refine fk (ko am aj.1 aQ) ?_;intro c vs cy aB ak ai;refine ab cy ?_;refine fk (ko am aj.2 bx) ?_;intro du gW cy gu wh hu;refine ab cy ?_;refine cL aB.qi ?_;intro c4 ae;refine cL gu.qi ?_;intro dg af;refine P.add_list ae af ?_ (by refine ab List.size_toArray (ab List.size_toArray (bM ak.length (bM wh.length ?_)));exact Qu ai hu ar);refine aC _ _ _ (vs++gW) (b8 _) (et _ _) ⟨0,?_⟩ (ak.append wh) (by refine ab List.length_append ?_;exact Nat.add_le_add ai hu);rw[CZ];exact hJ _ rfl
 refine(?_:eu n Y (dS x y a b) z (binaryOp .Add a b) (ys z x y));cases x
 case int i=>exact m6 (R1:=λy r=>eu n Y (dS (.int i) y a b) z (binaryOp .Add a b) r) (λx9=> .stuck) (λj=> .quiet λA I Z s Q E aw am aj aC=>aj.1.fb λt=>aj.2.fb λt'=>PyProof.Rows.add_int (aC _ _ (.int _ _))) y
 case str i=>refine y6 (R1:=λy r=>eu n Y (dS (.str i) y a b) z (binaryOp .Add a b) r) (λx9=> .stuck) (λj=>iG .stuck λar=> .quiet λA I Z s Q E aw am aj aC=>aj.1.gU λt=>aj.2.gU λt'=>?_) y;rw[Bool.and_eq_true]at ar;refine PyProof.Rows.add_str (λt' aR=>?_) (by rw[CX,CX,sizeLine_eq];have:=ic ar.1;have:=ic ar.2;lia);rw[Qr];exact aC _ _ (.str _ _)
 all_goals exact lists
theorem Qw(x y:V)(a b:Value):eu n Y (dS x y a b) z (binaryOp .Sub a b) (bi .sub [x,y] z):=
 m6 (R1:=λx r=>eu n Y (dS x y a b) z (binaryOp .Sub a b) r) (λx9=> .stuck) (λi=>m6 (R1:=λy r=>eu n Y (dS (.int i) y a b) z (binaryOp .Sub a b) r) (λx9=> .stuck)
  (λj=> .quiet λA I Z s Q E aw am aj aC=>aj.1.fb λt=>aj.2.fb λt'=>PyProof.Rows.sub_int (aC _ _ (.int _ _))) y) x
theorem Qx(x y:V)(a b:Value):eu n Y (dS x y a b) z (binaryOp .Mod a b) (bi .mod [x,y] z):=
 m6 (R1:=λx r=>eu n Y (dS x y a b) z (binaryOp .Mod a b) r) (λx9=> .stuck) (λi=>r8 (R1:=λy r=>eu n Y (dS (.int i) y a b) z (binaryOp .Mod a b) r) (λx9=> .stuck) (λk=>by
  cases k with
  |zero=>exact .stuck
  |succ k=>
   refine .quiet λA I Z s Q E aw am aj aC=>aj.1.fb λt=>aj.2.fb λt'=>?_;refine PyProof.Rows.mod_int (λq=>bf (Int.ofNat.inj q) (Nat.succ_ne_zero k)) ?_;refine ab (Int.fmod_eq_emod_of_nonneg _ (Int.natCast_nonneg (k+1)):i.fmod (Int.ofNat (k+1))=i%Int.ofNat (k+1)) ?_
   exact aC _ _ (.int _ _)) y) x
end
theorem Ij:∀l m,oK l m=decide (l.length=m.length)
 |[],[]=>rfl
 |[],_::_=>by simp[yx,yy,yz]
 |_::_,[]=>by simp[yx,yy,yz]
 |_::r,_::t=>by simp only[yx,yy,yz];refine c0 (Ij r t) ?_;simp
section
variable{n:Nat}{Y:List Env}{z:St}{I:bX}{Z:bY}{h:Heap}
set_option tactic.hygienic true in
theorem Qy{F:V->V->Bool->Prop}(e:ru x y=some r)(ae:∀a b,F (.str a) (.str b) (el a b))(af:∀a b,F (.int a) (.int b) (eC a b)):F x y r:=by
 cases x
 case str a=>
  cases y
  case str b=>obtain rfl:=a8 e;exact ae a b
  all_goals exact ns e
 case int a=>
  cases y
  case int b=>obtain rfl:=a8 e;exact af a b
  all_goals exact ns e
 all_goals exact ns e
theorem Ik(s t:List Nat):((ci s).cps.toList==(ci t).cps.toList)=el s t:=by
 rw[jV,show(ci s).cps.toList=s by simp[ci],show(ci t).cps.toList=t by simp[ci]]
 by_cases q:s=t<;>simp[q]
theorem Il(i j:Int):(i==j)=eC i j:=by rw[nZ];by_cases q:i=j<;>simp[q]
theorem Qz(e:ru x y=some r)(aL:Den I Z x a)(ai:Den I Z y b):EqGives a b r:=by
 revert aL ai
 exact Qy (F:=λx y r=>Den I Z x a->Den I Z y b->EqGives a b r) e (λs t aL ai=>aL.gU λt1=>ai.gU λt2=>Ik s t▸SeqRoads2.EqGives.str (ci s) (ci t) t1 t2)
  (λi j aL ai=>aL.fb λt1=>ai.fb λt2=>Il i j▸EqGives.int i j t1 t2)
theorem QA(k:Nat)(f:Nat->Bool):(List.range (k+1)).all f=(f 0&&(List.range k).all λj=>f (j+1)):=by refine ab List.range_succ_eq_map (ab List.all_cons (ab List.all_map ?_));rfl
theorem QB:∀{r:Bool}{vs dK:List Value},oJ l m=some r->bn I Z l vs->bn I Z m dK->l.length=m.length->
  ∃f:Nat->Bool,(∀j(ae:j<vs.length)(af:j<dK.length),EqGives vs[j] dK[j] (f j))/\(List.range vs.length).all f=r:=by
 induction l generalizing m with
 |nil=>
  intro r vs dK e ak aJ eh
  cases m with
  |nil=>obtain rfl:=a8 e;exact ak.nY (bq (λx9=>true) (λj ae=>bf ae (Nat.not_lt_zero j)) rfl)
  |cons be cm=>injection eh
 |cons a l ih=>
  intro r vs dK e ak aJ eh
  cases m with
  |nil=>injection eh
  |cons b m=>
   replace e:(match ru a b with
    |some x=>match oJ l m with
     |some y=>some (x&&y)
     |none=>none
    |none=>none)=some r:=e
   refine ak.kM λu ev aL ak=>?_;revert e;refine aJ.kM λwi adY ai aJ e=>?_
   cases aW:ru a b with
   |none=>replace e:=aW▸e;exact ns e
   |some x=>
    rw[aW]at e
    replace e:(match oJ l m with
     |some y=>some (x&&y)
     |none=>none)=some r:=e
    cases aw:oJ l m with
    |none=>replace e:=aw▸e;exact ns e
    |some y=>
     rw[aw]at e;refine a4 (ih aw ak aJ (Nat.succ.inj eh)) ?_;intro f hf i8;refine bq (λj=>match j with|0=>x|j+1=>f j) (λj ae af=>?_) ?_
     ·cases j with
      |zero=>exact Qz aW aL ai
      |succ j=>exact hf j (Nat.lt_of_succ_lt_succ ae) (Nat.lt_of_succ_lt_succ af)
     ·rw[List.length_cons,QA];refine c0 ?_ (a8 e);exact bM i8 rfl
theorem y8(di:A.units<cLine)(e:ke l m=some r)(aB:SeqAt s.heap c false vs)(gu:SeqAt s.heap du false dK)(ak:bn I Z l vs)(aJ:bn I Z m dK):
  PySem.SeqAt.RcAt A s (.ref c) (.ref du) r/\PySem.SeqAt.RcNeAt A s (.ref c) (.ref du) (!r):=by
 unfold ke at e;rw[Ij]at e
 by_cases eh:l.length=m.length
 ·rw[decide_eq_true eh]at e;refine a4 (QB e ak aJ eh) ?_;intro f hf cy;refine bM cy ?_;have cW:vs.toArray.size=dK.toArray.size:=by exact ab List.size_toArray (ab List.size_toArray (bM ak.length (bM aJ.length (ab eh rfl))))
  have x:=PySem.SeqAt.RcAt.lists aB.isList gu.isList cW di (λj ae af=>(hf j (by exact ae) (by exact af)).at _ _:∀j(ae:j<vs.toArray.size)(af:j<dK.toArray.size),PySem.SeqAt.EqAt A.in1 s vs.toArray[j] dK.toArray[j] (f j));have y:=PySem.SeqAt.RcNeAt.lists aB.isList gu.isList cW di (λj ae af=>(hf j (by exact ae) (by exact af)).at _ _:∀j(ae:j<vs.toArray.size)(af:j<dK.toArray.size),PySem.SeqAt.EqAt A.in1 s vs.toArray[j] dK.toArray[j] (f j));exact⟨x,y⟩
 ·rw[decide_eq_false eh]at e;refine bM (a8 e) ?_;have cW:(vs.toArray.size !=dK.toArray.size)=true:=by refine ab List.size_toArray (ab List.size_toArray (bM ak.length (bM aJ.length ?_)));simp[eh]
  exact⟨PySem.SeqAt.RcAt.lists_lengths aB.isList gu.isList cW di,PySem.SeqAt.RcNeAt.lists_lengths aB.isList gu.isList cW di⟩
theorem Im{F:V->V->Bool->Prop}(e:tQ x y=some r)(ae:F .none .none true)(af:∀s,F .none (.str s) false)(ax:∀s,F .none (.int s) false)(a0:∀s,F (.str s) .none false)(cn:∀s,F (.int s) .none false)
  (da:∀a b,F (.str a) (.str b) (el a b)) (fw:∀a b,F (.int a) (.int b) (eC a b)) (kR:∀a b,F (.bool a) (.bool b) (vN a b)):F x y r:=by
 cases x
 case none=>
  cases y
  case none=>obtain rfl:=a8 e;exact ae
  case str=>obtain rfl:=a8 e;exact af _
  case int=>obtain rfl:=a8 e;exact ax _
  all_goals exact ns e
 case str=>
  cases y
  case none=>obtain rfl:=a8 e;exact a0 _
  case str=>obtain rfl:=a8 e;exact da _ _
  all_goals exact ns e
 case int=>
  cases y
  case none=>obtain rfl:=a8 e;exact cn _
  case int=>obtain rfl:=a8 e;exact fw _ _
  all_goals exact ns e
 case bool=>
  cases y
  case bool=>obtain rfl:=a8 e;exact kR _ _
  all_goals exact ns e
 all_goals exact ns e
theorem QC{E:cc}(e:tQ x y=some r)(aL:Den I Z x a)(ai:Den I Z y b)(q:∀aR,Q (.bool r) {s with toks:=aR}):
  wpAny (model prog w) A (compareOp .Eq a b) Q E s:=by
 have C0:=q s.toks;clear q;revert aL ai C0
 exact Im (F:=λx y r=>Den I Z x a->Den I Z y b->Q (.bool r) s->wpAny (model prog w) A (compareOp .Eq a b) Q E s) e (λaL ai q=>aL.mj (ai.mj (PySem.EqNone.eq_none_none q)))
  (λx9 aL ai q=>aL.mj (ai.gU λx9=>PySem.EqNone.eq_none_str q)) (λx9 aL ai q=>aL.mj (ai.fb λx9=>PySem.EqNone.eq_none_int q)) (λx9 aL ai q=>ai.mj (aL.gU λx9=>PySem.EqNone.eq_str_none q)) (λx9 aL ai q=>ai.mj (aL.fb λx9=>PySem.EqNone.eq_int_none q))
  (λa b aL ai q=>aL.gU λx9=>ai.gU λx9=>PyProof.Rows.eq_str (by rw[CW];exact q)) (λa b aL ai q=>aL.fb λx9=>ai.fb λx9=>PyProof.Rows.eq_int (by rw[nZ]at q;exact q)) (λa b aL ai q=>aL.yZ (ai.yZ (eq_bool (by rw[CV]at q;exact q))))
theorem QD{E:cc}(e:tQ x y=some r)(aL:Den I Z x a)(ai:Den I Z y b)(q:∀aR,Q (.bool !r) {s with toks:=aR}):
  wpAny (model prog w) A (compareOp .NotEq a b) Q E s:=by
 have C0:=q s.toks;clear q;revert aL ai C0
 exact Im (F:=λx y r=>Den I Z x a->Den I Z y b->Q (.bool !r) s->wpAny (model prog w) A (compareOp .NotEq a b) Q E s) e (λaL ai q=>aL.mj (ai.mj (PySem.EqNone.ne_none_none q)))
  (λx9 aL ai q=>aL.mj (ai.gU λx9=>PySem.EqNone.ne_none_str q)) (λx9 aL ai q=>aL.mj (ai.fb λx9=>PySem.EqNone.ne_none_int q)) (λx9 aL ai q=>ai.mj (aL.gU λx9=>PySem.EqNone.ne_str_none q)) (λx9 aL ai q=>ai.mj (aL.fb λx9=>PySem.EqNone.ne_int_none q))
  (λa b aL ai q=>aL.gU λx9=>ai.gU λx9=>PyProof.Rows.ne_str (by rw[show(ci a !=ci b)=!(ci a==ci b)from rfl,CW];exact q)) (λa b aL ai q=>aL.fb λx9=>ai.fb λx9=>PyProof.Rows.ne_int (by rw[nZ]at q;exact q)) (λa b aL ai q=>aL.yZ (ai.yZ (ne_bool (by rw[CV]at q;exact q))))
end
section
variable{n:Nat}{Y:List Env}{z:St}{I:bX}{Z:bY}{h:Heap}
theorem Io(e:l8 z x y=some r):(∃p q,g6 z x=some p/\g6 z y=some q/\ke p.2 q.2=some r)\/tQ x y=some r:=by
 unfold l8 at e
 cases aQ:g6 z x with
 |none=>replace e:=aQ▸e;exact .inr e
 |some p=>
  rw[aQ]at e;replace e:(match g6 z y with|some (_,m)=>ke p.2 m|none=>none)=some r:=e
  cases bx:g6 z y with
  |none=>replace e:=bx▸e;exact ns e
  |some q=>rw[bx]at e;exact .inl (iw p q rfl rfl e)
theorem QE(x y:V)(a b:Value):eu n Y (dS x y a b) z (compareOp .Eq a b) (bi .eq [x,y] z):=by
 refine(?_:eu _ _ _ _ _ (em ((l8 z x y).map .bool) z))
 cases e:l8 z x y with
 |none=>exact .stuck
 |some r=>
  refine .quiet λA I Z s Q E aw am aj aC=>?_;refine Or.elim (Io e) (λcz=>?_) λhf=>?_
  ·(refine hp cz ?_;try clear cz;intro p q aQ bx ak);(refine fk (ko am aj.1 aQ) ?_;intro c vs cy aB dl x9)
   rw[cy];refine fk (ko am aj.2 bx) ?_;intro du dK cy gu r9 x9;rw[cy];exact(y8 aw.line ak aB gu dl r9).1 prog w E Q (aC s.toks _ (.bool _))
  ·exact QC hf aj.1 aj.2 λaR=>aC aR _ (.bool _)
theorem QF(x y:V)(a b:Value):eu n Y (dS x y a b) z (compareOp .NotEq a b) (bi .ne [x,y] z):=by
 refine(?_:eu _ _ _ _ _ (em ((l8 z x y).map λr=> .bool !r) z))
 cases e:l8 z x y with
 |none=>exact .stuck
 |some r=>
  refine .quiet λA I Z s Q E aw am aj aC=>?_;refine Or.elim (Io e) (λcz=>?_) λhf=>?_
  ·(refine hp cz ?_;try clear cz;intro p q aQ bx ak);(refine fk (ko am aj.1 aQ) ?_;intro c vs cy aB dl x9)
   rw[cy];refine fk (ko am aj.2 bx) ?_;intro du dK cy gu r9 x9;rw[cy];exact(y8 aw.line ak aB gu dl r9).2 prog w E Q (aC s.toks _ (.bool _))
  ·exact QD hf aj.1 aj.2 λaR=>aC aR _ (.bool _)
theorem bu.pa(R:bu I Z z h):bu I Z ({z with orc:=l}.say p) h:=⟨R.base,R.frz,R.obj,R.apart,R.out,R.fresh,R.gl,R.sys,R.low⟩
theorem cw.pa{O:Addr->Prop}:cw Y O I Z z h I Z ({z with orc:=l}.say p) h:=⟨.refl _, .refl _,λx9 x9 e x9 x9=> .of_eq e,λx9 x=> .inl x,λx9 x=> .inl x,b8 _⟩
theorem Ip{R:V->V->Res V->Prop}(h0:∀x y,R x y .stuck)(h:∀p l q m r bU,R (.aD p l) (.aD q m) (.ok (.bool r) ({z with orc:=bU}.say (ke l m=some (f r)))))(x y:V):R x y (BV z f x y):=
 wg (R1:=λx r=>R x y r) (λx9=>h0 _ _) (λp l=>wg (R1:=λy r=>R (.aD p l) y r) (λx9=>h0 _ _) (λq m=>CY (h0 _ _) λv bU x9=>by
  cases v<;>first|exact h _ _ _ _ _ _|exact h0 _ _) y) x
theorem QG(x y:V)(a b:Value):eu n Y (dS x y a b) z (compareOp .Eq a b) (bi .vM [x,y] z):=
 Ip (R:=λx y r=>eu n Y (dS x y a b) z (compareOp .Eq a b) r) (λx9 x9=> .stuck) (λp l q m r bU=> .leaf (λaP=>aP.1) λA I Z s Q E aP aw aS am aj aC=>by
  refine fk (ko am aj.1 rfl) ?_;intro c vs cy aB dl x9;refine ab cy ?_;refine fk (ko am aj.2 rfl) ?_;intro du dK cy gu r9 x9;refine ab cy ?_
  exact(y8 aw.line aP.2 aB gu dl r9).1 prog w E Q (aC I Z s.heap s.toks _ .pa am.pa (.bool _))) x y
theorem QH(x y:V)(a b:Value):eu n Y (dS x y a b) z (compareOp .NotEq a b) (bi .ro [x,y] z):=
 Ip (R:=λx y r=>eu n Y (dS x y a b) z (compareOp .NotEq a b) r) (λx9 x9=> .stuck) (λp l q m r bU=> .leaf (λaP=>aP.1) λA I Z s Q E aP aw aS am aj aC=>by
  refine fk (ko am aj.1 rfl) ?_;intro c vs cy aB dl x9;refine ab cy ?_;refine fk (ko am aj.2 rfl) ?_;intro du dK cy gu r9 x9;refine ab cy ?_;refine(y8 aw.line aP.2 aB gu dl r9).2 prog w E Q ?_;rw[Bool.not_not]
  exact aC I Z s.heap s.toks _ .pa am.pa (.bool _)) x y
theorem QI(i j:Int):tT i j=decide (j<i):=by
 unfold tT
 cases e:j-i with
 |ofNat k=>exact(decide_eq_false (Int.not_lt.mpr (Int.le_of_sub_nonneg (e▸Int.natCast_nonneg k)))).symm
 |negSucc k=>exact(oG (Int.lt_of_sub_neg (e▸Int.negSucc_lt_zero k))).symm
theorem QJ(x y:V)(a b:Value):eu n Y (dS x y a b) z (compareOp .Gt a b) (bi .gt [x,y] z):=
 m6 (R1:=λx r=>eu n Y (dS x y a b) z (compareOp .Gt a b) r) (λx9=> .stuck) (λi=>m6 (R1:=λy r=>eu n Y (dS (.int i) y a b) z (compareOp .Gt a b) r) (λx9=> .stuck)
  (λj=> .quiet λA I Z s Q E aw am aj aC=>aj.1.fb λt=>aj.2.fb λt'=>PyProof.Rows.gt_int (by rw[<-QI];exact aC s.toks _ (.bool _))) y) x
theorem Iq(d:Den I Z x a):(a== .none)=yr x/\(!(a== .none))=G6 x:=by cases d<;>exact⟨rfl,rfl⟩
theorem QK(x:V)(a b:Value)(ai:b= .none):eu n Y (m7 x a) z (compareOp .Is a b) (bi .isNone [x] z):=by refine ab ai ?_;refine .quiet λA I Z s Q E aw am aj aC=>?_;refine is_none ?_;refine ab ((Iq aj).1) ?_;exact aC s.toks _ (.bool _)
theorem QL(x:V)(a b:Value)(ai:b= .none):eu n Y (m7 x a) z (compareOp .IsNot a b) (bi .er [x] z):=by refine ab ai ?_;refine .quiet λA I Z s Q E aw am aj aC=>?_;refine isNot_none ?_;refine ab ((Iq aj).2) ?_;exact aC s.toks _ (.bool _)
end
theorem Ir{K:Type}[DecidableEq K](k0:K)(v:Value)(kvs:List (K×Value))(k:K):valueAt ((k0,v)::kvs) k=if k0=k then some v else valueAt kvs k:=by
 unfold valueAt
 by_cases h:k0=k<;>simp[h]
theorem It{K:Type}[DecidableEq K](k0:K)(qo:Value)(kvs:List (K×Value))(k:K)(v:Value)(aq:k0=k->∀p∈kvs,p.1≠k):stored ((k0,qo)::kvs) k v=if k0=k then(k0,v)::kvs else(k0,qo)::stored kvs k v:=by
 unfold stored
 by_cases h:k0=k
 ·have af:=aq h;simp only[h,List.any_cons,decide_true,Bool.true_or,if_true,List.map_cons]
  congr 1
  conv=>rhs;rw[<-List.map_id kvs]
  exact List.map_congr_left λp aj=>by refine c0 (cO (af p aj)) ?_;rfl
 ·simp only[h,List.any_cons,decide_false,Bool.false_or,if_false,List.map_cons]
  split<;>simp
section
variable{I:bX}{Z:bY}
theorem gV.look(d:gV I Z ah kvs)(k:List Nat):
  (∀v,c7 k ah=some v->∃u,valueAt kvs (ci k)=some u/\Den I Z v u)/\(c7 k ah=none->valueAt kvs (ci k)=none):=by
 induction d with
 |nil=>exact⟨λv e=>(nomatch e),λx9=>rfl⟩
 | @cons bF v' wj ah kvs aN be ih=>
  dsimp only[md];rw[Ir,jV]
  by_cases h:bF=k
  ·refine ab h ?_;refine ab (df rfl) (ab (oG rfl) ?_);exact⟨λv e=>by obtain rfl:=a8 e;exact bq _ rfl aN,λe=>nomatch e⟩
  ·refine ab (cO (λq=>h (y5 q))) (ab (decide_eq_false h) ?_);exact ih
theorem gV.put(d:gV I Z ah kvs)(aq:(kvs.map (·.1)).Nodup)(di:Den I Z v u):
  gV I Z (fJ k v ah) (stored kvs (ci k) u):=by
 induction d with
 |nil=>exact .cons di .nil
 | @cons bF v' wj ah kvs aN d0 ih=>
  rw[List.map_cons,List.nodup_cons]at aq;refine ab (It _ _ _ _ _ λq p aj aE=>aq.1 (List.mem_map.mpr (bq p aj (aE.trans q.symm)))) ?_;dsimp only[mW];rw[jV]
  by_cases h:bF=k
  ·refine bM h ?_;refine ab (df rfl) (ab (oG rfl) ?_);exact .cons di d0
  ·refine ab (cO (λq=>h (y5 q))) (ab (decide_eq_false h) ?_);exact .cons aN (ih aq.2)
theorem iB.look(d:iB I Z ah kvs)(k:Int):
  (∀v,jM k ah=some v->∃u,valueAt kvs k=some u/\Den I Z v u)/\(jM k ah=none->valueAt kvs k=none):=by
 induction d with
 |nil=>exact⟨λv e=>(nomatch e),λx9=>rfl⟩
 | @cons bF v' wj ah kvs aN be ih=>
  dsimp only[jM];rw[Ir,nZ]
  by_cases h:bF=k
  ·refine ab h ?_;refine ab (df rfl) (ab (oG rfl) ?_);exact⟨λv e=>by obtain rfl:=a8 e;exact bq _ rfl aN,λe=>nomatch e⟩
  ·refine ab (cO h) (ab (decide_eq_false h) ?_);exact ih
theorem iB.put(d:iB I Z ah kvs)(aq:(kvs.map (·.1)).Nodup)(di:Den I Z v u):
  iB I Z (ma k v ah) (stored kvs k u):=by
 induction d with
 |nil=>exact .cons di .nil
 | @cons bF v' wj ah kvs aN d0 ih=>
  rw[List.map_cons,List.nodup_cons]at aq;refine ab (It _ _ _ _ _ λq p aj aE=>aq.1 (List.mem_map.mpr (bq p aj (aE.trans q.symm)))) ?_;dsimp only[ma];rw[nZ]
  by_cases h:bF=k
  ·refine bM h ?_;refine ab (df rfl) (ab (oG rfl) ?_);exact .cons di d0
  ·refine ab (cO h) (ab (decide_eq_false h) ?_);exact .cons aN (ih aq.2)
theorem C1(k:List Nat)(v:V):∀ah,(fJ k v ah).length<=ah.length+1:=by
 intro br
 induction br with
 |nil=>exact b8 _
 |cons cm r ih=>
  obtain⟨bF,v'⟩:=cm;dsimp only[mW]
  cases el bF k with
  |true=>simp
  |false=>simpa using ih
theorem Iu(k:Int)(v:V):∀ah,(ma k v ah).length<=ah.length+1:=by
 intro br
 induction br with
 |nil=>exact b8 _
 |cons cm r ih=>
  obtain⟨bF,v'⟩:=cm;dsimp only[ma]
  cases eC bF k with
  |true=>simp
  |false=>simpa using ih
end
section
variable{n:Nat}{Y:List Env}{z:St}{I:bX}{Z:bY}{h:Heap}
theorem n1(R:bu I Z z h){id b:Nat}(d:Den I Z (.ref id) a)(as:z.heap id=some (.ba b ah)):
  ∃c kvs,a= .ref c/\I id=some (c,c)/\h.DictOf (strKind prog w) c kvs/\gV I Z ah kvs/\ah.length<=b/\c≠sysModules:=by
 refine y7 R as d λa d ag x=>?_;obtain⟨rfl,kvs,ar,ak,ai⟩:=x;exact BM _ kvs rfl ag ar ak ai (R.sys _ (ix id _ _ (by rw[as];simp) ag (.inl rfl)))
theorem qp(R:bu I Z z h){id b:Nat}(d:Den I Z (.ref id) a)(as:z.heap id=some (.ck b ah)):
  ∃c kvs,a= .ref c/\I id=some (c,c)/\h.DictOf (intKind prog w) c kvs/\iB I Z ah kvs/\ah.length<=b/\c≠sysModules:=by
 refine y7 R as d λa d ag x=>?_;obtain⟨rfl,kvs,ar,ak,ai⟩:=x;exact BM _ kvs rfl ag ar ak ai (R.sys _ (ix id _ _ (by rw[as];simp) ag (.inl rfl)))
theorem qq(R:bu I Z z h){id b:Nat}(d:Den I Z (.ref id) a)(as:z.heap id=some (.list b l)):
  ∃c vs,a= .ref c/\I id=some (c,c)/\SeqAt h c false vs/\bn I Z l vs/\l.length<=b:=by
 refine y7 R as d λa d ag x=>?_;obtain⟨rfl,vs,ar,ak,ai⟩:=x;exact nM _ vs rfl ag ar ak ai
noncomputable def Sys(_:Heap):Prop:=True
theorem mm(_:Sys B)(aB:c≠sysModules):(c==sysModules)=false:=by simpa using aB
noncomputable def za(s:Str):Value->Bool
 | .str x _=>x==s
 |_=>false
noncomputable def C2(i:Int):Value->Bool
 | .int x _=>x==i
 |_=>false
theorem Iv(s u:List Nat)(t:Tok):za (ci s) (.str (ci u) t)=el u s:=by rw[show za (ci s) (.str (ci u) t)=(ci u==ci s)from rfl,CW]
theorem QM(i u:Int)(t:Tok):C2 i (.int u t)=eC u i:=Il u i
theorem Iw{M:List V->Option Bool}{eqv:V->Option Bool}(h0:M []=some false)(ae:∀x l,M (x::l)=match eqv x with|some c=>(match M l with|some b=>some (c||b)|none=>none)|none=>none)
  (aM:∀x u c,eqv x=some c->Den I Z x u->EqGives u g (f u)/\f u=c):∀{r:Bool}{vs:List Value},M l=some r->bn I Z l vs->(∀y∈vs,EqGives y g (f y))/\vs.any f=r:=by
 induction l with
 |nil=>intro r vs e d;rw[h0]at e;obtain rfl:=a8 e;exact d.nY ⟨λx9 bx=>(nomatch bx),rfl⟩
 |cons x l ih=>
  intro r vs e d;rw[ae]at e
  cases aQ:eqv x with
  |none=>rw[aQ]at e;exact ns e
  |some c=>
   rw[aQ]at e;replace e:(match M l with|some b=>some (c||b)|none=>none)=some r:=e
   cases aJ:M l with
   |none=>rw[aJ]at e;exact nomatch e
   |some b=>
    rw[aJ]at e;refine d.kM λu ev aN ak=>?_;refine bC (ih aJ ak) ?_;intro gd fm;refine⟨λy bx=>?_,?_⟩
    ·cases bx with
     |head=>exact(aM x u c aQ aN).1
     |tail be bx=>exact gd y bx
    ·refine ab List.any_cons (ab ((aM x u c aQ aN).2) (ab fm ?_));exact a8 e
set_option tactic.hygienic true in
theorem uo(e:ll s l=some r)(d:bn I Z l vs):(∀y∈vs,EqGives y (.str (ci s) t) (za (ci s) y))/\vs.any (za (ci s))=r:=
 Iw (M:=ll s) (eqv:=oL λu=>some (el u s)) rfl (λx l=>by cases x<;>rfl) (λx u c e d=>by
  cases x
  case str v=>obtain rfl:=a8 e;exact d.gU λt'=>⟨by rw[Iv,<-Ik];exact SeqRoads2.EqGives.str (ci v) (ci s) t' t,Iv s v t'⟩
  all_goals exact ns e) e d
set_option tactic.hygienic true in
theorem Iy(e:tR i l=some r)(d:bn I Z l vs):(∀y∈vs,EqGives y (.int i t) (C2 i y))/\vs.any (C2 i)=r:=
 Iw (M:=tR i) (eqv:=vP λu=>some (eC u i)) rfl (λx l=>by cases x<;>rfl) (λx u c e d=>by
  cases x
  case int v=>obtain rfl:=a8 e;exact d.fb λt'=>⟨EqGives.int v i t' t,QM i v t'⟩
  all_goals exact ns e) e d
theorem zb{F:V->Prop}(e:oL k x=some r)(H:∀s,k s=some r->F (.str s)):F x:=by
 cases x
 case str=>exact H _ e
 all_goals exact ns e
set_option tactic.hygienic true in
theorem QN{F:V->V->Prop}(e:lm z x y=some r)(ae:∀s l,ll s l=some r->F (.str s) (.tup l))(af:∀s b l,ll s l=some r->F (.str s) (.aD b l))(ax:∀c t,vO c t=r->F (.str [c]) (.str t))
  (a0:∀s id b l,z.heap id=some (.list b l)->ll s l=some r->F (.str s) (.ref id)) (cn:∀i id b l,z.heap id=some (.list b l)->tR i l=some r->F (.int i) (.ref id))
  (da:∀s id b ah,z.heap id=some (.ba b ah)->(c7 s ah).isSome=r->F (.str s) (.ref id)) (fw:∀i id b ah,z.heap id=some (.ck b ah)->(jM i ah).isSome=r->F (.int i) (.ref id)):F x y:=by
 cases y
 case tup l=>exact zb (F:=λx=>F x (.tup l)) (x:=x) e λs e=>ae s l e
 case aD b l=>exact zb (F:=λx=>F x (.aD b l)) (x:=x) e λs e=>af s b l e
 case str t=>
  refine zb (F:=λx=>F x (.str t)) (x:=x) e λs e=>?_
  cases s with
  |nil=>exact ns e
  |cons c s=>cases s with
   |nil=>exact ax c t (a8 e)
   |cons be cm=>exact ns e
 case ref id=>
  replace e:(match z.heap id with
   |some o=>match o with
    | .ba _ ah=>oL (λs=>some (c7 s ah).isSome) x
    | .ck _ ah=>vP (λn=>some (jM n ah).isSome) x
    | .list _ l=>yq x l
    | .inst .. =>none
   |none=>none)=some r:=e
  cases as:z.heap id with
  |none=>replace e:=as▸e;exact ns e
  |some o=>
   rw[as]at e
   cases o with
   |inst be cm i5=>exact ns e
   |ba b ah=>exact zb (F:=λx=>F x (.ref id)) (x:=x) e λs e=>da s id b ah as (a8 e)
   |ck b ah=>
    cases x
    case int i=>exact fw i id b ah as (a8 e)
    all_goals exact ns e
   |list b l=>
    cases x
    case str s=>exact a0 s id b l as e
    case int i=>exact cn i id b l as e
    all_goals exact ns e
 all_goals exact ns e
abbrev zc(A:Around)(E:cc)(s:Shared)(a b:Value)(r:Bool):Prop:=
  (∀Q:cc,(∀aR,Q (.bool r) {s with toks:=aR})->wpAny (model prog w) A (compareOp .In a b) Q E s)/\
  (∀Q:cc,(∀aR,Q (.bool !r) {s with toks:=aR})->wpAny (model prog w) A (compareOp .NotIn a b) Q E s)
theorem zd{E:cc}:∀{t:Bool},SeqAt s.heap c t vs->(∀y∈vs,EqGives y a (f y))->vs.any f=r->zc A E s a (.ref c) r:=λ{t}aB gd fm=>by
 have ze:∀y,y∈vs.toArray->EqGives y a (f y):=λy bx=>gd y (by simpa using bx);refine cL aB ?_;try clear aB;intro n as
 cases t with
 |true=>exact⟨λQ aC=>SeqRoads2.in_tuple f ze as (by rw[((by refine Eq.trans List.any_toArray ?_;exact fm):vs.toArray.any f=r)];exact aC s.toks),λQ aC=>SeqRoads2.notIn_tuple f ze as (by rw[((by refine Eq.trans List.any_toArray ?_;exact fm):vs.toArray.any f=r)];exact aC s.toks)⟩
 |false=>exact⟨λQ aC=>SeqRoads2.in_list f ze as (by rw[((by refine Eq.trans List.any_toArray ?_;exact fm):vs.toArray.any f=r)];exact aC s.toks),λQ aC=>SeqRoads2.notIn_list f ze as (by rw[((by refine Eq.trans List.any_toArray ?_;exact fm):vs.toArray.any f=r)];exact aC s.toks)⟩
theorem Iz{aI bG:Type}{o:Option aI}{p:Option bG}(ae:∀v,o=some v->∃u,p=some u)(af:o=none->p=none):p.isSome=o.isSome:=by
 cases o with
 |none=>refine ab (af rfl) ?_;rfl
 |some v=>(refine cL (ae v rfl) ?_;intro u e);refine ab e ?_;rfl
theorem in_dict{K:Type}[DecidableEq K]{knd:KeyKind prog w K}{E:cc}{kvs:List (K×Value)}{k:K}(ag:knd.is k a=true)(ai:(c==sysModules)=false)(aB:s.heap.DictOf knd c kvs)(e:(valueAt kvs k).isSome=r):zc A E s a (.ref c) r:=by subst e;exact⟨λQ aC=>wpAny_in_of ag ai aB.mapOf (aC _),λQ aC=>wpAny_notIn_of ag ai aB.mapOf (aC _)⟩
theorem IA(ar:Sys B)(e:lm z x y=some r)(R:bu I Z z s.heap)(gY:Den I Z x a)(gZ:Den I Z y b){E:cc}:zc A E s a b r:=by
 revert gY gZ
 exact QN (F:=λx y=>Den I Z x a->Den I Z y b->zc A E s a b r) e
  (λs l e gY gZ=>gZ.CO λc vs hz ak=>gY.gU λt=>zd (R.frz _ _ _ hz) (uo e ak).1 (uo (t:=t) e ak).2)
  (λs b l e gY gZ=>gZ.v6 λc vs hz ak x9=>gY.gU λt=>zd (R.frz _ _ _ hz) (uo e ak).1 (uo (t:=t) e ak).2)
  (λc t e gY gZ=>gY.gU λx9=>gZ.gU λx9=>by
   have:(!(Builtin.Str.occurrences (ci t) (ci [c]) 0 (ci t).length 1).isEmpty)=r:=by rw[<-e,Qq,show ci [c]=⟨#[c]⟩from rfl,PySem.StrLaws.found_one];exact decide_eq_decide.mpr (by simp[ci])
   exact⟨λQ aC=>PyProof.Rows.in_str (by refine ab this ?_;exact aC s.toks),λQ aC=>PyProof.Rows.notIn_str (by refine ab this ?_;exact aC s.toks)⟩)
  (λwk id b l as e gY gZ=>by
   refine h4 (qq R gZ as) ?_;rintro c vs rfl _ aB ak _
   exact gY.gU λt=>zd aB (uo e ak).1 (uo (t:=t) e ak).2)
  (λi id b l as e gY gZ=>by
   refine h4 (qq R gZ as) ?_;rintro c vs rfl _ aB ak _
   exact gY.fb λt=>zd aB (Iy e ak).1 (Iy (t:=t) e ak).2)
  (λwk id b ah as e gY gZ=>by
   refine jm (n1 R gZ as) ?_;rintro c kvs rfl _ aB ak _ ai
   exact gY.gU λt=>in_dict (strKind_is _ _ _ _) (mm ar ai) aB ((Iz (λv bA=>a4 ((ak.look wk).1 v bA) λu di x9=>⟨u,di⟩) (ak.look wk).2).trans e))
  (λi id b ah as e gY gZ=>by
   refine jm (qp R gZ as) ?_;rintro c kvs rfl _ aB ak _ ai
   exact gY.fb λt=>in_dict (intKind_is _ _ _ _) (mm ar ai) aB ((Iz (λv bA=>a4 ((ak.look i).1 v bA) λu di x9=>⟨u,di⟩) (ak.look i).2).trans e))
theorem QO(ar:Sys B)(x y:V)(a b:Value):eu n Y (dS x y a b) z (compareOp .In a b) (bi .isin [x,y] z):=by
 refine(?_:eu _ _ _ _ _ (em ((lm z x y).map .bool) z))
 cases e:lm z x y with
 |none=>exact .stuck
 |some r=>exact .quiet λA I Z s Q E aw am aj aC=>(IA ar e am aj.1 aj.2).1 Q λaR=>aC aR _ (.bool _)
theorem QP(ar:Sys B)(x y:V)(a b:Value):eu n Y (dS x y a b) z (compareOp .NotIn a b) (bi .l6 [x,y] z):=by
 refine(?_:eu _ _ _ _ _ (em ((lm z x y).map λr=> .bool !r) z))
 cases e:lm z x y with
 |none=>exact .stuck
 |some r=>exact .quiet λA I Z s Q E aw am aj aC=>(IA ar e am aj.1 aj.2).2 Q λaR=>aC aR _ (.bool _)
end
section
variable{n:Nat}{Y:List Env}{z:St}{I:bX}{Z:bY}{h:Heap}
theorem IB{E:cc}{T id:String}(aq:rH sa=true)(fO:s.TypeIs o T)
  (ak:typeLookup (.type T) "__getitem__"=pure (some (.builtin id))) (h:wpAny (model prog w) A (getItem o i) Q E s):wpAny (model prog w) A (subscriptTail value sa o i) Q E s:=by
 refine aV ?_;refine aV (wpAny_specialOf fO ak ?_);have ar:subscripted sa false o i=operate [o,i] (getItem o i):=by cases sa<;>first|rfl|exact b3 aq
 have fin:wpAny (model prog w) A (subscripted sa false o i) (λr ej=>wpAny (model prog w) A (letTemporaryGo value o r>>=λx9=>pure r) Q E ej) E s:=by refine ab ar ?_;exact wpAny_operating (cd h (λr ej dQ=>aV (wpAny_letTemporaryGo (bQ dQ))) λx9 x9 x=>x)
 first
  |exact bQ (aV fin)
  |exact aV (bQ (aV fin))
  |exact aV fin
inductive Idx(z:St):V->V->V->Prop
 |aD {b n:Nat} {l:List V} {v:V}:small b=true->l[n]?=some v->Idx z (.aD b l) (.int (.ofNat n)) v
 |tup {n:Nat} {l:List V} {v:V}:small l.length=true->l[n]?=some v->Idx z (.tup l) (.int (.ofNat n)) v
 |str {n c:Nat} {l:List Nat}:small l.length=true->l[n]?=some c->Idx z (.str l) (.int (.ofNat n)) (.str [c])
 |list {id b n:Nat} {l:List V} {v:V}:z.heap id=some (.list b l)->small b=true->l[n]?=some v->Idx z (.ref id) (.int (.ofNat n)) v
 |ba {id b:Nat} {ah:List (List Nat×V)} {s:List Nat} {v:V}:z.heap id=some (.ba b ah)->c7 s ah=some v->Idx z (.ref id) (.str s) v
 |ck {id b:Nat} {ah:List (Int×V)} {i:Int} {v:V}:z.heap id=some (.ck b ah)->jM i ah=some v->Idx z (.ref id) (.int i) v
set_option tactic.hygienic true in
theorem IC{R:Res V->Prop}(h0:R .stuck)(h:∀v,Idx z x y v->R (.ok v z)):R (bi .idx [x,y] z):=by
 refine(?_:R (rz z x y));cases x
 case aD b l=>exact r8 (R1:=λy r=>(∀v,Idx z (.aD b l) y v->R (.ok v z))->R r) (λx9 x9=>h0) (λn h=>iG h0 λc=>ul h0 λv e=>h v (.aD c e)) y h
 case tup l=>exact r8 (R1:=λy r=>(∀v,Idx z (.tup l) y v->R (.ok v z))->R r) (λx9 x9=>h0) (λn h=>iG h0 λc=>ul h0 λv e=>h v (.tup c e)) y h
 case str l=>
  refine r8 (R1:=λy r=>(∀v,Idx z (.str l) y v->R (.ok v z))->R r) (λx9 x9=>h0) (λn h=>iG h0 λc=>ul h0 λv e=>?_) y h
  cases ak:l[n]?with
  |none=>replace e:=ak▸e;exact ns e
  |some d=>rw[ak]at e;obtain rfl:=a8 e;exact h _ (.str c ak)
 case ref id=>
  refine qn h0 λo as=>?_;cases o
  case list b l=>exact r8 (R1:=λy r=>(∀v,Idx z (.ref id) y v->R (.ok v z))->R r) (λx9 x9=>h0) (λn h=>iG h0 λc=>ul h0 λv e=>h v (.list as c e)) y h
  case ba b ah=>exact y6 (R1:=λy r=>(∀v,Idx z (.ref id) y v->R (.ok v z))->R r) (λx9 x9=>h0) (λs h=>ul h0 λv e=>h v (.ba as e)) y h
  case ck b ah=>exact m6 (R1:=λy r=>(∀v,Idx z (.ref id) y v->R (.ok v z))->R r) (λx9 x9=>h0) (λs h=>ul h0 λv e=>h v (.ck as e)) y h
  all_goals exact h0
 all_goals exact h0
theorem wm{aI:Type}{l:List aI}{v:aI}(h:l[j]?=some v):j<l.length:=by
 refine Or.elim (Nat.lt_or_ge j l.length) (λq=>?_) λq=>?_
 ·exact q
 ·rw[List.getElem?_eq_none q]at h;exact nomatch h
theorem ID{vs:List Value}{j:Nat}(h:vs[j]?=some u):vs.toArray[j]?=some u:=by simpa using h
theorem IE(h:j<n)(aq:small n=true):(j:Int)<2^63:=by have:=ic aq;lia
theorem QQ(h:j<l)(ak:l<=n)(aq:small n=true):(j:Int)<2^63:=by have:=ic aq;lia
theorem IF(j:Nat): -(2^63)<=(j:Int):=by lia
theorem IG(ar:Sys B)(i:Idx z x y v)(R:bu I Z z s.heap)(gY:Den I Z x a)(gZ:Den I Z y b){E:cc}
  (aC:∀aR u,Den I Z v u->Q u {s with toks:=aR}):
  wpAny (model prog w) A (getItem a b) Q E s/\∃ty id,typeLookup (.type ty) "__getitem__"=pure (some (.builtin id))/\s.TypeIs a ty:=by
 have lists:∀{c:Addr}{vs:List Value}{l:List V}{j p:Nat}{t:Tok},SeqAt s.heap c false vs->bn I Z l vs->l.length<=p->small p=true->l[j]?=some v->
   wpAny (model prog w) A (getItem (.ref c) (.int (.ofNat j) t)) Q E s/\∃ty id,typeLookup (.type ty) "__getitem__"=pure (some (.builtin id))/\s.TypeIs (.ref c) ty:=by
  intro c vs l j p t aB ak ai dT bA;refine a4 (ak.get bA) ?_;intro u di db;exact⟨wpAny_getItem_list aB.isList (Int.natCast_nonneg j) (QQ (wm bA) ai dT) (ID di) (aC s.toks u db),_,_,slot_list_getitem.lookup,aB.isList.typeIs⟩
 cases i with
 |aD c e=>exact gY.v6 λa vs hz ak ai=>gZ.fb λt=>lists (R.frz _ _ _ hz) ak ai c e
 |tup c e=>refine gY.CO λa vs hz ak=>gZ.fb λt=>?_;refine a4 (ak.get e) ?_;intro u di db;have cF:=wm e;have aB:=R.frz _ _ _ hz;exact⟨PyProof.Rows.getItem_tuple (j:=_) aB.isTup (IF _) (IE cF c) (by refine ab List.size_toArray (bM ak.length ?_);exact seqIndex_of (Int.natCast_nonneg _) (Int.ofNat_lt.mpr cF)) (ID di) (aC s.toks u db),_,_,slot_tuple_getitem.lookup,aB.isTup.typeIs⟩
 | @str j c wk dT aB=>
  refine gY.gU λt1=>gZ.fb λt=>?_;refine⟨PyProof.Rows.getItem_str (c:=c) ?_ ?_ (aC _ _ (.str [c] _)),_,_,slot_str_getitem.lookup,typeIs_str s _ _⟩
  ·rw[Bool.or_eq_false_iff];exact⟨decide_eq_false (Int.not_lt.mpr (IF j)),decide_eq_false (Int.not_le.mpr (IE (wm aB) dT))⟩
  ·rw[CX,show seqIndex? (Int.ofNat j) wk.length=some j from seqIndex_of (Int.natCast_nonneg j) (Int.ofNat_lt.mpr (wm aB))]
   simpa[ci]using aB
 |list as c e=>refine h4 (qq R gY as) ?_;rintro du vs rfl _ aB ak ai;exact gZ.fb λt=>lists aB ak ai c e
 |ba as e=>refine jm (n1 R gY as) ?_;rintro c kvs rfl _ aB ak _ _;refine a4 ((ak.look _).1 v e) ?_;intro u di db;exact gZ.gU λt=>⟨wpAny_getItem_of (strKind_is _ _ _ _) aB.mapOf di (aC _ u db),_,_,slot_dict_getitem.lookup,aB.typeIs⟩
 |ck as e=>refine jm (qp R gY as) ?_;rintro c kvs rfl _ aB ak _ _;refine a4 ((ak.look _).1 v e) ?_;intro u di db;exact gZ.fb λt=>⟨wpAny_getItem_of (intKind_is _ _ _ _) aB.mapOf di (aC _ u db),_,_,slot_dict_getitem.lookup,aB.typeIs⟩
theorem QR(ar:Sys B)(x y:V)(a b:Value)(aq:rH sa=true):eu n Y (dS x y a b) z (subscriptTail value sa a b) (bi .idx [x,y] z):=
 IC (R:=λr=>eu n Y (dS x y a b) z (subscriptTail value sa a b) r) .stuck λv i=> .quiet λA I Z s Q E aw am aj aC=>by
  obtain⟨ae,ty,id,af,ax⟩:=IG ar i am aj.1 aj.2 (A:=A) (E:=E) aC;exact IB aq ax af ae
end
abbrev aY.ret{aI:Type}(a:aI):aY aI:=λx9 Q x9 s=>Q a s
abbrev bk(J:Env)(C:aK):fZ:=λz I Z h=>d7 I Z z J C h
theorem cJ:Goes Y aG (bk J C) (bk J C):=⟨λx F=>F.eO x⟩
noncomputable def Reads(x:Str)(v:Value):Prop:=∀(M:Model)(A:Around)(J:Env)(s:Shared)(Q:cc)(E:cc),J.scope.kind= .function->J.globals=mainGlobals->J.builtins=builtinsNs->
 J.kindOf x=some .globalImplicit->B.StaysIn s.heap->Q v s->wpAny M A (loadName J x) Q E s
section
variable{n:Nat}{Y:List Env}{z:St}{O:Addr->Prop}
theorem av.ret(h:∀I Z h,bo z I Z h->D z I Z h b a):av O D n Y bo z (aY.ret a) (.ok b z):=
 ⟨id,λx9 x9 I Z s x9 x9 x9 aS am aj aC=>aC I Z s.heap s.toks a .rfl' am aS (h I Z s.heap aj)⟩
theorem Res.lw(r:Res aI):(r.bind λa z=> .ok a z)=r:=by cases r<;>rfl
def bZ(P:ca)(F:bT)(n:Nat)(Y:List Env)(J:Env)(e:E)(x:Expr):Prop:=
 ∀C z,bD aG bb n Y (bk J C) z (eval x J) (az P F e C z)
class inductive ie(P:ca)(F:bT)(n:Nat)(Y:List Env)(J:Env):List E->List Expr->Prop
 |nil:ie P F n Y J [] []
 |cons {e:E} {x:Expr} {ah:List E} {xs:List Expr}:bZ P F n Y J e x->(starEach (x::xs) J=(false,eval x J)::starEach xs J)->ie P F n Y J ah xs->ie P F n Y J (e::ah) (x::xs)
variable{P:ca}{F:bT}{J:Env}
theorem m8(h:ie P F n Y J ah xs)(C:aK)(pos:Pos):∀(z:St){bo:fZ},Goes Y aG bo bo->(∀z I Z h,bo z I Z h->bk J C z I Z h)->
  bD aG CU n Y bo z (spliced (backTo pos (starEach xs J))) (de P F ah C z):=by
 induction h with
 |nil=>intro z bo bw aj;exact(av.ret (a:=([]:List Value)) (b:=([]:List V)) (D:=CU) λx9 x9 x9 x9=> .nil).tree λx9 x9 x9 x9 q=>wpAny_items_nil q
 | @cons e x ah xs aM ar be ih=>
  intro z bo bw aj
  refine(av.seq (t:=bj (eval x J)) (f:=λv=>aY.bind (bj (spliced (backTo pos (starEach xs J)))) λvs=>aY.ret (v::vs)) (D₁:=bb) (g:=λv z=>(de P F ah C z).bind λvs z=> .ok (v::vs) z)
   bw ((aM C z).pre λx9 x9 x9 q=>aj _ _ _ _ q) λv σ' a=>?_).tree λx9 x9 x9 x9 q=>wpAny_items_cons q ar
  exact av.seq (D₁:=CU) (Goes.and bw fd) (ih σ' (Goes.and bw fd) λx9 x9 x9 x9 q=>aj _ _ _ _ q.1) λvs fc ay=> .ret λI Z h q=> .cons q.1.2 q.2
theorem av.first{D:eg hv bG}{t:aY aI}{a₀:aI}{f:aI->aY hv}{r:Res bG}
  (h0:∀(A:Around)(I:bX)(Z:bY)(s:Shared)(Q:aI->Shared->Prop)(E:cc),gX A n->eG I z A Y s.heap->bu I Z z s.heap->bo z I Z s.heap->Q a₀ s->t A Q E s)
  (h:av O D n Y bo z (f a₀) r):av O D n Y bo z (t.bind f) r:=by
 cases r with
 |stuck=>trivial
 |exc p=>exact⟨h.1,λaP A I Z s Q E aw aS am aj dt=>h0 A I Z s _ E aw aS am aj (h.2 aP A I Z s Q E aw aS am aj dt)⟩
 |ok b σ'=>exact⟨h.1,λaP A I Z s Q E aw aS am aj aC=>h0 A I Z s _ E aw aS am aj (h.2 aP A I Z s Q E aw aS am aj aC)⟩
theorem kS(h:ie P F n Y J ah xs)(pos:Pos):(backTo pos (starEach xs J)).any (·.1)=false:=by
 induction h with
 |nil=>rfl
 |cons be ar cm ih=>refine ab ar ?_;exact ih
theorem zf{E:cc}(hf:keeperOf f=pure .machine)(sb:args.any (·.1)=false)
  (h:wpAny (model prog w) A (evalArgs f true args []) (λa cr=>wpAny (model prog w) A (call f (first++a.pos) a.kw) Q E cr) E s):
  wpAny (model prog w) A (callWith pos f first args []) Q E s:=by
 refine aV (hI (cd h (λa cr bO=>aV (ha ?_)) λx9 x9 x=>x));refine ab sb ?_;refine ab hf ?_;refine aV (bQ ?_);exact aV (cd bO (λr bE aw=>aV (hI (wpAny_point (bQ aw)))) λx9 x9 x=>x)
theorem na{E:cc}{args:List (Bool×Sem Value)}{Q:Args->Shared->Prop}(sb:args.any (·.1)=false)
  (h:wpAny M A (spliced args) (λvs s'=>Q ⟨vs,[]⟩ s') E s):wpAny M A (evalArgs f true args []) Q E s:=by
 revert M A E s args Q sb h;revert f;refine@(o4 ne ?f9 ?_ ?_)
 rotate_left 1
 (
 intro M A E s args Q sb h
 cases args with
 |nil=>refine aV (cd h (λvs s' h'=>?_) λx9 x9 x=>x);exact aV (bQ (hI (aV (bQ (aV (bQ (bQ h')))))))
 |cons a r=>
  obtain⟨b,x⟩:=a
  cases b with
  |true=>simp at sb
  |false=>exact Calls.evalArgs_plain h)
 rfl
theorem uq(aN:(x==("__debug__":Str))=false)(aw:Reads x f)(ag:J.kindOf x=some .globalImplicit)(aj:∀z I Z h,bo z I Z h->∃C,bk J C z I Z h)
  (h:av O D n Y bo z (k f) r):av O D n Y bo z (aY.bind (bj (eval (.Name x p) J)) k) r:=
 .first (a₀:=f) (λA I Z s Q E x9 x9 am sc aC=>by
  refine cL (aj _ _ _ _ sc) ?_;intro C F
  exact wpAny_Name (aw _ _ _ _ _ _ F.kind F.glob F.blt ag am.base aC) aN) h
theorem QS(aN:(x==("__debug__":Str))=false)(aw:Reads x f)(ag:J.kindOf x=some .globalImplicit)(hf:keeperOf f=pure .machine)
  (aL:ie P F n Y J ah xs) (leaf:∀vs ay z,bD aG bb n Y (λx9 I Z x9=>bn I Z vs ay) z (call f ay) (g vs z)) (C:aK) (z:St):
  bD aG bb n Y (bk J C) z (eval (.Call (.Name x p) xs [] pos) J) ((de P F ah C z).bind g):=by
 refine(uq (p:=p) (k:=λiH=>bj (callWith pos iH [] (backTo pos (starEach xs J)) (backToKw pos (keywordEach [] J)))) aN aw ag (λx9 x9 x9 x9 q=>⟨C,q⟩) ?_).tree λA s Q E q=>wpAny_Call_ofName q;refine(av.seq (t:=bj (spliced (backTo pos (starEach xs J)))) (f:=λay=>bj (call f ay)) cJ (m8 aL C pos z cJ λx9 x9 x9 x9 q=>q) λvs σ' ay=>(leaf vs ay σ').pre λx9 x9 x9 q=>q.2).tree λA s Q E q=>?_;exact zf hf (kS aL pos) (na (kS aL pos) (cd q (λvs s' h'=>h') λx9 x9 aE=>aE))
end
section
variable{n:Nat}{Y:List Env}{z:St}{O:Addr->Prop}
abbrev wn(vs:List V)(ay:List Value):fZ:=λx9 I Z x9=>bn I Z vs ay
theorem qr(h:l<=p)(ar:small p=true):l<=10000:=ct h (ic ar)
set_option tactic.hygienic true in
theorem QT(ar:Sys B)(vs:List V)(ay:List Value)(z:St):bD aG bb n Y (wn vs ay) z (call (.builtin "len") ay) (bi .len vs z):=by
 have wo:∀{x:V}{p:Nat}{l:List V},g6 z x=some (p,l)->bD aG bb n Y (wn [x] ay) z (call (.builtin "len") ay) (dr (small p) (.ok (.int (.ofNat l.length)) z)):=λ{x p l}aQ=>iG .stuck λdT=> .quiet λA I Z s Q E aw am aj aC=>aj.o5 λa d=>by
  refine fk (ko am d aQ) ?_;rintro c vs rfl aB ak ai;refine PyProof.Rows.len_list aB.isList (by refine ab List.size_toArray (bM ak.length ?_);have:=qr ai dT;lia) ?_;refine ab List.size_toArray (bM ak.length ?_);exact aC _ _ (.int _ _)
 refine un (R2:=λvs r=>bD aG bb n Y (wn vs ay) z (call (.builtin "len") ay) r) (λx9=> .stuck) (λx=>?_) vs;cases x
 case aD p l=>exact wo rfl
 case tup l=>refine iG .stuck λdT=> .quiet λA I Z s Q E aw am aj aC=>aj.o5 λa d=>d.CO λc vs hz ak=>?_;refine PyProof.Rows.len_tuple (am.frz _ _ _ hz).isTup (by refine ab List.size_toArray (bM ak.length ?_);have:=ic dT;lia) ?_;refine ab List.size_toArray (bM ak.length ?_);exact aC _ _ (.int _ _)
 case ref id=>
  refine qn .stuck λo as=>?_;cases o
  case list p l=>exact wo (by refine(?_:(match z.heap id with|some (.list b l)=>some (b,l)|_=>none)=_);exact ab as rfl)
  case ba p ah=>refine iG .stuck λdT=> .quiet λA I Z s Q E aw am aj aC=>aj.o5 λa d=>?_;refine jm (n1 am d as) ?_;rintro c kvs rfl _ aB ak ai aq;refine call_len_dict (mm ar aq) aB (by refine bM ak.length ?_;have:=qr ai dT;lia) ?_;refine bM ak.length ?_;exact aC _ _ (.int _ _)
  case ck p ah=>refine iG .stuck λdT=> .quiet λA I Z s Q E aw am aj aC=>aj.o5 λa d=>?_;refine jm (qp am d as) ?_;rintro c kvs rfl _ aB ak ai aq;refine call_len_dict (mm ar aq) aB (by refine bM ak.length ?_;have:=qr ai dT;lia) ?_;refine bM ak.length ?_;exact aC _ _ (.int _ _)
  all_goals exact .stuck
 all_goals exact .stuck
theorem QU(vs:List V)(ay:List Value)(z:St):bD aG bb n Y (wn vs ay) z (call (.type "list") ay) (bi .list vs z):=
 un (R2:=λvs r=>bD aG bb n Y (wn vs ay) z (call (.type "list") ay) r) (λx9=> .stuck) (λx=>qn .stuck λp aQ=>iG .stuck λdT=> .made λA I Z s Q E aw am aj aC=>aj.o5 λa d=>by
  refine fk (ko am d aQ) ?_;intro c vs cy aB ak ai;refine ab cy ?_;refine cL aB ?_;try clear aB;intro e as
  exact call_list_seq c (.inl rfl) as rfl rfl (λh' du ag e4=>aC h' s.toks _ vs (b8 _) ag ⟨du,e4⟩ ak ai) (by refine ab List.size_toArray (bM ak.length (ab gG ?_));have:=qr ai dT;exact ct (by assumption) (dG rfl))) vs
variable{P:ca}{F:bT}{J:Env}
end
section
variable{K:Type}[DecidableEq K]{knd:KeyKind prog w K}{A:Around}{E:cc}{s:Shared}
theorem zg{k:K}(h:valueAt kvs k=none):∀p∈kvs,p.1≠k:=by intro p aj q;unfold valueAt at h;rw[Option.map_eq_none_iff,List.find?_eq_none]at h;exact h p aj (by simpa using q)
theorem stored_absent{k:K}(h:valueAt kvs k=none):stored kvs k v=kvs++[(k,v)]:=by
 unfold stored;rw[if_neg];rw[List.any_eq_true]
 rintro⟨p,aj,q⟩
 exact zg h p aj (of_decide_eq_true q)
theorem IH{key dflt:Value}(pb:knd.is k key=true)(QV:(d==sysModules)=false)(aJ:s.heap.DictOf knd d kvs)
  (QW:∀v,valueAt kvs k=some v->Q v {s with toks:=s.toks+1})
  (lx:valueAt kvs k=none->∀h',h'.DictOf knd d (stored kvs k dflt)->Heap.SameBut d s.heap h'->Q dflt {s with heap:=h',toks:=s.toks+1}) (cW:kvs.length<=sizeLine):
  wpAny (model prog w) A (call (.builtin "dict.setdefault") [.ref d,key,dflt]) Q E s:=by
 refine wpAny_call_entry F.slot_dict_setdefault (aJ.typeIs:s.TypeIs (.ref d) "dict") F.entry_dict_setdefault ?_ (F.args_dict_setdefault_3 _ _ _);refine aV ?_;refine aV (wpAny_notOrdered_dict (aJ.typeIs:s.TypeIs (.ref d) "dict") ?_);refine(?_:wpAny _ _ (pure (d,key,some dflt)) _ _ s);refine bQ ?_;refine(?_:wpAny _ _ (if(d==sysModules)=true then _ else(dictSetDefault d key dflt>>=_)) _ _ s);refine ab (cO (by refine ab QV ?_;exact Bool.false_ne_true)) ?_;refine yl (id aJ) ?_;intro o ah ep as aB aN ag aj aq;have sd:ah.size=kvs.length:=by refine bM aj.length ?_;rfl
 refine aV ?_
 cases bA:valueAt kvs k with
 |some v=>
  exact wpAny_dictSetDefault_of pb aJ.mapOf (λu di=>bQ (bq u rfl (QW u di))) (λse=>by replace se:=(bA).symm.trans se;exact sn se) λbS dD kj e4 d0=>by
   obtain rfl:=a8 ((as).symm.trans e4);replace d0:=(aN).symm.trans d0;cases d0;lia
 |none=>
  have QX:(ah.findIdx? λe=>knd.is k e.key)=none:=by
   have ae:(ah.findIdx? λe=>knd.is k e.key)=kvs.findIdx? λdY=>decide (dY.1=k):=by refine bM (aj.findIdx k) ?_;obtain⟨l⟩:=ah;simp
   rw[ae,List.findIdx?_eq_none_iff];intro p sc
   simpa using zg bA p sc
  unfold dictSetDefault
  try with_reducible refine hI ?_
  refine aV (knd.pyHash pb ?_);refine aV (wpAny_dictFind_of (s:={s with toks:=s.toks+1}) pb as aN ag ?_);refine ab QX ?_;refine aV (wpAny_rule (aV (wpAny_updateDictKeys (hz:=by refine ab sd ?_;exact cW) (s:={s with toks:=s.toks+1}) as aN (bQ (bQ (bq dflt rfl (lx bA _ ?_ (Heap.SameBut.update ..))))))));refine BN _ _ (ep+1) (Heap.get?_update_self _ as (Obj.isFreed_of_dict (Obj.data_mapDictKeys aN _))) (aB.mapDictKeys _) (Obj.data_mapDictKeys aN _) (ag.push pb _) ?_ ?_
  ·refine ab (stored_absent bA) ?_;have:=aj.append pb (knd.hash k) dflt
   simpa using this
  ·rw[stored_absent bA,List.map_append,List.nodup_append];refine fs aq (by simp) ?_;intro a aL b ai q;simp only[List.map_cons,List.map_nil,List.mem_singleton]at ai;refine a4 (List.mem_map.mp aL) ?_;rintro p sc rfl;exact zg bA p sc (q.trans ai)
end
section
variable{n:Nat}{Y:List Env}{z:St}{O:Addr->Prop}{bo:fZ}
theorem av.f0(h:av O D n Y bo z t r)
  (bH:∀A I Z s Q E,gX A n->eG I z A Y s.heap->bu I Z z s.heap->bo z I Z s.heap->t A Q E s->t' A Q E s):av O D n Y bo z t' r:=by
 cases r with
 |stuck=>trivial
 |exc p=>exact⟨h.1,λaP A I Z s Q E aw aS am aj dt=>bH A I Z s Q E aw aS am aj (h.2 aP A I Z s Q E aw aS am aj dt)⟩
 |ok b σ'=>exact⟨h.1,λaP A I Z s Q E aw aS am aj aC=>bH A I Z s Q E aw aS am aj (h.2 aP A I Z s Q E aw aS am aj aC)⟩
theorem av.turn{id:Nat}(as:z.heap id=some o)
  (H:∀(A:Around)(I:bX)(Z:bY)(s:Shared)(Q:cc)(E:cc),gX A n->bu I Z z s.heap->bo z I Z s.heap->∀a d,I id=some (a,d)->
   (∀b h' aR u,(b=a\/b=d)->Heap.SameBut b s.heap h'->hN I Z h' a d bS->Den I Z v u->Q u {s with heap:=h',toks:=aR})->t A Q E s):
  av aG bb n Y bo z t (.ok v (z.set id bS)):=
 .leaf QY λA I Z s Q E x9 aw x9 am aj aC=>by
  refine cS (am.obj id o as) ?_;intro a d ag x9;exact H A I Z s Q E aw am aj a d ag λb h' aR u ai ar e4 db=>aC I Z h' aR u (ee.upd as ag ai ar).fN (am.upd as ag ai ar e4) db
where QY:(z.set id bS).log->z.log:=λx=>x
theorem zh(x:IsL h l items k)(f:Array Value->Array Value)(e:f items=vs.toArray):SeqAt (h.update l (Obj.mapSeq f)) l false vs:=by have y:=IsL.update x f;rw[e]at y;exact⟨_,y⟩
theorem QZ(vs:List V)(ay:List Value)(x:V)(a:Value)(z:St):bD aG bb n Y (λx9 I Z x9=>Den I Z x a/\bn I Z vs ay) z (call (.builtin "list.append") (a::ay)) (bi .append (x::vs) z):=
 un (R2:=λvs r=>bD aG bb n Y (λx9 I Z x9=>Den I Z x a/\bn I Z vs ay) z (call (.builtin "list.append") (a::ay)) r) (λx9=> .stuck) (λv=>
  um (R1:=λx r=>bD aG bb n Y (λx9 I Z x9=>Den I Z x a/\bn I Z [v] ay) z (call (.builtin "list.append") (a::ay)) r) (λx9=> .stuck) (λid o as=>
   Ic (RO:=λo r=>z.heap id=some o->bD aG bb n Y (λx9 I Z x9=>Den I Z (.ref id) a/\bn I Z [v] ay) z (call (.builtin "list.append") (a::ay)) r) (λx9 x9=> .stuck) (λp l as=>iG .stuck λdT=>
    av.turn as λA I Z s Q E aw am aj c d ag aC=>aj.2.o5 λu db=>by
     refine h4 (qq am aj.1 as) ?_;intro du dK cy ez aB ak ai;refine ab cy ?_;replace ez:=(ag).symm.trans ez;cases ez;refine cL aB.qi ?_;intro k bl;have hz:dK.toArray.size<=sizeLine:=by refine ab List.size_toArray (bM ak.length (ab gG ?_));have:=ic dT;lia
     refine call_meets F.slot_list_append (bq _ bl rfl) F.entry_list_append (F.args_list_append_2 _ _) (list_append c dK.toArray k _ hz) ⟨bl,?_⟩
     exact aC c _ _ .none (.inl rfl) (Heap.SameBut.update ..) ⟨rfl,dK++[_],zh bl _ (List.push_toArray ..),ak.snoc db,by refine ab List.length_append ?_;exact Nat.succ_le_succ ai⟩ .none) o as) x) vs
theorem II{dK:List Value}(di:dK.getLast?=some u):dK.toArray[dK.toArray.size-1]?=some u/\dK.toArray.eraseIdxIfInBounds (dK.toArray.size-1)=dK.dropLast.toArray:=by rw[List.getLast?_eq_getElem?]at di;refine⟨by simpa using di,?_⟩;have kT:=wm di;refine ab List.dropLast_eq_take ?_;simp[Array.eraseIdxIfInBounds,kT,List.eraseIdx_eq_take_drop_succ];lia
theorem Q0(vs:List V)(ay:List Value)(x:V)(a:Value)(z:St):bD aG bb n Y (λx9 I Z x9=>Den I Z x a/\bn I Z vs ay) z (call (.builtin "list.pop") (a::ay)) (bi .pop (x::vs) z):=by
 cases vs with
 |cons be cm=>exact .stuck
 |nil=>
  exact um (R1:=λx r=>bD aG bb n Y (λx9 I Z x9=>Den I Z x a/\bn I Z [] ay) z (call (.builtin "list.pop") (a::ay)) r) (λx9=> .stuck) (λid o as=>
   Ic (RO:=λo r=>z.heap id=some o->bD aG bb n Y (λx9 I Z x9=>Den I Z (.ref id) a/\bn I Z [] ay) z (call (.builtin "list.pop") (a::ay)) r) (λx9 x9=> .stuck) (λp l as=>iG .stuck λdT=>qn .stuck λv Q1=>
    av.turn as λA I Z s Q E aw am aj c d ag aC=>aj.2.nY (by
     refine h4 (qq am aj.1 as) ?_;intro du dK cy ez aB ak ai;refine ab cy ?_;replace ez:=(ag).symm.trans ez;cases ez;refine cL aB.qi ?_;intro k bl;refine a4 (ak.getLast Q1) ?_;intro u di db;have hz:dK.toArray.size<=sizeLine:=by refine ab List.size_toArray (bM ak.length (ab gG ?_));have:=ic dT;lia
     refine call_meets F.slot_list_pop (bq _ bl rfl) F.entry_list_pop (F.args_list_pop_1 _) (list_pop_last c dK.toArray k u (II di).1 hz) ⟨bl,?_⟩
     exact aC c _ _ u (.inl rfl) (Heap.SameBut.update ..) ⟨rfl,dK.dropLast,zh bl _ (II di).2,ak.dropLast,by refine ab List.length_dropLast ?_;lia⟩ db)) o as) x
end
section
variable{n:Nat}{Y:List Env}{z:St}{bo:fZ}
abbrev kp(x:V)(vs:List V)(a:Value)(ay:List Value):fZ:=λx9 I Z x9=>Den I Z x a/\bn I Z vs ay
theorem gV.getD(ak:gV I Z ah kvs)(k:List Nat)(ja:Den I Z d u):Den I Z ((c7 k ah).getD d) ((valueAt kvs (ci k)).getD u):=by
 cases bA:c7 k ah with
 |none=>refine ab ((ak.look k).2 bA) ?_;exact ja
 |some v=>(refine a4 ((ak.look k).1 v bA) ?_;intro u di db);refine ab di ?_;exact db
theorem iB.getD(ak:iB I Z ah kvs)(k:Int)(ja:Den I Z d u):Den I Z ((jM k ah).getD d) ((valueAt kvs k).getD u):=by
 cases bA:jM k ah with
 |none=>refine ab ((ak.look k).2 bA) ?_;exact ja
 |some v=>(refine a4 ((ak.look k).1 v bA) ?_;intro u di db);refine ab di ?_;exact db
theorem Q2(ar:Sys B)(vs:List V)(ay:List Value)(x:V)(a:Value)(z:St):bD aG bb n Y (kp x vs a ay) z (call (.builtin "dict.get") (a::ay)) (bi .l7 (x::vs) z):=
 Ih (R2:=λvs r=>bD aG bb n Y (kp x vs a ay) z (call (.builtin "dict.get") (a::ay)) r) (λx9=> .stuck) (λk d=>
  um (R1:=λx r=>bD aG bb n Y (kp x [k,d] a ay) z (call (.builtin "dict.get") (a::ay)) r) (λx9=> .stuck) (λid o as=>
   Ig (RO:=λo r=>z.heap id=some o->bD aG bb n Y (kp (.ref id) [k,d] a ay) z (call (.builtin "dict.get") (a::ay)) r) (λx9 x9=> .stuck)
    (λp ah as=>y6 (R1:=λk r=>bD aG bb n Y (kp (.ref id) [k,d] a ay) z (call (.builtin "dict.get") (a::ay)) r) (λx9=> .stuck) (λkq=> .quiet λA I Z s Q E aw am aj aC=>aj.2.y0 λqs C3 pc ja=>pc.gU λt=>by
     refine jm (n1 am aj.1 as) ?_;rintro c kvs rfl _ aB ak _ ai
     exact call_meetsIn F.slot_dict_get aB.typeIs F.entry_dict_get (F.args_dict_get_3 _ _ _) (meets_dict_get_default (strKind prog w) c (strKind_is _ _ _ _) (mm ar ai) _) (bq _ aB.mapOf (aC _ _ (ak.getD kq ja)))) k)
    (λp ah as=>m6 (R1:=λk r=>bD aG bb n Y (kp (.ref id) [k,d] a ay) z (call (.builtin "dict.get") (a::ay)) r) (λx9=> .stuck) (λkq=> .quiet λA I Z s Q E aw am aj aC=>aj.2.y0 λqs C3 pc ja=>pc.fb λt=>by
     refine jm (qp am aj.1 as) ?_;rintro c kvs rfl _ aB ak _ ai
     exact call_meetsIn F.slot_dict_get aB.typeIs F.entry_dict_get (F.args_dict_get_3 _ _ _) (meets_dict_get_default (intKind prog w) c (intKind_is _ _ _ _) (mm ar ai) _) (bq _ aB.mapOf (aC _ _ (ak.getD kq ja)))) k) o as) x) vs
theorem wq{K:Type}[DecidableEq K]{knd:KeyKind prog w K}{h:Heap}{kvs:List (K×Value)}(x:h.DictOf knd a kvs):(kvs.map (·.1)).Nodup:=yl x λx9 x9 x9 x9 x9 x9 x9 x9 r=>r
theorem IJ{K:Type}[DecidableEq K]{knd:KeyKind prog w K}{id:Nat}{k:K}(as:z.heap id=some o)(eh:len<=10000)
  (zi:∀I Z(s:Shared),bu I Z z s.heap->bo z I Z s.heap->∃c kvs qs u,a= .ref c/\ay=[qs,u]/\knd.is k qs=true/\Den I Z d u/\I id=some (c,c)/\(c==sysModules)=false/\s.heap.DictOf knd c kvs/\kvs.length<=len/\(∀v,look=some v->∃u,valueAt kvs k=some u/\Den I Z v u)/\(look=none->valueAt kvs k=none)/\
   ∀h',h'.DictOf knd c (stored kvs k u)->hN I Z h' c c bS):bD aG bb n Y bo z (call (.builtin "dict.setdefault") (a::ay)) (BW look z d (z.set id bS)):=by
 cases bA:look with
 |some v=>refine .quiet λA I Z s Q E aw am aj aC=>?_;obtain⟨c,kvs,qs,u,cy,rfl,pb,ja,ag,ai,aB,gI,ae,_,_⟩:=zi I Z s am aj;refine ab cy ?_;refine a4 (ae v bA) ?_;intro wi di db;refine IH pb ai aB (λfF sf=>?_) (λse=>by replace se:=(di).symm.trans se;exact sn se) (by refine ab gG ?_;lia);replace sf:=(di).symm.trans sf;obtain rfl:=a8 sf;exact aC _ _ db
 |none=>refine av.turn as λA I Z s Q E aw am aj du dy ez aC=>?_;obtain⟨c,kvs,qs,u,cy,rfl,pb,ja,ag,ai,aB,gI,_,af,ax⟩:=zi I Z s am aj;refine ab cy ?_;replace ez:=(ag).symm.trans ez;(refine bC (fi (a8 ez)) ?_;rintro rfl rfl);exact IH pb ai aB (λfF sf=>by replace sf:=(af bA).symm.trans sf;injection sf) (λx9 h' kO eP=>aC _ _ _ _ (.inl rfl) eP (ax h' kO) ja) (by refine ab gG ?_;lia)
theorem Q3(ar:Sys B)(vs:List V)(ay:List Value)(x:V)(a:Value)(z:St):bD aG bb n Y (kp x vs a ay) z (call (.builtin "dict.setdefault") (a::ay)) (bi .oH (x::vs) z):=
 Ih (R2:=λvs r=>bD aG bb n Y (kp x vs a ay) z (call (.builtin "dict.setdefault") (a::ay)) r) (λx9=> .stuck) (λk d=>
  um (R1:=λx r=>bD aG bb n Y (kp x [k,d] a ay) z (call (.builtin "dict.setdefault") (a::ay)) r) (λx9=> .stuck) (λid o as=>
   Ig (RO:=λo r=>z.heap id=some o->bD aG bb n Y (kp (.ref id) [k,d] a ay) z (call (.builtin "dict.setdefault") (a::ay)) r) (λx9 x9=> .stuck)
    (λp ah as=>y6 (R1:=λk r=>bD aG bb n Y (kp (.ref id) [k,d] a ay) z (call (.builtin "dict.setdefault") (a::ay)) r) (λx9=> .stuck) (λkq=>iG .stuck λdT=>
     IJ (knd:=strKind prog w) (k:=ci kq) as (ic dT) λI Z s am aj=>(aj:kp (.ref id) [.str kq,d] a ay z I Z s.heap).2.y0 λqs C3 pc ja=>pc.gU λt=>by
      refine jm (n1 am aj.1 as) ?_;rintro c kvs rfl ag aB ak gI ai
      exact⟨c,kvs,_,_,rfl,rfl,strKind_is _ _ _ _,ja,ag,mm ar ai,aB,by refine bM ak.length ?_;exact gI,(ak.look kq).1,(ak.look kq).2,λh' kO=>⟨rfl,_,kO,ak.put (wq aB) ja,ct (C1 _ _ _) (Nat.succ_le_succ gI)⟩⟩) k)
    (λp ah as=>m6 (R1:=λk r=>bD aG bb n Y (kp (.ref id) [k,d] a ay) z (call (.builtin "dict.setdefault") (a::ay)) r) (λx9=> .stuck) (λkq=>iG .stuck λdT=>
     IJ (knd:=intKind prog w) (k:=kq) as (ic dT) λI Z s am aj=>(aj:kp (.ref id) [.int kq,d] a ay z I Z s.heap).2.y0 λqs C3 pc ja=>pc.fb λt=>by
      refine jm (qp am aj.1 as) ?_;rintro c kvs rfl ag aB ak gI ai
      exact⟨c,kvs,_,_,rfl,rfl,intKind_is _ _ _ _,ja,ag,mm ar ai,aB,by refine bM ak.length ?_;exact gI,(ak.look kq).1,(ak.look kq).2,λh' kO=>⟨rfl,_,kO,ak.put (wq aB) ja,ct (Iu _ _ _) (Nat.succ_le_succ gI)⟩⟩) k) o as) x) vs
noncomputable abbrev nb(b:jL)(ty:String)(name:Str)(id:String):Prop:=(PlainAttrs ty)/\(Slot ty name id)/\(typeOf (.builtin id)=pure (.type "method_descriptor"))
def nb.plain(x:nb a b c d):=x.1
def nb.slot(x:nb a b c d):=x.2.1
def nb.e1(x:nb a b c d):=x.2.2
set_option tactic.hygienic true in
theorem IK{f:O->Bool}{g:V->Bool}(bw:∀id,g (.ref id)=match z.heap id with|some o=>f o|none=>false)(h:g x=true)(aQ:∀v,(∀id,v≠V.ref id)->g v=false){G:V->Prop}(H:∀id o,z.heap id=some o->f o=true->G (.ref id)):G x:=by
 cases x
 case ref id=>
  rw[bw]at h
  cases as:z.heap id with
  |none=>rw[as]at h;exact b3 h
  |some o=>rw[as]at h;exact H id o as h
 all_goals exact bf h (by refine ab (aQ _ (by intro id q;injection q)) ?_;decide)
theorem IL{s:Shared}(h:yv z x=true)(R:bu I Z z s.heap)(d:Den I Z x a):s.TypeIs a "dict"/\∀c,a= .ref c->∃dc,s.heap.get? c=some dc/\dc.dict=none:=by
 revert d;refine IK (G:=λx=>Den I Z x a->s.TypeIs a "dict"/\∀c,a= .ref c->∃dc,s.heap.get? c=some dc/\dc.dict=none) (g:=yv z) (f:=λo=>match o with| .ba _ _=>true| .ck _ _=>true|_=>false) (λid=>by refine(?_:(match z.heap id with|some (.ba _ _)=>true|some (.ck _ _)=>true|_=>false)=_);cases z.heap id with|none=>rfl|some o=>cases o<;>rfl) h (λv bA=>by cases v<;>first|rfl|exact bf rfl (bA _)) λid o as h d=>?_
 cases o
 case ba=>(refine fk (n1 R d as) ?_;rintro c kvs rfl _ aB _);exact⟨aB.typeIs,aB.mapOf.noDict⟩
 case ck=>(refine fk (qp R d as) ?_;rintro c kvs rfl _ aB _);exact⟨aB.typeIs,aB.mapOf.noDict⟩
 all_goals exact b3 h
theorem IM{s:Shared}(h:rA z x=true)(R:bu I Z z s.heap)(d:Den I Z x a):s.TypeIs a "list"/\∀c,a= .ref c->∃dc,s.heap.get? c=some dc/\dc.dict=none:=by
 revert d;refine IK (G:=λx=>Den I Z x a->s.TypeIs a "list"/\∀c,a= .ref c->∃dc,s.heap.get? c=some dc/\dc.dict=none) (g:=rA z) (f:=λo=>match o with| .list _ _=>true|_=>false) (λid=>by refine(?_:(match z.heap id with|some (.list _ _)=>true|_=>false)=_);cases z.heap id with|none=>rfl|some o=>cases o<;>rfl) h (λv bA=>by cases v<;>first|rfl|exact bf rfl (bA _)) λid o as h d=>?_
 cases o
 case list=>(refine fk (qq R d as) ?_;rintro c vs rfl _ ⟨k,aB⟩ _);exact⟨(bq _ aB rfl),λdu q=>by obtain rfl:=Value.ref.inj q;exact bq _ aB rfl⟩
 all_goals exact b3 h
variable{P:ca}{F:bT}{J:Env}
theorem zj{id:String}(M:nb b ty name id)
  (ai:attributeBase o name J (eval o J)=eval o J) (mn:(mo.endLine==pos.line)=true) (C4:xs.length<29)
  (aM:bZ P F n Y J e o) (aL:ie P F n Y J ah xs)
  (ag:∀z x a I Z(s:Shared),rB b z x=true->bu I Z z s.heap->Den I Z x a->s.TypeIs a ty/\∀c,a= .ref c->∃dc,s.heap.get? c=some dc/\dc.dict=none)
  (Q4:∀vs ay x a z,bD aG bb n Y (kp x vs a ay) z (call (.builtin id) (a::ay)) (bi b (x::vs) z)) (C:aK) (z:St):
  bD aG bb n Y (bk J C) z (eval (.Call (.Attribute o name mo) xs [] pos) J) (az P F (.e1 b e ah) C z):=by
 refine(?_:bD aG bb n Y (bk J C) z (eval (.Call (.Attribute o name mo) xs [] pos) J) ((az P F e C z).bind λx z=>match rB b z x with
   |true=>(de P F ah C z).bind λvs z=>Mine.Tactic.bi b (x::vs) z
   |false=> .stuck))
 refine(av.seq (t:=bj (eval o J)) (f:=λa A Q E s=>MethodOn prog w A name pos a (backTo pos (starEach xs J)) Q E s) cJ (aM C z) λx σ' a=>?_).tree λA s Q E q=>?_
 ·cases aJ:rB b σ' x with
  |false=>exact .stuck
  |true=>
   refine av.f0 (t:=aY.bind (bj (spliced (backTo pos (starEach xs J)))) λay=>bj (call (.builtin id) (a::ay)))
    (av.seq (Goes.and cJ fd) (m8 aL C pos σ' (Goes.and cJ fd) λx9 x9 x9 x9 q=>q.1) λvs fc ay=>(Q4 vs ay x a fc).pre λx9 x9 x9 q=>⟨q.1.2,q.2⟩) λA I Z s Q E aw aS am aj q=>?_
   exact BM ty id M.plain M.slot M.e1 (ag σ' x a I Z s aJ am aj.2).1 (ag σ' x a I Z s aJ am aj.2).2 (zf rfl (kS aL pos) (na (kS aL pos) q))
 ·refine wpAny_Call_method_late ai ?_ mn rfl q;rw[Bool.and_eq_true,Bool.and_eq_true];refine⟨⟨?_,rfl⟩,oG ?_⟩
  ·have:=kS aL pos;rw[List.all_eq_true];intro y bx;rw[List.any_eq_false]at this
   simpa using this y bx
  ·simp;exact ct (by assumption) (dG rfl)
end
section
open Builtin Builtin.ObjectAttr Builtin.Getset_descriptor
theorem IN(ag:StrKeys ah):ah.any (·.refKey)=false:=by rw[Array.any_eq_false'];intro e aM;(refine kG (ag e aM) ?_;intro n t h);simp[DictEntry.refKey,h]
theorem Q5{h:Heap}{m:Str->Option Value}{hash:Int}(as:h.get? a=some o)(aN:o.data= .dict ah ep)(ag:StrKeys ah)(aJ:∀n,nsFind ah n=m n):
  ∃bS dD kj,(h.update a (Obj.putName name hash (.str name t) v)).get? a=some bS/\bS.cls=o.cls/\bS.data= .dict dD kj/\dD.size<=ah.size+(if(m name).isSome then 0 else 1)/\StrKeys dD/\∀x,nsFind dD x=if x=name then some v else m x:=by
 obtain⟨c,d,adZ,ed⟩:=o;subst aN
 have IP:(m name).isSome=(ah.findIdx? (·.key.isStr name)).isSome:=by
  refine bM (aJ name) ?_;unfold nsFind;rw[findBy_of_findIdx?]
  cases aW:ah.findIdx? λe=>e.key.isStr name with
  |none=>rfl
  |some i=>simp[((Array.findIdx?_eq_some_iff_findIdx_eq.mp aW).1:i<ah.size)]
 cases aW:ah.findIdx? (·.key.isStr name)with
 |some i=>refine BN _ _ ep (Heap.get?_update_self _ as (by simp only[Obj.putName_eq,Obj.putNameByArray,aW];rfl)) (by simp only[Obj.putName_eq,Obj.putNameByArray,aW]) (by simp only[Obj.putName_eq,Obj.putNameByArray,aW];rfl) (by refine ab IP (ab aW ?_);simp) (ag.modify _ _) (λx=>?_);rw[<-aJ];exact findBy_modify (λn v=>v.isStr n) Value.isStr_inj ah name x v i aW
 |none=>
  refine BN _ _ (ep+1) (Heap.get?_update_self _ as (by simp only[Obj.putName_eq,Obj.putNameByArray,aW];rfl)) (by simp only[Obj.putName_eq,Obj.putNameByArray,aW]) (by simp only[Obj.putName_eq,Obj.putNameByArray,aW];rfl) (by refine ab IP (ab aW ?_);simp) (ag.push _ _ _ _) (λx=>?_);rw[<-aJ]
  exact findBy_push (λn v=>v.isStr n) ah name x _ _ v (λy=>by
   refine(?_:(name==y)=decide (y=name))
   by_cases h:y=name
   ·subst h;rfl
   ·have:¬name=y:=λe=>h e.symm
    simp[h,this]) aW
theorem Q6{m:Str->Option Value}(aN:o.data= .dict ah ep)(ag:StrKeys ah)(aJ:∀n,nsFind ah n=m n)(name:Str):lookIn name o=some (m name):=by
 unfold lookIn;rw[aN,<-aJ];dsimp only;delta nsFind findBy;refine bM (Array.find?_toList) ?_
 cases hf:ah.toList.find? (·.key.isStr name)with
 |some e=>rfl
 |none=>have:=IN ag;rw[<-Array.any_toList]at this;refine c0 (cO (by refine ab this ?_;exact Bool.false_ne_true)) ?_;rfl
abbrev ju(c:Addr):Prop:=(findIn K (.ref c) "__getattribute__"=some (some (.builtin "object.__getattribute__")))/\(findIn K (.ref c) "__setattr__"=some (some (.builtin "object.__setattr__")))/\(plainOver K c=true)/\((clsIn K c).any (·.hasDict)=true)/\(∀x,x<T.bV->findIn K (.ref c) (T.nm x)=some none)
section
variable(x:ju a)
def ju.ga:=x.1
def ju.v2:=x.2.1
def ju.over:=x.2.2.1
def ju.IQ:=x.2.2.2.1
def ju.no:=x.2.2.2.2
end
section
variable{n:Nat}{Y:List Env}{z:St}
theorem Q7(d:Den I Z v u):handedIn u=true:=by cases d<;>rfl
theorem IR(X:K.In B)(eW:∀c,ju (T.e2 c))(x:V)(a:Value)(y:Nat)(expr:Bool):bD aG bb n Y (m7 x a) z (getAttr a (T.nm y) expr) (tU x y z):=by
 cases x with
 |ref id=>
  unfold tU;dsimp only
  cases as:z.heap id with
  |none=>exact .stuck
  |some o=>
   cases o with
   |inst c b1 cs=>
    dsimp only
    cases bA:dk y cs with
    |none=>exact .stuck
    |some v=>
     refine .quiet λA I Z s Q E aw am aj aC=>?_
     cases aj with|ref ag=>
     refine fk (am.obj id _ as) ?_;intro aX dy ez nc wr fe;refine tG nc ?_;try clear nc;intro b0 n2 hj jv jw;refine vH wr ?_;try clear wr;intro ds ah ep m gh zk jW cW cp aJ;replace ez:=(ag).symm.trans ez;refine bC (fi (a8 ez)) ?_;rintro rfl C5;refine a4 (aJ y v bA) ?_;intro u di db;refine pV cp ?_;try clear cp;intro bS dD kj e4 d0 ur nf;rw[gh]at e4;obtain rfl:=a8 e4;replace d0:=(jW).symm.trans d0;cases d0;have pd:K.In s.heap:=X.keeps am.base;have F:=eW c;refine a4 (any_some F.IQ) ?_;intro eb zl Q8
     have Ra:findObj K (T.e2 c) (some ds) (T.nm y)=some (.value u):=by unfold findObj;rw[zl,Option.bind_some,F.no y (fe y v bA),Option.bind_some];unfold PySem.W.ownOf;refine ab Q8 (ab (df rfl) ?_);dsimp only;rw[Q6 jW ur nf,di];rfl
     exact get_value pd (⟨n2,hj,by unfold notCls;exact ab jw rfl,by refine ab jv ?_;exact gh⟩:InstAt s.heap _ b0 (T.e2 c) (some ds)) F.ga Ra (Q7 db) (aC _ _ db)
   |_=>exact .stuck
 |_=>exact .stuck
theorem Rb(X:K.In B)(F:ju (T.e2 c)){A:Around}{s:Shared}{Q:Unit->Shared->Prop}{E:cc}(fx:B.StaysIn s.heap){x kU:Addr}{b0 ds:Obj}{ah:Array DictEntry}{ep:Nat}{m:Str->Option Value}{y:Nat}{v:Value}(bx:y<T.bV)
  (n2:s.heap.get? x=some b0) (hj:b0.cls= .ref (T.e2 c)) (jv:b0.dict=some kU) (jw:b0.data= .plain) (gh:s.heap.get? kU=some ds) (jW:ds.data= .dict ah ep) (ag:StrKeys ah) (aJ:∀n,nsFind ah n=m n) (cW:ah.size<=1000)
  (h:∀h' aR us dD kj,h'.get? kU=some us->us.cls=ds.cls->us.data= .dict dD kj->dD.size<=ah.size+(if(m (T.nm y)).isSome then 0 else 1)->StrKeys dD->(∀n,nsFind dD n=if n=T.nm y then some v else m n)->Heap.SameBut kU s.heap h'->Q () {s with heap:=h',toks:=aR}):
  wpAny (model prog w) A (setAttr (.ref x) (T.nm y) v) Q E s:=by
 revert X F Q fx kU b0 ds ah ep m y v bx n2 hj jv jw gh jW ag aJ cW h;revert c A s E x;refine@(rU ne m2 ug ne ne ?c9 ?A9 ?s9 ?E9 ?x9 ?_ ?_)
 rotate_left 5
 intro X F Q fx kU b0 ds ah ep m y v bx n2 hj jv jw gh jW ag aJ cW h;have pd:K.In (?s9).heap:=X.keeps fx;refine set_plain pd (⟨n2,hj,by unfold notCls;exact ab jw rfl,by refine ab jv ?_;exact gh⟩:InstAt (?s9).heap ?x9 b0 (T.e2 ?c9) (some ds)) F.v2 ?_;have Rc:InstAt ({?s9 with toks:=(?s9).toks+1}:Shared).heap ?x9 b0 (T.e2 ?c9) (some ds):=(⟨n2,hj,by unfold notCls;exact ab jw rfl,by refine ab jv ?_;exact gh⟩:InstAt (?s9).heap ?x9 b0 (T.e2 ?c9) (some ds));refine osa_open (s:={?s9 with toks:=(?s9).toks+1}) (r:=none) pd Rc F.over (by unfold takerIn;refine ab (F.no y bx) ?_;rfl) λb=>?_;refine a4 (any_some F.IQ) ?_;intro eb aB d0;obtain⟨kl,ad0,ad1,IS⟩:=b0;dsimp only at hj jv jw;subst hj jv jw;have ad2:(if(m (T.nm y)).isSome then 0 else 1)<=1:=by split<;>decide
 refine yl (Q5 (name:=T.nm y) (hash:=PyData.keyHash w.params (T.nm y)) (t:=(?s9).toks+1) (v:=v) gh jW ag aJ) ?_;intro bS dD kj p1 p2 fY gH ly lz;refine aV (bQ (aV (aV (wpAny_loadPart n2 (aV ((looks_clsIn pd aB) _ _ _ {?s9 with toks:=(?s9).toks+1} (λx9 x9 e=>e) ?_))))));refine ab d0 ?_;refine bQ (a:=some kU) (aV (bQ (aV ?_)));refine aV (aV (wpAny_askSetting (bQ (aV (wpAny_mkText (aV (wpAny_loadPart gh ?_)))))));refine ab jW ?_;dsimp only;rw[aRefKeyMayBeTheName_at,((by rw[IN ag,Bool.and_false]):(!ah.any (·.key.isStr (T.nm y))&&ah.any (·.refKey))=false)];refine wpAny_updatePart gh ?_;refine aV (wpAny_lookBehind p1 (by refine ab fY ?_;exact pastItsLine_dict (by refine ab gG ?_;lia)) ?_);exact bQ (h _ _ bS dD kj p1 p2 fY gH ly lz (Heap.SameBut.update ..));rfl
theorem IT(x y:Nat)(v:V):∀cs,dk x (pY y v cs)=if x=y then some v else dk x cs:=by
 intro br
 induction br with
 |nil=>
  dsimp only[pY,dk]
  cases h:Nat.beq y x with
  |true=>exact ab (df (cj h).symm) rfl
  |false=>refine ab (cO (λq=>kc h q.symm)) ?_;rfl
 |cons cm r ih=>
  obtain⟨b,u⟩:=cm;dsimp only[pY]
  cases h:Nat.beq b y with
  |true=>
   have:=cj h;subst this;dsimp only[dk]
   cases af:Nat.beq b x with
   |true=>exact ab (df (cj af).symm) rfl
   |false=>exact ab (cO (λq=>kc af q.symm)) rfl
  |false=>
   dsimp only[dk]
   cases af:Nat.beq b x with
   |true=>have:=cj af;subst this;exact ab (cO (kc h)) rfl
   |false=>exact ih
abbrev ut:eg Unit Unit:=λx9 x9 x9 x9 x9 x9=>True
noncomputable def ch.Inj:Prop:=∀x y,x<T.bV->y<T.bV->T.nm x=T.nm y->x=y
theorem zm(X:K.In B)(eW:∀c,ju (T.e2 c))(fe:ch.Inj)(x v:V)(a u:Value)(y:Nat)(bx:y<T.bV):
  bD aG ut n Y (dS x v a u) z (setAttr a (T.nm y) u) (mb x y v z):=by
 revert X eW fe x a bx;revert n Y z v u y;refine@(rV ne ne hc ne ne ne ?n9 ?fs9 ?σ9 ?v9 ?u9 ?y9 ?_ ?_)
 rotate_left 6
 (
 intro X eW fe x a bx
 cases x with
 |ref id=>
  unfold mb;dsimp only
  cases as:(?σ9).heap id with
  |none=>exact .stuck
  |some o=>
   cases o with
   |inst c b1 cs=>
    dsimp only
    cases hb9:Nat.ble b1 900 with
    |false=>exact .stuck
    |true=>
     have hb9:=dG hb9
     have iI:∀mq,(mq=b1/\(dk ?y9 cs).isSome=true\/mq=b1+1)->bD aG ut ?n9 ?fs9 (dS (.ref id) ?v9 a ?u9) ?σ9 (setAttr a (T.nm ?y9) ?u9) (.ok () ((?σ9).set id (.inst c mq (pY ?y9 ?v9 cs)))):=by
      intro mq Rd;refine .leaf (λq=>q) λA I Z s Q E x9 aw aS am aj aC=>?_;refine bC aj ?_;try clear aj;intro gY ng
      cases gY with| @ref be lA Rf ag=>
      refine fk (am.obj id _ as) ?_;intro aX dy ez nc wr IU;refine tG nc ?_;try clear nc;intro b0 n2 hj jv jw;refine vH wr ?_;try clear wr;intro ds ah ep m gh zk jW cW cp aJ;replace ez:=(ag).symm.trans ez;refine bC (fi (a8 ez)) ?_;rintro rfl rfl;refine pV cp ?_;try clear cp;intro bS dD kj e4 d0 ur nf;rw[gh]at e4;obtain rfl:=a8 e4;replace d0:=(jW).symm.trans d0;cases d0;refine Rb X (eW c) am.base bx n2 hj jv jw gh jW ur nf (by lia) λh' aR us dD kj p1 p2 fY gH ly lz C6=>?_
      have sg:hN I Z h' lA Rf (.inst c mq (pY ?y9 ?v9 cs)):=by
       refine⟨(rl b0 ((λ{aE zn}hz C7=>(C6.2 aE (λq=>by rw[q,gh]at hz;obtain rfl:=a8 hz;replace C7:=(jW).symm.trans C7;exact nomatch C7)).trans hz:∀{aE:Addr}{zn:Obj},s.heap.get? aE=some zn->zn.data= .plain->h'.get? aE=some zn) n2 jw) hj jv jw),⟨us,dD,kj,λn=>if n=T.nm ?y9 then some ?u9 else m n,p1,p2.trans zk,fY,?_,(tL us dD kj p1 fY ly lz),λaE iJ hz=>?_⟩,λaE iJ hz=>?_⟩
       ·rcases Rd with⟨rfl,Rg⟩|rfl
        ·refine cL (Option.isSome_iff_exists.mp Rg) ?_;intro qo Rh;refine a4 (aJ ?y9 qo Rh) ?_;intro IV C8 x9;rw[C8]at gH
         simpa using ct gH cW
        ·refine ct gH ?_
         split<;>lia
       ·rw[IT]at hz
        by_cases q:aE=?y9
        ·subst q;rw[if_pos rfl]at hz;refine bM (a8 hz) ?_;exact bq ?u9 (by simp) ng
        ·replace hz:=(cO q).symm.trans hz;refine a4 (aJ aE iJ hz) ?_;intro C9 Ri Rj;exact bq C9 ((cO (λe=>q (fe aE ?y9 (IU aE iJ hz) bx e))).trans Ri) Rj
       ·rw[IT]at hz
        by_cases q:aE=?y9
        ·refine ab q ?_;exact bx
        ·replace hz:=(cO q).symm.trans hz;exact IU aE iJ hz
      exact aC I Z h' aR () (ee.upd as ag (.inr rfl) C6).fN (am.upd as ag (.inr rfl) C6 sg) trivial
     cases bA:dk ?y9 cs with
     |none=>exact iI _ (.inr rfl)
     |some be=>exact iI _ (.inl ⟨rfl,by refine ab bA ?_;rfl⟩)
   |_=>exact .stuck
 |_=>exact .stuck)
 rfl
end
end
section
variable{n:Nat}{Y:List Env}{z:St}
set_option tactic.hygienic true in
theorem Rk{RO:V->V->Res Unit->Prop}(h0:∀x k,RO x k .stuck)(ae:∀id p ah s,z.heap id=some (.ba p ah)->small p=true->RO (.ref id) (.str s) (.ok () (z.set id (.ba (p+1) (fJ s v ah)))))
  (af:∀id p ah i,z.heap id=some (.ck p ah)->small p=true->RO (.ref id) (.int i) (.ok () (z.set id (.ck (p+1) (ma i v ah))))):RO x k (iy x k v z):=by
 cases x
 case ref id=>
  refine(?_:RO (.ref id) k (match z.heap id with
   |some (.ba b ah)=>match k with
    | .str s=>match small b with|true=> .ok () (z.set id (.ba (b+1) (fJ s v ah)))|false=> .stuck
    |_=> .stuck
   |some (.ck b ah)=>match k with
    | .int n=>match small b with|true=> .ok () (z.set id (.ck (b+1) (ma n v ah)))|false=> .stuck
    |_=> .stuck
   |_=> .stuck))
  cases as:z.heap id with
  |none=>exact h0 _ _
  |some o=>
   cases o
   case ba p ah=>
    cases k
    case str s=>
     refine(?_:RO _ _ (match small p with|true=> .ok () (z.set id (.ba (p+1) (fJ s v ah)))|false=> .stuck));cases ar:small p
     ·exact h0 _ _
     ·exact ae _ _ _ _ as ar
    all_goals exact h0 _ _
   case ck p ah=>
    cases k
    case int s=>
     refine(?_:RO _ _ (match small p with|true=> .ok () (z.set id (.ck (p+1) (ma s v ah)))|false=> .stuck));cases ar:small p
     ·exact h0 _ _
     ·exact af _ _ _ _ as ar
    all_goals exact h0 _ _
   all_goals exact h0 _ _
 all_goals exact h0 _ _
theorem IW(x k v:V)(a b u:Value):bD aG ut n Y (Ii x k v a b u) z (setItem a b u) (iy x k v z):=
 Rk (RO:=λx k r=>bD aG ut n Y (Ii x k v a b u) z (setItem a b u) r) (λx9 x9=> .stuck)
  (λid p ah kq as dT=> .leaf (λq=>q) λA I Z s Q E x9 aw aS am aj aC=>aj.2.1.gU λt=>by
   refine jm (n1 am aj.1 as) ?_;rintro c kvs rfl ag aB ak gI ai;refine wpAny_setItem_pairs (strKind_is _ _ _ _) aB (λh' kO eP=>?_) (by refine bM ak.length (ab gG ?_);have:=ic dT;lia)
   exact aC I Z h' _ () (ee.upd as ag (.inl rfl) eP).fN (am.upd as ag (.inl rfl) eP ⟨rfl,_,kO,ak.put (wq aB) aj.2.2,ct (C1 _ _ _) (Nat.succ_le_succ gI)⟩) trivial)
  (λid p ah kq as dT=> .leaf (λq=>q) λA I Z s Q E x9 aw aS am aj aC=>aj.2.1.fb λt=>by
   refine jm (qp am aj.1 as) ?_;rintro c kvs rfl ag aB ak gI ai;refine wpAny_setItem_pairs (intKind_is _ _ _ _) aB (λh' kO eP=>?_) (by refine bM ak.length (ab gG ?_);have:=ic dT;lia)
   exact aC I Z h' _ () (ee.upd as ag (.inl rfl) eP).fN (am.upd as ag (.inl rfl) eP ⟨rfl,_,kO,ak.put (wq aB) aj.2.2,ct (Iu _ _ _) (Nat.succ_le_succ gI)⟩) trivial)
theorem Rl{s:Shared}{E:cc}{l b:Addr}{items zo:Array Value}{k k2:Nat}(ak:IsL s.heap l items k)(ai:IsL s.heap b zo k2)(hz:items.size+zo.size<=10000)
  (h:Q (.ref l) {s with heap:=s.heap.update l (Obj.mapSeq λx=>x++zo)}):wpAny (model prog w) A (inplaceOp .Add (.ref l) (.ref b)) Q E s:=by
 revert Q E ak ai hz h;revert A s l b items zo k k2;refine@(v5 m2 ug ne ne ne ne ne ne ?A9 ?s9 ?l9 ?b9 ?items9 ?items29 ?k9 ?k29 ?_ ?_)
 rotate_left 8
 intro Q E ak ai hz h;have aL:(?s9).TypeIs (.ref ?l9) "list":=(bq _ ak rfl);have hu:(?s9).TypeIs (.ref ?b9) "list":=(bq _ ai rfl);have Rm:typeLookup (.type "list") (dunderI "add")=pure (some (.builtin "list.__iadd__")):=F.slot_list_iadd.lookup;refine hI ?_
 have Rn:fillsInplaceSlot (.type "list") "add" (Operator.Add== .Add)=pure false:=by refine(?_:(typeLookup (.type "list") (dunderI "add")>>=λIX=>pure (IX.isSome&&!isSeqSlot IX))=pure false);refine(?_:(pure ((some (Value.builtin "list.__iadd__")).isSome&&!isSeqSlot (some (Value.builtin "list.__iadd__"))):Sem Bool)=pure false);refine ab (show isSeqSlot (some (Value.builtin "list.__iadd__"))=true by decide+kernel) ?_;rfl
 have Ro:seqSlot? (.type "list") (dunderI "add")=pure (some (.builtin "list.__iadd__")):=PySem.seqSlot_of Rm (by decide+kernel);refine aV (wpAny_typeOf aL (aV (wpAny_of_eq Rn ?_)));refine(?_:wpAny (model prog w) ?A9 (if false=true then _ else _) Q E ?s9);refine aV (wpAny_binaryOp1_none (nm:="add") aL hu noFill_list_add ?_);refine aV (wpAny_of_eq Ro ?_);refine aV (wpAny_rule ?_)
 have Rp:¬(!(?items9).isEmpty&&Builtin.List.listTooLong ((?items9).size+(?items29).size))=true:=by
  rw[Bool.and_eq_true]
  rintro⟨_,q⟩
  unfold Builtin.List.listTooLong at q;rw[sizeLine_eq]at q;simp at q;lia
 exact call_meets F.slot_list_iadd aL F.entry_list_iadd (F.args_list_iadd_2 _ _) (AutoSeq1.list___iadd___list_list_0 ?l9 ?items9 ?k9 ?b9 ?items29 ?k29 Rp (by refine ab gG ?_;lia) (by refine ab gG ?_;exact ct (by assumption) (dG rfl))) (fs ak ai h);rfl
set_option tactic.hygienic true in
theorem Dc(x y:V)(a b:Value):eu n Y (dS x y a b) z (inplaceOp .Add a b) (nQ x y z):=by
 cases x
 case int i=>
  cases y
  case int j=>exact .quiet λA I Z s Q E aw am aj aC=>aj.1.fb λt=>aj.2.fb λt'=>PyProof.Rows.iadd_int (aC _ _ (.int _ _))
  all_goals exact .stuck
 case ref id=>
  refine(?_:eu n Y (dS (.ref id) y a b) z (inplaceOp .Add a b) (match z.heap id with
   |some (.list p l)=>match g6 z y with
    |some (q,m)=>match small (p+q)with|true=> .ok (.ref id) (z.set id (.list (p+q) (l++m)))|false=> .stuck
    |none=> .stuck
   |_=> .stuck))
  cases as:z.heap id with
  |none=>exact .stuck
  |some o=>
   cases o
   case list p l=>
    refine(?_:eu n Y (dS (.ref id) y a b) z (inplaceOp .Add a b) (match g6 z y with
     |some (q,m)=>match small (p+q)with|true=> .ok (.ref id) (z.set id (.list (p+q) (l++m)))|false=> .stuck
     |none=> .stuck))
    cases bx:g6 z y with
    |none=>exact .stuck
    |some zp=>
     refine(?_:eu n Y (dS (.ref id) y a b) z (inplaceOp .Add a b) (match small (p+zp.1)with|true=> .ok (.ref id) (z.set id (.list (p+zp.1) (l++zp.2)))|false=> .stuck))
     cases dT:small (p+zp.1)with
     |false=>exact .stuck
     |true=>refine av.turn as λA I Z s Q E aw am aj c d ag aC=>?_;refine h4 (qq am aj.1 as) ?_;intro du vs cy ez aB ak ai;refine ab cy ?_;replace ez:=(ag).symm.trans ez;cases ez;refine fk (ko am aj.2 bx) ?_;intro sh dK cy lB ws pe;refine ab cy ?_;refine cL aB.qi ?_;intro eX ae;refine cL lB.qi ?_;intro k2 af;refine Rl ae af (by refine ab List.size_toArray (ab List.size_toArray (bM ak.length (bM ws.length ?_)));have:=ic dT;lia) ?_;exact aC c _ _ _ (.inl rfl) (Heap.SameBut.update ..) ⟨rfl,vs++dK,zh ae _ (CZ _ _).symm,ak.append ws,by refine ab List.length_append ?_;exact Nat.add_le_add ai pe⟩ (.ref ag)
   all_goals exact .stuck
 all_goals exact .stuck
end
section
variable{n:Nat}{Y:List Env}{z:St}{I:bX}{Z:bY}{h h':Heap}{O:Addr->Prop}
structure d1(Y:List Env)(c:Addr)(I:bX)(Z:bY)(z:St)(h:Heap):Prop where
 lt:c<h.objs.size
 foot:¬ew I z c
 zet:Z c=none
 base:B.get? c=none
 aa:¬qk Y c
 sys:c≠sysModules
theorem d1.ext(N:d1 Y c I Z z h)(x:cw Y O I Z z h κ' Z' σ' h'):d1 Y c κ' Z' σ' h' where
 lt:=hF N.lt x.size
 foot:=m5 x N.lt N.foot
 zet:=by
  cases e:Z' c with
  |none=>rfl
  |some p=>
   rcases x.zed c (by refine ab e ?_;simp)with q|q
   ·exact bf N.zet q
   ·exact bf N.lt (Nat.not_lt.mpr q)
 base:=N.base
 aa:=N.aa
 sys:=N.sys
theorem d1.get(N:d1 Y c I Z z h)(x:cw Y O I Z z h κ' Z' σ' h')(no:¬O c)(e:h.get? c=some o):h'.get? c=some o:=
 (x.keep c o e N.foot no).exact N.aa
theorem bu.claim(R:bu I Z z h){k:Nat}{o:Mine.Tactic.O}(ai:z.dI k=true)(aL:¬ew I z a/\Z a=none/\B.get? a=none/\a≠sysModules)(aN:¬ew I z d/\Z d=none/\B.get? d=none/\d≠sysModules)
  (as:hN I Z h' a d o) (ag:∀b dc,b≠a->b≠d->h.get? b=some dc->h'.get? b=some dc):bu (I.put (z.aT k) a d) Z (z.new k o) h'/\he I (I.put (z.aT k) a d):=by
 revert I Z R k o ai aL aN as ag;revert z h h' a d;refine@(rU hc ne ne ne ne ?σ9 ?h9 ?h'9 ?a9 ?d9 ?_ ?_)
 rotate_left 5
 intro I Z R k o ai aL aN as ag
 have gs:he I (I.put ((?σ9).aT k) ?a9 ?d9):=λj p e=>by
  refine(?_:(if j=(?σ9).aT k then _ else _)=_);exact ab (cO (λq=>by rw[q,(R.y1 ai).1]at e;exact nomatch e)) (ab e rfl)
 have m4:(I.put ((?σ9).aT k) ?a9 ?d9) ((?σ9).aT k)=some (?a9,?d9):=df rfl;have iE:∀j,j≠(?σ9).aT k->(I.put ((?σ9).aT k) ?a9 ?d9) j=I j:=λj q=>cO q;have i7:∀j,((?σ9).new k o).heap j≠none->j≠(?σ9).aT k->(?σ9).heap j≠none:=λj ae q=>by rw[qj,if_neg q]at ae;exact ae
 have cG:∀j eE eF,(?σ9).heap j≠none->I j=some (eE,eF)->eE≠?a9/\eE≠?d9/\eF≠?a9/\eF≠?d9:=λj eE eF ae af=>(h5 (λq=>aL.1 ⟨j,eE,eF,ae,af, .inl q.symm⟩) (λq=>aN.1 ⟨j,eE,eF,ae,af, .inl q.symm⟩) (λq=>aL.1 ⟨j,eE,eF,ae,af, .inr q.symm⟩) (λq=>aN.1 ⟨j,eE,eF,ae,af, .inr q.symm⟩))
 refine⟨⟨λb dc e=>?_,λb t vs e=>?_,λj v8 e=>?_,λi j r1 r2 eE eF ne aW cF js jt=>?_,λb f=>?_,λbF i wa aW kk=>?_,λg bw=>(R.gl g bw).mono gs (.refl _),λb f=>?_,R.low⟩,gs⟩
 ·exact ag b dc (λq=>by rw[q,aL.2.2.1]at e;exact nomatch e) (λq=>by rw[q,aN.2.2.1]at e;exact nomatch e) (R.base b dc e)
 ·refine cL (R.frz b t vs e) ?_;intro m aJ;exact⟨m,ag b _ (λq=>by rw[q,aL.2.1]at e;exact nomatch e) (λq=>by rw[q,aN.2.1]at e;exact nomatch e) aJ⟩
 ·rw[qj]at e
  by_cases q:j=(?σ9).aT k
  ·subst q;rw[if_pos rfl]at e;obtain rfl:=a8 e;exact eK ?a9 ?d9 m4 (as.mono gs (.refl _))
  ·replace e:=(cO q).symm.trans e;refine cS (R.obj j v8 e) ?_;intro aX dy ae x;refine l3 (cG j aX dy (by refine ab e ?_;simp) ae) ?_;intro p1 p2 fY gH;refine bC x.there ?_;rintro⟨CP,qt⟩ ⟨ds,gh⟩;exact eK aX dy (by rw[iE j q];exact ae) ((x.same ((ag _ _ p1 p2 qt).trans qt.symm) ((ag _ _ fY gH gh).trans gh.symm)).mono gs (.refl _))
 ·by_cases lq:i=(?σ9).aT k
  ·have lr:j≠(?σ9).aT k:=λq=>ne (lq.trans q.symm);rw[lq,m4]at js;refine bC (fi (a8 js)) ?_;rintro rfl rfl;replace jt:=(iE j lr).symm.trans jt;refine l3 (cG j eE eF (i7 j cF lr) jt) ?_;intro p1 p2 fY gH;exact h5 (λaE=>p1 aE.symm) (λaE=>fY aE.symm) (λaE=>p2 aE.symm) (λaE=>gH aE.symm)
  ·by_cases lr:j=(?σ9).aT k
   ·rw[lr,m4]at jt;refine bC (fi (a8 jt)) ?_;rintro rfl rfl;replace js:=(iE i lq).symm.trans js;refine l3 (cG i r1 r2 (i7 i aW lq) js) ?_;intro p1 p2 fY gH;exact h5 p1 p2 fY gH
   ·rw[iE i lq]at js;rw[iE j lr]at jt;exact R.apart i j r1 r2 eE eF ne (i7 i aW lq) (i7 j cF lr) js jt
 ·refine eB f ?_;try clear f;intro j eE eF ae af ax
  by_cases q:j=(?σ9).aT k
  ·rw[q,m4]at af;cases af
   rcases ax with rfl|rfl
   ·exact⟨aL.2.1,aL.2.2.1⟩
   ·exact⟨aN.2.1,aN.2.2.1⟩
  ·rw[iE j q]at af;exact R.out b ⟨j,eE,eF,i7 j ae q,af,ax⟩
 ·rw[Ia]at aW
  by_cases q:bF=k
  ·subst q;replace aW:=(df rfl)▸aW;refine c0 (iE _ (λe=>by unfold St.aT at e;lia)) ?_;exact R.fresh bF i wa (by lia) kk
  ·replace aW:=(cO q)▸aW;have:=(ui ai).2;refine c0 (iE _ (λe=>by unfold St.aT at e;lia)) ?_;exact R.fresh bF i wa aW kk
 ·refine eB f ?_;try clear f;intro j eE eF ae af ax
  by_cases q:j=(?σ9).aT k
  ·rw[q,m4]at af;cases af
   rcases ax with rfl|rfl
   ·exact aL.2.2.2
   ·exact aN.2.2.2
  ·rw[iE j q]at af;exact R.sys b ⟨j,eE,eF,i7 j ae q,af,ax⟩
 rfl
theorem bu.wt(R:bu I Z z h)(aL:¬ew I z a/\Z a=none)(ar:SeqAt h a t vs):bu I (Z.put a t vs) z h/\hg Z (Z.put a t vs):=by
 have hz:hg Z (Z.put a t vs):=λb p e=>by
  have:b≠a:=λq=>by rw[q,aL.2]at e;exact nomatch e
  refine(?_:(if b=a then _ else _)=_);exact ab (cO this) (ab e rfl)
 refine⟨⟨R.base,λb t' gW e=>?_,λid o e=>?_,R.apart,λb f=>?_,R.fresh,λg bw=>(R.gl g bw).mono (.refl _) hz,R.sys,R.low⟩,hz⟩
 ·by_cases q:b=a
  ·subst q;have:some (t,vs)=some (t',gW):=by refine bM e ?_;refine(?_:_=(if b=b then _ else _));exact ab (df rfl) rfl
   (refine bC (fi (a8 this)) ?_;rintro rfl rfl);exact ar
  ·have:Z b=some (t',gW):=by refine bM e ?_;refine(?_:_=(if b=a then _ else _));exact ab (cO q) rfl
   exact R.frz b t' gW this
 ·(refine cS (R.obj id o e) ?_;intro aX dy ae x);exact eK aX dy ae (x.mono (.refl _) hz)
 ·refine⟨?_,(R.out b f).2⟩;have:b≠a:=λq=>aL.1 (q▸f);refine(?_:(if b=a then _ else _)=_);refine c0 (cO this) ?_;exact(R.out b f).1
theorem av.dv{O₁:Addr->Prop}{aI bG hv kQ:Type}[Inhabited aI]{bo:fZ}{D₁:eg aI bG}{D₂:eg hv kQ}{Kp:fZ}{t:aY aI}{r:Res bG}{f:aI->aY hv}{g:bG->St->Res kQ}(iK:∀b,O₁ b->O b)(e6:Goes Y O₁ bo Kp)
  (ae:av O₁ D₁ n Y bo z t r) (af:∀b σ' a,av O D₂ n Y (λz I Z h=>Kp z I Z h/\D₁ z I Z h b a) σ' (f a) (g b σ')):av O D₂ n Y bo z (t.bind f) (r.bind g):=by
 cases r with
 |stuck=>trivial
 |exc σ'=>exact⟨ae.1,λaP A I Z s Q E aw aS am aj dt=>ae.2 aP A I Z s _ E aw aS am aj λh' aR e u=>dt h' aR e (u.mono λb x9=>iK b)⟩
 |ok b c1=>
  refine(?_:av O D₂ n Y bo z (t.bind f) (g b c1))
  cases bw:g b c1 with
  |stuck=>trivial
  |exc ef=>
   have k2:∀a,av O D₂ n Y (λz I Z h=>Kp z I Z h/\D₁ z I Z h b a) c1 (f a) (.exc ef):=λa=>bw▸af b c1 a;have es:=(k2 default).1;refine⟨λaP=>ae.1 (es aP),λaP A I Z s Q E aw aS am aj dt=>?_⟩;refine ae.2 (es aP) A I Z s _ E aw aS am aj λκ' Z' h' aR a x bW dP d=>?_;exact(k2 a).2 aP A κ' Z' {s with heap:=h',toks:=aR} Q E aw dP bW ⟨e6.out x aj,d⟩ λdp lv e CT=>dt dp lv e (CT.back (x.mono λb x9=>iK b))
  |ok c ef=>
   have es:=((λa=>bw▸af b c1 a:∀a,av O D₂ n Y (λz I Z h=>Kp z I Z h/\D₁ z I Z h b a) c1 (f a) (.ok c ef)) default).1;refine⟨λaP=>ae.1 (es aP),λaP A I Z s Q E aw aS am aj aC=>?_⟩;refine ae.2 (es aP) A I Z s _ E aw aS am aj λκ' Z' h' aR a x bW dP d=>?_;exact((λa=>bw▸af b c1 a:∀a,av O D₂ n Y (λz I Z h=>Kp z I Z h/\D₁ z I Z h b a) c1 (f a) (.ok c ef)) a).2 aP A κ' Z' {s with heap:=h',toks:=aR} Q E aw dP bW ⟨e6.out x aj,d⟩ λr5 r6 dp lv aX x' kn r7 dy=>aC r5 r6 dp lv aX ((x.mono λb x9=>iK b).trans x') kn r7 dy
theorem av.push{D:eg aI bG}{W:Addr->aY aI}{r:Res bG}(hf:o.isFreed=false)(bw:Goes Y aG bo bo)
  (H:∀c,av (λb=>b=c) D n Y (λz I Z h=>bo z I Z h/\d1 Y c I Z z h/\h.get? c=some o) z (W c) r):
  av aG D n Y bo z (λA Q E s=>W s.heap.objs.size A Q E {s with heap:=s.heap.push o}) r:=by
 have start:∀{A:Around}{I:bX}{Z:bY}{s:Shared},eG I z A Y s.heap->bu I Z z s.heap->cw Y aG I Z z s.heap I Z z (s.heap.push o)/\d1 Y s.heap.objs.size I Z z (s.heap.push o):=by
  intro A I Z s aS am;refine⟨(ee.grow (et _ _) (by rw[Heap.size_push];exact gP _)).fN,by rw[Heap.size_push];exact Nat.lt_succ_self _,λf=>e0 _ (f.lt am),?_,?_,?_,am.r0 (b8 _)⟩
  ·cases e:Z s.heap.objs.size with
   |none=>rfl
   |some p=>exact bf (am.rZ (by refine ab e ?_;simp)) (e0 _)
  ·cases e:B.get? s.heap.objs.size with
   |none=>rfl
   |some p=>exact bf (am.blt e) (e0 _)
  ·rintro⟨J,aM,iL⟩
   obtain⟨_,L,m,bl,_,aq,_⟩:=aS.funs J aM;rw[iL]at bl;obtain rfl:=a8 bl;exact e0 _ aq.lt
 cases r with
 |stuck=>trivial
 |exc σ'=>
  refine⟨(H 0).1,λaP A I Z s Q E aw aS am aj dt=>?_⟩;refine bC (start aS am) ?_;intro x N;exact(H _).2 aP A I Z {s with heap:=s.heap.push o} Q E aw (aS.eO x) (am.grow (et _ _)) (fs (bw.out x aj) N (hJ _ hf)) λh' aR e u=>dt h' aR e ((u.back (x.mono λx9 x9 q=>q.elim)).mono ((λaB b ai q=>bf (q▸ai) (Nat.not_lt.mpr aB):∀{h:Heap}{c:Addr},h.objs.size<=c->∀b,b<h.objs.size->b=c->aG b) (b8 _)))
 |ok b σ'=>
  refine⟨(H 0).1,λaP A I Z s Q E aw aS am aj aC=>?_⟩;refine bC (start aS am) ?_;intro x N;exact(H _).2 aP A I Z {s with heap:=s.heap.push o} Q E aw (aS.eO x) (am.grow (et _ _)) (fs (bw.out x aj) N (hJ _ hf)) λκ' Z' h' aR a y bW dP d=>aC κ' Z' h' aR a (((x.mono λx9 x9 q=>q.elim).trans y).mono ((λaB b ai q=>bf (q▸ai) (Nat.not_lt.mpr aB):∀{h:Heap}{c:Addr},h.objs.size<=c->∀b,b<h.objs.size->b=c->aG b) (b8 _))) bW dP d
end
section
variable{n:Nat}{Y:List Env}{z:St}
variable{P:ca}{F:bT}{J:Env}
theorem hQ(h:Nat.blt a b=true):a<b:=dG h
theorem av.fresh(ai:z.dI tag=true)(H:∀(A:Around)(I:bX)(Z:bY)(s:Shared)(Q:cc)(E:cc),gX A n->bu I Z z s.heap->bo z I Z s.heap->
  (∀h' aR c,s.heap.objs.size<=c->(∀b o,s.heap.get? b=some o->h'.get? b=some o)->s.heap.objs.size<=h'.objs.size->hN I Z h' c c o->Q (.ref c) {s with heap:=h',toks:=aR})->t A Q E s):
  av aG bb n Y bo z t (.ok (.ref (z.aT tag)) (z.new tag o)):=
 .leaf (λq=>q) λA I Z s Q E x9 aw x9 am aj aC=>H A I Z s Q E aw am aj λh' aR c aB ag ar as=>by
  exact aC _ Z h' aR _ (ee.newObj (am.y1 ai).1 aB aB (am.newObj ai aB aB as ag).2 ag ar).fN (am.newObj ai aB aB as ag).1 (.ref (df rfl))
theorem Rq(aL:ie P F n Y J ah xs)(C:aK)(z:St):
  bD aG bb n Y (bk J C) z (eval (.Tuple xs k pos) J) (az P F (.tup ah) C z):=by
 refine(?_:bD aG bb n Y (bk J C) z (eval (.Tuple xs k pos) J) ((de P F ah C z).bind λvs z=>match small vs.length with
   |true=> .ok (.tup vs) z
   |false=> .stuck))
 refine(av.seq (t:=bj (spliced (backTo pos (starEach xs J)))) (f:=λay A Q E s=>ay.length<=sizeLine/\Q (.ref s.heap.objs.size) {s with heap:=s.heap.push {cls:= .type "tuple",data:= .seq ay.toArray}})
  cJ (m8 aL C pos z cJ λx9 x9 x9 x9 q=>q) λvs σ' ay=>?_).tree λA s Q E q=>wpAny_Tuple q
 cases dT:small vs.length with
 |false=>exact .stuck
 |true=>have:=ic dT;refine .Qt λA I Z s Q E aw am aj aC=>?_;refine⟨by refine bM aj.2.length (ab gG ?_);lia,aC _ s.toks _ ay (b8 _) (et _ _) ⟨0,hJ _ rfl⟩ aj.2⟩
theorem Rr(aL:ie P F n Y J ah xs)(C:aK)(z:St):
  bD aG bb n Y (bk J C) z (eval (.List xs pos) J) (az P F (.aD ah) C z):=by
 refine(?_:bD aG bb n Y (bk J C) z (eval (.List xs pos) J) ((de P F ah C z).bind λvs z=>match small vs.length with
   |true=> .ok (.aD vs.length vs) z
   |false=> .stuck))
 refine(av.seq (t:=bj (spliced (backTo pos (starEach xs J)))) (f:=λay A Q E s=>ay.length<=sizeLine/\Q (.ref s.heap.objs.size) {s with heap:=s.heap.push {cls:= .type "list",data:= .seq ay.toArray}})
  cJ (m8 aL C pos z cJ λx9 x9 x9 x9 q=>q) λvs σ' ay=>?_).tree λA s Q E q=>wpAny_List q
 cases dT:small vs.length with
 |false=>exact .stuck
 |true=>have:=ic dT;refine .made λA I Z s Q E aw am aj aC=>?_;refine⟨by refine bM aj.2.length (ab gG ?_);lia,aC _ s.toks _ ay (b8 _) (et _ _) ⟨0,hJ _ rfl⟩ aj.2 (b8 _)⟩
theorem Rt(aL:ie P F n Y J ah xs)(C:aK)(z:St):
  bD aG bb n Y (bk J C) z (eval (.List xs pos) J) (az P F (.g5 tag ah) C z):=by
 refine(?_:bD aG bb n Y (bk J C) z (eval (.List xs pos) J) ((de P F ah C z).bind λvs z=>match small vs.length&&z.dI tag with
   |true=> .ok (.ref (z.aT tag)) (z.new tag (.list vs.length vs))
   |false=> .stuck))
 refine(av.seq (t:=bj (spliced (backTo pos (starEach xs J)))) (f:=λay A Q E s=>ay.length<=sizeLine/\Q (.ref s.heap.objs.size) {s with heap:=s.heap.push {cls:= .type "list",data:= .seq ay.toArray}})
  cJ (m8 aL C pos z cJ λx9 x9 x9 x9 q=>q) λvs σ' ay=>?_).tree λA s Q E q=>wpAny_List q
 cases dT:(small vs.length&&σ'.dI tag)with
 |false=>exact .stuck
 |true=>rw[Bool.and_eq_true]at dT;have:=ic dT.1;refine .fresh dT.2 λA I Z s Q E aw am aj aC=>?_;refine⟨by refine bM aj.2.length (ab gG ?_);lia,aC _ s.toks _ (b8 _) (et _ _) (by rw[Heap.size_push];exact gP _) ⟨rfl,ay,⟨0,hJ _ rfl⟩,aj.2,b8 _⟩⟩
theorem Ru(C:aK)(z:St):bD aG bb n Y (bk J C) z (eval (.Dict [] [] pos) J) (az P F (.dict tag nO []) C z):=by
 refine(?_:bD aG bb n Y (bk J C) z (eval (.Dict [] [] pos) J) (match z.dI tag with
    |true=>match nO with
     |true=> .ok (.ref (z.aT tag)) (z.new tag (.ck 0 []))
     |false=> .ok (.ref (z.aT tag)) (z.new tag (.ba 0 []))
    |false=> .stuck))
 have mk:∀{A:Around}{s:Shared}{Q:cc}{E:cc},Q (.ref s.heap.objs.size) {s with heap:=s.heap.push {cls:= .type "dict",data:= .dict #[]}}->wpAny (model prog w) A (do standAt pos;newDict) Q E s:=
  λq=>aV (ha (by exact wpAny_newObj_type q))
 cases ai:z.dI tag with
 |false=>exact .stuck
 |true=>
  cases nO with
  |true=>exact .fresh ai λA I Z s Q E aw am aj aC=>mk (aC _ s.toks _ (b8 _) (et _ _) (by rw[Heap.size_push];exact gP _) ⟨rfl,[],Heap.DictOf.new _, .nil,b8 _⟩)
  |false=>exact .fresh ai λA I Z s Q E aw am aj aC=>mk (aC _ s.toks _ (b8 _) (et _ _) (by rw[Heap.size_push];exact gP _) ⟨rfl,[],Heap.DictOf.new _, .nil,b8 _⟩)
end
theorem cq{G:Prop}(h:(a&&b)=true)(H:a=true->b=true->G):G:=by rw[Bool.and_eq_true]at h;exact H h.1 h.2
@[elab_as_elim] theorem IY{G:Expr->Prop}(h:Cf k x=true)(H:∀aH a1 a2,k aH a1 a2=true->G (.BoolOp aH a1 a2)):G x:=gp h λq=>Expr.BoolOp.elim (motive_1:=λx=>∀q:x.ctorIdx=0,Expr.BoolOp.elim x q k=true->G x) x q (λaH a1 a2 q e=>H aH a1 a2 e) q
@[elab_as_elim] theorem wu{G:Expr->Prop}(h:t5 k x=true)(H:∀aH a1 a2 a3,k aH a1 a2 a3=true->G (.BinOp aH a1 a2 a3)):G x:=gp h λq=>Expr.BinOp.elim (motive_1:=λx=>∀q:x.ctorIdx=2,Expr.BinOp.elim x q k=true->G x) x q (λaH a1 a2 a3 q e=>H aH a1 a2 a3 e) q
@[elab_as_elim] theorem IZ{G:Expr->Prop}(h:Cg k x=true)(H:∀aH a1 a2,k aH a1 a2=true->G (.UnaryOp aH a1 a2)):G x:=gp h λq=>Expr.UnaryOp.elim (motive_1:=λx=>∀q:x.ctorIdx=3,Expr.UnaryOp.elim x q k=true->G x) x q (λaH a1 a2 q e=>H aH a1 a2 e) q
@[elab_as_elim] theorem Rv{G:Expr->Prop}(h:Hj k x=true)(H:∀aH a1 a2 a3,k aH a1 a2 a3=true->G (.IfExp aH a1 a2 a3)):G x:=gp h λq=>Expr.IfExp.elim (motive_1:=λx=>∀q:x.ctorIdx=5,Expr.IfExp.elim x q k=true->G x) x q (λaH a1 a2 a3 q e=>H aH a1 a2 a3 e) q
@[elab_as_elim] theorem Rw{G:Expr->Prop}(h:Hk k x=true)(H:∀aH a1 a2,k aH a1 a2=true->G (.Dict aH a1 a2)):G x:=gp h λq=>Expr.Dict.elim (motive_1:=λx=>∀q:x.ctorIdx=6,Expr.Dict.elim x q k=true->G x) x q (λaH a1 a2 q e=>H aH a1 a2 e) q
@[elab_as_elim] theorem wv{G:Expr->Prop}(h:rI k x=true)(H:∀aH a1 a2 a3,k aH a1 a2 a3=true->G (.ListComp aH a1 a2 a3)):G x:=gp h λq=>Expr.ListComp.elim (motive_1:=λx=>∀q:x.ctorIdx=8,Expr.ListComp.elim x q k=true->G x) x q (λaH a1 a2 a3 q e=>H aH a1 a2 a3 e) q
@[elab_as_elim] theorem Rx{G:Expr->Prop}(h:Hl k x=true)(H:∀aH a1 a2 a3 cv,k aH a1 a2 a3 cv=true->G (.DictComp aH a1 a2 a3 cv)):G x:=gp h λq=>Expr.DictComp.elim (motive_1:=λx=>∀q:x.ctorIdx=10,Expr.DictComp.elim x q k=true->G x) x q (λaH a1 a2 a3 cv q e=>H aH a1 a2 a3 cv e) q
@[elab_as_elim] theorem Ry{G:Expr->Prop}(h:Hm k x=true)(H:∀aH a1 a2 a3,k aH a1 a2 a3=true->G (.Compare aH a1 a2 a3)):G x:=gp h λq=>Expr.Compare.elim (motive_1:=λx=>∀q:x.ctorIdx=15,Expr.Compare.elim x q k=true->G x) x q (λaH a1 a2 a3 q e=>H aH a1 a2 a3 e) q
@[elab_as_elim] theorem zq{G:Expr->Prop}(h:rJ k x=true)(H:∀aH a1 a2 a3,k aH a1 a2 a3=true->G (.Call aH a1 a2 a3)):G x:=gp h λq=>Expr.Call.elim (motive_1:=λx=>∀q:x.ctorIdx=16,Expr.Call.elim x q k=true->G x) x q (λaH a1 a2 a3 q e=>H aH a1 a2 a3 e) q
@[elab_as_elim] theorem Dd{G:Expr->Prop}(h:yI k x=true)(H:∀aH a1 a2,k aH a1 a2=true->G (.Constant aH a1 a2)):G x:=gp h λq=>Expr.Constant.elim (motive_1:=λx=>∀q:x.ctorIdx=19,Expr.Constant.elim x q k=true->G x) x q (λaH a1 a2 q e=>H aH a1 a2 e) q
@[elab_as_elim] theorem qu{G:Expr->Prop}(h:oW k x=true)(H:∀aH a1 a2,k aH a1 a2=true->G (.Attribute aH a1 a2)):G x:=gp h λq=>Expr.Attribute.elim (motive_1:=λx=>∀q:x.ctorIdx=20,Expr.Attribute.elim x q k=true->G x) x q (λaH a1 a2 q e=>H aH a1 a2 e) q
@[elab_as_elim] theorem qv{G:Expr->Prop}(h:oX k x=true)(H:∀aH a1 a2,k aH a1 a2=true->G (.Subscript aH a1 a2)):G x:=gp h λq=>Expr.Subscript.elim (motive_1:=λx=>∀q:x.ctorIdx=21,Expr.Subscript.elim x q k=true->G x) x q (λaH a1 a2 q e=>H aH a1 a2 e) q
@[elab_as_elim] theorem gJ{G:Expr->Prop}(h:gq k x=true)(H:∀aH a1,k aH a1=true->G (.Name aH a1)):G x:=gp h λq=>Expr.Name.elim (motive_1:=λx=>∀q:x.ctorIdx=23,Expr.Name.elim x q k=true->G x) x q (λaH a1 q e=>H aH a1 e) q
@[elab_as_elim] theorem De{G:Expr->Prop}(h:yJ k x=true)(H:∀aH a1,k aH a1=true->G (.List aH a1)):G x:=gp h λq=>Expr.List.elim (motive_1:=λx=>∀q:x.ctorIdx=24,Expr.List.elim x q k=true->G x) x q (λaH a1 q e=>H aH a1 e) q
@[elab_as_elim] theorem ww{G:Expr->Prop}(h:t6 k x=true)(H:∀aH a1 a2,k aH a1 a2=true->G (.Tuple aH a1 a2)):G x:=gp h λq=>Expr.Tuple.elim (motive_1:=λx=>∀q:x.ctorIdx=25,Expr.Tuple.elim x q k=true->G x) x q (λaH a1 a2 q e=>H aH a1 a2 e) q
@[elab_as_elim] theorem I0{G:Expr->Prop}(h:Ch k x=true)(H:∀aH a1 a2 a3,k aH a1 a2 a3=true->G (.Slice aH a1 a2 a3)):G x:=gp h λq=>Expr.Slice.elim (motive_1:=λx=>∀q:x.ctorIdx=26,Expr.Slice.elim x q k=true->G x) x q (λaH a1 a2 a3 q e=>H aH a1 a2 a3 e) q
@[elab_as_elim] theorem Df{G:Stmt->Prop}(h:vW k x=true)(H:∀aH a1,k aH a1=true->G (.Return aH a1)):G x:=gp h λq=>Stmt.Return.elim (motive_2:=λx=>∀q:x.ctorIdx=3,Stmt.Return.elim x q k=true->G x) x q (λaH a1 q e=>H aH a1 e) q
@[elab_as_elim] theorem uu{G:Stmt->Prop}(h:rK k x=true)(H:∀aH a1 a2,k aH a1 a2=true->G (.Assign aH a1 a2)):G x:=gp h λq=>Stmt.Assign.elim (motive_2:=λx=>∀q:x.ctorIdx=5,Stmt.Assign.elim x q k=true->G x) x q (λaH a1 a2 q e=>H aH a1 a2 e) q
@[elab_as_elim] theorem Dg{G:Stmt->Prop}(h:yK k x=true)(H:∀aH a1 a2 a3,k aH a1 a2 a3=true->G (.AugAssign aH a1 a2 a3)):G x:=gp h λq=>Stmt.AugAssign.elim (motive_2:=λx=>∀q:x.ctorIdx=7,Stmt.AugAssign.elim x q k=true->G x) x q (λaH a1 a2 a3 q e=>H aH a1 a2 a3 e) q
@[elab_as_elim] theorem I1{G:Stmt->Prop}(h:Ci k x=true)(H:∀aH a1 a2 a3 cv,k aH a1 a2 a3 cv=true->G (.For aH a1 a2 a3 cv)):G x:=gp h λq=>Stmt.For.elim (motive_2:=λx=>∀q:x.ctorIdx=9,Stmt.For.elim x q k=true->G x) x q (λaH a1 a2 a3 cv q e=>H aH a1 a2 a3 cv e) q
@[elab_as_elim] theorem Rz{G:Stmt->Prop}(h:Hn k x=true)(H:∀aH a1 a2 a3,k aH a1 a2 a3=true->G (.While aH a1 a2 a3)):G x:=gp h λq=>Stmt.While.elim (motive_2:=λx=>∀q:x.ctorIdx=11,Stmt.While.elim x q k=true->G x) x q (λaH a1 a2 a3 q e=>H aH a1 a2 a3 e) q
@[elab_as_elim] theorem RA{G:Stmt->Prop}(h:Ho k x=true)(H:∀aH a1 a2 a3,k aH a1 a2 a3=true->G (.If aH a1 a2 a3)):G x:=gp h λq=>Stmt.If.elim (motive_2:=λx=>∀q:x.ctorIdx=12,Stmt.If.elim x q k=true->G x) x q (λaH a1 a2 a3 q e=>H aH a1 a2 a3 e) q
@[elab_as_elim] theorem RB{G:Stmt->Prop}(h:Hp k x=true)(H:∀aH a1 a2,k aH a1 a2=true->G (.Raise aH a1 a2)):G x:=gp h λq=>Stmt.Raise.elim (motive_2:=λx=>∀q:x.ctorIdx=16,Stmt.Raise.elim x q k=true->G x) x q (λaH a1 a2 q e=>H aH a1 a2 e) q
@[elab_as_elim] theorem RC{G:Stmt->Prop}(h:Hq k x=true)(H:∀aH a1 a2 a3 cv,k aH a1 a2 a3 cv=true->G (.Try aH a1 a2 a3 cv)):G x:=gp h λq=>Stmt.Try.elim (motive_2:=λx=>∀q:x.ctorIdx=17,Stmt.Try.elim x q k=true->G x) x q (λaH a1 a2 a3 cv q e=>H aH a1 a2 a3 cv e) q
@[elab_as_elim] theorem I2{G:Stmt->Prop}(h:Cj k x=true)(H:∀aH a1,k aH a1=true->G (.Expr aH a1)):G x:=gp h λq=>Stmt.Expr.elim (motive_2:=λx=>∀q:x.ctorIdx=24,Stmt.Expr.elim x q k=true->G x) x q (λaH a1 q e=>H aH a1 e) q
@[elab_as_elim] theorem RD{G:Stmt->Prop}(h:Hr k x=true)(H:∀aH,k aH=true->G (.Continue aH)):G x:=gp h λq=>Stmt.Continue.elim (motive_2:=λx=>∀q:x.ctorIdx=27,Stmt.Continue.elim x q k=true->G x) x q (λaH q e=>H aH e) q
@[elab_as_elim] theorem wx{G:Operator->Prop}(h:t7 x=true)(H:G .Add):G x:=Operator.Add.elim (motive:=G) x (cj h) H
@[elab_as_elim] theorem RE{G:Operator->Prop}(h:Hs x=true)(H:G .Sub):G x:=Operator.Sub.elim (motive:=G) x (cj h) H
@[elab_as_elim] theorem RF{G:Operator->Prop}(h:Ht x=true)(H:G .Mod):G x:=Operator.Mod.elim (motive:=G) x (cj h) H
@[elab_as_elim] theorem RG{G:Operator->Prop}(h:Hu x=true)(H:G .Mult):G x:=Operator.Mult.elim (motive:=G) x (cj h) H
@[elab_as_elim] theorem I3{G:CmpOp->Prop}(h:Ck x=true)(H:G .Eq):G x:=CmpOp.Eq.elim (motive:=G) x (cj h) H
@[elab_as_elim] theorem I4{G:CmpOp->Prop}(h:Cm x=true)(H:G .NotEq):G x:=CmpOp.NotEq.elim (motive:=G) x (cj h) H
@[elab_as_elim] theorem RH{G:CmpOp->Prop}(h:Hv x=true)(H:G .Gt):G x:=CmpOp.Gt.elim (motive:=G) x (cj h) H
@[elab_as_elim] theorem RI{G:CmpOp->Prop}(h:Hw x=true)(H:G .Is):G x:=CmpOp.Is.elim (motive:=G) x (cj h) H
@[elab_as_elim] theorem RJ{G:CmpOp->Prop}(h:Hx x=true)(H:G .IsNot):G x:=CmpOp.IsNot.elim (motive:=G) x (cj h) H
@[elab_as_elim] theorem RK{G:CmpOp->Prop}(h:Hy x=true)(H:G .In):G x:=CmpOp.In.elim (motive:=G) x (cj h) H
@[elab_as_elim] theorem RL{G:CmpOp->Prop}(h:Hz x=true)(H:G .NotIn):G x:=CmpOp.NotIn.elim (motive:=G) x (cj h) H
@[elab_as_elim] theorem RM{G:UnaryOp->Prop}(h:HA x=true)(H:G .Not):G x:=UnaryOp.Not.elim (motive:=G) x (cj h) H
@[elab_as_elim] theorem RN{G:UnaryOp->Prop}(h:HB x=true)(H:G .USub):G x:=UnaryOp.USub.elim (motive:=G) x (cj h) H
@[elab_as_elim] theorem RP{G:BoolOp->Prop}(h:HC x=true)(H:G .And):G x:=BoolOp.And.elim (motive:=G) x (cj h) H
@[elab_as_elim] theorem RQ{G:BoolOp->Prop}(h:HD x=true)(H:G .Or):G x:=BoolOp.Or.elim (motive:=G) x (cj h) H
@[elab_as_elim] theorem g0{G:List aI->Prop}{l:List aI}(h:fK l=true)(H:G []):G l:=List.casesOn (motive:=λl=>fK l=true->G l) l (λx9=>H) (λx9 x9(h:false=true)=>b3 h) h
@[elab_as_elim] theorem si{G:List aI->Prop}{k:aI->List aI->Bool}{l:List aI}(h:nU k l=true)(H:∀a r,k a r=true->G (a::r)):G l:=List.casesOn (motive:=λl=>nU k l=true->G l) l (λ(h:false=true)=>b3 h) (λa r h=>H a r h) h
@[elab_as_elim] theorem ig{G:List aI->Prop}{k:aI->Bool}{l:List aI}(h:hs k l=true)(H:∀a,k a=true->G [a]):G l:=si h λa x9 h=>cq h λae af=>g0 ae (H a af)
@[elab_as_elim] theorem qw{G:List aI->Prop}{k:aI->aI->Bool}{l:List aI}(h:oY k l=true)(H:∀a b,k a b=true->G [a,b]):G l:=si h λa x9 h=>ig h λb h=>H a b h
@[elab_as_elim] theorem pf{G:Option aI->Prop}{o:Option aI}(h:kJ o=true)(H:G none):G o:=Option.casesOn (motive:=λo=>kJ o=true->G o) o (λx9=>H) (λx9(h:false=true)=>b3 h) h
@[elab_as_elim] theorem nh{G:Option aI->Prop}{k:aI->Bool}{o:Option aI}(h:hK k o=true)(H:∀a,k a=true->G (some a)):G o:=Option.casesOn (motive:=λo=>hK k o=true->G o) o (λ(h:false=true)=>b3 h) (λa h=>H a h) h
theorem iM(h:dJ a b=true):a=b:=by unfold dJ at h;rw[jV]at h;have:=of_decide_eq_true h;obtain⟨⟨x⟩⟩:=a;simp at this;exact ab this rfl
theorem Dh(h:dJ a b=false):(a==b)=false:=by
 by_cases q:a=b
 ·subst q;unfold dJ at h;rw[jV]at h;simp at h
 ·simpa using q
theorem RR(h:gr a b=true):a=b:=by cases a<;>cases b<;>first|rfl|exact b3 h
theorem wy(x:Str):∀l,p7 x l=l.lookup x:=by
 intro br
 induction br with
 |nil=>exact rfl
 |cons cm r ih=>
  obtain⟨y,k⟩:=cm;dsimp only[p7];refine ab List.lookup_cons ?_
  cases h:dJ x y with
  |true=>have:=iM h;subst this;simp
  |false=>refine ab (Dh h) ?_;exact ih
theorem hk(h:fX names x k=true):names.lookup x=some k:=by
 unfold fX at h;rw[<-wy]
 cases e:p7 x names with
 |none=>replace h:=e▸h;exact b3 h
 |some bF=>rw[e]at h;refine bz _ (RR h)
@[elab_as_elim] theorem qx{G:Comprehension->Prop}(h:rN k g=true)(H:∀s p it ifs,k s it ifs=true->G ⟨.Name s p,it,ifs,0⟩):G g:=by obtain⟨t,it,ifs,a⟩:=g;refine gJ (k:=λs x9=>eC a 0&&k s it ifs) (G:=λt=>G ⟨t,it,ifs,a⟩) h λs p h=>cq h λae af=>?_;rw[nZ]at ae;refine ab (of_decide_eq_true ae) ?_;exact H s p it ifs af
def fy(v:V)(z:St):Res Bool:=match truth v with|some b=> .ok b z|none=> .stuck
abbrev kr(P:ca)(F:bT)(e:E)(C:aK)(z:St):Res Bool:=(az P F e C z).bind fy
theorem sj(r:Res V)(t f:St->Res aI):(r.bind λv z=>condB v (t z) (f z))=(r.bind fy).bind λb z=>match b with|true=>t z|false=>f z:=by
 cases r with
 |ok v z=>
  refine(?_:condB v (t z) (f z)=(fy v z).bind _);delta condB fy
  cases truth v with
  |none=>rfl
  |some b=>cases b<;>rfl
 |exc z=>rfl
 |stuck=>rfl
section
variable{n:Nat}{Y:List Env}{z:St}{O:Addr->Prop}
variable{P:ca}{F:bT}{J:Env}
abbrev mr:eg Bool Bool:=λx9 x9 x9 x9 b a=>a=b
theorem I5(v:V)(u:Value):bD aG mr n Y (m7 v u) z (truthy u) (fy v z):=by
 cases v with
 |bool b=>refine .leaf id λA I Z s Q E x9 aw aS am aj aC=>?_;cases aj;exact wpAny_truthy_bool (aC I Z s.heap s.toks b .rfl' am rfl)
 |_=>exact .stuck
def I6(P:ca)(F:bT)(n:Nat)(Y:List Env)(J:Env)(e:E)(x:Expr):Prop:=
 ∀C z(ks:Sem Value),ks=eval x J->bD aG mr n Y (bk J C) z (isTrue x J ks) (kr P F e C z)
def eQ(P:ca)(F:bT)(n:Nat)(Y:List Env)(J:Env)(e:E)(x:Expr):Prop:=
 bZ P F n Y J e x/\I6 P F n Y J e x
class inductive fG(P:ca)(F:bT)(n:Nat)(Y:List Env)(J:Env):List E->List Expr->Prop
 |nil:fG P F n Y J [] []
 |cons {e:E} {x:Expr} {ah:List E} {xs:List Expr}:eQ P F n Y J e x->gc x=true->fG P F n Y J ah xs->fG P F n Y J (e::ah) (x::xs)
theorem I7(h:gc x=true):starEach (x::xs) J=(false,eval x J)::starEach xs J:=by cases x<;>first|rfl|exact b3 h
theorem fG.ok(h:fG P F n Y J ah xs):ie P F n Y J ah xs:=by
 induction h with
 |nil=>exact .nil
 |cons a b be ih=>exact .cons a.1 (I7 b) ih
theorem Dj(W:aY Value)(Dk:∀C z,av aG bb n Y (bk J C) z W (az P F e C z))
  (aN:∀A s Q E,(aY.bind W λu=>bj (truthy u)) A Q E s->wpAny (model prog w) A (isTrue x J (eval x J)) Q E s):I6 P F n Y J e x:=by
 intro C z ks hw;refine ab hw ?_;exact(av.seq (f:=λu=>bj (truthy u)) cJ (Dk C z) λv σ' u=>(I5 v u).pre λx9 x9 x9 q=>q.2).tree λA s Q E q=>aN A s Q E q
set_option tactic.hygienic true in
theorem f1(h:bZ P F n Y J e x)(aj:isTrue x J (eval x J)=(do let v<-eval x J;standAt x.pos;holding [v] (truthy v))):eQ P F n Y J e x:=
 ⟨h,Dj (bj (eval x J)) h λA s Q E q=>isTrue_plain q aj⟩
theorem RS(h:eQ P F n Y J e x):eQ P F n Y J (.not e) (.UnaryOp .Not x pos):=by
 have aM:∀C z,az P F (.not e) C z=(kr P F e C z).bind λb z=> .ok (V.bool !b) z:=λC z=>by
  refine(?_:((az P F e C z).bind λv z=>condB v (.ok (V.bool false) z) (.ok (V.bool true) z))=_);rw[sj];congr 1;funext b z;cases b<;>rfl
 have bA:∀v u z,av aG bb n Y (m7 v u) z (λA Q E s=>wpAny (model prog w) A (truthy u) (λc s'=>Q (.bool !c) s') E s) ((fy v z).bind λb z=> .ok (V.bool !b) z):=λv u z=>
  av.seq (Kp:=λx9 x9 x9 x9=>True) (t:=bj (truthy u)) (f:=λc A Q E s=>Q (Value.bool !c) s) ⟨λx9 x9=>trivial⟩ (I5 v u) λb σ' c=>
   av.leaf (D:=bb) (b:=V.bool !b) (σ':=σ') (λq=>q) λA I Z s Q E x9 x9 x9 am aj aC=>by
    obtain rfl:c=b:=aj.2;exact aC I Z s.heap s.toks _ .rfl' am (.bool _)
 refine⟨λC z=>?_,λC z ks hw=>?_⟩
 ·rw[aM];refine(?_:bD aG bb n Y (bk J C) z _ (((az P F e C z).bind fy).bind λb z=> .ok (V.bool !b) z));have:(((az P F e C z).bind fy).bind λb z=>Res.ok (V.bool !b) z)=(az P F e C z).bind λv z=>(fy v z).bind λb z=> .ok (V.bool !b) z:=by cases az P F e C z<;>rfl
  refine ab this ?_;exact(av.seq (f:=λu A Q E s=>wpAny (model prog w) A (truthy u) (λc s'=>Q (.bool !c) s') E s) cJ (h.1 C z) λv σ' u=>(bA v u σ').pre λx9 x9 x9 q=>q.2).tree λA s Q E q=>UnaryOp_ (cd q (λu s' h'=>not_of h') λx9 x9 aE=>aE)
 ·refine(?_:bD aG mr n Y (bk J C) z _ ((az P F (.not e) C z).bind fy));rw[aM];have:(((kr P F e C z).bind λb z=>Res.ok (V.bool !b) z).bind fy)=(kr P F e C z).bind λb z=> .ok (!b) z:=by cases kr P F e C z<;>rfl
  refine ab this ?_;refine(av.seq (f:=λc A Q E s=>Q (!c) s) cJ (h.2 C z _ rfl) λb σ' c=>?_).tree λA s Q E q=>isTrue_not q;refine av.leaf (λq=>q) λA I Z s Q E x9 x9 x9 am aj aC=>?_;obtain rfl:c=b:=aj.2;exact aC I Z s.heap s.toks _ .rfl' am rfl
theorem uv{D:eg aI bG}{t f:aY aI}{I8 I9:St->Res bG}(bw:Goes Y aG bo bo)(Dk:av aG mr n Y bo z W r)
  (bH:∀z,av O D n Y bo z t (I8 z)) (hf:∀z,av O D n Y bo z f (I9 z)):
  av O D n Y bo z (aY.bind W λc A Q E s=>if c=true then t A Q E s else f A Q E s) (r.bind λb z=>match b with|true=>I8 z|false=>I9 z):=by
 refine av.dv (O₁:=aG) (λx9 q=>q.elim) bw Dk λb σ' c=>?_
 cases b with
 |true=>refine((bH σ').pre λx9 x9 x9 q=>q.1).f0 λA I Z s Q E x9 x9 x9 aj q=>?_;have aB:c=true:=aj.2;refine ab aB ?_;exact q
 |false=>refine((hf σ').pre λx9 x9 x9 q=>q.1).f0 λA I Z s Q E x9 x9 x9 aj q=>?_;have aB:c=false:=aj.2;refine ab aB ?_;exact q
theorem RT(aB:eQ P F n Y J c t)(aL:eQ P F n Y J a u)(ai:eQ P F n Y J b v):eQ P F n Y J (.ite c a b) (.IfExp t u v pos):=by
 refine⟨λC z=>?_,λC z ks hw=>?_⟩
 ·refine(?_:bD aG bb n Y (bk J C) z _ ((az P F c C z).bind λv z=>condB v (az P F a C z) (az P F b C z)));rw[sj];exact(uv cJ (aB.2 C z _ rfl) (λz=>aL.1 C z) λz=>ai.1 C z).tree λA s Q E q=>IfExp_ q
 ·refine(?_:bD aG mr n Y (bk J C) z _ (((az P F c C z).bind λv z=>condB v (az P F a C z) (az P F b C z)).bind fy));rw[sj]
  have:((((az P F c C z).bind fy).bind λx z=>match x with|true=>az P F a C z|false=>az P F b C z).bind fy)=(kr P F c C z).bind λx z=>match x with|true=>kr P F a C z|false=>kr P F b C z:=by
   refine(?_:_=((az P F c C z).bind fy).bind _)
   cases(az P F c C z).bind fy with
   |ok x z=>cases x<;>rfl
   |exc z=>rfl
   |stuck=>rfl
  refine ab this ?_;exact(uv cJ (aB.2 C z _ rfl) (λz=>aL.2 C z _ rfl) λz=>ai.2 C z _ rfl).tree λA s Q E q=>isTrue_IfExp q
end
section
variable{n:Nat}{Y:List Env}{z:St}{O:Addr->Prop}
variable{P:ca}{F:bT}{J:Env}
theorem RU(h:fG P F n Y J ah xs)(pos:Pos):∀C z,bD aG bb n Y (bk J C) z (eval (.BoolOp .And xs pos) J) (mc P F ah C z):=by
 induction h with
 |nil=>intro C z;exact .stuck
 | @cons e x ah xs aQ be aw ih=>
  intro C z
  cases aw with
  |nil=>exact(aQ.1 C z).tree λA s Q E q=>BoolOp_one q
  | @cons bB e3 ms wz af Dl Dm=>
   refine(?_:bD aG bb n Y (bk J C) z _ ((az P F e C z).bind λv z=>condB v (mc P F (bB::ms) C z) (.ok (V.bool false) z)));refine(av.seq (f:=λu=>aY.bind (bj (truthy u)) λc A Q E s=>if c then wpAny (model prog w) A (eval (.BoolOp .And (e3::wz) pos) J) Q E s else Q u s) cJ (aQ.1 C z) λv σ' u=>?_).tree λA s Q E q=>BoolOp_and q
   cases v with
   |bool b=>
    cases b with
    |true=>refine((ih C σ').pre λx9 x9 x9 q=>q.1).f0 λA I Z s Q E x9 x9 x9 aj q=>?_;have aN:Den I Z (V.bool true) u:=aj.2;cases aN;exact wpAny_truthy_bool q
    |false=>refine .leaf id λA I Z s Q E x9 x9 x9 am aj aC=>?_;cases(aj.2:Den I Z (V.bool false) u);exact wpAny_truthy_bool (aC I Z s.heap s.toks _ .rfl' am (.bool false))
   |_=>exact .stuck
theorem RV(h:fG P F n Y J ah xs)(pos:Pos):∀C z,bD aG bb n Y (bk J C) z (eval (.BoolOp .Or xs pos) J) (p0 P F ah C z):=by
 induction h with
 |nil=>intro C z;exact .stuck
 | @cons e x ah xs aQ be aw ih=>
  intro C z
  cases aw with
  |nil=>exact(aQ.1 C z).tree λA s Q E q=>BoolOp_one q
  | @cons bB e3 ms wz af Dl Dm=>
   refine(?_:bD aG bb n Y (bk J C) z _ ((az P F e C z).bind λv z=>condB v (.ok (V.bool true) z) (p0 P F (bB::ms) C z)));refine(av.seq (f:=λu=>aY.bind (bj (truthy u)) λc A Q E s=>if c then Q u s else wpAny (model prog w) A (eval (.BoolOp .Or (e3::wz) pos) J) Q E s) cJ (aQ.1 C z) λv σ' u=>?_).tree λA s Q E q=>BoolOp_or q
   cases v with
   |bool b=>
    cases b with
    |false=>refine((ih C σ').pre λx9 x9 x9 q=>q.1).f0 λA I Z s Q E x9 x9 x9 aj q=>?_;have aN:Den I Z (V.bool false) u:=aj.2;cases aN;exact wpAny_truthy_bool q
    |true=>refine .leaf id λA I Z s Q E x9 x9 x9 am aj aC=>?_;cases(aj.2:Den I Z (V.bool true) u);exact wpAny_truthy_bool (aC I Z s.heap s.toks _ .rfl' am (.bool true))
   |_=>exact .stuck
theorem RW(h:fG P F n Y J ah xs)(pos:Pos)(ks:Sem Value):∀C z,bD aG mr n Y (bk J C) z (isTrue (.BoolOp .And xs pos) J ks) ((mc P F ah C z).bind fy):=by
 induction h with
 |nil=>intro C z;exact .stuck
 | @cons e x ah xs aQ be aw ih=>
  intro C z
  cases aw with
  |nil=>
   refine(?_:bD aG mr n Y (bk J C) z _ (kr P F e C z));refine bM (Res.lw (kr P F e C z)) ?_;refine(av.seq (t:=bj (isTrue x J (eval x J))) (f:=λc A Q E s=>Q c s) (g:=λb z=> .ok b z) cJ (aQ.2 C z _ rfl) λb σ' c=>?_).tree λA s Q E q=>isTrue_and (cd q (λc s' h'=>?_) λx9 x9 aE=>aE)
   ·exact .leaf id λA I Z s Q E x9 x9 x9 am aj aC=>aC I Z s.heap s.toks _ .rfl' am aj.2
   ·cases c with
    |true=>exact isTrue_and_nil h'
    |false=>exact h'
  | @cons bB e3 ms wz af Dl Dm=>
   have:(mc P F (e::bB::ms) C z).bind fy=(kr P F e C z).bind λb z=>match b with|true=>(mc P F (bB::ms) C z).bind fy|false=> .ok false z:=by
    refine(?_:((az P F e C z).bind λv z=>condB v (mc P F (bB::ms) C z) (.ok (V.bool false) z)).bind fy=_);rw[sj];refine(?_:_=((az P F e C z).bind fy).bind _)
    cases(az P F e C z).bind fy with
    |ok b z=>cases b<;>rfl
    |exc z=>rfl
    |stuck=>rfl
   refine ab this ?_;refine(uv (f:=λA Q E s=>Q false s) cJ (aQ.2 C z _ rfl) (λz=>ih C z) λz=> .leaf id λA I Z s Q E x9 x9 x9 am aj aC=>aC I Z s.heap s.toks _ .rfl' am rfl).tree λA s Q E q=>isTrue_and q
theorem RX(h:fG P F n Y J ah xs)(pos:Pos)(ks:Sem Value):∀C z,bD aG mr n Y (bk J C) z (isTrue (.BoolOp .Or xs pos) J ks) ((p0 P F ah C z).bind fy):=by
 induction h with
 |nil=>intro C z;exact .stuck
 | @cons e x ah xs aQ be aw ih=>
  intro C z
  cases aw with
  |nil=>
   refine(?_:bD aG mr n Y (bk J C) z _ (kr P F e C z));refine bM (Res.lw (kr P F e C z)) ?_;refine(av.seq (t:=bj (isTrue x J (eval x J))) (f:=λc A Q E s=>Q c s) (g:=λb z=> .ok b z) cJ (aQ.2 C z _ rfl) λb σ' c=>?_).tree λA s Q E q=>isTrue_or (cd q (λc s' h'=>?_) λx9 x9 aE=>aE)
   ·exact .leaf id λA I Z s Q E x9 x9 x9 am aj aC=>aC I Z s.heap s.toks _ .rfl' am aj.2
   ·cases c with
    |true=>exact h'
    |false=>exact isTrue_or_nil h'
  | @cons bB e3 ms wz af Dl Dm=>
   have:(p0 P F (e::bB::ms) C z).bind fy=(kr P F e C z).bind λb z=>match b with|true=> .ok true z|false=>(p0 P F (bB::ms) C z).bind fy:=by
    refine(?_:((az P F e C z).bind λv z=>condB v (.ok (V.bool true) z) (p0 P F (bB::ms) C z)).bind fy=_);rw[sj];refine(?_:_=((az P F e C z).bind fy).bind _)
    cases(az P F e C z).bind fy with
    |ok b z=>cases b<;>rfl
    |exc z=>rfl
    |stuck=>rfl
   refine ab this ?_;refine(uv (t:=λA Q E s=>Q true s) cJ (aQ.2 C z _ rfl) (λz=> .leaf id λA I Z s Q E x9 x9 x9 am aj aC=>aC I Z s.heap s.toks _ .rfl' am rfl) λz=>ih C z).tree λA s Q E q=>isTrue_or q
theorem RY(h:fG P F n Y J ah xs):eQ P F n Y J (.and ah) (.BoolOp .And xs pos):=⟨λC z=>RU h pos C z,λC z ks x9=>RW h pos ks C z⟩
theorem RZ(h:fG P F n Y J ah xs):eQ P F n Y J (.or ah) (.BoolOp .Or xs pos):=⟨λC z=>RV h pos C z,λC z ks x9=>RX h pos ks C z⟩
end
structure uw(ao:cR)(P:ca):Prop where
 sys:Sys B
 kin:K.In B
 lim:B.NoLimit
 cls:∀c,ju (T.e2 c)
 inj:ch.Inj
 nm:ao.nm=T.nm
 nn:ao.bV=T.bV
 dot:∀x,x<T.bV->T.nm x≠".0"
 fnR:∀f,f<ao.vX->Reads (ao.Cn f) (.ref (T.c8 f))
 fnO:∀f,f<ao.vX->∃o aF,B.get? (T.c8 f)=some o/\o.data= .func aF
 clsR:∀c,c<ao.vY->Reads (ao.Co c) (.ref (T.e2 c))
 glR:∀g,g<ao.t4->Reads (ao.glN g) (T.Ce g)
 glN:ao.t4<=T.t4
 glV:∀g,P.BX g=T.glV g
 rLen:Reads "len" (.builtin "len")
 rList:Reads "list" (.type "list")
 rDict:Reads "dict" (.type "dict")
 rSorted:Reads "sorted" (.builtin "sorted")
 rRange:Reads "range" (.type "range")
theorem mu(h:ht x=true):(x==("__debug__":Str))=false:=by unfold ht at h;rw[Bool.and_eq_true]at h;exact Dh (by simpa using h.1)
theorem Ja(h:ht x=true):(x==("__classdict__":Str))=false:=by unfold ht at h;rw[Bool.and_eq_true]at h;exact Dh (by simpa using h.2)
theorem zr{ao:cR}(h:ao.p8 s t=true):s=t/\ao.names.lookup s=some .globalImplicit/\ht s=true:=by unfold cR.p8 at h;rw[Bool.and_eq_true,Bool.and_eq_true]at h;exact fs (iM h.1.1) (hk h.1.2) h.2
@[elab_as_elim] theorem ux{G:Expr->Prop}(h:mY ao t k x=true)(H:∀p xs bR,ao.names.lookup t=some .globalImplicit->ht t=true->k xs=true->G (.Call (.Name t p) xs [] bR)):G x:=
 zq h λf xs dm bR h=>f8 h λh0 ae af=>g0 (G:=λdm=>G (.Call f xs dm bR)) h0 (gJ (G:=λf=>G (.Call f xs [] bR)) ae λs p h=>by
  clear ae h0;refine eU (zr h) ?_;rintro rfl a b
  exact H p xs bR a b af)
@[elab_as_elim] theorem Jb{G:Expr->Prop}(h:Cq ao k x=true)(H:∀p bR a,ao.names.lookup ("range":Str)=some .globalImplicit->ht "range"=true->gc a=true->k a=true->G (.Call (.Name "range" p) [a] [] bR)):G x:=
 ux (G:=G) (h:mY ao "range" (λxs=>hs (λa=>gc a&&k a) xs) x=true) λp xs bR a b h=>ig (G:=λxs=>G (.Call (.Name "range" p) xs [] bR)) h λc h=>cq h λae af=>H p bR c a b ae af
@[elab_as_elim] theorem pg{G:Expr->Prop}(h:nV o k x=true)(H:∀l op r p,o op=true->k l r=true->G (.Compare l [op] [r] p)):G x:=
 Ry h λl nW rs p h=>cq h λae af=>ig (G:=λnW=>G (.Compare l nW rs p)) ae λop ae=>ig (G:=λrs=>G (.Compare l [op] rs p)) af λr af=>H l op r p ae af
@[elab_as_elim] theorem Jc{G:Expr->Prop}(h:Cr k x=true)(H:∀j hR p,k j=true->G (.Constant (.int j) hR p)):G x:=
 Dd h λc hR p h=>by cases c<;>first|exact b3 h|exact H _ hR p h
@[elab_as_elim] theorem Jd{G:Expr->Prop}(h:rO x=true)(H:∀hR p,G (.Constant .none hR p)):G x:=
 Dd h λc hR p h=>by cases c<;>first|exact H hR p|exact b3 h
theorem R0(q:Option NameKind)(h:(match q with|some .local=>true|some .cell=>true|some .free=>true|_=>false)=true):q=some .local\/q=some .cell\/q=some .free:=by
 cases q with
 |none=>exact b3 h
 |some k=>cases k<;>first|exact b3 h|exact .inl rfl|exact .inr (.inl rfl)|exact .inr (.inr rfl)
theorem Dn{ao:cR}(h:ao.var y s=true):y<ao.bV/\s=ao.nm y/\(ao.names.lookup s=some .local\/ao.names.lookup s=some .cell\/ao.names.lookup s=some .free)/\ht s=true:=by unfold cR.var at h;rw[Bool.and_eq_true,Bool.and_eq_true,Bool.and_eq_true]at h;refine bC h ?_;try clear h;intro dZ a0;refine bC dZ ?_;try clear dZ;rintro⟨ae,af⟩ ax;refine h5 (hQ ae) (iM af) ?_ a0;rw[<-wy];exact R0 (p7 s ao.names) ax
section
variable{n:Nat}{Y:List Env}{z:St}{O:Addr->Prop}{ao:cR}
variable{P:ca}{F:bT}{J:Env}
set_option tactic.hygienic true in
theorem R3(h:HE v c=true):bZ P F n Y J (.val v) (.Constant c k pos):=by
 intro C z;refine .quiet λA I Z s Q E x9 am aj aC=>?_;cases v
 case none=>
  cases c
  case none=>exact Constant_none (aC s.toks _ .none)
  all_goals exact b3 h
 case bool b=>
  cases c
  case bool d=>
   have:b=d:=by have h:vN b d=true:=h;rw[CV]at h;exact eq_of_beq h
   subst this;exact Constant_bool (aC s.toks _ (.bool b))
  all_goals exact b3 h
 case int i=>
  cases c
  case int j=>
   have:i=j:=by have h:eC i j=true:=h;rw[nZ]at h;exact of_decide_eq_true h
   subst this;exact wpAny_Constant_int (aC _ _ (.int i _))
  all_goals exact b3 h
 case str a=>
  cases c
  case str t=>
   have:ci a=t:=by have h:el a t.cps.toList=true:=h;rw[jV]at h;have:=of_decide_eq_true h;simp[ci,this]
   subst this;exact wpAny_Constant_str (aC _ _ (.str a _))
  all_goals exact b3 h
 all_goals exact b3 h
theorem R4(h:eC i (-j)=true):bZ P F n Y J (.val (.int i)) (.UnaryOp .USub (.Constant (.int j) k p) pos):=by intro C z;rw[nZ]at h;have:=of_decide_eq_true h;clear h;refine ab this ?_;exact .quiet λA I Z s Q E x9 am aj aC=>UnaryOp_ (wpAny_Constant_int (PyProof.Rows.neg_int (aC _ _ (.int _ _))))
theorem Je(aM:∀C z,az P F e C z= .ok v z)(aw:Reads s u)(ag:J.kindOf s=some .globalImplicit)(ar:ht s=true)(bA:∀I Z z h,bu I Z z h->Den I Z v u):
  bZ P F n Y J e (.Name s pos):=by
 intro C z;rw[aM];exact .quiet λA I Z st Q E x9 am aj aC=>wpAny_Name (aw _ _ _ _ _ _ aj.kind aj.glob aj.blt ag am.base (aC st.toks u (bA I Z z _ am))) (mu ar)
theorem Dp(ar:s=T.nm y)(ag:J.kindOf s=some .local\/J.kindOf s=some .cell\/J.kindOf s=some .free)(aq:ht s=true):bZ P F n Y J (.aa y) (.Name s pos):=by
 intro C z;refine(?_:bD aG bb n Y (bk J C) z _ (em (C y) z))
 cases bA:C y with
 |none=>exact .stuck
 |some v=>
  refine .quiet λA I Z st Q E x9 am F aC=>wpAny_Name ?_ (mu aq)
  have aB:∀{nm:Str},nm=s->(J.kindOf s=some .cell\/J.kindOf s=some .free)->∃c u,J.cells.lookup s=some c/\st.heap.IsCell c (some u)/\Den I Z v u:=λ{nm}x9 af=>by
   refine h4 (F.cell s af) ?_;intro c bN aB hS x9 x9 ak;refine a4 (ak y v ar.symm bA) ?_;rintro u rfl db;exact iw c u aB hS db
  rcases ag with ag|ag|ag
  ·refine a4 F.ns ?_;intro m cp ak;refine a4 (ak y v bA (ar▸ag)) ?_;intro u di db;exact wpAny_loadName_local F.kind ag cp (ar▸di) (aC st.toks u db)
  ·refine hp (aB rfl (.inl ag)) ?_;intro c u ae af db;exact wpAny_loadName_cell F.kind ag ae af (aC st.toks u db)
  ·refine hp (aB rfl (.inr ag)) ?_;intro c u ae af db;exact wpAny_loadName_free F.kind ag ae af (aC st.toks u db) (Ja aq)
theorem wA{k:Value->Value->aY Value}(ae:bZ P F n Y J bd l)(af:bZ P F n Y J bB r)
  (leaf:∀x y a b z,av aG bb n Y (dS x y a b) z (k a b) (g [x,y] z)) (C:aK) (z:St):
  av aG bb n Y (bk J C) z (aY.bind (bj (eval l J)) λa=>aY.bind (bj (eval r J)) λb=>k a b) ((de P F [bd,bB] C z).bind g):=by
 have:(de P F [bd,bB] C z).bind g=(az P F bd C z).bind λx z=>(az P F bB C z).bind λy z=>g [x,y] z:=by
  refine(?_:(((az P F bd C z).bind λv z=>(((az P F bB C z).bind λv z=>(Res.ok [] z).bind λvs z=> .ok (v::vs) z)).bind λvs z=> .ok (v::vs) z)).bind g=_)
  cases az P F bd C z with
  |ok x z=>refine(?_:(((az P F bB C z).bind λv z=>(Res.ok [] z).bind λvs z=>Res.ok (v::vs) z).bind λvs z=> .ok (x::vs) z).bind g=(az P F bB C z).bind λy z=>g [x,y] z);cases az P F bB C z<;>rfl
  |exc z=>rfl
  |stuck=>rfl
 refine ab this ?_;exact av.seq cJ (ae C z) λx σ' a=>av.seq (Goes.and cJ fd) ((af C σ').pre λx9 x9 x9 q=>q.1) λy fc b=>(leaf x y a b fc).pre λx9 x9 x9 q=>⟨q.1.2,q.2⟩
theorem R5(ae:bZ P F n Y J e l)
  (leaf:∀x a z,av aG bb n Y (m7 x a) z (k a) (g [x] z)) (C:aK) (z:St):
  av aG bb n Y (bk J C) z (aY.bind (bj (eval l J)) k) ((de P F [e] C z).bind g):=by
 have:(de P F [e] C z).bind g=(az P F e C z).bind λx z=>g [x] z:=by refine(?_:((az P F e C z).bind λv z=>(Res.ok [] z).bind λvs z=> .ok (v::vs) z).bind g=_);cases az P F e C z<;>rfl
 refine ab this ?_;exact av.seq cJ (ae C z) λx σ' a=>(leaf x a σ').pre λx9 x9 x9 q=>q.2
theorem R6(x y:V)(a b:Value):eu n Y (dS x y a b) z (binaryOp .Add a b) (bi .l5 [x,y] z):=
 qn (R:=λr=>eu n Y (dS x y a b) z (binaryOp .Add a b) r) .stuck λp aQ=>qn .stuck λq bx=>iG .stuck λar=>CY .stuck λv bU x9=>
  r8 (R1:=λx9 r=>eu n Y (dS x y a b) z (binaryOp .Add a b) r) (λx9=> .stuck) (λk=> .leaf And.left λA I Z s Q E aP aw aS am aj aC=>by
   rw[Bool.and_eq_true]at ar;refine fk (ko am aj.1 aQ) ?_;intro c vs cy aB ak ai;refine ab cy ?_;refine fk (ko am aj.2 bx) ?_;intro du gW cy gu wh hu;refine ab cy ?_;refine cL aB.qi ?_;intro c4 ae;refine cL gu.qi ?_;intro dg af;refine P.add_list ae af ?_ (by refine ab List.size_toArray (ab List.size_toArray (bM ak.length (bM wh.length (ab gG ?_))));have:=qr ai ar.1;have:=qr hu ar.2;lia)
   have zs:SeqAt (s.heap.push {cls:= .type "list",data:= .seq (vs.toArray++gW.toArray)}) s.heap.objs.size false (vs++gW):=⟨0,by
    rw[CZ]
    exact hJ _ rfl⟩
   exact aC I _ _ s.toks _ ((ee.freeze (b8 _) (am.freeze (b8 _) zs (et _ _)).2 (et _ _) (Nat.le_of_lt zs.lt)).fN.trans .pa) (am.freeze (b8 _) zs (et _ _)).1.pa (.aD (df rfl) ((ak.append wh).mono (.refl _) (am.freeze (b8 _) zs (et _ _)).2) (by refine ab List.length_append ?_;exact aP.2))) v
theorem R7(wB:∀C z,az P F (.bi b [bd,bB]) C z=(de P F [bd,bB] C z).bind λvs z=>Mine.Tactic.bi b vs z)(leaf:∀x y a c z,eu n Y (dS x y a c) z (binaryOp op a c) (Mine.Tactic.bi b [x,y] z))(ae:bZ P F n Y J bd l)(af:bZ P F n Y J bB r):
  eQ P F n Y J (.bi b [bd,bB]) (.BinOp l op r pos):=by
 refine f1 (λC z=>?_) rfl;rw[wB];exact(wA (k:=λa b=>bj (binaryOp op a b)) ae af (λx y a c z=>leaf x y a c z) C z).tree λA s Q E q=>wpAny_BinOp q
theorem Dq(h:fL r=true):behindInMarks op r=false:=by cases r<;>first|rfl|exact b3 h
theorem R8(wB:∀C z,az P F (.bi b [bd,bB]) C z=(de P F [bd,bB] C z).bind λvs z=>Mine.Tactic.bi b vs z)(leaf:∀x y a c z,bD aG bb n Y (dS x y a c) z (compareOp op a c) (Mine.Tactic.bi b [x,y] z))(aq:fL r=true)(ae:bZ P F n Y J bd l)(af:bZ P F n Y J bB r):
  eQ P F n Y J (.bi b [bd,bB]) (.Compare l [op] [r] pos):=by
 have kV:∀C z,av aG bb n Y (bk J C) z (aY.bind (bj (eval l J)) λa=>aY.bind (bj (eval r J)) λc=>bj (compareOp op a c)) (az P F (.bi b [bd,bB]) C z):=λC z=>by
  rw[wB];exact wA ae af (λx y a c z=>leaf x y a c z) C z
 exact⟨λC z=>(kV C z).tree λA s Q E q=>wpAny_Compare1 q (Dq aq),Dj _ kV λA s Q E q=>wpAny_isTrue_Compare1 q (Dq aq)⟩
theorem Sa(wB:∀C z,az P F (.bi b [e]) C z=(de P F [e] C z).bind λvs z=>Mine.Tactic.bi b vs z)(leaf:∀x a z,bD aG bb n Y (m7 x a) z (compareOp op a .none) (Mine.Tactic.bi b [x] z))(aw:rO r=true)(ae:bZ P F n Y J e l):
  eQ P F n Y J (.bi b [e]) (.Compare l [op] [r] pos):=Jd (G:=λr=>eQ P F n Y J (.bi b [e]) (.Compare l [op] [r] pos)) aw λk p=>by
 have kV:∀C z,av aG bb n Y (bk J C) z (aY.bind (bj (eval l J)) λa=>bj (compareOp op a .none)) (az P F (.bi b [e]) C z):=λC z=>by
  rw[wB];exact R5 ae (λx a z=>leaf x a z) C z
 have ai:∀op,behindInMarks op (.Constant .none k p)=false:=λop=>Dq rfl;refine⟨λC z=>(kV C z).tree λA s Q E q=>wpAny_Compare1 (cd q (λa s' h'=>Constant_none h') λx9 x9 aE=>aE) (ai op),Dj _ kV λA s Q E q=>wpAny_isTrue_Compare1 (cd q (λa s' h'=>Constant_none ?_) λx9 x9 aE=>aE) (ai op)⟩;exact h'
end
section
variable{n:Nat}{Y:List Env}{z:St}{O:Addr->Prop}{ao:cR}
variable{P:ca}{F:bT}{J:Env}
theorem wC(h:vZ o=true):attributeBase o s J (eval o J)=eval o J:=by
 cases o with
 |Call f a k p=>cases a with
  |nil=>exact b3 h
  |cons x r=>cases f<;>rfl
 |_=>rfl
theorem Sb(X:K.In B)(eW:∀c,ju (T.e2 c))(h:bZ P F n Y J e o)(ar:s=T.nm a)(ai:vZ o=true):bZ P F n Y J (.au e a) (.Attribute o s pos):=by intro C z;refine ab ar ?_;refine(av.seq (f:=λu=>bj (getAttr u (T.nm a) true)) cJ (h C z) λx σ' u=>(IR X eW x u a true).pre λx9 x9 x9 q=>q.2).tree λA s Q E q=>?_;rw[arm_eval_Attribute,wC ai];exact aV (cd q (λu s' h'=>aV (ha (aV (hI (cd h' (λr cC af=>aV (wpAny_letTemporaryGo (bQ af))) λx9 x9 aE=>aE))))) λx9 x9 aE=>aE)
theorem Sd(ar:Sys B)(aq:rH i=true)(ae:bZ P F n Y J bd o)(af:bZ P F n Y J bB i):bZ P F n Y J (.bi .idx [bd,bB]) (.Subscript o i pos):=by intro C z;exact(wA (k:=λa b=>bj (subscriptTail o i a b)) (g:=λvs z=>Mine.Tactic.bi .idx vs z) ae af (λx y a b z=>QR ar x y a b aq) C z).tree λA s Q E q=>Subscript_ q
theorem Se{E:cc}
  (h:wpAny (model prog w) A (eval value J) (λo cr=>wpAny (model prog w) A (eval lower J) (λlC bE=>∃l items lo,o= .ref l/\bE.heap.IsList l items/\items.size<=sizeLine/\IsPart lC lo/\
    Q (.ref (bE.heap.objs.size+1)) {bE with heap:=(bE.heap.push {cls:= .type "slice",data:= .fields #[lC, .none, .none]}).push {cls:= .type "list",data:= .seq (slicePick items lo none none)}}) E cr) E s):
  wpAny (model prog w) A (eval (.Subscript value (.Slice (some lower) none none p) pos) J) Q E s:=by
 refine aV (cd h (λo cr bO=>aV (hI (wpAny_Slice (cd bO (λlC bE c2=>bQ (bQ (aV (ha ?_)))) λx9 x9 x=>x)))) λx9 x9 x=>x);clear bO cr h pos s;refine tH c2 ?_;try clear c2;intro l items lo cy ak cW mv aC;refine ab cy ?_;have fO:(({bE with heap:=bE.heap.push {cls:= .type "slice",data:= .fields #[lC, .none, .none]}}:Shared)).TypeIs (.ref l) "list":=(ak.push _).typeIs
 have g:wpAny (model prog w) A (getItem (.ref l) (.ref bE.heap.objs.size)) Q E {bE with heap:=bE.heap.push {cls:= .type "slice",data:= .fields #[lC, .none, .none]}}:=by refine wpAny_getItem_list_slice (ak.push _) (Heap.IsSliceOf.new ..) mv .none .none (by trivial) ?_ cW;rw[Heap.size_push];exact aC
 have fin:wpAny (model prog w) A (operate [.ref bE.heap.objs.size, .ref l] (getItem (.ref l) (.ref bE.heap.objs.size))) (λr ej=>wpAny (model prog w) A (letTemporaryGo value (.ref l) r>>=λx9=>pure r) Q E ej) E {bE with heap:=bE.heap.push {cls:= .type "slice",data:= .fields #[lC, .none, .none]}}:=
  wpAny_operating (cd g (λr ej dQ=>aV (wpAny_letTemporaryGo (bQ dQ))) λx9 x9 x=>x)
 first
  |(refine aV ?_
    refine aV (wpAny_specialOf fO list_getitem_lookup ?_)
    first
     |exact bQ (aV fin)
     |exact aV (bQ (aV fin))
     |exact aV fin)
abbrev rq(a b:Value):aY Value:=λx9 Q x9 bE=>∃l items lo,a= .ref l/\bE.heap.IsList l items/\items.size<=sizeLine/\IsPart b lo/\
    Q (.ref (bE.heap.objs.size+1)) {bE with heap:=(bE.heap.push {cls:= .type "slice",data:= .fields #[b, .none, .none]}).push {cls:= .type "list",data:= .seq (slicePick items lo none none)}}
abbrev Dr(a b:Value):aY Value:=λx9 Q x9 bE=>∃l items lo,a= .ref l/\bE.heap.IsList l items/\items.size<=sizeLine/\IsPart b lo/\
    Q (.ref (bE.heap.objs.size+1)) {bE with heap:=(bE.heap.push {cls:= .type "slice",data:= .fields #[.none,b, .none]}).push {cls:= .type "list",data:= .seq (slicePick items none lo none)}}
theorem Jf(am:bu I Z z h)(ak:bn I Z l vs)(gI:l.length<=b):
  ∃Z',bu I Z' z ((h.push o).push {cls:= .type "list",data:= .seq vs.toArray})/\cw Y aG I Z z h I Z' z ((h.push o).push {cls:= .type "list",data:= .seq vs.toArray})/\Den I Z' (.aD b l) (.ref (h.objs.size+1)):=by
 have ag:∀b x,h.get? b=some x->((h.push o).push {cls:= .type "list",data:= .seq vs.toArray}).get? b=some x:=λb x e=>et _ _ b x (et _ _ b x e);have Sf:h.objs.size<=((h.push o).push {cls:= .type "list",data:= .seq vs.toArray}).objs.size:=by rw[Heap.size_push,Heap.size_push];exact Nat.le_add_right _ 2
 have eP:=hJ (h.push o) (o:={cls:= .type "list",data:= .seq vs.toArray}) rfl;rw[Heap.size_push]at eP;have ii:SeqAt ((h.push o).push {cls:= .type "list",data:= .seq vs.toArray}) (h.objs.size+1) false vs:=⟨0,eP⟩;exact fW _ (am.freeze (gP _) ii ag).1 ((ee.freeze (gP _) (am.freeze (gP _) ii ag).2 ag Sf).fN) (.aD (df rfl) (ak.mono (.refl _) (am.freeze (gP _) ii ag).2) gI)
theorem Sg{s:Shared}{Q:cc}(am:bu I Z z s.heap)(ak:bn I Z l vs)(gI:l.length<=b)
  (aC:∀κ' Z' h' aR a,cw Y aG I Z z s.heap κ' Z' ({z with orc:=bU}.say p) h'->bu κ' Z' ({z with orc:=bU}.say p) h'->Den κ' Z' (.aD b l) a->Q a {s with heap:=h',toks:=aR}):
  Q (.ref (s.heap.objs.size+1)) {s with heap:=(s.heap.push o).push {cls:= .type "list",data:= .seq vs.toArray}}:=by
 refine fV (Jf (Y:=Y) (o:=o) am ak gI) ?_;intro Z' bW x d;exact aC I Z' _ s.toks _ (x.trans .pa) bW.pa d
theorem Sh{s:Shared}{Q:cc}(am:bu I Z z s.heap)(ak:bn I Z l vs)(gI:l.length<=b)
  (aC:∀κ' Z' h' aR a,cw Y aG I Z z s.heap κ' Z' z h'->bu κ' Z' z h'->Den κ' Z' (.aD b l) a->Q a {s with heap:=h',toks:=aR}):
  Q (.ref (s.heap.objs.size+1)) {s with heap:=(s.heap.push o).push {cls:= .type "list",data:= .seq vs.toArray}}:=by
 refine fV (Jf (Y:=Y) (o:=o) am ak gI) ?_;intro Z' bW x d;exact aC I Z' _ s.toks _ x bW d
theorem Si(ae:bZ P F n Y J bd o)(af:bZ P F n Y J bB l):bZ P F n Y J (.bi .rp [bd,bB]) (.Subscript o (.Slice (some l) none none p) pos):=by
 intro C z;refine(wA (k:=rq) (g:=λvs z=>Mine.Tactic.bi .rp vs z) ae af (λx y a b z=>?_) C z).tree λA s Q E q=>Se q
 refine wg (R1:=λx r=>av aG bb n Y (dS x y a b) z (rq a b) r) (λx9=> .stuck) (λq m=>m6 (R1:=λy r=>av aG bb n Y (dS (.aD q m) y a b) z (rq a b) r) (λx9=> .stuck) (λk=>iG .stuck λdT=>CY .stuck λv bU x9=>
  wg (R1:=λx9 r=>av aG bb n Y (dS (.aD q m) (.int k) a b) z (rq a b) r) (λx9=> .stuck) (λcV e5=> .leaf And.left λA I Z s Q E aP aw aS am aj aC=>?_) v) y) x
 refine fV aP.2 ?_;rintro j rfl rfl gI;refine bC aj ?_;try clear aj;intro Ds Dt;refine Ds.v6 λlA vs hz ak ai=>Dt.fb λt=>?_;refine vK _ _ (some (j:Int)) rfl (am.frz _ _ _ hz).isList (by refine ab List.size_toArray (bM ak.length (ab gG ?_));have:=qr ai dT;lia) (.int _ _) ?_;rw[slicePick_from',show(vs.toArray.toList.drop j).toArray=(vs.drop j).toArray by simp];exact Sg am (ak.drop j) gI aC
theorem Sj{E:cc}
  (h:wpAny (model prog w) A (eval value J) (λo cr=>wpAny (model prog w) A (eval upper J) (λlC bE=>∃l items lo,o= .ref l/\bE.heap.IsList l items/\items.size<=sizeLine/\IsPart lC lo/\
    Q (.ref (bE.heap.objs.size+1)) {bE with heap:=(bE.heap.push {cls:= .type "slice",data:= .fields #[.none,lC, .none]}).push {cls:= .type "list",data:= .seq (slicePick items none lo none)}}) E cr) E s):
  wpAny (model prog w) A (eval (.Subscript value (.Slice none (some upper) none p) pos) J) Q E s:=by
 refine aV (cd h (λo cr bO=>aV (hI (wpAny_Slice (bQ (cd bO (λlC bE c2=>bQ (aV (ha ?_))) λx9 x9 x=>x))))) λx9 x9 x=>x);clear bO cr h pos s;refine tH c2 ?_;try clear c2;intro l items lo cy ak cW mv aC;refine ab cy ?_;have fO:(({bE with heap:=bE.heap.push {cls:= .type "slice",data:= .fields #[.none,lC, .none]}}:Shared)).TypeIs (.ref l) "list":=(ak.push _).typeIs
 have g:wpAny (model prog w) A (getItem (.ref l) (.ref bE.heap.objs.size)) Q E {bE with heap:=bE.heap.push {cls:= .type "slice",data:= .fields #[.none,lC, .none]}}:=by refine wpAny_getItem_list_slice (ak.push _) (Heap.IsSliceOf.new ..) .none mv .none (by trivial) ?_ cW;rw[Heap.size_push];exact aC
 have fin:wpAny (model prog w) A (operate [.ref bE.heap.objs.size, .ref l] (getItem (.ref l) (.ref bE.heap.objs.size))) (λr ej=>wpAny (model prog w) A (letTemporaryGo value (.ref l) r>>=λx9=>pure r) Q E ej) E {bE with heap:=bE.heap.push {cls:= .type "slice",data:= .fields #[.none,lC, .none]}}:=
  wpAny_operating (cd g (λr ej dQ=>aV (wpAny_letTemporaryGo (bQ dQ))) λx9 x9 x=>x)
 first
  |(refine aV ?_
    refine aV (wpAny_specialOf fO list_getitem_lookup ?_)
    first
     |exact bQ (aV fin)
     |exact aV (bQ (aV fin))
     |exact aV fin)
theorem Sk(ae:bZ P F n Y J bd o)(af:bZ P F n Y J bB l):bZ P F n Y J (.bi .rr [bd,bB]) (.Subscript o (.Slice none (some l) none p) pos):=by intro C z;refine(wA (k:=Dr) (g:=λvs z=>Mine.Tactic.bi .rr vs z) ae af (λx y a b z=>?_) C z).tree λA s Q E q=>Sj q;refine wg (R1:=λx r=>av aG bb n Y (dS x y a b) z (Dr a b) r) (λx9=> .stuck) (λq m=>r8 (R1:=λy r=>av aG bb n Y (dS (.aD q m) y a b) z (Dr a b) r) (λx9=> .stuck) (λj=>iG .stuck λdT=> .leaf id λA I Z s Q E aP aw aS am aj aC=>?_) y) x;refine bC aj ?_;try clear aj;intro Ds Dt;refine Ds.v6 λlA vs hz ak ai=>Dt.fb λt=>?_;refine vK _ _ (some (j:Int)) rfl (am.frz _ _ _ hz).isList (by refine ab List.size_toArray (bM ak.length (ab gG ?_));have:=qr ai dT;lia) (.int _ _) ?_;rw[slicePick_upto',show(vs.toArray.toList.take j).toArray=(vs.take j).toArray by simp];exact Sh am (ak.take j) (by refine ab List.length_take ?_;lia) aC
end
section
variable{n:Nat}{Y:List Env}{z:St}{O:Addr->Prop}{ao:cR}
variable{P:ca}{F:bT}{J:Env}
theorem Sl{E:cc}(ak:IsL s.heap l items k)(Jg: -(2^63:Int)<=x)(ad3:x<2^63)(cW:items.size*x.toNat<=2^24)
  (h:Q (.ref s.heap.objs.size) {s with heap:=s.heap.push {cls:= .type "list",data:= .seq (List.foldl (λgT e3=>gT++e3) #[] (List.replicate (if items.isEmpty=true then 0 else x.toNat) items))}}):
  wpAny (model prog w) A (binaryOp .Mult (.ref l) (.int x u)) Q E s:=
 wpAny_binaryOp_repeat_ref (T:="list") (U:="int") (by decide) ⟨_,ak,rfl⟩ (λs'=>typeIs_int s' x u) noFill_list_mul F.fills_int_mul F.slot_int_rmul repeat_list F.slot_int_index.lookup
  (call_meets F.slot_int_rmul (typeIs_int s x u) F.entry_int_rmul (F.args_int_rmul_2 _ _) (int___rmul___int_list x u l items k)
   ⟨ak,rfl,⟨_,ak,rfl⟩,call_meets F.slot_list_mul ⟨_,ak,rfl⟩ F.entry_list_mul (F.args_list_mul_2 _ _)
    (AutoListH.list___mul___list_int_3 l items k x u (by simp[Builtin.List.listFitsIndex];lia) (by lia) (by simp[Builtin.List.listTooLong,sizeLine];assumption))
    ⟨ak,h⟩⟩)
theorem Sm(ae:bZ P F n Y J e l)(ph:gc l=true)(af:bZ P F n Y J k r):bZ P F n Y J (.rep e k) (.BinOp (.List [l] p) .Mult r pos):=by
 intro C z
 refine(?_:bD aG bb n Y (bk J C) z _ ((az P F e C z).bind λv z=>(az P F k C z).bind λdY z=>match dY with
   | .int (.ofNat 1)=> .ok (.aD 1 [v]) z
   | .int (.ofNat 2)=> .ok (.aD 2 [v,v]) z
   |_=> .stuck))
 refine(av.seq (t:=bj (eval l J)) (f:=λa A Q E s=>(λc=>aY.bind (bj (eval r J)) λb=>bj (binaryOp .Mult (.ref c) b)) s.heap.objs.size A Q E {s with heap:=s.heap.push {cls:= .type "list",data:= .seq [a].toArray}})
  cJ (ae C z) λv σ' a=>?_).tree λA s Q E q=>?_
 ·refine av.push (o:={cls:= .type "list",data:= .seq [a].toArray}) (W:=λc=>aY.bind (bj (eval r J)) λb=>bj (binaryOp .Mult (.ref c) b)) rfl (Goes.and cJ fd) λc=>?_
  have bw:Goes Y aG (λz I Z h=>(bk J C z I Z h/\bb z I Z h v a)/\d1 Y c I Z z h/\h.get? c=some {cls:= .type "list",data:= .seq [a].toArray}) (λz I Z h=>bb z I Z h v a/\h.get? c=some {cls:= .type "list",data:= .seq [a].toArray}):=
   ⟨λx y=>⟨fd.out x y.1.2,y.2.1.get x id y.2.2⟩⟩
  refine av.dv (O₁:=aG) (λx9 q=>q.elim) bw ((af C σ').pre λx9 x9 x9 q=>q.1.1) λdY fc b=>?_
  have iI:∀(j:Nat)(vs:List V),dY= .int (Int.ofNat j)->(∀I Z,Den I Z v a->bn I Z vs (List.replicate j a))->vs.length=j->1<=j->j<=2->av (λb=>b=c) bb n Y (λz I Z h=>(bb z I Z h v a/\h.get? c=some {cls:= .type "list",data:= .seq [a].toArray})/\bb z I Z h dY b) fc (bj (binaryOp .Mult (.ref c) b)) (.ok (.aD j vs) fc):=by
   intro j vs wD Du eh Sn So;refine ab wD ?_;refine(av.made λA I Z s Q E aw am aj aC=>?_).wide λx9 q=>q.elim;refine bC aj ?_;try clear aj;intro dZ gZ;refine bC dZ ?_;try clear dZ;intro ng aB
   cases gZ with|int be t=>
   refine Sl (k:=0) aB (by refine(?_: -(2^63:Int)<=(j:Int));lia) (by refine(?_:(j:Int)<2^63);lia) (by simp;lia) ?_
   have jX:(List.foldl (λgT e3=>gT++e3) #[] (List.replicate (if([a].toArray).isEmpty=true then 0 else(Int.ofNat j).toNat) [a].toArray))=(List.replicate j a).toArray:=by
    have:j=1\/j=2:=by lia
    clear am aw So Sn wD
    rcases this with rfl|rfl<;>simp[List.replicate]
   refine ab jX ?_;exact aC _ s.toks _ (List.replicate j a) (b8 _) (et _ _) ⟨0,hJ _ rfl⟩ (Du I Z ng) (fr eh)
  cases dY with
  |int i=>
   match i with
   | .ofNat 1=>exact iI 1 [v] rfl (λI Z d=> .cons d .nil) rfl (by lia) (by lia)
   | .ofNat 2=>exact iI 2 [v,v] rfl (λI Z d=> .cons d (.cons d .nil)) rfl (by lia) (by lia)
   | .ofNat 0=>exact .stuck
   | .ofNat (k+3)=>exact .stuck
   | .negSucc k=>exact .stuck
  |_=>exact .stuck
 ·refine wpAny_BinOp (wpAny_List ?_);refine wpAny_items_cons (cd q (λa s' h'=>wpAny_items_nil ⟨by simp[sizeLine_eq],h'⟩) λx9 x9 aE=>aE) (I7 ph)
end
theorem zt(r:Runs M hx p t Y s e s'):s.heap.objs.size<=s'.heap.objs.size:=by
 induction r with
 |done|raise|yield=>exact b8 _
 |again _ _ ih|rule _ ih|«at» _ ih|load _ _ ih|loadIfAlive _ ih|point _ ih|fresh _ ih|ask _ ih|choose _ _ ih|os _ ih|handled _ ih|genState _ _ ih|stack _ ih|thread _ ih|newGen be ih=>exact ih
 |resumeJustStarted _ _ _ ih|resumeThrowFresh _ _ ih|resumeRunning _ _ ih|resumeFinished be cm ih=>exact ih
 |update be cm ih=>refine ct (fr ?_) ih;exact(Heap.size_update _ _ _).symm
 |alloc be ih=>refine ct ?_ ih;rw[Heap.size_push];exact gP _
 |call be cm gi hl=>exact ct gi hl
 |callSusp be ih=>exact ih
 |resumeFresh be cm i5 jU gi hl=>exact ct gi hl
 |resumeSuspended be cm i5 jU gi hl=>exact ct gi hl
 |segRet be cm gi hl=>exact ct gi hl
 |segGen be cm gi hl=>exact ct gi hl
 |segSuspOut be cm ih=>exact ih
 |segSuspGen be cm i5 jU gi hl=>exact ct gi hl
theorem Sp(h:Wakes M hx p g r s res s'):s.heap.objs.size<=s'.heap.objs.size:=by
 revert hx p r s' h;revert M g s res;refine@(P7 P2 ne ug ne ?M9 ?g9 ?s9 ?res9 ?_ ?_)
 rotate_left 4
 (
 intro hx p r s' h;unfold Wakes at h
 cases bw:(?s9).gens[?g9]?with
 |none=>simp only[bw]at h
 |some h8=>
  simp only[bw]at h
  cases h8 with
  |fresh c=>
   cases r with
   |send v=>
    cases v with
    |none=>(refine fk h ?_;try clear h;rintro Sq cr bO _ _ rfl);have:=zt bO;exact this
    |_=>(refine bC h ?_;try clear h;rintro _ rfl);exact b8 _
   |throw x=>(refine bC h ?_;try clear h;rintro _ rfl);exact b8 _
  |suspended ad4 ad5 ad6 ad7 Y Jh=>(refine fk h ?_;try clear h;rintro Sq cr bO _ _ rfl);have:=zt bO;exact this
  |running=>(refine bC h ?_;try clear h;rintro _ rfl);exact b8 _
  |finished=>(refine bC h ?_;try clear h;rintro _ rfl);exact b8 _)
 rfl
theorem Sr(t:Sem X){Q:X->Pos->Shared->Prop}{E:Value->Pos->Shared->Prop}(aq:n<=s.heap.objs.size)(h:Sem.wp M hx t Q E p s):
  Sem.wp M hx t (λa qy s'=>Q a qy s'/\n<=s'.heap.objs.size) (λe qy s'=>E e qy s'/\n<=s'.heap.objs.size) p s:=by
 induction t generalizing p s with
 |pure x=>exact⟨h,aq⟩
 |raise v=>exact⟨h,aq⟩
 |unsupported|finish|yield|fork|await|register=>exact h
 |rule _ k ih|«at» _ k ih|loadIfAlive _ k ih|point _ k ih|fresh k ih|ask k ih|os _ _ k ih|handled _ k ih|newGen _ k ih|stack k ih|thread k ih=>exact ih _ aq h
 |alloc o k ih=>exact ih _ (by refine(?_:_<=(Heap.push _ _).objs.size);rw[Heap.size_push];exact Nat.le_succ_of_le aq) h
 |load a _ k ih|genState a k ih=>exact a4 h λo as h=>(bq o as (ih _ aq h))
 |update a be f k ih=>exact⟨h.1,ih _ (by refine(?_:_<=(Heap.update _ _ _).objs.size);rw[Heap.size_update];exact aq) h.2⟩
 |choose be cm k ih=>exact⟨h.1,ih _ aq h.2⟩
 |call c hm g l k ih=>(refine cS h ?_;try clear h;intro r s' aw h);exact eK r s' aw (ih _ (ct aq (zt aw)) h)
 |resume g r l k ih=>(refine cS h ?_;try clear h;intro res s' hw h);exact eK res s' hw (ih _ (ct aq (Sp hw)) h)
theorem lD{t:Sem X}{Q:X->Shared->Prop}{E:cc}(h:wpAny M A t (λa s'=>s.heap.objs.size<=s'.heap.objs.size->Q a s') (λe s'=>s.heap.objs.size<=s'.heap.objs.size->E e s') s):wpAny M A t Q E s:=
 λhx p qz=>Sem.wp_mono M hx t (λx9 x9 x9 x=>x.1 x.2) (λx9 x9 x9 x=>x.1 x.2) p s (Sr t (b8 _) (h hx p qz))
theorem zu(h:codeAny M A c (λr s'=>s.heap.objs.size<=s'.heap.objs.size->R r s') s):codeAny M A c R s:=
 λhx p e b=>cS (h hx p e b) λr s' aw h=>(eK r s' aw (h (zt aw)))
inductive Src where
 |seq (t:Bool) (l:List V)
 |live (id:Nat)
 |ff (n:Nat)
 |jb (id:Nat)
noncomputable def Src.ctorIdx(v:Src):Nat:= @Src.casesOn (λx9=>Nat) v (λx9 x9=>0) (λx9=>1) (λx9=>2) (λx9=>3)
def ni(I:bX)(Z:bY)(c:Addr):Src->Prop
 | .seq t l=>∃vs,Z c=some (t,vs)/\bn I Z l vs
 | .live id=>I id=some (c,c)
 | .ff _=>True
 | .jb id=>I id=some (c,c)
noncomputable def jc(z:St)(j:Nat):Src->Option (Option V)
 | .seq _ l=>some l[j]?
 | .live id=>match z.heap id with
  |some (.list _ l)=>some l[j]?
  |_=>none
 | .ff n=>some (match Nat.blt j n with|true=>some (.int (.ofNat j))|false=>none)
 | .jb id=>match z.heap id with
  |some (.ba _ [])=>match j with
   |0=>some none
   |_=>none
  |_=>none
noncomputable def jx(h:Heap)(it c:Addr)(j:Nat):Src->Prop
 | .seq false _=>h.IsListIter it c j
 | .seq true _=>h.IsTupleIter it c j
 | .live _=>h.IsListIter it c j
 | .ff n=>IsRangeIter h it j ((n:Int)-j) 1
 | .jb _=>∃ds ah ep,h.get? c=some ds/\ds.data= .dict ah ep/\(j=0->h.IsKeyIter it c 0 0 ep)
theorem ni.mono(x:ni I Z c s)(ag:he I κ')(hz:hg Z Z'):ni κ' Z' c s:=by
 cases s with
 |seq t l=>(refine a4 x ?_;try clear x;intro vs ae af);exact bq vs (hz _ _ ae) (af.mono ag hz)
 |live id=>exact ag _ _ x
 |ff n=>trivial
 |jb id=>exact ag _ _ x
noncomputable def noDict:Src->Bool
 | .jb _=>false
 |_=>true
theorem jx.of(x:jx h it c j src)(ar:noDict src=true)(e:∀o,h.get? it=some o->h'.get? it=some o):jx h' it c j src:=by
 cases src with
 |seq t l=>cases t<;>exact a4 x λo as r=>(bq o (e o as) r)
 |live id=>exact a4 x λo as r=>(bq o (e o as) r)
 |ff n=>exact e _ x
 |jb id=>exact b3 ar
section
variable{n:Nat}{Y:List Env}{z:St}{I:bX}{Z:bY}{h:Heap}
theorem SeqAt.uy(x:SeqAt h a true vs):h.IsTuple a vs.toArray:=cL x λn as=>⟨_,as,rfl,n,rfl⟩
abbrev Dv(it c:Addr)(j:Nat)(src:Src):eg (Option Value) (Option V):=λx9 I Z h o u=>match o,u with
 |none,none=>True
 |some v,some x=>Den I Z v x/\jx h it c (j+1) src
 |_,_=>False
theorem bu.gK{R:bu I Z z h}{h':Heap}{it:Addr}(N:d1 Y it I Z z h)(ag:∀b dc,b≠it->h.get? b=some dc->h'.get? b=some dc)(ar:h.objs.size<=h'.objs.size):
  bu I Z z h'/\cw Y (λb=>b=it) I Z z h I Z z h':=by
 refine⟨⟨λb o e=>ag b o (λq=>by rw[q,N.base]at e;exact ns e) (R.base b o e),λb t vs e=>?_,λid o e=>?_,R.apart,R.out,R.fresh,R.gl,R.sys,R.low⟩,⟨.refl _, .refl _,λb o e cG no=> .of_eq (ag b o no e),λb f=> .inl f,λb aE=> .inl aE,ar⟩⟩
 ·refine cL (R.frz b t vs e) ?_;intro m aJ;exact⟨m,ag b _ (λq=>by rw[q,N.zet]at e;exact ns e) aJ⟩
 ·refine cS (R.obj id o e) ?_;intro a d ae x;refine bC x.there ?_;rintro⟨CP,qt⟩ ⟨ds,gh⟩;have r3:a≠it:=λq=>N.foot (q▸(ix id a d (by rw[e];simp) ae (.inl rfl)));have nd:d≠it:=λq=>N.foot (q▸(ix id a d (by rw[e];simp) ae (.inr rfl)));exact eK a d ae (x.same ((ag _ _ r3 qt).trans qt.symm) ((ag _ _ nd gh).trans gh.symm))
theorem eG.gK{O:Addr->Prop}(S:eG I z A Y h)(x:cw Y O I Z z h κ' Z' σ' h')(iK:∀b,O b->¬qk Y b):eG κ' σ' A Y h':=
 S.ext x λJ aM L m hf aJ=>⟨m,ql aJ λo as=>x.keep _ _ as (by
  obtain⟨_,uj,_,r4,_,_,cG⟩:=S.funs J aM
  obtain rfl:=a8 ((hf).symm.trans r4);exact cG) λq=>iK L q (bq J aM hf)⟩
theorem Ss{s:Shared}{Q:Option Value->Shared->Prop}{E:cc}{it c:Addr}{src:Src}{o:Option V}(aw:A.handled=none)(R:bu I Z z s.heap)(aB:ni I Z c src)(aW:jx s.heap it c j src)(aq:jc z j src=some o)
  (aC:∀h' aR u,(∀b dc,b≠it->s.heap.get? b=some dc->h'.get? b=some dc)->s.heap.objs.size<=h'.objs.size->Dv it c j src z I Z h' o u->Q u {s with heap:=h',toks:=aR}):
  wpAny (model prog w) A (pyNext (.ref it)) Q E s:=by
 revert j src o aw R aB aW aq aC;revert z I Z A s Q E it c;refine@(CM hc ne ne m2 ug ne ne ne ne ?σ9 ?κ9 ?Z9 ?A9 ?s9 ?Q9 ?E9 ?it9 ?c9 ?_ ?_)
 rotate_left 9
 (
 intro j src o aw R aB aW aq aC
 have lists:∀{vs:List Value}{l:List V},(?s9).heap.IsListIter ?it9 ?c9 j->SeqAt (?s9).heap ?c9 false vs->bn ?κ9 ?Z9 l vs->o=l[j]?->(∀(dp:Heap),dp.IsListIter ?it9 ?c9 (j+1)->jx dp ?it9 ?c9 (j+1) src)->wpAny (model prog w) ?A9 (pyNext (.ref ?it9)) ?Q9 ?E9 ?s9:=by
  intro vs l aW aB ak as wF
  cases bA:l[j]?with
  |none=>
   replace as:=as.trans bA;subst as
   have:vs.toArray[j]?=none:=by rw[List.getElem?_toArray,List.getElem?_eq_none_iff,<-ak.length];exact List.getElem?_eq_none_iff.mp bA
   exact lD (cd (wpAny_pyNext_list_end aw aW aB.isList this λh' aM hz=>aC h' (?s9).toks none aM hz trivial) (λx9 x9 x=>x) λx9 x9 x=>x)
  |some v=>rw[bA]at as;subst as;refine a4 (ak.get bA) ?_;intro x aQ kU;exact wpAny_pyNext_list_item aW aB.isList (by simpa using aQ) λh' kk eP=>aC h' (?s9).toks (some x) eP.extBut (fr eP.1.symm) ⟨kU,wF _ kk⟩
 cases src with
 |seq t l=>
  refine a4 aB ?_;try clear aB;intro vs hz ak;have ii:=R.frz _ _ _ hz;have as:o=l[j]?:=(a8 aq).symm
  cases t with
  |false=>exact lists aW ii ak as λx9 x=>x
  |true=>
   cases bA:l[j]?with
   |none=>
    replace as:=as.trans bA;subst as
    have:vs.toArray[j]?=none:=by rw[List.getElem?_toArray,List.getElem?_eq_none_iff,<-ak.length];exact List.getElem?_eq_none_iff.mp bA
    exact lD (wpAny_pyNext_tuple_end aw aW ii.uy this λh' aM hz=>aC h' (?s9).toks none aM hz trivial)
   |some v=>rw[bA]at as;subst as;refine a4 (ak.get bA) ?_;intro x aQ kU;exact wpAny_pyNext_tuple_item aW ii.uy (by simpa using aQ) λh' kk eP=>aC h' (?s9).toks (some x) eP.extBut (fr eP.1.symm) ⟨kU,kk⟩
 |live id=>
  dsimp only[jc]at aq
  cases as:(?σ9).heap id with
  |none=>replace aq:=as▸aq;exact ns aq
  |some dc=>
   rw[as]at aq
   cases dc with
   |list b l=>obtain⟨a,d,ag,e,vs,ii,ak,_⟩:=R.obj id _ as;have aB:?κ9 id=some (?c9,?c9):=aB;replace ag:=(aB).symm.trans ag;(refine bC (fi (a8 ag)) ?_;rintro rfl rfl);exact lists aW ii ak (a8 aq).symm λx9 x=>x
   |_=>exact ns aq
 |ff k=>
  have aW:IsRangeIter (?s9).heap ?it9 j ((k:Int)-j) 1:=aW;have aq:some (match Nat.blt j k with|true=>some (V.int (.ofNat j))|false=>none)=some o:=aq
  cases ai:Nat.blt j k with
  |true=>
   rw[ai]at aq;cases aq;have:=hQ ai;refine wpAny_pyNext_range_item aW (by lia) λh' kk eP=>aC h' _ (some _) eP.extBut (fr eP.1.symm) ⟨.int _ _,?_⟩;refine(?_:IsRangeIter h' ?it9 ((j+1:Nat):Int) ((k:Int)-((j+1:Nat):Int)) 1);have e:(k:Int)-((j+1:Nat):Int)=(k:Int)-j-1:=by lia
   refine ab e ?_;exact kk
  |false=>
   rw[ai]at aq;cases aq
   have:k<=j:=by
    rcases Nat.lt_or_ge j k with q|q
    ·have:Nat.blt j k=true:=gn q;replace this:=(ai).symm.trans this;exact b3 this
    ·exact q
   exact lD (wpAny_pyNext_range_end aw aW (by lia) λh' aM hz=>aC h' (?s9).toks none aM hz trivial)
 |jb id=>
  dsimp only[jc]at aq
  cases as:(?σ9).heap id with
  |none=>replace aq:=as▸aq;exact ns aq
  |some dc=>
   rw[as]at aq
   cases dc with
   |ba b ah=>
    cases ah with
    |nil=>
     cases j with
     |zero=>
      obtain rfl:=a8 aq;obtain⟨a,d,ag,e,kvs,aN,ak,_⟩:=R.obj id _ as;have aB:?κ9 id=some (?c9,?c9):=aB;replace ag:=(aB).symm.trans ag;(refine bC (fi (a8 ag)) ?_;rintro rfl rfl);cases ak;refine cL aN.dictAt ?_;intro ep jd;refine eB aW ?_;try clear aW;intro ds dD kj gh uz aW
      have Su:kj=ep:=by refine fk jd ?_;try clear jd;intro ad8 ms Sv x9 pj x9;obtain rfl:=a8 ((gh).symm.trans Sv);replace pj:=(uz).symm.trans pj;cases pj;rfl
      subst Su;exact lD (wpAny_pyNext_dict_end (kvs:=[]) aw (aW rfl) jd rfl λh' aM hz=>aC h' (?s9).toks none aM hz trivial)
     |succ j=>exact ns aq
    |cons be cm=>exact ns aq
   |_=>cases aq)
 rfl
theorem Ji:av (λb=>b=it) (Dv it c j src) n Y (λz I Z h=>ni I Z c src/\jx h it c j src/\d1 Y it I Z z h) z (bj (pyNext (.ref it)))
  (match jc z j src with|some o=> .ok o z|none=> .stuck):=by
 cases aq:jc z j src with
 |none=>exact .stuck
 |some o=>refine⟨id,λx9 A I Z s Q E aw aS am aj aC=>Ss aw.handled am aj.1 aj.2.1 aq λh' aR u ag ar d=>?_⟩;refine bC (bu.gK (R:=am) aj.2.2 ag ar) ?_;intro bW x;exact aC I Z h' aR u x bW (aS.gK x λb q=>q▸aj.2.2.aa) d
end
noncomputable def gj(J:Env):List (Str×NameKind)->List (Str×Addr)->List (Str×Addr)
 |[],acc=>acc
 |(n,k)::r,acc=>match k with
  | .free=>match J.cells.lookup n with
   |some a=>gj J r ((n,a)::acc)
   |none=>gj J r acc
  |_=>gj J r acc
theorem Sw(h:∀n,(n,NameKind.free)∈aA.names->∃a,J.cells.lookup n=some a):closureFor aA J=pure (gj J aA.names []):=by
 unfold closureFor
 have key:∀(l:List (Str×NameKind))(acc:List (Str×Addr)),(∀n,(n,NameKind.free)∈l->∃a,J.cells.lookup n=some a)->
   (forIn l acc λx r=>match x with
    |(name,kind)=>if(kind==NameKind.free)=true then do
      let a<-cellOf J name
      pure (ForInStep.yield ((name,a)::r))
     else pure (ForInStep.yield r):Sem (List (Str×Addr)))=pure (gj J l acc):=by
  intro l
  induction l with
  |nil=>intro acc x9;rfl
  |cons x l ih=>
   intro acc h;obtain⟨n,k⟩:=x;rw[List.forIn_cons]
   cases k with
   |free=>refine cL (h n (.head _)) ?_;intro a aL;refine ab ((bz (λq:Option Addr=>match q with|some a=>gj J l ((n,a)::acc)|none=>gj J l acc) aL:gj J ((n,NameKind.free)::l) acc=gj J l ((n,a)::acc))) (bM (ih ((n,a)::acc) λm aJ=>h m (.tail _ aJ)) ?_);simp only[cellOf,aL];rfl
   |_=>exact ih acc λm aJ=>h m (.tail _ aJ)
 have:=key aA.names [] h
 refine ab (?_:(do
  let mut pk:=[]
  for (name,kind)in aA.names do
   if kind== .free then pk:=(name,<-cellOf J name)::pk
  return pk:Sem (List (Str×Addr)))=((forIn aA.names ([]:List (Str×Addr)) λx r=>match x with
    |(name,kind)=>if(kind==NameKind.free)=true then do
      let a<-cellOf J name
      pure (ForInStep.yield ((name,a)::r))
     else pure (ForInStep.yield r))>>=λpk=>pure pk)) (ab this ?_)
 ·rfl
 ·rfl
set_option tactic.hygienic true in
theorem Jj:∀(l:List (Str×NameKind))(acc:List (Str×Addr)),(∀a,acc.lookup n=some a->J.cells.lookup n=some a)->∀a,(gj J l acc).lookup n=some a->J.cells.lookup n=some a:=by
 intro br
 induction br with
 |nil=>exactλacc h a e=>h a e
 |cons cm l ih=>
  obtain⟨m,k⟩:=cm;intro acc h a e
  cases k with
  |free=>
   replace e:(match J.cells.lookup m with|some a=>gj J l ((m,a)::acc)|none=>gj J l acc).lookup n=some a:=e
   cases ai:J.cells.lookup m with
   |some b=>
    replace e:=ai▸e;refine ih _ (λaX ey=>?_) a e;rw[List.lookup_cons]at ey
    cases q:n==m with
    |true=>replace ey:=q▸ey;have:=eq_of_beq q;subst this;exact ab ai (bM ey rfl)
    |false=>replace ey:=q▸ey;exact h aX ey
   |none=>replace e:=ai▸e;exact ih acc h a e
  |_=>exact ih acc h a e
set_option tactic.hygienic true in
theorem Sx(aL:J.cells.lookup n=some a):∀(l:List (Str×NameKind))(acc:List (Str×Addr)),(acc.lookup n=some a\/(n,NameKind.free)∈l)->(∀b,acc.lookup n=some b->b=a)->(gj J l acc).lookup n=some a:=by
 revert aL;revert J n a;refine@(v4 ne ne ne ?env9 ?n9 ?a9 ?_ ?_)
 rotate_left 3
 (
 intro aL;intro br
 induction br with
 |nil=>exactλacc h x9=>h.elim id λq=>by cases q
 |cons cm l ih=>
  obtain⟨m,k⟩:=cm;intro acc h ai
  cases k with
  |free=>
   cases hu:(?a9).cells.lookup m with
   |some b=>
    refine ab ((bz (λq:Option Addr=>List.lookup ?n9 (match q with|some a=>gj ?a9 l ((m,a)::acc)|none=>gj ?a9 l acc)) hu:List.lookup ?n9 (gj ?a9 ((m,NameKind.free)::l) acc)=List.lookup ?n9 (gj ?a9 l ((m,b)::acc)))) ?_;refine ih _ ?_ ?_
    ·by_cases q:?n9=m
     ·subst q;refine ab (a8 ((aL).symm.trans hu)) ?_;exact .inl (by simp)
     ·have gL:(?n9==m)=false:=by simpa using q
      rcases h with h|h
      ·exact .inl (by refine ab List.lookup_cons (ab gL ?_);exact h)
      ·refine .inr ?_;clear gL
       cases h with
       |head=>exact bf rfl q
       |tail be h=>exact h
    ·intro c e;rw[List.lookup_cons]at e
     cases q:?n9==m with
     |true=>replace e:=q▸e;have:=eq_of_beq q;subst this;obtain rfl:=a8 ((aL).symm.trans hu);exact(a8 e).symm
     |false=>replace e:=q▸e;exact ai c e
   |none=>
    have aq:=hu;refine ab ((bz (λq:Option Addr=>List.lookup ?n9 (match q with|some a=>gj ?a9 l ((m,a)::acc)|none=>gj ?a9 l acc)) hu:List.lookup ?n9 (gj ?a9 ((m,NameKind.free)::l) acc)=List.lookup ?n9 (gj ?a9 l acc))) ?_;refine ih acc ?_ ai
    rcases h with h|h
    ·exact .inl h
    ·cases h with
     |head=>replace aq:=(aL).symm.trans aq;exact sn aq
     |tail be h=>exact .inr h
  |_=>
   refine ih acc ?_ ai
   rcases h with h|h
   ·exact .inl h
   ·cases h with
    |tail be h=>exact .inr h)
 rfl
theorem Sy:gr k .free=(k== .free):=by cases k<;>rfl
theorem Jk(names:List (Str×NameKind))(n:Str):fX names n .cell=(names.lookup n==some .cell):=by
 unfold fX;rw[<-wy]
 cases p7 n names with
 |none=>rfl
 |some k=>cases k<;>rfl
theorem Dw(ag:J.scope.kind= .function):(relabel aA J).names=mX J.scope.names aA.names:=by refine List.map_congr_left λp x9=>?_;refine(?_:(if(p.2==NameKind.free&&J.scope.kind==ScopeKind.function&&J.kindOf p.1==some .cell)=true then(p.1,NameKind.cell)else(p.1,p.2))=(match gr p.2 .free&&fX J.scope.names p.1 .cell with|true=>(p.1,NameKind.cell)|false=>(p.1,p.2)));rw[ag,Sy,Jk];refine(?_:(if(p.2==NameKind.free&&true&&J.scope.names.lookup p.1==some .cell)=true then _ else _)=_);rw[Bool.and_true];cases(p.2==NameKind.free&&J.scope.names.lookup p.1==some .cell)<;>rfl
theorem Dx:(mX names aA).lookup n=match aA.lookup n with
  |some .free=>if names.lookup n=some .cell then some .cell else some .free
  |r=>r:=by
 unfold mX
 induction aA with
 |nil=>rfl
 |cons p l ih=>
  obtain⟨m,k⟩:=p;refine ab List.map_cons ?_
  cases q:n==m with
  |true=>
   have:=eq_of_beq q;refine bM this ?_
   cases k with
   |free=>
    rw[show gr NameKind.free .free=true from rfl,Bool.true_and,Jk]
    by_cases e:names.lookup n=some .cell
    ·refine ab e ?_;simp
    ·have:(names.lookup n==some NameKind.cell)=false:=by simpa using e
     refine ab this ?_;simp[e]
   |_=>simp[show gr NameKind.local .free=false from rfl,show gr NameKind.cell .free=false from rfl,show gr NameKind.globalExplicit .free=false from rfl,show gr NameKind.globalImplicit .free=false from rfl]
  |false=>rw[((by exact ab List.lookup_cons (ab q rfl)):List.lookup n ((m,k)::l)=List.lookup n l)];cases gr k .free&&fX names m .cell<;>(refine ab List.lookup_cons (ab q ?_);exact ih)
theorem uA:∀{l:List (Str×NameKind)},l.lookup n=some k->(n,k)∈l:=by
 intro br
 induction br with
 |nil=>intro h;exact ns h
 |cons cm l ih=>
  obtain⟨m,bF⟩:=cm;intro h;replace h:=(List.lookup_cons).symm.trans h
  cases q:n==m with
  |true=>replace h:=q▸h;have:=eq_of_beq q;subst this;obtain rfl:=a8 h;exact .head _
  |false=>replace h:=q▸h;exact .tail _ (ih h)
abbrev fH(names:List (Str×NameKind))(aA:Scope):Prop:=(aA.kind= .function)/\(∀p∈aA.names,p.2≠ .cell)/\(∀n,(n,NameKind.free)∈aA.names->names.lookup n=some .cell\/names.lookup n=some .free)/\(∀p∈aA.names,p.2= .local->aA.names.lookup p.1=some .local)
section
variable(x:fH a b)
def fH.kind:=x.1
def fH.Jl:=x.2.1
def fH.free:=x.2.2.1
def fH.aa:=x.2.2.2
end
theorem kt(h:rM names aA=true):fH names aA:=by
 unfold rM at h;rw[Bool.and_eq_true,Bool.and_eq_true,Bool.and_eq_true]at h;refine bC h ?_;try clear h;intro dZ a0;refine bC dZ ?_;try clear dZ;rintro⟨ae,af⟩ ax;refine⟨?_,λp aj e=>?_,λn aq=>?_,λp aj e=>?_⟩
 ·cases q:aA.kind<;>replace ae:=q▸ae<;>first|rfl|exact b3 ae
 ·have:=List.all_eq_true.mp af p aj;rw[e]at this;exact b3 this
 ·have:=List.all_eq_true.mp ax _ aq
  rcases Bool.or_eq_true .. ▸this with q|q
  ·exact .inl (hk q)
  ·exact .inr (hk q)
 ·have:=List.all_eq_true.mp a0 _ aj;rw[e]at this;exact hk this
section
variable{I:bX}{Z:bY}{z:St}{h:Heap}{J:Env}{C bJ:aK}{aA:Scope}{m:Str->Option Value}{D:Addr}
theorem d7.closure(F:d7 I Z z J C h)(S:fH J.scope.names aA):closureFor aA J=pure (gj J aA.names []):=
 Sw λn aq=>cS (F.cell n ((S.free n aq).elim (λq=> .inl q) λq=> .inr q)) λc x9 aB x9=>⟨c,aB⟩
theorem d7.comp(F:d7 I Z z J C h)(S:fH J.scope.names aA)(aq:h.Ns D m)(cG:¬ew I z D)
  (ak:∀x v,bJ x=some v->aA.names.lookup (T.nm x)=some .local->∃u,m (T.nm x)=some u/\Den I Z v u) (hf:∀x v,bJ x=some v->aA.names.lookup (T.nm x)=some .free->C x=some v) (aN:∀x v,bJ x=some v->x<T.bV):
  d7 I Z z (compEnvC aA (gj J aA.names []) D J) bJ h:=by
 have sk:∀n,(compEnvC aA (gj J aA.names []) D J).kindOf n=(mX J.scope.names aA.names).lookup n:=λn=>by
  refine(?_:(relabel aA J).names.lookup n=_);refine bz _ (Dw F.kind)
 refine⟨S.kind,F.glob,F.blt,(bq m aq (λx v e k=>?_)),λn ag=>?_,λn hP c e ey=>F.apart n hP c ((λn c=>Jj aA.names [] (λa e=>by injection e) c:∀n c,(gj J aA.names []).lookup n=some c->J.cells.lookup n=some c) n c e) ((λn c=>Jj aA.names [] (λa e=>by injection e) c:∀n c,(gj J aA.names []).lookup n=some c->J.cells.lookup n=some c) hP c ey),cG,aN⟩
 ·rw[sk,Dx]at k;refine ak x v e ?_
  cases q:aA.names.lookup (T.nm x)with
  |none=>replace k:=q▸k;injection k
  |some hR=>
   rw[q]at k
   cases hR with
   |«local»=>rfl
   |free=>dsimp only at k;split at k<;>cases k
   |_=>cases k
 ·rw[sk,Dx]at ag
  have Jm:aA.names.lookup n=some .free:=by
   cases q:aA.names.lookup n with
   |none=>rw[q]at ag;rcases ag with k|k<;>injection k
   |some hR=>
    rw[q]at ag
    cases hR with
    |free=>rfl
    |cell=>exact bf rfl (S.Jl _ (uA q))
    |_=>rcases ag with k|k<;>cases k
  have Jn:=uA Jm;refine h4 (F.cell n ((S.free n Jn).elim (λq=> .inl q) λq=> .inr q)) ?_;intro c bN aB bA Sz o8 qA;refine nM c bN (Sx aB aA.names [] (.inr Jn) (λb e=>by injection e)) bA Sz (λq=>?_) (λx v e k=>?_)
  ·have q:c=D:=q;subst q;refine eB aq ?_;try clear aq;intro o ah ep as jW x9;refine a4 bA ?_;try clear bA;intro bS e4 d0;obtain rfl:=a8 ((as).symm.trans e4);replace d0:=(jW).symm.trans d0;exact nomatch d0
  ·exact qA x v e (hf x v k (by refine ab e ?_;exact Jm))
end
def hn{bG:Type}(turn:V->bG->St->Res bG)(src:Src):Nat->Nat->bG->St->Res bG
 |0,_,_,_=> .stuck
 |n+1,j,b,z=>match jc z j src with
  |none=> .stuck
  |some none=> .ok b z
  |some (some v)=>(turn v b z).bind λb z=>hn turn src n (j+1) b z
theorem SA(h:jc z j src=some none):hn turn src (n+1) j b z= .ok b z:=
 (bz (λq:Option (Option V)=>match q with|none=>Res.stuck|some none=> .ok b z|some (some v)=>(turn v b z).bind λb z=>hn turn src n (j+1) b z) h:_)
theorem SD(h:jc z j src=some (some v)):hn turn src (n+1) j b z=(turn v b z).bind λb z=>hn turn src n (j+1) b z:=
 (bz (λq:Option (Option V)=>match q with|none=>Res.stuck|some none=> .ok b z|some (some v)=>(turn v b z).bind λb z=>hn turn src n (j+1) b z) h:_)
theorem Jo{l:List V}(ar:∀z j,jc z j src=some l[j]?):∀(k j:Nat)(acc:List V)(z:St),j+k=l.length->kf turn (l.drop j) acc z=hn turn src (k+1) j acc z:=by
 intro br
 induction br with
 |zero=>intro j acc z e;have bd:l.drop j=[]:=List.drop_eq_nil_of_le (by lia);have bB:l[j]?=none:=List.getElem?_eq_none_iff.mpr (by lia);refine ab bd ?_;exact(SA ((ar z j).trans (bz some bB))).symm
 |succ k ih=>
  intro j acc z e;have cF:j<l.length:=by lia
  refine ab (List.drop_eq_getElem_cons cF) ?_;refine c0 ?_ (SD ((ar z j).trans (bz some (List.getElem?_eq_getElem cF:l[j]?=some l[j])))).symm;refine(?_:(turn l[j] acc z).bind _=(turn l[j] acc z).bind _)
  congr 1
  funext acc z
  exact ih (j+1) acc z (by lia)
theorem SE{id:Nat}:∀(k j:Nat)(acc:List V)(z:St),pZ turn id k j acc z=hn turn (.live id) k j acc z:=by
 intro br
 induction br with
 |zero=>exactλx9 x9 x9=>rfl
 |succ k ih=>
  intro j acc z;refine(λq:Option O=>(?_:(match q with|some (.list _ l)=>(match l[j]?with|none=>Res.ok acc z|some v=>(turn v acc z).bind λacc z=>pZ turn id k (j+1) acc z)|_=> .stuck)=match(match q with|some (.list _ l)=>some l[j]?|_=>none)with|none=> .stuck|some none=> .ok acc z|some (some v)=>(turn v acc z).bind λb z=>hn turn (.live id) k (j+1) b z)) (z.heap id)
  cases q with
  |none=>rfl
  |some o=>
   cases o with
   |list b l=>
    dsimp only
    cases l[j]?with
    |none=>rfl
    |some v=>
     dsimp only
     congr 1
     funext acc z
     exact ih (j+1) acc z
   |_=>rfl
theorem uB:∀k,(hr k).length=k:=by
 intro br
 induction br with
 |zero=>exact rfl
 |succ k ih=>rw[yA,List.length_append,ih];rfl
theorem Jp:∀(k j:Nat),(hr k)[j]?=match Nat.blt j k with|true=>some (.int (.ofNat j))|false=>none:=by
 intro br
 induction br with
 |zero=>intro j;cases j<;>rfl
 |succ k ih=>
  intro j;rw[yA]
  rcases Nat.lt_trichotomy j k with q|q|q
  ·refine ab (List.getElem?_append_left (by rw[uB];exact q)) (ab (ih j) ?_);have bd:Nat.blt j k=true:=gn q;have bB:Nat.blt j (k+1)=true:=gn (by lia);exact ab bd (ab bB rfl)
  ·subst q;rw[List.getElem?_append_right (by rw[uB];exact Nat.le_refl _),uB];have bB:Nat.blt j (j+1)=true:=gn (b8 _);refine ab bB ?_;simp
  ·refine c0 (List.getElem?_eq_none_iff.mpr (by rw[List.length_append,uB];refine(?_:k+1<=j);assumption)) ?_
   have bB:Nat.blt j (k+1)=false:=by
    cases e:Nat.blt j (k+1)with
    |false=>rfl
    |true=>have:=hQ e;lia
   exact ab bB rfl
theorem Res.SF(r:Res aI)(f:aI->St->Res bG):(r.bind f).cx=r.cx.bind λa z=>(f a z).cx:=by cases r<;>rfl
section
variable{n:Nat}{Y:List Env}{z:St}
theorem av.cx{O:Addr->Prop}{D:eg aI bG}{t:aY aI}{r:Res bG}(h:av O D n Y bo z t r):av O D n Y bo z t r.cx:=by
 cases r with
 |ok b σ'=>exact h
 |exc σ'=>trivial
 |stuck=>trivial
theorem Jq{turn:V->bG->St->Res bG}{Inv:Nat->bG->fZ}{Mid:Nat->bG->V->Value->fZ}{Fin:bG->fZ}{O:Addr->Prop}{body:Value->aY Unit}(N:Around->(cc)->cc)
  (iK:O it)
  (iN:∀j b z I Z h,Inv j b z I Z h->ni I Z c src/\jx h it c j src/\d1 Y it I Z z h)
  (SG:∀j b v u z I Z h κ' Z' h',Inv j b z I Z h->cw Y (λx=>x=it) I Z z h κ' Z' z h'->Den κ' Z' v u->jx h' it c (j+1) src->Mid j b v u z κ' Z' h')
  (SH:∀j b z I Z h κ' Z' h',Inv j b z I Z h->cw Y (λx=>x=it) I Z z h κ' Z' z h'->Fin b z κ' Z' h')
  (pl:∀j b v u z,av O (λz I Z h cV(x9:Unit)=>Inv (j+1) cV z I Z h) n Y (Mid j b v u) z (body u) (turn v b z).cx)
  (zv:∀A Q E s,wpAny (model prog w) A (pyNext (.ref it)) (λr cr=>match r with|none=>Q () cr|some v=>body v A (λx9 bE=>loop A Q E bE) (N A E) cr) (N A E) s->loop A Q E s):
  ∀(k j:Nat)(b:bG)(z:St),av O (λz I Z h cV(x9:Unit)=>Fin cV z I Z h) n Y (Inv j b) z loop (hn turn src k j b z).cx:=by
 intro br
 induction br with
 |zero=>exactλx9 x9 x9=> .stuck
 |succ k ih=>
  intro j b z;refine(?_:av _ _ _ _ _ _ _ (Res.cx (match jc z j src with|none=> .stuck|some none=> .ok b z|some (some v)=>(turn v b z).bind λb z=>hn turn src k (j+1) b z)));have pm:=Ji (n:=n) (Y:=Y) (z:=z) (it:=it) (c:=c) (j:=j) (src:=src)
  cases aq:jc z j src with
  |none=>exact .stuck
  |some o=>
   rw[aq]at pm
   cases o with
   |none=>
    refine⟨λq=>q,λaP A I Z s Q E aw aS am aj aC=>zv A Q E s ?_⟩;refine pm.2 aP A I Z s _ _ aw aS am (iN _ _ _ _ _ _ aj) λκ' Z' h' aR u x bW dP d=>?_
    cases u with
    |none=>exact aC κ' Z' h' aR () (x.mono λb x9 q=>q▸iK) bW dP (SH _ _ _ _ _ _ _ _ _ aj x)
    |some be=>exact d.elim
   |some v=>
    dsimp only;have ai:=λu=>pl j b v u z
    cases bH:turn v b z with
    |exc be=>exact .stuck
    |stuck=>exact .stuck
    |ok Dy c1=>
     have ih:=ih (j+1) Dy c1;refine(?_:av O (λz I Z h cV(x9:Unit)=>Fin cV z I Z h) n Y (Inv j b) z loop (hn turn src k (j+1) Dy c1).cx);simp only[bH]at ai
     cases hw:hn turn src k (j+1) Dy c1 with
     |exc be=>exact .stuck
     |stuck=>exact .stuck
     |ok ad9 ef=>
      replace ih:=hw▸ih;refine⟨λq=>(ai .none).1 (ih.1 q),λaP A I Z s Q E aw aS am aj aC=>zv A Q E s ?_⟩;refine pm.2 ((ai .none).1 (ih.1 aP)) A I Z s _ _ aw aS am (iN _ _ _ _ _ _ aj) λκ' Z' h' aR u x bW dP d=>?_
      cases u with
      |none=>exact d.elim
      |some u=>
       refine(ai u).2 (ih.1 aP) A κ' Z' {s with heap:=h',toks:=aR} _ _ aw dP bW (SG _ _ _ _ _ _ _ _ _ _ _ aj x d.1 d.2) λr5 r6 dp lv x9 x' kn r7 dy=>?_;refine ih.2 aP A r5 r6 {s with heap:=dp,toks:=lv} Q E aw r7 kn dy λSI SJ dQ wG SK SM SN SO SP=>?_;exact aC SI SJ dQ wG SK (((x.mono λb x9 q=>q▸iK).trans x').trans SM) SN SO SP
end
noncomputable def sl(v:V)(z:St):Res Src:=match v with
 | .aD _ l=> .ok (.seq false l) z
 | .tup l=> .ok (.seq true l) z
 | .ref id=>match z.heap id with
  |some (.list _ _)=> .ok (.live id) z
  |_=> .stuck
 |_=> .stuck
section
variable{n:Nat}{Y:List Env}{z:St}
variable{P:ca}{F:bT}{J:Env}
def po(P qm:fZ):Prop:=∀z I Z(h h':Heap),(∀b o,h.get? b=some o->h'.get? b=some o)->h.objs.size<=h'.objs.size->P z I Z h->qm z I Z h'
theorem Goes.zw{P qm:fZ}(g:Goes Y aG P qm):po P qm:=λx9 x9 x9 x9 x9 ag ar p=>g.out (ee.grow ag ar).fN p
theorem av.Jr{O X:Addr->Prop}{D:eg aI bG}{W:Addr->aY aI}{r:Res bG}(hf:o.isFreed=false)(bw:po bo bo)
  (H:∀c,av (λb=>O b\/b=c) D n Y (λz I Z h=>bo z I Z h/\d1 Y c I Z z h/\h.get? c=some o/\(∀b,X b->b<c)) z (W c) r) (kT:∀I Z h b,bo z I Z h->X b->b<h.objs.size):
  av O D n Y bo z (λA Q E s=>W s.heap.objs.size A Q E {s with heap:=s.heap.push o}) r:=by
 have start:∀{A:Around}{I:bX}{Z:bY}{s:Shared},eG I z A Y s.heap->bu I Z z s.heap->cw Y aG I Z z s.heap I Z z (s.heap.push o)/\d1 Y s.heap.objs.size I Z z (s.heap.push o):=by
  intro A I Z s aS am;refine⟨(ee.grow (et _ _) (by rw[Heap.size_push];exact gP _)).fN,by rw[Heap.size_push];exact Nat.lt_succ_self _,λf=>e0 _ (f.lt am),?_,?_,?_,am.r0 (b8 _)⟩
  ·cases e:Z s.heap.objs.size with
   |none=>rfl
   |some p=>exact bf (am.rZ (by refine ab e ?_;simp)) (e0 _)
  ·cases e:B.get? s.heap.objs.size with
   |none=>rfl
   |some p=>exact bf (am.blt e) (e0 _)
  ·rintro⟨J,aM,iL⟩
   obtain⟨_,L,m,bl,_,aq,_⟩:=aS.funs J aM;obtain rfl:=a8 ((iL).symm.trans bl);exact e0 _ aq.lt
 have nj:∀{h:Heap},∀b,b<h.objs.size->(O b\/b=h.objs.size)->O b:=λb ai q=>q.elim (λq=>q) λq=>bf (q▸ai) (e0 _)
 cases r with
 |stuck=>trivial
 |exc σ'=>
  refine⟨(H 0).1,λaP A I Z s Q E aw aS am aj dt=>?_⟩;refine bC (start aS am) ?_;intro x N;exact(H _).2 aP A I Z {s with heap:=s.heap.push o} Q E aw (aS.eO x) (am.grow (et _ _)) (h5 (bw _ _ _ _ _ (et _ _) (by rw[Heap.size_push];exact gP _) aj) N (hJ _ hf) (λb q=>kT _ _ _ b aj q)) λh' aR e u=>dt h' aR e ((u.back (x.mono λx9 x9 q=>q.elim)).mono nj)
 |ok b σ'=>
  refine⟨(H 0).1,λaP A I Z s Q E aw aS am aj aC=>?_⟩;refine bC (start aS am) ?_;intro x N;exact(H _).2 aP A I Z {s with heap:=s.heap.push o} Q E aw (aS.eO x) (am.grow (et _ _)) (h5 (bw _ _ _ _ _ (et _ _) (by rw[Heap.size_push];exact gP _) aj) N (hJ _ hf) (λb q=>kT _ _ _ b aj q)) λκ' Z' h' aR a y bW dP d=>aC κ' Z' h' aR a (((x.mono λx9 x9 q=>q.elim).trans y).mono nj) bW dP d
noncomputable def wH(c:Addr):Src->Obj
 | .seq false _=>{cls:= .type "list_iterator",data:= .fields #[.ref c, .int 0 0]}
 | .seq true _=>{cls:= .type "tuple_iterator",data:= .fields #[.ref c, .int 0 0]}
 | .live _=>{cls:= .type "list_iterator",data:= .fields #[.ref c, .int 0 0]}
 | .ff n=>{cls:= .type "range_iterator",data:= .fields #[rawInt 0,rawInt n,rawInt 1]}
 | .jb _=>{cls:= .type "dict_keyiterator",data:= .fields #[.ref c, .int 0 0, .int 0 0, .int 0 0]}
theorem Js(ar:noDict src=true)(e:h.get? it=some (wH c src)):jx h it c 0 src:=by
 cases src with
 |seq t l=>cases t<;>exact fW _ e rfl rfl
 |live id=>exact fW _ e rfl rfl
 |ff n=>refine(?_:IsRangeIter h it ((0:Nat):Int) ((n:Int)-((0:Nat):Int)) 1);exact e
 |jb id=>exact b3 ar
abbrev lE(Y:List Env)(n0:Nat):eg (Addr×Addr) Src:=λz I Z h src p=>(noDict src=true/\ni I Z p.2 src/\jx h p.1 p.2 0 src/\d1 Y p.1 I Z z h)/\n0<=p.1
theorem Jt:CS Y (lE Y n0):=⟨λx dz=>bC dz λd e=>⟨(h5 d.1 (d.2.1.mono x.kle x.zle) (d.2.2.1.of d.1 λo as=>d.2.2.2.get x id as) (d.2.2.2.ext x)),e⟩⟩
abbrev n3(x:Expr)(J:Env):aY (Addr×Addr):=λA Q E s=>wpAny (model prog w) A (eval x J) (λv cr=>wpAny (model prog w) A (pyIter v) (λi bE=>∃it c,i= .ref it/\Q (it,c) bE) E cr) E s
theorem SQ:av aG (lE Y n0) n Y (λz I Z h=>m7 v u z I Z h/\n0<=h.objs.size) z (λA Q E s=>wpAny (model prog w) A (pyIter u) (λi bE=>∃it c,i= .ref it/\Q (it,c) bE) E s) (sl v z):=by
 have kV:∀(c:Addr)(src:Src),noDict src=true->(∀I Z h,bu I Z z h->m7 v u z I Z h->∃c,ni I Z c src/\∀(A:Around)(aR:Nat)(s:Shared)(Q:cc)(E:cc),s.heap=h->Q (.ref s.heap.objs.size) {s with heap:=s.heap.push (wH c src)}->wpAny (model prog w) A (pyIter u) Q E s)->
   av aG (lE Y n0) n Y (λz I Z h=>m7 v u z I Z h/\n0<=h.objs.size) z (λA Q E s=>wpAny (model prog w) A (pyIter u) (λi bE=>∃it c,i= .ref it/\Q (it,c) bE) E s) (.ok src z):=by
  intro x9 src ij H;refine .leaf id λA I Z s Q E x9 aw aS am aj aC=>?_;refine a4 (H I Z s.heap am aj.1) ?_;intro c SR hw;refine hw A s.toks s _ E rfl (eK _ c rfl ?_);refine aC I Z _ s.toks (s.heap.objs.size,c) ((ee.grow (et _ _) (by rw[Heap.size_push];exact gP _)).fN:cw Y aG I Z z s.heap I Z z (s.heap.push (wH c src))) (am.grow (et _ _)) ⟨(h5 ij SR (Js ij (hJ _ (by cases src with|seq t l=>cases t<;>rfl|_=>rfl):(s.heap.push (wH c src)).get? s.heap.objs.size=some (wH c src))) ?_),aj.2⟩
  refine⟨by rw[Heap.size_push];exact Nat.lt_succ_self _,λf=>e0 _ (f.lt am),?_,?_,?_,am.r0 (b8 _)⟩
  ·cases e:Z s.heap.objs.size with
   |none=>rfl
   |some p=>exact bf (am.rZ (by refine ab e ?_;simp)) (e0 _)
  ·cases e:B.get? s.heap.objs.size with
   |none=>rfl
   |some p=>exact bf (am.blt e) (e0 _)
  ·rintro⟨J,aM,iL⟩
   obtain⟨_,L,m,bl,_,aq,_⟩:=aS.funs J aM;obtain rfl:=a8 ((iL).symm.trans bl);exact e0 _ aq.lt
 cases v with
 |aD b l=>
  refine kV 0 (.seq false l) rfl λI Z h R d=>?_
  cases d with| @aD be cm lA vs hz ak ai=>
  exact bq lA (bq vs hz ak) (λA aR s Q E e aC=>wpAny_pyIter_list (e▸(R.frz _ _ _ hz).isList) aC)
 |tup l=>
  refine kV 0 (.seq true l) rfl λI Z h R d=>?_
  cases d with| @tup be lA vs hz ak=>
  exact bq lA (bq vs hz ak) (λA aR s Q E e aC=>wpAny_pyIter_tuple (e▸(R.frz _ _ _ hz).uy) aC)
 |ref id=>
  unfold sl;dsimp only
  cases as:z.heap id with
  |none=>exact .stuck
  |some o=>
   cases o with
   |list b l=>refine kV 0 (.live id) rfl λI Z h R d=>?_;refine h4 (qq R d as) ?_;intro lA dK cy ag aB ak ai;refine ab cy ?_;exact bq lA ag (λA aR s Q E e aC=>wpAny_pyIter_list (e▸aB.isList) aC)
   |_=>exact .stuck
 |_=>exact .stuck
theorem sm:Goes Y aG (λz I Z h=>bk J C z I Z h/\n0<=h.objs.size) (λz I Z h=>bk J C z I Z h/\n0<=h.objs.size):=⟨λx y=>⟨y.1.eO x,ct y.2 x.size⟩⟩
theorem wI(h:bZ P F n Y J e x)(C:aK)(z:St):av aG (lE Y n0) n Y (λz I Z h=>bk J C z I Z h/\n0<=h.objs.size) z (n3 x J) ((az P F e C z).bind sl):=
 av.seq (t:=bj (eval x J)) (f:=λu A Q E s=>wpAny (model prog w) A (pyIter u) (λi bE=>∃it c,i= .ref it/\Q (it,c) bE) E s) sm ((h C z).pre λx9 x9 x9 q=>q.1) λv σ' u=>SQ.pre λx9 x9 x9 q=>⟨q.2,q.1.2⟩
end
theorem jx.fields(x:jx h it c j src)(ar:noDict src=true):∃o vs,h.get? it=some o/\o.data= .fields vs:=by
 cases src with
 |seq t l=>cases t<;>exact fV x λo as x9 aN=>(eK o _ as aN)
 |live id=>exact fV x λo as x9 aN=>(eK o _ as aN)
 |ff n=>exact eK _ _ x rfl
 |jb id=>exact b3 ar
section
variable{n:Nat}{Y:List Env}{z:St}
variable{P:ca}{F:bT}{J:Env}
def Binds(I:bX)(Z:bY)(m:Str->Option Value):List (Str×V)->Prop
 |[]=>True
 |(x,v)::r=>(∃u,m x=some u/\Den I Z v u)/\Binds I Z m r
theorem Binds.mono(ag:he I κ')(hz:hg Z Z'):∀{bs:List (Str×V)},Binds I Z m bs->Binds κ' Z' m bs
 |[],_=>trivial
 |(_,_)::_,⟨⟨u,ae,af⟩,r⟩=>⟨(bq u ae (af.mono ag hz)),r.mono ag hz⟩
structure c3(Y:List Env)(J:Env)(C:aK)(acc D:Addr)(l:List V)(bs:List (Str×V))(z:St)(I:bX)(Z:bY)(h:Heap):Prop where
 frm:d7 I Z z J C h
 nacc:d1 Y acc I Z z h
 nD:d1 Y D I Z z h
 seq:∃vs,SeqAt h acc false vs/\bn I Z l vs
 ns:∃m,h.Ns D m/\Binds I Z m bs
 dl:D≠J.locals
structure fP(Y:List Env)(it c acc D:Addr)(src:Src)(j:Nat)(z:St)(I:bX)(Z:bY)(h:Heap):Prop where
 nd:noDict src=true
 sat:ni I Z c src
 iter:jx h it c j src
 nit:d1 Y it I Z z h
 ia:it≠acc
 iD:it≠D
theorem d7.zx{O:Addr->Prop}(F:d7 I Z z J C h)(x:cw Y O I Z z h κ' Z' σ' h')
  (iK:∀b,O b->b≠J.locals/\∃o,h.get? b=some o/\∀v,o.data≠ .cell v):d7 κ' Z' σ' J C h':=
 F.ext x (λq=>(iK _ q).1 rfl) λm c ag aB q=>by
  obtain⟨_,o,as,aN⟩:=iK c q;refine hp (F.cell m ag) ?_;intro du bN gu nc x9;refine a4 nc ?_;try clear nc;intro bS e4 d0;obtain rfl:=a8 ((aB).symm.trans gu);obtain rfl:=a8 ((as).symm.trans e4);exact aN _ d0
theorem c3.ba(X:c3 Y J C acc D l bs z I Z h):acc≠D:=λq=>by
 refine a4 X.seq ?_;intro vs dh x9;refine cL dh ?_;try clear dh;intro k ae;refine a4 X.ns ?_;intro m dh x9;refine eB dh ?_;try clear dh;intro o ah ep af aN x9;rw[q,af]at ae;obtain rfl:=a8 ae;injection aN
theorem c3.ed(X:c3 Y J C acc D l bs z I Z h):acc≠J.locals:=λq=>by
 refine a4 X.seq ?_;intro vs dh x9;refine cL dh ?_;try clear dh;intro k ae;refine a4 X.frm.ns ?_;intro m dh x9;refine eB dh ?_;try clear dh;intro o ah ep af aN x9;rw[q,af]at ae;obtain rfl:=a8 ae;injection aN
theorem wJ(F:d7 I Z z J C h)(x:∃o vs,h.get? it=some o/\o.data= .fields vs):it≠J.locals:=λq=>by
 refine cS x ?_;try clear x;intro bS vs ae d0;refine a4 F.ns ?_;intro m dh x9;refine eB dh ?_;try clear dh;intro o ah ep af aN x9;rw[q,af]at ae;obtain rfl:=a8 ae;replace d0:=(aN).symm.trans d0;exact nomatch d0
theorem c3.mw{O:Addr->Prop}(X:c3 Y J C acc D l bs z I Z h)(x:cw Y O I Z z h κ' Z' σ' h')
  (iK:∀b,O b->b≠acc/\b≠D/\b≠J.locals/\∃o,h.get? b=some o/\∀v,o.data≠ .cell v):c3 Y J C acc D l bs σ' κ' Z' h' where
 frm:=X.frm.zx x λb q=>(iK b q).2.2
 nacc:=X.nacc.ext x
 nD:=X.nD.ext x
 seq:=let⟨vs,⟨k,ae⟩,af⟩:=X.seq;(bq vs ⟨k,X.nacc.get x (λq=>(iK _ q).1 rfl) ae⟩ (af.mono x.kle x.zle))
 ns:=a4 X.ns λm aq ai=>(bq m (aq.at' λo e=>X.nD.get x (λq=>(iK _ q).2.1 rfl) e) (ai.mono x.kle x.zle))
 dl:=X.dl
theorem c3.ext(X:c3 Y J C acc D l bs z I Z h)(x:cw Y aG I Z z h κ' Z' σ' h'):c3 Y J C acc D l bs σ' κ' Z' h':=
 X.mw x λx9 q=>q.elim
theorem fP.mw{O:Addr->Prop}(X:fP Y it c acc D src j z I Z h)(x:cw Y O I Z z h κ' Z' σ' h')(no:¬O it):fP Y it c acc D src j σ' κ' Z' h' where
 nd:=X.nd
 sat:=X.sat.mono x.kle x.zle
 iter:=X.iter.of X.nd λo e=>X.nit.get x no e
 nit:=X.nit.ext x
 ia:=X.ia
 iD:=X.iD
end
section
variable{n:Nat}{Y:List Env}{z:St}
variable{P:ca}{F:bT}{J:Env}
abbrev dj(aA:Scope)(D:Addr)(J:Env):Env:=compEnvC aA (gj J aA.names []) D J
structure kW(aA:Scope)(C bJ:aK)(bs:List (Str×V)):Prop where
 aa:∀x v,x<T.bV->bJ x=some v->aA.names.lookup (T.nm x)=some .local->(T.nm x,v)∈bs
 free:∀x v,bJ x=some v->aA.names.lookup (T.nm x)=some .free->C x=some v
 dom:∀x v,bJ x=some v->x<T.bV\/C x≠none
theorem kW.Ju(b:kW aA C bJ bs)(h:∀x v,C x=some v->x<T.bV):∀x v,bJ x=some v->x<T.bV:=λx v e=>
 (b.dom x v e).elim id λq=>by
  cases h':C x with
  |none=>exact bf h' q
  |some u=>exact h x u h'
theorem Binds.get(h:Binds I Z m bs)(q:(x,v)∈bs):∃u,m x=some u/\Den I Z v u:=by
 induction bs with
 |nil=>exact nomatch q
 |cons p r ih=>exact(List.mem_cons.mp q).elim (λe=>(e▸h.1:∃u,m (x,v).1=some u/\Den I Z (x,v).2 u)) λq=>ih h.2 q
theorem c3.Dz(X:c3 Y J C acc D l bs z I Z h)(S:fH J.scope.names aA)(b:kW aA C bJ bs):
  d7 I Z z (dj aA D J) bJ h:=
 a4 X.ns λx9 aq ai=>
X.frm.comp S aq X.nD.foot (λx v e k=>ai.get (b.aa x v (b.Ju X.frm.dom x v e) e k)) b.free (b.Ju X.frm.dom)
theorem c3.forget(X:c3 Y J C acc D l bs z I Z h):c3 Y J C acc D l [] z I Z h:=
 ⟨X.frm,X.nacc,X.nD,X.seq,a4 X.ns λm aq x9=>(bq m aq trivial),X.dl⟩
theorem c3.Jv(X:c3 Y J C acc D l (b::bs) z I Z h):c3 Y J C acc D l bs z I Z h:=
 ⟨X.frm,X.nacc,X.nD,X.seq,fV X.ns λm aq x9 ai=>(bq m aq ai),X.dl⟩
theorem lw(S:fH J.scope.names aA)(ar:aA.names.lookup s=some .local)(dB:∀q∈bs,q.1≠s):
  av (λb=>b=D) (λz I Z h(x9:Unit)(x9:Unit)=>c3 Y J C acc D l ((s,v)::bs) z I Z h/\fP Y it c acc D src j z I Z h) n Y
   (λz I Z h=>(c3 Y J C acc D l bs z I Z h/\fP Y it c acc D src j z I Z h)/\Den I Z v u) z (bj (assign (.Name s p) (dj aA D J) u)) (.ok () z):=by
 refine⟨id,λx9 A I Z st Q E aw aS am aj aC=>?_⟩;refine bC aj ?_;try clear aj;intro dZ db;refine bC dZ ?_;try clear dZ;intro X je;refine a4 X.ns ?_;intro m aq ai;refine wpAny_assign_Name (wpAny_storeName_local (m:=m) (lookup_relabel_local ar) aq (λh' n4 eP=>?_) ?_)
 ·have ag:∀b dc,b≠D->st.heap.get? b=some dc->h'.get? b=some dc:=eP.extBut;refine bC (bu.gK (R:=am) X.nD ag (fr eP.1.symm)) ?_;intro bW x
  have jv:∃o,st.heap.get? D=some o/\∀v,o.data≠ .cell v:=by refine eB aq ?_;try clear aq;intro o ah ep as aN x9;exact bq o as (λv q=>by replace q:=(aN).symm.trans q;cases q)
  refine aC I Z h' _ () x bW (aS.gK x λb q=>q▸X.nD.aa) ⟨⟨X.frm.zx x λb q=>⟨q▸X.dl,q▸jv⟩,X.nacc.ext x,X.nD.ext x,?_,(fW _ n4 (bq u (df rfl) db) ?_),X.dl⟩,je.mw x je.iD⟩
  ·refine a4 X.seq ?_;intro vs dh af;refine cL dh ?_;try clear dh;intro k ae;exact bq vs ⟨k,ag _ _ X.ba ae⟩ af
  ·have go:∀{bs:List (Str×V)},(∀q∈bs,q.1≠s)->Binds I Z m bs->Binds I Z (λx=>if x=s then some u else m x) bs:=by
    intro bs dB ai
    induction bs with
    |nil=>trivial
    |cons q r ih=>refine bC ai ?_;try clear ai;rintro⟨t,ae,af⟩ ax;exact⟨(bq t ((cO (dB (q.1,q.2) (.head _))).trans ae) af),ih (λq cX=>dB q (.tail _ cX)) ax⟩
   exact go dB ai
 ·refine(?_:((relabel aA J).kind== .class||_)=false);have:(relabel aA J).kind= .function:=S.kind;simp[compEnvC,this]
theorem SS:
  av (λb=>b=acc) (λz I Z h(i6:List V)(x9:Value)=>c3 Y J C acc D i6 bs z I Z h/\fP Y it c acc D src j z I Z h) n Y
   (λz I Z h=>(c3 Y J C acc D l bs z I Z h/\fP Y it c acc D src j z I Z h)/\Den I Z v u) z (bj (call (.builtin "list.append") [.ref acc,u])) (jn v l z):=by
 unfold jn
 cases ai:Nat.blt l.length 10000 with
 |false=>exact .stuck
 |true=>have:=hQ ai;refine⟨id,λx9 A I Z st Q E aw aS am aj aC=>?_⟩;refine bC aj ?_;try clear aj;intro dZ db;refine bC dZ ?_;try clear dZ;intro X je;refine a4 X.seq ?_;intro vs dh ak;refine cL dh ?_;try clear dh;intro k ii;refine call_meets PySem.F.slot_list_append (bq _ ii rfl) PySem.F.entry_list_append (PySem.F.args_list_append_2 _ _) (list_append acc vs.toArray k _ ((by refine ab List.size_toArray (bM ak.length (ab gG ?_));lia):vs.toArray.size<=sizeLine)) ⟨ii,?_⟩;have eP:Heap.SameBut acc st.heap (st.heap.update acc (Obj.mapSeq λa=>a.push u)):=Heap.SameBut.update ..;have ag:∀b dc,b≠acc->st.heap.get? b=some dc->(st.heap.update acc (Obj.mapSeq λa=>a.push u)).get? b=some dc:=eP.extBut;refine aC I Z _ _ .none (bu.gK (R:=am) X.nacc ag (fr eP.1.symm)).2 (bu.gK (R:=am) X.nacc ag (fr eP.1.symm)).1 (aS.gK (bu.gK (R:=am) X.nacc ag (fr eP.1.symm)).2 λb q=>q▸X.nacc.aa) ⟨⟨X.frm.zx (bu.gK (R:=am) X.nacc ag (fr eP.1.symm)).2 λb q=>⟨q▸X.ed,q▸(⟨_,ii,λv q=>by cases q⟩:∃o,st.heap.get? acc=some o/\∀v,o.data≠ .cell v)⟩,X.nacc.ext (bu.gK (R:=am) X.nacc ag (fr eP.1.symm)).2,X.nD.ext (bu.gK (R:=am) X.nacc ag (fr eP.1.symm)).2,(bq (vs++[u]) (zh ii _ (by simp)) (ak.snoc db)),?_,X.dl⟩,je.mw (bu.gK (R:=am) X.nacc ag (fr eP.1.symm)).2 je.ia⟩;refine a4 X.ns ?_;intro m aq ai;exact bq m (aq.at' λo e=>ag _ _ (λq=>X.ba q.symm) e) ai
noncomputable abbrev pq(ifs:List Expr)(J:Env)(b:Bool):Sem Bool:=forIn ifs b λc r=>if r=true then do let ok<-isTrue c J (eval c J);pure (ForInStep.yield ok)else pure (ForInStep.yield r)
theorem Jw(J:Env):∀ifs,pq ifs J false=pure false
 |[]=>rfl
 |c::r=>by
  unfold pq;rw[List.forIn_cons];exact Jw J r
theorem SU(h:fG P F n Y J cU ifs)(C:aK):∀(z:St),bD aG mr n Y (bk J C) z (pq ifs J true) (jO P F cU C z):=by
 induction h with
 |nil=>exactλz=> .pure λx9 x9 x9 x9=>rfl
 | @cons e x ah xs aQ be cm ih=>
  intro z;refine(?_:bD aG mr n Y (bk J C) z (pq (x::xs) J true) ((az P F e C z).bind λv z=>condB v (jO P F ah C z) (.ok false z)));rw[sj];refine(uv cJ (t:=bj (pq xs J true)) (f:=aY.ret false) (aQ.2 C z _ rfl) ih λz=> .ret λx9 x9 x9 x9=>rfl).tree λA s Q E q=>?_;unfold pq;rw[List.forIn_cons];refine aV (aV (cd q (λb s' h'=>bQ ?_) λx9 x9 aE=>aE));dsimp only
  cases b with
  |true=>exact h'
  |false=>refine ab (show(forIn xs false λc r=>if r=true then do
    let ok<-PySem.isTrue c J (eval c J)
    pure (ForInStep.yield ok)
   else pure (ForInStep.yield r))=(pure false:Sem Bool)from Jw J xs) ?_;exact bQ h'
end
section
variable{n:Nat}{Y:List Env}{z:St}
variable{P:ca}{F:bT}{J:Env}
theorem SV{R:Result->Shared->Prop}{s:Shared}{bP target iter:Expr}{ifs:List Expr}{scope:Scope}{pos:Pos}{it acc:Value}{J:Env}
  (turn:wpAny (model prog w) A (pyNext it) (λr cr=>match r with
   |none=>R (.ok .next) cr
   |some v=>wpAny (model prog w) A (assign target J v) (λx9 bE=>
     wpAny (model prog w) A (pq ifs J true) (λok ej=>
      if ok=true then wpAny (model prog w) A (eval bP J) (λx lF=>
       wpAny (model prog w) A (call (.builtin "list.append") [acc,x]) (λx9 mx=>codeAny (model prog w) A (.compLoop (.ListComp bP [⟨target,iter,ifs,0⟩] scope pos) 0 it acc J) R mx) (notedBy (model prog w) A J λe s'=>R (.error e) s') lF) (notedBy (model prog w) A J λe s'=>R (.error e) s') ej
      else codeAny (model prog w) A (.compLoop (.ListComp bP [⟨target,iter,ifs,0⟩] scope pos) 0 it acc J) R ej) (notedBy (model prog w) A J λe s'=>R (.error e) s') bE) (notedBy (model prog w) A J λe s'=>R (.error e) s') cr) (notedBy (model prog w) A J λe s'=>R (.error e) s') s)
  (bH:∀v,letOwnedTupleGo target it v=pure ()):
  codeAny (model prog w) A (.compLoop (.ListComp bP [⟨target,iter,ifs,0⟩] scope pos) 0 it acc J) R s:=by
 revert turn bH;revert A R s bP target iter ifs scope pos it acc J;refine@(rX m2 ne ug ne ne ne ne ne ne ne ne ne ?A9 ?R9 ?s9 ?elt9 ?target9 ?iter9 ?ifs9 ?scope9 ?pos9 ?it9 ?acc9 ?env9 ?_ ?_)
 rotate_left 12
 (
 intro turn bH;refine codeAny_of_tree ?_;refine(?_:wpAny _ ?A9 ((compTurn (.ListComp ?elt9 [⟨?target9,?iter9,?ifs9,0⟩] ?scope9 ?pos9) 0 ?it9 ?acc9 ?env9).onRaise (λx=>do noteFrame x ?env9;theTreesLotGoes x)) _ _ ?s9);refine wpAny_noted ?_;rw[compTurn_list];refine aV (ha (aV (cd turn (λr cr bO=>?_) λx9 x9 h'=>h')))
 cases r with
 |none=>exact bQ bO
 |some v=>
  refine aV (wpAny_of_eq (bH v) ?_);refine aV (cd bO (λx9 bE c2=>aV (cd c2 (λok ej dQ=>?_) λx9 x9 h'=>h')) λx9 x9 h'=>h')
  cases ok with
  |false=>exact bQ ⟨rfl,dQ⟩
  |true=>
   exact aV (aV (cd dQ (λx lF kX=>aV (cd kX (λx9 mx n5=>bQ (bQ ⟨rfl,n5⟩)) λx9 x9 h'=>h')) λx9 x9 h'=>h')))
 rfl
abbrev DA(e:Expr)(d:Nat)(it acc:Value)(cenv:Env):aY Unit:=λA Q E s=>codeAny (model prog w) A (.compLoop e d it acc cenv) (λr s'=>match r with| .ok _=>Q () s'| .error x=>E x s') s
abbrev hT(P:ca)(F:bT)(bP:E)(y:Nat)(cU:List E)(C:aK):V->List V->St->Res (List V):=λw acc z=>(jO P F cU (C.set y w) z).bind λb z=>match b with
    |true=>(az P F bP (C.set y w) z).bind λv z=>jn v acc z
    |false=> .ok acc z
abbrev Jx(e:Expr)(d:Nat)(target:Expr)(ifs:List Expr)(bP:Expr)(it acc:Value)(J:Env):Prop:=∀(A:Around)(R:Result->Shared->Prop)(s:Shared),
  wpAny (model prog w) A (pyNext it) (λr cr=>match r with
   |none=>R (.ok .next) cr
   |some v=>wpAny (model prog w) A (assign target J v) (λx9 bE=>
     wpAny (model prog w) A (pq ifs J true) (λok ej=>
      if ok=true then wpAny (model prog w) A (eval bP J) (λx lF=>
       wpAny (model prog w) A (call (.builtin "list.append") [acc,x]) (λx9 mx=>codeAny (model prog w) A (.compLoop e d it acc J) R mx) (notedBy (model prog w) A J λe s'=>R (.error e) s') lF) (notedBy (model prog w) A J λe s'=>R (.error e) s') ej
      else codeAny (model prog w) A (.compLoop e d it acc J) R ej) (notedBy (model prog w) A J λe s'=>R (.error e) s') bE) (notedBy (model prog w) A J λe s'=>R (.error e) s') cr) (notedBy (model prog w) A J λe s'=>R (.error e) s') s->
  codeAny (model prog w) A (.compLoop e d it acc J) R s
theorem Jy(SW:Jx e d (.Name s p) ifs dx (.ref it) (.ref acc) (dj aA D J))(dB:∀q∈bs,q.1≠s)(S:fH J.scope.names aA)(ar:aA.names.lookup s=some .local)
  (ai:∀v,kW aA C (lvI.set y v) ((s,v)::bs)) (jy:bZ P F n Y (dj aA D J) bP dx) (ku:fG P F n Y (dj aA D J) cU ifs):
  ∀(k j:Nat)(l:List V)(z:St),av (λb=>b=it\/b=acc\/b=D) (λz I Z h l(x9:Unit)=>c3 Y J C acc D l bs z I Z h) n Y (λz I Z h=>c3 Y J C acc D l bs z I Z h/\fP Y it c acc D src j z I Z h) z
   (DA e d (.ref it) (.ref acc) (dj aA D J)) (hn (hT P F bP y cU lvI) src k j l z).cx:=by
 refine Jq (c:=c) (Inv:=λj l z I Z h=>c3 Y J C acc D l bs z I Z h/\fP Y it c acc D src j z I Z h) (Mid:=λj l v u z I Z h=>(c3 Y J C acc D l bs z I Z h/\fP Y it c acc D src (j+1) z I Z h)/\Den I Z v u)
  (Fin:=λl z I Z h=>c3 Y J C acc D l bs z I Z h)
  (body:=λu=>aY.bind (bj (assign (.Name s p) (dj aA D J) u)) λx9=>aY.bind (bj (pq ifs (dj aA D J) true)) λok A Q E st=>
   if ok=true then(aY.bind (bj (eval dx (dj aA D J))) λx=>aY.bind (bj (call (.builtin "list.append") [.ref acc,x])) λx9=>aY.ret ()) A Q E st else aY.ret () A Q E st)
  (λA E=>notedBy (model prog w) A (dj aA D J) λe s'=>E e s') (.inl rfl) (λj l z I Z h X=>(fs X.2.sat X.2.iter X.2.nit)) ?_ ?_ ?_ ?_
 ·intro j l v u z I Z h κ' Z' h' X x d aW;have hf:=X.2.iter.fields X.2.nd;refine⟨⟨X.1.mw x λb q=>(h5 (q▸X.2.ia) (q▸X.2.iD) (q▸wJ X.1.frm hf) ?_),X.2.nd,X.2.sat.mono x.kle x.zle,aW,X.2.nit.ext x,X.2.ia,X.2.iD⟩,d⟩;refine cS hf ?_;try clear hf;intro o vs as aN;exact bq o (q▸as) (λv q=>by rw[aN]at q;cases q)
 ·intro j l z I Z h κ' Z' h' X x;refine X.1.mw x λb q=>(h5 (q▸X.2.ia) (q▸X.2.iD) (q▸wJ X.1.frm (X.2.iter.fields X.2.nd)) ?_);refine cS ((X.2.iter.fields X.2.nd)) ?_;intro o vs as aN;exact bq o (q▸as) (λv q=>by rw[aN]at q;cases q)
 ·intro j l v u z;refine av.cx ?_;have step:hT P F bP y cU lvI v l z=(Res.ok () z).bind λx9 z=>hT P F bP y cU lvI v l z:=rfl;refine ab step ?_;refine av.dv (O₁:=λb=>b=D) (Kp:=λx9 x9 x9 x9=>True) (λb q=> .inr (.inr q)) ⟨λx9 x9=>trivial⟩ (lw (p:=p) S ar (bs:=bs) dB) λx9 z x9=>?_;refine av.dv (O₁:=aG) (λx9 q=>q.elim) (⟨λx X=>⟨X.2.1.ext x,X.2.2.mw x id⟩⟩:Goes Y aG (λz I Z h=>True/\c3 Y J C acc D l ((s,v)::bs) z I Z h/\fP Y it c acc D src (j+1) z I Z h) (λz I Z h=>c3 Y J C acc D l ((s,v)::bs) z I Z h/\fP Y it c acc D src (j+1) z I Z h)) ((SU ku (lvI.set y v) z).pre λx9 x9 x9 X=>X.2.1.Dz S (ai v)) λb z ok=>?_
  cases b with
  |false=>refine av.f0 (t:=aY.ret ()) (.ret λI Z h X=>⟨X.1.1.Jv,X.1.2⟩) λA I Z st Q E x9 x9 x9 aj q=>?_;have aB:ok=false:=aj.2;refine ab aB ?_;exact q
  |true=>
   refine av.f0 (t:=aY.bind (bj (eval dx (dj aA D J))) λx=>aY.bind (bj (call (.builtin "list.append") [.ref acc,x])) λx9=>aY.ret ()) ?_ λA I Z st Q E x9 x9 x9 aj q=>?_
   ·refine av.pre (P:=λz I Z h=>c3 Y J C acc D l ((s,v)::bs) z I Z h/\fP Y it c acc D src (j+1) z I Z h) ?_ λx9 x9 x9 X=>X.1;refine av.dv (O₁:=aG) (λx9 q=>q.elim) (⟨λx X=>⟨X.1.ext x,X.2.mw x id⟩⟩:Goes Y aG (λz I Z h=>c3 Y J C acc D l ((s,v)::bs) z I Z h/\fP Y it c acc D src (j+1) z I Z h) (λz I Z h=>c3 Y J C acc D l ((s,v)::bs) z I Z h/\fP Y it c acc D src (j+1) z I Z h)) ((jy (lvI.set y v) z).pre λx9 x9 x9 X=>X.1.Dz S (ai v)) λv' z wi=>?_;refine ab (((Res.lw _).symm:jn v' l z=(jn v' l z).bind λl z=> .ok l z)) ?_;exact av.dv (O₁:=λb=>b=acc) (Kp:=λx9 x9 x9 x9=>True) (λb q=> .inr (.inl q)) ⟨λx9 x9=>trivial⟩ SS λi6 z x9=> .ret λI Z h X=>⟨X.2.1.Jv,X.2.2⟩
   ·have aB:ok=true:=aj.2;refine ab aB ?_;exact q
 ·intro A Q E st q;refine SW A _ st (cd q (λr cr bO=>?_) λx9 x9 x=>x)
  cases r with
  |none=>exact bO
  |some v=>
   refine cd bO (λx9 bE c2=>cd c2 (λok ej dQ=>?_) λx9 x9 x=>x) λx9 x9 x=>x
   cases ok with
   |false=>exact dQ
   |true=>exact dQ
theorem SX(S:fH J.scope.names aA)(ar:aA.names.lookup s=some .local)
  (ai:∀v,kW aA C (C.set y v) [(s,v)]) (jy:bZ P F n Y (dj aA D J) bP dx) (ku:fG P F n Y (dj aA D J) cU ifs):
  ∀(k j:Nat)(l:List V)(z:St),av (λb=>b=it\/b=acc\/b=D) (λz I Z h l(x9:Unit)=>c3 Y J C acc D l [] z I Z h) n Y (λz I Z h=>c3 Y J C acc D l [] z I Z h/\fP Y it c acc D src j z I Z h) z
   (DA (.ListComp dx [⟨.Name s p,iter,ifs,0⟩] aA pos) 0 (.ref it) (.ref acc) (dj aA D J)) (hn (hT P F bP y cU C) src k j l z).cx:=
 Jy (λA R s q=>SV q λx9=>rfl) (λx9 q=>by cases q) S ar ai jy ku
end
structure iO(n0:Nat)(Y:List Env)(O:Addr->Prop)(I:bX)(Z:bY)(z:St)(h:Heap)(κ':bX)(Z':bY)(σ':St)(h':Heap):Prop where
 kle:he I κ'
 zle:hg Z Z'
 keep:∀b o,b<n0->h.get? b=some o->¬ew I z b->¬O b->Kept (qk Y b) o (h'.get? b)
 foot:∀b,ew κ' σ' b->ew I z b\/n0<=b
 zed:∀b,Z' b≠none->Z b≠none\/n0<=b
 size:n0<=h'.objs.size
theorem cw.DB{O O':Addr->Prop}(x:cw Y O' I Z z h wc wd c1 bO)(iK:∀b,b<h.objs.size->O' b->O b)(y:iO h.objs.size Y O wc wd c1 bO o6 o7 ef c2):cw Y O I Z z h o6 o7 ef c2 where
 kle:=x.kle.trans y.kle
 zle:=x.zle.trans y.zle
 keep:=λb o e cG no=>(x.keep b o e cG λq=>no (iK b (ft e) q)).trans λbS ey=>y.keep b bS (ft e) ey (λf=>(x.foot b f).elim cG λg=>bf (ft e) (Nat.not_lt.mpr g)) no
 foot:=λb f=>(y.foot b f).elim (x.foot b) .inr
 zed:=λb aE=>(y.zed b aE).elim (x.zed b) .inr
 size:=y.size
theorem cw.DC{O O':Addr->Prop}(x:cw Y O' I Z z h κ' Z' σ' h')(aq:n0<=h.objs.size)(iK:∀b,b<n0->O' b->O b):iO n0 Y O I Z z h κ' Z' σ' h':=
 ⟨x.kle,x.zle,λb o ai e cG no=>x.keep b o e cG λq=>no (iK b ai q),λb f=>(x.foot b f).imp id λg=>ct aq g,λb aE=>(x.zed b aE).imp id λg=>ct aq g,ct aq x.size⟩
theorem iO.trans{O:Addr->Prop}(x:iO n0 Y O I Z z h wc wd c1 bO)(y:iO n0 Y O wc wd c1 bO o6 o7 ef c2):iO n0 Y O I Z z h o6 o7 ef c2 where
 kle:=x.kle.trans y.kle
 zle:=x.zle.trans y.zle
 keep:=λb o ai e cG no=>(x.keep b o ai e cG no).trans λbS ey=>y.keep b bS ai ey (λf=>(x.foot b f).elim cG λg=>bf ai (Nat.not_lt.mpr g)) no
 foot:=λb f=>(y.foot b f).elim (x.foot b) .inr
 zed:=λb aE=>(y.zed b aE).elim (x.zed b) .inr
 size:=y.size
section
variable{n:Nat}{Y:List Env}{z:St}
variable{P:ca}{F:bT}{J:Env}
theorem iO.wt{O:Addr->Prop}(aL:n0<=a)(hz:hg Z (Z.put a t vs))(ar:n0<=h.objs.size):iO n0 Y O I Z z h I (Z.put a t vs) z h:=
 ⟨.refl _,hz,λb o x9 e x9 x9=> .of_eq e,λb f=> .inl f,λb aE=>by
  by_cases q:b=a
  ·exact .inr (q▸aL)
  ·refine .inl λe=>aE ?_;refine(?_:(if b=a then _ else _)=_)
   exact ab (cO q) (ab e rfl),ar⟩
theorem iO.claim{O:Addr->Prop}(aL:n0<=a)(aN:n0<=d)(gs:he I (I.put (z.aT k) a d))(ar:n0<=h.objs.size):iO n0 Y O I Z z h (I.put (z.aT k) a d) Z (z.new k o) h:=
 ⟨gs, .refl _,λb o x9 e x9 x9=> .of_eq e,λb f=>by
  refine eB f ?_;try clear f;intro id x y ae af ax
  by_cases q:id=z.aT k
  ·have:(I.put (z.aT k) a d) id=some (a,d):=df q;replace af:=(this).symm.trans af;(refine bC (fi (a8 af)) ?_;rintro rfl rfl);clear gs Z O
   rcases ax with rfl|rfl
   ·exact .inr aL
   ·exact .inr aN
  ·have:(I.put (z.aT k) a d) id=I id:=cO q;replace af:=(this).symm.trans af;rw[qj,if_neg q]at ae
   exact .inl (ix id x y ae af ax),λb aE=> .inl aE,ar⟩
theorem av.SY{O X:Addr->Prop}{D:eg aI bG}(o:Obj){W:Addr->aY aI}{r:Res bG}(bw:po bo bo)
  (H:∀c,av (λb=>O b\/b=c) D n Y (λz I Z h=>bo z I Z h/\d1 Y c I Z z h/\h.Ns c (λx9=>none)/\(∀b,X b->b<c)) z (W c) r) (kT:∀I Z h b,bo z I Z h->X b->b<h.objs.size):
  av O D n Y bo z (λA Q E s=>∀h' aR,h'.Ns s.heap.objs.size (λx9=>none)->Heap.SameBut s.heap.objs.size (s.heap.push o) h'->W s.heap.objs.size A Q E {s with heap:=h',toks:=aR}) r:=by
 have start:∀{A:Around}{I:bX}{Z:bY}{s:Shared}{h':Heap},eG I z A Y s.heap->bu I Z z s.heap->Heap.SameBut s.heap.objs.size (s.heap.push o) h'->(∀b x,s.heap.get? b=some x->h'.get? b=some x)/\cw Y aG I Z z s.heap I Z z h'/\d1 Y s.heap.objs.size I Z z h':=by
  intro A I Z s h' aS am dE;have ag:∀b x,s.heap.get? b=some x->h'.get? b=some x:=λb x e=>(dE.2 b (λq=>by have:=ft e;replace this:=q▸this;exact e0 _ this)).trans (et _ _ b x e);have cW:h'.objs.size=s.heap.objs.size+1:=by rw[dE.1,Heap.size_push]
  refine⟨ag,(ee.grow ag ((by lia):s.heap.objs.size<=h'.objs.size)).fN,(by lia:s.heap.objs.size<h'.objs.size),λf=>e0 _ (f.lt am),?_,?_,?_,am.r0 (b8 _)⟩
  ·cases e:Z s.heap.objs.size with
   |none=>rfl
   |some p=>exact bf (am.rZ (by refine ab e ?_;simp)) (e0 _)
  ·cases e:B.get? s.heap.objs.size with
   |none=>rfl
   |some p=>exact bf (am.blt e) (e0 _)
  ·rintro⟨J,aM,iL⟩
   obtain⟨_,L,m,bl,_,aq,_⟩:=aS.funs J aM;obtain rfl:=a8 ((iL).symm.trans bl);exact e0 _ aq.lt
 have nj:∀{h:Heap},∀b,b<h.objs.size->(O b\/b=h.objs.size)->O b:=λb ai q=>q.elim (λq=>q) λq=>bf (q▸ai) (e0 _)
 cases r with
 |stuck=>trivial
 |exc σ'=>
  refine⟨(H 0).1,λaP A I Z s Q E aw aS am aj dt ae DD cp dE=>?_⟩;refine eU (start aS am dE) ?_;intro ag x N;exact(H _).2 aP A I Z {s with heap:=ae,toks:=DD} Q E aw (aS.eO x) (am.grow ag) (h5 (bw _ _ _ _ _ ag x.size aj) N cp (λb q=>kT _ _ _ b aj q)) λh' aR e u=>dt h' aR e ((u.back (x.mono λx9 x9 q=>q.elim)).mono nj)
 |ok b σ'=>
  refine⟨(H 0).1,λaP A I Z s Q E aw aS am aj aC ae DD cp dE=>?_⟩;refine eU (start aS am dE) ?_;intro ag x N;exact(H _).2 aP A I Z {s with heap:=ae,toks:=DD} Q E aw (aS.eO x) (am.grow ag) (h5 (bw _ _ _ _ _ ag x.size aj) N cp (λb q=>kT _ _ _ b aj q)) λκ' Z' h' aR a y bW dP d=>aC κ' Z' h' aR a (((x.mono λx9 x9 q=>q.elim).trans y).mono nj) bW dP d
theorem av.DE{D₁:Nat->eg aI bG}{D₂:eg hv kQ}{t:aY aI}{f:aI->aY hv}{r:Res bG}{g:bG->St->Res kQ}
  (ae:∀n0,av (λb=>n0<=b) (D₁ n0) n Y (λz I Z h=>bo z I Z h/\n0<=h.objs.size) z t r)
  (S0:∀b σ',(g b σ').cx=g b σ')
  (af:∀b σ' cV fc,g b σ'= .ok cV fc->(fc.log->σ'.log)/\∀n0 A I Z(s:Shared)Q E a,fc.log->gX A n->eG I σ' A Y s.heap->bu I Z σ' s.heap->n0<=s.heap.objs.size->D₁ n0 σ' I Z s.heap b a->
   (∀κ' Z' h' aR aX,iO n0 Y aG I Z σ' s.heap κ' Z' fc h'->bu κ' Z' fc h'->D₂ fc κ' Z' h' cV aX->Q aX {s with heap:=h',toks:=aR})->f a A Q E s):
  av aG D₂ n Y bo z (t.bind f) (r.bind g):=by
 cases r with
 |stuck=>trivial
 |exc σ'=>exact⟨(ae 0).1,λaP A I Z s Q E aw aS am aj dt=>(ae s.heap.objs.size).2 aP A I Z s _ E aw aS am ⟨aj,b8 _⟩ λh' aR e u=>dt h' aR e (u.mono λb ai q=>bf ai (Nat.not_lt.mpr q))⟩
 |ok b c1=>
  refine(?_:av aG D₂ n Y bo z (t.bind f) (g b c1))
  cases bw:g b c1 with
  |stuck=>trivial
  |exc ef=>have:=S0 b c1;replace this:=bw▸this;injection this
  |ok c ef=>
   refine⟨λaP=>(ae 0).1 ((af b c1 c ef bw).1 aP),λaP A I Z s Q E aw aS am aj aC=>?_⟩;refine(ae s.heap.objs.size).2 ((af b c1 c ef bw).1 aP) A I Z s _ E aw aS am ⟨aj,b8 _⟩ λκ' Z' h' aR a x bW dP d=>?_
   exact(af b c1 c ef bw).2 s.heap.objs.size A κ' Z' {s with heap:=h',toks:=aR} Q E a aP aw dP bW x.size d λr5 r6 dp lv aX y kn S1=>aC r5 r6 dp lv aX (x.DB (λb ai q=>bf ai (Nat.not_lt.mpr q)) y) kn (aS.eO (x.DB (λb ai q=>bf ai (Nat.not_lt.mpr q)) y)) S1
theorem av.low{O:Addr->Prop}{D:eg aI bG}{t:aY aI}{r:Res bG}(ae:∀n0,av (λb=>O b\/n0<=b) D n Y (λz I Z h=>bo z I Z h/\n0<=h.objs.size) z t r):av O D n Y bo z t r:=by
 have nj:∀{m:Nat},∀b,b<m->(O b\/m<=b)->O b:=λb ai q=>q.elim (λq=>q) λq=>bf ai (Nat.not_lt.mpr q)
 cases r with
 |stuck=>trivial
 |exc σ'=>exact⟨(ae 0).1,λaP A I Z s Q E aw aS am aj dt=>(ae s.heap.objs.size).2 aP A I Z s _ E aw aS am ⟨aj,b8 _⟩ λh' aR e u=>dt h' aR e (u.mono nj)⟩
 |ok b σ'=>exact⟨(ae 0).1,λaP A I Z s Q E aw aS am aj aC=>(ae s.heap.objs.size).2 aP A I Z s _ E aw aS am ⟨aj,b8 _⟩ λκ' Z' h' aR a x bW dP d=>aC κ' Z' h' aR a (x.mono nj) bW dP d⟩
theorem av.DF{O O':Addr->Prop}{D:eg aI bG}{t:aY aI}{r:Res bG}(h:av O D n Y bo z t r)(k:∀I Z h,bo z I Z h->∀b,O b->O' b):av O' D n Y bo z t r:=by
 cases r with
 |stuck=>trivial
 |exc p=>exact⟨h.1,λaP A I Z s Q E aw aS am aj dt=>h.2 aP A I Z s Q E aw aS am aj λh' aR e u=>dt h' aR e (u.mono λb x9=>k _ _ _ aj b)⟩
 |ok b σ'=>exact⟨h.1,λaP A I Z s Q E aw aS am aj aC=>h.2 aP A I Z s Q E aw aS am aj λκ' Z' h' aR a x bW dP d=>aC κ' Z' h' aR a (x.mono λb x9=>k _ _ _ aj b) bW dP d⟩
theorem av.S2{O:Addr->Prop}{D:eg aI bG}{t:aY aI}{r:Res bG}(ae:∀n0,av (λb=>O b\/n0<=b) D n Y (λz I Z h=>bo z I Z h/\h.objs.size=n0) z t r):av O D n Y bo z t r:=by
 have nj:∀{m:Nat},∀b,b<m->(O b\/m<=b)->O b:=λb ai q=>q.elim (λq=>q) λq=>bf ai (Nat.not_lt.mpr q)
 cases r with
 |stuck=>trivial
 |exc σ'=>exact⟨(ae 0).1,λaP A I Z s Q E aw aS am aj dt=>(ae s.heap.objs.size).2 aP A I Z s _ E aw aS am ⟨aj,rfl⟩ λh' aR e u=>dt h' aR e (u.mono nj)⟩
 |ok b σ'=>exact⟨(ae 0).1,λaP A I Z s Q E aw aS am aj aC=>(ae s.heap.objs.size).2 aP A I Z s _ E aw aS am ⟨aj,rfl⟩ λκ' Z' h' aR a x bW dP d=>aC κ' Z' h' aR a (x.mono nj) bW dP d⟩
end
noncomputable def jY(v:V)(z:St):Res Src:=match v with
 | .aD _ l=> .ok (.seq false l) z
 | .ref id=>match z.heap id with
  |some (.list _ _)=> .ok (.live id) z
  |_=> .stuck
 |_=> .stuck
def kY{bG:Type}(turn:V->bG->St->Res bG)(src:Src)(b:bG)(z:St):Res bG:=match src with
 | .seq _ l=>hn turn src (l.length+1) 0 b z
 | .live _=>hn turn src 200 0 b z
 | .ff j=>hn turn src (j+1) 0 b z
 | .jb _=> .stuck
theorem DG(turn:V->List V->St->Res (List V))(it:V)(acc:List V)(z:St):h7 turn it acc z=(jY it z).bind λsrc z=>kY turn src acc z:=by
 delta h7 jY
 cases it with
 |aD b l=>refine(?_:kf turn l acc z=hn turn (.seq false l) (l.length+1) 0 acc z);refine bM (Jo (l:=l) (λx9 x9=>rfl) l.length 0 acc z (Nat.zero_add _)) ?_;rfl
 |ref id=>
  dsimp only
  cases z.heap id with
  |none=>rfl
  |some o=>
   cases o with
   |list b l=>exact SE 200 0 acc z
   |_=>rfl
 |_=>rfl
theorem S3(turn:V->List V->St->Res (List V))(j:Nat)(acc:List V)(z:St):kf turn (hr j) acc z=kY turn (.ff j) acc z:=by exact(Jo (turn:=turn) (src:= .ff j) (l:=hr j) (λz i=>by rw[Jp];rfl) j 0 acc z (by rw[uB];lia))
section
variable{n:Nat}{Y:List Env}{z:St}
variable{P:ca}{F:bT}{J:Env}
theorem av.jY{D:eg (Addr×Addr) Src}{bo:fZ}{t:aY (Addr×Addr)}{r:Res V}(h:av aG D n Y bo z t (r.bind sl)):av aG D n Y bo z t (r.bind jY):=by
 cases r with
 |ok v σ'=>
  cases v with
  |tup l=>exact .stuck
  |_=>exact h
 |exc σ'=>exact h
 |stuck=>exact h
abbrev zy:eg Value Nat:=λx9 x9 x9 h j v=>∃r t u x,v= .ref r/\IsRange h r 0 (j:Int) 1 t u x
def my(vs:List V)(z:St):Res Nat:=match vs with
 |[.int (.ofNat j)]=>match small j with
  |true=> .ok j z
  |false=> .stuck
 |_=> .stuck
theorem S4(aN:(x==("__debug__":Str))=false)(aw:Reads x f)(ag:J.kindOf x=some .globalImplicit)(hf:keeperOf f=pure .machine)
  (aL:ie P F n Y J ah xs) (leaf:∀vs ay z,bD aG D n Y (λx9 I Z x9=>bn I Z vs ay) z (call f ay) (g vs z)) (C:aK) (z:St):
  bD aG D n Y (bk J C) z (eval (.Call (.Name x p) xs [] pos) J) ((de P F ah C z).bind g):=by
 refine(uq (p:=p) (k:=λiH=>bj (callWith pos iH [] (backTo pos (starEach xs J)) (backToKw pos (keywordEach [] J)))) aN aw ag (λx9 x9 x9 x9 q=>⟨C,q⟩) ?_).tree λA s Q E q=>wpAny_Call_ofName q;refine(av.seq (t:=bj (spliced (backTo pos (starEach xs J)))) (f:=λay=>bj (call f ay)) cJ (m8 aL C pos z cJ λx9 x9 x9 x9 q=>q) λvs σ' ay=>(leaf vs ay σ').pre λx9 x9 x9 q=>q.2).tree λA s Q E q=>?_;exact zf hf (kS aL pos) (na (kS aL pos) (cd q (λvs s' h'=>h') λx9 x9 aE=>aE))
theorem Jz{z:St}{G:Res Nat->Prop}:∀(vs:List V),(∀j,vs=[.int (.ofNat j)]->G (match small j with|true=> .ok j z|false=> .stuck))->G .stuck->G (my vs z):=by
 intro vs ae af
 cases vs with|nil=>exact af|cons v r=>
 cases v with|int i=>(cases r with|nil=>(cases i with|ofNat j=>exact ae j rfl|negSucc be=>exact af)|cons be cm=>(cases i<;>exact af))|_=>exact af
set_option tactic.hygienic true in
theorem S5(vs:List V)(ay:List Value)(z:St):bD aG zy n Y (λx9 I Z x9=>bn I Z vs ay) z (call (.type "range") ay) (my vs z):=by
 refine Jz (G:=λr=>bD aG zy n Y (λx9 I Z x9=>bn I Z vs ay) z (call (.type "range") ay) r) vs (λj e=>?_) .stuck;subst e
 cases ar:small j with
 |false=>exact .stuck
 |true=>
  refine .leaf id λA I Z s Q E x9 aw aS am aj aC=>?_
  cases aj with|cons d DH=>
  cases DH
  cases d with|int be t=>
  exact call_range_1 (aC I Z _ _ _ (ee.grow (et _ _) (by rw[Heap.size_push];exact gP _)).fN (am.grow (et _ _)) (N1 _ _ _ _ rfl (hJ _ rfl)))
theorem JA(aS:eG I z A Y h)(am:bu I Z z h):d1 Y h.objs.size I Z z (h.push o):=by
 refine⟨by rw[Heap.size_push];exact Nat.lt_succ_self _,λf=>e0 _ (f.lt am),?_,?_,?_,am.r0 (b8 _)⟩
 ·cases e:Z h.objs.size with
  |none=>rfl
  |some p=>exact bf (am.rZ (by refine ab e ?_;simp)) (e0 _)
 ·cases e:B.get? h.objs.size with
  |none=>rfl
  |some p=>exact bf (am.blt e) (e0 _)
 ·rintro⟨J,aM,iL⟩
  obtain⟨_,L,m,bl,_,aq,_⟩:=aS.funs J aM;obtain rfl:=a8 ((iL).symm.trans bl);exact e0 _ aq.lt
theorem S6(ar:j<=10000):av aG (lE Y n0) n Y (λz I Z h=>zy z I Z h j u/\n0<=h.objs.size) z (λA Q E s=>wpAny (model prog w) A (pyIter u) (λi bE=>∃it c,i= .ref it/\Q (it,c) bE) E s) (.ok (.ff j) z):=by
 refine .leaf id λA I Z s Q E x9 aw aS am aj aC=>?_;refine bC aj ?_;try clear aj;intro dZ aq;refine tI dZ ?_;try clear dZ;rintro r t wi x rfl S7;refine wpAny_pyIter_range S7 (small_one (by decide) (by decide) (by lia) (by lia)) (eK _ r rfl ?_);refine ab (((by rw[rangeSize_one];split<;>lia):Builtin.Range.rangeSize 0 (j:Int) 1=(j:Int))) ?_
 refine aC I Z _ s.toks (s.heap.objs.size,r) (ee.grow (et _ _) (by rw[Heap.size_push];exact gP _)).fN (am.grow (et _ _)) ⟨(h5 rfl trivial (Js (c:=r) rfl (hJ _ rfl)) (JA aS am)),aq⟩
theorem JB(aN:(x==("__debug__":Str))=false)(aw:Reads x (.type "range"))(ag:J.kindOf x=some .globalImplicit)(hf:keeperOf (.type "range")=pure .machine)
  (aL:ie P F n Y J [e] [a]) (C:aK) (z:St):av aG (lE Y n0) n Y (λz I Z h=>bk J C z I Z h/\n0<=h.objs.size) z (n3 (.Call (.Name x p) [a] [] pos) J) ((de P F [e] C z).bind λvs z=>(my vs z).bind λj z=> .ok (.ff j) z):=by
 have bd:((de P F [e] C z).bind λvs z=>(my vs z).bind λj z=>Res.ok (Src.ff j) z)=((de P F [e] C z).bind my).bind λj z=>match small j with|true=> .ok (.ff j) z|false=> .stuck:=by
  cases de P F [e] C z with
  |ok vs z=>
   refine(?_:(my vs z).bind _=(my vs z).bind _);refine Jz (G:=λr=>r.bind (λj z=>Res.ok (Src.ff j) z)=r.bind λj z=>match small j with|true=> .ok (.ff j) z|false=> .stuck) vs (λj x9=>?_) rfl
   cases ar:small j with
   |true=>refine(?_:Res.ok _ _=(match small j with|true=>_|false=>_));exact ab ar rfl
   |false=>rfl
  |exc z=>rfl
  |stuck=>rfl
 refine ab bd ?_;refine av.seq (t:=bj (eval (.Call (.Name x p) [a] [] pos) J)) (f:=λu A Q E s=>wpAny (model prog w) A (pyIter u) (λi bE=>∃it c,i= .ref it/\Q (it,c) bE) E s) sm ((S4 (pos:=pos) (p:=p) aN aw ag hf aL S5 C z (n:=n) (Y:=Y) (D:=zy) (g:=my)).pre λx9 x9 x9 q=>q.1) λj σ' u=>?_
 cases ar:small j with
 |false=>exact .stuck
 |true=>exact(S6 (ic ar)).pre λx9 x9 x9 q=>⟨q.2,q.1.2⟩
theorem DI{E:cc}(x:jx s.heap it c j src)(ar:noDict src=true)(h:Q (.ref it) s):wpAny (model prog w) A (pyIter (.ref it)) Q E s:=by
 cases src with
 |seq t l=>
  cases t with
  |false=>exact wpAny_pyIter_listiter x h
  |true=>exact wpAny_pyIter_tupleiter x h
 |live id=>exact wpAny_pyIter_listiter x h
 |ff j=>exact wpAny_pyIter_rangeiter x h
 |jb id=>exact b3 ar
abbrev S8(e:Expr)(aA:Scope)(J:Env):Addr->Addr->Addr->aY Unit:=λit acc D A Q E s=>codeAny (model prog w) A (.compStart e 0 (.ref it) (.ref acc) (dj aA D J)) (λr s'=>match r with| .ok _=>Q () s'| .error x=>E x s') s
abbrev so(oacc:Obj)(iterpt:aY (Addr×Addr))(lp:Addr->Addr->Addr->aY Unit):aY (Addr×Addr):=aY.bind iterpt λeY A Q E s=>
 (λacc A Q E s=>∀h' aR,h'.Ns s.heap.objs.size (λx9=>none)->Heap.SameBut s.heap.objs.size (s.heap.push {cls:= .type "dict",data:= .dict #[]}) h'->
  (λD=>aY.bind (lp eY.1 acc D) λx9=>aY.ret (acc,D)) s.heap.objs.size A Q E {s with heap:=h',toks:=aR}) s.heap.objs.size A Q E {s with heap:=s.heap.push oacc}
abbrev mz(Y:List Env)(J:Env)(it acc D:Addr)(oacc:Obj)(z:St)(I:bX)(Z:bY)(h:Heap):Prop:=(d1 Y acc I Z z h)/\(d1 Y D I Z z h)/\(d1 Y it I Z z h)/\(h.get? acc=some oacc)/\(h.Ns D (λx9=>none))/\(it≠acc)/\(it≠D)/\(acc≠D)/\(acc≠J.locals)/\(D≠J.locals)
section
variable(x:mz a b c d e f g ae i j)
def mz.nacc:=x.1
def mz.nD:=x.2.1
def mz.nit:=x.2.2.1
def mz.get:=x.2.2.2.1
def mz.ns:=x.2.2.2.2.1
def mz.ia:=x.2.2.2.2.2.1
def mz.iD:=x.2.2.2.2.2.2.1
def mz.zz:=x.2.2.2.2.2.2.2.1
def mz.dl:=x.2.2.2.2.2.2.2.2.2
end
theorem DJ{Di:Nat->eg (Addr×Addr) jZ}{D₁:Addr->Addr->eg Unit bG}{r:Res jZ}{walk:jZ->St->Res bG}(hf:oacc.isFreed=false)
  (S9:∀n0 g p,po (λz I Z h=>Di n0 z I Z h g p) (λz I Z h=>Di n0 z I Z h g p)) (lx:∀n0 z I Z h g p,Di n0 z I Z h g p->d1 Y p.1 I Z z h/\n0<=p.1)
  (jX:∀n0,av aG (Di n0) n Y (λz I Z h=>bk J C z I Z h/\n0<=h.objs.size) z iterpt r)
  (DK:∀n0 it c acc D g z,av (λb=>b=it\/b=acc\/b=D) (λz I Z h b(u:Unit)=>D₁ acc D z I Z h b u) n Y (λz I Z h=>bk J C z I Z h/\Di n0 z I Z h g (it,c)/\mz Y J it acc D oacc z I Z h) z (lp it acc D) (walk g z)) (n0:Nat):
  av (λb=>n0<=b) (λz I Z h b(p:Addr×Addr)=>D₁ p.1 p.2 z I Z h b ()/\n0<=p.1/\n0<=p.2) n Y (λz I Z h=>bk J C z I Z h/\n0<=h.objs.size) z (so oacc iterpt lp) (r.bind walk):=by
 refine av.dv (O₁:=aG) (λx9 q=>q.elim) (D₁:=Di n0) sm (jX n0) λsrc σ' eY=>?_;have Ta:po (λz I Z h=>bk J C z I Z h/\n0<=h.objs.size) (λz I Z h=>bk J C z I Z h/\n0<=h.objs.size):=Goes.zw (Y:=Y) sm;have zA:po (λz I Z h=>(bk J C z I Z h/\n0<=h.objs.size)/\Di n0 z I Z h src (eY.1,eY.2)) (λz I Z h=>(bk J C z I Z h/\n0<=h.objs.size)/\Di n0 z I Z h src (eY.1,eY.2)):=λx9 x9 x9 x9 x9 ag ar y=>⟨Ta _ _ _ _ _ ag ar y.1,S9 n0 src (eY.1,eY.2) _ _ _ _ _ ag ar y.2⟩
 refine av.Jr (z:=σ') (X:=λb=>b<n0\/b=eY.1\/b=J.locals) (o:=oacc) (W:=λacc A Q E s=>∀h' aR,h'.Ns s.heap.objs.size (λx9=>none)->Heap.SameBut s.heap.objs.size (s.heap.push {cls:= .type "dict",data:= .dict #[]}) h'->
  (λD=>aY.bind (lp eY.1 acc D) λx9=>aY.ret (acc,D)) s.heap.objs.size A Q E {s with heap:=h',toks:=aR}) hf zA (λacc=>?_) λI Z h b q ai=>by
  rcases ai with ai|ai|ai
  ·exact hF ai q.1.2
  ·exact ai▸(lx _ _ _ _ _ _ _ q.2).1.lt
  ·refine a4 q.1.1.ns ?_;intro m aJ x9;exact ai▸aJ.lt
 have sp:po (λz I Z h=>((bk J C z I Z h/\n0<=h.objs.size)/\Di n0 z I Z h src (eY.1,eY.2))/\d1 Y acc I Z z h/\h.get? acc=some oacc/\∀b,(b<n0\/b=eY.1\/b=J.locals)->b<acc)
   (λz I Z h=>((bk J C z I Z h/\n0<=h.objs.size)/\Di n0 z I Z h src (eY.1,eY.2))/\d1 Y acc I Z z h/\h.get? acc=some oacc/\∀b,(b<n0\/b=eY.1\/b=J.locals)->b<acc):=
  λx9 x9 x9 x9 x9 ag ar y=>⟨zA _ _ _ _ _ ag ar y.1,(λ{b}x9 x9 x9 x9 x9 ag ar N=>N.ext (O:=aG) (ee.grow ag ar).fN:∀{b:Addr},po (λz I Z h=>d1 Y b I Z z h) (λz I Z h=>d1 Y b I Z z h)) _ _ _ _ _ ag ar y.2.1,ag _ _ y.2.2.1,y.2.2.2⟩
 refine av.SY (z:=σ') (X:=λb=>b<n0\/b=eY.1\/b=acc\/b=J.locals) (W:=λD=>aY.bind (lp eY.1 acc D) λx9=>aY.ret (acc,D)) {cls:= .type "dict",data:= .dict #[]} sp (λD=>?_) λI Z h b q ai=>by
  rcases ai with ai|ai|ai|ai
  ·exact hF ai q.1.1.2
  ·exact ai▸(lx _ _ _ _ _ _ _ q.1.2).1.lt
  ·exact ai▸q.2.1.lt
  ·refine a4 q.1.1.1.ns ?_;intro m aJ x9;exact ai▸aJ.lt
 have bd:walk src σ'=(walk src σ').bind λl z=> .ok l z:=(Res.lw _).symm;refine ab bd ?_
 have ge:∀{b:Nat},(∀cV,cV<n0->cV<b)->n0<=b:=λ{b}q=>by
  refine Or.elim (Nat.lt_or_ge b n0) (λgL=>?_) λgL=>?_
  ·exact bf (q b gL) (e0 _)
  ·exact gL
 refine av.DF (O:=λb=>(b=eY.1\/b=acc\/b=D)\/False) ?_ λI Z h q b ai=>?_
 ·refine av.dv (O₁:=λb=>b=eY.1\/b=acc\/b=D) (Kp:=λx9 x9 x9 x9=>n0<=acc/\n0<=D) (λx9 q=> .inl q) ⟨λx9 q=>⟨ge λcV ai=>q.1.2.2.2 cV (.inl ai),ge λcV ai=>q.2.2.2 cV (.inl ai)⟩⟩ ((DK n0 eY.1 eY.2 acc D src σ').pre λI Z h q=>?_) λl fc x9=> .ret λI Z h q=>(fs q.2 q.1.1 q.1.2);refine l3 q.1 ?_;rintro⟨⟨F,aq⟩,aW⟩ r3 ga JC;refine eU q.2 ?_;intro nD ns DL;have wK:∀{a b:Nat},a<b->a≠b:=λh q=>bf (q▸h) (e0 _);exact⟨F,aW,r3,nD,(lx _ _ _ _ _ _ _ aW).1,ga,ns,wK (JC eY.1 (.inr (.inl rfl))),wK (DL eY.1 (.inr (.inl rfl))),wK (DL acc (.inr (.inr (.inl rfl)))),λq=>wK (JC J.locals (.inr (.inr rfl))) q.symm,λq=>wK (DL J.locals (.inr (.inr (.inr rfl)))) q.symm⟩
 ·rcases ai with(rfl|rfl|rfl)|ai
  ·exact .inl (.inl (lx _ _ _ _ _ _ _ q.1.1.2).2)
  ·exact .inl (.inr rfl)
  ·exact .inr rfl
  ·exact ai.elim
abbrev pr(Y:List Env)(acc D:Addr)(l:List V)(z:St)(I:bX)(Z:bY)(h:Heap):Prop:=(d1 Y acc I Z z h)/\(d1 Y D I Z z h)/\(∃vs,SeqAt h acc false vs/\bn I Z l vs)/\(∃m,h.Ns D m)/\(acc≠D)
section
variable(x:pr a b c d e f g ae)
def pr.nacc:=x.1
def pr.nD:=x.2.1
def pr.seq:=x.2.2.1
def pr.ns:=x.2.2.2.1
def pr.ba:=x.2.2.2.2
end
theorem c3.ce(X:c3 Y J C acc D l bs z I Z h):pr Y acc D l z I Z h:=⟨X.nacc,X.nD,X.seq,a4 X.ns λm aq x9=>(yn m aq),X.ba⟩
abbrev wL(Y:List Env)(n0:Nat):eg (Addr×Addr) (List V):=λz I Z h l p=>pr Y p.1 p.2 l z I Z h/\n0<=p.1/\n0<=p.2
theorem DM(jX:∀n0,av aG (lE Y n0) n Y (λz I Z h=>bk J C z I Z h/\n0<=h.objs.size) z iterpt r)
  (DK:∀it c acc D src z,av (λb=>b=it\/b=acc\/b=D) (λz I Z h l(x9:Unit)=>c3 Y J C acc D l [] z I Z h) n Y (λz I Z h=>c3 Y J C acc D [] [] z I Z h/\fP Y it c acc D src 0 z I Z h) z (lp it acc D) (walk src z)) (n0:Nat):
  av (λb=>n0<=b) (wL Y n0) n Y (λz I Z h=>bk J C z I Z h/\n0<=h.objs.size) z (so {cls:= .type "list",data:= .seq ([]:List Value).toArray} iterpt lp) (r.bind walk):=
 (DJ (Di:=lE Y) (D₁:=λacc D z I Z h l x9=>c3 Y J C acc D l [] z I Z h) rfl (λn0 g p=>Goes.zw (Y:=Y) ⟨λx d=>Jt.out x d⟩) (λx9 x9 x9 x9 x9 x9 x9 d=>⟨d.1.2.2.2,d.2⟩) jX (λn0 it c acc D src z=>(DK it c acc D src z).pre λI Z h⟨F,⟨⟨gi,hl,uC,wM⟩,DN⟩,b⟩=>
  ⟨⟨F,b.nacc,b.nD,(bq ([]) ⟨0,b.get⟩ .nil),(bq _ b.ns trivial),b.dl⟩,⟨gi,hl,uC,wM,b.ia,b.iD⟩⟩) n0).post λx9 x9 x9 x9 x9 x9 d=>⟨d.1.ce,d.2⟩
abbrev zB:Addr×Addr->aY Value:=λp x9 Q x9 s=>∃m,s.heap.Ns p.2 m/\∀h',Heap.SameBut p.2 s.heap h'->Q (.ref p.1) {s with heap:=h'}
noncomputable def gv(tag:Option Nat)(l:List V)(z:St):Res V:=match tag with
 |some tag=>match z.dI tag with
  |true=> .ok (.ref (z.aT tag)) (z.new tag (.list l.length l))
  |false=> .stuck
 |none=> .ok (.aD l.length l) z
theorem JD(tag:Option Nat)(l:List V)(z:St):(gv tag l z).cx=gv tag l z:=by
 unfold gv
 cases tag with
 |none=>rfl
 |some t=>dsimp only;cases z.dI t<;>rfl
theorem Tb(e:gv tag l z= .ok v σ')(R:bu I Z z h)(N:d1 Y acc I Z z h)(X:∃vs,SeqAt h acc false vs/\bn I Z l vs)(aq:n0<=acc)(ar:n0<=h.objs.size):
  ∃κ' Z',iO n0 Y aG I Z z h κ' Z' σ' h/\bu κ' Z' σ' h/\Den κ' Z' v (.ref acc)/\(σ'.log->z.log):=by
 refine a4 X ?_;try clear X;intro vs ii ak;unfold gv at e
 cases tag with
 |none=>cases e;refine bC (R.wt ⟨N.foot,N.zet⟩ ii) ?_;intro bW hz;exact rm I _ (iO.wt aq hz ar) bW (.aD (df rfl) (ak.mono (.refl _) hz) (b8 _)) id
 |some t=>
  dsimp only at e
  cases ai:z.dI t with
  |false=>rw[ai]at e;injection e
  |true=>replace e:=ai▸e;cases e;refine bC (R.claim (h':=h) (o:= .list l.length l) ai ⟨N.foot,N.zet,N.base,N.sys⟩ ⟨N.foot,N.zet,N.base,N.sys⟩ ⟨rfl,vs,ii,ak,b8 _⟩ λx9 x9 x9 x9 e=>e) ?_;intro bW gs;exact rm _ Z (iO.claim aq aq gs ar) bW (.ref (df rfl)) id
theorem zC
  (h:∀n0,av (λb=>n0<=b) (wL Y n0) n Y (λz I Z h=>bk J C z I Z h/\n0<=h.objs.size) z t r):
  av aG bb n Y (bk J C) z (t.bind zB) (r.bind (gv tag)):=by
 refine av.DE h (λl z=>JD tag l z) λl c1 v ef e=>⟨?_,λn0 A I Z s Q E p aP aw aS am aq d aC=>?_⟩
 ·intro aP;unfold gv at e
  cases tag with
  |none=>cases e;exact aP
  |some t=>
   dsimp only at e
   cases ai:c1.dI t with
   |false=>rw[ai]at e;injection e
   |true=>replace e:=ai▸e;cases e;exact aP
 ·refine eU d ?_;try clear d;intro X c4 dg;refine cL X.ns ?_;intro m cp;refine bq m cp (λh' dE=>?_);refine bC (bu.gK (R:=am) X.nD dE.extBut (fr dE.1.symm)) ?_;intro bW x;refine fk (Tb e bW (X.nacc.ext x) (let⟨vs,⟨k,ae⟩,af⟩:=X.seq;(bq vs ⟨k,dE.extBut _ _ X.ba ae⟩ af):∃vs,SeqAt h' p.1 false vs/\bn I Z l vs) c4 (by refine ab dE.1 ?_;exact aq)) ?_;intro κ' Z' y kn ng x9;exact aC κ' Z' h' s.toks _ ((x.DC aq λb ai q=>bf ai (Nat.not_lt.mpr (q▸dg))).trans y) kn ng
end
theorem Tc:∀{l:List Str},yM x l=true->x∈l:=by
 intro br
 induction br with
 |nil=>intro h;exact b3 h
 |cons y r ih=>
  intro h;dsimp only[yM]at h
  split at h
  ·rename_i q;refine ab (iM q) ?_;exact .head _
  ·exact .tail _ (ih h)
theorem wN(h:jq l aA=true)(aQ:aA.lookup x=some .local):x=".0"\/x∈l:=by
 have:=List.all_eq_true.mp h _ (uA aQ);dsimp only at this;clear aQ h aA
 cases Tc this with
 |head=>exact .inl rfl
 |tail be q=>exact .inr q
theorem gw(C:aK)(x y:Nat)(v:V):C.set x v y=if y=x then some v else C y:=by
 unfold aK.set
 cases h:Nat.beq y x with
 |true=>exact ab (df (cj h)) rfl
 |false=>exact ab (cO (kc h)) rfl
theorem kW.one(ak:jq [s] aA.names=true)(ar:aA.names.lookup s=some .local)(bx:y<T.bV)(fQ:s=T.nm y)(bI:ch.Inj)(gk:∀x,x<T.bV->T.nm x≠".0")(C:aK)(v:V):
  kW aA C (C.set y v) [(s,v)] where
 aa:=λx u aQ e k=>by
  rw[gw]at e
  rcases wN ak k with q|q
  ·exact bf q (gk x aQ)
  ·have q:T.nm x=s:=by cases q with|head=>rfl|tail be q=>cases q
   have:x=y:=bI x y aQ bx (q.trans fQ);subst this;replace e:=(df rfl).symm.trans e;refine ab (a8 e) ?_;refine ab fQ ?_;exact .head _
 free:=λx u e k=>by
  rw[gw]at e
  by_cases q:x=y
  ·subst q;rw[<-fQ,ar]at k;exact nomatch k
  ·rw[if_neg q]at e;exact e
 dom:=λx u e=>by
  rw[gw]at e
  by_cases q:x=y
  ·exact .inl (q▸bx)
  ·rw[if_neg q]at e;exact .inr (by refine ab e ?_;simp)
section
variable{n:Nat}{Y:List Env}{z:St}
variable{P:ca}{F:bT}{J:Env}
theorem av.DO{O:Addr->Prop}{D:eg aI bG}{t:aY aI}{r:Res bG}(h:av O D n Y bo z t r.cx):av O D n Y bo z (λA Q x9 s=>∀nk,t A Q nk s) r.cx:=by
 cases r with
 |ok b σ'=>exact⟨h.1,λaP A I Z s Q E aw aS am aj aC nk=>h.2 aP A I Z s Q nk aw aS am aj aC⟩
 |exc σ'=>trivial
 |stuck=>trivial
abbrev nl(e:Expr)(aA:Scope)(J:Env):Addr->Addr->Addr->aY Unit:=λit acc D A Q x9 s=>∀nk,S8 e aA J it acc D A Q nk s
theorem zD(h:fL x=true)(v:Value):foldedSetIterable x J v=pure v:=by cases x<;>first|rfl|exact b3 h
theorem JE(S:fH J.scope.names aA)(Td:clausesOf e=g::bU)(cp:fL g.iter=true)
  (wO:∀{A:Around}{s:Shared}{Q:cc}{E:cc},Q (.ref s.heap.objs.size) {s with heap:=s.heap.push oacc}->wpAny (model prog w) A Te Q E s)
  (Tf:∀{A:Around}{s:Shared}{Q:Addr×Addr->Shared->Prop}{E:cc},iterpt A Q E s->wpAny (model prog w) A first (λv cr=>wpAny (model prog w) A (pyIter v) (λi bE=>∃it c,i= .ref it/\Q (it,c) bE) E cr) E s)
  {E:cc} (dU:bk J C z I Z s.heap)
  (hf:∀acc D s',f (acc,D) A Q E s'->compPost (model prog w) A E use Q (.ref acc) D (.ok .next) s')
  (q:(aY.bind (so oacc iterpt (nl e aA J)) f) A Q E s) (zE:Pos):
  wpAny (model prog w) A (comprehension e aA J zE Te false first use) Q E s:=by
 refine wpAny_comprehension_free Td (zD cp) (dU.closure S) S.kind S.aa ?_;refine cd (Tf q) (λv cr bO=>cd bO (λi bE c2=>?_) λx9 x9 x=>x) λx9 x9 x=>x;refine cS c2 ?_;try clear c2;intro zF c cy c2;refine ab cy ?_;refine wO (wpAny_newFunctionEnv S.Jl (by intro y bx;simp at bx) (λh' aq dE=>?_) S.kind);have:=c2 h' (bE.toks+0) aq dE (λx s'=>compPost (model prog w) A E use Q (.ref bE.heap.objs.size) (bE.heap.push oacc).objs.size (.error x) s');refine codeAny_mono this λr s' aw=>?_
 cases r with
 |ok cs=>have:=hf _ _ s' aw;cases use<;>exact this
 |error x=>exact aw
theorem wQ(S:fH J.scope.names aA)(cp:fL it=true)
  {E:cc} (dU:bk J C z I Z s.heap)
  (hf:∀acc D s',f (acc,D) A Q E s'->compPost (model prog w) A E use Q (.ref acc) D (.ok .next) s')
  (q:(aY.bind (so {cls:= .type "list",data:= .seq ([]:List Value).toArray} (n3 it J) (nl (.ListComp dx (⟨target,it,ifs,0⟩::bU) aA pos) aA J)) f) A Q E s) (zE:Pos):
  wpAny (model prog w) A (comprehension (.ListComp dx (⟨target,it,ifs,0⟩::bU) aA pos) aA J zE (newList []) false (eval it J) use) Q E s:=
 JE S rfl cp (λq=>wpAny_newObj_type q) (λq=>q) dU hf q zE
theorem JF(S:fH J.scope.names aA)(ar:aA.names.lookup s=some .local)
  (ai:∀v,kW aA C (C.set y v) [(s,v)]) (jy:bZ P F n Y (dj aA D J) bP dx) (ku:fG P F n Y (dj aA D J) cU ifs) (z:St):
  av (λb=>b=it\/b=acc\/b=D) (λz I Z h l(x9:Unit)=>c3 Y J C acc D l [] z I Z h) n Y (λz I Z h=>c3 Y J C acc D [] [] z I Z h/\fP Y it c acc D src 0 z I Z h) z
   (nl (.ListComp dx [⟨.Name s p,iter,ifs,0⟩] aA pos) aA J it acc D) (kY (hT P F bP y cU C) src [] z).cx:=by
 have iI:∀k,av (λb=>b=it\/b=acc\/b=D) (λz I Z h l(x9:Unit)=>c3 Y J C acc D l [] z I Z h) n Y (λz I Z h=>c3 Y J C acc D [] [] z I Z h/\fP Y it c acc D src 0 z I Z h) z
   (nl (.ListComp dx [⟨.Name s p,iter,ifs,0⟩] aA pos) aA J it acc D) (hn (hT P F bP y cU C) src k 0 [] z).cx:=λk=>by
  refine av.DO ((SX (p:=p) (iter:=iter) (pos:=pos) S ar ai jy ku k 0 [] z).f0 λA I Z st Q E x9 x9 x9 aj q=>?_);exact codeAny_compStart_list q (DI aj.2.iter aj.2.nd q)
 cases src with
 |seq t l=>exact iI _
 |live id=>exact iI _
 |ff j=>exact iI _
 |jb id=>exact .stuck
theorem Res.sq(r:Res aI)(f:aI->St->Res bG)(g:bG->St->Res jZ):(r.bind f).bind g=r.bind λa z=>(f a z).bind g:=by cases r<;>rfl
theorem JG{O:Addr->Prop}{D':eg hv kQ}{g:V->St->Res kQ}{fin:Addr×Addr->aY hv}{tree:aY hv}(ps:bZ P F n Y J iter it)(S:fH J.scope.names aA)(ak:jq [s] aA.names=true)
  (ar:aA.names.lookup s=some .local) (bx:y<T.bV) (fQ:s=T.nm y) (bI:ch.Inj) (gk:∀x,x<T.bV->T.nm x≠".0") (jy:∀D,bZ P F n Y (dj aA D J) bP dx) (ku:∀D,fG P F n Y (dj aA D J) cU ifs) (C:aK) (z:St)
  (wF:∀{t:aY (Addr×Addr)}{r:Res (List V)},(∀n0,av (λb=>n0<=b) (wL Y n0) n Y (λz I Z h=>bk J C z I Z h/\n0<=h.objs.size) z t r)->av O D' n Y (bk J C) z (t.bind fin) ((r.bind (gv tag)).bind g))
  (DP:∀{A:Around}{I:bX}{Z:bY}{st:Shared}{Q:hv->Shared->Prop}{E:cc},bk J C z I Z st.heap->(aY.bind (so {cls:= .type "list",data:= .seq ([]:List Value).toArray} (n3 it J) (nl (.ListComp dx [⟨.Name s p,it,ifs,0⟩] aA pos) aA J)) fin) A Q E st->tree A Q E st):
  av O D' n Y (bk J C) z tree ((az P F (.comp tag bP y iter cU) C z).bind g):=by
 have aM:az P F (.comp tag bP y iter cU) C z=(((az P F iter C z).bind jY).bind λsrc z=>(kY (hT P F bP y cU C) src [] z).cx).bind (gv tag):=by
  refine(?_:((az P F iter C z).bind λit z=>(h7 (hT P F bP y cU C) it [] z).cx.bind (gv tag))=_);rw[Res.sq,Res.sq]
  congr 1
  funext v z
  rw[DG];unfold jY
  cases v with
  |aD b l=>rfl
  |ref id=>
   dsimp only
   cases z.heap id with
   |none=>rfl
   |some o=>cases o<;>rfl
  |_=>rfl
 refine ab aM ?_;exact(wF λn0=>DM (λn0=>av.jY (wI ps C z)) (λn6 c acc D src z=>JF (p:=p) (iter:=it) (pos:=pos) S ar (λv=> .one ak ar bx fQ bI gk C v) (jy D) (ku D) z) n0).f0 λA I Z st Q E x9 x9 x9 dU q=>DP dU q
theorem Tg(ps:bZ P F n Y J iter it)(S:fH J.scope.names aA)(cp:fL it=true)(ak:jq [s] aA.names=true)
  (ar:aA.names.lookup s=some .local) (bx:y<T.bV) (fQ:s=T.nm y) (bI:ch.Inj) (gk:∀x,x<T.bV->T.nm x≠".0") (jy:∀D,bZ P F n Y (dj aA D J) bP dx) (ku:∀D,fG P F n Y (dj aA D J) cU ifs):
  bZ P F n Y J (.comp tag bP y iter cU) (.ListComp dx [⟨.Name s p,it,ifs,0⟩] aA pos):=by
 intro C z
 have:=JG (g:=λv z=> .ok v z) (fin:=zB) (tag:=tag) (tree:=bj (eval (.ListComp dx [⟨.Name s p,it,ifs,0⟩] aA pos) J)) (p:=p) (pos:=pos) ps S ak ar bx fQ bI gk jy ku C z (λh=>by rw[Res.lw];exact zC h) λdU q=>by
  exact wQ (use:=none) S cp dU (λx9 x9 x9 h=>h) q _
 rw[Res.lw]at this;exact this
theorem Th(aN:(x==("__debug__":Str))=false)(aw:Reads x (.type "range"))(ag:J.kindOf x=some .globalImplicit)(DQ:keeperOf (.type "range")=pure .machine)
  (aL:ie P F n Y J [k] [a]) (S:fH J.scope.names aA) (ak:jq [s] aA.names=true)
  (ar:aA.names.lookup s=some .local) (bx:y<T.bV) (fQ:s=T.nm y) (bI:ch.Inj) (gk:∀x,x<T.bV->T.nm x≠".0") (jy:∀D,bZ P F n Y (dj aA D J) bP dx):
  bZ P F n Y J (.oI bP y k) (.ListComp dx [⟨.Name s p, .Call (.Name x p1) [a] [] p2,[],0⟩] aA pos):=by
 intro C z
 have aM:az P F (.oI bP y k) C z=(((de P F [k] C z).bind λvs z=>(my vs z).bind λj z=> .ok (.ff j) z).bind λsrc z=>(kY (hT P F bP y [] C) src [] z).cx).bind (gv none):=by
  refine(?_:((az P F k C z).bind λdY z=>match dY with
   | .int (.ofNat j)=>match small j with
    |true=>(kf (hT P F bP y [] C) (hr j) [] z).cx.bind λl z=> .ok (.aD l.length l) z
    |false=> .stuck
   |_=> .stuck)=(((((az P F k C z).bind λv z=>(Res.ok [] z).bind λvs z=> .ok (v::vs) z)).bind λvs z=>(my vs z).bind λj z=> .ok (.ff j) z).bind λsrc z=>(kY (hT P F bP y [] C) src [] z).cx).bind (gv none))
  cases az P F k C z with
  |exc z=>rfl
  |stuck=>rfl
  |ok v z=>
   cases v with
   |int i=>
    cases i with
    |negSucc m=>rfl
    |ofNat j=>
     refine(?_:(match small j with
      |true=>(kf (hT P F bP y [] C) (hr j) [] z).cx.bind λl z=> .ok (V.aD l.length l) z
      |false=> .stuck)=((((match small j with
      |true=>Res.ok j z
      |false=>Res.stuck).bind λj z=> .ok (Src.ff j) z)).bind λsrc z=>(kY (hT P F bP y [] C) src [] z).cx).bind (gv none))
     cases small j with
     |false=>rfl
     |true=>refine(?_:_=(kY (hT P F bP y [] C) (.ff j) [] z).cx.bind (gv none));rw[<-S3];rfl
   |_=>rfl
 refine ab aM ?_;refine(zC λn0=>DM (λn0=>JB (p:=p1) (pos:=p2) aN aw ag DQ aL C z) (λn6 c acc D src z=>JF (p:=p) (iter:= .Call (.Name x p1) [a] [] p2) (pos:=pos) S ar (λv=> .one ak ar bx fQ bI gk C v) (jy D) .nil z) n0).f0 λA I Z st Q E x9 x9 x9 dU q=>?_;exact wQ (use:=none) S rfl dU (λx9 x9 x9 h=>h) q _
end
section
variable{n:Nat}{Y:List Env}{z:St}
variable{P:ca}{F:bT}{J:Env}
theorem Ti{bP t1 it1 t2 it2:Expr}{ifs:List Expr}{scope:Scope}{pos:Pos}{it acc:Value}{J:Env}(bH:∀v,letOwnedTupleGo t2 it v=pure ()):
  Jx (.ListComp bP [⟨t1,it1,[],0⟩,⟨t2,it2,ifs,0⟩] scope pos) 1 t2 ifs bP it acc J:=by
 revert bH;revert bP t1 it1 t2 it2 ifs scope pos it acc J;refine@(Qf ne ne ne ne ne ne ne ne ne ne ne ?elt9 ?t19 ?it19 ?t29 ?it29 ?ifs9 ?scope9 ?pos9 ?it9 ?acc9 ?env9 ?_ ?_)
 rotate_left 11
 (
 intro bH;intro A R s turn;refine codeAny_of_tree ?_;refine(?_:wpAny _ A ((compTurn (.ListComp ?elt9 [⟨?t19,?it19,[],0⟩,⟨?t29,?it29,?ifs9,0⟩] ?scope9 ?pos9) 1 ?it9 ?acc9 ?env9).onRaise (λx=>do noteFrame x ?env9;theTreesLotGoes x)) _ _ s);refine wpAny_noted ?_
 have aB:compTurn (.ListComp ?elt9 [⟨?t19,?it19,[],0⟩,⟨?t29,?it29,?ifs9,0⟩] ?scope9 ?pos9) 1 ?it9 ?acc9 ?env9=(do
   standAt (?it29).pos
   match<-pyNext ?it9 with
   |none=>pure (.done .next)
   |some v=>
    letOwnedTupleGo ?t29 ?it9 v
    assign ?t29 ?env9 v
    let mut ok:=true
    for c in ?ifs9 do
     if ok then ok<-isTrue c ?env9 (eval c ?env9)
    if ok then
     (do let _<-call (.builtin "list.append") [?acc9,<-eval ?elt9 ?env9])
    again (.compLoop (.ListComp ?elt9 [⟨?t19,?it19,[],0⟩,⟨?t29,?it29,?ifs9,0⟩] ?scope9 ?pos9) 1 ?it9 ?acc9 ?env9)):=by rfl
 refine ab aB ?_;refine aV (ha (aV (cd turn (λr cr bO=>?_) λx9 x9 h'=>h')))
 cases r with
 |none=>exact bQ bO
 |some v=>
  refine aV (wpAny_of_eq (bH v) ?_);refine aV (cd bO (λx9 bE c2=>aV (cd c2 (λok ej dQ=>?_) λx9 x9 h'=>h')) λx9 x9 h'=>h')
  cases ok with
  |false=>exact bQ ⟨rfl,dQ⟩
  |true=>
   exact aV (aV (cd dQ (λx lF kX=>aV (cd kX (λx9 mx n5=>bQ (bQ ⟨rfl,n5⟩)) λx9 x9 h'=>h')) λx9 x9 h'=>h')))
 rfl
theorem Tj{bP t1 it1 t2 it2:Expr}{ifs:List Expr}{scope:Scope}{pos:Pos}{it acc:Value}{J:Env}(bH:∀v,letOwnedTupleGo t1 it v=pure ())(cp:fL it2=true){A:Around}{R:Result->Shared->Prop}{s:Shared}(JH:cc)
  (turn:wpAny (model prog w) A (pyNext it) (λr cr=>match r with
   |none=>R (.ok .next) cr
   |some v=>wpAny (model prog w) A (assign t1 J v) (λx9 bE=>
     wpAny (model prog w) A (eval it2 J) (λx ej=>wpAny (model prog w) A (pyIter x) (λi lF=>
      codeAny (model prog w) A (.compStart (.ListComp bP [⟨t1,it1,[],0⟩,⟨t2,it2,ifs,0⟩] scope pos) 1 i acc J) (λr mx=>match r with| .ok _=>codeAny (model prog w) A (.compLoop (.ListComp bP [⟨t1,it1,[],0⟩,⟨t2,it2,ifs,0⟩] scope pos) 0 it acc J) R mx| .error x=>False) lF)
      (notedBy (model prog w) A J λe s'=>R (.error e) s') ej) (notedBy (model prog w) A J λe s'=>R (.error e) s') bE) (notedBy (model prog w) A J λe s'=>R (.error e) s') cr) (notedBy (model prog w) A J λe s'=>R (.error e) s') s):
  codeAny (model prog w) A (.compLoop (.ListComp bP [⟨t1,it1,[],0⟩,⟨t2,it2,ifs,0⟩] scope pos) 0 it acc J) R s:=by
 revert bH cp R s JH turn;revert bP t1 it1 t2 it2 ifs scope pos it acc J A;refine@(rX ne ne ne ne ne ne ne ne ne ne ne m2 ?elt9 ?t19 ?it19 ?t29 ?it29 ?ifs9 ?scope9 ?pos9 ?it9 ?acc9 ?env9 ?A9 ?_ ?_)
 rotate_left 12
 (
 intro bH cp R s JH turn;refine codeAny_of_tree ?_;refine(?_:wpAny _ ?A9 ((compTurn (.ListComp ?elt9 [⟨?t19,?it19,[],0⟩,⟨?t29,?it29,?ifs9,0⟩] ?scope9 ?pos9) 0 ?it9 ?acc9 ?env9).onRaise (λx=>do noteFrame x ?env9;theTreesLotGoes x)) _ _ s);refine wpAny_noted ?_
 have aB:compTurn (.ListComp ?elt9 [⟨?t19,?it19,[],0⟩,⟨?t29,?it29,?ifs9,0⟩] ?scope9 ?pos9) 0 ?it9 ?acc9 ?env9=(do
   standAt (?it19).pos
   match<-pyNext ?it9 with
   |none=>pure (.done .next)
   |some v=>
    letOwnedTupleGo ?t19 ?it9 v
    assign ?t19 ?env9 v
    let x<-eval ?it29 ?env9
    standAt (?it29).pos
    let x<-foldedSetIterable ?it29 ?env9 x
    let _<-runOwn (.compStart (.ListComp ?elt9 [⟨?t19,?it19,[],0⟩,⟨?t29,?it29,?ifs9,0⟩] ?scope9 ?pos9) 1 (<-holding [x] (pyIter x)) ?acc9 ?env9) ?env9
    again (.compLoop (.ListComp ?elt9 [⟨?t19,?it19,[],0⟩,⟨?t29,?it29,?ifs9,0⟩] ?scope9 ?pos9) 0 ?it9 ?acc9 ?env9)):=by rfl
 refine ab aB ?_;refine aV (ha (aV (cd turn (λr cr bO=>?_) λx9 x9 h'=>h')))
 cases r with
 |none=>exact bQ bO
 |some v=>
  refine aV (wpAny_of_eq (bH v) ?_);refine aV (cd bO (λx9 bE c2=>aV (cd c2 (λx ej dQ=>?_) λx9 x9 h'=>h')) λx9 x9 h'=>h');refine aV (ha (aV (wpAny_of_eq (zD cp x) (aV (hI (cd dQ (λi lF kX=>?_) λx9 x9 h'=>h'))))));refine aV (wpAny_runOwn (codeAny_mono kX λr mx n5=>?_))
  cases r with
  |ok f=>exact bQ ⟨rfl,n5⟩
  |error x=>exact n5.elim)
 rfl
theorem Tl
  (h0:codeAny (model prog w) A (.compLoop (.ListComp bP [⟨t1,it1,DR,0⟩,⟨t2,it2,DS,0⟩] scope pos) 1 it acc J) R s)
  (h:wpAny (model prog w) A (pyIter it) (λzF s'=>codeAny (model prog w) A (.compLoop (.ListComp bP [⟨t1,it1,DR,0⟩,⟨t2,it2,DS,0⟩] scope pos) 1 zF acc J) R s')
   (notedBy (model prog w) A J λx s'=>R (.error x) s') s):
  codeAny (model prog w) A (.compStart (.ListComp bP [⟨t1,it1,DR,0⟩,⟨t2,it2,DS,0⟩] scope pos) 1 it acc J) R s:=by
 refine codeAny_of_tree ?_;refine(?_:wpAny _ _ ((compStart (.ListComp bP [⟨t1,it1,DR,0⟩,⟨t2,it2,DS,0⟩] scope pos) 1 it acc J).onRaise (λx=>do noteFrame x J;standAt theWindowsPlace)) _ _ s);refine wpAny_notedAt ?_;refine(?_:wpAny _ _ (ask>>=_) _ _ s);refine aV (wpAny_askSetting (wpAny_ite ?_))
 split
 ·first
   |exact aV (bQ (bQ (And.intro rfl h0)))
   |exact bQ (And.intro rfl h0)
 ·first
   |exact aV (wpAny_rule (aV (ha (aV (cd h (λzF s' h'=>bQ (And.intro rfl h')) λx9 x9 x=>x)))))
   |(refine aV (wpAny_rule ?_);show wpAny _ _ (standAt it2.pos>>=_) _ _ s;exact aV (ha (aV (cd h (λzF s' h'=>bQ (And.intro rfl h')) λx9 x9 x=>x))))
theorem kW.Tn(ak:jq [s,cC] aA.names=true)(ar:aA.names.lookup s=some .local)(bx:y<T.bV)(hz:aE<T.bV)(fQ:s=T.nm y)(cW:cC=T.nm aE)(mA:y≠aE)(bI:ch.Inj)(gk:∀x,x<T.bV->T.nm x≠".0")(C:aK)(DT:C aE=none)(v:V):
  kW aA C (C.set y v) [(s,v)] where
 aa:=λx u aQ e k=>by
  rw[gw]at e
  rcases wN ak k with q|q
  ·exact bf q (gk x aQ)
  ·cases q with
   |head=>have ae:x=y:=bI x y aQ bx fQ;subst ae;replace e:=(df rfl).symm.trans e;refine ab (a8 e) ?_;exact .head _
   |tail be q=>
    clear gk ak
    cases q with
    |head=>have ae:x=aE:=bI x aE aQ hz cW;clear aQ bI cW hz;subst ae;rw[if_neg (λq=>mA q.symm),DT]at e;exact ns e
    |tail be q=>cases q
 free:=λx u e k=>by
  rw[gw]at e
  by_cases q:x=y
  ·subst q;rw[<-fQ,ar]at k;exact nomatch k
  ·rw[if_neg q]at e;exact e
 dom:=λx u e=>by
  rw[gw]at e
  by_cases q:x=y
  ·exact .inl (q▸bx)
  ·rw[if_neg q]at e;exact .inr (by refine ab e ?_;simp)
theorem kW.two(ak:jq [s,cC] aA.names=true)(ar:aA.names.lookup s=some .local)(uD:aA.names.lookup cC=some .local)(bx:y<T.bV)(hz:aE<T.bV)(fQ:s=T.nm y)(cW:cC=T.nm aE)(mA:y≠aE)(bI:ch.Inj)(gk:∀x,x<T.bV->T.nm x≠".0")(C:aK)(v u:V):
  kW aA C ((C.set y v).set aE u) [(cC,u),(s,v)] where
 aa:=λx a aQ e k=>by
  rw[gw,gw]at e
  rcases wN ak k with q|q
  ·exact bf q (gk x aQ)
  ·cases q with
   |head=>have ae:x=y:=bI x y aQ bx fQ;subst ae;rw[if_neg mA,if_pos rfl]at e;refine bM (a8 e) ?_;exact .tail _ (.head _)
   |tail be q=>
    clear gk mA ak
    cases q with
    |head=>have ae:x=aE:=bI x aE aQ hz cW;clear aQ bI;subst ae;replace e:=(df rfl).symm.trans e;refine ab (a8 e) ?_;exact .head _
    |tail be q=>exact nomatch q
 free:=λx a e k=>by
  rw[gw,gw]at e
  by_cases q:x=aE
  ·subst q;rw[<-cW,uD]at k;exact nomatch k
  ·replace e:=(cO q).symm.trans e
   by_cases q:x=y
   ·subst q;rw[<-fQ,ar]at k;exact nomatch k
   ·replace e:=(cO q).symm.trans e;exact e
 dom:=λx a e=>by
  rw[gw,gw]at e
  by_cases q:x=aE
  ·exact .inl (q▸hz)
  ·rw[if_neg q]at e
   by_cases q:x=y
   ·exact .inl (q▸bx)
   ·rw[if_neg q]at e;exact .inr (by refine ab e ?_;simp)
abbrev qB(P:ca)(F:bT)(bP:E)(y:Nat)(gQ:E)(aE:Nat)(cU:List E)(C:aK):V->List V->St->Res (List V):=λw acc z=>(az P F gQ (C.set y w) z).bind λit2 z=>h7 (hT P F bP aE cU (C.set y w)) it2 acc z
abbrev zG(e:Expr)(acc:Addr)(cenv:Env):Addr->aY Unit:=λit A Q x9 s=>∀nk:cc,codeAny (model prog w) A (.compStart e 1 (.ref it) (.ref acc) cenv) (λr s'=>match r with| .ok _=>Q () s'| .error x=>nk x s') s
theorem To(S:fH J.scope.names aA)(cp:fL lG=true)(ak:jq [s,cC] aA.names=true)
  (ar:aA.names.lookup s=some .local) (uD:aA.names.lookup cC=some .local) (bx:y<T.bV) (hz:aE<T.bV) (fQ:s=T.nm y) (cW:cC=T.nm aE) (mA:y≠aE) (bI:ch.Inj) (gk:∀x,x<T.bV->T.nm x≠".0")
  (sr:∀v,kW aA C (C.set y v) [(s,v)])
  (DU:bZ P F n Y (dj aA D J) gQ lG) (jy:bZ P F n Y (dj aA D J) bP dx) (ku:fG P F n Y (dj aA D J) cU ifs):
  ∀(k j:Nat)(l:List V)(z:St),av (λb=>b=it\/b=acc\/b=D) (λz I Z h l(x9:Unit)=>c3 Y J C acc D l [] z I Z h) n Y (λz I Z h=>c3 Y J C acc D l [] z I Z h/\fP Y it c acc D src j z I Z h) z
   (DA (.ListComp dx [⟨.Name s p,it1,[],0⟩,⟨.Name cC p2,lG,ifs,0⟩] aA pos) 0 (.ref it) (.ref acc) (dj aA D J)) (hn (qB P F bP y gQ aE cU C) src k j l z).cx:=by
 have Tp:s≠cC:=λq=>mA (bI y aE bx hz (by exact bM fQ (bM cW (ab q rfl))))
 refine Jq (c:=c) (Inv:=λj l z I Z h=>c3 Y J C acc D l [] z I Z h/\fP Y it c acc D src j z I Z h) (Mid:=λj l v u z I Z h=>(c3 Y J C acc D l [] z I Z h/\fP Y it c acc D src (j+1) z I Z h)/\Den I Z v u)
  (Fin:=λl z I Z h=>c3 Y J C acc D l [] z I Z h)
  (body:=λu=>aY.bind (bj (assign (.Name s p) (dj aA D J) u)) λx9=>aY.bind (n3 lG (dj aA D J)) λeY=>zG (.ListComp dx [⟨.Name s p,it1,[],0⟩,⟨.Name cC p2,lG,ifs,0⟩] aA pos) acc (dj aA D J) eY.1)
  (λA E=>notedBy (model prog w) A (dj aA D J) λe s'=>E e s') (.inl rfl) (λj l z I Z h X=>(fs X.2.sat X.2.iter X.2.nit)) ?_ ?_ ?_ ?_
 ·intro j l v u z I Z h κ' Z' h' X x d aW;have hf:=X.2.iter.fields X.2.nd;refine⟨⟨X.1.mw x λb q=>(h5 (q▸X.2.ia) (q▸X.2.iD) (q▸wJ X.1.frm hf) ?_),X.2.nd,X.2.sat.mono x.kle x.zle,aW,X.2.nit.ext x,X.2.ia,X.2.iD⟩,d⟩;refine cS hf ?_;try clear hf;intro o vs as aN;exact bq o (q▸as) (λv q=>by rw[aN]at q;cases q)
 ·intro j l z I Z h κ' Z' h' X x;refine X.1.mw x λb q=>(h5 (q▸X.2.ia) (q▸X.2.iD) (q▸wJ X.1.frm (X.2.iter.fields X.2.nd)) ?_);refine cS ((X.2.iter.fields X.2.nd)) ?_;intro o vs as aN;exact bq o (q▸as) (λv q=>by rw[aN]at q;cases q)
 ·intro j l v u z;refine av.S2 λn0=>?_
  have step:(qB P F bP y gQ aE cU C v l z).cx=(Res.ok () z).bind λx9 z=>((az P F gQ (C.set y v) z).bind jY).cx.bind λpt z=>(kY (hT P F bP aE cU (C.set y v)) pt l z).cx:=by
   refine(?_:((az P F gQ (C.set y v) z).bind λit2 z=>h7 (hT P F bP aE cU (C.set y v)) it2 l z).cx=((az P F gQ (C.set y v) z).bind jY).cx.bind _);rw[<-Res.SF,Res.sq]
   congr 2
   funext it2 z
   exact DG _ _ _ _
  refine ab step ?_
  refine av.dv (O₁:=λb=>b=D) (Kp:=λz I Z h=>(n0<=h.objs.size/\it<n0/\acc<n0/\D<n0)) (λb q=> .inl (.inr (.inr q))) ⟨λx X=>(h5 (by refine bM X.2 ?_;exact x.size) (X.2▸X.1.1.2.nit.lt) (X.2▸X.1.1.1.nacc.lt) (X.2▸X.1.1.1.nD.lt))⟩
   ((lw (p:=p) S ar (bs:=[]) λx9 q=>by cases q).pre λx9 x9 x9 q=>q.1) λx9 z x9=>?_
  have bw:Goes Y aG (λz I Z h=>(n0<=h.objs.size/\it<n0/\acc<n0/\D<n0)/\c3 Y J C acc D l [(s,v)] z I Z h/\fP Y it c acc D src (j+1) z I Z h) (λz I Z h=>(n0<=h.objs.size/\it<n0/\acc<n0/\D<n0)/\c3 Y J C acc D l [(s,v)] z I Z h/\fP Y it c acc D src (j+1) z I Z h):=
   ⟨λx X=>(fs ⟨ct X.1.1 x.size,X.1.2⟩ (X.2.1.ext x) (X.2.2.mw x id))⟩
  refine av.dv (O₁:=aG) (λx9 q=>q.elim) (D₁:=lE Y n0) bw (av.cx ((av.jY (wI (n0:=n0) DU (C.set y v) z)).pre λx9 x9 x9 X=>⟨X.2.1.Dz S (sr v),X.1.1⟩)) λpt z eY=>?_;obtain⟨it2,sh⟩:=eY
  have iI:∀k,av (λb=>b=it2\/b=acc\/b=D) (λz I Z h i6(x9:Unit)=>c3 Y J C acc D i6 [(s,v)] z I Z h) n Y (λz I Z h=>c3 Y J C acc D l [(s,v)] z I Z h/\fP Y it2 sh acc D pt 0 z I Z h) z
    (zG (.ListComp dx [⟨.Name s p,it1,[],0⟩,⟨.Name cC p2,lG,ifs,0⟩] aA pos) acc (dj aA D J) it2) (hn (hT P F bP aE cU (C.set y v)) pt k 0 l z).cx:=λk=>by
   refine av.DO ((Jy (p:=p2) (lvI:=C.set y v) (bs:=[(s,v)]) (Ti (t1:= .Name s p) (it1:=it1) (t2:= .Name cC p2) (it2:=lG) (scope:=aA) (pos:=pos) λx9=>rfl) (λq cX=>by cases cX with|head=>exact Tp|tail be cX=>cases cX) S uD (λu=> .two ak ar uD bx hz fQ cW mA bI gk C v u) jy ku k 0 l z).f0 λA I Z st Q E x9 x9 x9 aj q=>?_);exact Tl q (DI aj.2.iter aj.2.nd q)
  have Tq:av (λb=>b=it2\/b=acc\/b=D) (λz I Z h i6(x9:Unit)=>c3 Y J C acc D i6 [(s,v)] z I Z h) n Y (λz I Z h=>c3 Y J C acc D l [(s,v)] z I Z h/\fP Y it2 sh acc D pt 0 z I Z h) z
    (zG (.ListComp dx [⟨.Name s p,it1,[],0⟩,⟨.Name cC p2,lG,ifs,0⟩] aA pos) acc (dj aA D J) it2) (kY (hT P F bP aE cU (C.set y v)) pt l z).cx:=by
   cases pt with
   |seq t l=>exact iI _
   |live id=>exact iI _
   |ff j=>exact iI _
   |jb id=>exact .stuck
  have bd:(kY (hT P F bP aE cU (C.set y v)) pt l z).cx=(kY (hT P F bP aE cU (C.set y v)) pt l z).cx.bind λl z=> .ok l z:=(Res.lw _).symm;refine ab bd ?_;refine(av.DF (O:=λb=>b=it2\/b=acc\/b=D) ?_ λI Z h q b ai=>?_).tree (t:=aY.bind (zG (.ListComp dx [⟨.Name s p,it1,[],0⟩,⟨.Name cC p2,lG,ifs,0⟩] aA pos) acc (dj aA D J) it2) λx9=>aY.ret ()) λA s Q E q=>q
  ·refine av.dv (O₁:=λb=>b=it2\/b=acc\/b=D) (Kp:=fP Y it c acc D src (j+1)) (λx9 q=>q) ⟨λx X=>X.1.2.2.mw x λq=>?_⟩ (Tq.pre λI Z h X=>?_) λi6 z x9=> .ret λI Z h X=>⟨X.2.forget,X.1⟩
   ·rcases q with q|q|q
    ·have ae:=X.2.2;have af:=X.1.1.2.1;rw[q]at af;exact bf af (Nat.not_lt.mpr ae)
    ·exact X.1.2.2.ia q
    ·exact X.1.2.2.iD q
   ·refine eU X ?_;try clear X;intro dZ dh DN;refine eU dZ ?_;try clear dZ;intro eX k2 hy;refine l3 dh ?_;try clear dh;intro gi hl uC wM;exact⟨k2,⟨gi,hl,uC,wM,λq=>by have af:=eX.2.2.1;rw[<-q]at af;exact bf af (Nat.not_lt.mpr DN),λq=>by have af:=eX.2.2.2;rw[<-q]at af;exact bf af (Nat.not_lt.mpr DN)⟩⟩
  ·rcases ai with rfl|rfl|rfl
   ·exact .inr q.2.2
   ·exact .inl (.inr (.inl rfl))
   ·exact .inl (.inr (.inr rfl))
 ·intro A Q E st q;refine Tj (λv=>rfl) cp (λx9 x9=>True) (cd q (λr cr bO=>?_) λx9 x9 x=>x)
  cases r with
  |none=>exact bO
  |some v=>refine cd bO (λx9 bE c2=>cd c2 (λx ej dQ=>cd dQ (λi lF kX=>?_) λx9 x9 x=>x) λx9 x9 x=>x) λx9 x9 x=>x;refine cS kX ?_;try clear kX;rintro it2 sh rfl kX;exact codeAny_mono (kX λx9 x9=>False) λr s' aw=>by cases r<;>exact aw
theorem Tr(ps:bZ P F n Y J iter it)(S:fH J.scope.names aA)(Ts:fL it=true)(cp:fL lG=true)(ak:jq [s,cC] aA.names=true)
  (ar:aA.names.lookup s=some .local) (uD:aA.names.lookup cC=some .local) (bx:y<T.bV) (hz:aE<T.bV) (fQ:s=T.nm y) (cW:cC=T.nm aE) (mA:y≠aE) (bI:ch.Inj) (gk:∀x,x<T.bV->T.nm x≠".0")
  (DU:∀D,bZ P F n Y (dj aA D J) gQ lG) (jy:∀D,bZ P F n Y (dj aA D J) bP dx) (ku:∀D,fG P F n Y (dj aA D J) cU ifs):
  bZ P F n Y J (.nP bP y iter aE gQ cU) (.ListComp dx [⟨.Name s p,it,[],0⟩,⟨.Name cC p2,lG,ifs,0⟩] aA pos):=by
 intro C z
 have h0:az P F (.nP bP y iter aE gQ cU) C z=match C aE with
  |some be=> .stuck
  |none=>(az P F iter C z).bind λit z=>(h7 (qB P F bP y gQ aE cU C) it [] z).cx.bind (gv none):=rfl
 refine ab h0 ?_
 cases DT:C aE with
 |some be=>exact .stuck
 |none=>
 dsimp only
 have aM:((az P F iter C z).bind λit z=>(h7 (qB P F bP y gQ aE cU C) it [] z).cx.bind (gv none))=(((az P F iter C z).bind jY).bind λsrc z=>(kY (qB P F bP y gQ aE cU C) src [] z).cx).bind (gv none):=by
  show((az P F iter C z).bind λit z=>(h7 (qB P F bP y gQ aE cU C) it [] z).cx.bind (gv none))=_
  rw[Res.sq,Res.sq]
  congr 1
  funext v z
  rw[DG];unfold jY
  cases v with
  |aD b l=>rfl
  |ref id=>
   dsimp only
   cases z.heap id with
   |none=>rfl
   |some o=>cases o<;>rfl
  |_=>rfl
 refine ab aM ?_
 have lp:∀n6 c acc D src z,av (λb=>b=n6\/b=acc\/b=D) (λz I Z h l(x9:Unit)=>c3 Y J C acc D l [] z I Z h) n Y (λz I Z h=>c3 Y J C acc D [] [] z I Z h/\fP Y n6 c acc D src 0 z I Z h) z
   (nl (.ListComp dx [⟨.Name s p,it,[],0⟩,⟨.Name cC p2,lG,ifs,0⟩] aA pos) aA J n6 acc D) (kY (qB P F bP y gQ aE cU C) src [] z).cx:=λn6 c acc D src z=>by
  have iI:∀k,av (λb=>b=n6\/b=acc\/b=D) (λz I Z h l(x9:Unit)=>c3 Y J C acc D l [] z I Z h) n Y (λz I Z h=>c3 Y J C acc D [] [] z I Z h/\fP Y n6 c acc D src 0 z I Z h) z
    (nl (.ListComp dx [⟨.Name s p,it,[],0⟩,⟨.Name cC p2,lG,ifs,0⟩] aA pos) aA J n6 acc D) (hn (qB P F bP y gQ aE cU C) src k 0 [] z).cx:=λk=>by
   refine av.DO ((To (p:=p) (p2:=p2) (it1:=it) (pos:=pos) S cp ak ar uD bx hz fQ cW mA bI gk (λv=> .Tn ak ar bx hz fQ cW mA bI gk C DT v:∀v,kW aA C (C.set y v) [(s,v)]) (DU D) (jy D) (ku D) k 0 [] z).f0 λA I Z st Q E x9 x9 x9 aj q=>?_);exact codeAny_compStart_list q (DI aj.2.iter aj.2.nd q)
  cases src with
  |seq t l=>exact iI _
  |live id=>exact iI _
  |ff j=>exact iI _
  |jb id=>exact .stuck
 refine(zC λn0=>DM (λn0=>av.jY (wI ps C z)) lp n0).f0 λA I Z st Q E x9 x9 x9 dU q=>?_;exact wQ (use:=none) S Ts dU (λx9 x9 x9 h=>h) q _
end
theorem Tt(z:St)(tag:Nat)(o bS:O):(z.new tag o).set (z.aT tag) bS=z.new tag bS:=by
 delta St.set St.new
 congr 1
 funext j
 dsimp only;cases Nat.beq j (z.aT tag)<;>rfl
def iP(i:Int):Nat->List V->List (List Nat×V)->Option (Nat×List (List Nat×V))
 |b,[],ah=>some (b,ah)
 |b,v::r,ah=>match v with
  | .str k=>match small b with
   |true=>iP i (b+1) r (fJ k (.int i) ah)
   |false=>none
  |_=>none
set_option tactic.hygienic true in
theorem Tu:∀{items:List V}{b:Nat}{ah:List (List Nat×V)}{cV:Nat}{dD:List (List Nat×V)},iP i b items ah=some (cV,dD)->cV=b+items.length/\(ah.length<=b->dD.length<=cV)/\(b<=10001->cV<=10001):=by
 intro br
 induction br with
 |nil=>
  intro b ah cV dD h
  (refine bC (fi (a8 h)) ?_;rintro rfl rfl);exact fs rfl id id
 |cons v r ih=>
  intro b ah cV dD h;dsimp only[iP]at h
  split at h
  ·split at h
   ·rename_i k ar;have:=ic ar;exact⟨by refine ab ((ih h).1) (ab List.length_cons ?_);lia,λq=>(ih h).2.1 (ct (C1 _ _ _) (by lia)),λx9=>(ih h).2.2 (by lia)⟩
   ·exact ns h
  ·exact ns h
abbrev zH(P:ca)(F:bT)(k v:E)(y id:Nat)(C:aK):V->aK->St->Res (cg×aK):=λw x9 σ'=>(az P F k (C.set y w) σ').bind λdY σ'=>(az P F v (C.set y w) σ').bind λjP σ'=>(iy (.ref id) dY jP σ').bind λx9 σ'=> .ok (.next,C) σ'
theorem Tv{z:St}:∀(items:List V)(b:Nat)(ah:List (List Nat×V)),
  dN (zH P F (.aa y) (.val (.int i)) y (z.aT tag) C) items C (z.new tag (.ba b ah))=match iP i b items ah with|some p=> .ok (.next,C) (z.new tag (.ba p.1 p.2))|none=> .stuck:=by
 intro br
 induction br with
 |nil=>exactλb ah=>rfl
 |cons v r ih=>
  intro b ah;rw[p4]
  have ae:zH P F (.aa y) (.val (.int i)) y (z.aT tag) C v C (z.new tag (.ba b ah))=(iy (.ref (z.aT tag)) v (.int i) (z.new tag (.ba b ah))).bind λx9 σ'=> .ok (cg.next,C) σ':=by refine(?_:((em ((C.set y v) y) (z.new tag (.ba b ah))).bind λdY σ'=>(Res.ok (V.int i) σ').bind λjP σ'=>(iy (.ref (z.aT tag)) dY jP σ').bind λx9 σ'=>Res.ok (cg.next,C) σ')=_);rw[gw,if_pos rfl];rfl
  refine ab ae ?_;unfold iy;dsimp only;refine ab (((by rw[qj,if_pos rfl]):(z.new tag (.ba b ah)).heap (z.aT tag)=some (.ba b ah))) ?_;dsimp only;dsimp only[iP];clear ae
  cases v with
  |str k=>
   dsimp only
   cases small b with
   |false=>rfl
   |true=>rw[Tt];exact ih (b+1) _
  |_=>rfl
section
variable{n:Nat}{Y:List Env}{z:St}{I:bX}{Z:bY}{h:Heap}
variable{P:ca}{F:bT}{J:Env}
theorem bu.DV(R:bu I Z z h)(N:∀b,X b->¬ew I z b/\Z b=none/\B.get? b=none)(ag:∀b dc,¬X b->h.get? b=some dc->h'.get? b=some dc)(ar:h.objs.size<=h'.objs.size):
  bu I Z z h'/\cw Y X I Z z h I Z z h':=by
 refine⟨⟨λb o e=>ag b o (λq=>by replace e:=((N b q).2.2).symm.trans e;exact nomatch e) (R.base b o e),λb t vs e=>?_,λid o e=>?_,R.apart,R.out,R.fresh,R.gl,R.sys,R.low⟩,⟨.refl _, .refl _,λb o e cG no=> .of_eq (ag b o no e),λb f=> .inl f,λb aE=> .inl aE,ar⟩⟩
 ·refine cL (R.frz b t vs e) ?_;intro m aJ;exact⟨m,ag b _ (λq=>by replace e:=((N b q).2.1).symm.trans e;exact nomatch e) aJ⟩
 ·refine cS (R.obj id o e) ?_;intro a d ae x;refine bC x.there ?_;intro dZ dh;refine cL dZ ?_;try clear dZ;intro CP qt;refine cL dh ?_;try clear dh;intro ds gh;have r3:¬X a:=λq=>(N a q).1 (ix id a d (by refine ab e ?_;simp) ae (.inl rfl));have nd:¬X d:=λq=>(N d q).1 (ix id a d (by refine ab e ?_;simp) ae (.inr rfl));exact eK a d ae (x.same ((ag _ _ r3 qt).trans qt.symm) ((ag _ _ nd gh).trans gh.symm))
theorem bu.JI(R:bu I Z z h)(N:∀b,X b->d1 Y b I Z z h)(ag:∀b dc,¬X b->h.get? b=some dc->h'.get? b=some dc)(ar:h.objs.size<=h'.objs.size):
  bu I Z z h'/\cw Y X I Z z h I Z z h':=R.DV (λb q=>(fs ((N b q).foot) ((N b q).zet) ((N b q).base))) ag ar
theorem Tw{K:Type}[DecidableEq K]{kvs:List (K×Value)}{k:K}(h:(kvs.map (·.1)).Nodup):((stored kvs k v).map (·.1)).Nodup:=by
 cases bA:valueAt kvs k with
 |none=>rw[stored_absent bA,List.map_append,List.nodup_append];refine⟨h,by simp,λa aL b ai=>?_⟩;rw[List.mem_map]at aL;refine a4 aL ?_;try clear aL;rintro p aj rfl;simp at ai;refine ab ai ?_;exact zg bA p aj
 |some u=>
  unfold stored;rw[if_pos]
  ·rw[show(kvs.map λp=>if p.1=k then(p.1,v)else p).map (·.1)=kvs.map (·.1)from ?_]
   ·exact h
   ·refine c0 List.map_map ?_;refine List.map_congr_left λp x9=>?_;refine(?_:(if p.1=k then(p.1,v)else p).1=p.1)
    split<;>rfl
  ·unfold valueAt at bA;rw[List.any_eq_true]
   cases hf:kvs.find? (λp=>decide (p.1=k))with
   |none=>replace bA:=hf▸bA;exact ns bA
   |some p=>exact bq p (List.mem_of_find?_eq_some hf) (by exact List.find?_some (p:=λdY:K×Value=>decide (dY.1=k)) hf)
theorem DW:Keeps s s:=(eK s.heap s.toks rfl (λx9 x9 e=>e))
theorem Tx(h:StoredAll (λv k=>∃t,v= .str k t) (λx9 y=>∃t,y=Value.int i t) l kvs):(kvs.map (·.1)).Nodup/\∀(b:Nat)(items:List V),bn I Z items l->∀p,iP i b items []=some p->gV I Z p.2 kvs:=by
 revert I Z l kvs h;revert i;refine@(o4 ne ?i9 ?_ ?_)
 rotate_left 1
 (
 intro I Z l kvs h
 have app:∀(items:List V)(b:Nat)(ah:List (List Nat×V))(v:V),iP ?i9 b (items++[v]) ah=(iP ?i9 b items ah).bind λp=>iP ?i9 p.1 [v] p.2:=by
  intro items
  induction items with
  |nil=>intro b ah v;rfl
  |cons u r ih=>
   intro b ah v;refine ab List.cons_append ?_;dsimp only[iP]
   cases u with
   |str k=>
    cases small b with
    |false=>rfl
    |true=>exact ih _ _ _
   |_=>rfl
 induction h with
 |nil=>refine⟨.nil,λb items d p e=>?_⟩;cases d;refine bM (a8 e) ?_;exact .nil
 | @snoc l kvs v k y be ag bx ih=>
  refine⟨Tw ih.1,λb items d p e=>?_⟩;refine cL ag ?_;try clear ag;rintro t rfl;refine cL bx ?_;try clear bx;rintro t' rfl;have eh:=d.length;rw[List.length_append,List.length_singleton]at eh
  obtain⟨uE,qo,rfl⟩:∃r v,items=r++[v]:=by
   refine Or.elim (List.eq_nil_or_concat items) (λq=>?_) λcz=>?_
   ·subst q;simp at eh
   ·(refine kG cz ?_;try clear cz;intro r v q);exact tK r v (by simpa using q)
  have ss:uE.length=l.length:=by rw[List.length_append,List.length_singleton]at eh;lia
  have zI:bn I Z uE l:=by have:=d.take uE.length;rw[List.take_left,ss,List.take_left]at this;exact this
  have ng:Den I Z qo (.str k t):=by have af:=d.drop uE.length;rw[List.drop_left,ss,List.drop_left]at af;cases af with|cons a be=>exact a
  rw[app]at e;clear ss eh d app
  cases aN:iP ?i9 b uE []with
  |none=>rw[aN]at e;exact ns e
  |some zJ=>
   replace e:=aN▸e;have e:iP ?i9 zJ.1 [qo] zJ.2=some p:=e;have ik:=ih.2 b uE zI zJ aN;dsimp only[iP]at e;clear zI
   cases qo with
   |str k0=>
    cases ng;dsimp only at e
    cases ar:small zJ.1 with
    |false=>rw[ar]at e;exact ns e
    |true=>rw[ar]at e;refine bM (a8 e) ?_;exact ik.put ih.1 (.int ?i9 t')
   |_=>exact ns e)
 rfl
abbrev n7(Y:List Env)(acc D:Addr)(p:Nat×List (List Nat×V))(z:St)(I:bX)(Z:bY)(h:Heap):Prop:=(d1 Y acc I Z z h)/\(d1 Y D I Z z h)/\(∃kvs,h.DictOf (strKind prog w) acc kvs/\gV I Z p.2 kvs)/\(p.2.length<=p.1)/\(∃m,h.Ns D m)/\(acc≠D)
section
variable(x:n7 a b c d e f g ae)
def n7.nacc:=x.1
def n7.nD:=x.2.1
def n7.Tz:=x.2.2.1
def n7.len:=x.2.2.2.1
def n7.ns:=x.2.2.2.2.1
def n7.ba:=x.2.2.2.2.2
end
def DX(i:Int)(src:Src)(z:St):Res (Nat×List (List Nat×V)):=match src with
 | .seq false items=>match iP i 0 items []with
  |some p=> .ok p z
  |none=> .stuck
 |_=> .stuck
set_option tactic.hygienic true in
theorem TA(S:fH J.scope.names aA)(ar:aA.names.lookup s=some .local)(aq:ht s=true):
  av (λb=>b=it\/b=acc\/b=D) (λz I Z h p(x9:Unit)=>n7 Y acc D p z I Z h) n Y (λz I Z h=>bk J C z I Z h/\lE Y n0 z I Z h src (it,c)/\mz Y J it acc D {cls:= .type "dict",data:= .dict #[]} z I Z h) z
   (nl (.DictComp (.Name s p1) (.Constant (.int i) k2 p2) [⟨.Name s p,iter,[],0⟩] aA pos) aA J it acc D) (DX i src z):=by
 unfold DX
 cases src with|live be=>exact .stuck|ff be=>exact .stuck|jb be=>exact .stuck|seq t items=>
 cases t with|true=>exact .stuck|false=>
 dsimp only
 cases aN:iP i 0 items []with
 |none=>exact .stuck
 |some q=>
  refine⟨id,λx9 A I Z st Q E aw aS am aj aC nk=>?_⟩;refine eU aj ?_;try clear aj;intro F dh X;refine bC dh ?_;try clear dh;rintro⟨_,⟨vs,hz,ak⟩,aW,N⟩ _;have TB:c≠it:=λq=>by have:=N.zet;rw[<-q]at this;rw[show Z c=some (false,vs)from hz]at this;exact nomatch this
  have JJ:∀{b},Z b=none->b≠c:=λ{b}ai q=>by rw[q,show Z c=some (false,vs)from hz]at ai;exact nomatch ai
  refine eU (Tu aN) ?_;intro p6 B5 B6;have eh:=ak.length;have kind:(dj aA D J).kindOf s=some .local:=lookup_relabel_local ar
  have L:codeAny (model prog w) A (.compLoop (.DictComp (.Name s p1) (.Constant (.int i) k2 p2) [⟨.Name s p,iter,[],0⟩] aA pos) 0 (.ref it) (.ref acc) (dj aA D J)) (λr s'=>st.heap.objs.size<=s'.heap.objs.size->(match r with| .ok _=>Q () s'| .error x=>nk x s')) st:=by
   refine codeAny_compLoop_walkD (knd:=strKind prog w) (cenv:=dj aA D J) (Walks.list aw.handled it c TB vs.toArray) (λx9=>true) (λv k=>∃t,v= .str k t) (λx9 y=>∃t,y=Value.int i t) kind ?_ X.zz ?_ ?_ ⟨aW,(am.frz _ _ _ hz).isList⟩ ?_ X.ns ?_ ?_ ?_ ?_ ?_
   ·refine(?_:((relabel aA J).kind== .class||_)=false);have:(relabel aA J).kind= .function:=S.kind;simp[compEnvC,this]
   ·intro aJ
    rcases List.mem_cons.mp aJ with q|q
    ·exact X.ia q.symm
    ·exact JJ X.nacc.zet (List.mem_singleton.mp q)
   ·intro aJ
    rcases List.mem_cons.mp aJ with q|q
    ·exact X.iD q.symm
    ·exact JJ X.nD.zet (List.mem_singleton.mp q)
   ·exact Heap.dictOf_iff.mpr (a4 (Heap.dictOf_iff.mp (Heap.DictOf.new (knd:=strKind prog w) st.heap)) λo as r=>⟨o,by
     replace as:=((hJ st.heap (o:={cls:= .type "dict",data:= .dict #[]}) rfl)).symm.trans as;obtain rfl:=a8 as;exact X.get,r⟩)
   ·exactλj v bE zK x9 x9 x9 x9=>wpAny_tests_nil ⟨rfl,DW⟩
   ·intro j v bE zK bA x9 DY aJ x9
    obtain⟨hR,rfl⟩:∃qC:Str×Tok,v=Value.str qC.1 qC.2:=by
     rw[List.getElem?_toArray]at bA
     have aux:∀{l:List V}{dK:List Value}{b:Nat}{ah:List (List Nat×V)}{p:Nat×List (List Nat×V)},bn I Z l dK->iP i b l ah=some p->∀{j:Nat}{v:Value},dK[j]?=some v->∃qC:Str×Tok,v=Value.str qC.1 qC.2:=by
      intro l
      induction l with
      |nil=>intro dK b ah p d x9 j v e;cases d;simp at e
      |cons u r ih=>
       intro dK b ah p d e j v DZ
       cases d with|cons uF kZ=>
       dsimp only[iP]at e
       cases u with
       |str k0=>
        dsimp only at e
        cases dE:small b with
        |false=>replace e:=dE▸e;exact ns e
        |true=>
         replace e:=dE▸e
         cases j with
         |zero=>cases uF with|str be t=>simp at DZ;exact⟨(ci k0,t),DZ.symm⟩
         |succ j=>exact ih kZ e (by simpa using DZ)
       |_=>exact ns e
     exact aux ak aN bA
    exact wpAny_Name (wpAny_loadName_local S.kind kind DY aJ ⟨⟨hR.1,strKind_is _ _ _ _,hR.2,rfl⟩,DW⟩) (mu aq)
   ·exactλj v bE zK x9 x9 x9 x9 x9=>wpAny_Constant_int ⟨⟨_,rfl⟩,_,_,rfl,λx9 x9 e=>e⟩
   ·intro h' aR e5 kvs gW D0 jv zL e6 ph ag cW
    have Du:gW=vs:=by
     refine List.ext_getElem? λj=>?_
     cases cF:gW[j]?with
     |none=>rw[List.getElem?_eq_none_iff]at cF;rw[zL,List.size_toArray]at cF;exact(List.getElem?_eq_none_iff.mpr cF).symm
     |some v=>have h:=e6 j v cF;rw[List.getElem?_toArray]at h;exact h.symm
    clear e6 zL;subst Du;rw[((by simp):gW.filter (λx9=>true)=gW)]at ph
    have ez:∀b o,¬(b=it\/b=acc\/b=D)->st.heap.get? b=some o->h'.get? b=some o:=λb o ai e=>ag b o (λq=>ai (.inr (.inr q))) (λq=>ai (.inl (List.mem_singleton.mp q))) (λq=>ai (.inr (.inl q))) e
    clear ag;refine bC (am.JI (X:=λb=>b=it\/b=acc\/b=D) (λb ai=>by rcases ai with rfl|rfl|rfl;exact X.nit;exact X.nacc;exact X.nD) ez cW) ?_;intro bW x
    exact aC I Z h' aR () x bW (aS.gK x λb ai=>by rcases ai with rfl|rfl|rfl;exact X.nit.aa;exact X.nacc.aa;exact X.nD.aa)
     ⟨X.nacc.ext x,X.nD.ext x,(bq kvs jv ((Tx ph).2 0 items ak q aN)),B5 (Nat.zero_le _),⟨e5,D0⟩,X.zz⟩
   ·refine ab List.size_toArray (bM eh (ab gG ?_));have:=B6 (Nat.zero_le _);lia
  exact codeAny_compStart_dict (zu L) (wpAny_pyIter_listiter aW (zu L))
end
section
variable{n:Nat}{Y:List Env}{z:St}{I:bX}{Z:bY}{h:Heap}
variable{P:ca}{F:bT}{J:Env}
noncomputable def su(tag:Nat)(p:Nat×List (List Nat×V))(z:St):Res V:=match z.dI tag with
 |true=> .ok (.ref (z.aT tag)) (z.new tag (.ba p.1 p.2))
 |false=> .stuck
theorem TC
  (h:∀n0,av (λb=>n0<=b) (λz I Z h p(q:Addr×Addr)=>n7 Y q.1 q.2 p z I Z h/\n0<=q.1/\n0<=q.2) n Y (λz I Z h=>bk J C z I Z h/\n0<=h.objs.size) z t r):
  av aG bb n Y (bk J C) z (t.bind zB) (r.bind (su tag)):=by
 refine av.DE h (λp z=>by dsimp only[su];cases z.dI tag<;>rfl) λl c1 v ef e=>?_
 dsimp only[su]at e
 cases ai:c1.dI tag with
 |false=>rw[ai]at e;injection e
 |true=>replace e:=ai▸e;cases e;refine⟨id,λn0 A I Z s Q E p aP aw aS am aq d aC=>?_⟩;refine eU d ?_;try clear d;intro X c4 dg;refine cL X.ns ?_;intro m cp;refine bq m cp (λh' dE=>?_);refine bC (bu.gK (R:=am) X.nD dE.extBut (fr dE.1.symm)) ?_;intro bW x;have N:=X.nacc.ext x;refine a4 X.Tz ?_;intro kvs aN DH;refine bC (bW.claim (h':=h') (o:= .ba l.1 l.2) ai ⟨N.foot,N.zet,N.base,N.sys⟩ ⟨N.foot,N.zet,N.base,N.sys⟩ ⟨rfl,kvs,aN.at λo e=>dE.extBut _ _ X.ba e,DH,X.len⟩ λx9 x9 x9 x9 e=>e) ?_;intro kn gs;exact aC _ Z h' s.toks _ ((x.DC aq λb ai q=>bf ai (Nat.not_lt.mpr (q▸dg))).trans (iO.claim c4 c4 gs (by refine ab dE.1 ?_;exact aq))) kn (.ref (df rfl))
theorem TD(ps:bZ P F n Y J iter it)(S:fH J.scope.names aA)(cp:fL it=true)
  (ar:aA.names.lookup s=some .local) (aq:ht s=true):
  bZ P F n Y J (.kH tag (.aa y) (.val (.int i)) y iter) (.DictComp (.Name s p1) (.Constant (.int i) k2 p2) [⟨.Name s p,it,[],0⟩] aA pos):=by
 intro C z
 have aM:az P F (.kH tag (.aa y) (.val (.int i)) y iter) C z=(((az P F iter C z).bind jY).bind (DX i)).bind (su tag):=by
  refine(?_:((az P F iter C z).bind λit z=>match it with
   | .aD _ items=>match z.dI tag with
    |true=>(dN (zH P F (.aa y) (.val (.int i)) y (z.aT tag) C) items C (z.new tag (.ba 0 []))).cx.bind λx9 σ'=> .ok (V.ref (z.aT tag)) σ'
    |false=> .stuck
   |_=> .stuck)=_)
  rw[Res.sq,Res.sq]
  congr 1
  funext v z
  cases v with
  |aD b items=>
   refine(?_:(match z.dI tag with
    |true=>(dN (zH P F (.aa y) (.val (.int i)) y (z.aT tag) C) items C (z.new tag (.ba 0 []))).cx.bind λx9 σ'=> .ok (V.ref (z.aT tag)) σ'
    |false=> .stuck)=(match iP i 0 items []with
    |some p=>Res.ok p z
    |none=> .stuck).bind (su tag))
   rw[Tv]
   cases iP i 0 items []with
   |none=>cases z.dI tag<;>rfl
   |some p=>refine(?_:_=su tag p z);dsimp only[su];cases z.dI tag<;>rfl
  |ref id=>
   unfold jY;dsimp only
   cases z.heap id with
   |none=>rfl
   |some o=>cases o<;>rfl
  |_=>rfl
 refine ab aM ?_
 refine(TC λn0=>DJ (Di:=lE Y) (D₁:=λacc D z I Z h p x9=>n7 Y acc D p z I Z h) rfl (λn0 g p=>Goes.zw (Y:=Y) ⟨λx d=>Jt.out x d⟩) (λx9 x9 x9 x9 x9 x9 x9 d=>⟨d.1.2.2.2,d.2⟩) (λn0=>av.jY (wI ps C z))
  (λn0 n6 c acc D src z=>TA (p:=p) (p1:=p1) (p2:=p2) (k2:=k2) (iter:=it) (pos:=pos) S ar aq) n0).f0 λA I Z st Q E x9 x9 x9 dU q=>?_
 exact JE (use:=none) (iterpt:=n3 it J) S rfl cp (λq=>by exact wpAny_newObj_type q) (λq=>q) dU (λx9 x9 x9 h=>h) q _
abbrev np(Y:List Env)(id:Nat)(ah:List (Int×V))(n0:Nat)(z:St)(I:bX)(Z:bY)(h:Heap)(p:Addr×Addr):Prop:=(I id=some (p.2,p.2))/\(z.heap id≠none)/\(d1 Y p.1 I Z z h)/\(n0<=p.1)/\(ah.length<=10000)/\(∃kvs ep,h.DictAt (intKind prog w) p.2 kvs ep/\iB I Z ah kvs/\h.IsKeyIter p.1 p.2 0 kvs.length ep)
section
variable(x:np a b c d e f g ae i)
def np.k:=x.1
def np.dV:=x.2.1
def np.nit:=x.2.2.1
def np.ge:=x.2.2.2.1
def np.len:=x.2.2.2.2.1
def np.ex:=x.2.2.2.2.2
end
theorem TE{id:Nat}:po (λz I Z h=>np Y id ah n0 z I Z h p) (λz I Z h=>np Y id ah n0 z I Z h p):=λx9 x9 x9 x9 x9 ag ar X=>⟨X.k,X.dV,X.nit.ext (O:=aG) (ee.grow ag ar).fN,X.ge,X.len,hp X.ex λkvs ep ae af ax=>(iw kvs ep (ae.at' λo e=>ag _ _ e) af (ax.at λo e=>ag _ _ e))⟩
theorem TF(lH:Sys B){x id:Nat}(sv:bZ P F n Y J (.aa x) (.Name v0 gH))(aQ:C x=some (.ref id))(as:z.heap id=some (.ck b ah))(dT:b<=10000)(n0:Nat):
  av aG (λz I Z h(x9:Unit)p=>np Y id ah n0 z I Z h p) n Y (λz I Z h=>bk J C z I Z h/\n0<=h.objs.size) z (n3 (.Name v0 gH) J) (.ok () z):=by
 have ae:=sv C z
 have bd:az P F (.aa x) C z= .ok (.ref id) z:=by refine(?_:em (C x) z=_);refine ab aQ ?_;rfl
 rw[bd]at ae;refine⟨λq=>q,λaP A I Z s Q E aw aS am aj aC=>?_⟩;refine ae.2 aP A I Z s (λu cr=>wpAny (model prog w) A (pyIter u) (λi bE=>∃it c,i= .ref it/\Q (it,c) bE) E cr) E aw aS am aj.1 λκ' Z' h' aR u x' bW dP d=>?_;refine jm (qp bW d as) ?_;intro c kvs cy ag aB ak gI ai;refine ab cy ?_;refine cL aB.dictAt ?_;intro ep jd;refine wpAny_pyIter_dict (mm lH ai) jd (eK _ c rfl ?_);have JK:cw Y aG κ' Z' z h' κ' Z' z (h'.push {cls:= .type "dict_keyiterator",data:= .fields #[.ref c, .int 0 0, .int kvs.length 0, .int ep 0]}):=(ee.grow (et h' {cls:= .type "dict_keyiterator",data:= .fields #[.ref c, .int 0 0, .int kvs.length 0, .int ep 0]}) (by rw[Heap.size_push];exact gP _)).fN;exact aC κ' Z' _ aR (h'.objs.size,c) (x'.trans JK) (bW.grow (et h' {cls:= .type "dict_keyiterator",data:= .fields #[.ref c, .int 0 0, .int kvs.length 0, .int ep 0]})) (dP.eO JK) ⟨ag,by refine ab as ?_;simp,JA dP bW,ct aj.2 x'.size,ct gI dT,kvs,ep,jd.at' λo e=>(et h' {cls:= .type "dict_keyiterator",data:= .fields #[.ref c, .int 0 0, .int kvs.length 0, .int ep 0]}) _ _ e,ak,(fW _ (hJ _ rfl) rfl rfl)⟩
theorem TG(d:iB I Z ah kvs):bn I Z (ah.map (·.2)) (kvs.map (·.2)):=by
 induction d with
 |nil=>exact .nil
 |cons a be ih=>exact .cons a ih
theorem D1{K:Type}[DecidableEq K]{k:K}:∀{kvs:List (K×Value)}{j:Nat},(kvs.map (·.1)).Nodup->kvs[j]?=some (k,x)->valueAt kvs k=some x:=by
 intro br
 induction br with
 |nil=>intro j x9 e;simp at e
 |cons cm r ih=>
  obtain⟨bF,x'⟩:=cm;intro j aq e;rw[List.map_cons,List.nodup_cons]at aq;unfold valueAt
  cases j with
  |zero=>simp at e;(refine bC e ?_;try clear e;rintro rfl rfl);simp
  |succ j=>simp at e;have dB:bF≠k:=λq=>aq.1 (List.mem_map.mpr (bq (k,x) (List.mem_of_getElem? e) q.symm));have ih:=ih aq.2 e;unfold valueAt at ih;simp[dB,ih]
theorem TH{P0:Nat->Value->Prop}{knd:KeyKind prog w Int}(e6:∀j v,P0 j v->∃k x,kvs[j]?=some (k,x)/\knd.is k v=true)(aq:(kvs.map (·.1)).Nodup)
  (p:Paired (λv u=>∃k,knd.is k v=true/\valueAt kvs k=some u) vs dn) (aj:∀i v,vs[i]?=some v->P0 (j+i) v):dn=((kvs.drop j).take vs.length).map (·.2):=by
 induction p generalizing j with
 |nil=>refine ab List.length_nil (ab List.take_zero ?_);rfl
 | @cons v u vs dn h t ih=>
  refine cS (e6 j v (by have:=aj 0 v rfl;simpa using this)) ?_;intro k x ae af;refine a4 h ?_;try clear h;intro bF ax a0;have ag:=knd.inj v k bF af ax;clear ax af e6;subst ag;replace a0:=(D1 aq ae).symm.trans a0;cases a0
  have cF:j<kvs.length:=by
   refine Or.elim (Nat.lt_or_ge j kvs.length) (λq=>?_) λq=>?_
   ·exact q
   ·replace ae:=(List.getElem?_eq_none q).symm.trans ae;exact ns ae
  have aN:kvs.drop j=(k,u)::kvs.drop (j+1):=by
   refine c0 (List.drop_eq_getElem_cons cF) ?_
   congr 1
   replace ae:=(List.getElem?_eq_getElem cF).symm.trans ae;exact a8 ae
  refine ab aN ?_
  have ih:=ih (j:=j+1) λi v e=>by
   have:=aj (i+1) v (by exact e);refine ab ((by lia):j+1+i=j+(i+1)) ?_;exact this
  refine ab ih ?_;rfl
set_option tactic.hygienic true in
theorem JL{O:Addr->Prop}{D':eg hv kQ}{g:V->St->Res kQ}{fin:Addr×Addr->aY hv}{tree:aY hv}(lH:Sys B)(sv:bZ P F n Y J (.aa x) (.Name b5 cv))(S:fH J.scope.names aA)(ak:jq [eD] aA.names=true)(ar:aA.names.lookup eD=some .local)(wR:ht eD=true)(sw:ht b5=true)
  (aQ:x<T.bV) (bx:y<T.bV) (qD:b5=T.nm x) (fQ:eD=T.nm y) (bI:ch.Inj) (gk:∀x,x<T.bV->T.nm x≠".0") (sx:t8 (mX J.scope.names aA.names) b5=true) (C:aK) (z:St)
  (wF:∀{t:aY (Addr×Addr)}{r:Res (List V)},(∀n0,av (λb=>n0<=b) (wL Y n0) n Y (λz I Z h=>bk J C z I Z h/\n0<=h.objs.size) z t r)->av O D' n Y (bk J C) z (t.bind fin) ((r.bind (gv none)).bind g))
  (DP:∀{A:Around}{I:bX}{Z:bY}{s:Shared}{Q:hv->Shared->Prop}{E:cc},bk J C z I Z s.heap->(aY.bind (so {cls:= .type "list",data:= .seq ([]:List Value).toArray} (n3 (.Name b5 cv) J) (nl (.ListComp (.Subscript (.Name b5 a1) (.Name eD a2) ap) [⟨.Name eD a3, .Name b5 cv,[],0⟩] aA pos) aA J)) fin) A Q E s->tree A Q E s):
  av O D' n Y (bk J C) z tree ((az P F (.li x y) C z).bind g):=by
 refine(?_:av O D' n Y (bk J C) z _ (Res.bind (match Nat.beq x y with
   |true=> .stuck
   |false=>match C x with
    |some (.ref id)=>match z.heap id with
     |some (.ck b ah)=>match small b with|true=> .ok (.aD ah.length (ah.map λp=>p.2)) z|false=> .stuck
     |_=> .stuck
    |_=> .stuck) g))
 cases D2:Nat.beq x y with
 |true=>exact .stuck
 |false=>
 have D2:=kc D2
 cases JM:C x with
 |none=>exact .stuck
 |some v=>
 cases v<;>try exact .stuck
 rename_i id;dsimp only
 cases as:z.heap id with
 |none=>exact .stuck
 |some o=>
 cases o<;>try exact .stuck
 rename_i b ah;dsimp only
 cases dT:small b with
 |false=>exact .stuck
 |true=>
 have dT:=ic dT
 have aM:(Res.ok (.aD ah.length (ah.map λp=>p.2)) z:Res V)=((Res.ok () z:Res Unit).bind λx9 z=> .ok (ah.map λp=>p.2) z).bind (gv none):=by refine(?_:_=Res.ok (V.aD (ah.map λp=>p.2).length (ah.map λp=>p.2)) z);rw[List.length_map]
 refine ab aM ?_;have JN:b5≠eD:=λq=>D2 (bI x y aQ bx (by exact bM qD (bM fQ (ab q rfl))))
 refine(wF λn0=>(DJ (oacc:={cls:= .type "list",data:= .seq ([]:List Value).toArray}) (Di:=λn0 z I Z h(x9:Unit)p=>np Y id ah n0 z I Z h p) (D₁:=λacc D z I Z h l x9=>pr Y acc D l z I Z h) rfl (λn0 g p=>TE) (λx9 x9 x9 x9 x9 x9 x9 d=>⟨d.nit,d.ge⟩) (λn0=>TF lH sv JM as dT n0)
  (lp:=nl (.ListComp (.Subscript (.Name b5 a1) (.Name eD a2) ap) [⟨.Name eD a3, .Name b5 cv,[],0⟩] aA pos) aA J) (λn0 it c acc D x9 c1=>?_) n0)).f0 λA I Z st Q E x9 x9 x9 dU q=>?_
 ·refine⟨λq=>q,λx9 A I Z st Q E aw aS am aj aC nk=>?_⟩;refine eU aj ?_;try clear aj;intro F K X;refine hp K.ex ?_;intro kvs ep jd JO jX;have D3:I id=some (c,c):=K.k;have jd:st.heap.DictAt (intKind prog w) c kvs ep:=jd;have TJ:ew I c1 c:=(ix id c c K.dV D3 (.inl rfl));have ij:(kvs.map (·.1)).Nodup:=wq jd.dictOf
  --rn name of rn dict within
  have jz:d7 I Z c1 (dj aA D J) (λaE=>if aE=x then C x else none) st.heap:=F.comp S X.ns X.nD.foot (λaE v e k=>by
    by_cases q:aE=x
    ·subst q
     rcases wN ak k with q|q
     ·exact bf q (gk _ aQ)
     ·cases q with
      |head=>exact bf qD JN
      |tail be q=>cases q
    ·rw[if_neg q]at e;exact ns e) (λaE v e k=>by
    by_cases q:aE=x
    ·subst q;replace e:=(df rfl).symm.trans e;exact e
    ·rw[if_neg q]at e;exact ns e) (λaE v e=>by
    by_cases q:aE=x
    ·exact q▸aQ
    ·exact nomatch (cO q).symm.trans e)
  have sk:(dj aA D J).kindOf b5=(mX J.scope.names aA.names).lookup b5:=by refine(?_:(relabel aA J).names.lookup b5=_);refine bz _ (Dw F.kind)
  have JP:(dj aA D J).kindOf b5=some .cell\/(dj aA D J).kindOf b5=some .free:=by
   refine ab sk ?_;unfold t8 at sx;rw[<-wy]
   split at sx
   ·rename_i e;rw[wy,Dx]at e
    cases q:aA.names.lookup b5 with
    |none=>replace e:=q▸e;exact ns e
    |some hR=>
     rw[q]at e
     cases hR with
     |«local»=>
      refine Or.elim (wN ak q) (λq=>?_) λq=>?_
      ·exact bf (qD▸q) (gk _ aQ)
      ·cases q with
       |head=>exact bf rfl JN
       |tail be q=>cases q
     |free=>dsimp only at e;split at e<;>cases e
     |_=>cases e
   ·rename_i e;exact .inl e
   ·rename_i e;exact .inr e
   ·exact b3 sx
  refine h4 (jz.cell b5 JP) ?_;intro lA bN JQ hS x9 x9 qA;clear sk jz F;refine a4 (qA x (.ref id) qD.symm (by refine c0 (df rfl) ?_;exact JM)) ?_;rintro IV rfl db
  have C8:IV= .ref c:=by clear qA;cases db with|ref ag=>replace ag:=(D3).symm.trans ag;(refine bC (fi (a8 ag)) ?_;rintro rfl rfl);rfl
  clear db qA D3;subst C8;have dB:∀{b:Addr},d1 Y b I Z c1 st.heap->c≠b:=λN q=>N.foot (q▸TJ);have JR:(dj aA D J).kindOf eD=some .local:=lookup_relabel_local ar;have eh:ah.length=kvs.length:=JO.length
  have D4:∀{b:Addr},(∃o,st.heap.get? b=some o/\∀v,o.data≠ .cell v)->lA≠b:=λdz=>a4 dz λo e4 aN=>λq=>by
   refine a4 hS ?_;try clear hS;intro lu sg pj;rw[q,e4]at sg;obtain rfl:=a8 sg;exact aN _ pj
  have L:codeAny (model prog w) A (.compLoop (.ListComp (.Subscript (.Name b5 a1) (.Name eD a2) ap) [⟨.Name eD a3, .Name b5 cv,[],0⟩] aA pos) 0 (.ref it) (.ref acc) (dj aA D J)) (λr s'=>st.heap.objs.size<=s'.heap.objs.size->(match r with| .ok _=>Q () s'| .error x=>nk x s')) st:=by
   refine codeAny_compLoop_walk (cenv:=dj aA D J) (Walks.dictKeys (knd:=intKind prog w) aw.handled it c (dB X.nit) kvs ep) (λx9=>true) (λv u=>∃k,(intKind prog w).is k v=true/\valueAt kvs k=some u) JR ?_ X.zz ?_ ?_ ⟨jX,jd⟩ ⟨_,X.get⟩ X.ns ?_ ?_ ?_ ?_
   ·refine(?_:((relabel aA J).kind== .class||_)=false);have:(relabel aA J).kind= .function:=S.kind;simp[compEnvC,this]
   ·intro aJ
    rcases List.mem_cons.mp aJ with q|q
    ·exact X.ia q.symm
    ·exact dB X.nacc (List.mem_singleton.mp q).symm
   ·intro aJ
    rcases List.mem_cons.mp aJ with q|q
    ·exact X.iD q.symm
    ·exact dB X.nD (List.mem_singleton.mp q).symm
   ·exactλj v bE zK x9 x9 x9 x9 x9=>wpAny_tests_nil ⟨rfl,DW⟩
   ·intro j v bE zK bA x9 DY aJ ag x9;refine cS bA ?_;try clear bA;intro k JS wD JT;have wU:bE.heap.IsCell lA (some (.ref c)):=a4 hS λo e4 aN=>⟨o,ag lA o (D4 (by(refine eB X.ns ?_;intro o ah ep as aN x9);exact bq o as (λv q=>by replace q:=(aN).symm.trans q;cases q))) (λq=>D4 (by(refine fV jX ?_;try clear jX;intro o as x9 aN);exact⟨o,as,λv q=>by replace q:=(aN).symm.trans q;cases q⟩) (List.mem_singleton.mp q)) (D4 (bq _ X.get (λv q=>by cases q))) e4,aN⟩;have JU:bE.heap.DictAt (intKind prog w) c kvs ep:=jd.at' λo e=>ag c o (dB X.nD) (λq=>dB X.nit (List.mem_singleton.mp q)) (dB X.nacc) e
    have TK:∀{wV:cc}{JV:cc},wV (.ref c) bE->wpAny (model prog w) A (eval (.Name b5 a1) (dj aA D J)) wV JV bE:=λ{wV JV}q=>by
     rcases JP with eX|eX
     ·exact wpAny_Name (wpAny_loadName_cell S.kind eX JQ wU q) (mu sw)
     ·exact wpAny_Name (wpAny_loadName_free S.kind eX JQ wU q (Ja sw)) (mu sw)
    refine Subscript_ (TK (wpAny_Name (wpAny_loadName_local S.kind JR DY aJ ?_) (mu wR)));refine IB rfl JU.dictOf.typeIs slot_dict_getitem.lookup (wpAny_getItem_of JT JU.dictOf.mapOf (D1 ij wD:valueAt kvs k=some JS) ⟨⟨k,JT,(D1 ij wD:valueAt kvs k=some JS)⟩,_,_,rfl,λx9 x9 e=>e⟩)
   ·intro h' aR e5 dn gW D0 x9 jw zL e6 JW ag cW;rw[((by simp):gW.filter (λx9=>true)=gW)]at JW;have JX:=TH (knd:=intKind prog w) (P0:=λi v=>∃k x,kvs[i]?=some (k,x)/\(intKind prog w).is k v=true) (λx9 x9 q=>q) ij (j:=0) JW λi v e=>by rw[Nat.zero_add];exact e6 i v e
    rw[List.drop_zero,zL,List.take_length]at JX
    have ez:∀b o,¬(b=it\/b=acc\/b=D)->st.heap.get? b=some o->h'.get? b=some o:=λb o ai e=>ag b o (λq=>ai (.inr (.inr q))) (λq=>ai (.inl (List.mem_singleton.mp q))) (λq=>ai (.inr (.inl q))) e
    refine bC (am.JI (X:=λb=>b=it\/b=acc\/b=D) (λb ai=>by rcases ai with rfl|rfl|rfl;exact X.nit;exact X.nacc;exact X.nD) ez cW) ?_;intro bW x';refine cL jw ?_;try clear jw;intro hR jw
    refine aC I Z h' aR () x' bW (aS.gK x' λb ai=>by rcases ai with rfl|rfl|rfl;exact X.nit.aa;exact X.nacc.aa;exact X.nD.aa)
     ⟨X.nacc.ext x',X.nD.ext x',⟨dn.toList,⟨hR,by exact jw⟩,by refine ab JX ?_;exact TG JO⟩,⟨e5,D0⟩,X.zz⟩
   ·have:=K.len;refine bM eh (ab gG ?_);lia
  exact codeAny_compStart_list (zu L) (wpAny_pyIter_keyiter jX (zu L))
 ·exact DP dU q
theorem TL(lH:Sys B)(sv:bZ P F n Y J (.aa x) (.Name b5 cv))(S:fH J.scope.names aA)(ak:jq [eD] aA.names=true)(ar:aA.names.lookup eD=some .local)(wR:ht eD=true)(sw:ht b5=true)
  (aQ:x<T.bV) (bx:y<T.bV) (qD:b5=T.nm x) (fQ:eD=T.nm y) (bI:ch.Inj) (gk:∀x,x<T.bV->T.nm x≠".0") (sx:t8 (mX J.scope.names aA.names) b5=true):
  bZ P F n Y J (.li x y) (.ListComp (.Subscript (.Name b5 a1) (.Name eD a2) ap) [⟨.Name eD a3, .Name b5 cv,[],0⟩] aA pos):=by
 intro C z
 have:=JL (P:=P) (F:=F) (g:=λv z=> .ok v z) (fin:=zB) (tree:=bj (eval (.ListComp (.Subscript (.Name b5 a1) (.Name eD a2) ap) [⟨.Name eD a3, .Name b5 cv,[],0⟩] aA pos) J)) lH (a1:=a1) (a2:=a2) (a3:=a3) (ap:=ap) (pos:=pos) sv S ak ar wR sw aQ bx qD fQ bI gk sx C z (λh=>by rw[Res.lw];exact zC h) λdU q=>by
  exact wQ (use:=none) S rfl dU (λx9 x9 x9 h=>h) q _
 rw[Res.lw]at this;exact this
end
class inductive uG(I:bX)(Z:bY):List (List Nat×V)->List (Value×Value)->Prop
 |nil:uG I Z [] []
 |cons {k:List Nat} {v:V} {u:Value} {t:Tok} {ah:List (List Nat×V)} {vs:List (Value×Value)}:Den I Z v u->uG I Z ah vs->uG I Z ((k,v)::ah) ((.str (ci k) t,u)::vs)
theorem TM:∀{ah:List (List Nat×V)},c7 k ah=none->k∉ah.map (·.1):=by
 intro br
 induction br with
 |nil=>intro x9 h;cases h
 |cons cm r ih=>
  obtain⟨bF,v⟩:=cm;intro h aJ;dsimp only[md]at h;rw[jV]at h
  by_cases q:bF=k
  ·replace h:=(oG q)▸h;exact sn h
  ·replace h:=(decide_eq_false q)▸h
   cases aJ with
   |head=>exact q rfl
   |tail be aJ=>exact ih h aJ
theorem TN{K:Type}[DecidableEq K]:∀(kvs acc:List (K×Value)),((acc++kvs).map (·.1)).Nodup->merged acc kvs=acc++kvs:=by
 intro br
 induction br with
 |nil=>intro acc x9;simp[merged]
 |cons cm r ih=>
  obtain⟨k,v⟩:=cm;intro acc h
  have ag:valueAt acc k=none:=by
   unfold valueAt;rw[Option.map_eq_none_iff,List.find?_eq_none];intro p aj;rw[List.map_append,List.nodup_append]at h;have:=h.2.2 p.1 (List.mem_map.mpr (bq p aj rfl)) k (by exact .head _)
   simpa using this
  refine ab (((by simp[merged]):merged acc ((k,v)::r)=merged (stored acc k v) r)) (ab (stored_absent ag) (ab (ih (acc++[(k,v)]) (by simpa using h)) ?_));simp
section
variable{n:Nat}{Y:List Env}{z:St}{I:bX}{Z:bY}{h:Heap}
variable{P:ca}{F:bT}{J:Env}
theorem uG.TO{ah:List (List Nat×V)}{vs:List (Value×Value)}(d:uG I Z ah vs):∃kvs:List (Str×Value),Carries (strKind prog w) vs kvs/\gV I Z ah kvs/\kvs.map (·.1)=ah.map λp=>ci p.1:=by
 induction d with
 |nil=>exact fW ([]) trivial .nil rfl
 |cons a be ih=>refine fV ih ?_;try clear ih;intro kvs ae af ax;exact fW ((_,_)::kvs) (fs (strKind_is _ _ _ _) rfl ae) (.cons a af) (by simp[ax])
class inductive n8(P:ca)(F:bT)(n:Nat)(Y:List Env)(J:Env):List E->List (Option Expr)->List Expr->Prop
 |nil:n8 P F n Y J [] [] []
 |cons {k v:E} {rP rQ:Expr} {r:List E} {dm:List (Option Expr)} {vs:List Expr}:bZ P F n Y J k rP->bZ P F n Y J v rQ->n8 P F n Y J r dm vs->n8 P F n Y J (k::v::r) (some rP::dm) (rQ::vs)
theorem n8.len(h:n8 P F n Y J r dm vs):dm.all (·.isSome)=true/\dm.length=vs.length:=by
 induction h with
 |nil=>exact⟨rfl,rfl⟩
 |cons be cm i5 ih=>exact⟨by exact ih.1,by simp[ih.2]⟩
abbrev wW:eg (List (Value×Value)) (List (List Nat×V)):=λx9 I Z x9 ah vs=>uG I Z ah vs/\(ah.map (·.1)).Nodup
theorem TP(h:n8 P F n Y J r dm vs)(C:aK)(pos:Pos):∀(z:St){bo:fZ},Goes Y aG bo bo->(∀z I Z h,bo z I Z h->bk J C z I Z h)->
  bD aG wW n Y bo z (evalPairs (pairTrees dm vs J pos)) (p3 P F r C z):=by
 induction h with
 |nil=>intro z bo bw aj;exact(av.ret (a:=([]:List (Value×Value))) (b:=([]:List (List Nat×V))) (D:=wW) λx9 x9 x9 x9=>⟨.nil, .nil⟩).tree λx9 x9 x9 x9 q=>pairTrees_nil_walk q
 | @cons k v rP rQ r dm vs ag bA be ih=>
  intro z bo bw aj
  refine(av.seq (t:=bj (eval rP J)) (f:=λdY=>aY.bind (bj (eval rQ J)) λjP=>aY.bind (bj (evalPairs (pairTrees dm vs J pos))) λr=>aY.ret ((dY,jP)::r)) (D₁:=bb)
   (g:=λdY z=>(az P F v C z).bind λjP z=>(p3 P F r C z).bind λah z=>match dY with
    | .str s=>match c7 s ah with
     |none=> .ok ((s,jP)::ah) z
     |some be=> .stuck
    |_=> .stuck)
   bw ((ag C z).pre λx9 x9 x9 q=>aj _ _ _ _ q) λdY c1 a=>?_).tree λx9 x9 x9 x9 q=>pairTrees_cons_walk q
  refine av.seq (D₁:=bb) (Goes.and bw fd) ((bA C c1).pre λx9 x9 x9 q=>aj _ _ _ _ q.1) λjP ef b=>?_;refine av.seq (D₁:=wW) (Goes.and (Goes.and bw fd) fd) (ih ef (Goes.and (Goes.and bw fd) fd) λx9 x9 x9 x9 q=>aj _ _ _ _ q.1.1) λah oa r=>?_
  cases dY with
  |str s=>
   dsimp only
   cases ak:c7 s ah with
   |some be=>exact .stuck
   |none=>
    refine av.leaf (λq=>q) λA I Z st Q E x9 x9 x9 am aj aC=>?_;refine eU aj ?_;try clear aj;intro dZ TQ TR;refine bC dZ ?_;try clear dZ;rintro⟨_,uF⟩ kZ
    cases uF with|str be t=>
    exact aC I Z st.heap st.toks _ .rfl' am ⟨.cons kZ TQ,by rw[List.map_cons,List.nodup_cons];exact⟨TM ak,TR⟩⟩
  |_=>exact .stuck
noncomputable def D5(tag:Nat)(ah:List (List Nat×V))(z:St):Res V:=match z.dI tag with
 |true=> .ok (.ref (z.aT tag)) (z.new tag (.ba ah.length ah))
 |false=> .stuck
theorem TS(h:n8 P F n Y J (k::v::r) dm vs)(eh:dm.length<=12):bZ P F n Y J (.dict tag false (k::v::r)) (.Dict dm vs pos):=by
 intro C z;refine(?_:bD aG bb n Y (bk J C) z _ ((p3 P F (k::v::r) C z).bind (D5 tag)));have dB:dm≠[]:=by cases h;simp
 have step:∀n0,av (λb=>n0<=b) (λz I Z h ah(q:Addr×List (Value×Value))=>(d1 Y q.1 I Z z h/\h.get? q.1=some {cls:= .type "dict",data:= .dict #[]}/\n0<=q.1)/\wW z I Z h ah q.2) n Y (λz I Z h=>bk J C z I Z h/\n0<=h.objs.size) z
   (λA Q E s=>(λc=>aY.bind (bj (evalPairs (pairTrees dm vs J pos))) λr=>aY.ret (c,r)) s.heap.objs.size A Q E {s with heap:=s.heap.push {cls:= .type "dict",data:= .dict #[]}}) (p3 P F (k::v::r) C z):=λn0=>by
  refine av.Jr (o:={cls:= .type "dict",data:= .dict #[]}) (W:=λc=>aY.bind (bj (evalPairs (pairTrees dm vs J pos))) λr=>aY.ret (c,r)) (X:=λb=>b<n0) rfl (Goes.zw (Y:=Y) sm) (λc=>?_) λI Z h b q ai=>hF ai q.2;have bd:p3 P F (k::v::r) C z=(p3 P F (k::v::r) C z).bind λah z=> .ok ah z:=(Res.lw _).symm;refine ab bd ?_
  have bw:Goes Y aG (λz I Z h=>(bk J C z I Z h/\n0<=h.objs.size)/\d1 Y c I Z z h/\h.get? c=some {cls:= .type "dict",data:= .dict #[]}/\∀b,b<n0->b<c) (λz I Z h=>(bk J C z I Z h/\n0<=h.objs.size)/\d1 Y c I Z z h/\h.get? c=some {cls:= .type "dict",data:= .dict #[]}/\∀b,b<n0->b<c):=
   ⟨λx y=>(h5 (sm.out x y.1) (y.2.1.ext x) (y.2.1.get x id y.2.2.1) y.2.2.2)⟩
  refine av.dv (O₁:=aG) (λx9 q=>q.elim) (D₁:=wW) bw (TP h C pos z bw λx9 x9 x9 x9 q=>q.1.1) λah σ' r=> .ret λI Z h q=>⟨⟨q.1.2.1,q.1.2.2.1,?_⟩,q.2⟩;refine Or.elim (Nat.lt_or_ge c n0) (λgL=>?_) λgL=>?_
  ·exact bf (q.1.2.2.2 c gL) (e0 _)
  ·exact gL
 refine(av.DE (D₂:=bb) (f:=λq A Q E s=>∃kvs,Carries (strKind prog w) q.2 kvs/\s.heap.DictOf (strKind prog w) q.1 []/\
   ∀h',h'.DictOf (strKind prog w) q.1 (merged [] kvs)->Heap.SameBut q.1 s.heap h'->Q (.ref q.1) {s with heap:=h',toks:=s.toks+q.2.length}) step (λah z=>by unfold D5;cases z.dI tag<;>rfl) λah c1 u ef e=>?_).tree λA s Q E q=>wpAny_Dict_walk (knd:=strKind prog w) h.len.1 h.len.2 dB (by lia) q
 unfold D5 at e
 cases ai:c1.dI tag with
 |false=>rw[ai]at e;injection e
 |true=>
  replace e:=ai▸e;cases e;refine⟨λq=>q,λn0 A I Z s Q E p aP aw aS am aq d aC=>?_⟩;refine eU d ?_;try clear d;intro dZ pc ij;refine eU dZ ?_;try clear dZ;intro N D6 D7;refine fV pc.TO ?_;intro kvs aB aN wX
  have TU:(kvs.map (·.1)).Nodup:=by refine ab wX ?_;refine ab (show(ah.map λp=>ci p.1)=(ah.map (·.1)).map ci by refine ab List.map_map ?_;rfl) ?_;unfold List.Nodup;rw[List.pairwise_map];exact ij.imp λdB q=>dB (y5 q)
  have aJ:merged [] kvs=kvs:=by refine c0 (TN kvs [] (by exact TU)) ?_;rfl
  refine fW kvs aB (Heap.dictOf_iff.mpr (a4 (Heap.dictOf_iff.mp (Heap.DictOf.new (knd:=strKind prog w) s.heap)) λo as r=>⟨o,by
   have bd:=hJ s.heap (o:={cls:= .type "dict",data:= .dict #[]}) rfl
   obtain rfl:=a8 ((bd).symm.trans as);exact D6,r⟩)) (λh' d0 dE=>?_)
  rw[aJ]at d0;refine bC (bu.gK (R:=am) N dE.extBut (fr dE.1.symm)) ?_;intro bW x;have ob:=N.ext x;refine bC (bW.claim (h':=h') (o:= .ba ah.length ah) ai ⟨ob.foot,ob.zet,ob.base,ob.sys⟩ ⟨ob.foot,ob.zet,ob.base,ob.sys⟩ ⟨rfl,kvs,d0,aN,b8 _⟩ λx9 x9 x9 x9 e=>e) ?_;intro kn gs;exact aC _ Z h' _ _ ((x.DC aq λb ai q=>bf ai (Nat.not_lt.mpr (q▸D7))).trans (iO.claim D7 D7 gs (by refine ab dE.1 ?_;exact aq))) kn (.ref (df rfl))
end
theorem D8:∀a b:List Nat,oM a b=!decide (b<a)
 |[],b=>by simp[BZ,B0,B1,List.not_lt_nil]
 |a::r,[]=>by simp[BZ,B0,B1]
 |a::r,b::t=>by
  simp only[BZ,B0,B1];refine ab ((D8 r t)) ?_
  by_cases ae:a<b
  ·have bd:Nat.blt a b=true:=by simpa using ae
   refine ab bd ?_
   have:¬(b::t<a::r):=by rw[List.cons_lt_cons_iff];lia
   simp[this]
  ·have bd:Nat.blt a b=false:=by cases q:Nat.blt a b with|false=>rfl|true=>exact bf (hQ q) ae
   refine ab bd ?_
   by_cases af:b<a
   ·have bB:Nat.blt b a=true:=by simpa using af
    refine ab bB ?_;have:b::t<a::r:=by rw[List.cons_lt_cons_iff];exact .inl af
    simp[this]
   ·have bB:Nat.blt b a=false:=by cases q:Nat.blt b a with|false=>rfl|true=>exact bf (hQ q) af
    refine ab bB ?_;have:a=b:=by lia
    clear bB bd;refine ab this ?_;simp
noncomputable abbrev iQ(a b:List Nat):Prop:=¬b<a
theorem JY(h:iQ a b)(k:iQ b c):iQ a c:=by exact List.le_trans h k
theorem TV(a b:List Nat):iQ a b\/iQ b a:=by rw[iQ,iQ,List.not_lt,List.not_lt];exact List.le_total a b
theorem TW(h:iQ a b)(k:iQ b a):a=b:=by exact List.le_antisymm h k
theorem JZ(s:List Nat):∀l,(tS s l).Perm (s::l):=by
 intro br
 induction br with
 |nil=>exact .refl _
 |cons a r ih=>
  dsimp only[tS]
  cases oM s a with
  |true=>exact .refl _
  |false=>exact((ih).cons a).trans (.swap _ _ _)
theorem J0:∀l,(rv l).Perm l:=by
 intro br
 induction br with
 |nil=>exact .refl _
 |cons a r ih=>exact(JZ a (rv r)).trans ((ih).cons a)
theorem TX(s:List Nat):∀l,l.Pairwise iQ->(tS s l).Pairwise iQ:=by
 intro br
 induction br with
 |nil=>exactλx9=>List.pairwise_singleton _ _
 |cons a r ih=>
  intro h;dsimp only[tS]
  cases e:oM s a with
  |true=>
   have:iQ s a:=by rw[D8]at e;simpa using e
   rw[List.pairwise_cons];refine⟨λx aQ=>?_,h⟩
   cases aQ with
   |head=>exact this
   |tail be aQ=>exact JY this ((List.pairwise_cons.mp h).1 x aQ)
  |false=>
   have:iQ a s:=by
    refine Or.elim (TV s a) (λq=>?_) λq=>?_
    ·rw[D8]at e;simp[q]at e
    ·exact q
   rw[List.pairwise_cons];refine⟨λx aQ=>?_,ih (List.pairwise_cons.mp h).2⟩;have aQ:=(JZ s r).mem_iff.mp aQ
   cases aQ with
   |head=>exact this
   |tail be aQ=>exact(List.pairwise_cons.mp h).1 x aQ
theorem TY:∀l,(rv l).Pairwise iQ:=by
 intro br
 induction br with
 |nil=>exact .nil
 |cons a r ih=>exact TX a _ ih
theorem J1:∀{l m:List (List Nat)},l.Pairwise iQ->m.Pairwise iQ->l.Perm m->l=m
 |[],m,_,_,p=>(p.symm.eq_nil).symm
 |a::l,[],_,_,p=>bf p.eq_nil (by simp)
 |a::l,b::m,ak,aJ,p=>by
  have zM:a=b:=by
   have ae:a∈b::m:=p.mem_iff.mp (.head _);have af:b∈a::l:=p.mem_iff.mpr (.head _)
   cases ae with
   |head=>rfl
   |tail be ae=>
    cases af with
    |head=>rfl
    |tail be af=>exact TW ((List.pairwise_cons.mp ak).1 b af) ((List.pairwise_cons.mp aJ).1 a ae)
  subst zM;refine bz _ (J1 (List.pairwise_cons.mp ak).2 (List.pairwise_cons.mp aJ).2 p.cons_inv)
theorem J2:∀(p:Str)(l:List Str),risingS p l=true->(p::l).Pairwise (λa b=>iQ a.cps.toList b.cps.toList)
 |p,[],_=>List.pairwise_singleton _ _
 |p,x::r,h=>by
  have h:(!PySem.Spec.ltCps x.cps.toList p.cps.toList&&risingS x r)=true:=h;rw[Bool.and_eq_true]at h;have ih:=J2 x r h.2
  have ae:iQ p.cps.toList x.cps.toList:=by
   have:=h.1;rw[ltCps_eq]at this
   simpa using this
  rw[List.pairwise_cons];refine⟨λy bx=>?_,ih⟩
  cases bx with
  |head=>exact ae
  |tail be bx=>exact JY ae ((List.pairwise_cons.mp ih).1 y bx)
theorem TZ(l:List Str)(h:sortedS l=true):l.Pairwise (λa b=>iQ a.cps.toList b.cps.toList):=by
 cases l with
 |nil=>exact .nil
 |cons p r=>exact J2 p r h
theorem T0(ar:sortedS jS=true)(aj:jS.Perm (keys.map ci)):jS=(rv keys).map ci:=by
 have ae:jS.map (λx=>x.cps.toList)=rv keys:=by
  refine J1 ?_ (TY keys) ?_
  ·rw[List.pairwise_map];exact TZ jS ar
  ·refine(aj.map _).trans ?_;refine ab List.map_map ?_;have:(λx:Str=>x.cps.toList)∘ci=id:=by funext k;rfl
   rw[this,List.map_id];exact(J0 keys).symm
 refine bM ae (ab List.map_map ?_);have:ci∘(λx:Str=>x.cps.toList)=id:=by funext k;rfl
 rw[this,List.map_id]
section
variable{n:Nat}{Y:List Env}{z:St}{I:bX}{Z:bY}{h:Heap}
variable{P:ca}{F:bT}{J:Env}
theorem T1{l:List (List Nat)}:∀{vs:List Value},StrsAre vs (l.map ci)->bn I Z (l.map .str) vs:=by
 induction l with
 |nil=>intro vs h;cases h;exact .nil
 |cons a r ih=>intro vs h;cases h with|cons be t h=>exact .cons (.str a t) (ih h)
set_option tactic.hygienic true in
theorem T2(ar:Sys B)(vs:List V)(ay:List Value)(z:St):bD aG bb n Y (λx9 I Z x9=>bn I Z vs ay) z (call (.builtin "sorted") ay) (bi .sorted vs z):=
 un (R2:=λvs r=>bD aG bb n Y (λx9 I Z x9=>bn I Z vs ay) z (call (.builtin "sorted") ay) r) (λx9=> .stuck) (λx=>
  um (R1:=λx r=>bD aG bb n Y (λx9 I Z x9=>bn I Z [x] ay) z (call (.builtin "sorted") ay) r) (λx9=> .stuck) (λid o as=>
   Ie (RO:=λo r=>z.heap id=some o->bD aG bb n Y (λx9 I Z x9=>bn I Z [.ref id] ay) z (call (.builtin "sorted") ay) r) (λx9 x9=> .stuck) (λb ah as=>iG .stuck λai=> .made λA I Z s Q E aw am aj aC=>aj.o5 λa d=>by
   have ai:=hQ ai;refine jm (n1 am d as) ?_;intro c kvs cy ag aB ak gI sy;refine ab cy ?_;refine cL aB.dictAt ?_;intro ep jd;have eh:=ak.length;refine Calls.call_function_entry kind_sorted plain_sorted entry_sorted (args_sorted1 _) ?_;refine aV (m:=checkCount "sorted" 1 1 _) (bQ ?_);refine aV (lD (kdu_collect (A:=A.in1) (kdl_dict (knd:=PySem.strKind prog w) (kvs:=kvs) (ep:=ep) (mm ar sy)) aw.handled jd (by refine ab gG ?_;lia) λh' aR acc ez wO kv=>?_));have mB:acc.toList.length=kvs.length:=by refine c0 Array.length_toList ?_;exact wO.1
   refine aV (wpAny_newList ?_ (by refine ab mB (ab gG ?_);lia))
   --rn keys
   have wX:acc.toList.map strOf=kvs.map (·.1)/\StrsAre acc.toList (kvs.map (·.1)):=by
    have i8:∀j v,acc.toList[j]?=some v->∃k x t,kvs[j]?=some (k,x)/\v=Value.str k t:=λj v e=>by
     refine cS (wO.2 j v (by refine c0 (Array.getElem?_toList).symm ?_;exact e)) ?_;intro k x ae af
     obtain⟨t,rfl⟩:∃t,v=Value.str k t:=by
      cases v<;>first|(simp[PySem.strKind,Value.isStrOf]at af;done)|skip
      rename_i y t;simp[PySem.strKind,Value.isStrOf]at af;exact⟨t,by exact ab af rfl⟩
     exact mV k x t ae rfl
    have aJ:acc.toList.map strOf=kvs.map (·.1):=by
     refine List.ext_getElem? λj=>?_;refine ab (List.getElem?_map) (ab (List.getElem?_map) ?_)
     cases cF:acc.toList[j]?with
     |none=>rw[List.getElem?_eq_none_iff,mB]at cF;refine ab (List.getElem?_eq_none_iff.mpr cF) ?_;rfl
     |some v=>refine fl (i8 j v cF) ?_;rintro k x t ae rfl;refine ab ae ?_;rfl
    refine⟨aJ,aJ▸strsAre_map _ λv bA=>?_⟩;refine cL (List.mem_iff_getElem?.mp bA) ?_;intro j cF;clear bA aJ wO eh jd ep sy aB ag;refine fl (i8 j v cF) ?_;intro k x t x9 cy;refine ab cy ?_;exact tK k t rfl
   have Ea:(h'.push {cls:= .type "list",data:= .seq acc.toList.toArray}).get? h'.objs.size=some (seqObj "list" acc.toList.toArray 0):=hJ _ rfl;refine aV (hI (wpAny_call_entry slot_list_sort (bq _ Ea rfl) entry_list_sort (list_sort_treeK strKind_oneLt Ea (wX.2).keysOf (λaea aeb bU e=>keyKind_strs (by refine bM e ?_;exact wX.2)) (by refine ab mB ?_;lia) λEb aj ph=>⟨_,rfl,?_⟩) (args_list_sort _)));refine fV (sorted_out_str wX.2 aj ph) ?_;intro aec gd fm k1
   have zN:kvs.map (·.1)=(ah.map (·.1)).map ci:=by
    have:∀{ah:List (List Nat×V)}{kvs:List (Str×Value)},gV I Z ah kvs->kvs.map (·.1)=(ah.map (·.1)).map ci:=λd=>by induction d with|nil=>rfl|cons be cm ih=>simp[ih]
    exact this ak
   replace fm:=zN▸fm;have bd:=T0 k1 fm;clear zN k1 fm ph;subst bd;refine cL (sortedHeap_at (out:=(arrOf Eb).map (·.2)) Ea) ?_;intro e aM;refine bQ (bq _ rfl ?_)
   have sz:∀b o,s.heap.get? b=some o->(sortedHeap (h'.push {cls:= .type "list",data:= .seq acc.toList.toArray}) h'.objs.size acc.toList ((arrOf Eb).map (·.2))).get? b=some o:=λb o e=>by
    have ae:=ez b o e;refine c0 (sortedHeap_old (Nat.ne_of_lt (ft ae)) (by rw[Heap.size_push];exact Nat.lt_succ_of_lt (ft ae))) ?_;exact et _ _ b o ae
   refine aC _ _ h'.objs.size ((arrOf Eb).map (·.2)).toList kv sz ⟨e,by refine ab Array.toArray_toList ?_;exact aM⟩ (T1 gd) ?_
   rw[List.length_map,(J0 _).length_eq,List.length_map];exact gI) o as) x) vs
theorem T3(ar:Sys B)(vs:List V)(ay:List Value)(z:St):bD aG bb n Y (λx9 I Z x9=>bn I Z vs ay) z (call (.type "dict") ay) (match z.dI tag with|true=>bi (.nN tag) vs z|false=> .stuck):=by
 cases ai:z.dI tag with
 |false=>exact .stuck
 |true=>
  exact un (R2:=λvs r=>bD aG bb n Y (λx9 I Z x9=>bn I Z vs ay) z (call (.type "dict") ay) r) (λx9=> .stuck) (λx=>
   um (R1:=λx r=>bD aG bb n Y (λx9 I Z x9=>bn I Z [x] ay) z (call (.type "dict") ay) r) (λx9=> .stuck) (λid o as=>
    Ie (RO:=λo r=>z.heap id=some o->bD aG bb n Y (λx9 I Z x9=>bn I Z [.ref id] ay) z (call (.type "dict") ay) r) (λx9 x9=> .stuck) (λb ah as=>by
     cases ah with
     |cons be cm=>exact .stuck
     |nil=>
      refine .fresh ai λA I Z s Q E aw am aj aC=>aj.o5 λa d=>?_;refine jm (n1 am d as) ?_;intro c kvs cy ag aB ak gI sy;refine ab cy ?_;cases ak;refine kt_call_dict (mm ar sy) aB (Nat.zero_le _) λh' aN dE=>?_;refine aC h' s.toks _ (b8 _) (λb o e=>?_) (by rw[dE.1,Heap.size_push];exact gP _) ⟨rfl,[],aN, .nil,b8 _⟩
      exact dE.extBut b o (Nat.ne_of_lt (ft e)) (et _ _ b o e)) o as) x) vs
end
section
variable{n:Nat}{Y:List Env}{z:St}
variable{P:ca}{F:bT}{J:Env}
theorem Ec{H h':Heap}:∀{Y:List Env},(∀J∈Y,J.scope.kind≠ .module/\∃L m,J.frame=some L/\H.get? L=none/\h'.Ns L m)->h'.FunFrames H Y:=by
 intro br
 induction br with
 |nil=>exactλx9=>trivial
 |cons J bU ih=>intro hf;obtain⟨k,L,m,iL,T4,J3⟩:=hf J (.head _);refine eB J3 ?_;try clear J3;intro o ah ep as aN x9;exact⟨k,(rm L o iL T4 as (λvs q=>by replace q:=(aN).symm.trans q;exact nomatch q)),ih λe aM=>hf e (.tail _ aM)⟩
def Passed(H:Heap)(h':Heap)(e:Addr):Prop:=∃aH,h'.TracedW H e (.ref b6) aH
theorem T5{E:cc}(iL:A.frames=some (J::Y))(hf:J.frame=some L)(ak:s.heap.FunFrames H (J::Y))(ag:H.StaysIn s.heap)(aM:H.get? e=none)
  (st:y2 H (J::Y) s.heap e) (aC:∀dp,H.StaysIn dp->Passed H dp e->s.heap.UpToSlots dp->Q () {s with heap:=dp}):wpAny M A (leaving J (.ref e)) Q E s:=by
 refine Or.elim st (λcz=>?_) λcz=>?_
 ·(refine tH cz ?_;try clear cz;intro ml vs aH as aB aN ae h0);refine wpAny_leaving_firstW iL ak hf as ag aM aN ae h0 λh' bl=>?_
  rw[aB]at bl;exact aC h' bl.1 (yn aH bl.2.2.1) bl.2.2.2
 ·(refine cS cz ?_;try clear cz;intro aH cs bH pu);rcases pu with rfl|⟨fo,bU,uj,wY,Ed,rfl⟩
  ·refine wpAny_leaving_nextW iL ak hf bH ag aM λh' bl=>?_;exact aC h' bl.1 (yn aH bl.2.2.1) bl.2.2.2
  ·refine bC (List.cons.inj wY) ?_;rintro rfl C5;obtain rfl:=a8 ((hf).symm.trans Ed);refine aV (wpAny_noteFrame_againW hf bH ?_);exact wpAny_landsW (h5 ag aM ak bH) λh' J4 di=>aC h' J4.1 (yn aH J4.2.2.2) di
theorem Ee{h h':Heap}(x:h.UpToSlots h'){a:Addr}{m:Str->Option Value}(aq:h.Ns a m){l:Prop}{o:Obj}{h0:Option Obj}(k:Kept l o (h.get? a))(ak:l):Kept l o (h'.get? a):=by refine k.trans λbS e=>?_;refine eB aq ?_;try clear aq;intro lu ah ep as aN x9;obtain rfl:=a8 ((e).symm.trans as);refine cL (x a bS e λvs q=>by replace q:=(aN).symm.trans q;exact nomatch q) ?_;intro ed ar;exact bq ed ar (λn=>bf ak n)
inductive wZ(I:bX)(Z:bY):cg->Flow->Prop
 |next:wZ I Z .next .next
 |cont:wZ I Z .cont .cont
 |ret {v:V} {u:Value}:Den I Z v u->wZ I Z (.ret v) (.ret u)
abbrev dF(J:Env):eg Flow (cg×aK):=λz I Z h x cs=>wZ I Z x.1 cs/\d7 I Z z J x.2 h
def iR(P:ca)(F:bT)(n:Nat)(Y:List Env)(J:Env)(b:List S)(xs:List Stmt):Prop:=
 ∀C z,bD (cI J) (dF J) n Y (bk J C) z (execs xs J) (bc P F b C z)
abbrev g1(P:ca)(f:Nat)(o:Obj)(aF:FuncData)(body:List Stmt):Prop:=(B.get? (T.c8 f)=some o)/\(o.data= .func aF)/\(B.CodeRec aF.code aF.qualname)/\(aF.body= .stmts body)/\(aF.closure=[])/\(aF.globals=mainGlobals)/\(aF.builtins=builtinsNs)/\(aF.scope.kind= .function)/\(aF.scope.isCoroutine=false)/\(aF.scope.isGenerator=false)/\(∀ay:List Value,ay.length=(P.fns f).params.length->∀s:Shared,B.StaysIn s.heap->BindsTo s aF ⟨ay,[]⟩ (((P.fns f).params.map T.nm).zip ay))/\(∀x∈(P.fns f).params,x<T.bV/\(aF.scope.names.lookup (T.nm x)=some .local\/aF.scope.names.lookup (T.nm x)=some .cell))/\((P.fns f).params.Nodup)/\(∀n,aF.scope.names.lookup n≠some .free)
section
variable(x:g1 a b c d e)
def g1.get:=x.1
def g1.data:=x.2.1
def g1.code:=x.2.2.1
def g1.stmts:=x.2.2.2.1
def g1.uH:=x.2.2.2.2.1
def g1.glob:=x.2.2.2.2.2.1
def g1.blt:=x.2.2.2.2.2.2.1
def g1.kind:=x.2.2.2.2.2.2.2.1
def g1.co:=x.2.2.2.2.2.2.2.2.1
def g1.gen:=x.2.2.2.2.2.2.2.2.2.1
def g1.bind:=x.2.2.2.2.2.2.2.2.2.2.1
def g1.par:=x.2.2.2.2.2.2.2.2.2.2.2.1
def g1.nodup:=x.2.2.2.2.2.2.2.2.2.2.2.2.1
def g1.T6:=x.2.2.2.2.2.2.2.2.2.2.2.2.2
end
theorem Ef:∀{xs:List Nat}{vs:List V}{C bJ:aK},kg xs vs C=some bJ->xs.length=vs.length
 |[],[],_,_,_=>rfl
 |x::xs,v::vs,C,bJ,h=>by have:=Ef (xs:=xs) (vs:=vs) h;simp[this]
 |[],_::_,_,_,h=>by exact ns h
 |_::_,[],_,_,h=>by exact ns h
theorem J5:∀{xs:List Nat}{vs:List V}{C bJ:aK},kg xs vs C=some bJ->xs.Nodup->∀y v,bJ y=some v->(y∉xs/\C y=some v)\/∃i:Nat,xs[i]?=some y/\vs[i]?=some v
 |[],[],C,bJ,h,_,y,v,e=>by obtain rfl:=a8 h;exact .inl ⟨by simp,e⟩
 |x::xs,u::vs,C,bJ,h,aq,y,v,e=>by
  rw[List.nodup_cons]at aq;refine Or.elim (J5 (xs:=xs) (vs:=vs) h aq.2 y v e) (λcz=>?_) λcz=>?_
  ·(refine bC cz ?_;try clear cz;intro ae af);rw[gw]at af
   by_cases q:y=x
   ·subst q;replace af:=(df rfl).symm.trans af;exact .inr ⟨0,rfl,by exact af⟩
   ·replace af:=(cO q).symm.trans af;exact .inl ⟨λaJ=>by cases aJ with|head=>exact q rfl|tail be aJ=>exact ae aJ,af⟩
  ·(refine a4 cz ?_;try clear cz;intro i ae af);exact .inr (bq (i+1) (by exact ae) (by exact af))
 |[],_::_,_,_,h,_,_,_,_=>by exact ns h
 |_::_,[],_,_,h,_,_,_,_=>by exact ns h
theorem Eg{kindOf:Str->Option NameKind}:∀(xs:List Str)(ay:List Value)(m:Str->Option Value)(i:Nat)(x:Str)(a:Value),xs.Nodup->xs[i]?=some x->ay[i]?=some a->kindOf x=some .local->bindL kindOf (xs.zip ay) m x=some a
 |y::xs,b::ay,m,0,x,a,aq,ae,af,ag=>by
  simp at ae af;subst ae af;rw[List.nodup_cons]at aq
  have keep:∀(xs:List Str)(ay:List Value)(m:Str->Option Value),y∉xs->bindL kindOf (xs.zip ay) m y=m y:=by
   intro xs
   induction xs with
   |nil=>intro ay m x9;rfl
   |cons aE xs ih=>
    intro ay m aJ
    cases ay with
    |nil=>rfl
    |cons c ay=>
     rw[List.zip_cons_cons,bindL,ih ay _ λq=>aJ (.tail _ q)]
     split
     ·exact cO λ(q:y=aE)=>aJ (q▸ .head _)
     ·rfl
  rw[List.zip_cons_cons,bindL,keep xs ay _ aq.1,if_pos ag];exact df rfl
 |y::xs,b::ay,m,i+1,x,a,aq,ae,af,ag=>by
  rw[List.nodup_cons]at aq;exact Eg xs ay _ i x a aq.2 (by simpa using ae) (by simpa using af) ag
 |[],_,_,_,_,_,_,ae,_,_=>by simp at ae
 |_::_,[],_,_,_,_,_,_,af,_=>by simp at af
theorem J6{kindOf:Str->Option NameKind}:∀(xs:List Str)(ay:List Value)(m:Str->Option Value)(i:Nat)(x:Str)(a:Value),xs.Nodup->xs[i]?=some x->ay[i]?=some a->kindOf x≠some .local->bindC kindOf (xs.zip ay) m x=some a
 |y::xs,b::ay,m,0,x,a,aq,ae,af,ag=>by
  simp at ae af;subst ae af;rw[List.nodup_cons]at aq
  have keep:∀(xs:List Str)(ay:List Value)(m:Str->Option Value),y∉xs->bindC kindOf (xs.zip ay) m y=m y:=by
   intro xs
   induction xs with
   |nil=>intro ay m x9;rfl
   |cons aE xs ih=>
    intro ay m aJ
    cases ay with
    |nil=>rfl
    |cons c ay=>
     rw[List.zip_cons_cons,bindC,ih ay _ λq=>aJ (.tail _ q)]
     split
     ·rfl
     ·exact cO λ(q:y=aE)=>aJ (q▸ .head _)
  rw[List.zip_cons_cons,bindC,keep xs ay _ aq.1,if_neg ag];exact df rfl
 |y::xs,b::ay,m,i+1,x,a,aq,ae,af,ag=>by
  rw[List.nodup_cons]at aq;exact J6 xs ay _ i x a aq.2 (by simpa using ae) (by simpa using af) ag
 |[],_,_,_,_,_,_,ae,_,_=>by simp at ae
 |_::_,[],_,_,_,_,_,_,af,_=>by simp at af
theorem cellsFrom_some:∀(names:List (Str×NameKind))(k:Nat)(acc:List (Str×Addr)),((x,NameKind.cell)∈names\/(acc.lookup x).isSome=true)->((cellsFrom k names acc).lookup x).isSome=true:=by
 revert x;refine@(o4 ne ?x9 ?_ ?_)
 rotate_left 1
 (
 intro br
 induction br with
 |nil=>exactλx9 acc h=>h.elim (λq=>by cases q) id
 |cons cm r ih=>
  obtain⟨y,Eh⟩:=cm;intro k acc h;dsimp only[cellsFrom]
  split
  ·rename_i ag;refine ih _ _ ?_
   rcases h with h|h
   ·cases h with
    |head=>exact .inr (by simp)
    |tail be h=>exact .inl h
   ·refine .inr ?_;refine ab List.lookup_cons ?_;cases ?x9==y<;>simp[h]
  ·rename_i ag;refine ih _ _ ?_
   rcases h with h|h
   ·cases h with
    |head=>exact bf rfl ag
    |tail be h=>exact .inl h
   ·exact .inr h)
 rfl
theorem uI:∀{l:List (Str×Addr)},l.lookup x=some a->(x,a)∈l:=by
 intro br
 induction br with
 |nil=>intro h;exact ns h
 |cons cm r ih=>
  obtain⟨y,b⟩:=cm;intro h;replace h:=(List.lookup_cons).symm.trans h
  cases q:x==y with
  |true=>replace h:=q▸h;obtain rfl:=a8 h;refine ab (eq_of_beq q) ?_;exact .head _
  |false=>replace h:=q▸h;exact .tail _ (ih h)
end
section
variable{n:Nat}{Y:List Env}{z:St}{I:bX}{Z:bY}
variable{P:ca}{F:bT}{J:Env}{f:Nat}{o:Obj}{aF:FuncData}{body:List Stmt}
theorem T7(bK:g1 P f o aF body)(bI:ch.Inj)(hA:kg (P.fns f).params vs (λx9=>none)=some C)(aN:bn I Z vs ay)(R:bu I Z z s.heap)
  (iN:InCallC s (callEnvC aF s.heap.objs.size a).locals (bindL (callEnvC aF s.heap.objs.size a).kindOf (((P.fns f).params.map T.nm).zip ay) λx9=>none) (callEnvC aF s.heap.objs.size a).cells (bindC (callEnvC aF s.heap.objs.size a).kindOf (((P.fns f).params.map T.nm).zip ay) λx9=>none) cr):
  d7 I Z z (callEnvC aF s.heap.objs.size a) C cr.heap:=by
 have ij:((P.fns f).params.map T.nm).Nodup:=by unfold List.Nodup;rw[List.pairwise_map];exact List.Pairwise.imp_of_mem (λaL ai dB q=>dB (bI _ _ (bK.par _ aL).1 (bK.par _ ai).1 q)) bK.nodup
 have Ei:∀x v,C x=some v->∃(i:Nat)(u:Value),(P.fns f).params[i]?=some x/\ay[i]?=some u/\Den I Z v u:=λx v e=>by
  refine Or.elim (J5 hA bK.nodup x v e) (λcz=>?_) λcz=>?_
  ·(refine bC cz ?_;try clear cz;intro x9 af);exact ns af
  ·(refine a4 cz ?_;try clear cz;intro i ae af);(refine a4 (aN.get af) ?_;intro u di db)
   exact iw i u ae di db
 have Ej:∀{c:Addr},s.heap.objs.size<=c->¬ew I z c:=λaB q=>bf (q.lt R) (Nat.not_lt.mpr aB);refine⟨bK.kind,bK.glob,bK.blt,(bq _ iN.toInCall.ns (λx v e k=>?_)),λm aJ=>?_,λm e5 c e ey=>name_of_addr iN.apart (uI e) (uI ey),Ej (b8 _),λx v e=>?_⟩
 ·refine hp (Ei x v e) ?_;intro i u ae af db;exact bq u (Eg _ _ _ i _ _ ij (by refine ab (List.getElem?_map) (ab ae ?_);rfl) af k) db
 ·have kO:aF.scope.names.lookup m=some .cell:=aJ.elim id λq=>bf q (bK.T6 m);refine cL (Option.isSome_iff_exists.mp (cellsFrom_some (x:=m) aF.scope.names (s.heap.objs.size+1) [] (.inl (uA kO)))) ?_;intro c aB;refine nM c _ aB (iN.cell m c aB) (Ej (Nat.le_of_lt (iN.above m c (uI aB):s.heap.objs.size<c))) (Nat.ne_of_gt (iN.above m c (uI aB):s.heap.objs.size<c)) (λx v q e=>?_);refine hp (Ei x v e) ?_;intro i u ae af db;clear aJ aB c Ej;subst q;exact bq u (J6 _ _ _ i _ _ ij (by refine ab (List.getElem?_map) (ab ae ?_);rfl) af (by refine(?_:aF.scope.names.lookup (T.nm x)≠_);refine ab kO ?_;decide)) db
 ·refine hp (Ei x v e) ?_;intro i u ae af db;exact(bK.par x (List.mem_of_getElem? ae)).1
theorem T8(ag:∀b o,h.get? b=some o->bO.get? b=some o)(cW:h.objs.size<=bO.objs.size)(bl:J.frame=some h.objs.size)(mC:∀b,cI J b->h.objs.size<=b)
  (x:cw (J::Y) (cI J) I Z z bO κ' Z' σ' h'):cw Y aG I Z z h κ' Z' σ' h':=
 ⟨x.kle,x.zle,λb o e cG x9=>(x.keep b o (ag b o e) cG λq=>bf (ft e) (Nat.not_lt.mpr (mC b q))).mono λdz=>a4 dz λfo aM hf=>by
  clear cG mC ag
  cases aM with
  |head=>obtain rfl:=a8 ((bl).symm.trans hf);exact bf (ft e) (e0 _)
  |tail be aM=>exact bq fo aM hf,λb f=>(x.foot b f).imp id λg=>ct cW g,λb aE=>(x.zed b aE).imp id λg=>ct cW g,ct cW x.size⟩
theorem eG.pop(S:eG I z fg (J::Y) h)(kx:A.frames=some Y):eG I z A Y h:=⟨kx,λe aM=>S.funs e (.tail _ aM)⟩
theorem eG.push(S:eG I z A Y h)(ag:J.scope.kind= .function)(hf:J.frame=some L)(ai:B.get? L=none)(aq:h.Ns L m)(cG:¬ew I z L):eG I z (A.deeper J) (J::Y) h:=
 ⟨by refine(?_:A.frames.map (J::·)=_);refine ab S.frames ?_;rfl,λe aM=>by
  cases aM with
  |head=>exact⟨by refine ab ag ?_;decide,L,m,hf,ai,aq,cG⟩
  |tail be aM=>exact S.funs e aM⟩
noncomputable abbrev mD(A fg:Around):Prop:=(fg.frames=A.frames)/\(fg.handled=A.handled)/\(fg.depth<=A.depth+3)/\(fg.units<=A.units+30)
section
variable(x:mD a b)
def mD.frames:=x.1
def mD.handled:=x.2.1
def mD.depth:=x.2.2.1
def mD.units:=x.2.2.2
end
theorem mD.rfl':mD A A:=⟨rfl,rfl,Nat.le_add_right _ _,Nat.le_add_right _ _⟩
theorem gX.deeper(r:gX A (n+1))(q:mD A fg)(J:Env):gX (fg.deeper J) n:=⟨q.handled.trans r.handled,by have:=r.depth;have:=q.depth;refine(?_:fg.depth+1+4*n+10<_);lia,by have:=r.units;have:=q.units;refine(?_:fg.units+3+40*n+100<_);lia⟩
abbrev mE(f:Addr)(ay:List Value):aY Value:=λA Q E s=>∀fg,mD A fg->codeAny (model prog w) fg (.call (.ref f) ⟨ay,[]⟩) (λr s'=>match r with| .ok (.ret v)=>Q v s'| .ok _=>False| .error e=>E e s') s
theorem hi.left(ag:∀b o,h.get? b=some o->bO.get? b=some o)(cW:h.objs.size<=bO.objs.size)(bl:J.frame=some h.objs.size)(mC:∀b,cI J b->h.objs.size<=b)
  (iL:A.frames=some (J::Y)) (U:hi (cI J) (J::Y) I Z z bO σ' s'.heap e) {E:cc}
  (aC:∀dp,hi aG Y I Z z h σ' dp e->Q () {s' with heap:=dp}):wpAny M A (leaving J (.ref e)) Q E s':=by
 refine rj U.ex ?_;intro κ' Z' H dR eM gg hh iC ib hO km iF ls kP;refine lD (T5 iL bl (Ec λfo aM=>let⟨k,L,m,cY,cT,_,eR,_⟩:=iF fo aM;⟨k,L,m,cY,cT,eR⟩:s'.heap.FunFrames H (J::Y)) ib hO ls λdp eX dz=>cL dz λaH k2=>λhy kv=>aC dp ⟨κ',Z',H,dR,eM,λb f=>(gg b f).imp id λg=>ct cW g,λb aE=>(hh b aE).imp id λg=>ct cW g,ct cW (ct iC kv),eX,hO,km,λfo aM=>?_, .inr (eK aH .none k2 (.inl rfl)),λb o ai cG x9=>?_⟩)
 ·obtain⟨k,L,m,cY,cT,e7,eR,il⟩:=iF fo (.tail _ aM);exact⟨k,L,m,cY,cT,e7,hy.ns eR,il⟩
 ·refine Or.elim (kP b o (ag b o ai) cG (λq=>bf (ft ai) (Nat.not_lt.mpr (mC b q)))) (λq=>?_) λcz=>?_
  ·exact .inl q
  ·(refine bC cz ?_;try clear cz;rintro⟨fo,aM,hf⟩ q);cases aM with
   |head=>obtain rfl:=a8 ((bl).symm.trans hf);exact bf (ft ai) (e0 _)
   |tail be aM=>obtain⟨k,L,m,cY,cT,e7,eR,il⟩:=iF fo (.tail _ aM);obtain rfl:=a8 ((hf).symm.trans cY);exact .inr ⟨(bq fo aM hf),Ee (h0:=none) hy eR q trivial⟩
theorem T9
  (uJ:A.depth<recursionLimit) (as:s.heap.get? a=some o) (qE:o.data= .func aF) (Ua:s.heap.NoLimit) (zl:s.heap.CodeRec aF.code aF.qualname)
  (pl:aF.body= .stmts body) (w0:BindsTo s aF ⟨zO,[]⟩ Ek) (Ub:aF.closure=[])
  (sk:∀x∈Ek,aF.scope.names.lookup x.1=some .local\/(aF.scope.names.lookup x.1=some .cell/\((cellsFrom (s.heap.objs.size+1) aF.scope.names []).lookup x.1).isSome=true))
  (h:∀cr,InCallC s (callEnvC aF s.heap.objs.size a).locals (bindL (callEnvC aF s.heap.objs.size a).kindOf Ek λx9=>none) (callEnvC aF s.heap.objs.size a).cells
    (bindC (callEnvC aF s.heap.objs.size a).kindOf Ek λx9=>none) cr->
   wpAny (model prog w) (A.deeper (callEnvC aF s.heap.objs.size a)) (execs body (callEnvC aF s.heap.objs.size a)) (λf s'=>R (.ok (.ret (match f with| .ret v=>v|_=> .none))) s')
    (λe s'=>wpAny (model prog w) (A.deeper (callEnvC aF s.heap.objs.size a)) (leaving (callEnvC aF s.heap.objs.size a) e) (λx9 lI=>R (.error e) lI) (λey lI=>R (.error ey) lI) s') cr)
  (El:aF.scope.isCoroutine=false) (Uc:aF.scope.isGenerator=false) (ag:aF.scope.kind= .function):
  codeAny (model prog w) A (.call (.ref a) ⟨zO,[]⟩) R s:=by
 refine codeAny_call_function uJ as qE El Uc pl zl (w0 _ _ _ _ ?_);refine ab Ub ?_;refine wpAny_newFunctionEnv_cells ag sk λJ aM s' x=>?_;subst aM;exact⟨Ua.keeps x.toInCall.keep,codeAny_func (h s' x)⟩
theorem J7(bK:g1 P f o aF body)(lim:B.NoLimit)(bI:ch.Inj)(ai:∀L,(∀c,L<=c->B.get? c=none)->iR P F n (callEnvC aF L (T.c8 f)::Y) (callEnvC aF L (T.c8 f)) (P.fns f).body body)(vs:List V)(Em ay:List Value)
  (w0:ay.length=(P.fns f).params.length->∀s:Shared,B.StaysIn s.heap->BindsTo s aF ⟨Em,[]⟩ (((P.fns f).params.map T.nm).zip ay)) (z:St):
  av aG bb (n+1) Y (λx9 I Z x9=>bn I Z vs ay) z (mE (T.c8 f) Em) (dO P F f vs z):=by
 revert bK lim bI ai w0;revert n Y P F f o aF body vs Em ay z;refine@(rX ne ne v3 o3 ne ne ne ne ne ne ne hc ?n9 ?fs9 ?P9 ?F9 ?f9 ?o9 ?fd9 ?body9 ?vs9 ?as09 ?as9 ?σ9 ?_ ?_)
 rotate_left 12
 (
 intro bK lim bI ai w0;unfold dO
 cases hA:kg ((?P9).fns ?f9).params ?vs9 (λx9=>none)with
 |none=>exact .stuck
 |some C=>
  dsimp only
  --rn ?body9 is aed
  have enter:∀(A fg:Around)(_:mD A fg)(I:bX)(Z:bY)(s:Shared)(Q:cc)(E:cc),gX A (?n9+1)->eG I ?σ9 A ?fs9 s.heap->bu I Z ?σ9 s.heap->bn I Z ?vs9 ?as9->
    (∀bO jA,(∀b o,s.heap.get? b=some o->bO.get? b=some o)->s.heap.objs.size<=bO.objs.size->(∀b,cI (callEnvC ?fd9 s.heap.objs.size (T.c8 ?f9)) b->s.heap.objs.size<=b)->d7 I Z ?σ9 (callEnvC ?fd9 s.heap.objs.size (T.c8 ?f9)) C bO->
     bu I Z ?σ9 bO->eG I ?σ9 (fg.deeper (callEnvC ?fd9 s.heap.objs.size (T.c8 ?f9))) (callEnvC ?fd9 s.heap.objs.size (T.c8 ?f9)::?fs9) bO->
     wpAny (model prog w) (fg.deeper (callEnvC ?fd9 s.heap.objs.size (T.c8 ?f9))) (execs ?body9 (callEnvC ?fd9 s.heap.objs.size (T.c8 ?f9))) (λcs s'=>Q (match cs with| .ret v=>v|_=> .none) s')
      (λe s'=>wpAny (model prog w) (fg.deeper (callEnvC ?fd9 s.heap.objs.size (T.c8 ?f9))) (leaving (callEnvC ?fd9 s.heap.objs.size (T.c8 ?f9)) e) (λx9 lI=>E e lI) (λey lI=>E ey lI) s') {s with heap:=bO,toks:=jA})->
    codeAny (model prog w) fg (.call (.ref (T.c8 ?f9)) ⟨?as09,[]⟩) (λr s'=>match r with| .ok (.ret v)=>Q v s'| .ok _=>False| .error e=>E e s') s:=by
   intro A fg mF I Z s Q E aw aS am aj h;have En:=aw.depth;have aee:=mF.depth;have Ud:eG I ?σ9 fg ?fs9 s.heap:=⟨mF.frames.trans aS.frames,aS.funs⟩;refine T9 (by lia) (am.base _ _ bK.get) bK.data (lim.keeps am.base) (bK.code.keeps am.base) bK.stmts (w0 (by refine c0 (aj.length).symm ?_;exact((Ef hA).symm:(?vs9).length=((?P9).fns ?f9).params.length)) s am.base) bK.uH (λx aQ=>?_) (λcr iN=>?_) bK.co bK.gen bK.kind
   ·refine a4 (List.mem_map.mp (List.of_mem_zip aQ).1) ?_;intro y bx aM
    rcases(bK.par y bx).2 with q|q
    ·exact .inl (aM▸q)
    ·exact .inr ⟨aM▸q,cellsFrom_some (?fd9).scope.names (s.heap.objs.size+1) [] (.inl (uA (aM▸q)))⟩
   ·have Fr:=T7 bK bI hA aj am iN;have w1:=iN.toInCall.keep;refine kG iN.toInCall.same ?_;rintro bO jA rfl;have cW:s.heap.objs.size<=bO.objs.size:=Nat.le_of_lt (iN.toInCall.ns).lt;have aQ:cw ?fs9 aG I Z ?σ9 s.heap I Z ?σ9 bO:=(ee.grow w1 cW).fN
    have Ue:B.get? s.heap.objs.size=none:=by
     cases e:B.get? s.heap.objs.size with
     |none=>rfl
     |some p=>exact bf (am.blt e) (e0 _)
    refine h bO jA w1 cW (λb ai=>?_) Fr (am.grow w1) ((Ud.eO aQ).push bK.kind rfl Ue iN.toInCall.ns λq=>e0 _ (q.lt am))
    rcases ai with rfl|⟨m,_,aJ⟩
    ·exact b8 _
    ·exact Nat.le_of_lt ((iN.above) m b (uI aJ))
  have hu:=λL bl=>ai L bl C ?σ9
  have h0:∀c,B.objs.size<=c->B.get? c=none:=λc aB=>by
   cases e:B.get? c with
   |none=>rfl
   |some p=>exact bf (ft e) (Nat.not_lt.mpr aB)
  have zM:∀{I:bX}{Z:bY}{s:Shared},bu I Z ?σ9 s.heap->∀c,s.heap.objs.size<=c->B.get? c=none:=λam c aB=>by
   cases e:B.get? c with
   |none=>rfl
   |some p=>exact bf (am.blt e) (Nat.not_lt.mpr aB)
  cases aQ:bc ?P9 ?F9 ((?P9).fns ?f9).body C ?σ9 with
  |stuck=>exact .stuck
  |exc σ'=>
   simp only[aQ]at hu;refine⟨(hu B.objs.size h0).1,λaP A I Z s Q E aw aS am aj dt fg mF=>enter A fg mF I Z s Q E aw aS am aj λbO jA ag cW mC Fr Eo zP=>?_⟩;refine(hu _ (zM am)).2 aP (fg.deeper _) I Z {s with heap:=bO,toks:=jA} _ _ (aw.deeper mF _) zP Eo Fr λh' aR e U=>?_;exact hi.left (s':={s with heap:=h',toks:=aR}) ag cW rfl mC zP.frames U λdp Ep=>dt dp aR e Ep
  |ok x σ'=>
   simp only[aQ]at hu
   have fin:∀v,(∀I Z cs,wZ I Z x.1 cs->Den I Z v (match cs with| .ret v=>v|_=> .none))->av aG bb (?n9+1) ?fs9 (λx9 I Z x9=>bn I Z ?vs9 ?as9) ?σ9 (mE (T.c8 ?f9) ?as09) (.ok v σ'):=λv bA=>by
    refine⟨(hu B.objs.size h0).1,λaP A I Z s Q E aw aS am aj aC fg mF=>enter A fg mF I Z s Q E aw aS am aj λbO jA ag cW mC Fr Eo zP=>?_⟩;refine(hu _ (zM am)).2 aP (fg.deeper _) I Z {s with heap:=bO,toks:=jA} _ _ (aw.deeper mF _) zP Eo Fr λκ' Z' h' aR cs x' bW dP d=>?_;exact aC κ' Z' h' aR _ (T8 ag cW rfl mC x') bW (dP.pop aS.frames) (bA κ' Z' cs d.1)
   obtain⟨cs,bJ⟩:=x
   cases cs with
   |ret v=>exact fin v λI Z cs d=>by cases d;assumption
   |next=>exact fin .none λI Z cs d=>by cases d;exact .none
   |cont=>exact .stuck)
 rfl
theorem Uf(bK:g1 P f o aF body)(lim:B.NoLimit)(bI:ch.Inj)(ai:∀L,(∀c,L<=c->B.get? c=none)->iR P F n (callEnvC aF L (T.c8 f)::Y) (callEnvC aF L (T.c8 f)) (P.fns f).body body)(vs:List V)(ay:List Value)(z:St):
  av aG bb (n+1) Y (λx9 I Z x9=>bn I Z vs ay) z (mE (T.c8 f) ay) (dO P F f vs z):=J7 bK lim bI ai vs ay ay (bK.bind ay) z
end
section
variable{n:Nat}{Y:List Env}{z:St}{I:bX}{Z:bY}{ao:cR}
variable{P:ca}{F:bT}{J:Env}
abbrev oc(P:ca)(ao:cR)(F:bT)(n:Nat)(Y:List Env):Prop:=(∀f vs ay z,av aG bb n Y (λx9 I Z x9=>bn I Z vs ay) z (mE (T.c8 f) ay) (F.fn f vs z))/\(∀v a z,av aG bb n Y (λx9 I Z x9=>bn I Z [v] [a]) z (mE (T.c8 (P.g8 ao.jo)) [a]) (F.fn (P.g8 ao.jo) (v::ao.oZ.map .int) z))
def oc.fn(x:oc a b c d e):=x.1
def oc.dfl(x:oc a b c d e):=x.2
theorem Ug{E:cc}(h:mE a ay A Q E s):wpAny (model prog w) A (call (.ref a) ay) Q E s:=wpAny_call (h A .rfl')
theorem J8(dU:oc P ao F n Y)(as:B.get? (T.c8 f)=some o)(aN:o.data= .func aF)(vs:List V)(ay:List Value)(z:St):
  av aG bb n Y (λx9 I Z x9=>bn I Z vs ay) z (λA Q E s=>(s.heap.get? (T.c8 f)=some o/\o.data= .func aF)/\wpAny (model prog w) A (call (.ref (T.c8 f)) ([]++ay)) Q E s) (F.fn f vs z):=
 (dU.fn f vs ay z).f0 λA I Z s Q E x9 x9 am x9 q=>⟨⟨am.base _ _ as,aN⟩,Ug q⟩
theorem Uh(dU:oc P ao F n Y)(as:B.get? (T.c8 f)=some o)(Ui:o.data= .func aF)(aN:(x==("__debug__":Str))=false)(aw:Reads x (.ref (T.c8 f)))(ag:J.kindOf x=some .globalImplicit)
  (aL:ie P F n Y J ah xs):bZ P F n Y J (.bh f ah) (.Call (.Name x p) xs [] pos):=by
 intro C z;refine(?_:bD aG bb n Y (bk J C) z (eval (.Call (.Name x p) xs [] pos) J) ((de P F ah C z).bind λvs z=>F.fn f vs z));refine(uq (p:=p) (k:=λiH=>bj (callWith pos iH [] (backTo pos (starEach xs J)) (backToKw pos (keywordEach [] J)))) aN aw ag (λx9 x9 x9 x9 q=>⟨C,q⟩) ?_).tree λA s Q E q=>wpAny_Call_ofName q;refine(av.seq (t:=bj (spliced (backTo pos (starEach xs J)))) (f:=λay A Q E s=>(s.heap.get? (T.c8 f)=some o/\o.data= .func aF)/\wpAny (model prog w) A (call (.ref (T.c8 f)) ([]++ay)) Q E s) cJ (m8 aL C pos z cJ λx9 x9 x9 x9 q=>q) λvs σ' ay=>(J8 dU as Ui vs ay σ').pre λx9 x9 x9 q=>q.2).tree λA s Q E q=>?_;exact Calls.callWith_function (na (kS aL pos) q)
theorem Uj{E:cc}(sb:args.any (·.1)=false)
  (h:wpAny (model prog w) A (spliced args) (λx9 x9=>False) E s):wpAny (model prog w) A (callWith pos f first args []) Q E s:=by
 exact aV (hI (cd (na (Q:=λx9 x9=>False) sb h) (λx9 x9 q=>q.elim) λx9 x9 x=>x))
theorem Uk(dU:oc P ao F n Y)(J9:∀f,(∃o aF,B.get? (T.c8 f)=some o/\o.data= .func aF)\/∀vs z,F.fn f vs z= .stuck)(aM:bZ P F n Y J e (.Subscript dc i p))
  (aL:ie P F n Y J ah xs):bZ P F n Y J (.tN e ah) (.Call (.Subscript dc i p) xs [] pos):=by
 intro C z
 refine(?_:bD aG bb n Y (bk J C) z (eval (.Call (.Subscript dc i p) xs [] pos) J) ((az P F e C z).bind λiH z=>(de P F ah C z).bind λvs z=>match iH with
   | .fn f=>F.fn f vs z
   |_=> .stuck))
 refine(av.seq (t:=bj (eval (.Subscript dc i p) J)) (f:=λiH=>bj (callWith pos iH [] (backTo pos (starEach xs J)) (backToKw pos (keywordEach [] J)))) cJ (aM C z) λiH σ' u=>?_).tree λA s Q E q=>?_
 ·have never:av aG bb n Y (λz I Z h=>bk J C z I Z h/\bb z I Z h iH u) σ' (bj (callWith pos u [] (backTo pos (starEach xs J)) (backToKw pos (keywordEach [] J)))) ((de P F ah C σ').bind λx9 x9=> .stuck):=
   (av.seq (t:=bj (spliced (backTo pos (starEach xs J)))) (f:=λx9 x9 x9 x9 x9=>False) (Goes.and cJ fd) (m8 aL C pos σ' (Goes.and cJ fd) λx9 x9 x9 x9 q=>q.1) λvs fc ay=> .stuck).tree λA s Q E q=>Uj (kS aL pos) q
  cases iH with
  |fn f=>
   refine Or.elim (J9 f) (λcz=>?_) λph=>?_
   ·(refine cS cz ?_;try clear cz;intro o aF as aN);refine(av.seq (t:=bj (spliced (backTo pos (starEach xs J)))) (f:=λay A Q E s=>(s.heap.get? (T.c8 f)=some o/\o.data= .func aF)/\wpAny (model prog w) A (call (.ref (T.c8 f)) ([]++ay)) Q E s) (Goes.and cJ fd) (m8 aL C pos σ' (Goes.and cJ fd) λx9 x9 x9 x9 q=>q.1) λvs fc ay=>(J8 dU as aN vs ay fc).pre λx9 x9 x9 q=>q.2).f0 λA I Z s Q E x9 x9 x9 aj q=>?_
    have di:u= .ref (T.c8 f):=by cases aj.2;rfl
    clear aj aM e J9;subst di;exact Calls.callWith_function (na (kS aL pos) q)
   ·have bd:((de P F ah C σ').bind λvs z=>F.fn f vs z)=(de P F ah C σ').bind λx9 x9=> .stuck:=by congr 1;funext vs z;exact ph vs z
    refine(?_:av aG bb n Y _ σ' _ ((de P F ah C σ').bind λvs z=>F.fn f vs z));refine ab bd ?_;exact never
  |_=>exact never
 ·refine(?_:wpAny _ A (do callWith pos (<-eval (.Subscript dc i p) J) [] (backTo pos (starEach xs J)) (backToKw pos (keywordEach [] J))) Q E s);exact aV q
theorem Ka:mD A (A.under (.builtin "type.__call__" ⟨.ref a::l,kw⟩)):=by
 refine⟨?_,rfl,?_,?_⟩
 ·rfl
 ·have e:(Code.builtin "type.__call__" ⟨.ref a::l,kw⟩).weight=(Code.builtin "type.__call__" ⟨[.ref 0],[]⟩).weight:=rfl;refine(?_:A.depth+(Code.builtin "type.__call__" ⟨.ref a::l,kw⟩).weight<=_);refine ab e ?_;exact Nat.add_le_add_left (dG rfl) _
 ·have e:(Code.builtin "type.__call__" ⟨.ref a::l,kw⟩).cUnits=(Code.builtin "type.__call__" ⟨[.ref 0],[]⟩).cUnits:=rfl;refine(?_:A.units+(Code.builtin "type.__call__" ⟨.ref a::l,kw⟩).cUnits<=_);refine ab e ?_;exact Nat.add_le_add_left (dG rfl) _
abbrev mG(P:ca)(c:Nat):Prop:=(makesIn K (T.e2 c)=true)/\(findIn K (.ref (T.e2 c)) "__init__"=some (some (.ref (T.c8 (P.g8 c)))))/\(typeIn K (.ref (T.c8 (P.g8 c)))=some (.type "function"))/\(keepIn K (.ref (T.e2 c))=true)
section
variable(x:mG a b)
def mG.Ul:=x.1
def mG.ini:=x.2.1
def mG.fn:=x.2.2.1
def mG.keep:=x.2.2.2
end
theorem Kb(X:K.In B)(N:mG P c)(vs gW:List V)(ay:List Value)(z:St)(qF:∀x,av aG bb n Y (λx9 I Z x9=>bn I Z (.ref (z.aT c)::vs) (.ref x::ay)) (z.new c (.inst c 0 [])) (mE (T.c8 (P.g8 c)) (.ref x::ay)) (F.fn (P.g8 c) (.ref (z.aT c)::gW) (z.new c (.inst c 0 [])))):
  av aG bb n Y (λx9 I Z x9=>bn I Z vs ay) z (bj (call (.ref (T.e2 c)) ay)) (match z.dI c with
   |true=>(F.fn (P.g8 c) (.ref (z.aT c)::gW) (z.new c (.inst c 0 []))).bind λr σ'=>match r with
    | .none=> .ok (.ref (z.aT c)) σ'
    |_=> .stuck
   |false=> .stuck):=by
 revert X N qF;revert n Y P F c vs gW ay z;refine@(CM ne ne v3 o3 ne ne ne ne hc ?n9 ?fs9 ?P9 ?F9 ?c9 ?vs9 ?vs'9 ?as9 ?σ9 ?_ ?_)
 rotate_left 9
 (
 intro X N qF
 cases ai:(?σ9).dI ?c9 with
 |false=>exact .stuck
 |true=>
  dsimp only
  --rn start
  have start:∀{A:Around}{I:bX}{Z:bY}{s:Shared},eG I ?σ9 A ?fs9 s.heap->bu I Z ?σ9 s.heap->bn I Z ?vs9 ?as9->
    let af:=(s.heap.push emptyDict).push (instObj (T.e2 ?c9) s.heap.objs.size)
    let sA:=I.put ((?σ9).aT ?c9) (s.heap.objs.size+1) s.heap.objs.size
    cw ?fs9 aG I Z ?σ9 s.heap sA Z ((?σ9).new ?c9 (.inst ?c9 0 [])) af/\bu sA Z ((?σ9).new ?c9 (.inst ?c9 0 [])) af/\bn sA Z (.ref ((?σ9).aT ?c9)::?vs9) (.ref (s.heap.objs.size+1)::?as9):=by
   intro A I Z s aS am aj af sA;have ag:∀b o,s.heap.get? b=some o->af.get? b=some o:=λb o e=>et _ _ b o (et _ _ b o e);have cW:s.heap.objs.size<=af.objs.size:=by rw[Heap.size_push,Heap.size_push];lia
   have aQ:af.get? (s.heap.objs.size+1)=some (instObj (T.e2 ?c9) s.heap.objs.size):=by have:=hJ (s.heap.push emptyDict) (o:=instObj (T.e2 ?c9) s.heap.objs.size) rfl;rw[Heap.size_push]at this;exact this
   have cp:af.Ns s.heap.objs.size (λx9=>none):=by have:=(Heap.Ns.new s.heap (.type "dict")).keeps (h':=af) λb o e=>et _ _ b o e;exact this
   have as:hN I Z af (s.heap.objs.size+1) s.heap.objs.size (.inst ?c9 0 []):=
    ⟨(rl _ aQ rfl rfl rfl),⟨_,_,_,_,(et _ _ _ _ (hJ _ rfl):af.get? s.heap.objs.size=some emptyDict),rfl,rfl,b8 _,cp,λx v e=>by cases e⟩,λx v e=>by cases e⟩
   refine bC (am.newObj ai (gP _) (b8 _) as ag) ?_;intro bW gs;exact fs ((ee.newObj (am.y1 ai).1 (gP _) (b8 _) gs ag cW).fN) bW (.cons (.ref (df rfl)) (aj.mono gs (.refl _)))
  have tree:∀{A:Around}{s:Shared}{R:Result->Shared->Prop},B.StaysIn s.heap->
    (∀fg,mD A fg->codeAny (model prog w) fg (.call (.ref (T.c8 ((?P9).g8 ?c9))) ⟨.ref (s.heap.objs.size+1)::?as9,[]⟩) (InitBack (s.heap.objs.size+1) R) {s with heap:=(s.heap.push emptyDict).push (instObj (T.e2 ?c9) s.heap.objs.size)})->
    codeAny (model prog w) A (.call (.ref (T.e2 ?c9)) ⟨?as9,[]⟩) R s:=by
   intro A s R fx h;have pd:K.In s.heap:=X.keeps fx;exact make_core (makes_of pd N.Ul) (looks_findIn pd N.ini) (λself=>bind_fn pd self N.fn) (.inl rfl) (h _ Ka)
  cases aw:(?F9).fn ((?P9).g8 ?c9) (.ref ((?σ9).aT ?c9)::?vs'9) ((?σ9).new ?c9 (.inst ?c9 0 []))with
  |stuck=>exact .stuck
  |exc σ'=>
   simp only[aw]at qF;refine⟨(qF 0).1,λaP A I Z s Q E pv aS am aj dt=>wpAny_call (tree am.base λfg mF=>?_)⟩;refine eU (start aS am aj) ?_;intro x bW d;have:=(qF _).2 aP A _ Z {s with heap:=(s.heap.push emptyDict).push (instObj (T.e2 ?c9) s.heap.objs.size)} (λx9 x9=>False) E pv (aS.eO x) bW d λh' aR e U=>dt h' aR e (U.back x);refine codeAny_mono (this fg mF) λr s' aw=>?_
   cases r with
   |ok cs=>cases cs<;>exact aw.elim
   |error e=>exact aw
  |ok v σ'=>
   simp only[aw]at qF
   cases v with
   |none=>
    refine(?_:av aG bb ?n9 ?fs9 (λx9 I Z x9=>bn I Z ?vs9 ?as9) ?σ9 (bj (call (.ref (T.e2 ?c9)) ?as9)) (.ok (.ref ((?σ9).aT ?c9)) σ'));refine⟨(qF 0).1,λaP A I Z s Q E pv aS am aj aC=>wpAny_call (tree am.base λfg mF=>?_)⟩;refine eU (start aS am aj) ?_;intro x bW d
    have:=(qF _).2 aP A _ Z {s with heap:=(s.heap.push emptyDict).push (instObj (T.e2 ?c9) s.heap.objs.size)} (λv s'=>v= .none/\Q (.ref (s.heap.objs.size+1)) s') E pv (aS.eO x) bW d λκ' Z' h' aR u y kn r7 db=>by
     cases db;exact⟨rfl,aC κ' Z' h' aR _ (x.trans y) kn r7 (.ref (y.kle _ _ (df rfl)))⟩
    refine codeAny_mono (this fg mF) λr s' aw=>?_
    cases r with
    |ok cs=>cases cs<;>first|exact aw|exact aw.elim
    |error e=>exact aw
   |_=>exact .stuck)
 rfl
theorem Um(X:K.In B)(dU:oc P ao F n Y)(N:mG P c)(aN:(x==("__debug__":Str))=false)(aw:Reads x (.ref (T.e2 c)))(ag:J.kindOf x=some .globalImplicit)
  (aL:ie P F n Y J ah xs):bZ P F n Y J (.new c ah) (.Call (.Name x p) xs [] pos):=by
 intro C z
 refine(?_:bD aG bb n Y (bk J C) z (eval (.Call (.Name x p) xs [] pos) J) ((de P F ah C z).bind λvs z=>match z.dI c with
   |true=>(F.fn (P.g8 c) (.ref (z.aT c)::vs) (z.new c (.inst c 0 []))).bind λr σ'=>match r with
    | .none=> .ok (.ref (z.aT c)) σ'
    |_=> .stuck
   |false=> .stuck))
 refine(uq (p:=p) (k:=λiH=>bj (callWith pos iH [] (backTo pos (starEach xs J)) (backToKw pos (keywordEach [] J)))) aN aw ag (λx9 x9 x9 x9 q=>⟨C,q⟩) ?_).tree λA s Q E q=>wpAny_Call_ofName q;refine(av.seq (t:=bj (spliced (backTo pos (starEach xs J)))) (f:=λay A Q E s=>K.In s.heap/\wpAny (model prog w) A (call (.ref (T.e2 c)) ([]++ay)) Q E s) cJ (m8 aL C pos z cJ λx9 x9 x9 x9 q=>q) λvs σ' ay=>((Kb X N vs vs ay σ' λx=>dU.fn (P.g8 c) (.ref (σ'.aT c)::vs) (.ref x::ay) (σ'.new c (.inst c 0 []))).pre λx9 x9 x9 q=>q.2).f0 λA I Z s Q E x9 x9 am x9 q=>⟨X.keeps am.base,q⟩).tree λA s Q E q=>?_;exact callWith_of (P:=K.In) (by refine ab (kS aL pos) ?_;rfl) (keeps_K N.keep) (na (kS aL pos) q)
theorem Kc:∀{vs:List V}{is:List Int},yL vs is=true->vs=is.map .int
 |[],[],_=>rfl
 |[],_::_,h=>by exact b3 h
 |v::r,is,h=>by
  cases v with
  |int a=>
   cases is with
   |nil=>exact b3 h
   |cons b t=>have h:(eC a b&&yL r t)=true:=h;rw[Bool.and_eq_true,nZ]at h;refine ab (of_decide_eq_true h.1) (ab (Kc h.2) ?_);rfl
  |_=>cases is<;>exact b3 h
theorem Un(X:K.In B)(dU:oc P ao F n Y)(N:mG P c)(aB:c=ao.jo)(bA:dK=ao.oZ.map .int)(aN:(x==("__debug__":Str))=false)(aw:Reads x (.ref (T.e2 c)))(ag:J.kindOf x=some .globalImplicit):
  bZ P F n Y J (.newD c dK) (.Call (.Name x p) [] [] pos):=by
 intro C z;subst aB bA
 refine(?_:bD aG bb n Y (bk J C) z (eval (.Call (.Name x p) [] [] pos) J) (match z.dI ao.jo with
   |true=>(F.fn (P.g8 ao.jo) (.ref (z.aT ao.jo)::ao.oZ.map .int) (z.new ao.jo (.inst ao.jo 0 []))).bind λr σ'=>match r with
    | .none=> .ok (.ref (z.aT ao.jo)) σ'
    |_=> .stuck
   |false=> .stuck))
 refine(uq (p:=p) (k:=λiH=>bj (callWith pos iH [] (backTo pos (starEach [] J)) (backToKw pos (keywordEach [] J)))) aN aw ag (λx9 x9 x9 x9 q=>⟨C,q⟩) ?_).tree λA s Q E q=>wpAny_Call_ofName q;refine((Kb (F:=F) X N [] (ao.oZ.map .int) [] z λx=>dU.dfl _ _ _).pre λx9 x9 x9 x9=> .nil).f0 λA I Z s Q E x9 x9 am x9 q=>?_;exact callWith_of (P:=K.In) rfl (keeps_K N.keep) (na (args:=backTo pos (starEach [] J)) rfl (wpAny_items_nil ⟨X.keeps am.base,q⟩))
end
theorem mH(h:(a&&b)=true):a=true/\b=true:=by rwa [Bool.and_eq_true]at h
theorem Uo:nb .l7 "dict" "get" "dict.get":=⟨PySem.F.plainAttrs_dict,PySem.F.slot_dict_get,PySem.F.type_dict_get⟩
theorem Up:nb .oH "dict" "setdefault" "dict.setdefault":=⟨PySem.F.plainAttrs_dict,PySem.F.slot_dict_setdefault,PySem.F.type_dict_setdefault⟩
theorem Uq:nb .append "list" "append" "list.append":=⟨PySem.F.plainAttrs_list,PySem.F.slot_list_append,PySem.F.type_list_append⟩
theorem Ur:nb .pop "list" "pop" "list.pop":=⟨PySem.F.plainAttrs_list,PySem.F.slot_list_pop,PySem.F.type_list_pop⟩
section
variable{n:Nat}{Y:List Env}{ao:cR}
variable{P:ca}{F:bT}
abbrev iS(ao:cR)(P:ca)(F:bT)(n:Nat)(Y:List Env):Prop:=(∀l,uw {ao with names:=l} P)/\(∀c,c<ao.vY->mG P c)/\(oc P ao F n Y)/\(∀f,(∃o aF,B.get? (T.c8 f)=some o/\o.data= .func aF)\/∀vs z,F.fn f vs z= .stuck)
section
variable(x:iS a b c d e)
def iS.H:=x.1
def iS.zQ:=x.2.1
def iS.dU:=x.2.2.1
def iS.fn:=x.2.2.2
end
variable(b:iS ao P F n Y)
noncomputable abbrev eo(ao:cR)(J:Env):cR:={ao with names:=J.scope.names}
theorem Us(ar:Sys B)(ai:vZ o=true)(mn:i3 mo.endLine pos.line=true)(C4:xs.length<20)
  (aM:bZ P F n Y J e o) (aL:ie P F n Y J ah xs):∀m:jL,HI m s=true->bZ P F n Y J (.e1 m e ah) (.Call (.Attribute o s mo) xs [] pos):=by
 intro m aJ C z;cases m
 case l7=>refine ab (iM aJ) ?_;exact zj Uo (wC ai) ((by refine ab (cj mn) ?_;exact beq_self_eq_true _):(mo.endLine==pos.line)=true) (by lia) aM aL (λz x a I Z s h R d=>IL h R d) (λvs ay x a z=>Q2 ar vs ay x a z) C z
 case oH=>refine ab (iM aJ) ?_;exact zj Up (wC ai) ((by refine ab (cj mn) ?_;exact beq_self_eq_true _):(mo.endLine==pos.line)=true) (by lia) aM aL (λz x a I Z s h R d=>IL h R d) (λvs ay x a z=>Q3 ar vs ay x a z) C z
 case append=>refine ab (iM aJ) ?_;exact zj Uq (wC ai) ((by refine ab (cj mn) ?_;exact beq_self_eq_true _):(mo.endLine==pos.line)=true) (by lia) aM aL (λz x a I Z s h R d=>IM h R d) (λvs ay x a z=>QZ vs ay x a z) C z
 case pop=>refine ab (iM aJ) ?_;exact zj Ur (wC ai) ((by refine ab (cj mn) ?_;exact beq_self_eq_true _):(mo.endLine==pos.line)=true) (by lia) aM aL (λz x a I Z s h R d=>IM h R d) (λvs ay x a z=>Q0 vs ay x a z) C z
 all_goals exact b3 aJ
end
section
variable{n:Nat}{Y:List Env}{ao:cR}
variable{P:ca}{F:bT}
theorem od(h:(eo ao J).names.lookup s=some k):J.kindOf s=some k:=h
theorem iS.fnO(b:iS ao P F n Y)(h:f<ao.vX):∃o aF,B.get? (T.c8 f)=some o/\o.data= .func aF:=(b.H []).fnO f h
theorem Kd(ag:J.scope.kind= .function):eo ao (dj aA D J)={ao with names:=mX J.scope.names aA.names}:=by
 show{ao with names:=(relabel aA J).names}=_
 exact ab (Dw ag) rfl
theorem Ke(S:fH J.scope.names aA):(dj aA D J).scope.kind= .function:=S.kind
variable{J:Env}
theorem fG.two{G:List E->Prop}(h:fG P F n Y J ah [l,r])(H:∀bd bB,eQ P F n Y J bd l->eQ P F n Y J bB r->G [bd,bB]):G ah:=by
 cases h with|cons a be h=>
 cases h with|cons b be h=>
 cases h;exact H _ _ a b
theorem fG.one{G:List E->Prop}(h:fG P F n Y J ah [l])(H:∀bd,eQ P F n Y J bd l->G [bd]):G ah:=by
 cases h with|cons a be h=>
 cases h;exact H _ a
theorem Kf:∀{ah:List E}{dm:List (Option Expr)}{vs:List Expr},yO dm vs=true->fG P F n Y J ah (yN dm vs)->n8 P F n Y J ah dm vs
 |_,[],vs,h,e=>g0 (G:=λvs=>n8 P F n Y J _ [] vs) h (by cases e;exact .nil)
 |_,none::_,_,h,_=>b3 h
 |_,some k::dm,vs,h,e=>by
  revert e;refine si (G:=λvs=>fG P F n Y J _ (yN (some k::dm) vs)->n8 P F n Y J _ (some k::dm) vs) (h:nU (λx9 r=>yO dm r) vs=true) λv vs h e=>?_
  cases e with|cons a be e=>
  cases e with|cons c be e=>
  exact .cons a.1 c.1 (Kf h e)
abbrev Er(P:ca)(F:bT)(n:Nat)(Y:List Env)(ao:cR)(e:E):Prop:=∀(J:Env)(x:Expr),J.scope.kind= .function->dw e (eo ao J) x=true->eQ P F n Y J e x
abbrev zR(P:ca)(F:bT)(n:Nat)(Y:List Env)(ao:cR)(ah:List E):Prop:=∀(J:Env)(xs:List Expr),J.scope.kind= .function->gR ah (eo ao J) xs=true->fG P F n Y J ah xs
theorem w2(ih:Er P F n Y ao e)(ag:J.scope.kind= .function)(S:fH J.scope.names aA)(h:dw e ((eo ao J).sub aA) x=true)(D:Addr):eQ P F n Y (dj aA D J) e x:=
 ih _ x (Ke S) (by refine ab (Kd ag) ?_;exact h)
theorem Es(ih:zR P F n Y ao ah)(ag:J.scope.kind= .function)(S:fH J.scope.names aA)(h:gR ah ((eo ao J).sub aA) xs=true)(D:Addr):fG P F n Y (dj aA D J) ah xs:=
 ih _ xs (Ke S) (by refine ab (Kd ag) ?_;exact h)
theorem iS.lt(b:iS ao P F n Y)(h:Nat.blt y ao.bV=true):y<T.bV:=hF (hQ h) (fr (b.H []).nn)
theorem iS.at_(b:iS ao P F n Y)(h:dJ s (ao.nm y)=true):s=T.nm y:=(iM h).trans (congrFun (b.H []).nm y)
theorem Ut{G:E->Prop}(h:HF e y=true)(H:G (.aa y)):G e:=by
 cases e with
 |aa x=>exact(cj h:x=y)▸H
 |_=>exact b3 h
theorem Uu{G:E->Prop}(h:HG e j=true)(H:G (.val (.int j))):G e:=by
 cases e with
 |val v=>cases v with
  |int i=>exact(of_decide_eq_true ((nZ _ _).symm.trans h):i=j)▸H
  |_=>exact b3 h
 |_=>exact b3 h
set_option tactic.hygienic true in
theorem Uv(b:iS ao P F n Y)(ih:zR P F n Y ao args)(ag:J.scope.kind= .function):∀m:jL,HH (eo ao J) (λxs=>gR args (eo ao J) xs) m x=true->eQ P F n Y J (.bi m args) x:=by
 have zS:∀(m:jL)(op:Operator)(l r:Expr)(p:Pos),gR args (eo ao J) [l,r]=true->(∀a C z,az P F (.bi m a) C z=(de P F a C z).bind λvs z=>Mine.Tactic.bi m vs z)->(∀x y a c z,eu n Y (dS x y a c) z (binaryOp op a c) (Mine.Tactic.bi m [x,y] z))->eQ P F n Y J (.bi m args) (.BinOp l op r p):=λm op l r p h aM ak=>(ih J _ ag h).two (G:=λargs=>eQ P F n Y J (.bi m args) (.BinOp l op r p)) λbd bB a1 a2=>R7 (aM _) ak a1.1 a2.1
 have sB:∀(m:jL)(op:CmpOp)(l r:Expr)(p:Pos),fL r=true->gR args (eo ao J) [l,r]=true->(∀a C z,az P F (.bi m a) C z=(de P F a C z).bind λvs z=>Mine.Tactic.bi m vs z)->(∀x y a c z,bD aG bb n Y (dS x y a c) z (compareOp op a c) (Mine.Tactic.bi m [x,y] z))->eQ P F n Y J (.bi m args) (.Compare l [op] [r] p):=λm op l r p aq h aM ak=>(ih J _ ag h).two (G:=λargs=>eQ P F n Y J (.bi m args) (.Compare l [op] [r] p)) λbd bB a1 a2=>R8 (aM _) ak aq a1.1 a2.1
 have Kg:∀(m:jL)(op:CmpOp)(l r:Expr)(p:Pos),rO r=true->gR args (eo ao J) [l]=true->(∀a C z,az P F (.bi m a) C z=(de P F a C z).bind λvs z=>Mine.Tactic.bi m vs z)->(∀x a z,bD aG bb n Y (m7 x a) z (compareOp op a .none) (Mine.Tactic.bi m [x] z))->eQ P F n Y J (.bi m args) (.Compare l [op] [r] p):=λm op l r p aq h aM ak=>(ih J _ ag h).one (G:=λargs=>eQ P F n Y J (.bi m args) (.Compare l [op] [r] p)) λbd a1=>Sa (aM _) ak aq a1.1
 have call:∀(m:jL)(t:Str)(g:List V->St->Res V)(f:Value),mY (eo ao J) t (λxs=>gR args (eo ao J) xs) x=true->Reads t f->keeperOf f=pure .machine->(∀a C z,az P F (.bi m a) C z=(de P F a C z).bind g)->(∀vs ay z,bD aG bb n Y (λx9 I Z x9=>bn I Z vs ay) z (PySem.call f ay) (g vs z))->eQ P F n Y J (.bi m args) x:=λm t g f h aw hf aM ak=>ux h λp xs bR ae af ax=>f1 (λC z=>by rw[aM];exact QS (mu af) aw (od ae) hf (ih J _ ag ax).ok ak C z) rfl
 have sys:=(b.H []).sys;intro m h;cases m
 case add=>exact wu h λl o r p h=>cq h λae af=>wx ae (zS _ _ l r p af (λx9 x9 x9=>rfl) λx y a c z=>Qv x y a c)
 case l5=>exact wu h λl o r p h=>cq h λae af=>wx ae (zS _ _ l r p af (λx9 x9 x9=>rfl) λx y a c z=>R6 x y a c)
 case sub=>exact wu h λl o r p h=>cq h λae af=>RE ae (zS _ _ l r p af (λx9 x9 x9=>rfl) λx y a c z=>Qw x y a c)
 case mod=>exact wu h λl o r p h=>cq h λae af=>RF ae (zS _ _ l r p af (λx9 x9 x9=>rfl) λx y a c z=>Qx x y a c)
 case eq=>exact pg h λl o r p ae h=>cq h λaf ax=>I3 ae (sB _ _ l r p af ax (λx9 x9 x9=>rfl) λx y a c z=>QE x y a c)
 case ne=>exact pg h λl o r p ae h=>cq h λaf ax=>I4 ae (sB _ _ l r p af ax (λx9 x9 x9=>rfl) λx y a c z=>QF x y a c)
 case vM=>exact pg h λl o r p ae h=>cq h λaf ax=>I3 ae (sB _ _ l r p af ax (λx9 x9 x9=>rfl) λx y a c z=>QG x y a c)
 case ro=>exact pg h λl o r p ae h=>cq h λaf ax=>I4 ae (sB _ _ l r p af ax (λx9 x9 x9=>rfl) λx y a c z=>QH x y a c)
 case gt=>exact pg h λl o r p ae h=>cq h λaf ax=>RH ae (sB _ _ l r p af ax (λx9 x9 x9=>rfl) λx y a c z=>QJ x y a c)
 case isin=>exact pg h λl o r p ae h=>cq h λaf ax=>RK ae (sB _ _ l r p af ax (λx9 x9 x9=>rfl) λx y a c z=>QO sys x y a c)
 case l6=>exact pg h λl o r p ae h=>cq h λaf ax=>RL ae (sB _ _ l r p af ax (λx9 x9 x9=>rfl) λx y a c z=>QP sys x y a c)
 case isNone=>exact pg h λl o r p ae h=>cq h λaf ax=>RI ae (Kg _ _ l r p af ax (λx9 x9 x9=>rfl) λx a z=>QK x a .none rfl)
 case er=>exact pg h λl o r p ae h=>cq h λaf ax=>RJ ae (Kg _ _ l r p af ax (λx9 x9 x9=>rfl) λx a z=>QL x a .none rfl)
 case idx=>exact qv h λo i p h=>cq h λae af=>(ih J _ ag af).two (G:=λargs=>eQ P F n Y J (.bi .idx args) (.Subscript o i p)) λbd bB a1 a2=>f1 (Sd sys ae a1.1 a2.1) rfl
 case rp=>exact qv h λo i p h=>I0 h λa c d q h=>cq h λae h=>cq h λaf h=>pf ae (pf af (nh h λl h=>(ih J _ ag h).two (G:=λargs=>eQ P F n Y J (.bi .rp args) (.Subscript o (.Slice (some l) none none q) p)) λbd bB a1 a2=>f1 (Si a1.1 a2.1) rfl))
 case rr=>exact qv h λo i p h=>I0 h λa c d q h=>cq h λae h=>cq h λaf h=>pf ae (pf af (nh h λl h=>(ih J _ ag h).two (G:=λargs=>eQ P F n Y J (.bi .rr args) (.Subscript o (.Slice none (some l) none q) p)) λbd bB a1 a2=>f1 (Sk a1.1 a2.1) rfl))
 case len=>exact call .len "len" _ (.builtin "len") h (b.H []).rLen rfl (λx9 x9 x9=>rfl) λvs ay z=>QT sys vs ay z
 case list=>exact call .list "list" _ (.type "list") h (b.H []).rList rfl (λx9 x9 x9=>rfl) λvs ay z=>QU vs ay z
 case sorted=>exact call .sorted "sorted" _ (.builtin "sorted") h (b.H []).rSorted rfl (λx9 x9 x9=>rfl) λvs ay z=>T2 sys vs ay z
 case nN t=>exact call (.nN t) "dict" _ (.type "dict") h (b.H []).rDict rfl (λx9 x9 x9=>rfl) λvs ay z=>T3 sys vs ay z
 all_goals exact b3 h
set_option tactic.hygienic true in
theorem w3(b:iS ao P F n Y)(e:E):Er P F n Y ao e:=by
 have sys:=(b.H []).sys;have inj:=(b.H []).inj;have dot:=(b.H []).dot
 refine E.rec (motive_1:=Er P F n Y ao) (motive_2:=zR P F n Y ao)
  ?val ?glob ?aa ?au ?bh ?new ?newD ?tN ?bi ?e1 ?and ?or ?not ?ite ?tup ?aD ?g5 ?dict ?comp ?oI ?nP ?kH ?rep ?li ?stuck ?nil ?cons e
 case stuck=>exactλJ x ag h=>⟨λC z=> .stuck,λC z ks hw=> .stuck⟩
 case nil=>exactλJ xs ag h=>g0 h .nil
 case cons=>exactλe ah jf ik J xs ag h=>si (k:=λx xs=>gc x&&(dw e (eo ao J) x&&gR ah (eo ao J) xs)) h λx xs h=>f8 h λae af ax=> .cons (jf J x ag af) ae (ik J xs ag ax)
 case val=>
  intro v J x ag h;replace h:Cs (eo ao J) v x=true:=h;dsimp only[Cs]at h;rw[Bool.or_eq_true,Bool.or_eq_true]at h
  rcases h with h|h|h
  ·exact Dd h λc k p h=>f1 (R3 h) rfl
  ·exact IZ h λo x p h=>cq h λae af=>RN ae (Jc af λj k p h=>by
    cases v
    case int i=>exact f1 (R4 h) rfl
    all_goals exact b3 h)
  ·exact gJ h λs p h=>(by
    cases v
    case fn m _=>refine cq h λae af=>?_;refine eU (zr af) ?_;rintro rfl ax a0;exact f1 (Je (λC z=>rfl) ((b.H []).fnR m (hQ ae)) (od ax) a0 λx9 x9 x9 x9 x9=> .fn m) rfl
    all_goals exact b3 h)
 case glob=>exactλg J x ag h=>gJ h λs p h=>cq h λae af=>(by
  refine eU (zr af) ?_;rintro rfl ax a0;refine f1 (Je (λC z=>rfl) ((b.H []).glR g (hQ ae)) (od ax) a0 λI Z z h R=>?_) rfl;refine ab ((b.H []).glV g) ?_
  exact R.gl g (hF (hQ ae) (b.H []).glN))
 case aa=>exactλy J x ag h=>gJ h λs p h=>(by
  refine l3 (Dn h) ?_;intro ae af ax a0
  exact f1 (Dp (by refine c0 af ?_;exact congrFun (b.H []).nm y) ax a0) rfl)
 case au=>exactλe a ih J x ag h=>qu h λo s p h=>f8 h λae af ax=>cq ae λa0 cn=>f1 (Sb (b.H []).kin (b.H []).cls (ih J o ag ax).1 (b.at_ cn) af) rfl
 case bh=>exactλf args ih J x ag h=>cq h λh0 h=>ux h λp xs bR ae af ax=>(by
  refine cS (b.fnO (hQ h0)) ?_;intro o aF as aN
  exact f1 (Uh b.dU as aN (mu af) ((b.H []).fnR f (hQ h0)) (od ae) (ih J xs ag ax).ok) rfl)
 case new=>exactλc args ih J x ag h=>cq h λh0 h=>ux h λp xs bR ae af ax=>f1 (Um (b.H []).kin b.dU (b.zQ c (hQ h0)) (mu af) ((b.H []).clsR c (hQ h0)) (od ae) (ih J xs ag ax).ok) rfl
 case newD=>exactλc vs J x ag h=>tM h λh0 ae af h=>ux h λp xs bR ax a0 cn=>g0 cn (f1 (Un (b.H []).kin b.dU (b.zQ c (hQ ae)) (cj h0) (Kc af) (mu a0) ((b.H []).clsR c (hQ ae)) (od ax)) rfl)
 case tN=>exactλe args jf ik J x ag h=>zq h λf xs dm p h=>f8 h λh0 ae af=>g0 h0 (qv ae λo i q h=>f1 (Uk b.dU b.fn (jf J _ ag h).1 (ik J xs ag af).ok) rfl)
 case bi=>exactλm args ih J x ag h=>Uv b ih ag m h
 case e1=>exactλm e args jf ik J x ag h=>zq h λf xs dm p h=>cq h λh0 h=>g0 h0 (qu h λo s ap h=>vL h λae af ax a0 cn da=>f1 (Us sys af ax (hQ a0) (jf J o ag cn).1 (ik J xs ag da).ok m ae) rfl)
 case and=>exactλah ih J x ag h=>IY h λo xs p h=>cq h λae af=>RP ae (RY (ih J xs ag af))
 case or=>exactλah ih J x ag h=>IY h λo xs p h=>cq h λae af=>RQ ae (RZ (ih J xs ag af))
 case not=>exactλa ih J x ag h=>IZ h λo v p h=>cq h λae af=>RM ae (RS (ih J v ag af))
 case ite=>exactλc t f jf ik sC J x ag h=>Rv h λa d e p h=>f8 h λae af ax=>RT (jf J a ag ae) (ik J d ag af) (sC J e ag ax)
 case tup=>exactλah ih J x ag h=>ww h λxs k p h=>f1 (λC z=>Rq (ih J xs ag h).ok C z) rfl
 case aD=>exactλah ih J x ag h=>De h λxs p h=>f1 (λC z=>Rr (ih J xs ag h).ok C z) rfl
 case g5=>exactλt ah ih J x ag h=>De h λxs p h=>f1 (λC z=>Rt (ih J xs ag h).ok C z) rfl
 case dict=>exactλt nO kvs ih J x ag h=>Rw h λdm vs p h=>f8 h λae af ax=>(by
  have ar:=Kf ae (ih J _ ag ax)
  cases ar with
  |nil=>exact f1 (λC z=>Ru C z) rfl
  |cons a1 a2 ar=>
   cases nO with
   |true=>exact f1 (λC z=> .stuck) rfl
   |false=>exact f1 (TS (.cons a1 a2 ar) (dG af)) rfl)
 case comp=>exactλt bP y iter cU jf ik sC J x ag h=>wv h λdx h8 aA p h=>ig h λg h=>qx h λs q it ifs h=>A9 h λh0 ae af ax a0 cn da fw kR=>f1 (Tg (ik J it ag da).1 (kt h0) cn ae (hk af) (b.lt ax) (b.at_ a0) inj dot (λD=>(w2 jf ag (kt h0) fw D).1) (Es sC ag (kt h0) kR)) rfl
 case oI=>exactλbP y k jf ik J x ag h=>wv h λdx h8 aA p h=>ig h λg h=>qx h λs q it ifs h=>BP h λh9 h0 ae af ax a0 cn da=>g0 h9 (Jb cn λp1 p2 a dR eM gg hh=>f1 (Th (mu eM) (b.H []).rRange (od dR) rfl (fG.ok (.cons (ik J a ag hh) gg .nil)) (kt h0) ae (hk af) (b.lt ax) (b.at_ a0) inj dot (λD=>(w2 jf ag (kt h0) da D).1)) rfl)
 case nP=>exactλbP y iter aE gQ cU jf ik sC Uw J x ag h=>wv h λdx h8 aA p h=>qw h λg fm h=>qx h λs q it HJ h=>cq h λh9 h=>g0 h9 (qx h λcC cT it2 ifs h=>N5 h λh0 ae af Ux ax a0 Uy Uz cn UA mA da h=>cq h λUB h=>cq h λfw kR=>f1 (Tr (ik J it ag da).1 (kt h0) cn UA ae (hk af) (hk Ux) (b.lt ax) (b.lt Uy) (b.at_ a0) (b.at_ Uz) (kc (Bool.not_eq_true' _▸mA)) inj dot (λD=>(w2 sC ag (kt h0) UB D).1) (λD=>(w2 jf ag (kt h0) fw D).1) (Es Uw ag (kt h0) kR)) rfl)
 case kH=>exactλt k v y iter jf ik sC J x ag h=>Rx h λrP rQ h8 aA p h=>ig h λg h=>qx h λs q it ifs h=>A9 h λh9 h0 ae af ax a0 cn da fw=>g0 h9 (Ut (G:=λk=>eQ P F n Y J (.kH t k v y iter) _) a0 (gJ cn λb5 cY cn=>Jc da λj hR cT da=>Uu (G:=λv=>eQ P F n Y J (.kH t (.aa y) v y iter) _) da (by
  refine ab (iM cn) ?_
  exact f1 (TD (sC J it ag fw).1 (kt h0) af (hk ae) ax) rfl)))
 case rep=>exactλe k jf ik J x ag h=>wu h λl o r p h=>cq h λae h=>RG ae (De h λHK q h=>ig h λa h=>f8 h λaf ax a0=>f1 (Sm (jf J a ag ax).1 af (ik J r ag a0).1) rfl)
 case li=>exactλy aE J x ag h=>wv h λdx h8 aA p h=>qv h λo i UC h=>gJ h λb5 cY h=>gJ h λcC cT h=>ig h λg h=>qx h λeD e7 it ifs h=>f8 h λh9 h0 h=>g0 h9 (gJ h0 λv0 eR kR=>A9 h λh0 ae af ax a0 cn da fw bA=>(by
  refine bM (iM kR) ?_;refine ab (iM af) ?_;refine l3 (Dn bA) ?_;intro cl cA Et w4
  exact f1 (TL sys (Dp (cA.trans (congrFun (b.H []).nm y)) Et w4) (kt h0) ae (hk ax) fw w4 (hF cl (fr (b.H []).nn)) (b.lt a0) (cA.trans (congrFun (b.H []).nm y)) (b.at_ cn) inj dot da) rfl))
theorem Kh(b:iS ao P F n Y):∀ah:List E,zR P F n Y ao ah:=by
 intro br
 induction br with
 |nil=>exactλJ xs ag h=>g0 h .nil
 |cons e ah ih=>exactλJ xs ag h=>si (k:=λx xs=>gc x&&(dw e (eo ao J) x&&gR ah (eo ao J) xs)) h λx xs h=>f8 h λae af ax=> .cons (w3 b e J x ag af) ae (ih J xs ag ax)
end
section
variable{n:Nat}{Y:List Env}{z:St}{ao:cR}{I:bX}{Z:bY}{h:Heap}
variable{P:ca}{F:bT}{J:Env}
noncomputable abbrev d2(Y:List Env)(J:Env):Prop:=(∃bU,Y=J::bU)/\(J.frame=some J.locals)/\(∀n c,J.cells.lookup n=some c->B.get? c=none)/\(J.scope.kind= .function)
section
variable(x:d2 a b)
def d2.head:=x.1
def d2.frame:=x.2.1
def d2.cells:=x.2.2.1
def d2.kind:=x.2.2.2
end
theorem d2.mem(bm:d2 Y J):J∈Y:=cL bm.head λx9 e=>e▸ .head _
abbrev sD(J:Env):eg Unit aK:=λz I Z h C x9=>d7 I Z z J C h
theorem UD{R:bu I Z z h}{a:Addr}{m:Str->Option Value}(aq:h.Ns a m):Z a=none:=by
 cases e:Z a with
 |none=>rfl
 |some p=>refine cL (R.frz a p.1 p.2 e) ?_;intro k ag;refine eB aq ?_;try clear aq;intro o ah ep as aN x9;obtain rfl:=a8 ((ag).symm.trans as);injection aN
theorem UE{R:bu I Z z h}{a:Addr}{v:Option Value}(aq:h.IsCell a v):Z a=none:=by
 cases e:Z a with
 |none=>rfl
 |some p=>refine cL (R.frz a p.1 p.2 e) ?_;intro k ag;refine a4 aq ?_;try clear aq;intro o as aN;obtain rfl:=a8 ((ag).symm.trans as);injection aN
theorem uK(bm:d2 Y J){y:Nat}{s:Str}{v:V}{u:Value}(ar:s=T.nm y)(bx:y<T.bV)(bI:ch.Inj)(ag:J.kindOf s=some .local\/J.kindOf s=some .cell):
  av (cI J) (sD J) n Y (λz I Z h=>d7 I Z z J C h/\Den I Z v u) z (bj (storeName J s u)) (.ok (C.set y v) z):=by
 revert bm ar bx bI ag;revert n Y z J C y s v u;refine@(CM ne ne hc ne ne ne ne ne ne ?n9 ?fs9 ?σ9 ?env9 ?lv9 ?y9 ?s9 ?v9 ?u9 ?_ ?_)
 rotate_left 9
 intro bm ar bx bI ag;refine⟨id,λx9 A I Z st Q E aw aS am aj aC=>?_⟩;refine bC aj ?_;try clear aj;intro Fr db;refine a4 Fr.ns ?_;intro m aq ak
 have UG:B.get? (?env9).locals=none:=by obtain⟨_,L,_,bl,ai,_⟩:=aS.funs ?env9 bm.mem;obtain rfl:=a8 ((bm.frame).symm.trans bl);exact ai
 have Ki:∀{c:Addr}{bN:Option Value},st.heap.IsCell c bN->∀{L:Addr}{m:Str->Option Value},st.heap.Ns L m->L≠c:=λ⟨o,as,aN⟩be cm⟨bS,ah,ep,e4,d0,i5⟩q=>by
  rw[q,as]at e4;obtain rfl:=a8 e4;replace d0:=(aN).symm.trans d0;exact nomatch d0
 rcases ag with ag|ag
 ·refine wpAny_storeName_local ag aq (λh' n4 dE=>?_) (by refine ab Fr.kind ?_;rfl);refine bC (am.DV (Y:=?fs9) (X:=λb=>b=(?env9).locals) (λb q=>q▸(fs Fr.noL (UD (R:=am) aq) UG)) (λb dc b1 e=>dE.extBut b dc b1 e) (fr dE.1.symm)) ?_;intro bW x;have UH:cw ?fs9 (cI ?env9) I Z ?σ9 st.heap I Z ?σ9 h':=x.mono λb x9 q=> .inl q;refine aC I Z h' _ () UH bW (aS.ext x λfo aM L e5 hf aJ=>?_) ⟨Fr.kind,Fr.glob,Fr.blt,(bq _ n4 (λaE iJ e k=>?_)),λnm oe=>?_,Fr.apart,m5 x aq.lt Fr.noL,λaE iJ e=>?_⟩
  ·by_cases q:L=(?env9).locals
   ·exact⟨_,q▸n4⟩
   ·exact⟨e5,ql (l:=False) aJ λo as=> .of_eq (dE.extBut L o q as)⟩
  ·rw[gw]at e
   by_cases q:aE=?y9
   ·subst q;replace e:=(df rfl).symm.trans e;obtain rfl:=a8 e;exact bq ?u9 (df ar.symm) db
   ·replace e:=(cO q).symm.trans e;refine a4 (ak aE iJ e k) ?_;intro C9 ae af;exact bq C9 ((cO λgL=>q (bI aE ?y9 (Fr.dom aE iJ e) bx (gL.trans ar))).trans ae) af
  ·refine h4 (Fr.cell nm oe) ?_;intro c bN aB hS cG o8 qA;refine nM c bN aB (CR (l:=False) hS λo as=> .of_eq (dE.extBut c o o8 as)) (m5 x (we hS) cG) o8 (λaE iJ q e=>?_);rw[gw]at e
   by_cases gL:aE=?y9
   ·subst gL;rw[<-q,<-ar,ag]at oe
    rcases oe with q|q<;>cases q
   ·rw[if_neg gL]at e;exact qA aE iJ q e
  ·rw[gw]at e
   by_cases q:aE=?y9
   ·exact q▸bx
   ·rw[if_neg q]at e;exact Fr.dom aE iJ e
 ·refine h4 (Fr.cell ?s9 (.inl ag)) ?_;intro c bN aB hS cG o8 qA;refine wpAny_storeName_cell Fr.kind ag aB hS λh' gu dE=>?_;refine bC (am.DV (Y:=?fs9) (X:=λb=>b=c) (λb q=>q▸(fs cG (UE (R:=am) hS) (bm.cells ?s9 c aB))) (λb dc b1 e=>dE.extBut b dc b1 e) (fr dE.1.symm)) ?_;intro bW x;refine aC I Z h' _ () (x.mono λb x9 q=> .inr (bq ?s9 ag (q▸aB)):cw ?fs9 (cI ?env9) I Z ?σ9 st.heap I Z ?σ9 h') bW (aS.ext x λfo aM L e5 hf aJ=>⟨e5,ql (l:=False) aJ λo as=> .of_eq (dE.extBut L o (Ki hS aJ) as)⟩) ⟨Fr.kind,Fr.glob,Fr.blt,(bq m (ql (l:=False) aq λo as=> .of_eq (dE.extBut _ o (Ki hS aq) as)) (λaE iJ e k=>?_)),λnm oe=>?_,Fr.apart,m5 x aq.lt Fr.noL,λaE iJ e=>?_⟩
  ·rw[gw]at e
   by_cases q:aE=?y9
   ·subst q;rw[<-ar,ag]at k;exact nomatch k
   ·rw[if_neg q]at e;exact ak aE iJ e k
  ·by_cases q:nm=?s9
   ·refine ab q ?_;refine nM c (some ?u9) aB gu (m5 x (we hS) cG) o8 (λaE iJ q e=>?_)
    have:aE=?y9:=by
     rw[gw]at e
     by_cases gL:aE=?y9
     ·exact gL
     ·rw[if_neg gL]at e;exact bI aE ?y9 (Fr.dom aE iJ e) bx (q.trans ar)
    subst this;rw[gw,if_pos rfl]at e;obtain rfl:=a8 e;exact bq ?u9 rfl db
   ·refine h4 (Fr.cell nm oe) ?_;intro du zT lB wU UI UJ UK;refine nM du zT lB (CR (l:=False) wU λo as=> .of_eq (dE.extBut du o (λgL=>q (Fr.apart nm ?s9 c (gL▸lB) aB):du≠c) as)) (m5 x (we wU) UI) UJ (λaE iJ gL e=>?_);rw[gw]at e
    by_cases cT:aE=?y9
    ·subst cT;exact bf (gL.symm.trans ar.symm) q
    ·rw[if_neg cT]at e;exact UK aE iJ gL e
  ·rw[gw]at e
   by_cases q:aE=?y9
   ·exact q▸bx
   ·rw[if_neg q]at e;exact Fr.dom aE iJ e
 rfl
end
section
variable{n:Nat}{Y:List Env}{z σ':St}{ao:cR}{I:bX}{Z:bY}{h h':Heap}{O:Addr->Prop}{e:Addr}
variable{P:ca}{F:bT}{J:Env}
def uL(Y:List Env)(H h:Heap)(e:Addr):Prop:=∃aH J bU L,Y=J::bU/\J.frame=some L/\h.TracedAtW H e (.ref b6) aH (rawInt L)
theorem uL.status(x:uL Y H h e):y2 H Y h e:=vG x λaH J bU L bd bB fz=> .inr (eK aH _ fz (.inr (ix J bU L bd bB rfl)))
theorem Kj{E:cc}(iL:A.frames=some (J::Y))(hf:J.frame=some L)(ak:s.heap.FunFrames H (J::Y))(ag:H.StaysIn s.heap)(aM:H.get? e=none)
  (st:y2 H (J::Y) s.heap e) (aC:∀dp,H.StaysIn dp->uL (J::Y) H dp e->s.heap.UpToSlots dp->Q () {s with heap:=dp}):wpAny M A (noteFrame (.ref e) J) Q E s:=by
 refine Or.elim st (λcz=>?_) λcz=>?_
 ·(refine tH cz ?_;try clear cz;intro ml vs aH as aB aN ae h0);dsimp only[noteFrame]
  simp only[hf];refine aV (wpAny_field as aN ae ?_);refine wpAny_entryW iL ak hf as ag aM aN (Array.getElem?_eq_some_iff.mp ae).1 h0 λh' fe=>?_;rw[aB]at fe;exact aC h' fe.1 (yo aH J Y L rfl hf fe.2.2.1) fe.2.2.2
 ·(refine cS cz ?_;try clear cz;intro aH cs bH pu);rcases pu with rfl|⟨fo,bU,uj,wY,Ed,rfl⟩
  ·refine wpAny_noteFrame_onW iL ak hf bH ag aM λh' fe=>?_;exact aC h' fe.1 (yo aH J Y L rfl hf fe.2.2.1) fe.2.2.2
  ·refine bC (List.cons.inj wY) ?_;rintro rfl C5;obtain rfl:=a8 ((hf).symm.trans Ed);exact wpAny_noteFrame_againW hf bH (aC s.heap ag (yo aH J Y L rfl hf bH) (.refl _))
theorem UL{E:cc}(ag:H.StaysIn s.heap)(st:uL (J::bU) H s.heap e)
  (aC:∀dp,H.StaysIn dp->uL (J::bU) H dp e->s.heap.UpToSlots dp->s.heap.objs.size<=dp.objs.size->E (.ref e) {s with heap:=dp}):cameBackBy M A J E (.ref e) s:=by
 refine vG st ?_;try clear st;intro aH fo aef L wY hf bH;refine bC (List.cons.inj wY) ?_;rintro rfl C5;refine G3 bH ?_;try clear bH;intro ml vs T Kk b2 aM hj aN ae w5 w6 fO pw ax
 have other:∀b,b≠T->(s.heap.update T (Obj.mapFields (·.setIfInBounds 3 ((some L:Option Addr).elim Value.none λf=>rawInt f)))).get? b=s.heap.get? b:=
  λb ai=>Heap.get?_update_other _ _ (Ne.symm ai)
 have Eu:∀b o,s.heap.get? b=some o->(∀vs,o.data≠ .fields vs)->b≠T:=λb o ai nf q=>by
  rw[q,fO]at ai;injection ai with ai;subst ai;exact nf b2 pw
 refine aV (wpAny_field aM aN ae ?_);refine ab hf ?_;refine aV (wpAny_field aM aN ae ?_);refine wpAny_setField fO pw ((Array.getElem?_eq_some_iff.mp ax).1:3<b2.size) (aC _ (λb o sE=>(other b λq=>by rw[q,w5]at sE;exact ns sE).trans (ag b o sE)) (yo aH J bU L rfl hf ?_) (λb o ai nf=>⟨o.slots,(other b (Eu b o ai nf)).trans ai⟩) (fr (Heap.size_update ..).symm));exact⟨ml,vs,T,_,_,(other e (Ne.symm w6)).trans aM,hj,aN,ae,w5,w6,Heap.get?_update_self _ fO (Obj.isFreed_of_fields (Obj.data_mapFields pw _)),Obj.data_mapFields pw _,by simp[((Array.getElem?_eq_some_iff.mp ax).1:3<b2.size)]⟩
theorem hi.loop{E:cc}(bm:d2 Y J)(kx:A.frames=some Y)(U:hi O Y I Z z h σ' s'.heap e)
  (dt:∀dp,hi O Y I Z z h σ' dp e->E (.ref e) {s' with heap:=dp}):notedBy M A J (λe lI=>cameBackBy M A J E e lI) (.ref e) s':=by
 refine cL bm.head ?_;rintro bU rfl;refine rj U.ex ?_;intro κ' Z' H dR eM gg hh iC ib hO km iF ls kP;have UM:∀{h':Heap},(∀fo∈J::bU,fo.scope.kind≠ .module/\∃L m,fo.frame=some L/\H.get? L=none/\h'.Ns L m)->h'.FunFrames H (J::bU):=λq=>Ec q
 have again:∀(ae af:Heap),ae.objs.size<=af.objs.size->H.StaysIn af->uL (J::bU) H af e->ae.UpToSlots af->ae=s'.heap->hi O (J::bU) I Z z h σ' af e:=by
  rintro ae af ar ag aq di rfl
  refine⟨κ',Z',H,dR,eM,gg,hh,ct iC ar,ag,hO,km,λfo aM=>?_,aq.status,λb o ai cG no=>?_⟩
  ·obtain⟨k,L,m,cY,cT,e7,eR,il⟩:=iF fo aM;exact⟨k,L,m,cY,cT,e7,di.ns eR,il⟩
  ·rcases kP b o ai cG no with q|⟨⟨fo,aM,hf⟩,q⟩
   ·exact .inl q
   ·obtain⟨k,L,m,cY,cT,e7,eR,il⟩:=iF fo aM;obtain rfl:=a8 ((hf).symm.trans cY);exact .inr ⟨(bq fo aM hf),Ee (h0:=none) di eR q trivial⟩
 refine lD (Kj kx bm.frame (UM (λfo aM=>let⟨k,L,m,cY,cT,_,eR,_⟩:=iF fo aM;⟨k,L,m,cY,cT,eR⟩:∀fo∈J::bU,fo.scope.kind≠ .module/\∃L m,fo.frame=some L/\H.get? L=none/\s'.heap.Ns L m)) ib hO ls λae eX c4 gx b5=>?_);refine UL (s:={s' with heap:=ae}) eX c4 λaf k2 dg fF cC=>dt af (again s'.heap af (ct b5 cC) k2 dg (gx.trans fF) rfl)
abbrev inLoop(J:Env){aI:Type}(t:aY aI):aY aI:=λA Q E s=>t A Q (notedBy (model prog w) A J λe s'=>cameBackBy (model prog w) A J E e s') s
theorem av.inLoop{aI bG:Type}{bo:fZ}{D:eg aI bG}{t:aY aI}{r:Res bG}(bm:d2 Y J)(H:av O D n Y bo z t r):av O D n Y bo z (inLoop J t) r:=by
 cases r with
 |stuck=>trivial
 |exc σ'=>exact⟨H.1,λaP A I Z s Q E aw aS am aj dt=>H.2 aP A I Z s Q _ aw aS am aj λh' aR e U=>hi.loop (s':={s with heap:=h',toks:=aR}) bm aS.frames U λdp Ep=>dt dp aR e Ep⟩
 |ok b σ'=>exact⟨H.1,λaP A I Z s Q E aw aS am aj aC=>H.2 aP A I Z s Q _ aw aS am aj aC⟩
end
section
variable{n:Nat}{Y:List Env}{z:St}{ao:cR}{I:bX}{Z:bY}
variable{P:ca}{F:bT}{J:Env}
def fp(P:ca)(F:bT)(n:Nat)(Y:List Env)(J:Env)(s:S)(x:Stmt):Prop:=
 ∀C z,bD (cI J) (dF J) n Y (bk J C) z (exec x J) (c6 P F s C z)
theorem UN:iR P F n Y J [] []:=λC z=>(av.ret (a:=Flow.next) (b:=((cg.next,C):cg×aK)) (D:=dF J) λI Z h q=>⟨.next,q⟩).tree λA s Q E q=>wpAny_execs_nil q
theorem zU{x:cg×aK}(aQ:x.1≠ .next)(t:aY Flow):av (cI J) (dF J) n Y (λz I Z h=>True/\dF J z I Z h x cs) z (λA Q E s=>match cs with| .next=>t A Q E s|cs=>Q cs s) (.ok x z):=by
 refine⟨λq=>q,λx9 A I Z s Q E aw aS am aj aC=>?_⟩;refine eU aj ?_;try clear aj;intro x9 d F
 have pu:cs≠ .next:=λq=>by
  subst q;obtain⟨a,b⟩:=x;cases a<;>first|exact aQ rfl|cases d
 have:=aC I Z s.heap s.toks cs .rfl' am aS ⟨d,F⟩;clear F d aC am aS aw;cases cs<;>first|exact this|exact bf rfl pu
theorem UO(ae:fp P F n Y J s x)(af:iR P F n Y J r xs):iR P F n Y J (s::r) (x::xs):=by
 intro C z
 refine(?_:bD (cI J) (dF J) n Y (bk J C) z (execs (x::xs) J) ((c6 P F s C z).bind λy z=>match y.1 with
   | .next=>bc P F r y.2 z
   |_=> .ok y z))
 refine(av.dv (O₁:=cI J) (Kp:=λx9 x9 x9 x9=>True) (f:=λcs A Q E s=>match cs with| .next=>wpAny (model prog w) A (execs xs J) Q E s|cs=>Q cs s) (λx9 q=>q) ⟨λx9 x9=>trivial⟩ (ae C z) λy σ' cs=>?_).tree λA s Q E q=>wpAny_execs_cons q;obtain⟨a,bJ⟩:=y
 cases a with
 |next=>
  refine((af bJ σ').pre λI Z h q=>q.2.2).f0 λA I Z s Q E x9 x9 x9 aj q=>?_;have pu:cs= .next:=by cases aj.2.1;rfl
  clear aj bJ;subst pu;exact q
 |cont=>exact zU (by simp) λA Q E s=>wpAny (model prog w) A (execs xs J) Q E s
 |ret v=>exact zU (by simp) λA Q E s=>wpAny (model prog w) A (execs xs J) Q E s
theorem Kl(bm:d2 Y J)(ar:s=T.nm y)(bx:y<T.bV)(bI:ch.Inj)(ag:J.kindOf s=some .local\/J.kindOf s=some .cell):
  av (cI J) (dF J) n Y (λz I Z h=>bk J C z I Z h/\bb z I Z h v u) z (λA Q E st=>wpAny (model prog w) A (storeName J s u) (λx9=>Q .next) E st) (.ok (.next,C.set y v) z):=by
 have e:(Res.ok ((cg.next,C.set y v):cg×aK) z)=(Res.ok (C.set y v) z).bind λC z=> .ok (.next,C) z:=rfl;refine ab e ?_;exact av.dv (O₁:=cI J) (Kp:=λx9 x9 x9 x9=>True) (f:=λx9=>aY.ret Flow.next) (λx9 q=>q) ⟨λx9 x9=>trivial⟩ (uK bm ar bx bI ag) λbJ z x9=> .ret λI Z h q=>⟨.next,q.2⟩
theorem UP(bm:d2 Y J)(aM:bZ P F n Y J e x)(ar:s=T.nm y)(bx:y<T.bV)(bI:ch.Inj)(ag:J.kindOf s=some .local\/J.kindOf s=some .cell)
  (Ew:swapsWith x (some (.Name s p)) pos.line J=pure false):fp P F n Y J (.assign y e) (.Assign [.Name s p] x pos):=λC z=>
 (av.dv (O₁:=aG) (t:=bj (eval x J)) (λx9 q=>q.elim) cJ (aM C z) λv σ' u=>Kl bm ar bx bI ag).tree λA s Q E q=>wpAny_Assign_Name q Ew
theorem w7(bw:Goes Y aG bo (bk J C))(h:av aG ut n Y bo z t r):
  av (cI J) (dF J) n Y bo z (aY.bind t λx9=>aY.ret Flow.next) (r.bind λx9 z=> .ok (.next,C) z):=
 av.dv (O₁:=aG) (λx9 q=>q.elim) bw h λx9 σ' x9=> .ret λI Z h q=>⟨.next,q.1⟩
theorem UQ(X:K.In B)(eW:∀c,ju (T.e2 c))(bI:ch.Inj){o e:E}{b0 x:Expr}{a:Nat}{s:Str}{p pos:Pos}(as:bZ P F n Y J o b0)(aM:bZ P F n Y J e x)(ar:s=T.nm a)(aL:a<T.bV):
  fp P F n Y J (.a7 o a e) (.Assign [.Attribute b0 s p] x pos):=by
 revert n Y P F J X eW bI o e b0 a s p pos as aM ar aL;revert x;refine@(o4 ne ?x9 ?_ ?_)
 rotate_left 1
 intro n Y P F J X eW bI o e b0 a s p pos as aM ar aL;intro C z;refine ab ar ?_;refine(av.dv (O₁:=aG) (t:=bj (eval ?x9 J)) (f:=λv=>aY.bind (bj (eval b0 J)) λbN=>aY.bind (bj (setAttr bN (T.nm a) v)) λx9=>aY.ret Flow.next) (λx9 q=>q.elim) cJ (aM C z) λv σ' u=>?_).tree λA st Q E q=>plainObj_wpAny_Assign_Attribute q (by cases ?x9<;>rfl)
 refine av.dv (O₁:=aG) (λx9 q=>q.elim) (Goes.and cJ fd) ((as C σ').pre λx9 x9 x9 q=>q.1) λbN fc jB=>?_;exact w7 (⟨λx q=>q.1.1.eO x⟩) ((zm X eW bI bN v jB u a aL).pre λx9 x9 x9 q=>⟨q.2,q.1.2⟩);rfl
theorem UR{b0 jR x:Expr}{p pos:Pos}(as:bZ P F n Y J o b0)(aW:bZ P F n Y J i jR)(aM:bZ P F n Y J e x):fp P F n Y J (.i0 o i e) (.Assign [.Subscript b0 jR p] x pos):=by
 revert n Y P F J o i e b0 jR p pos as aW aM;revert x;refine@(o4 ne ?x9 ?_ ?_)
 rotate_left 1
 intro n Y P F J o i e b0 jR p pos as aW aM;intro C z;refine(av.dv (O₁:=aG) (t:=bj (eval ?x9 J)) (f:=λv=>aY.bind (bj (eval b0 J)) λbN=>aY.bind (bj (eval jR J)) λfE=>aY.bind (bj (setItem bN fE v)) λx9=>aY.ret Flow.next) (λx9 q=>q.elim) cJ (aM C z) λv σ' u=>?_).tree λA st Q E q=>wpAny_Assign_Subscript q (by cases ?x9<;>rfl)
 refine av.dv (O₁:=aG) (λx9 q=>q.elim) (Goes.and cJ fd) ((as C σ').pre λx9 x9 x9 q=>q.1) λbN fc jB=>?_;refine av.dv (O₁:=aG) (λx9 q=>q.elim) (Goes.and (Goes.and cJ fd) fd) ((aW C fc).pre λx9 x9 x9 q=>q.1.1) λfE oa w8=>?_;exact w7 (⟨λx q=>q.1.1.1.eO x⟩) ((IW bN fE v jB w8 u).pre λx9 x9 x9 q=>(fs q.1.2 q.2 q.1.1.2));rfl
theorem US(ar:s=T.nm y)(ag:J.kindOf s=some .local\/J.kindOf s=some .cell):av aG bb n Y (bk J C) z (bj (loadName J s)) (em (C y) z):=by
 cases bA:C y with
 |none=>exact .stuck
 |some v=>
  refine .quiet λA I Z st Q E x9 am F aC=>?_
  rcases ag with ag|ag
  ·refine a4 F.ns ?_;intro m cp ak;refine a4 (ak y v bA (ar▸ag)) ?_;intro u di db;exact wpAny_loadName_local F.kind ag cp (ar▸di) (aC st.toks u db)
  ·refine h4 (F.cell s (.inl ag)) ?_;intro c bN aB hS x9 x9 ak;refine a4 (ak y v ar.symm bA) ?_;rintro u rfl db;exact wpAny_loadName_cell F.kind ag aB hS (aC st.toks u db)
theorem UT(bm:d2 Y J)(aM:bZ P F n Y J e x)(ar:s=T.nm y)(bx:y<T.bV)(bI:ch.Inj)(ag:J.kindOf s=some .local\/J.kindOf s=some .cell):
  fp P F n Y J (.lj y e) (.AugAssign (.Name s p) .Add x pos):=by
 intro C z
 have bd:c6 P F (.lj y e) C z=(em (C y) z).bind λold z=>(az P F e C z).bind λv z=>(nQ old v z).bind λr z=> .ok (cg.next,C.set y r) z:=by
  refine(?_:(match C y with
   |some old=>(az P F e C z).bind λv z=>(nQ old v z).bind λr z=> .ok (cg.next,C.set y r) z
   |none=> .stuck)=_)
  cases C y<;>rfl
 refine ab bd ?_;refine(av.dv (O₁:=aG) (t:=bj (loadName J s)) (f:=λold=>aY.bind (bj (eval x J)) λv=>aY.bind (bj (inplaceOp .Add old v)) λr A Q E st=>wpAny (model prog w) A (storeName J s r) (λx9=>Q .next) E st) (λx9 q=>q.elim) cJ (US ar ag) λold σ' jB=>?_).tree λA st Q E q=>wpAny_AugAssign_Name q;refine av.dv (O₁:=aG) (λx9 q=>q.elim) (Goes.and cJ fd) ((aM C σ').pre λx9 x9 x9 q=>q.1) λv fc uM=>?_;refine av.dv (O₁:=aG) (Kp:=bk J C) (λx9 q=>q.elim) ⟨λx q=>q.1.1.eO x⟩ ((Dc old v jB uM).pre λx9 x9 x9 q=>⟨q.1.2,q.2⟩) λr oa zV=>Kl bm ar bx bI ag
theorem UU(X:K.In B)(eW:∀c,ju (T.e2 c))(bI:ch.Inj)(as:bZ P F n Y J o b0)(aM:bZ P F n Y J e x)(ar:s=T.nm a)(aL:a<T.bV):
  fp P F n Y J (.pW o a e) (.AugAssign (.Attribute b0 s p) .Add x pos):=by
 intro C z;refine ab ar ?_;refine(av.dv (O₁:=aG) (t:=bj (eval b0 J)) (f:=λbN=>aY.bind (bj (getAttr bN (T.nm a) true)) λold=>aY.bind (bj (eval x J)) λv=>aY.bind (bj (inplaceOp .Add old v)) λr=>aY.bind (bj (setAttr bN (T.nm a) r)) λx9=>aY.ret Flow.next) (λx9 q=>q.elim) cJ (as C z) λbN σ' jB=>?_).tree λA st Q E q=>wpAny_AugAssign_AttributeAny q;refine av.dv (O₁:=aG) (λx9 q=>q.elim) (Goes.and cJ fd) ((IR X eW bN jB a true).pre λx9 x9 x9 q=>q.2) λold fc w9=>?_;refine av.dv (O₁:=aG) (λx9 q=>q.elim) (Goes.and (Goes.and cJ fd) fd) ((aM C fc).pre λx9 x9 x9 q=>q.1.1) λv oa uM=>?_;refine av.dv (O₁:=aG) (λx9 q=>q.elim) (Goes.and (Goes.and (Goes.and cJ fd) fd) fd) ((Dc old v w9 uM).pre λx9 x9 x9 q=>⟨q.1.2,q.2⟩) λr UV zV=>?_;exact w7 (⟨λx q=>q.1.1.1.1.eO x⟩) ((zm X eW bI bN r jB zV a aL).pre λx9 x9 x9 q=>⟨q.1.1.1.2,q.2⟩)
theorem UW{E:cc}{o i:Expr}{Km:Pos}{op:Operator}{value:Expr}{pos:Pos}{Q:Flow->Shared->Prop}(aq:rH i=true)
  (h:wpAny (model prog w) A (eval o J) (λbN cr=>wpAny (model prog w) A (eval i J) (λfE bE=>wpAny (model prog w) A (getItem bN fE) (λold ej=>
   wpAny (model prog w) A (eval value J) (λv lF=>wpAny (model prog w) A (inplaceOp op old v) (λnew mx=>
    wpAny (model prog w) A (setItem bN fE new) (λx9=>Q .next) E mx) E lF) E ej) E bE) E cr) E s):
  wpAny (model prog w) A (exec (.AugAssign (.Subscript o i Km) op value pos) J) Q E s:=by
 revert s i Q aq h;revert J A E o Km op value pos;refine@(v5 ne m2 ne ne ne ne ne ne ?env9 ?A9 ?E9 ?o9 ?pos'9 ?op9 ?value9 ?pos9 ?_ ?_)
 rotate_left 8
 intro s i Q aq h
 have e:exec (.AugAssign (.Subscript ?o9 i ?pos'9) ?op9 ?value9 ?pos9) ?env9=(do
  standAt ?pos9
  let bN<-eval ?o9 ?env9
  let fE<-holding [bN] (eval i ?env9)
  let new<-holding [bN,fE] do
   standAt ?pos'9
   let old<-getItem bN fE
   let v<-holding [old] (eval ?value9 ?env9)
   standAt ?pos9
   operate [old,v] (inplaceOp ?op9 old v)
  standAt ?pos'9
  holding [new,bN,fE] (setItem bN fE new)
  release [new,bN,fE] []
  pure .next):=by cases i<;>first|rfl|exact b3 aq
 refine ab e ?_;intro hx p qz;simp only[Sem.wp_bind',Sem.wp_holding,Sem.wp_cmd_standAt,Sem.wp_operate,Sem.wp_release,Sem.wp_pure']
 exact Sem.wp_mono _ hx _ (λbN UX cr bO=>Sem.wp_mono _ hx _ (λfE aeg bE c2=>Sem.wp_mono _ hx _ (λold UY ej dQ=>
  Sem.wp_mono _ hx _ (λv x9 lF kX=>Sem.wp_mono _ hx _ (λnew aeh mx n5=>n5 hx _ qz) (λx9 x9 x9 h'=>h') _ _ (kX hx _ qz))
   (λx9 x9 x9 h'=>h') _ _ (dQ hx UY qz)) (λx9 x9 x9 h'=>h') _ _ (c2 hx _ qz)) (λx9 x9 x9 h'=>h') _ _ (bO hx UX qz))
  (λx9 x9 x9 h'=>h') _ _ (h hx _ qz)
 rfl
theorem UZ(ar:Sys B)(x y:V)(a c:Value):av aG bb n Y (dS x y a c) z (bj (getItem a c)) (Mine.Tactic.bi .idx [x,y] z):=
 IC (R:=λr=>av aG bb n Y (dS x y a c) z (bj (getItem a c)) r) .stuck λv i=> .quiet λA I Z s Q E aw am aj aC=>(IG ar i am aj.1 aj.2 λaR u db=>aC aR u db).1
theorem U0(ar:Sys B)(aq:rH jR=true)(as:bZ P F n Y J o b0)(aW:bZ P F n Y J i jR)(aM:bZ P F n Y J e x):
  fp P F n Y J (.rt o i e) (.AugAssign (.Subscript b0 jR p) .Add x pos):=by
 intro C z;refine(av.dv (O₁:=aG) (t:=bj (eval b0 J)) (f:=λbN=>aY.bind (bj (eval jR J)) λfE=>aY.bind (bj (getItem bN fE)) λold=>aY.bind (bj (eval x J)) λv=>aY.bind (bj (inplaceOp .Add old v)) λr=>aY.bind (bj (setItem bN fE r)) λx9=>aY.ret Flow.next) (λx9 q=>q.elim) cJ (as C z) λbN σ' jB=>?_).tree λA st Q E q=>UW aq q;refine av.dv (O₁:=aG) (λx9 q=>q.elim) (Goes.and cJ fd:Goes Y aG (λz I Z h=>bk J C z I Z h/\bb z I Z h bN jB) (λz I Z h=>bk J C z I Z h/\bb z I Z h bN jB)) ((aW C σ').pre λx9 x9 x9 q=>q.1) λfE fc w8=>?_;have fm:=Goes.and (D:=bb) (Goes.and cJ fd:Goes Y aG (λz I Z h=>bk J C z I Z h/\bb z I Z h bN jB) (λz I Z h=>bk J C z I Z h/\bb z I Z h bN jB)) fd (b:=fE) (a:=w8);refine av.dv (O₁:=aG) (λx9 q=>q.elim) fm ((UZ ar bN fE jB w8).pre λx9 x9 x9 q=>⟨q.1.2,q.2⟩) λold oa w9=>?_;refine av.dv (O₁:=aG) (λx9 q=>q.elim) (Goes.and (D:=bb) fm fd (b:=old) (a:=w9)) ((aM C oa).pre λx9 x9 x9 q=>q.1.1.1) λv UV uM=>?_;refine av.dv (O₁:=aG) (λx9 q=>q.elim) (Goes.and (D:=bb) (Goes.and (D:=bb) fm fd (b:=old) (a:=w9)) fd (b:=v) (a:=uM)) ((Dc old v w9 uM).pre λx9 x9 x9 q=>⟨q.1.2,q.2⟩) λr aei zV=>?_;exact w7 (⟨λx q=>q.1.1.1.1.1.eO x⟩) ((IW bN fE r jB w8 zV).pre λx9 x9 x9 q=>(fs q.1.1.1.1.2 q.1.1.1.2 q.2))
theorem U1(aM:bZ P F n Y J e x):fp P F n Y J (.ret e) (.Return (some x) pos):=λC z=>(av.dv (O₁:=aG) (t:=bj (eval x J)) (f:=λv=>aY.ret (Flow.ret v)) (λx9 q=>q.elim) cJ (aM C z) λv σ' u=> .ret λI Z h q=>⟨.ret q.2,q.1⟩).tree λA s Q E q=>wpAny_Return_some q
theorem U2:fp P F n Y J (.ret (.val .none)) (.Return none pos):=λC z=>(av.ret (a:=Flow.ret .none) (b:=((cg.ret .none,C):cg×aK)) (D:=dF J) λI Z h q=>⟨.ret .none,q⟩).tree λA s Q E q=>wpAny_Return_none q
theorem U3:fp P F n Y J .cont (.Continue pos):=λC z=>(av.ret (a:=Flow.cont) (b:=((cg.cont,C):cg×aK)) (D:=dF J) λI Z h q=>⟨.cont,q⟩).tree λA s Q E q=>wpAny_Continue q
theorem U4(aB:eQ P F n Y J c x)(bH:iR P F n Y J t ub)(hf:iR P F n Y J f uc):
  fp P F n Y J (.ite c t f) (.If x ub uc pos):=by
 intro C z;refine(?_:bD (cI J) (dF J) n Y (bk J C) z _ ((az P F c C z).bind λv z=>condB v (bc P F t C z) (bc P F f C z)));rw[sj];refine(uv (t:=bj (execs ub J)) (f:=bj (execs uc J)) cJ (aB.2 C z _ rfl) (λz=>bH C z) λz=>hf C z).tree λA s Q E q=>wpAny_If (cd q (λb s' h'=>?_) λx9 x9 aE=>aE);cases b<;>exact h'
theorem zW(h:yP x=true)(t:Option Expr)(l:Nat):swapsWith x t l J=pure false:=by cases x<;>first|rfl|exact b3 h
theorem U5(bm:d2 Y J)(aM:bZ P F n Y J e x)(aQ:yP x=true):fp P F n Y J (.expr e) (.Expr x pos):=by intro C z;refine(av.dv (O₁:=aG) (t:=bj (eval x J)) (f:=λx9=>aY.ret Flow.next) (λx9 q=>q.elim) cJ (aM C z) λv σ' u=> .ret λI Z h q=>⟨.next,q.1⟩).tree λA s Q E q=>?_;refine ab (exec_Expr J x pos ((by dsimp only[interactive];refine ab bm.kind ?_;rfl):interactive J=false) (zW aQ _ _)) ?_;exact aV (ha (aV (cd q (λv s' h'=>wpAny_dropValue h') λx9 x9 aE=>aE)))
end
def iT(turn:V->aK->St->Res (cg×aK))(src:Src):Nat->Nat->aK->St->Res (cg×aK)
 |0,_,_,_=> .stuck
 |n+1,j,C,z=>match jc z j src with
  |none=> .stuck
  |some none=> .ok (.next,C) z
  |some (some v)=>(turn v C z).bind λx z=>match x.1 with
   | .ret w=> .ok (.ret w,x.2) z
   |_=>iT turn src n (j+1) x.2 z
theorem U6(h:jc z j src=some none):iT turn src (n+1) j C z= .ok (.next,C) z:=
 (bz (λq:Option (Option V)=>match q with|none=>Res.stuck|some none=> .ok (cg.next,C) z|some (some v)=>(turn v C z).bind λx z=>match x.1 with| .ret w=> .ok (.ret w,x.2) z|_=>iT turn src n (j+1) x.2 z) h:_)
theorem U7(h:jc z j src=some (some v)):iT turn src (n+1) j C z=(turn v C z).bind λx z=>match x.1 with| .ret w=> .ok (.ret w,x.2) z|_=>iT turn src n (j+1) x.2 z:=
 (bz (λq:Option (Option V)=>match q with|none=>Res.stuck|some none=> .ok (cg.next,C) z|some (some v)=>(turn v C z).bind λx z=>match x.1 with| .ret w=> .ok (.ret w,x.2) z|_=>iT turn src n (j+1) x.2 z) h:_)
theorem Kn{l:List V}(ar:∀z j,jc z j src=some l[j]?):∀(k j:Nat)(C:aK)(z:St),j+k=l.length->dN turn (l.drop j) C z=iT turn src (k+1) j C z:=by
 intro br
 induction br with
 |zero=>intro j C z e;have bB:l[j]?=none:=List.getElem?_eq_none_iff.mpr (by lia);refine ab ((List.drop_eq_nil_of_le (by lia):l.drop j=[])) ?_;exact(U6 ((ar z j).trans (bz some bB))).symm
 |succ k ih=>
  intro j C z e;have cF:j<l.length:=by lia
  refine ab (List.drop_eq_getElem_cons cF) ?_;refine c0 ?_ (U7 ((ar z j).trans (bz some (List.getElem?_eq_getElem cF:l[j]?=some l[j])))).symm;refine(?_:(turn l[j] C z).bind _=(turn l[j] C z).bind _)
  congr 1
  funext x z
  exact ab (ih (j+1) x.2 z (by lia)) rfl
  first|done|(obtain⟨a,bJ⟩:=x;cases a<;>rfl)
theorem U8{id:Nat}:∀(k j:Nat)(C:aK)(z:St),iz turn id k j C z=iT turn (.live id) k j C z:=by
 intro br
 induction br with
 |zero=>exactλx9 x9 x9=>rfl
 |succ k ih=>
  intro j C z;refine(λq:Option O=>(?_:(match q with|some (.list _ l)=>(match l[j]?with|none=>Res.ok (cg.next,C) z|some v=>(turn v C z).bind λx z=>match x.1 with| .ret w=> .ok (.ret w,x.2) z|_=>iz turn id k (j+1) x.2 z)|_=> .stuck)=match(match q with|some (.list _ l)=>some l[j]?|_=>none)with|none=> .stuck|some none=> .ok (.next,C) z|some (some v)=>(turn v C z).bind λx z=>match x.1 with| .ret w=> .ok (.ret w,x.2) z|_=>iT turn (.live id) k (j+1) x.2 z)) (z.heap id)
  cases q with
  |none=>rfl
  |some o=>
   cases o with
   |list b l=>
    dsimp only
    cases l[j]?with
    |none=>rfl
    |some v=>
     dsimp only
     congr 1
     funext x z
     exact ab (ih (j+1) x.2 z) rfl
     first|done|(obtain⟨a,bJ⟩:=x;cases a<;>rfl)
   |_=>rfl
section
variable{n:Nat}{Y:List Env}{z:St}{ao:cR}{I:bX}{Z:bY}
variable{P:ca}{F:bT}{J:Env}
theorem av.never{O O':Addr->Prop}{D:eg aI bG}{D':eg hv bG}{t:aY aI}{t':aY hv}{r:Res bG}(h:av O' D' n Y Pre' z t' r)(e6:∀I Z h,¬bo z I Z h):av O D n Y bo z t r:=by
 cases r with
 |stuck=>trivial
 |exc σ'=>exact⟨h.1,λaP A I Z s Q E aw aS am aj=>bf aj (e6 _ _ _)⟩
 |ok b σ'=>exact⟨h.1,λaP A I Z s Q E aw aS am aj=>bf aj (e6 _ _ _)⟩
theorem Ko{s:Shared}{target:Expr}{body:List Stmt}{it:Value}{J:Env}
  (turn:wpAny (model prog w) A (pyNext it) (λr cr=>match r with
   |none=>R (.ok .next) cr
   |some v=>wpAny (model prog w) A (assign target J v) (λx9 bE=>wpAny (model prog w) A (execs body J) (λf ej=>match f with
     | .next| .cont=>codeAny (model prog w) A (.forLoop target it body [] J) R ej
     | .brk=>R (.ok .next) ej
     | .ret v=>R (.ok (.ret v)) ej) (notedBy (model prog w) A J λe s'=>R (.error e) s') bE) (notedBy (model prog w) A J λe s'=>R (.error e) s') cr) (notedBy (model prog w) A J λe s'=>R (.error e) s') s)
  (bH:∀v,letOwnedTupleGo target it v=pure ()):codeAny (model prog w) A (.forLoop target it body [] J) R s:=by
 revert R s turn bH;revert A target body it J;refine@(rU m2 ne ne ne ne ?A9 ?target9 ?body9 ?it9 ?env9 ?_ ?_)
 rotate_left 5
 (
 intro R s turn bH;refine codeAny_of_tree ?_;refine(?_:wpAny _ _ ((forTurn ?target9 ?it9 ?body9 [] ?env9).onRaise (λx=>do noteFrame x ?env9;theTreesLotGoes x)) _ _ s);refine wpAny_noted ?_;refine aV (ha (aV (wpAny_onRaise (cd turn (λr cr bO=>?_) λx9 x9 h'=>ha h'))))
 cases r with
 |none=>exact bQ ⟨rfl,codeAny_block (wpAny_execs_nil bO)⟩
 |some v=>
  refine aV (wpAny_of_eq (bH v) ?_);refine aV (cd bO (λx9 bE c2=>aV (cd c2 (λf ej dQ=>?_) λx9 x9 h'=>h')) λx9 x9 h'=>h')
  cases f with
  |next=>exact bQ ⟨rfl,dQ⟩
  |cont=>exact bQ ⟨rfl,dQ⟩
  |brk=>exact bQ dQ
  |ret v=>exact bQ dQ)
 rfl
abbrev og(Y:List Env)(J:Env)(C:aK)(it c:Addr)(src:Src)(j:Nat)(z:St)(I:bX)(Z:bY)(h:Heap):Prop:=(d7 I Z z J C h)/\(noDict src=true)/\(ni I Z c src)/\(jx h it c j src)/\(d1 Y it I Z z h)/\(¬cI J it)
section
variable(x:og a b c d e f g ae i j k)
def og.frm:=x.1
def og.nd:=x.2.1
def og.sat:=x.2.2.1
def og.iter:=x.2.2.2.1
def og.nit:=x.2.2.2.2.1
def og.own:=x.2.2.2.2.2
end
theorem U9(F:d7 I Z z J C h)(x:∃o vs,h.get? it=some o/\o.data= .fields vs):¬cI J it:=by
 rintro(q|⟨m,ag,aB⟩)
 ·exact wJ F x q
 ·refine cS x ?_;try clear x;intro o vs as aN;refine hp (F.cell m (.inl ag)) ?_;intro c bN gu nc x9;refine a4 nc ?_;try clear nc;intro bS e4 d0;obtain rfl:=a8 ((aB).symm.trans gu);obtain rfl:=a8 ((as).symm.trans e4);replace d0:=(aN).symm.trans d0;exact nomatch d0
abbrev sF(target:Expr)(body:List Stmt)(J:Env)(it:Addr):aY Flow:=λA Q E s=>codeAny (model prog w) A (.forLoop target (.ref it) body [] J) (λr s'=>match r with| .ok f=>Q f s'| .error e=>cameBackBy (model prog w) A J E e s') s
def Kq(z:St)(j:Nat)(src:Src):Res (Option V):=match jc z j src with
 |some o=> .ok o z
 |none=> .stuck
def Ex(zX:aY Flow):Flow->aY Flow
 | .next=>zX
 | .cont=>zX
 | .brk=>aY.ret .next
 | .ret v=>aY.ret (.ret v)
def Ey(s:Str)(p:Pos)(body:List Stmt)(J:Env)(it:Addr)(u:Value):aY Flow:=
 aY.bind (inLoop J (bj (assign (.Name s p) J u))) λx9=>aY.bind (inLoop J (bj (execs body J))) (Ex (sF (.Name s p) body J it))
def gK(s:Str)(p:Pos)(body:List Stmt)(J:Env)(it:Addr):Option Value->aY Flow
 |none=>aY.ret .next
 |some u=>Ey s p body J it u
noncomputable def Ez(r:aK->St->Res (cg×aK))(x:cg×aK)(z:St):Res (cg×aK):=match x.1 with
 | .ret w=> .ok (.ret w,x.2) z
 |_=>r x.2 z
def Va(P:ca)(F:bT)(b:List S)(y:Nat)(C:aK)(r:aK->St->Res (cg×aK))(o:Option V)(z:St):Res (cg×aK):=match o with
 |none=> .ok (.next,C) z
 |some v=>(bc P F b (C.set y v) z).bind (Ez r)
abbrev oh(Y:List Env)(J:Env)(it c:Addr)(src:Src)(z:St)(I:bX)(Z:bY)(h:Heap):Prop:=(noDict src=true)/\(ni I Z c src)/\(d1 Y it I Z z h)/\(¬cI J it)
section
variable(x:oh a b c d e f g ae i)
def oh.nd:=x.1
def oh.sat:=x.2.1
def oh.nit:=x.2.2.1
def oh.own:=x.2.2.2
end
structure sG(Y:List Env)(J:Env)(it c:Addr)(src:Src)(j:Nat)(z:St)(I:bX)(Z:bY)(h:Heap):Prop where
 n:oh Y J it c src z I Z h
 iter:jx h it c j src
theorem oh.ext{O:Addr->Prop}(X:oh Y J it c src z I Z h)(x:cw Y O I Z z h κ' Z' σ' h'):oh Y J it c src σ' κ' Z' h':=⟨X.nd,X.sat.mono x.kle x.zle,X.nit.ext x,X.own⟩
theorem sG.ext(X:sG Y J it c src j z I Z h)(x:cw Y (cI J) I Z z h κ' Z' σ' h'):sG Y J it c src j σ' κ' Z' h':=⟨X.n.ext x,X.iter.of X.n.nd λx9 e=>X.n.nit.get x X.n.own e⟩
theorem Vb(aL:a= .next\/a= .cont)(d:dF J z I Z h (a,C) cs):Ex zX cs=zX:=by
 have:=d.1;clear d h
 rcases aL with rfl|rfl<;>cases this<;>rfl
theorem Kr(bm:d2 Y J)(ar:s=T.nm y)(bx:y<T.bV)(bI:ch.Inj)(ag:J.kindOf s=some .local\/J.kindOf s=some .cell)
  (ai:iR P F n Y J b body) (ih:∀C z,av (λb=>cI J b\/b=it) (dF J) n Y (og Y J C it c src j) z (sF (.Name s p) body J it) (R C z)):
  av (λb=>cI J b\/b=it) (dF J) n Y (λz I Z h=>d7 I Z z J C h/\sG Y J it c src j z I Z h/\Den I Z v u) z (Ey s p body J it u) ((bc P F b (C.set y v) z).bind (Ez R)):=by
 refine(?_:av _ _ _ _ _ _ (Ey s p body J it u) ((Res.ok (C.set y v) z).bind λbJ z=>(bc P F b bJ z).bind (Ez R)));refine av.dv (O₁:=cI J) (D₁:=sD J) (Kp:=sG Y J it c src j) (λx9 q=> .inl q) ⟨λx X=>X.2.1.ext x⟩ (av.inLoop bm (((uK bm ar bx bI ag (v:=v) (u:=u)).pre λI Z h q=>⟨q.1,q.2.2⟩).tree λA s Q E q=>wpAny_assign_Name q)) λbJ ef x9=>?_;refine av.dv (O₁:=cI J) (D₁:=dF J) (Kp:=sG Y J it c src j) (λx9 q=> .inl q) ⟨λx X=>X.1.ext x⟩ (av.inLoop bm ((ai bJ ef).pre λI Z h q=>q.2)) λx oa cs=>?_;obtain⟨a,fA⟩:=x
 have go:∀(a:cg),(a= .next\/a= .cont)->av (λb=>cI J b\/b=it) (dF J) n Y (λz I Z h=>sG Y J it c src j z I Z h/\dF J z I Z h (a,fA) cs) oa (Ex (sF (.Name s p) body J it) cs) (R fA oa):=λa aL=>((ih fA oa).pre λI Z h q=>⟨q.2.2,q.1.n.nd,q.1.n.sat,q.1.iter,q.1.n.nit,q.1.n.own⟩).f0 λA I Z st Q E x9 x9 x9 aj q=>by refine ab (Vb aL aj.2) ?_;exact q
 cases a with
 |next=>exact go .next (.inl rfl)
 |cont=>exact go .cont (.inr rfl)
 |ret v'=>
  clear go ef
  cases cs with
  |ret wi=>exact .ret λI Z h q=>⟨q.2.1,q.2.2⟩
  |_=>exact av.never (t':=aY.ret Flow.next) (O':=aG) (D':=λx9 x9 x9 x9 x9 x9=>True) (Pre':=λx9 x9 x9 x9=>True) (.ret λx9 x9 x9 x9=>trivial) λI Z h q=>by cases q.2.1
theorem Vc(bm:d2 Y J){body:List Stmt}{y:Nat}{s:Str}{p:Pos}{it c:Addr}{src:Src}(ar:s=T.nm y)(bx:y<T.bV)(bI:ch.Inj)(ag:J.kindOf s=some .local\/J.kindOf s=some .cell)
  (ai:iR P F n Y J b body) (k j:Nat) (C:aK) (z:St):av (λb=>cI J b\/b=it) (dF J) n Y (og Y J C it c src j) z
   (sF (.Name s p) body J it) (iT (λv C z=>bc P F b (C.set y v) z) src k j C z):=by
 revert bm src ar bx bI ag ai k j C z;revert n Y P F J b body y s p it c;refine@(rX ne ne v3 o3 ne ne ne ne ne ne ne ne ?n9 ?fs9 ?P9 ?F9 ?env9 ?b9 ?body9 ?y9 ?s9 ?p9 ?it9 ?c9 ?_ ?_)
 rotate_left 12
 (
 intro bm src ar bx bI ag ai k j C z
 induction k generalizing j C z with
 |zero=>exact .stuck
 |succ k ih=>
  have bd:iT (λv C z=>bc ?P9 ?F9 ?b9 (C.set ?y9 v) z) src (k+1) j C z=(Kq z j src).bind (Va ?P9 ?F9 ?b9 ?y9 C (iT (λv C z=>bc ?P9 ?F9 ?b9 (C.set ?y9 v) z) src k (j+1))):=by
   refine(?_:(match jc z j src with|none=>Res.stuck|some none=> .ok (cg.next,C) z|some (some v)=>(bc ?P9 ?F9 ?b9 (C.set ?y9 v) z).bind λx z=>match x.1 with| .ret w=>Res.ok (cg.ret w,x.2) z|_=>iT (λv C z=>bc ?P9 ?F9 ?b9 (C.set ?y9 v) z) src k (j+1) x.2 z)=_);unfold Kq
   cases jc z j src with
   |none=>rfl
   |some o=>cases o<;>rfl
  refine ab bd ?_;refine(av.dv (O₁:=λb=>b=?it9) (D₁:=Dv ?it9 ?c9 j src) (Kp:=λz I Z h=>d7 I Z z ?env9 C h/\oh ?fs9 ?env9 ?it9 ?c9 src z I Z h) (t:=inLoop ?env9 (bj (pyNext (.ref ?it9)))) (f:=gK ?s9 ?p9 ?body9 ?env9 ?it9) (λx9 q=> .inr q) ⟨λx X=>?_⟩ (av.inLoop bm (Ji.pre λx9 x9 x9 X=>(fs X.sat X.iter X.nit))) λo c1 r=>?_).tree λA s Q E q=>Ko (cd q (λr cr bO=>?_) λx9 x9 aE=>aE) λx9=>rfl
  ·refine⟨X.frm.ext x (λq=>X.own (.inl q.symm)) (λm du Vd gu q=>?_),X.nd,X.sat.mono x.kle x.zle,X.nit.ext x,X.own⟩;refine hp (X.frm.cell m Vd) ?_;intro sh bN lB hS x9;obtain rfl:=a8 ((gu).symm.trans lB);refine a4 hS ?_;try clear hS;intro o as aN;refine cS (X.iter.fields X.nd) ?_;intro lu aej sg pj;rw[q,sg]at as;obtain rfl:=a8 as;replace aN:=(pj).symm.trans aN;exact nomatch aN
  ·cases o with
   |none=>
    cases r with
    |none=>exact .ret λI Z h q=>⟨.next,q.1.1⟩
    |some u=>exact av.never (t':=aY.ret Flow.next) (O':=aG) (D':=λx9 x9 x9 x9 x9 x9=>True) (Pre':=λx9 x9 x9 x9=>True) (.ret λx9 x9 x9 x9=>trivial) λI Z h q=>q.2
   |some v=>
    cases r with
    |none=>exact av.never (Kr bm ar bx bI ag ai (ih (j+1)) (u:= .none)) λI Z h q=>q.2
    |some u=>exact(Kr bm ar bx bI ag ai (ih (j+1))).pre λI Z h q=>(fs q.1.1 ⟨q.1.2,q.2.2⟩ q.2.1)
  ·cases r with
   |none=>exact bO
   |some v=>
    refine cd bO (λx9 bE c2=>cd c2 (λf ej dQ=>?_) λx9 x9 aE=>aE) λx9 x9 aE=>aE
    cases f<;>exact dQ)
 rfl
def oi(turn:V->aK->St->Res (cg×aK))(src:Src)(C:aK)(z:St):Res (cg×aK):=match src with
 | .seq _ l=>iT turn src (l.length+1) 0 C z
 | .live _=>iT turn src 200 0 C z
 | .ff j=>iT turn src (j+1) 0 C z
 | .jb _=> .stuck
theorem Ve(bm:d2 Y J)(ar:s=T.nm y)(bx:y<T.bV)(bI:ch.Inj)(ag:J.kindOf s=some .local\/J.kindOf s=some .cell)
  (ai:iR P F n Y J b body) (C:aK) (z:St):av (λb=>cI J b\/b=it) (dF J) n Y (λz I Z h=>og Y J C it c src 0 z I Z h) z
   (sF (.Name s p) body J it) (oi (λv C z=>bc P F b (C.set y v) z) src C z):=by
 cases src with
 |jb id=>exact .stuck
 |_=>exact Vc bm ar bx bI ag ai _ _ _ _
theorem Ks(bm:d2 Y J)(ar:s=T.nm y)(bx:y<T.bV)(bI:ch.Inj)(ag:J.kindOf s=some .local\/J.kindOf s=some .cell)
  (ai:iR P F n Y J b body) (jX:∀n0,av aG (lE Y n0) n Y (λz I Z h=>bk J C z I Z h/\n0<=h.objs.size) z iterpt r):
  av (cI J) (dF J) n Y (bk J C) z (aY.bind iterpt λeY=>sF (.Name s p) body J eY.1) (r.bind λsrc z=>oi (λv C z=>bc P F b (C.set y v) z) src C z):=by
 refine av.low λn0=>?_;refine av.dv (O₁:=aG) (λx9 q=>q.elim) (D₁:=lE Y n0) sm (jX n0) λsrc σ' eY=>?_;refine((Ve bm (it:=eY.1) (c:=eY.2) ar bx bI ag ai C σ').pre λI Z h q=>?_).DF λI Z h q b ai=>?_
 ·refine eU q ?_;try clear q;intro dZ dh x9;refine bC dZ ?_;try clear dZ;intro F x9;refine l3 dh ?_;try clear dh;intro gi hl uC wM;exact⟨F,gi,hl,uC,wM,U9 F (uC.fields gi)⟩
 ·rcases ai with ai|rfl
  ·exact .inl ai
  ·exact .inr q.2.2
theorem Kt{st:Shared}{E:cc}(cp:fL x=true)
  (q:(aY.bind (n3 x J) λeY=>sF target body J eY.1) A Q E st):wpAny (model prog w) A (exec (.For target x body [] pos) J) Q E st:=by
 refine wpAny_For (cd q (λv cr bO=>cd bO (λi bE c2=>?_) λx9 x9 aE=>aE) λx9 x9 aE=>aE) (zD cp);refine cS c2 ?_;try clear c2;rintro it c rfl c2;exact c2
theorem Vf(bm:d2 Y J)(ar:s=T.nm y)(bx:y<T.bV)(bI:ch.Inj)(ag:J.kindOf s=some .local\/J.kindOf s=some .cell)
  (ai:iR P F n Y J b body) (aN:(x==("__debug__":Str))=false) (aw:Reads x (.type "range")) (Vg:J.kindOf x=some .globalImplicit) (DQ:keeperOf (.type "range")=pure .machine) (aL:ie P F n Y J [k] [a]):
  fp P F n Y J (.forR y k b) (.For (.Name s p) (.Call (.Name x p1) [a] [] p2) body [] pos):=by
 intro C z
 have aM:c6 P F (.forR y k b) C z=((de P F [k] C z).bind λvs z=>(my vs z).bind λj z=> .ok (.ff j) z).bind λsrc z=>oi (λv C z=>bc P F b (C.set y v) z) src C z:=by
  refine(?_:((az P F k C z).bind λdY z=>match dY with
   | .int (.ofNat j)=>match small j with
    |true=>dN (λv C z=>bc P F b (C.set y v) z) (hr j) C z
    |false=> .stuck
   |_=> .stuck)=(((((az P F k C z).bind λv z=>(Res.ok [] z).bind λvs z=> .ok (v::vs) z)).bind λvs z=>(my vs z).bind λj z=> .ok (Src.ff j) z).bind λsrc z=>oi (λv C z=>bc P F b (C.set y v) z) src C z))
  cases az P F k C z with
  |exc z=>rfl
  |stuck=>rfl
  |ok v z=>
   cases v with
   |int i=>
    cases i with
    |negSucc m=>rfl
    |ofNat j=>
     refine(?_:(match small j with
      |true=>dN (λv C z=>bc P F b (C.set y v) z) (hr j) C z
      |false=> .stuck)=((match small j with
      |true=>Res.ok j z
      |false=>Res.stuck).bind λj z=> .ok (Src.ff j) z).bind λsrc z=>oi (λv C z=>bc P F b (C.set y v) z) src C z)
     cases small j with
     |false=>rfl
     |true=>refine(?_:_=iT (λv C z=>bc P F b (C.set y v) z) (.ff j) (j+1) 0 C z);refine bM (Kn (l:=hr j) (src:= .ff j) (λz i=>by rw[Jp];rfl) j 0 C z (by rw[uB];lia)) ?_;rfl
   |_=>rfl
 refine ab aM ?_;exact(Ks bm (p:=p) ar bx bI ag ai λn0=>JB (p:=p1) (pos:=p2) aN aw Vg DQ aL C z).tree λA st Q E q=>Kt rfl q
end
section
variable{n:Nat}{Y:List Env}{z:St}{ao:cR}{I:bX}{Z:bY}
variable{P:ca}{F:bT}{J:Env}
theorem Vh(bm:d2 Y J)(lH:Sys B){id b:Nat}(bH:∀it v,letOwnedTupleGo target it v=pure ())(cp:fL x=true)(as:σ'.heap id=some (.ba b []))
  (aM:bD aG bb n Y (bk J C) z (eval x J) (.ok (.ref id) σ')):bD (cI J) (dF J) n Y (bk J C) z (exec (.For target x body [] pos) J) (.ok (.next,C) σ'):=by
 refine⟨aM.1,λaP A I Z s Q E aw aS am aj aC=>wpAny_For (aM.2 aP A I Z s _ _ aw aS am aj λκ' Z' h' aR u x' bW dP d=>?_) (zD cp)⟩;refine jm (n1 bW d as) ?_;intro c kvs cy ag aB ak gI ai;refine ab cy ?_;cases ak;refine cL aB.dictAt ?_;intro ep jd;refine wpAny_pyIter_dict (mm lH ai) jd (Ko ?_ (bH _));have Vi:(h'.push {cls:= .type "dict_keyiterator",data:= .fields #[.ref c, .int 0 0, .int (([]:List (Str×Value)).length:Nat) 0, .int ep 0]}).DictAt (strKind prog w) c [] ep:=jd.at' λo e=>et _ _ _ _ e;refine lD (wpAny_pyNext_dict_end (knd:=strKind prog w) (i:=0) (kvs:=[]) aw.handled (fW _ (hJ _ rfl) rfl rfl) Vi rfl λaf Vj cW=>?_);have px:∀b o,h'.get? b=some o->af.get? b=some o:=λb o e=>Vj b o (Nat.ne_of_lt (ft e)) (et _ _ b o e);exact aC κ' Z' af aR .next ((x'.trans ((ee.grow px (ct (by rw[Heap.size_push];exact gP _) cW:h'.objs.size<=af.objs.size)).fN:cw Y aG κ' Z' σ' h' κ' Z' σ' af)).mono λx9 x9 q=>q.elim) (bW.grow px) (dP.eO ((ee.grow px (ct (by rw[Heap.size_push];exact gP _) cW:h'.objs.size<=af.objs.size)).fN:cw Y aG κ' Z' σ' h' κ' Z' σ' af)) ⟨.next,(d7.eO aj x').eO ((ee.grow px (ct (by rw[Heap.size_push];exact gP _) cW:h'.objs.size<=af.objs.size)).fN:cw Y aG κ' Z' σ' h' κ' Z' σ' af)⟩
theorem Vk(bm:d2 Y J)(lH:Sys B){body:List Stmt}{y:Nat}{s:Str}{p pos:Pos}{e:E}{x:Expr}(aM:bZ P F n Y J e x)(cp:fL x=true)(ar:s=T.nm y)(bx:y<T.bV)(bI:ch.Inj)(ag:J.kindOf s=some .local\/J.kindOf s=some .cell)
  (ai:iR P F n Y J b body):fp P F n Y J (.eL y e b) (.For (.Name s p) x body [] pos):=by
 revert bm lH x aM cp ar bx bI ag ai;revert n Y P F J b body y s p pos e;refine@(rX ne ne v3 o3 ne ne ne ne ne ne ne HV ?n9 ?fs9 ?P9 ?F9 ?env9 ?b9 ?body9 ?y9 ?s9 ?p9 ?pos9 ?e9 ?_ ?_)
 rotate_left 12
 (
 intro bm lH x aM cp ar bx bI ag ai;intro C z
 have plain:∀r,((az ?P9 ?F9 ?e9 C z).bind sl).bind (λsrc z=>oi (λv C z=>bc ?P9 ?F9 ?b9 (C.set ?y9 v) z) src C z)=r->bD (cI ?env9) (dF ?env9) ?n9 ?fs9 (bk ?env9 C) z (exec (.For (.Name ?s9 ?p9) x ?body9 [] ?pos9) ?env9) r:=λr aw=>by
  refine bM aw ?_;exact(Ks bm (p:=?p9) ar bx bI ag ai λn0=>wI aM C z).tree λA st Q E q=>Kt cp q
 refine(?_:bD (cI ?env9) (dF ?env9) ?n9 ?fs9 (bk ?env9 C) z (exec (.For (.Name ?s9 ?p9) x ?body9 [] ?pos9) ?env9) ((az ?P9 ?F9 ?e9 C z).bind λit z=>match it with
   | .aD _ l=>dN (λv C z=>bc ?P9 ?F9 ?b9 (C.set ?y9 v) z) l C z
   | .tup l=>dN (λv C z=>bc ?P9 ?F9 ?b9 (C.set ?y9 v) z) l C z
   | .ref id=>match z.heap id with
    |some (.list _ _)=>iz (λv C z=>bc ?P9 ?F9 ?b9 (C.set ?y9 v) z) id 200 0 C z
    |some (.ba _ [])=> .ok (.next,C) z
    |_=> .stuck
   |_=> .stuck))
 have Ku:=aM C z
 cases aw:az ?P9 ?F9 ?e9 C z with
 |stuck=>exact .stuck
 |exc σ'=>exact plain _ (by refine ab aw ?_;rfl)
 |ok v σ'=>
  rw[aw]at Ku
  have wo:∀t l,oi (λv C z=>bc ?P9 ?F9 ?b9 (C.set ?y9 v) z) (.seq t l) C σ'=dN (λv C z=>bc ?P9 ?F9 ?b9 (C.set ?y9 v) z) l C σ':=λt l=>by
   have bd:oi (λv C z=>bc ?P9 ?F9 ?b9 (C.set ?y9 v) z) (.seq t l) C σ'=iT (λv C z=>bc ?P9 ?F9 ?b9 (C.set ?y9 v) z) (.seq t l) (l.length+1) 0 C σ':=rfl;refine ab bd (bM (Kn (l:=l) (λx9 x9=>rfl) l.length 0 C σ' (Nat.zero_add _)) ?_);rfl
  cases v with
  |aD q l=>exact plain _ (by refine ab aw ?_;exact wo false l)
  |tup l=>exact plain _ (by refine ab aw ?_;exact wo true l)
  |ref id=>
   refine(?_:bD (cI ?env9) (dF ?env9) ?n9 ?fs9 (bk ?env9 C) z (exec (.For (.Name ?s9 ?p9) x ?body9 [] ?pos9) ?env9) (match σ'.heap id with
    |some (.list _ _)=>iz (λv C z=>bc ?P9 ?F9 ?b9 (C.set ?y9 v) z) id 200 0 C σ'
    |some (.ba _ [])=> .ok (.next,C) σ'
    |_=> .stuck))
   cases as:σ'.heap id with
   |none=>exact .stuck
   |some o=>
    cases o with
    |list q l=>refine plain _ ?_;refine ab aw ?_;refine(?_:(sl (.ref id) σ').bind _=_);unfold sl;dsimp only;refine ab as ?_;have bd:oi (λv C z=>bc ?P9 ?F9 ?b9 (C.set ?y9 v) z) (.live id) C σ'=iT (λv C z=>bc ?P9 ?F9 ?b9 (C.set ?y9 v) z) (.live id) 200 0 C σ':=rfl;refine(?_:oi (λv C z=>bc ?P9 ?F9 ?b9 (C.set ?y9 v) z) (.live id) C σ'=_);refine c0 bd ?_;exact(U8 200 0 C σ').symm
    |ba q ah=>
     cases ah with
     |nil=>exact Vh bm lH (λx9 x9=>rfl) cp as Ku
     |cons be cm=>exact .stuck
    |_=>exact .stuck
  |_=>exact .stuck)
 rfl
theorem Vl
  (turn:wpAny (model prog w) A (isTrue test J (eval test J)) (λb bE=>
    if b=true then wpAny (model prog w) A (execs body J) (λf ej=>match f with
      | .next| .cont=>codeAny (model prog w) A (.whileLoop test body [] J) R ej
      | .brk=>R (.ok .next) ej
      | .ret v=>R (.ok (.ret v)) ej) (notedBy (model prog w) A J λe s'=>R (.error e) s') bE
    else R (.ok .next) bE)
    (notedBy (model prog w) A J λe s'=>R (.error e) s') s):codeAny (model prog w) A (.whileLoop test body [] J) R s:=by
 refine codeAny_of_tree ?_;refine(?_:wpAny _ A ((whileTurn test body [] J).onRaise (λx=>do noteFrame x J;theTreesLotGoes x)) _ _ s);refine wpAny_noted ?_;refine aV (cd turn (λb bE c2=>?_) λx9 x9 h'=>h')
 cases b with
 |false=>exact aV (wpAny_execs_nil (bQ c2))
 |true=>
  refine aV (cd c2 (λf ej dQ=>?_) λx9 x9 h'=>h')
  cases f with
  |next=>exact bQ ⟨rfl,dQ⟩
  |cont=>exact bQ ⟨rfl,dQ⟩
  |brk=>exact bQ dQ
  |ret v=>exact bQ dQ
abbrev zY(test:Expr)(body:List Stmt)(J:Env):aY Flow:=λA Q E s=>codeAny (model prog w) A (.whileLoop test body [] J) (λr s'=>match r with| .ok f=>Q f s'| .error e=>cameBackBy (model prog w) A J E e s') s
theorem Vm(bm:d2 Y J){x:Expr}{b:List S}{body:List Stmt}(aB:eQ P F n Y J c x)(ai:iR P F n Y J b body):∀(k:Nat)(C:aK)(z:St),
  av (cI J) (dF J) n Y (bk J C) z (zY x body J) (jN (λC z=>az P F c C z) (λC z=>bc P F b C z) k C z):=by
 revert bm x b aB ai;revert n Y P F J c body;refine@(H5 ne ne v3 o3 ne HV ne ?n9 ?fs9 ?P9 ?F9 ?env9 ?c9 ?body9 ?_ ?_)
 rotate_left 7
 (
 intro bm x b aB ai;intro br
 induction br with
 |zero=>exactλx9 x9=> .stuck
 |succ k ih=>
  intro C z
  have bd:jN (λC z=>az ?P9 ?F9 ?c9 C z) (λC z=>bc ?P9 ?F9 b C z) (k+1) C z=(kr ?P9 ?F9 ?c9 C z).cx.bind λt z=>match t with
    |true=>(bc ?P9 ?F9 b C z).cx.bind λx z=>match x.1 with
     | .ret w=> .ok (.ret w,x.2) z
     |_=>jN (λC z=>az ?P9 ?F9 ?c9 C z) (λC z=>bc ?P9 ?F9 b C z) k x.2 z
    |false=> .ok (.next,C) z:=by
   refine(?_:(az ?P9 ?F9 ?c9 C z).cx.bind _=((az ?P9 ?F9 ?c9 C z).bind fy).cx.bind _)
   cases az ?P9 ?F9 ?c9 C z with
   |exc z=>rfl
   |stuck=>rfl
   |ok v z=>
    refine(?_:(match truth v with
     |some true=>(bc ?P9 ?F9 b C z).cx.bind λx z=>match x.1 with
      | .ret w=> .ok (.ret w,x.2) z
      |_=>jN (λC z=>az ?P9 ?F9 ?c9 C z) (λC z=>bc ?P9 ?F9 b C z) k x.2 z
     |some false=> .ok (.next,C) z
     |none=> .stuck)=(fy v z).cx.bind _)
    unfold fy
    cases truth v with
    |none=>rfl
    |some t=>
     cases t with
     |false=>rfl
     |true=>
      refine(?_:(bc ?P9 ?F9 b C z).cx.bind _=(bc ?P9 ?F9 b C z).cx.bind _)
      congr 1
  refine ab bd ?_
  refine(av.dv (O₁:=aG) (D₁:=mr) (Kp:=bk ?env9 C) (t:=inLoop ?env9 (bj (isTrue x ?env9 (eval x ?env9)))) (f:=λt A Q E s=>if t=true then(aY.bind (inLoop ?env9 (bj (execs ?body9 ?env9))) λf=>match f with
     | .next| .cont=>zY x ?body9 ?env9
     | .brk=>aY.ret Flow.next
     | .ret v=>aY.ret (Flow.ret v)) A Q E s else Q .next s) (λx9 q=>q.elim) cJ (av.inLoop bm (aB.2 C z _ rfl).cx) λt c1 Kv=>?_).tree λA s Q E q=>Vl (cd q (λb bE c2=>?_) λx9 x9 aE=>aE)
  ·cases t with
   |false=>refine av.f0 (t:=aY.ret Flow.next) (.ret λI Z h q=>⟨.next,q.1⟩) λA I Z s Q E x9 x9 x9 aj q=>?_;have:Kv=false:=aj.2;subst this;exact q
   |true=>
    have go:av (cI ?env9) (dF ?env9) ?n9 ?fs9 (bk ?env9 C) c1 (aY.bind (inLoop ?env9 (bj (execs ?body9 ?env9))) λf=>match f with
     | .next| .cont=>zY x ?body9 ?env9
     | .brk=>aY.ret Flow.next
     | .ret v=>aY.ret (Flow.ret v)) ((bc ?P9 ?F9 b C c1).cx.bind λx z=>match x.1 with
     | .ret w=> .ok (.ret w,x.2) z
     |_=>jN (λC z=>az ?P9 ?F9 ?c9 C z) (λC z=>bc ?P9 ?F9 b C z) k x.2 z):=by
     refine av.dv (O₁:=cI ?env9) (D₁:=dF ?env9) (Kp:=λx9 x9 x9 x9=>True) (λx9 q=>q) ⟨λx9 x9=>trivial⟩ (av.inLoop bm (ai C c1).cx) λx' ef cs=>?_;obtain⟨a,fA⟩:=x'
     have go:∀(a:cg),(a= .next\/a= .cont)->av (cI ?env9) (dF ?env9) ?n9 ?fs9 (λz I Z h=>True/\dF ?env9 z I Z h (a,fA) cs) ef (match cs with
       | .next| .cont=>zY x ?body9 ?env9
       | .brk=>aY.ret Flow.next
       | .ret v=>aY.ret (Flow.ret v)) (jN (λC z=>az ?P9 ?F9 ?c9 C z) (λC z=>bc ?P9 ?F9 b C z) k fA ef):=λa aL=>by
      refine(((ih) fA ef).pre λI Z h q=>q.2.2).f0 λA I Z st Q E x9 x9 x9 aj q=>?_;have:cs= .next\/cs= .cont:=by rcases aL with rfl|rfl<;>cases aj.2.1<;>simp
      rcases this with rfl|rfl<;>exact q
     cases a with
     |next=>exact go .next (.inl rfl)
     |cont=>exact go .cont (.inr rfl)
     |ret v'=>
      cases cs with
      |ret wi=>exact .ret λI Z h q=>⟨q.2.1,q.2.2⟩
      |_=>exact av.never (t':=aY.ret Flow.next) (O':=aG) (D':=λx9 x9 x9 x9 x9 x9=>True) (Pre':=λx9 x9 x9 x9=>True) (.ret λx9 x9 x9 x9=>trivial) λI Z h q=>by cases q.2.1
    refine av.f0 (go.pre λx9 x9 x9 q=>q.1) λA I Z s Q E x9 x9 x9 aj q=>?_;have:Kv=true:=aj.2;refine ab this ?_;refine ab (df rfl) ?_;exact q
  ·cases b with
   |false=>exact c2
   |true=>
    refine cd c2 (λf ej dQ=>?_) λx9 x9 aE=>aE
    cases f<;>exact dQ)
 rfl
theorem Vn(bm:d2 Y J)(aB:eQ P F n Y J c x)(ai:iR P F n Y J b body):fp P F n Y J (.i1 c b) (.While x body [] pos):=λC z=>(Vm bm aB ai yw C z).tree λA s Q E q=>wpAny_While q
end
section
variable{n:Nat}{Y:List Env}{z:St}{ao:cR}{I:bX}{Z:bY}
variable{P:ca}{F:bT}{J:Env}
class inductive j0(J:Env):List Nat->List Expr->Prop
 |nil:j0 J [] []
 |cons {y:Nat} {s:Str} {p:Pos} {dn:List Nat} {b2:List Expr}:s=T.nm y->y<T.bV->(J.kindOf s=some .local\/J.kindOf s=some .cell)->j0 J dn b2->j0 J (y::dn) (.Name s p::b2)
theorem j0.len(h:j0 J dn b2):(assignEach b2 J).length=dn.length/\(assignEach b2 J).findIdx? (·.1)=none:=by
 induction h with
 |nil=>exact⟨rfl,rfl⟩
 | @cons y s p dn b2 be cm i5 jU ih=>refine⟨by exact ab ((rfl:assignEach (.Name s p::b2) J=(false,assign (.Name s p) J)::assignEach b2 J)) (ab List.length_cons (ab List.length_cons (ab ih.1 rfl))),?_⟩;refine ab ((rfl:assignEach (.Name s p::b2) J=(false,assign (.Name s p) J)::assignEach b2 J)) (ab (List.findIdx?_cons) ?_);simp[ih.2]
noncomputable def zZ(xs:List Nat)(vs:List V)(C:aK)(z:St):Res aK:=match kg xs vs C with
 |some bJ=> .ok bJ z
 |none=> .stuck
theorem Vo(bm:d2 Y J)(bI:ch.Inj)(h:j0 J dn b2):∀(vs:List V)(ev:List Value)(C:aK)(z:St),
  av (cI J) (sD J) n Y (λz I Z h=>d7 I Z z J C h/\bn I Z vs ev) z (bj (assignInOrder ((assignEach b2 J).map (·.2)) ev)) (zZ dn vs C z):=by
 induction h with
 |nil=>
  intro vs ev C z
  cases vs with
  |nil=>
   refine(?_:av (cI J) (sD J) n Y _ z _ (.ok C z))
   exact(av.ret (a:=()) λI Z h q=>q.1).tree λA s Q E q=>by
    exact bQ q
  |cons be cm=>exact .stuck
 | @cons y s p dn b2 ar bx ag be ih=>
  intro vs ev C z
  cases vs with
  |nil=>exact .stuck
  |cons v vs=>
   have bd:zZ (y::dn) (v::vs) C z=(Res.ok (C.set y v) z).bind λC z=>zZ dn vs C z:=rfl;refine ab bd ?_
   cases ev with
   |nil=>refine av.never (t':=bj (assignInOrder ((assignEach b2 J).map (·.2)) [])) (ih vs [] (C.set y v) z) λI Z h q=>by cases q.2
   |cons u ev=>refine(av.dv (O₁:=cI J) (D₁:=sD J) (t:=bj (storeName J s u)) (f:=λx9=>bj (assignInOrder ((assignEach b2 J).map (·.2)) ev)) (Kp:=λz I Z h=>bn I Z vs ev) (λx9 q=>q) ⟨λx q=>by cases q.2 with|cons be d=>exact d.mono x.kle x.zle⟩ ((uK bm ar bx bI ag (v:=v) (u:=u)).pre λI Z h q=>⟨q.1,by cases q.2;assumption⟩) λbJ σ' x9=>(ih vs ev bJ σ').pre λI Z h q=>⟨q.2,q.1⟩).tree λA st Q E q=>?_;refine(?_:wpAny _ A (do holding ev (assign (.Name s p) J u);assignInOrder ((assignEach b2 J).map (·.2)) ev) Q E st);exact aV (hI (wpAny_assign_Name q))
theorem Vp(bm:d2 Y J)(bI:ch.Inj)(lJ:j0 J dn b2)(v:V)(u:Value)(z:St):
  av (cI J) (dF J) n Y (λz I Z h=>bk J C z I Z h/\bb z I Z h v u) z (λA Q E st=>wpAny (model prog w) A (assign (.Tuple b2 k d8) J u) (λx9=>Q .next) E st) (match v with
   | .tup l=>match kg dn l C with
    |some bJ=> .ok (.next,bJ) z
    |none=> .stuck
   |_=> .stuck):=by
 cases v with
 |tup l=>
  dsimp only
  cases ai:kg dn l C with
  |none=>exact .stuck
  |some bJ=>
   refine⟨λq=>q,λaP A I Z s Q E aw aS am aj aC=>?_⟩;refine bC aj ?_;try clear aj;intro Fr d
   cases d with| @tup be c vs hz ak=>
   have aB:=am.frz _ _ _ hz;have eh:=ak.length;have Vq:=Ef ai;refine aV (ha ?_);unfold unpack;refine ab lJ.len.2 (ab (show(assignEach b2 J).length=vs.toArray.size by exact ab lJ.len.1 (ab List.size_toArray (bM eh (ab Vq rfl)))) ?_);refine aV (hI (lD (wpAny_unpackItems_tuple aw.handled aB.uy λh' aM kv=>?_)));have ag:∀b o,s.heap.get? b=some o->h'.get? b=some o:=λb o e=>aM b o (Nat.ne_of_lt (ft e)) e;have x:cw Y aG I Z z s.heap I Z z h':=(ee.grow ag kv).fN;have st:=Vo (n:=n) bm bI lJ l vs C z;unfold zZ at st;rw[ai]at st;refine st.2 aP A I Z {s with heap:=h'} _ E aw (aS.eO x) (am.grow ag) ⟨Fr.eO x,ak⟩ λκ' Z' af aR x9 e3 R2 xa kZ=>?_;exact aC κ' Z' af aR .next ((x.mono λx9 x9 q=>q.elim).trans e3) R2 xa ⟨.next,kZ⟩
 |_=>exact .stuck
theorem Vr(h:(!Nat.beq x.ctorIdx 25)=true):swappedStores [.Tuple b2 k d8] x J=pure none:=by cases x<;>first|rfl|exact b3 h
theorem EA(l:Nat):swapsWithSole [.Tuple b2 k d8] x l J=pure false:=by cases x<;>rfl
theorem Kw(bm:d2 Y J)(bI:ch.Inj)(lJ:j0 J dn b2)(aM:bZ P F n Y J e x)(hw:swappedStores [.Tuple b2 k d8] x J=pure none):
  fp P F n Y J (.unpack dn e) (.Assign [.Tuple b2 k d8] x pos):=λC z=>
 (av.dv (O₁:=aG) (t:=bj (eval x J)) (f:=λu A Q E st=>wpAny (model prog w) A (assign (.Tuple b2 k d8) J u) (λx9=>Q .next) E st) (λx9 q=>q.elim) cJ (aM C z) λv σ' u=>Vp bm bI lJ v u σ').tree λA st Q E q=>Assign_Tuple q (EA _) hw
theorem EB(bm:d2 Y J):(J.blockKind != .function)=false:=by unfold Env.blockKind;refine ab bm.kind ?_;rfl
theorem Kx(h:gc v=true):PySem.swappedStores.match_5 (λx9=>Bool) v (λx9 x9=>true) (λx9=>false)=false:=by cases v<;>first|rfl|exact b3 h
theorem EC(c4:gc cl=true)(dg:gc cA=true):¬([cl,cA].any λv=>PySem.swappedStores.match_5 (λx9=>Bool) v (λx9 x9=>true) (λx9=>false))=true:=by refine ab List.any_cons (ab (Kx c4) (ab List.any_cons (ab (Kx dg) ?_)));exact Bool.noConfusion
theorem Vs{A B:Type}{f:A->Option B}{a b:A}{x y:B}(aL:f a=some x)(ai:f b=some y):List.filterMap f [a,b]=[x,y]:=by simp[aL,ai]
theorem Vt{A B:Type}{f:A->Option B}{a b:A}{n:Nat}{q:Bool}(aL:f a=none)(aq:n=2):((List.filterMap f [a,b]).length !=n||q)=true:=by subst aq;cases ai:f b<;>simp[aL,ai]
theorem Vu(bm:d2 Y J){p1 p2 d8 hL:Pos}{k bF:Nat}{cl cA:Expr}(ae:J.kindOf b5≠some .local)(c4:gc cl=true)(dg:gc cA=true):swappedStores [.Tuple [.Name b5 p1, .Name cC p2] k d8] (.Tuple [cl,cA] bF hL) J=pure none:=by
 revert bm ae c4 dg;revert Y J b5 cC p1 p2 d8 hL k bF cl cA;refine@(rX ne ne ne ne ne ne ne ne ne ne ne ne ?fs9 ?env9 ?s19 ?s29 ?p19 ?p29 ?tp9 ?vp9 ?k9 ?k'9 ?v19 ?v29 ?_ ?_)
 rotate_left 12
 intro bm ae c4 dg;have ai:((?env9).kindOf ?s19==some NameKind.local)=false:=by simpa using ae
 unfold swappedStores;dsimp only;refine ab (EB bm) ?_;refine ab (cO (show¬(_=true) by simp)) (ab (cO (EC c4 dg)) ?_);refine df (Vt ?_ rfl);exact cO λe=>b3 (ai.symm.trans (Bool.and_eq_true_iff.1 e).1);rfl
theorem Vv(bm:d2 Y J){p1 p2 d8 hL:Pos}{k bF:Nat}{cl cA:Expr}(ae:J.kindOf b5=some .local)(af:J.kindOf cC=some .local)(ak:p2.line=p1.line)(dB:b5≠cC)(c4:gc cl=true)(dg:gc cA=true)(p6:foldedForSure 8 cl=false)(qG:constantsAlone 8 cl=false):
  swappedStores [.Tuple [.Name b5 p1, .Name cC p2] k d8] (.Tuple [cl,cA] bF hL) J=pure (some [b5,cC]):=by
 revert bm ae af ak dB c4 dg p6 qG;revert Y J b5 cC p1 p2 d8 hL k bF cl cA;refine@(rX ne ne ne ne ne ne ne ne ne ne ne ne ?fs9 ?env9 ?s19 ?s29 ?p19 ?p29 ?tp9 ?vp9 ?k9 ?k'9 ?v19 ?v29 ?_ ?_)
 rotate_left 12
 intro bm ae af ak dB c4 dg p6 qG;unfold swappedStores;dsimp only;refine ab (EB bm) ?_;refine ab (cO (show¬(_=true) by simp)) (ab (cO (EC c4 dg)) ?_)
 have e:([?s19,?s29].eraseDups.length !=[?s19,?s29].length)=false:=by
  have:(?s29==?s19)=false:=by simpa usingλq=>dB q.symm
  simp[List.eraseDups_cons,this]
 have jg:((?env9).kindOf ?s19==some NameKind.local)=true:=by simp[ae]
 have k3:((?env9).kindOf ?s29==some NameKind.local)=true:=by simp[af]
 have xb:((?p29).line==(?p19).line)=true:=by simp[ak]
 have ss:(Option.map (λx=>Pos.line (Expr.pos x)) [Expr.Name ?s19 ?p19,Expr.Name ?s29 ?p29].head?).getD 0=(?p19).line:=rfl;generalize dU:List.filterMap _ [_,_]=F;replace dU:=dU.symm.trans (Vs (x:=?s19) (y:=?s29) (by exact df (Bool.and_eq_true_iff.2 ⟨jg,beq_self_eq_true _⟩)) (by exact df (Bool.and_eq_true_iff.2 ⟨k3,xb⟩)));subst dU;refine ab (cO (show¬((false||_)=true)fromλq=>b3 (e.symm.trans q))) ?_;exact ab (cO (by simp[p6])) (ab (cO (by simp[qG])) rfl);rfl
theorem Vw(bm:d2 Y J)(c4:gc cl=true)(dg:gc cA=true):swappedStores [.Tuple [.Attribute mI a1 p1, .Attribute lu a2 p2] k d8] (.Tuple [cl,cA] bF hL) J=pure none:=by unfold swappedStores;dsimp only;refine ab (EB bm) ?_;refine ab (cO (show¬(_=true) by simp)) (ab (cO (EC c4 dg)) ?_);rfl
end
section
variable{n:Nat}{Y:List Env}{z:St}{ao:cR}{I:bX}{Z:bY}
variable{P:ca}{F:bT}{J:Env}
theorem Vx{tag:Option Nat}{l:List V}{v:V}{σ':St}{I κ':bX}{Z Z':bY}{h:Heap}{acc D:Addr}(e:gv tag l z= .ok v σ')(R:bu I Z z h)(N:d1 Y acc I Z z h)(X:∃vs,SeqAt h acc false vs/\bn I Z l vs)(aq:D≠acc)(jh:d1 Y D I Z z h):
  ∃κ' Z',(∀n0,n0<=acc->n0<=h.objs.size->iO n0 Y aG I Z z h κ' Z' σ' h)/\bu κ' Z' σ' h/\Den κ' Z' v (.ref acc)/\(σ'.log->z.log)/\d1 Y D κ' Z' σ' h:=by
 revert tag v σ' κ' D e R N X aq jh;revert Y z l I Z Z' h acc;refine@(v5 ne hc ne ne ne ne ne ne ?fs9 ?σ9 ?l9 ?κ9 ?Z9 ?Z'9 ?h9 ?acc9 ?_ ?_)
 rotate_left 8
 (
 intro tag v σ' κ' D e R N X aq jh;refine a4 X ?_;try clear X;intro vs ii ak;unfold gv at e
 cases tag with
 |none=>cases e;refine bC (R.wt ⟨N.foot,N.zet⟩ ii) ?_;intro bW hz;exact⟨?κ9,_,λn0 ae af=>iO.wt ae hz af,bW, .aD (df rfl) (ak.mono (.refl _) hz) (b8 _),id,jh.lt,jh.foot,(cO aq).trans jh.zet,jh.base,jh.aa,jh.sys⟩
 |some t=>
  dsimp only at e
  cases ai:(?σ9).dI t with
  |false=>rw[ai]at e;injection e
  |true=>
   replace e:=ai▸e;cases e;refine bC (R.claim (h':=?h9) (o:= .list (?l9).length ?l9) ai ⟨N.foot,N.zet,N.base,N.sys⟩ ⟨N.foot,N.zet,N.base,N.sys⟩ ⟨rfl,vs,ii,ak,b8 _⟩ λx9 x9 x9 x9 e=>e) ?_;intro bW gs;refine⟨_,?Z9,λn0 ae af=>iO.claim ae ae gs af,bW, .ref (df rfl),id,jh.lt,λdz=>eB dz λid x y ae af ax=>?_,jh.zet,jh.base,jh.aa,jh.sys⟩
   by_cases q:id=(?σ9).aT t
   ·replace af:=(show((?κ9).put ((?σ9).aT t) ?acc9 ?acc9) id=some (?acc9,?acc9)from df q).symm.trans af;refine bC (fi (a8 af)) ?_;rintro rfl rfl
    rcases ax with ax|ax<;>exact aq ax
   ·rw[show((?κ9).put ((?σ9).aT t) ?acc9 ?acc9) id=?κ9 id from if_neg q]at af;rw[qj,if_neg q]at ae
    exact jh.foot (ix id x y ae af ax))
 rfl
abbrev uN(J:Env)(s:Str):Addr×Addr->aY Flow:=λp A Q E st=>wpAny (model prog w) A (storeName J s (.ref p.1)) (λx9 lI=>∃m,lI.heap.Ns p.2 m/\∀h',Heap.SameBut p.2 lI.heap h'->Q .next {lI with heap:=h'}) E st
theorem Ky(bm:d2 Y J){y:Nat}{s:Str}(ar:s=T.nm y)(bx:y<T.bV)(bI:ch.Inj)(ag:J.kindOf s=some .local\/J.kindOf s=some .cell){tag:Option Nat}{r:Res (List V)}{t:aY (Addr×Addr)}
  (h:∀n0,av (λb=>n0<=b) (wL Y n0) n Y (λz I Z h=>bk J C z I Z h/\n0<=h.objs.size) z t r):
  av (cI J) (dF J) n Y (bk J C) z (t.bind (uN J s)) ((r.bind (gv tag)).bind λv z=> .ok (.next,C.set y v) z):=by
 revert bm s ar bx bI ag tag r t h;revert n Y z J C y;refine@(rV ne ne hc ne ne ne ?n9 ?fs9 ?σ9 ?env9 ?lv9 ?y9 ?_ ?_)
 rotate_left 6
 (
 intro bm s ar bx bI ag tag r t h
 cases r with
 |stuck=>trivial
 |exc σ'=>exact⟨(h 0).1,λaP A I Z s Q E aw aS am aj dt=>(h s.heap.objs.size).2 aP A I Z s _ E aw aS am ⟨aj,b8 _⟩ λh' aR e u=>dt h' aR e (u.mono λb ai q=>bf ai (Nat.not_lt.mpr q))⟩
 |ok l c1=>
  refine(?_:av (cI ?env9) (dF ?env9) ?n9 ?fs9 (bk ?env9 ?lv9) ?σ9 (t.bind (uN ?env9 s)) ((gv tag l c1).bind λv z=> .ok (.next,(?lv9).set ?y9 v) z))
  cases bw:gv tag l c1 with
  |stuck=>trivial
  |exc ef=>have:=JD tag l c1;rw[bw]at this;exact nomatch this
  |ok v ef=>
   have Kz:ef.log->c1.log:=by
    intro aP;unfold gv at bw
    cases tag with
    |none=>cases bw;exact aP
    |some t=>
     dsimp only at bw
     cases ai:c1.dI t with
     |false=>rw[ai]at bw;injection bw
     |true=>replace bw:=ai▸bw;cases bw;exact aP
   refine⟨λaP=>(h 0).1 (Kz aP),λaP A I Z st Q E aw aS am aj aC=>?_⟩;refine(h st.heap.objs.size).2 (Kz aP) A I Z st _ E aw aS am ⟨aj,b8 _⟩ λκ' Z' h' aR p x bW dP d=>?_;refine eU d ?_;try clear d;intro X c4 dg;refine h4 (Vx (κ':=I) (Z':=Z) bw bW X.nacc X.seq (Ne.symm X.ba) X.nD) ?_;intro sA KA cQ R2 ng x9 jh;have ED:cw ?fs9 aG I Z ?σ9 st.heap sA KA ef h':=x.DB (λb ai q=>bf ai (Nat.not_lt.mpr q)) (cQ _ c4 x.size)
   have EE:¬cI ?env9 p.2:=by
    rintro(q|⟨m,Vy,Vz⟩)
    ·refine a4 aj.ns ?_;intro m aJ x9;exact bf (q▸dg) (Nat.not_le.mpr aJ.lt)
    ·refine hp (aj.cell m (.inl Vy)) ?_;intro c bN aB hS x9;replace aB:=(Vz).symm.trans aB;obtain rfl:=a8 aB;exact bf dg (Nat.not_le.mpr (we hS))
   refine(uK (n:=?n9) bm ar bx bI ag (v:=v) (u:= .ref p.1) (C:=?lv9) (z:=ef)).2 aP A sA KA {st with heap:=h',toks:=aR} _ E aw (aS.eO ED) R2 ⟨d7.eO aj ED,ng⟩ λKC KD ax VA x9 hM z0 VB VC=>?_;refine cL X.ns ?_;intro m cp;refine bq m (ql cp λo as=>hM.keep _ _ as jh.foot EE) (λa0 dE=>?_);have xc:=jh.ext hM
   have jv:∃o,ax.get? p.2=some o/\∀v,o.data≠ .cell v:=by refine eB (ql cp λo as=>hM.keep _ _ as jh.foot EE) ?_;intro o ah ep as aN x9;exact bq o as (λv q=>by cases aN.symm.trans q)
   refine aC KC KD a0 VA .next ((((ED.mono λx9 x9 q=>q.elim).trans (hM.mono λx9 x9 q=> .inl q)).trans ((bu.gK (R:=z0) xc dE.extBut (fr dE.1.symm)).2.mono λx9 x9 q=> .inr q):cw ?fs9 (λb=>cI ?env9 b\/b=p.2) I Z ?σ9 st.heap KC KD ef a0).mono λb ai q=>q.elim (λq=>q) λq=>bf ai (Nat.not_lt.mpr (q▸dg))) (bu.gK (R:=z0) xc dE.extBut (fr dE.1.symm)).1 (VB.gK (bu.gK (R:=z0) xc dE.extBut (fr dE.1.symm)).2 λb q=>q▸xc.aa) ⟨.next,VC.zx (bu.gK (R:=z0) xc dE.extBut (fr dE.1.symm)).2 λb q=>⟨λgL=>EE (.inl (q▸gL)),q▸jv⟩⟩)
 rfl
theorem VD(h:ua t aA=true):(aA.any λ(n,k)=>n==t&&(k== .local||k== .cell))=false:=by
 rw[Bool.eq_false_iff];intro q;rw[List.any_eq_true]at q;refine a4 q ?_;try clear q;rintro⟨x,k⟩ aJ cX;have:=List.all_eq_true.mp h _ aJ;dsimp only at this cX;rw[Bool.and_eq_true,Bool.or_eq_true]at cX;have bd:x=t:=by simpa using cX.1
 clear h;subst bd;replace this:=(((by unfold dJ;rw[jV];simp):dJ x x=true))▸this
 rcases cX.2 with q|q
 ·have:k= .local:=by simpa using q
  subst this;simp[show gr NameKind.local .local=true from rfl,show gr NameKind.cell .cell=true from rfl,show gr NameKind.local .cell=false from rfl,show gr NameKind.cell .local=false from rfl]at*
 ·have:k= .cell:=by simpa using q
  clear q;subst this;simp[show gr NameKind.local .local=true from rfl,show gr NameKind.cell .cell=true from rfl,show gr NameKind.local .cell=false from rfl,show gr NameKind.cell .local=false from rfl]at*
theorem KE(bm:d2 Y J)(ag:J.kindOf t=some .local)(ak:i3 d8.line pos.line=true)(aq:ua t aA.names=true):swapsWith (.ListComp dx h8 aA pos) (some (.Name t d8)) line J=pure true:=by
 have e:swapsWith (.ListComp dx h8 aA pos) (some (.Name t d8)) line J=pure (J.blockKind== .function&&J.kindOf t==some .local&&d8.line==pos.line&&!(aA.names.any λ(n,k)=>n==t&&(k== .local||k== .cell))):=rfl;refine ab e (ab (VD aq) (ab ag (ab (cj ak) ?_)));have:J.blockKind= .function:=by unfold Env.blockKind;refine ab bm.kind ?_;rfl
 refine ab this ?_;simp
theorem KG(S:fH J.scope.names aA)(cp:fL it=true)(Ew:swapsWith (.ListComp dx [⟨target,it,ifs,0⟩] aA pos) (some (.Name t d8)) k4.line J=pure true)
  {E:cc} (dU:bk J C z I Z s.heap)
  (q:(aY.bind (so {cls:= .type "list",data:= .seq ([]:List Value).toArray} (n3 it J) (nl (.ListComp dx [⟨target,it,ifs,0⟩] aA pos) aA J)) (uN J t)) A Q E s):
  wpAny (model prog w) A (exec (.Assign [.Name t d8] (.ListComp dx [⟨target,it,ifs,0⟩] aA pos) k4) J) Q E s:=by
 refine ab (exec_Assign_Name_used _ _ _ _ Ew) ?_;refine aV (ha (aV ?_));refine(?_:wpAny _ A (do let _<-comprehension (.ListComp dx [⟨target,it,ifs,0⟩] aA pos) aA J _ (newList []) false (eval it J) (some (assign (.Name t d8) J))) _ _ s);exact aV (cd (wQ (use:=some (assign (.Name t d8) J)) (Q:=λx9 s'=>Q .next s') (f:=λp x9 x9 x9 st=>uN J t p A Q E st) S cp dU (λacc D s' h=>wpAny_assign_Name h) q _) (λx9 s' cX=>bQ (bQ cX)) λx9 x9 e=>e)
theorem VE(bm:d2 Y J)(bH:t=T.nm aE)(hz:aE<T.bV)(ag:J.kindOf t=some .local)
  (ps:bZ P F n Y J iter it) (xd:i3 d8.line pos.line=true) (EF:ua t aA.names=true) (S:fH J.scope.names aA) (cp:fL it=true) (ak:jq [s] aA.names=true)
  (ar:aA.names.lookup s=some .local) (bx:y<T.bV) (fQ:s=T.nm y) (bI:ch.Inj) (gk:∀x,x<T.bV->T.nm x≠".0") (jy:∀D,bZ P F n Y (dj aA D J) bP dx) (ku:∀D,fG P F n Y (dj aA D J) cU ifs):
  fp P F n Y J (.assign aE (.comp tag bP y iter cU)) (.Assign [.Name t d8] (.ListComp dx [⟨.Name s p,it,ifs,0⟩] aA pos) k4):=λC z=>
 JG (fin:=uN J t) (tree:=bj (exec (.Assign [.Name t d8] (.ListComp dx [⟨.Name s p,it,ifs,0⟩] aA pos) k4) J)) ps S ak ar bx fQ bI gk jy ku C z (λh=>Ky bm bH hz bI (.inl ag) h) λdU q=>KG S cp (KE bm ag xd EF) dU q
theorem VF(bm:d2 Y J)(bH:t=T.nm aE)(hz:aE<T.bV)(ag:J.kindOf t=some .local)
  (lH:Sys B) (sv:bZ P F n Y J (.aa x) (.Name b5 cv)) (xd:i3 d8.line pos.line=true) (EF:ua t aA.names=true) (S:fH J.scope.names aA) (ak:jq [eD] aA.names=true) (ar:aA.names.lookup eD=some .local) (wR:ht eD=true) (sw:ht b5=true)
  (aQ:x<T.bV) (bx:y<T.bV) (qD:b5=T.nm x) (fQ:eD=T.nm y) (bI:ch.Inj) (gk:∀x,x<T.bV->T.nm x≠".0") (sx:t8 (mX J.scope.names aA.names) b5=true):
  fp P F n Y J (.assign aE (.li x y)) (.Assign [.Name t d8] (.ListComp (.Subscript (.Name b5 a1) (.Name eD a2) ap) [⟨.Name eD a3, .Name b5 cv,[],0⟩] aA pos) k4):=λC z=>
 JL (fin:=uN J t) (tree:=bj (exec (.Assign [.Name t d8] (.ListComp (.Subscript (.Name b5 a1) (.Name eD a2) ap) [⟨.Name eD a3, .Name b5 cv,[],0⟩] aA pos) k4) J)) lH sv S ak ar wR sw aQ bx qD fQ bI gk sx C z (λh=>Ky bm bH hz bI (.inl ag) h) λdU q=>KG S rfl (KE bm ag xd EF) dU q
theorem VG(bm:d2 Y J)(bI:ch.Inj){b5 cC:Str}(ae:b5=T.nm cM)(af:cC=T.nm cQ)(eN:cM<T.bV)(es:cQ<T.bV)(eX:J.kindOf b5=some .local)(k2:J.kindOf cC=some .local)(dB:cM≠cQ){C:aK}(v:V)(u:Value)(z:St):
  av (cI J) (dF J) n Y (λz I Z h=>bk J C z I Z h/\bb z I Z h v u) z (λA Q E st=>wpAny (model prog w) A (unpackItems u [b5,cC].length none) (λitems bE=>wpAny (model prog w) A (assignInOrder ([b5,cC].reverse.map λn=>bindName J n) items.reverse) (λx9=>Q .next) E bE) E st) (match v with
   | .tup l=>match kg [cM,cQ] l C with
    |some bJ=> .ok (.next,bJ) z
    |none=> .stuck
   |_=> .stuck):=by
 revert bm bI b5 cC ae af eN es eX k2 dB C v u z;revert n Y J cM cQ;refine@(rU ne ne ne ne ne ?n9 ?fs9 ?env9 ?y19 ?y29 ?_ ?_)
 rotate_left 5
 (
 intro bm bI b5 cC ae af eN es eX k2 dB C v u z
 cases v with
 |tup l=>
  match l with
  |[cl,cA]=>
   refine⟨λq=>q,λaP A I Z s Q E aw aS am aj aC=>?_⟩;refine bC aj ?_;try clear aj;intro Fr d
   cases d with| @tup be c vs hz ak=>
   cases ak with| @cons be gx cm vs uF ak=>
   cases ak with| @cons be fF cm vs kZ ak=>
   cases ak;refine lD (wpAny_unpackItems_tuple (items:= #[gx,fF]) aw.handled (am.frz _ _ _ hz).uy λh' aM kv=>?_);have ag:∀b o,s.heap.get? b=some o->h'.get? b=some o:=λb o e=>aM b o (Nat.ne_of_lt (ft e)) e;have x:cw ?fs9 aG I Z z s.heap I Z z h':=(ee.grow ag kv).fN
   have st:av (cI ?env9) (sD ?env9) ?n9 ?fs9 (λz I Z h=>d7 I Z z ?env9 C h/\Den I Z cl gx/\Den I Z cA fF) z (aY.bind (bj (storeName ?env9 cC fF)) λx9=>bj (storeName ?env9 b5 gx)) ((Res.ok (C.set ?y29 cA) z).bind λC z=> .ok (C.set ?y19 cl) z):=by refine av.dv (O₁:=cI ?env9) (D₁:=sD ?env9) (Kp:=λz I Z h=>Den I Z cl gx) (λx9 q=>q) ⟨λx q=>q.2.1.mono x.kle x.zle⟩ ((uK bm af es bI (.inl k2) (v:=cA) (u:=fF)).pre λI Z h q=>⟨q.1,q.2.2⟩) λbJ σ' x9=>(uK bm ae eN bI (.inl eX) (v:=cl) (u:=gx)).pre λI Z h q=>⟨q.2,q.1⟩
   have e:kg [?y19,?y29] [cl,cA] C=some ((C.set ?y29 cA).set ?y19 cl):=by
    refine(?_:some ((C.set ?y19 cl).set ?y29 cA)=_)
    congr 1
    funext aE
    rw[gw,gw,gw,gw]
    by_cases cY:aE=?y19
    ·subst cY;exact ab (cO dB) (ab (df rfl) (ab (df rfl) rfl))
    ·exact ab (cO cY) (ab (cO cY) rfl)
   refine(?_:wpAny _ A (do holding [gx] (bindName ?env9 cC fF);(do holding [] (bindName ?env9 b5 gx);pure ())) _ E _);refine aV (hI (wpAny_bindName ?_))
   have bB:(cg.next,(C.set ?y19 cl).set ?y29 cA)=(cg.next,(C.set ?y29 cA).set ?y19 cl):=by have:some ((C.set ?y19 cl).set ?y29 cA)=some ((C.set ?y29 cA).set ?y19 cl):=e;refine bz _ (a8 this)
   have KH:=st.2 aP A I Z {s with heap:=h'} (λx9 s'=>Q .next s') E aw (aS.eO x) (am.grow ag) (fs (Fr.eO x) uF kZ) λκ' Z' af aR x9 e3 R2 xa kZ=>aC κ' Z' af aR .next ((x.mono λx9 x9 q=>q.elim).trans e3) R2 xa ⟨.next,by
    refine(?_:d7 κ' Z' z ?env9 ((C.set ?y19 cl).set ?y29 cA) af)
    refine ab (show(C.set ?y19 cl).set ?y29 cA=(C.set ?y29 cA).set ?y19 cl from bz Prod.snd bB) ?_;exact kZ⟩
   exact cd KH (λx9 s' h=>aV (hI (wpAny_bindName (cd h (λx9 x9 q=>bQ q) λx9 x9 aE=>aE)))) λx9 x9 aE=>aE
  |[]=>exact .stuck
  |[_]=>exact .stuck
  |_::_::_::_=>exact .stuck
 |_=>exact .stuck)
 rfl
theorem VH(bm:d2 Y J)(bI:ch.Inj)(ae:b5=T.nm cM)(af:cC=T.nm cQ)(eN:cM<T.bV)(es:cQ<T.bV)(eX:J.kindOf b5=some .local)(k2:J.kindOf cC=some .local)(dB:cM≠cQ)(xd:p2.line=p1.line)
  (c4:gc cl=true) (dg:gc cA=true) (p6:foldedForSure 8 cl=false) (qG:constantsAlone 8 cl=false) (aM:bZ P F n Y J e (.Tuple [cl,cA] bF hL)):fp P F n Y J (.unpack [cM,cQ] e) (.Assign [.Tuple [.Name b5 p1, .Name cC p2] k d8] (.Tuple [cl,cA] bF hL) pos):=λC z=>
 (av.dv (O₁:=aG) (t:=bj (eval (.Tuple [cl,cA] bF hL) J)) (f:=λu A Q E st=>wpAny (model prog w) A (unpackItems u [b5,cC].length none) (λitems bE=>wpAny (model prog w) A (assignInOrder ([b5,cC].reverse.map λn=>bindName J n) items.reverse) (λx9=>Q .next) E bE) E st) (λx9 q=>q.elim) cJ (aM C z) λv σ' u=>VG bm bI ae af eN es eX k2 dB v u σ').tree λA st Q E q=>Assign_Tuple_swapped q (EA _) (Vv bm eX k2 xd (λq=>dB (bI cM cQ eN es (by exact bM ae (bM af (ab q rfl))))) c4 dg p6 qG)
theorem KI{E:cc}(h:wpAny (model prog w) A (eval o J) (λbN bE=>wpAny (model prog w) A (setAttr bN a v) Q E bE) E s):wpAny (model prog w) A (assign (.Attribute o a p) J v) Q E s:=by exact aV (hI (cd h (λbN bE c2=>aV (ha (aV (hI (cd c2 (λx9 ej dQ=>wpAny_release dQ) λx9 x9 aE=>aE))))) λx9 x9 aE=>aE))
theorem VI(X:K.In B)(eW:∀c,ju (T.e2 c))(bI:ch.Inj)(as:bZ P F n Y J o b0)(e4:bZ P F n Y J bS jQ)(aL:a<T.bV)(EG:aX<T.bV)(v:V)(u:Value)(z:St):
  av (cI J) (dF J) n Y (λz I Z h=>bk J C z I Z h/\bb z I Z h v u) z (λA Q E st=>wpAny (model prog w) A (assign (.Tuple [.Attribute b0 (T.nm a) p1, .Attribute jQ (T.nm aX) p2] k d8) J u) (λx9=>Q .next) E st) (match v with
   | .tup [cl,cA]=>(az P F o C z).bind λbN z=>(mb bN a cl z).bind λx9 z=>(az P F bS C z).bind λbN z=>(mb bN aX cA z).bind λx9 z=> .ok (.next,C) z
   |_=> .stuck):=by
 cases v with
 |tup l=>
  match l with
  |[cl,cA]=>
   dsimp only
   have kV:∀gx fF,av (cI J) (dF J) n Y (λz I Z h=>bk J C z I Z h/\Den I Z cl gx/\Den I Z cA fF) z (aY.bind (bj (eval b0 J)) λbN=>aY.bind (bj (setAttr bN (T.nm a) gx)) λx9=>aY.bind (bj (eval jQ J)) λbN=>aY.bind (bj (setAttr bN (T.nm aX) fF)) λx9=>aY.ret Flow.next)
     ((az P F o C z).bind λbN z=>(mb bN a cl z).bind λx9 z=>(az P F bS C z).bind λbN z=>(mb bN aX cA z).bind λx9 z=> .ok (.next,C) z):=λgx fF=>by
    have gd:Goes Y aG (λz I Z h=>bk J C z I Z h/\Den I Z cl gx/\Den I Z cA fF) (λz I Z h=>bk J C z I Z h/\Den I Z cl gx/\Den I Z cA fF):=⟨λx q=>(fs (cJ.out x q.1) (q.2.1.mono x.kle x.zle) (q.2.2.mono x.kle x.zle))⟩;refine av.dv (O₁:=aG) (λx9 q=>q.elim) gd ((as C z).pre λx9 x9 x9 q=>q.1) λbN c1 jB=>?_;refine av.dv (O₁:=aG) (D₁:=ut) (Kp:=λz I Z h=>bk J C z I Z h/\Den I Z cl gx/\Den I Z cA fF) (λx9 q=>q.elim) ⟨λx q=>gd.out x q.1⟩ ((zm X eW bI bN cl jB gx a aL).pre λx9 x9 x9 q=>⟨q.2,q.1.2.1⟩) λx9 ef x9=>?_;refine av.dv (O₁:=aG) (λx9 q=>q.elim) (D₁:=bb) (Kp:=λz I Z h=>bk J C z I Z h/\Den I Z cl gx/\Den I Z cA fF) ⟨λx q=>gd.out x q.1⟩ ((e4 C ef).pre λx9 x9 x9 q=>q.1.1) λzT oa VJ=>?_;exact w7 (⟨λx q=>q.1.1.eO x⟩) ((zm X eW bI zT cA VJ fF aX EG).pre λx9 x9 x9 q=>⟨q.2,q.1.2.2⟩)
   have VK:∀ev,av (cI J) (dF J) n Y (λz I Z h=>bk J C z I Z h/\bn I Z [cl,cA] ev) z (λA Q E st=>wpAny (model prog w) A (assignInOrder ((assignEach [.Attribute b0 (T.nm a) p1, .Attribute jQ (T.nm aX) p2] J).map (·.2)) ev) (λx9=>Q .next) E st)
     ((az P F o C z).bind λbN z=>(mb bN a cl z).bind λx9 z=>(az P F bS C z).bind λbN z=>(mb bN aX cA z).bind λx9 z=> .ok (.next,C) z):=λev=>by
    match ev with
    |[gx,fF]=>refine((kV gx fF).pre λI Z h q=>⟨q.1,by cases q.2 with|cons d t=>cases t with|cons kZ be=>exact⟨d,kZ⟩⟩).tree λA s Q E q=>?_;refine(?_:wpAny _ A (do holding [fF] (assign (.Attribute b0 (T.nm a) p1) J gx);(do holding [] (assign (.Attribute jQ (T.nm aX) p2) J fF);pure ())) _ E s);refine aV (hI (KI (cd q (λbN bE c2=>cd c2 (λx9 ej dQ=>aV (hI (KI (cd dQ (λzT lF kX=>cd kX (λx9 mx n5=>bQ n5) λx9 x9 aE=>aE) λx9 x9 aE=>aE)))) λx9 x9 aE=>aE) λx9 x9 aE=>aE)))
    |[]=>exact av.never (kV .none .none) λI Z h q=>by cases q.2
    |[_]=>exact av.never (kV .none .none) λI Z h q=>by cases q.2 with|cons be t=>cases t
    |_::_::_::_=>exact av.never (kV .none .none) λI Z h q=>by cases q.2 with|cons be t=>cases t with|cons be t=>cases t
   --rn tuple is taken apart
   have iI:∀(r:Res (cg×aK)),(∀ev,av (cI J) (dF J) n Y (λz I Z h=>bk J C z I Z h/\bn I Z [cl,cA] ev) z (λA Q E st=>wpAny (model prog w) A (assignInOrder ((assignEach [.Attribute b0 (T.nm a) p1, .Attribute jQ (T.nm aX) p2] J).map (·.2)) ev) (λx9=>Q .next) E st) r)->
     av (cI J) (dF J) n Y (λz I Z h=>bk J C z I Z h/\bb z I Z h (.tup [cl,cA]) u) z (λA Q E st=>wpAny (model prog w) A (assign (.Tuple [.Attribute b0 (T.nm a) p1, .Attribute jQ (T.nm aX) p2] k d8) J u) (λx9=>Q .next) E st) r:=λr lB=>by
    have start:∀(A:Around)(I:bX)(Z:bY)(s:Shared)(Q:Flow->Shared->Prop)(E:cc),A.handled=none->bu I Z z s.heap->Den I Z (.tup [cl,cA]) u->(∀ev h',bn I Z [cl,cA] ev->(∀b o,s.heap.get? b=some o->h'.get? b=some o)->s.heap.objs.size<=h'.objs.size->
      wpAny (model prog w) A (assignInOrder ((assignEach [.Attribute b0 (T.nm a) p1, .Attribute jQ (T.nm aX) p2] J).map (·.2)) ev) (λx9=>Q .next) E {s with heap:=h'})->wpAny (model prog w) A (assign (.Tuple [.Attribute b0 (T.nm a) p1, .Attribute jQ (T.nm aX) p2] k d8) J u) (λx9=>Q .next) E s:=by
     intro A I Z s Q E hm am d ag
     cases d with| @tup be c vs hz ak=>
     have aB:=am.frz _ _ _ hz;have eh:=ak.length;refine aV (ha ?_);unfold unpack;refine ab (rfl:(assignEach [.Attribute b0 (T.nm a) p1, .Attribute jQ (T.nm aX) p2] J).findIdx? (·.1)=none) (ab (show(assignEach [.Attribute b0 (T.nm a) p1, .Attribute jQ (T.nm aX) p2] J).length=vs.toArray.size by refine ab List.size_toArray (bM eh ?_);rfl) ?_);exact aV (hI (lD (wpAny_unpackItems_tuple hm aB.uy λh' aM kv=>ag vs h' ak (λb o e=>aM b o (Nat.ne_of_lt (ft e)) e) kv)))
    cases r with
    |stuck=>trivial
    |exc σ'=>exact⟨(lB []).1,λaP A I Z s Q E aw aS am aj dt=>start A I Z s Q E aw.handled am aj.2 λev h' d ag kv=>by
      have x:cw Y aG I Z z s.heap I Z z h':=(ee.grow ag kv).fN
      exact(lB ev).2 aP A I Z {s with heap:=h'} Q E aw (aS.eO x) (am.grow ag) ⟨d7.eO aj.1 x,d⟩ λaf aR e U=>dt af aR e (U.back (x.mono λx9 x9 q=>q.elim))⟩
    |ok b σ'=>exact⟨(lB []).1,λaP A I Z s Q E aw aS am aj aC=>start A I Z s Q E aw.handled am aj.2 λev h' d ag kv=>by
      have x:cw Y aG I Z z s.heap I Z z h':=(ee.grow ag kv).fN
      exact(lB ev).2 aP A I Z {s with heap:=h'} Q E aw (aS.eO x) (am.grow ag) ⟨d7.eO aj.1 x,d⟩ λκ' Z' af aR a e3 R2 xa kZ=>aC κ' Z' af aR a ((x.mono λx9 x9 q=>q.elim).trans e3) R2 xa kZ⟩
   exact iI _ VK
  |[]=>exact .stuck
  |[_]=>exact .stuck
  |_::_::_::_=>exact .stuck
 |_=>exact .stuck
theorem VL(bm:d2 Y J)(X:K.In B)(eW:∀c,ju (T.e2 c))(bI:ch.Inj)(as:bZ P F n Y J o b0)(e4:bZ P F n Y J bS jQ)(ae:b5=T.nm a)(af:cC=T.nm aX)(aL:a<T.bV)(EG:aX<T.bV)
  (c4:gc cl=true) (dg:gc cA=true) (aM:bZ P F n Y J e (.Tuple [cl,cA] bF hL)):fp P F n Y J (.tO o a bS aX e) (.Assign [.Tuple [.Attribute b0 b5 p1, .Attribute jQ cC p2] k d8] (.Tuple [cl,cA] bF hL) pos):=by
 subst ae af;exactλC z=>(av.dv (O₁:=aG) (t:=bj (eval (.Tuple [cl,cA] bF hL) J)) (f:=λu A Q E st=>wpAny (model prog w) A (assign (.Tuple [.Attribute b0 (T.nm a) p1, .Attribute jQ (T.nm aX) p2] k d8) J u) (λx9=>Q .next) E st) (λx9 q=>q.elim) cJ (aM C z) λv σ' u=>VI X eW bI as e4 aL EG v u σ').tree λA st Q E q=>Assign_Tuple q (EA _) (Vw bm c4 dg)
end
noncomputable abbrev KJ:=PySem.F.excBase_Exception
abbrev py(M:Model)(h:Heap):Prop:=(∃kl ds eb ed,h.get? b6=some ⟨kl,ds, .cls eb,ed⟩/\eb.abstract=false/\eb.hasDel=false/\eb.mro.isEmpty=false)/\(Looks M h (Bind.madeBy (.ref b6)) (some "Exception.__new__"))/\(Looks M h (Bind.staticBase (.ref b6)) (.ref b6))/\(Looks M h (isSubtype (.ref b6) (.ref b6)) true)/\(Looks M h (isSubtype (.ref b6) (.type "Exception")) true)/\(Looks M h (isSubtype (.ref b6) (.type "BaseException")) true)/\(Looks M h (isSubtype (.ref b6) (.type "AttributeError")) false)/\(Looks M h (isSubtype (.ref b6) (.type "NameError")) false)/\(Looks M h (specialOf (.ref b6) "__call__") (some (.builtin "type.__call__")))/\(Looks M h (isInstance (.ref b6) (.type "type")) true)
section
variable(x:py a b)
def py.obj:=x.1
def py.self:=x.2.2.2.1
def py.exc:=x.2.2.2.2.1
def py.top:=x.2.2.2.2.2.1
end
theorem b1:∀{b:Bool},(!b)=true->b=false
 |false,_=>rfl
set_option tactic.hygienic true in
theorem z1(X:K.In h)(e:CH K b6=true):py M h:=by
 refine nh (G:=λx=>K.lookup b6=x->py M h) e (λo e as=>?_) rfl;obtain⟨kl,ds,ja,ed⟩:=o
 cases ja with
 |cls eb=>
 refine BQ e λbd bB fz hU lK sH EH xe e9 xf xg=>?_;replace bd:=b1 bd;replace bB:=b1 bB;replace fz:=eq_of_beq fz;replace hU:=b1 hU;replace xe:=b1 xe;replace e9:=b1 e9;replace xf:=eq_of_beq xf;replace xg:=eq_of_beq xg;have aB:clsIn K b6=some eb:=by unfold clsIn;rw[as]
 have aJ:Looks M h (mroOf (.ref b6)) eb.mro:=(looks_clsIn X aB).andThen .now;obtain⟨c,l,ak⟩:∃c l,eb.mro=c::l:=by cases q:eb.mro with|nil=>rw[q]at hU;cases hU|cons c l=>exact⟨c,l,rfl⟩
 have made:Looks M h (Bind.madeBy (.ref b6)) (some "Exception.__new__"):=by intro A Q E s k q;dsimp only[Bind.madeBy];refine aV (aJ A _ E s k ?_);rw[ak,List.forIn_cons];refine aV (aV (aV (aV (wpAny_loadPart (k _ _ (X _ _ as)) (bQ ?_)))));dsimp only;rw[<-Array.getElem?_toList,fz];exact bQ (bQ (bQ q))
 have sub:∀{b:Value}{r:Bool},eb.mro.contains b=r->Looks M h (isSubtype (.ref b6) b) r:=λ{b r}q=>looks_mroIn X (by unfold mroIn;rw[aB,Option.bind_some,if_neg (by rw[hU];decide),q]);refine⟨⟨kl,ds,eb,ed,X _ _ as,bd,bB,hU⟩,made,?_,sub lK,sub sH,sub EH,sub xe,sub e9,looks_specialIn X xf,looks_instIn X xg⟩;intro A Q E s k q;unfold Bind.staticBase;refine aV (aJ A _ E s k ?_);rw[ak,List.forIn_cons];exact aV (aV (aV (made A _ E s k (bQ (bQ (bQ q))))))
 |_=>exact b3 e
noncomputable abbrev pz(bU:List Value):Obj:={cls:= .type "tuple",data:= .seq bU.toArray}
abbrev ji(t:Addr):Obj:={cls:= .ref b6,data:= .fields #[.ref t, .none, .none, .none, .bool false, .none]}
section
variable{A:Around}{R:Result->Shared->Prop}{h:Heap}{g:Array GenState}{d:Drawn}{t:Nat}{os:OsState}
theorem VM(je:py (model prog w) h)(uO:bU.length<=sizeLine)
  (cX:R (.ok (.ret (.ref (h.objs.size+1)))) ⟨(h.push (pz bU)).push (ji h.objs.size),g,d,t,os⟩):
  codeAny (model prog w) A (.call (.builtin "Exception.__new__") ⟨.ref b6::bU,[]⟩) R ⟨h,g,d,t,os⟩:=by
 revert je uO cX;revert A R h g d t os bU;refine@(v5 m2 ne ne ne P1 ne ne ne ?A9 ?R9 ?h9 ?g9 ?d9 ?t9 ?os9 ?rest9 ?_ ?_)
 rotate_left 8
 intro je uO cX;refine BK je ?_;try clear je;rintro⟨kl,ds,eb,ed,eW,bd,bB,hU⟩ made base self exc top VN VO call KL;have F:=KJ;have aek:=F.ends;have ael:=F.noStar;refine codeAny_call_builtin_code (Code.quiet_builtin _ F.quiet) ?_;unfold checkBuiltinCall;rw[F.newKind,F.newSplit,F.newRow];dsimp only;have here:Looks (model prog w) ?h9 (Bind.madeHere "Exception.__new__" (.ref b6)) ():=base.andThen (made.andThen (Looks.of_pure (by simp only[Option.map_some,bne_self_eq_false,Bool.false_eq_true,if_false])));have args:Bind.checkArgs "Exception.__new__" ⟨.any,"Exception","Exception", .cls,[⟨"args", .varPos,false⟩,⟨"kwargs", .varKw,false⟩]⟩ ⟨.ref b6::?rest9,[]⟩=pure ():=by kernel_rfl
 repeat(first|simp only[bne_self_eq_false,Bool.false_eq_true,if_false]|rw[args]|lk)
 refine codeAny_builtinAt F.entry ?_;unfold Builtin.«BaseException.__new__»;refine PySem.wpAt_bind ?_
 show PySem.wpAt _ _ _ (stack>>=_) _ _ _
 refine PySem.wpAt_bind (PySem.wpAt_stack λp below=>PySem.wpAt_of_wpAny ?_)
 wp_walk
 refine PySem.wpAt_of_wpAny ?_;rw[F.owner];have aem:Looks (model prog w) ?h9 (Bind.madeHere "BaseException.__new__" (.ref b6)) ():=base.andThen (made.andThen (Looks.of_pure (by simp only[Option.map_some,F.canon,bne_self_eq_false,Bool.false_eq_true,if_false])))
 repeat(first|lk|with_reducible refine Looks.at (by assumption) ?_|wp_step)
 have VP:=Heap.get?_push_of_some {cls:= .ref b6,data:= .fields (#[Value.ref (?h9).objs.size,Value.none,Value.none,Value.none,Value.bool false,Value.none]++(List.replicate 0 (rawInt 0)).toArray)} (Heap.get?_push_of_some (pz ?rest9) eW);refine nd_load VP (bQ ?_);dsimp only;rw[bB];refine bQ (bQ (bQ ?_))
 show ?R9 _ _
 rw[Heap.size_push];exact cX;rfl
theorem VQ{init:Value}(je:py (model prog w) h)(aW:Looks (model prog w) h (typeLookup (.ref b6) "__init__") (some init))(ai:∀self,Looks (model prog w) h (bindSpecial init self) (init,[self]))(uO:bU.length<=sizeLine)
  (cX:codeAny (model prog w) (A.under (.builtin "type.__call__" ⟨.ref b6::bU,[]⟩)) (.call init ⟨.ref (h.objs.size+1)::bU,[]⟩) (InitBack (h.objs.size+1) R) ⟨(h.push (pz bU)).push (ji h.objs.size),g,d,t,os⟩):
  codeAny (model prog w) A (.call (.ref b6) ⟨bU,[]⟩) R ⟨h,g,d,t,os⟩:=by
 revert R d t os bU init je aW ai uO cX;revert A h g;refine@(v4 m2 ne ne ?A9 ?h9 ?g9 ?_ ?_)
 rotate_left 3
 intro R d t os bU init je aW ai uO cX;have VR:=je;refine BK je ?_;try clear je;rintro⟨kl,ds,eb,ed,eW,bd,bB,hU⟩ made base self exc top VN VO call KL;refine codeAny_of_tree ?_
 show wpAny _ _ (callAny (.ref b6) _) _ _ _
 refine nd_load eW ?_
 show wpAny _ _ (callAny.viaDunder (.ref b6) _) _ _ _
 dsimp only[callAny.viaDunder];refine aV (call.at ?_);dsimp only;rw[tc_bind];refine aV (bQ (aV (bQ ?_)));refine bQ (a:=Fin.again (.call (.builtin "type.__call__") ⟨.ref b6::bU,[]⟩)) (And.intro rfl ?_);refine codeAny_call_builtin_at (Code.quiet_builtin _ (by decide+kernel)) entry_typeCall (check_slot tc_kind tc_split KL (tc_args _ _ _) ?_);unfold Builtin.«type.__call__»;have aJ:Looks (model prog w) ?h9 (mroOf (.ref b6)) eb.mro:=((Looks.ld (part:=none) eW).andThen .now).andThen .now
 repeat(first|simp only[hU,Bool.false_eq_true,if_false]|with_reducible refine wpAny_call ?_|lk)
 refine VM VR uO ?_;have k:∀b o,(?h9).get? b=some o->(((?h9).push (pz bU)).push (ji (?h9).objs.size)).get? b=some o:=λb o e=>Heap.get?_push_of_some _ (Heap.get?_push_of_some _ e);have aQ:(((?h9).push (pz bU)).push (ji (?h9).objs.size)).get? ((?h9).objs.size+1)=some (ji (?h9).objs.size):=by heap_get
 have t1:Looks (model prog w) (((?h9).push (pz bU)).push (ji (?h9).objs.size)) (typeOf (.ref ((?h9).objs.size+1))) (.ref b6):=(Looks.ld aQ).andThen .now;have b5:=self.keeps k;have gi:=aW.keeps k;have jg:=(ai (.ref ((?h9).objs.size+1))).keeps k;unfold isInstance callSpecial? specialOf
 repeat(first|with_reducible refine wpAny_call ?_|lk)
 refine codeAny_mono cX λr s' aE=>?_
 rcases r with e|(v|_|_|_)<;>first|exact aE|exact aE.elim|skip
 refine bC aE ?_;try clear aE;rintro rfl aE;exact bQ (bQ aE);rfl
end
section
open Builtin Builtin.ObjectAttr
structure nq(H:Heap)(x:Addr)(ns:List Str)(h:Heap):Prop where
 k5:H.StaysIn h
 new:H.get? x=none
 dc:∃b0 aH,h.get? x=some b0/\b0.cls= .ref b6/\b0.data= .fields #[aH, .none, .none, .none, .bool false, .none]/\((b0.dict=none/\ns=[])\/∃d uP,b0.dict=some d/\d≠x/\H.get? d=none/\h.Ns1 d uP/\Within uP ns)
abbrev lL(D:Addr):Prop:=(CH K b6=true)/\(findIn K (.ref b6) "__setattr__"=some (some (.builtin "object.__setattr__")))/\((clsIn K b6).any (λeb=>eb.hasDict&&CI b6 D eb.mro)=true)/\(takerIn K b6 "text"=some none)/\(takerIn K b6 "line"=some none)/\(typeIn K (.ref b6)=some (.type "type"))
section
variable(x:lL a)
def lL.uf:=x.1
def lL.v2:=x.2.1
def lL.mro:=x.2.2.1
def lL.CK:=x.2.2.2.1
def lL.noL:=x.2.2.2.2.1
def lL.yU:=x.2.2.2.2.2
end
section
variable{A:Around}{E:cc}{D x:Addr}{R:Result->Shared->Prop}{s:Shared}{H:Heap}{ns:List Str}
theorem KN(jz:lL D)(X:K.In s.heap){v:Value}(bH:takerIn K b6 name=some none)(S:nq H x ns s.heap)(cW:ns.length<=100){Q:Unit->Shared->Prop}
  (h:∀h' aR,nq H x (name::ns) h'->Q () {s with heap:=h',toks:=aR}):wpAny (model prog w) A (setAttr (.ref x) name v) Q E s:=by
 revert ns jz X bH S cW Q h;revert A E D x s H name v;refine@(v5 m2 ne ne ne ug ne ne ne ?A9 ?E9 ?D9 ?x9 ?s9 ?H9 ?name9 ?v9 ?_ ?_)
 rotate_left 8
 intro ns jz X bH S cW Q h;have uQ:=PySem.F.store_Exception;refine fk S.dc ?_;intro b0 aH aQ hj qE aN
 obtain⟨ds,gh⟩:∃ds,InstAt (?s9).heap ?x9 b0 b6 ds:=by
  refine Or.elim aN (λcz=>?_) λcz=>?_
  ·(refine bC cz ?_;try clear cz;intro aN x9);exact⟨none,aQ,hj,by unfold notCls;exact ab qE rfl,by refine ab aN ?_;trivial⟩
  ·(refine h4 cz ?_;try clear cz;rintro d uP aN _ _ ⟨o,_,_,as,_⟩ _);exact⟨some o,aQ,hj,by unfold notCls;exact ab qE rfl,by refine ab aN ?_;exact as⟩
 have aU:=gh;refine a4 (any_some jz.mro) ?_;intro eb aB cX;rw[Bool.and_eq_true]at cX;refine bC cX ?_;try clear cX;intro VS aJ;have EI:eb.mro=[.ref b6, .ref ?D9, .type "Exception", .type "BaseException", .type "object"]:=by simpa[CI]using aJ
 refine set_plain X aU jz.v2 ?_;have sub:Looks (model prog w) ({?s9 with toks:=(?s9).toks+1}:Shared).heap (isInstance (.ref ?x9) (.type "object")) true:=aU.type.andThen (looks_mroIn X (by unfold mroIn;rw[aB,Option.bind_some,if_neg (by refine ab EI ?_;exact Bool.false_ne_true),EI];rfl));refine codeAny_call_builtin uQ.slot.plain uQ.entry (@check_slot (model prog w) _ _ {?s9 with toks:=(?s9).toks+1} "object.__setattr__" "object" "__setattr__" (.ref ?x9) [.str ?name9 (?s9).toks,?v9] [] _ uQ.kind uQ.split sub (uQ.args (.ref ?x9) (.str ?name9 (?s9).toks) ?v9) ?_);refine a4 (Option.bind_eq_some_iff.mp bH) ?_;intro au aL aw
 have CL:Looks (model prog w) (?s9).heap (storeTaker? au) none:=by
  cases au with
  |none=>exact .now
  |some a=>
   refine a4 (Option.map_eq_some_iff.mp aw) ?_;intro b ai aw;refine(looks_takesIn X ai).andThen ?_
   cases b with
   |true=>exact sn aw
   |false=>exact .now
 rw[osa_eq,refuse_eq];refine aV (aV ((show Looks _ ({?s9 with toks:=(?s9).toks+1}:Shared).heap _ _ from aU.type).here (aV ((show Looks _ ({?s9 with toks:=(?s9).toks+1}:Shared).heap _ _ from((looks_clsIn X aB).andThen .now:Looks (model prog w) (?s9).heap (mroOf (.ref b6)) eb.mro)).here ?_))));rw[EI,refuseLoop_ref,refuseLoop_ref,uQ.passes];refine bQ (aV ((show Looks _ ({?s9 with toks:=(?s9).toks+1}:Shared).heap _ _ from aU.type).here (aV ((show Looks _ ({?s9 with toks:=(?s9).toks+1}:Shared).heap _ _ from looks_findIn X aL).here (aV ((show Looks _ ({?s9 with toks:=(?s9).toks+1}:Shared).heap _ _ from CL).here ?_))))));refine aV (bQ ?_);refine aV (aV (wpAny_loadPart aQ ?_));refine ab hj ?_;dsimp only;refine aV ((looks_clsIn X aB) _ _ _ {?s9 with toks:=(?s9).toks+1} (λx9 x9 e=>e) ?_);refine ab VS ?_;refine Or.elim aN (λcz=>?_) λcz=>?_
 ·(refine bC cz ?_;try clear cz;rintro VT rfl);refine ab VT ?_
  dsimp only;refine ab (cO (by simp)) (ab qE ?_);have uR:((?s9).heap.push emptyDict).get? ?x9=some b0:=Heap.get?_push_of_some _ aQ;have xh:?x9≠(?s9).heap.objs.size:=Nat.ne_of_lt (ft aQ);refine aV (wpAny_alloc' ?_);refine aV (wpAny_update' uR ?_);refine bQ ?_
  have VU:(((?s9).heap.push emptyDict).update ?x9 λo=>{cls:=o.cls,dict:=some (?s9).heap.objs.size,data:=o.data,slots:=o.slots}).get? (?s9).heap.objs.size=some emptyDict:=
   (Heap.get?_update_ne _ _ _ _ xh.symm).trans (Heap.get?_push_at rfl rfl)
  have ij:(((?s9).heap.push emptyDict).update ?x9 λo=>{cls:=o.cls,dict:=some (?s9).heap.objs.size,data:=o.data,slots:=o.slots}).Ns (?s9).heap.objs.size (λx9=>none):=
   ⟨_, #[],_,VU,rfl,λe aM=>bf aM (by simp),λx9=>rfl⟩
  refine(?_:wpAny _ _ (storeInDict (?s9).heap.objs.size (.str ?name9 (?s9).toks) ?name9 ?v9) _ _ _);refine aV (bQ (aV (wpAny_nsSet1 (Heap.Ns1.of_empty ij) λh' n4 ar=>?_)));refine eB (n4.count (Within.cons ?name9 ?v9 Within.nil)) ?_;intro VV VW VX EJ EK EL;refine aV (wpAny_lookBehind EJ (by rw[EK];exact pastItsLine_dict (ct EL (by refine ab List.length_cons (ab List.length_nil (ab gG ?_));lia))) ?_);refine bQ (h h' _ ?_)
  have KO:h'.get? ?x9=some {cls:=b0.cls,dict:=some (?s9).heap.objs.size,data:=b0.data,slots:=b0.slots}:=by
   refine(ar.2 ?x9 xh).trans (Heap.get?_update_self _ uR ?_)
   show Obj.isFreed {cls:=b0.cls,dict:=some (?s9).heap.objs.size,data:=b0.data,slots:=b0.slots}=false
   refine ab qE ?_;rfl
  have keep:∀b o,b≠?x9->(?s9).heap.get? b=some o->h'.get? b=some o:=λb o ai e=>(ar.2 b (Nat.ne_of_lt (ft e))).trans ((Heap.get?_update_ne _ _ _ _ ai).trans (Heap.get?_push_of_some _ e))
  have VY:(?H9).get? (?s9).heap.objs.size=none:=by
   cases e:(?H9).get? (?s9).heap.objs.size with
   |none=>rfl
   |some o=>exact bf (ft (S.k5 _ _ e)) (e0 _)
  exact⟨λb o e=>keep b o (λq=>by rw[q,S.new]at e;exact ns e) (S.k5 b o e),S.new,_,aH,KO,hj,qE, .inr ⟨(?s9).heap.objs.size,_,rfl,xh.symm,VY,n4,Within.cons ?name9 ?v9 Within.nil⟩⟩
 ·(refine h4 cz ?_;try clear cz;intro kU uP KP dB KQ cp hw);refine ab KP ?_
  refine bQ ?_;refine(?_:wpAny _ _ (storeInDict kU (.str ?name9 (?s9).toks) ?name9 ?v9) _ _ _);refine aV (bQ (aV (wpAny_nsSet1 cp λh' n4 ar=>?_)));refine eB (n4.count (Within.cons ?name9 ?v9 hw)) ?_;intro VV VW VX EJ EK EL;refine aV (wpAny_lookBehind EJ (by rw[EK];exact pastItsLine_dict (ct EL (by refine ab List.length_cons (ab gG ?_);lia))) ?_);refine bQ (h h' _ ⟨λb o e=>(ar.2 b λq=>by rw[q,KQ]at e;injection e).trans (S.k5 b o e),S.new,b0,aH,(ar.2 ?x9 dB.symm).trans aQ,hj,qE, .inr (nM kU _ KP dB KQ n4 (Within.cons ?name9 ?v9 hw))⟩)
 rfl
end
end
section
open Builtin Builtin.ObjectAttr
noncomputable abbrev j1(a:Addr)(o:Obj)(aF:FuncData)(body:List Stmt)(params:List Str):Prop:=(B.get? a=some o)/\(o.data= .func aF)/\(B.CodeRec aF.code aF.qualname)/\(aF.body= .stmts body)/\(aF.closure=[])/\(aF.globals=mainGlobals)/\(aF.builtins=builtinsNs)/\(aF.scope.kind= .function)/\(aF.scope.isCoroutine=false)/\(aF.scope.isGenerator=false)/\(∀ay:List Value,ay.length=params.length->bindArgs aF ⟨ay,[]⟩=pure (params.zip ay))/\(∀x∈params,aF.scope.names.lookup x=some .local)/\(params.Nodup)
section
variable(x:j1 a b c d e)
def j1.get:=x.1
def j1.data:=x.2.1
def j1.code:=x.2.2.1
def j1.stmts:=x.2.2.2.1
def j1.uH:=x.2.2.2.2.1
def j1.glob:=x.2.2.2.2.2.1
def j1.blt:=x.2.2.2.2.2.2.1
def j1.kind:=x.2.2.2.2.2.2.2.1
def j1.co:=x.2.2.2.2.2.2.2.2.1
def j1.gen:=x.2.2.2.2.2.2.2.2.2.1
def j1.bind:=x.2.2.2.2.2.2.2.2.2.2.1
def j1.aa:=x.2.2.2.2.2.2.2.2.2.2.2.1
def j1.nodup:=x.2.2.2.2.2.2.2.2.2.2.2.2
end
section
variable{A:Around}{E:cc}{s:Shared}
theorem KR{a:Addr}{o:Obj}{aF:FuncData}{body:List Stmt}{params:List Str}{R:Result->Shared->Prop}(F:j1 a o aF body params)(lim:B.NoLimit)(fx:B.StaysIn s.heap)(uJ:A.depth<recursionLimit)(ay:List Value)(eh:ay.length=params.length)
  (h:∀(bO:Heap)(jA:Nat)(m:Str->Option Value),(∀b o,s.heap.get? b=some o->bO.get? b=some o)->bO.Ns s.heap.objs.size m->(∀(i:Nat)(x:Str)(v:Value),params[i]?=some x->ay[i]?=some v->m x=some v)->
   wpAny (model prog w) (A.deeper (callEnvC aF s.heap.objs.size a)) (execs body (callEnvC aF s.heap.objs.size a)) (λcs s'=>R (.ok (.ret (match cs with| .ret v=>v|_=> .none))) s') (λx9 x9=>False) {s with heap:=bO,toks:=jA}):
  codeAny (model prog w) A (.call (.ref a) ⟨ay,[]⟩) R s:=by
 refine codeAny_call_cells uJ (fx _ _ F.get) F.data (lim.keeps fx) (F.code.keeps fx) F.stmts (F.bind ay eh) F.uH (λx aQ=> .inl (F.aa x.1 (List.of_mem_zip aQ).1)) (λcr iN=>?_) F.co F.gen F.kind;have cp:=iN.toInCall.ns;have w1:=iN.toInCall.keep;refine kG iN.toInCall.same ?_;rintro bO jA rfl;refine cd (h bO jA _ w1 cp λi x v ae af=>Eg _ _ _ i _ _ F.nodup ae af (F.aa x (List.mem_of_getElem? ae))) (λx9 x9 q=>q) λx9 x9 q=>q.elim
theorem KS{J:Env}{o:Expr}{name:Str}{mo pos:Pos}{xs:List Expr}{Q:cc}(ai:attributeBase o name J (eval o J)=eval o J)(C4:methodCallForm (xs.length+([]:List Keyword).length) (backTo pos (starEach xs J)) (backToKw pos (keywordEach [] J))=true)(mn:(mo.endLine==pos.line)=true)
  (h:wpAny (model prog w) A (eval o J) (λbN cr=>∀mv,wpAny (model prog w) A (getMethod bN name mv) (λp bE=>wpAny (model prog w) A (callWith pos p.1 p.2 (backTo pos (starEach xs J)) []) Q E bE) E cr) E s):
  wpAny (model prog w) A (eval (.Call (.Attribute o name mo) xs [] pos) J) Q E s:=by
 rw[arm_eval_Call,ai];refine aV (cd h (λbN cr bO=>?_) λx9 x9 e=>e);refine aV (ha ?_);have VZ:methodCallPos true o J mo pos=pure pos:=by unfold methodCallPos;simp[mn]
 dsimp only[methodCall];rw[C4];refine aV (hI (cd (bO _) (λp bE c2=>?_) λx9 x9 e=>e));obtain⟨f,first⟩:=p;exact aV (wpAny_of_eq VZ c2)
noncomputable def KU(cls y aE:Str)(bU:List Expr)(p1 gH ly lz ap kh ep pos:Pos):List Stmt:=
 [.Expr (.Call (.Attribute (.Name cls p1) "__init__" ap) bU [] kh) ep, .Assign [.Attribute (.Name "self" gH) y ly] (.Name aE lz) pos]
variable{D x:Addr}{H:Heap}
theorem uS{J:Env}{L:Addr}{m:Str->Option Value}{y:Str}{p:Pos}{v:Value}{Q:cc}(ag:J.scope.kind= .function)(ak:J.kindOf y=some .local)(bl:J.locals=L)(aq:s.heap.Ns L m)(aJ:m y=some v)(aN:(y==("__debug__":Str))=false)(h:Q v s):wpAny (model prog w) A (eval (.Name y p) J) Q E s:=
 wpAny_Name (wpAny_loadName_local ag ak (bl▸aq) aJ h) aN
theorem KV{J:Env}{L:Addr}{m:Str->Option Value}{a b:Value}{p2 fY kh:Pos}{Q:List Value->Shared->Prop}(ag:J.scope.kind= .function)(ae:J.kindOf "self"=some .local)(af:J.kindOf "text"=some .local)(bl:J.locals=L)(aq:s.heap.Ns L m)(V0:m "self"=some a)(V1:m "text"=some b)(h:Q [a,b] s):
  wpAny (model prog w) A (spliced (backTo kh (starEach [.Name "self" p2, .Name "text" fY] J))) Q E s:=by
 show wpAny _ A (spliced [(false,eval (.Name "self" p2) J),(false,eval (.Name "text" fY) J)]) Q E s
 exact Calls.spliced_cons (uS ag ae bl aq V0 (by decide) (Calls.spliced_cons (uS ag af bl aq V1 (by decide) (Calls.spliced_nil h))))
theorem nq.weaken{H EM:Heap}{ns:List Str}{h:Heap}(S:nq EM x ns h)(k:∀b o,H.get? b=some o->EM.get? b=some o):nq H x ns h:=by
 have KW:∀b,EM.get? b=none->H.get? b=none:=λb e=>by
  cases q:H.get? b with
  |none=>rfl
  |some o=>rw[k b o q]at e;cases e
 exact⟨λb o e=>S.k5 b o (k b o e),KW _ S.new,fk S.dc λb0 aH ae af ax a0=>⟨b0,aH,ae,af,ax,a0.imp id λdz=>fk dz λd uP gd fm k1 qH=>⟨d,uP,gd,fm,KW _ k1,qH⟩⟩⟩
theorem nq.start{H:Heap}{t0:Addr}{h:Heap}(ar:H.StaysIn h)(aq:H.get? x=none)(aQ:h.get? x=some (ji t0)):nq H x [] h:=⟨ar,aq,_,_,aQ,rfl,rfl, .inl ⟨rfl,rfl⟩⟩
theorem V2:specialOf (.type "Exception") "__getattribute__"=pure (some (.builtin "type.__getattribute__")):=by
 show typeLookup (.type "type") _=_
 rw[typeLookup_type,builtinLookup_eq_fast];kernel_rfl
abbrev pA:Prop:=(findIn K (.type "type") "__getattribute__"=some (some (.builtin "type.__getattribute__")))/\(subIn K (.type "type") (.type "type")=some true)/\(findCls K (.type "Exception") (.type "type") "__init__"=some (.val (.builtin "Exception.__init__")))
def pA.ga(x:pA):=x.1
def pA.sub(x:pA):=x.2.1
def pA.found(x:pA):=x.2.2
theorem V3(EN:pA)(X:K.In s.heap){mv:Sem Bool}{Q:Value×List Value->Shared->Prop}(h:∀aR,Q (.builtin "Exception.__init__",[]) {s with toks:=aR}):wpAny (model prog w) A (getMethod (.type "Exception") "__init__" mv) Q E s:=by
 dsimp only[getMethod];rw[V2];refine aV (bQ ?_);dsimp only;rw[if_pos canon_tga];refine aV (cd (cls_open (hook:=none) (Q:=λv s'=>Q (v,[]) s') X (Looks.of_pure (by kernel_rfl)) (Looks.of_pure (by kernel_rfl)) EN.ga (looks_hook X (by kernel_rfl)) EN.sub EN.found (bQ ?_)) (λv s' q=>bQ q) λx9 x9 aE=>aE)
 show wpAny _ _ (handedOut _) _ _ _
 rw[handedOut_of rfl];exact bQ (h _)
theorem V4(jz:lL D)(X:K.In s.heap){t0:Addr}{u:Value}(aQ:s.heap.get? x=some (ji t0)){Q:cc}(h:∀h' t1,h'.get? x=some (ji t1)->(∀b o,b≠x->s.heap.get? b=some o->h'.get? b=some o)->Q .none {s with heap:=h'}):
  wpAny (model prog w) A (call (.builtin "Exception.__init__") [.ref x,u]) Q E s:=by
 revert s D jz X aQ h;revert A E x t0 u Q;refine@(rV m2 ne ne ne ne ne ?A9 ?E9 ?x9 ?t09 ?u9 ?Q9 ?_ ?_)
 rotate_left 6
 intro s D jz X aQ h;have F:=KJ;obtain⟨aj,g,d,aR,os⟩:=s;have z2:Looks (model prog w) aj (typeOf (.ref ?x9)) (.ref b6):=(Looks.ld aQ).andThen .now;have R:=z1 (M:=model prog w) X jz.uf
 have V5:∀{A:Around}{E:cc}{Q:Unit->Shared->Prop},Q () ⟨aj,g,d,aR,os⟩->wpAny (model prog w) A (checkBuiltinCall "Exception.__init__" ⟨[.ref ?x9,?u9],[]⟩) Q E ⟨aj,g,d,aR,os⟩:=by
  intro A E Q cX;have aen:=F.noStar;have gi:Looks (model prog w) aj (isInstance (.ref ?x9) (.type "Exception")) true:=z2.andThen R.exc;have KO:aj.get? ?x9=some (ji ?t09):=aQ;unfold checkBuiltinCall;rw[F.initKind,F.initSplit,F.initRow];dsimp only;refine tI R.obj ?_;intro kl ds eb ed eW x9;have aeo:aj.get? b6=some ⟨kl,ds, .cls eb,ed⟩:=eW
  repeat(first|lk|wp_step)
  exact cX
 refine wpAny_call (codeAny_call_builtin F.init.plain F.initEntry (V5 ?_))
 wp_walk
 refine h _ aj.objs.size ?_ λb o ai e=>(Heap.get?_update_other _ _ (Ne.symm ai)).trans (Heap.get?_push_of_some _ e);rw[Heap.get?_update_self _ (Heap.get?_push_of_some _ aQ) rfl];rfl;rfl
structure EO where
 (p1 p2 fY gH ly lz ap kh ep pos:Pos)
def EO.body(q:EO)(cls y aE:Str):List Stmt:=KU cls y aE [.Name "self" q.p2, .Name "text" q.fY] q.p1 q.gH q.ly q.lz q.ap q.kh q.ep q.pos
structure z3(a:Addr)(o:Obj)(aF:FuncData)(cls y aE:Str)(bR:List Str):Prop where
 ex:∃q:EO,j1 a o aF (q.body cls y aE) bR/\(q.ap.endLine==q.kh.line)=true
structure FaultFns(D:Addr)(iU jC:Addr)(j2 j3:Obj)(iV jj:FuncData):Prop where
 kin:K.In B
 lim:B.NoLimit
 cls:lL D
 ei:pA
 adaFn:z3 jC j3 jj "Exception" "text" "text" ["self","text"]
 iniFn:z3 iU j2 iV "AdaError" "line" "line" ["self","line","text"]
 rdE:Reads "Exception" (.type "Exception")
 kE:jj.scope.names.lookup ("Exception":Str)=some .globalImplicit
 rdD:Reads "AdaError" (.ref D)
 kD:iV.scope.names.lookup ("AdaError":Str)=some .globalImplicit
 gaD:specialIn K (.ref D) "__getattribute__"=some (some (.builtin "type.__getattribute__"))
 rsD:readsIn K D (.type "type")=true
 fcD:findCls K (.ref D) (.type "type") "__init__"=some (.val (.ref jC))
theorem V6{j2 j3:Obj}{iV jj:FuncData}{iU jC:Addr}(bK:FaultFns D iU jC j2 j3 iV jj){R:Result->Shared->Prop}{t0:Addr}{u:Value}(fx:B.StaysIn H)(ar:H.StaysIn s.heap)(aq:H.get? x=none)(aQ:s.heap.get? x=some (ji t0))(uJ:A.depth+3<recursionLimit)
  (h:∀h' aR,nq H x ["text"] h'->R (.ok (.ret .none)) {s with heap:=h',toks:=aR}):codeAny (model prog w) A (.call (.ref jC) ⟨[.ref x,u],[]⟩) R s:=by
 refine a4 bK.adaFn.ex ?_;intro q k6 mn;have pB:B.StaysIn s.heap:=λb o e=>ar _ _ (fx _ _ e);refine KR k6 bK.lim pB (by lia) _ rfl λbO jA m ag cp aJ=>?_;generalize j4:callEnvC jj s.heap.objs.size jC=J;have nr:J.scope.kind= .function:=by rw[<-j4];exact k6.kind
 have EP:J.globals=mainGlobals:=by rw[<-j4];exact k6.glob
 have pC:J.builtins=builtinsNs:=by rw[<-j4];exact k6.blt
 have sI:J.locals=s.heap.objs.size:=by rw[<-j4];rfl
 have oO:J.kindOf "self"=some .local:=by rw[<-j4];exact k6.aa _ (by simp)
 have z4:J.kindOf "text"=some .local:=by rw[<-j4];exact k6.aa _ (by simp)
 have EQ:J.kindOf "Exception"=some .globalImplicit:=by rw[<-j4];exact bK.kE
 have xi:m "self"=some (.ref x):=aJ 0 _ _ rfl rfl;have z5:m "text"=some u:=aJ 1 _ _ rfl rfl;have uR:bO.get? x=some (ji t0):=ag _ _ aQ;have ER:s.heap.objs.size≠x:=λq=>by have:=ft aQ;rw[<-q]at this;exact e0 _ this
 have uT:∀b o,H.get? b=some o->(hideAll bO [x]).get? b=some o:=λb o e=>hideAll_get [x] (ag _ _ (ar _ _ e)) (by simp;rintro rfl;rw[aq]at e;cases e);have aW:interactive J=false:=by dsimp only[interactive];rw[nr];rfl
 have ES:∀{h':Heap},(hideAll bO [x]).StaysIn h'->B.StaysIn h':=λq b o e=>q _ _ (uT _ _ (fx _ _ e));refine wpAny_execs_cons ?_;rw[exec_Expr J _ _ aW (zW rfl _ _)];refine aV (ha (aV (cd ?_ (λv s' cX=>wpAny_dropValue cX) λx9 x9 aE=>aE)));refine KS rfl rfl mn (wpAny_Name (bK.rdE _ _ _ _ _ _ nr EP pC EQ (λb o e=>ag _ _ (pB _ _ e)) λmv=>?_) (by decide));refine V3 bK.ei (λa o e=>ag _ _ (pB _ _ (bK.kin a o e))) λaR=>?_;refine zf rfl rfl (na rfl (KV nr oO z4 sI (s:={s with heap:=bO,toks:=aR}) cp xi z5 ?_));refine V4 bK.cls (s:={s with heap:=bO,toks:=aR}) (λa o e=>ag _ _ (pB _ _ (bK.kin a o e))) uR λc2 t1 V7 V8=>?_;have st:nq (hideAll bO [x]) x [] c2:= .start (λb o e=>V8 b o (λq=>by rw[q,hideAll_none [x] (.head _)]at e;cases e) (of_hideAll _ e)) (hideAll_none [x] (.head _)) V7;have xj:∀{h':Heap},(hideAll bO [x]).StaysIn h'->h'.Ns s.heap.objs.size m:=λq=>fl cp λo ah ep as r=>⟨o,ah,ep,q _ _ (hideAll_get [x] as (by simpa using ER)),r⟩;refine wpAny_execs_cons ?_;refine plainObj_wpAny_Assign_Attribute (uS nr z4 sI (s:={s with heap:=c2,toks:=aR}) (xj st.k5) z5 (by decide) (uS nr oO sI (s:={s with heap:=c2,toks:=aR}) (xj st.k5) xi (by decide) ?_)) (by rfl);refine KN bK.cls (s:={s with heap:=c2,toks:=aR}) (λa o e=>ES st.k5 _ _ (bK.kin a o e)) bK.cls.CK st (by simp) λdQ wG ET=>?_;exact wpAny_execs_nil (h dQ wG (ET.weaken uT))
theorem V9{j2 j3:Obj}{iV jj:FuncData}{iU jC:Addr}(bK:FaultFns D iU jC j2 j3 iV jj){R:Result->Shared->Prop}{t0:Addr}{u l:Value}(fx:B.StaysIn H)(ar:H.StaysIn s.heap)(aq:H.get? x=none)(aQ:s.heap.get? x=some (ji t0))(uJ:A.depth+5<recursionLimit)
  (h:∀h' aR,nq H x ["line","text"] h'->R (.ok (.ret .none)) {s with heap:=h',toks:=aR}):codeAny (model prog w) A (.call (.ref iU) ⟨[.ref x,l,u],[]⟩) R s:=by
 refine a4 bK.iniFn.ex ?_;intro q k6 mn;refine a4 bK.adaFn.ex ?_;intro x9 FB x9;have pB:B.StaysIn s.heap:=λb o e=>ar _ _ (fx _ _ e);refine KR k6 bK.lim pB (by lia) _ rfl λbO jA m ag cp aJ=>?_;have En:(A.deeper (callEnvC iV s.heap.objs.size iU)).depth=A.depth+1:=rfl;generalize j4:callEnvC iV s.heap.objs.size iU=J at En⊢;have nr:J.scope.kind= .function:=by rw[<-j4];exact k6.kind
 have EP:J.globals=mainGlobals:=by rw[<-j4];exact k6.glob
 have pC:J.builtins=builtinsNs:=by rw[<-j4];exact k6.blt
 have sI:J.locals=s.heap.objs.size:=by rw[<-j4];rfl
 have oO:J.kindOf "self"=some .local:=by rw[<-j4];exact k6.aa _ (by simp)
 have z4:J.kindOf "text"=some .local:=by rw[<-j4];exact k6.aa _ (by simp)
 have Wa:J.kindOf "line"=some .local:=by rw[<-j4];exact k6.aa _ (by simp)
 have EQ:J.kindOf "AdaError"=some .globalImplicit:=by rw[<-j4];exact bK.kD
 have xi:m "self"=some (.ref x):=aJ 0 _ _ rfl rfl;have Wb:m "line"=some l:=aJ 1 _ _ rfl rfl;have z5:m "text"=some u:=aJ 2 _ _ rfl rfl;have uR:bO.get? x=some (ji t0):=ag _ _ aQ;have ER:s.heap.objs.size≠x:=λq=>by have:=ft aQ;rw[<-q]at this;exact e0 _ this
 have uT:∀b o,H.get? b=some o->(hideAll bO [x]).get? b=some o:=λb o e=>hideAll_get [x] (ag _ _ (ar _ _ e)) (by simp;rintro rfl;rw[aq]at e;cases e);have aW:interactive J=false:=by dsimp only[interactive];rw[nr];rfl
 have ES:∀{h':Heap},(hideAll bO [x]).StaysIn h'->B.StaysIn h':=λq b o e=>q _ _ (uT _ _ (fx _ _ e));have xj:∀{h':Heap},(hideAll bO [x]).StaysIn h'->h'.Ns s.heap.objs.size m:=λq=>fl cp λo ah ep as r=>⟨o,ah,ep,q _ _ (hideAll_get [x] as (by simpa using ER)),r⟩;have KX:K.In bO:=λa o e=>ag _ _ (pB _ _ (bK.kin a o e));refine wpAny_execs_cons ?_;rw[exec_Expr J _ _ aW (zW rfl _ _)];refine aV (ha (aV (cd ?_ (λv s' cX=>wpAny_dropValue cX) λx9 x9 aE=>aE)));refine KS rfl rfl mn (wpAny_Name (bK.rdD _ _ _ _ _ _ nr EP pC EQ (λb o e=>ag _ _ (pB _ _ e)) λmv=>?_) (by decide));refine method_cls (s:={s with heap:=bO,toks:=jA}) KX bK.gaD (cls_value (s:={s with heap:=bO,toks:=jA}) KX bK.rsD bK.fcD rfl ?_);refine Calls.callWith_function (na rfl (KV nr oO z4 sI (s:={s with heap:=bO,toks:=jA+1}) cp xi z5 ⟨⟨ag _ _ (pB _ _ FB.get),FB.data⟩,?_⟩));refine wpAny_call (V6 bK (H:=hideAll bO [x]) (s:={s with heap:=bO,toks:=jA+1}) (λb o e=>uT _ _ (fx _ _ e)) (λb o e=>of_hideAll _ e) (hideAll_none [x] (.head _)) uR (by rw[En];lia) λc2 EU st=>?_);refine wpAny_execs_cons ?_;refine plainObj_wpAny_Assign_Attribute (uS nr Wa sI (s:={s with heap:=c2,toks:=EU}) (xj st.k5) Wb (by decide) (uS nr oO sI (s:={s with heap:=c2,toks:=EU}) (xj st.k5) xi (by decide) ?_)) (by rfl);refine KN bK.cls (s:={s with heap:=c2,toks:=EU}) (λa o e=>ES st.k5 _ _ (bK.kin a o e)) bK.cls.noL st (by simp) λdQ wG ET=>?_;exact wpAny_execs_nil (h dQ wG (ET.weaken uT))
end
end
section
open Builtin Builtin.ObjectAttr
section
variable{A:Around}{E:cc}{s:Shared}{D:Addr}
theorem Wc(jz:lL D)(hm:A.handled=none)
  (h:wpAny M A x (λv cr=>∃e ds ed aH,v= .ref e/\K.In cr.heap/\cr.heap.get? e=some ⟨.ref b6,ds, .fields #[aH, .none, .none, .none, .bool false, .none],ed⟩/\E (.ref e) cr) E s):
  wpAny M A (raiseStmt J (some x) none) Q E s:=by
 refine aV (cd h (λv cr bO=>?_) λx9 x9 x=>x);refine ym bO ?_;try clear bO;rintro e ds ed aH rfl X aM dt;have R:=z1 (M:=M) X jz.uf;have z2:Looks M cr.1 (typeOf (.ref e)) (.ref b6):=(Looks.ld aM).andThen .now;have gi:Looks M cr.1 (isInstance (.ref e) (.type "BaseException")) true:=z2.andThen R.top;refine tI R.obj ?_;intro kl Wd eb We eW x9
 have zk:kl= .type "type":=by have:=jz.yU;refine a4 (Option.map_eq_some_iff.mp (show(K.lookup b6).map (·.cls)=some (.type "type")from this)) ?_;intro o as aB;have af:=X _ _ as;replace af:=(eW).symm.trans af;clear as eW;obtain rfl:=a8 af;exact aB
 subst zk
 repeat(first|lk|wp_step)
 refine wpAny_handled ?_;refine ab hm ?_;exact wpAny_throw dt
structure uU(D:Addr)(iU jC:Addr)(j2 j3:Obj)(iV jj:FuncData):Prop extends FaultFns D iU jC j2 j3 iV jj where
 ini:findIn K (.ref b6) "__init__"=some (some (.ref iU))
 fn:typeIn K (.ref iU)=some (.type "function")
 keepC:keepIn K (.ref b6)=true
 rdC:Reads "CheckFault" (.ref b6)
theorem Wf(bK:uU D iU jC j2 j3 iV jj)(fx:B.StaysIn s.heap)(uJ:A.depth+9<recursionLimit)
  (h:∀h' aR,nq s.heap (s.heap.objs.size+1) ["line","text"] h'->Q (.ref (s.heap.objs.size+1)) {s with heap:=h',toks:=aR}):wpAny (model prog w) A (call (.ref b6) [l,u]) Q E s:=by
 obtain⟨aj,g,d,aR,os⟩:=s;have X:K.In aj:=λa o e=>fx _ _ (bK.kin a o e);refine wpAny_call (VQ (z1 (M:=model prog w) X bK.cls.uf) (looks_findIn X bK.ini) (λself=>bind_fn X self bK.fn) (by refine ab gG ?_;simp) ?_);have aN:=(Ka (A:=A) (a:=b6) (l:=[l,u]) (kw:=[])).depth;refine V9 bK.toFaultFns (H:=aj) (s:=⟨(aj.push (pz [l,u])).push (ji aj.objs.size),g,d,aR,os⟩) fx (λb o e=>Heap.get?_push_of_some _ (Heap.get?_push_of_some _ e):∀b o,aj.get? b=some o->((aj.push (pz [l,u])).push (ji aj.objs.size)).get? b=some o) (Heap.get?_none_of_le (gP _)) ((by heap_get):((aj.push (pz [l,u])).push (ji aj.objs.size)).get? (aj.objs.size+1)=some (ji aj.objs.size)) (by lia) λh' lv st=>?_;exact⟨rfl,h h' lv st⟩
end
section
variable{n:Nat}{Y:List Env}{z:St}{D:Addr}{I:bX}{Z:bY}
variable{P:ca}{F:bT}{J:Env}
noncomputable def oj(Y:List Env):List Addr:=Y.filterMap (·.frame)
theorem EV:b∈oj Y↔qk Y b:=by delta oj qk;exact List.mem_filterMap
theorem bu.hide(R:bu I Z z h)(S:eG I z A Y h):bu I Z z (hideAll h (oj Y)):=by
 have aa:∀b,b∈oj Y->B.get? b=none/\(∃m,h.Ns b m)/\¬ew I z b:=λb ai=>by
  refine a4 (EV.mp ai) ?_;intro J aM hf;obtain⟨_,L,m,bl,Wg,aq,cG⟩:=S.funs J aM;refine ab (a8 ((hf).symm.trans bl)) ?_;exact fs Wg ⟨m,aq⟩ cG
 have same:∀b,b∉oj Y->(hideAll h (oj Y)).get? b=h.get? b:=λb ai=>by
  cases e:h.get? b with
  |some o=>exact hideAll_get _ e ai
  |none=>
   cases q:(hideAll h (oj Y)).get? b with
   |none=>rfl
   |some o=>replace e:=(of_hideAll _ q).symm.trans e;exact sn e
 refine⟨λb o e=>(same b λq=>by replace e:=((aa b q).1).symm.trans e;injection e).trans (R.base b o e),λa t vs e=>?_,λid o e=>?_,R.apart,R.out,R.fresh,R.gl,R.sys,R.low⟩
 ·refine cL (R.frz a t vs e) ?_;intro k ag;refine⟨k,(same a λq=>?_).trans ag⟩;refine vG ((aa a q).2.1) ?_;intro m o ah ep as aN x9;obtain rfl:=a8 ((ag).symm.trans as);injection aN
 ·refine cS (R.obj id o e) ?_;intro a d ag x;have aq:z.heap id≠none:=by refine ab e ?_;simp
  exact eK a d ag (x.same (same a λq=>(aa a q).2.2 (ix id a d aq ag (.inl rfl))) (same d λq=>(aa d q).2.2 (ix id a d aq ag (.inr rfl))))
theorem Wh{jZ:Type}{G:jZ->Prop}{a b:jZ}:∀(vs:List V),(∀i s,vs=[.int i, .str s]->G a)->G b->G (match(generalizing:=false) vs with
   |[.int _, .str _]=>a
   |_=>b):=by
 intro vs ae af
 cases vs with|nil=>exact af|cons v r=>
 cases v with|int i=>(cases r with|nil=>exact af|cons w t=>
  cases w with|str s=>(cases t with|cons be cm=>exact af|nil=>exact ae i s rfl)|_=>exact af)|_=>exact af
theorem Wi{D':eg Flow bG}{O:Addr->Prop}(bK:uU D iU jC j2 j3 iV jj)(vs:List V)(ay:List Value)(z:St):
  av O D' n Y (λx9 I Z x9=>bn I Z vs ay) z (λA Q E s=>wpAny (model prog w) A (call (.ref b6) ay) (λv cr=>∃e ds ed aH,v= .ref e/\K.In cr.heap/\cr.heap.get? e=some ⟨.ref b6,ds, .fields #[aH, .none, .none, .none, .bool false, .none],ed⟩/\E (.ref e) cr) E s) (match vs with
   |[.int _, .str _]=>(.exc z:Res bG)
   |_=> .stuck):=by
 refine Wh (G:=λr=>av O D' n Y (λx9 I Z x9=>bn I Z vs ay) z _ r) vs (λi s e=>?_) .stuck;subst e;refine⟨id,λaP A I Z s Q E aw aS am aj dt=>?_⟩
 cases aj with|cons uF aj=>
 cases aj with|cons kZ aj=>
 cases aj;have aN:=aw.depth;refine lD (Wf bK am.base (by lia) λh' aR st kv=>?_);refine fk st.dc ?_;intro b0 aH aQ aB sJ x9;obtain⟨kl,ds,aep,IS⟩:=b0;dsimp only at aB sJ;subst aB sJ;refine G5 _ ds IS aH rfl (λa o e=>st.k5 _ _ (am.base _ _ (bK.kin a o e))) aQ (dt h' aR _ ⟨I,Z,hideAll s.heap (oj Y), .refl _, .refl _,λb f=> .inl f,λb aE=> .inl aE,kv,λb o e=>st.k5 _ _ (of_hideAll _ e),?_,am.hide aS,λJ aM=>?_, .inl (vK _ _ aH aQ rfl rfl rfl rfl),λb o ai cG x9=>?_⟩)
 ·cases q:(hideAll s.heap (oj Y)).get? (s.heap.objs.size+1)with
  |none=>rfl
  |some o=>have:=st.new.symm.trans (of_hideAll _ q);exact ns this
 ·obtain⟨k,L,m,bl,ai,aq,cG⟩:=aS.funs J aM;exact⟨k,L,m,bl,hideAll_none _ (EV.mpr (bq J aM bl)),ai,aq.keeps st.k5,cG⟩
 ·by_cases q:b∈oj Y
  ·exact .inr ⟨EV.mp q, .of_eq (st.k5 _ _ ai)⟩
  ·exact .inl (hideAll_get _ ai q)
theorem Wj(bK:uU D iU jC j2 j3 iV jj)(ag:J.kindOf "CheckFault"=some .globalImplicit)(aL:ie P F n Y J ah xs):
  fp P F n Y J (.raise ah) (.Raise (some (.Call (.Name "CheckFault" p) xs [] z6)) none pos):=by
 intro C z
 refine(?_:bD (cI J) (dF J) n Y (bk J C) z _ ((de P F ah C z).bind λvs z=>match vs with
   |[.int _, .str _]=> .exc z
   |_=> .stuck))
 refine av.f0 (uq (p:=p) (x:=("CheckFault":Str)) (f:= .ref b6) (O:=cI J) (D:=dF J) (k:=λiH A Q E s=>iH= .ref b6/\(aY.bind (bj (spliced (backTo z6 (starEach xs J)))) λay A Q E s=>K.In s.heap/\wpAny (model prog w) A (call (.ref b6) ay) (λv cr=>∃e ds ed aH,v= .ref e/\K.In cr.heap/\cr.heap.get? e=some ⟨.ref b6,ds, .fields #[aH, .none, .none, .none, .bool false, .none],ed⟩/\E (.ref e) cr) E s) A Q E s) (by decide) bK.rdC ag (λx9 x9 x9 x9 q=>⟨C,q⟩)
  (av.f0 (av.dv (O:=cI J) (O₁:=aG) (D₂:=dF J) (λx9 q=>q.elim) cJ (m8 (F:=F) (P:=P) aL C z6 z cJ λx9 x9 x9 x9 q=>q) λvs σ' ay=>((Wi (O:=cI J) (D':=dF J) bK vs ay σ').pre λx9 x9 x9 q=>q.2).f0 λA I Z s Q E x9 x9 am x9 q=>⟨bK.kin.keeps am.base,q⟩) λA I Z s Q E x9 x9 x9 x9 q=>⟨rfl,q⟩)) λA I Z s Q E aw aS am dU q=>?_
 refine aV (ha ?_);refine Wc bK.cls aw.handled (aV (cd (wpAny_Call_ofName (cd q (λiH cr bO=>?_) λx9 x9 x=>x)) (λv ej dQ=>aV (ha (bQ dQ))) λx9 x9 x=>x));refine bC bO ?_;try clear bO;intro cy bO;refine ab cy ?_;exact callWith_of (P:=K.In) (by refine ab (kS aL z6) ?_;rfl) (keeps_K bK.keepC) (na (kS aL z6) bO)
end
end
section
open Builtin Builtin.ObjectAttr
section
variable{n:Nat}{Y:List Env}{z:St}{D:Addr}{I:bX}{Z:bY}{H:Heap}{e:Addr}
variable{P:ca}{F:bT}{J:Env}
theorem KY{E:cc}(ag:H.StaysIn s.heap)(st:∃aH cs,s.heap.TracedAtW H e (.ref b6) aH cs)
  (aC:∀dp,H.StaysIn dp->(∃aH,dp.TracedAtW H e (.ref b6) aH .none)->s.heap.UpToSlots dp->s.heap.objs.size<=dp.objs.size->Q () {s with heap:=dp}):wpAny M A (setFlight (.ref e) none) Q E s:=by
 refine kG st ?_;try clear st;intro aH cs bH;refine G3 bH ?_;try clear bH;intro ml vs T Kk b2 aM hj aN ae w5 w6 fO pw ax;have other:∀b,b≠T->(s.heap.update T (Obj.mapFields (·.setIfInBounds 3 .none))).get? b=s.heap.get? b:=λb ai=>Heap.get?_update_other _ _ (Ne.symm ai)
 have Eu:∀b o,s.heap.get? b=some o->(∀vs,o.data≠ .fields vs)->b≠T:=λb o ai nf q=>by
  rw[q,fO]at ai;injection ai with ai;subst ai;exact nf b2 pw
 refine wpAny_setFlight_none aM aN ae fO pw ((Array.getElem?_eq_some_iff.mp ax).1:3<b2.size) (aC _ (λb o sE=>(other b λq=>by rw[q,w5]at sE;exact ns sE).trans (ag b o sE)) ⟨aH,?_⟩ (λb o ai nf=>⟨o.slots,(other b (Eu b o ai nf)).trans ai⟩) (fr (Heap.size_update ..).symm));exact⟨ml,vs,T,_,_,(other e (Ne.symm w6)).trans aM,hj,aN,ae,w5,w6,Heap.get?_update_self _ fO (Obj.isFreed_of_fields (Obj.data_mapFields pw _)),Obj.data_mapFields pw _,by simp[((Array.getElem?_eq_some_iff.mp ax).1:3<b2.size)]⟩
theorem Wk{E:cc}(jz:lL D)(X:K.In s.heap)(aM:s.heap.get? e=some ml)(aB:ml.cls= .ref b6)(cX:Q true s):wpAny M A (excMatches (.ref e) (.ref b6)) Q E s:=by
 have R:=z1 (M:=M) X jz.uf;have z2:Looks M s.1 (typeOf (.ref e)) (.ref b6):=aB▸(Looks.ld aM).andThen .now;have aeq:Looks M s.1 (isInstance (.ref b6) (.type "tuple")) false:=(looks_typeIn X jz.yU:Looks M s.1 (typeOf (.ref b6)) (.type "type")).andThen (Looks.of_pure tc_notTuple);have aer:=R.self;have aes:=R.top;refine tI R.obj ?_;intro kl Wd eb We eW x9
 repeat(first|lk|wp_step)
 exact cX
theorem Wl(bm:d2 Y J)(bK:uU D iU jC j2 j3 iV jj)(bw:J.globals=mainGlobals)(ai:J.builtins=builtinsNs)(uV:J.kindOf "CheckFault"=some .globalImplicit){s s':Shared}{E:cc}
  (aS:eG I z A Y s.heap) (dU:bk J C z I Z s.heap) (U:hi aG Y I Z z s.heap σ' s'.heap e)
  (aC:∀κ' Z' h' aR,cw Y (cI J) I Z z s.heap κ' Z' σ' h'->bu κ' Z' σ' h'->eG κ' σ' A Y h'->d7 κ' Z' σ' J C h'->Q (.ret .none) {s' with heap:=h',toks:=aR}):
  wpAny (model prog w) A (noteFrame (.ref e) J) (λx9 bE=>wpAny (model prog w) A (setFlight (.ref e) none) (λx9 ej=>wpAny (model prog w) A (handleBy (.ref e) J [.ExceptHandler (some (.Name "CheckFault" p)) none [.Return (some (.Constant .none k xk)) Wm] aj]) Q E ej) E bE) E s':=by
 refine cL bm.head ?_;rintro bU rfl;refine rj U.ex ?_;intro κ' Z' H dR eM gg hh iC ib hO km iF ls kP;obtain⟨sc,g,d,aR,os⟩:=s';refine lD (Kj (s:=⟨sc,g,d,aR,os⟩) aS.frames bm.frame (Ec λfo aM=>let⟨k,L,m,cY,cT,_,eR,_⟩:=iF fo aM;⟨k,L,m,cY,cT,eR⟩) ib hO ls λae eX c4 gx b5=>?_);refine vG c4 ?_;try clear c4;intro aH x9 x9 L x9 x9 t1;refine KY (s:=⟨ae,g,d,aR,os⟩) eX (tK aH _ t1) λaf k2 dz=>cL dz λa2 t2=>λfF cC=>?_;refine wpAny_handleBy_cons (codeAny_handlers_test (wpAny_Name (bK.rdC _ _ _ _ _ _ bm.kind bw ai uV (λb o q=>k2 _ _ (km.base _ _ q)) ?_) (by decide))) (by intro q;injection q);refine NW (id t2) ?_;intro ml vs KZ Kk b2 aM hj x9;refine Wk (s:=⟨af,g,d,aR,os⟩) bK.cls ((λq a o e=>q _ _ (km.base _ _ (bK.kin a o e)):∀{h:Heap},H.StaysIn h->K.In h) k2) aM hj.1 ?_;refine codeAny_handlers_suite (KY (s:=⟨af,g,d,aR,os⟩) k2 (tK a2 _ t2) λax hy x9 nt eD=>?_);refine wpAny_execs_cons (wpAny_Return_some (Constant_none ?_));have K0:=(gx.trans fF).trans nt
 have fu:cw (J::bU) aG I Z z s.heap κ' Z' σ' ax:=⟨dR,eM,λb o ai cG no=>by
  refine Or.elim (kP b o ai cG no) (λq=>?_) λcz=>?_
  ·exact .of_eq (hy b o q)
  ·(refine bC cz ?_;try clear cz;intro uk q);(refine a4 (id uk) ?_;intro fo aM hf)
   obtain⟨_,uj,e5,cY,cT,e7,eR,il⟩:=iF fo aM;obtain rfl:=a8 ((hf).symm.trans cY)
   exact(Ee (h0:=none) K0 eR q trivial).mono λx9=>uk,gg,hh,ct iC (ct b5 (ct cC eD))⟩
 refine aC κ' Z' ax _ (fu.mono λx9 x9 q=>q.elim) (km.grow λb o q=>hy b o q) ⟨aS.frames,λfo aM=>?_⟩ (d7.eO dU fu);obtain⟨k,uj,e5,cY,cT,e7,eR,il⟩:=iF fo aM;exact⟨k,uj,e5,cY,e7,K0.ns eR,il⟩
theorem Wn(bm:d2 Y J)(bK:uU D iU jC j2 j3 iV jj)(uV:J.kindOf "CheckFault"=some .globalImplicit){e:E}(aM:bZ P F n Y J e x):
  fp P F n Y J (.tP e) (.Try [.Return (some x) aet] [.ExceptHandler (some (.Name "CheckFault" p)) none [.Return (some (.Constant .none k xk)) Wm] aj] [] [] pos):=by
 intro C z
 refine(?_:bD (cI J) (dF J) n Y (bk J C) z _ (match az P F e C z with
   | .ok v z=> .ok (.ret v,C) z
   | .exc z=> .ok (.ret .none,C) z
   | .stuck=> .stuck))
 have h:=aM C z
 cases aw:az P F e C z with
 |stuck=>exact .stuck
 |ok v σ'=>rw[aw]at h;refine⟨h.1,λaP A I Z s Q E pv aS am aj aC=>wpAny_Try_except (wpAny_execs_cons (wpAny_Return_some (h.2 aP A I Z s _ _ pv aS am aj λκ' Z' h' aR u x bW dP d=>?_)))⟩;exact aC κ' Z' h' aR (.ret u) (x.mono λx9 x9 q=>q.elim) bW dP ⟨.ret d,d7.eO aj x⟩
 |exc σ'=>
  replace h:=aw▸h;refine⟨h.1,λaP A I Z s Q E pv aS am aj aC=>wpAny_Try_except (wpAny_execs_cons (wpAny_Return_some (h.2 aP A I Z s _ _ pv aS am aj λh' aR e U=>?_)))⟩;exact Wl (s':={s with heap:=h',toks:=aR}) bm bK aj.glob aj.blt uV aS aj U λκ' Z' af Wo x bW dP Fr=>aC κ' Z' af Wo _ x bW dP ⟨.ret .none,Fr⟩
end
end
section
variable{n:Nat}{Y:List Env}{ao:cR}{D:Addr}
variable{P:ca}{F:bT}{J:Env}
theorem xl(H:uw ao P)(h:ao.st y s=true):s=T.nm y/\y<T.bV/\(ao.names.lookup s=some .local\/ao.names.lookup s=some .cell):=by refine bC (mH h) ?_;intro h ax;refine fs ((iM (mH h).2).trans (congrFun H.nm y)) (hF (hQ (mH h).1) (fr H.nn)) ?_;rw[Bool.or_eq_true]at ax;exact ax.imp hk hk
theorem Wp(H:uw ao P)(h:ao.rL y s=true):s=T.nm y/\y<T.bV:=by exact⟨(iM (mH h).2).trans (congrFun H.nm y),hF (hQ (mH h).1) (fr H.nn)⟩
theorem K1(H:uw (eo ao J) P):∀{dn:List Nat}{b2:List Expr},v1 (eo ao J) dn b2=true->j0 J dn b2
 |[],_,h=>g0 h .nil
 |y::dn,_,h=>si (k:=λt b2=>gq (λs x9=>(eo ao J).st y s) t&&v1 (eo ao J) dn b2) h λt b2 h=>cq h λae af=>gJ (G:=λt=>j0 J (y::dn) (t::b2)) ae λs p ae=>(by
  exact .cons (xl H ae).1 (xl H ae).2.1 (xl H ae).2.2 (K1 H af))
set_option tactic.hygienic true in
theorem Wq(bm:d2 Y J)(b:iS ao P F n Y)(h0:(eo ao J).st aE t=true)(ae:dw e (eo ao J) v=true)(aB:HL e=true)(qC:fX (eo ao J).names t .local=true)(af:rI (λx9 x9 aA pos=>i3 d8.line pos.line&&ua t aA.names) v=true):fp P F n Y J (.assign aE e) (.Assign [.Name t d8] v k4):=by
 have ag:=bm.kind;refine eU (xl (b.H _) h0) ?_;intro bd bB x9;have inj:=(b.H []).inj;have dot:=(b.H []).dot;revert ae;refine wv (G:=λv=>dw e (eo ao J) v=true->fp P F n Y J (.assign aE e) (.Assign [.Name t d8] v k4)) af λdx h8 aA p af h=>cq af λfF nt=>?_;cases e
 case comp tag bP y iter cU=>exact ig (h:hs _ h8=true) λg h=>qx h λs q it ifs h=>BP h λh0 ae af ax a0 cn da h=>cq h λfw kR=>VE bm bd bB (hk qC) (w3 b iter J it ag da).1 fF nt (kt h0) cn ae (hk af) (b.lt ax) (b.at_ a0) inj dot (λD=>(w2 (w3 b bP) ag (kt h0) fw D).1) (Es (Kh b cU) ag (kt h0) kR)
 case li y CB=>
  exact qv (h:oX _ dx=true) λo i UC h=>gJ h λb5 cY h=>gJ h λcC cT h=>ig h λg h=>qx h λeD e7 it ifs h=>f8 h λh9 h0 h=>g0 h9 (gJ h0 λv0 eR kR=>A9 h λh0 ae af ax a0 cn da fw bA=>(by
   refine bM (iM kR) ?_;refine ab (iM af) ?_;refine l3 (Dn bA) ?_;intro cl cA Et w4
   exact VF bm bd bB (hk qC) ((b.H []).sys) (Dp (cA.trans (congrFun (b.H []).nm y)) Et w4) fF nt (kt h0) ae (hk ax) fw w4 (hF cl (fr (b.H []).nn)) (b.lt a0) (cA.trans (congrFun (b.H []).nm y)) (b.at_ cn) inj dot da))
 all_goals exact b3 aB
theorem hV(h:(!x)=true):x=false:=by rw[Bool.not_eq_true']at h;exact h
theorem Wr(bm:d2 Y J)(b:iS ao P F n Y)(h0:v1 (eo ao J) dn b2=true)(ae:dw e (eo ao J) v=true)(af:Ct (eo ao J) dn b2 v=true):fp P F n Y J (.unpack dn e) (.Assign [.Tuple b2 k d8] v k4):=by
 have lJ:=K1 (b.H _) h0;have aM:=(w3 b e J v bm.kind ae).1;have bI:=(b.H []).inj;unfold Ct at af;rw[Bool.or_eq_true]at af
 rcases af with af|af
 ·exact Kw bm bI lJ aM (Vr (by cases v<;>first|rfl|exact b3 af))
 ·clear h0 ae;revert lJ;refine qw (G:=λdn=>j0 J dn b2->fp P F n Y J (.unpack dn e) (.Assign [.Tuple b2 k d8] v k4)) af λcM cQ af=>?_;revert aM;refine ww (G:=λv=>bZ P F n Y J e v->j0 J [cM,cQ] b2->fp P F n Y J (.unpack [cM,cQ] e) (.Assign [.Tuple b2 k d8] v k4)) af λvs bF hL af=>?_;refine qw (G:=λvs=>bZ P F n Y J e (.Tuple vs bF hL)->j0 J [cM,cQ] b2->fp P F n Y J (.unpack [cM,cQ] e) (.Assign [.Tuple b2 k d8] (.Tuple vs bF hL) k4)) af λcl cA af aM=>?_;refine qw (G:=λb2=>j0 J [cM,cQ] b2->fp P F n Y J (.unpack [cM,cQ] e) (.Assign [.Tuple b2 k d8] (.Tuple [cl,cA] bF hL) k4)) af λt1 t2 af=>?_;refine gJ (G:=λt1=>j0 J [cM,cQ] [t1,t2]->fp P F n Y J (.unpack [cM,cQ] e) (.Assign [.Tuple [t1,t2] k d8] (.Tuple [cl,cA] bF hL) k4)) af λb5 p1 af=>?_;refine gJ (G:=λt2=>j0 J [cM,cQ] [.Name b5 p1,t2]->fp P F n Y J (.unpack [cM,cQ] e) (.Assign [.Tuple [.Name b5 p1,t2] k d8] (.Tuple [cl,cA] bF hL) k4)) af λcC p2 af lJ=>f8 af λgx fF nt=>?_;rw[Bool.or_eq_true]at nt
  rcases nt with nt|nt
  ·exact Kw bm bI lJ aM (Vu bm (by refine ab (show J.kindOf _=some NameKind.cell from hk nt) ?_;decide) gx fF)
  ·refine vL nt λWs Wt Wu Wv Ww u9=>?_
   cases lJ with|cons a1 a2 a3 lJ=>
   cases lJ with|cons cv ec eV be=>
   exact VH bm bI a1 cv a2 ec (hk Ws) (hk Wt) (kc (hV Wv)) (cj Wu) gx fF (hV Ww) (hV u9) aM
theorem K2(J:Env)(dn:List Stmt):∀xs:List Stmt,execs (xs++dn) J=execs xs J>>=λf=>match f with| .next=>execs dn J|f=>Pure.pure f
 |[]=>by
  refine(?_:execs dn J=_);rw[show execs [] J=Pure.pure Flow.next from rfl,pure_bind]
 |x::xs=>by
  rw[List.cons_append,execs_cons,execs_cons,bind_assoc]
  congr 1
  funext f
  cases f with
  |next=>exact K2 J dn xs
  |_=>rfl
theorem Wx(ae:∀C z,bD (cI J) (dF J) n Y (bk J C) z (execs xs J) (F.blk i C z))(af:iR P F n Y J r dn):iR P F n Y J (.blk i::r) (xs++dn):=by
 intro C z
 refine(?_:bD (cI J) (dF J) n Y (bk J C) z (execs (xs++dn) J) ((F.blk i C z).bind λy z=>match y.1 with
   | .next=>bc P F r y.2 z
   |_=> .ok y z))
 refine(av.dv (O₁:=cI J) (Kp:=λx9 x9 x9 x9=>True) (t:=bj (execs xs J)) (f:=λcs A Q E s=>match cs with| .next=>wpAny (model prog w) A (execs dn J) Q E s|cs=>Q cs s) (λx9 q=>q) ⟨λx9 x9=>trivial⟩ (ae C z) λy σ' cs=>?_).tree λA s Q E q=>?_
 ·obtain⟨a,bJ⟩:=y
  cases a with
  |next=>
   refine((af bJ σ').pre λI Z h q=>q.2.2).f0 λA I Z s Q E x9 x9 x9 aj q=>?_;have pu:cs= .next:=by cases aj.2.1;rfl
   clear aj bJ z;subst pu;exact q
  |cont=>exact zU (by simp) λA Q E s=>wpAny (model prog w) A (execs dn J) Q E s
  |ret v=>exact zU (by simp) λA Q E s=>wpAny (model prog w) A (execs dn J) Q E s
 ·refine(?_:wpAny _ A (execs (xs++dn) J) Q E s);rw[K2];refine aV (cd q (λf s' h'=>?_) λx9 x9 aE=>aE);cases f<;>first|exact h'|exact bQ h'
structure SB(D:Addr):Prop where
 ex:∃iU jC j2 j3 iV jj,uU D iU jC j2 j3 iV jj
theorem Wy(h:yQ s=some i):s= .blk i:=by
 cases s with
 |blk j=>obtain rfl:=a8 h;rfl
 |_=>exact ns h
abbrev K3(P:ca)(F:bT)(n:Nat)(Y:List Env)(ao:cR)(J:Env)(len:Nat->Nat)(cb:Nat->List Stmt->Bool)(s:S):Prop:=∀x:Stmt,Cu (eo ao J) len cb s x=true->fp P F n Y J s x
abbrev z7(P:ca)(F:bT)(n:Nat)(Y:List Env)(ao:cR)(J:Env)(len:Nat->Nat)(cb:Nat->List Stmt->Bool)(jS:List S):Prop:=∀xs:List Stmt,mf (eo ao J) len cb jS xs=true->iR P F n Y J jS xs
section
variable(b:iS ao P F n Y)(bm:d2 Y J)(sK:SB D)(len:Nat->Nat)(cb:Nat->List Stmt->Bool)
theorem Wz(k7:∀i xs,cb i xs=true->∀C z,bD (cI J) (dF J) n Y (bk J C) z (execs xs J) (F.blk i C z)){s:S}{r:List S}(ae:K3 P F n Y ao J len cb s)(af:z7 P F n Y ao J len cb r):z7 P F n Y ao J len cb (s::r):=by
 intro xs h
 replace h:(match yQ s with
  |some i=>cb i (xs.take (len i))&&mf (eo ao J) len cb r (xs.drop (len i))
  |none=>nU (λx xs=>Cu (eo ao J) len cb s x&&mf (eo ao J) len cb r xs) xs)=true:=h
 cases ai:yQ s with
 |some i=>rw[ai]at h;refine ab (Wy ai) ?_;refine cq h λax a0=>?_;have:=Wx (k7 i _ ax) (af _ a0);rw[List.take_append_drop]at this;exact this
 |none=>replace h:=ai▸h;exact si h λx xs h=>cq h λax a0=>UO (ae x ax) (af xs a0)
include b bm sK
theorem K4(k7:∀i xs,cb i xs=true->∀C z,bD (cI J) (dF J) n Y (bk J C) z (execs xs J) (F.blk i C z))(jS:List S):z7 P F n Y ao J len cb jS:=by
 have sys:=(b.H []).sys;have inj:=(b.H []).inj;have kin:=(b.H []).kin;have cls:=(b.H []).cls;have ek:∀{e:E}{x:Expr},dw e (eo ao J) x=true->eQ P F n Y J e x:=λh=>w3 b _ J _ bm.kind h;have st:∀{y:Nat}{s:Str},(eo ao J).st y s=true->s=T.nm y/\y<T.bV/\(J.kindOf s=some .local\/J.kindOf s=some .cell):=λh=>xl (b.H _) h;have at_:∀{y:Nat}{s:Str},(eo ao J).rL y s=true->s=T.nm y/\y<T.bV:=λh=>Wp (b.H _) h
 refine S.rec_1 (motive_1:=K3 P F n Y ao J len cb) (motive_2:=z7 P F n Y ao J len cb)
  ?assign ?unpack ?a7 ?tO ?i0 ?lj ?pW ?rt ?expr ?ite ?i1 ?eL ?forR ?ret ?cont ?raise ?tP ?blk ?stuck ?nil ?cons jS
 case stuck=>exactλx h C z=> .stuck
 case blk=>exactλi x h=>b3 h
 case nil=>exactλxs h=>g0 h UN
 case cons=>exactλs r ae af=>Wz len cb k7 ae af
 case assign=>exactλy e x h=>uu h λb2 v p h=>ig h λt h=>gJ h λs q h=>f8 h λae af h=>(by
  rw[Bool.or_eq_true]at h
  rcases h with ax|ax
  ·exact UP bm (ek af).1 (st ae).1 (st ae).2.1 inj (st ae).2.2 (zW ax _ _)
  ·exact f8 ax λa0 cn ax=>Wq bm b ae af a0 cn ax)
 case unpack=>exactλdn e x h=>uu h λb2 v p h=>ig h λt h=>ww h λb2 k q h=>f8 h λae af ax=>Wr bm b ae af ax
 case a7=>exactλo a e x h=>uu h λb2 v p h=>ig h λt h=>qu h λb0 s q h=>cq h λae h=>cq h λaf ax=>UQ kin cls inj (ek af).1 (ek ax).1 (at_ ae).1 (at_ ae).2
 case tO=>exactλo a bS aX e x h=>uu h λb2 v p h=>ig h λt h=>ww h λb2 k q h=>qw h λt1 t2 h=>qu h λb0 b5 cY h=>qu h λjQ cC cT h=>ww h λvs hR hL h=>qw h λcl cA h=>BO h λae af ax a0 cn da fw=>VL bm kin cls inj (ek cn).1 (ek da).1 (at_ ae).1 (at_ af).1 (at_ ae).2 (at_ af).2 ax a0 (ek fw).1
 case i0=>exactλo i e x h=>uu h λb2 v p h=>ig h λt h=>qv h λb0 jR q h=>cq h λae h=>cq h λaf ax=>UR (ek ae).1 (ek af).1 (ek ax).1
 case lj=>exactλy e x h=>Dg h λt op v p h=>cq h λh0 h=>wx h0 (gJ h λs q h=>cq h λae af=>UT bm (ek af).1 (st ae).1 (st ae).2.1 inj (st ae).2.2)
 case pW=>exactλo a e x h=>Dg h λt op v p h=>cq h λh0 h=>wx h0 (qu h λb0 s q h=>f8 h λae af ax=>UU kin cls inj (ek af).1 (ek ax).1 (at_ ae).1 (at_ ae).2)
 case rt=>exactλo i e x h=>Dg h λt op v p h=>cq h λh0 h=>wx h0 (qv h λb0 jR q h=>tM h λae af ax a0=>U0 sys ae (ek af).1 (ek ax).1 (ek a0).1)
 case expr=>exactλe x h=>I2 h λv p h=>cq h λae af=>U5 bm (ek af).1 ae
 case ite=>exactλc t f jf ik x h=>RA h λv ub uc p h=>f8 h λae af ax=>U4 (ek ae) (jf ub af) (ik uc ax)
 case i1=>exactλc t ih x h=>Rz h λv body mZ p h=>f8 h λh0 ae af=>g0 h0 (Vn bm (ek ae) (ih body af))
 case eL=>exactλy e t ih x h=>I1 h λt v body mZ p h=>cq h λh0 h=>g0 h0 (gJ h λs q h=>tM h λae af ax a0=>Vk bm sys (ek ax).1 af (st ae).1 (st ae).2.1 inj (st ae).2.2 (ih body a0))
 case forR=>exactλy k t ih x h=>I1 h λt v body mZ p h=>cq h λh0 h=>g0 h0 (gJ h λs q h=>f8 h λae af a0=>Jb af λp1 p2 a dR eM gg hh=>Vf bm (st ae).1 (st ae).2.1 inj (st ae).2.2 (ih body a0) (mu eM) (b.H []).rRange (od dR) rfl (fG.ok (.cons (ek hh) gg .nil)))
 case ret=>exactλe x h=>Df h λv p h=>(by
  rw[Bool.or_eq_true]at h
  rcases h with h|h
  ·exact nh h λv h=>U1 (ek h).1
  ·refine cq h λae af=>pf ae ?_
   have:e= .val .none:=by cases e with
    |val v=>cases v<;>first|rfl|exact b3 af
    |_=>exact b3 af
   refine ab this ?_
   exact U2)
 case cont=>exactλx h=>RD h λp x9=>U3
 case raise=>exactλah x h=>RB h λv c p h=>cq h λh0 h=>pf h0 (nh h λv h=>ux h λq xs bR ae af ax=>(by
  refine G4 sK.ex ?_;intro x9 x9 x9 x9 x9 x9 bK
  exact Wj bK (od ae) (Kh b ah J xs bm.kind ax).ok))
 case tP=>exactλe x h=>RC h λuW ar mZ fin p h=>f8 h λh0 ae h=>g0 h0 (g0 ae (ig h λaeu h=>Df h λv q h=>ig h λaN h=>(by
  obtain⟨t,nm,ai,aj⟩:=aN;refine cq (show(kJ nm&&hK (gq λs x9=>(eo ao J).p8 s "CheckFault"&&(hs (vW λr x9=>hK rO r) ai&&hK (λv=>dw e (eo ao J) v) v)) t)=true from h) λaf h=>pf af (nh h λt h=>gJ h λs cT h=>f8 h λax a0 cn=>ig a0 λKH a0=>Df a0 λr e7 a0=>nh a0 λr a0=>Jd a0 λhR eR=>nh cn λv cn=>?_);refine eU (zr ax) ?_;rintro rfl da fw;refine G4 sK.ex ?_;intro x9 x9 x9 x9 x9 x9 bK
  exact Wn bm bK (od da) (ek cn).1)))
end
end
theorem iW{aI:Type}{G:Prop}{a:aI}(h:none=some a):G:=nomatch h
theorem WA:∀(names:List (Str×NameKind))(k:Nat)(acc:List (Str×Addr)),k0<=k->(∀y d,(y,d)∈acc->k0<=d)->(x,c)∈cellsFrom k names acc->k0<=c:=by
 intro br
 induction br with
 |nil=>exactλx9 acc x9 aL h=>aL x c (by delta cellsFrom at h;simpa using h)
 |cons cm r ih=>
  obtain⟨y,Eh⟩:=cm;intro k acc ag aL h;dsimp only[cellsFrom]at h
  split at h
  ·exact ih _ _ (Nat.le_succ_of_le ag) (λCA dy aJ=>by
    cases aJ with
    |head=>exact ag
    |tail be aJ=>exact aL _ _ aJ) h
  ·exact ih _ _ ag aL h
section
variable{n m:Nat}{Y:List Env}{ao:cR}{D:Addr}
variable{P:ca}{F:bT}{J:Env}
structure ol(ao:cR)(P:ca)(D:Addr):Prop where
 H:∀l,uw {ao with names:=l} P
 zQ:∀c,c<ao.vY->mG P c
 sK:SB D
 fns:∀f,(∃o aF body,g1 P f o aF body/\ud {ao with names:=aF.scope.names} P (P.fns f).body body=true)\/P.fns f=⟨[],[.stuck]⟩
 dfl:∃o aF body qc,g1 P (P.g8 ao.jo) o aF body/\ud {ao with names:=aF.scope.names} P (P.fns (P.g8 ao.jo)).body body=true/\(∀(a:Value)(s:Shared),B.StaysIn s.heap->BindsTo s aF ⟨[a],[]⟩ (((P.fns (P.g8 ao.jo)).params.map T.nm).zip (a::qc)))/\∀I Z,bn I Z (ao.oZ.map .int) qc
structure Good(ao:cR)(P:ca)(F:bT)(m:Nat):Prop where
 fn:∀n,m<=n->∀Y f vs ay z,av aG bb n Y (λx9 I Z x9=>bn I Z vs ay) z (mE (T.c8 f) ay) (F.fn f vs z)
 dfl:∀n,m<=n->∀Y v a z,av aG bb n Y (λx9 I Z x9=>bn I Z [v] [a]) z (mE (T.c8 (P.g8 ao.jo)) [a]) (F.fn (P.g8 ao.jo) (v::ao.oZ.map .int) z)
 fnx:∀f,(∃o aF,B.get? (T.c8 f)=some o/\o.data= .func aF)\/∀vs z,F.fn f vs z= .stuck
 blk:∀n,m<=n->∀Y J,d2 Y J->∀i xs,HM (eo ao J) (P.vT i) xs=true->∀C z,bD (cI J) (dF J) n Y (bk J C) z (execs xs J) (F.blk i C z)
theorem Good.mono(G:Good ao P F m)(h:m<=e5):Good ao P F e5:=
 ⟨λn aq=>G.fn n (ct h aq),λn aq=>G.dfl n (ct h aq),G.fnx,λn aq=>G.blk n (ct h aq)⟩
theorem WB:Good ao P ⟨λx9 x9 x9=> .stuck,λx9 x9 x9=> .stuck⟩ 0:=
 ⟨λx9 x9 x9 x9 x9 x9 x9=> .stuck,λx9 x9 x9 x9 x9 x9=> .stuck,λx9=> .inr λx9 x9=>rfl,λx9 x9 x9 x9 x9 x9 x9 x9 x9 x9=> .stuck⟩
theorem Good.base(G:Good ao P F m)(ch:ol ao P D)(aq:m<=n)(Y:List Env):iS ao P F n Y:=
 ⟨ch.H,ch.zQ,⟨λf vs ay z=>G.fn n aq Y f vs ay z,λv a z=>G.dfl n aq Y v a z⟩,G.fnx⟩
theorem K5(bK:g1 P f o aF body)(bl:∀c,L<=c->B.get? c=none):d2 (callEnvC aF L (T.c8 f)::Y) (callEnvC aF L (T.c8 f)):=
 ⟨⟨Y,rfl⟩,rfl,λn c aB=>bl c (Nat.le_of_succ_le (WA (k0:=L+1) aF.scope.names (L+1) [] (b8 _) (λx9 x9 h=>by cases h) (uI aB))),bK.kind⟩
theorem K6(G:Good ao P F m)(ch:ol ao P D)(aq:m<=n)(bK:g1 P f o aF body)(aB:ud {ao with names:=aF.scope.names} P (P.fns f).body body=true)(bl:∀c,L<=c->B.get? c=none):
  iR P F n (callEnvC aF L (T.c8 f)::Y) (callEnvC aF L (T.c8 f)) (P.fns f).body body:=
 K4 (G.base ch aq _) (K5 bK bl) ch.sK _ _ (λi xs h C z=>G.blk n aq _ _ (K5 bK bl) i xs h C z) _ _ aB
theorem EW(G:Good ao P F m)(ch:ol ao P D):Good ao P ⟨λf vs z=>dO P F f vs z,λi C z=>rC P F i C z⟩ (m+1) where
 fn:=λn aq Y f vs ay z=>by
  obtain⟨hP,rfl⟩:∃hP,n=hP+1:=⟨n-1,by lia⟩;refine Or.elim (ch.fns f) (λcz=>?_) λh=>?_
  ·(refine fl cz ?_;try clear cz;intro o aF body bK aB);exact Uf bK (ch.H []).lim (ch.H []).inj (λL bl=>K6 G ch (by lia) bK aB bl) vs ay z
  ·refine(?_:av aG bb _ Y _ z _ (dO P F f vs z));unfold dO;refine ab h ?_;cases vs<;>exact .stuck
 dfl:=λn aq Y v a z=>by
  obtain⟨hP,rfl⟩:∃hP,n=hP+1:=⟨n-1,by lia⟩;refine ym ch.dfl ?_;intro o aF body qc bK aB ai aN
  exact(J7 bK (ch.H []).lim (ch.H []).inj (λL bl=>K6 G ch (by lia) bK aB bl) (v::ao.oZ.map .int) [a] (a::qc) (λx9=>ai a) z).pre λI Z h q=>by
   cases q with|cons q be=>exact .cons q (aN I Z)
 fnx:=λf=>by
  refine Or.elim (ch.fns f) (λcz=>?_) λh=>?_
  ·(refine fl cz ?_;try clear cz;intro o aF body bK aB);exact .inl (eK o aF bK.get bK.data)
  ·refine .inr λvs z=>?_;refine(?_:dO P F f vs z= .stuck);unfold dO;refine ab h ?_;cases vs<;>rfl
 blk:=λn aq Y J bm i xs h C z=>K4 (G.base ch (by lia) Y) bm ch.sK (λx9=>0) (λx9 x9=>false) (λx9 x9 q=>by exact b3 q) (P.vT i) xs h C z
theorem WC(G:Good ao P F m)(z8:Good ao P pD m)(p q:Nat->Bool):Good ao P ⟨λf vs z=>match p f with|true=>pD.fn f vs z|false=>F.fn f vs z,λi C z=>match q i with|true=>pD.blk i C z|false=>F.blk i C z⟩ m where
 fn:=λn aq Y f vs ay z=>by
  dsimp only;cases p f
  ·exact G.fn n aq Y f vs ay z
  ·exact z8.fn n aq Y f vs ay z
 dfl:=λn aq Y v a z=>by
  dsimp only;cases p (P.g8 ao.jo)
  ·exact G.dfl n aq Y v a z
  ·exact z8.dfl n aq Y v a z
 fnx:=λf=>by
  dsimp only;cases p f
  ·exact G.fnx f
  ·exact z8.fnx f
 blk:=λn aq Y J bm i xs h C z=>by
  dsimp only;cases q i
  ·exact G.blk n aq Y J bm i xs h C z
  ·exact z8.blk n aq Y J bm i xs h C z
end
theorem WD{bR:List Str}:∀{ay:List Value},ay.length=bR.length->∀x∈bR,((bR.zip ay).lookup x).isSome=true:=by
 induction bR with
 |nil=>intro ay x9 x aQ;cases aQ
 |cons p bR ih=>
  intro ay ak x aQ
  cases ay with
  |nil=>injection ak
  |cons a ay=>
   refine ab List.zip_cons_cons (ab List.lookup_cons ?_)
   cases q:x==p with
   |true=>rfl
   |false=>exact ih (by simpa using ak) x (by
     cases aQ with
     |head=>simp at q
     |tail be h=>exact h)
theorem K7:∀(bR:List Str)(ay:List Value)(l:List (Str×Value)),bR.Nodup->ay.length=bR.length->(∀x∈bR,l.lookup x=(bR.zip ay).lookup x)->bR.filterMap (λn=>(l.lookup n).map (n,·))=bR.zip ay
 |[],ay,_,_,_,_=>by rfl
 |p::bR,[],_,_,ak,_=>by exact nomatch ak
 |p::bR,a::ay,l,aq,ak,h=>by
  rw[List.nodup_cons]at aq;have h0:=h p (.head _);simp at h0;refine ab List.filterMap_cons (ab h0 ?_);refine(?_:(p,a)::_=_)
  refine ab (K7 bR ay l aq.2 (by simpa using ak) λx aQ=>by
   refine ab (h x (.tail _ aQ)) (ab List.zip_cons_cons (ab List.lookup_cons ?_))
   have:(x==p)=false:=by simpa using(λq=>aq.1 (q▸aQ):x≠p)
   exact ab this rfl) ?_
  rfl
theorem K8{aI:Type}[Decidable c]{a b x:aI}(h:¬c)(e:b=x):ite c a b=x:=(cO h).trans e
theorem WE{X:List Str}{D:List Value}{g:List (Str×Value)->Sem aI}{x:Sem aI}(y4:D=[])(h:g s=x):bind (forIn (X.zip D) s f) g=x:=by refine ab y4 ?_;refine ab List.zip_nil_right ?_;exact h
theorem WF(n q:Str)(sL:List Arg)(ng qc b aA g Jh Eh WG WH an co WI WJ)(aq:(sL.map (·.arg)).Nodup)(ak:ay.length=(sL.map (·.arg)).length):
  bindArgs ⟨n,q,⟨[],sL,none,[],ng,none,qc⟩,b,aA,g,Jh, .none,Eh,WG,WH,an,co,WI,WJ⟩ ⟨ay,[]⟩=pure ((sL.map (·.arg)).zip ay):=by
 refine K8 (c:=(decide (ay.length>(sL.map (·.arg)).length)&&true)=true) (by rw[ak,Bool.and_true,decide_eq_true_eq];exact e0 _) ?_
 have m:∀k,((((sL.map (·.arg)).take k).filter λn=>(((sL.map (·.arg)).zip ay).lookup n).isNone))=[]:=λk=>List.filter_eq_nil_iff.mpr λx aQ q=>by
  have:=WD ak x (List.mem_of_mem_take aQ);rw[Option.isSome_eq_false_iff.mpr q]at this;exact b3 this
 refine K8 (λq=>?_) (WE ((λx9=>List.drop_nil:∀k,List.drop k (#[]:Array Value).toList=[]) _) ?_)
 ·exact b3 ((bz (λl:List Str=>!l.isEmpty) (m _)).symm.trans q)
 ·exact bz Sem.pure ((bz _ (List.append_nil _)).trans (K7 _ ay _ aq ak λx9 x9=>rfl))
noncomputable def WK(aF:FuncData)(WL:List Arg)(WM:Option Arg)(WN:List Arg)(kw:Option Arg)(WO:Value):FuncData:=⟨aF.name,aF.qualname,⟨WL,aF.params.args,WM,WN,aF.params.kw_defaults,kw,aF.params.defaults⟩,aF.body,aF.scope,aF.globals,aF.closure,WO,aF.kwdefaults,aF.doc,aF.pyModule,aF.annotations,aF.code,aF.closureTuple,aF.builtins⟩
theorem WP(ae:aF.params.posonlyargs=[])(ax:aF.params.kwonlyargs=[])(a0:aF.params.vararg=none)(cn:aF.params.kwarg=none)(aN:aF.defaults= .none)(aq:(aF.params.args.map (·.arg)).Nodup)(ak:ay.length=(aF.params.args.map (·.arg)).length):
  bindArgs aF ⟨ay,[]⟩=pure ((aF.params.args.map (·.arg)).zip ay):=by
 refine(?_:bindArgs (WK aF aF.params.posonlyargs aF.params.vararg aF.params.kwonlyargs aF.params.kwarg aF.defaults) ⟨ay,[]⟩=_);refine ab ae (ab ax (ab a0 (ab cn (ab aN ?_))));exact WF _ _ _ _ _ _ _ _ _ _ _ _ _ _ _ _ aq ak
theorem K9:∀{l:List Nat},Cw l=true->l.Nodup:=by
 intro br
 induction br with
 |nil=>exactλx9=>List.nodup_nil
 |cons x xs ih=>intro h;rw[List.nodup_cons];refine⟨λaQ=>?_,ih (mH h).2⟩;have:=List.all_eq_true.mp (mH h).1 x aQ;replace this:=(show i3 x x=true from Nat.beq_refl x)▸this;exact b3 this
theorem z9:∀{xs:List Nat}{jS:List Str},Cv ao xs jS=true->jS=xs.map ao.nm
 |[],[],_=>rfl
 |x::xs,s::jS,h=>by
  refine ab (iM (mH h).1) (ab (z9 (mH h).2) ?_);rfl
 |[],_::_,h=>by exact b3 h
 |_::_,[],h=>by exact b3 h
theorem La:∀{v:Value},Cx v=true->v= .none:=λ{v}h=>by cases v<;>first|rfl|exact b3 h
theorem WQ:∀{d:PySem.Data}{aF:FuncData},ue d=some aF->d= .func aF:=λ{d}{aF}h=>by cases d<;>first|exact bz _ (a8 h)|exact iW h
theorem Lb{G:Prop}(h:yR K k a=true)(H:∀o aF body,K.lookup a=some o->o.data= .func aF->aF.body= .stmts body->k aF body=true->G):G:=by
 unfold yR at h;generalize e:K.lookup a=x at h;refine nh (G:=λx=>K.lookup a=x->G) h (λo h e=>?_) e;generalize bB:ue o.data=y at h;refine nh (G:=λy=>ue o.data=y->G) h (λaF h bB=>?_) bB;generalize fz:aF.body=aE at h
 cases aE with
 |stmts b=>exact H o aF b e (WQ bB) fz h
 |expr be=>exact b3 h
abbrev Based(aF:FuncData):Prop:=(codeIn K aF.code aF.qualname=true)/\(aF.closure=[])/\(aF.globals=mainGlobals)/\(aF.builtins=builtinsNs)/\(aF.scope.kind= .function)/\(aF.scope.isCoroutine=false)/\(aF.scope.isGenerator=false)/\(aF.defaults= .none->(aF.params.args.map (·.arg)).Nodup->∀ay:List Value,ay.length=(aF.params.args.map (·.arg)).length->bindArgs aF ⟨ay,[]⟩=pure ((aF.params.args.map (·.arg)).zip ay))
section
variable(x:Based a)
def Based.code:=x.1
def Based.uH:=x.2.1
def Based.glob:=x.2.2.1
def Based.blt:=x.2.2.2.1
def Based.kind:=x.2.2.2.2.1
def Based.co:=x.2.2.2.2.2.1
def Based.gen:=x.2.2.2.2.2.2.1
def Based.bind:=x.2.2.2.2.2.2.2
end
theorem WR:∀{k:ScopeKind},Cp k=true->k= .function:=λ{k}h=>by cases k<;>first|rfl|exact b3 h
theorem EX(h:fK l=true):l=[]:=g0 h rfl
theorem Lc(h:kJ l=true):l=none:=pf h rfl
theorem Ld{G:Prop}(h:Cy K aF r=true)(H:Based aF->r=true->G):G:=
 BQ h λbd bB fz hU lK sH EH xe e9 xf h=>cq h λxg h=>H ⟨bd,EX bB,cj fz,cj hU,WR lK,hV sH,hV EH,λaN aq x9 ak=>WP (EX xe) (EX e9) (Lc xf) (Lc xg) aN aq ak⟩ h
theorem WS(X:K.In B)(oe:ao.nm=T.nm)(WT:ao.bV=T.bV)(bI:ch.Inj)(d:Bool)(h:HN K ao P f (T.c8 f) d=true)(aN:d=true->∀o aF,K.lookup (T.c8 f)=some o->o.data= .func aF->∀ay:List Value,ay.length=(P.fns f).params.length->∀s:Shared,B.StaysIn s.heap->BindsTo s aF ⟨ay,[]⟩ (((P.fns f).params.map T.nm).zip ay)):∃o aF body,g1 P f o aF body/\ud {ao with names:=aF.scope.names} P (P.fns f).body body=true:=
 Lb h λo aF body as uz pl h=>Ld h λS h=>vL h λbB EY uX EZ Aa WU=>by
  have E0:∀x∈(P.fns f).params,x<T.bV/\(aF.scope.names.lookup (T.nm x)=some .local\/aF.scope.names.lookup (T.nm x)=some .cell):=λx aQ=>cq (List.all_eq_true.mp EZ x aQ) λcY cT=>⟨WT▸hQ cY,oe▸((Bool.or_eq_true _ _).mp cT).imp hk hk⟩
  refine mV o aF body ⟨X _ _ as,uz,codeRec_of X S.code,pl,S.uH,S.glob,S.blt,S.kind,S.co,S.gen,λay ak s ar=>?_,E0,K9 Aa,λn ak=>b3 ((List.all_eq_true.mp WU _ (uA ak)))⟩ bB
  cases d with
  |true=>exact aN rfl o aF as uz ay ak s ar
  |false=>refine bM (((z9 uX).trans (by exact ab oe rfl):aF.params.args.map (·.arg)=(P.fns f).params.map T.nm)) ?_;refine .of_eq (S.bind (La EY) ?_ ay (by rw[((z9 uX).trans (by exact ab oe rfl):aF.params.args.map (·.arg)=(P.fns f).params.map T.nm),List.length_map];exact ak));refine ab (((z9 uX).trans (by exact ab oe rfl):aF.params.args.map (·.arg)=(P.fns f).params.map T.nm)) ?_;unfold List.Nodup;rw[List.pairwise_map];exact List.Pairwise.imp_of_mem (λaL ai dB q=>dB (bI _ _ (E0 _ aL).1 (E0 _ ai).1 q)) (K9 Aa)
theorem qI:∀{n:Nat},nX n f=true->∀i,i<n->f i=true:=by
 intro br
 induction br with
 |zero=>exactλx9 i h=>bf h (Nat.not_lt_zero i)
 |succ n ih=>
  intro h i aW;refine bC (mH h) ?_;intro ae af
  rcases Nat.lt_or_ge i n with q|q
  ·exact ih ae i q
  ·have:i=n:=Nat.le_antisymm (Nat.le_of_lt_succ aW) q;exact this▸af
section
variable{kK mh:Str->Option Value}{m0:Program}{m1:List Str}
theorem Le{J:Env}(ag:J.scope.kind= .function)(aQ:J.kindOf x=some .globalImplicit):loadName J x=loadGlobal J x:=by
 have ai:J.blockKind= .function:=by unfold Env.blockKind;exact ab ag rfl
 unfold loadName;generalize J.scope.kind=k at ag;generalize J.kindOf x=q at aQ;generalize J.blockKind=r at ai;subst ag aQ ai;rfl
theorem xm(X:K.In B)(R:TopRead m0 m1 kK mh B)(e:nsIn K mainGlobals x=some (some v)):Reads x v:=λM A J s Q E ag bw ai aQ fx h=>by
 refine ab (Le ag aQ) ?_;exact loadGlobal_global (by refine ab bw ?_;exact R.g.keeps fx) (mg_of X R.g e) h
theorem uY(X:K.In B)(R:TopRead m0 m1 kK mh B)(e:nsIn K mainGlobals x=some none)(bA:bootBuiltins x=some v)(aq:x≠"__name__"):Reads x v:=λM A J s Q E ag bw ai aQ fx h=>by
 refine ab (Le ag aQ) ?_;exact loadGlobal_builtin (by refine ab bw ?_;exact R.g.keeps fx) (mg_none_of X R.g e) (by refine ab ai ?_;exact R.b.keeps fx) ((R.builtins x aq).trans bA) h
end
theorem Lf(h:Cz K x a=true):nsIn K mainGlobals x=some (some (.ref a)):=by exact eq_of_beq h
theorem sM(h:o0 x=true):x=some none:=by
 cases x with
 |none=>exact b3 h
 |some o=>cases o with
  |none=>rfl
  |some v=>exact b3 h
theorem WV:nX oV (λx=>nX x λy=>!dJ (jr x) (jr y))=true:=by kernel_rfl
theorem WW:nX oV (λx=>!dJ (jr x) ".0")=true:=by kernel_rfl
theorem sN:T.nm=jr:=qe▸rfl
theorem xn:T.bV=oV:=qe▸rfl
theorem sO:T.c8=gF 52 tY:=qe▸rfl
theorem xo:T.e2=gF 52 tZ:=qe▸rfl
theorem Lg:ch.Inj:=by
 have key:∀x y,x<oV->y<x->jr x≠jr y:=λx y aQ bx q=>by
  have:(!dJ (jr x) (jr y))=true:=qI (qI WV x aQ) y bx;rw[q]at this;rw[((by unfold dJ;rw[jV];simp):dJ (jr y) (jr y)=true)]at this;exact b3 this
 unfold ch.Inj;refine ab sN (ab xn ?_);intro x y aQ bx q
 rcases Nat.lt_trichotomy x y with h|h|h
 ·exact bf q.symm (key y x bx h)
 ·exact h
 ·exact bf q (key x y aQ h)
theorem WX:∀x,x<oV->jr x≠".0":=λx aQ q=>by
 have:(!dJ (jr x) ".0")=true:=qI WW x aQ;rw[q]at this;have e:dJ (".0":Str) ".0"=true:=by unfold dJ;rw[jV];rfl
 replace this:=this.trans e;exact b3 this
theorem qJ(h:rR K c):ju c:=⟨h.1,h.2.1,h.2.2.1,h.2.2.2.1,by
 refine ab sN (ab xn ?_)
 exactλx aQ=>sM (qI (n:=oV) (f:=λx=>o0 (findIn K (.ref c) (jr x))) h.2.2.2.2 x aQ)⟩
theorem WY(H:cE K):∀c,ju (T.e2 c):=by
 refine ab xo ?_
 exactλ
 |0=>qJ H.CJ
 |1=>qJ H.CJ
 |2=>qJ H.PF
 |3=>qJ H.PG
 |4=>qJ H.PH
 |5=>qJ H.PI
 |6=>qJ H.PJ
 |n+7=>qJ H.CJ
theorem sP(h:qa K c):mG P0 c:=⟨by refine ab xo ?_;exact h.1,by refine ab xo (ab sO ?_);exact h.2.1,by refine ab sO ?_;exact h.2.2.1,by refine ab xo ?_;exact h.2.2.2⟩
theorem WZ(H:cE K):∀c,c<7->mG P0 c
 |0,_=>sP H.n0
 |1,_=>sP H.c4
 |2,_=>sP H.dg
 |3,_=>sP H.hb
 |4,_=>sP H.i4
 |5,_=>sP H.jT
 |6,_=>sP H.mg
 |n+7,h=>bf h (by lia)
theorem W0(H:cE K):lL 108:=⟨by refine ab o2 ?_;exact H.uf,by refine ab o2 ?_;exact H.v2,by refine ab o2 ?_;exact H.mro,by refine ab o2 ?_;exact H.CK,by refine ab o2 ?_;exact H.noL,by refine ab o2 ?_;exact H.yU⟩
theorem W1(H:cE K):pA:=⟨H.ga,H.sub,H.found⟩
@[elab_as_elim] theorem sQ{G:Str->Prop}(h:dJ a b=true)(H:G b):G a:=(iM h).symm▸H
@[elab_as_elim] theorem W2{G:List Stmt->Prop}(h:HQ cls y aE body=true)(H:∀p1 p2 fY gH ly lz ap kh ep pos,(ap.endLine==kh.line)=true->G (KU cls y aE [.Name "self" p2, .Name "text" fY] p1 gH ly lz ap kh ep pos)):G body:=by refine qw h λb5 cC h=>?_;refine I2 h λc ep h=>?_;refine zq h λf xs HR kh h=>?_;refine cq h λae h=>?_;refine g0 ae ?_;refine qu h λo ini ap h=>?_;refine gJ h λc p1 h=>?_;refine f8 h λae af h=>?_;refine sQ ae ?_;refine sQ af ?_;refine qw h λa b h=>?_;refine gJ h λa p2 h=>?_;refine cq h λae h=>?_;refine sQ ae ?_;refine gJ h λb fY h=>?_;refine cq h λae h=>?_;refine sQ ae ?_;refine uu h λb2 v pos h=>?_;refine ig h λt h=>?_;refine qu h λo CA ly h=>?_;refine gJ h λs gH h=>?_;refine f8 h λae af h=>?_;refine sQ ae ?_;refine sQ af ?_;refine gJ h λCB lz h=>?_;refine cq h λae h=>?_;refine sQ ae (H p1 p2 fY gH ly lz ap kh ep pos ?_);refine ab (cj h) ?_;exact beq_self_eq_true _
theorem E1:∀{a b:List Str},CC a b=true->a=b
 |[],[],_=>rfl
 |a::r,b::t,h=>by
  exact ab (iM (mH h).1) (ab (E1 (mH h).2) rfl)
 |[],_::_,h=>by exact b3 h
 |_::_,[],h=>by exact b3 h
theorem Lh{G:Prop}(X:K.In B)(ij:bR.Nodup)(h:CD K a bR cls y aE=true)(H:∀o aF,z3 a o aF cls y aE bR->aF.scope.names.lookup cls=some .globalImplicit->G):G:=
 Lb h λo aF body as uz pl h=>Ld h λS h=>yp h λbB EY uX EZ Aa=>H o aF (by
  refine W2 (G:=λbody=>aF.body= .stmts body->z3 a o aF cls y aE bR) bB (λp1 p2 fY gH ly lz ap kh ep pos ak pl=>?_) pl
  refine⟨⟨p1,p2,fY,gH,ly,lz,ap,kh,ep,pos⟩,⟨X _ _ as,uz,codeRec_of X S.code,pl,S.uH,S.glob,S.blt,S.kind,S.co,S.gen,(E1 uX)▸S.bind (La EY) ((E1 uX)▸ij),λx aQ=>hk (List.all_eq_true.mp EZ x aQ),ij⟩,ak⟩) (hk Aa)
section
variable{kK mh:Str->Option Value}{m0:Program}{m1:List Str}
theorem W3(H:cE K)(X:K.In B)(R:TopRead m0 m1 kK mh B):SB 108:=
 Lh X (by decide) H.PM λj3 jj kx W4=>Lh X (by decide) H.PN λj2 iV sR vR=>⟨125,105,j2,j3,iV,jj,{kin:=X,lim:=R.nolimit,cls:=W0 H,ei:=W1 H,adaFn:=kx,iniFn:=sR,rdE:=uY X R (sM (cq H.HT λx9 h=>h)) (by kernel_rfl) (by decide),kE:=W4,rdD:=xm X R H.rdD,kD:=vR,gaD:=H.gaD,rsD:=H.rsD,fcD:=H.fcD,ini:=by refine ab o2 ?_;exact H.ini,fn:=H.fn,keepC:=by refine ab o2 ?_;exact H.keepC,rdC:=by refine ab o2 ?_;exact xm X R H.rdC}⟩
theorem Li(h:K.lookup a=some o)(aN:o.data= .func aF):CE K a=some aF:=by unfold CE;refine ab h ?_;refine(?_:ue o.data=_);refine ab aN ?_;rfl
@[elab_as_elim] theorem qK{G:List Value->Prop}:∀{ay:List Value},ay.length=n+1->(∀a r,r.length=n->G (a::r))->G ay
 |[],h,_=>bf h (Nat.succ_ne_zero _).symm
 |a::r,h,H=>H a r (Nat.succ.inj h)
theorem W5(H:cE K)(S:Setting)(ay:List Value)(h:ay.length=8):rS K S ay []:=by refine qK h λa1 r h=>?_;refine qK h λa2 r h=>?_;refine qK h λa3 r h=>?_;refine qK h λcv r h=>?_;refine qK h λec r h=>?_;refine qK h λeV r h=>?_;refine qK h λfM r h=>?_;refine qK h λgS r h=>?_;refine ab (List.eq_nil_of_length_eq_zero h) ?_;exact H.PO S a1 a2 a3 cv ec eV fM gS
theorem E2(H:cE K)(X:K.In B)(f:Nat)(hf:f<yH):∃o aF body,g1 P0 f o aF body/\ud {yS with names:=aF.scope.names} P0 (P0.fns f).body body=true:=
 WS X sN.symm xn.symm Lg (i3 f 69) (sO▸qI H.fns f hf) λhf o aF as aN ay ak s fx=>by
  have:=cj hf;clear hf;subst this;refine kp_binds (X.keeps fx) λS=>?_;have:=W5 H S ay ak;unfold rS at this;rw[Li (a:=636) (by rw[sO]at as;exact as) aN,List.append_nil]at this;refine ab sN ?_;exact this
theorem W6{G:Prop}(h:HP x=true)(H:∀v,x=some (some v)->G):G:=by
 cases x with
 |none=>exact b3 h
 |some o=>cases o with
  |none=>exact b3 h
  |some v=>exact H v rfl
theorem W7(H:cE K)(X:K.In B)(R:TopRead m0 m1 kK mh B)(l:List (Str×NameKind)):uw {yS with names:=l} P0:=
 cq H.HT λh x9=>cq h λh jT=>cq h λh i4=>cq h λh hb=>cq h λc4 dg=>
 {sys:=trivial,kin:=X,lim:=R.nolimit,cls:=WY H,inj:=Lg,nm:=sN.symm,nn:=xn.symm,dot:=by refine ab sN (ab xn ?_);exact WX,fnR:=λf hf=>sO▸xm X R (Lf (qI H.PK f hf)),fnO:=λf hf=>(by(refine fl (E2 H X f (hF hf (show Cb<=yH by decide))) ?_;intro o aF x9 bK x9);exact eK o aF bK.get bK.data),clsR:=λc aB=>xo▸xm X R (Lf (qI H.clsR c aB)),glR:=λg bw=>W6 (qI H.PL g bw) λv bA=>(by
    have e:T.Ce g=v:=by refine ab qe ?_;refine(?_:ln K g=v);unfold ln;exact ab bA rfl
    refine ab e ?_;exact xm X R bA),glN:=by refine ab qe ?_;exact b8 _,glV:=λg=>by refine ab qe ?_;rfl,rLen:=uY X R (sM c4) (by kernel_rfl) (by decide),rList:=uY X R (sM dg) (by kernel_rfl) (by decide),rDict:=uY X R (sM hb) (by kernel_rfl) (by decide),rSorted:=uY X R (sM i4) (by kernel_rfl) (by decide),rRange:=uY X R (sM jT) (by kernel_rfl) (by decide)}
theorem W8(H:cE K)(X:K.In B)(R:TopRead m0 m1 kK mh B):ol yS P0 108:=by
 refine⟨W7 H X R,WZ H,W3 H X R,λf=>(Nat.lt_or_ge f yH).imp (E2 H X f) λhf=>?_,?_⟩
 ·refine bM (Nat.sub_add_cancel hf) ?_;rfl
 ·refine fl (E2 H X 69 (dG rfl)) ?_;intro o aF body bK aB;refine G5 o aF body HS bK aB (λa s fx=>kp_binds (X.keeps fx) λS=>?_) (λI Z=> .cons (.int _ _) (.cons (.int _ _) (.cons (.int _ _) (.cons (.int _ _) (.cons (.int _ _) (.cons (.int _ _) (.cons (.int _ _) .nil)))))));refine cL (Option.isSome_iff_exists.mp H.PQ) ?_;intro bS e;have g:=bK.get;rw[sO]at g;have:=H.PP S a;unfold rS at this;rw[Li (e.trans ((X _ _ e).symm.trans g:some bS=some o)) bK.data]at this;refine ab sN ?_;exact this
end
def W9:Prop:=∀vs:List V,(∀v∈vs,∃i,v= .int i)->vs.length<=63->
 ∃m σ',m<=40/\σ'.log/\∀n,m<=n->∀Y ay,av aG bb n Y (λx9 I Z x9=>bn I Z [.aD 63 vs] ay) St.empty (mE (T.c8 rG) ay) (.ok (.bool true) σ')
theorem E3:∀{xs:List Int}{vs:List Value},WellAll P h vs (ofPys (xs.map PyData.int))->bn I Z (xs.map V.int) vs
 |[],_,w=>by cases w;exact .nil
 |x::xs,_,w=>by
  cases w with|cons a b=>
  cases a;exact .cons (.int _ _) (E3 b)
def Ab(c:Addr)(vs:List Value):bY:=λa=>if a=337 then some (true,CF)else if a=644 then some (true,CG)else if a=c then some (false,vs)else none
theorem Xa(H:cE K)(p:Params)(X:K.In B)(aB:B.get? c=some {cls:= .type "list",data:= .seq vs.toArray}):bu (λx9=>none) (Ab c vs) St.empty B:=by
 have ae:=X _ _ H.HU;have af:=X _ _ H.rs;refine⟨λx9 x9 e=>e,λa t ev e=>?_,λid o e=>(by exact ns e),λi j a d aX dy x9 aW=>bf rfl aW,λb dz=>fl dz λid a d h x9=>bf rfl h,λx9 x9 x9 x9 x9=>rfl,λg bw=>?_,λb dz=>fl dz λid a d h x9=>bf rfl h,(eK 337 _ (by decide) ae)⟩
 ·unfold Ab at e
  split at e
  ·rename_i q;(refine bC (fi (a8 e)) ?_;rintro rfl rfl);subst q;exact⟨0,ae⟩
  ·split at e
   ·rename_i q;(refine bC (fi (a8 e)) ?_;rintro rfl rfl);subst q;exact⟨0,af⟩
   ·split at e
    ·rename_i q;(refine bC (fi (a8 e)) ?_;rintro rfl rfl);subst q;exact⟨0,aB⟩
    ·exact ns e
 ·rw[qe]at bw⊢
  match g,bw with
  |0,_=>refine(?_:Den _ _ _ (ln K 0));refine ab H.PR ?_;exact .tup (vs:=CF) (df rfl) (.cons (.str _ _) (.cons (.str _ _) (.cons (.str _ _) (.cons (.str _ _) .nil))))
  |1,_=>refine(?_:Den _ _ _ (ln K 1));refine ab H.PS ?_;exact .int _ _
  |2,_=>refine(?_:Den _ _ _ (ln K 2));refine ab H.PT ?_;exact .str _ _
  |3,_=>refine(?_:Den _ _ _ (ln K 3));refine ab H.PU ?_;exact .int _ _
  |4,_=>refine(?_:Den _ _ _ (ln K 4));refine ab H.PV ?_;refine .tup (vs:=CG) ((cO (by decide)).trans (df rfl)) ?_;exact E3 (P:=p) (h:=B) (xs:=[1,0,2,0,1,2,1,1,2,1,0,2,3,2,4,5,2,0]) (by repeat(first|exact .nil|refine .cons (.int _ _) ?_))
  |n+5,h=>exact bf h (by refine(?_:¬(n+5<5));lia)
theorem Lj:callerA.depth+4*40+10<recursionLimit/\callerA.units+40*40+100<cLine:=by decide+kernel
theorem entry(Xb:cE K->K.In B->(∀kK mh m0 m1,TopRead m0 m1 kK mh B->W9)):Ask cell:=by
 unfold Ask;refine ab PY (ab w_eq (ab PZ (ab K_eq ?_)));intro xp X s kK mh m0 m1 c xs P R yW ar Lk ak W am Xc;obtain⟨aj,Ac,zI,Xd,Xe⟩:=s;subst ar;have H:=Xb xp X _ _ _ _ Lk;have Xf:kK "law"=some (.ref 714):=mg_of X Lk.g xp.PW;cases Xf.symm.trans Xc
 cases W with| @list be vs cm aB i8=>
 refine hp (H (xs.map V.int) (λv bA=>by obtain⟨i,_,q⟩:=List.mem_map.mp bA;exact⟨i,q.symm⟩) (by rw[List.length_map];exact ak)) ?_;intro m σ' aJ aP ag
 have Xg:Ab c vs c=some (false,vs):=by
  have ae:=X _ _ xp.HU;have af:=X _ _ xp.rs;refine(cO λq=>?_).trans ((cO λq=>?_).trans (df rfl))
  ·rw[q,ae]at aB;have:=bz (λo:Option Obj=>o.map (·.cls)) aB;simp[yT]at this
  ·rw[q,af]at aB;have:=bz (λo:Option Obj=>o.map (·.cls)) aB;simp[yT]at this
 have eh:(xs.map V.int).length<=63:=by rw[List.length_map];exact ak
 have:=(ag m (b8 _) [] [.ref c]).2 aP callerA (λx9=>none) (Ab c vs) ⟨B,Ac,zI,Xd,Xe⟩ (λv s'=>R (.ok (.ret v)) s') (λx9 x9=>False) (⟨rfl,by have:=Lj.1;lia,by have:=Lj.2;lia⟩:gX callerA m) (⟨rfl,λx9 h=>by cases h⟩:eG (λx9=>none) St.empty callerA [] B) (Xa xp w.params X aB) (.cons (.aD Xg (E3 i8) eh) .nil) (λκ' Z' h' aR a x bW dP d=>by
  cases d
  exact am h' aR λb o e=>bW.base b o e)
 rw[sO]at this;refine codeAny_mono (this callerA .rfl') λr s' aw=>?_
 cases r with
 |ok cs=>cases cs<;>first|exact aw|exact aw.elim
 |error e=>exact aw.elim
end
section
open PySem PySem.W PyProof.Rows MeetsSeq
inductive lM:V->V->Prop
 |refl (v:V):lM v v
 |aD {n m:Nat} {l:List V}:(n<=m\/l.length<=m)->lM (.aD n l) (.aD m l)
class inductive E4:List V->List V->Prop
 |nil:E4 [] []
 |cons {v v':V} {l i6:List V}:lM v v'->E4 l i6->E4 (v::l) (v'::i6)
class inductive im:List (List Nat×V)->List (List Nat×V)->Prop
 |nil:im [] []
 |cons {k:List Nat} {v v':V} {l i6:List (List Nat×V)}:lM v v'->im l i6->im ((k,v)::l) ((k,v')::i6)
inductive lN:O->O->Prop
 |refl (o:O):lN o o
 |inst {c b1 mq:Nat} {Y uZ:List (Nat×V)}:b1<=mq->(∀x v',dk x uZ=some v'->∃v,dk x Y=some v/\lM v v')->lN (.inst c b1 Y) (.inst c mq uZ)
 |list {b cV:Nat} {l:List V}:(b<=cV\/l.length<=cV)->lN (.list b l) (.list cV l)
 |ba {b cV:Nat} {ah dD:List (List Nat×V)}:(b<=cV\/ah.length<=cV)->im ah dD->lN (.ba b ah) (.ba cV dD)
 |ck {b cV:Nat} {ah:List (Int×V)}:(b<=cV\/ah.length<=cV)->lN (.ck b ah) (.ck cV ah)
structure f2(z σ':St):Prop where
 heap:∀id bS,σ'.heap id=some bS->∃o,z.heap id=some o/\lN o bS
 nx:∀k,k<64->z.nx k<=σ'.nx k
def E5(C bJ:aK):Prop:=∀x v',bJ x=some v'->∃v,C x=some v/\lM v v'
theorem lM.trans(x:lM a b)(y:lM b c):lM a c:=by
 cases x with
 |refl=>exact y
 |aD h=>cases y with
  |refl=>exact .aD h
  |aD h'=>exact .aD (by lia)
theorem im.refl:∀ah,im ah ah
 |[]=> .nil
 |(k,v)::r=> .cons (.refl v) (im.refl r)
@[elab_as_elim] theorem im.nY{G:List (List Nat×V)->Prop}(h:im [] ah)(H:G []):G ah:=by cases h;exact H
@[elab_as_elim] theorem im.kM{G:List (List Nat×V)->Prop}(h:im (p::r) ah)(H:∀v nu,lM p.2 v->im r nu->G ((p.1,v)::nu)):G ah:=by
 cases h with
 |cons a b=>exact H _ _ a b
theorem im.trans(x:im a b)(y:im b c):im a c:=by
 induction x generalizing c with
 |nil=>exact y
 |cons x t ih=>exact y.kM λv nu a b=> .cons (x.trans a) (ih b)
theorem im.length(x:im ah dD):ah.length=dD.length:=by
 induction x with
 |nil=>rfl
 |cons be cm ih=>exact bz (·+1) ih
theorem lN.trans(x:lN a b)(y:lN b c):lN a c:=by
 cases x with
 |refl=>exact y
 |inst h f=>
  cases y with
  |refl=>exact .inst h f
  |inst h' Xh=>exact .inst (ct h h') λaE v' e=>a4 (Xh aE v' e) λv bd eN=>a4 (f aE v bd) λu bB es=>(bq u bB (es.trans eN))
 |list h=>cases y with
  |refl=>exact .list h
  |list h'=>exact .list (by lia)
 |ba h e=>cases y with
  |refl=>exact .ba h e
  |ba h' ey=>exact .ba (by have:=e.length;lia) (e.trans ey)
 |ck h=>cases y with
  |refl=>exact .ck h
  |ck h'=>exact .ck (by lia)
theorem f2.refl(z:St):f2 z z:=⟨λx9 o e=>(bq o e (.refl o)),λx9 x9=>b8 _⟩
theorem f2.trans(x:f2 a b)(y:f2 b c):f2 a c:=⟨λid bS e=>a4 (y.heap id bS e) λmI bd eN=>a4 (x.heap id mI bd) λlu bB es=>(bq lu bB (es.trans eN)),λk h=>ct (x.nx k h) (y.nx k h)⟩
section
variable{n m:Nat}{Y:List Env}{ao:cR}{D:Addr}{I:bX}{Z:bY}{h:Heap}{z σ':St}
variable{P:ca}{F:bT}{J:Env}
theorem Den.le(d:Den I Z v u)(l:lM v v'):Den I Z v' u:=by
 cases l with
 |refl=>exact d
 |aD ak=>cases d with|aD hz aN ai=>exact .aD hz aN (by lia)
theorem gV.le(d:gV I Z ah kvs)(l:im ah dD):gV I Z dD kvs:=by
 induction d generalizing dD with
 |nil=>exact l.nY .nil
 |cons d t ih=>exact l.kM λv nu a b=> .cons (d.le a) (ih b)
theorem hN.le(x:hN I Z h a d o)(l:lN o bS):hN I Z h a d bS:=by
 revert o bS x l;revert I Z h a d;refine@(rU ne ne ne ne ne ?κ9 ?Z9 ?h9 ?a9 ?d9 ?_ ?_)
 rotate_left 5
 (
 intro o bS x l
 cases l with
 |refl=>exact x
 |inst aq hf=>refine eU x ?_;try clear x;intro h0 dh hO;refine vH dh ?_;try clear dh;intro ds ah ep sS af eM gg hh iC ib;exact⟨h0,⟨ds,ah,ep,sS,af,eM,gg,ct hh aq,iC,λaE v' e=>a4 (hf aE v' e) λv bd eN=>a4 (ib aE v bd) λu a1 a2=>(bq u a1 (a2.le eN))⟩,λaE v' e=>a4 (hf aE v' e) λv bd x9=>hO aE v bd⟩
 |list ai=>obtain⟨e,vs,ae,dR,eM⟩:=x;exact⟨e,vs,ae,dR,by lia⟩
 |ba ai aM=>obtain⟨e,kvs,ae,dR,eM⟩:=x;exact⟨e,kvs,ae,dR.le aM,by have:=aM.length;lia⟩
 |ck ai=>obtain⟨e,kvs,ae,dR,eM⟩:=x;exact⟨e,kvs,ae,dR,by lia⟩)
 rfl
theorem f2.some(l:f2 z σ'){id:Nat}(aq:σ'.heap id≠none):z.heap id≠none:=by
 cases e:σ'.heap id with
 |none=>exact bf e aq
 |some bS=>(refine a4 (l.heap id bS e) ?_;intro o ae x9);refine ab ae ?_;simp
theorem ew.le(l:f2 z σ')(f:ew I σ' b):ew I z b:=let⟨id,a,d,ae,af,ax⟩:=f;(ix id a d (l.some ae) af ax)
theorem bu.le(R:bu I Z z h)(l:f2 z σ'):bu I Z σ' h where
 base:=R.base
 frz:=R.frz
 obj:=λid bS e=>a4 (l.heap id bS e) λo ae eN=>cS (R.obj id o ae) λa d af x=>(eK a d af (x.le eN))
 apart:=λi j a d aX dy ne aW cF=>R.apart i j a d aX dy ne (l.some aW) (l.some cF)
 out:=λb f=>R.out b (f.le l)
 fresh:=λk i h0 ae af=>R.fresh k i h0 (ct (l.nx k h0) ae) af
 gl:=R.gl
 sys:=λb f=>R.sys b (f.le l)
 low:=R.low
theorem cw.le{O:Addr->Prop}(x:cw Y O I Z z h κ' Z' aO h')(l:f2 aO cK):cw Y O I Z z h κ' Z' cK h':=⟨x.kle,x.zle,x.keep,λb f=>x.foot b (f.le l),x.zed,x.size⟩
theorem eG.le(S:eG I z A Y h)(l:f2 z σ'):eG I σ' A Y h:=⟨S.frames,λJ aM=>let⟨k,L,sS,ae,af,ax,cG⟩:=S.funs J aM;⟨k,L,sS,ae,af,ax,λf=>cG (f.le l)⟩⟩
theorem d7.le(Fr:d7 I Z z J C h)(l:f2 z σ')(xq:E5 C bJ):d7 I Z σ' J bJ h where
 kind:=Fr.kind
 glob:=Fr.glob
 blt:=Fr.blt
 ns:=a4 Fr.ns λsS aq ak=>(bq sS aq (λx v' e k=>a4 (xq x v' e) λv bd eN=>a4 (ak x v bd k) λu a1 a2=>(bq u a1 (a2.le eN))))
 cell:=λnm ag=>h4 (Fr.cell nm ag) λc bN aB bA cG o8 ak=>(nM c bN aB bA (λf=>cG (f.le l)) o8 (λx v' q e=>a4 (xq x v' e) λv bd eN=>a4 (ak x v q bd) λu a1 a2=>(bq u a1 (a2.le eN))))
 apart:=Fr.apart
 noL:=λf=>Fr.noL (f.le l)
 dom:=λx v' e=>a4 (xq x v' e) λv bd x9=>Fr.dom x v bd
theorem hi.le{O:Addr->Prop}(U:hi O Y I Z z h aO h' e)(l:f2 aO cK):hi O Y I Z z h cK h' e:=by refine rj U.ex ?_;intro κ' Z' H dR eM gg hh iC ib hO km iF ls kP;exact⟨κ',Z',H,dR,eM,λb f=>gg b (f.le l),hh,iC,ib,hO,km.le l,λJ aM=>let⟨k,L,sS,cY,cT,e7,eR,il⟩:=iF J aM;⟨k,L,sS,cY,cT,e7,eR,λf=>il (f.le l)⟩,ls,kP⟩
noncomputable def St.fq(z:St)(o:List V)(p:Prop):St:={z with orc:=o,log:=p}
theorem sT:f2 z (z.fq o p):=⟨λx9 o e=>(bq o e (.refl o)),λx9 x9=>b8 _⟩
theorem cw.from{O:Addr->Prop}(x:cw Y O I Z (z.fq o p) h κ' Z' aO h'):cw Y O I Z z h κ' Z' aO h':=⟨x.kle,x.zle,x.keep,x.foot,x.zed,x.size⟩
theorem hi.from{O:Addr->Prop}(U:hi O Y I Z (z.fq o p) h aO h' e):hi O Y I Z z h aO h' e:=by refine rj U.ex ?_;intro κ' Z' H dR eM gg hh iC ib hO km iF ls kP;exact⟨κ',Z',H,dR,eM,gg,hh,iC,ib,hO,km,iF,ls,kP⟩
noncomputable def E6(F:bT)(f:Nat)(vs:List V)(z:St)(v:V)(cK:St):Prop:=∃o cl aO,F.fn f vs (z.fq o True)= .ok cl aO/\aO.log/\lM cl v/\f2 aO cK
noncomputable def Xi(F:bT)(f:Nat)(vs:List V)(z cK:St):Prop:=∃o aO,F.fn f vs (z.fq o True)= .exc aO/\aO.log/\f2 aO cK
def jD(F:bT)(i:Nat)(C:aK)(z:St)(r:cg×aK)(cK:St):Prop:=∃o lv1 aO,F.blk i C (z.fq o True)= .ok (r.1,lv1) aO/\aO.log/\E5 lv1 r.2/\f2 aO cK
def jE(F:bT)(f:Nat)(vs:List V)(z:St):Res V->Prop
 | .ok v cK=>cK.log->z.log/\E6 F f vs z v cK
 | .exc cK=>cK.log->z.log/\Xi F f vs z cK
 | .stuck=>True
def sU(F:bT)(i:Nat)(C:aK)(z:St):Res (cg×aK)->Prop
 | .ok r cK=>cK.log->z.log/\jD F i C z r cK
 | .exc _=>False
 | .stuck=>True
structure Ad(F pD:bT):Prop where
 fn:∀f vs z,jE F f vs z (pD.fn f vs z)
 blk:∀i C z,sU F i C z (pD.blk i C z)
theorem Ll(e6:∀I Z z σ' h,bo z I Z h->bo σ' I Z h)(G:∀z,av aG bb n Y bo z t (F.fn f vs z))(z:St)
  (h:jE F f vs z r):av aG bb n Y bo z t r:=by
 cases r with
 |stuck=>exact .stuck
 |ok v cK=>refine⟨λaP=>(h aP).1,λaP A I Z s Q E aw aS am aj aC=>?_⟩;refine pV ((h aP).2) ?_;intro o cl aO aM eN C le;have g:=G (z.fq o True);rw[aM]at g;exact g.2 eN A I Z s Q E aw (aS.le sT) (am.le sT) (e6 _ _ _ _ _ aj) λκ' Z' h' aR a x bW dP d=>aC κ' Z' h' aR a (x.from.le le) (bW.le le) (dP.le le) (Den.le d C)
 |exc cK=>refine⟨λaP=>(h aP).1,λaP A I Z s Q E aw aS am aj dt=>?_⟩;refine hp ((h aP).2) ?_;intro o aO aM eN le;have g:=G (z.fq o True);replace g:=aM▸g;exact g.2 eN A I Z s Q E aw (aS.le sT) (am.le sT) (e6 _ _ _ _ _ aj) λh' aR e U=>dt h' aR e (U.from.le le)
theorem Lm(G:Good ao P F m)(H:Ad F pD)(aQ:∀f,(∃o aF,B.get? (T.c8 f)=some o/\o.data= .func aF)\/∀vs z,pD.fn f vs z= .stuck):Good ao P pD m where
 fn:=λn aq Y f vs ay z=>Ll (λx9 x9 x9 x9 x9 q=>q) (λz=>G.fn n aq Y f vs ay z) z (H.fn f vs z)
 dfl:=λn aq Y v a z=>Ll (λx9 x9 x9 x9 x9 q=>q) (λz=>G.dfl n aq Y v a z) z (H.fn (P.g8 ao.jo) (v::ao.oZ.map .int) z)
 fnx:=aQ
 blk:=λn aq Y J bm i xs aB C z=>by
  have h:=H.blk i C z;generalize pD.blk i C z=r at h
  cases r with
  |stuck=>exact .stuck
  |exc cK=>exact h.elim
  |ok r cK=>refine⟨λaP=>(h aP).1,λaP A I Z s Q E pv aS am aj aC=>?_⟩;refine pV ((h aP).2) ?_;intro o lv1 aO aM eN xq le;have g:=G.blk n aq Y J bm i xs aB C (z.fq o True);rw[aM]at g;exact g.2 eN A I Z s Q E pv (aS.le sT) (am.le sT) (d7.le aj sT λx9 v e=>(bq v e (.refl v))) λκ' Z' h' aR a x bW dP d=>aC κ' Z' h' aR a (x.from.le le) (bW.le le) (dP.le le) ⟨d.1,d.2.le le xq⟩
end
end
noncomputable def d3{aI bG:Type}(o:Option aI)(k:aI->Res bG):Res bG:=match o with|some a=>k a|none=> .stuck
def gy{aI bG jZ:Type}(o:Option (aI×bG))(k:aI->bG->Res jZ):Res jZ:=d3 o λp=>match p with|(a,b)=>k a b
def qL{aI bG jZ Ae:Type}(o:Option (aI×bG×jZ))(k:aI->bG->jZ->Res Ae):Res Ae:=gy o λa p=>match p with|(b,c)=>k a b c
noncomputable def mJ{bG:Type}(c:Bool)(r:Res bG):Res bG:=match c with|true=>r|false=> .stuck
noncomputable def eS{aI bG:Type}(o:Option aI)(k:aI->Option bG):Option bG:=match o with|some a=>k a|none=>none
def nv{aI bG jZ:Type}(o:Option (aI×bG))(k:aI->bG->Option jZ):Option jZ:=eS o λp=>match p with|(a,b)=>k a b
noncomputable def E7{bG:Type}(c:Bool)(r:Option bG):Option bG:=match c with|true=>r|false=>none
section
variable{aI bG jZ Ae:Type}{R:Res Ae->Prop}{G:Prop}
theorem ea(h0:R .stuck)(h:∀a,o=some a->R (k a)):R (d3 o k):=by cases o;exact h0;exact h _ rfl
theorem gM(h0:R .stuck)(h:∀a b,o=some (a,b)->R (k a b)):R (gy o k):=ea h0 λp e=>h p.1 p.2 e
theorem sV(h0:R .stuck)(h:∀a b c,o=some (a,b,c)->R (k a b c)):R (qL o k):=gM h0 λa p e=>h a p.1 p.2 e
theorem nw(h0:R .stuck)(h:c=true->R r):R (mJ c r):=by cases c;exact h0;exact h rfl
theorem gz(h:eS o k=some y)(H:∀a,o=some a->k a=some y->G):G:=by cases o;exact iW h;exact H _ rfl h
theorem om(h:nv o k=some y)(H:∀a b,o=some (a,b)->k a b=some y->G):G:=gz h λp e h=>H p.1 p.2 e h
theorem Ln(h:E7 c r=some y)(H:c=true->r=some y->G):G:=by cases c;exact iW h;exact H rfl h
end
noncomputable def k8:V->Option Nat| .ref j=>some j|_=>none
noncomputable def sW:V->Option (Nat×List V)| .aD b l=>some (b,l)|_=>none
noncomputable def sX:V->Option Int| .int i=>some i|_=>none
noncomputable def Lo:Int->Option Nat| .ofNat n=>some n| .negSucc _=>none
def u0(v:V):Option Nat:=eS (sX v) Lo
noncomputable def u1:V->Option (List Nat)| .str s=>some s|_=>none
noncomputable def E8:V->Option Bool| .bool b=>some b|_=>none
noncomputable def pE:V->Bool| .none=>true|_=>false
noncomputable def Lp:O->Option (List (Nat×V))| .inst _ _ Y=>some Y|_=>none
noncomputable def Lq:O->Option (Nat×List (List Nat×V))| .ba b ah=>some (b,ah)|_=>none
noncomputable def Lr:O->Option (Nat×List V)| .list b l=>some (b,l)|_=>none
noncomputable def ny{aI:Type}:List aI->Option (aI×List aI)|a::r=>some (a,r)|[]=>none
def eN{aI:Type}(l:List aI):Option aI:=nv (ny l) λa r=>match r with|[]=>some a|_::_=>none
def es{aI:Type}(l:List aI):Option (aI×aI):=nv (ny l) λa r=>eS (eN r) λb=>some (a,b)
def u2{aI:Type}(l:List aI):Option (aI×aI×aI):=nv (ny l) λa r=>eS (es r) λp=>some (a,p)
theorem mK(h:k8 v=some j):v= .ref j:=by cases v<;>first|exact bz _ (a8 h)|exact iW h
theorem Af(h:sW v=some (b,l)):v= .aD b l:=by cases v<;>first|exact bz (λp:Nat×List V=>V.aD p.1 p.2) (a8 h)|exact iW h
theorem Ag(h:sX v=some j):v= .int j:=by cases v<;>first|exact bz _ (a8 h)|exact iW h
theorem Xj(h:Lo v=some j):v= .ofNat j:=by cases v<;>first|exact bz _ (a8 h)|exact iW h
theorem Fa(h:u0 v=some j):v= .int (.ofNat j):=gz h λx9 ae af=>(Ag ae).trans (bz V.int (Xj af))
theorem Ah(h:u1 v=some j):v= .str j:=by cases v<;>first|exact bz _ (a8 h)|exact iW h
theorem u3(h:pE v=true):v= .none:=by cases v<;>first|rfl|exact b3 h
theorem Xk(h:Lp o=some Y):∃c b1,o= .inst c b1 Y:=by cases o<;>first|exact tK _ _ (bz _ (a8 h))|exact iW h
theorem Xl(h:Lq o=some (b,l)):o= .ba b l:=by cases o<;>first|exact bz (λp:Nat×List (List Nat×V)=>O.ba p.1 p.2) (a8 h)|exact iW h
theorem Xm(h:Lr o=some (b,l)):o= .list b l:=by cases o<;>first|exact bz (λp:Nat×List V=>O.list p.1 p.2) (a8 h)|exact iW h
theorem Fb{l:List aI}{a:aI}{r:List aI}(h:ny l=some (a,r)):l=a::r:=by cases l;exact iW h;exact bz (λp:aI×List aI=>p.1::p.2) (a8 h)
theorem Fc(h:eN l=some a):l=[a]:=om h λb r ae af=>(Fb ae).trans (by cases r;exact bz (λx=>[x]) (a8 af);exact iW af)
theorem sY{l:List aI}{a b:aI}(h:es l=some (a,b)):l=[a,b]:=om h λx9 x9 ae af=>gz af λx9 ax a0=>(Fb ae).trans (Fc ax▸bz (λp:aI×aI=>[p.1,p.2]) (a8 a0))
theorem Ls{l:List aI}{a b c:aI}(h:u2 l=some (a,b,c)):l=[a,b,c]:=om h λx9 x9 ae af=>gz af λp ax a0=>(Fb ae).trans (sY (a:=p.1) (b:=p.2) ax▸bz (λp:aI×aI×aI=>[p.1,p.2.1,p.2.2]) (a8 a0))
def qM(o:Option V):Option Nat:=eS o k8
theorem sZ(h:qM o=some j):o=some (.ref j):=gz h λx9 ae af=>ae.trans (bz some (mK af))
def s0(o:Option V):Option (Nat×List V):=eS o sW
theorem u4(h:s0 o=some (b,l)):o=some (.aD b l):=gz h λx9 ae af=>ae.trans (bz some (Af af))
def Fd(o:Option V):Bool:=match o with|some v=>pE v|none=>false
theorem Lu(h:Fd o=true):o=some .none:=by cases o;exact b3 h;exact bz some (u3 h)
def nz(o:Option O):Option (List (Nat×V)):=eS o Lp
theorem s1(h:nz o=some Y):∃c b1,o=some (.inst c b1 Y):=gz h λx9 ae af=>kG (Xk af) λc b1 e=>(tK c b1 (ae.trans (bz some e)))
def xr(o:Option O):Option (Nat×List (List Nat×V)):=eS o Lq
theorem Ai(h:xr o=some (b,l)):o=some (.ba b l):=gz h λx9 ae af=>ae.trans (bz some (Xl af))
noncomputable def xt:List Nat:=me
noncomputable def xu:List Nat:=[97,116]
noncomputable def Aj:List Nat:=[105,110,116,101,103,101,114]
noncomputable def u5:List Nat:=fa
def qN(cells:List V)(a:Nat):O:= .ba 2 [(xt, .aD 63 cells),(xu, .int (.ofNat a))]
noncomputable def xv(sub:V)(s:V):V:= .tup [s,sub, .none]
def hB(sub:V)(l:List V):List V:=l.map (xv sub)
noncomputable def aZ(ns:List (List Nat)):List V:=ns.map V.str
def j5(l:List V)(ns:List (List Nat)):Prop:=l=hB (.ref 3072) (aZ ns)/\ns.length<=64
noncomputable def xw:List Nat:=[1,0,2,0,1,2,1,1,2,1,0,2,3,2,4,5,2,0]
def fh(cells:List V)(a k:Nat):Nat:=match Nat.ble (a+1) cells.length with
 |true=>match cells[a]?with
  |some (.int i)=>(i%(.ofNat k)).toNat
  |_=>0
 |false=>((xw[a%18]?).getD 0)%k
noncomputable def s2(n:Nat):V:= .str [97+n]
def nA(cells:List V)(a:Nat):List V×Nat:=match fh cells a 3 with
 |0=>([],a+1)
 |1=>([s2 (fh cells (a+1) 6)],a+2)
 |_=>([s2 (fh cells (a+1) 6),s2 (fh cells (a+2) 6)],a+3)
noncomputable def oo(cells:List V):Prop:=cells.length<=63/\∀v∈cells,∃i,v= .int i
def Fe(z:St)(r:Nat):Option (List V×Nat):=nv (xr (z.heap r)) λb ah=>nv (es ah) λx y=>nv (sW x.2) λjg cells=>eS (u0 y.2) λa=>E7 (el x.1 xt&&(el y.1 xu&&(Nat.ble b 100&&Nat.beq jg 63))) (some (cells,a))
noncomputable def eT(k:Nat):Bool:=match Nat.ble 15 k with
 |true=>match Nat.ble k 17 with
  |true=>true
  |false=>match Nat.ble 22 k with
   |true=>Nat.ble k 25
   |false=>false
 |false=>false
def St.drop(z:St)(c:Nat):St:={z with
 heap:=λid=>match eT (id/1024)with|true=>none|false=>z.heap id
 nx:=λk=>match eT k with|true=>z.nx k+c|false=>z.nx k}
noncomputable def s3(z:St):Bool:=Nat.ble (z.nx 15) 900&&(Nat.ble (z.nx 16) 900&&(Nat.ble (z.nx 17) 900&&(Nat.ble (z.nx 22) 900&&(Nat.ble (z.nx 23) 900&&(Nat.ble (z.nx 24) 900&&Nat.ble (z.nx 25) 900)))))
def s4(z:St)(t:Nat):Option (List Nat×List V×V):=eS (nz (z.heap t)) λY=>eS (eS (dk 11 Y) u1) λkind=>nv (s0 (dk 7 Y)) λb cH=>eS (dk 17 Y) λd=>E7 (Fd (dk 8 Y)&&(Fd (dk 16 Y)&&Nat.ble b 64)) (some (kind,cH,d))
def Ak(z:St):Bool:=hK (λi=>Nat.beq i 2048) (eS (nz (z.heap 3072)) λY=>qM (dk 25 Y))&&(hK (λi=>Nat.beq i 61) (eS (nz (z.heap 2048)) λY=>eS (dk 23 Y) u0)&&hK (λp=>fK p.2.1&&(pE p.2.2&&!el p.1 u5)) (s4 z 2048))
def Al(z:St)(d:Nat):Option Nat:=eS (nz (z.heap d)) λY=>qM (dk 25 Y)
noncomputable abbrev xx:=List (Nat×Option O)
noncomputable def la:List Nat:=[2049,2080,2056,2064,2072,2082,2083,2084,2088,2096,2104,2112,2120,2105,2113,2121]
noncomputable def Am:List Nat:=[36865,36896,10244,10248,10252,10260,10264,10268,10272,10276]
noncomputable def gN(x:Nat):xx->Option O
 |[]=>none
 |(y,o)::r=>match Nat.beq y x with|true=>o|false=>gN x r
theorem aev{x:Nat}:gN x []=none:=rfl
theorem xy{x y:Nat}{o:Option O}{r:xx}:gN x ((y,o)::r)=match Nat.beq y x with|true=>o|false=>gN x r:=rfl
def mL(o:Option O):Option V:=eS (nz o) (dk 10)
def numOf(o:Option O):Option V:=eS (nz o) (dk 23)
def qO(o:Option O):Option V:=eS (nz o) (dk 21)
noncomputable def iX(ids:List Nat)(h:Nat->Option O):xx:=ids.map λid=>(id,h id)
class inductive s5(T:xx)(num:Int):Nat->Nat->Prop
 |here {c:Nat} {p:V} (n:Nat):numOf (gN c T)=some (.int num)->mL (gN c T)=some .none->s5 T num n c
 |up {c p n:Nat} {i:Int}:numOf (gN c T)=some (.int i)->mL (gN c T)=some (.ref p)->s5 T num n p->s5 T num (n+1) c
def Ff(T D:xx)(q:Nat)(key:List Nat):Prop:=∃d b ah,qO (gN q T)=some (.ref d)/\gN d D=some (.ba b ah)/\c7 key ah=none
noncomputable def nB(own cN:List (List Nat)):Bool:=decide own.Nodup&&decide (∀s∈own,s∉cN)
def dictAt(z:St)(v:Option V):Option (List (List Nat×V)):=eS (qM v) λid=>nv (xr (z.heap id)) λx9 ah=>some ah
def listAt(z:St)(v:Option V):Option (List V):=eS (qM v) λid=>nv (eS (z.heap id) Lr) λx9 l=>some l
def xz(v:Option V):Option (List V):=nv (s0 v) λx9 l=>some l
def Fg(args:List V)(z:St):Res V:=gy (es args) λx y=>d3 (k8 x) λj=>d3 (u0 y) λk=>gy (Fe z j) λcells a=>gy (ny z.orc) λo bU=>d3 (u0 o) λr=>
 mJ (Nat.ble 1 k) (.ok (.int (.ofNat r)) {z.set j (qN cells (a+1))with orc:=bU,log:=z.log/\oo cells/\fh cells a k=r})
def Lv(args:List V)(z:St):Res V:=d3 (eN args) λx=>d3 (k8 x) λj=>gy (Fe z j) λcells a=>gy (ny z.orc) λmI dR=>gy (sW mI) λb own=>gy (ny dR) λlu bU=>d3 (u0 lu) λaX=>
 mJ (Nat.beq b 2) (.ok (.aD 2 own) {z.set j (qN cells aX)with orc:=bU,log:=z.log/\oo cells/\nA cells a=(own,aX)})
def Lw(args:List V)(z:St):Res V:=gy (es args) λx y=>d3 (k8 x) λaA=>gy (sW y) λx9 l=>d3 (nz (z.heap aA)) λY=>d3 (qM (dk 88 Y)) λd=>gy (xr (z.heap d)) λx9 ah=>d3 (c7 Aj ah) λsub=>
 .ok (.aD 2 (hB sub l)) {z with log:=z.log/\l.length<=2}
def Lx(args:List V)(z:St):Res V:=d3 (eN args) λx=>d3 (k8 x) λt=>qL (s4 z t) λx9 cH x9=>gy (ny z.orc) λo bU=>gy (sW o) λb names=>
 mJ (Nat.beq b 64) (.ok (.aD 64 names) {z with orc:=bU,log:=z.log/\∃ns,j5 cH ns/\names=aZ ns})
def Ly(args:List V)(z:St):Res V:=qL (u2 args) λx y aE=>d3 (k8 x) λp=>gy (sW y) λb fR=>d3 (sX aE) λx9=>qL (s4 z p) λx9 cH x9=>d3 (nz (z.heap p)) λY=>gy (s0 (dk 6 Y)) λLz LA=>
 mJ (Nat.beq Lz 0&&(fK LA&&(s3 z&&(Nat.ble b 64&&!eT (p/1024))))) (gy (ny z.orc) λo bU=>d3 (E8 o) λr=>match r with
  |true=> .ok .none {z.drop 2 with orc:=bU,log:=z.log/\∃ns,j5 (cH++fR) ns/\ns.Nodup}
  |false=> .exc {z.drop 2 with orc:=bU,log:=z.log/\∃ns,j5 (cH++fR) ns/\¬ns.Nodup})
def Xn(t:Nat)(cH:List V)(z:St):Res V:=mJ (s3 z&&(Ak z&&!eT (t/1024))) (.ok .none {z.drop 30 with log:=z.log/\∃ns,j5 cH ns/\ns.length<=24})
def Xo(t d:Nat)(kind:List Nat)(cH:List V)(z:St):Res V:=d3 (Al z d) λb=>qL (s4 z b) λx9 cb e=>
 mJ (pE e&&(s3 z&&(Ak z&&(el kind u5&&(!eT (t/1024)&&(!eT (d/1024)&&!eT (b/1024))))))) (.ok .none {z.drop 30 with log:=z.log/\(∃ns,j5 cH ns/\ns.length<=24)/\∃ns,j5 cb ns/\ns.length<=24})
def LB(args:List V)(z:St):Res V:=gy (es args) λx9 y=>d3 (k8 y) λt=>qL (s4 z t) λkind cH e=>match pE e with
 |true=>Xn t cH z
 |false=>d3 (k8 e) λd=>Xo t d kind cH z
def LC(args:List V)(z:St):Res V:=gy (es args) λx y=>d3 (k8 x) λt=>d3 (sX y) λnum=>qL (s4 z t) λx9 cH e=>
 mJ (pE e&&(s3 z&&(Ak z&&(!(eC 61 num)&&!eT (t/1024))))) (.ok (.bool false) {z.drop 10 with log:=z.log/\∃ns,j5 cH ns/\ns.length<=2})
def LD(args:List V)(z:St):Res V:=gy (es args) λx y=>d3 (k8 x) λc=>d3 (k8 y) λnC=>d3 (eS (numOf (z.heap nC)) sX) λnum=>mJ (s3 z&&(!eT (c/1024)&&!eT (nC/1024))) (d3 (mL (z.heap c)) λq=>match pE q with
 |true=>d3 (eS (numOf (z.heap c)) sX) λi=> .ok (.bool (eC i num)) (z.drop 1)
 |false=>d3 (k8 q) λx9=> .ok (.bool true) {z.drop 1 with log:=z.log/\s5 (iX la z.heap) num 12 c})
def LF(args:List V)(z:St):Res V:=qL (u2 args) λx y aE=>d3 (k8 x) λt=>d3 (u1 y) λkey=>d3 (u1 aE) λsub=>d3 (qM (mL (z.heap t))) λq=>d3 (qM (qO (z.heap t))) λd=>gy (xr (z.heap d)) λb ah=>
 mJ (small b) (.ok (.bool false) {z.set d (.ba (b+1) (fJ key (.str sub) ah))with log:=z.log/\Ff (iX la z.heap) (iX Am z.heap) q key})
def An:List (Nat×(List V->St->Res V)):=[(37,LD),(38,Ly),(41,LF),(50,LC),(51,LB),(52,Fg),(53,Lw),(57,Lv),(59,Lx)]
noncomputable def Ao{aI:Type}(f:Nat):List (Nat×aI)->Option aI
 |[]=>none
 |p::r=>match Nat.beq f p.1 with|true=>some p.2|false=>Ao f r
def s6(f:Nat):Option (List V->St->Res V):=match Nat.ble 37 f with|true=>Ao f An|false=>none
def Xp(f:Nat)(args:List V)(z:St):Res V:=d3 (s6 f) λg=>g args z
def LG(f:Nat):Bool:=hK (λx9=>true) (s6 f)
noncomputable def LH:List Nat:=i2
noncomputable def Fh:List Nat:=[111,119,110]
noncomputable def LI:List Nat:=[97,108,108]
def ownsOf(z:St)(iY:List (List Nat×V)):List V->Option (List (List V))
 |[]=>some []
 |v::r=>eS (u1 v) λs=>eS (dictAt z (c7 s iY)) λres=>eS (xz (c7 Fh res)) λown=>eS (ownsOf z iY r) λl=>some (own::l)
theorem LJ{z:St}{iY:List (List Nat×V)}{v:V}{r:List V}:ownsOf z iY (v::r)=eS (u1 v) λs=>eS (dictAt z (c7 s iY)) λres=>eS (xz (c7 Fh res)) λown=>eS (ownsOf z iY r) λl=>some (own::l):=rfl
def LK(C:aK)(z:St):Res (cg×aK):=gy (s0 (C 72)) λb own=>gy (s0 (C 71)) λjg known=>gy (s0 (C 92)) λk3 j6=>gy (ny z.orc) λo bU=>d3 (E8 o) λr=>
 mJ (s3 z&&(Nat.ble b 2&&(Nat.ble jg 64&&Nat.ble k3 64))) (.ok (.next,C.set 93 (.bool r)) {z.drop 1 with orc:=bU,log:=z.log/\∃ns cN,own=aZ ns/\known++j6=aZ cN/\cN.length<=64/\ns.length<=64/\nB ns cN=r})
def LL(C:aK)(z:St):Res (cg×aK):=d3 (dictAt z (C 106)) λAp=>d3 (listAt z (c7 LH Ap)) λnames=>d3 (dictAt z (C 90)) λiY=>d3 (dictAt z (c7 [116] iY)) λAq=>d3 (xz (c7 LI Aq)) λdV=>d3 (ownsOf z iY names) λlO=>gy (ny z.orc) λo bU=>d3 (E8 o) λr=>
 mJ (kJ (C 69)&&Nat.ble names.length 3) (.ok (.next,C.set 93 (.bool r)) {z with orc:=bU,log:=z.log/\∃(fS:List (List (List Nat)))(cN:List (List Nat)),lO=fS.map aZ/\(∀ns∈fS,ns.length<=64)/\dV=aZ cN/\decide (∀ns∈fS,∀s∈ns,s∉cN)=r})
def Fi(i:Nat)(C:aK)(z:St):Res (cg×aK):=match Nat.beq i 6 with
 |true=>LK C z
 |false=>match Nat.beq i 7 with
  |true=>LL C z
  |false=> .stuck
noncomputable def LM(i:Nat):Bool:=match Nat.beq i 6 with|true=>true|false=>Nat.beq i 7
def xA:bT:=⟨λf vs z=>Xp f vs z,λi C z=>Fi i C z⟩
def en:Nat->bT
 |0=>xA
 |n+1=>⟨λf vs z=>match LG f with|true=>xA.fn f vs z|false=>dO P0 (en n) f vs z,
  λi C z=>match LM i with|true=>xA.blk i C z|false=>rC P0 (en n) i C z⟩
noncomputable def lP(vars:List Nat)(ah:List (Nat×O))(nx:Nat->Nat):Res (cg×aK)->Option (cg×List (Option V)×List (Option O)×Bool×List V×Prop)
 | .ok r z=>some (r.1,vars.map r.2,ah.map λe=>z.heap e.1,(List.range 64).all λk=>Nat.ble (z.nx k) (nx k),z.orc,z.log)
 |_=>none
noncomputable abbrev io:=Option (cg×List (Option V)×List (Option O)×Bool×List V×Prop)
noncomputable abbrev mM:=Option (V×List V×Prop)
noncomputable def eZ{A:Type}(f:Nat->A)(n:Nat):List A:= @Nat.rec (λx9=>List A) [] (λn r=>f n::r) n
theorem j7(h:eZ f n=eZ g n):∀i,i<n->f i=g i:=by
 induction n with
 |zero=>exactλi h=>bf h (Nat.not_lt_zero i)
 |succ n ih=>exactλi aW=>(Nat.lt_succ_iff_lt_or_eq.mp aW).elim (ih (List.cons.inj h).2 i) λe=>e▸(List.cons.inj h).1
section
variable{A B b6 R:Type}
noncomputable def s7(f:A->R×R):A->R:=λa=>(f a).1
noncomputable def s8(f:A->R×R):A->R:=λa=>(f a).2
noncomputable def xB(f:A->B->R×R):A->B->R:=λa b=>(f a b).1
noncomputable def xC(f:A->B->R×R):A->B->R:=λa b=>(f a b).2
noncomputable def qP(f:A->B->b6->R×R):A->B->b6->R:=λa b c=>(f a b c).1
noncomputable def qQ(f:A->B->b6->R×R):A->B->b6->R:=λa b c=>(f a b c).2
theorem u6(h:s7 f=s8 f):∀a,(f a).1=(f a).2:=λa=>congrFun h a
theorem Ar(h:xB f=xC f):∀a b,(f a b).1=(f a b).2:=λa b=>congrFun (congrFun h a) b
theorem ta(h:qP f=qQ f):∀a b c,(f a b c).1=(f a b c).2:=λa b c=>congrFun (congrFun (congrFun h a) b) c
end
structure Slot where
 jF:List V
 ek:List V
 al:List V
 co:List V
 cb:List V
 q:Nat
 qb:Nat
 pn:List Nat
structure Dat where
 cells:List V
 a:Nat
 slot:Nat->Slot
noncomputable def Dat.put(D:Dat)(a:Nat)(s:Nat)(x:Slot):Dat:={D with a:=a,slot:=λi=>match Nat.beq i s with|true=>x|false=>D.slot i}
noncomputable def bt(t i:Nat):V:= .ref (t*1024+i)
noncomputable def c5(t i:Nat)(o:O):Nat×O:=(t*1024+i,o)
noncomputable def Xq:V:= .str oU
noncomputable def gm:V:= .str i2
noncomputable def dd:V:= .str fa
noncomputable def e8:V:= .str rF
noncomputable def As:V:= .str [98,111,100,121]
noncomputable def Au:V:= .str rD
noncomputable def Xr:V:= .str [99,108,97,115,115]
noncomputable def Xs:V:= .str [105,110,116]
noncomputable def Xt:V:= .str tW
noncomputable def Xu:V:= .str [114,111,111,116]
noncomputable def Xv:V:= .str [98,108,111,99,107]
noncomputable def lQ(s:Nat):List Nat:=match s with
 |0=>[116]
 |1=>[118,49]
 |2=>[118,50]
 |3=>[118,51]
 |5=>[112,49]
 |6=>[112,50]
 |7=>[111,49]
 |8=>[111,50]
 |_=>[111,51]
def lR(s:Nat):V:= .str (lQ s)
def Xw(s:Nat):V:= .str (lQ s++[39,99,108,97,115,115])
noncomputable def dW(n:Nat):V:= .int (.ofNat n)
def Av(s:Nat)(sub:V)(num:Nat)(Xx part Xy:V)(Xz:Bool):O:= .inst 1 17 [(11,Xq),(2,lR s),(34, .none),(0,sub),(79, .none),(70, .int 3),(23,dW num),(45,lR s),(52,Xx),(37,part),(36, .none),(63,Xy),(54, .bool true),(64, .bool Xz),(18, .bool false),(51, .bool false),(49, .bool false)]
def LN(kind name:V)(num:Nat)(parent low high cH xD:V)(tag:Bool)(wide:V)(Fj:Bool)(nW:V):O:= .inst 2 24 [(11,kind),(2,name),(23,dW num),(10,parent),(3,low),(4,high),(12, .aD 0 []),(13, .int 0),(14, .tup [.int 1, .int 1]),(15, .aD 0 []),(16, .none),(9, .bool true),(6, .aD 0 []),(7,cH),(8, .none),(17,xD),(19, .bool tag),(32,wide),(20, .bool false),(89, .bool Fj),(80, .bool false),(18, .bool false),(112, .bool false),(21,nW)]
def qR(kind name:V)(num:Nat)(parent cH xD wide:V)(Fj:Bool)(nW:V):O:=LN kind name num parent .none .none cH xD true wide Fj nW
def Aw(s num:Nat)(t:V)(xD nW:V):O:=qR Xr (Xw s) num t (.aD 0 []) xD .none false nW
noncomputable def qS(t:V):O:= .inst 3 2 [(25,t),(1, .none)]
noncomputable def XA:List Nat:=nT
noncomputable def XB:List Nat:=[115,101,101,110]
noncomputable def XC:List Nat:=[111,119,110]
noncomputable def XD:List Nat:=[112,97,114,101,110,116]
noncomputable def XE:List Nat:=[97,108,108]
def Ax(b:Nat)(XF ek jF:V)(pn:List Nat)(all:V):O:= .ba b [(XA,XF),(XB,ek),(XC,jF),(XD, .str pn),(XE,all)]
def Fk(i:Nat)(kind owner parent:V)(made num:Nat)(part:V):O:= .inst 4 15 [(11,kind),(35,owner),(10,parent),(43,bt 4 0),(5,dW made),(23,dW num),(84, .int 0),(37,part),(47,bt 41 i),(53,bt 42 i),(60, .aD 0 []),(61, .aD 0 []),(44,bt 43 i),(55,bt 44 i),(121, .none)]
structure Cfg where
 oq:Nat
 k:Nat
 m:Nat
 n:Nat
 done:Nat
 ai:Nat
noncomputable def upTo:Nat->List Nat
 |0=>[]
 |n+1=>upTo n++[n]
theorem XG{n:Nat}:upTo (n+1)=upTo n++[n]:=rfl
def Cfg.vs(c:Cfg):List Nat:=(upTo c.k).map λi=>i+1
def Cfg.bR(c:Cfg):List Nat:=(upTo c.m).map λi=>i+5
def Cfg.os(c:Cfg):List Nat:=(upTo c.n).map λi=>i+7
noncomputable def Cfg.slots(c:Cfg):List Nat:=c.vs++c.bR++c.os
noncomputable def jG(c:Cfg):Bool:=Nat.ble 2 c.oq
noncomputable def Fl(c:Cfg):Bool:=Nat.ble 1 c.oq
noncomputable def ot(c:Cfg)(s:Nat):Nat:=match Nat.ble s 3 with
 |true=>101+2*s
 |false=>match Nat.ble s 6 with
  |true=>104+2*c.k+2*(s-5)
  |false=>104+2*c.k+2*c.m+2*(s-7)
noncomputable def XH(c:Cfg):Nat:=match c.oq with
 |0=>102+2*c.k
 |1=>102+2*c.k
 |_=>103+2*c.k+2*c.m+2*c.n
noncomputable def Fm(c:Cfg)(s:Nat):Nat:=match Nat.ble s 3 with
 |true=>5+s
 |false=>match Nat.ble s 6 with
  |true=>6+c.k+(s-5)
  |false=>6+c.k+c.m+(s-7)
def ou(s:Nat):List Nat:=[103,111,32]++lQ s
def u7(c:Cfg)(i:Nat)(s:Nat):O:=match Nat.blt i c.done with
 |true=> .ba 1 [(ou s,lR s)]
 |false=> .ba 0 []
def XI(s:Nat):V:=match Nat.ble s 3 with
 |true=> .tup [bt 4 1,gm]
 |false=>match Nat.ble s 6 with
  |true=> .tup [bt 4 1,dd]
  |false=> .tup [bt 4 2,As]
def XJ(c:Cfg)(D:Dat)(i s:Nat):List (Nat×O):=
 [c5 1 (1+s) (Av s (bt 3 (10*s)) (Fm c s) (bt 4 1) gm (match jG c with|true=>bt 3 (42+2*s)|false=> .none) true),
  c5 12 (1+s) (.list 1 [bt 1 (1+s)]),
  c5 3 (10*s) (qS (bt 2 (8*s))),
  c5 2 (8*s) (qR dd (lR s) (ot c s) (.ref (D.slot s).q) (.aD 64 (D.slot s).co) (match jG c with|true=>bt 3 (42+2*s)|false=> .none) (bt 2 (8*s+1)) false (bt 10 (4*s))),
  c5 2 (8*s+1) (Aw s (ot c s+1) (bt 2 (8*s)) (bt 3 (10*s+1)) (bt 36 (8*s+1))),
  c5 10 (4*s) (u7 c i s),
  c5 26 s (Ax (match jG c with|true=>6|false=>5) (bt 1 (1+s)) (.aD 64 (D.slot s).ek) (.aD 2 (D.slot s).jF) (D.slot s).pn (match jG c with|true=> .aD 64 (D.slot s).al|false=> .none))]
 ++match jG c with
  |true=>[c5 3 (42+2*s) (qS (bt 2 (33+s))),c5 2 (33+s) (qR Au (lR s) (ot c s) (.ref (D.slot s).qb) (.aD 64 (D.slot s).cb) .none (bt 2 (8*s+1)) false (bt 10 (4*s)))]
  |false=>[]
def XK(c:Cfg)(D:Dat)(i s:Nat):List (Nat×O):=
 [c5 1 (1+s) (Av s (bt 3 (10*s)) (Fm c s) (bt 4 1) dd .none true),
  c5 12 (1+s) (.list 1 [bt 1 (1+s)]),
  c5 3 (10*s) (qS (bt 2 (8*s))),
  c5 2 (8*s) (qR Au (lR s) (ot c s) (.ref (D.slot s).q) (.aD 64 (D.slot s).co) .none (bt 2 (8*s+1)) false (bt 10 (4*s))),
  c5 2 (8*s+1) (Aw s (ot c s+1) (bt 2 (8*s)) (bt 3 (10*s+1)) (bt 36 (8*s+1))),
  c5 10 (4*s) (u7 c i s),
  c5 26 s (Ax 5 (bt 1 (1+s)) (.aD 64 (D.slot s).ek) (.aD 2 (D.slot s).jF) (D.slot s).pn (.aD 64 (D.slot s).al))]
def XM(c:Cfg)(D:Dat)(i s:Nat):List (Nat×O):=
 [c5 1 (1+s) (Av s (bt 3 (10*s+2)) (Fm c s) (bt 4 2) As .none true),
  c5 12 (1+s) (.list 1 [bt 1 (1+s)]),
  c5 3 (10*s+2) (qS (bt 2 (8*s))),
  c5 3 (10*s+1) (qS (bt 2 (8*s+1))),
  c5 2 (8*s) (qR dd (lR s) (ot c s) (.ref (D.slot s).q) (.aD 64 (D.slot s).co) (bt 3 (10*s+1)) (bt 2 (8*s+2)) false (bt 10 (4*s))),
  c5 2 (8*s+1) (qR Au (lR s) (ot c s) (.ref (D.slot s).qb) (.aD 64 (D.slot s).cb) .none (bt 2 (8*s+2)) false (bt 10 (4*s))),
  c5 2 (8*s+2) (Aw s (ot c s+1) (bt 2 (8*s)) (bt 3 (10*s+3)) (bt 36 (8*s+2))),
  c5 10 (4*s) (u7 c i s),
  c5 26 s (Ax 5 (bt 1 (1+s)) (.aD 64 (D.slot s).ek) (.aD 2 (D.slot s).jF) (D.slot s).pn (.aD 64 (D.slot s).al))]
noncomputable def Ay(f:Nat->Nat->List (Nat×O)):Nat->List Nat->List (Nat×O)
 |_,[]=>[]
 |i,s::r=>f i s++Ay f (i+1) r
def XN(c:Cfg)(D:Dat):List (Nat×O):=
 [c5 1 1 (Av 0 (bt 3 1) 5 (bt 4 1) gm (match jG c with|true=>bt 3 40|false=> .none) (jG c)),
  c5 12 1 (.list 1 [bt 1 1]),
  c5 3 1 (qS (bt 2 1)),
  c5 2 1 (qR dd (lR 0) 101 .none (.aD 0 []) (match jG c with|true=>bt 3 40|false=> .none) (bt 2 2) true (match jG c with|true=>bt 36 32|false=>bt 36 1)),
  c5 2 2 (Aw 0 102 (match jG c with|true=>bt 2 32|false=>bt 2 1) (match jG c with|true=>bt 3 42|false=>bt 3 2) (bt 36 2)),
  c5 30 0 (Ax (match Fl c with|true=>6|false=>5) (bt 1 1) (.aD 0 []) (.aD 0 []) [] (match Fl c with|true=> .aD c.ai (D.slot 0).al|false=> .none)),
  c5 36 1 (.ba 0 [])]
 ++match jG c with
  |true=>[c5 3 40 (qS (bt 2 32)),c5 2 32 (qR Au (lR 0) 101 .none (.aD 2 (D.slot 0).cb) .none (bt 2 2) false (bt 36 32)),c5 36 32 (.ba 0 [])]
  |false=>[]
def XO(s:Nat):List Nat×V:=(lQ s,match s with|0=>bt 30 0|_=>bt 26 s)
def Fn(c:Cfg)(D:Dat):List (Nat×O):=
 [c5 5 0 (.inst 5 13 [(39,match c.oq with|3=>bt 4 2|_=>bt 4 1),(113,bt 6 0),(114, .none),(88,bt 28 0),(115, .none),(116, .none),(117,bt 37 0),(118,bt 38 0),(31,bt 29 0),(119,bt 40 0),(70, .int 1),(28,dW (XH c)),(120, .int 0)]),
  c5 4 0 (Fk 0 Xu .none .none (5+c.k+c.m+c.n) 1 As),
  c5 4 1 (Fk 1 Xt (bt 1 0) (bt 4 0) 0 3 (match Fl c with|true=>dd|false=>gm)),
  c5 4 2 (Fk 2 Xv .none (bt 4 0) 0 4 As),
  c5 41 0 (.ba 1 [([112],bt 12 0)]),
  c5 43 0 (.ba (2+c.k+c.m+c.n) (([112], .int 1)::(0::c.slots).map λs=>(lQ s, .int 1))),
  c5 44 0 (.ck (1+c.k+c.m+c.n) ((0::c.slots).map λs=>(.ofNat (ot c s),XI s))),
  c5 41 1 (.ba (1+c.k+c.m) ((0::c.vs++c.bR).map λs=>(lQ s,bt 12 (1+s)))),
  c5 42 1 (.list (1+c.k+c.m) ((0::c.vs++c.bR).map λs=>bt 1 (1+s))),
  c5 41 2 (.ba c.n (c.os.map λs=>(lQ s,bt 12 (1+s)))),
  c5 42 2 (.list c.n (c.os.map λs=>bt 1 (1+s))),
  c5 29 0 (.ba 3 [([97,115,32,112,114,105,118,97,116,101], .fn 54),([97,115,32,114,111,119], .fn 55),([97,115,32,109,111,114,101], .fn 56)]),
  c5 28 0 (.ba 1 [(Aj,bt 3 0)]),
  c5 3 0 (qS (bt 2 0)),
  c5 2 0 (LN Xs (.str [110]) 61 .none (.int (-8)) (.int 7) (.aD 0 []) .none false .none false (bt 36 0)),
  c5 27 0 (qN D.cells D.a),
  c5 31 0 (.ba (1+c.k+c.m+c.n) ((0::c.slots).map XO)),
  c5 35 0 (.ba 3 [(i2,bt 32 0),(fa,bt 33 0),(rF,bt 34 0)]),
  c5 32 0 (.list c.k (c.vs.map lR)),
  c5 33 0 (.list c.m (c.bR.map lR)),
  c5 34 0 (.list c.n (c.os.map lR))]
def fB(c:Cfg)(D:Dat):List (Nat×O):=Fn c D++XN c D++Ay (XJ c D) 0 c.vs++Ay (XK c D) c.k c.bR++Ay (XM c D) (c.k+c.m) c.os
noncomputable def j8(s k:Nat):Nat:=match Nat.ble 11 k with
 |true=>match Nat.ble k 26 with
  |true=>match k with
   |12=>1+s
   |26=>s
   |_=>50*s
  |false=>match k with
   |36=>8*s
   |41=>3
   |42=>3
   |43=>3
   |44=>3
   |_=>1
 |false=>match k with
  |1=>1+s
  |2=>8*s
  |3=>10*s
  |4=>3
  |10=>4*s
  |_=>1
def nE(c:Cfg)(s:Nat)(D:Dat):St:=⟨λid=>gN id ((fB c D).map λe=>(e.1,some e.2)),j8 s,[],True⟩
noncomputable def dq:List (Nat×V)->aK
 |[],_=>none
 |(y,v)::r,x=>match Nat.beq y x with|true=>some v|false=>dq r x
def dL:List (Nat×V):=[(24,bt 5 0),(39,bt 4 1),(86,bt 27 0),(90,bt 31 0),(97,bt 4 2),(106,bt 35 0)]
noncomputable def tb:List Nat:=[24,39,86,90,97,106,98]
def tc(g2:V):List (Option V):=[some (bt 5 0),some (bt 4 1),some (bt 27 0),some (bt 31 0),some (bt 4 2),some (bt 35 0),some g2]
noncomputable def lS(D:Dat)(p:Nat):List V:=match p with|0=>[]|_=>(D.slot p).ek
noncomputable def hW(D:Dat)(p:Nat):List V:=match p with|0=>[]|_=>(D.slot p).co
noncomputable def pF(p:Nat):Nat:=match p with|0=>2049|_=>2048+8*p
noncomputable def jk(p:Nat):Nat:=match p with
 |0=>2080
 |_=>match Nat.ble p 3 with
  |true=>2081+p
  |false=>match Nat.ble p 6 with
   |true=>2048+8*p
   |false=>2049+8*p
noncomputable def g3(D:Dat)(p:Nat):List V:=match p with
 |0=>(D.slot 0).cb
 |_=>match Nat.ble p 3 with
  |true=>(D.slot p).cb
  |false=>match Nat.ble p 6 with
   |true=>(D.slot p).co
   |false=>(D.slot p).cb
def cf(own:List V):List V:=hB (.ref 3072) own
def Fo(D:Dat)(p:Nat)(own:List V):Slot:=⟨own,lS D p++own,[],hW D p++cf own,[],pF p,jk p,lQ p⟩
def Fp(D:Dat)(p:Nat)(own:List V):Slot:=⟨own,(D.slot p).al++own,(D.slot p).al++own,g3 D p++cf own,g3 D p++cf own,jk p,jk p,lQ p⟩
def Fq(D:Dat)(p:Nat)(own:List V):Slot:=⟨own,lS D p++own,(D.slot p).al++own,hW D p++cf own,g3 D p++cf own,pF p,jk p,lQ p⟩
def Dat.par(D:Dat)(s p:Nat):Dat:={D with slot:=λi=>match Nat.beq i s with|true=>{D.slot s with q:=pF p,pn:=lQ p}|false=>D.slot i}
def Dat.Az(D:Dat)(s p:Nat):Dat:={D with slot:=λi=>match Nat.beq i s with|true=>{D.slot s with al:=(D.slot p).al++(D.slot s).jF,cb:=g3 D p++cf (D.slot s).jF,qb:=jk p}|false=>D.slot i}
def Dat.dV(D:Dat)(h:List V):Dat:={D with slot:=λi=>match i with|0=>{D.slot 0 with al:=h,cb:=cf h}|_=>D.slot i}
def td(oq k m n s j:Nat)(g2:V)(D:Dat)(orc:List V):Res (cg×aK):=(en 20).blk 3 ((dq (dL++[(98,g2)])).set 85 (dW j)) {nE ⟨oq,k,m,n,0,2⟩ s D with orc:=orc}
def ky(D:Dat)(a k p:Nat):Prop:=oo D.cells/\fh D.cells a k=p
def ov(D:Dat)(a:Nat)(own:List V)(aX:Nat):Prop:=oo D.cells/\nA D.cells a=(own,aX)
def qT(own cN:List V)(r:Bool):Prop:=∃ns wb,own=aZ ns/\cN=aZ wb/\wb.length<=64/\ns.length<=64/\nB ns wb=r
def te(fR:List V):Prop:=∃ns,j5 fR ns/\ns.Nodup
def tf(fR:List V):Prop:=∃ns,j5 fR ns/\¬ns.Nodup
def u8(fR:List V):Prop:=∃ns,j5 fR ns/\ns.length<=24
noncomputable def jH(x y:List V):Prop:=x.length+y.length<=64
noncomputable def va(x y:List V)(aE:List V):Prop:=∃j:Nat,Int.ofNat x.length=Int.ofNat j/\aE=y.drop j/\aE.length<=64
def Fs(k p:Nat)(D:Dat)(own:List V)(aX:Nat):Prop:=
 (((((((True/\ky D D.a (k+1) p)/\ov D (D.a+1) own aX)/\qT own (lS D p++lS D p) true)/\own.length<=2)/\te (hW D p++cf own))/\jH (hW D p) (cf own))/\u8 (hW D p++cf own))/\jH (lS D p) own
def Ft(k p:Nat)(D:Dat)(own:List V)(aX:Nat):Prop:=
 ((((True/\ky D D.a (k+1) p)/\ov D (D.a+1) own aX)/\qT own (lS D p++lS D p) false)/\own.length<=2)/\tf (hW D p++cf own)
def mN:V:=dW 64
noncomputable def tg:Res (cg×aK)->Option (V×List V×Prop)
 | .ok (.ret v,_) z=>some (v,z.orc,z.log)
 |_=>none
def AA(k p:Nat)(D:Dat)(own:List V)(aX:Nat):io×io:=(lP tb (fB ⟨0,k+1,0,0,0,2⟩ (D.put aX (k+1) (Fo D p own))) (j8 (k+2)) (td 0 k 0 0 (k+1) k gm D [dW p, .aD 2 own,dW aX, .bool true, .bool true,mN,mN]),some (.next,tc gm,(fB ⟨0,k+1,0,0,0,2⟩ (D.put aX (k+1) (Fo D p own))).map (λe=>some e.2),true,[],Fs k p D own aX))
abbrev XP(k p:Nat):Prop:=∀D own aX,(AA k p D own aX).1=(AA k p D own aX).2
def AB(k p:Nat)(D:Dat)(own:List V)(aX:Nat):mM×mM:=(tg (td 0 k 0 0 (k+1) k gm D [dW p, .aD 2 own,dW aX, .bool false, .bool false]),some (.bool true,[],Ft k p D own aX))
abbrev XQ(k p:Nat):Prop:=∀D own aX,(AB k p D own aX).1=(AB k p D own aX).2
def AD(k:Nat):=(eZ (λp=>qP (AA k p)) (k+1),eZ (λp=>qP (AB k p)) (k+1))
def AE(k:Nat):=(eZ (λp=>qQ (AA k p)) (k+1),eZ (λp=>qQ (AB k p)) (k+1))
noncomputable def qU(k i:Nat):Nat:=match Nat.ble i k with|true=>i|false=>4+(i-k)
noncomputable def ow(k i:Nat):Nat:=match Nat.ble i k with|true=>i|false=>6+(i-k)
def Fu(k m i p:Nat)(D:Dat)(own:List V)(aX:Nat):Prop:=
 ((((((((True/\ky D D.a (k+m+1) i)/\ov D (D.a+1) own aX)/\qT own ((D.slot p).al++(D.slot p).al) true)/\own.length<=2)/\te (g3 D p++cf own))/\jH (g3 D p) (cf own))/\u8 (g3 D p++cf own))/\jH (D.slot p).al own)/\jH (D.slot p).al own
def Fv(k m i p:Nat)(D:Dat)(own:List V)(aX:Nat):Prop:=
 ((((True/\ky D D.a (k+m+1) i)/\ov D (D.a+1) own aX)/\qT own ((D.slot p).al++(D.slot p).al) false)/\own.length<=2)/\tf (g3 D p++cf own)
def AF(k m i:Nat)(D:Dat)(own:List V)(aX:Nat):io×io:=(lP tb (fB ⟨2,k,m+1,0,0,2⟩ (D.put aX (5+m) (Fp D (qU k i) own))) (j8 (6+m)) (td 2 k m 0 (5+m) m dd D [dW i, .aD 2 own,dW aX, .bool true, .bool true,mN,mN,mN]),some (.next,tc dd,(fB ⟨2,k,m+1,0,0,2⟩ (D.put aX (5+m) (Fp D (qU k i) own))).map (λe=>some e.2),true,[],Fu k m i (qU k i) D own aX))
abbrev XR(k m i:Nat):Prop:=∀D own aX,(AF k m i D own aX).1=(AF k m i D own aX).2
def AG(k m i:Nat)(D:Dat)(own:List V)(aX:Nat):mM×mM:=(tg (td 2 k m 0 (5+m) m dd D [dW i, .aD 2 own,dW aX, .bool false, .bool false]),some (.bool true,[],Fv k m i (qU k i) D own aX))
abbrev XS(k m i:Nat):Prop:=∀D own aX,(AG k m i D own aX).1=(AG k m i D own aX).2
def Fw(k n i p:Nat)(D:Dat)(own:List V)(aX:Nat):Prop:=
 (((((((((((True/\ky D D.a (k+n+1) i)/\ov D (D.a+1) own aX)/\qT own (lS D p++(D.slot p).al) true)/\own.length<=2)/\te (hW D p++cf own))/\jH (hW D p) (cf own))/\va (hW D p) (hW D p++cf own) (cf own))/\te (g3 D p++cf own))/\jH (g3 D p) (cf own))/\(u8 (hW D p++cf own)/\u8 (g3 D p++cf own)))/\jH (D.slot p).al own)/\jH (lS D p) own
def Fx(k n i p:Nat)(D:Dat)(own:List V)(aX:Nat):Prop:=
 ((((True/\ky D D.a (k+n+1) i)/\ov D (D.a+1) own aX)/\qT own (lS D p++(D.slot p).al) false)/\own.length<=2)/\tf (hW D p++cf own)
def Fy(k n i p:Nat)(D:Dat)(own:List V)(aX:Nat):Prop:=
 (((((((True/\ky D D.a (k+n+1) i)/\ov D (D.a+1) own aX)/\qT own (lS D p++(D.slot p).al) false)/\own.length<=2)/\te (hW D p++cf own))/\jH (hW D p) (cf own))/\va (hW D p) (hW D p++cf own) (cf own))/\tf (g3 D p++cf own)
def AH(k m n i:Nat)(D:Dat)(own:List V)(aX:Nat):io×io:=(lP tb (fB ⟨3,k,m,n+1,0,2⟩ (D.put aX (7+n) (Fq D (ow k i) own))) (j8 (8+n)) (td 3 k m n (7+n) n e8 D [dW i, .aD 2 own,dW aX, .bool true, .bool true,mN, .aD 64 (cf own), .bool true,mN,mN,mN]),some (.next,tc e8,(fB ⟨3,k,m,n+1,0,2⟩ (D.put aX (7+n) (Fq D (ow k i) own))).map (λe=>some e.2),true,[],Fw k n i (ow k i) D own aX))
abbrev XT(k m n i:Nat):Prop:=∀D own aX,(AH k m n i D own aX).1=(AH k m n i D own aX).2
def AI(k m n i:Nat)(D:Dat)(own:List V)(aX:Nat):mM×mM:=(tg (td 3 k m n (7+n) n e8 D [dW i, .aD 2 own,dW aX, .bool false, .bool false]),some (.bool true,[],Fx k n i (ow k i) D own aX))
abbrev XU(k m n i:Nat):Prop:=∀D own aX,(AI k m n i D own aX).1=(AI k m n i D own aX).2
def AJ(k m n i:Nat)(D:Dat)(own:List V)(aX:Nat):mM×mM:=(tg (td 3 k m n (7+n) n e8 D [dW i, .aD 2 own,dW aX, .bool false, .bool true,mN, .aD 64 (cf own), .bool false]),some (.bool true,[],Fy k n i (ow k i) D own aX))
abbrev XV(k m n i:Nat):Prop:=∀D own aX,(AJ k m n i D own aX).1=(AJ k m n i D own aX).2
noncomputable def lT(D:Dat):Nat->List Nat->Dat
 |_,[]=>D
 |s,p::r=>lT (D.par s p) (s+1) r
noncomputable def qV(D:Dat):Nat->List Nat->Dat
 |_,[]=>D
 |s,p::r=>qV (D.Az s p) (s+1) r
def Fz(D:Dat):Nat->List Nat->List V
 |_,[]=>[]
 |s,_::r=> .aD 64 (cf (D.slot s).jF):: .bool true::mN::Fz D (s+1) r
def vb(D:Dat)(L:Prop):Nat->List Nat->Prop
 |_,[]=>L
 |s,p::r=>vb (D.Az s p) (((L/\va (hW D p) (D.slot s).co (cf (D.slot s).jF))/\te (g3 D p++cf (D.slot s).jF))/\jH (g3 D p) (cf (D.slot s).jF)) (s+1) r
def xE(D:Dat)(L:Prop):Nat->List Nat->Prop
 |_,[]=>L
 |s,p::r=>xE (D.Az s p) (L/\jH (D.slot p).al (D.slot s).jF) (s+1) r
def AK(h:List V):Prop:=((True/\h.length<=2)/\∃ns,j5 (cf h) ns/\ns.length<=2)/\u8 (cf h)
def qW(g2:V)(r:Bool):List (Nat×V):=dL++[(98,g2),(93, .bool r)]
def xF(bR:List Nat)(D:Dat)(h:List V):io×io:=(lP tb (fB ⟨2,bR.length,0,0,0,2⟩ (qV (lT (D.dV h) 1 bR) 1 bR)) (j8 5) ((en 20).blk 8 (dq (qW dd true)) {nE ⟨1,bR.length,0,0,0,2⟩ 4 (lT (D.dV h) 1 bR)with orc:=Fz D 1 bR++List.replicate bR.length mN}),some (.next,tc dd,(fB ⟨2,bR.length,0,0,0,2⟩ (qV (lT (D.dV h) 1 bR) 1 bR)).map (λe=>some e.2),true,[],xE (lT (D.dV h) 1 bR) (vb (lT (D.dV h) 1 bR) (AK h) 1 bR) 1 bR))
abbrev LO(bR:List Nat):Prop:=∀D h,(xF bR D h).1=(xF bR D h).2
def FA(D:Dat)(h:List V)(bR:List Nat)(j:Nat):Prop:=(vb (lT (D.dV h) 1 bR) (AK h) 1 (bR.take j)/\va (hW (lT (D.dV h) 1 bR) ((bR[j]?).getD 0)) (D.slot (j+1)).co (cf (D.slot (j+1)).jF))/\tf (g3 (qV (lT (D.dV h) 1 bR) 1 (bR.take j)) ((bR[j]?).getD 0)++cf (D.slot (j+1)).jF)
def xG(bR:List Nat)(j:Nat)(D:Dat)(h:List V):mM×mM:=(tg ((en 20).blk 8 (dq (qW dd false)) {nE ⟨1,bR.length,0,0,0,2⟩ 4 (lT (D.dV h) 1 bR)with orc:=Fz D 1 (bR.take j)++[.aD 64 (cf (D.slot (j+1)).jF), .bool false]}),some (.bool true,[],FA D h bR j))
abbrev LP(bR:List Nat)(j:Nat):Prop:=∀D h,(xG bR j D h).1=(xG bR j D h).2
def LQ(D:Dat)(k:Nat):List (List V):=(upTo k).map λi=>(D.slot (i+1)).jF
def LR(D:Dat)(k:Nat)(r:Bool):Prop:=∃(fS:List (List (List Nat)))(cN:List (List Nat)),LQ D k=fS.map aZ/\(∀ns∈fS,ns.length<=64)/\(D.slot 0).al=aZ cN/\decide (∀ns∈fS,∀s∈ns,s∉cN)=r
def AL(k:Nat)(D:Dat)(r:Bool):io×io:=(lP (tb++[93]) (fB ⟨1,k,0,0,0,2⟩ D) (j8 4) ((en 20).blk 7 (dq (dL++[(98,dd)])) {nE ⟨1,k,0,0,0,2⟩ 4 D with orc:=[.bool r]}),some (.next,tc dd++[some (.bool r)],(fB ⟨1,k,0,0,0,2⟩ D).map (λe=>some e.2),true,[],True/\LR D k r))
abbrev XW(k:Nat):Prop:=∀D r,(AL k D r).1=(AL k D r).2
def FC(f c:Nat):List V:=(upTo c).map λj=> .str [97+(f+j)%6]
def AM(k f c:Nat)(D:Dat):io×io:=(lP tb (fB ⟨1,k,0,0,0,c⟩ {D.dV (FC f c)with a:=D.a+2}) (j8 4) ((en 20).blk 1 (dq (dL++[(98,dd)])) {nE ⟨0,k,0,0,0,2⟩ (k+1) D with orc:=[dW f,dW c]}),some (.next,tc dd,(fB ⟨1,k,0,0,0,c⟩ {D.dV (FC f c)with a:=D.a+2}).map (λe=>some e.2),true,[],(True/\ky D D.a 6 f)/\ky D (D.a+1) 3 c))
abbrev XX(k f c:Nat):Prop:=∀D,(AM k f c D).1=(AM k f c D).2
def AN(k m:Nat)(D:Dat):io×io:=(lP tb (fB ⟨3,k,m,0,0,2⟩ D) (j8 7) ((en 20).blk 2 (dq (dL++[(98,e8)])) (nE ⟨2,k,m,0,0,2⟩ (5+m) D)),some (.next,tc e8,(fB ⟨3,k,m,0,0,2⟩ D).map (λe=>some e.2),true,[],True))
abbrev XY(k m:Nat):Prop:=∀D,(AN k m D).1=(AN k m D).2
def lU(l names:List V):Prop:=∃ns,j5 l ns/\names=aZ ns
def pG(l:List V):Prop:=ke l l=some (!false)
def heapOf(c:Cfg)(D:Dat):Nat->Option O:=λid=>gN id ((fB c D).map λe=>(e.1,some e.2))
noncomputable def XZ(D:Dat)(AO:Bool)(s:Nat):List V:=[.aD 64 (D.slot s).al, .bool false, .aD 64 (D.slot s).ek, .bool false, .aD 64 (match AO with|true=>(D.slot s).al|false=>(D.slot s).ek), .bool false]
def AP(c:Cfg)(D:Dat)(s q:Nat)(L:Prop):Prop:=(L/\Ff (iX la (heapOf c D)) (iX Am (heapOf c D)) q (ou s))/\s5 (iX la (heapOf c D)) 101 12 (jk s)
def LS(c:Cfg)(D:Dat)(s:Nat)(L:Prop):Prop:=AP c D s (D.slot s).q ((((((L/\lU (D.slot s).cb (D.slot s).al)/\pG (D.slot s).al)/\lU (D.slot s).co (D.slot s).ek)/\pG (D.slot s).ek)/\lU (D.slot s).cb (D.slot s).al)/\pG (D.slot s).al)
def LU(c:Cfg)(D:Dat)(s:Nat)(L:Prop):Prop:=AP c D s (D.slot s).q ((((((L/\lU (D.slot s).co (D.slot s).al)/\pG (D.slot s).al)/\lU (D.slot s).co (D.slot s).ek)/\pG (D.slot s).ek)/\lU (D.slot s).co (D.slot s).ek)/\pG (D.slot s).ek)
def LV(c:Cfg)(D:Dat)(s:Nat)(L:Prop):Prop:=AP c D s (D.slot s).q ((((((L/\lU (D.slot s).cb (D.slot s).al)/\pG (D.slot s).al)/\lU (D.slot s).co (D.slot s).ek)/\pG (D.slot s).ek)/\lU (D.slot s).co (D.slot s).ek)/\pG (D.slot s).ek)
noncomputable def xH(f:Cfg->Dat->Nat->Prop->Prop)(k m n:Nat)(D:Dat):Nat->Nat->Nat->Prop->Prop
 |0,_,_,L=>L
 |r+1,d,s,L=>xH f k m n D r (d+1) (s+1) (f ⟨3,k,m,n,d,2⟩ D s L)
def AQ(D:Dat)(AO:Bool):Nat->Nat->List V
 |0,_=>[]
 |r+1,s=>XZ D AO s++AQ D AO r (s+1)
def FD:List (Option V):=[some (bt 5 0),some (bt 4 1),some (bt 27 0),some (bt 31 0),some (bt 4 2),some (bt 35 0)]
def AR(k m n:Nat)(D:Dat):io×io:=(lP [24,39,86,90,97,106] (fB ⟨3,k,m,n,k,2⟩ D) (j8 (10+k)) ((en 20).blk 4 ((dq dL).set 98 gm) {nE ⟨3,k,m,n,0,2⟩ (7+n) D with orc:=AQ D true k 1}),some (.next,FD,(fB ⟨3,k,m,n,k,2⟩ D).map (λe=>some e.2),true,[],xH LS k m n D k 0 1 True))
abbrev X0(k m n:Nat):Prop:=∀D,(AR k m n D).1=(AR k m n D).2
def AS(k m n:Nat)(D:Dat):io×io:=(lP [24,39,86,90,97,106] (fB ⟨3,k,m,n,k+m,2⟩ D) (j8 (10+k+m)) ((en 20).blk 4 ((dq dL).set 98 dd) {nE ⟨3,k,m,n,k,2⟩ (10+k) D with orc:=AQ D false m 5}),some (.next,FD,(fB ⟨3,k,m,n,k+m,2⟩ D).map (λe=>some e.2),true,[],xH LU k m n D m k 5 True))
abbrev X1(k m n:Nat):Prop:=∀D,(AS k m n D).1=(AS k m n D).2
def AT(k m n:Nat)(D:Dat):io×io:=(lP [24,39,86,90,97,106] (fB ⟨3,k,m,n,k+m+n,2⟩ D) (j8 (10+k+m+n)) ((en 20).blk 4 ((dq dL).set 98 e8) {nE ⟨3,k,m,n,k+m,2⟩ (10+k+m) D with orc:=AQ D false n 7}),some (.next,FD,(fB ⟨3,k,m,n,k+m+n,2⟩ D).map (λe=>some e.2),true,[],xH LV k m n D n (k+m) 7 True))
abbrev X2(k m n:Nat):Prop:=∀D,(AT k m n D).1=(AT k m n D).2
def AU(k m n:Nat)(D:Dat):mM×mM:=(tg ((en 20).blk 5 (dq dL) {nE ⟨3,k,m,n,k+m+n,2⟩ (10+k+m+n) D with orc:=[.aD 64 (D.slot 0).al, .bool true]}),some (.bool true,[],(True/\lU (D.slot 0).cb (D.slot 0).al)/\ke (D.slot 0).al (D.slot 0).al=some true))
abbrev X3(k m n:Nat):Prop:=∀D,(AU k m n D).1=(AU k m n D).2
def pH(k m:Nat):=(eZ (λi=>qP (AF k m i)) (k+m+1),eZ (λi=>qP (AG k m i)) (k+m+1))
def pI(k m:Nat):=(eZ (λi=>qQ (AF k m i)) (k+m+1),eZ (λi=>qQ (AG k m i)) (k+m+1))
def eH(k m n:Nat):=(eZ (λi=>qP (AH k m n i)) (k+n+1),eZ (λi=>qP (AI k m n i)) (k+n+1),eZ (λi=>qP (AJ k m n i)) (k+n+1))
def eI(k m n:Nat):=(eZ (λi=>qQ (AH k m n i)) (k+n+1),eZ (λi=>qQ (AI k m n i)) (k+n+1),eZ (λi=>qQ (AJ k m n i)) (k+n+1))
def lb(bR:List Nat):=(xB (xF bR),eZ (λj=>xB (xG bR j)) bR.length)
def lc(bR:List Nat):=(xC (xF bR),eZ (λj=>xC (xG bR j)) bR.length)
def X4:=eZ (λk=>xB (AL k)) 4
def X5:=eZ (λk=>xC (AL k)) 4
def xI(k:Nat):=eZ (λm=>s7 (AN k m)) 3
def xJ(k:Nat):=eZ (λm=>s8 (AN k m)) 3
def th(k:Nat):=eZ (λf=>eZ (λc=>s7 (AM k f c)) 3) 6
def ti(k:Nat):=eZ (λf=>eZ (λc=>s8 (AM k f c)) 3) 6
def lV(k m:Nat):=eZ (λn=>(s7 (AR k m n),s7 (AS k m n))) 4
def lW(k m:Nat):=eZ (λn=>(s8 (AR k m n),s8 (AS k m n))) 4
def lX(k m:Nat):=eZ (λn=>(s7 (AT k m n),s7 (AU k m n))) 4
def lY(k m:Nat):=eZ (λn=>(s8 (AT k m n),s8 (AU k m n))) 4
theorem xK:kg [] [] C=some C:=rfl
theorem xL:kg (x::xs) (v::vs) C=kg xs vs (C.set x v):=rfl
theorem vc:h6 k (.int i)=k i:=rfl
theorem X6:rz z (.aD b l) i=hG (λn=>dr (small b) (em (l[n]?) z)) i:=rfl
theorem AV:rz z (.tup l) i=hG (λn=>dr (small l.length) (em (l[n]?) z)) i:=rfl
def LW(z:St)(i:V)(o:O):Res V:=match o with
  | .list b l=>hG (λn=>dr (small b) (em (l[n]?) z)) i
  | .ba _ ah=>pX (λs=>em (c7 s ah) z) i
  | .ck _ ah=>h6 (λn=>em (jM n ah) z) i
  | .inst .. => .stuck
theorem X7:rz z (.str l) i=hG (λn=>dr (small l.length) (em ((l[n]?).map λc=> .str [c]) z)) i:=rfl
theorem vd{id:Nat}:rz z (.ref id) i=g7 (z.heap id) (LW z i):=rfl
theorem ve:LW z i (.ba b ah)=pX (λs=>em (c7 s ah) z) i:=rfl
theorem X8:hG k (.int (.ofNat i))=k i:=rfl
theorem vf:pX k (.str i)=k i:=rfl
theorem X9:vQ k (.list b l)=k b l:=rfl
theorem Ya{id:Nat}:oN z k (.ref id)=g7 (z.heap id) (k id):=by refine(?_:(match z.heap id with|some o=>k id o|none=> .stuck)=_);cases z.heap id<;>rfl
theorem Yb:yt z (.aD b l)=dr (small b) (.ok (.int (.ofNat l.length)) z):=rfl
def LX(z:St)(o:O):Res V:=match o with
  | .list b l=>dr (small b) (.ok (.int (.ofNat l.length)) z)
  | .ba b ah=>dr (small b) (.ok (.int (.ofNat ah.length)) z)
  | .ck b ah=>dr (small b) (.ok (.int (.ofNat ah.length)) z)
  | .inst .. => .stuck
theorem Yc{id:Nat}:yt z (.ref id)=g7 (z.heap id) (LX z):=rfl
theorem Yd:LX z (.ba b l)=dr (small b) (.ok (.int (.ofNat l.length)) z):=rfl
theorem AW:Mine.Tactic.bi .add vs z=cP (ys z) vs:=rfl
theorem Ye:Mine.Tactic.bi .sub vs z=cP (λx y=>h6 (λa=>h6 (λb=> .ok (.int (a-b)) z) y) x) vs:=rfl
theorem Yf:Mine.Tactic.bi .mod vs z=cP (BU z) vs:=rfl
theorem LY:Mine.Tactic.bi .eq vs z=cP (λx y=>em ((l8 z x y).map .bool) z) vs:=rfl
theorem FE:Mine.Tactic.bi .ne vs z=cP (λx y=>em ((l8 z x y).map λr=> .bool !r) z) vs:=rfl
theorem Yg:Mine.Tactic.bi .gt vs z=cP (λx y=>h6 (λa=>h6 (λb=> .ok (.bool (tT a b)) z) y) x) vs:=rfl
theorem Yh:Mine.Tactic.bi .isNone vs z=dA (λx=> .ok (.bool (yr x)) z) vs:=rfl
theorem xM:Mine.Tactic.bi .isin vs z=cP (λx y=>em ((lm z x y).map .bool) z) vs:=rfl
theorem LZ:Mine.Tactic.bi .l6 vs z=cP (λx y=>em ((lm z x y).map λr=> .bool !r) z) vs:=rfl
theorem mO:Mine.Tactic.bi .idx vs z=cP (rz z) vs:=rfl
theorem L0:Mine.Tactic.bi .len vs z=dA (yt z) vs:=rfl
theorem FF:Mine.Tactic.bi .append vs z=cP (vS z) vs:=rfl
theorem L1:Mine.Tactic.bi .pop vs z=dA (yu z) vs:=rfl
section
variable{P:ca}{F:bT}{C:aK}{z:St}
theorem jI:az P F (.val v) C z= .ok v z:=rfl
theorem Yi:az P F (.glob g) C z= .ok (P.BX g) z:=rfl
theorem jJ:az P F (.aa x) C z=em (C x) z:=rfl
theorem xN:az P F (.au e a) C z=(az P F e C z).bind λv z=>tU v a z:=rfl
theorem AX:az P F (.bh f ah) C z=(de P F ah C z).bind λvs z=>F.fn f vs z:=rfl
theorem hX(ai:∀t,b≠ .nN t):az P F (.bi b ah) C z=(de P F ah C z).bind λvs z=>Mine.Tactic.bi b vs z:=by cases b<;>first|rfl|exact bf rfl (ai _)
theorem xO:az P F (.e1 b o ah) C z=(az P F o C z).bind λx z=>match rB b z x with
   |true=>(de P F ah C z).bind λvs z=>Mine.Tactic.bi b (x::vs) z
   |false=> .stuck:=rfl
theorem L2:az P F (.and ah) C z=mc P F ah C z:=rfl
theorem Yj:az P F (.tup ah) C z=(de P F ah C z).bind λvs z=>match small vs.length with
   |true=> .ok (.tup vs) z
   |false=> .stuck:=rfl
theorem qX:az P F (.aD ah) C z=(de P F ah C z).bind λvs z=>match small vs.length with
   |true=> .ok (.aD vs.length vs) z
   |false=> .stuck:=rfl
theorem FG:az P F (.g5 tag ah) C z=(de P F ah C z).bind λvs z=>match small vs.length&&z.dI tag with
   |true=> .ok (.ref (z.aT tag)) (z.new tag (.list vs.length vs))
   |false=> .stuck:=rfl
theorem L3:az P F (.dict tag nO []) C z=match z.dI tag with
    |true=>match nO with
     |true=> .ok (.ref (z.aT tag)) (z.new tag (.ck 0 []))
     |false=> .ok (.ref (z.aT tag)) (z.new tag (.ba 0 []))
    |false=> .stuck:=rfl
theorem xP:az P F (.comp tag bP x iter cU) C z=(az P F iter C z).bind λit z=>
   (h7 (λw acc z=>(jO P F cU (C.set x w) z).bind λb z=>match b with
    |true=>(az P F bP (C.set x w) z).bind λv z=>jn v acc z
    |false=> .ok acc z) it [] z).cx.bind λl z=>match tag with
   |some tag=>match z.dI tag with
    |true=> .ok (.ref (z.aT tag)) (z.new tag (.list l.length l))
    |false=> .stuck
   |none=> .ok (.aD l.length l) z:=rfl
theorem Yk:az P F (.oI bP x k) C z=(az P F k C z).bind λdY z=>match dY with
   | .int (.ofNat j)=>match small j with
    |true=>(kf (λw acc z=>(az P F bP (C.set x w) z).bind λv z=>jn v acc z) (hr j) [] z).cx.bind λl z=> .ok (.aD l.length l) z
    |false=> .stuck
   |_=> .stuck:=rfl
theorem Yl:az P F (.nP bP x iter y gQ cU) C z=match C y with
  |some be=> .stuck
  |none=>(az P F iter C z).bind λit z=>
   (h7 (λw acc z=>(az P F gQ (C.set x w) z).bind λit2 z=>
    h7 (λu acc z=>(jO P F cU ((C.set x w).set y u) z).bind λb z=>match b with
     |true=>(az P F bP ((C.set x w).set y u) z).bind λv z=>jn v acc z
     |false=> .ok acc z) it2 acc z) it [] z).cx.bind λl z=> .ok (.aD l.length l) z:=rfl
theorem Ym:az P F (.kH tag k v x iter) C z=(az P F iter C z).bind λit z=>match it with
   | .aD _ items=>match z.dI tag with
    |true=>(dN (λw x9 σ'=>(az P F k (C.set x w) σ').bind λdY σ'=>(az P F v (C.set x w) σ').bind λjP σ'=>
     (iy (.ref (z.aT tag)) dY jP σ').bind λx9 σ'=> .ok (.next,C) σ') items C (z.new tag (.ba 0 []))).cx.bind λx9 σ'=> .ok (.ref (z.aT tag)) σ'
    |false=> .stuck
   |_=> .stuck:=rfl
theorem Yn:az P F (.li x y) C z=match Nat.beq x y with
   |true=> .stuck
   |false=>match C x with
    |some (.ref id)=>match z.heap id with
     |some (.ck b ah)=>match small b with|true=> .ok (.aD ah.length (ah.map λp=>p.2)) z|false=> .stuck
     |_=> .stuck
    |_=> .stuck:=rfl
theorem eJ:de P F [] C z= .ok [] z:=rfl
theorem fC:de P F (e::r) C z=(az P F e C z).bind λv z=>(de P F r C z).bind λvs z=> .ok (v::vs) z:=rfl
theorem L4:mc P F [e] C z=az P F e C z:=rfl
theorem L5:mc P F (e::ey::r) C z=(az P F e C z).bind λv z=>condB v (mc P F (ey::r) C z) (.ok (.bool false) z):=rfl
theorem vg:jO P F [] C z= .ok true z:=rfl
theorem L6:jO P F (c::r) C z=(az P F c C z).bind λv z=>condB v (jO P F r C z) (.ok false z):=rfl
theorem AY:c6 P F (.assign x e) C z=(az P F e C z).bind λv z=> .ok (.next,C.set x v) z:=rfl
theorem FH:c6 P F (.i0 o i e) C z=(az P F e C z).bind λv z=>(az P F o C z).bind λbN z=>(az P F i C z).bind λfE z=>(iy bN fE v z).bind λx9 z=> .ok (.next,C) z:=rfl
theorem Yo:c6 P F (.lj x e) C z=match C x with
   |some old=>(az P F e C z).bind λv z=>(nQ old v z).bind λr z=> .ok (.next,C.set x r) z
   |none=> .stuck:=rfl
theorem Yp:c6 P F (.rt o i e) C z=(az P F o C z).bind λbN z=>(az P F i C z).bind λfE z=>(Mine.Tactic.bi .idx [bN,fE] z).bind λold z=>(az P F e C z).bind λv z=>(nQ old v z).bind λr z=>(iy bN fE r z).bind λx9 z=> .ok (.next,C) z:=rfl
theorem Yq:c6 P F (.expr e) C z=(az P F e C z).bind λx9 z=> .ok (.next,C) z:=rfl
theorem qY:c6 P F (.ite c t f) C z=(az P F c C z).bind λv z=>condB v (bc P F t C z) (bc P F f C z):=rfl
theorem L7:c6 P F (.i1 c b) C z=jN (λC z=>az P F c C z) (λC z=>bc P F b C z) yw C z:=rfl
theorem vh:c6 P F (.eL x e b) C z=(az P F e C z).bind λit z=>match it with
   | .aD _ l=>dN (λv C z=>bc P F b (C.set x v) z) l C z
   | .tup l=>dN (λv C z=>bc P F b (C.set x v) z) l C z
   | .ref id=>match z.heap id with
    |some (.list _ _)=>iz (λv C z=>bc P F b (C.set x v) z) id 200 0 C z
    |some (.ba _ [])=> .ok (.next,C) z
    |_=> .stuck
   |_=> .stuck:=rfl
theorem Yr:c6 P F (.forR x k b) C z=(az P F k C z).bind λdY z=>match dY with
   | .int (.ofNat j)=>match small j with
    |true=>dN (λv C z=>bc P F b (C.set x v) z) (hr j) C z
    |false=> .stuck
   |_=> .stuck:=rfl
theorem qZ:c6 P F (.ret e) C z=(az P F e C z).bind λv z=> .ok (.ret v,C) z:=rfl
theorem Ys:c6 P F (.raise ah) C z=(de P F ah C z).bind λvs z=>match vs with
   |[.int _, .str _]=> .exc z
   |_=> .stuck:=rfl
theorem Yt:c6 P F .cont C z= .ok (.cont,C) z:=rfl
theorem Yu:c6 P F .stuck C z= .stuck:=rfl
theorem ip:bc P F [] C z= .ok (.next,C) z:=rfl
theorem lZ:bc P F (s::r) C z=(c6 P F s C z).bind λx z=>match x.1 with
   | .next=>bc P F r x.2 z
   |_=> .ok x z:=rfl
end
def a5:Nat->bT
 |0=>⟨λx9 x9 x9=> .stuck,λx9 x9 x9=> .stuck⟩
 |n+1=>⟨λf vs z=>dO P0 (a5 n) f vs z,λi C z=>rC P0 (a5 n) i C z⟩
theorem tj(h:acc.length<10000):jn v acc z= .ok (acc++[v]) z:=by unfold jn;exact ab (show Nat.blt acc.length 10000=true from gn h) rfl
theorem xQ(turn:V->List V->St->Res (List V))(f:V->V)(z:St):∀(l acc:List V),(∀w∈l,∀acc:List V,acc.length<10000->turn w acc z= .ok (acc++[f w]) z)->acc.length+l.length<=10000->kf turn l acc z= .ok (acc++l.map f) z
 |[],acc,_,_=>by simp[nR,nS]
 |w::r,acc,h,ak=>by
  simp[nR,nS,(h w (List.mem_cons_self ..) acc (by simp at ak;(first|lia|omega))),Res.bind,(xQ turn f z r (acc++[f w]) (λwj hw=>h wj (List.mem_cons_of_mem _ hw)) (by simp at ak⊢;(first|lia|omega)))]
theorem Yv(F:bT)(z:St){aA d c b1 uW b:Nat}(ae:z.heap aA=some (.inst c b1 Y))(af:dk 88 Y=some (.ref d))(ax:z.heap d=some (.ba uW ah))(a0:c7 Aj ah=some sub)(ak:l.length<=100):
  dO P0 F 53 [.ref aA, .aD b l] z= .ok (.aD l.length (hB sub l)) z:=by
 unfold Aj at a0;simp only[dO,show P0.fns 53=B8 from rfl,B8,xK,xL,ip,lZ,qZ,jJ,xP,Yj,h7,Res.bind,hH,aK.set];rw[(λ(turn:V->List V->St->Res (List V))h=>xQ turn (xv sub) z l [] h (by simp;lia))]
 ·simp[oR,hB]
 ·intro w hw acc aL;simp[jJ,jI,xN,hX,vg,fC,eJ,Res.bind,hH,vU ae,af,ax,a0,mO,dA,cP,vf,g7,vd,ve,small,tj aL,xv,aK.set]
noncomputable def FI(w:V):V:=match w with| .tup [s,_,_]=>s|_=> .none
theorem Yw(F:bT)(z:St){c b1:Nat}(names:List V)(ae:z.heap t=some (.inst c b1 Y))(af:dk 7 Y=some (.aD b l))(aw:l=hB (.ref 3072) names)(ak:l.length<=100):
  dO P0 F 59 [.ref t] z= .ok (.aD names.length names) z:=by
 simp only[dO,show P0.fns 59=Ca from rfl,Ca,xK,xL,ip,lZ,qZ,jJ,xN,xP,h7,Res.bind,hH,aK.set,vU ae,af];rw[(λ(turn:V->List V->St->Res (List V))h=>xQ turn FI z l [] h (by simp;lia))]
 ·refine ab aw ?_
  have:(List.map FI (hB (.ref 3072) names))=names:=by refine c0 List.map_map ?_;exact(List.map_congr_left λx9 x9=>rfl).trans (List.map_id _)
  simp[oR,this]
 ·intro w hw acc aL;clear ak af ae Y;subst aw;refine a4 (List.mem_map.mp hw) ?_;rintro s _ rfl;simp[jJ,jI,hX,vg,fC,eJ,Res.bind,hH,xv,mO,dA,cP,vc,hG,dr,AV,small,tj aL,aK.set,show FI (.tup [s, .ref 3072, .none])=s from rfl]
theorem L8(h:el a b=true):a=b:=of_decide_eq_true ((jV a b).symm.trans h)
theorem Ma(h:Fe z j=some (cells,a)):∃b,b<=100/\z.heap j=some (.ba b [(xt, .aD 63 cells),(xu, .int (.ofNat a))]):=
 om h λb ah ae h=>om h λx y af h=>om h λjg FJ ax h=>gz h λaX a0 h=>Ln h λag e=>tM ag λbd bB fz hU=>by
  refine bq b (dG fz) ((Ai ae).trans (bz (λl=>some (O.ba b l)) ((sY af).trans ?_)));have cY:x.2= .aD 63 cells:=(Af ax).trans (by exact ab (cj hU) (bM (show FJ=cells from bz Prod.fst (a8 e:(FJ,aX)=(cells,a))) rfl));have cT:y.2= .int (.ofNat a):=(Fa a0).trans (by exact ab (show aX=a from bz Prod.snd (a8 e:(FJ,aX)=(cells,a))) rfl);exact bM (L8 bd) (bM (L8 bB) (bM cY (bM cT rfl)))
theorem Mb(i:Int)(k:Nat)(h:0<k):i%(Int.ofNat k)=Int.ofNat (i%(Int.ofNat k)).toNat:=by have:0<=i%(Int.ofNat k):=Int.emod_nonneg _ (by simp;lia);exact(Int.toNat_of_nonneg this).symm
theorem q0(cells:List V)(a k:Nat)(h:0<k):fh cells a k<k:=by
 unfold fh
 cases Nat.ble (a+1) cells.length with
 |false=>exact Nat.mod_lt _ h
 |true=>
  cases cells[a]?with
  |none=>exact h
  |some v=>
   cases v with
   |int i=>exact Int.ofNat_lt.mp (Eq.mp (bz (·<Int.ofNat k) (Mb i k h)) (Int.emod_lt_of_pos i (Int.ofNat_lt.mpr h)))
   |_=>exact h
def ho(b:Nat)(cells:List V)(a:Nat):O:= .ba b [(xt, .aD 63 cells),(xu, .int (.ofNat a))]
set_option tactic.hygienic true in
theorem Yx(x y:Nat):tT (.ofNat x) (.ofNat y)=!(Nat.ble x y):=by
 unfold tT
 cases h:Nat.ble x y with
 |true=>
  have:=dG h
  cases e:Int.ofNat y-Int.ofNat x with
  |ofNat=>rfl
  |negSucc aE=>have:Int.negSucc aE<0:=Int.negSucc_lt_zero aE;rw[<-e]at this;simp at this;lia
 |false=>
  have:¬x<=y:=λq=>by replace h:=(gn q).symm.trans h;exact rk h
  cases e:Int.ofNat y-Int.ofNat x with
  |negSucc=>rfl
  |ofNat aE=>have:(0:Int)<=Int.ofNat aE:=Int.natCast_nonneg aE;rw[<-e]at this;simp at this;lia
noncomputable def mP(j k:Nat):aK:=λy=>match Nat.beq y 87 with|true=>some (.int (.ofNat (k+1)))|false=>match Nat.beq y 86 with|true=>some (.ref j)|false=>none
theorem Yy:el [] []=true:=rfl
theorem Yz:nQ (.int a) (.int b) z= .ok (.int (a+b)) z:=rfl
theorem YA(F:bT)(z:St){j b k a:Nat}{cells:List V}(h:z.heap j=some (ho b cells a))(ai:b<=200):
  dO P0 F 52 [.ref j, .int (.ofNat (k+1))] z=(bc P0 F (yG.body.drop 1) (mP j k) (z.set j (ho (b+1) cells (a+1)))).bind λx z=>match x.1 with| .ret v=> .ok v z| .next=> .ok .none z| .cont=> .stuck:=by
 revert h ai;revert F z j b k a cells;refine@(H5 o3 hc ne ne ne ne ne ?F9 ?σ9 ?j9 ?b9 ?k9 ?a9 ?cells9 ?_ ?_)
 rotate_left 7
 intro h ai;have ar:small ?b9=true:=gn (by lia);simp only[dO,show P0.fns 52=yG from rfl,yG,xK,xL,ip,lZ,Yp,qY,qZ,jJ,jI,Res.bind,hH,List.drop];simp[aK.set,mO,dA,cP,vf,g7,vd,ve,h,ho,xt,xu,oP,md,Yy,BY,Yz,iy,ar,oQ,mW,hH];rfl;rfl
theorem YB(P:ca)(F:bT)(z:St)(h:z.heap j=some (ho b cells a)):az P F (E.bi .idx [E.aa 86,E.val (V.str [97,116])]) (mP j k) z= .ok (.int (.ofNat a)) z:=by refine(?_:Mine.Tactic.bi .idx [.ref j, .str [97,116]] z=_);simp only[mO,dA,cP,vf,g7,vd,ve,h,ho];rfl
theorem YC(P:ca)(F:bT)(z:St)(h:z.heap j=some (ho b cells a)):az P F (E.bi .idx [E.aa 86,E.val (V.str me)]) (mP j k) z= .ok (.aD 63 cells) z:=by refine(?_:Mine.Tactic.bi .idx [.ref j, .str me] z=_);simp only[mO,dA,cP,vf,g7,vd,ve,h,ho];rfl
theorem FK(F:bT)(z:St){j b k a:Nat}{cells:List V}(h:z.heap j=some (ho b cells a))(ai:b<=200)(aW:oo cells):
  dO P0 F 52 [.ref j, .int (.ofNat (k+1))] z= .ok (.int (.ofNat (fh cells a (k+1)))) (z.set j (ho (b+1) cells (a+1))):=by
 revert a cells h ai aW;revert F z j b k;refine@(rU o3 hc ne ne ne ?F9 ?σ9 ?j9 ?b9 ?k9 ?_ ?_)
 rotate_left 5
 (
 intro a cells h ai aW;refine c0 (YA ?F9 ?σ9 h ai) ?_;have FL:((?σ9).set ?j9 (ho (?b9+1) cells (a+1))).heap ?j9=some (ho (?b9+1) cells (a+1)):=by simp[St.set]
 generalize (?σ9).set ?j9 (ho (?b9+1) cells (a+1))=aO at FL;have kx:=YB P0 ?F9 aO (k:=?k9) FL;have eW:=YC P0 ?F9 aO (k:=?k9) FL;have YD:Int.ofNat (a+1)-1=Int.ofNat a:=by simp
 refine(?_:(bc P0 ?F9 [S.ite (E.bi .gt [E.bi .idx [E.aa 86,E.val (V.str [97,116])],E.bi .len [E.bi .idx [E.aa 86,E.val (V.str me)]]]) [S.ret (E.bi .mod [E.bi .idx [E.glob 4,E.bi .mod [E.bi .sub [E.bi .idx [E.aa 86,E.val (V.str [97,116])],E.val (V.int (1))],E.bi .len [E.glob 4]]],E.aa 87])] [],S.ret (E.bi .mod [E.bi .idx [E.bi .idx [E.aa 86,E.val (V.str me)],E.bi .sub [E.bi .idx [E.aa 86,E.val (V.str [97,116])],E.val (V.int (1))]],E.aa 87])] _ _).bind _=_)
 have bl:az P0 ?F9 (E.bi .len [E.bi .idx [E.aa 86,E.val (V.str me)]]) (mP ?j9 ?k9) aO= .ok (.int (.ofNat cells.length)) aO:=by refine c0 ((hX (λx9 q=>by injection q))) ?_;simp only[fC,eJ,eW,Res.bind];rfl
 have aS:az P0 ?F9 (E.bi .sub [E.bi .idx [E.aa 86,E.val (V.str [97,116])],E.val (V.int (1))]) (mP ?j9 ?k9) aO= .ok (.int (.ofNat a)) aO:=by refine c0 ((hX (λx9 q=>by injection q))) ?_;simp only[fC,eJ,kx,Res.bind];refine(?_:Mine.Tactic.bi .sub [.int (.ofNat (a+1)), .int 1] aO=_);simp only[Ye,dA,cP,vc,YD]
 have xR:az P0 ?F9 (E.bi .gt [E.bi .idx [E.aa 86,E.val (V.str [97,116])],E.bi .len [E.bi .idx [E.aa 86,E.val (V.str me)]]]) (mP ?j9 ?k9) aO= .ok (.bool (!(Nat.ble (a+1) cells.length))) aO:=by refine c0 ((hX (λx9 q=>by injection q))) ?_;simp only[fC,eJ,kx,bl,Res.bind,Yg,dA,cP,vc,Yx]
 cases ai:Nat.ble (a+1) cells.length with
 |true=>
  refine cL (aW.2 _ (List.getElem_mem (dG ai))) ?_;intro i bA
  have sR:az P0 ?F9 (E.bi .mod [E.bi .idx [E.bi .idx [E.aa 86,E.val (V.str me)],E.bi .sub [E.bi .idx [E.aa 86,E.val (V.str [97,116])],E.val (V.int (1))]],E.aa 87]) (mP ?j9 ?k9) aO= .ok (.int (.ofNat (fh cells a (?k9+1)))) aO:=by
   have aQ:az P0 ?F9 (E.bi .idx [E.bi .idx [E.aa 86,E.val (V.str me)],E.bi .sub [E.bi .idx [E.aa 86,E.val (V.str [97,116])],E.val (V.int (1))]]) (mP ?j9 ?k9) aO= .ok (.int i) aO:=by refine c0 ((hX (λx9 q=>by cases q))) ?_;simp only[fC,eJ,eW,aS,Res.bind,mO,dA,cP,vc,hG,dr,X6,show small 63=true from rfl,List.getElem?_eq_getElem (Nat.le_of_ble_eq_true ai),bA,hH]
   refine c0 ((hX (λx9 q=>by cases q))) ?_;simp only[fC,eJ,aQ,Res.bind];refine(?_:Mine.Tactic.bi .mod [.int i, .int (.ofNat (?k9+1))] aO=_);simp only[Yf,dA,cP,vc,hG,BU];refine ab (Mb i (?k9+1) (by lia)) ?_;unfold fh;refine ab ai ?_;simp only[List.getElem?_eq_getElem (Nat.le_of_ble_eq_true ai),bA]
  rw[ai]at xR;simp only[ip,lZ,qY,qZ,xR,Res.bind,Bool.not_true,oS,oT,kI,sR]
 |false=>
  have aew:Mine.Tactic.bi .mod [.int (.ofNat a), .int (.ofNat 18)] aO= .ok (.int (.ofNat (a%18))) aO:=rfl
  have sR:az P0 ?F9 (E.bi .mod [E.bi .idx [E.glob 4,E.bi .mod [E.bi .sub [E.bi .idx [E.aa 86,E.val (V.str [97,116])],E.val (V.int (1))],E.bi .len [E.glob 4]]],E.aa 87]) (mP ?j9 ?k9) aO= .ok (.int (.ofNat (fh cells a (?k9+1)))) aO:=by
   have aJ:az P0 ?F9 (E.bi .mod [E.bi .sub [E.bi .idx [E.aa 86,E.val (V.str [97,116])],E.val (V.int (1))],E.bi .len [E.glob 4]]) (mP ?j9 ?k9) aO= .ok (.int (.ofNat (a%18))) aO:=by refine c0 ((hX (λx9 q=>by cases q))) ?_;simp only[fC,eJ,aS,Res.bind];assumption
   have aQ:az P0 ?F9 (E.bi .idx [E.glob 4,E.bi .mod [E.bi .sub [E.bi .idx [E.aa 86,E.val (V.str [97,116])],E.val (V.int (1))],E.bi .len [E.glob 4]]]) (mP ?j9 ?k9) aO= .ok (.int (.ofNat ((xw[a%18]?).getD 0))) aO:=by refine c0 ((hX (λx9 q=>by cases q))) ?_;have:az P0 ?F9 (E.glob 4) (mP ?j9 ?k9) aO= .ok (.tup (xw.map λn=> .int (.ofNat n))) aO:=rfl;simp only[fC,eJ,this,aJ,Res.bind,mO,dA,cP,vc,hG,dr,AV,show small (xw.map λn=>V.int (.ofNat n)).length=true from rfl];have:a%18<18:=Nat.mod_lt _ (by lia);generalize a%18=r at this;refine ab (List.getElem?_map) ?_;refine ab (List.getElem?_eq_getElem (this:r<xw.length)) ?_;rfl
   refine c0 ((hX (λx9 q=>by cases q))) ?_;simp only[fC,eJ,aQ,Res.bind];refine(?_:Mine.Tactic.bi .mod [.int (.ofNat _), .int (.ofNat (?k9+1))] aO=_);unfold fh;refine ab ai ?_;rfl
  replace xR:=ai▸xR
  simp only[lZ,qY,qZ,xR,Res.bind,Bool.not_false,oS,oT,kI,sR])
 rfl
theorem YE:∀r:Nat,r<6->((tX:List Nat)[r]?).map (λc=>V.str [c])=some (s2 r)
 |0,_=>rfl
 |1,_=>rfl
 |2,_=>rfl
 |3,_=>rfl
 |4,_=>rfl
 |5,_=>rfl
 |n+6,h=>bf h (by lia)
noncomputable abbrev Mc:E:=E.bi .idx [E.val (V.str tX),E.bh 52 [E.aa 86,E.val (V.int (6))]]
theorem FN(ak:C 86=some (.ref j))(h:z.heap j=some (ho b cells a))(ai:b<=200)(aW:oo cells)(aL:acc.length<10000):
  ((az P0 (a5 (n+1)) Mc C z).bind λv z=>jn v acc z)= .ok (acc++[s2 (fh cells a 6)]) (z.set j (ho (b+1) cells (a+1))):=by
 have ae:az P0 (a5 (n+1)) (E.bh 52 [E.aa 86,E.val (V.int (6))]) C z= .ok (.int (.ofNat (fh cells a 6))) (z.set j (ho (b+1) cells (a+1))):=by simp only[fC,eJ,jJ,jI,AX,ak,hH,Res.bind];exact FK (a5 n) z (k:=5) h ai aW
 have af:az P0 (a5 (n+1)) Mc C z= .ok (s2 (fh cells a 6)) (z.set j (ho (b+1) cells (a+1))):=by
  refine c0 ((hX (λx9 q=>by injection q))) ?_;simp only[fC,eJ];refine ab (show az P0 (a5 (n+1)) (E.val (V.str tX)) C z= .ok (V.str tX) z from rfl) ?_;simp only[Res.bind,ae]
  show Mine.Tactic.bi .idx [.str _, .int (.ofNat _)] _=_
  simp only[mO,dA,cP,X8,dr,X7,show small tX.length=true from rfl,YE _ (q0 cells a 6 (by lia)),hH]
 refine ab af ?_;exact tj aL
theorem l0(z:St)(j:Nat)(o:O):(z.set j o).heap j=some o:=by simp[St.set]
theorem Md(z:St)(j:Nat)(o bS:O):(z.set j o).set j bS=z.set j bS:=by
 unfold St.set
 congr 1
 funext i
 cases h:Nat.beq i j<;>simp[h]
theorem YF{z:St}{j b a:Nat}{cells:List V}(h:z.heap j=some (ho b cells a))(ai:b<=100)(aW:oo cells):
  ∃cV,dO P0 (a5 (n+1)) 57 [.ref j] z= .ok (.aD (nA cells a).1.length (nA cells a).1) (z.set j (ho cV cells (nA cells a).2)):=by
 revert h ai aW;revert n z j b a cells;refine@(rV ne hc ne ne ne ne ?n9 ?σ9 ?j9 ?b9 ?a9 ?cells9 ?_ ?_)
 rotate_left 6
 (
 intro h ai aW
 have ae:∀C:aK,C 86=some (.ref ?j9)->az P0 (a5 (?n9+1)) (E.bh 52 [E.aa 86,E.val (V.int (3))]) C ?σ9= .ok (.int (.ofNat (fh ?cells9 ?a9 3))) ((?σ9).set ?j9 (ho (?b9+1) ?cells9 (?a9+1))):=λC ak=>by
  simp only[fC,eJ,jJ,jI,AX,ak,hH,Res.bind];exact FK (a5 ?n9) ?σ9 (k:=2) h (by lia) aW
 simp only[dO,show P0.fns 57=B9 from rfl,B9,xK,xL,ip,lZ,qZ];refine ab Yk (ab (ae _ rfl) ?_);simp only[Res.bind];have aj:=q0 ?cells9 ?a9 3 (by lia);unfold nA;generalize fh ?cells9 ?a9 3=r at aj
 match r,aj with
 |0,_=>exact⟨?b9+1,rfl⟩
 |1,_=>refine⟨?b9+2,?_⟩;have t1:=λC ak=>FN (n:=?n9) (C:=C) (acc:=[]) ak (l0 ?σ9 ?j9 (ho (?b9+1) ?cells9 (?a9+1))) (by lia) aW (by simp);simp only[show small 1=true from rfl,G9,yA,List.nil_append,nR,nS];have t2:=t1 ((aK.set (λx9=>none) 86 (.ref ?j9)).set 85 (.int (.ofNat 0))) rfl;rw[Md]at t2;simp only[Res.bind]at t2⊢;refine ab t2 ?_;rfl
 |2,_=>refine⟨?b9+3,?_⟩;have t1:=FN (n:=?n9) (C:=(aK.set (λx9=>none) 86 (.ref ?j9)).set 85 (.int (.ofNat 0))) (acc:=[]) rfl (l0 ?σ9 ?j9 (ho (?b9+1) ?cells9 (?a9+1))) (by lia) aW (by simp);have t2:=FN (n:=?n9) (C:=(aK.set (λx9=>none) 86 (.ref ?j9)).set 85 (.int (.ofNat 1))) (acc:=[s2 (fh ?cells9 (?a9+1) 6)]) rfl (l0 ?σ9 ?j9 (ho (?b9+2) ?cells9 (?a9+2))) (by lia) aW (by simp);rw[Md]at t1 t2;simp only[show small 2=true from rfl,G9,yA,List.nil_append,List.cons_append,nR,nS];simp only[Res.bind]at t1 t2⊢;refine ab t1 ?_;simp only[List.nil_append]at t2⊢;refine ab t2 ?_;rfl
 |n+3,h=>exact bf h (by lia))
 rfl
structure b4(c:Nat)(z aO:St):Prop where
 heap:∀id,eT (id/1024)=false->aO.heap id=z.heap id
 nx:∀k,eT k=false->aO.nx k=z.nx k
 q1:∀k,eT k=true->aO.nx k<=z.nx k+c
 log:aO.log=z.log
theorem b4.refl(z:St):b4 0 z z:=⟨λx9 x9=>rfl,λx9 x9=>rfl,λx9 x9=>b8 _,rfl⟩
theorem b4.trans(x:b4 c z aO)(y:b4 d aO cK):b4 (c+d) z cK:=
 ⟨λid h=>(y.heap id h).trans (x.heap id h),λk h=>(y.nx k h).trans (x.nx k h),λk h=>by have:=x.q1 k h;have:=y.q1 k h;lia,y.log.trans x.log⟩
theorem b4.mono(x:b4 c z aO)(h:c<=d):b4 d z aO:=⟨x.heap,x.nx,λk ag=>by have:=x.q1 k ag;lia,x.log⟩
theorem g4{z:St}(h:z.nx k<1024):z.aT k/1024=k:=by unfold St.aT;lia
theorem b4.new(o:O)(ag:eT k=true)(h:z.nx k<1024):b4 1 z (z.new k o):=by
 refine⟨λid aW=>?_,λbF h'=>?_,λbF h'=>?_,rfl⟩
 ·unfold St.new;dsimp only
  cases e:Nat.beq id (z.aT k)with
  |false=>rfl
  |true=>have:=cj e;rw[this,g4 h,ag]at aW;exact rk aW
 ·unfold St.new;dsimp only
  cases e:Nat.beq bF k with
  |false=>rfl
  |true=>rw[Nat.eq_of_beq_eq_true e,ag]at h';exact rk h'
 ·unfold St.new;dsimp only
  cases e:Nat.beq bF k with
  |false=>simp
  |true=>refine ab (cj e) ?_;exact b8 _
theorem b4.set{id:Nat}(o:O)(h:eT (id/1024)=true):b4 0 z (z.set id o):=by
 refine⟨λi aW=>?_,λx9 x9=>rfl,λx9 x9=>b8 _,rfl⟩;unfold St.set;dsimp only
 cases e:Nat.beq i id with
 |false=>rfl
 |true=>rw[Nat.eq_of_beq_eq_true e,h]at aW;exact rk aW
theorem b4.le(x:b4 c z aO):f2 aO (z.drop c) where
 heap:=λid bS e=>by
  unfold St.drop at e;dsimp only at e
  cases h:eT (id/1024)with
  |true=>rw[h]at e;exact ns e
  |false=>rw[h]at e;exact bq bS ((x.heap id h).trans e) (.refl _)
 nx:=λk x9=>by
  unfold St.drop;dsimp only
  cases h:eT k with
  |true=>exact x.q1 k h
  |false=>exact fr (x.nx k h)
theorem kz(z:St)(k:Nat)(o:O):(z.new k o).heap (z.aT k)=some o:=by simp[St.new]
theorem tk{z:St}(h:z.nx k<=1000)(ag:k<64):z.dI k=true:=by unfold St.dI;refine ab (show Nat.blt k 64=true from gn ag) ?_;exact gn (Nat.succ_le_succ (by lia))
theorem YG:oK [] []=true:=rfl
theorem YH:oJ [] []=some true:=rfl
theorem YI:yr .none=true:=rfl
theorem YJ(F:bT)(h:z.nx 15<=1000):∃σ',dO P0 F 35 [.none] z= .ok (.aD 0 []) σ'/\b4 1 z σ'/\∀id,id/1024≠15->σ'.heap id=z.heap id:=by
 have aw:=tk h (by lia);refine fW ((z.new 15 (.list 1 [.none])).set (z.aT 15) (.list 1 [])) ?_ ((b4.new _ rfl (by lia)).trans (b4.set _ (by rw[g4 (by lia)];rfl))) (λid dV=>?_)
 rotate_left
 ·have dB:Nat.beq id (z.aT 15)=false:=by
   cases e:Nat.beq id (z.aT 15)with
   |false=>rfl
   |true=>exact bf (by exact ab (cj e) (ab (g4 (by lia)) rfl)) dV
  simp[St.set,St.new,dB]
 simp only[dO,show P0.fns 35=B7 from rfl,B7,xK,xL,ip,lZ,AY,Yt,Yu,qY,qZ,L7,jJ,qX,xO,FG,fC,eJ,Res.bind,hH];simp[aK.set,aw,(kz z 15 (.list 1 [.none])),(l0 (z.new 15 (.list 1 [.none])) (z.aT 15) (.list 1 [])),small,yw,tV,oR,jJ,qX,hX,fC,eJ,Res.bind,hH,FE,Yh,L1,dA,cP,Ya,X9,dr,g7,yu,yD (kz z 15 (.list 1 [.none])),yD (l0 (z.new 15 (.list 1 [.none])) (z.aT 15) (.list 1 [])),kI,Hd,vV (kz z 15 (.list 1 [.none])),oS,oT,YI,ke,YG,yx,yy,yz,YH]
theorem dX(h:c6 P F s C z= .ok (.next,bJ) σ'):bc P F (s::r) C z=bc P F r bJ σ':=by refine ab lZ (ab h ?_);rfl
theorem YK(h:c6 P F s C z= .exc σ'):bc P F (s::r) C z= .exc σ':=by refine ab lZ (ab h ?_);rfl
theorem l1(h:c6 P F s C z= .ok (.ret v,bJ) σ'):bc P F (s::r) C z= .ok (.ret v,bJ) σ':=by refine ab lZ (ab h ?_);rfl
theorem tl(h:az P F c C z= .ok (.bool false) σ'):c6 P F (S.ite c t []) C z= .ok (.next,C) σ':=by refine ab qY (ab h ?_);rfl
theorem AZ(h:az P F c C z= .ok (.bool true) σ'):c6 P F (S.ite c t f) C z=bc P F t C σ':=by refine ab qY (ab h ?_);rfl
theorem kA(h:az P F e C z= .ok v σ'):c6 P F (S.assign x e) C z= .ok (.next,C.set x v) σ':=by refine ab AY (ab h ?_);rfl
theorem q2(h:az P F e C z= .ok v σ'):c6 P F (S.ret e) C z= .ok (.ret v,C) σ':=by refine ab qZ (ab h ?_);rfl
theorem FO(h:az P F e C z= .ok v σ'):c6 P F (S.expr e) C z= .ok (.next,C) σ':=by refine ab Yq (ab h ?_);rfl
theorem cZ(h:C x=some v):az P F (E.aa x) C z= .ok v z:=by refine ab jJ (ab h ?_);rfl
theorem jl{a id c b1:Nat}(h:az P F e C z= .ok (.ref id) σ')(ae:σ'.heap id=some (.inst c b1 Y))(af:dk a Y=some v):az P F (E.au e a) C z= .ok v σ':=by refine ab xN (ab h ?_);simp only[Res.bind,vU ae,af,hH]
theorem ox(ai:∀t,b≠ .nN t)(h:az P F e C z= .ok v σ')(aw:Mine.Tactic.bi b [v] σ'= .ok r fc):az P F (E.bi b [e]) C z= .ok r fc:=by refine ab ((hX ai)) (ab fC (ab h ?_));simp only[Res.bind,eJ];cases b<;>first|exact aw|exact bf rfl (ai _)
theorem iq(ai:∀t,b≠ .nN t)(h:az P F e C z= .ok v σ')(h':az P F ey C σ'= .ok v' fc)(aw:Mine.Tactic.bi b [v,v'] fc= .ok r hY):az P F (E.bi b [e,ey]) C z= .ok r hY:=by refine ab ((hX ai)) (ab fC (ab h ?_));simp only[Res.bind,fC,eJ,h'];cases b<;>first|exact aw|exact bf rfl (ai _)
theorem q3(h:az P F e C z= .ok v σ')(aw:F.fn f [v] σ'=r):az P F (E.bh f [e]) C z=r:=by refine ab AX (ab fC (ab h ?_));exact aw
theorem xS(a:List Nat):el a a=true:=by rw[jV];simp
theorem vi(h:a≠b):el a b=false:=by rw[jV];simp[h]
theorem vj(s t:List Nat)(v:V):∀ah,c7 s (fJ t v ah)=if t=s then some v else c7 s ah:=by
 intro br
 induction br with
 |nil=>
  by_cases h:t=s
  ·subst h;simp[oQ,mW,oP,md,xS]
  ·simp[oQ,mW,oP,md,vi h,h]
 |cons cm r ih=>
  obtain⟨k,w⟩:=cm
  by_cases ag:k=t
  ·subst ag
   by_cases h:k=s
   ·subst h;simp[oQ,mW,oP,md,xS]
   ·simp[oQ,mW,oP,md,xS,vi h,h]
  ·have ih:=ih
   by_cases h:k=s
   ·subst h;have:t≠k:=λq=>ag q.symm;simp[oQ,mW,oP,md,xS,vi ag,this]
   ·simp[oQ,mW,oP,md,vi ag,vi h,ih]
noncomputable def hZ(v:V):V:=match v with| .tup [s,_,_]=>s|_=> .none
theorem YL{a b c:V}:hZ (.tup [a,b,c])=a:=rfl
theorem Me(e:az P0 F it C z= .ok (.aD b l) z)(h:∀w∈l,∃s x y,w= .tup [s,x,y])(ak:l.length<=1000):
  az P0 F (E.comp none (E.bi .idx [E.aa 26,E.val (V.int (0))]) 26 it []) C z= .ok (.aD (l.map hZ).length (l.map hZ)) z:=by
 refine ab xP (ab e ?_);dsimp only[Res.bind,h7];rw[xQ _ hZ z l []]
 ·rfl
 ·intro w hw acc aL;refine G1 (h w hw) ?_;rintro s x y rfl;simp[jJ,jI,hX,vg,fC,eJ,Res.bind,hH,mO,dA,cP,h6,hG,dr,AV,small,tj aL,aK.set,YL]
 ·simp;lia
noncomputable abbrev pJ:List S:=[S.ite (E.bi .isin [E.aa 2,E.aa 71]) [S.raise [E.aa 70,E.val (V.str [97,32,99,111,109,112,111,110,101,110,116,32,115,116,97,110,100,115,32,116,119,105,99,101])]] [],S.i0 (E.aa 71) (E.aa 2) (E.val (V.bool true))]
theorem YM{C:aK}(ag:C 71=some (.ref kid))(h:z.heap kid=some (.ba b ah))(ai:b<=9000)(ar:c7 s ah=none):
  bc P0 F pJ (C.set 2 (.str s)) z= .ok (.next,C.set 2 (.str s)) (z.set kid (.ba (b+1) (fJ s (.bool true) ah))):=by
 have ak:small b=true:=gn (by lia);simp[ip,lZ,qY,FH,jJ,jI,hX,fC,eJ,Res.bind,hH,aK.set,ag,xM,dA,cP,B3 h,h,ar,oS,oT,kI,iy,ak]
theorem YN{C:aK}(ag:C 71=some (.ref kid))(aW:C 70=some (.int i))(h:z.heap kid=some (.ba b ah))(ar:c7 s ah=some v):
  bc P0 F pJ (C.set 2 (.str s)) z= .exc z:=by
 simp[lZ,qY,Ys,jJ,jI,hX,fC,eJ,Res.bind,hH,aK.set,ag,aW,xM,dA,cP,B3 h,h,ar,oS,oT,kI]
theorem Mf(cF:eT (kid/1024)=true):∀(ns:List (List Nat))(ah:List (List Nat×V))(b:Nat)(z:St)(C:aK),z.heap kid=some (.ba b ah)->C 71=some (.ref kid)->C 70=some (.int i)->b+ns.length<=9000->
  ((ns.Nodup/\∀s∈ns,c7 s ah=none)->∃bJ σ',dN (λv C z=>bc P0 F pJ (C.set 2 v) z) (aZ ns) C z= .ok (.next,bJ) σ'/\b4 0 z σ')/\
  (¬(ns.Nodup/\∀s∈ns,c7 s ah=none)->∃σ',dN (λv C z=>bc P0 F pJ (C.set 2 v) z) (aZ ns) C z= .exc σ'/\b4 0 z σ'):=by
 intro ns
 induction ns with
 |nil=>intro ah b z C h ag aW ai;exact⟨λx9=>(eK C z rfl (b4.refl z)),λq=>bf ⟨List.nodup_nil,λx9 h=>by cases h⟩ q⟩
 |cons s ns ih=>
  intro ah b z C h ag aW ai;simp only[List.length_cons]at ai
  cases ar:c7 s ah with
  |some v=>have e:=YN (F:=F) ag aW h ar;refine⟨λq=>(by have:=q.2 s (List.mem_cons_self ..);rw[ar]at this;exact nomatch this),λx9=>⟨z,?_,b4.refl z⟩⟩;simp only[aZ,List.map_cons,p4,e,Res.bind]
  |none=>
   have e:=YM (F:=F) ag h (by lia) ar;have ih:=ih (fJ s (.bool true) ah) (b+1) (z.set kid (.ba (b+1) (fJ s (.bool true) ah))) (C.set 2 (.str s)) (l0 _ _ _) ag aW (by lia)
   have Mg:(ns.Nodup/\∀t∈ns,c7 t (fJ s (.bool true) ah)=none)↔((s::ns).Nodup/\∀t∈s::ns,c7 t ah=none):=by
    constructor
    ·rintro⟨ae,af⟩
     have ax:s∉ns:=λaJ=>by have:=af s aJ;rw[vj]at this;simp at this
     refine⟨List.nodup_cons.mpr ⟨ax,ae⟩,λt bH=>?_⟩
     rcases List.mem_cons.mp bH with rfl|bH
     ·exact ar
     ·have:=af t bH;rw[vj]at this
      split at this
      ·injection this
      ·exact this
    ·rintro⟨ae,af⟩
     have⟨ax,a0⟩:=List.nodup_cons.mp ae;refine⟨a0,λt bH=>?_⟩;rw[vj,if_neg (λq=>ax (q▸bH):¬s=t)];exact af t (List.mem_cons_of_mem _ bH)
   have A0:dN (λv C z=>bc P0 F pJ (C.set 2 v) z) (aZ (s::ns)) C z=dN (λv C z=>bc P0 F pJ (C.set 2 v) z) (aZ ns) (C.set 2 (.str s)) (z.set kid (.ba (b+1) (fJ s (.bool true) ah))):=by simp only[aZ,List.map_cons,p4,e,Res.bind]
   have vk:=b4.set (z:=z) (.ba (b+1) (fJ s (.bool true) ah)) cF;refine ab A0 ?_;refine⟨λq=>?_,λq=>?_⟩
   ·refine cS (ih.1 (Mg.mpr q)) ?_;intro bJ σ' bd gO;exact eK bJ σ' bd (vk.trans gO)
   ·refine a4 (ih.2 (λw=>q (Mg.mp w))) ?_;intro σ' bd gO;exact bq σ' bd (vk.trans gO)
theorem Mh{p b vl c b1:Nat}{Y:List (Nat×V)}{cH fR:List V}{ns:List (List Nat)}{i:Int}(ae:z.heap p=some (.inst c b1 Y))(af:dk 6 Y=some (.aD 0 []))(ax:dk 7 Y=some (.aD vl cH))(a0:dk 8 Y=some .none)(sy:vl<=64)(ai:b<=64)(am:j5 (cH++fR) ns)(aj:eT (p/1024)=false)
  (xT:z.nx 15<=900) (xU:z.nx 17<=900):
  (ns.Nodup->∃σ',dO P0 (a5 (n+1)) 38 [.ref p, .aD b fR, .int i] z= .ok .none σ'/\b4 2 z σ')/\
  (¬ns.Nodup->∃σ',dO P0 (a5 (n+1)) 38 [.ref p, .aD b fR, .int i] z= .exc σ'/\b4 2 z σ'):=by
 revert z p b vl c b1 Y cH fR ns i ae af ax a0 sy ai am aj xT xU;revert n;refine@(o4 ne ?n9 ?_ ?_)
 rotate_left 1
 intro z p b vl c b1 Y cH fR ns i ae af ax a0 sy ai am aj xT xU;have YO:=tk (z:=z) (k:=17) (by lia) (by lia)
 have i8:∀w∈cH++fR,∃s x y,w= .tup [s,x,y]:=λw hw=>by
  replace hw:=am.1▸hw;refine a4 (List.mem_map.mp hw) ?_;rintro s _ rfl;exact⟨s,_,_,rfl⟩
 have eh:cH.length+fR.length<=64:=by have:=bz List.length am.1;simp[hB,aZ]at this;have:=am.2;lia
 have YP:cH.map hZ++fR.map hZ=aZ ns:=by refine bM List.map_append (ab am.1 ?_);unfold hB;refine c0 List.map_map ?_;exact(List.map_congr_left λx9 x9=>rfl).trans (List.map_id _)
 generalize FP:z.new 17 (.ba 0 [])=mQ;have hC:b4 1 z mQ:=FP▸b4.new _ rfl (by lia);have YQ:mQ.heap (z.aT 17)=some (.ba 0 []):=FP▸kz _ _ _;have YR:mQ.heap p=some (.inst c b1 Y):=(hC.heap p aj).trans ae;have YS:mQ.nx 15<=1000:=by have:=hC.q1 15 rfl;lia
 refine fV (YJ (a5 ?n9) YS) ?_;intro lf YT tm YU;have dV:eT (z.aT 17/1024)=true:=by refine ab (g4 (by lia)) ?_;rfl
 have YV:lf.heap (z.aT 17)=some (.ba 0 []):=(YU _ (by refine ab (g4 (by lia)) ?_;lia)).trans YQ;have loop:=Mf (F:=a5 (?n9+1)) (i:=i) dV ns [] 0 lf;generalize hA:((((aK.set (λx9=>none) 10 (.ref p)).set 7 (.aD b fR)).set 70 (.int i)).set 71 (.ref (z.aT 17)))=lv1;have YW:lv1 10=some (.ref p):=by subst hA;rfl
 have YX:lv1 7=some (.aD b fR):=by subst hA;rfl
 have YY:lv1 70=some (.int i):=by subst hA;rfl
 have ka:lv1 71=some (.ref (z.aT 17)):=by subst hA;rfl
 have FQ:∀a v,dk a Y=some v->az P0 (a5 (?n9+1)) (E.au (E.aa 10) a) lv1 mQ= .ok v mQ:=λa v aL=>by
  simp only[jJ,xN,YW,hH,Res.bind,vU YR,aL]
 have FR:az P0 (a5 (?n9+1)) (E.bi .add [E.au (E.aa 10) 6,E.au (E.aa 10) 7]) lv1 mQ= .ok (.aD (0+vl) ([]++cH)) mQ:=by refine c0 ((hX (λx9 q=>by cases q))) ?_;simp only[fC,eJ,FQ _ _ af,FQ _ _ ax,Res.bind,AW,dA,cP,dr,yE];exact ab (show small (0+vl)=true from gn (by lia)) rfl
 have eW:=Me FR (λw hw=>i8 w (List.mem_append_left _ hw)) (by simp;lia)
 have YZ:az P0 (a5 (?n9+1)) (E.bh 35 [E.au (E.aa 10) 8]) lv1 mQ= .ok (.aD 0 []) lf:=by refine c0 AX ?_;simp only[fC,eJ,FQ _ _ a0,Res.bind];exact YT
 have fe:az P0 (a5 (?n9+1)) (E.bi .add [E.comp none (E.bi .idx [E.aa 26,E.val (V.int (0))]) 26 (E.bi .add [E.au (E.aa 10) 6,E.au (E.aa 10) 7]) [],E.bh 35 [E.au (E.aa 10) 8]]) lv1 mQ= .ok (.aD (cH.map hZ).length (cH.map hZ)) lf:=by refine c0 ((hX (λx9 q=>by cases q))) ?_;simp only[fC,eJ,eW,YZ,Res.bind,AW,dA,cP,dr,yE,List.nil_append,List.append_nil,Nat.add_zero];exact ab (show small (cH.map hZ).length=true from gn (by simp;lia)) rfl
 generalize xV:lv1.set 47 (.aD (cH.map hZ).length (cH.map hZ))=fA;have Y0:fA 7=some (.aD b fR):=by subst xV;exact YX
 have Y1:fA 47=some (.aD (cH.map hZ).length (cH.map hZ)):=by subst xV;rfl
 have aB:=Me (F:=a5 (?n9+1)) (z:=lf) (C:=fA) (it:=E.aa 7) (b:=b) (l:=fR) (by refine ab jJ (ab Y0 ?_);rfl) (λw hw=>i8 w (List.mem_append_right _ hw)) (by lia)
 have sR:az P0 (a5 (?n9+1)) (E.bi .add [E.aa 47,E.comp none (E.bi .idx [E.aa 26,E.val (V.int (0))]) 26 (E.aa 7) []]) fA lf= .ok (.aD ((cH.map hZ).length+(fR.map hZ).length) (aZ ns)) lf:=by
  refine c0 ((hX (λx9 q=>by cases q))) ?_
  rw[show de P0 (a5 (?n9+1)) [E.aa 47,E.comp none (E.bi .idx [E.aa 26,E.val (V.int (0))]) 26 (E.aa 7) []] fA lf= .ok [.aD (cH.map hZ).length (cH.map hZ), .aD (fR.map hZ).length (fR.map hZ)] lf by
   refine ab fC (ab jJ (ab Y1 ?_));simp only[hH,Res.bind,fC,eJ,aB]]
  simp only[Res.bind,AW,dA,cP,dr,yE];refine ab (show small ((cH.map hZ).length+(fR.map hZ).length)=true from gn (by simp;lia)) ?_;exact ab YP rfl
 have FS:c6 P0 (a5 (?n9+1)) (S.assign 71 (E.dict 17 false [])) (((aK.set (λx9=>none) 10 (.ref p)).set 7 (.aD b fR)).set 70 (.int i)) z= .ok (.next,lv1) mQ:=by refine ab AY (ab L3 ?_);simp only[YO,Res.bind,FP,hA]
 have Y2:c6 P0 (a5 (?n9+1)) (S.assign 47 (E.bi .add [E.comp none (E.bi .idx [E.aa 26,E.val (V.int (0))]) 26 (E.bi .add [E.au (E.aa 10) 6,E.au (E.aa 10) 7]) [],E.bh 35 [E.au (E.aa 10) 8]])) lv1 mQ= .ok (.next,fA) lf:=by refine ab AY (ab fe ?_);simp only[Res.bind,xV]
 have xW:c6 P0 (a5 (?n9+1)) (S.eL 2 (E.bi .add [E.aa 47,E.comp none (E.bi .idx [E.aa 26,E.val (V.int (0))]) 26 (E.aa 7) []]) pJ) fA lf=dN (λv C z=>bc P0 (a5 (?n9+1)) pJ (C.set 2 v) z) (aZ ns) fA lf:=by refine ab vh (ab sR ?_);rfl
 have kB:dO P0 (a5 (?n9+1)) 38 [.ref p, .aD b fR, .int i] z=(bc P0 (a5 (?n9+1)) [S.assign 71 (E.dict 17 false []),S.assign 47 (E.bi .add [E.comp none (E.bi .idx [E.aa 26,E.val (V.int (0))]) 26 (E.bi .add [E.au (E.aa 10) 6,E.au (E.aa 10) 7]) [],E.bh 35 [E.au (E.aa 10) 8]]),S.eL 2 (E.bi .add [E.aa 47,E.comp none (E.bi .idx [E.aa 26,E.val (V.int (0))]) 26 (E.aa 7) []]) pJ] (((aK.set (λx9=>none) 10 (.ref p)).set 7 (.aD b fR)).set 70 (.int i)) z).bind λx z=>match x.1 with| .ret v=> .ok v z| .next=> .ok .none z| .cont=> .stuck:=rfl
 have loop:=Mf (F:=a5 (?n9+1)) (i:=i) dV ns [] 0 lf fA YV (by subst xV;exact ka) (by subst xV;exact YY) (by have:=am.2;lia);have Mi:b4 2 z lf:=hC.trans tm;refine ab kB (ab (dX FS) (ab (dX Y2) ?_));refine⟨λaq=>?_,λaq=>?_⟩
 ·refine cS (loop.1 ⟨aq,λx9 x9=>rfl⟩) ?_;intro bJ σ' e j;refine⟨σ',?_,Mi.trans j⟩;refine ab (dX (xW.trans e)) (ab ip ?_);rfl
 ·refine a4 (loop.2 λq=>aq q.1) ?_;intro σ' e j;refine⟨σ',?_,Mi.trans j⟩;refine ab (YK (xW.trans e)) ?_;rfl
 rfl
theorem Y3(F:bT)(z:St):dO P0 F 10 [.none] z= .ok (.aD 0 []) z:=by kernel_rfl
theorem Y4{b c b1:Nat}(e:az P0 F it C z= .ok (.aD b l) z)(h:l=hB (.ref 3072) names)(ax:z.heap 3072=some (.inst c b1 Y))(Y5:dk 25 Y=some ty)(ak:names.length<=1000)(Y6:z.dI tag=true):
  az P0 F (E.comp (some tag) (E.au (E.bi .idx [E.aa 26,E.val (V.int (1))]) 25) 26 it []) C z= .ok (.ref (z.aT tag)) (z.new tag (.list names.length (List.replicate names.length ty))):=by
 refine ab xP (ab e ?_);simp only[Res.bind,h7];rw[xQ _ (λx9=>ty) z l []]
 ·simp only[oR,Y6,List.nil_append,((by rw[List.map_const',h,hB,List.length_map]):l.map (λx9=>ty)=List.replicate names.length ty),List.length_replicate]
 ·intro w hw acc aL;replace hw:=h▸hw;refine a4 (List.mem_map.mp hw) ?_;rintro s _ rfl;simp[jJ,jI,xN,hX,vg,fC,eJ,Res.bind,hH,mO,dA,cP,h6,hG,dr,AV,small,tj aL,aK.set,xv,vU ax,Y5]
 ·refine ab h ?_;simp[hB];lia
theorem FT(h:az P F a C z= .ok (.bool x) σ')(h':az P F b C σ'= .ok (.bool y) σ'):az P F (E.and [a,b]) C z= .ok (.bool (x&&y)) σ':=by
 refine ab L2 (ab L5 (ab h ?_))
 ·cases x
  ·rfl
  ·simp only[Res.bind,oS,oT,kI,L4,h',Bool.true_and]
noncomputable abbrev A1:E:=E.and [E.bi .eq [E.au (E.aa 22) 11,E.val (V.str fa)],E.bi .er [E.au (E.aa 22) 17]]
noncomputable abbrev FU:S:=S.expr (E.e1 .append (E.aa 57) [E.au (E.au (E.aa 22) 17) 25])
abbrev Mj:List S:=[S.ite A1 [FU] [],S.ite (E.bi .er [E.au (E.aa 22) 16]) [S.stuck] [],S.ret (E.aa 57)]
structure TI(z:St)(t:Nat)(kind:List Nat)(cH:List V)(d:V):Prop where
 ex:∃c b1 Y b,z.heap t=some (.inst c b1 Y)/\dk 11 Y=some (.str kind)/\dk 7 Y=some (.aD b cH)/\dk 8 Y=some .none/\dk 16 Y=some .none/\dk 17 Y=some d/\b<=64
theorem tn(h:s4 z t=some (kind,cH,d)):TI z t kind cH d:=
 gz h λY ae h=>gz h λk af h=>om h λb pk ax h=>gz h λdy a0 h=>Ln h λag e=>f8 ag λbd bB fz=>gz af λdY cn da=>by
  refine kG (s1 ae) ?_;intro c b1 as;refine⟨c,b1,Y,b,as,cn.trans (bz some ((Ah da).trans (bz (λp=>V.str p.1) (a8 e:(k,pk,dy)=(kind,cH,d))))),(u4 ax).trans (bz (λp=>some (V.aD b p.2.1)) (a8 e:(k,pk,dy)=(kind,cH,d))),Lu bd,Lu bB,a0.trans (bz (λp=>some p.2.2) (a8 e:(k,pk,dy)=(kind,cH,d))),dG fz⟩
theorem Y7(h:Al z d=some b):∃c b1 Y,z.heap d=some (.inst c b1 Y)/\dk 25 Y=some (.ref b):=
 gz h λY ae af=>kG (s1 ae) λc b1 e=>(mV c b1 Y e (sZ af))
abbrev hD(z:St):Prop:=(∃c b1 Y,z.heap 3072=some (.inst c b1 Y)/\dk 25 Y=some (.ref 2048))/\(∃c b1 Y,z.heap 2048=some (.inst c b1 Y)/\dk 23 Y=some (.int (.ofNat 61)))/\(∃kind,TI z 2048 kind [] .none/\el kind u5=false)
def hD.sub(x:hD a):=x.1
def hD.num(x:hD a):=x.2.1
def hD.ty(x:hD a):=x.2.2
theorem Mk(h:TI z t kind cH d)(aU:hD z)(aB:cH=hB (.ref 3072) names)(aq:names.length<=64)(iu:z.nx 22<=1000):
  dO P0 (a5 (n+1)) 49 [.ref t] z=(bc P0 (a5 (n+1)) Mj ((aK.set (λx9=>none) 22 (.ref t)).set 57 (.ref (z.aT 22))) (z.new 22 (.list names.length (List.replicate names.length (.ref 2048))))).bind λx z=>match x.1 with| .ret v=> .ok v z| .next=> .ok .none z| .cont=> .stuck:=by
 refine vI h.ex ?_;intro c b1 Y b ae af ax a0 cn da fw;refine fl aU.sub ?_;intro du mq uZ gi hl;have kB:dO P0 (a5 (n+1)) 49 [.ref t] z=(bc P0 (a5 (n+1)) (S.assign 57 (E.comp (some 22) (E.au (E.bi .idx [E.aa 26,E.val (V.int (1))]) 25) 26 (E.bi .add [E.au (E.aa 22) 7,E.bh 10 [E.au (E.aa 22) 8]]) [])::Mj) (aK.set (λx9=>none) 22 (.ref t)) z).bind λx z=>match x.1 with| .ret v=> .ok v z| .next=> .ok .none z| .cont=> .stuck:=rfl
 have FR:az P0 (a5 (n+1)) (E.bi .add [E.au (E.aa 22) 7,E.bh 10 [E.au (E.aa 22) 8]]) (aK.set (λx9=>none) 22 (.ref t)) z= .ok (.aD (b+0) cH) z:=
  iq (λx9 q=>by injection q) (jl (cZ (P:=P0) (F:=a5 (n+1)) (z:=z) (x:=22) (C:=aK.set (λx9=>none) 22 (.ref t)) rfl) ae ax) (q3 (jl (cZ (P:=P0) (F:=a5 (n+1)) (z:=z) (x:=22) (C:=aK.set (λx9=>none) 22 (.ref t)) rfl) ae a0) (Y3 (a5 n) z)) (by
   simp only[AW,dA,cP,dr,yE]
   rw[show small (b+0)=true from Nat.ble_eq_true_of_le (by lia),List.append_nil])
 exact ab kB (ab (dX (kA (Y4 FR aB gi hl (by lia) (tk iu (by lia))))) rfl)
theorem xX(h:TI z t kind cH .none)(aU:hD z)(aB:cH=hB (.ref 3072) names)(aq:names.length<=64)(iu:z.nx 22<=1000)(bH:t/1024≠22):
  dO P0 (a5 (n+1)) 49 [.ref t] z= .ok (.ref (z.aT 22)) (z.new 22 (.list names.length (List.replicate names.length (.ref 2048)))):=by
 refine c0 (Mk h aU aB aq iu) ?_;refine vI h.ex ?_;intro c b1 Y b ae af ax a0 cn da fw
 have dB:(z.new 22 (.list names.length (List.replicate names.length (.ref 2048)))).heap t=z.heap t:=by
  unfold St.new;dsimp only
  cases e:Nat.beq t (z.aT 22)with
  |false=>rfl
  |true=>exact bf (by exact ab (cj e) (ab (g4 (by lia)) rfl)) bH
 replace dB:=dB.trans ae;generalize z.new 22 (.list names.length (List.replicate names.length (.ref 2048)))=aO at dB;generalize hA:((aK.set (λx9=>none) 22 (.ref t)).set 57 (.ref (z.aT 22)))=lv1;have tp:=cZ (P:=P0) (F:=a5 (n+1)) (z:=aO) (x:=22) (C:=lv1) (v:= .ref t) (by subst hA;rfl);have nF:=cZ (P:=P0) (F:=a5 (n+1)) (z:=aO) (x:=57) (C:=lv1) (v:= .ref (z.aT 22)) (by subst hA;rfl)
 have bd:az P0 (a5 (n+1)) (E.bi .eq [E.au (E.aa 22) 11,E.val (V.str fa)]) lv1 aO= .ok (.bool (el kind fa)) aO:=
  iq (λx9 q=>by injection q) (jl tp dB af) (by exact jI) rfl
 have bB:az P0 (a5 (n+1)) (E.bi .er [E.au (E.aa 22) 17]) lv1 aO= .ok (.bool false) aO:=
  ox (λx9 q=>by cases q) (jl tp dB da) rfl
 have iv:az P0 (a5 (n+1)) A1 lv1 aO= .ok (.bool false) aO:=by rw[FT bd bB,Bool.and_false]
 have fz:az P0 (a5 (n+1)) (E.bi .er [E.au (E.aa 22) 16]) lv1 aO= .ok (.bool false) aO:=
  ox (λx9 q=>by cases q) (jl tp dB cn) rfl
 refine ab (dX (tl iv)) (ab (dX (tl fz)) (ab (l1 (q2 nF)) ?_));rfl
theorem Y8(h:TI z t kind cH (.ref d))(ag:el kind u5=true)(aN:Al z d=some fT)(aU:hD z)(aB:cH=hB (.ref 3072) names)(aq:names.length<=64)(iu:z.nx 22<=1000)(bH:t/1024≠22)(sJ:d/1024≠22):
  dO P0 (a5 (n+1)) 49 [.ref t] z= .ok (.ref (z.aT 22)) ((z.new 22 (.list names.length (List.replicate names.length (.ref 2048)))).set (z.aT 22) (.list (names.length+1) (List.replicate names.length (.ref 2048)++[.ref fT]))):=by
 refine c0 (Mk h aU aB aq iu) ?_;refine vI h.ex ?_;intro c b1 Y b ae af ax a0 cn da fw
 have dB:∀t,t/1024≠22->(z.new 22 (.list names.length (List.replicate names.length (.ref 2048)))).heap t=z.heap t:=λt bH=>by
  unfold St.new;dsimp only
  cases e:Nat.beq t (z.aT 22)with
  |false=>rfl
  |true=>exact bf (by exact ab (cj e) (ab (g4 (by lia)) rfl)) bH
 have tq:=dB t bH;have ij:=dB d sJ;have lx:=kz z 22 (.list names.length (List.replicate names.length (.ref 2048)));replace tq:=tq.trans ae;generalize z.new 22 (.list names.length (List.replicate names.length (.ref 2048)))=aO at tq ij lx;refine fl (Y7 aN) ?_;intro qG Ml aF Y9 pj;rw[Y9]at ij;generalize hA:((aK.set (λx9=>none) 22 (.ref t)).set 57 (.ref (z.aT 22)))=lv1;have FV:lv1 22=some (.ref t):=by subst hA;rfl
 have Mm:lv1 57=some (.ref (z.aT 22)):=by subst hA;rfl
 have tp:=cZ (P:=P0) (F:=a5 (n+1)) (z:=aO) FV
 have bd:az P0 (a5 (n+1)) (E.bi .eq [E.au (E.aa 22) 11,E.val (V.str fa)]) lv1 aO= .ok (.bool true) aO:=
  iq (λx9 q=>by injection q) (jl tp tq af) (by exact jI) (by
   refine(?_:em (some (V.bool (el kind u5))) aO=_)
   refine ab ag ?_;rfl)
 have bB:az P0 (a5 (n+1)) (E.bi .er [E.au (E.aa 22) 17]) lv1 aO= .ok (.bool true) aO:=
  ox (λx9 q=>by cases q) (jl tp tq da) rfl
 have iv:az P0 (a5 (n+1)) A1 lv1 aO= .ok (.bool true) aO:=by rw[FT bd bB,Bool.and_true]
 have kN:c6 P0 (a5 (n+1)) FU lv1 aO= .ok (.next,lv1) (aO.set (z.aT 22) (.list (names.length+1) (List.replicate names.length (.ref 2048)++[.ref fT]))):=by refine FO (v:= .none) ?_;refine ab xO (ab ((cZ (P:=P0) (F:=a5 (n+1)) (z:=aO) Mm)) ?_);simp only[Res.bind,B4,vV lx,fC,eJ,jl (jl tp tq da) ij pj,FF,dA,cP,yB lx,yC,dr,vS];exact ab (show small names.length=true from gn (by lia)) rfl
 have ar:∀o,(aO.set (z.aT 22) o).heap t=some (.inst c b1 Y):=λo=>by
  unfold St.set;dsimp only
  cases e:Nat.beq t (z.aT 22)with
  |false=>exact tq
  |true=>exact bf (by exact ab (cj e) (ab (g4 (by lia)) rfl)) bH
 have fz:=ox (P:=P0) (F:=a5 (n+1)) (b:= .er) (r:= .bool false) (λx9 q=>by cases q) (jl (cZ FV) (ar (.list (names.length+1) (List.replicate names.length (.ref 2048)++[.ref fT]))) cn) rfl
 have ei:c6 P0 (a5 (n+1)) (S.ite A1 [FU] []) lv1 aO= .ok (.next,lv1) (aO.set (z.aT 22) (.list (names.length+1) (List.replicate names.length (.ref 2048)++[.ref fT]))):=by exact ab (AZ iv) (ab (dX kN) (ab ip rfl))
 refine ab (dX ei) (ab (dX (tl fz)) (ab (l1 (q2 (cZ Mm))) ?_));rfl
theorem TI.gA(h:TI z t kind cH d)(j:b4 c z aO)(bH:eT (t/1024)=false):TI aO t kind cH d:=by refine tI h.ex ?_;intro c b1 Y b ae af;exact⟨c,b1,Y,b,(j.heap t bH).trans ae,af⟩
theorem hD.gA(h:hD z)(j:b4 c z aO):hD aO:=by refine fl h.sub ?_;intro c b1 Y ae af;refine fl h.num ?_;intro du mq uZ ax a0;refine a4 h.ty ?_;intro kind cn da;exact⟨(mV c b1 Y ((j.heap _ rfl).trans ae) af),(mV du mq uZ ((j.heap _ rfl).trans ax) a0),(bq kind (cn.gA j rfl) da)⟩
noncomputable abbrev A2:List S:=[S.i0 (E.aa 71) (E.au (E.aa 56) 23) (E.aa 56)]
abbrev q4:List S:=[S.eL 56 (E.bh 49 [E.aa 69]) A2]
noncomputable abbrev tr(z aO:St)(r:Nat):Prop:=(b4 r z aO)/\(aO.nx 22<=z.nx 22+r)/\(z.nx 22<=aO.nx 22)/\(∀id,id<z.aT 22->id/1024=22->aO.heap id=z.heap id)/\(aO.nx 24=z.nx 24)
section
variable(x:tr a b c)
def tr.gA:=x.1
def tr.nx:=x.2.1
def tr.Mn:=x.2.2.1
def tr.old:=x.2.2.2.1
def tr.kC:=x.2.2.2.2
end
theorem pK{z:St}{id:Nat}(h:id≠z.aT 22):(z.new 22 o).heap id=z.heap id:=by
 unfold St.new;dsimp only
 cases e:Nat.beq id (z.aT 22)with
 |false=>rfl
 |true=>exact bf (cj e) h
theorem A3{z:St}:(z.new 22 o).nx 22=z.nx 22+1:=rfl
theorem A4{z:St}:(z.new 22 o).aT 22=z.aT 22+1:=rfl
theorem Mo{id k j b:Nat}(h:z.heap id=some (.list b l))(cF:l[j]?=none):iz turn id (k+1) j C z= .ok (.next,C) z:=by rw[p5 h];simp only[cF]
theorem Mp{id k j b:Nat}(h:z.heap id=some (.list b l))(cF:l[j]?=some v)(bH:turn v C z= .ok (.next,bJ) σ'):iz turn id (k+1) j C z=iz turn id k (j+1) bJ σ':=by rw[p5 h];simp only[cF,bH,Res.bind]
theorem Za{id b:Nat}(h:az P0 F e C z= .ok (.ref id) aO)(ae:aO.heap id=some (.list b l)):c6 P0 F (S.eL x e body) C z=iz (λv C z=>bc P0 F body (C.set x v) z) id 200 0 C aO:=by refine ab vh (ab h ?_);simp only[Res.bind,ae]
theorem Zb{id b:Nat}(h:az P0 F e C z= .ok (.ref id) aO)(ae:aO.heap id=some (.list b [])):c6 P0 F (S.eL x e body) C z= .ok (.next,C) aO:=
 (Za h ae).trans (Mo (k:=199) ae rfl)
theorem Mq{C:aK}(aU:hD z)(iu:z.nx 22<=1000):bc P0 (a5 (n+2)) q4 (C.set 69 (.ref 2048)) z= .ok (.next,C.set 69 (.ref 2048)) (z.new 22 (.list 0 [])):=by refine a4 aU.ty ?_;intro kind cn da;have e:=q3 (P:=P0) (F:=a5 (n+2)) (f:=49) (cZ (C:=C.set 69 (.ref 2048)) (x:=69) rfl) (xX (n:=n) cn aU (names:=[]) rfl (by exact Nat.zero_le _) iu (by decide));refine ab (dX (Zb e (kz z 22 _))) (ab ip ?_);rfl
theorem Zc(bU:List V):∀(r j N:Nat)(C:aK)(z:St),z.heap L=some (.list b items)->(∀i,j<=i->i<j+r->items[i]?=some (.ref 2048))->r<N->hD z->L<z.aT 22->L/1024=22->z.nx 22+r<=1000->
  ∃bJ σ',iz (λv C z=>bc P0 (a5 (n+2)) q4 (C.set 69 v) z) L N j C z=iz (λv C z=>bc P0 (a5 (n+2)) q4 (C.set 69 v) z) L (N-r) (j+r) bJ σ'/\tr z σ' r/\bJ 71=C 71/\(∀id,id/1024=24->σ'.heap id=z.heap id):=by
 intro r
 induction r with
 |zero=>intro j N C z bl aW fe aU ae af aq;exact(rm C z rfl ⟨b4.refl z,b8 _,b8 _,λx9 x9 x9=>rfl,rfl⟩ rfl (λx9 x9=>rfl))
 |succ r ih=>
  intro j N C z bl aW fe aU ae af aq;obtain⟨N,rfl⟩:∃M,N=M+1:=⟨N-1,by lia⟩;have bH:=Mq (n:=n) (C:=C) aU (by lia);have cF:b4 1 z (z.new 22 (.list 0 [])):=b4.new _ rfl (by lia);refine fk (ih (j+1) N (C.set 69 (.ref 2048)) (z.new 22 (.list 0 [])) ((pK ((by lia):L≠z.aT 22)).trans bl) (λi cY cT=>aW i (by lia) (by lia)) (by lia) (aU.gA cF) (by refine ab A4 ?_;lia) af (by refine ab A3 ?_;lia)) ?_;intro bJ σ' e k bA FW;refine rm bJ σ' ?_ ?_ bA (λid dV=>(FW id dV).trans (pK (λq=>?_)))
  ·refine ab (show N+1-(r+1)=N-r by lia) (ab (show j+(r+1)=j+1+r by lia) (bM e ?_));exact Mp bl (aW j (b8 _) (by lia)) bH
  ·refine⟨(cF.trans k.gA).mono (by lia),?_,?_,λid cY cT=>?_,k.kC⟩
   ·have:=k.nx;rw[A3]at this;lia
   ·have:=k.Mn;rw[A3]at this;lia
   ·exact ab (k.old id (by rw[A4];lia) cT) (ab (pK (by lia)) rfl)
  ·have:=g4 (z:=z) (k:=22) (by lia);rw[<-q,dV]at this;lia
theorem Zd(Ze:kid/1024=24):∀(r j N fI:Nat)(ah:List (Int×V))(C:aK)(z:St),z.heap L=some (.list b items)->(∀i,j<=i->i<j+r->items[i]?=some (.ref 2048))->items.length=j+r->r<N->hD z->L/1024=22->C 71=some (.ref kid)->z.heap kid=some (.ck fI ah)->(ah=[]\/ah=[(61, .ref 2048)])->fI+r<=9000->
  ∃bJ A5 dD σ',iz (λv C z=>bc P0 (a5 (n+2)) A2 (C.set 56 v) z) L N j C z= .ok (.next,bJ) σ'/\b4 0 z σ'/\(∀id,id/1024=22->σ'.heap id=z.heap id)/\σ'.nx=z.nx/\bJ 71=C 71/\σ'.heap kid=some (.ck A5 dD)/\(dD=[]\/dD=[(61, .ref 2048)])/\A5<=fI+r:=by
 intro r
 induction r with
 |zero=>intro j N fI ah C z bl aW eh fe aU af ak ag sd ai;obtain⟨N,rfl⟩:∃M,N=M+1:=⟨N-1,by lia⟩;refine⟨C,fI,ah,z,?_,b4.refl z,λx9 x9=>rfl,rfl,rfl,ag,sd,b8 _⟩;exact Mo bl (List.getElem?_eq_none ((by lia):items.length<=j))
 |succ r ih=>
  intro j N fI ah C z bl aW eh fe aU af ak ag sd ai;obtain⟨N,rfl⟩:∃M,N=M+1:=⟨N-1,by lia⟩;refine fl aU.num ?_;intro c b1 Y gi hl;have Zf:ma 61 (.ref 2048) ah=[(61, .ref 2048)]:=by rcases sd with rfl|rfl<;>rfl
  have bH:bc P0 (a5 (n+2)) A2 (C.set 56 (.ref 2048)) z= .ok (.next,C.set 56 (.ref 2048)) (z.set kid (.ck (fI+1) [(61, .ref 2048)])):=by
   have bd:=cZ (P:=P0) (F:=a5 (n+2)) (z:=z) (C:=C.set 56 (.ref 2048)) (x:=56) (v:= .ref 2048) rfl;have bB:=jl bd gi hl
   have ah:c6 P0 (a5 (n+2)) (S.i0 (E.aa 71) (E.au (E.aa 56) 23) (E.aa 56)) (C.set 56 (.ref 2048)) z= .ok (.next,C.set 56 (.ref 2048)) (z.set kid (.ck (fI+1) [(61, .ref 2048)])):=by rw[FH,bd];simp only[Res.bind,(cZ (P:=P0) (F:=a5 (n+2)) (z:=z) (C:=C.set 56 (.ref 2048)) (x:=71) (v:= .ref kid) ak),bB,iy,ag,show small fI=true from Nat.ble_eq_true_of_le (by lia)];exact ab (show ma (.ofNat 61) (.ref 2048) ah=[(61, .ref 2048)]from Zf) rfl
   exact ab (dX ah) (ab ip rfl)
  have cF:b4 0 z (z.set kid (.ck (fI+1) [(61, .ref 2048)])):=b4.set _ (by refine ab Ze ?_;rfl)
  have Mr:∀id,id/1024=22->(z.set kid (.ck (fI+1) [(61, .ref 2048)])).heap id=z.heap id:=λid dV=>by
   unfold St.set;dsimp only
   cases e:Nat.beq id kid with
   |false=>rfl
   |true=>rw[Nat.eq_of_beq_eq_true e]at dV;lia
  refine G2 (ih (j+1) N (fI+1) [(61, .ref 2048)] (C.set 56 (.ref 2048)) (z.set kid (.ck (fI+1) [(61, .ref 2048)])) ((Mr L af).trans bl) (λi aex aey=>aW i (by lia) (by lia)) (by lia) (by lia) (aU.gA cF) af ak (l0 _ _ _) (.inr rfl) (by lia)) ?_;intro bJ A5 dD σ' e cY cT e7 eR il xY cz;refine⟨bJ,A5,dD,σ',?_,cF.trans cY,λid dV=>(cT id dV).trans (Mr id dV),e7,eR,il,xY,by lia⟩;refine bM e ?_;exact Mp bl (aW j (b8 _) (by lia)) bH
noncomputable abbrev FX:List S:=[S.assign 84 (E.li 71 23),S.ite (E.bi .eq [E.aa 84,E.aD []]) [S.ret (E.val V.none)] []]
abbrev q5:List S:=S.assign 71 (E.dict 24 true [])::S.eL 69 (E.aa 84) q4::FX
theorem Ms(ak:C 71=some (.ref kid))(h:z.heap kid=some (.ck b ah))(ai:b<=9000):az P0 F (E.li 71 23) C z= .ok (.aD ah.length (ah.map λp=>p.2)) z:=by rw[Yn];simp only[ak,h,show small b=true from Nat.ble_eq_true_of_le (by lia)]
theorem Mt(ak:C 71=some (.ref kid))(h:z.heap kid=some (.ck b []))(ai:b<=9000):bc P0 F FX C z= .ok (.ret .none,C.set 84 (.aD 0 [])) z:=by rw[dX (kA (Ms ak h ai))];have e:az P0 F (E.bi .eq [E.aa 84,E.aD []]) (C.set 84 (.aD 0 [])) z= .ok (.bool true) z:=iq (v:= .aD 0 []) (v':= .aD 0 []) (λx9 q=>by cases q) (cZ rfl) (by rw[qX,eJ];rfl) rfl;exact l1 ((AZ e).trans (l1 (q2 (by rw[jI]))))
theorem Zg(ak:C 71=some (.ref kid))(h:z.heap kid=some (.ck b [(61, .ref 2048)]))(ai:b<=9000):bc P0 F FX C z= .ok (.next,C.set 84 (.aD 1 [.ref 2048])) z:=by rw[dX (kA (Ms ak h ai))];have e:az P0 F (E.bi .eq [E.aa 84,E.aD []]) (C.set 84 (.aD 1 [.ref 2048])) z= .ok (.bool false) z:=iq (v:= .aD 1 [.ref 2048]) (v':= .aD 0 []) (λx9 q=>by cases q) (cZ rfl) (by rw[qX,eJ];rfl) rfl;exact(dX (tl e)).trans (by rw[ip])
theorem Mu(h:z.nx 24<=1000):c6 P0 F (S.assign 71 (E.dict 24 true [])) C z= .ok (.next,C.set 71 (.ref (z.aT 24))) (z.new 24 (.ck 0 [])):=by refine kA ?_;rw[L3];simp only[tk h (show 24<64 by lia)]
theorem Zh{z:St}{id:Nat}(h:z.nx 24<=1000)(dV:id/1024≠24):(z.new 24 o).heap id=z.heap id:=by
 unfold St.new;dsimp only
 cases e:Nat.beq id (z.aT 24)with
 |false=>rfl
 |true=>exact bf (by rw[Nat.eq_of_beq_eq_true e,g4 (by lia)]) dV
theorem Zi{z:St}(ak:C 84=some (.aD 1 [.ref 2048]))(aU:hD z)(iu:z.nx 22<=990)(kC:z.nx 24<=1000):∃bJ σ',bc P0 (a5 (n+2)) q5 C z= .ok (.ret .none,bJ) σ'/\b4 2 z σ':=by
 revert C ak aU iu kC;revert n z;refine@(qg ne hc ?n9 ?σ9 ?_ ?_)
 rotate_left 2
 intro C ak aU iu kC;have gO:b4 1 ?σ9 ((?σ9).new 24 (.ck 0 [])):=b4.new _ rfl (by lia);have ag:=kz ?σ9 24 (.ck 0 []);have pm:((?σ9).new 24 (.ck 0 [])).nx 22=(?σ9).nx 22:=rfl;have oy:=aU.gA gO;have bd:=Mu (F:=a5 (?n9+2)) (C:=C) kC;generalize A6:(?σ9).aT 24=kid at ag bd;have vm:kid/1024=24:=by rw[<-A6];exact g4 (by lia)
 generalize (?σ9).new 24 (.ck 0 [])=aO at gO ag pm oy bd;have Zj:b4 1 aO (aO.new 22 (.list 0 [])):=b4.new _ rfl (by lia);have bH:=Mq (n:=?n9) (C:=C.set 71 (.ref kid)) oy (by lia)
 have ts:c6 P0 (a5 (?n9+2)) (S.eL 69 (E.aa 84) q4) (C.set 71 (.ref kid)) aO= .ok (.next,(C.set 71 (.ref kid)).set 69 (.ref 2048)) (aO.new 22 (.list 0 [])):=by rw[vh,cZ (v:= .aD 1 [.ref 2048]) (show(C.set 71 (.ref kid)) 84=_ from ak)];simp only[Res.bind,B2,p4,bH]
 have px:(aO.new 22 (.list 0 [])).heap kid=some (.ck 0 []):=(pK (λq=>by have:=g4 (z:=aO) (k:=22) (by lia);rw[<-q]at this;lia)).trans ag;exact⟨((C.set 71 (.ref kid)).set 69 (.ref 2048)).set 84 (.aD 0 []),aO.new 22 (.list 0 []),by rw[dX bd,dX ts,Mt (kid:=kid) rfl px (by lia)],gO.trans Zj⟩;rfl
theorem Mv{n cnt L:Nat}{C:aK}{bL:Nat}(extra:List V)(ak:C 84=some (.ref L))(bl:z.heap L=some (.list bL (List.replicate cnt (.ref 2048)++extra)))(aB:cnt<=24)(aU:hD z)(ae:L<z.aT 22)(af:L/1024=22)(iu:z.nx 22<=930)(kC:z.nx 24<=990)
  (aQ:extra=[]\/∃fT q6 cb names,extra=[.ref fT]/\TI z fT q6 cb .none/\cb=hB (.ref 3072) names/\names.length<=24/\eT (fT/1024)=false):
  ∃bJ σ',dN (λv C z=>bc P0 (a5 (n+2)) q5 (C.set 85 v) z) (hr 40) C z= .ok (.ret .none,bJ) σ'/\b4 29 z σ':=by
 revert n cnt L extra ak bl aB aU ae af iu kC aQ;revert z C bL;refine@(v4 hc ne ne ?σ9 ?lv9 ?bL9 ?_ ?_)
 rotate_left 3
 intro n cnt L extra ak bl aB aU ae af iu kC aQ;obtain⟨bU,aw⟩:∃bU,hr 40= .int 0:: .int 1::bU:=⟨_,rfl⟩;have gO:b4 1 ?σ9 ((?σ9).new 24 (.ck 0 [])):=b4.new _ rfl (by lia);have ag:=kz ?σ9 24 (.ck 0 []);have pm:((?σ9).new 24 (.ck 0 [])).nx 22=(?σ9).nx 22:=rfl;have Zk:((?σ9).new 24 (.ck 0 [])).nx 24=(?σ9).nx 24+1:=rfl;have dV:((?σ9).new 24 (.ck 0 [])).aT 22=(?σ9).aT 22:=rfl;have oy:=aU.gA gO;have A7:=(Zh (o:= .ck 0 []) (show(?σ9).nx 24<=1000 by lia) (show L/1024≠24 by lia)).trans bl;have bd:=Mu (F:=a5 (n+2)) (C:=(?lv9).set 85 (.int 0)) (show(?σ9).nx 24<=1000 by lia);have Mw:∀fT q6 cb,TI ?σ9 fT q6 cb .none->eT (fT/1024)=false->TI ((?σ9).new 24 (.ck 0 [])) fT q6 cb .none:=λx9 x9 x9 h q=>h.gA gO q;generalize A6:(?σ9).aT 24=kid at ag bd;have vm:kid/1024=24:=by rw[<-A6];exact g4 (by lia)
 generalize (?σ9).new 24 (.ck 0 [])=aO at gO ag pm oy bd A7 dV Mw Zk;generalize Mx:((?lv9).set 85 (.int 0)).set 71 (.ref kid)=lv1 at bd;have ka:lv1 71=some (.ref kid):=by subst Mx;rfl
 have Zl:lv1 84=some (.ref L):=by subst Mx;exact ak
 have D6:∀i,0<=i->i<0+cnt->(List.replicate cnt (V.ref 2048)++extra)[i]?=some (.ref 2048):=λi x9 aW=>by
  rw[List.getElem?_append_left (by rw[List.length_replicate];lia),List.getElem?_replicate,if_pos (by lia)]
 refine fk (Zc (n:=n) (L:=L) (b:=?bL9) (items:=List.replicate cnt (.ref 2048)++extra) [] cnt 0 200 lv1 aO A7 D6 (by lia) oy (by lia) af (by lia)) ?_;intro fA cK kN pL bA FW;have FY:=(pL.old L (by lia) af).trans A7;have px:=(FW kid vm).trans ag;have My:=oy.gA pL.gA;have FZ:fA 71=some (.ref kid):=bA.trans ka
 --N6 rn ks list comes to
 have Mz:∃q7 hY xb A8,iz (λv C z=>bc P0 (a5 (n+2)) q4 (C.set 69 v) z) L 200 0 lv1 aO= .ok (.next,q7) hY/\b4 26 aO hY/\q7 71=some (.ref kid)/\hY.heap kid=some (.ck xb A8)/\xb<=9000/\(A8=[]\/A8=[(61, .ref 2048)])/\hY.nx 24=aO.nx 24:=by
  rcases aQ with rfl|⟨fT,q6,cb,names,rfl,fO,k7,aez,Ba⟩
  ·refine⟨fA,cK,0,[],?_,pL.gA.mono (by lia),FZ,px,by lia, .inl rfl,pL.kC⟩;rw[kN,show 200-cnt=(199-cnt)+1 by lia];rw[Nat.zero_add,p5 FY];rw[List.getElem?_eq_none (by simp)]
  ·have KZ:=(Mw _ _ _ fO Ba).gA pL.gA Ba;have Zm:fT/1024≠22:=λq=>by rw[q]at Ba;cases Ba
   have Zn:cK.nx 22<=1000:=by have:=pL.nx;lia
   have q8:=q3 (P:=P0) (F:=a5 (n+2)) (f:=49) (cZ (C:=fA.set 69 (.ref fT)) (x:=69) rfl) (xX (n:=n) KZ My k7 (by lia) Zn Zm);have vn:b4 1 cK (cK.new 22 (.list names.length (List.replicate names.length (.ref 2048)))):=b4.new _ rfl (by lia);have F0:=kz cK 22 (.list names.length (List.replicate names.length (.ref 2048)));have sz:(cK.new 22 (.list names.length (List.replicate names.length (.ref 2048)))).heap kid=some (.ck 0 []):=(pK (λq=>by have:=g4 (z:=cK) (k:=22) (by lia);rw[<-q]at this;lia)).trans px;have MA:(cK.new 22 (.list names.length (List.replicate names.length (.ref 2048)))).heap L=_:=(pK (λq=>by have:=pL.Mn;have:cK.aT 22=22*1024+cK.nx 22:=rfl;have:aO.aT 22=22*1024+aO.nx 22:=rfl;lia)).trans FY;have MB:(cK.new 22 (.list names.length (List.replicate names.length (.ref 2048)))).nx 24=cK.nx 24:=rfl;have Zo:cK.aT 22/1024=22:=g4 (by lia);have MC:=My.gA vn;generalize cK.new 22 (.list names.length (List.replicate names.length (.ref 2048)))=hY at q8 vn F0 sz MA MB MC;refine G2 (Zd (n:=n) (L:=cK.aT 22) (b:=names.length) (items:=List.replicate names.length (.ref 2048)) vm names.length 0 200 0 [] (fA.set 69 (.ref fT)) hY F0 (λi x9 aW=>by rw[List.getElem?_replicate,if_pos (by lia)]) (by simp) (by lia) MC Zo FZ sz (.inl rfl) (by lia)) ?_;intro F1 Zp Zq Bb ei cY cT e7 eR il xY cz
   have zv:bc P0 (a5 (n+2)) q4 (fA.set 69 (.ref fT)) cK= .ok (.next,F1) Bb:=by
    have:c6 P0 (a5 (n+2)) (S.eL 56 (E.bh 49 [E.aa 69]) A2) (fA.set 69 (.ref fT)) cK= .ok (.next,F1) Bb:=by rw[vh,q8];simp only[Res.bind,F0];exact ei
    rw[dX this,ip]
   refine⟨F1,Bb,Zp,Zq,?_,((pL.gA.trans vn).trans cY).mono (by lia),eR.trans FZ,il,by lia,xY,?_⟩
   ·rw[kN,show 200-cnt=(198-cnt)+1+1 by lia];have Zr:(List.replicate cnt (V.ref 2048)++[V.ref fT])[cnt]?=some (.ref fT):=by simp
    have Zs:(List.replicate cnt (V.ref 2048)++[V.ref fT])[cnt+1]?=none:=List.getElem?_eq_none (by simp);rw[Nat.zero_add,p5 FY];simp only[Zr,zv,Res.bind];rw[p5 ((cT L af).trans MA)];simp only[Zs]
   ·rw[show Bb.nx 24=hY.nx 24 by rw[e7],MB];exact pL.kC
 refine vI Mz ?_;try clear Mz;intro q7 hY xb A8 ts vn u2 sz MD sd aeA
 have xW:c6 P0 (a5 (n+2)) (S.eL 69 (E.aa 84) q4) lv1 aO= .ok (.next,q7) hY:=by rw[vh,cZ Zl];simp only[Res.bind,A7];exact ts
 rcases sd with rfl|rfl
 ·refine⟨q7.set 84 (.aD 0 []),hY,?_,(gO.trans vn).mono (by lia)⟩
  have:bc P0 (a5 (n+2)) q5 ((?lv9).set 85 (.int 0)) ?σ9= .ok (.ret .none,q7.set 84 (.aD 0 [])) hY:=by rw[dX bd,dX xW,Mt u2 sz MD]
  rw[aw];simp only[B2,p4,this,Res.bind]
 ·have this:bc P0 (a5 (n+2)) q5 ((?lv9).set 85 (.int 0)) ?σ9= .ok (.next,q7.set 84 (.aD 1 [.ref 2048])) hY:=by rw[dX bd,dX xW,Zg u2 sz MD]
  have vk:=gO.trans vn;have FV:=vk.q1 22 rfl;refine cS (Zi (n:=n) (z:=hY) (C:=(q7.set 84 (.aD 1 [.ref 2048])).set 85 (.int 1)) rfl ((aU.gA vk)) (by lia) (by lia)) ?_;intro Zt Zu lK Zv;refine⟨Zt,Zu,?_,(vk.trans Zv).mono (by lia)⟩;rw[aw];simp only[B2,p4,this,Res.bind,lK]
 rfl
theorem ME:c6 P0 F (S.forR 85 (E.glob 3) q5) C z=dN (λv C z=>bc P0 F q5 (C.set 85 v) z) (hr 40) C z:=by rw[Yr,Yi];rfl
theorem Zw(h:TI z t kind cH .none)(aU:hD z)(aB:cH=hB (.ref 3072) names)(aq:names.length<=24)(iu:z.nx 22<=900)(kC:z.nx 24<=900)(bH:eT (t/1024)=false):
  ∃σ',dO P0 (a5 (n+2)) 51 [v, .ref t] z= .ok .none σ'/\b4 30 z σ':=by
 have xZ:t/1024≠22:=λq=>by rw[q]at bH;cases bH
 have q8:=q3 (P:=P0) (F:=a5 (n+2)) (f:=49) (cZ (C:=(aK.set (λx9=>none) 24 v).set 22 (.ref t)) (x:=22) rfl) (xX (n:=n) h aU aB (by lia) (by lia) xZ);have gO:b4 1 z (z.new 22 (.list names.length (List.replicate names.length (.ref 2048)))):=b4.new _ rfl (by lia);have bl:=kz z 22 (.list names.length (List.replicate names.length (.ref 2048)));refine cS (Mv (n:=n) (cnt:=names.length) (L:=z.aT 22) (z:=z.new 22 (.list names.length (List.replicate names.length (.ref 2048)))) (C:=((aK.set (λx9=>none) 24 v).set 22 (.ref t)).set 84 (.ref (z.aT 22))) [] rfl (by rw[List.append_nil];exact bl) aq (aU.gA gO) (by rw[A4];lia) (g4 (by lia)) (by rw[A3];lia) (show z.nx 24<=990 by lia) (.inl rfl)) ?_;intro bJ σ' e j;refine⟨σ',?_,(gO.trans j).mono (by lia)⟩;have kB:dO P0 (a5 (n+2)) 51 [v, .ref t] z=(bc P0 (a5 (n+2)) [S.assign 84 (E.bh 49 [E.aa 22]),S.forR 85 (E.glob 3) q5,S.stuck] ((aK.set (λx9=>none) 24 v).set 22 (.ref t)) z).bind λx z=>match x.1 with| .ret v=> .ok v z| .next=> .ok .none z| .cont=> .stuck:=rfl
 rw[kB,dX (kA q8),l1 (ME.trans e)];rfl
theorem Zx(h:TI z t kind cH (.ref d))(ag:el kind u5=true)(aN:Al z d=some fT)(fO:TI z fT q6 cb .none)(aU:hD z)(aB:cH=hB (.ref 3072) names)(aq:names.length<=24)(lB:cb=hB (.ref 3072) names2)(F2:names2.length<=24)(iu:z.nx 22<=900)(kC:z.nx 24<=900)(bH:eT (t/1024)=false)(sJ:eT (d/1024)=false)(ai:eT (fT/1024)=false):
  ∃σ',dO P0 (a5 (n+2)) 51 [v, .ref t] z= .ok .none σ'/\b4 30 z σ':=by
 have xZ:t/1024≠22:=λq=>by rw[q]at bH;cases bH
 have jW:d/1024≠22:=λq=>by rw[q]at sJ;cases sJ
 have q8:=q3 (P:=P0) (F:=a5 (n+2)) (f:=49) (cZ (C:=(aK.set (λx9=>none) 24 v).set 22 (.ref t)) (x:=22) rfl) (Y8 (n:=n) h ag aN aU aB (by lia) (by lia) xZ jW);have gO:b4 1 z ((z.new 22 (.list names.length (List.replicate names.length (.ref 2048)))).set (z.aT 22) (.list (names.length+1) (List.replicate names.length (.ref 2048)++[.ref fT]))):=(b4.new _ rfl (by lia)).trans (b4.set _ (by rw[g4 (by lia)];rfl));refine cS (Mv (n:=n) (cnt:=names.length) (L:=z.aT 22) (bL:=names.length+1) (z:=(z.new 22 (.list names.length (List.replicate names.length (.ref 2048)))).set (z.aT 22) (.list (names.length+1) (List.replicate names.length (.ref 2048)++[.ref fT]))) (C:=((aK.set (λx9=>none) 24 v).set 22 (.ref t)).set 84 (.ref (z.aT 22))) [.ref fT] rfl (l0 _ _ _) aq (aU.gA gO) (Nat.lt_succ_self (z.aT 22)) (g4 (by lia)) (by show z.nx 22+1<=930;lia) (show z.nx 24<=990 by lia) (.inr ⟨fT,q6,cb,names2,rfl,fO.gA gO ai,lB,F2,ai⟩)) ?_;intro bJ σ' e j;refine⟨σ',?_,(gO.trans j).mono (by lia)⟩;have kB:dO P0 (a5 (n+2)) 51 [v, .ref t] z=(bc P0 (a5 (n+2)) [S.assign 84 (E.bh 49 [E.aa 22]),S.forR 85 (E.glob 3) q5,S.stuck] ((aK.set (λx9=>none) 24 v).set 22 (.ref t)) z).bind λx z=>match x.1 with| .ret v=> .ok v z| .next=> .ok .none z| .cont=> .stuck:=rfl
 rw[kB,dX (kA q8),l1 (ME.trans e)];rfl
noncomputable abbrev Zy:List S:=[S.expr (E.e1 .append (E.aa 71) [E.au (E.aa 69) 23]),S.lj 67 (E.bh 49 [E.aa 69])]
abbrev x0:List S:=[S.assign 69 (E.e1 .pop (E.aa 67) []),S.ite (E.bi .eq [E.au (E.aa 69) 23,E.aa 23]) [S.stuck] [],S.ite (E.bi .l6 [E.au (E.aa 69) 23,E.aa 71]) Zy []]
noncomputable abbrev x1:E:=E.bi .ne [E.aa 67,E.aD []]
theorem MF(m:Nat)(x:V):(List.replicate (m+1) x).getLast?=some x/\(List.replicate (m+1) x).dropLast=List.replicate m x:=by rw[List.replicate_succ'];simp
theorem Zz(F3:eC 61 num=false)(MG:L/1024=22)(ZA:kid/1024=23):∀(cnt N bL fI:Nat)(dm:List V)(C:aK)(z:St),z.heap L=some (.list bL (List.replicate cnt (.ref 2048)))->z.heap kid=some (.list fI dm)->(dm=[]\/dm=[.int 61])->C 67=some (.ref L)->C 71=some (.ref kid)->C 23=some (.int num)->cnt<N->hD z->L<z.aT 22->z.nx 22+cnt<=1000->bL<=100->fI+cnt<=100->
  ∃bJ σ',jN (λC z=>az P0 (a5 (n+2)) x1 C z) (λC z=>bc P0 (a5 (n+2)) x0 C z) N C z= .ok (.next,bJ) σ'/\b4 cnt z σ':=by
 intro cnt
 induction cnt with
 |zero=>
  intro N bL fI dm C z bl ag ur vo ka Bc fe aU kT aq ai pe;obtain⟨N,rfl⟩:∃M,N=M+1:=⟨N-1,by lia⟩
  have e:az P0 (a5 (n+2)) x1 C z= .ok (.bool false) z:=iq (v:= .ref L) (v':= .aD 0 []) (λx9 q=>by cases q) (cZ vo) (by rw[qX,eJ];rfl) (by
   simp only[FE,dA,cP,yD bl]
   rfl)
  refine⟨C,z,?_,b4.refl z⟩;simp only[tV,e,oR,Res.bind,kI]
 |succ cnt ih=>
  intro N bL fI dm C z bl ag ur vo ka Bc fe aU kT aq ai pe;obtain⟨N,rfl⟩:∃M,N=M+1:=⟨N-1,by lia⟩
  have e:az P0 (a5 (n+2)) x1 C z= .ok (.bool true) z:=iq (v:= .ref L) (v':= .aD 0 []) (λx9 q=>by cases q) (cZ vo) (by rw[qX,eJ];rfl) (by
   simp only[FE,dA,cP,yD bl]
   rfl)
  have hC:b4 0 z (z.set L (.list bL (List.replicate cnt (.ref 2048)))):=b4.set _ (by rw[MG];rfl);have F4:=l0 z L (.list bL (List.replicate cnt (.ref 2048)))
  have vp:(z.set L (.list bL (List.replicate cnt (.ref 2048)))).heap kid=some (.list fI dm):=by
   unfold St.set;dsimp only
   cases q:Nat.beq kid L with
   |false=>exact ag
   |true=>have:=cj q;lia
  have bd:c6 P0 (a5 (n+2)) (S.assign 69 (E.e1 .pop (E.aa 67) [])) C z= .ok (.next,C.set 69 (.ref 2048)) (z.set L (.list bL (List.replicate cnt (.ref 2048)))):=by refine kA ?_;rw[xO,cZ vo];simp only[Res.bind,Hd,vV bl,eJ,L1,dA,yB bl,yC,dr,g7,yu,show small bL=true from Nat.ble_eq_true_of_le (by lia),(MF cnt (.ref 2048)).1,(MF cnt (.ref 2048)).2]
  have th:(z.set L (.list bL (List.replicate cnt (.ref 2048)))).aT 22=z.aT 22:=rfl;have ZB:(z.set L (.list bL (List.replicate cnt (.ref 2048)))).nx 22=z.nx 22:=rfl;generalize z.set L (.list bL (List.replicate cnt (.ref 2048)))=f3 at hC F4 vp bd th ZB;have F5:=aU.gA hC;refine fl F5.num ?_;intro c b1 Y gi hl;have Bd:=jl (P:=P0) (F:=a5 (n+2)) (cZ (C:=C.set 69 (.ref 2048)) (x:=69) rfl) gi hl
  have bB:c6 P0 (a5 (n+2)) (S.ite (E.bi .eq [E.au (E.aa 69) 23,E.aa 23]) [S.stuck] []) (C.set 69 (.ref 2048)) f3= .ok (.next,C.set 69 (.ref 2048)) f3:=
   tl (iq (λx9 q=>by cases q) Bd (cZ (v:= .int num) Bc) (by
    show em (some (V.bool (eC 61 num))) f3=_
    rw[F3];rfl))
  rcases ur with rfl|rfl
  ·have iv:az P0 (a5 (n+2)) (E.bi .l6 [E.au (E.aa 69) 23,E.aa 71]) (C.set 69 (.ref 2048)) f3= .ok (.bool true) f3:=iq (v:= .int (.ofNat 61)) (v':= .ref kid) (λx9 q=>by cases q) Bd (cZ ka) (by
    simp only[LZ,dA,cP,Hb vp]
    rfl)
   have tm:b4 0 f3 (f3.set kid (.list (fI+1) ([]++[.int (.ofNat 61)]))):=b4.set _ (by rw[ZA];rfl);have MH:=l0 f3 kid (.list (fI+1) ([]++[.int (.ofNat 61)]))
   have MI:(f3.set kid (.list (fI+1) ([]++[.int (.ofNat 61)]))).heap L=some (.list bL (List.replicate cnt (.ref 2048))):=by
    unfold St.set;dsimp only
    cases q:Nat.beq L kid with
    |false=>exact F4
    |true=>have:=cj q;lia
   have fz:c6 P0 (a5 (n+2)) (S.expr (E.e1 .append (E.aa 71) [E.au (E.aa 69) 23])) (C.set 69 (.ref 2048)) f3= .ok (.next,C.set 69 (.ref 2048)) (f3.set kid (.list (fI+1) ([]++[.int (.ofNat 61)]))):=by refine FO (v:= .none) ?_;rw[xO,cZ (v:= .ref kid) (show(C.set 69 (.ref 2048)) 71=_ from ka)];simp only[Res.bind,B4,vV vp,fC,eJ,Bd,FF,dA,cP,yB vp,yC,dr,vS,show small fI=true from Nat.ble_eq_true_of_le (by lia)]
   have ti:(f3.set kid (.list (fI+1) ([]++[.int (.ofNat 61)]))).aT 22=f3.aT 22:=rfl;have ZC:(f3.set kid (.list (fI+1) ([]++[.int (.ofNat 61)]))).nx 22=f3.nx 22:=rfl;generalize f3.set kid (.list (fI+1) ([]++[.int (.ofNat 61)]))=kb at tm MH MI fz ti ZC;have MJ:=F5.gA tm;have aeB:kb.nx 22<=999:=by lia
   have aeC:kb.aT 22/1024=22:=g4 (by lia);refine a4 MJ.ty ?_;intro kind cn da;have hU:=q3 (P:=P0) (F:=a5 (n+2)) (f:=49) (cZ (C:=C.set 69 (.ref 2048)) (x:=69) rfl) (xX (n:=n) cn MJ (names:=[]) rfl (by simp) (by lia) (by decide));have MK:b4 1 kb (kb.new 22 (.list 0 [])):=b4.new _ rfl (by lia);have lx:=kz kb 22 (.list 0 []);have ML:(kb.new 22 (.list 0 [])).heap L=_:=(pK (show L≠kb.aT 22 by lia)).trans MI;have uV:(kb.new 22 (.list 0 [])).heap kid=_:=(pK (show kid≠kb.aT 22 by lia)).trans MH;have F6:(kb.new 22 (.list 0 [])).aT 22=kb.aT 22+1:=A4;have ZD:(kb.new 22 (.list 0 [])).nx 22=kb.nx 22+1:=rfl
   have lK:c6 P0 (a5 (n+2)) (S.lj 67 (E.bh 49 [E.aa 69])) (C.set 69 (.ref 2048)) kb= .ok (.next,(C.set 69 (.ref 2048)).set 67 (.ref L)) ((kb.new 22 (.list 0 [])).set L (.list (bL+0) (List.replicate cnt (.ref 2048)++[]))):=by rw[Yo];rw[show(C.set 69 (.ref 2048)) 67=some (.ref L)from vo];simp only[hU,Res.bind,Og ML lx,List.length_nil,List.replicate_zero];rw[show small (bL+0)=true from Nat.ble_eq_true_of_le (by lia)]
   rw[List.append_nil,Nat.add_zero]at lK;generalize kb.new 22 (.list 0 [])=q9 at MK lx ML uV F6 ZD lK;have ZE:b4 0 q9 (q9.set L (.list bL (List.replicate cnt (.ref 2048)))):=b4.set _ (by rw[MG];rfl)
   have ZF:(q9.set L (.list bL (List.replicate cnt (.ref 2048)))).heap kid=some (.list (fI+1) ([]++[.int (.ofNat 61)])):=by
    unfold St.set;dsimp only
    cases q:Nat.beq kid L with
    |false=>exact uV
    |true=>have:=cj q;lia
   have MM:b4 1 z (q9.set L (.list bL (List.replicate cnt (.ref 2048)))):=((hC.trans tm).trans MK).trans ZE;refine cS (ih N bL (fI+1) [.int 61] ((C.set 69 (.ref 2048)).set 67 (.ref L)) (q9.set L (.list bL (List.replicate cnt (.ref 2048)))) (l0 _ _ _) ZF (.inr rfl) rfl ka Bc (by lia) (aU.gA MM) (by show L<q9.aT 22;lia) (by show q9.nx 22+cnt<=1000;lia) ai (by lia)) ?_;intro bJ σ' nG pM;refine⟨bJ,σ',?_,(MM.trans pM).mono (by lia)⟩
   have F7:bc P0 (a5 (n+2)) x0 C z= .ok (.next,(C.set 69 (.ref 2048)).set 67 (.ref L)) (q9.set L (.list bL (List.replicate cnt (.ref 2048)))):=by rw[dX bd,dX bB,dX ((AZ iv).trans (by rw[dX fz,dX lK,ip])),ip];rfl
   simp only[tV,e,oR,Res.bind,kI,F7];exact nG
  ·have iv:az P0 (a5 (n+2)) (E.bi .l6 [E.au (E.aa 69) 23,E.aa 71]) (C.set 69 (.ref 2048)) f3= .ok (.bool false) f3:=iq (v:= .int (.ofNat 61)) (v':= .ref kid) (λx9 q=>by cases q) Bd (cZ ka) (by
    simp only[LZ,dA,cP,Hb vp]
    rfl)
   refine cS (ih N bL fI [.int 61] (C.set 69 (.ref 2048)) f3 F4 vp (.inr rfl) vo ka Bc (by lia) F5 (by lia) (by lia) ai (by lia)) ?_;intro bJ σ' nG pM;refine⟨bJ,σ',?_,(hC.trans pM).mono (by lia)⟩
   have F7:bc P0 (a5 (n+2)) x0 C z= .ok (.next,C.set 69 (.ref 2048)) f3:=by rw[dX bd,dX bB,dX (tl iv),ip]
   simp only[tV,e,oR,Res.bind,kI,F7];exact nG
theorem ZG(h:TI z t kind cH .none)(aU:hD z)(aB:cH=hB (.ref 3072) names)(aq:names.length<=5)(F3:eC 61 num=false)(iu:z.nx 22<=900)(MN:z.nx 23<=900)(bH:eT (t/1024)=false):
  ∃σ',dO P0 (a5 (n+2)) 50 [.ref t, .int num] z= .ok (.bool false) σ'/\b4 10 z σ':=by
 have xZ:t/1024≠22:=λq=>by rw[q]at bH;cases bH
 have tt:b4 1 z (z.new 23 (.list 0 [])):=b4.new _ rfl (by lia);have ag:=kz z 23 (.list 0 []);have vm:z.aT 23/1024=23:=g4 (by lia)
 have x2:c6 P0 (a5 (n+2)) (S.assign 71 (E.g5 23 [])) ((aK.set (λx9=>none) 22 (.ref t)).set 23 (.int num)) z= .ok (.next,((aK.set (λx9=>none) 22 (.ref t)).set 23 (.int num)).set 71 (.ref (z.aT 23))) (z.new 23 (.list 0 [])):=by refine kA ?_;rw[FG,eJ];simp only[Res.bind,tk (show z.nx 23<=1000 by lia) (show 23<64 by lia),List.length_nil];rfl
 have pm:(z.new 23 (.list 0 [])).nx 22=z.nx 22:=rfl;have ae:=h.gA tt bH;have oy:=aU.gA tt;generalize A6:z.aT 23=kid at ag vm x2;generalize z.new 23 (.list 0 [])=aO at tt ag x2 pm ae oy;have q8:=q3 (P:=P0) (F:=a5 (n+2)) (f:=49) (cZ (C:=((aK.set (λx9=>none) 22 (.ref t)).set 23 (.int num)).set 71 (.ref kid)) (x:=22) rfl) (xX (n:=n) ae oy aB (by lia) (by lia) xZ);have gO:b4 1 aO (aO.new 22 (.list names.length (List.replicate names.length (.ref 2048)))):=b4.new _ rfl (by lia);have bl:=kz aO 22 (.list names.length (List.replicate names.length (.ref 2048)));have ZH:(aO.new 22 (.list names.length (List.replicate names.length (.ref 2048)))).heap kid=_:=(pK (λq=>by have:=g4 (z:=aO) (k:=22) (by lia);rw[<-q]at this;lia)).trans ag;refine cS (Zz (n:=n) F3 (L:=aO.aT 22) (kid:=kid) (g4 (by lia)) vm names.length 60 names.length 0 [] ((((aK.set (λx9=>none) 22 (.ref t)).set 23 (.int num)).set 71 (.ref kid)).set 67 (.ref (aO.aT 22))) _ bl ZH (.inl rfl) rfl rfl rfl (by lia) (oy.gA gO) (Nat.lt_succ_self _) (by show aO.nx 22+1+_<=1000;lia) (by lia) (by lia)) ?_;intro bJ σ' nG pM;refine⟨σ',?_,((tt.trans gO).trans pM).mono (by lia)⟩;have kB:dO P0 (a5 (n+2)) 50 [.ref t, .int num] z=(bc P0 (a5 (n+2)) [S.assign 71 (E.g5 23 []),S.assign 67 (E.bh 49 [E.aa 22]),S.i1 x1 x0,S.ret (E.val (V.bool false))] ((aK.set (λx9=>none) 22 (.ref t)).set 23 (.int num)) z).bind λx z=>match x.1 with| .ret v=> .ok v z| .next=> .ok .none z| .cont=> .stuck:=rfl
 have F8:c6 P0 (a5 (n+2)) (S.i1 x1 x0) ((((aK.set (λx9=>none) 22 (.ref t)).set 23 (.int num)).set 71 (.ref kid)).set 67 (.ref (aO.aT 22))) (aO.new 22 (.list names.length (List.replicate names.length (.ref 2048))))= .ok (.next,bJ) σ':=by rw[L7];exact nG
 rw[kB,dX x2,dX (kA q8),dX F8,l1 (q2 (by rw[jI]))];rfl
theorem Ga(h:Nat->Option O)(x:Nat):∀ids:List Nat,(gN x (iX ids h)=h x/\x∈ids)\/gN x (iX ids h)=none:=by
 intro br
 induction br with
 |nil=>exact .inr rfl
 |cons y r ih=>
  unfold iX;rw[List.map_cons,xy]
  cases e:Nat.beq y x with
  |true=>have:=cj e;subst this;exact .inl ⟨rfl,List.mem_cons_self ..⟩
  |false=>
   refine Or.elim ih (λcz=>?_) λq=>?_
   ·(refine bC cz ?_;try clear cz;intro cY cT);exact .inl ⟨cY,List.mem_cons_of_mem _ cT⟩
   ·exact .inr q
theorem Gb(h:eS (nz o) (dk a)=some v):∃c b1 Y,o=some (.inst c b1 Y)/\dk a Y=some v:=
 gz h λY ae af=>kG (s1 ae) λc b1 e=>(mV c b1 Y e af)
theorem MO(h:mL o=some v):∃c b1 Y,o=some (.inst c b1 Y)/\dk 10 Y=some v:=Gb h
theorem MP(h:numOf o=some v):∃c b1 Y,o=some (.inst c b1 Y)/\dk 23 Y=some v:=Gb h
theorem MQ(h:qO o=some v):∃c b1 Y,o=some (.inst c b1 Y)/\dk 21 Y=some v:=Gb h
theorem MR:∀x∈la,eT (x/1024)=false:=by decide
theorem ZI(aj:mL (z.heap t)=some (.ref q))(as:qO (z.heap t)=some (.ref d))(aN:z.heap d=some (.ba b ah))(ai:small b=true)(cX:qO (z.heap q)=some (.ref dy))(d0:z.heap dy=some (.ba cV dD))(ag:c7 key dD=none):
  dO P0 F 41 [.ref t, .str key, .str sub] z= .ok (.bool false) (z.set d (.ba (b+1) (fJ key (.str sub) ah))):=by
 refine fl (MO aj) ?_;intro c b1 Y ae af;refine fl (MQ as) ?_;intro du mq uZ ax a0;refine fl (MQ cX) ?_;intro sh ZJ ZK cn da;replace ax:=(ae).symm.trans ax;cases ax;generalize hA:((aK.set (λx9=>none) 11 (.ref t)).set 34 (.str key)).set 73 (.str sub)=C;have MS:C 11=some (.ref t):=by subst hA;rfl
 have MT:C 34=some (.str key):=by subst hA;rfl
 have ZL:C 73=some (.str sub):=by subst hA;rfl
 have a1:=jl (P:=P0) (F:=F) (cZ MS) ae af
 have bB:az P0 F (E.bi .isin [E.aa 34,E.au (E.au (E.aa 11) 10) 21]) C z= .ok (.bool false) z:=iq (λx9 q=>by injection q) (cZ MT) (jl a1 cn da) (by
  simp only[xM,dA,cP,B3 d0,ag];rfl)
 have ZM:(C.set 74 (.bool false)) 11=some (.ref t):=MS;have ZN:(C.set 74 (.bool false)) 34=some (.str key):=MT;have ZO:(C.set 74 (.bool false)) 73=some (.str sub):=ZL
 have hU:c6 P0 F (S.i0 (E.au (E.aa 11) 21) (E.aa 34) (E.aa 73)) (C.set 74 (.bool false)) z= .ok (.next,C.set 74 (.bool false)) (z.set d (.ba (b+1) (fJ key (.str sub) ah))):=by refine ab FH (ab (cZ ZO) ?_);simp only[Res.bind,jl (P:=P0) (F:=F) (cZ ZM) ae a0,cZ (P:=P0) (F:=F) (z:=z) ZN,iy,aN,ai]
 have kB:dO P0 F 41 [.ref t, .str key, .str sub] z=(bc P0 F [S.assign 74 (E.and [E.bi .er [E.au (E.aa 11) 10],E.bi .isin [E.aa 34,E.au (E.au (E.aa 11) 10) 21]]),S.i0 (E.au (E.aa 11) 21) (E.aa 34) (E.aa 73),S.ret (E.aa 74)] C z).bind λx z=>match x.1 with| .ret v=> .ok v z| .next=> .ok .none z| .cont=> .stuck:=by subst hA;rfl
 refine ab kB (ab (dX (kA (FT (ox (λx9 q=>by cases q) a1 rfl:az P0 F (E.bi .er [E.au (E.aa 11) 10]) C z= .ok (.bool true) z) bB:az P0 F (E.and [E.bi .er [E.au (E.aa 11) 10],E.bi .isin [E.aa 34,E.au (E.au (E.aa 11) 10) 21]]) C z= .ok (.bool false) z))) (ab (dX hU) (ab (l1 (q2 (cZ rfl))) ?_)));rfl
class inductive pN(h:Nat->Option O):Nat->List (Nat×Int)->Prop
 |last {c:Nat} {i:Int}:eT (c/1024)=false->numOf (h c)=some (.int i)->mL (h c)=some .none->pN h c [(c,i)]
 |up {c p:Nat} {i:Int} {l:List (Nat×Int)}:eT (c/1024)=false->numOf (h c)=some (.int i)->mL (h c)=some (.ref p)->pN h p l->pN h c ((c,i)::l)
noncomputable abbrev Be:List S:=[S.expr (E.e1 .append (E.aa 57) [E.aa 40]),S.assign 40 (E.au (E.aa 40) 10)]
noncomputable abbrev vq:E:=E.bi .er [E.aa 40]
theorem MU(h:t C z= .ok (.bool true) z)(ai:uW C z= .ok (.next,bJ) σ'):jN t uW (N+1) C z=jN t uW N bJ σ':=by simp only[tV,h,oR,Res.bind,kI,ai]
theorem ZP(h:t C z= .ok (.bool false) z):jN t uW (N+1) C z= .ok (.next,C) z:=by simp only[tV,h,oR,Res.bind,kI]
theorem MV(h:b+n<=200)(aq:1<=n):small b=true:=gn (by lia)
theorem ZQ(bl:z.heap L=some (.list b acc))(ai:small b=true)(nF:C 57=some (.ref L))(oz:C 40=some (.ref c)):c6 P0 F (S.expr (E.e1 .append (E.aa 57) [E.aa 40])) C z= .ok (.next,C) (z.set L (.list (b+1) (acc++[.ref c]))):=by refine FO (v:= .none) ?_;refine ab xO (ab (cZ nF) ?_);simp only[Res.bind,B4,vV bl,fC,eJ,cZ (P:=P0) (F:=F) (z:=z) oz,FF,cP,dA,yB bl,yC,dr,vS,ai]
theorem MW(tu:L/1024=16)(bl:z.heap L=some (.list b acc))(ai:small b=true)(nF:C 57=some (.ref L))(oz:C 40=some (.ref c))(aB:eT (c/1024)=false)(aj:mL (z.heap c)=some x):
  ∃f3,bc P0 F Be C z= .ok (.next,C.set 40 x) f3/\b4 0 z f3/\f3.heap L=some (.list (b+1) (acc++[.ref c])):=by
 refine fW _ ?_ (b4.set _ (by refine ab tu ?_;rfl):b4 0 z (z.set L (.list (b+1) (acc++[.ref c])))) (l0 z L _);rw[<-(b4.set _ (by refine ab tu ?_;rfl):b4 0 z (z.set L (.list (b+1) (acc++[.ref c])))).heap c aB]at aj;refine fl (MO aj) ?_;intro aeD b1 Y ae af;exact ab (dX (ZQ bl ai nF oz)) (ab (dX (kA (jl (cZ oz) ae af))) (ab ip rfl))
def ZR(F:bT)(L b:Nat)(acc:List V)(l:List (Nat×Int))(z:St)(r:Res (cg×aK)):Prop:=∃bJ cV σ',r= .ok (.next,bJ) σ'/\b4 0 z σ'/\bJ 57=some (.ref L)/\σ'.heap L=some (.list cV (acc++l.map λp=> .ref p.1))/\cV<=b+l.length
theorem ZS{L:Nat}(tu:L/1024=16){h0:Nat->Option O}{c:Nat}{l:List (Nat×Int)}(D:pN h0 c l):∀(N b:Nat)(acc:List V)(C:aK)(z:St),(∀c,eT (c/1024)=false->z.heap c=h0 c)->l.length<N->z.heap L=some (.list b acc)->b+l.length<=200->C 57=some (.ref L)->C 40=some (.ref c)->
  ZR F L b acc l z (jN (λC z=>az P0 F vq C z) (λC z=>bc P0 F Be C z) N C z):=by
 revert tu h0 c l D;revert F L;refine@(qg o3 ne ?F9 ?L9 ?_ ?_)
 rotate_left 2
 (
 intro tu h0 c l D
 induction D with
 |last j a p=>
  intro N b acc C z hm fe bl ai nF oz;refine fV (MW (F:=?F9) tu bl (MV ai (b8 _)) nF oz j ((bz mL (hm _ j)).trans p)) ?_;intro f3 pC hC kx
  match N,fe with
  |N+2,_=>refine ab (MU (t:=λC z=>az P0 ?F9 vq C z) ((λh=>ox (λx9 q=>by cases q) (cZ h) rfl) oz) pC) (ab (ZP (t:=λC z=>az P0 ?F9 vq C z) (ox (v:= .none) (λx9 q=>by cases q) (cZ rfl) rfl)) ?_);exact vK _ _ f3 rfl hC nF kx (b8 _)
 |up j a p r ih=>
  intro N b acc C z hm fe bl ai nF oz;refine fV (MW (F:=?F9) tu bl (MV ai (Nat.succ_le_succ (Nat.zero_le _))) nF oz j ((bz mL (hm _ j)).trans p)) ?_;intro f3 pC hC kx
  match N,fe with
  |N+1,fe=>
   refine ab (MU (t:=λC z=>az P0 ?F9 vq C z) ((λh=>ox (λx9 q=>by cases q) (cZ h) rfl) oz) pC) ?_;refine tH (ih N (b+1) _ (C.set 40 (.ref _)) f3 (λc aB=>(hC.heap c aB).trans (hm c aB)) (Nat.lt_of_succ_lt_succ fe) kx (by rw[Nat.add_right_comm];exact ai) nF rfl) ?_;intro bJ cV σ' nG pM cY cT e7
   exact vK bJ cV σ' nG (hC.trans pM) cY (by rw[cT,List.append_assoc];rfl) (by rw[Nat.add_right_comm]at e7;exact e7))
 rfl
theorem ZT(ak:pN z.heap c l)(aq:l.length<=50)(tv:z.nx 16<=900):∃b σ',dO P0 F 36 [.ref c] z= .ok (.ref (z.aT 16)) σ'/\b4 1 z σ'/\σ'.heap (z.aT 16)=some (.list b (l.map λp=> .ref p.1)):=by
 have tt:b4 1 z (z.new 16 (.list 0 [])):=b4.new _ rfl (by lia);have ag:=kz z 16 (.list 0 [])
 have x2:c6 P0 F (S.assign 57 (E.g5 16 [])) (aK.set (λx9=>none) 11 (.ref c)) z= .ok (.next,(aK.set (λx9=>none) 11 (.ref c)).set 57 (.ref (z.aT 16))) (z.new 16 (.list 0 [])):=by refine kA ?_;refine ab FG (ab eJ ?_);simp only[Res.bind,tk ((by lia):z.nx 16<=1000) ((by lia):16<64),List.length_nil];rfl
 refine tH (ZS (F:=F) (L:=z.aT 16) (g4 (by lia)) ak 60 0 [] (((aK.set (λx9=>none) 11 (.ref c)).set 57 (.ref (z.aT 16))).set 40 (.ref c)) _ (λc aB=>tt.heap c aB) (by lia) ag (by lia) rfl rfl) ?_;intro bJ cV σ' nG pM cY cT e7;refine iw cV σ' ?_ (tt.trans pM) cT;have kB:dO P0 F 36 [.ref c] z=(bc P0 F [S.assign 57 (E.g5 16 []),S.assign 40 (E.aa 11),S.i1 vq Be,S.ret (E.aa 57)] (aK.set (λx9=>none) 11 (.ref c)) z).bind λx z=>match x.1 with| .ret v=> .ok v z| .next=> .ok .none z| .cont=> .stuck:=rfl
 have F8:c6 P0 F (S.i1 vq Be) (((aK.set (λx9=>none) 11 (.ref c)).set 57 (.ref (z.aT 16))).set 40 (.ref c)) (z.new 16 (.list 0 []))= .ok (.next,bJ) σ':=by exact nG
 refine ab kB (ab (dX x2) (ab (dX (kA (P:=P0) (F:=F) (x:=40) (cZ (z:=z.new 16 (.list 0 [])) (C:=(aK.set (λx9=>none) 11 (.ref c)).set 57 (.ref (z.aT 16))) (x:=11) rfl))) (ab (dX F8) (ab (l1 (q2 (cZ cY))) ?_))));rfl
noncomputable abbrev x3:List S:=[S.ite (E.bi .eq [E.au (E.aa 69) 23,E.au (E.aa 68) 23]) [S.ret (E.val (V.bool true))] []]
theorem ZU(bl:z.heap L=some (.list b items))(aL:numOf (z.heap nC)=some (.int num)):∀(l:List (Nat×Int))(j N:Nat)(C:aK),items.drop j=l.map (λp=> .ref p.1)->(∀p∈l,numOf (z.heap p.1)=some (.int p.2))->l.length<N->C 68=some (.ref nC)->
  ∃bJ,iz (λv C z=>bc P0 F x3 (C.set 69 v) z) L N j C z= .ok (match l.any (λp=>eC p.2 num)with|true=> .ret (.bool true)|false=> .next,bJ) z:=by
 intro l
 induction l with
 |nil=>intro j N C aW aq fe Gc;obtain⟨N,rfl⟩:∃M,N=M+1:=⟨N-1,by lia⟩;have:items.length<=j:=List.drop_eq_nil_iff.mp aW;refine⟨C,?_⟩;simp only[p5 bl,List.getElem?_eq_none this];rfl
 |cons x9 r ih=>
  obtain⟨c,i⟩:=x9;intro j N C aW aq fe Gc;obtain⟨N,rfl⟩:∃M,N=M+1:=⟨N-1,by lia⟩;simp only[List.map_cons]at aW
  have kT:j<items.length:=by refine Nat.lt_of_not_le λq=>?_;replace aW:=(List.drop_eq_nil_of_le q).symm.trans aW;exact nomatch aW
  have MX:=List.drop_eq_getElem_cons kT;rw[aW]at MX;injection MX with gd fm
  refine fl (MP (aq (c,i) (List.mem_cons_self ..))) ?_;intro qG Ml Gd ae af;refine fl (MP aL) ?_;intro sh ZJ ZK ax a0;have iv:az P0 F (E.bi .eq [E.au (E.aa 69) 23,E.au (E.aa 68) 23]) (C.set 69 (.ref c)) z= .ok (.bool (eC i num)) z:=iq (λx9 q=>by injection q) (jl (cZ rfl) ae af) (jl (cZ (v:= .ref nC) Gc) ax a0) rfl
  cases cX:eC i num with
  |true=>replace iv:=cX▸iv;have pC:bc P0 F x3 (C.set 69 (.ref c)) z= .ok (.ret (.bool true),C.set 69 (.ref c)) z:=l1 ((AZ iv).trans (l1 (q2 (by exact jI))));refine⟨C.set 69 (.ref c),?_⟩;simp only[p5 bl,((by exact ab (List.getElem?_eq_getElem kT) (ab gd rfl)):items[j]?=some (.ref c)),pC,Res.bind,List.any_cons,cX,Bool.true_or]
  |false=>rw[cX]at iv;refine cL (ih (j+1) N (C.set 69 (.ref c)) fm.symm (λp aj=>aq p (List.mem_cons_of_mem _ aj)) (by simp only[List.length_cons]at fe;lia) Gc) ?_;intro bJ e;refine⟨bJ,?_⟩;simp only[p5 bl,((by exact ab (List.getElem?_eq_getElem kT) (ab gd rfl)):items[j]?=some (.ref c)),((by exact ab (dX (tl iv)) (ab ip rfl)):bc P0 F x3 (C.set 69 (.ref c)) z= .ok (.next,C.set 69 (.ref c)) z),Res.bind,List.any_cons,cX,Bool.false_or];exact e
theorem pN.nums:∀{c:Nat}{l:List (Nat×Int)},pN h c l->∀p∈l,numOf (h p.1)=some (.int p.2)/\eT (p.1/1024)=false
 |_,_, .last j a _=>λp aj=>by rcases List.mem_singleton.mp aj with rfl;exact⟨a,j⟩
 |_,_, .up j a _ r=>λp aj=>by
  rcases List.mem_cons.mp aj with rfl|aj
  ·exact⟨a,j⟩
  ·exact r.nums p aj
theorem MY{z:St}{c nC:Nat}{num:Int}{l:List (Nat×Int)}(ak:pN z.heap c l)(aL:numOf (z.heap nC)=some (.int num))(Ge:eT (nC/1024)=false)(aq:l.length<=50)(tv:z.nx 16<=900):
  ∃σ',dO P0 (a5 (n+1)) 37 [.ref c, .ref nC] z= .ok (.bool (l.any λp=>eC p.2 num)) σ'/\b4 1 z σ':=by
 revert ak aL Ge aq tv;revert n z c nC num l;refine@(rV ne hc ne ne ne ne ?n9 ?σ9 ?c9 ?anc9 ?num9 ?l9 ?_ ?_)
 rotate_left 6
 (
 intro ak aL Ge aq tv;refine hp (ZT (F:=a5 ?n9) ak aq tv) ?_;intro b σ' ZV j bl;refine cL (ZU (F:=a5 (?n9+1)) (z:=σ') bl (by refine ab (j.heap ?anc9 Ge) ?_;exact aL) ?l9 0 200 ((aK.set (λx9=>none) 11 (.ref ?c9)).set 68 (.ref ?anc9)) rfl (λp aj=>by have:=ak.nums p aj;refine ab (j.heap _ this.2) ?_;exact this.1) (by lia) rfl) ?_;intro bJ ts;have kB:dO P0 (a5 (?n9+1)) 37 [.ref ?c9, .ref ?anc9] ?σ9=(bc P0 (a5 (?n9+1)) [S.eL 69 (E.bh 36 [E.aa 11]) x3,S.ret (E.val (V.bool false))] ((aK.set (λx9=>none) 11 (.ref ?c9)).set 68 (.ref ?anc9)) ?σ9).bind λx z=>match x.1 with| .ret v=> .ok v z| .next=> .ok .none z| .cont=> .stuck:=rfl
 have Bf:c6 P0 (a5 (?n9+1)) (S.eL 69 (E.bh 36 [E.aa 11]) x3) ((aK.set (λx9=>none) 11 (.ref ?c9)).set 68 (.ref ?anc9)) ?σ9= .ok (match(?l9).any (λp=>eC p.2 ?num9)with|true=> .ret (.bool true)|false=> .next,bJ) σ':=by refine ab vh (ab ((q3 (P:=P0) (F:=a5 (?n9+1)) (f:=36) (cZ (z:=?σ9) (C:=(aK.set (λx9=>none) 11 (.ref ?c9)).set 68 (.ref ?anc9)) (x:=11) rfl) ZV)) ?_);simp only[Res.bind,bl];exact ts
 refine bq σ' ?_ j;refine c0 kB ?_
 cases cX:(?l9).any (λp=>eC p.2 ?num9)with
 |true=>rw[cX]at Bf;refine ab (l1 Bf) ?_;rfl
 |false=>rw[cX]at Bf;refine ab (dX Bf) (ab (l1 (q2 (by exact jI))) ?_);rfl)
 rfl
def putAll(ns:List (List Nat))(ah:List (List Nat×V)):List (List Nat×V):=ns.foldl (λah s=>fJ s (.int 1) ah) ah
theorem MZ(s:List Nat)(v:V):∀ah,(fJ s v ah).length=ah.length+match c7 s ah with|none=>1|some be=>0
 |[]=>rfl
 |(k,w)::r=>by
  by_cases h:k=s
  ·subst h;simp[oQ,mW,oP,md,xS]
  ·simp only[oQ,mW,oP,md,vi h,List.length_cons,MZ s v r];lia
theorem ZW:∀(ns:List (List Nat))(ah:List (List Nat×V)),(putAll ns ah).length<=ah.length+ns.length/\((putAll ns ah).length=ah.length+ns.length↔(ns.Nodup/\∀s∈ns,c7 s ah=none)):=by
 intro br
 induction br with
 |nil=>exactλah=>⟨b8 _,λx9=>⟨List.nodup_nil,λx9 h=>by cases h⟩,λx9=>rfl⟩
 |cons s ns ih=>
  intro ah;have ih:=ih (fJ s (.int 1) ah);have aj:=MZ s (.int 1) ah;have A0:putAll (s::ns) ah=putAll ns (fJ s (.int 1) ah):=rfl;refine ab A0 ?_;simp only[List.length_cons];clear A0
  cases ar:c7 s ah with
  |some v=>replace aj:=ar▸aj;dsimp only at aj;refine⟨by lia,λq=>by lia,λq=>?_⟩;have:=q.2 s (List.mem_cons_self ..);replace this:=(ar).symm.trans this;exact sn this
  |none=>
   replace aj:=ar▸aj;dsimp only at aj;refine⟨by lia,λq=>?_,λq=>?_⟩
   ·have⟨ae,af⟩:=ih.2.mp (by lia);have ax:s∉ns:=λaJ=>by have:=af s aJ;rw[vj]at this;simp at this
    refine⟨List.nodup_cons.mpr ⟨ax,ae⟩,λt bH=>?_⟩;clear ae aj
    rcases List.mem_cons.mp bH with rfl|bH
    ·exact ar
    ·have:=af t bH;rw[vj]at this
     split at this
     ·injection this
     ·exact this
   ·have⟨ax,a0⟩:=List.nodup_cons.mp q.1
    have:=ih.2.mpr ⟨a0,λt bH=>by
     rw[vj,if_neg (λe=>ax (e▸bH):¬s=t)]
     exact q.2 t (List.mem_cons_of_mem _ bH)⟩
    lia
theorem M0(s:List Nat):∀cN:List (List Nat),ll s (aZ cN)=some (decide (s∈cN)):=by
 intro br
 induction br with
 |nil=>rfl
 |cons t r ih=>
  unfold aZ at ih⊢;simp only[List.map_cons,Of,ih,jV]
  by_cases h:t=s
  ·subst h;simp
  ·have:¬s=t:=λq=>h q.symm;simp[h,this]
theorem ZX:∀(ns:List (List Nat))(ah:List (List Nat×V))(b:Nat)(C:aK)(z:St),z.heap kid=some (.ba b ah)->b+ns.length<=9000->
  ∃σ',dN (λw x9 σ'=>(az P0 F (E.aa 69) (C.set 69 w) σ').bind λdY σ'=>(az P0 F (E.val (V.int 1)) (C.set 69 w) σ').bind λjP σ'=>(iy (.ref kid) dY jP σ').bind λx9 σ'=> .ok (.next,C) σ') (aZ ns) C z= .ok (.next,C) σ'/\σ'.heap kid=some (.ba (b+ns.length) (putAll ns ah))/\(∀id,id≠kid->σ'.heap id=z.heap id)/\σ'.nx=z.nx/\σ'.log=z.log/\σ'.orc=z.orc:=by
 intro ns
 induction ns with
 |nil=>intro ah b C z h ai;exact(vJ z rfl h (λx9 x9=>rfl) rfl rfl rfl)
 |cons s ns ih=>
  intro ah b C z h ai;simp only[List.length_cons]at ai;refine BL (ih (fJ s (.int 1) ah) (b+1) C (z.set kid (.ba (b+1) (fJ s (.int 1) ah))) (l0 _ _ _) (by lia)) ?_;intro σ' e cY cT e7 eR il;refine vJ σ' ?_ (by refine ab cY (ab List.length_cons (ab (show b+1+ns.length=b+(ns.length+1) by lia) ?_));rfl) (λid dV=>(cT id dV).trans ?_) e7 eR il
  ·refine bM e ?_;have ar:small b=true:=gn (by lia);have bB:az P0 F (E.val (V.int 1)) (C.set 69 (.str s)) z= .ok (.int 1) z:=by exact jI
   have fz:iy (.ref kid) (.str s) (.int 1) z= .ok () (z.set kid (.ba (b+1) (fJ s (.int 1) ah))):=by simp only[iy,h,ar]
   simp only[aZ,List.map_cons,p4,(cZ rfl:az P0 F (E.aa 69) (C.set 69 (.str s)) z= .ok (.str s) z),bB,fz,Res.bind]
  ·unfold St.set;dsimp only
   cases e:Nat.beq id kid with
   |false=>rfl
   |true=>exact bf (cj e) dV
noncomputable abbrev vr:E:=E.bi .isin [E.aa 69,E.bi .l5 [E.aa 71,E.aa 92]]
theorem ZY(ae:az P0 F x C z= .ok (.aD jg known) z)(af:az P0 F y C z= .ok (.aD k3 j6) z)(sr:jg<=9000)(pe:k3<=9000)(as:z.orc= .int (.ofNat b)::bU):
  az P0 F (E.bi .l5 [x,y]) C z= .ok (.aD b (known++j6)) ({z with orc:=bU}.say (known.length+j6.length<=b)):=
 iq (λx9 q=>by injection q) ae af (by
  refine(?_:dr (small jg&&small k3) (ry z λv z=>hG (λb=> .ok (.aD b (known++j6)) (z.say (known.length+j6.length<=b))) v)=_);refine ab (show small jg=true from gn (by lia)) (ab (show small k3=true from gn (by lia)) ?_);unfold ry;refine ab as ?_
  rfl)
noncomputable abbrev ra(z σ':St):Prop:=(σ'.heap=z.heap)/\(σ'.nx=z.nx)/\(z.log->σ'.log)
def ra.heap(x:ra a b):=x.1
def ra.nx(x:ra a b):=x.2.1
def ra.log(x:ra a b):=x.2.2
theorem ZZ{C:aK}(ka:C 71=some (.aD jg known))(x4:C 92=some (.aD k3 j6))(sr:jg<=64)(pe:k3<=64)(ag:known++j6=aZ cN)(eh:cN.length<=200):∀(ns:List (List Nat))(acc:List V)(z:St)(bU:List V),z.orc=List.replicate ns.length (.int (.ofNat 200))++bU->acc.length+ns.length<=1000->
  ∃σ',kf (λw acc z=>(jO P0 F [vr] (C.set 69 w) z).bind λb z=>match b with
    |true=>(az P0 F (E.aa 69) (C.set 69 w) z).bind λv z=>jn v acc z
    |false=> .ok acc z) (aZ ns) acc z= .ok (acc++aZ (ns.filter λs=>decide (s∈cN))) σ'/\ra z σ':=by
 intro ns
 induction ns with
 |nil=>intro acc z bU as aL;exact⟨z,by simp[aZ,nR,nS],rfl,rfl,id⟩
 |cons s ns ih=>
  intro acc z bU as aL;simp only[List.length_cons]at as aL;have kN:=ZY (F:=F) (z:=z) (C:=C.set 69 (.str s)) (cZ (x:=71) (show(C.set 69 (.str s)) 71=_ from ka)) (cZ (x:=92) (show(C.set 69 (.str s)) 92=_ from x4)) (by lia) (by lia) ((by refine ab as (ab List.replicate_succ ?_);rfl):z.orc= .int (.ofNat 200)::(List.replicate ns.length (.int (.ofNat 200))++bU));generalize M1:({z with orc:=List.replicate ns.length (.int (.ofNat 200))++bU}:St).say (known.length+j6.length<=200)=aO at kN;have l4:ra z aO:=by subst M1;exact⟨rfl,rfl,λq=>⟨q,((by have:=bz List.length ag;simp[aZ]at this;lia):known.length+j6.length<=200)⟩⟩
  have mI:aO.orc=List.replicate ns.length (.int (.ofNat 200))++bU:=by subst M1;rfl
  have iv:az P0 F vr (C.set 69 (.str s)) z= .ok (.bool (decide (s∈cN))) aO:=iq (λx9 q=>by injection q) (cZ rfl) kN (by
   simp only[xM,dA,cP,Hc];rw[ag,M0]
   rfl)
  have x5:jO P0 F [vr] (C.set 69 (.str s)) z= .ok (decide (s∈cN)) aO:=by refine ab L6 (ab iv ?_);cases decide (s∈cN)<;>simp only[Res.bind,oS,oT,kI,vg]
  by_cases aJ:s∈cN
  ·refine a4 (ih (acc++[.str s]) aO bU mI (by simp;lia)) ?_;intro σ' e tw;refine⟨σ',?_,tw.heap.trans l4.heap,tw.nx.trans l4.nx,λq=>tw.log (l4.log q)⟩;refine ab (List.filter_cons_of_pos (by simpa using aJ)) ?_;refine ab (show acc++aZ (s::ns.filter λs=>decide (s∈cN))=acc++[.str s]++aZ (ns.filter λs=>decide (s∈cN)) by simp[aZ]) (bM e ?_);simp only[aZ,List.map_cons,nR,nS,x5,aJ,decide_true,Res.bind,(cZ rfl:az P0 F (E.aa 69) (C.set 69 (.str s)) aO= .ok (.str s) aO),tj ((by(first|lia|omega)):acc.length<10000)]
  ·refine a4 (ih acc aO bU mI (by lia)) ?_;intro σ' e tw;refine⟨σ',?_,tw.heap.trans l4.heap,tw.nx.trans l4.nx,λq=>tw.log (l4.log q)⟩;refine ab (List.filter_cons_of_neg (by simpa using aJ)) (bM e ?_);simp only[aZ,List.map_cons,nR,nS,x5,aJ,decide_false,Res.bind]
theorem Z0(a b:Nat):eC (.ofNat a) (.ofNat b)=decide (a=b):=by
 refine(?_:Nat.beq a b=_)
 cases h:Nat.beq a b with
 |true=>refine ab (cj h) ?_;simp
 |false=>simp[Nat.ne_of_beq_eq_false h]
theorem Z1{z:St}{C:aK}{own known j6:List V}{ns cN:List (List Nat)}(x6:C 72=some (.aD b own))(ka:C 71=some (.aD jg known))(x4:C 92=some (.aD k3 j6))(ai:b<=2)(sr:jg<=64)(pe:k3<=64)(mC:own=aZ ns)(ag:known++j6=aZ cN)(cp:ns.length<=64)(eh:cN.length<=64)(x7:z.nx 25<=900):
  ∃σ',rC P0 (a5 n) 6 C (z.fq (List.replicate ns.length (.int (.ofNat 200))) True)= .ok (.next,C.set 93 (.bool (nB ns cN))) σ'/\σ'.log/\f2 σ' (z.drop 1):=by
 revert b jg k3 own known j6 ns cN x6 ka x4 ai sr pe mC ag cp eh x7;revert n z C;refine@(v4 ne hc ne ?n9 ?σ9 ?lv9 ?_ ?_)
 rotate_left 3
 intro b jg k3 own known j6 ns cN x6 ka x4 ai sr pe mC ag cp eh x7;subst mC;generalize Bg:(?σ9).fq (List.replicate ns.length (.int (.ofNat 200))) True=iZ;have h0:iZ.heap=(?σ9).heap:=by subst Bg;rfl
 have fu:iZ.nx=(?σ9).nx:=by subst Bg;rfl
 have Ac:iZ.log:=by subst Bg;exact trivial
 have Z2:iZ.orc=List.replicate ns.length (.int (.ofNat 200))++[]:=by subst Bg;simp[St.fq]
 have aeE:iZ.nx 25<=900:=by refine ab fu ?_;exact x7
 refine BL (ZX (F:=a5 ?n9) (kid:=iZ.aT 25) ns [] 0 ?lv9 (iZ.new 25 (.ba 0 [])) (kz _ _ _) (by lia)) ?_;intro aO rY cY cT e7 eR il;have dV:eT (iZ.aT 25/1024)=true:=by refine ab (g4 (by lia)) ?_;rfl
 have gO:b4 0 (iZ.new 25 (.ba 0 [])) aO:=⟨λid h=>cT id (λq=>by rw[q,dV]at h;exact rk h),λk x9=>by exact ab e7 rfl,λk x9=>by refine ab e7 ?_;lia,eR⟩;have hC:b4 1 iZ aO:=(b4.new _ rfl (by lia):b4 1 iZ (iZ.new 25 (.ba 0 []))).trans gO
 have Z3:az P0 (a5 ?n9) (E.kH 25 (E.aa 69) (E.val (V.int (1))) 69 (E.aa 72)) ?lv9 iZ= .ok (.ref (iZ.aT 25)) aO:=by refine ab Ym (ab (cZ x6) ?_);simp only[Res.bind,tk ((by lia):iZ.nx 25<=1000) ((by lia):25<64)];simp only[Res.bind]at rY;refine ab rY ?_;rfl
 have mv:=ZW ns [];simp only[List.length_nil,Nat.zero_add]at mv
 have bd:az P0 (a5 ?n9) (E.bi .len [E.kH 25 (E.aa 69) (E.val (V.int (1))) 69 (E.aa 72)]) ?lv9 iZ= .ok (.int (.ofNat (putAll ns []).length)) aO:=ox (λx9 q=>by cases q) Z3 (by
  simp only[L0,dA,dr,g7,Yc,Yd,cY,show small (0+ns.length)=true from Nat.ble_eq_true_of_le (by lia)])
 have bB:az P0 (a5 ?n9) (E.bi .len [E.aa 72]) ?lv9 aO= .ok (.int (.ofNat ns.length)) aO:=ox (λx9 q=>by cases q) (cZ x6) (by
  simp only[L0,dA,dr,Yb,show small b=true from Nat.ble_eq_true_of_le (by lia),aZ,List.length_map])
 have fz:az P0 (a5 ?n9) (E.bi .eq [E.bi .len [E.kH 25 (E.aa 69) (E.val (V.int (1))) 69 (E.aa 72)],E.bi .len [E.aa 72]]) ?lv9 iZ= .ok (.bool (decide ns.Nodup)) aO:=iq (λx9 q=>by cases q) bd bB (by
  refine(?_:em (some (V.bool (eC _ _))) aO=_);rw[Z0];have:((putAll ns []).length=ns.length)↔ns.Nodup:=mv.2.trans ⟨λq=>q.1,λq=>⟨q,λx9 x9=>rfl⟩⟩;refine ab (show decide ((putAll ns []).length=ns.length)=decide ns.Nodup from decide_eq_decide.mpr this) ?_
  rfl)
 refine a4 (ZZ (F:=a5 ?n9) (C:=?lv9) ka x4 sr pe ag (by lia) ns [] aO [] (by refine c0 il ?_;exact Z2) (by simp;lia)) ?_;intro cK ts l4
 have hU:az P0 (a5 ?n9) (E.comp none (E.aa 69) 69 (E.aa 72) [vr]) ?lv9 aO= .ok (.aD (aZ (ns.filter λs=>decide (s∈cN))).length (aZ (ns.filter λs=>decide (s∈cN)))) cK:=by refine ab xP (ab (cZ x6) ?_);refine c0 ?_ ((bz (λr:Res (List V)=>Res.bind (Res.cx r) λ(l:List V)z=>Res.ok (V.aD l.length l) z) ts).trans rfl);rfl
 have lK:az P0 (a5 ?n9) (E.bi .eq [E.comp none (E.aa 69) 69 (E.aa 72) [vr],E.aD []]) ?lv9 aO= .ok (.bool (decide (∀s∈ns,s∉cN))) cK:=iq (v':= .aD 0 []) (λx9 q=>by cases q) hU (by refine ab qX (ab eJ ?_);rfl) (by
  simp only[LY,dA,cP,Hf]
  cases hf:ns.filter λs=>decide (s∈cN)with
  |nil=>
   have:∀s∈ns,s∉cN:=λs ar=>by have:=List.filter_eq_nil_iff.mp hf s ar;simpa using this
   refine ab (oG this:decide (∀s∈ns,s∉cN)=true) ?_;rfl
  |cons x r=>
   have⟨Gf,Gg⟩:=List.mem_filter.mp ((by refine ab hf ?_;exact List.mem_cons_self ..):x∈ns.filter λs=>decide (s∈cN));have:¬∀s∈ns,s∉cN:=λq=>q x Gf (by simpa using Gg);refine ab (decide_eq_false this:decide (∀s∈ns,s∉cN)=false) ?_
   rfl)
 have tm:f2 cK ((?σ9).drop 1):=by
  have:b4 1 ?σ9 {cK with log:=(?σ9).log}:=⟨λid h=>by refine(?_:cK.heap id=_);exact ab l4.heap (ab (hC.heap id h) (ab h0 rfl)),λk h=>by refine(?_:cK.nx k=_);exact ab l4.nx (ab (hC.nx k h) (ab fu rfl)),λk h=>by refine(?_:cK.nx k<=_);refine ab l4.nx (bM fu ?_);exact hC.q1 k h,rfl⟩;exact⟨this.le.heap,this.le.nx⟩
 have Z4:az P0 (a5 ?n9) (E.and [E.bi .eq [E.bi .len [E.kH 25 (E.aa 69) (E.val (V.int (1))) 69 (E.aa 72)],E.bi .len [E.aa 72]],E.bi .eq [E.comp none (E.aa 69) 69 (E.aa 72) [vr],E.aD []]]) ?lv9 iZ= .ok (.bool (nB ns cN)) (match decide ns.Nodup with|true=>cK|false=>aO):=by
  refine ab L2 (ab L5 (ab fz ?_))
  ·unfold nB;cases decide ns.Nodup
   ·rfl
   ·simp only[Res.bind,oS,oT,kI,L4,lK,Bool.true_and]
 refine⟨match decide ns.Nodup with|true=>cK|false=>aO,?_,?_,?_⟩
 ·refine(?_:bc P0 (a5 ?n9) [S.assign 93 _] ?lv9 iZ=_);exact ab (dX (kA Z4)) (ab ip rfl)
 ·cases decide ns.Nodup
  ·exact show aO.log by refine ab hC.log ?_;exact Ac
  ·exact(l4.log (by refine ab hC.log ?_;exact Ac):cK.log)
 ·cases decide ns.Nodup
  ·have:b4 1 ?σ9 {aO with log:=(?σ9).log}:=⟨λid h=>by refine(?_:aO.heap id=_);exact ab (hC.heap id h) (ab h0 rfl),λk h=>by refine(?_:aO.nx k=_);exact ab (hC.nx k h) (ab fu rfl),λk h=>by refine(?_:aO.nx k<=_);refine bM fu ?_;exact hC.q1 k h,rfl⟩;exact⟨this.le.heap,this.le.nx⟩
  ·exact tm
 rfl
theorem Bh(h:dictAt z v=some ah):∃id b,v=some (.ref id)/\z.heap id=some (.ba b ah):=
 gz h λid ae h=>om h λb x9 af h=>(eK id b (sZ ae) ((Ai af).trans (bz (λl=>some (O.ba b l)) (a8 h))))
theorem Z5(h:listAt z v=some ah):∃id b,v=some (.ref id)/\z.heap id=some (.list b ah):=
 gz h λid ae h=>om h λb x9 af h=>gz af λx9 ax a0=>(eK id b (sZ ae) (ax.trans (bz some ((Xm a0).trans (bz (O.list b) (a8 h))))))
theorem M2(h:xz v=some ah):∃b,v=some (.aD b ah):=
 om h λb x9 ae af=>⟨b,(u4 ae).trans (bz (λl=>some (V.aD b l)) (a8 af))⟩
theorem Bi{id b:Nat}(h:az P F e C z= .ok (.ref id) z)(ae:z.heap id=some (.ba b ah))(af:c7 k ah=some v):az P F (E.bi .idx [e,E.val (V.str k)]) C z= .ok v z:=
 iq (λx9 q=>by injection q) h (by exact jI) (by simp only[mO,dA,cP,vf,g7,vd,ve,ae,af,hH])
theorem Z6{id b:Nat}(h:az P F e C z= .ok (.ref id) z)(h':az P F ey C z= .ok (.str k) z)(ae:z.heap id=some (.ba b ah))(af:c7 k ah=some v):az P F (E.bi .idx [e,ey]) C z= .ok v z:=
 iq (λx9 q=>by exact nomatch q) h h' (by simp only[mO,dA,cP,vf,g7,vd,ve,ae,af,hH])
noncomputable abbrev Gh:E:=E.bi .idx [E.bi .idx [E.aa 90,E.val (V.str [116])],E.val (V.str [97,108,108])]
noncomputable abbrev vt:E:=E.bi .isin [E.aa 69,Gh]
noncomputable abbrev Bj:E:=E.bi .idx [E.bi .idx [E.aa 90,E.aa 2],E.val (V.str [111,119,110])]
theorem Z7{z:St}{C:aK}{ai:Nat}{cN:List (List Nat)}(i8:∀w,az P0 F Gh (C.set 69 w) z= .ok (.aD ai (aZ cN)) z):∀(ns:List (List Nat))(acc:List V),acc.length+ns.length<=1000->
  kf (λu acc z=>(jO P0 F [vt] (C.set 69 u) z).bind λb z=>match b with
     |true=>(az P0 F (E.aa 69) (C.set 69 u) z).bind λv z=>jn v acc z
     |false=> .ok acc z) (aZ ns) acc z= .ok (acc++aZ (ns.filter λs=>decide (s∈cN))) z:=by
 revert i8;revert F z C ai cN;refine@(rU o3 hc ne ne ne ?F9 ?σ9 ?lv9 ?hb9 ?kh9 ?_ ?_)
 rotate_left 5
 (
 intro i8;intro br
 induction br with
 |nil=>intro acc aL;simp[aZ,nR,nS]
 |cons s ns ih=>
  intro acc aL;simp only[List.length_cons]at aL
  have iv:az P0 ?F9 vt ((?lv9).set 69 (.str s)) ?σ9= .ok (.bool (decide (s∈?kh9))) ?σ9:=iq (λx9 q=>by injection q) (cZ rfl) (i8 _) (by
   simp only[xM,dA,cP,Hc];rw[M0]
   rfl)
  have x5:jO P0 ?F9 [vt] ((?lv9).set 69 (.str s)) ?σ9= .ok (decide (s∈?kh9)) ?σ9:=by refine ab L6 (ab iv ?_);cases decide (s∈?kh9)<;>simp only[Res.bind,oS,oT,kI,vg]
  by_cases aJ:s∈?kh9
  ·have e:=ih (acc++[.str s]) (by simp;lia);refine ab (List.filter_cons_of_pos (by simpa using aJ)) ?_;refine ab (show acc++aZ (s::ns.filter λs=>decide (s∈?kh9))=acc++[.str s]++aZ (ns.filter λs=>decide (s∈?kh9)) by simp[aZ]) (bM e ?_);simp only[aZ,List.map_cons,nR,nS,x5,aJ,decide_true,Res.bind,(cZ rfl:az P0 ?F9 (E.aa 69) ((?lv9).set 69 (.str s)) ?σ9= .ok (.str s) ?σ9),tj ((by(first|lia|omega)):acc.length<10000)]
  ·have e:=ih acc (by lia);refine ab (List.filter_cons_of_neg (by simpa using aJ)) (bM e ?_)
   simp only[aZ,List.map_cons,nR,nS,x5,aJ,decide_false,Res.bind])
 rfl
theorem Z8(bl:z.heap L=some (.list b items)){out:List (List V)}(eh:items.length=out.length)(bH:∀(j:Nat)(h:j<items.length)(acc:List V),acc.length<=64*j->turn items[j] acc z= .ok (acc++out[j]'(by lia)) z)(ar:∀o∈out,o.length<=64)(ax:items.length<=3):∀(r j N:Nat)(acc:List V),items.length=j+r->r<N->acc.length<=64*j->
  pZ turn L N j acc z= .ok (acc++(out.drop j).flatten) z:=by
 intro br
 induction br with
 |zero=>intro j N acc cF fe aL;obtain⟨N,rfl⟩:∃M,N=M+1:=⟨N-1,by lia⟩;refine ab (List.drop_eq_nil_of_le (by lia)) ?_;simp only[Ha bl,List.getElem?_eq_none ((by lia):items.length<=j),List.flatten_nil,List.append_nil]
 |succ r ih=>intro j N acc cF fe aL;obtain⟨N,rfl⟩:∃M,N=M+1:=⟨N-1,by lia⟩;rw[List.drop_eq_getElem_cons (show j<out.length by lia),List.flatten_cons,<-List.append_assoc,<-(ih (j+1) N (acc++out[j]'(by lia)) (by lia) (by lia) (by have:=ar _ (List.getElem_mem (show j<out.length by lia));simp;lia))];simp only[Ha bl,List.getElem?_eq_getElem ((by lia):j<items.length),bH j ((by lia):j<items.length) acc aL,Res.bind]
def aaa(z:St)(iY:List (List Nat×V))(v:V)(o:List V):Prop:=∃s res b id cV,v= .str s/\c7 s iY=some (.ref id)/\z.heap id=some (.ba cV res)/\c7 Fh res=some (.aD b o)
theorem Gi:∀{names:List V}{lO:List (List V)},ownsOf z iY names=some lO->names.length=lO.length/\∀(j:Nat)(h:j<names.length)(h':j<lO.length),aaa z iY names[j] lO[j]
 |[],lO,h=>(a8 h:[]=lO)▸⟨rfl,λx9 h=>bf h (Nat.not_lt_zero _)⟩
 |v::r,lO,h=>gz h λs ae h=>gz h λres af h=>gz h λown ax h=>gz h λl a0 h=>(a8 h:own::l=lO)▸
  ⟨bz (·+1) (Gi a0).1,λj cF aab=>match j with
   |0=>cS (Bh af) λid cV bd bB=>cL (M2 ax) λb fz=>(N2 s res b id cV (Ah ae) bd bB fz)
   |j+1=>(Gi a0).2 j (Nat.lt_of_succ_lt_succ cF) (Nat.lt_of_succ_lt_succ aab)⟩
def Gj(n:Nat)(C:aK):V->List V->St->Res (List V):=λw acc z=>(az P0 (a5 n) Bj (C.set 2 w) z).bind λit2 z=>
    h7 (λu acc z=>(jO P0 (a5 n) [vt] ((C.set 2 w).set 69 u) z).bind λb z=>match b with
     |true=>(az P0 (a5 n) (E.aa 69) ((C.set 2 w).set 69 u) z).bind λv z=>jn v acc z
     |false=> .ok acc z) it2 acc z
theorem aac{fS:List (List (List Nat))}(aad:C 69=none)(ae:dictAt z (C 106)=some Ap)(af:listAt z (c7 LH Ap)=some names)(ax:dictAt z (C 90)=some iY)(a0:dictAt z (c7 [116] iY)=some Aq)(cn:xz (c7 LI Aq)=some dV)(da:ownsOf z iY names=some lO)(fw:names.length<=3)(as:lO=fS.map aZ)(aq:∀ns∈fS,ns.length<=64)(ag:dV=aZ cN):
  rC P0 (a5 n) 7 C z= .ok (.next,C.set 93 (.bool (decide (∀ns∈fS,∀s∈ns,s∉cN)))) z:=by
 subst as ag;refine cS (Bh ae) ?_;intro aeF sK bd gd;refine cS (Z5 af) ?_;intro L Bk bB fm;refine cS (Bh ax) ?_;intro aae fT fz k1;refine cS (Bh a0) ?_;intro aeG eZ hU qH;refine cL (M2 cn) ?_;intro ai lK;refine bC (Gi da) ?_;intro mI lu;have jX:az P0 (a5 n) (E.bi .idx [E.aa 106,E.val (V.str i2)]) C z= .ok (.ref L) z:=Bi (cZ bd) gd bB
 have aaf:∀(j:Nat)(h:j<names.length)(acc:List V),acc.length<=64*j->(Gj n C) names[j] acc z= .ok (acc++(fS.map λns=>aZ (ns.filter λs=>decide (s∈cN)))[j]'(by simp at mI⊢;lia)) z:=λj cF acc aL=>by
  refine NX (lu j cF (by lia)) ?_;intro s res b id cV cY cT e7 eR;have aag:j<fS.length:=by simp at mI;lia
  have nG:az P0 (a5 n) Bj (C.set 2 names[j]) z= .ok (.aD b (aZ fS[j])) z:=by refine Bi (Z6 (k:=s) (cZ (fz:(C.set 2 names[j]) 90=some (.ref aae))) (cZ (by refine ab cY ?_;rfl)) k1 cT) e7 ?_;refine c0 eR ?_;simp
  have:=Z7 (F:=a5 n) (λw=>Bi (Bi (cZ (fz:((C.set 2 names[j]).set 69 w) 90=_)) k1 hU) qH lK:∀w,az P0 (a5 n) Gh ((C.set 2 names[j]).set 69 w) z= .ok (.aD ai (aZ cN)) z) fS[j] acc (by have:=aq _ (List.getElem_mem aag);lia);unfold Gj;refine ab nG ?_;refine c0 ?_ (this.trans (by simp));rfl
 have M3:=Z8 (turn:=Gj n C) fm (out:=fS.map λns=>aZ (ns.filter λs=>decide (s∈cN))) (by simp at mI⊢;assumption) aaf (λo as=>by
  refine a4 (List.mem_map.mp as) ?_;rintro ns cp rfl;have:=aq ns cp;have:=List.length_filter_le (λs=>decide (s∈cN)) ns;simp only[aZ,List.length_map]
  lia) fw names.length 0 200 [] (by lia) (by lia) (by exact b8 _)
 have iv:az P0 (a5 n) (E.nP (E.aa 69) 2 (E.bi .idx [E.aa 106,E.val (V.str i2)]) 69 Bj [vt]) C z= .ok (.aD (fS.map λns=>aZ (ns.filter λs=>decide (s∈cN))).flatten.length (fS.map λns=>aZ (ns.filter λs=>decide (s∈cN))).flatten) z:=by refine ab Yl (ab aad ?_);refine ab jX ?_;refine c0 ?_ ((bz (λr:Res (List V)=>Res.bind (Res.cx r) λ(l:List V)z=>Res.ok (V.aD l.length l) z) M3).trans rfl);simp only[Res.bind,h7,fm];rfl
 have eq:az P0 (a5 n) (E.bi .eq [E.nP (E.aa 69) 2 (E.bi .idx [E.aa 106,E.val (V.str i2)]) 69 Bj [vt],E.aD []]) C z= .ok (.bool (decide (∀ns∈fS,∀s∈ns,s∉cN))) z:=iq (v':= .aD 0 []) (λx9 q=>by injection q) iv (by refine ab qX (ab eJ ?_);rfl) (by
  simp only[LY,dA,cP,Hf]
  cases hf:(fS.map λns=>aZ (ns.filter λs=>decide (s∈cN))).flatten with
  |nil=>
   have:∀ns∈fS,∀s∈ns,s∉cN:=λns cp s ar ag=>by
    have h0:=(List.flatten_eq_nil_iff.mp hf) _ (List.mem_map.mpr (bq ns cp rfl));have:s∈ns.filter λs=>decide (s∈cN):=List.mem_filter.mpr ⟨ar,by simpa using ag⟩;simp only[aZ,List.map_eq_nil_iff]at h0;replace this:=h0▸this;exact nomatch this
   refine ab (oG this) ?_;rfl
  |cons x r=>
   refine a4 (List.mem_flatten.mp ((by refine ab hf ?_;exact List.mem_cons_self ..):x∈(fS.map λns=>aZ (ns.filter λs=>decide (s∈cN))).flatten)) ?_;intro l ak aah;clear iv M3;refine a4 (List.mem_map.mp ak) ?_;rintro ns cp rfl;clear ak;refine a4 (List.mem_map.mp aah) ?_;intro s ar cy;have⟨Gf,Gg⟩:=List.mem_filter.mp ar;have:¬∀ns∈fS,∀s∈ns,s∉cN:=λq=>q ns cp s Gf (by simpa using Gg);refine ab (decide_eq_false this) ?_
   rfl)
 refine(?_:bc P0 (a5 n) [S.assign 93 _] C z=_);exact ab (dX (kA eq)) (ab ip rfl)
theorem jE.stuck:jE F f vs z .stuck:=trivial
theorem sU.stuck:sU F i C z .stuck:=trivial
theorem M4{z:St}:f2 (z.set j (ho b cells a)) {z.set j (qN cells a)with orc:=o,log:=p}:=by
 refine⟨λid bS e=>?_,λx9 x9=>b8 _⟩;unfold St.set at e⊢;dsimp only at e⊢
 cases h:Nat.beq id j with
 |false=>rw[h]at e;exact bq bS e (.refl _)
 |true=>rw[h]at e;obtain rfl:=a8 e;exact bq _ rfl (.ba (.inr (by exact b8 _)) (im.refl _))
section
variable{vs:List V}{z:St}
theorem Bl(h:aO.heap=cK.heap)(h':aO.nx=cK.nx):f2 aO cK:=⟨λx9 o e=>(bq o (h▸e) (.refl _)),λx9 x9=>h'▸b8 _⟩
theorem aai:jE (a5 8) 52 vs z (Fg vs z):=by
 refine gM .stuck λx y ae=>ea .stuck λj af=>ea .stuck λk ax=>gM .stuck λcells a cF=>gM .stuck λo bU as=>ea .stuck λr a0=>nw .stuck λag=>?_;refine ab (sY ae) (ab (mK af) (ab (Fa ax) ?_));intro aP;refine eU aP ?_;try clear aP;intro g aW aj;refine a4 (Ma cF) ?_;intro b ai hm;clear a0 as o cF ax af ae
 cases k with
 |zero=>exact b3 ag
 |succ k=>exact⟨g,[],_,_,FK (a5 7) (z.fq [] True) (j:=j) (b:=b) (k:=k) hm (ct ai (dG rfl)) aW,trivial,aj▸ .refl _,M4 (z:=z.fq [] True)⟩
theorem aaj(h:nA cells a=(own,aX)):own.length<=2:=by
 have:own=(nA cells a).1:=by exact ab h rfl
 refine ab this ?_;unfold nA
 cases fh cells a 3 with
 |zero=>exact Nat.zero_le _
 |succ n=>cases n with
  |zero=>exact gP _
  |succ n=>exact b8 _
theorem aak:jE (a5 8) 57 vs z (Lv vs z):=by refine ea .stuck λx ae=>ea .stuck λj af=>gM .stuck λcells a cF=>gM .stuck λmI dR as=>gM .stuck λb own ax=>gM .stuck λlu bU sg=>ea .stuck λaX a0=>nw .stuck λag=>?_;refine ab (Fc ae) (ab (mK af) ?_);intro aP;refine a4 (Ma cF) ?_;intro b ai hm;refine cL (YF (n:=6) (z:=z.fq [] True) (j:=j) hm ai aP.2.1) ?_;intro cV e;rw[aP.2.2]at e;exact⟨aP.1,[],_,_,e,trivial, .aD (.inr (aaj aP.2.2)),M4 (z:=z.fq [] True)⟩
theorem aal:jE (a5 8) 53 vs z (Lw vs z):=by refine gM .stuck λx y ae=>ea .stuck λaA af=>gM .stuck λb l ax=>ea .stuck λY a0=>ea .stuck λd cn=>gM .stuck λcV ah da=>ea .stuck λsub fw=>?_;refine ab (sY ae) (ab (mK af) (ab (Af ax) ?_));refine kG (s1 a0) ?_;intro c b1 as;intro aP;exact⟨aP.1,[],_,_,Yv (a5 7) (z.fq [] True) as (sZ cn) (Ai da) fw (ct aP.2 (dG rfl)),trivial, .aD (.inr (by rw[hB,List.length_map];exact aP.2)),Bl rfl rfl⟩
theorem vu(l:List (List Nat)):(aZ l).length=l.length:=List.length_map ..
theorem aam{ns:List (List Nat)}(h:j5 l ns):l.length=ns.length:=by rw[h.1,hB,List.length_map,vu]
theorem aan:jE (a5 8) 59 vs z (Lx vs z):=by refine ea .stuck λx ae=>ea .stuck λt af=>sV .stuck λkind cH d fO=>gM .stuck λo bU as=>gM .stuck λb names ax=>nw .stuck λag=>?_;refine ab (Fc ae) (ab (mK af) ?_);intro aP;clear ag ax as o af ae;obtain⟨g,ns,am,rfl⟩:=aP;refine ym ((tn fO).ex) ?_;intro c b1 Y b gd fm k1 x9;exact⟨g,[],_,_,(Yw (a5 7) (z.fq [] True) (aZ ns) gd k1 am.1 (by refine ab (aam am) ?_;exact ct am.2 (dG rfl))),trivial, .aD (.inl (by rw[vu];exact am.2)),Bl rfl rfl⟩
end
noncomputable abbrev pO(z:St):Prop:=(z.nx 15<=900)/\(z.nx 16<=900)/\(z.nx 17<=900)/\(z.nx 22<=900)/\(z.nx 23<=900)/\(z.nx 24<=900)/\(z.nx 25<=900)
section
variable(x:pO a)
def pO.xT:=x.1
def pO.tv:=x.2.1
def pO.xU:=x.2.2.1
def pO.iu:=x.2.2.2.1
def pO.MN:=x.2.2.2.2.1
def pO.kC:=x.2.2.2.2.2.1
def pO.x7:=x.2.2.2.2.2.2
end
theorem oA(h:s3 z=true):pO z:=vL h λae af ax a0 cn h=>cq h λda fw=>⟨dG ae,dG af,dG ax,dG a0,dG cn,dG da,dG fw⟩
theorem Gk(h:hK k o=true):∃a,o=some a/\k a=true:=nh h λa h=>(bq a rfl h)
theorem Gl(h:Ak z=true):hD z:=f8 h λae af ax=>by
 refine a4 (Gk ae) ?_;intro i bd cY;refine a4 (Gk af) ?_;intro j bB cT;refine a4 (Gk ax) ?_;rintro⟨kind,cH,d⟩ fz e7;refine f8 e7 λeR il xY=>⟨gz bd λY gd fm=>?_,gz bB λY gd fm=>?_,kind,?_,hV xY⟩
 ·refine kG (s1 gd) ?_;intro c b1 as;exact mV c b1 Y as ((sZ fm).trans (by exact ab (cj cY) rfl))
 ·refine kG (s1 gd) ?_;intro c b1 as;exact mV c b1 Y as (gz fm λv k1 qH=>k1.trans (bz some ((Fa qH).trans (by exact ab (cj cT) rfl))))
 ·have:=tn fz;rw[u3 (v:=d) il]at this;exact g0 (G:=λl=>TI z 2048 kind l .none->TI z 2048 kind [] .none) eR id this
section
variable{vs:List V}{z:St}
theorem aao:jE (a5 8) 38 vs z (Ly vs z):=by
 revert vs z;refine@(qg ne hc ?vs9 ?σ9 ?_ ?_)
 rotate_left 2
 (
 refine sV .stuck λx y aE ae=>ea .stuck λp af=>gM .stuck λb fR ax=>ea .stuck λi a0=>sV .stuck λkind cH d fO=>ea .stuck λGd cn=>gM .stuck λLz LA da=>nw .stuck λag=>gM .stuck λo bU as=>ea .stuck λr aw=>?_;refine yp ag λeX k2 hy rb Bm=>?_;refine ab (Ls ae) (ab (mK af) (ab (Af ax) (ab (Ag a0) ?_)));refine kG (s1 cn) ?_;intro qG Ml hm;refine vI ((tn fO).ex) ?_;intro c b1 Y cV gd fm k1 qH aap aaq M5;have ss:dk 6 Gd=some (.aD 0 []):=(u4 da).trans (by refine ab (cj eX) ?_;exact g0 (G:=λl=>some (V.aD 0 l)=some (.aD 0 [])) k2 rfl);have aar:Gd=Y:=bz (λo:Option O=>match o with|some (.inst _ _ f)=>f|_=>[]) (hm.symm.trans gd);clear aaq aap fm gd b1 c;subst aar
 cases r with
 |true=>intro aP;obtain⟨g,ns,am,aq⟩:=aP;obtain⟨σ',e,j⟩:=(Mh (n:=6) (z:=(?σ9).fq [] True) hm ss k1 qH M5 (dG rb) am (hV Bm) (oA hy).xT (oA hy).xU).1 aq;exact⟨g,[],_,_,e,j.log▸trivial, .refl _,⟨(j.le).heap,(j.le).nx⟩⟩
 |false=>
  intro aP;obtain⟨g,ns,am,aq⟩:=aP;obtain⟨σ',e,j⟩:=(Mh (n:=6) (z:=(?σ9).fq [] True) hm ss k1 qH M5 (dG rb) am (hV Bm) (oA hy).xT (oA hy).xU).2 aq
  exact⟨g,[],_,e,j.log▸trivial,⟨(j.le).heap,(j.le).nx⟩⟩)
 rfl
theorem aas:jE (a5 8) 51 vs z (LB vs z):=by
 refine gM .stuck λx y ae=>ea .stuck λt af=>sV .stuck λkind cH d fO=>?_;refine ab (sY ae) (ab (mK af) ?_)
 cases aN:pE d with
 |true=>refine nw .stuck λag=>cq ag λeX ag=>cq ag λk2 hy=>λaP=>?_;rw[u3 aN]at fO;obtain⟨g,ns,am,aq⟩:=aP;have R:=oA eX;refine a4 (Zw (n:=5) (v:=x) (z:=z.fq [] True) (tn fO) (Gl k2) am.1 (by rw[vu];exact aq) R.iu R.kC (hV hy)) ?_;intro σ' e j;exact⟨g,[],_,_,e,j.log▸trivial, .refl _,⟨(j.le).heap,(j.le).nx⟩⟩
 |false=>refine ea .stuck λdy ax=>ea .stuck λb aat=>sV .stuck λq6 cb e fx=>nw .stuck λag=>BO ag λk0 eX k2 hy rb Bm aau=>λaP=>?_;rw[mK ax]at fO;rw[u3 k0]at fx;obtain⟨g,dh,aeH,aav,F2⟩:=aP;refine a4 dh ?_;try clear dh;intro ns am aq;have R:=oA eX;refine a4 (Zx (n:=5) (v:=x) (z:=z.fq [] True) (tn fO) hy aat (tn fx) (Gl k2) am.1 (by rw[vu];exact aq) aav.1 (by rw[vu];exact F2) R.iu R.kC (hV rb) (hV Bm) (hV aau)) ?_;intro σ' e j;exact⟨g,[],_,_,e,j.log▸trivial, .refl _,⟨(j.le).heap,(j.le).nx⟩⟩
theorem aaw:jE (a5 8) 50 vs z (LC vs z):=by
 revert vs;revert z;refine@(o4 hc ?σ9 ?_ ?_)
 rotate_left 1
 intro vs;refine gM .stuck λx y ae=>ea .stuck λt af=>ea .stuck λnum ax=>sV .stuck λkind cH d fO=>nw .stuck λag=>yp ag λk0 eX k2 hy rb=>λaP=>?_;refine ab (sY ae) (ab (mK af) (ab (Ag ax) ?_));rw[u3 k0]at fO;obtain⟨g,ns,am,aq⟩:=aP;refine a4 (ZG (n:=5) (z:=(?σ9).fq [] True) (tn fO) (Gl k2) am.1 (by rw[vu];exact ct aq (dG rfl)) (hV hy) (oA eX).iu (oA eX).MN (hV rb)) ?_;intro σ' e j;exact⟨g,[],_,_,e,j.log▸trivial, .refl _,⟨(j.le).heap,(j.le).nx⟩⟩;rfl
end
theorem aax(D:s5 (iX la h) num n c):∃l,pN h c l/\l.length<=n+1/\l.any (λp=>eC p.2 num)=true:=by
 have jX:eC num num=true:=by cases num<;>exact Nat.beq_refl _
 induction D with
 |here n a p=>
  rcases Ga h _ la with⟨cY,cT⟩|q
  ·rw[cY]at a p;exact fW ([(_,num)]) (.last (MR _ cT) a p) (Nat.le_add_left _ _) ((Bool.or_false _).trans jX)
  ·rw[q]at a;exact iW a
 |up a p be ih=>
  rcases Ga h _ la with⟨cY,cT⟩|q
  ·rw[cY]at a p;refine fV ih ?_;try clear ih;intro l ak aq Gm;exact fW _ (.up (MR _ cT) a p ak) (Nat.succ_le_succ aq) ((bz (_||·) Gm).trans (Bool.or_true _))
  ·rw[q]at a;exact iW a
section
variable{vs:List V}{z:St}
theorem Gn(h:eS (numOf o) sX=some i):numOf o=some (.int i):=gz h λx9 ae af=>ae.trans (bz some (Ag af))
theorem aay:jE (a5 8) 37 vs z (LD vs z):=by
 revert vs;revert z;refine@(o4 hc ?σ9 ?_ ?_)
 rotate_left 1
 (
 intro vs;refine gM .stuck λx y ae=>ea .stuck λc af=>ea .stuck λnC ax=>ea .stuck λnum a0=>nw .stuck λag=>f8 ag λeX k2 hy=>ea .stuck λq cX=>?_;refine ab (sY ae) (ab (mK af) (ab (mK ax) ?_));have R:=oA eX
 cases aN:pE q with
 |true=>refine ea .stuck λi cn=>λaP=>?_;rw[u3 aN]at cX;refine a4 (MY (n:=6) (z:=(?σ9).fq [] True) (.last (hV k2) (Gn cn) cX) (Gn a0) (hV hy) (show 1<=50 by decide) R.tv) ?_;intro σ' e j;exact⟨aP,[],_,_,e,j.log▸trivial,(Bool.or_false (eC i num)).symm▸ .refl _,⟨(j.le).heap,(j.le).nx⟩⟩
 |false=>
  refine ea .stuck λx9 x9=>λaP=>?_;refine fV (aax aP.2) ?_;intro l ak aq Gm;refine a4 (MY (n:=6) (z:=(?σ9).fq [] True) ak (Gn a0) (hV hy) (ct aq (dG rfl)) R.tv) ?_;intro σ' e j;rw[Gm]at e
  exact⟨aP.1,[],_,_,e,j.log▸trivial, .refl _,⟨(j.le).heap,(j.le).nx⟩⟩)
 rfl
theorem M6{aI:Type}{f:Option O->Option aI}{v:aI}(h0:f none=none)(e:f (gN x (iX ids h))=some v):f (h x)=some v:=by
 refine Or.elim (Ga h x ids) (λcz=>?_) λq=>?_
 ·(refine bC cz ?_;try clear cz;intro q x9);rw[q]at e;exact e
 ·rw[q]at e;exact iW (h0.symm.trans e)
theorem aaz:jE (a5 8) 41 vs z (LF vs z):=by
 revert vs z;refine@(qg ne hc ?vs9 ?σ9 ?_ ?_)
 rotate_left 2
 refine sV .stuck λx y aE ae=>ea .stuck λt af=>ea .stuck λkey ax=>ea .stuck λsub a0=>ea .stuck λq cn=>ea .stuck λd da=>gM .stuck λb ah fw=>nw .stuck λar=>λaP=>?_;refine ab (Ls ae) (ab (mK af) (ab (Ah ax) (ab (Ah a0) ?_)));obtain⟨g,dy,cV,dD,cY,cT,e7⟩:=aP;exact⟨g,[],_,_,ZI (F:=a5 7) (z:=(?σ9).fq [] True) (sZ cn) (sZ da) (Ai fw) ar (M6 (f:=qO) rfl cY) (M6 (f:=id) rfl cT) e7,trivial, .refl _,Bl rfl rfl⟩;rfl
end
theorem M7:∀{names:List V},ownsOf (z.fq o p) iY names=ownsOf z iY names
 |[]=>rfl
 |v::r=>by
  rw[LJ,LJ,M7 (names:=r)];rfl
section
variable{C:aK}{z:St}
theorem aaA:sU (a5 8) 6 C z (LK C z):=by
 revert C z;refine@(qg ne hc ?lv9 ?σ9 ?_ ?_)
 rotate_left 2
 refine gM .stuck λb own aaB=>gM .stuck λjg known FS=>gM .stuck λk3 j6 aaC=>gM .stuck λo bU as=>ea .stuck λr aw=>nw .stuck λag=>tM ag λeX k2 hy rb=>λaP=>?_;obtain⟨g,ns,cN,ae,af,ax,a0,cn⟩:=aP;refine fV (Z1 (n:=7) (z:=?σ9) (u4 aaB) (u4 FS) (u4 aaC) (dG k2) (dG hy) (dG rb) ae af a0 ax (oA eX).x7) ?_;intro σ' e gl le;rw[cn]at e;exact⟨g,_,_,_,e,gl,λx v q=>(bq v q (.refl _)),⟨le.heap,le.nx⟩⟩;rfl
theorem aaD:sU (a5 8) 7 C z (LL C z):=by
 revert C z;refine@(qg ne hc ?lv9 ?σ9 ?_ ?_)
 rotate_left 2
 refine ea .stuck λAp ae=>ea .stuck λnames af=>ea .stuck λiY ax=>ea .stuck λAq a0=>ea .stuck λdV cn=>ea .stuck λlO da=>gM .stuck λo bU as=>ea .stuck λr aw=>nw .stuck λag=>cq ag λeX k2=>λaP=>?_;obtain⟨g,fS,cN,cY,cT,e7,eR⟩:=aP;have e:=aac (n:=7) (z:=(?σ9).fq [] True) (pf (G:=λo=>?lv9 69=o->?lv9 69=none) eX id rfl) ae af ax a0 cn (M7.trans da) (dG k2) cY cT e7;rw[eR]at e;exact⟨g,[],_,_,e,trivial,λx v q=>(bq v q (.refl _)),Bl rfl rfl⟩;rfl
end
theorem aaE{Q:Nat->aI->Prop}{g:aI}:∀{l:List (Nat×aI)},(∀p∈l,Q p.1 p.2)->Ao f l=some g->Q f g:=by
 intro br
 induction br with
 |nil=>exactλx9 h=>iW h
 |cons p r ih=>
  intro H h;dsimp only[Ao]at h
  cases e:Nat.beq f p.1 with
  |true=>rw[e]at h;exact cj e▸(a8 h:p.2=g)▸H p (.head _)
  |false=>rw[e]at h;exact ih (λq cX=>H q (.tail _ cX)) h
theorem M8{Q:Nat->(List V->St->Res V)->Prop}(H:∀p∈An,Q p.1 p.2)(h:s6 f=some g):Q f g:=by
 unfold s6 at h
 cases e:Nat.ble 37 f with
 |true=>rw[e]at h;exact aaE H h
 |false=>rw[e]at h;exact iW h
theorem aaF:∀p∈An,∀vs z,jE (a5 8) p.1 vs z (p.2 vs z):=
 List.forall_mem_cons.mpr ⟨λx9 x9=>aay,List.forall_mem_cons.mpr ⟨λx9 x9=>aao,List.forall_mem_cons.mpr ⟨λx9 x9=>aaz,List.forall_mem_cons.mpr ⟨λx9 x9=>aaw,List.forall_mem_cons.mpr ⟨λx9 x9=>aas,List.forall_mem_cons.mpr ⟨λx9 x9=>aai,List.forall_mem_cons.mpr ⟨λx9 x9=>aal,List.forall_mem_cons.mpr ⟨λx9 x9=>aak,List.forall_mem_cons.mpr ⟨λx9 x9=>aan,λx9 h=>nomatch h⟩⟩⟩⟩⟩⟩⟩⟩⟩
theorem aaG:Ad (a5 8) xA where
 fn:=λf vs z=>ea (R:=jE (a5 8) f vs z) .stuck λg h=>M8 (Q:=λf g=>∀vs z,jE (a5 8) f vs z (g vs z)) aaF h vs z
 blk:=λi C z=>by
  refine(?_:sU (a5 8) i C z (Fi i C z));unfold Fi
  cases e:Nat.beq i 6 with
  |true=>refine ab (cj e) ?_;exact aaA
  |false=>
   cases e:Nat.beq i 7 with
   |true=>refine ab (cj e) ?_;exact aaD
   |false=>exact .stuck
section
open PySem PySem.W PyProof.Rows MeetsSeq
section
variable{ao:cR}{D:Addr}
theorem Na(ch:ol ao P0 D):∀n,Good ao P0 (a5 n) n
 |0=>WB
 |n+1=>EW (Na ch n) ch
theorem aaH:An.all (λp=>Nat.ble 1 (P0.fns p.1).params.length)=true:=by kernel_rfl
theorem Nb(ch:ol ao P0 D)(h:s6 f=some g):∃o aF,B.get? (T.c8 f)=some o/\o.data= .func aF:=by
 refine Or.elim (ch.fns f) (λcz=>?_) λar=>?_
 ·(refine fl cz ?_;try clear cz;intro o aF body bK x9);exact eK o aF bK.get bK.data
 ·have:=M8 (Q:=λf x9=>Nat.ble 1 (P0.fns f).params.length=true) (λp aj=>List.all_eq_true.mp aaH p aj) h;rw[ar]at this;exact b3 this
theorem Nc(ch:ol ao P0 D):Good ao P0 xA 8:=
 Lm (Na ch 8) aaG λf=>by
  cases h:s6 f with
  |some g=>exact .inl (Nb ch h)
  |none=>exact .inr λvs z=>by refine(?_:d3 (s6 f) _=_);refine ab h ?_;rfl
theorem Nd(ch:ol ao P0 D):∀n,Good ao P0 (en n) (8+n)
 |0=>Nc ch
 |n+1=>WC (EW (Nd ch n) ch) ((Nc ch).mono (by lia)) LG LM
theorem aaI(ch:ol ao P0 D)(h:Ad (en 20) G)(aQ:∀f,(∃o aF,B.get? (T.c8 f)=some o/\o.data= .func aF)\/∀vs z,G.fn f vs z= .stuck)(aw:dO P0 G rG [.aD 63 vs] St.empty= .ok (.bool true) aO)(ak:aO.log):
  ∃m σ',m<=40/\σ'.log/\∀n,m<=n->∀Y ay,av aG bb n Y (λx9 I Z x9=>bn I Z [.aD 63 vs] ay) St.empty (mE (T.c8 rG) ay) (.ok (.bool true) σ'):=by
 refine iw 29 aO (by lia) ak (λn aq Y ay=>?_);have:=(EW (Lm (Nd ch 20) h aQ) ch).fn n aq Y rG [.aD 63 vs] ay St.empty;rw[show(bT.mk (λf vs z=>dO P0 G f vs z) (λi C z=>rC P0 G i C z)).fn rG [.aD 63 vs] St.empty=dO P0 G rG [.aD 63 vs] St.empty from rfl,aw]at this;exact this
end
end
theorem aaJ:AD 0=AE 0:=by kernel_rfl
theorem aaK:AD 1=AE 1:=by kernel_rfl
theorem aaL:AD 2=AE 2:=by kernel_rfl
theorem aaM(cells:List V)(ed:Nat->Slot):lP [24,39,86,90,97,106] (fB ⟨0,0,0,0,0,2⟩ ⟨cells.take 60,0,ed⟩) (j8 1) ((en 20).blk 0 (dq [(104, .aD 63 cells)]) St.empty)=some (.next,[some (bt 5 0),some (bt 4 1),some (bt 27 0),some (bt 31 0),some (bt 4 2),some (bt 35 0)],(fB ⟨0,0,0,0,0,2⟩ ⟨cells.take 60,0,ed⟩).map (λe=>some e.2),true,[],True):=by kernel_rfl
theorem aaN:lb []=lc []:=by kernel_rfl
theorem aaO:lb [0]=lc [0]:=by kernel_rfl
theorem aaP:lb [0,0]=lc [0,0]:=by kernel_rfl
theorem aaQ:lb [0,1]=lc [0,1]:=by kernel_rfl
theorem aaR:lb [0,0,0]=lc [0,0,0]:=by kernel_rfl
theorem aaS:lb [0,0,1]=lc [0,0,1]:=by kernel_rfl
theorem aaT:lb [0,0,2]=lc [0,0,2]:=by kernel_rfl
theorem aaU:lb [0,1,0]=lc [0,1,0]:=by kernel_rfl
theorem aaV:lb [0,1,1]=lc [0,1,1]:=by kernel_rfl
theorem aaW:lb [0,1,2]=lc [0,1,2]:=by kernel_rfl
theorem aaX:X4=X5:=by kernel_rfl
theorem aaY:xI 0=xJ 0:=by kernel_rfl
theorem aaZ:xI 1=xJ 1:=by kernel_rfl
theorem aa0:xI 2=xJ 2:=by kernel_rfl
theorem aa1:xI 3=xJ 3:=by kernel_rfl
theorem aa2:pH 0 0=pI 0 0:=by kernel_rfl
theorem aa3:pH 0 1=pI 0 1:=by kernel_rfl
theorem aa4:pH 1 0=pI 1 0:=by kernel_rfl
theorem aa5:pH 1 1=pI 1 1:=by kernel_rfl
theorem aa6:pH 2 0=pI 2 0:=by kernel_rfl
theorem aa7:pH 2 1=pI 2 1:=by kernel_rfl
theorem aa8:pH 3 0=pI 3 0:=by kernel_rfl
theorem aa9:pH 3 1=pI 3 1:=by kernel_rfl
theorem aba:eH 0 0 0=eI 0 0 0:=by kernel_rfl
theorem abb:eH 0 0 1=eI 0 0 1:=by kernel_rfl
theorem abc:eH 0 0 2=eI 0 0 2:=by kernel_rfl
theorem abd:eH 0 1 0=eI 0 1 0:=by kernel_rfl
theorem abe:eH 0 1 1=eI 0 1 1:=by kernel_rfl
theorem abf:eH 0 1 2=eI 0 1 2:=by kernel_rfl
theorem abg:eH 0 2 0=eI 0 2 0:=by kernel_rfl
theorem abh:eH 0 2 1=eI 0 2 1:=by kernel_rfl
theorem abi:eH 0 2 2=eI 0 2 2:=by kernel_rfl
theorem abj:eH 1 0 0=eI 1 0 0:=by kernel_rfl
theorem abk:eH 1 0 1=eI 1 0 1:=by kernel_rfl
theorem abl:eH 1 0 2=eI 1 0 2:=by kernel_rfl
theorem abm:eH 1 1 0=eI 1 1 0:=by kernel_rfl
theorem abn:eH 1 1 1=eI 1 1 1:=by kernel_rfl
theorem abo:eH 1 1 2=eI 1 1 2:=by kernel_rfl
theorem abp:eH 1 2 0=eI 1 2 0:=by kernel_rfl
theorem abq:eH 1 2 1=eI 1 2 1:=by kernel_rfl
theorem abr:eH 1 2 2=eI 1 2 2:=by kernel_rfl
theorem abt:eH 2 0 0=eI 2 0 0:=by kernel_rfl
theorem abu:eH 2 0 1=eI 2 0 1:=by kernel_rfl
theorem abv:eH 2 0 2=eI 2 0 2:=by kernel_rfl
theorem abw:eH 2 1 0=eI 2 1 0:=by kernel_rfl
theorem abx:eH 2 1 1=eI 2 1 1:=by kernel_rfl
theorem aby:eH 2 1 2=eI 2 1 2:=by kernel_rfl
theorem abz:eH 2 2 0=eI 2 2 0:=by kernel_rfl
theorem abA:eH 2 2 1=eI 2 2 1:=by kernel_rfl
theorem abB:eH 2 2 2=eI 2 2 2:=by kernel_rfl
theorem abC:eH 3 0 0=eI 3 0 0:=by kernel_rfl
theorem abD:eH 3 0 1=eI 3 0 1:=by kernel_rfl
theorem abE:eH 3 0 2=eI 3 0 2:=by kernel_rfl
theorem abF:eH 3 1 0=eI 3 1 0:=by kernel_rfl
theorem abG:eH 3 1 1=eI 3 1 1:=by kernel_rfl
theorem abH:eH 3 1 2=eI 3 1 2:=by kernel_rfl
theorem abI:eH 3 2 0=eI 3 2 0:=by kernel_rfl
theorem abJ:eH 3 2 1=eI 3 2 1:=by kernel_rfl
theorem abK:eH 3 2 2=eI 3 2 2:=by kernel_rfl
theorem abL:lX 0 0=lY 0 0:=by kernel_rfl
theorem abM:lX 0 1=lY 0 1:=by kernel_rfl
theorem abN:lX 0 2=lY 0 2:=by kernel_rfl
theorem abO:lX 1 0=lY 1 0:=by kernel_rfl
theorem abP:lX 1 1=lY 1 1:=by kernel_rfl
theorem abQ:lX 1 2=lY 1 2:=by kernel_rfl
theorem abR:lX 2 0=lY 2 0:=by kernel_rfl
theorem abS:lX 2 1=lY 2 1:=by kernel_rfl
theorem abT:lX 2 2=lY 2 2:=by kernel_rfl
theorem abU:lX 3 0=lY 3 0:=by kernel_rfl
theorem abV:lX 3 1=lY 3 1:=by kernel_rfl
theorem abW:lX 3 2=lY 3 2:=by kernel_rfl
theorem abX:lV 0 0=lW 0 0:=by kernel_rfl
theorem abY:lV 0 1=lW 0 1:=by kernel_rfl
theorem abZ:lV 0 2=lW 0 2:=by kernel_rfl
theorem ab0:lV 1 0=lW 1 0:=by kernel_rfl
theorem ab1:lV 1 1=lW 1 1:=by kernel_rfl
theorem ab2:lV 1 2=lW 1 2:=by kernel_rfl
theorem ab3:lV 2 0=lW 2 0:=by kernel_rfl
theorem ab4:lV 2 1=lW 2 1:=by kernel_rfl
theorem ab5:lV 2 2=lW 2 2:=by kernel_rfl
theorem ab6:lV 3 0=lW 3 0:=by kernel_rfl
theorem ab7:lV 3 1=lW 3 1:=by kernel_rfl
theorem ab8:lV 3 2=lW 3 2:=by kernel_rfl
theorem ab9:th 0=ti 0:=by kernel_rfl
theorem aca:th 1=ti 1:=by kernel_rfl
theorem acb:th 2=ti 2:=by kernel_rfl
theorem acd:th 3=ti 3:=by kernel_rfl
structure jK where
 on:List (List Nat)
 sn:List (List Nat)
 an:List (List Nat)
 p:Nat
noncomputable def gB(s:Nat):Bool:=Nat.ble 4 s&&Nat.ble s 6
def lg(s:Nat)(x:jK):Slot:=⟨aZ x.on,aZ x.sn,aZ x.an,cf (aZ x.sn),cf (aZ x.an),(match gB s with|true=>jk x.p|false=>pF x.p),jk x.p,lQ x.p⟩
def bp(cells:List V)(a:Nat)(N:Nat->jK):Dat:=⟨cells,a,λs=>lg s (N s)⟩
noncomputable def gC(N:Nat->jK)(s:Nat)(x:jK):Nat->jK:=λi=>match Nat.beq i s with|true=>x|false=>N i
theorem Go(h:ed=lg s x):(bp cells a N).put aX s ed=bp cells aX (gC N s x):=by
 delta Dat.put bp gC
 congr 1
 funext i
 cases e:Nat.beq i s with
 |true=>exact ab h (ab (cj e) rfl)
 |false=>rfl
theorem pP(a b:List (List Nat)):aZ (a++b)=aZ a++aZ b:=List.map_append ..
theorem rc(a b:List V):cf (a++b)=cf a++cf b:=List.map_append ..
theorem oB(a:List (List Nat)):(aZ a).length=a.length:=List.length_map ..
theorem Gp(a:List V):(cf a).length=a.length:=List.length_map ..
def Gq(c:Cfg)(s:Nat):List V:=[dW c.oq,dW c.k,dW c.m,dW c.n,dW c.done,dW c.ai,dW s]
noncomputable def Nf:V->Nat
 | .int (.ofNat n)=>n
 |_=>0
theorem Ng(h:Gq c s=Gq du s'):c=du/\s=s':=by cases c;cases du;cases(bz (List.map Nf) h);exact⟨rfl,rfl⟩
def fU(c:Cfg)(s:Nat)(D:Dat):St:={nE c s D with orc:=Gq c s}
theorem Nh:∀(l:List (Nat×V))(f:aK),l.map (λp=>f p.1)=l.map (λp=>some p.2)->E5 f (dq l)
 |[],f,_=>λx v h=>by exact ns h
 |(y,u)::r,f,h=>λx v e=>by
  simp only[List.map_cons,List.cons.injEq]at h;dsimp only[dq]at e
  cases q:Nat.beq y x with
  |true=>replace e:=q▸e;refine bM (a8 e) ?_;have:=cj q;refine bM this ?_;exact bq u h.1 (.refl _)
  |false=>replace e:=q▸e;exact Nh r f h.2 x v e
theorem ace:∀(ah:List (Nat×O))(h:Nat->Option O),ah.map (λe=>h e.1)=ah.map (λe=>some e.2)->∀id o,gN id (ah.map λe=>(e.1,some e.2))=some o->h id=some o:=by
 intro br
 induction br with
 |nil=>intro h x9 id o e;exact ns e
 |cons cm r ih=>
  obtain⟨y,u⟩:=cm;intro h hm id o e;simp only[List.map_cons,List.cons.injEq]at hm;simp only[List.map_cons,xy]at e
  cases q:Nat.beq y id with
  |true=>replace e:=q▸e;refine bM (a8 e) ?_;have:=cj q;refine bM this ?_;exact hm.1
  |false=>replace e:=q▸e;exact ih h hm.2 id o e
theorem acf(ae:(fB c D).map (λe=>aO.heap e.1)=(fB c D).map λe=>some e.2)(af:((List.range 64).all λk=>Nat.ble (aO.nx k) (j8 s k))=true):f2 aO (fU c s D):=by refine⟨λid bS e=>(bq bS (ace (fB c D) aO.heap ae id bS e) (.refl _)),λk ag=>?_⟩;have:=List.all_eq_true.mp af k (List.mem_range.mpr ag);exact dG this
theorem nH(h:lP vars (fB c D) (j8 s) ((en 20).blk i C (z.fq o True))=some (cs,zO,(fB c D).map (λe=>some e.2),true,[],log))(ak:log)(bA:vars=l.map (λp=>p.1))(hw:zO=l.map λp=>some p.2):
  jD (en 20) i C z (cs,dq l) (fU c s D):=by
 cases aw:(en 20).blk i C (z.fq o True)with
 |ok r aO=>
  rw[aw]at h;dsimp only[lP]at h;simp only[Option.some.injEq,Prod.mk.injEq]at h;refine tL o r.2 aO ?_ (by rw[h.2.2.2.2.2];exact ak) ?_ (acf h.2.2.1 h.2.2.2.1)
  ·exact ab aw (bM h.1 rfl)
  ·refine Nh l r.2 ?_;refine bM hw (bM h.2.1 (ab bA (ab List.map_map ?_)));rfl
 |exc aO=>replace h:=aw▸h;exact ns h
 |stuck=>replace h:=aw▸h;exact ns h
set_option tactic.hygienic true in
theorem vv{C:aK}{z:St}{o:List V}{log:Prop}{v:V}(h:tg ((en 20).blk i C (z.fq o True))=some (v,[],log))(ak:log):
  ∃lv1 aO,jD (en 20) i C z (.ret v,lv1) aO/\aO.log:=by
 revert h ak;revert i C z o log v;refine@(rV ne ne hc ne ne ne ?i9 ?lv9 ?σ9 ?o9 ?log9 ?v9 ?_ ?_)
 rotate_left 6
 (
 intro h ak
 cases aw:(en 20).blk ?i9 ?lv9 ((?σ9).fq ?o9 True)with
 |ok r aO=>
  rw[aw]at h;obtain⟨f,lv1⟩:=r
  cases f with
  |next=>exact ns h
  |cont=>exact ns h
  |ret v'=>refine bC (fi (a8 (h:some (v',aO.orc,aO.log)=some (_,_,_)))) ?_;rintro rfl kR;refine bC (fi kR) ?_;intro af ax;exact eK lv1 aO (tL ?o9 lv1 aO aw (by rw[ax];exact ak) (λx v e=>⟨v,e, .refl _⟩) (f2.refl _)) (by rw[ax];exact ak)
 |exc aO=>rw[aw]at h;exact ns h
 |stuck=>rw[aw]at h;exact ns h)
 rfl
theorem Gr{ns:List (List Nat)}(h:ns.length<=64):j5 (cf (aZ ns)) ns:=⟨rfl,h⟩
theorem Gs(h:a.length+b.length<=64):j5 (cf (aZ a)++cf (aZ b)) (a++b):=⟨by rw[<-rc,<-pP];rfl,by refine ab List.length_append ?_;exact h⟩
theorem vw(h:a.length+b.length<=64)(aq:(a++b).Nodup):te (cf (aZ a)++cf (aZ b)):=(bq _ (Gs h) aq)
theorem x8(h:a.length+b.length<=64)(aq:¬(a++b).Nodup):tf (cf (aZ a)++cf (aZ b)):=(bq _ (Gs h) aq)
theorem Bn(h:a.length+b.length<=24):u8 (cf (aZ a)++cf (aZ b)):=(bq _ (Gs (by lia)) (by refine ab List.length_append ?_;exact h))
theorem vx(h:a.length+b.length<=64):jH (cf (aZ a)) (cf (aZ b)):=by unfold jH;rw[Gp,Gp,oB,oB];exact h
theorem vy(h:a.length+b.length<=64):jH (aZ a) (aZ b):=by unfold jH;rw[oB,oB];exact h
theorem tx(ae:on.length<=2)(h:a.length+b.length<=64)(aw:nB on (a++b)=r):qT (aZ on) (aZ a++aZ b) r:=(nM on (a++b) rfl ((pP a b).symm) (by refine ab List.length_append ?_;exact h) (by lia) aw)
theorem Bo(h:b.length<=2):va (cf (aZ a)) (cf (aZ a)++cf (aZ b)) (cf (aZ b)):=(fW ((cf (aZ a)).length) rfl (by exact ab List.drop_left rfl) (by rw[Gp,oB];lia))
theorem ya:nB on cN=true↔on.Nodup/\∀s∈on,s∉cN:=by unfold nB;simp
theorem tz{a b:List (List Nat)}(aL:a.Nodup):(a++b).Nodup↔b.Nodup/\∀s∈b,s∉a:=by
 rw[List.nodup_append]
 constructor
 ·rintro⟨_,af,ax⟩
  exact⟨af,λs ar aL=>ax s aL s ar rfl⟩
 ·rintro⟨af,ax⟩
  exact⟨aL,af,λx aQ y bx e=>ax y bx (e▸aQ)⟩
theorem Gu(cells:List V)(a:Nat):∃on:List (List Nat),∃aX,nA cells a=(aZ on,aX)/\on.length<=2:=by
 revert cells a;refine@(qg ne ne ?cells9 ?a9 ?_ ?_)
 rotate_left 2
 unfold nA
 split
 ·exact eK ([]) _ rfl (by exact Nat.zero_le _)
 ·exact eK ([[97+fh ?cells9 (?a9+1) 6]]) _ rfl (by simp)
 ·exact eK ([[97+fh ?cells9 (?a9+1) 6],[97+fh ?cells9 (?a9+2) 6]]) _ rfl (by exact b8 _)
 rfl
noncomputable def Ni(c:Cfg)(s p:Nat):Prop:=p<s/\(p=0\/p∈c.slots)/\(s<=3->p<=3)/\(4<=s->s<=6->p<=6)/\(7<=s->p<=3\/7<=p)
structure acg(c:Cfg)(N:Nat->jK)(s:Nat):Prop where
 on:(N s).on.length<=2
 rd:(N s).sn.length<=2*s+2
 snd:(N s).sn.Nodup
 par:Ni c s (N s).p
 seen:gB s=false->(N s).sn=(N (N s).p).sn++(N s).on
 vz:gB s=true->(N s).sn=(N s).an
 all:jG c=true->(N s).an=(N (N s).p).an++(N s).on/\(N s).an.Nodup/\(N s).an.length<=2*s+2
structure Inv(c:Cfg)(N:Nat->jK):Prop where
 t0:(N 0).sn=[]
 tA:(N 0).an.Nodup
 nI:(N 0).an.length<=2
 slot:∀s∈c.slots,acg c N s
def At(c:Cfg)(s:Nat)(z:St):Prop:=∃cells a N,z=fU c s (bp cells a N)/\Inv c N/\oo cells
theorem At.inj(h:At c s z)(h':At du s' z):c=du/\s=s':=by refine fl h ?_;try clear h;intro x9 x9 x9 e x9;refine fl h' ?_;try clear h';intro x9 x9 x9 ey x9;exact Ng (bz St.orc (e.symm.trans ey))
section
variable{cells:List V}{a:Nat}{N:Nat->jK}{c:Cfg}{p:Nat}
theorem tB(h0:(N 0).sn=[]):lS (bp cells a N) p=aZ (N p).sn:=by
 unfold lS
 split
 ·refine ab h0 ?_;rfl
 ·rfl
theorem pQ(h0:(N 0).sn=[]):hW (bp cells a N) p=cf (aZ (N p).sn):=by
 unfold hW
 split
 ·refine ab h0 ?_;rfl
 ·rfl
set_option tactic.hygienic true in
theorem tC(h:gB p=true->(N p).sn=(N p).an):g3 (bp cells a N) p=cf (aZ (N p).an):=by
 unfold g3
 split
 ·rfl
 ·rename_i qy aj
  cases ax:Nat.ble p 3 with
  |true=>rfl
  |false=>
   cases da:Nat.ble p 6 with
   |true=>
    have:gB p=true:=by unfold gB;rw[da,Bool.and_true];refine gn ?_;refine Nat.lt_of_not_le λq=>?_;replace ax:=(gn ((by lia):p<=3)).symm.trans ax;exact rk ax
    refine(?_:cf (aZ (N p).sn)=_);exact ab (h this) rfl
   |false=>rfl
end
theorem vA:gC N s x s=x:=by unfold gC;exact ab (Nat.beq_refl s:Nat.beq s s=true) rfl
theorem mR(h:t≠s):gC N s x t=N t:=by
 unfold gC
 cases e:Nat.beq t s with
 |true=>exact bf (cj e) h
 |false=>rfl
theorem mem_upTo:∀(n i:Nat),i∈upTo n↔i<n:=by
 intro br
 induction br with
 |zero=>exactλx9=>⟨(nomatch ·),(bf · (Nat.not_lt_zero _))⟩
 |succ n ih=>intro i;rw[XG,List.mem_append,ih i,List.mem_singleton];exact Nat.lt_succ_iff_lt_or_eq.symm
theorem Gv:s∈(upTo n).map (λi=>i+a)↔a<=s/\s<a+n:=by rw[List.mem_map];refine⟨λdz=>a4 dz λi h e=>?_,λh=>(bq (s-a) ((mem_upTo _ _).mpr (Nat.sub_lt_left_of_lt_add h.1 h.2)) (Nat.sub_add_cancel h.1))⟩;clear dz;subst e;exact⟨Nat.le_add_left _ _,Nat.add_comm a n▸Nat.add_lt_add_right ((mem_upTo _ _).mp h) a⟩
theorem hE{c:Cfg}:s∈c.slots↔(1<=s/\s<=c.k)\/(5<=s/\s<5+c.m)\/(7<=s/\s<7+c.n):=by delta Cfg.slots Cfg.vs Cfg.bR Cfg.os;rw[List.mem_append,List.mem_append,Gv,Gv,Gv,or_assoc,Nat.add_comm 1,Nat.lt_succ_iff]
noncomputable def nJ:Nat->(Nat->Bool)->Bool
 |0,_=>true
 |n+1,f=>f n&&nJ n f
theorem pR:∀{n:Nat},nJ n f=true->∀i,i<n->f i=true:=by
 intro br
 induction br with
 |zero=>exactλx9 x9 h=>bf h (Nat.not_lt_zero _)
 |succ be ih=>exactλh i aW=>cq h λae af=>(Nat.lt_succ_iff_lt_or_eq.mp aW).elim (ih af i) λe=>e▸ae
noncomputable def pS(x:Nat):List Nat->Bool
 |[]=>false
 |y::r=>Nat.beq y x||pS x r
theorem ach{x y:Nat}{r:List Nat}:pS x (y::r)=(Nat.beq y x||pS x r):=rfl
theorem yb:∀{l:List Nat},pS x l=true↔x∈l:=by
 intro br
 induction br with
 |nil=>exact⟨λh=>b3 h,λh=>nomatch h⟩
 |cons y r ih=>rw[List.mem_cons,ach,Bool.or_eq_true,ih,Nat.beq_eq,eq_comm]
def Bp(c du:Cfg)(s p:Nat):Bool:=Nat.blt p s&&((Nat.beq p 0||pS p c.slots)&&((!(Nat.ble s 3)||Nat.ble p 3)&&((!(Nat.ble s 6)||Nat.ble p 6)&&((!(Nat.ble 7 s)||(Nat.ble p 3||Nat.ble 7 p))&&(!pS s c.slots&&(Nat.ble s 9&&(pS s du.slots&&(du.slots.all (λt=>pS t c.slots||Nat.beq t s)&&c.slots.all λt=>pS t du.slots))))))))
theorem Gw(h:(!a||b)=true)(aL:a=true):b=true:=by subst aL;exact h
theorem Bq{A B:Prop}(h:(a||b)=true)(aL:a=true->A)(ai:b=true->B):A\/B:=((Bool.or_eq_true a b).mp h).imp aL ai
structure Nj(c du:Cfg)(s p:Nat):Prop where
 mem:∀t,t∈du.slots->t∈c.slots\/t=s
 mono:∀t,t∈c.slots->t∈du.slots
 par:p=0\/p∈c.slots
 ok:Ni du s p
 fresh:s∉c.slots
 s9:s<=9
theorem Gx(h:Bp c du s p=true):Nj c du s p:=
 A9 h λae af ax a0 cn da fw kR h=>cq h λh9 aci=>
  have mono:∀t,t∈c.slots->t∈du.slots:=λt bH=>yb.mp (List.all_eq_true.mp aci t bH)
  ⟨λt bH=>Bq (List.all_eq_true.mp h9 t bH) yb.mp cj,mono,(Bq af cj yb.mp:p=0\/p∈c.slots),
   (NZ (dG ae) ((Bq af cj yb.mp:p=0\/p∈c.slots).imp id (mono p)) (λq=>dG (Gw ax (gn q))) (λx9 q=>dG (Gw a0 (gn q))) (λq=>Bq (Gw cn (gn q)) dG dG)),
   λq=>b3 ((hV da).symm.trans (yb.mpr q)),dG fw⟩
theorem Br(h:a<=2*p+2)(h':b<=2)(aj:p<s):a+b<=2*s+2:=ct (Nat.add_le_add h h') (Nat.add_le_add_right (Nat.mul_le_mul_left 2 aj) 2)
theorem Gy{on sn an:List (List Nat)}(S:Nj c du s p)(aU:Inv c N)(hf:jG du=jG c)(as:on.length<=2)(ak:sn.length<=2*s+2)(aN:sn.Nodup)(ae:gB s=false->sn=(N p).sn++on)(af:gB s=true->sn=an)(ax:jG du=true->an=(N p).an++on/\an.Nodup/\an.length<=2*s+2):Inv du (gC N s ⟨on,sn,an,p⟩):=by
 have h0:(0:Nat)≠s:=λq=>bf (q▸S.ok.1) (Nat.not_lt_zero _);have xk:gC N s ⟨on,sn,an,p⟩ p=N p:=mR (Nat.ne_of_lt S.ok.1);refine⟨(mR h0:gC N s ⟨on,sn,an,p⟩ 0=N 0).symm▸aU.t0,(mR h0:gC N s ⟨on,sn,an,p⟩ 0=N 0).symm▸aU.tA,(mR h0:gC N s ⟨on,sn,an,p⟩ 0=N 0).symm▸aU.nI,λt bH=>(S.mem t bH).elim (λh=>?_) λh=>?_⟩
 ·have Q:=aU.slot t h;have kF:gC N s ⟨on,sn,an,p⟩ t=N t:=mR (λq=>S.fresh (q▸h));refine eU Q.par ?_;intro p1 p2 fY;have ep:gC N s ⟨on,sn,an,p⟩ (N t).p=N (N t).p:=mR λq=>p2.elim (λp2=>h0 (p2.symm.trans q)) λp2=>S.fresh (q▸p2);generalize gC N s ⟨on,sn,an,p⟩=ob at kF ep;exact⟨kF.symm▸Q.on,kF.symm▸Q.rd,kF.symm▸Q.snd,kF.symm▸(fs p1 (p2.imp id (S.mono _)) fY),by refine ab kF (ab ep ?_);exact Q.seen,by refine ab kF ?_;exact Q.vz,by refine ab kF (ab ep (ab hf ?_));exact Q.all⟩
 ·subst h;have ns:gC N t ⟨on,sn,an,p⟩ t=⟨on,sn,an,p⟩:=vA;generalize gC N t ⟨on,sn,an,p⟩=ob at ns xk
  constructor<;>refine ab ns ?_
  ·exact as
  ·exact ak
  ·exact aN
  ·exact S.ok
  ·refine ab xk ?_;exact ae
  ·exact af
  ·refine ab xk ?_;exact ax
theorem gD(h:a<=20)(h':b<=20):a+b<=64:=ct (Nat.add_le_add h h') (dG rfl)
theorem Bs(h:a<=20)(h':b<=2):a+b<=24:=ct (Nat.add_le_add h h') (dG rfl)
theorem Bt(h:a<=2*p+2)(ae:p<s)(af:s<=9):a<=20:=ct h (ct (Nat.mul_le_mul_left 2 ae) (ct (Nat.mul_le_mul_left 2 af) (dG rfl)))
theorem Gz(aL:a.Nodup)(ai:b.Nodup)(h:(a++on).Nodup)(h':(b++on).Nodup):nB on (a++b)=true:=
 ya.mpr ⟨((tz aL).mp h).1,λs ar aJ=>(List.mem_append.mp aJ).elim (((tz aL).mp h).2 s ar) (((tz ai).mp h').2 s ar)⟩
theorem GA(aL:a.Nodup)(h:¬(a++on).Nodup)(b:List (List Nat)):nB on (a++b)=false:=
 Bool.eq_false_iff.mpr λe=>h ((tz aL).mpr ⟨(ya.mp e).1,λs ar aJ=>(ya.mp e).2 s ar (List.mem_append_left _ aJ)⟩)
theorem acj(aL:a.Nodup)(h:¬(a++on).Nodup)(b:List (List Nat)):nB on (b++a)=false:=
 Bool.eq_false_iff.mpr λe=>h ((tz aL).mpr ⟨(ya.mp e).1,λs ar aJ=>(ya.mp e).2 s ar (List.mem_append_right _ aJ)⟩)
theorem Nk(aU:Inv c N)(h:p=0\/p∈c.slots):(N p).sn.length<=2*p+2/\(N p).sn.Nodup:=by
 rcases h with rfl|h
 ·refine ab aU.t0 ?_;exact⟨by exact Nat.zero_le _,List.nodup_nil⟩
 ·exact⟨(aU.slot p h).rd,(aU.slot p h).snd⟩
theorem Nl(aU:Inv c N)(hf:jG c=true)(h:p=0\/p∈c.slots):(N p).an.length<=2*p+2/\(N p).an.Nodup:=by
 rcases h with rfl|h
 ·exact⟨by have:=aU.nI;assumption,aU.tA⟩
 ·exact⟨((aU.slot p h).all hf).2.2,((aU.slot p h).all hf).2.1⟩
theorem Bu(aU:Inv c N)(h:p=0\/p∈c.slots):gB p=true->(N p).sn=(N p).an:=by
 rcases h with rfl|h
 ·intro q;exact b3 q
 ·exact(aU.slot p h).vz
theorem Bv{P:Nat->Prop}(h0:P 0):∀i,i<1->P i:=λi h=>(Nat.lt_one_iff.mp h).symm▸h0
theorem tD{P:Nat->Prop}(h0:P 0)(ae:P 1):∀i,i<2->P i:=λi h=>(Nat.lt_succ_iff_lt_or_eq.mp h).elim (Bv h0 i) λe=>e▸ae
theorem f4{P:Nat->Prop}(h0:P 0)(ae:P 1)(af:P 2):∀i,i<3->P i:=λi h=>(Nat.lt_succ_iff_lt_or_eq.mp h).elim (tD h0 ae i) λe=>e▸af
theorem re{P:Nat->Prop}(h0:P 0)(ae:P 1)(af:P 2)(ax:P 3):∀i,i<4->P i:=λi h=>(Nat.lt_succ_iff_lt_or_eq.mp h).elim (f4 h0 ae af i) λe=>e▸ax
theorem aeI{P:Nat->Prop}(h0:P 0)(ae:P 1)(af:P 2)(ax:P 3)(a0:P 4):∀i,i<5->P i:=λi h=>(Nat.lt_succ_iff_lt_or_eq.mp h).elim (re h0 ae af ax i) λe=>e▸a0
theorem ack:∀k,k<3->∀p,p<k+1->XP k p/\XQ k p:=λk ag p aj=>
 have h:∀k,k<3->AD k=AE k:=f4 aaJ aaK aaL;have e:=fi (h k ag:(_,_)=(_,_))
 ⟨ta (j7 e.1 p aj),ta (j7 e.2 p aj)⟩
def dC(g2:V):aK:=dq (dL++[(98,g2)])
def Bw(g2:V)(j:Nat):aK:=(dC g2).set 85 (dW j)
def GB(i:Nat)(C:aK)(z:St)(g2:V)(du:Cfg)(s':Nat):Prop:=∃x:(cg×aK)×St,jD (en 20) i C z x.1 x.2/\x.2.log/\(x.1.1= .ret (.bool true)\/(x.1=(.next,dC g2)/\At du s' x.2))
theorem acl:nJ 3 (λk=>!gB (k+1)&&nJ (k+1) λp=>Bp ⟨0,k,0,0,0,2⟩ ⟨0,k+1,0,0,0,2⟩ (k+1) p)=true:=by kernel_rfl
theorem acm(ag:k<3){z:St}(h:At ⟨0,k,0,0,0,2⟩ (k+1) z):GB 3 (Bw gm k) z gm ⟨0,k+1,0,0,0,2⟩ (k+2):=by
 revert ag z h;revert k;refine@(o4 ne ?k9 ?_ ?_)
 rotate_left 1
 intro ag z h;refine eB h ?_;try clear h;rintro cells a N rfl aU aW;have aj:=q0 cells a (?k9+1) (Nat.succ_pos _);have nK:=pR acl ?k9 ag;generalize vB:fh cells a (?k9+1)=p at aj;refine cq nK λe6 nK=>?_;replace e6:gB (?k9+1)=false:=hV e6;have S:=Gx (pR nK p aj);refine cS (Gu cells (a+1)) ?_;intro on aX as f5;refine bC (Nk aU S.par) ?_;intro ed oC;have fD:=Bt ed S.ok.1 S.s9;have h1:=ct f5 (show 2<=20 by decide);have lp:ky (bp cells a N) (bp cells a N).a (?k9+1) p:=⟨aW,vB⟩;have lo:ov (bp cells a N) ((bp cells a N).a+1) (aZ on) aX:=⟨aW,as⟩;have pT:(aZ on).length<=2:=by rw[oB];exact f5
 have T:=ack ?k9 ag p aj
 by_cases bw:((N p).sn++on).Nodup
 ·have log:Fs ?k9 p (bp cells a N) (aZ on) aX:=by unfold Fs;refine ab (tB aU.t0) (ab (pQ aU.t0) ?_);exact⟨⟨⟨⟨⟨⟨⟨⟨trivial,lp⟩,lo⟩,tx f5 (gD fD fD) (Gz oC oC bw bw)⟩,pT⟩,vw (gD fD h1) bw⟩,vx (gD fD h1)⟩,Bn (Bs fD f5)⟩,vy (gD fD h1)⟩
  have ai:=nH (l:=dL++[(98,gm)]) (z:=fU ⟨0,?k9,0,0,0,2⟩ (?k9+1) (bp cells a N)) (T.1 (bp cells a N) (aZ on) aX) log rfl rfl;refine fW (_,_) ai trivial (.inr ⟨rfl,cells,aX,gC N (?k9+1) ⟨on,(N p).sn++on,[],p⟩,bz (fU _ _) (Go ?_),Gy S aU rfl f5 (by refine ab List.length_append ?_;exact Br ed f5 S.ok.1) bw (λx9=>rfl) (λq=>b3 (e6.symm.trans q)) (λq=>b3 q),aW⟩);delta Fo lg;rw[tB aU.t0,pQ aU.t0,pP,rc,e6];rfl
 ·have log:Ft ?k9 p (bp cells a N) (aZ on) aX:=by unfold Ft;refine ab (tB aU.t0) (ab (pQ aU.t0) ?_);exact⟨⟨⟨⟨⟨trivial,lp⟩,lo⟩,tx f5 (gD fD fD) (GA oC bw _)⟩,pT⟩,x8 (gD fD h1) bw⟩
  refine cS (vv (z:=fU ⟨0,?k9,0,0,0,2⟩ (?k9+1) (bp cells a N)) (T.2 (bp cells a N) (aZ on) aX) log) ?_;intro lv1 aO ai ak;exact fW ((_,lv1),aO) ai ak (.inl rfl)
 rfl
theorem acn:∀k,k<4->∀m,m<2->pH k m=pI k m:=re (tD aa2 aa3) (tD aa4 aa5) (tD aa6 aa7) (tD aa8 aa9)
theorem aco:∀k,k<4->∀m,m<2->∀i,i<k+m+1->XR k m i/\XS k m i:=λk ag m aJ i aW=>
 have e:=fi (acn k ag m aJ:(_,_)=(_,_))
 ⟨ta (j7 e.1 i aW),ta (j7 e.2 i aW)⟩
theorem acp:∀k,k<4->∀m,m<3->∀n,n<3->eH k m n=eI k m n:=re (f4 (f4 aba abb abc) (f4 abd abe abf) (f4 abg abh abi)) (f4 (f4 abj abk abl) (f4 abm abn abo) (f4 abp abq abr)) (f4 (f4 abt abu abv) (f4 abw abx aby) (f4 abz abA abB)) (f4 (f4 abC abD abE) (f4 abF abG abH) (f4 abI abJ abK))
theorem acq:∀k,k<4->∀m,m<3->∀n,n<3->∀i,i<k+n+1->XT k m n i/\XU k m n i/\XV k m n i:=λk ag m aJ n aq i aW=>
 have e:=fi (acp k ag m aJ n aq:(_,_,_)=(_,_,_));have ey:=fi e.2
 ⟨ta (j7 e.1 i aW),ta (j7 ey.1 i aW),ta (j7 ey.2 i aW)⟩
theorem acr(ae:4<=s)(af:s<=6):gB s=true:=by unfold gB;refine ab (gn ae) (ab (gn af) ?_);rfl
theorem acs(h:s<4\/6<s):gB s=false:=by
 cases e:gB s with
 |false=>rfl
 |true=>unfold gB at e;simp only[Bool.and_eq_true]at e;have:=dG e.1;have:=dG e.2;lia
theorem acu:nJ 4 (λk=>nJ 2 λm=>gB (5+m)&&nJ (k+m+1) λi=>Bp ⟨2,k,m,0,0,2⟩ ⟨2,k,m+1,0,0,2⟩ (5+m) (qU k i))=true:=by kernel_rfl
theorem acv(ag:k<=3)(aJ:m<2){z:St}(h:At ⟨2,k,m,0,0,2⟩ (5+m) z):GB 3 (Bw dd m) z dd ⟨2,k,m+1,0,0,2⟩ (6+m):=by
 revert ag aJ z h;revert k m;refine@(qg ne ne ?k9 ?m9 ?_ ?_)
 rotate_left 2
 intro ag aJ z h;refine eB h ?_;try clear h;rintro cells a N rfl aU aW;have aj:=q0 cells a (?k9+?m9+1) (Nat.succ_pos _);have nK:=pR (pR acu ?k9 (f6 ag)) ?m9 aJ;generalize vB:fh cells a (?k9+?m9+1)=i at aj;refine cq nK λe6 nK=>?_;have S:=Gx (pR nK i aj);refine cS (Gu cells (a+1)) ?_;intro on aX as f5;have T:=aco ?k9 (f6 ag) ?m9 aJ i aj;generalize rf:qU ?k9 i=p at S;refine bC (Nl aU rfl S.par) ?_;intro ed oC;have fD:=Bt ed S.ok.1 S.s9;have h1:=ct f5 (show 2<=20 by decide);have k7:g3 (bp cells a N) p=cf (aZ (N p).an):=tC (Bu aU S.par);have mB:((bp cells a N).slot p).al=aZ (N p).an:=rfl;have lo:ov (bp cells a N) ((bp cells a N).a+1) (aZ on) aX:=⟨aW,as⟩;have pT:(aZ on).length<=2:=by rw[oB];exact f5
 by_cases bw:((N p).an++on).Nodup
 ·have log:Fu ?k9 ?m9 i (qU ?k9 i) (bp cells a N) (aZ on) aX:=by unfold Fu;refine ab rf (ab mB (ab k7 ?_));exact⟨⟨⟨⟨⟨⟨⟨⟨⟨trivial,(⟨aW,vB⟩:ky (bp cells a N) (bp cells a N).a (?k9+?m9+1) i)⟩,lo⟩,tx f5 (gD fD fD) (Gz oC oC bw bw)⟩,pT⟩,vw (gD fD h1) bw⟩,vx (gD fD h1)⟩,Bn (Bs fD f5)⟩,vy (gD fD h1)⟩,vy (gD fD h1)⟩
  have ai:=nH (l:=dL++[(98,dd)]) (z:=fU ⟨2,?k9,?m9,0,0,2⟩ (5+?m9) (bp cells a N)) (T.1 (bp cells a N) (aZ on) aX) log rfl rfl;have ak:((N p).an++on).length<=2*(5+?m9)+2:=by refine ab List.length_append ?_;exact Br ed f5 S.ok.1
  refine fW (_,_) ai trivial (.inr ⟨rfl,cells,aX,gC N (5+?m9) ⟨on,(N p).an++on,(N p).an++on,p⟩,bz (fU _ _) (Go ?_),Gy S aU rfl f5 ak bw (λq=>b3 (q.symm.trans e6)) (λx9=>rfl) (λx9=>⟨rfl,bw,ak⟩),aW⟩);refine ab rf ?_;delta Fp lg;rw[k7,mB,pP,rc,e6]
 ·have log:Fv ?k9 ?m9 i (qU ?k9 i) (bp cells a N) (aZ on) aX:=by unfold Fv;refine ab rf (ab mB (ab k7 ?_));exact⟨⟨⟨⟨⟨trivial,(⟨aW,vB⟩:ky (bp cells a N) (bp cells a N).a (?k9+?m9+1) i)⟩,lo⟩,tx f5 (gD fD fD) (GA oC bw _)⟩,pT⟩,x8 (gD fD h1) bw⟩
  refine cS (vv (z:=fU ⟨2,?k9,?m9,0,0,2⟩ (5+?m9) (bp cells a N)) (T.2 (bp cells a N) (aZ on) aX) log) ?_;intro lv1 aO ai ak;exact fW ((_,lv1),aO) ai ak (.inl rfl)
 rfl
theorem acw:nJ 4 (λk=>nJ 3 λm=>nJ 3 λn=>!gB (7+n)&&nJ (k+n+1) λi=>Bp ⟨3,k,m,n,0,2⟩ ⟨3,k,m,n+1,0,2⟩ (7+n) (ow k i))=true:=by kernel_rfl
theorem acx(ag:k<=3)(aJ:m<=2)(aq:n<=2){z:St}(h:At ⟨3,k,m,n,0,2⟩ (7+n) z):GB 3 (Bw e8 n) z e8 ⟨3,k,m,n+1,0,2⟩ (8+n):=by
 revert ag aJ aq z h;revert k m n;refine@(v4 ne ne ne ?k9 ?m9 ?n9 ?_ ?_)
 rotate_left 3
 intro ag aJ aq z h;refine eB h ?_;try clear h;rintro cells a N rfl aU aW;have aj:=q0 cells a (?k9+?n9+1) (Nat.succ_pos _);have nK:=pR (pR (pR acw ?k9 (f6 ag)) ?m9 (f6 aJ)) ?n9 (f6 aq);generalize vB:fh cells a (?k9+?n9+1)=i at aj;refine cq nK λe6 nK=>?_;have S:=Gx (pR nK i aj);refine cS (Gu cells (a+1)) ?_;intro on aX as f5;have T:=acq ?k9 (f6 ag) ?m9 (f6 aJ) ?n9 (f6 aq) i aj;generalize rf:ow ?k9 i=p at S;refine bC (Nk aU S.par) ?_;intro ed oC;refine bC (Nl aU rfl S.par) ?_;intro al ad;have fD:=Bt ed S.ok.1 S.s9;have rg:=Bt al S.ok.1 S.s9;have h1:=ct f5 (show 2<=20 by decide);have mB:((bp cells a N).slot p).al=aZ (N p).an:=rfl;have lp:ky (bp cells a N) (bp cells a N).a (?k9+?n9+1) i:=⟨aW,vB⟩;have lo:ov (bp cells a N) ((bp cells a N).a+1) (aZ on) aX:=⟨aW,as⟩;have pT:(aZ on).length<=2:=by rw[oB];exact f5
 by_cases bw:((N p).sn++on).Nodup
 ·by_cases sp:((N p).an++on).Nodup
  ·have log:Fw ?k9 ?n9 i (ow ?k9 i) (bp cells a N) (aZ on) aX:=by unfold Fw;refine ab rf (ab mB (ab ((tC (Bu aU S.par):g3 (bp cells a N) p=cf (aZ (N p).an))) (ab (pQ aU.t0) (ab (tB aU.t0) ?_))));exact⟨⟨⟨⟨⟨⟨⟨⟨⟨⟨⟨⟨trivial,lp⟩,lo⟩,tx f5 (gD fD rg) (Gz oC ad bw sp)⟩,pT⟩,vw (gD fD h1) bw⟩,vx (gD fD h1)⟩,Bo f5⟩,vw (gD rg h1) sp⟩,vx (gD rg h1)⟩,Bn (Bs fD f5),Bn (Bs rg f5)⟩,vy (gD rg h1)⟩,vy (gD fD h1)⟩
   have ai:=nH (l:=dL++[(98,e8)]) (z:=fU ⟨3,?k9,?m9,?n9,0,2⟩ (7+?n9) (bp cells a N)) (T.1 (bp cells a N) (aZ on) aX) log rfl rfl;refine⟨(_,_),ai,trivial, .inr ⟨rfl,cells,aX,gC N (7+?n9) ⟨on,(N p).sn++on,(N p).an++on,p⟩,bz (fU _ _) (Go ?_),Gy S aU rfl f5 (by refine ab List.length_append ?_;exact Br ed f5 S.ok.1) bw (λx9=>rfl) (λq=>b3 ((hV e6).symm.trans q)) (λx9=>⟨rfl,sp,by refine ab List.length_append ?_;exact Br al f5 S.ok.1⟩),aW⟩⟩;refine ab rf ?_;delta Fq lg;rw[(tC (Bu aU S.par):g3 (bp cells a N) p=cf (aZ (N p).an)),mB,pQ aU.t0,tB aU.t0,pP,pP,rc,rc,hV e6]
  ·have log:Fy ?k9 ?n9 i (ow ?k9 i) (bp cells a N) (aZ on) aX:=by unfold Fy;refine ab rf (ab mB (ab ((tC (Bu aU S.par):g3 (bp cells a N) p=cf (aZ (N p).an))) (ab (pQ aU.t0) (ab (tB aU.t0) ?_))));exact⟨⟨⟨⟨⟨⟨⟨⟨trivial,lp⟩,lo⟩,tx f5 (gD fD rg) (acj ad sp _)⟩,pT⟩,vw (gD fD h1) bw⟩,vx (gD fD h1)⟩,Bo f5⟩,x8 (gD rg h1) sp⟩
   refine cS (vv (z:=fU ⟨3,?k9,?m9,?n9,0,2⟩ (7+?n9) (bp cells a N)) (T.2.2 (bp cells a N) (aZ on) aX) log) ?_;intro lv1 aO ai ak;exact fW ((_,lv1),aO) ai ak (.inl rfl)
 ·have log:Fx ?k9 ?n9 i (ow ?k9 i) (bp cells a N) (aZ on) aX:=by unfold Fx;refine ab rf (ab mB (ab (pQ aU.t0) (ab (tB aU.t0) ?_)));exact⟨⟨⟨⟨⟨trivial,lp⟩,lo⟩,tx f5 (gD fD rg) (GA oC bw _)⟩,pT⟩,x8 (gD fD h1) bw⟩
  refine cS (vv (z:=fU ⟨3,?k9,?m9,?n9,0,2⟩ (7+?n9) (bp cells a N)) (T.2.1 (bp cells a N) (aZ on) aX) log) ?_;intro lv1 aO ai ak;exact fW ((_,lv1),aO) ai ak (.inl rfl)
 rfl
theorem F6:∀k,k<4->th k=ti k:=re ab9 aca acb acd
theorem acy:∀k,k<4->∀f,f<6->∀c,c<3->XX k f c:=λk ag f hf c aB=>u6 (j7 (j7 (F6 k ag) f hf) c aB)
theorem acz:∀k,k<4->XW k:=λk ag=>Ar (j7 aaX k ag)
theorem acA:∀k,k<4->xI k=xJ k:=re aaY aaZ aa0 aa1
theorem acB:∀k,k<4->∀m,m<3->XY k m:=λk ag m aJ=>u6 (j7 (acA k ag) m aJ)
theorem Bx(h:lb bR=lc bR):LO bR/\∀j,j<bR.length->LP bR j:=
 have e:=fi (h:(_,_)=(_,_))
 ⟨Ar e.1,λj cF=>Ar (j7 e.2 j cF)⟩
theorem acC:∀p,p<1->lb [p]=lc [p]:=Bv aaO
theorem acD:∀p,p<1->∀q,q<2->lb [p,q]=lc [p,q]:=Bv (tD aaP aaQ)
theorem acE:∀p,p<1->∀q,q<2->∀r,r<3->lb [p,q,r]=lc [p,q,r]:=Bv (tD (f4 aaR aaS aaT) (f4 aaU aaV aaW))
theorem jD.le(h:jD F i C z r cK)(l:f2 cK hY):jD F i C z r hY:=by refine pV h ?_;try clear h;intro o lv1 aO ae af ax a0;exact tL o lv1 aO ae af ax (a0.trans l)
class inductive h2:List (Nat×O)->List (Nat×O)->Prop
 |nil:h2 [] []
 |cons {i:Nat} {o bS:O} {l i6:List (Nat×O)}:lN o bS->h2 l i6->h2 ((i,o)::l) ((i,bS)::i6)
theorem h2.refl:∀l,h2 l l:=by
 intro br
 induction br with
 |nil=>exact .nil
 |cons cm r ih=>obtain⟨_,o⟩:=cm;exact .cons (.refl o) ih
theorem h2.app(x:h2 a aX)(h:h2 b cV):h2 (a++b) (aX++cV):=by
 induction x with
 |nil=>exact h
 |cons x be ih=>exact .cons x ih
theorem h2.look(x:h2 a aX)(id:Nat)(bS:O)(h:gN id (aX.map λe=>(e.1,some e.2))=some bS):∃o,gN id (a.map λe=>(e.1,some e.2))=some o/\lN o bS:=by
 induction x with
 |nil=>exact iW h
 | @cons i o be cm i5 x r ih=>
  rw[List.map_cons,xy]at h⊢
  cases q:Nat.beq i id with
  |true=>rw[q]at h;exact bq o rfl (a8 h▸x)
  |false=>rw[q]at h;exact ih h
theorem acF(h:(D.slot 0).al.length<=2):f2 (fU ⟨1,k,0,0,0,ai⟩ s D) (fU ⟨1,k,0,0,0,2⟩ s D):=by
 refine⟨λid bS e=>?_,λx9 x9=>b8 _⟩
 have dt:h2 (fB ⟨1,k,0,0,0,ai⟩ D) (fB ⟨1,k,0,0,0,2⟩ D):=by refine h2.app (h2.app (h2.app (h2.app (h2.refl _) ?_) (h2.refl _)) (h2.refl _)) (h2.refl _);refine .cons (.refl _) (.cons (.refl _) (.cons (.refl _) (.cons (.refl _) (.cons (.refl _) (.cons ?_ (h2.refl _))))));exact .ba (.inl (b8 _)) (.cons (.refl _) (.cons (.refl _) (.cons (.refl _) (.cons (.refl _) (.cons (.aD (.inr h)) .nil)))))
 exact dt.look id bS e
theorem acG:∀f c,f<6->c<3->∃ar:List (List Nat),FC f c=aZ ar/\ar.Nodup/\ar.length<=2:=λf c hf aB=>by
 match c,aB with
 |0,_=>exact fW ([]) rfl List.nodup_nil (by simp)
 |1,_=>exact fW ([[97+(f+0)%6]]) rfl (by simp) (by simp)
 |2,_=>refine⟨[[97+(f+0)%6],[97+(f+1)%6]],rfl,?_,by exact b8 _⟩;simp;lia
 |n+3,h=>exact bf h (by lia)
theorem By{D D':Dat}(ae:D.cells=D'.cells)(af:D.a=D'.a)(ax:∀i,D.slot i=D'.slot i):D=D':=by cases D;cases D';have:=funext ax;dsimp only at ae af this;exact ab ae (ab af (ab this rfl))
theorem acH:({(bp cells a N).dV (aZ ar)with a:=aX}:Dat)=bp cells aX (gC N 0 {N 0 with an:=ar}):=by refine By rfl rfl λi=>?_;cases i<;>rfl
theorem acI(ag:k<=3)(h:At ⟨0,k,0,0,0,2⟩ (k+1) z):∃x:(cg×aK)×St,jD (en 20) 1 (dC dd) z x.1 x.2/\x.2.log/\x.1=(.next,dC dd)/\At ⟨1,k,0,0,0,2⟩ 4 x.2:=by
 refine eB h ?_;try clear h;rintro cells a N rfl aU aW;have hf:=q0 cells a 6 (by lia);have aB:=q0 cells (a+1) 3 (by lia);generalize r4:fh cells a 6=f at hf;generalize gu:fh cells (a+1) 3=c at aB;refine fV (acG f c hf aB) ?_;intro ar ae af ax;have ai:=nH (l:=dL++[(98,dd)]) (z:=fU ⟨0,k,0,0,0,2⟩ (k+1) (bp cells a N)) (acy k (f6 ag) f hf c aB (bp cells a N)) (⟨⟨trivial,aW,r4⟩,aW,gu⟩:(True/\ky (bp cells a N) (bp cells a N).a 6 f)/\ky (bp cells a N) ((bp cells a N).a+1) 3 c) rfl rfl;rw[ae]at ai;have e:({(bp cells a N).dV (aZ ar)with a:=(bp cells a N).a+2}:Dat)=bp cells (a+2) (gC N 0 {N 0 with an:=ar}):=acH;rw[e]at ai;refine⟨(_,_),ai.le (acF ?_),trivial,rfl,cells,a+2,gC N 0 {N 0 with an:=ar},rfl,?_,aW⟩
 ·show(aZ (gC N 0 {N 0 with an:=ar} 0).an).length<=2
  rw[vA,oB];exact ax
 ·have n0:(gC N 0 {N 0 with an:=ar} 0)={N 0 with an:=ar}:=vA
  have acJ:∀t,(gC N 0 {N 0 with an:=ar} t).sn=(N t).sn:=λt=>by
   by_cases q:t=0
   ·subst q;exact ab n0 rfl
   ·refine bz _ (mR q)
  refine⟨by refine ab n0 ?_;exact aU.t0,by refine ab n0 ?_;exact af,by refine ab n0 ?_;exact ax,λs eP=>?_⟩;have S:=aU.slot s eP;have kF:=mR (N:=N) (x:={N 0 with an:=ar}) ((by have:=hE.mp eP;dsimp only at this;lia):s≠0);refine⟨by refine ab kF ?_;exact S.on,by refine ab kF ?_;exact S.rd,by refine ab kF ?_;exact S.snd,by refine ab kF ?_;exact S.par,by rw[kF,acJ];exact S.seen,by refine ab kF ?_;exact S.vz,λq=>by cases q⟩
def oD(k:Nat)(r:Bool)(z:St):Prop:=∃cells a N,z=fU ⟨1,k,0,0,0,2⟩ 4 (bp cells a N)/\Inv ⟨1,k,0,0,0,2⟩ N/\oo cells/\(r=true↔∀s,1<=s->s<=k->∀x∈(N s).on,x∉(N 0).an)
theorem acK(ag:k<=3)(h:At ⟨1,k,0,0,0,2⟩ 4 z):∃r,∃x:(cg×aK)×St,jD (en 20) 7 (dC dd) z x.1 x.2/\x.2.log/\x.1=(.next,dq (qW dd r))/\oD k r x.2:=by
 refine eB h ?_;try clear h;rintro cells a N rfl aU aW;obtain⟨fS,GC⟩:∃fS,fS=(upTo k).map (λi=>(N (i+1)).on):=⟨_,rfl⟩;generalize aw:decide (∀ns∈fS,∀s∈ns,s∉(N 0).an)=r
 have log:True/\LR (bp cells a N) k r:=by
  refine⟨trivial,fS,(N 0).an,?_,λns cp=>?_,rfl,aw⟩
  ·unfold LQ;refine ab GC (ab List.map_map ?_);rfl
  ·replace cp:=GC▸cp;refine a4 (List.mem_map.mp cp) ?_;intro i kk cy;rw[<-cy];have:=(aU.slot (i+1) (hE.mpr (.inl ⟨by lia,by have:=(mem_upTo k i).mp kk;refine(?_:i+1<=k);assumption⟩))).on;lia
 refine⟨r,(_,_),(nH (l:=qW dd r) (z:=fU ⟨1,k,0,0,0,2⟩ 4 (bp cells a N)) (acz k (f6 ag) (bp cells a N) r) log rfl rfl),trivial,rfl,cells,a,N,rfl,aU,aW,?_⟩;rw[<-aw,decide_eq_true_iff,GC]
 constructor
 ·intro q s ae af x aQ;exact q (N s).on (List.mem_map.mpr ⟨s-1,(mem_upTo k _).mpr (by lia),by exact ab (show s-1+1=s by lia) rfl⟩) x aQ
 ·intro q ns cp x aQ;refine a4 (List.mem_map.mp cp) ?_;rintro i kk rfl;exact q (i+1) (by lia) (by have:=(mem_upTo k i).mp kk;assumption) x aQ
noncomputable def h3(N:Nat->jK):Nat->Nat->List Nat
 |0,_=>[]
 |r+1,s=>(N s).p::h3 N r (s+1)
theorem acL{N:Nat->jK}{s:Nat}:h3 N 0 s=[]:=rfl
theorem rh{N:Nat->jK}{r s:Nat}:h3 N (r+1) s=(N s).p::h3 N r (s+1):=rfl
def dM(N:Nat->jK):Nat->Nat->jK
 |0=>N
 |j+1=>gC (dM N j) (j+1) {N (j+1)with an:=(dM N j (N (j+1)).p).an++(N (j+1)).on}
theorem Bz:∀{j t:Nat},j<t->dM N j t=N t
 |0,_,_=>rfl
 |j+1,t,h=>by
  dsimp only[dM];refine c0 (mR (by lia)) ?_;exact Bz (by lia)
theorem Nm:∀{j:Nat},dM N j 0=N 0:=by
 intro br
 induction br with
 |zero=>exact rfl
 |succ j ih=>dsimp only[dM];exact ih
theorem BA:∀{j t:Nat},(dM N j t).on=(N t).on/\(dM N j t).sn=(N t).sn/\(dM N j t).p=(N t).p
 |0,_=>(fs rfl rfl rfl)
 |j+1,t=>by
  dsimp only[dM]
  by_cases h:t=j+1
  ·subst h;refine ab vA ?_;exact⟨rfl,rfl,rfl⟩
  ·refine ab (mR h) ?_;exact BA
theorem l2(h:p<=3):gB p=false:=acs (by lia)
section
variable{cells:List V}{a k:Nat}{N:Nat->jK}
theorem yc(aU:Inv ⟨1,k,0,0,0,2⟩ N)(ag:k<=3):∀{j t:Nat},j<=k->t<=j->(dM N j t).an=(N 0).an++(N t).sn:=by
 intro br
 induction br with
 |zero=>
  intro t x9 h;obtain rfl:t=0:=by lia
  refine(?_:(N 0).an=_);rw[aU.t0,List.append_nil]
 |succ j ih=>
  intro t cF h;dsimp only[dM]
  by_cases e:t=j+1
  ·subst e;refine ab vA ?_;have S:=aU.slot (j+1) (hE.mpr (.inl ⟨by lia,cF⟩));dsimp only;rw[ih (by lia) (by have:=S.par.1;lia),S.seen (l2 (by lia)),List.append_assoc]
  ·refine ab (mR e) ?_;exact ih (by lia) (by lia)
theorem acM(h:s<=3):(bp cells a N).par s (N s).p=bp cells a N:=by
 refine By rfl rfl λi=>?_
 show(match Nat.beq i s with|true=>({lg s (N s)with q:=pF (N s).p,pn:=lQ (N s).p}:Slot)|false=>lg i (N i))=lg i (N i)
 cases e:Nat.beq i s with
 |false=>rfl
 |true=>have:=cj e;subst this;dsimp only[lg];exact ab (l2 h) rfl
theorem acN:∀(r s:Nat),s+r<=4->lT (bp cells a N) s (h3 N r s)=bp cells a N:=by
 intro br
 induction br with
 |zero=>exactλx9 x9=>rfl
 |succ r ih=>intro s h;dsimp only[rh,lT];refine ab (acM (by lia)) ?_;exact ih (s+1) (by lia)
theorem acO:(bp cells a N).dV (aZ (N 0).an)=bp cells a N:=by refine By rfl rfl λi=>?_;cases i<;>rfl
theorem GD(cF:j+1<=3)(aj:(N (j+1)).p<=3):(bp cells a (dM N j)).Az (j+1) (N (j+1)).p=bp cells a (dM N (j+1)):=by
 have k7:g3 (bp cells a (dM N j)) (N (j+1)).p=cf (aZ (dM N j (N (j+1)).p).an):=tC λq=>by replace q:=(l2 aj).symm.trans q;exact b3 q
 have bw:dM N j (j+1)=N (j+1):=Bz (by lia);refine By rfl rfl λi=>?_
 show(match Nat.beq i (j+1)with|true=>({lg (j+1) (dM N j (j+1))with al:=aZ (dM N j (N (j+1)).p).an++aZ (dM N j (j+1)).on,cb:=g3 (bp cells a (dM N j)) (N (j+1)).p++cf (aZ (dM N j (j+1)).on),qb:=jk (N (j+1)).p}:Slot)|false=>lg i (dM N j i))=lg i (dM N (j+1) i)
 cases e:Nat.beq i (j+1)with
 |false=>exact ab (show dM N (j+1) i=dM N j i from mR (kc e)) rfl
 |true=>
  have:=cj e;subst this;refine ab k7 (ab bw ?_);refine ab (show dM N (j+1) (j+1)={N (j+1)with an:=(dM N j (N (j+1)).p).an++(N (j+1)).on}from vA) ?_;dsimp only[lg];rw[pP,rc]
theorem Nn(aj:∀s,1<=s->s<=k->(N s).p<=3)(ag:k<=3):∀(r j:Nat),j+r<=k->qV (bp cells a (dM N j)) (j+1) (h3 N r (j+1))=bp cells a (dM N (j+r)):=by
 intro br
 induction br with
 |zero=>exactλx9 x9=>rfl
 |succ r ih=>intro j h;dsimp only[rh,qV];exact ab (GD (by lia) (aj (j+1) (by lia) (by lia))) (ab (ih (j+1) (by lia)) (ab (show j+1+r=j+(r+1) by lia) rfl))
noncomputable def yd(N:Nat->jK)(s:Nat):Prop:=((N 0).an++(N s).sn).Nodup
theorem GF(aU:Inv ⟨1,k,0,0,0,2⟩ N)(ag:k<=3)(h:p<=k):(N p).sn.length<=8:=by
 rcases Nat.eq_zero_or_pos p with rfl|q
 ·refine ab aU.t0 ?_;simp
 ·have:=(aU.slot p (hE.mpr (.inl ⟨q,h⟩))).rd;lia
theorem No(aU:Inv ⟨1,k,0,0,0,2⟩ N)(ag:k<=3):∀(r j:Nat)(L:Prop),L->j+r<=k->(∀s,j<s->s<=j+r->yd N s)->vb (bp cells a (dM N j)) L (j+1) (h3 N r (j+1)):=by
 intro br
 induction br with
 |zero=>exactλx9 L bl x9 x9=>bl
 |succ r ih=>
  intro j L bl h bw;have S:=aU.slot (j+1) (hE.mpr (.inl ⟨by lia,by refine(?_:j+1<=k);lia⟩));have ye:(N (j+1)).p<=j:=by have:=S.par.1;lia
  have yf:(N (j+1)).p<=3:=by lia
  have zA:=bw (j+1) (by lia) (by lia);have hz:dM N j 0=N 0:=Nm;have yg:=S.seen (l2 (by lia));have ak:=GF aU ag (p:=(N (j+1)).p) (by lia);have ws:=aU.nI;have BB:=S.on;have Np:dM N j (j+1)=N (j+1):=Bz (by lia)
  have k7:g3 (bp cells a (dM N j)) (N (j+1)).p=cf (aZ ((N 0).an++(N (N (j+1)).p).sn)):=by rw[tC λq=>by replace q:=(l2 yf).symm.trans q;cases q];exact ab (yc aU ag (by lia) ye) rfl
  have El:hW (bp cells a (dM N j)) (N (j+1)).p=cf (aZ (N (N (j+1)).p).sn):=by exact ab (pQ (by rw[hz];exact aU.t0)) (ab BA.2.1 rfl)
  have acP:((bp cells a (dM N j)).slot (j+1)).co=cf (aZ (N (N (j+1)).p).sn)++cf (aZ (N (j+1)).on):=by refine(?_:cf (aZ (dM N j (j+1)).sn)=_);rw[Np,yg,pP,rc]
  have GG:((bp cells a (dM N j)).slot (j+1)).jF=aZ (N (j+1)).on:=by refine(?_:aZ (dM N j (j+1)).on=_);exact ab Np rfl
  dsimp only[rh,vb];refine ab (GD (by lia) yf) ?_;refine ih (j+1) _ ⟨⟨⟨bl,?_⟩,?_⟩,?_⟩ (by lia) (λs ae af=>bw s (by lia) (by lia))
  ·refine ab El (ab acP (ab GG ?_));exact Bo BB
  ·refine ab k7 (ab GG ?_);refine vw (by simp;lia) ?_;rw[List.append_assoc,<-yg];exact zA
  ·refine ab k7 (ab GG ?_);exact vx (by simp;lia)
theorem acQ(aU:Inv ⟨1,k,0,0,0,2⟩ N)(ag:k<=3):∀(r j:Nat)(L:Prop),L->j+r<=k->xE (bp cells a (dM N j)) L (j+1) (h3 N r (j+1)):=by
 intro br
 induction br with
 |zero=>exactλx9 L bl x9=>bl
 |succ r ih=>
  intro j L bl h;have S:=aU.slot (j+1) (hE.mpr (.inl ⟨by lia,by refine(?_:j+1<=k);lia⟩));have ye:(N (j+1)).p<=j:=by have:=S.par.1;lia
  have ak:=GF aU ag (p:=(N (j+1)).p) (by lia);have ws:=aU.nI;have BB:=S.on;dsimp only[rh,xE];refine ab (GD (by lia) (by lia)) ?_;refine ih (j+1) _ ⟨bl,?_⟩ (by lia);refine(?_:jH (aZ (dM N j (N (j+1)).p).an) (aZ (dM N j (j+1)).on));refine ab (yc aU ag (by lia) ye) (ab (Bz (show j<j+1 by lia)) ?_);exact vy (by simp;lia)
theorem Nq(aU:Inv ⟨1,k,0,0,0,2⟩ N):AK (aZ (N 0).an):=by have:=aU.nI;exact⟨⟨⟨trivial,by rw[oB];exact this⟩,(N 0).an,Gr (by lia),this⟩,(N 0).an,Gr (by lia),by lia⟩
end
section
variable{cells:List V}{a k:Nat}{N:Nat->jK}
theorem acR(aU:Inv ⟨1,k,0,0,0,2⟩ N)(ag:k<=3):∀(f s:Nat),s<f->s<=k->∀x∈(N s).sn,∃t,1<=t/\t<=k/\x∈(N t).on:=by
 intro br
 induction br with
 |zero=>exactλs h x9 x aQ=>bf h (by lia)
 |succ f ih=>
  intro s h ar x aQ
  rcases Nat.eq_zero_or_pos s with rfl|q
  ·replace aQ:=aU.t0▸aQ;exact nomatch aQ
  ·have S:=aU.slot s (hE.mpr (.inl ⟨q,ar⟩));rw[S.seen (l2 (by lia))]at aQ
   rcases List.mem_append.mp aQ with w|w
   ·exact ih (N s).p (by have:=S.par.1;lia) (by have:=S.par.1;lia) x w
   ·exact fW s q ar w
theorem Nr{P:Nat->Prop}:∀k,(∃s,1<=s/\s<=k/\¬P s)->∃j,j<k/\¬P (j+1)/\∀s,1<=s->s<=j->P s
 |0,⟨s,ae,af,_⟩=>bf ae (by lia)
 |k+1,h=>by
  by_cases q:∃s,1<=s/\s<=k/\¬P s
  ·refine fV (Nr k q) ?_;intro j ae af ax;exact fW j (by lia) af ax
  ·have i8:∀s,1<=s->s<=k->P s:=λs ae af=>kd λw=>q (fW s ae af w);refine fV h ?_;try clear h;intro s ae af ax
   have:s=k+1:=by refine Nat.le_antisymm af (Nat.lt_of_not_le λw=>ax (i8 s ae w))
   clear af ae;subst this;exact fW k (by lia) ax i8
theorem acS:∀(r s:Nat),(h3 N r s).length=r:=by
 intro br
 induction br with
 |zero=>exactλx9=>rfl
 |succ r ih=>intro s;simp only[rh];exact ab List.length_cons (ab (ih (s+1)) rfl)
theorem Nt:∀(r s j:Nat),j<=r->(h3 N r s).take j=h3 N j s
 |_,_,0,_=>by simp[acL]
 |r+1,s,j+1,h=>by
  simp only[rh,List.take_succ_cons];refine bz _ (Nt r (s+1) j (by lia))
theorem Nu:∀(r s j:Nat),j<r->((h3 N r s)[j]?).getD 0=(N (s+j)).p
 |r+1,s,0,_=>by simp[rh]
 |r+1,s,j+1,h=>by
  simp only[rh,List.getElem?_cons_succ];exact ab (Nu r (s+1) j (by lia)) (ab (show s+1+j=s+(j+1) by lia) rfl)
theorem acT(ag:k<=3)(aj:∀s,1<=s->s<=k->(N s).p<s):LO (h3 N k 1)/\∀j,j<k->LP (h3 N k 1) j:=by
 match k,ag with
 |0,_=>exact Bx aaN
 |1,_=>exact Bx (acC (N 1).p (aj 1 (by lia) (by lia)))
 |2,_=>exact Bx (acD (N 1).p (aj 1 (by lia) (by lia)) (N 2).p (aj 2 (by lia) (by lia)))
 |3,_=>exact Bx (acE (N 1).p (aj 1 (by lia) (by lia)) (N 2).p (aj 2 (by lia) (by lia)) (N 3).p (aj 3 (by lia) (by lia)))
 |_+4,h=>exact bf h (by lia)
theorem acU(aU:Inv ⟨1,k,0,0,0,2⟩ N)(ag:k<=3)(bw:∀s,1<=s->s<=k->yd N s):Inv ⟨2,k,0,0,0,2⟩ (dM N k):=by
 have h0:dM N k 0=N 0:=Nm;refine⟨by refine ab h0 ?_;exact aU.t0,by refine ab h0 ?_;exact aU.tA,by refine ab h0 ?_;exact aU.nI,λs ar=>?_⟩;have eP:=hE.mp ar;dsimp only at eP;have yh:1<=s/\s<=k:=by lia
 have S:=aU.slot s (hE.mpr (.inl yh));refine eU (BA (N:=N) (j:=k) (t:=s)) ?_;intro dR eM gg;refine eU S.par ?_;intro p1 p2 fY;refine⟨by refine ab dR ?_;exact S.on,by refine ab eM ?_;exact S.rd,by refine ab eM ?_;exact S.snd,by refine ab gg ?_;exact fs p1 p2 fY,λx9=>?_,λq=>?_,λx9=>?_⟩
 ·refine ab dR (ab eM (ab gg (ab BA.2.1 ?_)));exact S.seen (l2 (by lia))
 ·replace q:=(l2 (by lia)).symm.trans q;exact b3 q
 ·refine ab gg (ab dR (ab (yc aU ag (b8 k) yh.2) (ab (yc aU ag (b8 k) (by lia)) ?_)));refine⟨?_,bw s yh.1 yh.2,?_⟩
  ·rw[S.seen (l2 (by lia)),List.append_assoc]
  ·have ak:=aU.nI;refine ab List.length_append ?_
   have acV:∀(f t:Nat),t<f->t<=k->(N t).sn.length<=2*t:=by
    intro f
    induction f with
    |zero=>intro t h;exact bf h (by lia)
    |succ f ih=>
     intro t h bH
     rcases Nat.eq_zero_or_pos t with rfl|q
     ·refine ab aU.t0 ?_;simp
     ·have S:=aU.slot t (hE.mpr (.inl ⟨q,bH⟩));refine ab (S.seen (l2 (by lia))) (ab List.length_append ?_);have ae:=S.par.1;have af:=ih (N t).p (by lia) (by lia);have ax:=S.on;lia
   have:=acV (s+1) s (by lia) yh.2;lia
end
theorem acW(ag:k<=3)(h:oD k r z):∃x:(cg×aK)×St,jD (en 20) 8 (dq (qW dd r)) z x.1 x.2/\x.2.log/\(x.1.1= .ret (.bool true)\/(x.1=(.next,dC dd)/\At ⟨2,k,0,0,0,2⟩ 5 x.2)):=by
 refine pV h ?_;try clear h;rintro cells a N rfl aU aW aw;have aj:∀s,1<=s->s<=k->(N s).p<s:=λs ae af=>(aU.slot s (hE.mpr (.inl ⟨ae,af⟩))).par.1;have yf:∀s,1<=s->s<=k->(N s).p<=3:=λs ae af=>by have:=aj s ae af;lia
 refine bC (acT (N:=N) ag aj) ?_;intro T X;have GH:(bp cells a N).dV (aZ (N 0).an)=bp cells a N:=acO;have GI:lT (bp cells a N) 1 (h3 N k 1)=bp cells a N:=acN k 1 (by lia);have Nv:(h3 N k 1).length=k:=acS k 1
 by_cases bw:∀s,1<=s->s<=k->yd N s
 ·have acX:r=true:=aw.mpr λs ae af x aQ aJ=>by
   have S:=aU.slot s (hE.mpr (.inl ⟨ae,af⟩));have g:=bw s ae af;unfold yd at g;have xh:x∈(N s).sn:=by refine ab (S.seen (l2 (by lia))) ?_;exact List.mem_append_right _ aQ
   exact((tz aU.tA).mp g).2 x xh aJ
  subst acX
  have GJ:qV (bp cells a N) 1 (h3 N k 1)=bp cells a (dM N k):=by have:=Nn (cells:=cells) (a:=a) yf ag k 0 (by lia);rw[Nat.zero_add k]at this;exact this
  have t:=T (bp cells a N) (aZ (N 0).an);dsimp only[xF]at t;rw[GH,GI,Nv,GJ]at t
  have log:xE (bp cells a N) (vb (bp cells a N) (AK (aZ (N 0).an)) 1 (h3 N k 1)) 1 (h3 N k 1):=
   acQ (cells:=cells) (a:=a) aU ag k 0 _ (No (cells:=cells) (a:=a) aU ag k 0 _ (Nq aU) (by lia) λs ae af=>bw s (by lia) (by lia)) (by lia)
  have ai:=nH (l:=dL++[(98,dd)]) (z:=fU ⟨1,k,0,0,0,2⟩ 4 (bp cells a N)) t log rfl rfl;exact⟨(_,_),ai,trivial, .inr ⟨rfl,cells,a,dM N k,rfl,acU aU ag bw,aW⟩⟩
 ·obtain⟨j,cF,Nw,acY⟩:=Nr (P:=yd N) k (by
   refine kd λq=>bw λs ae af=>kd λw=>q ⟨s,ae,af,w⟩)
  have acZ:r=false:=by
   cases r with
   |false=>rfl
   |true=>have i8:=aw.mp rfl;have S:=aU.slot (j+1) (hE.mpr (.inl ⟨by lia,by refine(?_:j+1<=k);assumption⟩));refine bf ?_ Nw;refine(tz aU.tA).mpr ⟨S.snd,λx aQ aJ=>?_⟩;refine fV (acR aU ag (j+2) (j+1) (by lia) (by assumption) x aQ) ?_;intro t t1 t2 t3;exact i8 t t1 t2 x t3 aJ
  subst acZ;have S:=aU.slot (j+1) (hE.mpr (.inl ⟨by lia,by refine(?_:j+1<=k);assumption⟩));have ye:(N (j+1)).p<=j:=by have:=S.par.1;exact Nat.le_of_lt_succ (by assumption)
  have yg:=S.seen (l2 (by exact hF (by assumption) (by assumption)));have t:=X j cF (bp cells a N) (aZ (N 0).an);dsimp only[xG]at t;rw[GH,GI,Nv]at t
  have GJ:qV (bp cells a N) 1 (h3 N j 1)=bp cells a (dM N j):=by have:=Nn (cells:=cells) (a:=a) yf ag j 0 (by lia);rw[Nat.zero_add j]at this;exact this
  have ak:=GF aU ag (p:=(N (j+1)).p) (by lia);have ws:=aU.nI;have BB:=S.on
  have log:FA (bp cells a N) (aZ (N 0).an) (h3 N k 1) j:=by
   unfold FA;refine ab GH (ab GI (ab (Nt k 1 j (by lia)) (ab (Nu k 1 j cF) (ab GJ (ab (show 1+j=j+1 by lia) ?_)))));refine⟨⟨No (cells:=cells) (a:=a) aU ag j 0 _ (Nq aU) (by lia) λs ae af=>acY s (by lia) (by lia),?_⟩,?_⟩
   ·refine ab (pQ aU.t0) ?_;refine(?_:va _ (cf (aZ (N (j+1)).sn)) (cf (aZ (N (j+1)).on)));rw[yg,pP,rc];exact Bo BB
   ·rw[tC λq=>by replace q:=(l2 (by lia)).symm.trans q;cases q];refine ab (yc aU ag (by lia) ye) ?_;refine(?_:tf (_++cf (aZ (N (j+1)).on)));refine x8 (by simp;lia) ?_;rw[List.append_assoc,<-yg];exact Nw
  refine cS (vv (z:=fU ⟨1,k,0,0,0,2⟩ 4 (bp cells a N)) t log) ?_;intro lv1 aO ai ak;exact⟨((_,lv1),aO),ai,ak, .inl rfl⟩
theorem ac0(ag:k<=3)(aJ:m<=2)(h:At ⟨2,k,m,0,0,2⟩ (5+m) z):∃x:(cg×aK)×St,jD (en 20) 2 (dC e8) z x.1 x.2/\x.2.log/\x.1=(.next,dC e8)/\At ⟨3,k,m,0,0,2⟩ 7 x.2:=by refine eB h ?_;try clear h;rintro cells a N rfl aU aW;refine⟨(_,_),(nH (o:=[]) (l:=dL++[(98,e8)]) (z:=fU ⟨2,k,m,0,0,2⟩ (5+m) (bp cells a N)) (acB k (f6 ag) m (f6 aJ) (bp cells a N)) trivial rfl rfl),trivial,rfl,cells,a,N,rfl,⟨aU.t0,aU.tA,aU.nI,λs ar=>?_⟩,aW⟩;have S:=aU.slot s ar;exact⟨S.on,S.rd,S.snd,S.par,S.seen,S.vz,S.all⟩
theorem Nx{B:List (Nat×O)}{id:Nat}:∀(A:List (Nat×O)),(∀e∈A,e.1≠j)->gN id ((A++(j,x')::B).map λe=>(e.1,some e.2))=match Nat.beq id j with|true=>some x'|false=>gN id ((A++(j,x)::B).map λe=>(e.1,some e.2))
 |[],_=>by
  simp only[List.nil_append,List.map_cons,xy]
  cases e:Nat.beq j id with
  |true=>have:=cj e;subst this;rw[Nat.beq_refl]
  |false=>
   have:Nat.beq id j=false:=by
    cases q:Nat.beq id j with
    |false=>rfl
    |true=>have:=cj q;subst this;rw[Nat.beq_refl]at e;exact rk e
   exact ab this rfl
 |(y,u)::A,h=>by
  have ih:=Nx (id:=id) (x:=x) (x':=x') (B:=B) A λe aM=>h e (List.mem_cons_of_mem _ aM);simp only[List.cons_append,List.map_cons,xy]at ih⊢
  cases e:Nat.beq y id with
  |true=>
   have:=cj e;subst this
   have:Nat.beq y j=false:=by
    cases q:Nat.beq y j with
    |false=>rfl
    |true=>exact bf (cj q) (h (y,u) (List.mem_cons_self ..))
   exact ab this rfl
  |false=>exact ih
theorem ac1(h:∀id,z.heap id=match Nat.beq id 27648 with|true=>some (qN cells aX)|false=>(fU c s (bp cells a N)).heap id)(aq:∀k,z.nx k=j8 s k):f2 z (fU c s (bp cells aX N)):=by refine⟨λid bS e=>(bq bS ?_ (.refl _)),λk x9=>by refine ab (aq k) ?_;exact b8 _⟩;refine ab (h id) (bM e ?_);exact(Nx (j:=27648) (x:=qN cells a) (x':=qN cells aX) (id:=id) ((Fn c (bp cells aX N)).take 15) (by intro e aM;simp only[Fn,List.take,List.mem_cons,List.not_mem_nil,or_false]at aM;rcases aM with rfl|rfl|rfl|rfl|rfl|rfl|rfl|rfl|rfl|rfl|rfl|rfl|rfl|rfl|rfl<;>(unfold c5;dsimp only;decide))).symm
theorem ac2(ag:k≠0)(h:At c s z):∃r,r<k/\∃cK,E6 (en 20) 52 [bt 27 0,dW k] z (dW r) cK/\At c s cK:=by refine eB h ?_;try clear h;rintro cells a N rfl aU aW;refine⟨fh cells a k,q0 cells a k (Nat.pos_of_ne_zero ag),fU c s (bp cells (a+1) N),(tL ([dW (fh cells a k)]) (dW (fh cells a k)) ⟨λid=>match Nat.beq id 27648 with|true=>some (qN cells (a+1))|false=>(fU c s (bp cells a N)).heap id,j8 s,[],True/\oo cells/\fh cells a k=fh cells a k⟩ ?_ ⟨trivial,aW,rfl⟩ (.refl _) (ac1 (λx9=>rfl) λx9=>rfl)),cells,a+1,N,rfl,aU,aW⟩;obtain⟨k,rfl⟩:∃bF,k=bF+1:=⟨k-1,by lia⟩;rfl
theorem ac3(ak:vs.length<=63)(bA:∀v∈vs,∃i,v= .int i):∃x:(cg×aK)×St,jD (en 20) 0 (dq [(104, .aD 63 vs)]) St.empty x.1 x.2/\x.2.log/\x.1=(.next,dq dL)/\At ⟨0,0,0,0,0,2⟩ 1 x.2:=by refine⟨(_,_),(nH (l:=dL) (z:=St.empty) (o:=[]) (aaM vs (λs=>lg s ⟨[],[],[],0⟩)) trivial rfl rfl),trivial,rfl,vs.take 60,0,λx9=>⟨[],[],[],0⟩,rfl,⟨rfl,List.nodup_nil,by exact Nat.zero_le _,λs ar=>?_⟩,by refine ab List.length_take ?_;lia,λv h=>bA v (List.mem_of_mem_take h)⟩;have:=hE.mp ar;dsimp only at this;lia
noncomputable def BC(s:Nat):Nat:=match s with|0=>36896|_=>10240+4*s
noncomputable def idx(c:Cfg)(s:Nat):Nat:=match Nat.ble s 3 with
 |true=>s-1
 |false=>match Nat.ble s 6 with
  |true=>c.k+(s-5)
  |false=>c.k+c.m+(s-7)
def ac4(D:Dat)(s:Nat):V:=match s with
 |0=> .none
 |_=>match gB s with
  |true=> .ref (D.slot s).q
  |false=> .ref (D.slot s).qb
def Ny(c:Cfg)(s:Nat):O:=match s with
 |0=> .ba 0 []
 |_=>u7 c (idx c s) s
def ac5(c:Cfg)(s:Nat):V:=match s with
 |0=>dW 101
 |_=>dW (ot c s)
structure pU where
 a:Option V
 b:Option V
 c:Option O
 d:Option V
 e:Option V
def Nz(c:Cfg)(D:Dat)(s:Nat):pU:=⟨qO (gN (pF s) (iX la (heapOf c D))),qO (gN (jk s) (iX la (heapOf c D))),gN (BC s) (iX Am (heapOf c D)),numOf (gN (jk s) (iX la (heapOf c D))),mL (gN (jk s) (iX la (heapOf c D)))⟩
def NA(c:Cfg)(D:Dat)(s:Nat):pU:=⟨some (.ref (BC s)),some (.ref (BC s)),some (Ny c s),some (ac5 c s),some (ac4 D s)⟩
def BD(k m n:Nat)(D:Dat)(d:Nat):List pU×List pU:=((0::(⟨3,k,m,n,d,2⟩:Cfg).slots).map (Nz ⟨3,k,m,n,d,2⟩ D),(0::(⟨3,k,m,n,d,2⟩:Cfg).slots).map (NA ⟨3,k,m,n,d,2⟩ D))
abbrev ac6(k m n:Nat):Prop:=∀D d,(BD k m n D d).1=(BD k m n D d).2
def yi(k:Nat):=eZ (λm=>eZ (λn=>xB (BD k m n)) 4) 3
def yj(k:Nat):=eZ (λm=>eZ (λn=>xC (BD k m n)) 4) 3
theorem ac7:yi 0=yj 0:=by kernel_rfl
theorem ac8:yi 1=yj 1:=by kernel_rfl
theorem ac9:yi 2=yj 2:=by kernel_rfl
theorem ada:yi 3=yj 3:=by kernel_rfl
theorem adb:∀k,k<4->yi k=yj k:=re ac7 ac8 ac9 ada
theorem facts:∀k,k<4->∀m,m<3->∀n,n<4->ac6 k m n:=λk ag m aJ n aq=>Ar (j7 (j7 (adb k ag) m aJ) n aq)
theorem adc:∀k,k<4->∀m,m<3->lV k m=lW k m:=re (f4 abX abY abZ) (f4 ab0 ab1 ab2) (f4 ab3 ab4 ab5) (f4 ab6 ab7 ab8)
theorem ade:∀k,k<4->∀m,m<3->lX k m=lY k m:=re (f4 abL abM abN) (f4 abO abP abQ) (f4 abR abS abT) (f4 abU abV abW)
theorem BE:∀k,k<4->∀m,m<3->∀n,n<4->X0 k m n/\X1 k m n/\X2 k m n/\X3 k m n:=λk ag m aJ n aq=>
 have a:=fi (j7 (adc k ag m aJ) n aq);have b:=fi (j7 (ade k ag m aJ) n aq)
 ⟨u6 a.1,u6 a.2,u6 b.1,u6 b.2⟩
theorem adf{aI bG:Type}{f g:aI->bG}:∀{l:List aI},l.map f=l.map g->∀x∈l,f x=g x:=by
 intro br
 induction br with
 |nil=>intro x9 x h;cases h
 |cons y r ih=>
  intro e x h;simp only[List.map_cons,List.cons.injEq]at e
  cases h with
  |head=>exact e.1
  |tail be h=>exact ih e.2 x h
theorem adg:∀s:List Nat,el s s=true:=by
 intro br
 induction br with
 |nil=>exact rfl
 |cons a r ih=>dsimp only[BY];rw[Nat.beq_refl];exact ih
theorem oE(a:List (List Nat)):ke (aZ a) (aZ a)=some true:=by
 have ae:∀l:List V,oK l l=true:=λl=>by induction l with|nil=>rfl|cons be cm ih=>exact ih
 have af:∀a:List (List Nat),oJ (aZ a) (aZ a)=some true:=λa=>by
  induction a with
  |nil=>rfl
  |cons x r ih=>refine(?_:(match ru (.str x) (.str x)with|some y=>(match oJ (aZ r) (aZ r)with|some aE=>some (y&&aE)|none=>none)|none=>none)=_);rw[show ru (.str x) (.str x)=some (el x x)from rfl,adg,ih];rfl
 unfold ke;rw[ae];exact af a
theorem adh:((List.range 10).all λs=>(List.range 10).all λp=>Nat.ble s p||Nat.beq p 4||Nat.beq s 4||!(el (ou p) (ou s)))=true:=by kernel_rfl
theorem adi(s:Nat)(ar:s<10)(p:Nat)(aj:p<10)(h:p<s)(a0:p≠4)(cn:s≠4):el (ou p) (ou s)=false:=by
 have:=List.all_eq_true.mp (List.all_eq_true.mp adh s (List.mem_range.mpr ar)) p (List.mem_range.mpr aj);simp only[Bool.or_eq_true]at this
 rcases this with((q|q)|q)|q
 ·have:=dG q;lia
 ·exact bf (cj q) a0
 ·exact bf (cj q) cn
 ·cases e:el (ou p) (ou s)with
  |false=>rfl
  |true=>rw[e]at q;exact b3 q
section
variable{k m n d:Nat}{cells:List V}{a:Nat}{N:Nat->jK}
theorem NB(ag:k<=3)(aJ:m<=2)(aq:n<=3)(D:Dat)(d:Nat){s:Nat}(h:s=0\/s∈(⟨3,k,m,n,d,2⟩:Cfg).slots):Nz ⟨3,k,m,n,d,2⟩ D s=NA ⟨3,k,m,n,d,2⟩ D s:=
 adf (facts k (f6 ag) m (f6 aJ) n (f6 aq) D d) s (by rcases h with rfl|h;exact List.mem_cons_self ..;exact List.mem_cons_of_mem _ h)
theorem adj(ag:k<=3)(aJ:m<=2)(aq:n<=3)(aU:Inv ⟨3,k,m,n,d,2⟩ N):∀f s,s<f->(s=0\/s∈(⟨3,k,m,n,d,2⟩:Cfg).slots)->s5 (iX la (heapOf ⟨3,k,m,n,d,2⟩ (bp cells a N))) 101 f (jk s):=by
 intro br
 induction br with
 |zero=>exactλx9 h x9=>bf h (by lia)
 |succ f ih=>
  intro s h ar;have F:=NB ag aJ aq (bp cells a N) d ar;have NC:=bz pU.d F;have ND:=bz pU.e F;clear F
  rcases ar with rfl|ar
  ·exact .here (p:= .none) _ NC ND
  ·have S:=aU.slot s ar;refine eU S.par ?_;intro p1 p2 x9;have h0:s≠0:=by lia
   obtain⟨s',rfl⟩:∃s',s=s'+1:=⟨s-1,by lia⟩;refine .up (p:=jk (N (s'+1)).p) NC (ND.trans ?_) (ih _ (by lia) p2);refine(?_:some (match gB (s'+1)with|true=>V.ref (match gB (s'+1)with|true=>jk (N (s'+1)).p|false=>pF (N (s'+1)).p)|false=>V.ref (jk (N (s'+1)).p))=_);cases gB (s'+1)<;>rfl
theorem adk(ag:k<=3)(aJ:m<=2)(aq:n<=3){s p:Nat}(ar:s∈(⟨3,k,m,n,d,2⟩:Cfg).slots)(aj:p=0\/p∈(⟨3,k,m,n,d,2⟩:Cfg).slots)(adl:p<s){q:Nat}(cX:q=pF p\/q=jk p):Ff (iX la (heapOf ⟨3,k,m,n,d,2⟩ (bp cells a N))) (iX Am (heapOf ⟨3,k,m,n,d,2⟩ (bp cells a N))) q (ou s):=by
 have F:=NB ag aJ aq (bp cells a N) d aj;have adm:=bz pU.a F;have adn:=bz pU.b F
 have ai:∃b ah,Ny ⟨3,k,m,n,d,2⟩ p= .ba b ah/\c7 (ou s) ah=none:=by
  rcases aj with rfl|aj
  ·exact⟨0,[],rfl,rfl⟩
  ·have ae:=hE.mp ar;have af:=hE.mp aj;dsimp only at ae af;obtain⟨qy,rfl⟩:∃qy,p=qy+1:=⟨p-1,by lia⟩
   show∃b ah,u7 _ _ _=_/\_
   dsimp only[u7]
   split
   ·refine⟨1,_,rfl,?_⟩;rw[md,adi s (by lia) (qy+1) (by lia) adl (by lia) (by lia)];rfl
   ·exact⟨0,[],rfl,rfl⟩
 refine cS ai ?_;try clear ai;intro b ah ae af;refine⟨BC p,b,ah,?_,(bz pU.c F).trans (bz some ae),af⟩
 rcases cX with rfl|rfl
 ·exact adm
 ·exact adn
theorem oF{l:List (List Nat)}(h:l.length<=64):lU (cf (aZ l)) (aZ l):=(bq l (Gr h) rfl)
theorem Bk(aU:Inv ⟨3,k,m,n,d,2⟩ N)(ag:k<=3)(aJ:m<=2)(aq:n<=3){s:Nat}(ar:s∈(⟨3,k,m,n,d,2⟩:Cfg).slots):(N s).sn.length<=64/\(N s).an.length<=64:=by have S:=aU.slot s ar;have ae:=hE.mp ar;dsimp only at ae;have:=S.rd;have:=(S.all rfl).2.2;lia
theorem GK(ag:k<=3)(aJ:m<=2)(aq:n<=3)(aU:Inv ⟨3,k,m,n,d,2⟩ N){s:Nat}(ar:s∈(⟨3,k,m,n,d,2⟩:Cfg).slots){L:Prop}(bl:L):AP ⟨3,k,m,n,d,2⟩ (bp cells a N) s ((bp cells a N).slot s).q L:=by
 refine eU ((aU.slot s ar).par) ?_;intro p1 p2 x9;refine⟨⟨bl,adk ag aJ aq ar p2 p1 ?_⟩,adj ag aJ aq aU 12 s ?_ (.inr ar)⟩
 ·refine ab (show((bp cells a N).slot s).q=(match gB s with|true=>jk (N s).p|false=>pF (N s).p)from rfl) ?_;cases gB s
  ·exact .inl rfl
  ·exact .inr rfl
 ·have ae:=hE.mp ar;dsimp only at ae;lia
theorem ado(ag:k<=3)(aJ:m<=2)(aq:n<=3)(aU:Inv ⟨3,k,m,n,d,2⟩ N){s:Nat}(ar:s∈(⟨3,k,m,n,d,2⟩:Cfg).slots){L:Prop}(bl:L):LS ⟨3,k,m,n,d,2⟩ (bp cells a N) s L:=by refine bC (Bk aU ag aJ aq ar) ?_;intro ae af;exact GK ag aJ aq aU ar ⟨⟨⟨⟨⟨⟨bl,oF af⟩,oE _⟩,oF ae⟩,oE _⟩,oF af⟩,oE _⟩
theorem adp(ag:k<=3)(aJ:m<=2)(aq:n<=3)(aU:Inv ⟨3,k,m,n,d,2⟩ N){s:Nat}(ar:s∈(⟨3,k,m,n,d,2⟩:Cfg).slots){L:Prop}(bl:L):LV ⟨3,k,m,n,d,2⟩ (bp cells a N) s L:=by refine bC (Bk aU ag aJ aq ar) ?_;intro ae af;exact GK ag aJ aq aU ar ⟨⟨⟨⟨⟨⟨bl,oF af⟩,oE _⟩,oF ae⟩,oE _⟩,oF ae⟩,oE _⟩
theorem adq(ag:k<=3)(aJ:m<=2)(aq:n<=3)(aU:Inv ⟨3,k,m,n,d,2⟩ N){s:Nat}(ar:s∈(⟨3,k,m,n,d,2⟩:Cfg).slots)(aj:gB s=true){L:Prop}(bl:L):LU ⟨3,k,m,n,d,2⟩ (bp cells a N) s L:=by
 refine bC (Bk aU ag aJ aq ar) ?_;intro ae af;have e:=(aU.slot s ar).vz aj
 have aQ:lU ((bp cells a N).slot s).co ((bp cells a N).slot s).al:=by refine(?_:lU (cf (aZ (N s).sn)) (aZ (N s).an));refine ab e ?_;exact oF af
 exact GK ag aJ aq aU ar ⟨⟨⟨⟨⟨⟨bl,aQ⟩,oE _⟩,oF ae⟩,oE _⟩,oF ae⟩,oE _⟩
theorem GL{f:Cfg->Dat->Nat->Prop->Prop}{D:Dat}:∀(r d s:Nat)(L:Prop),(∀dy s'(L:Prop),L->s<=s'->s'<s+r->f ⟨3,k,m,n,dy,2⟩ D s' L)->L->xH f k m n D r d s L:=by
 intro br
 induction br with
 |zero=>exactλx9 x9 x9 x9 bl=>bl
 |succ r ih=>exactλd s L h bl=>ih (d+1) (s+1) _ (λdy s' L bl ae af=>h dy s' L bl (by lia) (by lia)) (h d s L bl (by lia) (by lia))
theorem vC{dy:Nat}(aU:Inv ⟨3,k,m,n,d,2⟩ N):Inv ⟨3,k,m,n,dy,2⟩ N:=⟨aU.t0,aU.tA,aU.nI,λs ar=>let S:=aU.slot s ar;⟨S.on,S.rd,S.snd,S.par,S.seen,S.vz,S.all⟩⟩
theorem adr(ag:k<=3)(aJ:m<=2)(aq:n<=3){z:St}(h:At ⟨3,k,m,n,0,2⟩ (7+n) z):∃x:(cg×aK)×St,jD (en 20) 4 ((dq dL).set 98 gm) z x.1 x.2/\x.2.log/\x.1=(.next,dq dL)/\At ⟨3,k,m,n,k,2⟩ (10+k) x.2:=by refine eB h ?_;try clear h;rintro cells a N rfl aU aW;exact⟨(_,_),(nH (l:=dL) (z:=fU ⟨3,k,m,n,0,2⟩ (7+n) (bp cells a N)) ((BE k (f6 ag) m (f6 aJ) n (f6 aq)).1 (bp cells a N)) (GL k 0 1 True (λdy s' L bl ae af=>ado ag aJ aq (vC aU) (hE.mpr (.inl ⟨ae,by show s'<=k;lia⟩)) bl) trivial) rfl rfl),trivial,rfl,cells,a,N,rfl,vC aU,aW⟩
theorem ads(ag:k<=3)(aJ:m<=2)(aq:n<=3){z:St}(h:At ⟨3,k,m,n,k,2⟩ (10+k) z):∃x:(cg×aK)×St,jD (en 20) 4 ((dq dL).set 98 dd) z x.1 x.2/\x.2.log/\x.1=(.next,dq dL)/\At ⟨3,k,m,n,k+m,2⟩ (10+k+m) x.2:=by refine eB h ?_;try clear h;rintro cells a N rfl aU aW;exact⟨(_,_),(nH (l:=dL) (z:=fU ⟨3,k,m,n,k,2⟩ (10+k) (bp cells a N)) ((BE k (f6 ag) m (f6 aJ) n (f6 aq)).2.1 (bp cells a N)) (GL m k 5 True (λdy s' L bl ae af=>adq ag aJ aq (vC aU) (hE.mpr (.inr (.inl ⟨ae,af⟩))) (acr (by lia) (by lia)) bl) trivial) rfl rfl),trivial,rfl,cells,a,N,rfl,vC aU,aW⟩
theorem adt(ag:k<=3)(aJ:m<=2)(aq:n<=3){z:St}(h:At ⟨3,k,m,n,k+m,2⟩ (10+k+m) z):∃x:(cg×aK)×St,jD (en 20) 4 ((dq dL).set 98 e8) z x.1 x.2/\x.2.log/\x.1=(.next,dq dL)/\At ⟨3,k,m,n,k+m+n,2⟩ (10+k+m+n) x.2:=by refine eB h ?_;try clear h;rintro cells a N rfl aU aW;exact⟨(_,_),(nH (l:=dL) (z:=fU ⟨3,k,m,n,k+m,2⟩ (10+k+m) (bp cells a N)) ((BE k (f6 ag) m (f6 aJ) n (f6 aq)).2.2.1 (bp cells a N)) (GL n (k+m) 7 True (λdy s' L bl ae af=>adp ag aJ aq (vC aU) (hE.mpr (.inr (.inr ⟨ae,af⟩))) bl) trivial) rfl rfl),trivial,rfl,cells,a,N,rfl,vC aU,aW⟩
theorem adu(ag:k<=3)(aJ:m<=2)(aq:n<=3){z:St}(h:At ⟨3,k,m,n,k+m+n,2⟩ (10+k+m+n) z):∃x:(cg×aK)×St,jD (en 20) 5 (dq dL) z x.1 x.2/\x.2.log/\x.1.1= .ret (.bool true):=by refine eB h ?_;try clear h;intro cells a N cy aU aW;rw[cy];refine cS (vv (z:=fU ⟨3,k,m,n,k+m+n,2⟩ (10+k+m+n) (bp cells a N)) ((BE k (f6 ag) m (f6 aJ) n (f6 aq)).2.2.2 (bp cells a N)) ⟨⟨trivial,oF (by have:=aU.nI;lia)⟩,oE _⟩) ?_;intro lv1 aO ai ak;exact fW ((_,lv1),aO) ai ak rfl
end
section
def BF(x:(cg×aK)×St)(g2:V)(c:Cfg)(s:Nat):Prop:=x.1.1= .ret (.bool true)\/(x.1=(.next,dC g2)/\At c s x.2)
def y3(i:Nat)(C:aK)(z:St)(x:(cg×aK)×St):Prop:=match i with
 |0=>x.1=(.next,dq dL)/\At ⟨0,0,0,0,0,2⟩ 1 x.2
 |1=>∀k,At ⟨0,k,0,0,0,2⟩ (k+1) z->x.1=(.next,dC dd)/\At ⟨1,k,0,0,0,2⟩ 4 x.2
 |2=>∀k m,At ⟨2,k,m,0,0,2⟩ (5+m) z->x.1=(.next,dC e8)/\At ⟨3,k,m,0,0,2⟩ 7 x.2
 |3=>(∀k,At ⟨0,k,0,0,0,2⟩ (k+1) z->BF x gm ⟨0,k+1,0,0,0,2⟩ (k+2))/\(∀k m,At ⟨2,k,m,0,0,2⟩ (5+m) z->BF x dd ⟨2,k,m+1,0,0,2⟩ (6+m))/\∀k m n,At ⟨3,k,m,n,0,2⟩ (7+n) z->BF x e8 ⟨3,k,m,n+1,0,2⟩ (8+n)
 |4=>∀k m n,(C=dC gm->At ⟨3,k,m,n,0,2⟩ (7+n) z->x.1=(.next,dq dL)/\At ⟨3,k,m,n,k,2⟩ (10+k) x.2)/\(C=dC dd->At ⟨3,k,m,n,k,2⟩ (10+k) z->x.1=(.next,dq dL)/\At ⟨3,k,m,n,k+m,2⟩ (10+k+m) x.2)/\(C=dC e8->At ⟨3,k,m,n,k+m,2⟩ (10+k+m) z->x.1=(.next,dq dL)/\At ⟨3,k,m,n,k+m+n,2⟩ (10+k+m+n) x.2)
 |5=>x.1.1= .ret (.bool true)
 |7=>∀k,At ⟨1,k,0,0,0,2⟩ 4 z->∃r,x.1=(.next,dq (qW dd r))/\oD k r x.2
 |8=>∀k r,C=dq (qW dd r)->oD k r z->BF x dd ⟨2,k,0,0,0,2⟩ 5
 |_=>True
def BG(i:Nat)(C:aK)(z:St)(x:(cg×aK)×St):Prop:=z.log/\jD (en 20) i C z x.1 x.2/\x.2.log/\y3 i C z x
def GN(vs:List V)(z:St)(y:V×St):Prop:=z.log/\E6 (en 20) 52 vs z y.1 y.2/\y.2.log/\(∃r k,vs=[bt 27 0,dW k]/\r<k/\y.1=dW r)/\∀c s,At c s z->At c s y.2
open Classical in
def yk(i:Nat)(C:aK)(z:St):Res (cg×aK):=if h:∃x,BG i C z x then .ok h.choose.1 h.choose.2 else .stuck
open Classical in
def tE(vs:List V)(z:St):Res V:=if h:∃y,GN vs z y then .ok h.choose.1 h.choose.2 else .stuck
def gE:bT:=⟨λf vs z=>match f with|52=>tE vs z|_=> .stuck,λi C z=>yk i C z⟩
theorem adv:Ad (en 20) gE where
 fn:=λf vs z=>by
  by_cases hf:f=52
  ·subst hf;refine(?_:jE (en 20) 52 vs z (tE vs z));unfold tE
   split
   ·rename_i h;exactλx9=>⟨h.choose_spec.1,h.choose_spec.2.1⟩
   ·trivial
  ·have:gE.fn f vs z= .stuck:=by
    refine(?_:(match f with|52=>tE vs z|_=> .stuck)=_)
    split
    ·exact bf rfl hf
    ·rfl
   refine ab this ?_
   trivial
 blk:=λi C z=>by
  refine(?_:sU (en 20) i C z (yk i C z));unfold yk
  split
  ·rename_i h;exactλx9=>⟨h.choose_spec.1,h.choose_spec.2.1⟩
  ·trivial
theorem NE(h:∃x,BG i C z x):∃x,gE.blk i C z= .ok x.1 x.2/\BG i C z x:=by refine bq h.choose ?_ h.choose_spec;refine(?_:yk i C z=_);unfold yk;exact dif_pos h
theorem adw(h:∃y,GN vs z y):∃y,gE.fn 52 vs z= .ok y.1 y.2/\GN vs z y:=by refine bq h.choose ?_ h.choose_spec;refine(?_:tE vs z=_);unfold tE;exact dif_pos h
def Out(r:Res (cg×aK))(C:aK)(Q:St->Prop):Prop:=∃x z,r= .ok x z/\z.log/\(x.1= .ret (.bool true)\/(x=(.next,C)/\Q z))
theorem At.log(h:At c s z):z.log:=by refine fl h ?_;try clear h;rintro _ _ _ rfl _;exact trivial
theorem oD.log(h:oD k r z):z.log:=by refine fl h ?_;try clear h;intro x9 x9 x9 cy x9;rw[cy];exact trivial
theorem oD.inj(h:oD k r z)(h':oD bF nu z):k=bF:=by refine fl h ?_;try clear h;intro x9 x9 x9 e x9;refine fl h' ?_;try clear h';intro x9 x9 x9 ey x9;exact bz Cfg.k (Ng (bz St.orc (e.symm.trans ey))).1
theorem At.ne(h:At c s z)(h':At du s' z)(aq:c.oq≠du.oq){P:Prop}:P:=bf (bz Cfg.oq (h.inj h').1) aq
section
variable{P:ca}{F:bT}{s:S}{r:List S}{C lv1 fA:aK}{z:St}{Q vD:St->Prop}{turn:V->aK->St->Res (cg×aK)}{v:V}{a b:List V}
theorem mS(h:Out (c6 P F s C z) lv1 Q)(af:∀σ',Q σ'->Out (bc P F r lv1 σ') fA vD):Out (bc P F (s::r) C z) fA vD:=by
 refine hp h ?_;try clear h;intro x σ' e ak aQ;refine ab lZ (ab e ?_);clear e
 rcases aQ with aQ|⟨rfl,cX⟩
 ·refine iw x σ' ?_ ak (.inl aQ);refine(?_:(match x.1 with| .next=>bc P F r x.2 σ'|_=> .ok x σ')=_);exact ab aQ rfl
 ·exact af σ' cX
theorem adx(h:Q z)(ak:z.log):Out (bc P F [] C z) C Q:=(iw _ z rfl ak (.inr ⟨rfl,h⟩))
theorem mT(h:Out (c6 P F s C z) lv1 Q)(ak:∀σ',Q σ'->σ'.log):Out (bc P F [s] C z) lv1 Q:=mS h λσ' q=>adx q (ak σ' q)
theorem tF(h:Out (turn v C z) lv1 Q)(af:∀σ',Q σ'->Out (dN turn a lv1 σ') fA vD):Out (dN turn (v::a) C z) fA vD:=by
 refine hp h ?_;try clear h;intro x σ' e ak aQ;dsimp only[p4];refine ab e ?_;clear e
 rcases aQ with aQ|⟨rfl,cX⟩
 ·refine iw (.ret (.bool true),x.2) σ' ?_ ak (.inl rfl);refine(?_:(match x.1 with| .ret w=>Res.ok (cg.ret w,x.2) σ'|_=>dN turn a x.2 σ')=_);exact ab aQ rfl
 ·exact af σ' cX
theorem BH(h:Q z)(ak:z.log):Out (dN turn [] C z) C Q:=(iw _ z rfl ak (.inr ⟨rfl,h⟩))
theorem ady:∀(a b:List V)(C:aK)(z:St),dN turn (a++b) C z=(dN turn a C z).bind λx z=>match x.1 with| .ret w=> .ok (.ret w,x.2) z|_=>dN turn b x.2 z:=by
 intro br
 induction br with
 |nil=>exactλb C z=>rfl
 |cons v a ih=>
  intro b C z;refine(?_:(turn v C z).bind _=((turn v C z).bind _).bind _)
  cases turn v C z with
  |ok x σ'=>
   refine(?_:(match x.1 with| .ret w=> .ok (.ret w,x.2) σ'|_=>dN turn (a++b) x.2 σ')=Res.bind (match x.1 with| .ret w=> .ok (.ret w,x.2) σ'|_=>dN turn a x.2 σ') _)
   cases x.1 with
   |ret w=>rfl
   |next=>exact ih b _ _
   |cont=>exact ih b _ _
  |exc be=>rfl
  |stuck=>rfl
theorem adz(h:Out (dN turn a C z) lv1 Q)(af:∀σ',Q σ'->Out (dN turn b lv1 σ') fA vD):Out (dN turn (a++b) C z) fA vD:=by
 refine hp h ?_;try clear h;intro x σ' e ak aQ;rw[ady,e];clear e
 rcases aQ with aQ|⟨rfl,cX⟩
 ·refine iw (.ret (.bool true),x.2) σ' ?_ ak (.inl rfl);refine(?_:(match x.1 with| .ret w=>Res.ok (cg.ret w,x.2) σ'|_=>dN turn b x.2 σ')=_);exact ab aQ rfl
 ·exact af σ' cX
theorem adA{Qn:Nat->St->Prop}(ak:∀j σ',Qn j σ'->σ'.log):∀(j:Nat),(∀i σ',i<j->Qn i σ'->Out (turn (dW i) C σ') C (Qn (i+1)))->∀z,Qn 0 z->Out (dN turn (hr j) C z) C (Qn j):=by
 intro br
 induction br with
 |zero=>exactλx9 z h=>BH h (ak 0 z h)
 |succ j ih=>exactλar z h=>adz (ih (λi σ' aW=>ar i σ' (by lia)) z h) λσ' q=>tF (ar j σ' (by lia) q) λcK cT=>BH cT (ak _ cK cT)
end
theorem nL(h:∃x,BG i C z x)(cX:∀x,y3 i C z x->x.1.1= .ret (.bool true)\/(x.1=(.next,lv1)/\Q x.2)):Out (c6 P0 gE (.blk i) C z) lv1 Q:=by refine G0 (NE h) ?_;intro x e ae af ax a0;exact iw x.1 x.2 e ax (cX x a0)
theorem BI(h:Out r C Q)(cX:∀z,Q z->wV z):Out r C wV:=by refine hp h ?_;try clear h;intro x z e ak aQ;exact iw x z e ak (aQ.imp id λdz=>bC dz λe q=>⟨e,cX z q⟩)
theorem BJ(h:x≠y):∀l:List (Nat×V),dq (l++[(y,u)]) x=dq l x:=by
 intro br
 induction br with
 |nil=>
  refine(?_:(match Nat.beq y x with|true=>some u|false=>none)=none)
  cases e:Nat.beq y x with
  |true=>exact bf (cj e).symm h
  |false=>rfl
 |cons cm l ih=>obtain⟨aE,w⟩:=cm;refine(?_:(match Nat.beq aE x with|true=>some w|false=>dq (l++[(y,u)]) x)=match Nat.beq aE x with|true=>some w|false=>dq l x);exact ab ih rfl
theorem GO{C:aK}(h:x≠y):C.set y v x=C x:=by
 refine(?_:(match Nat.beq x y with|true=>some v|false=>C x)=C x)
 cases e:Nat.beq x y with
 |true=>exact bf (cj e) h
 |false=>rfl
theorem GP{C:aK}:C.set y v y=some v:=by refine(?_:(match Nat.beq y y with|true=>some v|false=>C y)=some v);rw[Nat.beq_refl]
theorem vE(u:V):(dq dL).set 98 u=dC u:=by
 funext x
 by_cases h:x=98
 ·subst h;refine c0 GP ?_;rfl
 ·refine c0 (GO h) ?_;exact(BJ h dL).symm
theorem GQ(u w:V):(dC u).set 98 w=dC w:=by
 funext x
 by_cases h:x=98
 ·subst h;refine c0 GP ?_;rfl
 ·refine c0 (GO h) ?_;exact(BJ h dL).trans (BJ h dL).symm
theorem adB(u:V):aK.set (λx9=>none) 104 u=dq [(104,u)]:=by
 funext x
 by_cases h:x=104
 ·subst h;refine c0 GP ?_;rfl
 ·refine c0 (GO h) ?_;exact(BJ h []).symm
theorem vF{u w:V}(h:u≠w):dC u≠dC w:=λe=>h (by have:=congrFun e 98;exact a8 this)
theorem adC:gm≠dd/\gm≠e8/\dd≠e8:=by
 refine fs ?_ ?_ ?_<;>(intro h;injection h with h;exact bf h (by decide))
end
noncomputable def GR(u:V):E:= .bi .eq [.aa 98, .val u]
def GS:S:= .forR 85 (.bh 52 [.aa 86, .ite (GR dd) (.val (.int 3)) (.val (.int 4))]) [.blk 3]
def NF:E:= .tup [.val gm, .val dd, .val e8]
def ri:List S:=[.ite (GR dd) [.blk 1, .blk 7, .blk 8] [], .ite (GR e8) [.blk 2] [],GS]
def NG:List S:=[.blk 0, .eL 98 NF ri, .eL 98 NF [.blk 4], .blk 5]
def pickK(g2:V)(dY:V)(z:St):Res (cg×aK):=match dY with
 | .int (.ofNat j)=>match small j with
  |true=>dN (λv C z=>bc P0 gE [.blk 3] (C.set 85 v) z) (hr j) (dC g2) z
  |false=> .stuck
 |_=> .stuck
theorem GU{g2:V}{k:Nat}{c:Cfg}{s:Nat}{z:St}{Qn:Nat->St->Prop}(aM:c6 P0 gE GS (dC g2) z=(gE.fn 52 [bt 27 0,dW k] z).bind (pickK g2))(ag:k≠0)(aeJ:k<=4)(h:At c s z)(h0:∀z,At c s z->Qn 0 z)(ak:∀j σ',Qn j σ'->σ'.log)(ar:∀i σ',i+1<k->Qn i σ'->Out (bc P0 gE [.blk 3] (Bw g2 i) σ') (dC g2) (Qn (i+1))):
  Out (c6 P0 gE GS (dC g2) z) (dC g2) λz=>∃j,j<k/\Qn j z:=by
 obtain⟨r,aw,cK,hm,kx⟩:=ac2 ag h
 obtain⟨⟨v,hY⟩,e,_,_,aeK,⟨nu,bF,bA,adD,rfl⟩,zi⟩:=adw (vs:=[bt 27 0,dW k]) (z:=z) ⟨(dW r,cK),h.log,hm,kx.log,(iw r k rfl aw rfl),λdu s' h'=>by
  refine bC (h.inj h') ?_;rintro rfl rfl
  exact kx⟩
 have zN:bF=k:=by have f:[0,k]=[0,bF]:=bz (List.map Nf) bA;cases f;rfl
 subst zN;refine ab aM (ab e ?_);refine(?_:Out (pickK g2 (dW nu) hY) _ _);delta pickK dW;dsimp only;refine ab (show small nu=true from gn (by lia)) ?_;refine BI (adA (Qn:=Qn) (C:=dC g2) ak nu (λi σ' aW q=>ar i σ' (by lia) q) hY (h0 hY (zi c s h))) λz q=>(bq nu adD q)
theorem adE{z:St}(h:At ⟨0,0,0,0,0,2⟩ 1 z):Out (bc P0 gE ri (dC gm) z) (dC gm) λz=>∃k,k<=3/\At ⟨0,k,0,0,0,2⟩ (k+1) z:=by refine mS (lv1:=dC gm) (Q:=At ⟨0,0,0,0,0,2⟩ 1) (iw _ z rfl h.log (.inr ⟨rfl,h⟩)) λz h=>?_;refine mS (lv1:=dC gm) (Q:=At ⟨0,0,0,0,0,2⟩ 1) (iw _ z rfl h.log (.inr ⟨rfl,h⟩)) λz h=>?_;refine mT (BI (GU (k:=4) (Qn:=λj=>At ⟨0,j,0,0,0,2⟩ (j+1)) rfl (by lia) (by lia) h (λx9 h=>h) (λx9 x9 h=>h.log) λi σ' aW h=>?_) λz dz=>a4 dz λj cF q=>(bq j (by lia) q)) λz dz=>a4 dz λk x9 q=>q.log;refine mT (nL ?_ λx aj=>aj.1 i h) λx9 q=>q.log;refine fV (acm (by lia) h) ?_;intro x ae af ax;refine vJ x h.log ae af (λbF h'=>?_) (λbF e5 h'=>h.ne h' (by simp)) (λbF e5 hP h'=>h.ne h' (by simp));obtain rfl:i=bF:=bz Cfg.k (h.inj h').1;exact ax
theorem adF{k:Nat}(ag:k<=3){z:St}(h:At ⟨0,k,0,0,0,2⟩ (k+1) z):Out (bc P0 gE ri (dC dd) z) (dC dd) λz=>∃m,m<=2/\At ⟨2,k,m,0,0,2⟩ (5+m) z:=by
 refine mS (lv1:=dC dd) (Q:=At ⟨2,k,0,0,0,2⟩ 5) ?_ λz h=>?_
 ·refine(?_:Out (bc P0 gE [.blk 1, .blk 7, .blk 8] (dC dd) z) _ _);refine mS (lv1:=dC dd) (Q:=At ⟨1,k,0,0,0,2⟩ 4) (nL ?_ λx aj=> .inr (aj k h)) λz h=>?_
  ·refine tG (acI ag h) ?_;intro x ae af ax a0;refine rl x h.log ae af (λbF h'=>?_);obtain rfl:k=bF:=bz Cfg.k (h.inj h').1;exact⟨ax,a0⟩
  refine fk (acK ag h) ?_;intro r x ae af ax a0
  obtain⟨x,e,eN,_,es,aj⟩:=NE (i:=7) (C:=dC dd) (z:=z) ⟨x,h.log,ae,af,λbF h'=>by
   obtain rfl:k=bF:=bz Cfg.k (h.inj h').1
   exact bq r ax a0⟩
  refine a4 (aj k h) ?_;intro r aQ aw;refine mS (lv1:=dq (qW dd r)) (Q:=oD k r) (iw x.1 x.2 e es (.inr ⟨aQ,aw⟩)) λz h=>?_;refine mT (nL ?_ λx aj=>aj k r rfl h) λx9 q=>q.log;refine fV (acW ag h) ?_;intro x ae af ax;refine rl x h.log ae af (λbF nu hA h'=>?_);obtain rfl:k=bF:=h.inj h';exact ax
 refine mS (lv1:=dC dd) (Q:=At ⟨2,k,0,0,0,2⟩ 5) (iw _ z rfl h.log (.inr ⟨rfl,h⟩)) λz h=>?_;refine mT (BI (GU (k:=3) (Qn:=λj=>At ⟨2,k,j,0,0,2⟩ (5+j)) rfl (by lia) (by lia) h (λx9 h=>h) (λx9 x9 h=>h.log) λi σ' aW h=>?_) λz dz=>a4 dz λj cF q=>(bq j (by lia) q)) λz dz=>a4 dz λk x9 q=>q.log;have sH:5+(i+1)=6+i:=by lia
 refine ab sH ?_;refine mT (nL ?_ λx aj=>aj.2.1 k i h) λx9 q=>q.log;refine fV (acv ag (by lia) h) ?_;intro x ae af ax;refine vJ x h.log ae af (λbF h'=>h.ne h' (by simp)) (λbF e5 h'=>?_) (λbF e5 hP h'=>h.ne h' (by simp));obtain rfl:k=bF:=bz Cfg.k (h.inj h').1;obtain rfl:i=e5:=bz Cfg.m (h.inj h').1;exact ax
theorem adG{k m:Nat}(ag:k<=3)(aJ:m<=2){z:St}(h:At ⟨2,k,m,0,0,2⟩ (5+m) z):Out (bc P0 gE ri (dC e8) z) (dC e8) λz=>∃n,n<=3/\At ⟨3,k,m,n,0,2⟩ (7+n) z:=by
 refine mS (lv1:=dC e8) (Q:=At ⟨2,k,m,0,0,2⟩ (5+m)) (iw _ z rfl h.log (.inr ⟨rfl,h⟩)) λz h=>?_;refine mS (lv1:=dC e8) (Q:=At ⟨3,k,m,0,0,2⟩ 7) ?_ λz h=>?_
 ·refine(?_:Out (bc P0 gE [.blk 2] (dC e8) z) _ _);refine mT (nL ?_ λx aj=> .inr (aj k m h)) λx9 q=>q.log;refine tG (ac0 ag aJ h) ?_;intro x ae af ax a0;refine rl x h.log ae af (λbF e5 h'=>?_);obtain rfl:k=bF:=bz Cfg.k (h.inj h').1;obtain rfl:m=e5:=bz Cfg.m (h.inj h').1;exact⟨ax,a0⟩
 refine mT (BI (GU (k:=4) (Qn:=λj=>At ⟨3,k,m,j,0,2⟩ (7+j)) rfl (by lia) (by lia) h (λx9 h=>h) (λx9 x9 h=>h.log) λi σ' aW h=>?_) λz dz=>a4 dz λj cF q=>(bq j (by lia) q)) λz dz=>a4 dz λk x9 q=>q.log;have sH:7+(i+1)=8+i:=by lia
 refine ab sH ?_;refine mT (nL ?_ λx aj=>aj.2.2 k m i h) λx9 q=>q.log;refine fV (acx ag aJ (by lia) h) ?_;intro x ae af ax;refine vJ x h.log ae af (λbF h'=>h.ne h' (by simp)) (λbF e5 h'=>h.ne h' (by simp)) (λbF e5 hP h'=>?_);obtain rfl:k=bF:=bz Cfg.k (h.inj h').1;obtain rfl:m=e5:=bz Cfg.m (h.inj h').1;obtain rfl:i=hP:=bz Cfg.n (h.inj h').1;exact ax
theorem adH{k m n:Nat}(ag:k<=3)(aJ:m<=2)(aq:n<=3){z:St}(h:At ⟨3,k,m,n,0,2⟩ (7+n) z):Out (dN (λv C z=>bc P0 gE [.blk 4] (C.set 98 v) z) [gm,dd,e8] (dC e8) z) (dq dL) (At ⟨3,k,m,n,k+m+n,2⟩ (10+k+m+n)):=by
 obtain⟨c4,dg,hb⟩:=adC;refine tF (lv1:=dq dL) (Q:=At ⟨3,k,m,n,k,2⟩ (10+k)) ?_ λz h=>?_
 ·show Out (bc P0 gE [.blk 4] ((dC e8).set 98 gm) z) _ _
  rw[GQ];refine mT (nL ?_ λx aj=> .inr ((aj k m n).1 rfl h)) λx9 q=>q.log;obtain⟨x,ae,af,ax,a0⟩:=adr ag aJ aq h;rw[vE]at ae;refine rl x h.log ae af (λbF e5 hP=>⟨λx9 h'=>?_,λe=>bf e (vF c4),λe=>bf e (vF dg)⟩);obtain rfl:k=bF:=bz Cfg.k (h.inj h').1;obtain rfl:m=e5:=bz Cfg.m (h.inj h').1;obtain rfl:n=hP:=bz Cfg.n (h.inj h').1;exact⟨ax,a0⟩
 refine tF (lv1:=dq dL) (Q:=At ⟨3,k,m,n,k+m,2⟩ (10+k+m)) ?_ λz h=>?_
 ·show Out (bc P0 gE [.blk 4] ((dq dL).set 98 dd) z) _ _
  rw[vE];refine mT (nL ?_ λx aj=> .inr ((aj k m n).2.1 rfl h)) λx9 q=>q.log;obtain⟨x,ae,af,ax,a0⟩:=ads ag aJ aq h;rw[vE]at ae;refine⟨x,h.log,ae,af,λbF e5 hP=>(fs (λe=>bf e (vF c4.symm)) (λx9 h'=>?_) (λe=>bf e (vF hb)))⟩;obtain rfl:k=bF:=bz Cfg.k (h.inj h').1;obtain rfl:m=e5:=bz Cfg.m (h.inj h').1;obtain rfl:n=hP:=bz Cfg.n (h.inj h').1;exact⟨ax,a0⟩
 refine tF (lv1:=dq dL) (Q:=At ⟨3,k,m,n,k+m+n,2⟩ (10+k+m+n)) ?_ λz h=>BH h h.log
 ·show Out (bc P0 gE [.blk 4] ((dq dL).set 98 e8) z) _ _
  rw[vE];refine mT (nL ?_ λx aj=> .inr ((aj k m n).2.2 rfl h)) λx9 q=>q.log;obtain⟨x,ae,af,ax,a0⟩:=adt ag aJ aq h;rw[vE]at ae;refine⟨x,h.log,ae,af,λbF e5 hP=>(fs (λe=>bf e (vF dg.symm)) (λe=>bf e (vF hb.symm)) (λx9 h'=>?_))⟩;obtain rfl:k=bF:=bz Cfg.k (h.inj h').1;obtain rfl:m=e5:=bz Cfg.m (h.inj h').1;obtain rfl:n=hP:=bz Cfg.n (h.inj h').1;exact⟨ax,a0⟩
theorem adI{vs:List V}(ak:vs.length<=63)(bA:∀v∈vs,∃i,v= .int i):Out (bc P0 gE NG (dq [(104, .aD 63 vs)]) St.empty) (dq dL) λx9=>False:=by
 refine mS (lv1:=dq dL) (Q:=At ⟨0,0,0,0,0,2⟩ 1) (nL ?_ λx h=> .inr h) λz h=>?_
 ·refine tG (ac3 ak bA) ?_;intro x ae af ax a0;exact N0 x trivial ae af ax a0
 refine mS (lv1:=dC e8) (Q:=λz=>∃k m n,k<=3/\m<=2/\n<=3/\At ⟨3,k,m,n,0,2⟩ (7+n) z) ?_ λz dz=>pV dz λk m n ag aJ aq h=>?_
 ·refine(?_:Out (dN (λv C z=>bc P0 gE ri (C.set 98 v) z) [gm,dd,e8] (dq dL) z) _ _);refine tF (lv1:=dC gm) (Q:=λz=>∃k,k<=3/\At ⟨0,k,0,0,0,2⟩ (k+1) z) ?_ λz dz=>a4 dz λk ag h=>?_
  ·show Out (bc P0 gE ri ((dq dL).set 98 gm) z) _ _
   rw[vE];exact adE h
  refine tF (lv1:=dC dd) (Q:=λz=>∃m,m<=2/\At ⟨2,k,m,0,0,2⟩ (5+m) z) ?_ λz dz=>a4 dz λm aJ h=>?_
  ·show Out (bc P0 gE ri ((dC gm).set 98 dd) z) _ _
   rw[GQ];exact adF ag h
  refine tF (lv1:=dC e8) (Q:=λz=>∃n,n<=3/\At ⟨3,k,m,n,0,2⟩ (7+n) z) ?_ λz dz=>a4 dz λn aq h=>BH (tL k m n ag aJ aq h) h.log
  ·show Out (bc P0 gE ri ((dC dd).set 98 e8) z) _ _
   rw[GQ];exact adG ag aJ h
 refine mS (lv1:=dq dL) (Q:=At ⟨3,k,m,n,k+m+n,2⟩ (10+k+m+n)) (adH ag aJ aq h) λz h=>?_;refine mT (nL ?_ λx aj=> .inl aj) λx9 q=>q.elim;refine fV (adu ag aJ aq h) ?_;intro x ae af ax;exact rl x h.log ae af ax
theorem adJ{vs:List V}(ak:vs.length<=63)(bA:∀v∈vs,∃i,v= .int i):∃aO,dO P0 gE 63 [.aD 63 vs] St.empty= .ok (.bool true) aO/\aO.log:=by
 refine hp (adI ak bA) ?_;intro x aO e aP aQ
 rcases aQ with aQ|⟨_,f⟩
 ·refine bq aO ?_ aP;refine(?_:(bc P0 gE NG (aK.set (λx9=>none) 104 (.aD 63 vs)) St.empty).bind _=_);rw[adB,e];refine(?_:(match x.1 with| .ret v=>Res.ok v aO| .next=>Res.ok .none aO| .cont=> .stuck)=_);exact ab aQ rfl
 ·exact f.elim
section
open PySem PySem.W PyProof.Rows MeetsSeq
variable{ao:cR}{D:Addr}
theorem adK(ch:ol ao P0 D):∀vs:List V,(∀v∈vs,∃i,v= .int i)->vs.length<=63->
  ∃m σ',m<=40/\σ'.log/\∀n,m<=n->∀Y ay,av aG bb n Y (λx9 I Z x9=>bn I Z [.aD 63 vs] ay) St.empty (mE (T.c8 rG) ay) (.ok (.bool true) σ'):=λvs bA ak=>by
 refine a4 (adJ ak bA) ?_;intro aO e aP;refine aaI ch adv (λf=>?_) e aP
 by_cases hf:f=52
 ·subst hf;exact .inl (Nb ch (f:=52) (g:=Fg) rfl)
 ·refine .inr λvs z=>?_;refine(?_:(match f with|52=>tE vs z|_=> .stuck)=_)
  split
  ·exact bf rfl hf
  ·rfl
end
theorem adL:∀c,Ask c:=PX (entry λH X _ _ _ _ R=>adK (W8 H X R))
namespace X
def b:Prop:=True
theorem a:b:=trivial
theorem tw16968903812690019113:b:=a
theorem tw2140135304729117449:b:=a
theorem tw933067901898224393:b:=a
theorem tw7960495386629641897:b:=a
theorem tw8487957529249073833:b:=a
theorem tw14521608049924362889:b:=a
theorem tw13407351123689804361:b:=a
theorem tw16586392771365901897:b:=a
theorem tw14599216183261825545:b:=a
theorem tw9153535105917740425:b:=a
theorem tw8732834884513426825:b:=a
theorem tw11460514269498755465:b:=a
theorem tw17632842709204435305:b:=a
theorem tw6539028582764861737:b:=a
theorem tw12549801226109605097:b:=a
theorem tw506898478086320361:b:=a
theorem tw4366793597815171305:b:=a
theorem tw10151815587356123305:b:=a
theorem tw2836499940797216937:b:=a
theorem tw14653723677663790217:b:=a
theorem tw16733654154275601545:b:=a
theorem tw3572002498365854857:b:=a
theorem tw18221226084950581385:b:=a
theorem tw7823642895478513769:b:=a
theorem tw549840673838187561:b:=a
theorem tw8835027957797372937:b:=a
theorem tw1036521049999524664:b:=a
theorem tw12431227519644381976:b:=a
theorem tw5460409719844039416:b:=a
theorem tw2644627951511234264:b:=a
theorem tw15735208157143173656:b:=a
theorem tw5531262098943193592:b:=a
theorem tw12850112966672040376:b:=a
theorem tw10051381904540361080:b:=a
theorem tw8891874485308913016:b:=a
theorem tw15548227450855620984:b:=a
theorem tw10890669872338514296:b:=a
theorem tw13153878965840617752:b:=a
theorem tw8353550486438378776:b:=a
theorem tw18174616467888961784:b:=a
theorem tw9499876601922121944:b:=a
theorem tw13328703452220107896:b:=a
theorem tw3051705916653711320:b:=a
theorem tw16150315973213551544:b:=a
theorem tw18137005335849155512:b:=a
theorem tw12041320830668316568:b:=a
theorem tw13313710614919305048:b:=a
theorem tw7177039459499734379:b:=a
theorem tw1669853901047254379:b:=a
theorem tw3290267984776082667:b:=a
theorem tw18191816476073293035:b:=a
theorem tw10411601657474817163:b:=a
theorem tw15695887261292210315:b:=a
theorem tw18076318714358639659:b:=a
theorem tw4270219788769926155:b:=a
theorem tw10768744121750694923:b:=a
theorem tw13821201019929146347:b:=a
theorem tw6494947804186183659:b:=a
theorem tw7805020641592999883:b:=a
theorem tw10197326141235884875:b:=a
theorem tw11270588363574455051:b:=a
theorem tw4004658924550274795:b:=a
theorem tw5893040920798665387:b:=a
theorem tw12243147764164009643:b:=a
theorem tw10346415909351626379:b:=a
theorem tw18303972411646476939:b:=a
theorem tw18337113850098922091:b:=a
theorem tw1039743068835056171:b:=a
theorem tw8587733627319978411:b:=a
theorem tw4542608898813522347:b:=a
theorem tw12857071073361858618:b:=a
theorem tw6380847748491412506:b:=a
theorem tw9931630101631520730:b:=a
theorem tw12471953452538067738:b:=a
theorem tw10025939653893762810:b:=a
theorem tw1843069494061050586:b:=a
theorem tw1703787037371127418:b:=a
theorem tw11525676912685613626:b:=a
theorem tw15439470014521210394:b:=a
theorem tw2559766499450243546:b:=a
theorem tw5173863365709427002:b:=a
theorem tw6174425934059475226:b:=a
theorem tw6006319109710663930:b:=a
theorem tw12970559401969074394:b:=a
theorem tw14634073979155356858:b:=a
theorem tw11988791164392203450:b:=a
theorem tw136664821181248666:b:=a
theorem tw12140143156566633626:b:=a
theorem tw4010748998055283802:b:=a
theorem tw13027476307691552197:b:=a
theorem tw4233384813098744229:b:=a
theorem tw10799859496475798949:b:=a
theorem tw7504047643412142437:b:=a
theorem tw13419053399154086245:b:=a
theorem tw9698476334106472741:b:=a
theorem tw2579236405869099269:b:=a
theorem tw8340021439675860165:b:=a
theorem tw9660098112454929605:b:=a
theorem tw11532247506027238565:b:=a
theorem tw8811100305171865733:b:=a
theorem tw6851955329971727461:b:=a
theorem tw313162833242435653:b:=a
theorem tw17080935561762858885:b:=a
theorem tw639046200223544165:b:=a
theorem tw6162347742743325541:b:=a
theorem tw3684360444483036997:b:=a
theorem tw17785139756876146501:b:=a
theorem tw4354524002262057637:b:=a
theorem tw12088193518926261925:b:=a
theorem tw10039051593973411397:b:=a
theorem tw16303353494578307556:b:=a
theorem tw11123940849299373444:b:=a
theorem tw11069381119670973828:b:=a
theorem tw11544511813081840004:b:=a
theorem tw15868114772141621604:b:=a
theorem tw16279090105561089380:b:=a
theorem tw17845555151887200516:b:=a
theorem tw14923670071346385124:b:=a
theorem tw235513418865916132:b:=a
theorem tw8111645109248839812:b:=a
theorem tw8029542367330888836:b:=a
theorem tw213968629322058852:b:=a
theorem tw9374546982626481220:b:=a
theorem tw492199102073264996:b:=a
theorem tw13413773102780936964:b:=a
theorem tw11459802081846657796:b:=a
theorem tw14272689235962831556:b:=a
theorem tw4353542072975554212:b:=a
theorem tw7157786752362035844:b:=a
theorem tw10299808896414815812:b:=a
theorem tw10276154427197974020:b:=a
theorem tw11803013465059680999:b:=a
theorem tw4467746108834173639:b:=a
theorem tw9478197547133901479:b:=a
theorem tw4438215176688847527:b:=a
theorem tw14344890539288842887:b:=a
theorem tw17141877671030991431:b:=a
theorem tw10368985968303298087:b:=a
theorem tw13690952252946893255:b:=a
theorem tw17162257707215209863:b:=a
theorem tw1718986142351596935:b:=a
theorem tw2640846302877901127:b:=a
theorem tw16283108935132643527:b:=a
theorem tw1749611042544707751:b:=a
theorem tw18158992704695795847:b:=a
theorem tw913994113119111271:b:=a
theorem tw1197077547489290311:b:=a
theorem tw17902102044906572839:b:=a
theorem tw9422453184885282855:b:=a
theorem tw8254349121820263431:b:=a
theorem tw1376456054329906119:b:=a
theorem tw9587546554045730759:b:=a
theorem tw4715099837501040487:b:=a
theorem tw15195839409757868871:b:=a
theorem tw5239878589000121030:b:=a
theorem tw9263817718510207686:b:=a
theorem tw6025174596789975718:b:=a
theorem tw7846175711214647942:b:=a
theorem tw7610920845387468358:b:=a
theorem tw10220254956869496294:b:=a
theorem tw5532497422332057030:b:=a
theorem tw5054408316875056550:b:=a
theorem tw11365660377988261254:b:=a
theorem tw14743335843027865958:b:=a
theorem tw17995889014070323526:b:=a
theorem tw1532524056247730438:b:=a
theorem tw15523045578576312550:b:=a
theorem tw2557975854093210822:b:=a
theorem tw13098315239343302822:b:=a
theorem tw5963637155786408038:b:=a
theorem tw4345439356465463398:b:=a
theorem tw5053189302339575910:b:=a
theorem tw1015609074458240070:b:=a
theorem tw1870245204977187878:b:=a
theorem tw10264963870437629926:b:=a
theorem tw14244418677046015878:b:=a
theorem tw10573131706101785446:b:=a
theorem tw11832099691808199494:b:=a
theorem tw549287277822895910:b:=a
theorem tw3386849734040978577:b:=a
theorem tw1942051602886217809:b:=a
theorem tw13333746081697094673:b:=a
theorem tw14453272642409332689:b:=a
theorem tw6247014576227384241:b:=a
theorem tw17366700545648762801:b:=a
theorem tw4818946750284272529:b:=a
theorem tw9705479644699734897:b:=a
theorem tw16845543892664821585:b:=a
theorem tw13164022115207741265:b:=a
theorem tw15112181976908362545:b:=a
theorem tw5771871109714081553:b:=a
theorem tw18151045202421935825:b:=a
theorem tw8117391917465164497:b:=a
theorem tw8295038927117941457:b:=a
theorem tw14728628675356552881:b:=a
theorem tw4723719139214990001:b:=a
theorem tw11278997964507242065:b:=a
theorem tw17396773869091003985:b:=a
theorem tw5819881759104407025:b:=a
theorem tw18307782141683446225:b:=a
theorem tw6410944775601471921:b:=a
theorem tw9135645082107177361:b:=a
theorem tw5560280071254162705:b:=a
theorem tw14994074113534779633:b:=a
theorem tw12948617627650730225:b:=a
theorem tw786094831931313952:b:=a
theorem tw6297565451044320032:b:=a
theorem tw7467562741058055936:b:=a
theorem tw14085565817472015104:b:=a
theorem tw435882679647252128:b:=a
theorem tw849703733466848832:b:=a
theorem tw8790402692317564448:b:=a
theorem tw4672779633814417920:b:=a
theorem tw13130634100782538208:b:=a
theorem tw2336391474722092480:b:=a
theorem tw9894011442180785568:b:=a
theorem tw12090325086817203584:b:=a
theorem tw5953241330019305760:b:=a
theorem tw16920205743150437632:b:=a
theorem tw7315336400894172352:b:=a
theorem tw13115313561894977696:b:=a
theorem tw7122522634870910080:b:=a
theorem tw12305740825559095392:b:=a
theorem tw13820589211563333696:b:=a
theorem tw3091373051338161184:b:=a
theorem tw15957812215148790752:b:=a
theorem tw1730278382627686304:b:=a
theorem tw11706786155693529984:b:=a
theorem tw17931009417449253760:b:=a
theorem tw12075815784231484256:b:=a
theorem tw2583998005003841875:b:=a
theorem tw3877775141636932947:b:=a
theorem tw13624750970400781523:b:=a
theorem tw1602872230274703571:b:=a
theorem tw4437075796768957555:b:=a
theorem tw10950215850760720499:b:=a
theorem tw8399612399511254035:b:=a
theorem tw12063578634440977395:b:=a
theorem tw14687861835507283955:b:=a
theorem tw345149948849818547:b:=a
theorem tw2119535587162745747:b:=a
theorem tw15034059659921750899:b:=a
theorem tw11843227765019929427:b:=a
theorem tw13845330818103597811:b:=a
theorem tw182085993209454163:b:=a
theorem tw8347727899229660723:b:=a
theorem tw13845589340078628339:b:=a
theorem tw17730527728914505203:b:=a
theorem tw3967586194984535394:b:=a
theorem tw4411023655992342882:b:=a
theorem tw15136191720933423330:b:=a
theorem tw17598394590503455874:b:=a
theorem tw3984390146894187586:b:=a
theorem tw14602663014844991490:b:=a
theorem tw3642128467126040546:b:=a
theorem tw10378560078717160386:b:=a
theorem tw9908744308281599842:b:=a
theorem tw1927575321421717314:b:=a
theorem tw12061835471628706594:b:=a
theorem tw14308585768861374242:b:=a
theorem tw15202927352798965538:b:=a
theorem tw9277018404501582562:b:=a
theorem tw648044070549768898:b:=a
theorem tw5649570740919569090:b:=a
theorem tw8045603530268534402:b:=a
theorem tw4461161561260992130:b:=a
theorem tw4779258382766106178:b:=a
theorem tw10759439835099858466:b:=a
theorem tw18262819426917797410:b:=a
theorem tw17381242370366989858:b:=a
theorem tw8854337521023304194:b:=a
theorem tw13106394597487359458:b:=a
theorem tw8465040191591554829:b:=a
theorem tw4879247024764401421:b:=a
theorem tw9452451230137310861:b:=a
theorem tw13077954509809675917:b:=a
theorem tw13904035283495590509:b:=a
theorem tw14749467636911627885:b:=a
theorem tw7947576140506295917:b:=a
theorem tw5785325069539357261:b:=a
theorem tw9692103407085612493:b:=a
theorem tw2992382429950627245:b:=a
theorem tw4068166539211329933:b:=a
theorem tw3234371213466577165:b:=a
theorem tw3792145491279574221:b:=a
theorem tw2677117549827461325:b:=a
theorem tw11029320984923723949:b:=a
theorem tw16511911659098382445:b:=a
theorem tw10794181966558263309:b:=a
theorem tw16457079593066098637:b:=a
theorem tw17267213477868368845:b:=a
theorem tw3384071779985346445:b:=a
theorem tw14546050853885536109:b:=a
theorem tw7957219923987214124:b:=a
theorem tw4823811546691698476:b:=a
theorem tw16731225201783657228:b:=a
theorem tw11174325309320211180:b:=a
theorem tw17018223111374746348:b:=a
theorem tw15501100593391469260:b:=a
theorem tw12651977592309349036:b:=a
theorem tw3384624319835417228:b:=a
theorem tw18286912308045921836:b:=a
theorem tw15055824761783180844:b:=a
theorem tw10258460679286315564:b:=a
theorem tw12037869366393258444:b:=a
theorem tw5693423414358172012:b:=a
theorem tw15245382947548149996:b:=a
theorem tw13687363082235717836:b:=a
theorem tw2030534055365814476:b:=a
theorem tw1086487997228529836:b:=a
theorem tw7377926980811318444:b:=a
theorem tw7520246668372660396:b:=a
theorem tw5094560405554198540:b:=a
theorem tw2839396071937645548:b:=a
theorem tw14818981959643681740:b:=a
theorem tw958059553922127724:b:=a
theorem tw6466376493595760460:b:=a
theorem tw15649567064822280012:b:=a
theorem tw15746829393528950735:b:=a
theorem tw13862477755036285871:b:=a
theorem tw5869259884826417071:b:=a
theorem tw11733064875725788047:b:=a
theorem tw4710411263259812751:b:=a
theorem tw15908826260368654191:b:=a
theorem tw17406017165585332047:b:=a
theorem tw16042163635390385999:b:=a
theorem tw5888381821077397231:b:=a
theorem tw16057758677162917551:b:=a
theorem tw2976367750211420751:b:=a
theorem tw15653263454419729967:b:=a
theorem tw13221281296035822127:b:=a
theorem tw1392452666801582639:b:=a
theorem tw16164172524513819151:b:=a
theorem tw6638064290541289999:b:=a
theorem tw16257243163597755887:b:=a
theorem tw5135508395096895983:b:=a
theorem tw6868134680921317839:b:=a
theorem tw4589036506196029903:b:=a
theorem tw14651721194038572399:b:=a
theorem tw6029284978426512751:b:=a
theorem tw17400462863334538415:b:=a
theorem tw11195562969854927023:b:=a
theorem tw2227252872603578479:b:=a
theorem tw10404097901661300847:b:=a
theorem tw10452901377575369807:b:=a
theorem tw5638279171501373486:b:=a
theorem tw1977223728640867310:b:=a
theorem tw3941507750193259502:b:=a
theorem tw14750047793612482446:b:=a
theorem tw17708367684574864270:b:=a
theorem tw4307947586335389582:b:=a
theorem tw803925669063515982:b:=a
theorem tw14549019432682370862:b:=a
theorem tw12058560692690393870:b:=a
theorem tw4784593127746602766:b:=a
theorem tw4537644800562169582:b:=a
theorem tw3123580321961907950:b:=a
theorem tw16857131453892677262:b:=a
theorem tw10329998685121461870:b:=a
theorem tw6639858618200796782:b:=a
theorem tw987863152320755310:b:=a
theorem tw5042221190417164814:b:=a
theorem tw3363399521957621134:b:=a
theorem tw18259836455966848238:b:=a
theorem tw4585680263803158702:b:=a
theorem tw6445881088442487918:b:=a
theorem tw3254342194010499150:b:=a
theorem tw18096199279681139129:b:=a
theorem tw9217708049669248409:b:=a
theorem tw1748833836023834969:b:=a
theorem tw12222160163167171929:b:=a
theorem tw9199279864021863737:b:=a
theorem tw8471319422515391609:b:=a
theorem tw9139046269121252473:b:=a
theorem tw388621264567271545:b:=a
theorem tw10493834595598066745:b:=a
theorem tw276677007001494553:b:=a
theorem tw1603699410976827321:b:=a
theorem tw4272991709166385081:b:=a
theorem tw13299597022216350649:b:=a
theorem tw13580376054869608345:b:=a
theorem tw11826271327623209849:b:=a
theorem tw17902953349528090393:b:=a
theorem tw13806687023005600537:b:=a
theorem tw15774621881763043033:b:=a
theorem tw9273884247590230617:b:=a
theorem tw16934591872396897881:b:=a
theorem tw15093413009589144121:b:=a
theorem tw17476570349251057145:b:=a
theorem tw9995237975669916153:b:=a
theorem tw4865761464628345992:b:=a
theorem tw8387433281956722760:b:=a
theorem tw10967044359998841896:b:=a
theorem tw424069370923968552:b:=a
theorem tw9590621458923948008:b:=a
theorem tw8975268661881989064:b:=a
theorem tw2606470469088363432:b:=a
theorem tw14010113165808486152:b:=a
theorem tw4123169503654434536:b:=a
theorem tw15906302081346821832:b:=a
theorem tw5623965946101881448:b:=a
theorem tw583938587808993832:b:=a
theorem tw5895881576986966472:b:=a
theorem tw5551539410971360680:b:=a
theorem tw10288175850217817480:b:=a
theorem tw7832189214867717480:b:=a
theorem tw71911515675924808:b:=a
theorem tw11015937420302520648:b:=a
theorem tw8268820506109548840:b:=a
theorem tw12267187754053764392:b:=a
theorem tw8516009224963387688:b:=a
theorem tw11181912621315494152:b:=a
theorem tw10348482739567702248:b:=a
theorem tw16790046663369386216:b:=a
theorem tw4468535814268000424:b:=a
theorem tw6599948503501391016:b:=a
theorem tw14676437598541173339:b:=a
theorem tw16770816689407437371:b:=a
theorem tw7382417672751542811:b:=a
theorem tw5212288772364191259:b:=a
theorem tw4106473868455095803:b:=a
theorem tw649811881958927803:b:=a
theorem tw15784017642773476763:b:=a
theorem tw11769442162277582235:b:=a
theorem tw17290365645105797531:b:=a
theorem tw5725929634590296443:b:=a
theorem tw12455786060574636379:b:=a
theorem tw15204752299569258843:b:=a
theorem tw11783319748269489467:b:=a
theorem tw16825032005097359643:b:=a
theorem tw6761504395258623259:b:=a
theorem tw4442641050987223259:b:=a
theorem tw14719550011477615835:b:=a
theorem tw3866597157131720699:b:=a
theorem tw17721677832950476763:b:=a
theorem tw16491386244722986971:b:=a
theorem tw874356928340665275:b:=a
theorem tw8375025492100020155:b:=a
theorem tw16797184183926657979:b:=a
theorem tw13411763302624720763:b:=a
theorem tw17367549748302496571:b:=a
theorem tw16151646685459437371:b:=a
theorem tw15400825269745214858:b:=a
theorem tw9107969481838321034:b:=a
theorem tw17640469961910994282:b:=a
theorem tw8881053901532850506:b:=a
theorem tw10201479039928739114:b:=a
theorem tw9065668166084651306:b:=a
theorem tw3051179349844081930:b:=a
theorem tw8543496377773153546:b:=a
theorem tw17700282664233227498:b:=a
theorem tw12036093787740083402:b:=a
theorem tw5442826365545149642:b:=a
theorem tw7428568756283234474:b:=a
theorem tw3876489156164198570:b:=a
theorem tw7005039676606956682:b:=a
theorem tw14686101316482803818:b:=a
theorem tw15502956778018239594:b:=a
theorem tw11036758897257484330:b:=a
theorem tw15146103721878423594:b:=a
theorem tw6019658241769691146:b:=a
theorem tw3441409772559074282:b:=a
theorem tw18034725301702039530:b:=a
theorem tw1014797876423715818:b:=a
theorem tw4444009817031745482:b:=a
theorem tw11358502264817317802:b:=a
theorem tw5019887120982125482:b:=a
theorem tw10117258379856456586:b:=a
theorem tw2301119548390886250:b:=a
theorem tw5474900035349058346:b:=a
theorem tw12537618027711985322:b:=a
theorem tw8499824054950934154:b:=a
theorem tw11970764379194882634:b:=a
theorem tw16157911690019416618:b:=a
theorem tw8539543524028370410:b:=a
theorem tw12552628994171174346:b:=a
theorem tw5943875190238721813:b:=a
theorem tw10008138695368546069:b:=a
theorem tw4988643804929710837:b:=a
theorem tw873692714590500565:b:=a
theorem tw3286303094088625845:b:=a
theorem tw16278831556584173205:b:=a
theorem tw5807360718988829301:b:=a
theorem tw15554521191671767573:b:=a
theorem tw9419901579510529493:b:=a
theorem tw9403981450606985589:b:=a
theorem tw12138074725563962741:b:=a
theorem tw17235075417753588053:b:=a
theorem tw17241811159923645749:b:=a
theorem tw11768673461136657685:b:=a
theorem tw12992810105890499861:b:=a
theorem tw15851378575523163349:b:=a
theorem tw1899458491305832661:b:=a
theorem tw4139164952313182389:b:=a
theorem tw17130366427988946101:b:=a
theorem tw15186516069630842005:b:=a
theorem tw10830804258138022005:b:=a
theorem tw9020827688620079189:b:=a
theorem tw17242871064494795861:b:=a
theorem tw5210272273406839829:b:=a
theorem tw14402112169656365077:b:=a
theorem tw13183244089728854037:b:=a
theorem tw503020343541733365:b:=a
theorem tw10946632783667391413:b:=a
theorem tw16535250835151136661:b:=a
theorem tw8986773830408390549:b:=a
theorem tw6213649256091876245:b:=a
theorem tw15009839553787740053:b:=a
theorem tw5848529191209444213:b:=a
theorem tw18357080384043686773:b:=a
theorem tw795166663298206549:b:=a
theorem tw2827974052821084980:b:=a
theorem tw421935934446684916:b:=a
theorem tw15446009312416871028:b:=a
theorem tw15477174796051728948:b:=a
theorem tw9204181298827538964:b:=a
theorem tw3208983799346224596:b:=a
theorem tw10897058314352117172:b:=a
theorem tw16421985432762287540:b:=a
theorem tw13646141323386708340:b:=a
theorem tw5052655592660601140:b:=a
theorem tw4914187963775056180:b:=a
theorem tw189957778981979412:b:=a
theorem tw8605451221183978772:b:=a
theorem tw16113154150621482164:b:=a
theorem tw8747225909370856628:b:=a
theorem tw15317622406079630484:b:=a
theorem tw10744289331776092308:b:=a
theorem tw1008927453326127252:b:=a
theorem tw17417134445446866996:b:=a
theorem tw12792560782631848884:b:=a
theorem tw1963927932006658964:b:=a
theorem tw12701673790667520916:b:=a
theorem tw10106849788883696500:b:=a
theorem tw15652273446001149303:b:=a
theorem tw13666200758026301815:b:=a
theorem tw10741614104842205527:b:=a
theorem tw7650843897380336983:b:=a
theorem tw8684091615174019415:b:=a
theorem tw13153459895639781559:b:=a
theorem tw9212885957106331799:b:=a
theorem tw6250907296416119927:b:=a
theorem tw18418163388265055351:b:=a
theorem tw7886671914318792823:b:=a
theorem tw17000417486891275351:b:=a
theorem tw5729820585180746807:b:=a
theorem tw320663027082809367:b:=a
theorem tw6899318243591563287:b:=a
theorem tw4075982730449226775:b:=a
theorem tw7423995504417635319:b:=a
theorem tw5887614037013312503:b:=a
theorem tw6701455840479028119:b:=a
theorem tw4801615164205943671:b:=a
theorem tw5861992985197788023:b:=a
theorem tw13984960675530547031:b:=a
theorem tw2866727230905291575:b:=a
theorem tw11723812092952050487:b:=a
theorem tw5448606264799531703:b:=a
theorem tw9130431408158511735:b:=a
theorem tw1260982454535828055:b:=a
theorem tw2645653581256997463:b:=a
theorem tw7851879144468358711:b:=a
theorem tw14439855246839841239:b:=a
theorem tw14540584568297019863:b:=a
theorem tw9161953215654780343:b:=a
theorem tw15637210937416667543:b:=a
theorem tw9640736148372577654:b:=a
theorem tw1489637710363936086:b:=a
theorem tw8727601479551535350:b:=a
theorem tw10915555320769006806:b:=a
theorem tw9703911459138141398:b:=a
theorem tw15494635530342909046:b:=a
theorem tw682387860032634998:b:=a
theorem tw6872770868825302038:b:=a
theorem tw12966921599575501814:b:=a
theorem tw16502086316208131030:b:=a
theorem tw17062303654442824566:b:=a
theorem tw5638326246023977814:b:=a
theorem tw12148402895959253846:b:=a
theorem tw10976357266076197718:b:=a
theorem tw1591369688877821750:b:=a
theorem tw4966426346815293174:b:=a
theorem tw7492282939916133046:b:=a
theorem tw5504735462457646678:b:=a
theorem tw8799274031415074230:b:=a
theorem tw15007711174959187350:b:=a
theorem tw9453055608863138198:b:=a
theorem tw11093971221850220321:b:=a
theorem tw15064284824427983649:b:=a
theorem tw12696067702188606209:b:=a
theorem tw11508561763276512001:b:=a
theorem tw12052522331434997409:b:=a
theorem tw3157576013233416865:b:=a
theorem tw1988860325612893793:b:=a
theorem tw6162364922534251105:b:=a
theorem tw13152119473509518913:b:=a
theorem tw17388322445352532513:b:=a
theorem tw14696190960566010369:b:=a
theorem tw11691906364212953569:b:=a
theorem tw2946812211212698081:b:=a
theorem tw11675734157263972801:b:=a
theorem tw10742665274599234977:b:=a
theorem tw11727766601727481153:b:=a
theorem tw4307854778998846753:b:=a
theorem tw8694281948360684833:b:=a
theorem tw9896569012628243745:b:=a
theorem tw4617462710505454785:b:=a
theorem tw59610466508981409:b:=a
theorem tw6745579524872026177:b:=a
theorem tw3348548645256065953:b:=a
theorem tw15828937723850993537:b:=a
theorem tw15048359651078990657:b:=a
theorem tw14376284930984273328:b:=a
theorem tw2672009845926141328:b:=a
theorem tw13322218697898461520:b:=a
theorem tw7361980138996229456:b:=a
theorem tw8767162312226621744:b:=a
theorem tw5551146680185047088:b:=a
theorem tw7939509773815295024:b:=a
theorem tw15780016309524861968:b:=a
theorem tw2561680327104795600:b:=a
theorem tw1784239526468727728:b:=a
theorem tw7454772617442421648:b:=a
theorem tw12351634428365401968:b:=a
theorem tw11974853369823336304:b:=a
theorem tw14800044285562102608:b:=a
theorem tw13022932587272673104:b:=a
theorem tw15970884300706852656:b:=a
theorem tw14550254318476417808:b:=a
theorem tw1383364132678636240:b:=a
theorem tw12000422607350325936:b:=a
theorem tw15696802737486855824:b:=a
theorem tw5220590807595517456:b:=a
theorem tw12036614333333821968:b:=a
theorem tw2578451858965747216:b:=a
theorem tw17238667672232973840:b:=a
theorem tw5248215604580728304:b:=a
theorem tw4628994870132436963:b:=a
theorem tw10459249576834357155:b:=a
theorem tw16864317202143270659:b:=a
theorem tw13082274649893839619:b:=a
theorem tw2077802865874653923:b:=a
theorem tw6437082932112642755:b:=a
theorem tw5678096350429716131:b:=a
theorem tw18022707603774245539:b:=a
theorem tw14096412144822882979:b:=a
theorem tw11050180103202911843:b:=a
theorem tw7069670815286169187:b:=a
theorem tw8580917814043765347:b:=a
theorem tw11738840697218012611:b:=a
theorem tw259440452670147011:b:=a
theorem tw8740231728095810979:b:=a
theorem tw9860839744235460931:b:=a
theorem tw11504971652016508163:b:=a
theorem tw11633421207513368771:b:=a
theorem tw14643288192388945091:b:=a
theorem tw4516843598818716835:b:=a
theorem tw11100432865822012579:b:=a
theorem tw10368878087774819395:b:=a
theorem tw2577832879084350531:b:=a
theorem tw14560568434970661955:b:=a
theorem tw10230630962129374866:b:=a
theorem tw14449328000473523826:b:=a
theorem tw5860384908857715282:b:=a
theorem tw15722649349844944370:b:=a
theorem tw17357751237328491954:b:=a
theorem tw3929879014718706098:b:=a
theorem tw9719761032641869170:b:=a
theorem tw15937717869349383442:b:=a
theorem tw16125970282021028114:b:=a
theorem tw9794185238273313010:b:=a
theorem tw3967385794342308018:b:=a
theorem tw9687525066574166066:b:=a
theorem tw12633856716250721330:b:=a
theorem tw11284741427282802706:b:=a
theorem tw16296741492028924914:b:=a
theorem tw12176052226552065970:b:=a
theorem tw12094607633297295250:b:=a
theorem tw14273909980169892989:b:=a
theorem tw3843635803503083581:b:=a
theorem tw13762790834646372381:b:=a
theorem tw2550342753548320797:b:=a
theorem tw628921960282601469:b:=a
theorem tw6468931863905922045:b:=a
theorem tw11312611474909903837:b:=a
theorem tw16094774349883773917:b:=a
theorem tw16346494062282398685:b:=a
theorem tw12033117453529007037:b:=a
theorem tw7310037166245577533:b:=a
theorem tw6073101902419784445:b:=a
theorem tw1717374873682964093:b:=a
theorem tw17744361620601097853:b:=a
theorem tw6247388040445225533:b:=a
theorem tw6843549570066539069:b:=a
theorem tw17268419835620654525:b:=a
theorem tw4464236808994564541:b:=a
theorem tw8917031192577686941:b:=a
theorem tw6303321901158845821:b:=a
theorem tw5895087203208736093:b:=a
theorem tw13947582182644543837:b:=a
theorem tw4000351324708012349:b:=a
theorem tw5755647318259069117:b:=a
theorem tw15419408578054159549:b:=a
theorem tw4035162712915073213:b:=a
theorem tw11115331900399722685:b:=a
theorem tw5550394545874602141:b:=a
theorem tw15939308501039664156:b:=a
theorem tw15858495389581903868:b:=a
theorem tw5928871537615719388:b:=a
theorem tw3965947341386157980:b:=a
theorem tw15042801872946194300:b:=a
theorem tw5682556095859679100:b:=a
theorem tw4233019482717753212:b:=a
theorem tw1231429104656977724:b:=a
theorem tw808598788154281660:b:=a
theorem tw3068548958972912284:b:=a
theorem tw5354852208959946364:b:=a
theorem tw12916053030108864956:b:=a
theorem tw2307325973399574972:b:=a
theorem tw4503185311980885404:b:=a
theorem tw2125771168274351484:b:=a
theorem tw9790779477722398044:b:=a
theorem tw16881464997092019516:b:=a
theorem tw4626168538469464380:b:=a
theorem tw18114697081664212252:b:=a
theorem tw14093367838591444188:b:=a
theorem tw109538668594204031:b:=a
theorem tw681565605547305343:b:=a
theorem tw9138614931340205407:b:=a
theorem tw3234397955641424127:b:=a
theorem tw11937436910073016479:b:=a
theorem tw9402436540835646527:b:=a
theorem tw1945937849883449407:b:=a
theorem tw14417332674330252351:b:=a
theorem tw5925429264058314783:b:=a
theorem tw14502805072318331935:b:=a
theorem tw3041595059951745023:b:=a
theorem tw18430792348659486719:b:=a
theorem tw14253520294417548287:b:=a
theorem tw15924671747560224607:b:=a
theorem tw6076909026256498431:b:=a
theorem tw15012220188124478175:b:=a
theorem tw14560151058249172671:b:=a
theorem tw18203633683538330271:b:=a
theorem tw10057735529955101311:b:=a
theorem tw9908393867340861983:b:=a
theorem tw15943709992385389087:b:=a
theorem tw18187596644321970591:b:=a
theorem tw8870871965063039294:b:=a
theorem tw2984089592406178110:b:=a
theorem tw16992217201052548382:b:=a
theorem tw15242547866358783262:b:=a
theorem tw8760007058646460670:b:=a
theorem tw13450917498669164734:b:=a
theorem tw15672392169254726846:b:=a
theorem tw8709822918732650654:b:=a
theorem tw12164037220293038238:b:=a
theorem tw11248893805914848414:b:=a
theorem tw8834083851337196702:b:=a
theorem tw9595480601497005118:b:=a
theorem tw2085769975882680318:b:=a
theorem tw3587028133639282654:b:=a
theorem tw1853657212853486462:b:=a
theorem tw16501919464665421662:b:=a
theorem tw13886533062365426526:b:=a
theorem tw7325855467993552702:b:=a
theorem tw6489698407543267038:b:=a
theorem tw7748773687501232702:b:=a
theorem tw8409892546157573630:b:=a
theorem tw17232779535406105086:b:=a
theorem tw18179373540886999518:b:=a
theorem tw1921475000402922910:b:=a
theorem tw16846047935365649960:b:=a
theorem tw9450636233848562531:b:=a
end X
set_option Elab.async true
open PySem PySem.W PyProof.Rows
set_option tactic.hygienic true
set_option maxHeartbeats 8000000 in
theorem X:PySem.Challenge.rw_pp0028_01.Holds:=by
 w_on;o_law;k_head;(case hw=>w_witness2)
 k_fill
 intro w aeL cr kK mh G je yW o aeM eb doc aeN aeO as jW zl y4 adM bw args zO ay adN adO adP adQ Jg;have adR:=kIn_of je;refine Ground.open G ?_;intro T B D aeP aeQ
 wrow_args adN adO adP adQ Jg
 all_goals (first|refine callC_kw (enter_call ?_)|refine enter_call ?_|refine callC_kw (enter_callW ?_)|refine enter_callW ?_|w_how)
 all_goals (rename Well _ _ _ _=>wl;rename ¬_<_=>kT)
 all_goals refine adL ⟨_,w,cr.heap,_⟩ ?hf adR cr _ _ _ _ _ _ _ _ _ rfl (topRead_of T) ?_ wl (λh' aR ag=>?_) adM
 case hf=>refine⟨?_,⟨?_,?_,?_,?_,?_⟩,⟨?_,?_,?_,?_,?_⟩,⟨?_,?_,?_,?_,?_⟩,⟨?_,?_,?_,?_,?_⟩,⟨?_,?_,?_,?_,?_⟩,⟨?_,?_,?_,?_,?_⟩,⟨?_,?_,?_,?_⟩,⟨?_,?_,?_,?_⟩,⟨?_,?_,?_,?_⟩,⟨?_,?_,?_,?_⟩,⟨?_,?_,?_,?_⟩,⟨?_,?_,?_,?_⟩,⟨?_,?_,?_,?_⟩,?_,?_,?_,?_,?_,?_,?_,?_,?_,?_,?_,?_,?_,?_,?_,?_,?_,?_,?_,?_,?_,?_,?_,λS a1 a2 a3 cv ec eV fM gS=>by unfold rS;kernel_rfl,λS a=>by unfold rS;kernel_rfl,?_,?_,?_,?_,?_,?_,?_,?_,?_⟩<;>kernel_rfl
 all_goals first|omega|skip
 all_goals refine GoodW.toG ⟨.inl ⟨.bool true, .bool true,[],rfl,λcls=>?_, .bool true,?_,λ_=>⟨.nil,λ_ aL=>nomatch aL⟩⟩,ag,rfl,bw⟩
 all_goals first|rfl|kernel_rfl|skip
end
end Mine.Tactic
theorem PySem.Challenge.cw_pp0028_01_holds : PySem.Challenge.rw_pp0028_01.Holds :=
 Mine.Tactic.X
