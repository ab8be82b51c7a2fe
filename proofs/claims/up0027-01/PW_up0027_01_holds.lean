import PyProof.Rows.All
import PySem.Value
import Wide.All
import OpenK.AllK
import Wide.FinOn
import KE.KDictSum
import PyProof.AssignAttr
import PyProof.RulesAssignMore
import PyProof.Rows.TupAssign
import PyProof.Rows.DictMethods
import KE.KNest
import PySem.Challenge.RW_up0027_01
set_option Elab.async false
set_option bootstrap.genMatcherCode false
set_option linter.all false
set_option maxRecDepth 100000
set_option maxHeartbeats 8000000
section
namespace Mine
open PySem
noncomputable abbrev qa:Str:=⟨#[110,117,109,98,101,114]⟩
noncomputable abbrev qb:Str:=⟨#[108,101,97,102]⟩
noncomputable abbrev qc:Str:=⟨#[108,101,116,116,101,114,115]⟩
noncomputable abbrev qd:Str:=⟨#[116,101,120,116]⟩
noncomputable abbrev qe:Str:=⟨#[112,97,114,97,109]⟩
noncomputable abbrev qf:Str:=⟨#[115,111,114,116]⟩
noncomputable abbrev qg:Str:=⟨#[116,104,105,110,103]⟩
noncomputable abbrev qh:Str:=⟨#[116]⟩
noncomputable abbrev qi:Str:=⟨#[112,108,97,105,110]⟩
noncomputable abbrev qj:Str:=⟨#[116,97,98]⟩
noncomputable abbrev qk:Str:=⟨#[109,101,101,116]⟩
noncomputable abbrev ql:Str:=⟨#[115,101,108,102]⟩
noncomputable abbrev qm:Str:=⟨#[78,85,77,66,69,82]⟩
noncomputable abbrev qn:Str:=⟨#[83,84,82,73,78,71]⟩
noncomputable abbrev qo:Str:=⟨#[116,112,108]⟩
noncomputable abbrev qp:Str:=⟨#[107,101,121]⟩
noncomputable abbrev qr:Str:=⟨#[110,111,110,101]⟩
noncomputable abbrev qs:Str:=⟨#[107,101,121,111,102]⟩
noncomputable abbrev qt:Str:=⟨#[114,111,119]⟩
noncomputable abbrev qu:Str:=⟨#[110,111,116,101,115]⟩
noncomputable abbrev qv:Str:=⟨#[]⟩
noncomputable abbrev qw:Str:=⟨#[112,114,105,109]⟩
noncomputable abbrev qx:Str:=⟨#[112,97,114,97,109,115]⟩
noncomputable abbrev qy:Str:=⟨#[112,97,114,116]⟩
noncomputable abbrev qz:Str:=⟨#[99,101,108,108]⟩
noncomputable abbrev qA:Str:=⟨#[110,111,100,101]⟩
noncomputable abbrev qB:Str:=⟨#[110,97,114,114,111,119]⟩
noncomputable abbrev qC:Str:=⟨#[69,82,82]⟩
noncomputable abbrev qD:Str:=⟨#[97,116]⟩
noncomputable abbrev qE:Str:=⟨#[119,114,105,116,105,110,103]⟩
noncomputable abbrev qF:Str:=⟨#[104,111,108,100,101,114,115]⟩
noncomputable abbrev qG:Str:=⟨#[116,111,108,100]⟩
noncomputable abbrev qH:Str:=⟨#[89,95,77,65,80,80,69,68]⟩
noncomputable abbrev qI:Str:=⟨#[116,101,114,109]⟩
noncomputable abbrev qJ:Str:=⟨#[112,111,111,108]⟩
noncomputable abbrev qK:Str:=⟨#[70,65,77,95,79,84,72,69,82]⟩
noncomputable abbrev qL:Str:=⟨#[99,120]⟩
noncomputable abbrev qM:Str:=⟨#[89,95,84,80,76]⟩
noncomputable abbrev qN:Str:=⟨#[89,95,85,78,73,79,78]⟩
noncomputable abbrev qO:Str:=⟨#[89,95,73,78,84,69,82]⟩
noncomputable abbrev qP:Str:=⟨#[108,111,111,115,101]⟩
noncomputable abbrev qQ:Str:=⟨#[65,78,89]⟩
noncomputable abbrev qR:Str:=⟨#[97]⟩
theorem cp{g:Prop}(h:∀p:Prop,(g->p)->p):g:=h g id
theorem ff{C:Prop}(h:false=true):C:=nomatch h
theorem nn{α:Type}{x:α}{C:Prop}(h:none=some x):C:=nomatch h
theorem ns{α:Type}{x:α}{C:Prop}(h:some x=none):C:=nomatch h
theorem sp{α β:Type}{a c:α}{b d:β}(h:some (a,b)=some (c,d)):a=c/\b=d:=by cases h;exact⟨rfl,rfl⟩
theorem nle{a k m N M:Nat}(h:a+m<=N)(h1:k<=m:=by decide)(h2:N<=M:=by decide):a+k<=M:=Nat.le_trans (Nat.add_le_add_left h1 a) (Nat.le_trans h h2)
theorem xL{a m N M:Nat}(h:a+m<=N)(h2:N<=M:=by decide):a<=M:=Nat.le_trans (Nat.le_add_right a m) (Nat.le_trans h h2)
theorem nlt{a k m N M:Nat}(h:a+m<=N)(h1:k+1<=m:=by decide)(h2:N<=M:=by decide):a+k<M:=Nat.le_trans (Nat.add_le_add_left h1 a) (Nat.le_trans h h2)
structure A3(a b c:Prop):Prop where
 h1:a
 h2:b
 h3:c
structure A4(a b c d:Prop):Prop where
 h1:a
 h2:b
 h3:c
 h4:d
structure A5(a b c d e:Prop):Prop where
 h1:a
 h2:b
 h3:c
 h4:d
 h5:e
structure A6(a b c d e f:Prop):Prop where
 h1:a
 h2:b
 h3:c
 h4:d
 h5:e
 h6:f
structure A7(a b c d e f g:Prop):Prop where
 h1:a
 h2:b
 h3:c
 h4:d
 h5:e
 h6:f
 h7:g
structure A8(a b c d e f g i:Prop):Prop where
 h1:a
 h2:b
 h3:c
 h4:d
 h5:e
 h6:f
 h7:g
 h8:i
structure A9(a b c d e f g i j:Prop):Prop where
 h1:a
 h2:b
 h3:c
 h4:d
 h5:e
 h6:f
 h7:g
 h8:i
 h9:j
theorem z3{a b c C:Prop}(h:A3 a b c)(k:a->b->c->C):C:=k h.h1 h.h2 h.h3
theorem z4{a b c d C:Prop}(h:A4 a b c d)(k:a->b->c->d->C):C:=k h.h1 h.h2 h.h3 h.h4
theorem z5{a b c d e C:Prop}(h:A5 a b c d e)(k:a->b->c->d->e->C):C:=k h.h1 h.h2 h.h3 h.h4 h.h5
theorem z6{a b c d e f C:Prop}(h:A6 a b c d e f)(k:a->b->c->d->e->f->C):C:=k h.h1 h.h2 h.h3 h.h4 h.h5 h.h6
theorem z7{a b c d e f g C:Prop}(h:A7 a b c d e f g)(k:a->b->c->d->e->f->g->C):C:=k h.h1 h.h2 h.h3 h.h4 h.h5 h.h6 h.h7
theorem z8{a b c d e f g i C:Prop}(h:A8 a b c d e f g i)(k:a->b->c->d->e->f->g->i->C):C:=k h.h1 h.h2 h.h3 h.h4 h.h5 h.h6 h.h7 h.h8
theorem x02{p0 p1:Prop}{C:Prop}(h:p0/\p1)(k:p0->p1->C):C:=h.elim k
theorem x03{p0 p1 p2:Prop}{C:Prop}(h:p0/\p1/\p2)(k:p0->p1->p2->C):C:=h.elim λa h=>x02 h (k a)
theorem x04{p0 p1 p2 p3:Prop}{C:Prop}(h:p0/\p1/\p2/\p3)(k:p0->p1->p2->p3->C):C:=h.elim λa h=>x03 h (k a)
theorem x05{p0 p1 p2 p3 p4:Prop}{C:Prop}(h:p0/\p1/\p2/\p3/\p4)(k:p0->p1->p2->p3->p4->C):C:=h.elim λa h=>x04 h (k a)
theorem x06{p0 p1 p2 p3 p4 p5:Prop}{C:Prop}(h:p0/\p1/\p2/\p3/\p4/\p5)(k:p0->p1->p2->p3->p4->p5->C):C:=h.elim λa h=>x05 h (k a)
theorem x07{p0 p1 p2 p3 p4 p5 p6:Prop}{C:Prop}(h:p0/\p1/\p2/\p3/\p4/\p5/\p6)(k:p0->p1->p2->p3->p4->p5->p6->C):C:=h.elim λa h=>x06 h (k a)
theorem x11.{u0}{α0:Sort u0}{p0:α0->Prop}{C:Prop}(h:∃x0,p0 x0)(k:∀x0,p0 x0->C):C:=h.elim λa h=>k a h
theorem x12.{u0}{α0:Sort u0}{p0 p1:α0->Prop}{C:Prop}(h:∃x0,p0 x0/\p1 x0)(k:∀x0,p0 x0->p1 x0->C):C:=h.elim λa h=>x02 h (k a)
theorem x13.{u0}{α0:Sort u0}{p0 p1 p2:α0->Prop}{C:Prop}(h:∃x0,p0 x0/\p1 x0/\p2 x0)(k:∀x0,p0 x0->p1 x0->p2 x0->C):C:=h.elim λa h=>x03 h (k a)
theorem x14.{u0}{α0:Sort u0}{p0 p1 p2 p3:α0->Prop}{C:Prop}(h:∃x0,p0 x0/\p1 x0/\p2 x0/\p3 x0)(k:∀x0,p0 x0->p1 x0->p2 x0->p3 x0->C):C:=h.elim λa h=>x04 h (k a)
theorem x15.{u0}{α0:Sort u0}{p0 p1 p2 p3 p4:α0->Prop}{C:Prop}(h:∃x0,p0 x0/\p1 x0/\p2 x0/\p3 x0/\p4 x0)(k:∀x0,p0 x0->p1 x0->p2 x0->p3 x0->p4 x0->C):C:=h.elim λa h=>x05 h (k a)
theorem x16.{u0}{α0:Sort u0}{p0 p1 p2 p3 p4 p5:α0->Prop}{C:Prop}(h:∃x0,p0 x0/\p1 x0/\p2 x0/\p3 x0/\p4 x0/\p5 x0)(k:∀x0,p0 x0->p1 x0->p2 x0->p3 x0->p4 x0->p5 x0->C):C:=h.elim λa h=>x06 h (k a)
theorem x17.{u0}{α0:Sort u0}{p0 p1 p2 p3 p4 p5 p6:α0->Prop}{C:Prop}(h:∃x0,p0 x0/\p1 x0/\p2 x0/\p3 x0/\p4 x0/\p5 x0/\p6 x0)(k:∀x0,p0 x0->p1 x0->p2 x0->p3 x0->p4 x0->p5 x0->p6 x0->C):C:=h.elim λa h=>x07 h (k a)
theorem x21.{u0,u1}{α0:Sort u0}{α1:Sort u1}{p0:α0->α1->Prop}{C:Prop}(h:∃x0 x1,p0 x0 x1)(k:∀x0 x1,p0 x0 x1->C):C:=h.elim λa h=>x11 h (k a)
theorem x22.{u0,u1}{α0:Sort u0}{α1:Sort u1}{p0 p1:α0->α1->Prop}{C:Prop}(h:∃x0 x1,p0 x0 x1/\p1 x0 x1)(k:∀x0 x1,p0 x0 x1->p1 x0 x1->C):C:=h.elim λa h=>x12 h (k a)
theorem x23.{u0,u1}{α0:Sort u0}{α1:Sort u1}{p0 p1 p2:α0->α1->Prop}{C:Prop}(h:∃x0 x1,p0 x0 x1/\p1 x0 x1/\p2 x0 x1)(k:∀x0 x1,p0 x0 x1->p1 x0 x1->p2 x0 x1->C):C:=h.elim λa h=>x13 h (k a)
theorem x24.{u0,u1}{α0:Sort u0}{α1:Sort u1}{p0 p1 p2 p3:α0->α1->Prop}{C:Prop}(h:∃x0 x1,p0 x0 x1/\p1 x0 x1/\p2 x0 x1/\p3 x0 x1)(k:∀x0 x1,p0 x0 x1->p1 x0 x1->p2 x0 x1->p3 x0 x1->C):C:=h.elim λa h=>x14 h (k a)
theorem x25.{u0,u1}{α0:Sort u0}{α1:Sort u1}{p0 p1 p2 p3 p4:α0->α1->Prop}{C:Prop}(h:∃x0 x1,p0 x0 x1/\p1 x0 x1/\p2 x0 x1/\p3 x0 x1/\p4 x0 x1)(k:∀x0 x1,p0 x0 x1->p1 x0 x1->p2 x0 x1->p3 x0 x1->p4 x0 x1->C):C:=h.elim λa h=>x15 h (k a)
theorem x26.{u0,u1}{α0:Sort u0}{α1:Sort u1}{p0 p1 p2 p3 p4 p5:α0->α1->Prop}{C:Prop}(h:∃x0 x1,p0 x0 x1/\p1 x0 x1/\p2 x0 x1/\p3 x0 x1/\p4 x0 x1/\p5 x0 x1)(k:∀x0 x1,p0 x0 x1->p1 x0 x1->p2 x0 x1->p3 x0 x1->p4 x0 x1->p5 x0 x1->C):C:=h.elim λa h=>x16 h (k a)
theorem x31.{u0,u1,u2}{α0:Sort u0}{α1:Sort u1}{α2:Sort u2}{p0:α0->α1->α2->Prop}{C:Prop}(h:∃x0 x1 x2,p0 x0 x1 x2)(k:∀x0 x1 x2,p0 x0 x1 x2->C):C:=h.elim λa h=>x21 h (k a)
theorem x32.{u0,u1,u2}{α0:Sort u0}{α1:Sort u1}{α2:Sort u2}{p0 p1:α0->α1->α2->Prop}{C:Prop}(h:∃x0 x1 x2,p0 x0 x1 x2/\p1 x0 x1 x2)(k:∀x0 x1 x2,p0 x0 x1 x2->p1 x0 x1 x2->C):C:=h.elim λa h=>x22 h (k a)
theorem x33.{u0,u1,u2}{α0:Sort u0}{α1:Sort u1}{α2:Sort u2}{p0 p1 p2:α0->α1->α2->Prop}{C:Prop}(h:∃x0 x1 x2,p0 x0 x1 x2/\p1 x0 x1 x2/\p2 x0 x1 x2)(k:∀x0 x1 x2,p0 x0 x1 x2->p1 x0 x1 x2->p2 x0 x1 x2->C):C:=h.elim λa h=>x23 h (k a)
theorem x34.{u0,u1,u2}{α0:Sort u0}{α1:Sort u1}{α2:Sort u2}{p0 p1 p2 p3:α0->α1->α2->Prop}{C:Prop}(h:∃x0 x1 x2,p0 x0 x1 x2/\p1 x0 x1 x2/\p2 x0 x1 x2/\p3 x0 x1 x2)(k:∀x0 x1 x2,p0 x0 x1 x2->p1 x0 x1 x2->p2 x0 x1 x2->p3 x0 x1 x2->C):C:=h.elim λa h=>x24 h (k a)
theorem x35.{u0,u1,u2}{α0:Sort u0}{α1:Sort u1}{α2:Sort u2}{p0 p1 p2 p3 p4:α0->α1->α2->Prop}{C:Prop}(h:∃x0 x1 x2,p0 x0 x1 x2/\p1 x0 x1 x2/\p2 x0 x1 x2/\p3 x0 x1 x2/\p4 x0 x1 x2)(k:∀x0 x1 x2,p0 x0 x1 x2->p1 x0 x1 x2->p2 x0 x1 x2->p3 x0 x1 x2->p4 x0 x1 x2->C):C:=h.elim λa h=>x25 h (k a)
theorem x36.{u0,u1,u2}{α0:Sort u0}{α1:Sort u1}{α2:Sort u2}{p0 p1 p2 p3 p4 p5:α0->α1->α2->Prop}{C:Prop}(h:∃x0 x1 x2,p0 x0 x1 x2/\p1 x0 x1 x2/\p2 x0 x1 x2/\p3 x0 x1 x2/\p4 x0 x1 x2/\p5 x0 x1 x2)(k:∀x0 x1 x2,p0 x0 x1 x2->p1 x0 x1 x2->p2 x0 x1 x2->p3 x0 x1 x2->p4 x0 x1 x2->p5 x0 x1 x2->C):C:=h.elim λa h=>x26 h (k a)
theorem x41.{u0,u1,u2,u3}{α0:Sort u0}{α1:Sort u1}{α2:Sort u2}{α3:Sort u3}{p0:α0->α1->α2->α3->Prop}{C:Prop}(h:∃x0 x1 x2 x3,p0 x0 x1 x2 x3)(k:∀x0 x1 x2 x3,p0 x0 x1 x2 x3->C):C:=h.elim λa h=>x31 h (k a)
theorem x42.{u0,u1,u2,u3}{α0:Sort u0}{α1:Sort u1}{α2:Sort u2}{α3:Sort u3}{p0 p1:α0->α1->α2->α3->Prop}{C:Prop}(h:∃x0 x1 x2 x3,p0 x0 x1 x2 x3/\p1 x0 x1 x2 x3)(k:∀x0 x1 x2 x3,p0 x0 x1 x2 x3->p1 x0 x1 x2 x3->C):C:=h.elim λa h=>x32 h (k a)
theorem x44.{u0,u1,u2,u3}{α0:Sort u0}{α1:Sort u1}{α2:Sort u2}{α3:Sort u3}{p0 p1 p2 p3:α0->α1->α2->α3->Prop}{C:Prop}(h:∃x0 x1 x2 x3,p0 x0 x1 x2 x3/\p1 x0 x1 x2 x3/\p2 x0 x1 x2 x3/\p3 x0 x1 x2 x3)(k:∀x0 x1 x2 x3,p0 x0 x1 x2 x3->p1 x0 x1 x2 x3->p2 x0 x1 x2 x3->p3 x0 x1 x2 x3->C):C:=h.elim λa h=>x34 h (k a)
theorem x45.{u0,u1,u2,u3}{α0:Sort u0}{α1:Sort u1}{α2:Sort u2}{α3:Sort u3}{p0 p1 p2 p3 p4:α0->α1->α2->α3->Prop}{C:Prop}(h:∃x0 x1 x2 x3,p0 x0 x1 x2 x3/\p1 x0 x1 x2 x3/\p2 x0 x1 x2 x3/\p3 x0 x1 x2 x3/\p4 x0 x1 x2 x3)(k:∀x0 x1 x2 x3,p0 x0 x1 x2 x3->p1 x0 x1 x2 x3->p2 x0 x1 x2 x3->p3 x0 x1 x2 x3->p4 x0 x1 x2 x3->C):C:=h.elim λa h=>x35 h (k a)
theorem x46.{u0,u1,u2,u3}{α0:Sort u0}{α1:Sort u1}{α2:Sort u2}{α3:Sort u3}{p0 p1 p2 p3 p4 p5:α0->α1->α2->α3->Prop}{C:Prop}(h:∃x0 x1 x2 x3,p0 x0 x1 x2 x3/\p1 x0 x1 x2 x3/\p2 x0 x1 x2 x3/\p3 x0 x1 x2 x3/\p4 x0 x1 x2 x3/\p5 x0 x1 x2 x3)(k:∀x0 x1 x2 x3,p0 x0 x1 x2 x3->p1 x0 x1 x2 x3->p2 x0 x1 x2 x3->p3 x0 x1 x2 x3->p4 x0 x1 x2 x3->p5 x0 x1 x2 x3->C):C:=h.elim λa h=>x36 h (k a)
theorem x51.{u0,u1,u2,u3,u4}{α0:Sort u0}{α1:Sort u1}{α2:Sort u2}{α3:Sort u3}{α4:Sort u4}{p0:α0->α1->α2->α3->α4->Prop}{C:Prop}(h:∃x0 x1 x2 x3 x4,p0 x0 x1 x2 x3 x4)(k:∀x0 x1 x2 x3 x4,p0 x0 x1 x2 x3 x4->C):C:=h.elim λa h=>x41 h (k a)
theorem x52.{u0,u1,u2,u3,u4}{α0:Sort u0}{α1:Sort u1}{α2:Sort u2}{α3:Sort u3}{α4:Sort u4}{p0 p1:α0->α1->α2->α3->α4->Prop}{C:Prop}(h:∃x0 x1 x2 x3 x4,p0 x0 x1 x2 x3 x4/\p1 x0 x1 x2 x3 x4)(k:∀x0 x1 x2 x3 x4,p0 x0 x1 x2 x3 x4->p1 x0 x1 x2 x3 x4->C):C:=h.elim λa h=>x42 h (k a)
theorem x55.{u0,u1,u2,u3,u4}{α0:Sort u0}{α1:Sort u1}{α2:Sort u2}{α3:Sort u3}{α4:Sort u4}{p0 p1 p2 p3 p4:α0->α1->α2->α3->α4->Prop}{C:Prop}(h:∃x0 x1 x2 x3 x4,p0 x0 x1 x2 x3 x4/\p1 x0 x1 x2 x3 x4/\p2 x0 x1 x2 x3 x4/\p3 x0 x1 x2 x3 x4/\p4 x0 x1 x2 x3 x4)(k:∀x0 x1 x2 x3 x4,p0 x0 x1 x2 x3 x4->p1 x0 x1 x2 x3 x4->p2 x0 x1 x2 x3 x4->p3 x0 x1 x2 x3 x4->p4 x0 x1 x2 x3 x4->C):C:=h.elim λa h=>x45 h (k a)
theorem x56.{u0,u1,u2,u3,u4}{α0:Sort u0}{α1:Sort u1}{α2:Sort u2}{α3:Sort u3}{α4:Sort u4}{p0 p1 p2 p3 p4 p5:α0->α1->α2->α3->α4->Prop}{C:Prop}(h:∃x0 x1 x2 x3 x4,p0 x0 x1 x2 x3 x4/\p1 x0 x1 x2 x3 x4/\p2 x0 x1 x2 x3 x4/\p3 x0 x1 x2 x3 x4/\p4 x0 x1 x2 x3 x4/\p5 x0 x1 x2 x3 x4)(k:∀x0 x1 x2 x3 x4,p0 x0 x1 x2 x3 x4->p1 x0 x1 x2 x3 x4->p2 x0 x1 x2 x3 x4->p3 x0 x1 x2 x3 x4->p4 x0 x1 x2 x3 x4->p5 x0 x1 x2 x3 x4->C):C:=h.elim λa h=>x46 h (k a)
theorem x61.{u0,u1,u2,u3,u4,u5}{α0:Sort u0}{α1:Sort u1}{α2:Sort u2}{α3:Sort u3}{α4:Sort u4}{α5:Sort u5}{p0:α0->α1->α2->α3->α4->α5->Prop}{C:Prop}(h:∃x0 x1 x2 x3 x4 x5,p0 x0 x1 x2 x3 x4 x5)(k:∀x0 x1 x2 x3 x4 x5,p0 x0 x1 x2 x3 x4 x5->C):C:=h.elim λa h=>x51 h (k a)
theorem x62.{u0,u1,u2,u3,u4,u5}{α0:Sort u0}{α1:Sort u1}{α2:Sort u2}{α3:Sort u3}{α4:Sort u4}{α5:Sort u5}{p0 p1:α0->α1->α2->α3->α4->α5->Prop}{C:Prop}(h:∃x0 x1 x2 x3 x4 x5,p0 x0 x1 x2 x3 x4 x5/\p1 x0 x1 x2 x3 x4 x5)(k:∀x0 x1 x2 x3 x4 x5,p0 x0 x1 x2 x3 x4 x5->p1 x0 x1 x2 x3 x4 x5->C):C:=h.elim λa h=>x52 h (k a)
theorem x65.{u0,u1,u2,u3,u4,u5}{α0:Sort u0}{α1:Sort u1}{α2:Sort u2}{α3:Sort u3}{α4:Sort u4}{α5:Sort u5}{p0 p1 p2 p3 p4:α0->α1->α2->α3->α4->α5->Prop}{C:Prop}(h:∃x0 x1 x2 x3 x4 x5,p0 x0 x1 x2 x3 x4 x5/\p1 x0 x1 x2 x3 x4 x5/\p2 x0 x1 x2 x3 x4 x5/\p3 x0 x1 x2 x3 x4 x5/\p4 x0 x1 x2 x3 x4 x5)(k:∀x0 x1 x2 x3 x4 x5,p0 x0 x1 x2 x3 x4 x5->p1 x0 x1 x2 x3 x4 x5->p2 x0 x1 x2 x3 x4 x5->p3 x0 x1 x2 x3 x4 x5->p4 x0 x1 x2 x3 x4 x5->C):C:=h.elim λa h=>x55 h (k a)
theorem x72.{u0,u1,u2,u3,u4,u5,u6}{α0:Sort u0}{α1:Sort u1}{α2:Sort u2}{α3:Sort u3}{α4:Sort u4}{α5:Sort u5}{α6:Sort u6}{p0 p1:α0->α1->α2->α3->α4->α5->α6->Prop}{C:Prop}(h:∃x0 x1 x2 x3 x4 x5 x6,p0 x0 x1 x2 x3 x4 x5 x6/\p1 x0 x1 x2 x3 x4 x5 x6)(k:∀x0 x1 x2 x3 x4 x5 x6,p0 x0 x1 x2 x3 x4 x5 x6->p1 x0 x1 x2 x3 x4 x5 x6->C):C:=h.elim λa h=>x62 h (k a)
theorem x75.{u0,u1,u2,u3,u4,u5,u6}{α0:Sort u0}{α1:Sort u1}{α2:Sort u2}{α3:Sort u3}{α4:Sort u4}{α5:Sort u5}{α6:Sort u6}{p0 p1 p2 p3 p4:α0->α1->α2->α3->α4->α5->α6->Prop}{C:Prop}(h:∃x0 x1 x2 x3 x4 x5 x6,p0 x0 x1 x2 x3 x4 x5 x6/\p1 x0 x1 x2 x3 x4 x5 x6/\p2 x0 x1 x2 x3 x4 x5 x6/\p3 x0 x1 x2 x3 x4 x5 x6/\p4 x0 x1 x2 x3 x4 x5 x6)(k:∀x0 x1 x2 x3 x4 x5 x6,p0 x0 x1 x2 x3 x4 x5 x6->p1 x0 x1 x2 x3 x4 x5 x6->p2 x0 x1 x2 x3 x4 x5 x6->p3 x0 x1 x2 x3 x4 x5 x6->p4 x0 x1 x2 x3 x4 x5 x6->C):C:=h.elim λa h=>x65 h (k a)
theorem i03{p0 p1 p2:Prop}(h0:p0)(h1:p1)(h2:p2):p0/\p1/\p2:=⟨h0,h1,h2⟩
theorem i04{p0 p1 p2 p3:Prop}(h0:p0)(h1:p1)(h2:p2)(h3:p3):p0/\p1/\p2/\p3:=⟨h0,i03 h1 h2 h3⟩
theorem i05{p0 p1 p2 p3 p4:Prop}(h0:p0)(h1:p1)(h2:p2)(h3:p3)(h4:p4):p0/\p1/\p2/\p3/\p4:=⟨h0,i04 h1 h2 h3 h4⟩
theorem i06{p0 p1 p2 p3 p4 p5:Prop}(h0:p0)(h1:p1)(h2:p2)(h3:p3)(h4:p4)(h5:p5):p0/\p1/\p2/\p3/\p4/\p5:=⟨h0,i05 h1 h2 h3 h4 h5⟩
theorem i07{p0 p1 p2 p3 p4 p5 p6:Prop}(h0:p0)(h1:p1)(h2:p2)(h3:p3)(h4:p4)(h5:p5)(h6:p6):p0/\p1/\p2/\p3/\p4/\p5/\p6:=⟨h0,i06 h1 h2 h3 h4 h5 h6⟩
theorem i08{p0 p1 p2 p3 p4 p5 p6 p7:Prop}(h0:p0)(h1:p1)(h2:p2)(h3:p3)(h4:p4)(h5:p5)(h6:p6)(h7:p7):p0/\p1/\p2/\p3/\p4/\p5/\p6/\p7:=⟨h0,i07 h1 h2 h3 h4 h5 h6 h7⟩
theorem i12.{u0}{α0:Sort u0}{p0 p1:α0->Prop}(x0:α0)(h0:p0 x0)(h1:p1 x0):∃x0,p0 x0/\p1 x0:=⟨x0,h0,h1⟩
theorem i13.{u0}{α0:Sort u0}{p0 p1 p2:α0->Prop}(x0:α0)(h0:p0 x0)(h1:p1 x0)(h2:p2 x0):∃x0,p0 x0/\p1 x0/\p2 x0:=⟨x0,i03 h0 h1 h2⟩
theorem i14.{u0}{α0:Sort u0}{p0 p1 p2 p3:α0->Prop}(x0:α0)(h0:p0 x0)(h1:p1 x0)(h2:p2 x0)(h3:p3 x0):∃x0,p0 x0/\p1 x0/\p2 x0/\p3 x0:=⟨x0,i04 h0 h1 h2 h3⟩
theorem i15.{u0}{α0:Sort u0}{p0 p1 p2 p3 p4:α0->Prop}(x0:α0)(h0:p0 x0)(h1:p1 x0)(h2:p2 x0)(h3:p3 x0)(h4:p4 x0):∃x0,p0 x0/\p1 x0/\p2 x0/\p3 x0/\p4 x0:=⟨x0,i05 h0 h1 h2 h3 h4⟩
theorem i16.{u0}{α0:Sort u0}{p0 p1 p2 p3 p4 p5:α0->Prop}(x0:α0)(h0:p0 x0)(h1:p1 x0)(h2:p2 x0)(h3:p3 x0)(h4:p4 x0)(h5:p5 x0):∃x0,p0 x0/\p1 x0/\p2 x0/\p3 x0/\p4 x0/\p5 x0:=⟨x0,i06 h0 h1 h2 h3 h4 h5⟩
theorem i17.{u0}{α0:Sort u0}{p0 p1 p2 p3 p4 p5 p6:α0->Prop}(x0:α0)(h0:p0 x0)(h1:p1 x0)(h2:p2 x0)(h3:p3 x0)(h4:p4 x0)(h5:p5 x0)(h6:p6 x0):∃x0,p0 x0/\p1 x0/\p2 x0/\p3 x0/\p4 x0/\p5 x0/\p6 x0:=⟨x0,i07 h0 h1 h2 h3 h4 h5 h6⟩
theorem i18.{u0}{α0:Sort u0}{p0 p1 p2 p3 p4 p5 p6 p7:α0->Prop}(x0:α0)(h0:p0 x0)(h1:p1 x0)(h2:p2 x0)(h3:p3 x0)(h4:p4 x0)(h5:p5 x0)(h6:p6 x0)(h7:p7 x0):∃x0,p0 x0/\p1 x0/\p2 x0/\p3 x0/\p4 x0/\p5 x0/\p6 x0/\p7 x0:=⟨x0,i08 h0 h1 h2 h3 h4 h5 h6 h7⟩
theorem i21.{u0,u1}{α0:Sort u0}{α1:Sort u1}{p0:α0->α1->Prop}(x0:α0)(x1:α1)(h0:p0 x0 x1):∃x0 x1,p0 x0 x1:=⟨x0,x1,h0⟩
theorem i22.{u0,u1}{α0:Sort u0}{α1:Sort u1}{p0 p1:α0->α1->Prop}(x0:α0)(x1:α1)(h0:p0 x0 x1)(h1:p1 x0 x1):∃x0 x1,p0 x0 x1/\p1 x0 x1:=⟨x0,i12 x1 h0 h1⟩
theorem i23.{u0,u1}{α0:Sort u0}{α1:Sort u1}{p0 p1 p2:α0->α1->Prop}(x0:α0)(x1:α1)(h0:p0 x0 x1)(h1:p1 x0 x1)(h2:p2 x0 x1):∃x0 x1,p0 x0 x1/\p1 x0 x1/\p2 x0 x1:=⟨x0,i13 x1 h0 h1 h2⟩
theorem i24.{u0,u1}{α0:Sort u0}{α1:Sort u1}{p0 p1 p2 p3:α0->α1->Prop}(x0:α0)(x1:α1)(h0:p0 x0 x1)(h1:p1 x0 x1)(h2:p2 x0 x1)(h3:p3 x0 x1):∃x0 x1,p0 x0 x1/\p1 x0 x1/\p2 x0 x1/\p3 x0 x1:=⟨x0,i14 x1 h0 h1 h2 h3⟩
theorem i25.{u0,u1}{α0:Sort u0}{α1:Sort u1}{p0 p1 p2 p3 p4:α0->α1->Prop}(x0:α0)(x1:α1)(h0:p0 x0 x1)(h1:p1 x0 x1)(h2:p2 x0 x1)(h3:p3 x0 x1)(h4:p4 x0 x1):∃x0 x1,p0 x0 x1/\p1 x0 x1/\p2 x0 x1/\p3 x0 x1/\p4 x0 x1:=⟨x0,i15 x1 h0 h1 h2 h3 h4⟩
theorem i26.{u0,u1}{α0:Sort u0}{α1:Sort u1}{p0 p1 p2 p3 p4 p5:α0->α1->Prop}(x0:α0)(x1:α1)(h0:p0 x0 x1)(h1:p1 x0 x1)(h2:p2 x0 x1)(h3:p3 x0 x1)(h4:p4 x0 x1)(h5:p5 x0 x1):∃x0 x1,p0 x0 x1/\p1 x0 x1/\p2 x0 x1/\p3 x0 x1/\p4 x0 x1/\p5 x0 x1:=⟨x0,i16 x1 h0 h1 h2 h3 h4 h5⟩
theorem i28.{u0,u1}{α0:Sort u0}{α1:Sort u1}{p0 p1 p2 p3 p4 p5 p6 p7:α0->α1->Prop}(x0:α0)(x1:α1)(h0:p0 x0 x1)(h1:p1 x0 x1)(h2:p2 x0 x1)(h3:p3 x0 x1)(h4:p4 x0 x1)(h5:p5 x0 x1)(h6:p6 x0 x1)(h7:p7 x0 x1):∃x0 x1,p0 x0 x1/\p1 x0 x1/\p2 x0 x1/\p3 x0 x1/\p4 x0 x1/\p5 x0 x1/\p6 x0 x1/\p7 x0 x1:=⟨x0,i18 x1 h0 h1 h2 h3 h4 h5 h6 h7⟩
theorem i31.{u0,u1,u2}{α0:Sort u0}{α1:Sort u1}{α2:Sort u2}{p0:α0->α1->α2->Prop}(x0:α0)(x1:α1)(x2:α2)(h0:p0 x0 x1 x2):∃x0 x1 x2,p0 x0 x1 x2:=⟨x0,i21 x1 x2 h0⟩
theorem i32.{u0,u1,u2}{α0:Sort u0}{α1:Sort u1}{α2:Sort u2}{p0 p1:α0->α1->α2->Prop}(x0:α0)(x1:α1)(x2:α2)(h0:p0 x0 x1 x2)(h1:p1 x0 x1 x2):∃x0 x1 x2,p0 x0 x1 x2/\p1 x0 x1 x2:=⟨x0,i22 x1 x2 h0 h1⟩
theorem i33.{u0,u1,u2}{α0:Sort u0}{α1:Sort u1}{α2:Sort u2}{p0 p1 p2:α0->α1->α2->Prop}(x0:α0)(x1:α1)(x2:α2)(h0:p0 x0 x1 x2)(h1:p1 x0 x1 x2)(h2:p2 x0 x1 x2):∃x0 x1 x2,p0 x0 x1 x2/\p1 x0 x1 x2/\p2 x0 x1 x2:=⟨x0,i23 x1 x2 h0 h1 h2⟩
theorem i34.{u0,u1,u2}{α0:Sort u0}{α1:Sort u1}{α2:Sort u2}{p0 p1 p2 p3:α0->α1->α2->Prop}(x0:α0)(x1:α1)(x2:α2)(h0:p0 x0 x1 x2)(h1:p1 x0 x1 x2)(h2:p2 x0 x1 x2)(h3:p3 x0 x1 x2):∃x0 x1 x2,p0 x0 x1 x2/\p1 x0 x1 x2/\p2 x0 x1 x2/\p3 x0 x1 x2:=⟨x0,i24 x1 x2 h0 h1 h2 h3⟩
theorem i35.{u0,u1,u2}{α0:Sort u0}{α1:Sort u1}{α2:Sort u2}{p0 p1 p2 p3 p4:α0->α1->α2->Prop}(x0:α0)(x1:α1)(x2:α2)(h0:p0 x0 x1 x2)(h1:p1 x0 x1 x2)(h2:p2 x0 x1 x2)(h3:p3 x0 x1 x2)(h4:p4 x0 x1 x2):∃x0 x1 x2,p0 x0 x1 x2/\p1 x0 x1 x2/\p2 x0 x1 x2/\p3 x0 x1 x2/\p4 x0 x1 x2:=⟨x0,i25 x1 x2 h0 h1 h2 h3 h4⟩
theorem i36.{u0,u1,u2}{α0:Sort u0}{α1:Sort u1}{α2:Sort u2}{p0 p1 p2 p3 p4 p5:α0->α1->α2->Prop}(x0:α0)(x1:α1)(x2:α2)(h0:p0 x0 x1 x2)(h1:p1 x0 x1 x2)(h2:p2 x0 x1 x2)(h3:p3 x0 x1 x2)(h4:p4 x0 x1 x2)(h5:p5 x0 x1 x2):∃x0 x1 x2,p0 x0 x1 x2/\p1 x0 x1 x2/\p2 x0 x1 x2/\p3 x0 x1 x2/\p4 x0 x1 x2/\p5 x0 x1 x2:=⟨x0,i26 x1 x2 h0 h1 h2 h3 h4 h5⟩
theorem i41.{u0,u1,u2,u3}{α0:Sort u0}{α1:Sort u1}{α2:Sort u2}{α3:Sort u3}{p0:α0->α1->α2->α3->Prop}(x0:α0)(x1:α1)(x2:α2)(x3:α3)(h0:p0 x0 x1 x2 x3):∃x0 x1 x2 x3,p0 x0 x1 x2 x3:=⟨x0,i31 x1 x2 x3 h0⟩
theorem i42.{u0,u1,u2,u3}{α0:Sort u0}{α1:Sort u1}{α2:Sort u2}{α3:Sort u3}{p0 p1:α0->α1->α2->α3->Prop}(x0:α0)(x1:α1)(x2:α2)(x3:α3)(h0:p0 x0 x1 x2 x3)(h1:p1 x0 x1 x2 x3):∃x0 x1 x2 x3,p0 x0 x1 x2 x3/\p1 x0 x1 x2 x3:=⟨x0,i32 x1 x2 x3 h0 h1⟩
theorem i43.{u0,u1,u2,u3}{α0:Sort u0}{α1:Sort u1}{α2:Sort u2}{α3:Sort u3}{p0 p1 p2:α0->α1->α2->α3->Prop}(x0:α0)(x1:α1)(x2:α2)(x3:α3)(h0:p0 x0 x1 x2 x3)(h1:p1 x0 x1 x2 x3)(h2:p2 x0 x1 x2 x3):∃x0 x1 x2 x3,p0 x0 x1 x2 x3/\p1 x0 x1 x2 x3/\p2 x0 x1 x2 x3:=⟨x0,i33 x1 x2 x3 h0 h1 h2⟩
theorem i44.{u0,u1,u2,u3}{α0:Sort u0}{α1:Sort u1}{α2:Sort u2}{α3:Sort u3}{p0 p1 p2 p3:α0->α1->α2->α3->Prop}(x0:α0)(x1:α1)(x2:α2)(x3:α3)(h0:p0 x0 x1 x2 x3)(h1:p1 x0 x1 x2 x3)(h2:p2 x0 x1 x2 x3)(h3:p3 x0 x1 x2 x3):∃x0 x1 x2 x3,p0 x0 x1 x2 x3/\p1 x0 x1 x2 x3/\p2 x0 x1 x2 x3/\p3 x0 x1 x2 x3:=⟨x0,i34 x1 x2 x3 h0 h1 h2 h3⟩
theorem i45.{u0,u1,u2,u3}{α0:Sort u0}{α1:Sort u1}{α2:Sort u2}{α3:Sort u3}{p0 p1 p2 p3 p4:α0->α1->α2->α3->Prop}(x0:α0)(x1:α1)(x2:α2)(x3:α3)(h0:p0 x0 x1 x2 x3)(h1:p1 x0 x1 x2 x3)(h2:p2 x0 x1 x2 x3)(h3:p3 x0 x1 x2 x3)(h4:p4 x0 x1 x2 x3):∃x0 x1 x2 x3,p0 x0 x1 x2 x3/\p1 x0 x1 x2 x3/\p2 x0 x1 x2 x3/\p3 x0 x1 x2 x3/\p4 x0 x1 x2 x3:=⟨x0,i35 x1 x2 x3 h0 h1 h2 h3 h4⟩
theorem i46.{u0,u1,u2,u3}{α0:Sort u0}{α1:Sort u1}{α2:Sort u2}{α3:Sort u3}{p0 p1 p2 p3 p4 p5:α0->α1->α2->α3->Prop}(x0:α0)(x1:α1)(x2:α2)(x3:α3)(h0:p0 x0 x1 x2 x3)(h1:p1 x0 x1 x2 x3)(h2:p2 x0 x1 x2 x3)(h3:p3 x0 x1 x2 x3)(h4:p4 x0 x1 x2 x3)(h5:p5 x0 x1 x2 x3):∃x0 x1 x2 x3,p0 x0 x1 x2 x3/\p1 x0 x1 x2 x3/\p2 x0 x1 x2 x3/\p3 x0 x1 x2 x3/\p4 x0 x1 x2 x3/\p5 x0 x1 x2 x3:=⟨x0,i36 x1 x2 x3 h0 h1 h2 h3 h4 h5⟩
theorem i51.{u0,u1,u2,u3,u4}{α0:Sort u0}{α1:Sort u1}{α2:Sort u2}{α3:Sort u3}{α4:Sort u4}{p0:α0->α1->α2->α3->α4->Prop}(x0:α0)(x1:α1)(x2:α2)(x3:α3)(x4:α4)(h0:p0 x0 x1 x2 x3 x4):∃x0 x1 x2 x3 x4,p0 x0 x1 x2 x3 x4:=⟨x0,i41 x1 x2 x3 x4 h0⟩
theorem i52.{u0,u1,u2,u3,u4}{α0:Sort u0}{α1:Sort u1}{α2:Sort u2}{α3:Sort u3}{α4:Sort u4}{p0 p1:α0->α1->α2->α3->α4->Prop}(x0:α0)(x1:α1)(x2:α2)(x3:α3)(x4:α4)(h0:p0 x0 x1 x2 x3 x4)(h1:p1 x0 x1 x2 x3 x4):∃x0 x1 x2 x3 x4,p0 x0 x1 x2 x3 x4/\p1 x0 x1 x2 x3 x4:=⟨x0,i42 x1 x2 x3 x4 h0 h1⟩
theorem i55.{u0,u1,u2,u3,u4}{α0:Sort u0}{α1:Sort u1}{α2:Sort u2}{α3:Sort u3}{α4:Sort u4}{p0 p1 p2 p3 p4:α0->α1->α2->α3->α4->Prop}(x0:α0)(x1:α1)(x2:α2)(x3:α3)(x4:α4)(h0:p0 x0 x1 x2 x3 x4)(h1:p1 x0 x1 x2 x3 x4)(h2:p2 x0 x1 x2 x3 x4)(h3:p3 x0 x1 x2 x3 x4)(h4:p4 x0 x1 x2 x3 x4):∃x0 x1 x2 x3 x4,p0 x0 x1 x2 x3 x4/\p1 x0 x1 x2 x3 x4/\p2 x0 x1 x2 x3 x4/\p3 x0 x1 x2 x3 x4/\p4 x0 x1 x2 x3 x4:=⟨x0,i45 x1 x2 x3 x4 h0 h1 h2 h3 h4⟩
theorem i61.{u0,u1,u2,u3,u4,u5}{α0:Sort u0}{α1:Sort u1}{α2:Sort u2}{α3:Sort u3}{α4:Sort u4}{α5:Sort u5}{p0:α0->α1->α2->α3->α4->α5->Prop}(x0:α0)(x1:α1)(x2:α2)(x3:α3)(x4:α4)(x5:α5)(h0:p0 x0 x1 x2 x3 x4 x5):∃x0 x1 x2 x3 x4 x5,p0 x0 x1 x2 x3 x4 x5:=⟨x0,i51 x1 x2 x3 x4 x5 h0⟩
theorem i62.{u0,u1,u2,u3,u4,u5}{α0:Sort u0}{α1:Sort u1}{α2:Sort u2}{α3:Sort u3}{α4:Sort u4}{α5:Sort u5}{p0 p1:α0->α1->α2->α3->α4->α5->Prop}(x0:α0)(x1:α1)(x2:α2)(x3:α3)(x4:α4)(x5:α5)(h0:p0 x0 x1 x2 x3 x4 x5)(h1:p1 x0 x1 x2 x3 x4 x5):∃x0 x1 x2 x3 x4 x5,p0 x0 x1 x2 x3 x4 x5/\p1 x0 x1 x2 x3 x4 x5:=⟨x0,i52 x1 x2 x3 x4 x5 h0 h1⟩
theorem i65.{u0,u1,u2,u3,u4,u5}{α0:Sort u0}{α1:Sort u1}{α2:Sort u2}{α3:Sort u3}{α4:Sort u4}{α5:Sort u5}{p0 p1 p2 p3 p4:α0->α1->α2->α3->α4->α5->Prop}(x0:α0)(x1:α1)(x2:α2)(x3:α3)(x4:α4)(x5:α5)(h0:p0 x0 x1 x2 x3 x4 x5)(h1:p1 x0 x1 x2 x3 x4 x5)(h2:p2 x0 x1 x2 x3 x4 x5)(h3:p3 x0 x1 x2 x3 x4 x5)(h4:p4 x0 x1 x2 x3 x4 x5):∃x0 x1 x2 x3 x4 x5,p0 x0 x1 x2 x3 x4 x5/\p1 x0 x1 x2 x3 x4 x5/\p2 x0 x1 x2 x3 x4 x5/\p3 x0 x1 x2 x3 x4 x5/\p4 x0 x1 x2 x3 x4 x5:=⟨x0,i55 x1 x2 x3 x4 x5 h0 h1 h2 h3 h4⟩
theorem i72.{u0,u1,u2,u3,u4,u5,u6}{α0:Sort u0}{α1:Sort u1}{α2:Sort u2}{α3:Sort u3}{α4:Sort u4}{α5:Sort u5}{α6:Sort u6}{p0 p1:α0->α1->α2->α3->α4->α5->α6->Prop}(x0:α0)(x1:α1)(x2:α2)(x3:α3)(x4:α4)(x5:α5)(x6:α6)(h0:p0 x0 x1 x2 x3 x4 x5 x6)(h1:p1 x0 x1 x2 x3 x4 x5 x6):∃x0 x1 x2 x3 x4 x5 x6,p0 x0 x1 x2 x3 x4 x5 x6/\p1 x0 x1 x2 x3 x4 x5 x6:=⟨x0,i62 x1 x2 x3 x4 x5 x6 h0 h1⟩
theorem i75.{u0,u1,u2,u3,u4,u5,u6}{α0:Sort u0}{α1:Sort u1}{α2:Sort u2}{α3:Sort u3}{α4:Sort u4}{α5:Sort u5}{α6:Sort u6}{p0 p1 p2 p3 p4:α0->α1->α2->α3->α4->α5->α6->Prop}(x0:α0)(x1:α1)(x2:α2)(x3:α3)(x4:α4)(x5:α5)(x6:α6)(h0:p0 x0 x1 x2 x3 x4 x5 x6)(h1:p1 x0 x1 x2 x3 x4 x5 x6)(h2:p2 x0 x1 x2 x3 x4 x5 x6)(h3:p3 x0 x1 x2 x3 x4 x5 x6)(h4:p4 x0 x1 x2 x3 x4 x5 x6):∃x0 x1 x2 x3 x4 x5 x6,p0 x0 x1 x2 x3 x4 x5 x6/\p1 x0 x1 x2 x3 x4 x5 x6/\p2 x0 x1 x2 x3 x4 x5 x6/\p3 x0 x1 x2 x3 x4 x5 x6/\p4 x0 x1 x2 x3 x4 x5 x6:=⟨x0,i65 x1 x2 x3 x4 x5 x6 h0 h1 h2 h3 h4⟩
theorem sp3{α β γ:Type}{a d:α}{b e:β}{c f:γ}(h:some (a,b,c)=some (d,e,f)):A3 (a=d) (b=e) (c=f):=by cases h;exact⟨rfl,rfl,rfl⟩
theorem b2{a b:Bool}(h:(a&&b)=true):a=true/\b=true:=Bool.and_eq_true_iff.mp h
theorem b3{a b c:Bool}(h:(a&&b&&c)=true):A3 (a=true) (b=true) (c=true):=(b2 h).elim λh z=>(b2 h).elim λe d=>⟨e,d,z⟩
theorem b4{a b c d:Bool}(h:(a&&b&&c&&d)=true):A4 (a=true) (b=true) (c=true) (d=true):=(b2 h).elim λh z=>z3 (b3 h) λf g e=>⟨f,g,e,z⟩
theorem b5{a b c d e:Bool}(h:(a&&b&&c&&d&&e)=true):A5 (a=true) (b=true) (c=true) (d=true) (e=true):=(b2 h).elim λh z=>z4 (b4 h) λg i f j=>⟨g,i,f,j,z⟩
theorem b6{a b c d e f:Bool}(h:(a&&b&&c&&d&&e&&f)=true):A6 (a=true) (b=true) (c=true) (d=true) (e=true) (f=true):=(b2 h).elim λh z=>z5 (b5 h) λi j g l k=>⟨i,j,g,l,k,z⟩
theorem b7{a b c d e f g:Bool}(h:(a&&b&&c&&d&&e&&f&&g)=true):A7 (a=true) (b=true) (c=true) (d=true) (e=true) (f=true) (g=true):=(b2 h).elim λh z=>z6 (b6 h) λn j m l k i=>⟨n,j,m,l,k,i,z⟩
theorem b8{a b c d e f g i:Bool}(h:(a&&b&&c&&d&&e&&f&&g&&i)=true):A8 (a=true) (b=true) (c=true) (d=true) (e=true) (f=true) (g=true) (i=true):=(b2 h).elim λh z=>z7 (b7 h) λo k n m l j p=>⟨o,k,n,m,l,j,p,z⟩
theorem b9{a b c d e f g i j:Bool}(h:(a&&b&&c&&d&&e&&f&&g&&i&&j)=true):A9 (a=true) (b=true) (c=true) (d=true) (e=true) (f=true) (g=true) (i=true) (j=true):=(b2 h).elim λh z=>z8 (b8 h) λq l o n m k r p=>⟨q,l,o,n,m,k,r,p,z⟩
inductive V where
 |undef
 |none
 |bool (b:Bool)
 |int (i:Int)
 |str (s:Str)
 |tup (l:List V)
 |lst (l:List V)
 |kd (ks:List Int) (vs:List V)
 |rng (n:Int)
 |ref (i:Nat)
 |tmp (i:Nat)
 |clo (a b:V)
inductive Ob where
 |list (l:List V)
 |idict (l:List (Int×V))
 |sdict (l:List (Str×V))
 |tdict (l:List (List V×V))
 |inst (c:Nat) (fs:List (Nat×V))
structure S where
 perm:List Ob
 tmps:List Ob
inductive Op where|add|mul|mod|fdiv|bor
inductive Cop where|eq|ne|lt|gt|ge|isin|notin|isnot
inductive BF where|len|sorted|tuple|any|all|str|isStr|range|max
inductive BM where|append|pop|extend|get deriving DecidableEq
inductive Dk where|int|str|tup
inductive Lk where|frozen|tmp|perm
mutual
inductive E where
 |lit (v:V)
 |loc (x:Nat)
 |glb (nm:Str) (v:V)
 |bin (op:Op) (a b:E)
 |neg (a:E)
 |cmp (op:Cop) (a b:E)
 |bop (conj:Bool) (es:Es)
 |not (a:E)
 |ite (c a b:E)
 |tup (es:Es)
 |lst (k:Lk) (es:Es)
 |dict (k:Dk) (perm:Bool) (kvs:Es)
 |comp (k:Lk) (elt:E) (x:Nat) (src:E)
 |compIf (elt:E) (x:Nat) (src:E) (c:E)
 |call (f:Nat) (args:Es)
 |lcall (x:Nat) (a:E)
 |new (c:Nat) (args:Es)
 |meth (obj:E) (m:Nat) (args:Es)
 |bf (b:BF) (a:E)
 |bm (m:BM) (obj:E) (args:Es)
 |attr (obj:E) (nm:Nat)
 |idx (a i:E)
 |slc (a lo hi:E)
 |wild
inductive Es where
 |nil
 |cons (e:E) (es:Es)
end
mutual
inductive St where
 |asg (x:Nat) (e:E)
 |unpack (x y:Nat) (e:E)
 |setattr (o:E) (nm:Nat) (e:E)
 |setidx (o i e:E)
 |aug (x:Nat) (op:Op) (e:E)
 |augidx (o i:E) (op:Op) (e:E)
 |expr (e:E)
 |ite (c:E) (a b:Sts)
 |for_ (x:Nat) (src:E) (body:Sts)
 |while_ (c:E) (body:Sts)
 |ret (e:E)
 |ret0
 |wild
inductive Sts where
 |nil
 |cons (s:St) (ss:Sts)
end
structure Fn where
 params:Nat
 slots:Nat
 dflt:List V
 ctx:List (Str×Nat)
 body:Sts
noncomputable def q6:List Nat->List Nat->Bool
 |[],[]=>true
 |a::r,b::q=>Nat.beq a b&&q6 r q
 |[],_::_=>false
 |_::_,[]=>false
theorem dZ{a b:Bool}(h1:a=true)(h2:b=true):(a&&b)=true:=by rw [h1,h2];rfl
theorem q5{a:List Nat}:∀ {b:List Nat},q6 a b=true↔a=b:=by
 induction a with
 |nil=>
  intro b
  cases b with
  |nil=>exact⟨λ_=>rfl,λ_=>rfl⟩
  |cons x r=>exact⟨λh=>ff h,nofun⟩
 |cons x r ih=>
  intro b
  cases b with
  |nil=>exact⟨λh=>ff h,nofun⟩
  |cons y q=>exact⟨λh=>(b2 h).elim λc d=>(congrArg (· ::r) (Nat.eq_of_beq_eq_true c)).trans (congrArg (y:: ·) (ih.mp d)),λh=>dZ ((List.cons.inj h).1▸Nat.beq_refl x) (ih.mpr (List.cons.inj h).2)⟩
noncomputable def seqb(a b:Str):Bool:=q6 a.cps.toList b.cps.toList
theorem aH{a b:Str}:seqb a b=true↔a=b:=by
 unfold seqb
 rw [q5]
 constructor
 ·intro h;cases a;cases b;simp only [Str.mk.injEq];exact Array.toList_inj.mp h
 ·rintro rfl;rfl
theorem dz{a b:Str}:seqb a b=decide (a=b):=by
 by_cases h:a=b
 ·rw [decide_eq_true h];exact aH.mpr h
 ·rw [decide_eq_false h];cases q:seqb a b
  ·rfl
  ·exact absurd (aH.mp q) h
theorem dO{α:Type}{p:Prop}[Decidable p]{f:p->Option α}{r:α}(h:(if h:p then f h else none)=some r):∃h:p,f h=some r:=by
 by_cases hp:p
 ·rw [dif_pos hp] at h;exact⟨hp,h⟩
 ·rw [dif_neg hp] at h;cases h
theorem dB{p:Prop}[Decidable p]{f:p->Bool}(h:(if h:p then f h else false)=true):∃h:p,f h=true:=by
 by_cases hp:p
 ·rw [dif_pos hp] at h;exact⟨hp,h⟩
 ·rw [dif_neg hp] at h;cases h
noncomputable def vI{α:Type}(v:V)(k:Int->Option α):Option α:=if h:v.ctorIdx=3 then V.int.elim (motive_1:=λ_=>Option α) v h k else none
theorem bw{α:Type}{v:V}{k:Int->Option α}{r:α}(h:vI v k=some r):∃i,v=.int i/\k i=some r:=
 (dO h).elim λh q=>
 V.int.elim (motive_1:=λv=>∀h:v.ctorIdx=3,V.int.elim (motive_1:=λ_=>Option α) v h k=some r->∃i,v=.int i/\k i=some r) v h (λi _ q=>⟨i,rfl,q⟩) h q
noncomputable def vS{α:Type}(v:V)(k:Str->Option α):Option α:=if h:v.ctorIdx=4 then V.str.elim (motive_1:=λ_=>Option α) v h k else none
theorem nJ{α:Type}{v:V}{k:Str->Option α}{r:α}(h:vS v k=some r):∃i,v=.str i/\k i=some r:=
 (dO h).elim λh q=>
 V.str.elim (motive_1:=λv=>∀h:v.ctorIdx=4,V.str.elim (motive_1:=λ_=>Option α) v h k=some r->∃i,v=.str i/\k i=some r) v h (λi _ q=>⟨i,rfl,q⟩) h q
noncomputable def vT{α:Type}(v:V)(k:List V->Option α):Option α:=if h:v.ctorIdx=5 then V.tup.elim (motive_1:=λ_=>Option α) v h k else none
theorem gR{α:Type}{v:V}{k:List V->Option α}{r:α}(h:vT v k=some r):∃i,v=.tup i/\k i=some r:=
 (dO h).elim λh q=>
 V.tup.elim (motive_1:=λv=>∀h:v.ctorIdx=5,V.tup.elim (motive_1:=λ_=>Option α) v h k=some r->∃i,v=.tup i/\k i=some r) v h (λi _ q=>⟨i,rfl,q⟩) h q
noncomputable def vL{α:Type}(v:V)(k:List V->Option α):Option α:=if h:v.ctorIdx=6 then V.lst.elim (motive_1:=λ_=>Option α) v h k else none
theorem gy{α:Type}{v:V}{k:List V->Option α}{r:α}(h:vL v k=some r):∃i,v=.lst i/\k i=some r:=
 (dO h).elim λh q=>
 V.lst.elim (motive_1:=λv=>∀h:v.ctorIdx=6,V.lst.elim (motive_1:=λ_=>Option α) v h k=some r->∃i,v=.lst i/\k i=some r) v h (λi _ q=>⟨i,rfl,q⟩) h q
mutual
noncomputable def V.beq:V->V->Bool
 |.undef,v=>Nat.beq v.ctorIdx 0
 |.none,v=>Nat.beq v.ctorIdx 1
 |.bool a,v=>if h:v.ctorIdx=2 then V.bool.elim (motive_1:=λ_=>Bool) v h λb=>a==b else false
 |.int a,v=>if h:v.ctorIdx=3 then V.int.elim (motive_1:=λ_=>Bool) v h λb=>a==b else false
 |.str a,v=>if h:v.ctorIdx=4 then V.str.elim (motive_1:=λ_=>Bool) v h λb=>seqb a b else false
 |.tup a,v=>if h:v.ctorIdx=5 then V.tup.elim (motive_1:=λ_=>Bool) v h λb=>V.beqs a b else false
 |.lst a,v=>if h:v.ctorIdx=6 then V.lst.elim (motive_1:=λ_=>Bool) v h λb=>V.beqs a b else false
 |.kd a b,v=>if h:v.ctorIdx=7 then V.kd.elim (motive_1:=λ_=>Bool) v h λc d=>a==c&&V.beqs b d else false
 |.rng a,v=>if h:v.ctorIdx=8 then V.rng.elim (motive_1:=λ_=>Bool) v h λb=>a==b else false
 |.ref a,v=>if h:v.ctorIdx=9 then V.ref.elim (motive_1:=λ_=>Bool) v h λb=>a==b else false
 |.tmp a,v=>if h:v.ctorIdx=10 then V.tmp.elim (motive_1:=λ_=>Bool) v h λb=>a==b else false
 |.clo a b,v=>if h:v.ctorIdx=11 then V.clo.elim (motive_1:=λ_=>Bool) v h λc d=>V.beq a c&&V.beq b d else false
noncomputable def V.beqs:List V->List V->Bool
 |[],[]=>true
 |a::r,b::q=>V.beq a b&&V.beqs r q
 |_,_=>false
end
mutual
theorem V.beq_of:∀ {a b:V},V.beq a b=true->a=b
 |.undef,v,h=>V.undef.elim (motive_1:=λv=>V.undef=v) v (Nat.eq_of_beq_eq_true h) rfl
 |.none,v,h=>V.none.elim (motive_1:=λv=>V.none=v) v (Nat.eq_of_beq_eq_true h) rfl
 |.bool a,v,h=>(dB h).elim λh q=>
  V.bool.elim (motive_1:=λv=>∀h:v.ctorIdx=2,V.bool.elim (motive_1:=λ_=>Bool) v h (λb=>a==b)=true->V.bool a=v) v h (λb _ q=>congrArg V.bool (eq_of_beq q)) h q
 |.int a,v,h=>(dB h).elim λh q=>
  V.int.elim (motive_1:=λv=>∀h:v.ctorIdx=3,V.int.elim (motive_1:=λ_=>Bool) v h (λb=>a==b)=true->V.int a=v) v h (λb _ q=>congrArg V.int (eq_of_beq q)) h q
 |.str a,v,h=>(dB h).elim λh q=>
  V.str.elim (motive_1:=λv=>∀h:v.ctorIdx=4,V.str.elim (motive_1:=λ_=>Bool) v h (λb=>seqb a b)=true->V.str a=v) v h (λb _ q=>congrArg V.str (aH.mp q)) h q
 |.tup a,v,h=>(dB h).elim λh q=>
  V.tup.elim (motive_1:=λv=>∀h:v.ctorIdx=5,V.tup.elim (motive_1:=λ_=>Bool) v h (λb=>V.beqs a b)=true->V.tup a=v) v h (λb _ q=>congrArg V.tup (V.beqs_of q)) h q
 |.lst a,v,h=>(dB h).elim λh q=>
  V.lst.elim (motive_1:=λv=>∀h:v.ctorIdx=6,V.lst.elim (motive_1:=λ_=>Bool) v h (λb=>V.beqs a b)=true->V.lst a=v) v h (λb _ q=>congrArg V.lst (V.beqs_of q)) h q
 |.rng a,v,h=>(dB h).elim λh q=>
  V.rng.elim (motive_1:=λv=>∀h:v.ctorIdx=8,V.rng.elim (motive_1:=λ_=>Bool) v h (λb=>a==b)=true->V.rng a=v) v h (λb _ q=>congrArg V.rng (eq_of_beq q)) h q
 |.ref a,v,h=>(dB h).elim λh q=>
  V.ref.elim (motive_1:=λv=>∀h:v.ctorIdx=9,V.ref.elim (motive_1:=λ_=>Bool) v h (λb=>a==b)=true->V.ref a=v) v h (λb _ q=>congrArg V.ref (eq_of_beq q)) h q
 |.tmp a,v,h=>(dB h).elim λh q=>
  V.tmp.elim (motive_1:=λv=>∀h:v.ctorIdx=10,V.tmp.elim (motive_1:=λ_=>Bool) v h (λb=>a==b)=true->V.tmp a=v) v h (λb _ q=>congrArg V.tmp (eq_of_beq q)) h q
 |.kd a b,v,h=>(dB h).elim λh q=>
  V.kd.elim (motive_1:=λv=>∀h:v.ctorIdx=7,V.kd.elim (motive_1:=λ_=>Bool) v h (λc d=>a==c&&V.beqs b d)=true->V.kd a b=v) v h (λc d _ q=>(b2 q).elim λe f=>by rw [eq_of_beq e,V.beqs_of f]) h q
 |.clo a b,v,h=>(dB h).elim λh q=>
  V.clo.elim (motive_1:=λv=>∀h:v.ctorIdx=11,V.clo.elim (motive_1:=λ_=>Bool) v h (λc d=>V.beq a c&&V.beq b d)=true->V.clo a b=v) v h (λc d _ q=>(b2 q).elim λe f=>by rw [V.beq_of e,V.beq_of f]) h q
theorem V.beqs_of:∀ {a b:List V},V.beqs a b=true->a=b
 |[],[],_=>rfl
 |[],_::_,h=>nomatch h
 |_::_,[],h=>nomatch h
 |a::r,b::q,h=>(b2 h).elim λd c=>by rw [V.beq_of d,V.beqs_of c]
end
mutual
theorem V.beq_rfl:∀a:V,V.beq a a=true
 |.undef=>rfl
 |.none=>rfl
 |.bool a=>(beq_self_eq_true a:(a==a)=true)
 |.int a=>(beq_self_eq_true a:(a==a)=true)
 |.str a=>(aH.mpr rfl:seqb a a=true)
 |.tup a=>(V.beqs_rfl a:V.beqs a a=true)
 |.lst a=>(V.beqs_rfl a:V.beqs a a=true)
 |.kd a b=>(dZ (beq_self_eq_true a) (V.beqs_rfl b):(a==a&&V.beqs b b)=true)
 |.rng a=>(beq_self_eq_true a:(a==a)=true)
 |.ref a=>(beq_self_eq_true a:(a==a)=true)
 |.tmp a=>(beq_self_eq_true a:(a==a)=true)
 |.clo a b=>(dZ (V.beq_rfl a) (V.beq_rfl b):(V.beq a a&&V.beq b b)=true)
theorem V.beqs_rfl:∀a:List V,V.beqs a a=true
 |[]=>rfl
 |a::r=>dZ (V.beq_rfl a) (V.beqs_rfl r)
end
theorem V.beq_iff{a b:V}:V.beq a b=true↔a=b:=⟨V.beq_of,λh=>h▸V.beq_rfl a⟩
theorem V.beqs_iff{a b:List V}:V.beqs a b=true↔a=b:=⟨V.beqs_of,λh=>h▸V.beqs_rfl a⟩
noncomputable instance:DecidableEq V:=λa b=>decidable_of_iff (V.beq a b=true) V.beq_iff
noncomputable def veqs(f:V->V->Option Bool):List V->List V->Option Bool
 |a::r,b::q=>match f a b,veqs f r q with
  |some x,some y=>some (x&&y)
  |_,_=>none
 |[],[]=>some true
 |_,_=>some false
noncomputable def V.sel{α:Type}(v:V)(n:α)(b:Bool->α)(i:Int->α)(s:Str->α)(l:List V->α)(o:α):α:=match v with
 |.none=>n|.bool x=>b x|.int x=>i x|.str x=>s x|.tup x=>l x|_=>o
noncomputable def y3(f:List V->List V->Option Bool)(a b:V):Option Bool:=
 a.sel (b.sel (some true) (λ_=>some false) (λ_=>some false) (λ_=>some false) (λ_=>some false) none)
  (λx=>b.sel (some false) (λy=>some (x==y)) (λy=>some ((if x then 1 else 0)==y)) (λ_=>some false) (λ_=>some false) none)
  (λx=>b.sel (some false) (λy=>some (x==(if y then 1 else 0))) (λy=>some (x==y)) (λ_=>some false) (λ_=>some false) none)
  (λx=>b.sel (some false) (λ_=>some false) (λ_=>some false) (λy=>some (seqb x y)) (λ_=>some false) none)
  (λl=>b.sel (some false) (λ_=>some false) (λ_=>some false) (λ_=>some false) (λm=>f l m) none) none
noncomputable def veq:Nat->V->V->Option Bool
 |0=>y3 λ_ _=>none
 |n+1=>y3 (veqs (veq n))
noncomputable def Co:Nat->List V->List V->Option Bool
 |0=>λ_ _=>none
 |n+1=>veqs (veq n)
theorem bi:∀ {n:Nat} {a b:V},veq n a b=y3 (Co n) a b
 |0,_,_=>rfl
 |_+1,_,_=>rfl
noncomputable abbrev bP:Nat:=8
mutual
noncomputable def plain:V->Bool
 |.none=>true
 |.bool _=>true
 |.int _=>true
 |.str _=>true
 |.tup l=>plains l
 |_=>false
noncomputable def plains:List V->Bool
 |[]=>true
 |v::r=>plain v&&plains r
end
noncomputable def gu(a b:V):Option Bool:=if plain a&&plain b then veq bP a b else none
noncomputable def aO:Nat->V->Bool
 |_,.int _=>true
 |_,.str _=>true
 |n+1,.tup l=>l.all (aO n)
 |_,_=>false
noncomputable abbrev bB:Nat:=5
mutual
noncomputable def aV:V->Bool
 |.tmp _=>false
 |.tup l=>aD l
 |.lst l=>aD l
 |.kd _ l=>aD l
 |.clo a b=>aV a&&aV b
 |_=>true
noncomputable def aD:List V->Bool
 |[]=>true
 |v::r=>aV v&&aD r
end
noncomputable abbrev lim:Nat:=1048576
noncomputable def lget:List V->Nat->V
 |[],_=>.undef
 |v::_,0=>v
 |_::r,n+1=>lget r n
noncomputable def lset:List V->Nat->V->List V
 |[],_,_=>[]
 |_::r,0,v=>v::r
 |u::r,n+1,v=>u::lset r n v
noncomputable def iget(l:List (Int×V))(k:Int):Option V:=(l.find? λp=>p.1==k).map (·.2)
noncomputable def iput(l:List (Int×V))(k:Int)(v:V):List (Int×V):=
 if l.any (λp=>p.1==k) then l.map (λp=>if p.1==k then(p.1,v) else p) else l++[(k,v)]
noncomputable def sget(l:List (Str×V))(k:Str):Option V:=(l.find? λp=>seqb p.1 k).map (·.2)
noncomputable def sput(l:List (Str×V))(k:Str)(v:V):List (Str×V):=
 if l.any (λp=>seqb p.1 k) then l.map (λp=>if seqb p.1 k then(p.1,v) else p) else l++[(k,v)]
noncomputable def nget(l:List (Nat×V))(k:Nat):Option V:=(l.find? λp=>Nat.beq p.1 k).map (·.2)
noncomputable def nput(l:List (Nat×V))(k:Nat)(v:V):List (Nat×V):=
 if l.any (λp=>Nat.beq p.1 k) then l.map (λp=>if Nat.beq p.1 k then(p.1,v) else p) else l++[(k,v)]
noncomputable def tget(l:List (List V×V))(k:List V):Option V:=(l.find? λp=>V.beqs p.1 k).map (·.2)
noncomputable def tput(l:List (List V×V))(k:List V)(v:V):List (List V×V):=
 if l.any (λp=>V.beqs p.1 k) then l.map (λp=>if V.beqs p.1 k then(p.1,v) else p) else l++[(k,v)]
noncomputable def kget:List Int->List V->Int->Option V
 |a::r,v::q,k=>if a==k then some v else kget r q k
 |_,_,_=>none
noncomputable def S.ob(s:S):V->Option Ob
 |.ref i=>s.perm[i]?
 |.tmp i=>s.tmps[i]?
 |_=>none
noncomputable def S.put(s:S):V->Ob->Option S
 |.ref i,o=>some {s with perm:=s.perm.set i o}
 |.tmp i,o=>some {s with tmps:=s.tmps.set i o}
 |_,_=>none
noncomputable def S.new(s:S)(perm:Bool)(o:Ob):V×S:=
 if perm then(.ref s.perm.length,{s with perm:=s.perm++[o]}) else(.tmp s.tmps.length,{s with tmps:=s.tmps++[o]})
noncomputable def oL{α:Type}(o:Option Ob)(k:List V->Option α):Option α:=o.bind λx=>if h:x.ctorIdx=0 then Ob.list.elim (motive:=λ_=>Option α) x h k else none
theorem eN{α:Type}{o:Option Ob}{k:List V->Option α}{r:α}(h:oL o k=some r):∃l,o=some (.list l)/\k l=some r:=
 x12 (Option.bind_eq_some_iff.mp h) λx e h=>(dO h).elim λh q=>
 Ob.list.elim (motive:=λx=>∀h:x.ctorIdx=0,o=some x->Ob.list.elim (motive:=λ_=>Option α) x h k=some r->∃l,o=some (.list l)/\k l=some r) x h (λl _ e q=>⟨l,e,q⟩) h e q
noncomputable def oI{α:Type}(o:Option Ob)(k:List (Int×V)->Option α):Option α:=o.bind λx=>if h:x.ctorIdx=1 then Ob.idict.elim (motive:=λ_=>Option α) x h k else none
theorem vA{α:Type}{o:Option Ob}{k:List (Int×V)->Option α}{r:α}(h:oI o k=some r):∃l,o=some (.idict l)/\k l=some r:=
 x12 (Option.bind_eq_some_iff.mp h) λx e h=>(dO h).elim λh q=>
 Ob.idict.elim (motive:=λx=>∀h:x.ctorIdx=1,o=some x->Ob.idict.elim (motive:=λ_=>Option α) x h k=some r->∃l,o=some (.idict l)/\k l=some r) x h (λl _ e q=>⟨l,e,q⟩) h e q
noncomputable def oN{α:Type}(o:Option Ob)(k:Nat->List (Nat×V)->Option α):Option α:=o.bind λx=>if h:x.ctorIdx=4 then Ob.inst.elim (motive:=λ_=>Option α) x h k else none
theorem vz{α:Type}{o:Option Ob}{k:Nat->List (Nat×V)->Option α}{r:α}(h:oN o k=some r):∃c l,o=some (.inst c l)/\k c l=some r:=
 x12 (Option.bind_eq_some_iff.mp h) λx e h=>(dO h).elim λh q=>
 Ob.inst.elim (motive:=λx=>∀h:x.ctorIdx=4,o=some x->Ob.inst.elim (motive:=λ_=>Option α) x h k=some r->∃c l,o=some (.inst c l)/\k c l=some r) x h (λc l _ e q=>⟨c,l,e,q⟩) h e q
noncomputable def vK{α:Type}(v:V)(k:List Int->List V->Option α):Option α:=if h:v.ctorIdx=7 then V.kd.elim (motive_1:=λ_=>Option α) v h k else none
theorem uz{α:Type}{v:V}{k:List Int->List V->Option α}{r:α}(h:vK v k=some r):∃a b,v=.kd a b/\k a b=some r:=
 (dO h).elim λh q=>
 V.kd.elim (motive_1:=λv=>∀h:v.ctorIdx=7,V.kd.elim (motive_1:=λ_=>Option α) v h k=some r->∃a b,v=.kd a b/\k a b=some r) v h (λa b _ q=>⟨a,b,rfl,q⟩) h q
theorem cw{α:Type}{p:Prop}[Decidable p]{a r:α}(h:(if p then some a else none)=some r):p/\a=r:=by
 by_cases hp:p
 ·rw [if_pos hp] at h;exact⟨hp,Option.some.inj h⟩
 ·rw [if_neg hp] at h;cases h
theorem cz{α:Type}{c:Bool}{a b r:α}(h:(bif c then a else b)=r):(c=true/\a=r)\/(c=false/\b=r):=by
 cases c with
 |true=>exact .inl ⟨rfl,h⟩
 |false=>exact .inr ⟨rfl,h⟩
theorem m25:∀ {n:Nat},Nat.ble 2 n=true->Nat.ble n 5=true->n=2\/n=3\/n=4\/n=5
 |2,_,_=>.inl rfl
 |3,_,_=>.inr (.inl rfl)
 |4,_,_=>.inr (.inr (.inl rfl))
 |5,_,_=>.inr (.inr (.inr rfl))
 |0,h,_=>nomatch h
 |1,h,_=>nomatch h
 |_+6,_,h=>nomatch h
theorem bg{α:Type}{p:Prop}[Decidable p]{a:Option α}{r:α}(h:(if p then a else none)=some r):p/\a=some r:=by
 by_cases hp:p
 ·rw [if_pos hp] at h;exact⟨hp,h⟩
 ·rw [if_neg hp] at h;cases h
noncomputable def seq?(s:S):V->Option (List V)
 |.tup l=>some l
 |.lst l=>some l
 |.ref i=>oL s.perm[i]? some
 |.tmp i=>oL s.tmps[i]? some
 |.undef=>none
 |.none=>none
 |.bool _=>none
 |.int _=>none
 |.str _=>none
 |.kd _ _=>none
 |.rng _=>none
 |.clo _ _=>none
noncomputable def list?(s:S):V->Option (List V)
 |.lst l=>some l
 |.ref i=>oL s.perm[i]? some
 |.tmp i=>oL s.tmps[i]? some
 |.undef=>none
 |.none=>none
 |.bool _=>none
 |.int _=>none
 |.str _=>none
 |.tup _=>none
 |.kd _ _=>none
 |.rng _=>none
 |.clo _ _=>none
noncomputable def truth(s:S):V->Option Bool
 |.none=>some false
 |.bool b=>some b
 |.int i=>some (i !=0)
 |.tup l=>some (!l.isEmpty)
 |.lst l=>some (!l.isEmpty)
 |.ref i=>oL s.perm[i]? λl=>some (!l.isEmpty)
 |.tmp i=>oL s.tmps[i]? λl=>some (!l.isEmpty)
 |.undef=>none
 |.str _=>none
 |.kd _ _=>none
 |.rng _=>none
 |.clo _ _=>none
noncomputable def eqL(l m:List V):Option Bool:=if l.length=m.length then(if plains l&&plains m then veqs (veq bP) l m else none) else some false
noncomputable def eqD(s:S)(a b:V):Option Bool:=oI (s.ob a) λl=>oI (s.ob b) λm=>if l.isEmpty&&m.isEmpty then some true else none
noncomputable def eqO(s:S)(a b:V):Option Bool:=match list? s a with
 |some l=>match list? s b with
  |some m=>eqL l m
  |none=>eqD s a b
 |none=>eqD s a b
noncomputable def oA(a:V):Bool:=Nat.beq a.ctorIdx 6||Nat.beq a.ctorIdx 9||Nat.beq a.ctorIdx 10
noncomputable def eqv(s:S)(a b:V):Option Bool:=bif oA a then eqO s a b else gu a b
noncomputable def inl(x:V):List V->Option Bool
 |[]=>some false
 |y::r=>match gu y x,inl x r with
  |some a,some b=>some (a||b)
  |_,_=>none
noncomputable def BK(x:V)(o:Ob):Option Bool:=match o with
 |.list l=>inl x l
 |.idict l=>vI x λk=>some (iget l k).isSome
 |.tdict l=>vT x λk=>if aO bB x then some (tget l k).isSome else none
 |.sdict _=>none
 |.inst _ _=>none
noncomputable def isin(s:S)(x c:V):Option Bool:=
 bif Nat.beq c.ctorIdx 7 then vK c λks _=>vI x λk=>some (ks.contains k)
 else bif Nat.beq c.ctorIdx 5 then vT c (inl x) else bif Nat.beq c.ctorIdx 6 then vL c (inl x) else(s.ob c).bind (BK x)
noncomputable def index?(n:Nat)(i:Int):Option Nat:=
 if 0<=i then(if i<n then some i.toNat else none) else if 0<=i+n then some (i+n).toNat else none
noncomputable def lix(l:List V):Int->Option V
 |.ofNat j=>l[j]?
 |.negSucc j=>if j<l.length then l[l.length - (j+1)]? else none
noncomputable def Bl(l:List V):Int->Option V
 |.ofNat j=>l[j]?
 |.negSucc _=>none
theorem iJ{l:List V}{i:Int}{r:V}(h:lix l i=some r):∃j,index? l.length i=some j/\l[j]?=some r:=by
 unfold index?
 cases i with
 |ofNat j=>
  have h:l[j]?=some r:=h
  have a:=(List.getElem?_eq_some_iff.mp h).1
  refine⟨j,?_,h⟩
  have c:(0:Int)<=Int.ofNat j:=by simp
  have b:Int.ofNat j<(l.length:Int):=by simpa using a
  rw [if_pos c,if_pos b];rfl
 |negSucc j=>
  have h:(if j<l.length then l[l.length - (j+1)]? else none)=some r:=h
  split at h
  ·rename_i a
   refine⟨l.length - (j+1),?_,h⟩
   rw [if_neg (by omega),if_pos (by omega)]
   congr 1;omega
  ·cases h
theorem q8{l:List V}{i:Int}{r:V}(h:Bl l i=some r):∃j,index? l.length i=some j/\l[j]?=some r:=by
 cases i with
 |ofNat j=>exact iJ (l:=l) (i:=.ofNat j) h
 |negSucc j=>cases h
noncomputable def yO(i:V)(o:Ob):Option V:=match o with
 |.list l=>vI i (Bl l)
 |.idict l=>vI i (iget l)
 |.sdict l=>vS i (sget l)
 |.tdict l=>vT i λk=>if aO bB i then tget l k else none
 |.inst _ _=>none
noncomputable def item(s:S)(c i:V):Option V:=
 bif Nat.beq c.ctorIdx 5 then vT c λl=>vI i (lix l) else bif Nat.beq c.ctorIdx 6 then vL c λl=>vI i (lix l)
 else bif Nat.beq c.ctorIdx 7 then vK c λks vs=>vI i (kget ks vs) else(s.ob c).bind (yO i)
noncomputable def uU(s:S)(c i v:V)(o:Ob):Option S:=match o with
 |.list l=>vI i λi=>if 0<=i&&i<l.length then s.put c (.list (l.set i.toNat v)) else none
 |.idict l=>vI i λk=>if l.length<lim then s.put c (.idict (iput l k v)) else none
 |.sdict l=>vS i λk=>if l.length<lim then s.put c (.sdict (sput l k v)) else none
 |.tdict l=>vT i λk=>if aO bB i&&decide (l.length<lim) then s.put c (.tdict (tput l k v)) else none
 |.inst _ _=>none
noncomputable def setItem(s:S)(c i v:V):Option S:=if aV v then(s.ob c).bind (uU s c i v) else none
noncomputable def dI(n:Nat)(i:Int):Nat:=if i<0 then(i+n).toNat else min i.toNat n
noncomputable def part?(v:V):Option (Option Int):=bif Nat.beq v.ctorIdx 1 then some none else vI v λi=>some (some i)
noncomputable def zi(l:List V):Option Int->Option Int->Option (List V)
 |none,none=>none
 |none,some h=>some (l.take (dI l.length h))
 |some a,none=>some (l.drop (dI l.length a))
 |some a,some h=>some ((l.take (dI l.length h)).drop (dI l.length a))
noncomputable def slice(l:List V)(lo hi:V):Option (List V):=(part? lo).bind λa=>(part? hi).bind λb=>zi l a b
noncomputable def ints?:List V->Option (List Int)
 |[]=>some []
 |.int i::r=>(ints? r).map (i:: ·)
 |_=>none
noncomputable def ct(x:Int):List Int->List Int
 |[]=>[x]
 |y::r=>if x<=y then x::y::r else y::ct x r
noncomputable def bF:List Int->List Int
 |[]=>[]
 |x::r=>ct x (bF r)
noncomputable def iter?(s:S):V->Option (List V)
 |.rng n=>some ((List.range n.toNat).map λk:Nat=>V.int (k:Int))
 |v=>seq? s v
noncomputable def truths(s:S):List V->Option (List Bool)
 |[]=>some []
 |v::r=>match truth s v,truths s r with
  |some b,some l=>some (b::l)
  |_,_=>none
noncomputable def bools?:List V->Option (List Bool)
 |[]=>some []
 |.bool b::r=>(bools? r).map (b:: ·)
 |_=>none
noncomputable def lf(op:Op)(a b:V):Option V:=
 match op with
 |.add=>match a with
  |.int x=>vI b λy=>some (.int (x+y))
  |.str x=>vS b λy=>if x.length+y.length<=lim then some (.str (x++y)) else none
  |.tup x=>vT b λy=>if x.length+y.length<=lim then some (.tup (x++y)) else none
  |.lst x=>vL b λy=>if x.length+y.length<=lim then some (.lst (x++y)) else none
  |_=>none
 |.mul=>vI a λx=>vI b λy=>if x.natAbs<2 ^ 64/\y.natAbs<2 ^ 64 then some (.int (x*y)) else none
 |.mod=>vI a λx=>vI b λy=>if 0<y then some (.int (x%y)) else none
 |.fdiv=>vI a λx=>vI b λy=>if 0<y/\y<=lim then some (.int (x/y)) else none
 |.bor=>vI a λx=>vI b λy=>if(x=0\/x=1)/\(y=0\/y=1) then some (.int (max x y)) else none
noncomputable def Bk(s:S)(a b:V):Bool:=(Nat.beq a.ctorIdx b.ctorIdx&&Nat.ble 2 a.ctorIdx&&Nat.ble a.ctorIdx 5)||((list? s a).isSome&& (list? s b).isSome)
noncomputable def lb(s:S)(op:Cop)(a b:V):Option Bool:=
 match op with
 |.eq=>eqv s a b
 |.ne=>if Bk s a b then(eqv s a b).map (!·) else none
 |.isin=>isin s a b
 |.notin=>(isin s a b).map (!·)
 |.isnot=>bif Nat.beq b.ctorIdx 1 then(bif Nat.beq a.ctorIdx 1 then some false else vS a λ_=>some true) else none
 |.lt=>vI a λa=>vI b λb=>some (decide (a<b))
 |.gt=>vI a λa=>vI b λb=>some (decide (a>b))
 |.ge=>vI a λa=>vI b λb=>some (decide (a≥b))
noncomputable def aE(i:Int):Str:=Str.ofString (toString i)
noncomputable def bf1(s:S)(f:BF)(v:V):Option V:=
 match f with
 |.len=>(seq? s v).map λl=>.int l.length
 |.sorted=>bif Nat.beq v.ctorIdx 6 then vL v λl=>if l.length<64 then(ints? l).map λl=>.lst ((bF l).map .int) else none
  else oI (s.ob v) λl=>if l.length<64 then some (.lst ((bF (l.map (·.1))).map .int)) else none
 |.tuple=>vL v λl=>some (.tup l)
 |.any=>vL v λl=>(truths s l).map λl=>.bool (l.any id)
 |.all=>vL v λl=>(bools? l).map λl=>.bool (l.all id)
 |.str=>bif Nat.beq v.ctorIdx 3 then vI v λi=>if i.natAbs<2 ^ 64 then some (.str (aE i)) else none
  else vS v λx=>some (.str x)
 |.isStr=>bif Nat.beq v.ctorIdx 4 then some (.bool true) else vI v λ_=>some (.bool false)
 |.range=>vI v λi=>if 0<=i/\i<=lim then some (.rng i) else none
 |.max=>vL v λl=>(ints? l).bind λl=>match l with
  |x::r=>some (.int (r.foldl (λa b=>if b>a then b else a) x))
  |[]=>none
noncomputable def rO:Ob->Nat
 |.list _=>0
 |.idict _=>1
 |.tdict _=>1
 |.sdict _=>2
 |.inst _ _=>2
noncomputable def bkind(s:S)(v:V):Nat:=bif Nat.beq v.ctorIdx 7 then 1 else(s.ob v).elim 2 rO
noncomputable def a1{α:Type}(k:V->Option α):List V->Option α
 |[v]=>k v
 |[]=>none
 |_::_::_=>none
theorem td{α:Type}{k:V->Option α}{r:α}:∀ {l:List V},a1 k l=some r->∃v,l=[v]/\k v=some r
 |[v],h=>⟨v,rfl,h⟩
 |[],h=>nomatch h
 |_::_::_,h=>nomatch h
noncomputable def a2{α:Type}(k:V->V->Option α):List V->Option α
 |[v,u]=>k v u
 |[]=>none
 |[_]=>none
 |_::_::_::_=>none
theorem wP{α:Type}{k:V->V->Option α}{r:α}:∀ {l:List V},a2 k l=some r->∃v u,l=[v,u]/\k v u=some r
 |[v,u],h=>⟨v,u,rfl,h⟩
 |[],h=>nomatch h
 |[_],h=>nomatch h
 |_::_::_::_,h=>nomatch h
noncomputable def BO(s:S)(k d:V)(o:Ob):Option (V×S):=match o with
 |.idict l=>vI k λk=>some ((iget l k).getD d,s)
 |.tdict l=>vT k λt=>if aO bB k then some ((tget l t).getD d,s) else none
 |.list _=>none
 |.sdict _=>none
 |.inst _ _=>none
noncomputable def bm1(s:S)(m:BM)(o:V)(args:List V):Option (V×S):=
 match m with
 |.append=>a1 (λv=>if aV v then oL (s.ob o) λl=>if l.length<lim then(s.put o (.list (l++[v]))).map ((.none,·)) else none else none) args
 |.pop=>if args.isEmpty then oL (s.ob o) λl=>l.getLast?.bind λv=>(s.put o (.list l.dropLast)).map ((v,·)) else none
 |.extend=>a1 (λv=>if aV v then oL (s.ob o) λl=>vL v λm=>if l.length+m.length<=lim then(s.put o (.list (l++m))).map ((.none,·)) else none else none) args
 |.get=>a2 (λk d=>bif Nat.beq o.ctorIdx 7 then vK o λks vs=>vI k λk=>some ((kget ks vs k).getD d,s) else(s.ob o).bind (BO s k d)) args
noncomputable def getAttr(own:Nat->Nat->Bool)(s:S)(o:V)(nm:Nat):Option V:=oN (s.ob o) λc fs=>if own c nm then nget fs nm else none
theorem cX{own:Nat->Nat->Bool}{s:S}{o:V}{nm c:Nat}{fs:List (Nat×V)}(h:s.ob o=some (.inst c fs))(ho:own c nm=true):getAttr own s o nm=nget fs nm:=by
 unfold getAttr;rw [h];exact if_pos ho
noncomputable def setAttr(own:Nat->Nat->Bool)(s:S)(o:V)(nm:Nat)(v:V):Option S:=
 if aV v then oN (s.ob o) λc fs=>if own c nm&&decide (fs.length<900) then s.put o (.inst c (nput fs nm v)) else none else none
structure Cf where
 call:Nat->List V->S->Option (V×S)
 meth:Nat->Nat->Option Nat
 init:Nat->Option Nat
 own:Nat->Nat->Bool
inductive Fl where
 |next
 |ret (v:V)
noncomputable def strs?:List V->Option (List Str)
 |[]=>some []
 |.str i::r=>(strs? r).map (i:: ·)
 |_=>none
noncomputable def pairs?:List V->Option (List V×List V)
 |[]=>some ([],[])
 |k::v::r=>(pairs? r).map λp=>(k::p.1,v::p.2)
 |_=>none
noncomputable def mm(k:Dk)(ks vs:List V):Option Ob:=
 match k with
 |.int=>(ints? ks).map λl=>.idict ((l.zip vs).foldl (λd p=>iput d p.1 p.2) [])
 |.str=>(strs? ks).map λl=>.sdict ((l.zip vs).foldl (λd p=>sput d p.1 p.2) [])
 |.tup=>if ks.isEmpty then some (.tdict []) else none
noncomputable def bX(s:S)(src:V)(all:List V):Bool:=
 match src with
 |.ref _=>decide (iter? s src=some all)
 |.tmp _=>decide (iter? s src=some all)
 |_=>true
theorem dG{s0 s:S}{src:V}{all:List V}(h0:iter? s0 src=some all)(h:bX s src all=true):iter? s src=some all:=by
 cases src<;>first|exact of_decide_eq_true h|exact h0
noncomputable def bd{α β:Type}(o:Option (α×S))(k:α->S->Option β):Option β:=match o with|some (a,s)=>k a s|none=>none
theorem bE{α β:Type}{o:Option (α×S)}{k:α->S->Option β}{r:β}{C:Prop}(h:bd o k=some r)(H:∀a s,o=some (a,s)->k a s=some r->C):C:=by
 cases o with
 |none=>exact nn h
 |some q=>cases q;exact H _ _ rfl h
theorem pE{α β:Type}{P:α->β->Prop}{a c:α}{b d:β}(h:some (a,b)=some (c,d))(H:P a b):P c d:=by cases h;exact H
theorem aw{α β:Type}{o:Option (α×S)}{k:α->S->Option β}{r:Option β}{a:α}{s:S}(e:o=some (a,s))(h:k a s=r):bd o k=r:=by subst e;exact h
theorem oE{α β:Type}{o:Option α}{k:α->Option β}{r:β}{C:Prop}(h:o.bind k=some r)(H:∀a,o=some a->k a=some r->C):C:=by
 cases o with
 |none=>exact nn h
 |some q=>exact H q rfl h
theorem bh{α β:Type}{o:Option α}{k:α->Option β}{r:Option β}{a:α}(e:o=some a)(h:k a=r):o.bind k=r:=by subst e;exact h
theorem BN{α:Type}{p:Prop}[Decidable p]{o:Option α}{r:α}(h:(if p then o else none)=some r):p/\o=some r:=by
 by_cases hp:p
 ·rw [if_pos hp] at h;exact⟨hp,h⟩
 ·rw [if_neg hp] at h;exact nomatch h
theorem iE{α:Type}{p:Prop}[Decidable p]{o:Option α}{r:α}{C:Prop}(h:(if p then o else none)=some r)(H:p->o=some r->C):C:=(BN h).elim H
noncomputable def evC(f:V->S->Option (V×S))(src:V)(all:List V):List V->S->Option (List V×S)
 |[],s=>some ([],s)
 |v::r,s=>bd (f v s) λy s=>if bX s src all then bd (evC f src all r s) λl s=>some (y::l,s) else none
noncomputable def jt(c f:V->S->Option (V×S))(src:V)(all:List V):List V->S->Option (List V×S)
 |[],s=>some ([],s)
 |v::r,s=>bd (c v s) λb s=>(truth s b).bind λt=>bif t then bd (f v s) λy s=>if bX s src all then bd (jt c f src all r s) λl s=>some (y::l,s) else none
  else if bX s src all then jt c f src all r s else none
noncomputable def Fl.val:Fl->V
 |.next=>.none
 |.ret v=>v
noncomputable def vC{α:Type}(v:V)(k:V->V->Option α):Option α:=if h:v.ctorIdx=11 then V.clo.elim (motive_1:=λ_=>Option α) v h k else none
theorem AR{α:Type}{v:V}{k:V->V->Option α}{r:α}(h:vC v k=some r):∃a b,v=.clo a b/\k a b=some r:=
 (dO h).elim λh q=>
 V.clo.elim (motive_1:=λv=>∀h:v.ctorIdx=11,V.clo.elim (motive_1:=λ_=>Option α) v h k=some r->∃a b,v=.clo a b/\k a b=some r) v h (λa b _ q=>⟨a,b,rfl,q⟩) h q
noncomputable def tV(cf:Cf)(c:Nat)(l:List V)(s:S):Option (V×S):=
 match cf.init c with
 |some f=>bd (cf.call f (.ref s.perm.length::l) {s with perm:=s.perm++[.inst c []]}) λr s'=>if r.ctorIdx=1 then some (.ref s.perm.length,s') else none
 |none=>if l.isEmpty then some (.ref s.perm.length,{s with perm:=s.perm++[.inst c []]}) else none
theorem tT{cf:Cf}{c f:Nat}{l:List V}{s:S}(h:cf.init c=some f):tV cf c l s=bd (cf.call f (.ref s.perm.length::l) {s with perm:=s.perm++[.inst c []]}) λr s'=>if r.ctorIdx=1 then some (.ref s.perm.length,s') else none:=by
 delta tV;rw [h]
theorem tU{cf:Cf}{c:Nat}{l:List V}{s:S}(h:cf.init c=none):tV cf c l s=if l.isEmpty then some (.ref s.perm.length,{s with perm:=s.perm++[.inst c []]}) else none:=by
 delta tV;rw [h]
theorem V.none_of{v:V}(h:v.ctorIdx=1):v=.none:=V.none.elim (motive_1:=λv=>v=.none) v h rfl
noncomputable def Es.isNil:Es->Bool
 |.nil=>true
 |.cons _ _=>false
mutual
noncomputable def ev(cf:Cf):E->List V->S->Option (V×S)
 |.lit v,_,s=>some (v,s)
 |.loc x,ρ,s=>if(lget ρ x).ctorIdx=0 then none else some (lget ρ x,s)
 |.glb _ v,_,s=>some (v,s)
 |.bin op a b,ρ,s=>bd (ev cf a ρ s) λx s=>bd (ev cf b ρ s) λy s=>(lf op x y).bind λr=>some (r,s)
 |.neg a,ρ,s=>bd (ev cf a ρ s) λv s=>vI v λi=>some (.int (-i),s)
 |.cmp op a b,ρ,s=>bd (ev cf a ρ s) λx s=>bd (ev cf b ρ s) λy s=>(lb s op x y).bind λr=>some (.bool r,s)
 |.bop c es,ρ,s=>evB cf es ρ c s
 |.not a,ρ,s=>bd (ev cf a ρ s) λx s=>(truth s x).bind λb=>some (.bool (!b),s)
 |.ite c a b,ρ,s=>bd (ev cf c ρ s) λv s=>(truth s v).bind λt=>bif t then ev cf a ρ s else ev cf b ρ s
 |.tup es,ρ,s=>bd (evs cf es ρ s) λl s=>if l.length<=lim then some (.tup l,s) else none
 |.lst k es,ρ,s=>bd (evs cf es ρ s) λl s=>if l.length<=lim then
   if k.ctorIdx=0 then some (.lst l,s) else if aD l then some (s.new (Nat.beq k.ctorIdx 2) (.list l)) else none
   else none
 |.dict k p kvs,ρ,s=>bd (evs cf kvs ρ s) λl s=>(pairs? l).bind λq=>if aD q.2&&decide (q.2.length<=lim) then(mm k q.1 q.2).bind λo=>some (s.new p o) else none
 |.comp k elt x src,ρ,s=>bd (ev cf src ρ s) λv s=>(iter? s v).bind λl=>bd (evC (λv s=>ev cf elt (lset ρ x v) s) v l l s) λout s=>
   if k.ctorIdx=2 then if aD out then some (s.new true (.list out)) else none else some (.lst out,s)
 |.compIf elt x src c,ρ,s=>bd (ev cf src ρ s) λv s=>(iter? s v).bind λl=>bd (jt (λv s=>ev cf c (lset ρ x v) s) (λv s=>ev cf elt (lset ρ x v) s) v l l s) λout s=>some (.lst out,s)
 |.call f args,ρ,s=>bd (evs cf args ρ s) λl s=>cf.call f l s
 |.lcall x a,ρ,s=>vC (lget ρ x) λp q=>bd (ev cf a ρ s) λv s=>cf.call 0 [p,q,v] s
 |.new c args,ρ,s=>bd (evs cf args ρ s) λl s=>tV cf c l s
 |.meth o m args,ρ,s=>bd (ev cf o ρ s) λv s=>oN (s.ob v) λc fs=>if(nget fs m).isNone then(cf.meth c m).bind λf=>bd (evs cf args ρ s) λl s=>cf.call f (v::l) s else none
 |.bf b a,ρ,s=>bd (ev cf a ρ s) λv s=>(bf1 s b v).bind λr=>some (r,s)
 |.bm m o args,ρ,s=>bd (ev cf o ρ s) λv s0=>bd (evs cf args ρ s0) λl s=>if bkind s0 v=bkind s v then bm1 s m v l else none
 |.attr o nm,ρ,s=>bd (ev cf o ρ s) λv s=>(getAttr cf.own s v nm).bind λr=>some (r,s)
 |.idx a i,ρ,s=>bd (ev cf a ρ s) λv s=>bd (ev cf i ρ s) λk s=>(item s v k).bind λr=>some (r,s)
 |.slc a lo hi,ρ,s=>bd (ev cf a ρ s) λv s=>bd (ev cf lo ρ s) λl s=>bd (ev cf hi ρ s) λh s=>vT v λxs=>(slice xs l h).bind λys=>some (.tup ys,s)
 |.wild,_,_=>none
noncomputable def evs(cf:Cf):Es->List V->S->Option (List V×S)
 |.nil,_,s=>some ([],s)
 |.cons e es,ρ,s=>bd (ev cf e ρ s) λv s=>bd (evs cf es ρ s) λl s=>some (v::l,s)
noncomputable def evB(cf:Cf):Es->List V->Bool->S->Option (V×S)
 |.nil,_,_,_=>none
 |.cons e es,ρ,conj,s=>bd (ev cf e ρ s) λv s=>if es.isNil then some (v,s) else(truth s v).bind λb=>if b==conj then evB cf es ρ conj s else some (v,s)
end
noncomputable def small:V->Bool
 |.none=>true
 |.bool _=>true
 |.int _=>true
 |_=>false
noncomputable def nx(o:Option (Fl×List V×S))(k:List V->S->Option (Fl×List V×S)):Option (Fl×List V×S):=match o with
 |some (.next,ρ,s)=>k ρ s
 |some (.ret v,ρ,s)=>some (.ret v,ρ,s)
 |none=>none
theorem nE{o:Option (Fl×List V×S)}{k:List V->S->Option (Fl×List V×S)}{r:Fl×List V×S}{C:Prop}(h:nx o k=some r)(H:∀ρ s,o=some (.next,ρ,s)->k ρ s=some r->C)
  (H2:∀v ρ s,o=some (.ret v,ρ,s)->(.ret v,ρ,s)=r->C):C:=by
 cases o with
 |none=>exact nn h
 |some q=>
  obtain⟨a,ρ,s⟩:=q
  cases a with
  |next=>exact H ρ s rfl h
  |ret v=>exact H2 v ρ s rfl (Option.some.inj h)
theorem jx{o:Option (Fl×List V×S)}{k:List V->S->Option (Fl×List V×S)}{r:Option (Fl×List V×S)}{ρ:List V}{s:S}(e:o=some (.next,ρ,s))(h:k ρ s=r):nx o k=r:=by subst e;exact h
theorem qY{o:Option (Fl×List V×S)}{k:List V->S->Option (Fl×List V×S)}{v:V}{ρ:List V}{s:S}(e:o=some (.ret v,ρ,s)):nx o k=some (.ret v,ρ,s):=by subst e;rfl
noncomputable def exF(f:List V->S->Option (Fl×List V×S))(x:Nat)(src:V)(all:List V):List V->List V->S->Option (Fl×List V×S)
 |[],ρ,s=>some (.next,ρ,s)
 |v::r,ρ,s=>nx (f (lset ρ x v) s) λρ s=>if bX s src all then exF f x src all r ρ s else none
noncomputable def exW(c:List V->S->Option (V×S))(f:List V->S->Option (Fl×List V×S)):Nat->List V->S->Option (Fl×List V×S)
 |0,_,_=>none
 |n+1,ρ,s=>bd (c ρ s) λv s=>(truth s v).bind λt=>bif t then nx (f ρ s) λρ s=>exW c f n ρ s else some (.next,ρ,s)
noncomputable def Ak(ρ:List V)(x:Nat)(op:Op)(v:V)(s:S):Option (Fl×List V×S):=
 match lget ρ x with
 |.ref i=>if op.ctorIdx=0 then vL v λm=>oL (s.perm[i]?) λl=>if aD m&&decide (l.length+m.length<=lim) then some (.next,ρ,{s with perm:=s.perm.set i (.list (l++m))}) else none else none
 |.int a=>vI v λ_=>(lf op (.int a) v).bind λw=>some (.next,lset ρ x w,s)
 |_=>none
mutual
noncomputable def ex(cf:Cf):St->List V->S->Option (Fl×List V×S)
 |.asg x e,ρ,s=>bd (ev cf e ρ s) λv s=>some (.next,lset ρ x v,s)
 |.unpack x y e,ρ,s=>bd (ev cf e ρ s) λv s=>vT v λl=>a2 (λa b=>some (.next,lset (lset ρ x a) y b,s)) l
 |.setattr o nm e,ρ,s=>bd (ev cf e ρ s) λv s=>bd (ev cf o ρ s) λov s=>(setAttr cf.own s ov nm v).bind λs=>some (.next,ρ,s)
 |.setidx o i e,ρ,s=>bd (ev cf e ρ s) λv s=>bd (ev cf o ρ s) λov s=>bd (ev cf i ρ s) λiv s=>(setItem s ov iv v).bind λs=>some (.next,ρ,s)
 |.aug x op e,ρ,s=>if(lget ρ x).ctorIdx=0 then none else bd (ev cf e ρ s) λv s=>Ak ρ x op v s
 |.augidx o i op e,ρ,s=>bd (ev cf o ρ s) λov s=>bd (ev cf i ρ s) λiv s=>(item s ov iv).bind λold=>bd (ev cf e ρ s) λv s=>
   vI old λ_=>vI v λ_=>(lf op old v).bind λw=>(setItem s ov iv w).bind λs=>some (.next,ρ,s)
 |.expr e,ρ,s=>bd (ev cf e ρ s) λv s=>if small v then some (.next,ρ,s) else none
 |.ite c a b,ρ,s=>bd (ev cf c ρ s) λv s=>(truth s v).bind λt=>bif t then exs cf a ρ s else exs cf b ρ s
 |.for_ x src body,ρ,s=>bd (ev cf src ρ s) λv s=>(iter? s v).bind λl=>exF (exs cf body) x v l l ρ s
 |.while_ c body,ρ,s=>exW (ev cf c) (exs cf body) 100 ρ s
 |.ret e,ρ,s=>bd (ev cf e ρ s) λv s=>some (.ret v,ρ,s)
 |.ret0,ρ,s=>some (.ret .none,ρ,s)
 |.wild,_,_=>none
noncomputable def exs(cf:Cf):Sts->List V->S->Option (Fl×List V×S)
 |.nil,ρ,s=>some (.next,ρ,s)
 |.cons st r,ρ,s=>nx (ex cf st ρ s) λρ s=>exs cf r ρ s
end
noncomputable def kJ(cf:Cf)(f:Fn)(args:List V)(s:S):Option (V×S):=
 if args.length<=f.params/\f.params<=args.length+f.dflt.length then
  (exs cf f.body (args++f.dflt.drop (args.length+f.dflt.length - f.params)++List.replicate (f.slots - f.params) .undef) s).bind λq=>
   if aV q.1.val then some (q.1.val,{q.2.2 with tmps:=q.2.2.tmps.take s.tmps.length}) else none
 else none
structure Prog where
 fn:Nat->Option Fn
 meth:Nat->Nat->Option Nat
 init:Nat->Option Nat
 own:Nat->Nat->Bool
noncomputable def Prog.callAt(p:Prog):Nat->Nat->List V->S->Option (V×S)
 |0=>λ_ _ _=>none
 |n+1=>λf args s=>match p.fn f with
   |some fn=>kJ ⟨p.callAt n,p.meth,p.init,p.own⟩ fn args s
   |none=>none
noncomputable def Prog.cf(p:Prog)(n:Nat):Cf:=⟨p.callAt n,p.meth,p.init,p.own⟩
noncomputable def iS:Fn where
 params:=3
 slots:=4
 dflt:=[]
 ctx:=[(⟨#[110,117,109,115]⟩,0),(qD,1),(⟨#[107]⟩,2),(⟨#[110]⟩,3)]
 body:=(.cons (.asg 3 (.bin .add (.idx (.loc 0) (.bin .mod (.idx (.loc 1) (.lit (.int 0))) (.bf .len (.loc 0)))) (.bin .mul (.lit (.int 31)) (.bin .fdiv (.idx (.loc 1) (.lit (.int 0))) (.bf .len (.loc 0))))))
 (.cons (.augidx (.loc 1) (.lit (.int 0)) .add (.lit (.int 1)))
 (.cons (.ret (.bin .mod (.loc 3) (.loc 2)))
 .nil)))
noncomputable def iU:Fn where
 params:=1
 slots:=2
 dflt:=[]
 ctx:=[(ql,0),(qt,1)]
 body:=(.cons (.setattr (.loc 0) 0 (.lst .perm .nil))
 (.cons (.setattr (.loc 0) 1 (.dict .tup true .nil))
 (.cons (.setattr (.loc 0) 2 (.lst .perm (.cons (.lit .none) .nil)))
 (.cons (.setattr (.loc 0) 3 (.lst .perm .nil))
 (.cons (.setattr (.loc 0) 4 (.lst .perm .nil))
 (.cons (.setattr (.loc 0) 5 (.lst .perm .nil))
 (.cons (.setattr (.loc 0) 6 (.dict .int true .nil))
 (.cons (.setattr (.loc 0) 7 (.dict .int true .nil))
 (.cons (.setattr (.loc 0) 8 (.lit (.int 0)))
 (.cons (.setattr (.loc 0) 9 (.lit (.int 0)))
 (.cons (.for_ 1 (.glb ⟨#[70,73,82,83,84,95,82,79,87,83]⟩ (.tup [(.tup [.int 1,(.str ⟨#[97,110,121]⟩)]),(.tup [.int 1,(.str ⟨#[117,110,107,110,111,119,110]⟩)]),(.tup [.int 1,(.str ⟨#[110,101,118,101,114]⟩)]),(.tup [.int 1,(.str ⟨#[118,111,105,100]⟩)]),(.tup [.int 1,(.str ⟨#[117,110,100,101,102,105,110,101,100]⟩)]),(.tup [.int 1,(.str ⟨#[110,117,108,108]⟩)]),(.tup [.int 1,(.str ⟨#[115,116,114,105,110,103]⟩)]),(.tup [.int 1,(.str qa)]),(.tup [.int 2,.int 0,.int 0]),(.tup [.int 2,.int 1,.int 0]),(.tup [.int 1,(.str ⟨#[111,98,106,101,99,116]⟩)]),(.tup [.int 8,(.tup []),(.tup []),(.tup []),(.tup []),(.tup []),.int 0]),(.tup [.int 6,(.tup [.int 8,.int 9])]),(.tup [.int 1,(.str ⟨#[101,114,114,111,114]⟩)]),(.tup [.int 2,.int 0,.int 1]),(.tup [.int 2,.int 1,.int 1])])) (.cons (.expr (.meth (.loc 0) 10 (.cons (.loc 1) .nil)))
 .nil))
 .nil)))))))))))
noncomputable def js:Fn where
 params:=2
 slots:=3
 dflt:=[]
 ctx:=[(ql,0),(qt,1),(qh,2)]
 body:=(.cons (.ite (.cmp .isin (.loc 1) (.attr (.loc 0) 1)) (.cons (.ret (.idx (.attr (.loc 0) 1) (.loc 1)))
 .nil) .nil)
 (.cons (.asg 2 (.bf .len (.attr (.loc 0) 0)))
 (.cons (.expr (.bm .append (.attr (.loc 0) 0) (.cons (.loc 1) .nil)))
 (.cons (.setidx (.attr (.loc 0) 1) (.loc 1) (.loc 2))
 (.cons (.ret (.loc 2))
 .nil)))))
noncomputable def o7:Fn where
 params:=4
 slots:=4
 dflt:=[]
 ctx:=[(ql,0),(⟨#[100,105,100]⟩,1),(⟨#[107,105,110,100]⟩,2),(⟨#[110,97,109,101]⟩,3)]
 body:=(.cons (.setattr (.loc 0) 11 (.loc 1))
 (.cons (.setattr (.loc 0) 12 (.loc 2))
 (.cons (.setattr (.loc 0) 13 (.loc 3))
 (.cons (.setattr (.loc 0) 14 (.tup .nil))
 (.cons (.setattr (.loc 0) 15 (.neg (.lit (.int 1))))
 (.cons (.setattr (.loc 0) 16 (.tup .nil))
 (.cons (.setattr (.loc 0) 17 (.neg (.lit (.int 1))))
 (.cons (.setattr (.loc 0) 18 (.lit (.int 0)))
 (.cons (.setattr (.loc 0) 19 (.lit (.bool false)))
 (.cons (.setattr (.loc 0) 20 (.lst .perm .nil))
 (.cons (.setattr (.loc 0) 21 (.lst .perm .nil))
 (.cons (.setattr (.loc 0) 22 (.lit (.int 0)))
 (.cons (.setattr (.loc 0) 23 (.lit (.int 0)))
 (.cons (.setattr (.loc 0) 24 (.lit (.str qv)))
 (.cons (.setattr (.loc 0) 25 (.lit (.int 0)))
 .nil)))))))))))))))
noncomputable def oY:Fn where
 params:=2
 slots:=2
 dflt:=[]
 ctx:=[(qj,0),(⟨#[115,105,103]⟩,1)]
 body:=(.cons (.ret (.meth (.loc 0) 10 (.cons (.tup (.cons (.glb ⟨#[89,95,79,66,74]⟩ (.int 8)) (.cons (.tup .nil) (.cons (.tup (.cons (.loc 1) .nil)) (.cons (.tup .nil) (.cons (.tup .nil) (.cons (.tup .nil) (.cons (.lit (.int 0)) .nil)))))))) .nil)))
 .nil)
noncomputable def oU:Fn where
 params:=4
 slots:=5
 dflt:=[(.int (-1)),(.int (-1))]
 ctx:=[(qj,0),(⟨#[110,97,109,101]⟩,1),(⟨#[98,111,117,110,100]⟩,2),(⟨#[100,101,102,97,117,108,116]⟩,3),(⟨#[112,105,100]⟩,4)]
 body:=(.cons (.asg 4 (.bf .len (.attr (.loc 0) 3)))
 (.cons (.expr (.bm .append (.attr (.loc 0) 3) (.cons (.loc 2) .nil)))
 (.cons (.expr (.bm .append (.attr (.loc 0) 4) (.cons (.loc 3) .nil)))
 (.cons (.expr (.bm .append (.attr (.loc 0) 5) (.cons (.loc 1) .nil)))
 (.cons (.ret (.meth (.loc 0) 10 (.cons (.tup (.cons (.glb ⟨#[89,95,80,65,82,65,77]⟩ (.int 10)) (.cons (.loc 4) .nil))) .nil)))
 .nil)))))
noncomputable def rx:Fn where
 params:=2
 slots:=3
 dflt:=[]
 ctx:=[(qj,0),(qh,1),(qt,2)]
 body:=(.cons (.ite (.cmp .eq (.loc 1) (.glb ⟨#[78,69,86,69,82]⟩ (.int 2))) (.cons (.ret (.tup .nil))
 .nil) .nil)
 (.cons (.asg 2 (.idx (.attr (.loc 0) 0) (.loc 1)))
 (.cons (.ite (.cmp .eq (.idx (.loc 2) (.lit (.int 0))) (.glb qN (.int 6))) (.cons (.ret (.idx (.loc 2) (.lit (.int 1))))
 .nil) .nil)
 (.cons (.ret (.tup (.cons (.loc 1) .nil)))
 .nil))))
noncomputable def kE:Fn where
 params:=1
 slots:=2
 dflt:=[]
 ctx:=[(qt,0),(⟨#[107,105,110,100]⟩,1)]
 body:=(.cons (.asg 1 (.idx (.loc 0) (.lit (.int 0))))
 (.cons (.ite (.bop false (.cons (.cmp .eq (.loc 1) (.glb ⟨#[89,95,83,84,82]⟩ (.int 3))) (.cons (.cmp .eq (.loc 1) (.glb qM (.int 18))) .nil))) (.cons (.ret (.glb qn (.int 6)))
 .nil) .nil)
 (.cons (.ite (.cmp .eq (.loc 1) (.glb ⟨#[89,95,78,85,77]⟩ (.int 4))) (.cons (.ret (.glb qm (.int 7)))
 .nil) .nil)
 (.cons (.ite (.cmp .eq (.loc 1) (.glb ⟨#[89,95,69,78,85,77]⟩ (.int 5))) (.cons (.ret (.ite (.bf .isStr (.idx (.loc 0) (.lit (.int 3)))) (.glb qn (.int 6)) (.glb qm (.int 7))))
 .nil) .nil)
 (.cons (.ret (.neg (.lit (.int 1))))
 .nil)))))
noncomputable def kG:Fn where
 params:=2
 slots:=3
 dflt:=[]
 ctx:=[(qj,0),(qh,1),(qt,2)]
 body:=(.cons (.asg 2 (.idx (.attr (.loc 0) 0) (.loc 1)))
 (.cons (.ite (.bop true (.cons (.cmp .isin (.idx (.loc 2) (.lit (.int 0))) (.glb ⟨#[77,65,82,75,69,68,95,82,79,87,83]⟩ (.tup [.int 2,.int 3,.int 4,.int 5,.int 8]))) (.cons (.cmp .eq (.idx (.loc 2) (.neg (.lit (.int 1)))) (.lit (.int 1))) .nil))) (.cons (.ret (.bm .get (.attr (.loc 0) 1) (.cons (.bin .add (.slc (.loc 2) (.lit .none) (.neg (.lit (.int 1)))) (.tup (.cons (.lit (.int 0)) .nil))) (.cons (.neg (.lit (.int 1))) .nil))))
 .nil) .nil)
 (.cons (.ret (.neg (.lit (.int 1))))
 .nil)))
noncomputable def mI:Fn where
 params:=1
 slots:=1
 dflt:=[]
 ctx:=[(⟨#[103,111,116]⟩,0)]
 body:=(.cons (.ite (.bop true (.cons (.bop false (.cons (.cmp .isin (.glb ⟨#[70,65,76,83,69,95,84]⟩ (.int 8)) (.loc 0)) (.cons (.cmp .isin (.glb ⟨#[70,82,69,83,72,95,70]⟩ (.int 14)) (.loc 0)) .nil))) (.cons (.bop false (.cons (.cmp .isin (.glb ⟨#[84,82,85,69,95,84]⟩ (.int 9)) (.loc 0)) (.cons (.cmp .isin (.glb ⟨#[70,82,69,83,72,95,84]⟩ (.int 15)) (.loc 0)) .nil))) .nil))) (.cons (.setidx (.loc 0) (.glb ⟨#[70,65,76,83,69,95,84]⟩ (.int 8)) (.lit (.int 1)))
 (.cons (.setidx (.loc 0) (.glb ⟨#[84,82,85,69,95,84]⟩ (.int 9)) (.lit (.int 1)))
 .nil)) .nil)
 .nil)
noncomputable def kF:Fn where
 params:=3
 slots:=3
 dflt:=[]
 ctx:=[(qj,0),(⟨#[103,111,116]⟩,1),(qh,2)]
 body:=(.cons (.ite (.cmp .isin (.call 8 (.cons (.loc 0) (.cons (.loc 2) .nil))) (.loc 1)) (.cons (.ret (.lit (.bool false)))
 .nil) .nil)
 (.cons (.ret (.cmp .notin (.call 7 (.cons (.idx (.attr (.loc 0) 0) (.loc 2)) .nil)) (.loc 1)))
 .nil))
noncomputable def fP:Fn where
 params:=1
 slots:=2
 dflt:=[]
 ctx:=[(⟨#[103,111,116]⟩,0),(qh,1)]
 body:=(.cons (.for_ 1 (.tup (.cons (.glb qQ (.int 0)) (.cons (.glb qC (.int 13)) (.cons (.glb ⟨#[85,78,75,78,79,87,78]⟩ (.int 1)) .nil)))) (.cons (.ite (.cmp .isin (.loc 1) (.loc 0)) (.cons (.ret (.loc 1))
 .nil) .nil)
 .nil))
 (.cons (.ret (.neg (.lit (.int 1))))
 .nil))
noncomputable def bb:Fn where
 params:=2
 slots:=8
 dflt:=[]
 ctx:=[(qj,0),(⟨#[112,97,114,116,115]⟩,1),(⟨#[103,111,116]⟩,2),(qh,3),(qy,4),(⟨#[116,111,112]⟩,5),(⟨#[107,101,112,116]⟩,6)]
 body:=(.cons (.asg 2 (.dict .int false .nil))
 (.cons (.for_ 3 (.loc 1) (.cons (.for_ 4 (.call 6 (.cons (.loc 0) (.cons (.loc 3) .nil))) (.cons (.setidx (.loc 2) (.loc 4) (.lit (.int 1)))
 .nil))
 .nil))
 (.cons (.asg 5 (.call 11 (.cons (.loc 2) .nil)))
 (.cons (.ite (.cmp .ge (.loc 5) (.lit (.int 0))) (.cons (.ret (.loc 5))
 .nil) .nil)
 (.cons (.expr (.call 9 (.cons (.loc 2) .nil)))
 (.cons (.asg 6 (.compIf (.loc 7) 7 (.bf .sorted (.loc 2)) (.call 10 (.cons (.loc 0) (.cons (.loc 2) (.cons (.loc 7) .nil))))))
 (.cons (.ite (.not (.loc 6)) (.cons (.ret (.glb ⟨#[78,69,86,69,82]⟩ (.int 2)))
 .nil) .nil)
 (.cons (.ite (.cmp .eq (.bf .len (.loc 6)) (.lit (.int 1))) (.cons (.ret (.idx (.loc 6) (.lit (.int 0))))
 .nil) .nil)
 (.cons (.ite (.cmp .gt (.bf .len (.loc 6)) (.glb ⟨#[77,65,88,95,85,78,73,79,78]⟩ (.int 400))) (.cons .wild
 .nil) .nil)
 (.cons (.ret (.meth (.loc 0) 10 (.cons (.tup (.cons (.glb qN (.int 6)) (.cons (.bf .tuple (.loc 6)) .nil))) .nil)))
 .nil))))))))))
noncomputable def jr:Fn where
 params:=2
 slots:=5
 dflt:=[]
 ctx:=[(qj,0),(⟨#[112,97,114,116,115]⟩,1),(⟨#[102,111,117,110,100]⟩,2),(⟨#[115,97,109,101]⟩,3)]
 body:=(.cons (.asg 2 (.call 15 (.cons (.loc 0) (.cons (.idx (.loc 1) (.lit (.int 0))) .nil))))
 (.cons (.asg 3 (.bf .all (.comp .frozen (.cmp .eq (.call 15 (.cons (.loc 0) (.cons (.loc 4) .nil))) (.loc 2)) 4 (.loc 1))))
 (.cons (.ret (.ite (.loc 3) (.loc 2) (.glb qK (.int 0))))
 .nil)))
noncomputable def kR:Fn where
 params:=2
 slots:=5
 dflt:=[]
 ctx:=[(qj,0),(⟨#[112,97,114,116,115]⟩,1),(⟨#[102,111,117,110,100]⟩,2),(qy,3),(⟨#[102,97,109]⟩,4)]
 body:=(.cons (.asg 2 (.glb qK (.int 0)))
 (.cons (.for_ 3 (.loc 1) (.cons (.asg 4 (.call 15 (.cons (.loc 0) (.cons (.loc 3) .nil))))
 (.cons (.ite (.bop true (.cons (.cmp .ne (.loc 4) (.glb qK (.int 0))) (.cons (.cmp .ne (.loc 4) (.glb ⟨#[70,65,77,95,79,66,74]⟩ (.int 7))) .nil))) (.cons (.ret (.loc 4))
 .nil) .nil)
 (.cons (.ite (.bop true (.cons (.cmp .eq (.loc 4) (.glb ⟨#[70,65,77,95,79,66,74]⟩ (.int 7))) (.cons (.cmp .ne (.loc 3) (.glb ⟨#[69,77,80,84,89]⟩ (.int 11))) .nil))) (.cons (.asg 2 (.glb ⟨#[70,65,77,95,79,66,74]⟩ (.int 7)))
 .nil) .nil)
 .nil))))
 (.cons (.ret (.loc 2))
 .nil)))
noncomputable def eQ:Fn where
 params:=2
 slots:=5
 dflt:=[]
 ctx:=[(qj,0),(qh,1),(qt,2),(⟨#[107,105,110,100]⟩,3),(⟨#[119,104,111,108,101]⟩,4)]
 body:=(.cons (.asg 2 (.idx (.attr (.loc 0) 0) (.loc 1)))
 (.cons (.asg 3 (.idx (.loc 2) (.lit (.int 0))))
 (.cons (.ite (.cmp .eq (.loc 3) (.glb ⟨#[89,95,75,69,89]⟩ (.int 1))) (.cons (.ret (.bm .get (.glb ⟨#[75,69,89,95,70,65,77,73,76,73,69,83]⟩ (.kd [3,4,5,6,7,10] [.int 6,.int 5,.int 4,.int 1,.int 2,.int 7])) (.cons (.loc 1) (.cons (.glb qK (.int 0)) .nil))))
 .nil) .nil)
 (.cons (.ite (.cmp .eq (.loc 3) (.glb ⟨#[89,95,66,79,79,76]⟩ (.int 2))) (.cons (.ret (.glb ⟨#[70,65,77,95,66,79,79,76]⟩ (.int 3)))
 .nil) .nil)
 (.cons (.ite (.cmp .isin (.loc 3) (.glb ⟨#[79,66,74,69,67,84,95,82,79,87,83]⟩ (.tup [.int 8,.int 9,.int 11,.int 12,.int 13]))) (.cons (.ret (.glb ⟨#[70,65,77,95,79,66,74]⟩ (.int 7)))
 .nil) .nil)
 (.cons (.ite (.cmp .eq (.loc 3) (.glb qN (.int 6))) (.cons (.ret (.call 13 (.cons (.loc 0) (.cons (.idx (.loc 2) (.lit (.int 1))) .nil))))
 .nil) .nil)
 (.cons (.ite (.cmp .eq (.loc 3) (.glb qO (.int 7))) (.cons (.ret (.call 14 (.cons (.loc 0) (.cons (.idx (.loc 2) (.lit (.int 1))) .nil))))
 .nil) .nil)
 (.cons (.asg 4 (.call 7 (.cons (.loc 2) .nil)))
 (.cons (.ite (.cmp .lt (.loc 4) (.lit (.int 0))) (.cons (.ret (.glb qK (.int 0)))
 .nil) .nil)
 (.cons (.ret (.ite (.cmp .eq (.loc 4) (.glb qn (.int 6))) (.glb ⟨#[70,65,77,95,83,84,82]⟩ (.int 1)) (.glb ⟨#[70,65,77,95,78,85,77]⟩ (.int 2))))
 .nil))))))))))
noncomputable def mL:Fn where
 params:=1
 slots:=1
 dflt:=[]
 ctx:=[(qz,0)]
 body:=(.cons (.ret (.ite (.cmp .eq (.loc 0) (.tup .nil)) (.lst .frozen .nil) (.lst .frozen (.cons (.idx (.loc 0) (.lit (.int 0))) .nil))))
 .nil)
noncomputable def rt:Fn where
 params:=1
 slots:=3
 dflt:=[]
 ctx:=[(qt,0),(⟨#[111,117,116]⟩,1)]
 body:=(.cons (.asg 1 (.comp .frozen (.idx (.loc 2) (.lit (.int 1))) 2 (.idx (.loc 0) (.lit (.int 2)))))
 (.cons (.expr (.bm .append (.loc 1) (.cons (.idx (.loc 0) (.lit (.int 3))) .nil)))
 (.cons (.ite (.cmp .ne (.idx (.loc 0) (.lit (.int 4))) (.tup .nil)) (.cons (.expr (.bm .append (.loc 1) (.cons (.idx (.idx (.loc 0) (.lit (.int 4))) (.lit (.int 1))) .nil)))
 .nil) .nil)
 (.cons (.ret (.loc 1))
 .nil))))
noncomputable def kQ:Fn where
 params:=1
 slots:=4
 dflt:=[]
 ctx:=[(qt,0),(⟨#[111,117,116]⟩,1),(⟨#[115,105,103]⟩,2)]
 body:=(.cons (.asg 1 (.comp .frozen (.idx (.loc 3) (.lit (.int 1))) 3 (.idx (.loc 0) (.lit (.int 1)))))
 (.cons (.for_ 2 (.bin .add (.idx (.loc 0) (.lit (.int 2))) (.idx (.loc 0) (.lit (.int 3)))) (.cons (.expr (.bm .append (.loc 1) (.cons (.loc 2) .nil)))
 .nil))
 (.cons (.ret (.bin .add (.bin .add (.loc 1) (.call 16 (.cons (.idx (.loc 0) (.lit (.int 4))) .nil))) (.call 16 (.cons (.idx (.loc 0) (.lit (.int 5))) .nil))))
 .nil)))
noncomputable def ru:Fn where
 params:=1
 slots:=8
 dflt:=[]
 ctx:=[(qt,0),(⟨#[107,105,110,100]⟩,1),(⟨#[108,111,119]⟩,2),(⟨#[104,105,103,104]⟩,3)]
 body:=(.cons (.asg 1 (.idx (.loc 0) (.lit (.int 0))))
 (.cons (.ite (.cmp .isin (.loc 1) (.glb ⟨#[75,73,68,95,83,80,65,78,83]⟩ (.kd [11,14,15,16,17] [(.tup [.int 1,.int 2]),(.tup [.int 1,.int 2]),(.tup [.int 1,.int 3]),(.tup [.int 1,.int 5]),(.tup [.int 2,.int 5])]))) (.cons (.unpack 2 3 (.idx (.glb ⟨#[75,73,68,95,83,80,65,78,83]⟩ (.kd [11,14,15,16,17] [(.tup [.int 1,.int 2]),(.tup [.int 1,.int 2]),(.tup [.int 1,.int 3]),(.tup [.int 1,.int 5]),(.tup [.int 2,.int 5])])) (.loc 1)))
 (.cons (.ret (.comp .frozen (.loc 4) 4 (.slc (.loc 0) (.loc 2) (.loc 3))))
 .nil)) .nil)
 (.cons (.ite (.bop false (.cons (.cmp .eq (.loc 1) (.glb qN (.int 6))) (.cons (.cmp .eq (.loc 1) (.glb qO (.int 7))) .nil))) (.cons (.ret (.comp .frozen (.loc 5) 5 (.idx (.loc 0) (.lit (.int 1)))))
 .nil) .nil)
 (.cons (.ite (.cmp .eq (.loc 1) (.glb ⟨#[89,95,79,66,74]⟩ (.int 8))) (.cons (.ret (.call 18 (.cons (.loc 0) .nil)))
 .nil) .nil)
 (.cons (.ite (.bop false (.cons (.cmp .eq (.loc 1) (.glb ⟨#[89,95,82,69,70]⟩ (.int 9))) (.cons (.cmp .eq (.loc 1) (.glb ⟨#[89,95,65,76,73,65,83]⟩ (.int 19))) (.cons (.cmp .eq (.loc 1) (.glb qM (.int 18))) .nil)))) (.cons (.ret (.comp .frozen (.loc 6) 6 (.idx (.loc 0) (.lit (.int 2)))))
 .nil) .nil)
 (.cons (.ite (.cmp .eq (.loc 1) (.glb ⟨#[89,95,84,85,80,76,69]⟩ (.int 12))) (.cons (.ret (.comp .frozen (.idx (.loc 7) (.lit (.int 0))) 7 (.idx (.loc 0) (.lit (.int 1)))))
 .nil) .nil)
 (.cons (.ite (.cmp .eq (.loc 1) (.glb ⟨#[89,95,83,73,71]⟩ (.int 13))) (.cons (.ret (.call 17 (.cons (.loc 0) .nil)))
 .nil) .nil)
 (.cons (.ret (.lst .frozen .nil))
 .nil))))))))
noncomputable def oR:Fn where
 params:=1
 slots:=1
 dflt:=[]
 ctx:=[(qt,0)]
 body:=(.cons (.ite (.cmp .eq (.idx (.loc 0) (.lit (.int 0))) (.glb ⟨#[89,95,83,73,71]⟩ (.int 13))) (.cons (.ret (.idx (.loc 0) (.lit (.int 1))))
 .nil) .nil)
 (.cons (.ite (.cmp .eq (.idx (.loc 0) (.lit (.int 0))) (.glb ⟨#[89,95,67,79,78,68]⟩ (.int 16))) (.cons (.ret (.idx (.loc 0) (.lit (.int 5))))
 .nil) .nil)
 (.cons (.ite (.cmp .eq (.idx (.loc 0) (.lit (.int 0))) (.glb qH (.int 17))) (.cons (.ret (.tup (.cons (.idx (.loc 0) (.lit (.int 1))) .nil)))
 .nil) .nil)
 (.cons (.ret (.tup .nil))
 .nil))))
noncomputable def mJ:Fn where
 params:=2
 slots:=4
 dflt:=[]
 ctx:=[(qj,0),(qt,1),(⟨#[111,117,116]⟩,2),(⟨#[112,105,100]⟩,3)]
 body:=(.cons (.asg 2 (.call 19 (.cons (.loc 1) .nil)))
 (.cons (.for_ 3 (.call 20 (.cons (.loc 1) .nil)) (.cons (.expr (.bm .append (.loc 2) (.cons (.idx (.attr (.loc 0) 3) (.loc 3)) .nil)))
 (.cons (.expr (.bm .append (.loc 2) (.cons (.idx (.attr (.loc 0) 4) (.loc 3)) .nil)))
 .nil)))
 (.cons (.ret (.loc 2))
 .nil)))
noncomputable def lN:Fn where
 params:=2
 slots:=5
 dflt:=[]
 ctx:=[(qj,0),(qh,1),(⟨#[115,101,101,110]⟩,2),(⟨#[119,97,105,116,105,110,103]⟩,3),(qD,4)]
 body:=(.cons (.asg 2 (.dict .int false .nil))
 (.cons (.asg 3 (.lst .tmp (.cons (.loc 1) .nil)))
 (.cons (.while_ (.loc 3) (.cons (.asg 4 (.bm .pop (.loc 3) .nil))
 (.cons (.ite (.bop true (.cons (.cmp .ge (.loc 4) (.lit (.int 0))) (.cons (.cmp .notin (.loc 4) (.loc 2)) .nil))) (.cons (.setidx (.loc 2) (.loc 4) (.lit (.int 1)))
 (.cons (.expr (.bm .extend (.loc 3) (.cons (.call 21 (.cons (.loc 0) (.cons (.idx (.attr (.loc 0) 0) (.loc 4)) .nil))) .nil)))
 .nil)) .nil)
 .nil)))
 (.cons (.ret (.bf .sorted (.loc 2)))
 .nil))))
noncomputable def kU:Fn where
 params:=2
 slots:=9
 dflt:=[]
 ctx:=[(qj,0),(qh,1),(⟨#[111,114,100,101,114]⟩,2),(⟨#[102,114,101,101]⟩,3),(⟨#[104,101,108,100]⟩,4),(⟨#[110,111,119]⟩,5),(qD,6)]
 body:=(.cons (.ite (.cmp .lt (.loc 1) (.lit (.int 0))) (.cons (.ret (.tup .nil))
 .nil) .nil)
 (.cons (.asg 2 (.call 22 (.cons (.loc 0) (.cons (.loc 1) .nil))))
 (.cons (.ite (.not (.bf .any (.comp .frozen (.call 20 (.cons (.idx (.attr (.loc 0) 0) (.loc 7)) .nil)) 7 (.loc 2)))) (.cons (.ret (.bf .tuple (.bf .sorted (.compIf (.idx (.idx (.attr (.loc 0) 0) (.loc 8)) (.lit (.int 1))) 8 (.loc 2) (.cmp .eq (.idx (.idx (.attr (.loc 0) 0) (.loc 8)) (.lit (.int 0))) (.glb ⟨#[89,95,80,65,82,65,77]⟩ (.int 10)))))))
 .nil) .nil)
 (.cons (.asg 3 (.dict .int false .nil))
 (.cons (.asg 4 (.neg (.lit (.int 1))))
 (.cons .wild
 (.cons (.ret (.bf .tuple (.bf .sorted (.idx (.loc 3) (.loc 1)))))
 .nil)))))))
noncomputable def mM:Fn where
 params:=2
 slots:=2
 dflt:=[]
 ctx:=[(qj,0),(qh,1)]
 body:=(.cons (.ret (.cmp .gt (.bf .len (.call 23 (.cons (.loc 0) (.cons (.loc 1) .nil)))) (.lit (.int 0))))
 .nil)
noncomputable def o0:Fn where
 params:=2
 slots:=2
 dflt:=[]
 ctx:=[(ql,0),(qj,1)]
 body:=(.cons (.setattr (.loc 0) 26 (.loc 1))
 (.cons (.setattr (.loc 0) 27 (.lit (.int 0)))
 (.cons (.setattr (.loc 0) 28 (.glb ⟨#[77,79,83,84,95,82,79,85,78,68,83]⟩ (.int 200)))
 (.cons (.setattr (.loc 0) 29 (.glb ⟨#[77,79,83,84,95,83,72,65,80,69,83]⟩ (.int 40)))
 (.cons (.setattr (.loc 0) 30 (.lit .none))
 .nil)))))
noncomputable def mN:Fn where
 params:=2
 slots:=2
 dflt:=[]
 ctx:=[(ql,0),(qh,1)]
 body:=(.cons (.ret (.loc 1))
 .nil)
noncomputable def gw:Fn where
 params:=2
 slots:=2
 dflt:=[]
 ctx:=[(ql,0),(qt,1)]
 body:=(.cons (.ret (.meth (.attr (.loc 0) 26) 10 (.cons (.loc 1) .nil)))
 .nil)
noncomputable def im:Fn where
 params:=2
 slots:=2
 dflt:=[]
 ctx:=[(ql,0),(qh,1)]
 body:=(.cons (.ret (.tup .nil))
 .nil)
noncomputable def rF:Fn where
 params:=2
 slots:=4
 dflt:=[]
 ctx:=[(qj,0),(qh,1),(qt,2),(⟨#[98,111,117,110,100]⟩,3)]
 body:=(.cons (.asg 2 (.idx (.attr (.loc 0) 0) (.loc 1)))
 (.cons (.ite (.cmp .ne (.idx (.loc 2) (.lit (.int 0))) (.glb ⟨#[89,95,80,65,82,65,77]⟩ (.int 10))) (.cons (.ret (.loc 1))
 .nil) .nil)
 (.cons (.asg 3 (.idx (.attr (.loc 0) 3) (.idx (.loc 2) (.lit (.int 1)))))
 (.cons (.ret (.ite (.bop false (.cons (.cmp .lt (.loc 3) (.lit (.int 0))) (.cons (.cmp .eq (.loc 3) (.glb qQ (.int 0))) .nil))) (.glb ⟨#[85,78,75,78,79,87,78]⟩ (.int 1)) (.loc 3)))
 .nil))))
noncomputable def gM:Fn where
 params:=3
 slots:=5
 dflt:=[]
 ctx:=[(⟨#[104,111,115,116]⟩,0),(qh,1),(qa,2),(qt,3),(qz,4)]
 body:=(.cons (.asg 1 (.meth (.loc 0) 31 (.cons (.loc 1) .nil)))
 (.cons (.asg 3 (.idx (.attr (.attr (.loc 0) 26) 0) (.loc 1)))
 (.cons (.ite (.cmp .eq (.idx (.loc 3) (.lit (.int 0))) (.glb qN (.int 6))) (.cons (.ret (.call 31 (.cons (.loc 0) (.cons (.idx (.loc 3) (.lit (.int 1))) (.cons (.loc 2) .nil)))))
 .nil) .nil)
 (.cons (.ite (.bop false (.cons (.cmp .eq (.idx (.loc 3) (.lit (.int 0))) (.glb ⟨#[89,95,65,82,82,65,89]⟩ (.int 11))) (.cons (.cmp .eq (.idx (.loc 3) (.lit (.int 0))) (.glb ⟨#[89,95,84,85,80,76,69]⟩ (.int 12))) .nil))) (.cons (.asg 4 (.ite (.loc 2) (.meth (.loc 0) 32 (.cons (.loc 1) .nil)) (.tup .nil)))
 .nil) (.cons (.asg 4 (.idx (.idx (.attr (.attr (.loc 0) 26) 0) (.meth (.loc 0) 33 (.cons (.loc 1) .nil))) (.ite (.loc 2) (.lit (.int 5)) (.lit (.int 4)))))
 .nil))
 (.cons (.ret (.ite (.cmp .eq (.loc 4) (.tup .nil)) (.tup .nil) (.tup (.cons (.meth (.loc 0) 31 (.cons (.idx (.loc 4) (.lit (.int 0))) .nil)) (.cons (.idx (.loc 4) (.lit (.int 1))) .nil)))))
 .nil)))))
noncomputable def bY:Fn where
 params:=3
 slots:=7
 dflt:=[]
 ctx:=[(⟨#[104,111,115,116]⟩,0),(⟨#[112,97,114,116,115]⟩,1),(qa,2),(⟨#[107,105,110,100,115]⟩,3),(⟨#[114,111]⟩,4),(qy,5),(qz,6)]
 body:=(.cons (.asg 3 (.lst .tmp .nil))
 (.cons (.asg 4 (.lit (.int 0)))
 (.cons (.for_ 5 (.loc 1) (.cons (.asg 6 (.call 30 (.cons (.loc 0) (.cons (.loc 5) (.cons (.loc 2) .nil)))))
 (.cons (.ite (.bop true (.cons (.cmp .eq (.loc 6) (.tup .nil)) (.cons (.loc 2) .nil))) (.cons (.asg 6 (.call 30 (.cons (.loc 0) (.cons (.loc 5) (.cons (.lit (.int 0)) .nil)))))
 .nil) .nil)
 (.cons (.ite (.cmp .eq (.loc 6) (.tup .nil)) (.cons (.ret (.tup .nil))
 .nil) .nil)
 (.cons (.expr (.bm .append (.loc 3) (.cons (.idx (.loc 6) (.lit (.int 0))) .nil)))
 (.cons (.aug 4 .bor (.idx (.loc 6) (.lit (.int 1))))
 .nil))))))
 (.cons (.ret (.tup (.cons (.call 12 (.cons (.attr (.loc 0) 26) (.cons (.loc 3) .nil))) (.cons (.loc 4) .nil))))
 .nil))))
noncomputable def mK:Fn where
 params:=2
 slots:=3
 dflt:=[]
 ctx:=[(qL,0),(qy,1),(qt,2)]
 body:=(.cons (.asg 2 (.idx (.attr (.attr (.loc 0) 26) 0) (.loc 1)))
 (.cons (.ite (.bop false (.cons (.cmp .eq (.idx (.loc 2) (.lit (.int 0))) (.glb ⟨#[89,95,83,84,82]⟩ (.int 3))) (.cons (.cmp .eq (.idx (.loc 2) (.lit (.int 0))) (.glb ⟨#[89,95,78,85,77]⟩ (.int 4))) .nil))) (.cons (.ret (.bf .str (.idx (.loc 2) (.lit (.int 1)))))
 .nil) .nil)
 (.cons (.ret (.ite (.cmp .eq (.idx (.loc 2) (.lit (.int 0))) (.glb ⟨#[89,95,69,78,85,77]⟩ (.int 5))) (.bf .str (.idx (.loc 2) (.lit (.int 3)))) (.lit .none)))
 .nil)))
noncomputable def oZ:Fn where
 params:=5
 slots:=5
 dflt:=[]
 ctx:=[(qL,0),(qA,1),(qh,2),(qz,3),(qE,4)]
 body:=(.cons (.ite (.bop true (.cons (.loc 4) (.cons (.idx (.loc 3) (.lit (.int 1))) .nil))) (.cons (.expr (.meth (.loc 0) 34 (.cons (.lit (.int 2542)) (.cons (.loc 1) (.cons (.tup (.cons (.meth (.loc 0) 35 (.cons (.loc 2) .nil)) .nil)) .nil)))))
 .nil) .nil)
 (.cons (.expr (.meth (.loc 0) 36 (.cons (.glb ⟨#[85,95,73,78,68,69,88]⟩ (.int 5)) (.cons (.loc 1) .nil))))
 (.cons (.ret (.idx (.loc 3) (.lit (.int 0))))
 .nil)))
noncomputable def ij:Fn where
 params:=5
 slots:=6
 dflt:=[]
 ctx:=[(qL,0),(qA,1),(qh,2),(qy,3),(qE,4),(qz,5)]
 body:=(.cons (.ite (.bop false (.cons (.cmp .eq (.call 15 (.cons (.attr (.loc 0) 26) (.cons (.loc 3) .nil))) (.glb ⟨#[70,65,77,95,78,85,77]⟩ (.int 2))) (.cons (.cmp .eq (.idx (.attr (.attr (.loc 0) 26) 0) (.loc 3)) (.tup (.cons (.glb qM (.int 18)) (.cons (.tup (.cons (.lit (.str qv)) (.cons (.lit (.str qv)) .nil))) (.cons (.tup (.cons (.glb qm (.int 7)) .nil)) .nil))))) .nil))) (.cons (.asg 5 (.call 39 (.cons (.loc 0) (.cons (.loc 2) .nil))))
 .nil) (.cons (.asg 5 (.call 30 (.cons (.attr (.loc 0) 37) (.cons (.loc 2) (.cons (.lit (.int 0)) .nil)))))
 .nil))
 (.cons (.ite (.cmp .eq (.loc 5) (.tup .nil)) (.cons (.expr (.meth (.loc 0) 34 (.cons (.lit (.int 7053)) (.cons (.loc 1) (.cons (.tup (.cons (.meth (.loc 0) 35 (.cons (.loc 3) .nil)) (.cons (.meth (.loc 0) 35 (.cons (.loc 2) .nil)) .nil))) .nil)))))
 (.cons (.ret (.glb qC (.int 13)))
 .nil)) .nil)
 (.cons (.ret (.call 33 (.cons (.loc 0) (.cons (.loc 1) (.cons (.loc 2) (.cons (.loc 5) (.cons (.loc 4) .nil)))))))
 .nil)))
noncomputable def oS:Fn where
 params:=3
 slots:=4
 dflt:=[]
 ctx:=[(qL,0),(qh,1),(qy,2),(⟨#[98,111,117,110,100]⟩,3)]
 body:=(.cons (.ite (.cmp .ne (.meth (.attr (.loc 0) 37) 38 (.cons (.loc 1) .nil)) (.loc 1)) (.cons (.ret (.tup .nil))
 .nil) .nil)
 (.cons (.asg 3 (.meth (.attr (.loc 0) 37) 31 (.cons (.meth (.attr (.loc 0) 37) 38 (.cons (.loc 2) .nil)) .nil)))
 (.cons (.ite (.cmp .eq (.loc 3) (.glb qm (.int 7))) (.cons (.ret (.call 39 (.cons (.loc 0) (.cons (.loc 1) .nil))))
 .nil) .nil)
 (.cons (.ret (.ite (.cmp .isin (.glb qn (.int 6)) (.call 6 (.cons (.attr (.loc 0) 26) (.cons (.loc 3) .nil)))) (.call 30 (.cons (.attr (.loc 0) 37) (.cons (.loc 1) (.cons (.lit (.int 0)) .nil)))) (.tup .nil)))
 .nil))))
noncomputable def ik:Fn where
 params:=5
 slots:=7
 dflt:=[]
 ctx:=[(qL,0),(qA,1),(qh,2),(qy,3),(qE,4),(qz,5),(qt,6)]
 body:=(.cons (.asg 5 (.call 35 (.cons (.loc 0) (.cons (.loc 2) (.cons (.loc 3) .nil)))))
 (.cons (.ite (.cmp .ne (.loc 5) (.tup .nil)) (.cons (.ret (.call 33 (.cons (.loc 0) (.cons (.loc 1) (.cons (.loc 2) (.cons (.loc 5) (.cons (.loc 4) .nil)))))))
 .nil) .nil)
 (.cons (.asg 6 (.idx (.attr (.attr (.loc 0) 26) 0) (.loc 2)))
 (.cons (.ite (.bop true (.cons (.loc 4) (.cons (.cmp .eq (.idx (.loc 6) (.lit (.int 0))) (.glb qH (.int 17))) (.cons (.cmp .eq (.idx (.loc 6) (.lit (.int 6))) (.lit (.int 1))) .nil)))) (.cons (.expr (.meth (.loc 0) 34 (.cons (.lit (.int 2542)) (.cons (.loc 1) (.cons (.tup (.cons (.meth (.loc 0) 35 (.cons (.loc 2) .nil)) .nil)) .nil)))))
 .nil) .nil)
 (.cons (.expr (.meth (.loc 0) 36 (.cons (.glb ⟨#[85,95,77,69,84,72,79,68]⟩ (.int 2)) (.cons (.loc 1) .nil))))
 (.cons (.ret (.meth (.attr (.loc 0) 37) 39 (.cons (.tup (.cons (.glb ⟨#[89,95,73,78,68,69,88]⟩ (.int 15)) (.cons (.loc 2) (.cons (.loc 3) .nil)))) .nil)))
 .nil))))))
noncomputable def eD:Fn where
 params:=2
 slots:=4
 dflt:=[]
 ctx:=[(qL,0),(qy,1),(qt,2)]
 body:=(.cons (.asg 2 (.idx (.attr (.attr (.loc 0) 26) 0) (.loc 1)))
 (.cons (.ite (.cmp .eq (.idx (.loc 2) (.lit (.int 0))) (.glb qM (.int 18))) (.cons (.ret (.call 24 (.cons (.attr (.loc 0) 26) (.cons (.loc 1) .nil))))
 .nil) .nil)
 (.cons (.ite (.cmp .eq (.idx (.loc 2) (.lit (.int 0))) (.glb qO (.int 7))) (.cons (.ret (.bf .any (.comp .frozen (.call 37 (.cons (.loc 0) (.cons (.loc 3) .nil))) 3 (.idx (.loc 2) (.lit (.int 1))))))
 .nil) .nil)
 (.cons (.ret (.bop false (.cons (.cmp .isin (.idx (.loc 2) (.lit (.int 0))) (.glb ⟨#[79,80,69,78,95,82,79,87,83]⟩ (.tup [.int 10,.int 15,.int 16,.int 14]))) (.cons (.cmp .eq (.idx (.loc 2) (.lit (.int 0))) (.glb ⟨#[89,95,65,76,73,65,83]⟩ (.int 19))) .nil))))
 .nil))))
noncomputable def ry:Fn where
 params:=2
 slots:=2
 dflt:=[]
 ctx:=[(qL,0),(qy,1)]
 body:=(.cons (.ite (.bop false (.cons (.cmp .isin (.loc 1) (.tup (.cons (.glb qQ (.int 0)) (.cons (.glb qC (.int 13)) .nil)))) (.cons (.cmp .isnot (.call 32 (.cons (.loc 0) (.cons (.loc 1) .nil))) (.lit .none)) (.cons (.call 37 (.cons (.loc 0) (.cons (.loc 1) .nil))) .nil)))) (.cons (.ret (.lit (.bool false)))
 .nil) .nil)
 (.cons (.ret (.cmp .notin (.call 15 (.cons (.attr (.loc 0) 26) (.cons (.loc 1) .nil))) (.tup (.cons (.glb ⟨#[70,65,77,95,83,84,82]⟩ (.int 1)) (.cons (.glb ⟨#[70,65,77,95,78,85,77]⟩ (.int 2)) .nil)))))
 .nil))
noncomputable def c9:Fn where
 params:=2
 slots:=4
 dflt:=[]
 ctx:=[(qL,0),(qh,1),(qa,2),(qz,3)]
 body:=(.cons (.for_ 2 (.tup (.cons (.lit (.int 1)) (.cons (.lit (.int 0)) .nil))) (.cons (.asg 3 (.call 30 (.cons (.attr (.loc 0) 37) (.cons (.loc 1) (.cons (.loc 2) .nil)))))
 (.cons (.ite (.cmp .ne (.loc 3) (.tup .nil)) (.cons (.ret (.loc 3))
 .nil) .nil)
 .nil)))
 (.cons (.ret (.ite (.cmp .eq (.call 15 (.cons (.attr (.loc 0) 26) (.cons (.loc 1) .nil))) (.glb ⟨#[70,65,77,95,83,84,82]⟩ (.int 1))) (.tup (.cons (.glb qn (.int 6)) (.cons (.lit (.int 1)) .nil))) (.tup .nil)))
 .nil))
noncomputable def eC:Fn where
 params:=4
 slots:=5
 dflt:=[]
 ctx:=[(qL,0),(qA,1),(qh,2),(⟨#[105]⟩,3),(qy,4)]
 body:=(.cons (.ite (.cmp .eq (.loc 2) (.glb qQ (.int 0))) (.cons (.expr (.meth (.loc 0) 36 (.cons (.glb ⟨#[85,95,65,78,89]⟩ (.int 1)) (.cons (.loc 1) .nil))))
 .nil) .nil)
 (.cons (.for_ 4 (.call 6 (.cons (.attr (.loc 0) 26) (.cons (.loc 3) .nil))) (.cons (.ite (.bop true (.cons (.cmp .ne (.loc 2) (.glb qC (.int 13))) (.cons (.call 38 (.cons (.loc 0) (.cons (.loc 4) .nil))) .nil))) (.cons (.expr (.meth (.loc 0) 34 (.cons (.lit (.int 2538)) (.cons (.idx (.attr (.loc 1) 40) (.lit (.int 1))) (.cons (.tup (.cons (.meth (.loc 0) 35 (.cons (.loc 4) .nil)) .nil)) .nil)))))
 (.cons (.ret (.glb qC (.int 13)))
 .nil)) .nil)
 .nil))
 (.cons (.ret (.loc 2))
 .nil)))
noncomputable def o4:Fn where
 params:=6
 slots:=6
 dflt:=[]
 ctx:=[(ql,0),(⟨#[107,105,110,100]⟩,1),(qR,2),(⟨#[107,105,100,115]⟩,3),(⟨#[102,108,97,103,115]⟩,4),(qD,5)]
 body:=(.cons (.setattr (.loc 0) 12 (.loc 1))
 (.cons (.setattr (.loc 0) 41 (.loc 2))
 (.cons (.setattr (.loc 0) 40 (.loc 3))
 (.cons (.setattr (.loc 0) 42 (.loc 4))
 (.cons (.setattr (.loc 0) 23 (.loc 5))
 (.cons (.setattr (.loc 0) 25 (.lit (.int 0)))
 .nil))))))
noncomputable def kP:Fn where
 params:=2
 slots:=4
 dflt:=[]
 ctx:=[(qj,0),(qh,1),(⟨#[116,117,114,110]⟩,2),(qt,3)]
 body:=(.cons (.for_ 2 (.bf .range (.glb ⟨#[77,79,83,84,95,80,76,65,73,78]⟩ (.int 40))) (.cons (.ite (.cmp .lt (.loc 1) (.lit (.int 0))) (.cons .wild
 .nil) .nil)
 (.cons (.asg 3 (.idx (.attr (.loc 0) 0) (.loc 1)))
 (.cons (.ite (.cmp .eq (.idx (.loc 3) (.lit (.int 0))) (.glb ⟨#[89,95,79,66,74]⟩ (.int 8))) (.cons (.ret (.loc 1))
 .nil) .nil)
 (.cons (.ite (.cmp .eq (.idx (.loc 3) (.lit (.int 0))) (.glb ⟨#[89,95,83,73,71]⟩ (.int 13))) (.cons (.ret (.call 4 (.cons (.loc 0) (.cons (.loc 1) .nil))))
 .nil) .nil)
 (.cons (.ite (.cmp .isin (.idx (.loc 3) (.lit (.int 0))) (.glb ⟨#[80,76,65,73,78,95,82,79,87,83]⟩ (.tup [.int 1,.int 2,.int 3,.int 4,.int 5]))) (.cons (.ret (.glb ⟨#[69,77,80,84,89]⟩ (.int 11)))
 .nil) .nil)
 (.cons (.ite (.bop false (.cons (.cmp .ne (.idx (.loc 3) (.lit (.int 0))) (.glb ⟨#[89,95,82,69,70]⟩ (.int 9))) (.cons (.idx (.loc 3) (.lit (.int 2))) (.cons (.attr (.idx (.attr (.loc 0) 2) (.idx (.loc 3) (.lit (.int 1)))) 16) .nil)))) (.cons .wild
 .nil) .nil)
 (.cons (.asg 1 (.attr (.idx (.attr (.loc 0) 2) (.idx (.loc 3) (.lit (.int 1)))) 15))
 .nil))))))))
 (.cons .wild
 .nil))
noncomputable def iq:Fn where
 params:=2
 slots:=2
 dflt:=[]
 ctx:=[(ql,0),(qh,1)]
 body:=(.cons (.ret (.call 29 (.cons (.attr (.loc 0) 26) (.cons (.loc 1) .nil))))
 .nil)
noncomputable def ip:Fn where
 params:=2
 slots:=2
 dflt:=[]
 ctx:=[(ql,0),(qh,1)]
 body:=(.cons (.ret (.call 42 (.cons (.attr (.loc 0) 26) (.cons (.loc 1) .nil))))
 .nil)
noncomputable def o6:Fn where
 params:=5
 slots:=5
 dflt:=[]
 ctx:=[(ql,0),(qa,1),(qD,2),(⟨#[97,114,103,115]⟩,3),(⟨#[102,105,108,101]⟩,4)]
 body:=(.cons (.setattr (.loc 0) 43 (.loc 1))
 (.cons (.setattr (.loc 0) 23 (.loc 2))
 (.cons (.setattr (.loc 0) 44 (.loc 3))
 (.cons (.setattr (.loc 0) 24 (.loc 4))
 .nil))))
noncomputable def rG:Fn where
 params:=1
 slots:=1
 dflt:=[]
 ctx:=[(ql,0)]
 body:=(.cons (.ret (.tup (.cons (.attr (.loc 0) 43) (.cons (.attr (.loc 0) 23) (.cons (.attr (.loc 0) 44) .nil)))))
 .nil)
noncomputable def mT:Fn where
 params:=2
 slots:=2
 dflt:=[.str qv]
 ctx:=[(ql,0),(⟨#[102,105,108,101]⟩,1)]
 body:=(.cons (.setattr (.loc 0) 0 (.lst .perm .nil))
 (.cons (.setattr (.loc 0) 24 (.loc 1))
 .nil))
noncomputable def o5:Fn where
 params:=4
 slots:=4
 dflt:=[]
 ctx:=[(ql,0),(qa,1),(qD,2),(⟨#[97,114,103,115]⟩,3)]
 body:=(.cons (.expr (.bm .append (.attr (.loc 0) 0) (.cons (.new 2 (.cons (.loc 1) (.cons (.loc 2) (.cons (.loc 3) (.cons (.attr (.loc 0) 24) .nil))))) .nil)))
 .nil)
noncomputable def mR:Fn where
 params:=1
 slots:=1
 dflt:=[]
 ctx:=[(ql,0)]
 body:=(.cons (.setattr (.loc 0) 0 (.lst .perm .nil))
 .nil)
noncomputable def o3:Fn where
 params:=3
 slots:=3
 dflt:=[]
 ctx:=[(ql,0),(⟨#[99,111,100,101]⟩,1),(qD,2)]
 body:=(.cons (.expr (.bm .append (.attr (.loc 0) 0) (.cons (.tup (.cons (.loc 1) (.cons (.loc 2) .nil))) .nil)))
 .nil)
noncomputable def mS:Fn where
 params:=1
 slots:=1
 dflt:=[]
 ctx:=[(ql,0)]
 body:=(.cons (.setattr (.loc 0) 45 (.dict .int true .nil))
 .nil)
noncomputable def kY:Fn where
 params:=3
 slots:=3
 dflt:=[]
 ctx:=[(ql,0),(qL,1),(qh,2)]
 body:=(.cons (.ret (.bf .str (.loc 2)))
 .nil)
noncomputable def mQ:Fn where
 params:=1
 slots:=1
 dflt:=[]
 ctx:=[(ql,0)]
 body:=(.cons (.setattr (.loc 0) 45 (.dict .int true .nil))
 .nil)
noncomputable def mP:Fn where
 params:=8
 slots:=8
 dflt:=[]
 ctx:=[(ql,0),(qj,1),(⟨#[104,111,115,116]⟩,2),(⟨#[98,111,117,110,100]⟩,3),(⟨#[103,114,97,112,104]⟩,4),(⟨#[110,97,109,101,114]⟩,5),(⟨#[100,105,97,103,115]⟩,6),(qu,7)]
 body:=(.cons (.setattr (.loc 0) 26 (.loc 1))
 (.cons (.setattr (.loc 0) 37 (.loc 2))
 (.cons (.setattr (.loc 0) 38 (.loc 3))
 (.cons (.setattr (.loc 0) 46 (.loc 4))
 (.cons (.setattr (.loc 0) 47 (.loc 5))
 (.cons (.setattr (.loc 0) 48 (.loc 6))
 (.cons (.setattr (.loc 0) 49 (.loc 7))
 (.cons (.setattr (.loc 0) 50 (.dict .int true .nil))
 (.cons (.setattr (.loc 0) 51 (.dict .int true .nil))
 (.cons (.setattr (.loc 0) 52 (.dict .int true .nil))
 (.cons (.setattr (.loc 0) 53 (.dict .int true .nil))
 (.cons (.setattr (.loc 0) 54 (.dict .int true .nil))
 (.cons (.setattr (.loc 0) 22 (.dict .int true .nil))
 (.cons (.setattr (.loc 0) 55 (.dict .int true .nil))
 (.cons (.setattr (.loc 0) 56 (.dict .int true .nil))
 (.cons (.setattr (.loc 0) 57 (.dict .int true .nil))
 (.cons (.setattr (.loc 0) 58 (.dict .int true .nil))
 (.cons (.setattr (.loc 0) 59 (.lst .perm .nil))
 (.cons (.setattr (.loc 0) 60 (.lst .perm .nil))
 (.cons (.setattr (.loc 0) 61 (.lst .perm .nil))
 (.cons (.setattr (.loc 0) 62 (.lst .perm .nil))
 (.cons (.setattr (.loc 0) 63 (.lst .perm .nil))
 (.cons (.setattr (.loc 0) 64 (.lst .perm .nil))
 (.cons (.setattr (.loc 0) 65 (.dict .int true .nil))
 (.cons (.setattr (.loc 0) 66 (.dict .int true .nil))
 (.cons (.setattr (.loc 0) 67 (.dict .int true .nil))
 (.cons (.setattr (.loc 0) 68 (.dict .int true .nil))
 (.cons (.setattr (.loc 0) 69 (.dict .int true .nil))
 (.cons (.setattr (.loc 0) 70 (.dict .int true .nil))
 (.cons (.setattr (.loc 0) 71 (.dict .int true .nil))
 (.cons (.setattr (.loc 0) 72 (.dict .int true .nil))
 (.cons (.setattr (.loc 0) 73 (.dict .int true .nil))
 (.cons (.setattr (.loc 0) 74 (.dict .int true .nil))
 (.cons (.setattr (.loc 0) 75 (.dict .int true .nil))
 (.cons (.setattr (.loc 0) 76 (.dict .int true .nil))
 (.cons (.setattr (.loc 0) 77 (.dict .int true .nil))
 (.cons (.setattr (.loc 0) 78 (.dict .int true .nil))
 (.cons (.setattr (.loc 0) 79 (.dict .int true .nil))
 (.cons (.setattr (.loc 0) 80 (.dict .int true .nil))
 (.cons (.setattr (.loc 0) 81 (.dict .int true .nil))
 (.cons (.setattr (.loc 0) 82 (.dict .int true .nil))
 (.cons (.setattr (.loc 0) 83 (.dict .int true .nil))
 (.cons (.setattr (.loc 0) 84 (.dict .int true .nil))
 (.cons (.setattr (.loc 0) 85 (.dict .int true .nil))
 (.cons (.setattr (.loc 0) 86 (.dict .int true .nil))
 (.cons (.setattr (.loc 0) 87 (.lit (.int 0)))
 (.cons (.setattr (.loc 0) 88 (.dict .int true .nil))
 (.cons (.setattr (.loc 0) 89 (.dict .int true .nil))
 (.cons (.setattr (.loc 0) 90 (.lit .none))
 (.cons (.setattr (.loc 0) 91 (.lit .none))
 (.cons (.setattr (.loc 0) 92 (.new 7 .nil))
 (.cons (.setattr (.loc 0) 93 (.new 8 .nil))
 (.cons (.setattr (.loc 0) 94 (.new 9 .nil))
 (.cons (.setattr (.loc 0) 95 (.new 10 .nil))
 (.cons (.setattr (.loc 0) 96 (.new 11 .nil))
 (.cons (.setattr (.loc 0) 97 (.new 12 .nil))
 (.cons (.setattr (.loc 0) 98 (.new 13 .nil))
 (.cons (.setattr (.loc 0) 27 (.lit (.int 0)))
 .nil))))))))))))))))))))))))))))))))))))))))))))))))))))))))))
noncomputable def kX:Fn where
 params:=4
 slots:=4
 dflt:=[]
 ctx:=[(ql,0),(qa,1),(qA,2),(⟨#[97,114,103,115]⟩,3)]
 body:=(.cons (.expr (.meth (.loc 0) 99 (.cons (.loc 1) (.cons (.attr (.loc 2) 23) (.cons (.loc 3) .nil)))))
 .nil)
noncomputable def io:Fn where
 params:=4
 slots:=5
 dflt:=[]
 ctx:=[(ql,0),(qa,1),(qD,2),(⟨#[97,114,103,115]⟩,3),(⟨#[100,105,97,103]⟩,4)]
 body:=(.cons (.for_ 4 (.attr (.attr (.loc 0) 48) 0) (.cons (.ite (.bop true (.cons (.cmp .eq (.attr (.loc 4) 43) (.loc 1)) (.cons (.cmp .eq (.attr (.loc 4) 23) (.loc 2)) (.cons (.cmp .eq (.attr (.loc 4) 44) (.loc 3)) .nil)))) (.cons .ret0
 .nil) .nil)
 .nil))
 (.cons (.expr (.meth (.attr (.loc 0) 48) 10 (.cons (.loc 1) (.cons (.loc 2) (.cons (.loc 3) .nil)))))
 .nil))
noncomputable def kW:Fn where
 params:=2
 slots:=2
 dflt:=[]
 ctx:=[(ql,0),(qh,1)]
 body:=(.cons (.ret (.meth (.attr (.loc 0) 92) 35 (.cons (.loc 0) (.cons (.loc 1) .nil))))
 .nil)
noncomputable def mO:Fn where
 params:=3
 slots:=3
 dflt:=[]
 ctx:=[(ql,0),(⟨#[99,111,100,101]⟩,1),(qA,2)]
 body:=(.cons (.expr (.meth (.attr (.loc 0) 49) 10 (.cons (.loc 1) (.cons (.attr (.loc 2) 23) .nil))))
 .nil)
noncomputable def mH:Fn where
 params:=4
 slots:=4
 dflt:=[]
 ctx:=[(qj,0),(⟨#[110,97,109,101]⟩,1),(⟨#[116,101,120,116,115]⟩,2),(⟨#[110,117,109,98,101,114,115]⟩,3)]
 body:=(.cons (.ret (.meth (.loc 0) 10 (.cons (.tup (.cons (.glb ⟨#[89,95,79,66,74]⟩ (.int 8)) (.cons (.tup (.cons (.tup (.cons (.loc 1) (.cons (.glb qm (.int 7)) (.cons (.lit (.int 0)) (.cons (.lit (.int 0)) .nil))))) .nil)) (.cons (.tup .nil) (.cons (.tup .nil) (.cons (.loc 2) (.cons (.loc 3) (.cons (.lit (.int 0)) .nil)))))))) .nil)))
 .nil)
noncomputable def oV:Fn where
 params:=1
 slots:=7
 dflt:=[]
 ctx:=[(qj,0),(qR,1),(⟨#[98]⟩,2),(qg,3),(⟨#[98,111,117,110,100,115]⟩,4),(⟨#[119]⟩,5)]
 body:=(.cons (.asg 1 (.meth (.loc 0) 10 (.cons (.tup (.cons (.glb ⟨#[89,95,83,84,82]⟩ (.int 3)) (.cons (.lit (.str qR)) (.cons (.lit (.int 0)) .nil)))) .nil)))
 (.cons (.asg 2 (.meth (.loc 0) 10 (.cons (.tup (.cons (.glb ⟨#[89,95,83,84,82]⟩ (.int 3)) (.cons (.lit (.str ⟨#[98]⟩)) (.cons (.lit (.int 0)) .nil)))) .nil)))
 (.cons (.expr (.bm .append (.attr (.loc 0) 2) (.cons (.new 1 (.cons (.lit (.int 1)) (.cons (.lit (.int 2)) (.cons (.lit (.str ⟨#[73]⟩)) .nil)))) .nil)))
 (.cons (.setattr (.idx (.attr (.loc 0) 2) (.lit (.int 1))) 15 (.call 59 (.cons (.loc 0) (.cons (.lit (.str ⟨#[112]⟩)) (.cons (.tup (.cons (.loc 1) (.cons (.lit (.int 1)) .nil))) (.cons (.tup (.cons (.loc 2) (.cons (.lit (.int 0)) .nil))) .nil))))))
 (.cons (.asg 3 (.call 59 (.cons (.loc 0) (.cons (.lit (.str ⟨#[112]⟩)) (.cons (.tup (.cons (.loc 1) (.cons (.lit (.int 0)) .nil))) (.cons (.tup (.cons (.glb ⟨#[84,82,85,69,95,84]⟩ (.int 9)) (.cons (.lit (.int 0)) .nil))) .nil))))))
 (.cons (.asg 4 (.lst .frozen (.cons (.glb qm (.int 7)) (.cons (.glb qn (.int 6)) (.cons (.call 12 (.cons (.loc 0) (.cons (.lst .frozen (.cons (.glb qn (.int 6)) (.cons (.glb qm (.int 7)) .nil))) .nil))) (.cons (.call 12 (.cons (.loc 0) (.cons (.lst .frozen (.cons (.loc 1) (.cons (.loc 2) .nil))) .nil))) (.cons (.neg (.lit (.int 1))) (.cons (.glb qQ (.int 0)) (.cons (.call 12 (.cons (.loc 0) (.cons (.lst .frozen (.cons (.glb qm (.int 7)) (.cons (.glb ⟨#[85,78,68,69,70]⟩ (.int 4)) .nil))) .nil))) (.cons (.call 12 (.cons (.loc 0) (.cons (.lst .frozen (.cons (.glb qn (.int 6)) (.cons (.glb ⟨#[85,78,68,69,70]⟩ (.int 4)) .nil))) .nil))) (.cons (.meth (.loc 0) 10 (.cons (.tup (.cons (.glb qM (.int 18)) (.cons (.tup (.cons (.lit (.str ⟨#[120]⟩)) (.cons (.lit (.str qv)) .nil))) (.cons (.tup (.cons (.glb qn (.int 6)) .nil)) .nil)))) .nil)) (.cons (.loc 3) .nil))))))))))))
 (.cons (.asg 5 (.dict .str true (.cons (.lit (.str qj)) (.cons (.loc 0) (.cons (.lit (.str qR)) (.cons (.loc 1) (.cons (.lit (.str ⟨#[98]⟩)) (.cons (.loc 2) (.cons (.lit (.str qg)) (.cons (.loc 3) (.cons (.lit (.str ⟨#[111,102]⟩)) (.cons (.dict .int true .nil) (.cons (.lit (.str qG)) (.cons (.lst .perm .nil) (.cons (.lit (.str qu)) (.cons (.lst .perm .nil) .nil))))))))))))))))
 (.cons (.setidx (.loc 5) (.lit (.str qx)) (.comp .frozen (.call 5 (.cons (.loc 0) (.cons (.bin .add (.lit (.str ⟨#[80]⟩)) (.bf .str (.loc 6))) (.cons (.idx (.loc 4) (.loc 6)) .nil)))) 6 (.bf .range (.lit (.int 10)))))
 (.cons (.setidx (.loc 5) (.lit (.str ⟨#[119,105,100,101]⟩)) (.lst .frozen (.cons (.lit (.str qa)) (.cons (.lit (.str qd)) (.cons (.lit (.str qd)) (.cons (.lit (.str qr)) (.cons (.lit (.str qr)) (.cons (.lit (.str qr)) (.cons (.lit (.str qr)) (.cons (.lit (.str qd)) (.cons (.lit (.str qr)) (.cons (.lit (.str qr)) .nil))))))))))))
 (.cons (.setidx (.loc 5) (.lit (.str ⟨#[99,97,108,108]⟩)) (.meth (.loc 0) 10 (.cons (.tup (.cons (.glb ⟨#[89,95,83,73,71]⟩ (.int 13)) (.cons (.tup .nil) (.cons (.tup .nil) (.cons (.loc 1) (.cons (.tup .nil) (.cons (.lit (.int 0)) .nil))))))) .nil)))
 (.cons (.setidx (.loc 5) (.lit (.str ⟨#[116,97,103]⟩)) (.call 59 (.cons (.loc 0) (.cons (.lit (.str ⟨#[113]⟩)) (.cons (.tup .nil) (.cons (.tup .nil) .nil))))))
 (.cons (.ret (.loc 5))
 .nil))))))))))))
noncomputable def iT:Fn where
 params:=2
 slots:=7
 dflt:=[]
 ctx:=[(⟨#[119]⟩,0),(qI,1),(qj,2),(qf,3),(qh,4)]
 body:=(.cons (.asg 2 (.idx (.loc 0) (.lit (.str qj))))
 (.cons (.asg 3 (.idx (.loc 1) (.lit (.int 0))))
 (.cons (.ite (.cmp .eq (.loc 3) (.lit (.str qb))) (.cons (.asg 4 (.idx (.loc 1) (.lit (.int 1))))
 .nil) (.cons (.ite (.cmp .eq (.loc 3) (.lit (.str qe))) (.cons (.asg 4 (.idx (.idx (.loc 0) (.lit (.str qx))) (.idx (.loc 1) (.lit (.int 1)))))
 .nil) (.cons (.ite (.cmp .eq (.loc 3) (.lit (.str qo))) (.cons (.asg 4 (.meth (.loc 2) 10 (.cons (.tup (.cons (.glb qM (.int 18)) (.cons (.idx (.loc 1) (.lit (.int 1))) (.cons (.bf .tuple (.comp .frozen (.call 61 (.cons (.loc 0) (.cons (.loc 5) .nil))) 5 (.idx (.loc 1) (.lit (.int 2))))) .nil)))) .nil)))
 .nil) (.cons (.ite (.cmp .eq (.loc 3) (.lit (.str qk))) (.cons (.asg 4 (.meth (.loc 2) 10 (.cons (.tup (.cons (.glb qO (.int 7)) (.cons (.bf .tuple (.comp .frozen (.call 61 (.cons (.loc 0) (.cons (.loc 6) .nil))) 6 (.idx (.loc 1) (.lit (.int 1))))) .nil))) .nil)))
 .nil) (.cons (.ite (.cmp .eq (.loc 3) (.lit (.str qs))) (.cons (.asg 4 (.meth (.loc 2) 10 (.cons (.tup (.cons (.glb ⟨#[89,95,75,69,89,79,70]⟩ (.int 14)) (.cons (.call 61 (.cons (.loc 0) (.cons (.idx (.loc 1) (.lit (.int 1))) .nil))) .nil))) .nil)))
 .nil) (.cons (.ite (.cmp .eq (.loc 3) (.lit (.str qD))) (.cons (.asg 4 (.meth (.loc 2) 10 (.cons (.tup (.cons (.glb ⟨#[89,95,73,78,68,69,88]⟩ (.int 15)) (.cons (.call 61 (.cons (.loc 0) (.cons (.idx (.loc 1) (.lit (.int 1))) .nil))) (.cons (.call 61 (.cons (.loc 0) (.cons (.idx (.loc 1) (.lit (.int 2))) .nil))) .nil)))) .nil)))
 .nil) (.cons (.ite (.cmp .eq (.loc 3) (.lit (.str ⟨#[97,115,107]⟩))) (.cons (.asg 4 (.meth (.loc 2) 10 (.cons (.tup (.cons (.glb ⟨#[89,95,67,79,78,68]⟩ (.int 16)) (.cons (.call 61 (.cons (.loc 0) (.cons (.idx (.loc 1) (.lit (.int 1))) .nil))) (.cons (.glb qn (.int 6)) (.cons (.glb qm (.int 7)) (.cons (.idx (.loc 0) (.lit (.str qR))) (.cons (.tup .nil) (.cons (.lit (.int 0)) .nil)))))))) .nil)))
 .nil) (.cons (.ite (.cmp .eq (.loc 3) (.lit (.str ⟨#[109,97,112]⟩))) (.cons (.asg 4 (.meth (.loc 2) 10 (.cons (.tup (.cons (.glb qH (.int 17)) (.cons (.lit (.int 4)) (.cons (.idx (.loc 0) (.lit (.str qR))) (.cons (.neg (.lit (.int 1))) (.cons (.glb qm (.int 7)) (.cons (.lit (.int 0)) (.cons (.lit (.int 0)) .nil)))))))) .nil)))
 .nil) (.cons (.asg 4 (.meth (.loc 2) 10 (.cons (.tup (.cons (.glb ⟨#[89,95,65,76,73,65,83]⟩ (.int 19)) (.cons (.lit (.int 1)) (.cons (.tup .nil) .nil)))) .nil)))
 .nil))
 .nil))
 .nil))
 .nil))
 .nil))
 .nil))
 .nil))
 .nil))
 (.cons (.setidx (.idx (.loc 0) (.lit (.str ⟨#[111,102]⟩))) (.loc 4) (.loc 1))
 (.cons (.ret (.loc 4))
 .nil)))))
noncomputable def rC:Fn where
 params:=1
 slots:=9
 dflt:=[]
 ctx:=[(⟨#[119]⟩,0),(qj,1),(qd,2),(qa,3),(qg,4),(⟨#[116,97,103]⟩,5),(⟨#[102,114,101,101]⟩,6),(qJ,7)]
 body:=(.cons (.asg 1 (.idx (.loc 0) (.lit (.str qj))))
 (.cons (.asg 2 (.tup (.cons (.lit (.str qb)) (.cons (.glb qn (.int 6)) (.cons (.lit (.str qp)) .nil)))))
 (.cons (.asg 3 (.tup (.cons (.lit (.str qb)) (.cons (.glb qm (.int 7)) (.cons (.lit (.str qp)) .nil)))))
 (.cons (.asg 4 (.tup (.cons (.lit (.str qb)) (.cons (.idx (.loc 0) (.lit (.str qg))) (.cons (.lit (.str qg)) .nil)))))
 (.cons (.asg 5 (.tup (.cons (.lit (.str qb)) (.cons (.idx (.loc 0) (.lit (.str ⟨#[116,97,103]⟩))) (.cons (.lit (.str qg)) .nil)))))
 (.cons (.asg 6 (.tup (.cons (.lit (.str qe)) (.cons (.lit (.int 4)) .nil))))
 (.cons (.asg 7 (.comp .perm (.tup (.cons (.lit (.str qe)) (.cons (.loc 8) .nil))) 8 (.lst .frozen (.cons (.lit (.int 2)) (.cons (.lit (.int 0)) (.cons (.lit (.int 1)) (.cons (.lit (.int 3)) (.cons (.lit (.int 4)) (.cons (.lit (.int 5)) (.cons (.lit (.int 6)) (.cons (.lit (.int 7)) (.cons (.lit (.int 8)) (.cons (.lit (.int 9)) .nil)))))))))))))
 (.cons (.aug 7 .add (.lst .frozen (.cons (.tup (.cons (.lit (.str qo)) (.cons (.tup (.cons (.lit (.str ⟨#[120]⟩)) (.cons (.lit (.str qv)) .nil))) (.cons (.lst .frozen (.cons (.tup (.cons (.lit (.str qe)) (.cons (.lit (.int 1)) .nil))) .nil)) .nil)))) (.cons (.tup (.cons (.lit (.str qo)) (.cons (.tup (.cons (.lit (.str qv)) (.cons (.lit (.str qv)) .nil))) (.cons (.lst .frozen (.cons (.loc 3) .nil)) .nil)))) (.cons (.tup (.cons (.lit (.str qo)) (.cons (.tup (.cons (.lit (.str qv)) (.cons (.lit (.str ⟨#[121]⟩)) .nil))) (.cons (.lst .frozen (.cons (.tup (.cons (.lit (.str qs)) (.cons (.loc 6) .nil))) .nil)) .nil)))) (.cons (.tup (.cons (.lit (.str qo)) (.cons (.tup (.cons (.lit (.str qv)) (.cons (.lit (.str ⟨#[45]⟩)) (.cons (.lit (.str qv)) .nil)))) (.cons (.lst .frozen (.cons (.loc 2) (.cons (.tup (.cons (.lit (.str qo)) (.cons (.tup (.cons (.lit (.str qv)) (.cons (.lit (.str ⟨#[122]⟩)) .nil))) (.cons (.lst .frozen (.cons (.tup (.cons (.lit (.str qk)) (.cons (.lst .frozen (.cons (.tup (.cons (.lit (.str qe)) (.cons (.lit (.int 0)) .nil))) (.cons (.loc 2) .nil))) .nil))) .nil)) .nil)))) .nil))) .nil)))) (.cons (.tup (.cons (.lit (.str qo)) (.cons (.tup (.cons (.lit (.str ⟨#[107]⟩)) (.cons (.lit (.str qv)) .nil))) (.cons (.lst .frozen (.cons (.tup (.cons (.lit (.str qs)) (.cons (.loc 4) .nil))) .nil)) .nil)))) (.cons (.tup (.cons (.lit (.str qo)) (.cons (.tup (.cons (.lit (.str ⟨#[120]⟩)) (.cons (.lit (.str qv)) .nil))) (.cons (.lst .frozen (.cons (.loc 3) .nil)) .nil)))) (.cons (.tup (.cons (.lit (.str qk)) (.cons (.lst .frozen (.cons (.loc 6) (.cons (.loc 2) .nil))) .nil))) (.cons (.tup (.cons (.lit (.str qk)) (.cons (.lst .frozen (.cons (.loc 2) (.cons (.loc 5) .nil))) .nil))) (.cons (.tup (.cons (.lit (.str qk)) (.cons (.lst .frozen (.cons (.loc 5) (.cons (.loc 3) .nil))) .nil))) (.cons (.tup (.cons (.lit (.str qk)) (.cons (.lst .frozen (.cons (.loc 4) (.cons (.loc 5) .nil))) .nil))) (.cons (.tup (.cons (.lit (.str qk)) (.cons (.lst .frozen (.cons (.loc 5) (.cons (.tup (.cons (.lit (.str qo)) (.cons (.tup (.cons (.lit (.str ⟨#[120]⟩)) (.cons (.lit (.str qv)) .nil))) (.cons (.lst .frozen (.cons (.tup (.cons (.lit (.str qe)) (.cons (.lit (.int 1)) .nil))) .nil)) .nil)))) .nil))) .nil))) (.cons (.tup (.cons (.lit (.str qk)) (.cons (.lst .frozen (.cons (.tup (.cons (.lit (.str qb)) (.cons (.glb ⟨#[84,82,85,69,95,84]⟩ (.int 9)) (.cons (.lit (.str qw)) .nil)))) (.cons (.loc 5) .nil))) .nil))) (.cons (.tup (.cons (.lit (.str qk)) (.cons (.lst .frozen (.cons (.loc 4) (.cons (.tup (.cons (.lit (.str qs)) (.cons (.loc 6) .nil))) .nil))) .nil))) (.cons (.tup (.cons (.lit (.str qk)) (.cons (.lst .frozen (.cons (.loc 5) (.cons (.tup (.cons (.lit (.str qo)) (.cons (.tup (.cons (.lit (.str ⟨#[120]⟩)) (.cons (.lit (.str qv)) .nil))) (.cons (.lst .frozen (.cons (.loc 3) .nil)) .nil)))) .nil))) .nil))) (.cons (.tup (.cons (.lit (.str qs)) (.cons (.loc 6) .nil))) (.cons (.tup (.cons (.lit (.str qs)) (.cons (.loc 4) .nil))) (.cons (.tup (.cons (.lit (.str qD)) (.cons (.tup (.cons (.lit (.str qe)) (.cons (.lit (.int 9)) .nil))) (.cons (.tup (.cons (.lit (.str qe)) (.cons (.lit (.int 3)) .nil))) .nil)))) (.cons (.tup (.cons (.lit (.str ⟨#[97,115,107]⟩)) (.cons (.loc 6) .nil))) (.cons (.tup (.cons (.lit (.str ⟨#[97,108,105,97,115]⟩)) .nil)) (.cons (.tup (.cons (.lit (.str ⟨#[109,97,112]⟩)) .nil)) (.cons (.loc 3) (.cons (.loc 2) .nil))))))))))))))))))))))))
 (.cons (.aug 7 .add (.lst .frozen (.cons (.tup (.cons (.lit (.str qb)) (.cons (.idx (.loc 0) (.lit (.str qR))) (.cons (.lit (.str qp)) .nil)))) (.cons (.tup (.cons (.lit (.str qb)) (.cons (.meth (.loc 1) 10 (.cons (.tup (.cons (.glb ⟨#[89,95,78,85,77]⟩ (.int 4)) (.cons (.lit (.int 1)) (.cons (.lit (.int 0)) .nil)))) .nil)) (.cons (.lit (.str qp)) .nil)))) (.cons (.tup (.cons (.lit (.str qb)) (.cons (.meth (.loc 1) 10 (.cons (.tup (.cons (.glb ⟨#[89,95,69,78,85,77]⟩ (.int 5)) (.cons (.lit (.int 1)) (.cons (.lit (.str ⟨#[65]⟩)) (.cons (.lit (.str ⟨#[118]⟩)) (.cons (.lit (.int 0)) .nil)))))) .nil)) (.cons (.lit (.str qp)) .nil)))) (.cons (.tup (.cons (.lit (.str qb)) (.cons (.meth (.loc 1) 10 (.cons (.tup (.cons (.glb ⟨#[89,95,69,78,85,77]⟩ (.int 5)) (.cons (.lit (.int 1)) (.cons (.lit (.str ⟨#[66]⟩)) (.cons (.lit (.int 2)) (.cons (.lit (.int 0)) .nil)))))) .nil)) (.cons (.lit (.str qp)) .nil)))) (.cons (.loc 4) (.cons (.loc 5) (.cons (.tup (.cons (.lit (.str qb)) (.cons (.idx (.loc 0) (.lit (.str ⟨#[99,97,108,108]⟩))) (.cons (.lit (.str qg)) .nil)))) (.cons (.tup (.cons (.lit (.str qb)) (.cons (.meth (.loc 1) 10 (.cons (.tup (.cons (.glb ⟨#[89,95,82,69,70]⟩ (.int 9)) (.cons (.lit (.int 1)) (.cons (.tup .nil) .nil)))) .nil)) (.cons (.lit (.str qg)) .nil)))) (.cons (.tup (.cons (.lit (.str qb)) (.cons (.meth (.loc 1) 10 (.cons (.tup (.cons (.glb ⟨#[89,95,65,82,82,65,89]⟩ (.int 11)) (.cons (.idx (.loc 0) (.lit (.str qR))) (.cons (.lit (.int 0)) .nil)))) .nil)) (.cons (.lit (.str qg)) .nil)))) (.cons (.tup (.cons (.lit (.str qb)) (.cons (.glb ⟨#[79,66,74,69,67,84,84]⟩ (.int 10)) (.cons (.lit (.str qg)) .nil)))) (.cons (.tup (.cons (.lit (.str qb)) (.cons (.glb ⟨#[85,78,68,69,70]⟩ (.int 4)) (.cons (.lit (.str qw)) .nil)))) (.cons (.tup (.cons (.lit (.str qb)) (.cons (.glb ⟨#[78,85,76,76,84]⟩ (.int 5)) (.cons (.lit (.str qw)) .nil)))) (.cons (.tup (.cons (.lit (.str qb)) (.cons (.glb ⟨#[86,79,73,68]⟩ (.int 3)) (.cons (.lit (.str qw)) .nil)))) (.cons (.tup (.cons (.lit (.str qb)) (.cons (.glb ⟨#[84,82,85,69,95,84]⟩ (.int 9)) (.cons (.lit (.str qw)) .nil)))) (.cons (.tup (.cons (.lit (.str qb)) (.cons (.glb ⟨#[85,78,75,78,79,87,78]⟩ (.int 1)) (.cons (.lit (.str ⟨#[111,116,104,101,114]⟩)) .nil)))) (.cons (.tup (.cons (.lit (.str qb)) (.cons (.glb qQ (.int 0)) (.cons (.lit (.str qP)) .nil)))) (.cons (.tup (.cons (.lit (.str qb)) (.cons (.glb qC (.int 13)) (.cons (.lit (.str qP)) .nil)))) .nil)))))))))))))))))))
 (.cons (.ret (.loc 7))
 .nil))))))))))
noncomputable def oX:Fn where
 params:=1
 slots:=3
 dflt:=[]
 ctx:=[(qI,0)]
 body:=(.cons (.ite (.cmp .eq (.idx (.loc 0) (.lit (.int 0))) (.lit (.str qe))) (.cons (.ret (.lit (.bool true)))
 .nil) .nil)
 (.cons (.ite (.cmp .isin (.idx (.loc 0) (.lit (.int 0))) (.tup (.cons (.lit (.str qo)) (.cons (.lit (.str qk)) .nil)))) (.cons (.ret (.bf .any (.comp .frozen (.call 63 (.cons (.loc 1) .nil)) 1 (.idx (.loc 0) (.neg (.lit (.int 1)))))))
 .nil) .nil)
 (.cons (.ite (.cmp .isin (.idx (.loc 0) (.lit (.int 0))) (.tup (.cons (.lit (.str qs)) (.cons (.lit (.str qD)) (.cons (.lit (.str ⟨#[97,115,107]⟩)) .nil))))) (.cons (.ret (.bf .any (.comp .frozen (.call 63 (.cons (.loc 2) .nil)) 2 (.slc (.loc 0) (.lit (.int 1)) (.lit .none)))))
 .nil) .nil)
 (.cons (.ret (.lit (.bool false)))
 .nil))))
noncomputable def rD:Fn where
 params:=1
 slots:=2
 dflt:=[]
 ctx:=[(qI,0)]
 body:=(.cons (.ite (.cmp .eq (.idx (.loc 0) (.lit (.int 0))) (.lit (.str qo))) (.cons (.ret (.call 63 (.cons (.loc 0) .nil)))
 .nil) .nil)
 (.cons (.ite (.cmp .eq (.idx (.loc 0) (.lit (.int 0))) (.lit (.str qk))) (.cons (.ret (.bf .any (.comp .frozen (.call 64 (.cons (.loc 1) .nil)) 1 (.idx (.loc 0) (.lit (.int 1))))))
 .nil) .nil)
 (.cons (.ret (.cmp .isin (.idx (.loc 0) (.lit (.int 0))) (.tup (.cons (.lit (.str qe)) (.cons (.lit (.str qs)) (.cons (.lit (.str qD)) (.cons (.lit (.str ⟨#[97,115,107]⟩)) (.cons (.lit (.str ⟨#[97,108,105,97,115]⟩)) .nil))))))))
 .nil)))
noncomputable def rB:Fn where
 params:=1
 slots:=4
 dflt:=[]
 ctx:=[(qI,0),(qG,1)]
 body:=(.cons (.ite (.cmp .eq (.idx (.loc 0) (.lit (.int 0))) (.lit (.str qb))) (.cons (.ret (.idx (.loc 0) (.lit (.int 2))))
 .nil) .nil)
 (.cons (.ite (.cmp .eq (.idx (.loc 0) (.lit (.int 0))) (.lit (.str qk))) (.cons (.asg 1 (.compIf (.loc 3) 3 (.comp .frozen (.call 65 (.cons (.loc 2) .nil)) 2 (.idx (.loc 0) (.lit (.int 1)))) (.cmp .isin (.loc 3) (.tup (.cons (.lit (.str qp)) (.cons (.lit (.str qw)) .nil))))))
 (.cons (.ret (.ite (.cmp .gt (.bf .len (.loc 1)) (.lit (.int 0))) (.idx (.loc 1) (.lit (.int 0))) (.lit (.str ⟨#[111,116,104,101,114]⟩))))
 .nil)) .nil)
 (.cons (.ret (.ite (.cmp .eq (.idx (.loc 0) (.lit (.int 0))) (.lit (.str qo))) (.lit (.str qp)) (.lit (.str ⟨#[111,116,104,101,114]⟩))))
 .nil)))
noncomputable def t9:Fn where
 params:=1
 slots:=1
 dflt:=[]
 ctx:=[(qI,0)]
 body:=(.cons (.ret (.bop false (.cons (.call 64 (.cons (.loc 0) .nil)) (.cons (.cmp .isin (.call 65 (.cons (.loc 0) .nil)) (.tup (.cons (.lit (.str qp)) (.cons (.lit (.str qP)) .nil)))) .nil))))
 .nil)
noncomputable def kS:Fn where
 params:=1
 slots:=11
 dflt:=[]
 ctx:=[(⟨#[119]⟩,0),(qj,1),(⟨#[110,117,109,98,101,114,115]⟩,2),(⟨#[111,117,116]⟩,3),(⟨#[116,101,120,116,115]⟩,4),(qz,5),(qh,6),(qc,7),(⟨#[107]⟩,8),(⟨#[107,101,121,115]⟩,9),(⟨#[108,111,99,107]⟩,10)]
 body:=(.cons (.asg 1 (.idx (.loc 0) (.lit (.str qj))))
 (.cons (.asg 2 (.lst .frozen (.cons (.tup .nil) (.cons (.tup (.cons (.idx (.loc 0) (.lit (.str ⟨#[98]⟩))) (.cons (.lit (.int 0)) .nil))) (.cons (.tup (.cons (.glb ⟨#[84,82,85,69,95,84]⟩ (.int 9)) (.cons (.lit (.int 1)) .nil))) .nil)))))
 (.cons (.asg 3 (.lst .perm .nil))
 (.cons (.for_ 4 (.lst .frozen (.cons (.tup .nil) (.cons (.tup (.cons (.glb qm (.int 7)) (.cons (.lit (.int 0)) .nil))) (.cons (.tup (.cons (.idx (.loc 0) (.lit (.str qR))) (.cons (.lit (.int 1)) .nil))) .nil)))) (.cons (.for_ 5 (.loc 2) (.cons (.asg 6 (.call 59 (.cons (.loc 1) (.cons (.lit (.str ⟨#[112]⟩)) (.cons (.loc 4) (.cons (.loc 5) .nil))))))
 (.cons (.expr (.bm .append (.loc 3) (.cons (.dict .str true (.cons (.lit (.str qh)) (.cons (.loc 6) (.cons (.lit (.str qd)) (.cons (.loc 4) (.cons (.lit (.str qa)) (.cons (.loc 5) (.cons (.lit (.str qc)) (.cons (.lit (.bool false)) (.cons (.lit (.str qf)) (.cons (.lit (.str qi)) .nil))))))))))) .nil)))
 .nil)))
 .nil))
 (.cons (.for_ 6 (.lst .frozen (.cons (.meth (.loc 1) 10 (.cons (.tup (.cons (.glb ⟨#[89,95,82,69,70]⟩ (.int 9)) (.cons (.lit (.int 1)) (.cons (.tup .nil) .nil)))) .nil)) (.cons (.glb qn (.int 6)) (.cons (.idx (.loc 0) (.lit (.str qR))) (.cons (.meth (.loc 1) 10 (.cons (.tup (.cons (.glb ⟨#[89,95,69,78,85,77]⟩ (.int 5)) (.cons (.lit (.int 1)) (.cons (.lit (.str ⟨#[65]⟩)) (.cons (.lit (.str ⟨#[118]⟩)) (.cons (.lit (.int 0)) .nil)))))) .nil)) (.cons (.glb qm (.int 7)) (.cons (.idx (.loc 0) (.lit (.str ⟨#[99,97,108,108]⟩))) (.cons (.glb ⟨#[79,66,74,69,67,84,84]⟩ (.int 10)) .nil)))))))) (.cons (.asg 7 (.bop false (.cons (.cmp .isin (.loc 6) (.tup (.cons (.glb qn (.int 6)) (.cons (.idx (.loc 0) (.lit (.str qR))) .nil)))) (.cons (.cmp .eq (.loc 6) (.meth (.loc 1) 10 (.cons (.tup (.cons (.glb ⟨#[89,95,69,78,85,77]⟩ (.int 5)) (.cons (.lit (.int 1)) (.cons (.lit (.str ⟨#[65]⟩)) (.cons (.lit (.str ⟨#[118]⟩)) (.cons (.lit (.int 0)) .nil)))))) .nil))) .nil))))
 (.cons (.expr (.bm .append (.loc 3) (.cons (.dict .str true (.cons (.lit (.str qh)) (.cons (.loc 6) (.cons (.lit (.str qd)) (.cons (.tup .nil) (.cons (.lit (.str qa)) (.cons (.tup .nil) (.cons (.lit (.str qc)) (.cons (.loc 7) (.cons (.lit (.str qf)) (.cons (.lit (.str qi)) .nil))))))))))) .nil)))
 .nil)))
 (.cons (.setidx (.idx (.loc 3) (.lit (.int 9))) (.lit (.str qd)) (.tup (.cons (.idx (.loc 0) (.lit (.str qR))) (.cons (.lit (.int 1)) .nil))))
 (.cons (.setidx (.idx (.loc 3) (.lit (.int 9))) (.lit (.str qa)) (.tup (.cons (.idx (.loc 0) (.lit (.str ⟨#[98]⟩))) (.cons (.lit (.int 0)) .nil))))
 (.cons (.for_ 8 (.lst .frozen (.cons (.lit (.int 4)) (.cons (.lit (.int 9)) (.cons (.lit (.int 1)) .nil)))) (.cons (.expr (.bm .append (.loc 3) (.cons (.dict .str true (.cons (.lit (.str qh)) (.cons (.idx (.idx (.loc 0) (.lit (.str qx))) (.loc 8)) (.cons (.lit (.str qd)) (.cons (.tup .nil) (.cons (.lit (.str qa)) (.cons (.tup .nil) (.cons (.lit (.str qc)) (.cons (.lit (.bool false)) (.cons (.lit (.str qf)) (.cons (.lit (.str ⟨#[111,112,101,110]⟩)) .nil))))))))))) .nil)))
 .nil))
 (.cons (.asg 9 (.meth (.loc 1) 10 (.cons (.tup (.cons (.glb ⟨#[89,95,75,69,89,79,70]⟩ (.int 14)) (.cons (.idx (.idx (.loc 0) (.lit (.str qx))) (.lit (.int 4))) .nil))) .nil)))
 (.cons (.for_ 10 (.lst .frozen (.cons (.lit (.int 1)) (.cons (.lit (.int 0)) (.cons (.lit (.int 2)) .nil)))) (.cons (.asg 6 (.meth (.loc 1) 10 (.cons (.tup (.cons (.glb qH (.int 17)) (.cons (.lit (.int 4)) (.cons (.loc 9) (.cons (.neg (.lit (.int 1))) (.cons (.glb qm (.int 7)) (.cons (.lit (.int 0)) (.cons (.loc 10) .nil)))))))) .nil)))
 (.cons (.expr (.bm .append (.loc 3) (.cons (.dict .str true (.cons (.lit (.str qh)) (.cons (.loc 6) (.cons (.lit (.str qd)) (.cons (.tup .nil) (.cons (.lit (.str qa)) (.cons (.tup .nil) (.cons (.lit (.str qc)) (.cons (.lit (.bool false)) (.cons (.lit (.str qf)) (.cons (.ite (.cmp .eq (.loc 10) (.lit (.int 1))) (.lit (.str ⟨#[115,104,117,116]⟩)) (.lit (.str qB))) .nil))))))))))) .nil)))
 .nil)))
 (.cons (.for_ 6 (.lst .frozen (.cons (.loc 9) (.cons (.meth (.loc 1) 10 (.cons (.tup (.cons (.glb qO (.int 7)) (.cons (.tup (.cons (.idx (.idx (.loc 0) (.lit (.str qx))) (.lit (.int 4))) (.cons (.idx (.loc 0) (.lit (.str ⟨#[116,97,103]⟩))) .nil))) .nil))) .nil)) .nil))) (.cons (.expr (.bm .append (.loc 3) (.cons (.dict .str true (.cons (.lit (.str qh)) (.cons (.loc 6) (.cons (.lit (.str qd)) (.cons (.tup .nil) (.cons (.lit (.str qa)) (.cons (.tup .nil) (.cons (.lit (.str qc)) (.cons (.lit (.bool false)) (.cons (.lit (.str qf)) (.cons (.lit (.str qB)) .nil))))))))))) .nil)))
 .nil))
 (.cons (.ret (.loc 3))
 .nil))))))))))))
noncomputable def fb:Fn where
 params:=2
 slots:=4
 dflt:=[]
 ctx:=[(⟨#[119]⟩,0),(⟨#[99,101,108,108,115]⟩,1)]
 body:=(.cons (.ite (.cmp .isin (.tup .nil) (.loc 1)) (.cons (.ret (.tup .nil))
 .nil) .nil)
 (.cons (.ret (.tup (.cons (.call 12 (.cons (.idx (.loc 0) (.lit (.str qj))) (.cons (.comp .frozen (.idx (.loc 3) (.lit (.int 0))) 3 (.loc 1)) .nil))) (.cons (.bf .max (.comp .frozen (.idx (.loc 2) (.lit (.int 1))) 2 (.loc 1))) .nil))))
 .nil))
noncomputable def dH:Fn where
 params:=3
 slots:=9
 dflt:=[]
 ctx:=[(⟨#[119]⟩,0),(⟨#[114,111,108,108]⟩,1),(qi,2),(⟨#[111,110,101]⟩,3),(⟨#[112,97,105,114]⟩,4),(qG,5)]
 body:=(.cons (.asg 3 (.idx (.idx (.loc 0) (.lit (.str qF))) (.lcall 1 (.ite (.loc 2) (.lit (.int 16)) (.lit (.int 24))))))
 (.cons (.ite (.bop false (.cons (.cmp .lt (.lcall 1 (.lit (.int 4))) (.lit (.int 3))) (.cons (.cmp .ne (.idx (.loc 3) (.lit (.str qf))) (.lit (.str qi))) .nil))) (.cons (.ret (.loc 3))
 .nil) .nil)
 (.cons (.asg 4 (.lst .frozen (.cons (.loc 3) (.cons (.idx (.idx (.loc 0) (.lit (.str qF))) (.lcall 1 (.lit (.int 16)))) .nil))))
 (.cons (.asg 5 (.comp .frozen (.ite (.cmp .eq (.idx (.loc 6) (.lit (.str qa))) (.tup .nil)) (.idx (.loc 6) (.lit (.str qd))) (.idx (.loc 6) (.lit (.str qa)))) 6 (.loc 4)))
 (.cons (.ret (.dict .str true (.cons (.lit (.str qh)) (.cons (.call 12 (.cons (.idx (.loc 0) (.lit (.str qj))) (.cons (.comp .frozen (.idx (.loc 8) (.lit (.str qh))) 8 (.loc 4)) .nil))) (.cons (.lit (.str qd)) (.cons (.call 68 (.cons (.loc 0) (.cons (.comp .frozen (.idx (.loc 7) (.lit (.str qd))) 7 (.loc 4)) .nil))) (.cons (.lit (.str qa)) (.cons (.call 68 (.cons (.loc 0) (.cons (.loc 5) .nil))) (.cons (.lit (.str qc)) (.cons (.bop true (.cons (.idx (.idx (.loc 4) (.lit (.int 0))) (.lit (.str qc))) (.cons (.idx (.idx (.loc 4) (.lit (.int 1))) (.lit (.str qc))) .nil))) (.cons (.lit (.str qf)) (.cons (.lit (.str qi)) .nil))))))))))))
 .nil)))))
noncomputable def rE:Fn where
 params:=2
 slots:=3
 dflt:=[]
 ctx:=[(⟨#[104,111,108,100,101,114]⟩,0),(⟨#[119,105,100,101]⟩,1),(qz,2)]
 body:=(.cons (.ite (.bop false (.cons (.cmp .eq (.idx (.loc 0) (.lit (.str qf))) (.lit (.str ⟨#[111,112,101,110]⟩))) (.cons (.cmp .eq (.loc 1) (.lit (.str qr))) .nil))) (.cons (.ret (.tup .nil))
 .nil) .nil)
 (.cons (.ite (.cmp .eq (.loc 1) (.lit (.str qd))) (.cons (.ret (.idx (.loc 0) (.lit (.str qd))))
 .nil) .nil)
 (.cons (.for_ 2 (.lst .frozen (.cons (.idx (.loc 0) (.lit (.str qa))) (.cons (.idx (.loc 0) (.lit (.str qd))) .nil))) (.cons (.ite (.cmp .ne (.loc 2) (.tup .nil)) (.cons (.ret (.loc 2))
 .nil) .nil)
 .nil))
 (.cons (.ret (.ite (.idx (.loc 0) (.lit (.str qc))) (.tup (.cons (.glb qn (.int 6)) (.cons (.lit (.int 1)) .nil))) (.tup .nil)))
 .nil))))
noncomputable def rA:Fn where
 params:=4
 slots:=4
 dflt:=[]
 ctx:=[(⟨#[119]⟩,0),(qa,1),(qD,2),(⟨#[97,114,103,115]⟩,3)]
 body:=(.cons (.ite (.cmp .notin (.tup (.cons (.loc 1) (.cons (.loc 2) (.cons (.loc 3) .nil)))) (.idx (.loc 0) (.lit (.str qG)))) (.cons (.expr (.bm .append (.idx (.loc 0) (.lit (.str qG))) (.cons (.tup (.cons (.loc 1) (.cons (.loc 2) (.cons (.loc 3) .nil)))) .nil)))
 .nil) .nil)
 (.cons (.ret (.glb qC (.int 13)))
 .nil))
noncomputable def oW:Fn where
 params:=5
 slots:=5
 dflt:=[]
 ctx:=[(⟨#[119]⟩,0),(qA,1),(qh,2),(qz,3),(qE,4)]
 body:=(.cons (.ite (.bop true (.cons (.loc 4) (.cons (.cmp .eq (.idx (.loc 3) (.lit (.int 1))) (.lit (.int 1))) .nil))) (.cons (.expr (.call 71 (.cons (.loc 0) (.cons (.lit (.int 2542)) (.cons (.attr (.loc 1) 23) (.cons (.tup (.cons (.bf .str (.loc 2)) .nil)) .nil))))))
 .nil) .nil)
 (.cons (.expr (.bm .append (.idx (.loc 0) (.lit (.str qu))) (.cons (.tup (.cons (.glb ⟨#[85,95,73,78,68,69,88]⟩ (.int 5)) (.cons (.attr (.loc 1) 23) .nil))) .nil)))
 (.cons (.ret (.idx (.loc 3) (.lit (.int 0))))
 .nil)))
noncomputable def rz:Fn where
 params:=2
 slots:=2
 dflt:=[]
 ctx:=[(⟨#[119]⟩,0),(qI,1)]
 body:=(.cons (.ite (.cmp .eq (.idx (.loc 1) (.lit (.int 0))) (.lit (.str qe))) (.cons (.ret (.idx (.idx (.loc 0) (.lit (.str ⟨#[119,105,100,101]⟩))) (.idx (.loc 1) (.lit (.int 1)))))
 .nil) .nil)
 (.cons (.ite (.bop true (.cons (.cmp .eq (.idx (.loc 1) (.lit (.int 0))) (.lit (.str qb))) (.cons (.cmp .isin (.idx (.loc 1) (.lit (.int 1))) (.tup (.cons (.glb qm (.int 7)) (.cons (.glb qn (.int 6)) .nil)))) .nil))) (.cons (.ret (.ite (.cmp .eq (.idx (.loc 1) (.lit (.int 1))) (.glb qm (.int 7))) (.lit (.str qa)) (.lit (.str qd))))
 .nil) .nil)
 (.cons (.ret (.lit (.str qr)))
 .nil)))
noncomputable def bq:Fn where
 params:=4
 slots:=11
 dflt:=[]
 ctx:=[(⟨#[119]⟩,0),(qL,1),(⟨#[114,111,108,108]⟩,2),(qA,3),(⟨#[104,111,108,100,101,114]⟩,4),(qI,5),(qE,6),(qh,7),(qy,8),(qz,9),(⟨#[103,105,118,101,110]⟩,10)]
 body:=(.cons (.asg 4 (.call 69 (.cons (.loc 0) (.cons (.loc 2) (.cons (.lit (.bool false)) .nil)))))
 (.cons (.asg 5 (.idx (.idx (.loc 0) (.lit (.str qJ))) (.lcall 2 (.bf .len (.idx (.loc 0) (.lit (.str qJ)))))))
 (.cons (.ite (.bop true (.cons (.cmp .isin (.idx (.loc 4) (.lit (.str qf))) (.tup (.cons (.lit (.str ⟨#[115,104,117,116]⟩)) (.cons (.lit (.str qB)) .nil)))) (.cons (.cmp .ne (.call 73 (.cons (.loc 0) (.cons (.loc 5) .nil))) (.lit (.str qr))) .nil))) (.cons (.asg 5 (.tup (.cons (.lit (.str qe)) (.cons (.lit (.int 3)) .nil))))
 .nil) .nil)
 (.cons (.asg 6 (.lcall 2 (.lit (.int 2))))
 (.cons (.asg 7 (.idx (.loc 4) (.lit (.str qh))))
 (.cons (.asg 8 (.call 61 (.cons (.loc 0) (.cons (.loc 5) .nil))))
 (.cons (.asg 9 (.call 70 (.cons (.loc 4) (.cons (.call 73 (.cons (.loc 0) (.cons (.loc 5) .nil))) .nil))))
 (.cons (.ite (.bop false (.cons (.cmp .ne (.call 35 (.cons (.loc 1) (.cons (.loc 7) (.cons (.loc 8) .nil)))) (.loc 9)) (.cons (.cmp .ne (.call 37 (.cons (.loc 1) (.cons (.loc 8) .nil))) (.call 64 (.cons (.loc 5) .nil))) .nil))) (.cons (.ret (.lit (.bool false)))
 .nil) .nil)
 (.cons (.ite (.cmp .eq (.call 38 (.cons (.loc 1) (.cons (.loc 8) .nil))) (.call 66 (.cons (.loc 5) .nil))) (.cons (.ret (.lit (.bool false)))
 .nil) .nil)
 (.cons (.asg 10 (.call 36 (.cons (.loc 1) (.cons (.loc 3) (.cons (.loc 7) (.cons (.loc 8) (.cons (.loc 6) .nil)))))))
 (.cons (.ite (.cmp .ne (.loc 9) (.tup .nil)) (.cons (.ret (.cmp .eq (.loc 10) (.call 72 (.cons (.loc 0) (.cons (.loc 3) (.cons (.loc 7) (.cons (.loc 9) (.cons (.loc 6) .nil))))))))
 .nil) .nil)
 (.cons (.ite (.bop true (.cons (.cmp .eq (.idx (.loc 4) (.lit (.str qf))) (.lit (.str ⟨#[115,104,117,116]⟩))) (.cons (.loc 6) .nil))) (.cons (.expr (.call 71 (.cons (.loc 0) (.cons (.lit (.int 2542)) (.cons (.attr (.loc 3) 23) (.cons (.tup (.cons (.bf .str (.loc 7)) .nil)) .nil))))))
 .nil) .nil)
 (.cons (.expr (.bm .append (.idx (.loc 0) (.lit (.str qu))) (.cons (.tup (.cons (.glb ⟨#[85,95,77,69,84,72,79,68]⟩ (.int 2)) (.cons (.attr (.loc 3) 23) .nil))) .nil)))
 (.cons (.ret (.cmp .eq (.loc 10) (.meth (.idx (.loc 0) (.lit (.str qj))) 10 (.cons (.tup (.cons (.glb ⟨#[89,95,73,78,68,69,88]⟩ (.int 15)) (.cons (.loc 7) (.cons (.loc 8) .nil)))) .nil))))
 .nil))))))))))))))
noncomputable def bp:Fn where
 params:=4
 slots:=14
 dflt:=[]
 ctx:=[(⟨#[119]⟩,0),(qL,1),(⟨#[114,111,108,108]⟩,2),(qA,3),(⟨#[116,111,112]⟩,4),(⟨#[116,101,114,109,115]⟩,5),(⟨#[105]⟩,6),(qt,7),(⟨#[112,97,114,116,115]⟩,8),(⟨#[98,97,100]⟩,9),(⟨#[103,105,118,101,110]⟩,10)]
 body:=(.cons (.asg 4 (.idx (.lst .frozen (.cons (.glb qQ (.int 0)) (.cons (.glb qC (.int 13)) (.cons (.glb ⟨#[78,69,86,69,82]⟩ (.int 2)) .nil)))) (.lcall 2 (.lit (.int 3)))))
 (.cons (.asg 5 (.comp .frozen (.idx (.idx (.loc 0) (.lit (.str qJ))) (.lcall 2 (.bf .len (.idx (.loc 0) (.lit (.str qJ)))))) 11 (.bf .range (.lcall 2 (.lit (.int 4))))))
 (.cons (.asg 6 (.call 12 (.cons (.idx (.loc 0) (.lit (.str qj))) (.cons (.comp .frozen (.call 61 (.cons (.loc 0) (.cons (.loc 12) .nil))) 12 (.loc 5)) .nil))))
 (.cons (.asg 7 (.idx (.attr (.idx (.loc 0) (.lit (.str qj))) 0) (.loc 6)))
 (.cons (.asg 8 (.ite (.cmp .eq (.loc 6) (.glb ⟨#[78,69,86,69,82]⟩ (.int 2))) (.lst .frozen .nil) (.ite (.cmp .eq (.idx (.loc 7) (.lit (.int 0))) (.glb qN (.int 6))) (.idx (.loc 7) (.lit (.int 1))) (.lst .frozen (.cons (.loc 6) .nil)))))
 (.cons (.asg 9 (.compIf (.loc 13) 13 (.loc 8) (.not (.call 66 (.cons (.idx (.idx (.loc 0) (.lit (.str ⟨#[111,102]⟩))) (.loc 13)) .nil)))))
 (.cons (.asg 10 (.call 40 (.cons (.loc 1) (.cons (.loc 3) (.cons (.loc 4) (.cons (.loc 6) .nil))))))
 (.cons (.ite (.cmp .eq (.loc 4) (.glb qQ (.int 0))) (.cons (.expr (.bm .append (.idx (.loc 0) (.lit (.str qu))) (.cons (.tup (.cons (.glb ⟨#[85,95,65,78,89]⟩ (.int 1)) (.cons (.attr (.loc 3) 23) .nil))) .nil)))
 .nil) .nil)
 (.cons (.ite (.bop false (.cons (.cmp .eq (.loc 4) (.glb qC (.int 13))) (.cons (.cmp .eq (.bf .len (.loc 9)) (.lit (.int 0))) .nil))) (.cons (.ret (.cmp .eq (.loc 10) (.loc 4)))
 .nil) .nil)
 (.cons (.ret (.cmp .eq (.loc 10) (.call 71 (.cons (.loc 0) (.cons (.lit (.int 2538)) (.cons (.attr (.idx (.attr (.loc 3) 40) (.lit (.int 1))) 23) (.cons (.tup (.cons (.bf .str (.idx (.loc 9) (.lit (.int 0)))) .nil)) .nil)))))))
 .nil))))))))))
noncomputable def cF:Fn where
 params:=4
 slots:=16
 dflt:=[]
 ctx:=[(⟨#[119]⟩,0),(qL,1),(⟨#[114,111,108,108]⟩,2),(qA,3),(⟨#[104,111,108,100,101,114]⟩,4),(qa,5),(qd,6),(⟨#[116,97,103]⟩,7),(⟨#[119,97,121,115]⟩,8),(⟨#[119,105,100,101]⟩,9),(qI,10),(qE,11),(qh,12),(qy,13),(qz,14),(⟨#[103,105,118,101,110]⟩,15)]
 body:=(.cons (.asg 4 (.call 69 (.cons (.loc 0) (.cons (.loc 2) (.cons (.lit (.bool true)) .nil)))))
 (.cons (.asg 5 (.tup (.cons (.lit (.str qb)) (.cons (.glb qm (.int 7)) (.cons (.lit (.str qp)) .nil)))))
 (.cons (.asg 6 (.tup (.cons (.lit (.str qb)) (.cons (.glb qn (.int 6)) (.cons (.lit (.str qp)) .nil)))))
 (.cons (.asg 7 (.tup (.cons (.lit (.str qb)) (.cons (.idx (.loc 0) (.lit (.str ⟨#[116,97,103]⟩))) (.cons (.lit (.str qg)) .nil)))))
 (.cons (.asg 8 (.lst .frozen (.cons (.tup (.cons (.lit (.str qa)) (.cons (.loc 5) .nil))) (.cons (.tup (.cons (.lit (.str qd)) (.cons (.loc 6) .nil))) (.cons (.tup (.cons (.lit (.str qa)) (.cons (.tup (.cons (.lit (.str qo)) (.cons (.tup (.cons (.lit (.str qv)) (.cons (.lit (.str qv)) .nil))) (.cons (.lst .frozen (.cons (.loc 5) .nil)) .nil)))) .nil))) (.cons (.tup (.cons (.lit (.str qd)) (.cons (.tup (.cons (.lit (.str qo)) (.cons (.tup (.cons (.lit (.str ⟨#[120]⟩)) (.cons (.lit (.str qv)) .nil))) (.cons (.lst .frozen (.cons (.loc 5) .nil)) .nil)))) .nil))) (.cons (.tup (.cons (.lit (.str qa)) (.cons (.tup (.cons (.lit (.str qk)) (.cons (.lst .frozen (.cons (.loc 5) (.cons (.loc 7) .nil))) .nil))) .nil))) (.cons (.tup (.cons (.lit (.str qd)) (.cons (.tup (.cons (.lit (.str qk)) (.cons (.lst .frozen (.cons (.loc 7) (.cons (.loc 6) .nil))) .nil))) .nil))) (.cons (.tup (.cons (.lit (.str qd)) (.cons (.tup (.cons (.lit (.str qo)) (.cons (.tup (.cons (.lit (.str qv)) (.cons (.lit (.str qv)) .nil))) (.cons (.lst .frozen (.cons (.tup (.cons (.lit (.str qe)) (.cons (.lit (.int 0)) .nil))) .nil)) .nil)))) .nil))) .nil)))))))))
 (.cons (.unpack 9 10 (.idx (.loc 8) (.lcall 2 (.lit (.int 7)))))
 (.cons (.asg 11 (.lcall 2 (.lit (.int 2))))
 (.cons (.asg 12 (.idx (.loc 4) (.lit (.str qh))))
 (.cons (.asg 13 (.call 61 (.cons (.loc 0) (.cons (.loc 10) .nil))))
 (.cons (.asg 14 (.call 70 (.cons (.loc 4) (.cons (.loc 9) .nil))))
 (.cons (.asg 15 (.call 34 (.cons (.loc 1) (.cons (.loc 3) (.cons (.loc 12) (.cons (.loc 13) (.cons (.loc 11) .nil)))))))
 (.cons (.ite (.cmp .eq (.loc 14) (.tup .nil)) (.cons (.ret (.cmp .eq (.loc 15) (.call 71 (.cons (.loc 0) (.cons (.lit (.int 7053)) (.cons (.attr (.loc 3) 23) (.cons (.tup (.cons (.bf .str (.loc 13)) (.cons (.bf .str (.loc 12)) .nil))) .nil)))))))
 .nil) .nil)
 (.cons (.ret (.cmp .eq (.loc 15) (.call 72 (.cons (.loc 0) (.cons (.loc 3) (.cons (.loc 12) (.cons (.loc 14) (.cons (.loc 11) .nil))))))))
 .nil)))))))))))))
noncomputable def vU:Sts:=
 (.cons (.asg 1 (.comp .frozen (.bin .mod (.loc 15) (.lit (.int 9999))) 15 (.slc (.loc 0) (.lit .none) (.lit (.int 63)))))
 (.cons (.ite (.cmp .eq (.bf .len (.loc 1)) (.lit (.int 0))) (.cons (.asg 1 (.lst .frozen (.cons (.lit (.int 3)) (.cons (.lit (.int 0)) (.cons (.lit (.int 8)) (.cons (.lit (.int 0)) (.cons (.lit (.int 1)) (.cons (.lit (.int 1)) (.cons (.lit (.int 1)) (.cons (.lit (.int 0)) (.cons (.lit (.int 19)) (.cons (.lit (.int 0)) (.cons (.lit (.int 3)) (.cons (.lit (.int 1)) (.cons (.lit (.int 2)) (.cons (.lit (.int 3)) (.cons (.lit (.int 0)) (.cons (.lit (.int 2)) (.cons (.lit (.int 42)) (.cons (.lit (.int 32)) (.cons (.lit (.int 0)) (.cons (.lit (.int 1)) (.cons (.lit (.int 1)) (.cons (.lit (.int 3)) (.cons (.lit (.int 2)) (.cons (.lit (.int 0)) (.cons (.lit (.int 1)) (.cons (.lit (.int 1)) (.cons (.lit (.int 4)) (.cons (.lit (.int 0)) (.cons (.lit (.int 1)) (.cons (.lit (.int 2)) (.cons (.lit (.int 0)) .nil)))))))))))))))))))))))))))))))))
 .nil) .nil)
 (.cons (.asg 2 (.lst .perm (.cons (.lit (.int 0)) .nil)))
 .nil)))
noncomputable def jm:Fn where
 params:=1
 slots:=17
 dflt:=[]
 ctx:=[(⟨#[115,99,114,105,112,116]⟩,0),(⟨#[110,117,109,115]⟩,1),(qD,2),(⟨#[114,111,108,108]⟩,3),(qj,4),(⟨#[119]⟩,5),(qL,6),(⟨#[110,111,100,101,115]⟩,7),(⟨#[107]⟩,8),(⟨#[107,105,100,115]⟩,9),(⟨#[108,97,112]⟩,10),(qA,11),(⟨#[119,97,121]⟩,12),(⟨#[114,105,103,104,116]⟩,13),(qG,14)]
 body:=(.cons (.asg 4 (.new 0 .nil))
 (.cons (.asg 5 (.call 60 (.cons (.loc 4) .nil)))
 (.cons (.setidx (.loc 5) (.lit (.str qJ)) (.call 62 (.cons (.loc 5) .nil)))
 (.cons (.setidx (.loc 5) (.lit (.str qF)) (.call 67 (.cons (.loc 5) .nil)))
 (.cons (.asg 6 (.new 14 (.cons (.loc 4) (.cons (.new 6 (.cons (.loc 4) .nil)) (.cons (.lit .none) (.cons (.lit .none) (.cons (.lit .none) (.cons (.new 3 .nil) (.cons (.new 4 .nil) .nil)))))))))
 (.cons (.asg 7 (.lst .perm .nil))
 (.cons (.for_ 8 (.bf .range (.lit (.int 3))) (.cons (.asg 9 (.lst .frozen (.cons (.new 5 (.cons (.glb ⟨#[75,95,78,65,77,69]⟩ (.int 8)) (.cons (.lit (.str ⟨#[111]⟩)) (.cons (.lst .frozen .nil) (.cons (.lit (.int 0)) (.cons (.bin .add (.bin .mul (.lit (.int 9)) (.loc 8)) (.lit (.int 1))) .nil)))))) (.cons (.new 5 (.cons (.glb ⟨#[75,95,78,65,77,69]⟩ (.int 8)) (.cons (.lit (.str ⟨#[107]⟩)) (.cons (.lst .frozen .nil) (.cons (.lit (.int 0)) (.cons (.bin .add (.bin .mul (.lit (.int 9)) (.loc 8)) (.lit (.int 4))) .nil)))))) .nil))))
 (.cons (.expr (.bm .append (.loc 7) (.cons (.new 5 (.cons (.glb ⟨#[75,95,73,78,68,69,88]⟩ (.int 17)) (.cons (.lit (.str qv)) (.cons (.loc 9) (.cons (.lit (.int 0)) (.cons (.bin .add (.bin .mul (.lit (.int 9)) (.loc 8)) (.lit (.int 2))) .nil)))))) .nil)))
 .nil)))
 (.cons (.for_ 10 (.bf .range (.bin .add (.lit (.int 2)) (.lcall 3 (.lit (.int 4))))) (.cons (.asg 11 (.idx (.loc 7) (.lcall 3 (.lit (.int 3)))))
 (.cons (.asg 12 (.ite (.cmp .eq (.loc 10) (.lit (.int 0))) (.lit (.int 0)) (.lcall 3 (.lit (.int 5)))))
 (.cons (.ite (.cmp .lt (.loc 12) (.lit (.int 3))) (.cons (.asg 13 (.call 74 (.cons (.loc 5) (.cons (.loc 6) (.cons (.loc 3) (.cons (.loc 11) .nil))))))
 .nil) (.cons (.ite (.cmp .eq (.loc 12) (.lit (.int 3))) (.cons (.asg 13 (.call 75 (.cons (.loc 5) (.cons (.loc 6) (.cons (.loc 3) (.cons (.loc 11) .nil))))))
 .nil) (.cons (.asg 13 (.call 76 (.cons (.loc 5) (.cons (.loc 6) (.cons (.loc 3) (.cons (.loc 11) .nil))))))
 .nil))
 .nil))
 (.cons (.asg 14 (.comp .frozen (.meth (.loc 16) 100 .nil) 16 (.attr (.attr (.loc 6) 48) 0)))
 (.cons (.ite (.bop false (.cons (.not (.loc 13)) (.cons (.cmp .ne (.loc 14) (.idx (.loc 5) (.lit (.str qG)))) (.cons (.cmp .ne (.attr (.attr (.loc 6) 49) 0) (.idx (.loc 5) (.lit (.str qu)))) .nil)))) (.cons (.ret (.lit (.bool false)))
 .nil) .nil)
 .nil))))))
 (.cons (.ret (.bop true (.cons (.cmp .eq (.attr (.loc 6) 53) (.dict .int false .nil)) (.cons (.cmp .eq (.attr (.loc 6) 62) (.lst .frozen .nil)) (.cons (.cmp .eq (.attr (.loc 6) 64) (.lst .frozen .nil)) .nil)))))
 .nil)))))))))
noncomputable def g9:List Str:=[⟨#[114,111,119,115]⟩,⟨#[105,110,100,101,120]⟩,⟨#[100,101,99,108,115]⟩,⟨#[98,111,117,110,100,115]⟩,⟨#[100,101,102,97,117,108,116,115]⟩,⟨#[110,97,109,101,115]⟩,⟨#[111,114,105,103,105,110,115]⟩,⟨#[114,101,110,97,109,101,100]⟩,⟨#[115,104,97,112,105,110,103]⟩,⟨#[112,117,116,116,105,110,103]⟩,⟨#[112,117,116]⟩,⟨#[100,105,100]⟩,⟨#[107,105,110,100]⟩,⟨#[110,97,109,101]⟩,qx,⟨#[98,111,100,121]⟩,⟨#[98,97,115,101,115]⟩,⟨#[115,116,97,116,105,99]⟩,⟨#[101,120,116,101,110,100,115,95,99,108,97,115,115]⟩,⟨#[97,98,115,116,114,97,99,116]⟩,⟨#[109,101,109,98,101,114,115]⟩,⟨#[118,97,114,105,97,110,99,101,115]⟩,⟨#[98,117,115,121]⟩,qD,⟨#[102,105,108,101]⟩,⟨#[110,105,100]⟩,qj,⟨#[100,101,101,112]⟩,⟨#[109,111,115,116,95,114,111,117,110,100,115]⟩,⟨#[109,111,115,116,95,100,101,101,112]⟩,⟨#[108,105,98]⟩,⟨#[102,111,114,99,101]⟩,⟨#[108,105,115,116,95,105,110,100,101,120]⟩,⟨#[115,104,97,112,101]⟩,⟨#[102,97,117,108,116]⟩,⟨#[119,111,114,100,115]⟩,⟨#[110,111,116,101]⟩,⟨#[104,111,115,116]⟩,⟨#[98,111,117,110,100]⟩,⟨#[112,117,116,95,100,101,102,101,114,114,101,100]⟩,⟨#[107,105,100,115]⟩,qR,⟨#[102,108,97,103,115]⟩,qa,⟨#[97,114,103,115]⟩,⟨#[103,105,118,101,110]⟩,⟨#[103,114,97,112,104]⟩,⟨#[110,97,109,101,114]⟩,⟨#[100,105,97,103,115]⟩,qu,⟨#[101,120,112,114,115]⟩,⟨#[115,116,109,116,115]⟩,⟨#[115,111,114,116,115]⟩,⟨#[116,121,112,101,115]⟩,⟨#[100,101,99,108,97,114,101,100]⟩,⟨#[99,97,108,108,101,100]⟩,⟨#[99,111,110,115,116,115]⟩,⟨#[115,105,103,115]⟩,⟨#[98,111,117,110,100,95,100,101,99,108,115]⟩,⟨#[105,110,115,105,100,101]⟩,⟨#[114,101,116,115]⟩,⟨#[99,104,97,105,110,115]⟩,⟨#[116,114,97,105,108]⟩,⟨#[108,97,116,101,114]⟩,⟨#[108,97,116,101]⟩,⟨#[116,97,114,103,101,116,115]⟩,⟨#[103,108,111,98,97,108,115]⟩,⟨#[108,111,111,112,115]⟩,⟨#[114,111,111,116,115]⟩,⟨#[105,110,105,116,115]⟩,⟨#[112,97,105,114,101,100]⟩,⟨#[103,111,116,95,98,121]⟩,⟨#[117,110,100,101,114]⟩,⟨#[100,114,97,119,110]⟩,⟨#[108,101,110,116]⟩,⟨#[100,114,111,112,112,101,100]⟩,⟨#[109,97,114,107,115]⟩,⟨#[111,119,110,101,114,115]⟩,⟨#[116,104,105,115,95,111,102]⟩,⟨#[102,117,110,99,95,97,116]⟩,⟨#[115,101,108,118,101,115,95,111,102]⟩,⟨#[114,111,117,110,100,115]⟩,⟨#[99,97,108,108,101,101,115]⟩,⟨#[104,101,97,100,115]⟩,⟨#[98,97,110,103,101,100]⟩,⟨#[116,111,108,100,95,110,97,109,101,115]⟩,⟨#[103,117,101,115,115,101,115]⟩,⟨#[114,101,97,100,121]⟩,⟨#[99,111,110,115,116,95,101,110,117,109,115]⟩,⟨#[112,114,101,115,101,116]⟩,⟨#[97,115,107,101,114]⟩,⟨#[115,116,111,112,115]⟩,⟨#[106,117,100,103,101]⟩,⟨#[103,117,97,114,100]⟩,⟨#[114,111,97,100,115]⟩,⟨#[112,97,116,116,101,114,110,115]⟩,⟨#[103,105,118,101,114]⟩,⟨#[102,117,110,99,115]⟩,⟨#[112,108,97,99,101,115]⟩,⟨#[116,101,108,108]⟩,qt]
noncomputable def yQ:List Fn:=[iS,iU,js,o7,oY,oU,rx,kE,kG,mI,kF,fP,bb,jr,kR,eQ,mL,rt,kQ,ru,oR,mJ,lN,kU,mM,o0,mN,gw,im,rF,gM,bY,mK,oZ,ij,oS,ik,eD,ry,c9,eC,o4,kP,iq,ip,o6,rG,mT,o5,mR,o3,mS,kY,mQ,mP,kX,io,kW,mO,mH,oV,iT,rC,oX,rD,rB,t9,kS,fb,dH,rE,rA,oW,rz,bq,bp,cF]
noncomputable def mo:List (Nat×Nat×Nat):=[(0,10,2),(2,100,46),(3,10,48),(4,10,50),(6,31,26),(6,32,28),(6,33,44),(6,38,43),(6,39,27),(7,35,52),(14,34,55),(14,35,57),(14,36,58),(14,99,56)]
noncomputable def mD:List (Nat×Nat):=[(0,1),(1,3),(2,45),(3,47),(4,49),(5,41),(6,25),(7,51),(9,53),(14,54)]
noncomputable def vq:List (Nat×List Nat):=[(0,[0,1,2,3,4,5,6,7,8,9]),(1,[11,12,13,14,15,16,17,18,19,20,21,22,23,24,25]),(2,[43,23,44,24]),(3,[0,24]),(4,[0]),(5,[12,41,40,42,23,25]),(6,[26,27,28,29,30]),(7,[45]),(9,[45]),(14,[26,37,38,46,47,48,49,50,51,52,53,54,22,55,56,57,58,59,60,61,62,63,64,65,66,67,68,69,70,71,72,73,74,75,76,77,78,79,80,81,82,83,84,85,86,87,88,89,90,91,92,93,94,95,96,97,98,27])]
noncomputable def zD:List Nat->Nat->Bool
 |[],_=>false
 |a::r,b=>Nat.beq a b||zD r b
noncomputable def mF:List (Nat×List Nat)->Nat->Nat->Bool
 |[],_,_=>false
 |(a,l)::r,c,m=>(Nat.beq a c&&zD l m)||mF r c m
noncomputable def vD:List Fn->Nat->Option Fn
 |[],_=>none
 |f::_,0=>some f
 |_::r,n+1=>vD r n
noncomputable def ie:List (Nat×Nat×Nat)->Nat->Nat->Option Nat
 |[],_,_=>none
 |(a,b,f)::r,c,m=>if Nat.beq a c&&Nat.beq b m then some f else ie r c m
noncomputable def ig:List (Nat×Nat)->Nat->Option Nat
 |[],_=>none
 |(a,f)::r,c=>if Nat.beq a c then some f else ig r c
noncomputable def prog:Prog where
 fn:=vD yQ
 meth:=ie mo
 init:=ig mD
 own:=mF vq
end Mine
end
section
namespace Mine
open PySem PySem.W PyProof.Rows
structure Gh where
 adr:Nat->Nat->Addr
 F:Addr->Prop
structure Mo where
 s:S
 g:Gh
 sh:Shared
noncomputable abbrev Mo.h(W:Mo):Heap:=W.sh.heap
structure Sm(a b:Shared):Prop where
 g:b.gens=a.gens
 o:b.os=a.os
theorem Sm.refl(a:Shared):Sm a a:=⟨rfl,rfl⟩
theorem Sm.trans{a b c:Shared}(x:Sm a b)(y:Sm b c):Sm a c:=⟨y.g.trans x.g,y.o.trans x.o⟩
structure Base(prog:Program)(w:World) where
 h:Heap
 K:Frag
 inK:K.In h
 mg:Str->Option Value
 mb:Str->Option Value
 g:h.Ns mainGlobals mg
 b:h.Ns builtinsNs mb
 blt:∀x:Str,x≠"__name__" ->mb x=bootBuiltins x
 nolimit:h.NoLimit
 sys:∃o,h.get? sysModules=some o
 nodigits:∃mc,h.Ns cStatics mc/\mc "sys.int_max_str_digits" =none
 ca:Nat->Addr
 fa:Nat->Addr
 nm:Nat->Str
 nmInj:∀a b,nm a=nm b->a=b
 roll:FuncData->Addr->Addr->Prop
def Aq(W:Mo)(fd:FuncData):Prop:=∃cc oc vs t,fd.code=.ref cc/\¬W.g.F cc/\W.h.get? cc=some oc/\oc.data=.fields vs/\vs[1]?=some (.str fd.qualname t)
section
variable {prog:Program}{w:World}(B:Base prog w)
inductive Cd(W:Mo)(l:List V)(R:List Value->Prop)(v:Value):Prop
 |mk (a:Addr) (items:Array Value) (n:Nat) (e:v=.ref a) (f:¬W.g.F a) (o:W.h.get? a=some ⟨.type "tuple",none,.seq items n, #[]⟩) (z:l.length<=lim) (r:R items.toList)
inductive Ci(W:Mo)(l:List V)(R:List Value->Prop)(v:Value):Prop
 |mk (a:Addr) (items:Array Value) (e:v=.ref a) (f:¬W.g.F a) (o:W.h.PlainList a items) (z:l.length<=lim) (r:R items.toList)
inductive KdR(prog:Program)(w:World)(W:Mo)(ks:List Int)(R:List Value->Prop)(v:Value):Prop
 |mk (a:Addr) (kvs:List (Int×Value)) (e:v=.ref a) (f:¬W.g.F a) (s:(a==sysModules)=false) (d:W.h.DictOf (intKind prog w) a kvs) (k:kvs.map (·.1)=ks) (r:R (kvs.map (·.2)))
inductive CJ(W:Mo)(k:Int)(v:Value):Prop
 |mk (a:Addr) (t u z:Tok) (e:v=.ref a) (f:¬W.g.F a) (hz:0<=k/\k<=lim) (r:IsRange W.h a 0 k 1 t u z)
inductive CP(W:Mo)(P Q:Value->Prop)(v:Value):Prop
 |mk (a:Addr) (o:Obj) (c1 c2:Addr) (v1 v2:Value) (e:v=.ref a) (f:¬W.g.F a) (f1:¬W.g.F c1) (f2:¬W.g.F c2) (h:W.h.get? a=some o) (fd:∃fd,o.data=.func fd/\B.roll fd c1 c2/\Aq W fd)
  (h1:W.h.IsCell c1 (some v1)) (h2:W.h.IsCell c2 (some v2)) (p:P v1) (q:Q v2)
mutual
noncomputable def Rep(W:Mo):V->Value->Prop
 |.undef,_=>False
 |.none,v=>v=.none
 |.bool b,v=>v=.bool b
 |.int i,v=>∃t,v=.int i t
 |.str x,v=>∃t,v=.str x t
 |.tup l,v=>Cd W l (aA W l) v
 |.lst l,v=>Ci W l (aA W l) v
 |.kd ks vs,v=>KdR prog w W ks (aA W vs) v
 |.rng k,v=>CJ W k v
 |.ref i,v=>i<W.s.perm.length/\v=.ref (W.g.adr 0 i)
 |.tmp i,v=>i<W.s.tmps.length/\v=.ref (W.g.adr 2 i)
 |.clo p q,v=>CP B W (Rep W p) (Rep W q) v
noncomputable def aA(W:Mo):List V->List Value->Prop
 |[],[]=>True
 |v::r,x::q=>Rep W v x/\aA W r q
 |_,_=>False
end
noncomputable def Ob.isInst:Ob->Bool
 |.inst _ _=>true
 |_=>false
noncomputable def live(s:S):Nat->Nat->Prop
 |0,i=>i<s.perm.length
 |1,i=>∃c fs,s.perm[i]?=some (.inst c fs)
 |2,i=>i<s.tmps.length
 |_,_=>False
mutual
noncomputable def aG(h:Heap):V->Value->Prop
 |.none,v=>v=.none
 |.bool b,v=>v=.bool b
 |.int i,v=>∃t,v=.int i t
 |.str x,v=>∃t,v=.str x t
 |.tup l,v=>∃a items n,v=.ref a/\h.get? a=some ⟨.type "tuple",none,.seq items n, #[]⟩/\cA h l items.toList
 |_,_=>False
noncomputable def cA(h:Heap):List V->List Value->Prop
 |[],[]=>True
 |v::r,x::q=>aG h v x/\cA h r q
 |_,_=>False
end
end
end Mine
end
section
namespace Mine
open PySem PySem.W PyProof.Rows
open PySem.SeqAt
section
variable {prog:Program}{w:World}
mutual
noncomputable def oJ(w:World):V->Int
 |.int i=>hashInt i
 |.str x=>hashStr w x
 |.tup l=>reduceHash (Builtin.Tuple.tupleHashOf (fO w l))
 |_=>0
noncomputable def fO(w:World):List V->List Int
 |[]=>[]
 |v::r=>oJ w v::fO w r
end
mutual
noncomputable def ni:V->Nat
 |.int _=>1
 |.str _=>1
 |.tup l=>fR l+1
 |_=>0
noncomputable def fR:List V->Nat
 |[]=>0
 |v::r=>ni v+fR r
end
theorem cA.length{h:Heap}:∀ {l:List V} {xs:List Value},cA h l xs->l.length=xs.length:=by
 intro b
 induction b with
 |nil=>
  exact @λc d=>match c,d with
  |[],_=>rfl
  |_::_,hh=>hh.elim
 |cons _ _ a=>
  exact @λc d=>match c,d with
  |_::_,hh=>by simp [a hh.2]
  |[],hh=>hh.elim
mutual
theorem aG.inj{h:Heap}:∀ {x y:V} {v:Value},aG h x v->aG h y v->x=y
 |.int i,y,v,hx,hy=>by
  obtain⟨t,rfl⟩:=hx
  cases y<;>simp [aG] at hy ⊢
  exact hy
 |.str i,y,v,hx,hy=>by
  obtain⟨t,rfl⟩:=hx
  cases y<;>simp [aG] at hy ⊢
  exact hy
 |.tup l,y,v,hx,hy=>by
  simp only [aG] at hx
  obtain⟨a,j,n,rfl,k,m⟩:=hx
  cases y with
  |tup l'=>
   simp only [aG] at hy
   obtain⟨o,d,p,g,c,f⟩:=hy
   injection g with g
   subst g
   rw [k] at c
   injection c with e
   injection e with _ _ e _
   injection e with e _
   subst e
   rw [cA.inj m f]
  |_=>simp [aG] at hy
 |.undef,_,_,hx,_=>by simp [aG] at hx
 |.none,y,_,hx,hy=>by
  subst hx
  cases y<;>simp [aG] at hy ⊢
 |.bool b,y,_,hx,hy=>by
  subst hx
  cases y<;>simp [aG] at hy ⊢
  exact hy
 |.lst _,_,_,hx,_=>by simp [aG] at hx
 |.kd _ _,_,_,hx,_=>by simp [aG] at hx
 |.rng _,_,_,hx,_=>by simp [aG] at hx
 |.ref _,_,_,hx,_=>by simp [aG] at hx
 |.tmp _,_,_,hx,_=>by simp [aG] at hx
 |.clo _ _,_,_,hx,_=>by simp [aG] at hx
theorem cA.inj{h:Heap}:∀ {x y:List V} {v:List Value},cA h x v->cA h y v->x=y
 |[],[],_,_,_=>rfl
 |[],_::_,[],_,hy=>by simp [cA] at hy
 |[],_::_,_::_,hx,_=>by simp [cA] at hx
 |_::_,[],[],hx,_=>by simp [cA] at hx
 |_::_,[],_::_,_,hy=>by simp [cA] at hy
 |a::r,b::q,[],hx,_=>by simp [cA] at hx
 |a::r,b::q,c::p,hx,hy=>by
  rw [aG.inj hx.1 hy.1,cA.inj hx.2 hy.2]
end
mutual
theorem aG.keeps{h h':Heap}(k:∀a items n,h.get? a=some ⟨.type "tuple",none,.seq items n, #[]⟩->h'.get? a=some ⟨.type "tuple",none,.seq items n, #[]⟩):
  ∀ {x:V} {v:Value},aG h x v->aG h' x v
 |.int i,v,hx=>hx
 |.str i,v,hx=>hx
 |.tup l,v,hx=>by
  obtain⟨a,items,n,rfl,c,b⟩:=hx
  exact⟨a,items,n,rfl,k _ _ _ c,cA.keeps k b⟩
 |.undef,_,hx=>by simp [aG] at hx
 |.none,_,hx=>hx
 |.bool _,_,hx=>hx
 |.lst _,_,hx=>by simp [aG] at hx
 |.kd _ _,_,hx=>by simp [aG] at hx
 |.rng _,_,hx=>by simp [aG] at hx
 |.ref _,_,hx=>by simp [aG] at hx
 |.tmp _,_,hx=>by simp [aG] at hx
 |.clo _ _,_,hx=>by simp [aG] at hx
theorem cA.keeps{h h':Heap}(k:∀a items n,h.get? a=some ⟨.type "tuple",none,.seq items n, #[]⟩->h'.get? a=some ⟨.type "tuple",none,.seq items n, #[]⟩):
  ∀ {x:List V} {v:List Value},cA h x v->cA h' x v
 |[],[],_=>trivial
 |[],_::_,hx=>by simp [cA] at hx
 |_::_,[],hx=>by simp [cA] at hx
 |a::r,b::q,hx=>by exact⟨aG.keeps k hx.1,cA.keeps k hx.2⟩
end
variable {A:Around}{E:Value->Shared->Prop}{s:Shared}
theorem fq{l:List V}{a:Addr}(hk:aG s.heap (.tup l) (.ref a)):s.TypeIs (.ref a) "tuple" :=by
 simp only [aG,Value.ref.injEq] at hk
 refine x33 hk λ_ c n b d _=>?_
 subst b
 exact i12 _ d rfl
theorem wl:∀ (n:Nat) (v:V) {val:Value} {A:Around} {E:Value->Shared->Prop} {s:Shared} {Q:Int->Shared->Prop},aO n v=true->A.units+n<cLine->aG s.heap v val->
  Q (oJ w v) {s with toks:=s.toks+ni v}->wpAny (model prog w) A (pyHash val) Q E s:=by
 intro n
 induction n with
 |zero=>
  intro v val A E s Q z M y h
  cases v<;>first|exact ff z|exact nn z|exact z.elim|skip
  ·obtain⟨t,rfl⟩:=y;exact wpAny_pyHash_int h
  ·obtain⟨t,rfl⟩:=y;exact wpAny_pyHash_str h
 |succ n ih=>
  intro v val A E s Q z M y h
  cases v with
  |int i=>obtain⟨t,rfl⟩:=y;exact wpAny_pyHash_int h
  |str i=>obtain⟨t,rfl⟩:=y;exact wpAny_pyHash_str h
  |tup l=>
   have H:=y
   refine x33 y λa B m j L N=>?_
   subst j
   have C:=fq H
   replace z:=List.all_eq_true.mp z
   first|unfold pyHashByItsType|skip
   first|refine wpAny_bind (wpAny_cRoomFor_or (.inr (by omega)) ?_)|skip
   refine wpAny_bind (wpAny_specialOf C F.slot_tuple_hash.lookup ?_)
   refine wpAny_bind (wpAny_specialOf C F.slot_tuple_hash.lookup ?_)
   refine wpAny_bind (wpAny_callSpecialIfBoundUnlessNone?_slot C F.slot_tuple_hash (wpAny_call_entry F.slot_tuple_hash C F.entry_tuple_hash ?_ (F.args_tuple_hash_1 _)))
   show wpAny _ _ (Builtin.Tuple.tupleItemsOf (.ref a)>>=_) _ _ s
   refine wpAny_bind (wpAny_tupleItemsOf L rfl ?_)
   refine wpAny_bind ?_
   rw [<-Array.forIn_toList]
   refine wpAny_forIn_list _
    (λu (b:Array Int) J=>∃q left,l=q++left/\cA s.heap left u/\b.toList=fO w q/\J={s with toks:=s.toks+fR q})
    _ ?_ ?_ _ _ ⟨[],l,rfl,N,rfl,rfl⟩
   ·intro x u b J o
    refine x24 o λq left c r K e=>?_
    try clear o;try clear s;try clear a;try clear m;try clear t
    subst c
    subst e
    cases left with
    |nil=>simp [cA] at r
    |cons k ks=>
     have D:∀ (d:List V) (k:V),fR (d++[k])=fR d+ni k:=by
      intro d k;induction d with
      |nil=>simp [fR]
      |cons x d ih=>simp only [List.cons_append,fR,ih];lia
     have I:∀ (d:List V) (k:V),fO w (d++[k])=fO w d++[oJ w k]:=by
      intro d k;induction d with
      |nil=>simp [fO]
      |cons x d ih=>simp only [List.cons_append,fO,ih]
     refine wpAny_bind (ih k (z k (by simp)) (by simp only [Around.in1_units];omega) r.1 ?_)
     first
      |exact wpAny_pure ⟨q++[k],ks,by simp,r.2,by simp [K,I],by simp [D,Nat.add_assoc]⟩
      |exact wpAny_bind (wpAny_pure (wpAny_pure ⟨q++[k],ks,rfl,r.2,rfl,rfl⟩))
   ·intro b J p
    refine x24 p λq left f r K g=>?_
    try clear p;try clear I;try clear D;try clear e;try clear c;try clear o;try clear fR;try clear J;try clear u;try clear Array;try clear C;try clear N;try clear L;try clear B;try clear H;try clear x;try clear y;try clear M;try clear induction;try clear toks;try clear heap;try clear d;try clear A;try clear l;try clear val;try clear V;try clear v;try clear n;try clear k;try clear s;try clear a;try clear m;try clear t
    subst f
    subst g
    cases left with
    |cons _ _=>simp [cA] at r
    |nil=>
     rw [List.append_nil] at h
     show wpAny _ _ (retInt (Builtin.Tuple.tupleHashOf b.toList)) _ _ _
     refine K▸?_
     refine wpAny_ret_mkInt ?_
     show wpAny _ _ (if(decide (-(2:Int) ^ 63<=Builtin.Tuple.tupleHashOf (fO w q))&&decide (Builtin.Tuple.tupleHashOf (fO w q)<2 ^ 63))=true then _ else _) Q E _
     dsimp only [oJ] at h
     dsimp only [reduceHash] at h
     by_cases hr:(decide (-(2:Int) ^ 63<=Builtin.Tuple.tupleHashOf (fO w q))&&decide (Builtin.Tuple.tupleHashOf (fO w q)<2 ^ 63))=true
     ·rw [if_pos hr]
      rw [if_pos hr] at h
      exact wpAny_pure ‹_›
     ·rw [if_neg hr]
      rw [if_neg hr] at h
      exact wpAny_bind (wpAny_rule (wpAny_pure ‹_›))
  |_=>exact ff z
section
variable {A:Around}{x x':Value}{b:Bool}{n:Nat}
theorem bL{l:List V}{x:Value}(hx:aG s.heap (.tup l) x):∃a its,x=.ref a/\s.heap.IsTuple a its:=by
 refine x33 hx λc its m b d _=>?_
 try clear hx
 subst b
 exact i22 c its rfl ⟨_,d,rfl,_,rfl⟩
theorem kZ(hx:aG s.heap .none x)(hx':aG s.heap .none x')(e:veq n .none .none=some b)(hu:A.units<cLine):RcAt A s x x' b/\EqAt A s x x' b:=by
 obtain rfl:=hx
 obtain rfl:=hx'
 rw [bi] at e
 obtain rfl:=Option.some.inj e
 exact⟨RcAt.none_none,EqAt.same _⟩
theorem k5(q:Bool)(hx:aG s.heap .none x)(hx':aG s.heap (.bool q) x')(e:veq n .none (.bool q)=some b)(hu:A.units<cLine):RcAt A s x x' b/\EqAt A s x x' b:=by
 obtain rfl:=hx
 obtain rfl:=hx'
 rw [bi] at e
 obtain rfl:=Option.some.inj e
 exact⟨RcAt.none_bool _,EqAt.none_bool _⟩
theorem m4(q:Int)(hx:aG s.heap .none x)(hx':aG s.heap (.int q) x')(e:veq n .none (.int q)=some b)(hu:A.units<cLine):RcAt A s x x' b/\EqAt A s x x' b:=by
 obtain rfl:=hx
 obtain⟨a,rfl⟩:=hx'
 rw [bi] at e
 obtain rfl:=Option.some.inj e
 exact⟨RcAt.none_int _ _,EqAt.none_int _ _⟩
theorem m3(q:Str)(hx:aG s.heap .none x)(hx':aG s.heap (.str q) x')(e:veq n .none (.str q)=some b)(hu:A.units<cLine):RcAt A s x x' b/\EqAt A s x x' b:=by
 obtain rfl:=hx
 obtain⟨a,rfl⟩:=hx'
 rw [bi] at e
 obtain rfl:=Option.some.inj e
 exact⟨RcAt.none_str _ _,EqAt.none_str _ _⟩
theorem mZ(q:List V)(hx:aG s.heap .none x)(hx':aG s.heap (.tup q) x')(e:veq n .none (.tup q)=some b)(hu:A.units<cLine):RcAt A s x x' b/\EqAt A s x x' b:=by
 obtain rfl:=hx
 refine x22 (bL hx') λf c a d=>?_
 subst a
 rw [bi] at e
 obtain rfl:=Option.some.inj e
 exact⟨RcAt.none_tuple d hu,EqAt.none_tuple d hu⟩
theorem k8(p:Bool)(hx:aG s.heap (.bool p) x)(hx':aG s.heap .none x')(e:veq n (.bool p) .none=some b)(hu:A.units<cLine):RcAt A s x x' b/\EqAt A s x x' b:=by
 obtain rfl:=hx
 obtain rfl:=hx'
 rw [bi] at e
 obtain rfl:=Option.some.inj e
 exact⟨RcAt.bool_none _,EqAt.bool_none _⟩
theorem k9(p:Bool)(q:Bool)(hx:aG s.heap (.bool p) x)(hx':aG s.heap (.bool q) x')(e:veq n (.bool p) (.bool q)=some b)(hu:A.units<cLine):RcAt A s x x' b/\EqAt A s x x' b:=by
 obtain rfl:=hx
 obtain rfl:=hx'
 rw [bi] at e
 obtain rfl:=Option.some.inj e
 exact⟨RcAt.bool_bool _ _,EqAt.bool_bool _ _⟩
theorem ng(p:Bool)(q:Int)(hx:aG s.heap (.bool p) x)(hx':aG s.heap (.int q) x')(e:veq n (.bool p) (.int q)=some b)(hu:A.units<cLine):RcAt A s x x' b/\EqAt A s x x' b:=by
 obtain rfl:=hx
 obtain⟨a,rfl⟩:=hx'
 rw [bi] at e
 obtain rfl:=Option.some.inj e
 exact⟨RcAt.bool_int _ _ _,EqAt.bool_int _ _ _⟩
theorem m8(p:Bool)(q:Str)(hx:aG s.heap (.bool p) x)(hx':aG s.heap (.str q) x')(e:veq n (.bool p) (.str q)=some b)(hu:A.units<cLine):RcAt A s x x' b/\EqAt A s x x' b:=by
 obtain rfl:=hx
 obtain⟨a,rfl⟩:=hx'
 rw [bi] at e
 obtain rfl:=Option.some.inj e
 exact⟨RcAt.bool_str _ _ _,EqAt.bool_str _ _ _⟩
theorem m7(p:Bool)(q:List V)(hx:aG s.heap (.bool p) x)(hx':aG s.heap (.tup q) x')(e:veq n (.bool p) (.tup q)=some b)(hu:A.units<cLine):RcAt A s x x' b/\EqAt A s x x' b:=by
 obtain rfl:=hx
 refine x22 (bL hx') λf c a d=>?_
 subst a
 rw [bi] at e
 obtain rfl:=Option.some.inj e
 exact⟨RcAt.bool_tuple _ d hu,EqAt.bool_tuple _ d hu⟩
theorem m5(p:Int)(hx:aG s.heap (.int p) x)(hx':aG s.heap .none x')(e:veq n (.int p) .none=some b)(hu:A.units<cLine):RcAt A s x x' b/\EqAt A s x x' b:=by
 obtain⟨t,rfl⟩:=hx
 obtain rfl:=hx'
 rw [bi] at e
 obtain rfl:=Option.some.inj e
 exact⟨RcAt.int_none _ _,EqAt.int_none _ _⟩
theorem m6(p:Int)(q:Bool)(hx:aG s.heap (.int p) x)(hx':aG s.heap (.bool q) x')(e:veq n (.int p) (.bool q)=some b)(hu:A.units<cLine):RcAt A s x x' b/\EqAt A s x x' b:=by
 refine x11 hx λt a=>?_
 try clear hx
 subst a
 obtain rfl:=hx'
 rw [bi] at e
 obtain rfl:=Option.some.inj e
 exact⟨RcAt.int_bool _ _ _,EqAt.int_bool _ _ _⟩
theorem pi(p:Int)(q:Int)(hx:aG s.heap (.int p) x)(hx':aG s.heap (.int q) x')(e:veq n (.int p) (.int q)=some b)(hu:A.units<cLine):RcAt A s x x' b/\EqAt A s x x' b:=by
 obtain⟨t,rfl⟩:=hx
 obtain⟨a,rfl⟩:=hx'
 rw [bi] at e
 obtain rfl:=Option.some.inj e
 exact⟨RcAt.int_int _ _ _ _,EqAt.int_int _ _ _ _⟩
theorem ph(p:Int)(q:Str)(hx:aG s.heap (.int p) x)(hx':aG s.heap (.str q) x')(e:veq n (.int p) (.str q)=some b)(hu:A.units<cLine):RcAt A s x x' b/\EqAt A s x x' b:=by
 obtain⟨t,rfl⟩:=hx
 obtain⟨a,rfl⟩:=hx'
 rw [bi] at e
 obtain rfl:=Option.some.inj e
 exact⟨RcAt.int_str _ _ _ _,EqAt.int_str _ _ _ _⟩
theorem pg(p:Int)(q:List V)(hx:aG s.heap (.int p) x)(hx':aG s.heap (.tup q) x')(e:veq n (.int p) (.tup q)=some b)(hu:A.units<cLine):RcAt A s x x' b/\EqAt A s x x' b:=by
 obtain⟨t,rfl⟩:=hx
 refine x22 (bL hx') λf c a d=>?_
 subst a
 rw [bi] at e
 obtain rfl:=Option.some.inj e
 exact⟨RcAt.int_tuple _ _ d hu,EqAt.int_tuple _ _ d hu⟩
theorem mX(p:Str)(hx:aG s.heap (.str p) x)(hx':aG s.heap .none x')(e:veq n (.str p) .none=some b)(hu:A.units<cLine):RcAt A s x x' b/\EqAt A s x x' b:=by
 obtain⟨t,rfl⟩:=hx
 obtain rfl:=hx'
 rw [bi] at e
 obtain rfl:=Option.some.inj e
 exact⟨RcAt.str_none _ _,EqAt.str_none _ _⟩
theorem mY(p:Str)(q:Bool)(hx:aG s.heap (.str p) x)(hx':aG s.heap (.bool q) x')(e:veq n (.str p) (.bool q)=some b)(hu:A.units<cLine):RcAt A s x x' b/\EqAt A s x x' b:=by
 obtain⟨t,rfl⟩:=hx
 obtain rfl:=hx'
 rw [bi] at e
 obtain rfl:=Option.some.inj e
 exact⟨RcAt.str_bool _ _ _,EqAt.str_bool _ _ _⟩
theorem pf(p:Str)(q:Int)(hx:aG s.heap (.str p) x)(hx':aG s.heap (.int q) x')(e:veq n (.str p) (.int q)=some b)(hu:A.units<cLine):RcAt A s x x' b/\EqAt A s x x' b:=by
 obtain⟨t,rfl⟩:=hx
 obtain⟨a,rfl⟩:=hx'
 rw [bi] at e
 obtain rfl:=Option.some.inj e
 exact⟨RcAt.str_int _ _ _ _,EqAt.str_int _ _ _ _⟩
theorem pe(p:Str)(q:Str)(hx:aG s.heap (.str p) x)(hx':aG s.heap (.str q) x')(e:veq n (.str p) (.str q)=some b)(hu:A.units<cLine):RcAt A s x x' b/\EqAt A s x x' b:=by
 obtain⟨t,rfl⟩:=hx
 obtain⟨a,rfl⟩:=hx'
 rw [bi] at e
 obtain rfl:=Option.some.inj e
 rw [show seqb p q=(p==q) from by rw [dz];rfl]
 exact⟨RcAt.str_str _ _ _ _,EqAt.str_str _ _ _ _⟩
theorem pd(p:Str)(q:List V)(hx:aG s.heap (.str p) x)(hx':aG s.heap (.tup q) x')(e:veq n (.str p) (.tup q)=some b)(hu:A.units<cLine):RcAt A s x x' b/\EqAt A s x x' b:=by
 obtain⟨t,rfl⟩:=hx
 refine x22 (bL hx') λf c a d=>?_
 subst a
 rw [bi] at e
 obtain rfl:=Option.some.inj e
 exact⟨RcAt.str_tuple _ _ d hu,EqAt.str_tuple _ _ d hu⟩
theorem mV(p:List V)(hx:aG s.heap (.tup p) x)(hx':aG s.heap .none x')(e:veq n (.tup p) .none=some b)(hu:A.units<cLine):RcAt A s x x' b/\EqAt A s x x' b:=by
 refine x22 (bL hx) λf c a d=>?_
 subst a
 obtain rfl:=hx'
 rw [bi] at e
 obtain rfl:=Option.some.inj e
 exact⟨RcAt.tuple_none d hu,EqAt.tuple_none d hu⟩
theorem mW(p:List V)(q:Bool)(hx:aG s.heap (.tup p) x)(hx':aG s.heap (.bool q) x')(e:veq n (.tup p) (.bool q)=some b)(hu:A.units<cLine):RcAt A s x x' b/\EqAt A s x x' b:=by
 refine x22 (bL hx) λf c a d=>?_
 subst a
 obtain rfl:=hx'
 rw [bi] at e
 obtain rfl:=Option.some.inj e
 exact⟨RcAt.tuple_bool _ d hu,EqAt.tuple_bool _ d hu⟩
theorem pb(p:List V)(q:Int)(hx:aG s.heap (.tup p) x)(hx':aG s.heap (.int q) x')(e:veq n (.tup p) (.int q)=some b)(hu:A.units<cLine):RcAt A s x x' b/\EqAt A s x x' b:=by
 refine x22 (bL hx) λf c a d=>?_
 subst a
 obtain⟨g,rfl⟩:=hx'
 rw [bi] at e
 obtain rfl:=Option.some.inj e
 exact⟨RcAt.tuple_int _ _ d hu,EqAt.tuple_int _ _ d hu⟩
theorem o9(p:List V)(q:Str)(hx:aG s.heap (.tup p) x)(hx':aG s.heap (.str q) x')(e:veq n (.tup p) (.str q)=some b)(hu:A.units<cLine):RcAt A s x x' b/\EqAt A s x x' b:=by
 refine x22 (bL hx) λf c a d=>?_
 subst a
 obtain⟨g,rfl⟩:=hx'
 rw [bi] at e
 obtain rfl:=Option.some.inj e
 exact⟨RcAt.tuple_str _ _ d hu,EqAt.tuple_str _ _ d hu⟩
theorem pj{v v':V}(hx:aG s.heap v x)(hx':aG s.heap v' x')(e:veq n v v'=some b)(hu:A.units<cLine)
  (hn:∀l m,v=.tup l->v'=.tup m->False):RcAt A s x x' b/\EqAt A s x x' b:=by
 cases v with
 |none=>cases v' with
  |none=>exact kZ hx hx' e hu
  |bool q=>exact k5 q hx hx' e hu
  |int q=>exact m4 q hx hx' e hu
  |str q=>exact m3 q hx hx' e hu
  |tup q=>exact mZ q hx hx' e hu
  |_=>exact hx'.elim
 |bool p=>cases v' with
  |none=>exact k8 p hx hx' e hu
  |bool q=>exact k9 p q hx hx' e hu
  |int q=>exact ng p q hx hx' e hu
  |str q=>exact m8 p q hx hx' e hu
  |tup q=>exact m7 p q hx hx' e hu
  |_=>exact hx'.elim
 |int p=>cases v' with
  |none=>exact m5 p hx hx' e hu
  |bool q=>exact m6 p q hx hx' e hu
  |int q=>exact pi p q hx hx' e hu
  |str q=>exact ph p q hx hx' e hu
  |tup q=>exact pg p q hx hx' e hu
  |_=>exact hx'.elim
 |str p=>cases v' with
  |none=>exact mX p hx hx' e hu
  |bool q=>exact mY p q hx hx' e hu
  |int q=>exact pf p q hx hx' e hu
  |str q=>exact pe p q hx hx' e hu
  |tup q=>exact pd p q hx hx' e hu
  |_=>exact hx'.elim
 |tup p=>cases v' with
  |none=>exact mV p hx hx' e hu
  |bool q=>exact mW p q hx hx' e hu
  |int q=>exact pb p q hx hx' e hu
  |str q=>exact o9 p q hx hx' e hu
  |tup q=>exact(hn _ _ rfl rfl).elim
  |_=>exact hx'.elim
 |_=>exact hx.elim
end
theorem cA.get{h:Heap}:∀ {l:List V} {xs:List Value},cA h l xs->∀ (j:Nat) (h1:j<l.length) (h2:j<xs.length),aG h l[j] xs[j]:=by
 intro b
 induction b with
 |cons _ _ a=>
  exact @λc d e f g=>match c,d,e,f,g with
  |_::_,hh,0,_,_=>by exact hh.1
  |_::q,hh,j+1,h1,h2=>by exact a hh.2 j _ _
  |[],_,_,_,h2=>by simp at h2
 |nil=>
  exact @λ_ _ j h1 _=>by simp at h1
theorem fy{f:V->V->Option Bool}:∀ {l m:List V} {b:Bool},veqs f l m=some b->∃e:Nat->Bool,(∀j (h1:j<l.length) (h2:j<m.length),f l[j] m[j]=some (e j))/\
  b=((List.range (min l.length m.length)).all e&&l.length==m.length)
 |[],[],b,h=>i12 (λ_=>true) (by simp) ((Option.some.inj h).symm)
 |[],_::_,b,h=>i12 (λ_=>true) (by simp) ((Option.some.inj h).symm)
 |_::_,[],b,h=>i12 (λ_=>true) (by simp) ((Option.some.inj h).symm)
 |a::r,c::q,b,h=>by
  simp only [veqs] at h
  cases h1:f a c with
  |none=>replace h:=h1▸h;exact nn h
  |some x=>
   cases h2:veqs f r q with
   |none=>replace h:=h2▸h1▸h;exact nn h
   |some y=>
    rw [h1,h2] at h
    replace h:=Option.some.inj h
    refine x12 (fy h2) λe g k=>?_
    refine i12 (λj=>match j with|0=>x|j+1=>e j) ?_ ?_
    ·intro j d i
     cases j with
     |zero=>exact h1
     |succ j=>simpa using g j (Nat.le_of_succ_le_succ d) (Nat.le_of_succ_le_succ i)
    ·subst h k
     simp only [List.length_cons,Nat.add_min_add_right]
     simp only [List.range_succ_eq_map]
     simp [Function.comp_def,Bool.and_assoc]
open PySem.SeqAt in
theorem nh:∀ (n:Nat) (v v':V) {x x':Value} {b:Bool} {A:Around},aG s.heap v x->aG s.heap v' x'->veq n v v'=some b->A.units+n<cLine->RcAt A s x x' b/\EqAt A s x x' b:=by
 intro n
 induction n with
 |zero=>
  intro v v' x x' b A H i e R
  refine pj H i e (by omega) ?_
  rintro l m rfl rfl
  exact nn e
 |succ n ih=>
  intro v v' x x' b A H i e R
  by_cases hn:∀l m,v=.tup l->v'=.tup m->False
  ·exact pj H i e (by omega) hn
  ·have:∃l m,v=.tup l/\v'=.tup m:=Classical.byContradiction λc=>hn λl m D C=>c ⟨l,m,D,C⟩
   obtain⟨l,m,rfl,rfl⟩:=this
   refine x33 H λJ w k a I t=>?_
   subst a
   refine x33 i λB o U d y r=>?_
   subst d
   refine x12 (fy e) λL F f=>?_
   subst f
   have q:RcAt A s (.ref J) (.ref B) ((List.range (min w.size o.size)).all L&&w.size==o.size):=
    RcAt.tuples ⟨_,I,rfl,_,rfl⟩ ⟨_,y,rfl,_,rfl⟩ (by omega) λj D C=>by
     have O:j<l.length:=by simp only [t.length];exact D
     have K:j<m.length:=by simp only [r.length];exact C
     have P:=t.get j O (D)
     have T:=r.get j K (C)
     exact(ih _ _ P T (F j O K) (by simp only [Around.in1_units];omega)).2
   have Q:w.size=l.length:=by simp only [t.length];simp
   have N:o.size=m.length:=by simp only [r.length];simp
   replace q:=N▸Q▸q
   refine⟨q,?_⟩
   by_cases hne:J=B
   ·try clear N;try clear i
    subst hne
    rw [I] at y
    injection y with e3
    injection e3 with _ _ e3 _
    injection e3 with e3 _
    subst e3
    have:l=m:=cA.inj t r
    subst this
    have:((List.range (min l.length l.length)).all L&&l.length==l.length)=true:=by
     have z:∀ (n:Nat) (v:V) (b:Bool) (x:Value),aG s.heap v x->veq n v v=some b->b=true:=by
      intro n
      induction n with
      |zero=>
       intro v b x M h
       cases v with
       |none=>obtain rfl:=Option.some.inj h;rfl
       |bool p=>obtain rfl:=Option.some.inj h;exact beq_self_eq_true p
       |int p=>obtain rfl:=Option.some.inj h;exact beq_self_eq_true p
       |str p=>obtain rfl:=Option.some.inj h;exact aH.mpr rfl
       |_=>exact nn h
      |succ n ih2=>
       intro v b x M h
       cases v with
       |none=>obtain rfl:=Option.some.inj h;rfl
       |bool p=>obtain rfl:=Option.some.inj h;exact beq_self_eq_true p
       |int p=>obtain rfl:=Option.some.inj h;exact beq_self_eq_true p
       |str p=>obtain rfl:=Option.some.inj h;exact aH.mpr rfl
       |tup lv=>?_
       |_=>exact nn h
       refine x33 M λ_ w _ _ _ t=>?_
       refine x12 (fy h) λe F g=>?_
       try clear h;try clear e
       subst g
       simp only [Nat.min_self,beq_self_eq_true,Bool.and_true,List.all_eq_true,List.mem_range]
       intro j u
       exact ih2 _ _ _ (t.get j u (by exact t.length▸u)) (F j u u)
     simp only [Nat.min_self,beq_self_eq_true,Bool.and_true,List.all_eq_true,List.mem_range]
     intro j u
     exact z n _ _ _ (t.get j u (by exact t.length▸u)) (F j u u)
    exact this▸EqAt.same _
   ·exact EqAt.of_refs hne q
theorem tO:∀ (n m:Nat) (v:V) {val:Value} {A:Around} {E:Value->Shared->Prop} {s:Shared} {Q:Bool->Shared->Prop},aO n v=true->n<=m->aG s.heap v val->
  Q true s->wpAny (model prog w) A (eqIsQuiet m val) Q E s:=by
 intro n
 induction n with
 |zero=>
  intro m v val A E s Q g H j h
  cases v<;>first|exact ff g|exact nn g|exact g.elim|skip
  ·obtain⟨t,rfl⟩:=j;exact wpAny_of_eq (eqIsQuiet_byValue _ rfl) h
  ·obtain⟨t,rfl⟩:=j;exact wpAny_of_eq (eqIsQuiet_byValue _ rfl) h
 |succ n ih=>
  intro m v val A E s Q g H j h
  cases v with
  |int i=>obtain⟨t,rfl⟩:=j;exact wpAny_of_eq (eqIsQuiet_byValue _ rfl) h
  |str i=>obtain⟨t,rfl⟩:=j;exact wpAny_of_eq (eqIsQuiet_byValue _ rfl) h
  |tup l=>
   have o:=j
   refine x33 j λa p k b D C=>?_
   subst b
   have z:=fq o
   simp only [aO,List.all_eq_true] at g
   obtain⟨m,rfl⟩:∃m',m=m'+1:=⟨m - 1,by lia⟩
   unfold eqIsQuiet
   refine wpAny_bind (wpAny_specialOf z F.slot_tuple_eq.lookup ?_)
   refine wpAny_bind (wpAny_isInstance z isSubtype_tuple_tuple ?_)
   refine wpAny_bind (wpAny_seqItems D rfl ?_)
   refine wpAny_bind ?_
   rw [<-Array.forIn_toList]
   refine wpAny_forIn_list _ (λe r y=>r.1=none/\y=s/\∃left,cA s.heap left e/\∀v∈left,aO n v=true) _ ?_ ?_ _ _ ⟨rfl,rfl,l,C,g⟩
   ·intro x e r y c
    obtain⟨B,rfl,left,f,d⟩:=c
    cases left with
    |nil=>simp [cA] at f
    |cons v left=>
     refine wpAny_bind (ih m v (d v (List.mem_cons_self ..)) (Nat.le_of_succ_le_succ ‹_›) f.1 ?_)
     exact wpAny_pure ⟨rfl,rfl,left,f.2,λu q=>d u (List.mem_cons_of_mem _ q)⟩
   ·rintro⟨r1,r2⟩ y ⟨B,rfl,_⟩
    subst B
    exact wpAny_pure h
  |_=>exact ff g
inductive yq(n:Nat):V->Prop
 |int (i:Int):yq n (.int i)
 |str (s:Str):yq n (.str s)
 |tup (m:Nat) (l:List V) (e:n=m+1) (h:∀v∈l,aO m v=true):yq n (.tup l)
theorem sy:∀ {n:Nat} {v:V},aO n v=true->yq n v
 |_,.int i,_=>.int i
 |_,.str s,_=>.str s
 |0,.tup l,h=>ff h
 |m+1,.tup l,h=>.tup m l rfl (List.all_eq_true.mp h)
 |0,.undef,h=>nomatch h|0,.none,h=>nomatch h|0,.bool _,h=>nomatch h|0,.lst _,h=>nomatch h|0,.kd _ _,h=>nomatch h|0,.rng _,h=>nomatch h|0,.ref _,h=>nomatch h|0,.tmp _,h=>nomatch h|0,.clo _ _,h=>ff h
 |_+1,.undef,h=>nomatch h|_+1,.none,h=>nomatch h|_+1,.bool _,h=>nomatch h|_+1,.lst _,h=>nomatch h|_+1,.kd _ _,h=>nomatch h|_+1,.rng _,h=>nomatch h|_+1,.ref _,h=>nomatch h|_+1,.tmp _,h=>nomatch h|_+1,.clo _ _,h=>ff h
theorem lg{n:Nat}(ih:∀ (v v':V),aO n v=true->aO n v'=true->veq n v v'=some (decide (v=v'))):∀ {l m:List V},(∀v∈l,aO n v=true)->(∀v∈m,aO n v=true)->veqs (veq n) l m=some (decide (l=m))
 |[],[],_,_=>rfl
 |[],_::_,_,_=>rfl
 |_::_,[],_,_=>rfl
 |a::r,b::q,h,h'=>by
  simp only [veqs,ih a b (h a (.head _)) (h' b (.head _)),lg ih (λx c=>h x (.tail _ c)) λx c=>h' x (.tail _ c)]
  by_cases hab:a=b<;>simp [hab]
theorem uw:∀ (n:Nat) (v v':V),aO n v=true->aO n v'=true->veq n v v'=some (decide (v=v')):=λn=>by
  induction n using Nat.strongRecOn with|_ n ih=>?_
  intro v v' h b
  have k:=sy h
  have a:=sy b
  simp only [bi]
  try clear b;try clear h
  cases k with
  |int i=>cases a with
   |int j=>exact congrArg some (by rw [Bool.eq_iff_iff];simp)
   |str s=>rfl
   |tup m l=>rfl
  |str i=>cases a with
   |int j=>rfl
   |str s=>exact congrArg some (by rw [Bool.eq_iff_iff,aH];simp)
   |tup m l=>rfl
  |tup m l e hl=>cases a with
   |int j=>rfl
   |str s=>rfl
   |tup m' l' e' hl'=>
    subst e
    cases e'
    refine(lg (ih m (Nat.lt_succ_self m)) hl hl').trans (congrArg some ?_)
    rw [Bool.eq_iff_iff];simp
noncomputable def eU(prog:Program)(w:World):HeapKind prog w (List V) where
 is:=λh k a=>aG h (.tup k) (.ref a)/\aO bB (.tup k)=true
 hash:=λk=>oJ w (.tup k)
 draws:=λk=>ni (.tup k)
 room:=λA=>A.units+20<cLine
 inj:=λhx hy=>by have:=aG.inj hx.1 hy.1;injection this
 keeps:=λ{h h' k a d o es ep} x ho hd hs=>⟨aG.keeps (λb items n hb=>(hs.2 b (by
  rintro rfl
  rw [ho] at hb
  injection hb with hb
  subst hb
  cases hd)).trans hb) x.1,x.2⟩
 pyHash:=λ{A E s k a Q} hu hk h=>wl bB _ hk.2 (by unfold bB;omega) hk.1 h
 eqBool:=λ{A E s x y a b Q} hu hx hy h=>(nh bB _ _ hx.1 hy.1 (uw bB _ _ hx.2 hy.2) (by unfold bB;omega)).2 _ _ _ _ (by simpa using h)
 quiet:=λ{A E s k a Q} hk h=>tO bB 8 _ hk.2 (by decide) hk.1 h
end
end Mine
end
section
namespace Mine
open PySem PySem.W PyProof.Rows
section
variable {prog:Program}{w:World}(B:Base prog w)
inductive LOb(W:Mo)(l:List V)(R:List Value->Prop)(a:Addr):Prop
 |mk (items:Array Value) (o:W.h.PlainList a items) (z:l.length<=lim) (r:R items.toList)
inductive DOb{prog:Program}{w:World}{K:Type}[DecidableEq K](knd:PySem.KeyKind prog w K)(h:Heap)(a:Addr)(ks:List K)(b:Prop)(R:List Value->Prop):Prop
 |mk (kvs:List (K×Value)) (d:h.DictOf knd a kvs) (k:kvs.map (·.1)=ks) (z:b) (r:R (kvs.map (·.2)))
inductive TOb(W:Mo)(l:List (List V×V))(R:List Value->Prop)(a:Addr):Prop
 |mk (xs:List (List V×Addr×Value)) (d:W.h.DictOfH (eU prog w) a xs) (k:xs.map (·.1)=l.map (·.1)) (z:l.length<=lim) (r:R (xs.map (·.2.2))) (ks:∀x∈xs,Rep B W (.tup x.1) (.ref x.2.1))
noncomputable def bR(W:Mo):Ob->Addr->Addr->Prop
 |.list l,a,_=>LOb W l (aA B W l) a
 |.idict l,a,_=>DOb (intKind prog w) W.h a (l.map (·.1)) (l.length<=lim) (aA B W (l.map (·.2)))
 |.sdict l,a,_=>DOb (PySem.strKind prog w) W.h a (l.map (·.1)) (l.length<=lim) (aA B W (l.map (·.2)))
 |.tdict l,a,_=>TOb B W l (aA B W (l.map (·.2))) a
 |.inst c fs,a,d=>W.h.get? a=some (instObj (B.ca c) d)/\DOb (PySem.strKind prog w) W.h d (fs.map (λp=>B.nm p.1)) (fs.length<=900) (aA B W (fs.map (·.2)))
noncomputable def Ob.clean:Ob->Bool
 |.list l=>aD l
 |.idict l=>aD (l.map (·.2))
 |.sdict l=>aD (l.map (·.2))
 |.tdict l=>aD (l.map (·.2))
 |.inst _ fs=>aD (fs.map (·.2))
structure Inv(W:Mo):Prop where
 base:∀b o,B.h.get? b=some o->W.h.get? b=some o
 fresh:∀b,W.g.F b->B.h.get? b=none
 fdom:∀b,W.g.F b->(W.h.get? b).isSome
 perm:∀i o,W.s.perm[i]?=some o->bR B W o (W.g.adr 0 i) (W.g.adr 1 i)
 tmps:∀i o,W.s.tmps[i]?=some o->bR B W o (W.g.adr 2 i) 0/\o.isInst=false
 inF:∀k i,live W.s k i->W.g.F (W.g.adr k i)
 inj:∀k i k' i',live W.s k i->live W.s k' i'->W.g.adr k i=W.g.adr k' i'->k=k'/\i=i'
 nt:∀o,o∈W.s.perm\/o∈W.s.tmps->o.clean=true
structure Step(Ow:Addr->Prop)(W W':Mo):Prop where
 lenp:W.s.perm.length<=W'.s.perm.length
 lent:W.s.tmps.length<=W'.s.tmps.length
 kind:∀i,live W.s 1 i->live W'.s 1 i
 adr:∀k i,live W.s k i->W'.g.adr k i=W.g.adr k i
 F:∀b,W.g.F b->W'.g.F b
 new:∀b,W'.g.F b->W.g.F b\/W.h.get? b=none
 newl:∀k i,live W'.s k i->live W.s k i\/W.h.get? (W'.g.adr k i)=none
 keep:∀b o,W.h.get? b=some o->(∀k i,live W.s k i->W.g.adr k i≠b)->¬Ow b->W'.h.get? b=some o
 dom:∀b,(W.h.get? b).isSome->(W'.h.get? b).isSome
 sm:Sm W.sh W'.sh
variable {B}
theorem live.mono{s s':S}(h1:s.perm.length<=s'.perm.length)(h2:s.tmps.length<=s'.tmps.length)(h3:∀i,live s 1 i->live s' 1 i):∀ {k i},live s k i->live s' k i
 |0,i,h=>Nat.lt_of_lt_of_le h h1
 |1,i,h=>h3 i h
 |2,i,h=>Nat.lt_of_lt_of_le h h2
 |_+3,_,h=>h.elim
theorem Step.live{Ow:Addr->Prop}{W W':Mo}(st:Step Ow W W'){k i:Nat}(h:live W.s k i):Mine.live W'.s k i:=live.mono st.lenp st.lent st.kind h
theorem Step.refl{Ow:Addr->Prop}(W:Mo):Step Ow W W:=
 ⟨Nat.le_refl _,Nat.le_refl _,λ_ h=>h,λ_ _ _=>rfl,λ_ h=>h,λ_ h=>.inl h,λ_ _ h=>.inl h,λ_ _ h _ _=>h,λ_ h=>h,.refl _⟩
theorem Step.mono{Ow Ow':Addr->Prop}{W W':Mo}(st:Step Ow W W')(h:∀b,Ow b->(W.h.get? b).isSome->Ow' b):Step Ow' W W':=
 {st with keep:=λb o e a c=>st.keep b o e a λq=>c (h b q (e▸rfl))}
theorem Step.trans{Ow:Addr->Prop}{W W' W'':Mo}(x:Step Ow W W')(y:Step Ow W' W''):Step Ow W W'' where
 lenp:=Nat.le_trans x.lenp y.lenp
 lent:=Nat.le_trans x.lent y.lent
 kind:=λi h=>y.kind i (x.kind i h)
 adr:=λk i h=>(y.adr k i (x.live h)).trans (x.adr k i h)
 F:=λb h=>y.F b (x.F b h)
 new:=λb h=>by
  refine(y.new b h).elim (λh=>?_) (λh=>?_)
  ·exact x.new b h
  ·refine .inr ?_
   cases q:W.h.get? b with
   |none=>rfl
   |some o=>have:=x.dom b (q▸rfl);rw [h] at this;exact ff this
 newl:=λk i h=>by
  rcases y.newl k i h with h|h
  ·refine(x.newl k i h).elim (λa=>?_) (λa=>?_)
   ·exact .inl a
   ·refine .inr ?_
    exact(y.adr k i h)▸a
  ·refine .inr ?_
   cases q:W.h.get? (W''.g.adr k i) with
   |none=>rfl
   |some o=>have:=x.dom _ (by rw [q];rfl);rw [h] at this;exact ff this
 keep:=λb o e c d=>by
  refine y.keep b o (x.keep b o e c d) (λk i f=>?_) d
  refine(x.newl k i f).elim (λh=>?_) (λh=>?_)
  ·exact(x.adr k i h)▸c k i h
  ·intro q;replace h:=e▸q▸h;exact ns h
 dom:=λb h=>y.dom b (x.dom b h)
 sm:=x.sm.trans y.sm
def Own(W:Mo)(a:Addr):Prop:=W.g.F a/\(W.h.get? a).isSome/\∀k i,live W.s k i->W.g.adr k i≠a
theorem Own.step{Ow:Addr->Prop}{W W':Mo}{a:Addr}(h:Own W a)(st:Step Ow W W'):Own W' a:=by
 refine i03 (st.F a h.1) (st.dom a h.2.1) (λk i b=>?_)
 refine(st.newl k i b).elim (λq=>?_) (λq=>?_)
 ·exact(st.adr k i q)▸h.2.2 k i q
 ·intro e;replace q:=e▸q;have:=h.2.1;rw [q] at this;exact ff this
theorem Own.keep{W W':Mo}{a:Addr}{o:Obj}(h:Own W a)(st:Step (λ_=>False) W W')(e:W.h.get? a=some o):W'.h.get? a=some o:=st.keep a o e h.2.2 (λq=>q)
theorem oM{Ow:Addr->Prop}{W W':Mo}{a:Addr}{o:Obj}(I:Inv B W)(st:Step Ow W W')(hOw:∀b,Ow b->W.g.F b)(hf:¬W.g.F a)(e:W.h.get? a=some o):
  W'.h.get? a=some o/\¬W'.g.F a:=by
 refine⟨st.keep a o e (λk i c q=>hf (q▸I.inF k i c)) (λq=>hf (hOw a q)),λq=>?_⟩
 refine(st.new a q).elim (λh=>?_) (λh=>?_)
 ·exact hf h
 ·replace h:=e▸h;exact ns h
theorem gn{h h':Heap}{K:Type}[DecidableEq K]{knd:PySem.KeyKind prog w K}{a:Addr}{kvs:List (K×Value)}(x:h.DictOf knd a kvs)(e:∀o,h.get? a=some o->h'.get? a=some o):h'.DictOf knd a kvs:=
 x32 x λo b d c r=>i32 o b d (e o c) r
theorem kH{h:Heap}{K:Type}[DecidableEq K]{knd:PySem.KeyKind prog w K}{a:Addr}{kvs:List (K×Value)}(x:h.DictOf knd a kvs):∃o,h.get? a=some o:=x32 x λo _ _ b _=>⟨o,b⟩
structure Carry(W W':Mo):Prop where
 fz:∀a o,¬W.g.F a->W.h.get? a=some o->W'.h.get? a=some o/\¬W'.g.F a
 adr:∀k i,live W.s k i->W'.g.adr k i=W.g.adr k i
 lenp:W.s.perm.length<=W'.s.perm.length
 lent:W.s.tmps.length<=W'.s.tmps.length
theorem Step.carry{Ow:Addr->Prop}{W W':Mo}(I:Inv B W)(st:Step Ow W W')(hOw:∀b,Ow b->W.g.F b):Carry W W':=
 ⟨λa o c e=>oM I st hOw c e,st.adr,st.lenp,st.lent⟩
mutual
theorem Rep.mono{W W':Mo}(C:Carry W W'):∀ {v:V} {x:Value},Rep B W v x->Rep B W' v x
 |.undef,_,h=>h.elim
 |.none,_,h=>h
 |.bool _,_,h=>h
 |.int _,_,h=>h
 |.str _,_,h=>h
 |.tup l,x,h=>by
  obtain⟨a,b,n,rfl,c,f,j,m⟩:=h
  obtain⟨g,d⟩:=C.fz _ _ c f
  exact⟨a,b,n,rfl,d,g,j,aA.mono C m⟩
 |.lst l,x,h=>by
  obtain⟨a,b,rfl,c,⟨k,f⟩,j,m⟩:=h
  obtain⟨g,d⟩:=C.fz _ _ c f
  exact⟨a,b,rfl,d,⟨k,g⟩,j,aA.mono C m⟩
 |.kd ks F,x,h=>by
  obtain⟨a,A,rfl,c,hs,r,X,m⟩:=h
  obtain⟨o,f⟩:=kH r
  obtain⟨g,d⟩:=C.fz _ _ c f
  exact⟨a,A,rfl,d,hs,gn r (λo' e=>(C.fz _ _ c e).1),X,aA.mono C m⟩
 |.rng k,x,h=>by
  obtain⟨a,t,u,z,rfl,c,j,f⟩:=h
  obtain⟨g,d⟩:=C.fz _ _ c f
  exact⟨a,t,u,z,rfl,d,j,g⟩
 |.ref i,x,h=>by
  exact⟨Nat.lt_of_lt_of_le h.1 C.lenp,by rw [C.adr 0 i h.1];exact h.2⟩
 |.tmp i,x,h=>by
  exact⟨Nat.lt_of_lt_of_le h.1 C.lent,by rw [C.adr 2 i h.1];exact h.2⟩
 |.clo p q,x,h=>by
  obtain⟨a,o,c1,K,v1,J,rfl,c,y,w,f,⟨M,r,hr,cc,oc,F,t,d1,N,T,L⟩,⟨I,D,O⟩,⟨U,s,r2⟩,P,hq⟩:=h
  obtain⟨Y,H⟩:=C.fz _ _ N T
  obtain⟨g,d⟩:=C.fz _ _ c f
  obtain⟨h3,Q⟩:=C.fz _ _ y D
  obtain⟨R,Z⟩:=C.fz _ _ w s
  exact⟨a,o,c1,K,v1,J,rfl,d,Q,Z,g,⟨M,r,hr,cc,oc,F,t,d1,H,Y,L⟩,⟨I,h3,O⟩,⟨U,R,r2⟩,Rep.mono C P,Rep.mono C hq⟩
theorem aA.mono{W W':Mo}(C:Carry W W'):∀ {l:List V} {x:List Value},aA B W l x->aA B W' l x
 |[],[],_=>trivial
 |[],_::_,h=>h.elim
 |_::_,[],h=>h.elim
 |v::r,x::q,h=>by exact⟨Rep.mono C h.1,aA.mono C h.2⟩
end
theorem aA.length{W:Mo}:∀ {l:List V} {x:List Value},aA B W l x->l.length=x.length
 |[],[],_=>rfl
 |[],_::_,h=>h.elim
 |_::_,[],h=>h.elim
 |v::r,x::q,h=>by simp [aA.length h.2]
theorem aA.get{W:Mo}:∀ {l:List V} {xs:List Value},aA B W l xs->∀ {j:Nat} {v:V},l[j]?=some v->∃x,xs[j]?=some x/\Rep B W v x:=by
 intro b
 induction b with
 |nil=>
  exact @λc d f g i=>match c,d,f,g,i with
  |[],_,j,v,h=>by exact nn h
  |_::_,h,_,_,_=>h.elim
 |cons _ _ a=>
  exact @λc d f g i=>match c,d,f,g,i with
  |[],h,_,_,_=>h.elim
  |x::q,h,0,u,e=>by simp at e;subst e;exact i12 x rfl h.1
  |x::q,h,j+1,u,e=>by simp at e;simpa using a h.2 e
theorem aA.append{W:Mo}:∀ {l:List V} {xs:List Value} {m:List V} {ys:List Value},aA B W l xs->aA B W m ys->aA B W (l++m) (xs++ys):=by
 intro b
 induction b with
 |nil=>
  exact @λc d e f g=>match c,d,e,f,g with
  |[],_,_,_,h=>h
  |_::_,_,_,h,_=>h.elim
 |cons _ _ a=>
  exact @λc d e f g=>match c,d,e,f,g with
  |[],_,_,h,_=>h.elim
  |x::q,_,_,h,h'=>⟨h.1,a h.2 h'⟩
mutual
theorem Rep.key{W:Mo}:∀ {n:Nat} {v:V} {x:Value},aO n v=true->Rep B W v x->aG W.h v x
 |_,.int _,_,_,h=>h
 |_,.str _,_,_,h=>h
 |n+1,.tup l,x,k,h=>by
  simp only [aO,List.all_eq_true] at k
  obtain⟨a,b,m,rfl,e,c,f,d⟩:=h
  exact⟨a,b,m,rfl,c,aA.key k d⟩
 |0,.tup l,x,k,h=>by simp [aO] at k
 |_,.undef,_,k,_=>by simp [aO] at k
 |_,.none,_,k,_=>by simp [aO] at k
 |_,.bool _,_,k,_=>by simp [aO] at k
 |_,.lst _,_,k,_=>by simp [aO] at k
 |_,.kd _ _,_,k,_=>by simp [aO] at k
 |_,.rng _,_,k,_=>by simp [aO] at k
 |_,.ref _,_,k,_=>by simp [aO] at k
 |_,.tmp _,_,k,_=>by simp [aO] at k
 |_,.clo _ _,_,k,_=>by simp [aO] at k
theorem aA.key{W:Mo}:∀ {n:Nat} {l:List V} {x:List Value},(∀v∈l,aO n v=true)->aA B W l x->cA W.h l x
 |_,[],[],_,_=>trivial
 |_,[],_::_,_,h=>h.elim
 |_,_::_,[],_,h=>h.elim
 |n,v::r,x::q,k,h=>by exact⟨Rep.key (k v (by simp)) h.1,aA.key (λu a=>k u (by simp [a])) h.2⟩
end
theorem bR.mono{W W':Mo}(C:Carry W W'){o:Ob}{a d:Addr}(h:bR B W o a d)(ha:∀x,W.h.get? a=some x->W'.h.get? a=some x)
  (hd:o.isInst=true->∀x,W.h.get? d=some x->W'.h.get? d=some x):bR B W' o a d:=by
 cases o with
 |list l=>
  obtain⟨g,⟨k,r⟩,u,w⟩:=h
  exact⟨g,⟨k,ha _ r⟩,u,w.mono C⟩
 |idict l=>
  obtain⟨e,n,f,j,i⟩:=h
  exact⟨e,gn n ha,f,j,i.mono C⟩
 |sdict l=>
  obtain⟨e,n,f,j,i⟩:=h
  exact⟨e,gn n ha,f,j,i.mono C⟩
 |tdict l=>
  refine cp λ_ v=>?_
  obtain⟨F,⟨y,A,t,r,D,s,q,m,z⟩,f,j,i,p⟩:=h
  refine v ?_
  refine⟨F,i36 y A t (ha _ r) D s q (λx b=>⟨?_,(m x b).2⟩) z,f,j,i.mono C,λx b=>(p x b).mono C⟩
  exact((p x b).mono C).key (m x b).2
 |inst c fs=>
  obtain⟨n,e,f,j,i,p⟩:=h
  exact⟨ha _ n,e,gn f (hd rfl),j,i,p.mono C⟩
theorem Inv.ext{W:Mo}(I:Inv B W){sh':Shared}{F':Addr->Prop}(hk:∀b o,W.h.get? b=some o->sh'.heap.get? b=some o)
  (hF:∀b,F' b->W.g.F b\/(W.h.get? b=none/\(sh'.heap.get? b).isSome)) (hF2:∀b,W.g.F b->F' b) (hs:Sm W.sh sh'):
  Inv B ⟨W.s,⟨W.g.adr,F'⟩,sh'⟩/\Step (λ_=>False) W ⟨W.s,⟨W.g.adr,F'⟩,sh'⟩:=by
 have a:∀b,(W.h.get? b).isSome->(sh'.heap.get? b).isSome:=λb h=>by
  obtain⟨o,d⟩:=Option.isSome_iff_exists.mp h;refine(hk b o d)▸?_;rfl
 have c:Step (λ_=>False) W ⟨W.s,⟨W.g.adr,F'⟩,sh'⟩:=
  ⟨Nat.le_refl _,Nat.le_refl _,λ_ h=>h,λ_ _ _=>rfl,hF2,λb h=>(hF b h).imp id (·.1),λ_ _ h=>.inl h,λb o e _ _=>hk b o e,a,hs⟩
 have C:Carry W ⟨W.s,⟨W.g.adr,F'⟩,sh'⟩:=c.carry I λ_ q=>q.elim
 refine⟨⟨λb o e=>hk b o (I.base b o e),λb h=>?_,λb h=>?_,λi o e=>(I.perm i o e).mono C (λx=>hk _ x) λ_ x=>hk _ x,λi o e=>⟨(I.tmps i o e).1.mono C (λx=>hk _ x) λ_ x=>hk _ x,(I.tmps i o e).2⟩,
  λk i h=>hF2 _ (I.inF k i h),I.inj,I.nt⟩,c⟩
 ·rcases hF b h with q|q
  ·exact I.fresh b q
  ·cases e:B.h.get? b with
   |none=>rfl
   |some o=>replace q:=(I.base b o e)▸q;cases q.1
 ·rcases hF b h with q|q
  ·exact a b (I.fdom b q)
  ·exact q.2
theorem Inv.same{W:Mo}(I:Inv B W){sh':Shared}(h:sh'.heap=W.h)(hs:Sm W.sh sh'):Inv B ⟨W.s,W.g,sh'⟩/\Step (λ_=>False) W ⟨W.s,W.g,sh'⟩:=
 I.ext (F':=W.g.F) (λb o q=>by exact h▸q) (λb q=>.inl q) (λb q=>q) hs
theorem Inv.own{W:Mo}(I:Inv B W){L:Addr}{sh':Shared}(hL:Own W L)(hk:∀b o,b≠L->W.h.get? b=some o->sh'.heap.get? b=some o)(hd:(sh'.heap.get? L).isSome)(hs:Sm W.sh sh'):
  Inv B ⟨W.s,W.g,sh'⟩/\Step (λb=>b=L) W ⟨W.s,W.g,sh'⟩:=by
 have c:∀b,(W.h.get? b).isSome->(sh'.heap.get? b).isSome:=λb h=>by
  by_cases e:b=L
  ·exact e▸hd
  ·obtain⟨o,k⟩:=Option.isSome_iff_exists.mp h;refine(hk b o e k)▸?_;rfl
 have f:Step (λb=>b=L) W ⟨W.s,W.g,sh'⟩:=
  ⟨Nat.le_refl _,Nat.le_refl _,λ_ h=>h,λ_ _ _=>rfl,λ_ h=>h,λb h=>.inl h,λ_ _ h=>.inl h,λb o e _ j=>hk b o j e,c,hs⟩
 have C:Carry W ⟨W.s,W.g,sh'⟩:=f.carry I λb q=>q▸hL.1
 refine⟨⟨λb o e=>hk b o (λq=>?_) (I.base b o e),I.fresh,λb h=>c b (I.fdom b h),λi o e=>?_,λi o e=>⟨?_,(I.tmps i o e).2⟩,I.inF,I.inj,I.nt⟩,f⟩
 ·have:=I.fresh L hL.1;rw [q] at e;rw [e] at this;exact ns this
 ·have d:i<W.s.perm.length:=(List.getElem?_eq_some_iff.mp e).1
  refine(I.perm i o e).mono C (λx=>hk _ x (hL.2.2 0 i d)) λa x=>hk _ x (hL.2.2 1 i ?_)
  cases o<;>first|exact ff a|exact nn a|exact a.elim|skip
  exact i21 _ _ e
 ·have d:i<W.s.tmps.length:=(List.getElem?_eq_some_iff.mp e).1
  exact(I.tmps i o e).1.mono C (λx=>hk _ x (hL.2.2 2 i d)) λa=>by replace a:=((I.tmps i o e).2)▸a;exact ff a
end
section
variable {prog:Program}{w:World}{B:Base prog w}
theorem getElem?_set_ne'{α:Type}{l:List α}{i j:Nat}{a:α}(h:j≠i):(l.set i a)[j]?=l[j]?:=by
 simp [Ne.symm h]
theorem Inv.putPerm{W:Mo}(I:Inv B W){i:Nat}{o o':Ob}(hi:W.s.perm[i]?=some o)(hin:o'.isInst=o.isInst)(hcl:o'.clean=true){a:Addr}
  (ha:a=W.g.adr 0 i\/(o.isInst=true/\a=W.g.adr 1 i)) {sh':Shared} (hk:∀b x,b≠a->W.h.get? b=some x->sh'.heap.get? b=some x) (hd:(sh'.heap.get? a).isSome)
  (hs:Sm W.sh sh') (R:Carry W ⟨{W.s with perm:=W.s.perm.set i o'},W.g,sh'⟩->bR B ⟨{W.s with perm:=W.s.perm.set i o'},W.g,sh'⟩ o' (W.g.adr 0 i) (W.g.adr 1 i)):
  Inv B ⟨{W.s with perm:=W.s.perm.set i o'},W.g,sh'⟩/\Step (λ_=>False) W ⟨{W.s with perm:=W.s.perm.set i o'},W.g,sh'⟩:=by
 have u:i<W.s.perm.length:=(List.getElem?_eq_some_iff.mp hi).1
 have A:∀j,live W.s 1 j->live ({W.s with perm:=W.s.perm.set i o'}:S) 1 j:=by
  intro j n
  refine x21 n λc M t=>?_
  by_cases e:j=i
  ·subst e
   rw [hi] at t
   injection t with t
   subst t
   cases o'<;>first|exact ff hin|exact nn hin|exact hin.elim|skip
   exact i21 _ _ (List.getElem?_set_self u)
  ·exact i21 c M (by show(W.s.perm.set i o')[j]?=_;rw [getElem?_set_ne' e];exact t)
 have p:∀k j,live ({W.s with perm:=W.s.perm.set i o'}:S) k j->live W.s k j
  |0,j,h=>by simpa [live] using h
  |1,j,⟨c,M,t⟩=>by
   by_cases e:j=i
   ·refine cp λ_ L=>?_
    subst e
    have:(W.s.perm.set j o')[j]?=some o':=by simp [u]
    simp only [this] at t
    injection t with t
    subst t
    refine L ?_
    cases o<;>simp [Ob.isInst] at hin
    exact i21 _ _ hi
   ·exact i21 c M (by exact(getElem?_set_ne' e)▸t)
  |2,j,h=>h
  |_+3,_,h=>h.elim
 have w:∃k j,live W.s k j/\W.g.adr k j=a:=by
  rcases ha with rfl|⟨v,rfl⟩
  ·exact i22 0 i u rfl
  ·cases o<;>first|exact ff v|exact nn v|exact v.elim|skip
   exact i22 1 i ⟨_,_,hi⟩ rfl
 have H:∀b,(W.h.get? b).isSome->(sh'.heap.get? b).isSome:=λb h=>by
  by_cases e:b=a
  ·exact e▸hd
  ·obtain⟨x,z⟩:=Option.isSome_iff_exists.mp h;refine(hk b x e z)▸?_;rfl
 have P:Step (λ_=>False) W ⟨{W.s with perm:=W.s.perm.set i o'},W.g,sh'⟩:=
  ⟨by simp,Nat.le_refl _,A,λ_ _ _=>rfl,λ_ h=>h,λb h=>.inl h,λk j h=>.inl (p k j h),
   λb x e D _=>hk b x (λq=>by obtain⟨k,j,v,K⟩:=w;exact D k j v (K.trans q.symm)) e,H,hs⟩
 have C:=P.carry I λ_ q=>q.elim
 have r:∀k j,live W.s k j->(k≠0/\k≠1\/j≠i)->W.g.adr k j≠a:=by
  intro k j D F q
  rcases ha with rfl|⟨v,rfl⟩
  ·refine cp λ_ L=>?_
   refine x02 (I.inj k j 0 i D u q) λd l=>?_
   subst d
   subst l
   refine L ?_
   simp at F
  ·have N:live W.s 1 i:=by
    cases o<;>first|exact ff v|exact nn v|exact v.elim|skip
    exact i21 _ _ hi
   refine x02 (I.inj k j 1 i D N q) λm f=>?_
   try clear D;try clear hd
   subst m
   subst f
   simp at F
 refine⟨⟨λb x e=>hk b x (λq=>?_) (I.base b x e),I.fresh,λb h=>H b (I.fdom b h),λj x e=>?_,λj x e=>⟨?_,(I.tmps j x e).2⟩,λk j h=>I.inF k j (p k j h),
  λk j O Q h T=>I.inj k j O Q (p k j h) (p O Q T),
  λx z=>z.elim (λh=>(List.mem_or_eq_of_mem_set h).elim (λq=>I.nt x (.inl q)) (λq=>q▸hcl)) λh=>I.nt x (.inr h)⟩,P⟩
 ·refine x22 w λk j v K=>?_
  have:=I.fresh _ (I.inF k j v)
  simp only [K,<-q,e] at this;exact ns this
 ·by_cases ej:j=i
  ·subst ej
   have:(W.s.perm.set j o')[j]?=some o':=by simp [u]
   simp only [this] at e
   injection e with e
   subst e
   exact R C
  ·have J:W.s.perm[j]?=some x:=by exact(getElem?_set_ne' ej)▸e
   have t:j<W.s.perm.length:=(List.getElem?_eq_some_iff.mp J).1
   refine(I.perm j x J).mono C (λy=>hk _ y (r 0 j t (.inr ej))) λz y=>hk _ y (r 1 j ?_ (.inr ej))
   cases x<;>first|exact ff z|exact nn z|exact z.elim|skip
   exact i21 _ _ J
 ·have t:j<W.s.tmps.length:=(List.getElem?_eq_some_iff.mp e).1
  exact(I.tmps j x e).1.mono C (λy=>hk _ y (r 2 j t (.inl ⟨by decide,by decide⟩))) λz=>by rw [(I.tmps j x e).2] at z;exact ff z
theorem Inv.putTmp{W:Mo}(I:Inv B W){i:Nat}{o o':Ob}(hi:W.s.tmps[i]?=some o)(hin:o'.isInst=false)(hcl:o'.clean=true){sh':Shared}
  (hk:∀b x,b≠W.g.adr 2 i->W.h.get? b=some x->sh'.heap.get? b=some x) (hd:(sh'.heap.get? (W.g.adr 2 i)).isSome)
  (hs:Sm W.sh sh') (R:Carry W ⟨{W.s with tmps:=W.s.tmps.set i o'},W.g,sh'⟩->bR B ⟨{W.s with tmps:=W.s.tmps.set i o'},W.g,sh'⟩ o' (W.g.adr 2 i) 0):
  Inv B ⟨{W.s with tmps:=W.s.tmps.set i o'},W.g,sh'⟩/\Step (λ_=>False) W ⟨{W.s with tmps:=W.s.tmps.set i o'},W.g,sh'⟩:=by
 have c:i<W.s.tmps.length:=(List.getElem?_eq_some_iff.mp hi).1
 have a:∀k j,live ({W.s with tmps:=W.s.tmps.set i o'}:S) k j↔live W.s k j
  |0,j=>Iff.rfl
  |1,j=>Iff.rfl
  |2,j=>by simp [live]
  |_+3,_=>Iff.rfl
 have l:∀b,(W.h.get? b).isSome->(sh'.heap.get? b).isSome:=λb h=>by
  by_cases e:b=W.g.adr 2 i
  ·exact e▸hd
  ·obtain⟨x,d⟩:=Option.isSome_iff_exists.mp h;refine(hk b x e d)▸?_;rfl
 have r:Step (λ_=>False) W ⟨{W.s with tmps:=W.s.tmps.set i o'},W.g,sh'⟩:=
  ⟨Nat.le_refl _,by simp,λj h=>h,λ_ _ _=>rfl,λ_ h=>h,λb h=>.inl h,λk j h=>.inl ((a k j).mp h),
   λb x e n _=>hk b x (λq=>n 2 i c q.symm) e,l,hs⟩
 have C:=r.carry I λ_ q=>q.elim
 refine⟨⟨λb x e=>hk b x (λq=>?_) (I.base b x e),I.fresh,λb h=>l b (I.fdom b h),λj x e=>?_,λj x e=>?_,λk j h=>I.inF k j ((a k j).mp h),
  λk j t u h v=>I.inj k j t u ((a k j).mp h) ((a t u).mp v),
  λx d=>d.elim (λh=>I.nt x (.inl h)) λh=>(List.mem_or_eq_of_mem_set h).elim (λq=>I.nt x (.inr q)) (λq=>q▸hcl)⟩,r⟩
 ·have:=I.fresh _ (I.inF 2 i c)
  simp only [<-q,e] at this;exact ns this
 ·have p:j<W.s.perm.length:=(List.getElem?_eq_some_iff.mp e).1
  refine(I.perm j x e).mono C (λy=>hk _ y λq=>?_) λd y=>hk _ y λq=>?_
  ·have:=(I.inj 0 j 2 i p c q).1;lia
  ·have n:live W.s 1 j:=by
    cases x<;>first|exact ff d|exact nn d|exact d.elim|skip
    exact i21 _ _ e
   have:=(I.inj 1 j 2 i n c q).1;lia
 ·by_cases ej:j=i
  ·subst ej
   have:(W.s.tmps.set j o')[j]?=some o':=by simp [c]
   simp only [this] at e
   injection e with e
   subst e
   exact⟨R C,hin⟩
  ·have m:W.s.tmps[j]?=some x:=by exact(getElem?_set_ne' ej)▸e
   have p:j<W.s.tmps.length:=(List.getElem?_eq_some_iff.mp m).1
   have f:=(I.tmps j x m).2
   exact⟨(I.tmps j x m).1.mono C (λy=>hk _ y λq=>ej (I.inj 2 j 2 i p c q).2) (λd=>absurd (f.symm.trans d) (by decide)),f⟩
noncomputable def aL(g:Gh)(k0 n:Nat)(a d:Addr):Nat->Nat->Addr:=λk j=>if k=k0/\j=n then a else if k=1/\k0=0/\j=n then d else g.adr k j
theorem Inv.newPerm{W:Mo}(I:Inv B W){o:Ob}(hcl:o.clean=true){a d:Addr}{sh':Shared}(hk:∀b x,W.h.get? b=some x->sh'.heap.get? b=some x)
  (ha:W.h.get? a=none) (hd:(sh'.heap.get? a).isSome) (hdi:o.isInst=true->W.h.get? d=none/\(sh'.heap.get? d).isSome/\a≠d) {F':Addr->Prop}
  (hF:∀b,F' b↔ (W.g.F b\/b=a\/(o.isInst=true/\b=d)))
  (hs:Sm W.sh sh') (R:Carry W ⟨{W.s with perm:=W.s.perm++[o]},⟨aL W.g 0 W.s.perm.length a d,F'⟩,sh'⟩->bR B ⟨{W.s with perm:=W.s.perm++[o]},⟨aL W.g 0 W.s.perm.length a d,F'⟩,sh'⟩ o a d):
  Inv B ⟨{W.s with perm:=W.s.perm++[o]},⟨aL W.g 0 W.s.perm.length a d,F'⟩,sh'⟩/\
   Step (λ_=>False) W ⟨{W.s with perm:=W.s.perm++[o]},⟨aL W.g 0 W.s.perm.length a d,F'⟩,sh'⟩:=by
 have w:∀b,(W.h.get? b).isSome->(sh'.heap.get? b).isSome:=λb h=>by
  obtain⟨x,u⟩:=Option.isSome_iff_exists.mp h;refine(hk b x u)▸?_;rfl
 have O:∀k j,live W.s k j->live ({W.s with perm:=W.s.perm++[o]}:S) k j
  |0,j,h=>by show j<(W.s.perm++[o]).length;simp only [List.length_append];exact Nat.lt_of_lt_of_le h (Nat.le_add_right _ _)
  |1,j,⟨c,z,r⟩=>i21 c z (by show(W.s.perm++[o])[j]?=_;exact(List.getElem?_append_left (List.getElem?_eq_some_iff.mp r).1)▸r)
  |2,j,h=>h
  |_+3,_,h=>h.elim
 have l:∀k j,live W.s k j->aL W.g 0 W.s.perm.length a d k j=W.g.adr k j:=by
  intro k j h
  have v:k=0\/k=1->j≠W.s.perm.length:=by
   rintro(rfl|rfl)
   ·exact Nat.ne_of_lt h
   ·obtain⟨c,z,r⟩:=h;exact Nat.ne_of_lt (List.getElem?_eq_some_iff.mp r).1
  unfold aL
  rw [if_neg (λq=>v (.inl q.1) q.2),if_neg (λq=>v (.inr q.1) q.2.2)]
 have t:∀k j,live ({W.s with perm:=W.s.perm++[o]}:S) k j->live W.s k j\/(k=0/\j=W.s.perm.length)\/(k=1/\j=W.s.perm.length/\o.isInst=true)
  |0,j,h=>by
   have h:j<(W.s.perm++[o]).length:=h
   simp only [List.length_append] at h
   rcases Nat.lt_succ_iff_lt_or_eq.mp h with q|q
   ·exact .inl q
   ·exact .inr (.inl ⟨rfl,q⟩)
  |1,j,⟨c,z,r⟩=>by
   have r:(W.s.perm++[o])[j]?=_:=r
   refine(Nat.lt_or_ge j W.s.perm.length).elim (λq=>?_) (λq=>?_)
   ·replace r:=(List.getElem?_append_left q)▸r;exact .inl (i21 c z r)
   ·replace r:=(List.getElem?_append_right q)▸r
    have:j - W.s.perm.length=0:=by
     cases e:j - W.s.perm.length with
     |zero=>rfl
     |succ n=>rw [e] at r;exact nn r
    replace r:=this▸r
    simp at r
    exact .inr (.inr (i03 rfl (by omega) (r▸rfl)))
  |2,j,h=>.inl h
  |_+3,_,h=>h.elim
 have m:aL W.g 0 W.s.perm.length a d 0 W.s.perm.length=a:=by simp [aL]
 have i:aL W.g 0 W.s.perm.length a d 1 W.s.perm.length=d:=by simp [aL]
 have H:Step (λ_=>False) W ⟨{W.s with perm:=W.s.perm++[o]},⟨aL W.g 0 W.s.perm.length a d,F'⟩,sh'⟩:=
  ⟨by simp,Nat.le_refl _,λj h=>O 1 j h,l,λb h=>(hF b).mpr (.inl h),λb h=>by
    rcases(hF b).mp h with q|q|⟨q,q'⟩
    ·exact .inl q
    ·exact .inr (q▸ha)
    ·exact .inr (q'▸(hdi q).1),
   λk j h=>by
    rcases t k j h with q|⟨rfl,rfl⟩|⟨rfl,rfl,q⟩
    ·exact .inl q
    ·exact .inr (by show W.h.get? (aL W.g 0 W.s.perm.length a d 0 W.s.perm.length)=none;rw [m];exact ha)
    ·exact .inr (by show W.h.get? (aL W.g 0 W.s.perm.length a d 1 W.s.perm.length)=none;rw [i];exact(hdi q).1),
   λb x e _ _=>hk b x e,w,hs⟩
 have C:=H.carry I λ_ q=>q.elim
 have f:∀k j,live W.s k j->W.g.adr k j≠a/\(o.isInst=true->W.g.adr k j≠d):=λk j h=>by
  have:=I.fdom _ (I.inF k j h)
  refine⟨λq=>?_,λN q=>?_⟩
  ·replace this:=ha▸q▸this;exact ff this
  ·replace this:=((hdi N).1)▸q▸this;exact ff this
 refine⟨⟨λb x e=>hk b x (I.base b x e),λb h=>?_,λb h=>?_,λj x e=>?_,λj x e=>⟨?_,(I.tmps j x e).2⟩,λk j h=>?_,λk j J K h L q=>?_,
  λx u=>u.elim (λh=>(List.mem_append.mp h).elim (λq=>I.nt x (.inl q)) λq=>by rw [List.mem_singleton] at q;exact q▸hcl) λh=>I.nt x (.inr h)⟩,H⟩
 ·rcases(hF b).mp h with q|q|⟨q,q'⟩
  ·exact I.fresh b q
  ·cases e:B.h.get? b with
   |none=>rfl
   |some x=>have:=I.base b x e;rw [q,ha] at this;exact nn this
  ·cases e:B.h.get? b with
   |none=>rfl
   |some x=>have:=I.base b x e;simp only [q',(hdi q).1] at this;exact nn this
 ·rcases(hF b).mp h with q|q|⟨q,q'⟩
  ·exact w b (I.fdom b q)
  ·exact q▸hd
  ·exact q'▸(hdi q).2.1
 ·have e:(W.s.perm++[o])[j]?=some x:=e
  refine(Nat.lt_or_ge j W.s.perm.length).elim (λq=>?_) (λq=>?_)
  ·replace e:=(List.getElem?_append_left q)▸e
   show bR B _ x (aL W.g 0 W.s.perm.length a d 0 j) (aL W.g 0 W.s.perm.length a d 1 j)
   refine(l 0 j q)▸?_
   by_cases u:x.isInst=true
   ·have M:live W.s 1 j:=by
     cases x<;>first|exact ff u|exact nn u|exact u.elim|skip
     exact i21 _ _ e
    exact(l 1 j M)▸(I.perm j x e).mono C (λy=>hk _ y) λ_ y=>hk _ y
   ·have:=(I.perm j x e).mono C (λy=>hk _ y) λA=>absurd A u
    cases x<;>first|exact this|exact absurd rfl u
  ·rw [List.getElem?_append_right q] at e
   have D:j - W.s.perm.length=0:=by
    cases e1:j - W.s.perm.length with
    |zero=>rfl
    |succ n=>rw [e1] at e;exact nn e
   rw [D] at e
   simp at e
   subst e
   have:j=W.s.perm.length:=by omega
   try clear D
   subst this
   show bR B _ o (aL W.g 0 W.s.perm.length a d 0 W.s.perm.length) (aL W.g 0 W.s.perm.length a d 1 W.s.perm.length)
   simp only [m,i]
   exact R C
 ·have r:j<W.s.tmps.length:=(List.getElem?_eq_some_iff.mp e).1
  exact(l 2 j r)▸(I.tmps j x e).1.mono C (λy=>hk _ y) λ_ y=>hk _ y
 ·rcases t k j h with q|⟨rfl,rfl⟩|⟨rfl,rfl,q⟩
  ·show F' (aL W.g 0 W.s.perm.length a d k j);exact(l k j q)▸(hF _).mpr (.inl (I.inF k j q))
  ·show F' (aL W.g 0 W.s.perm.length a d 0 W.s.perm.length);simp only [m];exact(hF _).mpr (.inr (.inl rfl))
  ·show F' (aL W.g 0 W.s.perm.length a d 1 W.s.perm.length);simp only [i];exact(hF _).mpr (.inr (.inr ⟨q,rfl⟩))
 ·have q:aL W.g 0 W.s.perm.length a d k j=aL W.g 0 W.s.perm.length a d J K:=q
  rcases t k j h with p|⟨rfl,rfl⟩|⟨rfl,rfl,p⟩<;>rcases t J K L with p'|⟨rfl,rfl⟩|⟨rfl,rfl,p'⟩
  ·replace q:=(l _ _ p')▸(l _ _ p)▸q;exact I.inj _ _ _ _ p p' q
  ·simp only [l _ _ p,m] at q;exact absurd q (f _ _ p).1
  ·simp only [l _ _ p,i] at q;exact absurd q ((f _ _ p).2 p')
  ·simp only [l _ _ p',m] at q;exact absurd q.symm (f _ _ p').1
  ·exact⟨rfl,rfl⟩
  ·simp only [m,i] at q;exact absurd q (hdi p').2.2
  ·simp only [l _ _ p',i] at q;exact absurd q.symm ((f _ _ p').2 p)
  ·simp only [m,i] at q;exact absurd q.symm (hdi p).2.2
  ·exact⟨rfl,rfl⟩
theorem Inv.newTmp{W:Mo}(I:Inv B W){o:Ob}(hin:o.isInst=false)(hcl:o.clean=true){a:Addr}{sh':Shared}(hk:∀b x,W.h.get? b=some x->sh'.heap.get? b=some x)
  (ha:W.h.get? a=none) (hd:(sh'.heap.get? a).isSome) {F':Addr->Prop} (hF:∀b,F' b↔ (W.g.F b\/b=a))
  (hs:Sm W.sh sh') (R:Carry W ⟨{W.s with tmps:=W.s.tmps++[o]},⟨aL W.g 2 W.s.tmps.length a 0,F'⟩,sh'⟩->bR B ⟨{W.s with tmps:=W.s.tmps++[o]},⟨aL W.g 2 W.s.tmps.length a 0,F'⟩,sh'⟩ o a 0):
  Inv B ⟨{W.s with tmps:=W.s.tmps++[o]},⟨aL W.g 2 W.s.tmps.length a 0,F'⟩,sh'⟩/\
   Step (λ_=>False) W ⟨{W.s with tmps:=W.s.tmps++[o]},⟨aL W.g 2 W.s.tmps.length a 0,F'⟩,sh'⟩:=by
 have r:∀b,(W.h.get? b).isSome->(sh'.heap.get? b).isSome:=λb h=>by
  obtain⟨x,m⟩:=Option.isSome_iff_exists.mp h;refine(hk b x m)▸?_;rfl
 have J:∀k j,live W.s k j->live ({W.s with tmps:=W.s.tmps++[o]}:S) k j
  |0,j,h=>h
  |1,j,h=>h
  |2,j,h=>by show j<(W.s.tmps++[o]).length;exact List.length_append▸Nat.lt_of_lt_of_le h (Nat.le_add_right _ _)
  |_+3,_,h=>h.elim
 have d:∀k j,live W.s k j->aL W.g 2 W.s.tmps.length a 0 k j=W.g.adr k j:=by
  intro k j h
  unfold aL
  rw [if_neg,if_neg (λq=>by cases q.2.1)]
  intro c
  obtain⟨rfl,rfl⟩:=c
  exact Nat.lt_irrefl _ h
 have l:∀k j,live ({W.s with tmps:=W.s.tmps++[o]}:S) k j->live W.s k j\/(k=2/\j=W.s.tmps.length)
  |0,j,h=>.inl h
  |1,j,h=>.inl h
  |2,j,h=>by
   have h:j<(W.s.tmps++[o]).length:=h
   simp only [List.length_append] at h
   rcases Nat.lt_succ_iff_lt_or_eq.mp h with q|q
   ·exact .inl q
   ·exact .inr ⟨rfl,q⟩
  |_+3,_,h=>h.elim
 have i:aL W.g 2 W.s.tmps.length a 0 2 W.s.tmps.length=a:=by simp [aL]
 have v:Step (λ_=>False) W ⟨{W.s with tmps:=W.s.tmps++[o]},⟨aL W.g 2 W.s.tmps.length a 0,F'⟩,sh'⟩:=
  ⟨Nat.le_refl _,by simp,λj h=>h,d,λb h=>(hF b).mpr (.inl h),λb h=>by
    refine((hF b).mp h).elim (λq=>?_) (λq=>?_)
    ·exact .inl q
    ·exact .inr (q▸ha),
   λk j h=>by
    rcases l k j h with q|⟨rfl,rfl⟩
    ·exact .inl q
    ·exact .inr (by show W.h.get? (aL W.g 2 W.s.tmps.length a 0 2 W.s.tmps.length)=none;rw [i];exact ha),
   λb x e _ _=>hk b x e,r,hs⟩
 have C:=v.carry I λ_ q=>q.elim
 have f:∀k j,live W.s k j->W.g.adr k j≠a:=λk j h q=>by
  have:=I.fdom _ (I.inF k j h)
  replace this:=ha▸q▸this;exact ff this
 refine⟨⟨λb x e=>hk b x (I.base b x e),λb h=>?_,λb h=>?_,λj x e=>?_,λj x e=>?_,λk j h=>?_,λk j w z h A q=>?_,
  λx m=>m.elim (λh=>I.nt x (.inl h)) λh=>(List.mem_append.mp h).elim (λq=>I.nt x (.inr q)) λq=>by rw [List.mem_singleton] at q;exact q▸hcl⟩,v⟩
 ·rcases(hF b).mp h with q|q
  ·exact I.fresh b q
  ·cases e:B.h.get? b with
   |none=>rfl
   |some x=>have:=I.base b x e;simp only [q,ha] at this;exact nn this
 ·rcases(hF b).mp h with q|q
  ·exact r b (I.fdom b q)
  ·exact q▸hd
 ·have H:j<W.s.perm.length:=(List.getElem?_eq_some_iff.mp e).1
  by_cases m:x.isInst=true
  ·have D:live W.s 1 j:=by
    cases x<;>first|exact ff m|exact nn m|exact m.elim|skip
    exact i21 _ _ e
   exact(d 1 j D)▸(I.perm j x e).mono C (λy=>hk _ y) λ_ y=>hk _ y
  ·have:=(I.perm j x e).mono C (λy=>hk _ y) λt=>absurd t m
   cases x<;>first|exact this|exact absurd rfl m
 ·have e:(W.s.tmps++[o])[j]?=some x:=e
  refine(Nat.lt_or_ge j W.s.tmps.length).elim (λq=>?_) (λq=>?_)
  ·replace e:=(List.getElem?_append_left q)▸e
   show bR B _ x (aL W.g 2 W.s.tmps.length a 0 2 j) 0/\_
   exact(d 2 j q)▸⟨(I.tmps j x e).1.mono C (λy=>hk _ y) λ_ y=>hk _ y,(I.tmps j x e).2⟩
  ·replace e:=(List.getElem?_append_right q)▸e
   have u:j - W.s.tmps.length=0:=by
    cases e1:j - W.s.tmps.length with
    |zero=>rfl
    |succ n=>rw [e1] at e;exact nn e
   replace e:=u▸e
   simp at e
   subst e
   have:j=W.s.tmps.length:=by omega
   try clear u;try clear e
   subst this
   show bR B _ o (aL W.g 2 W.s.tmps.length a 0 2 W.s.tmps.length) 0/\_
   rw [i]
   exact⟨R C,hin⟩
 ·rcases l k j h with q|⟨rfl,rfl⟩
  ·show F' (aL W.g 2 W.s.tmps.length a 0 k j);simp only [d k j q];exact(hF _).mpr (.inl (I.inF k j q))
  ·show F' (aL W.g 2 W.s.tmps.length a 0 2 W.s.tmps.length);simp only [i];exact(hF _).mpr (.inr rfl)
 ·have q:aL W.g 2 W.s.tmps.length a 0 k j=aL W.g 2 W.s.tmps.length a 0 w z:=q
  rcases l k j h with p|⟨rfl,rfl⟩<;>rcases l w z A with p'|⟨rfl,rfl⟩
  ·simp only [d _ _ p,d _ _ p'] at q;exact I.inj _ _ _ _ p p' q
  ·simp only [d _ _ p,i] at q;exact absurd q (f _ _ p)
  ·simp only [d _ _ p',i] at q;exact absurd q.symm (f _ _ p')
  ·exact⟨rfl,rfl⟩
end
structure AOk(A:Around)(n:Nat):Prop where
 handled:A.handled=none
 depth:A.depth+2*n+20<=900
 units:A.units+30*n+300<=9000
theorem AOk.u{A:Around}{n:Nat}(h:AOk A n){k:Nat}(hk:k<=300:=by decide):A.units+k<cLine:=by
 have:=h.units
 have:cLine=9900:=rfl
 lia
theorem AOk.u0{A:Around}{n:Nat}(h:AOk A n):A.units<cLine:=h.u (k:=0)
section
variable {prog:Program}{w:World}(B:Base prog w)
inductive Post{α:Type}(W:Mo)(s':S)(P:Mo->α->Prop)(a:α)(sh':Shared):Prop
 |mk (W':Mo) (e:W'.sh=sh') (s:W'.s=s') (I:Inv B W') (st:Step (λ_=>False) W W') (p:P W' a)
def am(A:Around)(W:Mo)(t:Sem Value)(v:V)(s':S):Prop:=
 wpAny (model prog w) A t (Post B W s' λW' val=>Rep B W' v val) (λ_ _=>False) W.sh
structure az(env:Env)(ctx:List (Str×Nat))(ks:List (Str×NameKind))(ρ:List V)(W:Mo):Prop where
 kind:env.scope.kind=.function
 names:env.scope.names=ks
 glob:env.globals=mainGlobals
 blt:env.builtins=builtinsNs
 loc:∃m,W.h.Ns env.locals m/\∀nm x,ctx.lookup nm=some x->ks.lookup nm=some .local ->lget ρ x≠ .undef->∃val,m nm=some val/\Rep B W (lget ρ x) val
 own:Own W env.locals
 cell:∀nm x,ctx.lookup nm=some x->ks.lookup nm=some .cell->∃c v0,env.cells.lookup nm=some c/\Own W c/\W.h.IsCell c v0/\(lget ρ x≠ .undef->∃val,v0=some val/\Rep B W (lget ρ x) val)
 free:∀nm x,ctx.lookup nm=some x->ks.lookup nm=some .free->∃c val,env.cells.lookup nm=some c/\W.h.IsCell c (some val)/\¬W.g.F c/\Rep B W (lget ρ x) val
 apart:∀nm nm' x x' c,ctx.lookup nm=some x->ctx.lookup nm'=some x'->ks.lookup nm=some .cell->ks.lookup nm'=some .cell->env.cells.lookup nm=some c->env.cells.lookup nm'=some c->nm=nm'
variable {B}
variable {A:Around}{n:Nat}{W:Mo}{env:Env}{ctx:List (Str×Nat)}{ks:List (Str×NameKind)}{ρ:List V}
theorem az.step{W':Mo}(E:az B env ctx ks ρ W)(I:Inv B W)(st:Step (λ_=>False) W W'):az B env ctx ks ρ W':=by
 have C:=st.carry I λ_ q=>q.elim
 refine⟨E.kind,E.names,E.glob,E.blt,?_,E.own.step st,?_,?_,E.apart⟩
 ·refine x12 E.loc λm d h=>?_
  refine x32 d λo y w i r=>?_
  refine i12 m ⟨o,y,w,E.own.keep st i,r⟩ (λk x g f j=>?_)
  refine x12 (h k x g f j) λe l t=>?_
  exact i12 e l (t.mono C)
 ·intro k x g f
  refine x24 (E.cell k x g f) λc v j l a p=>?_
  refine x12 a λo i s=>?_
  refine i24 c v j (l.step st) ⟨o,l.keep st i,s⟩ (λz=>?_)
  refine x12 (p z) λe u n=>?_
  exact i12 e u (n.mono C)
 ·intro k x g f
  refine x24 (E.free k x g f) λc e j b t p=>?_
  refine x12 b λo i s=>?_
  refine x02 (C.fz _ _ t i) λu n=>?_
  exact i24 c e j ⟨o,u,s⟩ n (p.mono C)
theorem Post.same{α:Type}{P:Mo->α->Prop}{a:α}{sh':Shared}(I:Inv B W)(h1:sh'.heap=W.sh.heap)(h2:sh'.gens=W.sh.gens)(h3:sh'.os=W.sh.os)(h:∀W',W'.s=W.s->Carry W W'->P W' a):Post B W W.s P a sh':=by
 refine x02 (I.same h1 ⟨h2,h3⟩) λc b=>?_
 exact⟨⟨W.s,W.g,sh'⟩,rfl,rfl,c,b,h _ rfl (b.carry I λ_ q=>q.elim)⟩
theorem Post.keep{v:V}{a:Value}{sh':Shared}(I:Inv B W)(h1:sh'.heap=W.sh.heap)(h2:sh'.gens=W.sh.gens)(h3:sh'.os=W.sh.os)(h:Rep B W v a):Post B W W.s (λW' x=>Rep B W' v x) a sh':=
 Post.same I h1 h2 h3 λ_ _ C=>h.mono C
theorem Post.here{α:Type}{P:Mo->α->Prop}{a:α}(I:Inv B W)(h:P W a):Post B W W.s P a W.sh:=⟨W,rfl,rfl,I,.refl W,h⟩
theorem Post.trans{α:Type}{P:Mo->α->Prop}{W':Mo}{sh':Shared}{s':S}{a:α}(st:Step (λ_=>False) W W')(h:Post B W' s' P a sh'):Post B W s' P a sh':=by
 obtain⟨b,d,f,c,g,e⟩:=h
 exact⟨b,d,f,c,st.trans g,e⟩
theorem Post.imp{α:Type}{P P':Mo->α->Prop}{s':S}{a:α}{sh':Shared}(h:Post B W s' P a sh')(k:∀W',Step (λ_=>False) W W'->P W' a->P' W' a):Post B W s' P' a sh':=by
 obtain⟨W',e,f,c,b,d⟩:=h
 exact⟨W',e,f,c,b,k W' b d⟩
theorem wq{α:Type}{t:Sem α}{s₁:S}{P:Mo->α->Prop}{Q:α->Shared->Prop}(I:Inv B W)(h:wpAny (model prog w) A t (Post B W s₁ P) (λ_ _=>False) W.sh)
  (k:∀a W',W'.s=s₁->Inv B W'->Step (λ_=>False) W W'->Carry W W'->P W' a->Q a W'.sh):wpAny (model prog w) A t Q (λ_ _=>False) W.sh:=
 wpAny_mono h (λa i ⟨W',g,c,d,b,f⟩=>g▸k a W' c d b (b.carry I λ_ q=>q.elim) f) λ_ _ e=>e
theorem wt{α:Type}{t:Sem α}{s':S}{P:Mo->α->Prop}{W':Mo}(st:Step (λ_=>False) W W')
  (h:wpAny (model prog w) A t (Post B W' s' P) (λ_ _=>False) W'.sh):wpAny (model prog w) A t (Post B W s' P) (λ_ _=>False) W'.sh:=
 wpAny_mono h (λ_ _ x=>x.trans st) λ_ _ e=>e
theorem Post.push{P:Mo->Value->Prop}{o:Obj}{sh':Shared}(I:Inv B W)(hfree:o.isFreed=false)(h1:sh'.heap=W.h.push o)(h2:sh'.gens=W.sh.gens)(h3:sh'.os=W.sh.os)
  (h:∀W',W'.s=W.s->W'.h=W.h.push o->W'.g=W.g->Inv B W'->Carry W W'->W'.h.get? W.h.objs.size=some o->¬W'.g.F W.h.objs.size->P W' (.ref W.h.objs.size)):
  Post B W W.s P (.ref W.h.objs.size) sh':=by
 have e:∀b x,W.h.get? b=some x->sh'.heap.get? b=some x:=λb x q=>h1▸Heap.get?_push_of_some o q
 refine x02 (I.ext (sh':=sh') (F':=W.g.F) e (λb h=>.inl h) (λb h=>h) ⟨h2,h3⟩) λc a=>?_
 refine⟨⟨W.s,⟨W.g.adr,W.g.F⟩,sh'⟩,rfl,rfl,c,a,?_⟩
 refine h _ rfl h1 rfl c (a.carry I λ_ q=>q.elim) (by show sh'.heap.get? _=_;exact h1▸Heap.get?_push_size _ hfree) λd=>?_
 obtain⟨x,f⟩:=Option.isSome_iff_exists.mp (I.fdom _ d)
 exact Nat.lt_irrefl _ (Heap.lt_size f)
noncomputable def yv(k:Bool->Bool)(x:Value):Bool:=if h:x.ctorIdx=3 then Value.bool.elim (motive:=λ_=>Bool) x h λb=>k b else false
theorem uv{k:Bool->Bool}{x:Value}(h:yv k x=true):∃b,x=.bool b/\k b=true:=
 (dB h).elim λh q=>
 Value.bool.elim x h (λb _ q=>i12 b rfl q) h q
noncomputable def y0(k:Int->Bool)(x:Value):Bool:=if h:x.ctorIdx=4 then Value.int.elim (motive:=λ_=>Bool) x h λi _=>k i else false
theorem rU{k:Int->Bool}{x:Value}(h:y0 k x=true):∃i t,x=.int i t/\k i=true:=
 (dB h).elim λh q=>
 Value.int.elim x h (λi t _ q=>i22 i t rfl q) h q
noncomputable def yZ(k:Str->Bool)(x:Value):Bool:=if h:x.ctorIdx=6 then Value.str.elim (motive:=λ_=>Bool) x h λs _=>k s else false
theorem rT{k:Str->Bool}{x:Value}(h:yZ k x=true):∃s t,x=.str s t/\k s=true:=
 (dB h).elim λh q=>
 Value.str.elim x h (λs t _ q=>i22 s t rfl q) h q
noncomputable def ut(k:String->Bool)(x:Value):Bool:=if h:x.ctorIdx=8 then Value.type.elim (motive:=λ_=>Bool) x h λn=>k n else false
theorem nG{k:String->Bool}{x:Value}(h:ut k x=true):∃n,x=.type n/\k n=true:=
 (dB h).elim λh q=>
 Value.type.elim x h (λn _ q=>i12 n rfl q) h q
noncomputable def pD(k:Addr->Bool)(x:Value):Bool:=if h:x.ctorIdx=10 then Value.ref.elim (motive:=λ_=>Bool) x h λa=>k a else false
theorem fZ{k:Addr->Bool}{x:Value}(h:pD k x=true):∃a,x=.ref a/\k a=true:=
 (dB h).elim λh q=>
 Value.ref.elim x h (λa _ q=>i12 a rfl q) h q
noncomputable def Ad(k:Array Value->Bool)(x:Data):Bool:=if h:x.ctorIdx=2 then Data.seq.elim (motive:=λ_=>Bool) x h λa _=>k a else false
theorem sT{k:Array Value->Bool}{x:Data}(h:Ad k x=true):∃a n,x=.seq a n/\k a=true:=
 (dB h).elim λh q=>
 Data.seq.elim x h (λa n _ q=>i22 a n rfl q) h q
noncomputable def yR(k:Array DictEntry->Bool)(x:Data):Bool:=if h:x.ctorIdx=3 then Data.dict.elim (motive:=λ_=>Bool) x h λa _=>k a else false
theorem wC{k:Array DictEntry->Bool}{x:Data}(h:yR k x=true):∃a n,x=.dict a n/\k a=true:=
 (dB h).elim λh q=>
 Data.dict.elim x h (λa n _ q=>i22 a n rfl q) h q
noncomputable def yV(k:Bool->Bool)(x:Const):Bool:=if h:x.ctorIdx=1 then Const.bool.elim (motive:=λ_=>Bool) x h λb=>k b else false
theorem wI{k:Bool->Bool}{x:Const}(h:yV k x=true):∃b,x=.bool b/\k b=true:=
 (dB h).elim λh q=>
 Const.bool.elim x h (λb _ q=>i12 b rfl q) h q
noncomputable def Ae(k:Int->Bool)(x:Const):Bool:=if h:x.ctorIdx=2 then Const.int.elim (motive:=λ_=>Bool) x h λi=>k i else false
theorem s7{k:Int->Bool}{x:Const}(h:Ae k x=true):∃i,x=.int i/\k i=true:=
 (dB h).elim λh q=>
 Const.int.elim x h (λi _ q=>i12 i rfl q) h q
noncomputable def B6(k:Str->Bool)(x:Const):Bool:=if h:x.ctorIdx=5 then Const.str.elim (motive:=λ_=>Bool) x h λs=>k s else false
theorem yl{k:Str->Bool}{x:Const}(h:B6 k x=true):∃s,x=.str s/\k s=true:=
 (dB h).elim λh q=>
 Const.str.elim x h (λs _ q=>i12 s rfl q) h q
noncomputable def oTy(T:String)(k:Data->Bool)(o:Option Obj):Bool:=o.elim false λob=>ut (λn=>n==T) ob.cls&&ob.dict.isNone&&ob.slots.isEmpty&&k ob.data
theorem vy{T:String}{k:Data->Bool}{o:Option Obj}(h:oTy T k o=true):∃d,o=some ⟨.type T,none,d, #[]⟩/\k d=true:=by
 cases o with
 |none=>exact ff h
 |some ob=>
  obtain⟨c,j,d,i⟩:=ob
  refine z4 (b4 h) λb e g f=>?_
  refine x12 (nG b) λn a b=>?_
  subst a
  cases eq_of_beq b
  cases Option.isNone_iff_eq_none.mp e
  cases Array.isEmpty_iff.mp g
  exact i12 d rfl f
mutual
noncomputable def qS(K:Frag):V->Value->Bool
 |.none=>λx=>Nat.beq x.ctorIdx 0
 |.bool b=>yv λc=>b==c
 |.int i=>y0 λj=>i==j
 |.str s=>yZ λt=>seqb s t
 |.tup l=>pD λa=>oTy "tuple" (Ad λits=>decide (l.length<=lim)&&lq K l its.toList) (K.lookup a)
 |.kd ks vs=>pD λa=>oTy "dict" (yR λes=>a !=sysModules&&v7 ks es.toList&&decide ks.Nodup&&lq K vs (es.toList.map (·.val))) (K.lookup a)
 |.undef=>λ_=>false
 |.lst _=>λ_=>false
 |.rng _=>λ_=>false
 |.ref _=>λ_=>false
 |.tmp _=>λ_=>false
 |.clo _ _=>λ_=>false
noncomputable def lq(K:Frag):List V->List Value->Bool
 |[],xs=>xs.isEmpty
 |v::r,xs=>match xs with|x::q=>qS K v x&&lq K r q|[]=>false
noncomputable def v7:List Int->List DictEntry->Bool
 |[],es=>es.isEmpty
 |k::r,es=>match es with|e::q=>y0 (λi=>i==k) e.key&&e.hash==hashInt k&&v7 r q|[]=>false
end
theorem kc:∀ {ks:List Int} {es:List DictEntry},v7 ks es=true->(∀e∈es,∃k,Value.isInt k e.key=true/\e.hash=hashInt k)/\Pairs (intKind prog w) es (ks.zip (es.map (·.val)))/\ks.length=es.length
 |[],es,h=>by
  cases List.isEmpty_iff.mp h
  exact⟨λ_ h=>(nomatch h),.nil,rfl⟩
 |k::r,[],h=>ff h
 |k::r,e::q,h=>by
  refine z3 (b3 h) λl d g=>?_
  refine x03 (kc g) λn f j=>?_
  have c:Value.isInt k e.key=true:=by
   refine x22 (rU l) λi t m o=>?_
   exact m▸o
  refine i03 (λx b=>?_) (.cons c rfl f) (congrArg Nat.succ j)
  refine(List.mem_cons.mp b).elim (λa=>?_) (λb=>?_)
  ·subst a
   exact i12 k c (eq_of_beq d)
  ·exact n x b
theorem Inv.notF(I:Inv B W){a:Addr}{o:Obj}(h:B.K.lookup a=some o):¬W.g.F a/\W.h.get? a=some o:=by
 have b:=B.inK _ _ h
 refine⟨λq=>?_,I.base _ _ b⟩
 rw [I.fresh a q] at b
 exact nn b
mutual
theorem nZ(I:Inv B W):∀ {v:V} {x:Value},qS B.K v x=true->Rep B W v x
 |.none,x,h=>Value.none.elim (motive:=λx=>Rep B W .none x) x (Nat.eq_of_beq_eq_true h) rfl
 |.bool b,x,h=>by obtain⟨c,rfl,h⟩:=uv h;exact congrArg _ (eq_of_beq h).symm
 |.int i,x,h=>by obtain⟨c,t,rfl,h⟩:=rU h;exact⟨t,by rw [eq_of_beq h]⟩
 |.str i,x,h=>by obtain⟨c,t,rfl,h⟩:=rT h;exact⟨t,by rw [aH.mp h]⟩
 |.tup l,x,h=>by
  obtain⟨a,rfl,h⟩:=fZ h
  replace h:=vy h
  obtain⟨d,k,h⟩:=h
  obtain⟨q,n,rfl,h⟩:=sT h
  obtain⟨u,o⟩:=b2 h
  obtain⟨p,m⟩:=I.notF k
  exact⟨a,q,n,rfl,p,m,of_decide_eq_true u,eL I o⟩
 |.kd ks vs,x,h=>by
  obtain⟨a,rfl,h⟩:=fZ h
  replace h:=vy h
  obtain⟨d,k,h⟩:=h
  obtain⟨f,n,rfl,h⟩:=wC h
  obtain⟨D,j,g,o⟩:=b4 h
  obtain⟨p,m⟩:=I.notF k
  obtain⟨z,C,A⟩:=kc (prog:=prog) (w:=w) j
  have r:ks.length=(f.toList.map (·.val)).length:=by rw [List.length_map];exact A
  have s:(ks.zip (f.toList.map (·.val))).map (·.1)=ks:=List.map_fst_zip (Nat.le_of_eq r)
  refine⟨a,ks.zip (f.toList.map (·.val)),rfl,p,beq_eq_false_iff_ne.mpr (bne_iff_ne.mp D),⟨_,f,n,m,⟨rfl,rfl,rfl⟩,rfl,λe y=>z e (Array.mem_toList_iff.mpr y),C,?_⟩,s,?_⟩
  ·rw [s];exact of_decide_eq_true g
  ·rw [List.map_snd_zip (Nat.le_of_eq r.symm)]
   exact eL I o
 |.undef,_,h=>nomatch h
 |.lst _,_,h=>nomatch h
 |.rng _,_,h=>nomatch h
 |.ref _,_,h=>nomatch h
 |.tmp _,_,h=>nomatch h
 |.clo _ _,_,h=>nomatch h
theorem eL(I:Inv B W):∀ {l:List V} {x:List Value},lq B.K l x=true->aA B W l x
 |[],xs,h=>by cases List.isEmpty_iff.mp h;trivial
 |v::r,[],h=>nomatch h
 |v::r,x::q,h=>⟨nZ I (b2 h).1,eL I (b2 h).2⟩
end
noncomputable def Bm:V->Const->Bool
 |.none=>λc=>Nat.beq c.ctorIdx 0
 |.bool b=>yV λc=>b==c
 |.int i=>Ae λj=>i==j
 |.str x=>B6 λy=>seqb x y
 |_=>λ_=>false
theorem sa{v:V}{c:Const}{k:Nat}{pos:Pos}(h:Bm v c=true)(I:Inv B W):am B A W (eval (.Constant c k pos) env) v W.s:=by
 cases v with
 |none=>exact Const.none.elim c (Nat.eq_of_beq_eq_true h) (wpAny_Constant_none (Post.same I rfl rfl rfl λ_ _ _=>rfl))
 |bool b=>obtain⟨c,rfl,h⟩:=wI h;cases eq_of_beq h;exact wpAny_Constant_bool (Post.same I rfl rfl rfl λ_ _ _=>rfl)
 |int b=>obtain⟨c,rfl,h⟩:=s7 h;cases eq_of_beq h;exact wpAny_Constant_int (Post.same I rfl rfl rfl λ_ _ _=>⟨_,rfl⟩)
 |str b=>obtain⟨c,rfl,h⟩:=yl h;cases aH.mp h;exact wpAny_Constant_str (Post.same I rfl rfl rfl λ_ _ _=>⟨_,rfl⟩)
 |_=>exact ff h
noncomputable def bC:Str:="__debug__"
noncomputable def eo:Str:="__classdict__"
theorem r9{x:Nat}{nm:Str}{pos:Pos}(hx:ctx.lookup nm=some x)(hk:ks.lookup nm=some .local \/ks.lookup nm=some .cell\/ks.lookup nm=some .free)
  (hd:seqb nm bC=false) (hc:seqb nm eo=false) (E:az B env ctx ks ρ W) (I:Inv B W) (hu:lget ρ x≠ .undef):
  am B A W (eval (.Name nm pos) env) (lget ρ x) W.s:=by
 have b:(nm==("__debug__" :Str))=false:=beq_eq_false_iff_ne.mpr λq=>by replace hd:=q▸hd;rw [show seqb "__debug__" bC=true from aH.mpr rfl] at hd;cases hd
 have g:(nm==("__classdict__" :Str))=false:=beq_eq_false_iff_ne.mpr λq=>by replace hc:=q▸hc;rw [show seqb "__classdict__" eo=true from aH.mpr rfl] at hc;cases hc
 rcases hk with hk|hk|hk
 ·refine x12 E.loc λm j k=>?_
  refine x12 (k nm x hx hk hu) λe d f=>?_
  exact wpAny_Name (wpAny_loadName_local E.kind (by unfold Env.kindOf;exact E.names▸hk) (j) d (Post.here I f)) b
 ·refine cp λ_ l=>?_
  refine x24 (E.cell nm x hx hk) λc o d f i h=>?_
  refine x12 (h hu) λe a n=>?_
  subst a
  refine l ?_
  exact wpAny_Name (wpAny_loadName_cell E.kind (by unfold Env.kindOf;exact E.names▸hk) d (i) (Post.here I n)) b
 ·refine x24 (E.free nm x hx hk) λc e d f i h=>?_
  exact wpAny_Name (wpAny_loadName_free E.kind (by unfold Env.kindOf;exact E.names▸hk) d (f) (Post.here I h) g) b
theorem Inv.glob(I:Inv B W):W.h.Ns mainGlobals B.mg:=B.g.keeps I.base
theorem Inv.blt(I:Inv B W):W.h.Ns builtinsNs B.mb:=B.b.keeps I.base
theorem iH{nm:Str}{pos:Pos}{x:Value}{Q:Value->Shared->Prop}(hk:ks.lookup nm=some .globalImplicit)(hd:seqb nm bC=false)(E:az B env ctx ks ρ W)(I:Inv B W)
  (hx:nsIn B.K mainGlobals nm=some (some x)) (h:Q x W.sh):wpAny (model prog w) A (eval (.Name nm pos) env) Q (λ_ _=>False) W.sh:=by
 have a:(nm==("__debug__" :Str))=false:=beq_eq_false_iff_ne.mpr λq=>by replace hd:=q▸hd;rw [show seqb "__debug__" bC=true from aH.mpr rfl] at hd;cases hd
 refine Calls.Name_function_global E.kind (by unfold Env.kindOf;exact E.names▸hk) ?_ a
 exact Calls.loadGlobal_global (by exact E.glob▸I.glob) (mg_of B.inK B.g hx) h
theorem j4{nm:Str}{pos:Pos}{x:Value}{Q:Value->Shared->Prop}(hk:ks.lookup nm=some .globalImplicit)(hd:seqb nm bC=false)(E:az B env ctx ks ρ W)(I:Inv B W)
  (hx:nsIn B.K mainGlobals nm=some none) (hv:bootBuiltins nm=some x) (hn:nm≠"__name__") (h:Q x W.sh):wpAny (model prog w) A (eval (.Name nm pos) env) Q (λ_ _=>False) W.sh:=by
 have a:(nm==("__debug__" :Str))=false:=beq_eq_false_iff_ne.mpr λq=>by replace hd:=q▸hd;rw [show seqb "__debug__" bC=true from aH.mpr rfl] at hd;cases hd
 refine Calls.Name_function_global E.kind (by unfold Env.kindOf;exact E.names▸hk) ?_ a
 exact Calls.loadGlobal_builtin (by exact E.glob▸I.glob) (mg_none_of B.inK B.g hx) (by exact E.blt▸I.blt) ((B.blt nm hn).trans hv) h
theorem xi{nm:Str}{v:V}{x:Value}{pos:Pos}(hk:ks.lookup nm=some .globalImplicit)(hd:seqb nm bC=false)(E:az B env ctx ks ρ W)(I:Inv B W)
  (hx:nsIn B.K mainGlobals nm=some (some x)) (hv:qS B.K v x=true):am B A W (eval (.Name nm pos) env) v W.s:=
 iH hk hd E I hx (Post.here I (nZ I hv))
end
noncomputable def tS:Op->Operator
 |.add=>.Add|.mul=>.Mult|.mod=>.Mod|.fdiv=>.FloorDiv|.bor=>.BitOr
noncomputable def sV:Cop->CmpOp
 |.eq=>.Eq|.ne=>.NotEq|.lt=>.Lt|.gt=>.Gt|.ge=>.GtE|.isin=>.In|.notin=>.NotIn|.isnot=>.IsNot
section
variable {prog:Program}{w:World}{B:Base prog w}
variable {A:Around}{n:Nat}{W:Mo}{env:Env}{ctx:List (Str×Nat)}{ks:List (Str×NameKind)}{ρ:List V}
theorem cu:lim<=sizeLine:=by unfold lim;decide+kernel
theorem eH{α:Type}{t:Sem α}{Q:α->Shared->Prop}{E:Value->Shared->Prop}(h:wpAny (model prog w) A t Q (λ_ _=>False) W.sh):wpAny (model prog w) A t Q E W.sh:=
 wpAny_mono h (λ_ _ q=>q) λ_ _ q=>q.elim
theorem Bj{a b:Int}(h:(a=0\/a=1)/\(b=0\/b=1)):Builtin.bitOr a b=max a b:=by
 rcases h with⟨rfl|rfl,rfl|rfl⟩<;>decide+kernel
theorem dR{l:List V}{x:Value}(h:Rep B W (.lst l) x):Ci W l (aA B W l) x:=h
theorem dr{l:List V}{x:Value}(h:Rep B W (.tup l) x):Cd W l (aA B W l) x:=h
theorem pW{l m r:List V}{x y:Value}(I:Inv B W)(ha:Rep B W (.lst l) x)(hb:Rep B W (.lst m) y)(hz:l.length+m.length<=lim):
  am B A W (binaryOp .Add x y) (.lst (l++m)) W.s:=by
 obtain⟨a,h,rfl,J,o,c,n⟩:=ha
 obtain⟨b,e,rfl,q,i,d,f⟩:=hb
 obtain⟨k,j⟩:=o
 refine x11 i λw g=>?_
 have v:=n.length
 have p:=f.length
 refine concat_meets ⟨_,j,rfl⟩ ⟨_,g,rfl⟩ noFill_list_add seq_list_add PySem.F.slot_list_add PySem.F.entry_list_add (PySem.F.args_list_add_2 _ _)
  (list_addW a b h e k w none none #[] #[] (by have:=cu;simp only [Array.length_toList] at v p;lia)) ⟨j,g,?_⟩
 refine(Post.push I rfl rfl rfl rfl λz H D K L C t u=>?_)
 refine⟨_,h++e,rfl,u,⟨0,t⟩,by simpa using hz,?_⟩
 simp only [Array.toList_append]
 exact(n.mono C).append (f.mono C)
theorem pV{l m r:List V}{x y:Value}(I:Inv B W)(ha:Rep B W (.tup l) x)(hb:Rep B W (.tup m) y)(hz:l.length+m.length<=lim):
  am B A W (binaryOp .Add x y) (.tup (l++m)) W.s:=by
 have n:=ha
 have j:=hb
 obtain⟨a,g,k,rfl,J,h,c,q⟩:=ha
 obtain⟨b,e,o,rfl,u,f,d,i⟩:=hb
 have t:=q.length
 have p:=i.length
 by_cases c1:g.isEmpty=true
 ·refine concat_meets ⟨_,h,rfl⟩ ⟨_,f,rfl⟩ noFill_tuple_add seq_tuple_add PySem.F.slot_tuple_add PySem.F.entry_tuple_add (PySem.F.args_tuple_add_2 _ _)
   (tuple_addW0 a b g e k o none none #[] #[] c1) ⟨h,f,?_⟩
  have:l=[]:=by rw [Array.isEmpty_iff] at c1;subst c1;simpa using t
  subst this
  exact Post.here I j
 by_cases c2:e.isEmpty=true
 ·refine concat_meets ⟨_,h,rfl⟩ ⟨_,f,rfl⟩ noFill_tuple_add seq_tuple_add PySem.F.slot_tuple_add PySem.F.entry_tuple_add (PySem.F.args_tuple_add_2 _ _)
   (tuple_addW1 a b g e k o none none #[] #[] c1 c2) ⟨h,f,?_⟩
  have:m=[]:=by rw [Array.isEmpty_iff] at c2;subst c2;simpa using p
  try clear j
  subst this
  rw [List.append_nil]
  exact Post.here I n
 refine concat_meets ⟨_,h,rfl⟩ ⟨_,f,rfl⟩ noFill_tuple_add seq_tuple_add PySem.F.slot_tuple_add PySem.F.entry_tuple_add (PySem.F.args_tuple_add_2 _ _)
  (tuple_addW2 a b g e k o none none #[] #[] c1 c2 (by have:=cu;simp only [Array.length_toList] at t p;lia)) ⟨h,f,?_⟩
 refine(Post.push I rfl rfl rfl rfl λz H D K L C v w=>?_)
 refine⟨_,g++e,0,rfl,w,v,by simpa using hz,?_⟩
 simp only [Array.toList_append]
 exact(q.mono C).append (i.mono C)
theorem uR{op:Op}{a b r:V}{x y:Value}(I:Inv B W)(ha:Rep B W a x)(hb:Rep B W b y)(h:lf op a b=some r):am B A W (binaryOp (tS op) x y) r W.s:=by
 cases op with
 |add=>cases a with
  |int p=>
   obtain⟨q,rfl,h⟩:=bw h
   obtain⟨t,rfl⟩:=ha;obtain⟨u,rfl⟩:=hb;cases h
   exact add_int (Post.same I rfl rfl rfl λ_ _ _=>⟨_,rfl⟩)
  |str p=>
   refine x12 (nJ h) λq c h=>?_
   subst c
   refine x02 (cw h) λe d=>?_
   subst d
   obtain⟨t,rfl⟩:=ha;obtain⟨u,rfl⟩:=hb
   exact add_str (λg f=>Post.same I rfl rfl rfl λ_ _ _=>⟨_,rfl⟩) (Nat.le_trans e cu)
  |tup p=>
   obtain⟨q,rfl,h⟩:=gR h
   obtain⟨e,rfl⟩:=cw h
   exact pV (r:=[]) I ha hb e
  |lst p=>
   obtain⟨q,rfl,h⟩:=gy h
   obtain⟨e,rfl⟩:=cw h
   exact pW (r:=[]) I ha hb e
  |_=>cases h
 |mul=>
  replace h:=bw h
  obtain⟨p,rfl,h⟩:=h
  replace h:=bw h
  obtain⟨q,rfl,h⟩:=h
  obtain⟨e,rfl⟩:=cw h
  obtain⟨t,rfl⟩:=ha;obtain⟨u,rfl⟩:=hb
  exact P.mul_int (Post.same I rfl rfl rfl λ_ _ _=>⟨_,rfl⟩) (.of_left (intBits_le_64 (by omega) (by omega)))
 |mod=>
  replace h:=bw h
  obtain⟨p,rfl,h⟩:=h
  replace h:=bw h
  obtain⟨q,rfl,h⟩:=h
  obtain⟨e,rfl⟩:=cw h
  obtain⟨t,rfl⟩:=ha;obtain⟨u,rfl⟩:=hb
  exact mod_int' (by omega) (Post.same I rfl rfl rfl λ_ _ _=>⟨_,by rw [Int.fmod_eq_emod_of_nonneg _ (by omega)]⟩)
 |fdiv=>
  replace h:=bw h
  obtain⟨p,rfl,h⟩:=h
  replace h:=bw h
  obtain⟨q,rfl,h⟩:=h
  obtain⟨e,rfl⟩:=cw h
  obtain⟨t,rfl⟩:=ha;obtain⟨u,rfl⟩:=hb
  exact floordiv_int (by omega) (Post.same I rfl rfl rfl λ_ _ _=>⟨_,by rw [Int.fdiv_eq_ediv_of_nonneg _ (by omega)]⟩) (.inl (PyProof.noPylong_small (by unfold lim at e;omega)))
 |bor=>
  replace h:=bw h
  obtain⟨p,rfl,h⟩:=h
  replace h:=bw h
  obtain⟨q,rfl,h⟩:=h
  obtain⟨e,rfl⟩:=cw h
  obtain⟨t,rfl⟩:=ha;obtain⟨u,rfl⟩:=hb
  exact or_int (Post.same I rfl rfl rfl λ_ _ _=>⟨_,by rw [Bj e]⟩)
end
end Mine
end
section
namespace Mine
open PySem PySem.W PyProof.Rows PySem.SeqAt
section
variable {prog:Program}{w:World}{B:Base prog w}
variable {A:Around}{n:Nat}{W:Mo}{env:Env}{ctx:List (Str×Nat)}{ks:List (Str×NameKind)}{ρ:List V}
mutual
theorem Rep.plain:∀ {v:V} {x:Value},plain v=true->Rep B W v x->aG W.h v x
 |.int _,_,_,h=>h
 |.str _,_,_,h=>h
 |.none,_,_,h=>h
 |.bool _,_,_,h=>h
 |.tup l,x,k,h=>by
  simp only [Mine.plain] at k
  simp only [Rep] at h
  obtain⟨a,b,m,rfl,e,c,f,d⟩:=h
  exact⟨a,b,m,rfl,c,aA.plain k d⟩
 |.undef,_,k,_=>by simp [Mine.plain] at k
 |.lst _,_,k,_=>by simp [Mine.plain] at k
 |.kd _ _,_,k,_=>by simp [Mine.plain] at k
 |.rng _,_,k,_=>by simp [Mine.plain] at k
 |.ref _,_,k,_=>by simp [Mine.plain] at k
 |.tmp _,_,k,_=>by simp [Mine.plain] at k
 |.clo _ _,_,k,_=>by simp [Mine.plain] at k
theorem aA.plain:∀ {l:List V} {x:List Value},plains l=true->aA B W l x->cA W.h l x
 |[],[],_,_=>trivial
 |[],_::_,_,h=>h.elim
 |_::_,[],_,h=>h.elim
 |v::r,x::q,k,h=>by
  simp only [plains,Bool.and_eq_true] at k
  exact⟨Rep.plain k.1 h.1,aA.plain k.2 h.2⟩
end
theorem vd{a b:V}{x y:Value}{r:Bool}{k:Nat}(hA:A.units+k+20<cLine)(ha:Rep B W a x)(hb:Rep B W b y)(h:gu a b=some r):RcAt A W.sh x y r/\EqAt A W.sh x y r:=by
 unfold gu at h
 split at h
 ·rename_i c
  simp only [Bool.and_eq_true] at c
  exact nh bP a b (ha.plain c.1) (hb.plain c.2) h (by unfold bP;lia)
 ·exact nn h
inductive CK(B:Base prog w)(W:Mo)(l:List V)(x:Value):Prop
 |mk (a:Addr) (items:Array Value) (e:x=.ref a) (o:W.h.PlainList a items) (z:l.length<=lim) (r:aA B W l items.toList)
theorem jv{v:V}{l:List V}{x:Value}(I:Inv B W)(h:list? W.s v=some l)(hr:Rep B W v x):CK B W l x:=by
 cases v with
 |lst m=>
  obtain rfl:=Option.some.inj h
  obtain⟨a,b,rfl,_,e,c,d⟩:=hr
  exact⟨a,b,rfl,e,c,d⟩
 |ref i=>
  replace h:=eN h
  obtain⟨o,f,h⟩:=h
  cases h
  obtain⟨b,e,c,d⟩:=I.perm _ _ f
  exact⟨_,b,hr.2,e,c,d⟩
 |tmp i=>
  replace h:=eN h
  obtain⟨o,f,h⟩:=h
  cases h
  obtain⟨b,e,c,d⟩:=(I.tmps _ _ f).1
  exact⟨_,b,hr.2,e,c,d⟩
 |_=>exact nn h
theorem ti{l m:List V}{b:Bool}(hl:l.length=m.length)(h:veqs (veq bP) l m=some b):
  ∃e:Nat->Bool,(∀j (h1:j<l.length) (h2:j<m.length),veq bP l[j] m[j]=some (e j))/\b=(List.range l.length).all e:=by
 refine x12 (fy h) λe h1 h2=>?_
 exact i12 e h1 (by rw [h2];simp [hl])
theorem vg{s:Shared}{K K':Type}[DecidableEq K][DecidableEq K']{knd:PySem.KeyKind prog w K}{knd':PySem.KeyKind prog w K'}{d d':Addr}(h1:s.heap.DictOf knd d [])(h2:s.heap.DictOf knd' d' [])
  (n1:(d==sysModules)=false) (n2:(d'==sysModules)=false) (hu:A.units<cLine):RcAt A s (.ref d) (.ref d') true:=λprog w E Q h=>by
 refine cp λ_ t=>?_
 refine x36 h1 λo m C j x n _ v _=>?_
 refine x36 h2 λu c B e f i _ g _=>?_
 have p:s.TypeIs (.ref d) "dict" :=i12 o j x.1
 have k:s.TypeIs (.ref d') "dict" :=i12 u e f.1
 have z:m= #[]:=by cases m with|mk l=>cases v;rfl
 have q:c= #[]:=by cases c with|mk l=>cases g;rfl
 subst z q
 refine t ?_
 refine wpAny_richCompare_same_room p k F.slot_dict_eq (wpAny_call_entry F.slot_dict_eq p F.entry_dict_eq ?_ (F.args_dict_eq_2 _ _)) hu
 simp only [show Builtin.«dict.__eq__» ⟨[.ref d,.ref d'],[]⟩=(do
   if !(<-isInstance (.ref d') (.type "dict")) then rule s!"dict.{"__eq__"}.not-a-dict";return <-ret .notImplemented
   ret (.bool ((<-Builtin.Dict.samePairs s!"dict.{"__eq__"}" d d')==true))) from rfl]
 refine wpAny_bind (wpAny_isInstance k (b:=true) rfl ?_)
 refine wpAny_bind ?_
 have y:(Builtin.Dict.showsAll d:Sem Unit)=pure ():=by unfold Builtin.Dict.showsAll;rw [n1];rfl
 have r:(Builtin.Dict.showsAll d':Sem Unit)=pure ():=by unfold Builtin.Dict.showsAll;rw [n2];rfl
 unfold Builtin.Dict.samePairs
 rw [y,r]
 refine wpAny_bind (wpAny_pure ?_)
 refine wpAny_bind (wpAny_pure ?_)
 refine wpAny_bind (wpAny_dictEntries j n ?_)
 refine wpAny_bind (wpAny_dictEntries e i ?_)
 refine wpAny_bind (wpAny_dictEpoch j n ?_)
 simp only [Std.Legacy.Range.forIn_eq_forIn_range']
 refine wpAny_pure (wpAny_pure ?_)
 exact i13 _ rfl (by simp) h
theorem oq{l m:List V}{its its2:Array Value}{r:Bool}(hA:A.units+50<cLine)(h1:aA B W l its.toList)(h2:aA B W m its2.toList)
  (hz:l.length=m.length) (h:(if plains l&&plains m then veqs (veq bP) l m else none)=some r):
  ∃f:Nat->Bool,its.size=its2.size/\r=(List.range its.size).all f/\∀j (h1:j<its.size) (h2:j<its2.size),EqAt A.in1 W.sh its[j] its2[j] (f j):=by
 split at h
 ·rename_i c
  simp only [Bool.and_eq_true] at c
  refine x12 (ti hz h) λf d a=>?_
  subst a
  have i:l.length=its.size:=by rw [h1.length];simp
  have n:m.length=its2.size:=by rw [h2.length];simp
  refine i13 f (by lia) (by exact(i)▸rfl) (λj b g=>?_)
  have e:=(h1.plain c.1).get j (by omega) (b)
  have k:=(h2.plain c.2).get j (by omega) (g)
  exact(nh bP _ _ (e) (k) (d j (by omega) (by omega)) (by simp only [Around.in1_units];unfold bP;lia)).2
 ·exact nn h
theorem fF(I:Inv B W){a:Addr}(h:W.g.F a):(a==sysModules)=false:=by
 refine beq_eq_false_iff_ne.mpr λq=>?_
 obtain⟨o,b⟩:=B.sys
 have:=I.fresh a h
 simp only [q,b] at this
 exact ns this
inductive ROb(B:Base prog w)(W:Mo)(o:Ob)(x:Value):Prop
 |mk (a d:Addr) (e:x=.ref a) (f:W.g.F a) (r:bR B W o a d)
theorem cC(I:Inv B W){v:V}{x:Value}{o:Ob}(hr:Rep B W v x)(ho:W.s.ob v=some o):ROb B W o x:=by
 unfold S.ob at ho
 split at ho
 ·exact⟨_,_,hr.2,I.inF 0 _ hr.1,I.perm _ _ ho⟩
 ·exact⟨_,_,hr.2,I.inF 2 _ hr.1,(I.tmps _ _ ho).1⟩
 ·exact nn ho
inductive CG(B:Base prog w)(W:Mo)(v:V)(l:List V)(x:Value):Prop
 |tup (h:v=.tup l) (a:Addr) (its:Array Value) (n:Nat) (e:x=.ref a) (o:W.h.get? a=some ⟨.type "tuple",none,.seq its n, #[]⟩) (z:l.length<=lim) (r:aA B W l its.toList)
 |lst (h:v.ctorIdx≠5) (h2:v.ctorIdx≠8) (a:Addr) (its:Array Value) (e:x=.ref a) (o:W.h.PlainList a its) (z:l.length<=lim) (r:aA B W l its.toList)
theorem pZ{v:V}{l:List V}{x:Value}(I:Inv B W)(h:seq? W.s v=some l)(hx:Rep B W v x):CG B W v l x:=by
 cases v with
 |tup m=>obtain rfl:=Option.some.inj h;obtain⟨a,b,n,rfl,_,g,e,f⟩:=dr hx;exact .tup rfl a b n rfl g e f
 |lst m=>obtain rfl:=Option.some.inj h;obtain⟨a,b,rfl,_,g,e,f⟩:=dR hx;exact .lst nofun nofun a b rfl g e f
 |ref i=>
  obtain⟨o,c,h⟩:=eN h
  cases h
  obtain⟨a,d,rfl,_,b,g,e,f⟩:=cC I hx c
  exact .lst nofun nofun a b rfl g e f
 |tmp i=>
  obtain⟨o,c,h⟩:=eN h
  cases h
  obtain⟨a,d,rfl,_,b,g,e,f⟩:=cC I hx (o:=.list l) c
  exact .lst nofun nofun a b rfl g e f
 |_=>exact nn h
theorem vM{K:Type}[DecidableEq K]{knd:PySem.KeyKind prog w K}{h:Heap}{a:Addr}{kvs:List (K×Value)}(x:h.DictOf knd a kvs)(hk:kvs.map (·.1)=[]):h.DictOf knd a []:=by
 cases kvs with
 |nil=>exact x
 |cons _ _=>cases hk
theorem sS{s:S}{a b:V}(h:oA a=true):eqv s a b=eqO s a b:=by unfold eqv;refine h▸?_;rfl
theorem ua{s:S}{a b:V}(h:oA a=false):eqv s a b=gu a b:=by unfold eqv;rw [h];rfl
theorem list?_obj{s:S}{a:V}{l:List V}(h:list? s a=some l):oA a=true:=by
 cases a<;>first|rfl|exact nn h
theorem Aa{s:S}{a b:V}{r:Bool}(h:eqO s a b=some r):(∃l m,list? s a=some l/\list? s b=some m/\eqL l m=some r)\/eqD s a b=some r:=by
 unfold eqO at h
 cases h1:list? s a with
 |none=>replace h:=h1▸h;exact .inr h
 |some l=>
  replace h:=h1▸h
  cases h2:list? s b with
  |none=>replace h:=h2▸h;exact .inr h
  |some m=>replace h:=h2▸h;exact .inl (i23 l m rfl rfl h)
theorem Ac{s:S}{a b:V}{r:Bool}(h:eqD s a b=some r):s.ob a=some (.idict [])/\s.ob b=some (.idict [])/\r=true:=by
 replace h:=vA h
 refine x12 h λl i h=>?_
 replace h:=vA h
 refine cp λ_ f=>?_
 obtain⟨m,c,h⟩:=h
 obtain⟨g,rfl⟩:=cw h
 obtain⟨d,e⟩:=b2 g
 refine f ?_
 try clear h
 cases List.isEmpty_iff.mp d
 cases List.isEmpty_iff.mp e
 exact i03 i c rfl
theorem wy{l m:List V}{r:Bool}(h:eqL l m=some r):(l.length=m.length/\(if plains l&&plains m then veqs (veq bP) l m else none)=some r)\/(l.length≠m.length/\r=false):=by
 unfold eqL at h
 by_cases q:l.length=m.length
 ·rw [if_pos q] at h;exact .inl ⟨q,h⟩
 ·rw [if_neg q] at h;exact .inr ⟨q,(Option.some.inj h).symm⟩
theorem om{l m:List V}{xs ys:Array Value}(r1:aA B W l xs.toList)(r2:aA B W m ys.toList)(h:l.length≠m.length):(xs.size !=ys.size)=true:=by
 have a:l.length=xs.size:=r1.length.trans Array.length_toList
 have b:m.length=ys.size:=r2.length.trans Array.length_toList
 simp only [a,b] at h
 exact bne_iff_ne.mpr h
theorem zp{a b:V}{x y:Value}{r:Bool}(I:Inv B W)(hA:A.units+50<cLine)(ha:Rep B W a x)(hb:Rep B W b y)(h:eqv W.s a b=some r):RcAt A W.sh x y r:=by
 cases ho:oA a with
 |false=>
  replace h:=(ua ho)▸h
  exact(vd (k:=20) (by lia) ha hb h).1
 |true=>
  replace h:=(sS ho)▸h
  refine(Aa h).elim (λe=>?_) (λh=>?_)
  ·refine x23 e λl m K H h=>?_
   try clear e
   obtain⟨p,N,rfl,u,U,o⟩:=jv I K ha
   obtain⟨q,v,rfl,j,T,w⟩:=jv I H hb
   refine(wy h).elim (λg=>?_) (λi=>?_)
   ·obtain⟨n,h⟩:=g
    refine x13 (oq hA o w n h) λf R c L=>?_
    subst c
    exact RcAt.lists (u.isList) (j.isList) R (by lia) L
   ·obtain⟨n,rfl⟩:=i
    exact RcAt.lists_lengths (u.isList) (j.isList) (om o w n) (by lia)
  ·refine x03 (Ac h) λC z d=>?_
   subst d
   obtain⟨p,_,rfl,O,P,M,F,_⟩:=cC I ha C
   obtain⟨q,_,rfl,J,t,D,Q,_⟩:=cC I hb z
   exact vg (vM M (F)) (vM D (Q)) (fF I O) (fF I J) (by lia)
theorem is2{v:V}(h:v.ctorIdx=2):∃b,v=.bool b:=V.bool.elim (motive_1:=λv=>∃b,v=.bool b) v h λb=>⟨b,rfl⟩
theorem is3{v:V}(h:v.ctorIdx=3):∃b,v=.int b:=V.int.elim (motive_1:=λv=>∃b,v=.int b) v h λb=>⟨b,rfl⟩
theorem is4{v:V}(h:v.ctorIdx=4):∃b,v=.str b:=V.str.elim (motive_1:=λv=>∃b,v=.str b) v h λb=>⟨b,rfl⟩
theorem is5{v:V}(h:v.ctorIdx=5):∃b,v=.tup b:=V.tup.elim (motive_1:=λv=>∃b,v=.tup b) v h λb=>⟨b,rfl⟩
theorem ve{l m:List V}{x y:Value}{r:Bool}(hA:A.units+50<cLine)(ha:Rep B W (.tup l) x)(hb:Rep B W (.tup m) y)(h:gu (.tup l) (.tup m)=some r):RcNeAt A W.sh x y (!r):=by
 refine x02 (bg (show(if(plains l&&plains m)=true then veqs (veq 7) l m else none)=some r from h)) λc h=>?_
 refine x02 (b2 c) λC s=>?_
 obtain⟨p,e,F,rfl,J,g,I,i⟩:=dr ha
 obtain⟨q,b,D,rfl,K,d,H,k⟩:=dr hb
 refine x12 (fy h) λf t a=>?_
 subst a
 have o:l.length=e.size:=by rw [i.length];simp
 have u:m.length=b.size:=by rw [k.length];simp
 simp only [o,u]
 refine RcNeAt.tuples ⟨_,g,rfl,_,rfl⟩ ⟨_,d,rfl,_,rfl⟩ (by lia) λj n w=>?_
 have v:=(i.plain C).get j (by omega) (n)
 have z:=(k.plain s).get j (by omega) (w)
 exact(nh 7 _ _ (v) (z) (t j (by omega) (by omega)) (by simp only [Around.in1_units];lia)).2
theorem vf{a b:V}{x y:Value}{r:Bool}(I:Inv B W)(hA:A.units+50<cLine)(ha:Rep B W a x)(hb:Rep B W b y)(hn:Bk W.s a b=true)(h:eqv W.s a b=some r):RcNeAt A W.sh x y (!r):=by
 refine((Bool.or_eq_true _ _).mp hn).elim (λhn=>?_) (λhn=>?_)
 ·refine z3 (b3 hn) λn g H=>?_
  have d:=Nat.eq_of_beq_eq_true n
  rcases m25 g H with q|q|q|q<;>replace d:=q▸d
  ·obtain⟨i,rfl⟩:=is2 q
   obtain⟨j,rfl⟩:=is2 d.symm
   obtain rfl:=ha;obtain rfl:=hb
   cases Option.some.inj (show some (_==_)=some r from h)
   exact RcNeAt.bool_bool _ _
  ·obtain⟨i,rfl⟩:=is3 q
   obtain⟨j,rfl⟩:=is3 d.symm
   obtain⟨t,rfl⟩:=ha;obtain⟨u,rfl⟩:=hb
   cases Option.some.inj (show some (_==_)=some r from h)
   exact RcNeAt.int_int _ _ _ _
  ·obtain⟨i,rfl⟩:=is4 q
   obtain⟨j,rfl⟩:=is4 d.symm
   obtain⟨t,rfl⟩:=ha;obtain⟨u,rfl⟩:=hb
   cases Option.some.inj (show some (seqb i j)=some r from h)
   rw [show seqb i j=(i==j) from by rw [dz];rfl]
   exact RcNeAt.str_str _ _ _ _
  ·obtain⟨i,rfl⟩:=is5 q
   obtain⟨j,rfl⟩:=is5 d.symm
   exact ve hA ha hb h
 ·refine x02 (b2 hn) λn g=>?_
  refine x11 (Option.isSome_iff_exists.mp n) λl k=>?_
  obtain⟨m,z⟩:=Option.isSome_iff_exists.mp g
  rw [sS (list?_obj k)] at h
  have h:eqL l m=some r:=by
   unfold eqO at h
   replace h:=z▸k▸h;exact h
  obtain⟨p,F,rfl,o,L,w⟩:=jv I k ha
  obtain⟨q,v,rfl,e,K,C⟩:=jv I z hb
  rcases wy h with⟨hz,h⟩|⟨hz,rfl⟩
  ·refine x13 (oq hA w C hz h) λf J c D=>?_
   subst c
   exact RcNeAt.lists (o.isList) (e.isList) J (by lia) D
  ·exact RcNeAt.lists_lengths (o.isList) (e.isList) (om w C hz) (by lia)
theorem oG{x:V}:∀ {l:List V} {b:Bool},inl x l=some b->∃f:Nat->Bool,(∀j (h:j<l.length),gu l[j] x=some (f j))/\b=(List.range l.length).any f
 |[],b,h=>i12 (λ_=>false) (by simp) ((Option.some.inj h).symm)
 |y::r,b,h=>by
  simp only [inl] at h
  cases h1:gu y x with
  |none=>replace h:=h1▸h;exact nn h
  |some p=>
   cases h2:inl x r with
   |none=>replace h:=h2▸h1▸h;exact nn h
   |some q=>
    rw [h1,h2] at h
    replace h:=Option.some.inj h
    refine x12 (oG h2) λf c a=>?_
    subst a
    refine i12 (λj=>match j with|0=>p|j+1=>f j) ?_ ?_
    ·intro j d
     cases j with
     |zero=>exact h1
     |succ j=>simpa using c j (Nat.le_of_succ_le_succ d)
    ·subst h
     simp only [List.length_cons,List.range_succ_eq_map,List.any_cons,List.any_map]
     rfl
open Classical in
theorem sk{l:List V}{x:V}{vx:Value}{its:Array Value}{b:Bool}(hA:A.units+50<cLine)(hl:aA B W l its.toList)(hx:Rep B W x vx)(h:inl x l=some b):
  ∃f:Value->Bool,(∀y,y∈its->EqAt A.in1 W.sh y vx (f y))/\its.any f=b:=by
 refine x12 (oG h) λg hg a=>?_
 subst a
 have z:l.length=its.size:=by refine hl.length▸?_;simp
 have s:∀j (i:j<its.size),Rep B W (l[j]'(by omega)) its[j]:=by
  intro j i
  refine x12 (hl.get (j:=j) (v:=l[j]'(by omega)) (by simp [z,i])) λv t r=>?_
  have:v=its[j]:=by simpa [i] using t.symm
  exact this▸r
 have p:∀j (i:j<its.size),EqAt A.in1 W.sh its[j] vx (g j):=λj i=>
  (vd (k:=20) (by simp only [Around.in1_units];lia) (s j i) hx (hg j (by omega))).2
 have w:∀j (i:j<its.size),plain (l[j]'(by omega))=true:=by
  intro j i
  have:=hg j (by omega)
  unfold gu at this
  split at this
  ·rename_i c;simp only [Bool.and_eq_true] at c;exact c.1
  ·exact nn this
 have same:∀j k (i:j<its.size) (m:k<its.size),its[j]=its[k]->g j=g k:=by
  intro j k i m q
  have o:=(s j i).plain (w j i)
  have n:=(s k m).plain (w k m)
  simp only [q] at o
  have D:=aG.inj o n
  have u:=hg j (by omega)
  have C:=hg k (by omega)
  simp only [D,C] at u
  exact(Option.some.inj u).symm
 refine i12 (λy=>decide (∃j,∃i:j<its.size,its[j]=y/\g j=true)) ?_ ?_
 ·intro y F
  obtain⟨k,m,rfl⟩:=Array.getElem_of_mem F
  have:decide (∃j,∃i:j<its.size,its[j]=its[k]/\g j=true)=g k:=by
   rw [Bool.eq_iff_iff,decide_eq_true_eq]
   exact⟨λ⟨j,i,o,n⟩=>same j k i m o▸n,λh=>⟨k,m,rfl,h⟩⟩
  simp only [this]
  exact p k m
 ·rw [Bool.eq_iff_iff,Array.any_eq_true,List.any_eq_true]
  constructor
  ·intro d
   obtain⟨k,m,h⟩:=d
   simp only [decide_eq_true_eq] at h
   obtain⟨j,i,_,n⟩:=h
   exact i12 j (by rw [List.mem_range];omega) n
  ·intro e
   refine x12 e λk m h=>?_
   rw [List.mem_range] at m
   exact⟨k,by omega,by simp only [decide_eq_true_eq];exact⟨k,by omega,rfl,h⟩⟩
theorem kC{α β:Type}{p:α->Bool}{q:β->Bool}:∀ {l:List (α×V)} {kvs:List (β×Value)},l.map (λx=>p x.1)=kvs.map (λx=>q x.1)->aA B W (l.map (·.2)) (kvs.map (·.2))->
  match(l.find? (λx=>p x.1)).map (·.2) with
  |some v=>∃x,(kvs.find? (λx=>q x.1)).map (·.2)=some x/\Rep B W v x
  |none=>(kvs.find? (λx=>q x.1)).map (·.2)=none
 |[],[],_,_=>rfl
 |[],_::_,h,_=>by simp at h
 |_::_,[],h,_=>by simp at h
 |(a,v)::r,(b,x)::t,h,hr=>by
  simp only [List.map_cons,List.cons.injEq] at h hr
  dsimp only [List.find?_cons]
  refine h.1▸?_
  cases p a with
  |true=>exact i12 x rfl hr.1
  |false=>exact kC h.2 hr.2
theorem cY{α β:Type}{p:α->Bool}{q:β->Bool}{l:List (α×V)}{kvs:List (β×Value)}(h:l.map (λx=>p x.1)=kvs.map (λx=>q x.1))(hr:aA B W (l.map (·.2)) (kvs.map (·.2)))
  {v:V} (hv:(l.find? (λx=>p x.1)).map (·.2)=some v):∃x,(kvs.find? (λx=>q x.1)).map (·.2)=some x/\Rep B W v x:=by
 have:=kC h hr
 rw [hv] at this;exact this
theorem gk{α β:Type}{p:α->Bool}{q:β->Bool}{l:List (α×V)}{kvs:List (β×Value)}(h:l.map (λx=>p x.1)=kvs.map (λx=>q x.1))(hr:aA B W (l.map (·.2)) (kvs.map (·.2)))
  (hv:(l.find? (λx=>p x.1)).map (·.2)=none):(kvs.find? (λx=>q x.1)).map (·.2)=none:=by
 have:=kC h hr
 simp only [hv] at this;exact this
theorem jl{α β:Type}{p:α->Bool}{q:β->Bool}{l:List (α×V)}{kvs:List (β×Value)}(h:l.map (λx=>p x.1)=kvs.map (λx=>q x.1))(hr:aA B W (l.map (·.2)) (kvs.map (·.2))):
  ((kvs.find? (λx=>q x.1)).map (·.2)).isSome=((l.find? (λx=>p x.1)).map (·.2)).isSome:=by
 cases hv:(l.find? (λx=>p x.1)).map (·.2) with
 |none=>rw [gk h hr hv];rfl
 |some v=>obtain⟨x,a,_⟩:=cY h hr hv;refine a▸?_;rfl
theorem l8{α β:Type}{p:α->Bool}{q:β->Bool}{v:V}{x:Value}(hv:Rep B W v x):∀ {l:List (α×V)} {kvs:List (β×Value)},l.map (λx=>p x.1)=kvs.map (λx=>q x.1)->
  aA B W (l.map (·.2)) (kvs.map (·.2))->
  aA B W ((l.map (λy=>if p y.1 then(y.1,v) else y)).map (·.2)) ((kvs.map (λy=>if q y.1 then(y.1,x) else y)).map (·.2))
 |[],[],_,_=>trivial
 |[],_::_,h,_=>by simp at h
 |_::_,[],h,_=>by simp at h
 |(a,u)::r,(b,y)::t,h,hr=>by
  simp only [List.map_cons,List.cons.injEq] at h hr ⊢
  refine⟨?_,l8 hv h.2 hr.2⟩
  refine h.1▸?_
  cases p a with
  |true=>exact hv
  |false=>exact hr.1
theorem on{α γ:Type}{p:α->Bool}{v:γ}(l:List (α×γ)):(l.map (λy=>if p y.1 then(y.1,v) else y)).map (·.1)=l.map (·.1):=by
 simp only [List.map_map];exact List.map_congr_left λy _=>by simp only [Function.comp_apply];split<;>rfl
theorem nz{α β:Type}{p:α->Bool}{q:β->Bool}{l:List (α×V)}{kvs:List (β×Value)}(h:l.map (λx=>p x.1)=kvs.map (λx=>q x.1)):l.any (λx=>p x.1)=kvs.any (λx=>q x.1):=by
 have b:l.any (λx=>p x.1)=(l.map λx=>p x.1).any id:=by simp only [List.any_map];rfl
 have a:kvs.any (λx=>q x.1)=(kvs.map λx=>q x.1).any id:=by simp only [List.any_map];rfl
 exact(b)▸(a)▸(h)▸rfl
theorem hW{l:List (Int×V)}{kvs:List (Int×Value)}(h:kvs.map (·.1)=l.map (·.1))(k:Int):l.map (λx=>x.1==k)=kvs.map (λx=>decide (x.1=k)):=by
 have b:l.map (λx=>x.1==k)=(l.map (·.1)).map (λy=>y==k):=by simp only [List.map_map];rfl
 have a:kvs.map (λx=>decide (x.1=k))=(kvs.map (·.1)).map (λy=>decide (y=k)):=by simp only [List.map_map];rfl
 simp only [b,a,h];exact List.map_congr_left λy _=>by rw [Bool.eq_iff_iff];simp
theorem v6{l:List (Str×V)}{kvs:List (Str×Value)}(h:kvs.map (·.1)=l.map (·.1))(k:Str):l.map (λx=>seqb x.1 k)=kvs.map (λx=>decide (x.1=k)):=by
 have b:l.map (λx=>seqb x.1 k)=(l.map (·.1)).map (λy=>seqb y k):=by simp only [List.map_map];rfl
 have a:kvs.map (λx=>decide (x.1=k))=(kvs.map (·.1)).map (λy=>decide (y=k)):=by simp only [List.map_map];rfl
 simp only [b,a,h];exact List.map_congr_left λy _=>dz
theorem kb{l:List (List V×V)}{xs:List (List V×Addr×Value)}(h:xs.map (·.1)=l.map (·.1))(k:List V):l.map (λx=>V.beqs x.1 k)=(xs.map (λx=>(x.1,x.2.2))).map (λx=>decide (x.1=k)):=by
 have b:l.map (λx=>V.beqs x.1 k)=(l.map (·.1)).map (λy=>V.beqs y k):=by simp only [List.map_map];rfl
 have a:(xs.map (λx=>(x.1,x.2.2))).map (λx=>decide (x.1=k))=(xs.map (·.1)).map (λy=>decide (y=k)):=by simp only [List.map_map];rfl
 simp only [b,a,h]
 refine List.map_congr_left λy _=>?_
 rw [Bool.eq_iff_iff,V.beqs_iff];simp
theorem gp{K:Type}[DecidableEq K](xs:List (K×Addr×Value))(k:K):(atKey xs k).map (·.2)=((xs.map (λx=>(x.1,x.2.2))).find? (λx=>decide (x.1=k))).map (·.2):=by
 unfold atKey
 induction xs with
 |nil=>rfl
 |cons x r ih=>
  simp only [List.map_cons,List.find?_cons]
  cases decide (x.1=k) with
  |true=>rfl
  |false=>exact ih
theorem dP{K:Type}[DecidableEq K](kvs:List (K×Value))(k:K):valueAt kvs k=(kvs.find? λkv=>decide (kv.1=k)).map (·.2):=rfl
theorem j8:∀ {ks:List Int} {vs:List V} {kvs:List (Int×Value)} {k:Int},kvs.map (·.1)=ks->aA B W vs (kvs.map (·.2))->
  match kget ks vs k with
  |some v=>∃x,valueAt kvs k=some x/\Rep B W v x
  |none=>valueAt kvs k=none
 |[],[],[],_,_,_=>rfl
 |_,[],_::_,_,_,h=>h.elim
 |_,_::_,[],_,_,h=>h.elim
 |_::_,_,[],_,h,_=>by simp at h
 |[],_::_,_::_,_,h,_=>by simp at h
 |a::r,v::q,(b,x)::t,k,h,hr=>by
  simp only [List.map_cons,List.cons.injEq] at h hr
  obtain⟨rfl,c⟩:=h
  dsimp only [kget,dP,List.find?_cons]
  by_cases hk:b=k
  ·subst hk;simp only [beq_self_eq_true,if_true];exact i12 x rfl hr.1
  ·simp only [beq_iff_eq,hk];exact j8 c hr.2
theorem nj{ks:List Int}{kvs:List (Int×Value)}{k:Int}(h:kvs.map (·.1)=ks):(valueAt kvs k).isSome=ks.contains k:=by
 subst h
 rw [dP,Bool.eq_iff_iff]
 simp [List.find?_isSome]
theorem nL{l:List V}{a:Addr}(hk:aO bB (.tup l)=true)(h:Rep B W (.tup l) (.ref a)):(eU prog w).is W.h l a:=by
 refine⟨?_,hk⟩
 exact Rep.key hk h
theorem gS(hA:A.units+50<cLine):(eU prog w).room A.in1:=by
 show A.in1.units+20<cLine
 simp only [Around.in1_units];lia
def InB(B:Base prog w)(A:Around)(W:Mo)(vx vc:Value)(b:Bool):Prop:=
 am B A W (compareOp .In vx vc) (.bool b) W.s/\am B A W (compareOp .NotIn vx vc) (.bool (!b)) W.s
theorem sJ{x:V}{vx:Value}{l:List V}{a:Addr}{its:Array Value}{b:Bool}(I:Inv B W)(hA:A.units+50<cLine)(hx:Rep B W x vx)(ho:W.h.PlainList a its)(hl:aA B W l its.toList)(h:inl x l=some b):InB B A W vx (.ref a) b:=by
 refine x12 (sk hA hl hx h) λf d c=>?_
 subst c
 exact⟨in_listAt f (ho.isList) d (Post.same I rfl rfl rfl λ_ _ _=>rfl),notIn_listAt f (ho.isList) d (Post.same I rfl rfl rfl λ_ _ _=>rfl)⟩
theorem wk{k:Int}{vx:Value}{a:Addr}{kvs:List (Int×Value)}{b:Bool}(I:Inv B W)(hx:Rep B W (.int k) vx)(hs:(a==sysModules)=false)(hd:W.h.DictOf (intKind prog w) a kvs)(hb:(valueAt kvs k).isSome=b):InB B A W vx (.ref a) b:=by
 obtain⟨t,rfl⟩:=hx
 have c:=hd.mapOf
 exact⟨wpAny_in_of (intKind_is _ _ _ _) hs c (Post.same I rfl rfl rfl λ_ _ _=>(by rw [hb];rfl)),
  wpAny_notIn_of (intKind_is _ _ _ _) hs c (Post.same I rfl rfl rfl λ_ _ _=>(by rw [hb];rfl))⟩
theorem uN{x c:V}{vx vc:Value}{b:Bool}(I:Inv B W)(hA:A.units+50<cLine)(hx:Rep B W x vx)(hc:Rep B W c vc)(h:isin W.s x c=some b):InB B A W vx vc b:=by
 replace h:=cz h
 rcases h with⟨_,h⟩|⟨_,h⟩
 ·
  replace h:=uz h
  obtain⟨O,N,rfl,h⟩:=h
  replace h:=bw h
  obtain⟨k,rfl,h⟩:=h
  obtain rfl:=Option.some.inj h
  obtain⟨a,D,rfl,H,K,r,u,i⟩:=hc
  exact wk I hx K r (nj u)
 replace h:=cz h
 rcases h with⟨_,h⟩|⟨_,h⟩
 ·replace h:=gR h
  obtain⟨l,rfl,h⟩:=h
  obtain⟨a,j,k,rfl,H,n,y,i⟩:=dr hc
  refine x12 (sk hA i hx h) λf v e=>?_
  subst e
  exact⟨in_tupleAt f ⟨_,n,rfl,_,rfl⟩ v (Post.same I rfl rfl rfl λ_ _ _=>rfl),notIn_tupleAt f ⟨_,n,rfl,_,rfl⟩ v (Post.same I rfl rfl rfl λ_ _ _=>rfl)⟩
 replace h:=cz h
 rcases h with⟨_,h⟩|⟨_,h⟩
 ·replace h:=gy h
  obtain⟨l,rfl,h⟩:=h
  obtain⟨a,j,rfl,H,n,y,i⟩:=dR hc
  exact sJ I hA hx n i h
 replace h:=Option.bind_eq_some_iff.mp h
 obtain⟨o,t,h⟩:=h
 obtain⟨a,d,rfl,z,C⟩:=cC I hc t
 try clear t
 cases o with
 |list l=>
  obtain⟨j,n,y,i⟩:=C
  exact sJ I hA hx n i h
 |idict l=>
  replace h:=bw h
  obtain⟨k,rfl,h⟩:=h
  obtain rfl:=Option.some.inj h
  obtain⟨D,r,u,y,i⟩:=C
  exact wk I hx (fF I z) r (jl (p:=λa=>a==k) (q:=λa=>decide (a=k)) (hW u k) i)
 |tdict l=>
  replace h:=gR h
  obtain⟨k,rfl,h⟩:=h
  refine x02 (cw h) λw g=>?_
  subst g
  obtain⟨L,r,u,y,i,J⟩:=C
  obtain⟨M,j,m,rfl,_⟩:=dr hx
  have F:(atKey L k).isSome=(tget l k).isSome:=by
   have:=jl (p:=λa=>V.beqs a k) (q:=λa=>decide (a=k)) (kb u k) (by simp only [List.map_map];exact i)
   rw [<-gp,Option.isSome_map] at this
   exact this
  exact⟨wpAny_in_heap (gS hA) (nL w hx) (fF I z) (r) (Post.same I rfl rfl rfl λ_ _ _=>(by rw [F];rfl)),
   wpAny_notIn_heap (gS hA) (nL w hx) (fF I z) (r) (Post.same I rfl rfl rfl λ_ _ _=>(by rw [F];rfl))⟩
 |_=>exact nn h
theorem pF{f:Int->Int->Bool}{a b:V}{r:Bool}(h:(vI a λa=>vI b λb=>some (f a b))=some r):∃i j,a=.int i/\b=.int j/\r=f i j:=
 x12 (bw h) λi e h=>
 x12 (bw h) λj c h=>
 ⟨i,j,e,c,(Option.some.inj h).symm⟩
theorem is1{v:V}(h:Nat.beq v.ctorIdx 1=true):v=.none:=V.none.elim (motive_1:=λv=>v=.none) v (Nat.eq_of_beq_eq_true h) rfl
theorem uP{op:Cop}{a b:V}{x y:Value}{r:Bool}(I:Inv B W)(hA:A.units+50<cLine)(ha:Rep B W a x)(hb:Rep B W b y)(h:lb W.s op a b=some r):
  am B A W (compareOp (sV op) x y) (.bool r) W.s:=by
 cases op with
 |eq=>exact zp I hA ha hb h prog w _ _ (Post.same I rfl rfl rfl λ_ _ _=>rfl)
 |ne=>
  replace h:=bg h
  obtain⟨e,h⟩:=h
  refine x12 (Option.map_eq_some_iff.mp h) λq hq c=>?_
  subst c
  exact vf I hA ha hb e hq prog w _ _ (Post.same I rfl rfl rfl λ_ _ _=>rfl)
 |isin=>exact(uN I hA ha hb h).1
 |notin=>
  refine x12 (Option.map_eq_some_iff.mp h) λq hq d=>?_
  subst d
  exact(uN I hA ha hb hq).2
 |isnot=>
  replace h:=cz h
  rcases h with⟨hb1,h⟩|⟨_,h⟩
  ·cases is1 hb1
   obtain rfl:=hb
   replace h:=cz h
   rcases h with⟨ha1,h⟩|⟨_,h⟩
   ·cases is1 ha1
    obtain rfl:=ha;obtain rfl:=Option.some.inj h
    exact isNot_none (Post.same I rfl rfl rfl λ_ _ _=>rfl)
   ·replace h:=nJ h
    obtain⟨s,rfl,h⟩:=h
    obtain⟨t,rfl⟩:=ha;obtain rfl:=Option.some.inj h
    exact isNot_none (Post.same I rfl rfl rfl λ_ _ _=>rfl)
  ·exact nn h
 |lt=>
  obtain⟨i,j,rfl,rfl,rfl⟩:=pF h
  obtain⟨t,rfl⟩:=ha;obtain⟨u,rfl⟩:=hb
  exact lt_int (Post.same I rfl rfl rfl λ_ _ _=>rfl)
 |gt=>
  obtain⟨i,j,rfl,rfl,rfl⟩:=pF h
  obtain⟨t,rfl⟩:=ha;obtain⟨u,rfl⟩:=hb
  exact gt_int (Post.same I rfl rfl rfl λ_ _ _=>rfl)
 |ge=>
  obtain⟨i,j,rfl,rfl,rfl⟩:=pF h
  obtain⟨t,rfl⟩:=ha;obtain⟨u,rfl⟩:=hb
  exact ge_int (Post.same I rfl rfl rfl λ_ _ _=>rfl)
theorem iK:lim=1048576:=rfl
theorem aA.size{l:List V}{its:Array Value}(h:aA B W l its.toList):l.length=its.size:=by
 refine h.length▸?_;simp
theorem kA{l:List V}{its:Array Value}(h:aA B W l its.toList):its.isEmpty=l.isEmpty:=by
 have:=h.size
 cases l with
 |nil=>simp at this;simp [Array.isEmpty,this.symm]
 |cons a r=>
  simp only [List.length_cons] at this
  simp only [Array.isEmpty,List.isEmpty_cons]
  lia
def Truth(B:Base prog w)(A:Around)(W:Mo)(t:Sem Bool)(b:Bool)(s':S):Prop:=
 wpAny (model prog w) A t (Post B W s' λ_ c=>c=b) (λ_ _=>False) W.sh
theorem lh{v:V}{x:Value}{b:Bool}{Q:Bool->Shared->Prop}{E:Value->Shared->Prop}(I:Inv B W)(hx:Rep B W v x)(h:truth W.s v=some b)(hQ:∀tk,Q b {W.sh with toks:=tk}):
  wpAny (model prog w) A (truthy x) Q E W.sh:=by
 have m:=iK
 have lst:∀ {a:Addr} {c:Array Value} {l:List V},W.h.PlainList a c->l.length<=lim->aA B W l c.toList->some (!l.isEmpty)=some b->wpAny (model prog w) A (truthy (.ref a)) Q E W.sh:=by
  intro a c l f j e h
  obtain rfl:=Option.some.inj h
  have z:=e.size
  exact wpAny_truthy_list (f.isList) (by omega) (by exact(kA e)▸hQ _)
 cases v with
 |none=>obtain rfl:=Option.some.inj h;obtain rfl:=hx;exact truthy_none (hQ W.sh.toks)
 |bool p=>obtain rfl:=Option.some.inj h;obtain rfl:=hx;exact wpAny_truthy_bool (hQ W.sh.toks)
 |int p=>obtain rfl:=Option.some.inj h;obtain⟨t,rfl⟩:=hx;exact P.truthy_int (hQ W.sh.toks)
 |tup l=>
  obtain rfl:=Option.some.inj h
  obtain⟨a,c,k,rfl,q,f,j,e⟩:=dr hx
  have z:=e.size
  exact truthy_tuple ⟨_,f,rfl,_,rfl⟩ (by omega) (by exact(kA e)▸hQ _)
 |lst l=>
  obtain⟨a,c,rfl,q,f,j,e⟩:=dR hx
  exact lst f j e h
 |ref i=>
  replace h:=eN h
  obtain⟨l,g,h⟩:=h
  obtain⟨a,d,rfl,n,c,f,j,e⟩:=cC I hx g
  exact lst f j e h
 |tmp i=>
  replace h:=eN h
  obtain⟨l,g,h⟩:=h
  obtain⟨a,d,rfl,n,c,f,j,e⟩:=cC I hx (o:=.list l) g
  exact lst f j e h
 |_=>exact nn h
theorem eJ{v:V}{x:Value}{b:Bool}(I:Inv B W)(hx:Rep B W v x)(h:truth W.s v=some b):Truth B A W (truthy x) b W.s:=
 lh I hx h λa=>Post.same I rfl rfl rfl λ_ _ _=>rfl
theorem index?_seq{n:Nat}{i:Int}{j:Nat}(h:index? n i=some j):seqIndex? i n=some j/\ -(n:Int)<=i/\i<n:=by
 unfold index? at h
 split at h
 ·split at h
  ·obtain rfl:=Option.some.inj h
   rename_i h1 h2
   exact i03 (seqIndex_of h1 h2) (by omega) h2
  ·exact nn h
 ·split at h
  ·obtain rfl:=Option.some.inj h
   rename_i h1 h2
   exact i03 (PySem.seqIndex_neg (by omega) (by omega)) (by omega) (by omega)
  ·exact nn h
def Items(B:Base prog w)(A:Around)(W:Mo)(x i:Value)(r:V):Prop:=
 ∃T id,W.sh.TypeIs x T/\typeLookup (.type T) "__getitem__" =pure (some (.builtin id))/\(∃a,x=.ref a)/\am B A W (getItem x i) r W.s
theorem lG{l:List V}{a:Addr}{its:Array Value}{i:Int}{t:Tok}{r:V}{j:Nat}(I:Inv B W)(ho:W.h.PlainList a its)(hz:l.length<=lim)(hl:aA B W l its.toList)
  (hj:index? l.length i=some j) (hr:l[j]?=some r):Items B A W (.ref a) (.int i t) r:=by
 refine x03 (index?_seq hj) λe f g=>?_
 refine x12 (hl.get hr) λx c d=>?_
 have z:=hl.size
 have b:its[j]?=some x:=by simpa using c
 refine i24 ("list") _ ((ho.isList:W.h.IsList a its).typeIs) slot_list_getitem.lookup ⟨_,rfl⟩ ?_
 unfold index? at hj
 by_cases c1:0<=i
 ·rw [if_pos c1,if_pos g] at hj
  obtain rfl:=Option.some.inj hj
  exact wpAny_getItem_list (ho.isList) (by omega) (by lia) b (Post.here I d)
 ·rw [if_neg c1] at hj
  try clear c;try clear f;try clear e;try clear hr
  split at hj
  ·obtain rfl:=Option.some.inj hj
   exact wpAny_getItem_list_neg (ho.isList) (by lia) (by lia) (by lia) (by exact z▸b) (Post.here I d)
  ·exact nn hj
theorem nT{c i r:V}{x y:Value}(I:Inv B W)(hA:A.units+50<cLine)(hc:Rep B W c x)(hi:Rep B W i y)(h:item W.s c i=some r):Items B A W x y r:=by
 have T:=iK
 have int:∀ {a:Addr} {g:List (Int×Value)} {k:Int} {v:Value},Rep B W (.int k) y->W.h.DictOf (intKind prog w) a g->valueAt g k=some v->Rep B W r v->Items B A W (.ref a) y r:=by
  intro a g k v hi D u C
  obtain⟨t,rfl⟩:=hi
  have H:=(D:W.h.DictOf (intKind prog w) a g).mapOf
  exact i24 ("dict") _ H.typeIs slot_dict_getitem.lookup ⟨_,rfl⟩ (wpAny_getItem_of (intKind_is _ _ _ _) H u (Post.keep I rfl rfl rfl C))
 replace h:=cz h
 rcases h with⟨_,h⟩|⟨_,h⟩
 ·replace h:=gR h
  obtain⟨l,rfl,h⟩:=h
  replace h:=bw h
  obtain⟨i,rfl,h⟩:=h
  refine x12 (iJ h) λj O N=>?_
  refine x11 hi λt f=>?_
  subst f
  obtain⟨a,F,k,rfl,U,L,K,n⟩:=dr hc
  refine x03 (index?_seq O) λq1 q2 q3=>?_
  refine x12 (n.get N) λx hx hv=>?_
  have z:=n.size
  have Y:IsTup W.h a F:=⟨_,L,rfl,_,rfl⟩
  exact i24 ("tuple") _ ⟨_,L,rfl⟩ slot_tuple_getitem.lookup ⟨_,rfl⟩ (getItem_tuple Y (by lia) (by lia) (by exact z▸q1) (by simpa using hx) (Post.here I hv))
 replace h:=cz h
 rcases h with⟨_,h⟩|⟨_,h⟩
 ·replace h:=gy h
  obtain⟨l,rfl,h⟩:=h
  replace h:=bw h
  obtain⟨i,rfl,h⟩:=h
  obtain⟨j,O,N⟩:=iJ h
  obtain⟨t,rfl⟩:=hi
  obtain⟨a,F,rfl,U,L,K,n⟩:=dR hc
  exact lG I L K n O N
 replace h:=cz h
 rcases h with⟨_,h⟩|⟨_,h⟩
 ·replace h:=uz h
  obtain⟨ks,vs,rfl,h⟩:=h
  replace h:=bw h
  obtain⟨k,rfl,h⟩:=h
  obtain⟨a,g,rfl,U,hs,D,J,n⟩:=hc
  have:=j8 (k:=k) J n
  replace this:=(show kget ks vs k=some r from h)▸this
  refine x12 this λv u C=>?_
  exact int hi D u C
 replace h:=Option.bind_eq_some_iff.mp h
 obtain⟨o,M,h⟩:=h
 obtain⟨a,d,rfl,hF,P⟩:=cC I hc M
 try clear M
 cases o with
 |list l=>
  replace h:=bw h
  obtain⟨i,rfl,h⟩:=h
  obtain⟨F,L,K,n⟩:=P
  refine x12 (q8 h) λj O N=>?_
  obtain⟨t,rfl⟩:=hi
  exact lG I L K n O N
 |idict l=>
  replace h:=bw h
  obtain⟨k,rfl,h⟩:=h
  obtain⟨g,D,J,K,n⟩:=P
  refine x12 (cY (p:=λa=>a==k) (q:=λa=>decide (a=k)) (hW J k) n h) λv u C=>?_
  exact int hi D u C
 |sdict l=>
  replace h:=nJ h
  refine cp λ_ Q=>?_
  obtain⟨k,rfl,h⟩:=h
  obtain⟨g,D,J,K,n⟩:=P
  refine x11 hi λt b=>?_
  subst b
  have H:=(D:W.h.DictOf (PySem.strKind prog w) a g).mapOf
  refine x12 (cY (p:=λa=>seqb a k) (q:=λa=>decide (a=k)) (v6 J k) n h) λv u C=>?_
  refine Q ?_
  exact i24 ("dict") _ H.typeIs slot_dict_getitem.lookup ⟨_,rfl⟩ (wpAny_getItem_of (strKind_is _ _ _ _) H u (Post.keep I rfl rfl rfl C))
 |tdict l=>
  replace h:=gR h
  refine cp λ_ Q=>?_
  obtain⟨k,rfl,h⟩:=h
  replace h:=bg h
  refine x02 h λR h=>?_
  obtain⟨xs,D,J,K,n,X⟩:=P
  obtain⟨ax,F,m,rfl,_⟩:=dr hi
  refine x12 (cY (p:=λa=>V.beqs a k) (q:=λa=>decide (a=k)) (kb J k) (by simp only [List.map_map];exact n) h) λv u C=>?_
  rw [<-gp] at u
  refine x12 (Option.map_eq_some_iff.mp u) λp Z e=>?_
  subst e
  refine Q ?_
  have H:W.h.DictOfH (eU prog w) a xs:=D
  exact i24 ("dict") _ H.typeIs slot_dict_getitem.lookup ⟨_,rfl⟩ (wpAny_getItem_heap (gS hA) (nL R hi) H Z (Post.keep I rfl rfl rfl C))
 |inst c fs=>exact nn h
theorem cl:∀ {l m:List V},aD (l++m)=(aD l&&aD m):=by
 intro a
 induction a with
 |nil=>exact @λ_=>rfl
 |cons v r cl=>exact @λm=>by simp [aD,cl,Bool.and_assoc]
theorem dU:∀ {l:List V},aD l=true↔∀v∈l,aV v=true:=by
 intro a
 induction a with
 |nil=>exact by simp [aD]
 |cons v r dU=>exact by simp [aD,dU]
theorem Inv.cleanOb(I:Inv B W){v:V}{o:Ob}(h:W.s.ob v=some o):o.clean=true:=by
 unfold S.ob at h
 split at h
 ·exact I.nt o (.inl (List.mem_of_getElem? h))
 ·exact I.nt o (.inr (List.mem_of_getElem? h))
 ·exact nn h
def CL(B:Base prog w)(W:Mo)(h':Heap)(s':S):Prop:=
 ∀ {α:Type} {P:Mo->α->Prop} {x:α} {sh':Shared},sh'.heap=h'->Sm W.sh sh'->(∀W',Carry W W'->P W' x)->Post B W s' P x sh'
theorem Inv.putAt(I:Inv B W){v:V}{a:Addr}{o o':Ob}{h':Heap}(hr:Rep B W v (.ref a))(ho:W.s.ob v=some o)(h1:o.isInst=false)(h2:o'.isInst=false)(hcl:o'.clean=true)
  (hs:Heap.SameBut a W.h h') (hd:(h'.get? a).isSome) (R:∀W',Carry W W'->W'.h=h'->∀d,bR B W' o' a d):
  ∃s',W.s.put v o'=some s'/\CL B W h' s':=by
 unfold S.ob at ho
 split at ho
 ·obtain⟨j,c⟩:=hr
  injection c with c
  subst c
  refine i12 _ rfl (λ{α P x sh'} e m p=>?_)
  subst e
  obtain⟨i,f⟩:=I.putPerm ho (h2.trans h1.symm) hcl (.inl rfl) (sh':=sh') (λb x g e=>(hs.2 b g).trans e) hd m λC=>R _ C rfl _
  exact⟨_,rfl,rfl,i,f,p _ (f.carry I λ_ q=>q.elim)⟩
 ·obtain⟨j,c⟩:=hr
  injection c with c
  subst c
  refine i12 _ rfl (λ{α P x sh'} e m p=>?_)
  subst e
  obtain⟨i,f⟩:=I.putTmp ho h2 hcl (sh':=sh') (λb x g e=>(hs.2 b g).trans e) hd m λC=>R _ C rfl _
  exact⟨_,rfl,rfl,i,f,p _ (f.carry I λ_ q=>q.elim)⟩
 ·exact nn ho
theorem gg{K:Type}[DecidableEq K]{knd:PySem.KeyKind prog w K}{h:Heap}{a:Addr}{kvs:List (K×Value)}(x:h.DictOf knd a kvs):(h.get? a).isSome:=by
 obtain⟨o,b⟩:=kH x;refine b▸?_;rfl
theorem eW{K:Type}[DecidableEq K]{l:List (K×V)}{kvs:List (K×Value)}{p:K->Bool}{k:K}{v:V}{x:Value}(hk:kvs.map (·.1)=l.map (·.1))(hp:∀a,p a=decide (a=k)):
  (stored kvs k x).map (·.1)=(if l.any (λy=>p y.1) then l.map (λy=>if p y.1 then(y.1,v) else y) else l++[(k,v)]).map (·.1):=by
 have e:l.any (λy=>p y.1)=kvs.any (λy=>decide (y.1=k)):=by
  have c:l.any (λy=>p y.1)=(l.map (·.1)).any p:=by simp only [List.any_map];rfl
  have b:kvs.any (λy=>decide (y.1=k))=(kvs.map (·.1)).any p:=by simp only [List.any_map];exact congrArg _ (funext λy=>(hp y.1).symm)
  simp only [c,b,hk]
 unfold stored
 rw [e]
 split
 ·simp only [on,<-hk]
  simp only [List.map_map]
  refine List.map_congr_left λy _=>?_
  simp only [Function.comp_apply];split<;>rfl
 ·simp [hk]
theorem eV{K:Type}[DecidableEq K]{l:List (K×V)}{kvs:List (K×Value)}{p:K->Bool}{k:K}{v:V}{x:Value}(hk:kvs.map (·.1)=l.map (·.1))(hp:∀a,p a=decide (a=k))
  (hl:aA B W (l.map (·.2)) (kvs.map (·.2))) (hv:Rep B W v x):
  aA B W ((if l.any (λy=>p y.1) then l.map (λy=>if p y.1 then(y.1,v) else y) else l++[(k,v)]).map (·.2)) ((stored kvs k x).map (·.2)):=by
 have b:l.map (λx=>p x.1)=kvs.map (λx=>decide (x.1=k)):=by
  have c:l.map (λx=>p x.1)=(l.map (·.1)).map p:=by simp only [List.map_map];rfl
  have d:kvs.map (λx=>decide (x.1=k))=(kvs.map (·.1)).map p:=by simp only [List.map_map];exact List.map_congr_left λy _=>(hp y.1).symm
  simp only [c,d,hk]
 have e:=nz (q:=λa=>decide (a=k)) b
 unfold stored
 rw [e]
 split
 ·have:=l8 (q:=λa=>decide (a=k)) hv b hl
  simpa using this
 ·simp only [List.map_append]
  exact hl.append ⟨hv,trivial⟩
theorem eM{K:Type}{l:List (K×V)}{p:K->Bool}{k:K}{v:V}(hv:aV v=true)(h:aD (l.map (·.2))=true):
  aD ((if l.any (λy=>p y.1) then l.map (λy=>if p y.1 then(y.1,v) else y) else l++[(k,v)]).map (·.2))=true:=by
 rw [dU] at h ⊢
 intro u d
 refine x12 (List.mem_map.mp d) λy c a=>?_
 try clear d
 subst a
 split at c
 ·refine x12 (List.mem_map.mp c) λz e b=>?_
  subst b
  split
  ·exact hv
  ·exact h _ (List.mem_map.mpr ⟨z,e,rfl⟩)
 ·refine(List.mem_append.mp c).elim (λq=>?_) (λq=>?_)
  ·exact h _ (List.mem_map.mpr ⟨y,q,rfl⟩)
  ·rw [List.mem_singleton] at q;subst q;exact hv
theorem jw{K:Type}{l:List (K×V)}{p:K->Bool}{k:K}{v:V}{m:Nat}(h:l.length<m):
  (if l.any (λy=>p y.1) then l.map (λy=>if p y.1 then(y.1,v) else y) else l++[(k,v)]).length<=m:=by
 split
 ·simp only [List.length_map];omega
 ·simp;omega
theorem aA.set{l:List V}{xs:List Value}{v:V}{x:Value}(hv:Rep B W v x):∀ {l:List V} {xs:List Value} {i:Nat},aA B W l xs->aA B W (l.set i v) (xs.set i x)
 |[],[],_,_=>trivial
 |[],_::_,_,h=>h.elim
 |_::_,[],_,h=>h.elim
 |_::_,_::_,0,h=>⟨hv,h.2⟩
 |_::_,_::_,i+1,h=>⟨h.1,aA.set (l:=l) (xs:=xs) hv h.2⟩
theorem mq(its:Array Value)(n:Nat)(f:Array Value->Array Value):
  ∃n',Obj.mapSeq f {cls:=.type "list",data:=.seq its n}={cls:=.type "list",data:=.seq (f its) n'}:=⟨_,rfl⟩
theorem dC{h:Heap}{l:Addr}{its:Array Value}{n:Nat}(ho:h.get? l=some {cls:=.type "list",data:=.seq its n})(f:Array Value->Array Value):(h.update l (Obj.mapSeq f)).PlainList l (f its):=by
 refine x11 (mq its n f) λa e=>?_
 exact⟨a,by rw [Heap.get?_update_self _ ho (e▸rfl),e]⟩
theorem pY{s:Shared}{l:Addr}{items:Array Value}{k:Int}{t:Tok}{v:Value}{Q:Unit->Shared->Prop}{E:Value->Shared->Prop}(hl:s.heap.PlainList l items)
  (h0:0<=k) (hfit:k<2 ^ 63) (hn:k<items.size)
  (hQ:∀h',h'.PlainList l (items.setIfInBounds k.toNat v)->Heap.SameBut l s.heap h'->Q () {s with heap:=h'}):
  wpAny (model prog w) A (PySem.setItem (Value.ref l) (Value.int k t) v) Q E s:=by
 have c:=hl.isList
 refine x11 hl λf d=>?_
 unfold PySem.setItem
 try with_reducible refine wpAny_holding ?_
 first|refine wpAny_bind (wpAny_pure ?_)|skip
 refine wpAny_bind (wpAny_sequenceKey c.typeIs rfl ?_)
 refine wpAny_bind (wpAny_callSpecial?_slot c.typeIs slot_list_setitem
  (wpAny_call_entry slot_list_setitem c.typeIs entry_list_setitem ?_ (args_list_setitem _ _ _)))
 show wpAny _ _ (Builtin.List.listSubscript? (.int k t)>>=_) _ _ s
 refine wpAny_bind (wpAny_listSubscript_int (fitsIndex_of h0 hfit) ?_)
 obtain⟨j,rfl⟩:=Int.eq_ofNat_of_zero_le h0
 have e:j<items.size:=by omega
 have b:items[j]?=some items[j]:=Array.getElem?_eq_getElem e
 refine wpAny_bind (wpAny_bind (wpAny_seqItemAt d rfl (wpAny_pure ?_)))
 refine b▸?_
 have a:=dC d (·.setIfInBounds j v)
 refine wpAny_bind (wpAny_setSeqItemAt d rfl ?_)
 first
  |exact wpAny_bind (wpAny_pure (wpAny_pure ⟨.none,rfl,wpAny_pure (hQ _ a (Heap.SameBut.update ..))⟩))
  |exact wpAny_pure ⟨.none,rfl,wpAny_pure (hQ _ a (Heap.SameBut.update ..))⟩
theorem mt{α β γ:Type}{l:List (α×β)}{m:List (α×γ)}(h:m.map (·.1)=l.map (·.1)):m.length=l.length:=by simpa using congrArg List.length h
theorem i5{K:Type}[DecidableEq K](xs:List (K×Addr×Value))(k:K)(a:Addr)(v:Value):(storedH xs k a v).map (λx=>(x.1,x.2.2))=stored (xs.map (λx=>(x.1,x.2.2))) k v:=by
 have e:(atKey xs k).isSome=(xs.map (λx=>(x.1,x.2.2))).any (λy=>decide (y.1=k)):=by
  have:((atKey xs k).map (·.2)).isSome=(atKey xs k).isSome:=Option.isSome_map ..
  rw [<-this,gp,Option.isSome_map,Bool.eq_iff_iff,List.find?_isSome]
  simp
  exact⟨λc=>x21 c λa b h=>i21 b a h,λd=>x21 d λa b h=>i21 b a h⟩
 unfold storedH stored
 rw [e]
 split
 ·simp only [List.map_map]
  refine List.map_congr_left λy _=>?_
  dsimp only [Function.comp_apply,putAt];split<;>rfl
 ·simp
theorem nP{K:Type}[DecidableEq K]{xs:List (K×Addr×Value)}{k:K}{a:Addr}{v:Value}{x:K×Addr×Value}(h:x∈storedH xs k a v):(∃y∈xs,y.1=x.1/\y.2.1=x.2.1)\/(x.1=k/\x.2.1=a):=by
 unfold storedH at h
 split at h
 ·refine x12 (List.mem_map.mp h) λy c b=>?_
  subst b
  refine .inl (i12 y c ?_)
  unfold putAt;split<;>exact⟨rfl,rfl⟩
 ·refine(List.mem_append.mp h).elim (λq=>?_) (λq=>?_)
  ·exact .inl (i13 x q rfl rfl)
  ·rw [List.mem_singleton] at q;subst q;exact .inr ⟨rfl,rfl⟩
theorem pv{k:List V}(a:List V):V.beqs a k=decide (a=k):=by rw [Bool.eq_iff_iff,V.beqs_iff];simp
theorem i6{c i v:V}{x y z:Value}{s':S}(I:Inv B W)(hA:A.units+50<cLine)(hc:Rep B W c x)(hi:Rep B W i y)(hv:Rep B W v z)(h:setItem W.s c i v=some s'):
  wpAny (model prog w) A (PySem.setItem x y z) (Post B W s' λ_ _=>True) (λ_ _=>False) W.sh:=by
 have Z:=cu
 replace h:=bg h
 obtain⟨D,h⟩:=h
 replace h:=Option.bind_eq_some_iff.mp h
 obtain⟨o,g,h⟩:=h
 cases o with
 |list l=>
  replace h:=bw h
  try clear Z
  obtain⟨i,rfl,h⟩:=h
  replace h:=bg h
  refine x02 h λr h=>?_
  refine x02 (b2 r) λz0 z3=>?_
  have z0:=of_decide_eq_true z0
  have z3:=of_decide_eq_true z3
  obtain⟨t,rfl⟩:=hi
  obtain⟨a,d,rfl,Y,a3,T,f,F⟩:=cC I hc g
  have z1:=F.size
  refine pY (T) z0 (by lia) (by omega) λR n H=>?_
  refine x12 (I.putAt hc g (o':=.list (l.set i.toNat v)) rfl rfl
   (by have:=I.cleanOb g;simp only [Ob.clean] at this ⊢;rw [dU] at this ⊢;intro u hu;rcases List.mem_or_eq_of_mem_set hu with q|q;exact this _ q;exact q▸D)
   H (by obtain⟨k,j⟩:=n;rw [j];rfl) λQ C L d=>⟨_,L▸n,by simp only [List.length_set];exact f,by simp only [Array.toList_setIfInBounds];exact aA.set (l:=[]) (xs:=[]) (hv.mono C) (F.mono C)⟩) λK M J=>?_
  exact Option.some.inj (M.symm.trans h)▸J rfl ⟨rfl,rfl⟩ λ_ _=>trivial
 |idict l=>
  replace h:=bw h
  obtain⟨k,rfl,h⟩:=h
  replace h:=bg h
  obtain⟨r,h⟩:=h
  obtain⟨t,rfl⟩:=hi
  obtain⟨a,d,rfl,Y,a5,N,j,f,F⟩:=cC I hc g
  refine wpAny_setItem_pairs (intKind_is _ _ _ _) (N) (λR n H=>?_) (by have:=mt j;lia)
  obtain⟨K,M,J⟩:=I.putAt hc g (o':=.idict (iput l k v)) rfl rfl (by have:=I.cleanOb g;exact eM (p:=λa=>a==k) D this)
   H (gg n) λQ C L d=>⟨_,L▸n,eW (p:=λa=>a==k) j (λa=>by rw [Bool.eq_iff_iff];simp),jw (p:=λa=>a==k) r,eV (p:=λa=>a==k) j (λa=>by rw [Bool.eq_iff_iff];simp) (F.mono C) (hv.mono C)⟩
  exact Option.some.inj (M.symm.trans h)▸J rfl ⟨rfl,rfl⟩ λ_ _=>trivial
 |sdict l=>
  replace h:=nJ h
  obtain⟨k,rfl,h⟩:=h
  replace h:=bg h
  obtain⟨r,h⟩:=h
  obtain⟨t,rfl⟩:=hi
  obtain⟨a,d,rfl,Y,a5,N,j,f,F⟩:=cC I hc g
  refine wpAny_setItem_pairs (strKind_is _ _ _ _) (N) (λR n H=>?_) (by have:=mt j;lia)
  obtain⟨K,M,J⟩:=I.putAt hc g (o':=.sdict (sput l k v)) rfl rfl (by have:=I.cleanOb g;exact eM (p:=λa=>seqb a k) D this)
   H (gg n) λQ C L d=>⟨_,L▸n,eW j (λa=>dz),jw (p:=λa=>seqb a k) r,eV j (λa=>dz) (F.mono C) (hv.mono C)⟩
  exact Option.some.inj (M.symm.trans h)▸J rfl ⟨rfl,rfl⟩ λ_ _=>trivial
 |tdict l=>
  replace h:=gR h
  obtain⟨k,rfl,h⟩:=h
  replace h:=bg h
  refine x02 h λr h=>?_
  replace r:=b2 r
  obtain⟨a0,r⟩:=r
  obtain⟨O,a3,m,rfl,_⟩:=dr hi
  obtain⟨a,d,rfl,Y,xs,N,j,f,F,P⟩:=cC I hc g
  refine wpAny_setItem_heap (gS hA) (nL a0 hi) (N) (λR n H=>?_) (by have:=mt j;lia)
  have hm:(xs.map (λx=>(x.1,x.2.2))).map (·.1)=l.map (·.1):=by rw [List.map_map];exact j
  have X:aA B W (l.map (·.2)) ((xs.map (λx=>(x.1,x.2.2))).map (·.2)):=by simp only [List.map_map];exact F
  have f1:(storedH xs k O z).map (·.1)=((storedH xs k O z).map (λx=>(x.1,x.2.2))).map (·.1):=by simp only [List.map_map];rfl
  have f2:(storedH xs k O z).map (·.2.2)=((storedH xs k O z).map (λx=>(x.1,x.2.2))).map (·.2):=by simp only [List.map_map];rfl
  obtain⟨K,M,J⟩:=I.putAt hc g (o':=.tdict (tput l k v)) rfl rfl (by have:=I.cleanOb g;exact eM (p:=λa=>V.beqs a k) D this)
   H (by obtain⟨o,_,_,T,_⟩:=n;refine T▸?_;rfl) λQ C L d=>⟨_,L▸n,by simp only [f1,i5];exact eW hm pv,jw (p:=λa=>V.beqs a k) (of_decide_eq_true r),
    by simp only [f2,i5];exact eV hm pv (X.mono C) (hv.mono C),λx hx=>by
     refine(nP hx).elim (λb=>?_) (λe=>?_)
     ·refine x13 b λy hy e1 U=>?_
      refine e1▸U▸?_;exact(P y hy).mono C
     ·refine x02 e λe1 U=>?_
      refine e1▸U▸?_;exact hi.mono C⟩
  exact Option.some.inj (M.symm.trans h)▸J rfl ⟨rfl,rfl⟩ λ_ _=>trivial
 |inst c fs=>exact nn h
noncomputable def nr:BM->Str
 |.append=>"append" |.pop=>"pop" |.extend=>"extend" |.get=>"get"
noncomputable def Ag:BM->String
 |.append=>"list.append" |.pop=>"list.pop" |.extend=>"list.extend" |.get=>"dict.get"
noncomputable def bmT:BM->String
 |.get=>"dict" |_=>"list"
def Method(B:Base prog w)(A:Around)(W:Mo)(T id:String)(nm:Str)(x:Value)(xs:List Value)(r:V)(s':S):Prop:=
 PlainAttrs T/\Slot T nm id/\typeOf (.builtin id)=pure (.type "method_descriptor")/\W.sh.TypeIs x T/\(∀a,x=.ref a->∃ob,W.h.get? a=some ob/\ob.dict=none)/\(∃a,x=.ref a)/\
  am B A W (call (.builtin id) (x::xs)) r s'
theorem iI{nm:Str}{id:String}{a:Addr}{its:Array Value}{xs:List Value}{r:V}{s':S}(ho:W.h.PlainList a its)(slot:Slot "list" nm id)(ty:typeOf (.builtin id)=pure (.type "method_descriptor"))
  (h:am B A W (call (.builtin id) (.ref a::xs)) r s'):Method B A W "list" id nm (.ref a) xs r s':=
 ⟨F.plainAttrs_list,slot,ty,ho.isList.typeIs,λb e=>by injection e with e;subst e;obtain⟨k,c⟩:=ho;exact i12 _ c rfl,⟨_,rfl⟩,h⟩
theorem pU{o v:V}{l:List V}{x y:Value}{s':S}(I:Inv B W)(hx:Rep B W o x)(hy:Rep B W v y)(hob:W.s.ob o=some (.list l))(hnt:aV v=true)(hz:l.length<lim)
  (h:W.s.put o (.list (l++[v]))=some s'):Method B A W "list" "list.append" "append" x [y] .none s':=by
 have p:=cu
 obtain⟨a,d,rfl,u,r,f,b,c⟩:=cC I hx hob
 have z:=c.size
 refine iI (f) F.slot_list_append F.type_list_append (wpAny_list_append_plain (f) (λw e i=>?_) (by lia))
 refine x12 (I.putAt hx hob (o':=.list (l++[v])) rfl rfl (by have:=I.cleanOb hob;simp only [Ob.clean] at this ⊢;simp only [cl,this];simp [aD,hnt])
  i (by obtain⟨k,n⟩:=e;rw [n];rfl) λt C q d=>⟨_,q▸e,by simp;omega,by simp only [Array.toList_push];exact(c.mono C).append ⟨hy.mono C,trivial⟩⟩) λm g j=>?_
 rw [h] at g;obtain rfl:=Option.some.inj g
 exact j rfl ⟨rfl,rfl⟩ λ_ _=>rfl
theorem aA.dropLast:∀ {l:List V} {xs:List Value},aA B W l xs->aA B W l.dropLast xs.dropLast
 |[],[],_=>trivial
 |[],_::_,h=>h.elim
 |_::_,[],h=>h.elim
 |[_],[_],_=>trivial
 |[_],_::_::_,h=>by simp [aA] at h
 |_::_::_,[_],h=>by simp [aA] at h
 |_::b::r,_::y::q,h=>⟨h.1,aA.dropLast (l:=b::r) (by exact h.2)⟩
theorem rM(its:Array Value):(its.eraseIdxIfInBounds (its.size - 1)).toList=its.toList.dropLast:=by
 unfold Array.eraseIdxIfInBounds
 split
 ·simp only [Array.toList_eraseIdx,List.dropLast_eq_take,List.eraseIdx_eq_take_drop_succ]
  simp only [Array.length_toList]
  rw [List.drop_of_length_le (by simp only [Array.length_toList];omega),List.append_nil]
 ·have:its.size=0:=by omega
  have:its= #[]:=Array.eq_empty_of_size_eq_zero this
  subst this;rfl
theorem xc{o v:V}{l:List V}{x:Value}{s':S}(I:Inv B W)(hx:Rep B W o x)(hob:W.s.ob o=some (.list l))(hv:l.getLast?=some v)
  (h:W.s.put o (.list l.dropLast)=some s'):Method B A W "list" "list.pop" "pop" x [] v s':=by
 have w:=cu
 refine cp λ_ r=>?_
 obtain⟨a,d,rfl,M,c,m,b,i⟩:=cC I hx hob
 have z:=i.size
 refine r ?_
 have g:l[l.length - 1]?=some v:=by exact(List.getLast?_eq_getElem?)▸hv
 refine x12 (i.get g) λy J f=>?_
 have t:c[c.size - 1]?=some y:=by refine z▸?_;simpa using J
 refine x11 (id m) λk e=>?_
 refine iI (m) F.slot_list_pop F.type_list_pop (call_meets F.slot_list_pop ⟨_,e,rfl⟩ F.entry_list_pop (F.args_list_pop_1 _) (PySem.MeetsSeq.list_pop_last a c k y t (by lia)) ⟨e,?_⟩)
 have j:=dC e (λK=>K.eraseIdxIfInBounds (c.size - 1))
 refine x12 (I.putAt hx hob (o':=.list l.dropLast) rfl rfl (by have:=I.cleanOb hob;simp only [Ob.clean] at this ⊢;rw [dU] at this ⊢;exact λu H=>this u (List.dropLast_subset _ H))
  (Heap.SameBut.update ..) (by obtain⟨k,e⟩:=j;rw [e];rfl) λL C D d=>⟨_,D▸j,by simp;omega,by simp only [rM];exact(i.mono C).dropLast⟩) λq n p=>?_
 rw [h] at n;obtain rfl:=Option.some.inj n
 exact p rfl ⟨rfl,rfl⟩ λ_ C=>f.mono C
theorem pR{o:V}{l m:List V}{x y:Value}{s':S}(I:Inv B W)(hx:Rep B W o x)(hy:Rep B W (.lst m) y)(hob:W.s.ob o=some (.list l))(hnt:aD m=true)(hz:l.length+m.length<=lim)
  (h:W.s.put o (.list (l++m))=some s'):Method B A W "list" "list.extend" "extend" x [y] .none s':=by
 have z:=cu
 obtain⟨a,d,rfl,M,j,t,c,q⟩:=cC I hx hob
 obtain⟨b,f,rfl,J,n,e,i⟩:=dR hy
 have O:=q.size
 have N:=i.size
 refine x11 (id t) λk g=>?_
 refine x11 (id n) λH p=>?_
 refine iI (t) F.slot_list_extend F.type_list_extend (call_meets F.slot_list_extend ⟨_,g,rfl⟩ F.entry_list_extend (F.args_list_extend_2 _ _)
  (PySem.AutoSeq1.list_extend_list_list_0 a j k b f H ?_ (by lia) (by omega)) ⟨g,p,?_⟩)
 ·have:Builtin.List.listTooLong (j.size+f.size)=false:=by unfold Builtin.List.listTooLong;rw [decide_eq_false_iff_not];omega
  simp [this]
 have r:=dC g (λK=>K++f)
 refine x12 (I.putAt hx hob (o':=.list (l++m)) rfl rfl (by have:=I.cleanOb hob;simp only [Ob.clean] at this ⊢;simp only [cl,this,hnt];rfl)
  (Heap.SameBut.update ..) (by obtain⟨k,g⟩:=r;rw [g];rfl) λL C D d=>⟨_,D▸r,by simp;omega,by simp only [Array.toList_append];exact(q.mono C).append (i.mono C)⟩) λw u v=>?_
 rw [h] at u;obtain rfl:=Option.some.inj u
 exact v rfl ⟨rfl,rfl⟩ λ_ C=>rfl
theorem tW{K:Type}[DecidableEq K]{knd:PySem.KeyKind prog w K}{nm:Str}{id:String}{a:Addr}{kvs:List (K×Value)}{xs:List Value}{r:V}{s':S}(ho:W.h.DictOf knd a kvs)(slot:Slot "dict" nm id)(ty:typeOf (.builtin id)=pure (.type "method_descriptor"))
  (h:am B A W (call (.builtin id) (.ref a::xs)) r s'):Method B A W "dict" id nm (.ref a) xs r s':=
 ⟨F.plainAttrs_dict,slot,ty,ho.typeIs,λb e=>ho.mapOf.noDict b e,⟨_,rfl⟩,h⟩
theorem aA.one{v:V}{xs:List Value}(h:aA B W [v] xs):∃x,xs=[x]/\Rep B W v x:=by
 cases xs with
 |nil=>exact h.elim
 |cons x r=>cases r with
  |nil=>exact i12 x rfl h.1
  |cons _ _=>exact h.2.elim
theorem aA.two{v u:V}{xs:List Value}(h:aA B W [v,u] xs):∃x y,xs=[x,y]/\Rep B W v x/\Rep B W u y:=by
 cases xs with
 |nil=>exact h.elim
 |cons x r=>
  refine x12 (aA.one (show aA B W [u] r from h.2)) λy a b=>?_
  subst a
  exact i23 x y rfl h.1 b
theorem sN{k:Int}{r:V}{y z:Value}{a:Addr}{kvs:List (Int×Value)}(I:Inv B W)(hy:Rep B W (.int k) y)(hs:(a==sysModules)=false)(hd:W.h.DictOf (intKind prog w) a kvs)(hr:Rep B W r ((valueAt kvs k).getD z)):
  Method B A W "dict" "dict.get" "get" (.ref a) [y,z] r W.s:=by
 obtain⟨t,rfl⟩:=hy
 have b:W.h.DictOf (intKind prog w) a kvs:=hd
 exact tW b F.slot_dict_get F.type_dict_get (call_meetsIn F.slot_dict_get b.typeIs F.entry_dict_get (F.args_dict_get_3 _ _ _) (meets_dict_get_default (intKind prog w) a (intKind_is _ _ _ _) hs z) ⟨_,b.mapOf,Post.keep I rfl rfl rfl hr⟩)
theorem xj{o k dv r:V}{x y z:Value}{s':S}(I:Inv B W)(hA:A.units+50<cLine)(hx:Rep B W o x)(hy:Rep B W k y)(hz:Rep B W dv z)
  (h:(bif Nat.beq o.ctorIdx 7 then vK o λks vs=>vI k λk=>some ((kget ks vs k).getD dv,W.s) else(W.s.ob o).bind (BO W.s k dv))=some (r,s')):Method B A W "dict" "dict.get" "get" x [y,z] r s':=by
 replace h:=cz h
 rcases h with⟨_,h⟩|⟨_,h⟩
 ·replace h:=uz h
  obtain⟨ks,vs,rfl,h⟩:=h
  replace h:=bw h
  obtain⟨k,rfl,h⟩:=h
  obtain⟨rfl,rfl⟩:=sp h
  obtain⟨a,L,rfl,Z,Y,C,j,n⟩:=hx
  refine sN I hy Y C ?_
  have:=j8 (k:=k) j n
  cases q:kget ks vs k with
  |none=>replace this:=q▸this;exact this▸hz
  |some v=>simp only [q] at this;obtain⟨M,u,t⟩:=this;exact u▸t
 ·replace h:=Option.bind_eq_some_iff.mp h
  obtain⟨ob,D,h⟩:=h
  obtain⟨a,d,rfl,P,N⟩:=cC I hx D
  try clear D
  cases ob with
  |idict l=>
   replace h:=bw h
   obtain⟨k,rfl,h⟩:=h
   obtain⟨rfl,rfl⟩:=sp h
   obtain⟨L,C,j,g,n⟩:=N
   refine sN I hy (fF I P) C ?_
   cases q:iget l k with
   |none=>simp only [dP,gk (p:=λa=>a==k) (q:=λa=>decide (a=k)) (hW j k) n q];exact hz
   |some v=>obtain⟨M,u,t⟩:=cY (p:=λa=>a==k) (q:=λa=>decide (a=k)) (hW j k) n q;simp only [dP,u];exact t
  |tdict l=>
   replace h:=gR h
   obtain⟨k,rfl,h⟩:=h
   replace h:=cw h
   obtain⟨K,h⟩:=h
   refine x02 (Prod.mk.inj h) λc f=>?_
   subst c
   subst f
   obtain⟨J,C,j,g,n,Q⟩:=N
   obtain⟨R,X,m,rfl,_⟩:=dr hy
   have i:W.h.DictOfH (eU prog w) a J:=C
   have U:∀b,Value.ref a=.ref b->∃ob,W.h.get? b=some ob/\ob.dict=none:=λb e=>by
    injection e with e;subst e;obtain⟨o,_,_,T,hx,_⟩:=i;exact i12 o T hx.2.1
   refine i07 F.plainAttrs_dict F.slot_dict_get F.type_dict_get i.typeIs U ⟨_,rfl⟩ (call_meetsIn F.slot_dict_get i.typeIs F.entry_dict_get (F.args_dict_get_3 _ _ _)
    (meetsH_dict_get_default (eU prog w) a R (fF I P) z) ⟨gS hA,k,J,nL K hy,i,?_⟩)
   refine Post.keep I rfl rfl rfl ?_
   have O:=kb j k
   have H:aA B W (l.map (·.2)) ((J.map (λx=>(x.1,x.2.2))).map (·.2)):=by simp only [List.map_map];exact n
   rw [gp]
   cases q:tget l k with
   |none=>exact(gk (p:=λa=>V.beqs a k) (q:=λa=>decide (a=k)) O H q)▸hz
   |some v=>obtain⟨M,u,t⟩:=cY (p:=λa=>V.beqs a k) (q:=λa=>decide (a=k)) O H q;exact u▸t
  |_=>exact nn h
theorem xr{m:BM}{o r:V}{args:List V}{x:Value}{xs:List Value}{s':S}(I:Inv B W)(hA:A.units+50<cLine)(hx:Rep B W o x)(hxs:aA B W args xs)
  (h:bm1 W.s m o args=some (r,s')):Method B A W (bmT m) (Ag m) (nr m) x xs r s':=by
 cases m with
 |append=>
  replace h:=td h
  obtain⟨v,rfl,h⟩:=h
  obtain⟨y,rfl,q⟩:=hxs.one
  replace h:=bg h
  obtain⟨g,h⟩:=h
  replace h:=eN h
  obtain⟨l,f,h⟩:=h
  replace h:=bg h
  obtain⟨j,h⟩:=h
  refine x12 (Option.map_eq_some_iff.mp h) λi n p=>?_
  refine x02 (Prod.mk.inj p) λd e=>?_
  subst d
  subst e
  exact pU I hx q f g j n
 |pop=>
  replace h:=bg h
  obtain⟨u,h⟩:=h
  cases List.isEmpty_iff.mp u
  cases xs with
  |cons _ _=>exact hxs.elim
  |nil=>
   replace h:=eN h
   refine cp λ_ t=>?_
   refine x12 h λl f h=>?_
   replace h:=Option.bind_eq_some_iff.mp h
   refine x12 h λv w h=>?_
   refine x12 (Option.map_eq_some_iff.mp h) λi n p=>?_
   cases p
   refine t ?_
   exact xc I hx f w n
 |extend=>
  replace h:=td h
  obtain⟨v,rfl,h⟩:=h
  obtain⟨y,rfl,q⟩:=hxs.one
  replace h:=bg h
  obtain⟨g,h⟩:=h
  replace h:=eN h
  obtain⟨l,f,h⟩:=h
  replace h:=gy h
  obtain⟨m,rfl,h⟩:=h
  replace h:=bg h
  obtain⟨j,h⟩:=h
  refine x12 (Option.map_eq_some_iff.mp h) λi n p=>?_
  refine x02 (Prod.mk.inj p) λa b=>?_
  subst a
  subst b
  exact pR I hx q f ‹_› j n
 |get=>
  replace h:=wP h
  obtain⟨k,C,rfl,h⟩:=h
  refine x23 hxs.two λy z c q j=>?_
  subst c
  exact xj I hA hx q j h
end
end Mine
end
section
namespace Mine
open PySem PySem.W PyProof.Rows PySem.SeqAt PySem.Calls
section
variable {prog:Program}{w:World}{B:Base prog w}
variable {A:Around}{n:Nat}{W:Mo}{env:Env}{ctx:List (Str×Nat)}{ks:List (Str×NameKind)}{ρ:List V}
theorem Post.grow{α:Type}{P:Mo->α->Prop}{x:α}{sh':Shared}(I:Inv B W)(hk:∀b o,W.h.get? b=some o->sh'.heap.get? b=some o)(g:sh'.gens=W.sh.gens)(o:sh'.os=W.sh.os)
  (h:∀W',W'.s=W.s->W'.h=sh'.heap->Inv B W'->Carry W W'->(∀b,W'.g.F b->(W.h.get? b).isSome)->P W' x):Post B W W.s P x sh':=by
 refine x02 (I.ext (sh':=sh') (F':=W.g.F) hk (λb h=>.inl h) (λb h=>h) ⟨g,o⟩) λa c=>?_
 refine⟨⟨W.s,⟨W.g.adr,W.g.F⟩,sh'⟩,rfl,rfl,a,c,h _ rfl rfl a (c.carry I λ_ q=>q.elim) λb d=>?_⟩
 exact I.fdom _ d
theorem ba(h:Heap):h.get? h.objs.size=none:=by
 cases q:h.get? h.objs.size with
 |none=>rfl
 |some o=>exact absurd (Heap.lt_size q) (Nat.lt_irrefl _)
theorem jE{h:Heap}{a:Addr}(ha:h.objs.size<=a):h.get? a=none:=by
 cases q:h.get? a with
 |none=>rfl
 |some o=>exact absurd (Heap.lt_size q) (Nat.not_lt.mpr ha)
theorem jY{F:Addr->Prop}{h:Heap}(hF:∀b,F b->(h.get? b).isSome){a:Addr}{h':Heap}(hk:∀b o,h.get? b=some o->h'.get? b=some o)(ha:h'.objs.size<=a):¬F a:=λc=>by
 obtain⟨o,d⟩:=Option.isSome_iff_exists.mp (hF a c)
 exact absurd (Heap.lt_size (hk a o d)) (Nat.not_lt.mpr ha)
theorem ints?_rep:∀ {l:List V} {ns:List Int} {xs:List Value},ints? l=some ns->aA B W l xs->IntsAre xs ns
 |[],ns,[],h,_=>by simp [ints?] at h;subst h;exact .nil
 |[],_,_::_,_,h=>h.elim
 |_::_,_,[],_,h=>h.elim
 |.int i::r,ns,x::q,h,hr=>by
  refine x12 (Option.map_eq_some_iff.mp h) λm b a=>?_
  subst a
  obtain⟨t,rfl⟩:=hr.1
  exact .cons i t (ints?_rep b hr.2)
 |.undef::_,_,_::_,h,_=>nn h
 |.none::_,_,_::_,h,_=>nn h
 |.bool _::_,_,_::_,h,_=>nn h
 |.str _::_,_,_::_,h,_=>nn h
 |.tup _::_,_,_::_,h,_=>nn h
 |.lst _::_,_,_::_,h,_=>nn h
 |.kd _ _::_,_,_::_,h,_=>nn h
 |.rng _::_,_,_::_,h,_=>nn h
 |.ref _::_,_,_::_,h,_=>nn h
 |.tmp _::_,_,_::_,h,_=>nn h
 |.clo _ _::_,_,_::_,h,_=>nn h
theorem n3{ns:List Int}{xs:List Value}(h:IntsAre xs ns):aA B W (ns.map .int) xs:=by
 induction h with
 |nil=>exact trivial
 |cons n t h ih=>exact⟨⟨t,rfl⟩,ih⟩
theorem e9(x:Int):∀l,(ct x l).Perm (x::l)
 |[]=>.refl _
 |y::r=>by
  dsimp only [ct]
  split
  ·exact .refl _
  ·exact((e9 x r).cons y).trans (.swap ..)
theorem cT:∀l,(Mine.bF l).Perm l:=by
 intro a
 induction a with
 |nil=>
  exact .refl _
 |cons x r cT=>
  exact(e9 x _).trans ((cT).cons x)
theorem fN(x:Int):∀ {l:List Int},l.Pairwise (· <= ·)->(ct x l).Pairwise (· <= ·)
 |[],_=>by simp [ct]
 |y::r,h=>by
  dsimp only [ct]
  split
  ·rename_i hxy
   refine List.pairwise_cons.mpr ⟨λz c=>?_,h⟩
   refine(List.mem_cons.mp c).elim (λa=>?_) (λc=>?_)
   ·subst a
    exact hxy
   ·exact Int.le_trans hxy ((List.pairwise_cons.mp h).1 z c)
  ·rename_i hxy
   refine List.pairwise_cons.mpr ⟨λz c=>?_,fN x (List.pairwise_cons.mp h).2⟩
   refine(List.mem_cons.mp ((e9 x r).mem_iff.mp c)).elim (λb=>?_) (λc=>?_)
   ·subst b
    lia
   ·exact(List.pairwise_cons.mp h).1 z c
theorem eX:∀l:List Int,(Mine.bF l).Pairwise (· <= ·)
 |[]=>.nil
 |x::r=>fN x (eX r)
theorem gA{l m:List Int}(hp:l.Perm m)(h:l.Pairwise (· <= ·))(h':m.Pairwise (· <= ·)):l=m:=
 hp.eq_of_pairwise (λa b _ _ c d=>Int.le_antisymm c d) h h'
noncomputable def gD:BF->Value
 |.len=>.builtin "len" |.sorted=>.builtin "sorted" |.tuple=>.type "tuple" |.any=>.builtin "any" |.all=>.builtin "all" |.str=>.type "str"
 |.isStr=>.builtin "isinstance" |.range=>.type "range" |.max=>.builtin "max"
theorem xg{v:V}{l:List V}{x:Value}(I:Inv B W)(hx:Rep B W v x)(h:seq? W.s v=some l):am B A W (call (.builtin "len") [x]) (.int l.length) W.s:=by
 have b:=iK
 cases pZ I h hx with
 |tup _ a its k e1 ho hz hl=>
  subst e1
  have z:=hl.size
  exact z▸len_tuple ⟨_,ho,rfl,_,rfl⟩ (by omega) (Post.same I rfl rfl rfl λ_ _ _=>⟨_,rfl⟩)
 |lst _ _ a its e1 ho hz hl=>
  subst e1
  have z:=hl.size
  exact z▸PyProof.Rows.len_list (ho.isList) (by omega) (Post.same I rfl rfl rfl λ_ _ _=>⟨_,rfl⟩)
theorem jo{l:List V}{ns:List Int}{x:Value}(I:Inv B W)(hx:Rep B W (.lst l) x)(h64:l.length<64)(h:ints? l=some ns):
  am B A W (call (.builtin "sorted") [x]) (.lst ((Mine.bF ns).map .int)) W.s:=by
 obtain⟨a,e,rfl,y,r,w,g⟩:=dR hx
 have z:=g.length
 have j:=ints?_rep h g
 refine sorted_ints (r.isList) j (by lia) λd f p m t=>?_
 refine Post.grow I (λb o q=>sortedAll_old q) rfl rfl λv D u F C n=>?_
 obtain⟨c,k⟩:=sortedAll_at W.h e.toList d
 have:f=Mine.bF ns:=gA (m.trans (cT ns).symm) t (eX ns)
 subst this
 have i:(Mine.bF ns).length=l.length:=by exact((cT ns).length_eq)▸(j.length)▸(z)▸rfl
 exact⟨_,d,rfl,jY n (h':=W.h) (λ_ _ q=>q) (Nat.le_succ _),⟨c,by rw [u];exact k⟩,by rw [List.length_map];unfold lim at*;omega,n3 p⟩
theorem jp{v:V}{l:List (Int×V)}{x:Value}(I:Inv B W)(hh:A.handled=none)(hx:Rep B W v x)(h64:l.length<64)(hob:W.s.ob v=some (.idict l)):
  am B A W (call (.builtin "sorted") [x]) (.lst ((Mine.bF (l.map (·.1))).map .int)) W.s:=by
 obtain⟨a,d,rfl,hF,z,Y,Q,hz,hl⟩:=cC I hx hob
 obtain⟨ep,J⟩:=(Y:W.h.DictOf (intKind prog w) a z).dictAt
 have R:=mt Q
 have a7:=cu
 have P:=iK
 refine call_function_entry kind_sorted plain_sorted entry_sorted (args_sorted1 _) ?_
 unfold Builtin.«sorted»
 refine wpAny_bind (wpAny_pure ?_)
 refine wpAny_bind (kdu_collect (kdl_dict (fF I hF)) hh J (by omega) λN tk f F g=>?_)
 have H:f.toList.length=z.length:=by rw [Array.length_toList];exact g.1
 have u:IntsAre f.toList (z.map (·.1)):=by
  have:∀ (D:List Value) (m:List (Int×Value)),D.length=m.length->(∀ (j:Nat) (v:Value),D[j]?=some v->∃ (k:Int) (x:Value),m[j]?=some (k,x)/\(intKind prog w).is k v=true)->IntsAre D (m.map (·.1)):=by
   intro D
   induction D with
   |nil=>intro m h _;cases m with
    |nil=>exact .nil
    |cons _ _=>simp at h
   |cons v r ih=>
    intro m h T
    cases m with
    |nil=>simp at h
    |cons p q=>
     refine x22 (T 0 v rfl) λk x O X=>?_
     simp at O
     refine x11 (Value.isInt_shape X) λt e=>?_
     subst e
     subst O
     exact .cons k t (ih q (by simpa using h) λj v K=>T (j+1) v K)
  exact this _ _ H λj v K=>g.2 j v (by rw [<-Array.getElem?_toList];exact K)
 refine wpAny_bind (wpAny_newList ?_ (by omega))
 have i:(N.push (seqObj "list" f.toList.toArray 0)).get? N.objs.size=some (seqObj "list" f.toList.toArray 0):=Heap.get?_push_size _ rfl
 refine wpAny_bind (wpAny_holding (wpAny_call_entry slot_list_sort ⟨_,i,rfl⟩ entry_list_sort (list_sort_tree i u (by omega) λout L a1 a2 Z=>i12 _ rfl ?_) (args_list_sort _)))
 refine wpAny_pure ⟨_,rfl,?_⟩
 refine Post.grow I (λb o q=>?_) rfl rfl λW' e1 e2 I' C M=>?_
 ·have U:=F b o q
  have n:=Heap.lt_size U
  show(sortedHeap _ _ _ _).get? b=some o
  rw [sortedHeap_old (Nat.ne_of_lt n) (by rw [size_push'];exact Nat.lt_succ_of_lt n),Heap.get?_push_ne _ _ _ (Nat.ne_of_lt n)]
  exact U
 ·simp only [Rep]
  refine x11 (sortedHeap_at (out:=out) i) λc hc=>?_
  rw [Q] at a2
  have:L=Mine.bF (l.map (·.1)):=gA (a2.trans (cT _).symm) Z (eX _)
  subst this
  have y:(Mine.bF (l.map (·.1))).length=l.length:=by rw [(cT _).length_eq,List.length_map]
  exact⟨_,out,rfl,jY M F (Nat.le_refl _),⟨c,by rw [e2];exact hc⟩,by rw [List.length_map,y];exact hz,n3 a1⟩
theorem tz{l:List V}{x:Value}(I:Inv B W)(hx:Rep B W (.lst l) x):am B A W (call (.type "tuple") [x]) (.tup l) W.s:=by
 obtain⟨a,c,rfl,n,f,h,e⟩:=dR hx
 have z:=e.size
 have j:=cu
 refine call_tuple_list (f.isList) (λm d=>?_) (by lia)
 refine Post.grow I (λb o q=>Heap.get?_push_of_some _ (d b o q)) rfl rfl λk p g r C i=>?_
 exact⟨_,c,0,rfl,jY i d (Nat.le_refl _),by simp only [g];exact Heap.get?_push_size _ rfl,h,e.mono C⟩
theorem pO{i:Int}{x:Value}(I:Inv B W)(hx:Rep B W (.int i) x)(hi:i.natAbs<2 ^ 64):am B A W (call (.type "str") [x]) (.str (aE i)) W.s:=by
 obtain⟨t,rfl⟩:=hx
 refine P.str_of_int ?_ (Post.same I rfl rfl rfl λ_ _ _=>⟨_,rfl⟩)
 by_cases h0:i.natAbs=0
 ·rw [h0];exact Nat.lt_of_le_of_lt (Nat.le_refl _) (by decide)
 ·have:=(Nat.log2_lt h0).mpr hi
  lia
theorem wO{R:Result->Shared->Prop}{I:Addr}{fp wr:List Addr}{n:Nat}{P:Nat->Value->Prop}{St:Nat->Heap->Prop}(W:Walks prog w A.in1 I fp wr n P St)(tr:Nat->Bool){s0:Shared}(hwr:∀b o,s0.heap.get? b=some o->b ∉ wr)
  (htr:∀i v (s:Shared) (Q:Bool->Shared->Prop) (E:Value->Shared->Prop),P i v->(∀b o,s0.heap.get? b=some o->s.heap.get? b=some o)/\Sm s0 s->(∀tk,Q (tr i) {s with toks:=tk})->wpAny (model prog w) A.in1 (truthy v) Q E s):
  ∀ (k i:Nat) (s:Shared),n - i=k->i<=n->St i s.heap->(∀b o,s0.heap.get? b=some o->s.heap.get? b=some o)/\Sm s0 s->
  (∀h' tk,(∀b o,b ∉ wr->s.heap.get? b=some o->h'.get? b=some o)->R (.ok (.ret (.bool (((List.range n).drop i).any tr)))) {s with heap:=h',toks:=tk})->
  codeAny (model prog w) A (.builtin "any.loop" ⟨[.ref I],[]⟩) R s:=by
 intro k
 induction k with
 |zero=>
  intro i s z B d a p
  have t:i=n:=by lia
  subst t
  refine codeAny_builtin F.entry_any_loop ?_
  show wpAny _ A.in1 (pyNext (.ref I)>>=_) _ _ s
  refine wpAny_bind (W.done s _ _ d λh' tk c=>?_)
  refine wpAny_bind (wpAny_rule (wpAny_pure ?_))
  have:=p h' tk c
  rw [List.drop_of_length_le (by simp)] at this
  exact this
 |succ k ih=>
  intro i s z B d a p
  have f:i<n:=by omega
  have x:(List.range n).drop i=i::(List.range n).drop (i+1):=by
   rw [List.drop_eq_getElem_cons (by simpa using f)];simp
  refine codeAny_builtin F.entry_any_loop ?_
  show wpAny _ A.in1 (pyNext (.ref I)>>=_) _ _ s
  refine wpAny_bind (W.item i s _ _ f d λv h' tk y j c=>?_)
  have g:∀b o,s0.heap.get? b=some o->h'.get? b=some o:=λb o q=>c b o (hwr b o q) (a.1 b o q)
  refine wpAny_bind (wpAny_holding (htr i v _ _ _ y ⟨g,a.2.1,a.2.2⟩ λr=>?_))
  refine wpAny_bind (wpAny_letGo ?_)
  cases hb:tr i with
  |false=>
   refine wpAny_pure ⟨plainId_quiet F.plain_any_loop _,ih (i+1) _ (by omega) f j ⟨g,a.2.1,a.2.2⟩ λu l h=>?_⟩
   have:=p u l λb o m e=>h b o m (c b o m e)
   simp only [x,List.any_cons,hb] at this
   exact this
  |true=>
   refine wpAny_bind (wpAny_rule (wpAny_pure ?_))
   have:=p h' r c
   simp only [x,List.any_cons,hb] at this
   exact this
theorem jJ{s:S}:∀ {l:List V} {bs:List Bool},truths s l=some bs->∃f:Nat->Bool,(∀j (h:j<l.length),truth s l[j]=some (f j))/\bs.any id=(List.range l.length).any f
 |[],bs,h=>i12 (λ_=>false) (by simp) (by simp [truths] at h;subst h;simp)
 |v::r,bs,h=>by
  simp only [truths] at h
  cases h1:truth s v with
  |none=>replace h:=h1▸h;exact nn h
  |some b=>
   cases h2:truths s r with
   |none=>replace h:=h2▸h1▸h;exact nn h
   |some bs'=>
    rw [h1,h2] at h
    replace h:=Option.some.inj h
    refine x12 (jJ h2) λf a c=>?_
    refine i12 (λj=>match j with|0=>b|j+1=>f j) ?_ ?_
    ·intro j d
     cases j with
     |zero=>exact h1
     |succ j=>simpa using a j (Nat.le_of_succ_le_succ d)
    ·subst h
     simp only [List.length_cons,List.range_succ_eq_map,List.any_cons,List.any_map,c]
     rfl
theorem xw{l:List V}{bs:List Bool}{x:Value}(I:Inv B W)(hh:A.handled=none)(hx:Rep B W (.lst l) x)(h:truths W.s l=some bs):am B A W (call (.builtin "any") [x]) (.bool (bs.any id)) W.s:=by
 obtain⟨a,c,rfl,R,H,P,y⟩:=dR hx
 have z:=y.size
 refine x12 (jJ h) λf p r=>?_
 have d:=(H.isList:W.h.IsList a c)
 have w:a<W.h.objs.size:=by obtain⟨_,q,_⟩:=d;exact Heap.lt_size q
 refine call_function_tree F.kind_any F.plain_any F.entry_any (F.args_any1 _) ?_
 refine wpAny_bind (wpAny_pure ?_)
 refine wpAny_bind (wpAny_pyIter_list d ?_)
 refine wpAny_pure ⟨plainId_quiet F.plain_any_loop _,wO (Walks.list (A:=A.in1) hh _ a (Nat.ne_of_lt w) c) f (λb o q=>?_) (λi v s Q E m k J=>?_) c.size 0 _ rfl (Nat.zero_le _)
  ⟨i13 _ (Heap.get?_push_size _ rfl) rfl rfl,d.push _⟩ ⟨λb o q=>Heap.get?_push_of_some _ q,rfl,rfl⟩ λO Y k=>?_⟩
 ·rw [List.mem_singleton];exact Nat.ne_of_lt (Heap.lt_size q)
 ·
  have L:i<c.size:=by rcases Nat.lt_or_ge i c.size with q|q;exact q;rw [Array.getElem?_eq_none q] at m;exact nn m
  have N:Rep B W (l[i]'(by omega)) v:=by
   refine x12 (y.get (j:=i) (v:=l[i]'(by omega)) (by simp [z,L])) λu e t=>?_
   have:u=v:=by rw [Array.getElem?_toList,m] at e;exact(Option.some.inj e).symm
   exact this▸t
  refine x02 (I.ext (sh':=s) (F':=W.g.F) k.1 (λb h=>.inl h) (λb h=>h) k.2) λD K=>?_
  have n:=N.mono (K.carry I λ_ q=>q.elim)
  exact lh D n (p i (by omega)) J
 ·refine Post.grow I (λb o q=>k b o ?_ (Heap.get?_push_of_some _ q)) rfl rfl λM T U D C X=>?_
  ·rw [List.mem_singleton];exact Nat.ne_of_lt (Heap.lt_size q)
  ·show Rep B M (.bool (bs.any id)) _
   simp only [r,z];rfl
theorem bools?_rep:∀ {l:List V} {bs:List Bool} {xs:List Value},bools? l=some bs->aA B W l xs->xs=bs.map .bool
 |[],bs,[],h,_=>by simp [bools?] at h;subst h;rfl
 |[],_,_::_,_,h=>h.elim
 |_::_,_,[],_,h=>h.elim
 |.bool b::r,bs,x::q,h,hr=>by
  refine x12 (Option.map_eq_some_iff.mp h) λm d a=>?_
  subst a
  have c:x=.bool b:=hr.1
  simp only [c,bools?_rep d hr.2];rfl
 |.undef::_,_,_::_,h,_=>nn h
 |.none::_,_,_::_,h,_=>nn h
 |.int _::_,_,_::_,h,_=>nn h
 |.str _::_,_,_::_,h,_=>nn h
 |.tup _::_,_,_::_,h,_=>nn h
 |.lst _::_,_,_::_,h,_=>nn h
 |.kd _ _::_,_,_::_,h,_=>nn h
 |.rng _::_,_,_::_,h,_=>nn h
 |.ref _::_,_,_::_,h,_=>nn h
 |.tmp _::_,_,_::_,h,_=>nn h
 |.clo _ _::_,_,_::_,h,_=>nn h
theorem xU{h h':Heap}{o:Obj}(hk:∀b x,b ∉[h.objs.size]->(h.push o).get? b=some x->h'.get? b=some x):∀b x,h.get? b=some x->h'.get? b=some x:=
 λb x e=>hk b x (by rw [List.mem_singleton];exact Nat.ne_of_lt (Heap.lt_size e)) (Heap.get?_push_of_some _ e)
theorem qT(bs:List Bool):((List.range bs.length).all λi=>(bs[i]?).getD true)=bs.all id:=by
 rw [Bool.eq_iff_iff,List.all_eq_true,List.all_eq_true]
 constructor
 ·intro h b d
  obtain⟨i,c,e⟩:=List.getElem_of_mem d
  have:=h i (List.mem_range.mpr c)
  simpa [List.getElem?_eq_getElem c,e] using this
 ·intro h i c
  have a:=List.mem_range.mp c
  simp only [List.getElem?_eq_getElem a,Option.getD_some]
  exact h _ (List.getElem_mem a)
theorem xx{l:List V}{bs:List Bool}{x:Value}(I:Inv B W)(hh:A.handled=none)(hx:Rep B W (.lst l) x)(h:bools? l=some bs):am B A W (call (.builtin "all") [x]) (.bool (bs.all id)) W.s:=by
 obtain⟨a,d,rfl,F,p,u,o⟩:=dR hx
 have k:=bools?_rep h o
 have e:=(p.isList:W.h.IsList a d)
 have j:a<W.h.objs.size:=by obtain⟨_,q,_⟩:=e;exact Heap.lt_size q
 refine call_all_walk (wpAny_pyIter_list e ?_)
 refine i75 W.h.objs.size [W.h.objs.size,a] [W.h.objs.size] d.size _ _ (λi=>(bs[i]?).getD true) rfl (Walks.list (A:=A.in1) hh _ a (Nat.ne_of_lt j) d) ⟨i13 _ (Heap.get?_push_size _ rfl) rfl rfl,e.push _⟩ (λi v J M z f m=>?_) (λy D n=>?_)
 ·have f:d[i]?=some v:=f
  rw [<-Array.getElem?_toList,k,List.getElem?_map] at f
  refine x12 (Option.map_eq_some_iff.mp f) λb g c=>?_
  try clear f
  subst c
  simp only [g] at m
  exact wpAny_truthy_bool m
 ·have r:d.size=bs.length:=by rw [<-Array.length_toList,k,List.length_map]
  simp only [r,qT]
  exact Post.grow I (xU n) rfl rfl λt L K H C w=>rfl
theorem lL:∀ (l:List Int) (x:Int),(l.foldl (λa b=>if b>a then b else a) x)∈x::l/\∀y∈x::l,y<=l.foldl (λa b=>if b>a then b else a) x
 |[],x=>by simp
 |z::r,x=>by
  obtain⟨f,e⟩:=lL r (if z>x then z else x)
  simp only [List.foldl_cons]
  refine⟨?_,?_⟩
  ·refine(List.mem_cons.mp f).elim (λq=>?_) (λq=>?_)
   ·simp only [q];split<;>simp
   ·simp [q]
  ·intro y hy
   have d:=e _ (List.mem_cons_self ..)
   refine(List.mem_cons.mp hy).elim (λc=>?_) (λhy=>?_)
   ·subst c
    refine Int.le_trans ?_ d;split<;>omega
   ·rcases List.mem_cons.mp hy with rfl|hy
    ·refine Int.le_trans ?_ d;split<;>omega
    ·exact e y (List.mem_cons_of_mem _ hy)
theorem xf{l:List V}{a0:Int}{r:List Int}{x:Value}(I:Inv B W)(hh:A.handled=none)(hx:Rep B W (.lst l) x)(h:ints? l=some (a0::r)):
  am B A W (call (.builtin "max") [x]) (.int (r.foldl (λa b=>if b>a then b else a) a0)) W.s:=by
 obtain⟨a,k,rfl,P,w,L,q⟩:=dR hx
 have n:=ints?_rep h q
 refine x11 n.allInts.items λd H=>?_
 have g:k=intItems d:=by exact(H)▸rfl
 have e:a0::r=d.toList.map (·.1):=by rw [<-n.numsOf,<-nums_intItems,<-g]
 have f:0<d.size:=by
  have:=congrArg List.length e
  simp at this;lia
 refine max_intList hh (g▸w.isList) f λv N O J o=>?_
 obtain⟨t,rfl⟩:=intItems_at J
 obtain⟨u,p⟩:=argBest_gt (numAt d) (d.size - 1)
 refine Post.grow I o rfl rfl λK R Q T C M=>⟨t,?_⟩
 obtain⟨F,z⟩:=lL r a0
 have a1:numAt d (argBest (λi j=>decide (numAt d i>numAt d j)) (d.size - 1))∈a0::r:=by
  rw [e,numAt_eq];exact getD_mem (by simp only [List.length_map,Array.length_toList];omega)
 have a2:∀y∈a0::r,y<=numAt d (argBest (λi j=>decide (numAt d i>numAt d j)) (d.size - 1)):=by
  intro y m
  rw [e] at m
  refine x12 (mem_getD m) λj D c=>?_
  try clear m;try clear u;try clear f
  subst c
  simp only [List.length_map,Array.length_toList] at D
  rw [<-numAt_eq];exact p j (by omega)
 rw [Int.le_antisymm (z _ a1) (a2 _ F)]
theorem tA{i:Int}{x:Value}(I:Inv B W)(hx:Rep B W (.int i) x)(hi:0<=i/\i<=lim):am B A W (call (.type "range") [x]) (.rng i) W.s:=by
 obtain⟨t,rfl⟩:=hx
 refine call_range_1 ?_
 refine Post.push I rfl rfl rfl rfl λc f d e g C a b=>?_
 exact⟨_,_,_,_,rfl,b,hi,a⟩
noncomputable def wN:BF->Value->List Value
 |.isStr,x=>[x,.type "str"]
 |_,x=>[x]
theorem sb{f:BF}{v r:V}{x:Value}(I:Inv B W)(hh:A.handled=none)(hx:Rep B W v x)(h:bf1 W.s f v=some r):am B A W (call (gD f) (wN f x)) r W.s:=by
 cases f with
 |len=>
  refine x12 (Option.map_eq_some_iff.mp h) λl n c=>?_
  subst c
  exact xg I hx n
 |sorted=>
  replace h:=cz h
  rcases h with⟨_,h⟩|⟨_,h⟩
  ·replace h:=gy h
   obtain⟨l,rfl,h⟩:=h
   replace h:=bg h
   obtain⟨e,h⟩:=h
   refine x12 (Option.map_eq_some_iff.mp h) λns j d=>?_
   subst d
   exact jo I hx e j
  ·replace h:=vA h
   obtain⟨l,g,h⟩:=h
   replace h:=cw h
   obtain⟨e,rfl⟩:=h
   exact jp I hh hx e g
 |tuple=>
  replace h:=gy h
  obtain⟨l,rfl,h⟩:=h
  obtain rfl:=Option.some.inj h;exact tz I hx
 |any=>
  replace h:=gy h
  obtain⟨l,rfl,h⟩:=h
  refine x12 (Option.map_eq_some_iff.mp h) λo m a=>?_
  subst a
  exact xw I hh hx m
 |all=>
  replace h:=gy h
  obtain⟨l,rfl,h⟩:=h
  refine x12 (Option.map_eq_some_iff.mp h) λo m b=>?_
  subst b
  exact xx I hh hx m
 |str=>
  replace h:=cz h
  rcases h with⟨_,h⟩|⟨_,h⟩
  ·replace h:=bw h
   obtain⟨i,rfl,h⟩:=h
   obtain⟨k,rfl⟩:=cw h
   exact pO I hx k
  ·replace h:=nJ h
   obtain⟨s,rfl,h⟩:=h
   obtain rfl:=Option.some.inj h
   obtain⟨t,rfl⟩:=hx
   exact P.str_of_str (Post.same I rfl rfl rfl λ_ _ _=>⟨_,rfl⟩)
 |isStr=>
  replace h:=cz h
  rcases h with⟨hs,h⟩|⟨_,h⟩
  ·obtain⟨s,rfl⟩:=is4 (Nat.eq_of_beq_eq_true hs)
   obtain rfl:=Option.some.inj h
   obtain⟨t,rfl⟩:=hx
   exact IsiPair.str_str (Post.same I rfl rfl rfl λ_ _ _=>rfl)
  ·replace h:=bw h
   obtain⟨s,rfl,h⟩:=h
   obtain rfl:=Option.some.inj h
   obtain⟨t,rfl⟩:=hx
   exact IsiPair.int_str (Post.same I rfl rfl rfl λ_ _ _=>rfl)
 |range=>
  replace h:=bw h
  obtain⟨i,rfl,h⟩:=h
  obtain⟨k,rfl⟩:=cw h
  exact tA I hx k
 |max=>
  replace h:=gy h
  obtain⟨l,rfl,h⟩:=h
  replace h:=Option.bind_eq_some_iff.mp h
  refine x12 h λns j h=>?_
  cases ns with
  |nil=>exact nn h
  |cons x r=>obtain rfl:=Option.some.inj h;exact xf I hh hx j
end
structure Facts{prog:Program}{w:World}(B:Base prog w)(p:Prog)(nC:Nat):Prop where
 get:∀c,c<nC->findIn B.K (.ref (B.ca c)) "__getattribute__" =some (some (.builtin "object.__getattribute__"))
 noGet:∀c,c<nC->findIn B.K (.ref (B.ca c)) "__getattr__" =some none
 set:∀c,c<nC->findIn B.K (.ref (B.ca c)) "__setattr__" =some (some (.builtin "object.__setattr__"))
 over:∀c,c<nC->plainOver B.K (B.ca c)=true
 dict:∀c,c<nC->hasDictIn B.K (B.ca c)=true
 makes:∀c,c<nC->makesIn B.K (B.ca c)=true
 own:∀c a,p.own c a=true->c<nC/\findIn B.K (.ref (B.ca c)) (B.nm a)=some none
 meth:∀c a f,p.meth c a=some f->c<nC/\findIn B.K (.ref (B.ca c)) (B.nm a)=some (some (.ref (B.fa f)))/\typeIn B.K (.ref (B.fa f))=some (.type "function")
 init:∀c f,p.init c=some f->findIn B.K (.ref (B.ca c)) "__init__" =some (some (.ref (B.fa f)))/\typeIn B.K (.ref (B.fa f))=some (.type "function")
 noInit:∀c,c<nC->p.init c=none->findIn B.K (.ref (B.ca c)) "__init__" =some (some (.builtin "object.__init__"))
section
variable {prog:Program}{w:World}{B:Base prog w}
variable {A:Around}{n:Nat}{W:Mo}{env:Env}{ctx:List (Str×Nat)}{ks:List (Str×NameKind)}{ρ:List V}
theorem Inv.K(I:Inv B W):B.K.In W.h:=λa o e=>I.base a o (B.inK a o e)
theorem oz{k name:Str}{v:Value}(h:(PySem.strKind prog w).is k v=true):v.isStr name=decide (k=name):=by
 refine x11 (Value.isStrOf_shape h) λt a=>?_
 subst a
 rfl
theorem kD{es:List DictEntry}{kvs:List (Str×Value)}(h:Pairs (PySem.strKind prog w) es kvs)(name:Str):
  (es.find? (·.key.isStr name)).map (·.val)=valueAt kvs name/\es.any (·.refKey)=false:=by
 induction h with
 |nil=>exact⟨rfl,rfl⟩
 |cons hk hv _ ih=>
  rename_i e kv es kvs _
  have a:=oz (name:=name) hk
  refine x11 (Value.isStrOf_shape hk) λt b=>?_
  refine⟨?_,?_⟩
  ·simp only [dP,List.find?_cons,a]
   cases decide (kv.1=name) with
   |true=>simp [hv]
   |false=>exact ih.1
  ·simp only [List.any_cons,ih.2]
   unfold DictEntry.refKey;exact(b)▸rfl
theorem f9{h:Heap}{d:Addr}{kvs:List (Str×Value)}(x:h.DictOf (PySem.strKind prog w) d kvs)(name:Str):∃o,h.get? d=some o/\lookIn name o=some (valueAt kvs name):=by
 refine x36 x λo a k g j b i e l=>?_
 refine i12 o g ?_
 refine x02 (kD e name) λf c=>?_
 unfold lookIn
 rw [b]
 dsimp only
 refine f▸c▸?_
 cases a.toList.find? (·.key.isStr name)<;>rfl
inductive Cj(B:Base prog w)(W:Mo)(c:Nat)(fs:List (Nat×V))(v:V)(x:Value):Prop
 |mk (i:Nat) (h:v=.ref i) (e:x=.ref (W.g.adr 0 i)) (hi:W.s.perm[i]?=some (.inst c fs)) (ho:W.h.get? (W.g.adr 0 i)=some (instObj (B.ca c) (W.g.adr 1 i))) (kvs:List (Str×Value)) (hd:W.h.DictOf (PySem.strKind prog w) (W.g.adr 1 i) kvs)
  (hk:kvs.map (·.1)=fs.map (λp=>B.nm p.1)) (hz:fs.length<=900) (hl:aA B W (fs.map (·.2)) (kvs.map (·.2)))
theorem mC(I:Inv B W){v:V}{x:Value}{c:Nat}{fs:List (Nat×V)}(hx:Rep B W v x)(hob:W.s.ob v=some (.inst c fs)):Cj B W c fs v x:=by
 cases v with
 |ref i=>
  obtain⟨d,a,f,b,g,e⟩:=I.perm _ _ hob
  exact⟨i,rfl,hx.2,hob,d,a,f,b,g,e⟩
 |tmp i=>cases (I.tmps _ _ hob).2
 |_=>exact nn hob
theorem jA{fs:List (Nat×V)}{kvs:List (Str×Value)}(h:kvs.map (·.1)=fs.map (λp=>B.nm p.1))(k:Nat):fs.map (λx=>Nat.beq x.1 k)=kvs.map (λx=>decide (x.1=B.nm k)):=by
 have a:kvs.map (λx=>decide (x.1=B.nm k))=(kvs.map (·.1)).map (λy=>decide (y=B.nm k)):=by simp only [List.map_map];rfl
 simp only [a,h,List.map_map]
 refine List.map_congr_left λy _=>?_
 simp only [Function.comp_apply]
 by_cases q:y.1=k
 ·try clear a
  subst q;simp
 ·simp only [decide_eq_false (λe=>q (B.nmInj _ _ e))]
  cases z:Nat.beq y.1 k with
  |false=>rfl
  |true=>exact absurd (Nat.eq_of_beq_eq_true z) q
theorem rl{x d:Addr}{c:Nat}{o:Obj}{h:Heap}(h1:h.get? x=some (instObj (B.ca c) d))(h2:h.get? d=some o):InstAt h x (instObj (B.ca c) d) (B.ca c) (some o):=⟨h1,rfl,rfl,h2⟩
theorem rm:∀ {r:V} {y:Value},Rep B W r y->handedIn y=true
 |.undef,_,h=>h.elim
 |.none,_,h=>by obtain rfl:=h;rfl
 |.bool _,_,h=>by obtain rfl:=h;rfl
 |.int _,_,⟨_,h⟩=>by obtain rfl:=h;rfl
 |.str _,_,⟨_,h⟩=>by obtain rfl:=h;rfl
 |.tup _,_,h=>by obtain⟨_,_,_,rfl,_⟩:=h;rfl
 |.lst _,_,h=>by obtain⟨_,_,rfl,_⟩:=h;rfl
 |.kd _ _,_,h=>by obtain⟨_,_,rfl,_⟩:=h;rfl
 |.rng _,_,h=>by obtain⟨_,_,_,_,rfl,_⟩:=h;rfl
 |.ref _,_,h=>by cases h.2;rfl
 |.tmp _,_,h=>by cases h.2;rfl
 |.clo _ _,_,h=>by obtain⟨_,_,_,_,_,_,rfl,_⟩:=h;rfl
theorem nU{p:Prog}{nC:Nat}(X:Facts B p nC){v r:V}{a:Nat}{x:Value}{expr:Bool}(I:Inv B W)(hx:Rep B W v x)(h:Mine.getAttr p.own W.s v a=some r):
  am B A W (PySem.getAttr x (B.nm a) expr) r W.s:=by
 replace h:=vz h
 refine cp λ_ m=>?_
 obtain⟨c,C,f,h⟩:=h
 replace h:=bg h
 refine x02 h λe h=>?_
 obtain⟨i,rfl,rfl,D,o,j,u,l,z,n⟩:=mC I hx f
 refine x02 (X.own c a e) λk t=>?_
 refine x12 (f9 u (B.nm a)) λF g b=>?_
 refine x12 (cY (p:=λx=>Nat.beq x a) (q:=λx=>decide (x=B.nm a)) (jA l a) n h) λy w d=>?_
 refine m ?_
 simp only [show valueAt j (B.nm a)=some y from w] at b
 exact get_value (I.K) (rl (o) (g)) (X.get c k) (findObj_own (X.dict c k) t rfl b) (rm d) (Post.keep I rfl rfl rfl d)
theorem nO{k name:Str}{u x:Value}{r:List (Str×Value)}(hn:k=name->∀y∈r,y.1≠name):stored ((k,u)::r) name x=if k=name then(k,x)::r else(k,u)::stored r name x:=by
 unfold stored
 by_cases h:k=name
 ·subst h
  simp only [List.any_cons,decide_true,Bool.true_or,if_true,List.map_cons]
  have:r.map (λa=>if a.1=k then(a.1,x) else a)=r.map id:=List.map_congr_left λy b=>(if_neg (hn rfl y b))▸rfl
  simp only [this,List.map_id]
 ·simp only [List.any_cons,h,decide_false,Bool.false_or,if_false,List.map_cons]
  split<;>rfl
theorem qU{es:List DictEntry}{kvs:List (Str×Value)}{name:Str}{t:Tok}{x:Value}(h:Pairs (PySem.strKind prog w) es kvs)(hn:(kvs.map (·.1)).Nodup):
  Pairs (PySem.strKind prog w) (putL name (hashStr w name) (.str name t) x es) (stored kvs name x):=by
 induction h with
 |nil=>exact .cons (by show Value.isStrOf name (.str name t)=true;simp [Value.isStrOf]) rfl .nil
 |cons hk hv hr ih=>
  rename_i e kv es kvs
  obtain⟨k,u⟩:=kv
  simp only [List.map_cons,List.nodup_cons] at hn
  have a:=oz (name:=name) hk
  rw [nO λe y b q=>hn.1 (by rw [e,<-q];exact List.mem_map.mpr ⟨y,b,rfl⟩)]
  dsimp only [putL]
  refine a▸?_
  by_cases hkn:k=name
  ·rw [decide_eq_true hkn,if_pos rfl,if_pos hkn]
   exact .cons hk rfl hr
  ·rw [decide_eq_false hkn,if_neg (by decide),if_neg hkn]
   exact .cons hk hv (ih hn.2)
theorem n4{name:Str}{hsh:Int}{key x:Value}:∀ {es:List DictEntry} {e:DictEntry},e∈putL name hsh key x es->(∃e0∈es,e0.key=e.key/\e0.hash=e.hash)\/(e.key=key/\e.hash=hsh)
 |[],e,h=>by
  simp only [putL,List.mem_singleton] at h
  subst h;exact .inr ⟨rfl,rfl⟩
 |e0::r,e,h=>by
  dsimp only [putL] at h
  split at h
  ·refine(List.mem_cons.mp h).elim (λc=>?_) (λh=>?_)
   ·subst c
    exact .inl (i13 e0 (List.mem_cons_self ..) rfl rfl)
   ·exact .inl (i13 e (List.mem_cons_of_mem _ h) rfl rfl)
  ·refine(List.mem_cons.mp h).elim (λb=>?_) (λh=>?_)
   ·subst b
    exact .inl (i13 e (List.mem_cons_self ..) rfl rfl)
   ·refine(n4 h).elim (λa=>?_) (λd=>?_)
    ·refine x12 a λg d f=>?_
     exact .inl (i12 g (List.mem_cons_of_mem _ d) f)
    ·exact .inr d
theorem lY{K:Type}[DecidableEq K]{kvs:List (K×Value)}{k:K}{x:Value}(hn:(kvs.map (·.1)).Nodup):((stored kvs k x).map (·.1)).Nodup:=by
 unfold stored
 split
 ·rw [List.map_map]
  have:(kvs.map ((·.1)∘λd=>if d.1=k then(d.1,x) else d))=kvs.map (·.1):=List.map_congr_left λy _=>by simp only [Function.comp_apply];split<;>rfl
  simp only [this];exact hn
 ·rename_i h
  rw [List.map_append,List.nodup_append]
  refine i03 hn (by simp) ?_
  intro a f b e
  simp only [List.map_cons,List.map_nil,List.mem_singleton] at e
  subst e
  refine x12 (List.mem_map.mp f) λy g c=>?_
  subst c
  intro q
  exact h (List.any_eq_true.mpr ⟨y,g,by simp [q]⟩)
theorem jV{h:Heap}{d:Addr}{kvs:List (Str×Value)}{name:Str}{t:Tok}{x:Value}(hd:h.DictOf (PySem.strKind prog w) d kvs):
  (h.update d (Obj.putName name (PyData.keyHash w.params name) (.str name t) x)).DictOf (PySem.strKind prog w) d (stored kvs name x):=by
 refine x36 hd λa l n v b hd r z p=>?_
 refine cp λ_ u=>?_
 obtain⟨D,B,data,C⟩:=a
 obtain⟨i,g,q⟩:=b
 refine u ?_
 simp only at i g q hd
 subst i g q hd
 have e:Obj.putName name (PyData.keyHash w.params name) (.str name t) x {cls:=.type "dict",dict:=none,data:=.dict l n,slots:= #[]}=
   dictOf (putL name (hashStr w name) (.str name t) x l.toList) (putN name l.toList n):=by
  exact putName_dict name (PyData.keyHash w.params name) (.str name t) x l.toList n
 refine i36 _ _ _ (by rw [Heap.get?_update_self _ v (e▸rfl),e]) ⟨rfl,rfl,rfl⟩ rfl ?_ ?_ (lY p)
 ·intro A j
  rw [List.mem_toArray] at j
  refine(n4 j).elim (λc=>?_) (λf=>?_)
  ·refine x13 c λs y i g=>?_
   refine x12 (r s (Array.mem_toList_iff.mp y)) λk m o=>?_
   exact i12 k (i▸m) (g▸o)
  ·refine x02 f λi g=>?_
   exact i12 name (by rw [i];show Value.isStrOf name (.str name t)=true;simp [Value.isStrOf]) g
 ·show Pairs _ (putL _ _ _ _ _).toArray.toList _
  exact List.toList_toArray▸qU z p
theorem xG{C:Addr}{x dx:Addr}{name:Str}{tk:Tok}{v:Value}{kvs:List (Str×Value)}{R:Result->Shared->Prop}{K:Frag}{s:Shared}(X:K.In s.heap)(hx:s.heap.get? x=some (instObj C dx))(hd:s.heap.DictOf (PySem.strKind prog w) dx kvs)
  (hp:plainOver K C=true) (ht:takerIn K C name=some none) (hh:(clsIn K C).any (·.hasDict)=true) (hz:kvs.length<=900)
  (h:R (.ok (.ret .none)) {s with heap:=s.heap.update dx (Obj.putName name (PyData.keyHash w.params name) (.str name s.toks) v),toks:=s.toks+1}):
  codeAny (model prog w) A (.call (.builtin "object.__setattr__") ⟨[.ref x,.str name tk,v],[]⟩) R s:=by
 refine x12 (f9 hd name) λr a k=>?_
 have I:InstAt s.heap x (instObj C dx) C (some r):=⟨hx,rfl,rfl,a⟩
 refine osa_open X I hp ht λb=>?_
 refine x12 (any_some hh) λL D i=>?_
 have d:∃c e,r.data=.dict c e/\c.size<=900/\c.any (·.refKey)=false:=by
  refine x36 hd λo c e q _ l _ hp _=>?_
  rw [a] at q;obtain rfl:=Option.some.inj q
  refine i23 c e l ?_ ?_
  ·have:=hp.length;simp only [Array.length_toList] at this;lia
  ·exact Array.any_toList▸(kD hp name).2
 refine x23 d λc e f z m=>?_
 have B:=jV (t:=s.toks) (x:=v) (name:=name) hd
 refine wpAny_bind (wpAny_pure (wpAny_bind (wpAny_bind (wpAny_loadPart hx (wpAny_bind ((looks_clsIn X D).here ?_))))))
 rw [i]
 refine wpAny_pure (wpAny_bind (wpAny_pure (wpAny_bind ?_)))
 refine wpAny_bind (wpAny_bind (wpAny_askSetting (wpAny_pure (wpAny_bind (wpAny_mkText (wpAny_bind (wpAny_loadPart a ?_)))))))
 rw [f]
 dsimp only
 rw [aRefKeyMayBeTheName_at,m,Bool.and_false,if_neg (by decide)]
 refine wpAny_updatePart a ?_
 refine x36 B λJ j F p _ n _ g _=>?_
 have y:j.size<=901:=by
  have u:=g.length
  simp only [Array.length_toList] at u
  have H:(stored kvs name v).length<=kvs.length+1:=by unfold stored;split<;>simp
  lia
 refine wpAny_bind (wpAny_lookBehind p (n▸pastItsLine_dict (by refine sizeLine_eq▸?_;lia)) ?_)
 exact wpAny_pure h
theorem oi{l:List (Nat×V)}{a:Nat}{v:V}:nput l a v=if l.any (λy=>Nat.beq y.1 a) then l.map (λy=>if Nat.beq y.1 a then(y.1,v) else y) else l++[(a,v)]:=rfl
theorem vF{fs:List (Nat×V)}{kvs:List (Str×Value)}{a:Nat}{v:V}{x:Value}(hk:kvs.map (·.1)=fs.map (λp=>B.nm p.1)):
  (stored kvs (B.nm a) x).map (·.1)=(nput fs a v).map (λp=>B.nm p.1):=by
 have f:=jA hk a
 have e:=nz (p:=λy=>Nat.beq y a) (q:=λy=>decide (y=B.nm a)) f
 simp only [oi]
 unfold stored
 rw [e]
 split
 ·simp only [List.map_map]
  have c:(kvs.map ((·.1)∘λb=>if b.1=B.nm a then(b.1,x) else b))=kvs.map (·.1):=List.map_congr_left λy _=>by simp only [Function.comp_apply];split<;>rfl
  have d:(fs.map ((λp=>B.nm p.1)∘λy=>if Nat.beq y.1 a then(y.1,v) else y))=fs.map (λp=>B.nm p.1):=List.map_congr_left λy _=>by simp only [Function.comp_apply];split<;>rfl
  exact(c)▸(d)▸(hk)▸rfl
 ·simp only [List.map_append,hk];rfl
theorem vE{fs:List (Nat×V)}{kvs:List (Str×Value)}{a:Nat}{v:V}{x:Value}(hk:kvs.map (·.1)=fs.map (λp=>B.nm p.1))(hl:aA B W (fs.map (·.2)) (kvs.map (·.2)))(hv:Rep B W v x):
  aA B W ((nput fs a v).map (·.2)) ((stored kvs (B.nm a) x).map (·.2)):=by
 have b:=jA hk a
 have e:=nz (p:=λy=>Nat.beq y a) (q:=λy=>decide (y=B.nm a)) b
 simp only [oi]
 unfold stored
 rw [e]
 split
 ·have:=l8 (p:=λy=>Nat.beq y a) (q:=λy=>decide (y=B.nm a)) hv b hl
  simpa using this
 ·simp only [List.map_append]
  exact hl.append ⟨hv,trivial⟩
theorem nR{p:Prog}{nC:Nat}(X:Facts B p nC){v u:V}{a:Nat}{x y:Value}{s':S}(I:Inv B W)(hx:Rep B W v x)(hu:Rep B W u y)(h:Mine.setAttr p.own W.s v a u=some s'):
  wpAny (model prog w) A (PySem.setAttr x (B.nm a) y) (Post B W s' λ_ _=>True) (λ_ _=>False) W.sh:=by
 replace h:=bg h
 obtain⟨k,h⟩:=h
 replace h:=vz h
 refine x22 h λc H f h=>?_
 replace h:=bg h
 obtain⟨d,h⟩:=h
 replace d:=b2 d
 obtain⟨i,rfl,rfl,m,n,D,o,j,T,M⟩:=mC I hx f
 refine x02 (X.own c a d.1) λF O=>?_
 have P:D.length=H.length:=by simpa using congrArg List.length j
 refine x12 (f9 o (B.nm a)) λU r l=>?_
 have L:takerIn B.K (B.ca c) (B.nm a)=some none:=by unfold takerIn;rw [O];rfl
 refine set_plain (I.K) (rl (n) (r)) (X.set c F) ?_
 refine xG (s:={W.sh with toks:=W.sh.toks+1}) (I.K) (n) (o) (X.over c F) L (X.dict c F) (by lia) ?_
 have J:=jV (t:=W.sh.toks+1) (x:=y) (name:=B.nm a) o
 obtain⟨R,Q⟩:=I.putPerm m (o':=.inst c (nput H a u)) rfl
  (by have:=I.cleanOb f;exact eM (p:=λy=>Nat.beq y a) k this)
  (.inr ⟨rfl,rfl⟩) (sh':={W.sh with toks:=W.sh.toks+1+1,heap:=W.h.update (W.g.adr 1 i) (Obj.putName (B.nm a) (PyData.keyHash w.params (B.nm a)) (.str (B.nm a) (W.sh.toks+1)) y)}) (λb x N e=>(Heap.get?_update_ne _ _ _ _ N).trans e) (gg J) ⟨rfl,rfl⟩
  λC=>⟨by
    have z:W.g.adr 0 i≠W.g.adr 1 i:=λq=>by
     have:=(I.inj 0 i 1 i (List.getElem?_eq_some_iff.mp m).1 ⟨_,_,m⟩ q).1;lia
    exact(Heap.get?_update_ne _ _ _ _ z).trans n,_,J,vF j,jw (p:=λy=>Nat.beq y a) (of_decide_eq_true d.2),vE j (M.mono C) (hu.mono C)⟩
 cases Option.some.inj h
 exact⟨_,rfl,rfl,R,Q,trivial⟩
theorem Inv.drop'{W₀ W:Mo}(I₀:Inv B W₀)(I:Inv B W){Ow:Addr->Prop}(st:Step Ow W₀ W){X:Addr->Prop}(hX:∀b,X b->Own W b)(hX0:∀b,X b->W₀.h.get? b=none){sh':Shared}
  (hk:∀b o,¬X b->W.h.get? b=some o->sh'.heap.get? b=some o) (hs:Sm W.sh sh'):
  Inv B ⟨W.s,⟨W.g.adr,λb=>W.g.F b/\¬X b⟩,sh'⟩/\Step Ow W₀ ⟨W.s,⟨W.g.adr,λb=>W.g.F b/\¬X b⟩,sh'⟩/\Carry W ⟨W.s,⟨W.g.adr,λb=>W.g.F b/\¬X b⟩,sh'⟩:=by
 have C:Carry W ⟨W.s,⟨W.g.adr,λb=>W.g.F b/\¬X b⟩,sh'⟩:=
  ⟨λa o l e=>⟨hk a o (λq=>l (hX a q).1) e,λq=>l q.1⟩,λ_ _ _=>rfl,Nat.le_refl _,Nat.le_refl _⟩
 have d:∀k i,live W.s k i->¬X (W.g.adr k i):=λk i h q=>(hX _ q).2.2 k i h rfl
 refine i03 ⟨λb o e=>?_,λb h=>I.fresh b h.1,λb h=>?_,λi o e=>?_,λi o e=>⟨?_,(I.tmps i o e).2⟩,λk i h=>⟨I.inF k i h,d k i h⟩,I.inj,I.nt⟩ ?_ C
 ·refine hk b o (λq=>?_) (I.base b o e)
  have:=I.fresh b (hX b q).1
  rw [e] at this;exact ns this
 ·obtain⟨o,f⟩:=Option.isSome_iff_exists.mp (I.fdom b h.1)
  show(sh'.heap.get? b).isSome
  rw [hk b o h.2 f];rfl
 ·have j:live W.s 0 i:=(List.getElem?_eq_some_iff.mp e).1
  refine(I.perm i o e).mono C (λx=>hk _ x (d 0 i j)) λc x=>hk _ x (d 1 i ?_)
  cases o<;>first|exact ff c|exact nn c|exact c.elim|skip
  exact i21 _ _ e
 ·have j:live W.s 2 i:=(List.getElem?_eq_some_iff.mp e).1
  exact(I.tmps i o e).1.mono C (λx=>hk _ x (d 2 i j)) λc=>by replace c:=((I.tmps i o e).2)▸c;exact ff c
 ·refine⟨st.lenp,st.lent,st.kind,st.adr,λb h=>⟨st.F b h,λq=>?_⟩,λb h=>st.new b h.1,st.newl,λb o e n m=>?_,λb h=>?_,st.sm.trans hs⟩
  ·have:=I₀.fdom b h
   rw [hX0 b q] at this;exact ff this
  ·exact hk b o (λq=>by rw [hX0 b q] at e;exact nn e) (st.keep b o e n m)
  ·obtain⟨o,f⟩:=Option.isSome_iff_exists.mp (st.dom b h)
   show(sh'.heap.get? b).isSome
   rw [hk b o (λq=>by rw [hX0 b q] at h;exact ff h) f];rfl
inductive Ck(B:Base prog w)(Ow:Addr->Prop)(W₀ W:Mo)(X:Addr->Prop)(sh':Shared):Prop
 |mk (W':Mo) (s:W'.s=W.s) (h:W'.sh=sh') (F:∀b,W'.g.F b↔W.g.F b/\¬X b) (I:Inv B W') (st:Step Ow W₀ W') (C:Carry W W') (own:∀b,Own W b->¬X b->Own W' b)
theorem Inv.drop{W₀ W:Mo}(I₀:Inv B W₀)(I:Inv B W){Ow:Addr->Prop}(st:Step Ow W₀ W){X:Addr->Prop}(hX:∀b,X b->Own W b)(hX0:∀b,X b->W₀.h.get? b=none){sh':Shared}
  (hk:∀b o,¬X b->W.h.get? b=some o->sh'.heap.get? b=some o) (hs:Sm W.sh sh'):
  Ck B Ow W₀ W X sh':=by
 refine x03 (I₀.drop' I st hX hX0 hk hs) λa1 a2 d=>?_
 refine⟨⟨W.s,⟨W.g.adr,λb=>W.g.F b/\¬X b⟩,sh'⟩,rfl,rfl,λb=>Iff.rfl,a1,a2,d,λb a c=>i03 ⟨a.1,c⟩ ?_ a.2.2⟩
 refine x11 (Option.isSome_iff_exists.mp a.2.1) λo e=>?_
 rw [hk b o c e];rfl
theorem Inv.newOwn'{W:Mo}(I:Inv B W){o:Obj}{sh':Shared}(h1:sh'.heap=W.h.push o)(hs:Sm W.sh sh')(hfree:o.isFreed=false):
  Inv B ⟨W.s,⟨W.g.adr,λb=>W.g.F b\/b=W.h.objs.size⟩,sh'⟩/\Step (λ_=>False) W ⟨W.s,⟨W.g.adr,λb=>W.g.F b\/b=W.h.objs.size⟩,sh'⟩/\
   Own ⟨W.s,⟨W.g.adr,λb=>W.g.F b\/b=W.h.objs.size⟩,sh'⟩ W.h.objs.size/\sh'.heap.get? W.h.objs.size=some o:=by
 have a:sh'.heap.get? W.h.objs.size=some o:=h1▸Heap.get?_push_size _ hfree
 refine x02 (I.ext (sh':=sh') (F':=λb=>W.g.F b\/b=W.h.objs.size) (λb x e=>h1▸Heap.get?_push_of_some _ e)
  (λb h=>h.imp id λq=>by subst q;exact⟨ba _,by rw [a];rfl⟩) (λb h=>.inl h) hs) λf c=>?_
 refine i04 f c ⟨.inr rfl,by show(sh'.heap.get? _).isSome;rw [a];rfl,λk i d q=>?_⟩ a
 have:=I.fdom _ (I.inF k i d)
 rw [show W.g.adr k i=W.h.objs.size from q,ba] at this
 exact ff this
inductive CM(B:Base prog w)(W:Mo)(o:Obj)(sh':Shared):Prop
 |mk (W':Mo) (s:W'.s=W.s) (h:W'.sh=sh') (I:Inv B W') (st:Step (λ_=>False) W W') (own:Own W' W.h.objs.size) (at_:W'.h.get? W.h.objs.size=some o)
theorem Inv.newOwn{W:Mo}(I:Inv B W){o:Obj}{sh':Shared}(h1:sh'.heap=W.h.push o)(hs:Sm W.sh sh')(hfree:o.isFreed=false):
  CM B W o sh':=
 ⟨⟨W.s,⟨W.g.adr,λb=>W.g.F b\/b=W.h.objs.size⟩,sh'⟩,rfl,rfl,(I.newOwn' h1 hs hfree).1,(I.newOwn' h1 hs hfree).2.1,(I.newOwn' h1 hs hfree).2.2.1,(I.newOwn' h1 hs hfree).2.2.2⟩
theorem Own.isSome{W:Mo}{a:Addr}(h:Own W a):∃o,W.h.get? a=some o:=Option.isSome_iff_exists.mp h.2.1
theorem Own.lt{W:Mo}{a:Addr}(h:Own W a):a<W.h.objs.size:=by obtain⟨o,b⟩:=h.isSome;exact Heap.lt_size b
def bv(W:Mo)(I:Addr)(v:V)(x:Value)(j:Nat):Prop:=
 match v with
 |.rng k=>IsRangeIter W.h I (j:Int) (k - j) 1
 |.tup _=>∃a,x=.ref a/\W.h.IsTupleIter I a j
 |_=>∃a,x=.ref a/\W.h.IsListIter I a j
theorem bv.keep{W W':Mo}{I:Addr}{v:V}{x:Value}{j:Nat}(h:bv W I v x j)(hk:∀o,W.h.get? I=some o->W'.h.get? I=some o):bv W' I v x j:=by
 unfold bv at h ⊢
 split at h
 ·exact hk _ h
 ·obtain⟨a,rfl,o,b,r⟩:=h;exact⟨a,rfl,o,hk _ b,r⟩
 ·obtain⟨a,rfl,o,b,r⟩:=h;exact⟨a,rfl,o,hk _ b,r⟩
inductive CH(B:Base prog w)(W:Mo)(v:V)(x:Value)(all:List V):Prop
 |rng (k a t u z) (h:v=.rng k) (hz:0<=k/\k<=lim) (ha:all=(List.range k.toNat).map (λi:Nat=>V.int (i:Int))) (e:x=.ref a) (r:IsRange W.h a 0 k 1 t u z)
 |tup (l a its n) (h:v=.tup l) (ha:all=l) (e:x=.ref a) (ho:W.h.get? a=some ⟨.type "tuple",none,.seq its n, #[]⟩) (hl:aA B W all its.toList)
 |lst (a its) (h:∀k,v≠ .rng k) (h':∀l,v≠ .tup l) (e:x=.ref a) (ho:W.h.PlainList a its) (hl:aA B W all its.toList)
theorem ki{s:S}{v:V}{all:List V}(h:iter? s v=some all):(∃k,v=.rng k/\all=(List.range k.toNat).map (λi:Nat=>V.int (i:Int)))\/seq? s v=some all:=by
 cases v with
 |rng k=>obtain rfl:=Option.some.inj h;exact .inl (i12 k rfl rfl)
 |_=>exact .inr h
theorem jS{v:V}{x:Value}{all:List V}(I:Inv B W)(hx:Rep B W v x)(h:iter? W.s v=some all):CH B W v x all:=by
 refine(ki h).elim (λb=>?_) (λh=>?_)
 ·obtain⟨k,rfl,rfl⟩:=b
  obtain⟨a,t,u,z,rfl,_,c,d⟩:=hx
  exact .rng k a t u z rfl c rfl rfl d
 ·cases pZ I h hx with
  |tup e a its n e1 ho c hl=>exact .tup all a its n e rfl e1 ho hl
  |lst n1 n2 a its e1 ho c hl=>exact .lst a its (λk q=>n2 (q▸rfl)) (λk q=>n1 (q▸rfl)) e1 ho hl
inductive ItS(B:Base prog w)(W:Mo)(v:V)(x:Value)(it:Value)(sh':Shared):Prop
 |mk (J:Addr) (W':Mo) (r:it=.ref J) (e:W'.sh=sh') (s:W'.s=W.s) (I:Inv B W') (st:Step (λ_=>False) W W') (own:Own W' J) (n:W.h.get? J=none) (at_:bv W' J v x 0)
theorem kh{v:V}{x:Value}{all:List V}(I:Inv B W)(hx:Rep B W v x)(h:iter? W.s v=some all):
  wpAny (model prog w) A (pyIter x) (ItS B W v x) (λ_ _=>False) W.sh:=by
 have m:=iK
 rcases jS I hx h with⟨k,a,t,u,z,rfl,hz,_,rfl,hr⟩|⟨l,a,its,n,rfl,_,rfl,ho,hl⟩|⟨a,its,hn1,hn2,rfl,ho,hl⟩
 ·have q:Builtin.Range.rangeSize 0 k 1=k:=by rw [rangeSize_one];split<;>omega
  refine wpAny_pyIter_range hr (small_one (by decide) (by decide) (by omega) (by omega)) ?_
  obtain⟨e,f,i,j,g,c,d⟩:=I.newOwn (sh':={W.sh with heap:=W.h.push _}) (o:={cls:=.type "range_iterator",data:=.fields #[rawInt 0,rawInt (Builtin.Range.rangeSize 0 k 1),rawInt 1]}) rfl ⟨rfl,rfl⟩ rfl
  refine⟨_,e,rfl,i,f,j,g,c,ba _,?_⟩
  show e.h.get? W.h.objs.size=_
  rw [d,q]
  simp [rawInt]
 ·refine wpAny_pyIter_tuple ⟨_,ho,rfl,_,rfl⟩ ?_
  refine cp λ_ p=>?_
  obtain⟨e,f,i,j,g,c,d⟩:=I.newOwn (sh':={W.sh with heap:=W.h.push _}) (o:={cls:=.type "tuple_iterator",data:=.fields #[.ref a,.int 0 0]}) rfl ⟨rfl,rfl⟩ rfl
  refine p ?_
  exact⟨_,e,rfl,i,f,j,g,c,ba _,a,rfl,_,d,rfl,rfl⟩
 ·refine wpAny_pyIter_list ho.isList ?_
  obtain⟨e,f,i,j,g,c,d⟩:=I.newOwn (sh':={W.sh with heap:=W.h.push _}) (o:={cls:=.type "list_iterator",data:=.fields #[.ref a,.int 0 0]}) rfl ⟨rfl,rfl⟩ rfl
  refine⟨_,e,rfl,i,f,j,g,c,ba _,?_⟩
  have:∃b,Value.ref a=.ref b/\e.h.IsListIter W.h.objs.size b 0:=⟨a,rfl,_,by exact d,rfl,rfl⟩
  unfold bv
  split
  ·exact absurd rfl (hn1 _)
  ·exact absurd rfl (hn2 _)
  ·exact this
inductive ItN(B:Base prog w)(W:Mo)(J:Addr)(v u:V)(x:Value)(j:Nat)(r:Option Value)(sh':Shared):Prop
 |mk (y:Value) (W':Mo) (r:r=some y) (e:W'.sh=sh') (s:W'.s=W.s) (I:Inv B W') (st:Step (λb=>b=J) W W') (rep:Rep B W' u y) (at_:bv W' J v x (j+1))
theorem lF{J:Addr}{v u:V}{x:Value}{all:List V}{j:Nat}(I:Inv B W)(hx:Rep B W v x)(h:iter? W.s v=some all)(hJ:Own W J)(hit:bv W J v x j)(hj:all[j]?=some u):
  wpAny (model prog w) A (pyNext (.ref J)) (ItN B W J v u x j) (λ_ _=>False) W.sh:=by
 have r:∀ (c:Heap) (y:Value) (K:Nat),Heap.SameBut J W.h c->(c.get? J).isSome->(∀d,Carry W d->Rep B d u y)->(∀d:Mo,d.h=c->bv d J v x (j+1))->
   ItN B W J v u x j (some y) {W.sh with heap:=c,toks:=K}:=by
  intro c y K D Q O e
  refine x02 (I.own (sh':={W.sh with heap:=c,toks:=K}) hJ (λb o f q=>(D.2 b f).trans q) Q ⟨rfl,rfl⟩) λT P=>?_
  exact⟨y,⟨W.s,W.g,{W.sh with heap:=c,toks:=K}⟩,rfl,rfl,rfl,T,P,O _ (P.carry I λb q=>q▸hJ.1),e _ rfl⟩
 rcases jS I hx h with⟨k,a,t,uu,z,rfl,hz,rfl,rfl,O⟩|⟨l,a,its,n,rfl,rfl,rfl,p,hl⟩|⟨a,its,hn1,hn2,rfl,p,hl⟩
 ·have M:j<k.toNat:=by
   have:=(List.getElem?_eq_some_iff.mp hj).1
   simpa using this
  have R:u=V.int (j:Int):=by simp [M] at hj;exact hj.symm
  subst R
  have F:IsRangeIter W.h J (j:Int) (k - j) 1:=by exact hit
  refine wpAny_pyNext_range_item F (by omega) λc e D=>?_
  refine r c _ _ D (by rw [show c.get? J=_ from e];rfl) (λd C=>⟨_,rfl⟩) λd H=>?_
  show d.h.get? J=_
  refine H▸(show c.get? J=_ from e)▸?_
  have:(j:Int)+1=((j+1:Nat):Int):=rfl
  exact(this)▸(show k - ((j:Int)+1)=k - j - 1 by lia)▸rfl
 ·refine x12 hit λb f m=>?_
  have f:=Value.ref.inj f
  subst f
  refine x12 (hl.get hj) λy N i=>?_
  refine wpAny_pyNext_tuple_item (m) ⟨_,p,rfl,_,rfl⟩ (by simpa using N) λc e D=>?_
  exact r c y W.sh.toks D (by obtain⟨o,p,_⟩:=e;rw [p];rfl) (λd C=>i.mono C) λd H=>i12 a rfl (H▸e)
 ·refine x12 (hl.get hj) λy N i=>?_
  have L:∃b,Value.ref a=.ref b/\W.h.IsListIter J b j:=by
   unfold bv at hit
   split at hit
   ·exact absurd rfl (hn1 _)
   ·exact absurd rfl (hn2 _)
   ·exact hit
  refine x12 L λb f m=>?_
  injection f with f
  subst f
  refine wpAny_pyNext_list_item (m) (p.isList) (by simpa using N) λc e D=>?_
  refine r c y W.sh.toks D (by obtain⟨o,p,_⟩:=e;rw [p];rfl) (λd C=>i.mono C) λd H=>?_
  unfold bv
  split
  ·exact absurd rfl (hn1 _)
  ·exact absurd rfl (hn2 _)
  ·exact i12 a rfl (H▸e)
inductive ItE(B:Base prog w)(Ow:Addr->Prop)(W₀ W:Mo)(J:Addr)(r:Option Value)(sh':Shared):Prop
 |mk (W':Mo) (r:r=none) (e:W'.sh=sh') (s:W'.s=W.s) (I:Inv B W') (st:Step Ow W₀ W') (C:Carry W W') (own:∀b,Own W b->b≠J->Own W' b) (k:∀b o,b≠J->W.h.get? b=some o->W'.h.get? b=some o)
theorem ox{W₀:Mo}{Ow:Addr->Prop}{J:Addr}{v:V}{x:Value}{all:List V}{j:Nat}(hh:A.handled=none)(I₀:Inv B W₀)(st:Step Ow W₀ W)(hJ0:W₀.h.get? J=none)(I:Inv B W)
  (hx:Rep B W v x) (h:iter? W.s v=some all) (hJ:Own W J) (hit:bv W J v x j) (hj:all.length=j):
  wpAny (model prog w) A (pyNext (.ref J)) (ItE B Ow W₀ W J) (λ_ _=>False) W.sh:=by
 have e:∀ (f:Heap),Heap.ExtBut J W.h f->ItE B Ow W₀ W J none {W.sh with heap:=f}:=by
  intro f y
  have p:∀b o,¬b=J->W.h.get? b=some o->f.get? b=some o:=y
  obtain⟨r,F,m,_,H,g,C,u⟩:=I₀.drop I st (X:=λb=>b=J) (λb q=>q▸hJ) (λb q=>q▸hJ0) (sh':={W.sh with heap:=f}) p ⟨rfl,rfl⟩
  exact⟨r,rfl,m,F,H,g,C,u,λb o c q=>by unfold Mo.h;exact m▸p b o c q⟩
 rcases jS I hx h with⟨k,a,t,uu,z,rfl,hz,rfl,rfl,hr⟩|⟨l,a,its,n,rfl,rfl,rfl,ho,hl⟩|⟨a,its,hn1,hn2,rfl,ho,hl⟩
 ·have D:k.toNat=j:=by simpa using hj
  exact wpAny_pyNext_range_end hh (hit:IsRangeIter W.h J (j:Int) (k - j) 1) (by lia) e
 ·refine x12 hit λb c d=>?_
  have c:=Value.ref.inj c
  subst c
  have:=hl.size
  exact wpAny_pyNext_tuple_end hh (d) ⟨_,ho,rfl,_,rfl⟩ (by rw [Array.getElem?_eq_none];omega) e
 ·have i:∃b,Value.ref a=.ref b/\W.h.IsListIter J b j:=by
   unfold bv at hit
   split at hit
   ·exact absurd rfl (hn1 _)
   ·exact absurd rfl (hn2 _)
   ·exact hit
  refine x12 i λb c d=>?_
  injection c with c
  subst c
  have:=hl.size
  exact wpAny_pyNext_list_end hh (d) (ho.isList) (by rw [Array.getElem?_eq_none];omega) e
end
def bQ(env:Env)(ctx:List (Str×Nat))(b:Addr):Prop:=b=env.locals\/∃nm x,ctx.lookup nm=some x/\env.scope.names.lookup nm=some .cell/\env.cells.lookup nm=some b
theorem bt:∀ {l:List V} {x y:Nat} {v:V},lget (lset l x v) y=if x=y/\x<l.length then v else lget l y:=by
 intro a
 induction a with
 |nil=>
  exact @λx y v=>by simp [lset]
 |cons _ r bt=>
  exact @λb c d=>match b,c,d with
  |0,0,v=>rfl
  |0,y+1,v=>rfl
  |x+1,0,v=>rfl
  |x+1,y+1,v=>by simp [lset,lget,bt]
theorem hM:∀ {l:List V} {x:Nat},¬x<l.length->lget l x=.undef
 |[],_,_=>rfl
 |_::_,0,h=>absurd (Nat.zero_lt_succ _) h
 |_::r,x+1,h=>hM (l:=r) λq=>h (Nat.succ_lt_succ q)
def bk(ctx:List (Str×Nat)):Prop:=∀nm nm' x,ctx.lookup nm=some x->ctx.lookup nm'=some x->nm=nm'
section
variable {prog:Program}{w:World}{B:Base prog w}
variable {A:Around}{n:Nat}{W:Mo}{env:Env}{ctx:List (Str×Nat)}{ks:List (Str×NameKind)}{ρ:List V}
theorem bQ.inF(E:az B env ctx ks ρ W):∀b,bQ env ctx b->W.g.F b:=by
 rintro b (rfl|⟨nm,x,hx,h1,h2⟩)
 ·exact E.own.1
 ·rw [E.names] at h1
  refine x23 (E.cell nm x hx h1) λc e a d _=>?_
  rw [h2] at a;obtain rfl:=Option.some.inj a
  exact d.1
theorem az.stepOw{W':Mo}{Ow:Addr->Prop}(E:az B env ctx ks ρ W)(C:Carry W W')(hk:∀b o,bQ env ctx b->W.h.get? b=some o->Own W b->W'.h.get? b=some o)(hO:∀b,bQ env ctx b->Own W b->Own W' b):az B env ctx ks ρ W':=by
 refine⟨E.kind,E.names,E.glob,E.blt,?_,hO _ (.inl rfl) E.own,?_,?_,E.apart⟩
 ·refine x12 E.loc λm e h=>?_
  refine x32 e λo z y l r=>?_
  refine i12 m ⟨o,z,y,hk _ o (.inl rfl) l E.own,r⟩ (λk x i g j=>?_)
  refine x12 (h k x i g j) λf n t=>?_
  exact i12 f n (t.mono C)
 ·intro k x i g
  refine x24 (E.cell k x i g) λc w j n a q=>?_
  refine x12 a λo l s=>?_
  have v:bQ env ctx c:=.inr (i23 k x i (by exact E.names▸g) j)
  refine i24 c w j (hO c v n) ⟨o,hk c o v l n,s⟩ (λA=>?_)
  refine x12 (q A) λf u p=>?_
  exact i12 f u (p.mono C)
 ·intro k x i g
  refine x24 (E.free k x i g) λc f j d t q=>?_
  refine x12 d λo l s=>?_
  obtain⟨u,p⟩:=C.fz _ _ t l
  exact i24 c f j ⟨o,u,s⟩ p (q.mono C)
theorem az.stepBut{W':Mo}{Ow:Addr->Prop}(E:az B env ctx ks ρ W)(I:Inv B W)(st:Step Ow W W')(hF:∀b,Ow b->W.g.F b)(hn:∀b,bQ env ctx b->¬Ow b):az B env ctx ks ρ W':=
 E.stepOw (Ow:=Ow) (st.carry I hF) (λb o c e a=>st.keep b o e a.2.2 (hn b c)) λb _ a=>a.step st
inductive tf(B:Base prog w)(Ow:Addr->Prop){α:Type}(W:Mo)(s':S)(P:Mo->α->Prop)(a:α)(sh':Shared):Prop
 |mk (W':Mo) (e:W'.sh=sh') (s:W'.s=s') (I:Inv B W') (st:Step Ow W W') (p:P W' a)
inductive An(B:Base prog w)(env:Env)(ctx:List (Str×Nat))(ks:List (Str×NameKind))(nm:Str)(ρ':List V)(W:Mo)(sh':Shared):Prop
 |mk (W':Mo) (d:Addr) (hd:bQ env ctx d/\(ks.lookup nm=some .local ->d=env.locals)) (e:W'.sh=sh') (s:W'.s=W.s) (I:Inv B W') (st:Step (λb=>b=d) W W') (C:Carry W W') (E:az B env ctx ks ρ' W') (own:∀b,Own W b->Own W' b) (k:∀b o,b≠d->W.h.get? b=some o->W'.h.get? b=some o)
def yr(B:Base prog w)(env:Env)(ctx:List (Str×Nat))(ks:List (Str×NameKind))(fl:Fl)(ρ':List V)(W':Mo)(f:Flow):Prop:=
 match fl with|.next=>f=.next/\az B env ctx ks ρ' W'|.ret v=>∃x,f=.ret x/\Rep B W' v x
def au(B:Base prog w)(A:Around)(env:Env)(ctx:List (Str×Nat))(ks:List (Str×NameKind))(W:Mo)(t:Sem Flow)(fl:Fl)(ρ':List V)(s':S):Prop:=
 wpAny (model prog w) A t (tf B (bQ env ctx) W s' (yr B env ctx ks fl ρ')) (λ_ _=>False) W.sh
theorem cU{nm:Str}{x:Nat}{u:V}{y:Value}(I:Inv B W)(E:az B env ctx ks ρ W)(hinj:bk ctx)(hx:ctx.lookup nm=some x)(hk:ks.lookup nm=some .local \/ks.lookup nm=some .cell)(hu:Rep B W u y):
  wpAny (model prog w) A (storeName env nm y) (λ_=>An B env ctx ks nm (lset ρ x u) W) (λ_ _=>False) W.sh:=by
 rcases hk with hk|hk
 ·
  refine x12 E.loc λm hn hl=>?_
  refine wpAny_storeName_local (by unfold Env.kindOf;exact E.names▸hk) (hn) (λN K hs=>?_) (E.kind▸rfl)
  have D:∀b o,b≠env.locals->W.h.get? b=some o->N.get? b=some o:=λb o R q=>(hs.2 b R).trans q
  refine x02 (I.own (sh':={W.sh with heap:=N,toks:=W.sh.toks+1}) E.own D (by obtain⟨o,_,_,F,_⟩:=K;exact F▸rfl) ⟨rfl,rfl⟩) λI' X=>?_
  have C:=X.carry I λb q=>q▸E.own.1
  have O:∀b,Own W b->Own ⟨W.s,W.g,{W.sh with heap:=N,toks:=W.sh.toks+1}⟩ b:=λb R=>R.step X
  refine⟨⟨W.s,W.g,{W.sh with heap:=N,toks:=W.sh.toks+1}⟩,env.locals,⟨.inl rfl,λ_=>rfl⟩,rfl,rfl,I',X,C,⟨E.kind,E.names,E.glob,E.blt,i12 _ K (λj k l t v=>?_),O _ E.own,λj k l t=>?_,λj k l t=>?_,E.apart⟩,O,D⟩
  ·rw [bt] at v ⊢
   by_cases q:j=nm
   ·subst q
    replace l:=hx▸l;obtain rfl:=Option.some.inj l
    refine(if_pos rfl)▸?_
    split at v
    ·rename_i hlt;exact(if_pos hlt)▸i12 y rfl (hu.mono C)
    ·rename_i hlt
     exact absurd (hM λz=>hlt ⟨rfl,z⟩) v
   ·have p:¬(x=k/\x<ρ.length):=λz=>q (hinj j nm k l (z.1▸hx))
    rw [if_neg p] at v ⊢
    refine(if_neg q)▸?_
    refine x12 (hl j k l t v) λn T U=>?_
    exact i12 n T (U.mono C)
  ·refine x24 (E.cell j k l t) λc v0 v T i Z=>?_
   refine x12 i λo F J=>?_
   have hc:c≠env.locals:=by
    rintro rfl
    refine x33 hn λo' es ep L M _=>?_
    rw [F] at L;obtain rfl:=Option.some.inj L
    rw [J] at M;cases M
   have p:¬(x=k/\x<ρ.length):=λz=>by
    have:=hinj j nm k l (z.1▸hx)
    subst this
    replace t:=hk▸t;cases t
   refine i24 c v0 v (O c T) ⟨o,D c o hc F,J⟩ (λP=>?_)
   rw [bt,if_neg p] at P ⊢
   refine x12 (Z P) λn h7 Y=>?_
   exact i12 n h7 (Y.mono C)
  ·refine x24 (E.free j k l t) λc n v a U Z=>?_
   refine x12 a λo F J=>?_
   have p:¬(x=k/\x<ρ.length):=λz=>by
    have:=hinj j nm k l (z.1▸hx)
    subst this
    replace t:=hk▸t;cases t
   obtain⟨h7,Y⟩:=C.fz _ _ U F
   exact i24 c n v ⟨o,h7,J⟩ Y (by refine bt▸(if_neg p)▸?_;exact Z.mono C)
 ·
  refine x24 (E.cell nm x hx hk) λc v0 hc H P _=>?_
  refine wpAny_storeName_cell E.kind (by unfold Env.kindOf;exact E.names▸hk) hc (P) λN K hs=>?_
  have D:∀b o,b≠c->W.h.get? b=some o->N.get? b=some o:=λb o R q=>(hs.2 b R).trans q
  obtain⟨I',X⟩:=I.own (sh':={W.sh with heap:=N}) H D (by obtain⟨o,F,_⟩:=K;exact F▸rfl) ⟨rfl,rfl⟩
  have C:=X.carry I λb q=>q▸H.1
  have O:∀b,Own W b->Own ⟨W.s,W.g,{W.sh with heap:=N}⟩ b:=λb R=>R.step X
  have a4:bQ env ctx c:=.inr (i23 nm x hx (by exact E.names▸hk) hc)
  refine⟨⟨W.s,W.g,{W.sh with heap:=N}⟩,c,⟨a4,λq=>by replace q:=hk▸q;cases q⟩,rfl,rfl,I',X,C,⟨E.kind,E.names,E.glob,E.blt,?_,O _ E.own,λj k l t=>?_,λj k l t=>?_,E.apart⟩,O,D⟩
  ·refine x12 E.loc λm d hl=>?_
   refine x33 d λo es ep F J r=>?_
   have a6:env.locals≠c:=by
    intro q
    refine x12 P λo' L M=>?_
    rw [<-q,F] at L;obtain rfl:=Option.some.inj L
    rw [J] at M;cases M
   refine i12 m ⟨o,es,ep,D _ o a6 F,J,r⟩ (λj k l t v=>?_)
   have p:¬(x=k/\x<ρ.length):=λz=>by
    have:=hinj j nm k l (z.1▸hx)
    subst this
    rw [hk] at t;cases t
   rw [bt,if_neg p] at v ⊢
   refine x12 (hl j k l t v) λn T U=>?_
   exact i12 n T (U.mono C)
  ·by_cases q:j=nm
   ·subst q
    rw [hx] at l;obtain rfl:=Option.some.inj l
    refine i24 c (some y) hc (O c H) K (λv=>i12 y rfl ?_)
    rw [bt] at v ⊢
    split at v
    ·rename_i hlt;exact(if_pos hlt)▸hu.mono C
    ·rename_i hlt
     exact absurd (hM λz=>hlt ⟨rfl,z⟩) v
   ·refine x24 (E.cell j k l t) λQ a7 v T e Z=>?_
    refine x12 e λo F J=>?_
    have a8:Q≠c:=by
     rintro rfl
     exact q (E.apart j nm k x Q l hx t hk v hc)
    have p:¬(x=k/\x<ρ.length):=λz=>q (hinj j nm k l (z.1▸hx))
    refine i24 Q a7 v (O Q T) ⟨o,D Q o a8 F,J⟩ (λP=>?_)
    rw [bt,if_neg p] at P ⊢
    refine x12 (Z P) λn h7 Y=>?_
    exact i12 n h7 (Y.mono C)
  ·refine cp λ_ kk=>?_
   refine x24 (E.free j k l t) λQ n v f U Z=>?_
   refine x12 f λo F J=>?_
   have p:¬(x=k/\x<ρ.length):=λz=>by
    have:=hinj j nm k l (z.1▸hx)
    subst this
    rw [hk] at t;cases t
   obtain⟨h7,Y⟩:=C.fz _ _ U F
   refine kk ?_
   exact i24 Q n v ⟨o,h7,J⟩ Y (by refine bt▸(if_neg p)▸?_;exact Z.mono C)
end
noncomputable def aW:List (Str×NameKind)->List (Str×Addr)->List (Str×Addr)->List (Str×Addr)
 |[],_,acc=>acc
 |(n,k)::r,cells,acc=>if k==.free then(match cells.lookup n with|some c=>aW r cells ((n,c)::acc)|none=>aW r cells acc) else aW r cells acc
theorem aJ{β:Type}{a k:Str}{b:β}{l:List (Str×β)}:List.lookup a ((k,b)::l)=if a=k then some b else List.lookup a l:=by
 dsimp only [List.lookup_cons]
 by_cases h:a=k
 ·subst h;simp
 ·rw [if_neg h,beq_eq_false_iff_ne.mpr h]
theorem b0{cells:List (Str×Addr)}:∀ {names:List (Str×NameKind)} {acc:List (Str×Addr)},(∀m c,acc.lookup m=some c->cells.lookup m=some c)->∀m c,(aW names cells acc).lookup m=some c->cells.lookup m=some c
 |[],_,h,m,c,e=>h m c e
 |(n,k)::r,acc,h,m,c,e=>by
  dsimp only [aW] at e
  split at e
  ·split at e
   ·rename_i c' hc'
    refine b0 (λb a q=>?_) m c e
    rw [aJ] at q
    split at q
    ·rename_i hm;subst hm;obtain rfl:=Option.some.inj q;exact hc'
    ·exact h b a q
   ·exact b0 h m c e
  ·exact b0 h m c e
theorem dY{cells:List (Str×Addr)}:∀ {names:List (Str×NameKind)} {acc:List (Str×Addr)} {m:Str},((m,NameKind.free)∈names\/(acc.lookup m).isSome)->(cells.lookup m).isSome->((aW names cells acc).lookup m).isSome
 |[],acc,m,h,_=>by rcases h with h|h;simp at h;exact h
 |(n,k)::r,acc,m,h,hc=>by
  dsimp only [aW]
  split
  ·split
   ·rename_i c' hc'
    refine dY ?_ hc
    rcases h with h|h
    ·refine(List.mem_cons.mp h).elim (λq=>?_) (λq=>?_)
     ·cases q;right;rw [aJ,if_pos rfl];rfl
     ·exact .inl q
    ·right;rw [aJ];split;rfl;exact h
   ·rename_i hn
    refine dY ?_ hc
    rcases h with h|h
    ·refine(List.mem_cons.mp h).elim (λq=>?_) (λq=>?_)
     ·cases q;rw [hn] at hc;exact ff hc
     ·exact .inl q
    ·exact .inr h
  ·rename_i hk
   refine dY ?_ hc
   rcases h with h|h
   ·refine(List.mem_cons.mp h).elim (λq=>?_) (λq=>?_)
    ·obtain⟨rfl,rfl⟩:=Prod.mk.inj q;exact absurd rfl hk
    ·exact .inl q
   ·exact .inr h
theorem gO(env:Env)(f:Str×NameKind->List (Str×Addr)->Sem (ForInStep (List (Str×Addr))))
  (hf:∀name kind cs,f (name,kind) cs=if kind==.free then(do let c <-cellOf env name;pure (.yield ((name,c)::cs))) else pure (.yield cs)):
  ∀ (names:List (Str×NameKind)) (acc:List (Str×Addr)),(∀n,(n,NameKind.free)∈names->(env.cells.lookup n).isSome)->forIn names acc f=pure (aW names env.cells acc)
 |[],acc,_=>by rfl
 |(n,k)::r,acc,h=>by
  have b:∀m,(m,NameKind.free)∈r->(env.cells.lookup m).isSome:=λm d=>h m (List.mem_cons_of_mem _ d)
  simp only [List.forIn_cons,hf]
  dsimp only [aW]
  by_cases hk:(k==NameKind.free)=true
  ·have a:k=.free:=by cases k<;>first|rfl|exact ff hk
   subst a
   obtain⟨c,e⟩:=Option.isSome_iff_exists.mp (h n (List.mem_cons_self ..))
   simp only [cellOf,e]
   exact gO env f hf r _ b
  ·simp only [hk]
   exact gO env f hf r _ b
theorem dj{scope:Scope}{env:Env}(h:∀n,(n,NameKind.free)∈scope.names->(env.cells.lookup n).isSome):closureFor scope env=pure (aW scope.names env.cells []):=by
 dsimp only [closureFor]
 rw [gO env _ (λb a c=>by cases hk:a==NameKind.free<;>simp [hk]) scope.names [] h]
 rfl
noncomputable def relab(ks names:List (Str×NameKind)):List (Str×NameKind):=names.map λ(n,k)=>if(k==.free&&ks.lookup n==some .cell) then(n,.cell) else(n,k)
theorem dA{ks:List (Str×NameKind)}{nm:Str}:∀ {names:List (Str×NameKind)},(relab ks names).lookup nm=(names.lookup nm).map λk=>if(k==.free&&ks.lookup nm==some .cell) then .cell else k
 |[]=>rfl
 |(n,k)::r=>by
  have a:=dA (ks:=ks) (nm:=nm) (names:=r)
  have e:relab ks ((n,k)::r)=(n,if(k==.free&&ks.lookup n==some .cell) then .cell else k)::relab ks r:=by
   show(if(k==.free&&ks.lookup n==some .cell)=true then(n,NameKind.cell) else(n,k))::relab ks r=_
   split<;>rfl
  simp only [e,aJ]
  by_cases q:nm=n
  ·subst q;simp
  ·refine(if_neg q)▸(if_neg q)▸?_;exact a
theorem gB{scope:Scope}{env:Env}(hk:env.scope.kind=.function):(relabel scope env).names=relab env.scope.names scope.names:=by
 refine List.map_congr_left λy _=>?_
 obtain⟨n,k⟩:=y
 simp only [hk,Env.kindOf,beq_self_eq_true,Bool.and_true]
structure eG(ctx:List (Str×Nat))(ks:List (Str×NameKind))(scope:Scope)(xn:Str)(x:Nat):Prop where
 kind:scope.kind=.function
 noCell:∀y∈scope.names,y.2≠ .cell
 loc:∀y∈scope.names,y.2=.local ->scope.names.lookup y.1=some .local
 var:scope.names.lookup xn=some .local
 free:∀n,(n,NameKind.free)∈scope.names->(ks.lookup n=some .cell\/ks.lookup n=some .free)/\∃y,ctx.lookup n=some y
 only:∀n,scope.names.lookup n=some .local ->n=xn\/ctx.lookup n=none
 fresh:∀n,ctx.lookup n≠some x
theorem ao{β:Type}{nm:Str}{b:β}:∀ {l:List (Str×β)},l.lookup nm=some b->(nm,b)∈l
 |[],h=>by exact nn h
 |(n,c)::r,h=>by
  simp only [aJ] at h
  split at h
  ·rename_i q;subst q;obtain rfl:=Option.some.inj h;exact List.mem_cons_self ..
  ·exact List.mem_cons_of_mem _ (ao h)
section
variable {prog:Program}{w:World}{B:Base prog w}
variable {A:Around}{n:Nat}{W:Mo}{env:Env}{ctx:List (Str×Nat)}{ks:List (Str×NameKind)}{ρ:List V}
theorem lB:∀ {l:List V} {x:Nat} {a b:V},lset (lset l x a) x b=lset l x b
 |[],_,_,_=>rfl
 |_::_,0,_,_=>rfl
 |_::r,x+1,_,_=>by simp [lset,lB (l:=r)]
theorem bk.comp{scope:Scope}{xn:Str}{x:Nat}(h:bk ctx)(K:eG ctx ks scope xn x):bk ((xn,x)::ctx):=by
 intro f e y c d
 rw [aJ] at c d
 split at c<;>split at d
 ·rename_i a b;exact(a)▸(b)▸rfl
 ·obtain rfl:=Option.some.inj c;exact absurd d (K.fresh _)
 ·obtain rfl:=Option.some.inj d;exact absurd c (K.fresh _)
 ·exact h f e y c d
theorem az.comp{scope:Scope}{xn:Str}{x:Nat}{C:Addr}{m:Str->Option Value}(E:az B env ctx ks ρ W)(K:eG ctx ks scope xn x)(hC:Own W C)(hn:W.h.Ns C m):
  az B (compEnvC scope (aW scope.names env.cells []) C env) ((xn,x)::ctx) (relab ks scope.names) (lset ρ x .undef) W:=by
 have cells:∀n,(n,NameKind.free)∈scope.names->(env.cells.lookup n).isSome:=by
  intro n hn
  obtain⟨g,y,v⟩:=K.free n hn
  refine(g).elim (λg=>?_) (λg=>?_)
  ·obtain⟨c,_,H,_⟩:=E.cell n y v g;rw [H];rfl
  ·obtain⟨c,_,H,_⟩:=E.free n y v g;rw [H];rfl
 have same:∀n,(n,NameKind.free)∈scope.names->(aW scope.names env.cells []).lookup n=env.cells.lookup n:=by
  intro n hn
  obtain⟨c,H⟩:=Option.isSome_iff_exists.mp (dY (.inl hn) (cells n hn))
  exact H▸(b0 (λ_ _ q=>by simp at q) n c H).symm
 have o:∀f k,(relab ks scope.names).lookup f=some k->∃u,scope.names.lookup f=some u/\k=if(u==.free&&ks.lookup f==some .cell) then .cell else u:=by
  intro f k h
  rw [dA] at h
  refine x12 (Option.map_eq_some_iff.mp h) λu r a=>?_
  subst a
  exact i12 u r rfl
 have l:∀f y,f≠xn->((xn,x)::ctx).lookup f=some y->ctx.lookup f=some y:=by
  intro f y j h
  rw [aJ,if_neg j] at h;exact h
 have undef:∀f y,ctx.lookup f=some y->lget (lset ρ x .undef) y=lget ρ y:=by
  intro f y h
  rw [bt,if_neg]
  intro b
  obtain⟨rfl,_⟩:=b
  exact K.fresh f h
 have P:∀f y,((xn,x)::ctx).lookup f=some y->(relab ks scope.names).lookup f=some .cell->f≠xn/\(f,NameKind.free)∈scope.names/\ks.lookup f=some .cell:=by
  intro f y g s
  refine x12 (o f _ s) λu r e=>?_
  have j:f≠xn:=by
   rintro rfl
   rw [K.var] at r;obtain rfl:=Option.some.inj r
   cases e
  split at e
  ·rename_i q
   rw [Bool.and_eq_true,beq_iff_eq,beq_iff_eq] at q
   exact i03 j (by exact q.1▸ao r) q.2
  ·subst e
   exact absurd rfl (K.noCell _ (ao r))
 refine⟨by show scope.kind=_;exact K.kind,?_,E.glob,E.blt,i12 m hn (λf y g s p=>?_),hC,λf y g s=>?_,λf y g s=>?_,λf t y N c g s p w A D=>?_⟩
 ·show(relabel scope env).names=_
  exact(gB E.kind)▸(E.names)▸rfl
 ·refine x12 (o f _ s) λu r e=>?_
  split at e
  ·cases e
  ·subst e
   refine(K.only f r).elim (λd=>?_) (λw=>?_)
   ·subst d
    rw [aJ,if_pos rfl] at g
    obtain rfl:=Option.some.inj g
    replace p:=bt▸p
    split at p
    ·exact absurd rfl p
    ·rename_i hh
     exact absurd (hM λz=>hh ⟨rfl,z⟩) p
   ·by_cases q:f=xn
    ·subst q
     rw [aJ,if_pos rfl] at g
     obtain rfl:=Option.some.inj g
     rw [bt] at p
     split at p
     ·exact absurd rfl p
     ·rename_i hh
      exact absurd (hM λz=>hh ⟨rfl,z⟩) p
    ·have:=l f y q g
     rw [w] at this;exact nn this
 ·refine x03 (P f y g s) λj i L=>?_
  have v:=l f y j g
  refine x24 (E.cell f y v L) λc Q p w A D=>?_
  exact i24 c Q (by simp only [show(compEnvC scope (aW scope.names env.cells []) C env).cells=aW scope.names env.cells [] from rfl,same f i];exact p) w A (λI=>by rw [undef f y v] at I ⊢;exact D I)
 ·refine x12 (o f _ s) λu r e=>?_
  split at e
  ·cases e
  ·rename_i hq
   subst e
   have i:=ao r
   have j:f≠xn:=by rintro rfl;replace r:=K.var▸r;cases r
   have v:=l f y j g
   have L:ks.lookup f=some .free:=by
    refine((K.free f i).1).elim (λI=>?_) (λI=>?_)
    ·replace hq:=I▸hq;exact absurd hq nofun
    ·exact I
   refine x24 (E.free f y v L) λc M p w A D=>?_
   exact i24 c M (by simp only [show(compEnvC scope (aW scope.names env.cells []) C env).cells=aW scope.names env.cells [] from rfl,same f i];exact p) w A (by rw [undef f y v];exact D)
 ·refine x03 (P f y g p) λj i L=>?_
  refine x03 (P t N s w) λJ F O=>?_
  rw [show(compEnvC scope (aW scope.names env.cells []) C env).cells=aW scope.names env.cells [] from rfl] at A D
  rw [same f i] at A
  rw [same t F] at D
  exact E.apart f t y N c (l f y j g) (l t N J s) L O A D
end
noncomputable def evG(c:V->S->Option (Bool×S))(f:V->S->Option (V×S))(src:V)(all:List V):List V->S->Option (List V×S)
 |[],s=>some ([],s)
 |v::r,s=>bd (c v s) λt s=>bif t then bd (f v s) λy s=>if iter? s src=some all then bd (evG c f src all r s) λl s=>some (y::l,s) else none
  else if iter? s src=some all then evG c f src all r s else none
theorem rI{f:V->S->Option (V×S)}{src:V}{all:List V}{s0:S}(h0:iter? s0 src=some all){l:List V}:∀ {s:S} {r:List V×S},evC f src all l s=some r->evG (λ_ s=>some (true,s)) f src all l s=some r:=by
 induction l with
 |nil=>exact id
 |cons v q ih=>exact λh=>bE h λy d e h=>iE h λa h=>bE h λl c b h=>aw rfl (aw e ((if_pos (dG h0 a)).trans (aw (ih b) h)))
theorem sQ{c f:V->S->Option (V×S)}{src:V}{all:List V}{s0:S}(h0:iter? s0 src=some all){l:List V}:∀ {s:S} {r:List V×S},jt c f src all l s=some r->evG (λv s=>(c v s).bind λp=>(truth p.2 p.1).map (·,p.2)) f src all l s=some r:=by
 induction l with
 |nil=>exact id
 |cons v q ih=>
  exact λh=>bE h λb g j h=>oE h λt d h=>by
   refine aw (bh j (congrArg (Option.map (·,g)) d)) ?_
   try clear d
   cases t with
   |false=>exact iE h λa h=>(if_pos (dG h0 a)).trans (ih h)
   |true=>exact bE h λy m e h=>iE h λa h=>bE h λl k i h=>aw e ((if_pos (dG h0 a)).trans (aw (ih i) h))
section
variable {prog:Program}{w:World}{B:Base prog w}
variable {A:Around}{n:Nat}{W:Mo}{env:Env}{ctx:List (Str×Nat)}{ks:List (Str×NameKind)}{ρ:List V}
inductive Ch(B:Base prog w){α:Type}(W:Mo)(s':S)(P:Mo->α->Prop)(a:α)(sh':Shared):Prop
 |mk (W':Mo) (e:W'.sh=sh') (s:W'.s=s') (I:Inv B W') (st:Step (λ_=>False) W W') (C:Carry W W') (p:P W' a)
theorem Post.elim{α:Type}{s':S}{P:Mo->α->Prop}{a:α}{sh':Shared}(I:Inv B W)(h:Post B W s' P a sh'):Ch B W s' P a sh':=by
 obtain⟨c,f,d,e,b,g⟩:=h
 exact⟨c,f,d,e,b,b.carry I λ_ q=>q.elim,g⟩
inductive yt(B:Base prog w)(W₀:Mo)(cenv:Env)(ctx:List (Str×Nat))(ks:List (Str×NameKind))(ρ:List V)(x:Nat)(J D:Addr)(src:V)(vs:Value)(all lEnd:List V)(ev:List V->S->Option (List V×S))(sEnd:S)(k:Nat)(sh':Shared):Prop
 |mk (W':Mo) (j:Nat) (r outs:List V) (ys:Array Value) (l2:List V) (u:V) (a1:W'.sh=sh') (a2:Inv B W') (a3:Step (λ_=>False) W₀ W') (a6:Rep B W' src vs) (a7:iter? W'.s src=some all)
  (a8:all.drop j=r) (a9:j<=all.length) (b1:ev r W'.s=some (l2,sEnd)) (b2:outs++l2=lEnd) (b3:outs.length<=j) (b4:Own W' J) (b5:Own W' D) (b6:bv W' J src vs j) (b7:W'.h.PlainList D ys) (b8:aA B W' outs ys.toList)
  (b9:az B cenv ctx ks (lset ρ x u) W') (c1:k=r.length+1)
theorem uh{elt iter:Expr}{xn:Str}{px:Pos}{ifs:List Expr}{scope:Scope}{pos:Pos}{cenv:Env}{x:Nat}{J D:Addr}{src:V}{vs:Value}{all:List V}{R:Result->Shared->Prop}
  {c:V->S->Option (Bool×S)} {f:V->S->Option (V×S)} {W₀:Mo} {sEnd:S} {lEnd:List V}
  (hh:A.handled=none) (I₀:Inv B W₀) (hJ0:W₀.h.get? J=none) (hD0:W₀.h.get? D=none) (hC0:W₀.h.get? cenv.locals=none) (hJD:J≠D) (hEJ:∀b,bQ cenv ctx b->b≠J) (hED:∀b,bQ cenv ctx b->b≠D)
  (hinj:bk ctx) (hx:ctx.lookup xn=some x) (hk:ks.lookup xn=some .local) (hsz:all.length<=lim)
  (htest:∀W' u b s',Inv B W'->az B cenv ctx ks (lset ρ x u) W'->c u W'.s=some (b,s')->
   Truth B A W' (forIn ifs true λc r=>if r=true then do let ok <-isTrue c cenv (eval c cenv);pure (ForInStep.yield ok) else pure (ForInStep.yield r)) b s')
  (helt:∀W' u y s',Inv B W'->az B cenv ctx ks (lset ρ x u) W'->f u W'.s=some (y,s')->am B A W' (eval elt cenv) y s')
  (hR:∀W' m ys,W'.s=sEnd->Inv B W'->Step (λ_=>False) W₀ W'->Own W' D->Own W' cenv.locals->W'.h.Ns cenv.locals m->W'.h.PlainList D ys->aA B W' lEnd ys.toList->lEnd.length<=lim->R (.ok .next) W'.sh)
  (I:Inv B W) (st:Step (λ_=>False) W₀ W) (hs:Rep B W src vs) (hit:iter? W.s src=some all) (hev:evG c f src all all W.s=some (lEnd,sEnd))
  (hJ:Own W J) (hD:Own W D) (hIt:bv W J src vs 0) (hP:W.h.PlainList D #[]) (hE:az B cenv ctx ks (lset ρ x .undef) W):
  codeAny (model prog w) A (.compLoop (.ListComp elt [⟨.Name xn px,iter,ifs,0⟩] scope pos) 0 (.ref J) (.ref D) cenv) R W.sh:=by
 refine codeAny_compLoop_tests (yt B W₀ cenv ctx ks ρ x J D src vs all lEnd (evG c f src all) sEnd) ?_ (all.length+1) ⟨W,0,all,[], #[],lEnd,.undef,rfl,I,st,hs,hit,rfl,Nat.zero_le _,hev,rfl,Nat.le_refl _,hJ,hD,hIt,hP,trivial,hE,rfl⟩
 intro k sh' i
 obtain⟨W',j,r,M,ys,l2,u,rfl,I,st,hs,hit,hr,hj,hev,n,e6,hJ,hD,hIt,hP,c0,hE,rfl⟩:=i
 have L:=hE.own
 cases r with
 |nil=>
  have p:all.length=j:=by
   have:=congrArg List.length hr
   simp at this;lia
  replace hev:=sp hev
  obtain⟨rfl,rfl⟩:=hev
  refine eH (wpAny_mono (ox hh I₀ st hJ0 I hs hit hJ hIt p) (λr i1 h=>?_) λ_ _ q=>q)
  obtain⟨U,rfl,rfl,h2,h3,h4,C,h7,h8⟩:=h
  refine x12 hE.loc λm hn _=>?_
  have H:cenv.locals≠J:=hEJ _ (.inl rfl)
  refine hR U m ys h2 h3 h4 (h7 D hD (Ne.symm hJD)) (h7 _ L H) (hn.at' λo q=>h8 _ o H q) (hP.at λo q=>h8 _ o (Ne.symm hJD) q) ?_ ?_
  ·simp only [<-n,List.append_nil];exact c0.mono C
  ·simp only [<-n,List.append_nil];lia
 |cons v r=>
  have p:all[j]?=some v:=by
   have:(all.drop j)[0]?=some v:=hr▸rfl
   simpa using this
  have X:j<all.length:=(List.getElem?_eq_some_iff.mp p).1
  have d0:all.drop (j+1)=r:=by
   have:=congrArg List.tail hr
   simpa using this
  refine eH (wpAny_mono (lF I hs hit hJ hIt p) (λrr i1 h=>?_) λ_ _ q=>q)
  obtain⟨y,U,rfl,rfl,s2,I2,st2,e5,Y⟩:=h
  have C2:=st2.carry I λb q=>q▸hJ.1
  have c4:Own U D:=hD.step st2
  have c5:U.h.PlainList D ys:=hP.at λo q=>st2.keep D o q hD.2.2 (Ne.symm hJD)
  have d6:az B cenv ctx ks (lset ρ x u) U:=hE.stepBut I st2 (λb q=>q▸hJ.1) hEJ
  refine eH (wpAny_assign_Name (wpAny_mono (cU I2 d6 hinj hx (.inl hk) e5) (λ_ o1 h=>?_) λ_ _ q=>q))
  obtain⟨P,d,⟨_,hd⟩,rfl,s3,I3,st3,C3,K,k2,a9⟩:=h
  have hd:=hd hk
  subst hd
  replace K:=lB▸K
  have a8:Own P J:=(hJ.step st2).step st3
  have b1:Own P D:=c4.step st3
  have c6:cenv.locals≠D:=hED _ (.inl rfl)
  have H:cenv.locals≠J:=hEJ _ (.inl rfl)
  have e0:P.h.PlainList D ys:=c5.at λo q=>a9 D o (Ne.symm c6) q
  have a3:bv P J src vs (j+1):=Y.keep λo q=>a9 J o (Ne.symm H) q
  have N:Rep B P src vs:=(hs.mono C2).mono C3
  have a6:aA B P M ys.toList:=(c0.mono C2).mono C3
  have a7:Step (λ_=>False) W₀ P:=by
   have x1:Step (λb=>b=J\/b=cenv.locals) W₀ W':=st.mono λb q _=>q.elim
   have x2:Step (λb=>b=J\/b=cenv.locals) W' U:=st2.mono λb q _=>.inl q
   have x3:Step (λb=>b=J\/b=cenv.locals) U P:=st3.mono λb q _=>.inr q
   exact((x1.trans x2).trans x3).mono λb q hq=>by rcases q with rfl|rfl;rw [hJ0] at hq;exact ff hq;rw [hC0] at hq;exact ff hq
  have sv:P.s=W'.s:=s3.trans s2
  ·refine bE hev λb s4 hc hev=>?_
   refine eH (wq I3 (htest P v b s4 I3 K (by exact sv▸hc)) λok W4 d3 I4 l C4 d2=>?_)
   try clear hc;try clear c6;try clear c5;try clear c4;try clear I2;try clear s2;try clear drop;try clear symm;try clear Ne;try clear H;try clear hn;try clear h8;try clear h7;try clear h4;try clear h3;try clear U;try clear p;try clear L;try clear hj;try clear hr;try clear hP;try clear hIt;try clear hit;try clear toList;try clear aA;try clear Rep;try clear Own;try clear hR;try clear y;try clear ρ;try clear lset;try clear az;try clear W';try clear htest;try clear hs;try clear hsz;try clear ks;try clear some;try clear hx;try clear hinj;try clear ctx;try clear hEJ;try clear hE;try clear locals;try clear C;try clear hC0;try clear hD;try clear hJ;try clear hJ0;try clear I₀;try clear I;try clear hh;try clear lEnd;try clear sEnd;try clear B;try clear R;try clear all;try clear u;try clear d;try clear cenv;try clear pos;try clear scope;try clear st;try clear f;try clear ifs;try clear px;try clear xn;try clear x;try clear iter;try clear elt;try clear c;try clear m
   subst d2
   subst d3
   have c1:=K.step I3 l
   have c7:=a8.step l
   have c2:=b1.step l
   have d4:W4.h.PlainList D ys:=e0.at λo q=>b1.keep l q
   have Z:bv W4 J src vs (j+1):=a3.keep λo q=>a8.keep l q
   have O:=N.mono C4
   have a5:=a6.mono C4
   have a4:=a7.trans l
   cases ok with
   |false=>
    refine iE hev λa0 hev=>?_
    exact⟨r.length+1,Nat.lt_succ_self _,W4,j+1,r,M,ys,l2,v,rfl,I4,a4,O,a0,d0,X,hev,n,Nat.le_succ_of_le e6,c7,c2,Z,d4,a5,c1,rfl⟩
   |true=>
    refine bE hev λz s5 hf hev=>?_
    ·skip
     refine eH (wq I4 (helt W4 v z s5 I4 c1 hf) λzv Q g6 I5 t C5 hz=>?_)
     try clear hf;try clear s5;try clear a0;try clear d2;try clear C4;try clear l;try clear d3;try clear W4;try clear hc;try clear s4;try clear sv;try clear rcases;try clear x3;try clear x2;try clear a7;try clear a6;try clear N;try clear a3;try clear e0;try clear c6;try clear b1;try clear a8;try clear a9;try clear k2;try clear K;try clear C3;try clear st3;try clear I3;try clear s3;try clear hd;try clear P;try clear d6;try clear c5;try clear c4;try clear C2;try clear Y;try clear e5;try clear st2;try clear I2;try clear s2;try clear drop;try clear symm;try clear Ne;try clear H;try clear hn;try clear h8;try clear h7;try clear h4;try clear h3;try clear U;try clear p;try clear L;try clear e6;try clear hj;try clear hr;try clear l2;try clear hP;try clear hIt;try clear hit;try clear toList;try clear aA;try clear Rep;try clear Own;try clear hR;try clear helt;try clear y;try clear ρ;try clear lset;try clear az;try clear W';try clear htest;try clear hs;try clear hsz;try clear ks;try clear some;try clear ok;try clear hx;try clear hinj;try clear ctx;try clear hEJ;try clear hE;try clear locals;try clear C;try clear hC0;try clear hD;try clear hJ;try clear hJ0;try clear I₀;try clear I;try clear hh;try clear lEnd;try clear sEnd;try clear B;try clear R;try clear all;try clear u;try clear d;try clear cenv;try clear pos;try clear scope;try clear st;try clear f;try clear ifs;try clear px;try clear xn;try clear x;try clear iter;try clear elt;try clear c;try clear m
     subst g6
     have j3:=c1.step I4 t
     have e3:=c7.step t
     have T:=c2.step t
     have i2:Q.h.PlainList D ys:=d4.at λo q=>c2.keep t q
     have d7:bv Q J src vs (j+1):=Z.keep λo q=>c7.keep t q
     have c3:=O.mono C5
     have d5:=a5.mono C5
     have e8:=a4.trans t
     have h6:ys.size<=sizeLine:=by
      have h1:=c0.size
      have h2:=cu
      lia
     ·refine iE hev λe1 hev=>bE hev λl3 s6 d1 hev=>?_
      ·refine x02 (sp hev) λa e=>?_
       subst a
       subst e
       refine wpAny_list_append_plain (i2) (λh' h1 h2=>?_) h6
       refine x02 (I5.own (sh':={Q.sh with heap:=h'}) T (λb o hb q=>(h2.2 b hb).trans q) (by obtain⟨k,hk⟩:=h1;exact hk▸rfl) ⟨rfl,rfl⟩) λI6 F=>?_
       have C6:=F.carry I5 λb q=>q▸T.1
       have g8:=j3.stepBut I5 F (λb q=>q▸T.1) hED
       have e7:Step (λ_=>False) W₀ ⟨Q.s,Q.g,{Q.sh with heap:=h'}⟩:=by
        have x1:Step (λb=>b=D) W₀ Q:=e8.mono λb q _=>q.elim
        exact(x1.trans F).mono λb q hq=>by subst q;rw [hD0] at hq;exact ff hq
       refine⟨r.length+1,by simp,⟨Q.s,Q.g,{Q.sh with heap:=h'}⟩,j+1,r,M++[z],ys.push zv,l3,v,rfl,I6,e7,c3.mono C6,e1,d0,X,d1,by simpa using n,by simp;omega,
        e3.step F,T.step F,d7.keep λo q=>F.keep J o q e3.2.2 hJD,h1,?_,g8,rfl⟩
       simp only [Array.toList_push]
       exact(d5.mono C6).append ⟨hz.mono C6,trivial⟩
theorem t3{J:Addr}{v:V}{x:Value}{j:Nat}{Q:Value->Shared->Prop}{E:Value->Shared->Prop}(h:bv W J v x j)(q:Q (.ref J) W.sh):wpAny (model prog w) A (pyIter (.ref J)) Q E W.sh:=by
 unfold bv at h
 split at h
 ·exact wpAny_pyIter_rangeiter (h) q
 ·obtain⟨a,_,h⟩:=h;exact wpAny_pyIter_tupleiter (h) q
 ·obtain⟨a,_,h⟩:=h;exact wpAny_pyIter_listiter (h) q
theorem wa{v:V}{x:Value}{all:List V}(I:Inv B W)(hx:Rep B W v x)(h:iter? W.s v=some all):all.length<=lim:=by
 refine(ki h).elim (λb=>?_) (λh=>?_)
 ·obtain⟨k,rfl,rfl⟩:=b
  obtain⟨a,t,u,z,rfl,_,c,d⟩:=hx
  simp only [List.length_map,List.length_range];lia
 ·cases pZ I h hx with
  |tup e a its n e1 ho c hl=>exact c
  |lst n1 n2 a its e1 ho c hl=>exact c
structure dM(B:Base prog w)(A:Around)(env:Env)(ctx:List (Str×Nat))(ks:List (Str×NameKind))(ρ:List V)(scope:Scope)(xn:Str)(x:Nat)(ifs:List Expr)(elt:Expr)
  (c:V->S->Option (Bool×S)) (f:V->S->Option (V×S)):Prop where
 test:∀C W' u b s',Inv B W'->az B (compEnvC scope (aW scope.names env.cells []) C env) ((xn,x)::ctx) (relab ks scope.names) (lset ρ x u) W'->c u W'.s=some (b,s')->
  Truth B A W' (forIn ifs true λc r=>if r=true then do let ok <-isTrue c (compEnvC scope (aW scope.names env.cells []) C env) (eval c (compEnvC scope (aW scope.names env.cells []) C env));pure (ForInStep.yield ok) else pure (ForInStep.yield r)) b s'
 elt:∀C W' u y s',Inv B W'->az B (compEnvC scope (aW scope.names env.cells []) C env) ((xn,x)::ctx) (relab ks scope.names) (lset ρ x u) W'->f u W'.s=some (y,s')->
  am B A W' (eval elt (compEnvC scope (aW scope.names env.cells []) C env)) y s'
theorem gN{elt iter:Expr}{xn:Str}{px:Pos}{ifs:List Expr}{scope:Scope}{pos:Pos}{x:Nat}{src:V}{vs:Value}{all lEnd:List V}{sEnd:S}{RR:Value->Addr->Result->Shared->Prop}
  {c:V->S->Option (Bool×S)} {f:V->S->Option (V×S)} (hh:A.handled=none) (I:Inv B W) (E:az B env ctx ks ρ W) (hinj:bk ctx) (K:eG ctx ks scope xn x)
  (hs:Rep B W src vs) (hit:iter? W.s src=some all) (hev:evG c f src all all W.s=some (lEnd,sEnd)) (P:dM B A env ctx ks ρ scope xn x ifs elt c f)
  (hRR:∀D C W' m ys,W'.s=sEnd->Inv B W'->Step (λ_=>False) W W'->Own W' D->Own W' C->D≠C->W.h.get? D=none->W.h.get? C=none->W'.h.Ns C m->
   W'.h.PlainList D ys->aA B W' lEnd ys.toList->lEnd.length<=lim->RR (.ref D) C (.ok .next) W'.sh):
  wpAny (model prog w) A (pyIter vs) (λit s₂=>wpAny (model prog w) A (newList []) (λacc s₃=>wpAny (model prog w) A (newFunctionEnv scope env.globals (aW scope.names env.cells []) [] env.qual none .none (some env)) (λcenv s₄=>
   codeAny (model prog w) A (.compStart (.ListComp elt [⟨.Name xn px,iter,ifs,0⟩] scope pos) 0 it acc {cenv with scope:=relabel scope env}) (RR acc cenv.locals) s₄) (λ_ _=>False) s₃) (λ_ _=>False) s₂) (λ_ _=>False) W.sh:=by
 refine wpAny_mono (kh I hs hit) (λit s₂ h=>?_) λ_ _ q=>q
 obtain⟨J,e,rfl,rfl,s1,I1,n,hJ,Y,e2⟩:=h
 obtain⟨j,s2,h2,I2,st2,U,d7⟩:=I1.newOwn (sh':={e.sh with heap:=e.h.push _}) (o:={cls:=.type "list",data:=.seq ([]:List Value).toArray}) rfl ⟨rfl,rfl⟩ rfl
 refine wpAny_newObj_type ?_
 obtain⟨l,s3,h3,I3,st3,c5,h6⟩:=I2.newOwn (sh':={j.sh with heap:=j.h.push _}) (o:={cls:=.type "dict",data:=.dict #[]}) rfl ⟨rfl,rfl⟩ rfl
 have c6:j.h=e.h.push _:=congrArg Shared.heap h2
 have d1:l.h=j.h.push _:=congrArg Shared.heap h3
 have sz:j.h.objs.size=e.h.objs.size+1:=by exact c6▸Heap.size_push ..
 refine wpAny_newFunctionEnv K.noCell (by intro y hy;simp at hy) (λr T t=>?_) K.kind
 have R:e.sh.heap.push {cls:=.type "list",dict:=none,data:=.seq ([]:List Value).toArray}=j.h:=c6.symm
 simp only [R] at T t ⊢
 simp only [Option.isSome_some,if_true] at t
 simp only [show j.h.push {cls:=.type "dict",data:=.dict #[]}=l.h from d1.symm] at t
 refine x02 (I3.own (sh':={e.sh with heap:=r,toks:=e.sh.toks+0}) c5 (λb o hb q=>(t.2 b hb).trans q) (by obtain⟨o,_,_,L,_⟩:=T;exact L▸rfl) (by rw [h3,h2];exact⟨rfl,rfl⟩)) λI4 p=>?_
 have D0:e.h.get? e.h.objs.size=none:=ba _
 have C0:j.h.get? j.h.objs.size=none:=ba _
 have up:∀b,W.h.get? b=none\/∃o,W.h.get? b=some o:=λb=>by cases W.h.get? b<;>simp
 have N:W.h.get? e.h.objs.size=none:=by
  refine(up e.h.objs.size).elim (λq=>?_) (λa=>?_)
  ·exact q
  ·obtain⟨o,q⟩:=a
   have:=n.keep _ o q (λk i hl z=>by have:=I1.fdom _ (I1.inF k i (n.live hl));rw [n.adr k i hl,z,D0] at this;exact ff this) (λz=>z)
   rw [D0] at this;exact nn this
 have M:W.h.get? j.h.objs.size=none:=by
  refine(up j.h.objs.size).elim (λq=>?_) (λd=>?_)
  ·exact q
  ·obtain⟨o,q⟩:=d
   have X:=(n.trans st2).keep _ o q (λk i hl z=>by have:=I2.fdom _ (I2.inF k i ((n.trans st2).live hl));rw [(n.trans st2).adr k i hl,z,C0] at this;exact ff this) (λz=>z)
   rw [C0] at X;exact nn X
 have O:e.h.objs.size≠j.h.objs.size:=by simp only [sz];exact Nat.ne_of_lt (Nat.lt_succ_self _)
 have v:J<e.h.objs.size:=hJ.lt
 have Q:Step (λ_=>False) W ⟨l.s,l.g,{e.sh with heap:=r,toks:=e.sh.toks+0}⟩:=by
  have y:=((n.trans st2).trans st3).mono (Ow':=λb=>b=j.h.objs.size) λb q _=>q.elim
  exact(y.trans p).mono λb q hq=>by subst q;rw [M] at hq;exact ff hq
 have e1:Own ⟨l.s,l.g,{e.sh with heap:=r,toks:=e.sh.toks+0}⟩ e.h.objs.size:=(U.step st3).step p
 have d3:Own ⟨l.s,l.g,{e.sh with heap:=r,toks:=e.sh.toks+0}⟩ j.h.objs.size:=c5.step p
 have d5:Own ⟨l.s,l.g,{e.sh with heap:=r,toks:=e.sh.toks+0}⟩ J:=((hJ.step st2).step st3).step p
 have Z:J≠j.h.objs.size:=by simp only [sz];exact Nat.ne_of_lt (Nat.lt_succ_of_lt v)
 have H:bv ⟨l.s,l.g,{e.sh with heap:=r,toks:=e.sh.toks+0}⟩ J src vs 0:=by
  refine e2.keep λo q=>?_
  have q1:=hJ.keep st2 q
  have X:=(hJ.step st2).keep st3 q1
  exact p.keep J o X ((hJ.step st2).step st3).2.2 Z
 have e0:r.PlainList e.h.objs.size #[]:=by
  refine⟨0,?_⟩
  have X:=U.keep st3 d7
  exact p.keep _ _ X (U.step st3).2.2 O
 have CW:=Q.carry I λ_ q=>q.elim
 have E4:az B env ctx ks ρ ⟨l.s,l.g,{e.sh with heap:=r,toks:=e.sh.toks+0}⟩:=E.step I Q
 have Ec:=E4.comp K d3 T
 have c2:∀b,bQ (compEnvC scope (aW scope.names env.cells []) j.h.objs.size env) ((xn,x)::ctx) b->b=j.h.objs.size\/∃o,W.h.get? b=some o:=by
  rintro b (q|⟨nm,_,_,h1,h2⟩)
  ·exact .inl q
  ·right
   have e4:env.cells.lookup nm=some b:=b0 (λ_ _ q=>by simp at q) nm b h2
   have a0:(relab ks scope.names).lookup nm=some .cell:=by
    rw [show(compEnvC scope (aW scope.names env.cells []) j.h.objs.size env).scope.names=(relabel scope env).names from rfl,gB E.kind,E.names] at h1
    exact h1
   rw [dA] at a0
   refine x12 (Option.map_eq_some_iff.mp a0) λk0 h0 hk=>?_
   split at hk
   ·rename_i hq
    rw [Bool.and_eq_true,beq_iff_eq,beq_iff_eq] at hq
    obtain⟨rfl,hq⟩:=hq
    obtain⟨_,y,hy⟩:=K.free nm (ao h0)
    refine x23 (E.cell nm y hy hq) λcc v0 h3 h4 _=>?_
    rw [e4] at h3;obtain rfl:=Option.some.inj h3
    exact h4.isSome
   ·subst hk
    exact absurd rfl (K.noCell _ (ao h0))
 have sE:l.s=W.s:=s3.trans (s2.trans s1)
 have F:codeAny (model prog w) A (.compLoop (.ListComp elt [⟨.Name xn px,iter,ifs,0⟩] scope pos) 0 (.ref J) (.ref e.h.objs.size) (compEnvC scope (aW scope.names env.cells []) j.h.objs.size env)) (RR (.ref e.h.objs.size) j.h.objs.size)
   {e.sh with heap:=r,toks:=e.sh.toks+0}:=by
  refine uh hh I Y N M (Nat.ne_of_lt v) (λb q=>?_) (λb q=>?_) (hinj.comp K) (by rw [aJ,if_pos rfl]) (by simp only [dA,K.var];rfl) (wa I hs hit)
   (λW' u b s' a1 a2 a3 a4=>P.test _ W' u b s' a1 a2 a3 a4) (λW' u y s' a1 a2 a3 a4=>P.elt _ W' u y s' a1 a2 a3 a4)
   (λW' m ys a1 a2 a3 a4 a5 a6 a7 a8 a9=>hRR _ _ W' m ys a1 a2 a3 a4 a5 O N M a6 a7 a8 a9)
   I4 Q (hs.mono CW) (by show iter? l.s src=_;refine sE▸?_;exact hit) (by show evG c f src all all l.s=_;exact sE▸hev) d5 e1 H e0 Ec
  ·rcases c2 b q with rfl|⟨o,L⟩
   ·exact Ne.symm Z
   ·rintro rfl;rw [Y] at L;exact nn L
  ·rcases c2 b q with rfl|⟨o,L⟩
   ·exact Ne.symm O
   ·rintro rfl;rw [N] at L;exact nn L
 have d6:=codeAny_compStart_list F (t3 H F)
 exact d6
theorem wF{D C:Addr}{W W':Mo}{ys:Array Value}{l:List V}{sh':Shared}(I:Inv B W)(st:Step (λ_=>False) W W')(I':Inv B W')(hD:Own W' D)(hC:Own W' C)(hDC:D≠C)
  (hD0:W.h.get? D=none) (hC0:W.h.get? C=none) (hP:W'.h.PlainList D ys) (hl:aA B W' l ys.toList) (hz:l.length<=lim) (hs:Heap.SameBut C W'.h sh'.heap) (hm:Sm W'.sh sh'):
  Post B W W'.s (λW'' v=>Rep B W'' (.lst l) v) (.ref D) sh':=by
 obtain⟨g,d,a,e,f,st2,c,_⟩:=I.drop I' st (X:=λb=>b=D\/b=C) (λb q=>by rcases q with rfl|rfl;exact hD;exact hC) (λb q=>by rcases q with rfl|rfl;exact hD0;exact hC0) (sh':=sh')
  (λb o i q=>(hs.2 b λz=>i (.inr z)).trans q) hm
 refine⟨g,a,d,f,st2,?_⟩
 exact⟨D,ys,rfl,λz=>((e D).mp z).2 (.inl rfl),by unfold Mo.h;exact a▸hP.at λo q=>(hs.2 D hDC).trans q,hz,hl.mono c⟩
theorem jQ{elt iter:Expr}{xn:Str}{px:Pos}{ifs:List Expr}{scope:Scope}{pos:Pos}{x:Nat}{src:V}{all l:List V}{s1 s2:S}{c:V->S->Option (Bool×S)}{f:V->S->Option (V×S)}
  (hh:A.handled=none) (I:Inv B W) (E:az B env ctx ks ρ W) (hinj:bk ctx) (K:eG ctx ks scope xn x) (hsrc:am B A W (eval iter env) src s1) (hit:iter? s1 src=some all) (hev:evG c f src all all s1=some (l,s2))
  (P:dM B A env ctx ks ρ scope xn x ifs elt c f) (hs:∀x,foldedSetIterable iter env x=pure x):
  am B A W (eval (.ListComp elt [⟨.Name xn px,iter,ifs,0⟩] scope pos) env) (.lst l) s2:=by
 have a:∀n,(n,NameKind.free)∈scope.names->(env.cells.lookup n).isSome:=by
  intro n g
  obtain⟨b,y,q⟩:=K.free n g
  refine(b).elim (λb=>?_) (λb=>?_)
  ·obtain⟨c,_,o,_⟩:=E.cell n y q b;rw [o];rfl
  ·obtain⟨c,_,o,_⟩:=E.free n y q b;rw [o];rfl
 refine wpAny_comprehension_free rfl hs (dj a) K.kind K.loc (wq I hsrc λN O i p d L J=>?_)
 subst i
 refine gN hh p (E.step I d) hinj K J hit hev P ?_
 intro D C s m M a2 H F w z k j h g r u t
 refine i12 m g (λv e=>?_)
 have:=wF (sh':={s.sh with heap:=v}) p F H w z k j h r u t e ⟨rfl,rfl⟩
 simp only [a2] at this
 exact this.trans d
theorem gV{elt iter:Expr}{xn yn:Str}{px py:Pos}{ifs:List Expr}{scope:Scope}{pos spos:Pos}{x y:Nat}{src:V}{all l:List V}{s1 s2:S}{c:V->S->Option (Bool×S)}{f:V->S->Option (V×S)}
  (hh:A.handled=none) (I:Inv B W) (E:az B env ctx ks ρ W) (hinj:bk ctx) (K:eG ctx ks scope xn x) (hsrc:am B A W (eval iter env) src s1) (hit:iter? s1 src=some all) (hev:evG c f src all all s1=some (l,s2))
  (P:dM B A env ctx ks ρ scope xn x ifs elt c f) (hs:∀x,foldedSetIterable iter env x=pure x) (hy:ctx.lookup yn=some y) (hky:ks.lookup yn=some .local)
  (hsw:swapsWith (.ListComp elt [⟨.Name xn px,iter,ifs,0⟩] scope pos) (some (.Name yn py)) spos.line env=pure true):
  au B A env ctx ks W (exec (.Assign [.Name yn py] (.ListComp elt [⟨.Name xn px,iter,ifs,0⟩] scope pos) spos) env) .next (lset ρ y (.lst l)) s2:=by
 refine(exec_Assign_Name_used _ _ _ _ hsw)▸?_
 refine wpAny_bind (wpAny_standAt (wpAny_bind ?_))
 have i:∀n,(n,NameKind.free)∈scope.names->(env.cells.lookup n).isSome:=by
  intro n O
  obtain⟨u,y,hy⟩:=K.free n O
  refine(u).elim (λu=>?_) (λu=>?_)
  ·obtain⟨c,_,Q,_⟩:=E.cell n y hy u;rw [Q];rfl
  ·obtain⟨c,_,Q,_⟩:=E.free n y hy u;rw [Q];rfl
 refine wpAny_bind (wpAny_mono (wpAny_comprehension_free
  rfl hs (dj i) K.kind K.loc (wq I hsrc λvs W1 c0 M v C1 hv=>?_)) (λ_ s' hq=>wpAny_pure (wpAny_pure hq)) λ_ _ e=>e)
 subst c0
 have R:=E.step I v
 refine gN
  hh M R hinj K hv hit hev P ?_
 intro D C W' m ys a2 a3 a4 hD hC s Z j O hP hl hz
 obtain⟨N,U,h2,a0,I2,st2,C2,a9⟩:=M.drop a3 a4 (X:=λb=>b=D) (λb q=>q▸hD) (λb q=>q▸Z) (sh':=W'.sh) (λb o _ q=>q) (.refl _)
 have t:Rep B N (.lst l) (.ref D):=by
  exact⟨D,ys,rfl,λz=>((a0 D).mp z).2 rfl,(by unfold Mo.h;exact h2▸hP),hz,hl.mono C2⟩
 have E2:az B env ctx ks ρ N:=R.step M st2
 have a5:Own N C:=a9 C hC (Ne.symm s)
 simp only [<-h2]
 refine wpAny_assign_Name (wpAny_mono (cU I2 E2 hinj hy (.inl hky) t) (λ_ e0 h=>?_) λ_ _ q=>q)
 obtain⟨W3,d,⟨_,Y⟩,rfl,s3,I3,st3,C3,E3,c1,T⟩:=h
 have Y:=Y hky
 subst Y
 have H:env.locals≠C:=λz=>by
  obtain⟨o,r⟩:=R.own.isSome
  rw [z,j] at r;exact nn r
 refine i12 m ((by unfold Mo.h;exact h2▸O:N.h.Ns C m).at' (λo q=>T C o (Ne.symm H) q)) (λh' F=>?_)
 have J:Step (bQ env ctx) W1 W3:=(st2.mono λb q _=>q.elim).trans (st3.mono λb q _=>.inl q)
 obtain⟨W4,s4,L,c2,I4,a7,C4,b1⟩:=M.drop I3 J (X:=λb=>b=C) (λb q=>q▸c1 C a5) (λb q=>q▸j) (sh':={W3.sh with heap:=h'}) (λb o p q=>(F.2 b p).trans q) ⟨rfl,rfl⟩
 have g:∀b,bQ env ctx b->b≠C:=by
  intro b q z
  try clear c2;try clear s;try clear hC;try clear O;try clear hsw;try clear hky;try clear lookup;try clear hy;try clear hcov;try clear Q;try clear hev;try clear hit;try clear s';try clear hs;try clear hsrc;try clear C;try clear hinj;try clear ρ;try clear ks;try clear ctx;try clear env;try clear K;try clear az;try clear bQ;try clear W;try clear I;try clear A;try clear hh;try clear B;try clear s2;try clear s1;try clear all;try clear src;try clear spos;try clear pos;try clear scope;try clear ifs;try clear P;try clear py;try clear px;try clear yn;try clear y;try clear xn;try clear iter;try clear l;try clear elt;try clear mp;try clear n;try clear f;try clear d;try clear m;try clear c;try clear e;try clear w;try clear x
  subst z
  refine(q).elim (λq=>?_) (λa=>?_)
  ·exact H q.symm
  ·refine x23 a λnm z hz q1 q2=>?_
   rw [E.names] at q1
   refine x23 (R.cell nm z hz q1) λcc v0 h3 L _=>?_
   rw [q2] at h3;obtain rfl:=Option.some.inj h3
   obtain⟨o,r⟩:=L.isSome
   rw [j] at r;exact nn r
 refine⟨W4,L,s4.trans (s3.trans (U.trans a2)),I4,(v.mono λb q _=>q.elim).trans a7,rfl,E3.stepOw (Ow:=λ_=>False) C4 (λb o p q _=>?_) λb p k=>b1 b k (g b p)⟩
 unfold Mo.h;exact L▸(F.2 b (g b p)).trans q
inductive Ar(B:Base prog w)(Ow:Addr->Prop)(W₀ W:Mo)(o:Ob)(a:Addr):Prop
 |mk (W':Mo) (s:W'.s={W.s with perm:=W.s.perm++[o]}) (h:W'.sh=W.sh) (I:Inv B W') (st:Step Ow W₀ W') (C:Carry W W') (ad:W'.g.adr 0 W.s.perm.length=a) (own:∀b,Own W b->b≠a->Own W' b)
theorem Inv.adopt{W₀ W:Mo}{Ow:Addr->Prop}(I:Inv B W)(st:Step Ow W₀ W){o:Ob}{a:Addr}(hin:o.isInst=false)(hcl:o.clean=true)(ha:Own W a)(ha0:W₀.h.get? a=none)
  (R:∀W',Carry W W'->W'.h=W.h->∀d,bR B W' o a d):
  Ar B Ow W₀ W o a:=by
 have M:∀k j,live W.s k j->live ({W.s with perm:=W.s.perm++[o]}:S) k j
  |0,j,h=>by show j<(W.s.perm++[o]).length;simp only [List.length_append];exact Nat.lt_of_lt_of_le h (Nat.le_add_right _ _)
  |1,j,⟨c,fs,t⟩=>i21 c fs (by show(W.s.perm++[o])[j]?=_;rw [List.getElem?_append_left (List.getElem?_eq_some_iff.mp t).1];exact t)
  |2,j,h=>h
  |_+3,_,h=>h.elim
 have r:∀k j,live ({W.s with perm:=W.s.perm++[o]}:S) k j->live W.s k j\/(k=0/\j=W.s.perm.length)
  |0,j,h=>by
   have h:j<(W.s.perm++[o]).length:=h
   simp only [List.length_append] at h
   rcases Nat.lt_succ_iff_lt_or_eq.mp h with q|q
   ·exact .inl q
   ·exact .inr ⟨rfl,q⟩
  |1,j,⟨c,fs,t⟩=>by
   refine(Nat.lt_or_ge j W.s.perm.length).elim (λq=>?_) (λq=>?_)
   ·replace t:=(List.getElem?_append_left q)▸t;exact .inl (i21 c fs t)
   ·replace t:=(List.getElem?_append_right q)▸t
    have v:j - W.s.perm.length=0:=by
     cases e1:j - W.s.perm.length with
     |zero=>rfl
     |succ n=>rw [e1] at t;exact nn t
    replace t:=v▸t
    simp at t
    subst t
    cases hin
  |2,j,h=>.inl h
  |_+3,_,h=>h.elim
 have m:∀k j,live W.s k j->(if k=0/\j=W.s.perm.length then a else W.g.adr k j)=W.g.adr k j:=by
  intro k j h
  rw [if_neg]
  intro l
  obtain⟨rfl,rfl⟩:=l
  exact Nat.lt_irrefl _ h
 have C:Carry W ⟨{W.s with perm:=W.s.perm++[o]},⟨λk j=>if k=0/\j=W.s.perm.length then a else W.g.adr k j,W.g.F⟩,W.sh⟩:=
  ⟨λ_ _ K e=>⟨e,K⟩,m,by simp,Nat.le_refl _⟩
 refine⟨⟨{W.s with perm:=W.s.perm++[o]},⟨λk j=>if k=0/\j=W.s.perm.length then a else W.g.adr k j,W.g.F⟩,W.sh⟩,rfl,rfl,⟨I.base,I.fresh,I.fdom,λj x e=>?_,λj x e=>⟨?_,(I.tmps j x e).2⟩,λk j h=>?_,λk j u D h J q=>?_,λx L=>?_⟩,?_,C,by simp,λb w A=>i03 w.1 w.2.1 (λk j H q=>?_)⟩
 ·have e:(W.s.perm++[o])[j]?=some x:=e
  rcases Nat.lt_or_ge j W.s.perm.length with q|q
  ·rw [List.getElem?_append_left q] at e
   show bR B _ x (if(0:Nat)=0/\j=W.s.perm.length then a else W.g.adr 0 j) (if(1:Nat)=0/\j=W.s.perm.length then a else W.g.adr 1 j)
   rw [m 0 j q,if_neg (λz=>by cases z.1)]
   exact(I.perm j x e).mono C (λy=>id) λ_ y=>id
  ·replace e:=(List.getElem?_append_right q)▸e
   have v:j - W.s.perm.length=0:=by
    cases e1:j - W.s.perm.length with
    |zero=>rfl
    |succ n=>rw [e1] at e;exact nn e
   replace e:=v▸e
   simp at e
   subst e
   have:j=W.s.perm.length:=by lia
   subst this
   show bR B _ o (if(0:Nat)=0/\W.s.perm.length=W.s.perm.length then a else _) _
   rw [if_pos ⟨rfl,rfl⟩]
   exact R _ C rfl _
 ·have t:j<W.s.tmps.length:=(List.getElem?_eq_some_iff.mp e).1
  exact(I.tmps j x e).1.mono C (λy=>id) λ_ y=>id
 ·rcases r k j h with q|⟨rfl,rfl⟩
  ·show W.g.F (if k=0/\j=W.s.perm.length then a else W.g.adr k j);simp only [m k j q];exact I.inF k j q
  ·show W.g.F (if(0:Nat)=0/\W.s.perm.length=W.s.perm.length then a else _);rw [if_pos ⟨rfl,rfl⟩];exact ha.1
 ·have q:(if k=0/\j=W.s.perm.length then a else W.g.adr k j)=(if u=0/\D=W.s.perm.length then a else W.g.adr u D):=q
  rcases r k j h with p|⟨rfl,rfl⟩<;>rcases r u D J with p'|⟨rfl,rfl⟩
  ·simp only [m _ _ p,m _ _ p'] at q;exact I.inj _ _ _ _ p p' q
  ·rw [m _ _ p,if_pos ⟨rfl,rfl⟩] at q;exact absurd q (ha.2.2 _ _ p)
  ·rw [m _ _ p',if_pos ⟨rfl,rfl⟩] at q;exact absurd q.symm (ha.2.2 _ _ p')
  ·exact⟨rfl,rfl⟩
 ·refine(L).elim (λh=>?_) (λh=>?_)
  ·refine(List.mem_append.mp h).elim (λq=>?_) (λq=>?_)
   ·exact I.nt x (.inl q)
   ·rw [List.mem_singleton] at q;exact q▸hcl
  ·exact I.nt x (.inr h)
 ·refine⟨Nat.le_trans st.lenp (by simp),st.lent,λi h=>M 1 i (st.kind i h),λk i h=>(m k i (st.live h)).trans (st.adr k i h),st.F,st.new,λk i h=>?_,st.keep,st.dom,st.sm⟩
  show live W₀.s k i\/W₀.h.get? (if k=0/\i=W.s.perm.length then a else W.g.adr k i)=none
  rcases r k i h with q|⟨rfl,rfl⟩
  ·rw [m k i q];exact st.newl k i q
  ·rw [if_pos ⟨rfl,rfl⟩];exact .inr ha0
 ·have q:(if k=0/\j=W.s.perm.length then a else W.g.adr k j)=b:=q
  refine(r k j H).elim (λp=>?_) (λf=>?_)
  ·rw [m _ _ p] at q;exact w.2.2 _ _ p q
  ·obtain⟨rfl,rfl⟩:=f
   rw [if_pos ⟨rfl,rfl⟩] at q;exact A q.symm
def cB(B:Base prog w)(A:Around)(W:Mo)(t:Sem (List Value))(l:List V)(s':S):Prop:=
 wpAny (model prog w) A t (Post B W s' λW' vs=>aA B W' l vs) (λ_ _=>False) W.sh
noncomputable def bn(x:Expr):Bool:= !Nat.beq x.ctorIdx 22
theorem cj{x:Expr}{xs:List Expr}{env:Env}(h:bn x=true):starEach (x::xs) env=(false,eval x env)::starEach xs env:=by
 cases x<;>first|rfl|exact ff h
theorem rL{pos:Pos}(I:Inv B W):cB B A W (spliced (backTo pos (starEach [] env))) [] W.s:=
 Calls.spliced_nil (Post.here I trivial)
theorem mU{pos:Pos}{x:Expr}{xs:List Expr}{v:V}{l:List V}{s1 s2:S}(I:Inv B W)(hx:bn x=true)(h1:am B A W (eval x env) v s1)
  (h2:∀W1,W1.s=s1->Inv B W1->Step (λ_=>False) W W1->cB B A W1 (spliced (backTo pos (starEach xs env))) l s2):
  cB B A W (spliced (backTo pos (starEach (x::xs) env))) (v::l) s2:=by
 refine(cj hx)▸?_
 refine Calls.spliced_cons (wq I h1 λj W1 c d a k g=>?_)
 refine wq d (h2 W1 c d a) λm h b f st2 i e=>?_
 exact⟨h,rfl,b,f,a.trans st2,g.mono i,e⟩
theorem uI{xs:List Expr}{k:Nat}{pos:Pos}{l:List V}{s':S}(I:Inv B W)(h:cB B A W (spliced (backTo pos (starEach xs env))) l s')(hz:l.length<=lim):am B A W (eval (.Tuple xs k pos) env) (.tup l) s':=by
 refine wpAny_Tuple_spliced (wq I h λg o b i a j c=>?_)
 subst b
 have f:=cu
 refine⟨by refine c.length▸?_;omega,?_⟩
 refine Post.trans a (Post.push i rfl rfl rfl rfl λm q n p r C d e=>?_)
 exact⟨_,g.toArray,0,rfl,e,d,hz,c.mono C⟩
theorem uM{xs:List Expr}{pos:Pos}{l:List V}{s':S}(I:Inv B W)(h:cB B A W (spliced (backTo pos (starEach xs env))) l s')(hz:l.length<=lim):am B A W (eval (.List xs pos) env) (.lst l) s':=by
 refine wpAny_List_spliced (wq I h λg n b i a j c=>?_)
 subst b
 have f:=cu
 refine⟨by refine c.length▸?_;omega,?_⟩
 refine Post.trans a (Post.push i rfl rfl rfl rfl λk p m o q C d e=>?_)
 exact⟨_,g.toArray,rfl,e,⟨0,d⟩,hz,c.mono C⟩
theorem Post.made{o:Obj}{ob:Ob}{sh':Shared}{p:Bool}(I:Inv B W)(hfree:o.isFreed=false)(hin:ob.isInst=false)(hcl:ob.clean=true)(h1:sh'.heap=W.h.push o)(h2:sh'.gens=W.sh.gens)(h3:sh'.os=W.sh.os)
  (R:∀W',Carry W W'->W'.h.get? W.h.objs.size=some o->∀d,bR B W' ob W.h.objs.size d):Post B W (W.s.new p ob).2 (λW' v=>Rep B W' (W.s.new p ob).1 v) (.ref W.h.objs.size) sh':=by
 have a:sh'.heap.get? W.h.objs.size=some o:=h1▸Heap.get?_push_size _ hfree
 have i:∀b x,W.h.get? b=some x->sh'.heap.get? b=some x:=λb x e=>h1▸Heap.get?_push_of_some _ e
 cases p with
 |true=>
  obtain⟨f,c⟩:=I.newPerm hcl (sh':=sh') i (ba _) (by rw [a];rfl) (λq=>by simp only [hin] at q;exact ff q) (F':=λb=>W.g.F b\/b=W.h.objs.size)
   (λb=>by simp [hin]) ⟨h2,h3⟩ (λC=>R _ C a 0)
  refine⟨_,rfl,rfl,f,c,?_⟩
  refine⟨by simp,?_⟩
  simp [aL]
 |false=>
  obtain⟨f,c⟩:=I.newTmp hin hcl (sh':=sh') i (ba _) (by rw [a];rfl) (F':=λb=>W.g.F b\/b=W.h.objs.size) (λb=>Iff.rfl) ⟨h2,h3⟩ (λC=>R _ C a 0)
  refine⟨_,rfl,rfl,f,c,?_⟩
  refine⟨by simp,?_⟩
  simp [aL]
theorem uL{xs:List Expr}{pos:Pos}{l:List V}{s':S}{p:Bool}(I:Inv B W)(h:cB B A W (spliced (backTo pos (starEach xs env))) l s')(hz:l.length<=lim)(hnt:aD l=true):
  am B A W (eval (.List xs pos) env) (s'.new p (.list l)).1 (s'.new p (.list l)).2:=by
 refine wpAny_List_spliced (wq I h λg m c i a j e=>?_)
 subst c
 have f:=cu
 refine⟨by refine e.length▸?_;omega,?_⟩
 exact Post.trans a (Post.made i rfl rfl hnt rfl rfl rfl λk C b d=>⟨g.toArray,⟨0,b⟩,hz,e.mono C⟩)
theorem iw{K:Type}[DecidableEq K]{knd:PySem.KeyKind prog w K}{h:Heap}{a:Addr}(e:h.get? a=some {cls:=.type "dict",data:=.dict #[]}):h.DictOf knd a []:=
 ⟨_, #[],0,e,i03 rfl rfl rfl,rfl,λe b=>by simp at b,.nil,by simp⟩
theorem ub{K:Type}[DecidableEq K]{knd:HeapKind prog w K}{h:Heap}{a:Addr}(e:h.get? a=some {cls:=.type "dict",data:=.dict #[]}):h.DictOfH knd a []:=
 ⟨_, #[],0,e,i03 rfl rfl rfl,rfl,rfl,by simp,by simp⟩
theorem tF{pos:Pos}{k:Dk}{p:Bool}{o:Ob}(I:Inv B W)(h:mm k [] []=some o):am B A W (eval (.Dict [] [] pos) env) (W.s.new p o).1 (W.s.new p o).2:=by
 have b:o=.idict []\/o=.sdict []\/o=.tdict []:=by
  cases k<;>simp [mm,ints?,strs?] at h<;>subst h<;>simp
 refine wpAny_Dict_empty (Post.made I rfl (by rcases b with rfl|rfl|rfl<;>rfl) (by rcases b with rfl|rfl|rfl<;>rfl) rfl rfl rfl λe C a d=>?_)
 rcases b with rfl|rfl|rfl
 ·exact⟨[],iw a,rfl,Nat.zero_le _,trivial⟩
 ·exact⟨[],iw a,rfl,Nat.zero_le _,trivial⟩
 ·exact⟨[],ub a,rfl,Nat.zero_le _,trivial,λx c=>by simp at c⟩
noncomputable def wo:List (Value×Value)->List Value
 |[]=>[]
 |p::r=>p.1::p.2::wo r
def eF(B:Base prog w)(A:Around)(W:Mo)(t:Sem (List (Value×Value)))(l:List V)(s':S):Prop:=
 wpAny (model prog w) A t (Post B W s' λW' vs=>aA B W' l (wo vs)) (λ_ _=>False) W.sh
theorem tQ{pos:Pos}(I:Inv B W):eF B A W (evalPairs (pairTrees [] [] env pos)) [] W.s:=wpAny_pure (Post.here I trivial)
theorem qX{pos:Pos}{k v:Expr}{kx:List (Option Expr)}{vx:List Expr}{a b:V}{l:List V}{s1 s2 s3:S}(I:Inv B W)(h1:am B A W (eval k env) a s1)
  (h2:∀W1,W1.s=s1->Inv B W1->Step (λ_=>False) W W1->am B A W1 (eval v env) b s2)
  (h3:∀W2,W2.s=s2->Inv B W2->Step (λ_=>False) W W2->eF B A W2 (evalPairs (pairTrees kx vx env pos)) l s3):
  eF B A W (evalPairs (pairTrees (some k::kx) (v::vx) env pos)) (a::b::l) s3:=by
 refine wpAny_bind (wq I h1 λt W1 e j c r f=>?_)
 refine wpAny_bind (wpAny_holding (wpAny_bind (wq j (h2 W1 e j c) λw W2 h m st2 p g=>?_)))
 refine wpAny_bind (wpAny_standAt (wpAny_pure (wpAny_bind (wpAny_holding (wq m (h3 W2 h m (c.trans st2)) λu o d q st3 i n=>?_)))))
 exact wpAny_pure ⟨o,rfl,d,q,(c.trans st2).trans st3,(f.mono p).mono i,g.mono i,n⟩
theorem kI{l:List V}:∀ {l:List V} {prs:List (Value×Value)} {kl vl:List V} {names:List Str},aA B W l (wo prs)->pairs? l=some (kl,vl)->strs? kl=some names->
  ∃kvs:List (Str×Value),Carries (PySem.strKind prog w) prs kvs/\kvs.map (·.1)=names/\aA B W vl (kvs.map (·.2))
 |[],[],kl,vl,names,_,hp,hn=>by
  replace hp:=Option.some.inj hp
  obtain⟨rfl,rfl⟩:=hp
  replace hn:=Option.some.inj hn
  subst hn
  exact i13 [] trivial rfl trivial
 |[],_::_,_,_,_,h,_,_=>h.elim
 |[_],_,_,_,_,_,hp,_=>nn hp
 |_::_::_,[],_,_,_,h,_,_=>h.elim
 |a::b::r,p::q,kl,vl,names,h,hp,hn=>by
  refine x12 (Option.map_eq_some_iff.mp hp) λd g e=>?_
  obtain⟨m,k⟩:=d
  simp only [Prod.mk.injEq] at e
  obtain⟨rfl,rfl⟩:=e
  cases a<;>first|exact ff hn|exact nn hn|exact hn.elim|skip
  rename_i x
  refine x12 (Option.map_eq_some_iff.mp hn) λu f c=>?_
  subst c
  obtain⟨t,o⟩:=h.1
  refine x13 (kI (l:=[]) h.2.2 g f) λkvs s j n=>?_
  obtain⟨v,i⟩:=p
  subst o
  exact⟨(x,i)::kvs,i03 (by show Value.isStrOf x (.str x t)=true;simp [Value.isStrOf]) rfl s,by simp [j],h.2.1,n⟩
theorem j5:∀ {names:List Str} {vl:List V} {kvs:List (Str×Value)} {acc:List (Str×V)} {acc':List (Str×Value)},kvs.map (·.1)=names->aA B W vl (kvs.map (·.2))->acc'.map (·.1)=acc.map (·.1)->aA B W (acc.map (·.2)) (acc'.map (·.2))->
  (merged acc' kvs).map (·.1)=((names.zip vl).foldl (λd p=>sput d p.1 p.2) acc).map (·.1)/\aA B W (((names.zip vl).foldl (λd p=>sput d p.1 p.2) acc).map (·.2)) ((merged acc' kvs).map (·.2))
 |[],vl,[],acc,acc',_,_,h1,h2=>⟨h1,h2⟩
 |[],_,_::_,_,_,h,_,_,_=>by simp at h
 |_::_,_,[],_,_,h,_,_,_=>by simp at h
 |nm::r,[],_::_,_,_,_,h,_,_=>h.elim
 |nm::r,v::vl,(k,x)::kvs,acc,acc',h,hv,h1,h2=>by
  replace h:=List.cons.inj h
  obtain⟨rfl,h⟩:=h
  show(merged (stored acc' k x) kvs).map (·.1)=_/\aA B W _ ((merged (stored acc' k x) kvs).map (·.2))
  exact j5 (names:=r) h hv.2 (eW h1 λa=>dz) (eV (p:=λa=>seqb a k) h1 (λa=>dz) h2 hv.1)
theorem jk:∀ {names:List Str} {vl:List V} {acc:List (Str×V)},aD vl=true->aD (acc.map (·.2))=true->aD (((names.zip vl).foldl (λd p=>sput d p.1 p.2) acc).map (·.2))=true
 |[],_,_,_,h=>h
 |_::_,[],_,_,h=>h
 |nm::r,v::vl,acc,hv,h=>by
  replace hv:=b2 hv
  simp only [List.zip_cons_cons]
  exact jk hv.2 (eM (p:=λa=>seqb a nm) hv.1 h)
theorem lM:∀ {names:List Str} {vl:List V} {acc:List (Str×V)},((names.zip vl).foldl (λd p=>sput d p.1 p.2) acc).length<=acc.length+vl.length
 |[],_,acc=>by simp
 |_::_,[],acc=>by simp
 |nm::r,v::vl,acc=>by
  simp only [List.zip_cons_cons,List.foldl_cons,List.length_cons]
  have b:=lM (names:=r) (vl:=vl) (acc:=sput acc nm v)
  have a:(sput acc nm v).length<=acc.length+1:=by unfold sput;split<;>simp
  lia
theorem tD{kx:List (Option Expr)}{vx:List Expr}{pos:Pos}{l kl vl:List V}{s':S}{o:Ob}(I:Inv B W)(hks:kx.all (·.isSome)=true)(hlen:kx.length=vx.length)(hne:kx≠[])(h15:kx.length<=15)
  (h:∀W1,W1.s=W.s->Inv B W1->Step (λ_=>False) W W1->eF B A W1 (evalPairs (pairTrees kx vx env pos)) l s') (hp:pairs? l=some (kl,vl)) (hnt:aD vl=true) (hvz:vl.length<=lim) (ho:mm .str kl vl=some o):
  am B A W (eval (.Dict kx vx pos) env) (s'.new true o).1 (s'.new true o).2:=by
 obtain⟨F,R,Z,z,st0,i,r⟩:=I.newOwn (sh':={W.sh with heap:=W.h.push _}) (o:={cls:=.type "dict",data:=.dict #[]}) rfl ⟨rfl,rfl⟩ rfl
 refine wpAny_Dict_walk (knd:=PySem.strKind prog w) hks hlen hne h15 ?_
 simp only [<-Z]
 refine wq z (h F R z st0) λprs W1 v D c C1 X=>?_
 refine cp λ_ n=>?_
 refine x12 (Option.map_eq_some_iff.mp ho) λnames H a=>?_
 subst a
 refine x13 (kI (l:=[]) X hp H) λm O T N=>?_
 refine n ?_
 have e:Own W1 W.h.objs.size:=i.step c
 have u:W1.h.get? W.h.objs.size=some {cls:=.type "dict",data:=.dict #[]}:=i.keep c r
 refine i13 m O (by exact iw u) (λy k hs=>?_)
 refine cp λ_ n=>?_
 refine x02 (D.own (sh':={W1.sh with heap:=y,toks:=W1.sh.toks+prs.length}) e (λb o K q=>(hs.2 b K).trans q) (gg k) ⟨rfl,rfl⟩) λM st2=>?_
 have P:=st2.carry D λb q=>q▸e.1
 have f:Step (λ_=>False) W ⟨W1.s,W1.g,{W1.sh with heap:=y,toks:=W1.sh.toks+prs.length}⟩:=(((st0.trans c).mono (Ow':=λb=>b=W.h.objs.size) λb q _=>q.elim).trans st2).mono λb q hq=>by subst q;rw [ba] at hq;exact ff hq
 have j:=j5 (acc:=[]) (acc':=[]) T N rfl trivial
 have U:((names.zip vl).foldl (λd p=>sput d p.1 p.2) []).length<=lim:=by
  have J:=lM (names:=names) (vl:=vl) (acc:=[])
  simp only [List.length_nil] at J
  lia
 obtain⟨L,x,h3,Q,st3,C3,t,Y⟩:=M.adopt f (o:=.sdict ((names.zip vl).foldl (λ(d:List (Str×V)) (p:Str×V)=>sput d p.1 p.2) [])) rfl (jk hnt rfl) (e.step st2) (ba _)
  λW' C eh d=>⟨merged [] m,by exact eh▸k,j.1,U,(j.2.mono P).mono C⟩
 refine n ?_
 refine⟨L,h3,?_,Q,st3,?_⟩
 ·simp only [x];simp only [S.new,if_true];rw [<-v]
 ·simp only [S.new,if_true,Rep]
  simp only [x,<-v]
  exact⟨by simp,by simp only [t]⟩
end
structure cI(fd:FuncData)(nms:List Str):Prop where
 pos:fd.params.posonlyargs=[]
 args:fd.params.args.map (·.arg)=nms
 kwo:fd.params.kwonlyargs=[]
 va:fd.params.vararg=none
 kw:fd.params.kwarg=none
 nd:nms.Nodup
noncomputable def eR:List (Str×Value)->List (Str×Value)->List (Str×Value)
 |slots,[]=>slots
 |slots,(n,d)::r=>eR (if(slots.lookup n).isNone then slots++[(n,d)] else slots) r
section
variable {M:Model}{A:Around}{E:Value->Shared->Prop}{s:Shared}
theorem jj{α β:Type}{f:α->β->Sem (ForInStep β)}{g:β->α->β}(hf:∀a b,f a b=pure (.yield (g b a))):∀ (l:List α) (b:β),forIn l b f=pure (l.foldl g b)
 |[],b=>by rfl
 |a::r,b=>by rw [List.forIn_cons,hf,pure_bind];exact jj hf r _
theorem fU:∀ (more slots:List (Str×Value)),more.foldl (λ(sl:List (Str×Value)) (p:Str×Value)=>if(sl.lookup p.1).isNone then sl++[(p.1,p.2)] else sl) slots=eR slots more
 |[],_=>rfl
 |(n,d)::r,slots=>fU r _
theorem j6{l m:List (Str×Value)}{n:Str}:(l++m).lookup n=(l.lookup n).or (m.lookup n):=by
 induction l with
 |nil=>simp
 |cons p r ih=>
  obtain⟨k,v⟩:=p
  simp only [List.cons_append,aJ]
  split
  ·rfl
  ·exact ih
theorem fw:∀ {more slots:List (Str×Value)} {n:Str},(eR slots more).lookup n=(slots.lookup n).or (more.lookup n)
 |[],slots,n=>by simp [eR]
 |(m,d)::r,slots,n=>by
  dsimp only [eR]
  simp only [fw (more:=r),aJ]
  cases hm:slots.lookup m with
  |none=>
   simp only [Option.isNone_none,if_true]
   simp only [j6,aJ]
   by_cases q:n=m
   ·subst q;simp [hm]
   ·simp [q]
  |some v=>
   simp only [Option.isNone_some,Bool.false_eq_true,if_false]
   by_cases q:n=m
   ·subst q;simp [hm]
   ·simp [q]
theorem dN:∀ {nms:List Str} {vals:List Value} {i:Nat} (_:nms.Nodup) (h:i<nms.length),(nms.zip vals).lookup nms[i]=vals[i]?:=by
 intro a
 induction a with
 |nil=>
  exact @λ_ i _ h=>by simp at h
 |cons n r dN=>
  exact @λb c d f=>match b,c,d,f with
  |[],i,_,h=>rfl
  |v::q,0,_,h=>by simp [aJ]
  |v::q,i+1,hn,h=>by
   rw [List.nodup_cons] at hn
   have j:i<r.length:=Nat.le_of_succ_le_succ h
   simp only [List.zip_cons_cons,List.getElem_cons_succ]
   have g:¬r[i]=n:=λe=>hn.1 (e▸List.getElem_mem j)
   rw [aJ,if_neg g]
   exact dN hn.2 j
theorem eB{lk:Str->Option Value}:∀ {nms:List Str} {zl:List Value},nms.length=zl.length->(∀i (h:i<nms.length),lk nms[i]=zl[i]?)->nms.filterMap (λn=>(lk n).map (n,·))=nms.zip zl:=by
 intro a
 induction a with
 |nil=>
  exact @λzl _ _=>rfl
 |cons n r eB=>
  exact @λb c d=>match b,c,d with
  |[],h,_=>by simp at h
  |v::q,h,hi=>by
   have f:=hi 0 (Nat.zero_lt_succ _)
   simp only [List.getElem_cons_zero,List.getElem?_cons_zero] at f
   rw [List.filterMap_cons,f]
   simp only [Option.map_some,List.zip_cons_cons,List.cons.injEq,true_and]
   exact eB (by simpa using h) λi e=>hi (i+1) (by simpa using e)
theorem um{α:Type}{c:Prop}[Decidable c]{a b:Sem α}{Q:α->Shared->Prop}(h:¬c)(k:wpAny M A b Q E s):wpAny M A (if c then a else b) Q E s:=by exact(if_neg h)▸k
theorem yu{α:Type}{a b:Sem α}{Q:α->Shared->Prop}(h:a=b)(k:wpAny M A b Q E s):wpAny M A a Q E s:=h▸k
theorem ul{nms:List Str}(nd:nms.Nodup){vals:List Value}{k:Nat}(hd:k<=vals.length):(nms.take k).filter (λn=>(List.lookup n (nms.zip vals)).isNone)=[]:=by
 rw [List.filter_eq_nil_iff]
 intro n d
 obtain⟨i,a,rfl⟩:=List.getElem_of_mem d
 replace a:=List.length_take▸a
 have b:i<nms.length:=Nat.lt_of_lt_of_le a (Nat.min_le_right _ _)
 have c:i<vals.length:=Nat.lt_of_lt_of_le a (Nat.le_trans (Nat.min_le_left _ _) hd)
 simp only [List.getElem_take,dN nd b,List.getElem?_eq_getElem c]
 exact Bool.false_ne_true
theorem wL{nms:List Str}(nd:nms.Nodup){vals ds:List Value}{f k:Nat}(hf:nms.length=f+ds.length)(hk:vals.length=f+k)(hkd:k<=ds.length):
  nms.filterMap (λn=>(List.lookup n (eR (nms.zip vals) ((nms.drop f).zip ds))).map (n,·))=nms.zip (vals++ds.drop k):=by
 refine eB (by simp only [List.length_append,List.length_drop,hk,hf,Nat.add_assoc,Nat.add_sub_cancel' hkd]) λi b=>?_
 rw [fw,dN nd b]
 by_cases q:i<vals.length
 ·simp only [List.getElem?_append_left q,List.getElem?_eq_getElem q];rfl
 ·refine x11 (Nat.exists_eq_add_of_le (Nat.le_of_not_lt q)) λj a=>?_
  subst a
  have e:vals.length+j=f+(k+j):=by simp only [hk,Nat.add_assoc]
  have c:k+j<ds.length:=by simp only [e,hf] at b;exact Nat.lt_of_add_lt_add_left b
  have g:k+j<(nms.drop f).length:=by simp only [List.length_drop,hf,Nat.add_sub_cancel_left];exact c
  simp only [List.getElem?_append_right (Nat.le_add_right _ _),List.getElem?_eq_none (Nat.le_add_right _ _),Option.none_or,List.getElem?_drop,Nat.add_sub_cancel_left]
  have d:nms[vals.length+j]=(nms.drop f)[k+j]:=by
   simp only [List.getElem_drop];congr 1
  rw [d,dN (List.Nodup.sublist (List.drop_sublist _ _) nd)]
theorem wK{nms:List Str}(nd:nms.Nodup){vals ds:List Value}(hd:nms.length<=vals.length+ds.length)(hdn:ds.length<=nms.length)(hg:vals.length<=nms.length):
  (nms++[]).filterMap (λn=>(List.lookup n (((nms.drop (nms.length - (ds.drop (ds.length - nms.length)).length)).zip (ds.drop (ds.length - nms.length))).foldl (λ(sl:List (Str×Value)) (p:Str×Value)=>if(sl.lookup p.1).isNone then sl++[(p.1,p.2)] else sl) (nms.zip vals))).map (n,·))=
   nms.zip (vals++ds.drop (vals.length+ds.length - nms.length)):=by
 have a:ds.drop (ds.length - nms.length)=ds:=by exact(Nat.sub_eq_zero_of_le hdn)▸(List.drop_zero)▸rfl
 simp only [List.append_nil,a,fU];exact wL nd (Nat.sub_add_cancel hdn).symm (by omega) (by omega)
theorem fV{fd:FuncData}{nms:List Str}(P:cI fd nms){vals ds:List Value}{Q:List (Str×Value)->Shared->Prop}(hg:vals.length<=nms.length)(hd:nms.length<=vals.length+ds.length)(hdn:ds.length<=nms.length)
  (hds:wpAny M A (seqItems? fd.defaults) (λr s'=>s'=s/\(r.getD #[]).toList=ds) E s)
  (h:Q (nms.zip (vals++ds.drop (vals.length+ds.length - nms.length))) s):
  wpAny M A (bindArgs fd ⟨vals,[]⟩) Q E s:=by
 obtain⟨F,a1,⟨x,c,m,e,u,y,B⟩,J,I,z,C,H,D⟩:=fd
 obtain⟨i,v,j,l,t,f⟩:=P
 obtain rfl:x=[]:=i
 obtain rfl:e=[]:=j
 obtain rfl:m=none:=l
 obtain rfl:y=none:=t
 obtain rfl:c.map (·.arg)=nms:=v
 have d:ds.length - (c.map (·.arg)).length=0:=Nat.sub_eq_zero_of_le hdn
 refine wpAny_bind (yu List.forIn_nil (wpAny_pure ?_))
 refine wpAny_bind (wpAny_mono hds (λr s' o=>?_) λ_ _ q=>q)
 obtain⟨rfl,w⟩:=o
 rw [w]
 refine um ?_ ?_
 ·rw [Bool.and_eq_true,decide_eq_true_eq];exact λq=>Nat.not_lt.mpr hg q.1
 have k:ds.drop (ds.length - (c.map (·.arg)).length)=ds:=by exact(d)▸(List.drop_zero)▸rfl
 refine um ?_ ?_
 ·show ¬((!(List.filter (λn=>(List.lookup n ((c.map (·.arg)).zip vals)).isNone) ((c.map (·.arg)).take ((c.map (·.arg)).length - (ds.drop (ds.length - (c.map (·.arg)).length)).length))).isEmpty)=true)
  rw [k,ul f (by omega)];exact Bool.false_ne_true
 refine wpAny_bind (yu (jj (g:=λ(sl:List (Str×Value)) (p:Str×Value)=>if(sl.lookup p.1).isNone then sl++[(p.1,p.2)] else sl) (λa b=>(by by_cases q:(List.lookup a.1 b).isNone=true;exact(if_pos q).trans (by rw [if_pos q]);exact(if_neg q).trans (by rw [if_neg q]))) _ _) (wpAny_pure ?_))
 refine wpAny_pure ?_
 exact(congrArg (Q · s') (wK f hd hdn hg)).mpr h
end
section
variable {prog:Program}{w:World}{B:Base prog w}
variable {A:Around}{n:Nat}{W:Mo}{env:Env}{ctx:List (Str×Nat)}{ks:List (Str×NameKind)}{ρ:List V}
mutual
theorem Rep.trunc{W W':Mo}(hh:W'.h=W.h)(hF:W'.g.F=W.g.F)(ha:∀i,W'.g.adr 0 i=W.g.adr 0 i)(hp:W'.s.perm.length=W.s.perm.length):∀ {v:V} {x:Value},aV v=true->Rep B W v x->Rep B W' v x
 |.undef,_,_,h=>h.elim
 |.none,_,_,h=>h
 |.bool _,_,_,h=>h
 |.int _,_,_,h=>h
 |.str _,_,_,h=>h
 |.tup l,x,k,h=>by
  obtain⟨a,b,n,rfl,c,d,e,f⟩:=h
  exact⟨a,b,n,rfl,by rw [hF];exact c,by rw [hh];exact d,e,aA.trunc hh hF ha hp k f⟩
 |.lst l,x,k,h=>by
  obtain⟨a,b,rfl,c,d,e,f⟩:=h
  exact⟨a,b,rfl,by rw [hF];exact c,by rw [hh];exact d,e,aA.trunc hh hF ha hp k f⟩
 |.kd ks y,x,k,h=>by
  obtain⟨a,r,rfl,c,U,j,N,f⟩:=h
  exact⟨a,r,rfl,by rw [hF];exact c,U,by rw [hh];exact j,N,aA.trunc hh hF ha hp k f⟩
 |.rng k,x,_,h=>by
  obtain⟨a,t,u,z,rfl,c,e,d⟩:=h
  exact⟨a,t,u,z,rfl,by rw [hF];exact c,e,by rw [hh];exact d⟩
 |.ref i,x,_,h=>by
  exact⟨by rw [hp];exact h.1,by rw [ha];exact h.2⟩
 |.tmp i,x,k,_=>by simp [aV] at k
 |.clo p q,x,k,h=>by
  simp only [aV,Bool.and_eq_true] at k
  obtain⟨a,o,X,D,v1,C,rfl,c,m,w,d,⟨J,j,P,R,Q,y,t,O,K,M,H⟩,I,A,T,L⟩:=h
  exact⟨a,o,X,D,v1,C,rfl,by rw [hF];exact c,by rw [hF];exact m,by rw [hF];exact w,by rw [hh];exact d,⟨J,j,P,R,Q,y,t,O,by rw [hF];exact K,by rw [hh];exact M,H⟩,by rw [hh];exact I,by rw [hh];exact A,Rep.trunc hh hF ha hp k.1 T,Rep.trunc hh hF ha hp k.2 L⟩
theorem aA.trunc{W W':Mo}(hh:W'.h=W.h)(hF:W'.g.F=W.g.F)(ha:∀i,W'.g.adr 0 i=W.g.adr 0 i)(hp:W'.s.perm.length=W.s.perm.length):∀ {l:List V} {x:List Value},aD l=true->aA B W l x->aA B W' l x
 |[],[],_,_=>trivial
 |[],_::_,_,h=>h.elim
 |_::_,[],_,h=>h.elim
 |v::r,x::q,k,h=>by
  simp only [aD,Bool.and_eq_true] at k
  exact⟨Rep.trunc hh hF ha hp k.1 h.1,aA.trunc hh hF ha hp k.2 h.2⟩
end
mutual
theorem jd:∀ {n:Nat} {v:V},aO n v=true->aV v=true
 |_,.int _,_=>rfl
 |_,.str _,_=>rfl
 |n+1,.tup l,h=>by
  simp only [aO,List.all_eq_true] at h
  exact hY h
 |0,.tup _,h=>by simp [aO] at h
 |_,.undef,_=>rfl
 |_,.none,_=>rfl
 |_,.bool _,_=>rfl
 |_,.lst _,h=>by simp [aO] at h
 |_,.kd _ _,h=>by simp [aO] at h
 |_,.rng _,_=>rfl
 |_,.ref _,_=>rfl
 |_,.tmp _,h=>by simp [aO] at h
 |_,.clo _ _,h=>by simp [aO] at h
theorem hY:∀ {n:Nat} {l:List V},(∀v∈l,aO n v=true)->aD l=true
 |_,[],_=>rfl
 |n,v::r,h=>by
  simp only [aD,Bool.and_eq_true]
  exact⟨jd (h v (by simp)),hY λu a=>h u (by simp [a])⟩
end
theorem bR.trunc{W W':Mo}(hh:W'.h=W.h)(hF:W'.g.F=W.g.F)(ha:∀i,W'.g.adr 0 i=W.g.adr 0 i)(hp:W'.s.perm.length=W.s.perm.length){o:Ob}{a d:Addr}(hc:o.clean=true)(h:bR B W o a d):bR B W' o a d:=by
 cases o with
 |list l=>obtain⟨m,e,f,j⟩:=h;exact⟨m,hh▸e,f,j.trunc hh hF ha hp hc⟩
 |idict l=>obtain⟨b,e,f,j,k⟩:=h;exact⟨b,hh▸e,f,j,k.trunc hh hF ha hp hc⟩
 |sdict l=>obtain⟨b,e,f,j,k⟩:=h;exact⟨b,hh▸e,f,j,k.trunc hh hF ha hp hc⟩
 |tdict l=>
  obtain⟨r,e,f,j,k,n⟩:=h
  refine⟨r,hh▸e,f,j,k.trunc hh hF ha hp hc,λx q=>(n x q).trunc hh hF ha hp ?_⟩
  refine x36 e λ_ _ _ _ _ _ _ p _=>?_
  exact jd (p x q).2
 |inst c fs=>obtain⟨e,b,f,j,k,n⟩:=h;exact⟨hh▸e,b,hh▸f,j,k,n.trunc hh hF ha hp hc⟩
noncomputable def lW(W:Mo)(n:Nat):Mo:=⟨{W.s with tmps:=W.s.tmps.take n},W.g,W.sh⟩
inductive Am(B:Base prog w)(Ow:Addr->Prop)(W₀ W:Mo):Prop
 |mk (W':Mo) (s:W'.s={W.s with tmps:=W.s.tmps.take W₀.s.tmps.length}) (h:W'.sh=W.sh) (I:Inv B W') (st:Step Ow W₀ W') (r:∀v x,aV v=true->Rep B W v x->Rep B W' v x)
theorem Inv.trunc{W₀ W:Mo}{Ow:Addr->Prop}(I:Inv B W)(st:Step Ow W₀ W):
  Am B Ow W₀ W:=by
 have a:∀k j,live ({W.s with tmps:=W.s.tmps.take W₀.s.tmps.length}:S) k j->live W.s k j
  |0,j,h=>h
  |1,j,h=>h
  |2,j,h=>by
   have h:j<(W.s.tmps.take W₀.s.tmps.length).length:=h
   simp only [List.length_take] at h
   exact Nat.lt_of_lt_of_le h (Nat.min_le_right _ _)
  |_+3,_,h=>h.elim
 have b:(W.s.tmps.take W₀.s.tmps.length).length=W₀.s.tmps.length:=by rw [List.length_take];exact Nat.min_eq_left st.lent
 refine⟨⟨{W.s with tmps:=W.s.tmps.take W₀.s.tmps.length},W.g,W.sh⟩,rfl,rfl,⟨I.base,I.fresh,I.fdom,λi o e=>?_,λi o e=>?_,λk i h=>I.inF k i (a k i h),λk i c d h m=>I.inj k i c d (a k i h) (a c d m),λo h=>?_⟩,?_,λv x l f=>Rep.trunc (W:=W) (W':=lW W W₀.s.tmps.length) rfl rfl (λ_=>rfl) rfl l f⟩
 ·exact bR.trunc (W:=W) (W':=lW W W₀.s.tmps.length) rfl rfl (λ_=>rfl) rfl (I.nt o (.inl (List.mem_of_getElem? e))) (I.perm i o e)
 ·have e:(W.s.tmps.take W₀.s.tmps.length)[i]?=some o:=e
  simp only [List.getElem?_take] at e
  split at e
  ·exact⟨bR.trunc (W:=W) (W':=lW W W₀.s.tmps.length) rfl rfl (λ_=>rfl) rfl (I.nt o (.inr (List.mem_of_getElem? e))) (I.tmps i o e).1,(I.tmps i o e).2⟩
  ·exact nn e
 ·refine(h).elim (λh=>?_) (λh=>?_)
  ·exact I.nt o (.inl h)
  ·exact I.nt o (.inr (List.mem_of_mem_take h))
 ·exact⟨st.lenp,by show _<=(W.s.tmps.take _).length;simp only [b];exact Nat.le_refl _,st.kind,st.adr,st.F,st.new,λk i h=>st.newl k i (a k i h),st.keep,st.dom,st.sm⟩
theorem cq:∀ {names:List (Str×NameKind)} {a:Addr} {acc:List (Str×Addr)} {m:Str},((m,NameKind.cell)∈names\/(acc.lookup m).isSome)->((cellsFrom a names acc).lookup m).isSome
 |[],_,_,_,h=>by rcases h with h|h;simp at h;exact h
 |(n,k)::r,a,acc,m,h=>by
  dsimp only [cellsFrom]
  split
  ·refine cq ?_
   rcases h with h|h
   ·refine(List.mem_cons.mp h).elim (λq=>?_) (λq=>?_)
    ·cases q;right;rw [aJ,if_pos rfl];rfl
    ·exact .inl q
   ·right;rw [aJ];split;rfl;exact h
  ·rename_i hk
   refine cq ?_
   rcases h with h|h
   ·refine(List.mem_cons.mp h).elim (λq=>?_) (λq=>?_)
    ·cases q;exact absurd rfl hk
    ·exact .inl q
   ·exact .inr h
theorem lT{k:Str->Option NameKind}:∀ {binds:List (Str×Value)} {m:Str->Option Value} {nm:Str},nm ∉ binds.map (·.1)->bindL k binds m nm=m nm
 |[],_,_,_=>rfl
 |(n,v)::r,m,nm,h=>by
  simp only [List.map_cons,List.mem_cons,not_or] at h
  dsimp only [bindL]
  refine(lT h.2)▸?_
  split
  ·show(if nm=n then some v else m nm)=m nm
   exact(if_neg h.1)▸rfl
  ·rfl
theorem i4{k:Str->Option NameKind}:∀ {binds:List (Str×Value)} {m:Str->Option Value} {nm:Str} {v:Value},(binds.map (·.1)).Nodup->(nm,v)∈binds->k nm=some .local ->bindL k binds m nm=some v
 |[],_,_,_,_,h,_=>by simp at h
 |(n,u)::r,m,nm,v,hn,h,hk=>by
  simp only [List.map_cons,List.nodup_cons] at hn
  dsimp only [bindL]
  refine(List.mem_cons.mp h).elim (λq=>?_) (λq=>?_)
  ·cases q
   rw [if_pos hk,lT hn.1];show(if n=n then some u else m n)=some u;rw [if_pos rfl]
  ·exact i4 hn.2 q hk
theorem lU{k:Str->Option NameKind}:∀ {binds:List (Str×Value)} {m:Str->Option Value} {nm:Str},nm ∉ binds.map (·.1)->bindC k binds m nm=m nm
 |[],_,_,_=>rfl
 |(n,v)::r,m,nm,h=>by
  simp only [List.map_cons,List.mem_cons,not_or] at h
  dsimp only [bindC]
  refine(lU h.2)▸?_
  split
  ·rfl
  ·show(if nm=n then some v else m nm)=m nm
   exact(if_neg h.1)▸rfl
theorem lV{k:Str->Option NameKind}:∀ {binds:List (Str×Value)} {m:Str->Option Value} {nm:Str} {v:Value},(binds.map (·.1)).Nodup->(nm,v)∈binds->k nm≠some .local ->bindC k binds m nm=some v
 |[],_,_,_,_,h,_=>by simp at h
 |(n,u)::r,m,nm,v,hn,h,hk=>by
  simp only [List.map_cons,List.nodup_cons] at hn
  dsimp only [bindC]
  refine(List.mem_cons.mp h).elim (λq=>?_) (λq=>?_)
  ·cases q
   rw [if_neg hk,lU hn.1];show(if n=n then some u else m n)=some u;rw [if_pos rfl]
  ·exact lV hn.2 q hk
end
structure FnK(K:Frag)(a:Addr)(fn:Fn)(fd:FuncData)(body:List Stmt)(nms:List Str)(ds:List Value):Prop where
 at_:∃o,K.lookup a=some o/\o.data=.func fd
 body:fd.body=.stmts body
 kind:fd.scope.kind=.function
 co:fd.scope.isCoroutine=false
 gen:fd.scope.isGenerator=false
 clos:fd.closure=[]
 glob:fd.globals=mainGlobals
 blt:fd.builtins=builtinsNs
 code:∃c o vs t,fd.code=.ref c/\K.lookup c=some o/\o.data=.fields vs/\vs[1]?=some (.str fd.qualname t)
 params:cI fd nms
 np:nms.length=fn.params
 dflt:(fd.defaults=.none/\ds=[])\/∃T o items n,fd.defaults=.ref T/\K.lookup T=some o/\o.data=.seq items n/\items.toList=ds
 dlen:ds.length<=nms.length
 drep:lq K fn.dflt ds=true
 ctx0:∀i (h:i<nms.length),fn.ctx.lookup nms[i]=some i
 kinds:∀n∈nms,fd.scope.names.lookup n=some .local \/fd.scope.names.lookup n=some .cell
 inj:bk fn.ctx
 noFree:∀nm,fd.scope.names.lookup nm≠some .free
section
variable {prog:Program}{w:World}{B:Base prog w}
variable {A:Around}{n:Nat}{W:Mo}{env:Env}{ctx:List (Str×Nat)}{ks:List (Str×NameKind)}{ρ:List V}
theorem jb:∀ {l m:List V} {i:Nat},i<l.length->lget (l++m) i=lget l i
 |[],_,_,h=>by simp at h
 |_::_,_,0,_=>rfl
 |_::r,m,i+1,h=>jb (l:=r) (Nat.le_of_succ_le_succ h)
theorem cM:∀ {l m:List V} {i:Nat},l.length<=i->lget (l++m) i=lget m (i - l.length)
 |[],_,_,_=>rfl
 |_::_,_,0,h=>by simp at h
 |_::r,m,i+1,h=>by
  simp only [List.length_cons,Nat.add_sub_add_right]
  exact cM (l:=r) (Nat.le_of_succ_le_succ h)
theorem bG:∀ {n i:Nat},lget (List.replicate n .undef) i=.undef:=by
 intro a
 induction a with
 |zero=>
  exact @λ_=>rfl
 |succ n bG=>
  exact @λb=>match b with
  |0=>rfl
  |i+1=>bG
theorem lget_getElem?:∀ {l:List V} {i:Nat},i<l.length->l[i]?=some (lget l i)
 |[],_,h=>by simp at h
 |_::_,0,_=>rfl
 |_::r,i+1,h=>lget_getElem? (l:=r) (Nat.le_of_succ_le_succ h)
theorem q7{nms:List Str}{vals:List Value}{i:Nat}(h1:i<nms.length)(h2:i<vals.length):(nms[i],vals[i])∈nms.zip vals:=by
 have:(nms.zip vals)[i]'(by simp;lia)=(nms[i],vals[i]):=by simp
 simp only [<-this];exact List.getElem_mem _
theorem aA.drop:∀ {l:List V} {xs:List Value} {k:Nat},aA B W l xs->aA B W (l.drop k) (xs.drop k)
 |_,_,0,h=>h
 |[],[],k+1,_=>trivial
 |[],_::_,_+1,h=>h.elim
 |_::_,[],_+1,h=>h.elim
 |_::r,_::q,k+1,h=>by simpa using aA.drop (l:=r) h.2
noncomputable def dw(fn:Fn)(args:List V):List V:=args++fn.dflt.drop (args.length+fn.dflt.length - fn.params)++List.replicate (fn.slots - fn.params) .undef
theorem uQ{a:Addr}{fn:Fn}{fd:FuncData}{body:List Stmt}{nms:List Str}{ds:List Value}{args:List V}{vals:List Value}{fl:Fl}{ρ':List V}{s':S}{v:V}{R:Result->Shared->Prop}
  (X:FnK B.K a fn fd body nms ds) (hroom:A.depth<recursionLimit) (I:Inv B W) (ha:aA B W args vals) (h1:args.length<=fn.params) (h2:fn.params<=args.length+fn.dflt.length) (hv:v=fl.val) (hnt:aV v=true)
  (hbody:∀L W1,W1.s=W.s->Inv B W1->az B (callEnvC fd L a) fn.ctx fd.scope.names (dw fn args) W1->
   au B (A.deeper (callEnvC fd L a)) (callEnvC fd L a) fn.ctx fd.scope.names W1 (execs body (callEnvC fd L a)) fl ρ' s')
  (hR:∀val sh',Post B W {s' with tmps:=s'.tmps.take W.s.tmps.length} (λW' x=>Rep B W' v x) val sh'->R (.ok (.ret val)) sh'):
  codeAny (model prog w) A (.call (.ref a) ⟨vals,[]⟩) R W.sh:=by
 refine x12 X.at_ λo f4 Y=>?_
 have hk:=I.K
 have f2:W.h.CodeRec fd.code fd.qualname:=by
  refine x44 X.code λc oc vs t e1 e2 e3 e4=>?_
  exact i44 c oc vs t e1 (by exact hk _ _ e2) e3 e4
 have a5:W.h.NoLimit:=by
  refine x12 B.nolimit λmc r D=>?_
  exact i12 mc (r.keeps I.base) D
 have p:fn.dflt.length=ds.length:=(eL I X.drep).length
 have O:=ha.length
 have H:wpAny (model prog w) A.in1 (bindArgs fd ⟨vals,[]⟩) (λb s'=>b=nms.zip (vals++ds.drop (vals.length+ds.length - nms.length))/\s'=W.sh) (λ_ _=>False) W.sh:=by
  refine fV X.params (by simp only [X.np,<-O];exact h1) (by simp only [X.np,<-O,<-p];exact h2) X.dlen ?_ ⟨rfl,rfl⟩
  refine(X.dflt).elim (λd=>?_) (λe=>?_)
  ·refine x02 d λd1 d2=>?_
   refine d1▸d2▸?_
   exact wpAny_bind (wpAny_pure (wpAny_pure ⟨rfl,rfl⟩))
  ·refine x44 e λT oT e6 k d1 d2 d3 d4=>?_
   exact d1▸wpAny_seqItems (hk _ _ d2) d3 ⟨rfl,d4⟩
 refine codeAny_call_function hroom (hk _ _ f4) Y X.co X.gen X.body f2 (wpAny_mono H (λe5 s1 hb=>?_) λ_ _ q=>q.elim)
 obtain⟨rfl,rfl⟩:=hb
 refine X.clos▸?_
 have Q:(vals++ds.drop (vals.length+ds.length - nms.length)).length=nms.length:=by
  simp only [List.length_append,List.length_drop]
  have:=X.dlen;have:=X.np
  lia
 refine wpAny_newFunctionEnv_cells X.kind (λx hx=>?_) λd6 he U C=>?_
 ·refine x02 (List.of_mem_zip hx) λe7 _=>?_
  rcases X.kinds x.1 e7 with q|q
  ·exact .inl q
  ·exact .inr ⟨q,cq (.inl (ao q))⟩
 ·have c5:d6=callEnvC fd W.h.objs.size a:=he▸rfl
  subst c5
  refine⟨a5.keeps C.toInCall.keep,codeAny_func ?_⟩
  have hm:Sm W.sh U:=by obtain⟨hh,tk,q⟩:=C.toInCall.same;simp only [q];exact⟨rfl,rfl⟩
  have P:∀b o,W.h.get? b=some o->U.heap.get? b=some o:=by exact C.toInCall.keep
  have Z:W.h.get? W.h.objs.size=none:=by exact ba _
  have m:∀l c,(callEnvC fd W.h.objs.size a).cells.lookup l=some c->W.h.get? c=none/\(U.heap.get? c).isSome:=by
   intro l c hc
   have r:=C.above l c (ao hc)
   refine⟨by exact jE (Nat.le_of_lt r),?_⟩
   refine x12 (C.cell l c hc) λo ho _=>?_
   rw [ho];rfl
  have a8:(U.heap.get? W.h.objs.size).isSome:=by obtain⟨o,_,_,ho,_⟩:=C.toInCall.ns;refine(show W.h.objs.size=(callEnvC fd W.h.objs.size a).locals from rfl)▸ho▸?_;rfl
  obtain⟨I1,a6⟩:=I.ext (sh':=U) (F':=λb=>W.g.F b\/b=W.h.objs.size\/∃l,(callEnvC fd W.h.objs.size a).cells.lookup l=some b) P
   (λb h=>by
    rcases h with h|rfl|⟨l,h⟩
    ·exact .inl h
    ·exact .inr ⟨Z,a8⟩
    ·exact .inr (m l b h)) (λb h=>.inl h) hm
  have n:∀k i b,live W.s k i->W.h.get? b=none->W.g.adr k i≠b:=λk i b hl hb q=>by
   have:=I.fdom _ (I.inF k i hl)
   rw [q,hb] at this;exact ff this
  have C1:=a6.carry I λ_ q=>q.elim
  have y:aA B W (args++fn.dflt.drop (args.length+fn.dflt.length - fn.params)) (vals++ds.drop (vals.length+ds.length - nms.length)):=by
   refine ha.append ?_
   refine O▸p▸X.np▸?_
   exact(eL I X.drep).drop
  have N:(args++fn.dflt.drop (args.length+fn.dflt.length - fn.params)).length=fn.params:=by rw [y.length,Q,X.np]
  have M:((nms.zip (vals++ds.drop (vals.length+ds.length - nms.length))).map (·.1)).Nodup:=by
   rw [List.map_fst_zip (by rw [Q];exact Nat.le_refl _)]
   exact X.params.nd
  have J:∀l x,fn.ctx.lookup l=some x->lget (dw fn args) x≠ .undef->∃val,(l,val)∈nms.zip (vals++ds.drop (vals.length+ds.length - nms.length))/\Rep B W (lget (dw fn args) x) val:=by
   intro l x hx hu
   unfold dw at hu ⊢
   by_cases q:x<fn.params
   ·have b1:x<(args++fn.dflt.drop (args.length+fn.dflt.length - fn.params)).length:=by rw [N];exact q
    rw [jb b1] at hu ⊢
    refine x12 (y.get (lget_getElem? b1)) λval d5 f0=>?_
    have a0:x<nms.length:=by exact X.np▸q
    have e0:nms[x]=l:=X.inj _ _ x (X.ctx0 x a0) hx
    refine i12 val ?_ f0
    have a7:x<(vals++ds.drop (vals.length+ds.length - nms.length)).length:=by rw [Q];exact a0
    have:=q7 a0 a7
    rw [e0,List.getElem?_eq_getElem a7] at*
    obtain rfl:=Option.some.inj d5
    exact this
   ·rw [cM (by rw [N];lia)] at hu
    exact absurd bG hu
  have E1:az B (callEnvC fd W.h.objs.size a) fn.ctx fd.scope.names (dw fn args) ⟨W.s,⟨W.g.adr,λb=>W.g.F b\/b=W.h.objs.size\/∃l,(callEnvC fd W.h.objs.size a).cells.lookup l=some b⟩,U⟩:=by
   refine⟨X.kind,rfl,X.glob,X.blt,i12 _ C.toInCall.ns (λl x r D h5=>?_),i03 (.inr (.inl rfl)) a8 (λk i hl=>n k i _ hl Z),λl x r D=>?_,λl x r D=>absurd D (X.noFree l),λl h0 x x' c r D h5 h6 h7 h8=>?_⟩
   ·refine x12 (J l x r h5) λval hm hr=>?_
    exact i12 val (i4 M hm D) (hr.mono C1)
   ·refine x11 (Option.isSome_iff_exists.mp (cq (a:=W.h.objs.size+1) (acc:=[]) (.inl (ao D)))) λc hc=>?_
    have z:(callEnvC fd W.h.objs.size a).cells.lookup l=some c:=hc
    refine x02 (m l c z) λn1 n2=>?_
    refine i24 c _ z ⟨.inr (.inr ⟨l,z⟩),n2,λk i hl=>n k i _ hl n1⟩ (C.cell l c z) (λh5=>?_)
    refine x12 (J l x r h5) λval hm hr=>?_
    exact i12 val (lV M hm (λq=>by
     have q:fd.scope.names.lookup l=some .local :=q
     replace q:=D▸q;cases q)) (hr.mono C1)
   ·exact name_of_addr C.apart (ao h7) (ao h8)
  refine wpAny_mono (hbody _ ⟨W.s,⟨W.g.adr,_⟩,U⟩ rfl I1 E1) (λf g8 h=>?_) λ_ _ q=>q.elim
  obtain⟨W2,rfl,d0,I2,st2,c0⟩:=h
  have a4:Step (λ_=>False) W W2:=by
   refine((a6.mono λb q _=>q.elim).trans st2).mono λb q hq=>?_
   refine(q).elim (λq=>?_) (λj=>?_)
   ·replace hq:=Z▸(show b=W.h.objs.size from q)▸hq;exact ff hq
   ·refine x23 j λl _ _ _ q=>?_
    rw [(m l b q).1] at hq;exact ff hq
  obtain⟨W3,s3,r,I3,st3,tr⟩:=I2.trunc a4
  refine hR _ _ ⟨W3,r,by rw [s3,d0],I3,st3,?_⟩
  cases fl with
  |next=>
   obtain⟨rfl,_⟩:=c0
   refine hv▸?_;rfl
  |ret u=>
   obtain⟨x,rfl,hx⟩:=c0
   exact tr v x hnt (hv▸hx)
end
structure iA(A:Around)(k:Nat):Prop where
 handled:A.handled=none
 depth:A.depth+2*k+21<=900
 units:A.units+30*k+310<=9000
theorem AOk.call{A:Around}{k:Nat}(h:AOk A (k+1)):iA A k:=⟨h.handled,by have:=h.depth;omega,by have:=h.units;lia⟩
noncomputable def cJ(C:Addr)(rest:List Value):Code:=.builtin "type.__call__" ⟨.ref C::rest,[]⟩
theorem pJ(C:Addr)(rest:List Value):(cJ C rest).weight=1/\(cJ C rest).cUnits=1:=by
 constructor
 ·unfold cJ;kernel_rfl
 ·unfold cJ;kernel_rfl
theorem AOk.callUnder{A:Around}{k:Nat}(h:AOk A (k+1))(C:Addr)(rest:List Value):iA (A.under (cJ C rest)) k:=by
 refine x02 (pJ C rest) λd b=>?_
 have c:(A.under (cJ C rest)).depth=A.depth+(cJ C rest).weight:=rfl
 have a:(A.under (cJ C rest)).units=A.units+(cJ C rest).cUnits:=rfl
 have:=h.depth
 have:=h.units
 exact⟨h.handled,by lia,by lia⟩
theorem iA.deeper{A:Around}{k:Nat}(h:iA A k)(env:Env):AOk (A.deeper env) k:=
 ⟨h.handled,by have:=h.depth;have e:(A.deeper env).depth=A.depth+1:=rfl;omega,by have:=h.units;have e:(A.deeper env).units=A.units+3:=rfl;lia⟩
theorem iA.room{A:Around}{k:Nat}(h:iA A k):A.depth<recursionLimit:=by have:=h.depth;have e:recursionLimit=1000:=rfl;lia
section
variable {prog:Program}{w:World}{B:Base prog w}
variable {A:Around}{n:Nat}{W:Mo}{env:Env}{ctx:List (Str×Nat)}{ks:List (Str×NameKind)}{ρ:List V}
theorem cV{pos:Pos}:∀ {xs:List Expr},xs.all bn=true->(backTo pos (starEach xs env)).any (·.1)=false/\(backTo pos (starEach xs env)).all (λx=> !x.1)=true
 |[],_=>⟨rfl,rfl⟩
 |x::r,h=>by
  replace h:=b2 h
  refine(cj h.1)▸?_
  refine x02 (cV (pos:=pos) h.2) λb a=>?_
  exact⟨by show(false||_)=false;exact b,by show(!false&&_)=true;exact a⟩
theorem jn{f:Value}{pos:Pos}{xs:List Expr}{l:List V}{s':S}(hns:xs.all bn=true)(h:cB B A W (spliced (backTo pos (starEach xs env))) l s'):
  wpAny (model prog w) A (evalArgs f true (backTo pos (starEach xs env)) []) (λa sh'=>a.kw=[]/\Post B W s' (λW' vs=>aA B W' l vs) a.pos sh') (λ_ _=>False) W.sh:=by
 cases xs with
 |nil=>
  refine wpAny_bind (wpAny_mono h (λvs s' b=>?_) λ_ _ x=>x)
  refine wpAny_bind (wpAny_pure ?_)
  refine wpAny_holding ?_
  exact wpAny_bind (wpAny_pure (wpAny_bind (wpAny_pure (wpAny_pure ⟨rfl,b⟩))))
 |cons x r=>
  simp only [List.all_cons,Bool.and_eq_true] at hns
  rw [cj hns.1] at h ⊢
  exact Calls.evalArgs_plain (wpAny_mono h (λvs d c=>⟨rfl,c⟩) λ_ _ q=>q)
theorem dy{a:Addr}{pos:Pos}{xs:List Expr}{first:List Value}{l:List V}{s1:S}{Q:Value->Shared->Prop}{P:Heap->Prop}(I:Inv B W)(hns:xs.all bn=true)
  (h:cB B A W (spliced (backTo pos (starEach xs env))) l s1) (hP:∀W1,Step (λ_=>False) W W1->Inv B W1->P W1.h)
  (hk:∀h,P h->∃k,(k=Keeper.frame\/k=Keeper.machine\/k=Keeper.boundFrame)/\Looks (model prog w) h (keeperOf (.ref a)) k)
  (hc:∀W1 vs,W1.s=s1->Inv B W1->Step (λ_=>False) W W1->aA B W1 l vs->wpAny (model prog w) A (call (.ref a) (first++vs)) Q (λ_ _=>False) W1.sh):
  wpAny (model prog w) A (callWith pos (.ref a) first (backTo pos (starEach xs env)) []) Q (λ_ _=>False) W.sh:=by
 refine callWith_of (by rw [(cV hns).1];rfl) hk (wpAny_mono (jn hns h) (λr e j=>?_) λ_ _ q=>q)
 obtain⟨f,g⟩:=j
 obtain⟨W1,rfl,c,d,b,m,i⟩:=Post.elim I g
 rw [f]
 exact⟨hP W1 b d,hc W1 r.pos c d b i⟩
structure Callee(B:Base prog w)(cf:Cf)(k:Nat):Prop where
 call:∀f args r s s',f≠0->cf.call f args s=some (r,s')->∀A W vals (R:Result->Shared->Prop),iA A k->Inv B W->W.s=s->aA B W args vals->
  (∀val sh',Post B W s' (λW' x=>Rep B W' r x) val sh'->R (.ok (.ret val)) sh')->codeAny (model prog w) A (.call (.ref (B.fa f)) ⟨vals,[]⟩) R W.sh
 keep:∀f args r s s',f≠0->cf.call f args s=some (r,s')->keepIn B.K (.ref (B.fa f))=true
 roll:∀p q u r s s',cf.call 0 [p,q,u] s=some (r,s')->∀A W a val (R:Result->Shared->Prop),iA A k->Inv B W->W.s=s->Rep B W (.clo p q) (.ref a)->Rep B W u val->
  (∀val sh',Post B W s' (λW' x=>Rep B W' r x) val sh'->R (.ok (.ret val)) sh')->codeAny (model prog w) A (.call (.ref a) ⟨[val],[]⟩) R W.sh
theorem rg{f:Addr}(hk:keepIn B.K (.ref f)=true)(h:Heap)(X:B.K.In h):∃k,(k=Keeper.frame\/k=Keeper.machine\/k=Keeper.boundFrame)/\Looks (model prog w) h (keeperOf (.ref f)) k:=keeps_K hk h X
theorem tC{cf:Cf}{k f:Nat}{pos:Pos}{xs:List Expr}{args:List V}{r:V}{s1 s2:S}(Y:Callee B cf k)(hA:AOk A (k+1))(hf:f≠0)(I:Inv B W)(hns:xs.all bn=true)
  (h:cB B A W (spliced (backTo pos (starEach xs env))) args s1) (hc:cf.call f args s1=some (r,s2)):
  am B A W (callWith pos (.ref (B.fa f)) [] (backTo pos (starEach xs env)) []) r s2:=by
 refine dy I hns h (P:=λh=>B.K.In h) (λd _ b=>b.K) (λh X=>rg (Y.keep f args r s1 s2 hf hc) h X) λd g c b a i=>?_
 refine wpAny_call (Y.call f args r s1 s2 hf hc A d g _ hA.call b c i λl j e=>e.trans a)
theorem rf{a:Addr}{o:Obj}{fd:FuncData}(hd:o.data=.func fd)(h:Heap)(X:h.get? a=some o):∃k,(k=Keeper.frame\/k=Keeper.machine\/k=Keeper.boundFrame)/\Looks (model prog w) h (keeperOf (.ref a)) k:=by
 obtain⟨c,d,e,b⟩:=o
 obtain rfl:=hd
 exact i12 .frame (.inl rfl) ((Looks.ld X).andThen .now)
theorem tB{cf:Cf}{k:Nat}{pos:Pos}{x:Expr}{p q u r:V}{a:Value}{s1 s2:S}(Y:Callee B cf k)(hA:AOk A (k+1))(I:Inv B W)(ha:Rep B W (.clo p q) a)(hns:bn x=true)
  (h:am B A W (eval x env) u s1) (hc:cf.call 0 [p,q,u] s1=some (r,s2)):am B A W (callWith pos a [] (backTo pos (starEach [x] env)) []) r s2:=by
 have i:=ha
 obtain⟨a,o,z,w,v1,v,rfl,l,_,_,j,⟨y,m,_⟩,_⟩:=ha
 refine dy I (by simp [hns]) (mU I hns h λg c f _=>by exact c▸rL f)
  (λg b f=>((b.carry I λ_ q=>q.elim).fz a o l j).1) (λh X=>rf m h X) λg s c f b e=>?_
 match s,e with
 |[d],e=>
  simp only [aA,and_true] at e
  exact wpAny_call (Y.roll p q u r s1 s2 hc A g a d _ hA.call f c (i.mono (b.carry I λ_ q=>q.elim)) e λd t n=>n.trans b)
theorem xe{cf:Cf}{k c:Nat}{p:Prog}{nC:Nat}{pos:Pos}{xs:List Expr}{args:List V}{r:V}{s1 s2:S}(X:Facts B p nC)(hcf:cf.init=p.init)(hc0:c<nC)(hkc:keepIn B.K (.ref (B.ca c))=true)(Y:Callee B cf k)(hA:AOk A (k+1))(I:Inv B W)(hns:xs.all bn=true)
  (h:cB B A W (spliced (backTo pos (starEach xs env))) args s1)
  (hc:tV cf c args s1=some (r,s2)) (hf0:cf.init c≠some 0):
  am B A W (callWith pos (.ref (B.ca c)) [] (backTo pos (starEach xs env)) []) r s2:=by
 refine dy I hns h (P:=λh=>B.K.In h) (λd _ m=>m.K) (λh X=>rg hkc h X) λd O i m u T=>?_
 refine wpAny_call ?_
 have Q:∀b o,d.h.get? b=some o->((d.h.push emptyDict).push (instObj (B.ca c) d.h.objs.size)).get? b=some o:=λb o e=>Heap.get?_push_of_some _ (Heap.get?_push_of_some _ e)
 have L:((d.h.push emptyDict).push (instObj (B.ca c) d.h.objs.size)).get? (d.h.objs.size+1)=some (instObj (B.ca c) d.h.objs.size):=by
  have:=Heap.get?_push_size (d.h.push emptyDict) (o:=instObj (B.ca c) d.h.objs.size) rfl
  rwa [Heap.size_push] at this
 have N:((d.h.push emptyDict).push (instObj (B.ca c) d.h.objs.size)).get? d.h.objs.size=some emptyDict:=Heap.get?_push_of_some _ (Heap.get?_push_size _ rfl)
 refine x02 (m.newPerm (o:=.inst c []) rfl (a:=d.h.objs.size+1) (sh':={d.sh with heap:=(d.h.push emptyDict).push (instObj (B.ca c) d.h.objs.size)}) Q (jE (Nat.le_succ _)) (L▸rfl)
  (λ_=>i03 (ba _) (N▸rfl) (Nat.succ_ne_self _)) (F':=λb=>d.g.F b\/b=d.h.objs.size+1\/(true=true/\b=d.h.objs.size)) (λb=>Iff.rfl) ⟨rfl,rfl⟩ (λC=>⟨L,[],iw N,rfl,Nat.zero_le _,trivial⟩)) λR st2=>?_
 have j:aL d.g 0 d.s.perm.length (d.h.objs.size+1) d.h.objs.size 0 d.s.perm.length=d.h.objs.size+1:=by simp [aL]
 have y:=makes_of (M:=model prog w) m.K (X.makes c hc0)
 cases hi:cf.init c with
 |some f=>
  rw [hi] at hf0
  rw [tT hi] at hc
  refine x02 (X.init c f (hcf▸hi)) λH D=>?_
  refine bE hc λrv s3 n hc=>iE hc λz hc=>?_
  ·obtain rfl:=V.none_of z
   obtain⟨rfl,rfl⟩:=sp hc
   refine make_core y (looks_findIn m.K H) (λl=>bind_fn m.K l D) (.inl rfl) ?_
   refine Y.call f _ _ _ _ (λq=>hf0 (by exact(q)▸rfl)) n _ _ _ _ (hA.callUnder (B.ca c) O) R (by exact(i)▸rfl) ⟨?_,?_⟩ λU sh' hp=>?_
   ·skip
    exact⟨by refine i▸?_;simp,by exact i▸(congrArg Value.ref j).symm⟩
   ·exact T.mono (st2.carry m λ_ q=>q.elim)
   ·obtain⟨Z,rfl,x,I3,st3,hv⟩:=hp
    refine⟨hv,Z,rfl,x,I3,(u.trans st2).trans st3,?_⟩
    have v:live ({d.s with perm:=d.s.perm++[.inst c []]}:S) 0 d.s.perm.length:=by show _<(d.s.perm++[_]).length;simp
    refine⟨Nat.lt_of_lt_of_le ?_ st3.lenp,?_⟩
    ·simp only [<-i];exact v
    ·simp only [<-i,st3.adr 0 _ v]
     exact(congrArg Value.ref j).symm
 |none=>
  rw [tU hi] at hc
  refine iE hc λt hc=>?_
  ·obtain rfl:=List.isEmpty_iff.mp t
   obtain⟨rfl,rfl⟩:=sp hc
   match O,T with
   |[],_=>
    have J:=X.noInit c hc0 (hcf▸hi)
    refine make_core y (looks_findIn m.K J) (λl=>Looks.of_pure (oi_bind l)) (.inr ⟨rfl,rfl⟩) ?_
    have t1:Looks (model prog w) ((d.h.push emptyDict).push (instObj (B.ca c) d.h.objs.size)) (typeOf (.ref (d.h.objs.size+1))) (.ref (B.ca c)):=(Looks.ld L).andThen .now
    have t2:Looks (model prog w) ((d.h.push emptyDict).push (instObj (B.ca c) d.h.objs.size)) (isInstance (.ref (d.h.objs.size+1)) (.type "object")) true:=t1.andThen (y.top.keeps Q)
    refine codeAny_call_builtin oi_plain entry_oi (@check_slot (model prog w) _ _ _ "object.__init__" "object" "__init__" (.ref (d.h.objs.size+1)) [] [] _ oi_kind oi_split t2 (oi_args (.ref (d.h.objs.size+1))) ?_)
    refine wpAny_pure (And.intro rfl ⟨_,rfl,by rw [<-i],R,u.trans st2,?_⟩)
    simp only [Rep]
    exact⟨by refine i▸?_;simp,by exact i▸(congrArg Value.ref j).symm⟩
end
noncomputable def eZ(x:Expr):Bool:= !Nat.beq x.ctorIdx 16
theorem kK{o:Expr}(h:eZ o=true)(nm:Str)(env:Env)(t:Sem Value):attributeBase o nm env t=t:=by
 cases o<;>first|rfl|exact ff h
section
variable {prog:Program}{w:World}{B:Base prog w}
variable {A:Around}{n:Nat}{W:Mo}{env:Env}{ctx:List (Str×Nat)}{ks:List (Str×NameKind)}{ρ:List V}
theorem uS{p:Prog}{nC:Nat}(X:Facts B p nC){o:Expr}{a:Nat}{pos:Pos}{v r:V}{s1:S}(I:Inv B W)(ho:eZ o=true)(h:am B A W (eval o env) v s1)(hg:Mine.getAttr p.own s1 v a=some r):
  am B A W (eval (.Attribute o (B.nm a) pos) env) r s1:=by
 simp only [arm_eval_Attribute,kK ho]
 refine wpAny_bind (wq I h λx j c f b i e=>?_)
 subst c
 refine wpAny_bind (wpAny_standAt (wpAny_bind (wpAny_holding (wpAny_mono (nU X f e hg) (λy g d=>?_) λ_ _ q=>q))))
 exact wpAny_bind (wpAny_letTemporaryGo (wpAny_pure (d.trans b)))
theorem uK{cf:Cf}{p:Prog}{nC k:Nat}(X:Facts B p nC)(hcf:cf.meth=p.meth)(Y:Callee B cf k)(hA:AOk A (k+1)){o:Expr}{m c f:Nat}{apos pos:Pos}{xs:List Expr}{v r:V}{fs:List (Nat×V)}{args:List V}{s1 s2 s3:S}
  (I:Inv B W) (ho:eZ o=true) (hline:(apos.endLine==pos.line)=true) (hns:xs.all bn=true) (hlen:xs.length<30) (h:am B A W (eval o env) v s1) (hob:s1.ob v=some (.inst c fs)) (hno:nget fs m=none) (hm:cf.meth c m=some f) (hf0:f≠0)
  (h2:∀W1,W1.s=s1->Inv B W1->Step (λ_=>False) W W1->cB B A W1 (spliced (backTo pos (starEach xs env))) args s2) (hc:cf.call f (v::args) s2=some (r,s3)):
  am B A W (eval (.Call (.Attribute o (B.nm m) apos) xs [] pos) env) r s3:=by
 simp only [arm_eval_Call,kK ho]
 refine wpAny_bind (wq I h λx W1 F j l C1 L=>?_)
 subst F
 refine wpAny_bind (wpAny_standAt ?_)
 refine cp λ_ O=>?_
 obtain⟨i,rfl,rfl,hi,z,H,M,Z,hz,D⟩:=mC j L hob
 refine x03 (X.meth c m f (hcf▸hm)) λt N y=>?_
 refine x12 (f9 M (B.nm m)) λR w a=>?_
 refine O ?_
 have d:valueAt H (B.nm m)=none:=gk (p:=λx=>Nat.beq x m) (q:=λx=>decide (x=B.nm m)) (jA Z m) D hno
 simp only [d] at a
 have b:methodCallForm (xs.length+([]:List Keyword).length) (backTo pos (starEach xs env)) (backToKw pos (keywordEach [] env))=true:=by
  exact dZ (dZ (cV hns).2 rfl) (decide_eq_true hlen)
 have n:methodCallPos true o env apos pos=pure pos:=by unfold methodCallPos;simp [hline]
 dsimp only [methodCall]
 refine b▸?_
 refine wpAny_bind (wpAny_holding (method_fn (j.K) (rl (z) (w)) (X.get c t) (X.noGet c t) N y (by show Option.map (λx=>x.isSome) (lookIn (B.nm m) R)=some false;refine a▸?_;rfl) ?_))
 refine wpAny_bind (wpAny_of_eq n ?_)
 have e:Rep B W1 (.ref i) (.ref (W1.g.adr 0 i)):=L
 refine dy j hns (h2 W1 rfl j l) (P:=λh=>B.K.In h) (λJ _ C=>C.K) (λh X=>rg (Y.keep f _ r s2 s3 hf0 hc) h X) λJ vs u C st2 D=>?_
 exact wpAny_call (Y.call f _ r s2 s3 hf0 hc A J _ _ hA.call C u ⟨e.mono (st2.carry j λ_ q=>q.elim),D⟩ λQ U T=>(T.trans st2).trans l)
noncomputable def bmK:BM->Nat
 |.get=>1
 |_=>0
theorem Ct{s:S}{v:V}{o:Ob}(h:s.ob v=some o):Nat.beq v.ctorIdx 7=false:=by
 cases v<;>first|rfl|exact nn h
theorem s9{s:S}{v:V}{o:Ob}(h:s.ob v=some o):bkind s v=rO o:=by
 unfold bkind;refine(Ct h)▸h▸?_;rfl
theorem pt{s:S}{v:V}{n:Nat}(h:bkind s v=n)(hn:n<=1):(∃ks vs,v=.kd ks vs/\n=1)\/∃o,s.ob v=some o/\rO o=n:=by
 replace h:=cz h
 rcases h with⟨h1,h⟩|⟨_,h⟩
 ·exact V.kd.elim v (Nat.eq_of_beq_eq_true h1) λa b=>.inl (i22 a b rfl h.symm)
 ·cases q:s.ob v with
  |none=>replace h:=q▸h;subst h;exact absurd hn (by decide)
  |some o=>replace h:=q▸h;exact .inr (i12 o rfl h)
def te(sh:Shared)(x:Value)(T:String):Prop:=sh.TypeIs x T/\(∀a,x=.ref a->∃ob,sh.heap.get? a=some ob/\ob.dict=none)
theorem yo{bm:BM}{v:V}{x:Value}(I:Inv B W)(hx:Rep B W v x)(h:bkind W.s v=bmK bm):te W.sh x (bmT bm):=by
 have A:bkind W.s v=0->te W.sh x "list" :=by
  intro h
  refine(pt h (Nat.zero_le _)).elim (λe=>?_) (λf=>?_)
  ·refine x22 e λ_ _ _ q=>?_
   cases q
  ·refine x12 f λo p q=>?_
   refine cp λ_ z=>?_
   obtain⟨a,d,rfl,_,u⟩:=cC I hx p
   refine z ?_
   cases o with
   |list l=>
    obtain⟨D,⟨k,y⟩,_,_⟩:=u
    exact⟨i12 _ y rfl,λb n=>by injection n with n;subst n;exact i12 _ y rfl⟩
   |_=>cases q
 have t:∀ {a:Addr} {m:List (Int×Value)},W.h.DictOf (intKind prog w) a m->te W.sh (.ref a) "dict" :=by
  intro a m r
  have j:W.h.DictOf (intKind prog w) a m:=r
  exact⟨j.typeIs,λb n=>j.mapOf.noDict b n⟩
 have dct:bkind W.s v=1->te W.sh x "dict" :=by
  intro h
  refine(pt h (Nat.le_refl _)).elim (λg=>?_) (λi=>?_)
  ·refine cp λ_ z=>?_
   refine x22 g λ_ _ c q=>?_
   try clear g;try clear f;try clear e
   subst c
   obtain⟨a,m,rfl,J,K,r,y,H⟩:=hx
   refine z ?_
   exact t r
  ·refine x12 i λo p q=>?_
   obtain⟨a,d,rfl,_,u⟩:=cC I hx p
   cases o with
   |idict l=>obtain⟨m,r,_⟩:=u;exact t r
   |tdict l=>
    obtain⟨F,r,_⟩:=u
    have j:W.h.DictOfH (eU prog w) a F:=r
    refine⟨j.typeIs,λb n=>?_⟩
    injection n with n;subst n;obtain⟨o,_,_,C,hx,_⟩:=j;exact i12 o C hx.2.1
   |_=>cases q
 cases bm with
 |get=>exact dct h
 |_=>exact A h
theorem B8{bm:BM}{v r:V}{args:List V}{s s':S}(h:bm1 s bm v args=some (r,s')):bkind s v=bmK bm:=by
 cases bm with
 |append=>
  replace h:=td h
  refine x12 h λ_ _ h=>?_
  replace h:=(bg h).2
  refine x12 (eN h) λ_ c _=>?_
  exact s9 c
 |pop=>
  replace h:=(bg h).2
  refine x12 (eN h) λ_ c _=>?_
  exact s9 c
 |extend=>
  replace h:=td h
  refine x12 h λ_ _ h=>?_
  replace h:=(bg h).2
  refine x12 (eN h) λ_ c _=>?_
  exact s9 c
 |get=>
  replace h:=wP h
  refine x22 h λ_ _ _ h=>?_
  replace h:=cz h
  refine(h).elim (λa=>?_) (λb=>?_)
  ·obtain⟨d,_⟩:=a
   unfold bkind;refine d▸?_;rfl
  ·obtain⟨_,h⟩:=b
   replace h:=Option.bind_eq_some_iff.mp h
   refine x12 h λo c h=>?_
   simp only [s9 c]
   cases o<;>first|rfl|exact nn h
theorem AW(bm:BM):PlainAttrs (bmT bm)/\Slot (bmT bm) (nr bm) (Ag bm)/\typeOf (.builtin (Ag bm))=pure (.type "method_descriptor"):=by
 cases bm
 ·exact i03 F.plainAttrs_list F.slot_list_append F.type_list_append
 ·exact i03 F.plainAttrs_list F.slot_list_pop F.type_list_pop
 ·exact i03 F.plainAttrs_list F.slot_list_extend F.type_list_extend
 ·exact i03 F.plainAttrs_dict F.slot_dict_get F.type_dict_get
theorem xm{o:Expr}{bm:BM}{apos pos:Pos}{xs:List Expr}{v r:V}{args:List V}{s1 s2 s3:S}(hA:A.units+50<cLine)(I:Inv B W)(ho:eZ o=true)(hline:(apos.endLine==pos.line)=true)(hns:xs.all bn=true)(hlen:xs.length<30)
  (h:am B A W (eval o env) v s1) (h2:∀W1,W1.s=s1->Inv B W1->Step (λ_=>False) W W1->cB B A W1 (spliced (backTo pos (starEach xs env))) args s2)
  (hk:bkind s1 v=bkind s2 v) (hc:bm1 s2 bm v args=some (r,s3)):
  am B A W (eval (.Call (.Attribute o (nr bm) apos) xs [] pos) env) r s3:=by
 refine wpAny_Call_method_lateS (by rw [kK ho]) ?_ hline (wq I h λx W1 c i d F j=>?_)
 ·exact dZ (dZ (cV hns).2 rfl) (decide_eq_true hlen)
 ·refine x03 (AW bm) λp e k=>?_
  refine x02 (yo i j (by simp only [c,hk];exact B8 hc)) λl y=>?_
  refine i26 _ _ p e k l y ?_
  refine Calls.callWith_builtin (cV hns).1 (wpAny_mono (jn hns (h2 W1 c i d)) (λa u h2=>?_) λ_ _ q=>q)
  obtain⟨f,z⟩:=h2
  obtain⟨H,rfl,g,C,st2,D,n⟩:=Post.elim i z
  rw [f]
  refine cp λ_ m=>?_
  subst g
  refine x07 (xr C hA (j.mono D) n hc) λ_ _ _ _ _ _ b=>?_
  refine m ?_
  exact wpAny_mono b (λw t h=>(h.trans st2).trans d) λ_ _ q=>q
end
noncomputable def fG(x:Expr):Bool:= !Nat.beq x.ctorIdx 26
theorem tu{i:Expr}(h:fG i=true)(o v:Value):subscripted i false o v=operate [o,v] (getItem o v):=by
 cases i<;>first|rfl|exact ff h
section
variable {prog:Program}{w:World}{B:Base prog w}
variable {A:Around}{n:Nat}{W:Mo}{env:Env}{ctx:List (Str×Nat)}{ks:List (Str×NameKind)}{ρ:List V}
theorem w7{a i:Expr}{pos:Pos}{v k r:V}{s1 s2:S}(hA:A.units+50<cLine)(I:Inv B W)(hi:fG i=true)(h:am B A W (eval a env) v s1)
  (h2:∀W1,W1.s=s1->Inv B W1->Step (λ_=>False) W W1->am B A W1 (eval i env) k s2) (hr:item s2 v k=some r):am B A W (eval (.Subscript a i pos) env) r s2:=by
 refine Subscript_ (wq I h λx W1 e g d w n=>?_)
 refine wq g (h2 W1 e g d) λy C f p st2 t u=>?_
 subst f
 refine x24 (nT p hA (n.mono t) u hr) λT id j l c hg=>?_
 obtain⟨b,rfl⟩:=c
 exact tail_any j l (wpAny_mono hg (λz m o=>(o.trans st2).trans d) λ_ _ q=>q) (tu hi _ _)
noncomputable def aY:V->Option Int
 |.int i=>some i
 |_=>none
noncomputable def loN(lo:Option Int)(n:Nat):Nat:=match lo with|none=>0|some i=>dI n i
noncomputable def hiN(hi:Option Int)(n:Nat):Nat:=match hi with|none=>n|some i=>dI n i
theorem nB(lo hi:Option Int)(n:Nat):Builtin.Slice.sliceAdjust lo hi 1 (n:Int)=(((loN lo n:Nat):Int),((hiN hi n:Nat):Int)):=by
 unfold Builtin.Slice.sliceAdjust loN hiN dI
 have a:¬((1:Int)<0):=by omega
 cases lo<;>cases hi<;>simp only [Prod.mk.injEq]<;>refine⟨?_,?_⟩<;>(try rfl)<;>(try (split<;>omega))<;>(try trivial)
theorem ma(a b:Nat):Builtin.Slice.slicePlaces (a:Int) (b:Int) 1=b - a:=by
 unfold Builtin.Slice.slicePlaces
 have c:(1:Int)>0:=by omega
 simp only [c,if_true,Int.ediv_one]
 split<;>omega
theorem oe{v:V}{x:Value}{Q:Option Int->Shared->Prop}{E:Value->Shared->Prop}{s:Shared}(hv:(v=.none\/∃i,v=.int i))(hx:Rep B W v x)(h:Q (aY v) s):wpAny (model prog w) A (Builtin.Slice.slicePartIndex x) Q E s:=by
 rcases hv with rfl|⟨i,rfl⟩
 ·obtain rfl:=hx;exact slicePart_none h
 ·obtain⟨t,rfl⟩:=hx;exact slicePart_int h
theorem pX{l ys:List V}{lo hi:V}(h:slice l lo hi=some ys):(lo=.none\/∃i,lo=.int i)/\(hi=.none\/∃i,hi=.int i)/\ys=(l.take (hiN (aY hi) l.length)).drop (loN (aY lo) l.length):=by
 replace h:=Option.bind_eq_some_iff.mp h
 obtain⟨a,d,h⟩:=h
 replace h:=Option.bind_eq_some_iff.mp h
 obtain⟨b,f,h⟩:=h
 have c:∀ {v:V} {a:Option Int},part? v=some a->(v=.none\/∃i,v=.int i)/\aY v=a:=by
  intro v a h
  replace h:=cz h
  rcases h with⟨d,h⟩|⟨_,h⟩
  ·cases is1 d;obtain rfl:=Option.some.inj h;exact⟨.inl rfl,rfl⟩
  ·replace h:=bw h
   obtain⟨i,rfl,h⟩:=h
   obtain rfl:=Option.some.inj h;exact⟨.inr ⟨_,rfl⟩,rfl⟩
 obtain⟨j,g⟩:=c d
 refine x02 (c f) λk e=>?_
 refine i03 j k ?_
 refine g▸e▸?_
 try clear e;try clear g;try clear f;try clear d
 cases a<;>cases b<;>cases h<;>simp [hiN,loN]
theorem qV(xs:Array Value)(a b:Nat)(hb:b<=xs.size):((List.range (b - a)).filterMap λ(k:Nat)=>xs[((a:Int)+(k:Int)*1).toNat]?).toArray=((xs.toList.take b).drop a).toArray:=by
 have e:(λ(k:Nat)=>xs[((a:Int)+(k:Int)*1).toNat]?)=λk=>xs.toList[a+k]?:=by
  funext k
  have:((a:Int)+(k:Int)*1).toNat=a+k:=by lia
  exact(this)▸(Array.getElem?_toList)▸rfl
 refine e▸?_
 congr 1
 have c:xs.toList.length=xs.size:=rfl
 generalize xs.toList=l at c
 replace hb:=c▸hb
 clear c e
 have d:∀ (n a:Nat),a+n<=l.length->(List.range n).filterMap (λk=>l[a+k]?)=(l.drop a).take n:=by
  intro n
  induction n with
  |zero=>intro a _;simp
  |succ n ih=>
   intro a h
   refine List.range_succ_eq_map▸List.filterMap_cons▸?_
   have f:l[a+0]?=some (l[a]'(by omega)):=by simp
   rw [f]
   simp only
   rw [List.filterMap_map]
   have:(λk=>l[a+k]?)∘Nat.succ=λk=>l[(a+1)+k]?:=by funext k;show l[a+(k+1)]?=_;congr 1;lia
   refine this▸(ih (a+1) (by omega))▸?_
   simp only [List.drop_eq_getElem_cons (by omega:a<l.length),List.take_succ_cons]
 by_cases hab:a<=b
 ·exact(d (b - a) a (by omega))▸(List.drop_take)▸rfl
 ·have:b - a=0:=by omega
  refine this▸?_
  simp
  lia
theorem wH(n:Nat)(i:Int):dI n i<=n:=by unfold dI;split<;>omega
theorem x7(hi:Option Int)(n:Nat):hiN hi n<=n:=by
 cases hi with
 |none=>exact Nat.le_refl _
 |some i=>exact wH n i
theorem aA.take:∀ {l:List V} {xs:List Value} {k:Nat},aA B W l xs->aA B W (l.take k) (xs.take k)
 |_,_,0,_=>trivial
 |[],[],k+1,_=>trivial
 |[],_::_,_+1,h=>h.elim
 |_::_,[],_+1,h=>h.elim
 |_::r,_::q,k+1,h=>⟨h.1,aA.take h.2⟩
theorem gG{sl:Addr}{n:Nat}{lo hi:V}{y1 y2:Value}{Q:Int×Int×Nat->Shared->Prop}{E:Value->Shared->Prop}{s:Shared}(hs:s.heap.get? sl=some {cls:=.type "slice",data:=.fields #[y1,y2,.none]})
  (hlo:lo=.none\/∃i,lo=.int i) (hhi:hi=.none\/∃i,hi=.int i) (h1:Rep B W lo y1) (h2:Rep B W hi y2) (h:Q (((loN (aY lo) n:Nat):Int),1,hiN (aY hi) n - loN (aY lo) n) s):
  wpAny (model prog w) A (Builtin.Slice.sliceApplied (.ref sl) (pure (n:Int))) Q E s:=by
 refine wpAny_bind (wpAny_bind (wpAny_field hs rfl (x:=y1) rfl (wpAny_bind (wpAny_field hs rfl (x:=y2) rfl (wpAny_bind (wpAny_field hs rfl (x:=.none) rfl (wpAny_pure ?_)))))))
 refine wpAny_bind (slicePart_none ?_)
 refine wpAny_bind (oe hlo h1 (wpAny_bind (oe hhi h2 (wpAny_bind (wpAny_pure ?_)))))
 show wpAny _ _ (match Builtin.Slice.sliceAdjust (aY lo) (aY hi) 1 (n:Int) with|(lo,hi)=>pure (lo,(1:Int),Builtin.Slice.slicePlaces lo hi 1)) _ _ s
 rw [nB]
 show wpAny _ _ (pure (((loN (aY lo) n:Nat):Int),(1:Int),Builtin.Slice.slicePlaces ((loN (aY lo) n:Nat):Int) ((hiN (aY hi) n:Nat):Int) 1)) _ _ s
 rw [ma]
 exact wpAny_pure h
theorem oK{l:List V}{lo hi:V}{t sl:Addr}{items:Array Value}{k:Nat}{y1 y2:Value}{W1:Mo}(I:Inv B W1)(hx:Rep B W1 (.tup l) (.ref t))(ho:W1.h.get? t=some ⟨.type "tuple",none,.seq items k, #[]⟩)(hl:aA B W1 l items.toList)
  (hz:l.length<=lim) (hs:W1.h.get? sl=some {cls:=.type "slice",data:=.fields #[y1,y2,.none]}) (hlo:lo=.none\/∃i,lo=.int i) (hhi:hi=.none\/∃i,hi=.int i) (h1:Rep B W1 lo y1) (h2:Rep B W1 hi y2):
  am B A W1 (getItem (.ref t) (.ref sl)) (.tup ((l.take (hiN (aY hi) l.length)).drop (loN (aY lo) l.length))) W1.s:=by
 have p:=cu
 have j:=hl.size
 have d:IsTup W1.sh.heap t items:=⟨_,ho,rfl,_,rfl⟩
 have f:W1.sh.TypeIs (.ref sl) "slice" :=i12 _ hs rfl
 unfold am getItem
 try with_reducible refine wpAny_holding ?_
 first|refine wpAny_bind (wpAny_pure ?_)|skip
 refine wpAny_bind (wpAny_sequenceKey d.typeIs rfl ?_)
 refine wpAny_bind (wpAny_callSpecial?_slot d.typeIs slot_tuple_getitem
  (wpAny_call_entry slot_tuple_getitem d.typeIs entry_tuple_getitem ?_ (args_tuple_getitem _ _)))
 show wpAny _ _ (Builtin.Tuple.tupleItemsOf (.ref t)>>=_) _ _ W1.sh
 refine wpAny_bind (tupleItemsOf_ d ?_)
 refine wpAny_bind (wpAny_typeOf f ?_)
 refine wpAny_bind (gG (hs) hlo hhi h1 h2 ?_)
 show wpAny _ _ (if((((loN (aY lo) items.size:Nat):Int))==0&& (1:Int)==1&& (hiN (aY hi) items.size - loN (aY lo) items.size)==items.size)=true then _ else _) _ _ W1.sh
 have e:=x7 (aY hi) items.size
 split
 ·rename_i hc
  simp only [Bool.and_eq_true,beq_iff_eq] at hc
  have q:loN (aY lo) items.size=0:=by lia
  have m:hiN (aY hi) items.size=items.size:=by omega
  have c:(l.take (hiN (aY hi) l.length)).drop (loN (aY lo) l.length)=l:=by
   rw [j,q,m,List.drop_zero,List.take_of_length_le (by lia)]
  simp only [c]
  refine wpAny_bind ?_
  refine wpAny_bind (wpAny_typeOf d.typeIs (wpAny_pure ?_))
  exact wpAny_bind (wpAny_rule (wpAny_pure ⟨_,rfl,wpAny_pure (Post.here I hx)⟩))
 ·simp only [qV items _ _ e]
  have b:(((items.toList.take (hiN (aY hi) items.size)).drop (loN (aY lo) items.size)).toArray).size<=sizeLine:=by
   simp only [List.size_toArray,List.length_drop,List.length_take,Array.length_toList];omega
  have a:Post B W1 W1.s (λg v=>Rep B g (.tup ((l.take (hiN (aY hi) l.length)).drop (loN (aY lo) l.length))) v) (.ref W1.sh.heap.objs.size)
    {W1.sh with heap:=W1.sh.heap.push {cls:=.type "tuple",data:=.seq ((items.toList.take (hiN (aY hi) items.size)).drop (loN (aY lo) items.size)).toArray}}:=by
   refine Post.push I rfl rfl rfl rfl λg a1 a2 r u C n o=>?_
   refine⟨_,_,0,rfl,o,n,?_,?_⟩
   ·simp only [List.length_drop,List.length_take];omega
   ·simp only [j]
    exact((hl.take).drop).mono C
  first
   |exact wpAny_bind (wpAny_newObj_type (wpAny_pure ⟨_,rfl,wpAny_pure a⟩) b)
   |exact wpAny_bind (wpAny_newObj_type (wpAny_bind (wpAny_pure (wpAny_pure ⟨_,rfl,wpAny_pure a⟩))) b)
   |exact wpAny_bind (wpAny_bind (wpAny_newObj_type (wpAny_pure (wpAny_pure ⟨_,rfl,wpAny_pure a⟩)) b))
   |exact wpAny_bind (wpAny_bind (wpAny_newObj_type (wpAny_pure ⟨_,rfl,wpAny_pure a⟩) b))
def gQ(B:Base prog w)(A:Around)(W:Mo)(o:Option Expr)(env:Env)(v:V)(s':S):Prop:=
 wpAny (model prog w) A (valueOrNone (evalOpt o env)) (Post B W s' λW' val=>Rep B W' v val) (λ_ _=>False) W.sh
theorem ji(I:Inv B W):gQ B A W none env .none W.s:=wpAny_pure (Post.same I rfl rfl rfl λ_ _ _=>rfl)
theorem jh{x:Expr}{v:V}{s':S}(h:am B A W (eval x env) v s'):gQ B A W (some x) env v s':=h
theorem w8{a:Expr}{lo hi:Option Expr}{p pos:Pos}{xs ys:List V}{v1 v2:V}{s1 s2 s3:S}(I:Inv B W)(h:am B A W (eval a env) (.tup xs) s1)
  (h2:∀W1,W1.s=s1->Inv B W1->Step (λ_=>False) W W1->gQ B A W1 lo env v1 s2)
  (h3:∀W2,W2.s=s2->Inv B W2->Step (λ_=>False) W W2->gQ B A W2 hi env v2 s3) (hs:slice xs v1 v2=some ys):
  am B A W (eval (.Subscript a (.Slice lo hi none p) pos) env) (.tup ys) s3:=by
 refine x03 (pX hs) λD y c=>?_
 subst c
 refine wpAny_bind (wq I h λx W1 H K f C1 P=>?_)
 refine wpAny_bind (wpAny_holding ?_)
 refine wpAny_bind (wq K (h2 W1 H K f) λi W2 w L st2 U C=>?_)
 refine wpAny_bind (wpAny_holding (wq L (h3 W2 w L (f.trans st2)) λj d v M st3 N J=>?_))
 refine wpAny_bind (wpAny_holding (wpAny_pure ?_))
 have l:=(P.mono U).mono N
 try clear P
 obtain⟨t,e,k,rfl,hf,R,Y,Z⟩:=dr l
 refine wpAny_newObj_type (wpAny_bind (wpAny_standAt ?_))
 refine x02 (M.ext (sh':={d.sh with heap:=d.h.push {cls:=.type "slice",data:=.fields #[i,j,.none]}}) (F':=d.g.F) (λb o q=>Heap.get?_push_of_some _ q) (λb q=>.inl q) (λb q=>q) ⟨rfl,rfl⟩) λI4 n=>?_
 have r:=n.carry M λ_ q=>q.elim
 have u:(d.h.push {cls:=.type "slice",data:=.fields #[i,j,.none]}).get? d.h.objs.size=some {cls:=.type "slice",data:=.fields #[i,j,.none]}:=Heap.get?_push_size _ rfl
 have m:(d.h.push {cls:=.type "slice",data:=.fields #[i,j,.none]}).get? t=some ⟨.type "tuple",none,.seq e k, #[]⟩:=Heap.get?_push_of_some _ R
 have Q:({d.sh with heap:=d.h.push {cls:=.type "slice",data:=.fields #[i,j,.none]}}:Shared).TypeIs (.ref t) "tuple" :=i12 _ m rfl
 have hg:=oK (A:=A) I4 (l.mono r) m (Z.mono r) Y u D y ((C.mono N).mono r) (J.mono r)
 refine tail_any Q slot_tuple_getitem.lookup (wpAny_mono hg (λz X T=>?_) λ_ _ q=>q) rfl
 have O:=T.trans n
 rw [v] at O
 exact(O.trans (st2.trans st3)).trans f
end
noncomputable def exG(f:List V->S->Option (Fl×List V×S))(x:Nat)(src:V)(all:List V):List V->List V->S->Option (Fl×List V×S)
 |[],ρ,s=>some (.next,ρ,s)
 |v::r,ρ,s=>nx (f (lset ρ x v) s) λρ s=>if iter? s src=some all then exG f x src all r ρ s else none
theorem yf{f:List V->S->Option (Fl×List V×S)}{x:Nat}{src:V}{all:List V}{s0:S}(h0:iter? s0 src=some all){l:List V}:∀ {ρ:List V} {s:S} {r:Fl×List V×S},exF f x src all l ρ s=some r->exG f x src all l ρ s=some r:=by
 induction l with
 |nil=>exact id
 |cons v q ih=>
  exact λh=>nE h (λc a e h=>iE h λb h=>jx e ((if_pos (dG h0 b)).trans (ih h))) λv c a e h=>(qY e).trans (congrArg some h)
section
variable {prog:Program}{w:World}{B:Base prog w}
variable {A:Around}{n:Nat}{W:Mo}{env:Env}{ctx:List (Str×Nat)}{ks:List (Str×NameKind)}{ρ:List V}
inductive Ap(B:Base prog w)(W1:Mo)(env:Env)(ctx:List (Str×Nat))(ks:List (Str×NameKind))(J:Addr)(src:V)(vs:Value)(all:List V)(ev:List V->List V->S->Option (Fl×List V×S))(fin:Fl×List V×S)(k:Nat)(sh':Shared):Prop
 |mk (W':Mo) (j:Nat) (r ρ1:List V) (a1:W'.sh=sh') (a2:Inv B W') (a3:Step (bQ env ctx) W1 W') (a6:Rep B W' src vs) (a7:iter? W'.s src=some all) (a8:all.drop j=r) (a9:j<=all.length)
  (b1:ev r ρ1 W'.s=some fin) (b2:Own W' J) (b3:bv W' J src vs j) (b4:az B env ctx ks ρ1 W') (b5:k=r.length+1)
theorem xk{nm:Str}{p pos:Pos}{x:Nat}{iter:Expr}{body:List Stmt}{src:V}{all:List V}{s1 s':S}{fl:Fl}{ρ':List V}{f:List V->S->Option (Fl×List V×S)}(hh:A.handled=none)(I:Inv B W)(E:az B env ctx ks ρ W)(hinj:bk ctx)
  (hx:ctx.lookup nm=some x) (hk:ks.lookup nm=some .local \/ks.lookup nm=some .cell) (hs:∀x,foldedSetIterable iter env x=pure x) (hsrc:am B A W (eval iter env) src s1) (hit:iter? s1 src=some all) (hev:exG f x src all all ρ s1=some (fl,ρ',s'))
  (hbody:∀W' ρ1 fl ρ2 s2,Inv B W'->az B env ctx ks ρ1 W'->f ρ1 W'.s=some (fl,ρ2,s2)->au B A env ctx ks W' (execs body env) fl ρ2 s2):
  au B A env ctx ks W (exec (.For (.Name nm p) iter body [] pos) env) fl ρ' s':=by
 refine wpAny_For (wq I hsrc λvs W1 c4 I1 P C1 hv=>?_) hs
 try clear hsrc
 subst c4
 have E1:=E.step I P
 refine wpAny_mono (kh I1 hv hit) (λit c2 h=>?_) λ_ _ q=>q
 obtain⟨J,W2,rfl,rfl,N,I2,st2,hJ,H,c3⟩:=h
 have w:∀b,bQ env ctx b->b≠J:=by
  rintro b T rfl
  refine(T).elim (λq=>?_) (λi=>?_)
  ·obtain⟨o,U⟩:=E1.own.isSome
   rw [<-q,H] at U;exact nn U
  ·refine x23 i λa8 z hz q1 q2=>?_
   rw [E.names] at q1
   refine x23 (E1.cell a8 z hz q1) λcc v0 h3 h4 _=>?_
   rw [q2] at h3;obtain rfl:=Option.some.inj h3
   obtain⟨o,U⟩:=h4.isSome
   rw [H] at U;exact nn U
 refine codeAny_forLoop_any (Ap B W1 env ctx ks J src vs all (exG f x src all) (fl,ρ',s')) ?_ (all.length+1)
  ⟨W2,0,all,ρ,rfl,I2,st2.mono λb q _=>q.elim,hv.mono (st2.carry I1 λ_ q=>q.elim),by exact N▸hit,rfl,Nat.zero_le _,by exact N▸hev,hJ,c3,E1.step I1 st2,rfl⟩
 intro k e6 g
 obtain⟨W',j,r,ρ1,rfl,I',st,Q,t,hr,hj,l,n,F,hE,rfl⟩:=g
 cases r with
 |nil=>
  have D:all.length=j:=by
   have:=congrArg List.length hr
   simp at this;lia
  refine z3 (sp3 l) λa c e=>?_
  subst a
  subst c
  subst e
  refine eH (wpAny_mono (ox hh I1 st H I' Q t n F D) (λr c2 h=>?_) λ_ _ q=>q)
  obtain⟨X,rfl,rfl,h2,h3,h4,C,h7,h8⟩:=h
  refine wpAny_execs_nil ?_
  exact⟨X,rfl,h2,h3,(P.mono λb q _=>q.elim).trans h4,rfl,hE.stepOw (Ow:=λ_=>False) C (λb o T q _=>h8 b o (w b T) q) λb T a3=>h7 b a3 (w b T)⟩
 |cons v r=>
  have D:all[j]?=some v:=by
   have:(all.drop j)[0]?=some v:=hr▸rfl
   simpa using this
  have a0:j<all.length:=(List.getElem?_eq_some_iff.mp D).1
  have d4:all.drop (j+1)=r:=by
   have:=congrArg List.tail hr
   simpa using this
  refine eH (wpAny_mono (lF I' Q t n F D) (λrr c2 h=>?_) λ_ _ q=>q)
  obtain⟨y,X,rfl,rfl,s3,I3,st3,e0,L⟩:=h
  have C3:=st3.carry I' λb q=>q▸n.1
  have d3:az B env ctx ks ρ1 X:=hE.stepBut I' st3 (λb q=>q▸n.1) w
  dsimp only
  refine wpAny_pure ?_
  refine eH (wpAny_assign_Name (wpAny_mono (cU I3 d3 hinj hx hk e0) (λ_ j2 h=>?_) λ_ _ q=>q))
  obtain⟨R,d,⟨a7,i1⟩,rfl,s4,I4,c0,C4,a6,k0,e3⟩:=h
  have Z:=n.step st3
  have c5:Own R J:=Z.step c0
  have a5:bv R J src vs (j+1):=L.keep λo q=>e3 J o (λz=>w d a7 z.symm) q
  have M:Step (bQ env ctx) W1 R:=by
   have x1:Step (λb=>b=J\/bQ env ctx b) W1 W':=st.mono λb q _=>.inr q
   have x2:Step (λb=>b=J\/bQ env ctx b) W' X:=st3.mono λb q _=>.inl q
   have x3:Step (λb=>b=J\/bQ env ctx b) X R:=c0.mono λb q _=>.inr (q▸a7)
   exact((x1.trans x2).trans x3).mono λb q hq=>by
    try clear x3;try clear x1;try clear Z;try clear L;try clear st3;try clear h7;try clear X;try clear e;try clear c;try clear a;try clear D;try clear F;try clear n;try clear hj;try clear hr;try clear t;try clear I';try clear e6;try clear zero_le;try clear h4;try clear h3;try clear v0;try clear cc;try clear q2;try clear q1;try clear a8;try clear x2;try clear U;try clear hz;try clear i;try clear hE;try clear c3;try clear hJ;try clear st2;try clear I2;try clear N;try clear W2;try clear h2;try clear E1;try clear hv;try clear C1;try clear I1;try clear c4;try clear W1;try clear vs;try clear T;try clear hev;try clear hit;try clear hsrc;try clear hs;try clear hk;try clear hx;try clear C;try clear hinj;try clear k;try clear az;try clear I;try clear hh;try clear ρ';try clear fl;try clear s';try clear s1;try clear all;try clear src;try clear st;try clear y;try clear E;try clear iter;try clear pos;try clear nm;try clear d;try clear p
    rcases q with rfl|q
    ·rw [H] at hq;exact ff hq
    ·exact q
  have d7:R.s=W'.s:=s4.trans s3
  have go:∀K ρ2 Y,f (lset ρ1 x v) W'.s=some (K,ρ2,Y)->au B A env ctx ks R (execs body env) K ρ2 Y:=λK ρ2 Y hf=>hbody R _ K ρ2 Y I4 a6 (by exact d7▸hf)
  refine nE l (λρ2 Y hf l=>iE l λc1 l=>?_) λu ρ2 Y hf l=>?_
  ·refine eH (wpAny_mono (go _ _ _ hf) (λfm f0 h=>?_) λ_ _ q=>q)
   obtain⟨W5,rfl,O,I5,m,rfl,e7⟩:=h
   subst O
   have C5:=m.carry I4 (bQ.inF a6)
   exact⟨r.length+1,Nat.lt_succ_self _,W5,j+1,r,ρ2,rfl,I5,M.trans m,((Q.mono C3).mono C4).mono C5,c1,d4,a0,l,c5.step m,
    a5.keep λo q=>m.keep J o q c5.2.2 (λz=>w J z rfl),e7,rfl⟩
  ·cases l
   refine eH (wpAny_mono (go _ _ _ hf) (λfm f0 h=>?_) λ_ _ q=>q)
   obtain⟨W5,rfl,O,I5,m,xv,rfl,e4⟩:=h
   exact⟨W5,rfl,O,I5,(P.mono λb q _=>q.elim).trans (M.trans m),xv,rfl,e4⟩
inductive Cc(B:Base prog w)(W:Mo)(env:Env)(ctx:List (Str×Nat))(ks:List (Str×NameKind))(ev:Nat->List V->S->Option (Fl×List V×S))(fin:Fl×List V×S)(k:Nat)(sh':Shared):Prop
 |mk (W':Mo) (ρ1:List V) (a1:W'.sh=sh') (a2:Inv B W') (a3:Step (bQ env ctx) W W') (a6:ev k ρ1 W'.s=some fin) (a7:az B env ctx ks ρ1 W')
theorem tw{test:Expr}{body:List Stmt}{pos:Pos}{N:Nat}{s':S}{fl:Fl}{ρ':List V}{c:List V->S->Option (V×S)}{f:List V->S->Option (Fl×List V×S)}(I:Inv B W)(E:az B env ctx ks ρ W)
  (hev:exW c f N ρ W.s=some (fl,ρ',s'))
  (htest:∀W' ρ1 v b s2,Inv B W'->az B env ctx ks ρ1 W'->c ρ1 W'.s=some (v,s2)->truth s2 v=some b->Truth B A W' (isTrue test env (eval test env)) b s2)
  (hbody:∀W' ρ1 fl ρ2 s2,Inv B W'->az B env ctx ks ρ1 W'->f ρ1 W'.s=some (fl,ρ2,s2)->au B A env ctx ks W' (execs body env) fl ρ2 s2):
  au B A env ctx ks W (exec (.While test body [] pos) env) fl ρ' s':=by
 refine wpAny_While ?_
 refine codeAny_whileLoop (Cc B W env ctx ks (exW c f) (fl,ρ',s')) ?_ N ⟨W,ρ,rfl,I,.refl W,hev,E⟩
 intro k Q i
 obtain⟨W',ρ1,rfl,F,O,j,H⟩:=i
 cases k with
 |zero=>exact nn j
 |succ k=>
  refine bE j λv s2 P j=>oE j λb L j=>eH (wq F (htest W' ρ1 v b s2 F H P L) λM p r w st2 T e=>?_)
  subst e
  subst r
  have o:=H.step F st2
  have l:Step (bQ env ctx) W p:=O.trans (st2.mono λb q _=>q.elim)
  cases M with
  |false=>
   refine z3 (sp3 j) λa d g=>?_
   subst a
   subst d
   subst g
   exact wpAny_execs_nil ⟨p,rfl,rfl,w,l,rfl,o⟩
  |true=>
   refine nE j (λρ2 J D j=>?_) λu ρ2 J D j=>?_
   ·refine eH (wpAny_mono (hbody p ρ1 _ ρ2 J w o D) (λK z h=>?_) λ_ _ q=>q)
    obtain⟨y,rfl,n,C,m,rfl,x⟩:=h
    subst n
    exact⟨k,Nat.lt_succ_self _,y,ρ2,rfl,C,l.trans m,j,x⟩
   ·cases j
    refine eH (wpAny_mono (hbody p ρ1 _ _ _ w o D) (λK z h=>?_) λ_ _ q=>q)
    obtain⟨y,rfl,n,C,m,R,rfl,t⟩:=h
    exact⟨y,rfl,n,C,l.trans m,R,rfl,t⟩
theorem nS{x:Nat}{nm:Str}(hx:ctx.lookup nm=some x)(hk:ks.lookup nm=some .local \/ks.lookup nm=some .cell)
  (E:az B env ctx ks ρ W) (I:Inv B W) (hu:lget ρ x≠ .undef):
  am B A W (loadName env nm) (lget ρ x) W.s:=by
 refine(hk).elim (λhk=>?_) (λhk=>?_)
 ·refine x12 E.loc λm h i=>?_
  refine x12 (i nm x hx hk hu) λd b e=>?_
  exact wpAny_loadName_local E.kind (by unfold Env.kindOf;exact E.names▸hk) (h) b (Post.here I e)
 ·refine x24 (E.cell nm x hx hk) λc k b e j f=>?_
  refine x12 (f hu) λd a g=>?_
  try clear f
  subst a
  exact wpAny_loadName_cell E.kind (by unfold Env.kindOf;exact E.names▸hk) b (j) (Post.here I g)
theorem lA:∀ {l:List V} {x:Nat},lset l x (lget l x)=l
 |[],_=>rfl
 |_::_,0=>rfl
 |_::r,x+1=>by simp only [lget,lset,lA (l:=r)]
theorem au.last{x:Nat}{u:V}{nm:Str}{y:Value}{W1:Mo}(st1:Step (bQ env ctx) W W1)(I1:Inv B W1)(E1:az B env ctx ks ρ W1)(hinj:bk ctx)(hx:ctx.lookup nm=some x)(hk:ks.lookup nm=some .local \/ks.lookup nm=some .cell)(hu:Rep B W1 u y):
  wpAny (model prog w) A (storeName env nm y) (λ_=>tf B (bQ env ctx) W W1.s (yr B env ctx ks .next (lset ρ x u)) .next) (λ_ _=>False) W1.sh:=
 wpAny_mono (cU I1 E1 hinj hx hk hu) (λ_ g h=>by
  obtain⟨f,d,⟨c,_⟩,rfl,e,i,st2,j,a,_⟩:=h
  exact⟨f,rfl,e,i,st1.trans (st2.mono λb q _=>q▸c),rfl,a⟩) λ_ _ q=>q
theorem se{nm:Str}{px pos:Pos}{value:Expr}{x:Nat}{v:V}{s':S}(I:Inv B W)(E:az B env ctx ks ρ W)(hinj:bk ctx)(hx:ctx.lookup nm=some x)(hk:ks.lookup nm=some .local \/ks.lookup nm=some .cell)
  (hv:am B A W (eval value env) v s') (hs:swapsWith value (some (.Name nm px)) pos.line env=pure false):
  au B A env ctx ks W (exec (.Assign [.Name nm px] value pos) env) .next (lset ρ x v) s':=by
 refine wpAny_Assign_Name (wq I hv λy m c e a l k=>?_) hs
 refine wpAny_mono (au.last (a.mono λb q _=>q.elim) e (E.step I a) hinj hx hk k) (λ_ f h=>?_) λ_ _ q=>q
 obtain⟨j,rfl,i,g,st2,d⟩:=h
 exact⟨j,rfl,i.trans c,g,st2,d⟩
theorem uO{value:Expr}{pos:Pos}{v:V}{s':S}(I:Inv B W)(E:az B env ctx ks ρ W)(hv:am B A W (eval value env) v s')(hsm:small v=true)
  (hi:interactive env=false) (hs:swapsWith value none pos.line env=pure false):
  au B A env ctx ks W (exec (.Expr value pos) env) .next ρ s':=by
 refine wpAny_Expr (wq I hv λy e f g c h d=>?_) hi hs
 have a:tf B (bQ env ctx) W s' (yr B env ctx ks .next ρ) .next e.sh:=
  ⟨e,rfl,f,g,c.mono λb q _=>q.elim,rfl,E.step I c⟩
 cases v with
 |none=>subst d;exact a
 |bool b=>subst d;exact a
 |int i=>obtain⟨t,rfl⟩:=d;exact a
 |_=>exact ff hsm
theorem w9{value:Expr}{pos:Pos}{v:V}{s':S}{ρ':List V}(I:Inv B W)(hv:am B A W (eval value env) v s'):
  au B A env ctx ks W (exec (.Return (some value) pos) env) (.ret v) ρ' s':=by
 refine wpAny_Return_some (wq I hv λy e c d a g f=>?_)
 exact⟨e,rfl,c,d,a.mono λb q _=>q.elim,y,rfl,f⟩
theorem uJ{pos:Pos}{ρ':List V}(I:Inv B W):
  au B A env ctx ks W (exec (.Return none pos) env) (.ret .none) ρ' W.s:=
 wpAny_Return_none ⟨W,rfl,rfl,I,.refl W,.none,rfl,rfl⟩
theorem xd(I:Inv B W)(E:az B env ctx ks ρ W):au B A env ctx ks W (execs [] env) .next ρ W.s:=
 wpAny_execs_nil ⟨W,rfl,rfl,I,.refl W,rfl,E⟩
theorem au.after{t:Sem Flow}{fl:Fl}{ρ':List V}{s':S}{W1:Mo}(st:Step (bQ env ctx) W W1)(h:au B A env ctx ks W1 t fl ρ' s'):
  wpAny (model prog w) A t (tf B (bQ env ctx) W s' (yr B env ctx ks fl ρ')) (λ_ _=>False) W1.sh:=
 wpAny_mono h (λf d h=>by
  obtain⟨c,rfl,b,a,st2,r⟩:=h
  exact⟨c,rfl,b,a,st.trans st2,r⟩) λ_ _ q=>q
theorem zf{test:Expr}{body orelse:List Stmt}{pos:Pos}{b:Bool}{s1 s':S}{fl:Fl}{ρ':List V}(I:Inv B W)(E:az B env ctx ks ρ W)(ht:Truth B A W (isTrue test env (eval test env)) b s1)
  (hb:∀W1,Inv B W1->az B env ctx ks ρ W1->W1.s=s1->au B A env ctx ks W1 (execs (if b then body else orelse) env) fl ρ' s'):
  au B A env ctx ks W (exec (.If test body orelse pos) env) fl ρ' s':=by
 refine wpAny_If (wq I ht λc W1 e f a g d=>?_)
 try clear ht
 subst d
 have:=hb W1 f (E.step I a) e
 cases c with
 |true=>exact au.after (a.mono λb q _=>q.elim) this
 |false=>exact au.after (a.mono λb q _=>q.elim) this
theorem kM{st:Stmt}{rest:List Stmt}{s1 s':S}{fl:Fl}{ρ1 ρ':List V}(h1:au B A env ctx ks W (exec st env) .next ρ1 s1)
  (h2:∀W1,Inv B W1->az B env ctx ks ρ1 W1->W1.s=s1->au B A env ctx ks W1 (execs rest env) fl ρ' s'):
  au B A env ctx ks W (execs (st::rest) env) fl ρ' s':=by
 refine wpAny_execs_cons (wpAny_mono h1 (λf c h=>?_) λ_ _ q=>q)
 obtain⟨W1,rfl,b,d,a,rfl,e⟩:=h
 exact au.after a (h2 W1 d e b)
theorem lZ{st:Stmt}{rest:List Stmt}{s':S}{v:V}{ρ1 ρ':List V}(h1:au B A env ctx ks W (exec st env) (.ret v) ρ1 s'):
  au B A env ctx ks W (execs (st::rest) env) (.ret v) ρ' s':=by
 refine wpAny_execs_cons (wpAny_mono h1 (λf c h=>?_) λ_ _ q=>q)
 obtain⟨g,rfl,b,e,a,x,rfl,d⟩:=h
 exact⟨g,rfl,b,e,a,x,rfl,d⟩
theorem nQ{p:Prog}{nC:Nat}(X:Facts B p nC){o value:Expr}{px pos:Pos}{a:Nat}{v ov:V}{s1 s2 s':S}(I:Inv B W)(E:az B env ctx ks ρ W)(hv:am B A W (eval value env) v s1)
  (ho:∀W1,Inv B W1->az B env ctx ks ρ W1->W1.s=s1->am B A W1 (eval o env) ov s2) (h:Mine.setAttr p.own s2 ov a v=some s')
  (hs:swapsWith value (some (.Attribute o (B.nm a) px)) pos.line env=pure false):
  au B A env ctx ks W (exec (.Assign [.Attribute o (B.nm a) px] value pos) env) .next ρ s':=by
 refine plainObj_wpAny_Assign_Attribute (wq I hv λy W1 d f c r n=>?_) hs
 refine wq f (ho W1 f (E.step I c) d) λz u e g st2 l j=>?_
 refine wq g (nR X g j (n.mono l) (by exact e▸h)) λ_ k i m st3 t _=>?_
 exact⟨k,rfl,i,m,((c.trans st2).trans st3).mono λb q _=>q.elim,rfl,((E.step I c).step f st2).step g st3⟩
theorem pP{o i value:Expr}{px pos:Pos}{v ov iv:V}{s1 s2 s3 s':S}(hA:A.units+50<cLine)(I:Inv B W)(E:az B env ctx ks ρ W)(hv:am B A W (eval value env) v s1)
  (ho:∀W1,Inv B W1->az B env ctx ks ρ W1->W1.s=s1->am B A W1 (eval o env) ov s2)
  (hi:∀W1,Inv B W1->az B env ctx ks ρ W1->W1.s=s2->am B A W1 (eval i env) iv s3) (h:Mine.setItem s3 ov iv v=some s')
  (hs:swapsWith value (some (.Subscript o i px)) pos.line env=pure false):
  au B A env ctx ks W (exec (.Assign [.Subscript o i px] value pos) env) .next ρ s':=by
 refine wpAny_Assign_Subscript (wq I hv λy W1 e g a H D=>?_) hs
 have p:=E.step I a
 refine wq g (ho W1 g p e) λz x f j st2 C u=>?_
 have n:=p.step g st2
 refine wq j (hi x j n f) λk J d l st3 m r=>?_
 refine wq l (i6 l hA (u.mono m) r ((D.mono C).mono m) (by exact d▸h)) λ_ t w F c K _=>?_
 exact⟨t,rfl,w,F,(((a.trans st2).trans st3).trans c).mono λb q _=>q.elim,rfl,(n.step j st3).step l c⟩
theorem sH{op:Op}{a b r:Int}{x y:Value}(I:Inv B W)(hop:op=.add\/op=.bor)(hx:Rep B W (.int a) x)(hy:Rep B W (.int b) y)(h:lf op (.int a) (.int b)=some (.int r)):
  am B A W (inplaceOp (tS op) x y) (.int r) W.s:=by
 obtain⟨t,rfl⟩:=hx
 obtain⟨u,rfl⟩:=hy
 rcases hop with rfl|rfl
 ·cases V.int.inj (Option.some.inj (show some (V.int (a+b))=some (V.int r) from h))
  exact PyProof.Rows.iadd_int (Post.same I rfl rfl rfl λ_ _ _=>⟨_,rfl⟩)
 ·obtain⟨f,h⟩:=cw (show(if(a=0\/a=1)/\(b=0\/b=1) then some (V.int (max a b)) else none)=some (V.int r) from h)
  ·cases V.int.inj h
   refine PyProof.Rows.ior_int (Post.same I rfl rfl rfl λ_ _ _=>?_)
   have e:Builtin.bitOr a b=max a b:=by
    obtain⟨d,c⟩:=f
    rcases d with rfl|rfl<;>rcases c with rfl|rfl<;>rfl
   exact e▸⟨_,rfl⟩
end
theorem ft:isSeqSlot (some (.builtin "list.__iadd__"))=true:=by decide+kernel
section
variable {M:Model}{A:Around}{E:Value->Shared->Prop}{s:Shared}
theorem hZ{a b:Value}{Q:Value->Shared->Prop}(ha:s.TypeIs a "list")(hb:s.TypeIs b "list")(hc:wpAny M A (call (.builtin "list.__iadd__") [a,b]) Q E s):wpAny M A (inplaceOp .Add a b) Q E s:=by
 refine wpAny_holding ?_
 have c:fillsInplaceSlot (.type "list") "add" (Operator.Add==.Add)=pure false:=by
  show(typeLookup (.type "list") (dunderI "add")>>=λe=>pure (e.isSome&& !isSeqSlot e))=pure false
  rw [PySem.F.slot_list_iadd.lookup,pure_bind,ft];rfl
 have d:seqSlot? (.type "list") (dunderI "add")=pure (some (.builtin "list.__iadd__")):=PyProof.Rows.seqSlot_of PySem.F.slot_list_iadd.lookup ft
 refine wpAny_bind (wpAny_typeOf ha (wpAny_bind (wpAny_of_eq c ?_)))
 refine wpAny_bind (binaryOp1_none ha hb noFill_list_add ?_)
 refine wpAny_bind (wpAny_of_eq d ?_)
 exact wpAny_bind (wpAny_rule hc)
end
section
variable {prog:Program}{w:World}{B:Base prog w}
variable {A:Around}{n:Nat}{W:Mo}{env:Env}{ctx:List (Str×Nat)}{ks:List (Str×NameKind)}{ρ:List V}
theorem t6{o:V}{l m:List V}{x y:Value}{s':S}(I:Inv B W)(hx:Rep B W o x)(hy:Rep B W (.lst m) y)(hob:W.s.ob o=some (.list l))(hnt:aD m=true)(hz:l.length+m.length<=lim)
  (h:W.s.put o (.list (l++m))=some s'):am B A W (inplaceOp .Add x y) o s':=by
 have z:=cu
 obtain⟨a,d,rfl,M,j,w,c,q⟩:=cC I hx hob
 obtain⟨b,f,rfl,J,p,e,i⟩:=dR hy
 have O:=q.size
 have N:=i.size
 obtain⟨k,g⟩:=id w
 obtain⟨H,n⟩:=id p
 refine hZ ⟨_,g,rfl⟩ ⟨_,n,rfl⟩ (call_meets PySem.F.slot_list_iadd ⟨_,g,rfl⟩ PySem.F.entry_list_iadd (PySem.F.args_list_iadd_2 _ _)
  (PySem.AutoSeq1.list___iadd___list_list_0 a j k b f H ?_ (by lia) (by omega)) ⟨g,n,?_⟩)
 ·have:Builtin.List.listTooLong (j.size+f.size)=false:=by unfold Builtin.List.listTooLong;rw [decide_eq_false_iff_not];omega
  simp [this]
 have r:=dC g (λK=>K++f)
 refine x12 (I.putAt hx hob (o':=.list (l++m)) rfl rfl (by have:=I.cleanOb hob;simp only [Ob.clean] at this ⊢;simp only [cl,this,hnt];rfl)
  (Heap.SameBut.update ..) (by obtain⟨k,g⟩:=r;rw [g];rfl) λL C D d=>⟨_,D▸r,by simp;omega,by simp only [Array.toList_append];exact(q.mono C).append (i.mono C)⟩) λv t u=>?_
 rw [h] at t;obtain rfl:=Option.some.inj t
 exact u rfl ⟨rfl,rfl⟩ λ_ C=>hx.mono C
theorem pT{nm:Str}{px pos:Pos}{value:Expr}{x:Nat}{op:Op}{a b r:Int}{s':S}(I:Inv B W)(E:az B env ctx ks ρ W)(hinj:bk ctx)(hx:ctx.lookup nm=some x)(hk:ks.lookup nm=some .local \/ks.lookup nm=some .cell)
  (hop:op=.add\/op=.bor) (ha:lget ρ x=.int a) (hv:∀W1,Inv B W1->az B env ctx ks ρ W1->W1.s=W.s->am B A W1 (eval value env) (.int b) s') (h:lf op (.int a) (.int b)=some (.int r)):
  au B A env ctx ks W (exec (.AugAssign (.Name nm px) (tS op) value pos) env) .next (lset ρ x (.int r)) s':=by
 refine wpAny_AugAssign_Name (wpAny_mono (nS hx hk E I (by exact ha▸V.noConfusion)) (λy v d=>?_) λ_ _ q=>q)
 obtain⟨W1,rfl,j,e,c,L,H⟩:=Post.elim I d
 have i:=E.step I c
 refine wpAny_mono (hv W1 e i j) (λz t d=>?_) λ_ _ q=>q
 obtain⟨N,rfl,o,f,st2,D,n⟩:=Post.elim e d
 refine wq f (sH f hop (ha▸H.mono D) n h) λu M l F st3 K w=>?_
 refine wpAny_mono (au.last (((c.trans st2).trans st3).mono λb q _=>q.elim) F ((i.step e st2).step f st3) hinj hx hk w) (λ_ k d=>?_) λ_ _ q=>q
 obtain⟨m,rfl,p,J,g,_,C⟩:=d
 exact⟨m,rfl,p.trans (l.trans o),J,g,rfl,C⟩
theorem nV{nm:Str}{px pos:Pos}{value:Expr}{x:Nat}{i:Nat}{l m:List V}{s1:S}(I:Inv B W)(E:az B env ctx ks ρ W)(hinj:bk ctx)(hx:ctx.lookup nm=some x)(hk:ks.lookup nm=some .local \/ks.lookup nm=some .cell)
  (ha:lget ρ x=.ref i) (hv:∀W1,Inv B W1->az B env ctx ks ρ W1->W1.s=W.s->am B A W1 (eval value env) (.lst m) s1) (hl:s1.perm[i]?=some (.list l)) (hnt:aD m=true) (hz:l.length+m.length<=lim):
  au B A env ctx ks W (exec (.AugAssign (.Name nm px) .Add value pos) env) .next ρ {s1 with perm:=s1.perm.set i (.list (l++m))}:=by
 refine wpAny_AugAssign_Name (wpAny_mono (nS hx hk E I (by exact ha▸V.noConfusion)) (λy w f=>?_) λ_ _ q=>q)
 obtain⟨W1,rfl,d,g,a,M,J⟩:=Post.elim I f
 have o:=E.step I a
 refine wq g (hv W1 g o d) λz D k h st2 F c=>?_
 have e:Rep B D (.ref i) y:=ha▸J.mono F
 refine wq h (t6 h e c (by exact k▸hl) hnt hz rfl) λu N r H st3 L C=>?_
 refine wpAny_mono (au.last (((a.trans st2).trans st3).mono λb q _=>q.elim) H ((o.step g st2).step h st3) hinj hx hk C) (λ_ p f=>?_) λ_ _ q=>q
 obtain⟨t,rfl,v,K,j,_,n⟩:=f
 refine⟨t,rfl,v.trans (r.trans (by exact(k)▸rfl)),K,j,rfl,?_⟩
 simp only [<-ha,lA] at n
 exact n
theorem pS{o i value:Expr}{px pos:Pos}{op:Op}{ov iv:V}{a b r:Int}{s1 s2 s3 s':S}(hA:A.units+50<cLine)(hop:op=.add\/op=.bor)(I:Inv B W)(E:az B env ctx ks ρ W)
  (ho:am B A W (eval o env) ov s1) (hi:∀W1,Inv B W1->az B env ctx ks ρ W1->W1.s=s1->am B A W1 (eval i env) iv s2) (hit:item s2 ov iv=some (.int a))
  (hv:∀W1,Inv B W1->az B env ctx ks ρ W1->W1.s=s2->am B A W1 (eval value env) (.int b) s3)
  (h:lf op (.int a) (.int b)=some (.int r)) (hs:Mine.setItem s3 ov iv (.int r)=some s')
  (hau:∀ov iv new,augStore i ov iv new=(do holding [new,ov,iv] (PySem.setItem ov iv new);release [new,ov,iv] [];pure .next)):
  au B A env ctx ks W (exec (.AugAssign (.Subscript o i px) (tS op) value pos) env) .next ρ s':=by
 refine wpAny_AugAssign_Subscript_any (wq I ho λy W1 x k d C1 K=>?_) hau
 have O:=E.step I d
 refine wq k (hi W1 k O x) λz W2 e m st2 J N=>?_
 have T:=O.step k st2
 refine x24 (nT m hA (K.mono J) N (by exact e▸hit)) λ_ _ _ _ _ D=>?_
 refine wq m D λu Q j n st3 M Y=>?_
 have H:=T.step m st3
 refine wq n (hv Q n H (j.trans e)) λv W4 l F g p C=>?_
 have Z:=H.step n g
 refine wq F (sH F hop (Y.mono p) C h) λnw W5 w t c L P=>?_
 refine wq t (i6 t hA ((((K.mono J).mono M).mono p).mono L) (((N.mono M).mono p).mono L) P (by rw [w,l];exact hs)) λ_ X R U f C6 _=>?_
 exact⟨X,rfl,R,U,(((((d.trans st2).trans st3).trans g).trans c).trans f).mono λb q _=>q.elim,rfl,(Z.step F c).step t f⟩
theorem pN{nm nm2:Str}{p1 p2 px pos:Pos}{k:Nat}{value:Expr}{x y:Nat}{a b:V}{s':S}(hh:A.handled=none)(I:Inv B W)(E:az B env ctx ks ρ W)(hinj:bk ctx)
  (hx:ctx.lookup nm=some x) (hk:ks.lookup nm=some .local \/ks.lookup nm=some .cell) (hx2:ctx.lookup nm2=some y) (hk2:ks.lookup nm2=some .local \/ks.lookup nm2=some .cell)
  (hv:am B A W (eval value env) (.tup [a,b]) s') (hs:swapsWithSole [.Tuple [.Name nm p1,.Name nm2 p2] k px] value pos.line env=pure false) (hw:swappedStores [.Tuple [.Name nm p1,.Name nm2 p2] k px] value env=pure none):
  au B A env ctx ks W (exec (.Assign [.Tuple [.Name nm p1,.Name nm2 p2] k px] value pos) env) .next (lset (lset ρ x a) y b) s':=by
 refine Assign_Tuple (wq I hv λv r D l c C1 hr=>?_) hs hw
 obtain⟨t,p,m,rfl,hf,K,hz,C⟩:=dr hr
 have Z:=C.size
 refine x23 C.two λu v e hu i=>?_
 ·skip
  refine PySem.wpAny_assign_Tuple hh (items:=p) ⟨_,K,rfl,_,rfl⟩ ‹_› rfl λw J=>?_
  refine e▸?_
  have n:∀b o,r.h.get? b=some o->w.get? b=some o:=λb o q=>J b o (by
   have:=Heap.lt_size q
   exact Nat.ne_of_lt this) (by exact q)
  refine x02 (l.ext (sh':={r.sh with heap:=w}) (F':=r.g.F) n (λb h=>.inl h) (λb h=>h) ⟨rfl,rfl⟩) λO st2=>?_
  have z:=st2.carry l λ_ q=>q.elim
  have Y:=(E.step I c).step l st2
  refine wpAny_assignInOrder_more (PySem.wpAny_assign_Name (wpAny_mono (cU (u:=a) O Y hinj hx hk (hu.mono z)) (λ_ U j=>?_) λ_ _ q=>q))
  obtain⟨N,d,⟨L,_⟩,rfl,H,P,st3,R,M,_⟩:=j
  have f:Step (bQ env ctx) W N:=((c.trans st2).mono λb q _=>q.elim).trans (st3.mono λb q _=>q▸L)
  refine wpAny_assignInOrder_more (PySem.wpAny_assign_Name (wpAny_mono (au.last (u:=b) f P M hinj hx2 hk2 ((i.mono z).mono R)) (λ_ Q j=>?_) λ_ _ q=>q))
  obtain⟨T,rfl,X,I4,s,_,E4⟩:=j
  exact wpAny_assignInOrder_none ⟨T,rfl,X.trans (H.trans D),I4,s,rfl,E4⟩
theorem kN{elt iter:Expr}{xn yn:Str}{px py:Pos}{ifs:List Expr}{scope:Scope}{pos spos:Pos}{x y:Nat}{src:V}{all l:List V}{s1 s2:S}{c:V->S->Option (Bool×S)}{f:V->S->Option (V×S)}
  (hh:A.handled=none) (I:Inv B W) (E:az B env ctx ks ρ W) (hinj:bk ctx) (K:eG ctx ks scope xn x) (hsrc:am B A W (eval iter env) src s1) (hit:iter? s1 src=some all) (hev:evG c f src all all s1=some (l,s2)) (hnt:aD l=true)
  (P:dM B A env ctx ks ρ scope xn x ifs elt c f) (hs:∀x,foldedSetIterable iter env x=pure x) (hy:ctx.lookup yn=some y) (hky:ks.lookup yn=some .local)
  (hsw:swapsWith (.ListComp elt [⟨.Name xn px,iter,ifs,0⟩] scope pos) (some (.Name yn py)) spos.line env=pure true):
  au B A env ctx ks W (exec (.Assign [.Name yn py] (.ListComp elt [⟨.Name xn px,iter,ifs,0⟩] scope pos) spos) env) .next (lset ρ y (.ref s2.perm.length)) {s2 with perm:=s2.perm++[.list l]}:=by
 simp only [exec_Assign_Name_used _ _ _ _ hsw]
 refine wpAny_bind (wpAny_standAt (wpAny_bind ?_))
 have i:∀n,(n,NameKind.free)∈scope.names->(env.cells.lookup n).isSome:=by
  intro n R
  obtain⟨H,y,hy⟩:=K.free n R
  refine(H).elim (λH=>?_) (λH=>?_)
  ·obtain⟨c,_,hc,_⟩:=E.cell n y hy H;rw [hc];rfl
  ·obtain⟨c,_,hc,_⟩:=E.free n y hy H;rw [hc];rfl
 refine wpAny_bind (wpAny_mono (wpAny_comprehension_free
  rfl hs (dj i) K.kind K.loc (wq I hsrc λvs W1 b1 I1 J C1 hv=>?_)) (λ_ s' hq=>wpAny_pure (wpAny_pure hq)) λ_ _ e=>e)
 subst b1
 have T:=E.step I J
 refine gN
  hh I1 T hinj K hv hit hev P ?_
 intro D C W' m ys a2 a3 a4 hD hC v Z j R hP hl hz
 obtain⟨Q,t,h2,I2,st2,C2,k,a7⟩:=a3.adopt a4 (o:=.list l) rfl hnt hD Z (λW' C e d=>⟨ys,by exact e▸hP,hz,hl.mono C⟩)
 have F:Rep B Q (.ref s2.perm.length) (.ref D):=by
  refine⟨by simp only [t,<-a2];simp,?_⟩
  simp only [<-a2,k]
 have E2:az B env ctx ks ρ Q:=T.step I1 st2
 have u:Own Q C:=a7 C hC (Ne.symm v)
 simp only [<-h2]
 refine wpAny_assign_Name (wpAny_mono (cU I2 E2 hinj hy (.inl hky) F) (λ_ e0 h=>?_) λ_ _ q=>q)
 obtain⟨W3,d,⟨_,Y⟩,rfl,s3,I3,st3,C3,E3,c0,U⟩:=h
 have Y:=Y hky
 subst Y
 have M:env.locals≠C:=λz=>by
  obtain⟨o,s⟩:=T.own.isSome
  rw [z,j] at s;exact nn s
 refine i12 m ((by unfold Mo.h;exact h2▸R:Q.h.Ns C m).at' (λo q=>U C o (Ne.symm M) q)) (λh' L=>?_)
 have N:Step (bQ env ctx) W1 W3:=(st2.mono λb q _=>q.elim).trans (st3.mono λb q _=>.inl q)
 obtain⟨W4,s4,O,c1,I4,a6,C4,a9⟩:=I1.drop I3 N (X:=λb=>b=C) (λb q=>q▸c0 C u) (λb q=>q▸j) (sh':={W3.sh with heap:=h'}) (λb o r q=>(L.2 b r).trans q) ⟨rfl,rfl⟩
 have g:∀b,bQ env ctx b->b≠C:=by
  intro b q z
  try clear c1;try clear u;try clear v;try clear hC;try clear Name;try clear w;try clear hsw;try clear hky;try clear lookup;try clear hy;try clear R;try clear hnt;try clear hev;try clear hit;try clear s';try clear hs;try clear hsrc;try clear C;try clear hinj;try clear ρ;try clear ks;try clear ctx;try clear env;try clear K;try clear az;try clear bQ;try clear W;try clear I;try clear A;try clear hh;try clear B;try clear s2;try clear s1;try clear all;try clear src;try clear spos;try clear pos;try clear scope;try clear f;try clear ifs;try clear py;try clear px;try clear yn;try clear y;try clear xn;try clear iter;try clear elt;try clear P;try clear d;try clear m;try clear c;try clear n;try clear l;try clear e;try clear x
  subst z
  refine(q).elim (λq=>?_) (λa=>?_)
  ·exact M q.symm
  ·refine x23 a λnm z hz q1 q2=>?_
   rw [E.names] at q1
   refine x23 (T.cell nm z hz q1) λcc v0 h3 O _=>?_
   rw [q2] at h3;obtain rfl:=Option.some.inj h3
   obtain⟨o,s⟩:=O.isSome
   rw [j] at s;exact nn s
 refine⟨W4,O,s4.trans (s3.trans (t.trans (by exact(a2)▸rfl))),I4,(J.mono λb q _=>q.elim).trans a6,rfl,E3.stepOw (Ow:=λ_=>False) C4 (λb o r q _=>?_) λb r p=>a9 b p (g b r)⟩
 unfold Mo.h;exact O▸(L.2 b (g b r)).trans q
end
structure Tab where
 K:Frag
 fa:Nat->Addr
 ca:Nat->Addr
 nm:Nat->Str
 nC:Nat
noncomputable def slk{α:Type}:List (Str×α)->Str->Option α
 |[],_=>none
 |(k,v)::r,n=>if seqb n k then some v else slk r n
theorem jR{α:Type}{l:List (Str×α)}{n:Str}:slk l n=l.lookup n:=by
 induction l with
 |nil=>rfl
 |cons p r ih=>
  obtain⟨k,v⟩:=p
  show(if seqb n k=true then some v else slk r n)=(bif n==k then some v else r.lookup n)
  rw [ih,show(n==k)=seqb n k from dz.symm]
  cases seqb n k<;>rfl
noncomputable def cQ(ks:List (Str×NameKind))(n:Str)(k:Nat):Bool:=(slk ks n).elim false λx=>Nat.beq x.ctorIdx k
theorem bD{ks:List (Str×NameKind)}{n:Str}{x:NameKind}(h:cQ ks n x.ctorIdx=true):ks.lookup n=some x:=by
 refine jR▸?_
 have h:(slk ks n).elim false (λy=>Nat.beq y.ctorIdx x.ctorIdx)=true:=h
 cases q:slk ks n with
 |none=>replace h:=q▸h;exact ff h
 |some y=>
  replace h:=q▸h
  cases x<;>cases y<;>first|rfl|exact absurd h (by decide)
theorem md{a b:Bool}(h:(a||b)=true):a=true\/b=true:=by cases a;exact .inr h;exact .inl rfl
noncomputable def kj(ks:List (Str×NameKind))(n:Str):Bool:=cQ ks n 0||cQ ks n 1
noncomputable def rh(ks:List (Str×NameKind))(n:Str):Bool:=cQ ks n 0||(cQ ks n 1||cQ ks n 2)
noncomputable def iM(ks:List (Str×NameKind))(n:Str):Bool:=cQ ks n 4
noncomputable def at_(ctx:List (Str×Nat))(n:Str)(x:Nat):Bool:=(slk ctx n).elim false λy=>Nat.beq y x
noncomputable def eY(n:Str):Bool:= !seqb n bC&& !seqb n eo
theorem cR{α:Type}{f:α->Bool}{P:Option α->Prop}{o:Option α}(h:o.elim false f=true)(H:∀a,f a=true->P (some a)):P o:=match o,h with
 |some a,h=>H a h
theorem dX{ks:List (Str×NameKind)}{n:Str}(h:kj ks n=true):ks.lookup n=some .local \/ks.lookup n=some .cell:=(md h).imp bD bD
theorem sB{ks:List (Str×NameKind)}{n:Str}(h:(cQ ks n 1||cQ ks n 2)=true):ks.lookup n=some .cell\/ks.lookup n=some .free:=(md h).imp bD bD
theorem lH{ks:List (Str×NameKind)}{n:Str}(h:rh ks n=true):ks.lookup n=some .local \/ks.lookup n=some .cell\/ks.lookup n=some .free:=(md h).imp bD sB
theorem dK{ks:List (Str×NameKind)}{n:Str}(h:iM ks n=true):ks.lookup n=some .globalImplicit:=bD h
theorem cS{ctx:List (Str×Nat)}{n:Str}{x:Nat}(h:at_ ctx n x=true):ctx.lookup n=some x:=
 jR.symm.trans (cR (P:=λo=>o=some x) h λa h=>congrArg some (Nat.eq_of_beq_eq_true h))
theorem bN{n:Str}(h:eY n=true):seqb n bC=false/\seqb n eo=false:=by
 unfold eY at h
 simpa using h
noncomputable def rq(T:Tab)(n:Str)(a:Addr):Bool:=(nsIn T.K mainGlobals n).elim false λo=>o.elim false λv=>pD (λb=>Nat.beq b a) v
noncomputable def sM(T:Tab)(n:Str)(v:V):Bool:=(nsIn T.K mainGlobals n).elim false λo=>o.elim false λx=>qS T.K v x
noncomputable def bfB:BF->String->Bool
 |.len,s=>s=="len" |.sorted,s=>s=="sorted" |.any,s=>s=="any" |.all,s=>s=="all" |.isStr,s=>s=="isinstance" |.max,s=>s=="max"
 |.tuple,_=>false|.str,_=>false|.range,_=>false
noncomputable def bfT:BF->String->Bool
 |.tuple,s=>s=="tuple" |.str,s=>s=="str" |.range,s=>s=="range"
 |.len,_=>false|.sorted,_=>false|.any,_=>false|.all,_=>false|.isStr,_=>false|.max,_=>false
noncomputable def BL(b:BF):Value->Bool
 |.builtin s=>bfB b s
 |.type s=>bfT b s
 |_=>false
theorem Ai{b:BF}{s:String}(h:bfB b s=true):Value.builtin s=gD b:=by
 cases b<;>first|exact congrArg Value.builtin (eq_of_beq h)|exact ff h
theorem Ah{b:BF}{s:String}(h:bfT b s=true):Value.type s=gD b:=by
 cases b<;>first|exact congrArg Value.type (eq_of_beq h)|exact ff h
theorem xW{b:BF}{v:Value}(h:BL b v=true):v=gD b:=by
 cases v with
 |builtin s=>exact Ai h
 |type s=>exact Ah h
 |_=>exact ff h
noncomputable def vN:Str:="__name__"
noncomputable def wJ(T:Tab)(n:Str)(b:BF):Bool:=(nsIn T.K mainGlobals n).elim false (·.isNone)&& (bootBuiltins n).elim false (BL b)&& !seqb n vN
noncomputable def xH(o:Op)(p:Operator):Bool:=decide (p=tS o)
theorem me{o:Op}{p:Operator}(h:xH o p=true):p=tS o:=of_decide_eq_true h
noncomputable def yS(o:Cop)(p:CmpOp):Bool:=decide (p=sV o)
theorem wE{o:Cop}{p:CmpOp}(h:yS o p=true):p=sV o:=of_decide_eq_true h
noncomputable def du(x:Expr):Bool:= !Nat.beq x.ctorIdx 7
theorem gZ{x:Expr}(h:du x=true)(op:CmpOp):behindInMarks op x=false:=by
 cases x<;>first|rfl|exact ff h
theorem bO{x:Expr}(h:du x=true)(env:Env)(v:Value):foldedSetIterable x env v=pure v:=by
 cases x<;>first|rfl|exact ff h
noncomputable def oj(x:Expr):Bool:= !Nat.beq x.ctorIdx 25
noncomputable def jy(x:Expr):Bool:= !Nat.beq x.ctorIdx 8&& !Nat.beq x.ctorIdx 9&& !Nat.beq x.ctorIdx 10
noncomputable def pG(k:Const->Bool)(x:Expr):Bool:=if h:x.ctorIdx=19 then Expr.Constant.elim (motive_1:=λ_=>Bool) x h λc _ _=>k c else false
theorem rY{k:Const->Bool}{P:Expr->Prop}{x:Expr}(h:pG k x=true)(H:∀c a p,k c=true->P (.Constant c a p)):P x:=
 (dB h).elim λh q=>
 Expr.Constant.elim (motive_1:=λx=>∀h:x.ctorIdx=19,(Expr.Constant.elim (motive_1:=λ_=>Bool) x h λc _ _=>k c)=true->P x) x h (λc a p _ q=>H c a p q) h q
noncomputable def fh(k:Str->Bool)(x:Expr):Bool:=if h:x.ctorIdx=23 then Expr.Name.elim (motive_1:=λ_=>Bool) x h λn _=>k n else false
theorem dQ{k:Str->Bool}{P:Expr->Prop}{x:Expr}(h:fh k x=true)(H:∀n p,k n=true->P (.Name n p)):P x:=
 (dB h).elim λh q=>
 Expr.Name.elim (motive_1:=λx=>∀h:x.ctorIdx=23,(Expr.Name.elim (motive_1:=λ_=>Bool) x h λn _=>k n)=true->P x) x h (λn p _ q=>H n p q) h q
noncomputable def AT(k:Expr->Operator->Expr->Bool)(x:Expr):Bool:=if h:x.ctorIdx=2 then Expr.BinOp.elim (motive_1:=λ_=>Bool) x h λl o r _=>k l o r else false
theorem AS{k:Expr->Operator->Expr->Bool}{P:Expr->Prop}{x:Expr}(h:AT k x=true)(H:∀l o r p,k l o r=true->P (.BinOp l o r p)):P x:=
 (dB h).elim λh q=>
 Expr.BinOp.elim (motive_1:=λx=>∀h:x.ctorIdx=2,(Expr.BinOp.elim (motive_1:=λ_=>Bool) x h λl o r _=>k l o r)=true->P x) x h (λl o r p _ q=>H l o r p q) h q
noncomputable def vUn(k:UnaryOp->Expr->Bool)(x:Expr):Bool:=if h:x.ctorIdx=3 then Expr.UnaryOp.elim (motive_1:=λ_=>Bool) x h λo y _=>k o y else false
theorem AG{k:UnaryOp->Expr->Bool}{P:Expr->Prop}{x:Expr}(h:vUn k x=true)(H:∀o y p,k o y=true->P (.UnaryOp o y p)):P x:=
 (dB h).elim λh q=>
 Expr.UnaryOp.elim (motive_1:=λx=>∀h:x.ctorIdx=3,(Expr.UnaryOp.elim (motive_1:=λ_=>Bool) x h λo y _=>k o y)=true->P x) x h (λo y p _ q=>H o y p q) h q
noncomputable def AQ(k:Expr->List CmpOp->List Expr->Bool)(x:Expr):Bool:=if h:x.ctorIdx=15 then Expr.Compare.elim (motive_1:=λ_=>Bool) x h λl o r _=>k l o r else false
theorem AP{k:Expr->List CmpOp->List Expr->Bool}{P:Expr->Prop}{x:Expr}(h:AQ k x=true)(H:∀l o r p,k l o r=true->P (.Compare l o r p)):P x:=
 (dB h).elim λh q=>
 Expr.Compare.elim (motive_1:=λx=>∀h:x.ctorIdx=15,(Expr.Compare.elim (motive_1:=λ_=>Bool) x h λl o r _=>k l o r)=true->P x) x h (λl o r p _ q=>H l o r p q) h q
noncomputable def yC(k:BoolOp->List Expr->Bool)(x:Expr):Bool:=if h:x.ctorIdx=0 then Expr.BoolOp.elim (motive_1:=λ_=>Bool) x h λo xs _=>k o xs else false
theorem y9{k:BoolOp->List Expr->Bool}{P:Expr->Prop}{x:Expr}(h:yC k x=true)(H:∀o xs p,k o xs=true->P (.BoolOp o xs p)):P x:=
 (dB h).elim λh q=>
 Expr.BoolOp.elim (motive_1:=λx=>∀h:x.ctorIdx=0,(Expr.BoolOp.elim (motive_1:=λ_=>Bool) x h λo xs _=>k o xs)=true->P x) x h (λo xs p _ q=>H o xs p q) h q
noncomputable def vIf(k:Expr->Expr->Expr->Bool)(x:Expr):Bool:=if h:x.ctorIdx=5 then Expr.IfExp.elim (motive_1:=λ_=>Bool) x h λa b c _=>k a b c else false
theorem Cq{k:Expr->Expr->Expr->Bool}{P:Expr->Prop}{x:Expr}(h:vIf k x=true)(H:∀a b c p,k a b c=true->P (.IfExp a b c p)):P x:=
 (dB h).elim λh q=>
 Expr.IfExp.elim (motive_1:=λx=>∀h:x.ctorIdx=5,(Expr.IfExp.elim (motive_1:=λ_=>Bool) x h λa b c _=>k a b c)=true->P x) x h (λa b c p _ q=>H a b c p q) h q
noncomputable def y4(k:List Expr->Bool)(x:Expr):Bool:=if h:x.ctorIdx=25 then Expr.Tuple.elim (motive_1:=λ_=>Bool) x h λxs _ _=>k xs else false
theorem yw{k:List Expr->Bool}{P:Expr->Prop}{x:Expr}(h:y4 k x=true)(H:∀xs a p,k xs=true->P (.Tuple xs a p)):P x:=
 (dB h).elim λh q=>
 Expr.Tuple.elim (motive_1:=λx=>∀h:x.ctorIdx=25,(Expr.Tuple.elim (motive_1:=λ_=>Bool) x h λxs _ _=>k xs)=true->P x) x h (λxs a p _ q=>H xs a p q) h q
noncomputable def yA(k:List Expr->Bool)(x:Expr):Bool:=if h:x.ctorIdx=24 then Expr.List.elim (motive_1:=λ_=>Bool) x h λxs _=>k xs else false
theorem y7{k:List Expr->Bool}{P:Expr->Prop}{x:Expr}(h:yA k x=true)(H:∀xs p,k xs=true->P (.List xs p)):P x:=
 (dB h).elim λh q=>
 Expr.List.elim (motive_1:=λx=>∀h:x.ctorIdx=24,(Expr.List.elim (motive_1:=λ_=>Bool) x h λxs _=>k xs)=true->P x) x h (λxs p _ q=>H xs p q) h q
noncomputable def yB(k:List (Option Expr)->List Expr->Bool)(x:Expr):Bool:=if h:x.ctorIdx=6 then Expr.Dict.elim (motive_1:=λ_=>Bool) x h λa b _=>k a b else false
theorem y8{k:List (Option Expr)->List Expr->Bool}{P:Expr->Prop}{x:Expr}(h:yB k x=true)(H:∀a b p,k a b=true->P (.Dict a b p)):P x:=
 (dB h).elim λh q=>
 Expr.Dict.elim (motive_1:=λx=>∀h:x.ctorIdx=6,(Expr.Dict.elim (motive_1:=λ_=>Bool) x h λa b _=>k a b)=true->P x) x h (λa b p _ q=>H a b p q) h q
noncomputable def vLC(k:Expr->List Comprehension->Scope->Pos->Bool)(x:Expr):Bool:=if h:x.ctorIdx=8 then Expr.ListComp.elim (motive_1:=λ_=>Bool) x h λy g s p=>k y g s p else false
theorem Cp{k:Expr->List Comprehension->Scope->Pos->Bool}{P:Expr->Prop}{x:Expr}(h:vLC k x=true)(H:∀y g s p,k y g s p=true->P (.ListComp y g s p)):P x:=
 (dB h).elim λh q=>
 Expr.ListComp.elim (motive_1:=λx=>∀h:x.ctorIdx=8,(Expr.ListComp.elim (motive_1:=λ_=>Bool) x h λy g s p=>k y g s p)=true->P x) x h (λy g s p _ q=>H y g s p q) h q
noncomputable def uC(k:Expr->List Expr->List Keyword->Pos->Bool)(x:Expr):Bool:=if h:x.ctorIdx=16 then Expr.Call.elim (motive_1:=λ_=>Bool) x h λf xs kw p=>k f xs kw p else false
theorem uB{k:Expr->List Expr->List Keyword->Pos->Bool}{P:Expr->Prop}{x:Expr}(h:uC k x=true)(H:∀f xs kw p,k f xs kw p=true->P (.Call f xs kw p)):P x:=
 (dB h).elim λh q=>
 Expr.Call.elim (motive_1:=λx=>∀h:x.ctorIdx=16,(Expr.Call.elim (motive_1:=λ_=>Bool) x h λf xs kw p=>k f xs kw p)=true->P x) x h (λf xs kw p _ q=>H f xs kw p q) h q
noncomputable def r4(k:Expr->Str->Pos->Bool)(x:Expr):Bool:=if h:x.ctorIdx=20 then Expr.Attribute.elim (motive_1:=λ_=>Bool) x h λy n p=>k y n p else false
theorem pI{k:Expr->Str->Pos->Bool}{P:Expr->Prop}{x:Expr}(h:r4 k x=true)(H:∀y n p,k y n p=true->P (.Attribute y n p)):P x:=
 (dB h).elim λh q=>
 Expr.Attribute.elim (motive_1:=λx=>∀h:x.ctorIdx=20,(Expr.Attribute.elim (motive_1:=λ_=>Bool) x h λy n p=>k y n p)=true->P x) x h (λy n p _ q=>H y n p q) h q
noncomputable def tj(k:Expr->Expr->Bool)(x:Expr):Bool:=if h:x.ctorIdx=21 then Expr.Subscript.elim (motive_1:=λ_=>Bool) x h λa b _=>k a b else false
theorem nI{k:Expr->Expr->Bool}{P:Expr->Prop}{x:Expr}(h:tj k x=true)(H:∀a b p,k a b=true->P (.Subscript a b p)):P x:=
 (dB h).elim λh q=>
 Expr.Subscript.elim (motive_1:=λx=>∀h:x.ctorIdx=21,(Expr.Subscript.elim (motive_1:=λ_=>Bool) x h λa b _=>k a b)=true->P x) x h (λa b p _ q=>H a b p q) h q
noncomputable def y5(k:Option Expr->Option Expr->Option Expr->Bool)(x:Expr):Bool:=if h:x.ctorIdx=26 then Expr.Slice.elim (motive_1:=λ_=>Bool) x h λa b c _=>k a b c else false
theorem yx{k:Option Expr->Option Expr->Option Expr->Bool}{P:Expr->Prop}{x:Expr}(h:y5 k x=true)(H:∀a b c p,k a b c=true->P (.Slice a b c p)):P x:=
 (dB h).elim λh q=>
 Expr.Slice.elim (motive_1:=λx=>∀h:x.ctorIdx=26,(Expr.Slice.elim (motive_1:=λ_=>Bool) x h λa b c _=>k a b c)=true->P x) x h (λa b c p _ q=>H a b c p q) h q
noncomputable def v1{α:Type}(k:α->Bool):List α->Bool|[a]=>k a|[]=>false|_::_::_=>false
theorem v1E{α:Type}{k:α->Bool}{P:List α->Prop}:∀ {x:List α},v1 k x=true->(∀a,k a=true->P [a])->P x
 |[a],h,H=>H a h
 |[],h,_=>ff h
 |_::_::_,h,_=>ff h
noncomputable def fA{α:Type}(k:α->List α->Bool):List α->Bool|a::r=>k a r|[]=>false
theorem bT{α:Type}{k:α->List α->Bool}{P:List α->Prop}:∀ {x:List α},fA k x=true->(∀a r,k a r=true->P (a::r))->P x:=by
 intro b
 induction b with
 |cons a r bT=>
  exact @λh H=>H a r h
 |nil=>
  exact @λh _=>ff h
noncomputable def tR(b:Bool)(f:Expr->Bool):Option Expr->Bool|none=>b|some l=>f l
theorem fQ{α:Type}{x:List α}(h:x.isEmpty=true):x=[]:=List.isEmpty_iff.mp h
theorem eE{α:Type}{P:List α->Prop}{x:List α}(h:x.isEmpty=true)(H:P []):P x:=by obtain rfl:=fQ h;exact H
noncomputable def jG(k:Str->List Expr->Bool):Expr->Bool:=uC λf xs q _=>q.isEmpty&&fh (λn=>k n xs) f
theorem ju{k:Str->List Expr->Bool}{P:Expr->Prop}{x:Expr}(h:jG k x=true)(H:∀n p xs pos,k n xs=true->P (.Call (.Name n p) xs [] pos)):P x:=
 uB h λf xs q pos h=>(b2 h).elim λc a=>eE (P:=λq=>P (.Call f xs q pos)) c (dQ (P:=λf=>P (.Call f xs [] pos)) a λn p b=>H n p xs pos b)
noncomputable def pH(k:Expr->Str->Pos->List Expr->Pos->Bool):Expr->Bool:=uC λf xs q pos=>q.isEmpty&&r4 (λy n p=>k y n p xs pos) f
theorem rZ{k:Expr->Str->Pos->List Expr->Pos->Bool}{P:Expr->Prop}{x:Expr}(h:pH k x=true)(H:∀y n p xs pos,k y n p xs pos=true->P (.Call (.Attribute y n p) xs [] pos)):P x:=
 uB h λf xs q pos h=>(b2 h).elim λc a=>eE (P:=λq=>P (.Call f xs q pos)) c (pI (P:=λf=>P (.Call f xs [] pos)) a λy n p b=>H y n p xs pos b)
noncomputable def gz(k:Expr->Str->Expr->List Expr->Scope->Pos->Bool):Expr->Bool:=vLC λy g s p=>v1 (λc=>fh (λn=>decide (c.is_async=0)&&k y n c.iter c.ifs s p) c.target) g
theorem jF{k:Expr->Str->Expr->List Expr->Scope->Pos->Bool}{P:Expr->Prop}{x:Expr}(h:gz k x=true)(H:∀y n xp it ifs s p,k y n it ifs s p=true->P (.ListComp y [⟨.Name n xp,it,ifs,0⟩] s p)):P x:=
 Cp h λy g s p h=>v1E (P:=λg=>P (.ListComp y g s p)) h λc h=>by
  obtain⟨a,it,ifs,b⟩:=c
  refine dQ (P:=λa=>P (.ListComp y [⟨a,it,ifs,b⟩] s p)) h λn xp h=>(b2 h).elim λd h=>?_
  obtain rfl:b=0:=of_decide_eq_true d
  exact H y n xp it ifs s p h
noncomputable def wb:UnaryOp->Bool|.USub=>true|_=>false
theorem t5{o:UnaryOp}(h:wb o=true):o=.USub:=by cases o<;>first|rfl|exact ff h
noncomputable def yP:UnaryOp->Bool|.Not=>true|_=>false
theorem we{o:UnaryOp}(h:yP o=true):o=.Not:=by cases o<;>first|rfl|exact ff h
noncomputable def gj(e:E):Bool:=if h:e.ctorIdx=0 then E.lit.elim (motive_1:=λ_=>Bool) e h λv=>Nat.beq v.ctorIdx 1 else false
theorem mA{e:E}(h:gj e=true):e=.lit .none:=
 (dB h).elim λh q=>
 E.lit.elim (motive_1:=λe=>∀h:e.ctorIdx=0,(E.lit.elim (motive_1:=λ_=>Bool) e h λv=>Nat.beq v.ctorIdx 1)=true->e=.lit .none) e h (λv _ q=>V.none.elim (motive_1:=λv=>E.lit v=.lit .none) v (Nat.eq_of_beq_eq_true q) rfl) h q
noncomputable def oC:Lk->Bool|.frozen=>true|_=>false
theorem oB{k:Lk}(h:oC k=true):k=.frozen:=by cases k<;>first|rfl|exact ff h
noncomputable def sC:Dk->Bool|.str=>true|_=>false
theorem ri{k:Dk}(h:sC k=true):k=.str:=by cases k<;>first|rfl|exact ff h
noncomputable def mB:BF->Bool|.isStr=>true|_=>false
theorem rj{k:BF}(h:mB k=true):k=.isStr:=by cases k<;>first|rfl|exact ff h
noncomputable def yU(ctx:List (Str×Nat))(ks names:List (Str×NameKind))(xn:Str)(y:Str×NameKind):Bool:=
 bif Nat.beq y.2.ctorIdx 1 then false else bif Nat.beq y.2.ctorIdx 0 then cQ names y.1 0&& (seqb y.1 xn||(slk ctx y.1).isNone)
  else bif Nat.beq y.2.ctorIdx 2 then(cQ ks y.1 1||cQ ks y.1 2)&& (slk ctx y.1).isSome else true
noncomputable def dh(ctx:List (Str×Nat))(ks:List (Str×NameKind))(scope:Scope)(xn:Str)(x:Nat):Bool:=
 Nat.beq scope.kind.ctorIdx 1&&scope.names.all (yU ctx ks scope.names xn)&&cQ scope.names xn 0&&ctx.all (λp=> !Nat.beq p.2 x)
mutual
noncomputable def aU(T:Tab):E->List (Str×Nat)->List (Str×NameKind)->Expr->Bool
 |.wild,_,_=>λ_=>true
 |.lit v,_,_=>pG (Bm v)
 |.loc i,ctx,ks=>fh λn=>at_ ctx n i&&rh ks n&&eY n
 |.glb _ v,_,ks=>fh λn=>iM ks n&&eY n&&sM T n v
 |.bin op a b,ctx,ks=>AT λl o r=>xH op o&&aU T a ctx ks l&&aU T b ctx ks r
 |.neg a,ctx,ks=>vUn λo y=>wb o&&aU T a ctx ks y
 |.cmp op a b,ctx,ks=>AQ λl os rs=>v1 (λo=>v1 (λr=>yS op o&&du r&&aU T a ctx ks l&&aU T b ctx ks r) rs) os
 |.bop c es,ctx,ks=>yC λo xs=>(match o with|.And=>c|.Or=> !c)&&fu T es ctx ks xs
 |.not a,ctx,ks=>vUn λo y=>yP o&&aU T a ctx ks y
 |.ite c a b,ctx,ks=>vIf λt y z=>aU T c ctx ks t&&aU T a ctx ks y&&aU T b ctx ks z
 |.tup es,ctx,ks=>y4 λxs=>fu T es ctx ks xs
 |.lst _ es,ctx,ks=>yA λxs=>fu T es ctx ks xs
 |.dict k p kvs,ctx,ks=>yB λkx vx=>bif kvs.isNil then kx.isEmpty&&vx.isEmpty else sC k&&p&& !kx.isEmpty&&Nat.ble kx.length 15&&yk T kvs ctx ks kx vx
 |.comp k elt i src,ctx,ks=>gz λy xn iter ifs scope _=>ifs.isEmpty&&oC k&&du iter&&dh ctx ks scope xn i&&aU T src ctx ks iter&&aU T elt ((xn,i)::ctx) (relab ks scope.names) y
 |.compIf elt i src c,ctx,ks=>gz λy xn iter ifs scope _=>v1 (λz=>du iter&&dh ctx ks scope xn i&&aU T src ctx ks iter&&aU T elt ((xn,i)::ctx) (relab ks scope.names) y&&aU T c ((xn,i)::ctx) (relab ks scope.names) z) ifs
 |.call f args,ctx,ks=>jG λn xs=> !Nat.beq f 0&&iM ks n&&eY n&&rq T n (T.fa f)&&fu T args ctx ks xs
 |.lcall i a,ctx,ks=>jG λn xs=>v1 (λy=>at_ ctx n i&&rh ks n&&eY n&&bn y&&aU T a ctx ks y) xs
 |.new c args,ctx,ks=>jG λn xs=>Nat.blt c T.nC&&iM ks n&&eY n&&rq T n (T.ca c)&&keepIn T.K (.ref (T.ca c))&&fu T args ctx ks xs
 |.meth o m args,ctx,ks=>pH λy n ap xs pos=>seqb n (T.nm m)&&eZ y&&Nat.beq ap.endLine pos.line&&Nat.blt xs.length 30&&aU T o ctx ks y&&fu T args ctx ks xs
 |.bm m o args,ctx,ks=>pH λy n ap xs pos=>seqb n (nr m)&&eZ y&&Nat.beq ap.endLine pos.line&&Nat.blt xs.length 30&&aU T o ctx ks y&&fu T args ctx ks xs
 |.bf b a,ctx,ks=>jG λn xs=>iM ks n&&eY n&&wJ T n b&&fA (λy r=>bn y&&aU T a ctx ks y&& (bif mB b then v1 (fh λn2=>iM ks n2&&eY n2&&wJ T n2 .str) r else r.isEmpty)) xs
 |.attr o a,ctx,ks=>r4 λy n _=>seqb n (T.nm a)&&eZ y&&aU T o ctx ks y
 |.idx a i,ctx,ks=>tj λy z=>fG z&&aU T a ctx ks y&&aU T i ctx ks z
 |.slc a lo hi,ctx,ks=>tj λy z=>aU T a ctx ks y&&y5 (λl h st=>st.isNone&&tR (gj lo) (aU T lo ctx ks) l&&tR (gj hi) (aU T hi ctx ks) h) z
noncomputable def fu(T:Tab):Es->List (Str×Nat)->List (Str×NameKind)->List Expr->Bool
 |.nil,_,_,xs=>xs.isEmpty
 |.cons e es,ctx,ks,xs=>fA (λx r=>bn x&&aU T e ctx ks x&&fu T es ctx ks r) xs
noncomputable def yk(T:Tab):Es->List (Str×Nat)->List (Str×NameKind)->List (Option Expr)->List Expr->Bool
 |.nil,_,_,kx,vx=>kx.isEmpty&&vx.isEmpty
 |.cons e .nil,_,_,_,_=>false
 |.cons e (.cons f r),ctx,ks,kx,vx=>fA (λko kr=>fA (λv vr=>tR false (aU T e ctx ks) ko&&aU T f ctx ks v&&yk T r ctx ks kr vr) vx) kx
end
section
variable {M:Model}{A:Around}{E:Value->Shared->Prop}{s:Shared}{env:Env}
theorem wM{f:BF}{e:Expr}{rest:List Expr}{pos:Pos}{Q:Value->Shared->Prop}(hn:(e::rest).all bn=true)
  (h:wpAny M A (spliced (backTo pos (starEach (e::rest) env))) (λvs s1=>wpAny M A (call (gD f) vs) Q E s1) E s):
  wpAny M A (callWith pos (gD f) [] (backTo pos (starEach (e::rest) env)) []) Q E s:=by
 have b:=(cV (env:=env) (pos:=pos) hn).1
 have a:=hn
 rw [List.all_cons,Bool.and_eq_true] at a
 rw [cj a.1] at h b ⊢
 cases f<;>first
  |exact Calls.callWith_builtin b (Calls.evalArgs_plain h)
  |exact PyProof.Rows.callWith_type b (Calls.evalArgs_plain h)
end
section
variable {prog:Program}{w:World}{B:Base prog w}
variable {A:Around}{n:Nat}{W:Mo}{env:Env}{ctx:List (Str×Nat)}{ks:List (Str×NameKind)}{ρ:List V}
theorem xu{f:BF}{nm:Str}{p pos:Pos}{y:Expr}{v r:V}{s1:S}(hf:f≠ .isStr)(hh:A.handled=none)(I:Inv B W)(E:az B env ctx ks ρ W)(hk:ks.lookup nm=some .globalImplicit)(hd:seqb nm bC=false)
  (hx:nsIn B.K mainGlobals nm=some none) (hv:bootBuiltins nm=some (gD f)) (hn:nm≠"__name__") (hns:bn y=true) (h:am B A W (eval y env) v s1) (hr:bf1 s1 f v=some r):
  am B A W (eval (.Call (.Name nm p) [y] [] pos) env) r s1:=by
 refine PyProof.Rows.Call_Name rfl (j4 hk hd E I hx hv hn ?_)
 refine wM (by simp only [List.all_cons,hns];rfl) (wq I (mU (l:=[]) (s2:=s1) I hns h λj a d _=>by exact a▸rL d) λi j a d c m b=>?_)
 match i,b with
 |[val],b=>
  simp only [aA,and_true] at b
  have:=sb (A:=A) d hh b (by exact a▸hr)
  have e:wN f val=[val]:=by cases f<;>first|rfl|exact absurd rfl hf
  rw [e] at this
  exact a▸wpAny_mono this (λz k g=>g.trans c) λ_ _ q=>q
theorem pQ{nm nm2:Str}{p p2 pos:Pos}{y:Expr}{v r:V}{s1:S}(hh:A.handled=none)(I:Inv B W)(E:az B env ctx ks ρ W)(hk:ks.lookup nm=some .globalImplicit)(hd:seqb nm bC=false)
  (hx:nsIn B.K mainGlobals nm=some none) (hv:bootBuiltins nm=some (gD .isStr)) (hn:nm≠"__name__") (hns:bn y=true)
  (hk2:ks.lookup nm2=some .globalImplicit) (hd2:seqb nm2 bC=false) (hx2:nsIn B.K mainGlobals nm2=some none) (hv2:bootBuiltins nm2=some (.type "str")) (hn2:nm2≠"__name__")
  (h:am B A W (eval y env) v s1) (hr:bf1 s1 .isStr v=some r):
  am B A W (eval (.Call (.Name nm p) [y,.Name nm2 p2] [] pos) env) r s1:=by
 refine PyProof.Rows.Call_Name rfl (j4 hk hd E I hx hv hn ?_)
 refine wM (by simp only [List.all_cons,hns];rfl) ?_
 refine(cj hns)▸?_
 refine Calls.spliced_cons (wq I h λg j b c a i e=>?_)
 refine Calls.spliced_cons (j4 hk2 hd2 (E.step I a) c hx2 hv2 hn2 (Calls.spliced_nil ?_))
 have:=sb (A:=A) c hh e (by exact b▸hr)
 exact b▸wpAny_mono this (λz f d=>d.trans a) λ_ _ q=>q
theorem pr{T:Tab}{nm:Str}{b:BF}(h:wJ T nm b=true):A3 (nsIn T.K mainGlobals nm=some none) (bootBuiltins nm=some (gD b)) (nm≠"__name__"):=
 z3 (b3 h) λd f c=>⟨cR (P:=λo=>o=some none) d λa h=>congrArg some (Option.isNone_iff_eq_none.mp h),cR (P:=λo=>o=some (gD b)) f λa h=>congrArg some (xW h),λe=>by
  subst e
  exact ff c⟩
theorem lK{T:Tab}{nm:Str}{a:Addr}(h:rq T nm a=true):nsIn T.K mainGlobals nm=some (some (.ref a)):=
 cR (P:=λo=>o=some (some (.ref a))) h λo h=>congrArg some (cR (P:=λo=>o=some (Value.ref a)) h λv h=>(fZ h).elim λb h=>by
  exact(h.1)▸(Nat.eq_of_beq_eq_true h.2)▸rfl)
theorem rn{T:Tab}{nm:Str}{v:V}(h:sM T nm v=true):∃x,nsIn T.K mainGlobals nm=some (some x)/\qS T.K v x=true:=
 cR (P:=λo=>∃x,o=some (some x)/\qS T.K v x=true) h λo h=>cR (P:=λo=>∃x,some o=some (some x)/\qS T.K v x=true) h λx h=>i12 x rfl h
theorem cG{scope:Scope}{xn:Str}{x:Nat}(h:dh ctx ks scope xn x=true):eG ctx ks scope xn x:=by
 refine z4 (b4 h) λc f i g=>?_
 have b:∀y,y∈scope.names->yU ctx ks scope.names xn y=true:=List.all_eq_true.mp f
 refine⟨?_,λy e d=>?_,λy e d=>?_,bD i,λm a=>?_,λm a=>?_,λm a=>?_⟩
 ·have c:scope.kind.ctorIdx=1:=Nat.eq_of_beq_eq_true c
  cases q:scope.kind<;>rw [q] at c<;>first|rfl|exact absurd c (by decide)
 ·have:=b y e
  obtain⟨m,y⟩:=y
  obtain rfl:y=.cell:=d
  exact ff this
 ·have:=b y e
  obtain⟨m,y⟩:=y
  obtain rfl:y=.local :=d
  exact bD (b2 this).1
 ·have:=b2 (b _ a)
  exact⟨sB this.1,jR▸Option.isSome_iff_exists.mp this.2⟩
 ·have:=b _ (ao a)
  exact(md (b2 this).2).imp aH.mp λt=>jR▸Option.isNone_iff_eq_none.mp t
 ·have:=List.all_eq_true.mp g _ (ao a)
  rw [show Nat.beq (m,x).2 x=true from Nat.beq_refl x] at this
  exact ff this
end
section
variable {prog:Program}{w:World}
structure Lvl(B:Base prog w)(p:Prog)(T:Tab)(cf:Cf)(k:Nat):Prop where
 K:T.K=B.K
 fa:T.fa=B.fa
 ca:T.ca=B.ca
 nm:T.nm=B.nm
 X:Facts B p T.nC
 meth:cf.meth=p.meth
 init:cf.init=p.init
 own:cf.own=p.own
 m0:∀c m,p.meth c m≠some 0
 i0:∀c,p.init c≠some 0
 Y:Callee B cf k
structure At(B:Base prog w)(k:Nat)(A:Around)(env:Env)(ctx:List (Str×Nat))(ks:List (Str×NameKind))(ρ:List V)(W:Mo):Prop where
 hj:bk ctx
 E:az B env ctx ks ρ W
 I:Inv B W
 hA:AOk A (k+1)
variable {B:Base prog w}{p:Prog}{T:Tab}{cf:Cf}{k:Nat}{A:Around}{env:Env}{ctx:List (Str×Nat)}{ks:List (Str×NameKind)}{ρ:List V}{W:Mo}
theorem At.step{W1:Mo}(G:At B k A env ctx ks ρ W)(I1:Inv B W1)(st:Step (λ_=>False) W W1):At B k A env ctx ks ρ W1:=⟨G.hj,G.E.step G.I st,I1,G.hA⟩
def bK(B:Base prog w)(A:Around)(W:Mo)(env:Env)(x:Expr)(v:V)(s':S):Prop:=
 am B A W (eval x env) v s'/\∀b,truth s' v=some b->Truth B A W (isTrue x env (eval x env)) b s'
theorem wts{α:Type}{t:Sem α}{s:S}{P:Mo->α->Prop}{W':Mo}(st:Step (λ_=>False) W W')(e:W'.s=s)
  (h:wpAny (model prog w) A t (Post B W' W'.s P) (λ_ _=>False) W'.sh):wpAny (model prog w) A t (Post B W s P) (λ_ _=>False) W'.sh:=e▸wt st h
theorem Post.at_{α:Type}{s:S}{P:Mo->α->Prop}{W':Mo}{a:α}{sh':Shared}(st:Step (λ_=>False) W W')(e:W'.s=s)(h:Post B W' W'.s P a sh'):Post B W s P a sh':=e▸h.trans st
theorem Post.to{α β:Type}{s':S}{P:Mo->α->Prop}{P':Mo->β->Prop}{a:α}{b:β}{sh':Shared}(h:Post B W s' P a sh')(k:∀W',P W' a->P' W' b):Post B W s' P' b sh':=by
 obtain⟨c,e,g,d,i,f⟩:=h
 exact⟨c,e,g,d,i,k c f⟩
theorem bK.of{x:Expr}{v:V}{s':S}(I:Inv B W)(h:am B A W (eval x env) v s')
  (he:isTrue x env (eval x env)=(do let v <-eval x env;standAt x.pos;holding [v] (truthy v))):bK B A W env x v s':=
 ⟨h,λb d=>wpAny_isTrue_value (wq I h λy g e c a _ f=>wts a e (eJ c f (e▸d))) he⟩
theorem bK.at{x:Expr}{v:V}{s:S}(e:W.s=s)(h:bK B A W env x v W.s):bK B A W env x v s:=e▸h
def aK(B:Base prog w)(T:Tab)(cf:Cf)(k:Nat)(e:E):Prop:=
 ∀ {A W env ctx ks ρ s x v s'},At B k A env ctx ks ρ W->W.s=s->aU T e ctx ks x=true->ev cf e ρ s=some (v,s')->bK B A W env x v s'
def cZ(B:Base prog w)(T:Tab)(cf:Cf)(k:Nat)(es:Es):Prop:=
 ∀ {A W env ctx ks ρ s xs},At B k A env ctx ks ρ W->W.s=s->fu T es ctx ks xs=true->
  (∀ {l s'},evs cf es ρ s=some (l,s')->∀pos,cB B A W (spliced (backTo pos (starEach xs env))) l s')/\
  (∀ {conj v s'},evB cf es ρ conj s=some (v,s')->(∀pos,am B A W (boolOp pos (if conj then .And else .Or) (evalEach xs env)) v s')/\
   ∀b,truth s' v=some b->Truth B A W (allTrue (if conj then .And else .Or) xs env) b s')
def pB(B:Base prog w)(T:Tab)(cf:Cf)(k:Nat)(es:Es):Prop:=
 ∀ {A W env ctx ks ρ s kx vx l s'},At B k A env ctx ks ρ W->W.s=s->yk T es ctx ks kx vx=true->evs cf es ρ s=some (l,s')->
  ∀pos,eF B A W (evalPairs (pairTrees kx vx env pos)) l s'
theorem cO:∀ (es:Es) {xs:List Expr},fu T es ctx ks xs=true->xs.all bn=true
 |.nil,_,h=>eE (P:=λxs=>xs.all bn=true) h rfl
 |.cons e es,_,h=>bT (P:=λxs=>xs.all bn=true) h λx r h=>z3 (b3 h) λb _ a=>dZ b (cO es a)
theorem lR:∀ (es:Es) {kx:List (Option Expr)} {vx:List Expr},yk T es ctx ks kx vx=true->kx.all (·.isSome)=true/\kx.length=vx.length
 |.nil,kx,vx,h=>(b2 h).elim λd a=>eE (P:=λkx=>kx.all (·.isSome)=true/\kx.length=vx.length) d (eE (P:=λvx=>_/\0=vx.length) a ⟨rfl,rfl⟩)
 |.cons e .nil,_,_,h=>ff h
 |.cons e (.cons f r),kx,vx,h=>bT (P:=λkx=>kx.all (·.isSome)=true/\kx.length=vx.length) h λc kx h=>
   bT (P:=λvx=>List.all (c::kx) (·.isSome)=true/\(c::kx).length=vx.length) h λb vx h=>z3 (b3 h) λg _ h=>(lR r h).elim λd a=>
    ⟨dZ (by cases c;exact ff g;rfl) d,congrArg Nat.succ a⟩
theorem BX(u:V):aK B T cf k (.lit u):=λG e a h=>rY (P:=λx=>bK B _ _ _ x _ _) a λ_ _ _ a=>pE h (.at e (.of G.I (sa a G.I) rfl))
theorem BW(i:Nat):aK B T cf k (.loc i):=λG e a h=>dQ (P:=λx=>bK B _ _ _ x _ _) a λn p a=>z3 (b3 a) λd c b=>by
 by_cases q:(lget ‹List V› i).ctorIdx=0
 ·exact nn ((if_pos q).symm.trans h)
 ·exact pE ((if_neg q).symm.trans h) (.at e (.of G.I (r9 (cS d) (lH c) (bN b).1 (bN b).2 G.E G.I λz=>q (z▸rfl)) rfl))
theorem B0(L:Lvl B p T cf k)(nm:Str)(u:V):aK B T cf k (.glb nm u):=λG e a h=>dQ (P:=λx=>bK B _ _ _ x _ _) a λn p a=>z3 (b3 a) λd c b=>
 (rn b).elim λy q=>pE h (.at e (.of G.I (xi (dK d) (bN c).1 G.E G.I (L.K▸q.1) (L.K▸q.2)) rfl))
theorem B3(op:Op){a b:E}(ga:aK B T cf k a)(gb:aK B T cf k b):aK B T cf k (.bin op a b):=λG e d h=>
 AS (P:=λx=>bK B _ _ _ x _ _) d λl o r p d=>z3 (b3 d) λy m s=>bE h λD A n h=>bE h λH F i h=>oE h λu v h=>pE h (.of G.I (me y▸
  wpAny_BinOp (wq G.I (ga G e m n).1 λM K z f c C t=>wq f (gb (G.step f c) z s i).1 λJ L j w st2 g q=>wts (c.trans st2) j (uR w (t.mono g) q v))) rfl)
theorem BU{a:E}(ga:aK B T cf k a):aK B T cf k (.neg a):=λG e c h=>
 AG (P:=λx=>bK B _ _ _ x _ _) c λo y p c=>(b2 c).elim λl c=>bE h λr n g h=>by
  obtain rfl:=t5 l
  refine x12 (bw h) λi b h=>?_
  subst b
  exact pE h (.of G.I (wpAny_UnaryOp (wq G.I (ga G e c g).1 λu s m j d q f=>f.elim λt f=>f▸PySem.P.neg_int (Post.at_ d m (Post.same j rfl rfl rfl λ_ _ _=>⟨_,rfl⟩)))) rfl)
theorem B1(op:Cop){a b:E}(ga:aK B T cf k a)(gb:aK B T cf k b):aK B T cf k (.cmp op a b):=λ{A W m X ks ρ s x v s'} G e d h=>
 AP (P:=λx=>bK B _ _ _ x _ _) d λl J rs p d=>v1E (P:=λJ=>bK B _ _ _ (.Compare l J rs p) _ _) d λo d=>v1E (P:=λrs=>bK B _ _ _ (.Compare l [o] rs p) _ _) d λr d=>
  z4 (b4 d) λc1 H O Y=>bE h λva s1 R h=>bE h λvb s2 M h=>oE h λu h3 h=>by
   obtain rfl:=wE c1
   have n:∀ {Q:Value->Shared->Prop},(∀y c,c.s=s2->Inv B c->Step (λ_=>False) W c->Rep B c (.bool u) y->Q y c.sh)->
     wpAny (model prog w) A (eval l m) (λL z=>wpAny (model prog w) A (eval r m) (λK q=>wpAny (model prog w) A (compareOp (sV op) L K) Q (λ_ _=>False) q) (λ_ _=>False) z) (λ_ _=>False) W.sh:=
    λZ=>wq G.I (ga G e O R).1 λL W1 e1 C g C1 ha=>wq C (gb (G.step C g) e1 Y M).1 λK W2 F D st2 C2 U=>
     wq D (uP D G.hA.u (ha.mono C2) U (F▸h3)) λy c f i st3 C3 j=>Z y c (f.trans F) i ((g.trans st2).trans st3) j
   exact pE h ⟨wpAny_Compare1 (n λy c f i st3 j=>⟨c,rfl,f,i,st3,j⟩) (gZ H _),λt N=>wpAny_isTrue_Compare1 (n λy c f i st3 j=>wts st3 f (eJ i j (f▸N))) (gZ H _)⟩
theorem BR{a:E}(ga:aK B T cf k a):aK B T cf k (.not a):=λG e d h=>
 AG (P:=λx=>bK B _ _ _ x _ _) d λo y p d=>(b2 d).elim λC d=>bE h λJ D i h=>oE h λb l h=>by
  obtain rfl:=we C
  exact pE h ⟨wpAny_UnaryOp (wq G.I (ga G e d i).1 λK w m j g F u=>not_value (wq j (eJ j u (m▸l)) λc A n z st2 H f=>⟨A,rfl,n.trans m,z,g.trans st2,f▸rfl⟩)),
   λt r=>wpAny_isTrue_Not (wpAny_mono ((ga G e d i).2 b l) (λc s v=>v.to λw f=>(congrArg (!·) f).trans (Option.some.inj r)) λ_ _ q=>q)⟩
theorem km(t y z pos)(env:Env)(whole:Sem Value):isTrue (.IfExp t y z pos) env whole=(do if <-isTrue t env (eval t env) then isTrue y env (eval y env) else isTrue z env (eval z env)):=rfl
theorem BY{c a b:E}(gc:aK B T cf k c)(ga:aK B T cf k a)(gb:aK B T cf k b):aK B T cf k (.ite c a b):=λ{A W D C L ρ s x v y} G e l h=>
 Cq (P:=λx=>bK B _ _ _ x _ _) l λM K N p l=>z3 (b3 l) λF r w=>bE h λJ H z h=>oE h λt q h=>by
  have j:=(gc G e F z).2 t q
  try clear q
  cases t with
  |true=>
   exact⟨wpAny_IfExp (wq G.I j λc o i f d m g=>by subst g;exact wt d (ga (G.step f d) i r h).1),λu n=>(congrArg (λt=>Truth B A W t u y) (km ..)).mpr
    (wpAny_bind (wq G.I j λc o i f d m g=>by subst g;exact wt d ((ga (G.step f d) i r h).2 u n)))⟩
  |false=>
   exact⟨wpAny_IfExp (wq G.I j λc o i f d m g=>by subst g;exact wt d (gb (G.step f d) i w h).1),λu n=>(congrArg (λt=>Truth B A W t u y) (km ..)).mpr
    (wpAny_bind (wq G.I j λc o i f d m g=>by subst g;exact wt d ((gb (G.step f d) i w h).2 u n)))⟩
theorem BP{es:Es}(g:cZ B T cf k es):aK B T cf k (.tup es):=λG e b h=>
 yw (P:=λx=>bK B _ _ _ x _ _) b λi a p b=>bE h λl f d h=>iE h λc h=>pE h (.of G.I (uI G.I ((g G e b).1 d _) c) rfl)
theorem BV(lk:Lk){es:Es}(g:cZ B T cf k es):aK B T cf k (.lst lk es):=λG e a h=>
 y7 (P:=λx=>bK B _ _ _ x _ _) a λi p a=>bE h λl f d h=>iE h λc h=>by
  by_cases q:lk.ctorIdx=0
  ·exact pE ((if_pos q).symm.trans h) (.of G.I (uM G.I ((g G e a).1 d _) c) rfl)
  ·exact iE ((if_neg q).symm.trans h) λb h=>pE h (.of G.I (uL G.I ((g G e a).1 d _) c b) rfl)
theorem sO:cZ B T cf k .nil:=λ{A W a c d ρ s f} G e b=>by
 obtain rfl:=fQ b
 exact⟨λh pos=>pE h (e▸rL G.I),λh=>nn h⟩
theorem zP:pB B T cf k .nil:=λ{A W a i m ρ s d c l b} G e j h pos=>(b2 j).elim λg f=>
 eE (P:=λd=>eF B A W (evalPairs (pairTrees d c a pos)) l b) g (eE (P:=λc=>eF B A W (evalPairs (pairTrees [] c a pos)) l b) f (pE (P:=λl b=>eF B A W (evalPairs (pairTrees [] [] a pos)) l b) h (e▸tQ G.I)))
theorem yb{a b:E}{r:Es}(ga:aK B T cf k a)(gb:aK B T cf k b)(gr:pB B T cf k r):pB B T cf k (.cons a (.cons b r)):=λ{A W i w N ρ s m j l p} G e g h pos=>
 bT (P:=λm=>eF B A W (evalPairs (pairTrees m j i pos)) l p) g λo m g=>bT (P:=λj=>eF B A W (evalPairs (pairTrees (o::m) j i pos)) l p) g λz j g=>z3 (b3 g) λq u x=>by
  cases o with
  |none=>exact ff q
  |some y=>
   exact bE h λR L v h=>bE h λY U f h=>bE f λZ M J f=>bE f λQ X C f=>by
    refine cp λ_ t=>?_
    refine x02 (sp f) λc d=>?_
    subst c
    subst d
    refine t ?_
    exact pE h
     (qX G.I (ga G e q v).1 (λW1 K D n=>(gb (G.step D n) K u J).1) λO H F st2=>gr (G.step F st2) H x C pos)
end
theorem B9{b:Bool}{X Y:Prop}(q:b=true)(h:X):bif b then X else Y:=by subst q;exact h
theorem Ca{b:Bool}{X Y:Prop}(q:b=false)(h:Y):bif b then X else Y:=by subst q;exact h
section
variable {M:Model}{A:Around}{env:Env}{s:Shared}{E:Value->Shared->Prop}
theorem Al{conj:Bool}{x:Expr}{xs:List Expr}{Q:Bool->Shared->Prop}(h:wpAny M A (isTrue x env (eval x env)) (λc sh=>bif c==conj then wpAny M A (allTrue (if conj then .And else .Or) xs env) Q E sh else Q c sh) E s):
  wpAny M A (allTrue (if conj then .And else .Or) (x::xs) env) Q E s:=by
 cases conj
 ·exact wpAny_allTrue_Or_cons (wpAny_mono h (λc sh a=>by cases c<;>exact a) λ_ _ q=>q)
 ·exact wpAny_allTrue_And_cons (wpAny_mono h (λc sh a=>by cases c<;>exact a) λ_ _ q=>q)
theorem CE{conj:Bool}{Q:Bool->Shared->Prop}(h:Q conj s):wpAny M A (allTrue (if conj then .And else .Or) [] env) Q E s:=by
 cases conj
 ·exact wpAny_allTrue_Or_nil h
 ·exact wpAny_allTrue_And_nil h
theorem yW{conj:Bool}{x y:Expr}{xs:List Expr}{pos:Pos}{Q:Value->Shared->Prop}(h:wpAny M A (eval x env) (λv sh=>wpAny M A (truthy v) (λc sh=>bif c==conj then wpAny M A (boolOp pos (if conj then .And else .Or) (evalEach (y::xs) env)) Q E sh else Q v sh) E sh) E s):
  wpAny M A (boolOp pos (if conj then .And else .Or) (evalEach (x::y::xs) env)) Q E s:=by
 show wpAny M A (do
  let v <-eval x env
  standAt pos
  let t <-holding [v] (truthy v)
  match(if conj then BoolOp.And else BoolOp.Or),t with
  |.And,false|.Or,true=>pure v
  |_,_=>boolOp pos (if conj then .And else .Or) (evalEach (y::xs) env)) _ _ s
 refine wpAny_bind (wpAny_mono h (λv sh h=>wpAny_bind (wpAny_standAt (wpAny_bind (wpAny_holding (wpAny_mono h (λc sh h=>?_) λ_ _ q=>q))))) λ_ _ q=>q)
 cases conj<;>cases c<;>first|exact h|exact wpAny_pure h
end
theorem Af{c:Bool}{o:BoolOp}(h:(match o with|.And=>c|.Or=> !c)=true):o=if c then BoolOp.And else BoolOp.Or:=by
 cases o<;>cases c<;>first|rfl|exact ff h
section
variable {prog:Program}{w:World}{B:Base prog w}{p:Prog}{T:Tab}{cf:Cf}{k:Nat}{A:Around}{env:Env}{ctx:List (Str×Nat)}{ks:List (Str×NameKind)}{ρ:List V}{W:Mo}
theorem B2(c:Bool){es:Es}(g:cZ B T cf k es):aK B T cf k (.bop c es):=λG e a h=>
 y9 (P:=λx=>bK B _ _ _ x _ _) a λo m p a=>(b2 a).elim λi f=>((g G e f).2 h).elim λj d=>by
  obtain rfl:=Af i
  exact⟨j _,λb l=>wpAny_isTrue_BoolOp (d b l)⟩
theorem sR{a:E}{r:Es}(ga:aK B T cf k a)(gr:cZ B T cf k r){s s':S}{xs:List Expr}{l:List V}(G:At B k A env ctx ks ρ W)(e:W.s=s)(hc:fu T (.cons a r) ctx ks xs=true)(h:evs cf (.cons a r) ρ s=some (l,s'))(pos:Pos):
  cB B A W (spliced (backTo pos (starEach xs env))) l s':=
 bT (P:=λxs=>cB B A W (spliced (backTo pos (starEach xs env))) l s') hc λx xs hc=>z3 (b3 hc) λj g c=>bE h λp n i h=>bE h λl q d h=>
  pE h (mU G.I j (ga G e g i).1 λo m f b=>(gr (G.step f b) m c).1 d pos)
def wR(B:Base prog w)(A:Around)(W:Mo)(env:Env)(xs:List Expr)(conj:Bool)(v:V)(s':S):Prop:=
 (∀pos,am B A W (boolOp pos (if conj then .And else .Or) (evalEach xs env)) v s')/\∀b,truth s' v=some b->Truth B A W (allTrue (if conj then .And else .Or) xs env) b s'
theorem yd{a:E}(ga:aK B T cf k a):cZ B T cf k (.cons a .nil):=λ{A W f p y ρ s g} G e i=>⟨λh pos=>sR ga sO G e i h pos,λ{d v n} h=>
 bT (P:=λg=>wR B A W f g d v n) i λx g i=>z3 (b3 i) λz j r=>eE (P:=λg=>wR B A W f (x::g) d v n) r (bE h λu t l h=>pE h
  ⟨λpos=>(ga G e j l).1,λb o=>Al (wpAny_mono ((ga G e j l).2 b o) (λc w m=>by
   cases q:c==d
   ·exact m
   ·exact CE (eq_of_beq q▸m)) λ_ _ q=>q)⟩)⟩
theorem wm{a b:E}{r:Es}(ga:aK B T cf k a)(gr:cZ B T cf k (.cons b r)):cZ B T cf k (.cons a (.cons b r)):=λ{A W n F U ρ s l} G e C=>⟨λh pos=>sR ga gr G e C h pos,λ{f v J} h=>
 bT (P:=λl=>wR B A W n l f v J) C λx l C=>z3 (b3 C) λZ p z=>bT (P:=λl=>fu T (.cons b r) F U l=true->wR B A W n (x::l) f v J) z (λy l _ z=>bE h λY Q w h=>oE h λt o h=>by
  cases q:t==f with
  |true=>
   rw [q] at h
   have R:∀ {j:Mo},Inv B j->Step (λ_=>False) W j->j.s=Q->wR B A j n (y::l) f v J:=λg d i=>(gr (G.step g d) i z).2 h
   exact⟨λpos=>yW (wq G.I (ga G e p w).1 λX j i g d L D=>wq g (eJ g D (i▸o)) λc N K H st2 O m=>B9 (m▸q) (wt (d.trans st2) ((R H (d.trans st2) (K.trans i)).1 pos))),
    λu M=>Al (wq G.I ((ga G e p w).2 t o) λc j i g d L m=>B9 (m▸q) (wt d ((R g d i).2 u M)))⟩
  |false=>
   replace h:=q▸h
   exact pE h ⟨λpos=>yW (wq G.I (ga G e p w).1 λX j i g d L D=>wq g (eJ g D (i▸o)) λc N K H st2 O m=>Ca (m▸q) ⟨N,rfl,K.trans i,H,d.trans st2,D.mono O⟩),
    λu M=>Al (wq G.I ((ga G e p w).2 t o) λc j i g d L m=>Ca (m▸q) ⟨j,rfl,i,g,d,m.trans (Option.some.inj (o.symm.trans M))⟩)⟩) z⟩
theorem zU(L:Lvl B p T cf k){o:E}(a:Nat)(g:aK B T cf k o):aK B T cf k (.attr o a):=λG e b h=>
 pI (P:=λx=>bK B _ _ _ x _ _) b λy n p b=>z3 (b3 b) λi f c=>bE h λm l j h=>oE h λu d h=>pE h (.of G.I ((aH.mp i).trans (congrFun L.nm a)▸uS L.X G.I f (g G e c j).1 (L.own▸d)) rfl)
theorem BZ{a i:E}(ga:aK B T cf k a)(gi:aK B T cf k i):aK B T cf k (.idx a i):=λG e c h=>
 nI (P:=λx=>bK B _ _ _ x _ _) c λy z p c=>z3 (b3 c) λn f j=>bE h λs q g h=>bE h λr t d h=>oE h λu l h=>
  pE h (.of G.I (w7 G.hA.u G.I n (ga G e f g).1 (λv o m b=>(gi (G.step m b) o j d).1) l) rfl)
theorem vt{q:E}(gq:aK B T cf k q){xo:Option Expr}{s s':S}{u:V}(hq:tR (gj q) (aU T q ctx ks) xo=true)(G:At B k A env ctx ks ρ W)(e:W.s=s)(h:ev cf q ρ s=some (u,s')):gQ B A W xo env u s':=by
 cases xo with
 |none=>
  obtain rfl:=mA hq
  exact pE h (e▸ji G.I)
 |some l=>exact jh (gq G e hq h).1
theorem BQ{a lo hi:E}(ga:aK B T cf k a)(gl:aK B T cf k lo)(gh:aK B T cf k hi):aK B T cf k (.slc a lo hi):=λ{A W d n O ρ s x v i} G e c h=>
 nI (P:=λx=>bK B A W d x v i) c λy z p c=>(b2 c).elim λF c=>yx (P:=λz=>bK B A W d (.Subscript y z p) v i) c λX N Z H c=>z3 (b3 c) λu l o=>
  bE h λR J m h=>bE h λY U j h=>bE h λM K D h=>(gR h).elim λQ q=>q.elim λt h=>oE h λL r w=>by
   obtain rfl:=Option.isNone_iff_eq_none.mp u
   exact pE w (.of G.I (w8 G.I (t▸(ga G e F m).1) (λC g f b=>vt gl l (G.step f b) g j) (λC g f b=>vt gh o (G.step f b) g D) r) rfl)
theorem CD(L:Lvl B p T cf k)(b:BF){a:E}(ga:aK B T cf k a):aK B T cf k (.bf b a):=λ{A W d J Z ρ s x v f} G e c h=>
 ju (P:=λx=>bK B A W d x v f) c λn p w pos c=>z4 (b4 c) λm t Q c=>bT (P:=λw=>bK B A W d (.Call (.Name n p) w [] pos) v f) c λy r c=>z3 (b3 c) λj o i=>
  z3 (pr Q) λg l C=>bE h λva X q h=>oE h λu F D=>by
   replace g:=L.K▸g
   cases c1:mB b with
   |false=>
    rw [c1] at i
    exact eE (P:=λr=>bK B A W d (.Call (.Name n p) (y::r) [] pos) v f) i (pE D (.of G.I (xu (λz=>by replace c1:=z▸c1;exact Bool.noConfusion c1) G.hA.handled G.I G.E (dK m) (bN t).1 g l C j (ga G e o q).1 F) rfl))
   |true=>
    obtain rfl:=rj c1
    exact v1E (P:=λr=>bK B A W d (.Call (.Name n p) (y::r) [] pos) v f) i λz c=>dQ (P:=λz=>bK B A W d (.Call (.Name n p) [y,z] [] pos) v f) c λY p2 c=>z3 (b3 c) λM O H=>z3 (pr H) λN R U=>
     pE D (.of G.I (pQ G.hA.handled G.I G.E (dK m) (bN t).1 g l C j (dK M) (bN O).1 (L.K▸N) R U (ga G e o q).1 F) rfl)
theorem zR(dk:Dk)(pm:Bool){kvs:Es}(g:pB B T cf k kvs):aK B T cf k (.dict dk pm kvs):=λ{A W d J R ρ s x v n} G e M h=>
 y8 (P:=λx=>bK B A W d x v n) M λC f pos F=>bE h λl t w h=>oE h λq y h=>iE h λp h=>oE h λo H D=>by
  cases kvs with
  |nil=>
   obtain⟨r,i⟩:=b2 F
   obtain⟨rfl,rfl⟩:=sp w
   obtain rfl:=Option.some.inj y
   exact eE (P:=λC=>bK B A W d (.Dict C f pos) v n) r (eE (P:=λf=>bK B A W d (.Dict [] f pos) v n) i (pE (a:=(s.new pm o).1) (b:=(s.new pm o).2) D (.of G.I (e▸tF G.I H) rfl)))
  |cons ea er=>
   exact z5 (b5 F) λr i m N u=>(b2 p).elim λp c=>by
    obtain rfl:=ri r
    obtain rfl:=i
    exact(lR _ u).elim λK Q=>pE (a:=(t.new true o).1) (b:=(t.new true o).2) D (.of G.I (tD G.I K Q (λz=>by replace m:=z▸m;exact ff m) (Nat.le_of_ble_eq_true N) (λU O L j=>g (G.step L j) (O.trans e) u w pos) y p (of_decide_eq_true c) H) rfl)
theorem zT(L:Lvl B p T cf k)(f:Nat){es:Es}(g:cZ B T cf k es):aK B T cf k (.call f es):=λG e b h=>
 ju (P:=λx=>bK B _ _ _ x _ _) b λn p q pos b=>z5 (b5 b) λa j d i c=>bE h λl o m h=>
  .of G.I (PyProof.Rows.Call_Name rfl (iH (dK j) (bN d).1 G.E G.I (L.K▸L.fa▸lK i) (tC L.Y G.hA (λz=>by replace a:=z▸a;exact ff a) G.I (cO es c) ((g G e c).1 m _) h))) rfl
theorem yc(L:Lvl B p T cf k)(i:Nat){a:E}(g:aK B T cf k a):aK B T cf k (.lcall i a):=λ{A W d u M ρ s x v m} G e c h=>
 ju (P:=λx=>bK B A W d x v m) c λn p o pos c=>v1E (P:=λo=>bK B A W d (.Call (.Name n p) o [] pos) v m) c λy c=>z5 (b5 c) λD r j C q=>by
  refine x22 (AR h) λH N f h=>?_
  exact bE h λQ J t h=>.of G.I (PyProof.Rows.Call_Name rfl (wq G.I (r9 (cS D) (lH r) (bN j).1 (bN j).2 G.E G.I (λz=>V.noConfusion (f.symm.trans z))) λK R F l b O w=>
   wt b (tB L.Y G.hA l (f▸w) C (g (G.step l b) (F.trans e) q t).1 h))) rfl
theorem BS(L:Lvl B p T cf k)(c:Nat){es:Es}(g:cZ B T cf k es):aK B T cf k (.new c es):=λG e a h=>
 ju (P:=λx=>bK B _ _ _ x _ _) a λn p r pos a=>z6 (b6 a) λo f m d i b=>bE h λl q j h=>
  .of G.I (PyProof.Rows.Call_Name rfl (iH (dK f) (bN m).1 G.E G.I (L.K▸L.ca▸lK d) (xe L.X L.init (Nat.le_of_ble_eq_true o) (L.K▸L.ca▸i) L.Y G.hA G.I (cO es b) ((g G e b).1 j _) h (L.init▸L.i0 c)))) rfl
theorem zQ(L:Lvl B p T cf k)(m:Nat){o:E}{es:Es}(go:aK B T cf k o)(g:cZ B T cf k es):aK B T cf k (.meth o m es):=λG e i h=>
 rZ (P:=λx=>bK B _ _ _ x _ _) i λy n N O pos i=>z6 (b6 i) λD u w t r j=>bE h λK F v h=>by
  refine x22 (vz h) λc H a h=>?_
  exact iE h λd h=>oE h λf q h=>bE h λl J s h=>.of G.I ((aH.mp D).trans (congrFun L.nm m)▸uK L.X L.meth L.Y G.hA G.I u (beq_iff_eq.mpr (Nat.eq_of_beq_eq_true w)) (cO es j) (Nat.le_of_ble_eq_true t) (go G e r v).1 a (Option.isNone_iff_eq_none.mp d) q
   (λz=>L.m0 c m (L.meth▸z▸q)) (λM A C b=>(g (G.step C b) A j).1 s _) h) rfl
theorem CB(m:BM){o:E}{es:Es}(go:aK B T cf k o)(g:cZ B T cf k es):aK B T cf k (.bm m o es):=λG e b h=>
 rZ (P:=λx=>bK B _ _ _ x _ _) b λy n D F pos b=>z6 (b6 b) λv p r j d c=>bE h λA w q h=>bE h λl z i h=>iE h λf h=>
  .of G.I (aH.mp v▸xm G.hA.u G.I p (beq_iff_eq.mpr (Nat.eq_of_beq_eq_true r)) (cO es c) (Nat.le_of_ble_eq_true j) (go G e d q).1 (λC t s a=>(g (G.step s a) t c).1 i _) f h) rfl
theorem qW{elt:Mine.E}{y:Expr}{scope:Scope}{xn:Str}{i:Nat}(ge:aK B T cf k elt)(hj:bk ctx)(hA:AOk A (k+1))(K:eG ctx ks scope xn i)(hc:aU T elt ((xn,i)::ctx) (relab ks scope.names) y=true):
  dM B A env ctx ks ρ scope xn i [] y (λ_ s=>some (true,s)) (λv s=>ev cf elt (lset ρ i v) s):=
 ⟨λC a u b c I E h=>pE h (wpAny_pure (Post.same I rfl rfl rfl λ_ _ _=>rfl)),λC a u r c I E h=>(ge ⟨hj.comp K,E,I,hA⟩ rfl hc h).1⟩
theorem vn{elt c:Mine.E}{y z:Expr}{scope:Scope}{xn:Str}{i:Nat}(ge:aK B T cf k elt)(gc:aK B T cf k c)(hj:bk ctx)(hA:AOk A (k+1))(K:eG ctx ks scope xn i)
  (hc:aU T elt ((xn,i)::ctx) (relab ks scope.names) y=true) (hc2:aU T c ((xn,i)::ctx) (relab ks scope.names) z=true):
  dM B A env ctx ks ρ scope xn i [z] y (λv s=>(ev cf c (lset ρ i v) s).bind λp=>(truth p.2 p.1).map (·,p.2)) (λv s=>ev cf elt (lset ρ i v) s):=by
 refine⟨λC f u b n I E h=>oE h λq g h=>?_,λC f u r n I E h=>(ge ⟨hj.comp K,E,I,hA⟩ rfl hc h).1⟩
 refine x12 (Option.map_eq_some_iff.mp h) λt m e=>?_
 obtain⟨r,o⟩:=q
 refine x02 (Prod.mk.inj e) λa d=>?_
 try clear e;try clear h
 subst a
 subst d
 have G:=(gc ⟨hj.comp K,E,I,hA⟩ rfl hc2 g).2 _ m
 rw [List.forIn_cons]
 refine wpAny_bind ?_
 refine wpAny_bind (wpAny_mono G (λb j l=>wpAny_pure ?_) λ_ _ q=>q)
 exact wpAny_pure l
theorem zS(lk:Lk)(i:Nat){elt src:Mine.E}(ge:aK B T cf k elt)(gs:aK B T cf k src):aK B T cf k (.comp lk elt i src):=λ{A W a t L ρ s x v g} G e d h=>
 jF (P:=λx=>bK B A W a x v g) d λy n C z c u p d=>z6 (b6 d) λl D q f o j=>bE h λK H r h=>oE h λw b h=>bE h λF J m h=>by
  obtain rfl:=oB D
  exact eE (P:=λc=>bK B A W a (.ListComp y [⟨.Name n C,z,c,0⟩] u p) v g) l
   (pE h (.of G.I (jQ G.hA.handled G.I G.E G.hj (cG f) (gs G e o r).1 b (rI b m) (qW ge G.hj G.hA (cG f) j) (bO q a)) rfl))
theorem wn(i:Nat){elt src c:Mine.E}(ge:aK B T cf k elt)(gs:aK B T cf k src)(gc:aK B T cf k c):aK B T cf k (.compIf elt i src c):=λ{A W a u M ρ s x v j} G e f h=>
 jF (P:=λx=>bK B A W a x v j) f λy n F D d w p f=>v1E (P:=λd=>bK B A W a (.ListComp y [⟨.Name n F,D,d,0⟩] w p) v j) f λz f=>z5 (b5 f) λq g o l r=>
  bE h λL J t h=>oE h λC b h=>bE h λH K m h=>
   pE h (.of G.I (jQ G.hA.handled G.I G.E G.hj (cG g) (gs G e o t).1 b (sQ b m) (vn ge gc G.hj G.hA (cG g) l r) (bO q a)) rfl)
mutual
theorem bl(L:Lvl B p T cf k):∀e:Mine.E,aK B T cf k e
 |.wild=>λ_ _ _ h=>nn h
 |.lit v=>BX v
 |.loc i=>BW i
 |.glb n v=>B0 L n v
 |.bin op a b=>B3 op (bl L a) (bl L b)
 |.neg a=>BU (bl L a)
 |.cmp op a b=>B1 op (bl L a) (bl L b)
 |.bop c es=>B2 c (i8 L es)
 |.not a=>BR (bl L a)
 |.ite c a b=>BY (bl L c) (bl L a) (bl L b)
 |.tup es=>BP (i8 L es)
 |.lst lk es=>BV lk (i8 L es)
 |.dict dk pm kvs=>zR dk pm (AV L kvs)
 |.comp lk elt i src=>zS lk i (bl L elt) (bl L src)
 |.compIf elt i src c=>wn i (bl L elt) (bl L src) (bl L c)
 |.call f es=>zT L f (i8 L es)
 |.lcall i a=>yc L i (bl L a)
 |.new c es=>BS L c (i8 L es)
 |.meth o m es=>zQ L m (bl L o) (i8 L es)
 |.bf b a=>CD L b (bl L a)
 |.bm m o es=>CB m (bl L o) (i8 L es)
 |.attr o a=>zU L a (bl L o)
 |.idx a i=>BZ (bl L a) (bl L i)
 |.slc a lo hi=>BQ (bl L a) (bl L lo) (bl L hi)
theorem i8(L:Lvl B p T cf k):∀es:Es,cZ B T cf k es
 |.nil=>sO
 |.cons a .nil=>yd (bl L a)
 |.cons a (.cons b r)=>wm (bl L a) (i8 L (.cons b r))
theorem AV(L:Lvl B p T cf k):∀es:Es,pB B T cf k es
 |.nil=>zP
 |.cons a .nil=>λ_ _ c=>ff c
 |.cons a (.cons b r)=>yb (bl L a) (bl L b) (AV L r)
end
end
noncomputable def jP(ks names:List (Str×NameKind))(n:Str)(pl vl:Nat):Bool:=
 cQ ks n 0&&Nat.beq pl vl&&names.all (λy=> !(seqb y.1 n&& (Nat.beq y.2.ctorIdx 0||Nat.beq y.2.ctorIdx 1)))
noncomputable def uy(k:Str->Pos->Bool)(x:Expr):Bool:=if h:x.ctorIdx=23 then Expr.Name.elim (motive_1:=λ_=>Bool) x h λn p=>k n p else false
theorem wZ{k:Str->Pos->Bool}{P:Expr->Prop}{x:Expr}(h:uy k x=true)(H:∀n p,k n p=true->P (.Name n p)):P x:=
 (dB h).elim λh q=>
 Expr.Name.elim (motive_1:=λx=>∀h:x.ctorIdx=23,(Expr.Name.elim (motive_1:=λ_=>Bool) x h λn p=>k n p)=true->P x) x h (λn p _ q=>H n p q) h q
noncomputable def f5(k:List Expr->Expr->Pos->Bool)(x:Stmt):Bool:=if h:x.ctorIdx=5 then Stmt.Assign.elim (motive_2:=λ_=>Bool) x h λa v p=>k a v p else false
theorem fB{k:List Expr->Expr->Pos->Bool}{P:Stmt->Prop}{x:Stmt}(h:f5 k x=true)(H:∀a v p,k a v p=true->P (.Assign a v p)):P x:=
 (dB h).elim λh q=>
 Stmt.Assign.elim (motive_2:=λx=>∀h:x.ctorIdx=5,(Stmt.Assign.elim (motive_2:=λ_=>Bool) x h λa v p=>k a v p)=true->P x) x h (λa v p _ q=>H a v p q) h q
noncomputable def za(k:Expr->Operator->Expr->Bool)(x:Stmt):Bool:=if h:x.ctorIdx=7 then Stmt.AugAssign.elim (motive_2:=λ_=>Bool) x h λa o v _=>k a o v else false
theorem yD{k:Expr->Operator->Expr->Bool}{P:Stmt->Prop}{x:Stmt}(h:za k x=true)(H:∀a o v p,k a o v=true->P (.AugAssign a o v p)):P x:=
 (dB h).elim λh q=>
 Stmt.AugAssign.elim (motive_2:=λx=>∀h:x.ctorIdx=7,(Stmt.AugAssign.elim (motive_2:=λ_=>Bool) x h λa o v _=>k a o v)=true->P x) x h (λa o v p _ q=>H a o v p q) h q
noncomputable def uA(k:Expr->Bool)(x:Stmt):Bool:=if h:x.ctorIdx=24 then Stmt.Expr.elim (motive_2:=λ_=>Bool) x h λv _=>k v else false
theorem w0{k:Expr->Bool}{P:Stmt->Prop}{x:Stmt}(h:uA k x=true)(H:∀v p,k v=true->P (.Expr v p)):P x:=
 (dB h).elim λh q=>
 Stmt.Expr.elim (motive_2:=λx=>∀h:x.ctorIdx=24,(Stmt.Expr.elim (motive_2:=λ_=>Bool) x h λv _=>k v)=true->P x) x h (λv p _ q=>H v p q) h q
noncomputable def AI(k:Expr->List Stmt->List Stmt->Bool)(x:Stmt):Bool:=if h:x.ctorIdx=12 then Stmt.If.elim (motive_2:=λ_=>Bool) x h λa b c _=>k a b c else false
theorem AH{k:Expr->List Stmt->List Stmt->Bool}{P:Stmt->Prop}{x:Stmt}(h:AI k x=true)(H:∀a b c p,k a b c=true->P (.If a b c p)):P x:=
 (dB h).elim λh q=>
 Stmt.If.elim (motive_2:=λx=>∀h:x.ctorIdx=12,(Stmt.If.elim (motive_2:=λ_=>Bool) x h λa b c _=>k a b c)=true->P x) x h (λa b c p _ q=>H a b c p q) h q
noncomputable def AM(k:Expr->Expr->List Stmt->List Stmt->Bool)(x:Stmt):Bool:=if h:x.ctorIdx=9 then Stmt.For.elim (motive_2:=λ_=>Bool) x h λa b c d _=>k a b c d else false
theorem AL{k:Expr->Expr->List Stmt->List Stmt->Bool}{P:Stmt->Prop}{x:Stmt}(h:AM k x=true)(H:∀a b c d p,k a b c d=true->P (.For a b c d p)):P x:=
 (dB h).elim λh q=>
 Stmt.For.elim (motive_2:=λx=>∀h:x.ctorIdx=9,(Stmt.For.elim (motive_2:=λ_=>Bool) x h λa b c d _=>k a b c d)=true->P x) x h (λa b c d p _ q=>H a b c d p q) h q
noncomputable def ux(k:Expr->List Stmt->List Stmt->Bool)(x:Stmt):Bool:=if h:x.ctorIdx=11 then Stmt.While.elim (motive_2:=λ_=>Bool) x h λa b c _=>k a b c else false
theorem wY{k:Expr->List Stmt->List Stmt->Bool}{P:Stmt->Prop}{x:Stmt}(h:ux k x=true)(H:∀a b c p,k a b c=true->P (.While a b c p)):P x:=
 (dB h).elim λh q=>
 Stmt.While.elim (motive_2:=λx=>∀h:x.ctorIdx=11,(Stmt.While.elim (motive_2:=λ_=>Bool) x h λa b c _=>k a b c)=true->P x) x h (λa b c p _ q=>H a b c p q) h q
noncomputable def y6(k:Option Expr->Bool)(x:Stmt):Bool:=if h:x.ctorIdx=3 then Stmt.Return.elim (motive_2:=λ_=>Bool) x h λa _=>k a else false
theorem yy{k:Option Expr->Bool}{P:Stmt->Prop}{x:Stmt}(h:y6 k x=true)(H:∀a p,k a=true->P (.Return a p)):P x:=
 (dB h).elim λh q=>
 Stmt.Return.elim (motive_2:=λx=>∀h:x.ctorIdx=3,(Stmt.Return.elim (motive_2:=λ_=>Bool) x h λa _=>k a)=true->P x) x h (λa p _ q=>H a p q) h q
noncomputable def zM(op:Op):Bool:=Nat.beq op.ctorIdx 0||Nat.beq op.ctorIdx 4
theorem sF{op:Op}(h:zM op=true):op=.add\/op=.bor:=by
 cases op<;>first|exact .inl rfl|exact .inr rfl|exact ff h
noncomputable def wc(k:Lk):Bool:=Nat.beq k.ctorIdx 1
noncomputable def Cb(T:Tab)(n:Str)(px:Pos)(e:E)(ctx:List (Str×Nat))(ks:List (Str×NameKind))(v:Expr):Bool:=
 if h:e.ctorIdx=12 then E.comp.elim (motive_1:=λ_=>Bool) e h λlk elt j src=>
  gz (λy xn iter ifs scope vp=>ifs.isEmpty&& !wc lk&&jP ks scope.names n px.line vp.line&&du iter&&dh ctx ks scope xn j&&aU T src ctx ks iter&&aU T elt ((xn,j)::ctx) (relab ks scope.names) y) v
 else if h:e.ctorIdx=13 then E.compIf.elim (motive_1:=λ_=>Bool) e h λelt j src c=>
  gz (λy xn iter ifs scope vp=>v1 (λz=>jP ks scope.names n px.line vp.line&&du iter&&dh ctx ks scope xn j&&aU T src ctx ks iter&&aU T elt ((xn,j)::ctx) (relab ks scope.names) y&&aU T c ((xn,j)::ctx) (relab ks scope.names) z) ifs) v
 else jy v&&aU T e ctx ks v
mutual
noncomputable def uj(T:Tab):St->List (Str×Nat)->List (Str×NameKind)->Stmt->Bool
 |.wild,_,_=>λ_=>true
 |.asg i e,ctx,ks=>f5 λa v _=>v1 (uy λn px=>at_ ctx n i&&kj ks n&&Cb T n px e ctx ks v) a
 |.unpack i j e,ctx,ks=>f5 λa v _=>v1 (y4 λxs=>fA (λx r=>v1 (λy=>fh (λn=>fh (λm=>at_ ctx n i&&kj ks n&&at_ ctx m j&&kj ks m&&oj v&&jy v&&aU T e ctx ks v) y) x) r) xs) a
 |.setattr o k e,ctx,ks=>f5 λa v _=>v1 (r4 λy n _=>seqb n (T.nm k)&&aU T e ctx ks v&&aU T o ctx ks y) a
 |.setidx o i e,ctx,ks=>f5 λa v _=>v1 (tj λy z=>aU T e ctx ks v&&aU T o ctx ks y&&aU T i ctx ks z) a
 |.aug i op e,ctx,ks=>za λa o v=>fh (λn=>at_ ctx n i&&kj ks n&&zM op&&xH op o&&aU T e ctx ks v) a
 |.augidx o i op e,ctx,ks=>za λa oo v=>tj (λy z=>zM op&&xH op oo&&fG z&&aU T o ctx ks y&&aU T i ctx ks z&&aU T e ctx ks v) a
 |.expr e,ctx,ks=>uA λv=>jy v&&aU T e ctx ks v
 |.ite c a b,ctx,ks=>AI λt y z=>aU T c ctx ks t&&dp T a ctx ks y&&dp T b ctx ks z
 |.for_ i src body,ctx,ks=>AM λa iter y els=>fh (λn=>els.isEmpty&&at_ ctx n i&&kj ks n&&du iter&&aU T src ctx ks iter&&dp T body ctx ks y) a
 |.while_ c body,ctx,ks=>ux λt y els=>els.isEmpty&&aU T c ctx ks t&&dp T body ctx ks y
 |.ret e,ctx,ks=>y6 λv=>tR false (aU T e ctx ks) v
 |.ret0,_,_=>y6 λv=>v.isNone
noncomputable def dp(T:Tab):Sts->List (Str×Nat)->List (Str×NameKind)->List Stmt->Bool
 |.nil,_,_,xs=>xs.isEmpty
 |.cons s r,ctx,ks,xs=>fA (λx q=>uj T s ctx ks x&&dp T r ctx ks q) xs
end
theorem pL{v o:Expr}{a:Str}{p:Pos}{l:Nat}{env:Env}:swapsWith v (some (.Attribute o a p)) l env=pure false:=by cases v<;>rfl
theorem tt{v o i:Expr}{p:Pos}{l:Nat}{env:Env}:swapsWith v (some (.Subscript o i p)) l env=pure false:=by cases v<;>rfl
theorem tq{v:Expr}{xs:List Expr}{kk:Nat}{p:Pos}{l:Nat}{env:Env}:swapsWithSole [.Tuple xs kk p] v l env=pure false:=by cases v<;>rfl
theorem nN{v:Expr}{t:Option Expr}{l:Nat}{env:Env}(h:jy v=true):swapsWith v t l env=pure false:=by cases v<;>first|rfl|exact ff h
theorem pM{v:Expr}{xs:List Expr}{kk:Nat}{p:Pos}{env:Env}(h:oj v=true):swappedStores [.Tuple xs kk p] v env=pure none:=by cases v<;>first|rfl|exact ff h
theorem pz{i:Expr}(h:fG i=true):∀ov iv new,augStore i ov iv new=(do holding [new,ov,iv] (PySem.setItem ov iv new);release [new,ov,iv] [];pure .next):=by
 intro ov iv new;cases i<;>first|rfl|exact ff h
section
variable {prog:Program}{w:World}{B:Base prog w}{p:Prog}{T:Tab}{cf:Cf}{k:Nat}{A:Around}{env:Env}{ctx:List (Str×Nat)}{ks:List (Str×NameKind)}{ρ:List V}{W:Mo}
def eu(B:Base prog w)(T:Tab)(cf:Cf)(k:Nat)(st:St):Prop:=
 ∀ {A W env ctx ks ρ s x fl ρ' s'},At B k A env ctx ks ρ W->W.s=s->uj T st ctx ks x=true->ex cf st ρ s=some (fl,ρ',s')->au B A env ctx ks W (exec x env) fl ρ' s'
def fY(B:Base prog w)(T:Tab)(cf:Cf)(k:Nat)(st:Sts):Prop:=
 ∀ {A W env ctx ks ρ s xs fl ρ' s'},At B k A env ctx ks ρ W->W.s=s->dp T st ctx ks xs=true->exs cf st ρ s=some (fl,ρ',s')->au B A env ctx ks W (execs xs env) fl ρ' s'
theorem tE{P:Fl->List V->S->Prop}{a c:Fl}{b d:List V}{s s':S}(h:some (a,b,s)=some (c,d,s'))(H:P a b s):P c d s':=by obtain⟨rfl,rfl,rfl⟩:=sp3 h;exact H
theorem xK(E:az B env ctx ks ρ W):interactive env=false:=by
 dsimp only [interactive];refine E.kind▸?_;rfl
theorem zm(L:Lvl B p T cf k)(e:Mine.E):eu B T cf k (.expr e):=λG d b h=>
 w0 (P:=λx=>au B _ _ _ _ _ (exec x _) _ _ _) b λv p b=>(b2 b).elim λf c=>bE h λu i g h=>iE h λa h=>tE h (uO G.I G.E (bl L e G d c g).1 a (xK G.E) (nN f))
theorem AY(L:Lvl B p T cf k)(e:Mine.E):eu B T cf k (.ret e):=λG c a h=>
 yy (P:=λx=>au B _ _ _ _ _ (exec x _) _ _ _) a λb p a=>by
  cases b with
  |none=>exact ff a
  |some _=>exact bE h λu f d h=>tE h (w9 G.I (bl L e G c a d).1)
theorem zk:eu B T cf k .ret0:=λG b a h=>
 yy (P:=λx=>au B _ _ _ _ _ (exec x _) _ _ _) a λc p a=>by
  obtain rfl:=Option.isNone_iff_eq_none.mp a
  exact tE h (b▸uJ G.I)
theorem A0(L:Lvl B p T cf k)(c:Mine.E){a b:Sts}(ga:fY B T cf k a)(gb:fY B T cf k b):eu B T cf k (.ite c a b):=λ{A W d e w ρ s x u l C} G o f h=>
 AH (P:=λx=>au B A d e w W (exec x d) u l C) f λt y z p f=>z3 (b3 f) λD n r=>bE h λv F q h=>oE h λt m h=>
  zf G.I G.E ((bl L c G o D q).2 t m) λH g i j=>by
   cases t with
   |true=>exact ga ⟨G.hj,i,g,G.hA⟩ j n h
   |false=>exact gb ⟨G.hj,i,g,G.hA⟩ j r h
theorem AZ:fY B T cf k .nil:=λ{A W a b f ρ s c e d i} G g j h=>
 eE (P:=λc=>au B A a b f W (execs c a) e d i) j (tE h (g▸xd G.I G.E))
theorem zn{st:St}{r:Sts}(g:eu B T cf k st)(gr:fY B T cf k r):fY B T cf k (.cons st r):=λ{A W a c t ρ s i p l y} G e d h=>
 bT (P:=λi=>au B A a c t W (execs i a) p l y) d λx q d=>(b2 d).elim λf m=>nE h (λn j b h=>kM (g G e f b) λz u w o=>gr ⟨G.hj,w,u,G.hA⟩ o m h)
  λv n j b h=>tE (congrArg some h) (lZ (g G e f b))
theorem uV(L:Lvl B p T cf k)(i j:Nat)(e:Mine.E):eu B T cf k (.unpack i j e):=λ{A W f g q ρ s x o n t} G O m h=>
 fB (P:=λx=>au B A f g q W (exec x f) o n t) m λa v pos m=>v1E (P:=λa=>au B A f g q W (exec (.Assign a v pos) f) o n t) m λa m=>
  yw (P:=λa=>au B A f g q W (exec (.Assign [a] v pos) f) o n t) m λC w z m=>bT (P:=λC=>au B A f g q W (exec (.Assign [.Tuple C w z] v pos) f) o n t) m λx r m=>
  v1E (P:=λr=>au B A f g q W (exec (.Assign [.Tuple (x::r) w z] v pos) f) o n t) m λy m=>dQ (P:=λx=>au B A f g q W (exec (.Assign [.Tuple [x,y] w z] v pos) f) o n t) m λM K m=>
  dQ (P:=λy=>au B A f g q W (exec (.Assign [.Tuple [.Name M K,y] w z] v pos) f) o n t) m λX Z m=>z7 (b7 m) λR F J N D Y Q=>bE h λu U H h=>by
   refine cp λ_ w=>?_
   refine x12 (gR h) λl c h=>?_
   subst c
   refine x22 (wP h) λa b d h=>?_
   subst d
   refine w ?_
   exact tE h (pN G.hA.handled G.I G.E G.hj (cS R) (dX F) (cS J) (dX N) (bl L e G O Q H).1 tq (pM D))
theorem tJ(L:Lvl B p T cf k)(o:Mine.E)(a:Nat)(e:Mine.E):eu B T cf k (.setattr o a e):=λ{A W c d j ρ s x i g l} G r f h=>
 fB (P:=λx=>au B A c d j W (exec x c) i g l) f λb v pos f=>v1E (P:=λb=>au B A c d j W (exec (.Assign b v pos) c) i g l) f λb f=>
  pI (P:=λb=>au B A c d j W (exec (.Assign [b] v pos) c) i g l) f λy n Q f=>z3 (b3 f) λH q z=>bE h λu K t h=>bE h λN O m h=>oE h λM C w=>by
   obtain rfl:=(aH.mp H).trans (congrFun L.nm a)
   exact tE w (nQ L.X G.I G.E (bl L e G r q t).1 (λR F D J=>(bl L o ⟨G.hj,D,F,G.hA⟩ J z m).1) (L.own▸C) pL)
theorem uW(L:Lvl B p T cf k)(o i e:Mine.E):eu B T cf k (.setidx o i e):=λ{A W a c j ρ s x g f m} G F d h=>
 fB (P:=λx=>au B A a c j W (exec x a) g f m) d λb v pos d=>v1E (P:=λb=>au B A a c j W (exec (.Assign b v pos) a) g f m) d λb d=>
  nI (P:=λb=>au B A a c j W (exec (.Assign [b] v pos) a) g f m) d λy z Q d=>z3 (b3 d) λK t C=>bE h λu M w h=>bE h λO R r h=>bE h λX N J h=>oE h λU D h=>
   tE h (pP G.hA.u G.I G.E (bl L e G F K w).1 (λH l n q=>(bl L o ⟨G.hj,n,l,G.hA⟩ q t r).1) (λH l n q=>(bl L i ⟨G.hj,n,l,G.hA⟩ q C J).1) D tt)
theorem xA(L:Lvl B p T cf k)(c:Mine.E){b:Sts}(g:fY B T cf k b):eu B T cf k (.while_ c b):=λ{A W a d o ρ s x i n q} G D l h=>
 wY (P:=λx=>au B A a d o W (exec x a) i n q) l λt y e p l=>z3 (b3 l) λz H w=>eE (P:=λe=>au B A a d o W (exec (.While t y e p) a) i n q) z
  (tw G.I G.E (D▸h) (λr F v b C j m f u=>(bl L c ⟨G.hj,m,j,G.hA⟩ rfl H f).2 b u) λr F i J C j m f=>g ⟨G.hj,m,j,G.hA⟩ rfl w f)
theorem A1(L:Lvl B p T cf k)(i:Nat)(src:Mine.E){b:Sts}(g:fY B T cf k b):eu B T cf k (.for_ i src b):=λ{A W c d q ρ s x l m r} G H f h=>
 AL (P:=λx=>au B A c d q W (exec x c) l m r) f λa iter y e p f=>dQ (P:=λa=>au B A c d q W (exec (.For a iter y e p) c) l m r) f λn w f=>z6 (b6 f) λD M u z F t=>
  eE (P:=λe=>au B A c d q W (exec (.For (.Name n w) iter y e p) c) l m r) D (bE h λv N o h=>oE h λJ j h=>
   xk G.hA.handled G.I G.E G.hj (cS M) (dX u) (bO z c) (bl L src G H F o).1 j (yf j h) λO R l U Q C K o=>g ⟨G.hj,K,C,G.hA⟩ rfl t o)
theorem s8{op:Op}{a b:Int}{r:V}(h:lf op (.int a) (.int b)=some r):∃c,r=.int c:=by
 cases op with
 |add=>exact⟨_,(Option.some.inj (show some (V.int (a+b))=some r from h)).symm⟩
 |_=>exact⟨_,(cw h).2.symm⟩
theorem uX(L:Lvl B p T cf k)(o i:Mine.E)(op:Op)(e:Mine.E):eu B T cf k (.augidx o i op e):=λ{A W j l H ρ s x F C J} G he m h=>
 yD (P:=λx=>au B A j l H W (exec x j) F C J) m λa N v p m=>nI (P:=λa=>au B A j l H W (exec (.AugAssign a N v p) j) F C J) m λy z px m=>z6 (b6 m) λc1 Q X c4 K R=>
  bE h λov s1 U h=>bE h λiv s2 M h=>oE h λZ h3 h=>bE h λu s3 Y g=>by
   refine cp λ_ O=>?_
   refine x12 (bw g) λa d g=>?_
   subst d
   refine x12 (bw g) λb f g=>?_
   subst f
   obtain rfl:=me Q
   refine O ?_
   exact oE g λr D g=>oE g λs4 h6 g=>(s8 D).elim λc q=>tE g (pS G.hA.u (sF c1) G.I G.E (bl L o G he c4 U).1 (λW1 n w t=>(bl L i ⟨G.hj,w,n,G.hA⟩ t K M).1) h3
    (λW1 n w t=>(bl L e ⟨G.hj,w,n,G.hA⟩ t R Y).1) (q▸D) (q▸h6) (pz X))
theorem yp{x:Nat}{op:Op}{v:V}{s s':S}{fl:Fl}{ρ':List V}{P:Fl->List V->S->Prop}(h:Ak ρ x op v s=some (fl,ρ',s'))
  (h1:∀i m l,lget ρ x=.ref i->op=.add->v=.lst m->s.perm[i]?=some (.list l)->aD m=true->l.length+m.length<=lim->P .next ρ {s with perm:=s.perm.set i (.list (l++m))})
  (h2:∀a b r,lget ρ x=.int a->v=.int b->lf op (.int a) (.int b)=some (.int r)->P .next (lset ρ x (.int r)) s):P fl ρ' s':=by
 delta Ak at h
 cases hl:lget ρ x with
 |ref i=>
  simp only [hl] at h
  refine iE h λf h=>?_
  refine x12 (gy h) λm d h=>?_
  subst d
  refine x12 (eN h) λl o h=>?_
  exact iE h λk h=>(b2 k).elim λj n=>tE h (h1 i m l hl (by cases op<;>first|rfl|exact absurd f (by decide)) rfl o j (of_decide_eq_true n))
 |int a=>
  replace h:=hl▸h
  refine x12 (bw h) λb e h=>?_
  subst e
  exact oE h λr g h=>(s8 g).elim λc q=>tE h (q▸h2 a b c hl rfl (q▸g))
 |_=>simp only [hl] at h;exact nn h
theorem Ba(L:Lvl B p T cf k)(i:Nat)(op:Op)(e:Mine.E):eu B T cf k (.aug i op e):=λ{A W c d t ρ s x F C H} G he f h=>
 yD (P:=λx=>au B A c d t W (exec x c) F C H) f λa N v p f=>dQ (P:=λa=>au B A c d t W (exec (.AugAssign a N v p) c) F C H) f λn px f=>z5 (b5 f) λJ D U Y M=>by
  obtain rfl:=me Y
  by_cases q:(lget ρ i).ctorIdx=0
  ·exact nn ((if_pos q).symm.trans h)
  ·refine bE ((if_neg q).symm.trans h) λu K O h=>?_
   have R:∀g,Inv B g->az B c d t ρ g->g.s=W.s->am B A g (eval v c) u K:=λg X E1 e1=>(bl L e ⟨G.hj,E1,X,G.hA⟩ (e1.trans he) M O).1
   refine yp h (λj m l y Q z o w Z=>?_) λa b r y z hr=>?_
   ·subst Q;subst z
    exact nV G.I G.E G.hj (cS J) (dX D) y R o w Z
   ·subst z
    exact pT G.I G.E G.hj (cS J) (dX D) (sF U) y R hr
theorem r8(E:az B env ctx ks ρ W){elt:Expr}{gs:List Comprehension}{scope:Scope}{vp px:Pos}{n:Str}{l:Nat}(h:jP ks scope.names n px.line vp.line=true):
  ks.lookup n=some .local /\swapsWith (.ListComp elt gs scope vp) (some (.Name n px)) l env=pure true:=z3 (b3 h) λg c d=>by
 have a:=bD (x:=.local) g
 refine⟨a,?_⟩
 show(pure (env.blockKind==.function&&env.kindOf n==some .local &&px.line==vp.line&& !(scope.names.any λ(m,kk)=>m==n&& (kk==.local ||kk==.cell))):Sem Bool)=pure true
 have a1:env.blockKind=.function:=by unfold Env.blockKind;rw [E.kind];rfl
 have a2:env.kindOf n=some .local :=by unfold Env.kindOf;exact E.names▸a
 have f:px.line=vp.line:=Nat.eq_of_beq_eq_true c
 have b:(scope.names.any λ(m,kk)=>m==n&& (kk==.local ||kk==.cell))=false:=List.any_eq_false.mpr λy i q=>by
  have:=(List.all_eq_true.mp d) y i
  obtain⟨m,kk⟩:=y
  have e:(m==n&& (kk==.local ||kk==.cell))=(seqb m n&& (Nat.beq kk.ctorIdx 0||Nat.beq kk.ctorIdx 1)):=by
   refine(show(m==n)=seqb m n from dz.symm)▸?_;cases kk<;>rfl
  rw [show(seqb (m,kk).1 n&& (Nat.beq (m,kk).2.ctorIdx 0||Nat.beq (m,kk).2.ctorIdx 1))=true from e.symm.trans q] at this
  exact ff this
 simp only [a1,a2,f,b,show(vp.line==vp.line)=true from beq_self_eq_true _]
 rfl
theorem tK(L:Lvl B p T cf k)(i:Nat){lk:Lk}{elt:Mine.E}{j:Nat}{src:Mine.E}{n:Str}{px pos:Pos}{v:Expr}{u:V}{s s':S}
  (hc:gz (λy xn iter ifs scope vp=>ifs.isEmpty&& !wc lk&&jP ks scope.names n px.line vp.line&&du iter&&dh ctx ks scope xn j&&aU T src ctx ks iter&&aU T elt ((xn,j)::ctx) (relab ks scope.names) y) v=true)
  (G:At B k A env ctx ks ρ W) (e:W.s=s) (c1:at_ ctx n i=true) (h:ev cf (.comp lk elt j src) ρ s=some (u,s')):
  au B A env ctx ks W (exec (.Assign [.Name n px] v pos) env) .next (lset ρ i u) s':=
 jF (P:=λv=>au B A env ctx ks W (exec (.Assign [.Name n px] v pos) env) .next (lset ρ i u) s') hc λy xn b iter ifs scope vp hc=>z7 (b7 hc) λo H w g r q C=>
  eE (P:=λifs=>au B A env ctx ks W (exec (.Assign [.Name n px] (.ListComp y [⟨.Name xn b,iter,ifs,0⟩] scope vp) pos) env) .next (lset ρ i u) s') o (bE h λJ D t h=>oE h λx a h=>bE h λz F d h=>by
   have K:=cG r
   have R:=(bl L src G e q t).1
   have P:=qW (env:=env) (ρ:=ρ) (bl L elt) G.hj G.hA K C
   refine x02 (r8 G.E w (elt:=y) (gs:=[⟨.Name xn b,iter,[],0⟩]) (l:=pos.line)) λm f=>?_
   by_cases hp:lk.ctorIdx=2
   ·exact iE ((if_pos hp).symm.trans h) λc h=>pE (P:=λu s'=>au B A env ctx ks W (exec (.Assign [.Name n px] (.ListComp y [⟨.Name xn b,iter,[],0⟩] scope vp) pos) env) .next (lset ρ i u) s') h
     (kN G.hA.handled G.I G.E G.hj K R a (rI a d) c P (bO g env) (cS c1) m f)
   ·exact pE (P:=λu s'=>au B A env ctx ks W (exec (.Assign [.Name n px] (.ListComp y [⟨.Name xn b,iter,[],0⟩] scope vp) pos) env) .next (lset ρ i u) s') ((if_neg hp).symm.trans h)
     (gV G.hA.handled G.I G.E G.hj K R a (rI a d) P (bO g env) (cS c1) m f))
theorem nW(L:Lvl B p T cf k)(i:Nat){elt:Mine.E}{j:Nat}{src c:Mine.E}{n:Str}{px pos:Pos}{v:Expr}{u:V}{s s':S}
  (hc:gz (λy xn iter ifs scope vp=>v1 (λz=>jP ks scope.names n px.line vp.line&&du iter&&dh ctx ks scope xn j&&aU T src ctx ks iter&&aU T elt ((xn,j)::ctx) (relab ks scope.names) y&&aU T c ((xn,j)::ctx) (relab ks scope.names) z) ifs) v=true)
  (G:At B k A env ctx ks ρ W) (e:W.s=s) (c1:at_ ctx n i=true) (h:ev cf (.compIf elt j src c) ρ s=some (u,s')):
  au B A env ctx ks W (exec (.Assign [.Name n px] v pos) env) .next (lset ρ i u) s':=
 jF (P:=λv=>au B A env ctx ks W (exec (.Assign [.Name n px] v pos) env) .next (lset ρ i u) s') hc λy xn d iter ifs scope vp hc=>v1E (P:=λifs=>au B A env ctx ks W (exec (.Assign [.Name n px] (.ListComp y [⟨.Name xn d,iter,ifs,0⟩] scope vp) pos) env) .next (lset ρ i u) s') hc λz hc=>z6 (b6 hc) λr m b l x C=>
  bE h λH D q h=>oE h λt a h=>bE h λw F f h=>(r8 G.E r).elim λo g=>
   pE (P:=λu s'=>au B A env ctx ks W (exec (.Assign [.Name n px] (.ListComp y [⟨.Name xn d,iter,[z],0⟩] scope vp) pos) env) .next (lset ρ i u) s') h
    (gV G.hA.handled G.I G.E G.hj (cG b) (bl L src G e l q).1 a (sQ a f) (vn (bl L elt) (bl L c) G.hj G.hA (cG b) x C) (bO m env) (cS c1) o g)
theorem Bb(L:Lvl B p T cf k)(i:Nat)(e:Mine.E):eu B T cf k (.asg i e):=λ{A W f d l ρ s x J F K} G M r h=>
 fB (P:=λx=>au B A f d l W (exec x f) J F K) r λb v pos r=>v1E (P:=λb=>au B A f d l W (exec (.Assign b v pos) f) J F K) r λb r=>
  wZ (P:=λb=>au B A f d l W (exec (.Assign [b] v pos) f) J F K) r λn D r=>z3 (b3 r) λN Q g=>bE h λu C q h=>tE h (by
   delta Cb at g
   by_cases h12:e.ctorIdx=12
   ·rw [dif_pos h12] at g
    exact Mine.E.comp.elim (motive_1:=λe=>∀h12:e.ctorIdx=12,(Mine.E.comp.elim e h12 λO o j m=>
     gz (λy w iter t a H=>t.isEmpty&& !wc O&&jP l a.names n D.line H.line&&du iter&&dh d l a w j&&aU T m d l iter&&aU T o ((w,j)::d) (relab l a.names) y) v)=true->
     ev cf e ρ s=some (u,C)->au B A f d l W (exec (.Assign [.Name n D] v pos) f) .next (lset ρ i u) C) e h12 (λO o j m _ g q=>tK L i g G M N q) h12 g q
   ·rw [dif_neg h12] at g
    by_cases h13:e.ctorIdx=13
    ·rw [dif_pos h13] at g
     exact Mine.E.compIf.elim (motive_1:=λe=>∀h13:e.ctorIdx=13,(Mine.E.compIf.elim e h13 λo j m c=>
      gz (λy w iter t a H=>v1 (λz=>jP l a.names n D.line H.line&&du iter&&dh d l a w j&&aU T m d l iter&&aU T o ((w,j)::d) (relab l a.names) y&&aU T c ((w,j)::d) (relab l a.names) z) t) v)=true->
      ev cf e ρ s=some (u,C)->au B A f d l W (exec (.Assign [.Name n D] v pos) f) .next (lset ρ i u) C) e h13 (λo j m c _ g q=>nW L i g G M N q) h13 g q
    ·rw [dif_neg h13] at g
     exact(b2 g).elim λg R=>se G.I G.E G.hj (cS N) (dX Q) (bl L e G M R q).1 (nN g))
mutual
theorem zg(L:Lvl B p T cf k):∀st:St,eu B T cf k st
 |.wild=>λ_ _ _ h=>nn h
 |.asg i e=>Bb L i e
 |.unpack i j e=>uV L i j e
 |.setattr o a e=>tJ L o a e
 |.setidx o i e=>uW L o i e
 |.aug i op e=>Ba L i op e
 |.augidx o i op e=>uX L o i op e
 |.expr e=>zm L e
 |.ite c a b=>A0 L c (i7 L a) (i7 L b)
 |.for_ i src b=>A1 L i src (i7 L b)
 |.while_ c b=>xA L c (i7 L b)
 |.ret e=>AY L e
 |.ret0=>zk
theorem i7(L:Lvl B p T cf k):∀st:Sts,fY B T cf k st
 |.nil=>AZ
 |.cons st r=>zn (zg L st) (i7 L r)
end
end
structure fW(T:Tab)(fn:Fn)(nm0 nm1 nm2:Str)(fd:FuncData)(c1 c2:Addr):Prop where
 body:∃b,fd.body=.stmts b/\dp T fn.body fn.ctx fd.scope.names b=true
 kind:fd.scope.kind=.function
 co:fd.scope.isCoroutine=false
 gen:fd.scope.isGenerator=false
 glob:fd.globals=mainGlobals
 blt:fd.builtins=builtinsNs
 params:cI fd [nm2]
 dflt:fd.defaults=.none
 clo0:fd.closure.lookup nm0=some c1
 clo1:fd.closure.lookup nm1=some c2
 k0:fd.scope.names.lookup nm0=some .free
 k1:fd.scope.names.lookup nm1=some .free
 k2:fd.scope.names.lookup nm2=some .local
 noCell:∀x∈fd.scope.names,x.2≠ .cell
 ctx0:fn.ctx.lookup nm0=some 0
 ctx1:fn.ctx.lookup nm1=some 1
 ctx2:fn.ctx.lookup nm2=some 2
 only:∀nm,fd.scope.names.lookup nm=some .free->nm=nm0\/nm=nm1
 inj:bk fn.ctx
 np:fn.params=3
 nd:fn.dflt=[]
section
variable {prog:Program}{w:World}{B:Base prog w}{p:Prog}{T:Tab}
variable {A:Around}{n:Nat}{W:Mo}
noncomputable def fT(fd:FuncData)(L a:Addr):Env:=newEnv fd.scope L fd.globals fd.closure (fd.qualname++".<locals>.") (some a) fd.code none fd.builtins
theorem tM{a:Addr}{fn:Fn}{nm0 nm1 nm2:Str}{q r u:V}{val:Value}{fl:Fl}{ρ':List V}{s':S}{v:V}{R:Result->Shared->Prop}
  (hR0:∀fd c1 c2,B.roll fd c1 c2->fW T fn nm0 nm1 nm2 fd c1 c2) (hroom:A.depth<recursionLimit) (I:Inv B W) (hc:Rep B W (.clo q r) (.ref a)) (ha:Rep B W u val) (hv:v=fl.val) (hnt:aV v=true)
  (hbody:∀fd c1 c2 b L W1,fW T fn nm0 nm1 nm2 fd c1 c2->fd.body=.stmts b->W1.s=W.s->Inv B W1->az B (fT fd L a) fn.ctx fd.scope.names (dw fn [q,r,u]) W1->
   au B (A.deeper (fT fd L a)) (fT fd L a) fn.ctx fd.scope.names W1 (execs b (fT fd L a)) fl ρ' s')
  (hR:∀val sh',Post B W {s' with tmps:=s'.tmps.take W.s.tmps.length} (λW' x=>Rep B W' v x) val sh'->R (.ok (.ret val)) sh'):
  codeAny (model prog w) A (.call (.ref a) ⟨[val],[]⟩) R W.sh:=by
 refine cp λ_ kk=>?_
 obtain⟨a',o,c1,c2,v1,v2,ea,hf,c4,c6,ho,⟨fd,M,J,cc,oc,vs,t,d1,d2,d3,d4⟩,a6,b1,hq,hr⟩:=hc
 refine kk ?_
 try clear hf
 obtain rfl:=Value.ref.inj ea
 have X:=hR0 fd c1 c2 J
 refine x12 X.body λb hb d7=>?_
 have d6:W.h.CodeRec fd.code fd.qualname:=i43 cc oc vs t d1 (by exact d3) d4
 have Q:W.h.NoLimit:=by
  refine x12 B.nolimit λmc l m=>?_
  exact i12 mc (l.keeps I.base) m
 have C:wpAny (model prog w) A.in1 (bindArgs fd ⟨[val],[]⟩) (λb s'=>b=[(nm2,val)]/\s'=W.sh) (λ_ _=>False) W.sh:=by
  refine fV X.params (ds:=[]) (Nat.zero_lt_succ _) (Nat.zero_lt_succ _) (by simp) ?_ ⟨rfl,rfl⟩
  exact X.dflt▸wpAny_bind (wpAny_pure (wpAny_pure ⟨rfl,rfl⟩))
 refine codeAny_call_function hroom (ho) M X.co X.gen hb d6 (wpAny_mono C (λc7 s1 c5=>?_) λ_ _ q=>q.elim)
 obtain⟨rfl,rfl⟩:=c5
 refine wpAny_newFunctionEnv X.noCell (λx hx=>by exact(List.mem_singleton.mp hx)▸X.k2) (λO U a7=>?_) X.kind
 have y:∀b o,W.h.get? b=some o->O.get? b=some o:=λb o q=>by
  have hb:b≠W.h.objs.size:=λz=>by rw [z] at q;exact Nat.lt_irrefl _ (Heap.lt_size q)
  rw [a7.2 b hb];exact Heap.get?_push_of_some _ q
 refine⟨Q.keeps λb o q=>y b o (by exact q),codeAny_func ?_⟩
 have D:W.h.get? W.h.objs.size=none:=by exact ba _
 have Z:(O.get? W.h.objs.size).isSome:=by obtain⟨o,_,_,ho,_⟩:=U;rw [ho];rfl
 obtain⟨I1,Y⟩:=I.ext (sh':={W.sh with heap:=O,toks:=W.sh.toks+1}) (F':=λb=>W.g.F b\/b=W.h.objs.size) y
  (λb h=>h.imp id λh=>by subst h;exact⟨D,Z⟩) (λb h=>.inl h) ⟨rfl,rfl⟩
 have C1:=Y.carry I λ_ q=>q.elim
 have p:∀k i,live W.s k i->W.g.adr k i≠W.h.objs.size:=λk i hl q=>by
  have:=I.fdom _ (I.inF k i hl)
  rw [q,D] at this;exact ff this
 have nf:∀c N,¬W.g.F c->W.h.get? c=some N->¬(W.g.F c\/c=W.h.objs.size):=λc N h1 h2 h=>by
  refine(h).elim (λh=>?_) (λh=>?_)
  ·exact h1 h
  ·rw [h,D] at h2;exact nn h2
 have E1:az B (fT fd W.h.objs.size a) fn.ctx fd.scope.names (dw fn [q,r,u]) ⟨W.s,⟨W.g.adr,λb=>W.g.F b\/b=W.h.objs.size⟩,{W.sh with heap:=O,toks:=W.sh.toks+1}⟩:=by
  have f0:lget (dw fn [q,r,u]) 0=q:=rfl
  have f1:lget (dw fn [q,r,u]) 1=r:=rfl
  have d0:∀x,3<=x->lget (dw fn [q,r,u]) x=.undef:=λx hx=>by
   unfold dw
   rw [X.nd]
   have:([q,r,u]++([]:List V).drop ([q,r,u].length+([]:List V).length - fn.params))=[q,r,u]:=by simp
   rw [this,cM (hx),bG]
  refine⟨X.kind,rfl,X.glob,X.blt,i12 _ U (λK x l m h5=>?_),i03 (.inr rfl) Z (λk i hl=>p k i hl),λK x l m=>absurd (rfl:NameKind.cell=.cell) (X.noCell _ (ao m)),λK x l m=>?_,λK e8 x x' c l m h5 h6 h7 h8=>absurd (rfl:NameKind.cell=.cell) (X.noCell _ (ao h5))⟩
  ·
   match x,l with
   |0,l=>
    have:=X.inj _ _ 0 l X.ctx0
    subst this
    rw [X.k0] at m;cases m
   |1,l=>
    have:=X.inj _ _ 1 l X.ctx1
    subst this
    rw [X.k1] at m;cases m
   |2,l=>
    have:=X.inj _ _ 2 l X.ctx2
    subst this
    refine i12 val ?_ (ha.mono C1)
    show([(K,val)]:List (Str×Value)).lookup K=some val
    simp
   |x+3,l=>exact absurd (d0 (x+3) (by lia)) h5
  ·
   refine(X.only K m).elim (λd=>?_) (λe=>?_)
   ·subst d
    obtain⟨N,n,H⟩:=a6
    obtain rfl:=Option.some.inj (X.ctx0.symm.trans l)
    exact i24 c1 v1 X.clo0 ⟨N,y _ _ n,H⟩ (nf _ _ c4 n) (by exact f0▸hq.mono C1)
   ·subst e
    obtain⟨N,n,H⟩:=b1
    obtain rfl:=Option.some.inj (X.ctx1.symm.trans l)
    exact i24 c2 v2 X.clo1 ⟨N,y _ _ n,H⟩ (nf _ _ c6 n) (by exact f1▸hr.mono C1)
 refine wpAny_mono (hbody fd c1 c2 b _ ⟨W.s,⟨W.g.adr,λb=>W.g.F b\/b=W.h.objs.size⟩,{W.sh with heap:=O,toks:=W.sh.toks+1}⟩ X hb rfl I1 E1) (λf e7 h=>?_) λ_ _ q=>q.elim
 obtain⟨W2,rfl,a9,I2,st2,a0⟩:=h
 have P:Step (λ_=>False) W W2:=by
  refine((Y.mono λb q _=>q.elim).trans st2).mono λb q hq=>?_
  refine(q).elim (λq=>?_) (λj=>?_)
  ·rw [show b=W.h.objs.size from q,D] at hq;exact ff hq
  ·refine x23 j λK x h1 h2 _=>?_
   exact absurd (rfl:NameKind.cell=.cell) (X.noCell _ (ao h2))
 obtain⟨W3,s3,l,I3,st3,tr⟩:=I2.trunc P
 refine hR _ _ ⟨W3,l,by rw [s3,a9],I3,st3,?_⟩
 cases fl with
 |next=>
  obtain⟨rfl,_⟩:=a0
  refine hv▸?_;rfl
 |ret u=>
  obtain⟨x,rfl,hx⟩:=a0
  exact tr v x hnt (hv▸hx)
end
section
variable {prog:Program}{w:World}{B:Base prog w}{p:Prog}{T:Tab}
structure Defs(B:Base prog w)(p:Prog)(T:Tab):Prop where
 fn:∀f fn,f≠0->p.fn f=some fn->∃fd body nms ds,FnK B.K (B.fa f) fn fd body nms ds/\dp T fn.body fn.ctx fd.scope.names body=true/\keepIn B.K (.ref (B.fa f))=true
 K:T.K=B.K
 fa:T.fa=B.fa
 ca:T.ca=B.ca
 nm:T.nm=B.nm
 X:Facts B p T.nC
 m0:∀c m,p.meth c m≠some 0
 i0:∀c,p.init c≠some 0
 roll:∃fn nm0 nm1 nm2,p.fn 0=some fn/\∀fd c1 c2,B.roll fd c1 c2->fW T fn nm0 nm1 nm2 fd c1 c2
theorem nk(p:Prog)(k:Nat):(p.cf k).meth=p.meth/\(p.cf k).init=p.init/\(p.cf k).own=p.own:=by
 cases k<;>exact i03 rfl rfl rfl
theorem fc{p:Prog}{k f:Nat}{args:List V}{s:S}{r:V×S}(h:(p.cf (k+1)).call f args s=some r):∃fn,p.fn f=some fn/\kJ (p.cf k) fn args s=some r:=by
 have h:(match p.fn f with|some fn=>kJ (p.cf k) fn args s|none=>none)=some r:=h
 cases hfn:p.fn f with
 |none=>replace h:=hfn▸h;exact nn h
 |some fn=>rw [hfn] at h;exact i12 fn rfl h
theorem lS{cf:Cf}{fn:Fn}{args:List V}{s s':S}{r:V}{P:V->S->Prop}(h:kJ cf fn args s=some (r,s'))
  (H:∀fl ρ' s1,args.length<=fn.params->fn.params<=args.length+fn.dflt.length->exs cf fn.body (dw fn args) s=some (fl,ρ',s1)->aV fl.val=true->P fl.val {s1 with tmps:=s1.tmps.take s.tmps.length}):P r s':=
 iE h λa h=>oE h λq hq h=>iE h λb h=>pE h (H q.1 q.2.1 q.2.2 a.1 a.2 hq b)
theorem Defs.lvl(D:Defs B p T){k:Nat}(Y:Callee B (p.cf k) k):Lvl B p T (p.cf k) k:=
 ⟨D.K,D.fa,D.ca,D.nm,D.X,(nk p k).1,(nk p k).2.1,(nk p k).2.2,D.m0,D.i0,Y⟩
theorem Defs.callee(D:Defs B p T)(k:Nat):Callee B (p.cf k) k:=by
 induction k with
 |zero=>exact⟨λf d r s e _ h=>nn h,λf d r s e _ h=>nn h,λq r u x s e h=>nn h⟩
 |succ k Y=>
  have L:=D.lvl Y
  refine⟨λf d r s e H h A W n R m I M z l=>?_,λf d r s e H h=>?_,λq r u x s e h A W a c R m I M hc z l=>?_⟩
  ·refine(fc h).elim λfn h=>(D.fn f fn H h.1).elim λQ X=>x33 X λbody v Z X g _=>?_
   refine lS (P:=λr e=>(∀c sh',Post B W e (λt x=>Rep B t r x) c sh'->R (.ok (.ret c)) sh')->codeAny (model prog w) A (.call (.ref (B.fa f)) ⟨n,[]⟩) R W.sh) h.2 (λfl ρ' U O N i j l=>?_) l
   subst M
   exact uQ X m.room I z O N rfl j (λLc W1 J C K=>i7 L fn.body ⟨X.inj,K,C,m.deeper _⟩ J g i) l
  ·exact(fc h).elim λfn h=>(D.fn f fn H h.1).elim λQ X=>x33 X λbody v Z X g hk=>hk
  ·refine(fc h).elim λfn h=>D.roll.elim λF X=>x31 X λa7 a6 a9 X=>?_
   obtain rfl:=Option.some.inj (X.1.symm.trans h.1)
   refine lS (P:=λx e=>(∀c sh',Post B W e (λt y=>Rep B t x y) c sh'->R (.ok (.ret c)) sh')->codeAny (model prog w) A (.call (.ref a) ⟨[c],[]⟩) R W.sh) h.2 (λfl ρ' U O N i j l=>?_) l
   subst M
   refine tM (ρ':=ρ') X.2 m.room I hc z rfl j (λQ c1 c2 b Lc W1 X hb J C K=>X.body.elim λb' o=>?_) l
   obtain rfl:=FuncBody.stmts.inj (hb.symm.trans o.1)
   exact i7 L F.body ⟨X.inj,K,C,m.deeper _⟩ J o.2 i
end
theorem ntb{b:Bool}(h:(!b)=true):b=false:=by cases b;rfl;exact ff h
theorem ol{α:Type}{P:Option α->Prop}{o:Option α}(h:o.isNone=true)(H:P none):P o:=by obtain rfl:=Option.isNone_iff_eq_none.mp h;exact H
theorem AX{P:Str->Prop}{a b:Str}(h:seqb a b=true)(H:P b):P a:=aH.mp h▸H
noncomputable def mh{α:Type}(eq:α->α->Bool):List α->Bool
 |[]=>true
 |a::r=> !r.any (eq a)&&mh eq r
theorem ly{α:Type}{eq:α->α->Bool}(hr:∀a,eq a a=true){l:List α}(h:mh eq l=true):l.Nodup:=by
 induction l with
 |nil=>exact List.nodup_nil
 |cons a r ih=>exact(b2 h).elim λb c=>List.nodup_cons.mpr ⟨λq=>by rw [List.any_eq_true.mpr ⟨a,q,hr a⟩] at b;exact ff b,ih c⟩
noncomputable def q4:List Str->Bool:=mh seqb
theorem q0{l:List Str}(h:q4 l=true):l.Nodup:=ly (λ_=>aH.mpr rfl) h
theorem zN{α β:Type}{f:α->β}{l:List α}(h:(l.map f).Nodup){a b:α}(ha:a∈l)(hb:b∈l)(e:f a=f b):a=b:=by
 induction l with
 |nil=>exact nomatch ha
 |cons x r ih=>
  have h:=List.nodup_cons.mp h
  refine(List.mem_cons.mp ha).elim (λp=>(List.mem_cons.mp hb).elim (λq=>p.trans q.symm) λq=>?_) λp=>(List.mem_cons.mp hb).elim (λq=>?_) λq=>ih h.2 p q
  ·exact absurd (List.mem_map.mpr ⟨b,q,e.symm.trans (congrArg f p)⟩) h.1
  ·exact absurd (List.mem_map.mpr ⟨a,p,e.trans (congrArg f q)⟩) h.1
noncomputable def wj(ctx:List (Str×Nat)):Bool:=mh Nat.beq (ctx.map (·.2))
theorem ib{ctx:List (Str×Nat)}(h:wj ctx=true):bk ctx:=λ_ _ _ b a=>(Prod.mk.inj (zN (ly Nat.beq_refl h) (ao b) (ao a) rfl)).1
noncomputable def wD(ctx:List (Str×Nat)):List Str->Nat->Bool
 |[],_=>true
 |n::r,i=>at_ ctx n i&&wD ctx r (i+1)
theorem ug{ctx:List (Str×Nat)}{l:List Str}:∀ {k:Nat},wD ctx l k=true->∀i (h:i<l.length),ctx.lookup l[i]=some (k+i):=by
 induction l with
 |nil=>exact λ_ i a=>absurd a (Nat.not_lt_zero i)
 |cons n r ih=>
  intro k h i a
  refine(b2 h).elim λc b=>?_
  cases i with
  |zero=>exact cS c
  |succ i=>exact(ih b i (Nat.lt_of_succ_lt_succ a)).trans (congrArg some (Nat.succ_add_eq_add_succ k i))
noncomputable def wA(k:FuncData->Bool)(x:Data):Bool:=if h:x.ctorIdx=7 then Data.func.elim (motive:=λ_=>Bool) x h k else false
theorem wz{k:FuncData->Bool}{P:Data->Prop}{x:Data}(h:wA k x=true)(H:∀f,k f=true->P (.func f)):P x:=
 (dB h).elim λh q=>
 Data.func.elim (motive:=λx=>∀h:x.ctorIdx=7,Data.func.elim (motive:=λ_=>Bool) x h k=true->P x) x h (λf _ q=>H f q) h q
noncomputable def sU(k:Array Value->Bool)(x:Data):Bool:=if h:x.ctorIdx=9 then Data.fields.elim (motive:=λ_=>Bool) x h k else false
theorem wB{k:Array Value->Bool}{P:Data->Prop}{x:Data}(h:sU k x=true)(H:∀f,k f=true->P (.fields f)):P x:=
 (dB h).elim λh q=>
 Data.fields.elim (motive:=λx=>∀h:x.ctorIdx=9,Data.fields.elim (motive:=λ_=>Bool) x h k=true->P x) x h (λf _ q=>H f q) h q
noncomputable def nH(k:String->Bool)(x:Value):Bool:=if h:x.ctorIdx=9 then Value.builtin.elim (motive:=λ_=>Bool) x h k else false
theorem th{k:String->Bool}{P:Value->Prop}{x:Value}(h:nH k x=true)(H:∀f,k f=true->P (.builtin f)):P x:=
 (dB h).elim λh q=>
 Value.builtin.elim (motive:=λx=>∀h:x.ctorIdx=9,Value.builtin.elim (motive:=λ_=>Bool) x h k=true->P x) x h (λf _ q=>H f q) h q
noncomputable def rH(k:List Stmt->Bool):FuncBody->Bool
 |.stmts s=>k s
 |.expr _=>false
theorem sP{k:List Stmt->Bool}{P:FuncBody->Prop}:∀ {b:FuncBody},rH k b=true->(∀s,k s=true->P (.stmts s))->P b:=by
 intro a
 induction a with
 |stmts s=>
  exact @λh H=>H s h
 |expr _=>
  exact @λh _=>ff h
noncomputable def wG(K:Frag)(v:Value)(q:Str):Bool:=pD (λc=>(K.lookup c).elim false λo=>sU (λvs=>(vs[1]?).elim false (yZ λs=>seqb s q)) o.data) v
theorem ui{K:Frag}{v:Value}{q:Str}(h:wG K v q=true):∃c o vs t,v=.ref c/\K.lookup c=some o/\o.data=.fields vs/\vs[1]?=some (.str q t):=
 (fZ h).elim λc h=>cR (P:=λx=>K.lookup c=x->∃c o vs t,v=.ref c/\K.lookup c=some o/\o.data=.fields vs/\vs[1]?=some (.str q t)) h.2 (λo b e=>
  wB (P:=λd=>o.data=d->∃c o vs t,v=.ref c/\K.lookup c=some o/\o.data=.fields vs/\vs[1]?=some (.str q t)) b (λvs g i=>
   cR (P:=λx=>vs[1]?=x->∃c o vs t,v=.ref c/\K.lookup c=some o/\o.data=.fields vs/\vs[1]?=some (.str q t)) g (λx f ex=>x21 (rT f) λs t a=>
    i44 c o vs t h.1 e i (ex.trans (congrArg some (a.1.trans (congrArg (Value.str · t) (aH.mp a.2)))))) rfl) rfl) rfl
noncomputable def rN(K:Frag)(v:Value)(k:List Value->Bool):Bool:=bif Nat.beq v.ctorIdx 0 then k [] else pD (λT=>(K.lookup T).elim false λo=>Ad (λitems=>k items.toList) o.data) v
theorem yz{v:Value}(h:Nat.beq v.ctorIdx 0=true):v=.none:=Value.none.elim (motive:=λv=>v=.none) v (Nat.eq_of_beq_eq_true h) rfl
theorem ue{K:Frag}{v:Value}{k:List Value->Bool}(h:rN K v k=true):∃ds,k ds=true/\((v=.none/\ds=[])\/∃T o items n,v=.ref T/\K.lookup T=some o/\o.data=.seq items n/\items.toList=ds):=by
 delta rN at h
 cases hv:Nat.beq v.ctorIdx 0 with
 |true=>rw [hv] at h;exact i12 [] h (.inl ⟨yz hv,rfl⟩)
 |false=>
  rw [hv] at h
  exact(fZ h).elim λT h=>cR (P:=λx=>K.lookup T=x->∃ds,k ds=true/\((v=.none/\ds=[])\/∃T o items n,v=.ref T/\K.lookup T=some o/\o.data=.seq items n/\items.toList=ds)) h.2
   (λo a e=>x22 (sT a) λitems n c b=>i12 items.toList b (.inr (i44 T o items n h.1 e c rfl))) rfl
noncomputable def n7(p:Arguments):Bool:=p.posonlyargs.isEmpty&&p.kwonlyargs.isEmpty&&p.vararg.isNone&&p.kwarg.isNone&&q4 (p.args.map (·.arg))
theorem n6{fd:FuncData}(h:n7 fd.params=true):cI fd (fd.params.args.map (·.arg)):=
 z5 (b5 h) λb a c e d=>⟨fQ b,rfl,fQ a,Option.isNone_iff_eq_none.mp c,Option.isNone_iff_eq_none.mp e,q0 d⟩
noncomputable def kz(k:ScopeKind):Bool:=Nat.beq k.ctorIdx 1
theorem jg{k:ScopeKind}(h:kz k=true):k=.function:=by cases k<;>first|rfl|exact ff h
structure FdA(fd:FuncData):Prop where
 kind:fd.scope.kind=.function
 co:fd.scope.isCoroutine=false
 gen:fd.scope.isGenerator=false
 clos:fd.closure=[]
 glob:fd.globals=mainGlobals
 blt:fd.builtins=builtinsNs
 params:cI fd (fd.params.args.map (·.arg))
 noFree:∀nm,fd.scope.names.lookup nm≠some .free
noncomputable def fdA(fd:FuncData):Bool:=kz fd.scope.kind&& !fd.scope.isCoroutine&& !fd.scope.isGenerator&&fd.closure.isEmpty&&Nat.beq fd.globals mainGlobals&&Nat.beq fd.builtins builtinsNs&&n7 fd.params&&fd.scope.names.all (λy=> !Nat.beq y.2.ctorIdx 2)
theorem wp{fd:FuncData}(h:fdA fd=true):FdA fd:=z8 (b8 h) λi b f d c a j g=>
 ⟨jg i,ntb b,ntb f,fQ d,Nat.eq_of_beq_eq_true c,Nat.eq_of_beq_eq_true a,n6 j,λk e=>ff (show false=true from List.all_eq_true.mp g _ (ao e))⟩
noncomputable def fdB(K:Frag)(fn:Fn)(fd:FuncData):Bool:=
 fdA fd&&wG K fd.code fd.qualname&&Nat.beq fd.params.args.length fn.params&&rN K fd.defaults (λds=>Nat.ble ds.length fn.params&&lq K fn.dflt ds)&&
 wD fn.ctx (fd.params.args.map (·.arg)) 0&&fd.params.args.all (λa=>kj fd.scope.names a.arg)&&wj fn.ctx
theorem zZ{K:Frag}{fn:Fn}{fd:FuncData}{a:Addr}{body:List Stmt}(h:fdB K fn fd=true)(e:∃o,K.lookup a=some o/\o.data=.func fd)(hb:fd.body=.stmts body):∃nms ds,FnK K a fn fd body nms ds:=
 z7 (b7 h) λq j m c k g r=>x12 (ue c) λds d c=>(b2 d).elim λd p=>by
  have X:=wp q
  have b:(fd.params.args.map (·.arg)).length=fn.params:=(List.length_map ..).trans (Nat.eq_of_beq_eq_true m)
  exact⟨fd.params.args.map (·.arg),ds,e,hb,X.kind,X.co,X.gen,X.clos,X.glob,X.blt,ui j,X.params,b,c,b▸Nat.le_of_ble_eq_true d,p,λi s=>(ug k i s).trans (congrArg some (Nat.zero_add i)),
   λn l=>(List.mem_map.mp l).elim λa f=>f.2▸dX (List.all_eq_true.mp g a f.1),ib r,X.noFree⟩
noncomputable def fnB(T:Tab)(f:Nat)(fn:Fn):Bool:=(T.K.lookup (T.fa f)).elim false λo=>wA (λfd=>fdB T.K fn fd&&rH (λbody=>dp T fn.body fn.ctx fd.scope.names body) fd.body&&keepIn T.K (.ref (T.fa f))) o.data
theorem zX{T:Tab}{f:Nat}{fn:Fn}(h:fnB T f fn=true):
  ∃fd body nms ds,FnK T.K (T.fa f) fn fd body nms ds/\dp T fn.body fn.ctx fd.scope.names body=true/\keepIn T.K (.ref (T.fa f))=true:=
 cR (P:=λx=>T.K.lookup (T.fa f)=x->∃fd body nms ds,FnK T.K (T.fa f) fn fd body nms ds/\dp T fn.body fn.ctx fd.scope.names body=true/\keepIn T.K (.ref (T.fa f))=true) h (λo h e=>
  wz (P:=λd=>o.data=d->∃fd body nms ds,FnK T.K (T.fa f) fn fd body nms ds/\dp T fn.body fn.ctx fd.scope.names body=true/\keepIn T.K (.ref (T.fa f))=true) h (λfd h k=>z3 (b3 h) λj a i=>
   sP (P:=λb=>fd.body=b->∃fd body nms ds,FnK T.K (T.fa f) fn fd body nms ds/\dp T fn.body fn.ctx fd.scope.names body=true/\keepIn T.K (.ref (T.fa f))=true) a (λb c g=>
    x21 (zZ j ⟨o,e,k⟩ g) λnms ds X=>i43 fd b nms ds X c i) rfl) rfl) rfl
noncomputable def Ab(v:Option (Option Value)):Bool:=v.elim false (·.isNone)
noncomputable def yh(v:Option (Option Value))(t:String):Bool:=v.elim false λo=>o.elim false (nH (· ==t))
theorem lQ{v:Option (Option Value)}(h:Ab v=true):v=some none:=cR (P:=λv=>v=some none) h λ_ h=>congrArg some (Option.isNone_iff_eq_none.mp h)
theorem iZ{v:Option (Option Value)}{t:String}(h:yh v t=true):v=some (some (.builtin t)):=
 cR (P:=λv=>v=some (some (.builtin t))) h λ_ h=>congrArg some (cR (P:=λv=>v=some (Value.builtin t)) h λ_ h=>congrArg some (th (P:=λv=>v=.builtin t) h λ_ h=>congrArg _ (eq_of_beq h)))
noncomputable def sD(v:Option (Option Value))(b:Addr):Bool:=v.elim false λo=>o.elim false (pD (Nat.beq · b))
theorem kq{v:Option (Option Value)}{a:Addr}(h:sD v a=true):v=some (some (.ref a)):=
 cR (P:=λv=>v=some (some (.ref a))) h λ_ h=>congrArg some (cR (P:=λv=>v=some (Value.ref a)) h λ_ h=>congrArg some ((fZ h).elim λ_ h=>h.1.trans (congrArg _ (Nat.eq_of_beq_eq_true h.2))))
noncomputable def ky(v:Option Value):Bool:=v.elim false (ut (· =="function"))
theorem jf{v:Option Value}(h:ky v=true):v=some (.type "function"):=
 cR (P:=λv=>v=some (.type "function")) h λ_ h=>congrArg some ((nG h).elim λ_ h=>h.1.trans (congrArg _ (eq_of_beq h.2)))
noncomputable def B4(T:Tab)(p:Prog)(c:Nat):Bool:=
 yh (findIn T.K (.ref (T.ca c)) "__getattribute__") "object.__getattribute__" &&Ab (findIn T.K (.ref (T.ca c)) "__getattr__")&&
 yh (findIn T.K (.ref (T.ca c)) "__setattr__") "object.__setattr__" &&plainOver T.K (T.ca c)&&hasDictIn T.K (T.ca c)&&makesIn T.K (T.ca c)&&
 (match p.init c with
  |some f=>sD (findIn T.K (.ref (T.ca c)) "__init__") (T.fa f)&&ky (typeIn T.K (.ref (T.fa f)))
  |none=>yh (findIn T.K (.ref (T.ca c)) "__init__") "object.__init__")
noncomputable def Bi(T:Tab)(l:List (Nat×List Nat)):Bool:=l.all λx=>Nat.blt x.1 T.nC&&x.2.all (λa=>Ab (findIn T.K (.ref (T.ca x.1)) (T.nm a)))
noncomputable def yM(T:Tab)(l:List (Nat×Nat×Nat)):Bool:=l.all λx=>Nat.blt x.1 T.nC&&sD (findIn T.K (.ref (T.ca x.1)) (T.nm x.2.1)) (T.fa x.2.2)&&ky (typeIn T.K (.ref (T.fa x.2.2)))
noncomputable def zb:Nat->(Nat->Bool)->Bool
 |0,_=>true
 |n+1,q=>q n&&zb n q
theorem upTo_iff{n:Nat}{q:Nat->Bool}(h:zb n q=true):∀i,i<n->q i=true:=by
 induction n with
 |zero=>exact λi a=>absurd a (Nat.not_lt_zero i)
 |succ n ih=>
  exact(b2 h).elim λb c i a=>(Nat.lt_or_eq_of_le (Nat.le_of_lt_succ a)).elim (ih c i) λe=>e▸b
section
variable {prog:Program}{w:World}{B:Base prog w}{p:Prog}{T:Tab}{cf:Cf}{k:Nat}
variable {A:Around}{W:Mo}{env:Env}{ctx:List (Str×Nat)}{ks:List (Str×NameKind)}{ρ:List V}
theorem iF:∀ {vs:List Value} {ns:List Int},IntsAre vs ns->aA B W (ns.map V.int) vs:=by
 intro a
 induction a with
 |nil=>
  exact @λb c=>match b,c with
  |[],_=>trivial
  |_::_,h=>nomatch h
 |cons _ _ iF=>
  exact @λb c=>match b,c with
  |[],h=>nomatch h
  |n::q,h=>by
   cases h with
   |cons i t h2=>exact⟨⟨_,rfl⟩,iF (by assumption)⟩
theorem l4{sn:Str}{ps psl pss pk:Pos}{kk:Nat}{a:Addr}{items:Array Value}{ns:List Int}{m:Str->Option Value}(I:Inv B W)(hf:env.scope.kind=.function)(hk:env.kindOf sn=some .local)(hd:seqb sn bC=false)
  (hm:W.h.Ns env.locals m) (hs:m sn=some (.ref a)) (hl:W.h.IsList a items) (hfa:¬W.g.F a) (hn:IntsAre items.toList ns) (hlen:ns.length<=63):
  am B A W (eval (.Subscript (.Name sn ps) (.Slice none (some (.Constant (.int 63) kk pk)) none psl) pss) env) (.lst ((pickNums ns none (some 63) none).map .int)) W.s:=by
 have p:(sn==("__debug__" :Str))=false:=beq_eq_false_iff_ne.mpr λq=>by replace hd:=q▸hd;replace hd:=(show seqb "__debug__" bC=true from aH.mpr rfl)▸hd;cases hd
 have J:items.size=ns.length:=by have:=hn.length;simpa using this
 refine wpAny_bind (wpAny_Name (wpAny_loadName_local hf hk (hm) hs ?_) p)
 refine wpAny_bind (wpAny_holding ?_)
 refine wpAny_bind (wq I (show gQ B A W none env .none W.s from ji I) λL u j v st2 P n=>?_)
 refine wpAny_bind (wpAny_holding (wq v (show gQ B A u (some (.Constant (.int 63) kk pk)) env (.int 63) u.s from jh (sa rfl v)) λM f i D st3 Q r=>?_))
 refine wpAny_bind (wpAny_holding (wpAny_pure ?_))
 have c:=st2.trans st3
 obtain rfl:=n
 obtain⟨t,rfl⟩:=r
 have l:=c.carry I λ_ q=>q.elim
 have e:f.sh.heap.IsList a items:=by
  refine x12 hl λo w K=>?_
  exact i12 o ((l.fz a o hfa w).1) K
 refine wpAny_newObj_type (wpAny_bind (wpAny_standAt ?_))
 refine tail_any (Heap.IsList.typeIs (e.push _)) list_getitem_lookup
  (wpAny_getItem_list_slice (e.push _) (Heap.IsSliceOf.new ..) .none (.int _ _) .none (by simp) ?_ (by have:sizeLine=16777216:=rfl;lia)) rfl
 have d:IntsAre (slicePick items none (some 63) none).toList (pickNums ns none (some 63) none):=by
  have:=hn.pick none (some 63) none
  simpa using this
 have x:=length_pickNums_le hn none (some 63) none
 refine x02 (D.ext (sh':={f.sh with heap:=f.h.push {cls:=.type "slice",data:=.fields #[.none,.int 63 t,.none]}}) (F':=f.g.F) (λb o q=>Heap.get?_push_of_some _ q) (λb q=>.inl q) (λb q=>q) ⟨rfl,rfl⟩) λy k=>?_
 exact Post.at_ (c.trans k) (i.trans j) (Post.push y rfl rfl rfl rfl λN a1 a2 O R C z H=>⟨_,slicePick items none (some 63) none,rfl,H,⟨0,z⟩,by
  have:=iK
  simp only [List.length_map];omega,iF d⟩)
end
structure FnL(fd:FuncData)(sn:Str):Prop where
 kind:fd.scope.kind=.function
 co:fd.scope.isCoroutine=false
 gen:fd.scope.isGenerator=false
 clos:fd.closure=[]
 glob:fd.globals=mainGlobals
 blt:fd.builtins=builtinsNs
 params:cI fd [sn]
 dflt:fd.defaults=.none
 loc:fd.scope.names.lookup sn=some .local
 noFree:∀nm,fd.scope.names.lookup nm≠some .free
section
variable {prog:Program}{w:World}{B:Base prog w}{p:Prog}{T:Tab}{cf:Cf}{k:Nat}
variable {A:Around}{W:Mo}{env:Env}{ctx:List (Str×Nat)}{ks:List (Str×NameKind)}{ρ:List V}
theorem tX{a:Addr}{o:Obj}{fd:FuncData}{sn:Str}{body:List Stmt}{val:Value}{R:Result->Shared->Prop}(X:FnL fd sn)(hb:fd.body=.stmts body)(ho:W.h.get? a=some o)(hd:o.data=.func fd)(hcd:W.h.CodeRec fd.code fd.qualname)
  (hroom:A.depth<recursionLimit) (I:Inv B W)
  (hbody:∀L W1 m,W1.s=W.s->Inv B W1->Step (λ_=>False) W W1->(∀b,W.g.F b->W1.g.F b)->(∀ctx b,bQ (callEnvC fd L a) ctx b->W.h.get? b=none)->(∀ctx,az B (callEnvC fd L a) ctx fd.scope.names (List.replicate 17 .undef) W1)->W1.h.Ns L m->m sn=some val->
   wpAny (model prog w) (A.deeper (callEnvC fd L a)) (execs body (callEnvC fd L a)) (λf sh'=>f=.ret (.bool true)/\R (.ok (.ret (.bool true))) sh') (λ_ _=>False) W1.sh):
  codeAny (model prog w) A (.call (.ref a) ⟨[val],[]⟩) R W.sh:=by
 have y:W.h.NoLimit:=by
  refine x12 B.nolimit λmc v r=>?_
  exact i12 mc (v.keeps I.base) r
 have n:wpAny (model prog w) A.in1 (bindArgs fd ⟨[val],[]⟩) (λb Y=>b=[(sn,val)]/\Y=W.sh) (λ_ _=>False) W.sh:=by
  refine fV X.params (ds:=[]) (Nat.zero_lt_succ _) (Nat.zero_lt_succ _) (by simp) ?_ ⟨rfl,rfl⟩
  exact X.dflt▸wpAny_bind (wpAny_pure (wpAny_pure ⟨rfl,rfl⟩))
 refine codeAny_call_function hroom (ho) hd X.co X.gen hb (hcd) (wpAny_mono n (λM s1 Q=>?_) λ_ _ q=>q.elim)
 obtain⟨rfl,rfl⟩:=Q
 rw [X.clos]
 refine wpAny_newFunctionEnv_cells X.kind (λx hx=>?_) λP he t C=>?_
 ·exact(List.mem_singleton.mp hx)▸ .inl X.loc
 ·have N:P=callEnvC fd W.h.objs.size a:=he▸rfl
  subst N
  refine⟨y.keeps C.toInCall.keep,codeAny_func ?_⟩
  have Z:Sm W.sh t:=by obtain⟨hh,tk,q⟩:=C.toInCall.same;simp only [q];exact⟨rfl,rfl⟩
  have p:∀b o,W.h.get? b=some o->t.heap.get? b=some o:=by exact C.toInCall.keep
  have u:W.h.get? W.h.objs.size=none:=by exact ba _
  have e:∀d c,(callEnvC fd W.h.objs.size a).cells.lookup d=some c->W.h.get? c=none/\(t.heap.get? c).isSome:=by
   intro d c K
   have v:=C.above d c (ao K)
   refine⟨by exact jE (Nat.le_of_lt v),?_⟩
   refine x12 (C.cell d c K) λo ho _=>?_
   rw [ho];rfl
  have D:(t.heap.get? W.h.objs.size).isSome:=by obtain⟨o,_,_,ho,_⟩:=C.toInCall.ns;refine(show W.h.objs.size=(callEnvC fd W.h.objs.size a).locals from rfl)▸ho▸?_;rfl
  obtain⟨U,O⟩:=I.ext (sh':=t) (F':=λb=>W.g.F b\/b=W.h.objs.size\/∃d,(callEnvC fd W.h.objs.size a).cells.lookup d=some b) p
   (λb h=>by
    rcases h with h|rfl|⟨d,h⟩
    ·exact .inl h
    ·exact .inr ⟨u,D⟩
    ·exact .inr (e d b h)) (λb h=>.inl h) Z
  have j:∀k i b,live W.s k i->W.h.get? b=none->W.g.adr k i≠b:=λk i b H hb q=>by
   have:=I.fdom _ (I.inF k i H)
   rw [q,hb] at this;exact ff this
  have z:∀x,lget (List.replicate 17 V.undef) x=.undef:=λx=>bG
  have E1:∀ctx,az B (callEnvC fd W.h.objs.size a) ctx fd.scope.names (List.replicate 17 .undef) ⟨W.s,⟨W.g.adr,λb=>W.g.F b\/b=W.h.objs.size\/∃d,(callEnvC fd W.h.objs.size a).cells.lookup d=some b⟩,t⟩:=λctx=>by
   refine⟨X.kind,rfl,X.glob,X.blt,i12 _ C.toInCall.ns (λd x v r J=>absurd (z x) J),i03 (.inr (.inl rfl)) D (λk i H=>j k i _ H u),λd x v r=>?_,λd x v r=>absurd r (X.noFree d),λd a6 x x' c v r J h6 h7 h8=>?_⟩
   ·obtain⟨c,K⟩:=Option.isSome_iff_exists.mp (cq (.inl (ao r)))
    have l:(callEnvC fd W.h.objs.size a).cells.lookup d=some c:=K
    obtain⟨n1,T⟩:=e d c l
    exact i24 c _ l ⟨.inr (.inr ⟨d,l⟩),T,λk i H=>j k i _ H n1⟩ (C.cell d c l) (λJ=>absurd (z x) J)
   ·exact name_of_addr C.apart (ao h7) (ao h8)
  refine wpAny_mono (hbody _ ⟨W.s,⟨W.g.adr,λb=>W.g.F b\/b=W.h.objs.size\/∃d,(callEnvC fd W.h.objs.size a).cells.lookup d=some b⟩,t⟩ _ rfl U O (λb h=>.inl h) (λctx b q=>by rcases q with rfl|⟨d,x,_,_,q⟩;exact u;exact(e d b q).1) E1 C.toInCall.ns (i4 (by simp) (List.mem_cons_self ..) X.loc)) (λf a5 h=>?_) λ_ _ q=>q.elim
  obtain⟨rfl,h⟩:=h
  exact h
end
structure wQ(T:Tab)(fr:Fn)(nm0 nm1 kn:Str)(scope:Scope)(bd:List Stmt):Prop where
 chk:dp T fr.body fr.ctx scope.names bd=true
 kind:scope.kind=.function
 co:scope.isCoroutine=false
 gen:scope.isGenerator=false
 k0:scope.names.lookup nm0=some .free
 k1:scope.names.lookup nm1=some .free
 k2:scope.names.lookup kn=some .local
 noCell:∀x∈scope.names,x.2≠ .cell
 ctx0:fr.ctx.lookup nm0=some 0
 ctx1:fr.ctx.lookup nm1=some 1
 ctx2:fr.ctx.lookup kn=some 2
 only:∀nm,(nm,NameKind.free)∈scope.names->nm=nm0\/nm=nm1
 inj:bk fr.ctx
 np:fr.params=3
 nd:fr.dflt=[]
noncomputable abbrev f8(kn:Str)(kp:Pos):Arguments:=⟨[],[⟨kn,none,kp⟩],none,[],[],none,[]⟩
section
variable {prog:Program}{w:World}{B:Base prog w}{p:Prog}{T:Tab}{cf:Cf}{k:Nat}
variable {A:Around}{W:Mo}{env:Env}{ctx:List (Str×Nat)}{ks:List (Str×NameKind)}{ρ:List V}
theorem Inv.shrink(I:Inv B W){F':Addr->Prop}(h1:∀b,F' b->W.g.F b)(h2:∀k i,live W.s k i->F' (W.g.adr k i)):Inv B ⟨W.s,⟨W.g.adr,F'⟩,W.sh⟩/\Carry W ⟨W.s,⟨W.g.adr,F'⟩,W.sh⟩:=by
 have C:Carry W ⟨W.s,⟨W.g.adr,F'⟩,W.sh⟩:=⟨λa o c e=>⟨e,λq=>c (h1 a q)⟩,λ_ _ _=>rfl,Nat.le_refl _,Nat.le_refl _⟩
 exact⟨⟨I.base,λb h=>I.fresh b (h1 b h),λb h=>I.fdom b (h1 b h),λi o e=>(I.perm i o e).mono C (λ_ q=>q) λ_ _ q=>q,λi o e=>⟨(I.tmps i o e).1.mono C (λ_ q=>q) λ_ _ q=>q,(I.tmps i o e).2⟩,h2,I.inj,I.nt⟩,C⟩
inductive Ce(B:Base prog w)(env:Env)(ctx3:List (Str×Nat))(ks:List (Str×NameKind))(ρ3:List V)(W:Mo)(P:Addr)(f:Flow)(sh':Shared):Prop
 |mk (W':Mo) (ps:Array Value) (hf:f=.next) (e:W'.sh=sh') (s:W'.s=W.s) (I:Inv B W') (sm:Sm W.sh sh') (E:az B env ctx3 ks ρ3 W') (hP:W'.h.get? P=some (tabObj ps)) (own:Own W' P)
theorem vQ{fr:Fn}{nm0 nm1 kn nm:Str}{kp pos:Pos}{bd:List Stmt}{scope:Scope}{P c:Addr}{ctx3:List (Str×Nat)}{nv:V}{fd0:FuncData}{L a:Addr}
  (hroll:∀fd c1 c2,fW T fr nm0 nm1 kn fd c1 c2->B.roll fd c1 c2) (X:wQ T fr nm0 nm1 kn scope bd) (I:Inv B W) (henv:env=callEnvC fd0 L a) (E:az B env ctx ks ρ W)
  (hc0:ctx.lookup nm0=some 1) (hc1:ctx.lookup nm1=some 2) (hk0:ks.lookup nm0=some .cell) (hk1:ks.lookup nm1=some .cell) (hne:nm0≠nm1) (hv0:lget ρ 1=nv) (hv1:lget ρ 2=.ref 0) (hnu:nv≠ .undef)
  (hcode:env.code=.ref c) (C:CodeHd W.h c P) (hP:W.h.get? P=some (tabObj #[])) (hOP:Own W P) (hPE:∀b,bQ env ctx b->b≠P) (hb:∀h':Heap,(∀b o,B.h.get? b=some o->h'.get? b=some o)->h'.BuiltinsAt B.mg P) (hgP:mainGlobals≠P)
  (h3:∀nm x,ctx3.lookup nm=some x->3<=x) (hnc:∀nm x,ctx3.lookup nm=some x->ks.lookup nm≠some .cell/\ks.lookup nm≠some .free) (hj3:bk ctx3) (hx3:ctx3.lookup nm=some 3) (hkn:ks.lookup nm=some .local):
  wpAny (model prog w) A (exec (.FunctionDef nm (f8 kn kp) bd [] none [] scope none nm pos) env) (Ce B env ctx3 ks (lset ([.none,nv,.ref 0]++List.replicate 14 .undef) 3 (.clo nv (.ref 0))) W P) (λ_ _=>False) W.sh:=by
 refine cp λ_ kk=>?_
 subst henv
 have p:∀n,(n,NameKind.free)∈scope.names->((callEnvC fd0 L a).cells.lookup n).isSome:=λn R=>by
  rcases X.only n R with rfl|rfl
  ·obtain⟨c,_,J,_⟩:=E.cell _ _ hc0 hk0;rw [J];rfl
  ·obtain⟨c,_,J,_⟩:=E.cell _ _ hc1 hk1;rw [J];rfl
 have same:∀n,(n,NameKind.free)∈scope.names->(aW scope.names (callEnvC fd0 L a).cells []).lookup n=(callEnvC fd0 L a).cells.lookup n:=by
  intro n R
  obtain⟨c,J⟩:=Option.isSome_iff_exists.mp (dY (.inl R) (p n R))
  rw [J]
  exact(b0 (λ_ _ q=>by simp at q) n c J).symm
 refine x24 (E.cell _ _ hc0 hk0) λc1 h4 a7 e2 c6 f3=>?_
 refine x24 (E.cell _ _ hc1 hk1) λc2 h9 Y e6 a4 e4=>?_
 refine x12 (f3 (by rw [hv0];exact hnu)) λv1 e d1=>?_
 subst e
 refine x12 (e4 (by rw [hv1];exact V.noConfusion)) λv2 f U=>?_
 subst f
 refine kk ?_
 rw [hv0] at d1
 rw [hv1] at U
 have d0:c1≠P:=hPE c1 (.inr (i23 nm0 1 hc0 (by rw [E.names];exact hk0) a7))
 have d5:c2≠P:=hPE c2 (.inr (i23 nm1 2 hc1 (by rw [E.names];exact hk1) Y))
 have c5:(callEnvC fd0 L a).locals≠P:=hPE _ (.inl rfl)
 have a3:∀ {v},¬W.h.IsCell (callEnvC fd0 L a).locals v:=λ{v} h=>by
  refine x12 E.loc λm j _=>?_
  refine x33 j λo es ep Z hd _=>?_
  refine x12 h λo' a6 d2=>?_
  rw [Z] at a6
  cases a6
  rw [hd] at d2
  cases d2
 have e7:(callEnvC fd0 L a).locals≠c1:=λq=>a3 (q▸c6)
 have e1:(callEnvC fd0 L a).locals≠c2:=λq=>a3 (q▸a4)
 refine nestDef_K rfl rfl rfl ?_
 refine makeFunction_K (ps:= #[]) (dj p) E.glob (by exact I.glob) hcode (by exact C) (by exact hP) trivial rfl hgP (by exact hb W.h I.base) λc' N Q h' O hx d6 f2 b1 c0=>?_
 have y:∀b o,b≠P->W.h.get? b=some o->(h'.push (fnMade nm (qualnameIn (callEnvC fd0 L a) nm nm) (f8 kn kp) bd scope (aW scope.names (callEnvC fd0 L a).cells []) Q ((B.mg "__name__").getD .none) c' N)).get? b=some o:=
  λb o hb q=>Heap.get?_push_of_some _ (hx b o hb q)
 generalize hfo:fnMade nm (qualnameIn (callEnvC fd0 L a) nm nm) (f8 kn kp) bd scope (aW scope.names (callEnvC fd0 L a).cells []) Q ((B.mg "__name__").getD .none) c' N=fo at y ⊢
 refine cp λ_ kk=>?_
 refine x44 b1 λcc oc vs t e3 f0 a8 g1=>?_
 cases e3
 have z:fo.isFreed=false:=by rw [<-hfo];rfl
 have g2:W.h.objs.size<=h'.objs.size:=Nat.le_trans d6 (Nat.le_of_lt f2)
 have c4:(h'.push fo).get? h'.objs.size=some fo:=Heap.get?_push_size _ z
 obtain⟨I4,a9⟩:=I.own (sh':={W.sh with heap:=h'.push fo,toks:=O}) hOP y (by rw [Heap.get?_push_of_some _ c0];rfl) ⟨rfl,rfl⟩
 refine kk ?_
 have C4:=a9.carry I λb q=>q▸hOP.1
 have d3:∀b,W.h.objs.size<=b->¬W.g.F b:=λb hb q=>by
  have:=I.fdom b q
  rw [jE hb] at this;cases this
 have d4:∀b,Own W b->Own ⟨W.s,W.g,{W.sh with heap:=h'.push fo,toks:=O}⟩ b:=λb hb=>hb.step a9
 obtain⟨I5,C5⟩:=I4.shrink (F':=λb=>W.g.F b/\b≠c1/\b≠c2) (λb q=>q.1) (λk i hl=>i03 (I.inF k i hl) (λq=>e2.2.2 k i hl q) (λq=>e6.2.2 k i hl q))
 have H:∀b,Own W b->b≠c1->b≠c2->Own ⟨W.s,⟨W.g.adr,λb=>W.g.F b/\b≠c1/\b≠c2⟩,{W.sh with heap:=h'.push fo,toks:=O}⟩ b:=λb hb D K=>i03 ⟨hb.1,D,K⟩ ((d4 b hb).2.1) hb.2.2
 have u:∀c v,c≠P->W.h.IsCell c v->(h'.push fo).IsCell c v:=λc v J ⟨o,Z,hd⟩=>i12 o (y c o J Z) hd
 have c7:Rep B ⟨W.s,⟨W.g.adr,λb=>W.g.F b/\b≠c1/\b≠c2⟩,{W.sh with heap:=h'.push fo,toks:=O}⟩ (.clo nv (.ref 0)) (.ref h'.objs.size):=by
  refine⟨_,fo,c1,c2,v1,v2,rfl,λq=>d3 _ g2 q.1,λq=>q.2.1 rfl,λq=>q.2.2 rfl,c4,⟨fnX nm (qualnameIn (callEnvC fd0 L a) nm nm) (f8 kn kp) bd scope (aW scope.names (callEnvC fd0 L a).cells []) .none .none Q ((B.mg "__name__").getD .none) none (.ref c') N,by rw [<-hfo],hroll _ _ _ ?_,
   c',oc,vs,t,rfl,λq=>d3 _ d6 q.1,Heap.get?_push_of_some _ f0,a8,g1⟩,u _ _ d0 c6,u _ _ d5 a4,(d1.mono C4).mono C5,?_⟩
  ·refine⟨i12 bd rfl X.chk,X.kind,X.co,X.gen,rfl,rfl,⟨rfl,rfl,rfl,rfl,rfl,by simp⟩,rfl,?_,?_,X.k0,X.k1,X.k2,X.noCell,X.ctx0,X.ctx1,X.ctx2,λn R=>X.only n (ao R),X.inj,X.np,X.nd⟩
   ·rw [same _ (ao X.k0)];exact a7
   ·rw [same _ (ao X.k1)];exact Y
  ·have:=(U.mono C4).mono C5
   simpa only [Rep] using this
 have E5:az B (callEnvC fd0 L a) ctx3 ks ([.none,nv,.ref 0]++List.replicate 14 .undef) ⟨W.s,⟨W.g.adr,λb=>W.g.F b/\b≠c1/\b≠c2⟩,{W.sh with heap:=h'.push fo,toks:=O}⟩:=by
  have e8:∀x,3<=x->lget ([V.none,nv,.ref 0]++List.replicate 14 .undef) x=.undef:=λx hx=>by
   rw [cM (by simpa using hx)];exact bG
  refine⟨E.kind,E.names,E.glob,E.blt,?_,H _ E.own e7 e1,λnm x D K=>absurd K (hnc nm x D).1,λnm x D K=>absurd K (hnc nm x D).2,λnm h2 x x' c D K q3=>absurd q3 (hnc nm x D).1⟩
  refine cp λ_ kk=>?_
  refine x12 E.loc λm l _=>?_
  refine x32 l λo es ep Z r=>?_
  refine kk ?_
  exact⟨m,⟨o,es,ep,y _ o c5 Z,r⟩,λnm x D K q3=>absurd (e8 x (h3 nm x D)) q3⟩
 refine wpAny_mono (cU (W:=⟨W.s,⟨W.g.adr,λb=>W.g.F b/\b≠c1/\b≠c2⟩,{W.sh with heap:=h'.push fo,toks:=O}⟩) I5 E5 hj3 hx3 (.inl hkn) c7) (λ_ h8 h=>?_) λ_ _ q=>q
 obtain⟨W6,d,⟨_,hd⟩,rfl,s6,I6,f1,C6,E6,a5,M⟩:=h
 have e0:P≠d:=by rw [hd hkn];exact Ne.symm c5
 exact⟨W6,_,rfl,rfl,s6,I6,(⟨rfl,rfl⟩:Sm W.sh {W.sh with heap:=h'.push fo,toks:=O}).trans f1.sm,E6,M P _ e0 (Heap.get?_push_of_some _ c0),a5 P (H P hOP (Ne.symm d0) (Ne.symm d5))⟩
end
noncomputable abbrev R17:List V:=List.replicate 17 .undef
noncomputable abbrev yi:Mine.E:=.bin .mod (.loc 15) (.lit (.int 9999))
noncomputable abbrev Bf(nv:V):List V:=lset ([.none,nv,.ref 0]++List.replicate 14 .undef) 3 (.clo nv (.ref 0))
structure CN(T:Tab)(fn fr:Fn)(st2 st3:St)(nm0 nm1:Str)(ks:List (Str×NameKind))(xn nm kn:Str)(sc scope:Scope)(elt:Expr)(s2 s3:Stmt)(bd rest:List Stmt):Prop where
 c0:(fn.ctx.drop 1).lookup nm0=some 1
 c1:(fn.ctx.drop 1).lookup nm1=some 2
 k0:ks.lookup nm0=some .cell
 k1:ks.lookup nm1=some .cell
 ne:nm0≠nm1
 j1:bk (fn.ctx.drop 1)
 co:eG (fn.ctx.drop 1) ks sc xn 15
 ce:aU T yi ((xn,15)::fn.ctx.drop 1) (relab ks sc.names) elt=true
 s2:uj T st2 (fn.ctx.drop 1) ks s2=true
 s3:uj T st3 (fn.ctx.drop 1) ks s3=true
 rb:wQ T fr nm0 nm1 kn scope bd
 x3:(fn.ctx.drop 3).lookup nm=some 3
 kn:ks.lookup nm=some .local
 j3:bk (fn.ctx.drop 3)
 g3:∀nm x,(fn.ctx.drop 3).lookup nm=some x->3<=x
 nc:∀nm x,(fn.ctx.drop 3).lookup nm=some x->ks.lookup nm≠some .cell/\ks.lookup nm≠some .free
 rest:dp T fn.body (fn.ctx.drop 3) ks rest=true
inductive fX(T:Tab)(fn fr:Fn)(st2 st3:St)(nm0 nm1:Str)(ks:List (Str×NameKind))(sn:Str):List Stmt->Prop
 |mk (p1 elt xn px ps kk pk psl pss sc pc pa s2 s3 nm kn kp bd scope pos rest) (sd:seqb sn bC=false) (y:CN T fn fr st2 st3 nm0 nm1 ks xn nm kn sc scope elt s2 s3 bd rest):
  fX T fn fr st2 st3 nm0 nm1 ks sn (.Assign [.Name nm0 p1] (.ListComp elt [⟨.Name xn px,.Subscript (.Name sn ps) (.Slice none (some (.Constant (.int 63) kk pk)) none psl) pss,[],0⟩] sc pc) pa::s2::s3:: .FunctionDef nm (f8 kn kp) bd [] none [] scope none nm pos::rest)
def rQ(cf:Cf)(fn:Fn)(st2 st3:St):Prop:=∀ns:List Int,ns.length<=63->∃nv,nv≠ .undef/\ex cf st2 (lset R17 1 (.lst (ns.map λn=>V.int (n%9999)))) ⟨[],[]⟩=some (.next,lset R17 1 nv,⟨[],[]⟩)/\
 ex cf st3 (lset R17 1 nv) ⟨[],[]⟩=some (.next,lset (lset R17 1 nv) 2 (.ref 0),⟨[.list [.int 0]],[]⟩)/\∃ρ' s',exs cf fn.body (Bf nv) ⟨[.list [.int 0]],[]⟩=some (.ret (.bool true),ρ',s')
theorem yg{cf:Cf}{ns:List Int}{src:V}{all:List V}{s:S}{ρ:List V}(hρ:15<ρ.length)(h:iter? s src=some all):
  evG (λ_ s=>some (true,s)) (λv s=>ev cf yi (lset ρ 15 v) s) src all (ns.map .int) s=some (ns.map λn=>V.int (n%9999),s):=by
 induction ns with
 |nil=>rfl
 |cons n r ih=>
  have b:lget (lset ρ 15 (.int n)) 15=.int n:=by rw [bt,if_pos ⟨rfl,hρ⟩]
  have a:ev cf (.loc 15) (lset ρ 15 (.int n)) s=some (.int n,s):=by
   show(if(lget (lset ρ 15 (.int n)) 15).ctorIdx=0 then none else some (lget (lset ρ 15 (.int n)) 15,s))=_
   rw [b];rfl
  exact aw rfl (aw (aw a rfl) ((if_pos h).trans (aw ih rfl)))
section
variable {prog:Program}{w:World}{B:Base prog w}{p:Prog}{T:Tab}{cf:Cf}{k:Nat}
variable {A:Around}{W:Mo}{env:Env}{ctx:List (Str×Nat)}{ks:List (Str×NameKind)}{ρ:List V}
theorem zj{st:Stmt}{rest:List Stmt}{s1:S}{ρ1:List V}{Q:Flow->Shared->Prop}(h1:au B A env ctx ks W (exec st env) .next ρ1 s1)
  (h2:∀W1,W1.s=s1->Inv B W1->Step (bQ env ctx) W W1->az B env ctx ks ρ1 W1->wpAny (model prog w) A (execs rest env) Q (λ_ _=>False) W1.sh):
  wpAny (model prog w) A (execs (st::rest) env) Q (λ_ _=>False) W.sh:=by
 refine wpAny_execs_cons (wpAny_mono h1 (λf c h=>?_) λ_ _ q=>q)
 obtain⟨W1,rfl,b,d,a,rfl,e⟩:=h
 exact h2 W1 b d a e
inductive CO(B:Base prog w)(W:Mo)(P:Addr)(f:Flow)(sh':Shared):Prop
 |mk (W':Mo) (ps:Array Value) (hf:f=.ret (.bool true)) (e:W'.sh=sh') (I:Inv B W') (sm:Sm W.sh sh') (hP:W'.h.get? P=some (tabObj ps))
theorem vR{fn fr:Fn}{st2 st3:St}{nm0 nm1 sn:Str}{body:List Stmt}{P c a L fa:Addr}{items:Array Value}{ns:List Int}{m:Str->Option Value}{fd:FuncData}
  (X:fX T fn fr st2 st3 nm0 nm1 fd.scope.names sn body) (Lv:Lvl B p T cf k) (hA:AOk A (k+1)) (hroll:∀kn fd c1 c2,fW T fr nm0 nm1 kn fd c1 c2->B.roll fd c1 c2)
  (hrun:rQ cf fn st2 st3) (I:Inv B W) (hs:W.s=⟨[],[]⟩) (E:∀ctx,az B (callEnvC fd L fa) ctx fd.scope.names R17 W) (hloc:fd.scope.names.lookup sn=some .local)
  (hm:W.h.Ns L m) (hsn:m sn=some (.ref a)) (hl:W.h.IsList a items) (hfa:¬W.g.F a) (hn:IntsAre items.toList ns) (hlen:ns.length<=63)
  (hcode:fd.code=.ref c) (C:CodeHd B.h c P) (hP:W.h.get? P=some (tabObj #[])) (hOP:Own W P) (hPE:∀b,bQ (callEnvC fd L fa) (fn.ctx.drop 1) b->b≠P) (hb:∀h':Heap,(∀b o,B.h.get? b=some o->h'.get? b=some o)->h'.BuiltinsAt B.mg P) (hgP:mainGlobals≠P)
  (hPL:L≠P):
  wpAny (model prog w) A (execs body (callEnvC fd L fa)) (CO B W P) (λ_ _=>False) W.sh:=by
 obtain⟨p1,f4,xn,px,ps,kk,pk,psl,pss,sc,pc,pa,s2,s3,nm,kn,kp,bd,scope,pos,d4,c4,Q,R,v,U,a3,j,z,d2,c0,a4,b1,a9,a7,D,h3,N,r⟩:=X
 have hE:=E (fn.ctx.drop 1)
 have e3:=length_pickNums_le hn none (some 63) none
 obtain⟨nv,Z,y,O,ρ',s',a6⟩:=hrun (pickNums ns none (some 63) none) (Nat.le_trans ‹_› ‹_›)
 have H:am B A W (eval (.Subscript (.Name sn ps) (.Slice none (some (.Constant (.int 63) kk pk)) none psl) pss) (callEnvC fd L fa)) (.lst ((pickNums ns none (some 63) none).map .int)) ⟨[],[]⟩:=by
  have:=l4 (A:=A) (ps:=ps) (psl:=psl) (pss:=pss) (pk:=pk) (kk:=kk) I hE.kind hloc c4 hm hsn hl hfa hn hlen
  rwa [hs] at this
 have t:=jQ (px:=px) (pos:=pc) hA.handled I hE j z H rfl (yg (by decide) rfl) (qW (bl Lv yi) j hA z d2) (λx=>rfl)
 refine zj (se I hE j Q (.inr v) t ?_) λW1 s1 I1 u E1=>?_
 ·show(do return ((callEnvC fd L fa).blockKind==.function&& (callEnvC fd L fa).kindOf nm0==some .local &&_&&_):Sem Bool)=_
  have:((callEnvC fd L fa).kindOf nm0==some .local)=false:=by
   have h:(callEnvC fd L fa).kindOf nm0=some .cell:=v
   refine h▸?_;rfl
  simp only [this,Bool.and_false,Bool.false_and]
 have c7:=u.keep P _ hP hOP.2.2 (λq=>hPE P q rfl)
 have l:=hOP.step u
 refine zj (zg Lv st2 ⟨j,E1,I1,hA⟩ s1 c0 y) λW2 a0 I2 i E2=>?_
 have d1:=i.keep P _ c7 l.2.2 (λq=>hPE P q rfl)
 have n:=l.step i
 refine zj (zg Lv st3 ⟨j,E2,I2,hA⟩ a0 a4 O) λW3 Y I3 e E3=>?_
 have c3:=e.keep P _ d1 n.2.2 (λq=>hPE P q rfl)
 have M:=n.step e
 refine wpAny_execs_cons (wpAny_mono (vQ (λfd c1 c2=>hroll kn fd c1 c2) b1 I3 rfl E3 Q R v U a3 ?_ ?_ Z hcode (C.keeps I3.base) c3 M hPE hb hgP h3 N D a9 a7) (λf f2 h=>?_) λ_ _ q=>q)
 ·rfl
 ·rfl
 obtain⟨W4,c6,rfl,rfl,s4,I4,d3,E4,a5,J⟩:=h
 have:=i7 Lv fn.body ⟨D,E4,I4,hA⟩ (s4.trans Y) r a6
 refine wpAny_mono this (λf f3 h=>?_) λ_ _ q=>q
 obtain⟨W5,rfl,s5,I5,K,x,rfl,hx⟩:=h
 have d0:x=.bool true:=hx
 subst d0
 refine⟨W5,c6,rfl,rfl,I5,(((u.sm.trans i.sm).trans e.sm).trans d3).trans K.sm,K.keep P _ a5 J.2.2 λq=>?_⟩
 refine(q).elim (λq=>?_) (λd=>?_)
 ·exact hPL q.symm
 ·refine x23 d λa8 x' q1 q2 q3=>?_
  exact(N a8 x' q1).1 q2
end
theorem xV{ks:List (Str×NameKind)}{n:Str}{x:NameKind}(h:ks.lookup n=some x):cQ ks n x.ctorIdx=true:=by
 have h:slk ks n=some x:=jR.trans h
 delta cQ;exact h▸Nat.beq_refl _
noncomputable def yI(T:Tab)(fr:Fn)(nm0 nm1 kn:Str)(scope:Scope)(bd:List Stmt):Bool:=
 (dp T fr.body fr.ctx scope.names bd&&kz scope.kind&& !scope.isCoroutine&& !scope.isGenerator&&cQ scope.names nm0 2&&cQ scope.names nm1 2&&cQ scope.names kn 0)&&
 (scope.names.all (λx=> !Nat.beq x.2.ctorIdx 1&& (!Nat.beq x.2.ctorIdx 2||(seqb x.1 nm0||seqb x.1 nm1)))&&at_ fr.ctx nm0 0&&at_ fr.ctx nm1 1&&at_ fr.ctx kn 2&&wj fr.ctx&&Nat.beq fr.params 3&&fr.dflt.isEmpty)
theorem u9{T:Tab}{fr:Fn}{nm0 nm1 kn:Str}{scope:Scope}{bd:List Stmt}(h:yI T fr nm0 nm1 kn scope bd=true):wQ T fr nm0 nm1 kn scope bd:=by
 refine(b2 h).elim λh i=>z7 (b7 h) λa1 a2 o m c g k=>?_
 refine z7 (b7 i) λj r p f l d b=>?_
 have a:∀x,x∈scope.names->(!Nat.beq x.2.ctorIdx 1&& (!Nat.beq x.2.ctorIdx 2||(seqb x.1 nm0||seqb x.1 nm1)))=true:=List.all_eq_true.mp j
 exact⟨a1,jg a2,ntb o,ntb m,bD (x:=.free) c,bD (x:=.free) g,bD (x:=.local) k,λx n q=>by
   have:=(b2 (a x n)).1
   replace this:=q▸this;exact ff this,cS r,cS p,cS f,λs e=>(md (b2 (a _ e)).2).elim (λq=>ff q) λq=>(md q).imp aH.mp aH.mp,ib l,Nat.eq_of_beq_eq_true d,fQ b⟩
noncomputable def AK(k:Str->Arguments->List Stmt->List Expr->Option Expr->List TypeParam->Scope->Option Scope->Str->Bool)(x:Stmt):Bool:=if h:x.ctorIdx=0 then Stmt.FunctionDef.elim (motive_2:=λ_=>Bool) x h λnm a bd de re tp sc ts nn _=>k nm a bd de re tp sc ts nn else false
theorem AJ{k:Str->Arguments->List Stmt->List Expr->Option Expr->List TypeParam->Scope->Option Scope->Str->Bool}{P:Stmt->Prop}{x:Stmt}(h:AK k x=true)(H:∀nm a bd de re tp sc ts nn p,k nm a bd de re tp sc ts nn=true->P (.FunctionDef nm a bd de re tp sc ts nn p)):P x:=
 (dB h).elim λh q=>
 Stmt.FunctionDef.elim (motive_2:=λx=>∀h:x.ctorIdx=0,(Stmt.FunctionDef.elim (motive_2:=λ_=>Bool) x h λnm a bd de re tp sc ts nn _=>k nm a bd de re tp sc ts nn)=true->P x) x h (λnm a bd de re tp sc ts nn p _ q=>H nm a bd de re tp sc ts nn p q) h q
noncomputable def nK(k:Str->Bool)(a:Arguments):Bool:=a.posonlyargs.isEmpty&&a.vararg.isNone&&a.kwonlyargs.isEmpty&&a.kw_defaults.isEmpty&&a.kwarg.isNone&&a.defaults.isEmpty&&v1 (λx=>x.annotation.isNone&&k x.arg) a.args
theorem tl{k:Str->Bool}{P:Arguments->Prop}{a:Arguments}(h:nK k a=true)(H:∀kn kp,k kn=true->P (f8 kn kp)):P a:=by
 obtain⟨a1,a2,f,e,d,c,b⟩:=a
 exact z7 (b7 h) λj i o n m l h=>eE (P:=λa1=>P ⟨a1,a2,f,e,d,c,b⟩) j (ol (P:=λf=>P ⟨[],a2,f,e,d,c,b⟩) i (eE (P:=λe=>P ⟨[],a2,none,e,d,c,b⟩) o
  (eE (P:=λd=>P ⟨[],a2,none,[],d,c,b⟩) n (ol (P:=λc=>P ⟨[],a2,none,[],[],c,b⟩) m (eE (P:=λb=>P ⟨[],a2,none,[],[],none,b⟩) l
   (v1E (P:=λa2=>P ⟨[],a2,none,[],[],none,[]⟩) h λx h=>by
    obtain⟨kn,g,kp⟩:=x
    exact(b2 h).elim λp h=>ol (P:=λg=>P ⟨[],[⟨kn,g,kp⟩],none,[],[],none,[]⟩) p (H kn kp h)))))))
noncomputable def AO(sn:Str):Expr->Bool:=tj λx z=>fh (λm=>seqb m sn&& !seqb sn bC) x&&y5 (λl h st=>l.isNone&&st.isNone&&tR false (pG (Ae λi=>decide (i=63))) h) z
theorem AN{sn:Str}{P:Expr->Prop}{x:Expr}(h:AO sn x=true)(H:∀ps kk pk psl pss,seqb sn bC=false->P (.Subscript (.Name sn ps) (.Slice none (some (.Constant (.int 63) kk pk)) none psl) pss)):P x:=
 nI h λx z pss h=>(b2 h).elim λd b=>dQ (P:=λx=>P (.Subscript x z pss)) d λm ps d=>(b2 d).elim λo k=>AX (P:=λm=>P (.Subscript (.Name m ps) z pss)) o
  (yx (P:=λz=>P (.Subscript (.Name sn ps) z pss)) b λl g f psl b=>z3 (b3 b) λn j a=>ol (P:=λl=>P (.Subscript (.Name sn ps) (.Slice l g f psl) pss)) n (ol (P:=λf=>P (.Subscript (.Name sn ps) (.Slice none g f psl) pss)) j (by
   cases g with
   |none=>exact ff a
   |some e=>
    exact rY (P:=λe=>P (.Subscript (.Name sn ps) (.Slice none (some e) none psl) pss)) a λc kk pk a=>(s7 a).elim λi a=>by
     obtain⟨rfl,a⟩:=a
     obtain rfl:=of_decide_eq_true a
     exact H ps kk pk psl pss (ntb k))))
noncomputable def Bo(T:Tab)(fn:Fn)(st2 st3:St)(ks:List (Str×NameKind))(xn:Str)(sc:Scope)(elt:Expr)(s2 s3:Stmt):Bool:=
 wj (fn.ctx.drop 1)&&dh (fn.ctx.drop 1) ks sc xn 15&&aU T yi ((xn,15)::fn.ctx.drop 1) (relab ks sc.names) elt&&uj T st2 (fn.ctx.drop 1) ks s2&&uj T st3 (fn.ctx.drop 1) ks s3
noncomputable def Bn(T:Tab)(fn fr:Fn)(nm0 nm1:Str)(ks:List (Str×NameKind))(nm kn:Str)(scope:Scope)(bd rest:List Stmt):Bool:=
 yI T fr nm0 nm1 kn scope bd&&at_ (fn.ctx.drop 3) nm 3&&cQ ks nm 0&&wj (fn.ctx.drop 3)&& (fn.ctx.drop 3).all (λy=>Nat.ble 3 y.2&& (!cQ ks y.1 1&& !cQ ks y.1 2))&&dp T fn.body (fn.ctx.drop 3) ks rest
noncomputable def Bp(fn:Fn)(nm0 nm1:Str)(ks:List (Str×NameKind)):Bool:=
 at_ (fn.ctx.drop 1) nm0 1&&at_ (fn.ctx.drop 1) nm1 2&&cQ ks nm0 1&&cQ ks nm1 1&& !seqb nm0 nm1
noncomputable def Bq(T:Tab)(fn fr:Fn)(st2 st3:St)(nm0 nm1:Str)(ks:List (Str×NameKind))(sn:Str):List Stmt->Bool:=
 fA λs1=>fA λs2=>fA λs3=>fA λs4 rest=>Bp fn nm0 nm1 ks&&
  f5 (λa v _=>v1 (fh λn1=>seqb n1 nm0&&gz (λelt xn src ifs sc _=>ifs.isEmpty&&AO sn src&&Bo T fn st2 st3 ks xn sc elt s2 s3) v) a) s1&&
  AK (λnm a bd de re tp scope ts nn=>de.isEmpty&&re.isNone&&tp.isEmpty&&ts.isNone&&seqb nn nm&&nK (λkn=>Bn T fn fr nm0 nm1 ks nm kn scope bd rest) a) s4
theorem xT{T:Tab}{fn fr:Fn}{st2 st3:St}{nm0 nm1:Str}{ks:List (Str×NameKind)}{sn:Str}{body:List Stmt}(h:Bq T fn fr st2 st3 nm0 nm1 ks sn body=true):fX T fn fr st2 st3 nm0 nm1 ks sn body:=
 bT (P:=fX T fn fr st2 st3 nm0 nm1 ks sn) h λt r h=>bT (P:=λr=>fX T fn fr st2 st3 nm0 nm1 ks sn (t::r)) h λe r h=>bT (P:=λr=>fX T fn fr st2 st3 nm0 nm1 ks sn (t::e::r)) h λf r h=>
 bT (P:=λr=>fX T fn fr st2 st3 nm0 nm1 ks sn (t::e::f::r)) h λl b h=>z3 (b3 h) λh0 c w=>
 fB (P:=λt=>fX T fn fr st2 st3 nm0 nm1 ks sn (t::e::f::l::b)) c λa v k c=>v1E (P:=λa=>fX T fn fr st2 st3 nm0 nm1 ks sn (.Assign a v k::e::f::l::b)) c λx c=>
 dQ (P:=λx=>fX T fn fr st2 st3 nm0 nm1 ks sn (.Assign [x] v k::e::f::l::b)) c λJ p c=>(b2 c).elim λe1 c=>AX (P:=λJ=>fX T fn fr st2 st3 nm0 nm1 ks sn (.Assign [.Name J p] v k::e::f::l::b)) e1
 (jF (P:=λv=>fX T fn fr st2 st3 nm0 nm1 ks sn (.Assign [.Name nm0 p] v k::e::f::l::b)) c λj z u o B A y c=>z3 (b3 c) λe2 e3 c=>
 eE (P:=λB=>fX T fn fr st2 st3 nm0 nm1 ks sn (.Assign [.Name nm0 p] (.ListComp j [⟨.Name z u,o,B,0⟩] A y) k::e::f::l::b)) e2
 (AN (P:=λo=>fX T fn fr st2 st3 nm0 nm1 ks sn (.Assign [.Name nm0 p] (.ListComp j [⟨.Name z u,o,[],0⟩] A y) k::e::f::l::b)) e3 λI H D n m F=>
 AJ (P:=λl=>fX T fn fr st2 st3 nm0 nm1 ks sn (.Assign [.Name nm0 p] (.ListComp j [⟨.Name z u,.Subscript (.Name sn I) (.Slice none (some (.Constant (.int 63) H D)) none n) m,[],0⟩] A y) k::e::f::l::b)) w
  λd a bd de re tp g ts nn pos w=>z6 (b6 w) λe4 e5 e6 W Y hF=>by
   obtain rfl:=fQ e4
   obtain rfl:=Option.isNone_iff_eq_none.mp e5
   obtain rfl:=fQ e6
   obtain rfl:=Option.isNone_iff_eq_none.mp W
   obtain rfl:=aH.mp Y
   exact tl (P:=λa=>fX T fn fr st2 st3 nm0 nm1 ks sn (.Assign [.Name nm0 p] (.ListComp j [⟨.Name z u,.Subscript (.Name sn I) (.Slice none (some (.Constant (.int 63) H D)) none n) m,[],0⟩] A y) k::e::f:: .FunctionDef nn a bd [] none [] g none nn pos::b)) hF
    λkn L w=>z5 (b5 h0) λa5 a6 X Q U=>z5 (b5 c) λc1 O Z c4 M=>z6 (b6 w) λd1 d2 d3 R d5 N=>
     have i:∀d x,(fn.ctx.drop 3).lookup d=some x->(Nat.ble 3 x&& (!cQ ks d 1&& !cQ ks d 2))=true:=λd x s=>List.all_eq_true.mp d5 _ (ao s)
     have K:∀ {d:Str} {x:NameKind} {C:Prop},(!cQ ks d x.ctorIdx)=true->ks.lookup d=some x->C:=λh q=>ff ((ntb h).symm.trans (xV q))
     .mk p j z u I H D n m A y k e f nn kn L bd g pos b F ⟨cS a5,cS a6,bD (x:=.cell) X,bD (x:=.cell) Q,λq=>ff ((ntb U).symm.trans (aH.mpr q)),ib c1,cG O,Z,c4,M,u9 d1,cS d2,bD (x:=.local) d3,ib R,
      λd x s=>Nat.le_of_ble_eq_true (b2 (i d x s)).1,λd x s=>⟨K (x:=.cell) (b2 (b2 (i d x s)).2).1,K (x:=.free) (b2 (b2 (i d x s)).2).2⟩,N⟩))
noncomputable def flC(fd:FuncData)(n:Str):Bool:=fdA fd&&Nat.beq fd.defaults.ctorIdx 0&&cQ fd.scope.names n 0
theorem zY{fd:FuncData}{a:Arg}(ha:fd.params.args=[a])(h:flC fd a.arg=true):FnL fd a.arg:=z3 (b3 h) λe c d=>
 have X:=wp e
 have b:=X.params
 ⟨X.kind,X.co,X.gen,X.clos,X.glob,X.blt,by replace b:=ha▸b;exact b,yz c,bD (x:=.local) d,X.noFree⟩
noncomputable def sr(T:Tab)(fa:Addr)(fn fr:Fn)(st2 st3:St)(nm0 nm1:Str):Bool:=(T.K.lookup fa).elim false λo=>wA (λfd=>v1 (λa=>flC fd a.arg&&rH (λb=>Bq T fn fr st2 st3 nm0 nm1 fd.scope.names a.arg b) fd.body) fd.params.args) o.data
inductive wS(T:Tab)(fa:Addr)(fn fr:Fn)(st2 st3:St)(nm0 nm1:Str):Prop
 |mk (o:Obj) (fd:FuncData) (sn:Str) (b:List Stmt) (h1:T.K.lookup fa=some o) (h2:o.data=.func fd) (h3:FnL fd sn) (h4:fd.body=.stmts b) (h5:fX T fn fr st2 st3 nm0 nm1 fd.scope.names sn b)
theorem q9{T:Tab}{fa:Addr}{fn fr:Fn}{st2 st3:St}{nm0 nm1:Str}(h:sr T fa fn fr st2 st3 nm0 nm1=true):wS T fa fn fr st2 st3 nm0 nm1:=
 cR (P:=λx=>T.K.lookup fa=x->wS T fa fn fr st2 st3 nm0 nm1) h (λo h e=>wz (P:=λd=>o.data=d->wS T fa fn fr st2 st3 nm0 nm1) h (λf h k=>
  v1E (P:=λl=>f.params.args=l->wS T fa fn fr st2 st3 nm0 nm1) h (λa h g=>(b2 h).elim λj c=>sP (P:=λb=>f.body=b->wS T fa fn fr st2 st3 nm0 nm1) c (λb c i=>⟨o,f,a.arg,b,e,k,zY g j,i,xT c⟩) rfl) rfl) rfl) rfl
theorem yT{α:Type}{P:α->Prop}{b:Bool}{x y:α}{C:Prop}(h:P (bif b then x else y))(H1:b=true->P x->C)(H2:P y->C):C:=by
 cases b
 ·exact H2 h
 ·exact H1 rfl h
theorem ifE{α:Type}{P:α->Prop}{p:Prop}[Decidable p]{x y:α}{C:Prop}(h:P (if p then x else y))(H1:p->P x->C)(H2:P y->C):C:=by
 by_cases q:p
 ·rw [if_pos q] at h;exact H1 q h
 ·rw [if_neg q] at h;exact H2 h
noncomputable def gd(o:Obj):Bool:= !(Nat.beq o.cls.ctorIdx 0&&Nat.beq o.data.ctorIdx 9)&& !Nat.beq o.data.ctorIdx 10
noncomputable def needed:List Nat:=[1,3,95,96,102,103,105,106,118,124,125,131,132,139,140,157,158,164,165,181,182,187,188,189,190,191,192,193,194,195,196,197,198,199,200,201,202,203,204,205,206,207,208,209,210,211,212,213,214,215,216,217,218,231,232,245,246,248,249,266,267,269,270,280,281,282,288,289,295,296,302,303,309,310,316,317,323,324,330,331,335,336,340,341,347,348,354,355,361,362,366,367,371,372,376,377,383,384,390,391,397,398,414,415,421,422,435,436,442,443,449,450,547,548,564,565,575,576,582,583,589,590,591,597,598,604,605,611,612,618,619,625,626,630,631,637,638,644,645,651,652,665,666,668,669,674,680,681,694,695,701,702,704,705,737,738,755,756,765,766,783,784,839,840,849,850,884,885,905,906,933,934,954,955,972,973,1035,1036,1042,1043,1049,1050,1056,1057,1136,1137,1171,1172,1176,1177,1181,1182,1186,1187,1191,1192,1196,1197,1201,1202,1208,1209,1215,1216,1220,1221,1225,1226,1232,1233,1239,1240,1246,1247,1253,1254,1260,1261,1265,1266,1272,1273,1278]
noncomputable def gC:List Obj->Nat->List Nat->Frag
 |[],_,_=>[]
 |_::_,_,[]=>[]
 |o::r,i,a::q=>bif Nat.beq a i then(bif gd o then(i,o)::gC r (i+1) q else gC r (i+1) q) else gC r (i+1) (a::q)
theorem t7{l:List Obj}:∀ {i a:Nat} {n:List Nat} {o:Obj},(gC l i n).lookup a=some o->A3 (i<=a) (l[a - i]?=some o) (gd o=true):=by
 induction l with
 |nil=>exact λh=>nn h
 |cons x r ih=>
  intro i a n o h
  have c:∀ {n},(gC r (i+1) n).lookup a=some o->A3 (i<=a) ((x::r)[a - i]?=some o) (gd o=true):=λh=>z3 (ih h) λj f g=>
   ⟨Nat.le_of_succ_le j,(congrArg (λk=>(x::r)[k]?) (show a - i=(a - (i+1))+1 by omega)).trans f,g⟩
  cases n with
  |nil=>exact nn h
  |cons b q=>
   refine yT (P:=λl=>List.lookup a l=some o) h (λ_ h=>yT (P:=λl=>List.lookup a l=some o) h (λd h=>?_) (c (n:=q))) (c (n:=b::q))
   have h:=List.lookup_cons.symm.trans h
   cases e:a==i with
   |false=>rw [e] at h;exact c h
   |true=>
    simp only [e] at h
    obtain rfl:=Option.some.inj h
    have e:=eq_of_beq e
    exact⟨e▸Nat.le_refl _,by simp only [e,Nat.sub_self];rfl,d⟩
noncomputable def gK(h:Heap):Frag:=gC h.objs.toList 0 needed
theorem As(h:Heap):(gK h).In h:=λa o e=>z3 (t7 e) λ_ b f=>by
 have b:h.objs[a]?=some o:=Array.getElem?_toList.symm.trans b
 delta Heap.get?
 rw [b]
 obtain⟨c,d,g,i⟩:=o
 cases g<;>first|rfl|exact ff (b2 f).2
theorem ow{x:Obj}(hk:gd x=true):(match x.cls,x.data with|.none,.fields _=>false|_,_=>true)=true:=by
 obtain⟨c,d,a,b⟩:=x
 cases c with
 |none=>cases a<;>first|rfl|exact ff hk
 |_=>rfl
theorem zV(l:List Obj):∀ (i:Nat) (n:List Nat),noTabs (gC l i n)=true:=by
 induction l with
 |nil=>exact λ_ _=>rfl
 |cons x r ih=>
  intro i n
  cases n with
  |nil=>rfl
  |cons b q=>
   show noTabs (bif Nat.beq b i then(bif gd x then(i,x)::gC r (i+1) q else gC r (i+1) q) else gC r (i+1) (b::q))=true
   cases Nat.beq b i with
   |false=>exact ih _ _
   |true=>
    cases hk:gd x with
    |false=>exact ih _ _
    |true=>exact dZ (ow hk) (ih _ _)
noncomputable def jq:List Str->Nat->Str
 |[],k=>⟨#[2000000+k]⟩
 |x::_,0=>x
 |_::r,k+1=>jq r k
noncomputable def zh(x:Str):Bool:=match x.cps.toList with
 |[c]=>Nat.blt c 2000000
 |_=>true
theorem vH{l:List Str}:∀ {k:Nat},(jq l k∈l)\/∃j,jq l k=⟨#[2000000+j]⟩:=by
 induction l with
 |nil=>exact λ{k}=>.inr ⟨k,rfl⟩
 |cons x r ih=>
  intro k
  cases k with
  |zero=>exact .inl (.head _)
  |succ k=>exact(ih (k:=k)).imp (.tail _) id
theorem vG{l:List Str}(hn:q4 l=true)(hs:l.all zh=true):∀a b,jq l a=jq l b->a=b:=by
 induction l with
 |nil=>exact λa b h=>Nat.add_left_cancel (Option.some.inj (congrArg (λs:Str=>s.cps.toList.head?) h:some (2000000+a)=some (2000000+b)))
 |cons x r ih=>
  refine(b2 hn).elim λd g=>(b2 hs).elim λc e a b h=>?_
  have i:∀k,x≠jq r k:=λk q=>(vH (l:=r) (k:=k)).elim (λf=>by
    rw [List.any_eq_true.mpr ⟨jq r k,f,aH.mpr q⟩] at d;exact ff d) λm=>m.elim λj f=>by
    rw [q,f] at c
    exact absurd (Nat.le_of_ble_eq_true c) (Nat.not_le.mpr (Nat.lt_succ_of_le (Nat.le_add_right ..)))
  cases a with
  |zero=>cases b with
   |zero=>rfl
   |succ b=>exact absurd h (i b)
  |succ a=>cases b with
   |zero=>exact absurd h.symm (i a)
   |succ b=>exact congrArg Nat.succ (ih g e a b h)
noncomputable def jX:List Nat->Nat->Nat
 |[],_=>0
 |x::_,0=>x
 |_::r,k+1=>jX r k
noncomputable def fas:List Nat:=[0,232,246,267,281,289,296,303,310,317,324,331,336,341,348,355,362,367,372,377,384,391,398,415,422,436,443,450,548,576,583,590,598,605,612,619,626,631,638,645,652,666,681,695,702,96,103,125,132,158,165,784,840,756,973,1036,1043,1050,1057,1172,1177,1182,1187,1192,1197,1202,1209,1216,1221,1226,1233,1240,1247,1254,1261,1266,1273]
noncomputable def cas:List Nat:=[249,270,106,140,182,669,705,850,738,766,885,906,955,934,1137]
noncomputable def vV:Nat:=1278
noncomputable def fk(K:Frag):Tab:=⟨K,jX fas,jX cas,jq g9,15⟩
noncomputable def zW(T:Tab):List Fn->Nat->Bool
 |[],_=>true
 |f::r,i=>(Nat.beq i 0||fnB T i f)&&zW T r (i+1)
theorem ye{T:Tab}{l:List Fn}:∀ {i:Nat},zW T l i=true->∀f fn,vD l f=some fn->i+f≠0->fnB T (i+f) fn=true:=by
 induction l with
 |nil=>exact λ_ f fn h _=>nn h
 |cons x r ih=>
  intro i d f fn h a
  refine(b2 d).elim λc b=>?_
  cases f with
  |zero=>
   obtain rfl:=Option.some.inj h
   exact(md c).elim (λq=>absurd (Nat.eq_of_beq_eq_true q) a) id
  |succ f=>
   have e:i+1+f=i+(f+1):=Nat.succ_add_eq_add_succ i f
   exact e▸ih b f fn h λq=>a (e▸q)
theorem xR{l:List Nat}{a:Nat}(h:zD l a=true):a∈l:=by
 induction l with
 |nil=>exact ff h
 |cons x r ih=>exact(md h).elim (λq=>Nat.eq_of_beq_eq_true q▸ .head _) λq=>.tail _ (ih q)
theorem xF{T:Tab}{l:List (Nat×List Nat)}(h:Bi T l=true){c a:Nat}(hf:mF l c a=true):c<T.nC/\findIn T.K (.ref (T.ca c)) (T.nm a)=some none:=by
 induction l with
 |nil=>exact ff hf
 |cons x r ih=>
  refine(b2 h).elim λe f=>(md hf).elim (λq=>(b2 q).elim λb i=>?_) (ih f)
  try clear q;try clear ih;try clear hf
  obtain rfl:=Nat.eq_of_beq_eq_true b
  exact(b2 e).elim λg d=>⟨Nat.le_of_ble_eq_true g,lQ (List.all_eq_true.mp d a (xR i))⟩
theorem vO{T:Tab}{l:List (Nat×Nat×Nat)}(hb:yM T l=true){c a f:Nat}(h:ie l c a=some f):c<T.nC/\findIn T.K (.ref (T.ca c)) (T.nm a)=some (some (.ref (T.fa f)))/\typeIn T.K (.ref (T.fa f))=some (.type "function"):=by
 induction l with
 |nil=>exact nn h
 |cons x r ih=>
  refine(b2 hb).elim λk d=>ifE (P:=λo=>o=some f) h (λq e=>(b2 q).elim λb g=>?_) (ih d)
  obtain⟨n,p,s⟩:=x
  obtain rfl:=Nat.eq_of_beq_eq_true b
  obtain rfl:=Nat.eq_of_beq_eq_true g
  obtain rfl:=Option.some.inj e
  exact z3 (b3 k) λi m j=>i03 (Nat.le_of_ble_eq_true i) (kq m) (jf j)
theorem oQ{l:List (Nat×Nat)}{n:Nat}(hb:l.all (λx=>Nat.blt x.1 n)=true){c f:Nat}(h:ig l c=some f):c<n:=by
 induction l with
 |nil=>exact nn h
 |cons x r ih=>exact(b2 hb).elim λa b=>ifE (P:=λo=>o=some f) h (λq _=>Nat.eq_of_beq_eq_true q▸Nat.le_of_ble_eq_true a) (ih b)
theorem oP{l:List (Nat×Nat)}(hb:l.all (λx=> !Nat.beq x.2 0)=true)(c:Nat)(h:ig l c=some 0):False:=by
 induction l with
 |nil=>exact nn h
 |cons x r ih=>exact(b2 hb).elim λa b=>ifE (P:=λo=>o=some 0) h (λ_ e=>ff ((congrArg (λk=> !Nat.beq k 0) (Option.some.inj e)).symm.trans a)) (ih b)
theorem oO{l:List (Nat×Nat×Nat)}(hb:l.all (λx=> !Nat.beq x.2.2 0)=true)(c m:Nat)(h:ie l c m=some 0):False:=by
 induction l with
 |nil=>exact nn h
 |cons x r ih=>exact(b2 hb).elim λa b=>ifE (P:=λo=>o=some 0) h (λ_ e=>ff ((congrArg (λk=> !Nat.beq k 0) (Option.some.inj e)).symm.trans a)) (ih b)
noncomputable def vB:Sts->Nat->St
 |.nil,_=>.wild
 |.cons s _,0=>s
 |.cons _ r,k+1=>vB r k
noncomputable def st2:St:=vB vU 1
noncomputable def st3:St:=vB vU 2
noncomputable def j0:Str:=⟨#[110,117,109,115]⟩
noncomputable def vJ:Str:=qD
noncomputable def nmK:Str:=⟨#[107]⟩
noncomputable def lz:Str:=⟨#[108,97,119]⟩
noncomputable def nA(K:Frag):Bool:=
 zW (fk K) yQ 0&&zb 15 (B4 (fk K) prog)&&Bi (fk K) vq&&yM (fk K) mo&&sr (fk K) vV jm iS st2 st3 j0 vJ&&sD (nsIn K mainGlobals lz) vV&& (K.lookup sysModules).isSome
theorem wv{prog':Program}{w:World}{B:Base prog' w}{K:Frag}(h:nA K=true)(hK:B.K=K)(hca:B.ca=jX cas)(hfa:B.fa=jX fas)(hnm:B.nm=jq g9):Facts B prog 15:=z7 (b7 h) λ_ h2 h3 h4 _ _ _=>by
 have X:=λc (b:c<15)=>b7 (upTo_iff h2 c b:B4 (fk K) prog c=true)
 refine⟨λc b=>?_,λc b=>?_,λc b=>?_,λc b=>?_,λc b=>?_,λc b=>?_,λc a j=>?_,λc a f i=>?_,λc f d=>?_,λc b d=>?_⟩
 ·rw [hK,hca];exact iZ (X c b).h1
 ·rw [hK,hca];exact lQ (X c b).h2
 ·rw [hK,hca];exact iZ (X c b).h3
 ·refine hK▸hca▸?_;exact(X c b).h4
 ·refine hK▸hca▸?_;exact(X c b).h5
 ·refine hK▸hca▸?_;exact(X c b).h6
 ·refine hK▸hca▸hnm▸?_;exact xF h3 j
 ·refine hK▸hca▸hnm▸hfa▸?_;exact vO h4 i
 ·have h7:=(X c (oQ (l:=mD) rfl d)).h7
  rw [d] at h7
  refine hK▸hca▸hfa▸?_
  exact(b2 h7).elim λe g=>⟨kq e,jf g⟩
 ·have h7:=(X c b).h7
  rw [d] at h7
  refine hK▸hca▸?_
  exact iZ h7
theorem yj{prog':Program}{w:World}{B:Base prog' w}{K:Frag}(h:nA K=true)(hK:B.K=K)(hca:B.ca=jX cas)(hfa:B.fa=jX fas)(hnm:B.nm=jq g9)
  (hroll:∀fd c1 c2,B.roll fd c1 c2->fW (fk K) iS j0 vJ nmK fd c1 c2):Defs B prog (fk K):=by
 refine⟨λf c b a=>?_,hK.symm,hfa.symm,hca.symm,hnm.symm,wv h hK hca hfa hnm,oO (l:=mo) rfl,oP (l:=mD) rfl,iS,j0,vJ,nmK,rfl,hroll⟩
 have:=zX (ye (b7 h).h1 f c a λq=>b ((Nat.zero_add f).symm.trans q))
 rw [Nat.zero_add] at this
 rw [hK,hfa]
 exact this
end Mine
end
section
set_option maxHeartbeats 0
namespace Mine
open PySem PySem.W PyProof.Rows
noncomputable def f7(tb:String->Option Builtin)(p:Program)(w:World)(n₀:Nat)(ann:Option Value):Nat->SharedT->Thread->Option SharedT
 |0,_,_=>none
 |n+1,s,t=>match through t with
  |true=>some s
  |false=>match stepOk n₀ ann t with
   |false=>none
   |true=>match stepT (denote tb) p w s t with
    |some (s',t')=>f7 tb p w n₀ ann n s' t'
    |none=>none
theorem jL{tb:String->Option Builtin}{p:Program}{w:World}{n₀:Nat}{ann:Option Value}:∀ {n:Nat} {s s':SharedT} {t:Thread},f7 tb p w n₀ ann n s t=some s'->topRun tb p w n₀ ann n s.abs t=some s'.abs
 |0,_,_,_,h=>by cases h
 |n+1,s,s',t,h=>by
  unfold f7 at h
  unfold topRun
  cases ht:through t with
  |true=>rw [ht] at h;cases h;rfl
  |false=>
   rw [ht] at h
   cases hk:stepOk n₀ ann t with
   |false=>rw [hk] at h;cases h
   |true=>
    rw [hk] at h
    cases hs:stepT (denote tb) p w s t with
    |none=>rw [hs] at h;cases h
    |some r=>obtain⟨b,a⟩:=r;rw [hs] at h;rw [stepT_spec hs];exact jL h
noncomputable def gU(p:Program)(w:World)(n₀:Nat)(ann:Option Value):Nat->SharedT->Thread->Option SharedT
 |0,_,_=>none
 |n+1,s,t=>match through t with
  |true=>some s
  |false=>match PySem.W.Fast.tw6613529449190102663 n₀ ann t with
   |false=>none
   |true=>match PySem.W.Fast.tw10156331382660048174 (PySem.W.Fast.tw11892475500146522536 PySem.W.Fast.tw14364793385576792824) p w s t with
    |some (s',t')=>gU p w n₀ ann n s' t'
    |none=>none
theorem jM{p:Program}{w:World}{n₀:Nat}{ann:Option Value}:∀ {n:Nat} {s:SharedT} {t:Thread},f7 treeTable p w n₀ ann n s t=gU p w n₀ ann n s t
 |0,_,_=>rfl
 |n+1,s,t=>by
  unfold f7 gU
  rw [<-PySem.W.Fast.te6613529449190102663,<-PySem.W.Fast.te10156331382660048174,<-PySem.W.Fast.te11892475500146522536,<-PySem.W.Fast.te14364793385576792824]
  have e:∀s t,f7 treeTable p w n₀ ann n s t=gU p w n₀ ann n s t:=λs t=>jM
  cases through t with
  |true=>rfl
  |false=>
   cases stepOk n₀ ann t with
   |false=>rfl
   |true=>
    cases stepT (denote treeTable) p w s t with
    |none=>rfl
    |some r=>exact e _ _
noncomputable def hq:Program:=view Challenge.pw_up0027_01 [148]
noncomputable def hloose:List Str:=Challenge.pw_up0027_01.boundNames.filter λk=> !(k==Str.ofString "law")&& !(startupNames.contains k)
noncomputable def vj:List Obj->Nat->BT->BT
 |[],_,t=>t
 |o::r,n,t=>vj r (n+1) (t.ins n o)
noncomputable def st0(P:Params)(os:OsState):SharedT:=⟨vj (boot_heap P).objs.toList 0 .nil,11,(boot_heap P).life,Array.mk [],boot_drawn,boot_toks,os⟩
theorem w6(P:Params)(os:OsState):(st0 P os).abs=⟨boot_heap P,Array.mk [],boot_drawn,boot_toks,os⟩:=by kernel_rfl
end Mine
end
section
namespace Mine
open PySem PySem.W PyProof.Rows PySem.SeqAt PySem.Calls
noncomputable abbrev rr:OpenRow:=Challenge.rw_up0027_01.row
theorem xS:∃d',(recsOf hq).find? (λe=>e.name==lz)=some d':=Option.isSome_iff_exists.mp (by kernel_rfl)
noncomputable def Aj{prog':Program}{w:World}{h:Heap}{tabs:List (Addr×Addr)}{K:Frag}{mg mb:Str->Option Value}{q:Program}{loose:List Str}{mean:ExcName->Option Value}(hT:TabsAt tabs h)(hK:K.In h)(hnt:noTabs K=true)(T:Top q loose mean mg mb h)
  (hsys:(K.lookup sysModules).isSome=true):Base prog' w where
 h:=ghostOf h tabs
 K:=K
 inK:=ghost_K hT hK hnt
 mg:=mg
 mb:=mb
 g:=ghost_ns hT T.g
 b:=ghost_ns hT T.b
 blt:=T.builtins
 nolimit:=let⟨mc,h1,h2⟩:=T.nolimit;⟨mc,ghost_ns hT h1,h2⟩
 sys:=let⟨o,ho⟩:=Option.isSome_iff_exists.mp hsys;⟨o,ghost_K hT hK hnt _ _ ho⟩
 nodigits:=let⟨mc,h1,h2⟩:=T.nodigits;⟨mc,ghost_ns hT h1,h2⟩
 ca:=jX cas
 fa:=jX fas
 nm:=jq g9
 nmInj:=λa b=>vG (by kernel_rfl) (by kernel_rfl) a b
 roll:=λfd c1 c2=>fW (fk K) iS j0 vJ nmK fd c1 c2
noncomputable def mo0(P:Addr)(s:Shared):Mo:=⟨⟨[],[]⟩,⟨λ_ _=>0,λb=>b=P⟩,s⟩
theorem mi:∀ {k i:Nat} {C:Prop},live ⟨[],[]⟩ k i->C
 |0,i,_,h=>absurd h (Nat.not_lt_zero i)
 |1,_,_,h=>h.elim λ_ h=>h.elim λ_ h=>nn h
 |2,i,_,h=>absurd h (Nat.not_lt_zero i)
 |_+3,_,_,h=>h.elim
theorem Cw{prog':Program}{w:World}{B:Base prog' w}{P:Addr}{s:Shared}(h1:∀b o,B.h.get? b=some o->s.heap.get? b=some o)(h2:B.h.get? P=none)(h3:(s.heap.get? P).isSome=true):Inv B (mo0 P s)/\Own (mo0 P s) P:=
 ⟨⟨h1,λb q=>(congrArg B.h.get? q).trans h2,λb q=>(congrArg (λb=>(s.heap.get? b).isSome) q).trans h3,λi o e=>nn e,λi o e=>nn e,λk i h=>mi h,λk i a c h=>mi h,λo h=>h.elim (λh=>nomatch h) (λh=>nomatch h)⟩,
  rfl,h3,λk i h=>mi h⟩
theorem walk{d:DefRec}{kwd:List (Str×Expr)}(hdn:d.name=lz)(hrun:rQ (prog.cf 30) jm st2 st3):WalkO hq hloose (λ_ _=>True) (λ_ h=>∃K:Frag,K.In h/\noTabs K=true/\nA K=true) rr.toRowW d kwd (λf vs=>PySem.call f vs):=by
 intro w s₀ s₁ mg mb G Y fa o pm cd k0 dV kV v hd d6 hD c4 hg e5 e6 as I R d5 e2 a6
 refine cp λ_ kk=>?_
 wrow_args I R d5 e2 a6
 rename_i ns hs1 hs2 hs3 hs4 hs5 as4 as3 la vs as0 hL ra w1 r0 hI Z hlen hcond
 clear hs1 hs2 hs3 hs4 hs5 ra w1 r0 Z hcond
 refine x13 Y λK hK d1 t=>?_
 have T:=G.T
 refine xS.elim λd' Q=>?_
 have N:d'.name=lz:=beq_iff_eq.mp (List.find?_some (p:=λe:DefRec=>e.name==lz) Q)
 refine x56 (T.tab d' (List.mem_of_find?_eq_some Q)) λa oa fd c P h1 h2 h3 h4 h5 n=>z7 (b7 t) λ_ _ _ _ W d0 A=>?_
 obtain⟨o',e1,sn,e7,c3,y,C,x,hX⟩:=q9 W
 have O:mg lz=some (.ref vV):=mg_of hK T.g (kq d0)
 obtain rfl:=Value.ref.inj (Option.some.inj (O.symm.trans (hdn▸c4)))
 obtain rfl:=Value.ref.inj (Option.some.inj (O.symm.trans (N▸h1)))
 obtain rfl:=Option.some.inj (h2.symm.trans (hK _ _ c3))
 obtain rfl:=Data.func.inj (h3.symm.trans y)
 have X:TabsAt [(c,P)] s₁.heap:=λq hq=>by
  exact(List.mem_singleton.mp hq)▸⟨CodeHd.of h5 n,n.2⟩
 refine x17 (i17 (p0:=λB:Base rr.prog w=>B.h=ghostOf s₁.heap [(c,P)]) (p1:=λB=>B.K=K) (p2:=λB=>B.mg=mg) (p3:=λB=>B.ca=jX cas) (p4:=λB=>B.fa=jX fas) (p5:=λB=>B.nm=jq g9) (p6:=λB=>B.roll=(λfd c1 c2=>fW (fk K) iS j0 vJ nmK fd c1 c2))
  (Aj X hK d1 T A) rfl rfl rfl rfl rfl rfl rfl) λB J eK a9 a5 c7 c6 l=>?_
 have D:Defs B prog (fk K):=yj t eK a5 c7 c6 (by exact l▸λ_ _ _ h=>h)
 have Lv:Lvl B prog (fk K) (prog.cf 30) 30:=D.lvl (D.callee 30)
 have a7:B.h.get? P=none:=by rw [J];exact hideAll_none _ (.head _)
 refine x02 (Cw (λb o e=>of_hideAll _ (J▸e)) a7 (n.2▸rfl)) λI0 s=>?_
 obtain rfl:=Option.some.inj (h2.symm.trans v)
 obtain rfl:=Data.func.inj (h3.symm.trans hd)
 refine x26 T.bmain λbm ob b1 b2 b3 b4 b5 b6=>?_
 have e0:bm≠P:=λq=>Value.noConfusion (b4.symm.trans (congrArg Obj.cls (Option.some.inj (b3.symm.trans (q▸n.2)))))
 have M:∀ {a:Addr} {o:Obj},mainGlobals=a->s₁.heap.get? a=some o->∃U z,o.data=.dict U z:=λq e=>x31 T.g λo U z r=>x02 r λe' r=>i21 U z (Option.some.inj (e.symm.trans (q▸e'))▸r.1)
 have a4:bm≠mainGlobals:=λq=>x21 (M q.symm b3) λU z e=>Data.noConfusion (b6.symm.trans e)
 have d4:mainGlobals≠P:=λq=>x21 (M q n.2) λU z e=>Data.noConfusion e
 have F:la≠P:=λq=>x12 hL λo v hc=>Value.noConfusion (hc.1.symm.trans (congrArg Obj.cls (Option.some.inj (v.symm.trans (q▸n.2)))))
 refine kk ?_
 refine enter_call (kn_post X (λ_ _=>rfl) ?_)
 refine tX C x h2 h3 d6 ?_ I0 λL W1 m s1 I1 j hF u E1 hm d2=>?_
 ·decide+kernel
 refine wpAny_mono (vR (items:=vs.toArray) hX Lv ?_ ?_ hrun I1 s1 E1 C.loc hm d2 ?_ ?_ (hI) (by lia) h4 ?_ (j.keep P _ n.2 s.2.2 λq=>q) (s.step j) (λb hb q=>?_) ?_ d4 ?_) (λf i1 h=>?_) λ_ _ q=>q
 ·exact iA.deeper ⟨rfl,by decide+kernel,by decide+kernel⟩ _
 ·intro kn e1 c1 c2 hR
  rw [l]
  have:kn=nmK:=hR.inj _ _ 2 hR.ctx2 rfl
  exact this▸hR
 ·refine x12 hL λo v Z=>?_
  exact i12 o (j.keep la o v (λk i h=>mi h) (λq=>q)) Z
 ·intro q
  refine(j.new la q).elim (λq=>?_) (λq=>?_)
  ·exact F q
  ·refine x12 hL λo v Z=>?_
   exact Mine.ns (v.symm.trans q)
 ·rw [J];exact(ghost_code X).1
 ·exact Mine.ns (n.2.symm.trans (q▸u _ b hb))
 ·intro h' d3
  exact a9▸i28 bm ob b1 b2 a4 e0 (d3 _ _ (J▸ghost_get X b3 (λq=>by replace b4:=q▸b4;cases b4))) b4 b5 b6
 ·intro q
  exact Mine.ns (n.2.symm.trans (q▸u [] L (.inl rfl)))
 ·obtain⟨W',ps,rfl,rfl,I',H,a0⟩:=h
  refine i03 rfl ⟨.inl (i35 (.bool true) (.bool true) [] rfl (λ_=>rfl) (.bool _) (by kernel_rfl) (λ_=>⟨List.nodup_nil,λa ha=>nomatch ha⟩)),λb o e=>I'.base b o (J▸e),H.2.trans j.sm.2,(H.1.trans j.sm.1).trans hg⟩ ⟨⟨ps,a0⟩,trivial⟩
end Mine
end
section
set_option maxHeartbeats 0
namespace Mine
open PySem PySem.W PyProof.Rows
noncomputable abbrev pw:Program:=Challenge.pw_up0027_01
noncomputable def nX(w:World)(os:OsState):Option SharedT:=gU pw w 11 (some (.ref 6)) 9400 (st0 w.params os) (topStub pw)
noncomputable def lC(w:World)(s:SharedT):Bool:=staticsOk [] (boot_heap w.params) s.abs.heap&&namesBound pw s.abs.heap&&gensDone s.abs&&laidKept (boot_heap w.params) s.abs.heap
theorem CA(w:World)(os:OsState):(nX (w.withFollow "special-get-raises" false) os).map (λs=>(lC (w.withFollow "special-get-raises" false) s,PySem.W.Fast.tw4187177175401517315 hq hloose [] (λ_=>true) true s.abs))=some (true,openGood hq hloose):=by kernel_rfl
theorem Cz(w:World)(os:OsState):(nX (w.withFollow "special-get-raises" true) os).map (λs=>(lC (w.withFollow "special-get-raises" true) s,PySem.W.Fast.tw4187177175401517315 hq hloose [] (λ_=>true) true s.abs))=some (true,openGood hq hloose):=by kernel_rfl
theorem Cy(w:World)(os:OsState):(nX (w.withFollow "special-get-raises" false) os).map (λs=>nA (gK s.abs.heap))=some true:=by kernel_rfl
theorem Cx(w:World)(os:OsState):(nX (w.withFollow "special-get-raises" true) os).map (λs=>nA (gK s.abs.heap))=some true:=by kernel_rfl
theorem left:LeftO pw hq hloose (λ_=>true) (λs=>nA (gK s.heap)) (λ_=>true) 9400:=λw=>by
 have b:importedModules pw.main.body=[]:=by kernel_rfl
 have l:∀w:World,∀a,∃s:SharedT,nX w a=some s/\lC w s=true/\openSeen hq hloose [] (λ_=>true) true s.abs=openGood hq hloose/\nA (gK s.abs.heap)=true:=by
  have mk:∀w a,(nX w a).map (λs=>(lC w s,PySem.W.Fast.tw4187177175401517315 hq hloose [] (λ_=>true) true s.abs))=some (true,openGood hq hloose)->(nX w a).map (λs=>nA (gK s.abs.heap))=some true->
    ∃s:SharedT,nX w a=some s/\lC w s=true/\openSeen hq hloose [] (λ_=>true) true s.abs=openGood hq hloose/\nA (gK s.abs.heap)=true:=λw a f j=>by
   obtain⟨s,g,e⟩:=Option.map_eq_some_iff.mp f
   obtain⟨u,c,i⟩:=Option.map_eq_some_iff.mp j
   rw [g] at c
   cases c
   obtain⟨r,q⟩:=Prod.mk.inj e
   exact⟨s,g,r,by rw [PySem.W.Fast.te4187177175401517315];exact q,i⟩
  exact byRow2 "special-get-raises" (λw a=>mk _ a (CA w a) (Cy w a)) λw a=>mk _ a (Cz w a) (Cx w a)
 have n:=boot_open (p:=pw) (N:=9400) (by kernel_rfl) (by kernel_rfl) (λs=>by rfl) w
 obtain⟨⟨h,gs,d,k,a⟩,e,i⟩:=Option.map_eq_some_iff.mp n
 obtain⟨rfl,rfl,rfl,rfl⟩:h=boot_heap w.params/\gs=Array.mk []/\d=boot_drawn/\k=boot_toks:=by simpa using i
 obtain⟨s,g,f,m,j⟩:=l w a
 have o:topRun treeTable pw w 11 (some (.ref 6)) 9400 ⟨boot_heap w.params,Array.mk [],boot_drawn,boot_toks,a⟩ (topStub pw)=some s.abs:=by
  have:=jL (jM.trans g)
  rwa [w6] at this
 have z:((boot_heap w.params).isNs mainGlobals&& (Array.mk []:Array GenState).size==0,(boot_heap w.params).objs.size,(boot_heap w.params).nsMap mainGlobals "__annotations__")=(true,11,some (.ref 6)):=by kernel_rfl
 obtain⟨z1,z2,z3⟩:_/\_/\_:=by simpa only [Prod.mk.injEq] using z
 unfold lC at f
 have t:topFrom treeTable pw w 9400 ⟨boot_heap w.params,Array.mk [],boot_drawn,boot_toks,a⟩=some s.abs:=by
  unfold topFrom
  dsimp only
  rw [z1,z2,z3,o,b]
  show(match staticsOk [] (boot_heap w.params) s.abs.heap&&namesBound pw s.abs.heap&&gensDone s.abs&&laidKept (boot_heap w.params) s.abs.heap with|true=>_|false=>_)=_
  rw [f]
 unfold openEnds
 rw [e]
 show(topFrom treeTable pw w 9400 _).map _=_
 rw [t,b]
 exact congrArg some (Prod.ext m j)
end Mine
end
section
namespace Mine
open PySem PySem.W PyProof.Rows
theorem zF:Fast.tw12908688711261696721 PySem.Challenge.rw_up0027_01.prog=true:=by
 delta Fast.tw12908688711261696721
 dsimp only
 repeat' with_reducible apply look_both
 all_goals decide+kernel
theorem Bh:Fast.tw2436336058641802641 PySem.Challenge.rw_up0027_01.row=true:=by
 delta Fast.tw2436336058641802641
 dsimp only
 repeat' with_reducible apply look_both
 ·exact zF
 all_goals decide+kernel
theorem Cr:Fast.tw17960256430627541270 PySem.Challenge.rw_up0027_01.row=true:=by
 delta Fast.tw17960256430627541270
 try dsimp only
 repeat' with_reducible apply look_both
 ·exact Bh
 all_goals decide+kernel
theorem said:PySem.Challenge.rw_up0027_01.wellSaid=true:=by
 rw [Fast.te9446332074065402090]
 delta Fast.tw9446332074065402090
 dsimp only
 repeat' with_reducible apply look_both
 ·rw [<-Fast.te2368527892694137696]
  exact Cr
 all_goals decide+kernel
end Mine
end
section
namespace Mine
open PySem
noncomputable def R0:List (List V):=[
 [(.int 1),(.str ⟨#[97,110,121]⟩)],
 [(.int 1),(.str ⟨#[117,110,107,110,111,119,110]⟩)],
 [(.int 1),(.str ⟨#[110,101,118,101,114]⟩)],
 [(.int 1),(.str ⟨#[118,111,105,100]⟩)],
 [(.int 1),(.str ⟨#[117,110,100,101,102,105,110,101,100]⟩)],
 [(.int 1),(.str ⟨#[110,117,108,108]⟩)],
 [(.int 1),(.str ⟨#[115,116,114,105,110,103]⟩)],
 [(.int 1),(.str qa)],
 [(.int 2),(.int 0),(.int 0)],
 [(.int 2),(.int 1),(.int 0)],
 [(.int 1),(.str ⟨#[111,98,106,101,99,116]⟩)],
 [(.int 8),(.tup []),(.tup []),(.tup []),(.tup []),(.tup []),(.int 0)],
 [(.int 6),(.tup [(.int 8),(.int 9)])],
 [(.int 1),(.str ⟨#[101,114,114,111,114]⟩)],
 [(.int 2),(.int 0),(.int 1)],
 [(.int 2),(.int 1),(.int 1)],
 [(.int 3),(.str qR),(.int 0)],
 [(.int 3),(.str ⟨#[98]⟩),(.int 0)],
 [(.int 8),(.tup [(.tup [(.str ⟨#[112]⟩),(.int 7),(.int 0),(.int 0)])]),(.tup []),(.tup []),(.tup [(.int 16),(.int 1)]),(.tup [(.int 17),(.int 0)]),(.int 0)],
 [(.int 8),(.tup [(.tup [(.str ⟨#[112]⟩),(.int 7),(.int 0),(.int 0)])]),(.tup []),(.tup []),(.tup [(.int 16),(.int 0)]),(.tup [(.int 9),(.int 0)]),(.int 0)],
 [(.int 6),(.tup [(.int 6),(.int 7)])],
 [(.int 6),(.tup [(.int 16),(.int 17)])],
 [(.int 6),(.tup [(.int 4),(.int 7)])],
 [(.int 6),(.tup [(.int 4),(.int 6)])],
 [(.int 18),(.tup [(.str ⟨#[120]⟩),(.str qv)]),(.tup [(.int 6)])],
 [(.int 10),(.int 0)],
 [(.int 10),(.int 1)],
 [(.int 10),(.int 2)],
 [(.int 10),(.int 3)],
 [(.int 10),(.int 4)],
 [(.int 10),(.int 5)],
 [(.int 10),(.int 6)],
 [(.int 10),(.int 7)],
 [(.int 10),(.int 8)],
 [(.int 10),(.int 9)],
 [(.int 13),(.tup []),(.tup []),(.int 16),(.tup []),(.int 0)],
 [(.int 8),(.tup [(.tup [(.str ⟨#[113]⟩),(.int 7),(.int 0),(.int 0)])]),(.tup []),(.tup []),(.tup []),(.tup []),(.int 0)],
 [(.int 4),(.int 1),(.int 0)],
 [(.int 5),(.int 1),(.str ⟨#[65]⟩),(.str ⟨#[118]⟩),(.int 0)],
 [(.int 5),(.int 1),(.str ⟨#[66]⟩),(.int 2),(.int 0)],
 [(.int 9),(.int 1),(.tup [])],
 [(.int 11),(.int 16),(.int 0)],
 [(.int 8),(.tup [(.tup [(.str ⟨#[112]⟩),(.int 7),(.int 0),(.int 0)])]),(.tup []),(.tup []),(.tup []),(.tup []),(.int 0)],
 [(.int 8),(.tup [(.tup [(.str ⟨#[112]⟩),(.int 7),(.int 0),(.int 0)])]),(.tup []),(.tup []),(.tup []),(.tup [(.int 17),(.int 0)]),(.int 0)],
 [(.int 8),(.tup [(.tup [(.str ⟨#[112]⟩),(.int 7),(.int 0),(.int 0)])]),(.tup []),(.tup []),(.tup []),(.tup [(.int 9),(.int 1)]),(.int 0)],
 [(.int 8),(.tup [(.tup [(.str ⟨#[112]⟩),(.int 7),(.int 0),(.int 0)])]),(.tup []),(.tup []),(.tup [(.int 7),(.int 0)]),(.tup []),(.int 0)],
 [(.int 8),(.tup [(.tup [(.str ⟨#[112]⟩),(.int 7),(.int 0),(.int 0)])]),(.tup []),(.tup []),(.tup [(.int 7),(.int 0)]),(.tup [(.int 17),(.int 0)]),(.int 0)],
 [(.int 8),(.tup [(.tup [(.str ⟨#[112]⟩),(.int 7),(.int 0),(.int 0)])]),(.tup []),(.tup []),(.tup [(.int 7),(.int 0)]),(.tup [(.int 9),(.int 1)]),(.int 0)],
 [(.int 8),(.tup [(.tup [(.str ⟨#[112]⟩),(.int 7),(.int 0),(.int 0)])]),(.tup []),(.tup []),(.tup [(.int 16),(.int 1)]),(.tup []),(.int 0)],
 [(.int 8),(.tup [(.tup [(.str ⟨#[112]⟩),(.int 7),(.int 0),(.int 0)])]),(.tup []),(.tup []),(.tup [(.int 16),(.int 1)]),(.tup [(.int 9),(.int 1)]),(.int 0)],
 [(.int 14),(.int 29)],
 [(.int 17),(.int 4),(.int 50),(.int (-1)),(.int 7),(.int 0),(.int 1)],
 [(.int 17),(.int 4),(.int 50),(.int (-1)),(.int 7),(.int 0),(.int 0)],
 [(.int 17),(.int 4),(.int 50),(.int (-1)),(.int 7),(.int 0),(.int 2)],
 [(.int 7),(.tup [(.int 29),(.int 36)])]]
structure G where
 ix:Int
 X:List (List V)
 of:List (Int×V)
 told:List V
 notes:List V
 dg:List V
 nt:List V
 ex:List Ob
noncomputable def G.rows(g:G):List (List V):=R0++g.X
noncomputable def idx:Nat->List (List V)->List (List V×V)
 |_,[]=>[]
 |n,r::q=>(r,.int (Int.ofNat n))::idx (n+1) q
noncomputable def obs(g:G):List Ob:=
 .list [.int g.ix]::
 .inst 0 [(0,(.ref 2)),(1,(.ref 3)),(2,(.ref 4)),(3,(.ref 5)),(4,(.ref 6)),(5,(.ref 7)),(6,(.ref 8)),(7,(.ref 9)),(8,(.int 0)),(9,(.int 0))]::
 .list (g.rows.map V.tup)::
 .tdict (idx 0 g.rows)::
 .list [.none,(.ref 10)]::
 .list [(.int 7),(.int 6),(.int 20),(.int 21),(.int (-1)),(.int 0),(.int 22),(.int 23),(.int 24),(.int 19)]::
 .list [(.int (-1)),(.int (-1)),(.int (-1)),(.int (-1)),(.int (-1)),(.int (-1)),(.int (-1)),(.int (-1)),(.int (-1)),(.int (-1))]::
 .list [(.str ⟨#[80,48]⟩),(.str ⟨#[80,49]⟩),(.str ⟨#[80,50]⟩),(.str ⟨#[80,51]⟩),(.str ⟨#[80,52]⟩),(.str ⟨#[80,53]⟩),(.str ⟨#[80,54]⟩),(.str ⟨#[80,55]⟩),(.str ⟨#[80,56]⟩),(.str ⟨#[80,57]⟩)]::
 .idict []::
 .idict []::
 .inst 1 [(11,(.int 1)),(12,(.int 2)),(13,(.str ⟨#[73]⟩)),(14,(.tup [])),(15,(.int 18)),(16,(.tup [])),(17,(.int (-1))),(18,(.int 0)),(19,(.bool false)),(20,(.ref 11)),(21,(.ref 12)),(22,(.int 0)),(23,(.int 0)),(24,(.str qv)),(25,(.int 0))]::
 .list []::
 .list []::
 .idict g.of::
 .list g.told::
 .list g.notes::
 .sdict [(qj,(.ref 1)),(qR,(.int 16)),(⟨#[98]⟩,(.int 17)),(qg,(.int 19)),(⟨#[111,102]⟩,(.ref 13)),(qG,(.ref 14)),(qu,(.ref 15)),(qx,(.lst [(.int 25),(.int 26),(.int 27),(.int 28),(.int 29),(.int 30),(.int 31),(.int 32),(.int 33),(.int 34)])),(⟨#[119,105,100,101]⟩,(.lst [(.str qa),(.str qd),(.str qd),(.str qr),(.str qr),(.str qr),(.str qr),(.str qd),(.str qr),(.str qr)])),(⟨#[99,97,108,108]⟩,(.int 35)),(⟨#[116,97,103]⟩,(.int 36)),(qJ,(.ref 17)),(qF,(.ref 18))]::
 .list [(.tup [(.str qe),(.int 2)]),(.tup [(.str qe),(.int 0)]),(.tup [(.str qe),(.int 1)]),(.tup [(.str qe),(.int 3)]),(.tup [(.str qe),(.int 4)]),(.tup [(.str qe),(.int 5)]),(.tup [(.str qe),(.int 6)]),(.tup [(.str qe),(.int 7)]),(.tup [(.str qe),(.int 8)]),(.tup [(.str qe),(.int 9)]),(.tup [(.str qo),(.tup [(.str ⟨#[120]⟩),(.str qv)]),(.lst [(.tup [(.str qe),(.int 1)])])]),(.tup [(.str qo),(.tup [(.str qv),(.str qv)]),(.lst [(.tup [(.str qb),(.int 7),(.str qp)])])]),(.tup [(.str qo),(.tup [(.str qv),(.str ⟨#[121]⟩)]),(.lst [(.tup [(.str qs),(.tup [(.str qe),(.int 4)])])])]),(.tup [(.str qo),(.tup [(.str qv),(.str ⟨#[45]⟩),(.str qv)]),(.lst [(.tup [(.str qb),(.int 6),(.str qp)]),(.tup [(.str qo),(.tup [(.str qv),(.str ⟨#[122]⟩)]),(.lst [(.tup [(.str qk),(.lst [(.tup [(.str qe),(.int 0)]),(.tup [(.str qb),(.int 6),(.str qp)])])])])])])]),(.tup [(.str qo),(.tup [(.str ⟨#[107]⟩),(.str qv)]),(.lst [(.tup [(.str qs),(.tup [(.str qb),(.int 19),(.str qg)])])])]),(.tup [(.str qo),(.tup [(.str ⟨#[120]⟩),(.str qv)]),(.lst [(.tup [(.str qb),(.int 7),(.str qp)])])]),(.tup [(.str qk),(.lst [(.tup [(.str qe),(.int 4)]),(.tup [(.str qb),(.int 6),(.str qp)])])]),(.tup [(.str qk),(.lst [(.tup [(.str qb),(.int 6),(.str qp)]),(.tup [(.str qb),(.int 36),(.str qg)])])]),(.tup [(.str qk),(.lst [(.tup [(.str qb),(.int 36),(.str qg)]),(.tup [(.str qb),(.int 7),(.str qp)])])]),(.tup [(.str qk),(.lst [(.tup [(.str qb),(.int 19),(.str qg)]),(.tup [(.str qb),(.int 36),(.str qg)])])]),(.tup [(.str qk),(.lst [(.tup [(.str qb),(.int 36),(.str qg)]),(.tup [(.str qo),(.tup [(.str ⟨#[120]⟩),(.str qv)]),(.lst [(.tup [(.str qe),(.int 1)])])])])]),(.tup [(.str qk),(.lst [(.tup [(.str qb),(.int 9),(.str qw)]),(.tup [(.str qb),(.int 36),(.str qg)])])]),(.tup [(.str qk),(.lst [(.tup [(.str qb),(.int 19),(.str qg)]),(.tup [(.str qs),(.tup [(.str qe),(.int 4)])])])]),(.tup [(.str qk),(.lst [(.tup [(.str qb),(.int 36),(.str qg)]),(.tup [(.str qo),(.tup [(.str ⟨#[120]⟩),(.str qv)]),(.lst [(.tup [(.str qb),(.int 7),(.str qp)])])])])]),(.tup [(.str qs),(.tup [(.str qe),(.int 4)])]),(.tup [(.str qs),(.tup [(.str qb),(.int 19),(.str qg)])]),(.tup [(.str qD),(.tup [(.str qe),(.int 9)]),(.tup [(.str qe),(.int 3)])]),(.tup [(.str ⟨#[97,115,107]⟩),(.tup [(.str qe),(.int 4)])]),(.tup [(.str ⟨#[97,108,105,97,115]⟩)]),(.tup [(.str ⟨#[109,97,112]⟩)]),(.tup [(.str qb),(.int 7),(.str qp)]),(.tup [(.str qb),(.int 6),(.str qp)]),(.tup [(.str qb),(.int 16),(.str qp)]),(.tup [(.str qb),(.int 37),(.str qp)]),(.tup [(.str qb),(.int 38),(.str qp)]),(.tup [(.str qb),(.int 39),(.str qp)]),(.tup [(.str qb),(.int 19),(.str qg)]),(.tup [(.str qb),(.int 36),(.str qg)]),(.tup [(.str qb),(.int 35),(.str qg)]),(.tup [(.str qb),(.int 40),(.str qg)]),(.tup [(.str qb),(.int 41),(.str qg)]),(.tup [(.str qb),(.int 10),(.str qg)]),(.tup [(.str qb),(.int 4),(.str qw)]),(.tup [(.str qb),(.int 5),(.str qw)]),(.tup [(.str qb),(.int 3),(.str qw)]),(.tup [(.str qb),(.int 9),(.str qw)]),(.tup [(.str qb),(.int 1),(.str ⟨#[111,116,104,101,114]⟩)]),(.tup [(.str qb),(.int 0),(.str qP)]),(.tup [(.str qb),(.int 13),(.str qP)])]::
 .list [(.ref 19),(.ref 20),(.ref 21),(.ref 22),(.ref 23),(.ref 24),(.ref 25),(.ref 26),(.ref 27),(.ref 28),(.ref 29),(.ref 30),(.ref 31),(.ref 32),(.ref 33),(.ref 34),(.ref 35),(.ref 36),(.ref 37),(.ref 38),(.ref 39),(.ref 40),(.ref 41),(.ref 42)]::
 .sdict [(qh,(.int 42)),(qd,(.tup [])),(qa,(.tup [])),(qc,(.bool false)),(qf,(.str qi))]::
 .sdict [(qh,(.int 43)),(qd,(.tup [])),(qa,(.tup [(.int 17),(.int 0)])),(qc,(.bool false)),(qf,(.str qi))]::
 .sdict [(qh,(.int 44)),(qd,(.tup [])),(qa,(.tup [(.int 9),(.int 1)])),(qc,(.bool false)),(qf,(.str qi))]::
 .sdict [(qh,(.int 45)),(qd,(.tup [(.int 7),(.int 0)])),(qa,(.tup [])),(qc,(.bool false)),(qf,(.str qi))]::
 .sdict [(qh,(.int 46)),(qd,(.tup [(.int 7),(.int 0)])),(qa,(.tup [(.int 17),(.int 0)])),(qc,(.bool false)),(qf,(.str qi))]::
 .sdict [(qh,(.int 47)),(qd,(.tup [(.int 7),(.int 0)])),(qa,(.tup [(.int 9),(.int 1)])),(qc,(.bool false)),(qf,(.str qi))]::
 .sdict [(qh,(.int 48)),(qd,(.tup [(.int 16),(.int 1)])),(qa,(.tup [])),(qc,(.bool false)),(qf,(.str qi))]::
 .sdict [(qh,(.int 18)),(qd,(.tup [(.int 16),(.int 1)])),(qa,(.tup [(.int 17),(.int 0)])),(qc,(.bool false)),(qf,(.str qi))]::
 .sdict [(qh,(.int 49)),(qd,(.tup [(.int 16),(.int 1)])),(qa,(.tup [(.int 9),(.int 1)])),(qc,(.bool false)),(qf,(.str qi))]::
 .sdict [(qh,(.int 40)),(qd,(.tup [(.int 16),(.int 1)])),(qa,(.tup [(.int 17),(.int 0)])),(qc,(.bool false)),(qf,(.str qi))]::
 .sdict [(qh,(.int 6)),(qd,(.tup [])),(qa,(.tup [])),(qc,(.bool true)),(qf,(.str qi))]::
 .sdict [(qh,(.int 16)),(qd,(.tup [])),(qa,(.tup [])),(qc,(.bool true)),(qf,(.str qi))]::
 .sdict [(qh,(.int 38)),(qd,(.tup [])),(qa,(.tup [])),(qc,(.bool true)),(qf,(.str qi))]::
 .sdict [(qh,(.int 7)),(qd,(.tup [])),(qa,(.tup [])),(qc,(.bool false)),(qf,(.str qi))]::
 .sdict [(qh,(.int 35)),(qd,(.tup [])),(qa,(.tup [])),(qc,(.bool false)),(qf,(.str qi))]::
 .sdict [(qh,(.int 10)),(qd,(.tup [])),(qa,(.tup [])),(qc,(.bool false)),(qf,(.str qi))]::
 .sdict [(qh,(.int 29)),(qd,(.tup [])),(qa,(.tup [])),(qc,(.bool false)),(qf,(.str ⟨#[111,112,101,110]⟩))]::
 .sdict [(qh,(.int 34)),(qd,(.tup [])),(qa,(.tup [])),(qc,(.bool false)),(qf,(.str ⟨#[111,112,101,110]⟩))]::
 .sdict [(qh,(.int 26)),(qd,(.tup [])),(qa,(.tup [])),(qc,(.bool false)),(qf,(.str ⟨#[111,112,101,110]⟩))]::
 .sdict [(qh,(.int 51)),(qd,(.tup [])),(qa,(.tup [])),(qc,(.bool false)),(qf,(.str ⟨#[115,104,117,116]⟩))]::
 .sdict [(qh,(.int 52)),(qd,(.tup [])),(qa,(.tup [])),(qc,(.bool false)),(qf,(.str qB))]::
 .sdict [(qh,(.int 53)),(qd,(.tup [])),(qa,(.tup [])),(qc,(.bool false)),(qf,(.str qB))]::
 .sdict [(qh,(.int 50)),(qd,(.tup [])),(qa,(.tup [])),(qc,(.bool false)),(qf,(.str qB))]::
 .sdict [(qh,(.int 54)),(qd,(.tup [])),(qa,(.tup [])),(qc,(.bool false)),(qf,(.str qB))]::
 .inst 6 [(26,(.ref 1)),(27,(.int 0)),(28,(.int 200)),(29,(.int 40)),(30,.none)]::
 .inst 3 [(0,(.ref 45)),(24,(.str qv))]::
 .list g.dg::
 .inst 4 [(0,(.ref 47))]::
 .list g.nt::
 .inst 14 [(26,(.ref 1)),(37,(.ref 43)),(38,.none),(46,.none),(47,.none),(48,(.ref 44)),(49,(.ref 46)),(50,(.ref 49)),(51,(.ref 50)),(52,(.ref 51)),(53,(.ref 52)),(54,(.ref 53)),(22,(.ref 54)),(55,(.ref 55)),(56,(.ref 56)),(57,(.ref 57)),(58,(.ref 58)),(59,(.ref 59)),(60,(.ref 60)),(61,(.ref 61)),(62,(.ref 62)),(63,(.ref 63)),(64,(.ref 64)),(65,(.ref 65)),(66,(.ref 66)),(67,(.ref 67)),(68,(.ref 68)),(69,(.ref 69)),(70,(.ref 70)),(71,(.ref 71)),(72,(.ref 72)),(73,(.ref 73)),(74,(.ref 74)),(75,(.ref 75)),(76,(.ref 76)),(77,(.ref 77)),(78,(.ref 78)),(79,(.ref 79)),(80,(.ref 80)),(81,(.ref 81)),(82,(.ref 82)),(83,(.ref 83)),(84,(.ref 84)),(85,(.ref 85)),(86,(.ref 86)),(87,(.int 0)),(88,(.ref 87)),(89,(.ref 88)),(90,.none),(91,.none),(92,(.ref 89)),(93,(.ref 91)),(94,(.ref 92)),(95,(.ref 94)),(96,(.ref 95)),(97,(.ref 96)),(98,(.ref 97)),(27,(.int 0))]::
 .idict []::
 .idict []::
 .idict []::
 .idict []::
 .idict []::
 .idict []::
 .idict []::
 .idict []::
 .idict []::
 .idict []::
 .list []::
 .list []::
 .list []::
 .list []::
 .list []::
 .list []::
 .idict []::
 .idict []::
 .idict []::
 .idict []::
 .idict []::
 .idict []::
 .idict []::
 .idict []::
 .idict []::
 .idict []::
 .idict []::
 .idict []::
 .idict []::
 .idict []::
 .idict []::
 .idict []::
 .idict []::
 .idict []::
 .idict []::
 .idict []::
 .idict []::
 .idict []::
 .idict []::
 .idict []::
 .inst 7 [(45,(.ref 90))]::
 .idict []::
 .inst 8 []::
 .inst 9 [(45,(.ref 93))]::
 .idict []::
 .inst 10 []::
 .inst 11 []::
 .inst 12 []::
 .inst 13 []::
 .list [(.ref 101),(.ref 104),(.ref 107)]::
 .inst 5 [(12,(.int 8)),(41,(.str ⟨#[111]⟩)),(40,(.lst [])),(42,(.int 0)),(23,(.int 1)),(25,(.int 0))]::
 .inst 5 [(12,(.int 8)),(41,(.str ⟨#[107]⟩)),(40,(.lst [])),(42,(.int 0)),(23,(.int 4)),(25,(.int 0))]::
 .inst 5 [(12,(.int 17)),(41,(.str qv)),(40,(.lst [(.ref 99),(.ref 100)])),(42,(.int 0)),(23,(.int 2)),(25,(.int 0))]::
 .inst 5 [(12,(.int 8)),(41,(.str ⟨#[111]⟩)),(40,(.lst [])),(42,(.int 0)),(23,(.int 10)),(25,(.int 0))]::
 .inst 5 [(12,(.int 8)),(41,(.str ⟨#[107]⟩)),(40,(.lst [])),(42,(.int 0)),(23,(.int 13)),(25,(.int 0))]::
 .inst 5 [(12,(.int 17)),(41,(.str qv)),(40,(.lst [(.ref 102),(.ref 103)])),(42,(.int 0)),(23,(.int 11)),(25,(.int 0))]::
 .inst 5 [(12,(.int 8)),(41,(.str ⟨#[111]⟩)),(40,(.lst [])),(42,(.int 0)),(23,(.int 19)),(25,(.int 0))]::
 .inst 5 [(12,(.int 8)),(41,(.str ⟨#[107]⟩)),(40,(.lst [])),(42,(.int 0)),(23,(.int 22)),(25,(.int 0))]::
 .inst 5 [(12,(.int 17)),(41,(.str qv)),(40,(.lst [(.ref 105),(.ref 106)])),(42,(.int 0)),(23,(.int 20)),(25,(.int 0))]::
 g.ex
noncomputable def mk(g:G)(T:List Ob):S:=⟨obs g,T⟩
noncomputable def g0:G:=⟨0,[],[],[],[],[],[],[]⟩
noncomputable def fj:Nat->Sts->Sts
 |0,_=>.nil
 |_+1,.nil=>.nil
 |n+1,.cons s r=>.cons s (fj n r)
noncomputable def cN:Nat->Sts->Sts
 |0,l=>l
 |_+1,.nil=>.nil
 |n+1,.cons _ r=>cN n r
noncomputable def ρ0(nv:V):List V:=[.none,nv,V.ref 0,V.clo nv (.ref 0)]++List.replicate (jm.slots - 4) V.undef
noncomputable def ρ1(nv:V):List V:=[.none,nv,.ref 0,.clo nv (.ref 0),(.ref 1),(.ref 16),(.ref 48),(.ref 98),(.int 2),(.lst [(.ref 105),(.ref 106)]),.undef,.undef,.undef,.undef,.undef,.undef,.undef]
theorem tH(nv:V):exs (prog.cf 30) (fj 7 jm.body) (ρ0 nv) ⟨[.list [.int 0]],[]⟩=some (.next,ρ1 nv,mk g0 []):=by kernel_rfl
theorem lt3{P:Nat->Prop}(p0:P 0)(p1:P 1)(p2:P 2):∀n,n<3->P n
 |0,_=>p0
 |1,_=>p1
 |2,_=>p2
 |_+3,h=>absurd h (Nat.not_lt.mpr (Nat.le_add_left _ _))
theorem lt5{P:Nat->Prop}(p0:P 0)(p1:P 1)(p2:P 2)(p3:P 3)(p4:P 4):∀n,n<5->P n
 |0,_=>p0
 |1,_=>p1
 |2,_=>p2
 |3,_=>p3
 |4,_=>p4
 |_+5,h=>absurd h (Nat.not_lt.mpr (Nat.le_add_left _ _))
theorem lt8{P:Nat->Prop}(p0:P 0)(p1:P 1)(p2:P 2)(p3:P 3)(p4:P 4)(p5:P 5)(p6:P 6)(p7:P 7):∀n,n<8->P n
 |0,_=>p0
 |1,_=>p1
 |2,_=>p2
 |3,_=>p3
 |4,_=>p4
 |5,_=>p5
 |6,_=>p6
 |7,_=>p7
 |_+8,h=>absurd h (Nat.not_lt.mpr (Nat.le_add_left _ _))
theorem zE{P:Nat->Prop}(p0:P 0)(p1:P 1)(p2:P 2)(p3:P 3)(p4:P 4)(p5:P 5)(p6:P 6)(p7:P 7)(p8:P 8)(p9:P 9):∀n,n<10->P n
 |0,_=>p0
 |1,_=>p1
 |2,_=>p2
 |3,_=>p3
 |4,_=>p4
 |5,_=>p5
 |6,_=>p6
 |7,_=>p7
 |8,_=>p8
 |9,_=>p9
 |_+10,h=>absurd h (Nat.not_lt.mpr (Nat.le_add_left _ _))
section
variable {cf:Cf}{ρ ρ':List V}{s s' s1 s2:S}
theorem aa{st:St}{r:Sts}{o}(h:ex cf st ρ s=some (.next,ρ',s'))(h2:exs cf r ρ' s'=o):exs cf (.cons st r) ρ s=o:=jx h h2
theorem af{st:St}{r:Sts}{v:V}(h:ex cf st ρ s=some (.ret v,ρ',s')):exs cf (.cons st r) ρ s=some (.ret v,ρ',s'):=qY h
theorem ag{c:E}{a b:Sts}{v:V}{t:Bool}{o}(h:ev cf c ρ s=some (v,s1))(ht:truth s1 v=some t)(h2:exs cf (if t then a else b) ρ s1=o):ex cf (.ite c a b) ρ s=o:=
 aw h (bh ht (by cases t<;>exact h2))
theorem ak{x:Nat}{e:E}{v:V}(h:ev cf e ρ s=some (v,s1)):ex cf (.asg x e) ρ s=some (.next,lset ρ x v,s1):=aw h rfl
theorem gm{o i e:E}{v ov iv:V}{s3 s4:S}(h1:ev cf e ρ s=some (v,s1))(h2:ev cf o ρ s1=some (ov,s2))(h3:ev cf i ρ s2=some (iv,s3))(h:setItem s3 ov iv v=some s4):ex cf (.setidx o i e) ρ s=some (.next,ρ,s4):=
 aw h1 (aw h2 (aw h3 (bh h rfl)))
theorem ay{e:E}{v:V}(h:ev cf e ρ s=some (v,s1)):ex cf (.ret e) ρ s=some (.ret v,ρ,s1):=aw h rfl
theorem bc{e:E}{v:V}(h:ev cf e ρ s=some (v,s1))(hv:small v=true):ex cf (.expr e) ρ s=some (.next,ρ,s1):=aw h (if_pos hv)
theorem ai{f:Nat}{args:Es}{l:List V}{r:Option (V×S)}(h:evs cf args ρ s=some (l,s1))(h2:cf.call f l s1=r):ev cf (.call f args) ρ s=r:=aw h h2
theorem aN{o:E}{m:Nat}{args:Es}{v:V}{c f:Nat}{fs:List (Nat×V)}{l:List V}{r:Option (V×S)}(h:ev cf o ρ s=some (v,s1))(ho:s1.ob v=some (.inst c fs))(hn:nget fs m=none)(hm:cf.meth c m=some f)
  (ha:evs cf args ρ s1=some (l,s2)) (h2:cf.call f (v::l) s2=r):ev cf (.meth o m args) ρ s=r:=
 aw h (bh ho ((if_pos (congrArg Option.isNone hn)).trans (bh hm (aw ha h2))))
theorem aq{op:Cop}{a b:E}{x y:V}{t:Bool}(h1:ev cf a ρ s=some (x,s1))(h2:ev cf b ρ s1=some (y,s2))(h:lb s2 op x y=some t):ev cf (.cmp op a b) ρ s=some (.bool t,s2):=
 aw h1 (aw h2 (bh h rfl))
theorem iY{op:Op}{a b:E}{x y r:V}(h1:ev cf a ρ s=some (x,s1))(h2:ev cf b ρ s1=some (y,s2))(h:lf op x y=some r):ev cf (.bin op a b) ρ s=some (r,s2):=
 aw h1 (aw h2 (bh h rfl))
theorem bo{a i:E}{x k r:V}(h1:ev cf a ρ s=some (x,s1))(h2:ev cf i ρ s1=some (k,s2))(h:item s2 x k=some r):ev cf (.idx a i) ρ s=some (r,s2):=
 aw h1 (aw h2 (bh h rfl))
theorem ei{o:E}{nm:Nat}{v r:V}(h:ev cf o ρ s=some (v,s1))(h2:getAttr cf.own s1 v nm=some r):ev cf (.attr o nm) ρ s=some (r,s1):=aw h (bh h2 rfl)
theorem ww{m:BM}{o:E}{args:Es}{v:V}{l:List V}{r:Option (V×S)}(h:ev cf o ρ s=some (v,s1))(h2:evs cf args ρ s1=some (l,s2))(hb:bkind s1 v=bkind s2 v)(h3:bm1 s2 m v l=r):ev cf (.bm m o args) ρ s=r:=
 aw h (aw h2 ((if_pos hb).trans h3))
theorem o8{c:List V->S->Option (V×S)}{f:List V->S->Option (Fl×List V×S)}{n:Nat}{v:V}{o}(h:c ρ s=some (v,s1))(ht:truth s1 v=some true)(h2:f ρ s1=some (.next,ρ',s'))(h3:exW c f n ρ' s'=o):exW c f (n+1) ρ s=o:=
 aw h (bh ht (jx h2 h3))
theorem cx{c a b:E}{v:V}{t:Bool}{o}(h:ev cf c ρ s=some (v,s1))(ht:truth s1 v=some t)(h2:ev cf (if t then a else b) ρ s1=o):ev cf (.ite c a b) ρ s=o:=
 aw h (bh ht (by cases t<;>exact h2))
theorem ae{e:E}{es:Es}{v:V}{l:List V}(h:ev cf e ρ s=some (v,s1))(h2:evs cf es ρ s1=some (l,s2)):evs cf (.cons e es) ρ s=some (v::l,s2):=
 aw h (aw h2 rfl)
theorem ir{e f:E}{es:Es}{v:V}{t conj:Bool}{o}(h:ev cf e ρ s=some (v,s1))(ht:truth s1 v=some t)(h2:(if t==conj then evB cf (.cons f es) ρ conj s1 else some (v,s1))=o):evB cf (.cons e (.cons f es)) ρ conj s=o:=
 aw h (bh ht h2)
theorem aR{x:Nat}{v:V}(h:lget ρ x=v)(hv:v≠ .undef):ev cf (.loc x) ρ s=some (v,s):=by
 subst h
 exact if_neg λq=>hv (V.undef.elim (motive_1:=λv=>v=V.undef) _ q rfl)
theorem ch{b:BF}{a:E}{v r:V}(h:ev cf a ρ s=some (v,s1))(h2:bf1 s1 b v=some r):ev cf (.bf b a) ρ s=some (r,s1):=aw h (bh h2 rfl)
theorem bJ{f:V->S->Option (V×S)}{src:V}{all r l:List V}{v y:V}(h:f v s=some (y,s1))(hk:bX s1 src all=true)(h2:evC f src all r s1=some (l,s2)):evC f src all (v::r) s=some (y::l,s2):=
 aw h ((if_pos hk).trans (aw h2 rfl))
theorem rJ{c f:V->S->Option (V×S)}{src:V}{all r l:List V}{v b y:V}{s3:S}(hc:c v s=some (b,s1))(ht:truth s1 b=some true)(h:f v s1=some (y,s2))(hk:bX s2 src all=true)(h2:jt c f src all r s2=some (l,s3)):jt c f src all (v::r) s=some (y::l,s3):=
 aw hc (bh ht (aw h ((if_pos hk).trans (aw h2 rfl))))
theorem rK{c f:V->S->Option (V×S)}{src:V}{all r:List V}{v b:V}{o}(hc:c v s=some (b,s1))(ht:truth s1 b=some false)(hk:bX s1 src all=true)(h2:jt c f src all r s1=o):jt c f src all (v::r) s=o:=
 aw hc (bh ht ((if_pos hk).trans h2))
theorem dd{elt src:E}{x:Nat}{v:V}{l out:List V}(h:ev cf src ρ s=some (v,s1))(hi:iter? s1 v=some l)(h2:evC (λv s=>ev cf elt (lset ρ x v) s) v l l s1=some (out,s2)):
  ev cf (.comp .frozen elt x src) ρ s=some (.lst out,s2):=aw h (bh hi (aw h2 rfl))
theorem iX{elt src c:E}{x:Nat}{v:V}{l out:List V}(h:ev cf src ρ s=some (v,s1))(hi:iter? s1 v=some l)
  (h2:jt (λv s=>ev cf c (lset ρ x v) s) (λv s=>ev cf elt (lset ρ x v) s) v l l s1=some (out,s2)):ev cf (.compIf elt x src c) ρ s=some (.lst out,s2):=aw h (bh hi (aw h2 rfl))
end
noncomputable def fr0(fn:Fn)(args:List V):List V:=args++fn.dflt.drop (args.length+fn.dflt.length - fn.params)++List.replicate (fn.slots - fn.params) .undef
noncomputable def ny(fn:Fn)(args:List V):Bool:=Nat.ble args.length fn.params&&Nat.ble fn.params (args.length+fn.dflt.length)
noncomputable abbrev Bg(f:Fl):V:=f.val
theorem sW{j f:Nat}{fn:Fn}{args:List V}{s s':S}{fl:Fl}{ρ':List V}(hf:prog.fn f=some fn)(ha:ny fn args=true)(hx:exs (prog.cf j) fn.body (fr0 fn args) s=some (fl,ρ',s'))(hn:aV (Bg fl)=true):
  (prog.cf (j+1)).call f args s=some (Bg fl,{s' with tmps:=s'.tmps.take s.tmps.length}):=by
 show(match prog.fn f with|some fn=>kJ (prog.cf j) fn args s|none=>none)=_
 exact hf▸(if_pos ⟨Nat.le_of_ble_eq_true (b2 ha).1,Nat.le_of_ble_eq_true (b2 ha).2⟩).trans (bh hx (if_pos hn))
theorem cP{j f:Nat}{fn:Fn}{args:List V}{g g':G}{T X:List Ob}{v:V}{ρ':List V}(hf:prog.fn f=some fn)(ha:ny fn args=true)(hx:exs (prog.cf j) fn.body (fr0 fn args) (mk g T)=some (.ret v,ρ',mk g' (T++X)))(hn:aV v=true):
  (prog.cf (j+1)).call f args (mk g T)=some (v,mk g' T):=by
 rw [sW hf ha hx hn]
 show some (v,(⟨obs g',(T++X).take T.length⟩:S))=_
 refine List.take_left▸?_;rfl
theorem ah{j f:Nat}{fn:Fn}{args:List V}{g g':G}{T:List Ob}{v:V}{ρ':List V}(hf:prog.fn f=some fn)(ha:ny fn args=true)(hx:exs (prog.cf j) fn.body (fr0 fn args) (mk g T)=some (.ret v,ρ',mk g' T))(hn:aV v=true):
  (prog.cf (j+1)).call f args (mk g T)=some (v,mk g' T):=cP hf ha (by rw [List.append_nil];exact hx) hn
theorem fe{j f:Nat}{fn:Fn}{args:List V}{g g':G}{T:List Ob}{ρ':List V}(hf:prog.fn f=some fn)(ha:ny fn args=true)(hx:exs (prog.cf j) fn.body (fr0 fn args) (mk g T)=some (.next,ρ',mk g' T)):
  (prog.cf (j+1)).call f args (mk g T)=some (.none,mk g' T):=by
 rw [sW hf ha hx rfl]
 show some (V.none,(⟨obs g',T.take T.length⟩:S))=_
 refine List.take_length▸?_;rfl
def aB(g:G)(p:Int)(r:List V):Prop:=∃n:Nat,p=Int.ofNat n/\g.rows[n]?=some r
theorem gf{g:G}{T:List Ob}{p:Int}{r:List V}(h:aB g p r):item (mk g T) (.ref 2) (.int p)=some (.tup r):=by
 obtain⟨n,rfl,h⟩:=h
 show(g.rows.map V.tup)[n]?=_
 simp only [List.getElem?_map,h];rfl
noncomputable def pos(r:List V):Nat->List (List V)->Option Nat
 |_,[]=>none
 |n,a::q=>if V.beqs a r then some n else pos r (n+1) q
theorem jO{r:List V}:∀ {l:List (List V)} {n:Nat},tget (idx n l) r=(pos r n l).map λk=>V.int (Int.ofNat k)
 |[],n=>rfl
 |a::q,n=>by
  unfold idx pos tget
  dsimp only [List.find?_cons]
  cases h:V.beqs a r with
  |true=>simp
  |false=>
   exact jO (l:=q)
theorem tc{r:List V}:∀ {l:List (List V)} {n:Nat},pos r n l=none->((idx n l).any λp=>V.beqs p.1 r)=false
 |[],n,_=>rfl
 |a::q,n,h=>by
  dsimp only [pos] at h
  split at h
  ·exact ns h
  ·rename_i hb
   dsimp only [idx]
   simp only [List.any_cons,tc h,Bool.or_false]
   simpa using hb
theorem oH{r:List V}:∀ {l:List (List V)} {n:Nat},idx n (l++[r])=idx n l++[(r,.int (Int.ofNat (n+l.length)))]
 |[],n=>rfl
 |a::q,n=>by
  show(a,_)::idx (n+1) (q++[r])=_
  exact(oH (l:=q))▸(show n+1+q.length=n+(a::q).length by simp;lia)▸rfl
theorem gJ:∀ {l:List (List V)} {n:Nat},(idx n l).length=l.length:=by
 intro b
 induction b with
 |nil=>
  exact @λ_=>rfl
 |cons a q gJ=>
  exact @λn=>by show(idx (n+1) q).length+1=_;refine gJ▸?_;rfl
theorem sg{r:List V}:∀ {l:List (List V)} {n k:Nat},pos r n l=some k->∃i,k=n+i/\l[i]?=some r
 |[],n,k,h=>by exact nn h
 |a::q,n,k,h=>by
  dsimp only [pos] at h
  split at h
  ·rename_i hb
   obtain rfl:=Option.some.inj h
   exact i12 0 rfl ((V.beqs_iff.mp hb)▸rfl)
  ·refine x12 (sg h) λi c b=>?_
   exact i12 (i+1) (by lia) b
theorem n5{r:List V}:∀ {l:List (List V)} {n:Nat},pos r n l=none->r ∉ l
 |[],n,_=>by simp
 |a::q,n,h=>by
  dsimp only [pos] at h
  split at h
  ·exact ns h
  ·rename_i hb
   intro c
   refine(List.mem_cons.mp c).elim (λb=>?_) (λc=>?_)
   ·subst b
    exact hb (V.beqs_iff.mpr rfl)
   ·exact n5 h c
theorem gX{r:List V}:∀ {l:List (List V)} {n i:Nat},l.Nodup->l[i]?=some r->pos r n l=some (n+i)
 |a::q,n,0,_,h=>by
  obtain rfl:=Option.some.inj h
  dsimp only [pos]
  rw [if_pos (V.beqs_iff.mpr rfl)];rfl
 |a::q,n,i+1,hn,h=>by
  rw [List.nodup_cons] at hn
  dsimp only [pos]
  rw [if_neg λb=>hn.1 (by exact(V.beqs_iff.mp b)▸List.mem_of_getElem? h),gX hn.2 h]
  congr 1;lia
noncomputable def gW(r:List V):Bool:=aO bB (.tup r)&&aD r
theorem sf{j:Nat}{g:G}{T:List Ob}{r:List V}{n:Nat}(h:pos r 0 g.rows=some n)(hk:gW r=true):(prog.cf (j+1)).call 2 [.ref 1,.tup r] (mk g T)=some (.int (Int.ofNat n),mk g T):=by
 simp only [gW,Bool.and_eq_true] at hk
 have a:tget (idx 0 g.rows) r=some (.int (Int.ofNat n)):=by simp only [jO,h];rfl
 refine ah rfl rfl (af (ag (v:=.bool true) (aq rfl rfl ?_) rfl (af (ay (bo rfl rfl ?_))))) rfl
 ·show(if aO bB (.tup r) then some (tget (idx 0 g.rows) r).isSome else none)=_
  rw [if_pos hk.1,a];rfl
 ·show(if aO bB (.tup r) then tget (idx 0 g.rows) r else none)=_
  rw [if_pos hk.1,a]
noncomputable def kL(g:G)(r:List V):G:={g with X:=g.X++[r]}
theorem pA{g:G}{r:List V}:(kL g r).rows=g.rows++[r]:=by
 show R0++(g.X++[r])=_
 rw [<-List.append_assoc];rfl
theorem xB{j:Nat}{g:G}{T:List Ob}{r:List V}(h:pos r 0 g.rows=none)(hk:gW r=true)(hz:g.rows.length<lim):
  (prog.cf (j+1)).call 2 [.ref 1,.tup r] (mk g T)=some (.int (Int.ofNat g.rows.length),mk (kL g r) T):=by
 simp only [gW,Bool.and_eq_true] at hk
 have b:tget (idx 0 g.rows) r=none:=by simp only [jO,h];rfl
 have a:mk (kL g r) T=⟨((obs g).set 2 (.list (g.rows.map V.tup++[.tup r]))).set 3 (.tdict (idx 0 g.rows++[(r,.int (Int.ofNat g.rows.length))])),T⟩:=by
  show(⟨obs (kL g r),T⟩:S)=_
  dsimp only [obs]
  simp only [pA,List.map_append,oH,Nat.zero_add]
  rfl
 refine ah rfl rfl (aa (ag (v:=.bool false) (aq rfl rfl ?_) rfl rfl)
  (aa (ak (v:=.int (Int.ofNat g.rows.length)) (ch rfl ?_))
  (aa (bc (v:=.none) (s1:=⟨(obs g).set 2 (.list (g.rows.map V.tup++[.tup r])),T⟩) ?_ rfl)
  (aa (ρ':=[.ref 1,.tup r,.int (Int.ofNat g.rows.length)]) (s':=mk (kL g r) T) ?_ (af (ay rfl)))))) rfl
 ·show(if aO bB (.tup r) then some (tget (idx 0 g.rows) r).isSome else none)=_
  rw [if_pos hk.1,b];rfl
 ·show some (V.int ((g.rows.map V.tup).length:Nat))=_
  rw [List.length_map];rfl
 ·show(if bkind (mk g T) (.ref 2)=bkind (mk g T) (.ref 2) then bm1 (mk g T) .append (.ref 2) [.tup r] else none)=_
  show(if aD r=true then(if(g.rows.map V.tup).length<lim then _ else none) else none)=_
  rw [if_pos hk.2,List.length_map,if_pos hz];rfl
 ·rw [a]
  have:setItem ⟨(obs g).set 2 (.list (g.rows.map V.tup++[.tup r])),T⟩ (.ref 3) (.tup r) (.int (Int.ofNat g.rows.length))=some ⟨((obs g).set 2 (.list (g.rows.map V.tup++[.tup r]))).set 3 (.tdict (idx 0 g.rows++[(r,.int (Int.ofNat g.rows.length))])),T⟩:=by
   show(if(aO bB (.tup r)&&decide ((idx 0 g.rows).length<lim))=true then some (⟨((obs g).set 2 (.list (g.rows.map V.tup++[.tup r]))).set 3 (.tdict (tput (idx 0 g.rows) r (.int (Int.ofNat g.rows.length)))),T⟩:S) else none)=_
   simp only [hk.1,gJ,decide_eq_true hz,Bool.true_and,if_pos rfl]
   unfold tput
   rw [tc h];rfl
  exact gm rfl rfl rfl this
structure Tg(b:Nat)(g:G):Prop where
 nd:g.rows.Nodup
 len:g.X.length<=b
 lid:b<=10000
noncomputable def ac(g:G)(Y:List (List V)):G:={g with X:=g.X++Y}
theorem aC{g:G}:ac g []=g:=by unfold ac;rw [List.append_nil]
theorem cH{g:G}{Y Z:List (List V)}:ac (ac g Y) Z=ac g (Y++Z):=by dsimp only [ac];rw [List.append_assoc]
theorem fg{g:G}{Y:List (List V)}:(ac g Y).rows=g.rows++Y:=by
 show R0++(g.X++Y)=_
 rw [<-List.append_assoc];rfl
theorem aB.ext{g:G}{p:Int}{r:List V}(h:aB g p r)(Y:List (List V)):aB (ac g Y) p r:=by
 refine x12 h λn b a=>?_
 exact i12 n b (by refine fg▸(List.getElem?_append_left (List.getElem?_eq_some_iff.mp a).1)▸?_;exact a)
theorem aB.fn{g:G}{p:Int}{r r':List V}(h:aB g p r)(h':aB g p r'):r=r':=by
 refine x12 h λn c d=>?_
 refine x12 h' λm a b=>?_
 replace a:=c▸a
 try clear h'
 cases a
 rw [d] at b;obtain rfl:=Option.some.inj b;rfl
theorem aB.inj{b:Nat}{g:G}(t:Tg b g){p p':Int}{r:List V}(h:aB g p r)(h':aB g p' r):p=p':=by
 refine x12 h λn c e=>?_
 refine x12 h' λm a i=>?_
 have d:=gX (n:=0) t.nd e
 have f:=gX (n:=0) t.nd i
 rw [d] at f
 simp only [c,a]
 exact(show n=m by lia)▸rfl
theorem Ao:R0.length=55:=rfl
theorem nY{g:G}:g.rows.length=55+g.X.length:=by unfold G.rows;rw [List.length_append,Ao]
theorem zq{b j:Nat}{g:G}{T:List Ob}{r:List V}{p:Int}(t:Tg b g)(h:aB g p r)(hk:gW r=true):(prog.cf (j+1)).call 2 [.ref 1,.tup r] (mk g T)=some (.int p,mk g T):=by
 obtain⟨n,rfl,h⟩:=h
 have e:=gX (n:=0) t.nd h
 simp only [Nat.zero_add] at e
 exact sf e hk
theorem cK{b j:Nat}{g:G}{T:List Ob}{r:List V}(t:Tg b g)(hb:b<10000)(hk:gW r=true):
  ∃p Y,(prog.cf (j+1)).call 2 [.ref 1,.tup r] (mk g T)=some (.int p,mk (ac g Y) T)/\aB (ac g Y) p r/\Tg (b+1) (ac g Y):=by
 have k:g.rows.length<lim:=by
  rw [nY]
  have:=t.len
  lia
 cases h:pos r 0 g.rows with
 |some n=>
  refine x12 (sg h) λi l f=>?_
  refine i23 (Int.ofNat n) [] (by exact aC▸sf h hk) ?_ ?_
  ·refine aC▸?_;exact i12 n rfl (by rw [l,Nat.zero_add];exact f)
  ·exact aC▸⟨t.nd,Nat.le_succ_of_le t.len,hb⟩
 |none=>
  refine i23 _ [r] (xB h hk k) ⟨_,rfl,?_⟩ ⟨?_,?_,hb⟩
  ·rw [fg,List.getElem?_append_right (Nat.le_refl _),Nat.sub_self];rfl
  ·rw [fg,List.nodup_append]
   refine i03 t.nd (by simp) (λa d c m e=>?_)
   simp only [List.mem_singleton.mp m] at e
   exact n5 h (e▸d)
  ·show(g.X++[r]).length<=_
   refine List.length_append▸?_
   have:=t.len
   simp only [List.length_cons,List.length_nil];lia
theorem aj{g:G}{n:Nat}{r:List V}(h:R0[n]?=some r):aB g (Int.ofNat n) r:=
 ⟨n,rfl,by unfold G.rows;exact(List.getElem?_append_left (List.getElem?_eq_some_iff.mp h).1)▸h⟩
section
variable {j b:Nat}{g:G}{T:List Ob}{p k:Int}{q r:List V}
theorem bj{s:S}{a c:Int}:lb s .eq (.int a) (.int c)=some (a==c):=rfl
theorem mj{s:S}{a c:Int}:lb s .ne (.int a) (.int c)=some (!(a==c)):=rfl
theorem aZ{a c:Int}(h:a≠c):(a==c)=false:=by simpa using h
theorem aB.ne{n:Nat}{r':List V}(h:aB g p r)(hb:R0[n]?=some r')(hn:r≠r'):p≠Int.ofNat n:=λe=>hn ((e▸h).fn (aj hb))
theorem aF{k':Int}{q':List V}(h:k≠k'):(V.int k::q)≠(V.int k'::q'):=λe=>h (by injection e with e _;injection e)
theorem bA{cf:Cf}{ρ:List V}{x y:Nat}(ho:cf.own 0 0=true)(h1:lget ρ x=.ref 1)(h2:lget ρ y=.int p)(h:aB g p r):ev cf (.idx (.attr (.loc x) 0) (.loc y)) ρ (mk g T)=some (.tup r,mk g T):=by
 exact bo (x:=.ref 2) (ei (aR h1 nofun) (if_pos ho)) (aR h2 nofun) (gf h)
theorem jT{cf:Cf}{ρ:List V}{x y c m:Nat}{fs:List (Nat×V)}(ho:cf.own 0 0=true)(hc:cf.own c 26=true)(hob:(mk g T).ob (.ref m)=some (.inst c fs))(hn:nget fs 26=some (.ref 1))(h1:lget ρ x=.ref m)(h2:lget ρ y=.int p)(h:aB g p r):
  ev cf (.idx (.attr (.attr (.loc x) 26) 0) (.loc y)) ρ (mk g T)=some (.tup r,mk g T):=by
 exact bo (x:=.ref 2) (ei (ei (aR h1 nofun) ((cX hob hc).trans hn)) (if_pos ho)) (aR h2 nofun) (gf h)
theorem pq(h:aB g p (.int k::q))(hk:k≠10):(prog.cf (j+1)).call 29 [.ref 1,.int p] (mk g T)=some (.int p,mk g T):=
 ah rfl rfl (aa (ak (bA rfl rfl rfl h)) (af (ag
  (aq rfl rfl (by simp only [mj,aZ hk];rfl)) rfl (af (ay rfl))))) rfl
theorem ic(h:aB g p (.int k::q))(hk:k≠10):(prog.cf (j+2)).call 43 [.ref 43,.int p] (mk g T)=some (.int p,mk g T):=
 ah rfl rfl (af (ay (ai (l:=[.ref 1,.int p]) rfl (pq h hk)))) rfl
theorem iR{v:V}(hn:aV v=true)(hv:v≠ .undef):(prog.cf (j+1)).call 26 [.ref 43,v] (mk g T)=some (v,mk g T):=
 ah rfl rfl (af (ay (aR rfl hv))) hn
theorem fD(h:aB g p (.int k::q))(hk:k≠6)(hp:p≠2):(prog.cf (j+1)).call 6 [.ref 1,.int p] (mk g T)=some (.tup [.int p],mk g T):=
 ah rfl rfl (aa (ag (v:=.bool false) (aq (x:=.int p) rfl rfl (by simp only [bj,aZ hp])) rfl rfl)
  (aa (ak (bA rfl rfl rfl h)) (aa (ag (v:=.bool false) (aq rfl rfl (by exact(bj)▸(aZ hk)▸rfl)) rfl rfl)
  (af (ay rfl))))) rfl
theorem n9{ts:List V}(h:aB g p [.int 6,.tup ts])(hn:aD ts=true):(prog.cf (j+1)).call 6 [.ref 1,.int p] (mk g T)=some (.tup ts,mk g T):=by
 have a:p≠2:=h.ne rfl (aF (by decide))
 exact ah rfl rfl (aa (ag (v:=.bool false) (aq rfl rfl (by exact(bj)▸(aZ a)▸rfl)) rfl rfl)
  (aa (ak (bA rfl rfl rfl h)) (af (ag (aq rfl rfl rfl) rfl (af (ay rfl)))))) hn
theorem mG(h:aB g p (.int k::q))(hk:k∈[10,14,15,16,17,19]):(prog.cf (j+2)).call 15 [.ref 1,.int p] (mk g T)=some (.int 0,mk g T):=by
 simp only [List.mem_cons,List.not_mem_nil,or_false] at hk
 have b:(prog.cf (j+1)).call 7 [.tup (.int k::q)] (mk g T)=some (.int (-1),mk g T):=by
  rcases hk with rfl|rfl|rfl|rfl|rfl|rfl<;>exact ah rfl rfl (ρ':=[.tup (.int _::q),.int _]) rfl rfl
 have e:=aa (ak (x:=2) (bA (cf:=prog.cf (j+1)) (T:=T) (ρ:=fr0 eQ [.ref 1,.int p]) (x:=0) (y:=1) rfl rfl rfl h))
  (r:=match eQ.body with|.cons _ r=>r|.nil=>.nil) (o:=some (.ret (.int 0),[.ref 1,.int p,.tup (.int k::q),.int k,.int (-1)],mk g T))
 refine ah rfl rfl (e ?_) rfl
 have a:=ai (ρ:=[.ref 1,.int p,.tup (.int k::q),.int k,.undef]) (args:=Es.cons (E.loc 2) Es.nil) rfl b
 rcases hk with rfl|rfl|rfl|rfl|rfl|rfl<;>exact aa rfl (aa rfl (aa rfl (aa rfl (aa rfl (aa rfl (aa (ak a) rfl))))))
theorem gL(h:aB g p (.int 18::q)):(prog.cf (j+2)).call 15 [.ref 1,.int p] (mk g T)=some (.int 1,mk g T):=by
 have b:(prog.cf (j+1)).call 7 [.tup (.int 18::q)] (mk g T)=some (.int 6,mk g T):=ah rfl rfl (ρ':=[.tup (.int 18::q),.int 18]) rfl rfl
 have a:=ai (ρ:=[.ref 1,.int p,.tup (.int 18::q),.int 18,.undef]) (args:=Es.cons (E.loc 2) Es.nil) rfl b
 exact ah rfl rfl (ρ':=[.ref 1,.int p,.tup (.int 18::q),.int 18,.int 6]) (aa (ak (bA rfl rfl rfl h)) (aa rfl (aa rfl (aa rfl (aa rfl (aa rfl (aa rfl (aa (ak a) rfl)))))))) rfl
end
noncomputable def rs(g:G)(seen wait:List Int):S:=mk g [.idict (seen.map (·,.int 1)),.list (wait.map .int)]
theorem iP{a:Int}:∀ {seen:List Int},a ∉ seen->iget (seen.map (·,.int 1)) a=none
 |[],_=>rfl
 |c::r,h=>by
  unfold iget
  refine List.map_cons▸List.find?_cons▸?_
  have:((c==a):Bool)=false:=by simp at h ⊢;exact λe=>h.1 e.symm
  simp only [this]
  exact iP (λq=>h (List.mem_cons_of_mem _ q))
theorem iO{a:Int}:∀ {seen:List Int},a∈seen->(iget (seen.map (·,.int 1)) a).isSome=true
 |c::r,h=>by
  unfold iget
  refine List.map_cons▸List.find?_cons▸?_
  cases e:(c==a:Bool) with
  |true=>rfl
  |false=>
   refine iO (seen:=r) ?_
   refine(List.mem_cons.mp h).elim (λb=>?_) (λh=>?_)
   ·subst b
    simp at e
   ·exact h
theorem oD{a:Int}{seen:List Int}(h:a ∉ seen):iput (seen.map (·,.int 1)) a (.int 1)=(seen++[a]).map (·,.int 1):=by
 unfold iput
 have:((seen.map λx=>(x,V.int 1)).any λp=>p.1==a)=false:=by
  rw [List.any_map,List.any_eq_false]
  intro x b
  simp only [Function.comp_apply,beq_iff_eq]
  rintro rfl;exact h b
 refine this▸?_;simp
section
variable {j b:Nat}{g:G}{T:List Ob}{p k:Int}{q r:List V}
noncomputable def iG:Sts:=match lN.body with
 |.cons _ (.cons _ (.cons (.while_ _ b) _))=>b
 |_=>.nil
noncomputable def ez(cf:Cf)(n:Nat)(ρ:List V)(s:S):=exW (ev cf (.loc 3)) (exs cf iG) n ρ s
noncomputable def rρ(t:Int)(z:V):List V:=[.ref 1,.int t,.tmp 0,.tmp 1,z]
theorem jK{seen wait:List Int}:truth (rs g seen wait) (.tmp 1)=some (!wait.isEmpty):=by
 show some (!(wait.map V.int).isEmpty)=_
 cases wait<;>rfl
theorem lr{ws:List Int}{a t:Int}{z:V}{seen:List Int}:ex (prog.cf j) (St.asg 4 (E.bm BM.pop (E.loc 3) Es.nil)) (rρ t z) (rs g seen (ws++[a]))=some (.next,rρ t (.int a),rs g seen ws):=by
 refine ak ?_
 have:((ws++[a]).map V.int).getLast?=some (.int a):=by rw [List.map_append];simp
 have b:((ws++[a]).map V.int).dropLast=ws.map V.int:=by rw [List.map_append];simp
 show((ws++[a]).map V.int).getLast?.bind (λv=>((rs g seen (ws++[a])).put (.tmp 1) (.list ((ws++[a]).map V.int).dropLast)).map ((v,·)))=_
 refine this▸b▸?_;rfl
theorem tN{n:Nat}{t a:Int}{z:V}{seen ws:List Int}(h:a∈seen)(ha:0<=a):
  ez (prog.cf j) (n+1) (rρ t z) (rs g seen (ws++[a]))=ez (prog.cf j) n (rρ t (.int a)) (rs g seen ws):=by
 have b:exs (prog.cf j) iG (rρ t z) (rs g seen (ws++[a]))=some (.next,rρ t (.int a),rs g seen ws):=by
  refine aa lr (aa (ag (v:=.bool false) (ir (t:=true) (aq (x:=.int a) rfl rfl ?_) rfl ?_) rfl rfl) rfl)
  ·show some (decide (a≥0))=_
   rw [decide_eq_true ha]
  ·show ev (prog.cf j) (.cmp .notin (.loc 4) (.loc 2)) (rρ t (.int a)) (rs g seen ws)=_
   refine aq (x:=.int a) (y:=.tmp 0) rfl rfl ?_
   show(some (iget (seen.map (·,V.int 1)) a).isSome).map (!·)=_
   refine(iO h)▸?_;rfl
 exact o8 (v:=.tmp 1) rfl (jK.trans (by cases ws<;>rfl)) b rfl
theorem aP{n:Nat}{t a:Int}{z:V}{seen ws ks:List Int}(h:a ∉ seen)(ha:0<=a)(hr:aB g a r)(hs:seen.length<lim)(hw:ws.length+ks.length<=lim)
  (hk:∀seen ws,(prog.cf j).call 21 [.ref 1,.tup r] (rs g seen ws)=some (.lst (ks.map .int),rs g seen ws)):
  ez (prog.cf j) (n+1) (rρ t z) (rs g seen (ws++[a]))=ez (prog.cf j) n (rρ t (.int a)) (rs g (seen++[a]) (ws++ks)):=by
 have c:exs (prog.cf j) iG (rρ t z) (rs g seen (ws++[a]))=some (.next,rρ t (.int a),rs g (seen++[a]) (ws++ks)):=by
  refine aa lr (aa (ag (v:=.bool true) (s1:=rs g seen ws) (ir (t:=true) (aq rfl rfl ?_) rfl ?_) rfl
   (aa (ρ':=rρ t (.int a)) (s':=rs g (seen++[a]) ws) ?_ (aa (bc (v:=.none) ?_ rfl) rfl))) rfl)
  ·show some (decide (a≥0))=_
   rw [decide_eq_true ha]
  ·show ev (prog.cf j) (.cmp .notin (.loc 4) (.loc 2)) (rρ t (.int a)) (rs g seen ws)=_
   refine aq rfl rfl ?_
   show(some (iget (seen.map (·,V.int 1)) a).isSome).map (!·)=_
   refine(iP h)▸?_;rfl
  ·refine gm rfl rfl rfl ?_
   show(if(seen.map (·,V.int 1)).length<lim then(rs g seen ws).put (.tmp 0) (.idict (iput (seen.map (·,V.int 1)) a (.int 1))) else none)=_
   rw [List.length_map,if_pos hs,oD h];rfl
  ·have d:=hk (seen++[a]) ws
   have e:evs (prog.cf j) (Es.cons (E.call 21 (Es.cons (E.loc 0) (Es.cons (E.idx (E.attr (E.loc 0) 0) (E.loc 4)) Es.nil))) Es.nil) (rρ t (.int a)) (rs g (seen++[a]) ws)=some ([.lst (ks.map .int)],rs g (seen++[a]) ws):=
    ae (ai (ae rfl (ae (bA rfl rfl rfl hr) rfl)) d) rfl
   have b:∀l:List Int,aD (l.map V.int)=true:=λl=>by induction l with|nil=>rfl|cons a l ih=>exact ih
   refine ww rfl e rfl ?_
   show(if aD (ks.map V.int)=true then(if(ws.map V.int).length+(ks.map V.int).length<=lim then((rs g (seen++[a]) ws).put (.tmp 1) (.list (ws.map V.int++ks.map V.int))).map ((V.none,·)) else none) else none)=_
   rw [if_pos (b ks),List.length_map,List.length_map,if_pos hw,<-List.map_append]
   rfl
 exact o8 rfl (jK.trans (by cases ws<;>rfl)) c rfl
end
theorem ja{x a:Int}:∀ {l:List Int},a∈ct x l↔a=x\/a∈l
 |[]=>by simp [ct]
 |y::r=>by
  dsimp only [ct]
  split
  ·simp
  ·rw [List.mem_cons,ja (l:=r),List.mem_cons]
   constructor
   ·rintro(h|h|h)
    ·exact .inr (.inl h)
    ·exact .inl h
    ·exact .inr (.inr h)
   ·rintro(h|h|h)
    ·exact .inr (.inl h)
    ·exact .inl h
    ·exact .inr (.inr h)
theorem cW{a:Int}:∀ {l:List Int},a∈bF l↔a∈l:=by
 intro b
 induction b with
 |nil=>
  exact Iff.rfl
 |cons x r cW=>
  exact by dsimp only [bF];rw [ja,cW,List.mem_cons]
theorem jc{x:Int}:∀ {l:List Int},(ct x l).length=l.length+1
 |[]=>rfl
 |y::r=>by
  dsimp only [ct]
  split
  ·rfl
  ·rw [List.length_cons,jc (l:=r)];rfl
theorem eO:∀ {l:List Int},(bF l).length=l.length:=by
 intro a
 induction a with
 |nil=>
  exact rfl
 |cons x r eO=>
  exact by dsimp only [bF];rw [jc,eO];rfl
theorem oF:∀ {l:List Int},ints? (l.map V.int)=some l
 |[]=>rfl
 |a::r=>by
  show(ints? (r.map V.int)).map (a:: ·)=_
  refine(oF (l:=r))▸?_;rfl
theorem cE:∀ {l:List Int},aD (l.map V.int)=true
 |[]=>rfl
 |_::r=>cE (l:=r)
theorem lO{f:V->S->Option (V×S)}{all:List V}{c:V}{s:S}:∀ {l:List Int},(∀a∈l,f (.int a) s=some (c,s))->evC f (.lst all) all (l.map .int) s=some (l.map λ_=>c,s)
 |[],_=>rfl
 |a::r,h=>by
  exact bJ (h a (List.mem_cons_self ..)) rfl (lO (l:=r) λx b=>h x (List.mem_cons_of_mem _ b))
theorem jI{s:S}:∀ {n:List Int},truths s (n.map λ_=>V.tup [])=some (n.map λ_=>false)
 |[]=>rfl
 |a::r=>by
  show(match truth s (.tup []),truths s (r.map λ_=>V.tup []) with|some b,some l=>some (b::l)|_,_=>none)=_
  refine(jI (n:=r))▸?_;rfl
theorem ta:∀ {n:List Int},((n.map λ_=>false).any id)=false
 |[]=>rfl
 |_::r=>ta (n:=r)
section
variable {j b:Nat}{g:G}{T:List Ob}{p k:Int}{q r:List V}
theorem dS{t:Int}{z:V}{l:List Int}(hw:ez (prog.cf j) 100 (rρ t .undef) (rs g [] [t])=some (.next,rρ t z,rs g l []))(hl:l.length<64):
  (prog.cf (j+1)).call 22 [.ref 1,.int t] (mk g [])=some (.lst ((bF l).map .int),mk g []):=by
 refine cP rfl rfl (ρ':=rρ t z) (aa (ρ':=[.ref 1,.int t,.tmp 0,.undef,.undef]) (s':=mk g [.idict []]) rfl (aa (ρ':=rρ t .undef) (s':=rs g [] [t]) rfl (aa (ρ':=rρ t z) (s':=rs g l []) hw (af (ay (ch (v:=.tmp 0) rfl ?_)))))) cE
 show(if(l.map (·,V.int 1)).length<64 then some (V.lst ((bF ((l.map (·,V.int 1)).map (·.1))).map .int)) else none)=_
 rw [List.length_map,if_pos hl,List.map_map]
 have:(l.map ((·.1)∘λx=>(x,V.int 1)))=l:=by rw [show((λx:Int×V=>x.1)∘λx:Int=>(x,V.int 1))=id from rfl,List.map_id]
 rw [this]
theorem rP(h1:k≠13)(h2:k≠16)(h3:k≠17):(prog.cf (j+1)).call 20 [.tup (.int k::q)] (mk g T)=some (.tup [],mk g T):=
 ah rfl rfl (aa (ag (aq rfl rfl (by rw [bj,aZ h1])) rfl rfl)
  (aa (ag (aq rfl rfl (by rw [bj,aZ h2])) rfl rfl)
  (aa (ag (aq rfl rfl (by rw [bj,aZ h3])) rfl rfl)
  (af (ay rfl))))) rfl
def Pm(g:G)(a:Int):Prop:=∃i,aB g a [.int 10,.int i]
def Np(g:G)(a:Int):Prop:=∃k q,aB g a (.int k::q)/\k≠10/\k≠13/\k≠16/\k≠17
theorem yJ{a:Int}(hp:Pm g a)(hn:Np g a):False:=x11 hp λi c=>x23 hn λk q b d _=>d (V.int.inj (List.cons.inj (c.fn b)).1).symm
theorem wx{c f:V->S->Option (V×S)}{s:S}{all:List V}(hp:∀a,Pm g a->c (.int a) s=some (.bool true,s)/\∃i,f (.int a) s=some (.int i,s))(hn:∀a,Np g a->c (.int a) s=some (.bool false,s)){l:List Int}:
  (∀a∈l,Pm g a\/Np g a)->∃out:List Int,jt c f (.lst all) all (l.map .int) s=some (out.map .int,s)/\out.length<=l.length/\((∃a∈l,Pm g a)->out≠[])/\((∀a∈l,Np g a)->out=[]):=by
 induction l with
 |nil=>exact λ_=>i14 [] rfl (Nat.le_refl _) (λd=>x12 d λa h _=>nomatch h) λ_=>rfl
 |cons a r ih=>
  intro h
  refine x14 (ih λx b=>h x (.tail _ b)) λout e d k m=>(h a (.head _)).elim (λq=>?_) λq=>?_
  ·exact(hp a q).elim λt n=>n.elim λi o=>i14 (i::out) (rJ t rfl o rfl e) (Nat.succ_le_succ d) (λ_=>nofun) λj=>(yJ q (j a (.head _))).elim
  ·exact i14 out (rK (hn a q) rfl rfl e) (Nat.le_succ_of_le d) (λd=>x12 d λx b p=>(List.mem_cons.mp b).elim (λe=>(yJ (e▸p) q).elim) λb=>k ⟨x,b,p⟩) λj=>m λx b=>j x (.tail _ b)
theorem cm{t:Int}{l:List Int}(ht:0<=t)(hr:(prog.cf (j+1)).call 22 [.ref 1,.int t] (mk g [])=some (.lst ((bF l).map .int),mk g []))(hl:l.length<64)(hk:∀a∈l,Pm g a\/Np g a){c:Bool}
  (hc:(c=true/\∃a∈l,Pm g a)\/(c=false/\∀a∈l,Np g a)):(prog.cf (j+3)).call 24 [.ref 1,.int t] (mk g [])=some (.bool c,mk g []):=by
 have o:∀a∈bF l,Pm g a\/Np g a:=λa n=>hk a (cW.mp n)
 refine x14 (wx (c:=(λv s=>ev (prog.cf (j+1)) (E.cmp Cop.eq (E.idx (E.idx (E.attr (E.loc 0) 0) (E.loc 8)) (E.lit (V.int 0))) (E.glb ⟨#[89,95,80,65,82,65,77]⟩ (V.int 10))) (lset [.ref 1,.int t,.lst ((bF l).map .int),.undef,.undef,.undef,.undef,.undef,.undef] 8 v) s)) (f:=(λv s=>ev (prog.cf (j+1)) (E.idx (E.idx (E.attr (E.loc 0) 0) (E.loc 8)) (E.lit (V.int 1))) (lset [.ref 1,.int t,.lst ((bF l).map .int),.undef,.undef,.undef,.undef,.undef,.undef] 8 v) s)) (s:=mk g []) (all:=(bF l).map .int) (λa q=>q.elim λi hr=>⟨aq (bo (bA rfl rfl rfl hr) rfl rfl) rfl rfl,i,bo (bA rfl rfl rfl hr) rfl rfl⟩)
  (λa q=>x23 q λk q hr hk I=>aq (bo (bA rfl rfl rfl hr) rfl rfl) rfl (by simp only [bj,aZ hk])) o) λm e A y r=>?_
 simp only [eO] at A
 have C:∀a∈bF l,(λv s=>ev (prog.cf (j+1)) (E.call 20 (Es.cons (E.idx (E.attr (E.loc 0) 0) (E.loc 7)) Es.nil)) (lset [.ref 1,.int t,.lst ((bF l).map .int),.undef,.undef,.undef,.undef,.undef,.undef] 7 v) s) (.int a) (mk g [])=some (.tup [],mk g []):=by
  intro a n
  have:∃k q,aB g a (.int k::q)/\k≠13/\k≠16/\k≠17:=by
   refine(o a n).elim (λb=>?_) (λd=>?_)
   ·refine x11 b λi hr=>?_
    exact i24 10 _ hr (by decide) (by decide) (by decide)
   ·refine x25 d λk q hr _ u p w=>?_
    exact i24 k q hr u p w
  refine cp λ_ B=>?_
  refine x24 this λk q hr u p w=>?_
  refine B ?_
  exact ai (ae (bA rfl rfl rfl hr) rfl) (rP u p w)
 have H:(prog.cf (j+2)).call 23 [.ref 1,.int t] (mk g [])=some (.tup ((bF m).map .int),mk g []):=by
  refine ah rfl rfl (aa (ag (v:=.bool false) (aq rfl rfl ?_) rfl rfl)
   (aa (ak (ai (l:=[.ref 1,.int t]) rfl hr)) (af (ag (v:=.bool true) ?_ rfl (af (ay (ch (v:=.lst ((bF m).map .int)) (ch
    (iX (v:=.lst ((bF l).map .int)) rfl rfl e) ?_) rfl))))))) cE
  ·show some (decide (t<0))=_
   rw [decide_eq_false (by lia)]
  ·have D:=dd (src:=E.loc 2) rfl rfl (lO C)
   have z:ev (prog.cf (j+1)) (.bf .any (.comp .frozen (E.call 20 (Es.cons (E.idx (E.attr (E.loc 0) 0) (E.loc 7)) Es.nil)) 7 (E.loc 2))) [.ref 1,.int t,.lst ((bF l).map .int),.undef,.undef,.undef,.undef,.undef,.undef] (mk g [])=some (.bool false,mk g []):=by
    refine ch D ?_
    show(truths (mk g []) _).map _=_
    refine jI▸?_
    simp only [Option.map_some,ta]
   show ev (prog.cf (j+1)) (.not _) [.ref 1,.int t,.lst ((bF l).map .int),.undef,.undef,.undef,.undef,.undef,.undef] (mk g [])=_
   exact aw z rfl
  ·show(if(m.map V.int).length<64 then(ints? (m.map V.int)).map λl=>V.lst ((bF l).map .int) else none)=_
   rw [List.length_map,if_pos (by lia),oF];rfl
 refine ah rfl rfl (af (ay (aq (x:=.int ((bF m).length:Nat)) (ch (ai (l:=[.ref 1,.int t]) rfl H) ?_) rfl ?_))) rfl
 ·show some (V.int (((bF m).map V.int).length:Nat))=_
  rw [List.length_map]
 ·show some (decide (((bF m).length:Int)>0))=_
  rw [eO]
  rcases hc with⟨rfl,h⟩|⟨rfl,h⟩
  ·have:=y (x12 h λa n F=>i12 a (cW.mpr n) F)
   have:0<m.length:=List.length_pos_iff.mpr this
   rw [decide_eq_true (by lia)]
  ·refine(r λa n=>h a (cW.mp n))▸?_;rfl
end
noncomputable abbrev yG:Str:=qb
noncomputable abbrev uY:Str:=qe
noncomputable abbrev Bc:Str:=qo
noncomputable abbrev yF:Str:=qk
noncomputable abbrev uZ:Str:=qs
noncomputable abbrev sAt:Str:=qD
noncomputable abbrev Be:Str:=⟨#[97,115,107]⟩
noncomputable abbrev u7:Str:=⟨#[97,108,105,97,115]⟩
noncomputable abbrev Bd:Str:=⟨#[109,97,112]⟩
mutual
inductive Tm where
 |leaf (t:Int) (s:Str)
 |param (n:Nat)
 |tpl (ss:List Str) (ks:Tms)
 |meet (ks:Tms)
 |keyof (a:Tm)
 |at_ (a b:Tm)
 |ask (a:Tm)
 |alias
 |map
inductive Tms where
 |nil
 |cons (a:Tm) (r:Tms)
end
mutual
noncomputable def Tm.v:Tm->V
 |.leaf t s=>.tup [.str yG,.int t,.str s]
 |.param n=>.tup [.str uY,.int (Int.ofNat n)]
 |.tpl ss ks=>.tup [.str Bc,.tup (ss.map .str),.lst ks.vs]
 |.meet ks=>.tup [.str yF,.lst ks.vs]
 |.keyof a=>.tup [.str uZ,a.v]
 |.at_ a b=>.tup [.str sAt,a.v,b.v]
 |.ask a=>.tup [.str Be,a.v]
 |.alias=>.tup [.str u7]
 |.map=>.tup [.str Bd]
noncomputable def Tms.vs:Tms->List V
 |.nil=>[]
 |.cons a r=>a.v::r.vs
end
mutual
noncomputable def Tm.d:Tm->Nat
 |.tpl _ ks=>ks.d+1
 |.meet ks=>ks.d+1
 |.keyof a=>a.d+1
 |.at_ a b=>max a.d b.d+1
 |.ask a=>a.d+1
 |_=>0
noncomputable def Tms.d:Tms->Nat
 |.nil=>0
 |.cons a r=>max a.d r.d
end
mutual
noncomputable def Tm.n:Tm->Nat
 |.tpl _ ks=>ks.n+1
 |.meet ks=>ks.n+1
 |.keyof a=>a.n+1
 |.at_ a b=>a.n+b.n+1
 |.ask a=>a.n+1
 |_=>1
noncomputable def Tms.n:Tms->Nat
 |.nil=>0
 |.cons a r=>a.n+r.n
end
mutual
noncomputable def Is(g:G):Tm->Int->Prop
 |.leaf t0 _,t=>t=t0
 |.param n,t=>t=Int.ofNat (25+n)/\n<10
 |.tpl ss ks,t=>∃ts,Iss g ks ts/\aB g t [.int 18,.tup (ss.map .str),.tup (ts.map .int)]
 |.meet ks,t=>∃ts,Iss g ks ts/\aB g t [.int 7,.tup (ts.map .int)]
 |.keyof a,t=>∃x,Is g a x/\aB g t [.int 14,.int x]
 |.at_ a b,t=>∃x y,Is g a x/\Is g b y/\aB g t [.int 15,.int x,.int y]
 |.ask a,t=>∃x,Is g a x/\aB g t [.int 16,.int x,.int 6,.int 7,.int 16,.tup [],.int 0]
 |.alias,t=>aB g t [.int 19,.int 1,.tup []]
 |.map,t=>aB g t [.int 17,.int 4,.int 16,.int (-1),.int 7,.int 0,.int 0]
noncomputable def Iss(g:G):Tms->List Int->Prop
 |.nil,[]=>True
 |.cons a r,t::q=>Is g a t/\Iss g r q
 |_,_=>False
end
mutual
noncomputable def Tm.ok:Tm->Bool
 |.param n=>Nat.blt n 10
 |.tpl _ ks=>ks.ok
 |.meet ks=>ks.ok
 |.keyof a=>a.ok
 |.at_ a b=>a.ok&&b.ok
 |.ask a=>a.ok
 |_=>true
noncomputable def Tms.ok:Tms->Bool
 |.nil=>true
 |.cons a r=>a.ok&&r.ok
end
theorem Iss.one{g:G}{a:Tm}:∀ {ts:List Int},Iss g (.cons a .nil) ts->∃x,ts=[x]
 |[x],_=>⟨x,rfl⟩
 |[],h=>h.elim
 |_::_::_,h=>h.2.elim
theorem Iss.two{g:G}{a b:Tm}:∀ {ts:List Int},Iss g (.cons a (.cons b .nil)) ts->∃x y,ts=[x,y]
 |[x,y],_=>⟨x,y,rfl⟩
 |[],h=>h.elim
 |[_],h=>h.2.elim
 |_::_::_::_,h=>h.2.2.elim
def Dm(o o':List (Int×V)):Prop:=∀x,(iget o x).isSome=true->(iget o' x).isSome=true
def Ex(g g':G):Prop:=∃Y o,Dm g.of o/\g'={g with X:=g.X++Y,of:=o}
theorem Ex.refl(g:G):Ex g g:=i22 [] g.of (λ_ h=>h) (by rw [List.append_nil])
theorem Ex.trans{g g' g'':G}(x:Ex g g')(y:Ex g' g''):Ex g g'':=by
 refine x22 x λY o d a=>?_
 subst a
 refine x22 y λZ c e b=>?_
 subst b
 exact i22 (Y++Z) c (λx h=>e x (d x h)) (by simp only [List.append_assoc])
theorem Ex.add(g:G)(Y:List (List V)):Ex g (ac g Y):=i22 Y g.of (λ_ h=>h) rfl
theorem Ex.dm{g g':G}(x:Ex g g'):Dm g.of g'.of:=by
 refine cp λ_ b=>?_
 refine x22 x λY o d a=>?_
 subst a
 refine b ?_
 exact d
def Le(g g':G):Prop:=∃Y,g'.X=g.X++Y
theorem Le.refl(g:G):Le g g:=⟨[],(List.append_nil _).symm⟩
theorem Le.trans{g g' g'':G}(x:Le g g')(y:Le g' g''):Le g g'':=by
 obtain⟨Y,x⟩:=x
 obtain⟨Z,y⟩:=y
 exact⟨Y++Z,by simp only [y,x,List.append_assoc]⟩
theorem Ex.le{g g':G}(x:Ex g g'):Le g g':=by
 refine cp λ_ b=>?_
 refine x22 x λY o _ a=>?_
 subst a
 refine b ?_
 exact⟨Y,rfl⟩
theorem Le.add(g:G)(Y:List (List V)):Le g (ac g Y):=⟨Y,rfl⟩
theorem Le.of_eq{g g':G}(h:g'.X=g.X):Le g g':=⟨[],by rw [h,List.append_nil]⟩
theorem aB.le{g g':G}(x:Le g g'){p:Int}{r:List V}(h:aB g p r):aB g' p r:=by
 obtain⟨Y,x⟩:=x
 have h:=h.ext Y
 unfold aB G.rows at h ⊢
 exact x▸h
theorem aB.ex{g g':G}(x:Ex g g'){p:Int}{r:List V}(h:aB g p r):aB g' p r:=h.le x.le
mutual
theorem Is.le{g g':G}(x:Le g g'):∀ {τ:Tm} {t:Int},Is g τ t->Is g' τ t
 |.leaf _ _,_,h=>h
 |.param _,_,h=>h
 |.tpl ss ks,t,h=>by obtain⟨e,d,c⟩:=h;exact⟨e,Iss.le x d,c.le x⟩
 |.meet ks,t,h=>by obtain⟨e,d,c⟩:=h;exact⟨e,Iss.le x d,c.le x⟩
 |.keyof a,t,h=>by obtain⟨y,d,c⟩:=h;exact⟨y,Is.le x d,c.le x⟩
 |.at_ a b,t,h=>by obtain⟨y,z,d,c,f⟩:=h;exact⟨y,z,Is.le x d,Is.le x c,f.le x⟩
 |.ask a,t,h=>by obtain⟨y,d,c⟩:=h;exact⟨y,Is.le x d,c.le x⟩
 |.alias,t,h=>aB.le x h
 |.map,t,h=>aB.le x h
theorem Iss.le{g g':G}(x:Le g g'):∀ {ks:Tms} {ts:List Int},Iss g ks ts->Iss g' ks ts
 |.nil,[],_=>trivial
 |.cons a r,t::q,h=>⟨Is.le x h.1,Iss.le x h.2⟩
 |.nil,_::_,h=>h.elim
 |.cons _ _,[],h=>h.elim
end
theorem Is.ex{g g':G}(x:Ex g g'){τ:Tm}{t:Int}(h:Is g τ t):Is g' τ t:=h.le x.le
theorem Iss.ex{g g':G}(x:Ex g g'){ks:Tms}{ts:List Int}(h:Iss g ks ts):Iss g' ks ts:=h.le x.le
structure Gd(Kn:Tm->Prop)(b:Nat)(g:G):Prop where
 t:Tg b g
 ofl:g.of.length<=b
 of:∀x v,iget g.of x=some v->∃τ,Kn τ/\v=τ.v/\Is g τ x
theorem iQ{l:List (Int×V)}{k x:Int}{v:V}:iget (iput l k v) x=if x=k then some v else iget l x:=by
 unfold iput
 split
 ·rename_i h
  unfold iget
  induction l with
  |nil=>exact ff h
  |cons p r ih=>
   simp only [List.map_cons,List.find?_cons]
   by_cases e:p.1=k
   ·subst e
    by_cases e2:x=p.1
    ·subst e2;simp
    ·have b:((p.1==x):Bool)=false:=by simpa using λq=>e2 q.symm
     simp only [beq_self_eq_true,if_true,b,if_neg e2]
     by_cases c:(r.any λa=>a.1==p.1)=true
     ·have:=ih c
      rw [if_neg e2] at this;exact this
     ·have:r.map (λa=>if(a.1==p.1)=true then(a.1,v) else a)=r.map id:=List.map_congr_left λy d=>by
       have:((y.1==p.1):Bool)=false:=by
        cases q:(y.1==p.1:Bool) with
        |false=>rfl
        |true=>exact absurd (List.any_eq_true.mpr ⟨y,d,q⟩) c
       refine this▸?_;rfl
      simp only [this,List.map_id]
   ·have f:((p.1==k):Bool)=false:=by simpa using e
    have c:(r.any λp=>p.1==k)=true:=by simp only [List.any_cons,f] at h;exact h
    have:=ih c
    simp only [f,Bool.false_eq_true,if_false]
    by_cases e2:p.1=x
    ·subst e2;simp [e]
    ·have b:((p.1==x):Bool)=false:=by simpa using e2
     simp only [b]
     exact this
 ·rename_i h
  unfold iget
  simp only [List.find?_append]
  by_cases e:x=k
  ·subst e
   have:l.find? (λp=>p.1==x)=none:=by
    rw [List.find?_eq_none]
    intro y d hq
    exact h (List.any_eq_true.mpr ⟨y,d,hq⟩)
   refine this▸?_;simp
  ·have b:((k==x):Bool)=false:=by simpa using λq=>e q.symm
   refine(if_neg e)▸?_
   simp only [List.find?_cons,b,List.find?_nil,Option.or_none]
theorem wf{l:List (Int×V)}{k:Int}{v:V}:(iput l k v).length<=l.length+1:=by
 unfold iput
 split
 ·rw [List.length_map];exact Nat.le_succ _
 ·rw [List.length_append];exact Nat.le_refl _
mutual
theorem Tm.nt:∀τ:Tm,aV τ.v=true
 |.leaf _ _=>rfl
 |.param _=>rfl
 |.tpl ss ks=>by
  show(true&& (aD (ss.map V.str)&& (aD ks.vs&&true)))=true
  rw [Tms.nt ks]
  have:aD (ss.map V.str)=true:=by induction ss with|nil=>rfl|cons a r ih=>exact ih
  rw [this];rfl
 |.meet ks=>by show(true&& (aD ks.vs&&true))=true;rw [Tms.nt ks];rfl
 |.keyof a=>by show(true&& (aV a.v&&true))=true;rw [Tm.nt a];rfl
 |.at_ a b=>by show(true&& (aV a.v&& (aV b.v&&true)))=true;rw [Tm.nt a,Tm.nt b];rfl
 |.ask a=>by show(true&& (aV a.v&&true))=true;rw [Tm.nt a];rfl
 |.alias=>rfl
 |.map=>rfl
theorem Tms.nt:∀ks:Tms,aD ks.vs=true
 |.nil=>rfl
 |.cons a r=>by show(aV a.v&&aD r.vs)=true;rw [Tm.nt a,Tms.nt r];rfl
end
theorem gI{n:Nat}:∀ {l:List Int},(l.map V.int).all (aO n)=true
 |[]=>rfl
 |a::r=>by
  simp only [List.map_cons,List.all_cons,gI (l:=r)]
  cases n<;>rfl
theorem ke{n:Nat}:∀ {l:List Str},(l.map V.str).all (aO n)=true
 |[]=>rfl
 |a::r=>by
  simp only [List.map_cons,List.all_cons,ke (l:=r)]
  cases n<;>rfl
theorem fI:∀ {l:List Str},aD (l.map V.str)=true
 |[]=>rfl
 |_::r=>fI (l:=r)
theorem tL{ss:List Str}{ts:List Int}:gW [.int 18,.tup (ss.map .str),.tup (ts.map .int)]=true:=by
 show((true&& ((ss.map V.str).all (aO 3)&& ((ts.map V.int).all (aO 3)&&true)))&& (true&& (aD (ss.map V.str)&& (aD (ts.map V.int)&&true))))=true
 simp only [gI,ke,cE,fI];rfl
theorem jU{k:Int}{ts:List Int}:gW [.int k,.tup (ts.map .int)]=true:=by
 show((true&& ((ts.map V.int).all (aO 3)&&true))&& (true&& (aD (ts.map V.int)&&true)))=true
 rw [gI,cE];rfl
mutual
noncomputable def Kw(Kn:Tm->Prop):Tm->Prop
 |.tpl ss ks=>Kn (.tpl ss ks)/\Kws Kn ks
 |.meet ks=>Kn (.meet ks)/\Kws Kn ks
 |.keyof a=>Kn (.keyof a)/\Kw Kn a
 |.at_ a b=>Kn (.at_ a b)/\Kw Kn a/\Kw Kn b
 |.ask a=>Kn (.ask a)/\Kw Kn a
 |.leaf t s=>Kn (.leaf t s)
 |.param n=>Kn (.param n)
 |.alias=>Kn .alias
 |.map=>Kn .map
noncomputable def Kws(Kn:Tm->Prop):Tms->Prop
 |.nil=>True
 |.cons a r=>Kw Kn a/\Kws Kn r
end
theorem Kw.kn{Kn:Tm->Prop}{τ:Tm}(h:Kw Kn τ):Kn τ:=by
 cases τ<;>first|exact h|exact h.1
section
variable {Kn:Tm->Prop}{b m:Nat}{g:G}
theorem cg{l:List V}(h:Nat.ble l.length 100=true):l.length<=lim:=Nat.le_trans (Nat.le_of_ble_eq_true h) (by decide)
theorem ci{cf:Cf}{es:Es}{ρ:List V}{s s1:S}{l:List V}(h:evs cf es ρ s=some (l,s1))(hl:l.length<=lim):ev cf (.tup es) ρ s=some (.tup l,s1):=aw h (if_pos hl)
theorem Gd.add{Y:List (List V)}{c:Nat}(h:Gd Kn b g)(t:Tg c (ac g Y))(hc:b<=c):Gd Kn c (ac g Y):=
 ⟨t,Nat.le_trans h.ofl hc,λx v e=>x13 (h.of x v e) λτ d f a=>i13 τ d f (a.ex (.add g Y))⟩
noncomputable def gH(g:G)(p:Int)(v:V):G:={g with of:=iput g.of p v}
theorem Ex.note(g:G)(p:Int)(v:V):Ex g (gH g p v):=i22 [] (iput g.of p v) (λx h=>by refine iQ▸?_;split<;>first|rfl|exact h) (by rw [List.append_nil];rfl)
theorem cL{g:G}{p:Int}{v:V}:(iget (gH g p v).of p).isSome=true:=by
 show(iget (iput g.of p v) p).isSome=true
 refine iQ▸(if_pos rfl)▸?_;rfl
theorem Gd.note{p:Int}{τ:Tm}(h:Gd Kn b g)(hk:Kn τ)(hi:Is g τ p)(hb:b<10000):Gd Kn (b+1) (gH g p τ.v):=by
 have a:=Ex.note g p τ.v
 refine⟨⟨h.t.nd,Nat.le_succ_of_le h.t.len,hb⟩,Nat.le_trans wf (Nat.succ_le_succ h.ofl),λx v e=>?_⟩
 have e:iget (iput g.of p τ.v) x=some v:=e
 simp only [iQ] at e
 split at e
 ·rename_i q
  obtain rfl:=Option.some.inj e
  exact i13 τ hk rfl (q▸hi.ex a)
 ·refine x13 (h.of x v e) λd f i c=>?_
  exact i13 d f i (c.ex a)
theorem xC{τ:Tm}{p:Int}{a5 a6 srt:V}(hl:g.of.length<lim):
  exs (prog.cf m) (cN 3 iT.body) [.ref 16,τ.v,.ref 1,srt,.int p,a5,a6] (mk g [])=some (.ret (.int p),[.ref 16,τ.v,.ref 1,srt,.int p,a5,a6],mk (gH g p τ.v) []):=by
 have e:∀y,ev (prog.cf m) (E.loc 1) [.ref 16,τ.v,.ref 1,srt,.int p,a5,a6] y=some (τ.v,y):=λy=>aR rfl (by cases τ<;>exact nofun)
 refine aa (s':=mk (gH g p τ.v) []) (gm (ov:=.ref 13) (iv:=.int p) (e _) rfl rfl ?_) (af (ay rfl))
 have:setItem (mk g []) (.ref 13) (.int p) τ.v=some (mk (gH g p τ.v) []):=by
  unfold setItem
  rw [if_pos τ.nt]
  show(if g.of.length<lim then(mk g []).put (.ref 13) (.idict (iput g.of p τ.v)) else none)=_
  rw [if_pos hl];rfl
 rw [this]
noncomputable def Tm.s:Tm->Str
 |.leaf _ _=>yG
 |.param _=>uY
 |.tpl _ _=>Bc
 |.meet _=>yF
 |.keyof _=>uZ
 |.at_ _ _=>sAt
 |.ask _=>Be
 |.alias=>u7
 |.map=>Bd
noncomputable def ρp(τ:Tm)(v4:V):List V:=[.ref 16,τ.v,.ref 1,.str τ.s,v4,.undef,.undef]
noncomputable def zr:St:=match iT.body with
 |.cons _ (.cons _ (.cons s _))=>s
 |_=>.ret0
theorem bV{τ:Tm}{p:Int}{g':G}(hb:ex (prog.cf m) zr (ρp τ .undef) (mk g [])=some (.next,ρp τ (.int p),mk g' []))(hl:g'.of.length<lim):
  (prog.cf (m+1)).call 61 [.ref 16,τ.v] (mk g [])=some (.int p,mk (gH g' p τ.v) []):=by
 refine ah rfl rfl (aa (ρ':=[.ref 16,τ.v,.ref 1,.undef,.undef,.undef,.undef]) (s':=mk g []) rfl (aa (ρ':=ρp τ .undef) (s':=mk g []) ?_ (aa hb (xC hl)))) rfl
 try clear hb
 cases τ<;>rfl
theorem dF{n:Nat}(h:n<=10000):n<lim:=by
 lia
theorem dT{cf:Cf}{es:Es}{τ:Tm}{g1 g2:G}{l:List V}{p:Int}(hm:cf.meth 0 10=some 2)(h:evs cf es (ρp τ .undef) (mk g [])=some (l,mk g1 []))(hl:l.length<=lim)(hp:cf.call 2 [.ref 1,.tup l] (mk g1 [])=some (.int p,mk g2 [])):
  ev cf (.meth (.loc 2) 10 (.cons (.tup es) .nil)) (ρp τ .undef) (mk g [])=some (.int p,mk g2 []):=
 aN rfl rfl rfl hm (ae (ci h hl) rfl) hp
theorem nq{cf:Cf}{x:Nat}{ρ:List V}{τ:Tm}{s:S}(h0:lget (lset ρ x τ.v) 0=.ref 16)(h1:lget (lset ρ x τ.v) x=τ.v):ev cf (E.call 61 (Es.cons (E.loc 0) (Es.cons (E.loc x) Es.nil))) (lset ρ x τ.v) s=cf.call 61 [.ref 16,τ.v] s:=
 ai (ae (aR h0 nofun) (ae (aR h1 (by cases τ<;>exact nofun)) rfl)) rfl
mutual
theorem fC:∀ (τ:Tm) {n b:Nat} {g:G},Gd Kn b g->Kw Kn τ->τ.ok=true->τ.d+2<=n->b+2*τ.n<=10000->
  ∃p g',(prog.cf n).call 61 [.ref 16,τ.v] (mk g [])=some (.int p,mk g' [])/\Is g' τ p/\Ex g g'/\Gd Kn (b+2*τ.n) g'/\(iget g'.of p).isSome=true
 |.leaf t s,n+1,b,g,hg,hk,f,hn,hb=>by
  have h:=bV (m:=n) (τ:=.leaf t s) (p:=t) (g':=g) (g:=g) rfl (dF (Nat.le_trans hg.ofl (xL ‹_›)))
  exact⟨t,_,h,rfl,.note g t _,by
   have:=hg.note (p:=t) (τ:=.leaf t s) hk rfl (by have:(Tm.leaf t s).n=1:=rfl;omega)
   exact⟨⟨this.t.nd,Nat.le_succ_of_le this.t.len,hb⟩,Nat.le_succ_of_le this.ofl,this.of⟩,cL⟩
 |.param i,n+1,b,g,hg,hk,f,hn,hb=>by
  have O:i<10:=Nat.le_of_ble_eq_true f
  have u:ev (prog.cf n) (E.idx (E.idx (E.loc 0) (E.lit (V.str qx))) (E.idx (E.loc 1) (E.lit (V.int 1)))) (ρp (.param i) .undef) (mk g [])=some (.int (Int.ofNat (25+i)),mk g []):=by
   exact zE (P:=λi=>ev (prog.cf n) (E.idx (E.idx (E.loc 0) (E.lit (V.str qx))) (E.idx (E.loc 1) (E.lit (V.int 1)))) (ρp (.param i) .undef) (mk g [])=some (.int (Int.ofNat (25+i)),mk g [])) rfl rfl rfl rfl rfl rfl rfl rfl rfl rfl i O
  have h:=bV (m:=n) (τ:=.param i) (p:=Int.ofNat (25+i)) (g':=g) (g:=g)
   (ag (v:=.bool false) (s1:=mk g []) rfl rfl (aa (ag (v:=.bool true) (s1:=mk g []) rfl rfl (aa (ak u) rfl)) rfl)) (dF (Nat.le_trans hg.ofl (xL ‹_›)))
  exact⟨_,_,h,⟨rfl,O⟩,.note g _ _,by
   have:=hg.note (p:=Int.ofNat (25+i)) (τ:=.param i) hk ⟨rfl,O⟩ (by have:(Tm.param i).n=1:=rfl;omega)
   exact⟨⟨this.t.nd,Nat.le_succ_of_le this.t.len,hb⟩,Nat.le_succ_of_le this.ofl,this.of⟩,cL⟩
 |.tpl ss ks,n+2,b,g,hg,hk,f,hn,hb=>by
  have k:(Tm.tpl ss ks).n=ks.n+1:=rfl
  have N:(Tm.tpl ss ks).d=ks.d+1:=rfl
  obtain⟨K,g1,H,D,I,B⟩:=l7 ks (F:=λv s=>ev (prog.cf (n+1)) (E.call 61 (Es.cons (E.loc 0) (Es.cons (E.loc 5) Es.nil))) (lset (ρp (.tpl ss ks) .undef) 5 v) s) (n:=n+1) (λτ s=>nq rfl rfl) ks.vs hg hk.2 f (by omega) (by omega)
  obtain⟨p,Y,A,q,z⟩:=cK (j:=n) (T:=[]) (r:=[.int 18,.tup (ss.map .str),.tup (K.map .int)]) B.t (by omega) tL
  have u:=dT (cf:=prog.cf (n+1)) (τ:=.tpl ss ks) (es:=Es.cons (E.glb qM (V.int 18)) (Es.cons (E.idx (E.loc 1) (E.lit (V.int 1))) (Es.cons (E.bf BF.tuple (E.comp Lk.frozen (E.call 61 (Es.cons (E.loc 0) (Es.cons (E.loc 5) Es.nil))) 5 (E.idx (E.loc 1) (E.lit (V.int 2))))) Es.nil))) rfl
   (ae (v:=.int 18) rfl (ae (v:=.tup (ss.map .str)) (s1:=mk g []) rfl (ae (ch (dd (v:=.lst ks.vs) (l:=ks.vs) (s1:=mk g []) rfl rfl H) rfl) rfl))) (cg rfl) A
  have o:=B.add z (Nat.le_succ _)
  have C:=I.trans (.add g1 Y)
  have w:Is (ac g1 Y) (.tpl ss ks) p:=⟨K,D.ex (.add g1 Y),q⟩
  have h:=bV (m:=n+1) (τ:=.tpl ss ks) (p:=p) (g':=ac g1 Y) (g:=g)
   (ag (v:=.bool false) (s1:=mk g []) rfl rfl (aa (ag (v:=.bool false) (s1:=mk g []) rfl rfl (aa (ag (v:=.bool true) (s1:=mk g []) rfl rfl (aa (ak u) rfl)) rfl)) rfl)) (dF (Nat.le_trans o.ofl (by omega)))
  refine⟨p,_,h,w.ex (.note _ _ _),C.trans (.note _ _ _),?_,cL⟩
  have:=o.note hk.kn w ‹_›
  rw [k];exact this
 |.meet ks,n+2,b,g,hg,hk,f,hn,hb=>by
  have k:(Tm.meet ks).n=ks.n+1:=rfl
  have N:(Tm.meet ks).d=ks.d+1:=rfl
  obtain⟨K,g1,H,D,I,B⟩:=l7 ks (F:=λv s=>ev (prog.cf (n+1)) (E.call 61 (Es.cons (E.loc 0) (Es.cons (E.loc 6) Es.nil))) (lset (ρp (.meet ks) .undef) 6 v) s) (n:=n+1) (λτ s=>nq rfl rfl) ks.vs hg hk.2 f (by omega) (by omega)
  obtain⟨p,Y,A,q,z⟩:=cK (j:=n) (T:=[]) (r:=[.int 7,.tup (K.map .int)]) B.t (by omega) jU
  have u:=dT (cf:=prog.cf (n+1)) (τ:=.meet ks) (es:=Es.cons (E.glb qO (V.int 7)) (Es.cons (E.bf BF.tuple (E.comp Lk.frozen (E.call 61 (Es.cons (E.loc 0) (Es.cons (E.loc 6) Es.nil))) 6 (E.idx (E.loc 1) (E.lit (V.int 1))))) Es.nil)) rfl
   (ae (v:=.int 7) rfl (ae (ch (dd (v:=.lst ks.vs) (l:=ks.vs) (s1:=mk g []) rfl rfl H) rfl) rfl)) (cg rfl) A
  have o:=B.add z (Nat.le_succ _)
  have C:=I.trans (.add g1 Y)
  have w:Is (ac g1 Y) (.meet ks) p:=⟨K,D.ex (.add g1 Y),q⟩
  have h:=bV (m:=n+1) (τ:=.meet ks) (p:=p) (g':=ac g1 Y) (g:=g)
   (ag (v:=.bool false) (s1:=mk g []) rfl rfl (aa (ag (v:=.bool false) (s1:=mk g []) rfl rfl (aa (ag (v:=.bool false) (s1:=mk g []) rfl rfl (aa (ag (v:=.bool true) (s1:=mk g []) rfl rfl (aa (ak u) rfl)) rfl)) rfl)) rfl)) (dF (Nat.le_trans o.ofl (by omega)))
  refine⟨p,_,h,w.ex (.note _ _ _),C.trans (.note _ _ _),?_,cL⟩
  have:=o.note hk.kn w ‹_›
  rw [k];exact this
 |.keyof a,n+2,b,g,hg,hk,f,hn,hb=>by
  have k:(Tm.keyof a).n=a.n+1:=rfl
  have N:(Tm.keyof a).d=a.d+1:=rfl
  obtain⟨x,g1,H,D,I,B,_⟩:=fC a (n:=n+1) hg hk.2 f (by omega) (by omega)
  obtain⟨p,Y,A,q,z⟩:=cK (j:=n) (T:=[]) (r:=[.int 14,.int x]) B.t (by omega) rfl
  have M:ev (prog.cf (n+1)) (E.call 61 (Es.cons (E.loc 0) (Es.cons (E.idx (E.loc 1) (E.lit (V.int 1))) Es.nil))) (ρp (.keyof a) .undef) (mk g [])=some (.int x,mk g1 []):=ai (l:=[.ref 16,a.v]) (s1:=mk g []) rfl H
  have u:=dT (cf:=prog.cf (n+1)) (τ:=.keyof a) (es:=Es.cons (E.glb ⟨#[89,95,75,69,89,79,70]⟩ (V.int 14)) (Es.cons (E.call 61 (Es.cons (E.loc 0) (Es.cons (E.idx (E.loc 1) (E.lit (V.int 1))) Es.nil))) Es.nil)) rfl
   (ae (v:=.int 14) rfl (ae M rfl)) (cg rfl) A
  have o:=B.add z (Nat.le_succ _)
  have C:=I.trans (.add g1 Y)
  have w:Is (ac g1 Y) (.keyof a) p:=⟨x,D.ex (.add g1 Y),q⟩
  have h:=bV (m:=n+1) (τ:=.keyof a) (p:=p) (g':=ac g1 Y) (g:=g)
   (ag (v:=.bool false) (s1:=mk g []) rfl rfl (aa (ag (v:=.bool false) (s1:=mk g []) rfl rfl (aa (ag (v:=.bool false) (s1:=mk g []) rfl rfl (aa (ag (v:=.bool false) (s1:=mk g []) rfl rfl (aa (ag (v:=.bool true) (s1:=mk g []) rfl rfl (aa (ak u) rfl)) rfl)) rfl)) rfl)) rfl)) (dF (Nat.le_trans o.ofl (by omega)))
  refine⟨p,_,h,w.ex (.note _ _ _),C.trans (.note _ _ _),?_,cL⟩
  have:=o.note hk.kn w ‹_›
  rw [k];exact this
 |.at_ a c,n+2,b,g,hg,hk,f,hn,hb=>by
  have k:(Tm.at_ a c).n=a.n+c.n+1:=rfl
  have N:(Tm.at_ a c).d=max a.d c.d+1:=rfl
  have f:(a.ok&&c.ok)=true:=f
  rw [Bool.and_eq_true] at f
  refine cp λ_ L=>?_
  obtain⟨x,g1,H,D,I,B,_⟩:=fC a (n:=n+1) hg hk.2.1 f.1 (by omega) (by omega)
  refine L ?_
  refine cp λ_ L=>?_
  obtain⟨y,J,W,X,R,Q,_⟩:=fC c (n:=n+1) B hk.2.2 f.2 (by omega) (by omega)
  refine L ?_
  refine cp λ_ L=>?_
  obtain⟨p,Y,A,q,z⟩:=cK (j:=n) (T:=[]) (r:=[.int 15,.int x,.int y]) Q.t (by omega) rfl
  refine L ?_
  have M:ev (prog.cf (n+1)) (E.call 61 (Es.cons (E.loc 0) (Es.cons (E.idx (E.loc 1) (E.lit (V.int 1))) Es.nil))) (ρp (.at_ a c) .undef) (mk g [])=some (.int x,mk g1 []):=ai (l:=[.ref 16,a.v]) (s1:=mk g []) rfl H
  have U:ev (prog.cf (n+1)) (E.call 61 (Es.cons (E.loc 0) (Es.cons (E.idx (E.loc 1) (E.lit (V.int 2))) Es.nil))) (ρp (.at_ a c) .undef) (mk g1 [])=some (.int y,mk J []):=ai (l:=[.ref 16,c.v]) (s1:=mk g1 []) rfl W
  have u:=dT (cf:=prog.cf (n+1)) (τ:=.at_ a c) (es:=Es.cons (E.glb ⟨#[89,95,73,78,68,69,88]⟩ (V.int 15)) (Es.cons (E.call 61 (Es.cons (E.loc 0) (Es.cons (E.idx (E.loc 1) (E.lit (V.int 1))) Es.nil))) (Es.cons (E.call 61 (Es.cons (E.loc 0) (Es.cons (E.idx (E.loc 1) (E.lit (V.int 2))) Es.nil))) Es.nil))) rfl
   (ae (v:=.int 15) rfl (ae M (ae U rfl))) (cg rfl) A
  have o:=Q.add z (Nat.le_succ _)
  have C:=(I.trans R).trans (.add J Y)
  have w:Is (ac J Y) (.at_ a c) p:=⟨x,y,D.ex (R.trans (.add J Y)),X.ex (.add J Y),q⟩
  have h:=bV (m:=n+1) (τ:=.at_ a c) (p:=p) (g':=ac J Y) (g:=g)
   (ag (v:=.bool false) (s1:=mk g []) rfl rfl (aa (ag (v:=.bool false) (s1:=mk g []) rfl rfl (aa (ag (v:=.bool false) (s1:=mk g []) rfl rfl (aa (ag (v:=.bool false) (s1:=mk g []) rfl rfl (aa (ag (v:=.bool false) (s1:=mk g []) rfl rfl (aa (ag (v:=.bool true) (s1:=mk g []) rfl rfl (aa (ak u) rfl)) rfl)) rfl)) rfl)) rfl)) rfl)) (dF (Nat.le_trans o.ofl (by omega)))
  refine⟨p,_,h,w.ex (.note _ _ _),C.trans (.note _ _ _),?_,cL⟩
  have:=o.note hk.kn w (by omega)
  rw [k]
  have e:b+2*a.n+2*c.n+1+1=b+2*(a.n+c.n+1):=by lia
  rw [<-e];exact this
 |.ask a,n+2,b,g,hg,hk,f,hn,hb=>by
  have k:(Tm.ask a).n=a.n+1:=rfl
  have N:(Tm.ask a).d=a.d+1:=rfl
  obtain⟨x,g1,H,D,I,B,_⟩:=fC a (n:=n+1) hg hk.2 f (by omega) (by omega)
  obtain⟨p,Y,A,q,z⟩:=cK (j:=n) (T:=[]) (r:=[.int 16,.int x,.int 6,.int 7,.int 16,.tup [],.int 0]) B.t (by omega) rfl
  have M:ev (prog.cf (n+1)) (E.call 61 (Es.cons (E.loc 0) (Es.cons (E.idx (E.loc 1) (E.lit (V.int 1))) Es.nil))) (ρp (.ask a) .undef) (mk g [])=some (.int x,mk g1 []):=ai (l:=[.ref 16,a.v]) (s1:=mk g []) rfl H
  have u:=dT (cf:=prog.cf (n+1)) (τ:=.ask a) (es:=Es.cons (E.glb ⟨#[89,95,67,79,78,68]⟩ (V.int 16)) (Es.cons (E.call 61 (Es.cons (E.loc 0) (Es.cons (E.idx (E.loc 1) (E.lit (V.int 1))) Es.nil))) (Es.cons (E.glb qn (V.int 6)) (Es.cons (E.glb qm (V.int 7)) (Es.cons (E.idx (E.loc 0) (E.lit (V.str qR))) (Es.cons (E.tup Es.nil) (Es.cons (E.lit (V.int 0)) Es.nil))))))) rfl
   (ae (v:=.int 16) rfl (ae M rfl)) (cg rfl) A
  have o:=B.add z (Nat.le_succ _)
  have C:=I.trans (.add g1 Y)
  have w:Is (ac g1 Y) (.ask a) p:=⟨x,D.ex (.add g1 Y),q⟩
  have h:=bV (m:=n+1) (τ:=.ask a) (p:=p) (g':=ac g1 Y) (g:=g)
   (ag (v:=.bool false) (s1:=mk g []) rfl rfl (aa (ag (v:=.bool false) (s1:=mk g []) rfl rfl (aa (ag (v:=.bool false) (s1:=mk g []) rfl rfl (aa (ag (v:=.bool false) (s1:=mk g []) rfl rfl (aa (ag (v:=.bool false) (s1:=mk g []) rfl rfl (aa (ag (v:=.bool false) (s1:=mk g []) rfl rfl (aa (ag (v:=.bool true) (s1:=mk g []) rfl rfl (aa (ak u) rfl)) rfl)) rfl)) rfl)) rfl)) rfl)) rfl)) (dF (Nat.le_trans o.ofl (by omega)))
  refine⟨p,_,h,w.ex (.note _ _ _),C.trans (.note _ _ _),?_,cL⟩
  have:=o.note hk.kn w ‹_›
  rw [k];exact this
 |.alias,n+2,b,g,hg,hk,f,hn,hb=>by
  have k:Tm.alias.n=1:=rfl
  obtain⟨p,Y,A,q,z⟩:=cK (j:=n) (T:=[]) (r:=[.int 19,.int 1,.tup []]) hg.t (by omega) rfl
  have u:=dT (cf:=prog.cf (n+1)) (τ:=.alias) (g:=g) (g1:=g) (l:=[.int 19,.int 1,.tup []]) (es:=Es.cons (E.glb ⟨#[89,95,65,76,73,65,83]⟩ (V.int 19)) (Es.cons (E.lit (V.int 1)) (Es.cons (E.tup Es.nil) Es.nil))) rfl rfl (cg rfl) A
  have o:=hg.add z (Nat.le_succ _)
  have h:=bV (m:=n+1) (τ:=.alias) (p:=p) (g':=ac g Y) (g:=g)
   (ag (v:=.bool false) (s1:=mk g []) rfl rfl (aa (ag (v:=.bool false) (s1:=mk g []) rfl rfl (aa (ag (v:=.bool false) (s1:=mk g []) rfl rfl (aa (ag (v:=.bool false) (s1:=mk g []) rfl rfl (aa (ag (v:=.bool false) (s1:=mk g []) rfl rfl (aa (ag (v:=.bool false) (s1:=mk g []) rfl rfl (aa (ag (v:=.bool false) (s1:=mk g []) rfl rfl (aa (ag (v:=.bool false) (s1:=mk g []) rfl rfl (aa (ak u) rfl)) rfl)) rfl)) rfl)) rfl)) rfl)) rfl)) rfl)) (dF (Nat.le_trans o.ofl (nle ‹_›)))
  refine⟨p,_,h,Is.ex (.note _ _ _) (τ:=.alias) q,(Ex.add g Y).trans (.note _ _ _),?_,cL⟩
  have:=o.note hk.kn q ‹_›
  rw [k];exact this
 |.map,n+2,b,g,hg,hk,f,hn,hb=>by
  have k:Tm.map.n=1:=rfl
  obtain⟨p,Y,A,q,z⟩:=cK (j:=n) (T:=[]) (r:=[.int 17,.int 4,.int 16,.int (-1),.int 7,.int 0,.int 0]) hg.t (by omega) rfl
  have u:=dT (cf:=prog.cf (n+1)) (τ:=.map) (g:=g) (g1:=g) (l:=[.int 17,.int 4,.int 16,.int (-1),.int 7,.int 0,.int 0]) (es:=Es.cons (E.glb qH (V.int 17)) (Es.cons (E.lit (V.int 4)) (Es.cons (E.idx (E.loc 0) (E.lit (V.str qR))) (Es.cons (E.neg (E.lit (V.int 1))) (Es.cons (E.glb qm (V.int 7)) (Es.cons (E.lit (V.int 0)) (Es.cons (E.lit (V.int 0)) Es.nil))))))) rfl rfl (cg rfl) A
  have o:=hg.add z (Nat.le_succ _)
  have h:=bV (m:=n+1) (τ:=.map) (p:=p) (g':=ac g Y) (g:=g)
   (ag (v:=.bool false) (s1:=mk g []) rfl rfl (aa (ag (v:=.bool false) (s1:=mk g []) rfl rfl (aa (ag (v:=.bool false) (s1:=mk g []) rfl rfl (aa (ag (v:=.bool false) (s1:=mk g []) rfl rfl (aa (ag (v:=.bool false) (s1:=mk g []) rfl rfl (aa (ag (v:=.bool false) (s1:=mk g []) rfl rfl (aa (ag (v:=.bool false) (s1:=mk g []) rfl rfl (aa (ag (v:=.bool true) (s1:=mk g []) rfl rfl (aa (ak u) rfl)) rfl)) rfl)) rfl)) rfl)) rfl)) rfl)) rfl)) (dF (Nat.le_trans o.ofl (nle ‹_›)))
  refine⟨p,_,h,Is.ex (.note _ _ _) (τ:=.map) q,(Ex.add g Y).trans (.note _ _ _),?_,cL⟩
  have:=o.note hk.kn q ‹_›
  rw [k];exact this
 |_,0,_,_,_,_,_,hn,_=>by omega
 |_,1,_,_,_,_,_,hn,_=>by omega
theorem l7:∀ (ks:Tms) {F:V->S->Option (V×S)} {n b:Nat} {g:G},(∀τ s,F (Tm.v τ) s=(prog.cf n).call 61 [.ref 16,τ.v] s)->∀ (all:List V),Gd Kn b g->Kws Kn ks->ks.ok=true->ks.d+2<=n->b+2*ks.n<=10000->
  ∃ts g',evC F (.lst all) all ks.vs (mk g [])=some (List.map V.int ts,mk g' [])/\Iss g' ks ts/\Ex g g'/\Gd Kn (b+2*ks.n) g'
 |.nil,F,n,b,g,hF,all,hg,hk,c,hn,hb=>⟨[],g,rfl,trivial,.refl g,hg⟩
 |.cons a r,F,n,b,g,hF,all,hg,hk,c,hn,hb=>by
  have h:(Tms.cons a r).n=a.n+r.n:=rfl
  have u:(Tms.cons a r).d=max a.d r.d:=rfl
  have c:(a.ok&&r.ok)=true:=c
  rw [Bool.and_eq_true] at c
  refine cp λ_ f=>?_
  obtain⟨x,w,q,j,o,k,_⟩:=fC a (n:=n) hg hk.1 c.1 (by omega) (by omega)
  refine f ?_
  refine cp λ_ f=>?_
  obtain⟨ts,t,l,p,i,m⟩:=l7 r hF all k hk.2 c.2 (by omega) (by omega)
  refine f ?_
  refine⟨x::ts,t,?_,⟨j.ex i,p⟩,o.trans i,?_⟩
  ·exact bJ ((hF _ _).trans q) rfl l
  ·rw [h]
   have e:b+2*a.n+2*r.n=b+2*(a.n+r.n):=by lia
   rw [<-e];exact m
end
end
section
variable {j b:Nat}{g:G}{p k:Int}{q:List V}
theorem aB.nonneg{r:List V}(h:aB g p r):0<=p:=by obtain⟨n,rfl,_⟩:=h;exact Int.natCast_nonneg n
theorem gT{ss:List V}{a:Int}{r:List V}{o:Bool}(h:aB g p [.int 18,.tup ss,.tup [.int a]])(hr:aB g a r)(hk:∀seen ws,(prog.cf (j+5)).call 21 [.ref 1,.tup r] (rs g seen ws)=some (.lst [],rs g seen ws))(hpa:p≠a)
  (ho:(o=true/\Pm g a)\/(o=false/\Np g a)):(prog.cf (j+8)).call 24 [.ref 1,.int p] (mk g [])=some (.bool o,mk g []):=by
 have d:ez (prog.cf (j+5)) 100 (rρ p .undef) (rs g [] [p])=some (.next,rρ p (.int a),rs g [p,a] []):=
  (aP (ws:=[]) (by simp) h.nonneg h (by show 0<lim;decide) (by show 1<=lim;decide) (λ_ _=>rfl)).trans
  ((aP (ks:=[]) (by simpa using λe=>hpa e.symm) hr.nonneg hr (by show 1<lim;decide) (by show 0<=lim;decide) hk).trans rfl)
 have c:Np g p:=i25 18 _ h (by decide) (by decide) (by decide) (by decide)
 refine cm h.nonneg (dS d (by show 2<64;decide)) (by show 2<64;decide) (λx hx=>?_) ?_
 ·rcases List.mem_cons.mp hx with rfl|hx
  ·exact .inr c
  ·rw [List.mem_singleton.mp hx]
   refine(ho).elim (λh=>?_) (λh=>?_)
   ·exact .inl h.2
   ·exact .inr h.2
 ·rcases ho with h|h
  ·exact .inl ⟨h.1,a,by simp,h.2⟩
  ·refine .inr ⟨h.1,λx hx=>?_⟩
   refine(List.mem_cons.mp hx).elim (λb=>?_) (λhx=>?_)
   ·subst b
    exact c
   ·simp only [List.mem_singleton.mp hx];exact h.2
end
def KF(τ:Tm):Prop:=∃o c:Bool,∀ (b:Nat) (g:G) (p:Int),Tg b g->Is g τ p->∀j,
 (prog.cf (j+14)).call 37 [.ref 48,.int p] (mk g [])=some (.bool o,mk g [])/\(prog.cf (j+14)).call 64 [τ.v] (mk g [])=some (.bool o,mk g [])/\
 (prog.cf (j+14)).call 38 [.ref 48,.int p] (mk g [])=some (.bool (!c),mk g [])/\(prog.cf (j+14)).call 66 [τ.v] (mk g [])=some (.bool c,mk g [])
theorem lD{τ:Tm}{p0:Int}{o c:Bool}(hp:∀ {g p},Is g τ p->p=p0)(h:∀g j,((prog.cf (j+14)).call 37 [.ref 48,.int p0] (mk g []),(prog.cf (j+14)).call 64 [τ.v] (mk g []),(prog.cf (j+14)).call 38 [.ref 48,.int p0] (mk g []),(prog.cf (j+14)).call 66 [τ.v] (mk g []))=
  (some (.bool o,mk g []),some (.bool o,mk g []),some (.bool (!c),mk g []),some (.bool c,mk g []))):KF τ:=by
 refine i21 o c (λb g p t a j=>?_)
 obtain rfl:=hp a
 have:=h g j
 simp only [Prod.mk.injEq] at this
 exact this
theorem bM{n:Nat}(h:n<10):KF (.param n):=by
 refine zE (P:=λn=>KF (.param n)) ?_ ?_ ?_ ?_ ?_ ?_ ?_ ?_ ?_ ?_ n h<;>exact lD (o:=true) (c:=true) (by intro g p h;exact h.1) λg j=>by kernel_rfl
noncomputable abbrev bS:Str:=qp
noncomputable abbrev aQ:Str:=qg
noncomputable abbrev je:Str:=qw
noncomputable abbrev v8:Str:=⟨#[111,116,104,101,114]⟩
noncomputable abbrev my:Str:=qP
theorem ka{t:Int}(h:t∈[6,7,16,37,38,39]):KF (.leaf t bS):=by
 simp only [List.mem_cons,List.not_mem_nil,or_false] at h
 rcases h with rfl|rfl|rfl|rfl|rfl|rfl<;>exact lD (o:=false) (c:=true) (by intro g p h;exact h) λg j=>by kernel_rfl
theorem vZ{t:Int}(h:t∈[0,13]):KF (.leaf t my):=by
 simp only [List.mem_cons,List.not_mem_nil,or_false] at h
 rcases h with rfl|rfl<;>exact lD (o:=false) (c:=true) (by intro g p h;exact h) λg j=>by kernel_rfl
theorem hU{t:Int}(h:t∈[19,36,35,40,41,10]):KF (.leaf t aQ):=by
 simp only [List.mem_cons,List.not_mem_nil,or_false] at h
 rcases h with rfl|rfl|rfl|rfl|rfl|rfl<;>exact lD (o:=false) (c:=false) (by intro g p h;exact h) λg j=>by kernel_rfl
theorem sw{t:Int}(h:t∈[4,5,3,9]):KF (.leaf t je):=by
 simp only [List.mem_cons,List.not_mem_nil,or_false] at h
 rcases h with rfl|rfl|rfl|rfl<;>exact lD (o:=false) (c:=false) (by intro g p h;exact h) λg j=>by kernel_rfl
theorem vY:KF (.leaf 1 v8):=lD (o:=false) (c:=false) (by intro g p h;exact h) λg j=>by kernel_rfl
theorem aM{cf:Cf}{e:E}{ρ:List V}{s s1:S}{v:V}{conj:Bool}(h:ev cf e ρ s=some (v,s1)):evB cf (.cons e .nil) ρ conj s=some (v,s1):=aw h rfl
theorem aS{cf:Cf}{e f:E}{es:Es}{ρ:List V}{s s1:S}{v:V}{conj:Bool}{o}(h:ev cf e ρ s=some (v,s1))(ht:truth s1 v=some conj)(h2:evB cf (.cons f es) ρ conj s1=o):evB cf (.cons e (.cons f es)) ρ conj s=o:=
 ir h ht (by rw [beq_self_eq_true,if_pos rfl];exact h2)
theorem bu{cf:Cf}{e f:E}{es:Es}{ρ:List V}{s s1:S}{v:V}{conj:Bool}(h:ev cf e ρ s=some (v,s1))(ht:truth s1 v=some (!conj)):evB cf (.cons e (.cons f es)) ρ conj s=some (v,s1):=
 ir h ht (by cases conj<;>rfl)
noncomputable def opens(k:Int):Bool:=k==10||(k==15||(k==16||(k==14||k==19)))
theorem icomm(a c:Int):((a==c):Bool)=(c==a):=by
 rw [Bool.eq_iff_iff,beq_iff_eq,beq_iff_eq];exact eq_comm
section
variable {j b:Nat}{g:G}{p k:Int}{q:List V}
theorem fS{cf:Cf}{ρ:List V}{y:Nat}{r:List V}(ho:cf.own 0 0=true)(hc:cf.own 14 26=true)(h1:lget ρ 0=.ref 48)(h2:lget ρ y=.int p)(h:aB g p r):
  ev cf (.idx (.attr (.attr (.loc 0) 26) 0) (.loc y)) ρ (mk g [])=some (.tup r,mk g []):=jT ho hc rfl rfl h1 h2 h
theorem gE(h:aB g p (.int k::q))(h3:k≠3)(h4:k≠4)(h5:k≠5):(prog.cf (j+1)).call 32 [.ref 48,.int p] (mk g [])=some (.none,mk g []):=
 ah rfl rfl (aa (ak (fS rfl rfl rfl rfl h)) (aa (ag (aS
   (aq rfl rfl (by rw [bj,aZ h3])) rfl (aM (aq rfl rfl (by rw [bj,aZ h4])))) rfl rfl)
  (af (ay (cx (aq rfl rfl (by rw [bj,aZ h5])) rfl rfl))))) rfl
theorem fH{o:Bool}{f:Int}(h0:p≠0)(h13:p≠13)(hw:(prog.cf j).call 32 [.ref 48,.int p] (mk g [])=some (.none,mk g []))(ho:(prog.cf j).call 37 [.ref 48,.int p] (mk g [])=some (.bool o,mk g []))
  (hf:(prog.cf j).call 15 [.ref 1,.int p] (mk g [])=some (.int f,mk g [])):(prog.cf (j+1)).call 38 [.ref 48,.int p] (mk g [])=some (.bool (!(o||(f==1||f==2))),mk g []):=by
 have c:ev (prog.cf j) (.cmp .isin (.loc 1) (.tup (.cons (.glb qQ (.int 0)) (.cons (.glb qC (.int 13)) .nil)))) [.ref 48,.int p] (mk g [])=some (.bool false,mk g []):=by
  refine aq rfl rfl ?_
  show some (((0:Int)==p)||(((13:Int)==p)||false))=_
  simp only [aZ (Ne.symm h0),aZ (Ne.symm h13)];rfl
 have b:ev (prog.cf j) (.cmp .isnot (.call 32 (.cons (.loc 0) (.cons (.loc 1) .nil))) (.lit .none)) [.ref 48,.int p] (mk g [])=some (.bool false,mk g []):=
  aq (ai (l:=[.ref 48,.int p]) rfl hw) rfl rfl
 have a:ev (prog.cf j) (.call 37 (.cons (.loc 0) (.cons (.loc 1) .nil))) [.ref 48,.int p] (mk g [])=some (.bool o,mk g []):=ai (l:=[.ref 48,.int p]) rfl ho
 have d:=ai (args:=.cons (.attr (.loc 0) 26) (.cons (.loc 1) .nil)) (ρ:=[.ref 48,.int p]) (s:=mk g []) rfl hf
 cases o with
 |true=>
  refine ah rfl rfl (af (ag (v:=.bool true) (aS c rfl (aS b rfl ?_)) rfl (af (ay rfl)))) rfl
  exact aM a
 |false=>
  refine ah rfl rfl (aa (ag (aS c rfl (aS b rfl (aM a))) rfl rfl) (af (ay (aq d rfl ?_)))) rfl
  show(some (((1:Int)==f)||(((2:Int)==f)||false))).map (!·)=_
  simp only [Bool.or_false,icomm 1 f,icomm 2 f];rfl
theorem og(h:aB g p (.int k::q))(h18:k≠18)(h7:k≠7):(prog.cf (j+1)).call 37 [.ref 48,.int p] (mk g [])=some (.bool (opens k),mk g []):=by
 refine ah rfl rfl (aa (ak (fS rfl rfl rfl rfl h)) (aa (ag (v:=.bool false) (aq rfl rfl (by simp only [bj,aZ h18])) rfl rfl)
  (aa (ag (v:=.bool false) (aq rfl rfl (by simp only [bj,aZ h7])) rfl rfl) (af (ay ?_))))) rfl
 have a:ev (prog.cf j) (.cmp .isin (.idx (.loc 2) (.lit (.int 0))) (.glb ⟨#[79,80,69,78,95,82,79,87,83]⟩ (.tup [.int 10,.int 15,.int 16,.int 14]))) [.ref 48,.int p,.tup (.int k::q),.undef] (mk g [])=some (.bool (k==10||(k==15||(k==16||k==14))),mk g []):=by
  refine aq rfl rfl ?_
  show some (((10:Int)==k)||(((15:Int)==k)||(((16:Int)==k)||(((14:Int)==k)||false))))=_
  simp only [icomm 10 k,icomm 15 k,icomm 16 k,icomm 14 k,Bool.or_false]
 show evB (prog.cf j) (.cons _ (.cons _ .nil)) [.ref 48,.int p,.tup (.int k::q),.undef] false (mk g [])=_
 cases hb:(k==10||(k==15||(k==16||k==14))) with
 |true=>
  rw [hb] at a
  rw [bu a rfl]
  have:opens k=true:=by
   unfold opens
   simp only [Bool.or_eq_true] at hb ⊢
   rcases hb with h|h|h|h
   ·exact .inl h
   ·exact .inr (.inl h)
   ·exact .inr (.inr (.inl h))
   ·exact .inr (.inr (.inr (.inl h)))
  exact(this)▸rfl
 |false=>
  rw [hb] at a
  refine aS a rfl (aM (aq rfl rfl ?_))
  simp only [Bool.or_eq_false_iff] at hb
  unfold opens
  simp only [hb.1,hb.2.1,hb.2.2.1,hb.2.2.2];rfl
theorem j9{τ:Tm}{k:Int}(hk:k∈[14,15,16,17,19])(hs:∀g p,Is g τ p->∃q,aB g p (.int k::q))
  (hl:∀g j,((prog.cf (j+14)).call 64 [τ.v] (mk g []),(prog.cf (j+14)).call 66 [τ.v] (mk g []))=(some (.bool (opens k),mk g []),some (.bool (opens k),mk g []))):KF τ:=by
 refine i21 (opens k) (opens k) (λb g p t e=>?_)
 refine x11 (hs g p e) λq h=>?_
 have a:=(by decide:∀k∈[(14:Int),15,16,17,19],k≠18/\k≠7/\k≠1/\k≠3/\k≠4/\k≠5/\k∈[(10:Int),14,15,16,17,19]) k hk
 have d:p≠0:=h.ne rfl (aF a.2.2.1)
 have c:p≠13:=h.ne rfl (aF a.2.2.1)
 refine λj=>i04 (og h a.1 a.2.1) ?_ ?_ ?_
 ·exact(Prod.mk.inj (hl g j)).1
 ·have:=fH (j:=j+13) d c (gE h a.2.2.2.1 a.2.2.2.2.1 a.2.2.2.2.2.1) (og h a.1 a.2.1) (mG h a.2.2.2.2.2.2)
  simp only [this,show((0:Int)==1||(0:Int)==2)=false from rfl,Bool.or_false]
 ·exact(Prod.mk.inj (hl g j)).2
theorem fJ{a:Tm}:KF (.keyof a):=j9 (by decide) (λg p b=>x12 b λx _ h=>⟨_,h⟩) λg j=>by cases a<;>rfl
theorem BH{a c:Tm}:KF (.at_ a c):=j9 (by decide) (λg p b=>x23 b λx y _ _ h=>⟨_,h⟩) λg j=>rfl
theorem zK{a:Tm}:KF (.ask a):=j9 (by decide) (λg p b=>x12 b λx _ h=>⟨_,h⟩) λg j=>rfl
theorem v5:KF .alias:=j9 (k:=19) (by decide) (λg p h=>⟨_,h⟩) λg j=>rfl
theorem zH:KF .map:=j9 (k:=17) (by decide) (λg p h=>⟨_,h⟩) λg j=>rfl
theorem iL{ss:List Str}{ks:Tms}{o:Bool}(hp:∀b g p,Tg b g->Is g (.tpl ss ks) p->∀j,(prog.cf (j+12)).call 24 [.ref 1,.int p] (mk g [])=some (.bool o,mk g []))
  (hl:∀g j,((prog.cf (j+14)).call 64 [(Tm.tpl ss ks).v] (mk g []),(prog.cf (j+14)).call 66 [(Tm.tpl ss ks).v] (mk g []))=(some (.bool o,mk g []),some (.bool true,mk g []))):KF (.tpl ss ks):=by
 refine i21 o true (λb g p t c=>?_)
 refine x12 (id c) λf _ h=>?_
 have e:p≠0:=h.ne rfl (aF (by decide))
 have a:p≠13:=h.ne rfl (aF (by decide))
 have d:∀j,(prog.cf (j+13)).call 37 [.ref 48,.int p] (mk g [])=some (.bool o,mk g []):=λj=>
  ah rfl rfl (aa (ak (fS rfl rfl rfl rfl h)) (af (ag (v:=.bool true) rfl rfl (af (ay (ai (l:=[.ref 1,.int p]) rfl (hp b g p t c j))))))) rfl
 refine λj=>i04 (d (j+1)) ((Prod.mk.inj (hl g j)).1) ?_ ((Prod.mk.inj (hl g j)).2)
 have:=fH (j:=j+13) e a (gE h (by decide) (by decide) (by decide)) (d j) (gL h)
 simp only [this,show((1:Int)==1||(1:Int)==2)=true from rfl,Bool.or_true]
theorem dn(h:aB g p (.int k::q))(h1:k≠10)(h2:k≠13)(h3:k≠16)(h4:k≠17):Np g p:=i25 k q h h1 h2 h3 h4
theorem oy{a:Tm}{n x:Int}(t:Tg b g)(hi:Is g (.keyof a) p)(ha:∀y,Is g a y->y=x)(hb:aB g n [.int 14,.int x]):p=n:=by
 refine x12 hi λy d c=>?_
 obtain rfl:=ha y d
 exact c.inj t hb
noncomputable abbrev sX:Str:=⟨#[120]⟩
noncomputable abbrev sY:Str:=⟨#[121]⟩
noncomputable abbrev sZ:Str:=⟨#[122]⟩
noncomputable abbrev sK:Str:=⟨#[107]⟩
noncomputable abbrev s_:Str:=qv
noncomputable abbrev yH:Str:=⟨#[45]⟩
theorem vX{n:Nat}{s:Str}(hn:n=0\/n=1)(hs:s=sX\/s=s_):KF (.tpl [s,s_] (.cons (.param n) .nil)):=by
 refine iL (o:=true) (λb g p t d j=>?_) λg j=>by rcases hn with rfl|rfl<;>rcases hs with rfl|rfl<;>rfl
 refine cp λ_ c=>?_
 refine x12 d λe a h=>?_
 obtain⟨x,rfl⟩:=Iss.one a
 obtain⟨⟨rfl,_⟩,_⟩:=a
 refine c ?_
 rcases hn with rfl|rfl
 ·exact gT h (aj (n:=25) rfl) (λ_ _=>rfl) (h.ne rfl (aF (by decide))) (.inl ⟨rfl,_,aj (n:=25) rfl⟩)
 ·exact gT h (aj (n:=26) rfl) (λ_ _=>rfl) (h.ne rfl (aF (by decide))) (.inl ⟨rfl,_,aj (n:=26) rfl⟩)
theorem vW{s:Str}(hs:s=sX\/s=s_):KF (.tpl [s,s_] (.cons (.leaf 7 bS) .nil)):=by
 refine iL (o:=false) (λb g p t e j=>?_) λg j=>by rcases hs with rfl|rfl<;>rfl
 refine cp λ_ d=>?_
 refine x12 e λf c h=>?_
 obtain⟨x,rfl⟩:=Iss.one c
 refine x02 c λa _=>?_
 try clear c
 subst a
 refine d ?_
 exact gT h (aj (n:=7) rfl) (λ_ _=>rfl) (h.ne rfl (aF (by decide))) (.inr ⟨rfl,dn (aj (n:=7) rfl) (by decide) (by decide) (by decide) (by decide)⟩)
theorem Bw:KF (.tpl [s_,sY] (.cons (.keyof (.param 4)) .nil)):=by
 refine iL (o:=true) (λb g p t l j=>?_) λg j=>rfl
 refine cp λ_ i=>?_
 refine x12 l λm d h=>?_
 obtain⟨x,rfl⟩:=Iss.one d
 obtain rfl:=oy t d.1 (λy h=>h.1) (aj (n:=50) rfl)
 refine i ?_
 have e:p≠50:=h.ne rfl (aF (by decide))
 have f:p≠29:=h.ne rfl (aF (by decide))
 have k:ez (prog.cf (j+9)) 100 (rρ p .undef) (rs g [] [p])=some (.next,rρ p (.int 29),rs g [p,50,29] []):=
  (aP (ws:=[]) (by simp) h.nonneg h (by decide) (by decide) (λ_ _=>rfl)).trans
  ((aP (by simpa using e.symm) (by decide) (aj (n:=50) rfl) (by show 1<lim;decide) (by decide) (λ_ _=>rfl)).trans
  ((aP (a:=29) (ks:=[]) (by simpa using f.symm) (by decide) (aj rfl) (by show 2<lim;decide) (by decide) (λ_ _=>rfl)).trans rfl))
 refine cm h.nonneg (dS k (by show 3<64;decide)) (by show 3<64;decide) (λx c=>?_) (.inl ⟨rfl,29,by simp,_,aj rfl⟩)
 simp only [List.mem_cons,List.not_mem_nil,or_false] at c
 rcases c with rfl|rfl|rfl
 ·exact .inr (dn h (by decide) (by decide) (by decide) (by decide))
 ·exact .inr (dn (aj rfl) (by decide) (by decide) (by decide) (by decide))
 ·exact .inl ⟨_,aj rfl⟩
theorem Bu:KF (.tpl [sK,s_] (.cons (.keyof (.leaf 19 aQ)) .nil)):=by
 refine iL (o:=false) (λb g p t v j=>?_) λg j=>rfl
 refine cp λ_ q=>?_
 refine x12 v λD i h=>?_
 obtain⟨x,rfl⟩:=Iss.one i
 obtain⟨⟨y,z,c⟩,_⟩:=i
 obtain rfl:y=19:=z
 refine q ?_
 have m:p≠x:=λe=>by
  have:=(e▸h).fn c
  injection this with d _;injection d with d;exact absurd d (by decide)
 have d:p≠19:=h.ne rfl (aF (by decide))
 have B:p≠9:=h.ne rfl (aF (by decide))
 have w:p≠16:=h.ne rfl (aF (by decide))
 have s:p≠7:=h.ne rfl (aF (by decide))
 have A:x≠19:=c.ne rfl (aF (by decide))
 have l:x≠9:=c.ne rfl (aF (by decide))
 have C:x≠16:=c.ne rfl (aF (by decide))
 have r:x≠7:=c.ne rfl (aF (by decide))
 have u:ez (prog.cf (j+9)) 100 (rρ p .undef) (rs g [] [p])=some (.next,rρ p (.int 7),rs g [p,x,19,9,16,7] []):=
  (aP (ws:=[]) (by simp) h.nonneg h (by decide) (by show 1<=lim;decide) (λ_ _=>rfl)).trans
  ((aP (by simpa using m.symm) c.nonneg c (by show 1<lim;decide) (by decide) (λ_ _=>rfl)).trans
  ((aP (a:=19) (ks:=[7,16,9]) (by simpa using⟨d.symm,A.symm⟩) (by decide) (aj rfl) (by show 2<lim;decide) (by decide) (λ_ _=>rfl)).trans
  ((aP (ws:=[7,16]) (a:=9) (by simpa using⟨B.symm,l.symm⟩) (by decide) (aj rfl) (by show 3<lim;decide) (by decide) (λ_ _=>rfl)).trans
  ((aP (ws:=[7]) (a:=16) (ks:=[]) (seen:=[p,x,19,9]) (by simpa using⟨w.symm,C.symm⟩) (by decide) (aj (n:=16) rfl) (by show 4<lim;decide) (by decide) (λ_ _=>rfl)).trans
  ((aP (n:=94) (ws:=[]) (a:=7) (ks:=[]) (seen:=[p,x,19,9,16]) (by simpa using⟨s.symm,r.symm⟩) (by decide) (aj (n:=7) rfl) (by show 5<lim;decide) (by decide) (λ_ _=>rfl)).trans rfl)))))
 have f:∀a∈[p,x,19,9,16,7],Np g a:=λa k=>by
  simp only [List.mem_cons,List.not_mem_nil,or_false] at k
  rcases k with rfl|rfl|rfl|rfl|rfl|rfl
  ·exact dn h (by decide) (by decide) (by decide) (by decide)
  ·exact dn c (by decide) (by decide) (by decide) (by decide)
  ·exact dn (aj (n:=19) rfl) (by decide) (by decide) (by decide) (by decide)
  ·exact dn (aj (n:=9) rfl) (by decide) (by decide) (by decide) (by decide)
  ·exact dn (aj (n:=16) rfl) (by decide) (by decide) (by decide) (by decide)
  ·exact dn (aj (n:=7) rfl) (by decide) (by decide) (by decide) (by decide)
 exact cm h.nonneg (dS u (by show 6<64;decide)) (by show 6<64;decide) (λx c=>.inr (f x c)) (.inr ⟨rfl,f⟩)
noncomputable abbrev m9:Tm:=.meet (.cons (.param 0) (.cons (.leaf 6 bS) .nil))
theorem Bt:KF (.tpl [s_,sZ] (.cons m9 .nil)):=by
 refine iL (o:=true) (λb g p t r j=>?_) λg j=>rfl
 refine cp λ_ n=>?_
 refine x12 r λy f h=>?_
 obtain⟨x,rfl⟩:=Iss.one f
 obtain⟨⟨z,k,c⟩,_⟩:=f
 obtain⟨u,v,rfl⟩:=Iss.two k
 obtain⟨⟨rfl,_⟩,rfl,_⟩:=k
 refine n ?_
 have m:p≠x:=λe=>by
  have:=(e▸h).fn c
  injection this with d _;injection d with d;exact absurd d (by decide)
 have d:p≠6:=h.ne rfl (aF (by decide))
 have w:p≠25:=h.ne rfl (aF (by decide))
 have s:x≠6:=c.ne rfl (aF (by decide))
 have l:x≠25:=c.ne rfl (aF (by decide))
 have q:ez (prog.cf (j+9)) 100 (rρ p .undef) (rs g [] [p])=some (.next,rρ p (.int 25),rs g [p,x,6,25] []):=
  (aP (ws:=[]) (by simp) h.nonneg h (by decide) (by show 1<=lim;decide) (λ_ _=>rfl)).trans
  ((aP (ks:=[25,6]) (by simpa using m.symm) c.nonneg c (by show 1<lim;decide) (by decide) (λ_ _=>rfl)).trans
  ((aP (ws:=[25]) (a:=6) (by simpa using⟨d.symm,s.symm⟩) (by decide) (aj rfl) (by show 2<lim;decide) (by decide) (λ_ _=>rfl)).trans
  ((aP (ws:=[]) (a:=25) (ks:=[]) (by simpa using⟨w.symm,l.symm⟩) (by decide) (aj rfl) (by show 3<lim;decide) (by decide) (λ_ _=>rfl)).trans rfl)))
 refine cm h.nonneg (dS q (by show 4<64;decide)) (by show 4<64;decide) (λa i=>?_) (.inl ⟨rfl,25,by simp,_,aj rfl⟩)
 simp only [List.mem_cons,List.not_mem_nil,or_false] at i
 rcases i with rfl|rfl|rfl|rfl
 ·exact .inr (dn h (by decide) (by decide) (by decide) (by decide))
 ·exact .inr (dn c (by decide) (by decide) (by decide) (by decide))
 ·exact .inr (dn (aj rfl) (by decide) (by decide) (by decide) (by decide))
 ·exact .inl ⟨_,aj rfl⟩
theorem Bv:KF (.tpl [s_,yH,s_] (.cons (.leaf 6 bS) (.cons (.tpl [s_,sZ] (.cons m9 .nil)) .nil))):=by
 refine iL (o:=true) (λb g p t A j=>?_) λg j=>rfl
 refine cp λ_ D=>?_
 refine x12 A λL q h=>?_
 obtain⟨y,z,rfl⟩:=Iss.two q
 refine x03 q λc f _=>?_
 subst c
 obtain⟨M,d,k⟩:=f
 obtain⟨x,rfl⟩:=Iss.one d
 obtain⟨⟨N,m,l⟩,_⟩:=d
 obtain⟨u,v,rfl⟩:=Iss.two m
 obtain⟨⟨rfl,_⟩,rfl,_⟩:=m
 refine D ?_
 have s:p≠x:=λe=>by
  have:=(e▸h).fn l
  injection this with i _;injection i with i;exact absurd i (by decide)
 have B:z≠x:=λe=>by
  have:=(e▸k).fn l
  injection this with i _;injection i with i;exact absurd i (by decide)
 have F:p≠z:=λe=>by
  have:=(e▸h).fn k
  cases this
 have i:p≠6:=h.ne rfl (aF (by decide))
 have H:p≠25:=h.ne rfl (aF (by decide))
 have C:x≠6:=l.ne rfl (aF (by decide))
 have I:x≠25:=l.ne rfl (aF (by decide))
 have K:z≠6:=k.ne rfl (aF (by decide))
 have J:z≠25:=k.ne rfl (aF (by decide))
 have w:ez (prog.cf (j+9)) 100 (rρ p .undef) (rs g [] [p])=some (.next,rρ p (.int 6),rs g [p,z,x,6,25] []):=
  (aP (ws:=[]) (ks:=[6,z]) (by simp) h.nonneg h (by decide) (by show 2<=lim;decide) (λ_ _=>rfl)).trans
  ((aP (seen:=[p]) (by simpa using F.symm) k.nonneg k (by show 1<lim;decide) (by show 2<=lim;decide) (λ_ _=>rfl)).trans
  ((aP (ws:=[6]) (a:=x) (ks:=[25,6]) (seen:=[p,z]) (by simpa using⟨s.symm,B.symm⟩) l.nonneg l (by show 2<lim;decide) (by decide) (λ_ _=>rfl)).trans
  ((aP (n:=96) (ws:=[6,25]) (a:=6) (ks:=[]) (seen:=[p,z,x]) (by simpa using⟨i.symm,K.symm,C.symm⟩) (by decide) (aj (n:=6) rfl) (by show 3<lim;decide) (by decide) (λ_ _=>rfl)).trans
  ((aP (n:=95) (ws:=[6]) (a:=25) (ks:=[]) (seen:=[p,z,x,6]) (by simpa using⟨H.symm,J.symm,I.symm⟩) (by decide) (aj (n:=25) rfl) (by show 4<lim;decide) (by decide) (λ_ _=>rfl)).trans
  ((tN (n:=94) (ws:=[]) (a:=6) (seen:=[p,z,x,6,25]) (by simp) (by decide)).trans rfl)))))
 refine cm h.nonneg (dS w (by show 5<64;decide)) (by show 5<64;decide) (λa r=>?_) (.inl ⟨rfl,25,by simp,_,aj (n:=25) rfl⟩)
 simp only [List.mem_cons,List.not_mem_nil,or_false] at r
 rcases r with rfl|rfl|rfl|rfl|rfl
 ·exact .inr (dn h (by decide) (by decide) (by decide) (by decide))
 ·exact .inr (dn k (by decide) (by decide) (by decide) (by decide))
 ·exact .inr (dn l (by decide) (by decide) (by decide) (by decide))
 ·exact .inr (dn (aj (n:=6) rfl) (by decide) (by decide) (by decide) (by decide))
 ·exact .inl ⟨_,aj (n:=25) rfl⟩
theorem sx{ks:Tms}{o:Bool}{f:Int}(ho:∀b g p,Tg b g->Is g (.meet ks) p->∀j,(prog.cf (j+13)).call 37 [.ref 48,.int p] (mk g [])=some (.bool o,mk g []))
  (hf:∀b g p,Tg b g->Is g (.meet ks) p->∀j,(prog.cf (j+13)).call 15 [.ref 1,.int p] (mk g [])=some (.int f,mk g []))
  (hl:∀g j,((prog.cf (j+14)).call 64 [(Tm.meet ks).v] (mk g []),(prog.cf (j+14)).call 66 [(Tm.meet ks).v] (mk g []))=(some (.bool o,mk g []),some (.bool (o||(f==1||f==2)),mk g []))):KF (.meet ks):=by
 refine i21 o (o||(f==1||f==2)) (λb g p t a=>?_)
 refine x12 (id a) λe _ h=>?_
 have d:p≠0:=h.ne (n:=0) rfl (aF (by decide))
 have c:p≠13:=h.ne (n:=13) rfl (aF (by decide))
 refine λj=>i04 (ho b g p t a (j+1)) ((Prod.mk.inj (hl g j)).1) ?_ ((Prod.mk.inj (hl g j)).2)
 exact fH (j:=j+13) d c (gE (j:=j+12) h (by decide) (by decide) (by decide)) (ho b g p t a j) (hf b g p t a j)
noncomputable abbrev mrow(a c:Int):List V:=[.int 7,.tup [.int a,.int c]]
theorem hV{ks:Tms}{o:Bool}{f:Int}(a c:Int)(hk:∀b g ts,Tg b g->Iss g ks ts->ts=[a,c])
  (h1:∀g j p,exs (prog.cf (j+12)) (cN 1 eD.body) [.ref 48,.int p,.tup (mrow a c),.undef] (mk g [])=some (.ret (.bool o),[.ref 48,.int p,.tup (mrow a c),.undef],mk g []))
  (h2:∀g j p,∃z,exs (prog.cf (j+12)) (cN 1 eQ.body) [.ref 1,.int p,.tup (mrow a c),.undef,.undef] (mk g [])=some (.ret (.int f),z,mk g []))
  (hl:∀g j,((prog.cf (j+14)).call 64 [(Tm.meet ks).v] (mk g []),(prog.cf (j+14)).call 66 [(Tm.meet ks).v] (mk g []))=(some (.bool o,mk g []),some (.bool (o||(f==1||f==2)),mk g []))):KF (.meet ks):=by
 refine sx (o:=o) (f:=f) (λb g p t e j=>?_) (λb g p t e j=>?_) hl
 ·refine x12 e λts d h=>?_
  obtain rfl:=hk b g ts t d
  exact ah (fn:=eD) rfl rfl (aa (ak (fS rfl rfl rfl rfl h)) (h1 g j p)) rfl
 ·refine x12 e λts d h=>?_
  obtain rfl:=hk b g ts t d
  obtain⟨z,i⟩:=h2 g j p
  exact ah (fn:=eQ) rfl rfl (aa (ak (bA rfl rfl rfl h)) i) rfl
theorem c8{x y:Tm}{a c:Int}(hx:∀b g t,Tg b g->Is g x t->t=a)(hy:∀b g t,Tg b g->Is g y t->t=c):∀b g ts,Tg b g->Iss g (.cons x (.cons y .nil)) ts->ts=[a,c]:=by
 intro b g ts t h
 match ts,h with
 |[u,v],h=>exact(hx b g u t h.1)▸(hy b g v t h.2.1)▸rfl
theorem aX{a:Int}{s:Str}:∀b g t,Tg b g->Is g (.leaf a s) t->t=a:=λ_ _ _ _ h=>h
theorem bH{n:Nat}:∀b g t,Tg b g->Is g (.param n) t->t=Int.ofNat (25+n):=λ_ _ _ _ h=>h.1
theorem BG:KF (.meet (.cons (.param 4) (.cons (.leaf 6 bS) .nil))):=hV (o:=true) (f:=1) 29 6 (c8 bH aX) (λg j p=>rfl) (λg j p=>⟨_,rfl⟩) λg j=>rfl
theorem BE:KF (.meet (.cons (.leaf 6 bS) (.cons (.leaf 36 aQ) .nil))):=hV (o:=false) (f:=1) 6 36 (c8 aX aX) (λg j p=>rfl) (λg j p=>⟨_,rfl⟩) λg j=>rfl
theorem BD:KF (.meet (.cons (.leaf 36 aQ) (.cons (.leaf 7 bS) .nil))):=hV (o:=false) (f:=2) 36 7 (c8 aX aX) (λg j p=>rfl) (λg j p=>⟨_,rfl⟩) λg j=>rfl
theorem BC:KF (.meet (.cons (.leaf 19 aQ) (.cons (.leaf 36 aQ) .nil))):=hV (o:=false) (f:=7) 19 36 (c8 aX aX) (λg j p=>rfl) (λg j p=>⟨_,rfl⟩) λg j=>rfl
theorem BA:KF (.meet (.cons (.leaf 9 je) (.cons (.leaf 36 aQ) .nil))):=hV (o:=false) (f:=3) 9 36 (c8 aX aX) (λg j p=>rfl) (λg j p=>⟨_,rfl⟩) λg j=>rfl
theorem Bz:KF (.meet (.cons (.leaf 19 aQ) (.cons (.keyof (.param 4)) .nil))):=
 hV (o:=true) (f:=7) 19 50 (c8 aX λb g t h a=>oy h a (λy h=>h.1) (aj (n:=50) rfl)) (λg j p=>rfl) (λg j p=>⟨_,rfl⟩) λg j=>rfl
theorem Bx:KF m9:=hV (o:=true) (f:=1) 25 6 (c8 bH aX) (λg j p=>rfl) (λg j p=>⟨_,rfl⟩) λg j=>rfl
theorem zJ:KF (.meet (.cons (.leaf 7 bS) (.cons (.leaf 36 aQ) .nil))):=hV (o:=false) (f:=2) 7 36 (c8 aX aX) (λg j p=>rfl) (λg j p=>⟨_,rfl⟩) λg j=>rfl
theorem zI:KF (.meet (.cons (.leaf 36 aQ) (.cons (.leaf 6 bS) .nil))):=hV (o:=false) (f:=1) 36 6 (c8 aX aX) (λg j p=>rfl) (λg j p=>⟨_,rfl⟩) λg j=>rfl
end
section
variable {cf:Cf}{ρ ρ':List V}{s s' s1 s2:S}
theorem bI{x:Nat}{src:E}{body:Sts}{v:V}{l:List V}{o}(h:ev cf src ρ s=some (v,s1))(hi:iter? s1 v=some l)(h2:exF (exs cf body) x v l l ρ s1=o):ex cf (.for_ x src body) ρ s=o:=by
 exact aw h (bh hi h2)
theorem aT{f:List V->S->Option (Fl×List V×S)}{x:Nat}{src:V}{all r:List V}{v:V}{o}(h:f (lset ρ x v) s=some (.next,ρ',s'))(hk:bX s' src all=true)(h2:exF f x src all r ρ' s'=o):exF f x src all (v::r) ρ s=o:=by
 exact jx h ((if_pos hk).trans h2)
theorem bZ{f:List V->S->Option (Fl×List V×S)}{x:Nat}{src:V}{all r:List V}{v u:V}(h:f (lset ρ x v) s=some (.ret u,ρ',s')):exF f x src all (v::r) ρ s=some (.ret u,ρ',s'):=by
 exact qY h
end
section
variable {j b:Nat}{g:G}{p k:Int}{q:List V}
theorem vu{o:Bool}(h:aB g p (.int 18::q))(hp:(prog.cf j).call 24 [.ref 1,.int p] (mk g [])=some (.bool o,mk g [])):(prog.cf (j+1)).call 37 [.ref 48,.int p] (mk g [])=some (.bool o,mk g []):=
 ah rfl rfl (aa (ak (fS rfl rfl rfl rfl h)) (af (ag (v:=.bool true) rfl rfl (af (ay (ai (l:=[.ref 1,.int p]) rfl hp)))))) rfl
theorem yN{ss:List Str}{ks:Tms}{o:Bool}(hp:∀b g q,Tg b g->Is g (.tpl ss ks) q->∀j,(prog.cf (j+11)).call 24 [.ref 1,.int q] (mk g [])=some (.bool o,mk g []))
  (hl:∀g j,((prog.cf (j+14)).call 64 [(Tm.meet (.cons (.leaf 36 aQ) (.cons (.tpl ss ks) .nil))).v] (mk g []),(prog.cf (j+14)).call 66 [(Tm.meet (.cons (.leaf 36 aQ) (.cons (.tpl ss ks) .nil))).v] (mk g []))=
   (some (.bool o,mk g []),some (.bool (o||((1:Int)==1||(1:Int)==2)),mk g []))):KF (.meet (.cons (.leaf 36 aQ) (.cons (.tpl ss ks) .nil))):=by
 refine sx (λb g p t e j=>?_) (λb g p t e j=>?_) hl
 ·obtain⟨i,a,h⟩:=e
  try clear hl
  obtain⟨x,y,rfl⟩:=Iss.two a
  obtain⟨rfl,c,_⟩:=a
  obtain⟨k,_,f⟩:=id c
  have d:=vu f (hp b g y t c j)
  have n:(prog.cf (j+12)).call 37 [.ref 48,.int 36] (mk g [])=some (.bool false,mk g []):=rfl
  refine ah (ρ':=[.ref 48,.int p,.tup (mrow 36 y),.undef]) rfl rfl (aa (ak (fS rfl rfl rfl rfl h)) (aa (ρ':=[.ref 48,.int p,.tup (mrow 36 y),.undef]) (s':=mk g []) rfl
   (af (ag (v:=.bool true) rfl rfl (af (ay (ch (dd rfl rfl
    (bJ (y:=.bool false) (s1:=mk g []) ?_ rfl (bJ (y:=.bool o) ?_ rfl rfl))) ?_))))))) rfl
  ·exact ai (l:=[.ref 48,.int 36]) rfl n
  ·exact ai (l:=[.ref 48,.int y]) rfl d
  ·cases o<;>rfl
 ·obtain⟨i,a,h⟩:=e
  obtain⟨x,y,rfl⟩:=Iss.two a
  obtain⟨rfl,c,_⟩:=a
  obtain⟨k,_,f⟩:=id c
  have d:=gL (j:=j+9) (T:=[]) f
  have m:(prog.cf (j+12)).call 14 [.ref 1,.tup [.int 36,.int y]] (mk g [])=some (.int 1,mk g []):=
   ah (ρ':=[.ref 1,.tup [.int 36,.int y],.int 7,.int y,.int 1]) rfl rfl (aa (ρ':=[.ref 1,.tup [.int 36,.int y],.int 0,.undef,.undef]) (s':=mk g []) rfl (af (bI rfl rfl
    (aT (ρ':=[.ref 1,.tup [.int 36,.int y],.int 7,.int 36,.int 7]) (s':=mk g []) (by rfl) rfl (bZ (aa (ak (ai (l:=[.ref 1,.int y]) rfl d)) (by rfl))))))) rfl
  exact ah rfl rfl (aa (ak (bA rfl rfl rfl h)) (aa (ρ':=[.ref 1,.int p,.tup (mrow 36 y),.int 7,.undef]) (s':=mk g []) rfl (aa (ρ':=[.ref 1,.int p,.tup (mrow 36 y),.int 7,.undef]) (s':=mk g []) rfl
   (aa (ρ':=[.ref 1,.int p,.tup (mrow 36 y),.int 7,.undef]) (s':=mk g []) rfl (aa (ρ':=[.ref 1,.int p,.tup (mrow 36 y),.int 7,.undef]) (s':=mk g []) rfl (aa (ρ':=[.ref 1,.int p,.tup (mrow 36 y),.int 7,.undef]) (s':=mk g []) rfl
   (af (ag (v:=.bool true) rfl rfl (af (ay (ai (l:=[.ref 1,.tup [.int 36,.int y]]) rfl m))))))))))) rfl
theorem BB:KF (.meet (.cons (.leaf 36 aQ) (.cons (.tpl [sX,s_] (.cons (.param 1) .nil)) .nil))):=by
 refine yN (o:=true) (λb g p t e j=>?_) λg j=>rfl
 refine x12 e λf c h=>?_
 obtain⟨x,rfl⟩:=Iss.one c
 refine cp λ_ d=>?_
 refine x02 c λa _=>?_
 try clear c
 obtain⟨rfl,_⟩:=a
 refine d ?_
 exact gT h (aj (n:=26) rfl) (λ_ _=>rfl) (h.ne rfl (aF (by decide))) (.inl ⟨rfl,_,aj (n:=26) rfl⟩)
theorem By:KF (.meet (.cons (.leaf 36 aQ) (.cons (.tpl [sX,s_] (.cons (.leaf 7 bS) .nil)) .nil))):=by
 refine yN (o:=false) (λb g p t c j=>?_) λg j=>rfl
 refine x12 c λd a h=>?_
 obtain⟨x,rfl⟩:=Iss.one a
 obtain⟨rfl,_⟩:=a
 exact gT h (aj (n:=7) rfl) (λ_ _=>rfl) (h.ne rfl (aF (by decide))) (.inr ⟨rfl,dn (aj (n:=7) rfl) (by decide) (by decide) (by decide) (by decide)⟩)
end
inductive Wk where
 |num
 |txt
 |non
noncomputable def Wk.s:Wk->Str
 |.num=>qa
 |.txt=>qd
 |.non=>qr
noncomputable def Wk.P:Wk->Int->List Int->Prop
 |.num,bd,_=>bd=7
 |.txt,bd,l=>bd≠7/\6∈l
 |.non,bd,l=>bd≠7/\6 ∉ l
structure WF(τ:Tm)(w:Wk):Prop where
 law:∀g j,(prog.cf (j+3)).call 73 [.ref 16,τ.v] (mk g [])=some (.str w.s,mk g [])
 bnd:∀b g p,Tg b g->Is g τ p->∃ (bd:Int) (l:List Int),(∀j,(prog.cf (j+3)).call 43 [.ref 43,.int p] (mk g [])=some (.int bd,mk g []))/\(∀j,(prog.cf (j+2)).call 6 [.ref 1,.int bd] (mk g [])=some (.tup (l.map .int),mk g []))/\
  w.P bd l
theorem bU{τ:Tm}{w:Wk}(p0 bd:Int)(l:List Int)(hp:∀b g p,Tg b g->Is g τ p->p=p0)(h:∀g j,((prog.cf (j+3)).call 73 [.ref 16,τ.v] (mk g []),(prog.cf (j+3)).call 43 [.ref 43,.int p0] (mk g []),(prog.cf (j+2)).call 6 [.ref 1,.int bd] (mk g []))=
  (some (.str w.s,mk g []),some (.int bd,mk g []),some (.tup (l.map .int),mk g []))) (hw:w.P bd l):WF τ w:=by
 refine⟨λg j=>(Prod.mk.inj (h g j)).1,λb g p t a=>i23 bd l (λj=>?_) (λj=>?_) hw⟩
 ·exact(hp b g p t a)▸(Prod.mk.inj (Prod.mk.inj (h g j)).2).1
 ·exact(Prod.mk.inj (Prod.mk.inj (h g j)).2).2
theorem AC:WF (.param 0) .num:=bU 25 7 [7] bH (λg j=>by kernel_rfl) rfl
theorem AB:WF (.param 1) .txt:=bU 26 6 [6] bH (λg j=>by kernel_rfl) ⟨by decide,by decide⟩
theorem AA:WF (.param 2) .txt:=bU 27 20 [6,7] bH (λg j=>by kernel_rfl) ⟨by decide,by decide⟩
theorem un:WF (.param 3) .non:=bU 28 21 [16,17] bH (λg j=>by kernel_rfl) ⟨by decide,by decide⟩
theorem Az:WF (.param 4) .non:=bU 29 1 [1] bH (λg j=>by kernel_rfl) ⟨by decide,by decide⟩
theorem Ay:WF (.param 5) .non:=bU 30 1 [1] bH (λg j=>by kernel_rfl) ⟨by decide,by decide⟩
theorem Ax:WF (.param 6) .non:=bU 31 22 [4,7] bH (λg j=>by kernel_rfl) ⟨by decide,by decide⟩
theorem Aw:WF (.param 7) .txt:=bU 32 23 [4,6] bH (λg j=>by kernel_rfl) ⟨by decide,by decide⟩
theorem Av:WF (.param 8) .non:=bU 33 24 [24] bH (λg j=>by kernel_rfl) ⟨by decide,by decide⟩
theorem Au:WF (.param 9) .non:=bU 34 19 [19] bH (λg j=>by kernel_rfl) ⟨by decide,by decide⟩
theorem AD:WF (.leaf 7 bS) .num:=bU 7 7 [7] aX (λg j=>by kernel_rfl) rfl
theorem AE:WF (.leaf 6 bS) .txt:=bU 6 6 [6] aX (λg j=>by kernel_rfl) ⟨by decide,by decide⟩
theorem bz{t:Int}{s:Str}(h:t∈[16,37,38,39,19,36,35,40,41,10,4,5,3,9,1,0,13]):WF (.leaf t s) .non:=by
 simp only [List.mem_cons,List.not_mem_nil,or_false] at h
 rcases h with rfl|rfl|rfl|rfl|rfl|rfl|rfl|rfl|rfl|rfl|rfl|rfl|rfl|rfl|rfl|rfl|rfl<;>exact bU _ _ [_] aX (λg j=>by rfl) ⟨by decide,by decide⟩
theorem eS{τ:Tm}{k:Int}(hk:k∈[18,7,14,15,16,17,19])(hs:∀g p,Is g τ p->∃q,aB g p (.int k::q))(hl:∀g j,(prog.cf (j+3)).call 73 [.ref 16,τ.v] (mk g [])=some (.str Wk.non.s,mk g [])):WF τ .non:=by
 refine⟨hl,λb g p t e=>?_⟩
 refine x11 (hs g p e) λq h=>?_
 have a:k≠10/\k≠6/\k≠1:=by
  simp only [List.mem_cons,List.not_mem_nil,or_false] at hk
  lia
 have c:p≠2:=h.ne rfl (aF a.2.2)
 have d:p≠6:=h.ne rfl (aF a.2.2)
 have f:p≠7:=h.ne rfl (aF a.2.2)
 exact i24 p [p] (λj=>ic h a.1) (λj=>fD h a.2.1 c) f (by simpa using d.symm)
theorem iB{ss:List Str}{ks:Tms}:WF (.tpl ss ks) .non:=eS (by decide) (λg p a=>x12 a λ_ _ h=>⟨_,h⟩) λg j=>by rfl
theorem d9{ks:Tms}:WF (.meet ks) .non:=eS (by decide) (λg p a=>x12 a λ_ _ h=>⟨_,h⟩) λg j=>by rfl
theorem nF{a:Tm}:WF (.keyof a) .non:=eS (by decide) (λg p b=>x12 b λ_ _ h=>⟨_,h⟩) λg j=>by rfl
theorem AF{a c:Tm}:WF (.at_ a c) .non:=eS (by decide) (λg p b=>x23 b λ_ _ _ _ h=>⟨_,h⟩) λg j=>by rfl
theorem yY{a:Tm}:WF (.ask a) .non:=eS (by decide) (λg p b=>x12 b λ_ _ h=>⟨_,h⟩) λg j=>by rfl
theorem uo:WF .alias .non:=eS (k:=19) (by decide) (λg p h=>⟨_,h⟩) λg j=>by rfl
theorem yX:WF .map .non:=eS (k:=17) (by decide) (λg p h=>⟨_,h⟩) λg j=>by rfl
noncomputable def ec:List Tm:=[.param 2,.param 0,.param 1,.param 3,.param 4,.param 5,.param 6,.param 7,.param 8,.param 9,
 .tpl [sX,s_] (.cons (.param 1) .nil),.tpl [s_,s_] (.cons (.leaf 7 bS) .nil),.tpl [s_,sY] (.cons (.keyof (.param 4)) .nil),.tpl [s_,yH,s_] (.cons (.leaf 6 bS) (.cons (.tpl [s_,sZ] (.cons m9 .nil)) .nil)),
 .tpl [sK,s_] (.cons (.keyof (.leaf 19 aQ)) .nil),.tpl [sX,s_] (.cons (.leaf 7 bS) .nil),
 .meet (.cons (.param 4) (.cons (.leaf 6 bS) .nil)),.meet (.cons (.leaf 6 bS) (.cons (.leaf 36 aQ) .nil)),.meet (.cons (.leaf 36 aQ) (.cons (.leaf 7 bS) .nil)),.meet (.cons (.leaf 19 aQ) (.cons (.leaf 36 aQ) .nil)),
 .meet (.cons (.leaf 36 aQ) (.cons (.tpl [sX,s_] (.cons (.param 1) .nil)) .nil)),.meet (.cons (.leaf 9 je) (.cons (.leaf 36 aQ) .nil)),.meet (.cons (.leaf 19 aQ) (.cons (.keyof (.param 4)) .nil)),
 .meet (.cons (.leaf 36 aQ) (.cons (.tpl [sX,s_] (.cons (.leaf 7 bS) .nil)) .nil)),.keyof (.param 4),.keyof (.leaf 19 aQ),.at_ (.param 9) (.param 3),.ask (.param 4),.alias,.map,.leaf 7 bS,.leaf 6 bS,
 .leaf 16 bS,.leaf 37 bS,.leaf 38 bS,.leaf 39 bS,.leaf 19 aQ,.leaf 36 aQ,.leaf 35 aQ,.leaf 40 aQ,.leaf 41 aQ,.leaf 10 aQ,.leaf 4 je,.leaf 5 je,.leaf 3 je,.leaf 9 je,.leaf 1 v8,.leaf 0 my,.leaf 13 my]
theorem xD(g:G):(mk g []).ob (.ref 17)=some (.list (ec.map Tm.v)):=by kernel_rfl
theorem vk:ec.length=49:=rfl
structure Lw(τ:Tm):Prop where
 kw:Kw KF τ
 ok:τ.ok=true
 d:τ.d<=4
 n:τ.n<=6
theorem ab{P:Tm->Prop}{a:Tm}{l:List Tm}(h:P a)(t:∀x∈l,P x):∀x∈a::l,P x:=List.forall_mem_cons.mpr ⟨h,t⟩
theorem dE:∀τ∈ec,Lw τ:=
 have p (n:Nat) (h:n<10):Lw (.param n):=⟨bM h,Nat.ble_eq.mpr h,Nat.zero_le _,Nat.le_of_ble_eq_true rfl⟩
 have d (t:Int) (h:t∈[6,7,16,37,38,39]):Lw (.leaf t bS):=⟨ka h,rfl,Nat.zero_le _,Nat.le_of_ble_eq_true rfl⟩
 have c (t:Int) (h:t∈[19,36,35,40,41,10]):Lw (.leaf t aQ):=⟨hU h,rfl,Nat.zero_le _,Nat.le_of_ble_eq_true rfl⟩
 have e (t:Int) (h:t∈[4,5,3,9]):Lw (.leaf t je):=⟨sw h,rfl,Nat.zero_le _,Nat.le_of_ble_eq_true rfl⟩
 have i (t:Int) (h:t∈[0,13]):Lw (.leaf t my):=⟨vZ h,rfl,Nat.zero_le _,Nat.le_of_ble_eq_true rfl⟩
 have f:=ka (by decide)
 have g:=ka (by decide)
 have a:=hU (by decide)
 have b:=hU (by decide)
 ab (p 2 (by decide))<|ab (p 0 (by decide))<|ab (p 1 (by decide))<|ab (p 3 (by decide))<|ab (p 4 (by decide))<|ab (p 5 (by decide))<|ab (p 6 (by decide))<|
 ab (p 7 (by decide))<|ab (p 8 (by decide))<|ab (p 9 (by decide))<|
 ab ⟨⟨vX (.inr rfl) (.inl rfl),bM (by decide),trivial⟩,rfl,by decide,by decide⟩<|
 ab ⟨⟨vW (.inr rfl),f,trivial⟩,rfl,by decide,by decide⟩<|
 ab ⟨⟨Bw,⟨fJ,bM (by decide)⟩,trivial⟩,rfl,by decide,by decide⟩<|
 ab ⟨i04 Bv g ⟨Bt,i04 Bx (bM (by decide)) g trivial,trivial⟩ trivial,rfl,by decide,by decide⟩<|
 ab ⟨i03 Bu ⟨fJ,b⟩ trivial,rfl,by decide,by decide⟩<|
 ab ⟨⟨vW (.inl rfl),f,trivial⟩,rfl,by decide,by decide⟩<|
 ab ⟨i04 BG (bM (by decide)) g trivial,rfl,by decide,by decide⟩<|
 ab ⟨i04 BE g a trivial,rfl,by decide,by decide⟩<|
 ab ⟨⟨BD,a,f,trivial⟩,rfl,by decide,by decide⟩<|
 ab ⟨i04 BC b a trivial,rfl,by decide,by decide⟩<|
 ab ⟨i04 BB a ⟨vX (.inr rfl) (.inl rfl),bM (by decide),trivial⟩ trivial,rfl,by decide,by decide⟩<|
 ab ⟨i04 BA (sw (by decide)) a trivial,rfl,by decide,by decide⟩<|
 ab ⟨i04 Bz b ⟨fJ,bM (by decide)⟩ trivial,rfl,by decide,by decide⟩<|
 ab ⟨i04 By a ⟨vW (.inl rfl),f,trivial⟩ trivial,rfl,by decide,by decide⟩<|
 ab ⟨⟨fJ,bM (by decide)⟩,rfl,by decide,by decide⟩<|
 ab ⟨⟨fJ,b⟩,rfl,by decide,by decide⟩<|
 ab ⟨i03 BH (bM (by decide)) (bM (by decide)),rfl,by decide,by decide⟩<|
 ab ⟨⟨zK,bM (by decide)⟩,rfl,by decide,by decide⟩<|
 ab ⟨v5,rfl,by decide,by decide⟩<|
 ab ⟨zH,rfl,by decide,by decide⟩<|
 ab (d 7 (by decide))<|ab (d 6 (by decide))<|ab (d 16 (by decide))<|ab (d 37 (by decide))<|ab (d 38 (by decide))<|ab (d 39 (by decide))<|
 ab (c 19 (by decide))<|ab (c 36 (by decide))<|ab (c 35 (by decide))<|ab (c 40 (by decide))<|ab (c 41 (by decide))<|ab (c 10 (by decide))<|
 ab (e 4 (by decide))<|ab (e 5 (by decide))<|ab (e 3 (by decide))<|ab (e 9 (by decide))<|ab ⟨vY,rfl,by decide,by decide⟩<|
 ab (i 0 (by decide))<|ab (i 13 (by decide))<|(by simp)
theorem wU:∀τ∈ec,∃w,WF τ w:=
 ab ⟨_,AA⟩<|ab ⟨_,AC⟩<|ab ⟨_,AB⟩<|ab ⟨_,un⟩<|ab ⟨_,Az⟩<|ab ⟨_,Ay⟩<|ab ⟨_,Ax⟩<|ab ⟨_,Aw⟩<|ab ⟨_,Av⟩<|ab ⟨_,Au⟩<|
 ab ⟨_,iB⟩<|ab ⟨_,iB⟩<|ab ⟨_,iB⟩<|ab ⟨_,iB⟩<|ab ⟨_,iB⟩<|ab ⟨_,iB⟩<|
 ab ⟨_,d9⟩<|ab ⟨_,d9⟩<|ab ⟨_,d9⟩<|ab ⟨_,d9⟩<|ab ⟨_,d9⟩<|ab ⟨_,d9⟩<|ab ⟨_,d9⟩<|ab ⟨_,d9⟩<|
 ab ⟨_,nF⟩<|ab ⟨_,nF⟩<|ab ⟨_,AF⟩<|ab ⟨_,yY⟩<|ab ⟨_,uo⟩<|ab ⟨_,yX⟩<|ab ⟨_,AD⟩<|ab ⟨_,AE⟩<|
 ab ⟨_,bz (by decide)⟩<|ab ⟨_,bz (by decide)⟩<|ab ⟨_,bz (by decide)⟩<|ab ⟨_,bz (by decide)⟩<|ab ⟨_,bz (by decide)⟩<|ab ⟨_,bz (by decide)⟩<|
 ab ⟨_,bz (by decide)⟩<|ab ⟨_,bz (by decide)⟩<|ab ⟨_,bz (by decide)⟩<|ab ⟨_,bz (by decide)⟩<|ab ⟨_,bz (by decide)⟩<|ab ⟨_,bz (by decide)⟩<|
 ab ⟨_,bz (by decide)⟩<|ab ⟨_,bz (by decide)⟩<|ab ⟨_,bz (by decide)⟩<|ab ⟨_,bz (by decide)⟩<|ab ⟨_,bz (by decide)⟩<|(by simp)
noncomputable abbrev tsB:List Int:=[42,43,44,45,46,47,48,18,49,40,6,16,38,7,35,10]
noncomputable abbrev ksB:List Int:=[7,16,17,9]
noncomputable def prs(l:List Int):List (Int×Int):=l.flatMap λi=>l.map λj=>(i,j)
theorem l9{l:List Int}{i j:Int}(hi:i∈l)(hj:j∈l):(i,j)∈prs l:=List.mem_flatMap.mpr ⟨i,hi,List.mem_map.mpr ⟨j,hj,rfl⟩⟩
noncomputable def mn(i j:Int):Int:=if i<=j then i else j
noncomputable def mx(i j:Int):Int:=if i<=j then j else i
noncomputable def col(i j:Int):Option Int:=if i=j then some i else if(i=6/\(j=16\/j=17\/j=38))\/(j=6/\(i=16\/i=17\/i=38)) then some 6 else none
theorem xP{i j:Int}:mn i j=mn j i:=by unfold mn;split<;>split<;>omega
theorem xO{i j:Int}:mx i j=mx j i:=by unfold mx;split<;>split<;>omega
theorem pn{i j:Int}:col i j=col j i:=by
 unfold col
 by_cases h:i=j
 ·subst h;rfl
 ·have a:¬j=i:=λq=>h q.symm
  simp only [if_neg h,if_neg a]
  simp only [Or.comm]
noncomputable def AU(n:Nat)(arg:V)(j:Int)(kept:List V):List V:=[.ref 1,arg,.tmp n,.int j,.int j,.int (-1),.lst kept,.undef]
noncomputable def uG(g:G)(T:List Ob)(n:Nat)(arg:V)(i j:Int):Option (Fl×List V×S):=
 let got:List (Int×V):=if i=j then [(i,.int 1)] else [(i,.int 1),(j,.int 1)]
 match col i j with
 |some c=>some (.ret (.int c),AU n arg j [.int c],mk g (T++[.idict got]))
 |none=>some (.next,AU n arg j [.int (mn i j),.int (mx i j)],mk g (T++[.idict got]))
theorem ze(g:G)(n:Nat):((prs tsB).map λp=>exs (prog.cf (n+3)) (fj 9 bb.body) (fr0 bb [.ref 1,.lst [.int p.1,.int p.2]]) (mk g []))=(prs tsB).map λp=>uG g [] 0 (.lst [.int p.1,.int p.2]) p.1 p.2:=by kernel_rfl
theorem zd(g:G)(n:Nat):((prs ksB).map λp=>exs (prog.cf (n+3)) (fj 9 bb.body) (fr0 bb [.ref 1,.lst [.int p.1,.int p.2]]) (mk g []))=(prs ksB).map λp=>uG g [] 0 (.lst [.int p.1,.int p.2]) p.1 p.2:=by kernel_rfl
theorem zc(g:G)(n:Nat):((prs ksB).map λp=>exs (prog.cf (n+3)) (fj 9 bb.body) (fr0 bb [.ref 1,.tmp 0]) (mk g [.list [.int p.1,.int p.2]]))=(prs ksB).map λp=>uG g [.list [.int p.1,.int p.2]] 1 (.tmp 0) p.1 p.2:=by kernel_rfl
theorem dL{cf:Cf}:∀ {n:Nat} {b:Sts} {ρ ρ':List V} {s s':S} {o},exs cf (fj n b) ρ s=some (.next,ρ',s')->exs cf (cN n b) ρ' s'=o->exs cf b ρ s=o:=by
 intro a
 induction a with
 |zero=>
  exact @λb ρ ρ' s s' o h l=>by cases h;exact l
 |succ n dL=>
  exact @λc d e f g i j k=>match c,d,e,f,g,i,j,k with
  |.nil,ρ,ρ',s,s',o,h,l=>by cases h;exact l
  |.cons st r,ρ,ρ',s,s',o,h,l=>by
   have h:exs cf (.cons st (fj n r)) ρ s=some (.next,ρ',s'):=h
   simp only [exs] at h
   simp only [exs]
   cases hs:ex cf st ρ s with
   |none=>replace h:=hs▸h;exact nn h
   |some x=>
    obtain⟨m,q,p⟩:=x
    replace h:=hs▸h
    cases m with
    |next=>exact dL (b:=r) h l
    |ret v=>cases h
theorem iV{cf:Cf}:∀ {n:Nat} {b:Sts} {ρ ρ':List V} {s s':S} {v:V},exs cf (fj n b) ρ s=some (.ret v,ρ',s')->exs cf b ρ s=some (.ret v,ρ',s'):=by
 intro a
 induction a with
 |zero=>
  exact @λb ρ ρ' s s' v h=>by cases h
 |succ n iV=>
  exact @λc d e f g i j=>match c,d,e,f,g,i,j with
  |.nil,ρ,ρ',s,s',v,h=>by cases h
  |.cons st r,ρ,ρ',s,s',v,h=>by
   have h:exs cf (.cons st (fj n r)) ρ s=some (.ret v,ρ',s'):=h
   simp only [exs] at h
   simp only [exs]
   cases hs:ex cf st ρ s with
   |none=>replace h:=hs▸h;exact nn h
   |some x=>
    obtain⟨k,m,l⟩:=x
    replace h:=hs▸h
    cases k with
    |next=>exact iV (b:=r) h
    |ret v=>exact h
section
variable {b n:Nat}{g:G}{T:List Ob}{i j:Int}{arg:V}
def Un(g:G)(i j u:Int):Prop:=col i j=some u\/(col i j=none/\aB g u [.int 6,.tup [.int (mn i j),.int (mx i j)]])
theorem Un.comm{u:Int}(h:Un g i j u):Un g j i u:=by
 refine(h).elim (λh=>?_) (λa=>?_)
 ·exact .inl (pn▸h)
 ·refine x02 a λh b=>?_
  exact .inr ⟨pn▸h,by refine xP▸xO▸?_;exact b⟩
theorem Un.le{g':G}{u:Int}(x:Le g g')(h:Un g i j u):Un g' i j u:=h.imp id λb=>x02 b λa c=>⟨a,c.le x⟩
theorem Un.fn{u u':Int}(t:Tg b g)(h:Un g i j u)(h':Un g i j u'):u=u':=by
 rcases h with h|⟨h,h2⟩<;>rcases h' with k|⟨k,k2⟩
 ·rw [h] at k;exact Option.some.inj k
 ·rw [h] at k;exact ns k
 ·rw [h] at k;exact nn k
 ·exact h2.inj t k2
theorem jH(t:Tg b g)(hb:b<10000)(h:exs (prog.cf (n+3)) (fj 9 bb.body) (fr0 bb [.ref 1,arg]) (mk g T)=uG g T T.length arg i j):
  ∃u Y,(prog.cf (n+4)).call 12 [.ref 1,arg] (mk g T)=some (.int u,mk (ac g Y) T)/\Un (ac g Y) i j u/\Tg (b+1) (ac g Y):=by
 dsimp only [uG] at h
 cases hc:col i j with
 |some c=>
  rw [hc] at h
  refine i23 c [] ?_ (.inl hc) ?_
  ·exact aC▸cP (fn:=bb) rfl rfl (iV h) rfl
  ·exact aC▸⟨t.nd,Nat.le_succ_of_le t.len,hb⟩
 |none=>
  replace h:=hc▸h
  refine cp λ_ a=>?_
  refine x23 (cK (j:=n+2) (T:=T++[.idict (if i=j then [(i,.int 1)] else [(i,.int 1),(j,.int 1)])]) (r:=[.int 6,.tup [.int (mn i j),.int (mx i j)]]) t hb rfl) λp Y d e f=>?_
  refine a ?_
  refine i23 p Y (cP (fn:=bb) rfl rfl (dL h (af (ay (aN (v:=.ref 1) rfl rfl rfl rfl (ae (ci (ae (v:=.int 6) rfl (ae (v:=.tup [.int (mn i j),.int (mx i j)]) rfl rfl)) (cg rfl)) rfl) d)))) rfl) (.inr ⟨hc,e⟩) f
theorem eA{α β:Type}{f h:α->β}:∀ {l:List α},l.map f=l.map h->∀x∈l,f x=h x
 |a::r,e,x,c=>by
  replace e:=List.cons.inj e
  refine(List.mem_cons.mp c).elim (λb=>?_) (λc=>?_)
  ·subst b
   exact e.1
  ·exact eA e.2 x c
theorem uD(t:Tg b g)(hb:b<10000)(hi:i∈tsB)(hj:j∈tsB):
  ∃u Y,(prog.cf (n+4)).call 12 [.ref 1,.lst [.int i,.int j]] (mk g [])=some (.int u,mk (ac g Y) [])/\Un (ac g Y) i j u/\Tg (b+1) (ac g Y):=
 jH t hb (eA (ze g n) (i,j) (l9 hi hj))
theorem uF(t:Tg b g)(hb:b<10000)(hi:i∈ksB)(hj:j∈ksB):
  ∃u Y,(prog.cf (n+4)).call 12 [.ref 1,.lst [.int i,.int j]] (mk g [])=some (.int u,mk (ac g Y) [])/\Un (ac g Y) i j u/\Tg (b+1) (ac g Y):=
 jH t hb (eA (zd g n) (i,j) (l9 hi hj))
theorem uE(t:Tg b g)(hb:b<10000)(hi:i∈ksB)(hj:j∈ksB):
  ∃u Y,(prog.cf (n+4)).call 12 [.ref 1,.tmp 0] (mk g [.list [.int i,.int j]])=some (.int u,mk (ac g Y) [.list [.int i,.int j]])/\Un (ac g Y) i j u/\Tg (b+1) (ac g Y):=
 jH t hb (eA (zc g n) (i,j) (l9 hi hj))
end
noncomputable abbrev Cell:=Option (Int×Int)
noncomputable def cv:Cell->V
 |none=>.tup []
 |some (k,r)=>.tup [.int k,.int r]
noncomputable def txC(t:Int):Cell:=if t=45\/t=46\/t=47 then some (7,0) else if t=48\/t=18\/t=49\/t=40 then some (16,1) else none
noncomputable def nuC(t:Int):Cell:=if t=43\/t=46\/t=18\/t=40 then some (17,0) else if t=44\/t=47\/t=49 then some (9,1) else none
noncomputable def leC(t:Int):Bool:=t==6||t==16||t==38
noncomputable abbrev tsN:List Int:=[42,43,44,45,46,47,48,18,49,40,6,16,38,7,10]
noncomputable def iz(t n:Int):Cell:=if n=0 then txC t else nuC t
noncomputable def ixs:List (Int×Int):=tsN.flatMap λt=>[(t,0),(t,1)]
theorem BJ(g:G)(n:Nat):(ixs.map λp=>(prog.cf (n+5)).call 30 [.ref 43,.int p.1,.int p.2] (mk g []))=ixs.map λp=>some (cv (iz p.1 p.2),mk g []):=by kernel_rfl
theorem BI(g:G)(n:Nat)(o:Ob):(ixs.map λp=>(prog.cf (n+5)).call 30 [.ref 43,.int p.1,.int p.2] (mk g [o]))=ixs.map λp=>some (cv (iz p.1 p.2),mk g [o]):=by kernel_rfl
theorem wu(g:G)(n:Nat):(tsB.map λt=>(prog.cf (n+3)).call 15 [.ref 1,.int t] (mk g []))=tsB.map λt=>some (.int (if leC t then 1 else if t=7 then 2 else 7),mk g []):=by kernel_rfl
theorem B7(g:G)(n:Nat):(tsB.map λt=>(prog.cf (n+3)).call 43 [.ref 43,.int t] (mk g []))=tsB.map λt=>some (.int t,mk g []):=by kernel_rfl
section
variable {b n:Nat}{g:G}{T:List Ob}{t:Int}
theorem tG(hg:Tg b g)(hb:b<10000):∃p Y,(prog.cf (n+4)).call 44 [.ref 43,.int 35] (mk g T)=some (.int p,mk (ac g Y) T)/\aB (ac g Y) p [.int 8,.tup [],.tup [.int 35],.tup [],.tup [],.tup [],.int 0]/\Tg (b+1) (ac g Y):=by
 refine cp λ_ c=>?_
 refine x23 (cK (j:=n) (T:=T) (r:=[.int 8,.tup [],.tup [.int 35],.tup [],.tup [],.tup [],.int 0]) hg hb rfl) λp Y f a e=>?_
 refine c ?_
 have h:(prog.cf (n+2)).call 4 [.ref 1,.int 35] (mk g T)=some (.int p,mk (ac g Y) T):=
  ah rfl rfl (af (ay (aN rfl rfl rfl rfl (ae (ci (l:=[.int 8,.tup [],.tup [.int 35],.tup [],.tup [],.tup [],.int 0]) rfl (cg rfl)) rfl) f))) rfl
 have d:(prog.cf (n+3)).call 42 [.ref 1,.int 35] (mk g T)=some (.int p,mk (ac g Y) T):=
  ah rfl rfl (af (bI (l:=.int 0::(List.range' 1 39).map λk:Nat=>V.int (k:Int)) rfl rfl (bZ (aa (ρ':=[.ref 1,.int 35,.int 0,.undef]) (s':=mk g T) rfl (aa (ak (bA rfl rfl rfl (aj rfl)))
   (aa (ρ':=[.ref 1,.int 35,.int 0,.tup [.int 13,.tup [],.tup [],.int 16,.tup [],.int 0]]) (s':=mk g T) rfl (af (ag rfl rfl (af (ay (ai (l:=[.ref 1,.int 35]) rfl h))))))))))) rfl
 exact i23 p Y (ah rfl rfl (af (ay (ai (l:=[.ref 1,.int 35]) rfl d))) rfl) a e
noncomputable abbrev iD:List V:=[.int 13,.tup [],.tup [],.int 16,.tup [],.int 0]
theorem zL{m:Int}(hm:m=0\/m=1)(hg:Tg b g)(hb:b<10000):∃Y,(prog.cf (n+5)).call 30 [.ref 43,.int 35,.int m] (mk g T)=some (.tup [],mk (ac g Y) T)/\Tg (b+1) (ac g Y):=by
 refine x23 (tG (n:=n) (T:=T) hg hb) λp Y a c h=>?_
 refine i12 Y ?_ h
 have f:ev (prog.cf (n+4)) (.meth (.loc 0) 31 (.cons (.loc 1) .nil)) (fr0 gM [.ref 43,.int 35,.int m]) (mk g T)=some (.int 35,mk g T):=
  aN rfl rfl rfl rfl rfl (iR rfl nofun)
 have d:ev (prog.cf (n+4)) (.meth (.loc 0) 33 (.cons (.loc 1) .nil)) [.ref 43,.int 35,.int m,.tup iD,.undef] (mk g T)=some (.int p,mk (ac g Y) T):=
  aN rfl rfl rfl rfl rfl a
 have e:ev (prog.cf (n+4)) (.idx (.attr (.attr (.loc 0) 26) 0) (.meth (.loc 0) 33 (.cons (.loc 1) .nil))) [.ref 43,.int 35,.int m,.tup iD,.undef] (mk g T)=some (.tup [.int 8,.tup [],.tup [.int 35],.tup [],.tup [],.tup [],.int 0],mk (ac g Y) T):=
  bo (x:=.ref 2) rfl d (gf c)
 refine ah rfl rfl (ρ':=[.ref 43,.int 35,.int m,.tup iD,.tup []]) (aa (ak f) (aa (ρ':=[.ref 43,.int 35,.int m,.tup iD,.undef]) (s':=mk g T) (ak (jT rfl rfl rfl rfl rfl rfl (aj rfl)))
  (aa (ρ':=[.ref 43,.int 35,.int m,.tup iD,.undef]) (s':=mk g T) rfl (aa (ρ':=[.ref 43,.int 35,.int m,.tup iD,.tup []]) (s':=mk (ac g Y) T) (ag rfl rfl (aa (ak (bo e (k:=.int (if m=0 then 4 else 5)) ?_ ?_)) rfl)) rfl)))) rfl
 ·rcases hm with rfl|rfl<;>rfl
 ·rcases hm with rfl|rfl<;>rfl
theorem mz{m:Int}(hT:T=[]\/∃o,T=[o])(ht:t∈tsB)(hm:m=0\/m=1)(hg:Tg b g)(hb:b<10000):
  ∃Y,(prog.cf (n+5)).call 30 [.ref 43,.int t,.int m] (mk g T)=some (cv (iz t m),mk (ac g Y) T)/\Tg (b+1) (ac g Y):=by
 by_cases h:t=35
 ·subst h
  refine x12 (zL (n:=n) (T:=T) hm hg hb) λY c d=>?_
  refine i12 Y ?_ d
  refine c▸?_
  try clear c
  rcases hm with rfl|rfl<;>rfl
 ·have a:(t,m)∈ixs:=by
   have:t∈tsN:=(by decide:∀t∈tsB,t≠35->t∈tsN) t ht h
   refine List.mem_flatMap.mpr ⟨t,this,?_⟩
   rcases hm with rfl|rfl<;>simp
  refine i12 [] ?_ ?_
  ·refine aC▸?_
   rcases hT with rfl|⟨o,rfl⟩
   ·exact eA (BJ g n) (t,m) a
   ·exact eA (BI g n o) (t,m) a
  ·simp only [aC];exact⟨hg.nd,Nat.le_succ_of_le hg.len,hb⟩
end
noncomputable def ccC(t m:Int):Cell:=if m=0 then txC t else(nuC t).or (txC t)
def JC(g:G)(c d:Cell)(v:V):Prop:=match c,d with
 |some (k,r),some (l,q)=>∃u,Un g k l u/\v=.tup [.int u,.int (max r q)]
 |_,_=>v=.tup []
theorem JC.comm{g:G}{c d:Cell}{v:V}(h:JC g c d v):JC g d c v:=by
 cases c with
 |none=>cases d<;>exact h
 |some x=>
  cases d with
  |none=>exact h
  |some y=>
   refine x12 h λu b a=>?_
   exact i12 u b.comm (by rw [a,Int.max_comm])
theorem JC.le{g g':G}(x:Le g g'){c d:Cell}{v:V}(h:JC g c d v):JC g' c d v:=by
 cases c with
 |none=>cases d<;>exact h
 |some a=>
  cases d with
  |none=>exact h
  |some y=>
   refine x12 h λu e b=>?_
   exact i12 u (e.le x) b
theorem JC.fn{b:Nat}{g:G}(t:Tg b g){c d:Cell}{v v':V}(h:JC g c d v)(h':JC g c d v'):v=v':=by
 cases c with
 |none=>cases d<;>exact h.trans (Eq.symm h')
 |some a=>
  cases d with
  |none=>exact h.trans (Eq.symm h')
  |some y=>
   refine x12 h λu f i=>?_
   refine x12 h' λk e j=>?_
   simp only [i,j,f.fn t e]
theorem gF{t k r:Int}(h:txC t=some (k,r)):k∈ksB/\(r=0\/r=1):=by
 unfold txC at h
 split at h
 ·obtain⟨rfl,rfl⟩:=sp h;decide
 ·split at h
  ·obtain⟨rfl,rfl⟩:=sp h;decide
  ·exact nn h
theorem qZ{t k r:Int}(h:nuC t=some (k,r)):k∈ksB/\(r=0\/r=1):=by
 unfold nuC at h
 split at h
 ·obtain⟨rfl,rfl⟩:=sp h;decide
 ·split at h
  ·obtain⟨rfl,rfl⟩:=sp h;decide
  ·exact nn h
theorem cy{t m k r:Int}(h:ccC t m=some (k,r)):k∈ksB/\(r=0\/r=1):=by
 unfold ccC at h
 split at h
 ·exact gF h
 ·cases hn:nuC t with
  |none=>rw [hn] at h;exact gF h
  |some x=>replace h:=hn▸h;obtain⟨rfl,rfl⟩:=sp h;exact qZ hn
noncomputable def wh:Sts:=match bY.body with
 |.cons _ (.cons _ (.cons (.for_ _ _ b) _))=>b
 |_=>.nil
section
variable {b n:Nat}{g:G}{T:List Ob}{t m:Int}
noncomputable def ipR(ps:V)(m ro:Int)(part cell:V):List V:=[.ref 43,ps,.int m,.tmp 0,.int ro,part,cell]
theorem Tg.up{c:Nat}(h:Tg b g)(hc:b<=c)(hl:c<=10000):Tg c g:=⟨h.nd,Nat.le_trans h.len hc,hl⟩
theorem xX{ps z:V}{ro:Int}{ks:List V}(ht:t∈tsB)(hm:m=0\/m=1)(hg:Tg b g)(hb:b+2<=10000):
  ∃Y,(∀r o,exs (prog.cf (n+5)) r (ipR ps m ro (.int t) (cv (ccC t m))) (mk (ac g Y) [.list ks])=o->
   exs (prog.cf (n+5)) (.cons (.asg 6 (.call 30 (.cons (.loc 0) (.cons (.loc 5) (.cons (.loc 2) .nil))))) (.cons (.ite (.bop true (.cons (.cmp .eq (.loc 6) (.tup .nil)) (.cons (.loc 2) .nil))) (.cons (.asg 6 (.call 30 (.cons (.loc 0) (.cons (.loc 5) (.cons (.lit (.int 0)) .nil))))) .nil) .nil) r))
    (ipR ps m ro (.int t) z) (mk g [.list ks])=o)/\Tg (b+2) (ac g Y):=by
 refine x12 (mz (n:=n) (T:=[.list ks]) (.inr ⟨_,rfl⟩) ht hm hg (Nat.le_of_succ_le ‹_›)) λY q h=>?_
 have f:ex (prog.cf (n+5)) (.asg 6 (.call 30 (.cons (.loc 0) (.cons (.loc 5) (.cons (.loc 2) .nil))))) (ipR ps m ro (.int t) z) (mk g [.list ks])=some (.next,ipR ps m ro (.int t) (cv (iz t m)),mk (ac g Y) [.list ks]):=
  ak (ai (l:=[.ref 43,.int t,.int m]) rfl q)
 have k:=h.up (Nat.le_succ _) hb
 refine(hm).elim (λa=>?_) (λc=>?_)
 ·subst a
  refine i12 Y (λr o d=>aa f (aa (ρ':=ipR ps 0 ro (.int t) (cv (iz t 0))) (s':=mk (ac g Y) [.list ks]) ?_ d)) k
  cases hc:iz t 0 with
  |none=>rfl
  |some x=>rfl
 ·subst c
  cases hc:nuC t with
  |some x=>
   have e:ccC t 1=iz t 1:=by
    show(nuC t).or (txC t)=nuC t
    refine hc▸?_;rfl
   refine e▸?_
   refine i12 Y (λr o d=>aa f (aa (ρ':=ipR ps 1 ro (.int t) (cv (iz t 1))) (s':=mk (ac g Y) [.list ks]) ?_ d)) k
   show ex _ _ (ipR ps 1 ro (.int t) (cv (nuC t))) _=some (.next,ipR ps 1 ro (.int t) (cv (nuC t)),_)
   refine hc▸?_;rfl
  |none=>
   have e:ccC t 1=txC t:=by
    show(nuC t).or (txC t)=txC t
    refine hc▸?_;rfl
   rw [e]
   refine x12 (mz (n:=n) (T:=[.list ks]) (.inr ⟨_,rfl⟩) ht (.inl rfl) h ‹_›) λZ i j=>?_
   rw [cH] at i j
   have p:iz t 1=none:=hc
   rw [p] at f
   refine i12 (Y++Z) (λr o d=>aa f (aa (ρ':=ipR ps 1 ro (.int t) (cv (txC t))) (s':=mk (ac g (Y++Z)) [.list ks]) (ag (v:=.int 1) rfl rfl
    (aa (ak (ai (l:=[.ref 43,.int t,.int 0]) rfl i)) rfl)) d)) j
theorem sG{ps z:V}{ro:Int}{ks:List V}(ht:t∈tsB)(hm:m=0\/m=1)(hro:ro=0\/ro=1)(hz:ks.length<10)(hg:Tg b g)(hb:b+2<=10000):
  ∃Y,exs (prog.cf (n+5)) wh (ipR ps m ro (.int t) z) (mk g [.list ks])=(match ccC t m with
   |none=>some (.ret (.tup []),ipR ps m ro (.int t) (.tup []),mk (ac g Y) [.list ks])
   |some (k,r)=>some (.next,ipR ps m (max ro r) (.int t) (.tup [.int k,.int r]),mk (ac g Y) [.list (ks++[.int k])]))/\Tg (b+2) (ac g Y):=by
 refine x12 (xX (n:=n) (ps:=ps) (z:=z) (ro:=ro) (ks:=ks) ht hm hg hb) λY c d=>?_
 refine i12 Y (c _ _ ?_) d
 cases hc:ccC t m with
 |none=>exact af (ag rfl rfl (af (ay rfl)))
 |some x=>
  obtain⟨k,r⟩:=x
  have a:=(cy hc).2
  refine aa (ρ':=ipR ps m ro (.int t) (.tup [.int k,.int r])) (s':=mk (ac g Y) [.list ks]) rfl (aa (bc (v:=.none) (s1:=mk (ac g Y) [.list (ks++[.int k])]) ?_ rfl) (aa (ρ':=ipR ps m (max ro r) (.int t) (.tup [.int k,.int r])) (s':=mk (ac g Y) [.list (ks++[.int k])]) ?_ rfl))
  ·show(if ks.length<lim then some (V.none,(⟨obs (ac g Y),[.list (ks++[.int k])]⟩:S)) else none)=_
   rw [if_pos (by have:lim=1048576:=rfl;lia)];rfl
  ·rcases hro with rfl|rfl<;>rcases a with rfl|rfl<;>rfl
theorem v9{a c:Int}(ha:a∈tsB)(hc:c∈tsB)(hm:m=0\/m=1)(hg:Tg b g)(hb:b+5<=10000):
  ∃v Y,(prog.cf (n+6)).call 31 [.ref 43,.tup [.int a,.int c],.int m] (mk g [])=some (v,mk (ac g Y) [])/\JC (ac g Y) (ccC a m) (ccC c m) v/\Tg (b+5) (ac g Y):=by
 refine cp λ_ i=>?_
 refine x12 (sG (n:=n) (ps:=.tup [.int a,.int c]) (z:=.undef) (ks:=[]) ha hm (.inl rfl) (by decide) hg (nle ‹_›)) λY e p=>?_
 refine i ?_
 have d:∀j ρ' s',exF (exs (prog.cf (n+5)) wh) 5 (.tup [.int a,.int c]) [.int a,.int c] [.int a,.int c] (ipR (.tup [.int a,.int c]) m 0 .undef .undef) (mk g [.list []])=some (.ret j,ρ',s')->
   exs (prog.cf (n+5)) bY.body (fr0 bY [.ref 43,.tup [.int a,.int c],.int m]) (mk g [])=some (.ret j,ρ',s'):=λj ρ' s' h=>
  aa (ρ':=[.ref 43,.tup [.int a,.int c],.int m,.tmp 0,.undef,.undef,.undef]) (s':=mk g [.list []]) rfl (aa (ρ':=ipR (.tup [.int a,.int c]) m 0 .undef .undef) (s':=mk g [.list []]) rfl (af (bI (v:=.tup [.int a,.int c]) rfl rfl h)))
 cases hca:ccC a m with
 |none=>
  replace e:=hca▸e
  refine i23 (.tup []) Y (cP rfl rfl (d _ _ _ (bZ e)) rfl) ?_ (p.up (Nat.add_le_add_left (by decide) _) hb)
  cases ccC c m<;>rfl
 |some x=>
  obtain⟨k,r⟩:=x
  replace e:=hca▸e
  obtain⟨A,C⟩:=cy hca
  refine x12 (sG (n:=n) (ps:=.tup [.int a,.int c]) (z:=.tup [.int k,.int r]) (ro:=max 0 r) (ks:=[.int k]) hc hm (by lia) (by show 1<10;decide) p (nlt ‹_›)) λZ f o=>?_
  rw [cH] at f o
  cases hcc:ccC c m with
  |none=>
   rw [hcc] at f
   exact i23 (.tup []) (Y++Z) (cP rfl rfl (d _ _ _ (aT e rfl (bZ f))) rfl) rfl (o.up (by lia) hb)
  |some y=>
   obtain⟨l,q⟩:=y
   rw [hcc] at f
   obtain⟨B,hq⟩:=cy hcc
   refine cp λ_ i=>?_
   refine x23 (uE (n:=n+1) o ‹_› A B) λu U w s t=>?_
   refine i ?_
   rw [cH] at w s t
   refine i23 (.tup [.int u,.int (max r q)]) (Y++Z++U) ?_ ⟨u,s,rfl⟩ t
   refine cP (X:=[.list [.int k,.int l]]) rfl rfl (ρ':=ipR (.tup [.int a,.int c]) m (max (max 0 r) q) (.int c) (.tup [.int l,.int q])) ?_ rfl
   refine aa (ρ':=[.ref 43,.tup [.int a,.int c],.int m,.tmp 0,.undef,.undef,.undef]) (s':=mk g [.list []]) rfl (aa (ρ':=ipR (.tup [.int a,.int c]) m 0 .undef .undef) (s':=mk g [.list []]) rfl
    (aa (bI (v:=.tup [.int a,.int c]) rfl rfl (aT e rfl (aT f rfl rfl))) (af (ay (ci (ae (ai (l:=[.ref 1,.tmp 0]) rfl w) (ae ?_ rfl)) (cg rfl))))))
   have:max (max 0 r) q=max r q:=by lia
   simp only [<-this];rfl
end
def isC(v:V):Prop:=v=.tup []\/∃k r,v=.tup [.int k,.int r]/\(r=0\/r=1)
theorem rk{c:Cell}(h:∀k r,c=some (k,r)->r=0\/r=1):isC (cv c):=by
 cases c with
 |none=>exact .inl rfl
 |some x=>exact .inr (i22 x.1 x.2 rfl (h _ _ rfl))
theorem iN{g:G}{c d:Cell}{v:V}(hc:∀k r,c=some (k,r)->r=0\/r=1)(hd:∀k r,d=some (k,r)->r=0\/r=1)(h:JC g c d v):isC v:=by
 cases c with
 |none=>cases d<;>exact .inl h
 |some a=>
  cases d with
  |none=>exact .inl h
  |some y=>
   refine x12 h λu e b=>?_
   have:=hc _ _ rfl;have:=hd _ _ rfl
   exact .inr (i22 u _ b (by lia))
noncomputable def emp(v:V):Bool:=match v with|.tup []=>true|_=>false
noncomputable def gY(n x:V)(le:Bool):V:=if emp n then(if emp x then(if le then .tup [.int 6,.int 1] else .tup []) else x) else n
theorem isC.nt{v:V}(h:isC v):aV v=true/\v≠ .undef:=by
 rcases h with rfl|⟨k,r,rfl,_⟩<;>exact⟨rfl,nofun⟩
theorem jB{n x:V}{le:Bool}(hn:isC n)(hx:isC x):isC (gY n x le):=by
 unfold gY
 split
 ·split
  ·split
   ·exact .inr (i22 6 1 rfl (.inr rfl))
   ·exact .inl rfl
  ·exact hx
 ·exact hn
section
variable {b n:Nat}{g:G}{T:List Ob}{t m:Int}
structure TC(g:G)(t:Int)(n1 n0:V)(le:Bool):Prop where
 c1:isC n1
 c0:isC n0
 ix:∀g' c m j,Le g g'->Tg c g'->c+5<=10000->m=0\/m=1->∃Y,(prog.cf (j+8)).call 30 [.ref 43,.int t,.int m] (mk g' [])=some (if m=0 then n0 else n1,mk (ac g' Y) [])/\Tg (c+5) (ac g' Y)
 fam:∀g' j,Le g g'->∃f:Int,(prog.cf (j+5)).call 15 [.ref 1,.int t] (mk g' [])=some (.int f,mk g' [])/\((f==1)=le)
 bnd:∀g' j,Le g g'->(prog.cf (j+3)).call 43 [.ref 43,.int t] (mk g' [])=some (.int t,mk g' [])
theorem TC.le{g':G}{n1 n0:V}{le:Bool}(h:TC g t n1 n0 le)(x:Le g g'):TC g' t n1 n0 le:=
 ⟨h.c1,h.c0,λa c m j y=>h.ix a c m j (x.trans y),λa j y=>h.fam a j (x.trans y),λa j y=>h.bnd a j (x.trans y)⟩
theorem lX(ht:t∈tsB):TC g t (cv (nuC t)) (cv (txC t)) (leC t):=by
 refine⟨rk λk r h=>(qZ h).2,rk λk r h=>(gF h).2,λa c m j x f i d=>?_,λa j x=>?_,λa j x=>eA (B7 a j) t ht⟩
 ·refine x12 (mz (n:=j+3) (.inl rfl) ht d f (by lia)) λY b e=>?_
  refine i12 Y ?_ (e.up (Nat.add_le_add_left (by decide) _) i)
  simp only [b]
  try clear b
  rcases d with rfl|rfl<;>rfl
 ·refine i12 _ (eA (wu a (j+2)) t ht) ?_
  cases leC t
  ·show((if false=true then(1:Int) else if t=7 then 2 else 7)==1)=false
   rw [if_neg (by decide)]
   split<;>rfl
  ·rfl
theorem t8{u a c:Int}{f h:Int}(hr:aB g u [.int 6,.tup [.int a,.int c]])(ha:(prog.cf (n+3)).call 15 [.ref 1,.int a] (mk g [])=some (.int f,mk g []))(hc:(prog.cf (n+3)).call 15 [.ref 1,.int c] (mk g [])=some (.int h,mk g [])):
  (prog.cf (n+5)).call 15 [.ref 1,.int u] (mk g [])=some (.int (if h==f then f else 0),mk g []):=by
 have b:(prog.cf (n+4)).call 13 [.ref 1,.tup [.int a,.int c]] (mk g [])=some (.int (if h==f then f else 0),mk g []):=by
  refine ah (ρ':=[.ref 1,.tup [.int a,.int c],.int f,.bool (h==f),.undef]) rfl rfl (aa (ak (ai (l:=[.ref 1,.int a]) rfl ha)) (aa (ak
   (ch (dd rfl rfl (bJ (y:=.bool true) (s1:=mk g []) ?_ rfl (bJ (y:=.bool (h==f)) (s1:=mk g []) ?_ rfl rfl))) ?_)) (af (ay (cx rfl rfl ?_))))) rfl
  ·exact aq (ai (l:=[.ref 1,.int a]) rfl ha) rfl (congrArg some (beq_self_eq_true f))
  ·exact aq (ai (l:=[.ref 1,.int c]) rfl hc) rfl rfl
  ·cases (h==f)<;>rfl
  ·cases (h==f)<;>rfl
 exact ah (ρ':=[.ref 1,.int u,.tup [.int 6,.tup [.int a,.int c]],.int 6,.undef]) rfl rfl (aa (ak (bA rfl rfl rfl hr)) (aa (ρ':=[.ref 1,.int u,.tup [.int 6,.tup [.int a,.int c]],.int 6,.undef]) (s':=mk g []) rfl (aa rfl (aa rfl (aa rfl
  (af (ag (v:=.bool true) rfl rfl (af (ay (ai (l:=[.ref 1,.tup [.int a,.int c]]) rfl b)))))))))) rfl
theorem nM{u a c:Int}{v0 v1:V}(ha:a∈tsB)(hc:c∈tsB)(hr:aB g u [.int 6,.tup [.int a,.int c]])(h0:JC g (ccC a 0) (ccC c 0) v0)(h1:JC g (ccC a 1) (ccC c 1) v1):TC g u v1 v0 (leC a&&leC c):=by
 refine⟨iN (λk r h=>(cy h).2) (λk r h=>(cy h).2) h1,iN (λk r h=>(cy h).2) (λk r h=>(cy h).2) h0,λb t m j x o p f=>?_,λb j x=>?_,λb j x=>?_⟩
 ·refine x23 (v9 (n:=j+1) ha hc f o p) λv Y q e d=>?_
  have i:ev (prog.cf (j+7)) (.meth (.loc 0) 31 (.cons (.loc 1) .nil)) (fr0 gM [.ref 43,.int u,.int m]) (mk b [])=some (.int u,mk b []):=
   aN rfl rfl rfl rfl rfl (iR rfl nofun)
  have s:v=if m=0 then v0 else v1:=by
   have y:=x.trans (Le.add b Y)
   rcases f with rfl|rfl
   ·exact e.fn d (h0.le y)
   ·exact e.fn d (h1.le y)
  refine i12 Y ?_ d
  refine s▸?_
  have cv:aV v=true:=(iN (λk r h=>(cy h).2) (λk r h=>(cy h).2) e).nt.1
  exact ah (ρ':=[.ref 43,.int u,.int m,.tup [.int 6,.tup [.int a,.int c]],.undef]) rfl rfl (aa (ak i) (aa (ρ':=[.ref 43,.int u,.int m,.tup [.int 6,.tup [.int a,.int c]],.undef]) (s':=mk b []) (ak (jT rfl rfl rfl rfl rfl rfl (hr.le x)))
   (af (ag (v:=.bool true) rfl rfl (af (ay (ai (l:=[.ref 43,.tup [.int a,.int c],.int m]) rfl q))))))) cv
 ·refine i12 _ (t8 (hr.le x) (eA (wu b j) a ha) (eA (wu b j) c hc)) ?_
  cases leC a<;>cases leC c<;>simp only [Bool.false_eq_true,if_false,if_true,Bool.and_self,Bool.and_false,Bool.false_and]<;>(repeat' split)<;>first|rfl|simp_all
 ·exact ic (hr.le x) (by decide)
theorem fE{n1 n0:V}{le:Bool}(C:TC g t n1 n0 le)(tg:Tg b g)(hb:b+10<=10000):
  ∃Y,(prog.cf (n+9)).call 39 [.ref 48,.int t] (mk g [])=some (gY n1 n0 le,mk (ac g Y) [])/\Tg (b+10) (ac g Y):=by
 refine x12 (C.ix g b 1 n (.refl g) tg (nle ‹_›) (.inr rfl)) λY s p=>?_
 refine x12 (C.ix (ac g Y) (b+5) 0 n (.add g Y) p (by omega) (.inl rfl)) λZ i m=>?_
 rw [cH] at i m
 replace i:=(if_pos rfl)▸i
 have e:∀ (s':S) v ρ',exF (exs (prog.cf (n+8)) (match c9.body with|.cons (.for_ _ _ b) _=>b|_=>.nil)) 2 (.tup [.int 1,.int 0]) [.int 1,.int 0] [.int 1,.int 0] [.ref 48,.int t,.undef,.undef] (mk g [])=some (.ret v,ρ',s')->
   exs (prog.cf (n+8)) c9.body (fr0 c9 [.ref 48,.int t]) (mk g [])=some (.ret v,ρ',s'):=λs' v ρ' h=>af (bI rfl rfl h)
 have o:∀z,ex (prog.cf (n+8)) (.asg 3 (.call 30 (.cons (.attr (.loc 0) 37) (.cons (.loc 1) (.cons (.loc 2) .nil))))) [.ref 48,.int t,.int 1,z] (mk g [])=some (.next,[.ref 48,.int t,.int 1,n1],mk (ac g Y) []):=λz=>
  ak (ai (l:=[.ref 43,.int t,.int 1]) rfl s)
 have q:∀z,ex (prog.cf (n+8)) (.asg 3 (.call 30 (.cons (.attr (.loc 0) 37) (.cons (.loc 1) (.cons (.loc 2) .nil))))) [.ref 48,.int t,.int 0,z] (mk (ac g Y) [])=some (.next,[.ref 48,.int t,.int 0,n0],mk (ac g (Y++Z)) []):=λz=>
  ak (ai (l:=[.ref 43,.int t,.int 0]) rfl i)
 refine(C.c1).elim (λc=>?_) (λd=>?_)
 ·subst c
  rcases C.c0 with rfl|⟨k,r,rfl,_⟩
  ·refine x12 (C.fam (ac g (Y++Z)) (n+3) (.add g _)) λf u j=>?_
   refine i12 (Y++Z) ?_ m
   have w:gY (.tup []) (.tup []) le=if f==1 then .tup [.int 6,.int 1] else .tup []:=by
    refine j▸?_;rfl
   refine w▸?_
   refine ah (ρ':=[.ref 48,.int t,.int 0,.tup []]) rfl rfl (aa (ρ':=[.ref 48,.int t,.int 0,.tup []]) (s':=mk (ac g (Y++Z)) []) (bI rfl rfl
    (aT (aa (o _) rfl) rfl (aT (aa (q _) rfl) rfl rfl))) (af (ay (cx (aq (ai (l:=[.ref 1,.int t]) rfl u) rfl rfl) rfl ?_)))) ?_
   ·cases (f==1)<;>rfl
   ·cases (f==1)<;>rfl
  ·exact i12 (Y++Z) (ah rfl rfl (e _ _ _ (aT (aa (o _) rfl) rfl (bZ (aa (q _) (af (ag (v:=.bool true) rfl rfl (af (ay rfl)))))))) rfl) m
 ·refine x22 d λk r a _=>?_
  subst a
  exact i12 Y (ah rfl rfl (e _ _ _ (bZ (aa (o _) (af (ag (v:=.bool true) rfl rfl (af (ay rfl))))))) rfl) (p.up (Nat.add_le_add_left (by decide) _) hb)
end
noncomputable def aI(g:G)(i:Nat):G:={g with ix:=Int.ofNat i}
structure Nm(l:List Int):Prop where
 pos:0<l.length
 len:l.length<=10000
 ge:∀x∈l,0<=x
noncomputable abbrev clo(l:List Int):V:=.clo (.lst (l.map .int)) (.ref 0)
theorem u8{l:List Int}(hl:Nm l){j i k:Nat}{g:G}{T:List Ob}(hi:g.ix=Int.ofNat i)(hb:i<=10000)(hk:0<k):
  ∃r,r<k/\(prog.cf (j+1)).call 0 [.lst (l.map .int),.ref 0,.int (Int.ofNat k)] (mk g T)=some (.int (Int.ofNat r),mk (aI g (i+1)) T):=by
 have a:=hl.pos
 have m:i%l.length<l.length:=Nat.mod_lt _ a
 obtain⟨x,hx⟩:∃x,l[i%l.length]?=some x:=⟨_,List.getElem?_eq_getElem m⟩
 have e:0<=x:=hl.ge x (List.mem_of_getElem? hx)
 have d:ev (prog.cf j) (.bin .mod (.idx (.loc 1) (.lit (.int 0))) (.bf .len (.loc 0))) [.lst (l.map .int),.ref 0,.int (Int.ofNat k),.undef] (mk g T)=some (.int (Int.ofNat (i%l.length)),mk g T):=by
  refine iY (y:=.int (l.map V.int).length) rfl rfl ?_
  show(if(0:Int)<((l.map V.int).length:Nat) then some (V.int (g.ix% ((l.map V.int).length:Nat))) else none)=_
  rw [List.length_map,if_pos (by simpa using a),hi];rfl
 have h:ev (prog.cf j) (.bin .fdiv (.idx (.loc 1) (.lit (.int 0))) (.bf .len (.loc 0))) [.lst (l.map .int),.ref 0,.int (Int.ofNat k),.undef] (mk g T)=some (.int (Int.ofNat (i/l.length)),mk g T):=by
  refine iY (y:=.int (l.map V.int).length) rfl rfl ?_
  show(if(0:Int)<((l.map V.int).length:Nat)/\(((l.map V.int).length:Nat):Int)<=(lim:Nat) then some (V.int (g.ix/ ((l.map V.int).length:Nat))) else none)=_
  have:=hl.len
  rw [List.length_map,if_pos ⟨by simpa using a,by lia⟩,hi];rfl
 have n:i/l.length<=i:=Nat.div_le_self _ _
 have c:ev (prog.cf j) (.bin .mul (.lit (.int 31)) (.bin .fdiv (.idx (.loc 1) (.lit (.int 0))) (.bf .len (.loc 0)))) [.lst (l.map .int),.ref 0,.int (Int.ofNat k),.undef] (mk g T)=some (.int (Int.ofNat (31*(i/l.length))),mk g T):=by
  refine iY rfl h ?_
  show(if(31:Int).natAbs<2 ^ 64/\(Int.ofNat (i/l.length)).natAbs<2 ^ 64 then some (V.int (31*Int.ofNat (i/l.length))) else none)=_
  rw [if_pos ⟨by decide,by simp only [Int.ofNat_eq_natCast,Int.natAbs_natCast];lia⟩];rfl
 have f:ev (prog.cf j) (.idx (.loc 0) (.bin .mod (.idx (.loc 1) (.lit (.int 0))) (.bf .len (.loc 0)))) [.lst (l.map .int),.ref 0,.int (Int.ofNat k),.undef] (mk g T)=some (.int x,mk g T):=by
  refine bo (x:=.lst (l.map .int)) rfl d ?_
  show(l.map V.int)[i%l.length]?=_
  simp only [List.getElem?_map,hx];rfl
 have b:ev (prog.cf j) (.bin .add (.idx (.loc 0) (.bin .mod (.idx (.loc 1) (.lit (.int 0))) (.bf .len (.loc 0)))) (.bin .mul (.lit (.int 31)) (.bin .fdiv (.idx (.loc 1) (.lit (.int 0))) (.bf .len (.loc 0))))) [.lst (l.map .int),.ref 0,.int (Int.ofNat k),.undef] (mk g T)=
   some (.int (x+Int.ofNat (31*(i/l.length))),mk g T):=iY f c rfl
 obtain⟨y,hy⟩:∃y:Nat,x+Int.ofNat (31*(i/l.length))=Int.ofNat y:=by
  refine⟨(x+Int.ofNat (31*(i/l.length))).toNat,?_⟩
  exact(Int.toNat_of_nonneg (by lia)).symm
 rw [hy] at b
 refine i12 (y%k) (Nat.mod_lt _ hk) ?_
 refine ah (ρ':=[.lst (l.map .int),.ref 0,.int (Int.ofNat k),.int (Int.ofNat y)]) rfl rfl (aa (ak b) (aa (ρ':=[.lst (l.map .int),.ref 0,.int (Int.ofNat k),.int (Int.ofNat y)]) (s':=mk (aI g (i+1)) T) ?_ (af (ay ?_)))) rfl
 ·show some (Fl.next,_,mk {g with ix:=g.ix+1} T)=_
  refine hi▸?_;rfl
 ·refine iY (x:=.int (Int.ofNat y)) (y:=.int (Int.ofNat k)) rfl rfl ?_
  show(if(0:Int)<Int.ofNat k then some (V.int (Int.ofNat y%Int.ofNat k)) else none)=_
  rw [if_pos (by simpa using hk)];rfl
theorem bx{l:List Int}(hl:Nm l){j i k x:Nat}{g:G}{T:List Ob}{ρ:List V}{a:E}(hi:g.ix=Int.ofNat i)(hb:i<=10000)(hk:0<k)(h:lget ρ x=clo l)(ha:ev (prog.cf (j+1)) a ρ (mk g T)=some (.int (Int.ofNat k),mk g T)):
  ∃r,r<k/\ev (prog.cf (j+1)) (.lcall x a) ρ (mk g T)=some (.int (Int.ofNat r),mk (aI g (i+1)) T):=by
 refine x12 (u8 hl (j:=j) (T:=T) hi hb hk) λr c b=>?_
 refine i12 r c ?_
 show vC (lget ρ x) _=_
 exact h▸aw ha b
noncomputable abbrev kT:Str:=qh
noncomputable abbrev kg:Str:=qd
noncomputable abbrev eg:Str:=qa
noncomputable abbrev fL:Str:=qc
noncomputable abbrev eP:Str:=qf
noncomputable abbrev be:Str:=qi
noncomputable abbrev fK:Str:=⟨#[111,112,101,110]⟩
noncomputable abbrev dW:Str:=⟨#[115,104,117,116]⟩
noncomputable abbrev bW:Str:=qB
noncomputable def dct(t:Int)(tx nu:V)(le:Bool)(s:Str):List (Str×V):=[(kT,.int t),(kg,tx),(eg,nu),(fL,.bool le),(eP,.str s)]
noncomputable def hdict(i:Nat):List (Str×V):=match i with
 |16=>dct 29 (.tup []) (.tup []) false fK
 |17=>dct 34 (.tup []) (.tup []) false fK
 |18=>dct 26 (.tup []) (.tup []) false fK
 |19=>dct 51 (.tup []) (.tup []) false dW
 |20=>dct 52 (.tup []) (.tup []) false bW
 |21=>dct 53 (.tup []) (.tup []) false bW
 |22=>dct 50 (.tup []) (.tup []) false bW
 |23=>dct 54 (.tup []) (.tup []) false bW
 |i=>let t:=tsB.getD i 0;dct t (cv (txC t)) (cv (nuC t)) (leC t) be
theorem xZ(g:G)(T:List Ob):∀i,i<24->(mk g T).ob (.ref (19+i))=some (.sdict (hdict i))
 |0,_|1,_|2,_|3,_|4,_|5,_|6,_|7,_|8,_|9,_|10,_|11,_|12,_|13,_|14,_|15,_|16,_|17,_|18,_|19,_|20,_|21,_|22,_|23,_=>by rfl
 |i+24,h=>by lia
theorem lJ{g:G}{T:List Ob}{i:Nat}(h:i<24):item (mk g T) (.ref 18) (.int (Int.ofNat i))=some (.ref (19+i)):=by
 show((List.range 24).map λi=>V.ref (19+i))[i]?=_
 simp only [List.getElem?_map,List.getElem?_range h];rfl
structure Gr(g g':G):Prop where
 le:Le g g'
 ex:∃Z,g'.ex=g.ex++Z
theorem Gr.refl(g:G):Gr g g:=⟨.refl g,[],(List.append_nil _).symm⟩
theorem Gr.trans{g g' g'':G}(x:Gr g g')(y:Gr g' g''):Gr g g'':=by
 obtain⟨Z,c⟩:=x.ex
 obtain⟨b,a⟩:=y.ex
 exact⟨x.le.trans y.le,Z++b,by simp only [a,c,List.append_assoc]⟩
theorem Gr.add(g:G)(Y:List (List V)):Gr g (ac g Y):=⟨.add g Y,[],(List.append_nil _).symm⟩
theorem Ex.gr{g g':G}(x:Ex g g'):Gr g g':=by
 refine⟨x.le,?_⟩
 refine x22 x λY o _ a=>?_
 subst a
 exact⟨[],(List.append_nil _).symm⟩
theorem Gr.of{g g':G}(h:g'.X=g.X)(e:g'.ex=g.ex):Gr g g':=⟨.of_eq h,[],by simp only [e,List.append_nil]⟩
theorem oh{g:G}{T:List Ob}{k:Nat}:(mk g T).ob (.ref (108+k))=g.ex[k]?:=by
 exact(congrArg (λi=>(obs g)[i]?) (Nat.add_comm 108 k)).trans rfl
def HD(g:G)(hv:V)(d:List (Str×V)):Prop:=∃i,hv=.ref i/\∀g' T,Gr g g'->(mk g' T).ob (.ref i)=some (.sdict d)
theorem jD{g:G}{i:Nat}(h:i<24):HD g (.ref (19+i)) (hdict i):=i12 _ rfl (λa T _=>xZ a T i h)
theorem zO{g:G}{d:List (Str×V)}:HD {g with ex:=g.ex++[.sdict d]} (.ref (108+g.ex.length)) d:=by
 refine i12 _ rfl (λb T x=>?_)
 refine x11 x.ex λZ a=>?_
 rw [oh,a]
 rw [List.append_assoc,List.getElem?_append_right (Nat.le_refl _),Nat.sub_self];rfl
theorem HD.gr{g g':G}{hv:V}{d:List (Str×V)}(h:HD g hv d)(x:Gr g g'):HD g' hv d:=x12 h λi b c=>i12 i b (λa T y=>c a T (x.trans y))
theorem HD.it{g:G}{hv v:V}{d:List (Str×V)}(h:HD g hv d){k:Str}(hk:sget d k=some v)(T:List Ob):item (mk g T) hv (.str k)=some v:=by
 refine x12 h λi a b=>?_
 subst a
 have:=b g T (.refl g)
 show((mk g T).ob (.ref i)).bind (yO (.str k))=_
 exact this▸hk
theorem HD.ev{g:G}{hv v:V}{d:List (Str×V)}(h:HD g hv d){k:Str}(hk:sget d k=some v){T:List Ob}{cf:Cf}{x:Nat}{ρ:List V}(hx:lget ρ x=hv):ev cf (.idx (.loc x) (.lit (.str k))) ρ (mk g T)=some (v,mk g T):=
 bo (aR hx (by obtain⟨i,rfl,_⟩:=h;exact nofun)) rfl (h.it hk T)
section
variable {b n:Nat}{g:G}{T:List Ob}
theorem lE{c d:Cell}(hc:∀k r,c=some (k,r)->k∈ksB/\(r=0\/r=1))(hd:∀k r,d=some (k,r)->k∈ksB/\(r=0\/r=1))(tg:Tg b g)(hb:b<10000):
  ∃v Y,(prog.cf (n+5)).call 68 [.ref 16,.lst [cv c,cv d]] (mk g [])=some (v,mk (ac g Y) [])/\JC (ac g Y) c d v/\Tg (b+1) (ac g Y):=by
 have a:∀v,exs (prog.cf (n+4)) fb.body (fr0 fb [.ref 16,.lst [cv c,cv d]]) (mk g [])=some (.ret (.tup []),v,mk g [])->JC g c d (.tup [])->
   ∃v Y,(prog.cf (n+5)).call 68 [.ref 16,.lst [cv c,cv d]] (mk g [])=some (v,mk (ac g Y) [])/\JC (ac g Y) c d v/\Tg (b+1) (ac g Y):=λv h j=>
  ⟨.tup [],[],by refine aC▸?_;exact ah rfl rfl h rfl,by refine aC▸?_;exact j,by simp only [aC];exact tg.up (Nat.le_succ _) hb⟩
 cases c with
 |none=>cases d with
  |none=>exact a _ rfl rfl
  |some y=>exact a _ rfl rfl
 |some x=>
  cases d with
  |none=>exact a _ rfl rfl
  |some y=>
   obtain⟨k,r⟩:=x
   obtain⟨l,q⟩:=y
   obtain⟨i,f⟩:=hc k r rfl
   refine x02 (hd l q rfl) λo hq=>?_
   refine x23 (uF (n:=n) tg hb i o) λu Y p e m=>?_
   refine i23 (.tup [.int u,.int (max r q)]) Y (ah (ρ':=[.ref 16,.lst [.tup [.int k,.int r],.tup [.int l,.int q]],.undef,.undef]) rfl rfl (aa (ρ':=[.ref 16,.lst [.tup [.int k,.int r],.tup [.int l,.int q]],.undef,.undef]) (s':=mk g []) rfl
    (af (ay (ci (ae (ai (l:=[.ref 1,.lst [.int k,.int l]]) rfl p) (ae ?_ rfl)) (cg rfl))))) rfl) ⟨u,e,rfl⟩ m
   rcases f with rfl|rfl<;>rcases hq with rfl|rfl<;>rfl
noncomputable def nD(tx nu:V)(le:Bool):Wk->V
 |.num=>gY nu tx le
 |.txt=>tx
 |.non=>.tup []
theorem ef{hv:V}{t:Int}{tx nu:V}{le:Bool}{s:Str}(h:HD g hv (dct t tx nu le s))(hs:seqb s fK=false)(c1:isC nu)(c0:isC tx)(w:Wk):(prog.cf (n+1)).call 70 [hv,.str w.s] (mk g T)=some (nD tx nu le w,mk g T):=by
 have m:hv≠ .undef:=by obtain⟨i,rfl,_⟩:=h;exact nofun
 have e:∀z,ev (prog.cf n) (.cmp .eq (.idx (.loc 0) (.lit (.str eP))) (.lit (.str fK))) [hv,.str w.s,z] (mk g T)=some (.bool false,mk g T):=λz=>aq (x:=.str s) (h.ev rfl rfl) rfl (by show some (seqb s fK)=_;exact(hs)▸rfl)
 cases w with
 |non=>
  refine ah (ρ':=[hv,.str Wk.non.s,.undef]) rfl rfl (af (ag (v:=.bool true) (aS (e _) rfl (aM ?_)) rfl (af (ay rfl)))) rfl
  rfl
 |txt=>
  exact ah (ρ':=[hv,.str Wk.txt.s,.undef]) rfl rfl (aa (ag (v:=.bool false) (aS (e _) rfl (aM (by rfl))) rfl rfl) (af (ag (v:=.bool true) rfl rfl (af (ay (h.ev rfl rfl)))))) c0.nt.1
 |num=>
  have f:∀z,ev (prog.cf n) (.lst .frozen (.cons (.idx (.loc 0) (.lit (.str eg))) (.cons (.idx (.loc 0) (.lit (.str kg))) .nil))) [hv,.str Wk.num.s,z] (mk g T)=some (.lst [nu,tx],mk g T):=λz=>by
   exact aw (ae (h.ev rfl rfl) (ae (h.ev rfl rfl) rfl)) rfl
  have l:∀z,ev (prog.cf n) (.idx (.loc 0) (.lit (.str fL))) [hv,.str Wk.num.s,z] (mk g T)=some (.bool le,mk g T):=λz=>h.ev rfl rfl
  have j:ex (prog.cf n) (.ite (.bop false (.cons (.cmp .eq (.idx (.loc 0) (.lit (.str eP))) (.lit (.str fK))) (.cons (.cmp .eq (.loc 1) (.lit (.str qr))) .nil))) (.cons (.ret (.tup .nil)) .nil) .nil) [hv,.str Wk.num.s,.undef] (mk g T)=some (.next,[hv,.str Wk.num.s,.undef],mk g T):=
   ag (v:=.bool false) (aS (e _) rfl (aM (by rfl))) rfl rfl
  have d:∀z,ev (prog.cf n) (.ite (.idx (.loc 0) (.lit (.str fL))) (.tup (.cons (.glb qn (.int 6)) (.cons (.lit (.int 1)) .nil))) (.tup .nil)) [hv,.str Wk.num.s,z] (mk g T)=some (if le then .tup [.int 6,.int 1] else .tup [],mk g T):=λz=>
   cx (l z) rfl (by cases le<;>rfl)
  have o:aV (nD tx nu le .num)=true:=(jB c1 c0).nt.1
  refine ah (ρ':=[hv,.str Wk.num.s,if emp nu then tx else nu]) rfl rfl (aa j (aa (ρ':=[hv,.str Wk.num.s,.undef]) (s':=mk g T) rfl ?_)) o
  refine(c1).elim (λb=>?_) (λc=>?_)
  ·subst b
   rcases c0 with rfl|⟨k,r,rfl,_⟩
   ·exact aa (ρ':=[hv,.str Wk.num.s,.tup []]) (s':=mk g T) (bI (f _) rfl (aT (ρ':=[hv,.str Wk.num.s,.tup []]) (s':=mk g T) rfl rfl (aT (ρ':=[hv,.str Wk.num.s,.tup []]) (s':=mk g T) rfl rfl rfl))) (af (ay (d _)))
   ·exact af (bI (f _) rfl (aT (ρ':=[hv,.str Wk.num.s,.tup []]) (s':=mk g T) rfl rfl (bZ rfl)))
  ·refine x22 c λk r a _=>?_
   subst a
   exact af (bI (f _) rfl (bZ rfl))
theorem kO{hv:V}{t:Int}{tx nu:V}{le:Bool}(h:HD g hv (dct t tx nu le fK))(w:Str):(prog.cf (n+1)).call 70 [hv,.str w] (mk g T)=some (.tup [],mk g T):=
 ah (ρ':=[hv,.str w,.undef]) rfl rfl (af (ag (bu (aq (x:=.str fK) (t:=true) (h.ev rfl rfl) rfl rfl) rfl) rfl (af (ay rfl)))) rfl
end
inductive HH(g:G)(hv:V):Prop where
 |plain {t:Int} {tx nu n1:V} {le:Bool} {k:Int} {q:List V} (h:HD g hv (dct t tx nu le be)) (c:TC g t n1 tx le) (e:gY n1 tx le=gY nu tx le) (n:isC nu) (r:aB g t (.int k::q)) (hk:k≠17)
 |open_ {t:Int} {q:List V} (h:HD g hv (dct t (.tup []) (.tup []) false fK)) (ht:t∈[29,34,26])
 |shut (h:HD g hv (dct 51 (.tup []) (.tup []) false dW))
 |narrow {t:Int} (h:HD g hv (dct t (.tup []) (.tup []) false bW)) (ht:t∈[52,53,50,54])
def HP(g:G)(hv:V):Prop:=∃t tx nu le,HD g hv (dct t tx nu le be)
noncomputable def hg(g:G)(i:Nat)(Y:List (List V))(Z:List Ob):G:={g with ix:=Int.ofNat i,X:=g.X++Y,ex:=g.ex++Z}
theorem mE{g:G}{i:Nat}:hg g i [] []=aI g i:=by unfold hg aI;rw [List.append_nil,List.append_nil]
theorem Gr.hg{g:G}{i:Nat}{Y:List (List V)}{Z:List Ob}:Gr g (hg g i Y Z):=⟨⟨Y,rfl⟩,Z,rfl⟩
theorem Tg.of{b:Nat}{g g':G}(h:Tg b g)(e:g'.X=g.X):Tg b g':=⟨by have:=h.nd;unfold G.rows at this ⊢;exact e▸this,by exact e▸h.len,h.lid⟩
theorem kB:∀i,i<16->hdict i=dct (tsB.getD i 0) (cv (txC (tsB.getD i 0))) (cv (nuC (tsB.getD i 0))) (leC (tsB.getD i 0)) be
 |0,_|1,_|2,_|3,_|4,_|5,_|6,_|7,_|8,_|9,_|10,_|11,_|12,_|13,_|14,_|15,_=>rfl
 |i+16,h=>by lia
theorem f6:∀i,i<16->tsB.getD i 0∈tsB
 |0,_|1,_|2,_|3,_|4,_|5,_|6,_|7,_|8,_|9,_|10,_|11,_|12,_|13,_|14,_|15,_=>by decide
 |i+16,h=>by lia
theorem l5{g:G}{t:Int}(h:t∈tsB):∃k q,aB g t (.int k::q)/\k≠17:=by
 simp only [List.mem_cons,List.not_mem_nil,or_false] at h
 rcases h with rfl|rfl|rfl|rfl|rfl|rfl|rfl|rfl|rfl|rfl|rfl|rfl|rfl|rfl|rfl|rfl
 ·exact i22 _ _ (aj rfl) (by decide)
 ·exact i22 _ _ (aj rfl) (by decide)
 ·exact i22 _ _ (aj rfl) (by decide)
 ·exact i22 _ _ (aj rfl) (by decide)
 ·exact i22 _ _ (aj rfl) (by decide)
 ·exact i22 _ _ (aj rfl) (by decide)
 ·exact i22 _ _ (aj rfl) (by decide)
 ·exact i22 _ _ (aj rfl) (by decide)
 ·exact i22 _ _ (aj rfl) (by decide)
 ·exact i22 _ _ (aj rfl) (by decide)
 ·exact i22 _ _ (aj rfl) (by decide)
 ·exact i22 _ _ (aj rfl) (by decide)
 ·exact i22 _ _ (aj rfl) (by decide)
 ·exact i22 _ _ (aj rfl) (by decide)
 ·exact i22 _ _ (aj rfl) (by decide)
 ·exact i22 _ _ (aj rfl) (by decide)
theorem x9{g:G}{i:Nat}(h:i<24):HH g (.ref (19+i))/\(i<16->HP g (.ref (19+i))):=by
 have a:=jD (g:=g) h
 by_cases h16:i<16
 ·replace a:=(kB i h16)▸a
  refine x22 (l5 (g:=g) (f6 i h16)) λk q c d=>?_
  exact⟨.plain a (lX (f6 i h16)) rfl (rk λk r h=>(qZ h).2) c d,λ_=>i41 _ _ _ _ a⟩
 ·refine⟨?_,λq=>absurd q h16⟩
  have b:=lt8 (P:=λk=>HD g (.ref (19+(16+k))) (hdict (16+k))->HH g (.ref (19+(16+k)))) (λa=>.open_ (q:=[]) a (by decide)) (λa=>.open_ (q:=[]) a (by decide)) (λa=>.open_ (q:=[]) a (by decide)) (λa=>.shut a)
   (λa=>.narrow a (by decide)) (λa=>.narrow a (by decide)) (λa=>.narrow a (by decide)) (λa=>.narrow a (by decide)) (i - 16) (by omega)
  replace b:=(show 16+(i - 16)=i by omega)▸b
  exact b a
theorem sA{g:G}{c:Cell}{v:V}(h:JC g c c v):v=cv c:=by
 cases c with
 |none=>exact h
 |some x=>
  refine x12 h λu a b=>?_
  have:col x.1 x.1=some x.1:=by unfold col;exact(if_pos rfl)▸rfl
  rcases a with a|⟨a,_⟩
  ·rw [this] at a;obtain rfl:=Option.some.inj a
   refine b▸?_;show _=V.tup [.int x.1,.int x.2]
   have:max x.2 x.2=x.2:=by lia
   rw [this]
  ·rw [this] at a;exact ns a
theorem xI{t:Int}{le:Bool}:gY (cv (nuC t)) (cv (txC t)) le=gY (cv (ccC t 1)) (cv (txC t)) le:=by
 show _=gY (cv ((nuC t).or (txC t))) (cv (txC t)) le
 cases nuC t with
 |none=>
  cases txC t with
  |none=>rfl
  |some x=>rfl
 |some x=>rfl
theorem x8{g:G}{hv v0 v1:V}{a c u:Int}(ha:a∈tsB)(hc:c∈tsB)(hu:Un g a c u)(h0:JC g (txC a) (txC c) v0)(h1:JC g (ccC a 1) (ccC c 1) v1)(hd:HD g hv (dct u v0 v1 (leC a&&leC c) be)):HH g hv:=by
 have m:=iN (λk r h=>(cy h).2) (λk r h=>(cy h).2) h1
 rcases hu with hu|⟨hn,f⟩
 ·unfold col at hu
  split at hu
  ·rename_i e
   refine cp λ_ s=>?_
   subst e
   obtain rfl:=Option.some.inj hu
   refine x22 (l5 (g:=g) ha) λk q f n=>?_
   have p:=sA h0
   have j:=sA h1
   subst p;subst j
   refine s ?_
   rw [Bool.and_self] at hd
   exact .plain hd (lX ha) xI m f n
  ·split at hu
   ·rename_i e
    obtain rfl:=Option.some.inj hu
    refine x22 (l5 (g:=g) (t:=6) (by decide)) λk q f n=>?_
    have i:(a=6\/a=16\/a=38)/\(c=6\/c=16\/c=38):=by
     exact(by decide:∀a∈tsB,∀c∈tsB,((a=6/\(c=16\/c=17\/c=38))\/(c=6/\(a=16\/a=17\/a=38)))->(a=6\/a=16\/a=38)/\(c=6\/c=16\/c=38)) a ha c hc e
    have l:∀x:Int,(x=6\/x=16\/x=38)->txC x=none/\ccC x 1=none/\leC x=true:=by
     rintro x (rfl|rfl|rfl)<;>decide
    refine x03 (l a i.1) λw A y=>?_
    refine x03 (l c i.2) λC B v=>?_
    simp only [w] at h0
    simp only [A] at h1
    obtain rfl:v0=.tup []:=h0
    obtain rfl:v1=.tup []:=h1
    replace hd:=v▸y▸hd
    exact .plain hd (lX (by decide)) rfl m f n
   ·exact nn hu
 ·have z:(mn a c=a/\mx a c=c)\/(mn a c=c/\mx a c=a):=by
   unfold mn mx
   split
   ·exact .inl ⟨rfl,rfl⟩
   ·exact .inr ⟨rfl,rfl⟩
  refine(z).elim (λb=>?_) (λd=>?_)
  ·refine x02 b λj o=>?_
   rw [j,o] at f
   exact .plain hd (nM ha hc f h0 h1) rfl m f (by decide)
  ·refine x02 d λj o=>?_
   rw [j,o] at f
   rw [Bool.and_comm] at hd
   exact .plain hd (nM hc ha f (JC.comm h0) h1.comm) rfl m f (by decide)
section
variable {b n:Nat}{g:G}{T:List Ob}{l:List Int}
theorem sj{g:G}:(obs g).length=g.ex.length+108:=rfl
theorem Gr.ix{g:G}{i:Nat}:Gr g (aI g i):=.of rfl rfl
theorem r7{cf:Cf}{ρ:List V}{hv:V}{t:Int}{le:Bool}(h:HD g hv (dct t (cv (txC t)) (cv (nuC t)) le be))(hx:lget ρ 6=hv):
  ev cf (.ite (.cmp .eq (.idx (.loc 6) (.lit (.str eg))) (.tup .nil)) (.idx (.loc 6) (.lit (.str kg))) (.idx (.loc 6) (.lit (.str eg)))) ρ (mk g [])=some (cv (ccC t 1),mk g []):=by
 have a:ev cf (.idx (.loc 6) (.lit (.str eg))) ρ (mk g [])=some (cv (nuC t),mk g []):=h.ev rfl hx
 have b:ev cf (.idx (.loc 6) (.lit (.str kg))) ρ (mk g [])=some (cv (txC t),mk g []):=h.ev rfl hx
 show _=some (cv ((nuC t).or (txC t)),_)
 cases hn:nuC t with
 |none=>
  replace a:=hn▸a
  exact cx (aq a rfl rfl) rfl b
 |some x=>
  rw [hn] at a
  exact cx (aq a rfl rfl) rfl a
noncomputable def si:Es:=match dH.body with
 |.cons _ (.cons _ (.cons _ (.cons _ (.cons (.ret (.dict _ _ k)) _))))=>k
 |_=>.nil
theorem xE{hv1 hv2 r1 r2 r3:V}{a c:Int}(ha:a∈tsB)(hc:c∈tsB)(h1:HD g hv1 (dct a (cv (txC a)) (cv (nuC a)) (leC a) be))(h2:HD g hv2 (dct c (cv (txC c)) (cv (nuC c)) (leC c) be))(tg:Tg b g)(hb:b+3<=10000):
  ∃u v0 v1 Y,evs (prog.cf (n+6)) si [.ref 16,r1,r2,hv1,.lst [hv1,hv2],.lst [cv (ccC a 1),cv (ccC c 1)],.undef,.undef,.undef] (mk g [])=
    some ([.str kT,.int u,.str kg,v0,.str eg,v1,.str fL,.bool (leC a&&leC c),.str eP,.str be],mk (ac g Y) [])/\
   Un (ac g Y) a c u/\JC (ac g Y) (txC a) (txC c) v0/\JC (ac g Y) (ccC a 1) (ccC c 1) v1/\Tg (b+3) (ac g Y):=by
 have W:hv1≠ .undef:=by obtain⟨i,rfl,_⟩:=h1;exact nofun
 have U:hv2≠ .undef:=by obtain⟨i,rfl,_⟩:=h2;exact nofun
 refine cp λ_ p=>?_
 refine x23 (uD (n:=n+2) tg (by lia) ha hc) λu e T O P=>?_
 refine p ?_
 refine cp λ_ p=>?_
 refine x23 (lE (n:=n+1) (c:=txC a) (d:=txC c) (λk r h=>gF h) (λk r h=>gF h) P (nlt ‹_›)) λv0 m D I F=>?_
 refine p ?_
 rw [cH] at D I F
 refine cp λ_ p=>?_
 refine x23 (lE (n:=n+1) (c:=ccC a 1) (d:=ccC c 1) (λk r h=>cy h) (λk r h=>cy h) F ‹_›) λv1 j H z C=>?_
 refine p ?_
 rw [cH] at H z C
 have M:Gr g (ac g e):=.add g _
 have J:Le (ac g e) (ac g (e++m++j)):=⟨m++j,by show g.X++(e++m++j)=g.X++e++(m++j);simp only [List.append_assoc]⟩
 have K:Le (ac g (e++m)) (ac g (e++m++j)):=⟨j,by show g.X++(e++m++j)=g.X++(e++m)++j;simp only [List.append_assoc]⟩
 have it:∀ (x:Nat) (o:x=7\/x=8) (k:Str) (s v:V) (f:G),Gr g f->sget (dct a (cv (txC a)) (cv (nuC a)) (leC a) be) k=some s->sget (dct c (cv (txC c)) (cv (nuC c)) (leC c) be) k=some v->
   ev (prog.cf (n+6)) (.comp .frozen (.idx (.loc x) (.lit (.str k))) x (.loc 4)) [.ref 16,r1,r2,hv1,.lst [hv1,hv2],.lst [cv (ccC a 1),cv (ccC c 1)],.undef,.undef,.undef] (mk f [])=some (.lst [s,v],mk f []):=by
  intro x o k s v f y Q N
  refine dd rfl rfl (bJ ((h1.gr y).ev Q ?_) rfl (bJ ((h2.gr y).ev N ?_) rfl rfl))
  ·rcases o with rfl|rfl<;>rfl
  ·rcases o with rfl|rfl<;>rfl
 have A:∀ (i:Int) (w:V) (t:Int) (f:G),Gr g f->item (mk f []) (.lst [hv1,hv2]) (.int i)=some w->HD g w (dct t (cv (txC t)) (cv (nuC t)) (leC t) be)->ev (prog.cf (n+6)) (.idx (.idx (.loc 4) (.lit (.int i))) (.lit (.str fL))) [.ref 16,r1,r2,hv1,.lst [hv1,hv2],.lst [cv (ccC a 1),cv (ccC c 1)],.undef,.undef,.undef] (mk f [])=some (.bool (leC t),mk f []):=
  λi w t f y L h=>bo (bo rfl rfl L) rfl ((h.gr y).it rfl [])
 have B:Gr g (ac g (e++m++j)):=.add g _
 refine i45 u v0 v1 (e++m++j) ?_ (O.le J) (I.le K) z C
 refine ae rfl (ae (ai (l:=[.ref 1,.lst [.int a,.int c]]) (ae rfl (ae (it 8 (.inr rfl) kT _ _ g (.refl g) rfl rfl) rfl)) T)
  (ae rfl (ae (ai (l:=[.ref 16,.lst [cv (txC a),cv (txC c)]]) (ae rfl (ae (it 7 (.inl rfl) kg _ _ _ M rfl rfl) rfl)) D)
  (ae rfl (ae (ai (l:=[.ref 16,.lst [cv (ccC a 1),cv (ccC c 1)]]) rfl H)
  (ae rfl (ae ?_ rfl)))))))
 have q:=A 0 hv1 a _ B rfl h1
 have R:=A 1 hv2 c _ B rfl h2
 cases hl:leC a with
 |true=>rw [hl] at q;exact aS q rfl (aM R)
 |false=>rw [hl] at q;exact bu q rfl
theorem lI(hl:Nm l){i:Nat}{pl:Bool}(hi:g.ix=Int.ofNat i)(hib:i+3<=10000)(tg:Tg b g)(hb:b+3<=10000):
  ∃hv i' Y Z,(prog.cf (n+7)).call 69 [.ref 16,clo l,.bool pl] (mk g [])=some (hv,mk (hg g i' Y Z) [])/\i<=i'/\i'<=i+3/\HH (hg g i' Y Z) hv/\(pl=true->HP (hg g i' Y Z) hv)/\Tg (b+3) (hg g i' Y Z):=by
 refine x12 (bx hl (j:=n+5) (x:=1) (k:=if pl then 16 else 24) (a:=.ite (.loc 2) (.lit (.int 16)) (.lit (.int 24))) (ρ:=fr0 dH [.ref 16,clo l,.bool pl]) (T:=[]) hi (xL ‹_›) (by cases pl<;>decide) rfl (by cases pl<;>rfl)) λr1 o e1=>?_
 have e:r1<24:=by cases pl<;>simp at o<;>omega
 have F:pl=true->r1<16:=λh=>by rw [h] at o;exact o
 have L:ex (prog.cf (n+6)) (.asg 3 (.idx (.idx (.loc 0) (.lit (.str qF))) (.lcall 1 (.ite (.loc 2) (.lit (.int 16)) (.lit (.int 24)))))) (fr0 dH [.ref 16,clo l,.bool pl]) (mk g [])=
   some (.next,[.ref 16,clo l,.bool pl,.ref (19+r1),.undef,.undef,.undef,.undef,.undef],mk (aI g (i+1)) []):=ak (bo (x:=.ref 18) rfl e1 (lJ e))
 refine x12 (bx hl (j:=n+5) (x:=1) (a:=.lit (.int 4)) (g:=aI g (i+1)) (ρ:=[.ref 16,clo l,.bool pl,.ref (19+r1),.undef,.undef,.undef,.undef,.undef]) (T:=[]) rfl (nle ‹_›) (by decide) rfl rfl) λr2 U e2=>?_
 have C:Tg (b+3) (aI g (i+2)):=(Tg.of (g':=aI g (i+2)) tg rfl).up (Nat.le_add_right _ _) hb
 have f:ev (prog.cf (n+6)) (.cmp .lt (.lcall 1 (.lit (.int 4))) (.lit (.int 3))) [.ref 16,clo l,.bool pl,.ref (19+r1),.undef,.undef,.undef,.undef,.undef] (mk (aI g (i+1)) [])=some (.bool (decide (Int.ofNat r2<3)),mk (aI g (i+2)) []):=
  aq e2 rfl rfl
 have c:∀ (w:E),ex (prog.cf (n+6)) (.ite (.bop false (.cons (.cmp .lt (.lcall 1 (.lit (.int 4))) (.lit (.int 3))) (.cons w .nil))) (.cons (.ret (.loc 3)) .nil) .nil) [.ref 16,clo l,.bool pl,.ref (19+r1),.undef,.undef,.undef,.undef,.undef] (mk (aI g (i+1)) [])=
   some (.ret (.ref (19+r1)),[.ref 16,clo l,.bool pl,.ref (19+r1),.undef,.undef,.undef,.undef,.undef],mk (aI g (i+2)) [])->
   w=.cmp .ne (.idx (.loc 3) (.lit (.str eP))) (.lit (.str be))->
   ∃hv i' Y Z,(prog.cf (n+7)).call 69 [.ref 16,clo l,.bool pl] (mk g [])=some (hv,mk (hg g i' Y Z) [])/\i<=i'/\i'<=i+3/\HH (hg g i' Y Z) hv/\(pl=true->HP (hg g i' Y Z) hv)/\Tg (b+3) (hg g i' Y Z):=by
  rintro w h rfl
  have O:=x9 (g:=aI g (i+2)) e
  exact i46 (.ref (19+r1)) (i+2) [] [] (by exact mE▸ah rfl rfl (aa L (af h)) rfl) (Nat.le_add_right _ _) (Nat.add_le_add_left (by decide) _) (by exact mE▸O.1) (mE▸λq=>O.2 (F q)) (by exact mE▸C)
 by_cases q2:r2<3
 ·refine c _ (ag (bu (by replace f:=(decide_eq_true (by show(r2:Int)<3;omega))▸f;exact f) rfl) rfl rfl) rfl
 ·replace f:=(decide_eq_false (by show ¬(r2:Int)<3;omega))▸f
  by_cases h16:r1<16
  ·
   have y:HD g (.ref (19+r1)) (dct (tsB.getD r1 0) (cv (txC (tsB.getD r1 0))) (cv (nuC (tsB.getD r1 0))) (leC (tsB.getD r1 0)) be):=kB r1 h16▸jD e
   have s2:ex (prog.cf (n+6)) (.ite (.bop false (.cons (.cmp .lt (.lcall 1 (.lit (.int 4))) (.lit (.int 3))) (.cons (.cmp .ne (.idx (.loc 3) (.lit (.str eP))) (.lit (.str be))) .nil))) (.cons (.ret (.loc 3)) .nil) .nil) [.ref 16,clo l,.bool pl,.ref (19+r1),.undef,.undef,.undef,.undef,.undef] (mk (aI g (i+1)) [])=
     some (.next,[.ref 16,clo l,.bool pl,.ref (19+r1),.undef,.undef,.undef,.undef,.undef],mk (aI g (i+2)) []):=
    ag (v:=.bool false) (aS f rfl (aM (aq (x:=.str be) ((y.gr .ix).ev rfl rfl) rfl rfl))) rfl rfl
   refine cp λ_ z=>?_
   refine x12 (bx hl (j:=n+5) (x:=1) (k:=16) (a:=.lit (.int 16)) (g:=aI g (i+2)) (ρ:=[.ref 16,clo l,.bool pl,.ref (19+r1),.undef,.undef,.undef,.undef,.undef]) (T:=[]) rfl (nle ‹_›) (by decide) rfl rfl) λr3 m e3=>?_
   refine z ?_
   have N:HD g (.ref (19+r3)) (dct (tsB.getD r3 0) (cv (txC (tsB.getD r3 0))) (cv (nuC (tsB.getD r3 0))) (leC (tsB.getD r3 0)) be):=kB r3 m▸jD (by omega)
   have A:Gr g (aI g (i+3)):=.ix
   refine cp λ_ z=>?_
   refine x45 (xE (n:=n) (r1:=.clo (.lst (l.map .int)) (.ref 0)) (r2:=.bool pl) (r3:=.none) (f6 r1 h16) (f6 r3 m) (y.gr A) (N.gr A) (tg.of (g':=aI g (i+3)) rfl) hb) λu p v1 Y p1 p2 Q M p5=>?_
   refine z ?_
   have R:ex (prog.cf (n+6)) (.asg 4 (.lst .frozen (.cons (.loc 3) (.cons (.idx (.idx (.loc 0) (.lit (.str qF))) (.lcall 1 (.lit (.int 16)))) .nil)))) [.ref 16,clo l,.bool pl,.ref (19+r1),.undef,.undef,.undef,.undef,.undef] (mk (aI g (i+2)) [])=
     some (.next,[.ref 16,clo l,.bool pl,.ref (19+r1),.lst [.ref (19+r1),.ref (19+r3)],.undef,.undef,.undef,.undef],mk (aI g (i+3)) []):=by
    refine ak ?_
    exact aw (ae (v:=.ref (19+r1)) rfl (ae (bo (x:=.ref 18) rfl e3 (lJ (by omega))) rfl)) rfl
   have W:ex (prog.cf (n+6)) (.asg 5 (.comp .frozen (.ite (.cmp .eq (.idx (.loc 6) (.lit (.str eg))) (.tup .nil)) (.idx (.loc 6) (.lit (.str kg))) (.idx (.loc 6) (.lit (.str eg)))) 6 (.loc 4))) [.ref 16,clo l,.bool pl,.ref (19+r1),.lst [.ref (19+r1),.ref (19+r3)],.undef,.undef,.undef,.undef] (mk (aI g (i+3)) [])=
     some (.next,[.ref 16,clo l,.bool pl,.ref (19+r1),.lst [.ref (19+r1),.ref (19+r3)],.lst [cv (ccC (tsB.getD r1 0) 1),cv (ccC (tsB.getD r3 0) 1)],.undef,.undef,.undef],mk (aI g (i+3)) []):=
    ak (dd rfl rfl (bJ (r7 (y.gr A) rfl) rfl (bJ (r7 (N.gr A) rfl) rfl rfl)))
   have D:aV p=true:=(iN (λk r h=>(gF h).2) (λk r h=>(gF h).2) Q).nt.1
   have H:aV v1=true:=(iN (λk r h=>(cy h).2) (λk r h=>(cy h).2) M).nt.1
   have s5:ev (prog.cf (n+6)) (.dict .str true si) [.ref 16,clo l,.bool pl,.ref (19+r1),.lst [.ref (19+r1),.ref (19+r3)],.lst [cv (ccC (tsB.getD r1 0) 1),cv (ccC (tsB.getD r3 0) 1)],.undef,.undef,.undef] (mk (aI g (i+3)) [])=
     some (.ref (108+g.ex.length),mk (hg g (i+3) Y [.sdict (dct u p v1 (leC (tsB.getD r1 0)&&leC (tsB.getD r3 0)) be)]) []):=by
    refine aw p1 ?_
    show(if(true&& (aV p&& (aV v1&& (true&& (true&&true))))&&decide (5<=lim))=true then some (V.ref (obs (ac (aI g (i+3)) Y)).length,(⟨obs (ac (aI g (i+3)) Y)++[.sdict (dct u p v1 (leC (tsB.getD r1 0)&&leC (tsB.getD r3 0)) be)],[]⟩:S)) else none)=_
    rw [D,H,if_pos (by decide)]
    have:(obs (ac (aI g (i+3)) Y)).length=108+g.ex.length:=by rw [sj];exact Nat.add_comm _ _
    rw [this];rfl
   have K:=zO (g:=ac (aI g (i+3)) Y) (d:=dct u p v1 (leC (tsB.getD r1 0)&&leC (tsB.getD r3 0)) be)
   have I:Le (ac (aI g (i+3)) Y) (hg g (i+3) Y [.sdict (dct u p v1 (leC (tsB.getD r1 0)&&leC (tsB.getD r3 0)) be)]):=.of_eq rfl
   refine i46 (.ref (108+g.ex.length)) (i+3) Y _ (ah rfl rfl (aa L (aa s2 (aa R (aa W (af (ay s5)))))) rfl) (Nat.le_add_right _ _) (Nat.add_le_add_left (by decide) _) (x8 (f6 r1 h16) (f6 r3 m) (p2.le I) (Q.le I) (M.le I) K) (λ_=>i41 _ _ _ _ K) (p5.of rfl)
  ·
   have B:∃t s,hdict r1=dct t (.tup []) (.tup []) false s/\seqb s be=false:=by
    have J:=lt8 (P:=λk=>∃t s,hdict (16+k)=dct t (.tup []) (.tup []) false s/\seqb s be=false) ⟨_,_,rfl,by decide⟩ ⟨_,_,rfl,by decide⟩ ⟨_,_,rfl,by decide⟩ ⟨_,_,rfl,by decide⟩ ⟨_,_,rfl,by decide⟩ ⟨_,_,rfl,by decide⟩ ⟨_,_,rfl,by decide⟩ ⟨_,_,rfl,by decide⟩ (r1 - 16) (by omega)
    rwa [show 16+(r1 - 16)=r1 by omega] at J
   refine cp λ_ z=>?_
   refine x22 B λt s B X=>?_
   refine z ?_
   have y:HD (aI g (i+2)) (.ref (19+r1)) (dct t (.tup []) (.tup []) false s):=B▸jD e
   exact c _ (ag (v:=.bool true) (aS f rfl (aM (aq (x:=.str s) (y.ev rfl rfl) rfl (by show(some (seqb s be)).map (!·)=_;rw [X];rfl)))) rfl rfl) rfl
end
structure Dg where
 n:Int
 a:Int
 ss:List Str
noncomputable def seqs:List Str->List Str->Bool
 |[],[]=>true
 |a::r,b::q=>seqb a b&&seqs r q
 |_,_=>false
noncomputable def same(e d:Dg):Bool:=(e.n==d.n)&& ((e.a==d.a)&&seqs e.ss d.ss)
noncomputable def Dg.av(d:Dg):V:=.tup (d.ss.map .str)
noncomputable def Dg.tv(d:Dg):V:=.tup [.int d.n,.int d.a,d.av]
noncomputable def Dg.ob(d:Dg):Ob:=.inst 2 [(43,.int d.n),(23,.int d.a),(44,d.av),(24,.str qv)]
noncomputable def gP(ds:List Dg)(d:Dg):List Dg:=if ds.any (same · d) then ds else ds++[d]
theorem d8{ds:List Dg}{d:Dg}:(gP ds d).length<=ds.length+1:=by
 unfold gP
 split
 ·exact Nat.le_succ _
 ·simp only [List.length_append];exact Nat.le_refl _
theorem cD:∀ {l:List Str},plains (l.map V.str)=true:=by
 intro a
 induction a with
 |nil=>
  exact rfl
 |cons _ r cD=>
  exact cD
theorem iC{n:Nat}:∀ {l m:List Str},veqs (veq n) (l.map V.str) (m.map V.str)=some (seqs l m)
 |[],[]=>rfl
 |[],_::_=>rfl
 |_::_,[]=>rfl
 |a::r,b::q=>by
  have h:=iC (n:=n) (l:=r) (m:=q)
  show(match veq n (.str a) (.str b),veqs (veq n) (r.map V.str) (q.map V.str) with|some x,some y=>some (x&&y)|_,_=>none)=_
  refine h▸?_
  cases n<;>rfl
theorem wW{e d:Dg}:gu e.av d.av=some (seqs e.ss d.ss):=by
 unfold gu
 have:∀x:Dg,plain x.av=true:=λx=>cD
 rw [this,this]
 exact iC
theorem rX{e d:Dg}:gu e.tv d.tv=some (same e d):=by
 unfold gu
 have:∀x:Dg,plain x.tv=true:=λx=>by show(true&& (true&& (plains (x.ss.map V.str)&&true)))=true;rw [cD];rfl
 rw [this,this]
 show(match some (e.n==d.n),(match some (e.a==d.a),(match veqs (veq 6) (e.ss.map V.str) (d.ss.map V.str),some true with|some x,some y=>some (x&&y)|_,_=>none) with|some x,some y=>some (x&&y)|_,_=>none) with|some x,some y=>some (x&&y)|_,_=>none)=_
 simp only [iC]
 rw [Bool.and_true];rfl
theorem wi{d:Dg}:∀ {ds:List Dg},inl d.tv (ds.map Dg.tv)=some (ds.any (same · d))
 |[]=>rfl
 |e::r=>by
  show(match gu e.tv d.tv,inl d.tv (r.map Dg.tv) with|some a,some b=>some (a||b)|_,_=>none)=_
  simp only [rX,wi (ds:=r)];rfl
theorem lm:∀ {l:List Str},seqs l l=true
 |[]=>rfl
 |a::r=>by
  show(seqb a a&&seqs r r)=true
  rw [aH.mpr rfl,lm (l:=r)];rfl
theorem yL{d:Dg}:aV d.av=true:=fI
theorem yK{d:Dg}:aV d.tv=true:=by show(true&& (true&& (aV d.av&&true)))=true;rw [yL];rfl
inductive dq(g:G):List Nat->List Dg->Prop where
 |nil:dq g [] []
 |cons {k:Nat} {d:Dg} {rs:List Nat} {ds:List Dg} (h:g.ex[k]?=some d.ob) (t:dq g rs ds):dq g ((108+k)::rs) (d::ds)
theorem dq.gr{g g':G}(x:∃Z,g'.ex=g.ex++Z):∀ {rs:List Nat} {ds:List Dg},dq g rs ds->dq g' rs ds
 |_,_,.nil=>.nil
 |_,_,.cons h t=>.cons (by
   obtain⟨Z,a⟩:=x
   refine a▸(List.getElem?_append_left (List.getElem?_eq_some_iff.mp h).1)▸?_;exact h) (t.gr x)
theorem dq.snoc{g:G}{k:Nat}{d:Dg}(h:g.ex[k]?=some d.ob):∀ {rs:List Nat} {ds:List Dg},dq g rs ds->dq g (rs++[108+k]) (ds++[d])
 |_,_,.nil=>.cons h .nil
 |_,_,.cons h' t=>.cons h' (t.snoc h)
def CI(g:G)(ds:List Dg):Prop:=∃rs,g.dg=rs.map V.ref/\dq g rs ds
def LI(g:G)(ds:List Dg):Prop:=g.told=ds.map Dg.tv
theorem dq.len{g:G}:∀ {rs:List Nat} {ds:List Dg},dq g rs ds->rs.length=ds.length
 |_,_,.nil=>rfl
 |_,_,.cons _ t=>by simp [t.len]
section
variable {b n:Nat}{g:G}{T:List Ob}
noncomputable def jN(g:G)(l:List V):G:={g with told:=l}
theorem ot{d:Dg}{ds:List Dg}(h:LI g ds)(hz:ds.length<10000):(prog.cf (n+1)).call 71 [.ref 16,.int d.n,.int d.a,d.av] (mk g T)=some (.int 13,mk (jN g ((gP ds d).map Dg.tv)) T):=by
 have b:isin (mk g T) d.tv (.ref 14)=some (ds.any (same · d)):=by
  show inl d.tv g.told=_
  exact h▸wi
 unfold gP
 cases hc:ds.any (same · d) with
 |true=>
  rw [hc] at b
  have:jN g (ds.map Dg.tv)=g:=by unfold jN;exact(h)▸rfl
  rw [if_pos rfl,this]
  refine ah (ρ':=[.ref 16,.int d.n,.int d.a,d.av]) rfl rfl (aa (ag (v:=.bool false) (aq (x:=d.tv) (y:=.ref 14) rfl rfl ?_) rfl rfl) (af (ay rfl))) rfl
  show(isin (mk g T) d.tv (.ref 14)).map (!·)=_
  refine b▸?_;rfl
 |false=>
  replace b:=hc▸b
  rw [if_neg (by decide),List.map_append]
  refine ah (ρ':=[.ref 16,.int d.n,.int d.a,d.av]) rfl rfl (aa (ag (v:=.bool true) (aq (x:=d.tv) (y:=.ref 14) rfl rfl ?_) rfl
   (aa (bc (v:=.none) (s1:=mk (jN g (ds.map Dg.tv++[d.tv])) T) ?_ rfl) rfl)) (af (ay rfl))) rfl
  ·show(isin (mk g T) d.tv (.ref 14)).map (!·)=_
   refine b▸?_;rfl
  ·show(if bkind (mk g T) (.ref 14)=bkind (mk g T) (.ref 14) then bm1 (mk g T) .append (.ref 14) [d.tv] else none)=_
   show(if aV d.tv=true then(if g.told.length<lim then some (V.none,mk (jN g (g.told++[d.tv])) T) else none) else none)=_
   rw [if_pos yK,h,List.length_map,if_pos (by have:lim=1048576:=rfl;lia)]
theorem uT{P:List Ob}{x y:Ob}:(P++[x]).set P.length y=P++[y]:=by
 rw [List.set_append_right _ _ (Nat.le_refl _),Nat.sub_self];rfl
noncomputable def iW(g:G)(E:List Ob):G:={g with ex:=E}
theorem vw{E:List Ob}{x:Ob}:obs (iW g (E++[x]))=obs (iW g E)++[x]:=rfl
theorem l0{E:List Ob}{fs:List (Nat×V)}{nm:Nat}{v:V}(ho:prog.own 2 nm=true)(hf:fs.length<900)(hv:aV v=true):
  setAttr prog.own (mk (iW g (E++[.inst 2 fs])) T) (.ref (108+E.length)) nm v=some (mk (iW g (E++[.inst 2 (nput fs nm v)])) T):=by
 have b:(mk (iW g (E++[.inst 2 fs])) T).ob (.ref (108+E.length))=some (.inst 2 fs):=by
  rw [oh]
  show(E++[Ob.inst 2 fs])[E.length]?=_
  rw [List.getElem?_append_right (Nat.le_refl _),Nat.sub_self];rfl
 unfold setAttr
 rw [if_pos hv,b]
 show(if(prog.own 2 nm&&decide (fs.length<900))=true then some (⟨(obs (iW g (E++[.inst 2 fs]))).set (108+E.length) (.inst 2 (nput fs nm v)),T⟩:S) else none)=_
 simp only [ho,decide_eq_true hf,vw]
 have a:108+E.length=(obs (iW g E)).length:=Nat.add_comm _ _
 rw [a,uT];rfl
theorem ud{d:Dg}:(prog.cf (n+1)).call 45 [.ref (108+g.ex.length),.int d.n,.int d.a,d.av,.str qv] (mk (iW g (g.ex++[.inst 2 []])) T)=some (.none,mk (iW g (g.ex++[d.ob])) T):=by
 have b:∀c e x v,prog.own 2 e=true->c.length<900->aV v=true->lget [.ref (108+g.ex.length),.int d.n,.int d.a,d.av,.str qv] x=v->v≠ .undef->
   ex (prog.cf n) (.setattr (.loc 0) e (.loc x)) [.ref (108+g.ex.length),.int d.n,.int d.a,d.av,.str qv] (mk (iW g (g.ex++[.inst 2 c])) T)=some (.next,[.ref (108+g.ex.length),.int d.n,.int d.a,d.av,.str qv],mk (iW g (g.ex++[.inst 2 (nput c e v)])) T):=λc e x v k f j h i=>
  aw (aR h i) (aw rfl (bh (l0 k f j) rfl))
 exact fe rfl rfl (aa (b [] 43 1 _ rfl (by decide) rfl rfl nofun) (aa (b _ 23 2 _ rfl (by show 1<900;decide) rfl rfl nofun) (aa (b _ 44 3 _ rfl (by show 2<900;decide) yL rfl nofun) (aa (b _ 24 4 _ rfl (by show 3<900;decide) rfl rfl nofun) rfl))))
noncomputable def ii(g:G)(d:Dg):G:={g with dg:=g.dg++[.ref (108+g.ex.length)],ex:=g.ex++[d.ob]}
theorem uc{d:Dg}(hz:g.dg.length<10000):(prog.cf (n+2)).call 48 [.ref 44,.int d.n,.int d.a,d.av] (mk g T)=some (.none,mk (ii g d) T):=by
 have c:ev (prog.cf (n+1)) (.new 2 (.cons (.loc 1) (.cons (.loc 2) (.cons (.loc 3) (.cons (.attr (.loc 0) 24) .nil))))) [.ref 44,.int d.n,.int d.a,d.av] (mk g T)=some (.ref (108+g.ex.length),mk (iW g (g.ex++[d.ob])) T):=by
  have f:evs (prog.cf (n+1)) (.cons (.loc 1) (.cons (.loc 2) (.cons (.loc 3) (.cons (.attr (.loc 0) 24) .nil)))) [.ref 44,.int d.n,.int d.a,d.av] (mk g T)=some ([.int d.n,.int d.a,d.av,.str qv],mk g T):=rfl
  have b:(mk g T).perm.length=108+g.ex.length:=by show(obs g).length=_;exact sj▸Nat.add_comm _ _
  refine aw f (aw (a:=.none) (s:=mk (iW g (g.ex++[d.ob])) T) ?_ ?_)
  ·exact b▸ud
  ·refine b▸?_;rfl
 refine fe rfl rfl (aa (bc (v:=.none) ?_ rfl) rfl)
 have e:ev (prog.cf (n+1)) (.attr (.loc 0) 0) [.ref 44,.int d.n,.int d.a,d.av] (mk g T)=some (.ref 45,mk g T):=rfl
 refine ww e (ae c rfl) rfl ?_
 show(if true=true then(if g.dg.length<lim then some (V.none,mk (ii g d) T) else none) else none)=_
 rw [if_pos rfl,if_pos (by have:lim=1048576:=rfl;lia)]
theorem lj{d:Dg}{all:List V}(hd:g.dg=all):∀ {rs:List Nat} {ds:List Dg} {z:V},dq g rs ds->
  ∃z',exF (exs (prog.cf n) (match io.body with|.cons (.for_ _ _ b) _=>b|_=>.nil)) 4 (.ref 45) all (rs.map V.ref) [.ref 48,.int d.n,.int d.a,d.av,z] (mk g [])=
   some (if ds.any (same · d) then .ret .none else .next,[.ref 48,.int d.n,.int d.a,d.av,z'],mk g [])
 |_,_,z,.nil=>⟨z,rfl⟩
 |_,_,z,.cons (k:=k) (d:=e) (rs:=rs) (ds:=ds) h t=>by
  have r:(mk g []).ob (.ref (108+k))=some e.ob:=by rw [oh];exact h
  have at_:∀m v,prog.own 2 m=true->nget [(43,V.int e.n),(23,.int e.a),(44,e.av),(24,.str qv)] m=some v->ev (prog.cf n) (.attr (.loc 4) m) [.ref 48,.int d.n,.int d.a,d.av,.ref (108+k)] (mk g [])=some (v,mk g []):=λm v l i=>by
   have q:ev (prog.cf n) (.loc 4) [.ref 48,.int d.n,.int d.a,d.av,.ref (108+k)] (mk g [])=some (.ref (108+k),mk g []):=rfl
   exact ei q ((cX r l).trans i)
  have c:ev (prog.cf n) (.cmp .eq (.attr (.loc 4) 43) (.loc 1)) [.ref 48,.int d.n,.int d.a,d.av,.ref (108+k)] (mk g [])=some (.bool (e.n==d.n),mk g []):=aq (x:=.int e.n) (at_ 43 _ rfl rfl) rfl rfl
  have j:ev (prog.cf n) (.cmp .eq (.attr (.loc 4) 23) (.loc 2)) [.ref 48,.int d.n,.int d.a,d.av,.ref (108+k)] (mk g [])=some (.bool (e.a==d.a),mk g []):=aq (x:=.int e.a) (at_ 23 _ rfl rfl) rfl rfl
  have s:ev (prog.cf n) (.cmp .eq (.attr (.loc 4) 44) (.loc 3)) [.ref 48,.int d.n,.int d.a,d.av,.ref (108+k)] (mk g [])=some (.bool (seqs e.ss d.ss),mk g []):=aq (x:=e.av) (at_ 44 _ rfl rfl) rfl wW
  have f:evB (prog.cf n) (.cons (.cmp .eq (.attr (.loc 4) 43) (.loc 1)) (.cons (.cmp .eq (.attr (.loc 4) 23) (.loc 2)) (.cons (.cmp .eq (.attr (.loc 4) 44) (.loc 3)) .nil))) [.ref 48,.int d.n,.int d.a,d.av,.ref (108+k)] true (mk g [])=some (.bool (same e d),mk g []):=by
   unfold same
   cases l:(e.n==d.n) with
   |false=>replace c:=l▸c;exact bu c rfl
   |true=>
    replace c:=l▸c
    cases i:(e.a==d.a) with
    |false=>rw [i] at j;exact aS c rfl (bu j rfl)
    |true=>rw [i] at j;exact aS c rfl (aS j rfl (aM s))
  have o:bX (mk g []) (.ref 45) all=true:=by
   exact decide_eq_true (by show some g.dg=some all;exact(hd)▸rfl)
  cases hs:same e d with
  |true=>
   replace f:=hs▸f
   refine⟨.ref (108+k),?_⟩
   rw [List.any_cons,hs,Bool.true_or,if_pos rfl]
   exact bZ (af (ag f rfl rfl))
  |false=>
   rw [hs] at f
   obtain⟨z',p⟩:=lj hd t
   refine⟨z',?_⟩
   rw [List.any_cons,hs,Bool.false_or]
   exact aT (ρ':=[.ref 48,.int d.n,.int d.a,d.av,.ref (108+k)]) (s':=mk g []) (aa (ag f rfl rfl) rfl) o p
theorem w5{d:Dg}{ds:List Dg}(h:CI g ds)(hz:ds.length<10000):
  ∃g',(prog.cf (n+3)).call 56 [.ref 48,.int d.n,.int d.a,d.av] (mk g [])=some (.none,mk g' [])/\CI g' (gP ds d)/\(g'=g\/g'=ii g d):=by
 refine cp λ_ j=>?_
 refine x12 h λrs e i=>?_
 obtain⟨z,c⟩:=lj e i
 refine j ?_
 have f:iter? (mk g []) (.ref 45)=some (rs.map V.ref):=by show some g.dg=_;exact(e)▸rfl
 unfold gP
 cases hc:ds.any (same · d) with
 |true=>
  replace c:=(if_pos rfl)▸hc▸c
  exact i13 g (ah rfl rfl (af (bI (v:=.ref 45) rfl f c)) rfl) ⟨rs,e,i⟩ (.inl rfl)
 |false=>
  rw [hc,if_neg (by decide)] at c
  have b:g.dg.length<10000:=by simp only [e,List.length_map,i.len];exact hz
  refine i13 (ii g d) (fe rfl rfl (aa (bI (v:=.ref 45) rfl f c) (aa (bc
   (aN (v:=.ref 44) rfl rfl rfl rfl rfl (uc b)) rfl) rfl))) ⟨rs++[108+g.ex.length],?_,?_⟩ (.inr rfl)
  ·show g.dg++[.ref (108+g.ex.length)]=_
   simp only [e,List.map_append];rfl
  ·refine(i.gr (g':=ii g d) ⟨_,rfl⟩).snoc ?_
   show(g.ex++[d.ob])[g.ex.length]?=_
   rw [List.getElem?_append_right (Nat.le_refl _),Nat.sub_self];rfl
end
def Nd(nd:Nat)(A:Int):Prop:=∀g T,∃fs,(mk g T).ob (.ref nd)=some (.inst 5 fs)/\nget fs 23=some (.int A)
theorem Nd.ev{nd:Nat}{A:Int}(h:Nd nd A){g:G}{T:List Ob}{cf:Cf}{ρ:List V}{x:Nat}(ho:cf.own 5 23=true)(hx:lget ρ x=.ref nd):ev cf (.attr (.loc x) 23) ρ (mk g T)=some (.int A,mk g T):=by
 refine x12 (h g T) λc b a=>?_
 exact ei (aR hx nofun) ((cX b ho).trans a)
theorem zB:Nd 101 2:=λg T=>i12 _ rfl rfl
theorem zz:Nd 104 11:=λg T=>i12 _ rfl rfl
theorem zx:Nd 107 20:=λg T=>i12 _ rfl rfl
theorem zC:Nd 100 4:=λg T=>i12 _ rfl rfl
theorem zA:Nd 103 13:=λg T=>⟨_,rfl,rfl⟩
theorem zy:Nd 106 22:=λg T=>⟨_,rfl,rfl⟩
noncomputable def nv(x:Int×Int):V:=.tup [.int x.1,.int x.2]
def CC(g:G)(ds:List Dg)(ns:List (Int×Int)):Prop:=CI g ds/\g.nt=ns.map nv
def LL(g:G)(ds:List Dg)(ns:List (Int×Int)):Prop:=LI g ds/\g.notes=ns.map nv
def Cs(g g':G):Prop:=∃D N Z,g'={g with dg:=D,nt:=N,ex:=g.ex++Z}
def Ls(g g':G):Prop:=∃t n,g'={g with told:=t,notes:=n}
theorem dq.same{g g':G}(e:g'.ex=g.ex){rs:List Nat}{ds:List Dg}(h:dq g rs ds):dq g' rs ds:=h.gr ⟨[],by simp only [e,List.append_nil]⟩
theorem Cs.trans{g g' g'':G}(x:Cs g g')(y:Cs g' g''):Cs g g'':=by
 refine x31 x λD N Z b=>?_
 subst b
 refine x31 y λc d e a=>?_
 subst a
 exact i31 c d (Z++e) (by simp only [List.append_assoc])
theorem Cs.refl(g:G):Cs g g:=i31 g.dg g.nt [] (by simp only [List.append_nil])
theorem Ls.trans{g g' g'':G}(x:Ls g g')(y:Ls g' g''):Ls g g'':=by
 refine x21 x λt n a=>?_
 try clear x
 subst a
 refine x21 y λc d b=>?_
 subst b
 exact i21 c d rfl
theorem Ls.refl(g:G):Ls g g:=⟨g.told,g.notes,rfl⟩
theorem Cs.gr{g g':G}(x:Cs g g'):Gr g g':=by
 refine cp λ_ b=>?_
 refine x31 x λD N Z a=>?_
 subst a
 refine b ?_
 exact⟨.of_eq rfl,Z,rfl⟩
theorem Ls.gr{g g':G}(x:Ls g g'):Gr g g':=by
 refine cp λ_ b=>?_
 refine x21 x λt n a=>?_
 subst a
 refine b ?_
 exact .of rfl rfl
theorem Cs.ll{g g':G}(x:Cs g g'){ds ns}(h:LL g ds ns):LL g' ds ns:=by obtain⟨D,N,Z,rfl⟩:=x;exact h
theorem Ls.cc{g g':G}(x:Ls g g'){ds ns}(h:CC g ds ns):CC g' ds ns:=by
 refine x21 x λt n a=>?_
 subst a
 refine x02 h λb c=>?_
 refine x12 b λrs d e=>?_
 exact⟨i12 rs d (e.same (by rfl)),c⟩
def Smg(g g':G):Prop:=g'.X=g.X/\g'.of=g.of/\g'.ix=g.ix
theorem Cs.sm{g g':G}(x:Cs g g'):Smg g g':=by obtain⟨D,N,Z,rfl⟩:=x;exact i03 rfl rfl rfl
theorem Ls.sm{g g':G}(x:Ls g g'):Smg g g':=by obtain⟨t,n,rfl⟩:=x;exact i03 rfl rfl rfl
theorem Smg.trans{g g' g'':G}(x:Smg g g')(y:Smg g' g''):Smg g g'':=i03 (y.1.trans x.1) (y.2.1.trans x.2.1) (y.2.2.trans x.2.2)
theorem Gd.sm{Kn:Tm->Prop}{b:Nat}{g g':G}(h:Gd Kn b g)(x:Smg g g'):Gd Kn b g':=by
 refine⟨h.t.of x.1,by exact x.2.1▸h.ofl,λy v e=>?_⟩
 replace e:=x.2.1▸e
 refine x13 (h.of y v e) λτ c d a=>?_
 exact i13 τ c d (a.le (.of_eq x.1))
section
variable {b n:Nat}{g:G}{T:List Ob}{nd:Nat}{A t:Int}
theorem dJ{r:List V}(tg:Tg b g)(h:aB g t r):t.natAbs<2 ^ 64:=by
 obtain⟨i,rfl,h⟩:=h
 have:=(List.getElem?_eq_some_iff.mp h).1
 simp only [nY] at this
 have:=tg.len
 have:=tg.lid
 simp only [Int.ofNat_eq_natCast,Int.natAbs_natCast]
 lia
theorem str_int{s:S}(h:t.natAbs<2 ^ 64):bf1 s .str (.int t)=some (.str (aE t)):=by
 show(if t.natAbs<2 ^ 64 then some (V.str (aE t)) else none)=_
 exact(if_pos h)▸rfl
theorem fx(h:t.natAbs<2 ^ 64):(prog.cf (n+2)).call 57 [.ref 48,.int t] (mk g T)=some (.str (aE t),mk g T):=by
 have a:(prog.cf (n+1)).call 52 [.ref 89,.ref 48,.int t] (mk g T)=some (.str (aE t),mk g T):=ah rfl rfl (af (ay (ch rfl (str_int h)))) rfl
 exact ah rfl rfl (af (ay (aN (v:=.ref 89) rfl rfl rfl rfl rfl a))) rfl
theorem xJ{c:Int}(hn:Nd nd A)(hz:g.nt.length<10000):(prog.cf (n+2)).call 58 [.ref 48,.int c,.ref nd] (mk g T)=some (.none,mk {g with nt:=g.nt++[nv (c,A)]} T):=by
 have a:(prog.cf (n+1)).call 50 [.ref 46,.int c,.int A] (mk g T)=some (.none,mk {g with nt:=g.nt++[nv (c,A)]} T):=by
  refine fe rfl rfl (aa (bc (v:=.none) ?_ rfl) rfl)
  show(if(0:Nat)=0 then(if true=true then(if g.nt.length<lim then some (V.none,mk {g with nt:=g.nt++[nv (c,A)]} T) else none) else none) else none)=_
  rw [if_pos rfl,if_pos rfl,if_pos (by have:lim=1048576:=rfl;lia)]
 exact fe rfl rfl (aa (bc (aN (v:=.ref 46) rfl rfl rfl rfl (ae rfl (ae (hn.ev rfl rfl) rfl)) a) rfl) rfl)
theorem cnote{ds:List Dg}{ns:List (Int×Int)}{c:Int}(hn:Nd nd A)(h:CC g ds ns)(hz:ns.length<10000):
  ∃g',(prog.cf (n+2)).call 58 [.ref 48,.int c,.ref nd] (mk g [])=some (.none,mk g' [])/\CC g' ds (ns++[(c,A)])/\Cs g g':=by
 refine i13 ({g with nt:=g.nt++[nv (c,A)]}) (xJ hn (by rw [h.2,List.length_map];exact hz)) ⟨?_,?_⟩ ⟨g.dg,_,[],by rw [List.append_nil]⟩
 ·refine x12 h.1 λrs b a=>?_
  exact i12 rs b (a.same (by rfl))
 ·show g.nt++[nv (c,A)]=_
  rw [h.2,List.map_append];rfl
theorem cfault{ds:List Dg}{ns:List (Int×Int)}{d:Dg}(hn:Nd nd d.a)(h:CC g ds ns)(hz:ds.length<10000):
  ∃g',(prog.cf (n+4)).call 55 [.ref 48,.int d.n,.ref nd,d.av] (mk g [])=some (.none,mk g' [])/\CC g' (gP ds d) ns/\Cs g g':=by
 refine x13 (w5 (n:=n) (d:=d) h.1 hz) λg' c b e=>?_
 refine i13 g' (fe rfl rfl (aa (bc (aN rfl rfl rfl rfl (ae rfl (ae (hn.ev rfl rfl) (ae (v:=d.av) rfl rfl))) c) rfl) rfl)) ⟨b,?_⟩ ?_
 ·try clear b;try clear c
  rcases e with rfl|rfl<;>exact h.2
 ·try clear b;try clear c;try clear h
  rcases e with rfl|rfl
  ·exact .refl _
  ·exact i31 _ g.nt [d.ob] rfl
theorem hH{ds:List Dg}{ns:List (Int×Int)}{c:Int}{ρ:List V}{x:Nat}{nm:Str}(hn:Nd nd A)(h:LL g ds ns)(hz:ns.length<10000)(h0:lget ρ 0=.ref 16)(hx:lget ρ x=.ref nd):
  ∃g',ex (prog.cf n) (.expr (.bm .append (.idx (.loc 0) (.lit (.str qu))) (.cons (.tup (.cons (.glb nm (.int c)) (.cons (.attr (.loc x) 23) .nil))) .nil))) ρ (mk g [])=some (.next,ρ,mk g' [])/\LL g' ds (ns++[(c,A)])/\Ls g g':=by
 refine i13 ({g with notes:=g.notes++[nv (c,A)]}) (bc (v:=.none) ?_ rfl) ⟨h.1,?_⟩ ⟨g.told,_,rfl⟩
 ·have b:ev (prog.cf n) (.idx (.loc 0) (.lit (.str qu))) ρ (mk g [])=some (.ref 15,mk g []):=bo (aR h0 nofun) rfl rfl
  have a:evs (prog.cf n) (.cons (.tup (.cons (.glb nm (.int c)) (.cons (.attr (.loc x) 23) .nil))) .nil) ρ (mk g [])=some ([nv (c,A)],mk g []):=ae (ci (ae rfl (ae (hn.ev rfl hx) rfl)) (cg rfl)) rfl
  refine ww b a rfl ?_
  show(if true=true then(if g.notes.length<lim then some (V.none,mk {g with notes:=g.notes++[nv (c,A)]} []) else none) else none)=_
  rw [if_pos rfl,h.2,List.length_map,if_pos (by have:lim=1048576:=rfl;lia)]
 ·show g.notes++[nv (c,A)]=_
  simp only [h.2,List.map_append];rfl
theorem ltell{ds:List Dg}{ns:List (Int×Int)}{d:Dg}(h:LL g ds ns)(hz:ds.length<10000):
  ∃g',(prog.cf (n+1)).call 71 [.ref 16,.int d.n,.int d.a,d.av] (mk g [])=some (.int 13,mk g' [])/\LL g' (gP ds d) ns/\Ls g g':=
 ⟨_,ot h.1 hz,⟨rfl,h.2⟩,i21 _ g.notes rfl⟩
noncomputable def ro(wr r:Int)(ds:List Dg)(A t:Int):List Dg:=if wr=1/\r=1 then gP ds ⟨2542,A,[aE t]⟩ else ds
theorem l6{wr r:Int}{ds:List Dg}:(ro wr r ds A t).length<=ds.length+1:=by
 unfold ro
 split
 ·exact d8
 ·exact Nat.le_succ _
theorem iy{ds:List Dg}{ns:List (Int×Int)}{wr k r:Int}(hn:Nd nd A)(hw:wr=0\/wr=1)(hr:r=0\/r=1)(ht:t.natAbs<2 ^ 64)(h:CC g ds ns)(hz:ds.length<9000)(e:ns.length<9000):
  ∃g',(prog.cf (n+6)).call 33 [.ref 48,.ref nd,.int t,.tup [.int k,.int r],.int wr] (mk g [])=some (.int k,mk g' [])/\CC g' (ro wr r ds A t) (ns++[(5,A)])/\Cs g g':=by
 by_cases hc:wr=1/\r=1
 ·refine x02 hc λa b=>?_
  subst a
  subst b
  refine cp λ_ j=>?_
  refine x13 (cfault (n:=n+1) (d:=⟨2542,A,[aE t]⟩) hn h (by lia)) λx u q s=>?_
  refine j ?_
  refine cp λ_ j=>?_
  refine x13 (cnote (n:=n+3) (c:=5) hn q (by omega)) λl f m i=>?_
  refine j ?_
  have p:ev (prog.cf (n+5)) (.tup (.cons (.meth (.loc 0) 35 (.cons (.loc 2) .nil)) .nil)) [.ref 48,.ref nd,.int t,.tup [.int k,.int 1],.int 1] (mk g [])=some (.tup [.str (aE t)],mk g []):=
   ci (ae (aN rfl rfl rfl rfl rfl (fx ht)) rfl) (cg rfl)
  refine i13 l (ah (ρ':=[.ref 48,.ref nd,.int t,.tup [.int k,.int 1],.int 1]) rfl rfl (aa (ag rfl rfl (aa (bc
   (aN rfl rfl rfl rfl (ae rfl (ae rfl (ae p rfl))) u) rfl) rfl))
   (aa (bc (aN rfl rfl rfl rfl rfl f) rfl) (af (ay rfl)))) rfl) ?_ (s.trans i)
  unfold ro;rw [if_pos ⟨rfl,rfl⟩];exact m
 ·refine x13 (cnote (n:=n+3) (c:=5) hn h (by omega)) λl f m i=>?_
  have o:∃v,ev (prog.cf (n+5)) (.bop true (.cons (.loc 4) (.cons (.idx (.loc 3) (.lit (.int 1))) .nil))) [.ref 48,.ref nd,.int t,.tup [.int k,.int r],.int wr] (mk g [])=some (v,mk g [])/\truth (mk g []) v=some false:=by
   rcases hw with rfl|rfl
   ·exact i12 (.int 0) rfl rfl
   ·rcases hr with rfl|rfl
    ·exact i12 (.int 0) rfl rfl
    ·exact absurd ⟨rfl,rfl⟩ hc
  refine x12 o λv o w=>?_
  refine i13 l (ah (ρ':=[.ref 48,.ref nd,.int t,.tup [.int k,.int r],.int wr]) rfl rfl (aa (ag o w rfl) (aa (bc (aN rfl rfl rfl rfl rfl f) rfl) (af (ay rfl)))) rfl) ?_ i
  unfold ro;rw [if_neg hc];exact m
theorem hN{ds:List Dg}{ns:List (Int×Int)}{wr k r:Int}(hn:Nd nd A)(hw:wr=0\/wr=1)(hr:r=0\/r=1)(ht:t.natAbs<2 ^ 64)(h:LL g ds ns)(hz:ds.length<9000)(e:ns.length<9000):
  ∃g',(prog.cf (n+2)).call 72 [.ref 16,.ref nd,.int t,.tup [.int k,.int r],.int wr] (mk g [])=some (.int k,mk g' [])/\LL g' (ro wr r ds A t) (ns++[(5,A)])/\Ls g g':=by
 have s:evB (prog.cf (n+1)) (.cons (.loc 4) (.cons (.cmp .eq (.idx (.loc 3) (.lit (.int 1))) (.lit (.int 1))) .nil)) [.ref 16,.ref nd,.int t,.tup [.int k,.int r],.int wr] true (mk g [])=some (if wr=0 then .int 0 else .bool (r==1),mk g []):=by
  refine(hw).elim (λj=>?_) (λl=>?_)
  ·subst j
   rfl
  ·subst l
   exact aS rfl rfl (aM (aq rfl rfl rfl))
 by_cases hc:wr=1/\r=1
 ·refine x02 hc λa b=>?_
  subst a
  subst b
  refine x13 (ltell (n:=n) (d:=⟨2542,A,[aE t]⟩) h (by lia)) λB y v w=>?_
  refine x13 (hH (n:=n+1) (c:=5) (ρ:=[.ref 16,.ref nd,.int t,.tup [.int k,.int 1],.int 1]) (x:=1) (nm:=⟨#[85,95,73,78,68,69,88]⟩) hn v (by omega) rfl rfl) λp m q o=>?_
  have u:ev (prog.cf (n+1)) (.tup (.cons (.bf .str (.loc 2)) .nil)) [.ref 16,.ref nd,.int t,.tup [.int k,.int 1],.int 1] (mk g [])=some (.tup [.str (aE t)],mk g []):=
   ci (ae (ch rfl (str_int ht)) rfl) (cg rfl)
  refine i13 p (ah rfl rfl (aa (ag s rfl (aa (bc (ai (ae rfl (ae rfl (ae (hn.ev rfl rfl) (ae u rfl)))) y) rfl) rfl)) (aa m (af (ay rfl)))) rfl) ?_ (w.trans o)
  unfold ro;rw [if_pos ⟨rfl,rfl⟩];exact q
 ·refine x13 (hH (n:=n+1) (c:=5) (ρ:=[.ref 16,.ref nd,.int t,.tup [.int k,.int r],.int wr]) (x:=1) (nm:=⟨#[85,95,73,78,68,69,88]⟩) hn h (by omega) rfl rfl) λp m q o=>?_
  have z:truth (mk g []) (if wr=0 then .int 0 else .bool (r==1))=some false:=by
   rcases hw with rfl|rfl
   ·rfl
   ·refine(hr).elim (λf=>?_) (λi=>?_)
    ·subst f
     rfl
    ·subst i
     exact absurd ⟨rfl,rfl⟩ hc
  refine i13 p (ah rfl rfl (aa (ag s z rfl) (aa m (af (ay rfl)))) rfl) ?_ o
  unfold ro;rw [if_neg hc];exact q
end
theorem sI:∀ {l:List Int},inl (.int 6) (l.map V.int)=some (l.any (· ==6))
 |[]=>rfl
 |a::r=>by
  show(match gu (.int a) (.int 6),inl (.int 6) (r.map V.int) with|some a,some b=>some (a||b)|_,_=>none)=_
  refine(sI (l:=r))▸?_;rfl
section
variable {b n:Nat}{g:G}{T:List Ob}{nd:Nat}{A t p:Int}
theorem dD{τ:Tm}{w:Wk}{C:V}(W:WF τ w)(tg:Tg b g)(hi:Is g τ p)(hb:∀j,(prog.cf (j+3)).call 43 [.ref 43,.int t] (mk g [])=some (.int t,mk g [])){g':G}(hC:isC C)
  (h:match w with
   |.num=>(prog.cf (n+9)).call 39 [.ref 48,.int t] (mk g [])=some (C,mk g' [])
   |.txt=>(prog.cf (n+9)).call 30 [.ref 43,.int t,.int 0] (mk g [])=some (C,mk g' [])
   |.non=>C=.tup []/\g'=g):(prog.cf (n+10)).call 35 [.ref 48,.int t,.int p] (mk g [])=some (C,mk g' []):=by
 refine x23 (W.bnd b g p tg hi) λbd l o k a=>?_
 have c:ex (prog.cf (n+9)) (.ite (.cmp .ne (.meth (.attr (.loc 0) 37) 38 (.cons (.loc 1) .nil)) (.loc 1)) (.cons (.ret (.tup .nil)) .nil) .nil) [.ref 48,.int t,.int p,.undef] (mk g [])=some (.next,[.ref 48,.int t,.int p,.undef],mk g []):=
  ag (v:=.bool false) (aq (y:=.int t) (aN (v:=.ref 43) rfl rfl rfl rfl rfl (hb (n+6))) rfl (by simp only [mj,beq_self_eq_true];rfl)) rfl rfl
 have f:ex (prog.cf (n+9)) (.asg 3 (.meth (.attr (.loc 0) 37) 31 (.cons (.meth (.attr (.loc 0) 37) 38 (.cons (.loc 2) .nil)) .nil))) [.ref 48,.int t,.int p,.undef] (mk g [])=some (.next,[.ref 48,.int t,.int p,.int bd],mk g []):=
  ak (aN (v:=.ref 43) rfl rfl rfl rfl (ae (aN (v:=.ref 43) rfl rfl rfl rfl rfl (o (n+6))) rfl) (iR rfl nofun))
 have d:∀ (z:Bool),(bd==7)=z->ev (prog.cf (n+9)) (.cmp .eq (.loc 3) (.glb qm (.int 7))) [.ref 48,.int t,.int p,.int bd] (mk g [])=some (.bool z,mk g []):=λz e=>aq (x:=.int bd) rfl rfl (by simp only [bj,e])
 have i:∀ (z:Bool),(l.any (· ==6))=z->ev (prog.cf (n+9)) (.cmp .isin (.glb qn (.int 6)) (.call 6 (.cons (.attr (.loc 0) 26) (.cons (.loc 3) .nil)))) [.ref 48,.int t,.int p,.int bd] (mk g [])=some (.bool z,mk g []):=λz e=>
  aq rfl (ai (l:=[.ref 1,.int bd]) rfl (k (n+7))) (by show inl (.int 6) (l.map V.int)=_;simp only [sI,e])
 cases w with
 |num=>
  exact ah rfl rfl (aa c (aa f (af (ag (d true (by rw [a];rfl)) rfl (af (ay (ai (l:=[.ref 48,.int t]) rfl h))))))) hC.nt.1
 |txt=>
  obtain⟨a,h4⟩:bd≠7/\6∈l:=a
  exact ah rfl rfl (aa c (aa f (aa (ag (d false (aZ a)) rfl rfl) (af (ay (cx (i true (List.any_eq_true.mpr ⟨6,h4,rfl⟩)) rfl (ai (l:=[.ref 43,.int t,.int 0]) rfl h))))))) hC.nt.1
 |non=>
  obtain⟨a,h4⟩:bd≠7/\6 ∉ l:=a
  obtain⟨rfl,rfl⟩:=h
  have:l.any (· ==6)=false:=by
   rw [List.any_eq_false]
   intro x m
   simp only [beq_iff_eq]
   rintro rfl;exact h4 m
  exact ah rfl rfl (aa c (aa f (aa (ag (d false (aZ a)) rfl rfl) (af (ay (cx (i false this) rfl rfl)))))) rfl
theorem jW{g:G}{t:Int}(h:t∈[29,34,26]):(prog.cf (n+10)).call 35 [.ref 48,.int t,.int p] (mk g [])=some (.tup [],mk g []):=by
 simp only [List.mem_cons,List.not_mem_nil,or_false] at h
 rcases h with rfl|rfl|rfl<;>exact ah (ρ':=[.ref 48,.int _,.int p,.undef]) rfl rfl (af rfl) rfl
def Ro(k:Int)(q:List V)(sh:Bool):Prop:=(k≠17/\sh=false)\/∃x:Int,k=17/\q=[.int 4,.int 50,.int (-1),.int 7,.int 0,.int x]/\sh=(x==1)
structure CF(g:G)(hv:V)(τ:Tm)(w:Wk)(t:Int)(C:V)(s:Str)(k:Int)(q:List V):Prop where
 c:isC C
 d:∃d,HD g hv d/\sget d kT=some (.int t)/\sget d eP=some (.str s)
 row:aB g t (.int k::q)
 law:∀g' n,Gr g g'->(prog.cf (n+1)).call 70 [hv,.str w.s] (mk g' [])=some (C,mk g' [])
 code:∀g' b n p,Gr g g'->Tg b g'->b+10<=10000->Is g' τ p->∃Y,(prog.cf (n+10)).call 35 [.ref 48,.int t,.int p] (mk g' [])=some (C,mk (ac g' Y) [])/\Tg (b+10) (ac g' Y)
 ro:Ro k q (seqb s dW)
theorem B5{hv:V}{τ:Tm}{w:Wk}(h:HH g hv)(W:WF τ w)(hw:w=.non\/∀d s,HD g hv d->sget d eP=some (.str s)->seqb s dW=false/\seqb s bW=false):∃t C s k q,CF g hv τ w t C s k q:=by
 have c:∀ {t:Int},(∀a j,(prog.cf (j+3)).call 43 [.ref 43,.int t] (mk a [])=some (.int t,mk a []))->w=.non->∀a b n p,Gr g a->Tg b a->b+10<=10000->Is a τ p->∃Y,(prog.cf (n+10)).call 35 [.ref 48,.int t,.int p] (mk a [])=some (.tup [],mk (ac a Y) [])/\Tg (b+10) (ac a Y):=by
  intro t v hw a b n p y f e l
  subst hw
  exact i12 [] (by rw [aC];exact dD W f l (v a) (.inl rfl) ⟨rfl,rfl⟩) (by rw [aC];exact f.up (Nat.le_add_right _ _) e)
 rcases h with⟨hd,hc,he,hn,u,hk⟩|⟨hd,ht⟩|hd|⟨hd,ht⟩
 ·rename_i t tx nu n1 le k q
  refine⟨t,nD tx nu le w,be,k,q,?_,i13 _ hd rfl rfl,u,λa n y=>ef (hd.gr y) (by decide) hn hc.c0 w,λa b n p y f e l=>?_,.inl ⟨hk,by decide⟩⟩
  ·cases w
   ·exact jB hn hc.c0
   ·exact hc.c0
   ·exact .inl rfl
  ·have C:=hc.le y.le
   cases w with
   |num=>
    refine x12 (fE (n:=n) C f e) λY o r=>?_
    rw [he] at o
    exact i12 Y (dD W f l (λj=>C.bnd a j (.refl a)) (jB hn hc.c0) o) r
   |txt=>
    refine x12 (C.ix a b 0 (n+1) (.refl a) f (nle ‹_›) (.inl rfl)) λY o r=>?_
    exact i12 Y (dD W f l (λj=>C.bnd a j (.refl a)) hc.c0 o) (r.up (Nat.add_le_add_left (by decide) _) e)
   |non=>exact i12 [] (by rw [aC];exact dD W f l (λj=>C.bnd a j (.refl a)) (.inl rfl) ⟨rfl,rfl⟩) (by rw [aC];exact f.up (Nat.le_add_right _ _) e)
 ·rename_i t q
  have m:∃q,aB g t (.int 10::q):=by
   simp only [List.mem_cons,List.not_mem_nil,or_false] at ht
   rcases ht with rfl|rfl|rfl
   ·exact⟨_,aj rfl⟩
   ·exact⟨_,aj rfl⟩
   ·exact⟨_,aj rfl⟩
  obtain⟨x,u⟩:=m
  exact⟨t,.tup [],fK,10,x,.inl rfl,i13 _ hd rfl rfl,u,λa n y=>kO (hd.gr y) _,λa b n p y f e l=>i12 [] (by rw [aC];exact jW ht) (by rw [aC];exact f.up (Nat.le_add_right _ _) e),.inl ⟨by decide,by decide⟩⟩
 ·have hw:w=.non:=by
   rcases hw with h|h
   ·exact h
   ·have:=(h _ _ hd rfl).1
    exact absurd this (by decide)
  have i:∀a n,Gr g a->(prog.cf (n+1)).call 70 [hv,.str w.s] (mk a [])=some (.tup [],mk a []):=λa n y=>by
   have:=ef (n:=n) (T:=[]) (hd.gr y) (by decide) (.inl rfl) (.inl rfl) w
   rw [hw] at this ⊢;exact this
  exact⟨51,.tup [],dW,17,_,.inl rfl,i13 _ hd rfl rfl,aj rfl,i,c (λa j=>by rfl) hw,.inr (i13 1 rfl rfl (by decide))⟩
 ·rename_i t
  have hw:w=.non:=by
   rcases hw with h|h
   ·exact h
   ·have:=(h _ _ hd rfl).2
    exact absurd this (by decide)
  have i:∀a n,Gr g a->(prog.cf (n+1)).call 70 [hv,.str w.s] (mk a [])=some (.tup [],mk a []):=λa n y=>by
   have:=ef (n:=n) (T:=[]) (hd.gr y) (by decide) (.inl rfl) (.inl rfl) w
   rw [hw] at this ⊢;exact this
  simp only [List.mem_cons,List.not_mem_nil,or_false] at ht
  rcases ht with rfl|rfl|rfl|rfl
  ·exact⟨52,.tup [],bW,17,_,.inl rfl,i13 _ hd rfl rfl,aj rfl,i,c (λa j=>by rfl) hw,.inr (i13 0 rfl rfl (by decide))⟩
  ·exact⟨53,.tup [],bW,17,_,.inl rfl,i13 _ hd rfl rfl,aj rfl,i,c (λa j=>by rfl) hw,.inr (i13 2 rfl rfl (by decide))⟩
  ·exact⟨50,.tup [],bW,14,_,.inl rfl,⟨_,hd,rfl,rfl⟩,aj rfl,i,c (λa j=>by rfl) hw,.inl ⟨by decide,by decide⟩⟩
  ·exact⟨54,.tup [],bW,7,_,.inl rfl,⟨_,hd,rfl,rfl⟩,aj rfl,i,c (λa j=>by rfl) hw,.inl ⟨by decide,by decide⟩⟩
end
structure St1(b:Nat)(g:G)(ds es:List Dg)(ns ms:List (Int×Int)):Prop where
 d:Gd KF b g
 ix:∃i,g.ix=Int.ofNat i/\i<=b
 cc:CC g ds ns
 ll:LL g es ms
 dl:ds.length<=b
 el:es.length<=b
 nl:ns.length<=b
 ml:ms.length<=b
 lid:b<=8000
section
variable {b n:Nat}{g:G}{T:List Ob}{nd:Nat}{A t p:Int}
theorem Gd.up{Kn:Tm->Prop}{c:Nat}(h:Gd Kn b g)(hc:b<=c)(hl:c<=10000):Gd Kn c g:=⟨h.t.up hc hl,Nat.le_trans h.ofl hc,h.of⟩
theorem St1.up{c:Nat}{ds es ns ms}(h:St1 b g ds es ns ms)(hc:b<=c)(hl:c<=8000):St1 c g ds es ns ms:=
 ⟨h.d.up hc (by lia),x12 h.ix λi a e=>i12 i a (Nat.le_trans ‹_› ‹_›),h.cc,h.ll,Nat.le_trans h.dl hc,Nat.le_trans h.el hc,Nat.le_trans h.nl hc,Nat.le_trans h.ml hc,hl⟩
theorem St1.rows{c:Nat}{Y:List (List V)}{ds es ns ms}(h:St1 b g ds es ns ms)(t:Tg c (ac g Y))(hc:b<=c)(hl:c<=8000):St1 c (ac g Y) ds es ns ms:=by
 refine⟨h.d.add t hc,x12 h.ix λi a e=>i12 i a (Nat.le_trans ‹_› ‹_›),⟨?_,h.cc.2⟩,h.ll,Nat.le_trans h.dl hc,Nat.le_trans h.el hc,Nat.le_trans h.nl hc,Nat.le_trans h.ml hc,hl⟩
 refine x12 h.cc.1 λrs a e=>?_
 exact i12 rs a (e.same (by rfl))
theorem St1.term{c:Nat}{g':G}{ds es ns ms}(h:St1 b g ds es ns ms)(x:Ex g g')(t:Gd KF c g')(hc:b<=c)(hl:c<=8000):St1 c g' ds es ns ms:=by
 refine x22 x λY o _ a=>?_
 subst a
 refine⟨t,x12 h.ix λi d e=>i12 i d (Nat.le_trans ‹_› ‹_›),⟨?_,h.cc.2⟩,h.ll,Nat.le_trans h.dl hc,Nat.le_trans h.el hc,Nat.le_trans h.nl hc,Nat.le_trans h.ml hc,hl⟩
 refine x12 h.cc.1 λrs d e=>?_
 exact i12 rs d (e.same (by rfl))
theorem St1.holder{c i:Nat}{Y:List (List V)}{Z:List Ob}{ds es ns ms}(h:St1 b g ds es ns ms)(t:Tg c (hg g i Y Z))(hi:i<=c)(hc:b<=c)(hl:c<=8000):St1 c (hg g i Y Z) ds es ns ms:=by
 refine⟨⟨t,Nat.le_trans h.d.ofl hc,λx v e=>?_⟩,i12 i rfl hi,⟨?_,h.cc.2⟩,h.ll,Nat.le_trans h.dl hc,Nat.le_trans h.el hc,Nat.le_trans h.nl hc,Nat.le_trans h.ml hc,hl⟩
 ·refine x13 (h.d.of x v e) λτ f a j=>?_
  exact i13 τ f a (j.le ⟨Y,rfl⟩)
 ·refine x12 h.cc.1 λrs f a=>?_
  exact i12 rs f (a.gr ⟨Z,rfl⟩)
theorem St1.draw{c i:Nat}{ds es ns ms}(h:St1 b g ds es ns ms)(hi:i<=c)(hc:b<=c)(hl:c<=8000):St1 c (aI g i) ds es ns ms:=by
 refine⟨⟨(h.d.t.up hc (by lia)).of (g':=aI g i) rfl,Nat.le_trans h.d.ofl hc,λx v e=>?_⟩,i12 i rfl hi,⟨?_,h.cc.2⟩,h.ll,Nat.le_trans h.dl hc,Nat.le_trans h.el hc,Nat.le_trans h.nl hc,Nat.le_trans h.ml hc,hl⟩
 ·refine x13 (h.d.of x v e) λτ f a j=>?_
  exact i13 τ f a (j.le (Gr.ix).le)
 ·refine x12 h.cc.1 λrs f a=>?_
  exact i12 rs f (a.same (by rfl))
theorem St1.code{c:Nat}{g':G}{ds ds' es ns ns' ms}(h:St1 b g ds es ns ms)(x:Cs g g')(cc:CC g' ds' ns')(h1:ds'.length<=c)(h2:ns'.length<=c)(hc:b<=c)(hl:c<=8000):St1 c g' ds' es ns' ms:=
 ⟨(h.d.sm x.sm).up hc (by lia),x12 h.ix λi h1 h2=>i12 i (by exact x.sm.2.2▸h1) (Nat.le_trans ‹_› ‹_›),cc,x.ll h.ll,h1,Nat.le_trans h.el hc,h2,Nat.le_trans h.ml hc,hl⟩
theorem St1.law{c:Nat}{g':G}{ds es es' ns ms ms'}(h:St1 b g ds es ns ms)(x:Ls g g')(ll:LL g' es' ms')(h1:es'.length<=c)(h2:ms'.length<=c)(hc:b<=c)(hl:c<=8000):St1 c g' ds es' ns ms':=
 ⟨(h.d.sm x.sm).up hc (by lia),x12 h.ix λi h1 h2=>i12 i (by exact x.sm.2.2▸h1) (Nat.le_trans ‹_› ‹_›),x.cc h.cc,ll,Nat.le_trans h.dl hc,h1,Nat.le_trans h.nl hc,h2,hl⟩
theorem rd{C:V}{k:Int}{q:List V}{sh:Bool}{ds es ns ms}{wr:Int}{Y:List (List V)}(hn:Nd nd A)(hw:wr=0\/wr=1)(hr:aB g t (.int k::q))(ro:Ro k q sh)(h:St1 b g ds es ns ms)(hb:b+30<=8000)
  (ho:(prog.cf (n+10)).call 35 [.ref 48,.int t,.int p] (mk g [])=some (.tup [],mk (ac g Y) [])) (tg:Tg (b+10) (ac g Y)):
  ∃u g',(prog.cf (n+11)).call 36 [.ref 48,.ref nd,.int t,.int p,.int wr] (mk g [])=some (.int u,mk g' [])/\aB g' u [.int 15,.int t,.int p]/\Gr g g'/\
   St1 (b+13) g' (if sh=true/\wr=1 then gP ds ⟨2542,A,[aE t]⟩ else ds) es (ns++[(2,A)]) ms:=by
 have i:=h.rows tg (Nat.le_add_right _ _) (nle ‹_›)
 have H:Gr g (ac g Y):=.add g Y
 have M:t.natAbs<2 ^ 64:=dJ h.d.t hr
 have a1:ex (prog.cf (n+10)) (.asg 5 (.call 35 (.cons (.loc 0) (.cons (.loc 2) (.cons (.loc 3) .nil))))) [.ref 48,.ref nd,.int t,.int p,.int wr,.undef,.undef] (mk g [])=some (.next,[.ref 48,.ref nd,.int t,.int p,.int wr,.tup [],.undef],mk (ac g Y) []):=
  ak (ai (l:=[.ref 48,.int t,.int p]) rfl ho)
 have U:ex (prog.cf (n+10)) (.asg 6 (.idx (.attr (.attr (.loc 0) 26) 0) (.loc 2))) [.ref 48,.ref nd,.int t,.int p,.int wr,.tup [],.undef] (mk (ac g Y) [])=some (.next,[.ref 48,.ref nd,.int t,.int p,.int wr,.tup [],.tup (.int k::q)],mk (ac g Y) []):=
  ak (fS rfl rfl rfl rfl (hr.le H.le))
 have D:∃o,ex (prog.cf (n+10)) (match ik.body with|.cons _ (.cons _ (.cons _ (.cons s _)))=>s|_=>.ret0) [.ref 48,.ref nd,.int t,.int p,.int wr,.tup [],.tup (.int k::q)] (mk (ac g Y) [])=some (.next,[.ref 48,.ref nd,.int t,.int p,.int wr,.tup [],.tup (.int k::q)],mk o [])/\
   Gr (ac g Y) o/\St1 (b+11) o (if sh=true/\wr=1 then gP ds ⟨2542,A,[aE t]⟩ else ds) es ns ms:=by
  by_cases hc:sh=true/\wr=1
  ·obtain⟨rfl,rfl⟩:=hc
   rcases ro with⟨_,y⟩|⟨x,rfl,rfl,r⟩
   ·cases y
   ·have r:x=1:=of_decide_eq_true r.symm
    subst r
    refine x13 (cfault (n:=n+6) (d:=⟨2542,A,[aE t]⟩) hn i.cc (by have:=i.dl;have:=i.lid;lia)) λo O y I=>?_
    have J:ev (prog.cf (n+10)) (.tup (.cons (.meth (.loc 0) 35 (.cons (.loc 2) .nil)) .nil)) [.ref 48,.ref nd,.int t,.int p,.int 1,.tup [],.tup [.int 17,.int 4,.int 50,.int (-1),.int 7,.int 0,.int 1]] (mk (ac g Y) [])=some (.tup [.str (aE t)],mk (ac g Y) []):=
     ci (ae (aN rfl rfl rfl rfl rfl (fx M)) rfl) (cg rfl)
    refine i13 o (ag rfl rfl (aa (bc (aN rfl rfl rfl rfl (ae rfl (ae rfl (ae J rfl))) O) rfl) rfl)) I.gr ?_
    exact i.code I y (Nat.le_trans d8 (Nat.succ_le_succ i.dl)) (Nat.le_succ_of_le i.nl) (Nat.le_succ _) (by omega)
  ·refine i13 (ac g Y) ?_ (.refl _) ?_
   ·have e:∃v,ev (prog.cf (n+10)) (.bop true (.cons (.loc 4) (.cons (.cmp .eq (.idx (.loc 6) (.lit (.int 0))) (.glb qH (.int 17))) (.cons (.cmp .eq (.idx (.loc 6) (.lit (.int 6))) (.lit (.int 1))) .nil)))) [.ref 48,.ref nd,.int t,.int p,.int wr,.tup [],.tup (.int k::q)] (mk (ac g Y) [])=some (v,mk (ac g Y) [])/\truth (mk (ac g Y) []) v=some false:=by
     refine(hw).elim (λa=>?_) (λf=>?_)
     ·subst a
      exact i12 (.int 0) rfl rfl
     ·subst f
      rcases ro with⟨hk,_⟩|⟨x,rfl,rfl,r⟩
      ·exact i12 (.bool false) (aS rfl rfl (bu (aq rfl rfl (by rw [bj,aZ hk])) rfl)) rfl
      ·have B:x≠1:=by rintro rfl;exact hc ⟨r▸rfl,rfl⟩
       exact i12 (.bool false) (aS rfl rfl (aS rfl rfl (aM (aq rfl rfl (by rw [bj,aZ B]))))) rfl
    refine x12 e λv e1 X=>?_
    exact ag e1 X rfl
   ·exact(if_neg hc)▸i.up (Nat.add_le_add_left (by decide) _) (by omega)
 refine x13 D λo D K m=>?_
 refine cp λ_ z=>?_
 refine x13 (cnote (n:=n+8) (c:=2) hn m.cc (by have:=m.nl;have:=m.lid;omega)) λw L b2 b3=>?_
 refine z ?_
 have F:=m.code (c:=b+12) b3 b2 (Nat.le_succ_of_le m.dl) (by rw [List.length_append];exact Nat.succ_le_succ m.nl) (Nat.add_le_add_left (by decide) _) (nle ‹_›)
 have Q:gW [.int 15,.int t,.int p]=true:=rfl
 refine cp λ_ z=>?_
 refine x23 (cK (j:=n+8) (T:=[]) F.d.t (nlt ‹_›) Q) λu Z W N P=>?_
 refine z ?_
 have R:(prog.cf (n+10)).call 27 [.ref 43,.tup [.int 15,.int t,.int p]] (mk w [])=some (.int u,mk (ac w Z) []):=
  ah rfl rfl (af (ay (aN (v:=.ref 1) rfl rfl rfl rfl rfl W))) rfl
 refine i24 u (ac w Z) (ah rfl rfl (aa a1 (aa (ρ':=[.ref 48,.ref nd,.int t,.int p,.int wr,.tup [],.undef]) (s':=mk (ac g Y) []) rfl (aa U (aa D (aa (bc
  (aN rfl rfl rfl rfl rfl L) rfl) (af (ay (aN (v:=.ref 43) rfl rfl rfl rfl rfl R)))))))) rfl) N ?_ (F.rows P (Nat.add_le_add_left (by decide) _) (nle ‹_›))
 exact((H.trans K).trans b3.gr).trans (.add w Z)
theorem rc{k r:Int}{ds es ns ms}{wr:Int}{Y:List (List V)}(hn:Nd nd A)(hw:wr=0\/wr=1)(hr:r=0\/r=1)(ht:t.natAbs<2 ^ 64)(h:St1 b g ds es ns ms)(hb:b+30<=8000)
  (ho:(prog.cf (n+10)).call 35 [.ref 48,.int t,.int p] (mk g [])=some (.tup [.int k,.int r],mk (ac g Y) [])) (tg:Tg (b+10) (ac g Y)):
  ∃g',(prog.cf (n+11)).call 36 [.ref 48,.ref nd,.int t,.int p,.int wr] (mk g [])=some (.int k,mk g' [])/\Gr g g'/\St1 (b+13) g' (ro wr r ds A t) es (ns++[(5,A)]) ms:=by
 have a:=h.rows tg (Nat.le_add_right _ _) (nle ‹_›)
 refine x13 (iy (n:=n+4) (k:=k) hn hw hr ht a.cc (by have:=a.dl;have:=a.lid;lia) (by have:=a.nl;have:=a.lid;lia)) λd c b2 b3=>?_
 refine i13 d (ah (ρ':=[.ref 48,.ref nd,.int t,.int p,.int wr,.tup [.int k,.int r],.undef]) rfl rfl (aa (ak (ai (l:=[.ref 48,.int t,.int p]) rfl ho)) (af (ag (v:=.bool true) rfl rfl
  (af (ay (ai (l:=[.ref 48,.ref nd,.int t,.tup [.int k,.int r],.int wr]) rfl c)))))) rfl) ((Gr.add g Y).trans b3.gr) ?_
 have e:=l6 (A:=A) (t:=t) (wr:=wr) (r:=r) (ds:=ds)
 have:=a.dl
 exact a.code b3 b2 (by lia) (by refine List.length_append▸?_;have:=a.nl;simp only [List.length_cons,List.length_nil];lia) (Nat.add_le_add_left (by decide) _) (nle ‹_›)
end
theorem xM{s:S}{C:V}(h:isC C):lb s .ne C C=some false:=by
 rcases h with rfl|⟨k,r,rfl,_⟩
 ·rfl
 ·show(some ((k==k)&& ((r==r)&&true))).map (!·)=_
  rw [beq_self_eq_true,beq_self_eq_true];rfl
theorem xN{s:S}{o:Bool}:lb s .ne (.bool o) (.bool o)=some false:=by cases o<;>rfl
theorem z9{s:S}{c:Bool}:lb s .eq (.bool (!c)) (.bool c)=some false:=by cases c<;>rfl
theorem iu{s:S}{k:Int}:lb s .eq (.int k) (.int k)=some true:=by rw [bj,beq_self_eq_true]
section
variable {b n:Nat}{g:G}{T:List Ob}{nd:Nat}{A t p:Int}{l:List Int}
noncomputable abbrev i9:Str:=qJ
theorem ls(hl:Nm l){j i x:Nat}{ρ:List V}(hi:g.ix=Int.ofNat i)(hb:i<=10000)(h0:lget ρ 0=.ref 16)(hx:lget ρ x=clo l):
  ∃τ,τ∈ec/\ev (prog.cf (j+1)) (.idx (.idx (.loc 0) (.lit (.str i9))) (.lcall x (.bf .len (.idx (.loc 0) (.lit (.str i9)))))) ρ (mk g [])=some (τ.v,mk (aI g (i+1)) []):=by
 have d:∀s:S,ev (prog.cf (j+1)) (.loc 0) ρ s=some (.ref 16,s):=λs=>aR h0 nofun
 have c:∀b:G,ev (prog.cf (j+1)) (.idx (.loc 0) (.lit (.str i9))) ρ (mk b [])=some (.ref 17,mk b []):=λb=>bo (d _) rfl rfl
 have h:ev (prog.cf (j+1)) (.bf .len (.idx (.loc 0) (.lit (.str i9)))) ρ (mk g [])=some (.int (Int.ofNat 49),mk g []):=by
  refine ch (c g) ?_
  show(match seq? (mk g []) (.ref 17) with|some l=>some (V.int (l.length:Nat))|none=>none)=_
  have:seq? (mk g []) (.ref 17)=some (ec.map Tm.v):=by
   have:=xD g
   show(match(mk g []).perm[17]? with|some (.list l)=>some l|_=>none)=_
   have:(mk g []).perm[17]?=some (.list (ec.map Tm.v)):=this
   exact(this)▸rfl
  refine this▸?_
  dsimp only [List.length_map,vk];rfl
 refine x12 (bx hl hi hb (by decide) hx h) λr f e=>?_
 have a:r<ec.length:=f
 refine i12 (ec[r]) (List.getElem_mem a) (bo (c g) e ?_)
 show(ec.map Tm.v)[r]?=_
 simp only [List.getElem?_map,List.getElem?_eq_getElem a];rfl
noncomputable def nb(s:Str):Bool:=seqb dW s||seqb bW s
theorem ln{a c:Str}:seqb a c=seqb c a:=by
 rw [Bool.eq_iff_iff,aH,aH];exact eq_comm
theorem jC{hv:V}{d:List (Str×V)}{s:Str}(h:HD g hv d)(hs:sget d eP=some (.str s)){d':List (Str×V)}{s':Str}(h':HD g hv d')(hs':sget d' eP=some (.str s')):s'=s:=by
 refine x12 h λi b f=>?_
 subst b
 refine x12 h' λj e c=>?_
 cases e
 have a:=f g [] (.refl g)
 rw [c g [] (.refl g)] at a
 try clear c;try clear h'
 cases a
 rw [hs] at hs'
 cases hs';rfl
theorem sL{hv:V}(h:HH g hv):∃d t s,HD g hv d/\sget d kT=some (.int t)/\sget d eP=some (.str s):=by
 rcases h with⟨hd,_⟩|⟨hd,_⟩|hd|⟨hd,_⟩<;>exact i33 _ _ _ hd rfl rfl
noncomputable def kρ(l:List Int)(nd:Nat)(hv tm wr t p c u:V):List V:=[.ref 16,.ref 48,clo l,.ref nd,hv,tm,wr,t,p,c,u]
theorem ou(hl:Nm l){ds ns}(h:St1 b g ds ds ns ns)(hb:b+60<=8000):
  ∃hv τ w wr t C s k q p g',CF g' hv τ w t C s k q/\KF τ/\Is g' τ p/\(wr=0\/wr=1)/\St1 (b+20) g' ds ds ns ns/\
   ∀o,exs (prog.cf (n+15)) (cN 7 bq.body) (kρ l nd hv τ.v (.int wr) (.int t) (.int p) C .undef) (mk g' [])=o->exs (prog.cf (n+15)) bq.body (fr0 bq [.ref 16,.ref 48,clo l,.ref nd]) (mk g [])=o:=by
 refine cp λ_ u=>?_
 refine x12 h.ix λi hi c6=>?_
 refine x46 (lI (n:=n+8) (pl:=false) hl hi (by lia) h.d.t (nle ‹_›)) λhv e Y Z h1 h2 h3 N _ Q=>?_
 have S1:=h.holder Q (by lia) (Nat.le_add_right _ _) (nle ‹_›)
 have H:hv≠ .undef:=by obtain⟨d,_,_,⟨x,rfl,_⟩,_⟩:=sL N;exact nofun
 have s1:ex (prog.cf (n+15)) (.asg 4 (.call 69 (.cons (.loc 0) (.cons (.loc 2) (.cons (.lit (.bool false)) .nil))))) (fr0 bq [.ref 16,.ref 48,clo l,.ref nd]) (mk g [])=some (.next,kρ l nd hv .undef .undef .undef .undef .undef .undef,mk (hg g e Y Z) []):=
  ak (ai (l:=[.ref 16,clo l,.bool false]) rfl h1)
 refine x12 (ls hl (j:=n+14) (x:=2) (g:=hg g e Y Z) (ρ:=kρ l nd hv .undef .undef .undef .undef .undef .undef) rfl (by omega) rfl rfl) λτ K e2=>?_
 have M:∀τ:Tm,τ.v≠ .undef:=λτ=>by cases τ<;>exact nofun
 refine x33 (sL N) λd t0 s hd d7 B=>?_
 have x2:Gr (hg g e Y Z) (aI (hg g e Y Z) (e+1)):=.ix
 refine x11 (wU τ K) λw W=>?_
 refine u ?_
 have I:∃f A,Lw f/\WF f A/\(A=.non\/nb s=false)/\ex (prog.cf (n+15)) (match bq.body with|.cons _ (.cons _ (.cons s _))=>s|_=>.ret0) (kρ l nd hv τ.v .undef .undef .undef .undef .undef) (mk (aI (hg g e Y Z) (e+1)) [])=
   some (.next,kρ l nd hv f.v .undef .undef .undef .undef .undef,mk (aI (hg g e Y Z) (e+1)) []):=by
  have m:ev (prog.cf (n+15)) (.cmp .isin (.idx (.loc 4) (.lit (.str eP))) (.tup (.cons (.lit (.str dW)) (.cons (.lit (.str bW)) .nil)))) (kρ l nd hv τ.v .undef .undef .undef .undef .undef) (mk (aI (hg g e Y Z) (e+1)) [])=some (.bool (nb s),mk (aI (hg g e Y Z) (e+1)) []):=by
   refine aq ((hd.gr x2).ev B rfl) rfl ?_
   show some (seqb dW s||(seqb bW s||false))=_
   rw [Bool.or_false];rfl
  have J:ev (prog.cf (n+15)) (.cmp .ne (.call 73 (.cons (.loc 0) (.cons (.loc 5) .nil))) (.lit (.str qr))) (kρ l nd hv τ.v .undef .undef .undef .undef .undef) (mk (aI (hg g e Y Z) (e+1)) [])=some (.bool (!seqb w.s qr),mk (aI (hg g e Y Z) (e+1)) []):=
   aq (ai (ae rfl (ae (aR rfl (M τ)) rfl)) (W.law _ (n+12))) rfl rfl
  cases hnb:nb s with
  |false=>
   replace m:=hnb▸m
   exact i24 τ w (dE τ K) W (.inr rfl) (ag (bu m rfl) rfl rfl)
  |true=>
   replace m:=hnb▸m
   cases w with
   |non=>
    exact i24 τ .non (dE τ K) W (.inl rfl) (ag (v:=.bool false) (aS m rfl (aM J)) rfl rfl)
   |num=>
    exact⟨.param 3,.non,dE _ (List.mem_of_getElem? (i:=3) rfl),un,.inl rfl,ag (v:=.bool true) (aS m rfl (aM J)) rfl rfl⟩
   |txt=>
    exact⟨.param 3,.non,dE _ (List.mem_of_getElem? (i:=3) rfl),un,.inl rfl,ag (v:=.bool true) (s1:=mk (aI (hg g e Y Z) (e+1)) []) (aS m rfl (aM J)) rfl rfl⟩
 refine cp λ_ u=>?_
 refine x24 I λf A L U O I=>?_
 refine u ?_
 refine x12 (bx hl (j:=n+14) (x:=2) (k:=2) (a:=.lit (.int 2)) (g:=aI (hg g e Y Z) (e+1)) (ρ:=kρ l nd hv f.v .undef .undef .undef .undef .undef) (T:=[]) rfl (by omega) (by decide) rfl rfl) λr hr e4=>?_
 have S4:=S1.draw (c:=b+5) (i:=e+2) (by omega) (Nat.add_le_add_left (by decide) _) (nle ‹_›)
 have x4:Gr (hg g e Y Z) (aI (hg g e Y Z) (e+2)):=.ix
 refine cp λ_ u=>?_
 refine x25 (fC f (n:=n+15) S4.d L.kw L.ok (by have:=L.d;omega) (by have:=L.n;omega)) λp z p1 p2 p3 p4 _=>?_
 refine u ?_
 have S6:=(S4.term p3 p4 (Nat.le_add_right _ _) (by have:=L.n;omega)).up (c:=b+20) (by have:=L.n;omega) (nle ‹_›)
 have D:=x4.trans p3.gr
 refine cp λ_ u=>?_
 refine x51 (B5 N U (by
  rcases O with h|h
  ·exact .inl h
  ·refine .inr λd' s' R P=>?_
   have:s'=s:=jC hd B R P
   subst this
   unfold nb at h
   rw [Bool.or_eq_false_iff] at h
   exact⟨by rw [ln];exact h.1,by rw [ln];exact h.2⟩)) λt C s' k q F=>?_
 refine x13 F.d λd2 f1 f2 f3=>?_
 refine u ?_
 have X:CF z hv f A t C s' k q:=⟨F.c,i13 d2 (f1.gr D) f2 f3,F.row.le D.le,λg' n y=>F.law g' n (D.trans y),λg' b n p y=>F.code g' b n p (D.trans y),F.ro⟩
 refine⟨hv,f,A,Int.ofNat r,t,C,s',k,q,p,z,X,L.kw.kn,p2,(by
  have:r=0\/r=1:=by omega
  rcases this with rfl|rfl
  ·exact .inl rfl
  ·exact .inr rfl),S6,λo ho=>?_⟩
 have e7:ev (prog.cf (n+15)) (.call 70 (.cons (.loc 4) (.cons (.call 73 (.cons (.loc 0) (.cons (.loc 5) .nil))) .nil))) (kρ l nd hv f.v (.int (Int.ofNat r)) (.int t) (.int p) .undef .undef) (mk z [])=some (C,mk z []):=
  ai (ae (aR rfl H) (ae (ai (ae rfl (ae (aR rfl (M f)) rfl)) (U.law _ (n+12))) rfl)) (X.law z (n+14) (.refl z))
 exact aa s1 (aa (ak e2) (aa I (aa (ak e4) (aa (ρ':=kρ l nd hv f.v (.int (Int.ofNat r)) (.int t) .undef .undef .undef) (s':=mk (aI (hg g e Y Z) (e+2)) []) (ak ((f1.gr x4).ev f2 rfl))
  (aa (ak (ai (ae rfl (ae (aR rfl (M f)) rfl)) p1)) (aa (ak e7) ho))))))
theorem CF.gr{g':G}{hv:V}{τ:Tm}{w:Wk}{C:V}{s:Str}{k:Int}{q:List V}(F:CF g hv τ w t C s k q)(x:Gr g g'):CF g' hv τ w t C s k q:=
 ⟨F.c,x13 F.d λd h e f=>i13 d (h.gr x) e f,F.row.le x.le,λa n y=>F.law a n (x.trans y),λa b n p y=>F.code a b n p (x.trans y),F.ro⟩
theorem Is.row{τ:Tm}(hi:Is g τ p)(hτ:∀t s,τ=.leaf t s->∃r,aB g t r):∃r,aB g p r:=by
 cases τ with
 |leaf t s=>obtain rfl:p=t:=hi;exact hτ _ _ rfl
 |param n=>
  obtain⟨rfl,h⟩:=hi
  exact⟨_,aj (List.getElem?_eq_getElem (show 25+n<55 by omega))⟩
 |tpl ss ks=>obtain⟨_,_,h⟩:=hi;exact⟨_,h⟩
 |meet ks=>obtain⟨_,_,h⟩:=hi;exact⟨_,h⟩
 |keyof a=>obtain⟨_,_,h⟩:=hi;exact⟨_,h⟩
 |at_ a c=>obtain⟨_,_,_,_,h⟩:=hi;exact⟨_,h⟩
 |ask a=>obtain⟨_,_,h⟩:=hi;exact⟨_,h⟩
 |alias=>exact⟨_,hi⟩
 |map=>exact⟨_,hi⟩
theorem tY{hv:V}{τ:Tm}{w:Wk}{wr:Int}{C:V}{s:Str}{k:Int}{q:List V}{ds ns}(hn:Nd nd A)(F:CF g hv τ w t C s k q)(K:KF τ)(hi:Is g τ p)(hw:wr=0\/wr=1)(h:St1 b g ds ds ns ns)(hb:b+40<=8000):
  ∃ρ' g' ds' ns',exs (prog.cf (n+15)) (cN 7 bq.body) (kρ l nd hv τ.v (.int wr) (.int t) (.int p) C .undef) (mk g [])=some (.ret (.bool true),ρ',mk g' [])/\St1 (b+40) g' ds' ds' ns' ns':=by
 have R:C≠ .undef:=F.c.nt.2
 have tv:τ.v≠ .undef:=by cases τ<;>exact nofun
 refine x13 F.d λd hd f1 f0=>?_
 have c6:hv≠ .undef:=by obtain⟨x,rfl,_⟩:=hd;exact nofun
 have Q:t.natAbs<2 ^ 64:=dJ h.d.t F.row
 refine x12 (F.code g b (n+5) p (.refl g) h.d.t (nle ‹_›) hi) λY o1 o2=>?_
 have O:=h.rows o2 (Nat.le_add_right _ _) (nle ‹_›)
 have x1:Gr g (ac g Y):=.add g Y
 refine x21 K λo c kf=>?_
 refine x04 (kf _ _ _ O.d.t (hi.le x1.le) (n+1)) λk1 k2 k3 k4=>?_
 let ρ:=kρ l nd hv τ.v (.int wr) (.int t) (.int p) C .undef
 have a1:ev (prog.cf (n+15)) (.cmp .ne (.call 35 (.cons (.loc 1) (.cons (.loc 7) (.cons (.loc 8) .nil)))) (.loc 9)) ρ (mk g [])=some (.bool false,mk (ac g Y) []):=
  aq (ai (l:=[.ref 48,.int t,.int p]) rfl o1) (aR rfl R) (xM F.c)
 have et:∀s:S,evs (prog.cf (n+15)) (.cons (.loc 5) .nil) ρ s=some ([τ.v],s):=λs=>ae (aR rfl tv) rfl
 have a2:ev (prog.cf (n+15)) (.cmp .ne (.call 37 (.cons (.loc 1) (.cons (.loc 8) .nil))) (.call 64 (.cons (.loc 5) .nil))) ρ (mk (ac g Y) [])=some (.bool false,mk (ac g Y) []):=
  aq (ai rfl k1) (ai (et _) k2) xN
 have a3:ev (prog.cf (n+15)) (.cmp .eq (.call 38 (.cons (.loc 1) (.cons (.loc 8) .nil))) (.call 66 (.cons (.loc 5) .nil))) ρ (mk (ac g Y) [])=some (.bool false,mk (ac g Y) []):=
  aq (ai (l:=[.ref 48,.int p]) rfl k3) (ai (et _) k4) z9
 have i:∀o,exs (prog.cf (n+15)) (cN 9 bq.body) ρ (mk (ac g Y) [])=o->exs (prog.cf (n+15)) (cN 7 bq.body) ρ (mk g [])=o:=λo ho=>
  aa (ag (aS a1 rfl (aM a2)) rfl rfl) (aa (ag a3 rfl rfl) ho)
 have X:=F.gr x1
 refine x12 (X.code (ac g Y) (b+10) (n+4) p (.refl _) O.d.t (nlt ‹_›) (hi.le x1.le)) λZ q1 q2=>?_
 refine(F.c).elim (λe=>?_) (λf=>?_)
 ·subst e
  refine cp λ_ B=>?_
  refine x24 (rd (C:=.tup []) hn hw X.row F.ro O (by omega) q1 q2) λu m u1 u2 z I=>?_
  have F2:=X.gr z
  refine x13 F2.d λd2 e1 e2 e3=>?_
  refine B ?_
  have sm:seqb s dW=true/\wr=1\/¬(seqb s dW=true/\wr=1):=Classical.em _
  have H:ev (prog.cf (n+15)) (.cmp .eq (.idx (.loc 4) (.lit (.str eP))) (.lit (.str dW))) (kρ l nd hv τ.v (.int wr) (.int t) (.int p) (.tup []) (.int u)) (mk m [])=some (.bool (seqb s dW),mk m []):=aq (e1.ev e3 rfl) rfl rfl
  have D:∃y,ex (prog.cf (n+15)) (match bq.body with|.cons _ (.cons _ (.cons _ (.cons _ (.cons _ (.cons _ (.cons _ (.cons _ (.cons _ (.cons _ (.cons _ (.cons s _)))))))))))=>s|_=>.ret0) (kρ l nd hv τ.v (.int wr) (.int t) (.int p) (.tup []) (.int u)) (mk m [])=
    some (.next,kρ l nd hv τ.v (.int wr) (.int t) (.int p) (.tup []) (.int u),mk y [])/\Ls m y/\LL y (if seqb s dW=true/\wr=1 then gP ds ⟨2542,A,[aE t]⟩ else ds) ns:=by
   rcases sm with hc|hc
   ·obtain⟨L,rfl⟩:=hc
    refine cp λ_ B=>?_
    refine x13 (ltell (n:=n+14) (d:=⟨2542,A,[aE t]⟩) I.ll (by have:=I.el;have:=I.lid;omega)) λy v1 P U=>?_
    refine B ?_
    have ew:ev (prog.cf (n+15)) (.tup (.cons (.bf .str (.loc 7)) .nil)) (kρ l nd hv τ.v (.int 1) (.int t) (.int p) (.tup []) (.int u)) (mk m [])=some (.tup [.str (aE t)],mk m []):=
     ci (ae (ch rfl (str_int Q)) rfl) (cg rfl)
    rw [L] at H
    refine i13 y (ag (aS H rfl (aM rfl)) rfl (aa (bc (ai (ae rfl (ae rfl (ae (hn.ev rfl rfl) (ae ew rfl)))) v1) rfl) rfl)) U ?_
    rw [if_pos ⟨L,rfl⟩];exact P
   ·refine i13 m ?_ (.refl m) (by exact(if_neg hc)▸I.ll)
    cases L:seqb s dW with
    |false=>replace H:=L▸H;exact ag (bu H rfl) rfl rfl
    |true=>
     rw [L] at H
     rcases hw with rfl|rfl
     ·exact ag (aS H rfl (aM rfl)) rfl rfl
     ·exact absurd ⟨L,rfl⟩ hc
  refine x13 D λy D x3 l3=>?_
  have d3:(if seqb s dW=true/\wr=1 then gP ds ⟨2542,A,[aE t]⟩ else ds).length<=b+11:=by
   split
   ·exact Nat.le_trans d8 (by have:=h.dl;omega)
   ·have:=h.dl;omega
  have J:=I.law (c:=b+25) x3 l3 (by omega) (by have:=I.ml;omega) (by omega) (nle ‹_›)
  refine x13 (hH (n:=n+15) (c:=2) (ρ:=kρ l nd hv τ.v (.int wr) (.int t) (.int p) (.tup []) (.int u)) (x:=3) (nm:=⟨#[85,95,77,69,84,72,79,68]⟩) hn J.ll (by have:=J.ml;have:=J.lid;omega) rfl rfl) λg4 w1 w2 w3=>?_
  have S4:=J.law (c:=b+40) w3 w2 (by omega) (by refine List.length_append▸?_;have:=h.nl;simp only [List.length_cons,List.length_nil];omega) (Nat.add_le_add_left (by decide) _) (by omega)
  have hu:aB g4 u [.int 15,.int t,.int p]:=u2.le (x3.gr.trans w3.gr).le
  have pu:=zq (j:=n+14) (T:=[]) S4.d.t hu rfl
  refine i42 (kρ l nd hv τ.v (.int wr) (.int t) (.int p) (.tup []) (.int u)) g4 _ _ (i _ (aa (ak (ai (l:=[.ref 48,.ref nd,.int t,.int p,.int wr]) rfl u1)) (aa (ρ':=kρ l nd hv τ.v (.int wr) (.int t) (.int p) (.tup []) (.int u)) (s':=mk m []) rfl (aa D (aa w1
   (af (ay (aq rfl (aN (v:=.ref 1) rfl rfl rfl rfl rfl pu) iu)))))))) S4
 ·refine x22 f λN W a M=>?_
  subst a
  refine cp λ_ B=>?_
  refine x13 (rc hn hw M Q O (by omega) q1 q2) λm u1 u2 z=>?_
  refine B ?_
  refine cp λ_ B=>?_
  refine x13 (hN (n:=n+13) (k:=N) hn hw M Q z.ll (by have:=z.el;have:=z.lid;omega) (by have:=z.ml;have:=z.lid;omega)) λy v1 P U=>?_
  have l1:=l6 (A:=A) (t:=t) (wr:=wr) (r:=W) (ds:=ds)
  refine B ?_
  have J:=z.law (c:=b+40) U P (by have:=h.dl;lia) (by refine List.length_append▸?_;have:=h.nl;simp only [List.length_cons,List.length_nil];omega) (by lia) (by omega)
  exact i42 (kρ l nd hv τ.v (.int wr) (.int t) (.int p) (.tup [.int N,.int W]) (.int N)) y _ _ (i _ (aa (ak (ai (l:=[.ref 48,.ref nd,.int t,.int p,.int wr]) (s1:=mk (ac g Y) []) rfl u1)) (af (ag (v:=.bool true) rfl rfl
   (af (ay (aq rfl (ai (l:=[.ref 16,.ref nd,.int t,.tup [.int N,.int W],.int wr]) rfl v1) iu))))))) J
theorem mw{ds ns}(hl:Nm l)(hn:Nd nd A)(h:St1 b g ds ds ns ns)(hb:b+60<=8000):
  ∃g' ds' ns',(prog.cf (n+16)).call 74 [.ref 16,.ref 48,clo l,.ref nd] (mk g [])=some (.bool true,mk g' [])/\St1 (b+60) g' ds' ds' ns' ns':=by
 refine cp λ_ a=>?_
 obtain⟨v,τ,w,u,t,C,s,k,q,p,r,F,K,i,f,c,j⟩:=ou hl h hb
 refine a ?_
 refine cp λ_ a=>?_
 refine x42 (tY (n:=n) (l:=l) hn F K i f c (by omega)) λo m ds' ns' e d=>?_
 refine a ?_
 exact i32 m ds' ns' (ah rfl rfl (j _ e) rfl) d
theorem vm{hv:V}(h:HH g hv)(hp:HP g hv):∃t tx nu n1 le k q,HD g hv (dct t tx nu le be)/\TC g t n1 tx le/\gY n1 tx le=gY nu tx le/\isC nu/\aB g t (.int k::q):=by
 refine cp λ_ b=>?_
 refine x41 hp λf c d e a=>?_
 refine b ?_
 rcases h with⟨hd,hc,he,hn,hr,hk⟩|⟨hd,_⟩|hd|⟨hd,_⟩
 ·exact i75 _ _ _ _ _ _ _ hd hc he hn hr
 ·exact absurd (jC a rfl hd rfl) (by decide)
 ·exact absurd (jC a rfl hd rfl) (by decide)
 ·exact absurd (jC a rfl hd rfl) (by decide)
noncomputable def uq:List (Wk×Tm):=[(.num,.leaf 7 bS),(.txt,.leaf 6 bS),(.num,.tpl [s_,s_] (.cons (.leaf 7 bS) .nil)),(.txt,.tpl [sX,s_] (.cons (.leaf 7 bS) .nil)),
 (.num,.meet (.cons (.leaf 7 bS) (.cons (.leaf 36 aQ) .nil))),(.txt,.meet (.cons (.leaf 36 aQ) (.cons (.leaf 6 bS) .nil))),(.txt,.tpl [s_,s_] (.cons (.param 0) .nil))]
noncomputable abbrev wX:E:=.tup (.cons (.glb qM (.int 18)) (.cons (.tup (.cons (.lit (.str s_)) (.cons (.lit (.str s_)) .nil))) (.cons (.tup (.cons (.glb qm (.int 7)) .nil)) .nil)))
structure WW(τ:Tm)(num:Bool):Prop where
 lw:Lw τ
 is_:∀b g p,Tg b g->Is g τ p->∃f r,(∀j,(prog.cf (j+8)).call 15 [.ref 1,.int p] (mk g [])=some (.int f,mk g []))/\aB g p r/\((f=2/\num=true)\/(f≠2/\∀s,eqv s (.tup r) (.tup [.int 18,.tup [.str s_,.str s_],.tup [.int 7]])=some num))
theorem rS{t f:Int}{m:Nat}{r:List V}{num:Bool}(ht:t=Int.ofNat m)(L:Lw (.leaf t bS))(hr:R0[m]?=some r)(hf:∀g j,(prog.cf (j+8)).call 15 [.ref 1,.int t] (mk g [])=some (.int f,mk g []))
  (h:(f=2/\num=true)\/(f≠2/\∀s,eqv s (.tup r) (.tup [.int 18,.tup [.str s_,.str s_],.tup [.int 7]])=some num)):WW (.leaf t bS) num:=
 ⟨L,λb g p c a=>i23 f r (λj=>by refine(show p=t from a)▸?_;exact hf g j) (by simp only [show p=t from a,ht];exact aj hr) h⟩
theorem pC{s:Str}{τ:Tm}{a:Int}{num:Bool}(L:Lw (.tpl [s,s_] (.cons τ .nil)))(ha:∀b g t,Tg b g->Is g τ t->t=a)
  (h:∀s',eqv s' (.tup [.int 18,.tup [.str s,.str s_],.tup [.int a]]) (.tup [.int 18,.tup [.str s_,.str s_],.tup [.int 7]])=some num):WW (.tpl [s,s_] (.cons τ .nil)) num:=by
 refine⟨L,λb g p f i=>?_⟩
 refine x12 i λe c d=>?_
 match e,c with
 |[x],c=>
  obtain rfl:=ha b g x f c.1
  exact i23 1 _ (λj=>gL d) d (.inr ⟨by decide,h⟩)
theorem rR{x y:Tm}{a c f:Int}{num:Bool}(L:Lw (.meet (.cons x (.cons y .nil))))(hx:∀b g t,Tg b g->Is g x t->t=a)(hy:∀b g t,Tg b g->Is g y t->t=c)
  (h2:∀g j p,∃z,exs (prog.cf (j+7)) (cN 1 eQ.body) [.ref 1,.int p,.tup (mrow a c),.undef,.undef] (mk g [])=some (.ret (.int f),z,mk g []))
  (h:(f=2/\num=true)\/(f≠2/\∀s,eqv s (.tup (mrow a c)) (.tup [.int 18,.tup [.str s_,.str s_],.tup [.int 7]])=some num)):WW (.meet (.cons x (.cons y .nil))) num:=by
 refine⟨L,λb g p i m=>?_⟩
 refine x12 m λe l d=>?_
 obtain rfl:=c8 hx hy b g e i l
 refine i23 f _ (λj=>?_) d h
 refine x11 (h2 g j p) λz k=>?_
 exact ah rfl rfl (aa (ak (bA rfl rfl rfl d)) k) rfl
noncomputable def ku:Wk->Bool
 |.num=>true
 |_=>false
theorem wV:∀x∈uq,WW x.2 (ku x.1)/\x.1≠ .non:=by
 have e:=ka (t:=7) (by decide)
 have f:=ka (t:=6) (by decide)
 have c:=hU (t:=36) (by decide)
 have b:∀ {x:Wk×Tm} {l:List (Wk×Tm)},WW x.2 (ku x.1)->x.1≠ .non->(∀y∈l,WW y.2 (ku y.1)/\y.1≠ .non)->∀y∈x::l,WW y.2 (ku y.1)/\y.1≠ .non:=λh d k=>List.forall_mem_cons.mpr ⟨⟨h,d⟩,k⟩
 refine b (rS rfl (dE _ (List.mem_of_getElem? (i:=30) rfl)) rfl (λg j=>by rfl) (.inl ⟨rfl,rfl⟩)) nofun<|
  b (rS rfl (dE _ (List.mem_of_getElem? (i:=31) rfl)) rfl (λg j=>by rfl) (.inr ⟨by decide,λs=>rfl⟩)) nofun<|
  b (pC (dE _ (List.mem_of_getElem? (i:=11) rfl)) aX λs=>rfl) nofun<|
  b (pC (dE _ (List.mem_of_getElem? (i:=15) rfl)) aX λs=>rfl) nofun<|
  b (rR ⟨i04 zJ e c trivial,rfl,by decide,by decide⟩ aX aX (λg j p=>⟨_,rfl⟩) (.inl ⟨rfl,rfl⟩)) nofun<|
  b (rR ⟨i04 zI c f trivial,rfl,by decide,by decide⟩ aX aX (λg j p=>⟨_,rfl⟩) (.inr ⟨by decide,λs=>rfl⟩)) nofun<|
  b (pC (a:=25) ⟨i03 (vX (.inl rfl) (.inr rfl)) (bM (by decide)) trivial,rfl,by decide,by decide⟩ bH λs=>rfl) nofun (λ_ h=>nomatch h)
theorem wT{τ:Tm}{w:Wk}{wr:Int}{tx nu n1:V}{le:Bool}{ds es ns ms}(hw0:w≠ .non)(W:WW τ (ku w))(hn:Nd nd A)(hi:Is g τ p)(C:TC g t n1 tx le)(he:gY n1 tx le=gY nu tx le)(cn:isC nu)(hw:wr=0\/wr=1)(ht:t.natAbs<2 ^ 64)
  (h:St1 b g ds es ns ms) (hb:b+30<=8000):
  (nD tx nu le w=.tup []->∃g',(prog.cf (n+11)).call 34 [.ref 48,.ref nd,.int t,.int p,.int wr] (mk g [])=some (.int 13,mk g' [])/\Gr g g'/\St1 (b+12) g' (gP ds ⟨7053,A,[aE p,aE t]⟩) es ns ms)/\
  (∀k r,nD tx nu le w=.tup [.int k,.int r]->(r=0\/r=1)->∃g',(prog.cf (n+11)).call 34 [.ref 48,.ref nd,.int t,.int p,.int wr] (mk g [])=some (.int k,mk g' [])/\Gr g g'/\St1 (b+12) g' (ro wr r ds A t) es (ns++[(5,A)]) ms):=by
 refine cp λ_ q=>?_
 refine x23 (W.is_ b g p h.d.t hi) λf r J z K=>?_
 refine q ?_
 have I:p.natAbs<2 ^ 64:=dJ h.d.t z
 have o:ev (prog.cf (n+10)) (.cmp .eq (.call 15 (.cons (.attr (.loc 0) 26) (.cons (.loc 3) .nil))) (.glb ⟨#[70,65,77,95,78,85,77]⟩ (.int 2))) [.ref 48,.ref nd,.int t,.int p,.int wr,.undef] (mk g [])=some (.bool (f==2),mk g []):=
  aq (ai (l:=[.ref 1,.int p]) rfl (J (n+2))) rfl rfl
 have i:evB (prog.cf (n+10)) (.cons (.cmp .eq (.call 15 (.cons (.attr (.loc 0) 26) (.cons (.loc 3) .nil))) (.glb ⟨#[70,65,77,95,78,85,77]⟩ (.int 2))) (.cons (.cmp .eq (.idx (.attr (.attr (.loc 0) 26) 0) (.loc 3)) wX) .nil)) [.ref 48,.ref nd,.int t,.int p,.int wr,.undef] false (mk g [])=some (.bool (ku w),mk g []):=by
  rcases K with⟨rfl,c⟩|⟨e,c⟩
  ·exact c▸bu o rfl
  ·replace o:=(aZ e)▸o
   exact aS o rfl (aM (aq (fS rfl rfl rfl rfl z) rfl (c (mk g []))))
 have m:∃Y,ex (prog.cf (n+10)) (match ij.body with|.cons s _=>s|_=>.ret0) [.ref 48,.ref nd,.int t,.int p,.int wr,.undef] (mk g [])=some (.next,[.ref 48,.ref nd,.int t,.int p,.int wr,nD tx nu le w],mk (ac g Y) [])/\Tg (b+10) (ac g Y):=by
  cases w with
  |num=>
   refine x12 (fE (n:=n+1) C h.d.t (nle ‹_›)) λY e c=>?_
   replace e:=he▸e
   exact i12 Y (ag i rfl (aa (ak (ai (l:=[.ref 48,.int t]) rfl e)) rfl)) c
  |txt=>
   refine x12 (C.ix g b 0 (n+2) (.refl g) h.d.t (nle ‹_›) (.inl rfl)) λY e c=>?_
   exact i12 Y (ag i rfl (aa (ak (ai (l:=[.ref 43,.int t,.int 0]) rfl e)) rfl)) (c.up (Nat.add_le_add_left (by decide) _) (nle ‹_›))
  |non=>exact absurd rfl hw0
 refine x12 m λY j F=>?_
 have a:=h.rows F (Nat.le_add_right _ _) (nle ‹_›)
 constructor
 ·intro u
  replace j:=u▸j
  refine cp λ_ q=>?_
  refine x13 (cfault (n:=n+6) (d:=⟨7053,A,[aE p,aE t]⟩) hn a.cc (by have:=a.dl;have:=a.lid;omega)) λx e c y=>?_
  refine q ?_
  have B:ev (prog.cf (n+10)) (.tup (.cons (.meth (.loc 0) 35 (.cons (.loc 3) .nil)) (.cons (.meth (.loc 0) 35 (.cons (.loc 2) .nil)) .nil))) [.ref 48,.ref nd,.int t,.int p,.int wr,.tup []] (mk (ac g Y) [])=some (.tup [.str (aE p),.str (aE t)],mk (ac g Y) []):=
   ci (ae (aN (v:=.ref 48) rfl rfl rfl rfl rfl (fx I)) (ae (aN (v:=.ref 48) rfl rfl rfl rfl rfl (fx ht)) rfl)) (cg rfl)
  refine i13 x (ah rfl rfl (aa j (af (ag rfl rfl (aa (bc (aN rfl rfl rfl rfl
   (ae rfl (ae rfl (ae B rfl))) e) rfl) (af (ay rfl)))))) rfl) ((Gr.add g Y).trans y.gr) ?_
  exact a.code y c (Nat.le_trans d8 (by have:=h.dl;omega)) (by have:=h.nl;omega) (Nat.add_le_add_left (by decide) _) (nle ‹_›)
 ·intro k r u H
  rw [u] at j
  refine x13 (iy (n:=n+4) (k:=k) hn hw H ht a.cc (by have:=a.dl;have:=a.lid;omega) (by have:=a.nl;have:=a.lid;omega)) λx D b2 b3=>?_
  have L:=l6 (A:=A) (t:=t) (wr:=wr) (r:=r) (ds:=ds)
  refine i13 x (ah (ρ':=[.ref 48,.ref nd,.int t,.int p,.int wr,.tup [.int k,.int r]]) rfl rfl (aa j (aa (ρ':=[.ref 48,.ref nd,.int t,.int p,.int wr,.tup [.int k,.int r]]) (s':=mk (ac g Y) []) rfl (af (ay (ai (l:=[.ref 48,.ref nd,.int t,.tup [.int k,.int r],.int wr]) rfl D))))) rfl) ((Gr.add g Y).trans b3.gr) ?_
  exact a.code b3 b2 (by have:=h.dl;omega) (by refine List.length_append▸?_;have:=h.nl;simp only [List.length_cons,List.length_nil];omega) (Nat.add_le_add_left (by decide) _) (nle ‹_›)
noncomputable def gx:V:=.lst (uq.map λx=>.tup [.str x.1.s,x.2.v])
noncomputable def wρ(l:List Int)(nd:Nat)(hv ways wd tm wr t p c u:V):List V:=[.ref 16,.ref 48,clo l,.ref nd,hv,(Tm.leaf 7 bS).v,(Tm.leaf 6 bS).v,(Tm.leaf 36 aQ).v,ways,wd,tm,wr,t,p,c,u]
theorem mu{ds ns}(hl:Nm l)(hn:Nd nd A)(h:St1 b g ds ds ns ns)(hb:b+60<=8000):
  ∃g' ds' ns',(prog.cf (n+16)).call 76 [.ref 16,.ref 48,clo l,.ref nd] (mk g [])=some (.bool true,mk g' [])/\St1 (b+60) g' ds' ds' ns' ns':=by
 refine cp λ_ I=>?_
 refine x12 h.ix λi hi g2=>?_
 refine x46 (lI (n:=n+8) (pl:=true) hl hi (by omega) h.d.t (nle ‹_›)) λu m Y Z h1 h2 h3 hh hp b1=>?_
 have S1:=h.holder b1 (by omega) (Nat.le_add_right _ _) (nle ‹_›)
 refine x75 (vm hh (hp rfl)) λt tx nu n1 le k q X P he cn hr=>?_
 have a0:u≠ .undef:=by obtain⟨x,rfl,_⟩:=X;exact nofun
 have s1:ex (prog.cf (n+15)) (.asg 4 (.call 69 (.cons (.loc 0) (.cons (.loc 2) (.cons (.lit (.bool true)) .nil))))) (fr0 cF [.ref 16,.ref 48,clo l,.ref nd]) (mk g [])=
   some (.next,[.ref 16,.ref 48,clo l,.ref nd,u,.undef,.undef,.undef,.undef,.undef,.undef,.undef,.undef,.undef,.undef,.undef],mk (hg g m Y Z) []):=
  ak (ai (l:=[.ref 16,clo l,.bool true]) rfl h1)
 have s5:exs (prog.cf (n+15)) (fj 4 (cN 1 cF.body)) [.ref 16,.ref 48,clo l,.ref nd,u,.undef,.undef,.undef,.undef,.undef,.undef,.undef,.undef,.undef,.undef,.undef] (mk (hg g m Y Z) [])=
   some (.next,wρ l nd u gx .undef .undef .undef .undef .undef .undef .undef,mk (hg g m Y Z) []):=rfl
 refine x12 (bx hl (j:=n+14) (x:=2) (k:=7) (a:=.lit (.int 7)) (g:=hg g m Y Z) (ρ:=wρ l nd u gx .undef .undef .undef .undef .undef .undef .undef) (T:=[]) rfl (by omega) (by decide) rfl rfl) λr a5 e6=>?_
 have B:r<uq.length:=a5
 refine x02 (wV _ (List.getElem_mem B)) λW z=>?_
 refine I ?_
 generalize hx:uq[r]=x at W z
 obtain⟨w,τ⟩:=x
 replace W:WW τ (ku w):=W
 replace z:w≠ .non:=z
 have tv:τ.v≠ .undef:=by cases τ<;>exact nofun
 have s6:ex (prog.cf (n+15)) (.unpack 9 10 (.idx (.loc 8) (.lcall 2 (.lit (.int 7))))) (wρ l nd u gx .undef .undef .undef .undef .undef .undef .undef) (mk (hg g m Y Z) [])=some (.next,wρ l nd u gx (.str w.s) τ.v .undef .undef .undef .undef .undef,mk (aI (hg g m Y Z) (m+1)) []):=by
  have e:ev (prog.cf (n+15)) (.idx (.loc 8) (.lcall 2 (.lit (.int 7)))) (wρ l nd u gx .undef .undef .undef .undef .undef .undef .undef) (mk (hg g m Y Z) [])=some (.tup [.str w.s,τ.v],mk (aI (hg g m Y Z) (m+1)) []):=by
   refine bo rfl e6 ?_
   show(uq.map λx=>V.tup [.str x.1.s,x.2.v])[r]?=_
   rw [List.getElem?_map,List.getElem?_eq_getElem B,hx];rfl
  exact aw e rfl
 refine x12 (bx hl (j:=n+14) (x:=2) (k:=2) (a:=.lit (.int 2)) (g:=aI (hg g m Y Z) (m+1)) (ρ:=wρ l nd u gx (.str w.s) τ.v .undef .undef .undef .undef .undef) (T:=[]) rfl (by lia) (by decide) rfl rfl) λM f2 e7=>?_
 have C:Int.ofNat M=0\/Int.ofNat M=1:=by
  have:M=0\/M=1:=by lia
  rcases this with rfl|rfl
  ·exact .inl rfl
  ·exact .inr rfl
 generalize Int.ofNat M=wr at e7 C
 have S4:=S1.draw (c:=b+5) (i:=m+2) (by lia) (Nat.add_le_add_left (by decide) _) (nle ‹_›)
 have x4:Gr (hg g m Y Z) (aI (hg g m Y Z) (m+2)):=.ix
 refine cp λ_ I=>?_
 refine x25 (fC τ (n:=n+15) S4.d W.lw.kw W.lw.ok (by have:=W.lw.d;omega) (by have:=W.lw.n;omega)) λp Q p1 p2 p3 p4 _=>?_
 refine I ?_
 have N:=(S4.term p3 p4 (Nat.le_add_right _ _) (by have:=W.lw.n;omega)).up (c:=b+20) (by have:=W.lw.n;omega) (nle ‹_›)
 have U:=x4.trans p3.gr
 have c5:=hr.le U.le
 have ht:t.natAbs<2 ^ 64:=dJ N.d.t c5
 have c1:p.natAbs<2 ^ 64:=by
  refine x23 (W.is_ _ _ _ N.d.t p2) λ_ _ _ J _=>?_
  exact dJ N.d.t J
 have lc:(prog.cf (n+15)).call 70 [u,.str w.s] (mk Q [])=some (nD tx nu le w,mk Q []):=ef (X.gr U) (by decide) cn P.c0 w
 have H:isC (nD tx nu le w):=by
  cases w
  ·exact jB cn P.c0
  ·exact P.c0
  ·exact .inl rfl
 have D:∀o,exs (prog.cf (n+15)) (cN 10 cF.body) (wρ l nd u gx (.str w.s) τ.v (.int wr) (.int t) (.int p) (nD tx nu le w) .undef) (mk Q [])=o->exs (prog.cf (n+15)) cF.body (fr0 cF [.ref 16,.ref 48,clo l,.ref nd]) (mk g [])=o:=λo ho=>
  aa s1 (dL s5 (aa s6 (aa (ak e7) (aa (ρ':=wρ l nd u gx (.str w.s) τ.v (.int wr) (.int t) .undef .undef .undef) (s':=mk (aI (hg g m Y Z) (m+2)) []) (ak ((X.gr x4).ev rfl rfl))
   (aa (ak (ai (ae rfl (ae (aR rfl tv) rfl)) p1)) (aa (ak (ai (ae (aR rfl a0) rfl) lc)) ho))))))
 refine x02 (wT (n:=n+4) z W hn p2 (P.le U.le) he cn C ht N (nlt ‹_›)) λq1 q2=>?_
 refine(H).elim (λK=>?_) (λf=>?_)
 ·replace D:=K▸D
  refine x13 (q1 K) λO u1 u2 y=>?_
  refine x13 (ltell (n:=n+14) (d:=⟨7053,A,[aE p,aE t]⟩) y.ll (by have:=y.el;have:=y.lid;omega)) λg8 v1 v2 v3=>?_
  have S8:=y.law (c:=b+60) v3 v2 (Nat.le_trans d8 (by have:=h.dl;omega)) (by have:=h.nl;omega) (by lia) (by omega)
  have ew:ev (prog.cf (n+15)) (.tup (.cons (.bf .str (.loc 13)) (.cons (.bf .str (.loc 12)) .nil))) (wρ l nd u gx (.str w.s) τ.v (.int wr) (.int t) (.int p) (.tup []) (.int 13)) (mk O [])=some (.tup [.str (aE p),.str (aE t)],mk O []):=
   ci (ae (ch rfl (str_int c1)) (ae (ch rfl (str_int ht)) rfl)) (cg rfl)
  refine i32 g8 _ _ (ah rfl rfl (D _ (aa (ak (ai (l:=[.ref 48,.ref nd,.int t,.int p,.int wr]) rfl u1)) (af (ag rfl rfl (af (ay
   (aq rfl (ai (ae rfl (ae rfl (ae (hn.ev rfl rfl) (ae ew rfl)))) v1) rfl))))))) rfl) S8
 ·refine cp λ_ I=>?_
  refine x22 f λF R K L=>?_
  replace D:=K▸D
  refine x13 (q2 F R K L) λO u1 u2 y=>?_
  refine x13 (hN (n:=n+13) (k:=F) hn C L ht y.ll (by have:=y.el;have:=y.lid;omega) (by have:=y.ml;have:=y.lid;omega)) λg8 v1 v2 v3=>?_
  refine I ?_
  have l1:=l6 (A:=A) (t:=t) (wr:=wr) (r:=R) (ds:=ds)
  have S8:=y.law (c:=b+60) v3 v2 (by have:=h.dl;omega) (by rw [List.length_append];have:=h.nl;simp only [List.length_cons,List.length_nil];omega) (by lia) (by omega)
  exact i32 g8 _ _ (ah rfl rfl (D _ (aa (ak (ai (l:=[.ref 48,.ref nd,.int t,.int p,.int wr]) (s1:=mk Q []) rfl u1)) (aa (ρ':=wρ l nd u gx (.str w.s) τ.v (.int wr) (.int t) (.int p) (.tup [.int F,.int R]) (.int F)) (s':=mk O []) rfl (af (ay
   (aq rfl (ai (l:=[.ref 16,.ref nd,.int t,.tup [.int F,.int R],.int wr]) rfl v1) iu)))))) rfl) S8
end
noncomputable def ins(l:List Int)(a:Int):List Int:=if a∈l then l else l++[a]
theorem wg{l:List Int}{a:Int}:iput (l.map (·,.int 1)) a (.int 1)=(ins l a).map (·,.int 1):=by
 unfold ins
 by_cases h:a∈l
 ·rw [if_pos h]
  unfold iput
  have:((l.map λx=>(x,V.int 1)).any λp=>p.1==a)=true:=by
   simp only [List.any_map]
   exact List.any_eq_true.mpr ⟨a,h,by simp⟩
  simp only [this,List.map_map]
  refine List.map_congr_left λx b=>?_
  dsimp only [Function.comp_apply]
  split<;>rfl
 ·rw [if_neg h];exact oD h
theorem xQ{l:List Int}{a x:Int}:x∈ins l a↔x∈l\/x=a:=by
 unfold ins
 split
 ·constructor
  ·exact .inl
  ·rintro(h|rfl)
   ·exact h
   ·assumption
 ·simp
theorem xY{l:List Int}{a:Int}:(ins l a).length<=l.length+1:=by
 unfold ins
 split
 ·exact Nat.le_succ _
 ·simp
theorem t4{l:List Int}{a:Int}:(iget (l.map (·,.int 1)) a).isSome=decide (a∈l):=by
 by_cases h:a∈l
 ·simp only [iO h,decide_eq_true h]
 ·simp only [iP h,decide_eq_false h];rfl
structure UF(g:G)(t:Int):Prop where
 ge:0<=t
 row:∃k q,aB g t (.int k::q)/\k≠6/\t≠2
 n8:t≠8/\t≠14
 twin:∀j o,(prog.cf (j+2)).call 8 [.ref 1,.int t] (mk g [o])=some (.int (-1),mk g [o])
 whole:∀r,aB g t r->∃w:Int,∀j o,(prog.cf (j+2)).call 7 [.tup r] (mk g [o])=some (.int w,mk g [o])
section
variable {b n:Nat}{g:G}{T:List Ob}{nd:Nat}{A t p:Int}{l:List Int}
noncomputable def gs(g:G)(got:List Int):S:=mk g [.idict (got.map (·,.int 1))]
theorem fM{got:List Int}{a:Int}:isin (gs g got) (.int a) (.tmp 0)=some (decide (a∈got)):=by
 show some (iget (got.map (·,V.int 1)) a).isSome=_
 rw [t4]
theorem r5{all:List V}:∀ {ts got:List Int} {z1 z2:V},(∀t∈ts,UF g t)->ts.length+got.length<100->
  ∃got' z1' z2',exF (exs (prog.cf (n+2)) (match bb.body with|.cons _ (.cons (.for_ _ _ b) _)=>b|_=>.nil)) 3 (.lst all) all (ts.map V.int) [.ref 1,.lst all,.tmp 0,z1,z2,.undef,.undef,.undef] (gs g got)=
   some (.next,[.ref 1,.lst all,.tmp 0,z1',z2',.undef,.undef,.undef],gs g got')/\(∀x,x∈got'↔x∈got\/x∈ts)/\got'.length<=got.length+ts.length
 |[],got,z1,z2,_,_=>⟨got,z1,z2,rfl,by simp,by simp⟩
 |t::r,got,z1,z2,h,hz=>by
  have U:=h t (List.mem_cons_self ..)
  refine cp λ_ c=>?_
  refine x23 U.row λk q f i m=>?_
  have o:=fD (j:=n+1) (T:=[.idict (got.map (·,V.int 1))]) f i m
  refine c ?_
  have u:=xY (l:=got) (a:=t)
  refine cp λ_ c=>?_
  refine x33 (r5 (all:=all) (got:=ins got t) (z1:=.int t) (z2:=.int t) (λx p=>h x (List.mem_cons_of_mem _ p)) (by simp at hz;omega)) λgot' z1' z2' e s d=>?_
  refine c ?_
  refine i33 got' z1' z2' (aT (ρ':=[.ref 1,.lst all,.tmp 0,.int t,.int t,.undef,.undef,.undef]) (s':=gs g (ins got t)) (aa (bI (s1:=gs g got) (ai (l:=[.ref 1,.int t]) rfl o) rfl
   (aT (ρ':=[.ref 1,.lst all,.tmp 0,.int t,.int t,.undef,.undef,.undef]) (s':=gs g (ins got t)) (aa (ρ':=[.ref 1,.lst all,.tmp 0,.int t,.int t,.undef,.undef,.undef]) (s':=gs g (ins got t)) ?_ rfl) rfl rfl)) rfl) rfl e) ?_ (by simp;omega)
  ·refine gm (ov:=.tmp 0) (iv:=.int t) rfl rfl rfl ?_
   ·show(if(got.map (·,V.int 1)).length<lim then(gs g got).put (.tmp 0) (.idict (iput (got.map (·,V.int 1)) t (.int 1))) else none)=_
    rw [List.length_map,if_pos (by have:lim=1048576:=rfl;omega),wg];rfl
  ·intro x
   rw [s,xQ,List.mem_cons]
   constructor
   ·rintro((h|h)|h)
    ·exact .inl h
    ·exact .inr (.inl h)
    ·exact .inr (.inr h)
   ·rintro(h|h|h)
    ·exact .inl (.inl h)
    ·exact .inl (.inr h)
    ·exact .inr h
theorem pK{got:List Int}:∃top:Int,(prog.cf (n+1)).call 11 [.tmp 0] (gs g got)=some (.int top,gs g got)/\((top= -1)\/(top∈got/\(top=0\/top=13\/top=1))):=by
 have d:∀a z,a ∉ got->exs (prog.cf n) (match fP.body with|.cons (.for_ _ _ b) _=>b|_=>.nil) (lset [.tmp 0,z] 1 (.int a)) (gs g got)=some (.next,[.tmp 0,.int a],gs g got):=λa z h=>
  aa (ag (aq (x:=.int a) (y:=.tmp 0) rfl rfl (by show isin (gs g got) (.int a) (.tmp 0)=_;rw [fM,decide_eq_false h])) rfl rfl) rfl
 have e:∀a z,a∈got->exs (prog.cf n) (match fP.body with|.cons (.for_ _ _ b) _=>b|_=>.nil) (lset [.tmp 0,z] 1 (.int a)) (gs g got)=some (.ret (.int a),[.tmp 0,.int a],gs g got):=λa z h=>
  af (ag (v:=.bool true) (aq (x:=.int a) (y:=.tmp 0) rfl rfl (by show isin (gs g got) (.int a) (.tmp 0)=_;rw [fM,decide_eq_true h])) rfl (af (ay rfl)))
 have c:∀top ρ',exs (prog.cf n) fP.body (fr0 fP [.tmp 0]) (gs g got)=some (.ret (.int top),ρ',gs g got)->(prog.cf (n+1)).call 11 [.tmp 0] (gs g got)=some (.int top,gs g got):=λtop ρ' h=>ah rfl rfl h rfl
 by_cases h0:0∈got
 ·exact i12 0 (c _ _ (af (bI rfl rfl (bZ (e 0 _ h0))))) (.inr ⟨h0,.inl rfl⟩)
 ·by_cases h13:13∈got
  ·exact i12 13 (c _ _ (af (bI rfl rfl (aT (d 0 _ h0) rfl (bZ (e 13 _ h13)))))) (.inr ⟨h13,.inr (.inl rfl)⟩)
  ·by_cases h1:1∈got
   ·exact i12 1 (c _ _ (af (bI rfl rfl (aT (d 0 _ h0) rfl (aT (d 13 _ h13) rfl (bZ (e 1 _ h1))))))) (.inr ⟨h1,.inr (.inr rfl)⟩)
   ·exact i12 (-1) (c _ _ (aa (ρ':=[.tmp 0,.int 1]) (s':=gs g got) (bI rfl rfl (aT (d 0 _ h0) rfl (aT (d 13 _ h13) rfl (aT (d 1 _ h1) rfl rfl)))) (af (ay rfl)))) (.inl rfl)
theorem tZ{got:List Int}(h8:8 ∉ got)(h14:14 ∉ got):(prog.cf (n+1)).call 9 [.tmp 0] (gs g got)=some (.none,gs g got):=by
 have c:∀a b,a ∉ got->ev (prog.cf n) (.cmp .isin (.glb b (.int a)) (.loc 0)) [.tmp 0] (gs g got)=some (.bool false,gs g got):=λa b h=>
  aq (y:=.tmp 0) rfl rfl (by show isin (gs g got) (.int a) (.tmp 0)=_;rw [fM,decide_eq_false h])
 exact fe rfl rfl (aa (ag (bu (aS (c 8 _ h8) rfl (aM (c 14 _ h14))) rfl) rfl rfl) rfl)
theorem beside{got:List Int}(U:UF g t)(hm:∀x∈got,0<=x):∃c:Bool,(prog.cf (n+3)).call 10 [.ref 1,.tmp 0,.int t] (gs g got)=some (.bool c,gs g got):=by
 refine cp λ_ b=>?_
 refine x23 U.row λk q a _ _=>?_
 obtain⟨w,e⟩:=U.whole _ a
 refine b ?_
 have d:(-1:Int) ∉ got:=λh=>by have:=hm _ h;omega
 refine⟨!decide (w∈got),ah (ρ':=[.ref 1,.tmp 0,.int t]) rfl rfl (aa (ag (v:=.bool false) (aq (ai rfl (U.twin n _)) rfl
  (by show isin (gs g got) (.int (-1)) (.tmp 0)=_;rw [fM,decide_eq_false d])) rfl rfl) (af (ay (aq (ai (ae (bA rfl rfl rfl a) rfl) (e n _)) rfl ?_)))) rfl⟩
 show(isin (gs g got) (.int w) (.tmp 0)).map (!·)=_
 rw [fM];rfl
theorem lP{c f:V->S->Option (V×S)}{all:List V}{s:S}:∀ {l:List Int},(∀a∈l,∃t:Bool,c (.int a) s=some (.bool t,s))->(∀a,f (.int a) s=some (.int a,s))->
  ∃K:List Int,jt c f (.lst all) all (l.map .int) s=some (K.map .int,s)/\(∀x∈K,x∈l)/\K.length<=l.length
 |[],_,_=>⟨[],rfl,by simp,Nat.le_refl _⟩
 |a::r,h,hf=>by
  obtain⟨t,i⟩:=h a (List.mem_cons_self ..)
  obtain⟨K,e,g,j⟩:=lP (λx d=>h x (List.mem_cons_of_mem _ d)) hf
  cases t with
  |true=>
   refine i13 (a::K) (rJ i rfl (hf a) rfl e) ?_ (by simpa using j)
   ·intro x d
    refine(List.mem_cons.mp d).elim (λb=>?_) (λd=>?_)
    ·subst b
     simp
    ·exact List.mem_cons_of_mem _ (g x d)
  |false=>
   exact i13 K (rK i rfl rfl e) (λx d=>List.mem_cons_of_mem _ (g x d)) (Nat.le_succ_of_le j)
inductive PI(g:G):Int->List Int->Prop where
 |never:PI g 2 []
 |one {i k:Int} {q:List V} (h:aB g i (.int k::q)) (hk:k≠6) (h2:i≠2):PI g i [i]
 |many {i:Int} {K:List Int} (h:aB g i [.int 6,.tup (K.map .int)]):PI g i K
theorem PI.parts{i:Int}{K:List Int}(h:PI g i K):(prog.cf (n+1)).call 6 [.ref 1,.int i] (mk g T)=some (.tup (K.map .int),mk g T):=by
 rcases h with _|⟨h,hk,h2⟩|h
 ·exact ah (ρ':=[.ref 1,.int 2,.undef]) rfl rfl rfl rfl
 ·exact fD h hk h2
 ·exact n9 h cE
theorem eI{m:Nat}{k:Int}{q:List V}{w:Int}(hr:R0[m]?=some (.int k::q))(hk:k≠6)(hm:(Int.ofNat m≠2/\Int.ofNat m≠8/\Int.ofNat m≠14))
  (h:∀g j o,((prog.cf (j+2)).call 8 [.ref 1,.int (Int.ofNat m)] (mk g [o]),(prog.cf (j+2)).call 7 [.tup (.int k::q)] (mk g [o]))=(some (.int (-1),mk g [o]),some (.int w,mk g [o]))):UF g (Int.ofNat m):=
 ⟨Int.natCast_nonneg _,i23 k q (aj hr) hk hm.1,hm.2,λj o=>(Prod.mk.inj (h g j o)).1,λr a=>⟨w,λj o=>by exact(a.fn (aj hr))▸(Prod.mk.inj (h g j o)).2⟩⟩
theorem eT{k:Int}{q:List V}(h:aB g p (.int k::q))(hk:k∈[18,7,14,15,16,17,19]):UF g p:=by
 have a:k≠6/\k≠1/\k≠2:=by
  simp only [List.mem_cons,List.not_mem_nil,or_false] at hk
  lia
 refine⟨h.nonneg,i23 k q h a.1 (h.ne rfl (aF a.2.1)),⟨h.ne rfl (aF a.2.2),h.ne rfl (aF a.2.2)⟩,λj o=>?_,λr b=>?_⟩
 ·have c:lb (mk g [o]) .isin (.int k) (.tup [.int 2,.int 3,.int 4,.int 5,.int 8])=some false:=by
   simp only [List.mem_cons,List.not_mem_nil,or_false] at hk
   rcases hk with rfl|rfl|rfl|rfl|rfl|rfl|rfl<;>rfl
  exact ah rfl rfl (aa (ak (bA rfl rfl rfl h)) (aa (ag (bu (aq rfl rfl c) rfl) rfl rfl) (af (ay rfl)))) rfl
 ·refine(b.fn h)▸?_
  simp only [List.mem_cons,List.not_mem_nil,or_false] at hk
  rcases hk with rfl|rfl|rfl|rfl|rfl|rfl|rfl<;>exact⟨_,λj o=>by rfl⟩
theorem uH{m:Nat}(h:Is g (.param m) p):UF g p:=by
 obtain⟨rfl,h⟩:=h
 refine zE (P:=λm=>UF g (.ofNat (25+m))) ?_ ?_ ?_ ?_ ?_ ?_ ?_ ?_ ?_ ?_ m h<;>exact eI rfl (by decide) (by decide) λg j o=>rfl
theorem w4{s:Str}(ht:t∈[6,7,16,37,38,39,19,36,35,40,41,10,4,5,3,9,1,0,13])(h:Is g (.leaf t s) p):UF g p:=by
 obtain rfl:p=t:=h
 simp only [List.mem_cons,List.not_mem_nil,or_false] at ht
 rcases ht with rfl|rfl|rfl|rfl|rfl|rfl|rfl|rfl|rfl|rfl|rfl|rfl|rfl|rfl|rfl|rfl|rfl|rfl|rfl
 ·exact eI rfl (by decide) (by decide) λg j o=>rfl
 ·exact eI rfl (by decide) (by decide) λg j o=>rfl
 ·exact eI rfl (by decide) (by decide) λg j o=>rfl
 ·exact eI rfl (by decide) (by decide) λg j o=>rfl
 ·exact eI rfl (by decide) (by decide) λg j o=>rfl
 ·exact eI rfl (by decide) (by decide) λg j o=>rfl
 ·exact eI rfl (by decide) (by decide) λg j o=>rfl
 ·exact eI rfl (by decide) (by decide) λg j o=>rfl
 ·exact eI rfl (by decide) (by decide) λg j o=>rfl
 ·exact eI rfl (by decide) (by decide) λg j o=>rfl
 ·exact eI rfl (by decide) (by decide) λg j o=>rfl
 ·exact eI rfl (by decide) (by decide) λg j o=>rfl
 ·exact eI rfl (by decide) (by decide) λg j o=>rfl
 ·exact eI rfl (by decide) (by decide) λg j o=>rfl
 ·exact eI rfl (by decide) (by decide) λg j o=>rfl
 ·exact eI rfl (by decide) (by decide) λg j o=>rfl
 ·exact eI rfl (by decide) (by decide) λg j o=>rfl
 ·exact eI rfl (by decide) (by decide) λg j o=>rfl
 ·exact eI rfl (by decide) (by decide) λg j o=>rfl
theorem r6:∀τ∈ec,∀g p,Is g τ p->UF g p:=by
 have j:∀m,∀g p,Is g (.param m) p->UF g p:=λm g p h=>uH h
 have l:∀q n,∀g p,Is g (.tpl q n) p->UF g p:=λq n g p b=>x12 b λ_ _ h=>eT h (by decide)
 have k:∀n,∀g p,Is g (.meet n) p->UF g p:=λn g p c=>x12 c λ_ _ h=>eT h (by decide)
 have o:∀a,∀g p,Is g (.keyof a) p->UF g p:=λa g p d=>x12 d λ_ _ h=>eT h (by decide)
 have i:∀t s,t∈[6,7,16,37,38,39,19,36,35,40,41,10,4,5,3,9,1,0,13]->∀g p,Is g (.leaf t s) p->UF g p:=λt s r g p h=>w4 r h
 exact ab (j _)<|ab (j _)<|ab (j _)<|ab (j _)<|ab (j _)<|ab (j _)<|ab (j _)<|ab (j _)<|ab (j _)<|ab (j _)<|
  ab (l _ _)<|ab (l _ _)<|ab (l _ _)<|ab (l _ _)<|ab (l _ _)<|ab (l _ _)<|
  ab (k _)<|ab (k _)<|ab (k _)<|ab (k _)<|ab (k _)<|ab (k _)<|ab (k _)<|ab (k _)<|ab (o _)<|ab (o _)<|
  ab (λg p e=>x23 e λ_ _ _ _ h=>eT h (by decide))<|ab (λg p f=>x12 f λ_ _ h=>eT h (by decide))<|ab (λg p h=>eT h (by decide))<|ab (λg p h=>eT h (by decide))<|
  ab (i _ _ (by decide))<|ab (i _ _ (by decide))<|ab (i _ _ (by decide))<|ab (i _ _ (by decide))<|ab (i _ _ (by decide))<|ab (i _ _ (by decide))<|
  ab (i _ _ (by decide))<|ab (i _ _ (by decide))<|ab (i _ _ (by decide))<|ab (i _ _ (by decide))<|ab (i _ _ (by decide))<|ab (i _ _ (by decide))<|
  ab (i _ _ (by decide))<|ab (i _ _ (by decide))<|ab (i _ _ (by decide))<|ab (i _ _ (by decide))<|ab (i _ _ (by decide))<|ab (i _ _ (by decide))<|ab (i _ _ (by decide)) (by simp)
theorem UF.le{g':G}{t:Int}(h:UF g t):True:=trivial
theorem tn{ts:List Int}(hu:∀t∈ts,UF g t)(hz:ts.length<=3)(tg:Tg b g)(hb:b<10000):
  ∃i Y K,(prog.cf (n+4)).call 12 [.ref 1,.lst (ts.map .int)] (mk g [])=some (.int i,mk (ac g Y) [])/\Tg (b+1) (ac g Y)/\PI (ac g Y) i K/\∀x∈K,x∈ts:=by
 refine cp λ_ I=>?_
 refine x33 (r5 (n:=n+1) (all:=ts.map .int) (got:=[]) (z1:=.undef) (z2:=.undef) hu (by simp;omega)) λgot z1 z2 e1 hm F=>?_
 refine I ?_
 have m:∀x∈got,x∈ts:=λx D=>by have:=(hm x).mp D;simpa using this
 have hl:got.length<=3:=by simp at F;omega
 let ρ2:List V:=[.ref 1,.lst (ts.map .int),.tmp 0,z1,z2,.undef,.undef,.undef]
 have s2:exs (prog.cf (n+3)) (fj 2 bb.body) (fr0 bb [.ref 1,.lst (ts.map .int)]) (mk g [])=some (.next,ρ2,gs g got):=
  aa (ρ':=[.ref 1,.lst (ts.map .int),.tmp 0,.undef,.undef,.undef,.undef,.undef]) (s':=gs g []) rfl (aa (bI rfl rfl e1) rfl)
 refine x12 (pK (n:=n+2) (g:=g) (got:=got)) λd e3 Q=>?_
 have P:ex (prog.cf (n+3)) (.asg 5 (.call 11 (.cons (.loc 2) .nil))) ρ2 (gs g got)=some (.next,[.ref 1,.lst (ts.map .int),.tmp 0,z1,z2,.int d,.undef,.undef],gs g got):=ak (ai (l:=[.tmp 0]) rfl e3)
 have w:∀i ρ' s',exs (prog.cf (n+3)) (cN 3 bb.body) [.ref 1,.lst (ts.map .int),.tmp 0,z1,z2,.int d,.undef,.undef] (gs g got)=some (.ret (.int i),ρ',s')->exs (prog.cf (n+3)) bb.body (fr0 bb [.ref 1,.lst (ts.map .int)]) (mk g [])=some (.ret (.int i),ρ',s'):=λi ρ' s' h=>
  dL s2 (aa P h)
 rcases Q with rfl|⟨htm,htv⟩
 ·
  have h8:(8:Int) ∉ got:=λh=>(hu 8 (m 8 h)).n8.1 rfl
  have L:(14:Int) ∉ got:=λh=>(hu 14 (m 14 h)).n8.2 rfl
  have M:∀x∈got,0<=x:=λx D=>(hu x (m x D)).ge
  obtain⟨K,W,N,u⟩:=lP (c:=λv s=>ev (prog.cf (n+3)) (.call 10 (.cons (.loc 0) (.cons (.loc 2) (.cons (.loc 7) .nil)))) (lset [.ref 1,.lst (ts.map .int),.tmp 0,z1,z2,.int (-1),.undef,.undef] 7 v) s)
   (f:=λv s=>ev (prog.cf (n+3)) (.loc 7) (lset [.ref 1,.lst (ts.map .int),.tmp 0,z1,z2,.int (-1),.undef,.undef] 7 v) s) (λa U=>by
    obtain⟨c,hc⟩:=beside (hu a (m a (cW.mp U))) M
    exact⟨c,ai (l:=[.ref 1,.tmp 0,.int a]) rfl hc⟩) (λa=>rfl)
  have e:∀x∈K,x∈ts:=λx D=>m x (cW.mp (N x D))
  rw [eO] at u
  have Z:ev (prog.cf (n+3)) (.bf .sorted (.loc 2)) [.ref 1,.lst (ts.map .int),.tmp 0,z1,z2,.int (-1),.undef,.undef] (gs g got)=some (.lst ((bF got).map .int),gs g got):=by
   refine ch rfl ?_
   show(if(got.map (·,V.int 1)).length<64 then some (V.lst ((bF ((got.map (·,V.int 1)).map (·.1))).map .int)) else none)=_
   rw [List.length_map,if_pos (by omega),List.map_map]
   have:(got.map ((·.1)∘λx=>(x,V.int 1)))=got:=by rw [show((λx:Int×V=>x.1)∘λx:Int=>(x,V.int 1))=id from rfl,List.map_id]
   rw [this]
  have B:∀o,exs (prog.cf (n+3)) (cN 6 bb.body) [.ref 1,.lst (ts.map .int),.tmp 0,z1,z2,.int (-1),.lst (K.map .int),.undef] (gs g got)=o->exs (prog.cf (n+3)) (cN 3 bb.body) [.ref 1,.lst (ts.map .int),.tmp 0,z1,z2,.int (-1),.undef,.undef] (gs g got)=o:=λo R=>
   aa (ρ':=[.ref 1,.lst (ts.map .int),.tmp 0,z1,z2,.int (-1),.undef,.undef]) (s':=gs g got) rfl (aa (bc (ai (l:=[.tmp 0]) rfl (tZ h8 L)) rfl)
    (aa (ak (iX Z rfl W)) R))
  match K,N,u,e,B with
  |[],_,_,e,B=>
   exact i34 2 [] [] (by rw [aC];exact cP rfl rfl (w _ _ _ (B (some (.ret (.int 2),[.ref 1,.lst (ts.map .int),.tmp 0,z1,z2,.int (-1),.lst [],.undef],gs g got)) rfl)) rfl) (aC▸tg.up (Nat.le_succ _) hb) .never e
  |[x],_,_,e,B=>
   refine cp λ_ I=>?_
   refine x23 ((hu x (e x (List.mem_cons_self ..))).row) λk q J C H=>?_
   refine I ?_
   exact i34 x [] [x] (by exact aC▸cP rfl rfl (w _ _ _ (B (some (.ret (.int x),[.ref 1,.lst (ts.map .int),.tmp 0,z1,z2,.int (-1),.lst [.int x],.undef],gs g got)) rfl)) rfl) (by exact aC▸tg.up (Nat.le_succ _) hb) (by exact aC▸ .one J C H) e
  |x::y::K,_,u,e,B=>
   have u:(x::y::K).length<=3:=Nat.le_trans u hl
   have hK:K=[]\/∃z,K=[z]:=by
    match K,u with
    |[],_=>exact .inl rfl
    |[z],_=>exact .inr ⟨z,rfl⟩
    |_::_::_,h=>simp at h
   refine x23 (cK (j:=n+2) (T:=[.idict (got.map (·,V.int 1))]) (r:=[.int 6,.tup ((x::y::K).map .int)]) tg hb jU) λp Y q1 O q3=>?_
   refine i34 p Y (x::y::K) (cP (X:=[.idict (got.map (·,V.int 1))]) (ρ':=[.ref 1,.lst (ts.map .int),.tmp 0,z1,z2,.int (-1),.lst ((x::y::K).map .int),.undef]) rfl rfl (w _ _ _ (B _ ?_)) rfl) q3 (.many O) e
   have A:exs (prog.cf (n+3)) (cN 9 bb.body) [.ref 1,.lst (ts.map .int),.tmp 0,z1,z2,.int (-1),.lst ((x::y::K).map .int),.undef] (gs g got)=some (.ret (.int p),[.ref 1,.lst (ts.map .int),.tmp 0,z1,z2,.int (-1),.lst ((x::y::K).map .int),.undef],mk (ac g Y) [.idict (got.map (·,V.int 1))]):=
    af (ay (aN rfl rfl rfl rfl (ae (ci (ae rfl (ae rfl rfl)) (cg rfl)) rfl) q1))
   rcases hK with rfl|⟨z,rfl⟩
   ·exact aa (ρ':=[.ref 1,.lst (ts.map .int),.tmp 0,z1,z2,.int (-1),.lst [.int x,.int y],.undef]) (s':=gs g got) rfl (aa (ρ':=[.ref 1,.lst (ts.map .int),.tmp 0,z1,z2,.int (-1),.lst [.int x,.int y],.undef]) (s':=gs g got) rfl (aa (ρ':=[.ref 1,.lst (ts.map .int),.tmp 0,z1,z2,.int (-1),.lst [.int x,.int y],.undef]) (s':=gs g got) rfl A))
   ·exact aa (ρ':=[.ref 1,.lst (ts.map .int),.tmp 0,z1,z2,.int (-1),.lst [.int x,.int y,.int z],.undef]) (s':=gs g got) rfl (aa (ρ':=[.ref 1,.lst (ts.map .int),.tmp 0,z1,z2,.int (-1),.lst [.int x,.int y,.int z],.undef]) (s':=gs g got) rfl (aa (ρ':=[.ref 1,.lst (ts.map .int),.tmp 0,z1,z2,.int (-1),.lst [.int x,.int y,.int z],.undef]) (s':=gs g got) rfl A))
 ·
  refine x23 ((hu d (m d htm)).row) λk q J C H=>?_
  have:exs (prog.cf (n+3)) (cN 3 bb.body) [.ref 1,.lst (ts.map .int),.tmp 0,z1,z2,.int d,.undef,.undef] (gs g got)=some (.ret (.int d),[.ref 1,.lst (ts.map .int),.tmp 0,z1,z2,.int d,.undef,.undef],gs g got):=by
   rcases htv with rfl|rfl|rfl<;>rfl
  exact i34 d [] [d] (by exact aC▸cP rfl rfl (w _ _ _ this) rfl) (by exact aC▸tg.up (Nat.le_succ _) hb) (by exact aC▸ .one J C H) (λx D=>by exact(List.mem_singleton.mp D)▸m d htm)
end
def Nk(nd kd:Nat):Prop:=∀g T,∃fs k0,(mk g T).ob (.ref nd)=some (.inst 5 fs)/\nget fs 40=some (.lst [.ref k0,.ref kd])
theorem zw:Nk 101 100:=λg T=>i22 _ 99 rfl rfl
theorem zu:Nk 104 103:=λg T=>i22 _ 102 rfl rfl
theorem zt:Nk 107 106:=λg T=>i22 _ 105 rfl rfl
theorem Nk.ev{nd kd:Nat}(h:Nk nd kd){g:G}{T:List Ob}{cf:Cf}{ρ:List V}{x:Nat}(ho:cf.own 5 40=true)(hx:lget ρ x=.ref nd):ev cf (.idx (.attr (.loc x) 40) (.lit (.int 1))) ρ (mk g T)=some (.ref kd,mk g T):=by
 refine x22 (h g T) λc d b a=>?_
 exact bo (ei (aR hx nofun) ((cX b ho).trans a)) rfl rfl
def KX(g:G)(x:Int)(c:Bool):Prop:=∃τ:Tm,iget g.of x=some τ.v/\Is g τ x/\∀ (b:Nat) (g:G) (p:Int),Tg b g->Is g τ p->∀j,
 (prog.cf (j+14)).call 38 [.ref 48,.int p] (mk g [])=some (.bool (!c),mk g [])/\(prog.cf (j+14)).call 66 [τ.v] (mk g [])=some (.bool c,mk g [])
section
variable {b n:Nat}{g:G}{T:List Ob}{nd kd:Nat}{A A2 t p:Int}{l:List Int}
theorem KX.fn{x:Int}{c c':Bool}(tg:Tg b g)(h:KX g x c)(h':KX g x c'):c=c':=by
 refine x13 h λτ m i l=>?_
 refine x13 h' λk d j f=>?_
 rw [m] at d
 have e:τ.v=k.v:=Option.some.inj d
 have a:=(l b g x tg i 0).2
 have c:=(f b g x tg j 0).2
 replace a:=c▸e▸a
 cases a;rfl
theorem Br{x:Int}(h:Gd KF b g)(hx:(iget g.of x).isSome=true):∃c,KX g x c:=by
 refine cp λ_ k=>?_
 refine x11 (Option.isSome_iff_exists.mp hx) λv i=>?_
 refine x13 (h.of x v i) λτ d a e=>?_
 refine x21 d λo c K=>?_
 subst a
 refine k ?_
 exact i23 c τ i e (λb g p f e j=>⟨(K b g p f e j).2.2.1,(K b g p f e j).2.2.2⟩)
theorem Bs{g':G}{x:Int}{c:Bool}(h:KX g x c)(x1:Le g g')(ho:g'.of=g.of):KX g' x c:=by
 refine x13 h λτ d a b=>?_
 exact i13 τ (by exact ho▸d) (a.le x1) b
inductive Sp(g:G)(K:List Int):Prop where
 |all (h:∀x∈K,KX g x true)
 |first {K1 K2:List Int} {y:Int} (e:K=K1++y::K2) (h:∀x∈K1,KX g x true) (hy:KX g y false)
theorem yE:∀ {K:List Int},(∀x∈K,∃c,KX g x c)->Sp g K
 |[],_=>.all (by simp)
 |a::r,h=>by
  refine x11 (h a (List.mem_cons_self ..)) λc i=>?_
  cases c with
  |false=>exact .first (K1:=[]) rfl (by simp) i
  |true=>
   rcases yE (λx f=>h x (List.mem_cons_of_mem _ f)) with h'|⟨e,h',hy⟩
   ·exact .all λx f=>by
     refine(List.mem_cons.mp f).elim (λd=>?_) (λf=>?_)
     ·subst d
      exact i
     ·exact h' x f
   ·exact .first (K1:=a::_) (by rw [e];rfl) (λx f=>by
     refine(List.mem_cons.mp f).elim (λb=>?_) (λf=>?_)
     ·subst b
      exact i
     ·exact h' x f) hy
theorem sq{P:V}{all ρ:List V}(hP:bX (mk g []) P all=true)(h0:∀x,lget (lset ρ 13 (.int x)) 0=.ref 16)(h13:∀x,lget (lset ρ 13 (.int x)) 13=.int x)(tg:Tg b g):∀ {K:List Int},(∀x∈K,∃c,KX g x c)->
  ∃B:List Int,jt (λv s=>ev (prog.cf (n+14)) (.not (.call 66 (.cons (.idx (.idx (.loc 0) (.lit (.str ⟨#[111,102]⟩))) (.loc 13)) .nil))) (lset ρ 13 v) s) (λv s=>ev (prog.cf (n+14)) (.loc 13) (lset ρ 13 v) s) P all (K.map .int) (mk g [])=some (B.map .int,mk g [])/\
   ((∀x∈K,KX g x true)->B=[])/\(∀K1 y K2,K=K1++y::K2->(∀x∈K1,KX g x true)->KX g y false->∃r,B=y::r)
 |[],_=>⟨[],rfl,λ_=>rfl,λK1 y K2 e=>by cases K1<;>cases e⟩
 |a::r,h=>by
  refine x11 (h a (List.mem_cons_self ..)) λc i=>?_
  refine cp λ_ q=>?_
  refine x13 (sq hP h0 h13 tg (K:=r) λx d=>h x (List.mem_cons_of_mem _ d)) λB e u p=>?_
  refine x13 (id i) λτ w A z=>?_
  refine q ?_
  have m:ev (prog.cf (n+14)) (.not (.call 66 (.cons (.idx (.idx (.loc 0) (.lit (.str ⟨#[111,102]⟩))) (.loc 13)) .nil))) (lset ρ 13 (.int a)) (mk g [])=some (.bool (!c),mk g []):=by
   have o:ev (prog.cf (n+14)) (.idx (.loc 0) (.lit (.str ⟨#[111,102]⟩))) (lset ρ 13 (.int a)) (mk g [])=some (.ref 13,mk g []):=bo (aR (h0 a) nofun) rfl rfl
   have C:ev (prog.cf (n+14)) (.idx (.idx (.loc 0) (.lit (.str ⟨#[111,102]⟩))) (.loc 13)) (lset ρ 13 (.int a)) (mk g [])=some (τ.v,mk g []):=bo o (aR (h13 a) nofun) w
   exact aw (ai (ae C rfl) (z b g a tg A n).2) rfl
  have t:ev (prog.cf (n+14)) (.loc 13) (lset ρ 13 (.int a)) (mk g [])=some (.int a,mk g []):=aR (h13 a) nofun
  cases c with
  |true=>
   refine i13 B (rK m rfl hP e) (λk=>u λx d=>k x (List.mem_cons_of_mem _ d)) (λK1 y K2 f j l=>?_)
   ·cases K1 with
    |nil=>
     obtain⟨rfl,rfl⟩:=List.cons.inj f
     exact absurd (i.fn tg l) (by decide)
    |cons a' K1=>
     cases f
     exact p K1 y K2 rfl (λx d=>j x (List.mem_cons_of_mem _ d)) l
  |false=>
   refine i13 (a::B) (rJ m rfl t hP e) (λk=>absurd (i.fn tg (k a (List.mem_cons_self ..))) (by decide)) (λK1 y K2 f j l=>?_)
   ·cases K1 with
    |nil=>obtain⟨rfl,rfl⟩:=List.cons.inj f;exact⟨B,rfl⟩
    |cons a' K1=>
     cases f
     exact absurd (i.fn tg (j a (List.mem_cons_self ..))) (by decide)
noncomputable def j7:Sts:=match eC.body with
 |.cons _ (.cons (.for_ _ _ b) _)=>b
 |_=>.nil
theorem mr{all:List V}{top i:Int}(tg:Tg b g):∀ {K:List Int} {z:V},(top=13\/∀x∈K,KX g x true)->
  ∃z',∀r o,exF (exs (prog.cf (n+14)) j7) 4 (.tup all) all r [.ref 48,.ref nd,.int top,.int i,z'] (mk g [])=o->exF (exs (prog.cf (n+14)) j7) 4 (.tup all) all (K.map .int++r) [.ref 48,.ref nd,.int top,.int i,z] (mk g [])=o
 |[],z,_=>⟨z,λr o h=>h⟩
 |a::K,z,h=>by
  obtain⟨z',f⟩:=mr tg (h.imp id λh x d=>h x (List.mem_cons_of_mem _ d))
  refine⟨z',λr o k=>aT (ρ':=[.ref 48,.ref nd,.int top,.int i,.int a]) (s':=mk g []) ?_ rfl (f r o k)⟩
  have c:ev (prog.cf (n+14)) (.cmp .ne (.loc 2) (.glb qC (.int 13))) [.ref 48,.ref nd,.int top,.int i,.int a] (mk g [])=some (.bool (!(top==13)),mk g []):=aq rfl rfl mj
  rcases h with rfl|h
  ·exact aa (ag (v:=.bool false) (bu c rfl) rfl rfl) rfl
  ·refine x13 (h a (List.mem_cons_self ..)) λτ m j e=>?_
   cases ht:(top==13) with
   |true=>rw [ht] at c;exact aa (ag (v:=.bool false) (bu c rfl) rfl rfl) rfl
   |false=>
    rw [ht] at c
    exact aa (ag (v:=.bool false) (aS c rfl (aM (ai (l:=[.ref 48,.int a]) rfl (e b g a tg j n).1))) rfl rfl) rfl
theorem vP{top i:Int}{K:List Int}{ds es ns ms}(hn:Nd nd A)(hk:Nk nd kd)(hn2:Nd kd A2)(htop:top=0\/top=13\/top=2)(P:PI g i K)(hK:∀x∈K,∃c,KX g x c)(hs:∀x∈K,x.natAbs<2 ^ 64)(h:St1 b g ds es ns ms)(hb:b+10<=8000):
  ((top=13\/∀x∈K,KX g x true)->∃g',(prog.cf (n+15)).call 40 [.ref 48,.ref nd,.int top,.int i] (mk g [])=some (.int top,mk g' [])/\Cs g g'/\St1 (b+1) g' ds es (if top=0 then ns++[(1,A)] else ns) ms)/\
  (∀K1 y K2,top≠13->K=K1++y::K2->(∀x∈K1,KX g x true)->KX g y false->∃g',(prog.cf (n+15)).call 40 [.ref 48,.ref nd,.int top,.int i] (mk g [])=some (.int 13,mk g' [])/\Cs g g'/\
   St1 (b+2) g' (gP ds ⟨2538,A2,[aE y]⟩) es (if top=0 then ns++[(1,A)] else ns) ms):=by
 have m:∃a,ex (prog.cf (n+14)) (match eC.body with|.cons s _=>s|_=>.ret0) [.ref 48,.ref nd,.int top,.int i,.undef] (mk g [])=some (.next,[.ref 48,.ref nd,.int top,.int i,.undef],mk a [])/\Cs g a/\St1 (b+1) a ds es (if top=0 then ns++[(1,A)] else ns) ms:=by
  by_cases h0:top=0
  ·subst h0
   refine x13 (cnote (n:=n+12) (c:=1) hn h.cc (by have:=h.nl;have:=h.lid;omega)) λa I b2 b3=>?_
   refine i13 a (ag (v:=.bool true) rfl rfl (aa (bc (aN rfl rfl rfl rfl rfl I) rfl) rfl)) b3 ?_
   exact(if_pos rfl)▸h.code b3 b2 (Nat.le_succ_of_le h.dl) (by rw [List.length_append];exact Nat.succ_le_succ h.nl) (Nat.le_succ _) (by omega)
  ·refine i13 g (ag (v:=.bool false) (aq (x:=.int top) rfl rfl (by simp only [bj,aZ h0])) rfl rfl) (.refl g) ?_
   exact(if_neg h0)▸h.up (Nat.le_succ _) (by omega)
 refine x13 m λa m j e=>?_
 have k:PI a i K:=by
  rcases P with _|⟨h1,h2,h3⟩|h1
  ·exact .never
  ·exact .one (h1.le j.gr.le) h2 h3
  ·exact .many (h1.le j.gr.le)
 have u:∀ {x c},KX g x c->KX a x c:=λh=>Bs h j.gr.le j.sm.2.1
 have f:∀ {o},ex (prog.cf (n+14)) (.for_ 4 (.call 6 (.cons (.attr (.loc 0) 26) (.cons (.loc 3) .nil))) j7) [.ref 48,.ref nd,.int top,.int i,.undef] (mk a [])=o↔exF (exs (prog.cf (n+14)) j7) 4 (.tup (K.map .int)) (K.map .int) (K.map .int) [.ref 48,.ref nd,.int top,.int i,.undef] (mk a [])=o:=λ{o}=>by
  constructor
  ·intro h
   exact h▸(bI (ai rfl (k.parts)) rfl rfl).symm
  ·exact λh=>bI (ai (l:=[.ref 1,.int i]) rfl (k.parts)) rfl h
 constructor
 ·intro R
  refine x11 (mr (n:=n) (nd:=nd) (all:=K.map .int) (i:=i) (z:=.undef) e.d.t (R.imp id λh x w=>u (h x w))) λz q=>?_
  have:=q [] (some (.next,[.ref 48,.ref nd,.int top,.int i,z],mk a [])) rfl
  rw [List.append_nil] at this
  exact i13 a (ah rfl rfl (aa m (aa (f.mpr this) (af (ay rfl)))) rfl) j e
 ·intro K1 y K2 r D p T
  refine cp λ_ Q=>?_
  refine x13 (cfault (n:=n+10) (d:=⟨2538,A2,[aE y]⟩) hn2 e.cc (by have:=e.dl;have:=e.lid;omega)) λB N F C=>?_
  obtain⟨z,q⟩:=mr (all:=K.map .int) e.d.t (.inr λx w=>u (p x w))
  refine x13 (u T) λτ U M L=>?_
  refine Q ?_
  have J:y∈K:=by rw [D];simp
  have O:ev (prog.cf (n+14)) (.cmp .ne (.loc 2) (.glb qC (.int 13))) [.ref 48,.ref nd,.int top,.int i,.int y] (mk a [])=some (.bool true,mk a []):=aq (x:=.int top) rfl rfl (by simp only [mj,aZ r];rfl)
  have H:ev (prog.cf (n+14)) (.tup (.cons (.meth (.loc 0) 35 (.cons (.loc 4) .nil)) .nil)) [.ref 48,.ref nd,.int top,.int i,.int y] (mk a [])=some (.tup [.str (aE y)],mk a []):=
   ci (ae (aN rfl rfl rfl rfl rfl (fx (hs y J))) rfl) (cg rfl)
  have body:exs (prog.cf (n+14)) j7 [.ref 48,.ref nd,.int top,.int i,.int y] (mk a [])=some (.ret (.int 13),[.ref 48,.ref nd,.int top,.int i,.int y],mk B []):=
   af (ag (aS O rfl (aM (ai (l:=[.ref 48,.int y]) rfl (L _ a y e.d.t M n).1))) rfl (aa (bc
    (aN rfl rfl rfl rfl (ae rfl (ae (hk.ev rfl rfl) (ae H rfl))) N) rfl) (af (ay rfl))))
  have:=q ((y::K2).map .int) (some (.ret (.int 13),[.ref 48,.ref nd,.int top,.int i,.int y],mk B [])) (bZ body)
  rw [<-List.map_append,<-D] at this
  exact i13 B (ah rfl rfl (aa m (af (f.mpr this))) rfl) (j.trans C) (e.code C F (Nat.le_trans d8 (Nat.succ_le_succ e.dl)) (Nat.le_succ_of_le e.nl) (Nat.le_succ _) (nle ‹_›))
theorem pools(hl:Nm l){ρ:List V}{k:Int}{all:List V}(h0:∀v,lget (lset ρ 11 v) 0=.ref 16)(h2:∀v,lget (lset ρ 11 v) 2=clo l):∀ {vs:List V} {g:G} {i:Nat},g.ix=Int.ofNat i->i+vs.length<=10000->
  ∃τs:List Tm,evC (λv s=>ev (prog.cf (n+1)) (.idx (.idx (.loc 0) (.lit (.str i9))) (.lcall 2 (.bf .len (.idx (.loc 0) (.lit (.str i9)))))) (lset ρ 11 v) s) (.rng k) all vs (mk g [])=some (τs.map Tm.v,mk (aI g (i+vs.length)) [])/\(∀τ∈τs,τ∈ec)/\τs.length=vs.length
 |[],g,i,hi,hb=>⟨[],by
   have:aI g (i+0)=g:=by unfold aI;rw [Nat.add_zero,<-hi]
   show some ([],mk g [])=some ([],mk (aI g (i+0)) [])
   rw [this],by simp,rfl⟩
 |v::r,g,i,hi,hb=>by
  have h:i+(r.length+1)<=10000:=hb
  refine x12 (ls hl (j:=n) hi (xL ‹_›) (h0 v) (h2 v)) λτ c e=>?_
  refine x13 (pools hl h0 h2 (k:=k) (all:=all) (vs:=r) (g:=aI g (i+1)) rfl (by lia)) λτs a f b=>?_
  refine i13 (τ::τs) ?_ (List.forall_mem_cons.mpr ⟨c,f⟩) (by simp [b])
  have d:aI (aI g (i+1)) (i+1+r.length)=aI g (i+(v::r).length):=by
   exact(show i+1+r.length=i+(r.length+1) by lia)▸rfl
  simp only [d] at a
  exact bJ e rfl a
theorem puts{F:V->S->Option (V×S)}{all:List V}(hF:∀τ s,F (Tm.v τ) s=(prog.cf (n+6)).call 61 [.ref 16,τ.v] s):∀ {τs:List Tm} {b:Nat} {g:G},(∀τ∈τs,τ∈ec)->Gd KF b g->b+12*τs.length<=10000->
  ∃ (ts:List Int) (g':G),evC F (.lst all) all (τs.map Tm.v) (mk g [])=some (ts.map .int,mk g' [])/\Ex g g'/\Gd KF (b+12*τs.length) g'/\ts.length=τs.length/\∀t∈ts,(∃τ∈ec,Is g' τ t)/\(iget g'.of t).isSome=true
 |[],b,g,_,hg,hb=>⟨[],g,rfl,.refl g,hg,rfl,by simp⟩
 |τ::r,b,g,hm,hg,hb=>by
  have u:b+12*(r.length+1)<=10000:=hb
  have L:=dE τ (hm τ (List.mem_cons_self ..))
  refine cp λ_ a=>?_
  refine x25 (fC τ (n:=n+6) hg L.kw L.ok (by have:=L.d;lia) (by have:=L.n;lia)) λp m i o j f l=>?_
  refine a ?_
  refine cp λ_ a=>?_
  refine x25 (puts hF (all:=all) (τs:=r) (b:=b+12) (g:=m) (λx q=>hm x (List.mem_cons_of_mem _ q)) (f.up (by have:=L.n;lia) (by lia)) (by lia)) λts w e x h k c=>?_
  refine a ?_
  refine i25 (p::ts) w (bJ (by rw [hF];exact i) rfl e) (j.trans x) ?_ (by simp [k]) (List.forall_mem_cons.mpr ⟨⟨i12 τ (hm τ (List.mem_cons_self ..)) (o.le x.le),x.dm p l⟩,c⟩)
  have:b+12+12*r.length=b+12*(τ::r).length:=by simp only [List.length_cons];lia
  exact this▸h
noncomputable def loρ(l:List Int)(nd:Nat)(top tms i row parts bad gv:V):List V:=[.ref 16,.ref 48,clo l,.ref nd,top,tms,i,row,parts,bad,gv,.undef,.undef,.undef]
theorem mv{ds ns}(hl:Nm l)(hn:Nd nd A)(hk:Nk nd kd)(hn2:Nd kd A2)(h:St1 b g ds ds ns ns)(hb:b+60<=8000):
  ∃g' ds' ns',(prog.cf (n+16)).call 75 [.ref 16,.ref 48,clo l,.ref nd] (mk g [])=some (.bool true,mk g' [])/\St1 (b+60) g' ds' ds' ns' ns':=by
 refine x12 h.ix λi hi k3=>?_
 refine cp λ_ z=>?_
 refine x12 (bx hl (j:=n+14) (x:=2) (k:=3) (a:=.lit (.int 3)) (ρ:=fr0 bp [.ref 16,.ref 48,clo l,.ref nd]) (T:=[]) hi (by lia) (by decide) rfl rfl) λr1 c6 e1=>?_
 obtain⟨top,htop,hti⟩:∃top:Int,(top=0\/top=13\/top=2)/\item (mk (aI g (i+1)) []) (.lst [.int 0,.int 13,.int 2]) (.int (Int.ofNat r1))=some (.int top):=by
  match r1,c6 with
  |0,_=>exact i12 0 (.inl rfl) rfl
  |1,_=>exact i12 13 (.inr (.inl rfl)) rfl
  |2,_=>exact i12 2 (.inr (.inr rfl)) rfl
 refine z ?_
 have s1:ex (prog.cf (n+15)) (.asg 4 (.idx (.lst .frozen (.cons (.glb qQ (.int 0)) (.cons (.glb qC (.int 13)) (.cons (.glb ⟨#[78,69,86,69,82]⟩ (.int 2)) .nil)))) (.lcall 2 (.lit (.int 3))))) (fr0 bp [.ref 16,.ref 48,clo l,.ref nd]) (mk g [])=
   some (.next,loρ l nd (.int top) .undef .undef .undef .undef .undef .undef,mk (aI g (i+1)) []):=ak (bo rfl e1 hti)
 refine x12 (bx hl (j:=n+14) (x:=2) (k:=4) (a:=.lit (.int 4)) (g:=aI g (i+1)) (ρ:=loρ l nd (.int top) .undef .undef .undef .undef .undef .undef) (T:=[]) rfl (by lia) (by decide) rfl rfl) λC j1 e2=>?_
 refine cp λ_ z=>?_
 refine x13 (pools (n:=n+14) hl (ρ:=loρ l nd (.int top) .undef .undef .undef .undef .undef .undef) (k:=Int.ofNat C) (all:=(List.range C).map λk:Nat=>V.int (k:Int)) (λ_=>rfl) (λ_=>rfl) (vs:=(List.range C).map λk:Nat=>V.int (k:Int)) (g:=aI g (i+2)) rfl (by simp;omega)) λm e3 hτ hz=>?_
 refine z ?_
 have N:((List.range C).map λk:Nat=>V.int (k:Int)).length=C:=by simp
 replace e3:=N▸e3
 have s2:ex (prog.cf (n+15)) (.asg 5 (.comp .frozen (.idx (.idx (.loc 0) (.lit (.str i9))) (.lcall 2 (.bf .len (.idx (.loc 0) (.lit (.str i9)))))) 11 (.bf .range (.lcall 2 (.lit (.int 4)))))) (loρ l nd (.int top) .undef .undef .undef .undef .undef .undef) (mk (aI g (i+1)) [])=
   some (.next,loρ l nd (.int top) (.lst (m.map Tm.v)) .undef .undef .undef .undef .undef,mk (aI g (i+2+C)) []):=by
  refine ak (dd (s1:=mk (aI g (i+2)) []) (ch e2 ?_) rfl e3)
  show(if(0:Int)<=Int.ofNat C/\Int.ofNat C<=(lim:Nat) then some (V.rng (Int.ofNat C)) else none)=_
  rw [if_pos ⟨Int.natCast_nonneg _,by have:lim=1048576:=rfl;show(C:Int)<=(lim:Nat);omega⟩]
 have S2:=h.draw (c:=b+6) (i:=i+2+C) (by lia) (Nat.le_add_right _ _) (nle ‹_›)
 refine cp λ_ z=>?_
 refine x25 (puts (F:=λv s=>ev (prog.cf (n+15)) (E.call 61 (Es.cons (E.loc 0) (Es.cons (E.loc 12) Es.nil))) (lset (loρ l nd (.int top) (.lst (m.map Tm.v)) .undef .undef .undef .undef .undef) 12 v) s) (all:=m.map Tm.v) (λτ s=>nq rfl rfl) hτ S2.d (by lia)) λts w e4 x3 G3 f ht=>?_
 refine z ?_
 have S3:=(S2.term (c:=b+42) x3 (G3.up (by lia) (nle ‹_›)) (Nat.add_le_add_left (by decide) _) (nle ‹_›))
 refine cp λ_ z=>?_
 refine x34 (tn (n:=n+11) (λt c4=>let⟨⟨τ,h1,H⟩,_⟩:=ht t c4;r6 τ h1 w t H) (by lia) S3.d.t (nlt ‹_›)) λu Y K u1 u2 u3 u4=>?_
 refine z ?_
 have W:=S3.rows u2 (Nat.le_add_right _ _) (nlt ‹_›)
 have x4:Le w (ac w Y):=.add w Y
 have s3:ex (prog.cf (n+15)) (.asg 6 (.call 12 (.cons (.idx (.loc 0) (.lit (.str qj))) (.cons (.comp .frozen (.call 61 (.cons (.loc 0) (.cons (.loc 12) .nil))) 12 (.loc 5)) .nil)))) (loρ l nd (.int top) (.lst (m.map Tm.v)) .undef .undef .undef .undef .undef) (mk (aI g (i+2+C)) [])=
   some (.next,loρ l nd (.int top) (.lst (m.map Tm.v)) (.int u) .undef .undef .undef .undef,mk (ac w Y) []):=
  ak (ai (ae (v:=.ref 1) rfl (ae (dd rfl rfl e4) rfl)) u1)
 have uf:∀x∈K,UF (ac w Y) x:=λx O=>let⟨⟨τ,h1,H⟩,_⟩:=ht x (u4 x O);r6 τ h1 _ x (H.le x4)
 have kx:∀x∈K,∃c,KX (ac w Y) x c:=λx O=>Br W.d (ht x (u4 x O)).2
 have sm:∀x∈K,x.natAbs<2 ^ 64:=λx O=>x22 ((uf x O).row) λk q hr _=>dJ W.d.t hr
 refine cp λ_ z=>?_
 obtain⟨ur,uk,urow⟩:∃ (r:List V) (k:Int),aB (ac w Y) u (.int k::r):=by
  rcases u3 with _|⟨h1,_,_⟩|h1
  ·exact i21 _ _ (aj rfl)
  ·exact i21 _ _ h1
  ·exact i21 _ _ h1
 have s4:ex (prog.cf (n+15)) (.asg 7 (.idx (.attr (.idx (.loc 0) (.lit (.str qj))) 0) (.loc 6))) (loρ l nd (.int top) (.lst (m.map Tm.v)) (.int u) .undef .undef .undef .undef) (mk (ac w Y) [])=
   some (.next,loρ l nd (.int top) (.lst (m.map Tm.v)) (.int u) (.tup (.int uk::ur)) .undef .undef .undef,mk (ac w Y) []):=
  ak (bo (x:=.ref 2) rfl rfl (gf urow))
 have s5:∃P,ex (prog.cf (n+15)) (match bp.body with|.cons _ (.cons _ (.cons _ (.cons _ (.cons s _))))=>s|_=>.ret0) (loρ l nd (.int top) (.lst (m.map Tm.v)) (.int u) (.tup (.int uk::ur)) .undef .undef .undef) (mk (ac w Y) [])=
   some (.next,loρ l nd (.int top) (.lst (m.map Tm.v)) (.int u) (.tup (.int uk::ur)) P .undef .undef,mk (ac w Y) [])/\(P=.lst (K.map .int)\/P=.tup (K.map .int)):=by
  rcases u3 with _|⟨h1,hk6,H⟩|h1
  ·exact i12 (.lst []) (ak (cx (v:=.bool true) rfl rfl rfl)) (.inl rfl)
  ·have:=urow.fn h1
   refine cp λ_ z=>?_
   injection this with e _;injection e with e
   subst e
   refine z ?_
   exact i12 (.lst [.int u]) (ak (cx (v:=.bool false) (aq (x:=.int u) rfl rfl (by rw [bj,aZ H])) rfl (cx (aq rfl rfl (by rw [bj,aZ hk6])) rfl rfl))) (.inl rfl)
  ·have H:u≠2:=h1.ne rfl (aF (by decide))
   have:=urow.fn h1
   cases this
   exact i12 (.tup (K.map .int)) (ak (cx (aq (x:=.int u) rfl rfl (by rw [bj,aZ H])) rfl (cx (v:=.bool true) (s1:=mk (ac w Y) []) rfl rfl rfl))) (.inr rfl)
 obtain⟨P,s5,Z⟩:=s5
 have d5:P≠ .undef:=by rcases Z with rfl|rfl<;>exact nofun
 have a5:iter? (mk (ac w Y) []) P=some (K.map .int):=by rcases Z with rfl|rfl<;>rfl
 have a9:bX (mk (ac w Y) []) P (K.map .int)=true:=by rcases Z with rfl|rfl<;>rfl
 refine x13 (sq (n:=n+1) (P:=P) (all:=K.map .int) (ρ:=loρ l nd (.int top) (.lst (m.map Tm.v)) (.int u) (.tup (.int uk::ur)) P .undef .undef) a9 (λ_=>rfl) (λ_=>rfl) W.d.t kx) λB e6 b1 b2=>?_
 have s6:ex (prog.cf (n+15)) (.asg 9 (.compIf (.loc 13) 13 (.loc 8) (.not (.call 66 (.cons (.idx (.idx (.loc 0) (.lit (.str ⟨#[111,102]⟩))) (.loc 13)) .nil))))) (loρ l nd (.int top) (.lst (m.map Tm.v)) (.int u) (.tup (.int uk::ur)) P .undef .undef) (mk (ac w Y) [])=
   some (.next,loρ l nd (.int top) (.lst (m.map Tm.v)) (.int u) (.tup (.int uk::ur)) P (.lst (B.map .int)) .undef,mk (ac w Y) []):=
  ak (x:=9) (iX (aR rfl d5) a5 e6)
 have go:∀o,exs (prog.cf (n+15)) (cN 6 bp.body) (loρ l nd (.int top) (.lst (m.map Tm.v)) (.int u) (.tup (.int uk::ur)) P (.lst (B.map .int)) .undef) (mk (ac w Y) [])=o->exs (prog.cf (n+15)) bp.body (fr0 bp [.ref 16,.ref 48,clo l,.ref nd]) (mk g [])=o:=λo ho=>
  aa s1 (aa s2 (aa s3 (aa s4 (aa s5 (aa s6 ho)))))
 refine x02 (vP (n:=n) hn hk hn2 htop u3 kx sm W (nlt ‹_›)) λq1 q2=>?_
 refine z ?_
 have I:∀ {c:Nat} {M:G} {ds' ns':_} (U:V),St1 c M ds' ds ns' ns->c+2<=8000->∃p,ex (prog.cf (n+15)) (match bp.body with|.cons _ (.cons _ (.cons _ (.cons _ (.cons _ (.cons _ (.cons _ (.cons s _)))))))=>s|_=>.ret0) (loρ l nd (.int top) (.lst (m.map Tm.v)) (.int u) (.tup (.int uk::ur)) P (.lst (B.map .int)) U) (mk M [])=
   some (.next,loρ l nd (.int top) (.lst (m.map Tm.v)) (.int u) (.tup (.int uk::ur)) P (.lst (B.map .int)) U,mk p [])/\St1 (c+1) p ds' ds ns' (if top=0 then ns++[(1,A)] else ns):=by
  intro c M ds' ns' U J hc
  by_cases h0:top=0
  ·subst h0
   refine x13 (hH (n:=n+15) (c:=1) (ρ:=loρ l nd (.int 0) (.lst (m.map Tm.v)) (.int u) (.tup (.int uk::ur)) P (.lst (B.map .int)) U) (x:=3) (nm:=⟨#[85,95,65,78,89]⟩) hn J.ll (by have:=J.ml;have:=J.lid;omega) rfl rfl) λp v1 v2 v3=>?_
   refine i12 p (ag (v:=.bool true) (s1:=mk M []) rfl rfl (aa v1 rfl)) ?_
   exact(if_pos rfl)▸J.law v3 v2 (Nat.le_succ_of_le J.el) (by rw [List.length_append];exact Nat.succ_le_succ J.ml) (Nat.le_succ _) (nle ‹_›)
  ·refine i12 M (ag (aq (x:=.int top) (y:=.int 0) rfl rfl (by rw [bj,aZ h0])) rfl rfl) ?_
   exact(if_neg h0)▸J.up (Nat.le_succ _) (nle ‹_›)
 have R:∀s:S,ev (prog.cf (n+15)) (.cmp .eq (.bf .len (.loc 9)) (.lit (.int 0))) (loρ l nd (.int top) (.lst (m.map Tm.v)) (.int u) (.tup (.int uk::ur)) P (.lst (B.map .int)) (.int top)) s=some (.bool (((B.length:Nat):Int)==0),s):=λs=>
  aq (ch rfl (by show some (V.int ((B.map V.int).length:Nat))=_;rw [List.length_map])) rfl rfl
 have D:(top=13\/∀x∈K,KX (ac w Y) x true)->∃g' ds' ns',(prog.cf (n+16)).call 75 [.ref 16,.ref 48,clo l,.ref nd] (mk g [])=some (.bool true,mk g' [])/\St1 (b+60) g' ds' ds' ns' ns':=by
  intro hq
  refine cp λ_ z=>?_
  refine x13 (q1 hq) λM c1 c2 c3=>?_
  refine z ?_
  refine x12 (I (.int top) c3 (nlt ‹_›)) λp d1 L=>?_
  have X:top=13\/B=[]:=hq.imp id b1
  have Q:evB (prog.cf (n+15)) (.cons (.cmp .eq (.loc 4) (.glb qC (.int 13))) (.cons (.cmp .eq (.bf .len (.loc 9)) (.lit (.int 0))) .nil)) (loρ l nd (.int top) (.lst (m.map Tm.v)) (.int u) (.tup (.int uk::ur)) P (.lst (B.map .int)) (.int top)) false (mk p [])=some (.bool true,mk p []):=by
   have a1:ev (prog.cf (n+15)) (.cmp .eq (.loc 4) (.glb qC (.int 13))) (loρ l nd (.int top) (.lst (m.map Tm.v)) (.int u) (.tup (.int uk::ur)) P (.lst (B.map .int)) (.int top)) (mk p [])=some (.bool (top==13),mk p []):=aq rfl rfl bj
   cases h13:(top==13) with
   |true=>replace a1:=h13▸a1;exact bu a1 rfl
   |false=>
    replace a1:=h13▸a1
    have d4:B=[]:=X.resolve_left (by simpa using h13)
    have:=R (mk p [])
    rw [d4] at this ⊢
    exact aS ‹_› rfl (aM this)
  exact i32 p _ _ (ah (fn:=bp) rfl rfl (go _ (aa (ak (x:=10) (ai (l:=[.ref 48,.ref nd,.int top,.int u]) (s1:=mk (ac w Y) []) rfl c1)) (aa d1 (af (ag Q rfl (af (ay (aq (x:=.int top) (y:=.int top) rfl rfl iu)))))))) rfl) (L.up (by omega) (by omega))
 by_cases h13:top=13
 ·exact D (.inl h13)
 ·rcases yE kx with hall|⟨ek,hk1,hy⟩
  ·exact D (.inr hall)
  ·rename_i K1 K2 y
   refine cp λ_ z=>?_
   obtain⟨br,X⟩:=b2 K1 y K2 ek hk1 hy
   refine x13 (q2 K1 y K2 h13 ek hk1 hy) λM c1 c2 c3=>?_
   refine x12 (I (.int 13) c3 (nlt ‹_›)) λp d1 L=>?_
   refine x13 (ltell (n:=n+14) (d:=⟨2538,A2,[aE y]⟩) L.ll (by have:=L.el;have:=L.lid;omega)) λg7 v1 v2 v3=>?_
   refine z ?_
   have S7:=L.law (c:=b+60) v3 v2 (Nat.le_trans d8 (by have:=h.el;omega)) (Nat.le_trans L.ml (by omega)) (by omega) (by omega)
   have a1:ev (prog.cf (n+15)) (.cmp .eq (.loc 4) (.glb qC (.int 13))) (loρ l nd (.int top) (.lst (m.map Tm.v)) (.int u) (.tup (.int uk::ur)) P (.lst (B.map .int)) (.int 13)) (mk p [])=some (.bool false,mk p []):=aq (x:=.int top) (y:=.int 13) rfl rfl (by rw [bj,aZ h13])
   have a2:ev (prog.cf (n+15)) (.cmp .eq (.bf .len (.loc 9)) (.lit (.int 0))) (loρ l nd (.int top) (.lst (m.map Tm.v)) (.int u) (.tup (.int uk::ur)) P (.lst (B.map .int)) (.int 13)) (mk p [])=some (.bool false,mk p []):=
    aq (ch rfl (by show some (V.int ((B.map V.int).length:Nat))=_;rw [List.length_map])) rfl (by rw [bj,X];exact congrArg some (aZ (by simp only [List.length_cons];omega)))
   have ey:ev (prog.cf (n+15)) (.idx (.loc 9) (.lit (.int 0))) (loρ l nd (.int top) (.lst (m.map Tm.v)) (.int u) (.tup (.int uk::ur)) P (.lst (B.map .int)) (.int 13)) (mk p [])=some (.int y,mk p []):=by
    rw [X];rfl
   have ym:y∈K:=by rw [ek];simp
   have a0:ev (prog.cf (n+15)) (.attr (.idx (.attr (.loc 3) 40) (.lit (.int 1))) 23) (loρ l nd (.int top) (.lst (m.map Tm.v)) (.int u) (.tup (.int uk::ur)) P (.lst (B.map .int)) (.int 13)) (mk p [])=some (.int A2,mk p []):=by
    refine x12 (hn2 p []) λfs h1 H=>?_
    exact ei (hk.ev rfl rfl) ((cX h1 rfl).trans H)
   have ew:ev (prog.cf (n+15)) (.tup (.cons (.bf .str (.idx (.loc 9) (.lit (.int 0)))) .nil)) (loρ l nd (.int top) (.lst (m.map Tm.v)) (.int u) (.tup (.int uk::ur)) P (.lst (B.map .int)) (.int 13)) (mk p [])=some (.tup [.str (aE y)],mk p []):=
    ci (ae (ch ey (str_int (sm y ym))) rfl) (cg rfl)
   exact i32 g7 _ _ (ah (fn:=bp) rfl rfl (go _ (aa (ak (x:=10) (ai (l:=[.ref 48,.ref nd,.int top,.int u]) (s1:=mk (ac w Y) []) rfl c1)) (aa d1 (aa (ag (aS a1 rfl (aM a2)) rfl rfl)
    (af (ay (aq rfl (ai (ae (v:=.ref 16) rfl (ae (v:=.int 2538) rfl (ae a0 (ae ew rfl)))) v1) iu))))))) rfl) S7
end
theorem tI{d:Dg}:same d d=true:=by unfold same;simp only [beq_self_eq_true,lm];rfl
theorem rV:∀ {ds:List Dg},veqs (veq bP) (ds.map Dg.tv) (ds.map Dg.tv)=some true
 |[]=>rfl
 |d::r=>by
  have h:veq bP d.tv d.tv=some true:=by
   have:=rX (e:=d) (d:=d)
   unfold gu at this
   have a:plain d.tv=true:=by show(true&& (true&& (plains (d.ss.map V.str)&&true)))=true;rw [cD];rfl
   rw [a] at this
   simp only [tI] at this
   exact this
  show(match veq bP d.tv d.tv,veqs (veq bP) (r.map Dg.tv) (r.map Dg.tv) with|some x,some y=>some (x&&y)|_,_=>none)=_
  rw [h,rV];rfl
theorem lu:∀ {ds:List Dg},plains (ds.map Dg.tv)=true
 |[]=>rfl
 |d::r=>by
  show((true&& (true&& (plains (d.ss.map V.str)&&true)))&&plains (r.map Dg.tv))=true
  rw [cD,lu (ds:=r)];rfl
theorem rW:∀ {ns:List (Int×Int)},veqs (veq bP) (ns.map nv) (ns.map nv)=some true
 |[]=>rfl
 |x::r=>by
  show(match some ((x.1==x.1)&& ((x.2==x.2)&&true)),veqs (veq bP) (r.map nv) (r.map nv) with|some x,some y=>some (x&&y)|_,_=>none)=_
  simp only [beq_self_eq_true,rW (ns:=r)];rfl
theorem lx:∀ {ns:List (Int×Int)},plains (ns.map nv)=true
 |[]=>rfl
 |x::r=>lx (ns:=r)
section
variable {b n:Nat}{g:G}{T:List Ob}{nd kd:Nat}{A A2 t p:Int}{l:List Int}
theorem zo{k:Nat}{d:Dg}(h:g.ex[k]?=some d.ob):(prog.cf (n+1)).call 46 [.ref (108+k)] (mk g [])=some (d.tv,mk g []):=by
 have f:(mk g []).ob (.ref (108+k))=some d.ob:=by rw [oh];exact h
 have at_:∀b v,prog.own 2 b=true->nget [(43,V.int d.n),(23,.int d.a),(44,d.av),(24,.str qv)] b=some v->ev (prog.cf n) (.attr (.loc 0) b) [.ref (108+k)] (mk g [])=some (v,mk g []):=λb v e c=>by
  exact ei (v:=.ref (108+k)) rfl ((cX f e).trans c)
 exact ah rfl rfl (af (ay (ci (ae (at_ 43 _ rfl rfl) (ae (at_ 23 _ rfl rfl) (ae (at_ 44 _ rfl rfl) rfl))) (cg rfl)))) yK
noncomputable def lwρ(l:List Int)(lap nd way right told:V):List V:=[.none,.lst (l.map .int),.ref 0,clo l,.ref 1,.ref 16,.ref 48,.ref 98,.int 2,.lst [.ref 105,.ref 106],lap,nd,way,right,told,.undef,.undef]
theorem li{ρ all:List V}(hd:g.dg=all)(h16:∀v,lget (lset ρ 16 v) 16=v):∀ {rs:List Nat} {ds:List Dg},dq g rs ds->
  evC (λv s=>ev (prog.cf (n+1)) (.meth (.loc 16) 100 .nil) (lset ρ 16 v) s) (.ref 45) all (rs.map V.ref) (mk g [])=some (ds.map Dg.tv,mk g [])
 |_,_,.nil=>rfl
 |_,_,.cons (k:=k) (d:=d) h t=>by
  have b:bX (mk g []) (.ref 45) all=true:=by
   exact decide_eq_true (by show some g.dg=some all;exact(hd)▸rfl)
  have a:(mk g []).ob (.ref (108+k))=some d.ob:=by rw [oh];exact h
  refine bJ ?_ b (li hd h16 t)
  exact aN (aR (h16 _) nofun) a rfl rfl rfl (zo h)
noncomputable def jz:Sts:=match cN 7 jm.body with
 |.cons (.for_ _ _ b) _=>b
 |_=>.nil
theorem zG{ds ns}{lap:Int}{a1 a2 a3 a4:V}(hl:Nm l)(h:St1 b g ds ds ns ns)(hb:b+64<=8000):
  ∃a1' a2' a3' a4' g' ds' ns',exs (prog.cf (n+16)) jz (lwρ l (.int lap) a1 a2 a3 a4) (mk g [])=some (.next,lwρ l (.int lap) a1' a2' a3' a4',mk g' [])/\St1 (b+64) g' ds' ds' ns' ns':=by
 refine x12 h.ix λi O Z=>?_
 refine x12 (bx hl (j:=n+15) (x:=3) (k:=3) (a:=.lit (.int 3)) (ρ:=lwρ l (.int lap) a1 a2 a3 a4) (T:=[]) O (by lia) (by decide) rfl rfl) λr H U=>?_
 refine cp λ_ o=>?_
 obtain⟨nd,A,kd,A2,hn,hk,hn2,hit⟩:∃ (nd:Nat) (A:Int) (kd:Nat) (A2:Int),Nd nd A/\Nk nd kd/\Nd kd A2/\item (mk (aI g (i+1)) []) (.ref 98) (.int (Int.ofNat r))=some (.ref nd):=by
  exact lt3 (P:=λr=>∃ (nd:Nat) (A:Int) (kd:Nat) (A2:Int),Nd nd A/\Nk nd kd/\Nd kd A2/\item (mk (aI g (i+1)) []) (.ref 98) (.int (Int.ofNat r))=some (.ref nd)) ⟨101,2,100,4,zB,zw,zC,rfl⟩ ⟨104,11,103,13,zz,zu,zA,rfl⟩ ⟨107,20,106,22,zx,zt,zy,rfl⟩ r H
 refine o ?_
 have s1:ex (prog.cf (n+16)) (.asg 11 (.idx (.loc 7) (.lcall 3 (.lit (.int 3))))) (lwρ l (.int lap) a1 a2 a3 a4) (mk g [])=some (.next,lwρ l (.int lap) (.ref nd) a2 a3 a4,mk (aI g (i+1)) []):=
  ak (bo rfl U hit)
 refine cp λ_ o=>?_
 obtain⟨e,i2,hi2,s2,hway⟩:∃ (e:Nat) (i2:Nat),(i+1<=i2/\i2<=i+2)/\ex (prog.cf (n+16)) (.asg 12 (.ite (.cmp .eq (.loc 10) (.lit (.int 0))) (.lit (.int 0)) (.lcall 3 (.lit (.int 5))))) (lwρ l (.int lap) (.ref nd) a2 a3 a4) (mk (aI g (i+1)) [])=
   some (.next,lwρ l (.int lap) (.ref nd) (.int (Int.ofNat e)) a3 a4,mk (aI g i2) [])/\e<5:=by
  have c:ev (prog.cf (n+16)) (.cmp .eq (.loc 10) (.lit (.int 0))) (lwρ l (.int lap) (.ref nd) a2 a3 a4) (mk (aI g (i+1)) [])=some (.bool (lap==0),mk (aI g (i+1)) []):=aq rfl rfl bj
  cases h0:(lap==0) with
  |true=>
   replace c:=h0▸c
   exact i23 0 (i+1) ⟨Nat.le_refl _,(Nat.add_le_add_left (by decide) _)⟩ (ak (cx c rfl rfl)) (by decide)
  |false=>
   replace c:=h0▸c
   refine x12 (bx hl (j:=n+15) (x:=3) (k:=5) (a:=.lit (.int 5)) (g:=aI g (i+1)) (ρ:=lwρ l (.int lap) (.ref nd) a2 a3 a4) (T:=[]) rfl (by lia) (by decide) rfl rfl) λr2 z X=>?_
   exact i23 r2 (i+2) ⟨(Nat.add_le_add_left (by decide) _),Nat.le_refl _⟩ (ak (cx c rfl X)) z
 refine o ?_
 have B:=h.draw (c:=b+2) (i:=i2) (by lia) (Nat.le_add_right _ _) (nle ‹_›)
 have u:∃f d m,ex (prog.cf (n+16)) (match jz with|.cons _ (.cons _ (.cons s _))=>s|_=>.ret0) (lwρ l (.int lap) (.ref nd) (.int (Int.ofNat e)) a3 a4) (mk (aI g i2) [])=some (.next,lwρ l (.int lap) (.ref nd) (.int (Int.ofNat e)) (.bool true) a4,mk f [])/\St1 (b+62) f d d m m:=by
  refine cp λ_ o=>?_
  refine x32 (mw (n:=n) hl hn B (by omega)) λw D F t C=>?_
  refine o ?_
  refine cp λ_ o=>?_
  refine x32 (mv (n:=n) hl hn hk hn2 B (by omega)) λQ K nb cb Sb=>?_
  refine o ?_
  refine cp λ_ o=>?_
  refine x32 (mu (n:=n) hl hn B (by omega)) λM Y nc cc L=>?_
  refine o ?_
  exact lt5 (P:=λe=>∃f d m,ex (prog.cf (n+16)) (match jz with|.cons _ (.cons _ (.cons s _))=>s|_=>.ret0) (lwρ l (.int lap) (.ref nd) (.int (Int.ofNat e)) a3 a4) (mk (aI g i2) [])=some (.next,lwρ l (.int lap) (.ref nd) (.int (Int.ofNat e)) (.bool true) a4,mk f [])/\St1 (b+62) f d d m m)
   ⟨w,D,F,ag (v:=.bool true) (s1:=mk (aI g i2) []) rfl rfl (aa (ak (x:=13) (ai (l:=[.ref 16,.ref 48,clo l,.ref nd]) (s1:=mk (aI g i2) []) rfl t)) rfl),C⟩
   ⟨w,D,F,ag (v:=.bool true) (s1:=mk (aI g i2) []) rfl rfl (aa (ak (x:=13) (ai (l:=[.ref 16,.ref 48,clo l,.ref nd]) (s1:=mk (aI g i2) []) rfl t)) rfl),C⟩
   ⟨w,D,F,ag (v:=.bool true) (s1:=mk (aI g i2) []) rfl rfl (aa (ak (x:=13) (ai (l:=[.ref 16,.ref 48,clo l,.ref nd]) (s1:=mk (aI g i2) []) rfl t)) rfl),C⟩
   ⟨Q,K,nb,ag (v:=.bool false) (s1:=mk (aI g i2) []) rfl rfl (aa (ag (v:=.bool true) (s1:=mk (aI g i2) []) rfl rfl (aa (ak (x:=13) (ai (l:=[.ref 16,.ref 48,clo l,.ref nd]) (s1:=mk (aI g i2) []) rfl cb)) rfl)) rfl),Sb⟩
   ⟨M,Y,nc,ag (v:=.bool false) (s1:=mk (aI g i2) []) rfl rfl (aa (ag (v:=.bool false) (s1:=mk (aI g i2) []) rfl rfl (aa (ak (x:=13) (ai (l:=[.ref 16,.ref 48,clo l,.ref nd]) (s1:=mk (aI g i2) []) rfl cc)) rfl)) rfl),L⟩
   e hway
 refine cp λ_ o=>?_
 refine x32 u λf d m u p=>?_
 refine o ?_
 refine x12 p.cc.1 λrs I q=>?_
 have N:ex (prog.cf (n+16)) (.asg 14 (.comp .frozen (.meth (.loc 16) 100 .nil) 16 (.attr (.attr (.loc 6) 48) 0))) (lwρ l (.int lap) (.ref nd) (.int (Int.ofNat e)) (.bool true) a4) (mk f [])=some (.next,lwρ l (.int lap) (.ref nd) (.int (Int.ofNat e)) (.bool true) (.lst (d.map Dg.tv)),mk f []):=
  ak (x:=14) (dd (v:=.ref 45) (l:=rs.map V.ref) (s1:=mk f []) rfl (by show some f.dg=_;exact(I)▸rfl) (li (n:=n+15) I (λv=>rfl) q))
 have R:ev (prog.cf (n+16)) (.not (.loc 13)) (lwρ l (.int lap) (.ref nd) (.int (Int.ofNat e)) (.bool true) (.lst (d.map Dg.tv))) (mk f [])=some (.bool false,mk f []):=rfl
 have J:ev (prog.cf (n+16)) (.cmp .ne (.loc 14) (.idx (.loc 5) (.lit (.str qG)))) (lwρ l (.int lap) (.ref nd) (.int (Int.ofNat e)) (.bool true) (.lst (d.map Dg.tv))) (mk f [])=some (.bool false,mk f []):=by
  refine aq (x:=.lst (d.map Dg.tv)) (y:=.ref 14) rfl rfl ?_
  show(if(d.map Dg.tv).length=f.told.length then(if(plains (d.map Dg.tv)&&plains f.told)=true then veqs (veq bP) (d.map Dg.tv) f.told else none) else some false).map (!·)=_
  rw [show f.told=d.map Dg.tv from p.ll.1,if_pos rfl,lu,if_pos (show(true&&true)=true from rfl),rV];rfl
 have W:ev (prog.cf (n+16)) (.cmp .ne (.attr (.attr (.loc 6) 49) 0) (.idx (.loc 5) (.lit (.str qu)))) (lwρ l (.int lap) (.ref nd) (.int (Int.ofNat e)) (.bool true) (.lst (d.map Dg.tv))) (mk f [])=some (.bool false,mk f []):=by
  refine aq (x:=.ref 47) (y:=.ref 15) rfl rfl ?_
  show(if f.nt.length=f.notes.length then(if(plains f.nt&&plains f.notes)=true then veqs (veq bP) f.nt f.notes else none) else some false).map (!·)=_
  rw [p.cc.2,p.ll.2,if_pos rfl,lx,if_pos (show(true&&true)=true from rfl),rW];rfl
 exact i72 _ _ _ _ f d m (aa s1 (aa s2 (aa u (aa N (aa (ag (aS R rfl (aS J rfl (aM W))) rfl rfl) rfl))))) (p.up (Nat.add_le_add_left (by decide) _) (by omega))
theorem su(hl:Nm l){k:Int}{all:List V}:∀ {is:List Int} {b:Nat} {g:G} {ds ns} {a0 a1 a2 a3 a4:V},St1 b g ds ds ns ns->b+64*is.length<=8000->
  ∃a0' a1' a2' a3' a4' g',exF (exs (prog.cf (n+16)) jz) 10 (.rng k) all (is.map .int) (lwρ l a0 a1 a2 a3 a4) (mk g [])=some (.next,lwρ l a0' a1' a2' a3' a4',mk g' [])
 |[],b,g,ds,ns,a0,a1,a2,a3,a4,h,hb=>⟨a0,a1,a2,a3,a4,g,rfl⟩
 |i::r,b,g,ds,ns,a0,a1,a2,a3,a4,h,hb=>by
  have x:b+64*(r.length+1)<=8000:=hb
  refine cp λ_ a=>?_
  refine x72 (zG (n:=n) (lap:=i) (a1:=a1) (a2:=a2) (a3:=a3) (a4:=a4) hl h (by omega)) λm d f j g' q u e S=>?_
  refine a ?_
  refine cp λ_ a=>?_
  refine x61 (su hl (k:=k) (all:=all) (is:=r) (a0:=.int i) (a1:=m) (a2:=d) (a3:=f) (a4:=j) S (by omega)) λv w p t o c s=>?_
  refine a ?_
  exact i61 v w p t o c (aT (ρ':=lwρ l (.int i) m d f j) (s':=mk g' []) e rfl s)
end
noncomputable def mf:List (List V)->Bool
 |[]=>true
 |a::r=> !(r.any (V.beqs a ·))&&mf r
theorem jZ:∀ {l:List (List V)},mf l=true->l.Nodup
 |[],_=>List.nodup_nil
 |a::r,h=>by
  simp only [mf,Bool.and_eq_true,Bool.not_eq_true'] at h
  rw [List.nodup_cons]
  refine⟨λq=>?_,jZ h.2⟩
  rw [List.any_eq_false] at h
  exact h.1 a q (V.beqs_iff.mpr rfl)
theorem Cg:mf R0=true:=by kernel_rfl
theorem St1.start:St1 0 g0 [] [] [] []:=by
 refine⟨⟨⟨?_,by decide,by decide⟩,by decide,λx v e=>by exact nn e⟩,i12 0 rfl (Nat.le_refl _),⟨i12 [] rfl .nil,rfl⟩,⟨rfl,rfl⟩,by decide,by decide,by decide,by decide,by decide⟩
 have:=jZ Cg
 show(R0++[]).Nodup
 exact this
theorem tP{l:List Int}(hl:Nm l):∃ρ' s',exs (prog.cf 30) jm.body (ρ0 (.lst (l.map .int))) ⟨[.list [.int 0]],[]⟩=some (.ret (.bool true),ρ',s'):=by
 refine x12 (bx hl (j:=29) (x:=3) (a:=.lit (.int 4)) (g:=g0) (i:=0) (ρ:=lwρ l .undef .undef .undef .undef .undef) (T:=[]) rfl (by decide) (by decide) rfl rfl) λr t e=>?_
 have S:=St1.start.draw (c:=1) (i:=1) (by lia) (by lia) (by lia)
 have b:∃is:List Int,iter? (mk (aI g0 1) []) (.rng (Int.ofNat (2+r)))=some (is.map V.int)/\is.length=2+r:=by
  refine⟨(List.range (2+r)).map λk:Nat=>(k:Int),?_,by simp⟩
  rw [List.map_map];rfl
 refine x12 b λis f d=>?_
 refine cp λ_ o=>?_
 refine x61 (su (n:=14) hl (k:=Int.ofNat (2+r)) (all:=is.map .int) (is:=is) (a0:=.undef) (a1:=.undef) (a2:=.undef) (a3:=.undef) (a4:=.undef) S (by refine d▸?_;lia)) λa0 a1 a2 a3 a4 h p=>?_
 refine o ?_
 have s:ev (prog.cf 30) (.bin .add (.lit (.int 2)) (.lcall 3 (.lit (.int 4)))) (lwρ l .undef .undef .undef .undef .undef) (mk g0 [])=some (.int (Int.ofNat (2+r)),mk (aI g0 1) []):=by
  have m:ev (prog.cf 30) (.lit (.int 2)) (lwρ l .undef .undef .undef .undef .undef) (mk g0 [])=some (.int 2,mk g0 []):=rfl
  exact iY m e rfl
 have q:ev (prog.cf 30) (.bf .range (.bin .add (.lit (.int 2)) (.lcall 3 (.lit (.int 4))))) (lwρ l .undef .undef .undef .undef .undef) (mk g0 [])=some (.rng (Int.ofNat (2+r)),mk (aI g0 1) []):=by
  refine ch s ?_
  show(if(0:Int)<=Int.ofNat (2+r)/\Int.ofNat (2+r)<=(lim:Nat) then some (V.rng (Int.ofNat (2+r))) else none)=_
  rw [if_pos ⟨Int.natCast_nonneg _,by have:lim=1048576:=rfl;show((2+r:Nat):Int)<=(lim:Nat);lia⟩]
 exact i21 (lwρ l a0 a1 a2 a3 a4) (mk h [.idict []]) (dL (tH _) (aa (ρ':=lwρ l a0 a1 a2 a3 a4) (s':=mk h []) (bI q f p) (af (ay rfl))))
end Mine
end
section
set_option maxRecDepth 100000
set_option maxHeartbeats 4000000
namespace Mine
open PySem PySem.W PyProof.Rows PySem.SeqAt PySem.Calls
noncomputable def dfl:List Int:=[3,0,8,0,1,1,1,0,19,0,3,1,2,3,0,2,42,32,0,1,1,3,2,0,1,1,4,0,1,2,0]
theorem Cm:rQ (prog.cf 30) jm st2 st3:=by
 have b:∀l:List Int,Nm l->ex (prog.cf 30) st3 (lset R17 1 (.lst (l.map .int))) ⟨[],[]⟩=some (.next,lset (lset R17 1 (.lst (l.map .int))) 2 (.ref 0),⟨[.list [.int 0]],[]⟩)/\
   ∃ρ' s',exs (prog.cf 30) jm.body (Bf (.lst (l.map .int))) ⟨[.list [.int 0]],[]⟩=some (.ret (.bool true),ρ',s'):=λl d=>⟨by rfl,tP d⟩
 intro ns a
 match ns,a with
 |[],_=>
  refine⟨.lst (dfl.map .int),V.noConfusion,by kernel_rfl,b dfl ⟨by decide,by decide,by decide⟩⟩
 |n::r,a=>
  have e:((n::r).map λn=>V.int (n%9999))=((n::r).map λn=>n%9999).map .int:=by rw [List.map_map];rfl
  rw [e]
  refine⟨_,λq=>V.noConfusion q,by rfl,b _ ⟨by simp,by simp at a ⊢;omega,λx c=>?_⟩⟩
  obtain⟨y,_,rfl⟩:=List.mem_map.mp c
  exact Int.emod_nonneg y (by decide)
theorem Cn:∃dk:DefRec×List (Str×Expr),defOf hq rr.name=some dk:=Option.isSome_iff_exists.mp (by kernel_rfl)
theorem Cl:(defOf hq rr.name).map (λdk=>(dk.1.params,dk.1.body,dk.1.scope))=rr.prog.theDef rr.name:=by kernel_rfl
theorem Cv:(defOf hq rr.name).map (λdk=>kwWritten? dk.1.params.kwonlyargs dk.1.params.kw_defaults)=(defOf hq rr.name).map (λdk=>some dk.2):=by kernel_rfl
theorem Cu:(chainsOk hq&&opensWell rr.prog&& (frees rr.toRowW&&rr.within.isEmpty))=true:=by
 repeat' with_reducible apply look_both
 all_goals decide+kernel
end Mine
open PySem PySem.W PyProof.Rows
set_option Elab.async false
set_option maxRecDepth 100000 in
set_option maxHeartbeats 8000000 in
theorem PySem.Challenge.cw_up0027_01_holds : PySem.Challenge.rw_up0027_01.Holds := by
 refine holds_law Mine.said λk1=>?_
 obtain⟨⟨d,kwd⟩,hdef⟩:=Mine.Cn
 refine holds_open (q:=Mine.hq) (loose:=Mine.hloose) (Xt:=λ_=>true) (XP:=λ_ _=>True) (Yf:=λs=>Mine.nA (Mine.gK s.heap)) (Ya:=λ_=>true) (YP:=λ_ h=>∃K:Frag,K.In h/\noTabs K=true/\Mine.nA K=true) (N:=9400) (d:=d) (kwd:=kwd)
  Mine.left (λw s e=>⟨_,Mine.As s.heap,Mine.zV _ _ _,e⟩) (λw h h' ⟨K,a,b,c⟩ k=>⟨K,λx o e=>k x o (a x o e),b,c⟩) (λ_ _=>trivial) (λ_ _ _ _ _=>trivial) hdef ?_ ?_ (λs _=>recFacts_nil rfl) rfl k1 Mine.Cu ⟨rfl,rfl,rfl,rfl,rfl,by decide+kernel⟩ ⟨[.list [.int 3,.int 1]],by decide+kernel,by decide+kernel⟩ (Mine.walk (defOf_name hdef) Mine.Cm)
 ·have h:=Mine.Cl
  rw [hdef] at h
  exact h.symm
 ·have h:=Mine.Cv
  rw [hdef] at h
  exact Option.some.inj h
end
