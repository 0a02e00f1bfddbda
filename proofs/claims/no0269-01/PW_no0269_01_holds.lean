import PyProof.Rows.All
import Wide.All
import OpenK.AllK
import Wide.FinOn
import KE.KItem
import KE.KDictOf
import PyProof.AttrMiss
import PyProof.IsiH_list
import Lean
import PySem.Challenge.RW_no0269_01
open PySem PySem.W PyProof.Rows PySem.Spec PySem.Calls
set_option maxRecDepth 100000
set_option linter.all false
set_option maxHeartbeats 4000000
set_option Elab.async false
set_option genSizeOf false
namespace Mine
noncomputable section
theorem zW {α:Type _}{a:α}{G:Prop}(e:none=some a):G:=by cases e
theorem zCR {α:Type _}{a:α}{G:Prop}(e:some a=none):G:=by cases e
theorem zEr {G:Prop}(e:true=false):G:=by cases e
theorem zV {G:Prop}(e:false=true):G:=by cases e
theorem sE {α:Type _}{a b:α}{G:Prop}(e:some a=some b) (f:a=b->G):G:=f (Option.some.inj e)
theorem zJQ {α:Type _}{c:Prop} [Decidable c] {a b:α}{G:Prop}(e:(if c then some a else none)=some b) (f:c->a=b->G):G:=by
  by_cases h:c
  · rw [if_pos h] at e;exact f h (Option.some.inj e)
  · rw [if_neg h] at e;exact zW e
theorem zcC {α:Type _}{c:Prop} [Decidable c] {a b:α}{G:Prop}(e:(if c then none else some a)=some b) (f:¬c->a=b->G):G:=by
  by_cases h:c
  · rw [if_pos h] at e;exact zW e
  · rw [if_neg h] at e;exact f h (Option.some.inj e)
theorem zYa {α:Type _}{c:Prop} [Decidable c] {a:Option α}{b:α}{G:Prop}(e:(if c then a else none)=some b) (f:c->a=some b->G):G:=by
  by_cases h:c
  · rw [if_pos h] at e;exact f h e
  · rw [if_neg h] at e;exact zW e
theorem sI {α:Type _}{a b:α}(e:some a=some b):a=b:=Option.some.inj e
section
variable {A B C D E F H I J K L M N:Sort _}{G:Prop}
theorem xA {P Q:Prop}(h:P/\Q) (f:P->Q->G):G:=by obtain ⟨a,b⟩:=h;exact f a b
theorem xE {P:A->Prop}(h:∃a,P a) (f:∀a,P a->G):G:=by obtain ⟨a,b⟩:=h;exact f a b
theorem xAA {P Q R:Prop}(h:P/\Q/\R) (f:P->Q->R->G):G:=by obtain ⟨a,b,c⟩:=h;exact f a b c
theorem xEA {P Q:A->Prop}(h:∃a,P a/\Q a) (f:∀a,P a->Q a->G):G:=by obtain ⟨a,b,c⟩:=h;exact f a b c
theorem xEE {P:A->B->Prop}(h:∃a,∃b,P a b) (f:∀a,∀b,P a b->G):G:=by obtain ⟨a,b,c⟩:=h;exact f a b c
theorem zBb {P Q R S:Prop}(h:P/\Q/\R/\S) (f:P->Q->R->S->G):G:=by obtain ⟨a,b,c,d⟩:=h;exact f a b c d
theorem zdu {P Q:Prop}{R:A->Prop}(h:P/\Q/\∃c,R c) (f:P->Q->∀c,R c->G):G:=by obtain ⟨a,b,c,d⟩:=h;exact f a b c d
theorem zdv {P:Prop}{Q R:A->Prop}(h:P/\∃b,Q b/\R b) (f:P->∀b,Q b->R b->G):G:=by obtain ⟨a,b,c,d⟩:=h;exact f a b c d
theorem qh {P Q R:A->Prop}(h:∃a,P a/\Q a/\R a) (f:∀a,P a->Q a->R a->G):G:=by obtain ⟨a,b,c,d⟩:=h;exact f a b c d
theorem zHH {P Q:A->B->Prop}(h:∃a,∃b,P a b/\Q a b) (f:∀a,∀b,P a b->Q a b->G):G:=by obtain ⟨a,b,c,d⟩:=h;exact f a b c d
theorem zdw {P:A->B->C->Prop}(h:∃a,∃b,∃c,P a b c) (f:∀a,∀b,∀c,P a b c->G):G:=by obtain ⟨a,b,c,d⟩:=h;exact f a b c d
theorem zXZ {P Q R S:A->Prop}(h:∃a,P a/\Q a/\R a/\S a) (f:∀a,P a->Q a->R a->S a->G):G:=by obtain ⟨a,b,c,d,e⟩:=h;exact f a b c d e
theorem zt {P Q R:A->B->Prop}(h:∃a,∃b,P a b/\Q a b/\R a b) (f:∀a,∀b,P a b->Q a b->R a b->G):G:=by obtain ⟨a,b,c,d,e⟩:=h;exact f a b c d e
theorem zIy {P Q:A->B->C->Prop}(h:∃a,∃b,∃c,P a b c/\Q a b c) (f:∀a,∀b,∀c,P a b c->Q a b c->G):G:=by obtain ⟨a,b,c,d,e⟩:=h;exact f a b c d e
theorem zcj {P:A->B->C->D->Prop}(h:∃a,∃b,∃c,∃d,P a b c d) (f:∀a,∀b,∀c,∀d,P a b c d->G):G:=by obtain ⟨a,b,c,d,e⟩:=h;exact f a b c d e
theorem zav {P Q R S T U:Prop}(h:P/\Q/\R/\S/\T/\U) (f:P->Q->R->S->T->U->G):G:=by obtain ⟨a,b,c,d,e,g⟩:=h;exact f a b c d e g
theorem zSI {P:Prop}{Q R S:A->B->Prop}(h:P/\∃b,∃c,Q b c/\R b c/\S b c) (f:P->∀b,∀c,Q b c->R b c->S b c->G):G:=by obtain ⟨a,b,c,d,e,g⟩:=h;exact f a b c d e g
theorem zOk {P Q R S T:A->Prop}(h:∃a,P a/\Q a/\R a/\S a/\T a) (f:∀a,P a->Q a->R a->S a->T a->G):G:=by obtain ⟨a,b,c,d,e,g⟩:=h;exact f a b c d e g
theorem yl {P Q R S:A->B->Prop}(h:∃a,∃b,P a b/\Q a b/\R a b/\S a b) (f:∀a,∀b,P a b->Q a b->R a b->S a b->G):G:=by obtain ⟨a,b,c,d,e,g⟩:=h;exact f a b c d e g
theorem zLL {P Q R:A->B->C->Prop}(h:∃a,∃b,∃c,P a b c/\Q a b c/\R a b c) (f:∀a,∀b,∀c,P a b c->Q a b c->R a b c->G):G:=by obtain ⟨a,b,c,d,e,g⟩:=h;exact f a b c d e g
theorem zaw {P Q:A->B->C->D->Prop}(h:∃a,∃b,∃c,∃d,P a b c d/\Q a b c d) (f:∀a,∀b,∀c,∀d,P a b c d->Q a b c d->G):G:=by obtain ⟨a,b,c,d,e,g⟩:=h;exact f a b c d e g
theorem zTY {P Q R S T U V:Prop}(h:P/\Q/\R/\S/\T/\U/\V) (f:P->Q->R->S->T->U->V->G):G:=by obtain ⟨a,b,c,d,e,g,h⟩:=h;exact f a b c d e g h
theorem zTZ {P:Prop}{Q R S T:A->B->Prop}(h:P/\∃b,∃c,Q b c/\R b c/\S b c/\T b c) (f:P->∀b,∀c,Q b c->R b c->S b c->T b c->G):G:=by obtain ⟨a,b,c,d,e,g,h⟩:=h;exact f a b c d e g h
theorem zAG {P Q R S T:A->B->Prop}(h:∃a,∃b,P a b/\Q a b/\R a b/\S a b/\T a b) (f:∀a,∀b,P a b->Q a b->R a b->S a b->T a b->G):G:=by obtain ⟨a,b,c,d,e,g,h⟩:=h;exact f a b c d e g h
theorem yY {P Q R S:A->B->C->Prop}(h:∃a,∃b,∃c,P a b c/\Q a b c/\R a b c/\S a b c) (f:∀a,∀b,∀c,P a b c->Q a b c->R a b c->S a b c->G):G:=by obtain ⟨a,b,c,d,e,g,h⟩:=h;exact f a b c d e g h
theorem zOl {P Q R:A->B->C->D->Prop}(h:∃a,∃b,∃c,∃d,P a b c d/\Q a b c d/\R a b c d) (f:∀a,∀b,∀c,∀d,P a b c d->Q a b c d->R a b c d->G):G:=by obtain ⟨a,b,c,d,e,g,h⟩:=h;exact f a b c d e g h
theorem zXY {P Q R S T U V W:Prop}(h:P/\Q/\R/\S/\T/\U/\V/\W) (f:P->Q->R->S->T->U->V->W->G):G:=by obtain ⟨a,b,c,d,e,g,h,i⟩:=h;exact f a b c d e g h i
theorem zXa {P Q R S T U V:A->Prop}(h:∃a,P a/\Q a/\R a/\S a/\T a/\U a/\V a) (f:∀a,P a->Q a->R a->S a->T a->U a->V a->G):G:=by obtain ⟨a,b,c,d,e,g,h,i⟩:=h;exact f a b c d e g h i
theorem zXb {P:A->Prop}{Q R S T:A->B->C->Prop}(h:∃a,P a/\∃c,∃d,Q a c d/\R a c d/\S a c d/\T a c d) (f:∀a,P a->∀c,∀d,Q a c d->R a c d->S a c d->T a c d->G):G:=by obtain ⟨a,b,c,d,e,g,h,i⟩:=h;exact f a b c d e g h i
theorem zHq {P Q R S T U:A->B->Prop}(h:∃a,∃b,P a b/\Q a b/\R a b/\S a b/\T a b/\U a b) (f:∀a,∀b,P a b->Q a b->R a b->S a b->T a b->U a b->G):G:=by obtain ⟨a,b,c,d,e,g,h,i⟩:=h;exact f a b c d e g h i
theorem zEs {P Q R S T:A->B->C->Prop}(h:∃a,∃b,∃c,P a b c/\Q a b c/\R a b c/\S a b c/\T a b c) (f:∀a,∀b,∀c,P a b c->Q a b c->R a b c->S a b c->T a b c->G):G:=by obtain ⟨a,b,c,d,e,g,h,i⟩:=h;exact f a b c d e g h i
theorem zQs {P Q R S:A->B->C->D->Prop}(h:∃a,∃b,∃c,∃d,P a b c d/\Q a b c d/\R a b c d/\S a b c d) (f:∀a,∀b,∀c,∀d,P a b c d->Q a b c d->R a b c d->S a b c d->G):G:=by obtain ⟨a,b,c,d,e,g,h,i⟩:=h;exact f a b c d e g h i
theorem zGX {P Q R S T U:A->B->C->Prop}(h:∃a,∃b,∃c,P a b c/\Q a b c/\R a b c/\S a b c/\T a b c/\U a b c) (f:∀a,∀b,∀c,P a b c->Q a b c->R a b c->S a b c->T a b c->U a b c->G):G:=by obtain ⟨a,b,c,d,e,g,h,i,j⟩:=h;exact f a b c d e g h i j
theorem zMu {P:A->B->C->D->E->F->H->I->Prop}(h:∃a,∃b,∃c,∃d,∃e,∃g,∃h,∃i,P a b c d e g h i) (f:∀a,∀b,∀c,∀d,∀e,∀g,∀h,∀i,P a b c d e g h i->G):G:=by obtain ⟨a,b,c,d,e,g,h,i,j⟩:=h;exact f a b c d e g h i j
theorem zBF {P Q R S T U V:A->B->C->Prop}(h:∃a,∃b,∃c,P a b c/\Q a b c/\R a b c/\S a b c/\T a b c/\U a b c/\V a b c) (f:∀a,∀b,∀c,P a b c->Q a b c->R a b c->S a b c->T a b c->U a b c->V a b c->G):G:=by obtain ⟨a,b,c,d,e,g,h,i,j,k⟩:=h;exact f a b c d e g h i j k
theorem zIz {P Q R S T U:A->B->C->D->E->Prop}(h:∃a,∃b,∃c,∃d,∃e,P a b c d e/\Q a b c d e/\R a b c d e/\S a b c d e/\T a b c d e/\U a b c d e) (f:∀a,∀b,∀c,∀d,∀e,P a b c d e->Q a b c d e->R a b c d e->S a b c d e->T a b c d e->U a b c d e->G):G:=by obtain ⟨a,b,c,d,e,g,h,i,j,k,l⟩:=h;exact f a b c d e g h i j k l
theorem zBc {P Q:Prop}{R S:A->B->C->D->E->F->H->I->J->Prop}(h:P/\Q/\∃c,∃d,∃e,∃g,∃h,∃i,∃j,∃k,∃l,R c d e g h i j k l/\S c d e g h i j k l) (f:P->Q->∀c,∀d,∀e,∀g,∀h,∀i,∀j,∀k,∀l,R c d e g h i j k l->S c d e g h i j k l->G):G:=by obtain ⟨a,b,c,d,e,g,h,i,j,k,l,m,n⟩:=h;exact f a b c d e g h i j k l m n
theorem zCW {P Q R S T U V W X:A->B->C->D->E->Prop}(h:∃a,∃b,∃c,∃d,∃e,P a b c d e/\Q a b c d e/\R a b c d e/\S a b c d e/\T a b c d e/\U a b c d e/\V a b c d e/\W a b c d e/\X a b c d e) (f:∀a,∀b,∀c,∀d,∀e,P a b c d e->Q a b c d e->R a b c d e->S a b c d e->T a b c d e->U a b c d e->V a b c d e->W a b c d e->X a b c d e->G):G:=by obtain ⟨a,b,c,d,e,g,h,i,j,k,l,m,n,o⟩:=h;exact f a b c d e g h i j k l m n o
theorem iEA {P Q:A->Prop}(a:A) (b:P a) (c:Q a):∃a,P a/\Q a:=⟨a,b,c⟩
theorem iEE {P:A->B->Prop}(a:A) (b:B) (c:P a b):∃a,∃b,P a b:=⟨a,b,c⟩
theorem zEg {P Q R S:Prop}(a:P) (b:Q) (c:R) (d:S):P/\Q/\R/\S:=⟨a,b,c,d⟩
theorem zdf {P Q:Prop}{R:A->Prop}(a:P) (b:Q) (c:A) (d:R c):P/\Q/\∃c,R c:=⟨a,b,c,d⟩
theorem zdg {P:Prop}{Q R:A->Prop}(a:P) (b:A) (c:Q b) (d:R b):P/\∃b,Q b/\R b:=⟨a,b,c,d⟩
theorem q6 {P Q R:A->Prop}(a:A) (b:P a) (c:Q a) (d:R a):∃a,P a/\Q a/\R a:=⟨a,b,c,d⟩
theorem zES {P Q:A->B->Prop}(a:A) (b:B) (c:P a b) (d:Q a b):∃a,∃b,P a b/\Q a b:=⟨a,b,c,d⟩
theorem zYT {P:A->B->C->Prop}(a:A) (b:B) (c:C) (d:P a b c):∃a,∃b,∃c,P a b c:=⟨a,b,c,d⟩
theorem zSm {P Q R S T:Prop}(a:P) (b:Q) (c:R) (d:S) (e:T):P/\Q/\R/\S/\T:=⟨a,b,c,d,e⟩
theorem zbu {P Q R:Prop}{S:A->Prop}(a:P) (b:Q) (c:R) (d:A) (e:S d):P/\Q/\R/\∃d,S d:=⟨a,b,c,d,e⟩
theorem zWA {P Q:Prop}{R S:A->Prop}(a:P) (b:Q) (c:A) (d:R c) (e:S c):P/\Q/\∃c,R c/\S c:=⟨a,b,c,d,e⟩
theorem zPo {P Q R S:A->Prop}(a:A) (b:P a) (c:Q a) (d:R a) (e:S a):∃a,P a/\Q a/\R a/\S a:=⟨a,b,c,d,e⟩
theorem zKg {P Q:A->Prop}{R:A->B->Prop}(a:A) (b:P a) (c:Q a) (d:B) (e:R a d):∃a,P a/\Q a/\∃d,R a d:=⟨a,b,c,d,e⟩
theorem yS {P Q R:A->B->Prop}(a:A) (b:B) (c:P a b) (d:Q a b) (e:R a b):∃a,∃b,P a b/\Q a b/\R a b:=⟨a,b,c,d,e⟩
theorem zPr {P Q:A->B->C->Prop}(a:A) (b:B) (c:C) (d:P a b c) (e:Q a b c):∃a,∃b,∃c,P a b c/\Q a b c:=⟨a,b,c,d,e⟩
theorem zbv {P:A->B->C->D->Prop}(a:A) (b:B) (c:C) (d:D) (e:P a b c d):∃a,∃b,∃c,∃d,P a b c d:=⟨a,b,c,d,e⟩
theorem zRa {P:Prop}{Q R S:A->B->Prop}(a:P) (b:A) (c:B) (d:Q b c) (e:R b c) (g:S b c):P/\∃b,∃c,Q b c/\R b c/\S b c:=⟨a,b,c,d,e,g⟩
theorem zWB {P Q R S T:A->Prop}(a:A) (b:P a) (c:Q a) (d:R a) (e:S a) (g:T a):∃a,P a/\Q a/\R a/\S a/\T a:=⟨a,b,c,d,e,g⟩
theorem zaN {P:A->Prop}{Q R S:A->B->Prop}(a:A) (b:P a) (c:B) (d:Q a c) (e:R a c) (g:S a c):∃a,P a/\∃c,Q a c/\R a c/\S a c:=⟨a,b,c,d,e,g⟩
theorem yb {P Q R S:A->B->Prop}(a:A) (b:B) (c:P a b) (d:Q a b) (e:R a b) (g:S a b):∃a,∃b,P a b/\Q a b/\R a b/\S a b:=⟨a,b,c,d,e,g⟩
theorem zaO {P Q R:A->B->C->Prop}(a:A) (b:B) (c:C) (d:P a b c) (e:Q a b c) (g:R a b c):∃a,∃b,∃c,P a b c/\Q a b c/\R a b c:=⟨a,b,c,d,e,g⟩
theorem zYR {P:Prop}{Q R S T:A->B->Prop}(a:P) (b:A) (c:B) (d:Q b c) (e:R b c) (g:S b c) (h:T b c):P/\∃b,∃c,Q b c/\R b c/\S b c/\T b c:=⟨a,b,c,d,e,g,h⟩
theorem zYS {P:A->Prop}{Q R S:A->B->C->Prop}(a:A) (b:P a) (c:B) (d:C) (e:Q a c d) (g:R a c d) (h:S a c d):∃a,P a/\∃c,∃d,Q a c d/\R a c d/\S a c d:=⟨a,b,c,d,e,g,h⟩
theorem zNv {P Q R S T:A->B->Prop}(a:A) (b:B) (c:P a b) (d:Q a b) (e:R a b) (g:S a b) (h:T a b):∃a,∃b,P a b/\Q a b/\R a b/\S a b/\T a b:=⟨a,b,c,d,e,g,h⟩
theorem qi {P Q R S:A->B->C->Prop}(a:A) (b:B) (c:C) (d:P a b c) (e:Q a b c) (g:R a b c) (h:S a b c):∃a,∃b,∃c,P a b c/\Q a b c/\R a b c/\S a b c:=⟨a,b,c,d,e,g,h⟩
theorem zNw {P Q R:A->B->C->D->Prop}(a:A) (b:B) (c:C) (d:D) (e:P a b c d) (g:Q a b c d) (h:R a b c d):∃a,∃b,∃c,∃d,P a b c d/\Q a b c d/\R a b c d:=⟨a,b,c,d,e,g,h⟩
theorem zDo {P:Prop}{Q R S T U:A->B->Prop}(a:P) (b:A) (c:B) (d:Q b c) (e:R b c) (g:S b c) (h:T b c) (i:U b c):P/\∃b,∃c,Q b c/\R b c/\S b c/\T b c/\U b c:=⟨a,b,c,d,e,g,h,i⟩
theorem zPp {P:A->Prop}{Q R S T:A->B->C->Prop}(a:A) (b:P a) (c:B) (d:C) (e:Q a c d) (g:R a c d) (h:S a c d) (i:T a c d):∃a,P a/\∃c,∃d,Q a c d/\R a c d/\S a c d/\T a c d:=⟨a,b,c,d,e,g,h,i⟩
theorem zWC {P Q R S T U:A->B->Prop}(a:A) (b:B) (c:P a b) (d:Q a b) (e:R a b) (g:S a b) (h:T a b) (i:U a b):∃a,∃b,P a b/\Q a b/\R a b/\S a b/\T a b/\U a b:=⟨a,b,c,d,e,g,h,i⟩
theorem zHZ {P Q R S T:A->B->C->Prop}(a:A) (b:B) (c:C) (d:P a b c) (e:Q a b c) (g:R a b c) (h:S a b c) (i:T a b c):∃a,∃b,∃c,P a b c/\Q a b c/\R a b c/\S a b c/\T a b c:=⟨a,b,c,d,e,g,h,i⟩
theorem zKh {P Q R S:A->B->C->D->Prop}(a:A) (b:B) (c:C) (d:D) (e:P a b c d) (g:Q a b c d) (h:R a b c d) (i:S a b c d):∃a,∃b,∃c,∃d,P a b c d/\Q a b c d/\R a b c d/\S a b c d:=⟨a,b,c,d,e,g,h,i⟩
theorem zMZ {P Q:Prop}{R S T U:A->B->C->Prop}(a:P) (b:Q) (c:A) (d:B) (e:C) (g:R c d e) (h:S c d e) (i:T c d e) (j:U c d e):P/\Q/\∃c,∃d,∃e,R c d e/\S c d e/\T c d e/\U c d e:=⟨a,b,c,d,e,g,h,i,j⟩
theorem zUG {P:A->Prop}{Q R S T:A->B->C->D->Prop}(a:A) (b:P a) (c:B) (d:C) (e:D) (g:Q a c d e) (h:R a c d e) (i:S a c d e) (j:T a c d e):∃a,P a/\∃c,∃d,∃e,Q a c d e/\R a c d e/\S a c d e/\T a c d e:=⟨a,b,c,d,e,g,h,i,j⟩
theorem zBt {P Q R S T U:A->B->C->Prop}(a:A) (b:B) (c:C) (d:P a b c) (e:Q a b c) (g:R a b c) (h:S a b c) (i:T a b c) (j:U a b c):∃a,∃b,∃c,P a b c/\Q a b c/\R a b c/\S a b c/\T a b c/\U a b c:=⟨a,b,c,d,e,g,h,i,j⟩
theorem zMa {P Q R S T:A->B->C->D->Prop}(a:A) (b:B) (c:C) (d:D) (e:P a b c d) (g:Q a b c d) (h:R a b c d) (i:S a b c d) (j:T a b c d):∃a,∃b,∃c,∃d,P a b c d/\Q a b c d/\R a b c d/\S a b c d/\T a b c d:=⟨a,b,c,d,e,g,h,i,j⟩
theorem zUH {P:A->B->C->D->E->F->H->I->Prop}(a:A) (b:B) (c:C) (d:D) (e:E) (g:F) (h:H) (i:I) (j:P a b c d e g h i):∃a,∃b,∃c,∃d,∃e,∃g,∃h,∃i,P a b c d e g h i:=⟨a,b,c,d,e,g,h,i,j⟩
theorem zCZ {P Q R S T U V:A->B->C->Prop}(a:A) (b:B) (c:C) (d:P a b c) (e:Q a b c) (g:R a b c) (h:S a b c) (i:T a b c) (j:U a b c) (k:V a b c):∃a,∃b,∃c,P a b c/\Q a b c/\R a b c/\S a b c/\T a b c/\U a b c/\V a b c:=⟨a,b,c,d,e,g,h,i,j,k⟩
theorem zPn {P Q:Prop}{R S T U V W:A->B->C->Prop}(a:P) (b:Q) (c:A) (d:B) (e:C) (g:R c d e) (h:S c d e) (i:T c d e) (j:U c d e) (k:V c d e) (l:W c d e):P/\Q/\∃c,∃d,∃e,R c d e/\S c d e/\T c d e/\U c d e/\V c d e/\W c d e:=⟨a,b,c,d,e,g,h,i,j,k,l⟩
theorem zPq {P Q:A->B->Prop}{R S T U:A->B->C->D->E->Prop}(a:A) (b:B) (c:P a b) (d:Q a b) (e:C) (g:D) (h:E) (i:R a b e g h) (j:S a b e g h) (k:T a b e g h) (l:U a b e g h):∃a,∃b,P a b/\Q a b/\∃e,∃g,∃h,R a b e g h/\S a b e g h/\T a b e g h/\U a b e g h:=⟨a,b,c,d,e,g,h,i,j,k,l⟩
theorem zPs {P Q R S T U:A->B->C->D->E->Prop}(a:A) (b:B) (c:C) (d:D) (e:E) (g:P a b c d e) (h:Q a b c d e) (i:R a b c d e) (j:S a b c d e) (k:T a b c d e) (l:U a b c d e):∃a,∃b,∃c,∃d,∃e,P a b c d e/\Q a b c d e/\R a b c d e/\S a b c d e/\T a b c d e/\U a b c d e:=⟨a,b,c,d,e,g,h,i,j,k,l⟩
theorem zNx {P Q R S T U V:A->B->C->D->E->Prop}(a:A) (b:B) (c:C) (d:D) (e:E) (g:P a b c d e) (h:Q a b c d e) (i:R a b c d e) (j:S a b c d e) (k:T a b c d e) (l:U a b c d e) (m:V a b c d e):∃a,∃b,∃c,∃d,∃e,P a b c d e/\Q a b c d e/\R a b c d e/\S a b c d e/\T a b c d e/\U a b c d e/\V a b c d e:=⟨a,b,c,d,e,g,h,i,j,k,l,m⟩
theorem zCm {P Q:Prop}{R S:A->B->C->D->E->F->H->I->J->Prop}(a:P) (b:Q) (c:A) (d:B) (e:C) (g:D) (h:E) (i:F) (j:H) (k:I) (l:J) (m:R c d e g h i j k l) (n:S c d e g h i j k l):P/\Q/\∃c,∃d,∃e,∃g,∃h,∃i,∃j,∃k,∃l,R c d e g h i j k l/\S c d e g h i j k l:=⟨a,b,c,d,e,g,h,i,j,k,l,m,n⟩
theorem zFr {P Q R S T U V W X:A->B->C->D->E->Prop}(a:A) (b:B) (c:C) (d:D) (e:E) (g:P a b c d e) (h:Q a b c d e) (i:R a b c d e) (j:S a b c d e) (k:T a b c d e) (l:U a b c d e) (m:V a b c d e) (n:W a b c d e) (o:X a b c d e):∃a,∃b,∃c,∃d,∃e,P a b c d e/\Q a b c d e/\R a b c d e/\S a b c d e/\T a b c d e/\U a b c d e/\V a b c d e/\W a b c d e/\X a b c d e:=⟨a,b,c,d,e,g,h,i,j,k,l,m,n,o⟩
end

inductive PV where
  | none | bool (b:Bool) | int (i:Int) | str (s:Str)
  | tup (xs:List PV) | lst (xs:List PV)
  | ref (i:Nat) | inst (C:Addr) (i:Nat) | glob (v:Value)
  | dct (ks:List Str) (vs:List PV) | idct (ks:List Int) (vs:List PV) | rng (a b c:Int)
  deriving Inhabited
inductive MO where
  | list (xs:List PV)
  | sdict (kvs:List (Str×PV))
  | tdict (kvs:List (List Int×PV))
  | pin (o:Obj) (kvs:List (List Int×PV))
  deriving Inhabited
set_option genInjectivity false in
structure Mem where
  n:Nat
  c:Nat->MO
namespace Mem
def set (M:Mem) (i:Nat) (o:MO):Mem:=⟨M.n,fun j=>if j=i then o else M.c j⟩
def new (M:Mem) (o:MO):Mem:=⟨M.n+1,fun j=>if j=M.n then o else M.c j⟩
end Mem
set_option genInjectivity false in
structure Gh where
  P:Params
  n:Nat
  led:Addr->Option Obj
  fz:Addr->Prop
  ρ:Nat->Addr
def KS (P:Params):List Str->List DictEntry->Prop
  | [],es=>es=[]
  | k::ks,es=>∃e r,es=e::r/\(∃t,e.key=.str k t)/\e.hash=PyData.keyHash P k/\KS P ks r
def KI:List Int->List DictEntry->Prop
  | [],es=>es=[]
  | k::ks,es=>∃e r,es=e::r/\(∃t,e.key=.int k t)/\e.hash=hashInt k/\KI ks r
noncomputable abbrev zRp (a b c:Int) (t u v:Tok):Obj:={ cls:=.type "range",dict:=none,data:=.fields #[.int a t,.int b u,.int c v],slots:=#[] }
noncomputable abbrev zm (T:String) (vs:List Value) (e:Nat):Obj:={ cls:=.type T,data:=.seq vs.toArray e }
mutual
def Rep (g:Gh):PV->Value->Prop
  | .none,v=>v=.none
  | .bool b,v=>v=.bool b
  | .int i,v=>∃t,v=.int i t
  | .str s,v=>∃t,v=.str s t
  | .tup xs,v=>∃a vs,v=.ref a/\g.fz a/\g.led a=some (zm "tuple" vs 0)/\yJ g xs vs
  | .lst xs,v=>∃a vs e,v=.ref a/\g.fz a/\g.led a=some (zm "list" vs e)/\yJ g xs vs
  | .ref i,v=>v=.ref (g.ρ i)/\i<g.n
  | .inst C i,v=>∃x,v=.ref x/\g.fz x/\g.led x=some (instObj C (g.ρ i))/\i<g.n
  | .glob u,v=>v=u
  | .dct ks xs,v=>∃a es e,v=.ref a/\(a==sysModules)=false/\g.fz a/\g.led a=some (dictOf es e)/\ks.Nodup/\KS g.P ks es/\yJ g xs (es.map (·.val))
  | .idct ks xs,v=>∃a es e,v=.ref a/\(a==sysModules)=false/\g.fz a/\g.led a=some (dictOf es e)/\ks.Nodup/\KI ks es/\yJ g xs (es.map (·.val))
  | .rng a b c,v=>∃x t u z,v=.ref x/\g.fz x/\g.led x=some (zRp a b c t u z)
def yJ (g:Gh):List PV->List Value->Prop
  | [],vs=>vs=[]
  | x::xs,vs=>∃v r,vs=v::r/\Rep g x v/\yJ g xs r
end
structure Ext (ex:Addr->Prop) (g g':Gh):Prop where
  P:g'.P=g.P
  n:g.n<=g'.n
  ρ:∀i,i<g.n->g'.ρ i=g.ρ i
  fz:∀a o,g.led a=some o->g.fz a->g'.led a=some o/\g'.fz a
  led:∀a o,g.led a=some o->¬g.fz a->(∀i,i<g.n->a≠g.ρ i)->¬ex a->g'.led a=some o/\¬g'.fz a/\(∀i,i<g'.n->a≠g'.ρ i)
theorem Ext.refl {ex:Addr->Prop}(g:Gh):Ext ex g g:=⟨rfl,Nat.le_refl _,fun Z Z=>rfl,fun Z Z e f=>⟨e,f⟩,fun Z Z e f n Z=>⟨e,f,n⟩⟩
theorem Ext.trans {ex:Addr->Prop}{g g1z g2z:Gh}(x:Ext ex g g1z) (y:Ext ex g1z g2z):Ext ex g g2z where
  P:=y.P.trans x.P
  n:=Nat.le_trans x.n y.n
  ρ i h:=(y.ρ i (Nat.lt_of_lt_of_le h x.n)).trans (x.ρ i h)
  fz a o e f:=let ⟨e',f'⟩:=x.fz a o e f;y.fz a o e' f'
  led a o e f n h:=let ⟨e',f',n'⟩:=x.led a o e f n h;y.led a o e' f' n' h
theorem Ext.weaken {ex ex':Addr->Prop}{g g':Gh}(x:Ext ex g g') (h:∀a,ex a->ex' a):Ext ex' g g':=
  ⟨x.P,x.n,x.ρ,x.fz,fun a o e f n q=>x.led a o e f n fun z=>q (h a z)⟩
mutual
theorem Rep.mono {ex:Addr->Prop}{g g':Gh}(x:Ext ex g g'):∀{p:PV}{v:Value},Rep g p v->Rep g' p v
  | .none,_,h=>h
  | .bool _,_,h=>h
  | .int _,_,h=>h
  | .str _,_,h=>h
  | .tup xs,_,h=>by
    refine yl h fun a vs e f l r=>?_
    exact (yb a vs e ((x.fz _ _ l f).2) ((x.fz _ _ l f).1) (yJ.mono x r))
  | .lst xs,_,h=>by
    refine yY h fun a vs ep e f l r=>?_
    exact (qi a vs ep e ((x.fz _ _ l f).2) ((x.fz _ _ l f).1) (yJ.mono x r))
  | .ref i,_,h=>by
    exact ⟨by rw [x.ρ i h.2];exact h.1,Nat.lt_of_lt_of_le h.2 x.n⟩
  | .inst C i,_,h=>by
    refine zXZ h fun a e f l r=>?_
    exact (zPo a e ((x.fz _ _ l f).2) (by rw [x.ρ i r];exact (x.fz _ _ l f).1) (Nat.lt_of_lt_of_le r x.n))
  | .glob _,_,h=>h
  | .dct _ xs,_,h=>by
    refine zBF h fun a es e h1 h2 f l nd k r=>?_
    exact (zCZ a es e h1 h2 ((x.fz _ _ l f).2) ((x.fz _ _ l f).1) nd (by rw [x.P];exact k) (yJ.mono x r))
  | .idct _ xs,_,h=>by
    refine zBF h fun a es e h1 h2 f l nd k r=>?_
    exact (zCZ a es e h1 h2 ((x.fz _ _ l f).2) ((x.fz _ _ l f).1) nd k (yJ.mono x r))
  | .rng _ _ _,_,h=>by
    refine zOl h fun y t u z h1 f l=>?_
    exact (zNw y t u z h1 ((x.fz _ _ l f).2) ((x.fz _ _ l f).1))
theorem yJ.mono {ex:Addr->Prop}{g g':Gh}(x:Ext ex g g'):∀{p:List PV}{v:List Value},yJ g p v->yJ g' p v
  | [],_,h=>h
  | y::ys,_,h=>by
    refine zt h fun v r e hv hr=>?_
    exact (yS v r e (Rep.mono x hv) (yJ.mono x hr))
end
theorem yJ.length {g:Gh}:∀{p:List PV}{v:List Value},yJ g p v->v.length=p.length
  | [],_,h=>by subst h;rfl
  | y::ys,_,h=>by
    refine zt h fun v r e Z hr=>?_
    subst e
    rw [List.length_cons,List.length_cons,yJ.length hr]
theorem yJ.get {g:Gh}:∀{p:List PV}{v:List Value}(_:yJ g p v) (i:Nat) {x:PV},p[i]?=some x->∃y,v[i]?=some y/\Rep g x y
  | [],_,_,i,x,e=>by simp at e
  | y::ys,_,h,i,x,e=>by
    refine zt h ?_;clear h;intro v r z1 hv hr;subst z1
    induction i with
    | zero=>simp at e;subst e;exact (iEA v rfl hv)
    | succ i=>simp at e;exact yJ.get hr i e
theorem yJ.append {g:Gh}:∀{p q:List PV}{v u:List Value},yJ g p v->yJ g q u->yJ g (p++q) (v++u)
  | [],_,_,_,h,k=>by subst h;exact k
  | y::ys,_,_,_,h,k=>by
    refine zt h ?_;clear h;intro v r z2 hv hr;subst z2
    show yJ g (y::(ys++_)) _
    unfold yJ
    exact (yS v _ rfl hv (yJ.append hr k))
noncomputable def zaq (ks:List Int):Int:=reduceHash (Builtin.Tuple.tupleHashOf (ks.map hashInt))
def KT (g:Gh):List (List Int)->List DictEntry->Prop
  | [],es=>es=[]
  | k::ks,es=>∃e r,es=e::r/\Rep g (.tup (k.map .int)) e.key/\e.hash=zaq k/\KT g ks r
theorem KT.mono {ex:Addr->Prop}{g g':Gh}(x:Ext ex g g'):∀{ks:List (List Int)}{es:List DictEntry},KT g ks es->KT g' ks es
  | [],_,h=>h
  | k::ks,_,h=>by
    refine yl h ?_;clear h;intro e r z3 a b c;subst z3
    exact (yb e r rfl (a.mono x) b (KT.mono x c))
def zXh (g:Gh) (o:Obj) (kvs:List (List Int×PV)):Prop:=∃es e,o=dictOf es e/\(kvs.map (·.1)).Nodup/\KT g (kvs.map (·.1)) es/\yJ g (kvs.map (·.2)) (es.map (·.val))
def zUv (g:Gh) (o:Obj) (kvs:List (Str×PV)):Prop:=∃es e,o=dictOf es e/\(kvs.map (·.1)).Nodup/\KS g.P (kvs.map (·.1)) es/\yJ g (kvs.map (·.2)) (es.map (·.val))
def zDZ (_:Params) (g:Gh) (o:Obj):MO->Prop
  | .list xs=>∃vs e,o=zm "list" vs e/\yJ g xs vs
  | .sdict kvs=>zUv g o kvs
  | .tdict kvs=>zXh g o kvs
  | .pin o' kvs=>o=o'/\zXh g o kvs

set_option genInjectivity false in
structure FD where
  name:Str
  scope:Scope
  a:Addr
  cd:Value
noncomputable def yE (F:FD) (L:Addr):Env:=envX F.name F.scope L F.a F.cd (cellsFrom (L+1) F.scope.names [])
noncomputable def yL (F:FD):Option Scope->Addr->Addr->List (Str×Addr)->Env
  | none,L,_,_=>yE F L
  | some sc,L,C,cl=>compEnvC sc cl C (yE F L)
abbrev Frs:=List (Addr×(Str->Option Value))
structure Ct (Tp:Heap->Prop) (d:Nat) (hz:Bool) (A:Around) (B:Heap) (outer:List Env) (fs:Frs) (L:Addr) (F:FD):Prop where
  top:Tp B
  fr:A.frames=some (yE F L::outer)
  room:A.depth+d<recursionLimit
  units:A.units+8 * d+100<cLine
  out:outer.map (·.frame)=fs.map (fun p=>some p.1)
  kinds:∀e∈outer,e.scope.kind≠.module
  fk:F.scope.kind=.function
  hz:hz=true->A.handled=none
structure Inv (P:Params) (B:Heap) (L:Addr) (fs:Frs) (g:Gh) (M:Mem) (m:Str->Option Value) (h:Heap):Prop where
  keep:∀b o,B.get? b=some o->h.get? b=some o
  ns:h.Ns L m
  lb:B.objs.size<=L
  led:∀a o,g.led a=some o->h.get? a=some o/\a≠L/\(¬g.fz a->B.get? a=none)
  n:g.n=M.n
  cell:∀i,i<g.n->∃o,g.led (g.ρ i)=some o/\¬g.fz (g.ρ i)/\zDZ P g o (M.c i)
  inj:∀i j,i<g.n->j<g.n->g.ρ i=g.ρ j->i=j
  fs:∀p∈fs,h.Ns p.1 p.2/\B.get? p.1=none/\g.led p.1=none/\p.1≠L
  hP:g.P=P
def zXf (env:Env) (L:Addr) (g:Gh) (m:Str->Option Value) (x:Str) (v:Value):Prop:=
  (env.kindOf x=some .local/\env.locals=L/\m x=some v) \/
  (env.kindOf x=some .cell/\∃c o,env.cells.lookup x=some c/\g.led c=some o/\¬g.fz c/\(∀i,i<g.n->c≠g.ρ i)/\o.data=.cell (some v)) \/
  (env.kindOf x=some .local/\env.locals≠L/\∃o es ep,g.led env.locals=some o/\¬g.fz env.locals/\(∀i,i<g.n->env.locals≠g.ρ i)/\o.data=.dict es ep/\StrKeys es/\nsFind es x=some v)
def zJB (nm:List Str) (env:Env) (L:Addr) (g:Gh) (m:Str->Option Value) (lo:List (Option PV)):Prop:=
  ∀(i:Nat) (pv:PV),lo[i]?=some (some pv)->∃x v,nm[i]?=some x/\zXf env L g m x v/\Rep g pv v
theorem zXf.ext {env:Env}{L:Addr}{g g':Gh}{m:Str->Option Value}{x:Str}{v:Value}(E:Ext (fun Z=>False) g g') (l:zXf env L g m x v):zXf env L g' m x v:=by
  rcases l with l | ⟨k,c,o,h1,h2,h3,h4,h5⟩ | ⟨k,hn,o,es,ep,h2,h3,h4,h5⟩
  · exact .inl l
  · refine xAA (E.led _ _ h2 h3 h4 (fun z=>z)) fun a b c'=>?_
    exact .inr (.inl (zDo k c o h1 a b c' h5))
  · refine xAA (E.led _ _ h2 h3 h4 (fun z=>z)) fun a b c'=>?_
    exact .inr (.inr (zMZ k hn o es ep a b c' h5))
theorem zJB.ext {nm:List Str}{env:Env}{L:Addr}{g g':Gh}{m:Str->Option Value}{lo:List (Option PV)}(E:Ext (fun Z=>False) g g') (l:zJB nm env L g m lo):zJB nm env L g' m lo:=by
  intro i pv e
  refine zt (l i pv e) fun x v h1 h2 h3=>?_
  exact (yS x v h1 (h2.ext E) (h3.mono E))
theorem zDZ.ext {P:Params}{g g':Gh}{o:Obj}{c:MO}{ex:Addr->Prop}(E:Ext ex g g') (h:zDZ P g o c):zDZ P g' o c:=by
  induction c using MO.casesOn with
  | list xs=>refine zHH h fun vs e a r=>?_;exact (zES vs e a (r.mono E))
  | sdict kvs=>refine yl h fun es e a n r q=>?_;exact (yb es e a n (by rw [E.P];exact r) (q.mono E))
  | tdict kvs=>refine yl h fun es e a n r q=>?_;exact (yb es e a n (r.mono E) (q.mono E))
  | pin o' kvs=>refine zTZ h fun y es e a n r q=>?_;exact (zYR y es e a n (r.mono E) (q.mono E))
section
variable {P:Params}{B:Heap}{L:Addr}{fs:Frs}{g:Gh}{M:Mem}{m:Str->Option Value}{h:Heap}
theorem Inv.fr (I:Inv P B L fs g M m h):Fr B L h m:=⟨I.ns,I.keep,I.lb⟩
theorem Inv.lt (I:Inv P B L fs g M m h) {a:Addr}{o:Obj}(e:g.led a=some o):a<h.objs.size:=Heap.lt_size (I.led a o e).1
theorem Inv.freshLed (I:Inv P B L fs g M m h):g.led h.objs.size=none:=by
  generalize q:g.led h.objs.size=z1;induction z1 using Option.casesOn with
  | none=>rfl
  | some o=>exact absurd (I.lt q) (Nat.lt_irrefl _)
theorem Inv.freshB (I:Inv P B L fs g M m h):B.get? h.objs.size=none:=by
  generalize q:B.get? h.objs.size=z2;induction z2 using Option.casesOn with
  | none=>rfl
  | some o=>exact absurd (Heap.lt_size (I.keep _ _ q)) (Nat.lt_irrefl _)
theorem Inv.keeps {h':Heap}(I:Inv P B L fs g M m h) (k:∀b o,h.get? b=some o->h'.get? b=some o):Inv P B L fs g M m h' where
  keep b o e:=k b o (I.keep b o e)
  ns:=I.ns.keeps k
  lb:=I.lb
  led a o e:=⟨k a o (I.led a o e).1,(I.led a o e).2⟩
  n:=I.n
  cell:=I.cell
  inj:=I.inj
  fs p hp:=⟨(I.fs p hp).1.keeps k,(I.fs p hp).2⟩
  hP:=I.hP
theorem Inv.push (I:Inv P B L fs g M m h) (o:Obj):Inv P B L fs g M m (h.push o):=I.keeps fun Z Z e=>Heap.get?_push_of_some _ e
noncomputable def Gh.add (g:Gh) (a:Addr) (o:Obj) (z:Prop):Gh:=⟨g.P,g.n,fun b=>if b=a then some o else g.led b,fun b=>if b=a then z else g.fz b,g.ρ⟩
theorem Gh.add_ext {g:Gh}{a:Addr}(hf:g.led a=none) (o:Obj) (z:Prop):Ext (fun Z=>False) g (g.add a o z) where
  P:=rfl
  n:=Nat.le_refl _
  ρ _ _:=rfl
  fz b o' e f:=by
    have hb:b≠a:=fun q=>by rw [q,hf] at e;exact zW e
    exact ⟨by show (if b=a then _ else _)=_;rw [if_neg hb];exact e,by show (if b=a then _ else _);rw [if_neg hb];exact f⟩
  led b o' e f ni _:=by
    have hb:b≠a:=fun q=>by rw [q,hf] at e;exact zW e
    exact ⟨by show (if b=a then _ else _)=_;rw [if_neg hb];exact e,by show ¬(if b=a then _ else _);rw [if_neg hb];exact f,ni⟩
theorem Inv.add (I:Inv P B L fs g M m h) (o:Obj) (z:Prop) (hf:o.isFreed=false):Inv P B L fs (g.add h.objs.size o z) M m (h.push o)/\Ext (fun Z=>False) g (g.add h.objs.size o z):=by
  have E:=Gh.add_ext (g:=g) (a:=h.objs.size) I.freshLed o z
  refine ⟨?_,E⟩
  have J:=I.push o
  refine ⟨J.keep,J.ns,J.lb,fun a o' e=>?_,J.n,fun i hi=>?_,J.inj,fun p hp=>?_,J.hP⟩
  · by_cases q:a=h.objs.size
    · subst q
      have e':(if h.objs.size=h.objs.size then some o else g.led h.objs.size)=some o':=e
      rw [if_pos rfl] at e'
      refine sE e' ?_;clear e';rintro rfl
      exact ⟨Heap.get?_push_size _ hf,Nat.ne_of_gt I.ns.lt,fun Z=>I.freshB⟩
    · have e':(if a=h.objs.size then some o else g.led a)=some o':=e
      rw [if_neg q] at e'
      refine xAA (J.led a o' e') fun x y w=>?_
      refine ⟨x,y,fun nf=>w fun f=>nf ?_⟩
      show (if a=h.objs.size then z else g.fz a)
      rw [if_neg q];exact f
  · refine qh (I.cell i hi) fun o' e f c=>?_
    have q:g.ρ i≠h.objs.size:=fun q=>by rw [q,I.freshLed] at e;exact zW e
    refine (q6 o' ?_ ?_ (c.ext E))
    · show (if g.ρ i=h.objs.size then _ else _)=_
      rw [if_neg q];exact e
    · show ¬(if g.ρ i=h.objs.size then _ else _)
      rw [if_neg q];exact f
  · refine zBb (J.fs p hp) fun x y w v=>?_
    refine (zEg x y ?_ v)
    show (if p.1=h.objs.size then _ else _)=_
    rw [if_neg (Nat.ne_of_lt (I.fs p hp).1.lt)];exact w
noncomputable def Gh.addC (g:Gh) (a:Addr) (o:Obj):Gh:=⟨g.P,g.n+1,fun b=>if b=a then some o else g.led b,fun b=>if b=a then False else g.fz b,fun i=>if i=g.n then a else g.ρ i⟩
theorem Inv.addC (I:Inv P B L fs g M m h) (o:Obj) (c:MO) (hf:o.isFreed=false) (ok:zDZ P g o c):Inv P B L fs (g.addC h.objs.size o) (M.new c) m (h.push o)/\Ext (fun Z=>False) g (g.addC h.objs.size o):=by
  have ne:∀b o',g.led b=some o'->b≠h.objs.size:=fun b o' e q=>by rw [q,I.freshLed] at e;exact zW e
  have ld:∀b o',g.led b=some o'->(g.addC h.objs.size o).led b=some o':=fun b o' e=>by show (if b=h.objs.size then _ else _)=_;rw [if_neg (ne b o' e)];exact e
  have fzn:∀b,b≠h.objs.size->((g.addC h.objs.size o).fz b↔g.fz b):=fun b q=>by show (if b=h.objs.size then _ else _)↔_;rw [if_neg q]
  have ρn:∀i,i<g.n->(g.addC h.objs.size o).ρ i=g.ρ i:=fun i hi=>by show (if i=g.n then _ else _)=_;rw [if_neg (Nat.ne_of_lt hi)]
  have ρe:(g.addC h.objs.size o).ρ g.n=h.objs.size:=by show (if g.n=g.n then _ else _)=_;rw [if_pos rfl]
  have E:Ext (fun Z=>False) g (g.addC h.objs.size o):={
    P:=rfl
    n:=Nat.le_succ _
    ρ:=ρn
    fz:=fun b o' e f=>⟨ld b o' e,(fzn b (ne b o' e)).mpr f⟩
    led:=fun b o' e f ni Z=>⟨ld b o' e,fun q=>f ((fzn b (ne b o' e)).mp q),fun i hi q=>by
      rcases Nat.lt_succ_iff_lt_or_eq.mp hi with hi | hi
      · rw [ρn i hi] at q;exact ni i hi q
      · rw [hi,ρe] at q;exact ne b o' e q⟩ }
  refine ⟨?_,E⟩
  have J:=I.push o
  refine ⟨J.keep,J.ns,J.lb,fun a o' e=>?_,by show g.n+1=M.n+1;rw [I.n],fun i hi=>?_,fun i j hi hj q=>?_,fun p hp=>?_,J.hP⟩
  · by_cases q:a=h.objs.size
    · subst q
      have e':(if h.objs.size=h.objs.size then some o else g.led h.objs.size)=some o':=e
      rw [if_pos rfl] at e'
      refine sE e' ?_;clear e';rintro rfl
      exact ⟨Heap.get?_push_size _ hf,Nat.ne_of_gt I.ns.lt,fun Z=>I.freshB⟩
    · have e':(if a=h.objs.size then some o else g.led a)=some o':=e
      rw [if_neg q] at e'
      refine xAA (J.led a o' e') fun x y w=>?_
      exact ⟨x,y,fun nf=>w fun f=>nf ((fzn a q).mpr f)⟩
  · rcases Nat.lt_succ_iff_lt_or_eq.mp hi with hi | hi
    · refine qh (I.cell i hi) fun o' e f c'=>?_
      rw [ρn i hi]
      refine (q6 o' (ld _ _ e) (fun q=>f ((fzn _ (ne _ _ e)).mp q)) ?_)
      have:(M.new c).c i=M.c i:=by show (if i=M.n then _ else _)=_;rw [if_neg (Nat.ne_of_lt (I.n ▸ hi))]
      rw [this];exact c'.ext E
    · subst hi
      rw [ρe]
      refine (q6 o (by show (if h.objs.size=h.objs.size then _ else _)=_;rw [if_pos rfl]) (by show ¬(if h.objs.size=h.objs.size then _ else _);rw [if_pos rfl];exact id) ?_)
      have:(M.new c).c g.n=c:=by show (if g.n=M.n then _ else _)=_;rw [if_pos I.n]
      rw [this];exact ok.ext E
  · rcases Nat.lt_succ_iff_lt_or_eq.mp hi with hi | hi<;>rcases Nat.lt_succ_iff_lt_or_eq.mp hj with hj | hj
    · rw [ρn i hi,ρn j hj] at q;exact I.inj i j hi hj q
    · rw [ρn i hi,hj,ρe] at q
      refine xEA (I.cell i hi) fun o' e Z=>?_
      exact absurd q (ne _ _ e)
    · rw [ρn j hj,hi,ρe] at q
      refine xEA (I.cell j hj) fun o' e Z=>?_
      exact absurd q.symm (ne _ _ e)
    · rw [hi,hj]
  · refine zBb (J.fs p hp) fun x y w v=>?_
    refine (zEg x y ?_ v)
    show (if p.1=h.objs.size then _ else _)=_
    rw [if_neg (Nat.ne_of_lt (I.fs p hp).1.lt)];exact w
noncomputable def Gh.put (g:Gh) (a:Addr) (o:Obj):Gh:=⟨g.P,g.n,fun b=>if b=a then some o else g.led b,g.fz,g.ρ⟩
theorem Gh.put_ext {g:Gh}{a:Addr}(ex:Addr->Prop) (o:Obj) (hf:¬g.fz a) (hx:ex a\/∃i,i<g.n/\g.ρ i=a):Ext ex g (g.put a o) where
  P:=rfl
  n:=Nat.le_refl _
  ρ _ _:=rfl
  fz b o' e f:=⟨by show (if b=a then _ else _)=_;rw [if_neg (by intro q;subst q;exact hf f)];exact e,f⟩
  led b o' e f ni nx:=⟨by
    show (if b=a then _ else _)=_
    rw [if_neg (fun q=>by
      rcases hx with hx | ⟨i,hi,hx⟩
      · exact nx (q ▸ hx)
      · exact ni i hi (q.trans hx.symm))]
    exact e,f,ni⟩
theorem Inv.putC {o':Obj}{h':Heap}{i:Nat}{c:MO}(I:Inv P B L fs g M m h) (hi:i<g.n) (hs:Heap.SameBut (g.ρ i) h h') (ho:h'.get? (g.ρ i)=some o') (ok:zDZ P g o' c) :
    Inv P B L fs (g.put (g.ρ i) o') (M.set i c) m h'/\Ext (fun Z=>False) g (g.put (g.ρ i) o'):=by
  refine qh (I.cell i hi) fun o e f Z=>?_
  have E:=Gh.put_ext (g:=g) (a:=g.ρ i) (fun Z=>False) o' f (.inr (iEA i hi rfl))
  refine xAA (I.led _ _ e) fun x y w=>?_
  refine ⟨⟨fun b ob eb=>(hs.2 b fun q=>?_).trans (I.keep b ob eb),I.ns.sameBut hs (Ne.symm y),I.lb,fun a oa ea=>?_,I.n,fun j hj=>?_,I.inj,fun p hp=>?_,I.hP⟩,E⟩
  · rw [q,w f] at eb;exact zW eb
  · by_cases q:a=g.ρ i
    · subst q
      have e':(if g.ρ i=g.ρ i then some o' else g.led (g.ρ i))=some oa:=ea
      rw [if_pos rfl] at e'
      refine sE e' ?_;clear e';rintro rfl
      exact ⟨ho,y,w⟩
    · have e':(if a=g.ρ i then some o' else g.led a)=some oa:=ea
      rw [if_neg q] at e'
      refine xA (I.led _ _ e') fun x' r=>?_
      exact ⟨(hs.2 a q).trans x',r⟩
  · by_cases q:j=i
    · subst q
      refine (q6 o' (by show (if g.ρ j=g.ρ j then _ else _)=_;rw [if_pos rfl]) f ?_)
      have:(M.set j c).c j=c:=by show (if j=j then _ else _)=_;rw [if_pos rfl]
      rw [this];exact ok.ext E
    · refine qh (I.cell j hj) fun oj ej fj cj=>?_
      have:(M.set i c).c j=M.c j:=by show (if j=i then _ else _)=_;rw [if_neg q]
      rw [this]
      exact (q6 oj (by show (if g.ρ j=g.ρ i then _ else _)=_;rw [if_neg fun z=>q (I.inj j i hj hi z)];exact ej) fj (cj.ext E))
  · refine zBb (I.fs p hp) fun a1 a2 a3 a4=>?_
    have q:p.1≠g.ρ i:=fun q=>by rw [q,e] at a3;exact zCR a3
    exact (zEg (a1.sameBut hs q) a2 (by show (if p.1=g.ρ i then _ else _)=_;rw [if_neg q];exact a3) a4)
theorem Inv.setL {h':Heap}{m':Str->Option Value}(I:Inv P B L fs g M m h) (hs:Heap.SameBut L h h') (hn:h'.Ns L m'):Inv P B L fs g M m' h':=
  ⟨fun b ob eb=>(hs.2 b fun q=>absurd (Heap.lt_size eb) (Nat.not_lt.mpr (q ▸ I.lb))).trans (I.keep b ob eb),hn,I.lb,fun a o e=>⟨(hs.2 a (I.led a o e).2.1).trans (I.led a o e).1,(I.led a o e).2⟩,I.n,I.cell,I.inj,
    fun p hp=>⟨(I.fs p hp).1.sameBut hs (I.fs p hp).2.2.2,(I.fs p hp).2⟩,I.hP⟩
theorem Inv.putV {o o':Obj}{h':Heap}{a:Addr}(I:Inv P B L fs g M m h) (e:g.led a=some o) (f:¬g.fz a) (ni:∀i,i<g.n->a≠g.ρ i) (hs:Heap.SameBut a h h') (ho:h'.get? a=some o') :
    Inv P B L fs (g.put a o') M m h'/\Ext (fun b=>b=a) g (g.put a o'):=by
  have E:=Gh.put_ext (g:=g) (a:=a) (fun b=>b=a) o' f (.inl rfl)
  refine xAA (I.led _ _ e) fun x y w=>?_
  refine ⟨⟨fun b ob eb=>(hs.2 b fun q=>?_).trans (I.keep b ob eb),I.ns.sameBut hs (Ne.symm y),I.lb,fun b oa ea=>?_,I.n,fun j hj=>?_,I.inj,fun p hp=>?_,I.hP⟩,E⟩
  · rw [q,w f] at eb;exact zW eb
  · by_cases q:b=a
    · subst q
      have e':(if b=b then some o' else g.led b)=some oa:=ea
      rw [if_pos rfl] at e'
      refine sE e' ?_;clear e';rintro rfl
      exact ⟨ho,y,w⟩
    · have e':(if b=a then some o' else g.led b)=some oa:=ea
      rw [if_neg q] at e'
      refine xA (I.led _ _ e') fun x' r=>?_
      exact ⟨(hs.2 b q).trans x',r⟩
  · refine qh (I.cell j hj) fun oj ej fj cj=>?_
    exact (q6 oj (by show (if g.ρ j=a then _ else _)=_;rw [if_neg fun z=>ni j hj z.symm];exact ej) fj (cj.ext E))
  · refine zBb (I.fs p hp) fun a1 a2 a3 a4=>?_
    have q:p.1≠a:=fun q=>by rw [q,e] at a3;exact zCR a3
    exact (zEg (a1.sameBut hs q) a2 (by show (if p.1=a then _ else _)=_;rw [if_neg q];exact a3) a4)
end

def zdD (G:Heap) (L:Addr) (e:Addr) (cls:Value) (h:Heap):Prop:=
  (∃oe vs a0,h.get? e=some oe/\oe.cls=cls/\oe.data=.fields vs/\vs[0]?=some a0/\vs[1]?=some .none) \/
  (∃a0,h.TracedAtW G e cls a0 .none)\/(∃a0,h.TracedAtW G e cls a0 (rawInt L))
inductive XIn (P:Params) (B:Heap) (L:Addr) (fs:Frs) (g:Gh) (M:Mem) (m:Str->Option Value) (e:Addr) (cls:Value) (h:Heap):Prop
  | mk:Inv P B L fs g M m h->∀G:Heap,B.StaysIn G->(∀a o,g.led a=some o->G.get? a=some o)->G.StaysIn h->G.get? L=none->(∀p∈fs,G.get? p.1=none)->G.get? e=none->zdD G L e cls h->XIn P B L fs g M m e cls h
theorem XIn.inv {P:Params}{B:Heap}{L:Addr}{fs:Frs}{g:Gh}{M:Mem}{m:Str->Option Value}{e:Addr}{cls:Value}{h:Heap}(x:XIn P B L fs g M m e cls h):Inv P B L fs g M m h:=by
  obtain ⟨I,_⟩:=x;exact I
inductive Trd (B:Heap) (L:Addr) (fs:Frs) (g:Gh) (e:Addr) (cls:Value) (h:Heap) (fl:Value):Prop
  | mk (G:Heap) (a0:Value):B.StaysIn G->(∀a o,g.led a=some o->G.get? a=some o)->G.StaysIn h->G.get? L=none->(∀p∈fs,G.get? p.1=none)->G.get? e=none->h.TracedAtW G e cls a0 fl->Trd B L fs g e cls h fl
theorem zHW {h G:Heap}:∀{l:List Env}{fs:Frs},l.map (·.frame)=fs.map (fun p=>some p.1)->(∀e∈l,e.scope.kind≠.module)->(∀p∈fs,h.Ns p.1 p.2/\G.get? p.1=none)->h.FunFrames G l
  | [],[],_,_,_=>trivial
  | [],_::_,e,_,_=>by simp at e
  | _::_,[],e,_,_=>by simp at e
  | env::l,p::fs,e,k,n=>by
    simp only [List.map_cons,List.cons.injEq] at e
    refine xA (n p (.head _)) fun z1 hg=>?_;obtain ⟨o,es,ep,ho,hd,_⟩:=z1
    refine ⟨k env (.head _),(yb p.1 o e.1 hg ho (fun vs q=>by rw [hd] at q;cases q)),?_⟩
    exact zHW e.2 (fun x hx=>k x (.tail _ hx)) fun x hx=>n x (.tail _ hx)
theorem zKZ (F:FD) (L:Addr):(yE F L).frame=some L:=rfl
section
variable {Tp:Heap->Prop}{d:Nat}{hz:Bool}{A:Around}{B:Heap}{outer:List Env}{fs:Frs}{L:Addr}{F:FD}{P:Params}{g:Gh}{M:Mem}{m:Str->Option Value}{h:Heap}{prog:Program}{w:World}{e:Addr}{cls:Value}{s:Shared}{E:Value->Shared->Prop}
theorem Ct.frames (X:Ct Tp d hz A B outer fs L F) {G:Heap}(I:Inv P B L fs g M m h) (hL:G.get? L=none) (hfs:∀p∈fs,G.get? p.1=none):h.FunFrames G (yE F L::outer):=
  zHW (fs:=(L,m)::fs) (by rw [List.map_cons,List.map_cons,X.out];rfl) (fun e he=>by
    rcases List.mem_cons.mp he with rfl | he
    · show F.scope.kind≠_;rw [X.fk];decide
    · exact X.kinds e he) fun p hp=>by
    rcases List.mem_cons.mp hp with rfl | hp
    · exact ⟨I.ns,hL⟩
    · exact ⟨(I.fs p hp).1,hfs p hp⟩
theorem Inv.upto {h':Heap}(I:Inv P B L fs g M m h) {G:Heap}(g1:B.StaysIn G) (g2:∀a o,g.led a=some o->G.get? a=some o) (k:G.StaysIn h') (u:h.UpToSlots h'):Inv P B L fs g M m h' where
  keep b o e:=k b o (g1 b o e)
  ns:=u.ns I.ns
  lb:=I.lb
  led a o e:=⟨k a o (g2 a o e),(I.led a o e).2⟩
  n:=I.n
  cell:=I.cell
  inj:=I.inj
  fs p hp:=⟨u.ns (I.fs p hp).1,(I.fs p hp).2⟩
  hP:=I.hP
theorem zJT (e:Value) {env env':Env}(h:env.frame=env'.frame):noteFrame e env=noteFrame e env':=by
  unfold noteFrame PySem.frameOf
  rw [h]
theorem zGB {f:Addr}{G:Heap}{a0 fl:Value}{Q:Unit->Shared->Prop}
    (hkb:G.StaysIn s.heap) (ht:s.heap.TracedAtW G e cls a0 fl)
    (h:∀h',G.StaysIn h'->h'.TracedAtW G e cls a0 (rawInt f)->s.heap.UpToSlots h'->Q () { s with heap:=h' }) :
    wpAny (model prog w) A (setFlight (.ref e) (some f)) Q E s:=by
  refine zCW ht fun oe vs T oT ts he hcls hd h1 hnT hTe hT hdT h3=>?_
  have hsz3:3<ts.size:=(Array.getElem?_eq_some_iff.mp h3).1
  have other:∀b,b≠T->(s.heap.update T (Obj.mapFields (·.setIfInBounds 3 ((some f:Option Addr).elim Value.none fun f=>rawInt f)))).get? b=s.heap.get? b:=
    fun b hb=>Heap.get?_update_other _ _ (Ne.symm hb)
  have noRecord:∀b o,s.heap.get? b=some o->(∀vs,o.data≠.fields vs)->b≠T:=fun b o hb hnf q=>by
    rw [q,hT] at hb;injection hb with hb;subst hb;exact hnf ts hdT
  unfold setFlight
  refine wpAny_bind (wpAny_field he hd h1 ?_)
  rw [if_pos (show (Value.ref T != Value.none)=true from by simp)]
  refine wpAny_setField hT hdT hsz3 (h _ (fun b o hbo=>(other b fun q=>by rw [q,hnT] at hbo;exact zW hbo).trans (hkb b o hbo)) ?_ fun b o hb hnf=>⟨o.slots,(other b (noRecord b o hb hnf)).trans hb⟩)
  exact (zFr oe vs T _ _ ((other e (Ne.symm hTe)).trans he) hcls hd h1 hnT hTe (Heap.get?_update_self _ hT (Obj.isFreed_of_fields (Obj.data_mapFields hdT _))) (Obj.data_mapFields hdT _) (by simp [hsz3]))
theorem XIn.note {env:Env}(hef:env.frame=some L) (X:Ct Tp d hz A B outer fs L F) (x:XIn P B L fs g M m e cls s.heap) {Q:Unit->Shared->Prop}
    (k:∀h',XIn P B L fs g M m e cls h'->Trd B L fs g e cls h' (rawInt L)->Q () { s with heap:=h' }) :
    wpAny (model prog w) A (noteFrame (.ref e) env) Q E s:=by
  rw [zJT _ (hef.trans (zKZ F L).symm)]
  obtain ⟨I,G,g1,g2,g3,g4,g5,g6,fl⟩:=x
  have FF:=X.frames I g4 g5
  rcases fl with ⟨oe,vs,a0,he,hc,hd,h0,h1⟩ | ⟨a0,tr⟩ | ⟨a0,tr⟩
  · unfold noteFrame
    simp only [zKZ]
    refine wpAny_bind (wpAny_field he hd h1 ?_)
    rw [if_neg (by decide)]
    refine wpAny_entryW X.fr FF rfl he g3 g6 hd (Array.getElem?_eq_some_iff.mp h1).1 h0 fun h' ⟨n1,n2,n3,n4⟩=>?_
    subst hc
    exact k h' ⟨I.upto g1 g2 n1 n4,G,g1,g2,n1,g4,g5,g6,.inr (.inr ⟨a0,n3⟩)⟩ ⟨G,a0,g1,g2,n1,g4,g5,g6,n3⟩
  · refine wpAny_noteFrame_onW X.fr FF rfl tr g3 g6 fun h' ⟨n1,n2,n3,n4⟩=>?_
    exact k h' ⟨I.upto g1 g2 n1 n4,G,g1,g2,n1,g4,g5,g6,.inr (.inr ⟨a0,n3⟩)⟩ ⟨G,a0,g1,g2,n1,g4,g5,g6,n3⟩
  · exact wpAny_noteFrame_againW rfl tr (k _ ⟨I,G,g1,g2,g3,g4,g5,g6,.inr (.inr ⟨a0,tr⟩)⟩ ⟨G,a0,g1,g2,g3,g4,g5,g6,tr⟩)
theorem XIn.cameBack {env:Env}(hef:env.frame=some L) (x:XIn P B L fs g M m e cls s.heap) {fl:Value}(ht:Trd B L fs g e cls s.heap fl)
    (k:∀h',XIn P B L fs g M m e cls h'->E (.ref e) { s with heap:=h' }):cameBackBy (model prog w) A env E (.ref e) s:=by
  obtain ⟨I,_⟩:=x
  obtain ⟨G,a0,g1,g2,g3,g4,g5,g6,tr⟩:=ht
  unfold cameBackBy
  refine zCW tr fun oe vs T oT ts he hcls hd h1 hnT hTe hT hdT h3=>?_
  refine wpAny_bind (wpAny_field he hd h1 ?_)
  rw [if_neg (by simp),hef]
  refine zGB g3 tr fun h' n1 n2 n3=>?_
  exact k h' ⟨I.upto g1 g2 n1 n3,G,g1,g2,n1,g4,g5,g6,.inr (.inr ⟨a0,n2⟩)⟩
theorem XIn.leave (X:Ct Tp d hz A B outer fs L F) (x:XIn P B L fs g M m e cls s.heap) {Q:Unit->Shared->Prop}
    (k:∀h' (G:Heap) (a0:Value),B.StaysIn G->(∀a o,g.led a=some o->G.get? a=some o)->G.StaysIn h'->(∀p∈fs,G.get? p.1=none)->G.get? e=none->h'.TracedW G e cls a0->s.heap.UpToSlots h'->Inv P B L fs g M m h'->Q () { s with heap:=h' }) :
    wpAny (model prog w) A (leaving (yE F L) (.ref e)) Q E s:=by
  obtain ⟨I,G,g1,g2,g3,g4,g5,g6,fl⟩:=x
  have FF:=X.frames I g4 g5
  rcases fl with ⟨oe,vs,a0,he,hc,hd,h0,h1⟩ | ⟨a0,tr⟩ | ⟨a0,tr⟩
  · refine wpAny_leaving_firstW X.fr FF rfl he g3 g6 hd h1 h0 fun h' ⟨n1,n2,n3,n4⟩=>?_
    subst hc
    exact k h' G a0 g1 g2 n1 g5 g6 n3 n4 (I.upto g1 g2 n1 n4)
  · refine wpAny_leaving_nextW X.fr FF rfl tr g3 g6 fun h' ⟨n1,n2,n3,n4⟩=>?_
    exact k h' G a0 g1 g2 n1 g5 g6 n3 n4 (I.upto g1 g2 n1 n4)
  · unfold leaving
    refine wpAny_bind (wpAny_noteFrame_againW rfl tr ?_)
    refine wpAny_setFlight_noneW (l:=yE F L::outer) g3 FF tr fun h' n1 n2 n3 n4=>?_
    have u:s.heap.UpToSlots h':=fun b o hb hn=>⟨o.slots,n4 b o hb hn⟩
    exact k h' G a0 g1 g2 n1 g5 g6 n3 u (I.upto g1 g2 n1 u)
theorem XIn.land (X:Ct Tp d hz A B outer fs L F) (x:XIn P B L fs g M m e cls s.heap) {fl:Value}(ht:Trd B L fs g e cls s.heap fl) {Q:Unit->Shared->Prop}
    (k:∀h',XIn P B L fs g M m e cls h'->Trd B L fs g e cls h' .none->Q () { s with heap:=h' }) :
    wpAny (model prog w) A (setFlight (.ref e) none) Q E s:=by
  obtain ⟨I,_⟩:=x
  obtain ⟨G,a0,g1,g2,g3,g4,g5,g6,tr⟩:=ht
  have FF:=X.frames I g4 g5
  refine wpAny_setFlight_noneW (l:=yE F L::outer) g3 FF tr fun h' n1 n2 n3 n4=>?_
  have u:s.heap.UpToSlots h':=fun b o hb hn=>⟨o.slots,n4 b o hb hn⟩
  exact k h' ⟨I.upto g1 g2 n1 u,G,g1,g2,n1,g4,g5,g6,.inr (.inl ⟨a0,n3⟩)⟩ ⟨G,a0,g1,g2,n1,g4,g5,g6,n3⟩
end

noncomputable abbrev PG:Program:=PySem.Challenge.pw_no0269_01
noncomputable abbrev CLS:Value:=.ref 51
abbrev NoX:Addr->Prop:=fun Z=>False
set_option genInjectivity false in
structure St where
  lo:List (Option PV)
  mem:Mem
abbrev qo (st:St) (f:List (Option PV)->Mem->Prop):Prop:=St.rec (motive:=fun Z=>Prop) f st
abbrev Den:=St->(PV->Mem->Prop)->(Mem->Prop)->Prop
abbrev qI:=St->(Bool->Mem->Prop)->(Mem->Prop)->Prop
abbrev zDD:=St->(List PV->Mem->Prop)->(Mem->Prop)->Prop
inductive Tag {α:Type}(f:α->Prop):Type | mk
inductive zGm (p:Prop):Type | mk
inductive zZZ (p q:Prop):Type | mk
def oK {α:Type}(f:α->Prop) (_:Tag f) (o:Option α):Prop:=match o with | some r=>f r | none=>False
def bK (p q:Prop) (_:zZZ p q) (b:Bool):Prop:=match b with | true=>p | false=>q
def aK (p:Prop) (_:zGm p) (b:Bool):Prop:=match b with | true=>p | false=>False
def lK (p:Prop) (t:zGm p) (ps:List PV):Prop:=aK p t (Nat.ble ps.length 1000)
def zFs (f:Int->Prop) (_:Tag f) (p:PV):Prop:=match p with | .int i=>f i | _=>False
def zUp (f:List PV->Prop) (_:Tag f) (p:PV):Prop:=match p with | .tup ps=>f ps | _=>False
def zSc (f:Value->Prop) (_:Tag f) (p:PV):Prop:=match p with | .glob v=>f v | _=>False
theorem qM {α:Type}{f:α->Prop}{o:Option α}(h:oK f .mk o):∃r,o=some r/\f r:=by
  induction o using Option.casesOn with
  | none=>exact h.elim
  | some r=>exact (iEA r rfl h)
theorem zCw {α:Type}{f:α->Prop}{o:Option α}{r:α}{t:Tag f}(h:o=some r) (k:f r):oK f t o:=by subst h;exact k
theorem zHI {b:Bool}{p:Prop}(h:aK p .mk b):b=true/\p:=by
  induction b using Bool.casesOn
  · exact h.elim
  · exact ⟨rfl,h⟩
theorem zIq {ps:List PV}{p:Prop}(h:lK p .mk ps):ps.length<=1000/\p:=⟨Nat.le_of_ble_eq_true (zHI h).1,(zHI h).2⟩
theorem zBf {f:Int->Prop}{p:PV}(h:zFs f .mk p):∃i,p=.int i/\f i:=by
  induction p using PV.casesOn with
  | int i=>exact (iEA i rfl h)
  | _=>exact h.elim
theorem zTT {f:List PV->Prop}{p:PV}(h:zUp f .mk p):∃i,p=.tup i/\f i:=by
  induction p using PV.casesOn with
  | tup i=>exact (iEA i rfl h)
  | _=>exact h.elim
theorem zVo {f:Value->Prop}{p:PV}(h:zSc f .mk p):∃i,p=.glob i/\f i:=by
  induction p using PV.casesOn with
  | glob i=>exact (iEA i rfl h)
  | _=>exact h.elim
def hid {α:Type}(a:α):α:=Classical.choose (⟨a,rfl⟩:∃b,b=a)
theorem y9 {α:Type}{a:α}:hid a=a:=Classical.choose_spec (⟨a,rfl⟩:∃b,b=a)
def dec (p:Prop):Bool:=@decide p (Classical.propDecidable p)
theorem zVO (p:Prop) [Decidable p]:dec p=decide p:=by
  unfold dec
  congr
theorem zPE {p:Prop}(h:p):dec p=true:=@decide_eq_true p (Classical.propDecidable p) h
theorem zSS {p:Prop}(h:¬p):dec p=false:=@decide_eq_false p (Classical.propDecidable p) h
def zYp (f:PV->Prop):List PV->Prop
  | [o]=>f o
  | _=>False
def twoK (f:PV->PV->Prop):List PV->Prop
  | [a,b]=>f a b
  | _=>False
theorem zOL {f:PV->Prop}:∀{ps:List PV},zYp f ps->∃o,ps=[o]/\f o
  | [o],h=>(iEA o rfl h)
  | [],h=>h.elim
  | _::_::_,h=>h.elim
theorem twoK_ex {f:PV->PV->Prop}:∀{ps:List PV},twoK f ps->∃a b,ps=[a,b]/\f a b
  | [a,b],h=>(zES a b rfl h)
  | [],h=>h.elim
  | [_],h=>h.elim
  | _::_::_::_,h=>h.elim
noncomputable def qD:List (Option PV)->Nat->Option PV
  | [],_=>none
  | x::_,0=>x
  | _::r,n+1=>qD r n
theorem zSs:∀{lo:List (Option PV)}{i:Nat}{p:PV},qD lo i=some p->lo[i]?=some (some p)
  | [],_,_,h=>nomatch h
  | _::_,0,_,h=>congrArg some h
  | _::r,n+1,_,h=>zSs (lo:=r) h
theorem zSr {f:PV->Prop}{lo:List (Option PV)}{i:Nat}(h:oK f .mk (qD lo i)):∃p,lo[i]?=some (some p)/\f p:=
  let ⟨p,a,b⟩:=qM h
  (iEA p (zSs a) b)
def KGo {α β:Type}(R:Gh->β->α->Prop) (w:World) (B:Heap) (L:Addr) (fs:Frs) (g:Gh) (m:Str->Option Value) (s:Shared) (k:β->Mem->Prop) (Q:α->Shared->Prop):Prop:=
  ∀v pv M' g' h' tk',Ext NoX g g'->Inv w.params B L fs g' M' m h'->R g' pv v->k pv M'->Q v { s with heap:=h',toks:=tk' }
def KEx (w:World) (B:Heap) (L:Addr) (fs:Frs) (g:Gh) (m:Str->Option Value) (s:Shared) (kx:Mem->Prop) (E:Value->Shared->Prop):Prop:=
  ∀e M' g' h' tk',Ext NoX g g'->XIn w.params B L fs g' M' m e CLS h'->kx M'->E (.ref e) { s with heap:=h',toks:=tk' }
def Go {α β:Type}(R:Gh->β->α->Prop) (w:World) (A:Around) (B:Heap) (L:Addr) (fs:Frs) (g:Gh) (m:Str->Option Value) (s:Shared) (tree:Sem α) (k:β->Mem->Prop) (kx:Mem->Prop):Prop:=
  ∀(Q:α->Shared->Prop) (E:Value->Shared->Prop),KGo R w B L fs g m s k Q->KEx w B L fs g m s kx E->wpAny (model PG w) A tree Q E s
abbrev RB (_:Gh) (b:Bool) (v:Bool):Prop:=v=b
section
variable {α β γ δ:Type}{R:Gh->β->α->Prop}{S:Gh->δ->γ->Prop}{w:World}{A:Around}{B:Heap}{L:Addr}{fs:Frs}{g:Gh}{m:Str->Option Value}{s:Shared}{tree:Sem α}{k:β->Mem->Prop}{kx:Mem->Prop}{M:Mem}
theorem Go.chain {Q:γ->Shared->Prop}{E:Value->Shared->Prop}{k2z:δ->Mem->Prop}{g':Gh}{h':Heap}{tk':Nat}{tree2:Sem γ}(e:Ext NoX g g')
    (x:Go S w A B L fs g' m { s with heap:=h',toks:=tk' } tree2 k2z kx)
    (ok:KGo S w B L fs g m s k2z Q)
    (ex:KEx w B L fs g m s kx E):wpAny (model PG w) A tree2 Q E { s with heap:=h',toks:=tk' }:=
  x Q E (fun v pv M' g'' h'' tk'' e' i r q=>ok v pv M' g'' h'' tk'' (e.trans e') i r q) fun x M' g'' h'' tk'' e' i q=>ex x M' g'' h'' tk'' (e.trans e') i q
end
structure yC (Tp:World->Heap->Prop) (w:World) (d:Nat) (hz:Bool) (F:FD) (cs:Option Scope) (nm:List Str) (e:Expr) (t:Den):Prop where
  go:∀(A:Around) (B:Heap) (outer:List Env) (fs:Frs) (L C:Addr) (cl:List (Str×Addr)),Ct (Tp w) d hz A B outer fs L F->(cs.isSome=true->C≠L) ->
    ∀(g:Gh) (M:Mem) (m:Str->Option Value) (s:Shared) (lo:List (Option PV)),Inv w.params B L fs g M m s.heap->zJB nm (yL F cs L C cl) L g m lo ->
      ∀k kx,t ⟨lo,M⟩ k kx->Go Rep w A B L fs g m s (eval e (yL F cs L C cl)) k kx
structure zJC (Tp:World->Heap->Prop) (w:World) (d:Nat) (hz:Bool) (F:FD) (cs:Option Scope) (nm:List Str) (e:Expr) (t:qI):Prop where
  go:∀(A:Around) (B:Heap) (outer:List Env) (fs:Frs) (L C:Addr) (cl:List (Str×Addr)),Ct (Tp w) d hz A B outer fs L F->(cs.isSome=true->C≠L) ->
    ∀(g:Gh) (M:Mem) (m:Str->Option Value) (s:Shared) (lo:List (Option PV)),Inv w.params B L fs g M m s.heap->zJB nm (yL F cs L C cl) L g m lo ->
      ∀k kx,t ⟨lo,M⟩ k kx->Go RB w A B L fs g m s (isTrue e (yL F cs L C cl) (eval e (yL F cs L C cl))) k kx
structure zLN (Tp:World->Heap->Prop) (w:World) (d:Nat) (hz:Bool) (F:FD) (cs:Option Scope) (nm:List Str) (es:List Expr) (t:zDD):Prop where
  go:∀(A:Around) (B:Heap) (outer:List Env) (fs:Frs) (L C:Addr) (cl:List (Str×Addr)) (pos:Pos),Ct (Tp w) d hz A B outer fs L F->(cs.isSome=true->C≠L) ->
    ∀(g:Gh) (M:Mem) (m:Str->Option Value) (s:Shared) (lo:List (Option PV)),Inv w.params B L fs g M m s.heap->zJB nm (yL F cs L C cl) L g m lo ->
      ∀k kx,t ⟨lo,M⟩ k kx->Go yJ w A B L fs g m s (spliced (backTo pos (starEach es (yL F cs L C cl)))) k kx
section
variable {Tp:World->Heap->Prop}{w:World}{d:Nat}{hz:Bool}{F:FD}{cs:Option Scope}{nm:List Str}
def zC (p:PV):Den:=fun st k Z=>qo st fun lo μ=>k p μ
theorem zH {i:Int}{kd:Nat}{pos:Pos}:yC Tp w d hz F cs nm (.Constant (.int i) kd pos) (zC (.int i)):=by
  constructor
  intro A B outer fs L C cl X hC g M m s lo I Lo k kx t Q E ok ex
  exact wpAny_Constant_int (ok _ (.int i) M g s.heap _ (Ext.refl g) I ⟨_,rfl⟩ t)
theorem zU {x:Str}{kd:Nat}{pos:Pos}:yC Tp w d hz F cs nm (.Constant (.str x) kd pos) (zC (.str x)):=by
  constructor
  intro A B outer fs L C cl X hC g M m s lo I Lo k kx t Q E ok ex
  exact wpAny_Constant_str (ok _ (.str x) M g s.heap _ (Ext.refl g) I ⟨_,rfl⟩ t)
theorem zv {kd:Nat}{pos:Pos}:yC Tp w d hz F cs nm (.Constant .none kd pos) (zC .none):=by
  constructor
  intro A B outer fs L C cl X hC g M m s lo I Lo k kx t Q E ok ex
  exact wpAny_Constant_none (ok _ .none M g s.heap s.toks (Ext.refl g) I rfl t)
theorem zAN {b:Bool}{kd:Nat}{pos:Pos}:yC Tp w d hz F cs nm (.Constant (.bool b) kd pos) (zC (.bool b)):=by
  constructor
  intro A B outer fs L C cl X hC g M m s lo I Lo k kx t Q E ok ex
  exact wpAny_Constant_bool (ok _ (.bool b) M g s.heap s.toks (Ext.refl g) I rfl t)
theorem zGy (X:F.scope.kind=.function) (hcs:∀sc,cs=some sc->sc.kind=.function) (L C:Addr) (cl:List (Str×Addr)):(yL F cs L C cl).scope.kind=.function:=by
  induction cs using Option.casesOn with
  | none=>exact X
  | some sc=>exact hcs sc rfl
def zF (i:Nat):Den:=fun st k Z=>qo st fun lo μ=>oK (fun p=>k p μ) .mk (qD lo i)
theorem zTL {x:Str}{pos:Pos}(i:Nat) (hi:nm[i]?=some x) (hcs:∀sc,cs=some sc->sc.kind=.function) (hb:(x==("__debug__" : Str))=false) :
    yC Tp w d hz F cs nm (.Name x pos) (zF i):=by
  constructor
  intro A B outer fs L C cl X hC g M m s lo I Lo k kx t Q E ok ex
  refine xEA (zSr t) fun p hp hk=>?_
  refine zt (Lo i p hp) fun x' v hx hl hr=>?_
  rw [hi] at hx
  obtain rfl:=Option.some.inj hx
  have kd:=zGy (cs:=cs) X.fk hcs L C cl
  have fin:Q v s:=ok v p M g s.heap s.toks (Ext.refl g) I hr hk
  rcases hl with ⟨h1,h2,h3⟩ | ⟨h1,c,o,h2,h3,h4,h5,h6⟩ | ⟨h1,h2,o,es,ep,h3,h4,h5,h6,h7,h8⟩
  · exact wpAny_Name (wpAny_loadName_local kd h1 (by rw [h2];exact I.ns) h3 fin) hb
  · exact wpAny_Name (wpAny_loadName_cell kd h1 h2 (iEA o ((I.led _ _ h3).1) h6) fin) hb
  · exact wpAny_Name (wpAny_loadName_local kd h1 (qi o es ep ((I.led _ _ h3).1) h6 h7 (fun Z=>rfl)) h8 fin) hb
def dif (c:qI) (a b:Den):Den:=fun st k kx=>qo st fun lo μ=>c st (fun t M=>bK (a ⟨lo,M⟩ k kx) (b ⟨lo,M⟩ k kx) .mk t) kx
theorem zBN {test body orelse:Expr}{pos:Pos}{c:qI}{a b:Den}(hc:zJC Tp w d hz F cs nm test c) (ha:yC Tp w d hz F cs nm body a) (hb:yC Tp w d hz F cs nm orelse b) :
    yC Tp w d hz F cs nm (.IfExp test body orelse pos) (dif c a b):=by
  constructor
  intro A B outer fs L C cl X hC g M m s lo I Lo k kx t Q E ok ex
  refine IfExp_ ((hc.go A B outer fs L C cl X hC g M m s lo I Lo _ kx t) _ _ (fun v t M' g' h' tk' e i r q=>?_) ex)
  subst r
  induction v using Bool.casesOn
  · exact (hb.go A B outer fs L C cl X hC g' M' m _ lo i (Lo.ext e) k kx q).chain e ok ex
  · exact (ha.go A B outer fs L C cl X hC g' M' m _ lo i (Lo.ext e) k kx q).chain e ok ex
def zHN (c:qI):qI:=fun st k kx=>c st (fun t M=>k (!t) M) kx
theorem zEk {x:Expr}{pos:Pos}{c:qI}(h:zJC Tp w d hz F cs nm x c):zJC Tp w d hz F cs nm (.UnaryOp .Not x pos) (zHN c):=by
  constructor
  intro A B outer fs L C cl X hC g M m s lo I Lo k kx t Q E ok ex
  refine isTrue_not ((h.go A B outer fs L C cl X hC g M m s lo I Lo _ kx t) _ _ (fun v t M' g' h' tk' e i r q=>?_) ex)
  subst r
  exact ok _ _ _ _ _ _ e i rfl q
def zHM:List qI->qI
  | []=>fun st k Z=>qo st fun lo μ=>k true μ
  | c::r=>fun st k kx=>qo st fun lo μ=>c st (fun t M=>bK (zHM r ⟨lo,M⟩ k kx) (k false M) .mk t) kx
def bor:List qI->qI
  | []=>fun st k Z=>qo st fun lo μ=>k false μ
  | c::r=>fun st k kx=>qo st fun lo μ=>c st (fun t M=>bK (k true M) (bor r ⟨lo,M⟩ k kx) .mk t) kx
inductive zOn (Tp:World->Heap->Prop) (w:World) (d:Nat) (hz:Bool) (F:FD) (cs:Option Scope) (nm:List Str):List Expr->List qI->Prop where
  | nil:zOn Tp w d hz F cs nm [] []
  | cons {x:Expr}{c:qI}{xs:List Expr}{r:List qI}:zJC Tp w d hz F cs nm x c->zOn Tp w d hz F cs nm xs r->zOn Tp w d hz F cs nm (x::xs) (c::r)
theorem zHi {xs:List Expr}{r:List qI}{pos:Pos}(h:zOn Tp w d hz F cs nm xs r):zJC Tp w d hz F cs nm (.BoolOp .And xs pos) (zHM r):=by
  induction h with
  | nil =>
    constructor
    intro A B outer fs L C cl X hC g M m s lo I Lo k kx t Q E ok ex
    exact isTrue_and_nil (ok true true M g s.heap s.toks (Ext.refl g) I rfl t)
  | cons hx _ ih =>
    constructor
    intro A B outer fs L C cl X hC g M m s lo I Lo k kx t Q E ok ex
    refine isTrue_and ((hx.go A B outer fs L C cl X hC g M m s lo I Lo _ kx t) _ _ (fun v t M' g' h' tk' e i r q=>?_) ex)
    subst r
    induction v using Bool.casesOn
    · exact ok _ _ _ _ _ _ e i rfl q
    · exact (ih.go A B outer fs L C cl X hC g' M' m _ lo i (Lo.ext e) k kx q).chain e ok ex
theorem zBM {xs:List Expr}{r:List qI}{pos:Pos}(h:zOn Tp w d hz F cs nm xs r):zJC Tp w d hz F cs nm (.BoolOp .Or xs pos) (bor r):=by
  induction h with
  | nil =>
    constructor
    intro A B outer fs L C cl X hC g M m s lo I Lo k kx t Q E ok ex
    exact isTrue_or_nil (ok false false M g s.heap s.toks (Ext.refl g) I rfl t)
  | cons hx _ ih =>
    constructor
    intro A B outer fs L C cl X hC g M m s lo I Lo k kx t Q E ok ex
    refine isTrue_or ((hx.go A B outer fs L C cl X hC g M m s lo I Lo _ kx t) _ _ (fun v t M' g' h' tk' e i r q=>?_) ex)
    subst r
    induction v using Bool.casesOn
    · exact (ih.go A B outer fs L C cl X hC g' M' m _ lo i (Lo.ext e) k kx q).chain e ok ex
    · exact ok _ _ _ _ _ _ e i rfl q
end

noncomputable def zPK (B:Heap) (L:Addr) (h:Heap) (a:Addr):Option (Addr×Obj):=
  if a=L then none else match B.get? a with
    | some _=>none
    | none=>match h.get? a with
      | some o=>some (a,o)
      | none=>none
noncomputable def zHv (B:Heap) (L:Addr) (h:Heap):List (Addr×Obj):=(List.range h.objs.size).filterMap (zPK B L h)
theorem zGx {B h:Heap}{L a:Addr}{p:Addr×Obj}(e:zPK B L h a=some p):p.1=a/\h.get? a=some p.2/\a≠L/\B.get? a=none:=by
  unfold zPK at e
  split at e
  · exact zW e
  · rename_i hL
    split at e
    · exact zW e
    · rename_i hB
      split at e
      · rename_i o ho;refine sE e ?_;clear e;rintro rfl;exact (zEg rfl ho hL hB)
      · exact zW e
theorem zVZ {B h:Heap}{L a:Addr}{o:Obj}(e:h.get? a=some o) (hL:a≠L) (hB:B.get? a=none):zPK B L h a=some (a,o):=by
  unfold zPK
  rw [if_neg hL,hB,e]
theorem zDp {B h:Heap}{L a:Addr}{o:Obj}:(a,o)∈zHv B L h↔h.get? a=some o/\a≠L/\B.get? a=none:=by
  constructor
  · intro hm
    refine xEA (List.mem_filterMap.mp hm) fun b Z e=>?_
    refine zBb (zGx e) fun h1 h2 h3 h4=>?_
    dsimp only at h1 h2
    subst h1
    exact ⟨h2,h3,h4⟩
  · rintro ⟨e,hL,hB⟩
    exact List.mem_filterMap.mpr (iEA a (List.mem_range.mpr (Heap.lt_size e)) (zVZ e hL hB))
theorem zTh (B:Heap) (L:Addr) (h:Heap):News B L h (zHv B L h):=fun p hp=>by
  obtain ⟨a,o⟩:=p
  exact zDp.mp hp
theorem zTg (B:Heap) (L:Addr) (h:Heap):((zHv B L h).map (·.1)).Pairwise (·<·):=by
  unfold zHv
  rw [List.map_filterMap]
  refine (List.Pairwise.filterMap (R:=(·<·)) _ ?_ (List.pairwise_lt_range))
  intro a a' hlt b hb b' hb'
  simp only [Option.map_eq_some_iff] at hb hb'
  refine xEA hb ?_;clear hb;intro p hp z1;subst z1
  refine xEA hb' ?_;clear hb';intro p' hp' z2;subst z2
  rw [(zGx hp).1,(zGx hp').1];exact hlt
theorem zZH {a:Addr}{o o':Obj}:∀{l:List (Addr×Obj)},(l.map (·.1)).Pairwise (·<·)->(a,o)∈l->Upd a o o' l (l.map fun p=>if p.1=a then (a,o') else p):=by
  intro q0
  induction q0 with
  | nil =>
    intro _ h
    exact (nomatch h)
  | cons p r ih =>
    intro w h
    rw [List.map_cons,List.pairwise_cons] at w
    rcases List.mem_cons.mp h with rfl | h
    · have e:r.map (fun p=>if p.1=a then (a,o') else p)=r:=by
        refine (List.map_congr_left fun q hq=>?_).trans (List.map_id r)
        rw [if_neg (Nat.ne_of_gt (w.1 q.1 (List.mem_map_of_mem hq)))];rfl
      rw [List.map_cons,if_pos rfl,e]
      exact .head fun q hq=>Nat.ne_of_gt (w.1 q.1 (List.mem_map_of_mem hq))
    · have hne:p.1≠a:=Nat.ne_of_lt (w.1 a (List.mem_map_of_mem (f:=(·.1)) h))
      rw [List.map_cons,if_neg hne]
      exact .tail hne (ih w.2 h)
section
variable {P:Params}{B:Heap}{L:Addr}{fs:Frs}{g:Gh}{M:Mem}{m:Str->Option Value}{h h':Heap}
theorem Inv.of_news {ex:List (Addr×Obj)}(I:Inv P B L fs g M m h) (F:Fr B L h' m) (N:News B L h' (ex++zHv B L h)):Inv P B L fs g M m h':=by
  have k:∀a o,a≠L->h.get? a=some o->h'.get? a=some o:=fun a o hL e=>by
    generalize q:B.get? a=z5;induction z5 using Option.casesOn with
    | some o' =>
      have:=I.keep a o' q
      rw [e] at this
      refine sE this ?_;clear this;rintro rfl
      exact F.keep a o q
    | none=>exact (N (a,o) (List.mem_append_right _ (zDp.mpr ⟨e,hL,q⟩))).1
  refine ⟨F.keep,F.ns,F.above,fun a o e=>⟨k a o (I.led a o e).2.1 (I.led a o e).1,(I.led a o e).2⟩,I.n,I.cell,I.inj,fun p hp=>⟨?_,(I.fs p hp).2⟩,I.hP⟩
  refine zBb (I.fs p hp) fun z3 Z Z q=>?_;obtain ⟨o,es,ep,ho,r⟩:=z3
  exact (zPr o es ep (k _ _ q ho) r)
theorem Inv.addN {a:Addr}{o:Obj}(I:Inv P B L fs g M m h) (F:Fr B L h' m) (N:News B L h' ((a,o)::zHv B L h)) (ha:h.objs.size<=a) (z:Prop):Inv P B L fs (g.add a o z) M m h'/\Ext NoX g (g.add a o z):=by
  have J:=I.of_news (ex:=[(a,o)]) F N
  have fr:g.led a=none:=by
    generalize q:g.led a=z7;induction z7 using Option.casesOn with
    | none=>rfl
    | some o'=>exact absurd (I.lt q) (Nat.not_lt.mpr ha)
  have E:=Gh.add_ext (g:=g) fr o z
  refine xAA (N (a,o) (.head _)) fun n1 n2 n3=>?_
  dsimp only at n1 n2 n3
  have ne:∀b o',g.led b=some o'->b≠a:=fun b o' e q=>by rw [q,fr] at e;exact zW e
  refine ⟨⟨J.keep,J.ns,J.lb,fun b ob e=>?_,J.n,fun i hi=>?_,J.inj,fun p hp=>?_,J.hP⟩,E⟩
  · by_cases q:b=a
    · subst q
      have e':(if b=b then some o else g.led b)=some ob:=e
      rw [if_pos rfl] at e'
      refine sE e' ?_;clear e';rintro rfl
      exact ⟨n1,n2,fun Z=>n3⟩
    · have e':(if b=a then some o else g.led b)=some ob:=e
      rw [if_neg q] at e'
      refine xAA (J.led b ob e') fun x y w=>?_
      refine ⟨x,y,fun nf=>w fun f=>nf ?_⟩
      show (if b=a then z else g.fz b)
      rw [if_neg q];exact f
  · refine qh (I.cell i hi) fun o' e f c=>?_
    have q:=ne _ _ e
    refine (q6 o' ?_ ?_ (c.ext E))
    · show (if g.ρ i=a then _ else _)=_
      rw [if_neg q];exact e
    · show ¬(if g.ρ i=a then _ else _)
      rw [if_neg q];exact f
  · refine zBb (J.fs p hp) fun x y w v=>?_
    refine (zEg x y ?_ v)
    show (if p.1=a then _ else _)=_
    rw [if_neg (Nat.ne_of_lt (Nat.lt_of_lt_of_le (I.fs p hp).1.lt ha))];exact w
theorem Inv.putN {o':Obj}{i:Nat}{c:MO}(I:Inv P B L fs g M m h) (hi:i<g.n) (F:Fr B L h' m) (N:News B L h' ((zHv B L h).map fun p=>if p.1=g.ρ i then (g.ρ i,o') else p)) (ok:zDZ P g o' c) :
    Inv P B L fs (g.put (g.ρ i) o') (M.set i c) m h'/\Ext NoX g (g.put (g.ρ i) o'):=by
  refine qh (I.cell i hi) fun o e f Z=>?_
  have E:=Gh.put_ext (g:=g) (a:=g.ρ i) NoX o' f (.inr (iEA i hi rfl))
  refine xAA (I.led _ _ e) fun x y w=>?_
  have k:∀a o,a≠L->a≠g.ρ i->h.get? a=some o->h'.get? a=some o:=fun a o hL hne e=>by
    generalize q:B.get? a=z8;induction z8 using Option.casesOn with
    | some o' =>
      have:=I.keep a o' q
      rw [e] at this
      refine sE this ?_;clear this;rintro rfl
      exact F.keep a o q
    | none =>
      refine (N (a,o) (List.mem_map.mpr (iEA (a,o) (zDp.mpr ⟨e,hL,q⟩) ?_))).1
      rw [if_neg hne]
  have ho:h'.get? (g.ρ i)=some o':=(N (g.ρ i,o') (List.mem_map.mpr (iEA (g.ρ i,o) (zDp.mpr ⟨x,y,w f⟩) (by rw [if_pos rfl])))).1
  refine ⟨⟨F.keep,F.ns,F.above,fun a oa ea=>?_,I.n,fun j hj=>?_,I.inj,fun p hp=>?_,I.hP⟩,E⟩
  · by_cases q:a=g.ρ i
    · subst q
      have e':(if g.ρ i=g.ρ i then some o' else g.led (g.ρ i))=some oa:=ea
      rw [if_pos rfl] at e'
      refine sE e' ?_;clear e';rintro rfl
      exact ⟨ho,y,w⟩
    · have e':(if a=g.ρ i then some o' else g.led a)=some oa:=ea
      rw [if_neg q] at e'
      refine xA (I.led _ _ e') fun x' r=>?_
      exact ⟨k a oa r.1 q x',r⟩
  · by_cases q:j=i
    · subst q
      refine (q6 o' (by show (if g.ρ j=g.ρ j then _ else _)=_;rw [if_pos rfl]) f ?_)
      have:(M.set j c).c j=c:=by show (if j=j then _ else _)=_;rw [if_pos rfl]
      rw [this];exact ok.ext E
    · refine qh (I.cell j hj) fun oj ej fj cj=>?_
      have:(M.set i c).c j=M.c j:=by show (if j=i then _ else _)=_;rw [if_neg q]
      rw [this]
      exact (q6 oj (by show (if g.ρ j=g.ρ i then _ else _)=_;rw [if_neg fun z=>q (I.inj j i hj hi z)];exact ej) fj (cj.ext E))
  · refine zBb (I.fs p hp) fun z4 a2 a3 a4=>?_;obtain ⟨o1,es,ep,ho1,r⟩:=z4
    have q:p.1≠g.ρ i:=fun q=>by rw [q,e] at a3;exact zCR a3
    exact (zEg (zPr o1 es ep (k _ _ a4 q ho1) r) a2 (by show (if p.1=g.ρ i then _ else _)=_;rw [if_neg q];exact a3) a4)
theorem Inv.upd {o':Obj}{i:Nat}(I:Inv P B L fs g M m h) (hi:i<g.n) {o:Obj}(e:g.led (g.ρ i)=some o):Upd (g.ρ i) o o' (zHv B L h) ((zHv B L h).map fun p=>if p.1=g.ρ i then (g.ρ i,o') else p):=by
  refine qh (I.cell i hi) fun o2 e2 f Z=>?_
  rw [e] at e2;refine sE e2 ?_;clear e2;rintro rfl
  refine xAA (I.led _ _ e) fun x y w=>?_
  exact zZH (zTg B L h) (zDp.mpr ⟨x,y,w f⟩)
theorem Inv.news (_:Inv P B L fs g M m h):News B L h (zHv B L h):=zTh B L h
end

section
variable {w:World}{A:Around}{B:Heap}{L:Addr}{fs:Frs}{g:Gh}{M:Mem}{m:Str->Option Value}{s:Shared}{k:PV->Mem->Prop}{kb:Bool->Mem->Prop}{kx:Mem->Prop}{P:Params}{h:Heap}
theorem Rep.isTup (I:Inv P B L fs g M m h) {xs:List PV}{v:Value}(r:Rep g (.tup xs) v):∃a vs,v=.ref a/\g.fz a/\g.led a=some (zm "tuple" vs 0)/\IsTup h a vs.toArray/\yJ g xs vs:=by
  refine yl r fun a vs e f l q=>?_
  exact (zNv a vs e f l (zKg _ ((I.led _ _ l).1) rfl _ rfl) q)
theorem Rep.isLst (I:Inv P B L fs g M m h) {xs:List PV}{v:Value}(r:Rep g (.lst xs) v):∃a vs ep,v=.ref a/\g.fz a/\g.led a=some (zm "list" vs ep)/\h.IsList a vs.toArray/\yJ g xs vs:=by
  refine yY r fun a vs ep e f l q=>?_
  exact (zHZ a vs ep e f l (zKg _ ((I.led _ _ l).1) rfl _ rfl) q)
theorem Inv.list (I:Inv P B L fs g M m h) {i:Nat}{xs:List PV}(hi:i<g.n) (hc:M.c i=.list xs):∃vs ep,g.led (g.ρ i)=some (zm "list" vs ep)/\h.IsList (g.ρ i) vs.toArray/\yJ g xs vs:=by
  refine qh (I.cell i hi) fun o e Z c=>?_
  rw [hc] at c
  refine zHH c ?_;clear c;intro vs ep z1 r;subst z1
  exact (yS vs ep e (zKg _ ((I.led _ _ e).1) rfl _ rfl) r)
theorem zQI {x y:Int}(h:¬2^64<=y.natAbs):Builtin.divisionGoesByPylong x y=false:=by
  unfold Builtin.divisionGoesByPylong
  have:¬((if (y==0)=true then 0 else y.natAbs.log2 / 30+1)>300):=by
    split
    · decide
    · rename_i q
      have hy:y.natAbs≠0:=fun z=>q (by rw [Int.natAbs_eq_zero.mp z];rfl)
      have:=(Nat.log2_lt hy (k:=64)).mpr (by lia)
      lia
  simp only [decide_eq_false this,Bool.false_and]
theorem zDw {g:Gh}{v:Value}(h:Rep g .none v):v=.none:=h
theorem zCx {g:Gh}{b:Bool}{v:Value}(h:Rep g (.bool b) v):v=.bool b:=h
theorem zJd {g:Gh}{b:Int}{v:Value}(h:Rep g (.int b) v):∃t,v=.int b t:=h
theorem zTG {g:Gh}{b:Str}{v:Value}(h:Rep g (.str b) v):∃t,v=.str b t:=h
theorem zCh {g:Gh}{p:PV}{v:Value}(h:Rep g p v):(match p with | .tup _ | .lst _ | .ref _ | .inst .. | .dct .. | .rng ..=>True | _=>False)->∃a,v=.ref a:=by
  induction p using PV.casesOn with
  | tup xs=>intro _;refine zHH h fun a Z e Z=>?_;exact ⟨a,e⟩
  | lst xs=>intro _;refine zIy h fun a Z Z e Z=>?_;exact ⟨a,e⟩
  | ref i=>intro _;exact ⟨_,h.1⟩
  | inst C i=>intro _;refine xEA h fun a e Z=>?_;exact ⟨a,e⟩
  | dct ks xs=>intro _;refine zIy h fun a Z Z e Z=>?_;exact ⟨a,e⟩
  | rng a b c=>intro _;refine zaw h fun a Z Z Z e Z=>?_;exact ⟨a,e⟩
  | _=>intro z;exact z.elim
theorem yF {C:Value->Prop}{g:Gh}{b:Int}{v:Value}(h:Rep g (.int b) v) (f:∀t,C (.int b t)):C v:=by
  refine xE (zJd h) fun t z=>?_
  rw [z];exact f t
theorem qN {C:Value->Prop}{g:Gh}{b:Str}{v:Value}(h:Rep g (.str b) v) (f:∀t,C (.str b t)):C v:=by
  refine xE (zTG h) fun t z=>?_
  rw [z];exact f t
theorem zWt {C:Value->Prop}{g:Gh}{p:PV}{v:Value}(h:Rep g p v) (hp:match p with | .tup _ | .lst _ | .ref _ | .inst .. | .dct .. | .rng ..=>True | _=>False) (f:∀a,C (.ref a)):C v:=by
  refine xE (zCh h hp) fun t z=>?_
  rw [z];exact f t
noncomputable def zdG (op:Operator) (x y:Int):Option PV:=
  match op with
  | .Add=>some (.int (x+y))
  | .Sub=>some (.int (x-y))
  | .Mult=>if x.natAbs<2^64 then some (.int (x * y)) else none
  | .FloorDiv=>if y=0\/2^64<=y.natAbs then none else some (.int (x.fdiv y))
  | .Mod=>if y=0 then none else some (.int (x.fmod y))
  | .Pow=>if 0<=y/\y<=1000000/\x.natAbs<2^64 then some (.int (x^y.toNat)) else none
  | .LShift=>if 0<=y/\y<=1000000/\x.natAbs<2^64 then some (.int (x * 2^y.toNat)) else none
  | _=>none
noncomputable def zdH (op:Operator) (x y:Str):Option PV:=
  match op with
  | .Add=>if x.length+y.length<=sizeLine then some (.str (x++y)) else none
  | _=>none
noncomputable def zbT (op:Operator) (a b:PV):Option PV:=
  match a with
  | .int x=>(match b with | .int y=>zdG op x y | _=>none)
  | .str x=>(match b with | .str y=>zdH op x y | _=>none)
  | _=>none
def zER (op:Operator) (a b:PV) (_M:Mem):Option PV:=hid (zbT op a b)
theorem zaH {op:Operator}{a b r:PV}{va vb:Value}(I:Inv w.params B L fs g M m s.heap) (ha:Rep g a va) (hb:Rep g b vb) (e:zER op a b M=some r) (hk:k r M) :
    Go Rep w A B L fs g m s (binaryOp op va vb) k kx:=by
  intro Q E ok ex
  have fin:∀v tk,Rep g r v->Q v { s with toks:=tk }:=fun v tk hr=>ok v r M g s.heap tk (Ext.refl g) I hr hk
  replace e:zbT op a b=some r:=y9.symm.trans e
  induction a using PV.casesOn with
  | int x =>
    induction b using PV.casesOn with
    | int y =>
      apply yF ha;clear ha;intro t;apply yF hb;clear hb;intro u
      induction op using PySem.Operator.casesOn with
      | Add=>refine sE e ?_;clear e;rintro rfl;exact PyProof.Rows.add_int (fin _ _ ⟨_,rfl⟩)
      | Sub=>refine sE e ?_;clear e;rintro rfl;exact PyProof.Rows.sub_int (fin _ _ ⟨_,rfl⟩)
      | Mult=>refine zJQ e ?_;clear e;rintro hx rfl;exact PyProof.Rows.mul_int (fin _ _ ⟨_,rfl⟩) (IntMulOk.of_left (intBits_le_64 (by lia) (by lia)))
      | FloorDiv=>refine zcC e ?_;clear e;rintro hy rfl;exact PyProof.Rows.floordiv_int (fun z=>hy (.inl z)) (fin _ _ ⟨_,rfl⟩) (.inl (zQI fun z=>hy (.inr z)))
      | Mod=>refine zcC e ?_;clear e;rintro hy rfl;exact PyProof.Rows.mod_int hy (fin _ _ ⟨_,rfl⟩)
      | Pow=>refine zJQ e ?_;clear e;rintro hy rfl;exact PyProof.Rows.pow_int_small hy.1 hy.2.1 hy.2.2 (fin _ _ ⟨_,rfl⟩)
      | LShift=>refine zJQ e ?_;clear e;rintro hy rfl;exact PyProof.Rows.lshift_int_small hy.1 hy.2.1 hy.2.2 (fin _ _ ⟨_,rfl⟩)
      | _=>exact zW e
    | _=>exact zW e
  | str x =>
    induction b using PV.casesOn with
    | str y =>
      apply qN ha;clear ha;intro t;apply qN hb;clear hb;intro u
      induction op using PySem.Operator.casesOn with
      | Add=>refine zJQ e ?_;clear e;rintro hy rfl;exact PyProof.Rows.add_str (fun t' tk=>fin _ _ ⟨_,rfl⟩) hy
      | _=>exact zW e
    | _=>exact zW e
  | _=>exact zW e
noncomputable def zYW:PV->Option Bool
  | .none=>some true
  | .glob _=>none
  | .idct _ _=>none
  | _=>some false
noncomputable def zdK (op:CmpOp) (r:Bool):Option Bool:=match op with
  | .Is=>some r
  | .IsNot=>some (!r)
  | _=>none
def zdJ (op:CmpOp) (x y:Int):Option Bool:=match op with
  | .Lt=>some (dec (x<y))
  | .LtE=>some (dec (x<=y))
  | .Gt=>some (dec (y<x))
  | .GtE=>some (dec (y<=x))
  | .Eq=>some (dec (x=y))
  | .NotEq=>some (!dec (x=y))
  | _=>none
noncomputable def zbV {α:Type} [BEq α] (op:CmpOp) (x y:α):Option Bool:=match op with
  | .Eq=>some (x==y)
  | _=>none
def zDh (op:CmpOp) (a b:PV) (_M:Mem):Option Bool:=match b with
  | .none=>(zYW a).bind (zdK op)
  | .int y=>(match a with | .int x=>zdJ op x y | _=>none)
  | .str y=>(match a with | .str x=>zbV op x y | _=>none)
  | .bool y=>(match a with | .bool x=>zbV op x y | _=>none)
  | _=>none
theorem zVr {op:CmpOp}{a b:PV}{r:Bool}{va vb:Value}(I:Inv w.params B L fs g M m s.heap) (ha:Rep g a va) (hb:Rep g b vb) (e:zDh op a b M=some r) (hk:k (.bool r) M) :
    Go Rep w A B L fs g m s (compareOp op va vb) k kx:=by
  intro Q E ok ex
  have fin:Q (.bool r) s:=ok _ (.bool r) M g s.heap s.toks (Ext.refl g) I rfl hk
  have fint:∀tk,Q (.bool r) { s with toks:=tk }:=fun tk=>ok _ (.bool r) M g s.heap tk (Ext.refl g) I rfl hk
  have fb:∀{b:Bool},some b=some r->Q (.bool b) s:=fun {b} e=>sI e ▸ fin
  have fc:∀{p:Prop} [Decidable p],some (dec p)=some r->Q (.bool (decide p)) s:=fun {p} _ e=>by rw [← zVO];exact fb e
  have fn:∀{p:Prop} [Decidable p],some (!dec p)=some r->Q (.bool (!decide p)) s:=fun {p} _ e=>by rw [← zVO];exact fb e
  induction b using PV.casesOn with
  | none =>
    obtain rfl:=zDw hb
    refine xEA (Option.bind_eq_some_iff.mp e) fun q hq e=>?_
    induction q using Bool.casesOn with
    | true =>
      have nn:va=.none:=by
        induction a using PV.casesOn with
        | none=>exact zDw ha
        | _=>cases hq
      subst nn
      induction op using PySem.CmpOp.casesOn with
      | Is=>exact wpAny_is_self rfl (fb e)
      | IsNot=>exact wpAny_isNot_self rfl (fb e)
      | _=>exact zW e
    | false =>
      have nf:plainIs va .none=true/\va≠.none:=by
        induction a using PV.casesOn with
        | none=>cases hq
        | int _=>refine xE (zJd ha) fun t z18=>?_;rw [z18];exact ⟨rfl,nofun⟩
        | bool _=>rw [zCx ha];exact ⟨rfl,nofun⟩
        | str _=>refine xE (zTG ha) fun t z19=>?_;rw [z19];exact ⟨rfl,nofun⟩
        | glob _=>exact zW hq
        | idct _ _=>exact zW hq
        | _=>refine xE (zCh ha trivial) fun t z20=>?_;rw [z20];exact ⟨rfl,nofun⟩
      induction op using PySem.CmpOp.casesOn with
      | Is=>exact wpAny_is_other nf.1 nf.2 (fb e)
      | IsNot=>exact wpAny_isNot_other nf.1 nf.2 (fb e)
      | _=>exact zW e
  | int y =>
    induction a using PV.casesOn with
    | int x =>
      apply yF ha;clear ha;intro t
      apply yF hb;clear hb;intro u
      induction op using PySem.CmpOp.casesOn with
      | Lt=>exact PyProof.Rows.lt_int (fc e)
      | LtE=>exact PyProof.Rows.le_int (fc e)
      | Gt=>exact PyProof.Rows.gt_int (fc e)
      | GtE=>exact PyProof.Rows.ge_int (fc e)
      | Eq=>exact PyProof.Rows.eq_int (fc e)
      | NotEq=>exact PyProof.Rows.ne_int (fn e)
      | _=>exact zW e
    | _=>exact zW e
  | str y =>
    induction a using PV.casesOn with
    | str x =>
      apply qN ha;clear ha;intro t
      apply qN hb;clear hb;intro u
      induction op using PySem.CmpOp.casesOn with
      | Eq=>exact PyProof.Rows.eq_str (fb e)
      | _=>exact zW e
    | _=>exact zW e
  | bool y =>
    induction a using PV.casesOn with
    | bool x =>
      obtain rfl:=zCx ha
      obtain rfl:=zCx hb
      induction op using PySem.CmpOp.casesOn with
      | Eq=>exact PyProof.Rows.eq_bool (fb e)
      | _=>exact zW e
    | _=>exact zW e
  | _=>exact zW e
end
section
variable {Tp:World->Heap->Prop}{w:World}{d:Nat}{hz:Bool}{F:FD}{cs:Option Scope}{nm:List Str}
def ye (op:Operator) (a b:Den):Den:=fun st k kx=>qo st fun lo μ=>a st (fun x M=>b ⟨lo,M⟩ (fun y M=>oK (fun r=>k r M) .mk (zER op x y M)) kx) kx
theorem zl {op:Operator}{l r:Expr}{pos:Pos}{a b:Den}(ha:yC Tp w d hz F cs nm l a) (hb:yC Tp w d hz F cs nm r b):yC Tp w d hz F cs nm (.BinOp l op r pos) (ye op a b):=by
  constructor
  intro A B outer fs L C cl X hC g M m s lo I Lo k kx t Q E ok ex
  refine wpAny_BinOp ((ha.go A B outer fs L C cl X hC g M m s lo I Lo _ kx t) _ _ (fun v x M1z g1z h1z tk1z e1z i1z r1 q1z=>?_) ex)
  refine (hb.go A B outer fs L C cl X hC g1z M1z m _ lo i1z (Lo.ext e1z) _ kx q1z) _ _ (fun u y M2z g2z h2z tk2 e2z i2z r2z q2z=>?_) fun e M' g' h' tk' ee=>ex e M' g' h' tk' (e1z.trans ee)
  refine xEA (qM q2z) fun z hz hk=>?_
  exact (zaH i2z (r1.mono e2z) r2z hz hk).chain (e1z.trans e2z) ok ex
def zPC (op:CmpOp) (a b:Den):Den:=fun st k kx=>qo st fun lo μ=>a st (fun x M=>b ⟨lo,M⟩ (fun y M=>oK (fun r=>k (.bool r) M) .mk (zDh op x y M)) kx) kx
theorem zHk {op:CmpOp}{l r:Expr}{pos:Pos}{a b:Den}(ha:yC Tp w d hz F cs nm l a) (hb:yC Tp w d hz F cs nm r b) (hm:behindInMarks op r=false):yC Tp w d hz F cs nm (.Compare l [op] [r] pos) (zPC op a b):=by
  constructor
  intro A B outer fs L C cl X hC g M m s lo I Lo k kx t Q E ok ex
  refine wpAny_Compare1 ((ha.go A B outer fs L C cl X hC g M m s lo I Lo _ kx t) _ _ (fun v x M1z g1z h1z tk1z e1z i1z r1 q1z=>?_) ex) hm
  refine (hb.go A B outer fs L C cl X hC g1z M1z m _ lo i1z (Lo.ext e1z) _ kx q1z) _ _ (fun u y M2z g2z h2z tk2 e2z i2z r2z q2z=>?_) fun e M' g' h' tk' ee=>ex e M' g' h' tk' (e1z.trans ee)
  refine xEA (qM q2z) fun z hz hk=>?_
  exact (zVr i2z (r1.mono e2z) r2z hz hk).chain (e1z.trans e2z) ok ex
def yA (op:CmpOp) (a b:Den):qI:=fun st k kx=>qo st fun lo μ=>a st (fun x M=>b ⟨lo,M⟩ (fun y M=>oK (fun r=>k r M) .mk (zDh op x y M)) kx) kx
theorem za {op:CmpOp}{l r:Expr}{pos:Pos}{a b:Den}(ha:yC Tp w d hz F cs nm l a) (hb:yC Tp w d hz F cs nm r b) (hm:behindInMarks op r=false):zJC Tp w d hz F cs nm (.Compare l [op] [r] pos) (yA op a b):=by
  constructor
  intro A B outer fs L C cl X hC g M m s lo I Lo k kx t Q E ok ex
  refine wpAny_isTrue_Compare1 ((ha.go A B outer fs L C cl X hC g M m s lo I Lo _ kx t) _ _ (fun v x M1z g1z h1z tk1z e1z i1z r1 q1z=>?_) ex) hm
  refine (hb.go A B outer fs L C cl X hC g1z M1z m _ lo i1z (Lo.ext e1z) _ kx q1z) _ _ (fun u y M2z g2z h2z tk2 e2z i2z r2z q2z=>?_) fun e M' g' h' tk' ee=>ex e M' g' h' tk' (e1z.trans ee)
  refine xEA (qM q2z) fun z hz hk=>?_
  refine (zVr (k:=fun p M=>∃b,p=.bool b/\k b M) i2z (r1.mono e2z) r2z hz (iEA z rfl hk)).chain (S:=Rep) (e1z.trans e2z) (fun v pv M' g' h' tk' e' i' r' q'=>?_) ex
  refine xEA q' ?_;clear q';intro b z25 hk';subst z25
  obtain rfl:=zCx r'
  exact wpAny_truthy_bool (ok b b M' g' h' tk' e' i' rfl hk')
def zII (a:Den):Den:=fun st k kx=>a st (fun x M=>zFs (fun i=>k (.int (-i)) M) .mk x) kx
theorem zEJ {x:Expr}{pos:Pos}{a:Den}(ha:yC Tp w d hz F cs nm x a):yC Tp w d hz F cs nm (.UnaryOp .USub x pos) (zII a):=by
  constructor
  intro A B outer fs L C cl X hC g M m s lo I Lo k kx t Q E ok ex
  refine UnaryOp_ ((ha.go A B outer fs L C cl X hC g M m s lo I Lo _ kx t) _ _ (fun v x M1z g1z h1z tk1z e1z i1z r1 q1z=>?_) ex)
  refine xEA (zBf q1z) fun i z26 hk=>?_;subst z26
  apply yF r1;intro u
  exact PyProof.Rows.neg_int (ok _ (.int (-i)) M1z g1z h1z _ e1z i1z ⟨_,rfl⟩ hk)
end

abbrev zX:=St->(St->Prop)->(PV->Mem->Prop)->(St->Prop)->Prop
def zAI (F:FD) (L:Addr):Addr->Prop:=fun a=>∃x,(yE F L).cells.lookup x=some a
def COk (F:FD) (L:Addr) (g:Gh):Prop:=∀x c,(yE F L).cells.lookup x=some c->∃o v,g.led c=some o/\¬g.fz c/\(∀i,i<g.n->c≠g.ρ i)/\o.data=.cell v
structure SOk (F:FD) (nm:List Str) (L:Addr) (g:Gh) (m:Str->Option Value) (lo:List (Option PV)):Prop where
  lo:zJB nm (yE F L) L g m lo
  co:COk F L g
theorem COk.ext {F:FD}{L:Addr}{g g':Gh}(E:Ext NoX g g') (h:COk F L g):COk F L g':=fun x c e =>
  let ⟨o,v,a,b,n,d⟩:=h x c e
  let ⟨a',b',n'⟩:=E.led c o a b n (fun z=>z)
  (yb o v a' b' n' d)
theorem SOk.ext {F:FD}{nm:List Str}{L:Addr}{g g':Gh}{m:Str->Option Value}{lo:List (Option PV)}(E:Ext NoX g g') (h:SOk F nm L g m lo):SOk F nm L g' m lo:=⟨h.lo.ext E,h.co.ext E⟩
theorem Ext.ownX {F:FD}{L:Addr}{g g':Gh}(x:Ext NoX g g'):Ext (zAI F L) g g':=x.weaken fun Z z=>z.elim
def SNx (w:World) (B:Heap) (L:Addr) (fs:Frs) (F:FD) (nm:List Str) (g:Gh) (s:Shared) (kn:St->Prop) (Q:Flow->Shared->Prop):Prop:=
  ∀st' m' g' h' tk',Ext (zAI F L) g g'->Inv w.params B L fs g' st'.mem m' h'->SOk F nm L g' m' st'.lo->kn st'->Q .next { s with heap:=h',toks:=tk' }
def SRt (w:World) (B:Heap) (L:Addr) (fs:Frs) (F:FD) (g:Gh) (s:Shared) (kr:PV->Mem->Prop) (Q:Flow->Shared->Prop):Prop:=
  ∀v pv M' m' g' h' tk',Ext (zAI F L) g g'->Inv w.params B L fs g' M' m' h'->Rep g' pv v->kr pv M'->Q (.ret v) { s with heap:=h',toks:=tk' }
def SEx (w:World) (B:Heap) (L:Addr) (fs:Frs) (F:FD) (nm:List Str) (g:Gh) (s:Shared) (kx:St->Prop) (E:Value->Shared->Prop):Prop:=
  ∀e st' m' g' h' tk',Ext (zAI F L) g g'->XIn w.params B L fs g' st'.mem m' e CLS h'->SOk F nm L g' m' st'.lo->kx st'->E (.ref e) { s with heap:=h',toks:=tk' }
def GoS (w:World) (A:Around) (B:Heap) (L:Addr) (fs:Frs) (F:FD) (nm:List Str) (g:Gh) (s:Shared) (tree:Sem Flow) (kn:St->Prop) (kr:PV->Mem->Prop) (kx:St->Prop):Prop:=
  ∀(Q:Flow->Shared->Prop) (E:Value->Shared->Prop),SNx w B L fs F nm g s kn Q->SRt w B L fs F g s kr Q->SEx w B L fs F nm g s kx E->wpAny (model PG w) A tree Q E s
structure zDa (Tp:World->Heap->Prop) (w:World) (d:Nat) (hz:Bool) (F:FD) (nm:List Str) (st:Stmt) (t:zX):Prop where
  go:∀(A:Around) (B:Heap) (outer:List Env) (fs:Frs) (L:Addr),Ct (Tp w) d hz A B outer fs L F ->
    ∀(g:Gh) (M:Mem) (m:Str->Option Value) (s:Shared) (lo:List (Option PV)),Inv w.params B L fs g M m s.heap->SOk F nm L g m lo ->
      ∀kn kr kx,t ⟨lo,M⟩ kn kr kx->GoS w A B L fs F nm g s (exec st (yE F L)) kn kr kx
structure zz (Tp:World->Heap->Prop) (w:World) (d:Nat) (hz:Bool) (F:FD) (nm:List Str) (sts:List Stmt) (t:zX):Prop where
  go:∀(A:Around) (B:Heap) (outer:List Env) (fs:Frs) (L:Addr),Ct (Tp w) d hz A B outer fs L F ->
    ∀(g:Gh) (M:Mem) (m:Str->Option Value) (s:Shared) (lo:List (Option PV)),Inv w.params B L fs g M m s.heap->SOk F nm L g m lo ->
      ∀kn kr kx,t ⟨lo,M⟩ kn kr kx->GoS w A B L fs F nm g s (execs sts (yE F L)) kn kr kx
section
variable {Tp:World->Heap->Prop}{w:World}{d:Nat}{hz:Bool}{F:FD}{nm:List Str}
theorem GoS.chain {A:Around}{B:Heap}{L:Addr}{fs:Frs}{g g':Gh}{s:Shared}{h':Heap}{tk':Nat}{tree:Sem Flow}{kn:St->Prop}{kr:PV->Mem->Prop}{kx:St->Prop}{Q:Flow->Shared->Prop}{E:Value->Shared->Prop}
    (e:Ext (zAI F L) g g') (x:GoS w A B L fs F nm g' { s with heap:=h',toks:=tk' } tree kn kr kx)
    (on:SNx w B L fs F nm g s kn Q)
    (or:SRt w B L fs F g s kr Q)
    (ox:SEx w B L fs F nm g s kx E) :
    wpAny (model PG w) A tree Q E { s with heap:=h',toks:=tk' }:=
  x Q E (fun st m g'' h tk e'=>on st m g'' h tk (e.trans e')) (fun v pv M m g'' h tk e'=>or v pv M m g'' h tk (e.trans e')) fun x st m g'' h tk e'=>ox x st m g'' h tk (e.trans e')
def zJ:zX:=fun st kn Z Z=>kn st
theorem zI:zz Tp w d hz F nm [] zJ:=by
  constructor
  intro A B outer fs L X g M m s lo I So kn kr kx t Q E on or ox
  exact wpAny_execs_nil (on ⟨lo,M⟩ m g s.heap s.toks (Ext.refl g) I So t)
def zK (a b:zX):zX:=fun st kn kr kx=>a st (fun st'=>b st' kn kr kx) kr kx
theorem zE {x:Stmt}{r:List Stmt}{a b:zX}(ha:zDa Tp w d hz F nm x a) (hb:zz Tp w d hz F nm r b):zz Tp w d hz F nm (x::r) (zK a b):=by
  constructor
  intro A B outer fs L X g M m s lo I So kn kr kx t Q E on or ox
  refine wpAny_execs_cons ((ha.go A B outer fs L X g M m s lo I So _ kr kx t) _ _ (fun st' m' g' h' tk' e i so q=>?_) (fun v pv M' m' g' h' tk' e i r q=>?_) ox)
  · exact (hb.go A B outer fs L X g' st'.mem m' _ st'.lo i so kn kr kx q).chain e on or ox
  · exact or v pv M' m' g' h' tk' e i r q
def zw (c:qI) (a b:zX):zX:=fun st kn kr kx=>qo st fun lo μ=>c st (fun t M=>bK (a ⟨lo,M⟩ kn kr kx) (b ⟨lo,M⟩ kn kr kx) .mk t) (fun M=>kx ⟨lo,M⟩)
theorem zg {test:Expr}{body orelse:List Stmt}{pos:Pos}{c:qI}{a b:zX}(hc:zJC Tp w d hz F none nm test c) (ha:zz Tp w d hz F nm body a) (hb:zz Tp w d hz F nm orelse b) :
    zDa Tp w d hz F nm (.If test body orelse pos) (zw c a b):=by
  constructor
  intro A B outer fs L X g M m s lo I So kn kr kx t Q E on or ox
  refine wpAny_If ((hc.go A B outer fs L L [] X (fun z=>by exact zV z) g M m s lo I So.lo _ _ t) _ _ (fun v t M' g' h' tk' e i r q=>?_) fun e M' g' h' tk' ee i q=>ox e ⟨lo,M'⟩ m g' h' tk' ee.ownX i (So.ext ee) q)
  subst r
  induction v using Bool.casesOn
  · exact (hb.go A B outer fs L X g' M' m _ lo i (So.ext e) kn kr kx q).chain e.ownX on or ox
  · exact (ha.go A B outer fs L X g' M' m _ lo i (So.ext e) kn kr kx q).chain e.ownX on or ox
def zj (a:Den):zX:=fun st Z kr kx=>qo st fun lo μ=>a st kr (fun M=>kx ⟨lo,M⟩)
theorem zP {x:Expr}{pos:Pos}{a:Den}(ha:yC Tp w d hz F none nm x a):zDa Tp w d hz F nm (.Return (some x) pos) (zj a):=by
  constructor
  intro A B outer fs L X g M m s lo I So kn kr kx t Q E on or ox
  exact wpAny_Return_some ((ha.go A B outer fs L L [] X (fun z=>by exact zV z) g M m s lo I So.lo _ _ t) _ _ (fun v pv M' g' h' tk' e i r q=>or v pv M' m g' h' tk' e.ownX i r q)
    fun e M' g' h' tk' ee i q=>ox e ⟨lo,M'⟩ m g' h' tk' ee.ownX i (So.ext ee) q)
theorem zQb {pos:Pos}:zDa Tp w d hz F nm (.Return none pos) (zj (zC .none)):=by
  constructor
  intro A B outer fs L X g M m s lo I So kn kr kx t Q E on or ox
  exact wpAny_Return_none (or .none .none M m g s.heap s.toks (Ext.refl g) I rfl t)
def qZ (a:Den):zX:=fun st kn Z kx=>qo st fun lo μ=>a st (fun Z M=>kn ⟨lo,M⟩) (fun M=>kx ⟨lo,M⟩)
theorem yq {x:Expr}{pos:Pos}{a:Den}(ha:yC Tp w d hz F none nm x a) (hi:∀L,interactive (yE F L)=false) (hs:∀L,swapsWith x none pos.line (yE F L)=pure false) :
    zDa Tp w d hz F nm (.Expr x pos) (qZ a):=by
  constructor
  intro A B outer fs L X g M m s lo I So kn kr kx t Q E on or ox
  rw [exec_Expr (yE F L) x pos (hi L) (hs L)]
  refine wpAny_bind (wpAny_standAt (wpAny_bind ((ha.go A B outer fs L L [] X (fun z=>by exact zV z) g M m s lo I So.lo _ _ t) _ _ (fun v pv M' g' h' tk' e i r q=>?_)
    fun e M' g' h' tk' ee i q=>ox e ⟨lo,M'⟩ m g' h' tk' ee.ownX i (So.ext ee) q)))
  exact wpAny_dropValue (on ⟨lo,M'⟩ m g' h' tk' e.ownX i (So.ext e) q)
theorem zDH:∀(names:List (Str×NameKind)) (n:Nat) (acc:List (Str×Addr)),(∀p∈acc,p.2<n)->(acc.map (·.2)).Nodup->((cellsFrom n names acc).map (·.2)).Nodup
  | [],_,_,_,h=>h
  | (x,k)::r,n,acc,hlt,h=>by
    unfold cellsFrom
    split
    · refine zDH r (n+1) _ (fun p hp=>?_) ?_
      · rcases List.mem_cons.mp hp with rfl | hp
        · exact Nat.lt_succ_self _
        · exact Nat.lt_succ_of_lt (hlt p hp)
      · rw [List.map_cons,List.nodup_cons]
        refine ⟨fun hm=>?_,h⟩
        refine xEA (List.mem_map.mp hm) fun p hp q=>?_
        exact absurd (hlt p hp) (by rw [q];exact Nat.lt_irrefl _)
    · exact zDH r n acc hlt h
theorem zOC:∀{l:List (Str×Addr)}{x y:Str}{c:Addr},(l.map (·.2)).Nodup->l.lookup x=some c->l.lookup y=some c->x=y:=by
  intro q0
  induction q0 with
  | nil =>
    intro _ _ _ _ h _
    simp at h
  | cons qq r ih =>
    obtain ⟨z,a⟩:=qq
    intro x y c hn hx hy
    rw [List.map_cons,List.nodup_cons] at hn
    have mem:∀{u},r.lookup u=some c->c∈r.map (·.2):=fun {u} hu=>by
      clear hx hy hn ih
      induction r with
      | nil=>simp at hu
      | cons p r ih =>
        obtain ⟨b,d⟩:=p
        rw [List.lookup_cons] at hu
        split at hu
        · refine sE hu ?_;clear hu;rintro rfl;exact List.mem_cons_self
        · exact List.mem_cons_of_mem _ (ih hu)
    rw [List.lookup_cons] at hx hy
    split at hx<;>split at hy
    · rename_i h1 _ h2;rw [beq_iff_eq.mp h1,beq_iff_eq.mp h2]
    · refine sE hx ?_;clear hx;rintro rfl;exact absurd (mem hy) hn.1
    · refine sE hy ?_;clear hy;rintro rfl;exact absurd (mem hx) hn.1
    · exact ih hn.2 hx hy
theorem zRZ (F:FD) (L:Addr):((yE F L).cells.map (·.2)).Nodup:=zDH _ _ _ (fun Z h=>nomatch h) .nil
theorem zMf:∀{l:List Str}{i j:Nat}{x:Str},l.Nodup->l[i]?=some x->l[j]?=some x->i=j:=by
  intro q0
  induction q0 with
  | nil =>
    intro _ _ _ _ h _
    simp at h
  | cons y r ih =>
    intro i j x hn hi hj
    rw [List.nodup_cons] at hn
    induction i<;>induction j
    · rfl
    · simp at hi hj;subst hi;exact absurd (List.mem_of_getElem? hj) hn.1
    · simp at hi hj;subst hj;exact absurd (List.mem_of_getElem? hi) hn.1
    · simp at hi hj;rw [ih hn.2 hi hj]
theorem zDn {A:Around}{B:Heap}{L:Addr}{fs:Frs}{g:Gh}{M:Mem}{m:Str->Option Value}{s:Shared}{lo:List (Option PV)}{x:Str}{v:Value}{p:PV}{i:Nat}{Q:Unit->Shared->Prop}{E:Value->Shared->Prop}
    (hfk:F.scope.kind=.function) (I:Inv w.params B L fs g M m s.heap) (So:SOk F nm L g m lo) (r:Rep g p v) (hi:nm[i]?=some x) (nd:nm.Nodup)
    (hk:(yE F L).kindOf x=some .local\/((yE F L).kindOf x=some .cell/\∃c,(yE F L).cells.lookup x=some c))
    (ok:∀m' g' h' tk',Ext (zAI F L) g g'->Inv w.params B L fs g' M m' h'->SOk F nm L g' m' (lo.set i (some p))->Q () { s with heap:=h',toks:=tk' }) :
    wpAny (model PG w) A (storeName (yE F L) x v) Q E s:=by
  have same:∀j,nm[j]?=some x->j=i:=fun j hj=>zMf nd hj hi
  have lk:∀{l:List (Option PV)}{j:Nat}{q:PV},(l.set i (some p))[j]?=some (some q)->(j=i/\q=p)\/(j≠i/\l[j]?=some (some q)):=fun {l j q} e=>by
    rw [List.getElem?_set] at e
    split at e
    · rename_i h
      split at e
      · cases e;exact .inl ⟨h.symm,rfl⟩
      · exact zW e
    · rename_i h;exact .inr ⟨fun z=>h z.symm,e⟩
  rcases hk with hk | ⟨hk,c,hc⟩
  · refine wpAny_storeName_local hk I.ns (fun h' hn hs=>?_) (by show (F.scope.kind==.class||(F.scope.kind==.module&&L != mainGlobals))=false;rw [hfk];rfl)
    refine ok _ g h' _ (Ext.refl g) (I.setL hs hn) ⟨?_,So.co⟩
    intro j q e
    rcases lk e with ⟨rfl,rfl⟩ | ⟨hj,e⟩
    · exact (yS x v hi (.inl ⟨hk,rfl,if_pos rfl⟩) r)
    · refine zt (So.lo j q e) fun y u hy hl hr=>?_
      have hne:y≠x:=fun z=>hj (same j (z ▸ hy))
      refine (yS y u hy ?_ hr)
      rcases hl with ⟨a,b,c⟩ | z | ⟨a,b,_⟩
      · exact .inl ⟨a,b,by show (if y=x then _ else m y)=_;rw [if_neg hne];exact c⟩
      · exact .inr (.inl z)
      · exact absurd rfl b
  · refine yl (So.co x c hc) fun o v0z h1 h2 h3 h4=>?_
    refine xAA (I.led c o h1) fun x1 x2 x3=>?_
    refine wpAny_storeName_cell (by show F.scope.kind=_;exact hfk) hk hc (iEA o x1 h4) fun h' hv hs=>?_
    refine xEA hv fun o' ho' hd'=>?_
    refine xA (I.putV (o':=o') h1 h2 h3 hs ho') fun J EX=>?_
    have EX':Ext (zAI F L) g (g.put c o'):=EX.weaken fun a z=>⟨x,by rw [z];exact hc⟩
    refine ok m (g.put c o') h' s.toks EX' J ⟨?_,?_⟩
    · intro j q e
      rcases lk e with ⟨rfl,rfl⟩ | ⟨hj,e⟩
      · refine (yS x v hi (.inr (.inl (zDo hk c o' hc ?_ h2 h3 hd'))) (r.mono EX'))
        show (if c=c then _ else _)=_
        rw [if_pos rfl]
      · refine zt (So.lo j q e) fun y u hy hl hr=>?_
        have hne:y≠x:=fun z=>hj (same j (z ▸ hy))
        refine (yS y u hy ?_ (hr.mono EX'))
        rcases hl with z | ⟨a,c',o2,b1,b2,b3,b4,b5⟩ | ⟨a,b,_⟩
        · exact .inl z
        · have hcc:c'≠c:=fun z=>hne (zOC (zRZ F L) (z ▸ b1) hc)
          refine .inr (.inl (zDo a c' o2 b1 ?_ b3 b4 b5))
          show (if c'=c then _ else _)=_
          rw [if_neg hcc];exact b2
        · exact absurd rfl b
    · intro y c' hy
      by_cases hcc:c'=c
      · subst hcc
        refine (yb o' _ ?_ h2 h3 hd')
        show (if c'=c' then _ else _)=_
        rw [if_pos rfl]
      · refine yl (So.co y c' hy) fun o2 v2 b1 b2 b3 b4=>?_
        refine (yb o2 v2 ?_ b2 b3 b4)
        show (if c'=c then _ else _)=_
        rw [if_neg hcc];exact b1
def zx (i:Nat) (a:Den):zX:=fun st kn Z kx=>qo st fun lo μ=>a st (fun p M=>kn ⟨lo.set i (some p),M⟩) (fun M=>kx ⟨lo,M⟩)
def qU (F:FD) (x:Str):Prop:=∀L,(yE F L).kindOf x=some .local\/((yE F L).kindOf x=some .cell/\∃c,(yE F L).cells.lookup x=some c)
theorem zT {x:Str}{p' pos:Pos}{value:Expr}{a:Den}(i:Nat) (hi:nm[i]?=some x) (nd:nm.Nodup) (hk:qU F x) (ha:yC Tp w d hz F none nm value a)
    (hs:∀L,swapsWith value (some (.Name x p')) pos.line (yE F L)=pure false):zDa Tp w d hz F nm (.Assign [.Name x p'] value pos) (zx i a):=by
  constructor
  intro A B outer fs L X g M m s lo I So kn kr kx t Q E on or ox
  refine wpAny_Assign_Name ((ha.go A B outer fs L L [] X (fun z=>by exact zV z) g M m s lo I So.lo _ _ t) _ _ (fun v p M' g' h' tk' e I' r q=>?_)
    fun e M' g' h' tk' ee i q=>ox e ⟨lo,M'⟩ m g' h' tk' ee.ownX i (So.ext ee) q) (hs L)
  exact zDn X.fk I' (So.ext e) r hi nd (hk L) fun m' g'' h'' tk'' e' i' so=>on ⟨lo.set i (some p),M'⟩ m' g'' h'' tk'' (e.ownX.trans e') i' so q
noncomputable def zOo:Operator->Bool
  | .Add=>true
  | .Sub=>true
  | .Mult=>true
  | _=>false
theorem zUz {op:Operator}(h:zOo op=true):op=.Add\/op=.Sub\/op=.Mult:=by
  induction op using PySem.Operator.casesOn with
  | Add=>exact .inl rfl
  | Sub=>exact .inr (.inl rfl)
  | Mult=>exact .inr (.inr rfl)
  | _=>exact zV h
def zRC (i:Nat) (op:Operator) (a:Den):zX:=fun st kn Z kx=>qo st fun lo μ=>oK (fun p=>zFs (fun x=>a st (fun p M=>zFs (fun y=>oK (fun r=>aK (kn ⟨lo.set i (some r),M⟩) .mk (zOo op)) .mk (zER op (.int x) (.int y) M)) .mk p) (fun M=>kx ⟨lo,M⟩)) .mk p) .mk (qD lo i)
theorem zOf {x:Str}{p' pos:Pos}{op:Operator}{value:Expr}{a:Den}(i:Nat) (hi:nm[i]?=some x) (nd:nm.Nodup) (hk:qU F x) (ha:yC Tp w d hz F none nm value a) :
    zDa Tp w d hz F nm (.AugAssign (.Name x p') op value pos) (zRC i op a):=by
  constructor
  intro A B outer fs L X g M m s lo I So kn kr kx t Q E on or ox
  refine xEA (zSr t) fun Z hn ht=>?_
  refine xEA (zBf ht) fun n z1 ht=>?_;subst z1
  refine zt (So.lo i _ hn) fun x' v hx hl hr=>?_
  rw [hi] at hx
  obtain rfl:=Option.some.inj hx
  refine xE (zJd hr) fun t0 z2=>?_;subst z2
  refine wpAny_AugAssign_Name ?_
  have fin:wpAny (model PG w) A (eval value (yE F L)) (fun v s2z=>wpAny (model PG w) A (inplaceOp op (.int n t0) v)
      (fun r s3z=>wpAny (model PG w) A (storeName (yE F L) x r) (fun Z=>Q .next) E s3z) E s2z) E s:=by
    refine (ha.go A B outer fs L L [] X (fun z=>by exact zV z) g M m s lo I So.lo _ _ ht) _ _ (fun v p M' g' h' tk' e I' r q=>?_)
      fun e M' g' h' tk' ee i q=>ox e ⟨lo,M'⟩ m g' h' tk' ee.ownX i (So.ext ee) q
    refine xEA (zBf q) fun y z3 q=>?_;subst z3
    refine xEA (qM q) fun z hb q=>?_
    refine xA (zHI q) fun hop hkn=>?_
    refine xE (zJd r) fun t1 z4=>?_;subst z4
    have st:∀u,Rep g' z u->wpAny (model PG w) A (storeName (yE F L) x u) (fun Z=>Q .next) E { s with heap:=h',toks:=tk'+1 }:=fun u rz =>
      zDn (s:={ s with heap:=h',toks:=tk'+1 }) X.fk I' (So.ext e) rz hi nd (hk L) fun m' g'' h'' tk'' e' i' so=>on ⟨lo.set i (some z),M'⟩ m' g'' h'' tk'' (e.ownX.trans e') i' so hkn
    unfold zER at hb
    rw [y9] at hb
    rcases zUz hop with rfl | rfl | rfl
    · refine sE hb ?_;clear hb;rintro rfl;exact PyProof.Rows.iadd_int (st _ ⟨_,rfl⟩)
    · refine sE hb ?_;clear hb;rintro rfl;exact PyProof.Rows.isub_int (st _ ⟨_,rfl⟩)
    · have hb':(if n.natAbs<2^64 then some (PV.int (n * y)) else none)=some z:=hb
      split at hb'
      · rename_i hx
        refine sE hb' ?_;clear hb';rintro rfl
        exact PyProof.Rows.imul_int (st _ ⟨_,rfl⟩) (IntMulOk.of_left (intBits_le_64 (by lia) (by lia)))
      · exact zW hb'
  have kd:(yE F L).scope.kind=.function:=X.fk
  rcases hl with ⟨h1,h2,h3⟩ | ⟨h1,c,o,h2,h3,h4,h5,h6⟩ | ⟨_,h2,_⟩
  · exact wpAny_loadName_local kd h1 (by rw [h2];exact I.ns) h3 fin
  · exact wpAny_loadName_cell kd h1 h2 (iEA o ((I.led _ _ h3).1) h6) fin
  · exact absurd rfl h2
end

abbrev zh:=List PV->Mem->(PV->Mem->Prop)->(Mem->Prop)->Prop
structure yN (Tp:World->Heap->Prop) (w:World) (d:Nat) (f:Value) (t:zh):Prop where
  go:∀(A:Around) (B:Heap) (outer:List Env) (fs:Frs) (L:Addr) (F:FD),Ct (Tp w) d true A B outer fs L F ->
    ∀(g:Gh) (M:Mem) (m:Str->Option Value) (s:Shared),Inv w.params B L fs g M m s.heap ->
      ∀vs ps,yJ g ps vs->∀k kx,t ps M k kx->Go Rep w A B L fs g m s (call f vs) k kx
def zZM (k n:Nat) (tb:zX):zh:=fun ps M kr kx=>aK (tb ⟨ps.map some++List.replicate (n-k) none,M⟩ (fun st=>kr .none st.mem) kr (fun st=>kx st.mem)) .mk (Nat.beq ps.length k)
def yK (k n:Nat) (tb:zX):zh:=hid (zZM k n tb)
theorem yV (k n:Nat) (tb:zX):yK k n tb=zZM k n tb:=y9
theorem Ext.ofOwn {F:FD}{L:Addr}{g g':Gh}(x:Ext (zAI F L) g g') (h:∀a o,g.led a=some o->¬zAI F L a):Ext NoX g g':=
  ⟨x.P,x.n,x.ρ,x.fz,fun a o e f n Z=>x.led a o e f n (h a o e)⟩
open Classical in
def Gh.cells (g:Gh) (F:FD) (L:Addr) (h:Heap):Gh:=⟨g.P,g.n,fun a=>if zAI F L a then h.get? a else g.led a,fun a=>if zAI F L a then False else g.fz a,g.ρ⟩
section
variable {Tp:World->Heap->Prop}{w:World}{d:Nat}{F F':FD}{nm:List Str}{A:Around}{B:Heap}{outer:List Env}{fs:Frs}{L L':Addr}{g g':Gh}{M:Mem}{m m':Str->Option Value}{h h':Heap}
theorem Inv.back (I:Inv w.params B L fs g M m h) {M':Mem}(J:Inv w.params B L' ((L,m)::fs) g' M' m' h'):Inv w.params B L fs g' M' m h' where
  keep:=J.keep
  ns:=(J.fs _ (.head _)).1
  lb:=I.lb
  led a o e:=by
    refine ⟨(J.led a o e).1,fun q=>?_,(J.led a o e).2.2⟩
    have:=(J.fs _ (.head _)).2.2.1
    rw [← q] at this;rw [this] at e;exact zW e
  n:=J.n
  cell:=J.cell
  inj:=J.inj
  fs p hp:=(zEg ((J.fs p (.tail _ hp)).1) ((J.fs p (.tail _ hp)).2.1) ((J.fs p (.tail _ hp)).2.2.1) ((I.fs p hp).2.2.2))
  hP:=J.hP
open Classical in
theorem Inv.enter (I:Inv w.params B L fs g M m h) {h1z:Heap}{m1z:Str->Option Value}(hk:∀b o,h.get? b=some o->h1z.get? b=some o) (hn:h1z.Ns h.objs.size m1z)
    (hc:∀x c,(yE F h.objs.size).cells.lookup x=some c->(∃o v,h1z.get? c=some o/\o.data=.cell v)/\h.objs.size<c) :
    Inv w.params B h.objs.size ((L,m)::fs) (g.cells F h.objs.size h1z) M m1z h1z/\Ext NoX g (g.cells F h.objs.size h1z)/\COk F h.objs.size (g.cells F h.objs.size h1z)/\(∀a o,g.led a=some o->¬zAI F h.objs.size a):=by
  have no:∀a o,g.led a=some o->¬zAI F h.objs.size a:=fun a o e ⟨x,hx⟩=>absurd (I.lt e) (Nat.not_lt.mpr (Nat.le_of_lt (hc x a hx).2))
  have nB:∀a,h.objs.size<=a->B.get? a=none:=fun a ha=>by
    generalize q:B.get? a=z2;induction z2 using Option.casesOn with
    | none=>rfl
    | some o=>exact absurd (Heap.lt_size (I.keep a o q)) (Nat.not_lt.mpr ha)
  have ld:∀a o,g.led a=some o->(g.cells F h.objs.size h1z).led a=some o:=fun a o e=>by
    show (if zAI F h.objs.size a then _ else _)=_
    rw [if_neg (no a o e)];exact e
  have fzn:∀a,¬zAI F h.objs.size a->((g.cells F h.objs.size h1z).fz a↔g.fz a):=fun a ha=>by
    show (if zAI F h.objs.size a then _ else _)↔_
    rw [if_neg ha]
  have fzo:∀a,zAI F h.objs.size a->¬(g.cells F h.objs.size h1z).fz a:=fun a ha=>by
    show ¬(if zAI F h.objs.size a then _ else _)
    rw [if_pos ha];exact id
  have ni:∀a,zAI F h.objs.size a->∀i,i<g.n->a≠g.ρ i:=fun a ha i hi q=>by
    refine xEA (I.cell i hi) fun o e Z=>?_
    exact no _ _ e (q ▸ ha)
  have EX:Ext NoX g (g.cells F h.objs.size h1z):=⟨rfl,Nat.le_refl _,fun Z Z=>rfl,fun a o e f=>⟨ld a o e,(fzn a (no a o e)).mpr f⟩,fun a o e f n Z=>⟨ld a o e,fun z=>f ((fzn a (no a o e)).mp z),n⟩⟩
  have hL:(g.cells F h.objs.size h1z).led L=none:=by
    show (if zAI F h.objs.size L then _ else _)=_
    rw [if_neg fun ⟨x,hx⟩=>absurd I.ns.lt (Nat.not_lt.mpr (Nat.le_of_lt (hc x L hx).2))]
    generalize q:g.led L=z3;induction z3 using Option.casesOn with
    | none=>rfl
    | some o=>exact absurd rfl (I.led L o q).2.1
  refine (zEg ⟨fun b o e=>hk b o (I.keep b o e),hn,?_,fun a o e=>?_,I.n,fun i hi=>?_,I.inj,fun p hp=>?_,I.hP⟩ EX (fun x c hx=>?_) no)
  · exact Nat.le_trans I.lb (Nat.le_of_lt I.ns.lt)
  · have e':(if zAI F h.objs.size a then h1z.get? a else g.led a)=some o:=e
    split at e'
    · rename_i ho
      refine xE ho fun x hx=>?_
      have hlt:=(hc x a hx).2
      exact ⟨e',Nat.ne_of_gt hlt,fun Z=>nB a (Nat.le_of_lt hlt)⟩
    · rename_i ho
      refine xAA (I.led a o e') fun x y z=>?_
      exact ⟨hk a o x,Nat.ne_of_lt (I.lt e'),fun nf=>z fun f=>nf ((fzn a ho).mpr f)⟩
  · refine qh (I.cell i hi) fun o e f c=>?_
    exact (q6 o (ld _ _ e) (fun z=>f ((fzn _ (no _ _ e)).mp z)) (c.ext EX))
  · rcases List.mem_cons.mp hp with rfl | hp
    · exact (zEg (I.ns.keeps hk) (Heap.get?_none_of_le I.lb) hL (Nat.ne_of_lt I.ns.lt))
    · refine zBb (I.fs p hp) fun x y z v=>?_
      refine (zEg (x.keeps hk) y ?_ (Nat.ne_of_lt x.lt))
      show (if zAI F h.objs.size p.1 then _ else _)=_
      rw [if_neg fun ⟨u,hu⟩=>absurd x.lt (Nat.not_lt.mpr (Nat.le_of_lt (hc u p.1 hu).2))];exact z
  · refine xA (hc x c hx) fun z1 Z=>?_;obtain ⟨o,v,ho,hd⟩:=z1
    have hoo:zAI F h.objs.size c:=⟨x,hx⟩
    refine (yb o v ?_ (fzo c hoo) (ni c hoo) hd)
    show (if zAI F h.objs.size c then _ else _)=_
    rw [if_pos hoo];exact ho
end

theorem zIj {ko:Str->Option NameKind}{x:Str}:∀(l:List (Str×Value)) (m:Str->Option Value),x ∉ l.map (·.1)->bindL ko l m x=m x
  | [],_,_=>rfl
  | (n,v)::r,m,h=>by
    rw [List.map_cons,List.mem_cons,not_or] at h
    unfold bindL
    rw [zIj r _ h.2]
    split
    · exact if_neg h.1
    · rfl
theorem zIi {ko:Str->Option NameKind}{x:Str}:∀(l:List (Str×Value)) (m:Str->Option Value),x ∉ l.map (·.1)->bindC ko l m x=m x
  | [],_,_=>rfl
  | (n,v)::r,m,h=>by
    rw [List.map_cons,List.mem_cons,not_or] at h
    unfold bindC
    rw [zIi r _ h.2]
    split
    · rfl
    · exact if_neg h.1
theorem zMS {ko:Str->Option NameKind}{x:Str}{v:Value}(hk:ko x=some .local):∀(l:List (Str×Value)) (m:Str->Option Value),(l.map (·.1)).Nodup->(x,v)∈l->bindL ko l m x=some v:=by
  intro q0
  induction q0 with
  | nil =>
    intro _ _ h
    exact nomatch h
  | cons qq r ih =>
    obtain ⟨n,u⟩:=qq
    intro m hn h
    rw [List.map_cons,List.nodup_cons] at hn
    unfold bindL
    rcases List.mem_cons.mp h with h | h
    · cases h
      rw [zIj r _ hn.1,if_pos hk,if_pos rfl]
    · exact ih _ hn.2 h
theorem zTm {ko:Str->Option NameKind}{x:Str}{v:Value}(hk:ko x≠some .local):∀(l:List (Str×Value)) (m:Str->Option Value),(l.map (·.1)).Nodup->(x,v)∈l->bindC ko l m x=some v:=by
  intro q0
  induction q0 with
  | nil =>
    intro _ _ h
    exact nomatch h
  | cons qq r ih =>
    obtain ⟨n,u⟩:=qq
    intro m hn h
    rw [List.map_cons,List.nodup_cons] at hn
    unfold bindC
    rcases List.mem_cons.mp h with h | h
    · cases h
      rw [zIi r _ hn.1,if_neg hk,if_pos rfl]
    · exact ih _ hn.2 h
theorem zTb {α β:Type}:∀{a:List α}{b:List β}{i:Nat}{x:α}{y:β},a[i]?=some x->b[i]?=some y->(x,y)∈a.zip b
  | [],_,_,_,_,h,_=>by simp at h
  | _::_,[],_,_,_,_,h=>by simp at h
  | u::a,v::b,0,x,y,h,k=>by simp at h k;subst h k;exact .head _
  | u::a,v::b,i+1,x,y,h,k=>.tail _ (zTb (by simpa using h) (by simpa using k))
structure zUs (Tp:World->Heap->Prop) (w:World) (F:FD) (fname:Str) (params:Arguments) (body:List Stmt) (nm:List Str) (k:Nat):Prop where
  ob:∀B,Tp w B->B.NoLimit/\B.CodeRec F.cd F.name/\∃oc od dV kV doc pm an ct sl,B.get? F.a=some ⟨oc,od,.func (fnX fname F.name params body F.scope [] dV kV doc pm an F.cd ct),sl⟩ /\
    ∀vs:List Value,vs.length=k->bindArgs (fnX fname F.name params body F.scope [] dV kV doc pm an F.cd ct) ⟨vs,[]⟩=pure ((nm.take k).zip vs)
  kn:∀x∈nm.take k,F.scope.names.lookup x=some .local\/(F.scope.names.lookup x=some .cell/\∀n,((cellsFrom n F.scope.names []).lookup x).isSome=true)
  nd:nm.Nodup
  le:k<=nm.length
  co:F.scope.isCoroutine=false
  gen:F.scope.isGenerator=false
  kind:F.scope.kind=.function
  cn:((cellsFrom 0 F.scope.names []).map (·.1)).Nodup
structure FnG (Tp:World->Heap->Prop) (w:World) (F:FD) (fname:Str) (params:Arguments) (body:List Stmt) (nm:List Str) (k:Nat) (dvs:List Value):Prop where
  ob:∀B,Tp w B->B.NoLimit/\B.CodeRec F.cd F.name/\∃oc od dV kV doc pm an ct sl,B.get? F.a=some ⟨oc,od,.func (fnX fname F.name params body F.scope [] dV kV doc pm an F.cd ct),sl⟩ /\
    ∀vs:List Value,(vs++dvs).length=k->∀s:Shared,B.StaysIn s.heap->BindsTo s (fnX fname F.name params body F.scope [] dV kV doc pm an F.cd ct) ⟨vs,[]⟩ ((nm.take k).zip (vs++dvs))
  kn:∀x∈nm.take k,F.scope.names.lookup x=some .local\/(F.scope.names.lookup x=some .cell/\∀n,((cellsFrom n F.scope.names []).lookup x).isSome=true)
  nd:nm.Nodup
  le:k<=nm.length
  co:F.scope.isCoroutine=false
  gen:F.scope.isGenerator=false
  kind:F.scope.kind=.function
  cn:((cellsFrom 0 F.scope.names []).map (·.1)).Nodup
theorem zUs.g {F:FD}{fname:Str}{params:Arguments}{body:List Stmt}{nm:List Str}{k:Nat}(O:zUs Tp w F fname params body nm k):FnG Tp w F fname params body nm k []:=
  ⟨fun B hB=>by
    refine zBc (O.ob B hB) fun a b oc od dV kV doc pm an ct sl c e=>?_
    exact (zCm a b oc od dV kV doc pm an ct sl c (fun vs hv s Z=>by rw [List.append_nil] at hv ⊢;exact BindsTo.of_eq (e vs hv))),O.kn,O.nd,O.le,O.co,O.gen,O.kind,O.cn⟩
theorem zIk {prog:Program}{w:World}{A:Around}{s:Shared}{R:Result->Shared->Prop}{a:Addr}{o:Obj}{fd:FuncData}{body:List Stmt}{vals:List Value}{binds:List (Str×Value)}
    (hroom:A.depth<recursionLimit) (ho:s.heap.get? a=some o) (hdata:o.data=.func fd) (hlim:s.heap.NoLimit) (hcd:s.heap.CodeRec fd.code fd.qualname)
    (hbody:fd.body=.stmts body) (hbind:BindsTo s fd ⟨vals,[]⟩ binds) (hclo:fd.closure=[])
    (hkind:∀x∈binds,fd.scope.names.lookup x.1=some .local\/(fd.scope.names.lookup x.1=some .cell/\((cellsFrom (s.heap.objs.size+1) fd.scope.names []).lookup x.1).isSome=true))
    (h:∀s1z,InCallC s (callEnvC fd s.heap.objs.size a).locals (bindL (callEnvC fd s.heap.objs.size a).kindOf binds fun Z=>none) (callEnvC fd s.heap.objs.size a).cells
        (bindC (callEnvC fd s.heap.objs.size a).kindOf binds fun Z=>none) s1z ->
      wpAny (model prog w) (A.deeper (callEnvC fd s.heap.objs.size a)) (execs body (callEnvC fd s.heap.objs.size a)) (fun f s'=>R (.ok (.ret (match f with | .ret v=>v | _=>.none))) s')
        (fun e s'=>wpAny (model prog w) (A.deeper (callEnvC fd s.heap.objs.size a)) (leaving (callEnvC fd s.heap.objs.size a) e) (fun Z s''=>R (.error e) s'') (fun e' s''=>R (.error e') s'') s') s1z)
    (hco:fd.scope.isCoroutine=false) (hgen:fd.scope.isGenerator=false) (hk:fd.scope.kind=.function) :
    codeAny (model prog w) A (.call (.ref a) ⟨vals,[]⟩) R s:=by
  refine codeAny_call_function hroom ho hdata hco hgen hbody hcd ?_
  rw [hclo]
  refine hbind _ _ _ _ (wpAny_newFunctionEnv_cells hk hkind fun env he s' x=>?_)
  subst he
  exact ⟨hlim.keeps x.toInCall.keep,codeAny_func (h s' x)⟩
abbrev RQ (Q:Value->Shared->Prop) (E:Value->Shared->Prop):Result->Shared->Prop:=fun r s'=>match r with | .ok (.ret v)=>Q v s' | .ok _=>False | .error e=>E e s'
structure yQ (Tp:World->Heap->Prop) (w:World) (d:Nat) (f:Value) (t:zh):Prop where
  go:∀(A:Around) (B:Heap) (outer:List Env) (fs:Frs) (L:Addr) (F:FD),Ct (Tp w) d true A B outer fs L F ->
    ∀(g:Gh) (M:Mem) (m:Str->Option Value) (s:Shared),Inv w.params B L fs g M m s.heap ->
      ∀vs ps,yJ g ps vs->∀k kx,t ps M k kx->∀(Q:Value->Shared->Prop) (E:Value->Shared->Prop),
        KGo Rep w B L fs g m s k Q->KEx w B L fs g m s kx E->codeAny (model PG w) A (.call f ⟨vs,[]⟩) (RQ Q E) s
theorem yQ.snd {d:Nat}{f:Value}{t:zh}(h:yQ Tp w d f t):yN Tp w d f t:=
  ⟨fun A B outer fs L F X g M m s I vs ps r k kx t Q E ok ex=>wpAny_call (h.go A B outer fs L F X g M m s I vs ps r k kx t Q E ok ex)⟩
theorem zMm {d:Nat}{F:FD}{fname:Str}{params:Arguments}{body:List Stmt}{nm:List Str}{k:Nat}{dvs:List Value}{dps:List PV}{tb:zX}(O:FnG Tp w F fname params body nm k dvs) (rd:∀g,yJ g dps dvs) (hb:zz Tp w d true F nm body tb) :
    yQ Tp w (d+1) (.ref F.a) (fun ps=>yK k nm.length tb (ps++dps)):=by
  constructor
  intro A B outer fs L Fc X g M m s I vs0 ps0 r0 k' kx t Q E ok ex
  have r:=yJ.append r0 (rd g)
  rw [yV] at t
  refine xA (zHI t) fun hlen tbody=>?_
  have hlen:=Nat.eq_of_beq_eq_true hlen
  have hvl:(vs0++dvs).length=k:=r.length.trans hlen
  refine zBc (O.ob B X.top) fun nl cr oc od dV kV doc pm an ct sl ho hbind=>?_
  have hbind:=hbind vs0 hvl s I.keep
  generalize vs0++dvs=vs at r hvl hbind
  generalize ps0++dps=ps at r hlen tbody
  have hz:((nm.take k).zip vs).map (·.1)=nm.take k:=by
    rw [List.map_fst_zip]
    rw [List.length_take,hvl];exact Nat.min_le_left _ _
  have ndz:(((nm.take k).zip vs).map (·.1)).Nodup:=by rw [hz];exact List.Sublist.nodup (List.take_sublist _ _) O.nd
  refine (zIk (fd:=fnX fname F.name params body F.scope [] dV kV doc pm an F.cd ct) (body:=body) (binds:=(nm.take k).zip vs) (by have:=X.room;lia) (I.keep _ _ ho) rfl (nl.keeps I.keep) (cr.keeps I.keep) rfl hbind rfl
    (fun x hx=>?_) (fun s1z x=>?_) O.co O.gen O.kind)
  · have:x.1∈nm.take k:=by rw [← hz];exact List.mem_map_of_mem hx
    exact (O.kn x.1 this).imp id fun z=>⟨z.1,z.2 _⟩
  · refine zHH x.done fun h1z tk1z z1 Z=>?_;subst z1
    have hlk:∀y c,(yE F s.heap.objs.size).cells.lookup y=some c->(y,c)∈(yE F s.heap.objs.size).cells:=fun y c e=>mem_of_lookup e
    refine zBb (I.enter (F:=F) x.toInCall.keep x.toInCall.ns fun y c e=>⟨let ⟨o,a,b⟩:=x.cell y c e;⟨o,_,a,b⟩,x.above y c (hlk y c e)⟩) fun J EX CO no=>?_
    have XC:Ct (Tp w) d true (A.deeper (yE F s.heap.objs.size)) B (yE Fc L::outer) ((L,m)::fs) s.heap.objs.size F:={
      top:=X.top
      fr:=Around.frames_deeper X.fr
      room:=by show A.depth+1+d<_;have:=X.room;lia
      units:=by show A.units+3+8 * d+100<_;have:=X.units;lia
      out:=by rw [List.map_cons,List.map_cons,X.out];rfl
      kinds:=fun e he=>by
        rcases List.mem_cons.mp he with rfl | he
        · show Fc.scope.kind≠_;rw [X.fk];decide
        · exact X.kinds e he
      fk:=O.kind
      hz:=fun Z=>X.hz rfl }
    have So:SOk F nm s.heap.objs.size (g.cells F s.heap.objs.size h1z) (bindL (yE F s.heap.objs.size).kindOf ((nm.take k).zip vs) fun Z=>none) (ps.map some++List.replicate (nm.length-k) none):=by
      refine ⟨?_,CO⟩
      intro i pv e
      have hi:i<k:=by
        rcases Nat.lt_or_ge i k with h | h
        · exact h
        · exfalso
          rw [List.getElem?_append_right (by rw [List.length_map,hlen];exact h)] at e
          rw [List.getElem?_replicate] at e
          split at e<;>simp at e
      rw [List.getElem?_append_left (by rw [List.length_map,hlen];exact hi),List.getElem?_map] at e
      refine xEA (Option.map_eq_some_iff.mp e) fun p hp hpe=>?_
      refine sE hpe ?_;clear hpe;rintro rfl
      refine xEA (r.get i hp) fun v hv rv=>?_
      have hni:i<nm.length:=Nat.lt_of_lt_of_le hi O.le
      have hx:nm[i]?=some nm[i]:=List.getElem?_eq_getElem hni
      have hxt:(nm.take k)[i]?=some nm[i]:=by rw [List.getElem?_take_of_lt hi];exact hx
      have hm:=zTb hxt hv
      refine (yS (nm[i]) v hx ?_ (rv.mono EX))
      rcases O.kn nm[i] (List.mem_of_getElem? hxt) with hl | ⟨hl,hc⟩
      · exact .inl ⟨hl,rfl,zMS hl _ _ ndz hm⟩
      · refine xE (Option.isSome_iff_exists.mp (hc (s.heap.objs.size+1))) fun c hcc=>?_
        have hcc':(yE F s.heap.objs.size).cells.lookup nm[i]=some c:=hcc
        refine yl (CO nm[i] c hcc') fun o v' a1 a2 a3 a4=>?_
        refine xEA (x.cell nm[i] c hcc') fun o' b1 b2=>?_
        have:=(J.led c o a1).1
        have b1':h1z.get? c=some o':=b1
        rw [this] at b1'
        refine sE b1' ?_;clear b1';rintro rfl
        refine .inr (.inl (zDo hl c o hcc' a1 a2 a3 ?_))
        have hne:(yE F s.heap.objs.size).kindOf nm[i]≠some .local:=by
          show F.scope.names.lookup nm[i]≠_
          rw [hl];decide
        rw [b2]
        exact congrArg Data.cell (zTm (ko:=(yE F s.heap.objs.size).kindOf) hne _ _ ndz hm)
    have back:∀{g':Gh},Ext (zAI F s.heap.objs.size) (g.cells F s.heap.objs.size h1z) g'->Ext NoX g g':=fun e=>Ext.ofOwn (EX.ownX.trans e) no
    refine (hb.go _ B _ _ _ XC (g.cells F s.heap.objs.size h1z) M _ { s with heap:=h1z,toks:=tk1z } _ J So _ _ _ tbody) _ _ (fun st' m' g' h' tk' e i so q=>?_) (fun v pv M' m' g' h' tk' e i rr q=>?_) (fun e st' m' g' h' tk' ee i so q=>?_)
    · exact ok .none .none st'.mem g' h' tk' (back e) (I.back i) rfl q
    · exact ok v pv M' g' h' tk' (back e) (I.back i) rr q
    · refine XIn.leave (s:={ s with heap:=h',toks:=tk' }) XC i fun h'' G a0 g1 g2 g3 g4 g5 g6 Z J'=>?_
      refine ex e st'.mem g' h'' tk' (back ee) ⟨I.back J',G,g1,g2,g3,g4 _ (.head _),fun p hp=>g4 p (.tail _ hp),g5,.inr (.inl ⟨a0,g6⟩)⟩ q
theorem zb {d:Nat}{F:FD}{fname:Str}{params:Arguments}{body:List Stmt}{nm:List Str}{k:Nat}{tb:zX}(O:zUs Tp w F fname params body nm k) (hb:zz Tp w d true F nm body tb) :
    yQ Tp w (d+1) (.ref F.a) (yK k nm.length tb):=by
  have h:=zMm O.g (dps:=[]) (fun Z=>rfl) hb
  have e:(fun ps:List PV=>yK k nm.length tb (ps++[]))=yK k nm.length tb:=by funext ps;rw [List.append_nil]
  rwa [e] at h
theorem zCQ {d:Nat}{F:FD}{fname:Str}{params:Arguments}{body:List Stmt}{nm:List Str}{k:Nat}{tb:zX}(O:zUs Tp w F fname params body nm k) (hb:zz Tp w d true F nm body tb) :
    yN Tp w (d+1) (.ref F.a) (yK k nm.length tb):=(zb O hb).snd

def zOm (Tp:World->Heap->Prop) (w:World) (x:Str) (v:Value):Prop:=∀B,Tp w B->∃mg,B.Ns mainGlobals mg/\mg x=some v
def zMR (Tp:World->Heap->Prop) (w:World) (x:Str) (v:Value):Prop:=∀B,Tp w B->∃mg mb,B.Ns mainGlobals mg/\mg x=none/\B.Ns builtinsNs mb/\mb x=some v
def zBP (Tp:World->Heap->Prop) (w:World) (v:Value):Prop:=∀B,Tp w B->∀h:Heap,B.StaysIn h->∃k,(k=Keeper.frame\/k=Keeper.machine\/k=Keeper.boundFrame)/\Looks (model PG w) h (keeperOf v) k
section
variable {Tp:World->Heap->Prop}{w:World}{d:Nat}{hz:Bool}{F:FD}{cs:Option Scope}{nm:List Str}
theorem zGe (F:FD) (cs:Option Scope) (L C:Addr) (cl:List (Str×Addr)):(yL F cs L C cl).globals=mainGlobals:=by induction cs using Option.casesOn<;>rfl
theorem zKD (F:FD) (cs:Option Scope) (L C:Addr) (cl:List (Str×Addr)):(yL F cs L C cl).builtins=builtinsNs:=by induction cs using Option.casesOn<;>rfl
theorem zQZ {x:Str}{pos:Pos}{v:Value}{p:PV}(G:zOm Tp w x v) (hp:∀g,Rep g p v) (hcs:∀sc,cs=some sc->sc.kind=.function) (hk:∀L C cl,(yL F cs L C cl).kindOf x=some .globalImplicit) (hb:(x==("__debug__" : Str))=false) :
    yC Tp w d hz F cs nm (.Name x pos) (zC p):=by
  constructor
  intro A B outer fs L C cl X hC g M m s lo I Lo k kx t Q E ok ex
  refine xEA (G B X.top) fun mg hg hv=>?_
  refine Name_function_global (zGy X.fk hcs L C cl) (hk L C cl) (loadGlobal_global (mg:=mg) ?_ hv (ok v p M g s.heap s.toks (Ext.refl g) I (hp g) t)) hb
  rw [zGe];exact hg.keeps I.keep
theorem zMn {x:Str}{pos:Pos}{v:Value}{p:PV}(G:zMR Tp w x v) (hp:∀g,Rep g p v) (hcs:∀sc,cs=some sc->sc.kind=.function) (hk:∀L C cl,(yL F cs L C cl).kindOf x=some .globalImplicit) (hb:(x==("__debug__" : Str))=false) :
    yC Tp w d hz F cs nm (.Name x pos) (zC p):=by
  constructor
  intro A B outer fs L C cl X hC g M m s lo I Lo k kx t Q E ok ex
  refine yl (G B X.top) fun mg mb hg hn hb' hv=>?_
  refine Name_function_global (zGy X.fk hcs L C cl) (hk L C cl) (loadGlobal_builtin (mg:=mg) (mb:=mb) ?_ hn ?_ hv (ok v p M g s.heap s.toks (Ext.refl g) I (hp g) t)) hb
  · rw [zGe];exact hg.keeps I.keep
  · rw [zKD];exact hb'.keeps I.keep
def zM:zDD:=fun st k Z=>qo st fun lo μ=>k [] μ
def zD (a:Den) (r:zDD):zDD:=fun st k kx=>qo st fun lo μ=>a st (fun p M=>r ⟨lo,M⟩ (fun ps M=>k (p::ps) M) kx) kx
theorem zG:zLN Tp w d hz F cs nm [] zM:=by
  constructor
  intro A B outer fs L C cl pos X hC g M m s lo I Lo k kx t Q E ok ex
  exact args_nil (ok [] [] M g s.heap s.toks (Ext.refl g) I rfl t)
theorem zA {e:Expr}{es:List Expr}{a:Den}{r:zDD}(ha:yC Tp w d hz F cs nm e a) (hr:zLN Tp w d hz F cs nm es r) (he:∀env,starEach (e::es) env=(false,eval e env)::starEach es env) :
    zLN Tp w d hz F cs nm (e::es) (zD a r):=by
  constructor
  intro A B outer fs L C cl pos X hC g M m s lo I Lo k kx t Q E ok ex
  refine args_cons ((ha.go A B outer fs L C cl X hC g M m s lo I Lo _ kx t) _ _ (fun v p M1z g1z h1z tk1z e1z i1z r1 q1z=>?_) ex) (he _)
  refine (hr.go A B outer fs L C cl pos X hC g1z M1z m _ lo i1z (Lo.ext e1z) _ kx q1z) _ _ (fun vs ps M2z g2z h2z tk2 e2z i2z r2z q2z=>?_) fun e M' g' h' tk' ee=>ex e M' g' h' tk' (e1z.trans ee)
  exact ok _ (p::ps) M2z g2z h2z tk2 (e1z.trans e2z) i2z (yS v vs rfl (r1.mono e2z) r2z) q2z
def zp (r:zDD):Den:=fun st k kx=>r st (fun ps M=>lK (k (.tup ps) M) .mk ps) kx
theorem zPk {A:Around}{B:Heap}{L:Addr}{fs:Frs}{g:Gh}{M:Mem}{m:Str->Option Value}{s:Shared}{k:PV->Mem->Prop}{kx:Mem->Prop}{vs:List Value}{ps:List PV}(I:Inv w.params B L fs g M m s.heap)
    (r:yJ g ps vs) (hn:vs.length<=sizeLine) (hk:k (.tup ps) M):Go Rep w A B L fs g m s (newTuple vs) k kx:=by
  intro Q E ok ex
  refine wpAny_newObj_type ?_ (by show vs.toArray.size<=sizeLine;rw [List.size_toArray];exact hn)
  refine xA (I.add (zm "tuple" vs 0) True rfl) fun J EX=>?_
  refine ok _ (.tup ps) M _ _ s.toks EX J (yb s.heap.objs.size vs rfl ?_ ?_ (r.mono EX)) hk
  · show (if _=_ then True else _);rw [if_pos rfl];trivial
  · show (if _=_ then _ else _)=_;rw [if_pos rfl]
theorem zUE {A:Around}{B:Heap}{L:Addr}{fs:Frs}{g:Gh}{M:Mem}{m:Str->Option Value}{s:Shared}{k:PV->Mem->Prop}{kx:Mem->Prop}{vs:List Value}{ps:List PV}(I:Inv w.params B L fs g M m s.heap)
    (r:yJ g ps vs) (hn:vs.length<=sizeLine) (hk:k (.lst ps) M):Go Rep w A B L fs g m s (newList vs) k kx:=by
  intro Q E ok ex
  refine wpAny_newObj_type ?_ (by show vs.toArray.size<=sizeLine;rw [List.size_toArray];exact hn)
  refine xA (I.add (zm "list" vs 0) True rfl) fun J EX=>?_
  refine ok _ (.lst ps) M _ _ s.toks EX J (qi s.heap.objs.size vs 0 rfl ?_ ?_ (r.mono EX)) hk
  · show (if _=_ then True else _);rw [if_pos rfl];trivial
  · show (if _=_ then _ else _)=_;rw [if_pos rfl]
theorem zUF {A:Around}{B:Heap}{L:Addr}{fs:Frs}{g:Gh}{M:Mem}{m:Str->Option Value}{s:Shared}{k:PV->Mem->Prop}{kx:Mem->Prop}{vs:List Value}{ps:List PV}(I:Inv w.params B L fs g M m s.heap)
    (r:yJ g ps vs) (hn:vs.length<=sizeLine) (hk:k (.ref M.n) (M.new (.list ps))):Go Rep w A B L fs g m s (newList vs) k kx:=by
  intro Q E ok ex
  refine wpAny_newObj_type ?_ (by show vs.toArray.size<=sizeLine;rw [List.size_toArray];exact hn)
  refine xA (I.addC (zm "list" vs 0) (.list ps) rfl (zES vs 0 rfl r)) fun J EX=>?_
  refine ok _ (.ref M.n) _ _ _ s.toks EX J ⟨?_,by show M.n<g.n+1;rw [I.n];exact Nat.lt_succ_self _⟩ hk
  show _=Value.ref (if M.n=g.n then _ else _)
  rw [if_pos I.n.symm]
theorem qm {n:Nat}(h:n<=1000):n<=sizeLine:=Nat.le_trans h (by rw [sizeLine_eq];decide)
theorem zR {es:List Expr}{kd:Nat}{pos:Pos}{r:zDD}(hr:zLN Tp w d hz F cs nm es r):yC Tp w d hz F cs nm (.Tuple es kd pos) (zp r):=by
  constructor
  intro A B outer fs L C cl X hC g M m s lo I Lo k kx t Q E ok ex
  refine Tuple_ ((hr.go A B outer fs L C cl pos X hC g M m s lo I Lo _ kx t) _ _ (fun vs ps M1z g1z h1z tk1z e1z i1z r1 q1z=>?_) ex)
  exact (zPk (s:={ s with heap:=h1z,toks:=tk1z }) i1z r1 (qm (by rw [r1.length];exact (zIq q1z).1)) (zIq q1z).2).chain e1z ok ex
def zFb (r:zDD):Den:=fun st k kx=>r st (fun ps M=>lK (k (.lst ps) M) .mk ps) kx
theorem zFM {es:List Expr}{pos:Pos}{r:zDD}(hr:zLN Tp w d hz F cs nm es r):yC Tp w d hz F cs nm (.List es pos) (zFb r):=by
  constructor
  intro A B outer fs L C cl X hC g M m s lo I Lo k kx t Q E ok ex
  refine List_ ((hr.go A B outer fs L C cl pos X hC g M m s lo I Lo _ kx t) _ _ (fun vs ps M1z g1z h1z tk1z e1z i1z r1 q1z=>?_) ex)
  exact (zUE (s:={ s with heap:=h1z,toks:=tk1z }) i1z r1 (qm (by rw [r1.length];exact (zIq q1z).1)) (zIq q1z).2).chain e1z ok ex
def zHR (r:zDD):Den:=fun st k kx=>r st (fun ps M=>lK (k (.ref M.n) (M.new (.list ps))) .mk ps) kx
theorem zFN {es:List Expr}{pos:Pos}{r:zDD}(hr:zLN Tp w d hz F cs nm es r):yC Tp w d hz F cs nm (.List es pos) (zHR r):=by
  constructor
  intro A B outer fs L C cl X hC g M m s lo I Lo k kx t Q E ok ex
  refine List_ ((hr.go A B outer fs L C cl pos X hC g M m s lo I Lo _ kx t) _ _ (fun vs ps M1z g1z h1z tk1z e1z i1z r1 q1z=>?_) ex)
  exact (zUF (s:={ s with heap:=h1z,toks:=tk1z }) i1z r1 (qm (by rw [r1.length];exact (zIq q1z).1)) (zIq q1z).2).chain e1z ok ex
theorem zLc {M:Model}{A:Around}{E:Value->Shared->Prop}{s:Shared}{f:Value}{Q:Args->Shared->Prop}(h:wpAny M A (spliced []) (fun vs s'=>Q ⟨vs,[]⟩ s') E s):wpAny M A (evalArgs f true [] []) Q E s:=by
  unfold evalArgs
  show wpAny M A (spliced [] >>= _) Q E s
  refine wpAny_bind (wpAny_mono h (fun vs s' h'=>?_) fun Z Z x=>x)
  refine wpAny_bind (wpAny_pure ?_)
  refine wpAny_holding ?_
  exact wpAny_bind (wpAny_pure (wpAny_bind (wpAny_pure (wpAny_pure h'))))
theorem zFq {A:Around}{B:Heap}{outer:List Env}{fs:Frs}{L C:Addr}{cl:List (Str×Addr)}{pos:Pos}{v:Value}{first:List Value}{fp:List PV}{es:List Expr}{r:zDD}{tf:zh}{g:Gh}{M:Mem}{m:Str->Option Value}{s:Shared}{lo:List (Option PV)}{k:PV->Mem->Prop}{kx:Mem->Prop}
    (X:Ct (Tp w) d true A B outer fs L F) (hC:cs.isSome=true->C≠L) (K:zBP Tp w v) (hr:zLN Tp w d true F cs nm es r) (hf:yN Tp w d v tf) (hp:(backTo pos (starEach es (yL F cs L C cl))).any (·.1)=false)
    (hs:es=[]\/∃e r,es=e::r/\starEach (e::r) (yL F cs L C cl)=(false,eval e (yL F cs L C cl))::starEach r (yL F cs L C cl))
    (I:Inv w.params B L fs g M m s.heap) (Lo:zJB nm (yL F cs L C cl) L g m lo) (rf:yJ g fp first) (t:r ⟨lo,M⟩ (fun ps M=>tf (fp++ps) M k kx) kx) :
    Go Rep w A B L fs g m s (callWith pos v first (backTo pos (starEach es (yL F cs L C cl))) []) k kx:=by
  intro Q E ok ex
  have args:∀(P:List Value->Shared->Prop),(∀vs ps M' g' h' tk',Ext NoX g g'->Inv w.params B L fs g' M' m h'->yJ g' ps vs->tf (fp++ps) M' k kx->P vs { s with heap:=h',toks:=tk' })->wpAny (model PG w) A (spliced (backTo pos (starEach es (yL F cs L C cl)))) P E s:=
    fun P hP=>(hr.go A B outer fs L C cl pos X hC g M m s lo I Lo _ kx t) P E hP ex
  have fin:∀vs ps M' g' h' tk',Ext NoX g g'->Inv w.params B L fs g' M' m h'->yJ g' ps vs->tf (fp++ps) M' k kx->(B.StaysIn h'/\wpAny (model PG w) A (call v (first++vs)) Q E { s with heap:=h',toks:=tk' }):=fun vs ps M' g' h' tk' e i rr q =>
    ⟨i.keep,((hf.go A B outer fs L F X g' M' m { s with heap:=h',toks:=tk' } i (first++vs) (fp++ps) ((rf.mono e).append rr) k kx q).chain e ok ex)⟩
  refine callWith_of (P:=fun h=>B.StaysIn h) (by rw [hp];rfl) (fun h hh=>K B X.top h hh) ?_
  rcases hs with rfl | ⟨e,es',rfl,hse⟩
  · exact zLc (args (fun vs s'=>B.StaysIn s'.heap/\wpAny (model PG w) A (call v (first++vs)) Q E s') fin)
  · rw [hse]
    refine evalArgs_plain ?_
    have:=args (fun vs s'=>B.StaysIn s'.heap/\wpAny (model PG w) A (call v (first++vs)) Q E s') fin
    rw [hse] at this
    exact this
def zO (tf:zh) (r:zDD):Den:=fun st k kx=>r st (fun ps M=>tf ps M k kx) kx
def zHr (es:List Expr):Prop:=(∀env pos,(backTo pos (starEach es env)).any (·.1)=false)/\(es=[]\/∃e r,es=e::r/\∀env,starEach (e::r) env=(false,eval e env)::starEach r env)
theorem zL {x:Str}{p' pos:Pos}{es:List Expr}{v:Value}{tf:zh}{r:zDD}(hx:yC Tp w d true F cs nm (.Name x p') (zC (.glob v))) (K:zBP Tp w v) (hf:yN Tp w d v tf) (hr:zLN Tp w d true F cs nm es r) (ha:zHr es) :
    yC Tp w d true F cs nm (.Call (.Name x p') es [] pos) (zO tf r):=by
  constructor
  intro A B outer fs L C cl X hC g M m s lo I Lo k kx t Q E ok ex
  refine Call_ ((hx.go A B outer fs L C cl X hC g M m s lo I Lo (fun p M'=>p=.glob v/\zO tf r ⟨lo,M'⟩ k kx) kx ⟨rfl,t⟩) _ _ (fun u p M1z g1z h1z tk1z e1z i1z r1 q1z=>?_) ex)
  refine xA q1z ?_;clear q1z;intro z1 t';subst z1
  obtain rfl:u=v:=r1
  exact (zFq (fp:=[]) (s:={ s with heap:=h1z,toks:=tk1z }) X hC K hr hf (ha.1 _ _) (ha.2.imp id fun ⟨e,r,a,b⟩=>⟨e,r,a,b _⟩) i1z (Lo.ext e1z) rfl t').chain e1z ok ex
def zGr (a:Den) (tab:Value->Option zh) (r:zDD):Den:=fun st k kx=>qo st fun lo μ=>a st (fun p M=>zSc (fun v=>oK (fun tf=>r ⟨lo,M⟩ (fun ps M=>tf ps M k kx) kx) .mk (tab v)) .mk p) kx
theorem zEl {f:Expr}{pos:Pos}{es:List Expr}{tab:Value->Option zh}{a:Den}{r:zDD}(hx:yC Tp w d true F cs nm f a) (K:∀v tf,tab v=some tf->zBP Tp w v/\yN Tp w d v tf) (hr:zLN Tp w d true F cs nm es r) (ha:zHr es)
    (he:∀env,eval (.Call f es [] pos) env=(do callWith pos (← eval f env) [] (backTo pos (starEach es env)) (backToKw pos (keywordEach [] env)))) :
    yC Tp w d true F cs nm (.Call f es [] pos) (zGr a tab r):=by
  constructor
  intro A B outer fs L C cl X hC g M m s lo I Lo k kx t Q E ok ex
  refine Call_ ((hx.go A B outer fs L C cl X hC g M m s lo I Lo _ kx t) _ _ (fun u p M1z g1z h1z tk1z e1z i1z r1 q1z=>?_) ex) (he _)
  refine xEA (zVo q1z) fun v z2 q1z=>?_;subst z2
  refine xEA (qM q1z) fun tf ht t'=>?_
  obtain rfl:u=v:=r1
  exact (zFq (fp:=[]) (s:={ s with heap:=h1z,toks:=tk1z }) X hC (K _ _ ht).1 hr (K _ _ ht).2 (ha.1 _ _) (ha.2.imp id fun ⟨e,r,a,b⟩=>⟨e,r,a,b _⟩) i1z (Lo.ext e1z) rfl t').chain e1z ok ex
end

section
variable {K V:Type} [DecidableEq K]
noncomputable def atk:List (K×V)->K->Option V
  | [],_=>none
  | (k',p)::r,k=>if k'=k then some p else atk r k
noncomputable def stk:List (K×V)->K->V->List (K×V)
  | [],k,p=>[(k,p)]
  | (k',q)::r,k,p=>if k'=k then (k',p)::r else (k',q)::stk r k p
theorem zDB:∀(kvs:List (K×Value)) (k:K),valueAt kvs k=atk kvs k:=by
  intro q0
  induction q0 with
  | nil =>
    intro _
    exact rfl
  | cons qq r ih =>
    obtain ⟨k',p⟩:=qq
    intro k
    have ih:=ih k
    unfold valueAt at ih ⊢
    unfold atk
    rw [List.find?_cons]
    by_cases h:k'=k
    · simp [h]
    · simp only [h,decide_false,if_false];exact ih
theorem zSD:∀(kvs:List (K×Value)) (k:K) (v:Value),(kvs.map (·.1)).Nodup->stored kvs k v=stk kvs k v:=by
  intro q0
  induction q0 with
  | nil =>
    intro k v _
    exact rfl
  | cons qq r ih =>
    obtain ⟨k',p⟩:=qq
    intro k v hn
    rw [List.map_cons,List.nodup_cons] at hn
    have ih:=ih k v hn.2
    by_cases h:k'=k
    · subst h
      unfold stored stk
      rw [if_pos (by simp),if_pos rfl,List.map_cons,if_pos rfl,map_store_of_not_mem r k' v hn.1]
    · unfold stk
      rw [if_neg h,← ih]
      unfold stored
      simp only [List.any_cons,h,decide_false,Bool.false_or]
      split
      · rw [List.map_cons,if_neg h]
      · rfl
theorem zXm (kvs:List (K×V)) (k:K) (v:V) (j:K):atk (stk kvs k v) j=if k=j then some v else atk kvs j:=by
  induction kvs with
  | nil=>rfl
  | cons x r ih =>
    obtain ⟨k',q⟩:=x
    unfold stk
    by_cases h:k'=k
    · subst h
      rw [if_pos rfl]
      unfold atk
      by_cases hj:k'=j<;>simp [hj]
    · rw [if_neg h]
      unfold atk
      rw [ih]
      by_cases hj:k'=j
      · subst hj;simp [h,Ne.symm h]
      · simp [hj]
theorem zWO (kvs:List (K×V)) (k:K) (v:V):(stk kvs k v).map (·.1)=if k∈kvs.map (·.1) then kvs.map (·.1) else kvs.map (·.1)++[k]:=by
  induction kvs with
  | nil=>rfl
  | cons x r ih =>
    obtain ⟨k',q⟩:=x
    unfold stk
    by_cases h:k'=k
    · subst h;simp
    · rw [if_neg h,List.map_cons,ih,List.map_cons]
      by_cases hm:k∈r.map (·.1)
      · rw [if_pos hm,if_pos (List.mem_cons_of_mem _ hm)]
      · rw [if_neg hm,if_neg (by rw [List.mem_cons];rintro (e | e);exact h e.symm;exact hm e)];rfl
theorem zUT {kvs:List (K×V)}{k:K}{v:V}(h:(kvs.map (·.1)).Nodup):((stk kvs k v).map (·.1)).Nodup:=by
  rw [zWO]
  split
  · exact h
  · rename_i hm
    rw [List.nodup_append]
    exact ⟨h,by simp,fun a ha b hb e=>by rw [List.mem_singleton] at hb;subst hb;subst e;exact hm ha⟩
def zBi (g:Gh):List (K×PV)->List (K×Value)->Prop
  | [],r=>r=[]
  | (k,p)::ps,r=>∃v r',r=(k,v)::r'/\Rep g p v/\zBi g ps r'
theorem zBi.keys {g:Gh}:∀{ps:List (K×PV)}{vs:List (K×Value)},zBi g ps vs->vs.map (·.1)=ps.map (·.1)
  | [],_,h=>by subst h;rfl
  | (k,p)::ps,_,h=>by
    refine zt h ?_;clear h;intro v r z1 _ h;subst z1
    rw [List.map_cons,List.map_cons,h.keys]
theorem zBi.vals {g:Gh}:∀{ps:List (K×PV)}{vs:List (K×Value)},zBi g ps vs->yJ g (ps.map (·.2)) (vs.map (·.2))
  | [],_,h=>by subst h;rfl
  | (k,p)::ps,_,h=>by
    refine zt h ?_;clear h;intro v r z2 hr h;subst z2
    exact (yS v _ rfl hr h.vals)
theorem zBi.atk {g:Gh}(k:K):∀{ps:List (K×PV)}{vs:List (K×Value)},zBi g ps vs->(Mine.atk ps k=none->Mine.atk vs k=none)/\∀p,Mine.atk ps k=some p->∃v,Mine.atk vs k=some v/\Rep g p v:=by
  intro q0
  induction q0 with
  | nil =>
    intro _ h
    subst h;exact ⟨fun Z=>rfl,fun p e=>nomatch e⟩
  | cons qq ps ih =>
    obtain ⟨k',p⟩:=qq
    intro _ h
    refine zt h ?_;clear h;intro v r z3 hr h;subst z3
    have ih:=ih h
    unfold Mine.atk
    by_cases hk:k'=k
    · simp only [hk,if_true]
      exact ⟨fun e=>(nomatch e),fun q e=>(iEA v rfl (by refine sE e ?_;clear e;rintro rfl;exact hr))⟩
    · simp only [hk,if_false];exact ih
theorem zBi.stk {g:Gh}(k:K) {p:PV}{v:Value}(hp:Rep g p v):∀{ps:List (K×PV)}{vs:List (K×Value)},zBi g ps vs->zBi g (Mine.stk ps k p) (Mine.stk vs k v):=by
  intro q0
  induction q0 with
  | nil =>
    intro _ h
    subst h;exact (yS v [] rfl hp rfl)
  | cons qq ps ih =>
    obtain ⟨k',q⟩:=qq
    intro _ h
    refine zt h ?_;clear h;intro u r z4 hr h;subst z4
    have ih:=ih h
    unfold Mine.stk
    by_cases hk:k'=k
    · simp only [hk,if_true];exact (yS v r rfl hp h)
    · simp only [hk,if_false];exact (yS u _ rfl hr ih)
theorem zBi.length {g:Gh}{ps:List (K×PV)}{vs:List (K×Value)}(h:zBi g ps vs):vs.length=ps.length:=by
  have:=congrArg List.length h.keys
  simpa using this
theorem zBi.of {g:Gh}:∀{ps:List (K×PV)}{vs:List (K×Value)},vs.map (·.1)=ps.map (·.1)->yJ g (ps.map (·.2)) (vs.map (·.2))->zBi g ps vs
  | [],[],_,_=>rfl
  | [],_::_,e,_=>by simp at e
  | _::_,[],e,_=>by simp at e
  | (k,p)::ps,(k',v)::vs,e,h=>by
    simp only [List.map_cons,List.cons.injEq] at e
    refine xA e ?_;clear e;intro z5 e;subst z5
    refine zt h fun v' r e2 hv hr=>?_
    simp only [List.map_cons,List.cons.injEq] at e2
    refine xA e2 ?_;clear e2;intro z6 z7;subst z6;subst z7
    exact (yS _ _ rfl hv (zBi.of e hr))
end
theorem zGI {o:Obj}{es:Array DictEntry}{ep:Nat}(h:o.ExactDict) (hd:o.data=.dict es ep):o=dictOf es.toList ep:=by
  obtain ⟨c,d,dt,sl⟩:=o
  refine xAA h fun h1 h2 h3=>?_
  dsimp only at h1 h2 h3 hd
  subst h1 h2 h3 hd
  rfl
theorem KS.pairs {w:World}{P:Params}(hP:P=w.params):∀{ks:List Str}{es:List DictEntry},KS P ks es->Pairs (strKind PG w) es (ks.zip (es.map (·.val)))/\∀e∈es,∃k,(strKind PG w).is k e.key=true/\e.hash=(strKind PG w).hash k:=by
  intro q0
  induction q0 with
  | nil =>
    intro _ h
    subst h;exact ⟨.nil,fun Z h=>nomatch h⟩
  | cons k ks ih =>
    intro _ h
    refine yl h ?_;clear h;intro e r z8 z9 hh hr;subst z8;obtain ⟨t,ht⟩:=z9
    refine xA (ih hr) fun a b=>?_
    have hk:(strKind PG w).is k e.key=true:=by rw [ht];exact strKind_is PG w k t
    refine ⟨.cons hk rfl a,fun x hx=>?_⟩
    rcases List.mem_cons.mp hx with rfl | hx
    · exact (iEA k hk (by rw [hh,hP];rfl))
    · exact b x hx
theorem KS.length {P:Params}:∀{ks:List Str}{es:List DictEntry},KS P ks es->es.length=ks.length
  | [],_,h=>by subst h;rfl
  | k::ks,_,h=>by
    refine yl h ?_;clear h;intro e r z10 _ _ hr;subst z10
    rw [List.length_cons,List.length_cons,hr.length]
theorem qn {α β:Type}:∀{a:List α}{b:List β},b.length=a.length->(a.zip b).map (·.1)=a
  | [],_,_=>rfl
  | _::_,[],h=>by simp at h
  | x::a,y::b,h=>by rw [List.zip_cons_cons,List.map_cons,qn (by simpa using h)]
theorem zCK {α β:Type}:∀{a:List α}{b:List β},b.length=a.length->(a.zip b).map (·.2)=b
  | [],[],_=>rfl
  | [],_::_,h=>by simp at h
  | _::_,[],h=>by simp at h
  | x::a,y::b,h=>by rw [List.zip_cons_cons,List.map_cons,zCK (by simpa using h)]
theorem zTH {w:World}{g:Gh}{h:Heap}{a:Addr}{o:Obj}{kvs:List (Str×PV)}(hP:g.P=w.params) (ho:h.get? a=some o) (x:zUv g o kvs):∃vs,h.DictOf (strKind PG w) a vs/\zBi g kvs vs:=by
  refine yl x ?_;clear x;intro es ep z11 nd hk hr;subst z11
  refine xA (hk.pairs (w:=w) hP) fun hp hkeys=>?_
  have hl:(es.map (·.val)).length=(kvs.map (·.1)).length:=by rw [List.length_map];exact hk.length
  refine (iEA _ (zBt _ es.toArray ep ho ⟨rfl,rfl,rfl⟩ rfl ?_ (by simpa using hp) (by rw [qn hl];exact nd)) (zBi.of (qn hl) (by rw [zCK hl];exact hr)))
  intro e he
  exact hkeys e (by simpa using he)
theorem zWl {w:World}{P:Params}(hP:P=w.params):∀{es:List DictEntry}{vs:List (Str×Value)},Pairs (strKind PG w) es vs->(∀e∈es,∃k,(strKind PG w).is k e.key=true/\e.hash=(strKind PG w).hash k)->KS P (vs.map (·.1)) es/\es.map (·.val)=vs.map (·.2):=by
  intro es vs h
  induction h with
  | nil=>exact fun Z=>⟨rfl,rfl⟩
  | @cons e kv es kvs h1 h2 h3 ih =>
    intro hk
    refine xA (ih fun e he=>hk e (.tail _ he)) fun a b=>?_
    refine xEA (hk e (.head _)) fun k k1 k2=>?_
    obtain rfl:k=kv.1:=(strKind PG w).inj _ _ _ k1 h1
    refine ⟨(yb e es rfl (Value.isStrOf_shape h1) ?_ a),by rw [List.map_cons,List.map_cons,h2,b]⟩
    rw [k2,hP];rfl
theorem zNH {w:World}{g:Gh}{h:Heap}{a:Addr}{vs:List (Str×Value)}{kvs:List (Str×PV)}(hP:g.P=w.params) (x:h.DictOf (strKind PG w) a vs) (r:zBi g kvs vs):∃o,h.get? a=some o/\zUv g o kvs:=by
  refine zGX x fun o es ep ho he hd hk hp hn=>?_
  refine xA (zWl (w:=w) hP hp fun e he=>hk e (by simpa using he)) fun k1 k2=>?_
  exact (zPp o ho es.toList ep (zGI he hd) (by rw [← r.keys];exact hn) (by rw [← r.keys];exact k1) (by rw [k2];exact r.vals))
theorem Rep.isDct {g:Gh}{ks:List Str}{xs:List PV}{v:Value}(r:Rep g (.dct ks xs) v):∃a o,v=.ref a/\g.fz a/\g.led a=some o/\zUv g o (ks.zip xs)/\xs.length=ks.length/\(a==sysModules)=false:=by
  refine zBF r ?_;clear r;intro a es e z12 sm f l nd k r;subst z12
  have hl:xs.length=ks.length:=by rw [← r.length,List.length_map];exact k.length
  exact (zWC a _ rfl f l (yb es e rfl (by rw [qn hl];exact nd) (by rw [qn hl];exact k) (by rw [zCK hl];exact r)) hl sm)
theorem KI.pairs {w:World}:∀{ks:List Int}{es:List DictEntry},KI ks es->Pairs (intKind PG w) es (ks.zip (es.map (·.val)))/\(∀e∈es,∃k,(intKind PG w).is k e.key=true/\e.hash=(intKind PG w).hash k)/\es.length=ks.length:=by
  intro q0
  induction q0 with
  | nil =>
    intro _ h
    subst h;exact ⟨.nil,fun Z h=>(nomatch h),rfl⟩
  | cons k ks ih =>
    intro _ h
    refine yl h ?_;clear h;intro e r z13 z14 hh hr;subst z13;obtain ⟨t,ht⟩:=z14
    refine xAA (ih hr) fun a b c=>?_
    have hk:(intKind PG w).is k e.key=true:=by rw [ht];exact intKind_is PG w k t
    refine ⟨.cons hk rfl a,fun x hx=>?_,by rw [List.length_cons,List.length_cons,c]⟩
    rcases List.mem_cons.mp hx with rfl | hx
    · exact (iEA k hk hh)
    · exact b x hx
theorem Rep.isIdct {w:World}{P:Params}{B:Heap}{L:Addr}{fs:Frs}{M:Mem}{m:Str->Option Value}{h:Heap}{g:Gh}(I:Inv P B L fs g M m h) {ks:List Int}{xs:List PV}{v:Value}(r:Rep g (.idct ks xs) v) :
    ∃a vs,v=.ref a/\h.DictOf (intKind PG w) a vs/\zBi g (ks.zip xs) vs/\(a==sysModules)=false:=by
  refine zBF r ?_;clear r;intro a es ep z15 sm f l nd k r;subst z15
  refine xAA (k.pairs (w:=w)) fun hp hkeys hlen=>?_
  have hl:(es.map (·.val)).length=ks.length:=by rw [List.length_map];exact hlen
  have hx:xs.length=ks.length:=by rw [← r.length];exact hl
  refine (yb a _ rfl (zBt _ es.toArray ep ((I.led _ _ l).1) ⟨rfl,rfl,rfl⟩ rfl (fun e he=>hkeys e (by simpa using he)) (by simpa using hp) (by rw [qn hl];exact nd)) (zBi.of (by rw [qn hl,qn hx]) (by rw [zCK hl,zCK hx];exact r)) sm)
def zFg (g:Gh):List (List Int×PV)->List (List Int×Addr×Value)->Prop
  | [],r=>r=[]
  | (k,p)::ps,r=>∃a v r',r=(k,a,v)::r'/\Rep g (.tup (k.map .int)) (.ref a)/\Rep g p v/\zFg g ps r'
theorem zPy {w:World}{g:Gh}:∀{ks:List Int}{vs:List Value},yJ g (ks.map .int) vs->ItemsAre (intKind PG w) ks vs
  | [],_,h=>by
    simp only [List.map_nil] at h;subst h;exact .nil
  | k::ks,_,h=>by
    rw [List.map_cons] at h
    refine zt h ?_;clear h;intro v r z16 hv hr;subst z16
    apply yF hv;intro t
    exact .cons (intKind_is PG w k t) (zPy hr)
theorem zLJ {w:World}{P:Params}{B:Heap}{L:Addr}{fs:Frs}{M:Mem}{m:Str->Option Value}{h:Heap}{g:Gh}(I:Inv P B L fs g M m h) {ks:List Int}{a:Addr}(r:Rep g (.tup (ks.map .int)) (.ref a)):IsTupleKey (intKind PG w) h ks a:=by
  refine yl r fun a' vs e f l r=>?_
  cases e
  exact (qi _ vs.toArray 0 ((I.led _ _ l).1) rfl rfl (by simpa using zPy r))
theorem zFg.keys {g:Gh}:∀{ps:List (List Int×PV)}{xs:List (List Int×Addr×Value)},zFg g ps xs->xs.map (·.1)=ps.map (·.1)
  | [],_,h=>by subst h;rfl
  | (k,p)::ps,_,h=>by
    refine yY h ?_;clear h;intro a v r z18 _ _ h;subst z18
    rw [List.map_cons,List.map_cons,h.keys]
theorem zap {w:World}{g:Gh}:∀{ps:List (List Int×PV)}{es:List DictEntry},KT g (ps.map (·.1)) es->yJ g (ps.map (·.2)) (es.map (·.val))->∃xs,es=xs.map (entryOfKey (tupleKind (intKind PG w)))/\zFg g ps xs:=by
  intro q0
  induction q0 with
  | nil =>
    intro es hk _
    simp only [List.map_nil] at hk;subst hk;exact (iEA [] rfl rfl)
  | cons qq ps ih =>
    obtain ⟨k,p⟩:=qq
    intro es hk hr
    rw [List.map_cons] at hk hr
    refine yl hk ?_;clear hk;intro e r z19 h1 h2 h3;subst z19
    refine zt hr fun v r' e' hv hr=>?_
    rw [List.map_cons,List.cons.injEq] at e'
    refine xA e' ?_;clear e';intro z20 z21;subst z20;subst z21
    refine xEA (ih h3 hr) fun xs z22 hx=>?_;subst z22
    refine xE (zCh h1 trivial) fun a ha=>?_
    refine (zUG ((k,a,e.val)::xs) ?_ a e.val xs rfl (ha ▸ h1) hv hx)
    rw [List.map_cons]
    congr 1
    obtain ⟨eh,ek,ev⟩:=e
    dsimp only at ha h2
    subst ha h2
    rfl
theorem zTP {w:World}{P:Params}{B:Heap}{L:Addr}{fs:Frs}{M:Mem}{m:Str->Option Value}{h:Heap}{g:Gh}(I:Inv P B L fs g M m h) {a:Addr}{o:Obj}{kvs:List (List Int×PV)}(ho:h.get? a=some o) (x:zXh g o kvs) :
    ∃xs,h.DictOfH (tupleKind (intKind PG w)) a xs/\zFg g kvs xs:=by
  refine yl x ?_;clear x;intro es ep z23 nd hk hr;subst z23
  refine xEA (zap (w:=w) hk hr) fun xs z24 hx=>?_;subst z24
  refine (iEA xs (zBt _ _ ep ho ⟨rfl,rfl,rfl⟩ rfl (by simp) (fun x hm=>?_) (by rw [hx.keys];exact nd)) hx)
  clear nd hk hr ho
  induction kvs generalizing xs with
  | nil=>subst hx;cases hm
  | cons y r ih =>
    obtain ⟨k,p⟩:=y
    refine yY hx ?_;clear hx;intro a v r' z25 h1 h2 h3;subst z25
    rcases List.mem_cons.mp hm with rfl | hm
    · exact zLJ I h1
    · exact ih _ h3 hm
theorem zae {w:World}{g:Gh}:∀{ps:List (List Int×PV)}{xs:List (List Int×Addr×Value)},zFg g ps xs->KT g (ps.map (·.1)) (xs.map (entryOfKey (tupleKind (intKind PG w))))/\yJ g (ps.map (·.2)) ((xs.map (entryOfKey (tupleKind (intKind PG w)))).map (·.val)):=by
  intro q0
  induction q0 with
  | nil =>
    intro _ h
    subst h;exact ⟨rfl,rfl⟩
  | cons qq ps ih =>
    obtain ⟨k,p⟩:=qq
    intro _ h
    refine yY h ?_;clear h;intro a v r z26 h1 h2 h3;subst z26
    refine xA (ih h3) fun x y=>?_
    exact ⟨(yb _ _ rfl h1 rfl x),(yS _ _ rfl h2 y)⟩
theorem zXv {w:World}{g:Gh}{h:Heap}{a:Addr}{xs:List (List Int×Addr×Value)}{kvs:List (List Int×PV)}(x:h.DictOfH (tupleKind (intKind PG w)) a xs) (r:zFg g kvs xs):∃o,h.get? a=some o/\zXh g o kvs:=by
  refine zGX x fun o es ep ho he hd hes hk hn=>?_
  refine xA (zae (w:=w) r) fun k1 k2=>?_
  exact (zPp o ho es.toList ep (zGI he hd) (by rw [← r.keys];exact hn) (by rw [hes];exact k1) (by rw [hes];exact k2))
theorem zFg.at {g:Gh}(k:List Int):∀{ps:List (List Int×PV)}{xs:List (List Int×Addr×Value)},zFg g ps xs->(atk ps k=none->atKey xs k=none)/\∀p,atk ps k=some p->∃q,atKey xs k=some q/\Rep g p q.2:=by
  intro q0
  induction q0 with
  | nil =>
    intro _ h
    subst h;exact ⟨fun Z=>rfl,fun p e=>nomatch e⟩
  | cons qq ps ih =>
    obtain ⟨k',p⟩:=qq
    intro _ h
    refine yY h ?_;clear h;intro a v r z27 _ hr h;subst z27
    have ih:=ih h
    unfold atk
    by_cases hk:k'=k
    · simp only [hk,if_true]
      exact ⟨fun e=>(nomatch e),fun q e=>(iEA (a,v) (by simp [atKey]) (by refine sE e ?_;clear e;rintro rfl;exact hr))⟩
    · simp only [hk,if_false]
      have e:atKey ((k',a,v)::r) k=atKey r k:=by simp [atKey,hk]
      rw [e];exact ih
theorem zOg {k':List Int}{a':Addr}{v':Value}{r:List (List Int×Addr×Value)}{k:List Int}{a:Addr}{v:Value}(h:k' ∉ r.map (·.1)):storedH ((k',a',v')::r) k a v=if k'=k then (k',a',v)::r else (k',a',v')::storedH r k a v:=by
  by_cases hk:k'=k
  · subst hk
    rw [if_pos rfl]
    unfold storedH
    have:(atKey ((k',a',v')::r) k').isSome=true:=by simp [atKey]
    rw [if_pos this,List.map_cons,map_putAt_of_not_mem r k' v h]
    simp [putAt]
  · rw [if_neg hk]
    unfold storedH
    have e:atKey ((k',a',v')::r) k=atKey r k:=by simp [atKey,hk]
    rw [e]
    split
    · rw [List.map_cons];simp [putAt,hk]
    · rfl
theorem zFg.put {g:Gh}(k:List Int) {p:PV}{v:Value}{a:Addr}(ha:Rep g (.tup (k.map .int)) (.ref a)) (hp:Rep g p v):∀{ps:List (List Int×PV)}{xs:List (List Int×Addr×Value)},(xs.map (·.1)).Nodup->zFg g ps xs->zFg g (stk ps k p) (storedH xs k a v):=by
  intro q0
  induction q0 with
  | nil =>
    intro _ _ h
    subst h;exact (qi a v [] rfl ha hp rfl)
  | cons qq ps ih =>
    obtain ⟨k',q⟩:=qq
    intro _ hn h
    refine yY h ?_;clear h;intro a' v' r z28 h1 h2 h3;subst z28
    rw [List.map_cons,List.nodup_cons] at hn
    rw [zOg hn.1]
    unfold stk
    by_cases hk:k'=k
    · simp only [hk,if_true];exact (qi a' v r rfl (hk ▸ h1) hp h3)
    · simp only [hk,if_false];exact (qi a' v' _ rfl h1 h2 (ih hn.2 h3))
theorem zFg.length {g:Gh}{ps:List (List Int×PV)}{xs:List (List Int×Addr×Value)}(h:zFg g ps xs):xs.length=ps.length:=by
  have:=congrArg List.length h.keys
  simpa using this

noncomputable def asL:MO->Option (List PV)
  | .list xs=>some xs
  | .sdict _=>none
  | .tdict _=>none
  | .pin _ _=>none
noncomputable def asS:MO->Option (List (Str×PV))
  | .sdict xs=>some xs
  | .list _=>none
  | .tdict _=>none
  | .pin _ _=>none
noncomputable def asT:MO->Option (List (List Int×PV))
  | .tdict xs=>some xs
  | .pin _ xs=>some xs
  | .list _=>none
  | .sdict _=>none
noncomputable def asI:MO->Option (List PV)
  | .list xs=>some xs
  | .pin _ kvs=>some (kvs.map fun kv=>.tup (kv.1.map .int))
  | .sdict _=>none
  | .tdict _=>none
@[simp] theorem zdE {xs:List (Str×PV)}:asS (.sdict xs)=some xs:=rfl
theorem zEY {c:MO}{xs:List PV}(e:asL c=some xs):c=.list xs:=by
  induction c using MO.casesOn with
  | list ys=>rw [sI e]
  | _=>exact zW e
theorem zEZ {c:MO}{xs:List (Str×PV)}(e:asS c=some xs):c=.sdict xs:=by
  induction c using MO.casesOn with
  | sdict ys=>rw [sI e]
  | _=>exact zW e
theorem zUy {c:MO}{xs:List (List Int×PV)}(e:asT c=some xs):c=.tdict xs\/∃o,c=.pin o xs:=by
  induction c using MO.casesOn with
  | tdict ys=>exact .inl (by rw [sI e])
  | pin o ys=>exact .inr ⟨o,by rw [sI e]⟩
  | _=>exact zW e
noncomputable def zAe (M:Mem):PV->Option (List PV)
  | .lst xs=>some xs
  | .ref i=>asL (M.c i)
  | _=>none
noncomputable def sdP (M:Mem):PV->Option (List (Str×PV))
  | .dct ks xs=>some (ks.zip xs)
  | .ref i=>asS (M.c i)
  | _=>none
noncomputable def tdP (M:Mem):PV->Option (List (List Int×PV))
  | .ref i=>asT (M.c i)
  | _=>none
theorem zDT {M:Mem}{i:Nat}{xs:List PV}(h:M.c i=.list xs):zAe M (.ref i)=some xs:=congrArg asL h
theorem zOb {M:Mem}{i:Nat}{xs:List (Str×PV)}(h:M.c i=.sdict xs):sdP M (.ref i)=some xs:=congrArg asS h
theorem zQj {M:Mem}{i:Nat}{xs:List (List Int×PV)}(h:M.c i=.tdict xs):tdP M (.ref i)=some xs:=congrArg asT h
theorem zcb {M:Mem}{i:Nat}{o:Obj}{xs:List (List Int×PV)}(h:M.c i=.pin o xs):tdP M (.ref i)=some xs:=congrArg asT h
noncomputable def zJP:PV->Option Int
  | .int k=>some k
  | _=>none
noncomputable def zQg:PV->Option Str
  | .str k=>some k
  | _=>none
noncomputable def zXW:PV->Option (List PV)
  | .tup k=>some k
  | _=>none
theorem zFt {C:PV->Prop}{p:PV}{α:Type}{f:Int->Option α}{r:α}(e:(zJP p).bind f=some r) (h:∀k,f k=some r->C (.int k)):C p:=by
  induction p using PV.casesOn with
  | int k=>exact h k e
  | _=>exact zW e
theorem zMq {C:PV->Prop}{p:PV}{α:Type}{f:Str->Option α}{r:α}(e:(zQg p).bind f=some r) (h:∀k,f k=some r->C (.str k)):C p:=by
  induction p using PV.casesOn with
  | str k=>exact h k e
  | _=>exact zW e
theorem zTU {C:PV->Prop}{p:PV}{α:Type}{f:List PV->Option α}{r:α}(e:(zXW p).bind f=some r) (h:∀k,f k=some r->C (.tup k)):C p:=by
  induction p using PV.casesOn with
  | tup k=>exact h k e
  | _=>exact zW e
noncomputable def zDK:List PV->Option (List Int)
  | []=>some []
  | p::r=>(zJP p).bind fun i=>(zDK r).map (i::·)
theorem zGM {xs:List PV}:∀{ks:List Int},zDK xs=some ks->xs=ks.map .int:=by
  induction xs with
  | nil=>intro ks e;refine sE e ?_;clear e;rintro rfl;rfl
  | cons p r ih =>
    intro ks e
    apply zFt e;clear e;intro i e
    refine xEA (Option.map_eq_some_iff.mp e) ?_;clear e;intro l h z1;subst z1
    rw [ih h];rfl
abbrev zET (k:Int):Prop:=-(2^63)<=k/\k<2^63
noncomputable def zUU (xs:List PV) (k:Int):Option PV:=if zET k then (seqIndex? k xs.length).bind (xs[·]?) else none
noncomputable def zWZ:List PV->Nat->Option PV
  | [],_=>none
  | x::_,0=>some x
  | _::r,n+1=>zWZ r n
theorem zOE:∀(xs:List PV) (n:Nat),zWZ xs n=xs[n]?
  | [],_=>rfl
  | _::_,0=>rfl
  | _::r,n+1=>zOE r n
noncomputable def zGc (xs:List PV) (k:Int):Option PV:=match k with
  | .ofNat n=>(match Nat.ble n 1000000 with | true=>zWZ xs n | false=>none)
  | .negSucc n=>zUU xs (.negSucc n)
theorem zaY {xs:List PV}{k:Int}{p:PV}(e:zGc xs k=some p):zUU xs k=some p:=by
  induction k using Int.casesOn with
  | ofNat n =>
    have e':(match Nat.ble n 1000000 with | true=>zWZ xs n | false=>none)=some p:=e
    generalize hb:Nat.ble n 1000000=z33;induction z33 using Bool.casesOn with
    | false=>rw [hb] at e';exact zW e'
    | true =>
      rw [hb] at e'
      have h:=Nat.le_of_ble_eq_true hb
      have e2:xs[n]?=some p:=(zOE xs n).symm.trans e'
      have hl:=(List.getElem?_eq_some_iff.mp e2).1
      have h1:zET (Int.ofNat n):=⟨by show -(2^63)<=(n:Int);lia,by show (n:Int)<2^63;lia⟩
      have h2:seqIndex? (Int.ofNat n) xs.length=some n:=by
        unfold seqIndex?
        have e:¬((n:Int)<0):=by lia
        simp [e,hl]
      unfold zUU
      rw [if_pos h1,h2]
      exact e2
  | negSucc n=>exact e
noncomputable def zVm (i:PV):MO->Option PV
  | .list xs=>(zJP i).bind (zGc xs)
  | .sdict kvs=>(zQg i).bind (atk kvs)
  | .tdict kvs=>(zXW i).bind fun ys=>(zDK ys).bind (atk kvs)
  | .pin _ kvs=>(zXW i).bind fun ys=>(zDK ys).bind (atk kvs)
def qa (M:Mem) (o i:PV):Option PV:=match o with
  | .tup xs=>(zJP i).bind (zGc xs)
  | .str x=>(zJP i).bind fun k=>if zET k then ((seqIndex? k x.length).bind (x.cps[·]?)).map fun c=>.str ⟨#[c]⟩ else none
  | .idct ks xs=>(zJP i).bind (atk (ks.zip xs))
  | .lst xs=>(zJP i).bind (zGc xs)
  | .dct ks xs=>(zQg i).bind fun x=>hid (atk (ks.zip xs) x)
  | .ref j=>zVm i (M.c j)
  | _=>none
section
variable {w:World}{A:Around}{B:Heap}{L:Addr}{fs:Frs}{g:Gh}{M:Mem}{m:Str->Option Value}{s:Shared}{k:PV->Mem->Prop}{kx:Mem->Prop}{P:Params}{h:Heap}{p:PV}{v:Value}
theorem Inv.sd (I:Inv w.params B L fs g M m h) {i:Nat}{kvs:List (Str×PV)}(hi:i<g.n) (hc:M.c i=.sdict kvs):∃vs,h.DictOf (strKind PG w) (g.ρ i) vs/\zBi g kvs vs:=by
  refine qh (I.cell i hi) fun o e Z c=>?_
  rw [hc] at c
  exact zTH I.hP (I.led _ _ e).1 c
theorem Inv.td (I:Inv w.params B L fs g M m h) {i:Nat}{kvs:List (List Int×PV)}(hi:i<g.n) (hc:M.c i=.tdict kvs\/∃o,M.c i=.pin o kvs):∃xs,h.DictOfH (tupleKind (intKind PG w)) (g.ρ i) xs/\zFg g kvs xs:=by
  refine qh (I.cell i hi) fun o e Z c=>?_
  rcases hc with hc | ⟨o',hc⟩
  · rw [hc] at c
    exact zTP I (I.led _ _ e).1 c
  · rw [hc] at c
    exact zTP I (I.led _ _ e).1 c.2
theorem Rep.list (I:Inv P B L fs g M m h) (r:Rep g p v) {xs:List PV}(e:zAe M p=some xs):∃a vs ep,v=.ref a/\g.led a=some (zm "list" vs ep)/\h.IsList a vs.toArray/\yJ g xs vs:=by
  induction p using PV.casesOn with
  | lst ys=>refine sE e ?_;clear e;rintro rfl;refine zEs (r.isLst I) fun a vs ep h1 Z h2 h3 h4=>?_;exact (qi a vs ep h1 h2 h3 h4)
  | ref i =>
    refine zt (I.list r.2 (zEY e)) fun vs ep h1 h2 h3=>?_
    exact (qi _ vs ep r.1 h1 h2 h3)
  | _=>exact zW e
theorem Rep.sd (I:Inv w.params B L fs g M m h) (r:Rep g p v) {kvs:List (Str×PV)}(e:sdP M p=some kvs):∃a vs,v=.ref a/\h.DictOf (strKind PG w) a vs/\zBi g kvs vs:=by
  induction p using PV.casesOn with
  | dct ks xs =>
    refine sE e ?_;clear e;rintro rfl
    refine zHq r.isDct fun a o z2 Z l x Z Z=>?_;subst z2
    refine xEA (zTH I.hP (I.led _ _ l).1 x) fun vs h1 h2=>?_
    exact (yS a vs rfl h1 h2)
  | ref i =>
    refine xEA (I.sd r.2 (zEZ e)) fun vs h1 h2=>?_
    exact (yS _ vs r.1 h1 h2)
  | _=>exact zW e
theorem Rep.td (I:Inv w.params B L fs g M m h) (r:Rep g p v) {kvs:List (List Int×PV)}(e:tdP M p=some kvs):∃i xs,p=.ref i/\i<g.n/\v=.ref (g.ρ i)/\h.DictOfH (tupleKind (intKind PG w)) (g.ρ i) xs/\zFg g kvs xs:=by
  induction p using PV.casesOn with
  | ref i =>
    refine xEA (I.td r.2 (zUy e)) fun vs h1 h2=>?_
    exact (zNv i vs rfl r.2 r.1 h1 h2)
  | _=>exact zW e
theorem yJ.nth {xs:List PV}{vs:List Value}(r:yJ g xs vs) {k:Int}{p:PV}(e:zGc xs k=some p):zET k/\∃j y,seqIndex? k vs.length=some j/\vs[j]?=some y/\Rep g p y:=by
  have e:=zaY e
  unfold zUU at e
  split at e
  · rename_i hk
    refine ⟨hk,?_⟩
    refine xEA (Option.bind_eq_some_iff.mp e) fun j hj e=>?_
    refine xEA (r.get j e) fun y hy hr=>?_
    exact (yS j y (by rw [r.length];exact hj) hy hr)
  · exact zW e
theorem zMD {a:Addr}{vs:List Value}{i:Int}{t:Tok}{j:Nat}{y:Value}{Q:Value->Shared->Prop}{E:Value->Shared->Prop}(hl:s.heap.IsList a vs.toArray) (hk:zET i) (hj:seqIndex? i vs.length=some j) (hy:vs[j]?=some y) (hq:Q y s) :
    wpAny (model PG w) A (getItem (.ref a) (.int i t)) Q E s:=by
  unfold seqIndex? at hj
  by_cases h0:i<0
  · simp only [h0,if_true] at hj
    split at hj
    · rename_i hb
      refine sE hj ?_;clear hj;rintro rfl
      simp only [Bool.and_eq_true,decide_eq_true_eq] at hb
      exact wpAny_getItem_list_neg hl h0 (by simp only [List.size_toArray];lia) hk.1 (by simp only [List.size_toArray];simpa using hy) hq
    · exact zW hj
  · simp only [h0,if_false] at hj
    split at hj
    · rename_i hb
      refine sE hj ?_;clear hj;rintro rfl
      exact wpAny_getItem_list hl (by lia) hk.2 (by simpa using hy) hq
    · exact zW hj
theorem zaJ {value slice:Expr}{o i r:PV}{vo vi:Value}(hroom:A.units+100<cLine) (I:Inv w.params B L fs g M m s.heap) (ho:Rep g o vo) (hi:Rep g i vi) (e:qa M o i=some r) (hk:k r M)
    (hs:∀o i,subscripted slice false o i=operate [o,i] (getItem o i)):Go Rep w A B L fs g m s (subscriptTail value slice vo vi) k kx:=by
  intro Q E ok ex
  have fin:∀v tk,Rep g r v->Q v { s with toks:=tk }:=fun v tk hr=>ok v r M g s.heap tk (Ext.refl g) I hr hk
  have lst:∀(xs:List PV) (kk:Int),zGc xs kk=some r->∀a vs t,s.heap.IsList a vs.toArray->yJ g xs vs->wpAny (model PG w) A (subscriptTail value slice (.ref a) (.int kk t)) Q E s:=fun xs kk e a vs t hl hr=>by
    refine zSI (hr.nth e) fun hb j y hj hy hry=>?_
    exact tail_any hl.typeIs slot_list_getitem.lookup (zMD hl hb hj hy (fin _ s.toks hry)) (hs _ _)
  have sdd:∀(a:Addr) (vs:List (Str×Value)) (kvs:List (Str×PV)) (x:Str) (t:Tok),s.heap.DictOf (strKind PG w) a vs->zBi g kvs vs->atk kvs x=some r->wpAny (model PG w) A (subscriptTail value slice (.ref a) (.str x t)) Q E s:=fun a vs kvs x t hd hr e=>by
    refine xEA ((hr.atk x).2 _ e) fun y hy hry=>?_
    exact tail_any hd.typeIs slot_dict_getitem.lookup (wpAny_getItem_of (strKind_is PG w x t) hd.mapOf (by rw [zDB];exact hy) (fin _ _ hry)) (hs _ _)
  have tdd:∀(a:Addr) (xs:List (List Int×Addr×Value)) (kvs:List (List Int×PV)) (ys:List PV) (vi:Value),s.heap.DictOfH (tupleKind (intKind PG w)) a xs->zFg g kvs xs->Rep g (.tup ys) vi->(zDK ys).bind (atk kvs ·)=some r->wpAny (model PG w) A (subscriptTail value slice (.ref a) vi) Q E s:=fun a xs kvs ys vi hd hr hi e=>by
    refine xEA (Option.bind_eq_some_iff.mp e) fun ks hks e'=>?_
    obtain rfl:=zGM hks
    refine xE (zCh hi trivial) fun b z3=>?_;subst z3
    refine xEA ((hr.at ks).2 _ e') fun q hq hrq=>?_
    exact tail_any hd.typeIs slot_dict_getitem.lookup (wpAny_getItem_heap (knd:=tupleKind (intKind PG w)) (tupleKind_room_in1 (by lia)) (zLJ I hi) hd hq (fin _ _ hrq)) (hs _ _)
  induction o using PV.casesOn with
  | tup xs =>
    revert hi;apply zFt e;clear e;intro kk e hi
    refine zAG (ho.isTup I) fun a vs z4 Z Z ht hr=>?_;subst z4
    apply yF hi;intro t
    refine zSI (hr.nth e) fun hb j y hj hy hry=>?_
    exact item_tupleT ht hb.1 hb.2 hj hy (fin _ s.toks hry) (hs _ _)
  | str x =>
    revert hi;apply zFt e;clear e;intro kk e hi
    apply qN ho;intro t
    apply yF hi;intro u
    refine zYa e fun hb e=>?_
    refine xEA (Option.map_eq_some_iff.mp e) fun c hc z8=>?_;subst z8
    exact tail_any (typeIs_str s _ _) PySem.F.slot_str_getitem.lookup (PyProof.Rows.getItem_str (by have:=hb.1;have:=hb.2;simp only [Bool.or_eq_false_iff,decide_eq_false_iff_not];lia) hc (fin _ _ ⟨_,rfl⟩)) (hs _ _)
  | idct ks xs =>
    revert hi;apply zFt e;clear e;intro kk e hi
    refine yl (ho.isIdct (w:=w) I) fun a vs z9 hd hr Z=>?_;subst z9
    apply yF hi;intro u
    refine xEA ((hr.atk _).2 _ e) fun y hy hry=>?_
    exact tail_any hd.typeIs slot_dict_getitem.lookup (wpAny_getItem_of (intKind_is PG w _ u) hd.mapOf (by rw [zDB];exact hy) (fin _ _ hry)) (hs _ _)
  | lst xs =>
    revert hi;apply zFt e;clear e;intro kk e hi
    refine yY (ho.list I (xs:=_) rfl) fun a vs ep z11 Z hl hr=>?_;subst z11
    apply yF hi;intro u
    exact lst _ _ e a vs u hl hr
  | dct ks xs =>
    revert hi;apply zMq e;clear e;intro kk e hi
    refine zt (ho.sd I rfl) fun a vs z15 hd hr=>?_;subst z15
    apply qN hi;intro u
    exact sdd a vs _ _ u hd hr (y9.symm.trans e)
  | ref j =>
    replace e:zVm i (M.c j)=some r:=e
    generalize hc:M.c j=z34;induction z34 using MO.casesOn with
    | list xs =>
      rw [hc] at e
      revert hi;apply zFt e;clear e;intro kk e hi
      refine yY (ho.list I (zDT hc)) fun a vs ep z13 Z hl hr=>?_;subst z13
      apply yF hi;intro u
      exact lst _ _ e a vs u hl hr
    | sdict kvs =>
      rw [hc] at e
      revert hi;apply zMq e;clear e;intro kk e hi
      refine zt (ho.sd I (zOb hc)) fun a vs z17 hd hr=>?_;subst z17
      apply qN hi;intro u
      exact sdd a vs _ _ u hd hr e
    | tdict kvs =>
      rw [hc] at e
      revert hi;apply zTU e;clear e;intro ys e hi
      refine zAG (ho.td I (zQj hc)) fun i xs Z Z z19 hd hr=>?_;subst z19
      exact tdd _ xs _ _ _ hd hr hi e
    | pin o kvs =>
      rw [hc] at e
      revert hi;apply zTU e;clear e;intro ys e hi
      refine zAG (ho.td I (zcb hc)) fun i xs Z Z z20 hd hr=>?_;subst z20
      exact tdd _ xs _ _ _ hd hr hi e
  | _=>exact zW e
end
section
variable {Tp:World->Heap->Prop}{w:World}{d:Nat}{hz:Bool}{F:FD}{cs:Option Scope}{nm:List Str}
theorem Ct.room100 {Tp:Heap->Prop}{A:Around}{B:Heap}{outer:List Env}{fs:Frs}{L:Addr}(X:Ct Tp d hz A B outer fs L F):A.units+100<cLine:=by have:=X.units;lia
def zZ (a b:Den):Den:=fun st k kx=>qo st fun lo μ=>a st (fun o M=>b ⟨lo,M⟩ (fun i M=>oK (fun r=>k r M) .mk (qa M o i)) kx) kx
theorem zQ {value slice:Expr}{pos:Pos}{a b:Den}(ha:yC Tp w d hz F cs nm value a) (hb:yC Tp w d hz F cs nm slice b) (hs:∀o i,subscripted slice false o i=operate [o,i] (getItem o i)) :
    yC Tp w d hz F cs nm (.Subscript value slice pos) (zZ a b):=by
  constructor
  intro A B outer fs L C cl X hC g M m s lo I Lo k kx t Q E ok ex
  refine Subscript_ ((ha.go A B outer fs L C cl X hC g M m s lo I Lo _ kx t) _ _ (fun v x M1z g1z h1z tk1z e1z i1z r1 q1z=>?_) ex)
  refine (hb.go A B outer fs L C cl X hC g1z M1z m _ lo i1z (Lo.ext e1z) _ kx q1z) _ _ (fun u y M2z g2z h2z tk2 e2z i2z r2z q2z=>?_) fun e M' g' h' tk' ee=>ex e M' g' h' tk' (e1z.trans ee)
  refine xEA (qM q2z) fun z hz hk=>?_
  exact (zaJ (s:={ s with heap:=h2z,toks:=tk2 }) X.room100 i2z (r1.mono e2z) r2z hz hk hs).chain (e1z.trans e2z) ok ex
noncomputable def zEf:PV->Bool
  | .glob v=>handedIn v
  | _=>true
theorem zaK {g:Gh}{p:PV}{v:Value}(r:Rep g p v) (h:zEf p=true):handedIn v=true:=by
  induction p using PV.casesOn with
  | none=>rw [zDw r];rfl
  | bool b=>rw [zCx r];rfl
  | int i=>apply yF r;intro t;rfl
  | str x=>apply qN r;intro t;rfl
  | glob u =>
    obtain rfl:v=u:=r
    exact h
  | idct ks xs=>refine zIy r ?_;clear r;intro a _ _ z23 _;subst z23;rfl
  | tup _ | lst _ | ref _ | inst _ _ | dct _ _ | rng _ _ _=>apply zWt r trivial;intro a;rfl
structure zEK (Tp:World->Heap->Prop) (w:World) (C:Addr) (name:Str):Prop where
  K:∃K:Frag,(∀B,Tp w B->K.In B)/\plainGet K C name=true/\hasDictIn K C=true/\(∃attr,findIn K (.ref C) name=some attr/\noGet K attr=true) /\
    findIn K (.ref C) "__setattr__" = some (some (.builtin "object.__setattr__"))/\plainOver K C=true/\takerIn K C name=some none
noncomputable def zAd (C:List Addr) (M:Mem) (o:PV) (name:Str):Option PV:=match o with
  | .inst c i=>if c∈C then (asS (M.c i)).bind fun kvs=>atk kvs name else none
  | _=>none
theorem yx {C:List Addr}{M:Mem}{c:Addr}{i:Nat}{kvs:List (Str×PV)}{name:Str}{p:PV}(hC:c∈C) (h:M.c i=.sdict kvs) (e:atk kvs name=some p):zAd C M (.inst c i) name=some p:=by
  show (if c∈C then _ else _)=_;rw [if_pos hC,h];exact e
theorem zNq {w:World}{g:Gh}{name:Str}:∀{kvs:List (Str×PV)}{es:List DictEntry},KS g.P (kvs.map (·.1)) es->yJ g (kvs.map (·.2)) (es.map (·.val)) ->
    (∀p,atk kvs name=some p->∃v,getL name es=some (some v)/\Rep g p v)/\(atk kvs name=none->getL name es=some none):=by
  intro q0
  induction q0 with
  | nil =>
    intro es hk _
    simp only [List.map_nil] at hk;subst hk
    exact ⟨fun p e=>(nomatch e),fun Z=>rfl⟩
  | cons qq r ih =>
    obtain ⟨x,p⟩:=qq
    intro es hk hr
    rw [List.map_cons] at hk hr
    refine yl hk ?_;clear hk;intro e r' z25 z26 _ h3;subst z25;obtain ⟨t,ht⟩:=z26
    refine zt hr fun v r2 e2 hv hr=>?_
    rw [List.map_cons,List.cons.injEq] at e2
    refine xA e2 ?_;clear e2;intro z27 z28;subst z27;subst z28
    have ih:=ih h3 hr
    unfold atk getL
    rw [List.find?_cons,List.any_cons]
    have hs:e.key.isStr name=(x==name):=by rw [ht];rfl
    have hrk:e.refKey=false:=by unfold DictEntry.refKey;rw [ht]
    rw [hs,hrk,Bool.false_or]
    by_cases hx:x=name
    · subst hx
      rw [beq_self_eq_true]
      exact ⟨fun q e'=>(iEA e.val rfl (by simp at e';subst e';exact hv)),fun e'=>by simp at e'⟩
    · rw [beq_eq_false_iff_ne.mpr hx,if_neg hx]
      exact ih
theorem Inv.instAt {B:Heap}{L:Addr}{fs:Frs}{g:Gh}{M:Mem}{m:Str->Option Value}{h:Heap}{C:Addr}{i:Nat}{v:Value}{kvs:List (Str×PV)}(I:Inv w.params B L fs g M m h) (r:Rep g (.inst C i) v) (hc:M.c i=.sdict kvs) :
    ∃x es n,v=.ref x/\i<g.n/\g.led (g.ρ i)=some (dictOf es n)/\InstAt h x (instObj C (g.ρ i)) C (some (dictOf es n))/\(kvs.map (·.1)).Nodup/\KS g.P (kvs.map (·.1)) es/\yJ g (kvs.map (·.2)) (es.map (·.val)):=by
  refine zXZ r ?_;clear r;intro x z29 f l hi;subst z29
  refine qh (I.cell i hi) fun o e Z c=>?_
  rw [hc] at c
  refine yl c ?_;clear c;intro es n z30 nd hk hr;subst z30
  exact (zCZ x es n rfl hi e ⟨(I.led _ _ l).1,rfl,rfl,(I.led _ _ e).1⟩ nd hk hr)
theorem zSe {A:Around}{B:Heap}{L:Addr}{fs:Frs}{g:Gh}{M:Mem}{m:Str->Option Value}{s:Shared}{k:PV->Mem->Prop}{kx:Mem->Prop}{Cs:List Addr}{name:Str}{o p:PV}{vo:Value}{expr:Bool}(ht:Tp w B) (HA:∀C∈Cs,zEK Tp w C name)
    (I:Inv w.params B L fs g M m s.heap) (ho:Rep g o vo) (e:zAd Cs M o name=some p) (hh:zEf p=true) (hk:k p M):Go Rep w A B L fs g m s (getAttr vo name expr) k kx:=by
  intro Q E ok ex
  induction o using PV.casesOn with
  | inst c i =>
    refine zYa e fun hC e=>?_
    refine xEA (Option.bind_eq_some_iff.mp e) fun kvs hc e=>?_
    have hc:=zEZ hc
    · · refine zOk ((HA c hC).K) fun K hK h1 h2 z31 Z=>?_;obtain ⟨attr,h3,h4⟩:=z31
        refine zBF (I.instAt ho hc) fun x es n z32 hi hle hI nd hks hr=>?_;subst z32
        refine xEA ((zNq (w:=w) hks hr).1 p e) fun v hv hrv=>?_
        exact get_own I.fr (hK B ht) hI h1 h2 h3 h4 hv (zaK hrv hh) (ok v p M g s.heap _ (Ext.refl g) I hrv hk)
  | _=>exact zW e
def zq (Cs:List Addr) (a:Den) (name:Str):Den:=fun st k kx=>a st (fun o M=>oK (fun p=>aK (k p M) .mk (zEf p)) .mk (zAd Cs M o name)) kx
theorem zd {Cs:List Addr}{value:Expr}{name:Str}{pos:Pos}{a:Den}(HA:∀C∈Cs,zEK Tp w C name) (ha:yC Tp w d hz F cs nm value a)
    (he:∀env,eval (.Attribute value name pos) env=(do
      let o ← eval value env
      standAt pos.atName
      let r ← holding [o] (getAttr o name true)
      letTemporaryGo value o r
      pure r)):yC Tp w d hz F cs nm (.Attribute value name pos) (zq Cs a name):=by
  constructor
  intro A B outer fs L C cl X hC g M m s lo I Lo k kx t Q E ok ex
  refine Attribute_any_ ((ha.go A B outer fs L C cl X hC g M m s lo I Lo _ kx t) _ _ (fun v x M1z g1z h1z tk1z e1z i1z r1 q1z=>?_) ex) (he _)
  refine xEA (qM q1z) fun p hp q1z=>?_
  refine xA (zHI q1z) fun hh hk=>?_
  exact (zSe (s:={ s with heap:=h1z,toks:=tk1z }) X.top HA i1z r1 hp hh hk).chain e1z ok ex
end

def zDb (Tp:World->Heap->Prop) (w:World):Prop:=∀B,Tp w B->∃o,B.get? sysModules=some o
theorem yJ.set {g:Gh}:∀{xs:List PV}{vs:List Value}(n:Nat) {p:PV}{v:Value},yJ g xs vs->Rep g p v->yJ g (xs.set n p) (vs.set n v)
  | [],_,n,_,_,h,_=>by subst h;rfl
  | x::xs,_,n,p,v,h,hp=>by
    refine zt h ?_;clear h;intro u r z1 hu hr;subst z1
    induction n with
    | zero=>exact (yS v r rfl hp hr)
    | succ n=>exact (yS u _ rfl hu (hr.set n hp))
theorem yJ.erase {g:Gh}:∀{xs:List PV}{vs:List Value}(n:Nat),yJ g xs vs->yJ g (xs.eraseIdx n) (vs.eraseIdx n)
  | [],_,n,h=>by subst h;rfl
  | x::xs,_,n,h=>by
    refine zt h ?_;clear h;intro u r z2 hu hr;subst z2
    induction n with
    | zero=>exact hr
    | succ n=>exact (yS u _ rfl hu (hr.erase n))
theorem yJ.reverse {g:Gh}:∀{xs:List PV}{vs:List Value},yJ g xs vs->yJ g xs.reverse vs.reverse
  | [],_,h=>by subst h;rfl
  | x::xs,_,h=>by
    refine zt h ?_;clear h;intro u r z3 hu hr;subst z3
    rw [List.reverse_cons,List.reverse_cons]
    exact hr.reverse.append (yS u [] rfl hu rfl)
theorem yJ.take {g:Gh}:∀{xs:List PV}{vs:List Value}(n:Nat),yJ g xs vs->yJ g (xs.take n) (vs.take n)
  | [],_,n,h=>by subst h;simp;rfl
  | x::xs,_,n,h=>by
    refine zt h ?_;clear h;intro u r z4 hu hr;subst z4
    induction n with
    | zero=>rfl
    | succ n=>exact (yS u _ rfl hu (hr.take n))
theorem yJ.one {g:Gh}{p:PV}{v:Value}(h:Rep g p v):yJ g [p] [v]:=(yS v [] rfl h rfl)
theorem zCP {g:Gh}{p:PV}{vs:List Value}(h:yJ g [p] vs):∃v,vs=[v]/\Rep g p v:=by
  refine zt h ?_;clear h;intro v r z6 hv hr;subst z6
  subst hr
  exact (iEA v rfl hv)
theorem zBB {g:Gh}{p q:PV}{vs:List Value}(h:yJ g [p,q] vs):∃v u,vs=[v,u]/\Rep g p v/\Rep g q u:=by
  refine zt h ?_;clear h;intro v r z7 hv hr;subst z7
  refine xEA (zCP hr) fun u z8 hu=>?_;subst z8
  exact (yS v u rfl hv hu)
theorem zRo {g:Gh}{p q x:PV}{vs:List Value}(h:yJ g [p,q,x] vs):∃v u z,vs=[v,u,z]/\Rep g p v/\Rep g q u/\Rep g x z:=by
  refine zt h ?_;clear h;intro v r z9 hv hr;subst z9
  refine zt (zBB hr) fun u z z10 hu hz=>?_;subst z10
  exact (qi v u z rfl hv hu hz)
theorem zWs {g:Gh}{vs:List Value}(h:yJ g [] vs):vs=[]:=by exact h
section
variable {w:World}{A:Around}{B:Heap}{L:Addr}{fs:Frs}{g:Gh}{M:Mem}{m:Str->Option Value}{s:Shared}{k:PV->Mem->Prop}{kx:Mem->Prop}{P:Params}{h:Heap}{p:PV}{v:Value}
theorem Inv.ref {i:Nat}(I:Inv P B L fs g M m h) (r:Rep g (.ref i) v):v=.ref (g.ρ i)/\i<g.n:=by exact r
theorem Inv.listUpd {i:Nat}{vs us:List Value}{ep:Nat}{ys:List PV}{f:Array Value->Array Value}(I:Inv P B L fs g M m h) (hi:i<g.n) (e:g.led (g.ρ i)=some (zm "list" vs ep)) (hf:f vs.toArray=us.toArray) (r:yJ g ys us) :
    ∃g',Inv P B L fs g' (M.set i (.list ys)) m (h.update (g.ρ i) (Obj.mapSeq f))/\Ext NoX g g':=by
  have ho:=(I.led _ _ e).1
  have:(h.update (g.ρ i) (Obj.mapSeq f)).get? (g.ρ i)=some (zm "list" us (if us.toArray.size==vs.toArray.size then ep else ep+1)):=by
    rw [Heap.get?_update_self _ ho rfl]
    show some ({ cls:=.type "list",dict:=none,data:=.seq (f vs.toArray) (if (f vs.toArray).size==vs.toArray.size then ep else ep+1),slots:=#[] }:Obj)=_
    rw [hf]
  exact ⟨_,I.putC hi (Heap.SameBut.update ..) this (zES us _ rfl r)⟩
end
section
variable {Tp:World->Heap->Prop}{w:World}{d:Nat}{hz:Bool}{F:FD}{cs:Option Scope}{nm:List Str}
theorem zY (id:String):zBP Tp w (.builtin id):=fun Z Z Z Z=>(iEA .machine (.inr (.inl rfl)) (Looks.of_pure rfl))
theorem yt (id:String):zBP Tp w (.type id):=fun Z Z Z Z=>(iEA .machine (.inr (.inl rfl)) (Looks.of_pure rfl))
structure zQt (Tp:World->Heap->Prop) (w:World) (d:Nat) (name:Str) (sel:PV->Mem->Option zh):Prop where
  ok:∀o M tf,sel o M=some tf->∃f,zBP Tp w f/\yN Tp w d f tf/\∀{A:Around}{B:Heap}{L:Addr}{fs:Frs}{g:Gh}{m:Str->Option Value}{s:Shared},Tp w B->Inv w.params B L fs g M m s.heap ->
    ∀vo pl (Q:Value×List Value->Shared->Prop) (E:Value->Shared->Prop),Rep g o vo->Q (f,[vo]) s->wpAny (model PG w) A (getMethod vo name pl) Q E s
def yc (a:Den) (sel:PV->Mem->Option zh) (r:zDD):Den:=fun st k kx=>qo st fun lo μ=>a st (fun o M=>oK (fun tf=>r ⟨lo,M⟩ (fun ps M=>tf (o::ps) M k kx) kx) .mk (sel o M)) kx
theorem yT {o:Expr}{name:Str}{apos pos:Pos}{es:List Expr}{a:Den}{sel:PV->Mem->Option zh}{r:zDD}(HM:zQt Tp w d name sel) (ha:yC Tp w d true F cs nm o a) (hr:zLN Tp w d true F cs nm es r) (hA:zHr es)
    (he:∀env,∃pl,eval (.Call (.Attribute o name apos) es [] pos) env=(do
      let ov ← eval o env
      standAt apos.atName
      let (f,first) ← holding [ov] (getMethod ov name pl)
      callWith pos f first (backTo pos (starEach es env)) (backToKw pos (keywordEach [] env)))) :
    yC Tp w d true F cs nm (.Call (.Attribute o name apos) es [] pos) (yc a sel r):=by
  constructor
  intro A B outer fs L C cl X hC g M m s lo I Lo k kx t Q E ok ex
  refine xE (he (yL F cs L C cl)) fun pl he=>?_
  refine methodCall_KW ((ha.go A B outer fs L C cl X hC g M m s lo I Lo _ kx t) _ _ (fun u p M1z g1z h1z tk1z e1z i1z r1 q1z=>?_) ex) he
  refine xEA (qM q1z) fun tf hs t'=>?_
  refine qh (HM.ok p M1z tf hs) fun f K hf hg=>?_
  refine hg (s:={ s with heap:=h1z,toks:=tk1z }) X.top i1z u pl _ _ r1 ?_
  exact (zFq (fp:=[p]) (s:={ s with heap:=h1z,toks:=tk1z }) X hC K hr hf (hA.1 _ _) (hA.2.imp id fun ⟨e,r,a,b⟩=>⟨e,r,a,b _⟩) i1z (Lo.ext e1z) ⟨u,[],rfl,r1,rfl⟩ t').chain e1z ok ex
noncomputable def isL (M:Mem):PV->Option (Nat×List PV)
  | .ref i=>(asL (M.c i)).map fun xs=>(i,xs)
  | _=>none
theorem zHC {M:Mem}{i:Nat}{xs:List PV}(h:M.c i=.list xs):isL M (.ref i)=some (i,xs):=congrArg (fun c=>(asL c).map fun xs=>(i,xs)) h
theorem zFu {M:Mem}{p:PV}{i:Nat}{xs:List PV}(e:isL M p=some (i,xs)):p=.ref i/\M.c i=.list xs:=by
  induction p using PV.casesOn with
  | ref j =>
    refine xEA (Option.map_eq_some_iff.mp e) fun ys hy z=>?_
    cases z
    exact ⟨rfl,zEY hy⟩
  | _=>exact zW e
theorem zIY {name:Str}{id:String}{M:Mem}{o:PV}{x:Nat×List PV}(e:isL M o=some x) (slot:Slot "list" name id) (hty:typeOf (.builtin id)=pure (.type "method_descriptor")) {A:Around}{B:Heap}{L:Addr}{fs:Frs}{g:Gh}{m:Str->Option Value}{s:Shared}
    (I:Inv w.params B L fs g M m s.heap) (vo:Value) (pl:Sem Bool) (Q:Value×List Value->Shared->Prop) (E:Value->Shared->Prop) (r:Rep g o vo) (h:Q (.builtin id,[vo]) s):wpAny (model PG w) A (getMethod vo name pl) Q E s:=by
  obtain ⟨i,xs⟩:=x
  refine xA (zFu e) fun z11 hc=>?_;subst z11
  refine xA (I.ref r) fun z12 hi=>?_;subst z12
  refine zt (I.list hi hc) fun vs ep l hl Z=>?_
  exact getMethod_builtin hl.typeIs PySem.F.plainAttrs_list slot hty (fun a e=>by cases e;exact (iEA _ ((I.led _ _ l).1) rfl)) h
def zCq:zh:=fun ps M k Z=>∃o x i xs,ps=[o,x]/\isL M o=some (i,xs)/\xs.length<=1000/\k .none (M.set i (.list (xs++[x])))
theorem zRz:yN Tp w d (.builtin "list.append") zCq:=by
  constructor
  intro A B outer fs L Fc X g M m s I vs ps r k' kx t Q E ok ex
  refine zQs t ?_;clear t;intro o x i xs z13 e hlen hk;subst z13
  refine zt (zBB r) fun vo vx z14 ro rx=>?_;subst z14
  refine xA (zFu e) fun z15 hc=>?_;subst z15
  refine xA (I.ref ro) fun z16 hi=>?_;subst z16
  refine zt (I.list hi hc) fun us ep l hl hr=>?_
  have hz:us.toArray.size<=sizeLine:=by rw [List.size_toArray,hr.length];exact qm hlen
  refine call_meets PySem.F.slot_list_append (iEA _ ((I.led _ _ l).1) rfl) PySem.F.entry_list_append (PySem.F.args_list_append_2 _ _) (list_append _ us.toArray ep vx hz) ⟨(I.led _ _ l).1,?_⟩
  refine xEA (I.listUpd (f:=fun a=>a.push vx) (us:=us++[vx]) hi l (by simp) (hr.append (yJ.one rx))) fun g' J EX=>?_
  exact ok .none .none _ g' _ s.toks EX J rfl hk
theorem zBu:zQt Tp w d "append" (fun o M=>(isL M o).map fun Z=>zCq) where
  ok o M tf e:=by
    refine xEA (Option.map_eq_some_iff.mp e) fun x hx z17=>?_;subst z17
    exact (q6 (.builtin "list.append") (zY _) zRz (fun Z I vo pl Q E r h=>zIY hx PySem.F.slot_list_append PySem.F.type_list_append I vo pl Q E r h))
def zOj:zh:=fun ps M k Z=>(∃o i xs x,ps=[o]/\isL M o=some (i,xs)/\xs.length<=1000/\xs[xs.length-1]?=some x/\k x (M.set i (.list (xs.eraseIdx (xs.length-1))))) \/
  (∃o i xs x j,ps=[o,.int j]/\isL M o=some (i,xs)/\xs.length<=1000/\0<=j/\j<xs.length/\xs[j.toNat]?=some x/\k x (M.set i (.list (xs.eraseIdx j.toNat))))
theorem zVb {us:List Value}{n:Nat}:us.toArray.eraseIdxIfInBounds n=(us.eraseIdx n).toArray:=by
  rw [Array.eraseIdxIfInBounds]
  split
  · simp
  · rename_i h
    rw [List.eraseIdx_of_length_le (by simpa using h)]
theorem zYz:yN Tp w d (.builtin "list.pop") zOj:=by
  constructor
  intro A B outer fs L Fc X g M m s I vs ps r k' kx t Q E ok ex
  rcases t with ⟨o,i,xs,x,rfl,e,hlen,hx,hk⟩ | ⟨o,i,xs,x,j,rfl,e,hlen,j0,j1,hx,hk⟩
  · refine xEA (zCP r) fun vo z18 ro=>?_;subst z18
    refine xA (zFu e) fun z19 hc=>?_;subst z19
    refine xA (I.ref ro) fun z20 hi=>?_;subst z20
    refine zt (I.list hi hc) fun us ep l hl hr=>?_
    have hz:us.toArray.size<=sizeLine:=by rw [List.size_toArray,hr.length];exact qm hlen
    refine xEA (hr.get _ hx) fun y hy ry=>?_
    have hy':us.toArray[us.toArray.size-1]?=some y:=by rw [List.size_toArray,hr.length];simpa using hy
    refine call_meets PySem.F.slot_list_pop (iEA _ ((I.led _ _ l).1) rfl) PySem.F.entry_list_pop (PySem.F.args_list_pop_1 _) (PySem.MeetsSeq.list_pop_last _ us.toArray ep y hy' hz) ⟨(I.led _ _ l).1,?_⟩
    refine xEA (I.listUpd (f:=fun a=>a.eraseIdxIfInBounds (us.toArray.size-1)) (us:=us.eraseIdx (xs.length-1)) hi l (by rw [zVb,List.size_toArray,hr.length]) (hr.erase _)) fun g' J EX=>?_
    exact ok y x _ g' _ s.toks EX J (ry.mono EX) hk
  · refine zt (zBB r) fun vo vj z21 ro rj=>?_;subst z21
    apply yF rj;intro t
    refine xA (zFu e) fun z23 hc=>?_;subst z23
    refine xA (I.ref ro) fun z24 hi=>?_;subst z24
    refine zt (I.list hi hc) fun us ep l hl hr=>?_
    have hz:us.toArray.size<=sizeLine:=by rw [List.size_toArray,hr.length];exact qm hlen
    refine xEA (hr.get _ hx) fun y hy ry=>?_
    refine call_meets PySem.F.slot_list_pop (iEA _ ((I.led _ _ l).1) rfl) PySem.F.entry_list_pop (PySem.F.args_list_pop_2 _ _) (PySem.MeetsSeq.list_pop_at _ us.toArray ep j t j.toNat y (fitsIndex_of j0 (by lia)) (seqIndex_of j0 (by rw [List.size_toArray,hr.length];exact j1)) (by simpa using hy) hz) ⟨(I.led _ _ l).1,?_⟩
    refine xEA (I.listUpd (f:=fun a=>a.eraseIdxIfInBounds j.toNat) (us:=us.eraseIdx j.toNat) hi l zVb (hr.erase _)) fun g' J EX=>?_
    exact ok y x _ g' _ s.toks EX J (ry.mono EX) hk
theorem zHb:zQt Tp w d "pop" (fun o M=>(isL M o).map fun Z=>zOj) where
  ok o M tf e:=by
    refine xEA (Option.map_eq_some_iff.mp e) fun x hx z25=>?_;subst z25
    exact (q6 (.builtin "list.pop") (zY _) zYz (fun Z I vo pl Q E r h=>zIY hx PySem.F.slot_list_pop PySem.F.type_list_pop I vo pl Q E r h))
def zGF:zh:=fun ps M k Z=>∃o i xs,ps=[o]/\isL M o=some (i,xs)/\xs.length<=1000/\k .none (M.set i (.list xs.reverse))
theorem zQc:yN Tp w d (.builtin "list.reverse") zGF:=by
  constructor
  intro A B outer fs L Fc X g M m s I vs ps r k' kx t Q E ok ex
  refine yY t ?_;clear t;intro o i xs z26 e hlen hk;subst z26
  refine xEA (zCP r) fun vo z27 ro=>?_;subst z27
  refine xA (zFu e) fun z28 hc=>?_;subst z28
  refine xA (I.ref ro) fun z29 hi=>?_;subst z29
  refine zt (I.list hi hc) fun us ep l hl hr=>?_
  have hz:us.toArray.size<=sizeLine:=by rw [List.size_toArray,hr.length];exact qm hlen
  refine call_meets PySem.F.slot_list_reverse (iEA _ ((I.led _ _ l).1) rfl) PySem.F.entry_list_reverse (PySem.F.args_list_reverse_1 _) (AutoSeq1.list_reverse_list_0 _ us.toArray ep hz) ⟨(I.led _ _ l).1,?_⟩
  refine xEA (I.listUpd (f:=fun a=>a.reverse) (us:=us.reverse) hi l (by simp) hr.reverse) fun g' J EX=>?_
  exact ok .none .none _ g' _ s.toks EX J rfl hk
theorem zOD:zQt Tp w d "reverse" (fun o M=>(isL M o).map fun Z=>zGF) where
  ok o M tf e:=by
    refine xEA (Option.map_eq_some_iff.mp e) fun x hx z30=>?_;subst z30
    exact (q6 (.builtin "list.reverse") (zY _) zQc (fun Z I vo pl Q E r h=>zIY hx PySem.F.slot_list_reverse PySem.F.type_list_reverse I vo pl Q E r h))
noncomputable def isD (M:Mem) (o:PV):Bool:=(sdP M o).isSome||(tdP M o).isSome
def zSF:zh:=fun ps M k Z=>(∃o x kvs,ps=[o,.str x]/\sdP M o=some kvs/\k ((atk kvs x).getD .none) M)\/(∃o ys ks kvs,ps=[o,.tup ys]/\zDK ys=some ks/\tdP M o=some kvs/\k ((atk kvs ks).getD .none) M)
theorem zMe {B:Heap}(HS:∃o,B.get? sysModules=some o) {a:Addr}(h:B.get? a=none):(a==sysModules)=false:=by
  refine xE HS fun o ho=>?_
  refine beq_eq_false_iff_ne.mpr fun e=>?_
  rw [e,ho] at h;exact zCR h
theorem Inv.cellNo {P:Params}{B:Heap}{L:Addr}{fs:Frs}{g:Gh}{M:Mem}{m:Str->Option Value}{h:Heap}(I:Inv P B L fs g M m h) {i:Nat}(hi:i<g.n):B.get? (g.ρ i)=none:=by
  refine qh (I.cell i hi) fun o e f Z=>?_
  exact (I.led _ _ e).2.2 f
theorem Rep.sdNo {P:Params}{B:Heap}{L:Addr}{fs:Frs}{g:Gh}{M:Mem}{m:Str->Option Value}{h:Heap}(HS:∃o,B.get? sysModules=some o) (I:Inv P B L fs g M m h) {p:PV}{a:Addr}{kvs:List (Str×PV)}(r:Rep g p (.ref a)) (e:sdP M p=some kvs):(a==sysModules)=false:=by
  induction p using PV.casesOn with
  | dct ks xs=>refine zHq r.isDct fun a' Z h1 Z Z Z Z h2=>?_;cases h1;exact h2
  | ref i=>refine xA (I.ref r) fun h1 hi=>?_;cases h1;exact zMe HS (I.cellNo hi)
  | _=>exact zW e
theorem zYy (HS:zDb Tp w):yN Tp w d (.builtin "dict.get") zSF:=by
  constructor
  intro A B outer fs L Fc X g M m s I vs ps r k' kx t Q E ok ex
  have hu:=X.room100
  rcases t with ⟨o,x,kvs,rfl,e,hk⟩ | ⟨o,ys,ks,kvs,rfl,hys,e,hk⟩
  · refine zt (zBB r) fun vo vx z31 ro rx=>?_;subst z31
    apply qN rx;intro t
    refine zt (ro.sd I e) fun a us z33 hd hr=>?_;subst z33
    refine call_meetsIn PySem.F.slot_dict_get hd.typeIs PySem.F.entry_dict_get (PySem.F.args_dict_get_2 _ _) (meets_dict_get (strKind PG w) _ (strKind_is PG w x t) (ro.sdNo (HS B X.top) I e)) (iEA _ hd.mapOf ?_)
    rw [zDB]
    have ha:=hr.atk x
    generalize hx:atk kvs x=z41;induction z41 using Option.casesOn with
    | none =>
      rw [hx] at hk
      rw [ha.1 hx]
      exact ok .none .none M g _ _ (Ext.refl g) I rfl hk
    | some p =>
      rw [hx] at hk
      refine xEA (ha.2 p hx) fun v hv rv=>?_
      rw [hv]
      exact ok v p M g _ _ (Ext.refl g) I rv hk
  · refine zt (zBB r) fun vo vx z34 ro rx=>?_;subst z34
    obtain rfl:=zGM hys
    refine xE (zCh rx trivial) fun b z35=>?_;subst z35
    refine zAG (ro.td I e) fun i us z36 hi z37 hd hr=>?_;subst z36;subst z37
    refine call_meetsIn PySem.F.slot_dict_get hd.typeIs PySem.F.entry_dict_get (PySem.F.args_dict_get_2 _ _) (meetsH_dict_get (tupleKind (intKind PG w)) _ b (zMe (HS B X.top) (I.cellNo hi))) (zRa (by show A.units+1<cLine;lia) ks us (zLJ I rx) hd ?_)
    have ha:=hr.at ks
    generalize hx:atk kvs ks=z42;induction z42 using Option.casesOn with
    | none =>
      rw [hx] at hk
      rw [ha.1 hx]
      exact ok .none .none M g _ _ (Ext.refl g) I rfl hk
    | some p =>
      rw [hx] at hk
      refine xEA (ha.2 p hx) fun v hv rv=>?_
      rw [hv]
      exact ok v.2 p M g _ _ (Ext.refl g) I rv hk
theorem zKo (HS:zDb Tp w):zQt Tp w d "get" (fun o M=>if isD M o=true then some zSF else none) where
  ok o M tf e:=by
    split at e
    · rename_i hD
      refine sE e ?_;clear e;rintro rfl
      refine (q6 (.builtin "dict.get") (zY _) (zYy HS) (fun {A B L fs g m s} _ I vo pl Q E r h=>?_))
      unfold isD at hD
      rcases Bool.or_eq_true_iff.mp hD with hD | hD
      · refine xE (Option.isSome_iff_exists.mp hD) fun kvs e=>?_
        refine zt (r.sd I e) fun a us z38 hd hr=>?_;subst z38
        exact getMethod_builtin hd.typeIs PySem.F.plainAttrs_dict PySem.F.slot_dict_get PySem.F.type_dict_get hd.mapOf.noDict h
      · refine xE (Option.isSome_iff_exists.mp hD) fun kvs e=>?_
        refine zAG (r.td I e) fun i us z39 hi z40 hd hr=>?_;subst z39;subst z40
        exact getMethod_builtin hd.typeIs PySem.F.plainAttrs_dict PySem.F.slot_dict_get PySem.F.type_dict_get (dictOfH_noDict hd) h
    · exact zW e
end

noncomputable def zDc {α β:Type}(f:α->Option β):List α->Option (List β)
  | []=>some []
  | x::r=>(f x).bind fun y=>(zDc f r).map (y::·)
noncomputable def zXt:PV->Option PyData
  | .none=>some .none
  | .bool b=>some (.bool b)
  | .int i=>some (.int i)
  | .str x=>if PyData.strOk x=true then some (.str x) else none
  | _=>none
noncomputable def yi (M:Mem):Nat->PV->Option PyData
  | 0,p=>zXt p
  | n+1,p=>match p with
    | .tup xs=>(zDc (yi M n) xs).map .tuple
    | .lst xs=>(zDc (yi M n) xs).map .list
    | .ref i=>(asL (M.c i)).bind fun xs=>(zDc (yi M n) xs).map .list
    | p=>zXt p
section
variable {w:World}{A:Around}{B:Heap}{L:Addr}{fs:Frs}{g:Gh}{M:Mem}{m:Str->Option Value}{s:Shared}{k:PV->Mem->Prop}{kb:Bool->Mem->Prop}{kx:Mem->Prop}{P:Params}{h:Heap}{p:PV}{v:Value}
theorem zJy {n:Nat}{d:PyData}(r:Rep g p v) (e:zXt p=some d):(∃as,Reads h v d as)/\d.canLay0=true/\d.depth<=n:=by
  induction p using PV.casesOn with
  | none=>refine sE e ?_;clear e;rintro rfl;rw [zDw r];exact ⟨⟨_,.none⟩,rfl,Nat.zero_le _⟩
  | bool b=>refine sE e ?_;clear e;rintro rfl;rw [zCx r];exact ⟨⟨_,.bool _⟩,rfl,Nat.zero_le _⟩
  | int i=>refine sE e ?_;clear e;rintro rfl;apply yF r;intro t;exact ⟨⟨_,.int _ _⟩,rfl,Nat.zero_le _⟩
  | str x =>
    apply qN r;intro t
    refine zJQ e fun ho e=>?_;subst e;exact ⟨⟨_,.str _ _⟩,ho,Nat.zero_le _⟩
  | _=>exact zW e
theorem zAp (I:Inv P B L fs g M m h) (n:Nat):∀(p:PV) (v:Value) (d:PyData),Rep g p v->yi M n p=some d->(∃as,Reads h v d as)/\d.canLay0=true/\d.depth<=n:=by
  induction n with
  | zero=>exact fun p v d r e=>zJy r e
  | succ n ih =>
    have many:∀(xs:List PV) (vs:List Value) (ds:List PyData),yJ g xs vs->zDc (yi M n) xs=some ds->(∃as,ReadsAll h vs ds as)/\PyData.canLayAll0 ds=true/\PyData.depthAll ds<=n:=by
      intro xs
      induction xs with
      | nil =>
        intro vs ds r e
        rw [zWs r]
        refine sE e ?_;clear e;rintro rfl
        exact ⟨⟨_,.nil⟩,rfl,Nat.zero_le _⟩
      | cons x xs ihx =>
        intro vs ds r e
        refine zt r ?_;clear r;intro u r' z1 hu hr;subst z1
        refine xEA (Option.bind_eq_some_iff.mp e) fun y hy e=>?_
        refine xEA (Option.map_eq_some_iff.mp e) fun ys hys z2=>?_;subst z2
        refine xAA (ih _ _ _ hu hy) fun z3 c dd=>?_;obtain ⟨a,ra⟩:=z3
        refine xAA (ihx _ _ hr hys) fun z4 c2 dd2=>?_;obtain ⟨b,rb⟩:=z4
        exact ⟨⟨_,.cons ra rb⟩,Bool.and_eq_true_iff.mpr ⟨c,c2⟩,Nat.max_le.mpr ⟨dd,dd2⟩⟩
    have lst:∀a (vs:List Value) ep xs d,g.led a=some (zm "list" vs ep)->yJ g xs vs->(zDc (yi M n) xs).map PyData.list=some d->(∃as,Reads h (.ref a) d as)/\d.canLay0=true/\d.depth<=n+1:=fun a vs ep xs d l hr e=>by
      refine xEA (Option.map_eq_some_iff.mp e) fun ds hds z10=>?_;subst z10
      refine xAA (many xs vs ds hr hds) fun z12 c dd=>?_;obtain ⟨as,ra⟩:=z12
      exact ⟨⟨_,reads_list_at (vs:=vs.toArray) (I.led _ _ l).1 rfl rfl (by simpa using ra)⟩,c,Nat.succ_le_succ dd⟩
    intro p v d r e
    induction p using PV.casesOn with
    | tup xs =>
      refine xEA (Option.map_eq_some_iff.mp e) fun ds hds z7=>?_;subst z7
      refine zAG (r.isTup I) fun a vs z8 Z l Z hr=>?_;subst z8
      refine xAA (many xs vs ds hr hds) fun z9 c dd=>?_;obtain ⟨as,ra⟩:=z9
      exact ⟨⟨_,reads_tuple_at (vs:=vs.toArray) (I.led _ _ l).1 rfl rfl (by simpa using ra)⟩,c,Nat.succ_le_succ dd⟩
    | lst xs =>
      refine zEs (r.isLst I) fun a vs ep z11 Z l Z hr=>?_;subst z11
      exact lst a vs ep xs d l hr e
    | ref i =>
      refine xEA (Option.bind_eq_some_iff.mp e) fun xs hc e=>?_
      refine xA (I.ref r) fun z14 hi=>?_;subst z14
      refine zt (I.list hi (zEY hc)) fun vs ep l Z hr=>?_
      exact lst _ vs ep xs d l hr e
    | _=>exact zJy r e
noncomputable def eqP (a b:PV) (M:Mem):Option Bool:=(yi M 8 a).bind fun da=>(yi M 8 b).map fun db=>PyData.eqv da db
noncomputable def inS (dx:PyData):PyData->Option Bool
  | .list ys=>some (ys.any fun y=>PyData.eqv y dx)
  | .tuple ys=>some (ys.any fun y=>PyData.eqv y dx)
  | _=>none
noncomputable def inD (x c:PV) (M:Mem):Option Bool:=(yi M 8 x).bind fun dx=>(yi M 9 c).bind (inS dx)
noncomputable def inP (x c:PV) (M:Mem):Option Bool:=match c with
  | .dct ks xs=>(zQg x).bind fun y=>some (atk (ks.zip xs) y).isSome
  | .idct ks xs=>(zJP x).bind fun y=>some (atk (ks.zip xs) y).isSome
  | .ref i=>(asS (M.c i)).elim (inD x (.ref i) M) fun kvs=>(zQg x).bind fun y=>some (atk kvs y).isSome
  | c=>inD x c M
noncomputable def zdL (op:CmpOp) (a b:PV) (M:Mem):Option Bool:=match op with
  | .Eq=>eqP a b M
  | .NotEq=>(eqP a b M).map not
  | .In=>inP a b M
  | .NotIn=>(inP a b M).map not
  | _=>none
def yw (op:CmpOp) (a b:PV) (M:Mem):Option Bool:=hid (zdL op a b M)
theorem zGT {d:PyData}(h1:d.canLay0=true) (h2:d.depth<=9):SeqAt.shaped d=true:=by
  unfold SeqAt.shaped;rw [h1,Bool.true_and];exact decide_eq_true (by lia)
theorem zVv {neg:Bool}{a b:PV}{va vb:Value}{r:Bool}(hroom:A.units+100<cLine) (I:Inv w.params B L fs g M m s.heap) (ha:Rep g a va) (hb:Rep g b vb) (e:inD a b M=some r) {Q:Value->Shared->Prop}{E:Value->Shared->Prop}
    (hq:Q (.bool (if neg then !r else r)) s):wpAny (model PG w) A (compareOp (if neg then .NotIn else .In) va vb) Q E s:=by
  refine xEA (Option.bind_eq_some_iff.mp e) fun da hda e=>?_
  refine xEA (Option.bind_eq_some_iff.mp e) fun db hdb e=>?_
  refine xAA (zAp I 8 a va da ha hda) fun z16 c1 d1=>?_;obtain ⟨as,ra⟩:=z16
  refine xAA (zAp I 9 b vb db hb hdb) fun z17 c2 d2=>?_;obtain ⟨bs,rb⟩:=z17
  induction db using PyData.casesOn with
  | list ys =>
    refine sE e ?_;clear e;rintro rfl
    have hm:=Nat.min_le_right (PyData.depthAll ys) da.depth
    induction neg using Bool.casesOn
    · exact SeqAt.in_list_reads rb ra c2 c1 (by lia) hq
    · exact SeqAt.notIn_list_reads rb ra c2 c1 (by lia) hq
  | tuple ys =>
    refine sE e ?_;clear e;rintro rfl
    have hm:=Nat.min_le_right (PyData.depthAll ys) da.depth
    induction neg using Bool.casesOn
    · exact SeqAt.in_tuple_reads rb ra c2 c1 (by lia) hq
    · exact SeqAt.notIn_tuple_reads rb ra c2 c1 (by lia) hq
  | _=>exact zW e
theorem zVw {neg:Bool}{a b:PV}{va vb:Value}{r:Bool}(HS:∃o,B.get? sysModules=some o) (hroom:A.units+100<cLine) (I:Inv w.params B L fs g M m s.heap) (ha:Rep g a va) (hb:Rep g b vb) (e:inP a b M=some r) {Q:Value->Shared->Prop}{E:Value->Shared->Prop}
    (hq:∀tk,Q (.bool (if neg then !r else r)) { s with toks:=tk }):wpAny (model PG w) A (compareOp (if neg then .NotIn else .In) va vb) Q E s:=by
  have sdd:∀(a:Addr) (vs:List (Str×Value)) (kvs:List (Str×PV)) (x:Str) (t:Tok),s.heap.DictOf (strKind PG w) a vs->zBi g kvs vs->(a==sysModules)=false->(atk kvs x).isSome=r ->
      wpAny (model PG w) A (compareOp (if neg then .NotIn else .In) (.str x t) (.ref a)) Q E s:=fun a vs kvs x t hd hr hsys e=>by
    have hx:(valueAt vs x).isSome=r:=by
      rw [zDB,← e]
      have:=hr.atk x
      generalize q:atk kvs x=z69;induction z69 using Option.casesOn with
      | none=>rw [this.1 q];rfl
      | some p=>refine xEA (this.2 p q) fun v hv Z=>?_;rw [hv];rfl
    induction neg using Bool.casesOn
    · exact wpAny_in_of (strKind_is PG w x t) hsys hd.mapOf (by rw [hx];exact hq _)
    · exact wpAny_notIn_of (strKind_is PG w x t) hsys hd.mapOf (by rw [hx];exact hq _)
  induction b using PV.casesOn with
  | dct ks xs =>
    revert ha;apply zMq e;clear e;intro y e ha
    refine sE e ?_;clear e;rintro rfl
    refine zt (hb.sd I rfl) fun vb' us z19 hd hr=>?_;subst z19
    apply qN ha;intro t
    exact sdd _ us _ _ t hd hr (hb.sdNo HS I rfl) rfl
  | idct ks xs =>
    revert ha;apply zFt e;clear e;intro y e ha
    refine sE e ?_;clear e;rintro rfl
    refine yl (hb.isIdct (w:=w) I) fun vb' us z21 hd hr hsys=>?_;subst z21
    apply yF ha;intro t
    have hx:(valueAt us y).isSome=(atk (ks.zip xs) y).isSome:=by
      rw [zDB]
      have:=hr.atk y
      generalize q:atk (ks.zip xs) y=z70;induction z70 using Option.casesOn with
      | none=>rw [this.1 q];first | done | rfl
      | some p=>refine xEA (this.2 p q) fun v hv Z=>?_;rw [hv];rfl
    induction neg using Bool.casesOn
    · exact wpAny_in_of (intKind_is PG w y t) hsys hd.mapOf (by rw [hx];exact hq _)
    · exact wpAny_notIn_of (intKind_is PG w y t) hsys hd.mapOf (by rw [hx];exact hq _)
  | ref i =>
    generalize hc:asS (M.c i)=z
    replace e:z.elim (inD a (.ref i) M) (fun kvs=>(zQg a).bind fun y=>some (atk kvs y).isSome)=some r:=by rw [← hc];exact e
    induction z using Option.casesOn with
    | none=>exact zVv hroom I ha hb e (hq s.toks)
    | some kvs =>
      revert ha;apply zMq e;clear e;intro y e ha
      refine sE e ?_;clear e;rintro rfl
      refine zt (hb.sd I (zOb (zEZ hc))) fun vb' us z23 hd hr=>?_;subst z23
      apply qN ha;intro t
      exact sdd _ us _ _ t hd hr (hb.sdNo HS I (zOb (zEZ hc))) rfl
  | _=>exact zVv hroom I ha hb e (hq s.toks)
theorem zSf {op:CmpOp}{a b:PV}{r:Bool}{va vb:Value}(HS:∃o,B.get? sysModules=some o) (hroom:A.units+100<cLine) (I:Inv w.params B L fs g M m s.heap) (ha:Rep g a va) (hb:Rep g b vb) (e:yw op a b M=some r) (hk:k (.bool r) M) :
    Go Rep w A B L fs g m s (compareOp op va vb) k kx:=by
  intro Q E ok ex
  have fint:∀tk,Q (.bool r) { s with toks:=tk }:=fun tk=>ok _ (.bool r) M g s.heap tk (Ext.refl g) I rfl hk
  unfold yw at e
  rw [y9] at e
  induction op using PySem.CmpOp.casesOn with
  | Eq =>
    refine xEA (Option.bind_eq_some_iff.mp e) fun da hda e=>?_
    refine xEA (Option.map_eq_some_iff.mp e) fun db hdb z25=>?_;subst z25
    refine xAA (zAp I 8 a va da ha hda) fun z26 c1 d1=>?_;obtain ⟨as,ra⟩:=z26
    refine xAA (zAp I 8 b vb db hb hdb) fun z27 c2 d2=>?_;obtain ⟨bs,rb⟩:=z27
    exact eq_dataH ra rb (zGT c1 (by lia)) (zGT c2 (by lia)) (by lia) (fint s.toks)
  | NotEq =>
    refine xEA (Option.map_eq_some_iff.mp e) fun r' e' z28=>?_;subst z28
    refine xEA (Option.bind_eq_some_iff.mp e') fun da hda e''=>?_
    refine xEA (Option.map_eq_some_iff.mp e'') fun db hdb z29=>?_;subst z29
    refine xAA (zAp I 8 a va da ha hda) fun z30 c1 d1=>?_;obtain ⟨as,ra⟩:=z30
    refine xAA (zAp I 8 b vb db hb hdb) fun z31 c2 d2=>?_;obtain ⟨bs,rb⟩:=z31
    exact ne_dataH ra rb (zGT c1 (by lia)) (zGT c2 (by lia)) (by lia) (fint s.toks)
  | In=>exact zVw (neg:=false) HS hroom I ha hb e fint
  | NotIn =>
    refine xEA (Option.map_eq_some_iff.mp e) fun r' e' z32=>?_;subst z32
    exact zVw (neg:=true) HS hroom I ha hb e' fint
  | _=>exact zW e
noncomputable def zCV (M:Mem):PV->Option Bool
  | .bool b=>some b
  | .none=>some false
  | .lst xs=>if xs.length<=1000 then some (decide (0<xs.length)) else none
  | .ref i=>(asL (M.c i)).bind fun xs=>if xs.length<=1000 then some (decide (0<xs.length)) else none
  | _=>none
theorem zKd {p:PV}{v:Value}{r:Bool}(I:Inv w.params B L fs g M m s.heap) (hp:Rep g p v) (e:zCV M p=some r) {Q:Bool->Shared->Prop}{E:Value->Shared->Prop}(hq:∀tk,Q r { s with toks:=tk }):wpAny (model PG w) A (truthy v) Q E s:=by
  have lst:∀a (vs:List Value) (xs:List PV),s.heap.IsList a vs.toArray->yJ g xs vs->(if xs.length<=1000 then some (decide (0<xs.length)) else none)=some r->wpAny (model PG w) A (truthy (.ref a)) Q E s:=fun a vs xs hl hr e=>by
    split at e
    · rename_i hle
      refine sE e ?_;clear e;rintro rfl
      refine wpAny_truthy_list hl (by rw [List.size_toArray,hr.length];lia) ?_
      have h':=hq (s.toks+1+1)
      have hs:vs.toArray.size=xs.length:=by rw [List.size_toArray,hr.length]
      first
        | (rw [hs];exact h')
        | (have:(!vs.toArray.isEmpty)=decide (0<xs.length):=by
             rw [← hr.length];induction vs using List.casesOn<;>simp
           rw [this];exact h')
    · exact zW e
  induction p using PV.casesOn with
  | bool b=>refine sE e ?_;clear e;rintro rfl;rw [zCx hp];exact wpAny_truthy_bool (hq s.toks)
  | none=>refine sE e ?_;clear e;rintro rfl;rw [zDw hp];exact truthy_none (hq s.toks)
  | lst xs =>
    refine zEs (hp.isLst I) fun a vs ep z33 Z l hl hr=>?_;subst z33
    exact lst a vs _ hl hr e
  | ref i =>
    refine xEA (Option.bind_eq_some_iff.mp e) fun xs hx e=>?_
    refine xA (I.ref hp) fun z34 hi=>?_;subst z34
    refine zt (I.list hi (zEY hx)) fun vs ep l hl hr=>?_
    exact lst _ vs _ hl hr e
  | _=>exact zW e
end
section
variable {Tp:World->Heap->Prop}{w:World}{d:Nat}{hz:Bool}{F:FD}{cs:Option Scope}{nm:List Str}
def zPD (op:CmpOp) (a b:Den):Den:=fun st k kx=>qo st fun lo μ=>a st (fun x M=>b ⟨lo,M⟩ (fun y M=>oK (fun r=>k (.bool r) M) .mk (yw op x y M)) kx) kx
theorem zQY (HS:zDb Tp w) {op:CmpOp}{l r:Expr}{pos:Pos}{a b:Den}(ha:yC Tp w d hz F cs nm l a) (hb:yC Tp w d hz F cs nm r b) (hm:behindInMarks op r=false):yC Tp w d hz F cs nm (.Compare l [op] [r] pos) (zPD op a b):=by
  constructor
  intro A B outer fs L C cl X hC g M m s lo I Lo k kx t Q E ok ex
  refine wpAny_Compare1 ((ha.go A B outer fs L C cl X hC g M m s lo I Lo _ kx t) _ _ (fun v x M1z g1z h1z tk1z e1z i1z r1 q1z=>?_) ex) hm
  refine (hb.go A B outer fs L C cl X hC g1z M1z m _ lo i1z (Lo.ext e1z) _ kx q1z) _ _ (fun u y M2z g2z h2z tk2 e2z i2z r2z q2z=>?_) fun e M' g' h' tk' ee=>ex e M' g' h' tk' (e1z.trans ee)
  refine xEA (qM q2z) fun z hz hk=>?_
  exact (zSf (s:={ s with heap:=h2z,toks:=tk2 }) (HS B X.top) X.room100 i2z (r1.mono e2z) r2z hz hk).chain (e1z.trans e2z) ok ex
def qH (op:CmpOp) (a b:Den):qI:=fun st k kx=>qo st fun lo μ=>a st (fun x M=>b ⟨lo,M⟩ (fun y M=>oK (fun r=>k r M) .mk (yw op x y M)) kx) kx
theorem yH (HS:zDb Tp w) {op:CmpOp}{l r:Expr}{pos:Pos}{a b:Den}(ha:yC Tp w d hz F cs nm l a) (hb:yC Tp w d hz F cs nm r b) (hm:behindInMarks op r=false):zJC Tp w d hz F cs nm (.Compare l [op] [r] pos) (qH op a b):=by
  constructor
  intro A B outer fs L C cl X hC g M m s lo I Lo k kx t Q E ok ex
  refine wpAny_isTrue_Compare1 ((ha.go A B outer fs L C cl X hC g M m s lo I Lo _ kx t) _ _ (fun v x M1z g1z h1z tk1z e1z i1z r1 q1z=>?_) ex) hm
  refine (hb.go A B outer fs L C cl X hC g1z M1z m _ lo i1z (Lo.ext e1z) _ kx q1z) _ _ (fun u y M2z g2z h2z tk2 e2z i2z r2z q2z=>?_) fun e M' g' h' tk' ee=>ex e M' g' h' tk' (e1z.trans ee)
  refine xEA (qM q2z) fun z hz hk=>?_
  refine (zSf (k:=fun p M=>∃b,p=.bool b/\k b M) (s:={ s with heap:=h2z,toks:=tk2 }) (HS B X.top) X.room100 i2z (r1.mono e2z) r2z hz (iEA z rfl hk)).chain (S:=Rep) (e1z.trans e2z) (fun v pv M' g' h' tk' e' i' r' q'=>?_) ex
  refine xEA q' ?_;clear q';intro b z35 hk';subst z35
  obtain rfl:=zCx r'
  exact wpAny_truthy_bool (ok b b M' g' h' tk' e' i' rfl hk')
def zCt (a:Den):qI:=fun st k kx=>a st (fun p M=>oK (fun r=>k r M) .mk (zCV M p)) kx
theorem zAM {x:Expr}{a:Den}(ha:yC Tp w d hz F cs nm x a) (he:∀env zQo,isTrue x env zQo=(do let v ← zQo;standAt x.pos;holding [v] (truthy v))):zJC Tp w d hz F cs nm x (zCt a):=by
  constructor
  intro A B outer fs L C cl X hC g M m s lo I Lo k kx t Q E ok ex
  refine isTrue_plain ((ha.go A B outer fs L C cl X hC g M m s lo I Lo _ kx t) _ _ (fun v x M1z g1z h1z tk1z e1z i1z r1 q1z=>?_) ex) (he _ _)
  refine xEA (qM q1z) fun r hr hk=>?_
  exact zKd (s:={ s with heap:=h1z,toks:=tk1z }) i1z r1 hr fun tk=>ok r r M1z g1z h1z tk e1z i1z rfl hk
def zXs (a b:Den):Den:=fun st k kx=>qo st fun lo μ=>a st (fun p M=>oK (fun r=>bK (b ⟨lo,M⟩ k kx) (k p M) .mk r) .mk (zCV M p)) kx
theorem zYx {x y:Expr}{pos:Pos}{a b:Den}(ha:yC Tp w d hz F cs nm x a) (hb:yC Tp w d hz F cs nm y b):yC Tp w d hz F cs nm (.BoolOp .And [x,y] pos) (zXs a b):=by
  constructor
  intro A B outer fs L C cl X hC g M m s lo I Lo k kx t Q E ok ex
  refine wpAny_And2 ((ha.go A B outer fs L C cl X hC g M m s lo I Lo _ kx t) _ _ (fun v p M1z g1z h1z tk1z e1z i1z r1 q1z=>?_) ex)
  refine xEA (qM q1z) fun r hr hk=>?_
  refine zKd (s:={ s with heap:=h1z,toks:=tk1z }) i1z r1 hr fun tk=>?_
  induction r using Bool.casesOn
  · exact ok v p M1z g1z h1z tk e1z i1z r1 hk
  · exact (hb.go A B outer fs L C cl X hC g1z M1z m { s with heap:=h1z,toks:=tk } lo i1z (Lo.ext e1z) k kx hk).chain e1z ok ex
noncomputable def zFv (M:Mem):PV->Option Nat
  | .tup xs=>some xs.length
  | .lst xs=>some xs.length
  | .ref i=>(asL (M.c i)).map List.length
  | .str x=>some x.length
  | .rng a b c=>some (Builtin.Range.rangeSize a b c).toNat
  | _=>none
def qw:zh:=fun ps M k Z=>zYp (fun o=>oK (fun (n:Nat)=>aK (k (.int n) M) .mk (Nat.ble n 1000000)) .mk (zFv M o)) ps
theorem zGk (a b c:Int):0<=Builtin.Range.rangeSize a b c:=by
  unfold Builtin.Range.rangeSize
  split<;>split<;>first | lia | (have:=Int.ediv_nonneg (a:=b-a-1) (b:=c) (by lia) (by lia);lia) | (have:=Int.ediv_nonneg (a:=a-b-1) (b:=-c) (by lia) (by lia);lia)
theorem qK:yN Tp w d (.builtin "len") qw:=by
  constructor
  intro A B outer fs L Fc X g M m s I vs ps r k' kx t Q E ok ex
  refine xEA (zOL t) fun o z36 t=>?_;subst z36
  refine xEA (qM t) fun n e t'=>?_
  clear t
  refine xA (zHI t') fun hn hk=>?_
  clear t'
  have hn:=Nat.le_of_ble_eq_true hn
  refine xEA (zCP r) fun vo z37 ro=>?_;subst z37
  have fin:∀tu tk,Q (.int n tu) { s with toks:=tk }:=fun tu tk=>ok _ (.int n) M g s.heap tk (Ext.refl g) I ⟨_,rfl⟩ hk
  have lst:∀a (us:List Value) (xs:List PV),s.heap.IsList a us.toArray->yJ g xs us->some xs.length=some n->wpAny (model PG w) A (call (.builtin "len") [.ref a]) Q E s:=fun a us xs hl hr e=>by
    refine sE e ?_;clear e;rintro rfl
    have hs:us.toArray.size=xs.length:=by rw [List.size_toArray,hr.length]
    refine call_len_list hl (by rw [hs];lia) ?_
    rw [hs];exact fin _ _
  induction o using PV.casesOn with
  | tup xs =>
    refine zAG (ro.isTup I) fun a us z38 Z l ht hr=>?_;subst z38
    refine sE e ?_;clear e;rintro rfl
    have hs:=(List.size_toArray (as:=us)).trans hr.length
    refine PyProof.Rows.len_tuple ht (by rw [hs];lia) ?_
    rw [hs];exact fin _ _
  | lst xs =>
    refine zEs (ro.isLst I) fun a us ep z39 Z l hl hr=>?_;subst z39
    exact lst a us _ hl hr e
  | ref i =>
    refine xEA (Option.map_eq_some_iff.mp e) fun xs hx e=>?_
    refine xA (I.ref ro) fun z40 hi=>?_;subst z40
    refine zt (I.list hi (zEY hx)) fun us ep l hl hr=>?_
    exact lst _ us _ hl hr (congrArg some e)
  | str x =>
    apply qN ro;intro t
    refine sE e ?_;clear e;rintro rfl
    exact PyProof.Rows.len_str (by lia) (fin _ _)
  | rng a b c =>
    refine zOl ro ?_;clear ro;intro x t u z z42 _ l;subst z42
    refine sE e ?_;clear e;rintro rfl
    have hp:=zGk a b c
    have hE:Builtin.Range.rangeSize a b c=((Builtin.Range.rangeSize a b c).toNat:Int):=(Int.toNat_of_nonneg hp).symm
    exact call_len_range (I.led _ _ l).1 hE (by lia) (fin _ _)
  | _=>exact zW e
def zSE:zh:=fun ps M k Z=>zYp (fun o=>zFs (fun i=>k (.int (if i<0 then -i else i)) M) .mk o) ps
theorem zOe:yN Tp w d (.builtin "abs") zSE:=by
  constructor
  intro A B outer fs L Fc X g M m s I vs ps r k' kx t Q E ok ex
  refine xEA (zOL t) fun Z z43 t=>?_;subst z43
  refine xEA (zBf t) fun i z44 hk=>?_;subst z44
  refine xEA (zCP r) fun vo z45 ro=>?_;subst z45
  apply yF ro;intro t
  exact call_abs_int fun u tk=>ok _ (.int _) M g s.heap tk (Ext.refl g) I ⟨_,rfl⟩ hk
def zZF:zh:=fun ps M k Z=>twoK (fun x y=>zFs (fun a=>zFs (fun b=>k (.int (if b>a then b else a)) M) .mk y) .mk x) ps
theorem zTJ:yN Tp w d (.builtin "max") zZF:=by
  constructor
  intro A B outer fs L Fc X g M m s I vs ps r k' kx t Q E ok ex
  refine zHH (twoK_ex t) fun Z Z z47 t=>?_;subst z47
  refine xEA (zBf t) fun a z48 t=>?_;subst z48
  refine xEA (zBf t) fun b z49 hk=>?_;subst z49
  refine zt (zBB r) fun va vb z50 ra rb=>?_;subst z50
  apply yF ra;intro t
  apply yF rb;intro u
  exact max_two_ints (X.hz rfl) fun h' tk hk'=>ok _ (.int (if b>a then b else a)) M g h' tk (Ext.refl g) (I.keeps hk') (by split<;>exact ⟨_,rfl⟩) hk
theorem zIW {B:Heap}{L:Addr}{fs:Frs}{g:Gh}{M:Mem}{m:Str->Option Value}{s:Shared}{k:PV->Mem->Prop}{a b c:Int}{t u z:Tok}{tk:Nat}{Q:Value->Shared->Prop}(I:Inv w.params B L fs g M m s.heap) (hk:k (.rng a b c) M)
    (ok:KGo Rep w B L fs g m s k Q):Q (.ref s.heap.objs.size) { s with heap:=s.heap.push (zRp a b c t u z),toks:=tk }:=by
  refine xA (I.add (zRp a b c t u z) True rfl) fun J EX=>?_
  refine ok _ (.rng a b c) M _ _ tk EX J ?_ hk
  refine (zNw s.heap.objs.size t u z rfl ?_ ?_)
  · show (if _=_ then True else _);rw [if_pos rfl];trivial
  · show (if _=_ then _ else _)=_;rw [if_pos rfl]
def zAE:zh:=fun ps M k Z=>match ps with
  | [a]=>zFs (fun n=>k (.rng 0 n 1) M) .mk a
  | [a,b]=>zFs (fun x=>zFs (fun y=>k (.rng x y 1) M) .mk b) .mk a
  | [a,b,c]=>zFs (fun x=>zFs (fun y=>zFs (fun z=>z≠0/\z.natAbs<2^64/\k (.rng x y z) M) .mk c) .mk b) .mk a
  | _=>False
theorem zAP:yN Tp w d (.type "range") zAE:=by
  constructor
  intro A B outer fs L Fc X g M m s I vs ps r k' kx t Q E ok ex
  rcases ps with _ | ⟨a,_ | ⟨b,_ | ⟨c,_ | ⟨_,_⟩⟩⟩⟩
  · exact t.elim
  · refine xEA (zBf t) ?_;clear t;rintro n rfl hk
    refine xEA (zCP r) fun vo z53 ro=>?_;subst z53
    apply yF ro;intro t
    exact call_range_1 (zIW I hk ok)
  · refine xEA (zBf t) ?_;clear t;rintro n rfl hk
    refine xEA (zBf hk) ?_;clear hk;rintro n' rfl hk
    refine zt (zBB r) fun va vb z55 ra rb=>?_;subst z55
    apply yF ra;intro t
    apply yF rb;intro u
    exact call_range_2 (zIW I hk ok)
  · refine xEA (zBf t) ?_;clear t;rintro n rfl hk
    refine xEA (zBf hk) ?_;clear hk;rintro n' rfl hk
    refine xEA (zBf hk) ?_;clear hk;rintro n3 rfl hk
    refine xAA hk fun hc hcb hk=>?_
    refine yY (zRo r) fun va vb vc z58 ra rb rc=>?_;subst z58
    apply yF ra;intro t
    apply yF rb;intro u
    apply yF rc;intro z
    exact call_range_3 hc (zIW I hk ok) (.inl (zQI (by lia)))
  · exact t.elim
noncomputable def zWE:PV->Option Bool
  | .tup _=>some true
  | .int _=>some false
  | .none=>some false
  | _=>none
def zZB:zh:=fun ps M k Z=>∃p b,ps=[p,.glob (.type "tuple")]/\zWE p=some b/\k (.bool b) M
theorem zTI:yN Tp w d (.builtin "isinstance") zZB:=by
  constructor
  intro A B outer fs L Fc X g M m s I vs ps r k' kx t Q E ok ex
  refine zt t ?_;clear t;intro p b z62 e hk;subst z62
  refine zt (zBB r) fun va vb z63 ra rb=>?_;subst z63
  obtain rfl:vb=.type "tuple":=rb
  have fin:∀tk,Q (.bool b) { s with toks:=tk }:=fun tk=>ok _ (.bool b) M g s.heap tk (Ext.refl g) I rfl hk
  induction p using PV.casesOn with
  | tup xs =>
    refine sE e ?_;clear e;rintro rfl
    refine zAG (ra.isTup I) fun a us z64 Z l Z Z=>?_;subst z64
    exact IsiPair.tuple_tuple (I.led _ _ l).1 rfl (fin s.toks)
  | int i =>
    refine sE e ?_;clear e;rintro rfl
    apply yF ra;intro t
    exact IsiPair.int_tuple (fin _)
  | none =>
    refine sE e ?_;clear e;rintro rfl
    rw [zDw ra]
    exact IsiPair.NoneType_tuple (fin _)
  | _=>exact zW e
def zSG:zh:=fun ps M k Z=>zYp (fun o=>oK (fun xs=>lK (k (.tup xs) M) .mk xs) .mk (zAe M o)) ps
theorem zSA:yN Tp w d (.type "tuple") zSG:=by
  constructor
  intro A B outer fs L Fc X g M m s I vs ps r k' kx t Q E ok ex
  refine xEA (zOL t) fun o z66 t=>?_;subst z66
  refine xEA (qM t) fun xs e t=>?_
  refine xA (zIq t) fun hlen hk=>?_
  refine xEA (zCP r) fun vo z67 ro=>?_;subst z67
  refine yY (ro.list I e) fun a us ep z68 l hl hr=>?_;subst z68
  refine call_tuple_list hl (fun h' hk'=>?_) (by rw [List.size_toArray,hr.length];exact qm hlen)
  have J:=I.keeps hk'
  refine xA (J.add (zm "tuple" us 0) True rfl) fun J' EX=>?_
  refine ok _ (.tup xs) M _ _ s.toks EX J' ?_ hk
  refine (yb h'.objs.size us rfl ?_ ?_ (hr.mono EX))
  · show (if _=_ then True else _);rw [if_pos rfl];trivial
  · show (if _=_ then _ else _)=_;rw [if_pos rfl]
end

noncomputable def zXC (M:Mem) (j:Nat) (i x:PV):MO->Option Mem
  | .list xs=>(zJP i).bind fun k=>if 0<=k/\k<xs.length/\xs.length<=1000000 then some (M.set j (.list (xs.set k.toNat x))) else none
  | .sdict kvs=>(zQg i).bind fun y=>if kvs.length<=1000 then some (M.set j (.sdict (stk kvs y x))) else none
  | .tdict kvs=>(zXW i).bind fun ys=>(zDK ys).bind fun ks=>if kvs.length<=1000 then some (M.set j (.tdict (stk kvs ks x))) else none
  | .pin _ _=>none
noncomputable def zDL (M:Mem) (o i x:PV):Option Mem:=match o with
  | .ref j=>zXC M j i x (M.c j)
  | _=>none
noncomputable def zEI (Cs:List Addr) (M:Mem) (o:PV) (name:Str) (x:PV):Option Mem:=match o with
  | .inst c i=>if c∈Cs then (asS (M.c i)).bind fun kvs=>if kvs.length<=100 then some (M.set i (.sdict (stk kvs name x))) else none else none
  | _=>none
theorem zGA {C:List Addr}{M:Mem}{c:Addr}{i:Nat}{kvs:List (Str×PV)}{name:Str}{x:PV}(hC:c∈C) (h:M.c i=.sdict kvs) (hl:kvs.length<=100):zEI C M (.inst c i) name x=some (M.set i (.sdict (stk kvs name x))):=by
  show (if c∈C then _ else _)=_;rw [if_pos hC,h];exact if_pos hl
section
variable {w:World}{A:Around}{B:Heap}{L:Addr}{fs:Frs}{g:Gh}{M M':Mem}{m:Str->Option Value}{s:Shared}{P:Params}{h:Heap}{p:PV}{v:Value}{Q:Unit->Shared->Prop}{E:Value->Shared->Prop}
theorem zds {us:List Value}{n:Nat}{v:Value}:us.toArray.setIfInBounds n v=(us.set n v).toArray:=by simp
theorem zTo {K:Type} [DecidableEq K] {k:KeyKind PG w K}{a:Addr}{us:List (K×Value)}(hd:h.DictOf k a us):(us.map (·.1)).Nodup:=by
  obtain ⟨_,_,_,_,_,_,_,_,hn⟩:=hd;exact hn
theorem zRD {K:Type} [DecidableEq K] {k:HeapKind PG w K}{a:Addr}{us:List (K×Addr×Value)}(hd:h.DictOfH k a us):(us.map (·.1)).Nodup:=by
  obtain ⟨_,_,_,_,_,_,_,_,hn⟩:=hd;exact hn
theorem zKc {o i x:PV}{vo vi vx:Value}(hroom:A.units+100<cLine) (I:Inv w.params B L fs g M m s.heap) (ho:Rep g o vo) (hi:Rep g i vi) (hx:Rep g x vx) (e:zDL M o i x=some M')
    (hq:∀g' h' tk',Ext NoX g g'->Inv w.params B L fs g' M' m h'->Q () { s with heap:=h',toks:=tk' }):wpAny (model PG w) A (setItem vo vi vx) Q E s:=by
  induction o using PV.casesOn with
  | ref j =>
    replace e:zXC M j i x (M.c j)=some M':=e
    refine xA (I.ref ho) fun z1 hj=>?_;subst z1
    generalize hc:M.c j=z16;induction z16 using MO.casesOn with
    | list xs =>
      rw [hc] at e
      revert hi;apply zFt e;clear e;intro k e hi
      refine zJQ e ?_;clear e;rintro hk rfl
      apply yF hi;intro t
      refine zt (I.list hj hc) fun us ep l hl hr=>?_
      refine ki_setAt (I.led _ _ l).1 hk.1 (by lia) (by rw [List.size_toArray,hr.length];exact hk.2.1) ?_
      refine xEA (I.listUpd (f:=fun a=>a.setIfInBounds k.toNat vx) (us:=us.set k.toNat vx) hj l zds (hr.set _ hx)) fun g' J EX=>?_
      exact hq g' _ s.toks EX J
    | sdict kvs =>
      rw [hc] at e
      revert hi;apply zMq e;clear e;intro y e hi
      refine zJQ e ?_;clear e;rintro hk rfl
      apply qN hi;intro t
      refine xEA (I.sd hj hc) fun us hd hr=>?_
      refine wpAny_setItem_pairs (hsz:=by rw [hr.length];exact qm hk) (strKind_is PG w y t) hd fun h' hd' hs'=>?_
      rw [zSD _ _ _ (zTo hd)] at hd'
      refine xEA (zNH I.hP hd' (hr.stk y hx)) fun o' ho' ok=>?_
      refine xA (I.putC (c:=.sdict (stk kvs y x)) hj hs' ho' ok) fun J EX=>?_
      exact hq _ h' _ EX J
    | tdict kvs =>
      rw [hc] at e
      revert hi;apply zTU e;clear e;intro ys e hi
      refine xEA (Option.bind_eq_some_iff.mp e) fun ks hks e'=>?_
      refine zJQ e' ?_;clear e';rintro hk rfl
      obtain rfl:=zGM hks
      refine xE (zCh hi trivial) fun b z4=>?_;subst z4
      refine xEA (I.td hj (.inl hc)) fun us hd hr=>?_
      refine wpAny_setItem_heap (hsz:=by rw [hr.length];exact qm hk) (knd:=tupleKind (intKind PG w)) (tupleKind_room_in1 (by lia)) (zLJ I hi) hd fun h' hd' hs'=>?_
      refine xEA (zXv hd' (hr.put ks hi hx (zRD hd))) fun o' ho' ok=>?_
      refine xA (I.putC (c:=.tdict (stk kvs ks x)) hj hs' ho' ok) fun J EX=>?_
      exact hq _ h' _ EX J
    | pin _ _=>rw [hc] at e;exact zW e
  | _=>exact zW e
theorem zaT {P:Params}{g:Gh}{name:Str}{x:PV}{v:Value}{tk:Tok}(hx:Rep g x v):∀{kvs:List (Str×PV)}{es:List DictEntry},KS P (kvs.map (·.1)) es->yJ g (kvs.map (·.2)) (es.map (·.val)) ->
    KS P ((stk kvs name x).map (·.1)) (putL name (PyData.keyHash P name) (.str name tk) v es)/\yJ g ((stk kvs name x).map (·.2)) ((putL name (PyData.keyHash P name) (.str name tk) v es).map (·.val))/\(putL name (PyData.keyHash P name) (.str name tk) v es).length<=kvs.length+1:=by
  intro q0
  induction q0 with
  | nil =>
    intro es hk _
    simp only [List.map_nil] at hk;subst hk
    exact ⟨(yb _ [] rfl ⟨tk,rfl⟩ rfl rfl),(yS v [] rfl hx rfl),Nat.le_refl _⟩
  | cons qq r ih =>
    obtain ⟨y,p⟩:=qq
    intro es hk hr
    rw [List.map_cons] at hk hr
    refine yl hk ?_;clear hk;intro e r' z5 z6 hh h3;subst z5;obtain ⟨t,ht⟩:=z6
    refine zt hr fun u r2 e2 hv hr=>?_
    rw [List.map_cons,List.cons.injEq] at e2
    refine xA e2 ?_;clear e2;intro z7 z8;subst z7;subst z8
    have hs:e.key.isStr name=(y==name):=by rw [ht];rfl
    have hlen:r'.length=r.length:=by have:=h3.length;simpa using this
    unfold stk putL
    rw [hs]
    by_cases hy:y=name
    · subst hy
      rw [beq_self_eq_true,if_pos rfl,if_pos rfl]
      exact ⟨(yb _ r' rfl ⟨t,ht⟩ hh h3),(yS v _ rfl hx hr),by simp [hlen]⟩
    · rw [beq_eq_false_iff_ne.mpr hy,if_neg hy,if_neg Bool.false_ne_true]
      refine xAA (ih h3 hr) fun a b c=>?_
      exact ⟨(yb _ _ rfl ⟨t,ht⟩ hh a),(yS _ _ rfl hv b),by simp only [List.length_cons];lia⟩
theorem zKb {Tp:World->Heap->Prop}{Cs:List Addr}{name:Str}{o x:PV}{vo vx:Value}(ht:Tp w B) (HA:∀C∈Cs,zEK Tp w C name) (I:Inv w.params B L fs g M m s.heap) (ho:Rep g o vo) (hx:Rep g x vx) (e:zEI Cs M o name x=some M')
    (hq:∀g' h' tk',Ext NoX g g'->Inv w.params B L fs g' M' m h'->Q () { s with heap:=h',toks:=tk' }):wpAny (model PG w) A (setAttr vo name vx) Q E s:=by
  induction o using PV.casesOn with
  | inst c i =>
    refine zYa e fun hC e=>?_
    refine xEA (Option.bind_eq_some_iff.mp e) fun kvs hc e=>?_
    have hc:=zEZ hc
    · · · revert hq;refine zJQ e fun hlen e=>?_
          subst e;intro hq
          refine zXa ((HA c hC).K) fun K hK h1 h2 Z h3 h4 h5=>?_
          refine zBF (I.instAt ho hc) fun xa es n z9 hi hle hI nd hks hr=>?_;subst z9
          have hsome:(getL name es).isSome=true:=by
            refine xA (zNq (w:=w) (name:=name) hks hr) fun a b=>?_
            generalize q:atk kvs name=z17;induction z17 using Option.casesOn with
            | none=>rw [b q];rfl
            | some p=>refine xEA (a p q) fun v hv Z=>?_;rw [hv];rfl
          rw [I.hP] at hks
          refine xAA (zaT (name:=name) (tk:=s.toks+1) hx hks hr) fun k1 k2 k3=>?_
          refine set_dict I.fr (hK B ht) I.news hI rfl h3 h4 h5 h2 hsome rfl (I.upd hi hle) (by lia) fun h' F' N'=>?_
          refine xA (I.putN (c:=.sdict (stk kvs name x)) hi F' N' (yb _ _ rfl (zUT nd) (by rw [I.hP];exact k1) k2)) fun J EX=>?_
          exact hq _ h' _ EX J
  | _=>exact zW e
end
section
variable {Tp:World->Heap->Prop}{w:World}{d:Nat}{hz:Bool}{F:FD}{nm:List Str}
def zCY (a b v:Den):zX:=fun st kn Z kx=>qo st fun lo μ=>v st (fun x M=>a ⟨lo,M⟩ (fun o M=>b ⟨lo,M⟩ (fun i M=>oK (fun M'=>kn ⟨lo,M'⟩) .mk (zDL M o i x)) (fun M=>kx ⟨lo,M⟩)) (fun M=>kx ⟨lo,M⟩)) (fun M=>kx ⟨lo,M⟩)
theorem zBC {o i value:Expr}{pos' pos:Pos}{a b v:Den}(ha:yC Tp w d hz F none nm o a) (hb:yC Tp w d hz F none nm i b) (hv:yC Tp w d hz F none nm value v)
    (hs:∀L,swapsWith value (some (.Subscript o i pos')) pos.line (yE F L)=pure false):zDa Tp w d hz F nm (.Assign [.Subscript o i pos'] value pos) (zCY a b v):=by
  constructor
  intro A B outer fs L X g M m s lo I So kn kr kx t Q E on or ox
  refine wpAny_Assign_Subscript ((hv.go A B outer fs L L [] X (fun z=>by exact zV z) g M m s lo I So.lo _ _ t) _ _ (fun vv x M1z g1z h1z tk1z e1z i1z r1 q1z=>?_)
    fun e M' g' h' tk' ee i q=>ox e ⟨lo,M'⟩ m g' h' tk' ee.ownX i (So.ext ee) q) (hs L)
  refine (ha.go A B outer fs L L [] X (fun z=>by exact zV z) g1z M1z m _ lo i1z (So.lo.ext e1z) _ _ q1z) _ _ (fun vo o M2z g2z h2z tk2 e2z i2z r2z q2z=>?_)
    fun e M' g' h' tk' ee i q=>ox e ⟨lo,M'⟩ m g' h' tk' (e1z.trans ee).ownX i (So.ext (e1z.trans ee)) q
  refine (hb.go A B outer fs L L [] X (fun z=>by exact zV z) g2z M2z m _ lo i2z (So.lo.ext (e1z.trans e2z)) _ _ q2z) _ _ (fun vi i M3z g3z h3z tk3 e3z i3z r3z q3z=>?_)
    fun e M' g' h' tk' ee i q=>ox e ⟨lo,M'⟩ m g' h' tk' ((e1z.trans e2z).trans ee).ownX i (So.ext ((e1z.trans e2z).trans ee)) q
  refine xEA (qM q3z) fun M' hM hk=>?_
  have E3:=(e1z.trans e2z).trans e3z
  exact zKc (s:={ s with heap:=h3z,toks:=tk3 }) X.room100 i3z (r2z.mono e3z) r3z (r1.mono (e2z.trans e3z)) hM fun g' h' tk' e' i'=>on ⟨lo,M'⟩ m g' h' tk' (E3.trans e').ownX i' (So.ext (E3.trans e')) hk
def yp (Cs:List Addr) (a:Den) (name:Str) (v:Den):zX:=fun st kn Z kx=>qo st fun lo μ=>v st (fun x M=>a ⟨lo,M⟩ (fun o M=>oK (fun M'=>kn ⟨lo,M'⟩) .mk (zEI Cs M o name x)) (fun M=>kx ⟨lo,M⟩)) (fun M=>kx ⟨lo,M⟩)
theorem zr {Cs:List Addr}{o value:Expr}{name:Str}{pos' pos:Pos}{a v:Den}(HA:∀C∈Cs,zEK Tp w C name) (ha:yC Tp w d hz F none nm o a) (hv:yC Tp w d hz F none nm value v)
    (hs:∀L,swapsWith value (some (.Attribute o name pos')) pos.line (yE F L)=pure false):zDa Tp w d hz F nm (.Assign [.Attribute o name pos'] value pos) (yp Cs a name v):=by
  constructor
  intro A B outer fs L X g M m s lo I So kn kr kx t Q E on or ox
  refine plainObj_wpAny_Assign_Attribute ((hv.go A B outer fs L L [] X (fun z=>by exact zV z) g M m s lo I So.lo _ _ t) _ _ (fun vv x M1z g1z h1z tk1z e1z i1z r1 q1z=>?_)
    fun e M' g' h' tk' ee i q=>ox e ⟨lo,M'⟩ m g' h' tk' ee.ownX i (So.ext ee) q) (hs L)
  refine (ha.go A B outer fs L L [] X (fun z=>by exact zV z) g1z M1z m _ lo i1z (So.lo.ext e1z) _ _ q1z) _ _ (fun vo o M2z g2z h2z tk2 e2z i2z r2z q2z=>?_)
    fun e M' g' h' tk' ee i q=>ox e ⟨lo,M'⟩ m g' h' tk' (e1z.trans ee).ownX i (So.ext (e1z.trans ee)) q
  refine xEA (qM q2z) fun M' hM hk=>?_
  exact zKb (s:={ s with heap:=h2z,toks:=tk2 }) X.top HA i2z r2z (r1.mono e2z) hM fun g' h' tk' e' i'=>on ⟨lo,M'⟩ m g' h' tk' ((e1z.trans e2z).trans e').ownX i' (So.ext ((e1z.trans e2z).trans e')) hk
noncomputable def zdF (x y:Int):Operator->Option PV
  | .Add=>some (.int (x+y))
  | .Sub=>some (.int (x-y))
  | _=>none
noncomputable def zTi (op:Operator) (p q:PV):Option PV:=(zJP p).bind fun x=>(zJP q).bind fun y=>zdF x y op
theorem zVp {A:Around}{B:Heap}{L:Addr}{fs:Frs}{g:Gh}{M:Mem}{m:Str->Option Value}{s:Shared}{op:Operator}{p q r:PV}{vp vq:Value}{Q:Value->Shared->Prop}{E:Value->Shared->Prop}(hp:Rep g p vp) (hq:Rep g q vq) (e:zTi op p q=some r)
    (h:∀v tk,Rep g r v->Q v { s with toks:=tk }):wpAny (model PG w) A (inplaceOp op vp vq) Q E s:=by
  revert hp;apply zFt e;clear e;intro x e hp
  revert hq;apply zFt e;clear e;intro y e hq
  apply yF hp;intro t
  apply yF hq;intro u
  induction op using PySem.Operator.casesOn with
  | Add=>refine sE e ?_;clear e;rintro rfl;exact PyProof.Rows.iadd_int (h _ _ ⟨_,rfl⟩)
  | Sub=>refine sE e ?_;clear e;rintro rfl;exact PyProof.Rows.isub_int (h _ _ ⟨_,rfl⟩)
  | _=>exact zW e
def zPA (Cs:List Addr) (a:Den) (name:Str) (op:Operator) (v:Den):zX:=fun st kn Z kx=>qo st fun lo μ=>a st (fun o M=>oK (fun p=>aK (v ⟨lo,M⟩ (fun q M=>oK (fun r=>oK (fun M'=>kn ⟨lo,M'⟩) .mk (zEI Cs M o name r)) .mk (zTi op p q)) (fun M=>kx ⟨lo,M⟩)) .mk (zEf p)) .mk (zAd Cs M o name)) (fun M=>kx ⟨lo,M⟩)
theorem zQX {Cs:List Addr}{o value:Expr}{name:Str}{tpos pos:Pos}{op:Operator}{a v:Den}(HA:∀C∈Cs,zEK Tp w C name) (ha:yC Tp w d hz F none nm o a) (hv:yC Tp w d hz F none nm value v) :
    zDa Tp w d hz F nm (.AugAssign (.Attribute o name tpos) op value pos) (zPA Cs a name op v):=by
  constructor
  intro A B outer fs L X g M m s lo I So kn kr kx t Q E on or ox
  refine wpAny_AugAssign_AttributeAny ((ha.go A B outer fs L L [] X (fun z=>by exact zV z) g M m s lo I So.lo _ _ t) _ _ (fun vo o M1z g1z h1z tk1z e1z i1z r1 q1z=>?_)
    fun e M' g' h' tk' ee i q=>ox e ⟨lo,M'⟩ m g' h' tk' ee.ownX i (So.ext ee) q)
  refine xEA (qM q1z) fun p hp q1z=>?_
  refine xA (zHI q1z) fun hh hk=>?_
  refine (zSe (k:=fun p' M'=>p'=p/\M'=M1z) (kx:=fun Z=>False) (s:={ s with heap:=h1z,toks:=tk1z }) X.top HA i1z r1 hp hh ⟨rfl,rfl⟩) _ _ (fun vp p' M' g2z h2z tk2 e2z i2z r2z q2z=>?_) fun Z Z Z Z Z Z Z q=>q.elim
  refine xA q2z ?_;clear q2z;intro z14 z15;subst z14;subst z15
  refine (hv.go A B outer fs L L [] X (fun z=>by exact zV z) g2z _ m _ lo i2z (So.lo.ext (e1z.trans e2z)) _ _ hk) _ _ (fun vv q M3z g3z h3z tk3 e3z i3z r3z q3z=>?_)
    fun e M' g' h' tk' ee i q=>ox e ⟨lo,M'⟩ m g' h' tk' ((e1z.trans e2z).trans ee).ownX i (So.ext ((e1z.trans e2z).trans ee)) q
  refine xEA (qM q3z) fun r hr q3z=>?_
  refine xEA (qM q3z) fun M' hM hk=>?_
  have E3:=(e1z.trans e2z).trans e3z
  refine zVp (B:=B) (L:=L) (fs:=fs) (M:=M3z) (m:=m) (r2z.mono e3z) r3z hr fun vr tk rr=>?_
  exact zKb (s:={ s with heap:=h3z,toks:=tk }) X.top HA i3z (r1.mono (e2z.trans e3z)) rr hM fun g' h' tk' e' i'=>on ⟨lo,M'⟩ m g' h' tk' (E3.trans e').ownX i' (So.ext (E3.trans e')) hk
end

noncomputable def Gh.frz (g:Gh) (a:Addr) (o:Obj):Gh:=⟨g.P,g.n,fun b=>if b=a then some o else g.led b,fun b=>if b=a then True else g.fz b,g.ρ⟩
noncomputable def Gh.cel (g:Gh) (a:Addr) (o:Obj):Gh:=⟨g.P,g.n+1,fun b=>if b=a then some o else g.led b,g.fz,fun i=>if i=g.n then a else g.ρ i⟩
section
variable {P:Params}{B:Heap}{L:Addr}{fs:Frs}{g g₀:Gh}{M:Mem}{m:Str->Option Value}{h h':Heap}{a:Addr}{o o':Obj}
theorem Ext.drop {ex:Addr->Prop}{g g':Gh}(x:Ext ex g g') (h:∀a,ex a->g.led a=none):Ext NoX g g':=
  ⟨x.P,x.n,x.ρ,x.fz,fun a o e f n Z=>x.led a o e f n fun z=>by rw [h a z] at e;exact zW e⟩
theorem Ext.via {ex:Addr->Prop}{g g1z g2z:Gh}(x:Ext NoX g g1z) (y:Ext ex g1z g2z) (h:∀a,ex a->g.led a=none):Ext NoX g g2z:=
  ((x.weaken fun Z z=>z.elim).trans y).drop h
theorem Inv.freeze (I:Inv P B L fs g M m h) (e:g.led a=some o) (f:¬g.fz a) (ni:∀i,i<g.n->a≠g.ρ i) (hs:Heap.SameBut a h h') (ho:h'.get? a=some o') :
    Inv P B L fs (g.frz a o') M m h'/\Ext (fun b=>b=a) g (g.frz a o'):=by
  have J:=(I.putV e f ni hs ho).1
  have ld:∀b,(g.frz a o').led b=(g.put a o').led b:=fun b=>rfl
  have E:Ext (fun b=>b=a) g (g.frz a o'):={
    P:=rfl
    n:=Nat.le_refl _
    ρ:=fun Z Z=>rfl
    fz:=fun b ob eb fb=>by
      have hb:b≠a:=fun q=>by subst q;exact f fb
      exact ⟨by show (if b=a then _ else _)=_;rw [if_neg hb];exact eb,by show (if b=a then _ else _);rw [if_neg hb];exact fb⟩
    led:=fun b ob eb fb nb hb=>⟨by show (if b=a then _ else _)=_;rw [if_neg hb];exact eb,by show ¬(if b=a then _ else _);rw [if_neg hb];exact fb,nb⟩ }
  refine ⟨⟨J.keep,J.ns,J.lb,fun b ob eb=>?_,J.n,fun i hi=>?_,J.inj,J.fs,J.hP⟩,E⟩
  · refine xAA (J.led b ob (by rw [← ld];exact eb)) fun x y z=>?_
    refine ⟨x,y,fun nf=>z fun fb=>nf ?_⟩
    show (if b=a then True else g.fz b)
    split
    · trivial
    · exact fb
  · refine qh (I.cell i hi) fun oi ei fi ci=>?_
    have hne:g.ρ i≠a:=fun q=>ni i hi q.symm
    refine (q6 oi (by show (if g.ρ i=a then _ else _)=_;rw [if_neg hne];exact ei) (by show ¬(if g.ρ i=a then _ else _);rw [if_neg hne];exact fi) (ci.ext E))
theorem Inv.cellize {c:MO}(I:Inv P B L fs g M m h) (e:g.led a=some o) (f:¬g.fz a) (ni:∀i,i<g.n->a≠g.ρ i) (hs:Heap.SameBut a h h') (ho:h'.get? a=some o') (ok:zDZ P g o' c) :
    Inv P B L fs (g.cel a o') (M.new c) m h'/\Ext (fun b=>b=a) g (g.cel a o'):=by
  have J:=(I.putV e f ni hs ho).1
  have ρn:∀i,i<g.n->(g.cel a o').ρ i=g.ρ i:=fun i hi=>by show (if i=g.n then _ else _)=_;rw [if_neg (Nat.ne_of_lt hi)]
  have ρe:(g.cel a o').ρ g.n=a:=by show (if g.n=g.n then _ else _)=_;rw [if_pos rfl]
  have E:Ext (fun b=>b=a) g (g.cel a o'):={
    P:=rfl
    n:=Nat.le_succ _
    ρ:=ρn
    fz:=fun b ob eb fb=>by
      have hb:b≠a:=fun q=>by subst q;exact f fb
      exact ⟨by show (if b=a then _ else _)=_;rw [if_neg hb];exact eb,fb⟩
    led:=fun b ob eb fb nb hb=>⟨by show (if b=a then _ else _)=_;rw [if_neg hb];exact eb,fb,fun i hi q=>by
      rcases Nat.lt_succ_iff_lt_or_eq.mp hi with hi | hi
      · rw [ρn i hi] at q;exact nb i hi q
      · rw [hi,ρe] at q;exact hb q⟩ }
  refine ⟨⟨J.keep,J.ns,J.lb,fun b ob eb=>J.led b ob eb,by show g.n+1=M.n+1;rw [I.n],fun i hi=>?_,fun i j hi hj q=>?_,J.fs,J.hP⟩,E⟩
  · rcases Nat.lt_succ_iff_lt_or_eq.mp hi with hi | hi
    · refine qh (I.cell i hi) fun oi ei fi ci=>?_
      have hne:g.ρ i≠a:=fun q=>ni i hi q.symm
      rw [ρn i hi]
      refine (q6 oi (by show (if g.ρ i=a then _ else _)=_;rw [if_neg hne];exact ei) fi ?_)
      have:(M.new c).c i=M.c i:=by show (if i=M.n then _ else _)=_;rw [if_neg (Nat.ne_of_lt (I.n ▸ hi))]
      rw [this];exact ci.ext E
    · subst hi
      rw [ρe]
      refine (q6 o' (by show (if a=a then _ else _)=_;rw [if_pos rfl]) f ?_)
      have:(M.new c).c g.n=c:=by show (if g.n=M.n then _ else _)=_;rw [if_pos I.n]
      rw [this];exact ok.ext E
  · rcases Nat.lt_succ_iff_lt_or_eq.mp hi with hi | hi<;>rcases Nat.lt_succ_iff_lt_or_eq.mp hj with hj | hj
    · rw [ρn i hi,ρn j hj] at q;exact I.inj i j hi hj q
    · rw [ρn i hi,hj,ρe] at q;exact absurd q.symm (ni i hi)
    · rw [ρn j hj,hi,ρe] at q;exact absurd q (ni j hj)
    · rw [hi,hj]
end
section
variable {Tp:World->Heap->Prop}{w:World}{d:Nat}{hz:Bool}{F:FD}{cs:Option Scope}{nm:List Str}
noncomputable def zBg:List (Option PV)->List Nat->List PV->List (Option PV)
  | lo,i::is,p::ps=>zBg (lo.set i (some p)) is ps
  | lo,_,_=>lo
noncomputable def zIZ (ts:List (Str×Pos)):List Expr:=ts.map fun x=>.Name x.1 x.2
theorem qA (env:Env):∀ts:List (Str×Pos),assignEach (zIZ ts) env=ts.map fun x=>(false,assign (.Name x.1 x.2) env)
  | []=>rfl
  | t::ts=>by
    have ih:=qA env ts
    unfold zIZ at ih ⊢
    rw [List.map_cons,List.map_cons,← ih]
    rfl
inductive zDx (F:FD) (nm:List Str):List (Str×Pos)->List Nat->Prop where
  | nil:zDx F nm [] []
  | cons {x:Str}{p:Pos}{i:Nat}{ts:List (Str×Pos)}{is:List Nat}:nm[i]?=some x->qU F x->zDx F nm ts is->zDx F nm ((x,p)::ts) (i::is)
theorem zDx.length:∀{ts:List (Str×Pos)}{is:List Nat},zDx F nm ts is->is.length=ts.length:=by
  intro ts is h
  induction h with
  | nil=>rfl
  | cons _ _ _ ih=>rw [List.length_cons,List.length_cons,ih]
theorem zSi {A:Around}{B:Heap}{L:Addr}{fs:Frs}{E:Value->Shared->Prop}{Q:Unit->Shared->Prop}(hfk:F.scope.kind=.function) (nd:nm.Nodup) {M:Mem}:∀{ts:List (Str×Pos)}{is:List Nat},zDx F nm ts is ->
    ∀{ps:List PV}{vs:List Value}{g:Gh}{m:Str->Option Value}{s:Shared}{lo:List (Option PV)},Inv w.params B L fs g M m s.heap->SOk F nm L g m lo->yJ g ps vs->ps.length=is.length ->
    (∀m' g' h' tk',Ext (zAI F L) g g'->Inv w.params B L fs g' M m' h'->SOk F nm L g' m' (zBg lo is ps)->Q () { s with heap:=h',toks:=tk' }) ->
    wpAny (model PG w) A (assignInOrder (ts.map fun x=>assign (.Name x.1 x.2) (yE F L)) vs) Q E s:=by
  intro ts is hN
  induction hN with
  | nil =>
    intro ps vs g m s lo I So r hl ok
    obtain rfl:ps=[]:=List.length_eq_zero_iff.mp hl
    exact assignInOrder_nil (ok m g s.heap s.toks (Ext.refl g) I So)
  | cons hi hk hr ih =>
    intro ps vs g m s lo I So r hl ok
    induction ps using List.casesOn with
    | nil=>simp at hl
    | cons p ps =>
      refine zt r ?_;clear r;intro v vs z1 rv r;subst z1
      refine assignInOrder_cons (PyProof.Rows.assign_Name (zDn hfk I So rv hi nd (hk L) fun m1z g1z h1z tk1z e1z i1z so1=>?_))
      exact ih (s:={ s with heap:=h1z,toks:=tk1z }) i1z so1 (r.mono e1z) (by simpa using hl) fun m' g' h' tk' e i so=>ok m' g' h' tk' (e1z.trans e) i so
def zFc (is:List Nat) (a:Den):zX:=fun st kn Z kx=>qo st fun lo μ=>a st (fun p M=>zUp (fun ps=>aK (kn ⟨zBg lo is ps,M⟩) .mk (Nat.beq ps.length is.length)) .mk p) (fun M=>kx ⟨lo,M⟩)
theorem zJg {ts:List (Str×Pos)}{is:List Nat}{k:Nat}{tpos pos:Pos}{value:Expr}{a:Den}(hN:zDx F nm ts is) (nd:nm.Nodup) (ha:yC Tp w d true F none nm value a)
    (hs:∀L,swapsWithSole [.Tuple (zIZ ts) k tpos] value pos.line (yE F L)=pure false) (hw:∀L,swappedStores [.Tuple (zIZ ts) k tpos] value (yE F L)=pure none) :
    zDa Tp w d true F nm (.Assign [.Tuple (zIZ ts) k tpos] value pos) (zFc is a):=by
  constructor
  intro A B outer fs L X g M m s lo I So kn kr kx t Q E on or ox
  refine Assign_Tuple ((ha.go A B outer fs L L [] X (fun z=>by exact zV z) g M m s lo I So.lo _ _ t) _ _ (fun v p M1z g1z h1z tk1z e1z i1z r1 q1z=>?_)
    fun e M' g' h' tk' ee i q=>ox e ⟨lo,M'⟩ m g' h' tk' ee.ownX i (So.ext ee) q) (hs L) (hw L)
  refine xEA (zTT q1z) fun ps z2 q1z=>?_;subst z2
  refine xA (zHI q1z) fun hl hk=>?_
  have hl:=Nat.eq_of_beq_eq_true hl
  refine zAG (r1.isTup i1z) fun b vs z3 Z l ht hr=>?_;subst z3
  have hlen:=hN.length
  refine assign_Tuple_tuple (X.hz rfl) ht (by rw [qA,List.length_map,List.size_toArray,hr.length,hl,hlen]) (by rw [qA];simp) fun h2z hx=>?_
  have J:=i1z.keeps fun b ob eb=>hx b ob (Nat.ne_of_lt (Heap.lt_size eb)) eb
  rw [qA,List.map_map]
  exact zSi (w:=w) X.fk nd hN (s:={ s with heap:=h2z,toks:=tk1z }) J (So.ext e1z) hr hl fun m' g' h' tk' e i so=>on ⟨zBg lo is ps,M1z⟩ m' g' h' tk' (e1z.ownX.trans e) i so hk
theorem zXL {x y:Str}{px py:Pos}{i j:Nat}{k:Nat}{tpos pos:Pos}{value:Expr}{a:Den}(hi:nm[i]?=some x) (hj:nm[j]?=some y) (hx:qU F x) (hy:qU F y) (nd:nm.Nodup) (ha:yC Tp w d true F none nm value a)
    (hs:∀L,swapsWithSole [.Tuple [.Name x px,.Name y py] k tpos] value pos.line (yE F L)=pure false) (hw:∀L,swappedStores [.Tuple [.Name x px,.Name y py] k tpos] value (yE F L)=pure (some [x,y])) :
    zDa Tp w d true F nm (.Assign [.Tuple [.Name x px,.Name y py] k tpos] value pos) (fun st kn Z kx=>a st (fun p M=>∃p1z p2z,p=.tup [p1z,p2z]/\kn ⟨zBg st.lo [j,i] [p2z,p1z],M⟩) (fun M=>kx ⟨st.lo,M⟩)):=by
  constructor
  intro A B outer fs L X g M m s lo I So kn kr kx t Q E on or ox
  refine Assign_Tuple_swapped ((ha.go A B outer fs L L [] X (fun z=>by exact zV z) g M m s lo I So.lo _ _ t) _ _ (fun v p M1z g1z h1z tk1z e1z i1z r1 q1z=>?_)
    fun e M' g' h' tk' ee i q=>ox e ⟨lo,M'⟩ m g' h' tk' ee.ownX i (So.ext ee) q) (hs L) (hw L)
  refine zHH q1z ?_;clear q1z;intro p1z p2z z4 hk;subst z4
  refine zAG (r1.isTup i1z) fun b vs z5 Z l ht hr=>?_;subst z5
  refine zt (zBB hr) fun v1z v2z z6 hv1 hv2z=>?_;subst z6
  show wpAny (model PG w) A (unpackItems (.ref b) (#[v1z,v2z]:Array Value).size none) _ E { s with heap:=h1z,toks:=tk1z }
  refine unpackItems_tuple (s:={ s with heap:=h1z,toks:=tk1z }) (items:=#[v1z,v2z]) (X.hz rfl) ht fun h2z hx'=>?_
  have J:=i1z.keeps fun b ob eb=>hx' b ob (Nat.ne_of_lt (Heap.lt_size eb)) eb
  show wpAny (model PG w) A (assignInOrder [fun v=>bindName (yE F L) y v,fun v=>bindName (yE F L) x v] [v2z,v1z]) _ _ _
  refine assignInOrder_cons (bindName_ (zDn (s:={ s with heap:=h2z,toks:=tk1z }) X.fk J (So.ext e1z) hv2z hj nd (hy L) fun m2z g2z h2z tk2 e2z i2z so2=>?_))
  refine assignInOrder_cons (bindName_ (zDn (s:={ s with heap:=h2z,toks:=tk2 }) X.fk i2z so2 (hv1.mono e2z) hi nd (hx L) fun m3 g3z h3z tk3 e3z i3z so3=>?_))
  exact assignInOrder_nil (on ⟨_,M1z⟩ m3 g3z h3z tk3 ((e1z.ownX.trans e2z).trans e3z) i3z so3 hk)
theorem zVu {A:Around}{B:Heap}{L:Addr}{fs:Frs}{g:Gh}{M:Mem}{m:Str->Option Value}{s:Shared}{o i r:PV}{vo vi:Value}{ys:List PV}{Q:Value->Shared->Prop}{E:Value->Shared->Prop}(hroom:A.units+100<cLine) (I:Inv w.params B L fs g M m s.heap) (ho:Rep g o vo) (hi:Rep g (.tup ys) vi)
    {kvs:List (List Int×PV)}(e:tdP M o=some kvs) (e':(zDK ys).bind (atk kvs ·)=some r) (hq:∀v tk,Rep g r v->Q v { s with toks:=tk }):wpAny (model PG w) A (getItem vo vi) Q E s:=by
  refine xEA (Option.bind_eq_some_iff.mp e') fun ks hks e''=>?_
  obtain rfl:=zGM hks
  refine xE (zCh hi trivial) fun b z7=>?_;subst z7
  refine zAG (ho.td I e) fun j xs z8 hj z9 hd hr=>?_;subst z8;subst z9
  refine xEA ((hr.at ks).2 _ e'') fun q hq' hrq=>?_
  exact wpAny_getItem_heap (knd:=tupleKind (intKind PG w)) (tupleKind_room_in1 (by lia)) (zLJ I hi) hd hq' (hq _ _ hrq)
def zPB (a b:Den) (op:Operator) (v:Den):zX:=fun st kn Z kx=>qo st fun lo μ=>a st (fun o M=>b ⟨lo,M⟩ (fun i M=>oK (fun kvs=>zUp (fun ys=>oK (fun p=>v ⟨lo,M⟩ (fun q M=>oK (fun r=>oK (fun M'=>kn ⟨lo,M'⟩) .mk (zDL M o i r)) .mk (zTi op p q)) (fun M=>kx ⟨lo,M⟩)) .mk ((zDK ys).bind (atk kvs ·))) .mk i) .mk (tdP M o)) (fun M=>kx ⟨lo,M⟩)) (fun M=>kx ⟨lo,M⟩)
theorem zXG {o i value:Expr}{tpos pos:Pos}{op:Operator}{a b v:Den}(ha:yC Tp w d hz F none nm o a) (hb:yC Tp w d hz F none nm i b) (hv:yC Tp w d hz F none nm value v)
    (hi:∀ov iv new,augStore i ov iv new=(do holding [new,ov,iv] (setItem ov iv new);release [new,ov,iv] [];pure .next)):zDa Tp w d hz F nm (.AugAssign (.Subscript o i tpos) op value pos) (zPB a b op v):=by
  constructor
  intro A B outer fs L X g M m s lo I So kn kr kx t Q E on or ox
  refine wpAny_AugAssign_SubscriptAny ((ha.go A B outer fs L L [] X (fun z=>by exact zV z) g M m s lo I So.lo _ _ t) _ _ (fun vo o M1z g1z h1z tk1z e1z i1z r1 q1z=>?_)
    fun e M' g' h' tk' ee i q=>ox e ⟨lo,M'⟩ m g' h' tk' ee.ownX i (So.ext ee) q) hi
  refine (hb.go A B outer fs L L [] X (fun z=>by exact zV z) g1z M1z m _ lo i1z (So.lo.ext e1z) _ _ q1z) _ _ (fun vi i M2z g2z h2z tk2 e2z i2z r2z q2z=>?_)
    fun e M' g' h' tk' ee i q=>ox e ⟨lo,M'⟩ m g' h' tk' (e1z.trans ee).ownX i (So.ext (e1z.trans ee)) q
  refine xEA (qM q2z) fun kvs hkv q2z=>?_
  refine xEA (zTT q2z) fun ys z10 q2z=>?_;subst z10
  refine xEA (qM q2z) fun p hp hk=>?_
  refine zVu (o:=o) (r:=p) (s:={ s with heap:=h2z,toks:=tk2 }) (i:=p) X.room100 i2z (r1.mono e2z) r2z hkv hp fun vp tkp rp=>?_
  refine (hv.go A B outer fs L L [] X (fun z=>by exact zV z) g2z M2z m { s with heap:=h2z,toks:=tkp } lo i2z (So.lo.ext (e1z.trans e2z)) _ _ hk) _ _ (fun vv q M3z g3z h3z tk3 e3z i3z r3z q3z=>?_)
    fun e M' g' h' tk' ee i q=>ox e ⟨lo,M'⟩ m g' h' tk' ((e1z.trans e2z).trans ee).ownX i (So.ext ((e1z.trans e2z).trans ee)) q
  refine xEA (qM q3z) fun r hr q3z=>?_
  refine xEA (qM q3z) fun M' hM hk=>?_
  have E3:=(e1z.trans e2z).trans e3z
  refine zVp (B:=B) (L:=L) (fs:=fs) (M:=M3z) (m:=m) (rp.mono e3z) r3z hr fun vr tk rr=>?_
  exact zKc (s:={ s with heap:=h3z,toks:=tk }) X.room100 i3z (r1.mono (e2z.trans e3z)) (r2z.mono e3z) rr hM fun g' h' tk' e' i'=>on ⟨lo,M'⟩ m g' h' tk' (E3.trans e').ownX i' (So.ext (E3.trans e')) hk
end

theorem yJ.flat {g:Gh}{xs:List PV}{vs:List Value}(r:yJ g xs vs):∀n:Nat,yJ g (List.replicate n xs).flatten (List.replicate n vs).flatten
  | 0=>rfl
  | n+1=>by rw [List.replicate_succ,List.replicate_succ,List.flatten_cons,List.flatten_cons];exact r.append (r.flat n)
section
variable {Tp:World->Heap->Prop}{w:World}{d:Nat}{hz:Bool}{F:FD}{cs:Option Scope}{nm:List Str}
theorem zSv {B:Heap}{L:Addr}{fs:Frs}{g:Gh}{M:Mem}{m:Str->Option Value}{h h':Heap}{P:Params}{a:Addr}{vs:List Value}{xs:List PV}(I:Inv P B L fs g M m h) (F':Fr B L h' m) (N':News B L h' ((a,zm "list" vs 0)::zHv B L h)) (ha:h.objs.size<=a) (r:yJ g xs vs) :
    ∃g',Ext NoX g g'/\Inv P B L fs g' M m h'/\Rep g' (.lst xs) (.ref a):=by
  refine xA (I.addN F' N' ha True) fun J EX=>?_
  refine (q6 _ EX J ?_)
  refine (qi a vs 0 rfl ?_ ?_ (r.mono EX))
  · show (if a=a then True else _);rw [if_pos rfl];trivial
  · show (if a=a then _ else _)=_;rw [if_pos rfl]
def zIl (a b:Den):Den:=fun st k kx=>qo st fun lo μ=>a st (fun x M=>b ⟨lo,M⟩ (fun y M=>∃xs ys,zAe M x=some xs/\zAe M y=some ys/\xs.length+ys.length<=1000/\k (.lst (xs++ys)) M) kx) kx
theorem zQW {l r:Expr}{pos:Pos}{a b:Den}(ha:yC Tp w d hz F cs nm l a) (hb:yC Tp w d hz F cs nm r b):yC Tp w d hz F cs nm (.BinOp l .Add r pos) (zIl a b):=by
  constructor
  intro A B outer fs L C cl X hC g M m s lo I Lo k kx t Q E ok ex
  refine wpAny_BinOp ((ha.go A B outer fs L C cl X hC g M m s lo I Lo _ kx t) _ _ (fun v x M1z g1z h1z tk1z e1z i1z r1 q1z=>?_) ex)
  refine (hb.go A B outer fs L C cl X hC g1z M1z m _ lo i1z (Lo.ext e1z) _ kx q1z) _ _ (fun u y M2z g2z h2z tk2 e2z i2z r2z q2z=>?_) fun e M' g' h' tk' ee=>ex e M' g' h' tk' (e1z.trans ee)
  refine yl q2z fun xs ys hx hy hl hk=>?_
  refine yY ((r1.mono e2z).list i2z hx) fun ax vx Z z1 Z hlx hrx=>?_;subst z1
  refine yY (r2z.list i2z hy) fun ay vy Z z2 Z hly hry=>?_;subst z2
  refine add_lists (s:={ s with heap:=h2z,toks:=tk2 }) (hsz:=by rw [hrx.length,hry.length];exact qm hl) i2z.fr i2z.news hlx hly fun h' F' N'=>?_
  refine qh (zSv i2z F' N' (Nat.le_refl _) (hrx.append hry)) fun g' EX J rr=>?_
  exact ok _ _ M2z g' h' _ ((e1z.trans e2z).trans EX) J rr hk
def zKB (a b:Den):Den:=fun st k kx=>qo st fun lo μ=>a st (fun x M=>b ⟨lo,M⟩ (fun y M=>∃xs n,x=.lst xs/\y=.int n/\0<=n/\n<=1000/\xs.length<=10/\k (.ref M.n) (M.new (.list (List.replicate n.toNat xs).flatten))) kx) kx
theorem zQa {l r:Expr}{pos:Pos}{a b:Den}(ha:yC Tp w d hz F cs nm l a) (hb:yC Tp w d hz F cs nm r b):yC Tp w d hz F cs nm (.BinOp l .Mult r pos) (zKB a b):=by
  constructor
  intro A B outer fs L C cl X hC g M m s lo I Lo k kx t Q E ok ex
  refine wpAny_BinOp ((ha.go A B outer fs L C cl X hC g M m s lo I Lo _ kx t) _ _ (fun v x M1z g1z h1z tk1z e1z i1z r1 q1z=>?_) ex)
  refine (hb.go A B outer fs L C cl X hC g1z M1z m _ lo i1z (Lo.ext e1z) _ kx q1z) _ _ (fun u y M2z g2z h2z tk2 e2z i2z r2z q2z=>?_) fun e M' g' h' tk' ee=>ex e M' g' h' tk' (e1z.trans ee)
  refine zHq q2z ?_;clear q2z;intro xs n z3 z4 h0 h1 hl hk;subst z3;subst z4
  refine zEs ((r1.mono e2z).isLst i2z) fun ax vx ep z5 Z l hlx hrx=>?_;subst z5
  apply yF r2z;intro t
  have hsz:vx.toArray.size * n.toNat<=2^24:=by
    rw [List.size_toArray,hrx.length]
    exact Nat.le_trans (Nat.mul_le_mul hl (Int.toNat_le.mpr h1:n.toNat<=1000)) (by decide)
  refine mul_list (s:={ s with heap:=h2z,toks:=tk2 }) i2z.fr i2z.news (i2z.led _ _ l).1 (by lia) (by lia) hsz fun h' F' N'=>?_
  rw [listMul_foldl_if] at N'
  have N'':News B L h' ((h2z.objs.size,zm "list" (List.replicate n.toNat vx).flatten 0)::zHv B L h2z):=N'
  refine xA (i2z.addN F' N'' (Nat.le_refl _) False) fun J EX=>?_
  have hled:(g2z.add h2z.objs.size (zm "list" (List.replicate n.toNat vx).flatten 0) False).led h2z.objs.size=some (zm "list" (List.replicate n.toNat vx).flatten 0):=by show (if _=_ then _ else _)=_;rw [if_pos rfl]
  have hfz:¬(g2z.add h2z.objs.size (zm "list" (List.replicate n.toNat vx).flatten 0) False).fz h2z.objs.size:=by show ¬(if _=_ then False else _);rw [if_pos rfl];exact id
  have hni:∀i,i<g2z.n->h2z.objs.size≠g2z.ρ i:=fun i hi q=>by
    refine xEA (i2z.cell i hi) fun o e Z=>?_
    exact absurd (i2z.lt e) (by rw [← q];exact Nat.lt_irrefl _)
  refine xA (J.cellize (c:=.list (List.replicate n.toNat xs).flatten) hled hfz hni (Heap.SameBut.refl _ _) (J.led _ _ hled).1 (zES _ _ rfl ((hrx.flat n.toNat).mono EX))) fun J' EX'=>?_
  have EX'':Ext NoX g2z _:=EX.via EX' fun b hb=>by rw [hb];exact i2z.freshLed
  refine ok _ (.ref M2z.n) _ _ h' _ ((e1z.trans e2z).trans EX'') J' ?_ hk
  refine ⟨?_,by show M2z.n<g2z.n+1;rw [i2z.n];exact Nat.lt_succ_self _⟩
  show _=Value.ref (if M2z.n=g2z.n then _ else _)
  rw [if_pos i2z.n.symm]
def zVP (a b:Den):Den:=fun st k kx=>qo st fun lo μ=>a st (fun x M=>b ⟨lo,M⟩ (fun y M=>∃z n,x=.str z/\y=.int n/\-1000<=n/\n<1/\k (.str Str.empty) M) kx) kx
theorem zXJ {l r:Expr}{pos:Pos}{a b:Den}(ha:yC Tp w d hz F cs nm l a) (hb:yC Tp w d hz F cs nm r b):yC Tp w d hz F cs nm (.BinOp l .Mult r pos) (zVP a b):=by
  constructor
  intro A B outer fs L C cl X hC g M m s lo I Lo k kx t Q E ok ex
  refine wpAny_BinOp ((ha.go A B outer fs L C cl X hC g M m s lo I Lo _ kx t) _ _ (fun v x M1z g1z h1z tk1z e1z i1z r1 q1z=>?_) ex)
  refine (hb.go A B outer fs L C cl X hC g1z M1z m _ lo i1z (Lo.ext e1z) _ kx q1z) _ _ (fun u y M2z g2z h2z tk2 e2z i2z r2z q2z=>?_) fun e M' g' h' tk' ee=>ex e M' g' h' tk' (e1z.trans ee)
  refine zAG q2z ?_;clear q2z;intro z n z7 z8 h0 h1 hk;subst z7;subst z8
  apply qN r1;intro tz
  apply yF r2z;intro tn
  exact PySem.P.mul_str_none h1 (by lia) (ok _ (.str Str.empty) M2z g2z h2z _ (e1z.trans e2z) i2z ⟨_,rfl⟩ hk)
def zMU (a b:Den):Den:=fun st k kx=>qo st fun lo μ=>a st (fun x M=>b ⟨lo,M⟩ (fun y M=>∃n,y=.int n/\0<=n/\((∃xs,zAe M x=some xs/\xs.length<=1000/\k (.lst (xs.take n.toNat)) M)\/∃z,x=.str z/\z.length<=1000/\k (.str (Txt.slice z none (some n))) M)) kx) kx
theorem zQd {x:Str}{xp:Pos}{upper:Expr}{p pos:Pos}{a b:Den}(ha:yC Tp w d hz F cs nm (.Name x xp) a) (hb:yC Tp w d hz F cs nm upper b):yC Tp w d hz F cs nm (.Subscript (.Name x xp) (.Slice none (some upper) none p) pos) (zMU a b):=by
  constructor
  intro A B outer fs L C cl X hC g M m s lo I Lo k kx t Q E ok ex
  refine Subscript_ ((ha.go A B outer fs L C cl X hC g M m s lo I Lo _ kx t) _ _ (fun v x M1z g1z h1z tk1z e1z i1z r1 q1z=>?_) ex)
  refine wpAny_Slice (wpAny_of_eq (a:=Value.none) (evalPart_none _) ?_)
  rw [evalPart_some]
  refine (hb.go A B outer fs L C cl X hC g1z M1z m _ lo i1z (Lo.ext e1z) _ kx q1z) _ _ (fun u y M2z g2z h2z tk2 e2z i2z r2z q2z=>?_) fun e M' g' h' tk' ee=>ex e M' g' h' tk' (e1z.trans ee)
  refine wpAny_of_eq (a:=Value.none) (evalPart_none _) ?_
  refine qh q2z ?_;clear q2z;intro n z11 h0 q2z;subst z11
  apply yF r2z;intro tn
  rcases q2z with ⟨xs,hx,hl,hk⟩ | ⟨z,rfl,hl,hk⟩
  · refine yY ((r1.mono e2z).list i2z hx) fun ax vx Z z13 Z hlx hrx=>?_;subst z13
    refine slice_list (s:={ s with heap:=h2z,toks:=tk2 }) (hi:=some n) (hsz:=by rw [List.size_toArray,hrx.length];exact qm hl) i2z.fr i2z.news hlx .none (.int _ _) (fun h' F' N'=>?_)
    have e2:slicePick vx.toArray none (some n) none=(vx.take n.toNat).toArray:=by
      have ey:=slicePick_upto' vx.toArray n.toNat
      rw [Int.toNat_of_nonneg h0] at ey
      rw [ey]
    rw [e2] at N'
    refine qh (zSv i2z F' N' (Nat.le_succ _) (hrx.take n.toNat)) fun g' EX J rr=>?_
    exact ok _ _ M2z g' h' _ ((e1z.trans e2z).trans EX) J rr hk
  · apply qN r1;intro tz
    refine slice_strN_ns (s:={ s with heap:=h2z,toks:=tk2 }) (hsz:=qm hl) i2z.fr i2z.news (fun h' t' kk F' N'=>?_)
    exact ok _ (.str _) M2z g2z h' _ (e1z.trans e2z) (i2z.of_news (ex:=[]) F' N') ⟨_,rfl⟩ hk
def zUu (g:Gh):List (PV×PV)->List (Value×Value)->Prop
  | [],vs=>vs=[]
  | (p,q)::r,vs=>∃v u vs',vs=(v,u)::vs'/\Rep g p v/\Rep g q u/\zUu g r vs'
abbrev zLM:=St->(List (PV×PV)->Mem->Prop)->(Mem->Prop)->Prop
structure zUw (Tp:World->Heap->Prop) (w:World) (d:Nat) (hz:Bool) (F:FD) (nm:List Str) (pairs:Env->List (Sem Value×Sem Value)) (t:zLM):Prop where
  go:∀(A:Around) (B:Heap) (outer:List Env) (fs:Frs) (L:Addr),Ct (Tp w) d hz A B outer fs L F ->
    ∀(g:Gh) (M:Mem) (m:Str->Option Value) (s:Shared) (lo:List (Option PV)),Inv w.params B L fs g M m s.heap->zJB nm (yE F L) L g m lo ->
      ∀k kx,t ⟨lo,M⟩ k kx->Go zUu w A B L fs g m s (evalPairs (pairs (yE F L))) k kx
def zHS:zLM:=fun st k Z=>qo st fun lo μ=>k [] μ
def yj (a b:Den) (r:zLM):zLM:=fun st k kx=>qo st fun lo μ=>a st (fun p M=>b ⟨lo,M⟩ (fun q M=>r ⟨lo,M⟩ (fun ps M=>k ((p,q)::ps) M) kx) kx) kx
theorem zXE:zUw Tp w d hz F nm (fun Z=>[]) zHS:=by
  constructor
  intro A B outer fs L X g M m s lo I Lo k kx t Q E ok ex
  exact evalPairs_nil (ok [] [] M g s.heap s.toks (Ext.refl g) I rfl t)
theorem zUi {e e':Expr}{pos:Pos}{pairs:Env->List (Sem Value×Sem Value)}{a b:Den}{r:zLM}(ha:yC Tp w d hz F none nm e a) (hb:yC Tp w d hz F none nm e' b) (hr:zUw Tp w d hz F nm pairs r) :
    zUw Tp w d hz F nm (fun env=>(eval e env,do let x ← eval e' env;standAt pos;pure x)::pairs env) (yj a b r):=by
  constructor
  intro A B outer fs L X g M m s lo I Lo k kx t Q E ok ex
  refine evalPairs_cons ((ha.go A B outer fs L L [] X (fun z=>by exact zV z) g M m s lo I Lo _ kx t) _ _ (fun v p M1z g1z h1z tk1z e1z i1z r1 q1z=>?_) ex)
  refine wpAny_bind ((hb.go A B outer fs L L [] X (fun z=>by exact zV z) g1z M1z m _ lo i1z (Lo.ext e1z) _ kx q1z) _ _ (fun u q M2z g2z h2z tk2 e2z i2z r2z q2z=>?_) fun e M' g' h' tk' ee=>ex e M' g' h' tk' (e1z.trans ee))
  refine wpAny_bind (wpAny_standAt (wpAny_pure ?_))
  refine (hr.go A B outer fs L X g2z M2z m { s with heap:=h2z,toks:=tk2 } lo i2z (Lo.ext (e1z.trans e2z)) _ kx q2z) _ _ (fun vs ps M3z g3z h3z tk3 e3z i3z r3z q3z=>?_) fun e M' g' h' tk' ee=>ex e M' g' h' tk' ((e1z.trans e2z).trans ee)
  exact ok _ ((p,q)::ps) M3z g3z h3z tk3 ((e1z.trans e2z).trans e3z) i3z (qi v u vs rfl (r1.mono (e2z.trans e3z)) (r2z.mono e3z) r3z) q3z
noncomputable def zLF:List (PV×PV)->Option (List (Str×PV))
  | []=>some []
  | p::r=>(zQg p.1).bind fun x=>(zLF r).map ((x,p.2)::·)
theorem zMP {w:World}{g:Gh}{ps:List (PV×PV)}:∀{kvs:List (Str×PV)}{vs:List (Value×Value)},zLF ps=some kvs->zUu g ps vs->∃us,Carries (strKind PG w) vs us/\zBi g kvs us:=by
  induction ps with
  | nil=>intro kvs vs e r;refine sE e ?_;clear e;rintro rfl;subst r;exact (iEA [] trivial rfl)
  | cons p r ih =>
    obtain ⟨p,q⟩:=p
    intro kvs vs e rr
    revert rr;apply zMq (p:=p) e;clear e;intro x e rr
    refine xEA (Option.map_eq_some_iff.mp e) ?_;clear e;intro l hl z16;subst z16
    refine yY rr ?_;clear rr;intro v u vs z17 rv ru rr;subst z17
    apply qN rv;intro t
    refine xEA (ih hl rr) fun us a b=>?_
    exact (iEA ((x,u)::us) ⟨strKind_is PG w x t,rfl,a⟩ (yS u us rfl ru b))
noncomputable def zNy:List (PV×PV)->Option (List (Int×PV))
  | []=>some []
  | p::r=>(zJP p.1).bind fun x=>(zNy r).map ((x,p.2)::·)
theorem zKi {w:World}{g:Gh}{ps:List (PV×PV)}:∀{kvs:List (Int×PV)}{vs:List (Value×Value)},zNy ps=some kvs->zUu g ps vs->∃us,Carries (intKind PG w) vs us/\zBi g kvs us:=by
  induction ps with
  | nil=>intro kvs vs e r;refine sE e ?_;clear e;rintro rfl;subst r;exact (iEA [] trivial rfl)
  | cons p r ih =>
    obtain ⟨p,q⟩:=p
    intro kvs vs e rr
    revert rr;apply zFt (p:=p) e;clear e;intro x e rr
    refine xEA (Option.map_eq_some_iff.mp e) ?_;clear e;intro l hl z19;subst z19
    refine yY rr ?_;clear rr;intro v u vs z20 rv ru rr;subst z20
    apply yF rv;intro t
    refine xEA (ih hl rr) fun us a b=>?_
    exact (iEA ((x,u)::us) ⟨intKind_is PG w x t,rfl,a⟩ (yS u us rfl ru b))
theorem zWk {w:World}:∀{es:List DictEntry}{vs:List (Int×Value)},Pairs (intKind PG w) es vs->(∀e∈es,∃k,(intKind PG w).is k e.key=true/\e.hash=(intKind PG w).hash k)->KI (vs.map (·.1)) es/\es.map (·.val)=vs.map (·.2):=by
  intro es vs h
  induction h with
  | nil=>exact fun Z=>⟨rfl,rfl⟩
  | @cons e kv es kvs h1 h2 h3 ih =>
    intro hk
    refine xA (ih fun e he=>hk e (.tail _ he)) fun a b=>?_
    refine xEA (hk e (.head _)) fun k k1 k2=>?_
    obtain rfl:k=kv.1:=(intKind PG w).inj _ _ _ k1 h1
    refine ⟨(yb e es rfl ?_ k2 a),by rw [List.map_cons,List.map_cons,h2,b]⟩
    have h1':Value.isInt kv.1 e.key=true:=h1
    generalize hke:e.key=z23;induction z23 using PySem.Value.casesOn<;>rw [hke] at h1'<;>simp [Value.isInt] at h1'
    subst h1';exact ⟨_,rfl⟩
inductive zTd where | dct | cell | idct
def zZN (kind:zTd) (k:PV->Mem->Prop) (ps:List (PV×PV)) (M:Mem):Prop:=match kind with
  | .dct=>oK (fun kvs=>(kvs.map (·.1)).Nodup/\k (.dct (kvs.map (·.1)) (kvs.map (·.2))) M) .mk (zLF ps)
  | .cell=>oK (fun kvs=>(kvs.map (·.1)).Nodup/\k (.ref M.n) (M.new (.sdict kvs))) .mk (zLF ps)
  | .idct=>oK (fun kvs=>(kvs.map (·.1)).Nodup/\k (.idct (kvs.map (·.1)) (kvs.map (·.2))) M) .mk (zNy ps)
def zHQ (kind:zTd) (r:zLM):Den:=fun st k kx=>r st (zZN kind k) kx
theorem zXH {kind:zTd}{keys:List (Option Expr)}{values:List Expr}{pos:Pos}{pairs:Env->List (Sem Value×Sem Value)}{r:zLM}(HS:zDb Tp w) (hr:zUw Tp w d hz F nm pairs r)
    (hshape:∀env,(evalEachOpt keys env).zip ((evalEach values env).map fun v=>do let x ← v;standAt pos;pure x)=(pairs env).map fun p=>(some p.1,p.2)) (h0:∀env,pairs env≠[]) (hlen:∀env,(pairs env).length<=15) :
    yC Tp w d hz F none nm (.Dict keys values pos) (zHQ kind r):=by
  constructor
  intro A B outer fs L C cl X hC g M m s lo I Lo k kx t Q E ok ex
  refine xA (I.add { cls:=.type "dict",data:=.dict #[] } False rfl) fun I0 EX0=>?_
  have noS:(s.heap.objs.size==sysModules)=false:=zMe (HS B X.top) I.freshB
  have hled:(g.add s.heap.objs.size { cls:=.type "dict",data:=.dict #[] } False).led s.heap.objs.size=some { cls:=.type "dict",data:=.dict #[] }:=by show (if _=_ then _ else _)=_;rw [if_pos rfl]
  have hfz:¬(g.add s.heap.objs.size { cls:=.type "dict",data:=.dict #[] } False).fz s.heap.objs.size:=by show ¬(if _=_ then False else _);rw [if_pos rfl];exact id
  have hni:∀i,i<g.n->s.heap.objs.size≠g.ρ i:=fun i hi q=>by
    refine xEA (I.cell i hi) fun o e Z=>?_
    exact absurd (I.lt e) (by rw [← q];exact Nat.lt_irrefl _)
  have fin:∀(vs:List (Value×Value)) (ps:List (PV×PV)) (M1z:Mem) (g1z:Gh) (h1z:Heap) (tk1z:Nat),Ext NoX (g.add s.heap.objs.size { cls:=.type "dict",data:=.dict #[] } False) g1z->Inv w.params B L fs g1z M1z m h1z->zUu g1z ps vs ->
      zZN kind k ps M1z ->
      h1z.get? s.heap.objs.size=some { cls:=.type "dict",data:=.dict #[] }/\(∀us:List (Str×Value),kind≠.idct->Carries (strKind PG w) vs us->∀h',h'.DictOf (strKind PG w) s.heap.objs.size (merged [] us)->Heap.SameBut s.heap.objs.size h1z h'->∀tk,(∀kvs,zLF ps=some kvs->zBi g1z kvs us)->Q (.ref s.heap.objs.size) { s with heap:=h',toks:=tk }) /\
      (∀us:List (Int×Value),kind=.idct->Carries (intKind PG w) vs us->∀h',h'.DictOf (intKind PG w) s.heap.objs.size (merged [] us)->Heap.SameBut s.heap.objs.size h1z h'->∀tk,(∀kvs,zNy ps=some kvs->zBi g1z kvs us)->Q (.ref s.heap.objs.size) { s with heap:=h',toks:=tk }):=by
    intro vs ps M1z g1z h1z tk1z e1z i1z r1 q1z
    refine xAA (e1z.led _ _ hled hfz hni fun z=>z) fun l1 f1 n1=>?_
    refine ⟨(i1z.led _ _ l1).1,fun us hkd hc h' hd hs tk hrep=>?_,fun us hkd hc h' hd hs tk hrep=>?_⟩
    · have go:∀kvs,zLF ps=some kvs->(kvs.map (·.1)).Nodup->∃o',h'.get? s.heap.objs.size=some o'/\zUv g1z o' kvs:=fun kvs hk nd=>by
        have hr:=hrep kvs hk
        rw [merged_nil_of_nodup us (by rw [hr.keys];exact nd)] at hd
        exact zNH i1z.hP hd hr
      have base:∀{g2z:Gh},Ext (fun b=>b=s.heap.objs.size) g1z g2z->Ext NoX g g2z:=fun e=>(EX0.trans e1z).via e fun b hb=>by rw [hb];exact I.freshLed
      induction kind using zTd.casesOn with
      | dct =>
        refine qh (qM q1z) fun kvs hk nd hkk=>?_
        refine zXb (go kvs hk nd) fun o' ho' es ep z22 nd' ks hr'=>?_;subst z22
        refine xA (i1z.freeze l1 f1 n1 hs ho') fun J EX=>?_
        refine ok _ _ M1z _ h' tk (base EX) J ?_ hkk
        refine (zCZ s.heap.objs.size es ep rfl noS ?_ ?_ nd ks (hr'.mono EX))
        · show (if _=_ then True else _);rw [if_pos rfl];trivial
        · show (if _=_ then _ else _)=_;rw [if_pos rfl]
      | cell =>
        refine qh (qM q1z) fun kvs hk nd hkk=>?_
        refine xEA (go kvs hk nd) fun o' ho' ok'=>?_
        refine xA (i1z.cellize (c:=.sdict kvs) l1 f1 n1 hs ho' ok') fun J EX=>?_
        refine ok _ _ _ _ h' tk (base EX) J ?_ hkk
        refine ⟨?_,by show M1z.n<g1z.n+1;rw [i1z.n];exact Nat.lt_succ_self _⟩
        show _=Value.ref (if M1z.n=g1z.n then _ else _)
        rw [if_pos i1z.n.symm]
      | idct=>exact absurd rfl hkd
    · subst hkd
      refine qh (qM q1z) fun kvs hk nd hkk=>?_
      have hr:=hrep kvs hk
      rw [merged_nil_of_nodup us (by rw [hr.keys];exact nd)] at hd
      refine zGX hd fun o' es ep ho' he hd' hkeys hp hn=>?_
      refine xA (zWk (w:=w) hp fun e he=>hkeys e (by simpa using he)) fun k1 k2=>?_
      obtain rfl:=zGI he hd'
      refine xA (i1z.freeze l1 f1 n1 hs ho') fun J EX=>?_
      refine ok _ _ M1z _ h' tk ((EX0.trans e1z).via EX fun b hb=>by rw [hb];exact I.freshLed) J ?_ hkk
      refine (zCZ s.heap.objs.size es.toList ep rfl noS ?_ ?_ nd (by rw [← hr.keys];exact k1) (by rw [k2];exact hr.vals.mono EX))
      · show (if _=_ then True else _);rw [if_pos rfl];trivial
      · show (if _=_ then _ else _)=_;rw [if_pos rfl]
  have EXs:∀e M' g' h' tk',Ext NoX (g.add s.heap.objs.size { cls:=.type "dict",data:=.dict #[] } False) g'->XIn w.params B L fs g' M' m e CLS h'->kx M'->E (.ref e) { s with heap:=h',toks:=tk' }:=fun e M' g' h' tk' ee=>ex e M' g' h' tk' (EX0.trans ee)
  have H:=hr.go A B outer fs L X _ M m { s with heap:=s.heap.push { cls:=.type "dict",data:=.dict #[] } } lo I0 (Lo.ext EX0) _ kx t
  by_cases hkd:kind=.idct
  · refine wpAny_Dict_pairs (knd:=intKind PG w) (hshape _) (h0 _) (hlen _) (H _ _ (fun vs ps M1z g1z h1z tk1z e1z i1z r1 q1z=>?_) EXs)
    refine xAA (fin vs ps M1z g1z h1z tk1z e1z i1z r1 q1z) fun a Z c=>?_
    subst hkd
    refine qh (qM q1z) fun kvs hk nd Z=>?_
    refine xEA (zKi (w:=w) hk r1) fun us hc hrk=>?_
    exact (q6 us hc (zBt _ (#[]) 0 a ⟨rfl,rfl,rfl⟩ rfl (fun Z he=>by simp at he) .nil List.nodup_nil) (fun h' hd hs=>c us rfl hc h' hd hs _ fun kvs' hk'=>by rw [hk] at hk';refine sE hk' ?_;clear hk';rintro rfl;exact hrk))
  · refine wpAny_Dict_pairs (knd:=strKind PG w) (hshape _) (h0 _) (hlen _) (H _ _ (fun vs ps M1z g1z h1z tk1z e1z i1z r1 q1z=>?_) EXs)
    refine xAA (fin vs ps M1z g1z h1z tk1z e1z i1z r1 q1z) fun a b Z=>?_
    obtain ⟨kvs,hk⟩:∃kvs,zLF ps=some kvs:=by
      induction kind using zTd.casesOn with
      | dct=>refine xEA (qM q1z) fun kvs hk Z=>?_;exact ⟨kvs,hk⟩
      | cell=>refine xEA (qM q1z) fun kvs hk Z=>?_;exact ⟨kvs,hk⟩
      | idct=>exact absurd rfl hkd
    refine xEA (zMP (w:=w) hk r1) fun us hc hrk=>?_
    exact (q6 us hc (zBt _ (#[]) 0 a ⟨rfl,rfl,rfl⟩ rfl (fun Z he=>by simp at he) .nil List.nodup_nil) (fun h' hd hs=>b us hkd hc h' hd hs _ fun kvs' hk'=>by rw [hk] at hk';refine sE hk' ?_;clear hk';rintro rfl;exact hrk))
def yr (c:MO):Den:=fun st k Z=>qo st fun lo μ=>(c=.sdict []\/c=.tdict [])/\k (.ref μ.n) (μ.new c)
theorem qT {c:MO}{pos:Pos}:yC Tp w d hz F cs nm (.Dict [] [] pos) (yr c):=by
  constructor
  intro A B outer fs L C cl X hC g M m s lo I Lo k kx t Q E ok ex
  refine xA t fun hc hk=>?_
  refine wpAny_Dict_empty ?_
  refine xA (I.addC { cls:=.type "dict",data:=.dict #[] } c rfl (by rcases hc with rfl | rfl<;>exact (yb [] 0 rfl List.nodup_nil rfl rfl))) fun J EX=>?_
  refine ok _ (.ref M.n) _ _ _ s.toks EX J ?_ hk
  refine ⟨?_,by show M.n<g.n+1;rw [I.n];exact Nat.lt_succ_self _⟩
  show _=Value.ref (if M.n=g.n then _ else _)
  rw [if_pos I.n.symm]
end

section
variable {w:World}{A:Around}{E:Value->Shared->Prop}{s:Shared}
theorem zWb {it a:Addr}{i ep:Nat}{es:List DictEntry}{Q:Option Value->Shared->Prop}(hh:A.handled=none) (hit:s.heap.IsKeyIter it a i es.length ep) (ha:s.heap.get? a=some (dictOf es ep))
    (more:∀e h',es[i]?=some e->h'.IsKeyIter it a (i+1) es.length ep->Heap.SameBut it s.heap h'->Q (some e.key) { s with heap:=h' })
    (last:es[i]?=none->∀h',Heap.ExtBut it s.heap h'->Q none { s with heap:=h' }):wpAny (model PG w) A (pyNext (.ref it)) Q E s:=by
  refine qh hit fun oi hoi hci hdi=>?_
  have hda:(dictOf es ep).data=.dict es.toArray ep:=rfl
  unfold pyNext
  refine wpAny_bind (wpAny_attempt (wpAny_callSpecial?_slot (name:=Str.ofString "__next__") hit.typeIs PySem.F.slot_dict_keyiterator_next
    (wpAny_call_entry PySem.F.slot_dict_keyiterator_next hit.typeIs PySem.F.entry_dict_keyiterator_next ?_ (PySem.F.args_dict_keyiterator_next_1 _))))
  refine wpAny_bind (wpAny_pure (wpAny_bind (wpAny_bind ?_)))
  first | refine wpAny_bind (wpAny_typeNameOfWhole_keyiter hit.typeIs (wpAny_pure ?_)) | refine wpAny_bind (wpAny_typeNameOf_keyiter hit.typeIs (wpAny_pure ?_))
  refine wpAny_bind (wpAny_fieldsOf hoi hdi ?_)
  have own0:Builtin.Dict_items.ownsTuple "dict_keyiterator" = false:=by decide
  rw [own0]
  show wpAny _ _ (if (Value.ref a==Value.none)=true then _ else _) _ _ s
  rw [if_neg (show ¬((Value.ref a==Value.none)=true) from Bool.false_ne_true)]
  refine wpAny_bind (wpAny_pure (wpAny_bind (wpAny_dictEntries ha hda ?_)))
  rw [if_neg (by simp)]
  refine wpAny_bind (wpAny_pure (wpAny_bind (wpAny_dictEpoch ha hda ?_)))
  rw [if_neg (by simp)]
  refine wpAny_pure ?_
  have pos0:¬((i:Int)<0):=by lia
  generalize hx:es[i]?=z12;induction z12 using Option.casesOn with
  | some e =>
    have hx':es.toArray[i]?=some e:=by simpa using hx
    simp only [pos0,if_false,Int.toNat_natCast,hx']
    refine wpAny_bind ?_
    first | refine wpAny_bind (wpAny_typeNameOfWhole_keyiter hit.typeIs (wpAny_pure ?_)) | refine wpAny_bind (wpAny_typeNameOf_keyiter hit.typeIs (wpAny_pure ?_))
    refine wpAny_bind (wpAny_isOneOf_keyiter hit.typeIs ?_)
    show wpAny _ _ (setField (.ref it) 1 (rawInt ((i:Int)+1)) >>= _) _ _ s
    refine wpAny_bind (wpAny_setField hoi hdi (by simp) ?_)
    have hit':(s.heap.update it (Obj.mapFields (·.setIfInBounds 1 (rawInt ((i:Int)+1))))).IsKeyIter it a (i+1) es.length ep:=
      (q6 _ (Heap.get?_update_self _ hoi (Obj.isFreed_of_fields (Obj.data_mapFields hdi _))) ((Obj.cls_mapFields ..).trans hci) (by rw [Obj.data_mapFields hdi];simp [rawInt]))
    refine wpAny_bind (wpAny_holding ?_)
    refine wpAny_bind (wpAny_isOneOf_keyiter (s:={ s with heap:=s.heap.update it (Obj.mapFields (·.setIfInBounds 1 (rawInt ((i:Int)+1)))) }) hit'.typeIs ?_)
    show wpAny _ _ (pure e.key) _ _ _
    exact wpAny_pure (wpAny_pure (iEA _ rfl (wpAny_pure (more e _ hx hit' (Heap.SameBut.update ..)))))
  | none =>
    have hx':es.toArray[i]?=none:=by simpa using hx
    simp only [pos0,if_false,Int.toNat_natCast,hx']
    refine wpAny_bind ?_
    first | refine wpAny_bind (wpAny_typeNameOfWhole_keyiter hit.typeIs (wpAny_pure ?_)) | refine wpAny_bind (wpAny_typeNameOf_keyiter hit.typeIs (wpAny_pure ?_))
    show wpAny _ _ (setField (.ref it) 0 .none >>= _) _ _ s
    refine wpAny_bind (wpAny_setField hoi hdi (by simp) ?_)
    show wpAny _ _ (newExc (.type "StopIteration") [] >>= _) _ _ _
    refine wpAny_bind ?_
    simp only [newExc,newTuple]
    refine wpAny_bind (wpAny_newObj_type ?_ (by size_fits))
    refine wpAny_bind (m:=firstArgMember _ _) (wpAny_of_eq (a:=Value.none) (by first | rfl | (simp only [firstArgMember];rfl)) ?_)
    refine wpAny_newObj_type ?_ (by size_fits)
    unfold raiseNew
    refine wpAny_bind (wpAny_handled ?_)
    rw [show A.in1.handled=none from hh]
    refine wpAny_bind (wpAny_pure (wpAny_throw ?_))
    refine wpAny_bind (wpAny_isInstance (T := "StopIteration") (b:=true) (iEA _ (Heap.get?_push_size _ rfl) rfl) isSubtype_stop ?_)
    exact wpAny_pure (last hx _ (((Heap.SameBut.update ..).extBut.push _).push _))
theorem zPz {a:Addr}{ep:Nat}{es:List DictEntry}{Q:Value->Shared->Prop}(hsys:(a==sysModules)=false) (ha:s.heap.get? a=some (dictOf es ep))
    (hQ:Q (.ref s.heap.objs.size) { s with heap:=s.heap.push { cls:=.type "dict_keyiterator",data:=.fields #[.ref a,.int 0 0,.int es.length 0,.int ep 0] } }):wpAny (model PG w) A (pyIter (.ref a)) Q E s:=by
  have hT:s.TypeIs (.ref a) "dict":=(iEA _ ha rfl)
  have hda:(dictOf es ep).data=.dict es.toArray ep:=rfl
  refine wpAny_pyIter_slot hT PySem.F.slot_dict_iter (wpAny_call_entry PySem.F.slot_dict_iter hT PySem.F.entry_dict_iter ?_ (PySem.F.args_dict_iter_1 _))
  unfold Builtin.«dict.__iter__»
  refine wpAny_bind ?_
  unfold Builtin.Dict.dictSlotNone
  refine wpAny_bind (wpAny_notOrdered_dict hT ?_)
  show wpAny _ _ (pure (Value.ref a)) _ _ s
  refine wpAny_pure ?_
  show wpAny _ _ (Builtin.Dict.showsAll a >>= _) _ _ s
  unfold Builtin.Dict.showsAll
  rw [if_neg (by rw [hsys];exact Bool.false_ne_true)]
  refine wpAny_bind (wpAny_pure (wpAny_bind (wpAny_dictEntries ha hda (wpAny_bind (wpAny_dictEpoch ha hda ?_)))))
  refine wpAny_bind (wpAny_newObj_type (wpAny_pure (zYS _ rfl ("dict_keyiterator") _ (iEA _ (Heap.get?_push_size _ rfl) rfl) PySem.F.slot_dict_keyiterator_next.lookup ?_)))
  simpa [rawInt] using hQ
end
def itP (M:Mem):PV->Option (List PV)
  | .lst xs=>some xs
  | .tup xs=>some xs
  | .ref i=>asI (M.c i)
  | .dct ks _=>some (ks.map .str)
  | .rng a b c=>hid (if Builtin.Range.small a b c=true then some ((List.range (Builtin.Range.rangeSize a b c).toNat).map fun (i:Nat)=>.int (a+(i:Int) * c)) else none)
  | _=>none
def stay (M₀ M:Mem):PV->Prop
  | .ref i=>M.c i=M₀.c i
  | _=>True
set_option genInjectivity false in
inductive ItK where
  | lst (a:Addr)
  | tup (a:Addr) (vs:List Value)
  | rng (a c:Int) (n:Nat)
  | dct (a:Addr) (es:List DictEntry) (ep:Nat)
def ItK.st (h:Heap) (I:Addr):ItK->Nat->Prop
  | .lst a,k=>h.IsListIter I a k
  | .tup a _,k=>IsTupIter h I a k
  | .rng a c n,k=>IsRangeIter h I (a+(k:Int) * c) ((n:Int)-(k:Int)) c
  | .dct a es ep,k=>h.IsKeyIter I a k es.length ep
def zJA (g:Gh) (M:Mem) (p:PV) (xs:List PV):ItK->Prop
  | .lst a=>Rep g p (.ref a)/\zAe M p=some xs
  | .tup a vs=>g.fz a/\g.led a=some (zm "tuple" vs 0)/\yJ g xs vs
  | .rng a c n=>xs=(List.range n).map fun (i:Nat)=>.int (a+(i:Int) * c)
  | .dct a es ep=>yJ g xs (es.map (·.key))/\g.led a=some (dictOf es ep)/\(g.fz a\/∃i kvs,p=.ref i/\i<g.n/\a=g.ρ i/\M.c i=.pin (dictOf es ep) kvs)
section
variable {w:World}{A:Around}{B:Heap}{L:Addr}{fs:Frs}{g g':Gh}{M M':Mem}{m:Str->Option Value}{s:Shared}{P:Params}{h h':Heap}{p:PV}{xs:List PV}{K:ItK}{k:Nat}{I:Addr}{E:Value->Shared->Prop}
theorem zJA.mono {ex:Addr->Prop}(x:zJA g M p xs K) (EX:Ext ex g g') (J:Inv P B L fs g' M' m h') (st:stay M M' p):zJA g' M' p xs K:=by
  induction K using ItK.casesOn with
  | lst a =>
    refine xA x fun r e=>?_
    refine ⟨r.mono EX,?_⟩
    induction p using PV.casesOn with
    | ref i =>
      have st':M'.c i=M.c i:=st
      show asL (M'.c i)=_
      rw [st'];exact e
    | lst ys=>exact e
    | _=>exact zW e
  | tup a vs=>exact ⟨(EX.fz _ _ x.2.1 x.1).2,(EX.fz _ _ x.2.1 x.1).1,x.2.2.mono EX⟩
  | rng a c n=>exact x
  | dct a es ep =>
    refine xAA x fun r l q=>?_
    refine ⟨r.mono EX,?_⟩
    rcases q with f | ⟨i,kvs,rfl,hi,rfl,hc⟩
    · exact ⟨(EX.fz _ _ l f).1,.inl (EX.fz _ _ l f).2⟩
    · have st':M'.c i=M.c i:=st
      have hi':i<g'.n:=Nat.lt_of_lt_of_le hi EX.n
      refine qh (J.cell i hi') fun o e Z c=>?_
      rw [st',hc] at c
      refine xA c ?_;clear c;intro z2 _;subst z2
      rw [EX.ρ i hi] at e
      exact ⟨e,.inr (yb i kvs rfl hi' ((EX.ρ i hi).symm) (st'.trans hc))⟩
structure zFf (g:Gh) (h:Heap) (I:Addr) (K:ItK) (k:Nat):Prop where
  led:∃o vs,g.led I=some o/\o.data=.fields vs
  nf:¬g.fz I
  ni:∀i,i<g.n->I≠g.ρ i
  st:K.st h I k
theorem ItK.st.obj (x:K.st h I k):∃o vs,h.get? I=some o/\o.data=.fields vs:=by
  induction K using ItK.casesOn with
  | lst a=>refine qh x fun o ho Z hd=>?_;exact (zES o _ ho hd)
  | tup a vs=>refine qh x fun o ho Z hd=>?_;exact (zES o _ ho hd)
  | rng a c n=>exact (zES _ _ x rfl)
  | dct a es ep=>refine qh x fun o ho Z hd=>?_;exact (zES o _ ho hd)
theorem ItK.st.at (x:K.st h I k) (e:∀o,h.get? I=some o->h'.get? I=some o):K.st h' I k:=by
  induction K using ItK.casesOn with
  | lst a=>refine xEA x fun o ho r=>?_;exact (iEA o (e o ho) r)
  | tup a vs=>refine xEA x fun o ho r=>?_;exact (iEA o (e o ho) r)
  | rng a c n=>exact e _ x
  | dct a es ep=>refine xEA x fun o ho r=>?_;exact (iEA o (e o ho) r)
theorem zFf.mono {ex:Addr->Prop}{M₀:Mem}{m0:Str->Option Value}(x:zFf g h I K k) (EX:Ext ex g g') (J0:Inv P B L fs g M₀ m0 h) (J:Inv P B L fs g' M' m h') (hI:¬ex I):zFf g' h' I K k:=by
  obtain ⟨⟨o,vs,l,hd⟩,nf,ni,st⟩:=x
  refine xAA (EX.led _ _ l nf ni hI) fun l' nf' ni'=>?_
  exact ⟨(zES o vs l' hd),nf',ni',st.at fun o' e=>by
    have:=(J0.led _ _ l).1
    rw [this] at e;refine sE e ?_;clear e;rintro rfl
    exact (J.led _ _ l').1⟩
theorem SOk.extF {F:FD}{nm:List Str}{lo:List (Option PV)}{o:Obj}{vs:Array Value}(x:SOk F nm L g m lo) (EX:Ext (fun b=>b=I) g g') (l:g.led I=some o) (hd:o.data=.fields vs):SOk F nm L g' m lo:=by
  have ne:∀c oc v,g.led c=some oc->oc.data=.cell v->c≠I:=fun c oc v e hc q=>by
    subst q;rw [l] at e;refine sE e ?_;clear e;rintro rfl;rw [hd] at hc;cases hc
  have ne':∀c oc es ep,g.led c=some oc->oc.data=.dict es ep->c≠I:=fun c oc es ep e hc q=>by
    subst q;rw [l] at e;refine sE e ?_;clear e;rintro rfl;rw [hd] at hc;cases hc
  refine ⟨fun i pv e=>?_,fun y c e=>?_⟩
  · refine zt (x.lo i pv e) fun y v h1 h2 h3=>?_
    refine (yS y v h1 ?_ (h3.mono EX))
    rcases h2 with z | ⟨k,c,oc,h1,h2,h3,h4,h5⟩ | ⟨k,hn,oc,es,ep,h2,h3,h4,h5⟩
    · exact .inl z
    · refine xAA (EX.led _ _ h2 h3 h4 (ne c oc _ h2 h5)) fun a b c'=>?_
      exact .inr (.inl (zDo k c oc h1 a b c' h5))
    · refine xAA (EX.led _ _ h2 h3 h4 (ne' _ oc _ _ h2 h5.1)) fun a b c'=>?_
      exact .inr (.inr (zMZ k hn oc es ep a b c' h5))
  · refine yl (x.co y c e) fun oc v h1 h2 h3 h4=>?_
    refine xAA (EX.led _ _ h1 h2 h3 (ne c oc _ h1 h4)) fun a b c'=>?_
    exact (yb oc v a b c' h4)
noncomputable def Gh.del (g:Gh) (a:Addr):Gh:=⟨g.P,g.n,fun b=>if b=a then none else g.led b,g.fz,g.ρ⟩
theorem Inv.del {a:Addr}(I:Inv P B L fs g M m h) {o:Obj}(e:g.led a=some o) (f:¬g.fz a) (ni:∀i,i<g.n->a≠g.ρ i) (hs:Heap.ExtBut a h h'):Inv P B L fs (g.del a) M m h'/\Ext (fun b=>b=a) g (g.del a):=by
  have E:Ext (fun b=>b=a) g (g.del a):={
    P:=rfl
    n:=Nat.le_refl _
    ρ:=fun Z Z=>rfl
    fz:=fun b ob eb fb=>by
      have hb:b≠a:=fun q=>by subst q;exact f fb
      exact ⟨by show (if b=a then _ else _)=_;rw [if_neg hb];exact eb,fb⟩
    led:=fun b ob eb fb nb hb=>⟨by show (if b=a then _ else _)=_;rw [if_neg hb];exact eb,fb,nb⟩ }
  refine xAA (I.led _ _ e) fun x y w=>?_
  refine ⟨⟨fun b ob eb=>hs b ob (fun q=>by rw [q,w f] at eb;exact zW eb) (I.keep b ob eb),?_,I.lb,fun b ob eb=>?_,I.n,fun i hi=>?_,I.inj,fun p hp=>?_,I.hP⟩,E⟩
  · exact I.ns.extBut hs (Ne.symm y)
  · have e':(if b=a then none else g.led b)=some ob:=eb
    split at e'
    · exact zW e'
    · rename_i hb
      exact ⟨hs b ob hb (I.led b ob e').1,(I.led b ob e').2⟩
  · refine qh (I.cell i hi) fun oi ei fi ci=>?_
    have hne:g.ρ i≠a:=fun q=>ni i hi q.symm
    exact (q6 oi (by show (if g.ρ i=a then _ else _)=_;rw [if_neg hne];exact ei) fi (ci.ext E))
  · refine zBb (I.fs p hp) fun a1 a2 a3 a4=>?_
    have q:p.1≠a:=fun q=>by rw [q,e] at a3;exact zCR a3
    exact (zEg (a1.extBut hs q) a2 (by show (if p.1=a then _ else _)=_;rw [if_neg q];exact a3) a4)
theorem zSj (hh:A.handled=none) (J:Inv w.params B L fs g M m s.heap) (x:zJA g M p xs K) (y:zFf g s.heap I K k) {Q:Option Value->Shared->Prop}
    (more:∀q,xs[k]?=some q->∀v g' h' tk',Ext (fun b=>b=I) g g'->Inv w.params B L fs g' M m h'->Rep g' q v->zFf g' h' I K (k+1)->zJA g' M p xs K->Q (some v) { s with heap:=h',toks:=tk' })
    (last:xs[k]?=none->∀g' h' tk',Ext (fun b=>b=I) g g'->Inv w.params B L fs g' M m h'->Q none { s with heap:=h',toks:=tk' }):wpAny (model PG w) A (pyNext (.ref I)) Q E s:=by
  obtain ⟨⟨oI,vsI,lI,hdI⟩,nf,ni,st⟩:=y
  have fin:∀q,xs[k]?=some q->∀v,Rep g q v->∀h' tk',K.st h' I (k+1)->Heap.SameBut I s.heap h'->Q (some v) { s with heap:=h',toks:=tk' }:=fun q hq v rv h' tk' st' hs=>by
    refine zHH st'.obj fun o' vs' ho' hd'=>?_
    refine xA (J.putV lI nf ni hs ho') fun J' EX=>?_
    have l':(g.put I o').led I=some o':=by show (if I=I then _ else _)=_;rw [if_pos rfl]
    exact more q hq v _ h' tk' EX J' (rv.mono EX) ⟨(zES o' vs' l' hd'),nf,ni,st'⟩ (x.mono EX J' (by unfold stay;split<;>trivial))
  have fin0:xs[k]?=none->∀h' tk',Heap.ExtBut I s.heap h'->Q none { s with heap:=h',toks:=tk' }:=fun hq h' tk' hs=>by
    refine xA (J.del lI nf ni hs) fun J' EX=>?_
    exact last hq _ h' tk' EX J'
  have getK:∀{vs:List Value},yJ g xs vs->(∀v,vs[k]?=some v->∃q,xs[k]?=some q/\Rep g q v)/\(vs[k]?=none->xs[k]?=none):=fun {vs} r=>by
    have hl:=r.length
    refine ⟨fun v e=>?_,fun e=>?_⟩
    · have hk:k<xs.length:=by rw [← hl];exact (List.getElem?_eq_some_iff.mp e).1
      refine xEA (r.get k (List.getElem?_eq_getElem hk)) fun v' e' rr=>?_
      rw [e] at e';refine sE e' ?_;clear e';rintro rfl
      exact (iEA _ (List.getElem?_eq_getElem hk) rr)
    · rw [List.getElem?_eq_none_iff] at e ⊢;lia
  induction K using ItK.casesOn with
  | lst a =>
    refine xA x fun r e=>?_
    refine yY (r.list J e) fun a' vs ep e1 l hl hr=>?_
    cases e1
    refine xA (getK hr) fun g1 g2=>?_
    generalize hv:vs[k]?=z13;induction z13 using Option.casesOn with
    | some v =>
      refine xEA (g1 v hv) fun q hq rv=>?_
      exact wpAny_pyNext_list_item st hl (x:=v) (by simpa using hv) fun h' st' hs=>fin q hq v rv h' s.toks st' hs
    | none=>exact wpAny_pyNext_list_end hh st hl (by simpa using hv) fun h' hs=>fin0 (g2 hv) h' s.toks hs
  | tup a vs =>
    refine xAA x fun f l r=>?_
    refine xA (getK r) fun g1 g2=>?_
    have ht:IsTup s.heap a vs.toArray:=(zKg _ ((J.led _ _ l).1) rfl _ rfl)
    generalize hv:vs[k]?=z14;induction z14 using Option.casesOn with
    | some v =>
      refine xEA (g1 v hv) fun q hq rv=>?_
      exact PyProof.Rows.next_tuple_item st ht (x:=v) (by simpa using hv) fun h' st' hs=>fin q hq v rv h' s.toks st' hs
    | none=>exact PyProof.Rows.next_tuple_end hh st ht (by simpa using hv) fun h' hs=>fin0 (g2 hv) h' s.toks hs
  | rng a c n =>
    have x':xs=(List.range n).map fun (i:Nat)=>.int (a+(i:Int) * c):=x
    by_cases hk:k<n
    · refine wpAny_pyNext_range_item st (by lia) fun h' st' hs=>fin (.int (a+(k:Int) * c)) ?_ _ ⟨_,rfl⟩ h' _ ?_ hs
      · rw [x',List.getElem?_map,List.getElem?_range hk];rfl
      · show IsRangeIter h' I _ _ _
        have e1:a+((k+1:Nat):Int) * c=a+(k:Int) * c+c:=by push_cast;rw [Int.add_mul,Int.one_mul,Int.add_assoc]
        have e2:(n:Int)-((k+1:Nat):Int)=(n:Int)-(k:Int)-1:=by push_cast;lia
        rw [e1,e2];exact st'
    · refine wpAny_pyNext_range_end hh st (by lia) fun h' hs=>fin0 ?_ h' s.toks hs
      rw [x',List.getElem?_map,List.getElem?_eq_none (by rw [List.length_range];lia)];rfl
  | dct a es ep =>
    refine xAA x fun r l q=>?_
    refine xA (getK r) fun g1 g2=>?_
    refine zWb hh st (J.led _ _ l).1 (fun e h' he st' hs=>?_) fun he h' hs=>?_
    · refine xEA (g1 e.key (by rw [List.getElem?_map,he];rfl)) fun q hq rv=>?_
      exact fin q hq _ rv h' s.toks st' hs
    · exact fin0 (g2 (by rw [List.getElem?_map,he];rfl)) h' s.toks hs
theorem zUL {target:Expr}{v:Value}{Q:Unit->Shared->Prop}(st:K.st s.heap I k) (h:Q () s):wpAny (model PG w) A (letOwnedTupleGo target (.ref I) v) Q E s:=by
  induction K using ItK.casesOn with
  | lst a=>exact letGo_listiter st h
  | tup a vs=>exact PyProof.Rows.letGo_tupleiter (t:=a) (i:=k) (by refine xE st fun o r=>?_;exact ⟨o,r⟩) h
  | rng a c n =>
    have st':s.heap.get? I=some _:=st
    unfold letOwnedTupleGo
    induction target using PySem.Expr.casesOn<;>first
      | exact wpAny_pure h
      | (induction v using PySem.Value.casesOn<;>first
          | exact wpAny_pure h
          | (refine wpAny_bind (wpAny_load st' ?_);exact wpAny_pure h))
  | dct a es ep=>exact letGo_keyiter st h
theorem zTC {g:Gh}:∀{ks:List (List Int)}{es:List DictEntry},KT g ks es->yJ g (ks.map fun k=>.tup (k.map .int)) (es.map (·.key))
  | [],_,h=>by subst h;rfl
  | k::ks,_,h=>by
    refine yl h ?_;clear h;intro e r z3 a _ c;subst z3
    exact (yS _ _ rfl a (zTC c))
theorem zTN {g:Gh}{P:Params}:∀{ks:List Str}{es:List DictEntry},KS P ks es->yJ g (ks.map .str) (es.map (·.key))
  | [],_,h=>by subst h;rfl
  | k::ks,_,h=>by
    refine yl h ?_;clear h;intro e r z4 z5 _ c;subst z4;obtain ⟨t,a⟩:=z5
    exact (yS _ _ rfl ⟨t,a⟩ (zTN c))
theorem zJb (HS:∃o,B.get? sysModules=some o) (J:Inv w.params B L fs g M m s.heap) {vp:Value}(r:Rep g p vp) (e:itP M p=some xs) {Q:Value->Shared->Prop}
    (ok:∀I K g' h' tk',g.led I=none->Ext NoX g g'->Inv w.params B L fs g' M m h'->zJA g' M p xs K->zFf g' h' I K 0->Q (.ref I) { s with heap:=h',toks:=tk' }):wpAny (model PG w) A (pyIter vp) Q E s:=by
  have fin:∀(o:Obj) (vs:Array Value) K,o.data=.fields vs->o.isFreed=false->zJA g M p xs K->K.st (s.heap.push o) s.heap.objs.size 0->Q (.ref s.heap.objs.size) { s with heap:=s.heap.push o }:=fun o vs K hd hf x st=>by
    refine xA (J.add o False hf) fun J' EX=>?_
    have l':(g.add s.heap.objs.size o False).led s.heap.objs.size=some o:=by show (if _=_ then _ else _)=_;rw [if_pos rfl]
    refine ok _ K _ _ s.toks J.freshLed EX J' (x.mono EX J' (by unfold stay;split<;>trivial)) ⟨(zES o vs l' hd),?_,?_,st⟩
    · show ¬(if _=_ then False else _);rw [if_pos rfl];exact id
    · intro i hi q
      refine xEA (J.cell i hi) fun oi ei Z=>?_
      have q':s.heap.objs.size=g.ρ i:=q
      exact absurd (J.lt ei) (by rw [← q'];exact Nat.lt_irrefl _)
  have lst:∀a vs,vp=.ref a->s.heap.IsList a vs->zAe M p=some xs->wpAny (model PG w) A (pyIter vp) Q E s:=fun a vs hv hl hlp=>by
    subst hv
    exact wpAny_pyIter_list hl (fin _ _ (.lst a) rfl rfl ⟨r,hlp⟩ (q6 _ (Heap.get?_push_size _ rfl) rfl rfl))
  induction p using PV.casesOn with
  | lst ys =>
    refine yY (r.list J e) fun a vs ep h1 h2 h3 h4=>?_
    exact lst a _ h1 h3 e
  | tup ys =>
    refine sE e ?_;clear e;rintro rfl
    refine zAG (r.isTup J) fun a vs z6 f l ht hr=>?_;subst z6
    exact PyProof.Rows.iter_tuple ht (fin _ _ (.tup a vs) rfl rfl ⟨f,l,hr⟩ (q6 _ (Heap.get?_push_size _ rfl) rfl rfl))
  | ref i =>
    replace e:asI (M.c i)=some xs:=e
    generalize hc:M.c i=c at e
    induction c using MO.casesOn with
    | list ys =>
      have hlp:zAe M (.ref i)=some xs:=(zDT hc).trans e
      refine yY (r.list J hlp) fun a vs ep h1 h2 h3 h4=>?_
      exact lst a _ h1 h3 hlp
    | pin o kvs =>
      refine sE e ?_;clear e;rintro rfl
      refine xA (J.ref r) fun z7 hi=>?_;subst z7
      refine qh (J.cell i hi) fun o' l f c=>?_
      rw [hc] at c
      refine zTZ c ?_;clear c;intro z8 es ep z9 nd hk hr;subst z8;subst z9
      have rk:=zTC hk
      rw [List.map_map] at rk
      exact zPz (zMe HS (J.cellNo hi)) (J.led _ _ l).1 (fin _ _ (.dct (g.ρ i) es ep) rfl rfl ⟨rk,l,.inr (yb i kvs rfl hi rfl hc)⟩ (q6 _ (Heap.get?_push_size _ rfl) rfl rfl))
    | _=>exact zW e
  | dct ks vs =>
    refine sE e ?_;clear e;rintro rfl
    refine zBF r ?_;clear r;intro a es ep z10 sm f l nd hk hr;subst z10
    exact zPz sm (J.led _ _ l).1 (fin _ _ (.dct a es ep) rfl rfl ⟨zTN hk,l,.inl f⟩ (q6 _ (Heap.get?_push_size _ rfl) rfl rfl))
  | rng a b c =>
    · refine zJQ (y9.symm.trans e) ?_;clear e;rintro hsm rfl
      refine zOl r ?_;clear r;intro x t u z z11 f l;subst z11
      have hE:Builtin.Range.rangeSize a b c=((Builtin.Range.rangeSize a b c).toNat:Int):=(Int.toNat_of_nonneg (zGk a b c)).symm
      refine wpAny_pyIter_range (J.led _ _ l).1 hsm (fin _ _ (.rng a c (Builtin.Range.rangeSize a b c).toNat) rfl rfl rfl ?_)
      show IsRangeIter _ _ _ _ _
      have z0:a+((0:Nat):Int) * c=a:=by simp
      have z1:((Builtin.Range.rangeSize a b c).toNat:Int)-((0:Nat):Int)=Builtin.Range.rangeSize a b c:=by rw [← hE];simp
      rw [z0,z1]
      exact Heap.get?_push_size _ rfl
  | _=>exact zW e
end

theorem Ext.viaO {ex:Addr->Prop}{g g1z g2z:Gh}{I:Addr}(x:Ext ex g g1z) (y:Ext (fun b=>b=I) g1z g2z) (h:g.led I=none):Ext ex g g2z:=
  ⟨y.P.trans x.P,Nat.le_trans x.n y.n,fun i hi=>(y.ρ i (Nat.lt_of_lt_of_le hi x.n)).trans (x.ρ i hi),fun a o e f=>let ⟨e',f'⟩:=x.fz a o e f;y.fz a o e' f',
    fun a o e f n q=>let ⟨e',f',n'⟩:=x.led a o e f n q;y.led a o e' f' n' fun z=>by rw [z,h] at e;exact zW e⟩
section
variable {Tp:World->Heap->Prop}{w:World}{d:Nat}{hz:Bool}{F:FD}{nm:List Str}
section
variable {A:Around}{B:Heap}{outer:List Env}{fs:Frs}{L:Addr}{g:Gh}{M:Mem}{m:Str->Option Value}{s:Shared}{e:Addr}{E:Value->Shared->Prop}
theorem XIn.out {Tp:Heap->Prop}{env:Env}(hef:env.frame=some L) (X:Ct Tp d hz A B outer fs L F) (x:XIn w.params B L fs g M m e CLS s.heap) (k:∀h',XIn w.params B L fs g M m e CLS h'->E (.ref e) { s with heap:=h' }) :
    notedBy (model PG w) A env (fun e s'=>cameBackBy (model PG w) A env E e s') (.ref e) s:=by
  unfold notedBy
  refine XIn.note (w:=w) hef X x fun h' y tr=>?_
  exact XIn.cameBack (s:={ s with heap:=h' }) hef y tr fun h'' y'=>k h'' y'
end
abbrev Tg:=List (Option PV)->PV->Option (List (Option PV))
structure zTf (Tp:World->Heap->Prop) (w:World) (d:Nat) (hz:Bool) (F:FD) (nm:List Str) (t:Expr) (tg:Tg):Prop where
  go:∀(A:Around) (B:Heap) (outer:List Env) (fs:Frs) (L:Addr),Ct (Tp w) d hz A B outer fs L F->∀(g:Gh) (M:Mem) (m:Str->Option Value) (s:Shared) (lo lo':List (Option PV)) (v:Value) (p:PV),
    Inv w.params B L fs g M m s.heap->SOk F nm L g m lo->Rep g p v->tg lo p=some lo'->∀(Q:Unit->Shared->Prop) (E:Value->Shared->Prop),
      (∀m' g' h' tk',Ext (zAI F L) g g'->Inv w.params B L fs g' M m' h'->SOk F nm L g' m' lo'->Q () { s with heap:=h',toks:=tk' })->wpAny (model PG w) A (assign t (yE F L) v) Q E s
noncomputable def yv (i:Nat):Tg:=fun lo p=>some (lo.set i (some p))
theorem zAi {x:Str}{pos:Pos}(i:Nat) (hi:nm[i]?=some x) (nd:nm.Nodup) (hk:qU F x):zTf Tp w d hz F nm (.Name x pos) (yv i):=by
  constructor
  intro A B outer fs L X g M m s lo lo' v p I So r e Q E ok
  refine sE e ?_;clear e;rintro rfl
  exact PyProof.Rows.assign_Name (zDn X.fk I So r hi nd (hk L) ok)
noncomputable def zTQ (is:List Nat):Tg:=fun lo p=>(zXW p).bind fun ps=>cond (Nat.beq ps.length is.length) (some (zBg lo is ps)) none
theorem zXF {ts:List (Str×Pos)}{is:List Nat}{k:Nat}{tpos:Pos}(hN:zDx F nm ts is) (nd:nm.Nodup):zTf Tp w d true F nm (.Tuple (zIZ ts) k tpos) (zTQ is):=by
  constructor
  intro A B outer fs L X g M m s lo lo' v p I So r e Q E ok
  revert r;apply zTU e;clear e;intro ps e r
  · generalize hl:Nat.beq ps.length is.length=z at e
    induction z using Bool.casesOn with
    | false=>exact zW e
    | true =>
      have hl:=Nat.eq_of_beq_eq_true hl
      refine sE e ?_;clear e;rintro rfl
      refine zAG (r.isTup I) fun b vs z1 Z l ht hr=>?_;subst z1
      refine assign_Tuple_tuple (X.hz rfl) ht (by rw [qA,List.length_map,List.size_toArray,hr.length,hl,hN.length]) (by rw [qA];simp) fun h2z hx=>?_
      have J:=I.keeps fun b ob eb=>hx b ob (Nat.ne_of_lt (Heap.lt_size eb)) eb
      rw [qA,List.map_map]
      exact zSi (w:=w) X.fk nd hN (s:={ s with heap:=h2z }) J So hr hl fun m' g' h' tk' e i so=>ok m' g' h' tk' e i so
def sK (q:Prop) (M₀ M:Mem) (p:PV):Prop:=match p with | .ref i=>M.c i=M₀.c i/\q | _=>q
theorem zHh {M₀ M:Mem}{p:PV}{q:Prop}(h:sK q M₀ M p):stay M₀ M p/\q:=by
  induction p using PV.casesOn with
  | ref i=>exact h
  | _=>exact ⟨trivial,h⟩
def zCJ (tg:Tg) (b:zX) (p:PV) (M₀:Mem):List PV->zX
  | []=>fun st kn Z Z=>qo st fun lo μ=>sK (kn st) M₀ μ p
  | x::r=>fun st kn kr kx=>qo st fun lo μ=>sK (oK (fun lo'=>b ⟨lo',μ⟩ (fun st'=>zCJ tg b p M₀ r st' kn kr kx) kr kx) .mk (tg lo x)) M₀ μ p
def zFa (tg:Tg) (a:Den) (b:zX):zX:=fun st kn kr kx=>qo st fun lo μ=>a st (fun p M=>oK (fun xs=>zCJ tg b p M xs ⟨lo,M⟩ kn kr kx) .mk (itP M p)) (fun M=>kx ⟨lo,M⟩)
theorem stay.refl (M:Mem) (p:PV):stay M M p:=by unfold stay;split<;>trivial
theorem stay.step {M₀ M M':Mem}{p:PV}(a:stay M₀ M p) (b:stay M₀ M' p):stay M M' p:=by
  induction p using PV.casesOn with
  | ref i=>exact Eq.trans b (Eq.symm a)
  | _=>trivial
theorem zCJ.stay {tg:Tg}{b:zX}{p:PV}{M₀:Mem}{xs:List PV}{st:St}{kn:St->Prop}{kr:PV->Mem->Prop}{kx:St->Prop}(h:zCJ tg b p M₀ xs st kn kr kx):Mine.stay M₀ st.mem p:=by
  induction xs using List.casesOn with
  | nil=>exact (zHh h).1
  | cons x r=>exact (zHh h).1
theorem zSU {xs:List PV}{k:Nat}{q:PV}(hq:xs[k]?=some q):xs.drop k=q::xs.drop (k+1):=by
  obtain ⟨h1,h2⟩:=List.getElem?_eq_some_iff.mp hq
  rw [List.drop_eq_getElem_cons h1,h2]
inductive zXe (w:World) (B:Heap) (L:Addr) (fs:Frs) (F:FD) (nm:List Str) (g₀:Gh) (n0z:Nat) (tg:Tg) (b:zX) (p:PV) (M₀:Mem) (xs:List PV) (K:ItK) (I:Addr) (kn:St->Prop) (kr:PV->Mem->Prop) (kx:St->Prop) (s:Shared):Nat->Shared->Prop
  | mk (k m' g' h' tk' lo' M'):Ext (zAI F L) g₀ g'->Inv w.params B L fs g' M' m' h'->SOk F nm L g' m' lo'->zJA g' M' p xs K->zFf g' h' I K k->zCJ tg b p M₀ (xs.drop k) ⟨lo',M'⟩ kn kr kx->n0z<=g'.n ->
    zXe w B L fs F nm g₀ n0z tg b p M₀ xs K I kn kr kx s ((xs.drop k).length+1) { s with heap:=h',toks:=tk' }
theorem zSh {target:Expr}{body:List Stmt}{tg:Tg}{b:zX}{p:PV}{M₀:Mem}{xs:List PV}{A:Around}{B:Heap}{outer:List Env}{fs:Frs}{L:Addr}{g₀ g:Gh}{M:Mem}{m:Str->Option Value}{s:Shared}{lo:List (Option PV)}{K:ItK}{I:Addr}
    {kn:St->Prop}{kr:PV->Mem->Prop}{kx:St->Prop}{Q:Flow->Shared->Prop}{E:Value->Shared->Prop}(X:Ct (Tp w) d true A B outer fs L F) (hT:zTf Tp w d true F nm target tg) (hb:zz Tp w d true F nm body b)
    (h0:g₀.led I=none) (EX:Ext (zAI F L) g₀ g) (J:Inv w.params B L fs g M m s.heap) (So:SOk F nm L g m lo) (x:zJA g M p xs K) (y:zFf g s.heap I K 0) (hl:zCJ tg b p M₀ xs ⟨lo,M⟩ kn kr kx)
    (on:∀st' m' g' h' tk',Ext (zAI F L) g₀ g'->Inv w.params B L fs g' st'.mem m' h'->SOk F nm L g' m' st'.lo->kn st'->g.n<=g'.n->stay M₀ st'.mem p->Q .next { s with heap:=h',toks:=tk' })
    (or:SRt w B L fs F g₀ s kr Q)
    (ox:SEx w B L fs F nm g₀ s kx E) :
    codeAny (model PG w) A (.forLoop target (.ref I) body [] (yE F L)) (fun r s'=>match r with | .ok f=>Q f s' | .error e=>cameBackBy (model PG w) A (yE F L) E e s') s:=by
  obtain ⟨V,hV⟩:∃V,V=zXe w B L fs F nm g₀ g.n tg b p M₀ xs K I kn kr kx s:=⟨_,rfl⟩
  refine codeAny_forLoop_any V ?_ (xs.length+1) (by rw [hV];exact zXe.mk 0 m g s.heap s.toks lo M EX J So x y hl (Nat.le_refl _))
  intro n s' hn;rw [hV] at hn
  obtain ⟨k,m',g',h',tk',lo',M',EX',J',So',x',y',hl',hn'⟩:=hn
  obtain ⟨⟨oI,vsI,lI,hdI⟩,nfI,niI,stI⟩:=id y'
  refine zSj (s:={ s with heap:=h',toks:=tk' }) (X.hz rfl) J' x' y' (fun q hq v g1z h1z tk1z e1z j1z r1 ent1 ok1z=>?_) fun hq g1z h1z tk1z e1z j1z=>?_
  · have hd:=zSU hq
    rw [hd] at hl'
    refine xA (zHh hl') fun hst hl'=>?_
    refine xEA (qM hl') fun lo'' htg hbody=>?_
    have So1:=So'.extF e1z lI hdI
    have E1:=EX'.viaO e1z h0
    refine zUL (K:=K) (k:=k+1) (s:={ s with heap:=h1z,toks:=tk1z }) ent1.st ?_
    refine hT.go A B outer fs L X g1z M' m' { s with heap:=h1z,toks:=tk1z } lo' lo'' v q j1z So1 r1 htg _ _ fun m2z g2z h2z tk2 e2z j2z so2=>?_
    have notOwn:¬zAI F L I:=fun ⟨z,hz⟩=>by
      refine yl (So'.co z I hz) fun oc vc hc Z Z hdc=>?_
      rw [lI] at hc;refine sE hc ?_;clear hc;rintro rfl
      rw [hdI] at hdc;cases hdc
    have ent2:=ent1.mono e2z j1z j2z notOwn
    have ok2z:=ok1z.mono e2z j2z (stay.refl _ _)
    have E2:=E1.trans e2z
    refine (hb.go A B outer fs L X g2z M' m2z { s with heap:=h2z,toks:=tk2 } lo'' j2z so2 _ kr kx hbody) _ _ (fun st3 m3 g3z h3z tk3 e3z j3z so3 q3z=>?_) (fun v pv M3z m3 g3z h3z tk3 e3z j3z r3z q3z=>?_) fun e st3 m3 g3z h3z tk3 e3z j3z so3 q3z=>?_
    · exact ⟨(xs.drop (k+1)).length+1,by rw [hd];exact Nat.lt_succ_self _,by rw [hV];exact zXe.mk (k+1) m3 g3z h3z tk3 st3.lo st3.mem (E2.trans e3z) j3z so3 (ok2z.mono e3z j3z (stay.step hst q3z.stay)) (ent2.mono e3z j2z j3z notOwn) q3z (Nat.le_trans hn' (Nat.le_trans e1z.n (Nat.le_trans e2z.n e3z.n)))⟩
    · exact or v pv M3z m3 g3z h3z tk3 (E2.trans e3z) j3z r3z q3z
    · exact XIn.out (s:={ s with heap:=h3z,toks:=tk3 }) rfl X j3z fun h4z y4z=>ox e st3 m3 g3z h4z tk3 (E2.trans e3z) y4z so3 q3z
  · rw [List.drop_eq_nil_of_le (List.getElem?_eq_none_iff.mp hq)] at hl'
    exact wpAny_execs_nil (on ⟨lo',M'⟩ m' g1z h1z tk1z (EX'.viaO e1z h0) j1z (So'.extF e1z lI hdI) (zHh hl').2 (Nat.le_trans hn' e1z.n) (zHh hl').1)
theorem zCp {target iter:Expr}{body:List Stmt}{pos:Pos}{tg:Tg}{a:Den}{b:zX}(HS:zDb Tp w) (hT:zTf Tp w d true F nm target tg) (ha:yC Tp w d true F none nm iter a) (hb:zz Tp w d true F nm body b)
    (hs:∀L x,foldedSetIterable iter (yE F L) x=pure x):zDa Tp w d true F nm (.For target iter body [] pos) (zFa tg a b):=by
  constructor
  intro A B outer fs L X g M m s lo I So kn kr kx t Q E on or ox
  refine wpAny_For ((ha.go A B outer fs L L [] X (fun z=>by exact zV z) g M m s lo I So.lo _ _ t) _ _ (fun v p M1z g1z h1z tk1z e1z i1z r1 q1z=>?_)
    fun e M' g' h' tk' ee i q=>ox e ⟨lo,M'⟩ m g' h' tk' ee.ownX i (So.ext ee) q) (hs L)
  refine xEA (qM q1z) fun xs hx hl=>?_
  refine zJb (s:={ s with heap:=h1z,toks:=tk1z }) (HS B X.top) i1z r1 hx fun Ia K g2z h2z tk2 hI e2z i2z ok2z ent2=>?_
  have hI0:g.led Ia=none:=by
    generalize q:g.led Ia=z4;induction z4 using Option.casesOn with
    | none=>rfl
    | some o =>
      by_cases f:g.fz Ia
      · rw [(e1z.fz _ _ q f).1] at hI;exact zCR hI
      · by_cases hn:∀i,i<g.n->Ia≠g.ρ i
        · rw [(e1z.led _ _ q f hn fun z=>z).1] at hI;exact zCR hI
        · have ⟨i,hi,hq⟩:∃i,i<g.n/\Ia=g.ρ i:=by
            refine Classical.byContradiction fun z=>hn fun i hi hq=>z ⟨i,hi,hq⟩
          refine xEA (i1z.cell i (Nat.lt_of_lt_of_le hi e1z.n)) fun o' e' Z=>?_
          rw [e1z.ρ i hi,← hq,hI] at e';exact zW e'
  exact zSh (g₀:=g) (s:={ s with heap:=h2z,toks:=tk2 }) X hT hb hI0 (e1z.trans e2z).ownX i2z (So.ext (e1z.trans e2z)) ok2z ent2 hl (fun st' m' g' h' tk' a b c q Z Z=>on st' m' g' h' tk' a b c q) or ox
def zST (tg:Tg) (a:Den) (b:zX):zX:=fun st kn kr kx=>a st (fun p M=>∃i kvs,p=.ref i/\M.c i=.tdict kvs/\∀o,
  zCJ tg b p (M.set i (.pin o kvs)) (kvs.map fun kv=>.tup (kv.1.map .int)) ⟨st.lo,M.set i (.pin o kvs)⟩ (fun st'=>kn ⟨st'.lo,st'.mem.set i (.tdict kvs)⟩) kr kx) (fun M=>kx ⟨st.lo,M⟩)
theorem Inv.pin {P:Params}{B:Heap}{L:Addr}{fs:Frs}{g:Gh}{M:Mem}{m:Str->Option Value}{h:Heap}(I:Inv P B L fs g M m h) {i:Nat}{c:MO}(hc:∀o,g.led (g.ρ i)=some o->zDZ P g o c) (hi:i<g.n):Inv P B L fs g (M.set i c) m h where
  keep:=I.keep
  ns:=I.ns
  lb:=I.lb
  led:=I.led
  n:=I.n
  cell j hj:=by
    refine qh (I.cell j hj) fun o e f k=>?_
    refine (q6 o e f ?_)
    show zDZ P g o (if j=i then c else M.c j)
    split
    · rename_i q;subst q;exact hc o e
    · exact k
  inj:=I.inj
  fs:=I.fs
  hP:=I.hP
theorem zXI {target iter:Expr}{body:List Stmt}{pos:Pos}{tg:Tg}{a:Den}{b:zX}(HS:zDb Tp w) (hT:zTf Tp w d true F nm target tg) (ha:yC Tp w d true F none nm iter a) (hb:zz Tp w d true F nm body b)
    (hs:∀L x,foldedSetIterable iter (yE F L) x=pure x):zDa Tp w d true F nm (.For target iter body [] pos) (zST tg a b):=by
  constructor
  intro A B outer fs L X g M m s lo I So kn kr kx t Q E on or ox
  refine wpAny_For ((ha.go A B outer fs L L [] X (fun z=>by exact zV z) g M m s lo I So.lo _ _ t) _ _ (fun v p M1z g1z h1z tk1z e1z i1z r1 q1z=>?_)
    fun e M' g' h' tk' ee i q=>ox e ⟨lo,M'⟩ m g' h' tk' ee.ownX i (So.ext ee) q) (hs L)
  refine zt q1z ?_;clear q1z;intro i kvs z2 hc hl;subst z2
  refine xA (i1z.ref r1) fun z3 hi=>?_;subst z3
  refine qh (i1z.cell i hi) fun o lo' f ck=>?_
  rw [hc] at ck
  have j1z:Inv w.params B L fs g1z (M1z.set i (.pin o kvs)) m h1z:=i1z.pin (fun o' e'=>by rw [lo'] at e';refine sE e' ?_;clear e';rintro rfl;exact ⟨rfl,ck⟩) hi
  have hx:itP (M1z.set i (.pin o kvs)) (.ref i)=some (kvs.map fun kv=>.tup (kv.1.map .int)):=by
    have:(M1z.set i (.pin o kvs)).c i=.pin o kvs:=by show (if i=i then _ else _)=_;rw [if_pos rfl]
    show asI _=_
    rw [this];rfl
  refine zJb (s:={ s with heap:=h1z,toks:=tk1z }) (HS B X.top) j1z r1 hx fun Ia K g2z h2z tk2 hI e2z i2z ok2z ent2=>?_
  have hI0:g.led Ia=none:=by
    generalize q:g.led Ia=z5;induction z5 using Option.casesOn with
    | none=>rfl
    | some o =>
      by_cases f:g.fz Ia
      · rw [(e1z.fz _ _ q f).1] at hI;exact zCR hI
      · by_cases hn:∀i,i<g.n->Ia≠g.ρ i
        · rw [(e1z.led _ _ q f hn fun z=>z).1] at hI;exact zCR hI
        · have ⟨i,hi,hq⟩:∃i,i<g.n/\Ia=g.ρ i:=by
            refine Classical.byContradiction fun z=>hn fun i hi hq=>z ⟨i,hi,hq⟩
          refine xEA (i1z.cell i (Nat.lt_of_lt_of_le hi e1z.n)) fun o' e' Z=>?_
          rw [e1z.ρ i hi,← hq,hI] at e';exact zW e'
  refine zSh (g₀:=g) (s:={ s with heap:=h2z,toks:=tk2 }) X hT hb hI0 (e1z.trans e2z).ownX i2z (So.ext (e1z.trans e2z)) ok2z ent2 (M₀:=M1z.set i (.pin o kvs)) (hl o) (fun st' m' g' h' tk' e' i' so' q' hn hst=>?_) or ox
  have q1:st'.mem.c i=.pin o kvs:=by
    have:st'.mem.c i=(M1z.set i (.pin o kvs)).c i:=hst
    rw [this]
    show (if i=i then _ else _)=_
    rw [if_pos rfl]
  have hin:i<g'.n:=Nat.lt_of_lt_of_le hi (Nat.le_trans e2z.n hn)
  refine on ⟨st'.lo,st'.mem.set i (.tdict kvs)⟩ m' g' h' tk' e' (i'.pin (fun o' eo=>?_) hin) so' q'
  refine qh (i'.cell i hin) fun o'' l'' Z c''=>?_
  rw [eo] at l'';refine sE l'' ?_;clear l'';rintro rfl
  rw [q1] at c''
  exact c''.2
def yR (c:qI) (b:zX):Nat->zX
  | 0=>fun Z Z Z Z=>False
  | n+1=>fun st kn kr kx=>qo st fun lo μ=>c st (fun t M=>bK (b ⟨lo,M⟩ (fun st'=>yR c b n st' kn kr kx) kr kx) (kn ⟨lo,M⟩) .mk t) (fun M=>kx ⟨lo,M⟩)
def zGv (c:qI) (b:zX):zX:=fun st kn kr kx=>∃n,yR c b n st kn kr kx
inductive zbM (w:World) (B:Heap) (L:Addr) (fs:Frs) (F:FD) (nm:List Str) (g:Gh) (c:qI) (b:zX) (kn:St->Prop) (kr:PV->Mem->Prop) (kx:St->Prop) (s:Shared) (n:Nat):Shared->Prop
  | mk (m' g' h' tk' lo' M'):Ext (zAI F L) g g'->Inv w.params B L fs g' M' m' h'->SOk F nm L g' m' lo'->yR c b n ⟨lo',M'⟩ kn kr kx->zbM w B L fs F nm g c b kn kr kx s n { s with heap:=h',toks:=tk' }
theorem zIf {test:Expr}{body:List Stmt}{pos:Pos}{c:qI}{b:zX}(hc:zJC Tp w d true F none nm test c) (hb:zz Tp w d true F nm body b):zDa Tp w d true F nm (.While test body [] pos) (zGv c b):=by
  constructor
  intro A B outer fs L X g M m s lo I So kn kr kx t Q E on or ox
  refine xE t fun n t=>?_
  obtain ⟨V,hV⟩:∃V,V=zbM w B L fs F nm g c b kn kr kx s:=⟨_,rfl⟩
  refine wpAny_While (codeAny_whileLoop V ?_ n (by rw [hV];exact .mk m g s.heap s.toks lo M (Ext.refl g) I So t))
  intro n s' hn;rw [hV] at hn
  obtain ⟨m',g',h',tk',lo',M',e',i',so',t'⟩:=hn
  induction n with
  | zero=>exact t'.elim
  | succ n =>
    refine (hc.go A B outer fs L L [] X (fun z=>by exact zV z) g' M' m' { s with heap:=h',toks:=tk' } lo' i' so'.lo _ _ t') _ _ (fun v p M1z g1z h1z tk1z e1z i1z r1 q1z=>?_) fun e M1z g1z h1z tk1z e1z i1z q1z=>?_
    · subst r1
      induction v using Bool.casesOn
      · exact wpAny_execs_nil (on ⟨lo',M1z⟩ m' g1z h1z tk1z (e'.trans e1z.ownX) i1z (so'.ext e1z) q1z)
      · refine (hb.go A B outer fs L X g1z M1z m' { s with heap:=h1z,toks:=tk1z } lo' i1z (so'.ext e1z) _ kr kx q1z) _ _ (fun st3 m3 g3z h3z tk3 e3z j3z so3 q3z=>?_) (fun v pv M3z m3 g3z h3z tk3 e3z j3z r3z q3z=>?_) fun e st3 m3 g3z h3z tk3 e3z j3z so3 q3z=>?_
        · exact ⟨n,Nat.lt_succ_self n,by rw [hV];exact .mk m3 g3z h3z tk3 st3.lo st3.mem ((e'.trans e1z.ownX).trans e3z) j3z so3 q3z⟩
        · exact or v pv M3z m3 g3z h3z tk3 ((e'.trans e1z.ownX).trans e3z) j3z r3z q3z
        · exact XIn.out (s:={ s with heap:=h3z,toks:=tk3 }) rfl X j3z fun h4z y4z=>ox e st3 m3 g3z h4z tk3 ((e'.trans e1z.ownX).trans e3z) y4z so3 q3z
    · exact XIn.out (s:={ s with heap:=h1z,toks:=tk1z }) rfl X i1z fun h4z y4z=>ox e ⟨lo',M1z⟩ m' g1z h4z tk1z (e'.trans e1z.ownX) y4z (so'.ext e1z) q1z
end

def zVE (M:Model) (A:Around) (E:Value->Shared->Prop) (use:Option (Value->Sem Unit)) (Q:Value->Shared->Prop) (acc:Value) (cenv:Env) (r:Result) (s':Shared):Prop:=
  match r,use with
  | .ok _,none=>∃m,s'.heap.Ns cenv.locals m/\∀h',Heap.SameBut cenv.locals s'.heap h'->Q acc { s' with heap:=h' }
  | .ok _,some u=>wpAny M A (u acc) (fun Z s''=>∃m,s''.heap.Ns cenv.locals m/\∀h',Heap.SameBut cenv.locals s''.heap h'->Q .none { s'' with heap:=h' }) E s'
  | .error x,_=>∃m,s'.heap.Ns cenv.locals m/\∀h',Heap.SameBut cenv.locals s'.heap h'->wpAny M A (PySem.passOn "comprehension.variables-let-go" x cenv:Sem Value) (fun Z Z=>False) E { s' with heap:=h' }
theorem zIV {M:Model}{A:Around}{E:Value->Shared->Prop}{s:Shared}{env:Env}{e:Expr}{scope:Scope}{pos:Pos}{newAcc first:Sem Value}{g:Comprehension}{gs:List Comprehension}{cl:List (Str×Addr)}{use:Option (Value->Sem Unit)}{Q:Value->Shared->Prop}
    (hcl:clausesOf e=g::gs) (hs:∀x,foldedSetIterable g.iter env x=pure x) (hclos:closureFor scope env=pure cl) (hkind:scope.kind=.function) (hnames:∀x∈scope.names,x.2=.local->scope.names.lookup x.1=some .local)
    (h:wpAny M A first (fun x s1z=>wpAny M A (pyIter x) (fun it s2z=>wpAny M A newAcc (fun acc s3z=>wpAny M A (newFunctionEnv scope env.globals cl [] env.qual none .none (some env))
      (fun cenv s4z=>codeAny M A (.compStart e 0 it acc { cenv with scope:=relabel scope env }) (zVE M A E use Q acc { cenv with scope:=relabel scope env }) s4z) E s3z) E s2z) E s1z) E s) :
    wpAny M A (comprehension e scope env pos newAcc false first use) Q E s:=by
  have loc:∀(cenv:Env) (l:List (Str×NameKind)),(∀x∈l,x∈scope.names)->∀x∈l,x.2=.local->Env.kindOf { cenv with scope:=relabel scope env } x.1=some .local:=
    fun cenv l hl x hx hk=>lookup_relabel_local (hnames x (hl x hx) hk)
  unfold comprehension
  rw [hclos,hcl]
  refine wpAny_bind (wpAny_mono h (fun x s1z h1z=>?_) fun Z Z z=>z)
  refine wpAny_bind (wpAny_standAt (wpAny_bind (wpAny_of_eq (hs x) ?_)))
  refine wpAny_bind (wpAny_holding (wpAny_mono h1z (fun it s2z h2z=>?_) fun Z Z z=>z))
  refine wpAny_standIf (wpAny_bind (wpAny_mono h2z (fun acc s3z h3z=>?_) fun Z Z z=>z))
  refine wpAny_bind (wpAny_pure (wpAny_bind (wpAny_mono h3z (fun cenv s4z h4z=>?_) fun Z Z z=>z)))
  dsimp only
  refine wpAny_holding (wpAny_bind (wpAny_attempt (wpAny_holding (wpAny_run (codeAny_mono h4z fun r s' hr=>?_)))))
  have sub:∀x∈(scope.names.filter fun x=>(x.2==.local||x.2==.cell)&&x.1 != (".0" : Str)).reverse,x∈scope.names:=fun x hx=>(List.mem_filter.mp (List.mem_reverse.mp hx)).1
  induction r using Except.casesOn with
  | error x =>
    have hr':∃m,s'.heap.Ns cenv.locals m/\∀h',Heap.SameBut cenv.locals s'.heap h'->wpAny M A (PySem.passOn "comprehension.variables-let-go" x { cenv with scope:=relabel scope env }:Sem Value) (fun Z Z=>False) E { s' with heap:=h' }:=by induction use using Option.casesOn<;>exact hr
    refine xEA hr' fun m hn hr=>?_
    refine wpAny_bind (wpAny_holding (wpAny_comp_letGo (cenv:={ cenv with scope:=relabel scope env }) hkind _ s' m (loc cenv _ sub) hn fun h' m' Z hs'=>?_))
    exact wpAny_mono (hr h' hs') (fun Z Z f=>f.elim) fun Z Z y=>y
  | ok f =>
    induction use using Option.casesOn with
    | none =>
      refine xEA hr fun m hn hr=>?_
      exact wpAny_bind (wpAny_holding (wpAny_comp_letGo (cenv:={ cenv with scope:=relabel scope env }) hkind _ s' m (loc cenv _ sub) hn fun h' m' Z hs'=>wpAny_pure (hr h' hs')))
    | some u =>
      refine wpAny_bind (wpAny_rule (wpAny_bind (wpAny_holding (wpAny_mono hr (fun Z s'' hr'=>?_) fun Z Z z=>z))))
      refine xEA hr' fun m hn hr'=>?_
      refine wpAny_bind (wpAny_comp_letGo (cenv:={ cenv with scope:=relabel scope env }) hkind _ s'' m (loc cenv _ fun x hx=>?_) hn fun h' m' Z hs'=>wpAny_pure (hr' h' hs'))
      rcases List.mem_append.mp hx with h1 | h1
      · exact sub x (List.mem_of_mem_drop h1)
      · exact sub x (List.mem_of_mem_take h1)
section
variable {w:World}{P:Params}{B:Heap}{L C:Addr}{fs:Frs}{g:Gh}{M:Mem}{m:Str->Option Value}{h h':Heap}{e:Addr}{cls:Value}
noncomputable def Gh.shut (G:Heap) (C:Addr):Heap:=G.update C fun o=>{ o with data:=.freed }
theorem yX {G:Heap}{C b:Addr}(hb:b≠C):(Gh.shut G C).get? b=G.get? b:=Heap.get?_update_other _ _ (Ne.symm hb)
theorem zEj {G:Heap}{C:Addr}:(Gh.shut G C).get? C=none:=by
  generalize q:(Gh.shut G C).get? C=z2;induction z2 using Option.casesOn with
  | none=>rfl
  | some o =>
    exfalso
    refine xA (Heap.get?_some_iff.mp q) fun e1 hf=>?_
    unfold Gh.shut Heap.update at e1
    simp only [Array.getElem?_modify,if_true,Option.map_eq_some_iff] at e1
    refine xEA e1 ?_;clear e1;intro o' _ z1;subst z1
    exact zEr hf
theorem zGU {G:Heap}{C b:Addr}{o:Obj}(e:(Gh.shut G C).get? b=some o):b≠C/\G.get? b=some o:=by
  have hb:b≠C:=fun q=>by subst q;rw [zEj] at e;exact zW e
  exact ⟨hb,by rw [← yX hb];exact e⟩
theorem TracedAtW.shut {G:Heap}{a0 fl:Value}(x:h.TracedAtW G e cls a0 fl) (hs:Heap.ExtBut C h h') (ne:∀o vs,h.get? C=some o->o.data≠.fields vs):h'.TracedAtW (Gh.shut G C) e cls a0 fl:=by
  refine zCW x fun oe vs T oT ts he hc hd h1 hnT hTe hT hdT h3=>?_
  have e1:e≠C:=fun q=>by subst q;exact ne _ _ he hd
  have e2:T≠C:=fun q=>by subst q;exact ne _ _ hT hdT
  exact (zFr oe vs T oT ts (hs _ _ e1 he) hc hd h1 ((yX e2).trans hnT) hTe (hs _ _ e2 hT) hdT h3)
theorem XIn.drop (x:XIn P B L fs g M m e cls h) {o:Obj}(l:g.led C=some o) (hd:∀vs,o.data≠.fields vs) (f:¬g.fz C) (ni:∀i,i<g.n->C≠g.ρ i) (hs:Heap.ExtBut C h h') :
    XIn P B L fs (g.del C) M m e cls h'/\Ext (fun b=>b=C) g (g.del C):=by
  obtain ⟨I,G,g1,g2,g3,g4,g5,g6,fl⟩:=x
  refine xA (I.del l f ni hs) fun J EX=>?_
  have hC:=I.led _ _ l
  have ne:∀o' vs,h.get? C=some o'->o'.data≠.fields vs:=fun o' vs e'=>by rw [hC.1] at e';refine sE e' ?_;clear e';rintro rfl;exact hd vs
  refine ⟨⟨J,Gh.shut G C,fun b ob eb=>?_,fun b ob eb=>?_,fun b ob eb=>?_,?_,fun p hp=>?_,?_,?_⟩,EX⟩
  · have hb:b≠C:=fun q=>by subst q;rw [hC.2.2 f] at eb;exact zW eb
    exact (yX hb).trans (g1 b ob eb)
  · have e':(if b=C then none else g.led b)=some ob:=eb
    split at e'
    · exact zW e'
    · rename_i hb;exact (yX hb).trans (g2 b ob e')
  · refine xA (zGU eb) fun hb e'=>?_
    exact hs b ob hb (g3 b ob e')
  · rw [yX (Ne.symm hC.2.1)];exact g4
  · refine zBb (I.fs p hp) fun Z Z a3 Z=>?_
    have:p.1≠C:=fun q=>by rw [q,l] at a3;exact zCR a3
    rw [yX this];exact g5 p hp
  · by_cases q:e=C
    · subst q;exact zEj
    · rw [yX q];exact g6
  · rcases fl with ⟨oe,vs,a0,he,hc,hdd,h0,h1⟩ | ⟨a0,tr⟩ | ⟨a0,tr⟩
    · have e1:e≠C:=fun q=>by subst q;exact ne _ _ he hdd
      exact .inl (zHZ oe vs a0 (hs _ _ e1 he) hc hdd h0 h1)
    · exact .inr (.inl ⟨a0,TracedAtW.shut tr hs ne⟩)
    · exact .inr (.inr ⟨a0,TracedAtW.shut tr hs ne⟩)
theorem XIn.passes {A:Around}{s:Shared}{E:Value->Shared->Prop}{env:Env}(hef:env.frame=some L) (x:XIn P B L fs g M m e cls s.heap)
    {fl:Value}(ht:Trd B L fs g e cls s.heap fl) {what:String}
    (k:∀h',XIn P B L fs g M m e cls h'->E (.ref e) { s with heap:=h' }):wpAny (model PG w) A (PySem.passOn what (.ref e) env:Sem Value) (fun Z Z=>False) E s:=by
  obtain ⟨I,_⟩:=x
  obtain ⟨G,a0,g1,g2,g3,g4,g5,g6,tr⟩:=ht
  unfold PySem.passOn
  refine zCW tr fun oe vs T oT ts he hcls hd h1 hnT hTe hT hdT h3=>?_
  refine wpAny_bind (wpAny_field he hd h1 ?_)
  rw [if_neg (by simp),hef]
  refine wpAny_bind (zGB g3 tr fun h' n1 n2 n3=>?_)
  exact wpAny_throw (k h' ⟨I.upto g1 g2 n1 n3,G,g1,g2,n1,g4,g5,g6,.inr (.inr ⟨a0,n2⟩)⟩)
end

noncomputable abbrev zGW (ifs:List Expr) (env:Env):Sem Bool:=forIn ifs true fun c r=>if r=true then do let ok ← isTrue c env (eval c env);pure (ForInStep.yield ok) else pure (ForInStep.yield r)
theorem zLb {w:World}{A:Around}{R:Result->Shared->Prop}{s:Shared}{elt target iter:Expr}{ifs:List Expr}{gens:List Comprehension}{scope:Scope}{pos:Pos}{depth:Nat}{it acc:Value}{env:Env}{emit:Sem PUnit}
    (heq:compTurn (.ListComp elt gens scope pos) depth it acc env=(do
      standAt iter.pos
      match ← pyNext it with
      | none=>pure (.done .next)
      | some v=>do
        letOwnedTupleGo target it v
        assign target env v
        let ok ← zGW ifs env
        if ok=true then emit
        again (.compLoop (.ListComp elt gens scope pos) depth it acc env)))
    (ht:∀v,letOwnedTupleGo target it v=pure ()) (I:Nat->Shared->Prop)
    (turn:∀n s,I n s->wpAny (model PG w) A (pyNext it) (fun r s1z=>match r with
      | none=>R (.ok .next) s1z
      | some v=>wpAny (model PG w) A (assign target env v) (fun Z s2z=>wpAny (model PG w) A (zGW ifs env) (fun ok s3z =>
          if ok=true then wpAny (model PG w) A emit (fun Z s4z=>∃m,m<n/\I m s4z) (notedBy (model PG w) A env fun e s'=>R (.error e) s') s3z else ∃m,m<n/\I m s3z)
        (notedBy (model PG w) A env fun e s'=>R (.error e) s') s2z) (notedBy (model PG w) A env fun e s'=>R (.error e) s') s1z) (notedBy (model PG w) A env fun e s'=>R (.error e) s') s)
    (n:Nat) (h:I n s):codeAny (model PG w) A (.compLoop (.ListComp elt gens scope pos) depth it acc env) R s:=by
  refine codeAny_loop rfl I (fun n s hI=>?_) n h
  show wpAny _ A ((compTurn (.ListComp elt gens scope pos) depth it acc env).onRaise (fun x=>do noteFrame x env;theTreesLotGoes x)) _ _ s
  refine wpAny_noted ?_
  rw [heq]
  refine wpAny_bind (wpAny_standAt (wpAny_bind (wpAny_mono (turn n s hI) (fun r s1z h1z=>?_) fun Z Z z=>z)))
  induction r using Option.casesOn with
  | none=>exact wpAny_pure h1z
  | some v =>
    refine wpAny_bind (wpAny_of_eq (ht v) ?_)
    refine wpAny_bind (wpAny_mono h1z (fun Z s2z h2z=>wpAny_bind (wpAny_mono h2z (fun ok s3z h3z=>?_) fun Z Z z=>z)) fun Z Z z=>z)
    induction ok using Bool.casesOn with
    | false=>exact wpAny_pure ⟨rfl,h3z⟩
    | true=>exact wpAny_bind (wpAny_mono h3z (fun Z s4z h4z=>wpAny_pure ⟨rfl,h4z⟩) fun Z Z z=>z)
def zTc (nmc:List Str) (n:Nat) (env:Env) (g:Gh) (mC:Str->Option Value) (lo:List (Option PV)):Prop:=
  ∀(j:Nat) (p:PV),lo[j]?=some (some p)->∃x,nmc[j]?=some x/\((j<n/\env.kindOf x=some .local/\∃v,mC x=some v/\Rep g p v) \/
    (n<=j/\env.kindOf x=some .cell/\∃c o v,env.cells.lookup x=some c/\g.led c=some o/\¬g.fz c/\(∀i,i<g.n->c≠g.ρ i)/\o.data=.cell (some v)/\Rep g p v))
structure CSt (w:World) (B:Heap) (L:Addr) (fs:Frs) (m:Str->Option Value) (nmc:List Str) (n:Nat) (env:Env) (C D:Addr) (g:Gh) (h:Heap) (lo:List (Option PV)) (acc:List PV) (M:Mem):Prop where
  inv:Inv w.params B L fs g M m h
  d:∃vs ep,g.led D=some (zm "list" vs ep)/\yJ g acc vs
  dn:¬g.fz D/\∀i,i<g.n->D≠g.ρ i
  c:∃o mC,g.led C=some o/\h.Ns C mC/\zTc nmc n env g mC lo
  cn:¬g.fz C/\∀i,i<g.n->C≠g.ρ i
abbrev DC (C D:Addr):Addr->Prop:=fun b=>b=D\/b=C
abbrev zFe:=St->List PV->(List PV->Mem->Prop)->(Mem->Prop)->Prop
theorem zTc.ext {nmc:List Str}{n:Nat}{env:Env}{g g':Gh}{mC:Str->Option Value}{lo:List (Option PV)}{ex:Addr->Prop}(x:zTc nmc n env g mC lo) (E:Ext ex g g') (h:∀c o v,g.led c=some o->o.data=.cell v->¬ex c):zTc nmc n env g' mC lo:=by
  intro j p e
  refine xEA (x j p e) fun y hy q=>?_
  refine (iEA y hy ?_)
  rcases q with ⟨a,b,v,c,r⟩ | ⟨a,b,c,o,v,h1,h2,h3,h4,h5,r⟩
  · exact .inl (zWA a b v c (r.mono E))
  · refine xAA (E.led _ _ h2 h3 h4 (h _ _ _ h2 h5)) fun l f ni=>?_
    exact .inr (zPn a b c o v h1 l f ni h5 (r.mono E))
theorem zTc.locs {nmc:List Str}{n:Nat}{F:FD}{sc:Scope}{L C:Addr}{cl:List (Str×Addr)}{B:Heap}{fs:Frs}{m:Str->Option Value}{w:World}{g:Gh}{M:Mem}{h:Heap}{mC:Str->Option Value}{lo:List (Option PV)}{o:Obj}
    (x:zTc nmc n (yL F (some sc) L C cl) g mC lo) (I:Inv w.params B L fs g M m h) (l:g.led C=some o) (cn:¬g.fz C/\∀i,i<g.n->C≠g.ρ i) (hn:h.Ns C mC):zJB nmc (yL F (some sc) L C cl) L g m lo:=by
  intro j p e
  refine xEA (x j p e) fun y hy q=>?_
  rcases q with ⟨a,b,v,c,r⟩ | ⟨a,b,c,o,v,h1,h2,h3,h4,h5,r⟩
  · refine (yS y v hy (.inr (.inr ⟨b,(I.led _ _ l).2.1,?_⟩)) r)
    refine yY hn fun o' es ep ho hd hk hm=>?_
    rw [(I.led _ _ l).1] at ho;refine sE ho ?_;clear ho;rintro rfl
    exact (zBt o es ep l cn.1 cn.2 hd hk ((hm y).trans c))
  · exact (yS y v hy (.inr (.inl (zDo b c o h1 h2 h3 h4 h5))) r)
section
variable {Tp:World->Heap->Prop}{w:World}{d:Nat}{F:FD}{nm nmc:List Str}{n:Nat}{sc:Scope}{cl:List (Str×Addr)}{A:Around}{B:Heap}{outer:List Env}{fs:Frs}{L C D:Addr}{m:Str->Option Value}
theorem CSt.ext {g g':Gh}{h h':Heap}{lo:List (Option PV)}{acc:List PV}{M M':Mem}{env:Env}(x:CSt w B L fs m nmc n env C D g h lo acc M) (E:Ext NoX g g') (J:Inv w.params B L fs g' M' m h'):CSt w B L fs m nmc n env C D g' h' lo acc M':=by
  refine zHH x.d fun vs ep l r=>?_
  refine zt x.c fun o mC lc hn cl'=>?_
  refine xAA (E.led _ _ l x.dn.1 x.dn.2 fun z=>z) fun l' f' n'=>?_
  refine xAA (E.led _ _ lc x.cn.1 x.cn.2 fun z=>z) fun lc' fc' nc'=>?_
  refine ⟨J,(zES vs ep l' (r.mono E)),⟨f',n'⟩,(yS o mC lc' ?_ (cl'.ext E fun Z Z Z Z Z z=>z)),⟨fc',nc'⟩⟩
  exact hn.at' fun o' e=>by
    rw [(x.inv.led _ _ lc).1] at e;refine sE e ?_;clear e;rintro rfl
    exact (J.led _ _ lc').1
def GoC (Tp:World->Heap->Prop) (w:World) (d:Nat) (F:FD) (nmc:List Str) (n:Nat) (sc:Scope) (cl:List (Str×Addr)) (A:Around) (B:Heap) (outer:List Env) (fs:Frs) (L C D:Addr) (m:Str->Option Value) (emit:Sem PUnit) (t:zFe):Prop:=
  ∀(g:Gh) (s:Shared) (lo:List (Option PV)) (acc:List PV) (M:Mem),CSt w B L fs m nmc n (yL F (some sc) L C cl) C D g s.heap lo acc M->∀k kx,t ⟨lo,M⟩ acc k kx->∀(Q:PUnit->Shared->Prop) (E:Value->Shared->Prop),
    (∀acc' M' g' h' tk',Ext (DC C D) g g'->CSt w B L fs m nmc n (yL F (some sc) L C cl) C D g' h' lo acc' M'->k acc' M'->Q () { s with heap:=h',toks:=tk' }) ->
    (∀e M' g' h' tk',Ext (DC C D) g g'->XIn w.params B L fs g' M' m e CLS h'->(∃o mC,g'.led C=some o/\h'.Ns C mC/\¬g'.fz C/\∀i,i<g'.n->C≠g'.ρ i)->kx M'->E (.ref e) { s with heap:=h',toks:=tk' }) ->
    wpAny (model PG w) A emit Q E s
def qy (a:Den):zFe:=fun st acc k kx=>a st (fun y M=>lK (k (acc++[y]) M) .mk acc) kx
theorem zSd {elt:Expr}{a:Den}(X:Ct (Tp w) d true A B outer fs L F) (hCL:C≠L) (hCD:C≠D) (ha:yC Tp w d true F (some sc) nmc elt a) :
    GoC Tp w d F nmc n sc cl A B outer fs L C D m (do let y ← eval elt (yL F (some sc) L C cl);let _ ← call (.builtin "list.append") [.ref D,y];pure ()) (qy a):=by
  intro g s lo acc M x k kx t Q E ok ex
  refine zt x.c fun o mC lc hn clc=>?_
  refine wpAny_bind ((ha.go A B outer fs L C cl X (fun Z=>hCL) g M m s lo x.inv (clc.locs x.inv lc x.cn hn) _ kx t) _ _ (fun v y M1z g1z h1z tk1z e1z i1z r1 q1z=>?_) fun e M' g' h' tk' ee i q=>?_)
  · refine xA (zIq q1z) fun hlen hk=>?_
    have x1z:=x.ext e1z i1z
    refine zHH x1z.d fun vs ep l r=>?_
    refine wpAny_bind (append_at (s:={ s with heap:=h1z,toks:=tk1z }) (hsz:=by rw [List.size_toArray,r.length];exact qm hlen) (i1z.led _ _ l).1 fun h2z hs2z ho2=>wpAny_pure ?_)
    have ho2':h2z.get? D=some (zm "list" (vs++[v]) (ep+1)):=by rw [ho2];simp [zm]
    refine xA (i1z.putV l x1z.dn.1 x1z.dn.2 hs2z ho2') fun J EX=>?_
    refine zt x1z.c fun o1z mC1 lc1 hn1z clc1=>?_
    have E2:Ext (DC C D) g (g1z.put D (zm "list" (vs++[v]) (ep+1))):=(e1z.weaken fun Z z=>z.elim).trans (EX.weaken fun Z z=>.inl z)
    have lc2:(g1z.put D (zm "list" (vs++[v]) (ep+1))).led C=some o1z:=by show (if C=D then _ else _)=_;rw [if_neg hCD];exact lc1
    refine ok (acc++[y]) M1z _ h2z tk1z E2 ⟨J,(zES (vs++[v]) (ep+1) (by show (if D=D then _ else _)=_;rw [if_pos rfl]) ((r.mono EX).append (yJ.one (r1.mono EX)))),x1z.dn,(yS o1z mC1 lc2 (hn1z.sameBut hs2z hCD) ?_),x1z.cn⟩ hk
    exact clc1.ext EX fun c oc vc hc hd q=>by
      subst q;rw [l] at hc;refine sE hc ?_;clear hc;rintro rfl;cases hd
  · have x1z:=x.ext ee i.inv
    refine zt x1z.c fun o1z mC1 lc1 hn1z Z=>?_
    exact ex e M' g' h' tk' (ee.weaken fun Z z=>z.elim) i (yS o1z mC1 lc1 hn1z x1z.cn) q
def zAQ (j:Nat) (ts:qI) (te:zFe) (p:PV) (M₀:Mem):List PV->zFe
  | []=>fun st acc k Z=>qo st fun lo μ=>sK (k acc μ) M₀ μ p
  | x::r=>fun st acc k kx=>qo st fun lo μ=>sK (ts ⟨lo.set j (some x),μ⟩ (fun t M=>bK (te ⟨lo.set j (some x),M⟩ acc (fun acc' M'=>zAQ j ts te p M₀ r ⟨lo,M'⟩ acc' k kx) kx) (zAQ j ts te p M₀ r ⟨lo,M⟩ acc k kx) .mk t) kx) M₀ μ p
theorem zAQ.stay {j:Nat}{ts:qI}{te:zFe}{p:PV}{M₀:Mem}{xs:List PV}{st:St}{acc:List PV}{k:List PV->Mem->Prop}{kx:Mem->Prop}(h:zAQ j ts te p M₀ xs st acc k kx):Mine.stay M₀ st.mem p:=by
  induction xs using List.casesOn with
  | nil=>exact (zHh h).1
  | cons x r=>exact (zHh h).1
def zSL (Tp:World->Heap->Prop) (w:World) (d:Nat) (F:FD) (sc:Scope) (nmc:List Str) (ifs:List Expr) (ts:qI):Prop:=(ifs=[]/\ts=fun st k Z=>k true st.mem)\/∃c,ifs=[c]/\zJC Tp w d true F (some sc) nmc c ts
inductive zbJ (w:World) (B:Heap) (L:Addr) (fs:Frs) (m:Str->Option Value) (nmc:List Str) (n:Nat) (e:Env) (C D:Addr) (g₀:Gh) (lo:List (Option PV)) (p:PV) (xs:List PV) (K:ItK) (I:Addr) (lp:List PV->St->List PV->Prop) (s:Shared):Nat->Shared->Prop
  | mk (kk acc' M' g' h' tk'):Ext (DC C D) g₀ g'->CSt w B L fs m nmc n e C D g' h' lo acc' M'->zJA g' M' p xs K->zFf g' h' I K kk->lp (xs.drop kk) ⟨lo,M'⟩ acc' ->
    zbJ w B L fs m nmc n e C D g₀ lo p xs K I lp s ((xs.drop kk).length+1) { s with heap:=h',toks:=tk' }
theorem zPj {elt target iter:Expr}{tx:Str}{tp:Pos}{ifs:List Expr}{gens:List Comprehension}{pos:Pos}{depth:Nat}{emit:Sem PUnit}{j:Nat}{ts:qI}{te:zFe}{p:PV}{M₀:Mem}{xs:List PV}{g₀ g:Gh}{s:Shared}{lo:List (Option PV)}{acc:List PV}{M:Mem}{K:ItK}{I:Addr}
    {k:List PV->Mem->Prop}{kx:Mem->Prop}{R:Result->Shared->Prop}(X:Ct (Tp w) d true A B outer fs L F) (hCL:C≠L) (hCD:C≠D) (htg:target=.Name tx tp) (hj:nmc[j]?=some tx) (hjn:j<n) (hjl:lo[j]?=some none) (nd:nmc.Nodup)
    (hkx:(yL F (some sc) L C cl).kindOf tx=some .local) (hsk:sc.kind=.function)
    (heq:compTurn (.ListComp elt gens sc pos) depth (.ref I) (.ref D) (yL F (some sc) L C cl)=(do
      standAt iter.pos
      match ← pyNext (.ref I) with
      | none=>pure (.done .next)
      | some v=>do
        letOwnedTupleGo target (.ref I) v
        assign target (yL F (some sc) L C cl) v
        let ok ← zGW ifs (yL F (some sc) L C cl)
        if ok=true then emit
        again (.compLoop (.ListComp elt gens sc pos) depth (.ref I) (.ref D) (yL F (some sc) L C cl))))
    (hts:zSL Tp w d F sc nmc ifs ts) (hem:GoC Tp w d F nmc n sc cl A B outer fs L C D m emit te)
    (h0:g₀.led I=none) (EX:Ext (DC C D) g₀ g) (x:CSt w B L fs m nmc n (yL F (some sc) L C cl) C D g s.heap lo acc M) (it:zJA g M p xs K) (ent:zFf g s.heap I K 0) (hl:zAQ j ts te p M₀ xs ⟨lo,M⟩ acc k kx)
    (ok:∀acc' M' g' h' tk',Ext (DC C D) g₀ g'->CSt w B L fs m nmc n (yL F (some sc) L C cl) C D g' h' lo acc' M'->k acc' M'->R (.ok .next) { s with heap:=h',toks:=tk' })
    (ex:∀e M' g' h' tk',Ext (DC C D) g₀ g'->XIn w.params B L fs g' M' m e CLS h'->Trd B L fs g' e CLS h' (rawInt L) ->
      (∃o mC,g'.led C=some o/\h'.Ns C mC/\¬g'.fz C/\∀i,i<g'.n->C≠g'.ρ i)->kx M'->R (.error (.ref e)) { s with heap:=h',toks:=tk' }) :
    codeAny (model PG w) A (.compLoop (.ListComp elt gens sc pos) depth (.ref I) (.ref D) (yL F (some sc) L C cl)) R s:=by
  subst htg
  have note:∀e M' g' h' tk',Ext (DC C D) g₀ g'->XIn w.params B L fs g' M' m e CLS h'->(∃o mC,g'.led C=some o/\h'.Ns C mC/\¬g'.fz C/\∀i,i<g'.n->C≠g'.ρ i)->kx M'->notedBy (model PG w) A (yL F (some sc) L C cl) (fun e s'=>R (.error e) s') (.ref e) { s with heap:=h',toks:=tk' }:=fun e M' g' h' tk' e1 x1 ⟨o,mC,lc,hn,f1,f2⟩ q1=>by
    unfold notedBy
    refine XIn.note (w:=w) (s:={ s with heap:=h',toks:=tk' }) rfl X x1 fun h'' y tr=>ex e M' g' h'' tk' e1 y tr (yb o mC lc ?_ f1 f2) q1
    exact hn.at' fun o' eo=>by
      rw [(x1.inv.led _ _ lc).1] at eo;refine sE eo ?_;clear eo;rintro rfl
      exact (y.inv.led _ _ lc).1
  obtain ⟨V,hV⟩:∃V,V=zbJ w B L fs m nmc n (yL F (some sc) L C cl) C D g₀ lo p xs K I (fun xs st acc=>zAQ j ts te p M₀ xs st acc k kx) s:=⟨_,rfl⟩
  refine zLb heq (fun v=>rfl) V ?_ (xs.length+1) (by rw [hV];exact .mk 0 acc M g s.heap s.toks EX x it ent hl)
  intro nn s' hn;rw [hV] at hn
  obtain ⟨kk,acc',M',g',h',tk',EX',x',it',ent',hl'⟩:=hn
  obtain ⟨⟨oI,vsI,lI,hdI⟩,nfI,niI,stI⟩:=id ent'
  refine zHH x'.d fun vs ep lD rD=>?_
  refine zt x'.c fun oC mC lC hnC clC=>?_
  have hID:I≠D:=fun q=>by rw [q,lD] at lI;refine sE lI ?_;clear lI;rintro rfl;cases hdI
  refine zLL hnC fun oC' esC epC hoC hdC Z=>?_
  have hoC':oC'=oC:=by rw [(x'.inv.led _ _ lC).1] at hoC;exact (Option.some.inj hoC).symm
  subst hoC'
  have hIC:I≠C:=fun q=>by rw [q,lC] at lI;refine sE lI ?_;clear lI;rintro rfl;rw [hdC] at hdI;cases hdI
  have step:∀{g1z:Gh}{h1z:Heap},Ext (fun b=>b=I) g' g1z->Inv w.params B L fs g1z M' m h1z->CSt w B L fs m nmc n (yL F (some sc) L C cl) C D g1z h1z lo acc' M':=fun {g1z h1z} e1z j1z=>by
    refine xAA (e1z.led _ _ lD x'.dn.1 x'.dn.2 (Ne.symm hID)) fun l' f' n'=>?_
    refine xAA (e1z.led _ _ lC x'.cn.1 x'.cn.2 (Ne.symm hIC)) fun lc' fc' nc'=>?_
    refine ⟨j1z,(zES vs ep l' (rD.mono e1z)),⟨f',n'⟩,(yS oC' mC lc' ?_ (clC.ext e1z fun c o v hc hd q=>?_)),⟨fc',nc'⟩⟩
    · exact hnC.at' fun o' e=>by
        rw [(x'.inv.led _ _ lC).1] at e;refine sE e ?_;clear e;rintro rfl
        exact (j1z.led _ _ lc').1
    · subst q;rw [lI] at hc;refine sE hc ?_;clear hc;rintro rfl;rw [hdI] at hd;cases hd
  refine zSj (s:={ s with heap:=h',toks:=tk' }) (X.hz rfl) x'.inv it' ent' (fun q hq v g1z h1z tk1z e1z j1z r1 ent1 it1=>?_) fun hq g1z h1z tk1z e1z j1z=>?_
  · have hd:=zSU hq
    rw [hd] at hl'
    refine xA (zHh hl') fun hst hbody=>?_
    have x1z:=step e1z j1z
    have E1:Ext (DC C D) g₀ g1z:=EX'.viaO e1z h0
    refine zt x1z.c fun o1z mC1 lC1 hn1z cl1=>?_
    have hp:((yL F (some sc) L C cl).scope.kind==.class||((yL F (some sc) L C cl).scope.kind==.module&&(yL F (some sc) L C cl).locals != (yL F (some sc) L C cl).globals))=false:=by
      show (sc.kind==.class||(sc.kind==.module&&_))=false
      rw [hsk];rfl
    refine wpAny_assign_Name (wpAny_storeName_local (s:={ s with heap:=h1z,toks:=tk1z }) hkx hn1z (fun h2z hn2z hs2z=>?_) hp)
    refine yY hn2z fun o2z es2z ep2 ho2 hd2z hk2 hm2=>?_
    refine xA (j1z.putV lC1 x1z.cn.1 x1z.cn.2 hs2z ho2) fun J2 E2=>?_
    have lC2:(g1z.put C o2z).led C=some o2z:=by show (if C=C then _ else _)=_;rw [if_pos rfl]
    refine zHH x1z.d fun vs1 ep1 lD1 rD1=>?_
    have lD2:(g1z.put C o2z).led D=some (zm "list" vs1 ep1):=by show (if D=C then _ else _)=_;rw [if_neg (Ne.symm hCD)];exact lD1
    have cellC:∀c o v,g1z.led c=some o->o.data=.cell v->¬c=C:=fun c o v hc hd q=>by
      subst q
      refine zLL hn1z fun o9 es9 ep9 ho9 hd9 Z=>?_
      rw [(j1z.led _ _ hc).1] at ho9;refine sE ho9 ?_;clear ho9;rintro rfl
      rw [hd9] at hd;cases hd
    have x2z:CSt w B L fs m nmc n (yL F (some sc) L C cl) C D (g1z.put C o2z) h2z (lo.set j (some q)) acc' M':=by
      refine ⟨J2,(zES vs1 ep1 lD2 (rD1.mono E2)),x1z.dn,(yS o2z _ lC2 hn2z (fun i pv e=>?_)),x1z.cn⟩
      rw [List.getElem?_set] at e
      split at e
      · rename_i hij
        subst hij
        split at e
        · cases e
          exact (iEA tx hj (.inl (zWA hjn hkx v (if_pos rfl) (r1.mono E2))))
        · exact zW e
      · rename_i hij
        refine xEA ((cl1.ext E2 cellC) i pv e) fun y hy z=>?_
        refine (iEA y hy ?_)
        rcases z with ⟨a,b,v',c,r⟩ | z
        · have hne:y≠tx:=fun z=>hij (zMf nd (z ▸ hj) hy)
          exact .inl (zWA a b v' (by show (if y=tx then _ else _)=_;rw [if_neg hne];exact c) r)
        · exact .inr z
    have E2':Ext (DC C D) g₀ (g1z.put C o2z):=E1.trans (E2.weaken fun Z z=>.inr z)
    have ent2:zFf (g1z.put C o2z) h2z I K (kk+1):=ent1.mono E2 j1z J2 hIC
    have it2:zJA (g1z.put C o2z) M' p xs K:=it1.mono E2 J2 (stay.refl _ _)
    have fin:∀(acc3:List PV) (M3z:Mem) (g3z:Gh) (h3z:Heap) (tk3:Nat),Ext (DC C D) (g1z.put C o2z) g3z->CSt w B L fs m nmc n (yL F (some sc) L C cl) C D g3z h3z (lo.set j (some q)) acc3 M3z->zAQ j ts te p M₀ (xs.drop (kk+1)) ⟨lo,M3z⟩ acc3 k kx ->
        ∃mm,mm<(xs.drop kk).length+1/\V mm { s with heap:=h3z,toks:=tk3 }:=fun acc3 M3z g3z h3z tk3 e3z x3z q3z=>by
      refine ⟨(xs.drop (kk+1)).length+1,by rw [hd];exact Nat.lt_succ_self _,?_⟩
      rw [hV]
      refine .mk (kk+1) acc3 M3z g3z h3z tk3 (E2'.trans e3z) ?_ (it2.mono e3z x3z.inv (stay.step hst q3z.stay)) (ent2.mono e3z J2 x3z.inv (fun z=>by rcases z with z | z;exact hID z;exact hIC z)) q3z
      refine zt x3z.c fun o3z mC3 l3z n3z c3=>?_
      refine ⟨x3z.inv,x3z.d,x3z.dn,(yS o3z mC3 l3z n3z (fun i pv e=>c3 i pv ?_)),x3z.cn⟩
      rw [List.getElem?_set]
      split
      · rename_i hij
        subst hij
        rw [hjl] at e;cases e
      · exact e
    have after:∀(t:Bool) (M3z:Mem) (g3z:Gh) (h3z:Heap) (tk3:Nat),Ext NoX (g1z.put C o2z) g3z->Inv w.params B L fs g3z M3z m h3z ->
        (bK (te ⟨lo.set j (some q),M3z⟩ acc' (fun acc'' M''=>zAQ j ts te p M₀ (xs.drop (kk+1)) ⟨lo,M''⟩ acc'' k kx) kx) (zAQ j ts te p M₀ (xs.drop (kk+1)) ⟨lo,M3z⟩ acc' k kx) .mk t) ->
        (if t=true then wpAny (model PG w) A emit (fun Z s4z=>∃mm,mm<(xs.drop kk).length+1/\V mm s4z)
            (notedBy (model PG w) A (yL F (some sc) L C cl) fun e s'=>R (.error e) s') { s with heap:=h3z,toks:=tk3 }
          else ∃mm,mm<(xs.drop kk).length+1/\V mm { s with heap:=h3z,toks:=tk3 }):=fun t M3z g3z h3z tk3 e3z j3z q3z=>by
      have x3z:=x2z.ext e3z j3z
      have e3':Ext (DC C D) (g1z.put C o2z) g3z:=e3z.weaken fun Z z=>z.elim
      induction t using Bool.casesOn with
      | false=>exact fin acc' M3z g3z h3z tk3 e3' x3z q3z
      | true =>
        refine hem g3z { s with heap:=h3z,toks:=tk3 } (lo.set j (some q)) acc' M3z x3z _ kx q3z _ _ (fun acc4 M4z g4z h4z tk4 e4z x4z q4z=>fin acc4 M4z g4z h4z tk4 (e3'.trans e4z) x4z q4z) fun e M4z g4z h4z tk4 e4z x4z c4z q4z=>?_
        exact note e M4z g4z h4z tk4 ((E2'.trans e3').trans e4z) x4z c4z q4z
    rcases hts with ⟨rfl,rfl⟩ | ⟨c,rfl,hc⟩
    · exact wpAny_tests_nil (after true M' _ h2z (tk1z+1) (Ext.refl _) J2 hbody)
    · refine zt x2z.c fun o9z mC9 l9z n9 c9=>?_
      refine wpAny_tests_one ((hc.go A B outer fs L C cl X (fun Z=>hCL) (g1z.put C o2z) M' m { s with heap:=h2z,toks:=tk1z+1 } (lo.set j (some q)) J2 (c9.locs J2 l9z x2z.cn n9) _ kx hbody) _ _ (fun b t M3z g3z h3z tk3 e3z j3z r3z q3z=>?_) fun e M3z g3z h3z tk3 e3z x3z q3z=>?_)
      · subst r3z
        exact after _ M3z g3z h3z tk3 e3z j3z q3z
      · have x3'z:=x2z.ext e3z x3z.inv
        refine zt x3'z.c fun o4z mC4 l4z n4z Z=>?_
        exact note e M3z g3z h3z tk3 (E2'.trans (e3z.weaken fun Z z=>z.elim)) x3z (yS o4z mC4 l4z n4z x3'z.cn) q3z
  · rw [List.drop_eq_nil_of_le (List.getElem?_eq_none_iff.mp hq)] at hl'
    exact ok acc' M' g1z h1z tk1z (EX'.viaO e1z h0) (step e1z j1z) (zHh hl').2
end

section
variable {w:World}{A:Around}{B:Heap}{L C D:Addr}{fs:Frs}{g:Gh}{M:Mem}{m:Str->Option Value}{s:Shared}{h h':Heap}{e:Addr}{K:ItK}{k:Nat}{I:Addr}{E:Value->Shared->Prop}{cls:Value}
theorem zPi {Q:Value->Shared->Prop}(st:K.st s.heap I k) (h:Q (.ref I) s):wpAny (model PG w) A (pyIter (.ref I)) Q E s:=by
  induction K using ItK.casesOn with
  | lst a=>exact wpAny_pyIter_listiter st h
  | tup a vs=>exact wpAny_pyIter_tupleiter (t:=a) (i:=k) (by refine xE st fun o r=>?_;exact ⟨o,r⟩) h
  | rng a c n=>exact wpAny_pyIter_rangeiter st h
  | dct a es ep=>exact wpAny_pyIter_keyiter st h
theorem zPH {fl:Value}(I:Inv w.params B L fs g M m h) (tr:Trd B L fs g e cls h fl)
    {o:Obj}(l:g.led C=some o) (hd:∀vs,o.data≠.fields vs) (f:¬g.fz C) (hs:Heap.ExtBut C h h') :
    Trd B L fs (g.del C) e cls h' fl:=by
  obtain ⟨G,a0,g1,g2,g3,g4,g5,g6,t⟩:=tr
  have hC:=I.led _ _ l
  refine (Trd.mk (Gh.shut G C) a0 (fun b ob eb=>?_) (fun b ob eb=>?_) (fun b ob eb=>?_) ?_ (fun p hp=>?_) ?_ (TracedAtW.shut t hs fun o' vs e'=>by rw [hC.1] at e';refine sE e' ?_;clear e';rintro rfl;exact hd vs))
  · have hb:b≠C:=fun q=>by subst q;rw [hC.2.2 f] at eb;exact zW eb
    exact (yX hb).trans (g1 b ob eb)
  · have e':(if b=C then none else g.led b)=some ob:=eb
    split at e'
    · exact zW e'
    · rename_i hb;exact (yX hb).trans (g2 b ob e')
  · refine xA (zGU eb) fun hb e'=>?_
    exact hs b ob hb (g3 b ob e')
  · rw [yX (Ne.symm hC.2.1)];exact g4
  · refine zBb (I.fs p hp) fun Z Z a3 Z=>?_
    have:p.1≠C:=fun q=>by rw [q,l] at a3;exact zCR a3
    rw [yX this];exact g5 p hp
  · by_cases q:e=C
    · subst q;exact zEj
    · rw [yX q];exact g6
end
structure zFd (F:FD) (sc:Scope) (clo:Addr->List (Str×Addr)) (nm nmc:List Str) (n:Nat) (fr:List Nat):Prop where
  clos:∀L,closureFor sc (yE F L)=pure (clo L)
  kind:sc.kind=.function
  nocell:∀y∈sc.names,y.2≠.cell
  names:∀y∈sc.names,y.2=.local->sc.names.lookup y.1=some .local
  tl:∀j x,j<n->nmc[j]?=some x->sc.names.lookup x=some .local
  fl:∀j i,fr[j]?=some i->∃x,nm[i]?=some x/\nmc[n+j]?=some x/\∀L C,(yL F (some sc) L C (clo L)).kindOf x=some .cell/\(yE F L).kindOf x=some .cell/\(clo L).lookup x=(yE F L).cells.lookup x
  nd:nmc.Nodup
  fk:F.scope.kind=.function
noncomputable def lo0 (n:Nat) (fr:List Nat) (lo:List (Option PV)):List (Option PV):=List.replicate n none++fr.map fun i=>(lo[i]?).join
def zWN (cell:Bool) (k:PV->Mem->Prop) (ys:List PV) (M:Mem):Prop:=bK (k (.ref M.n) (M.new (.list ys))) (k (.lst ys) M) .mk cell
section
variable {Tp:World->Heap->Prop}{w:World}{d:Nat}{F:FD}{nm nmc:List Str}{n:Nat}{fr:List Nat}{sc:Scope}{clo:Addr->List (Str×Addr)}
theorem zFd.local {L C:Addr}(S:zFd F sc clo nm nmc n fr) {x:Str}{j:Nat}(hj:j<n) (hx:nmc[j]?=some x):(yL F (some sc) L C (clo L)).kindOf x=some .local:=
  lookup_relabel_local (S.tl j x hj hx)
theorem zan {A:Around}{B:Heap}{L C D:Addr}{fs:Frs}{g:Gh}{M:Mem}{m:Str->Option Value}{h:Heap}{env:Env}{lo:List (Option PV)}{ys:List PV}{cell:Bool}{k:PV->Mem->Prop}(x:CSt w B L fs m nmc n env C D g h lo ys M) (hk:zWN cell k ys M) :
    ∃g' M' pv,Inv w.params B L fs g' M' m h/\Ext (fun b=>b=D) g g'/\Rep g' pv (.ref D)/\k pv M':=by
  refine zHH x.d fun vs ep l r=>?_
  have hg:=(x.inv.led _ _ l).1
  induction cell using Bool.casesOn with
  | false =>
    refine xA (x.inv.freeze l x.dn.1 x.dn.2 (Heap.SameBut.refl _ _) hg) fun J EX=>?_
    refine (qi _ M (.lst ys) J EX ?_ hk)
    refine (qi D vs ep rfl ?_ ?_ (r.mono EX))
    · show (if D=D then True else _);rw [if_pos rfl];trivial
    · show (if D=D then _ else _)=_;rw [if_pos rfl]
  | true =>
    refine xA (x.inv.cellize (c:=.list ys) l x.dn.1 x.dn.2 (Heap.SameBut.refl _ _) hg (zES vs ep rfl r)) fun J EX=>?_
    refine (qi _ _ (.ref M.n) J EX ?_ hk)
    refine ⟨?_,by show M.n<g.n+1;rw [x.inv.n];exact Nat.lt_succ_self _⟩
    show _=Value.ref (if M.n=g.n then _ else _)
    rw [if_pos x.inv.n.symm]
theorem zaW {lo:List (Option PV)}{j:Nat}{p:PV}(e:(lo0 n fr lo)[j]?=some (some p)):n<=j/\∃i,fr[j-n]?=some i/\lo[i]?=some (some p):=by
  unfold lo0 at e
  rcases Nat.lt_or_ge j n with hj | hj
  · rw [List.getElem?_append_left (by simpa using hj),List.getElem?_replicate,if_pos hj] at e
    cases e
  · rw [List.getElem?_append_right (by simpa using hj),List.length_replicate,List.getElem?_map] at e
    refine xEA (Option.map_eq_some_iff.mp e) fun i hi he=>?_
    refine (zdg hj i hi ?_)
    generalize q:lo[i]?=z1;induction z1 using Option.casesOn with
    | none=>rw [q] at he;exact zW he
    | some z=>rw [q] at he;induction z using Option.casesOn with
      | none=>exact zW he
      | some z=>simpa using he
theorem zWV {lo:List (Option PV)}{j:Nat}(hj:j<n):(lo0 n fr lo)[j]?=some none:=by
  unfold lo0
  rw [List.getElem?_append_left (by simpa using hj),List.getElem?_replicate,if_pos hj]
theorem zVq {A:Around}{B:Heap}{L:Addr}{fs:Frs}{g:Gh}{M:Mem}{m:Str->Option Value}{s:Shared}{lo:List (Option PV)}{Q:Value->Env->Shared->Prop}{E:Value->Shared->Prop}(S:zFd F sc clo nm nmc n fr) (I:Inv w.params B L fs g M m s.heap) (Lo:zJB nm (yE F L) L g m lo)
    (h:∀D C g' h' tk',C≠L->C≠D->g.led C=none->g.led D=none->Ext NoX g g'->CSt w B L fs m nmc n (yL F (some sc) L C (clo L)) C D g' h' (lo0 n fr lo) [] M->Q (.ref D) (yL F (some sc) L C (clo L)) { s with heap:=h',toks:=tk' }) :
    wpAny (model PG w) A (newList []) (fun acc s1z=>wpAny (model PG w) A (newFunctionEnv sc (yE F L).globals (clo L) [] (yE F L).qual none .none (some (yE F L))) (fun cenv s2z=>Q acc { cenv with scope:=relabel sc (yE F L) } s2z) E s1z) E s:=by
  refine wpAny_newObj_type ?_ (by show 0<=sizeLine;exact Nat.zero_le _)
  refine xA (I.add (zm "list" [] 0) False rfl) fun I1z E1=>?_
  refine wpAny_newFunctionEnv S.nocell (by intro y hy;simp at hy) (fun h2z hn2z hs2z=>?_) S.kind
  refine xA (I1z.add ({ cls:=.type "dict",data:=.dict #[] }:Obj) False rfl) fun I2 E2=>?_
  dsimp only at hn2z hs2z ⊢
  have hC:(s.heap.push (zm "list" [] 0)).objs.size=s.heap.objs.size+1:=Heap.size_push _ _
  have hled1:(g.add s.heap.objs.size (zm "list" [] 0) False).led s.heap.objs.size=some (zm "list" [] 0):=by show (if _=_ then _ else _)=_;rw [if_pos rfl]
  have fresh1:(g.add s.heap.objs.size (zm "list" [] 0) False).led (s.heap.push (zm "list" [] 0)).objs.size=none:=I1z.freshLed
  refine yY hn2z fun oC esC epC hoC hdC hkC hmC=>?_
  have hled2:((g.add s.heap.objs.size (zm "list" [] 0) False).add (s.heap.push (zm "list" [] 0)).objs.size { cls:=.type "dict",data:=.dict #[] } False).led (s.heap.push (zm "list" [] 0)).objs.size=some { cls:=.type "dict",data:=.dict #[] }:=by show (if _=_ then _ else _)=_;rw [if_pos rfl]
  have hfz2:¬((g.add s.heap.objs.size (zm "list" [] 0) False).add (s.heap.push (zm "list" [] 0)).objs.size { cls:=.type "dict",data:=.dict #[] } False).fz (s.heap.push (zm "list" [] 0)).objs.size:=by show ¬(if _=_ then False else _);rw [if_pos rfl];exact id
  have hni2:∀i,i<g.n->(s.heap.push (zm "list" [] 0)).objs.size≠g.ρ i:=fun i hi q=>by
    refine xEA (I.cell i hi) fun o e Z=>?_
    have:=I.lt e
    rw [← q,hC] at this;exact absurd this (Nat.not_lt.mpr (Nat.le_succ _))
  have hni1:∀i,i<g.n->s.heap.objs.size≠g.ρ i:=fun i hi q=>by
    refine xEA (I.cell i hi) fun o e Z=>?_
    exact absurd (I.lt e) (by rw [← q];exact Nat.lt_irrefl _)
  refine xA (I2.putV hled2 hfz2 hni2 hs2z hoC) fun J EX=>?_
  have hDC:s.heap.objs.size≠(s.heap.push (zm "list" [] 0)).objs.size:=by rw [hC];exact Nat.ne_of_lt (Nat.lt_succ_self _)
  have E3z:Ext NoX g _:=(E1.trans E2).via EX fun b hb=>by
    rw [hb]
    generalize q:g.led (s.heap.push (zm "list" [] 0)).objs.size=z2;induction z2 using Option.casesOn with
    | none=>rfl
    | some o=>have:=I.lt q;rw [hC] at this;exact absurd this (Nat.not_lt.mpr (Nat.le_succ _))
  refine h s.heap.objs.size (s.heap.push (zm "list" [] 0)).objs.size _ h2z _ ?_ (Ne.symm hDC) ?_ I.freshLed E3z ⟨J,(zES [] 0 ?_ rfl),⟨?_,hni1⟩,(yS oC _ ?_ hn2z (fun j p e=>?_)),⟨hfz2,hni2⟩⟩
  · rw [hC];exact Nat.ne_of_gt (Nat.lt_succ_of_lt I.ns.lt)
  · generalize q:g.led (s.heap.push (zm "list" [] 0)).objs.size=z3;induction z3 using Option.casesOn with
    | none=>rfl
    | some o=>have:=I.lt q;rw [hC] at this;exact absurd this (Nat.not_lt.mpr (Nat.le_succ _))
  · show (if _=_ then _ else (if _=_ then _ else (if _=_ then _ else _)))=_
    rw [if_neg hDC,if_neg hDC,if_pos rfl]
  · show ¬(if _=_ then False else (if _=_ then False else _))
    rw [if_neg hDC,if_pos rfl];exact id
  · show (if _=_ then _ else _)=_;rw [if_pos rfl]
  · refine zdv (zaW e) fun hj i hi hl=>?_
    refine qh (S.fl (j-n) i hi) fun x hx hxc hkk=>?_
    refine xAA (hkk L (s.heap.push (zm "list" [] 0)).objs.size) fun k1 k2 k3=>?_
    refine zt (Lo i p hl) fun y v hy hlv hr=>?_
    rw [hx] at hy;refine sE hy ?_;clear hy;rintro rfl
    refine (iEA x (by rw [← hxc];congr 1;lia) (.inr ⟨hj,k1,?_⟩))
    rcases hlv with ⟨a,_⟩ | ⟨_,c,o,h1,h2,h3,h4,h5⟩ | ⟨a,_⟩
    · rw [k2] at a;cases a
    · refine xAA (E3z.led _ _ h2 h3 h4 fun z=>z) fun l' f' n'=>?_
      exact (zBt c o v (by show (clo L).lookup x=_;rw [k3];exact h1) l' f' n' h5 (hr.mono E3z))
    · rw [k2] at a;cases a
def qe (cell:Bool) (n:Nat) (fr:List Nat) (a:Den) (ts:qI) (te:zFe):Den:=fun st k kx=>qo st fun lo μ=>a st (fun p M=>oK (fun xs=>zAQ 0 ts te p M xs ⟨lo0 n fr lo,M⟩ [] (zWN cell k) kx) .mk (itP M p)) kx
structure zJl (Tp:World->Heap->Prop) (w:World) (d:Nat) (F:FD) (nm nmc:List Str) (n:Nat) (fr:List Nat) (sc:Scope) (clo:Addr->List (Str×Addr)) (elt:Expr) (tx:Str) (tp:Pos) (iter:Expr) (ifs:List Expr) (rest:List Comprehension) (pos:Pos) (a:Den) (ts:qI) (te:zFe):Prop where
  S:zFd F sc clo nm nmc n fr
  HS:zDb Tp w
  n0:0<n
  htx:nmc[0]?=some tx
  hiter:yC Tp w d true F none nm iter a
  hs:∀L x,foldedSetIterable iter (yE F L) x=pure x
  tests:zSL Tp w d F sc nmc ifs ts
  emit:∀(A:Around) (B:Heap) (outer:List Env) (fs:Frs) (L C D:Addr) (m:Str->Option Value) (I:Addr),Ct (Tp w) d true A B outer fs L F->C≠L->C≠D->∃em,GoC Tp w d F nmc n sc (clo L) A B outer fs L C D m em te /\
    compTurn (.ListComp elt (⟨.Name tx tp,iter,ifs,0⟩::rest) sc pos) 0 (.ref I) (.ref D) (yL F (some sc) L C (clo L))=(do
      standAt iter.pos
      match ← pyNext (.ref I) with
      | none=>pure (.done .next)
      | some v=>do
        letOwnedTupleGo (.Name tx tp) (.ref I) v
        assign (.Name tx tp) (yL F (some sc) L C (clo L)) v
        let ok ← zGW ifs (yL F (some sc) L C (clo L))
        if ok=true then em
        again (.compLoop (.ListComp elt (⟨.Name tx tp,iter,ifs,0⟩::rest) sc pos) 0 (.ref I) (.ref D) (yL F (some sc) L C (clo L))))
theorem zSg {elt:Expr}{tx:Str}{tp:Pos}{iter:Expr}{ifs:List Expr}{rest:List Comprehension}{pos pos':Pos}{a:Den}{ts:qI}{te:zFe}(O:zJl Tp w d F nm nmc n fr sc clo elt tx tp iter ifs rest pos a ts te) {cell:Bool}{use:Option (Value->Sem Unit)}
    {A:Around}{B:Heap}{outer:List Env}{fs:Frs}{L:Addr}(X:Ct (Tp w) d true A B outer fs L F) {g:Gh}{M:Mem}{m:Str->Option Value}{s:Shared}{lo:List (Option PV)}(I:Inv w.params B L fs g M m s.heap) (Lo:zJB nm (yE F L) L g m lo) {k:PV->Mem->Prop}{kx:Mem->Prop}(t:qe cell n fr a ts te ⟨lo,M⟩ k kx)
    {Q:Value->Shared->Prop}{E:Value->Shared->Prop}
    (ok:∀pv D C M' g' h' tk',Ext NoX g g'->Inv w.params B L fs g' M' m h'->Rep g' pv (.ref D)->k pv M'->g.led C=none->C≠L->(∃o mC,g'.led C=some o/\h'.Ns C mC/\¬g'.fz C/\∀i,i<g'.n->C≠g'.ρ i) ->
      match use with
      | none=>∀g'' h'',Ext NoX g g''->Inv w.params B L fs g'' M' m h''->Rep g'' pv (.ref D)->Q (.ref D) { s with heap:=h'',toks:=tk' }
      | some u=>wpAny (model PG w) A (u (.ref D)) (fun Z s''=>∃mC,s''.heap.Ns C mC/\∀h'',Heap.SameBut C s''.heap h''->Q .none { s'' with heap:=h'' }) E { s with heap:=h',toks:=tk' })
    (ex:KEx w B L fs g m s kx E) :
    wpAny (model PG w) A (comprehension (.ListComp elt (⟨.Name tx tp,iter,ifs,0⟩::rest) sc pos) sc (yE F L) pos' (newList []) false (eval iter (yE F L)) use) Q E s:=by
  refine zIV (g:=⟨.Name tx tp,iter,ifs,0⟩) (gs:=rest) rfl (O.hs L) (O.S.clos L) O.S.kind O.S.names ?_
  refine (O.hiter.go A B outer fs L L [] X (fun z=>by exact zV z) g M m s lo I Lo _ kx t) _ _ (fun v p M1z g1z h1z tk1z e1z i1z r1 q1z=>?_) ex
  refine xEA (qM q1z) fun xs hx hl=>?_
  refine zJb (s:={ s with heap:=h1z,toks:=tk1z }) (O.HS B X.top) i1z r1 hx fun Ia K g2z h2z tk2 hI e2z i2z it2 ent2=>?_
  refine zVq (Q:=fun acc cenv s'=>codeAny (model PG w) A (.compStart (.ListComp elt (⟨.Name tx tp,iter,ifs,0⟩::rest) sc pos) 0 (.ref Ia) acc cenv) (zVE (model PG w) A E use Q acc cenv) s') (s:={ s with heap:=h2z,toks:=tk2 }) O.S i2z (Lo.ext (e1z.trans e2z)) fun D C g3z h3z tk3 hCL hCD hC0 hD0 e3z x3z=>?_
  refine xEA (O.emit A B outer fs L C D m Ia X hCL hCD) fun em hem heq=>?_
  have ent3:=ent2.mono e3z i2z x3z.inv fun z=>z
  have it3:=it2.mono e3z x3z.inv (stay.refl _ _)
  have fresh:∀b,g2z.led b=none->g.led b=none:=fun b hb=>by
    generalize q:g.led b=z4;induction z4 using Option.casesOn with
    | none=>rfl
    | some o =>
      have e12:=e1z.trans e2z
      by_cases f:g.fz b
      · rw [(e12.fz _ _ q f).1] at hb;exact zCR hb
      · by_cases hn:∀i,i<g.n->b≠g.ρ i
        · rw [(e12.led _ _ q f hn fun z=>z).1] at hb;exact zCR hb
        · have ⟨i,hi,hq⟩:∃i,i<g.n/\b=g.ρ i:=Classical.byContradiction fun z=>hn fun i hi hq=>z ⟨i,hi,hq⟩
          refine xEA (i2z.cell i (Nat.lt_of_lt_of_le hi e12.n)) fun o' e' Z=>?_
          rw [e12.ρ i hi,← hq,hb] at e';exact zW e'
  have toG:∀{g':Gh},Ext (DC C D) g1z g'->Ext NoX g g':=fun {g'} e=>e1z.via e fun b hb=>by
    rcases hb with rfl | rfl
    · exact fresh _ hD0
    · exact fresh _ hC0
  have loop:codeAny (model PG w) A (.compLoop (.ListComp elt (⟨.Name tx tp,iter,ifs,0⟩::rest) sc pos) 0 (.ref Ia) (.ref D) (yL F (some sc) L C (clo L))) (zVE (model PG w) A E use Q (.ref D) (yL F (some sc) L C (clo L))) { s with heap:=h3z,toks:=tk3 }:=by
    refine zPj (g₀:=g1z) (s:={ s with heap:=h3z,toks:=tk3 }) (lo:=lo0 n fr lo) X hCL hCD rfl O.htx O.n0 (zWV O.n0) O.S.nd (O.S.local O.n0 O.htx) O.S.kind heq O.tests hem hI ((e2z.trans e3z).weaken fun Z z=>z.elim) x3z it3 ent3 hl (fun ys M' g' h' tk' e' x' k'=>?_) fun e M' g' h' tk' e' x' tr' ⟨oC,mC,lC,hnC,fC,niC⟩ q'=>?_
    · refine yY (zan (A:=A) x' k') fun g4z M4z pv J4 E4 r4 k4=>?_
      refine zt x'.c fun oC mC lC hnC clC=>?_
      refine xAA (E4.led _ _ lC x'.cn.1 x'.cn.2 hCD) fun lC4 fC4 nC4=>?_
      have E5:Ext NoX g g4z:=(toG e').via E4 fun b hb=>by rw [hb];exact fresh _ hD0
      have fin:=ok pv D C M4z g4z h' tk' E5 J4 r4 k4 (fresh _ hC0) hCL (yb oC mC lC4 hnC fC4 nC4)
      induction use using Option.casesOn with
      | none =>
        refine ⟨mC,hnC,fun h5z hs5=>?_⟩
        refine xA (J4.del lC4 fC4 nC4 hs5.extBut) fun J5 E6=>?_
        refine fin _ h5z (E5.via E6 fun b hb=>by rw [hb];exact fresh _ hC0) J5 (r4.mono E6)
      | some u=>exact fin
    · have hdC:∀vs,oC.data≠.fields vs:=fun vs hv=>by
        refine zLL hnC fun o9 es9 ep9 ho9 hd9 Z=>?_
        rw [(x'.inv.led _ _ lC).1] at ho9;refine sE ho9 ?_;clear ho9;rintro rfl
        rw [hd9] at hv;cases hv
      have:∃m,h'.Ns C m/\∀h'',Heap.SameBut C h' h''->wpAny (model PG w) A (PySem.passOn "comprehension.variables-let-go" (.ref e) (yL F (some sc) L C (clo L)):Sem Value) (fun Z Z=>False) E { s with heap:=h'',toks:=tk' }:=by
        refine (iEA mC hnC (fun h5z hs5=>?_))
        refine xA (x'.drop lC hdC fC niC hs5.extBut) fun x5z E5=>?_
        refine XIn.passes (w:=w) (s:={ s with heap:=h5z,toks:=tk' }) rfl x5z (zPH x'.inv tr' lC hdC fC hs5.extBut) fun h6z y=>?_
        exact ex e M' _ h6z tk' ((toG e').via E5 fun b hb=>by rw [hb];exact fresh _ hC0) y q'
      induction use using Option.casesOn<;>exact this
  exact codeAny_compStart_list loop (zPi (s:={ s with heap:=h3z,toks:=tk3 }) ent3.st loop)
theorem zBW {elt:Expr}{tx:Str}{tp:Pos}{iter:Expr}{ifs:List Expr}{rest:List Comprehension}{pos:Pos}{a:Den}{ts:qI}{te:zFe}(cell:Bool) (O:zJl Tp w d F nm nmc n fr sc clo elt tx tp iter ifs rest pos a ts te) :
    yC Tp w d true F none nm (.ListComp elt (⟨.Name tx tp,iter,ifs,0⟩::rest) sc pos) (qe cell n fr a ts te):=by
  constructor
  intro A B outer fs L C cl X hC g M m s lo I Lo k kx t Q E ok ex
  show wpAny (model PG w) A (comprehension (.ListComp elt (⟨.Name tx tp,iter,ifs,0⟩::rest) sc pos) sc (yE F L) _ (newList []) false (eval iter (yE F L))) Q E s
  refine zSg O (cell:=cell) X I Lo t (fun pv D C M' g' h' tk' e' i' r' k' Z Z Z=>?_) ex
  intro g'' h'' e'' i'' r''
  exact ok _ pv M' g'' h'' tk' e'' i'' r'' k'
theorem zCy {y:Str}{py spos:Pos}{elt:Expr}{tx:Str}{tp:Pos}{iter:Expr}{ifs:List Expr}{rest:List Comprehension}{pos:Pos}{a:Den}{ts:qI}{te:zFe}(cell:Bool) (i:Nat) (hi:nm[i]?=some y) (nd:nm.Nodup) (hk:qU F y) (O:zJl Tp w d F nm nmc n fr sc clo elt tx tp iter ifs rest pos a ts te)
    (hsw:∀L,swapsWith (.ListComp elt (⟨.Name tx tp,iter,ifs,0⟩::rest) sc pos) (some (.Name y py)) spos.line (yE F L)=pure true) :
    zDa Tp w d true F nm (.Assign [.Name y py] (.ListComp elt (⟨.Name tx tp,iter,ifs,0⟩::rest) sc pos) spos) (zx i (qe cell n fr a ts te)):=by
  constructor
  intro A B outer fs L X g M m s lo I So kn kr kx t Q E on or ox
  rw [exec_Assign_Name_used _ _ _ _ (hsw L)]
  refine wpAny_bind (wpAny_standAt (wpAny_bind ?_))
  show wpAny (model PG w) A (do let _ ← comprehension (.ListComp elt (⟨.Name tx tp,iter,ifs,0⟩::rest) sc pos) sc (yE F L) _ (newList []) false (eval iter (yE F L)) (some (assign (.Name y py) (yE F L)))) _ _ s
  refine wpAny_bind (zSg (use:=some (assign (.Name y py) (yE F L))) (Q:=fun Z s'=>wpAny (model PG w) A (pure ()) (fun Z s''=>wpAny (model PG w) A (pure Flow.next) Q E s'') E s') O (cell:=cell) X I So.lo t (fun pv D C M' g' h' tk' e' i' r' k' hC0 hCL hC=>?_) fun e M' g' h' tk' ee i q=>ox e ⟨lo,M'⟩ m g' h' tk' ee.ownX i (So.ext ee) q)
  refine yl hC fun oC mC lC hnC fC niC=>?_
  have So':=So.ext e'
  refine wpAny_assign_Name (zDn (s:={ s with heap:=h',toks:=tk' }) X.fk i' So' r' hi nd (hk L) fun m2z g2z h2z tk2 e2z i2z so2=>?_)
  refine zLL hnC fun o9 es9 ep9 ho9 hd9 Z=>?_
  have heq9:o9=oC:=by rw [(i'.led _ _ lC).1] at ho9;exact (Option.some.inj ho9).symm
  subst heq9
  have notOwn:¬zAI F L C:=fun ⟨z,hz⟩=>by
    refine yl (So'.co z C hz) fun oc vc hc Z Z hdc=>?_
    rw [lC] at hc;refine sE hc ?_;clear hc;rintro rfl
    rw [hd9] at hdc;cases hdc
  refine xAA (e2z.led _ _ lC fC niC notOwn) fun lC2 fC2 nC2=>?_
  refine (iEA mC (hnC.at' fun o' eo=>by rw [(i'.led _ _ lC).1] at eo;refine sE eo ?_;clear eo;rintro rfl;exact (i2z.led _ _ lC2).1) (fun h3z hs3=>wpAny_pure (wpAny_pure ?_)))
  refine xA (i2z.del lC2 fC2 nC2 hs3.extBut) fun J3 E3z=>?_
  have E4:Ext (zAI F L) g (g2z.del C):=(e'.ownX.trans e2z).viaO E3z hC0
  refine on ⟨lo.set i (some pv),M'⟩ m2z _ h3z tk2 E4 J3 ?_ k'
  refine ⟨fun j q e=>?_,fun z c hz=>?_⟩
  · refine zt (so2.lo j q e) fun x v h1 h2 h3=>?_
    refine (yS x v h1 ?_ (h3.mono E3z))
    rcases h2 with z | ⟨kk,c,o,a1,a2,a3,a4,a5⟩ | ⟨_,z,_⟩
    · exact .inl z
    · refine xAA (E3z.led _ _ a2 a3 a4 fun q=>by subst q;rw [lC2] at a2;refine sE a2 ?_;clear a2;rintro rfl;rw [hd9] at a5;cases a5) fun b1 b2 b3=>?_
      exact .inr (.inl (zDo kk c o a1 b1 b2 b3 a5))
    · exact absurd rfl z
  · refine yl (so2.co z c hz) fun o v a1 a2 a3 a4=>?_
    refine xAA (E3z.led _ _ a1 a2 a3 fun q=>by subst q;rw [lC2] at a1;refine sE a1 ?_;clear a1;rintro rfl;rw [hd9] at a4;cases a4) fun b1 b2 b3=>?_
    exact (yb o v b1 b2 b3 a4)
end

section
variable {Tp:World->Heap->Prop}{w:World}{d:Nat}{F:FD}{nm nmc:List Str}{n:Nat}{fr:List Nat}{sc:Scope}{clo:Addr->List (Str×Addr)}
theorem zED {elt:Expr}{tx:Str}{tp:Pos}{iter:Expr}{ifs:List Expr}{pos:Pos}{a e:Den}{ts:qI}(S:zFd F sc clo nm nmc n fr) (HS:zDb Tp w) (n0:0<n) (htx:nmc[0]?=some tx) (hi:yC Tp w d true F none nm iter a) (he:yC Tp w d true F (some sc) nmc elt e)
    (hs:∀L x,foldedSetIterable iter (yE F L) x=pure x) (ht:zSL Tp w d F sc nmc ifs ts):zJl Tp w d F nm nmc n fr sc clo elt tx tp iter ifs [] pos a ts (qy e) where
  S:=S
  HS:=HS
  n0:=n0
  htx:=htx
  hiter:=hi
  hs:=hs
  tests:=ht
  emit A B outer fs L C D m I X hCL hCD:=(iEA _ (zSd X hCL hCD he) rfl)
theorem zJG {A:Around}{R:Result->Shared->Prop}{s:Shared}{elt:Expr}{c0:Comprehension}{target iter:Expr}{ifs:List Expr}{pos:Pos}{it acc:Value}{env:Env}
    (h0:codeAny (model PG w) A (.compLoop (.ListComp elt [c0,⟨target,iter,ifs,0⟩] sc pos) 1 it acc env) R s)
    (h:wpAny (model PG w) A (pyIter it) (fun it' s'=>codeAny (model PG w) A (.compLoop (.ListComp elt [c0,⟨target,iter,ifs,0⟩] sc pos) 1 it' acc env) R s') (notedBy (model PG w) A env fun x s'=>R (.error x) s') s) :
    codeAny (model PG w) A (.compStart (.ListComp elt [c0,⟨target,iter,ifs,0⟩] sc pos) 1 it acc env) R s:=by
  refine codeAny_of_tree ?_
  show wpAny _ _ ((compStart (.ListComp elt [c0,⟨target,iter,ifs,0⟩] sc pos) 1 it acc env).onRaise (fun x=>do noteFrame x env;standAt theWindowsPlace)) _ _ s
  refine wpAny_notedAt ?_
  unfold compStart
  show wpAny _ _ (ask >>= _) _ _ s
  refine wpAny_bind (wpAny_askSetting (wpAny_ite ?_))
  split
  · first
      | exact wpAny_bind (wpAny_pure (wpAny_pure (And.intro rfl h0)))
      | exact wpAny_pure (And.intro rfl h0)
  · first
      | exact wpAny_bind (wpAny_rule (wpAny_bind (wpAny_standAt (wpAny_bind (wpAny_mono h (fun it' s' h'=>wpAny_pure (And.intro rfl h')) fun Z Z x=>x)))))
      | exact wpAny_bind (wpAny_rule (wpAny_bind (wpAny_pure (wpAny_bind (wpAny_standAt (wpAny_bind (wpAny_mono h (fun it' s' h'=>wpAny_pure (And.intro rfl h')) fun Z Z x=>x)))))))
def zPh (p:Prop) (lo:List (Option PV)):Prop:=match lo with
  | _::none::_=>p
  | _=>False
theorem zVk {lo:List (Option PV)}{p:Prop}(h:zPh p lo):lo[1]?=some none/\p:=by
  unfold zPh at h
  split at h
  · exact ⟨rfl,h⟩
  · exact h.elim
def zNI (a:Den) (ts:qI) (te:zFe):zFe:=fun st acc k kx=>qo st fun lo μ=>zPh (a st (fun p M=>oK (fun xs=>zAQ 1 ts te p M xs ⟨lo,M⟩ acc k kx) .mk (itP M p)) kx) lo
theorem zUC {A:Around}{B:Heap}{outer:List Env}{fs:Frs}{L C D:Addr}{m:Str->Option Value}{elt:Expr}{c0:Comprehension}{tx:Str}{tp:Pos}{iter:Expr}{ifs:List Expr}{pos:Pos}{a e:Den}{ts:qI}(S:zFd F sc clo nm nmc n fr) (HS:zDb Tp w) (n1:1<n) (htx:nmc[1]?=some tx)
    (X:Ct (Tp w) d true A B outer fs L F) (hCL:C≠L) (hCD:C≠D) (hi:yC Tp w d true F (some sc) nmc iter a) (he:yC Tp w d true F (some sc) nmc elt e) (hs:∀L C x,foldedSetIterable iter (yL F (some sc) L C (clo L)) x=pure x) (ht:zSL Tp w d F sc nmc ifs ts) :
    GoC Tp w d F nmc n sc (clo L) A B outer fs L C D m (do
      let x ← eval iter (yL F (some sc) L C (clo L))
      standAt iter.pos
      let x ← foldedSetIterable iter (yL F (some sc) L C (clo L)) x
      let _ ← runOwn (.compStart (.ListComp elt [c0,⟨.Name tx tp,iter,ifs,0⟩] sc pos) 1 (← holding [x] (pyIter x)) (.ref D) (yL F (some sc) L C (clo L))) (yL F (some sc) L C (clo L))
      pure ()) (zNI a ts (qy e)):=by
  intro g s lo acc M x k kx t Q E ok ex
  refine xA (zVk t) fun hl1 t=>?_
  refine zt x.c fun o mC lc hn clc=>?_
  refine wpAny_bind ((hi.go A B outer fs L C (clo L) X (fun Z=>hCL) g M m s lo x.inv (clc.locs x.inv lc x.cn hn) _ kx t) _ _ (fun v p M1z g1z h1z tk1z e1z i1z r1 q1z=>?_) fun e M' g' h' tk' ee i q=>?_)
  · refine xEA (qM q1z) fun xs hx hl=>?_
    refine wpAny_bind (wpAny_standAt (wpAny_bind (wpAny_of_eq (hs L C v) ?_)))
    refine wpAny_bind (wpAny_holding (zJb (s:={ s with heap:=h1z,toks:=tk1z }) (HS B X.top) i1z r1 hx fun Ia K g2z h2z tk2 hI e2z i2z it2 ent2=>?_))
    have x2z:=x.ext (e1z.trans e2z) i2z
    have hCst:∀{g':Gh},Ext (DC C D) g1z g'->Ext (DC C D) g g':=fun e=>(e1z.weaken fun Z z=>z.elim).trans e
    have loop:codeAny (model PG w) A (.compLoop (.ListComp elt [c0,⟨.Name tx tp,iter,ifs,0⟩] sc pos) 1 (.ref Ia) (.ref D) (yL F (some sc) L C (clo L))) (fun r s'=>match r with
        | .ok f=>wpAny (model PG w) A (pure ()) Q E s'
        | .error e=>cameBackBy (model PG w) A (yL F (some sc) L C (clo L)) E e s') { s with heap:=h2z,toks:=tk2 }:=by
      refine zPj (g₀:=g1z) (s:={ s with heap:=h2z,toks:=tk2 }) (emit:=do let y ← eval elt (yL F (some sc) L C (clo L));let _ ← call (.builtin "list.append") [.ref D,y];pure ()) X hCL hCD rfl htx n1 hl1 S.nd (S.local n1 htx) S.kind rfl ht (zSd X hCL hCD he) hI (e2z.weaken fun Z z=>z.elim) x2z it2 ent2 hl (fun ys M' g' h' tk' e' x' k'=>?_) fun e M' g' h' tk' e' x' tr' c' q'=>?_
      · exact wpAny_pure (ok ys M' g' h' tk' (hCst e') x' k')
      · refine XIn.cameBack (w:=w) (s:={ s with heap:=h',toks:=tk' }) rfl x' tr' fun h'' y=>?_
        refine yl c' fun oC mC lC hnC fC niC=>?_
        exact ex e M' g' h'' tk' (hCst e') y (yb oC mC lC (hnC.at' fun o' eo=>by rw [(x'.inv.led _ _ lC).1] at eo;refine sE eo ?_;clear eo;rintro rfl;exact (y.inv.led _ _ lC).1) fC niC) q'
    refine wpAny_bind (wpAny_runOwn ?_)
    exact zJG (w:=w) loop (zPi (s:={ s with heap:=h2z,toks:=tk2 }) ent2.st loop)
  · have x1z:=x.ext ee i.inv
    refine zt x1z.c fun o1z mC1 lc1 hn1z Z=>?_
    exact ex e M' g' h' tk' (ee.weaken fun Z z=>z.elim) i (yS o1z mC1 lc1 hn1z x1z.cn) q
theorem zcf {elt:Expr}{tx ty:Str}{tp tq:Pos}{iter iter':Expr}{pos:Pos}{it acc:Value}{env:Env} :
    compTurn (.ListComp elt [⟨.Name tx tp,iter,[],0⟩,⟨.Name ty tq,iter',[],0⟩] sc pos) 0 it acc env=(do
      standAt iter.pos
      match ← pyNext it with
      | none=>pure (.done .next)
      | some v=>do
        letOwnedTupleGo (.Name tx tp) it v
        assign (.Name tx tp) env v
        let ok ← zGW [] env
        if ok=true then (do
          let x ← eval iter' env
          standAt iter'.pos
          let x ← foldedSetIterable iter' env x
          let _ ← runOwn (.compStart (.ListComp elt [⟨.Name tx tp,iter,[],0⟩,⟨.Name ty tq,iter',[],0⟩] sc pos) 1 (← holding [x] (pyIter x)) acc env) env
          pure ())
        again (.compLoop (.ListComp elt [⟨.Name tx tp,iter,[],0⟩,⟨.Name ty tq,iter',[],0⟩] sc pos) 0 it acc env)):=by
  have e:compTurn (.ListComp elt [⟨.Name tx tp,iter,[],0⟩,⟨.Name ty tq,iter',[],0⟩] sc pos) 0 it acc env=(do
      standAt iter.pos
      match ← pyNext it with
      | none=>pure (.done .next)
      | some v=>do
        letOwnedTupleGo (.Name tx tp) it v
        assign (.Name tx tp) env v
        let ok ← zGW [] env
        if ok=true then (do
          let x ← eval iter' env
          standAt iter'.pos
          let x ← foldedSetIterable iter' env x
          let _ ← runOwn (.compStart (.ListComp elt [⟨.Name tx tp,iter,[],0⟩,⟨.Name ty tq,iter',[],0⟩] sc pos) 1 (← holding [x] (pyIter x)) acc env) env
          again (.compLoop (.ListComp elt [⟨.Name tx tp,iter,[],0⟩,⟨.Name ty tq,iter',[],0⟩] sc pos) 0 it acc env))
        else again (.compLoop (.ListComp elt [⟨.Name tx tp,iter,[],0⟩,⟨.Name ty tq,iter',[],0⟩] sc pos) 0 it acc env)):=by rfl
  rw [e]
  simp only [LawfulMonad.bind_assoc,LawfulMonad.pure_bind]
theorem zbW {elt:Expr}{tx ty:Str}{tp tq:Pos}{iter iter':Expr}{pos:Pos}{a a' e:Den}(S:zFd F sc clo nm nmc n fr) (HS:zDb Tp w) (n1:1<n) (htx:nmc[0]?=some tx) (hty:nmc[1]?=some ty) (hi:yC Tp w d true F none nm iter a) (hi':yC Tp w d true F (some sc) nmc iter' a')
    (he:yC Tp w d true F (some sc) nmc elt e) (hs:∀L x,foldedSetIterable iter (yE F L) x=pure x) (hs':∀L C x,foldedSetIterable iter' (yL F (some sc) L C (clo L)) x=pure x) :
    zJl Tp w d F nm nmc n fr sc clo elt tx tp iter [] [⟨.Name ty tq,iter',[],0⟩] pos a (fun st k Z=>k true st.mem) (zNI a' (fun st k Z=>k true st.mem) (qy e)) where
  S:=S
  HS:=HS
  n0:=Nat.lt_of_succ_lt n1
  htx:=htx
  hiter:=hi
  hs:=hs
  tests:=.inl ⟨rfl,rfl⟩
  emit A B outer fs L C D m I X hCL hCD:=(iEA _ (zUC (c0:=⟨.Name tx tp,iter,[],0⟩) (pos:=pos) (tp:=tq) S HS n1 hty X hCL hCD hi' he hs' (.inl ⟨rfl,rfl⟩)) zcf)
end

noncomputable abbrev zKG (dd:Option Addr) (t:Addr):Obj:={ cls:=CLS,dict:=dd,data:=.fields #[.ref t,.none,.none,.none,.bool false,.none],slots:=#[] }
section
variable {M:Model}{A:Around}{E:Value->Shared->Prop}{env:Env}
variable {nm q:Str}{N:Addr}{bs bm:List Value}{hdct:Bool}{sn:List Str}{sub:List Value}{ab:Bool}{col:Option Bool}{dd:Option Addr}{k0 k1 k2 k3 k5:Option Value}{newId:String}
theorem zNr {s:Shared}{x:Sem Value}{Q:Flow->Shared->Prop}(hbase:bm.contains (.type "BaseException")=true) (hh:A.handled=none)
    (h:wpAny M A x (fun v s1z=>∃e dx t,v=.ref e/\s1z.heap.get? 51=some (excClassObj nm q 51 N bs bm hdct sn sub ab col dd k0 k1 k2 k3 k5 newId)/\s1z.heap.get? e=some (zKG dx t)/\E (.ref e) s1z) E s) :
    wpAny M A (raiseStmt env (some x) none) Q E s:=by
  have hcB:(Value.ref 51::bm).contains (.type "BaseException")=true:=by rw [List.contains_cons,hbase,Bool.or_true]
  unfold raiseStmt
  refine wpAny_bind (wpAny_mono h (fun v s1z h1z=>?_) fun Z Z x=>x)
  refine yY h1z ?_;clear h1z;intro e dx t z1 hC he hE;subst z1
  obtain ⟨hp,g,d,tk,os⟩:=s1z
  repeat (first | with_reducible refine wpAny_loadPart_at he ?_ | with_reducible refine wpAny_loadPart_at hC ?_ | (with_reducible refine wpAny_isSubtype_exc hC ?_;rw [hcB]) | wp_step)
  exact wpAny_raiseNew_none hh hE
end
inductive zSK (Tp:World->Heap->Prop) (w:World):Prop
  | mk (nm q N bs bm hdct sn sub ab col dd k0 k1 k2 k3 k5 newId):bm.contains (.type "BaseException")=true->(∀B,Tp w B->B.get? 51=some (excClassObj nm q 51 N bs bm hdct sn sub ab col dd k0 k1 k2 k3 k5 newId))->zSK Tp w
def zHs (Tp:World->Heap->Prop) (w:World) (d:Nat):Prop:=
  ∀(A:Around) (B:Heap) (outer:List Env) (fs:Frs) (L:Addr) (F:FD),Ct (Tp w) d true A B outer fs L F->∀(g:Gh) (M:Mem) (m:Str->Option Value) (s:Shared),Inv w.params B L fs g M m s.heap->∀(x:Str) (t:Tok) (Q:Value->Shared->Prop) (E:Value->Shared->Prop),
    (∀h' tk e dx t',(∀b o,s.heap.get? b=some o->h'.get? b=some o)->s.heap.get? e=none->h'.get? e=some (zKG dx t')->Q (.ref e) { s with heap:=h',toks:=tk })->wpAny (model PG w) A (call CLS [.str x t]) Q E s
section
variable {w:World}{P:Params}{B:Heap}{L:Addr}{fs:Frs}{g:Gh}{M:Mem}{m:Str->Option Value}{h:Heap}
theorem Inv.base (I:Inv P B L fs g M m h):∃G:Heap,B.StaysIn G/\(∀a o,g.led a=some o->G.get? a=some o)/\(∀b o,G.get? b=some o->h.get? b=some o)/\G.get? L=none/\∀p∈fs,G.get? p.1=none:=by
  have step:∀l:Frs,(∀p∈l,p∈fs)->∃G:Heap,B.StaysIn G/\(∀a o,g.led a=some o->G.get? a=some o)/\(∀b o,G.get? b=some o->h.get? b=some o)/\G.get? L=none/\∀p∈l,G.get? p.1=none:=by
    intro l
    induction l with
    | nil =>
      intro _
      have hBL:B.get? L=none:=Heap.get?_none_of_le I.lb
      refine (zWB (Gh.shut h L) (fun b o e=>?_) (fun a o e=>?_) (fun b o e=>(zGU e).2) zEj (fun p hp=>nomatch hp))
      · have hb:b≠L:=fun q=>by rw [q,hBL] at e;exact zW e
        exact (yX hb).trans (I.keep b o e)
      · exact (yX (I.led a o e).2.1).trans (I.led a o e).1
    | cons p l ih =>
      intro hl
      refine zOk (ih fun q hq=>hl q (.tail _ hq)) fun G g1 g2 g3 g4 g5=>?_
      refine zBb (I.fs p (hl p (.head _))) fun a1 a2 a3 a4=>?_
      refine (zWB (Gh.shut G p.1) (fun b o e=>?_) (fun a o e=>?_) (fun b o e=>g3 b o (zGU e).2) ?_ (fun q hq=>?_))
      · have hb:b≠p.1:=fun q=>by rw [q,a2] at e;exact zW e
        exact (yX hb).trans (g1 b o e)
      · have hb:a≠p.1:=fun q=>by rw [q,a3] at e;exact zW e
        exact (yX hb).trans (g2 a o e)
      · rw [yX (Ne.symm a4)];exact g4
      · by_cases hq':q.1=p.1
        · rw [hq'];exact zEj
        · rw [yX hq']
          rcases List.mem_cons.mp hq with rfl | hq
          · exact absurd rfl hq'
          · exact g5 q hq
  exact step fs fun Z h=>h
theorem XIn.made (I:Inv P B L fs g M m h) {h':Heap}(k:∀b o,h.get? b=some o->h'.get? b=some o) {e:Addr}{dx:Option Addr}{t:Addr}(new:h.get? e=none) (he:h'.get? e=some (zKG dx t)):XIn P B L fs g M m e CLS h':=by
  refine zOk I.base fun G g1 g2 g3 g4 g5=>?_
  refine ⟨I.keeps k,G,g1,g2,fun b o eb=>k b o (g3 b o eb),g4,g5,?_,.inl (zHZ _ _ (.ref t) he rfl rfl rfl rfl)⟩
  generalize q:G.get? e=z4;induction z4 using Option.casesOn with
  | none=>rfl
  | some o=>rw [g3 e o q] at new;exact zCR new
end
section
variable {Tp:World->Heap->Prop}{w:World}{d:Nat}{F:FD}{nm:List Str}
def zBk:zX:=fun st Z Z kx=>kx st
theorem zAO {n x:Str}{np cp cpos pos:Pos}{kd:Nat}(HE:zSK Tp w) (HR:zHs Tp w d) (K:zBP Tp w CLS) (hn:yC Tp w d true F none nm (.Name n np) (zC (.glob CLS))) :
    zDa Tp w d true F nm (.Raise (some (.Call (.Name n np) [.Constant (.str x) kd cp] [] cpos)) none pos) zBk:=by
  constructor
  intro A B outer fs L X g M m s lo I So kn kr kx t Q E on or ox
  obtain ⟨nm',q,N,bs,bm,hdct,sn,sub,ab,col,dd,k0,k1,k2,k3,k5,newId,hbase,hobj⟩:=id HE
  have hB:=hobj B X.top
  rw [arm_exec_Raise]
  refine wpAny_bind (wpAny_standAt ?_)
  show wpAny (model PG w) A (raiseStmt (yE F L) (some (do let v ← eval (.Call (.Name n np) [.Constant (.str x) kd cp] [] cpos) (yE F L);standAt pos;pure v)) none) _ E s
  refine zNr (nm:=nm') (q:=q) (N:=N) (bs:=bs) (bm:=bm) (hdct:=hdct) (sn:=sn) (sub:=sub) (ab:=ab) (col:=col) (dd:=dd) (k0:=k0) (k1:=k1) (k2:=k2) (k3:=k3) (k5:=k5) (newId:=newId) hbase (X.hz rfl) (wpAny_bind ?_)
  refine Call_ ((hn.go A B outer fs L L [] X (fun z=>by exact zV z) g M m s lo I So.lo (fun p M'=>p=.glob CLS/\M'=M) (fun Z=>False) ⟨rfl,rfl⟩) _ _ (fun u p M1z g1z h1z tk1z e1z i1z r1 q1z=>?_) fun Z Z Z Z Z Z Z q=>q.elim)
  refine xA q1z ?_;clear q1z;intro z2 z3;subst z2;subst z3
  obtain rfl:u=CLS:=r1
  refine callWith_of (P:=fun h=>B.StaysIn h) rfl (fun h hh=>K B X.top h hh) ?_
  refine evalArgs_plain (Calls.spliced_cons (wpAny_Constant_str (k:=kd) (pos:=cp) (Calls.spliced_nil ⟨i1z.keep,?_⟩)))
  refine HR A B outer fs L F X g1z M1z m { s with heap:=h1z,toks:=tk1z+1 } i1z x _ _ _ fun h' tk e dx t' k new he=>?_
  refine wpAny_bind (wpAny_standAt (wpAny_pure (qi e dx t' rfl (k _ _ (i1z.keep _ _ hB)) he ?_)))
  exact ox e ⟨lo,M1z⟩ m g1z h' tk e1z.ownX (XIn.made i1z k new he) (So.ext e1z) t
def zVQ (a b:zX):zX:=fun st kn kr kx=>a st kn kr (fun st'=>b st' kn kr (fun Z=>False))
theorem Ct.marked {Tp:Heap->Prop}{hz:Bool}{A:Around}{B:Heap}{outer:List Env}{fs:Frs}{L:Addr}(X:Ct Tp d hz A B outer fs L F) (v:Option Value):Ct Tp d false (A.mark v) B outer fs L F where
  top:=X.top
  fr:=X.fr
  room:=X.room
  units:=X.units
  out:=X.out
  kinds:=X.kinds
  fk:=X.fk
  hz h:=by exact zV h
theorem zTK {n:Str}{np hp pos:Pos}{body:List Stmt}{b0z:Stmt}{suite:List Stmt}{a b:zX}(HE:zSK Tp w) (ha:zz Tp w d true F nm body a) (hb:zz Tp w d false F nm (b0z::suite) b) (G:zOm Tp w n CLS) (hk:∀L,(yE F L).kindOf n=some .globalImplicit) (hdb:(n==("__debug__" : Str))=false) :
    zDa Tp w d true F nm (.Try body [.ExceptHandler (some (.Name n np)) none (b0z::suite) hp] [] [] pos) (zVQ a b):=by
  constructor
  intro A B outer fs L X g M m s lo I So kn kr kx t Q E on or ox
  obtain ⟨nm',q,N,bs,bm,hdct,sn,sub,ab,col,dd,k0,k1,k2,k3,k5,newId,hbase,hobj⟩:=id HE
  have hB:=hobj B X.top
  refine wpAny_Try_except ((ha.go A B outer fs L X g M m s lo I So kn kr _ t) _ _ (fun st' m' g' h' tk' e' i' so' q'=>?_) (fun v pv M' m' g' h' tk' e' i' r' q'=>?_) fun e st' m' g' h' tk' e' x' so' q'=>?_)
  · exact wpAny_execs_nil (on st' m' g' h' tk' e' i' so' q')
  · exact or v pv M' m' g' h' tk' e' i' r' q'
  · refine XIn.note (w:=w) (s:={ s with heap:=h',toks:=tk' }) rfl X x' fun h1z x1z tr1=>?_
    refine XIn.land (w:=w) (s:={ s with heap:=h1z,toks:=tk' }) X x1z tr1 fun h2z x2z tr2=>?_
    have Xm:=X.marked (some (.ref e))
    obtain ⟨G2,a0,g1,g2,g3,g4,g5,g6,tr⟩:=tr2
    refine xEA tr.there fun ob hob hobc=>?_
    refine wpAny_handleBy_cons (codeAny_handlers_test ?_) (by intro q;cases q)
    refine xEA (G B X.top) fun mg hg hv=>?_
    refine Name_function_global X.fk (hk L) (loadGlobal_global (mg:=mg) (hg.keeps x2z.inv.keep) hv ?_) hdb
    refine wpAny_excMatches_sub_self (x2z.inv.keep _ _ hB) hob hobc hbase (codeAny_handlers_suite ?_)
    refine XIn.land (w:=w) (s:={ s with heap:=h2z,toks:=tk' }) Xm x2z ⟨G2,a0,g1,g2,g3,g4,g5,g6,tr⟩ fun h3z x3z Z=>?_
    refine (hb.go (A.mark (some (.ref e))) B outer fs L Xm g' st'.mem m' { s with heap:=h3z,toks:=tk' } st'.lo x3z.inv so' kn kr _ q') _ _ (fun st4 m4z g4z h4z tk4 e4z i4z so4 q4z=>?_) (fun v pv M4z m4z g4z h4z tk4 e4z i4z r4 q4z=>?_) fun Z Z Z Z Z Z Z Z Z q4z=>q4z.elim
    · exact on st4 m4z g4z h4z tk4 (e'.trans e4z) i4z so4 q4z
    · exact or v pv M4z m4z g4z h4z tk4 (e'.trans e4z) i4z r4 q4z
end

section
variable {w:World}{P:Params}{B:Heap}{L:Addr}{fs:Frs}{g:Gh}{M:Mem}{m:Str->Option Value}{h:Heap}
theorem Inv.addAt (I:Inv P B L fs g M m h) {a:Addr}{o:Obj}(ha:h.get? a=some o) (hL:a≠L) (hB:B.get? a=none) (hf:g.led a=none) (hfs:∀p∈fs,p.1≠a) (z:Prop):Inv P B L fs (g.add a o z) M m h/\Ext NoX g (g.add a o z):=by
  have E:=Gh.add_ext (g:=g) hf o z
  have ne:∀b o',g.led b=some o'->b≠a:=fun b o' e q=>by rw [q,hf] at e;exact zW e
  refine ⟨⟨I.keep,I.ns,I.lb,fun b ob e=>?_,I.n,fun i hi=>?_,I.inj,fun p hp=>?_,I.hP⟩,E⟩
  · have e':(if b=a then some o else g.led b)=some ob:=e
    by_cases q:b=a
    · subst q
      rw [if_pos rfl] at e'
      refine sE e' ?_;clear e';rintro rfl
      exact ⟨ha,hL,fun Z=>hB⟩
    · rw [if_neg q] at e'
      refine xAA (I.led b ob e') fun x y w=>?_
      refine ⟨x,y,fun nf=>w fun f=>nf ?_⟩
      show (if b=a then z else g.fz b)
      rw [if_neg q];exact f
  · refine qh (I.cell i hi) fun o' e f c=>?_
    have q:=ne _ _ e
    refine (q6 o' ?_ ?_ (c.ext E))
    · show (if g.ρ i=a then _ else _)=_
      rw [if_neg q];exact e
    · show ¬(if g.ρ i=a then _ else _)
      rw [if_neg q];exact f
  · refine zBb (I.fs p hp) fun x y w v=>?_
    refine (zEg x y ?_ v)
    show (if p.1=a then _ else _)=_
    rw [if_neg (hfs p hp)];exact w
theorem Inv.above (I:Inv P B L fs g M m h) {a:Addr}(hB:B.get? a=none) (ha:∀p∈zHv B L h,p.1<a):g.led a=none/\∀p∈fs,p.1≠a:=by
  refine ⟨?_,fun p hp q=>?_⟩
  · generalize q:g.led a=z4;induction z4 using Option.casesOn with
    | none=>rfl
    | some o=>exact absurd (ha (a,o) (zDp.mpr ⟨(I.led a o q).1,(I.led a o q).2.1,hB⟩)) (Nat.lt_irrefl _)
  · refine zBb (I.fs p hp) fun z1 a2 Z a4=>?_;obtain ⟨o,es,ep,ho,_⟩:=z1
    have:=ha (p.1,o) (zDp.mpr ⟨ho,a4,a2⟩)
    rw [q] at this
    exact absurd this (Nat.lt_irrefl _)
end
section
variable {Tp:World->Heap->Prop}{w:World}{d:Nat}
structure zSJ (Tp:World->Heap->Prop) (w:World) (C fI:Addr):Prop where
  K:∃K:Frag,(∀B,Tp w B->K.In B)/\makesIn K C=true/\findIn K (.ref C) "__init__" = some (some (.ref fI))/\isFn K (.ref fI)=true/\keepIn K (.ref C)=true
theorem zRd {K:Frag}{v:Value}(hK:∀B,Tp w B->K.In B) (e:keepIn K v=true):zBP Tp w v:=fun B hB h hh =>
  let ⟨k,hk,L⟩:=looks_keep (M:=model PG w) e ((hK B hB).keeps hh)
  (iEA k (by rcases hk with h | h;exact .inl h;exact .inr (.inl h)) L)
def zUm (C:Addr) (ti:zh):zh:=fun ps M k kx=>ti (.inst C M.n::ps) (M.new (.sdict [])) (fun r M'=>r=.none/\k (.inst C M.n) M') kx
theorem zUl (A:Around) (C:Addr) (vals:List Value) {l:List Env}(h:A.frames=some l):(A.under (.builtin "type.__call__" ⟨.ref C::vals,[]⟩)).frames=some l:=by
  obtain ⟨hd,dp,fr,gs,u⟩:=A
  dsimp only at h
  subst h
  rfl
theorem zXQ (A:Around) (C:Addr) (vals:List Value):(A.under (.builtin "type.__call__" ⟨.ref C::vals,[]⟩)).units=A.units+1:=rfl
theorem zHj {C fI:Addr}{ti:zh}(O:zSJ Tp w C fI) (hi:yQ Tp w d (.ref fI) ti):yN Tp w (d+1) (.ref C) (zUm C ti):=by
  constructor
  intro A B outer fs L Fc X g M m s I vs ps r k kx t Q E ok ex
  refine zOk O.K fun K hK h1 h2 h3 Z=>?_
  refine call_cls I.fr (hK B X.top) I.news h1 h2 h3 fun x dx h' F' N' hap hlt=>?_
  have X1:Ct (Tp w) d true (A.under (.builtin "type.__call__" ⟨.ref C::vs,[]⟩)) B outer fs L Fc:={
    top:=X.top
    fr:=zUl A C vs X.fr
    room:=by rw [depth_under_kw];have:=X.room;lia
    units:=by rw [zXQ];have:=X.units;lia
    out:=X.out
    kinds:=X.kinds
    fk:=X.fk
    hz:=X.hz }
  have J0:=I.of_news (ex:=[(x,instObj C dx),(dx,dictOf [] 0)]) F' N'
  refine xAA (N' (dx,dictOf [] 0) (.tail _ (.head _))) fun dn1 dn2 dn3=>?_
  refine xAA (N' (x,instObj C dx) (.head _)) fun xn1 xn2 xn3=>?_
  dsimp only at dn1 dn2 dn3 xn1 xn2 xn3
  refine xA (I.above dn3 hap) fun ld fd=>?_
  refine xA (I.above xn3 fun p hp=>Nat.lt_trans (hap p hp) hlt) fun lx fx=>?_
  have hxd:x≠dx:=Nat.ne_of_gt hlt
  refine xA (J0.addAt dn1 dn2 dn3 ld fd False) fun J1 E1=>?_
  have hled:(g.add dx (dictOf [] 0) False).led dx=some (dictOf [] 0):=by show (if dx=dx then _ else _)=_;rw [if_pos rfl]
  have hfz:¬(g.add dx (dictOf [] 0) False).fz dx:=by show ¬(if dx=dx then False else _);rw [if_pos rfl];exact id
  have hni:∀i,i<g.n->dx≠g.ρ i:=fun i hi q=>by
    refine xEA (I.cell i hi) fun o e Z=>?_
    rw [← q,ld] at e;exact zW e
  refine xA (J1.cellize (c:=.sdict []) hled hfz hni (Heap.SameBut.refl _ _) dn1 (yb [] 0 rfl List.nodup_nil rfl rfl)) fun J2 E2=>?_
  have lx2:((g.add dx (dictOf [] 0) False).cel dx (dictOf [] 0)).led x=none:=by
    show (if x=dx then _ else (if x=dx then _ else g.led x))=_
    rw [if_neg hxd,if_neg hxd];exact lx
  refine xA (J2.addAt xn1 xn2 xn3 lx2 fx True) fun J3 E3z=>?_
  have E4:Ext NoX g _:=(E1.via E2 fun b hb=>by rw [hb];exact ld).trans E3z
  have rx:Rep (((g.add dx (dictOf [] 0) False).cel dx (dictOf [] 0)).add x (instObj C dx) True) (.inst C M.n) (.ref x):=by
    refine (zPo x rfl ?_ ?_ (by show M.n<g.n+1;rw [I.n];exact Nat.lt_succ_self _))
    · show (if x=x then True else _);rw [if_pos rfl];trivial
    · show (if x=x then some (instObj C dx) else _)=some (instObj C (if M.n=g.n then dx else _))
      rw [if_pos rfl,if_pos I.n.symm]
  refine codeAny_mono (hi.go _ B outer fs L Fc X1 _ _ m { s with heap:=h' } J3 (.ref x::vs) (.inst C M.n::ps) (yS _ _ rfl rx (r.mono E4)) _ kx t (fun v s'=>v=.none/\Q (.ref x) s') (fun e s'=>E e s')
    (fun v pv M' g' h'' tk' e' i' r' q'=>?_) fun e M' g' h'' tk' e' i' q'=>ex e M' g' h'' tk' (E4.trans e') i' q') fun rr s' hr=>?_
  · refine xA q' ?_;clear q';intro z2 hk;subst z2
    exact ⟨zDw r',ok _ _ M' g' h'' tk' (E4.trans e') i' (rx.mono e') hk⟩
  · induction rr using Except.casesOn with
    | error e=>exact hr
    | ok f=>induction f using PySem.Flow.casesOn with
      | ret v=>exact hr
      | _=>exact hr.elim
structure zUt (Tp:World->Heap->Prop) (w:World) (C:Addr) (name:Str) (f:Addr):Prop where
  K:∃K:Frag,(∀B,Tp w B->K.In B)/\plainGet K C name=true/\findIn K (.ref C) name=some (some (.ref f))/\isFn K (.ref f)=true
noncomputable def yz (C:Addr) (name:Str) (t:zh) (o:PV) (M:Mem):Option zh:=match o with
  | .inst c i=>if c=C then (asS (M.c i)).bind fun kvs=>if (atk kvs name).isNone then some t else none else none
  | _=>none
theorem zEi {C:Addr}{M:Mem}{i:Nat}{kvs:List (Str×PV)}{name:Str}{t:zh}(h:M.c i=.sdict kvs) (e:atk kvs name=none):yz C name t (.inst C i) M=some t:=by
  show (if C=C then _ else _)=_;rw [if_pos rfl,h];show (if _ then _ else _)=_;rw [e];rfl
theorem zAs {C f:Addr}{name:Str}{t:zh}(O:zUt Tp w C name f) (K:zBP Tp w (.ref f)) (hf:yN Tp w d (.ref f) t):zQt Tp w d name (yz C name t) where
  ok o M tf e:=by
    induction o using PV.casesOn with
    | inst c i =>
      refine zYa e fun hc e2=>?_
      subst hc
      refine xEA (Option.bind_eq_some_iff.mp e2) fun kvs hk e=>?_
      have hk:=zEZ hk
      · · · refine zJQ e fun hn e=>?_
            subst e
            refine zXZ O.K fun KF hK h1 h2 h3=>?_
            refine (q6 (.ref f) K hf (fun {A B L fs g m s} ht I vo pl Q E r h=>?_))
            refine zBF (I.instAt r hk) fun x es n z3 hi hle hI nd hks hr=>?_;subst z3
            have hl:=(zNq (w:=w) (name:=name) hks hr).2 (by simpa using hn)
            exact method_inst I.fr (hK B ht) hI h1 h2 h3 hl h
    | _=>exact zW e
end

noncomputable def yI (i:Nat):Stmt:=PG.main.body.getD i (.Pass ⟨0,0,0,0⟩)
noncomputable def zu:Stmt->List Stmt
  | .FunctionDef _ _ b ..=>b
  | .ClassDef _ _ _ b ..=>b
  | _=>[]
noncomputable def zFW:Stmt->Arguments
  | .FunctionDef _ a ..=>a
  | _=>⟨[],[],none,[],[],none,[]⟩
noncomputable def zi:Stmt->Scope
  | .FunctionDef _ _ _ _ _ _ s ..=>s
  | _=>⟨.function,[],false,false,[]⟩
noncomputable def inC (i j:Nat):Stmt:=(zu (yI i)).getD j (.Pass ⟨0,0,0,0⟩)
section
variable {Tp:World->Heap->Prop}{w:World}{d:Nat}{hz:Bool}{F:FD}{cs:Option Scope}{nm:List Str}
theorem Ct.down {Tp:Heap->Prop}{d d':Nat}{hz:Bool}{A:Around}{B:Heap}{outer:List Env}{fs:Frs}{L:Addr}{F:FD}(h:d'<=d) (X:Ct Tp d hz A B outer fs L F):Ct Tp d' hz A B outer fs L F where
  top:=X.top
  fr:=X.fr
  room:=by have:=X.room;lia
  units:=by have:=X.units;lia
  out:=X.out
  kinds:=X.kinds
  fk:=X.fk
  hz:=X.hz
theorem yN.up {d d':Nat}{f:Value}{t:zh}(h:d<=d') (x:yN Tp w d f t):yN Tp w d' f t:=⟨fun A B outer fs L F X=>x.go A B outer fs L F (X.down h)⟩
theorem yQ.up {d d':Nat}{f:Value}{t:zh}(h:d<=d') (x:yQ Tp w d f t):yQ Tp w d' f t:=⟨fun A B outer fs L F X=>x.go A B outer fs L F (X.down h)⟩
def zGs:Den:=fun Z Z Z=>False
theorem zDY {e:Expr}:yC Tp w d hz F cs nm e zGs:=⟨fun Z Z Z Z Z Z Z Z Z Z Z Z Z Z Z Z Z Z t=>t.elim⟩
noncomputable def zDI (x:Str):Bool:=!(x==("__debug__" : Str))
theorem v0 {x:Str}{pos:Pos}(i:Nat) (hi:nm[i]?=some x) (h:zDI x=true):yC Tp w d hz F none nm (.Name x pos) (zF i):=
  zTL i hi (fun Z h=>nomatch h) (by simpa [zDI] using h)
theorem v1 {sc:Scope}{x:Str}{pos:Pos}(i:Nat) (hi:nm[i]?=some x) (hk:sc.kind=.function) (h:zDI x=true):yC Tp w d hz F (some sc) nm (.Name x pos) (zF i):=
  zTL i hi (fun Z h=>by refine sE h ?_;clear h;rintro rfl;exact hk) (by simpa [zDI] using h)
theorem g0 {x:Str}{pos:Pos}{v:Value}{p:PV}(G:zOm Tp w x v) (hp:∀g,Rep g p v) (hk:F.scope.names.lookup x=some .globalImplicit) (h:zDI x=true):yC Tp w d hz F none nm (.Name x pos) (zC p):=
  zQZ G hp (fun Z h=>nomatch h) (fun Z Z Z=>hk) (by simpa [zDI] using h)
theorem b0 {x:Str}{pos:Pos}{v:Value}{p:PV}(G:zMR Tp w x v) (hp:∀g,Rep g p v) (hk:F.scope.names.lookup x=some .globalImplicit) (h:zDI x=true):yC Tp w d hz F none nm (.Name x pos) (zC p):=
  zMn G hp (fun Z h=>nomatch h) (fun Z Z Z=>hk) (by simpa [zDI] using h)
theorem g1 {sc:Scope}{x:Str}{pos:Pos}{v:Value}{p:PV}(G:zOm Tp w x v) (hp:∀g,Rep g p v) (hk:(relabel sc (yE F 0)).names.lookup x=some .globalImplicit) (hs:sc.kind=.function) (h:zDI x=true):yC Tp w d hz F (some sc) nm (.Name x pos) (zC p):=
  zQZ G hp (fun Z h=>by refine sE h ?_;clear h;rintro rfl;exact hs) (fun Z Z Z=>hk) (by simpa [zDI] using h)
theorem b1 {sc:Scope}{x:Str}{pos:Pos}{v:Value}{p:PV}(G:zMR Tp w x v) (hp:∀g,Rep g p v) (hk:(relabel sc (yE F 0)).names.lookup x=some .globalImplicit) (hs:sc.kind=.function) (h:zDI x=true):yC Tp w d hz F (some sc) nm (.Name x pos) (zC p):=
  zMn G hp (fun Z h=>by refine sE h ?_;clear h;rintro rfl;exact hs) (fun Z Z Z=>hk) (by simpa [zDI] using h)
theorem zEa:∀(l:List (Str×NameKind)) (n n':Nat) (acc acc':List (Str×Addr)) (x:Str),((acc.lookup x).isSome=(acc'.lookup x).isSome)->((cellsFrom n l acc).lookup x).isSome=((cellsFrom n' l acc').lookup x).isSome
  | [],_,_,_,_,_,h=>h
  | (y,k)::r,n,n',acc,acc',x,h=>by
    unfold cellsFrom
    split
    · refine zEa r _ _ _ _ x ?_
      rw [List.lookup_cons,List.lookup_cons]
      split
      · rfl
      · exact h
    · exact zEa r _ _ _ _ x h
noncomputable def zTM (F:FD) (x:Str):Bool:=F.scope.names.lookup x==some .local||(F.scope.names.lookup x==some .cell&&((cellsFrom 0 F.scope.names []).lookup x).isSome)
theorem zN {F:FD}{x:Str}(h:zTM F x=true):qU F x:=fun L=>by
  unfold zTM at h
  rcases Bool.or_eq_true_iff.mp h with h | h
  · exact .inl (beq_iff_eq.mp h)
  · refine xA (Bool.and_eq_true_iff.mp h) fun a b=>?_
    refine .inr ⟨beq_iff_eq.mp a,Option.isSome_iff_exists.mp ?_⟩
    show ((cellsFrom (L+1) F.scope.names []).lookup x).isSome=true
    rw [zEa F.scope.names (L+1) 0 [] [] x rfl];exact b
theorem zDd:zHr []:=⟨fun Z Z=>rfl,.inl rfl⟩
end

noncomputable def zFX:Stmt->Str
  | .FunctionDef n ..=>n
  | _=>Str.empty
set_option genInjectivity false in
structure ym where
  F:FD
  st:Stmt
  nm:List Str
  k:Nat
def zUr (Tp:World->Heap->Prop) (w:World) (r:ym):Prop:=∀B,Tp w B->B.NoLimit/\B.CodeRec r.F.cd r.F.name/\∃oc od dV kV doc pm an ct sl,B.get? r.F.a=some ⟨oc,od,.func (fnX (zFX r.st) r.F.name (zFW r.st) (zu r.st) r.F.scope [] dV kV doc pm an r.F.cd ct),sl⟩ /\
    ∀vs:List Value,vs.length=r.k->bindArgs (fnX (zFX r.st) r.F.name (zFW r.st) (zu r.st) r.F.scope [] dV kV doc pm an r.F.cd ct) ⟨vs,[]⟩=pure ((r.nm.take r.k).zip vs)
noncomputable def fnB (r:ym):Bool:=
  (r.nm.take r.k).all (fun x=>r.F.scope.names.lookup x==some .local||(r.F.scope.names.lookup x==some .cell&&((cellsFrom 0 r.F.scope.names []).lookup x).isSome)) &&
  (decide r.nm.Nodup&&(decide (r.k<=r.nm.length)&&(!r.F.scope.isCoroutine&&(!r.F.scope.isGenerator&&(r.F.scope.kind==.function&&decide ((cellsFrom 0 r.F.scope.names []).map (·.1)).Nodup)))))
theorem zf {r:ym}(ob:zUr Tp w r) (h:fnB r=true):zUs Tp w r.F (zFX r.st) (zFW r.st) (zu r.st) r.nm r.k:=by
  unfold fnB at h
  simp only [Bool.and_eq_true,decide_eq_true_eq,List.all_eq_true,Bool.not_eq_true',beq_iff_eq] at h
  refine zTY h fun h1 h2 h3 h4 h5 h6 h7=>?_
  refine ⟨ob,fun x hx=>?_,h2,h3,h4,h5,h6,h7⟩
  rcases Bool.or_eq_true_iff.mp (h1 x hx) with h | h
  · exact .inl (beq_iff_eq.mp h)
  · refine xA (Bool.and_eq_true_iff.mp h) fun a b=>?_
    exact .inr ⟨beq_iff_eq.mp a,fun n=>by rw [zEa r.F.scope.names n 0 [] [] x rfl];exact b⟩
noncomputable def zVG (sc:Scope) (env:Env):List (Str×Addr):=sc.names.foldl (fun cs p=>if p.2==.free then (p.1,(env.cells.lookup p.1).getD 0)::cs else cs) []
noncomputable def zbY (F:FD) (sc:Scope) (nm nmc:List Str) (n:Nat) (fr:List Nat) (fls:List Str):Bool:=
  sc.kind==.function&&(sc.names.all (fun y=>y.2 != .cell)&&(sc.names.all (fun y=>y.2 != .local||sc.names.lookup y.1==some .local)&&((nmc.take n).all (fun x=>sc.names.lookup x==some .local) &&
  (decide nmc.Nodup&&(F.scope.kind==.function&&(decide (fr.length=fls.length)&&(fr.zip fls).zipIdx.all (fun p=>nm[p.1.1]?==some p.1.2&&(nmc[n+p.2]?==some p.1.2&&((relabel sc (yE F 0)).names.lookup p.1.2==some .cell&&F.scope.names.lookup p.1.2==some .cell)))))))))
theorem qB {F:FD}{sc:Scope}{nm nmc:List Str}{n:Nat}{fr:List Nat}(fls:List Str) (hc:∀L,closureFor sc (yE F L)=pure (zVG sc (yE F L))) (hb:zbY F sc nm nmc n fr fls=true)
    (hl:∀L,fls.map (fun x=>(zVG sc (yE F L)).lookup x)=fls.map (fun x=>(yE F L).cells.lookup x)):zFd F sc (fun L=>zVG sc (yE F L)) nm nmc n fr:=by
  unfold zbY at hb
  simp only [Bool.and_eq_true,decide_eq_true_eq,List.all_eq_true,beq_iff_eq] at hb
  refine zXY hb fun h1 h2 h3 h4 h5 h6 h7 h8=>?_
  refine ⟨hc,h1,fun y hy=>by simpa using h2 y hy,fun y hy hk=>?_,fun j x hj hx=>h4 x ?_,fun j i hi=>?_,h5,h6⟩
  · have:=h3 y hy
    rw [hk] at this
    simpa using this
  · exact List.mem_of_getElem? (i:=j) (by rw [List.getElem?_take];rw [if_pos hj];exact hx)
  · have hjl:j<fls.length:=h7 ▸ (List.getElem?_eq_some_iff.mp hi).1
    obtain ⟨x,hx⟩:∃x,fls[j]?=some x:=⟨_,List.getElem?_eq_getElem hjl⟩
    have hz:((i,x),j)∈(fr.zip fls).zipIdx:=by
      rw [List.mem_zipIdx_iff_getElem?]
      simp [List.getElem?_zip_eq_some,hi,hx]
    have:=h8 _ hz
    refine (q6 x this.1 this.2.1 (fun L C=>⟨this.2.2.1,this.2.2.2,?_⟩))
    have q:=congrArg (·[j]?) (hl L)
    simp only [List.getElem?_map,hx,Option.map_some,Option.some.injEq] at q
    exact q
noncomputable def zJZ:List (Addr×zh)->Value->Option zh
  | [],_=>none
  | (a,t)::r,v=>match v with | .ref b=>if b=a then some t else zJZ r v | _=>none
section
variable {Tp:World->Heap->Prop}{w:World}{d:Nat}
theorem zXP:∀v tf,zJZ [] v=some tf->zBP Tp w v/\yN Tp w d v tf:=fun Z Z h=>nomatch h
theorem zJi {a:Addr}{t:zh}{r:List (Addr×zh)}(K:zBP Tp w (.ref a)) (h:yN Tp w d (.ref a) t) (hr:∀v tf,zJZ r v=some tf->zBP Tp w v/\yN Tp w d v tf):∀v tf,zJZ ((a,t)::r) v=some tf->zBP Tp w v/\yN Tp w d v tf:=fun v tf e=>by
  unfold zJZ at e
  split at e
  · split at e
    · rename_i hb;subst hb;refine sE e ?_;clear e;rintro rfl;exact ⟨K,h⟩
    · exact hr _ _ e
  · exact zW e
theorem yP {C:Addr}{name:Str}(h:zEK Tp w C name):∀C'∈[C],zEK Tp w C' name:=fun C' hc=>by
  rw [List.mem_singleton] at hc;subst hc;exact h
theorem zbN {e:Expr}{es:List Expr}(h:∀env pos,(backTo pos (starEach (e::es) env)).any (·.1)=false) (h':∀env,starEach (e::es) env=(false,eval e env)::starEach es env):zHr (e::es):=⟨h,.inr (zES e es rfl h')⟩
theorem zHs.up {d d':Nat}(h:d<=d') (x:zHs Tp w d):zHs Tp w d':=fun A B outer fs L F X=>x A B outer fs L F (X.down h)
end
section
variable {w:World}{A:Around}{E:Value->Shared->Prop}{s:Shared}
theorem zUD {id:String}{d o b:Addr}{e:DictEntry}{ep:Nat}{Q:Unit->Shared->Prop}(hdo:d≠o) (hoS:(o==sysModules)=false) (hod:s.heap.get? d=some { cls:=.type "dict",data:=.dict #[] })
    (hoo:s.heap.get? o=some (dictOf [e] ep)) (hk:e.key=.ref b) (hT:s.TypeIs (.ref b) "tuple")
    (h:Q () { s with heap:=s.heap.update d (Obj.mapDictKeys fun Z=>#[e]) }):wpAny (model PG w) A (Builtin.Dict.mergeDict id d o) Q E s:=by
  unfold Builtin.Dict.mergeDict
  rw [if_neg (by simpa using hdo)]
  unfold Builtin.Dict.showsAll
  rw [if_neg (by rw [hoS];exact Bool.false_ne_true)]
  refine wpAny_bind (wpAny_pure ?_)
  refine wpAny_bind (wpAny_dictEntries hoo rfl ?_)
  have hfew:(decide ([e].toArray.size<=8)&&[e].toArray.all fun e=>(keyPart e.key).isSome)=false:=by simp [hk,keyPart]
  rw [hfew]
  dsimp only
  rw [if_pos (by rfl)]
  refine wpAny_bind (wpAny_dictEntries hod rfl ?_)
  rw [if_pos (by rfl)]
  refine wpAny_bind ?_
  unfold Builtin.Dict.entriesForEmpty
  refine wpAny_bind (wpAny_dictEntries hoo rfl ?_)
  rw [← Array.forIn_toList]
  show wpAny _ _ (forIn [e] PUnit.unit _ >>= fun Z=>_) _ _ _
  rw [List.forIn_cons]
  refine wpAny_bind (wpAny_bind (wpAny_bind ?_))
  rw [hk]
  unfold Builtin.Dict.quietEq
  dsimp only
  refine wpAny_bind (wpAny_specialOf hT PySem.F.slot_tuple_eq.lookup (wpAny_pure ?_))
  rw [if_pos (by decide),if_neg (by
    have:(Array.filter (fun x:DictEntry=>x.hash==e.hash) #[e]).size<=1:=Array.size_filter_le
    lia)]
  refine wpAny_pure (wpAny_pure (wpAny_pure ?_))
  rw [if_pos (by rfl)]
  exact wpAny_bind (wpAny_updateDictKeysTo hod rfl (wpAny_pure h) (by show 1<=sizeLine+1;lia))
theorem zVs {o b:Addr}{e:DictEntry}{ep:Nat}{Q:Value->Shared->Prop}(hoS:(o==sysModules)=false) (hoo:s.heap.get? o=some (dictOf [e] ep)) (hk:e.key=.ref b) (hT:s.TypeIs (.ref b) "tuple")
    (h:∀h',h'.get? s.heap.objs.size=some (dictOf [e] 1)->Heap.SameBut s.heap.objs.size (s.heap.push { cls:=.type "dict",data:=.dict #[] }) h'->Q (.ref s.heap.objs.size) { s with heap:=h' }) :
    wpAny (model PG w) A (call (.type "dict") [.ref o]) Q E s:=by
  refine callType_codes (Q₁:=fun obj s1z=>obj=.ref s.heap.objs.size/\s1z={ s with heap:=s.heap.push { cls:=.type "dict",data:=.dict #[] } }) F.kt_called_dict (F.kt_typeCall_dict_1 _) F.entry_dict_init (kt_code_dict_new _ ⟨rfl,rfl⟩) ?_
  rintro obj s1z ⟨rfl,rfl⟩
  have hnew:(s.heap.push { cls:=.type "dict",data:=.dict #[] }).get? s.heap.objs.size=some { cls:=.type "dict",data:=.dict #[] }:=Heap.get?_push_size _ rfl
  have ho':(s.heap.push { cls:=.type "dict",data:=.dict #[] }).get? o=some (dictOf [e] ep):=Heap.get?_push_of_some _ hoo
  have hdo:s.heap.objs.size≠o:=fun q=>absurd (Heap.lt_size hoo) (by rw [q];exact Nat.lt_irrefl _)
  have hT':({ s with heap:=s.heap.push { cls:=.type "dict",data:=.dict #[] } }:Shared).TypeIs (.ref b) "tuple":=by
    refine xEA hT fun ob hb hc=>?_
    exact (iEA ob (Heap.get?_push_of_some _ hb) hc)
  have hTn:({ s with heap:=s.heap.push { cls:=.type "dict",data:=.dict #[] } }:Shared).TypeIs (.ref s.heap.objs.size) "dict":=(iEA _ hnew rfl)
  have hTo:({ s with heap:=s.heap.push { cls:=.type "dict",data:=.dict #[] } }:Shared).TypeIs (.ref o) "dict":=(iEA _ ho' rfl)
  refine ⟨hTn,F.args_dict_init_2 _ _,?_⟩
  unfold Builtin.«dict.__init__»
  refine wpAny_bind ?_
  unfold Builtin.Dict.selfAndRest
  refine wpAny_bind (wpAny_notOrdered_dict hTn ?_)
  show wpAny _ _ (pure (s.heap.objs.size,[Value.ref o])) _ _ _
  refine wpAny_pure ?_
  show wpAny _ _ (Builtin.Dict.updateFrom "dict.__init__" s.heap.objs.size (.ref o) [] .none) _ _ _
  unfold Builtin.Dict.updateFrom
  refine wpAny_bind (wpAny_typeOf hTo ?_)
  rw [if_neg (by decide)]
  refine wpAny_bind ?_
  unfold Builtin.Dict.merge
  refine wpAny_bind ?_
  unfold Builtin.Dict.readDirectly
  refine wpAny_bind (wpAny_isInstance hTo isSubtype_dict_dict ?_)
  simp only [Bool.not_true,Bool.false_eq_true,if_false]
  refine wpAny_bind (wpAny_specialOf hTo F.slot_dict_iter.lookup (wpAny_pure ?_))
  simp only [beq_self_eq_true,if_true]
  refine wpAny_bind (wpAny_pure ?_)
  refine zUD hdo hoS hnew ho' hk hT' ?_
  show wpAny _ _ (Builtin.Dict.addKeywords s.heap.objs.size [] >>= _) _ _ _
  exact wpAny_bind (wpAny_pure (wpAny_pure ⟨rfl,h _ (Heap.get?_update_self _ hnew rfl) (Heap.SameBut.update ..)⟩))
end
theorem zJR:typeLookup (.type "list") "__getattr__" = pure none:=by rw [typeLookup_type,builtinLookup_eq_fast];kernel_rfl
theorem zOA:typeLookup (.type "list") "keys" = pure none:=by rw [typeLookup_type,builtinLookup_eq_fast];kernel_rfl
theorem zUO {a:Addr}(u:Tok) {prog:Program}{w:World}{A:Around}{Q:Fin->Shared->Prop}{E:Value->Shared->Prop}{s:Shared}{vs:List Value}{ep:Nat}
    (hx:s.heap.get? a=some (zm "list" vs ep)) (hh:A.handled=none) (hq:∀h' tk e,Heap.NewAttrErr s.heap h' e (.ref a) "keys" -> E (.ref e) { s with heap:=h',toks:=tk }):wpAny (model prog w) A (Builtin.«object.__getattribute__» ⟨[.ref a,.str "keys" u],[]⟩) Q E s:=by
  obtain ⟨hp,g,d,tk,os⟩:=s
  have hT:(⟨hp,g,d,tk,os⟩:Shared).TypeIs (.ref a) "list":=(iEA _ hx rfl)
  have hmiss:=zOA
  unfold Builtin.«object.__getattribute__»
  repeat (any_goals (first | assumption | wp_step | with_reducible refine wpAny_loadPart_at hx ?_))
  exact wpAny_raiseAttrError hh hq (attrMsg_fits (by decide +kernel) (by size_fits))
theorem zUN {a:Addr}{w:World}{A:Around}{Q:Option Value->Shared->Prop}{E:Value->Shared->Prop}{s:Shared}{vs:List Value}{ep:Nat}(hx:s.heap.get? a=some (zm "list" vs ep)) (hh:A.handled=none)
    (hq:∀h' tk,(∀b o,s.heap.get? b=some o->h'.get? b=some o)->Q none { s with heap:=h',toks:=tk }):wpAny (model PG w) A (getAttr? (.ref a) "keys") Q E s:=by
  obtain ⟨hp,g,d,tk,os⟩:=s
  have hT:(⟨hp,g,d,tk,os⟩:Shared).TypeIs (.ref a) "list":=(iEA _ hx rfl)
  have f1:=sub_AttributeError
  have f3:=F.slot_list_getattribute.lookup
  have f4:=F.slot_list_getattribute.bind (.ref a)
  have f5:=zJR
  unfold getAttr? getAttrBy? getAttrBy
  repeat (any_goals (first | assumption | wp_step | with_reducible refine wpAny_loadPart_at hx ?_))
  refine codeAny_call_builtin F.slot_list_getattribute.plain F.entry_list_ga (F.slot_list_getattribute.check _ _ _ _ _ _ _ _ hT (F.args_list_getattribute_2 _ _) (zUO _ hx hh fun h' tk' e hm=>?_))
  refine xEE hm.there fun t' u' he=>?_
  show wpAny _ _ (getattributeRaised _ _ _ _ _ _ _) _ _ _
  unfold getattributeRaised
  repeat (any_goals (first | assumption | wp_step))
  exact hq _ _ hm.keeps
theorem zMW:entryFor table "dict.update.loop" = some Builtin.«dict.update.loop»:=entryFor_of_tree (by kernel_rfl)
theorem zGR:plainId "dict.update.loop" = true:=by decide +kernel
theorem zQf {pairs:List (Str×Value)}(hn:(pairs.map (·.1)).Nodup) {i:Nat}{k:Str}{x:Value}(h:pairs[i]?=some (k,x)):stored (pairs.take i) k x=pairs.take (i+1):=by
  rw [List.take_add_one,h]
  show stored _ k x=_++[(k,x)]
  unfold stored
  rw [if_neg]
  intro c
  refine xEA (List.any_eq_true.mp c) fun kv hm hk=>?_
  obtain ⟨j,hj,e⟩:=List.getElem_of_mem hm
  rw [List.length_take] at hj
  rw [List.getElem_take] at e
  have hi:i<pairs.length:=(List.getElem?_eq_some_iff.mp h).1
  have e2:pairs[i]=(k,x):=(List.getElem?_eq_some_iff.mp h).2
  have q:(pairs.map (·.1))[j]'(by rw [List.length_map];lia)=(pairs.map (·.1))[i]'(by rw [List.length_map];lia):=by
    rw [List.getElem_map,List.getElem_map,e,e2]
    exact of_decide_eq_true hk
  have:=(List.getElem_inj hn).mp q
  lia
section
variable {w:World}{A:Around}{R:Result->Shared->Prop}
theorem zaI {h₀:Heap}{d it a:Addr}{vs:List Value}{ep:Nat}{pairs:List (Str×Value)}(hn:(pairs.map (·.1)).Nodup) (hsz:pairs.length<=100) (ha:h₀.get? a=some (zm "list" vs ep)) (hd:h₀.get? d=none) (hi:h₀.get? it=none) (hid:it≠d) (hh:A.handled=none)
    (hlen:vs.length=pairs.length) (hp:∀(i:Nat) (k:Str) (x:Value),pairs[i]?=some (k,x)->∃b t ep',vs[i]?=some (.ref b)/\h₀.get? b=some (zm "tuple" [.str k t,x] ep')) :
    ∀(n i:Nat) (s:Shared),n+i=pairs.length->(∀b o,h₀.get? b=some o->s.heap.get? b=some o)->s.heap.IsListIter it a i->s.heap.DictOf (strKind PG w) d (pairs.take i) ->
      (∀h' tk',(∀b o,h₀.get? b=some o->h'.get? b=some o)->h'.DictOf (strKind PG w) d pairs->R (.ok (.ret .none)) { s with heap:=h',toks:=tk' }) ->
      codeAny (model PG w) A (.builtin "dict.update.loop" ⟨[.ref d,.ref it,.int (i:Int) 0,.none],[]⟩) R s:=by
  intro n
  induction n with
  | zero =>
    intro i s hni hk hit hdo hR
    refine codeAny_builtin zMW ?_
    rw [Around.under_plainId zGR _]
    unfold Builtin.«dict.update.loop»
    have hl:s.heap.IsList a vs.toArray:=(zKg _ (hk _ _ ha) rfl _ rfl)
    refine wpAny_bind (wpAny_pyNext_list_end hh hit hl (by rw [List.getElem?_toArray,List.getElem?_eq_none_iff];lia) fun h' hs=>?_)
    refine wpAny_bind (wpAny_pure (wpAny_pure (hR h' s.toks (fun b o e=>hs b o (fun q=>by rw [q,hi] at e;exact zW e) (hk _ _ e)) ?_)))
    rw [List.take_of_length_le (by lia)] at hdo
    exact hdo.extBut hs (Ne.symm hid)
  | succ n ih =>
    intro i s hni hk hit hdo hR
    refine codeAny_builtin zMW ?_
    rw [Around.under_plainId zGR _]
    unfold Builtin.«dict.update.loop»
    have hl:s.heap.IsList a vs.toArray:=(zKg _ (hk _ _ ha) rfl _ rfl)
    have hi':i<pairs.length:=by lia
    obtain ⟨⟨k,x⟩,hkx⟩:∃kx,pairs[i]?=some kx:=⟨_,List.getElem?_eq_getElem hi'⟩
    refine zIy (hp i k x hkx) fun b t ep' hb hbo=>?_
    refine wpAny_bind (wpAny_pyNext_list_item hit hl (x:=.ref b) (by rw [List.getElem?_toArray];exact hb) fun h' hit' hs=>?_)
    have hk':∀b o,h₀.get? b=some o->h'.get? b=some o:=fun b o e=>(hs.2 b (fun q=>by rw [q,hi] at e;exact zW e)).trans (hk _ _ e)
    have hdo':h'.DictOf (strKind PG w) d (pairs.take i):=hdo.sameBut hs (Ne.symm hid)
    have hT:({ s with heap:=h' }:Shared).TypeIs (.ref b) "tuple":=(iEA _ (hk' _ _ hbo) rfl)
    refine wpAny_bind (wpAny_holding (wpAny_bind ?_))
    unfold Builtin.Dict.pairItems
    refine wpAny_tryCatch (wpAny_bind (wpAny_typeOf hT ?_))
    rw [if_pos (by decide)]
    refine wpAny_bind (wpAny_seqItems (hk' _ _ hbo) rfl (wpAny_pure ?_))
    show wpAny _ _ (holding [.str k t,x] (dictSet d (.str k t) x)) _ _ _
    unfold dictSet
    refine wpAny_holding (wpAny_holding (wpAny_bind ((strKind PG w).pyHash (k:=k) (strKind_is _ _ _ _) ?_)))
    refine wpAny_dictSetHashed_pairs (knd:=strKind PG w) (s:={ s with heap:=h',toks:=s.toks+1 }) (strKind_is _ _ _ _) hdo' (fun h'' hdo'' hs''=>?_) (by rw [List.length_take,sizeLine_eq];lia)
    rw [zQf hn hkx] at hdo''
    refine wpAny_pure ⟨plainId_quiet zGR _,?_⟩
    have:=ih (i+1) { s with heap:=h'',toks:=s.toks+1 } (by lia) (fun b o e=>(hs''.2 b (fun q=>by rw [q,hd] at e;exact zW e)).trans (hk' _ _ e)) (by
      refine qh hit' fun oi e1 e2 e3=>?_
      exact (q6 oi ((hs''.2 it hid).trans e1) e2 e3)) hdo'' hR
    exact this
theorem zVt {E:Value->Shared->Prop}{s:Shared}{Q:Value->Shared->Prop}{a:Addr}{vs:List Value}{ep:Nat}{pairs:List (Str×Value)}(hn:(pairs.map (·.1)).Nodup) (hsz:pairs.length<=100) (ha:s.heap.get? a=some (zm "list" vs ep)) (hh:A.handled=none)
    (hlen:vs.length=pairs.length) (hp:∀(i:Nat) (k:Str) (x:Value),pairs[i]?=some (k,x)->∃b t ep',vs[i]?=some (.ref b)/\s.heap.get? b=some (zm "tuple" [.str k t,x] ep'))
    (h:∀h' tk' d,(∀b o,s.heap.get? b=some o->h'.get? b=some o)->s.heap.get? d=none->h'.DictOf (strKind PG w) d pairs->(∀b,b<s.heap.objs.size->b≠d)->Q (.ref d) { s with heap:=h',toks:=tk' }) :
    wpAny (model PG w) A (call (.type "dict") [.ref a]) Q E s:=by
  refine callType_codes (Q₁:=fun obj s1z=>obj=.ref s.heap.objs.size/\s1z={ s with heap:=s.heap.push { cls:=.type "dict",data:=.dict #[] } }) F.kt_called_dict (F.kt_typeCall_dict_1 _) F.entry_dict_init (kt_code_dict_new _ ⟨rfl,rfl⟩) ?_
  rintro obj s1z ⟨rfl,rfl⟩
  have hnew:(s.heap.push { cls:=.type "dict",data:=.dict #[] }).DictOf (strKind PG w) s.heap.objs.size []:=Heap.DictOf.new s.heap
  have hka:∀b o,s.heap.get? b=some o->(s.heap.push { cls:=.type "dict",data:=.dict #[] }).get? b=some o:=fun b o e=>Heap.get?_push_of_some _ e
  have hTl:({ s with heap:=s.heap.push { cls:=.type "dict",data:=.dict #[] } }:Shared).TypeIs (.ref a) "list":=(iEA _ (hka _ _ ha) rfl)
  refine ⟨hnew.typeIs,F.args_dict_init_2 _ _,?_⟩
  unfold Builtin.«dict.__init__»
  refine wpAny_bind ?_
  unfold Builtin.Dict.selfAndRest
  refine wpAny_bind (wpAny_notOrdered_dict hnew.typeIs ?_)
  show wpAny _ _ (pure (s.heap.objs.size,[Value.ref a])) _ _ _
  refine wpAny_pure ?_
  show wpAny _ _ (Builtin.Dict.updateFrom "dict.__init__" s.heap.objs.size (.ref a) [] .none) _ _ _
  unfold Builtin.Dict.updateFrom
  refine wpAny_bind (wpAny_typeOf hTl ?_)
  rw [if_pos (by decide)]
  refine wpAny_bind (zUN (hka _ _ ha) hh fun h1 tk1 k1=>?_)
  rw [if_pos (by rfl)]
  have hl1:h1.IsList a vs.toArray:=(zKg _ (k1 _ _ (hka _ _ ha)) rfl _ rfl)
  refine wpAny_bind (wpAny_rule ?_)
  refine wpAny_bind (wpAny_pyIter_list hl1 ?_)
  have hd1:h1.DictOf (strKind PG w) s.heap.objs.size []:=by
    refine zIy hnew fun o es ep e1 r=>?_
    exact (zPr o es ep (k1 _ _ e1) r)
  have hlt:s.heap.objs.size<h1.objs.size:=by
    refine zIy hd1 fun o es ep e1 r=>?_
    exact Heap.lt_size e1
  refine wpAny_pure ⟨plainId_quiet zGR _,?_⟩
  show codeAny (model PG w) A.in1 (.builtin "dict.update.loop" ⟨[.ref s.heap.objs.size,.ref h1.objs.size,.int ((0:Nat):Int) 0,.none],[]⟩) (wants (fun r s2z=>r=Value.none/\Q (Value.ref s.heap.objs.size) s2z) E) { s with heap:=h1.push { cls:=.type "list_iterator",data:=.fields #[.ref a,.int 0 0] },toks:=tk1 }
  refine zaI (A:=A.in1) (R:=wants (fun r s2z=>r=Value.none/\Q (Value.ref s.heap.objs.size) s2z) E) (h₀:=s.heap) (d:=s.heap.objs.size) (it:=h1.objs.size) hn hsz ha (Heap.get?_none_of_le (Nat.le_refl _)) (Heap.get?_none_of_le (Nat.le_of_lt hlt)) (Nat.ne_of_gt hlt) hh hlen hp pairs.length 0 { s with heap:=h1.push { cls:=.type "list_iterator",data:=.fields #[.ref a,.int 0 0] },toks:=tk1 } (by lia) (fun b o e=>Heap.get?_push_of_some _ (k1 _ _ (hka _ _ e))) (q6 _ (Heap.get?_push_size _ rfl) rfl rfl) (hd1.push { cls:=.type "list_iterator",data:=.fields #[.ref a,.int 0 0] }:Heap.DictOf (strKind PG w) (h1.push _) s.heap.objs.size (pairs.take 0)) fun h' tk' kk hdo=>?_
  exact ⟨rfl,h h' tk' _ kk (Heap.get?_none_of_le (Nat.le_refl _)) hdo fun b hb=>Nat.ne_of_lt hb⟩
end

abbrev qP:qI:=fun st k Z=>k true st.mem
abbrev zbb (i j:Nat) (a:Den):zX:=fun st kn Z kx=>qo st fun lo μ=>a st (fun p M=>∃p1z p2z,p=.tup [p1z,p2z]/\kn ⟨zBg lo [j,i] [p2z,p1z],M⟩) (fun M=>kx ⟨lo,M⟩)
noncomputable abbrev qY (o:PV) (M:Mem):Option zh:=Option.map (fun Z=>zCq) (isL M o)
noncomputable abbrev zFL (o:PV) (M:Mem):Option zh:=Option.map (fun Z=>zOj) (isL M o)
noncomputable abbrev zIv (o:PV) (M:Mem):Option zh:=Option.map (fun Z=>zGF) (isL M o)
noncomputable abbrev zFK (o:PV) (M:Mem):Option zh:=if isD M o=true then some zSF else none
section
variable {Tp:World->Heap->Prop}{w:World}{d:Nat}{hz:Bool}{F:FD}{nm:List Str}
theorem zch {x y:Str}{px py:Pos}{i j:Nat}{k:Nat}{tpos pos:Pos}{value:Expr}{a:Den}(hi:nm[i]?=some x) (hx:qU F x) (hj:nm[j]?=some y) (hy:qU F y) (nd:nm.Nodup) (ha:yC Tp w d true F none nm value a)
    (hs:∀L,swapsWithSole [.Tuple [.Name x px,.Name y py] k tpos] value pos.line (yE F L)=pure false) (hw:∀L,swappedStores [.Tuple [.Name x px,.Name y py] k tpos] value (yE F L)=pure none) :
    zDa Tp w d true F nm (.Assign [.Tuple [.Name x px,.Name y py] k tpos] value pos) (zFc [i,j] a):=
  zJg (ts:=[(x,px),(y,py)]) (.cons hi hx (.cons hj hy .nil)) nd ha hs hw
theorem zZW {x y z:Str}{px py pz:Pos}{i j l:Nat}{k:Nat}{tpos pos:Pos}{value:Expr}{a:Den}(hi:nm[i]?=some x) (hx:qU F x) (hj:nm[j]?=some y) (hy:qU F y) (hl:nm[l]?=some z) (hz':qU F z) (nd:nm.Nodup) (ha:yC Tp w d true F none nm value a)
    (hs:∀L,swapsWithSole [.Tuple [.Name x px,.Name y py,.Name z pz] k tpos] value pos.line (yE F L)=pure false) (hw:∀L,swappedStores [.Tuple [.Name x px,.Name y py,.Name z pz] k tpos] value (yE F L)=pure none) :
    zDa Tp w d true F nm (.Assign [.Tuple [.Name x px,.Name y py,.Name z pz] k tpos] value pos) (zFc [i,j,l] a):=
  zJg (ts:=[(x,px),(y,py),(z,pz)]) (.cons hi hx (.cons hj hy (.cons hl hz' .nil))) nd ha hs hw
theorem zXX {x1 x2 x3 x4:Str}{p1 p2 p3 p4:Pos}{i1 i2 i3 i4:Nat}{k:Nat}{tpos pos:Pos}{value:Expr}{a:Den}(h1:nm[i1]?=some x1) (g1:qU F x1) (h2:nm[i2]?=some x2) (g2:qU F x2) (h3:nm[i3]?=some x3) (g3:qU F x3) (h4:nm[i4]?=some x4) (g4:qU F x4) (nd:nm.Nodup) (ha:yC Tp w d true F none nm value a)
    (hs:∀L,swapsWithSole [.Tuple [.Name x1 p1,.Name x2 p2,.Name x3 p3,.Name x4 p4] k tpos] value pos.line (yE F L)=pure false) (hw:∀L,swappedStores [.Tuple [.Name x1 p1,.Name x2 p2,.Name x3 p3,.Name x4 p4] k tpos] value (yE F L)=pure none) :
    zDa Tp w d true F nm (.Assign [.Tuple [.Name x1 p1,.Name x2 p2,.Name x3 p3,.Name x4 p4] k tpos] value pos) (zFc [i1,i2,i3,i4] a):=
  zJg (ts:=[(x1,p1),(x2,p2),(x3,p3),(x4,p4)]) (.cons h1 g1 (.cons h2 g2 (.cons h3 g3 (.cons h4 g4 .nil)))) nd ha hs hw
theorem zZX {x1 x2 x3 x4 x5 x6:Str}{p1 p2 p3 p4 p5 p6:Pos}{i1 i2 i3 i4 i5 i6:Nat}{k:Nat}{tpos pos:Pos}{value:Expr}{a:Den}(h1:nm[i1]?=some x1) (g1:qU F x1) (h2:nm[i2]?=some x2) (g2:qU F x2) (h3:nm[i3]?=some x3) (g3:qU F x3) (h4:nm[i4]?=some x4) (g4:qU F x4)
    (h5:nm[i5]?=some x5) (g5:qU F x5) (h6:nm[i6]?=some x6) (g6:qU F x6) (nd:nm.Nodup) (ha:yC Tp w d true F none nm value a)
    (hs:∀L,swapsWithSole [.Tuple [.Name x1 p1,.Name x2 p2,.Name x3 p3,.Name x4 p4,.Name x5 p5,.Name x6 p6] k tpos] value pos.line (yE F L)=pure false) (hw:∀L,swappedStores [.Tuple [.Name x1 p1,.Name x2 p2,.Name x3 p3,.Name x4 p4,.Name x5 p5,.Name x6 p6] k tpos] value (yE F L)=pure none) :
    zDa Tp w d true F nm (.Assign [.Tuple [.Name x1 p1,.Name x2 p2,.Name x3 p3,.Name x4 p4,.Name x5 p5,.Name x6 p6] k tpos] value pos) (zFc [i1,i2,i3,i4,i5,i6] a):=
  zJg (ts:=[(x1,p1),(x2,p2),(x3,p3),(x4,p4),(x5,p5),(x6,p6)]) (.cons h1 g1 (.cons h2 g2 (.cons h3 g3 (.cons h4 g4 (.cons h5 g5 (.cons h6 g6 .nil)))))) nd ha hs hw
theorem zdt {x y:Str}{px py:Pos}{i j:Nat}{k:Nat}{tpos:Pos}(hi:nm[i]?=some x) (hx:qU F x) (hj:nm[j]?=some y) (hy:qU F y) (nd:nm.Nodup):zTf Tp w d true F nm (.Tuple [.Name x px,.Name y py] k tpos) (zTQ [i,j]):=
  zXF (ts:=[(x,px),(y,py)]) (.cons hi hx (.cons hj hy .nil)) nd
noncomputable def zRk:Expr->Bool
  | .Starred ..=>false
  | _=>true
theorem zB {e:Expr}{es:List Expr}(h:zRk e=true):∀env,starEach (e::es) env=(false,eval e env)::starEach es env:=fun env=>by
  induction e using PySem.Expr.casesOn<;>first | rfl | (exact zV h)
theorem zQe:∀{es:List Expr},es.all zRk=true->∀env pos,(backTo pos (starEach es env)).any (·.1)=false
  | [],_,_,_=>rfl
  | e::es,h,env,pos=>by
    rw [List.all_cons,Bool.and_eq_true] at h
    rw [zB h.1 env]
    exact zQe h.2 env pos
theorem zS {e:Expr}{es:List Expr}(h:(e::es).all zRk=true):zHr (e::es):=zbN (fun env pos=>zQe h env pos) (zB (by rw [List.all_cons,Bool.and_eq_true] at h;exact h.1))
def zXg (Tp:World->Heap->Prop) (w:World) (d:Nat) (hz:Bool) (F:FD) (nm:List Str) (pos:Pos) (keys:List (Option Expr)) (values:List Expr) (n:Nat) (r:zLM):Prop:=
  ∃pairs,zUw Tp w d hz F nm pairs r/\(∀env,(evalEachOpt keys env).zip ((evalEach values env).map fun v=>do let x ← v;standAt pos;pure x)=(pairs env).map fun p=>(some p.1,p.2))/\∀env,(pairs env).length=n
theorem zGC {pos:Pos}:zXg Tp w d hz F nm pos [] [] 0 zHS:=(q6 _ zXE (fun Z=>rfl) (fun Z=>rfl))
theorem yd {pos:Pos}{e e':Expr}{keys:List (Option Expr)}{values:List Expr}{n:Nat}{a b:Den}{r:zLM}(ha:yC Tp w d hz F none nm e a) (hb:yC Tp w d hz F none nm e' b) (hr:zXg Tp w d hz F nm pos keys values n r) :
    zXg Tp w d hz F nm pos (some e::keys) (e'::values) (n+1) (yj a b r):=by
  refine qh hr fun pairs hp hs hn=>?_
  refine (q6 _ (zUi (pos:=pos) ha hb hp) (fun env=>?_) (fun env=>congrArg (·+1) (hn env)))
  exact congrArg (List.cons _) (hs env)
theorem zXD {kind:zTd}{keys:List (Option Expr)}{values:List Expr}{pos:Pos}{n:Nat}{r:zLM}(HS:zDb Tp w) (h:zXg Tp w d hz F nm pos keys values n r) (h0:0<n) (hn:n<=15):yC Tp w d hz F none nm (.Dict keys values pos) (zHQ kind r):=by
  refine qh h fun pairs hp hs hl=>?_
  exact zXH HS hp hs (fun env e=>by have:=hl env;rw [e] at this;simp at this;lia) fun env=>by rw [hl env];exact hn
def zPG (a:Den):Den:=fun st k kx=>a st (fun p M=>oK (fun b=>k (.bool (!b)) M) .mk (zCV M p)) kx
theorem zXK {cs:Option Scope}{x:Expr}{pos:Pos}{a:Den}(ha:yC Tp w d hz F cs nm x a):yC Tp w d hz F cs nm (.UnaryOp .Not x pos) (zPG a):=by
  constructor
  intro A B outer fs L C cl X hC g M m s lo I Lo k kx t Q E ok ex
  refine UnaryOp_ ((ha.go A B outer fs L C cl X hC g M m s lo I Lo _ kx t) _ _ (fun v x M1z g1z h1z tk1z e1z i1z r1 q1z=>?_) ex)
  refine xEA (qM q1z) fun b hb hk=>?_
  exact PyProof.Rows.not_of (zKd (s:={ s with heap:=h1z,toks:=tk1z }) i1z r1 hb fun tk=>ok _ (.bool (!b)) M1z g1z h1z tk e1z i1z rfl hk)
theorem zJf {f:Value}:yN Tp w d f (fun Z Z Z Z=>False):=⟨fun Z Z Z Z Z Z Z Z Z Z Z Z Z Z Z Z Z t=>t.elim⟩
def zOi:zh:=fun ps M k Z=>∃o p ys dd i,ps=[o,p]/\yi M 9 o=some (.list ys)/\yi M 8 p=some dd/\ys.findIdx? (fun y=>PyData.eqv y dd)=some i/\ys.length<=1000/\k (.int i) M
theorem zPt {A:Around}{E:Value->Shared->Prop}{s:Shared}{c x:Value}{xs:List PyData}{dd:PyData}{as bs:List Addr}{i:Nat}{Q:Value->Shared->Prop}(rc:Reads s.heap c (.list xs) as) (rx:Reads s.heap x dd bs) (hxs:PyData.canLayAll0 xs=true) (hd:dd.canLay0=true)
    (hu:A.units+1+min (PyData.depthAll xs) dd.depth<cLine) (hi:xs.findIdx? (fun y=>PyData.eqv y dd)=some i) (hl:xs.length<=1000) (h:Q (.int i s.toks) { s with toks:=s.toks+1 }):wpAny (model PG w) A (call (.builtin "list.index") [c,x]) Q E s:=by
  cases rc with
  | @list a o vs n _ as h1 h2 h3 h4 =>
    obtain ⟨cls,ddx,data,sl⟩:=o
    simp only at h2 h3
    subst h2 h3
    have hm:=SeqAt.readsAll_map xs _ _ hxs h4
    refine xEA (List.findIdx?_eq_some_iff_getElem.mp hi) fun hj hit hno=>?_
    have hlen:vs.size=xs.length:=by rw [← hm];simp
    have hat:∀m (hm':m<vs.size),SeqAt.readOf s.heap vs[m]=xs[m]'(hlen ▸ hm'):=fun m hm'=>by
      have:=congrArg (·[m]?) hm
      simp [List.getElem?_map,hm',hlen ▸ hm'] at this
      exact this
    refine call_meets PySem.F.slot_list_index (iEA _ h1 rfl) PySem.F.entry_list_index (PySem.F.args_list_index_2 _ _)
      (SeqAt.list_indexAt a vs n ddx sl x (fun y=>PyData.eqv (SeqAt.readOf s.heap y) dd) i (by lia) (by lia) ?_ ?_) ⟨h1,SeqAt.items_eqAt h4 rx hxs hd hu,h⟩
    · show PyData.eqv (SeqAt.readOf s.heap vs[i]) dd=true
      rw [hat];exact hit
    · intro m hm' hlt
      show PyData.eqv (SeqAt.readOf s.heap vs[m]) dd=false
      rw [hat]
      have:=hno m hlt
      simpa using this
theorem zUj:yN Tp w d (.builtin "list.index") zOi:=by
  constructor
  intro A B outer fs L Fc X g M m s I vs ps r k' kx t Q E ok ex
  refine zIz t ?_;clear t;intro o p ys dd i z1 e1 e2 hi hl hk;subst z1
  refine zt (zBB r) fun vo vx z2 ro rx=>?_;subst z2
  refine xAA (zAp I 9 o vo _ ro e1) fun z3 c1 d1=>?_;obtain ⟨as,ra⟩:=z3
  refine xAA (zAp I 8 p vx _ rx e2) fun z4 c2 d2=>?_;obtain ⟨bs,rb⟩:=z4
  have hu:=X.room100
  have hm:=Nat.min_le_right (PyData.depthAll ys) dd.depth
  exact zPt ra rb c1 c2 (by lia) hi hl (ok _ (.int i) M g s.heap _ (Ext.refl g) I ⟨_,rfl⟩ hk)
noncomputable abbrev zGS (o:PV) (M:Mem):Option zh:=if (zAe M o).isSome then some zOi else none
theorem zRi (_:zDb Tp w):zQt Tp w d "index" zGS where
  ok o M tf e:=by
    unfold zGS at e
    split at e
    · rename_i hx
      refine sE e ?_;clear e;rintro rfl
      refine xE (Option.isSome_iff_exists.mp hx) fun xs hx=>?_
      refine (q6 (.builtin "list.index") (zY _) zUj (fun Z I vo pl Q E r h=>?_))
      refine yY (r.list I hx) fun a us ep z5 l hl Z=>?_;subst z5
      exact getMethod_builtin hl.typeIs PySem.F.plainAttrs_list PySem.F.slot_list_index PySem.F.type_list_index (fun a e=>by cases e;exact (iEA _ ((I.led _ _ l).1) rfl)) h
    · exact zW e
def tdict:zh:=fun ps M k Z=>(∃i kvs,ps=[.ref i]/\M.c i=.tdict kvs/\kvs.length<=1/\k (.ref M.n) (M.new (.tdict kvs))) \/
  (∃(xs:List PV) (kvs:List (Str×PV)),ps=[.lst xs]/\xs=kvs.map (fun kv=>PV.tup [.str kv.1,kv.2])/\(kvs.map (·.1)).Nodup/\kvs.length<=12/\k (.dct (kvs.map (·.1)) (kvs.map (·.2))) M)
theorem zRn {g:Gh}{P:Params}{B:Heap}{L:Addr}{fs:Frs}{M:Mem}{m:Str->Option Value}{h:Heap}(I:Inv P B L fs g M m h):∀{kvs:List (Str×PV)}{vs:List Value},yJ g (kvs.map fun kv=>PV.tup [.str kv.1,kv.2]) vs->∃pairs:List (Str×Value),zBi g kvs pairs/\vs.length=pairs.length /\
    ∀(i:Nat) (k:Str) (x:Value),pairs[i]?=some (k,x)->∃b t ep',vs[i]?=some (.ref b)/\h.get? b=some (zm "tuple" [.str k t,x] ep'):=by
  intro q0
  induction q0 with
  | nil =>
    intro _ r
    exact (q6 [] rfl (by subst r;rfl) (fun i k x e=>by simp at e))
  | cons qq kvs ih =>
    obtain ⟨k,p⟩:=qq
    intro _ r
    refine zt r ?_;clear r;intro v r' z6 hv hr;subst z6
    refine qh (ih hr) fun pairs h1 h2 h3=>?_
    refine zAG (hv.isTup I) fun b us z7 f l Z ru=>?_;subst z7
    refine zt (zBB ru) fun u1 u2 z8 a1 a2=>?_;subst z8
    refine xE a1 ?_;clear a1;intro t z9;subst z9
    refine (q6 ((k,u2)::pairs) (yS u2 pairs rfl a2 h1) (by rw [List.length_cons,List.length_cons,h2]) (fun i k' x e=>?_))
    induction i with
    | zero=>simp at e;refine xA e ?_;clear e;intro z10 z11;subst z10;subst z11;exact (zPr b t 0 rfl ((I.led _ _ l).1))
    | succ i=>simp at e;refine zIy (h3 i k' x e) fun b' t' ep' q1 q2=>?_;exact (zPr b' t' ep' (by simpa using q1) q2)
theorem zBi.len {g:Gh}{kvs:List (Str×PV)}{vs:List (Str×Value)}(h:zBi g kvs vs):vs.length=kvs.length:=by
  have:=congrArg List.length h.keys;simpa using this
theorem zIe (HS:zDb Tp w):yN Tp w d (.type "dict") tdict:=by
  constructor
  intro A B outer fs L Fc X g M m s I vs ps r k' kx t Q E ok ex
  rcases t with ⟨i,kvs,rfl,hc,hl,hk⟩ | ⟨xs,kvs,rfl,rfl,nd,hl,hk⟩
  · refine xEA (zCP r) fun v z12 rv=>?_;subst z12
    refine xA (I.ref rv) fun z13 hi=>?_;subst z13
    refine qh (I.cell i hi) fun o' l f c=>?_
    rw [hc] at c
    refine yl c ?_;clear c;intro es ep z14 ndk hkt hr;subst z14
    have hoS:=zMe (HS B X.top) (I.cellNo hi)
    have hoo:=(I.led _ _ l).1
    refine xA (I.add { cls:=.type "dict",data:=.dict #[] } False rfl) fun I0 EX0=>?_
    have hled:(g.add s.heap.objs.size { cls:=.type "dict",data:=.dict #[] } False).led s.heap.objs.size=some { cls:=.type "dict",data:=.dict #[] }:=by show (if _=_ then _ else _)=_;rw [if_pos rfl]
    have hfz:¬(g.add s.heap.objs.size { cls:=.type "dict",data:=.dict #[] } False).fz s.heap.objs.size:=by show ¬(if _=_ then False else _);rw [if_pos rfl];exact id
    have hni:∀i,i<g.n->s.heap.objs.size≠g.ρ i:=fun i hi q=>by
      refine xEA (I.cell i hi) fun o e Z=>?_
      exact absurd (I.lt e) (by rw [← q];exact Nat.lt_irrefl _)
    have fin:∀h' o',h'.get? s.heap.objs.size=some o'->Heap.SameBut s.heap.objs.size (s.heap.push { cls:=.type "dict",data:=.dict #[] }) h'->zDZ w.params (g.add s.heap.objs.size { cls:=.type "dict",data:=.dict #[] } False) o' (.tdict kvs)->Q (.ref s.heap.objs.size) { s with heap:=h' }:=by
      intro h' o' ho' hs ok'
      refine xA (I0.cellize (c:=.tdict kvs) hled hfz hni hs ho' ok') fun J EX=>?_
      refine ok _ (.ref M.n) _ _ h' s.toks (EX0.via EX fun b hb=>by rw [hb];exact I.freshLed) J ?_ hk
      refine ⟨?_,by show M.n<g.n+1;rw [I.n];exact Nat.lt_succ_self _⟩
      show _=Value.ref (if M.n=g.n then _ else _)
      rw [if_pos I.n.symm]
    induction kvs using List.casesOn with
    | nil =>
      obtain rfl:es=[]:=hkt
      refine kt_call_dict (knd:=strKind PG w) (more:=[]) hoS (zBt _ (#[]) ep hoo ⟨rfl,rfl,rfl⟩ rfl (fun e he=>by simp at he) .nil List.nodup_nil) (Nat.zero_le _) fun h' hd hs=>?_
      refine zGX hd fun o' es' ep' ho' he hd' Z hp Z=>?_
      have e0:es'.toList=[]:=by generalize hq:es'.toList=z20;induction z20 using List.casesOn with | nil=>rfl | cons a b=>rw [hq] at hp;cases hp
      obtain rfl:=zGI he hd'
      refine fin h' _ ho' hs (yb es'.toList ep' rfl List.nodup_nil e0 ?_)
      rw [e0];rfl
    | cons kv kvs =>
      obtain rfl:kvs=[]:=List.length_eq_zero_iff.mp (by rw [List.length_cons] at hl;lia)
      refine yl hkt ?_;clear hkt;intro e r' z15 hke hh hr';subst z15
      obtain rfl:r'=[]:=hr'
      refine zAG (hke.isTup I) fun b us hb fb lb hT Z=>?_
      refine zVs hoS hoo hb (iEA _ ((I.led _ _ lb).1) rfl) fun h' ho' hs=>?_
      exact fin h' _ ho' hs (yb [e] 1 rfl ndk (yb e [] rfl (hke.mono EX0) hh rfl) (hr.mono EX0))
  · refine xEA (zCP r) fun v z16 rv=>?_;subst z16
    refine zEs (rv.isLst I) fun a us ep z17 f l Z hr=>?_;subst z17
    refine qh (zRn I hr) fun pairs h1 h2 h3=>?_
    have hn:(pairs.map (·.1)).Nodup:=by rw [h1.keys];exact nd
    refine zVt hn (by rw [h1.len];lia) (I.led _ _ l).1 (X.hz rfl) h2 h3 fun h' tk' dd kk hd0 hdo hne=>?_
    have J:=I.keeps kk
    have nl:∀{b:Addr}{o:Obj},s.heap.get? b=some o->b≠dd:=fun e q=>by rw [q,hd0] at e;exact zW e
    refine zIy I.ns fun oL Z Z eL Z=>?_
    have hB:B.get? dd=none:=by
      generalize q:B.get? dd=z21;induction z21 using Option.casesOn with
      | none=>rfl
      | some o=>exact absurd rfl (nl (I.keep _ _ q))
    have hled:g.led dd=none:=by
      generalize q:g.led dd=z22;induction z22 using Option.casesOn with
      | none=>rfl
      | some o=>exact absurd rfl (nl (I.led _ _ q).1)
    refine xEA (zNH I.hP hdo h1) fun o' ho' ok'=>?_
    refine xA (J.addAt ho' (Ne.symm (nl eL)) hB hled (fun p hp=>by obtain ⟨⟨_,_,_,e,_⟩,_⟩:=I.fs p hp;exact nl e) True) fun J' EX=>?_
    refine yl ok' ?_;clear ok';intro es ep' z19 nd' ks hr';subst z19
    refine ok _ _ M _ h' tk' EX J' ?_ hk
    refine (zCZ dd es ep' rfl (zMe (HS B X.top) hB) ?_ ?_ nd ks (hr'.mono EX))
    · show (if _=_ then True else _);rw [if_pos rfl];trivial
    · show (if _=_ then _ else _)=_;rw [if_pos rfl]
noncomputable def zCI:List (Str×PV):=[("width",.int 32),("real_digits",.int 7),("double_digits",.int 15),("top_exponent",.int 38),("steps",.int 1000000),("continuations",.int 19),("columns",.int 72),("depth",.int 40)]
def zHm:zh:=fun ps M k Z=>ps=[]/\k (.inst 494 M.n) (M.new (.sdict zCI))
end
abbrev zLG:zh:=zHm

noncomputable def zbs:List (Str×Value):=[(("INTEGER",.int 0 243):Str×Value),(("REAL",.int 1 245):Str×Value),(("DOUBLE",.int 2 247):Str×Value),(("COMPLEX",.int 3 249):Str×Value),(("LOGICAL",.int 4 251):Str×Value),(("CHARACTER",.int 5 253):Str×Value),(("SECOND",.int 6 419):Str×Value),(("units_of",.ref 60):Str×Value),(("fit_int",.ref 67):Str×Value),(("int_add",.ref 74):Str×Value),(("int_sub",.ref 81):Str×Value),(("int_mul",.ref 88):Str×Value),(("cut_quotient",.ref 95):Str×Value),(("int_div",.ref 102):Str×Value),(("int_binary",.ref 137):Str×Value),(("logic_binary",.ref 144):Str×Value),(("basic_operations",.ref 151):Str×Value),(("is_zero",.ref 165):Str×Value),(("trip_count",.ref 172):Str×Value),(("need_units",.ref 221):Str×Value),(("read_cell",.ref 228):Str×Value),(("load_number",.ref 235):Str×Value),(("store_number",.ref 242):Str×Value),(("load_text",.ref 249):Str×Value),(("store_text",.ref 256):Str×Value),(("pad",.ref 263):Str×Value),(("unit_size",.ref 270):Str×Value),(("extent",.ref 277):Str×Value),(("element_place",.ref 284):Str×Value),(("elements_of",.ref 296):Str×Value),(("evaluate",.ref 324):Str×Value),(("named_place",.ref 331):Str×Value),(("place_of",.ref 350):Str×Value),(("has_place",.ref 357):Str×Value),(("eval_const",.ref 364):Str×Value),(("eval_place",.ref 371):Str×Value),(("reckon",.ref 378):Str×Value),(("eval_binary",.ref 385):Str×Value),(("eval_compare",.ref 392):Str×Value),(("plain_expressions",.ref 399):Str×Value),(("begin_loop",.ref 427):Str×Value),(("end_round",.ref 434):Str×Value),(("walked",.ref 476):Str×Value),(("_law_dims",.ref 505):Str×Value),(("_law_places",.ref 512):Str×Value),(("_law_take",.ref 519):Str×Value),(("_law_simple",.ref 526):Str×Value),(("_law_bounds",.ref 533):Str×Value),(("_law_item",.ref 538):Str×Value),(("_law_worth",.ref 545):Str×Value),(("_law_seats",.ref 550):Str×Value),(("_law_address",.ref 557):Str×Value),(("_law_tell",.ref 564):Str×Value),(("_law_rounds",.ref 569):Str×Value),(("_law_run",.ref 574):Str×Value),(("_law_start",.ref 581):Str×Value),(("_law_lay",.ref 586):Str×Value),(("_law_heard",.ref 593):Str×Value),(("law",.ref 598):Str×Value),(("RunFault",.ref 51):Str×Value),(("Memory",.ref 210):Str×Value),(("Run",.ref 313):Str×Value),(("Level",.ref 416):Str×Value),(("ListWalk",.ref 465):Str×Value),(("Limits",.ref 494):Str×Value)]
noncomputable def zVD:List (Str×Value):=[("len",.builtin "len"),("abs",.builtin "abs"),("max",.builtin "max"),("range",.type "range"),("isinstance",.builtin "isinstance"),("tuple",.type "tuple"),("dict",.type "dict")]
noncomputable def zcE:List Addr:=[51,60,67,74,81,88,95,102,137,144,151,165,172,193,200,210,221,228,235,242,249,256,263,270,277,284,296,313,324,331,350,357,364,371,378,385,392,399,416,427,434,455,462,465,476,494,505,512,519,526,533,538,545,550,557,564,569,574,581,586,593,598]
noncomputable def zXj:List (Addr×Str):=[((210,"numeric"):Addr×Str),((210,"characters"):Addr×Str),((313,"memory"):Addr×Str),((313,"limits"):Addr×Str),((313,"units"):Addr×Str),((313,"world"):Addr×Str),((313,"expressions"):Addr×Str),((313,"statements"):Addr×Str),((313,"frame"):Addr×Str),((313,"depth"):Addr×Str),((494,"depth"):Addr×Str),((313,"steps"):Addr×Str),((494,"steps"):Addr×Str),((313,"places"):Addr×Str),((313,"flows"):Addr×Str),((313,"clears"):Addr×Str),((313,"active"):Addr×Str),((313,"loops"):Addr×Str),((313,"operations"):Addr×Str),((416,"items"):Addr×Str),((416,"at"):Addr×Str),((416,"target"):Addr×Str),((416,"step"):Addr×Str),((416,"count"):Addr×Str),((465,"run"):Addr×Str),((465,"levels"):Addr×Str),((465,"elements"):Addr×Str),((494,"width"):Addr×Str),((494,"real_digits"):Addr×Str),((494,"double_digits"):Addr×Str),((494,"top_exponent"):Addr×Str),((494,"continuations"):Addr×Str),((494,"columns"):Addr×Str)]
noncomputable def zZl:List (Addr×Addr):=[(210,186),(313,310),(416,413),(465,448)]
noncomputable def zcL:List (Addr×Str×Addr):=[(210,"load",193),(210,"store",200),(465,"next",455),(465,"take",462)]
noncomputable def zCg:ym:=⟨⟨"units_of",zi (yI 11),60,.ref 59⟩,(yI 11),["kind"],1⟩
theorem zPb:fnB zCg=true:=by decide +kernel
noncomputable def zCd:ym:=⟨⟨"fit_int",zi (yI 13),67,.ref 66⟩,(yI 13),["n","width","most"],2⟩
theorem zRj:zCd.nm.Nodup:=by decide +kernel
theorem zRM:fnB zCd=true:=by decide +kernel
noncomputable def zDU:ym:=⟨⟨"int_add",zi (yI 14),74,.ref 73⟩,(yI 14),["x","y","width"],3⟩
theorem zRN:fnB zDU=true:=by decide +kernel
noncomputable def zDW:ym:=⟨⟨"int_sub",zi (yI 15),81,.ref 80⟩,(yI 15),["x","y","width"],3⟩
theorem zRP:fnB zDW=true:=by decide +kernel
noncomputable def qg:ym:=⟨⟨"cut_quotient",zi (yI 17),95,.ref 94⟩,(yI 17),["x","y","found"],2⟩
theorem zJS:qg.nm.Nodup:=by decide +kernel
theorem zJK:fnB qg=true:=by decide +kernel
noncomputable def zDV:ym:=⟨⟨"int_div",zi (yI 18),102,.ref 101⟩,(yI 18),["x","y","width"],3⟩
theorem zRO:fnB zDV=true:=by decide +kernel
noncomputable def zBJ:ym:=⟨⟨"int_binary",zi (yI 23),137,.ref 136⟩,(yI 23),["op","kind","x","y","limits"],5⟩
theorem zLl:fnB zBJ=true:=by decide +kernel
noncomputable def qF:ym:=⟨⟨"basic_operations",zi (yI 25),151,.ref 150⟩,(yI 25),[],0⟩
theorem zGa:fnB qF=true:=by decide +kernel
noncomputable def zDX:ym:=⟨⟨"is_zero",zi (yI 29),165,.ref 164⟩,(yI 29),["value"],1⟩
theorem zRQ:fnB zDX=true:=by decide +kernel
noncomputable def zAZ:ym:=⟨⟨"trip_count",zi (yI 30),172,.ref 171⟩,(yI 30),["kind","first","last","step","operations","limits","reckon","span","count"],6⟩
theorem zCo:zAZ.nm.Nodup:=by decide +kernel
theorem zLs:fnB zAZ=true:=by decide +kernel
noncomputable def zBL:ym:=⟨⟨"need_units",zi (yI 34),221,.ref 220⟩,(yI 34),["cells","address","count"],3⟩
theorem zLq:fnB zBL=true:=by decide +kernel
noncomputable def zBA:ym:=⟨⟨"read_cell",zi (yI 35),228,.ref 227⟩,(yI 35),["cells","address","tag","cell"],3⟩
theorem zOI:zBA.nm.Nodup:=by decide +kernel
theorem zNg:fnB zBA=true:=by decide +kernel
noncomputable def zAC:ym:=⟨⟨"load_number",zi (yI 36),235,.ref 234⟩,(yI 36),["cells","kind","address","value"],3⟩
theorem zKp:zAC.nm.Nodup:=by decide +kernel
theorem zKR:fnB zAC=true:=by decide +kernel
noncomputable def zAL:ym:=⟨⟨"store_number",zi (yI 37),242,.ref 241⟩,(yI 37),["cells","kind","address","value"],4⟩
theorem zJL:fnB zAL=true:=by decide +kernel
noncomputable def zAY:ym:=⟨⟨"store_text",zi (yI 39),256,.ref 255⟩,(yI 39),["cells","address","text","k"],3⟩
theorem zMG:zAY.nm.Nodup:=by decide +kernel
theorem zLr:fnB zAY=true:=by decide +kernel
noncomputable def zMk:ym:=⟨⟨"pad",zi (yI 40),263,.ref 262⟩,(yI 40),["text","length"],2⟩
theorem zaB:fnB zMk=true:=by decide +kernel
noncomputable def zAg:ym:=⟨⟨"Memory.__init__",zi (inC 33 0),186,.ref 185⟩,(inC 33 0),["self","numeric","characters"],3⟩
theorem zKM:fnB zAg=true:=by decide +kernel
noncomputable def zAh:ym:=⟨⟨"Memory.load",zi (inC 33 1),193,.ref 192⟩,(inC 33 1),["self","place"],2⟩
theorem zKN:fnB zAh=true:=by decide +kernel
noncomputable def zAJ:ym:=⟨⟨"Memory.store",zi (inC 33 2),200,.ref 199⟩,(inC 33 2),["self","place","value"],3⟩
theorem zJJ:fnB zAJ=true:=by decide +kernel
noncomputable def zBw:ym:=⟨⟨"unit_size",zi (yI 41),270,.ref 269⟩,(yI 41),["kind","length"],2⟩
theorem zNh:fnB zBw=true:=by decide +kernel
noncomputable def zDu:ym:=⟨⟨"extent",zi (yI 42),277,.ref 276⟩,(yI 42),["dims","count","low","high"],1⟩
theorem zIb:zDu.nm.Nodup:=by decide +kernel
theorem zTv:fnB zDu=true:=by decide +kernel
noncomputable def qX:ym:=⟨⟨"element_place",zi (yI 43),284,.ref 283⟩,(yI 43),["place","subscripts","kind","address","length","dims","offset","stride","k","low","high"],2⟩
theorem qE:qX.nm.Nodup:=by decide +kernel
theorem zIP:fnB qX=true:=by decide +kernel
noncomputable def q7:ym:=⟨⟨"elements_of",zi (yI 45),296,.ref 295⟩,(yI 45),["place","kind","address","length","dims","count","width"],1⟩
theorem zDq:q7.nm.Nodup:=by decide +kernel
theorem zKO:fnB q7=true:=by decide +kernel
noncomputable def zCb:ym:=⟨⟨"Run.__init__",zi (inC 47 0),310,.ref 309⟩,(inC 47 0),["self","memory","limits","units","world","expressions","statements"],7⟩
theorem zPV:fnB zCb=true:=by decide +kernel
noncomputable def zCc:ym:=⟨⟨"evaluate",zi (yI 48),324,.ref 323⟩,(yI 48),["run","tree"],2⟩
theorem zPW:fnB zCc=true:=by decide +kernel
noncomputable def zAD:ym:=⟨⟨"named_place",zi (yI 49),331,.ref 330⟩,(yI 49),["run","name","found"],2⟩
theorem zKq:zAD.nm.Nodup:=by decide +kernel
theorem zKS:fnB zAD=true:=by decide +kernel
noncomputable def zBq:ym:=⟨⟨"place_of",zi (yI 52),350,.ref 349⟩,(yI 52),["run","tree","place"],2⟩
theorem zQH:zBq.nm.Nodup:=by decide +kernel
theorem zIp:fnB zBq=true:=by decide +kernel
noncomputable def zBv:ym:=⟨⟨"has_place",zi (yI 53),357,.ref 356⟩,(yI 53),["tree"],1⟩
theorem zNb:fnB zBv=true:=by decide +kernel
noncomputable def zBH:ym:=⟨⟨"eval_const",zi (yI 54),364,.ref 363⟩,(yI 54),["run","tree"],2⟩
theorem zLj:fnB zBH=true:=by decide +kernel
noncomputable def zBI:ym:=⟨⟨"eval_place",zi (yI 55),371,.ref 370⟩,(yI 55),["run","tree"],2⟩
theorem zLk:fnB zBI=true:=by decide +kernel
noncomputable def zEh:ym:=⟨⟨"reckon",zi (yI 56),378,.ref 377⟩,(yI 56),["run","word","kind","left","right"],5⟩
theorem zTw:fnB zEh=true:=by decide +kernel
noncomputable def zAA:ym:=⟨⟨"eval_binary",zi (yI 57),385,.ref 384⟩,(yI 57),["run","tree","left","right"],2⟩
theorem zFw:zAA.nm.Nodup:=by decide +kernel
theorem zKP:fnB zAA=true:=by decide +kernel
noncomputable def yn:ym:=⟨⟨"plain_expressions",zi (yI 59),399,.ref 398⟩,(yI 59),["found","word"],0⟩
theorem zAt:yn.nm.Nodup:=by decide +kernel
theorem zFo:fnB yn=true:=by decide +kernel
noncomputable def zBG:ym:=⟨⟨"Level.__init__",zi (inC 61 0),413,.ref 412⟩,(inC 61 0),["self","items","target","step","count"],5⟩
theorem zLh:fnB zBG=true:=by decide +kernel
noncomputable def zAU:ym:=⟨⟨"begin_loop",zi (yI 62),427,.ref 426⟩,(yI 62),["run","item","word","items","target","first","last","step","low","high","stride","count"],2⟩
theorem zBU:zAU.nm.Nodup:=by decide +kernel
theorem zLi:fnB zAU=true:=by decide +kernel
noncomputable def zAv:ym:=⟨⟨"end_round",zi (yI 63),434,.ref 433⟩,(yI 63),["run","level","place"],2⟩
theorem zOF:zAv.nm.Nodup:=by decide +kernel
theorem zNa:fnB zAv=true:=by decide +kernel
noncomputable def ql:ym:=⟨⟨"ListWalk.__init__",zi (inC 64 0),448,.ref 447⟩,(inC 64 0),["self","run","items"],3⟩
theorem zIM:fnB ql=true:=by decide +kernel
noncomputable def qW:ym:=⟨⟨"ListWalk.take",zi (inC 64 2),462,.ref 461⟩,(inC 64 2),["self","item","place"],2⟩
theorem zIa:qW.nm.Nodup:=by decide +kernel
theorem zIO:fnB qW=true:=by decide +kernel
noncomputable def qV:ym:=⟨⟨"ListWalk.next",zi (inC 64 1),455,.ref 454⟩,(inC 64 1),["self","place","level","found"],1⟩
theorem zCa:qV.nm.Nodup:=by decide +kernel
theorem zIN:fnB qV=true:=by decide +kernel
noncomputable def zDv:ym:=⟨⟨"walked",zi (yI 65),476,.ref 475⟩,(yI 65),["run","items","walk","found","item"],2⟩
theorem zGO:zDv.nm.Nodup:=by decide +kernel
theorem zTx:fnB zDv=true:=by decide +kernel
noncomputable def zc:ym:=⟨⟨"Limits.__init__",zi (inC 67 0),491,.ref 490⟩,(inC 67 0),["self","width","real_digits","double_digits","top_exponent","steps","continuations","columns","depth"],9⟩
theorem zKL:fnB zc=true:=by decide +kernel
noncomputable def zBm:ym:=⟨⟨"_law_dims",zi (yI 69),505,.ref 504⟩,(yI 69),[],0⟩
theorem zPX:fnB zBm=true:=by decide +kernel
noncomputable def zBK:ym:=⟨⟨"_law_places",zi (yI 70),512,.ref 511⟩,(yI 70),[],0⟩
theorem zLn:fnB zBK=true:=by decide +kernel
noncomputable def zBo:ym:=⟨⟨"_law_take",zi (yI 71),519,.ref 518⟩,(yI 71),["pool","many","digit"],2⟩
theorem zQF:zBo.nm.Nodup:=by decide +kernel
theorem zPZ:fnB zBo=true:=by decide +kernel
noncomputable def zAX:ym:=⟨⟨"_law_simple",zi (yI 72),526,.ref 525⟩,(yI 72),["pool","way"],1⟩
theorem zMF:zAX.nm.Nodup:=by decide +kernel
theorem zLp:fnB zAX=true:=by decide +kernel
noncomputable def zAV:ym:=⟨⟨"_law_bounds",zi (yI 73),533,.ref 532⟩,(yI 73),["pool","first","last","step"],1⟩
theorem zEU:zAV.nm.Nodup:=by decide +kernel
theorem zLm:fnB zAV=true:=by decide +kernel
noncomputable def zBn:ym:=⟨⟨"_law_item",zi (yI 74),538,.ref 537⟩,(yI 74),["pool","deep","way","items","first","last","step","name"],2⟩
theorem zEH:zBn.nm.Nodup:=by decide +kernel
theorem zPY:fnB zBn=true:=by decide +kernel
noncomputable def zAz:ym:=⟨⟨"_law_worth",zi (yI 75),545,.ref 544⟩,(yI 75),["held","tree","left","right"],2⟩
theorem zOH:zAz.nm.Nodup:=by decide +kernel
theorem zNf:fnB zAz=true:=by decide +kernel
noncomputable def zAx:ym:=⟨⟨"_law_seats",zi (yI 76),550,.ref 549⟩,(yI 76),["name","dims"],1⟩
theorem zOG:zAx.nm.Nodup:=by decide +kernel
theorem zNd:fnB zAx=true:=by decide +kernel
noncomputable def zAB:ym:=⟨⟨"_law_address",zi (yI 77),557,.ref 556⟩,(yI 77),["name","seat","kind","address","length","dims","at"],2⟩
theorem zFx:zAB.nm.Nodup:=by decide +kernel
theorem zKQ:fnB zAB=true:=by decide +kernel
noncomputable def zBp:ym:=⟨⟨"_law_tell",zi (yI 78),564,.ref 563⟩,(yI 78),["held","log","numbers","name","seat","number"],5⟩
theorem zQG:zBp.nm.Nodup:=by decide +kernel
theorem zPa:fnB zBp=true:=by decide +kernel
noncomputable def zAW:ym:=⟨⟨"_law_rounds",zi (yI 79),569,.ref 568⟩,(yI 79),["held","log","numbers","item","word","items","target","first","last","step","ends","count","turn"],4⟩
theorem zCn:zAW.nm.Nodup:=by decide +kernel
theorem zLo:fnB zAW=true:=by decide +kernel
noncomputable def zCf:ym:=⟨⟨"_law_run",zi (yI 80),574,.ref 573⟩,(yI 80),["held","log","numbers","items","item","seat"],4⟩
theorem zHD:zCf.nm.Nodup:=by decide +kernel
theorem zRS:fnB zCf=true:=by decide +kernel
noncomputable def zAy:ym:=⟨⟨"_law_start",zi (yI 81),581,.ref 580⟩,(yI 81),["pool","held","name"],1⟩
theorem zHd:zAy.nm.Nodup:=by decide +kernel
theorem zNe:fnB zAy=true:=by decide +kernel
noncomputable def zCe:ym:=⟨⟨"_law_lay",zi (yI 82),586,.ref 585⟩,(yI 82),["held","memory","name","seat","run"],1⟩
theorem zFI:zCe.nm.Nodup:=by decide +kernel
theorem zRR:fnB zCe=true:=by decide +kernel
noncomputable def zAw:ym:=⟨⟨"_law_heard",zi (yI 83),593,.ref 592⟩,(yI 83),["run","items","numbers","walk","log","found","kind","place","tree"],3⟩
theorem zCM:zAw.nm.Nodup:=by decide +kernel
theorem zNc:fnB zAw=true:=by decide +kernel
noncomputable def zAK:ym:=⟨⟨"law",zi (yI 84),598,.ref 597⟩,(yI 84),["script","pool","items","numbers","held","run","quiet","still","log","whole","due","after","told"],1⟩
theorem zCL:zAK.nm.Nodup:=by decide +kernel
theorem zaA:fnB zAK=true:=by decide +kernel
noncomputable def zaE:List ym:=[zCg,zCd,zDU,zDW,qg,zDV,zBJ,qF,zDX,zAZ,zBL,zBA,zAC,zAL,zAY,zMk,zAg,zAh,zAJ,zBw,zDu,qX,q7,zCb,zCc,zAD,zBq,zBv,zBH,zBI,zEh,zAA,yn,zBG,zAU,zAv,ql,qW,qV,zDv,zBm,zBm,zBK,zBo,zAX,zAV,zBn,zAz,zAx,zAB,zBp,zAW,zCf,zAy,zCe,zAw,zAK]
structure WOk (Tp:World->Heap->Prop) (w:World):Prop where
  sys:zDb Tp w
  exc:zSK Tp w
  raise:zHs Tp w 8
  gn:∀(i:Nat) (x:Str) (v:Value),zbs[i]?=some (x,v)->zOm Tp w x v
  bn:∀(i:Nat) (x:Str) (v:Value),zVD[i]?=some (x,v)->zMR Tp w x v
  kf:∀(i:Nat) (a:Addr),zcE[i]?=some a->zBP Tp w (.ref a)
  at_:∀(i:Nat) (C:Addr) (n:Str),zXj[i]?=some (C,n)->zEK Tp w C n
  cl:∀(i:Nat) (C f:Addr),zZl[i]?=some (C,f)->zSJ Tp w C f
  mt:∀(i:Nat) (C:Addr) (n:Str) (f:Addr),zcL[i]?=some (C,n,f)->zUt Tp w C n f
  fn:∀(i:Nat) (r:ym),zaE[i]?=some r->zUr Tp w r
  lim:yN Tp w 8 (.ref 494) zHm
theorem zVf (W:WOk Tp w) {d:Nat}(hd:8<=d):yN Tp w d (.ref 494) zLG:=W.lim.up hd
def zGq:zX:=(zK (zw (yA .Eq (zF 0) (zC (.int 5))) (zK (zj (zC (.int 0)))
  zJ) zJ)
  (zK (zw (bor [(yA .Eq (zF 0) (zC (.int 2))),(yA .Eq (zF 0) (zC (.int 3)))]) (zK (zj (zC (.int 2)))
  zJ) zJ)
  (zK (zj (zC (.int 1)))
  zJ)))
theorem zRx (W:WOk Tp w) {d:Nat}(hd:0<=d):zz Tp w d true zCg.F zCg.nm (zu zCg.st) (zGq):=
  (zE (zg (za (v0 0 rfl rfl) (g0 (W.gn 5 _ _ rfl) (fun Z=>⟨_,rfl⟩) rfl rfl) rfl) (zE (zP zH)
  zI) zI)
  (zE (zg (zBM (.cons (za (v0 0 rfl rfl) (g0 (W.gn 2 _ _ rfl) (fun Z=>⟨_,rfl⟩) rfl rfl) rfl) (.cons (za (v0 0 rfl rfl) (g0 (W.gn 3 _ _ rfl) (fun Z=>⟨_,rfl⟩) rfl rfl) rfl) .nil))) (zE (zP zH)
  zI) zI)
  (zE (zP zH)
  zI)))
def zBs:zh:=yK 1 1 zGq
theorem zPg (W:WOk Tp w) {d:Nat}(hd:1<=d):yQ Tp w d (.ref 60) zBs:=(zb (zf (W.fn 0 _ rfl) zPb) (zRx W (Nat.le_refl _))).up hd
theorem zHB (W:WOk Tp w) {d:Nat}(hd:1<=d):yN Tp w d (.ref 60) zBs:=(zPg W hd).snd
def zHw:zX:=(zK (zx 2 (ye .LShift (zC (.int 1)) (ye .Sub (zF 1) (zC (.int 1)))))
  (zK (zw (bor [(yA .Lt (zF 0) (zII (zF 2))),(yA .GtE (zF 0) (zF 2))]) (zK zBk
  zJ) zJ)
  (zK (zj (zF 0))
  zJ)))
theorem zUa (W:WOk Tp w) {d:Nat}(hd:8<=d):zz Tp w d true zCd.F zCd.nm (zu zCd.st) (zHw):=
  (zE (zT 2 rfl zRj (zN rfl) (zl zH (zl (v0 1 rfl rfl) zH)) (fun Z=>rfl))
  (zE (zg (zBM (.cons (za (v0 0 rfl rfl) (zEJ (v0 2 rfl rfl)) rfl) (.cons (za (v0 0 rfl rfl) (v0 2 rfl rfl) rfl) .nil))) (zE (zAO W.exc (W.raise.up (Nat.le_trans (by decide) hd)) (W.kf 0 _ rfl) (g0 (W.gn 59 _ _ rfl) (fun Z=>rfl) rfl rfl))
  zI) zI)
  (zE (zP (v0 0 rfl rfl))
  zI)))
def zBy:zh:=yK 2 3 zHw
theorem zRT (W:WOk Tp w) {d:Nat}(hd:9<=d):yQ Tp w d (.ref 67) zBy:=(zb (zf (W.fn 1 _ rfl) zRM) (zUa W (Nat.le_refl _))).up hd
theorem zGJ (W:WOk Tp w) {d:Nat}(hd:9<=d):yN Tp w d (.ref 67) zBy:=(zRT W hd).snd
def zHx:zX:=(zK (zj (zO zBy (zD (ye .Add (zF 0) (zF 1)) (zD (zF 2) zM))))
  zJ)
theorem zUb (W:WOk Tp w) {d:Nat}(hd:9<=d):zz Tp w d true zDU.F zDU.nm (zu zDU.st) (zHx):=
  (zE (zP (zL (g0 (W.gn 8 _ _ rfl) (fun Z=>rfl) rfl rfl) (W.kf 2 _ rfl) (zGJ W (Nat.le_trans (by decide) hd)) (zA (zl (v0 0 rfl rfl) (v0 1 rfl rfl)) (zA (v0 2 rfl rfl) zG (zB rfl)) (zB rfl)) (zS rfl)))
  zI)
def zEm:zh:=yK 3 3 zHx
theorem zRU (W:WOk Tp w) {d:Nat}(hd:10<=d):yQ Tp w d (.ref 74) zEm:=(zb (zf (W.fn 2 _ rfl) zRN) (zUb W (Nat.le_refl _))).up hd
theorem zTr (W:WOk Tp w) {d:Nat}(hd:10<=d):yN Tp w d (.ref 74) zEm:=(zRU W hd).snd
def zHz:zX:=(zK (zj (zO zBy (zD (ye .Sub (zF 0) (zF 1)) (zD (zF 2) zM))))
  zJ)
theorem zUd (W:WOk Tp w) {d:Nat}(hd:9<=d):zz Tp w d true zDW.F zDW.nm (zu zDW.st) (zHz):=
  (zE (zP (zL (g0 (W.gn 8 _ _ rfl) (fun Z=>rfl) rfl rfl) (W.kf 2 _ rfl) (zGJ W (Nat.le_trans (by decide) hd)) (zA (zl (v0 0 rfl rfl) (v0 1 rfl rfl)) (zA (v0 2 rfl rfl) zG (zB rfl)) (zB rfl)) (zS rfl)))
  zI)
def zEo:zh:=yK 3 3 zHz
theorem zRW (W:WOk Tp w) {d:Nat}(hd:10<=d):yQ Tp w d (.ref 81) zEo:=(zb (zf (W.fn 3 _ rfl) zRP) (zUd W (Nat.le_refl _))).up hd
theorem zTt (W:WOk Tp w) {d:Nat}(hd:10<=d):yN Tp w d (.ref 81) zEo:=(zRW W hd).snd
def zDf:zX:=(zK (zx 2 (ye .FloorDiv (zO zSE (zD (zF 0) zM)) (zO zSE (zD (zF 1) zM))))
  (zK (zj (dif (qH .Eq (zPC .Lt (zF 0) (zC (.int 0))) (zPC .Lt (zF 1) (zC (.int 0)))) (zF 2) (zII (zF 2))))
  zJ))
theorem zKy (W:WOk Tp w) {d:Nat}(hd:0<=d):zz Tp w d true qg.F qg.nm (zu qg.st) (zDf):=
  (zE (zT 2 rfl zJS (zN rfl) (zl (zL (b0 (W.bn 1 _ _ rfl) (fun Z=>rfl) rfl rfl) (zY _) zOe (zA (v0 0 rfl rfl) zG (zB rfl)) (zS rfl)) (zL (b0 (W.bn 1 _ _ rfl) (fun Z=>rfl) rfl rfl) (zY _) zOe (zA (v0 1 rfl rfl) zG (zB rfl)) (zS rfl))) (fun Z=>rfl))
  (zE (zP (zBN (yH W.sys (zHk (v0 0 rfl rfl) zH rfl) (zHk (v0 1 rfl rfl) zH rfl) rfl) (v0 2 rfl rfl) (zEJ (v0 2 rfl rfl))))
  zI))
def zBD:zh:=yK 2 3 zDf
theorem zJN (W:WOk Tp w) {d:Nat}(hd:1<=d):yQ Tp w d (.ref 95) zBD:=(zb (zf (W.fn 4 _ rfl) zJK) (zKy W (Nat.le_refl _))).up hd
theorem zKI (W:WOk Tp w) {d:Nat}(hd:1<=d):yN Tp w d (.ref 95) zBD:=(zJN W hd).snd
def zHy:zX:=(zK (zw (yA .Eq (zF 1) (zC (.int 0))) (zK zBk
  zJ) zJ)
  (zK (zj (zO zBy (zD (zO zBD (zD (zF 0) (zD (zF 1) zM))) (zD (zF 2) zM))))
  zJ))
theorem zUc (W:WOk Tp w) {d:Nat}(hd:9<=d):zz Tp w d true zDV.F zDV.nm (zu zDV.st) (zHy):=
  (zE (zg (za (v0 1 rfl rfl) zH rfl) (zE (zAO W.exc (W.raise.up (Nat.le_trans (by decide) hd)) (W.kf 0 _ rfl) (g0 (W.gn 59 _ _ rfl) (fun Z=>rfl) rfl rfl))
  zI) zI)
  (zE (zP (zL (g0 (W.gn 8 _ _ rfl) (fun Z=>rfl) rfl rfl) (W.kf 2 _ rfl) (zGJ W (Nat.le_trans (by decide) hd)) (zA (zL (g0 (W.gn 12 _ _ rfl) (fun Z=>rfl) rfl rfl) (W.kf 6 _ rfl) (zKI W (Nat.le_trans (by decide) hd)) (zA (v0 0 rfl rfl) (zA (v0 1 rfl rfl) zG (zB rfl)) (zB rfl)) (zS rfl)) (zA (v0 2 rfl rfl) zG (zB rfl)) (zB rfl)) (zS rfl)))
  zI))
def zEn:zh:=yK 3 3 zHy
theorem zRV (W:WOk Tp w) {d:Nat}(hd:10<=d):yQ Tp w d (.ref 102) zEn:=(zb (zf (W.fn 5 _ rfl) zRO) (zUc W (Nat.le_refl _))).up hd
theorem zTs (W:WOk Tp w) {d:Nat}(hd:10<=d):yN Tp w d (.ref 102) zEn:=(zRV W hd).snd
def zCC:zX:=(zK (zw (qH .Eq (zF 0) (zC (.str "add"))) (zK (zj (zO zEm (zD (zF 2) (zD (zF 3) (zD (zq [494] (zF 4) "width") zM)))))
  zJ) zJ)
  (zK (zw (qH .Eq (zF 0) (zC (.str "sub"))) (zK (zj (zO zEo (zD (zF 2) (zD (zF 3) (zD (zq [494] (zF 4) "width") zM)))))
  zJ) zJ)
  (zK (zw (qH .Eq (zF 0) (zC (.str "mul"))) (zK (zj zGs)
  zJ) zJ)
  (zK (zw (qH .Eq (zF 0) (zC (.str "div"))) (zK (zj (zO zEn (zD (zF 2) (zD (zF 3) (zD (zq [494] (zF 4) "width") zM)))))
  zJ) zJ)
  (zK (zw (bor [(qH .Eq (zF 0) (zC (.str "pow"))),(qH .Eq (zF 0) (zC (.str "powi")))]) (zK (zj zGs)
  zJ) zJ)
  (zK (zj zGs)
  zJ))))))
theorem zOT (W:WOk Tp w) {d:Nat}(hd:10<=d):zz Tp w d true zBJ.F zBJ.nm (zu zBJ.st) (zCC):=
  (zE (zg (yH W.sys (v0 0 rfl rfl) zU rfl) (zE (zP (zL (g0 (W.gn 9 _ _ rfl) (fun Z=>rfl) rfl rfl) (W.kf 3 _ rfl) (zTr W (Nat.le_trans (by decide) hd)) (zA (v0 2 rfl rfl) (zA (v0 3 rfl rfl) (zA (zd (yP (W.at_ 27 _ _ rfl)) (v0 4 rfl rfl) (fun Z=>rfl)) zG (zB rfl)) (zB rfl)) (zB rfl)) (zS rfl)))
  zI) zI)
  (zE (zg (yH W.sys (v0 0 rfl rfl) zU rfl) (zE (zP (zL (g0 (W.gn 10 _ _ rfl) (fun Z=>rfl) rfl rfl) (W.kf 4 _ rfl) (zTt W (Nat.le_trans (by decide) hd)) (zA (v0 2 rfl rfl) (zA (v0 3 rfl rfl) (zA (zd (yP (W.at_ 27 _ _ rfl)) (v0 4 rfl rfl) (fun Z=>rfl)) zG (zB rfl)) (zB rfl)) (zB rfl)) (zS rfl)))
  zI) zI)
  (zE (zg (yH W.sys (v0 0 rfl rfl) zU rfl) (zE (zP zDY)
  zI) zI)
  (zE (zg (yH W.sys (v0 0 rfl rfl) zU rfl) (zE (zP (zL (g0 (W.gn 13 _ _ rfl) (fun Z=>rfl) rfl rfl) (W.kf 7 _ rfl) (zTs W (Nat.le_trans (by decide) hd)) (zA (v0 2 rfl rfl) (zA (v0 3 rfl rfl) (zA (zd (yP (W.at_ 27 _ _ rfl)) (v0 4 rfl rfl) (fun Z=>rfl)) zG (zB rfl)) (zB rfl)) (zB rfl)) (zS rfl)))
  zI) zI)
  (zE (zg (zBM (.cons (yH W.sys (v0 0 rfl rfl) zU rfl) (.cons (yH W.sys (v0 0 rfl rfl) zU rfl) .nil))) (zE (zP zDY)
  zI) zI)
  (zE (zP zDY)
  zI))))))
def qL:zh:=yK 5 5 zCC
theorem zLw (W:WOk Tp w) {d:Nat}(hd:11<=d):yQ Tp w d (.ref 137) qL:=(zb (zf (W.fn 6 _ rfl) zLl) (zOT W (Nat.le_refl _))).up hd
theorem zNW (W:WOk Tp w) {d:Nat}(hd:11<=d):yN Tp w d (.ref 137) qL:=(zLw W hd).snd
noncomputable def zUk:Value->Option zh:=zJZ [(137,qL)]
theorem zJj (W:WOk Tp w) {d:Nat}(hd:11<=d):∀v tf,zUk v=some tf->zBP Tp w v/\yN Tp w d v tf:=zJi (W.kf 8 _ rfl) (zNW W hd) zXP
def zDe:zX:=(zK (zj (zHQ .idct (yj (zC (.int 0)) (zC (.glob (.ref 137))) (yj (zC (.int 4)) (zC (.glob (.ref 144))) zHS))))
  zJ)
theorem zHF (W:WOk Tp w) {d:Nat}(hd:0<=d):zz Tp w d true qF.F qF.nm (zu qF.st) (zDe):=
  (zE (zP (zXD W.sys (yd (g0 (W.gn 0 _ _ rfl) (fun Z=>⟨_,rfl⟩) rfl rfl) (g0 (W.gn 14 _ _ rfl) (fun Z=>rfl) rfl rfl) (yd (g0 (W.gn 4 _ _ rfl) (fun Z=>⟨_,rfl⟩) rfl rfl) (g0 (W.gn 15 _ _ rfl) (fun Z=>rfl) rfl rfl) zGC)) (by decide) (by decide)))
  zI)
def qG:zh:=yK 0 0 zDe
theorem zGb (W:WOk Tp w) {d:Nat}(hd:1<=d):yQ Tp w d (.ref 151) qG:=(zb (zf (W.fn 7 _ rfl) zGa) (zHF W (Nat.le_refl _))).up hd
theorem zGz (W:WOk Tp w) {d:Nat}(hd:1<=d):yN Tp w d (.ref 151) qG:=(zGb W hd).snd
def zIA:zX:=(zK (zw (zCt (zO zZB (zD (zF 0) (zD (zC (.glob (.type "tuple"))) zM)))) (zK (zj (zPC .Eq (zZ (zF 0) (zC (.int 0))) (zC (.int 0))))
  zJ) zJ)
  (zK (zj (zPC .Eq (zF 0) (zC (.int 0))))
  zJ))
theorem zUe (W:WOk Tp w) {d:Nat}(hd:0<=d):zz Tp w d true zDX.F zDX.nm (zu zDX.st) (zIA):=
  (zE (zg (zAM (zL (b0 (W.bn 4 _ _ rfl) (fun Z=>rfl) rfl rfl) (zY _) zTI (zA (v0 0 rfl rfl) (zA (b0 (W.bn 5 _ _ rfl) (fun Z=>rfl) rfl rfl) zG (zB rfl)) (zB rfl)) (zS rfl)) (fun Z Z=>rfl)) (zE (zP (zHk (zQ (v0 0 rfl rfl) zH (fun Z Z=>rfl)) zH rfl))
  zI) zI)
  (zE (zP (zHk (v0 0 rfl rfl) zH rfl))
  zI))
def zEp:zh:=yK 1 1 zIA
theorem zRX (W:WOk Tp w) {d:Nat}(hd:1<=d):yQ Tp w d (.ref 165) zEp:=(zb (zf (W.fn 8 _ rfl) zRQ) (zUe W (Nat.le_refl _))).up hd
theorem zTu (W:WOk Tp w) {d:Nat}(hd:1<=d):yN Tp w d (.ref 165) zEp:=(zRX W hd).snd
def zDN:zX:=(zK (zw (zCt (zO zEp (zD (zF 3) zM))) (zK zBk
  zJ) zJ)
  (zK (zx 6 (zZ (zF 4) (zF 0)))
  (zK (zx 7 (zGr (zF 6) zUk (zD (zC (.str "add")) (zD (zF 0) (zD (zGr (zF 6) zUk (zD (zC (.str "sub")) (zD (zF 0) (zD (zF 2) (zD (zF 1) (zD (zF 5) zM)))))) (zD (zF 3) (zD (zF 5) zM)))))))
  (zK (zx 8 (zGr (zF 6) zUk (zD (zC (.str "div")) (zD (zF 0) (zD (zF 7) (zD (zF 3) (zD (zF 5) zM)))))))
  (zK (zw (yA .NotEq (zF 0) (zC (.int 0))) (zK (zx 8 zGs)
  zJ) zJ)
  (zK (zj (zO zBy (zD (zO zZF (zD (zF 8) (zD (zC (.int 0)) zM))) (zD (zq [494] (zF 5) "width") zM))))
  zJ))))))
theorem zOa (W:WOk Tp w) {d:Nat}(hd:11<=d):zz Tp w d true zAZ.F zAZ.nm (zu zAZ.st) (zDN):=
  (zE (zg (zAM (zL (g0 (W.gn 17 _ _ rfl) (fun Z=>rfl) rfl rfl) (W.kf 11 _ rfl) (zTu W (Nat.le_trans (by decide) hd)) (zA (v0 3 rfl rfl) zG (zB rfl)) (zS rfl)) (fun Z Z=>rfl)) (zE (zAO W.exc (W.raise.up (Nat.le_trans (by decide) hd)) (W.kf 0 _ rfl) (g0 (W.gn 59 _ _ rfl) (fun Z=>rfl) rfl rfl))
  zI) zI)
  (zE (zT 6 rfl zCo (zN rfl) (zQ (v0 4 rfl rfl) (v0 0 rfl rfl) (fun Z Z=>rfl)) (fun Z=>rfl))
  (zE (zT 7 rfl zCo (zN rfl) (zEl (v0 6 rfl rfl) (zJj W (Nat.le_trans (by decide) hd)) (zA zU (zA (v0 0 rfl rfl) (zA (zEl (v0 6 rfl rfl) (zJj W (Nat.le_trans (by decide) hd)) (zA zU (zA (v0 0 rfl rfl) (zA (v0 2 rfl rfl) (zA (v0 1 rfl rfl) (zA (v0 5 rfl rfl) zG (zB rfl)) (zB rfl)) (zB rfl)) (zB rfl)) (zB rfl)) (zS rfl) (fun Z=>rfl)) (zA (v0 3 rfl rfl) (zA (v0 5 rfl rfl) zG (zB rfl)) (zB rfl)) (zB rfl)) (zB rfl)) (zB rfl)) (zS rfl) (fun Z=>rfl)) (fun Z=>rfl))
  (zE (zT 8 rfl zCo (zN rfl) (zEl (v0 6 rfl rfl) (zJj W (Nat.le_trans (by decide) hd)) (zA zU (zA (v0 0 rfl rfl) (zA (v0 7 rfl rfl) (zA (v0 3 rfl rfl) (zA (v0 5 rfl rfl) zG (zB rfl)) (zB rfl)) (zB rfl)) (zB rfl)) (zB rfl)) (zS rfl) (fun Z=>rfl)) (fun Z=>rfl))
  (zE (zg (za (v0 0 rfl rfl) (g0 (W.gn 0 _ _ rfl) (fun Z=>⟨_,rfl⟩) rfl rfl) rfl) (zE (zT 8 rfl zCo (zN rfl) zDY (fun Z=>rfl))
  zI) zI)
  (zE (zP (zL (g0 (W.gn 8 _ _ rfl) (fun Z=>rfl) rfl rfl) (W.kf 2 _ rfl) (zGJ W (Nat.le_trans (by decide) hd)) (zA (zL (b0 (W.bn 2 _ _ rfl) (fun Z=>rfl) rfl rfl) (zY _) zTJ (zA (v0 8 rfl rfl) (zA zH zG (zB rfl)) (zB rfl)) (zS rfl)) (zA (zd (yP (W.at_ 27 _ _ rfl)) (v0 5 rfl rfl) (fun Z=>rfl)) zG (zB rfl)) (zB rfl)) (zS rfl)))
  zI))))))
def zBO:zh:=yK 6 9 zDN
theorem zMC (W:WOk Tp w) {d:Nat}(hd:12<=d):yQ Tp w d (.ref 172) zBO:=(zb (zf (W.fn 9 _ rfl) zLs) (zOa W (Nat.le_refl _))).up hd
theorem zNZ (W:WOk Tp w) {d:Nat}(hd:12<=d):yN Tp w d (.ref 172) zBO:=(zMC W hd).snd
def zEy:zX:=(zK (zw (bor [(yA .Lt (zF 1) (zC (.int 0))),(yA .Gt (ye .Add (zF 1) (zF 2)) (zO qw (zD (zF 0) zM)))]) (zK zBk
  zJ) zJ)
  zJ)
theorem zOY (W:WOk Tp w) {d:Nat}(hd:8<=d):zz Tp w d true zBL.F zBL.nm (zu zBL.st) (zEy):=
  (zE (zg (zBM (.cons (za (v0 1 rfl rfl) zH rfl) (.cons (za (zl (v0 1 rfl rfl) (v0 2 rfl rfl)) (zL (b0 (W.bn 0 _ _ rfl) (fun Z=>rfl) rfl rfl) (zY _) qK (zA (v0 0 rfl rfl) zG (zB rfl)) (zS rfl)) rfl) .nil))) (zE (zAO W.exc (W.raise.up (Nat.le_trans (by decide) hd)) (W.kf 0 _ rfl) (g0 (W.gn 59 _ _ rfl) (fun Z=>rfl) rfl rfl))
  zI) zI)
  zI)
def zAc:zh:=yK 3 3 zEy
theorem zMA (W:WOk Tp w) {d:Nat}(hd:9<=d):yQ Tp w d (.ref 221) zAc:=(zb (zf (W.fn 10 _ rfl) zLq) (zOY W (Nat.le_refl _))).up hd
theorem zFF (W:WOk Tp w) {d:Nat}(hd:9<=d):yN Tp w d (.ref 221) zAc:=(zMA W hd).snd
def zEA:zX:=(zK (zx 3 (zZ (zF 0) (zF 1)))
  (zK (zw (bor [(yA .Is (zF 3) (zC .none)),(yA .NotEq (zZ (zF 3) (zC (.int 0))) (zF 2))]) (zK zBk
  zJ) zJ)
  (zK (zj (zZ (zF 3) (zC (.int 1))))
  zJ)))
theorem zQS (W:WOk Tp w) {d:Nat}(hd:8<=d):zz Tp w d true zBA.F zBA.nm (zu zBA.st) (zEA):=
  (zE (zT 3 rfl zOI (zN rfl) (zQ (v0 0 rfl rfl) (v0 1 rfl rfl) (fun Z Z=>rfl)) (fun Z=>rfl))
  (zE (zg (zBM (.cons (za (v0 3 rfl rfl) zv rfl) (.cons (za (zQ (v0 3 rfl rfl) zH (fun Z Z=>rfl)) (v0 2 rfl rfl) rfl) .nil))) (zE (zAO W.exc (W.raise.up (Nat.le_trans (by decide) hd)) (W.kf 0 _ rfl) (g0 (W.gn 59 _ _ rfl) (fun Z=>rfl) rfl rfl))
  zI) zI)
  (zE (zP (zQ (v0 3 rfl rfl) zH (fun Z Z=>rfl)))
  zI)))
def qu:zh:=yK 3 4 zEA
theorem zNn (W:WOk Tp w) {d:Nat}(hd:9<=d):yQ Tp w d (.ref 228) qu:=(zb (zf (W.fn 11 _ rfl) zNg) (zQS W (Nat.le_refl _))).up hd
theorem zEF (W:WOk Tp w) {d:Nat}(hd:9<=d):yN Tp w d (.ref 228) qu:=(zNn W hd).snd
def zEP:zX:=(zK (qZ (zO zAc (zD (zF 0) (zD (zF 2) (zD (zO zBs (zD (zF 1) zM)) zM)))))
  (zK (zw (yA .Eq (zF 1) (zC (.int 3))) (zK (zj (zp (zD (zO qu (zD (zF 0) (zD (zF 2) (zD (zC (.int 1)) zM)))) (zD (zO qu (zD (zF 0) (zD (ye .Add (zF 2) (zC (.int 1))) (zD (zC (.int 1)) zM)))) zM))))
  zJ) zJ)
  (zK (zx 3 (zO qu (zD (zF 0) (zD (zF 2) (zD (zF 1) zM)))))
  (zK (zw (yA .Eq (zF 1) (zC (.int 2))) (zK (qZ (zO qu (zD (zF 0) (zD (ye .Add (zF 2) (zC (.int 1))) (zD (zC (.int 6)) zM)))))
  zJ) zJ)
  (zK (zj (zF 3))
  zJ)))))
theorem zMN (W:WOk Tp w) {d:Nat}(hd:9<=d):zz Tp w d true zAC.F zAC.nm (zu zAC.st) (zEP):=
  (zE (yq (zL (g0 (W.gn 19 _ _ rfl) (fun Z=>rfl) rfl rfl) (W.kf 16 _ rfl) (zFF W (Nat.le_trans (by decide) hd)) (zA (v0 0 rfl rfl) (zA (v0 2 rfl rfl) (zA (zL (g0 (W.gn 7 _ _ rfl) (fun Z=>rfl) rfl rfl) (W.kf 1 _ rfl) (zHB W (Nat.le_trans (by decide) hd)) (zA (v0 1 rfl rfl) zG (zB rfl)) (zS rfl)) zG (zB rfl)) (zB rfl)) (zB rfl)) (zS rfl)) (fun Z=>rfl) (fun Z=>rfl))
  (zE (zg (za (v0 1 rfl rfl) (g0 (W.gn 3 _ _ rfl) (fun Z=>⟨_,rfl⟩) rfl rfl) rfl) (zE (zP (zR (zA (zL (g0 (W.gn 20 _ _ rfl) (fun Z=>rfl) rfl rfl) (W.kf 17 _ rfl) (zEF W (Nat.le_trans (by decide) hd)) (zA (v0 0 rfl rfl) (zA (v0 2 rfl rfl) (zA (g0 (W.gn 1 _ _ rfl) (fun Z=>⟨_,rfl⟩) rfl rfl) zG (zB rfl)) (zB rfl)) (zB rfl)) (zS rfl)) (zA (zL (g0 (W.gn 20 _ _ rfl) (fun Z=>rfl) rfl rfl) (W.kf 17 _ rfl) (zEF W (Nat.le_trans (by decide) hd)) (zA (v0 0 rfl rfl) (zA (zl (v0 2 rfl rfl) zH) (zA (g0 (W.gn 1 _ _ rfl) (fun Z=>⟨_,rfl⟩) rfl rfl) zG (zB rfl)) (zB rfl)) (zB rfl)) (zS rfl)) zG (zB rfl)) (zB rfl))))
  zI) zI)
  (zE (zT 3 rfl zKp (zN rfl) (zL (g0 (W.gn 20 _ _ rfl) (fun Z=>rfl) rfl rfl) (W.kf 17 _ rfl) (zEF W (Nat.le_trans (by decide) hd)) (zA (v0 0 rfl rfl) (zA (v0 2 rfl rfl) (zA (v0 1 rfl rfl) zG (zB rfl)) (zB rfl)) (zB rfl)) (zS rfl)) (fun Z=>rfl))
  (zE (zg (za (v0 1 rfl rfl) (g0 (W.gn 2 _ _ rfl) (fun Z=>⟨_,rfl⟩) rfl rfl) rfl) (zE (yq (zL (g0 (W.gn 20 _ _ rfl) (fun Z=>rfl) rfl rfl) (W.kf 17 _ rfl) (zEF W (Nat.le_trans (by decide) hd)) (zA (v0 0 rfl rfl) (zA (zl (v0 2 rfl rfl) zH) (zA (g0 (W.gn 6 _ _ rfl) (fun Z=>⟨_,rfl⟩) rfl rfl) zG (zB rfl)) (zB rfl)) (zB rfl)) (zS rfl)) (fun Z=>rfl) (fun Z=>rfl))
  zI) zI)
  (zE (zP (v0 3 rfl rfl))
  zI)))))
def zBY:zh:=yK 3 4 zEP
theorem zKX (W:WOk Tp w) {d:Nat}(hd:10<=d):yQ Tp w d (.ref 235) zBY:=(zb (zf (W.fn 12 _ rfl) zKR) (zMN W (Nat.le_refl _))).up hd
theorem zLf (W:WOk Tp w) {d:Nat}(hd:10<=d):yN Tp w d (.ref 235) zBY:=(zKX W hd).snd
def zDg:zX:=(zK (qZ (zO zAc (zD (zF 0) (zD (zF 2) (zD (zO zBs (zD (zF 1) zM)) zM)))))
  (zK (zw (yA .Eq (zF 1) (zC (.int 3))) (zK (zCY (zF 0) (zF 2) (zp (zD (zC (.int 1)) (zD (zZ (zF 3) (zC (.int 0))) zM))))
  (zK (zCY (zF 0) (ye .Add (zF 2) (zC (.int 1))) (zp (zD (zC (.int 1)) (zD (zZ (zF 3) (zC (.int 1))) zM))))
  (zK (zj (zC .none))
  zJ))) zJ)
  (zK (zCY (zF 0) (zF 2) (zp (zD (zF 1) (zD (zF 3) zM))))
  (zK (zw (yA .Eq (zF 1) (zC (.int 2))) (zK (zCY (zF 0) (ye .Add (zF 2) (zC (.int 1))) (zp (zD (zC (.int 6)) (zD (zF 3) zM))))
  zJ) zJ)
  zJ))))
theorem zLA (W:WOk Tp w) {d:Nat}(hd:9<=d):zz Tp w d true zAL.F zAL.nm (zu zAL.st) (zDg):=
  (zE (yq (zL (g0 (W.gn 19 _ _ rfl) (fun Z=>rfl) rfl rfl) (W.kf 16 _ rfl) (zFF W (Nat.le_trans (by decide) hd)) (zA (v0 0 rfl rfl) (zA (v0 2 rfl rfl) (zA (zL (g0 (W.gn 7 _ _ rfl) (fun Z=>rfl) rfl rfl) (W.kf 1 _ rfl) (zHB W (Nat.le_trans (by decide) hd)) (zA (v0 1 rfl rfl) zG (zB rfl)) (zS rfl)) zG (zB rfl)) (zB rfl)) (zB rfl)) (zS rfl)) (fun Z=>rfl) (fun Z=>rfl))
  (zE (zg (za (v0 1 rfl rfl) (g0 (W.gn 3 _ _ rfl) (fun Z=>⟨_,rfl⟩) rfl rfl) rfl) (zE (zBC (v0 0 rfl rfl) (v0 2 rfl rfl) (zR (zA (g0 (W.gn 1 _ _ rfl) (fun Z=>⟨_,rfl⟩) rfl rfl) (zA (zQ (v0 3 rfl rfl) zH (fun Z Z=>rfl)) zG (zB rfl)) (zB rfl))) (fun Z=>rfl))
  (zE (zBC (v0 0 rfl rfl) (zl (v0 2 rfl rfl) zH) (zR (zA (g0 (W.gn 1 _ _ rfl) (fun Z=>⟨_,rfl⟩) rfl rfl) (zA (zQ (v0 3 rfl rfl) zH (fun Z Z=>rfl)) zG (zB rfl)) (zB rfl))) (fun Z=>rfl))
  (zE zQb
  zI))) zI)
  (zE (zBC (v0 0 rfl rfl) (v0 2 rfl rfl) (zR (zA (v0 1 rfl rfl) (zA (v0 3 rfl rfl) zG (zB rfl)) (zB rfl))) (fun Z=>rfl))
  (zE (zg (za (v0 1 rfl rfl) (g0 (W.gn 2 _ _ rfl) (fun Z=>⟨_,rfl⟩) rfl rfl) rfl) (zE (zBC (v0 0 rfl rfl) (zl (v0 2 rfl rfl) zH) (zR (zA (g0 (W.gn 6 _ _ rfl) (fun Z=>⟨_,rfl⟩) rfl rfl) (zA (v0 3 rfl rfl) zG (zB rfl)) (zB rfl))) (fun Z=>rfl))
  zI) zI)
  zI))))
def zBE:zh:=yK 4 4 zDg
theorem zJO (W:WOk Tp w) {d:Nat}(hd:10<=d):yQ Tp w d (.ref 242) zBE:=(zb (zf (W.fn 13 _ rfl) zJL) (zLA W (Nat.le_refl _))).up hd
theorem zKK (W:WOk Tp w) {d:Nat}(hd:10<=d):yN Tp w d (.ref 242) zBE:=(zJO W hd).snd
def zEz:zX:=(zK (qZ (zO zAc (zD (zF 0) (zD (zF 1) (zD (zO qw (zD (zF 2) zM)) zM)))))
  (zK (zFa (yv 3) (zO zAE (zD (zO qw (zD (zF 2) zM)) zM)) (zK (zCY (zF 0) (ye .Add (zF 1) (zF 3)) (zZ (zF 2) (zF 3)))
  zJ))
  zJ))
theorem zOZ (W:WOk Tp w) {d:Nat}(hd:9<=d):zz Tp w d true zAY.F zAY.nm (zu zAY.st) (zEz):=
  (zE (yq (zL (g0 (W.gn 19 _ _ rfl) (fun Z=>rfl) rfl rfl) (W.kf 16 _ rfl) (zFF W (Nat.le_trans (by decide) hd)) (zA (v0 0 rfl rfl) (zA (v0 1 rfl rfl) (zA (zL (b0 (W.bn 0 _ _ rfl) (fun Z=>rfl) rfl rfl) (zY _) qK (zA (v0 2 rfl rfl) zG (zB rfl)) (zS rfl)) zG (zB rfl)) (zB rfl)) (zB rfl)) (zS rfl)) (fun Z=>rfl) (fun Z=>rfl))
  (zE (zCp W.sys (zAi 3 rfl zMG (zN rfl)) (zL (b0 (W.bn 3 _ _ rfl) (fun Z=>rfl) rfl rfl) (yt _) zAP (zA (zL (b0 (W.bn 0 _ _ rfl) (fun Z=>rfl) rfl rfl) (zY _) qK (zA (v0 2 rfl rfl) zG (zB rfl)) (zS rfl)) zG (zB rfl)) (zS rfl)) (zE (zBC (v0 0 rfl rfl) (zl (v0 1 rfl rfl) (v0 3 rfl rfl)) (zQ (v0 2 rfl rfl) (v0 3 rfl rfl) (fun Z Z=>rfl)) (fun Z=>rfl))
  zI) (fun Z Z=>rfl))
  zI))
def zCU:zh:=yK 3 4 zEz
theorem zMB (W:WOk Tp w) {d:Nat}(hd:10<=d):yQ Tp w d (.ref 256) zCU:=(zb (zf (W.fn 14 _ rfl) zLr) (zOZ W (Nat.le_refl _))).up hd
theorem zNY (W:WOk Tp w) {d:Nat}(hd:10<=d):yN Tp w d (.ref 256) zCU:=(zMB W hd).snd
def zVB:zX:=(zK (zj (ye .Add (zMU (zF 0) (zF 1)) (zVP (zC (.str " ")) (ye .Sub (zF 1) (zO qw (zD (zF 0) zM))))))
  zJ)
theorem zcZ (W:WOk Tp w) {d:Nat}(hd:0<=d):zz Tp w d true zMk.F zMk.nm (zu zMk.st) (zVB):=
  (zE (zP (zl (zQd (v0 0 rfl rfl) (v0 1 rfl rfl)) (zXJ zU (zl (v0 1 rfl rfl) (zL (b0 (W.bn 0 _ _ rfl) (fun Z=>rfl) rfl rfl) (zY _) qK (zA (v0 0 rfl rfl) zG (zB rfl)) (zS rfl))))))
  zI)
def zQi:zh:=yK 2 2 zVB
theorem zaC (W:WOk Tp w) {d:Nat}(hd:1<=d):yQ Tp w d (.ref 263) zQi:=(zb (zf (W.fn 15 _ rfl) zaB) (zcZ W (Nat.le_refl _))).up hd
theorem zbr (W:WOk Tp w) {d:Nat}(hd:1<=d):yN Tp w d (.ref 263) zQi:=(zaC W hd).snd
def zEM:zX:=(zK (yp [210] (zF 0) "numeric" (zKB (zFb (zD (zC .none) zM)) (zF 1)))
  (zK (yp [210] (zF 0) "characters" (zKB (zFb (zD (zC .none) zM)) (zF 2)))
  zJ))
theorem zMI (W:WOk Tp w) {d:Nat}(hd:0<=d):zz Tp w d true zAg.F zAg.nm (zu zAg.st) (zEM):=
  (zE (zr (yP (W.at_ 0 _ _ rfl)) (v0 0 rfl rfl) (zQa (zFM (zA zv zG (zB rfl))) (v0 1 rfl rfl)) (fun Z=>rfl))
  (zE (zr (yP (W.at_ 1 _ _ rfl)) (v0 0 rfl rfl) (zQa (zFM (zA zv zG (zB rfl))) (v0 2 rfl rfl)) (fun Z=>rfl))
  zI))
def zEW:zh:=yK 3 3 zEM
theorem zKT (W:WOk Tp w) {d:Nat}(hd:1<=d):yQ Tp w d (.ref 186) zEW:=(zb (zf (W.fn 16 _ rfl) zKM) (zMI W (Nat.le_refl _))).up hd
def zGD:zh:=zUm 210 zEW
theorem zVg (W:WOk Tp w) {d:Nat}(hd:2<=d):yN Tp w d (.ref 210) zGD:=(zHj (W.cl 0 _ _ rfl) (zKT W (Nat.le_refl _))).up hd
def zEN:zX:=(zK (zw (yA .Eq (zZ (zF 1) (zC (.int 0))) (zC (.int 5))) (zK (zj zGs)
  zJ) zJ)
  (zK (zj (zO zBY (zD (zq [210] (zF 0) "numeric") (zD (zZ (zF 1) (zC (.int 0))) (zD (zZ (zF 1) (zC (.int 1))) zM)))))
  zJ))
theorem zMJ (W:WOk Tp w) {d:Nat}(hd:10<=d):zz Tp w d true zAh.F zAh.nm (zu zAh.st) (zEN):=
  (zE (zg (za (zQ (v0 1 rfl rfl) zH (fun Z Z=>rfl)) (g0 (W.gn 5 _ _ rfl) (fun Z=>⟨_,rfl⟩) rfl rfl) rfl) (zE (zP zDY)
  zI) zI)
  (zE (zP (zL (g0 (W.gn 21 _ _ rfl) (fun Z=>rfl) rfl rfl) (W.kf 18 _ rfl) (zLf W (Nat.le_trans (by decide) hd)) (zA (zd (yP (W.at_ 0 _ _ rfl)) (v0 0 rfl rfl) (fun Z=>rfl)) (zA (zQ (v0 1 rfl rfl) zH (fun Z Z=>rfl)) (zA (zQ (v0 1 rfl rfl) zH (fun Z Z=>rfl)) zG (zB rfl)) (zB rfl)) (zB rfl)) (zS rfl)))
  zI))
def qc:zh:=yK 2 2 zEN
theorem zKU (W:WOk Tp w) {d:Nat}(hd:11<=d):yQ Tp w d (.ref 193) qc:=(zb (zf (W.fn 17 _ rfl) zKN) (zMJ W (Nat.le_refl _))).up hd
theorem zGf (W:WOk Tp w) {d:Nat}(hd:11<=d):yN Tp w d (.ref 193) qc:=(zKU W hd).snd
def zCB:zX:=(zK (zw (yA .Eq (zZ (zF 1) (zC (.int 0))) (zC (.int 5))) (zK (qZ (zO zCU (zD (zq [210] (zF 0) "characters") (zD (zZ (zF 1) (zC (.int 1))) (zD (zO zQi (zD (zF 2) (zD (zZ (zF 1) (zC (.int 2))) zM))) zM)))))
  zJ) (zK (qZ (zO zBE (zD (zq [210] (zF 0) "numeric") (zD (zZ (zF 1) (zC (.int 0))) (zD (zZ (zF 1) (zC (.int 1))) (zD (zF 2) zM))))))
  zJ))
  zJ)
theorem zKx (W:WOk Tp w) {d:Nat}(hd:10<=d):zz Tp w d true zAJ.F zAJ.nm (zu zAJ.st) (zCB):=
  (zE (zg (za (zQ (v0 1 rfl rfl) zH (fun Z Z=>rfl)) (g0 (W.gn 5 _ _ rfl) (fun Z=>⟨_,rfl⟩) rfl rfl) rfl) (zE (yq (zL (g0 (W.gn 24 _ _ rfl) (fun Z=>rfl) rfl rfl) (W.kf 21 _ rfl) (zNY W (Nat.le_trans (by decide) hd)) (zA (zd (yP (W.at_ 1 _ _ rfl)) (v0 0 rfl rfl) (fun Z=>rfl)) (zA (zQ (v0 1 rfl rfl) zH (fun Z Z=>rfl)) (zA (zL (g0 (W.gn 25 _ _ rfl) (fun Z=>rfl) rfl rfl) (W.kf 22 _ rfl) (zbr W (Nat.le_trans (by decide) hd)) (zA (v0 2 rfl rfl) (zA (zQ (v0 1 rfl rfl) zH (fun Z Z=>rfl)) zG (zB rfl)) (zB rfl)) (zS rfl)) zG (zB rfl)) (zB rfl)) (zB rfl)) (zS rfl)) (fun Z=>rfl) (fun Z=>rfl))
  zI) (zE (yq (zL (g0 (W.gn 22 _ _ rfl) (fun Z=>rfl) rfl rfl) (W.kf 19 _ rfl) (zKK W (Nat.le_trans (by decide) hd)) (zA (zd (yP (W.at_ 0 _ _ rfl)) (v0 0 rfl rfl) (fun Z=>rfl)) (zA (zQ (v0 1 rfl rfl) zH (fun Z Z=>rfl)) (zA (zQ (v0 1 rfl rfl) zH (fun Z Z=>rfl)) (zA (v0 2 rfl rfl) zG (zB rfl)) (zB rfl)) (zB rfl)) (zB rfl)) (zS rfl)) (fun Z=>rfl) (fun Z=>rfl))
  zI))
  zI)
def zs:zh:=yK 3 3 zCB
theorem zJM (W:WOk Tp w) {d:Nat}(hd:11<=d):yQ Tp w d (.ref 200) zs:=(zb (zf (W.fn 18 _ rfl) zJJ) (zKx W (Nat.le_refl _))).up hd
theorem zCG (W:WOk Tp w) {d:Nat}(hd:11<=d):yN Tp w d (.ref 200) zs:=(zJM W hd).snd
def zEB:zX:=(zK (zw (yA .Eq (zF 0) (zC (.int 5))) (zK (zj (zF 1))
  zJ) zJ)
  (zK (zj (zO zBs (zD (zF 0) zM)))
  zJ))
theorem zQT (W:WOk Tp w) {d:Nat}(hd:1<=d):zz Tp w d true zBw.F zBw.nm (zu zBw.st) (zEB):=
  (zE (zg (za (v0 0 rfl rfl) (g0 (W.gn 5 _ _ rfl) (fun Z=>⟨_,rfl⟩) rfl rfl) rfl) (zE (zP (v0 1 rfl rfl))
  zI) zI)
  (zE (zP (zL (g0 (W.gn 7 _ _ rfl) (fun Z=>rfl) rfl rfl) (W.kf 1 _ rfl) (zHB W (Nat.le_trans (by decide) hd)) (zA (v0 0 rfl rfl) zG (zB rfl)) (zS rfl)))
  zI))
def qv:zh:=yK 2 2 zEB
theorem zNo (W:WOk Tp w) {d:Nat}(hd:2<=d):yQ Tp w d (.ref 270) qv:=(zb (zf (W.fn 19 _ rfl) zNh) (zQT W (Nat.le_refl _))).up hd
theorem zIo (W:WOk Tp w) {d:Nat}(hd:2<=d):yN Tp w d (.ref 270) qv:=(zNo W hd).snd
def zFh:zX:=(zK (zx 1 (zC (.int 1)))
  (zK (zFa (zTQ [2,3]) (zF 0) (zK (zw (yA .Is (zF 3) (zC .none)) (zK (zj (zC .none))
  zJ) zJ)
  (zK (zRC 1 .Mult (ye .Add (ye .Sub (zF 3) (zF 2)) (zC (.int 1))))
  zJ)))
  (zK (zj (zF 1))
  zJ)))
theorem zWv (W:WOk Tp w) {d:Nat}(hd:0<=d):zz Tp w d true zDu.F zDu.nm (zu zDu.st) (zFh):=
  (zE (zT 1 rfl zIb (zN rfl) zH (fun Z=>rfl))
  (zE (zCp W.sys (zdt rfl (zN rfl) rfl (zN rfl) zIb) (v0 0 rfl rfl) (zE (zg (za (v0 3 rfl rfl) zv rfl) (zE (zP zv)
  zI) zI)
  (zE (zOf 1 rfl zIb (zN rfl) (zl (zl (v0 3 rfl rfl) (v0 2 rfl rfl)) zH))
  zI)) (fun Z Z=>rfl))
  (zE (zP (v0 1 rfl rfl))
  zI)))
def zCS:zh:=yK 1 4 zFh
theorem zTy (W:WOk Tp w) {d:Nat}(hd:1<=d):yQ Tp w d (.ref 277) zCS:=(zb (zf (W.fn 20 _ rfl) zTv) (zWv W (Nat.le_refl _))).up hd
theorem zVh (W:WOk Tp w) {d:Nat}(hd:1<=d):yN Tp w d (.ref 277) zCS:=(zTy W hd).snd
def zDG:zX:=(zK (zFc [2,3,4,5] (zF 0))
  (zK (zw (yA .NotEq (zO qw (zD (zF 1) zM)) (zO qw (zD (zF 5) zM))) (zK zBk
  zJ) zJ)
  (zK (zx 6 (zC (.int 0)))
  (zK (zx 7 (zC (.int 1)))
  (zK (zFa (yv 8) (zO zAE (zD (zO qw (zD (zF 5) zM)) zM)) (zK (zFc [9,10] (zZ (zF 5) (zF 8)))
  (zK (zw (bor [(yA .Lt (zZ (zF 1) (zF 8)) (zF 9)),(zHM [(yA .IsNot (zF 10) (zC .none)),(yA .Gt (zZ (zF 1) (zF 8)) (zF 10))])]) (zK zBk
  zJ) zJ)
  (zK (zRC 6 .Add (ye .Mult (ye .Sub (zZ (zF 1) (zF 8)) (zF 9)) (zF 7)))
  (zK (zw (yA .IsNot (zF 10) (zC .none)) (zK (zRC 7 .Mult (ye .Add (ye .Sub (zF 10) (zF 9)) (zC (.int 1))))
  zJ) zJ)
  zJ)))))
  (zK (zj (zp (zD (zF 2) (zD (ye .Add (zF 3) (ye .Mult (zF 6) (zO qv (zD (zF 2) (zD (zF 4) zM))))) (zD (zF 4) (zD (zp zM) zM))))))
  zJ))))))
theorem zJY (W:WOk Tp w) {d:Nat}(hd:8<=d):zz Tp w d true qX.F qX.nm (zu qX.st) (zDG):=
  (zE (zXX rfl (zN rfl) rfl (zN rfl) rfl (zN rfl) rfl (zN rfl) qE (v0 0 rfl rfl) (fun Z=>rfl) (fun Z=>rfl))
  (zE (zg (za (zL (b0 (W.bn 0 _ _ rfl) (fun Z=>rfl) rfl rfl) (zY _) qK (zA (v0 1 rfl rfl) zG (zB rfl)) (zS rfl)) (zL (b0 (W.bn 0 _ _ rfl) (fun Z=>rfl) rfl rfl) (zY _) qK (zA (v0 5 rfl rfl) zG (zB rfl)) (zS rfl)) rfl) (zE (zAO W.exc (W.raise.up (Nat.le_trans (by decide) hd)) (W.kf 0 _ rfl) (g0 (W.gn 59 _ _ rfl) (fun Z=>rfl) rfl rfl))
  zI) zI)
  (zE (zT 6 rfl qE (zN rfl) zH (fun Z=>rfl))
  (zE (zT 7 rfl qE (zN rfl) zH (fun Z=>rfl))
  (zE (zCp W.sys (zAi 8 rfl qE (zN rfl)) (zL (b0 (W.bn 3 _ _ rfl) (fun Z=>rfl) rfl rfl) (yt _) zAP (zA (zL (b0 (W.bn 0 _ _ rfl) (fun Z=>rfl) rfl rfl) (zY _) qK (zA (v0 5 rfl rfl) zG (zB rfl)) (zS rfl)) zG (zB rfl)) (zS rfl)) (zE (zch rfl (zN rfl) rfl (zN rfl) qE (zQ (v0 5 rfl rfl) (v0 8 rfl rfl) (fun Z Z=>rfl)) (fun Z=>rfl) (fun Z=>rfl))
  (zE (zg (zBM (.cons (za (zQ (v0 1 rfl rfl) (v0 8 rfl rfl) (fun Z Z=>rfl)) (v0 9 rfl rfl) rfl) (.cons (zHi (.cons (za (v0 10 rfl rfl) zv rfl) (.cons (za (zQ (v0 1 rfl rfl) (v0 8 rfl rfl) (fun Z Z=>rfl)) (v0 10 rfl rfl) rfl) .nil))) .nil))) (zE (zAO W.exc (W.raise.up (Nat.le_trans (by decide) hd)) (W.kf 0 _ rfl) (g0 (W.gn 59 _ _ rfl) (fun Z=>rfl) rfl rfl))
  zI) zI)
  (zE (zOf 6 rfl qE (zN rfl) (zl (zl (zQ (v0 1 rfl rfl) (v0 8 rfl rfl) (fun Z Z=>rfl)) (v0 9 rfl rfl)) (v0 7 rfl rfl)))
  (zE (zg (za (v0 10 rfl rfl) zv rfl) (zE (zOf 7 rfl qE (zN rfl) (zl (zl (v0 10 rfl rfl) (v0 9 rfl rfl)) zH))
  zI) zI)
  zI)))) (fun Z Z=>rfl))
  (zE (zP (zR (zA (v0 2 rfl rfl) (zA (zl (v0 3 rfl rfl) (zl (v0 6 rfl rfl) (zL (g0 (W.gn 26 _ _ rfl) (fun Z=>rfl) rfl rfl) (W.kf 23 _ rfl) (zIo W (Nat.le_trans (by decide) hd)) (zA (v0 2 rfl rfl) (zA (v0 4 rfl rfl) zG (zB rfl)) (zB rfl)) (zS rfl)))) (zA (v0 4 rfl rfl) (zA (zR zG) zG (zB rfl)) (zB rfl)) (zB rfl)) (zB rfl))))
  zI))))))
def zAf:zh:=yK 2 11 zDG
theorem zIT (W:WOk Tp w) {d:Nat}(hd:9<=d):yQ Tp w d (.ref 284) zAf:=(zb (zf (W.fn 21 _ rfl) zIP) (zJY W (Nat.le_refl _))).up hd
theorem zJI (W:WOk Tp w) {d:Nat}(hd:9<=d):yN Tp w d (.ref 284) zAf:=(zIT W hd).snd
def zEO:zX:=(zK (zFc [1,2,3,4] (zF 0))
  (zK (zx 5 (zO zCS (zD (zF 4) zM)))
  (zK (zw (yA .Is (zF 5) (zC .none)) (zK zBk
  zJ) zJ)
  (zK (zx 6 (zO qv (zD (zF 1) (zD (zF 3) zM))))
  (zK (zj (qe true 1 [1,2,3,6] (zO zAE (zD (zF 5) zM)) qP (qy (zp (zD (zF 1) (zD (ye .Add (zF 2) (ye .Mult (zF 0) (zF 4))) (zD (zF 3) (zD (zp zM) zM))))))))
  zJ)))))
theorem zMK (W:WOk Tp w) {d:Nat}(hd:8<=d):zz Tp w d true q7.F q7.nm (zu q7.st) (zEO):=
  (zE (zXX rfl (zN rfl) rfl (zN rfl) rfl (zN rfl) rfl (zN rfl) zDq (v0 0 rfl rfl) (fun Z=>rfl) (fun Z=>rfl))
  (zE (zT 5 rfl zDq (zN rfl) (zL (g0 (W.gn 27 _ _ rfl) (fun Z=>rfl) rfl rfl) (W.kf 24 _ rfl) (zVh W (Nat.le_trans (by decide) hd)) (zA (v0 4 rfl rfl) zG (zB rfl)) (zS rfl)) (fun Z=>rfl))
  (zE (zg (za (v0 5 rfl rfl) zv rfl) (zE (zAO W.exc (W.raise.up (Nat.le_trans (by decide) hd)) (W.kf 0 _ rfl) (g0 (W.gn 59 _ _ rfl) (fun Z=>rfl) rfl rfl))
  zI) zI)
  (zE (zT 6 rfl zDq (zN rfl) (zL (g0 (W.gn 26 _ _ rfl) (fun Z=>rfl) rfl rfl) (W.kf 23 _ rfl) (zIo W (Nat.le_trans (by decide) hd)) (zA (v0 1 rfl rfl) (zA (v0 3 rfl rfl) zG (zB rfl)) (zB rfl)) (zS rfl)) (fun Z=>rfl))
  (zE (zP (zBW true (zED (nmc:=["k","kind","address","length","width"]) (qB ["kind","address","length","width"] (fun Z=>rfl) (by decide +kernel) (fun Z=>rfl)) W.sys (by decide) rfl (zL (b0 (W.bn 3 _ _ rfl) (fun Z=>rfl) rfl rfl) (yt _) zAP (zA (v0 5 rfl rfl) zG (zB rfl)) (zS rfl)) (zR (zA (v1 1 rfl rfl rfl) (zA (zl (v1 2 rfl rfl rfl) (zl (v1 0 rfl rfl rfl) (v1 4 rfl rfl rfl))) (zA (v1 3 rfl rfl rfl) (zA (zR zG) zG (zB rfl)) (zB rfl)) (zB rfl)) (zB rfl))) (fun Z Z=>rfl) (.inl ⟨rfl,rfl⟩))))
  zI)))))
def zBX:zh:=yK 1 7 zEO
theorem zKV (W:WOk Tp w) {d:Nat}(hd:9<=d):yQ Tp w d (.ref 296) zBX:=(zb (zf (W.fn 22 _ rfl) zKO) (zMK W (Nat.le_refl _))).up hd
theorem zLe (W:WOk Tp w) {d:Nat}(hd:9<=d):yN Tp w d (.ref 296) zBX:=(zKV W hd).snd
def zGn:zX:=(zK (yp [313] (zF 0) "memory" (zF 1))
  (zK (yp [313] (zF 0) "limits" (zF 2))
  (zK (yp [313] (zF 0) "units" (zF 3))
  (zK (yp [313] (zF 0) "world" (zF 4))
  (zK (yp [313] (zF 0) "expressions" (zF 5))
  (zK (yp [313] (zF 0) "statements" (zF 6))
  (zK (yp [313] (zF 0) "frame" (yr (.sdict [])))
  (zK (yp [313] (zF 0) "depth" (zC (.int 0)))
  (zK (yp [313] (zF 0) "steps" (zC (.int 0)))
  (zK (yp [313] (zF 0) "places" (yr (.sdict [])))
  (zK (yp [313] (zF 0) "flows" (yr (.sdict [])))
  (zK (yp [313] (zF 0) "clears" (yr (.sdict [])))
  (zK (yp [313] (zF 0) "active" (zHR zM))
  (zK (yp [313] (zF 0) "loops" (yr (.sdict [])))
  (zK (yp [313] (zF 0) "operations" (yr (.sdict [])))
  zJ)))))))))))))))
theorem zRr (W:WOk Tp w) {d:Nat}(hd:0<=d):zz Tp w d true zCb.F zCb.nm (zu zCb.st) (zGn):=
  (zE (zr (yP (W.at_ 2 _ _ rfl)) (v0 0 rfl rfl) (v0 1 rfl rfl) (fun Z=>rfl))
  (zE (zr (yP (W.at_ 3 _ _ rfl)) (v0 0 rfl rfl) (v0 2 rfl rfl) (fun Z=>rfl))
  (zE (zr (yP (W.at_ 4 _ _ rfl)) (v0 0 rfl rfl) (v0 3 rfl rfl) (fun Z=>rfl))
  (zE (zr (yP (W.at_ 5 _ _ rfl)) (v0 0 rfl rfl) (v0 4 rfl rfl) (fun Z=>rfl))
  (zE (zr (yP (W.at_ 6 _ _ rfl)) (v0 0 rfl rfl) (v0 5 rfl rfl) (fun Z=>rfl))
  (zE (zr (yP (W.at_ 7 _ _ rfl)) (v0 0 rfl rfl) (v0 6 rfl rfl) (fun Z=>rfl))
  (zE (zr (yP (W.at_ 8 _ _ rfl)) (v0 0 rfl rfl) qT (fun Z=>rfl))
  (zE (zr (yP (W.at_ 9 _ _ rfl)) (v0 0 rfl rfl) zH (fun Z=>rfl))
  (zE (zr (yP (W.at_ 11 _ _ rfl)) (v0 0 rfl rfl) zH (fun Z=>rfl))
  (zE (zr (yP (W.at_ 13 _ _ rfl)) (v0 0 rfl rfl) qT (fun Z=>rfl))
  (zE (zr (yP (W.at_ 14 _ _ rfl)) (v0 0 rfl rfl) qT (fun Z=>rfl))
  (zE (zr (yP (W.at_ 15 _ _ rfl)) (v0 0 rfl rfl) qT (fun Z=>rfl))
  (zE (zr (yP (W.at_ 16 _ _ rfl)) (v0 0 rfl rfl) (zFN zG) (fun Z=>rfl))
  (zE (zr (yP (W.at_ 17 _ _ rfl)) (v0 0 rfl rfl) qT (fun Z=>rfl))
  (zE (zr (yP (W.at_ 18 _ _ rfl)) (v0 0 rfl rfl) qT (fun Z=>rfl))
  zI)))))))))))))))
def zHG:zh:=yK 7 7 zGn
theorem zPc (W:WOk Tp w) {d:Nat}(hd:1<=d):yQ Tp w d (.ref 310) zHG:=(zb (zf (W.fn 23 _ rfl) zPV) (zRr W (Nat.le_refl _))).up hd
def zQh:zh:=zUm 313 zHG
theorem zbq (W:WOk Tp w) {d:Nat}(hd:2<=d):yN Tp w d (.ref 313) zQh:=(zHj (W.cl 1 _ _ rfl) (zPc W (Nat.le_refl _))).up hd
def zEv (tab:Value->Option zh):zX:=(zK (zw (qH .NotIn (zZ (zF 1) (zC (.int 0))) (zq [313] (zF 0) "expressions")) (zK zBk
  zJ) zJ)
  (zK (zj (zGr (zZ (zq [313] (zF 0) "expressions") (zZ (zF 1) (zC (.int 0)))) tab (zD (zF 0) (zD (zF 1) zM))))
  zJ))
theorem zRs (W:WOk Tp w) {d:Nat}(hd:8<=d) {tab:Value->Option zh}(ht:∀v tf,tab v=some tf->zBP Tp w v/\yN Tp w d v tf):zz Tp w d true zCc.F zCc.nm (zu zCc.st) (zEv tab):=
  (zE (zg (yH W.sys (zQ (v0 1 rfl rfl) zH (fun Z Z=>rfl)) (zd (yP (W.at_ 6 _ _ rfl)) (v0 0 rfl rfl) (fun Z=>rfl)) rfl) (zE (zAO W.exc (W.raise.up (Nat.le_trans (by decide) hd)) (W.kf 0 _ rfl) (g0 (W.gn 59 _ _ rfl) (fun Z=>rfl) rfl rfl))
  zI) zI)
  (zE (zP (zEl (zQ (zd (yP (W.at_ 6 _ _ rfl)) (v0 0 rfl rfl) (fun Z=>rfl)) (zQ (v0 1 rfl rfl) zH (fun Z Z=>rfl)) (fun Z Z=>rfl)) ht (zA (v0 0 rfl rfl) (zA (v0 1 rfl rfl) zG (zB rfl)) (zB rfl)) (zS rfl) (fun Z=>rfl)))
  zI))
def zEQ:zX:=(zK (zx 2 (yc (zq [313] (zF 0) "frame") zFK (zD (zF 1) zM)))
  (zK (zw (zHN (zCt (zO zZB (zD (zF 2) (zD (zC (.glob (.type "tuple"))) zM))))) (zK zBk
  zJ) zJ)
  (zK (zj (zF 2))
  zJ)))
theorem zMO (W:WOk Tp w) {d:Nat}(hd:8<=d):zz Tp w d true zAD.F zAD.nm (zu zAD.st) (zEQ):=
  (zE (zT 2 rfl zKq (zN rfl) (yT (zKo W.sys) (zd (yP (W.at_ 8 _ _ rfl)) (v0 0 rfl rfl) (fun Z=>rfl)) (zA (v0 1 rfl rfl) zG (zB rfl)) (zS rfl) (fun Z=>⟨_,rfl⟩)) (fun Z=>rfl))
  (zE (zg (zEk (zAM (zL (b0 (W.bn 4 _ _ rfl) (fun Z=>rfl) rfl rfl) (zY _) zTI (zA (v0 2 rfl rfl) (zA (b0 (W.bn 5 _ _ rfl) (fun Z=>rfl) rfl rfl) zG (zB rfl)) (zB rfl)) (zS rfl)) (fun Z Z=>rfl))) (zE (zAO W.exc (W.raise.up (Nat.le_trans (by decide) hd)) (W.kf 0 _ rfl) (g0 (W.gn 59 _ _ rfl) (fun Z=>rfl) rfl rfl))
  zI) zI)
  (zE (zP (v0 2 rfl rfl))
  zI)))
def zBZ:zh:=yK 2 3 zEQ
theorem zKY (W:WOk Tp w) {d:Nat}(hd:9<=d):yQ Tp w d (.ref 331) zBZ:=(zb (zf (W.fn 25 _ rfl) zKS) (zMO W (Nat.le_refl _))).up hd
theorem zLg (W:WOk Tp w) {d:Nat}(hd:9<=d):yN Tp w d (.ref 331) zBZ:=(zKY W hd).snd
def zBj (yB:zh):zX:=(zK (zw (qH .Eq (zZ (zF 1) (zC (.int 0))) (zC (.str "substr"))) (zK (zj zGs)
  zJ) zJ)
  (zK (zx 2 (zO zBZ (zD (zF 0) (zD (zZ (zF 1) (zC (.int 2))) zM))))
  (zK (zw (qH .Eq (zZ (zF 1) (zC (.int 0))) (zC (.str "elem"))) (zK (zj (zO zAf (zD (zF 2) (zD (qe false 1 [0] (zZ (zF 1) (zC (.int 3))) qP (qy (zO yB (zD (zF 1) (zD (zF 0) zM))))) zM))))
  zJ) zJ)
  (zK (zj (zF 2))
  zJ))))
theorem zKz (W:WOk Tp w) {d:Nat}(hd:9<=d) {yB:zh}(h_evaluate:yN Tp w d (.ref 324) yB):zz Tp w d true zBq.F zBq.nm (zu zBq.st) (zBj yB):=
  (zE (zg (yH W.sys (zQ (v0 1 rfl rfl) zH (fun Z Z=>rfl)) zU rfl) (zE (zP zDY)
  zI) zI)
  (zE (zT 2 rfl zQH (zN rfl) (zL (g0 (W.gn 31 _ _ rfl) (fun Z=>rfl) rfl rfl) (W.kf 29 _ rfl) (zLg W (Nat.le_trans (by decide) hd)) (zA (v0 0 rfl rfl) (zA (zQ (v0 1 rfl rfl) zH (fun Z Z=>rfl)) zG (zB rfl)) (zB rfl)) (zS rfl)) (fun Z=>rfl))
  (zE (zg (yH W.sys (zQ (v0 1 rfl rfl) zH (fun Z Z=>rfl)) zU rfl) (zE (zP (zL (g0 (W.gn 28 _ _ rfl) (fun Z=>rfl) rfl rfl) (W.kf 25 _ rfl) (zJI W (Nat.le_trans (by decide) hd)) (zA (v0 2 rfl rfl) (zA (zBW false (zED (nmc:=["one","run"]) (qB ["run"] (fun Z=>rfl) (by decide +kernel) (fun Z=>rfl)) W.sys (by decide) rfl (zQ (v0 1 rfl rfl) zH (fun Z Z=>rfl)) (zL (g1 (W.gn 30 _ _ rfl) (fun Z=>rfl) rfl rfl rfl) (W.kf 28 _ rfl) h_evaluate (zA (v1 1 rfl rfl rfl) (zA (v1 0 rfl rfl rfl) zG (zB rfl)) (zB rfl)) (zS rfl)) (fun Z Z=>rfl) (.inl ⟨rfl,rfl⟩))) zG (zB rfl)) (zB rfl)) (zS rfl)))
  zI) zI)
  (zE (zP (v0 2 rfl rfl))
  zI))))
def zFi:zX:=(zK (zj (zPD .In (zZ (zF 0) (zC (.int 0))) (zp (zD (zC (.str "var")) (zD (zC (.str "array")) (zD (zC (.str "elem")) (zD (zC (.str "substr")) zM)))))))
  zJ)
theorem zQN (W:WOk Tp w) {d:Nat}(hd:0<=d):zz Tp w d true zBv.F zBv.nm (zu zBv.st) (zFi):=
  (zE (zP (zQY W.sys (zQ (v0 0 rfl rfl) zH (fun Z Z=>rfl)) (zR (zA zU (zA zU (zA zU (zA zU zG (zB rfl)) (zB rfl)) (zB rfl)) (zB rfl))) rfl))
  zI)
def zCz:zh:=yK 1 1 zFi
theorem zNj (W:WOk Tp w) {d:Nat}(hd:1<=d):yQ Tp w d (.ref 357) zCz:=(zb (zf (W.fn 27 _ rfl) zNb) (zQN W (Nat.le_refl _))).up hd
theorem zPR (W:WOk Tp w) {d:Nat}(hd:1<=d):yN Tp w d (.ref 357) zCz:=(zNj W hd).snd
def zEu:zX:=(zK (zj (zZ (zF 1) (zC (.int 2))))
  zJ)
theorem zOR (W:WOk Tp w) {d:Nat}(hd:0<=d):zz Tp w d true zBH.F zBH.nm (zu zBH.st) (zEu):=
  (zE (zP (zQ (v0 1 rfl rfl) zH (fun Z Z=>rfl)))
  zI)
def zAa:zh:=yK 2 2 zEu
theorem zLv (W:WOk Tp w) {d:Nat}(hd:1<=d):yQ Tp w d (.ref 364) zAa:=(zb (zf (W.fn 28 _ rfl) zLj) (zOR W (Nat.le_refl _))).up hd
theorem zNV (W:WOk Tp w) {d:Nat}(hd:1<=d):yN Tp w d (.ref 364) zAa:=(zLv W hd).snd
def zDM (yM:zh):zX:=(zK (zj (yc (zq [313] (zF 0) "memory") (yz 210 "load" qc) (zD (zO yM (zD (zF 0) (zD (zF 1) zM))) zM)))
  zJ)
theorem zOS (W:WOk Tp w) {d:Nat}(hd:11<=d) {yM:zh}(h_place_of:yN Tp w d (.ref 350) yM):zz Tp w d true zBI.F zBI.nm (zu zBI.st) (zDM yM):=
  (zE (zP (yT (zAs (W.mt 0 _ _ _ rfl) (W.kf 13 _ rfl) (zGf W (Nat.le_trans (by decide) hd))) (zd (yP (W.at_ 2 _ _ rfl)) (v0 0 rfl rfl) (fun Z=>rfl)) (zA (zL (g0 (W.gn 32 _ _ rfl) (fun Z=>rfl) rfl rfl) (W.kf 30 _ rfl) h_place_of (zA (v0 0 rfl rfl) (zA (v0 1 rfl rfl) zG (zB rfl)) (zB rfl)) (zS rfl)) zG (zB rfl)) (zS rfl) (fun Z=>⟨_,rfl⟩)))
  zI)
def zJp:zX:=(zK (zw (qH .NotIn (zF 2) (zq [313] (zF 0) "operations")) (zK zBk
  zJ) zJ)
  (zK (zj (zGr (zZ (zq [313] (zF 0) "operations") (zF 2)) zUk (zD (zF 1) (zD (zF 2) (zD (zF 3) (zD (zF 4) (zD (zq [313] (zF 0) "limits") zM)))))))
  zJ))
theorem zWw (W:WOk Tp w) {d:Nat}(hd:11<=d):zz Tp w d true zEh.F zEh.nm (zu zEh.st) (zJp):=
  (zE (zg (yH W.sys (v0 2 rfl rfl) (zd (yP (W.at_ 18 _ _ rfl)) (v0 0 rfl rfl) (fun Z=>rfl)) rfl) (zE (zAO W.exc (W.raise.up (Nat.le_trans (by decide) hd)) (W.kf 0 _ rfl) (g0 (W.gn 59 _ _ rfl) (fun Z=>rfl) rfl rfl))
  zI) zI)
  (zE (zP (zEl (zQ (zd (yP (W.at_ 18 _ _ rfl)) (v0 0 rfl rfl) (fun Z=>rfl)) (v0 2 rfl rfl) (fun Z Z=>rfl)) (zJj W (Nat.le_trans (by decide) hd)) (zA (v0 1 rfl rfl) (zA (v0 2 rfl rfl) (zA (v0 3 rfl rfl) (zA (v0 4 rfl rfl) (zA (zd (yP (W.at_ 3 _ _ rfl)) (v0 0 rfl rfl) (fun Z=>rfl)) zG (zB rfl)) (zB rfl)) (zB rfl)) (zB rfl)) (zB rfl)) (zS rfl) (fun Z=>rfl)))
  zI))
def zEq:zh:=yK 5 5 zJp
theorem zTz (W:WOk Tp w) {d:Nat}(hd:12<=d):yQ Tp w d (.ref 378) zEq:=(zb (zf (W.fn 30 _ rfl) zTw) (zWw W (Nat.le_refl _))).up hd
theorem zPU (W:WOk Tp w) {d:Nat}(hd:12<=d):yN Tp w d (.ref 378) zEq:=(zTz W hd).snd
def zCj (yB:zh):zX:=(zK (zx 2 (zO yB (zD (zF 0) (zD (zZ (zF 1) (zC (.int 2))) zM))))
  (zK (zx 3 (zO yB (zD (zF 0) (zD (zZ (zF 1) (zC (.int 3))) zM))))
  (zK (zj (zO zEq (zD (zF 0) (zD (zZ (zF 1) (zC (.int 0))) (zD (zZ (zF 1) (zC (.int 1))) (zD (zF 2) (zD (zF 3) zM)))))))
  zJ)))
theorem zML (W:WOk Tp w) {d:Nat}(hd:12<=d) {yB:zh}(h_evaluate:yN Tp w d (.ref 324) yB):zz Tp w d true zAA.F zAA.nm (zu zAA.st) (zCj yB):=
  (zE (zT 2 rfl zFw (zN rfl) (zL (g0 (W.gn 30 _ _ rfl) (fun Z=>rfl) rfl rfl) (W.kf 28 _ rfl) h_evaluate (zA (v0 0 rfl rfl) (zA (zQ (v0 1 rfl rfl) zH (fun Z Z=>rfl)) zG (zB rfl)) (zB rfl)) (zS rfl)) (fun Z=>rfl))
  (zE (zT 3 rfl zFw (zN rfl) (zL (g0 (W.gn 30 _ _ rfl) (fun Z=>rfl) rfl rfl) (W.kf 28 _ rfl) h_evaluate (zA (v0 0 rfl rfl) (zA (zQ (v0 1 rfl rfl) zH (fun Z Z=>rfl)) zG (zB rfl)) (zB rfl)) (zS rfl)) (fun Z=>rfl))
  (zE (zP (zL (g0 (W.gn 36 _ _ rfl) (fun Z=>rfl) rfl rfl) (W.kf 34 _ rfl) (zPU W (Nat.le_trans (by decide) hd)) (zA (v0 0 rfl rfl) (zA (zQ (v0 1 rfl rfl) zH (fun Z Z=>rfl)) (zA (zQ (v0 1 rfl rfl) zH (fun Z Z=>rfl)) (zA (v0 2 rfl rfl) (zA (v0 3 rfl rfl) zG (zB rfl)) (zB rfl)) (zB rfl)) (zB rfl)) (zB rfl)) (zS rfl)))
  zI)))
def yB:Nat->zh
  | 0=>fun Z Z Z Z=>False
  | n+1=>yK 2 2 (zEv (zJZ [(364,zAa),(371,yK 2 2 (zDM (yK 2 3 (zBj (yB n))))),(385,yK 2 4 (zCj (yB n)))]))
def yM (n:Nat):zh:=yK 2 3 (zBj (yB n))
theorem zBl (W:WOk Tp w):∀(n:Nat) {d:Nat}(hd:60+3 * n<=d),yN Tp w d (.ref 324) (yB n)
  | 0,_,_=>zJf
  | n+1,d,hd=>(zCQ (zf (W.fn 24 _ rfl) zPW) (zRs (d:=60+3 * n+2) W (by lia) (zJi (W.kf 32 _ rfl) (zNV W (by lia)) (zJi (W.kf 33 _ rfl)
      ((zCQ (zf (W.fn 29 _ rfl) zLk) (zOS (d:=60+3 * n+1) W (by lia) ((zCQ (zf (W.fn 26 _ rfl) zIp) (zKz (d:=60+3 * n) W (by lia) (zBl W n (Nat.le_refl _)))).up (Nat.le_refl _)))).up (Nat.le_refl _))
      (zJi (W.kf 35 _ rfl) ((zCQ (zf (W.fn 31 _ rfl) zKP) (zML (d:=60+3 * n) W (by lia) (zBl W n (Nat.le_refl _)))).up (by lia)) zXP))))).up (by lia)
theorem zFG (W:WOk Tp w) (n:Nat) {d:Nat}(hd:61+3 * n<=d):yN Tp w d (.ref 350) (yM n):=
  (zCQ (zf (W.fn 26 _ rfl) zIp) (zKz (d:=60+3 * n) W (by lia) (zBl W n (Nat.le_refl _)))).up (by lia)
def zBQ:zX:=(zK (zx 0 (zHQ .cell (yj (zC (.str "const")) (zC (.glob (.ref 364))) (yj (zC (.str "var")) (zC (.glob (.ref 371))) (yj (zC (.str "elem")) (zC (.glob (.ref 371))) zHS)))))
  (zK (zFa (yv 1) (zp (zD (zC (.str "add")) (zD (zC (.str "sub")) (zD (zC (.str "mul")) (zD (zC (.str "div")) (zD (zC (.str "pow")) (zD (zC (.str "powi")) (zD (zC (.str "and")) (zD (zC (.str "or")) (zD (zC (.str "eqv")) (zD (zC (.str "neqv")) zM))))))))))) (zK (zCY (zF 0) (zF 1) (zC (.glob (.ref 385))))
  zJ))
  (zK (zFa (yv 1) (zp (zD (zC (.str "eq")) (zD (zC (.str "ne")) (zD (zC (.str "lt")) (zD (zC (.str "le")) (zD (zC (.str "gt")) (zD (zC (.str "ge")) zM))))))) (zK (zCY (zF 0) (zF 1) (zC (.glob (.ref 392))))
  zJ))
  (zK (zj (zF 0))
  zJ))))
theorem zGd (W:WOk Tp w) {d:Nat}(hd:0<=d):zz Tp w d true yn.F yn.nm (zu yn.st) (zBQ):=
  (zE (zT 0 rfl zAt (zN rfl) (zXD W.sys (yd zU (g0 (W.gn 34 _ _ rfl) (fun Z=>rfl) rfl rfl) (yd zU (g0 (W.gn 35 _ _ rfl) (fun Z=>rfl) rfl rfl) (yd zU (g0 (W.gn 35 _ _ rfl) (fun Z=>rfl) rfl rfl) zGC))) (by decide) (by decide)) (fun Z=>rfl))
  (zE (zCp W.sys (zAi 1 rfl zAt (zN rfl)) (zR (zA zU (zA zU (zA zU (zA zU (zA zU (zA zU (zA zU (zA zU (zA zU (zA zU zG (zB rfl)) (zB rfl)) (zB rfl)) (zB rfl)) (zB rfl)) (zB rfl)) (zB rfl)) (zB rfl)) (zB rfl)) (zB rfl))) (zE (zBC (v0 0 rfl rfl) (v0 1 rfl rfl) (g0 (W.gn 37 _ _ rfl) (fun Z=>rfl) rfl rfl) (fun Z=>rfl))
  zI) (fun Z Z=>rfl))
  (zE (zCp W.sys (zAi 1 rfl zAt (zN rfl)) (zR (zA zU (zA zU (zA zU (zA zU (zA zU (zA zU zG (zB rfl)) (zB rfl)) (zB rfl)) (zB rfl)) (zB rfl)) (zB rfl))) (zE (zBC (v0 0 rfl rfl) (v0 1 rfl rfl) (g0 (W.gn 38 _ _ rfl) (fun Z=>rfl) rfl rfl) (fun Z=>rfl))
  zI) (fun Z Z=>rfl))
  (zE (zP (v0 0 rfl rfl))
  zI))))
def y0:zh:=yK 0 2 zBQ
theorem zFp (W:WOk Tp w) {d:Nat}(hd:1<=d):yQ Tp w d (.ref 399) y0:=(zb (zf (W.fn 32 _ rfl) zFo) (zGd W (Nat.le_refl _))).up hd
theorem zGZ (W:WOk Tp w) {d:Nat}(hd:1<=d):yN Tp w d (.ref 399) y0:=(zFp W hd).snd
def zEt:zX:=(zK (yp [416] (zF 0) "items" (zF 1))
  (zK (yp [416] (zF 0) "at" (zC (.int 0)))
  (zK (yp [416] (zF 0) "target" (zF 2))
  (zK (yp [416] (zF 0) "step" (zF 3))
  (zK (yp [416] (zF 0) "count" (zF 4))
  zJ)))))
theorem zOP (W:WOk Tp w) {d:Nat}(hd:0<=d):zz Tp w d true zBG.F zBG.nm (zu zBG.st) (zEt):=
  (zE (zr (yP (W.at_ 19 _ _ rfl)) (v0 0 rfl rfl) (v0 1 rfl rfl) (fun Z=>rfl))
  (zE (zr (yP (W.at_ 20 _ _ rfl)) (v0 0 rfl rfl) zH (fun Z=>rfl))
  (zE (zr (yP (W.at_ 21 _ _ rfl)) (v0 0 rfl rfl) (v0 2 rfl rfl) (fun Z=>rfl))
  (zE (zr (yP (W.at_ 22 _ _ rfl)) (v0 0 rfl rfl) (v0 3 rfl rfl) (fun Z=>rfl))
  (zE (zr (yP (W.at_ 23 _ _ rfl)) (v0 0 rfl rfl) (v0 4 rfl rfl) (fun Z=>rfl))
  zI)))))
def zFO:zh:=yK 5 5 zEt
theorem zLt (W:WOk Tp w) {d:Nat}(hd:1<=d):yQ Tp w d (.ref 413) zFO:=(zb (zf (W.fn 33 _ rfl) zLh) (zOP W (Nat.le_refl _))).up hd
def zHn:zh:=zUm 416 zFO
theorem zSa (W:WOk Tp w) {d:Nat}(hd:2<=d):yN Tp w d (.ref 416) zHn:=(zHj (W.cl 2 _ _ rfl) (zLt W (Nat.le_refl _))).up hd
def zHK:zX:=(zK (zFc [2,3,4,5,6,7] (zF 1))
  (zK (zx 8 (zO (yB 4) (zD (zF 0) (zD (zF 5) zM))))
  (zK (zx 9 (zO (yB 4) (zD (zF 0) (zD (zF 6) zM))))
  (zK (zx 10 (zO (yB 4) (zD (zF 0) (zD (zF 7) zM))))
  (zK (zx 11 (zO zBO (zD (zZ (zF 4) (zC (.int 1))) (zD (zF 8) (zD (zF 9) (zD (zF 10) (zD (zq [313] (zF 0) "operations") (zD (zq [313] (zF 0) "limits") zM))))))))
  (zK (qZ (yc (zq [313] (zF 0) "memory") (yz 210 "store" zs) (zD (zO (yM 4) (zD (zF 0) (zD (zF 4) zM))) (zD (zF 8) zM))))
  (zK (zj (zO zHn (zD (zF 3) (zD (zF 4) (zD (zF 10) (zD (zF 11) zM))))))
  zJ)))))))
theorem zOQ (W:WOk Tp w) {d:Nat}(hd:80<=d):zz Tp w d true zAU.F zAU.nm (zu zAU.st) (zHK):=
  (zE (zZX rfl (zN rfl) rfl (zN rfl) rfl (zN rfl) rfl (zN rfl) rfl (zN rfl) rfl (zN rfl) zBU (v0 1 rfl rfl) (fun Z=>rfl) (fun Z=>rfl))
  (zE (zT 8 rfl zBU (zN rfl) (zL (g0 (W.gn 30 _ _ rfl) (fun Z=>rfl) rfl rfl) (W.kf 28 _ rfl) (zBl W 4 (Nat.le_trans (by decide) hd)) (zA (v0 0 rfl rfl) (zA (v0 5 rfl rfl) zG (zB rfl)) (zB rfl)) (zS rfl)) (fun Z=>rfl))
  (zE (zT 9 rfl zBU (zN rfl) (zL (g0 (W.gn 30 _ _ rfl) (fun Z=>rfl) rfl rfl) (W.kf 28 _ rfl) (zBl W 4 (Nat.le_trans (by decide) hd)) (zA (v0 0 rfl rfl) (zA (v0 6 rfl rfl) zG (zB rfl)) (zB rfl)) (zS rfl)) (fun Z=>rfl))
  (zE (zT 10 rfl zBU (zN rfl) (zL (g0 (W.gn 30 _ _ rfl) (fun Z=>rfl) rfl rfl) (W.kf 28 _ rfl) (zBl W 4 (Nat.le_trans (by decide) hd)) (zA (v0 0 rfl rfl) (zA (v0 7 rfl rfl) zG (zB rfl)) (zB rfl)) (zS rfl)) (fun Z=>rfl))
  (zE (zT 11 rfl zBU (zN rfl) (zL (g0 (W.gn 18 _ _ rfl) (fun Z=>rfl) rfl rfl) (W.kf 12 _ rfl) (zNZ W (Nat.le_trans (by decide) hd)) (zA (zQ (v0 4 rfl rfl) zH (fun Z Z=>rfl)) (zA (v0 8 rfl rfl) (zA (v0 9 rfl rfl) (zA (v0 10 rfl rfl) (zA (zd (yP (W.at_ 18 _ _ rfl)) (v0 0 rfl rfl) (fun Z=>rfl)) (zA (zd (yP (W.at_ 3 _ _ rfl)) (v0 0 rfl rfl) (fun Z=>rfl)) zG (zB rfl)) (zB rfl)) (zB rfl)) (zB rfl)) (zB rfl)) (zB rfl)) (zS rfl)) (fun Z=>rfl))
  (zE (yq (yT (zAs (W.mt 1 _ _ _ rfl) (W.kf 14 _ rfl) (zCG W (Nat.le_trans (by decide) hd))) (zd (yP (W.at_ 2 _ _ rfl)) (v0 0 rfl rfl) (fun Z=>rfl)) (zA (zL (g0 (W.gn 32 _ _ rfl) (fun Z=>rfl) rfl rfl) (W.kf 30 _ rfl) (zFG W 4 (Nat.le_trans (by decide) hd)) (zA (v0 0 rfl rfl) (zA (v0 4 rfl rfl) zG (zB rfl)) (zB rfl)) (zS rfl)) (zA (v0 8 rfl rfl) zG (zB rfl)) (zB rfl)) (zS rfl) (fun Z=>⟨_,rfl⟩)) (fun Z=>rfl) (fun Z=>rfl))
  (zE (zP (zL (g0 (W.gn 62 _ _ rfl) (fun Z=>rfl) rfl rfl) (W.kf 38 _ rfl) (zSa W (Nat.le_trans (by decide) hd)) (zA (v0 3 rfl rfl) (zA (v0 4 rfl rfl) (zA (v0 10 rfl rfl) (zA (v0 11 rfl rfl) zG (zB rfl)) (zB rfl)) (zB rfl)) (zB rfl)) (zS rfl)))
  zI)))))))
def zDR:zh:=yK 2 12 zHK
theorem zLu (W:WOk Tp w) {d:Nat}(hd:81<=d):yQ Tp w d (.ref 427) zDR:=(zb (zf (W.fn 34 _ rfl) zLi) (zOQ W (Nat.le_refl _))).up hd
theorem zNU (W:WOk Tp w) {d:Nat}(hd:81<=d):yN Tp w d (.ref 427) zDR:=(zLu W hd).snd
def zDz:zX:=(zK (zx 2 (zO (yM 4) (zD (zF 0) (zD (zq [416] (zF 1) "target") zM))))
  (zK (qZ (yc (zq [313] (zF 0) "memory") (yz 210 "store" zs) (zD (zF 2) (zD (zO zEq (zD (zF 0) (zD (zC (.str "add")) (zD (zZ (zq [416] (zF 1) "target") (zC (.int 1))) (zD (yc (zq [313] (zF 0) "memory") (yz 210 "load" qc) (zD (zF 2) zM)) (zD (zq [416] (zF 1) "step") zM)))))) zM))))
  (zK (zPA [416] (zF 1) "count" .Sub (zC (.int 1)))
  (zK (yp [416] (zF 1) "at" (zC (.int 0)))
  zJ))))
theorem zQM (W:WOk Tp w) {d:Nat}(hd:78<=d):zz Tp w d true zAv.F zAv.nm (zu zAv.st) (zDz):=
  (zE (zT 2 rfl zOF (zN rfl) (zL (g0 (W.gn 32 _ _ rfl) (fun Z=>rfl) rfl rfl) (W.kf 30 _ rfl) (zFG W 4 (Nat.le_trans (by decide) hd)) (zA (v0 0 rfl rfl) (zA (zd (yP (W.at_ 21 _ _ rfl)) (v0 1 rfl rfl) (fun Z=>rfl)) zG (zB rfl)) (zB rfl)) (zS rfl)) (fun Z=>rfl))
  (zE (yq (yT (zAs (W.mt 1 _ _ _ rfl) (W.kf 14 _ rfl) (zCG W (Nat.le_trans (by decide) hd))) (zd (yP (W.at_ 2 _ _ rfl)) (v0 0 rfl rfl) (fun Z=>rfl)) (zA (v0 2 rfl rfl) (zA (zL (g0 (W.gn 36 _ _ rfl) (fun Z=>rfl) rfl rfl) (W.kf 34 _ rfl) (zPU W (Nat.le_trans (by decide) hd)) (zA (v0 0 rfl rfl) (zA zU (zA (zQ (zd (yP (W.at_ 21 _ _ rfl)) (v0 1 rfl rfl) (fun Z=>rfl)) zH (fun Z Z=>rfl)) (zA (yT (zAs (W.mt 0 _ _ _ rfl) (W.kf 13 _ rfl) (zGf W (Nat.le_trans (by decide) hd))) (zd (yP (W.at_ 2 _ _ rfl)) (v0 0 rfl rfl) (fun Z=>rfl)) (zA (v0 2 rfl rfl) zG (zB rfl)) (zS rfl) (fun Z=>⟨_,rfl⟩)) (zA (zd (yP (W.at_ 22 _ _ rfl)) (v0 1 rfl rfl) (fun Z=>rfl)) zG (zB rfl)) (zB rfl)) (zB rfl)) (zB rfl)) (zB rfl)) (zS rfl)) zG (zB rfl)) (zB rfl)) (zS rfl) (fun Z=>⟨_,rfl⟩)) (fun Z=>rfl) (fun Z=>rfl))
  (zE (zQX (yP (W.at_ 23 _ _ rfl)) (v0 1 rfl rfl) zH)
  (zE (zr (yP (W.at_ 20 _ _ rfl)) (v0 1 rfl rfl) zH (fun Z=>rfl))
  zI))))
def qr:zh:=yK 2 3 zDz
theorem zNi (W:WOk Tp w) {d:Nat}(hd:79<=d):yQ Tp w d (.ref 434) qr:=(zb (zf (W.fn 35 _ rfl) zNa) (zQM W (Nat.le_refl _))).up hd
theorem zPQ (W:WOk Tp w) {d:Nat}(hd:79<=d):yN Tp w d (.ref 434) qr:=(zNi W hd).snd
def zDE:zX:=(zK (yp [465] (zF 0) "run" (zF 1))
  (zK (yp [465] (zF 0) "levels" (zHR (zD (zO zHn (zD (zF 2) (zD (zC .none) (zD (zC .none) (zD (zC (.int 1)) zM))))) zM)))
  (zK (yp [465] (zF 0) "elements" (zHR zM))
  zJ)))
theorem zJV (W:WOk Tp w) {d:Nat}(hd:2<=d):zz Tp w d true ql.F ql.nm (zu ql.st) (zDE):=
  (zE (zr (yP (W.at_ 24 _ _ rfl)) (v0 0 rfl rfl) (v0 1 rfl rfl) (fun Z=>rfl))
  (zE (zr (yP (W.at_ 25 _ _ rfl)) (v0 0 rfl rfl) (zFN (zA (zL (g0 (W.gn 62 _ _ rfl) (fun Z=>rfl) rfl rfl) (W.kf 38 _ rfl) (zSa W (Nat.le_trans (by decide) hd)) (zA (v0 2 rfl rfl) (zA zv (zA zv (zA zH zG (zB rfl)) (zB rfl)) (zB rfl)) (zB rfl)) (zS rfl)) zG (zB rfl))) (fun Z=>rfl))
  (zE (zr (yP (W.at_ 26 _ _ rfl)) (v0 0 rfl rfl) (zFN zG) (fun Z=>rfl))
  zI)))
def zDJ:zh:=yK 3 3 zDE
theorem zIQ (W:WOk Tp w) {d:Nat}(hd:3<=d):yQ Tp w d (.ref 448) zDJ:=(zb (zf (W.fn 36 _ rfl) zIM) (zJV W (Nat.le_refl _))).up hd
def zBr:zh:=zUm 465 zDJ
theorem zKH (W:WOk Tp w) {d:Nat}(hd:4<=d):yN Tp w d (.ref 465) zBr:=(zHj (W.cl 3 _ _ rfl) (zIQ W (Nat.le_refl _))).up hd
def zFS:zX:=(zK (zw (qH .Eq (zZ (zF 1) (zC (.int 0))) (zC (.str "ido"))) (zK (qZ (yc (zq [465] (zF 0) "levels") qY (zD (zO zDR (zD (zq [465] (zF 0) "run") (zD (zF 1) zM))) zM)))
  zJ) (zK (zw (qH .Eq (zZ (zF 1) (zC (.int 0))) (zC (.str "array"))) (zK (yp [465] (zF 0) "elements" (zO zBX (zD (zO (yM 4) (zD (zq [465] (zF 0) "run") (zD (zF 1) zM))) zM)))
  (zK (qZ (yc (zq [465] (zF 0) "elements") zIv zM))
  zJ)) (zK (zw (zCt (zO zCz (zD (zF 1) zM))) (zK (zx 2 (zO (yM 4) (zD (zq [465] (zF 0) "run") (zD (zF 1) zM))))
  (zK (zj (zp (zD (zZ (zF 2) (zC (.int 0))) (zD (zF 2) (zD (zC .none) zM)))))
  zJ)) (zK (zj (zp (zD (zZ (zF 1) (zC (.int 1))) (zD (zC .none) (zD (zF 1) zM)))))
  zJ))
  zJ))
  zJ))
  (zK (zj (zC .none))
  zJ))
theorem zJX (W:WOk Tp w) {d:Nat}(hd:81<=d):zz Tp w d true qW.F qW.nm (zu qW.st) (zFS):=
  (zE (zg (yH W.sys (zQ (v0 1 rfl rfl) zH (fun Z Z=>rfl)) zU rfl) (zE (yq (yT zBu (zd (yP (W.at_ 25 _ _ rfl)) (v0 0 rfl rfl) (fun Z=>rfl)) (zA (zL (g0 (W.gn 40 _ _ rfl) (fun Z=>rfl) rfl rfl) (W.kf 39 _ rfl) (zNU W (Nat.le_trans (by decide) hd)) (zA (zd (yP (W.at_ 24 _ _ rfl)) (v0 0 rfl rfl) (fun Z=>rfl)) (zA (v0 1 rfl rfl) zG (zB rfl)) (zB rfl)) (zS rfl)) zG (zB rfl)) (zS rfl) (fun Z=>⟨_,rfl⟩)) (fun Z=>rfl) (fun Z=>rfl))
  zI) (zE (zg (yH W.sys (zQ (v0 1 rfl rfl) zH (fun Z Z=>rfl)) zU rfl) (zE (zr (yP (W.at_ 26 _ _ rfl)) (v0 0 rfl rfl) (zL (g0 (W.gn 29 _ _ rfl) (fun Z=>rfl) rfl rfl) (W.kf 26 _ rfl) (zLe W (Nat.le_trans (by decide) hd)) (zA (zL (g0 (W.gn 32 _ _ rfl) (fun Z=>rfl) rfl rfl) (W.kf 30 _ rfl) (zFG W 4 (Nat.le_trans (by decide) hd)) (zA (zd (yP (W.at_ 24 _ _ rfl)) (v0 0 rfl rfl) (fun Z=>rfl)) (zA (v0 1 rfl rfl) zG (zB rfl)) (zB rfl)) (zS rfl)) zG (zB rfl)) (zS rfl)) (fun Z=>rfl))
  (zE (yq (yT zOD (zd (yP (W.at_ 26 _ _ rfl)) (v0 0 rfl rfl) (fun Z=>rfl)) zG zDd (fun Z=>⟨_,rfl⟩)) (fun Z=>rfl) (fun Z=>rfl))
  zI)) (zE (zg (zAM (zL (g0 (W.gn 33 _ _ rfl) (fun Z=>rfl) rfl rfl) (W.kf 31 _ rfl) (zPR W (Nat.le_trans (by decide) hd)) (zA (v0 1 rfl rfl) zG (zB rfl)) (zS rfl)) (fun Z Z=>rfl)) (zE (zT 2 rfl zIa (zN rfl) (zL (g0 (W.gn 32 _ _ rfl) (fun Z=>rfl) rfl rfl) (W.kf 30 _ rfl) (zFG W 4 (Nat.le_trans (by decide) hd)) (zA (zd (yP (W.at_ 24 _ _ rfl)) (v0 0 rfl rfl) (fun Z=>rfl)) (zA (v0 1 rfl rfl) zG (zB rfl)) (zB rfl)) (zS rfl)) (fun Z=>rfl))
  (zE (zP (zR (zA (zQ (v0 2 rfl rfl) zH (fun Z Z=>rfl)) (zA (v0 2 rfl rfl) (zA zv zG (zB rfl)) (zB rfl)) (zB rfl))))
  zI)) (zE (zP (zR (zA (zQ (v0 1 rfl rfl) zH (fun Z Z=>rfl)) (zA zv (zA (v0 1 rfl rfl) zG (zB rfl)) (zB rfl)) (zB rfl))))
  zI))
  zI))
  zI))
  (zE (zP zv)
  zI))
def yh:zh:=yK 2 3 zFS
theorem zIS (W:WOk Tp w) {d:Nat}(hd:82<=d):yQ Tp w d (.ref 462) yh:=(zb (zf (W.fn 37 _ rfl) zIO) (zJX W (Nat.le_refl _))).up hd
theorem zJH (W:WOk Tp w) {d:Nat}(hd:82<=d):yN Tp w d (.ref 462) yh:=(zIS W hd).snd
def zDF:zX:=(zK (zGv (bor [(zCt (zq [465] (zF 0) "elements")),(zCt (zq [465] (zF 0) "levels"))]) (zK (zw (zCt (zq [465] (zF 0) "elements")) (zK (zx 1 (yc (zq [465] (zF 0) "elements") zFL zM))
  (zK (zj (zp (zD (zZ (zF 1) (zC (.int 0))) (zD (zF 1) (zD (zC .none) zM)))))
  zJ)) zJ)
  (zK (zx 2 (zZ (zq [465] (zF 0) "levels") (zII (zC (.int 1)))))
  (zK (zw (yA .Eq (zq [416] (zF 2) "count") (zC (.int 0))) (zK (qZ (yc (zq [465] (zF 0) "levels") zFL zM))
  zJ) (zK (zw (yA .Eq (zq [416] (zF 2) "at") (zO qw (zD (zq [416] (zF 2) "items") zM))) (zK (zw (yA .Is (zq [416] (zF 2) "target") (zC .none)) (zK (qZ (yc (zq [465] (zF 0) "levels") zFL zM))
  zJ) (zK (qZ (zO qr (zD (zq [465] (zF 0) "run") (zD (zF 2) zM))))
  zJ))
  zJ) (zK (zPA [416] (zF 2) "at" .Add (zC (.int 1)))
  (zK (zx 3 (yc (zF 0) (yz 465 "take" yh) (zD (zZ (zq [416] (zF 2) "items") (ye .Sub (zq [416] (zF 2) "at") (zC (.int 1)))) zM)))
  (zK (zw (yA .IsNot (zF 3) (zC .none)) (zK (zj (zF 3))
  zJ) zJ)
  zJ))))
  zJ))
  zJ))))
  (zK (zj (zC .none))
  zJ))
theorem zJW (W:WOk Tp w) {d:Nat}(hd:82<=d):zz Tp w d true qV.F qV.nm (zu qV.st) (zDF):=
  (zE (zIf (zBM (.cons (zAM (zd (yP (W.at_ 26 _ _ rfl)) (v0 0 rfl rfl) (fun Z=>rfl)) (fun Z Z=>rfl)) (.cons (zAM (zd (yP (W.at_ 25 _ _ rfl)) (v0 0 rfl rfl) (fun Z=>rfl)) (fun Z Z=>rfl)) .nil))) (zE (zg (zAM (zd (yP (W.at_ 26 _ _ rfl)) (v0 0 rfl rfl) (fun Z=>rfl)) (fun Z Z=>rfl)) (zE (zT 1 rfl zCa (zN rfl) (yT zHb (zd (yP (W.at_ 26 _ _ rfl)) (v0 0 rfl rfl) (fun Z=>rfl)) zG zDd (fun Z=>⟨_,rfl⟩)) (fun Z=>rfl))
  (zE (zP (zR (zA (zQ (v0 1 rfl rfl) zH (fun Z Z=>rfl)) (zA (v0 1 rfl rfl) (zA zv zG (zB rfl)) (zB rfl)) (zB rfl))))
  zI)) zI)
  (zE (zT 2 rfl zCa (zN rfl) (zQ (zd (yP (W.at_ 25 _ _ rfl)) (v0 0 rfl rfl) (fun Z=>rfl)) (zEJ zH) (fun Z Z=>rfl)) (fun Z=>rfl))
  (zE (zg (za (zd (yP (W.at_ 23 _ _ rfl)) (v0 2 rfl rfl) (fun Z=>rfl)) zH rfl) (zE (yq (yT zHb (zd (yP (W.at_ 25 _ _ rfl)) (v0 0 rfl rfl) (fun Z=>rfl)) zG zDd (fun Z=>⟨_,rfl⟩)) (fun Z=>rfl) (fun Z=>rfl))
  zI) (zE (zg (za (zd (yP (W.at_ 20 _ _ rfl)) (v0 2 rfl rfl) (fun Z=>rfl)) (zL (b0 (W.bn 0 _ _ rfl) (fun Z=>rfl) rfl rfl) (zY _) qK (zA (zd (yP (W.at_ 19 _ _ rfl)) (v0 2 rfl rfl) (fun Z=>rfl)) zG (zB rfl)) (zS rfl)) rfl) (zE (zg (za (zd (yP (W.at_ 21 _ _ rfl)) (v0 2 rfl rfl) (fun Z=>rfl)) zv rfl) (zE (yq (yT zHb (zd (yP (W.at_ 25 _ _ rfl)) (v0 0 rfl rfl) (fun Z=>rfl)) zG zDd (fun Z=>⟨_,rfl⟩)) (fun Z=>rfl) (fun Z=>rfl))
  zI) (zE (yq (zL (g0 (W.gn 41 _ _ rfl) (fun Z=>rfl) rfl rfl) (W.kf 40 _ rfl) (zPQ W (Nat.le_trans (by decide) hd)) (zA (zd (yP (W.at_ 24 _ _ rfl)) (v0 0 rfl rfl) (fun Z=>rfl)) (zA (v0 2 rfl rfl) zG (zB rfl)) (zB rfl)) (zS rfl)) (fun Z=>rfl) (fun Z=>rfl))
  zI))
  zI) (zE (zQX (yP (W.at_ 20 _ _ rfl)) (v0 2 rfl rfl) zH)
  (zE (zT 3 rfl zCa (zN rfl) (yT (zAs (W.mt 3 _ _ _ rfl) (W.kf 42 _ rfl) (zJH W (Nat.le_trans (by decide) hd))) (v0 0 rfl rfl) (zA (zQ (zd (yP (W.at_ 19 _ _ rfl)) (v0 2 rfl rfl) (fun Z=>rfl)) (zl (zd (yP (W.at_ 20 _ _ rfl)) (v0 2 rfl rfl) (fun Z=>rfl)) zH) (fun Z Z=>rfl)) zG (zB rfl)) (zS rfl) (fun Z=>⟨_,rfl⟩)) (fun Z=>rfl))
  (zE (zg (za (v0 3 rfl rfl) zv rfl) (zE (zP (v0 3 rfl rfl))
  zI) zI)
  zI))))
  zI))
  zI))))
  (zE (zP zv)
  zI))
def zk:zh:=yK 1 4 zDF
theorem zIR (W:WOk Tp w) {d:Nat}(hd:83<=d):yQ Tp w d (.ref 455) zk:=(zb (zf (W.fn 38 _ rfl) zIN) (zJW W (Nat.le_refl _))).up hd
theorem zBe (W:WOk Tp w) {d:Nat}(hd:83<=d):yN Tp w d (.ref 455) zk:=(zIR W hd).snd
def zJq:zX:=(zK (zx 2 (zO zBr (zD (zF 0) (zD (zF 1) zM))))
  (zK (zx 3 (zHR zM))
  (zK (zx 4 (yc (zF 2) (yz 465 "next" zk) zM))
  (zK (zGv (yA .IsNot (zF 4) (zC .none)) (zK (qZ (yc (zF 3) qY (zD (zF 4) zM)))
  (zK (zx 4 (yc (zF 2) (yz 465 "next" zk) zM))
  zJ)))
  (zK (zj (zF 3))
  zJ)))))
theorem zWx (W:WOk Tp w) {d:Nat}(hd:83<=d):zz Tp w d true zDv.F zDv.nm (zu zDv.st) (zJq):=
  (zE (zT 2 rfl zGO (zN rfl) (zL (g0 (W.gn 63 _ _ rfl) (fun Z=>rfl) rfl rfl) (W.kf 43 _ rfl) (zKH W (Nat.le_trans (by decide) hd)) (zA (v0 0 rfl rfl) (zA (v0 1 rfl rfl) zG (zB rfl)) (zB rfl)) (zS rfl)) (fun Z=>rfl))
  (zE (zT 3 rfl zGO (zN rfl) (zFN zG) (fun Z=>rfl))
  (zE (zT 4 rfl zGO (zN rfl) (yT (zAs (W.mt 2 _ _ _ rfl) (W.kf 41 _ rfl) (zBe W (Nat.le_trans (by decide) hd))) (v0 2 rfl rfl) zG zDd (fun Z=>⟨_,rfl⟩)) (fun Z=>rfl))
  (zE (zIf (za (v0 4 rfl rfl) zv rfl) (zE (yq (yT zBu (v0 3 rfl rfl) (zA (v0 4 rfl rfl) zG (zB rfl)) (zS rfl) (fun Z=>⟨_,rfl⟩)) (fun Z=>rfl) (fun Z=>rfl))
  (zE (zT 4 rfl zGO (zN rfl) (yT (zAs (W.mt 2 _ _ _ rfl) (W.kf 41 _ rfl) (zBe W (Nat.le_trans (by decide) hd))) (v0 2 rfl rfl) zG zDd (fun Z=>⟨_,rfl⟩)) (fun Z=>rfl))
  zI)))
  (zE (zP (v0 3 rfl rfl))
  zI)))))
def zDA:zh:=yK 2 5 zJq
theorem zUA (W:WOk Tp w) {d:Nat}(hd:84<=d):yQ Tp w d (.ref 476) zDA:=(zb (zf (W.fn 39 _ rfl) zTx) (zWx W (Nat.le_refl _))).up hd
theorem zVi (W:WOk Tp w) {d:Nat}(hd:84<=d):yN Tp w d (.ref 476) zDA:=(zUA W hd).snd
def zJn:zX:=(zK (zj (zHQ .dct (yj (zC (.str "A")) (zp (zD (zp (zD (zC (.int 0)) (zD (zC (.int 2)) zM))) zM)) (yj (zC (.str "B")) (zp (zD (zp (zD (zC (.int 2)) (zD (zC (.int 3)) zM))) (zD (zp (zD (zII (zC (.int 1))) (zD (zC (.int 1)) zM))) zM))) (yj (zC (.str "T")) (zp (zD (zp (zD (zC (.int 1)) (zD (zC (.int 2)) zM))) zM)) zHS)))))
  zJ)
theorem zRt (W:WOk Tp w) {d:Nat}(hd:0<=d):zz Tp w d true zBm.F zBm.nm (zu zBm.st) (zJn):=
  (zE (zP (zXD W.sys (yd zU (zR (zA (zR (zA zH (zA zH zG (zB rfl)) (zB rfl))) zG (zB rfl))) (yd zU (zR (zA (zR (zA zH (zA zH zG (zB rfl)) (zB rfl))) (zA (zR (zA (zEJ zH) (zA zH zG (zB rfl)) (zB rfl))) zG (zB rfl)) (zB rfl))) (yd zU (zR (zA (zR (zA zH (zA zH zG (zB rfl)) (zB rfl))) zG (zB rfl))) zGC))) (by decide) (by decide)))
  zI)
def zFP:zh:=yK 0 0 zJn
theorem zPd (W:WOk Tp w) {d:Nat}(hd:1<=d):yQ Tp w d (.ref 505) zFP:=(zb (zf (W.fn 41 _ rfl) zPX) (zRt W (Nat.le_refl _))).up hd
theorem zRL (W:WOk Tp w) {d:Nat}(hd:1<=d):yN Tp w d (.ref 505) zFP:=(zPd W hd).snd
def zHL:zX:=(zK (zj (zHQ .dct (yj (zC (.str "I")) (zp (zD (zC (.int 0)) (zD (zC (.int 0)) (zD (zC (.int 0)) (zD (zp zM) zM))))) (yj (zC (.str "J")) (zp (zD (zC (.int 0)) (zD (zC (.int 1)) (zD (zC (.int 0)) (zD (zp zM) zM))))) (yj (zC (.str "N")) (zp (zD (zC (.int 0)) (zD (zC (.int 2)) (zD (zC (.int 0)) (zD (zp zM) zM))))) (yj (zC (.str "A")) (zp (zD (zC (.int 0)) (zD (zC (.int 3)) (zD (zC (.int 0)) (zD (zp (zD (zp (zD (zC (.int 0)) (zD (zC (.int 2)) zM))) zM)) zM))))) (yj (zC (.str "B")) (zp (zD (zC (.int 0)) (zD (zC (.int 6)) (zD (zC (.int 0)) (zD (zp (zD (zp (zD (zC (.int 2)) (zD (zC (.int 3)) zM))) (zD (zp (zD (zII (zC (.int 1))) (zD (zC (.int 1)) zM))) zM))) zM))))) (yj (zC (.str "T")) (zp (zD (zC (.int 5)) (zD (zC (.int 0)) (zD (zC (.int 2)) (zD (zp (zD (zp (zD (zC (.int 1)) (zD (zC (.int 2)) zM))) zM)) zM))))) zHS))))))))
  zJ)
theorem zOV (W:WOk Tp w) {d:Nat}(hd:0<=d):zz Tp w d true zBK.F zBK.nm (zu zBK.st) (zHL):=
  (zE (zP (zXD W.sys (yd zU (zR (zA zH (zA zH (zA zH (zA (zR zG) zG (zB rfl)) (zB rfl)) (zB rfl)) (zB rfl))) (yd zU (zR (zA zH (zA zH (zA zH (zA (zR zG) zG (zB rfl)) (zB rfl)) (zB rfl)) (zB rfl))) (yd zU (zR (zA zH (zA zH (zA zH (zA (zR zG) zG (zB rfl)) (zB rfl)) (zB rfl)) (zB rfl))) (yd zU (zR (zA zH (zA zH (zA zH (zA (zR (zA (zR (zA zH (zA zH zG (zB rfl)) (zB rfl))) zG (zB rfl))) zG (zB rfl)) (zB rfl)) (zB rfl)) (zB rfl))) (yd zU (zR (zA zH (zA zH (zA zH (zA (zR (zA (zR (zA zH (zA zH zG (zB rfl)) (zB rfl))) (zA (zR (zA (zEJ zH) (zA zH zG (zB rfl)) (zB rfl))) zG (zB rfl)) (zB rfl))) zG (zB rfl)) (zB rfl)) (zB rfl)) (zB rfl))) (yd zU (zR (zA zH (zA zH (zA zH (zA (zR (zA (zR (zA zH (zA zH zG (zB rfl)) (zB rfl))) zG (zB rfl))) zG (zB rfl)) (zB rfl)) (zB rfl)) (zB rfl))) zGC)))))) (by decide) (by decide)))
  zI)
def qb:zh:=yK 0 0 zHL
theorem zLy (W:WOk Tp w) {d:Nat}(hd:1<=d):yQ Tp w d (.ref 512) qb:=(zb (zf (W.fn 42 _ rfl) zLn) (zOV W (Nat.le_refl _))).up hd
theorem zFE (W:WOk Tp w) {d:Nat}(hd:1<=d):yN Tp w d (.ref 512) qb:=(zLy W hd).snd
def zGo:zX:=(zK (zw (yA .Eq (zO qw (zD (zF 0) zM)) (zC (.int 0))) (zK (zj (zC (.int 0)))
  zJ) zJ)
  (zK (zx 2 (ye .Mod (zZ (zF 0) (zC (.int 0))) (zF 1)))
  (zK (zCY (zF 0) (zC (.int 0)) (ye .FloorDiv (zZ (zF 0) (zC (.int 0))) (zF 1)))
  (zK (zw (yA .Eq (zZ (zF 0) (zC (.int 0))) (zC (.int 0))) (zK (qZ (yc (zF 0) zFL (zD (zC (.int 0)) zM)))
  zJ) zJ)
  (zK (zj (zF 2))
  zJ)))))
theorem zRv (W:WOk Tp w) {d:Nat}(hd:0<=d):zz Tp w d true zBo.F zBo.nm (zu zBo.st) (zGo):=
  (zE (zg (za (zL (b0 (W.bn 0 _ _ rfl) (fun Z=>rfl) rfl rfl) (zY _) qK (zA (v0 0 rfl rfl) zG (zB rfl)) (zS rfl)) zH rfl) (zE (zP zH)
  zI) zI)
  (zE (zT 2 rfl zQF (zN rfl) (zl (zQ (v0 0 rfl rfl) zH (fun Z Z=>rfl)) (v0 1 rfl rfl)) (fun Z=>rfl))
  (zE (zBC (v0 0 rfl rfl) zH (zl (zQ (v0 0 rfl rfl) zH (fun Z Z=>rfl)) (v0 1 rfl rfl)) (fun Z=>rfl))
  (zE (zg (za (zQ (v0 0 rfl rfl) zH (fun Z Z=>rfl)) zH rfl) (zE (yq (yT zHb (v0 0 rfl rfl) (zA zH zG (zB rfl)) (zS rfl) (fun Z=>⟨_,rfl⟩)) (fun Z=>rfl) (fun Z=>rfl))
  zI) zI)
  (zE (zP (v0 2 rfl rfl))
  zI)))))
def zn:zh:=yK 2 3 zGo
theorem zPe (W:WOk Tp w) {d:Nat}(hd:1<=d):yQ Tp w d (.ref 519) zn:=(zb (zf (W.fn 43 _ rfl) zPZ) (zRv W (Nat.le_refl _))).up hd
theorem yg (W:WOk Tp w) {d:Nat}(hd:1<=d):yN Tp w d (.ref 519) zn:=(zPe W hd).snd
def zEx:zX:=(zK (zx 1 (zO zn (zD (zF 0) (zD (zC (.int 5)) zM))))
  (zK (zw (yA .Lt (zF 1) (zC (.int 2))) (zK (zj (zp (zD (zC (.str "const")) (zD (zC (.int 0)) (zD (ye .Sub (zO zn (zD (zF 0) (zD (zC (.int 6)) zM))) (zC (.int 1))) zM)))))
  zJ) zJ)
  (zK (zw (yA .Lt (zF 1) (zC (.int 4))) (zK (zj (zp (zD (zC (.str "var")) (zD (zC (.int 0)) (zD (zZ (zC (.str "NIJ")) (zO zn (zD (zF 0) (zD (zC (.int 3)) zM)))) zM)))))
  zJ) zJ)
  (zK (zj (zp (zD (zC (.str "add")) (zD (zC (.int 0)) (zD (zp (zD (zC (.str "var")) (zD (zC (.int 0)) (zD (zZ (zC (.str "IJN")) (zO zn (zD (zF 0) (zD (zC (.int 3)) zM)))) zM)))) (zD (zp (zD (zC (.str "const")) (zD (zC (.int 0)) (zD (ye .Sub (zO zn (zD (zF 0) (zD (zC (.int 5)) zM))) (zC (.int 2))) zM)))) zM))))))
  zJ))))
theorem zOX (W:WOk Tp w) {d:Nat}(hd:1<=d):zz Tp w d true zAX.F zAX.nm (zu zAX.st) (zEx):=
  (zE (zT 1 rfl zMF (zN rfl) (zL (g0 (W.gn 45 _ _ rfl) (fun Z=>rfl) rfl rfl) (W.kf 48 _ rfl) (yg W (Nat.le_trans (by decide) hd)) (zA (v0 0 rfl rfl) (zA zH zG (zB rfl)) (zB rfl)) (zS rfl)) (fun Z=>rfl))
  (zE (zg (za (v0 1 rfl rfl) zH rfl) (zE (zP (zR (zA zU (zA zH (zA (zl (zL (g0 (W.gn 45 _ _ rfl) (fun Z=>rfl) rfl rfl) (W.kf 48 _ rfl) (yg W (Nat.le_trans (by decide) hd)) (zA (v0 0 rfl rfl) (zA zH zG (zB rfl)) (zB rfl)) (zS rfl)) zH) zG (zB rfl)) (zB rfl)) (zB rfl))))
  zI) zI)
  (zE (zg (za (v0 1 rfl rfl) zH rfl) (zE (zP (zR (zA zU (zA zH (zA (zQ zU (zL (g0 (W.gn 45 _ _ rfl) (fun Z=>rfl) rfl rfl) (W.kf 48 _ rfl) (yg W (Nat.le_trans (by decide) hd)) (zA (v0 0 rfl rfl) (zA zH zG (zB rfl)) (zB rfl)) (zS rfl)) (fun Z Z=>rfl)) zG (zB rfl)) (zB rfl)) (zB rfl))))
  zI) zI)
  (zE (zP (zR (zA zU (zA zH (zA (zR (zA zU (zA zH (zA (zQ zU (zL (g0 (W.gn 45 _ _ rfl) (fun Z=>rfl) rfl rfl) (W.kf 48 _ rfl) (yg W (Nat.le_trans (by decide) hd)) (zA (v0 0 rfl rfl) (zA zH zG (zB rfl)) (zB rfl)) (zS rfl)) (fun Z Z=>rfl)) zG (zB rfl)) (zB rfl)) (zB rfl))) (zA (zR (zA zU (zA zH (zA (zl (zL (g0 (W.gn 45 _ _ rfl) (fun Z=>rfl) rfl rfl) (W.kf 48 _ rfl) (yg W (Nat.le_trans (by decide) hd)) (zA (v0 0 rfl rfl) (zA zH zG (zB rfl)) (zB rfl)) (zS rfl)) zH) zG (zB rfl)) (zB rfl)) (zB rfl))) zG (zB rfl)) (zB rfl)) (zB rfl)) (zB rfl))))
  zI))))
def qt:zh:=yK 1 2 zEx
theorem zLz (W:WOk Tp w) {d:Nat}(hd:2<=d):yQ Tp w d (.ref 526) qt:=(zb (zf (W.fn 44 _ rfl) zLp) (zOX W (Nat.le_refl _))).up hd
theorem zDP (W:WOk Tp w) {d:Nat}(hd:2<=d):yN Tp w d (.ref 526) qt:=(zLz W hd).snd
def zEw:zX:=(zK (zx 1 (zp (zD (zC (.str "const")) (zD (zC (.int 0)) (zD (zO zn (zD (zF 0) (zD (zC (.int 3)) zM))) zM)))))
  (zK (zx 2 (zZ (zp (zD (zp (zD (zC (.str "const")) (zD (zC (.int 0)) (zD (ye .Add (zC (.int 1)) (zO zn (zD (zF 0) (zD (zC (.int 3)) zM)))) zM)))) (zD (zp (zD (zC (.str "var")) (zD (zC (.int 0)) (zD (zC (.str "N")) zM)))) (zD (zp (zD (zC (.str "var")) (zD (zC (.int 0)) (zD (zC (.str "I")) zM)))) zM)))) (zO zn (zD (zF 0) (zD (zC (.int 3)) zM)))))
  (zK (zx 3 (zp (zD (zC (.str "const")) (zD (zC (.int 0)) (zD (zZ (zp (zD (zC (.int 1)) (zD (zC (.int 1)) (zD (zC (.int 2)) (zD (zII (zC (.int 1))) (zD (zC (.int 1)) (zD (zC (.int 0)) zM))))))) (zO zn (zD (zF 0) (zD (zC (.int 6)) zM)))) zM)))))
  (zK (zj (zp (zD (zF 1) (zD (zF 2) (zD (zF 3) zM)))))
  zJ))))
theorem zOU (W:WOk Tp w) {d:Nat}(hd:1<=d):zz Tp w d true zAV.F zAV.nm (zu zAV.st) (zEw):=
  (zE (zT 1 rfl zEU (zN rfl) (zR (zA zU (zA zH (zA (zL (g0 (W.gn 45 _ _ rfl) (fun Z=>rfl) rfl rfl) (W.kf 48 _ rfl) (yg W (Nat.le_trans (by decide) hd)) (zA (v0 0 rfl rfl) (zA zH zG (zB rfl)) (zB rfl)) (zS rfl)) zG (zB rfl)) (zB rfl)) (zB rfl))) (fun Z=>rfl))
  (zE (zT 2 rfl zEU (zN rfl) (zQ (zR (zA (zR (zA zU (zA zH (zA (zl zH (zL (g0 (W.gn 45 _ _ rfl) (fun Z=>rfl) rfl rfl) (W.kf 48 _ rfl) (yg W (Nat.le_trans (by decide) hd)) (zA (v0 0 rfl rfl) (zA zH zG (zB rfl)) (zB rfl)) (zS rfl))) zG (zB rfl)) (zB rfl)) (zB rfl))) (zA (zR (zA zU (zA zH (zA zU zG (zB rfl)) (zB rfl)) (zB rfl))) (zA (zR (zA zU (zA zH (zA zU zG (zB rfl)) (zB rfl)) (zB rfl))) zG (zB rfl)) (zB rfl)) (zB rfl))) (zL (g0 (W.gn 45 _ _ rfl) (fun Z=>rfl) rfl rfl) (W.kf 48 _ rfl) (yg W (Nat.le_trans (by decide) hd)) (zA (v0 0 rfl rfl) (zA zH zG (zB rfl)) (zB rfl)) (zS rfl)) (fun Z Z=>rfl)) (fun Z=>rfl))
  (zE (zT 3 rfl zEU (zN rfl) (zR (zA zU (zA zH (zA (zQ (zR (zA zH (zA zH (zA zH (zA (zEJ zH) (zA zH (zA zH zG (zB rfl)) (zB rfl)) (zB rfl)) (zB rfl)) (zB rfl)) (zB rfl))) (zL (g0 (W.gn 45 _ _ rfl) (fun Z=>rfl) rfl rfl) (W.kf 48 _ rfl) (yg W (Nat.le_trans (by decide) hd)) (zA (v0 0 rfl rfl) (zA zH zG (zB rfl)) (zB rfl)) (zS rfl)) (fun Z Z=>rfl)) zG (zB rfl)) (zB rfl)) (zB rfl))) (fun Z=>rfl))
  (zE (zP (zR (zA (v0 1 rfl rfl) (zA (v0 2 rfl rfl) (zA (v0 3 rfl rfl) zG (zB rfl)) (zB rfl)) (zB rfl))))
  zI))))
def zCT:zh:=yK 1 4 zEw
theorem zLx (W:WOk Tp w) {d:Nat}(hd:2<=d):yQ Tp w d (.ref 533) zCT:=(zb (zf (W.fn 45 _ rfl) zLm) (zOU W (Nat.le_refl _))).up hd
theorem zNX (W:WOk Tp w) {d:Nat}(hd:2<=d):yN Tp w d (.ref 533) zCT:=(zLx W hd).snd
def zJo (yo:zh):zX:=(zK (zx 2 (zO zn (zD (zF 0) (zD (zC (.int 7)) zM))))
  (zK (zw (zHM [(yA .Eq (zF 2) (zC (.int 0))),(yA .Gt (zF 1) (zC (.int 0)))]) (zK (zx 3 (qe false 1 [0,1] (zO zAE (zD (ye .Add (zC (.int 1)) (zO zn (zD (zF 0) (zD (zC (.int 2)) zM)))) zM)) qP (qy (zO yo (zD (zF 1) (zD (ye .Sub (zF 2) (zC (.int 1))) zM))))))
  (zK (zFc [4,5,6] (zO zCT (zD (zF 0) zM)))
  (zK (zj (zp (zD (zC (.str "ido")) (zD (zF 3) (zD (zp (zD (zC (.str "var")) (zD (zC (.int 0)) (zD (zZ (zC (.str "IJ")) (ye .Sub (zF 1) (zC (.int 1)))) zM)))) (zD (zF 4) (zD (zF 5) (zD (zF 6) zM))))))))
  zJ))) zJ)
  (zK (zw (yA .Lt (zF 2) (zC (.int 3))) (zK (zj (zp (zD (zC (.str "elem")) (zD (zC (.int 0)) (zD (zC (.str "A")) (zD (zFb (zD (zO qt (zD (zF 0) zM)) zM)) zM))))))
  zJ) zJ)
  (zK (zw (yA .Eq (zF 2) (zC (.int 3))) (zK (zj (zp (zD (zC (.str "elem")) (zD (zC (.int 0)) (zD (zC (.str "B")) (zD (zFb (zD (zO qt (zD (zF 0) zM)) (zD (zO qt (zD (zF 0) zM)) zM))) zM))))))
  zJ) zJ)
  (zK (zw (yA .Eq (zF 2) (zC (.int 4))) (zK (zj (zp (zD (zC (.str "var")) (zD (zC (.int 0)) (zD (zZ (zC (.str "NIJ")) (zO zn (zD (zF 0) (zD (zC (.int 3)) zM)))) zM)))))
  zJ) zJ)
  (zK (zw (yA .Eq (zF 2) (zC (.int 5))) (zK (zx 7 (zZ (zC (.str "ABT")) (zO zn (zD (zF 0) (zD (zC (.int 3)) zM)))))
  (zK (zj (zp (zD (zC (.str "array")) (zD (dif (qH .Eq (zF 7) (zC (.str "T"))) (zC (.int 5)) (zC (.int 0))) (zD (zF 7) zM)))))
  zJ)) zJ)
  (zK (zj (zO qt (zD (zF 0) zM)))
  zJ)))))))
theorem zRu (W:WOk Tp w) {d:Nat}(hd:2<=d) {yo:zh}(h_law_item:yN Tp w d (.ref 538) yo):zz Tp w d true zBn.F zBn.nm (zu zBn.st) (zJo yo):=
  (zE (zT 2 rfl zEH (zN rfl) (zL (g0 (W.gn 45 _ _ rfl) (fun Z=>rfl) rfl rfl) (W.kf 48 _ rfl) (yg W (Nat.le_trans (by decide) hd)) (zA (v0 0 rfl rfl) (zA zH zG (zB rfl)) (zB rfl)) (zS rfl)) (fun Z=>rfl))
  (zE (zg (zHi (.cons (za (v0 2 rfl rfl) zH rfl) (.cons (za (v0 1 rfl rfl) zH rfl) .nil))) (zE (zCy false 3 rfl zEH (zN rfl) (zED (nmc:=["k","pool","deep"]) (qB ["pool","deep"] (fun Z=>rfl) (by decide +kernel) (fun Z=>rfl)) W.sys (by decide) rfl (zL (b0 (W.bn 3 _ _ rfl) (fun Z=>rfl) rfl rfl) (yt _) zAP (zA (zl zH (zL (g0 (W.gn 45 _ _ rfl) (fun Z=>rfl) rfl rfl) (W.kf 48 _ rfl) (yg W (Nat.le_trans (by decide) hd)) (zA (v0 0 rfl rfl) (zA zH zG (zB rfl)) (zB rfl)) (zS rfl))) zG (zB rfl)) (zS rfl)) (zL (g1 (W.gn 48 _ _ rfl) (fun Z=>rfl) rfl rfl rfl) (W.kf 51 _ rfl) h_law_item (zA (v1 1 rfl rfl rfl) (zA (zl (v1 2 rfl rfl rfl) zH) zG (zB rfl)) (zB rfl)) (zS rfl)) (fun Z Z=>rfl) (.inl ⟨rfl,rfl⟩)) (fun Z=>rfl))
  (zE (zZW rfl (zN rfl) rfl (zN rfl) rfl (zN rfl) zEH (zL (g0 (W.gn 47 _ _ rfl) (fun Z=>rfl) rfl rfl) (W.kf 50 _ rfl) (zNX W (Nat.le_trans (by decide) hd)) (zA (v0 0 rfl rfl) zG (zB rfl)) (zS rfl)) (fun Z=>rfl) (fun Z=>rfl))
  (zE (zP (zR (zA zU (zA (v0 3 rfl rfl) (zA (zR (zA zU (zA zH (zA (zQ zU (zl (v0 1 rfl rfl) zH) (fun Z Z=>rfl)) zG (zB rfl)) (zB rfl)) (zB rfl))) (zA (v0 4 rfl rfl) (zA (v0 5 rfl rfl) (zA (v0 6 rfl rfl) zG (zB rfl)) (zB rfl)) (zB rfl)) (zB rfl)) (zB rfl)) (zB rfl))))
  zI))) zI)
  (zE (zg (za (v0 2 rfl rfl) zH rfl) (zE (zP (zR (zA zU (zA zH (zA zU (zA (zFM (zA (zL (g0 (W.gn 46 _ _ rfl) (fun Z=>rfl) rfl rfl) (W.kf 49 _ rfl) (zDP W (Nat.le_trans (by decide) hd)) (zA (v0 0 rfl rfl) zG (zB rfl)) (zS rfl)) zG (zB rfl))) zG (zB rfl)) (zB rfl)) (zB rfl)) (zB rfl))))
  zI) zI)
  (zE (zg (za (v0 2 rfl rfl) zH rfl) (zE (zP (zR (zA zU (zA zH (zA zU (zA (zFM (zA (zL (g0 (W.gn 46 _ _ rfl) (fun Z=>rfl) rfl rfl) (W.kf 49 _ rfl) (zDP W (Nat.le_trans (by decide) hd)) (zA (v0 0 rfl rfl) zG (zB rfl)) (zS rfl)) (zA (zL (g0 (W.gn 46 _ _ rfl) (fun Z=>rfl) rfl rfl) (W.kf 49 _ rfl) (zDP W (Nat.le_trans (by decide) hd)) (zA (v0 0 rfl rfl) zG (zB rfl)) (zS rfl)) zG (zB rfl)) (zB rfl))) zG (zB rfl)) (zB rfl)) (zB rfl)) (zB rfl))))
  zI) zI)
  (zE (zg (za (v0 2 rfl rfl) zH rfl) (zE (zP (zR (zA zU (zA zH (zA (zQ zU (zL (g0 (W.gn 45 _ _ rfl) (fun Z=>rfl) rfl rfl) (W.kf 48 _ rfl) (yg W (Nat.le_trans (by decide) hd)) (zA (v0 0 rfl rfl) (zA zH zG (zB rfl)) (zB rfl)) (zS rfl)) (fun Z Z=>rfl)) zG (zB rfl)) (zB rfl)) (zB rfl))))
  zI) zI)
  (zE (zg (za (v0 2 rfl rfl) zH rfl) (zE (zT 7 rfl zEH (zN rfl) (zQ zU (zL (g0 (W.gn 45 _ _ rfl) (fun Z=>rfl) rfl rfl) (W.kf 48 _ rfl) (yg W (Nat.le_trans (by decide) hd)) (zA (v0 0 rfl rfl) (zA zH zG (zB rfl)) (zB rfl)) (zS rfl)) (fun Z Z=>rfl)) (fun Z=>rfl))
  (zE (zP (zR (zA zU (zA (zBN (yH W.sys (v0 7 rfl rfl) zU rfl) zH zH) (zA (v0 7 rfl rfl) zG (zB rfl)) (zB rfl)) (zB rfl))))
  zI)) zI)
  (zE (zP (zL (g0 (W.gn 46 _ _ rfl) (fun Z=>rfl) rfl rfl) (W.kf 49 _ rfl) (zDP W (Nat.le_trans (by decide) hd)) (zA (v0 0 rfl rfl) zG (zB rfl)) (zS rfl)))
  zI)))))))
def yo:Nat->zh
  | 0=>fun Z Z Z Z=>False
  | n+1=>yK 2 8 (zJo (yo n))
theorem zKJ (W:WOk Tp w):∀(n:Nat) {d:Nat}(hd:40+n<=d),yN Tp w d (.ref 538) (yo n)
  | 0,_,_=>zJf
  | n+1,d,hd=>(zCQ (zf (W.fn 46 _ rfl) zPY) (zRu W (Nat.le_trans (by decide) (Nat.le_add_right 40 n)) (zKJ W n (Nat.le_refl _)))).up hd
def zCs (yG:zh):zX:=(zK (zw (qH .Eq (zZ (zF 1) (zC (.int 0))) (zC (.str "const"))) (zK (zj (zZ (zF 1) (zC (.int 2))))
  zJ) zJ)
  (zK (zw (qH .Eq (zZ (zF 1) (zC (.int 0))) (zC (.str "var"))) (zK (zj (yc (zZ (zF 0) (zZ (zF 1) (zC (.int 2)))) zFK (zD (zp zM) zM)))
  zJ) zJ)
  (zK (zbb 2 3 (zp (zD (zO yG (zD (zF 0) (zD (zZ (zF 1) (zC (.int 2))) zM))) (zD (zO yG (zD (zF 0) (zD (zZ (zF 1) (zC (.int 3))) zM))) zM))))
  (zK (zj (dif (bor [(yA .Is (zF 2) (zC .none)),(yA .Is (zF 3) (zC .none))]) (zC .none) (ye .Add (zF 2) (zF 3))))
  zJ))))
theorem zQR (W:WOk Tp w) {d:Nat}(hd:0<=d) {yG:zh}(h_law_worth:yN Tp w d (.ref 545) yG):zz Tp w d true zAz.F zAz.nm (zu zAz.st) (zCs yG):=
  (zE (zg (yH W.sys (zQ (v0 1 rfl rfl) zH (fun Z Z=>rfl)) zU rfl) (zE (zP (zQ (v0 1 rfl rfl) zH (fun Z Z=>rfl)))
  zI) zI)
  (zE (zg (yH W.sys (zQ (v0 1 rfl rfl) zH (fun Z Z=>rfl)) zU rfl) (zE (zP (yT (zKo W.sys) (zQ (v0 0 rfl rfl) (zQ (v0 1 rfl rfl) zH (fun Z Z=>rfl)) (fun Z Z=>rfl)) (zA (zR zG) zG (zB rfl)) (zS rfl) (fun Z=>⟨_,rfl⟩)))
  zI) zI)
  (zE (zXL rfl rfl (zN rfl) (zN rfl) zOH (zR (zA (zL (g0 (W.gn 49 _ _ rfl) (fun Z=>rfl) rfl rfl) (W.kf 52 _ rfl) h_law_worth (zA (v0 0 rfl rfl) (zA (zQ (v0 1 rfl rfl) zH (fun Z Z=>rfl)) zG (zB rfl)) (zB rfl)) (zS rfl)) (zA (zL (g0 (W.gn 49 _ _ rfl) (fun Z=>rfl) rfl rfl) (W.kf 52 _ rfl) h_law_worth (zA (v0 0 rfl rfl) (zA (zQ (v0 1 rfl rfl) zH (fun Z Z=>rfl)) zG (zB rfl)) (zB rfl)) (zS rfl)) zG (zB rfl)) (zB rfl))) (fun Z=>rfl) (fun Z=>rfl))
  (zE (zP (zBN (zBM (.cons (za (v0 2 rfl rfl) zv rfl) (.cons (za (v0 3 rfl rfl) zv rfl) .nil))) zv (zl (v0 2 rfl rfl) (v0 3 rfl rfl))))
  zI))))
def yG:Nat->zh
  | 0=>fun Z Z Z Z=>False
  | n+1=>yK 2 4 (zCs (yG n))
theorem zEE (W:WOk Tp w):∀(n:Nat) {d:Nat}(hd:10+n<=d),yN Tp w d (.ref 545) (yG n)
  | 0,_,_=>zJf
  | n+1,d,hd=>(zCQ (zf (W.fn 47 _ rfl) zNf) (zQR W (Nat.le_trans (by decide) (Nat.le_add_right 10 n)) (zEE W n (Nat.le_refl _)))).up hd
def zFk:zX:=(zK (zx 1 (zZ (zO zFP zM) (zF 0)))
  (zK (zw (yA .Eq (zO qw (zD (zF 1) zM)) (zC (.int 1))) (zK (zj (qe false 1 [] (zO zAE (zD (zZ (zZ (zF 1) (zC (.int 0))) (zC (.int 0))) (zD (ye .Add (zZ (zZ (zF 1) (zC (.int 0))) (zC (.int 1))) (zC (.int 1))) zM))) qP (qy (zp (zD (zF 0) zM)))))
  zJ) zJ)
  (zK (zj (qe false 2 [1] (zO zAE (zD (zZ (zZ (zF 1) (zC (.int 1))) (zC (.int 0))) (zD (ye .Add (zZ (zZ (zF 1) (zC (.int 1))) (zC (.int 1))) (zC (.int 1))) zM))) qP (zNI (zO zAE (zD (zZ (zZ (zF 2) (zC (.int 0))) (zC (.int 0))) (zD (ye .Add (zZ (zZ (zF 2) (zC (.int 0))) (zC (.int 1))) (zC (.int 1))) zM))) qP (qy (zp (zD (zF 1) (zD (zF 0) zM)))))))
  zJ)))
theorem zQP (W:WOk Tp w) {d:Nat}(hd:1<=d):zz Tp w d true zAx.F zAx.nm (zu zAx.st) (zFk):=
  (zE (zT 1 rfl zOG (zN rfl) (zQ (zL (g0 (W.gn 43 _ _ rfl) (fun Z=>rfl) rfl rfl) (W.kf 46 _ rfl) (zRL W (Nat.le_trans (by decide) hd)) zG zDd) (v0 0 rfl rfl) (fun Z Z=>rfl)) (fun Z=>rfl))
  (zE (zg (za (zL (b0 (W.bn 0 _ _ rfl) (fun Z=>rfl) rfl rfl) (zY _) qK (zA (v0 1 rfl rfl) zG (zB rfl)) (zS rfl)) zH rfl) (zE (zP (zBW false (zED (nmc:=["k"]) (qB [] (fun Z=>rfl) (by decide +kernel) (fun Z=>rfl)) W.sys (by decide) rfl (zL (b0 (W.bn 3 _ _ rfl) (fun Z=>rfl) rfl rfl) (yt _) zAP (zA (zQ (zQ (v0 1 rfl rfl) zH (fun Z Z=>rfl)) zH (fun Z Z=>rfl)) (zA (zl (zQ (zQ (v0 1 rfl rfl) zH (fun Z Z=>rfl)) zH (fun Z Z=>rfl)) zH) zG (zB rfl)) (zB rfl)) (zS rfl)) (zR (zA (v1 0 rfl rfl rfl) zG (zB rfl))) (fun Z Z=>rfl) (.inl ⟨rfl,rfl⟩))))
  zI) zI)
  (zE (zP (zBW false (zbW (nmc:=["n","k","dims"]) (qB ["dims"] (fun Z=>rfl) (by decide +kernel) (fun Z=>rfl)) W.sys (by decide) rfl rfl (zL (b0 (W.bn 3 _ _ rfl) (fun Z=>rfl) rfl rfl) (yt _) zAP (zA (zQ (zQ (v0 1 rfl rfl) zH (fun Z Z=>rfl)) zH (fun Z Z=>rfl)) (zA (zl (zQ (zQ (v0 1 rfl rfl) zH (fun Z Z=>rfl)) zH (fun Z Z=>rfl)) zH) zG (zB rfl)) (zB rfl)) (zS rfl)) (zL (b1 (W.bn 3 _ _ rfl) (fun Z=>rfl) rfl rfl rfl) (yt _) zAP (zA (zQ (zQ (v1 2 rfl rfl rfl) zH (fun Z Z=>rfl)) zH (fun Z Z=>rfl)) (zA (zl (zQ (zQ (v1 2 rfl rfl rfl) zH (fun Z Z=>rfl)) zH (fun Z Z=>rfl)) zH) zG (zB rfl)) (zB rfl)) (zS rfl)) (zR (zA (v1 1 rfl rfl rfl) (zA (v1 0 rfl rfl rfl) zG (zB rfl)) (zB rfl))) (fun Z Z=>rfl) (fun Z Z Z=>rfl))))
  zI)))
def qs:zh:=yK 1 2 zFk
theorem zNl (W:WOk Tp w) {d:Nat}(hd:2<=d):yQ Tp w d (.ref 550) qs:=(zb (zf (W.fn 48 _ rfl) zNd) (zQP W (Nat.le_refl _))).up hd
theorem zFn (W:WOk Tp w) {d:Nat}(hd:2<=d):yN Tp w d (.ref 550) qs:=(zNl W hd).snd
def zCk:zX:=(zK (zFc [2,3,4,5] (zZ (zO qb zM) (zF 0)))
  (zK (zx 6 (dif (qH .Eq (zF 1) (zp zM)) (zC (.int 0)) (yc (zO qs (zD (zF 0) zM)) zGS (zD (zF 1) zM))))
  (zK (zj (zp (zD (zF 2) (zD (ye .Add (zF 3) (ye .Mult (zF 6) (zO zZF (zD (zF 4) (zD (zC (.int 1)) zM))))) (zD (zF 4) (zD (zp zM) zM))))))
  zJ)))
theorem zMM (W:WOk Tp w) {d:Nat}(hd:2<=d):zz Tp w d true zAB.F zAB.nm (zu zAB.st) (zCk):=
  (zE (zXX rfl (zN rfl) rfl (zN rfl) rfl (zN rfl) rfl (zN rfl) zFx (zQ (zL (g0 (W.gn 44 _ _ rfl) (fun Z=>rfl) rfl rfl) (W.kf 47 _ rfl) (zFE W (Nat.le_trans (by decide) hd)) zG zDd) (v0 0 rfl rfl) (fun Z Z=>rfl)) (fun Z=>rfl) (fun Z=>rfl))
  (zE (zT 6 rfl zFx (zN rfl) (zBN (yH W.sys (v0 1 rfl rfl) (zR zG) rfl) zH (yT (zRi W.sys) (zL (g0 (W.gn 50 _ _ rfl) (fun Z=>rfl) rfl rfl) (W.kf 53 _ rfl) (zFn W (Nat.le_trans (by decide) hd)) (zA (v0 0 rfl rfl) zG (zB rfl)) (zS rfl)) (zA (v0 1 rfl rfl) zG (zB rfl)) (zS rfl) (fun Z=>⟨_,rfl⟩))) (fun Z=>rfl))
  (zE (zP (zR (zA (v0 2 rfl rfl) (zA (zl (v0 3 rfl rfl) (zl (v0 6 rfl rfl) (zL (b0 (W.bn 2 _ _ rfl) (fun Z=>rfl) rfl rfl) (zY _) zTJ (zA (v0 4 rfl rfl) (zA zH zG (zB rfl)) (zB rfl)) (zS rfl)))) (zA (v0 4 rfl rfl) (zA (zR zG) zG (zB rfl)) (zB rfl)) (zB rfl)) (zB rfl))))
  zI)))
def yW:zh:=yK 2 7 zCk
theorem zKW (W:WOk Tp w) {d:Nat}(hd:3<=d):yQ Tp w d (.ref 557) yW:=(zb (zf (W.fn 49 _ rfl) zKQ) (zMM W (Nat.le_refl _))).up hd
theorem zGg (W:WOk Tp w) {d:Nat}(hd:3<=d):yN Tp w d (.ref 557) yW:=(zKW W hd).snd
def zGp:zX:=(zK (qZ (yc (zF 1) qY (zD (zp (zD (dif (qH .Eq (zF 3) (zC (.str "T"))) (zC (.int 5)) (zC (.int 0))) (zD (zO yW (zD (zF 3) (zD (zF 4) zM))) (zD (zC .none) zM)))) zM)))
  (zK (zw (yA .IsNot (zF 2) (zC .none)) (zK (zx 5 (zZ (zF 2) (ye .Mod (ye .Sub (zO qw (zD (zF 1) zM)) (zC (.int 1))) (zO qw (zD (zF 2) zM)))))
  (zK (zCY (zZ (zF 0) (zF 3)) (zF 4) (dif (qH .Eq (zF 3) (zC (.str "T"))) (zC (.str "AB")) (zF 5)))
  zJ)) zJ)
  (zK (zj (zPC .Lt (zO qw (zD (zF 1) zM)) (zC (.int 40))))
  zJ)))
theorem zRw (W:WOk Tp w) {d:Nat}(hd:3<=d):zz Tp w d true zBp.F zBp.nm (zu zBp.st) (zGp):=
  (zE (yq (yT zBu (v0 1 rfl rfl) (zA (zR (zA (zBN (yH W.sys (v0 3 rfl rfl) zU rfl) zH zH) (zA (zL (g0 (W.gn 51 _ _ rfl) (fun Z=>rfl) rfl rfl) (W.kf 54 _ rfl) (zGg W (Nat.le_trans (by decide) hd)) (zA (v0 3 rfl rfl) (zA (v0 4 rfl rfl) zG (zB rfl)) (zB rfl)) (zS rfl)) (zA zv zG (zB rfl)) (zB rfl)) (zB rfl))) zG (zB rfl)) (zS rfl) (fun Z=>⟨_,rfl⟩)) (fun Z=>rfl) (fun Z=>rfl))
  (zE (zg (za (v0 2 rfl rfl) zv rfl) (zE (zT 5 rfl zQG (zN rfl) (zQ (v0 2 rfl rfl) (zl (zl (zL (b0 (W.bn 0 _ _ rfl) (fun Z=>rfl) rfl rfl) (zY _) qK (zA (v0 1 rfl rfl) zG (zB rfl)) (zS rfl)) zH) (zL (b0 (W.bn 0 _ _ rfl) (fun Z=>rfl) rfl rfl) (zY _) qK (zA (v0 2 rfl rfl) zG (zB rfl)) (zS rfl))) (fun Z Z=>rfl)) (fun Z=>rfl))
  (zE (zBC (zQ (v0 0 rfl rfl) (v0 3 rfl rfl) (fun Z Z=>rfl)) (v0 4 rfl rfl) (zBN (yH W.sys (v0 3 rfl rfl) zU rfl) zU (v0 5 rfl rfl)) (fun Z=>rfl))
  zI)) zI)
  (zE (zP (zHk (zL (b0 (W.bn 0 _ _ rfl) (fun Z=>rfl) rfl rfl) (zY _) qK (zA (v0 1 rfl rfl) zG (zB rfl)) (zS rfl)) zH rfl))
  zI)))
def zAb:zh:=yK 5 6 zGp
theorem zPf (W:WOk Tp w) {d:Nat}(hd:4<=d):yQ Tp w d (.ref 564) zAb:=(zb (zf (W.fn 50 _ rfl) zPa) (zRw W (Nat.le_refl _))).up hd
theorem zHA (W:WOk Tp w) {d:Nat}(hd:4<=d):yN Tp w d (.ref 564) zAb:=(zPf W hd).snd
def zCD (yk:zh):zX:=(zK (zFc [4,5,6,7,8,9] (zF 3))
  (zK (zx 10 (qe false 1 [0] (zp (zD (zF 7) (zD (zF 8) (zD (zF 9) zM)))) qP (qy (zO (yG 4) (zD (zF 1) (zD (zF 0) zM))))))
  (zK (zw (bor [(qH .In (zC .none) (zF 10)),(yA .Eq (zZ (zF 10) (zC (.int 2))) (zC (.int 0)))]) (zK (zj (zC (.bool false)))
  zJ) zJ)
  (zK (zCY (zZ (zF 0) (zZ (zF 6) (zC (.int 2)))) (zp zM) (zZ (zF 10) (zC (.int 0))))
  (zK (zx 11 (zO qw (zD (zO zAE (zD (zZ (zF 10) (zC (.int 0))) (zD (ye .Add (zZ (zF 10) (zC (.int 1))) (dif (yA .Gt (zZ (zF 10) (zC (.int 2))) (zC (.int 0))) (zC (.int 1)) (zII (zC (.int 1))))) (zD (zZ (zF 10) (zC (.int 2))) zM)))) zM)))
  (zK (zFa (yv 12) (zO zAE (zD (zF 11) zM)) (zK (zw (zHN (zCt (zO yk (zD (zF 0) (zD (zF 1) (zD (zF 2) (zD (zF 5) zM))))))) (zK (zj (zC (.bool false)))
  zJ) zJ)
  (zK (zw (yA .Is (yc (zZ (zF 0) (zZ (zF 6) (zC (.int 2)))) zFK (zD (zp zM) zM)) (zC .none)) (zK (zj (zC (.bool false)))
  zJ) zJ)
  (zK (zPB (zZ (zF 0) (zZ (zF 6) (zC (.int 2)))) (zp zM) .Add (zZ (zF 10) (zC (.int 2))))
  zJ))))
  (zK (zj (zC (.bool true)))
  zJ)))))))
theorem zOW (W:WOk Tp w) {d:Nat}(hd:20<=d) {yk:zh}(h_law_run:yN Tp w d (.ref 574) yk):zz Tp w d true zAW.F zAW.nm (zu zAW.st) (zCD yk):=
  (zE (zZX rfl (zN rfl) rfl (zN rfl) rfl (zN rfl) rfl (zN rfl) rfl (zN rfl) rfl (zN rfl) zCn (v0 3 rfl rfl) (fun Z=>rfl) (fun Z=>rfl))
  (zE (zCy false 10 rfl zCn (zN rfl) (zED (nmc:=["one","held"]) (qB ["held"] (fun Z=>rfl) (by decide +kernel) (fun Z=>rfl)) W.sys (by decide) rfl (zR (zA (v0 7 rfl rfl) (zA (v0 8 rfl rfl) (zA (v0 9 rfl rfl) zG (zB rfl)) (zB rfl)) (zB rfl))) (zL (g1 (W.gn 49 _ _ rfl) (fun Z=>rfl) rfl rfl rfl) (W.kf 52 _ rfl) (zEE W 4 (Nat.le_trans (by decide) hd)) (zA (v1 1 rfl rfl rfl) (zA (v1 0 rfl rfl rfl) zG (zB rfl)) (zB rfl)) (zS rfl)) (fun Z Z=>rfl) (.inl ⟨rfl,rfl⟩)) (fun Z=>rfl))
  (zE (zg (zBM (.cons (yH W.sys zv (v0 10 rfl rfl) rfl) (.cons (za (zQ (v0 10 rfl rfl) zH (fun Z Z=>rfl)) zH rfl) .nil))) (zE (zP zAN)
  zI) zI)
  (zE (zBC (zQ (v0 0 rfl rfl) (zQ (v0 6 rfl rfl) zH (fun Z Z=>rfl)) (fun Z Z=>rfl)) (zR zG) (zQ (v0 10 rfl rfl) zH (fun Z Z=>rfl)) (fun Z=>rfl))
  (zE (zT 11 rfl zCn (zN rfl) (zL (b0 (W.bn 0 _ _ rfl) (fun Z=>rfl) rfl rfl) (zY _) qK (zA (zL (b0 (W.bn 3 _ _ rfl) (fun Z=>rfl) rfl rfl) (yt _) zAP (zA (zQ (v0 10 rfl rfl) zH (fun Z Z=>rfl)) (zA (zl (zQ (v0 10 rfl rfl) zH (fun Z Z=>rfl)) (zBN (za (zQ (v0 10 rfl rfl) zH (fun Z Z=>rfl)) zH rfl) zH (zEJ zH))) (zA (zQ (v0 10 rfl rfl) zH (fun Z Z=>rfl)) zG (zB rfl)) (zB rfl)) (zB rfl)) (zS rfl)) zG (zB rfl)) (zS rfl)) (fun Z=>rfl))
  (zE (zCp W.sys (zAi 12 rfl zCn (zN rfl)) (zL (b0 (W.bn 3 _ _ rfl) (fun Z=>rfl) rfl rfl) (yt _) zAP (zA (v0 11 rfl rfl) zG (zB rfl)) (zS rfl)) (zE (zg (zEk (zAM (zL (g0 (W.gn 54 _ _ rfl) (fun Z=>rfl) rfl rfl) (W.kf 57 _ rfl) h_law_run (zA (v0 0 rfl rfl) (zA (v0 1 rfl rfl) (zA (v0 2 rfl rfl) (zA (v0 5 rfl rfl) zG (zB rfl)) (zB rfl)) (zB rfl)) (zB rfl)) (zS rfl)) (fun Z Z=>rfl))) (zE (zP zAN)
  zI) zI)
  (zE (zg (za (yT (zKo W.sys) (zQ (v0 0 rfl rfl) (zQ (v0 6 rfl rfl) zH (fun Z Z=>rfl)) (fun Z Z=>rfl)) (zA (zR zG) zG (zB rfl)) (zS rfl) (fun Z=>⟨_,rfl⟩)) zv rfl) (zE (zP zAN)
  zI) zI)
  (zE (zXG (zQ (v0 0 rfl rfl) (zQ (v0 6 rfl rfl) zH (fun Z Z=>rfl)) (fun Z Z=>rfl)) (zR zG) (zQ (v0 10 rfl rfl) zH (fun Z Z=>rfl)) (fun Z Z Z=>rfl))
  zI))) (fun Z Z=>rfl))
  (zE (zP zAN)
  zI)))))))
def zGG (t_law_rounds:zh):zX:=(zK (zFa (yv 4) (zF 3) (zK (zw (qH .Eq (zZ (zF 4) (zC (.int 0))) (zC (.str "ido"))) (zK (zw (zHN (zCt (zO t_law_rounds (zD (zF 0) (zD (zF 1) (zD (zF 2) (zD (zF 4) zM))))))) (zK (zj (zC (.bool false)))
  zJ) zJ)
  zJ) (zK (zw (qH .Eq (zZ (zF 4) (zC (.int 0))) (zC (.str "array"))) (zK (zFa (yv 5) (zO qs (zD (zZ (zF 4) (zC (.int 2))) zM)) (zK (zw (zHN (zCt (zO zAb (zD (zF 0) (zD (zF 1) (zD (zF 2) (zD (zZ (zF 4) (zC (.int 2))) (zD (zF 5) zM)))))))) (zK (zj (zC (.bool false)))
  zJ) zJ)
  zJ))
  zJ) (zK (zw (qH .Eq (zZ (zF 4) (zC (.int 0))) (zC (.str "elem"))) (zK (zx 5 (zO zSG (zD (qe false 1 [0] (zZ (zF 4) (zC (.int 3))) qP (qy (zO (yG 4) (zD (zF 1) (zD (zF 0) zM))))) zM)))
  (zK (zw (bor [(qH .NotIn (zF 5) (zO qs (zD (zZ (zF 4) (zC (.int 2))) zM))),(zHN (zCt (zO zAb (zD (zF 0) (zD (zF 1) (zD (zF 2) (zD (zZ (zF 4) (zC (.int 2))) (zD (zF 5) zM))))))))]) (zK (zj (zC (.bool false)))
  zJ) zJ)
  zJ)) (zK (zw (qH .Eq (zZ (zF 4) (zC (.int 0))) (zC (.str "var"))) (zK (zw (zHN (zCt (zO zAb (zD (zF 0) (zD (zF 1) (zD (zF 2) (zD (zZ (zF 4) (zC (.int 2))) (zD (zp zM) zM)))))))) (zK (zj (zC (.bool false)))
  zJ) zJ)
  zJ) (zK (qZ (yc (zF 1) qY (zD (zp (zD (zC (.int 0)) (zD (zC .none) (zD (zO (yG 4) (zD (zF 0) (zD (zF 4) zM))) zM)))) zM)))
  (zK (zw (bor [(zHM [(yA .Is (zZ (zZ (zF 1) (zII (zC (.int 1)))) (zC (.int 2))) (zC .none)),(yA .IsNot (zF 2) (zC .none))]),(yA .GtE (zO qw (zD (zF 1) zM)) (zC (.int 40)))]) (zK (zj (zC (.bool false)))
  zJ) zJ)
  zJ)))
  zJ))
  zJ))
  zJ))
  zJ))
  (zK (zj (zC (.bool true)))
  zJ))
theorem zUg (W:WOk Tp w) {d:Nat}(hd:20<=d) {t_law_rounds:zh}(h_law_rounds:yN Tp w d (.ref 569) t_law_rounds):zz Tp w d true zCf.F zCf.nm (zu zCf.st) (zGG t_law_rounds):=
  (zE (zCp W.sys (zAi 4 rfl zHD (zN rfl)) (v0 3 rfl rfl) (zE (zg (yH W.sys (zQ (v0 4 rfl rfl) zH (fun Z Z=>rfl)) zU rfl) (zE (zg (zEk (zAM (zL (g0 (W.gn 53 _ _ rfl) (fun Z=>rfl) rfl rfl) (W.kf 56 _ rfl) h_law_rounds (zA (v0 0 rfl rfl) (zA (v0 1 rfl rfl) (zA (v0 2 rfl rfl) (zA (v0 4 rfl rfl) zG (zB rfl)) (zB rfl)) (zB rfl)) (zB rfl)) (zS rfl)) (fun Z Z=>rfl))) (zE (zP zAN)
  zI) zI)
  zI) (zE (zg (yH W.sys (zQ (v0 4 rfl rfl) zH (fun Z Z=>rfl)) zU rfl) (zE (zCp W.sys (zAi 5 rfl zHD (zN rfl)) (zL (g0 (W.gn 50 _ _ rfl) (fun Z=>rfl) rfl rfl) (W.kf 53 _ rfl) (zFn W (Nat.le_trans (by decide) hd)) (zA (zQ (v0 4 rfl rfl) zH (fun Z Z=>rfl)) zG (zB rfl)) (zS rfl)) (zE (zg (zEk (zAM (zL (g0 (W.gn 52 _ _ rfl) (fun Z=>rfl) rfl rfl) (W.kf 55 _ rfl) (zHA W (Nat.le_trans (by decide) hd)) (zA (v0 0 rfl rfl) (zA (v0 1 rfl rfl) (zA (v0 2 rfl rfl) (zA (zQ (v0 4 rfl rfl) zH (fun Z Z=>rfl)) (zA (v0 5 rfl rfl) zG (zB rfl)) (zB rfl)) (zB rfl)) (zB rfl)) (zB rfl)) (zS rfl)) (fun Z Z=>rfl))) (zE (zP zAN)
  zI) zI)
  zI) (fun Z Z=>rfl))
  zI) (zE (zg (yH W.sys (zQ (v0 4 rfl rfl) zH (fun Z Z=>rfl)) zU rfl) (zE (zT 5 rfl zHD (zN rfl) (zL (b0 (W.bn 5 _ _ rfl) (fun Z=>rfl) rfl rfl) (yt _) zSA (zA (zBW false (zED (nmc:=["one","held"]) (qB ["held"] (fun Z=>rfl) (by decide +kernel) (fun Z=>rfl)) W.sys (by decide) rfl (zQ (v0 4 rfl rfl) zH (fun Z Z=>rfl)) (zL (g1 (W.gn 49 _ _ rfl) (fun Z=>rfl) rfl rfl rfl) (W.kf 52 _ rfl) (zEE W 4 (Nat.le_trans (by decide) hd)) (zA (v1 1 rfl rfl rfl) (zA (v1 0 rfl rfl rfl) zG (zB rfl)) (zB rfl)) (zS rfl)) (fun Z Z=>rfl) (.inl ⟨rfl,rfl⟩))) zG (zB rfl)) (zS rfl)) (fun Z=>rfl))
  (zE (zg (zBM (.cons (yH W.sys (v0 5 rfl rfl) (zL (g0 (W.gn 50 _ _ rfl) (fun Z=>rfl) rfl rfl) (W.kf 53 _ rfl) (zFn W (Nat.le_trans (by decide) hd)) (zA (zQ (v0 4 rfl rfl) zH (fun Z Z=>rfl)) zG (zB rfl)) (zS rfl)) rfl) (.cons (zEk (zAM (zL (g0 (W.gn 52 _ _ rfl) (fun Z=>rfl) rfl rfl) (W.kf 55 _ rfl) (zHA W (Nat.le_trans (by decide) hd)) (zA (v0 0 rfl rfl) (zA (v0 1 rfl rfl) (zA (v0 2 rfl rfl) (zA (zQ (v0 4 rfl rfl) zH (fun Z Z=>rfl)) (zA (v0 5 rfl rfl) zG (zB rfl)) (zB rfl)) (zB rfl)) (zB rfl)) (zB rfl)) (zS rfl)) (fun Z Z=>rfl))) .nil))) (zE (zP zAN)
  zI) zI)
  zI)) (zE (zg (yH W.sys (zQ (v0 4 rfl rfl) zH (fun Z Z=>rfl)) zU rfl) (zE (zg (zEk (zAM (zL (g0 (W.gn 52 _ _ rfl) (fun Z=>rfl) rfl rfl) (W.kf 55 _ rfl) (zHA W (Nat.le_trans (by decide) hd)) (zA (v0 0 rfl rfl) (zA (v0 1 rfl rfl) (zA (v0 2 rfl rfl) (zA (zQ (v0 4 rfl rfl) zH (fun Z Z=>rfl)) (zA (zR zG) zG (zB rfl)) (zB rfl)) (zB rfl)) (zB rfl)) (zB rfl)) (zS rfl)) (fun Z Z=>rfl))) (zE (zP zAN)
  zI) zI)
  zI) (zE (yq (yT zBu (v0 1 rfl rfl) (zA (zR (zA zH (zA zv (zA (zL (g0 (W.gn 49 _ _ rfl) (fun Z=>rfl) rfl rfl) (W.kf 52 _ rfl) (zEE W 4 (Nat.le_trans (by decide) hd)) (zA (v0 0 rfl rfl) (zA (v0 4 rfl rfl) zG (zB rfl)) (zB rfl)) (zS rfl)) zG (zB rfl)) (zB rfl)) (zB rfl))) zG (zB rfl)) (zS rfl) (fun Z=>⟨_,rfl⟩)) (fun Z=>rfl) (fun Z=>rfl))
  (zE (zg (zBM (.cons (zHi (.cons (za (zQ (zQ (v0 1 rfl rfl) (zEJ zH) (fun Z Z=>rfl)) zH (fun Z Z=>rfl)) zv rfl) (.cons (za (v0 2 rfl rfl) zv rfl) .nil))) (.cons (za (zL (b0 (W.bn 0 _ _ rfl) (fun Z=>rfl) rfl rfl) (zY _) qK (zA (v0 1 rfl rfl) zG (zB rfl)) (zS rfl)) zH rfl) .nil))) (zE (zP zAN)
  zI) zI)
  zI)))
  zI))
  zI))
  zI))
  zI) (fun Z Z=>rfl))
  (zE (zP zAN)
  zI))
def yk:Nat->zh
  | 0=>fun Z Z Z Z=>False
  | n+1=>yK 4 6 (zGG (yK 4 13 (zCD (yk n))))
theorem zIL (W:WOk Tp w):∀(n:Nat) {d:Nat}(hd:40+2 * n<=d),yN Tp w d (.ref 574) (yk n)
  | 0,_,_=>zJf
  | n+1,d,hd=>(zCQ (zf (W.fn 52 _ rfl) zRS) (zUg (d:=40+2 * n+1) W (by lia) ((zCQ (zf (W.fn 51 _ rfl) zLo) (zOW (d:=40+2 * n) W (by lia) (zIL W n (Nat.le_refl _)))).up (Nat.le_refl _)))).up (by lia)
def zFl:zX:=(zK (zx 1 (zHQ .dct (yj (zC (.str "A")) (yr (.tdict [])) (yj (zC (.str "B")) (yr (.tdict [])) (yj (zC (.str "T")) (yr (.tdict [])) (yj (zC (.str "I")) (yr (.tdict [])) (yj (zC (.str "J")) (yr (.tdict [])) (yj (zC (.str "N")) (yr (.tdict [])) zHS))))))))
  (zK (zFa (yv 2) (zp (zD (zC (.str "N")) (zD (zC (.str "I")) (zD (zC (.str "J")) zM)))) (zK (zw (yA .Lt (zO zn (zD (zF 0) (zD (zC (.int 6)) zM))) (zC (.int 5))) (zK (zCY (zZ (zF 1) (zF 2)) (zp zM) (ye .Sub (zO zn (zD (zF 0) (zD (zC (.int 5)) zM))) (zC (.int 1))))
  zJ) zJ)
  zJ))
  (zK (zj (zF 1))
  zJ)))
theorem zQQ (W:WOk Tp w) {d:Nat}(hd:1<=d):zz Tp w d true zAy.F zAy.nm (zu zAy.st) (zFl):=
  (zE (zT 1 rfl zHd (zN rfl) (zXD W.sys (yd zU qT (yd zU qT (yd zU qT (yd zU qT (yd zU qT (yd zU qT zGC)))))) (by decide) (by decide)) (fun Z=>rfl))
  (zE (zCp W.sys (zAi 2 rfl zHd (zN rfl)) (zR (zA zU (zA zU (zA zU zG (zB rfl)) (zB rfl)) (zB rfl))) (zE (zg (za (zL (g0 (W.gn 45 _ _ rfl) (fun Z=>rfl) rfl rfl) (W.kf 48 _ rfl) (yg W (Nat.le_trans (by decide) hd)) (zA (v0 0 rfl rfl) (zA zH zG (zB rfl)) (zB rfl)) (zS rfl)) zH rfl) (zE (zBC (zQ (v0 1 rfl rfl) (v0 2 rfl rfl) (fun Z Z=>rfl)) (zR zG) (zl (zL (g0 (W.gn 45 _ _ rfl) (fun Z=>rfl) rfl rfl) (W.kf 48 _ rfl) (yg W (Nat.le_trans (by decide) hd)) (zA (v0 0 rfl rfl) (zA zH zG (zB rfl)) (zB rfl)) (zS rfl)) zH) (fun Z=>rfl))
  zI) zI)
  zI) (fun Z Z=>rfl))
  (zE (zP (v0 1 rfl rfl))
  zI)))
def zBz:zh:=yK 1 3 zFl
theorem zNm (W:WOk Tp w) {d:Nat}(hd:2<=d):yQ Tp w d (.ref 581) zBz:=(zb (zf (W.fn 53 _ rfl) zNe) (zQQ W (Nat.le_refl _))).up hd
theorem zPT (W:WOk Tp w) {d:Nat}(hd:2<=d):yN Tp w d (.ref 581) zBz:=(zNm W hd).snd
def zIB:zX:=(zK (zx 1 (zO zGD (zD (zC (.int 12)) (zD (zC (.int 4)) zM))))
  (zK (zFa (yv 2) (zF 0) (zK (zST (yv 3) (zZ (zF 0) (zF 2)) (zK (qZ (yc (zF 1) (yz 210 "store" zs) (zD (zO yW (zD (zF 2) (zD (zF 3) zM))) (zD (zZ (zZ (zF 0) (zF 2)) (zF 3)) zM))))
  zJ))
  zJ))
  (zK (zx 4 (zO zQh (zD (zF 1) (zD (zO zLG zM) (zD (yr (.sdict [])) (zD (zC .none) (zD (zO y0 zM) (zD (yr (.sdict [])) zM))))))))
  (zK (yp [313] (zF 4) "operations" (zO qG zM))
  (zK (yp [313] (zF 4) "frame" (zO tdict (zD (qe false 1 [] (zO qb zM) qP (qy (zp (zD (zF 0) (zD (zZ (zO qb zM) (zF 0)) zM))))) zM)))
  (zK (zj (zF 4))
  zJ))))))
theorem zUf (W:WOk Tp w) {d:Nat}(hd:11<=d):zz Tp w d true zCe.F zCe.nm (zu zCe.st) (zIB):=
  (zE (zT 1 rfl zFI (zN rfl) (zL (g0 (W.gn 60 _ _ rfl) (fun Z=>rfl) rfl rfl) (W.kf 15 _ rfl) (zVg W (Nat.le_trans (by decide) hd)) (zA zH (zA zH zG (zB rfl)) (zB rfl)) (zS rfl)) (fun Z=>rfl))
  (zE (zCp W.sys (zAi 2 rfl zFI (zN rfl)) (v0 0 rfl rfl) (zE (zXI W.sys (zAi 3 rfl zFI (zN rfl)) (zQ (v0 0 rfl rfl) (v0 2 rfl rfl) (fun Z Z=>rfl)) (zE (yq (yT (zAs (W.mt 1 _ _ _ rfl) (W.kf 14 _ rfl) (zCG W (Nat.le_trans (by decide) hd))) (v0 1 rfl rfl) (zA (zL (g0 (W.gn 51 _ _ rfl) (fun Z=>rfl) rfl rfl) (W.kf 54 _ rfl) (zGg W (Nat.le_trans (by decide) hd)) (zA (v0 2 rfl rfl) (zA (v0 3 rfl rfl) zG (zB rfl)) (zB rfl)) (zS rfl)) (zA (zQ (zQ (v0 0 rfl rfl) (v0 2 rfl rfl) (fun Z Z=>rfl)) (v0 3 rfl rfl) (fun Z Z=>rfl)) zG (zB rfl)) (zB rfl)) (zS rfl) (fun Z=>⟨_,rfl⟩)) (fun Z=>rfl) (fun Z=>rfl))
  zI) (fun Z Z=>rfl))
  zI) (fun Z Z=>rfl))
  (zE (zT 4 rfl zFI (zN rfl) (zL (g0 (W.gn 61 _ _ rfl) (fun Z=>rfl) rfl rfl) (W.kf 27 _ rfl) (zbq W (Nat.le_trans (by decide) hd)) (zA (v0 1 rfl rfl) (zA (zL (g0 (W.gn 64 _ _ rfl) (fun Z=>rfl) rfl rfl) (W.kf 45 _ rfl) (zVf W (Nat.le_trans (by decide) hd)) zG zDd) (zA qT (zA zv (zA (zL (g0 (W.gn 39 _ _ rfl) (fun Z=>rfl) rfl rfl) (W.kf 37 _ rfl) (zGZ W (Nat.le_trans (by decide) hd)) zG zDd) (zA qT zG (zB rfl)) (zB rfl)) (zB rfl)) (zB rfl)) (zB rfl)) (zB rfl)) (zS rfl)) (fun Z=>rfl))
  (zE (zr (yP (W.at_ 18 _ _ rfl)) (v0 4 rfl rfl) (zL (g0 (W.gn 16 _ _ rfl) (fun Z=>rfl) rfl rfl) (W.kf 10 _ rfl) (zGz W (Nat.le_trans (by decide) hd)) zG zDd) (fun Z=>rfl))
  (zE (zr (yP (W.at_ 8 _ _ rfl)) (v0 4 rfl rfl) (zL (b0 (W.bn 6 _ _ rfl) (fun Z=>rfl) rfl rfl) (yt _) (zIe W.sys) (zA (zBW false (zED (nmc:=["name"]) (qB [] (fun Z=>rfl) (by decide +kernel) (fun Z=>rfl)) W.sys (by decide) rfl (zL (g0 (W.gn 44 _ _ rfl) (fun Z=>rfl) rfl rfl) (W.kf 47 _ rfl) (zFE W (Nat.le_trans (by decide) hd)) zG zDd) (zR (zA (v1 0 rfl rfl rfl) (zA (zQ (zL (g1 (W.gn 44 _ _ rfl) (fun Z=>rfl) rfl rfl rfl) (W.kf 47 _ rfl) (zFE W (Nat.le_trans (by decide) hd)) zG zDd) (v1 0 rfl rfl rfl) (fun Z Z=>rfl)) zG (zB rfl)) (zB rfl))) (fun Z Z=>rfl) (.inl ⟨rfl,rfl⟩))) zG (zB rfl)) (zS rfl)) (fun Z=>rfl))
  (zE (zP (v0 4 rfl rfl))
  zI))))))
def zAj:zh:=yK 1 5 zIB
theorem zRY (W:WOk Tp w) {d:Nat}(hd:12<=d):yQ Tp w d (.ref 586) zAj:=(zb (zf (W.fn 54 _ rfl) zRR) (zUf W (Nat.le_refl _))).up hd
theorem zIK (W:WOk Tp w) {d:Nat}(hd:12<=d):yN Tp w d (.ref 586) zAj:=(zRY W hd).snd
def zFj:zX:=(zK (zx 3 (zO zBr (zD (zF 0) (zD (zF 1) zM))))
  (zK (zx 4 (zHR zM))
  (zK (zVQ (zK (zx 5 (yc (zF 3) (yz 465 "next" zk) zM))
  (zK (zGv (zHM [(yA .IsNot (zF 5) (zC .none)),(yA .Lt (zO qw (zD (zF 4) zM)) (zC (.int 40)))]) (zK (zFc [6,7,8] (zF 5))
  (zK (zw (yA .Is (zF 7) (zC .none)) (zK (qZ (yc (zF 4) qY (zD (zp (zD (zF 6) (zD (zC .none) (zD (zO (yB 4) (zD (zF 0) (zD (zF 8) zM))) zM)))) zM)))
  zJ) (zK (qZ (yc (zF 4) qY (zD (zp (zD (zF 6) (zD (zF 7) (zD (zC .none) zM)))) zM)))
  (zK (qZ (yc (zq [313] (zF 0) "memory") (yz 210 "store" zs) (zD (zF 7) (zD (dif (yA .Eq (zF 6) (zC (.int 5))) (zC (.str "AB")) (zZ (zF 2) (ye .Mod (ye .Sub (zO qw (zD (zF 4) zM)) (zC (.int 1))) (zO qw (zD (zF 2) zM))))) zM))))
  zJ)))
  (zK (zw (yA .Lt (zO qw (zD (zF 4) zM)) (zC (.int 40))) (zK (zx 5 (yc (zF 3) (yz 465 "next" zk) zM))
  zJ) zJ)
  zJ))))
  (zK (zj (zF 4))
  zJ))) (zK (zj (zIl (zF 4) (zFb (zD (zC (.str "fault")) zM))))
  zJ))
  zJ)))
theorem zQO (W:WOk Tp w) {d:Nat}(hd:83<=d):zz Tp w d true zAw.F zAw.nm (zu zAw.st) (zFj):=
  (zE (zT 3 rfl zCM (zN rfl) (zL (g0 (W.gn 63 _ _ rfl) (fun Z=>rfl) rfl rfl) (W.kf 43 _ rfl) (zKH W (Nat.le_trans (by decide) hd)) (zA (v0 0 rfl rfl) (zA (v0 1 rfl rfl) zG (zB rfl)) (zB rfl)) (zS rfl)) (fun Z=>rfl))
  (zE (zT 4 rfl zCM (zN rfl) (zFN zG) (fun Z=>rfl))
  (zE (zTK W.exc (zE (zT 5 rfl zCM (zN rfl) (yT (zAs (W.mt 2 _ _ _ rfl) (W.kf 41 _ rfl) (zBe W (Nat.le_trans (by decide) hd))) (v0 3 rfl rfl) zG zDd (fun Z=>⟨_,rfl⟩)) (fun Z=>rfl))
  (zE (zIf (zHi (.cons (za (v0 5 rfl rfl) zv rfl) (.cons (za (zL (b0 (W.bn 0 _ _ rfl) (fun Z=>rfl) rfl rfl) (zY _) qK (zA (v0 4 rfl rfl) zG (zB rfl)) (zS rfl)) zH rfl) .nil))) (zE (zZW rfl (zN rfl) rfl (zN rfl) rfl (zN rfl) zCM (v0 5 rfl rfl) (fun Z=>rfl) (fun Z=>rfl))
  (zE (zg (za (v0 7 rfl rfl) zv rfl) (zE (yq (yT zBu (v0 4 rfl rfl) (zA (zR (zA (v0 6 rfl rfl) (zA zv (zA (zL (g0 (W.gn 30 _ _ rfl) (fun Z=>rfl) rfl rfl) (W.kf 28 _ rfl) (zBl W 4 (Nat.le_trans (by decide) hd)) (zA (v0 0 rfl rfl) (zA (v0 8 rfl rfl) zG (zB rfl)) (zB rfl)) (zS rfl)) zG (zB rfl)) (zB rfl)) (zB rfl))) zG (zB rfl)) (zS rfl) (fun Z=>⟨_,rfl⟩)) (fun Z=>rfl) (fun Z=>rfl))
  zI) (zE (yq (yT zBu (v0 4 rfl rfl) (zA (zR (zA (v0 6 rfl rfl) (zA (v0 7 rfl rfl) (zA zv zG (zB rfl)) (zB rfl)) (zB rfl))) zG (zB rfl)) (zS rfl) (fun Z=>⟨_,rfl⟩)) (fun Z=>rfl) (fun Z=>rfl))
  (zE (yq (yT (zAs (W.mt 1 _ _ _ rfl) (W.kf 14 _ rfl) (zCG W (Nat.le_trans (by decide) hd))) (zd (yP (W.at_ 2 _ _ rfl)) (v0 0 rfl rfl) (fun Z=>rfl)) (zA (v0 7 rfl rfl) (zA (zBN (za (v0 6 rfl rfl) zH rfl) zU (zQ (v0 2 rfl rfl) (zl (zl (zL (b0 (W.bn 0 _ _ rfl) (fun Z=>rfl) rfl rfl) (zY _) qK (zA (v0 4 rfl rfl) zG (zB rfl)) (zS rfl)) zH) (zL (b0 (W.bn 0 _ _ rfl) (fun Z=>rfl) rfl rfl) (zY _) qK (zA (v0 2 rfl rfl) zG (zB rfl)) (zS rfl))) (fun Z Z=>rfl))) zG (zB rfl)) (zB rfl)) (zS rfl) (fun Z=>⟨_,rfl⟩)) (fun Z=>rfl) (fun Z=>rfl))
  zI)))
  (zE (zg (za (zL (b0 (W.bn 0 _ _ rfl) (fun Z=>rfl) rfl rfl) (zY _) qK (zA (v0 4 rfl rfl) zG (zB rfl)) (zS rfl)) zH rfl) (zE (zT 5 rfl zCM (zN rfl) (yT (zAs (W.mt 2 _ _ _ rfl) (W.kf 41 _ rfl) (zBe W (Nat.le_trans (by decide) hd))) (v0 3 rfl rfl) zG zDd (fun Z=>⟨_,rfl⟩)) (fun Z=>rfl))
  zI) zI)
  zI))))
  (zE (zP (v0 4 rfl rfl))
  zI))) (zE (zP (zQW (v0 4 rfl rfl) (zFM (zA zU zG (zB rfl)))))
  zI) (W.gn 59 _ _ rfl) (fun Z=>rfl) rfl)
  zI)))
def zAR:zh:=yK 3 9 zFj
theorem zNk (W:WOk Tp w) {d:Nat}(hd:84<=d):yQ Tp w d (.ref 593) zAR:=(zb (zf (W.fn 55 _ rfl) zNc) (zQO W (Nat.le_refl _))).up hd
theorem zPS (W:WOk Tp w) {d:Nat}(hd:84<=d):yN Tp w d (.ref 593) zAR:=(zNk W hd).snd
def zVA:zX:=(zK (zx 1 (qe true 1 [] (zMU (zF 0) (zC (.int 24))) qP (qy (ye .Mod (zO zSE (zD (zF 0) zM)) (ye .Pow (zC (.int 10)) (zC (.int 60)))))))
  (zK (zx 2 (qe false 1 [1] (zO zAE (zD (ye .Add (zC (.int 1)) (zO zn (zD (zF 1) (zD (zC (.int 4)) zM)))) zM)) qP (qy (zO (yo 4) (zD (zF 1) (zD (zC (.int 2)) zM))))))
  (zK (zx 3 (qe false 1 [1] (zO zAE (zD (zC (.int 5)) zM)) qP (qy (ye .Sub (zO zn (zD (zF 1) (zD (zC (.int 6)) zM))) (zC (.int 1))))))
  (zK (zx 4 (zO zBz (zD (zF 1) zM)))
  (zK (zx 5 (zO zAj (zD (zF 4) zM)))
  (zK (zx 6 (zO zAj (zD (zF 4) zM)))
  (zK (zx 7 (zO tdict (zD (qe false 1 [4] (zF 4) qP (qy (zp (zD (zF 0) (zD (zO tdict (zD (zZ (zF 1) (zF 0)) zM)) zM))))) zM)))
  (zK (zx 8 (zHR zM))
  (zK (zx 9 (zO (yk 6) (zD (zF 4) (zD (zF 8) (zD (zF 3) (zD (zF 2) zM))))))
  (zK (zx 10 (qe false 1 [] (zF 8) (bor [(yA .IsNot (zZ (zF 0) (zC (.int 1))) (zC .none)),(yA .IsNot (zZ (zF 0) (zC (.int 2))) (zC .none))]) (qy (zF 0))))
  (zK (zw (qH .NotEq (zO zAR (zD (zF 5) (zD (zF 2) (zD (zF 3) zM)))) (zIl (zF 10) (dif (bor [(zCt (zF 9)),(yA .GtE (zO qw (zD (zF 10) zM)) (zC (.int 40)))]) (zFb zM) (zFb (zD (zC (.str "fault")) zM))))) (zK (zj (zC (.bool false)))
  zJ) zJ)
  (zK (zx 11 (zO zAj (zD (zF 4) zM)))
  (zK (zw (qH .NotEq (zp (zD (zq [210] (zq [313] (zF 5) "memory") "numeric") (zD (zq [210] (zq [313] (zF 5) "memory") "characters") zM))) (zp (zD (zq [210] (zq [313] (zF 11) "memory") "numeric") (zD (zq [210] (zq [313] (zF 11) "memory") "characters") zM)))) (zK (zj (zC (.bool false)))
  zJ) zJ)
  (zK (zx 8 (zHR zM))
  (zK (zx 9 (zO (yk 6) (zD (zF 7) (zD (zF 8) (zD (zC .none) (zD (zF 2) zM))))))
  (zK (zw (yA .GtE (zO qw (zD (zF 8) zM)) (zC (.int 40))) (zK (zj (zC (.bool true)))
  zJ) zJ)
  (zK (zVQ (zK (zx 12 (zO zDA (zD (zF 6) (zD (zF 2) zM))))
  zJ) (zK (zj (zPG (zF 9)))
  zJ))
  (zK (zj (zXs (zF 9) (zPD .Eq (qe false 1 [] (zF 12) qP (qy (zp (zD (zZ (zF 0) (zC (.int 0))) (zD (zZ (zF 0) (zC (.int 1))) zM))))) (qe false 1 [] (zF 8) qP (qy (zp (zD (zZ (zF 0) (zC (.int 0))) (zD (zZ (zF 0) (zC (.int 1))) zM))))))))
  zJ))))))))))))))))))
theorem zcY (W:WOk Tp w) {d:Nat}(hd:84<=d):zz Tp w d true zAK.F zAK.nm (zu zAK.st) (zVA):=
  (zE (zT 1 rfl zCL (zN rfl) (zBW true (zED (nmc:=["number"]) (qB [] (fun Z=>rfl) (by decide +kernel) (fun Z=>rfl)) W.sys (by decide) rfl (zQd (v0 0 rfl rfl) zH) (zl (zL (b1 (W.bn 1 _ _ rfl) (fun Z=>rfl) rfl rfl rfl) (zY _) zOe (zA (v1 0 rfl rfl rfl) zG (zB rfl)) (zS rfl)) (zl zH zH)) (fun Z Z=>rfl) (.inl ⟨rfl,rfl⟩))) (fun Z=>rfl))
  (zE (zCy false 2 rfl zCL (zN rfl) (zED (nmc:=["k","pool"]) (qB ["pool"] (fun Z=>rfl) (by decide +kernel) (fun Z=>rfl)) W.sys (by decide) rfl (zL (b0 (W.bn 3 _ _ rfl) (fun Z=>rfl) rfl rfl) (yt _) zAP (zA (zl zH (zL (g0 (W.gn 45 _ _ rfl) (fun Z=>rfl) rfl rfl) (W.kf 48 _ rfl) (yg W (Nat.le_trans (by decide) hd)) (zA (v0 1 rfl rfl) (zA zH zG (zB rfl)) (zB rfl)) (zS rfl))) zG (zB rfl)) (zS rfl)) (zL (g1 (W.gn 48 _ _ rfl) (fun Z=>rfl) rfl rfl rfl) (W.kf 51 _ rfl) (zKJ W 4 (Nat.le_trans (by decide) hd)) (zA (v1 1 rfl rfl rfl) (zA zH zG (zB rfl)) (zB rfl)) (zS rfl)) (fun Z Z=>rfl) (.inl ⟨rfl,rfl⟩)) (fun Z=>rfl))
  (zE (zCy false 3 rfl zCL (zN rfl) (zED (nmc:=["k","pool"]) (qB ["pool"] (fun Z=>rfl) (by decide +kernel) (fun Z=>rfl)) W.sys (by decide) rfl (zL (b0 (W.bn 3 _ _ rfl) (fun Z=>rfl) rfl rfl) (yt _) zAP (zA zH zG (zB rfl)) (zS rfl)) (zl (zL (g1 (W.gn 45 _ _ rfl) (fun Z=>rfl) rfl rfl rfl) (W.kf 48 _ rfl) (yg W (Nat.le_trans (by decide) hd)) (zA (v1 1 rfl rfl rfl) (zA zH zG (zB rfl)) (zB rfl)) (zS rfl)) zH) (fun Z Z=>rfl) (.inl ⟨rfl,rfl⟩)) (fun Z=>rfl))
  (zE (zT 4 rfl zCL (zN rfl) (zL (g0 (W.gn 55 _ _ rfl) (fun Z=>rfl) rfl rfl) (W.kf 58 _ rfl) (zPT W (Nat.le_trans (by decide) hd)) (zA (v0 1 rfl rfl) zG (zB rfl)) (zS rfl)) (fun Z=>rfl))
  (zE (zT 5 rfl zCL (zN rfl) (zL (g0 (W.gn 56 _ _ rfl) (fun Z=>rfl) rfl rfl) (W.kf 59 _ rfl) (zIK W (Nat.le_trans (by decide) hd)) (zA (v0 4 rfl rfl) zG (zB rfl)) (zS rfl)) (fun Z=>rfl))
  (zE (zT 6 rfl zCL (zN rfl) (zL (g0 (W.gn 56 _ _ rfl) (fun Z=>rfl) rfl rfl) (W.kf 59 _ rfl) (zIK W (Nat.le_trans (by decide) hd)) (zA (v0 4 rfl rfl) zG (zB rfl)) (zS rfl)) (fun Z=>rfl))
  (zE (zT 7 rfl zCL (zN rfl) (zL (b0 (W.bn 6 _ _ rfl) (fun Z=>rfl) rfl rfl) (yt _) (zIe W.sys) (zA (zBW false (zED (nmc:=["name","held"]) (qB ["held"] (fun Z=>rfl) (by decide +kernel) (fun Z=>rfl)) W.sys (by decide) rfl (v0 4 rfl rfl) (zR (zA (v1 0 rfl rfl rfl) (zA (zL (b1 (W.bn 6 _ _ rfl) (fun Z=>rfl) rfl rfl rfl) (yt _) (zIe W.sys) (zA (zQ (v1 1 rfl rfl rfl) (v1 0 rfl rfl rfl) (fun Z Z=>rfl)) zG (zB rfl)) (zS rfl)) zG (zB rfl)) (zB rfl))) (fun Z Z=>rfl) (.inl ⟨rfl,rfl⟩))) zG (zB rfl)) (zS rfl)) (fun Z=>rfl))
  (zE (zT 8 rfl zCL (zN rfl) (zFN zG) (fun Z=>rfl))
  (zE (zT 9 rfl zCL (zN rfl) (zL (g0 (W.gn 54 _ _ rfl) (fun Z=>rfl) rfl rfl) (W.kf 57 _ rfl) (zIL W 6 (Nat.le_trans (by decide) hd)) (zA (v0 4 rfl rfl) (zA (v0 8 rfl rfl) (zA (v0 3 rfl rfl) (zA (v0 2 rfl rfl) zG (zB rfl)) (zB rfl)) (zB rfl)) (zB rfl)) (zS rfl)) (fun Z=>rfl))
  (zE (zCy false 10 rfl zCL (zN rfl) (zED (nmc:=["one"]) (qB [] (fun Z=>rfl) (by decide +kernel) (fun Z=>rfl)) W.sys (by decide) rfl (v0 8 rfl rfl) (v1 0 rfl rfl rfl) (fun Z Z=>rfl) (.inr ⟨_,rfl,(zBM (.cons (za (zQ (v1 0 rfl rfl rfl) zH (fun Z Z=>rfl)) zv rfl) (.cons (za (zQ (v1 0 rfl rfl rfl) zH (fun Z Z=>rfl)) zv rfl) .nil)))⟩)) (fun Z=>rfl))
  (zE (zg (yH W.sys (zL (g0 (W.gn 57 _ _ rfl) (fun Z=>rfl) rfl rfl) (W.kf 60 _ rfl) (zPS W (Nat.le_trans (by decide) hd)) (zA (v0 5 rfl rfl) (zA (v0 2 rfl rfl) (zA (v0 3 rfl rfl) zG (zB rfl)) (zB rfl)) (zB rfl)) (zS rfl)) (zQW (v0 10 rfl rfl) (zBN (zBM (.cons (zAM (v0 9 rfl rfl) (fun Z Z=>rfl)) (.cons (za (zL (b0 (W.bn 0 _ _ rfl) (fun Z=>rfl) rfl rfl) (zY _) qK (zA (v0 10 rfl rfl) zG (zB rfl)) (zS rfl)) zH rfl) .nil))) (zFM zG) (zFM (zA zU zG (zB rfl))))) rfl) (zE (zP zAN)
  zI) zI)
  (zE (zT 11 rfl zCL (zN rfl) (zL (g0 (W.gn 56 _ _ rfl) (fun Z=>rfl) rfl rfl) (W.kf 59 _ rfl) (zIK W (Nat.le_trans (by decide) hd)) (zA (v0 4 rfl rfl) zG (zB rfl)) (zS rfl)) (fun Z=>rfl))
  (zE (zg (yH W.sys (zR (zA (zd (yP (W.at_ 0 _ _ rfl)) (zd (yP (W.at_ 2 _ _ rfl)) (v0 5 rfl rfl) (fun Z=>rfl)) (fun Z=>rfl)) (zA (zd (yP (W.at_ 1 _ _ rfl)) (zd (yP (W.at_ 2 _ _ rfl)) (v0 5 rfl rfl) (fun Z=>rfl)) (fun Z=>rfl)) zG (zB rfl)) (zB rfl))) (zR (zA (zd (yP (W.at_ 0 _ _ rfl)) (zd (yP (W.at_ 2 _ _ rfl)) (v0 11 rfl rfl) (fun Z=>rfl)) (fun Z=>rfl)) (zA (zd (yP (W.at_ 1 _ _ rfl)) (zd (yP (W.at_ 2 _ _ rfl)) (v0 11 rfl rfl) (fun Z=>rfl)) (fun Z=>rfl)) zG (zB rfl)) (zB rfl))) rfl) (zE (zP zAN)
  zI) zI)
  (zE (zT 8 rfl zCL (zN rfl) (zFN zG) (fun Z=>rfl))
  (zE (zT 9 rfl zCL (zN rfl) (zL (g0 (W.gn 54 _ _ rfl) (fun Z=>rfl) rfl rfl) (W.kf 57 _ rfl) (zIL W 6 (Nat.le_trans (by decide) hd)) (zA (v0 7 rfl rfl) (zA (v0 8 rfl rfl) (zA zv (zA (v0 2 rfl rfl) zG (zB rfl)) (zB rfl)) (zB rfl)) (zB rfl)) (zS rfl)) (fun Z=>rfl))
  (zE (zg (za (zL (b0 (W.bn 0 _ _ rfl) (fun Z=>rfl) rfl rfl) (zY _) qK (zA (v0 8 rfl rfl) zG (zB rfl)) (zS rfl)) zH rfl) (zE (zP zAN)
  zI) zI)
  (zE (zTK W.exc (zE (zT 12 rfl zCL (zN rfl) (zL (g0 (W.gn 42 _ _ rfl) (fun Z=>rfl) rfl rfl) (W.kf 44 _ rfl) (zVi W (Nat.le_trans (by decide) hd)) (zA (v0 6 rfl rfl) (zA (v0 2 rfl rfl) zG (zB rfl)) (zB rfl)) (zS rfl)) (fun Z=>rfl))
  zI) (zE (zP (zXK (v0 9 rfl rfl)))
  zI) (W.gn 59 _ _ rfl) (fun Z=>rfl) rfl)
  (zE (zP (zYx (v0 9 rfl rfl) (zQY W.sys (zBW false (zED (nmc:=["one"]) (qB [] (fun Z=>rfl) (by decide +kernel) (fun Z=>rfl)) W.sys (by decide) rfl (v0 12 rfl rfl) (zR (zA (zQ (v1 0 rfl rfl rfl) zH (fun Z Z=>rfl)) (zA (zQ (v1 0 rfl rfl rfl) zH (fun Z Z=>rfl)) zG (zB rfl)) (zB rfl))) (fun Z Z=>rfl) (.inl ⟨rfl,rfl⟩))) (zBW false (zED (nmc:=["one"]) (qB [] (fun Z=>rfl) (by decide +kernel) (fun Z=>rfl)) W.sys (by decide) rfl (v0 8 rfl rfl) (zR (zA (zQ (v1 0 rfl rfl rfl) zH (fun Z Z=>rfl)) (zA (zQ (v1 0 rfl rfl rfl) zH (fun Z Z=>rfl)) zG (zB rfl)) (zB rfl))) (fun Z Z=>rfl) (.inl ⟨rfl,rfl⟩))) rfl)))
  zI))))))))))))))))))
def zTO:zh:=yK 1 13 zVA
section
open Builtin Builtin.ObjectAttr
noncomputable abbrev zVd:List Value:=[.type "Exception",.type "BaseException",.type "object"]
noncomputable abbrev zFD:List Value:=.ref 38::zVd
noncomputable abbrev zFU (tt:Addr):Obj:={ cls:=.ref 51,data:=.fields #[.ref tt,.none,.none,.none,.bool false,.none] }
section
variable {M:Model}{prog:Program}{w:World}{A:Around}{E:Value->Shared->Prop}{h:Heap}{g:Array GenState}{d:Drawn}{t:Nat}{os:OsState}
variable {nm q:Str}{bs:List Value}{sn:List Str}{sub:List Value}{ab:Bool}{col:Option Bool}{dd:Option Addr}{k0 k1 k2 k3 k5:Option Value}
variable {c0:Value}{dd2:Option Addr}{cd:ClassData}{sl:Array (Option Value)}{mN m2:Str->Option Value}
theorem zIJ {name:Str}{y:Option Value}{Q:Option Value->Shared->Prop}(hC:h.get? 51=some (excClassObj nm q 51 50 bs zFD true sn sub ab col dd k0 k1 k2 k3 k5 "Exception.__new__")) (hn:h.Ns 50 mN)
    (hC2:h.get? 38=some { cls:=c0,dict:=dd2,data:=.cls cd,slots:=sl }) (hn2:h.Ns cd.ns m2) (hB:typeLookup (.type "Exception") name=pure y)
    (hq:Q (match mN name with | some v=>some v | none=>match m2 name with | some v=>some v | none=>y) ⟨h,g,d,t,os⟩):wpAny M A (typeLookup (.ref 51) name) Q E ⟨h,g,d,t,os⟩:=by
  have hrest:lookupAlong zVd name=pure y:=by rw [typeLookup_eq,PySem.F.excBase_Exception.mroIs] at hB;exact hB
  rw [typeLookup_eq]
  refine wpAny_bind (wpAny_mroOf_exc hC ?_)
  rw [lookupAlong_cons]
  refine wpAny_bind (wpAny_classOwn_exc hC hn ?_)
  generalize hv:mN name=z2;induction z2 using Option.casesOn with
  | some v=>rw [hv] at hq;exact wpAny_pure hq
  | none =>
    rw [hv] at hq
    dsimp only at hq ⊢
    rw [lookupAlong_cons]
    refine wpAny_bind (wpAny_classOwn_cls hC2 hn2 ?_)
    generalize hv2:m2 name=z3;induction z3 using Option.casesOn with
    | some v=>rw [hv2] at hq;exact wpAny_pure hq
    | none=>rw [hv2] at hq;rw [hrest];exact wpAny_pure hq
theorem zNS {rest:List Value}{Q:Unit->Shared->Prop}(hC:h.get? 51=some (excClassObj nm q 51 50 bs zFD true sn sub ab col dd k0 k1 k2 k3 k5 "Exception.__new__"))
    (hq:Q () ⟨h,g,d,t,os⟩):wpAny M A (checkBuiltinCall "Exception.__new__" ⟨.ref 51::rest,[]⟩) Q E ⟨h,g,d,t,os⟩:=by
  have F:=PySem.F.excBase_Exception
  have hcont:(Value.ref 51::zFD).contains (.type "Exception")=true:=by decide +kernel
  have hstar:=F.noStar
  simp only [checkBuiltinCall,F.newKind,F.newSplit,F.newRow]
  repeat (first | refine wpAny_loadPart_at hC ?_ | (refine wpAny_isSubtype_exc hC ?_;rw [hcont]) | refine wpAny_staticBase_exc hC ?_ | refine wpAny_madeBy_exc hC ?_ | simp only [bne_self_eq_false,Bool.false_eq_true,if_false] | wp_step)
  exact hq
theorem zZu {R:Result->Shared->Prop}{rest:List Value}(hC:h.get? 51=some (excClassObj nm q 51 50 bs zFD true sn sub ab col dd k0 k1 k2 k3 k5 "Exception.__new__"))
    (hq:R (.ok (.ret (.ref (h.objs.size+1)))) ⟨(h.push { cls:=.type "tuple",data:=.seq rest.toArray }).push (zFU h.objs.size),g,d,t,os⟩) (hrest:rest.length<=sizeLine) :
    codeAny (model prog w) A (.builtin "Exception.__new__" ⟨.ref 51::rest,[]⟩) R ⟨h,g,d,t,os⟩:=by
  have F:=PySem.F.excBase_Exception
  have hends:=F.ends
  have hcB:(Value.ref 51::zFD).contains (.type "Exception")=true:=by decide +kernel
  have hcA:(Value.ref 51::zFD).contains (.type "AttributeError")=false:=by decide +kernel
  have hcN:(Value.ref 51::zFD).contains (.type "NameError")=false:=by decide +kernel
  refine codeAny_builtinAt F.entry ?_
  unfold Builtin.«BaseException.__new__»
  refine PySem.wpAt_bind ?_
  show PySem.wpAt _ _ _ (stack >>= _) _ _ _
  refine PySem.wpAt_bind (PySem.wpAt_stack fun p below=>PySem.wpAt_of_wpAny ?_)
  wp_walk
  refine PySem.wpAt_of_wpAny ?_
  rw [F.owner]
  repeat (first | with_reducible refine wpAny_madeHere_exc F.canon hC ?_ | with_reducible refine wpAny_loadPart_at hC ?_ | (with_reducible refine wpAny_isSubtype_exc hC ?_;first | rw [hcB] | rw [hcA] | rw [hcN]) | wp_step)
  show R _ _
  rw [Heap.size_push]
  exact hq
theorem zLd {e:Addr}{oe:Obj}{rest:List Value}{Q:Unit->Shared->Prop}
    (hC:h.get? 51=some (excClassObj nm q 51 50 bs zFD true sn sub ab col dd k0 k1 k2 k3 k5 "Exception.__new__")) (he:h.get? e=some oe) (hcls:oe.cls=.ref 51) (hq:Q () ⟨h,g,d,t,os⟩) :
    wpAny M A (checkBuiltinCall "Exception.__init__" ⟨.ref e::rest,[]⟩) Q E ⟨h,g,d,t,os⟩:=by
  have F:=PySem.F.excBase_Exception
  have hcB:(Value.ref 51::zFD).contains (.type "Exception")=true:=by decide +kernel
  have hshort:=F.noStar
  simp only [checkBuiltinCall,F.initKind,F.initSplit,F.initRow]
  repeat (first | (with_reducible refine wpAny_loadPart_at he ?_;rw [hcls]) | with_reducible refine wpAny_loadPart_at hC ?_ | (with_reducible refine wpAny_isSubtype_exc hC ?_;rw [hcB]) | wp_step)
  refine wpAny_onRaise ?_
  rw [show ∀(a b:String) (n:Nat),Bind.check ⟨.positional,"*","Exception",.self,[⟨"args",.varPos,false⟩]⟩ a b n (List.map (fun x=>x.fst) ({ pos:=Value.ref e::rest }:Args).kw)=pure () from
    fun a b n=>check_star_args _ _ _ _ _ _]
  exact wpAny_pure hq
theorem zNR {e tt:Addr}{v:Value}{Q:Value->Shared->Prop}(hC:h.get? 51=some (excClassObj nm q 51 50 bs zFD true sn sub ab col dd k0 k1 k2 k3 k5 "Exception.__new__")) (he:h.get? e=some (zFU tt))
    (hq:∀h',(∀b o,b≠e->h.get? b=some o->h'.get? b=some o)->h'.get? e=some (zFU h.objs.size)->Q .none ⟨h',g,d,t,os⟩) :
    wpAny (model prog w) A (call (.builtin "Exception.__init__") [.ref e,v]) Q E ⟨h,g,d,t,os⟩:=by
  have F:=PySem.F.excBase_Exception
  refine wpAny_call (codeAny_call_builtin F.init.plain F.initEntry (zLd hC he rfl ?_))
  wp_walk
  refine hq _ (fun b o hb h1=>?_) ?_
  · rw [Heap.get?_update_other _ _ (Ne.symm hb)]
    exact Heap.get?_push_of_some _ h1
  · rw [Heap.get?_update_self _ (Heap.get?_push_of_some _ he) rfl]
    rfl
noncomputable abbrev zKF (h:Heap) (e:Addr):Heap:=(h.push { cls:=.type "dict",data:=.dict #[] }).update e fun o=>{ cls:=o.cls,dict:=some h.objs.size,data:=o.data,slots:=o.slots }
theorem zYK {e tt:Addr}{Q:Option Addr->Shared->Prop}(hC:h.get? 51=some (excClassObj nm q 51 50 bs zFD true sn sub ab col dd k0 k1 k2 k3 k5 "Exception.__new__")) (he:h.get? e=some (zFU tt))
    (hq:Q (some h.objs.size) ⟨zKF h e,g,d,t,os⟩):wpAny M A (instanceDict e true) Q E ⟨h,g,d,t,os⟩:=by
  unfold instanceDict
  have he1z:=Heap.get?_push_of_some { cls:=.type "dict",data:=.dict #[] } he
  repeat (first | (with_reducible refine wpAny_loadPart_at he ?_) | (with_reducible refine wpAny_loadPart_at hC ?_) | wp_step)
  exact hq
theorem zZw {e tt:Addr}{v:Value}{Q:Unit->Shared->Prop}(hC:h.get? 51=some (excClassObj nm q 51 50 bs zFD true sn sub ab col dd k0 k1 k2 k3 k5 "Exception.__new__")) (hn:h.Ns 50 mN)
    (hC2:h.get? 38=some { cls:=c0,dict:=dd2,data:=.cls cd,slots:=sl }) (hn2:h.Ns cd.ns m2) (hs1:mN "__setattr__" = none) (hs2:m2 "__setattr__" = none) (ht1:mN "text" = none) (ht2:m2 "text" = none) (he:h.get? e=some (zFU tt))
    (hq:∀h' tk' dx,(∀b o,b≠e->h.get? b=some o->h'.get? b=some o)->h'.get? e=some (zKG (some dx) tt)->Q () ⟨h',g,d,tk',os⟩) :
    wpAny (model prog w) A (setAttr (.ref e) "text" v) Q E ⟨h,g,d,t,os⟩:=by
  have SF:=PySem.F.store_Exception
  have f3:=SF.slot.bind (.ref e)
  have hcB:(Value.ref 51::zFD).contains (.type "object")=true:=by decide +kernel
  have hBt:typeLookup (.type "Exception") "text" = pure none:=by rw [typeLookup_type,builtinLookup_eq_fast];kernel_rfl
  unfold setAttr callSpecial? specialOf
  repeat (any_goals (first | assumption | (with_reducible refine wpAny_loadPart_at he ?_) | (with_reducible refine zIJ hC hn hC2 hn2 SF.slot.lookup ?_;rw [hs1,hs2]) | wp_step))
  refine codeAny_call_builtin SF.slot.plain SF.entry ?_
  have ha:=SF.args (.ref e) (.str "text" t) v
  have L1:Looks (model prog w) h (isInstance (.ref e) (.type "object")) true:=fun A' Q' E' s' k z=>by
    obtain ⟨h',g',d',t',os'⟩:=s'
    unfold isInstance
    have he':=k _ _ he
    have hC':=k _ _ hC
    repeat (first | (with_reducible refine wpAny_loadPart_at he' ?_) | (with_reducible refine wpAny_isSubtype_exc hC' ?_;rw [hcB]) | wp_step)
    exact z
  refine @check_slot (model prog w) _ _ ⟨h,g,d,t+1,os⟩ "object.__setattr__" "object" "__setattr__" (.ref e) [.str "text" t,v] [] _ SF.kind SF.split L1 ha ?_
  have LT:Looks (model prog w) h (typeOf (.ref e)) (.ref 51):=(Looks.ld he).andThen .now
  show wpAny _ _ (Builtin.«object.__setattr__» ⟨[.ref e,.str "text" t,v],[]⟩) _ _ _
  rw [osa_eq,refuse_eq]
  refine wpAny_bind (wpAny_bind (LT.here (wpAny_bind (wpAny_mroOf_exc hC ?_))))
  rw [refuseLoop_ref,refuseLoop_ref,SF.passes (.ref e)]
  refine wpAny_pure (wpAny_bind (LT.here (wpAny_bind (zIJ hC hn hC2 hn2 hBt ?_))))
  rw [ht1,ht2]
  refine wpAny_bind (wpAny_pure ?_)
  refine wpAny_bind (wpAny_pure (wpAny_bind (zYK hC he ?_)))
  have hx1:=Heap.get?_push_of_some { cls:=.type "dict",data:=.dict #[] } he
  have hxs:e≠h.objs.size:=Nat.ne_of_lt (Heap.lt_size he)
  have hgd:(zKF h e).get? h.objs.size=some { cls:=.type "dict",data:=.dict #[] }:=(Heap.get?_update_ne _ _ _ _ hxs.symm).trans (Heap.get?_push_at rfl rfl)
  have hnd:(zKF h e).Ns h.objs.size (fun Z=>none):=(qi _ (#[]) _ hgd rfl (fun e he=>absurd he (by simp)) (fun Z=>rfl))
  show wpAny _ _ (storeInDict h.objs.size (.str "text" t) "text" v) _ _ _
  unfold storeInDict newKeyGuard
  refine wpAny_bind (wpAny_pure (wpAny_bind (wpAny_nsSet1 (Heap.Ns1.of_empty hnd) fun h' hn' hs=>?_)))
  refine zLL (hn'.count (Within.cons "text" v Within.nil)) fun oD esD epD hoD hdD hcD=>?_
  refine wpAny_bind (wpAny_lookBehind hoD (by rw [hdD];exact pastItsLine_dict (Nat.le_trans hcD (by rw [List.length_cons,List.length_nil,sizeLine_eq];lia))) ?_)
  refine wpAny_pure (wpAny_pure (wpAny_pure (hq h' _ h.objs.size (fun b o hb h1=>?_) ?_)))
  · exact (hs.2 b (Nat.ne_of_lt (Heap.lt_size h1))).trans ((Heap.get?_update_ne _ _ _ _ hb).trans (Heap.get?_push_of_some _ h1))
  · exact (hs.2 e hxs).trans (Heap.get?_update_self _ hx1 rfl)
end
noncomputable def zFV:ym:=⟨⟨"F77Error.__init__",zi (inC 2 0),35,.ref 34⟩,(inC 2 0),["self","text"],2⟩
inductive zbL (Tp:World->Heap->Prop) (w:World):Prop
  | mk (nm q bs sn sub ab col dd k0 k1 k2 k3 k5 c0 dd2 cd sl) (mN m2:Str->Option Value):mN "__init__" = none->mN "__setattr__" = none->mN "text" = none->m2 "__init__" = some (.ref 35)->m2 "__setattr__" = none->m2 "text" = none ->
    (∀B,Tp w B->B.get? 51=some (excClassObj nm q 51 50 bs zFD true sn sub ab col dd k0 k1 k2 k3 k5 "Exception.__new__")/\B.Ns 50 mN/\B.get? 38=some { cls:=c0,dict:=dd2,data:=.cls cd,slots:=sl }/\B.Ns cd.ns m2)->zbL Tp w
structure zZY (Tp:World->Heap->Prop) (w:World):Prop where
  cls:zbL Tp w
  fn:zUr Tp w zFV
  nam:zMR Tp w "Exception" (.type "Exception")
  ft:∀B,Tp w B->∃o,B.get? 35=some o/\o.cls=.type "function"
theorem zYJ:zu (inC 2 0)=[.Expr (.Call (.Attribute (.Name "Exception" ⟨8,8,8,17⟩) "__init__" ⟨8,8,8,26⟩) [.Name "self" ⟨8,27,8,31⟩,.Name "text" ⟨8,33,8,37⟩] [] ⟨8,8,8,38⟩) ⟨8,8,8,38⟩,.Assign [.Attribute (.Name "self" ⟨9,8,9,12⟩) "text" ⟨9,8,9,17⟩] (.Name "text" ⟨9,20,9,24⟩) ⟨9,8,9,24⟩]:=rfl
theorem zYM:typeOf (.type "Exception")=pure (.type "type"):=by kernel_rfl
theorem zYL:findCls [] (.type "Exception") (.type "type") "__init__" = some (.val (.builtin "Exception.__init__")):=by kernel_rfl
section
variable {w:World}{A:Around}{B:Heap}{E:Value->Shared->Prop}{s:Shared}{F:FD}{L:Addr}{h₀:Heap}
variable {nm q:Str}{bs:List Value}{sn:List Str}{sub:List Value}{ab:Bool}{col:Option Bool}{dd:Option Addr}{k0 k1 k2 k3 k5:Option Value}
variable {c0:Value}{dd2:Option Addr}{cd:ClassData}{sl:Array (Option Value)}{mN m2 mg mb ml:Str->Option Value}
theorem zZv {e tt:Addr}{vt:Value}{Q:Flow->Shared->Prop}(hsc:F.scope=zi (inC 2 0)) (hC:s.heap.get? 51=some (excClassObj nm q 51 50 bs zFD true sn sub ab col dd k0 k1 k2 k3 k5 "Exception.__new__")) (hn:s.heap.Ns 50 mN)
    (hC2:s.heap.get? 38=some { cls:=c0,dict:=dd2,data:=.cls cd,slots:=sl }) (hn2:s.heap.Ns cd.ns m2) (hs1:mN "__setattr__" = none) (hs2:m2 "__setattr__" = none) (ht1:mN "text" = none) (ht2:m2 "text" = none) (he:s.heap.get? e=some (zFU tt))
    (hg:s.heap.Ns mainGlobals mg) (hgn:mg "Exception" = none) (hb:s.heap.Ns builtinsNs mb) (hbv:mb "Exception" = some (.type "Exception")) (hl:s.heap.Ns L ml) (m1:ml "self" = some (.ref e)) (m2':ml "text" = some vt) (h51:e≠51) (h38:e≠38) (h50:e≠50) (hcd:e≠cd.ns) (hL:e≠L)
    (hq:∀h' tk' dx t',(∀b o,b≠e->s.heap.get? b=some o->h'.get? b=some o)->h'.get? e=some (zKG (some dx) t')->Q .next { s with heap:=h',toks:=tk' }) :
    wpAny (model PG w) A (execs (zu (inC 2 0)) (yE F L)) Q E s:=by
  obtain ⟨fn,fs,fa,fcd⟩:=F
  dsimp only at hsc
  subst hsc
  have kE:(yE ⟨fn,zi (inC 2 0),fa,fcd⟩ L).kindOf "Exception" = some .globalImplicit:=rfl
  have kS:(yE ⟨fn,zi (inC 2 0),fa,fcd⟩ L).kindOf "self" = some .local:=rfl
  have kT:(yE ⟨fn,zi (inC 2 0),fa,fcd⟩ L).kindOf "text" = some .local:=rfl
  have kk:(yE ⟨fn,zi (inC 2 0),fa,fcd⟩ L).scope.kind=.function:=rfl
  have keepNs:∀{h':Heap}{a:Addr}{m:Str->Option Value},a≠e->(∀b o,b≠e->s.heap.get? b=some o->h'.get? b=some o)->s.heap.Ns a m->h'.Ns a m:=fun ha k ⟨o,es,ep,z,r⟩=>⟨o,es,ep,k _ _ ha z,r⟩
  rw [zYJ]
  refine wpAny_execs_cons ?_
  rw [exec_Expr (yE ⟨fn,zi (inC 2 0),fa,fcd⟩ L) _ _ rfl rfl]
  refine wpAny_bind (wpAny_standAt (wpAny_bind ?_))
  refine methodCall_KW ?_
  refine Name_function_global kk kE (loadGlobal_builtin (mg:=mg) (mb:=mb) hg hgn hb hbv ?_) (by decide)
  refine method_type (K:=[]) (⟨hl,fun Z Z z=>by rw [Heap.get?_none_of_le (Nat.zero_le _)] at z;(exact zW z),Nat.zero_le _⟩:Fr {} L s.heap ml) (fun Z Z z=>nomatch z) zYM (by decide +kernel) zYL (by decide +kernel) ?_
  refine callWith_of (P:=fun Z=>True) rfl (fun h Z=>(iEA .machine (.inr (.inl rfl)) (Looks.of_pure rfl))) ?_
  refine evalArgs_plain (Calls.spliced_cons (wpAny_Name (wpAny_loadName_local kk kS hl m1 ?_) (by decide)))
  refine Calls.spliced_cons (wpAny_Name (wpAny_loadName_local kk kT hl m2' ?_) (by decide))
  refine Calls.spliced_nil ⟨trivial,?_⟩
  obtain ⟨h,gs,dr,tk,os⟩:=s
  refine zNR (v:=vt) hC he fun h' kp hx=>?_
  refine wpAny_dropValue ?_
  dsimp only
  refine wpAny_execs_cons ?_
  refine plainObj_wpAny_Assign_Attribute ?_ rfl
  have hl':=keepNs (Ne.symm hL) kp hl
  refine wpAny_Name (wpAny_loadName_local kk kT hl' m2' ?_) (by decide)
  refine wpAny_Name (wpAny_loadName_local kk kS hl' m1 ?_) (by decide)
  refine zZw (kp _ _ (Ne.symm h51) hC) (keepNs (Ne.symm h50) kp hn) (kp _ _ (Ne.symm h38) hC2) (keepNs (Ne.symm hcd) kp hn2) hs1 hs2 ht1 ht2 hx fun h'' tk' dx kp' hx'=>?_
  exact wpAny_execs_nil (hq h'' tk' dx _ (fun b o hb z=>kp' b o hb (kp b o hb z)) hx')
theorem zWr {Tp:World->Heap->Prop}(R:zZY Tp w):zHs Tp w 8:=by
  intro A B outer fs L Fd X g M m s I x t Q E hq
  obtain ⟨nm,q,bs,sn,sub,ab,col,dd,k0,k1,k2,k3,k5,c0,dd2,cd,sl,mN,m2,i1,i2,i3,i4,i5,i6,hR⟩:=R.cls
  refine zBb (hR B X.top) fun hC hn hC2 hn2=>?_
  refine yl (R.nam B X.top) fun mg mb hg hgn hb hbv=>?_
  refine zBc (R.fn B X.top) fun nl cr oc od dV kV doc pm an ct fsl ho hbind=>?_
  refine xEA (R.ft B X.top) fun fo hfo hfc=>?_
  have bl:∀{a:Addr}{o:Obj},B.get? a=some o->a<B.objs.size:=fun z=>Heap.lt_size z
  have bn:∀{a:Addr}{m:Str->Option Value},B.Ns a m->a<B.objs.size:=fun ⟨o,es,ep,z,_⟩=>Heap.lt_size z
  have hBs:B.objs.size<=s.heap.objs.size:=Nat.le_trans I.lb (Nat.le_of_lt I.ns.lt)
  have l51:=bl hC
  have l38:=bl hC2
  have l50:=bn hn
  have lcd:=bn hn2
  have keep:=I.keep
  have room:A.depth+8<recursionLimit:=X.room
  have hTp:=X.top
  clear I X
  obtain ⟨h,gs,dr,tk,os⟩:=s
  dsimp only at keep hBs hq ⊢
  replace hC:=keep _ _ hC
  have f1:=tc_lookup
  have f2:=tc_bind (.ref 51)
  have hT:(⟨h,gs,dr,tk,os⟩:Shared).TypeIs (.ref 51) "type":=(iEA _ hC rfl)
  refine wpAny_call (codeAny_of_tree ?_)
  show wpAny _ _ (callAny (.ref 51) _) _ _ _
  repeat (any_goals (first | assumption | with_reducible refine wpAny_loadPart_at hC ?_ | wp_step))
  refine ⟨rfl,?_⟩
  refine codeAny_call_builtin_at (Code.quiet_builtin _ (by decide +kernel)) entry_typeCall (wpAny_check_type_call_sub hC ?_)
  have Fx:=PySem.F.excBase_Exception
  repeat (first | with_reducible refine wpAny_loadPart_at hC ?_ | with_reducible refine wpAny_madeBy_exc hC ?_ | wp_step)
  refine codeAny_call_builtin_code (Code.quiet_builtin _ Fx.quiet) (zNS hC ?_)
  refine zZu hC ?_ (by show 1<=sizeLine;rw [sizeLine_eq];decide)
  show wpAny _ _ _ _ _ _
  have kp:∀b o,h.get? b=some o->((h.push { cls:=.type "tuple",data:=.seq #[.str x t] }).push (zFU h.objs.size)).get? b=some o:=fun b o z=>Heap.get?_push_of_some _ (Heap.get?_push_of_some _ z)
  have hget:((h.push { cls:=.type "tuple",data:=.seq #[.str x t] }).push (zFU h.objs.size)).get? (h.objs.size+1)=some (zFU h.objs.size):=by heap_get
  have kB:∀b o,B.get? b=some o->((h.push { cls:=.type "tuple",data:=.seq #[.str x t] }).push (zFU h.objs.size)).get? b=some o:=fun b o z=>kp _ _ (keep _ _ z)
  have hC1:=kp _ _ hC
  have hcC:(Value.ref 51::zFD).contains (.ref 51)=true:=by decide +kernel
  unfold isInstance
  repeat (first | with_reducible refine wpAny_loadPart_at hget ?_ | (show wpAny _ _ (isSubtype (.ref 51) (.ref 51)) _ _ _;refine wpAny_isSubtype_exc hC1 ?_;rw [hcC]) | wp_step)
  show wpAny _ _ (typeLookup (.ref 51) _) _ _ _
  refine zIJ hC1 (hn.keeps kB) (kB _ _ hC2) (hn2.keeps kB) Fx.init.lookup ?_
  rw [i1,i4]
  refine wpAny_holding (wpAny_bind ?_)
  unfold bindSpecial
  refine wpAny_bind (wpAny_typeOf (T := "function") (iEA _ (kB _ _ hfo) hfc) ?_)
  rw [if_pos (by decide)]
  refine wpAny_pure (wpAny_bind (wpAny_call ?_))
  refine codeAny_call_cells (fd:=fnX (zFX zFV.st) zFV.F.name (zFW zFV.st) (zu zFV.st) zFV.F.scope [] dV kV doc pm an zFV.F.cd ct) (body:=zu zFV.st) (binds:=(zFV.nm.take 2).zip [.ref (h.objs.size+1),.str x t]) ?_ (kB _ _ ho) rfl (nl.keeps kB) (cr.keeps kB) rfl (hbind [.ref (h.objs.size+1),.str x t] rfl) rfl (fun y hy=>?_) (fun s1z z=>?_) rfl rfl rfl
  · show (A.under (.builtin "type.__call__" ⟨.ref 51::[.str x t],[]⟩)).depth<_
    rw [depth_under_kw];lia
  · rcases List.mem_cons.mp hy with rfl | hy
    · exact .inl rfl
    · rcases List.mem_cons.mp hy with rfl | hy
      · exact .inl rfl
      · cases hy
  · refine zHH z.done fun h1z tk1z z1 k1=>?_;subst z1
    have kB1:∀b o,B.get? b=some o->h1z.get? b=some o:=fun b o q=>k1 _ _ (kB _ _ q)
    have ns:=z.toInCall.ns
    have he1:=k1 _ _ hget
    have hsz:((h.push { cls:=.type "tuple",data:=.seq #[.str x t] }).push (zFU h.objs.size)).objs.size=h.objs.size+2:=by rw [Heap.size_push,Heap.size_push]
    refine zZv (L:=((h.push { cls:=.type "tuple",data:=.seq #[.str x t] }).push (zFU h.objs.size)).objs.size) (F:=zFV.F) (e:=h.objs.size+1) rfl (kB1 _ _ (hR B hTp).1) (hn.keeps kB1) (kB1 _ _ hC2) (hn2.keeps kB1) i2 i5 i3 i6 he1 (hg.keeps kB1) hgn (hb.keeps kB1) hbv ns rfl rfl ?_ ?_ ?_ ?_ ?_ (fun h' tk' dx t' kk hx=>?_)
    · exact Nat.ne_of_gt (Nat.lt_succ_of_lt (Nat.lt_of_lt_of_le l51 hBs))
    · exact Nat.ne_of_gt (Nat.lt_succ_of_lt (Nat.lt_of_lt_of_le l38 hBs))
    · exact Nat.ne_of_gt (Nat.lt_succ_of_lt (Nat.lt_of_lt_of_le l50 hBs))
    · exact Nat.ne_of_gt (Nat.lt_succ_of_lt (Nat.lt_of_lt_of_le lcd hBs))
    · rw [hsz];exact Nat.ne_of_lt (Nat.lt_succ_self _)
    · refine wpAny_pure ?_
      wp_walk
      refine hq h' tk' (h.objs.size+1) dx t' (fun b o q=>kk _ _ (Nat.ne_of_lt (Nat.lt_succ_of_lt (Heap.lt_size q))) (k1 _ _ (kp _ _ q))) (Heap.get?_none_of_le (Nat.le_succ _)) hx
end
end
structure zbK (Tp:World->Heap->Prop) (w:World):Prop where
  cl:zSJ Tp w 494 491
  at_:∀(i:Nat) (C:Addr) (n:Str),zXj[i]?=some (C,n)->zEK Tp w C n
  fn:∀B,Tp w B->B.NoLimit/\B.CodeRec zc.F.cd zc.F.name/\∃oc od dV kV doc pm an ct sl,B.get? zc.F.a=some ⟨oc,od,.func (fnX (zFX zc.st) zc.F.name (zFW zc.st) (zu zc.st) zc.F.scope [] dV kV doc pm an zc.F.cd ct),sl⟩ /\
    ∀v:Value,∀s:Shared,B.StaysIn s.heap->BindsTo s (fnX (zFX zc.st) zc.F.name (zFW zc.st) (zu zc.st) zc.F.scope [] dV kV doc pm an zc.F.cd ct) ⟨[v],[]⟩ (zc.nm.zip [v,.int 32 890,.int 7 891,.int 15 892,.int 38 893,.int 1000000 894,.int 19 895,.int 72 896,.int 40 897])
def zLO:zX:=(zK (yp [494] (zF 0) "width" (zF 1)) (zK (yp [494] (zF 0) "real_digits" (zF 2)) (zK (yp [494] (zF 0) "double_digits" (zF 3)) (zK (yp [494] (zF 0) "top_exponent" (zF 4))
  (zK (yp [494] (zF 0) "steps" (zF 5)) (zK (yp [494] (zF 0) "continuations" (zF 6)) (zK (yp [494] (zF 0) "columns" (zF 7)) (zK (yp [494] (zF 0) "depth" (zF 8)) zJ))))))))
section
theorem zMH (W:zbK Tp w) {d:Nat}:zz Tp w d true zc.F zc.nm (zu zc.st) zLO:=
  (zE (zr (yP (W.at_ 27 _ _ rfl)) (v0 0 rfl rfl) (v0 1 rfl rfl) (fun Z=>rfl)) (zE (zr (yP (W.at_ 28 _ _ rfl)) (v0 0 rfl rfl) (v0 2 rfl rfl) (fun Z=>rfl)) (zE (zr (yP (W.at_ 29 _ _ rfl)) (v0 0 rfl rfl) (v0 3 rfl rfl) (fun Z=>rfl))
  (zE (zr (yP (W.at_ 30 _ _ rfl)) (v0 0 rfl rfl) (v0 4 rfl rfl) (fun Z=>rfl)) (zE (zr (yP (W.at_ 12 _ _ rfl)) (v0 0 rfl rfl) (v0 5 rfl rfl) (fun Z=>rfl)) (zE (zr (yP (W.at_ 31 _ _ rfl)) (v0 0 rfl rfl) (v0 6 rfl rfl) (fun Z=>rfl))
  (zE (zr (yP (W.at_ 32 _ _ rfl)) (v0 0 rfl rfl) (v0 7 rfl rfl) (fun Z=>rfl)) (zE (zr (yP (W.at_ 10 _ _ rfl)) (v0 0 rfl rfl) (v0 8 rfl rfl) (fun Z=>rfl)) zI))))))))
end
theorem zRh (M:Mem) (a b:MO):(M.new a).set M.n b=M.new b:=by
  unfold Mem.new Mem.set
  congr 1
  funext j
  by_cases h:j=M.n<;>simp [h]
theorem zWX (M:Mem) (a:MO):(M.new a).c M.n=a:=by
  show (if M.n=M.n then _ else _)=_;rw [if_pos rfl]
theorem zBx {M:Mem}{C:Addr}{kvs:List (Str×PV)}{name:Str}{x:PV}(h:kvs.length<=100):zEI [C] (M.new (.sdict kvs)) (.inst C M.n) name x=some (M.new (.sdict (stk kvs name x))):=by
  rw [zGA (.head _) (zWX _ _) h,zRh]
theorem zYg:stk (stk (stk (stk (stk (stk (stk (stk [] ("width" : Str) (PV.int 32)) "real_digits" (.int 7)) "double_digits" (.int 15)) "top_exponent" (.int 38)) "steps" (.int 1000000)) "continuations" (.int 19)) "columns" (.int 72)) "depth" (.int 40)=zCI:=by kernel_rfl
theorem zaV (W:zbK Tp w):yN Tp w 8 (.ref 494) zHm:=by
  have G:FnG Tp w zc.F (zFX zc.st) (zFW zc.st) (zu zc.st) zc.nm 9 [.int 32 890,.int 7 891,.int 15 892,.int 38 893,.int 1000000 894,.int 19 895,.int 72 896,.int 40 897]:=by
    have O:=zKL
    unfold fnB at O
    simp only [Bool.and_eq_true,decide_eq_true_eq,List.all_eq_true,Bool.not_eq_true',beq_iff_eq] at O
    refine zTY O fun h1 h2 h3 h4 h5 h6 h7=>?_
    refine ⟨fun B hB=>?_,fun x hx=>?_,h2,h3,h4,h5,h6,h7⟩
    · refine zBc (W.fn B hB) fun a b oc od dV kV doc pm an ct sl c e=>?_
      refine (zCm a b oc od dV kV doc pm an ct sl c (fun vs hv s hs=>?_))
      obtain ⟨v,rfl⟩:∃v,vs=[v]:=List.length_eq_one_iff.mp (by simpa using hv)
      exact e v s hs
    · rcases Bool.or_eq_true_iff.mp (h1 x hx) with h | h
      · exact .inl (beq_iff_eq.mp h)
      · refine xA (Bool.and_eq_true_iff.mp h) fun a b=>?_
        exact .inr ⟨beq_iff_eq.mp a,fun n=>by rw [zEa zc.F.scope.names n 0 [] [] x rfl];exact b⟩
  have rd:∀g,yJ g [.int 32,.int 7,.int 15,.int 38,.int 1000000,.int 19,.int 72,.int 40] [.int 32 890,.int 7 891,.int 15 892,.int 38 893,.int 1000000 894,.int 19 895,.int 72 896,.int 40 897]:=fun g =>
    ⟨_,_,rfl,⟨_,rfl⟩,_,_,rfl,⟨_,rfl⟩,_,_,rfl,⟨_,rfl⟩,_,_,rfl,⟨_,rfl⟩,_,_,rfl,⟨_,rfl⟩,_,_,rfl,⟨_,rfl⟩,_,_,rfl,⟨_,rfl⟩,_,_,rfl,⟨_,rfl⟩,rfl⟩
  have h:=zHj W.cl ((zMm G rd (zMH W (d:=6))):yQ Tp w 7 (.ref 491) _)
  constructor
  intro A B outer fs L Fc X g M m s I vs ps r k kx t
  refine h.go A B outer fs L Fc X g M m s I vs ps r k kx ?_
  refine xA t ?_;clear t;intro z1 hk;subst z1
  rw [yV]
  have l:∀(kvs:List (Str×PV)) n p,(stk kvs n p).length<=kvs.length+1:=fun kvs n p=>by
    induction kvs with
    | nil=>exact Nat.le_refl _
    | cons a r ih =>
      unfold stk
      split
      · simp
      · simp;exact ih
  have l2:∀(kvs:List (Str×PV)) n p j,kvs.length<=j->(stk kvs n p).length<=j+1:=fun kvs n p j h=>Nat.le_trans (l kvs n p) (Nat.succ_le_succ h)
  have a0:([]:List (Str×PV)).length<=0:=Nat.le_refl _
  have a1:=l2 _ "width" (.int 32) _ a0
  have a2:=l2 _ "real_digits" (.int 7) _ a1
  have a3:=l2 _ "double_digits" (.int 15) _ a2
  have a4:=l2 _ "top_exponent" (.int 38) _ a3
  have a5:=l2 _ "steps" (.int 1000000) _ a4
  have a6:=l2 _ "continuations" (.int 19) _ a5
  have a7:=l2 _ "columns" (.int 72) _ a6
  refine zCw (t:=.mk) (zBx (by lia)) ?_
  refine zCw (t:=.mk) (zBx (by lia)) ?_
  refine zCw (t:=.mk) (zBx (by lia)) ?_
  refine zCw (t:=.mk) (zBx (by lia)) ?_
  refine zCw (t:=.mk) (zBx (by lia)) ?_
  refine zCw (t:=.mk) (zBx (by lia)) ?_
  refine zCw (t:=.mk) (zBx (by lia)) ?_
  refine zCw (t:=.mk) (zBx (by lia)) ?_
  refine ⟨rfl,?_⟩
  show k (.inst 494 M.n) (M.new (.sdict (stk (stk (stk (stk (stk (stk (stk (stk [] ("width" : Str) (PV.int 32)) "real_digits" (.int 7)) "double_digits" (.int 15)) "top_exponent" (.int 38)) "steps" (.int 1000000)) "continuations" (.int 19)) "columns" (.int 72)) "depth" (.int 40))))
  rw [zYg]
  exact hk
def zo (r:ym):Prop:=∀kV doc pm an ct,∀vs:List Value,vs.length=r.k->bindArgs (fnX (zFX r.st) r.F.name (zFW r.st) (zu r.st) r.F.scope [] .none kV doc pm an r.F.cd ct) ⟨vs,[]⟩=pure ((r.nm.take r.k).zip vs)
section
variable {fd:FuncData}{l:List Str}
theorem bk0 (h:bindArgs fd ⟨[],[]⟩=pure (l.zip [])):∀vs:List Value,vs.length=0->bindArgs fd ⟨vs,[]⟩=pure (l.zip vs):=by
  intro vs hv
  obtain rfl:=List.length_eq_zero_iff.mp hv
  exact h
theorem bk1 (h:∀a0,bindArgs fd ⟨[a0],[]⟩=pure (l.zip [a0])):∀vs:List Value,vs.length=1->bindArgs fd ⟨vs,[]⟩=pure (l.zip vs):=by
  intro vs hv
  refine xEE (List.exists_cons_of_length_eq_add_one hv) fun Z vs z1=>?_;subst z1
  have hv:=Nat.succ.inj hv
  obtain rfl:=List.length_eq_zero_iff.mp hv
  exact h _
theorem bk2 (h:∀a0 a1,bindArgs fd ⟨[a0,a1],[]⟩=pure (l.zip [a0,a1])):∀vs:List Value,vs.length=2->bindArgs fd ⟨vs,[]⟩=pure (l.zip vs):=by
  intro vs hv
  refine xEE (List.exists_cons_of_length_eq_add_one hv) fun Z vs z2=>?_;subst z2
  have hv:=Nat.succ.inj hv
  refine xEE (List.exists_cons_of_length_eq_add_one hv) fun Z vs z3=>?_;subst z3
  have hv:=Nat.succ.inj hv
  obtain rfl:=List.length_eq_zero_iff.mp hv
  exact h _ _
theorem bk3 (h:∀a0 a1 a2,bindArgs fd ⟨[a0,a1,a2],[]⟩=pure (l.zip [a0,a1,a2])):∀vs:List Value,vs.length=3->bindArgs fd ⟨vs,[]⟩=pure (l.zip vs):=by
  intro vs hv
  refine xEE (List.exists_cons_of_length_eq_add_one hv) fun Z vs z4=>?_;subst z4
  have hv:=Nat.succ.inj hv
  refine xEE (List.exists_cons_of_length_eq_add_one hv) fun Z vs z5=>?_;subst z5
  have hv:=Nat.succ.inj hv
  refine xEE (List.exists_cons_of_length_eq_add_one hv) fun Z vs z6=>?_;subst z6
  have hv:=Nat.succ.inj hv
  obtain rfl:=List.length_eq_zero_iff.mp hv
  exact h _ _ _
theorem bk4 (h:∀a0 a1 a2 a3,bindArgs fd ⟨[a0,a1,a2,a3],[]⟩=pure (l.zip [a0,a1,a2,a3])):∀vs:List Value,vs.length=4->bindArgs fd ⟨vs,[]⟩=pure (l.zip vs):=by
  intro vs hv
  refine xEE (List.exists_cons_of_length_eq_add_one hv) fun Z vs z7=>?_;subst z7
  have hv:=Nat.succ.inj hv
  refine xEE (List.exists_cons_of_length_eq_add_one hv) fun Z vs z8=>?_;subst z8
  have hv:=Nat.succ.inj hv
  refine xEE (List.exists_cons_of_length_eq_add_one hv) fun Z vs z9=>?_;subst z9
  have hv:=Nat.succ.inj hv
  refine xEE (List.exists_cons_of_length_eq_add_one hv) fun Z vs z10=>?_;subst z10
  have hv:=Nat.succ.inj hv
  obtain rfl:=List.length_eq_zero_iff.mp hv
  exact h _ _ _ _
theorem bk5 (h:∀a0 a1 a2 a3 a4,bindArgs fd ⟨[a0,a1,a2,a3,a4],[]⟩=pure (l.zip [a0,a1,a2,a3,a4])):∀vs:List Value,vs.length=5->bindArgs fd ⟨vs,[]⟩=pure (l.zip vs):=by
  intro vs hv
  refine xEE (List.exists_cons_of_length_eq_add_one hv) fun Z vs z11=>?_;subst z11
  have hv:=Nat.succ.inj hv
  refine xEE (List.exists_cons_of_length_eq_add_one hv) fun Z vs z12=>?_;subst z12
  have hv:=Nat.succ.inj hv
  refine xEE (List.exists_cons_of_length_eq_add_one hv) fun Z vs z13=>?_;subst z13
  have hv:=Nat.succ.inj hv
  refine xEE (List.exists_cons_of_length_eq_add_one hv) fun Z vs z14=>?_;subst z14
  have hv:=Nat.succ.inj hv
  refine xEE (List.exists_cons_of_length_eq_add_one hv) fun Z vs z15=>?_;subst z15
  have hv:=Nat.succ.inj hv
  obtain rfl:=List.length_eq_zero_iff.mp hv
  exact h _ _ _ _ _
theorem bk6 (h:∀a0 a1 a2 a3 a4 a5,bindArgs fd ⟨[a0,a1,a2,a3,a4,a5],[]⟩=pure (l.zip [a0,a1,a2,a3,a4,a5])):∀vs:List Value,vs.length=6->bindArgs fd ⟨vs,[]⟩=pure (l.zip vs):=by
  intro vs hv
  refine xEE (List.exists_cons_of_length_eq_add_one hv) fun Z vs z16=>?_;subst z16
  have hv:=Nat.succ.inj hv
  refine xEE (List.exists_cons_of_length_eq_add_one hv) fun Z vs z17=>?_;subst z17
  have hv:=Nat.succ.inj hv
  refine xEE (List.exists_cons_of_length_eq_add_one hv) fun Z vs z18=>?_;subst z18
  have hv:=Nat.succ.inj hv
  refine xEE (List.exists_cons_of_length_eq_add_one hv) fun Z vs z19=>?_;subst z19
  have hv:=Nat.succ.inj hv
  refine xEE (List.exists_cons_of_length_eq_add_one hv) fun Z vs z20=>?_;subst z20
  have hv:=Nat.succ.inj hv
  refine xEE (List.exists_cons_of_length_eq_add_one hv) fun Z vs z21=>?_;subst z21
  have hv:=Nat.succ.inj hv
  obtain rfl:=List.length_eq_zero_iff.mp hv
  exact h _ _ _ _ _ _
theorem bk7 (h:∀a0 a1 a2 a3 a4 a5 a6,bindArgs fd ⟨[a0,a1,a2,a3,a4,a5,a6],[]⟩=pure (l.zip [a0,a1,a2,a3,a4,a5,a6])):∀vs:List Value,vs.length=7->bindArgs fd ⟨vs,[]⟩=pure (l.zip vs):=by
  intro vs hv
  refine xEE (List.exists_cons_of_length_eq_add_one hv) fun Z vs z22=>?_;subst z22
  have hv:=Nat.succ.inj hv
  refine xEE (List.exists_cons_of_length_eq_add_one hv) fun Z vs z23=>?_;subst z23
  have hv:=Nat.succ.inj hv
  refine xEE (List.exists_cons_of_length_eq_add_one hv) fun Z vs z24=>?_;subst z24
  have hv:=Nat.succ.inj hv
  refine xEE (List.exists_cons_of_length_eq_add_one hv) fun Z vs z25=>?_;subst z25
  have hv:=Nat.succ.inj hv
  refine xEE (List.exists_cons_of_length_eq_add_one hv) fun Z vs z26=>?_;subst z26
  have hv:=Nat.succ.inj hv
  refine xEE (List.exists_cons_of_length_eq_add_one hv) fun Z vs z27=>?_;subst z27
  have hv:=Nat.succ.inj hv
  refine xEE (List.exists_cons_of_length_eq_add_one hv) fun Z vs z28=>?_;subst z28
  have hv:=Nat.succ.inj hv
  obtain rfl:=List.length_eq_zero_iff.mp hv
  exact h _ _ _ _ _ _ _
end
noncomputable def zKa:List ym:=zFV::zaE
theorem zZg:zo zFV:=fun Z Z Z Z Z=>bk2 (fun Z Z=>by kernel_rfl)
theorem zOw:zo zCg:=fun Z Z Z Z Z=>bk1 (fun Z=>by kernel_rfl)
theorem zQu:zo zCd:=fun Z Z Z Z Z=>bk2 (fun Z Z=>by kernel_rfl)
theorem zQv:zo zDU:=fun Z Z Z Z Z=>bk3 (fun Z Z Z=>by kernel_rfl)
theorem zQx:zo zDW:=fun Z Z Z Z Z=>bk3 (fun Z Z Z=>by kernel_rfl)
theorem zJE:zo qg:=fun Z Z Z Z Z=>bk2 (fun Z Z=>by kernel_rfl)
theorem zQw:zo zDV:=fun Z Z Z Z Z=>bk3 (fun Z Z Z=>by kernel_rfl)
theorem zLT:zo zBJ:=fun Z Z Z Z Z=>bk5 (fun Z Z Z Z Z=>by kernel_rfl)
theorem zGY:zo qF:=fun Z Z Z Z Z=>bk0 (by kernel_rfl)
theorem zQy:zo zDX:=fun Z Z Z Z Z=>bk1 (fun Z=>by kernel_rfl)
theorem zLa:zo zAZ:=fun Z Z Z Z Z=>bk6 (fun Z Z Z Z Z Z=>by kernel_rfl)
theorem zLY:zo zBL:=fun Z Z Z Z Z=>bk3 (fun Z Z Z=>by kernel_rfl)
theorem zND:zo zBA:=fun Z Z Z Z Z=>bk3 (fun Z Z Z=>by kernel_rfl)
theorem zJw:zo zAC:=fun Z Z Z Z Z=>bk3 (fun Z Z Z=>by kernel_rfl)
theorem zJF:zo zAL:=fun Z Z Z Z Z=>bk4 (fun Z Z Z Z=>by kernel_rfl)
theorem zLZ:zo zAY:=fun Z Z Z Z Z=>bk3 (fun Z Z Z=>by kernel_rfl)
theorem zZj:zo zMk:=fun Z Z Z Z Z=>bk2 (fun Z Z=>by kernel_rfl)
theorem zJr:zo zAg:=fun Z Z Z Z Z=>bk3 (fun Z Z Z=>by kernel_rfl)
theorem zJs:zo zAh:=fun Z Z Z Z Z=>bk2 (fun Z Z=>by kernel_rfl)
theorem zJD:zo zAJ:=fun Z Z Z Z Z=>bk3 (fun Z Z Z=>by kernel_rfl)
theorem zNE:zo zBw:=fun Z Z Z Z Z=>bk2 (fun Z Z=>by kernel_rfl)
theorem zTj:zo zDu:=fun Z Z Z Z Z=>bk1 (fun Z=>by kernel_rfl)
theorem zIF:zo qX:=fun Z Z Z Z Z=>bk2 (fun Z Z=>by kernel_rfl)
theorem zJt:zo q7:=fun Z Z Z Z Z=>bk1 (fun Z=>by kernel_rfl)
theorem zOq:zo zCb:=fun Z Z Z Z Z=>bk7 (fun Z Z Z Z Z Z Z=>by kernel_rfl)
theorem zOr:zo zCc:=fun Z Z Z Z Z=>bk2 (fun Z Z=>by kernel_rfl)
theorem zJx:zo zAD:=fun Z Z Z Z Z=>bk2 (fun Z Z=>by kernel_rfl)
theorem zOv:zo zBq:=fun Z Z Z Z Z=>bk2 (fun Z Z=>by kernel_rfl)
theorem zMy:zo zBv:=fun Z Z Z Z Z=>bk1 (fun Z=>by kernel_rfl)
theorem zLR:zo zBH:=fun Z Z Z Z Z=>bk2 (fun Z Z=>by kernel_rfl)
theorem zLS:zo zBI:=fun Z Z Z Z Z=>bk2 (fun Z Z=>by kernel_rfl)
theorem zTk:zo zEh:=fun Z Z Z Z Z=>bk5 (fun Z Z Z Z Z=>by kernel_rfl)
theorem zJu:zo zAA:=fun Z Z Z Z Z=>bk2 (fun Z Z=>by kernel_rfl)
theorem zFm:zo yn:=fun Z Z Z Z Z=>bk0 (by kernel_rfl)
theorem zLP:zo zBG:=fun Z Z Z Z Z=>bk5 (fun Z Z Z Z Z=>by kernel_rfl)
theorem zLQ:zo zAU:=fun Z Z Z Z Z=>bk2 (fun Z Z=>by kernel_rfl)
theorem zMx:zo zAv:=fun Z Z Z Z Z=>bk2 (fun Z Z=>by kernel_rfl)
theorem zIC:zo ql:=fun Z Z Z Z Z=>bk3 (fun Z Z Z=>by kernel_rfl)
theorem zIE:zo qW:=fun Z Z Z Z Z=>bk2 (fun Z Z=>by kernel_rfl)
theorem zID:zo qV:=fun Z Z Z Z Z=>bk1 (fun Z=>by kernel_rfl)
theorem zTl:zo zDv:=fun Z Z Z Z Z=>bk2 (fun Z Z=>by kernel_rfl)
theorem zIh:zo zBm:=fun Z Z Z Z Z=>bk0 (by kernel_rfl)
theorem zLV:zo zBK:=fun Z Z Z Z Z=>bk0 (by kernel_rfl)
theorem zOt:zo zBo:=fun Z Z Z Z Z=>bk2 (fun Z Z=>by kernel_rfl)
theorem zLX:zo zAX:=fun Z Z Z Z Z=>bk1 (fun Z=>by kernel_rfl)
theorem zLU:zo zAV:=fun Z Z Z Z Z=>bk1 (fun Z=>by kernel_rfl)
theorem zOs:zo zBn:=fun Z Z Z Z Z=>bk2 (fun Z Z=>by kernel_rfl)
theorem zNC:zo zAz:=fun Z Z Z Z Z=>bk2 (fun Z Z=>by kernel_rfl)
theorem zNA:zo zAx:=fun Z Z Z Z Z=>bk1 (fun Z=>by kernel_rfl)
theorem zJv:zo zAB:=fun Z Z Z Z Z=>bk2 (fun Z Z=>by kernel_rfl)
theorem zOu:zo zBp:=fun Z Z Z Z Z=>bk5 (fun Z Z Z Z Z=>by kernel_rfl)
theorem zLW:zo zAW:=fun Z Z Z Z Z=>bk4 (fun Z Z Z Z=>by kernel_rfl)
theorem zRA:zo zCf:=fun Z Z Z Z Z=>bk4 (fun Z Z Z Z=>by kernel_rfl)
theorem zNB:zo zAy:=fun Z Z Z Z Z=>bk1 (fun Z=>by kernel_rfl)
theorem zQz:zo zCe:=fun Z Z Z Z Z=>bk1 (fun Z=>by kernel_rfl)
theorem zMz:zo zAw:=fun Z Z Z Z Z=>bk3 (fun Z Z Z=>by kernel_rfl)
theorem zZi:zo zAK:=fun Z Z Z Z Z=>bk1 (fun Z=>by kernel_rfl)
theorem zZh:∀r∈zKa,zo r:=by
  unfold zKa zaE
  simp only [List.forall_mem_cons]
  exact ⟨zZg,zOw,zQu,zQv,zQx,zJE,zQw,zLT,zGY,zQy,zLa,zLY,zND,zJw,zJF,zLZ,zZj,zJr,zJs,zJD,zNE,zTj,zIF,zJt,zOq,zOr,zJx,zOv,zMy,zLR,zLS,zTk,zJu,zFm,zLP,zLQ,zMx,zIC,zIE,zID,zTl,zIh,zIh,zLV,zOt,zLX,zLU,zOs,zNC,zNA,zJv,zOu,zLW,zRA,zNB,zQz,zMz,zZi,fun Z h=>(nomatch h)⟩
def Tp0 (K:Params->Frag) (w:World) (B:Heap):Prop:=(K w.params).In B/\B.NoLimit/\(∃mb,B.Ns builtinsNs mb/\∀x:Str,x ≠ "__name__" -> mb x=bootBuiltins x)/\∃o,B.get? sysModules=some o
noncomputable def zcD (es:List DictEntry):Bool:=es.all fun e=>match e.key with | .str _ _=>true | _=>false
noncomputable def nsL (es:List DictEntry) (x:Str):Option Value:=(es.find? fun e=>e.key.isStr x).map (·.val)
theorem zaX {es:List DictEntry}{x:Str}:nsFind es.toArray x=nsL es x:=by
  unfold nsFind findBy nsL
  rw [List.find?_toArray]
noncomputable def zPF (K:Frag) (a:Addr) (p:List DictEntry->Bool):Bool:=match K.lookup a with
  | some ⟨_,_,.dict es _,_⟩=>zcD es.toList&&p es.toList
  | _=>false
theorem zFA {K:Frag}{a:Addr}{p:List DictEntry->Bool}(h:zPF K a p=true):∃es,p es=true/\∀B:Heap,K.In B->B.Ns a (nsL es):=by
  unfold zPF at h
  split at h
  · rename_i c d es n sl ho
    refine xA (Bool.and_eq_true_iff.mp h) fun h1 h2=>?_
    refine (iEA es.toList h2 (fun B x=>(qi _ es n (x _ _ ho) rfl (fun e he=>?_) (fun y=>?_))))
    · have:=List.all_eq_true.mp h1 e (by simpa using he)
      split at this
      · rename_i n t hk;exact (iEE n t hk)
      · exact zV this
    · have:=zaX (es:=es.toList) (x:=y)
      simpa using this
  · exact zV h
noncomputable def gp (es:List DictEntry):Bool:=zbs.all (fun q=>nsL es q.1==some q.2)&&(zVD.all (fun q=>(nsL es q.1).isNone)&&(nsL es "Exception").isNone)
noncomputable def p50 (es:List DictEntry):Bool:=(nsL es "__init__").isNone&&((nsL es "__setattr__").isNone&&(nsL es "text").isNone)
noncomputable def p37 (es:List DictEntry):Bool:=(nsL es "__init__" == some (.ref 35))&&((nsL es "__setattr__").isNone&&(nsL es "text").isNone)
noncomputable def zZJ (K:Frag) (C:Addr) (n:Str):Bool:=plainGet K C n&&(hasDictIn K C&&((match findIn K (.ref C) n with | some a=>noGet K a | none=>false)&&((findIn K (.ref C) "__setattr__" == some (some (.builtin "object.__setattr__")))&&(plainOver K C&&(takerIn K C n==some none)))))
noncomputable def zbU (K:Frag) (C f:Addr):Bool:=makesIn K C&&((findIn K (.ref C) "__init__" == some (some (.ref f)))&&(isFn K (.ref f)&&keepIn K (.ref C)))
noncomputable def zZR (K:Frag) (C:Addr) (n:Str) (f:Addr):Bool:=plainGet K C n&&((findIn K (.ref C) n==some (some (.ref f)))&&isFn K (.ref f))
noncomputable def zVj (K:Frag) (r:ym) (dV:Value):Option Obj:=match K.lookup r.F.a with
  | some ⟨c,d,.func fd,sl⟩=>some ⟨c,d,.func (fnX (zFX r.st) r.F.name (zFW r.st) (zu r.st) r.F.scope [] dV fd.kwdefaults fd.doc fd.pyModule fd.annotations r.F.cd fd.closureTuple),sl⟩
  | _=>none
noncomputable def zVI (K:Frag) (cd:Value) (n:Str):Bool:=match cd with
  | .ref c=>(match K.lookup c with
    | some ⟨_,_,.fields vs,_⟩=>(match vs[1]? with | some (Value.str m _)=>m==n | _=>false)
    | _=>false)
  | _=>false
theorem zOz {K:Frag}{B:Heap}{cd:Value}{n:Str}(x:K.In B) (h:zVI K cd n=true):B.CodeRec cd n:=by
  unfold zVI at h
  split at h
  · split at h
    · rename_i c _ _ vs _ ho
      split at h
      · rename_i m t hm
        obtain rfl:m=n:=beq_iff_eq.mp h
        exact (zKh _ _ vs t rfl (x _ _ ho) rfl hm)
      · exact zV h
    · exact zV h
  · exact zV h
noncomputable def zdn:Obj:=excClassObj "RunFault" "RunFault" 51 50 [.ref 38] zFD true [] [] false none none (some (.ref 42)) none (some (.str "RunFault" 225)) (some (.str "RunFault" 233)) (some (.bool true)) "Exception.__new__"
noncomputable def b38 (K:Frag):Bool:=match K.lookup 38 with
  | some ⟨_,_,.cls cd,_⟩=>cd.ns==37
  | _=>false
noncomputable def zaU:List Value:=[.int 32 890,.int 7 891,.int 15 892,.int 38 893,.int 1000000 894,.int 19 895,.int 72 896,.int 40 897]
noncomputable def zbO (K:Frag):Bool:=match K.lookup 484 with
  | some ⟨_,_,.seq items _,_⟩=>items.toList==zaU
  | _=>false
structure KOk (K:Frag):Prop where
  g:zPF K mainGlobals gp=true
  d50:zPF K 50 p50=true
  d37:zPF K 37 p37=true
  keep:zcE.all (fun a=>keepIn K (.ref a))=true
  attr:zXj.all (fun p=>zZJ K p.1 p.2)=true
  cls:((494,491)::zZl).all (fun p=>zbU K p.1 p.2)=true
  mth:zcL.all (fun p=>zZR K p.1 p.2.1 p.2.2)=true
  fns:zKa.map (fun r=>K.lookup r.F.a)=zKa.map (fun r=>zVj K r .none)
  fsome:zKa.all (fun r=>fnIn K r.F.a)=true
  code:(zc::zKa).all (fun r=>zVI K r.F.cd r.F.name)=true
  e51:K.lookup 51=some zdn
  e38:b38 K=true
  f35:isFn K (.ref 35)=true
  lim:K.lookup 491=zVj K zc (.ref 484)
  lims:fnIn K 491=true
  dfl:zbO K=true
theorem zKn {α β:Type}{f g:α->β}:∀{l:List α},l.map f=l.map g->∀a∈l,f a=g a
  | a::l,h,b,hb=>by
    simp only [List.map_cons,List.cons.injEq] at h
    rcases List.mem_cons.mp hb with rfl | hb
    · exact h.1
    · exact zKn h.2 b hb
theorem zUB {K:Frag}{a:Addr}(h:fnIn K a=true):∃c d fd sl,K.lookup a=some ⟨c,d,.func fd,sl⟩:=by
  unfold fnIn at h
  split at h
  · rename_i c d fd sl ho;exact (zbv c d fd sl ho)
  · exact zV h
theorem zMY {K:Frag}{r:ym}{dV:Value}(h:K.lookup r.F.a=zVj K r dV) (h2:fnIn K r.F.a=true):∃oc od kV doc pm an ct sl,K.lookup r.F.a=some ⟨oc,od,.func (fnX (zFX r.st) r.F.name (zFW r.st) (zu r.st) r.F.scope [] dV kV doc pm an r.F.cd ct),sl⟩:=by
  refine zcj (zUB h2) fun c d fd sl ho=>?_
  have e:zVj K r dV=some ⟨c,d,.func (fnX (zFX r.st) r.F.name (zFW r.st) (zu r.st) r.F.scope [] dV fd.kwdefaults fd.doc fd.pyModule fd.annotations r.F.cd fd.closureTuple),sl⟩:=by unfold zVj;rw [ho]
  exact (zUH _ _ _ _ _ _ _ _ (h.trans e))
theorem zat {K:Params->Frag}(H:∀P,KOk (K P)) {w:World}:WOk (Tp0 K) w:=by
  have H:=H w.params
  have hK:∀B,Tp0 K w B->(K w.params).In B:=fun B h=>h.1
  have fnob:∀r∈zKa,zUr (Tp0 K) w r:=by
    intro r hr B hB
    refine zMu (zMY (zKn H.fns r hr) (List.all_eq_true.mp H.fsome r hr)) fun oc od kV doc pm an ct sl e=>?_
    exact (zCm hB.2.1 (zOz hB.1 (List.all_eq_true.mp H.code r (.tail _ hr))) oc od .none kV doc pm an ct sl (hB.1 _ _ e) (zZh r hr kV doc pm an ct))
  have gl:∀B,Tp0 K w B->∃es,gp es=true/\B.Ns mainGlobals (nsL es):=fun B hB=>let ⟨es,a,b⟩:=zFA H.g;⟨es,a,b B hB.1⟩
  have bn:∀(x:Str) (v:Value),(∀es,gp es=true->nsL es x=none)->x ≠ "__name__" -> bootBuiltins x=some v->zMR (Tp0 K) w x v:=fun x v h1 h2 h3 B hB=>by
    refine xEA (gl B hB) fun es a b=>?_
    refine xEA hB.2.2.1 fun mb hb hm=>?_
    exact (yb _ mb b (h1 es a) hb ((hm x h2).trans h3))
  have gpb:∀es,gp es=true->∀q∈zVD,nsL es q.1=none:=fun es h q hq=>by
    refine xA (Bool.and_eq_true_iff.mp h) fun Z h=>?_
    have:=List.all_eq_true.mp (Bool.and_eq_true_iff.mp h).1 q hq
    simpa using this
  have cls:∀p∈(494,491)::zZl,zSJ (Tp0 K) w p.1 p.2:=fun p hp=>by
    have h:=List.all_eq_true.mp H.cls p hp
    unfold zbU at h
    simp only [Bool.and_eq_true,beq_iff_eq] at h
    exact ⟨_,hK,h.1,h.2.1,h.2.2.1,h.2.2.2⟩
  have att:∀(i:Nat) (C:Addr) (n:Str),zXj[i]?=some (C,n)->zEK (Tp0 K) w C n:=fun i C n e=>by
    have h:=List.all_eq_true.mp H.attr _ (List.mem_of_getElem? e)
    unfold zZJ at h
    simp only [Bool.and_eq_true,beq_iff_eq] at h
    refine zav h fun h1 h2 h3 h4 h5 h6=>?_
    refine ⟨_,hK,h1,h2,?_,h4,h5,h6⟩
    split at h3
    · rename_i a ha;exact (iEA a ha h3)
    · exact zV h3
  have exc:Value.type "BaseException" ∈ zFD:=by simp
  refine {
    sys:=fun B hB=>hB.2.2.2
    exc:=⟨_,_,_,_,_,_,_,_,_,_,_,_,_,_,_,_,_,(by decide +kernel:zFD.contains (.type "BaseException")=true),fun B hB=>hB.1 _ _ H.e51⟩
    raise:=zWr ⟨?_,fnob _ (.head _),bn _ _ (fun es h=>?_) (by decide) (by decide +kernel),fun B hB=>?_⟩
    gn:=fun i x v e B hB=>?_
    bn:=fun i x v e=>?_
    kf:=fun i a e=>zRd hK (List.all_eq_true.mp H.keep a (List.mem_of_getElem? e))
    at_:=att
    cl:=fun i C f e=>cls _ (.tail _ (List.mem_of_getElem? e))
    mt:=fun i C n f e=>?_
    fn:=fun i r e=>fnob r (.tail _ (List.mem_of_getElem? e))
    lim:=zaV ⟨cls _ (.head _),att,fun B hB=>?_⟩ }
  · have h38:=H.e38
    unfold b38 at h38
    split at h38
    · rename_i c0 dd2 cd sl ho
      have hns:cd.ns=37:=beq_iff_eq.mp h38
      refine xEA (zFA H.d50) fun es50 q50 n50=>?_
      refine xEA (zFA H.d37) fun es37 q37 n37=>?_
      unfold p50 at q50
      unfold p37 at q37
      simp only [Bool.and_eq_true,Option.isNone_iff_eq_none,beq_iff_eq] at q50 q37
      refine ⟨_,_,_,_,_,_,_,_,_,_,_,_,_,c0,dd2,cd,sl,nsL es50,nsL es37,q50.1,q50.2.1,q50.2.2,q37.1,q37.2.1,q37.2.2,fun B hB=>(zEg (hB.1 _ _ H.e51) (n50 B hB.1) (hB.1 _ _ ho) ?_)⟩
      rw [hns];exact n37 B hB.1
    · exact zV h38
  · refine xA (Bool.and_eq_true_iff.mp h) fun Z h=>?_
    have:=(Bool.and_eq_true_iff.mp h).2
    simpa using this
  · have h:=H.f35
    unfold isFn typeIn at h
    dsimp only at h
    generalize ho:(K w.params).lookup 35=z1;induction z1 using Option.casesOn with
    | none=>rw [ho] at h;exact zV h
    | some o =>
      rw [ho] at h
      exact (iEA o (hB.1 _ _ ho) (by simpa using h))
  · refine xEA (gl B hB) fun es a b=>?_
    have:=List.all_eq_true.mp (Bool.and_eq_true_iff.mp a).1 _ (List.mem_of_getElem? e)
    exact (iEA _ b (beq_iff_eq.mp this))
  · have hm:=List.mem_of_getElem? e
    refine bn x v (fun es h=>gpb es h _ hm) ?_ ?_
    · intro q
      subst q
      have:zVD.all (fun q=>!(q.1==("__name__" : Str)))=true:=by decide +kernel
      have:=List.all_eq_true.mp this _ hm
      simp at this
    · have:zVD.all (fun q=>bootBuiltins q.1==some q.2)=true:=by decide +kernel
      exact beq_iff_eq.mp (List.all_eq_true.mp this _ hm)
  · have h:=List.all_eq_true.mp H.mth _ (List.mem_of_getElem? e)
    unfold zZR at h
    simp only [Bool.and_eq_true,beq_iff_eq] at h
    exact ⟨_,hK,h.1,h.2.1,h.2.2⟩
  · refine zMu (zMY (r:=zc) H.lim H.lims) fun oc od kV doc pm an ct sl e=>?_
    refine (zCm hB.2.1 (zOz hB.1 (List.all_eq_true.mp H.code _ (.head _))) oc od (.ref 484) kV doc pm an ct sl (hB.1 _ _ e) (fun v s hs=>?_))
    have hd:=H.dfl
    unfold zbO at hd
    split at hd
    · rename_i c d items n sl' ho
      have hi:items.toList=zaU:=beq_iff_eq.mp hd
      obtain rfl:items=zaU.toArray:=by rw [← hi]
      exact BindsTo.of_defaults (T:=484) rfl (hs _ _ (hB.1 _ _ ho)) rfl rfl (by kernel_rfl)
    · exact zV hd

inductive Sv | I | J | N deriving DecidableEq
noncomputable def Sv.nm:Sv->Str | .I => "I" | .J => "J" | .N => "N"
noncomputable def Sv.ad:Sv->Nat | .I=>0 | .J=>1 | .N=>2
set_option genInjectivity false in
inductive Sm | const (c:Int) | var (v:Sv) | add (v:Sv) (c:Int)
inductive Ar | A | B | T deriving DecidableEq
noncomputable def Ar.nm:Ar->Str | .A => "A" | .B => "B" | .T => "T"
set_option genInjectivity false in
inductive It | ex (s:Sm) | elA (s:Sm) | elB (s t:Sm) | arr (a:Ar) | ido (its:List It) (v:Sv) (f:Int) (l:Sm) (st:Int)
set_option genInjectivity false in
structure Sto where
  num:Nat->Option Int
  chr:Nat->Bool
inductive Pl | num (a:Nat) | txt (j:Nat) deriving DecidableEq
inductive Ev | pl (p:Pl) | val (v:Option Int)
set_option genInjectivity false in
structure PS where
  log:List Ev
  σ:Sto
noncomputable def Sto.setN (σ:Sto) (a:Nat) (v:Int):Sto:=⟨fun b=>if b=a then some v else σ.num b,σ.chr⟩
noncomputable def Sto.put (σ:Sto) (p:Pl) (v:Int):Sto:=match p with
  | .num a=>σ.setN a v
  | .txt j=>⟨σ.num,fun b=>if b=j then true else σ.chr b⟩
noncomputable def worth (σ:Sto):Sm->Option Int
  | .const c=>some c
  | .var v=>σ.num v.ad
  | .add v c=>(σ.num v.ad).map (·+c)
noncomputable def plA (k:Int):Option Pl:=if 0<=k/\k<=2 then some (.num (3+k.toNat)) else none
noncomputable def plB (k n:Int):Option Pl:=if 2<=k/\k<=3/\-1<=n/\n<=1 then some (.num (6+(k-2).toNat+2 * (n+1).toNat)) else none
noncomputable def yZ:Ar->List Pl
  | .A=>[.num 3,.num 4,.num 5]
  | .B=>[.num 6,.num 7,.num 8,.num 9,.num 10,.num 11]
  | .T=>[.txt 0,.txt 1]
abbrev Rd:=Option (List Int)
noncomputable def qj (rd:Rd) (ps:PS) (p:Pl):PS:=⟨ps.log++[.pl p],match rd with | none=>ps.σ | some ns=>ps.σ.put p (ns.getD (ps.log.length % 5) 0)⟩
noncomputable def zBa (rd:Rd):List Pl->PS->Bool×PS
  | [],ps=>(true,ps)
  | p::r,ps=>if (qj rd ps p).log.length<40 then zBa rd r (qj rd ps p) else (false,qj rd ps p)
noncomputable def zLI (rd:Rd) (ps:PS) (w:Option Int):Bool×PS:=(!((w.isNone&&rd.isSome)||decide (40<=ps.log.length+1)),⟨ps.log++[.val w],ps.σ⟩)
noncomputable def zFZ (rd:Rd) (ps:PS):Option Pl->Bool×PS
  | none=>(false,ps)
  | some p=>zBa rd [p] ps
noncomputable def count (f e st:Int):Nat:=(Builtin.Range.rangeSize f (e+if 0<st then 1 else -1) st).toNat
noncomputable def zBR (body:PS->Bool×PS) (v:Sv) (st:Int):Nat->PS->Bool×PS
  | 0,ps=>(true,ps)
  | n+1,ps=>match body ps with
    | (false,ps')=>(false,ps')
    | (true,ps')=>match ps'.σ.num v.ad with
      | none=>(false,ps')
      | some x=>zBR body v st n ⟨ps'.log,ps'.σ.setN v.ad (x+st)⟩
noncomputable def b2 (a b:Option Int) (f:Int->Int->Option Pl):Option Pl:=a.bind fun x=>b.bind fun y=>f x y
mutual
noncomputable def zCX (rd:Rd):It->PS->Bool×PS
  | .ex s,ps=>match s with
    | .var v=>zBa rd [.num v.ad] ps
    | _=>zLI rd ps (worth ps.σ s)
  | .elA s,ps=>zFZ rd ps ((worth ps.σ s).bind plA)
  | .elB s t,ps=>zFZ rd ps (b2 (worth ps.σ s) (worth ps.σ t) plB)
  | .arr a,ps=>zBa rd (yZ a) ps
  | .ido its v f l st,ps=>match worth ps.σ l with
    | none=>(false,ps)
    | some e=>if st=0 then (false,ps) else zBR (qJ rd its) v st (count f e st) ⟨ps.log,ps.σ.setN v.ad f⟩
noncomputable def qJ (rd:Rd):List It->PS->Bool×PS
  | [],ps=>(true,ps)
  | i::r,ps=>match zCX rd i ps with
    | (false,ps')=>(false,ps')
    | (true,ps')=>qJ rd r ps'
end
set_option genInjectivity false in
structure Lv where
  its:List It
  at_:Nat
  tg:Option (Sv×Int)
  cnt:Nat
inductive Out | fault | fin | pl (p:Pl) | ex (s:Sm)
inductive TK | fault | out (o:Out) | els (l:List Pl) | push (σ:Sto) (l:Lv)
noncomputable def okB (x:Int):Bool:=decide (-1000<=x/\x<=1000)
noncomputable def oP:Option Pl->TK
  | none=>.fault
  | some p=>.out (.pl p)
noncomputable def tk (σ:Sto):It->TK
  | .ex s=>match s with
    | .var v=>.out (.pl (.num v.ad))
    | s=>.out (.ex s)
  | .elA s=>oP ((worth σ s).bind plA)
  | .elB s t=>oP (b2 (worth σ s) (worth σ t) plB)
  | .arr a=>.els (yZ a)
  | .ido its v f l st=>(worth σ l).elim .fault fun e=>if st=0 then .fault else .push (σ.setN v.ad f) ⟨its,0,some (v,st),count f e st⟩
theorem zOJ {x:Option Pl}{q:Out}{G:Prop}(h:oP x=.out q) (f:∀v,x=some v->Out.pl v=q->G):G:=by
  induction x using Option.casesOn with
  | none=>exact nomatch h
  | some v=>exact f v rfl (TK.out.inj h)
theorem zWg {x:Option Pl}{es:List Pl}(h:oP x=.els es):False:=by
  induction x using Option.casesOn<;>exact nomatch h
theorem zTA {x:Option Pl}{σ:Sto}{l:Lv}(h:oP x=.push σ l):False:=by
  induction x using Option.casesOn<;>exact nomatch h
section
variable {σ:Sto}{its:List It}{v:Sv}{f:Int}{l:Sm}{st e:Int}
theorem tkN (he:worth σ l=none):tk σ (.ido its v f l st)=.fault:=by
  show (worth σ l).elim _ _=_;rw [he];rfl
theorem tk0 (he:worth σ l=some e) (h:st=0):tk σ (.ido its v f l st)=.fault:=by
  show (worth σ l).elim _ _=_;rw [he];exact if_pos h
theorem tkS (he:worth σ l=some e) (h:¬st=0):tk σ (.ido its v f l st)=.push (σ.setN v.ad f) ⟨its,0,some (v,st),count f e st⟩:=by
  show (worth σ l).elim _ _=_;rw [he];exact if_neg h
theorem tkI {t:TK}{G:Prop}(h:tk σ (.ido its v f l st)=t) (f1:t=.fault->G) (f2:∀l',t=.push (σ.setN v.ad f) l'->G):G:=by
  generalize he:worth σ l=z;induction z using Option.casesOn with
  | none=>exact f1 (h.symm.trans (tkN he))
  | some e =>
    by_cases h0:st=0
    · exact f1 (h.symm.trans (tk0 he h0))
    · exact f2 _ (h.symm.trans (tkS he h0))
end
def okS:Sm->Prop
  | .const c=>c.natAbs<=4
  | .var _=>True
  | .add _ c=>c.natAbs<=4
def okX (σ:Sto) (s:Sm):Prop:=okS s/\∀x,worth σ s=some x->okB x=true
def okE (σ:Sto):It->Prop
  | .ex s=>okX σ s
  | .elA s=>okX σ s
  | .elB s t=>okX σ s/\okX σ t
  | .arr _=>True
  | .ido its v f l st=>okB f=true/\st.natAbs<=2/\okX σ l
noncomputable abbrev Lv.nx (l:Lv):Lv:=⟨l.its,l.at_+1,l.tg,l.cnt⟩
inductive Nx:Sto->List Pl->List Lv->Out->Sto->List Pl->List Lv->Prop where
  | el {σ p r ls}:r.length<=10->ls.length<=10->Nx σ (p::r) ls (.pl p) σ r ls
  | fin {σ}:Nx σ [] [] .fin σ [] []
  | pop0 {σ l ls o σ' e' l'}:ls.length<=10->l.cnt=0->Nx σ [] ls o σ' e' l'->Nx σ [] (l::ls) o σ' e' l'
  | popT {σ l ls o σ' e' l'}:ls.length<=10->l.cnt≠0->l.cnt<=1000->l.its.length<=10->l.at_=l.its.length->l.tg=none->Nx σ [] ls o σ' e' l'->Nx σ [] (l::ls) o σ' e' l'
  | rnd {σ l ls o σ' e' l' v st x}:ls.length<=10->l.cnt≠0->l.cnt<=1000->l.its.length<=10->l.at_=l.its.length->l.tg=some (v,st)->σ.num v.ad=some x->okB x=true->okB st=true ->
      Nx (σ.setN v.ad (x+st)) [] (⟨l.its,0,l.tg,l.cnt-1⟩::ls) o σ' e' l'->Nx σ [] (l::ls) o σ' e' l'
  | rndF {σ l ls v st}:ls.length<=10->l.cnt≠0->l.cnt<=1000->l.its.length<=10->l.at_=l.its.length->l.tg=some (v,st)->σ.num v.ad=none->Nx σ [] (l::ls) .fault σ [] (l::ls)
  | takeF {σ l ls it}:ls.length<=10->l.cnt≠0->l.cnt<=1000->l.its.length<=10->l.its[l.at_]?=some it->okE σ it->tk σ it=.fault->Nx σ [] (l::ls) .fault σ [] (l.nx::ls)
  | takeO {σ l ls it o}:ls.length<=10->l.cnt≠0->l.cnt<=1000->l.its.length<=10->l.its[l.at_]?=some it->okE σ it->tk σ it=.out o->Nx σ [] (l::ls) o σ [] (l.nx::ls)
  | takeE {σ l ls it es o σ' e' l'}:ls.length<=10->l.cnt≠0->l.cnt<=1000->l.its.length<=10->l.its[l.at_]?=some it->okE σ it->tk σ it=.els es->Nx σ es (l.nx::ls) o σ' e' l'->Nx σ [] (l::ls) o σ' e' l'
  | takeP {σ l ls it σ2z l2z o σ' e' l'}:ls.length<=10->l.cnt≠0->l.cnt<=1000->l.its.length<=10->l.its[l.at_]?=some it->okE σ it->tk σ it=.push σ2z l2z->Nx σ2z [] (l2z::l.nx::ls) o σ' e' l'->Nx σ [] (l::ls) o σ' e' l'
inductive Ls (rd:Rd):PS->List Pl->List Lv->List Ev×Bool×Sto->Prop where
  | fault {ps e l σ' e' l'}:Nx ps.σ e l .fault σ' e' l'->ps.log.length<40->Ls rd ps e l (ps.log,true,σ')
  | fin {ps e l σ' e' l'}:Nx ps.σ e l .fin σ' e' l'->ps.log.length<40->Ls rd ps e l (ps.log,false,σ')
  | plS {ps e l p σ' e' l'}:Nx ps.σ e l (.pl p) σ' e' l'->ps.log.length<40->rd.isSome=true->40<=ps.log.length+1->Ls rd ps e l ((qj rd ⟨ps.log,σ'⟩ p).log,false,(qj rd ⟨ps.log,σ'⟩ p).σ)
  | plC {ps e l p σ' e' l' o}:Nx ps.σ e l (.pl p) σ' e' l'->ps.log.length+1<40->Ls rd (qj rd ⟨ps.log,σ'⟩ p) e' l' o->Ls rd ps e l o
  | exF {ps e l s σ' e' l'}:Nx ps.σ e l (.ex s) σ' e' l'->okX σ' s->ps.log.length<40->rd.isSome=true->worth σ' s=none->Ls rd ps e l (ps.log,true,σ')
  | exS {ps e l s σ' e' l'}:Nx ps.σ e l (.ex s) σ' e' l'->okX σ' s->ps.log.length<40->rd.isSome=true->(worth σ' s).isSome=true->40<=ps.log.length+1->Ls rd ps e l (ps.log++[.val (worth σ' s)],false,σ')
  | exC {ps e l s σ' e' l' o}:Nx ps.σ e l (.ex s) σ' e' l'->okX σ' s->ps.log.length+1<40->(rd.isSome=true->(worth σ' s).isSome=true)->Ls rd ⟨ps.log++[.val (worth σ' s)],σ'⟩ e' l' o->Ls rd ps e l o
theorem Ls.sil {rd:Rd}{lg:List Ev}{σ σ2z:Sto}{e e2z:List Pl}{l l2z:List Lv}(h:∀{o σ' e' l'},Nx σ2z e2z l2z o σ' e' l'->Nx σ e l o σ' e' l') {o:List Ev×Bool×Sto}(x:Ls rd ⟨lg,σ2z⟩ e2z l2z o):Ls rd ⟨lg,σ⟩ e l o:=by
  cases x with
  | fault n a=>exact .fault (h n) a
  | fin n a=>exact .fin (ps:=⟨lg,σ⟩) (h n) a
  | plS n a b c=>exact .plS (ps:=⟨lg,σ⟩) (h n) a b c
  | plC n a b=>exact .plC (ps:=⟨lg,σ⟩) (h n) a b
  | exF n x a b c=>exact .exF (ps:=⟨lg,σ⟩) (h n) x a b c
  | exS n x a b c d=>exact .exS (ps:=⟨lg,σ⟩) (h n) x a b c d
  | exC n x a b c=>exact .exC (ps:=⟨lg,σ⟩) (h n) x a b c
noncomputable def due:List Ev->List Ev
  | []=>[]
  | .val none::r=>due r
  | e::r=>e::due r
theorem zGu (a b:List Ev):due (a++b)=due a++due b:=by
  induction a with
  | nil=>rfl
  | cons e r ih =>
    induction e using Ev.casesOn with
    | pl p=>simp [due,ih]
    | val v=>induction v using Option.casesOn<;>simp [due,ih]
noncomputable def zAr (rd:Rd) (ps:PS):List Ev×Bool×Sto:=if rd.isSome then (due ps.log,decide ((due ps.log).length<40),ps.σ) else (ps.log,true,ps.σ)
def zWc (rd:Rd) (l:List Ev):Prop:=rd.isSome=true->due l=l
structure Bd (ib jb:Nat) (rd:Rd) (ps:PS):Prop where
  len:ps.log.length<40
  nn:zWc rd ps.log
  I:∀x,ps.σ.num 0=some x->x.natAbs<=ib
  J:∀x,ps.σ.num 1=some x->x.natAbs<=jb
  N:∀x,ps.σ.num 2=some x->x.natAbs<=4
  rd:∀ns,rd=some ns->ns.length=5/\∀x∈ns,x.natAbs<=4
theorem zWY {a b:Int}{m n k:Nat}(ha:a.natAbs<=m) (hb:b.natAbs<=n) (h:m+n<=k):(a+b).natAbs<=k:=Nat.le_trans (Int.natAbs_add_le a b) (Nat.le_trans (Nat.add_le_add ha hb) h)
theorem zQq {σ:Sto}{m:Nat}(h4:4<=m) {s:Sm}(hs:okS s) {x:Int}(h:worth σ s=some x) (key:∀v:Sv,(s=.var v\/∃c,s=.add v c)->∀y,σ.num v.ad=some y->y.natAbs<=m):x.natAbs<=m+4:=by
  induction s using Sm.casesOn with
  | const c=>obtain rfl:=sI h;exact Nat.le_trans hs (Nat.le_add_left 4 m)
  | var v=>exact Nat.le_trans (key v (.inl rfl) x h) (Nat.le_add_right m 4)
  | add v c =>
    refine xEA (Option.map_eq_some_iff.mp h) fun y hy z=>?_
    rw [← z]
    exact zWY (key v (.inr ⟨c,rfl⟩) y hy) hs (Nat.le_refl _)
theorem Bd.worth {ib jb:Nat}{rd:Rd}{ps:PS}(B:Bd ib jb rd ps) (hi:ib<=300) (hj:jb<=300) {s:Sm}(hs:okS s) {x:Int}(h:worth ps.σ s=some x):x.natAbs<=304:=
  zQq (m:=300) (by decide) hs h fun v Z y hy=>by
    induction v using Sv.casesOn with
    | I=>exact Nat.le_trans (B.I y hy) hi
    | J=>exact Nat.le_trans (B.J y hy) hj
    | N=>exact Nat.le_trans (B.N y hy) (by decide)
theorem Bd.worthJ {jb:Nat}{rd:Rd}{ps:PS}(B:Bd 84 jb rd ps) {s:Sm}(hs:okS s) (h1:s≠.var .J) (h2:∀c,s≠.add .J c) {x:Int}(h:Mine.worth ps.σ s=some x):x.natAbs<=88:=
  zQq (m:=84) (by decide) hs h fun v hv y hy=>by
    induction v using Sv.casesOn with
    | I=>exact B.I y hy
    | J=>rcases hv with z | ⟨c,z⟩;exact absurd z h1;exact absurd z (h2 c)
    | N=>exact Nat.le_trans (B.N y hy) (by decide)
theorem zDr {x:Int}(h:x.natAbs<=1000):okB x=true:=by simp [okB];lia
theorem Bd.up {ib jb ib' jb':Nat}{rd:Rd}{ps:PS}(B:Bd ib jb rd ps) (hi:ib<=ib') (hj:jb<=jb'):Bd ib' jb' rd ps:=
  ⟨B.len,B.nn,fun x h=>Nat.le_trans (B.I x h) hi,fun x h=>Nat.le_trans (B.J x h) hj,B.N,B.rd⟩
theorem zRF {l:List Ev}{p:Pl}(h:due l=l):due (l++[.pl p])=l++[.pl p]:=by rw [zGu,h];rfl
theorem zSV {l:List Ev}{x:Int}(h:due l=l):due (l++[.val (some x)])=l++[.val (some x)]:=by rw [zGu,h];rfl
theorem qd {rd:Rd}{ps:PS}{p:Pl}:(qj rd ps p).log.length=ps.log.length+1:=by simp [qj]
theorem Bd.tell {ib jb:Nat}{rd:Rd}{ps:PS}(B:Bd ib jb rd ps) (hi:4<=ib) (hj:4<=jb) (h:ps.log.length+1<40) (p:Pl):Bd ib jb rd (qj rd ps p):=by
  have key:∀a:Nat,∀b,(∀x,ps.σ.num a=some x->x.natAbs<=b)->4<=b->∀x,(qj rd ps p).σ.num a=some x->x.natAbs<=b:=by
    intro a b h1 h2 x hx
    unfold qj at hx
    generalize hr:rd=z8;induction z8 using Option.casesOn with
    | none=>simp [hr] at hx;exact h1 x hx
    | some ns =>
      refine xA (B.rd ns hr) fun l5 hn=>?_
      simp only [hr] at hx
      induction p using Pl.casesOn with
      | num c =>
        simp only [Sto.put,Sto.setN] at hx
        split at hx
        · have hm:ns.getD (ps.log.length % 5) 0∈ns:=by
            rw [List.getD_eq_getElem?_getD,List.getElem?_eq_getElem (by lia)]
            exact List.getElem_mem _
          have:=hn _ hm
          rw [Option.some.inj hx] at this
          lia
        · exact h1 x hx
      | txt j=>exact h1 x hx
  refine ⟨by rw [qd];exact h,fun hr=>?_,key 0 ib B.I hi,key 1 jb B.J hj,key 2 4 B.N (Nat.le_refl _),B.rd⟩
  exact zRF (B.nn hr)
def zMv (c n:Nat) (rd:Rd) (Inv:PS->Prop) (it:It):Prop:=∀ps b ps',zCX rd it ps=(b,ps')->Inv ps ->
  (b=true->Inv ps'/\ps.log.length+n<=ps'.log.length) /\
  ∀its at_ tg cnt ls,its[at_]?=some it->its.length<=10->cnt≠0->cnt<=1000->ls.length<=c ->
    (b=true->∀o,Ls rd ps' [] (⟨its,at_+1,tg,cnt⟩::ls) o->Ls rd ps [] (⟨its,at_,tg,cnt⟩::ls) o) /\
    (b=false->(rd.isSome=false->ps'.log.length<40)->Ls rd ps [] (⟨its,at_,tg,cnt⟩::ls) (zAr rd ps'))
theorem zQk {ib jb:Nat}(hi:4<=ib) (hj:4<=jb) {rd:Rd}:∀(pls:List Pl) (ps:PS) (b:Bool) (ps':PS),zBa rd pls ps=(b,ps')->Bd ib jb rd ps->pls.length<=10 ->
    (b=true->Bd ib jb rd ps'/\ps.log.length+pls.length<=ps'.log.length) /\
    ∀ls:List Lv,ls.length<=10->(b=true->∀o,Ls rd ps' [] ls o->Ls rd ps pls ls o)/\(b=false->(rd.isSome=false->ps'.log.length<40)->Ls rd ps pls ls (zAr rd ps')):=by
  intro q0
  induction q0 with
  | nil =>
    intro ps b ps' h B _
    simp [zBa] at h
    refine xA h ?_;clear h;intro z2 z3;subst z2;subst z3
    exact ⟨fun Z=>⟨B,Nat.le_refl _⟩,fun ls Z=>⟨fun Z o x=>x,fun h=>by exact zEr h⟩⟩
  | cons p r ih =>
    intro ps b ps' h B hl
    unfold zBa at h
    rw [qd] at h
    have hr:r.length<=10:=Nat.le_of_succ_le hl
    split at h
    · rename_i h40
      refine xA (ih _ b ps' h (B.tell hi hj h40 p) hr) fun x y=>?_
      refine ⟨fun hb=>⟨(x hb).1,by have:=(x hb).2;rw [qd] at this;simp;lia⟩,fun ls hls=>⟨fun hb o z=>?_,fun hb z=>?_⟩⟩
      · exact .plC (.el hr hls) h40 ((y ls hls).1 hb o z)
      · exact .plC (.el hr hls) h40 ((y ls hls).2 hb z)
    · rename_i h40
      injection h with h1 h2
      subst h1;subst h2
      refine ⟨fun hb=>(by exact zV hb),fun ls hls=>⟨fun hb=>(by exact zV hb),fun Z z=>?_⟩⟩
      generalize hrd:rd.isSome=z9;induction z9 using Bool.casesOn with
      | false=>have:=z hrd;rw [qd] at this;lia
      | true =>
        have e:=zRF (p:=p) (B.nn hrd)
        have:zAr rd (qj rd ps p)=((qj rd ps p).log,false,(qj rd ps p).σ):=by
          unfold zAr
          rw [if_pos hrd]
          have e':due (qj rd ps p).log=(qj rd ps p).log:=e
          rw [e',qd,decide_eq_false h40]
        rw [this]
        exact .plS (.el hr hls) B.len hrd (by lia)
theorem zcc {ib jb:Nat}(hi:4<=ib) (hj:4<=jb) {rd:Rd}{p:Pl}{ps:PS}{b:Bool}{ps':PS}(h:zBa rd [p] ps=(b,ps')) (B:Bd ib jb rd ps) {e:List Pl}{l ls:List Lv}(n:Nx ps.σ e l (.pl p) ps.σ [] ls) :
    (b=true->∀o,Ls rd ps' [] ls o->Ls rd ps e l o)/\(b=false->(rd.isSome=false->ps'.log.length<40)->Ls rd ps e l (zAr rd ps')):=by
  simp only [zBa,qd] at h
  split at h
  · rename_i h40
    injection h with h1 h2
    subst h1;subst h2
    exact ⟨fun Z o z=>.plC n h40 z,fun hb=>by exact zEr hb⟩
  · rename_i h40
    injection h with h1 h2
    subst h1;subst h2
    refine ⟨fun hb=>(by exact zV hb),fun Z z=>?_⟩
    generalize hrd:rd.isSome=z10;induction z10 using Bool.casesOn with
    | false=>have:=z hrd;rw [qd] at this;lia
    | true =>
      have e:=zRF (p:=p) (B.nn hrd)
      have:zAr rd (qj rd ps p)=((qj rd ps p).log,false,(qj rd ps p).σ):=by
        unfold zAr
        rw [if_pos hrd]
        have e':due (qj rd ps p).log=(qj rd ps p).log:=e
        rw [e',qd,decide_eq_false h40]
      rw [this]
      exact .plS n B.len hrd (by lia)
theorem zIU {ib jb:Nat}{rd:Rd}{ps:PS}(B:Bd ib jb rd ps) {e l σ' e' l'} (n:Nx ps.σ e l .fault σ' e' l') (hσ:σ'=ps.σ):Ls rd ps e l (zAr rd ps):=by
  have:zAr rd ps=(ps.log,true,σ'):=by
    unfold zAr
    split
    · rename_i hrd
      rw [B.nn hrd,decide_eq_true B.len,hσ]
    · rw [hσ]
  rw [this]
  exact .fault n B.len
def zQA:It->Prop
  | .ex s=>okS s
  | .elA s=>okS s
  | .elB s t=>okS s/\okS t
  | .arr _=>True
  | .ido ..=>False
theorem zNs {ib jb c:Nat}(hi:4<=ib) (hj:4<=jb) (hc:c<=9) {rd:Rd}{it:It}{f:Sto->Option Pl}(h1:∀ps,zCX rd it ps=zFZ rd ps (f ps.σ)) (h2:∀σ,tk σ it=oP (f σ)) (h3:∀ps,Bd ib jb rd ps->okE ps.σ it):zMv c 1 rd (Bd ib jb rd) it:=by
  intro ps b ps' h B
  rw [h1] at h
  have h2':=h2 ps.σ
  generalize hf:f ps.σ=z11;induction z11 using Option.casesOn with
  | none =>
    simp only [hf,zFZ] at h
    rw [hf] at h2'
    injection h with h4 h5
    subst h4;subst h5
    exact ⟨fun hb=>(by exact zV hb),fun its at_ tg cnt ls q1 q2 q3 q4 q5=>⟨fun hb=>(by exact zV hb),fun Z Z=>zIU B (.takeF (by lia) q3 q4 q2 q1 (h3 ps B) h2') rfl⟩⟩
  | some p =>
    simp only [hf,zFZ] at h
    rw [hf] at h2'
    refine ⟨(zQk hi hj [p] ps b ps' h B (by simp)).1,fun its at_ tg cnt ls q1 q2 q3 q4 q5=>zcc hi hj h B (.takeO (by lia) q3 q4 q2 q1 (h3 ps B) h2')⟩
theorem zGL {ib jb c:Nat}(hi:4<=ib) (hj:4<=jb) (hi':ib<=300) (hj':jb<=300) (hc:c<=9) {rd:Rd}{it:It}(hl:zQA it):zMv c 1 rd (Bd ib jb rd) it:=by
  have tv:∀s:Sm,okS s->(∀v,s≠.var v)->zMv c 1 rd (Bd ib jb rd) (.ex s):=by
    intro s hs hv ps b ps' h B
    have hX:okX ps.σ s:=⟨hs,fun x hx=>zDr (by have:=B.worth hi' hj' hs hx;lia)⟩
    have h1:zCX rd (.ex s) ps=zLI rd ps (worth ps.σ s):=by
      induction s using Sm.casesOn with
      | var v=>exact absurd rfl (hv v)
      | const c=>rfl
      | add v c=>rfl
    have h2:tk ps.σ (.ex s)=.out (.ex s):=by
      induction s using Sm.casesOn with
      | var v=>exact absurd rfl (hv v)
      | const c=>rfl
      | add v c=>rfl
    rw [h1] at h
    unfold zLI at h
    injection h with h4 h5
    have ln:ps'.log.length=ps.log.length+1:=by rw [← h5];simp
    refine ⟨fun hb=>?_,fun its at_ tg cnt ls q1 q2 q3 q4 q5=>?_⟩
    · rw [hb] at h4
      simp at h4
      refine ⟨⟨by lia,fun hrd=>?_,?_,?_,?_,B.rd⟩,by lia⟩
      · have hw:=h4.1
        generalize hw':worth ps.σ s=z12;induction z12 using Option.casesOn with
        | none=>simp [hw'] at hw;simp [hw] at hrd
        | some x=>rw [← h5];simp only [hw'];exact zSV (B.nn hrd)
      · rw [← h5];exact B.I
      · rw [← h5];exact B.J
      · rw [← h5];exact B.N
    · have n:Nx ps.σ [] (⟨its,at_,tg,cnt⟩::ls) (.ex s) ps.σ [] (⟨its,at_+1,tg,cnt⟩::ls):=.takeO (by lia) q3 q4 q2 q1 hX h2
      refine ⟨fun hb o z=>?_,fun hb z=>?_⟩
      · rw [hb] at h4
        simp at h4
        refine .exC n hX (by lia) (fun hrd=>?_) (by rw [h5];exact z)
        generalize hw':worth ps.σ s=z13;induction z13 using Option.casesOn with
        | none=>have hw:=h4.1;simp [hw'] at hw;simp [hw] at hrd
        | some x=>rfl
      · rw [hb] at h4
        generalize hrd:rd.isSome=z14;induction z14 using Bool.casesOn with
        | false =>
          have:=z hrd
          simp [hrd] at h4
          lia
        | true =>
          generalize hw':worth ps.σ s=z15;induction z15 using Option.casesOn with
          | none =>
            have:zAr rd ps'=(ps.log,true,ps.σ):=by
              unfold zAr
              rw [if_pos hrd,← h5]
              have e:due (ps.log++[.val (worth ps.σ s)])=ps.log:=by rw [zGu,B.nn hrd,hw'];simp [due]
              simp only [e]
              rw [decide_eq_true B.len]
            rw [this]
            exact .exF n hX B.len hrd hw'
          | some x =>
            simp [hw'] at h4
            have:zAr rd ps'=(ps.log++[.val (worth ps.σ s)],false,ps.σ):=by
              unfold zAr
              rw [if_pos hrd,← h5]
              have e:due (ps.log++[.val (worth ps.σ s)])=ps.log++[.val (worth ps.σ s)]:=by rw [hw'];exact zSV (B.nn hrd)
              simp only [e]
              rw [decide_eq_false (by simp;lia)]
            rw [this]
            exact .exS n hX B.len hrd (by rw [hw'];rfl) (by lia)
  induction it using It.casesOn with
  | ex s =>
    induction s using Sm.casesOn with
    | var v=>exact zNs hi hj hc (f:=fun Z=>some (.num v.ad)) (fun Z=>rfl) (fun Z=>rfl) (fun ps B=>⟨trivial,fun x hx=>zDr (by have:=B.worth hi' hj' (s:=.var v) trivial hx;lia)⟩)
    | const c=>exact tv _ hl (fun v h=>by cases h)
    | add v c=>exact tv _ hl (fun v h=>by cases h)
  | elA s=>exact zNs hi hj hc (f:=fun σ=>(worth σ s).bind plA) (fun Z=>rfl) (fun Z=>rfl) (fun ps B=>⟨hl,fun x hx=>zDr (by have:=B.worth hi' hj' hl hx;lia)⟩)
  | elB s t=>exact zNs hi hj hc (f:=fun σ=>b2 (worth σ s) (worth σ t) plB) (fun Z=>rfl) (fun Z=>rfl) (fun ps B=>⟨⟨hl.1,fun x hx=>zDr (by have:=B.worth hi' hj' hl.1 hx;lia)⟩,hl.2,fun x hx=>zDr (by have:=B.worth hi' hj' hl.2 hx;lia)⟩)
  | arr a =>
    intro ps b ps' h B
    have hal:(yZ a).length<=10/\1<=(yZ a).length:=by induction a using Ar.casesOn<;>decide
    refine xA (zQk hi hj (yZ a) ps b ps' h B hal.1) fun x y=>?_
    refine ⟨fun hb=>⟨(x hb).1,by have:=(x hb).2;lia⟩,fun its at_ tg cnt ls q1 q2 q3 q4 q5=>?_⟩
    have sil:∀{o σ' e' l'},Nx ps.σ (yZ a) (⟨its,at_+1,tg,cnt⟩::ls) o σ' e' l'->Nx ps.σ [] (⟨its,at_,tg,cnt⟩::ls) o σ' e' l':=fun n=>.takeE (by lia) q3 q4 q2 q1 trivial rfl n
    have y':=y (⟨its,at_+1,tg,cnt⟩::ls) (by simp;lia)
    exact ⟨fun hb o z=>Ls.sil sil (y'.1 hb o z),fun hb z=>Ls.sil sil (y'.2 hb z)⟩
  | ido _ _ _ _ _=>exact hl.elim
theorem zPl {c n:Nat}{rd:Rd}{Inv:PS->Prop}:∀(rest:List It),(∀it∈rest,zMv c n rd Inv it)->∀ps b ps',qJ rd rest ps=(b,ps')->Inv ps ->
  (b=true->Inv ps'/\ps.log.length+n * rest.length<=ps'.log.length) /\
  ∀done tg cnt ls,(done++rest).length<=10->cnt≠0->cnt<=1000->ls.length<=c ->
    (b=true->∀o,Ls rd ps' [] (⟨done++rest,(done++rest).length,tg,cnt⟩::ls) o->Ls rd ps [] (⟨done++rest,done.length,tg,cnt⟩::ls) o) /\
    (b=false->(rd.isSome=false->ps'.log.length<40)->Ls rd ps [] (⟨done++rest,done.length,tg,cnt⟩::ls) (zAr rd ps')):=by
  intro q0
  induction q0 with
  | nil =>
    intro _ ps b ps' h B
    simp [qJ] at h
    refine xA h ?_;clear h;intro z4 z5;subst z4;subst z5
    refine ⟨fun Z=>⟨B,Nat.le_refl _⟩,fun done tg cnt ls Z Z Z Z=>⟨fun Z o z=>?_,fun hb=>by exact zEr hb⟩⟩
    simpa using z
  | cons it r ih =>
    intro hg ps b ps' h B
    unfold qJ at h
    generalize h1:zCX rd it ps=z16;induction z16 using Prod.casesOn with
    | mk b1 ps1 =>
      refine xA (hg it (.head _) ps b1 ps1 h1 B) fun x y=>?_
      rw [h1] at h
      induction b1 using Bool.casesOn with
      | false =>
        simp only at h
        injection h with h4 h5
        subst h4;subst h5
        refine ⟨fun hb=>(by exact zV hb),fun done tg cnt ls q2 q3 q4 q5=>⟨fun hb=>(by exact zV hb),fun hb z=>?_⟩⟩
        exact (y (done++it::r) done.length tg cnt ls (by simp) q2 q3 q4 q5).2 rfl z
      | true =>
        simp only at h
        refine xA (x rfl) fun B1 g1=>?_
        refine xA (ih (fun i hi=>hg i (.tail _ hi)) ps1 b ps' h B1) fun x' y'=>?_
        refine ⟨fun hb=>⟨(x' hb).1,by have:=(x' hb).2;simp [Nat.mul_add];lia⟩,fun done tg cnt ls q2 q3 q4 q5=>?_⟩
        have e:done++it::r=(done++[it])++r:=by simp
        have e':(done++[it]).length=done.length+1:=by simp
        have y1:=(y (done++it::r) done.length tg cnt ls (by simp) q2 q3 q4 q5).1 rfl
        have y2:=y' (done++[it]) tg cnt ls (by rw [← e];exact q2) q3 q4 q5
        rw [← e,e'] at y2
        exact ⟨fun hb o z=>y1 o (y2.1 hb o z),fun hb z=>y1 _ (y2.2 hb z)⟩
theorem zZO {c R:Nat}{rd:Rd}{its:List It}{v:Sv}{st:Int}{InvR:Nat->PS->Prop}(hl:its.length<=10) (hst:okB st=true)
    (hb:∀r ps,r<R->InvR r ps->∃(Inv':PS->Prop) (n:Nat),Inv' ps/\(∀it∈its,zMv c n rd Inv' it)/\∀ps',Inv' ps'->ps.log.length+n * its.length<=ps'.log.length ->
      (∀x,ps'.σ.num v.ad=some x->okB x=true/\InvR (r+1) ⟨ps'.log,ps'.σ.setN v.ad (x+st)⟩)/\ps'.log.length<40/\zWc rd ps'.log) :
    ∀(m r:Nat) ps b ps',m+r<=R->zBR (qJ rd its) v st m ps=(b,ps')->InvR r ps ->
      (b=true->InvR (r+m) ps'/\ps.log.length<=ps'.log.length) /\
      ∀ls,ls.length<=c->c<=9->m<=1000->(b=true->∀o,Ls rd ps' [] (⟨its,0,some (v,st),0⟩::ls) o->Ls rd ps [] (⟨its,0,some (v,st),m⟩::ls) o) /\
        (b=false->(rd.isSome=false->ps'.log.length<40)->Ls rd ps [] (⟨its,0,some (v,st),m⟩::ls) (zAr rd ps')):=by
  intro q0
  induction q0 with
  | zero =>
    intro r ps b ps' _ h R
    simp [zBR] at h
    refine xA h ?_;clear h;intro z6 z7;subst z6;subst z7
    exact ⟨fun Z=>⟨R,Nat.le_refl _⟩,fun ls Z Z Z=>⟨fun Z o z=>z,fun hb=>by exact zEr hb⟩⟩
  | succ m ih =>
    intro r ps b ps' hm h R
    refine zt (hb r ps (by lia) R) fun Inv' n i1 i2 i3=>?_
    unfold zBR at h
    generalize h1:qJ rd its ps=z17;induction z17 using Prod.casesOn with
    | mk b1 ps1 =>
      refine xA (zPl its i2 ps b1 ps1 h1 i1) fun x y=>?_
      rw [h1] at h
      induction b1 using Bool.casesOn with
      | false =>
        simp only at h
        injection h with h4 h5
        subst h4;subst h5
        refine ⟨fun hb=>(by exact zV hb),fun ls q1 q2 q3=>⟨fun hb=>(by exact zV hb),fun hb z=>?_⟩⟩
        exact (y [] (some (v,st)) (m+1) ls hl (Nat.succ_ne_zero _) q3 q1).2 rfl z
      | true =>
        simp only at h
        refine xA (x rfl) fun B1 g1=>?_
        refine xAA (i3 ps1 B1 g1) fun j1 j2 j3=>?_
        have g1':ps.log.length<=ps1.log.length:=Nat.le_trans (Nat.le_add_right _ _) g1
        generalize hx:ps1.σ.num v.ad=z18;induction z18 using Option.casesOn with
        | none =>
          rw [hx] at h
          simp only at h
          injection h with h4 h5
          subst h4;subst h5
          refine ⟨fun hb=>(by exact zV hb),fun ls q1 q2 q3=>⟨fun hb=>(by exact zV hb),fun hb z=>?_⟩⟩
          refine (y [] (some (v,st)) (m+1) ls hl (Nat.succ_ne_zero _) q3 q1).1 rfl _ ?_
          have:zAr rd ps1=(ps1.log,true,ps1.σ):=by
            unfold zAr
            split
            · rename_i hrd
              rw [j3 hrd,decide_eq_true j2]
            · rfl
          rw [this]
          exact .fault (.rndF (by lia) (Nat.succ_ne_zero _) q3 hl rfl rfl hx) j2
        | some x =>
          rw [hx] at h
          simp only at h
          refine xA (j1 x hx) fun k1 k2=>?_
          refine xA (ih (r+1) _ b ps' (by lia) h k2) fun x' y'=>?_
          refine ⟨fun hb=>⟨by have:=(x' hb).1;rwa [show r+1+m=r+(m+1) by lia] at this,Nat.le_trans g1' (x' hb).2⟩,fun ls q1 q2 q3=>?_⟩
          have y1:=(y [] (some (v,st)) (m+1) ls hl (Nat.succ_ne_zero _) q3 q1).1 rfl
          have y2:=y' ls q1 q2 (by lia)
          have sil:∀{o σ' e' l'},Nx (ps1.σ.setN v.ad (x+st)) [] (⟨its,0,some (v,st),m⟩::ls) o σ' e' l'->Nx ps1.σ [] (⟨its,its.length,some (v,st),m+1⟩::ls) o σ' e' l':=
            fun n=>.rnd (l:=⟨its,its.length,some (v,st),m+1⟩) (by lia) (Nat.succ_ne_zero _) q3 hl rfl rfl hx k1 hst n
          exact ⟨fun hb o z=>y1 o (Ls.sil sil (y2.1 hb o z)),fun hb z=>y1 _ (Ls.sil sil (y2.2 hb z))⟩
theorem zTE {a b:Int}{m n:Nat}(h1:0<b) {x y:Int}(hx:x.natAbs<=m) (hy:y.natAbs<=n) (e:a=x-y):(a / b+1).toNat<=n+m+1:=by
  have h2:a.natAbs<=m+n:=by rw [e];exact Nat.le_trans (Int.natAbs_sub_le x y) (Nat.add_le_add hx hy)
  have h3:a / b<=a.natAbs:=by
    rcases Int.lt_or_le a 0 with h | h
    · exact Int.le_trans (Int.le_of_lt (Int.ediv_neg_of_neg_of_pos h h1)) (Int.natCast_nonneg _)
    · exact Int.le_trans (Int.ediv_le_self _ h) Int.le_natAbs
  have:=Int.toNat_le_toNat (Int.add_le_add_right h3 1)
  exact Nat.le_trans this (by rw [Int.toNat_natCast_add_one,Nat.add_comm n m];exact Nat.succ_le_succ h2)
theorem zNF {f e st:Int}{m k:Nat}(h0:st≠0) (hf:f.natAbs<=2) (he:e.natAbs<=m) (hk:m+3<=k):count f e st<=k:=by
  refine Nat.le_trans ?_ (Nat.add_comm m 3 ▸ hk)
  unfold count Builtin.Range.rangeSize
  by_cases h:st>0
  · have h':0<st:=h
    rw [if_pos h,if_pos h']
    split
    · exact Nat.le_trans (zTE h' he hf (by lia)) (by lia)
    · exact Nat.zero_le _
  · have h':¬0<st:=h
    rw [if_neg h,if_neg h']
    split
    · exact Nat.le_trans (zTE (a:=f-(e + -1)-1) (b:=-st) (by lia) hf he (by lia)) (by lia)
    · exact Nat.zero_le _
theorem Bd.setI {ib ib' jb:Nat}{rd:Rd}{lg:List Ev}{σ:Sto}(B:Bd ib jb rd ⟨lg,σ⟩) {x:Int}(h:x.natAbs<=ib'):Bd ib' jb rd ⟨lg,σ.setN 0 x⟩:=
  ⟨B.len,B.nn,fun y hy=>by simp [Sto.setN] at hy;rw [← hy];exact h,fun y hy=>B.J y (by simpa [Sto.setN] using hy),fun y hy=>B.N y (by simpa [Sto.setN] using hy),B.rd⟩
theorem Bd.setJ {ib jb jb':Nat}{rd:Rd}{lg:List Ev}{σ:Sto}(B:Bd ib jb rd ⟨lg,σ⟩) {x:Int}(h:x.natAbs<=jb'):Bd ib jb' rd ⟨lg,σ.setN 1 x⟩:=
  ⟨B.len,B.nn,fun y hy=>B.I y (by simpa [Sto.setN] using hy),fun y hy=>by simp [Sto.setN] at hy;rw [← hy];exact h,fun y hy=>B.N y (by simpa [Sto.setN] using hy),B.rd⟩
theorem zPm {c:Nat}{rd:Rd}{Inv:PS->Prop}{its:List It}{v:Sv}{f:Int}{l:Sm}{st:Int}(hc:c<=8) (hf:f.natAbs<=2) (hl:its.length<=10) (hst:st.natAbs<=2)
    (hs:okS l) (hB:∀ps,Inv ps->∃ib jb,Bd ib jb rd ps/\∀x,worth ps.σ l=some x->x.natAbs<=304)
    (hR:∀ps e,Inv ps->worth ps.σ l=some e->st≠0->∀b ps',zBR (qJ rd its) v st (count f e st) ⟨ps.log,ps.σ.setN v.ad f⟩=(b,ps') ->
      (b=true->Inv ps'/\ps.log.length<=ps'.log.length)/\∀ls,ls.length<=c+1->(b=true->∀o,Ls rd ps' [] (⟨its,0,some (v,st),0⟩::ls) o->Ls rd ⟨ps.log,ps.σ.setN v.ad f⟩ [] (⟨its,0,some (v,st),count f e st⟩::ls) o) /\
        (b=false->(rd.isSome=false->ps'.log.length<40)->Ls rd ⟨ps.log,ps.σ.setN v.ad f⟩ [] (⟨its,0,some (v,st),count f e st⟩::ls) (zAr rd ps'))):zMv c 0 rd Inv (.ido its v f l st):=by
  intro ps b ps' h B
  refine zHH (hB ps B) fun ib jb BB hw=>?_
  have hE:okE ps.σ (.ido its v f l st):=(zEg (zDr (by lia)) hst hs (fun x hx=>zDr (by have:=hw x hx;lia)))
  unfold zCX at h
  generalize he:worth ps.σ l=z19;induction z19 using Option.casesOn with
  | none =>
    rw [he] at h
    simp only at h
    injection h with h4 h5
    subst h4;subst h5
    exact ⟨fun hb=>(by exact zV hb),fun its' at_ tg cnt ls q1 q2 q3 q4 q5=>⟨fun hb=>(by exact zV hb),fun Z Z=>zIU BB (.takeF (by lia) q3 q4 q2 q1 hE (tkN he)) rfl⟩⟩
  | some e =>
    rw [he] at h
    simp only at h
    by_cases h0:st=0
    · rw [if_pos h0] at h
      injection h with h4 h5
      subst h4;subst h5
      exact ⟨fun hb=>(by exact zV hb),fun its' at_ tg cnt ls q1 q2 q3 q4 q5=>⟨fun hb=>(by exact zV hb),fun Z Z=>zIU BB (.takeF (by lia) q3 q4 q2 q1 hE (tk0 he h0)) rfl⟩⟩
    · rw [if_neg h0] at h
      refine xA (hR ps e B he h0 b ps' h) fun x y=>?_
      refine ⟨fun hb=>⟨(x hb).1,(x hb).2⟩,fun its' at_ tg cnt ls q1 q2 q3 q4 q5=>?_⟩
      have sil:∀{o σ' e' l'},Nx (ps.σ.setN v.ad f) [] (⟨its,0,some (v,st),count f e st⟩::⟨its',at_+1,tg,cnt⟩::ls) o σ' e' l'->Nx ps.σ [] (⟨its',at_,tg,cnt⟩::ls) o σ' e' l':=
        fun n=>.takeP (by lia) q3 q4 q2 q1 hE (tkS he h0) n
      have y':=y (⟨its',at_+1,tg,cnt⟩::ls) (by simp;lia)
      have pop:∀{o σ' e' l'},Nx ps'.σ [] (⟨its',at_+1,tg,cnt⟩::ls) o σ' e' l'->Nx ps'.σ [] (⟨its,0,some (v,st),0⟩::⟨its',at_+1,tg,cnt⟩::ls) o σ' e' l':=fun n=>.pop0 (by simp;lia) rfl n
      exact ⟨fun hb o z=>Ls.sil sil (y'.1 hb o (Ls.sil pop z)),fun hb z=>Ls.sil sil (y'.2 hb z)⟩
structure OkI (its:List It) (f:Int) (l:Sm) (st:Int):Prop where
  ne:1<=its.length
  len:its.length<=10
  f:f.natAbs<=2
  l:okS l
  st:st.natAbs<=2
def ok1 (it:It):Prop:=zQA it\/∃its f l st,it=.ido its .I f l st/\OkI its f l st/\∀i∈its,zQA i
def ok2 (it:It):Prop:=ok1 it\/∃its f l st,it=.ido its .J f l st/\OkI its f l st/\(∀i∈its,ok1 i)/\l≠.var .J/\∀c,l≠.add .J c
theorem zSk {c jb:Nat}(hc:c<=8) (hj:4<=jb) (hj':jb<=300) {rd:Rd}{it:It}(h:ok1 it):zMv c 0 rd (Bd 84 jb rd) it:=by
  rcases h with h | ⟨its,f,l,st,rfl,O,hi⟩
  · intro ps b ps' h1 B
    refine xA (zGL (ib:=84) (by decide) hj (by decide) hj' (show c<=9 by lia) h ps b ps' h1 B) fun x y=>?_
    exact ⟨fun hb=>⟨(x hb).1,by have:=(x hb).2;lia⟩,y⟩
  · refine zPm hc O.f O.len O.st O.l (fun ps B=>(zES 84 jb B (fun x hx=>B.worth (by decide) hj' O.l hx))) fun ps e B he h0 b ps' hr=>?_
    have hcnt:count f e st<=1000:=zNF h0 O.f (B.worth (by decide) hj' O.l he) (by decide)
    refine xA (zZO (c:=c+1) (R:=1000) (InvR:=fun Z ps=>Bd (4+2 * ps.log.length) jb rd ps) O.len (zDr (Nat.le_trans O.st (by decide))) (fun r ps1z Z R=>by
      have hl:=R.len
      refine (yS (Bd (4+2 * ps1z.log.length) jb rd) 1 R (fun i hm=>zGL (by lia) hj (by lia) hj' (by lia) (hi i hm)) (fun ps2z B2z hg=>⟨fun x hx=>?_,B2z.len,B2z.nn⟩))
      have hx':=B2z.I x hx
      have hn:=O.ne
      have hst:=O.st
      exact ⟨zDr (Nat.le_trans hx' (by lia)),Bd.setI B2z (zWY hx' hst (by simp;lia))⟩) (count f e st) 0 _ b ps' (by lia) hr (Bd.setI B (Nat.le_trans O.f (by simp;lia)))) fun x y=>?_
    refine ⟨fun hb=>⟨(x hb).1.up (by have:=(x hb).1.len;lia) (Nat.le_refl _),(x hb).2⟩,fun ls hls=>y ls hls (by lia) hcnt⟩
theorem zVx {rd:Rd}{it:It}(h:ok2 it):zMv 5 0 rd (Bd 84 200 rd) it:=by
  rcases h with h | ⟨its,f,l,st,rfl,O,hi,hl1,hl2⟩
  · exact zSk (by decide) (by decide) (by decide) h
  · refine zPm (by decide) O.f O.len O.st O.l (fun ps B=>(zES 84 200 B (fun x hx=>B.worth (by decide) (by decide) O.l hx))) fun ps e B he h0 b ps' hr=>?_
    have hcnt:count f e st<=92:=zNF h0 O.f (B.worthJ O.l hl1 hl2 he) (by decide)
    refine xA (zZO (c:=6) (R:=92) (InvR:=fun r ps=>Bd 84 (4+2 * r) rd ps) O.len (zDr (Nat.le_trans O.st (by decide))) (fun r ps1z hr R=>by
      refine (yS (Bd 84 (4+2 * r) rd) 0 R (fun i hm=>zSk (by decide) (by lia) (by lia) (hi i hm)) (fun ps2z B2z hg=>⟨fun x hx=>?_,B2z.len,B2z.nn⟩))
      have hx':=B2z.J x hx
      have hst:=O.st
      exact ⟨zDr (Nat.le_trans hx' (by lia)),Bd.setJ B2z (zWY hx' hst (by lia))⟩) (count f e st) 0 _ b ps' (by lia) hr (Bd.setJ B (Nat.le_trans O.f (by lia)))) fun x y=>?_
    refine ⟨fun hb=>⟨(x hb).1.up (Nat.le_refl _) (by lia),(x hb).2⟩,fun ls hls=>y ls hls (by lia) (by lia)⟩
theorem zQo {rd:Rd}{its:List It}(hi:∀it∈its,ok2 it) (hl:its.length<=10) {ps:PS}(B:Bd 84 200 rd ps) {b:Bool}{ps':PS}(h:qJ rd its ps=(b,ps')) (h40:rd.isSome=false->ps'.log.length<40) :
    Ls rd ps [] [⟨its,0,none,1⟩] (if b then (ps'.log,false,ps'.σ) else zAr rd ps'):=by
  refine xA (zPl its (fun it hm=>zVx (hi it hm)) ps b ps' h B) fun x y=>?_
  have y':=y [] none 1 [] hl (by decide) (by decide) (by decide)
  induction b using Bool.casesOn with
  | false=>exact y'.2 rfl h40
  | true =>
    refine y'.1 rfl _ ?_
    have B':=(x rfl).1
    exact .fin (.popT (Nat.zero_le _) Nat.one_ne_zero (show 1<=1000 by decide) hl rfl rfl .fin) B'.len
section
@[simp] theorem zAT {α:Type}{a:α}{f:α->Prop}{t:Tag f}:oK f t (some a)=f a:=rfl
theorem zSz {α:Type}{o:Option α}{a:α}{f:α->Prop}{t:Tag f}(h:o=some a):oK f t o=f a:=by rw [h];rfl
@[simp] theorem zAl {p q:Prop}{t:zZZ p q}:bK p q t true=p:=rfl
@[simp] theorem zCr {p q:Prop}{t:zZZ p q}:bK p q t false=q:=rfl
@[simp] theorem zDy {p:Prop}{t:zGm p}:aK p t true=p:=rfl
theorem zcI {ps:List PV}{p:Prop}{t:zGm p}(h:ps.length<=1000):lK p t ps=p:=by unfold lK;rw [Nat.ble_eq_true_of_le h];rfl
theorem zGh {p:Prop}{ps:List PV}(h:ps.length<=1000) (hp:p):lK p .mk ps:=by rw [zcI h];exact hp
@[simp] theorem zce {ps:List PV}{f:List PV->Prop}{t:Tag f}:zUp f t (.tup ps)=f ps:=rfl
@[simp] theorem zbx {i:Int}{f:Int->Prop}{t:Tag f}:zFs f t (.int i)=f i:=rfl
@[simp] theorem zaG {i:Value}{f:Value->Prop}{t:Tag f}:zSc f t (.glob i)=f i:=rfl
end
theorem aKo {p:Prop}{b:Bool}(h:b=true):aK p .mk b=p:=by rw [h];rfl
theorem aKi {p:Prop}{b:Bool}(h:b=true) (H:p):aK p .mk b:=by rw [h];exact H
theorem oKi {α:Type}{f:α->Prop}{o:Option α}{r:α}(h:o=some r) (k:f r):oK f .mk o:=by rw [h];exact k
theorem oKo {α:Type}{o:Option α}{a:α}{f:α->Prop}(h:o=some a):oK f .mk o=f a:=zSz h
theorem bKt {p q:Prop}{c:Prop}(h:c):bK p q .mk (dec c)=p:=by rw [zPE h];rfl
theorem bKf {p q:Prop}{c:Prop}(h:¬c):bK p q .mk (dec c)=q:=by rw [zSS h];rfl
section
variable {M:Mem}{k:PV->Mem->Prop}{kx:Mem->Prop}{kn:St->Prop}{kr:PV->Mem->Prop}{kxs:St->Prop}{kb:Bool->Mem->Prop}{kl:List PV->Mem->Prop}{lo:List (Option PV)}
def cK {α:Type}(f:α->Prop) (_:Tag f) (a:α):Prop:=f a
@[simp] theorem zCE {α:Type}{f:α->Prop}{t:Tag f}{a:α}:cK f t a=f a:=rfl
@[simp ↓] theorem qf {i:Nat}:zF i ⟨lo,M⟩ k kx=oK (fun p=>k p M) .mk (qD lo i):=rfl
@[simp ↓,simp high] theorem eo0 {a0:Option PV}{l:List (Option PV)}:qD (a0::l) 0=a0:=rfl
@[simp ↓,simp high] theorem eo1 {a0 a1:Option PV}{l:List (Option PV)}:qD (a0::a1::l) 1=a1:=rfl
@[simp ↓,simp high] theorem eo2 {a0 a1 a2:Option PV}{l:List (Option PV)}:qD (a0::a1::a2::l) 2=a2:=rfl
@[simp ↓,simp high] theorem eo3 {a0 a1 a2 a3:Option PV}{l:List (Option PV)}:qD (a0::a1::a2::a3::l) 3=a3:=rfl
@[simp ↓,simp high] theorem eo4 {a0 a1 a2 a3 a4:Option PV}{l:List (Option PV)}:qD (a0::a1::a2::a3::a4::l) 4=a4:=rfl
@[simp ↓,simp high] theorem eo5 {a0 a1 a2 a3 a4 a5:Option PV}{l:List (Option PV)}:qD (a0::a1::a2::a3::a4::a5::l) 5=a5:=rfl
@[simp ↓,simp high] theorem eo6 {a0 a1 a2 a3 a4 a5 a6:Option PV}{l:List (Option PV)}:qD (a0::a1::a2::a3::a4::a5::a6::l) 6=a6:=rfl
@[simp ↓,simp high] theorem eo7 {a0 a1 a2 a3 a4 a5 a6 a7:Option PV}{l:List (Option PV)}:qD (a0::a1::a2::a3::a4::a5::a6::a7::l) 7=a7:=rfl
@[simp ↓,simp high] theorem eo8 {a0 a1 a2 a3 a4 a5 a6 a7 a8:Option PV}{l:List (Option PV)}:qD (a0::a1::a2::a3::a4::a5::a6::a7::a8::l) 8=a8:=rfl
@[simp ↓,simp high] theorem eo9 {a0 a1 a2 a3 a4 a5 a6 a7 a8 a9:Option PV}{l:List (Option PV)}:qD (a0::a1::a2::a3::a4::a5::a6::a7::a8::a9::l) 9=a9:=rfl
@[simp ↓,simp high] theorem zPL {a0 a1 a2 a3 a4 a5 a6 a7 a8 a9 a10:Option PV}{l:List (Option PV)}:qD (a0::a1::a2::a3::a4::a5::a6::a7::a8::a9::a10::l) 10=a10:=rfl
@[simp ↓,simp high] theorem zPM {a0 a1 a2 a3 a4 a5 a6 a7 a8 a9 a10 a11:Option PV}{l:List (Option PV)}:qD (a0::a1::a2::a3::a4::a5::a6::a7::a8::a9::a10::a11::l) 11=a11:=rfl
@[simp ↓,simp high] theorem zPN {a0 a1 a2 a3 a4 a5 a6 a7 a8 a9 a10 a11 a12:Option PV}{l:List (Option PV)}:qD (a0::a1::a2::a3::a4::a5::a6::a7::a8::a9::a10::a11::a12::l) 12=a12:=rfl
@[simp ↓,simp high] theorem zPO {a0 a1 a2 a3 a4 a5 a6 a7 a8 a9 a10 a11 a12 a13:Option PV}{l:List (Option PV)}:qD (a0::a1::a2::a3::a4::a5::a6::a7::a8::a9::a10::a11::a12::a13::l) 13=a13:=rfl
@[simp ↓] theorem zCF {p:PV}:zC p ⟨lo,M⟩ k kx=k p M:=rfl
@[simp ↓] theorem zdz {c:qI}{a b:Den}:dif c a b ⟨lo,M⟩ k kx=c ⟨lo,M⟩ (fun t M=>bK (a ⟨lo,M⟩ k kx) (b ⟨lo,M⟩ k kx) .mk t) kx:=rfl
@[simp ↓] theorem zdO {c:qI}:zHN c ⟨lo,M⟩ kb kx=c ⟨lo,M⟩ (fun t M=>kb (!t) M) kx:=rfl
@[simp ↓] theorem zcm:zHM [] ⟨lo,M⟩ kb kx=kb true M:=rfl
@[simp ↓] theorem zdN {c:qI}{r:List qI}:zHM (c::r) ⟨lo,M⟩ kb kx=c ⟨lo,M⟩ (fun t M=>bK (zHM r ⟨lo,M⟩ kb kx) (kb false M) .mk t) kx:=rfl
@[simp ↓] theorem zdP:bor [] ⟨lo,M⟩ kb kx=kb false M:=rfl
@[simp ↓] theorem zdy {c:qI}{r:List qI}:bor (c::r) ⟨lo,M⟩ kb kx=c ⟨lo,M⟩ (fun t M=>bK (kb true M) (bor r ⟨lo,M⟩ kb kx) .mk t) kx:=rfl
@[simp ↓] theorem zNK {op:Operator}{a b:Den}:ye op a b ⟨lo,M⟩ k kx=a ⟨lo,M⟩ (fun x M=>b ⟨lo,M⟩ (fun y M=>oK (fun r=>k r M) .mk (zER op x y M)) kx) kx:=rfl
@[simp ↓] theorem zdS {op:CmpOp}{a b:Den}:zPC op a b ⟨lo,M⟩ k kx=a ⟨lo,M⟩ (fun x M=>b ⟨lo,M⟩ (fun y M=>oK (fun r=>k (.bool r) M) .mk (zDh op x y M)) kx) kx:=rfl
@[simp ↓] theorem zVR {op:CmpOp}{a b:Den}:yA op a b ⟨lo,M⟩ kb kx=a ⟨lo,M⟩ (fun x M=>b ⟨lo,M⟩ (fun y M=>oK (fun r=>kb r M) .mk (zDh op x y M)) kx) kx:=rfl
@[simp ↓] theorem zYB {op:CmpOp}{a b:Den}:zPD op a b ⟨lo,M⟩ k kx=a ⟨lo,M⟩ (fun x M=>b ⟨lo,M⟩ (fun y M=>oK (fun r=>k (.bool r) M) .mk (yw op x y M)) kx) kx:=rfl
@[simp ↓] theorem zYA {op:CmpOp}{a b:Den}:qH op a b ⟨lo,M⟩ kb kx=a ⟨lo,M⟩ (fun x M=>b ⟨lo,M⟩ (fun y M=>oK (fun r=>kb r M) .mk (yw op x y M)) kx) kx:=rfl
@[simp ↓] theorem zdT {a:Den}:zII a ⟨lo,M⟩ k kx=a ⟨lo,M⟩ (fun x M=>zFs (fun i=>k (.int (-i)) M) .mk x) kx:=rfl
@[simp ↓] theorem zNO {st:St}:zJ st kn kr kxs=kn st:=rfl
@[simp ↓] theorem yf {st:St}{a b:zX}:zK a b st kn kr kxs=a st (fun st'=>b st' kn kr kxs) kr kxs:=rfl
@[simp ↓] theorem zZq {c:qI}{a b:zX}:zw c a b ⟨lo,M⟩ kn kr kxs=c ⟨lo,M⟩ (fun t M=>bK (a ⟨lo,M⟩ kn kr kxs) (b ⟨lo,M⟩ kn kr kxs) .mk t) (fun M=>kxs ⟨lo,M⟩):=rfl
@[simp ↓] theorem zNM {a:Den}:zj a ⟨lo,M⟩ kn kr kxs=a ⟨lo,M⟩ kr (fun M=>kxs ⟨lo,M⟩):=rfl
@[simp ↓] theorem zYC {a:Den}:qZ a ⟨lo,M⟩ kn kr kxs=a ⟨lo,M⟩ (fun Z M=>kn ⟨lo,M⟩) (fun M=>kxs ⟨lo,M⟩):=rfl
@[simp ↓] theorem zAk {i:Nat}{a:Den}:zx i a ⟨lo,M⟩ kn kr kxs=a ⟨lo,M⟩ (fun p M=>kn ⟨lo.set i (some p),M⟩) (fun M=>kxs ⟨lo,M⟩):=rfl
@[simp ↓] theorem zdR {i:Nat}{op:Operator}{a:Den}:zRC i op a ⟨lo,M⟩ kn kr kxs=oK (fun p=>zFs (fun x=>a ⟨lo,M⟩ (fun p M=>zFs (fun y=>oK (fun r=>aK (kn ⟨lo.set i (some r),M⟩) .mk (zOo op)) .mk (zER op (.int x) (.int y) M)) .mk p) (fun M=>kxs ⟨lo,M⟩)) .mk p) .mk (qD lo i):=rfl
@[simp ↓] theorem zbc:zOo .Add=true:=rfl
@[simp ↓] theorem zbA:zOo .Mult=true:=rfl
@[simp ↓] theorem zAS:zM ⟨lo,M⟩ kl kx=kl [] M:=rfl
@[simp ↓] theorem qQ {a:Den}{r:zDD}:zD a r ⟨lo,M⟩ kl kx=a ⟨lo,M⟩ (fun p M=>r ⟨lo,M⟩ (fun ps M=>kl (p::ps) M) kx) kx:=rfl
@[simp ↓] theorem zZr {r:zDD}:zp r ⟨lo,M⟩ k kx=r ⟨lo,M⟩ (fun ps M=>lK (k (.tup ps) M) .mk ps) kx:=rfl
@[simp ↓] theorem zVU {r:zDD}:zFb r ⟨lo,M⟩ k kx=r ⟨lo,M⟩ (fun ps M=>lK (k (.lst ps) M) .mk ps) kx:=rfl
@[simp ↓] theorem zVV {r:zDD}:zHR r ⟨lo,M⟩ k kx=r ⟨lo,M⟩ (fun ps M=>lK (k (.ref M.n) (M.new (.list ps))) .mk ps) kx:=rfl
@[simp ↓] theorem zAF {tf:zh}{r:zDD}:zO tf r ⟨lo,M⟩ k kx=r ⟨lo,M⟩ (fun ps M=>cK (fun q=>tf q M k kx) .mk ps) kx:=rfl
@[simp ↓] theorem zbd {a:Den}{tab:Value->Option zh}{r:zDD}:zGr a tab r ⟨lo,M⟩ k kx=a ⟨lo,M⟩ (fun p M=>zSc (fun v=>oK (fun tf=>r ⟨lo,M⟩ (fun ps M=>cK (fun q=>tf q M k kx) .mk ps) kx) .mk (tab v)) .mk p) kx:=rfl
@[simp ↓] theorem zVW {a b:Den}:zZ a b ⟨lo,M⟩ k kx=a ⟨lo,M⟩ (fun x M=>b ⟨lo,M⟩ (fun y M=>oK (fun r=>k r M) .mk (qa M x y)) kx) kx:=rfl
@[simp ↓] theorem zcn {Cs:List Addr}{a:Den}{name:Str}:zq Cs a name ⟨lo,M⟩ k kx=a ⟨lo,M⟩ (fun o M=>oK (fun p=>aK (k p M) .mk (zEf p)) .mk (zAd Cs M o name)) kx:=rfl
@[simp ↓] theorem zNL {a:Den}{sel:PV->Mem->Option zh}{r:zDD}:yc a sel r ⟨lo,M⟩ k kx=a ⟨lo,M⟩ (fun o M=>oK (fun tf=>r ⟨lo,M⟩ (fun ps M=>cK (fun q=>tf q M k kx) .mk (o::ps)) kx) .mk (sel o M)) kx:=rfl
@[simp ↓] theorem zdQ {a:Den}:zCt a ⟨lo,M⟩ kb kx=a ⟨lo,M⟩ (fun p M=>oK (fun r=>kb r M) .mk (zCV M p)) kx:=rfl
@[simp ↓] theorem zZp {a b:Den}:zXs a b ⟨lo,M⟩ k kx=a ⟨lo,M⟩ (fun p M=>oK (fun r=>bK (b ⟨lo,M⟩ k kx) (k p M) .mk r) .mk (zCV M p)) kx:=rfl
@[simp ↓] theorem zcq {a:Den}:zPG a ⟨lo,M⟩ k kx=a ⟨lo,M⟩ (fun p M=>oK (fun b=>k (.bool (!b)) M) .mk (zCV M p)) kx:=rfl
@[simp ↓] theorem zcr {a b v:Den}:zCY a b v ⟨lo,M⟩ kn kr kxs=v ⟨lo,M⟩ (fun x M=>a ⟨lo,M⟩ (fun o M=>b ⟨lo,M⟩ (fun i M=>oK (fun M'=>kn ⟨lo,M'⟩) .mk (zDL M o i x)) (fun M=>kxs ⟨lo,M⟩)) (fun M=>kxs ⟨lo,M⟩)) (fun M=>kxs ⟨lo,M⟩):=rfl
@[simp ↓] theorem zNN {Cs:List Addr}{a v:Den}{name:Str}:yp Cs a name v ⟨lo,M⟩ kn kr kxs=v ⟨lo,M⟩ (fun x M=>a ⟨lo,M⟩ (fun o M=>oK (fun M'=>kn ⟨lo,M'⟩) .mk (zEI Cs M o name x)) (fun M=>kxs ⟨lo,M⟩)) (fun M=>kxs ⟨lo,M⟩):=rfl
@[simp ↓] theorem zco {Cs:List Addr}{a v:Den}{name:Str}{op:Operator}:zPA Cs a name op v ⟨lo,M⟩ kn kr kxs=a ⟨lo,M⟩ (fun o M=>oK (fun p=>aK (v ⟨lo,M⟩ (fun q M=>oK (fun r=>oK (fun M'=>kn ⟨lo,M'⟩) .mk (zEI Cs M o name r)) .mk (zTi op p q)) (fun M=>kxs ⟨lo,M⟩)) .mk (zEf p)) .mk (zAd Cs M o name)) (fun M=>kxs ⟨lo,M⟩):=rfl
@[simp ↓] theorem zcp {a b v:Den}{op:Operator}:zPB a b op v ⟨lo,M⟩ kn kr kxs=a ⟨lo,M⟩ (fun o M=>b ⟨lo,M⟩ (fun i M=>oK (fun kvs=>zUp (fun ys=>oK (fun p=>v ⟨lo,M⟩ (fun q M=>oK (fun r=>oK (fun M'=>kn ⟨lo,M'⟩) .mk (zDL M o i r)) .mk (zTi op p q)) (fun M=>kxs ⟨lo,M⟩)) .mk ((zDK ys).bind (atk kvs ·))) .mk i) .mk (tdP M o)) (fun M=>kxs ⟨lo,M⟩)) (fun M=>kxs ⟨lo,M⟩):=rfl
@[simp ↓] theorem zdU {is:List Nat}{a:Den}:zFc is a ⟨lo,M⟩ kn kr kxs=a ⟨lo,M⟩ (fun p M=>zUp (fun ps=>aK (kn ⟨zBg lo is ps,M⟩) .mk (Nat.beq ps.length is.length)) .mk p) (fun M=>kxs ⟨lo,M⟩):=rfl
@[simp ↓,simp high] theorem zeL {i:Nat}{is:List Nat}{p:PV}{ps:List PV}:zBg lo (i::is) (p::ps)=zBg (lo.set i (some p)) is ps:=rfl
@[simp ↓,simp high] theorem zeA {ps:List PV}:zBg lo [] ps=lo:=rfl
@[simp ↓] theorem zbf {st:St}:zBk st kn kr kxs=kxs st:=rfl
@[simp ↓] theorem zHT:qP ⟨lo,M⟩ kb kx=kb true M:=rfl
@[simp ↓] theorem zeB {x:Int}:zEf (.int x)=true:=rfl
@[simp ↓] theorem zeD {x:Nat}:zEf (.ref x)=true:=rfl
@[simp ↓] theorem zeC {c:Addr}{x:Nat}:zEf (.inst c x)=true:=rfl
@[simp ↓] theorem ev0 {p:PV}{l:List (Option PV)}:zF 0 ⟨some p::l,M⟩ k kx=k p M:=rfl
@[simp ↓] theorem ev1 {a0:Option PV}{p:PV}{l:List (Option PV)}:zF 1 ⟨a0::some p::l,M⟩ k kx=k p M:=rfl
@[simp ↓] theorem ev2 {a0 a1:Option PV}{p:PV}{l:List (Option PV)}:zF 2 ⟨a0::a1::some p::l,M⟩ k kx=k p M:=rfl
@[simp ↓,simp high] theorem es0 {a0 x:Option PV}{l:List (Option PV)}:(a0::l).set 0 x=x::l:=rfl
@[simp ↓,simp high] theorem es1 {a0 a1 x:Option PV}{l:List (Option PV)}:(a0::a1::l).set 1 x=a0::x::l:=rfl
@[simp ↓,simp high] theorem es2 {a0 a1 a2 x:Option PV}{l:List (Option PV)}:(a0::a1::a2::l).set 2 x=a0::a1::x::l:=rfl
@[simp ↓,simp high] theorem es3 {a0 a1 a2 a3 x:Option PV}{l:List (Option PV)}:(a0::a1::a2::a3::l).set 3 x=a0::a1::a2::x::l:=rfl
@[simp ↓,simp high] theorem es4 {a0 a1 a2 a3 a4 x:Option PV}{l:List (Option PV)}:(a0::a1::a2::a3::a4::l).set 4 x=a0::a1::a2::a3::x::l:=rfl
@[simp ↓,simp high] theorem es5 {a0 a1 a2 a3 a4 a5 x:Option PV}{l:List (Option PV)}:(a0::a1::a2::a3::a4::a5::l).set 5 x=a0::a1::a2::a3::a4::x::l:=rfl
@[simp ↓,simp high] theorem es6 {a0 a1 a2 a3 a4 a5 a6 x:Option PV}{l:List (Option PV)}:(a0::a1::a2::a3::a4::a5::a6::l).set 6 x=a0::a1::a2::a3::a4::a5::x::l:=rfl
@[simp ↓,simp high] theorem es7 {a0 a1 a2 a3 a4 a5 a6 a7 x:Option PV}{l:List (Option PV)}:(a0::a1::a2::a3::a4::a5::a6::a7::l).set 7 x=a0::a1::a2::a3::a4::a5::a6::x::l:=rfl
@[simp ↓,simp high] theorem es8 {a0 a1 a2 a3 a4 a5 a6 a7 a8 x:Option PV}{l:List (Option PV)}:(a0::a1::a2::a3::a4::a5::a6::a7::a8::l).set 8 x=a0::a1::a2::a3::a4::a5::a6::a7::x::l:=rfl
@[simp ↓,simp high] theorem es9 {a0 a1 a2 a3 a4 a5 a6 a7 a8 a9 x:Option PV}{l:List (Option PV)}:(a0::a1::a2::a3::a4::a5::a6::a7::a8::a9::l).set 9 x=a0::a1::a2::a3::a4::a5::a6::a7::a8::x::l:=rfl
@[simp ↓,simp high] theorem zeM {a0 a1 a2 a3 a4 a5 a6 a7 a8 a9 a10 x:Option PV}{l:List (Option PV)}:(a0::a1::a2::a3::a4::a5::a6::a7::a8::a9::a10::l).set 10 x=a0::a1::a2::a3::a4::a5::a6::a7::a8::a9::x::l:=rfl
@[simp ↓,simp high] theorem zeN {a0 a1 a2 a3 a4 a5 a6 a7 a8 a9 a10 a11 x:Option PV}{l:List (Option PV)}:(a0::a1::a2::a3::a4::a5::a6::a7::a8::a9::a10::a11::l).set 11 x=a0::a1::a2::a3::a4::a5::a6::a7::a8::a9::a10::x::l:=rfl
@[simp ↓,simp high] theorem zeO {a0 a1 a2 a3 a4 a5 a6 a7 a8 a9 a10 a11 a12 x:Option PV}{l:List (Option PV)}:(a0::a1::a2::a3::a4::a5::a6::a7::a8::a9::a10::a11::a12::l).set 12 x=a0::a1::a2::a3::a4::a5::a6::a7::a8::a9::a10::a11::x::l:=rfl
@[simp ↓,simp high] theorem er1:List.replicate 1 (none:Option PV)=[none]:=rfl
@[simp ↓] theorem el0 {p:Prop}{t:zGm p}:lK p t []=p:=rfl
@[simp ↓] theorem el1 {a0:PV}{p:Prop}{t:zGm p}:lK p t [a0]=p:=rfl
@[simp ↓] theorem el2 {a0 a1:PV}{p:Prop}{t:zGm p}:lK p t [a0,a1]=p:=rfl
@[simp ↓] theorem el3 {a0 a1 a2:PV}{p:Prop}{t:zGm p}:lK p t [a0,a1,a2]=p:=rfl
@[simp ↓] theorem el4 {a0 a1 a2 a3:PV}{p:Prop}{t:zGm p}:lK p t [a0,a1,a2,a3]=p:=rfl
@[simp ↓] theorem el5 {a0 a1 a2 a3 a4:PV}{p:Prop}{t:zGm p}:lK p t [a0,a1,a2,a3,a4]=p:=rfl
@[simp ↓] theorem el6 {a0 a1 a2 a3 a4 a5:PV}{p:Prop}{t:zGm p}:lK p t [a0,a1,a2,a3,a4,a5]=p:=rfl
@[simp ↓] theorem eq2 {a0 a1:PV}{i0 i1:Nat}{p:Prop}{t:zGm p}:aK p t (Nat.beq (List.length (α:=PV) [a0,a1]) (List.length (α:=Nat) [i0,i1]))=p:=rfl
@[simp ↓] theorem eq3 {a0 a1 a2:PV}{i0 i1 i2:Nat}{p:Prop}{t:zGm p}:aK p t (Nat.beq (List.length (α:=PV) [a0,a1,a2]) (List.length (α:=Nat) [i0,i1,i2]))=p:=rfl
@[simp ↓] theorem eq4 {a0 a1 a2 a3:PV}{i0 i1 i2 i3:Nat}{p:Prop}{t:zGm p}:aK p t (Nat.beq (List.length (α:=PV) [a0,a1,a2,a3]) (List.length (α:=Nat) [i0,i1,i2,i3]))=p:=rfl
@[simp ↓] theorem eq6 {a0 a1 a2 a3 a4 a5:PV}{i0 i1 i2 i3 i4 i5:Nat}{p:Prop}{t:zGm p}:aK p t (Nat.beq (List.length (α:=PV) [a0,a1,a2,a3,a4,a5]) (List.length (α:=Nat) [i0,i1,i2,i3,i4,i5]))=p:=rfl
@[simp ↓] theorem zZx {tb:zX}:yK 0 0 tb [] M kr kx=tb ⟨[],M⟩ (fun st=>kr .none st.mem) kr (fun st=>kx st.mem):=congrFun (congrFun (congrFun (congrFun (yV _ _ tb) _) M) kr) kx
@[simp ↓] theorem zdV {tb:zX}:yK 0 2 tb [] M kr kx=tb ⟨[none,none],M⟩ (fun st=>kr .none st.mem) kr (fun st=>kx st.mem):=congrFun (congrFun (congrFun (congrFun (yV _ _ tb) _) M) kr) kx
@[simp ↓] theorem zdW {tb:zX}{a0:PV}:yK 1 1 tb [a0] M kr kx=tb ⟨[some a0],M⟩ (fun st=>kr .none st.mem) kr (fun st=>kx st.mem):=congrFun (congrFun (congrFun (congrFun (yV _ _ tb) _) M) kr) kx
@[simp ↓] theorem zbl {tb:zX}{a0:PV}:yK 1 2 tb [a0] M kr kx=tb ⟨[some a0,none],M⟩ (fun st=>kr .none st.mem) kr (fun st=>kx st.mem):=congrFun (congrFun (congrFun (congrFun (yV _ _ tb) _) M) kr) kx
@[simp ↓] theorem zdX {tb:zX}{a0:PV}:yK 1 3 tb [a0] M kr kx=tb ⟨[some a0,none,none],M⟩ (fun st=>kr .none st.mem) kr (fun st=>kx st.mem):=congrFun (congrFun (congrFun (congrFun (yV _ _ tb) _) M) kr) kx
@[simp ↓] theorem zbm {tb:zX}{a0:PV}:yK 1 4 tb [a0] M kr kx=tb ⟨[some a0,none,none,none],M⟩ (fun st=>kr .none st.mem) kr (fun st=>kx st.mem):=congrFun (congrFun (congrFun (congrFun (yV _ _ tb) _) M) kr) kx
@[simp ↓] theorem zdY {tb:zX}{a0:PV}:yK 1 5 tb [a0] M kr kx=tb ⟨[some a0,none,none,none,none],M⟩ (fun st=>kr .none st.mem) kr (fun st=>kx st.mem):=congrFun (congrFun (congrFun (congrFun (yV _ _ tb) _) M) kr) kx
@[simp ↓] theorem zeP {tb:zX}{a0:PV}:yK 1 7 tb [a0] M kr kx=tb ⟨[some a0,none,none,none,none,none,none],M⟩ (fun st=>kr .none st.mem) kr (fun st=>kx st.mem):=congrFun (congrFun (congrFun (congrFun (yV _ _ tb) _) M) kr) kx
@[simp ↓] theorem zbk {tb:zX}{a0:PV}:yK 1 13 tb [a0] M kr kx=tb ⟨[some a0,none,none,none,none,none,none,none,none,none,none,none,none],M⟩ (fun st=>kr .none st.mem) kr (fun st=>kx st.mem):=congrFun (congrFun (congrFun (congrFun (yV _ _ tb) _) M) kr) kx
@[simp ↓] theorem zZy {tb:zX}{a0 a1:PV}:yK 2 2 tb [a0,a1] M kr kx=tb ⟨[some a0,some a1],M⟩ (fun st=>kr .none st.mem) kr (fun st=>kx st.mem):=congrFun (congrFun (congrFun (congrFun (yV _ _ tb) _) M) kr) kx
@[simp ↓] theorem zNT {tb:zX}{a0 a1:PV}:yK 2 3 tb [a0,a1] M kr kx=tb ⟨[some a0,some a1,none],M⟩ (fun st=>kr .none st.mem) kr (fun st=>kx st.mem):=congrFun (congrFun (congrFun (congrFun (yV _ _ tb) _) M) kr) kx
@[simp ↓] theorem zZz {tb:zX}{a0 a1:PV}:yK 2 4 tb [a0,a1] M kr kx=tb ⟨[some a0,some a1,none,none],M⟩ (fun st=>kr .none st.mem) kr (fun st=>kx st.mem):=congrFun (congrFun (congrFun (congrFun (yV _ _ tb) _) M) kr) kx
@[simp ↓] theorem zYN {tb:zX}{a0 a1:PV}:yK 2 5 tb [a0,a1] M kr kx=tb ⟨[some a0,some a1,none,none,none],M⟩ (fun st=>kr .none st.mem) kr (fun st=>kx st.mem):=congrFun (congrFun (congrFun (congrFun (yV _ _ tb) _) M) kr) kx
@[simp ↓] theorem zVe {tb:zX}{a0 a1:PV}:yK 2 7 tb [a0,a1] M kr kx=tb ⟨[some a0,some a1,none,none,none,none,none],M⟩ (fun st=>kr .none st.mem) kr (fun st=>kx st.mem):=congrFun (congrFun (congrFun (congrFun (yV _ _ tb) _) M) kr) kx
@[simp ↓] theorem zYO {tb:zX}{a0 a1:PV}:yK 2 8 tb [a0,a1] M kr kx=tb ⟨[some a0,some a1,none,none,none,none,none,none],M⟩ (fun st=>kr .none st.mem) kr (fun st=>kx st.mem):=congrFun (congrFun (congrFun (congrFun (yV _ _ tb) _) M) kr) kx
@[simp ↓] theorem zPP {tb:zX}{a0 a1:PV}:yK 2 11 tb [a0,a1] M kr kx=tb ⟨[some a0,some a1,none,none,none,none,none,none,none,none,none],M⟩ (fun st=>kr .none st.mem) kr (fun st=>kx st.mem):=congrFun (congrFun (congrFun (congrFun (yV _ _ tb) _) M) kr) kx
@[simp ↓] theorem zSZ {tb:zX}{a0 a1:PV}:yK 2 12 tb [a0,a1] M kr kx=tb ⟨[some a0,some a1,none,none,none,none,none,none,none,none,none,none],M⟩ (fun st=>kr .none st.mem) kr (fun st=>kx st.mem):=congrFun (congrFun (congrFun (congrFun (yV _ _ tb) _) M) kr) kx
@[simp ↓] theorem zdZ {tb:zX}{a0 a1 a2:PV}:yK 3 3 tb [a0,a1,a2] M kr kx=tb ⟨[some a0,some a1,some a2],M⟩ (fun st=>kr .none st.mem) kr (fun st=>kx st.mem):=congrFun (congrFun (congrFun (congrFun (yV _ _ tb) _) M) kr) kx
@[simp ↓] theorem zda {tb:zX}{a0 a1 a2:PV}:yK 3 4 tb [a0,a1,a2] M kr kx=tb ⟨[some a0,some a1,some a2,none],M⟩ (fun st=>kr .none st.mem) kr (fun st=>kx st.mem):=congrFun (congrFun (congrFun (congrFun (yV _ _ tb) _) M) kr) kx
@[simp ↓] theorem zbn {tb:zX}{a0 a1 a2:PV}:yK 3 9 tb [a0,a1,a2] M kr kx=tb ⟨[some a0,some a1,some a2,none,none,none,none,none,none],M⟩ (fun st=>kr .none st.mem) kr (fun st=>kx st.mem):=congrFun (congrFun (congrFun (congrFun (yV _ _ tb) _) M) kr) kx
@[simp ↓] theorem zeQ {tb:zX}{a0 a1 a2 a3:PV}:yK 4 4 tb [a0,a1,a2,a3] M kr kx=tb ⟨[some a0,some a1,some a2,some a3],M⟩ (fun st=>kr .none st.mem) kr (fun st=>kx st.mem):=congrFun (congrFun (congrFun (congrFun (yV _ _ tb) _) M) kr) kx
@[simp ↓] theorem zdb {tb:zX}{a0 a1 a2 a3:PV}:yK 4 6 tb [a0,a1,a2,a3] M kr kx=tb ⟨[some a0,some a1,some a2,some a3,none,none],M⟩ (fun st=>kr .none st.mem) kr (fun st=>kx st.mem):=congrFun (congrFun (congrFun (congrFun (yV _ _ tb) _) M) kr) kx
@[simp ↓] theorem zbo {tb:zX}{a0 a1 a2 a3:PV}:yK 4 13 tb [a0,a1,a2,a3] M kr kx=tb ⟨[some a0,some a1,some a2,some a3,none,none,none,none,none,none,none,none,none],M⟩ (fun st=>kr .none st.mem) kr (fun st=>kx st.mem):=congrFun (congrFun (congrFun (congrFun (yV _ _ tb) _) M) kr) kx
@[simp ↓] theorem zdc {tb:zX}{a0 a1 a2 a3 a4:PV}:yK 5 5 tb [a0,a1,a2,a3,a4] M kr kx=tb ⟨[some a0,some a1,some a2,some a3,some a4],M⟩ (fun st=>kr .none st.mem) kr (fun st=>kx st.mem):=congrFun (congrFun (congrFun (congrFun (yV _ _ tb) _) M) kr) kx
@[simp ↓] theorem zbp {tb:zX}{a0 a1 a2 a3 a4:PV}:yK 5 6 tb [a0,a1,a2,a3,a4] M kr kx=tb ⟨[some a0,some a1,some a2,some a3,some a4,none],M⟩ (fun st=>kr .none st.mem) kr (fun st=>kx st.mem):=congrFun (congrFun (congrFun (congrFun (yV _ _ tb) _) M) kr) kx
@[simp ↓] theorem zeR {tb:zX}{a0 a1 a2 a3 a4 a5:PV}:yK 6 9 tb [a0,a1,a2,a3,a4,a5] M kr kx=tb ⟨[some a0,some a1,some a2,some a3,some a4,some a5,none,none,none],M⟩ (fun st=>kr .none st.mem) kr (fun st=>kx st.mem):=congrFun (congrFun (congrFun (congrFun (yV _ _ tb) _) M) kr) kx
@[simp ↓] theorem zdd {tb:zX}{a0 a1 a2 a3 a4 a5 a6:PV}:yK 7 7 tb [a0,a1,a2,a3,a4,a5,a6] M kr kx=tb ⟨[some a0,some a1,some a2,some a3,some a4,some a5,some a6],M⟩ (fun st=>kr .none st.mem) kr (fun st=>kx st.mem):=congrFun (congrFun (congrFun (congrFun (yV _ _ tb) _) M) kr) kx
@[simp ↓] theorem zeJ {x y:Int}:zDh .Lt (.int x) (.int y) M=some (dec (x<y)):=rfl
@[simp ↓] theorem zeI {x y:Int}:zDh .Gt (.int x) (.int y) M=some (dec (y<x)):=rfl
@[simp ↓] theorem zdx {x y:Int}:zDh .GtE (.int x) (.int y) M=some (dec (y<=x)):=rfl
@[simp ↓] theorem zeH {x y:Int}:zDh .Eq (.int x) (.int y) M=some (dec (x=y)):=rfl
@[simp ↓] theorem zck {x y:Int}:zDh .NotEq (.int x) (.int y) M=some (!dec (x=y)):=rfl
@[simp ↓] theorem zeK:zDh .Is .none .none M=some true:=rfl
@[simp ↓] theorem zdI {x:Int}:zDh .Is (.int x) .none M=some false:=rfl
@[simp ↓] theorem zdM {x:List PV}:zDh .Is (.tup x) .none M=some false:=rfl
@[simp ↓] theorem zcl:zDh .IsNot .none .none M=some false:=rfl
@[simp ↓] theorem zax {x:Int}:zDh .IsNot (.int x) .none M=some true:=rfl
@[simp ↓] theorem zay {x:List PV}:zDh .IsNot (.tup x) .none M=some true:=rfl
@[simp ↓] theorem zOx {x y:Int}:zER .Add (.int x) (.int y) M=some (.int (x+y)):=y9
@[simp ↓] theorem zOy {x y:Int}:zER .Sub (.int x) (.int y) M=some (.int (x-y)):=y9
theorem zEC {x y:Int}:zER .Mult (.int x) (.int y) M=if x.natAbs<2^64 then some (.int (x * y)) else none:=y9
theorem zZL {x y:Int}:zER .FloorDiv (.int x) (.int y) M=if y=0\/2^64<=y.natAbs then none else some (.int (x.fdiv y)):=y9
theorem zSO {x y:Int}:zER .Mod (.int x) (.int y) M=if y=0 then none else some (.int (x.fmod y)):=y9
theorem zbR {x y:Int}:zER .Pow (.int x) (.int y) M=if 0<=y/\y<=1000000/\x.natAbs<2^64 then some (.int (x^y.toNat)) else none:=y9
theorem zbS {x y:Int}:zER .LShift (.int x) (.int y) M=if 0<=y/\y<=1000000/\x.natAbs<2^64 then some (.int (x * 2^y.toNat)) else none:=y9
theorem zRB {x y:Str}:zER .Add (.str x) (.str y) M=if x.length+y.length<=sizeLine then some (.str (x++y)) else none:=y9
@[simp] theorem zba:dec True=true:=zPE trivial
@[simp] theorem zaz:dec False=false:=zSS id
end
section
variable {M:Mem}{k:PV->Mem->Prop}{kx:Mem->Prop}
@[simp] theorem qS {i j:Nat}{o:MO}:(M.set i o).c j=if j=i then o else M.c j:=rfl
@[simp] theorem zQV {i:Nat}{o:MO}:(M.set i o).n=M.n:=rfl
@[simp] theorem zCu {j:Nat}{o:MO}:(M.new o).c j=if j=M.n then o else M.c j:=rfl
@[simp] theorem zCv {o:MO}:(M.new o).n=M.n+1:=rfl
theorem Mem.ext' {M N:Mem}(h:M.n=N.n) (hc:∀i,M.c i=N.c i):M=N:=by
  induction M using Mem.casesOn;induction N using Mem.casesOn;simp at h hc;subst h;congr;funext i;exact hc i
@[simp] theorem zcx {i:Nat}{o o':MO}:(M.set i o).set i o'=M.set i o':=by
  refine Mem.ext' (by rfl) fun j=>?_
  by_cases h:j=i<;>simp -dsimp [h]
theorem zDj {n:Nat}{x:Str}(h:PyData.strOk x=true):yi M (n+1) (.str x)=some (.str x):=if_pos h
theorem zDk {n:Nat}{xs:List PV}{ys:List PyData}(h:zDc (yi M n) xs=some ys):yi M (n+1) (.tup xs)=some (.tuple ys):=congrArg (Option.map _) h
theorem zJz {n:Nat}{xs:List PV}{ys:List PyData}(h:zDc (yi M n) xs=some ys):yi M (n+1) (.lst xs)=some (.list ys):=congrArg (Option.map _) h
theorem zAo {α β:Type}{f:α->Option β}{x:α}{r:List α}{y:β}{ys:List β}(h:f x=some y) (h':zDc f r=some ys):zDc f (x::r)=some (y::ys):=by
  show (f x).bind _=_;rw [h];exact congrArg (Option.map (y::·)) h'
theorem zRJ {p q:PV}{x y:PyData}(h1:yi M 8 p=some x) (h2:yi M 8 q=some y):eqP p q M=some (PyData.eqv x y):=by
  unfold eqP;rw [h1,h2];rfl
theorem zWD {p q:PV}{x:PyData}{ys:List PyData}(h1:yi M 8 p=some x) (h2:yi M 9 q=some (.list ys)):inD p q M=some (ys.any fun y=>PyData.eqv y x):=by
  unfold inD;rw [h1,h2];rfl
theorem zbw {p q:PV}{x:PyData}{ys:List PyData}(h1:yi M 8 p=some x) (h2:yi M 9 q=some (.tuple ys)):inD p q M=some (ys.any fun y=>PyData.eqv y x):=by
  unfold inD;rw [h1,h2];rfl
theorem zSY {x y:Str}(hx:PyData.strOk x=true) (hy:PyData.strOk y=true):eqP (.str x) (.str y) M=some (x==y):=zRJ (zDj hx) (zDj hy)
@[simp ↓] theorem zdB {x:Bool}:zCV M (.bool x)=some x:=rfl
theorem zCH {i:Nat}{xs:List PV}(h:M.c i=.list xs):zFv M (.ref i)=some xs.length:=congrArg (fun c=>(asL c).map List.length) h
@[simp ↓] theorem zbB {x:Str}:zAe M (.str x)=none:=rfl
theorem zbi {x y:Bool}:eqP (.bool x) (.bool y) M=some (x==y):=rfl
@[simp] theorem zCN:PyData.strOk "const" = true:=by decide +kernel
@[simp] theorem zDs:PyData.strOk "var" = true:=by decide +kernel
@[simp] theorem zEV:PyData.strOk "add" = true:=by decide +kernel
@[simp] theorem zOK:PyData.strOk "sub" = true:=by decide +kernel
@[simp] theorem zaa:PyData.strOk "mul" = true:=by decide +kernel
@[simp] theorem zKs:PyData.strOk "div" = true:=by decide +kernel
@[simp] theorem zBV:PyData.strOk "array" = true:=by decide +kernel
@[simp] theorem zHE:PyData.strOk "ido" = true:=by decide +kernel
@[simp] theorem zCO:PyData.strOk "elem" = true:=by decide +kernel
@[simp] theorem zGP:PyData.strOk "substr" = true:=by decide +kernel
@[simp] theorem zcO:PyData.strOk "A" = true:=by decide +kernel
@[simp] theorem zcP:PyData.strOk "B" = true:=by decide +kernel
@[simp] theorem zWh:PyData.strOk "T" = true:=by decide +kernel
@[simp] theorem zea:PyData.strOk "I" = true:=by decide +kernel
@[simp] theorem zeb:PyData.strOk "J" = true:=by decide +kernel
@[simp] theorem zec:PyData.strOk "N" = true:=by decide +kernel
@[simp] theorem zWi:PyData.strOk "fault" = true:=by decide +kernel
theorem qEq {a b:PV}:yw .Eq a b M=eqP a b M:=y9
theorem qNe {a b:PV}:yw .NotEq a b M=(eqP a b M).map not:=y9
theorem qIn {a b:PV}:yw .In a b M=inP a b M:=y9
theorem qNi {a b:PV}:yw .NotIn a b M=(inP a b M).map not:=y9
theorem zAu {x y:Str}{b:Bool}(hx:PyData.strOk x=true) (hy:PyData.strOk y=true) (h:(x==y)=b):yw .Eq (.str x) (.str y) M=some b:=by rw [qEq,zSY hx hy,h]
@[simp ↓ high] theorem zbH:yw .Eq (.str "sub") (.str "add") M=some false:=zAu zOK zEV (by decide +kernel)
@[simp ↓ high] theorem zbD:yw .Eq (.str "div") (.str "add") M=some false:=zAu zKs zEV (by decide +kernel)
@[simp ↓ high] theorem zbG:yw .Eq (.str "div") (.str "sub") M=some false:=zAu zKs zOK (by decide +kernel)
@[simp ↓ high] theorem zbF:yw .Eq (.str "div") (.str "mul") M=some false:=zAu zKs zaa (by decide +kernel)
@[simp ↓ high] theorem zbC:yw .Eq (.str "add") (.str "add") M=some true:=zAu zEV zEV (by decide +kernel)
@[simp ↓ high] theorem zbI:yw .Eq (.str "sub") (.str "sub") M=some true:=zAu zOK zOK (by decide +kernel)
@[simp ↓ high] theorem zbE:yw .Eq (.str "div") (.str "div") M=some true:=zAu zKs zKs (by decide +kernel)
@[simp ↓ high] theorem zYs:yw .Eq (.str "var") (.str "substr") M=some false:=zAu zDs zGP (by decide +kernel)
@[simp ↓ high] theorem zRm:yw .Eq (.str "var") (.str "elem") M=some false:=zAu zDs zCO (by decide +kernel)
@[simp ↓ high] theorem zXd:yw .Eq (.str "elem") (.str "substr") M=some false:=zAu zCO zGP (by decide +kernel)
@[simp ↓ high] theorem zQL:yw .Eq (.str "elem") (.str "elem") M=some true:=zAu zCO zCO (by decide +kernel)
@[simp ↓ high] theorem zWq:yw .Eq (.str "array") (.str "substr") M=some false:=zAu zBV zGP (by decide +kernel)
@[simp ↓ high] theorem zYr:yw .Eq (.str "array") (.str "elem") M=some false:=zAu zBV zCO (by decide +kernel)
@[simp ↓ high] theorem zMi:yw .Eq (.str "ido") (.str "ido") M=some true:=zAu zHE zHE (by decide +kernel)
@[simp ↓ high] theorem zIs:yw .Eq (.str "array") (.str "ido") M=some false:=zAu zBV zHE (by decide +kernel)
@[simp ↓ high] theorem zGi:yw .Eq (.str "array") (.str "array") M=some true:=zAu zBV zBV (by decide +kernel)
@[simp ↓ high] theorem zMj:yw .Eq (.str "var") (.str "ido") M=some false:=zAu zDs zHE (by decide +kernel)
@[simp ↓ high] theorem zIu:yw .Eq (.str "var") (.str "array") M=some false:=zAu zDs zBV (by decide +kernel)
@[simp ↓ high] theorem zKu:yw .Eq (.str "elem") (.str "ido") M=some false:=zAu zCO zHE (by decide +kernel)
@[simp ↓ high] theorem zHg:yw .Eq (.str "elem") (.str "array") M=some false:=zAu zCO zBV (by decide +kernel)
@[simp ↓ high] theorem zIt:yw .Eq (.str "const") (.str "ido") M=some false:=zAu zCN zHE (by decide +kernel)
@[simp ↓ high] theorem zGj:yw .Eq (.str "const") (.str "array") M=some false:=zAu zCN zBV (by decide +kernel)
@[simp ↓ high] theorem zMh:yw .Eq (.str "add") (.str "ido") M=some false:=zAu zEV zHE (by decide +kernel)
@[simp ↓ high] theorem zIr:yw .Eq (.str "add") (.str "array") M=some false:=zAu zEV zBV (by decide +kernel)
@[simp ↓ high] theorem zXc:yw .Eq (.str "const") (.str "const") M=some true:=zAu zCN zCN (by decide +kernel)
@[simp ↓ high] theorem zQK:yw .Eq (.str "const") (.str "var") M=some false:=zAu zCN zDs (by decide +kernel)
@[simp ↓ high] theorem zZU:yw .Eq (.str "var") (.str "const") M=some false:=zAu zDs zCN (by decide +kernel)
@[simp ↓ high] theorem zUY:yw .Eq (.str "var") (.str "var") M=some true:=zAu zDs zDs (by decide +kernel)
@[simp ↓ high] theorem zZT:yw .Eq (.str "add") (.str "const") M=some false:=zAu zEV zCN (by decide +kernel)
@[simp ↓ high] theorem zUX:yw .Eq (.str "add") (.str "var") M=some false:=zAu zEV zDs (by decide +kernel)
@[simp ↓ high] theorem zOM:yw .Eq (.str "const") (.str "elem") M=some false:=zAu zCN zCO (by decide +kernel)
@[simp ↓ high] theorem zRl:yw .Eq (.str "add") (.str "elem") M=some false:=zAu zEV zCO (by decide +kernel)
@[simp ↓ high] theorem zcU:yw .Eq (.str "A") (.str "T") M=some false:=zAu zcO zWh (by decide +kernel)
@[simp ↓ high] theorem zcV:yw .Eq (.str "B") (.str "T") M=some false:=zAu zcP zWh (by decide +kernel)
@[simp ↓ high] theorem zcW:yw .Eq (.str "T") (.str "T") M=some true:=zAu zWh zWh (by decide +kernel)
theorem zSH:zBs [.int 0] M k kx=k (.int 1) M:=by simp -dsimp [zBs,zGq]
theorem zNp {n:Int}(h1:-2147483648<=n) (h2:n<2147483648):zBy [.int n,.int 32] M k kx=k (.int n) M:=by
  have e1:¬n < -2147483648:=by lia
  have e2:¬2147483648<=n:=by lia
  simp -dsimp [zBy,zHw,zbS,e1,e2,h1,h2]
theorem zZa {x y:Int}(h1:-2147483648<=x+y) (h2:x+y<2147483648):zEm [.int x,.int y,.int 32] M k kx=k (.int (x+y)) M:=by
  simp -dsimp [zEm,zHx,↓zNp,h1,h2]
theorem zao {x y:Int}(h1:-2147483648<=x-y) (h2:x-y<2147483648):zEo [.int x,.int y,.int 32] M k kx=k (.int (x-y)) M:=by
  simp -dsimp [zEo,zHz,↓zNp,h1,h2]
noncomputable def zDi (x y:Int):Int:=if (decide (x<0)==decide (y<0))=true then (if x<0 then -x else x).fdiv (if y<0 then -y else y) else -((if x<0 then -x else x).fdiv (if y<0 then -y else y))
@[simp ↓] theorem zZA {i:Int}:zSE [.int i] M k kx=k (.int (if i<0 then -i else i)) M:=rfl
@[simp ↓] theorem zcy {a b:Int}:zZF [.int a,.int b] M k kx=k (.int (if b>a then b else a)) M:=rfl
theorem zAn {o:PV}{n:Nat}(h:zFv M o=some n) (hn:n<=1000000):qw [o] M k kx=k (.int n) M:=by
  refine (zSz (t:=.mk) h).trans ?_
  rw [Nat.ble_eq_true_of_le hn]
  rfl
@[simp ↓] theorem zcz {n:Int}:zAE [.int n] M k kx=k (.rng 0 n 1) M:=rfl
@[simp ↓] theorem zdA {a b:Int}:zAE [.int a,.int b] M k kx=k (.rng a b 1) M:=rfl
theorem zTR {p:PV}{b:Bool}(h:zWE p=some b):zZB [p,.glob (.type "tuple")] M k kx=k (.bool b) M:=propext ⟨fun ⟨_,_,e,h',hk⟩=>by
  simp at e;subst e;rw [h] at h';refine sE h' ?_;clear h';rintro rfl;exact hk,fun hk=>(yS _ _ rfl h hk)⟩
theorem zXn {x y:Int}:zTi .Sub (.int x) (.int y)=some (.int (x-y)):=rfl
theorem zCi {i:Nat}{x:PV}{xs:List PV}(h:M.c i=.list xs) (hl:xs.length<=1000):zCq [.ref i,x] M k kx=k .none (M.set i (.list (xs++[x]))):=by
  have hi:isL M (.ref i)=some (i,xs):=zHC h
  exact propext ⟨fun h=>by
    refine zQs h fun Z Z Z Z e h' Z hk=>?_
    simp at e;refine xA e ?_;clear e;intro z1 z2;subst z1;subst z2;rw [hi] at h';cases h';exact hk,fun hk=>(zKh _ _ _ _ rfl hi hl hk)⟩
theorem zTS {i:Nat}{x:PV}{xs:List PV}(h:M.c i=.list xs) (hl:xs.length<=1000) (hx:xs[xs.length-1]?=some x):zOj [.ref i] M k kx=k x (M.set i (.list (xs.eraseIdx (xs.length-1)))):=by
  have hi:isL M (.ref i)=some (i,xs):=zHC h
  exact propext ⟨fun h=>by
    rcases h with ⟨_,_,_,_,e,h',_,hx',hk⟩ | ⟨_,_,_,_,_,e,_⟩
    · simp at e;subst e;rw [hi] at h';cases h';rw [hx] at hx';refine sE hx' ?_;clear hx';rintro rfl;exact hk
    · simp at e,fun hk=>.inl (zMa _ _ _ _ rfl hi hl hx hk)⟩
theorem zXV {i:Nat}{x:PV}{xs:List PV}(h:M.c i=.list (x::xs)) (hl:xs.length<1000):zOj [.ref i,.int 0] M k kx=k x (M.set i (.list xs)):=by
  have hi:isL M (.ref i)=some (i,x::xs):=zHC h
  exact propext ⟨fun h=>by
    rcases h with ⟨_,_,_,_,e,_⟩ | ⟨_,_,_,_,_,e,h',_,_,_,hx,hk⟩
    · simp at e
    · simp at e;refine xA e ?_;clear e;intro z3 z4;subst z3;subst z4;rw [hi] at h';cases h';simp at hx;subst hx;exact hk,fun hk=>.inr (zNx _ _ _ _ _ rfl hi (by simp;lia) (by decide) (by simp) rfl hk)⟩
theorem zQm {i:Nat}{xs:List PV}(h:M.c i=.list xs) (hl:xs.length<=1000):zGF [.ref i] M k kx=k .none (M.set i (.list xs.reverse)):=by
  have hi:isL M (.ref i)=some (i,xs):=zHC h
  exact propext ⟨fun h=>by refine yY h fun Z Z Z e h' Z hk=>?_;simp at e;subst e;rw [hi] at h';cases h';exact hk,fun hk=>⟨_,_,_,rfl,hi,hl,hk⟩⟩
theorem zXT {o:PV}{x:Str}{kvs:List (Str×PV)}(h:sdP M o=some kvs):zSF [o,.str x] M k kx=k ((atk kvs x).getD .none) M:=by
  exact propext ⟨fun h'=>by
    rcases h' with ⟨_,_,_,e,h',hk⟩ | ⟨_,_,_,_,e,_⟩
    · simp at e;refine xA e ?_;clear e;intro z5 z6;subst z5;subst z6;rw [h] at h';refine sE h' ?_;clear h';rintro rfl;exact hk
    · simp at e,fun hk=>.inl (zaO _ _ _ rfl h hk)⟩
theorem zQl {o:PV}{ys:List PV}{ks:List Int}{kvs:List (List Int×PV)}(hy:zDK ys=some ks) (h:tdP M o=some kvs):zSF [o,.tup ys] M k kx=k ((atk kvs ks).getD .none) M:=by
  exact propext ⟨fun h'=>by
    rcases h' with ⟨_,_,_,e,_⟩ | ⟨_,_,_,_,e,hy',h',hk⟩
    · simp at e
    · simp at e;refine xA e ?_;clear e;intro z7 z8;subst z7;subst z8;rw [h] at h';refine sE h' ?_;clear h';rintro rfl;rw [hy] at hy';refine sE hy' ?_;clear hy';rintro rfl;exact hk,fun hk=>.inr (zKh _ _ _ _ rfl hy h hk)⟩
theorem zXr {x y:Int}(h0:y≠0) (h1:y.natAbs<2^64):zBD [.int x,.int y] M k kx=k (.int (zDi x y)) M:=by
  have e1:¬((if y<0 then -y else y)=0\/2^64<=(if y<0 then -y else y).natAbs):=by split<;>lia
  have hb:∀a:Int,zER .FloorDiv (.int a) (.int (if y<0 then -y else y)) M=some (.int (a.fdiv (if y<0 then -y else y))):=fun a=>by rw [zZL,if_neg e1]
  simp -dsimp [zBD,zDf,hb,qEq,qNe,qIn,qNi,zbi,zDi]
  by_cases hx:x<0<;>by_cases hy:y<0<;>simp -dsimp [hx,hy]
theorem zSQ {x y:Int}(h0:y≠0):(zDi x y).natAbs<=x.natAbs:=by
  have ha:(if x<0 then -x else x).natAbs=x.natAbs:=by
    split
    · exact Int.natAbs_neg x
    · rfl
  have hb:0<=(if y<0 then -y else y):=by
    by_cases h:y<0
    · rw [if_pos h];exact Int.neg_nonneg_of_nonpos (Int.le_of_lt h)
    · rw [if_neg h];exact Int.not_lt.mp h
  have key:((if x<0 then -x else x).fdiv (if y<0 then -y else y)).natAbs<=x.natAbs:=by
    rw [Int.fdiv_eq_ediv_of_nonneg _ hb,← ha];exact Int.natAbs_ediv_le_natAbs _ _
  unfold zDi
  split
  · exact key
  · rw [Int.natAbs_neg];exact key
theorem nbU {x:Int}{n:Nat}(h:x.natAbs<=n):x<=n:=Int.le_trans Int.le_natAbs (Int.ofNat_le.mpr h)
theorem nbL {x:Int}{n:Nat}(h:x.natAbs<=n):-(n:Int)<=x:=Int.neg_le_of_neg_le (nbU (x:=-x) (by rw [Int.natAbs_neg];exact h))
theorem nb1 {x:Int}(h:x.natAbs<=200000):-2147483648<=x:=Int.le_trans (by decide) (nbL h)
theorem nb2 {x:Int}(h:x.natAbs<=200000):x<2147483648:=Int.lt_of_le_of_lt (nbU h) (by decide)
theorem nbA {x y:Int}{m n:Nat}(hx:x.natAbs<=m) (hy:y.natAbs<=n):(x+y).natAbs<=m+n:=Nat.le_trans (Int.natAbs_add_le x y) (Nat.add_le_add hx hy)
theorem nbS {x y:Int}{m n:Nat}(hx:x.natAbs<=m) (hy:y.natAbs<=n):(x-y).natAbs<=m+n:=Nat.le_trans (Int.natAbs_sub_le x y) (Nat.add_le_add hx hy)
theorem nbM {x:Int}{n:Nat}(h:x.natAbs<=n):(if 0>x then 0 else x).natAbs<=n:=by
  split
  · exact Nat.zero_le _
  · exact h
theorem zZn {x y:Int}(h0:y≠0) (hx:x.natAbs<=100000) (h1:y.natAbs<=100000):zEn [.int x,.int y,.int 32] M k kx=k (.int (zDi x y)) M:=by
  have:=zSQ (x:=x) h0
  simp -dsimp [zEn,zHy,h0,↓zXr h0 (show y.natAbs<2^64 by lia),↓zNp (n:=zDi x y) (nb1 (Nat.le_trans this (Nat.le_trans hx (by decide)))) (nb2 (Nat.le_trans this (Nat.le_trans hx (by decide))))]
theorem zHp {l:Nat}(h:M.c l=.sdict zCI):zAd [494] M (.inst 494 l) "width" = some (.int 32):=by
  exact yx (.head _) h rfl
theorem zSP {l:Nat}{x y:Int}(h:M.c l=.sdict zCI) (hx:x.natAbs<=100000) (hy:y.natAbs<=100000):qL [.str "add",.int 0,.int x,.int y,.inst 494 l] M k kx=k (.int (x+y)) M:=by
  simp -dsimp [qL,zCC,↓zHp h,↓zZa (x:=x) (y:=y) (nb1 (nbA hx hy)) (nb2 (nbA hx hy))]
theorem zXp {l:Nat}{x y:Int}(h:M.c l=.sdict zCI) (hx:x.natAbs<=100000) (hy:y.natAbs<=100000):qL [.str "sub",.int 0,.int x,.int y,.inst 494 l] M k kx=k (.int (x-y)) M:=by
  simp -dsimp (decide:=true) [qL,zCC,↓zHp h,↓zao (x:=x) (y:=y) (nb1 (nbS hx hy)) (nb2 (nbS hx hy))]
theorem zXo {l:Nat}{x y:Int}(h:M.c l=.sdict zCI) (h0:y≠0) (hx:x.natAbs<=100000) (hy:y.natAbs<=100000):qL [.str "div",.int 0,.int x,.int y,.inst 494 l] M k kx=k (.int (zDi x y)) M:=by
  simp -dsimp (decide:=true) [qL,zCC,↓zHp h,↓zZn (x:=x) (y:=y) h0 (by lia) (by lia)]
theorem zTa {x:Int}:zEp [.int x] M k kx=k (.bool (dec (x=0))) M:=by
  simp -dsimp [zEp,zIA,↓zTR (p:=.int x) rfl]
noncomputable def zHf:PV:=.idct [0,4] [.glob (.ref 137),.glob (.ref 144)]
theorem zXO:zUk (.ref 137)=some qL:=rfl
theorem zcT:qa M zHf (.int 0)=some (.glob (.ref 137)):=rfl
theorem zZG {l:Nat}{f e st:Int}(h:M.c l=.sdict zCI) (hf:f.natAbs<=1000) (he:e.natAbs<=1000) (hs:st.natAbs<=1000) :
    zBO [.int 0,.int f,.int e,.int st,zHf,.inst 494 l] M k kx=if st=0 then kx M else k (.int (if 0>zDi (e-f+st) st then 0 else zDi (e-f+st) st)) M:=by
  by_cases h0:st=0
  · simp -dsimp [zBO,zDN,↓zTa,h0]
  · have up:∀{x:Int}{n:Nat},x.natAbs<=n->n<=100000->x.natAbs<=100000:=fun a b=>Nat.le_trans a b
    have h1:=nbS he hf
    have h2:=nbA h1 hs
    have hq:=Nat.le_trans (nbM (Nat.le_trans (zSQ (x:=e-f+st) h0) h2)) (by decide:1000+1000+1000<=200000)
    have hm:∀x:Int,(if x<0 then 0 else x)=(if 0>x then 0 else x):=fun x=>rfl
    simp -dsimp [zBO,zDN,↓zTa,h0,zcT,zXO,↓zHp h,↓zXp (x:=e) (y:=f) h (up he (by decide)) (up hf (by decide)),↓zSP (x:=e-f) (y:=st) h (up h1 (by decide)) (up hs (by decide)),↓zXo (x:=e-f+st) (y:=st) h h0 (up h2 (by decide)) (up hs (by decide))]
    exact iff_of_eq (zNp (nb1 hq) (nb2 hq))
theorem zSu {a:Int}(h:0<=a):(if 0 > -a then 0 else -a)=0:=by
  by_cases z:0 > -a
  · rw [if_pos z]
  · rw [if_neg z];exact Int.le_antisymm (Int.neg_nonpos_of_nonneg h) (Int.not_lt.mp z)
theorem zTD {a:Int}(h:0<=a):(if 0>a then 0 else a)=a:=if_neg (Int.not_lt.mpr h)
theorem zVK {z s:Int}(hs:0<s):(if 0>zDi z s then 0 else zDi z s)=if 0<=z then z / s else 0:=by
  have h1:¬s<0:=Int.not_lt.mpr (Int.le_of_lt hs)
  have hf:∀a:Int,a.fdiv s=a / s:=fun a=>Int.fdiv_eq_ediv_of_nonneg a (Int.le_of_lt hs)
  by_cases hz:0<=z
  · have h2:¬z<0:=Int.not_lt.mpr hz
    have e:zDi z s=z / s:=by unfold zDi;rw [decide_eq_false h1,decide_eq_false h2,if_neg h2,if_neg h1];exact hf z
    rw [e,if_pos hz];exact zTD (Int.ediv_nonneg hz (Int.le_of_lt hs))
  · have h2:z<0:=Int.not_le.mp hz
    have e:zDi z s=-(-z / s):=by unfold zDi;rw [decide_eq_false h1,decide_eq_true h2,if_pos h2,if_neg h1];exact congrArg (-·) (hf (-z))
    rw [e,if_neg hz];exact zSu (Int.ediv_nonneg (Int.neg_nonneg_of_nonpos (Int.le_of_lt h2)) (Int.le_of_lt hs))
theorem zVJ {z s:Int}(hs:s<0):(if 0>zDi z s then 0 else zDi z s)=if 0<=-z then -z / -s else 0:=by
  have hs':0<=-s:=Int.neg_nonneg_of_nonpos (Int.le_of_lt hs)
  have hf:∀a:Int,a.fdiv (-s)=a / -s:=fun a=>Int.fdiv_eq_ediv_of_nonneg a hs'
  by_cases hz:z<0
  · have h2:0<=-z:=Int.neg_nonneg_of_nonpos (Int.le_of_lt hz)
    have e:zDi z s=-z / -s:=by unfold zDi;rw [decide_eq_true hs,decide_eq_true hz,if_pos hz,if_pos hs];exact hf (-z)
    rw [e,if_pos h2];exact zTD (Int.ediv_nonneg h2 hs')
  · have h2:0<=z:=Int.not_lt.mp hz
    have e:zDi z s=-(z / -s):=by unfold zDi;rw [decide_eq_true hs,decide_eq_false hz,if_neg hz,if_pos hs];exact congrArg (-·) (hf z)
    rw [e,zSu (Int.ediv_nonneg h2 hs')]
    by_cases h3:0<=-z
    · rw [if_pos h3,Int.le_antisymm (Int.neg_nonneg.mp h3) h2,Int.neg_zero,Int.zero_ediv]
    · rw [if_neg h3]
theorem zTF {d s:Int}(hs:0<s):(if 0<=d+s then (d+s) / s else 0)=((if 0<=d then d / s+1 else 0).toNat:Int):=by
  by_cases hd:0<=d
  · rw [if_pos (Int.add_nonneg hd (Int.le_of_lt hs)),if_pos hd,Int.toNat_of_nonneg (Int.add_nonneg (Int.ediv_nonneg hd (Int.le_of_lt hs)) (by decide)),Int.add_ediv_of_dvd_right (Int.dvd_refl s),Int.ediv_self (Int.ne_of_gt hs)]
  · rw [if_neg hd]
    by_cases h:0<=d+s
    · rw [if_pos h,Int.ediv_eq_zero_of_lt h (by have:=Int.add_lt_add_right (Int.not_le.mp hd) s;rwa [Int.zero_add] at this)];rfl
    · rw [if_neg h];rfl
theorem zTn {f e st:Int}(h:st=1\/st=2\/st=-1\/st=-2):(if 0>zDi (e-f+st) st then 0 else zDi (e-f+st) st)=(count f e st:Int):=by
  have h0:0<st\/st<0:=by rcases h with rfl | rfl | rfl | rfl<;>decide
  unfold count Builtin.Range.rangeSize
  rcases h0 with hs | hs
  · rw [zVK hs,zTF hs,if_pos hs,if_pos (show st>0 from hs),show e+1-f-1=e-f by lia]
    refine congrArg (fun x:Int=>(x.toNat:Int)) ?_
    exact ite_congr (propext (by lia)) (fun Z=>rfl) (fun Z=>rfl)
  · rw [zVJ hs,show -(e-f+st)=f-e + -st by lia,zTF (Int.neg_pos_of_neg hs),if_neg (Int.not_lt.mpr (Int.le_of_lt hs)),if_neg (show ¬st>0 from Int.not_lt.mpr (Int.le_of_lt hs)),show f-(e + -1)-1=f-e by lia]
    refine congrArg (fun x:Int=>(x.toNat:Int)) ?_
    exact ite_congr (propext (by lia)) (fun Z=>rfl) (fun Z=>rfl)
end
section
variable {M:Mem}{k:PV->Mem->Prop}{kx:Mem->Prop}{kn:St->Prop}{kr:PV->Mem->Prop}{kxs:St->Prop}{kl:List PV->Mem->Prop}{lo:List (Option PV)}
@[simp ↓] theorem zVT {tg:Tg}{a:Den}{b:zX}: zFa tg a b ⟨lo,M⟩ kn kr kxs=a ⟨lo,M⟩ (fun p M=>oK (fun xs=>zCJ tg b p M xs ⟨lo,M⟩ kn kr kxs) .mk (itP M p)) (fun M=>kxs ⟨lo,M⟩):=rfl
@[simp ↓] theorem zJa {tg:Tg}{b:zX}{p:PV}{M₀:Mem}: zCJ tg b p M₀ [] ⟨lo,M⟩ kn kr kxs=sK (kn ⟨lo,M⟩) M₀ M p:=rfl
@[simp ↓] theorem zHU {tg:Tg}{b:zX}{p x:PV}{r:List PV}{M₀:Mem}: zCJ tg b p M₀ (x::r) ⟨lo,M⟩ kn kr kxs=sK (oK (fun lo'=>b ⟨lo',M⟩ (fun st'=>zCJ tg b p M₀ r st' kn kr kxs) kr kxs) .mk (tg lo x)) M₀ M p:=rfl
@[simp ↓] theorem zFC {cell:Bool}{n:Nat}{fr:List Nat}{a:Den}{ts:qI}{te:zFe}: qe cell n fr a ts te ⟨lo,M⟩ k kx=a ⟨lo,M⟩ (fun p M=>oK (fun xs=>zAQ 0 ts te p M xs ⟨lo0 n fr lo,M⟩ [] (zWN cell k) kx) .mk (itP M p)) kx:=rfl
@[simp ↓,simp high] theorem lz1:lo0 1 [] lo=[none]:=rfl
@[simp ↓,simp high] theorem zeS {a0:Option PV}:lo0 1 [0] (a0::lo)=[none,a0]:=rfl
@[simp ↓,simp high] theorem zeT {a0 a1:Option PV}:lo0 1 [0,1] (a0::a1::lo)=[none,a0,a1]:=rfl
@[simp ↓,simp high] theorem zeU {a0 a1 a2 a3 a4 a5 a6:Option PV}:lo0 1 [1,2,3,6] (a0::a1::a2::a3::a4::a5::a6::lo)=[none,a1,a2,a3,a6]:=rfl
@[simp ↓,simp high] theorem zeV {a0 a1:Option PV}:lo0 2 [1] (a0::a1::lo)=[none,none,a1]:=rfl
@[simp ↓] theorem zEc {j:Nat}{ts:qI}{te:zFe}{p:PV}{M₀:Mem}{acc:List PV}: zAQ j ts te p M₀ [] ⟨lo,M⟩ acc kl kx=sK (kl acc M) M₀ M p:=rfl
@[simp ↓] theorem zEd {j:Nat}{ts:qI}{te:zFe}{p x:PV}{r:List PV}{M₀:Mem}{acc:List PV}: zAQ j ts te p M₀ (x::r) ⟨lo,M⟩ acc kl kx=sK (ts ⟨lo.set j (some x),M⟩ (fun t M=>bK (te ⟨lo.set j (some x),M⟩ acc (fun acc' M'=>zAQ j ts te p M₀ r ⟨lo,M'⟩ acc' kl kx) kx) (zAQ j ts te p M₀ r ⟨lo,M⟩ acc kl kx) .mk t) kx) M₀ M p:=rfl
@[simp ↓] theorem zKC {a:Den}{acc:List PV}: qy a ⟨lo,M⟩ acc kl kx=a ⟨lo,M⟩ (fun y M=>lK (kl (acc++[y]) M) .mk acc) kx:=rfl
@[simp ↓] theorem zbe {a:Den}{ts:qI}{te:zFe}{acc:List PV}: zNI a ts te ⟨lo,M⟩ acc kl kx=zPh (a ⟨lo,M⟩ (fun p M=>oK (fun xs=>zAQ 1 ts te p M xs ⟨lo,M⟩ acc kl kx) .mk (itP M p)) kx) lo:=rfl
@[simp ↓] theorem zde {x:Option PV}{q:Prop}: zPh q (x::none::lo)=q:=rfl
@[simp ↓] theorem zaS {ys:List PV}: zWN true k ys M=k (.ref M.n) (M.new (.list ys)):=rfl
@[simp ↓] theorem zaR {ys:List PV}: zWN false k ys M=k (.lst ys) M:=rfl
@[simp ↓] theorem zaj {M₀:Mem}{xs:List PV}{q:Prop}: sK q M₀ M (.lst xs)=q:=rfl
@[simp ↓] theorem zOO {M₀:Mem}{xs:List PV}{q:Prop}: sK q M₀ M (.tup xs)=q:=rfl
@[simp ↓] theorem zdr {M₀:Mem}{a b c:Int}{q:Prop}: sK q M₀ M (.rng a b c)=q:=rfl
@[simp ↓] theorem zai {M₀:Mem}{a:List Str}{b:List PV}{q:Prop}: sK q M₀ M (.dct a b)=q:=rfl
@[simp ↓] theorem tgN {i:Nat}{p:PV}: yv i lo p=some (lo.set i (some p)):=rfl
@[simp ↓] theorem zed {i0 i1:Nat}{a0 a1:PV}: zTQ [i0,i1] lo (.tup [a0,a1])=some (zBg lo [i0,i1] [a0,a1]):=rfl
@[simp ↓] theorem zdh {xs:List PV}:itP M (.lst xs)=some xs:=rfl
@[simp ↓] theorem zaQ {xs:List PV}:itP M (.tup xs)=some xs:=rfl
@[simp ↓] theorem zYX:itP M (.rng 0 1 1)=some [.int 0]:=y9
@[simp ↓] theorem zYY:itP M (.rng 0 2 1)=some [.int 0,.int 1]:=y9
@[simp ↓] theorem zcv:itP M (.rng 0 3 1)=some [.int 0,.int 1,.int 2]:=y9
@[simp ↓] theorem zYZ:itP M (.rng 0 5 1)=some [.int 0,.int 1,.int 2,.int 3,.int 4]:=y9
@[simp ↓] theorem zcw:itP M (.rng 0 6 1)=some [.int 0,.int 1,.int 2,.int 3,.int 4,.int 5]:=y9
theorem zDQ {xs:List PV}{a:Nat}{x:PV}(h:xs[a]?=some x) (ha:a<100000):zGc xs (a:Int)=some x:=by
  show (match Nat.ble a 1000000 with | true=>zWZ xs a | false=>none)=some x
  rw [Nat.ble_eq_true_of_le (by lia)]
  exact (zOE xs a).trans h
theorem zQJ {xs:List PV}{x:PV}:zGc (xs++[x]) (-1)=some x:=by
  have h1:zET (-1):=by unfold zET;lia
  have h2:seqIndex? (-1) (xs++[x]).length=some xs.length:=by
    unfold seqIndex?
    have e:(-1:Int)+((xs++[x]).length:Int)=xs.length:=by simp;lia
    simp only [show (-1:Int)<0 from by decide,if_true,e]
    simp
    lia
  show zUU _ (-1)=_
  rw [zUU,if_pos h1,h2]
  simp
@[simp ↓] theorem zeW {a:PV}{xs:List PV}:zGc (a::xs) 0=some a:=rfl
@[simp ↓] theorem zeX {a b:PV}{xs:List PV}:zGc (a::b::xs) 1=some b:=rfl
@[simp ↓] theorem zeY {a b c:PV}{xs:List PV}:zGc (a::b::c::xs) 2=some c:=rfl
@[simp ↓] theorem zeZ {a b c d:PV}{xs:List PV}:zGc (a::b::c::d::xs) 3=some d:=rfl
@[simp ↓] theorem zcs {xs:List PV}{i:Int}:qa M (.tup xs) (.int i)=zGc xs i:=rfl
@[simp ↓] theorem zYP {xs:List PV}{i:Int}:qa M (.lst xs) (.int i)=zGc xs i:=rfl
theorem zHY {xs:List PV}{i:Int}{j:Nat}(h:M.c j=.list xs):qa M (.ref j) (.int i)=zGc xs i:=by show zVm _ (M.c j)=_;rw [h];rfl
theorem zaF {kvs:List (Str×PV)}{x:Str}{j:Nat}(h:M.c j=.sdict kvs):qa M (.ref j) (.str x)=atk kvs x:=by show zVm _ (M.c j)=_;rw [h];rfl
theorem zHX {ks:List Str}{xs:List PV}{x:Str}:qa M (.dct ks xs) (.str x)=atk (ks.zip xs) x:=y9
theorem zLC {xs:List PV}{i:Nat}{k:Int}{x:PV}(h:M.c i=.list xs) (hk:0<=k/\k<xs.length/\xs.length<=1000000):zDL M (.ref i) (.int k) x=some (M.set i (.list (xs.set k.toNat x))):=by show zXC M i _ x (M.c i)=_;rw [h];exact if_pos hk
theorem zam {kvs:List (Str×PV)}{i:Nat}{y:Str}{x:PV}(h:M.c i=.sdict kvs) (hk:kvs.length<=1000):zDL M (.ref i) (.str y) x=some (M.set i (.sdict (stk kvs y x))):=by show zXC M i _ x (M.c i)=_;rw [h];exact if_pos hk
theorem zOd {kvs:List (List Int×PV)}{i:Nat}{ys:List PV}{ks:List Int}{x:PV}(h:M.c i=.tdict kvs) (hy:zDK ys=some ks) (hk:kvs.length<=1000):zDL M (.ref i) (.tup ys) x=some (M.set i (.tdict (stk kvs ks x))):=by show zXC M i _ x (M.c i)=_;rw [h];show (zDK ys).bind _=_;rw [hy];exact if_pos hk
end
def onV (o:Option Int) (a:Prop) (f:Int->Prop):Prop:=match o with
  | none=>a
  | some x=>f x
@[simp] theorem zcS {a:Prop}{f:Int->Prop}:onV none a f=a:=rfl
@[simp] theorem zKt {a:Prop}{f:Int->Prop}{x:Int}:onV (some x) a f=f x:=rfl
noncomputable def qR:Option Int->PV
  | none=>.none
  | some v=>.tup [.int 0,.int v]
noncomputable def qz (σ:Sto):List PV:=[qR (σ.num 0),qR (σ.num 1),qR (σ.num 2),qR (σ.num 3),qR (σ.num 4),qR (σ.num 5),qR (σ.num 6),qR (σ.num 7),qR (σ.num 8),qR (σ.num 9),qR (σ.num 10),qR (σ.num 11)]
noncomputable def zIm (b:Bool) (x:Str):PV:=if b then .str x else .none
noncomputable def qC (σ:Sto):List PV:=[zIm (σ.chr 0) "A",zIm (σ.chr 0) "B",zIm (σ.chr 1) "A",zIm (σ.chr 1) "B"]
theorem zRH (σ:Sto):∀{a:Nat},a<12->(qz σ)[a]?=some (qR (σ.num a))
  | 0,_=>rfl | 1,_=>rfl | 2,_=>rfl | 3,_=>rfl | 4,_=>rfl | 5,_=>rfl | 6,_=>rfl | 7,_=>rfl | 8,_=>rfl | 9,_=>rfl | 10,_=>rfl | 11,_=>rfl
  | n+12,h=>absurd h (by lia)
theorem zRI (σ:Sto) (v:Int):∀{a:Nat},a<12->(qz σ).set a (.tup [.int 0,.int v])=qz (σ.setN a v)
  | 0,_=>rfl | 1,_=>rfl | 2,_=>rfl | 3,_=>rfl | 4,_=>rfl | 5,_=>rfl | 6,_=>rfl | 7,_=>rfl | 8,_=>rfl | 9,_=>rfl | 10,_=>rfl | 11,_=>rfl
  | n+12,h=>absurd h (by lia)
@[simp] theorem zZs (σ:Sto):(qz σ).length=12:=rfl
noncomputable def Pl.enc:Pl->PV
  | .num a=>.tup [.int 0,.int a,.int 0,.tup []]
  | .txt j=>.tup [.int 5,.int (2 * (j:Int)),.int 2,.tup []]
def Pl.ok:Pl->Prop
  | .num a=>a<12
  | .txt j=>j<2
noncomputable def Pl.val (p:Pl) (v:Int):PV:=match p with
  | .num _=>.int v
  | .txt _=>.str "AB"
noncomputable def zFz:List (Str×PV):=[("I",.tup [.int 0,.int 0,.int 0,.tup []]),("J",.tup [.int 0,.int 1,.int 0,.tup []]),("N",.tup [.int 0,.int 2,.int 0,.tup []]),("A",.tup [.int 0,.int 3,.int 0,.tup [.tup [.int 0,.int 2]]]),
  ("B",.tup [.int 0,.int 6,.int 0,.tup [.tup [.int 2,.int 3],.tup [.int (-1),.int 1]]]),("T",.tup [.int 5,.int 0,.int 2,.tup [.tup [.int 1,.int 2]]])]
noncomputable def zAm:PV:=.dct (zFz.map (·.1)) (zFz.map (·.2))
noncomputable def zFT:List (Str×PV):=[("const",.glob (.ref 364)),("var",.glob (.ref 371)),("elem",.glob (.ref 371)),("add",.glob (.ref 385)),("sub",.glob (.ref 385)),("mul",.glob (.ref 385)),("div",.glob (.ref 385)),("pow",.glob (.ref 385)),("powi",.glob (.ref 385)),
  ("and",.glob (.ref 385)),("or",.glob (.ref 385)),("eqv",.glob (.ref 385)),("neqv",.glob (.ref 385)),("eq",.glob (.ref 392)),("ne",.glob (.ref 392)),("lt",.glob (.ref 392)),("le",.glob (.ref 392)),("gt",.glob (.ref 392)),("ge",.glob (.ref 392))]
noncomputable def zag (b:Nat):List (Str×PV):=[("memory",.inst 210 b),("limits",.inst 494 (b+3)),("units",.ref (b+4)),("world",.none),("expressions",.ref (b+5)),("statements",.ref (b+6)),("frame",zAm),("depth",.int 0),("steps",.int 0),
  ("places",.ref (b+9)),("flows",.ref (b+10)),("clears",.ref (b+11)),("active",.ref (b+12)),("loops",.ref (b+13)),("operations",zHf)]
structure ze (M:Mem) (b:Nat) (σ:Sto):Prop where
  mem:M.c b=.sdict [("numeric",.ref (b+1)),("characters",.ref (b+2))]
  num:M.c (b+1)=.list (qz σ)
  chr:M.c (b+2)=.list (qC σ)
  lim:M.c (b+3)=.sdict zCI
  exs:M.c (b+5)=.sdict zFT
  run:M.c (b+7)=.sdict (zag b)
noncomputable abbrev yu (b:Nat):PV:=.inst 313 (b+7)
section
variable {M:Mem}{k:PV->Mem->Prop}{kx:Mem->Prop}{b:Nat}{σ:Sto}
theorem ze.numeric (R:ze M b σ):zAd [210] M (.inst 210 b) "numeric" = some (.ref (b+1)):=yx (.head _) R.mem rfl
theorem ze.characters (R:ze M b σ):zAd [210] M (.inst 210 b) "characters" = some (.ref (b+2)):=yx (.head _) R.mem rfl
theorem ze.memory (R:ze M b σ):zAd [313] M (yu b) "memory" = some (.inst 210 b):=yx (.head _) R.run rfl
theorem ze.limits (R:ze M b σ):zAd [313] M (yu b) "limits" = some (.inst 494 (b+3)):=yx (.head _) R.run rfl
theorem ze.expressions (R:ze M b σ):zAd [313] M (yu b) "expressions" = some (.ref (b+5)):=yx (.head _) R.run rfl
theorem ze.frame (R:ze M b σ):zAd [313] M (yu b) "frame" = some zAm:=yx (.head _) R.run rfl
theorem ze.operations (R:ze M b σ):zAd [313] M (yu b) "operations" = some zHf:=yx (.head _) R.run rfl
theorem ze.mload (R:ze M b σ):yz 210 "load" qc (.inst 210 b) M=some qc:=zEi R.mem rfl
theorem ze.mstore (R:ze M b σ):yz 210 "store" zs (.inst 210 b) M=some zs:=zEi R.mem rfl
theorem zJc {i:Nat}{xs:List PV}{a c:Int}(h:M.c i=.list xs) (h1:0<=a) (h2:a+c<=xs.length) (h3:xs.length<=1000):zAc [.ref i,.int a,.int c] M k kx=k .none M:=by
  have e1:¬a<0:=by lia
  have e2:¬((xs.length:Int)<a+c):=by lia
  simp -dsimp [zAc,zEy,↓zAn (n:=xs.length) (zCH h) (by lia),e1,e2]
theorem zYu {i a:Nat}(h:M.c i=.list (qz σ)) (ha:a<12):qu [.ref i,.int a,.int 0] M k kx=onV (σ.num a) (kx M) fun x=>k (.int x) M:=by
  have g:qa M (.ref i) (.int a)=some (qR (σ.num a)):=by rw [zHY h];exact zDQ (zRH σ ha) (by lia)
  generalize hv:σ.num a=z1;induction z1 using Option.casesOn with
  | none=>simp -dsimp [qu,zEA,g,hv,qR]
  | some v=>simp -dsimp [qu,zEA,g,hv,qR]
theorem zWW {i a:Nat}(h:M.c i=.list (qz σ)) (ha:a<12):zBY [.ref i,.int 0,.int a] M k kx=onV (σ.num a) (kx M) fun x=>k (.int x) M:=by
  simp only [zBY,zEP]
  simp -dsimp [↓zSH,↓zJc (a:=(a:Int)) (c:=1) h (by lia) (by simp;lia) (by simp),↓zYu h ha]
theorem zOB (R:ze M b σ) {a:Nat}{x y:PV}(ha:a<12):qc [.inst 210 b,.tup [.int 0,.int a,x,y]] M k kx=onV (σ.num a) (kx M) fun x=>k (.int x) M:=by
  simp only [qc,zEN]
  simp -dsimp [R.numeric,↓zWW R.num ha]
noncomputable def stM (M:Mem) (b:Nat) (σ:Sto) (p:Pl) (v:Int):Mem:=match p with
  | .num _=>M.set (b+1) (.list (qz (σ.put p v)))
  | .txt _=>M.set (b+2) (.list (qC (σ.put p v)))
theorem zHl {p:Pl}{v:Int}:(stM M b σ p v).n=M.n:=by induction p using Pl.casesOn<;>rfl
theorem zFY {p:Pl}{v:Int}{i:Nat}(h1:i≠b+1) (h2:i≠b+2):(stM M b σ p v).c i=M.c i:=by
  induction p using Pl.casesOn<;>simp -dsimp [stM,h1,h2]
theorem ze.st (R:ze M b σ) (p:Pl) (v:Int):ze (stM M b σ p v) b (σ.put p v):=by
  induction p using Pl.casesOn with
  | num a=>exact ⟨by simp -dsimp [stM,R.mem],by simp -dsimp [stM],by simp -dsimp [stM,R.chr,qC,Sto.put,Sto.setN],by simp -dsimp [stM,R.lim],by simp -dsimp [stM,R.exs],by simp -dsimp [stM,R.run]⟩
  | txt j=>exact ⟨by simp -dsimp [stM,R.mem],by simp -dsimp [stM,R.num,qz,Sto.put],by simp -dsimp [stM],by simp -dsimp [stM,R.lim],by simp -dsimp [stM,R.exs],by simp -dsimp [stM,R.run]⟩
theorem zWj:zQi [.str "AB",.int 2] M k kx=k (.str "AB") M:=by
  have e1:Str.length "AB" = 2:=by decide
  have e2:Txt.slice "AB" none (some 2) = "AB":=by decide
  have e3:("AB" : Str)++Str.empty = "AB":=by decide
  have e4:Str.length Str.empty=0:=by decide
  simp -dsimp [zQi,zVB,zMU,zVP,e1,e2,zRB,e3,e4,↓zAn (n:=2) (show zFv M (.str "AB")=some 2 from congrArg some e1) (by decide),sizeLine]
theorem zMo {i a:Nat}{v:Int}(h:M.c i=.list (qz σ)) (ha:a<12):zBE [.ref i,.int 0,.int a,.int v] M k kx=k .none (M.set i (.list (qz (σ.setN a v)))):=by
  have hs:zDL M (.ref i) (.int a) (.tup [.int 0,.int v])=some (M.set i (.list (qz (σ.setN a v)))):=by
    rw [zLC h (by simp;lia)]
    simp -dsimp [zRI σ v ha]
  simp only [zBE,zDg]
  simp -dsimp [↓zSH,↓zJc (a:=(a:Int)) (c:=1) h (by lia) (by simp;lia) (by simp),hs]
theorem zPI (v:Int):((qC σ).set 0 (.str "A")).set 1 (.str "B")=qC (σ.put (.txt 0) v):=by simp -dsimp [qC,Sto.put,zIm]
theorem zPJ (v:Int):((qC σ).set 2 (.str "A")).set 3 (.str "B")=qC (σ.put (.txt 1) v):=by simp -dsimp [qC,Sto.put,zIm]
theorem zFH {x:Str}{a:Nat}{c:Nat}(h:x.cps[a]?=some c) (ha:a<1000):qa M (.str x) (.int a)=some (.str ⟨#[c]⟩):=by
  refine xE (Array.getElem?_eq_some_iff.mp h) fun hl Z=>?_
  have h1:zET (a:Int):=by unfold zET;lia
  have h2:seqIndex? (a:Int) x.length=some a:=by
    unfold seqIndex?
    have e:¬((a:Int)<0):=by lia
    have hl':a<x.length:=hl
    simp -dsimp [e,hl']
  have e:qa M (.str x) (.int a)=(some (a:Int)).bind fun k=>if zET k then ((seqIndex? k x.length).bind (x.cps[·]?)).map fun c=>.str ⟨#[c]⟩ else none:=rfl
  rw [e,Option.bind_some,if_pos h1,h2]
  simp -dsimp [h]
theorem zMp {i j:Nat}{v:Int}(h:M.c i=.list (qC σ)) (hj:j<2):zCU [.ref i,.int (2 * (j:Int)),.str "AB"] M k kx=k .none (M.set i (.list (qC (σ.put (.txt j) v)))):=by
  have e1:Str.length "AB" = 2:=by decide
  have g0:∀N,qa N (.str "AB") (.int 0)=some (.str "A"):=fun N=>zFH (a:=0) (c:=65) (by decide) (by decide)
  have g1:∀N,qa N (.str "AB") (.int 1)=some (.str "B"):=fun N=>zFH (a:=1) (c:=66) (by decide) (by decide)
  have hl:∀N,zFv N (.str "AB")=some 2:=fun N=>congrArg some e1
  have len4:(qC σ).length=4:=rfl
  have hs:∀(N:Mem) xs (a:Nat) y,N.c i=.list xs->a<xs.length->xs.length<=100->zDL N (.ref i) (.int a) y=some (N.set i (.list (xs.set a y))):=fun N xs a y hN ha hx=>by
    rw [zLC hN (by lia)]
    simp
  simp only [zCU,zEz]
  rcases (show j=0\/j=1 by lia) with rfl | rfl
  · have s0:=hs M (qC σ) 0 (.str "A") h (by rw [len4];decide) (by rw [len4];decide)
    have s1:=hs (M.set i (.list ((qC σ).set 0 (.str "A")))) ((qC σ).set 0 (.str "A")) 1 (.str "B") (by simp) (by simp -dsimp [len4]) (by simp -dsimp [len4])
    simp at s0 s1
    simp -dsimp [↓zAn (hl _),g0,g1,zRB,s0,s1,zPI v,↓zJc (a:=0) (c:=2) h (by decide) (by rw [len4];decide) (by rw [len4];decide)]
  · have s0:=hs M (qC σ) 2 (.str "A") h (by rw [len4];decide) (by rw [len4];decide)
    have s1:=hs (M.set i (.list ((qC σ).set 2 (.str "A")))) ((qC σ).set 2 (.str "A")) 3 (.str "B") (by simp) (by simp -dsimp [len4]) (by simp -dsimp [len4])
    simp at s0 s1
    simp -dsimp [↓zAn (hl _),g0,g1,zRB,s0,s1,zPJ v,↓zJc (a:=2) (c:=2) h (by decide) (by rw [len4];decide) (by rw [len4];decide)]
theorem zLE (R:ze M b σ) {p:Pl}{v:Int}(hp:p.ok):zs [.inst 210 b,p.enc,p.val v] M k kx=k .none (stM M b σ p v):=by
  simp only [zs,zCB]
  induction p using Pl.casesOn with
  | num a=>simp -dsimp [Pl.enc,Pl.val,R.numeric,↓zMo R.num hp,stM,Sto.put]
  | txt j =>
    simp -dsimp [Pl.enc,Pl.val,R.characters,↓zWj,↓zMp (v:=v) R.chr hp,stM]
end
noncomputable def Sm.enc:Sm->PV
  | .const c=>.tup [.str "const",.int 0,.int c]
  | .var v=>.tup [.str "var",.int 0,.str v.nm]
  | .add v c=>.tup [.str "add",.int 0,.tup [.str "var",.int 0,.str v.nm],.tup [.str "const",.int 0,.int c]]
noncomputable def Ar.kd:Ar->Int | .T=>5 | _=>0
mutual
noncomputable def It.enc:It->PV
  | .ex s=>s.enc
  | .elA s=>.tup [.str "elem",.int 0,.str "A",.lst [s.enc]]
  | .elB s t=>.tup [.str "elem",.int 0,.str "B",.lst [s.enc,t.enc]]
  | .arr a=>.tup [.str "array",.int a.kd,.str a.nm]
  | .ido its v f l st=>.tup [.str "ido",.lst (ya its),(Sm.var v).enc,(Sm.const f).enc,l.enc,(Sm.const st).enc]
noncomputable def ya:List It->List PV
  | []=>[]
  | i::r=>i.enc::ya r
end
theorem zDm:∀l:List It,ya l=l.map It.enc
  | []=>rfl
  | i::r=>by rw [ya,zDm r];rfl
noncomputable def zAq:Ar->PV
  | .A=>.tup [.tup [.int 0,.int 2]]
  | .B=>.tup [.tup [.int 2,.int 3],.tup [.int (-1),.int 1]]
  | .T=>.tup [.tup [.int 1,.int 2]]
noncomputable def zHJ:Ar->PV
  | .A=>.tup [.int 0,.int 3,.int 0,zAq .A]
  | .B=>.tup [.int 0,.int 6,.int 0,zAq .B]
  | .T=>.tup [.int 5,.int 0,.int 2,zAq .T]
section
variable {M:Mem}{k:PV->Mem->Prop}{kx:Mem->Prop}{b:Nat}{σ:Sto}
@[simp] theorem zaL:zEf zAm=true:=rfl
@[simp] theorem zbt:zEf zHf=true:=rfl
theorem zQU:sdP M zAm=some zFz:=rfl
theorem zUK:isD M zAm=true:=by simp -dsimp [isD,zQU]
theorem zXB:zFK zAm M=some zSF:=if_pos zUK
theorem zHc (R:ze M b σ) {x:Str}{p:List PV}(h:atk zFz x=some (.tup p)):zBZ [yu b,.str x] M k kx=k (.tup p) M:=by
  simp only [zBZ,zEQ]
  simp -dsimp [R.frame,zXB,↓zXT zQU,h,↓zTR (p:=.tup p) rfl]
theorem zZI (v:Sv):atk zFz v.nm=some (.tup [.int 0,.int v.ad,.int 0,.tup []]):=by
  induction v using Sv.casesOn<;>simp -dsimp (decide:=true) [zFz,atk,Sv.nm,Sv.ad]
theorem zSN (a:Ar):atk zFz a.nm=some (zHJ a):=by
  induction a using Ar.casesOn<;>simp -dsimp (decide:=true) [zFz,atk,Ar.nm,zHJ,zAq]
theorem zFy (R:ze M b σ) {n:Nat}{v:Sv}:yM n [yu b,.tup [.str "var",.int 0,.str v.nm]] M k kx=k (.tup [.int 0,.int v.ad,.int 0,.tup []]) M:=by
  have h1:((("var" : Str) == "substr")=false):=by decide
  have h2:((("var" : Str) == "elem")=false):=by decide
  simp only [yM,zBj]
  simp -dsimp [h1,h2,↓zHc R (zZI v)]
theorem zWo (R:ze M b σ) {n:Nat}{a:Ar}{x:Int}:yM n [yu b,.tup [.str "array",.int x,.str a.nm]] M k kx=k (zHJ a) M:=by
  have h1:((("array" : Str) == "substr")=false):=by decide
  have h2:((("array" : Str) == "elem")=false):=by decide
  have h3:=zSN a
  simp only [yM,zBj]
  induction a using Ar.casesOn<;>simp -dsimp [h1,h2,↓zHc R h3,zHJ]<;>rfl
theorem zbj {x:Str}{v:Value}(R:ze M b σ) (h:atk zFT x=some (.glob v)) (hx:PyData.strOk x=true):inP (.str x) (.ref (b+5)) M=some true/\qa M (.ref (b+5)) (.str x)=some (.glob v):=by
  refine ⟨?_,(zaF R.exs).trans h⟩
  show (asS (M.c (b+5))).elim _ _=_
  rw [R.exs]
  exact congrArg (fun o=>some o.isSome) h
def zLH (n:Nat):zh:=yK 2 2 (zDM (yM n))
def zJh (n:Nat):zh:=yK 2 4 (zCj (yB n))
theorem zca {n:Nat}:yB (n+1)=yK 2 2 (zEv (zJZ [(364,zAa),(371,zLH n),(385,zJh n)])):=rfl
theorem zVc {n:Nat}{x:Str}{v:Value}{tf:zh}{r:List PV}(R:ze M b σ) (h:atk zFT x=some (.glob v)) (hx:PyData.strOk x=true) (ht:zJZ [(364,zAa),(371,zLH n),(385,zJh n)] v=some tf) :
    yB (n+1) [yu b,.tup (.str x::r)] M k kx=tf [yu b,.tup (.str x::r)] M k kx:=by
  refine xA (zbj R h hx) fun h1 h2=>?_
  rw [zca]
  simp only [zEv]
  simp -dsimp [qEq,qNe,qIn,qNi,R.expressions,h1,h2,ht]
theorem zYI (R:ze M b σ) {n:Nat}{v:Sv}:zLH n [yu b,.tup [.str "var",.int 0,.str v.nm]] M k kx=onV (σ.num v.ad) (kx M) fun x=>k (.int x) M:=by
  have hv:v.ad<12:=by induction v using Sv.casesOn<;>decide
  simp only [zLH,zDM]
  simp -dsimp [R.memory,R.mload,zFy R,↓zOB R hv]
theorem zCl (R:ze M b σ) {n:Nat}{c:Int}:yB (n+1) [yu b,.tup [.str "const",.int 0,.int c]] M k kx=k (.int c) M:=by
  rw [zVc R (v:=.ref 364) (tf:=zAa) (by simp -dsimp (decide:=true) [zFT,atk]) (by simp) (by simp -dsimp [zJZ])]
  simp -dsimp [zAa,zEu]
theorem zIn (R:ze M b σ) {n:Nat}{v:Sv}:yB (n+1) [yu b,.tup [.str "var",.int 0,.str v.nm]] M k kx=onV (σ.num v.ad) (kx M) fun x=>k (.int x) M:=by
  rw [zVc R (v:=.ref 371) (tf:=zLH n) (by simp -dsimp (decide:=true) [zFT,atk]) (by simp) (by simp -dsimp [zJZ])]
  exact zYI R
theorem zKv (R:ze M b σ) {x y:Int}(hx:x.natAbs<=100000) (hy:y.natAbs<=100000):zEq [yu b,.str "add",.int 0,.int x,.int y] M k kx=k (.int (x+y)) M:=by
  have h1:inP (.int 0) zHf M=some true:=rfl
  simp only [zEq,zJp]
  simp -dsimp [qEq,qNe,qIn,qNi,R.operations,h1,zcT,zXO,R.limits,↓zSP R.lim hx hy]
theorem zHV (R:ze M b σ) {n:Nat}{s:Sm}(hs:okS s) (hb:∀x,worth σ s=some x->x.natAbs<=1000):yB (n+2) [yu b,s.enc] M k kx=onV (worth σ s) (kx M) fun x=>k (.int x) M:=by
  induction s using Sm.casesOn with
  | const c=>exact zCl R
  | var v=>exact zIn R
  | add v c =>
    simp only [Sm.enc]
    rw [zVc R (v:=.ref 385) (tf:=zJh (n+1)) (by simp -dsimp (decide:=true) [zFT,atk]) (by simp) (by simp -dsimp [zJZ])]
    simp only [zJh,zCj]
    simp only [okS] at hs
    simp -dsimp [↓zIn R,↓zCl R,worth] at hb ⊢
    generalize hv:σ.num v.ad=z1;induction z1 using Option.casesOn with
    | none=>simp
    | some x =>
      have hx:=hb x hv
      have h8:=nbS hx hs
      rw [Int.add_sub_cancel] at h8
      simp -dsimp [zKv R (x:=x) (y:=c) (Nat.le_trans h8 (by decide)) (Nat.le_trans hs (by decide))]
end
def onP (o:Option Pl) (a:Prop) (f:Pl->Prop):Prop:=match o with
  | none=>a
  | some x=>f x
@[simp] theorem zcQ {a:Prop}{f:Pl->Prop}:onP none a f=a:=rfl
@[simp] theorem zcR {a:Prop}{f:Pl->Prop}{x:Pl}:onP (some x) a f=f x:=rfl
section
variable {M:Mem}{k:PV->Mem->Prop}{kx:Mem->Prop}{b:Nat}{σ:Sto}
theorem zYf {xs:List PV}:zFv M (.tup xs)=some xs.length:=rfl
theorem zTV {x:Int}:qv [.int 0,.int x] M k kx=k (.int 1) M:=by
  simp only [qv,zEB]
  simp -dsimp [↓zSH]
theorem zcg {x:Int}:qv [.int 5,.int x] M k kx=k (.int x) M:=by
  simp only [qv,zEB]
  simp
def elB:zX:=zK (zFc [9,10] (zZ (zF 5) (zF 8)))
  (zK (zw (bor [(yA .Lt (zZ (zF 1) (zF 8)) (zF 9)),(zHM [(yA .IsNot (zF 10) (zC .none)),(yA .Gt (zZ (zF 1) (zF 8)) (zF 10))])]) (zK zBk
  zJ) zJ)
  (zK (zRC 6 .Add (ye .Mult (ye .Sub (zZ (zF 1) (zF 8)) (zF 9)) (zF 7)))
  (zK (zw (yA .IsNot (zF 10) (zC .none)) (zK (zRC 7 .Mult (ye .Add (ye .Sub (zF 10) (zF 9)) (zC (.int 1))))
  zJ) zJ)
  zJ)))
section
variable {q0 q2 q3 q4 q9 q10:Option PV}{ix ds:PV}{o s i x a c:Int}{kn:St->Prop}{kr:PV->Mem->Prop}{kxs:St->Prop}(h1:qa M ds (.int i)=some (.tup [.int a,.int c])) (h2:qa M ix (.int i)=some (.int x))
include h1 h2
theorem zVX (l1:¬x<a) (l2:¬c<x) (m1:(x-a).natAbs<2^64) (m2:s.natAbs<2^64):elB ⟨[q0,some ix,q2,q3,q4,some ds,some (.int o),some (.int s),some (.int i),q9,q10],M⟩ kn kr kxs=kn ⟨[q0,some ix,q2,q3,q4,some ds,some (.int (o+(x-a) * s)),some (.int (s * (c-a+1))),some (.int i),some (.int a),some (.int c)],M⟩:=by
  refine (oKo h1).trans ?_
  refine (oKo h2).trans ?_
  refine (bKf l1).trans ?_
  refine (oKo h2).trans ?_
  refine (bKf l2).trans ?_
  refine (oKo h2).trans ?_
  refine (oKo zOy).trans ?_
  refine (oKo (zEC.trans (if_pos m1))).trans ?_
  refine (oKo zOx).trans ?_
  refine (oKo zOy).trans ?_
  refine (oKo zOx).trans ?_
  exact oKo (zEC.trans (if_pos m2))
theorem zRG (l:x<a\/c<x):elB ⟨[q0,some ix,q2,q3,q4,some ds,some (.int o),some (.int s),some (.int i),q9,q10],M⟩ kn kr (fun st=>kx st.mem)=kx M:=by
  refine (oKo h1).trans ((oKo h2).trans ?_)
  by_cases l1:x<a
  · exact bKt l1
  · refine (bKf l1).trans ((oKo h2).trans ?_)
    exact bKt (l.resolve_left l1)
end
theorem zbP {p q:Prop}{c:Prop}(h:c):bK p q .mk (!dec c)=q:=by rw [zPE h];rfl
theorem zSX:zDG=zK (zFc [2,3,4,5] (zF 0))
  (zK (zw (yA .NotEq (zO qw (zD (zF 1) zM)) (zO qw (zD (zF 5) zM))) (zK zBk
  zJ) zJ)
  (zK (zx 6 (zC (.int 0)))
  (zK (zx 7 (zC (.int 1)))
  (zK (zFa (yv 8) (zO zAE (zD (zO qw (zD (zF 5) zM)) zM)) elB)
  (zK (zj (zp (zD (zF 2) (zD (ye .Add (zF 3) (ye .Mult (zF 6) (zO qv (zD (zF 2) (zD (zF 4) zM))))) (zD (zF 4) (zD (zp zM) zM))))))
  zJ))))):=rfl
theorem zbg {x:Int}(hx:x.natAbs<=1000):zAf [zHJ .A,.lst [.int x]] M k kx=onP (plA x) (kx M) fun p=>k p.enc M:=by
  refine zPP.trans ?_
  rw [zSX]
  refine (zbP rfl).trans ((oKo zYX).trans ?_)
  by_cases h:0<=x/\x<=2
  · have m1:(x-0).natAbs<2^64:=by lia
    refine (zVX (ix:=.lst [.int x]) (ds:=zAq .A) (x:=x) (s:=1) (o:=0) (i:=0) (a:=0) (c:=2) rfl rfl (Int.not_lt.mpr h.1) (Int.not_lt.mpr h.2) m1 (by decide)).trans ?_
    refine zTV.trans ((oKo (zEC.trans (if_pos ?_))).trans ((oKo zOx).trans ?_))
    · lia
    · rw [plA,if_pos h]
      refine congrArg (fun z=>k (.tup [.int 0,.int z,.int 0,.tup []]) M) ?_
      rw [Int.natCast_add,Int.toNat_of_nonneg h.1]
      lia
  · refine (zRG (ix:=.lst [.int x]) (ds:=zAq .A) (x:=x) (s:=1) (o:=0) (i:=0) (a:=0) (c:=2) rfl rfl (by lia)).trans ?_
    rw [plA,if_neg h];rfl
theorem zbh {x y:Int}(hx:x.natAbs<=1000) (hy:y.natAbs<=1000):zAf [zHJ .B,.lst [.int x,.int y]] M k kx=onP (plB x y) (kx M) fun p=>k p.enc M:=by
  refine zPP.trans ?_
  rw [zSX]
  refine (zbP rfl).trans ((oKo zYY).trans ?_)
  by_cases hX:x<2\/3<x
  · refine (zRG (ix:=.lst [.int x,.int y]) (ds:=zAq .B) (x:=x) (s:=1) (o:=0) (i:=0) (a:=2) (c:=3) rfl rfl hX).trans ?_
    rw [plB,if_neg fun z=>hX.elim (Int.not_lt.mpr z.1) (Int.not_lt.mpr z.2.1)];rfl
  have x1:=Int.not_lt.mp fun z=>hX (.inl z)
  have x2:=Int.not_lt.mp fun z=>hX (.inr z)
  have b1:=nbS (n:=2) hx (Nat.le_refl (Int.natAbs 2))
  have b2:=nbS (n:=1) hy (Nat.le_refl (Int.natAbs (-1)))
  refine (zVX (ix:=.lst [.int x,.int y]) (ds:=zAq .B) (x:=x) (s:=1) (o:=0) (i:=0) (a:=2) (c:=3) rfl rfl (Int.not_lt.mpr x1) (Int.not_lt.mpr x2) (Nat.lt_of_le_of_lt b1 (by decide)) (by decide)).trans ?_
  by_cases hY:y < -1\/1<y
  · refine (zRG (ix:=.lst [.int x,.int y]) (ds:=zAq .B) (x:=y) (s:=1 * (3-2+1)) (o:=0+(x-2) * 1) (i:=1) (a:=-1) (c:=1) rfl rfl hY).trans ?_
    rw [plB,if_neg fun z=>hY.elim (Int.not_lt.mpr z.2.2.1) (Int.not_lt.mpr z.2.2.2)];rfl
  have y1:=Int.not_lt.mp fun z=>hY (.inl z)
  have y2:=Int.not_lt.mp fun z=>hY (.inr z)
  refine (zVX (ix:=.lst [.int x,.int y]) (ds:=zAq .B) (x:=y) (s:=1 * (3-2+1)) (o:=0+(x-2) * 1) (i:=1) (a:=-1) (c:=1) rfl rfl (Int.not_lt.mpr y1) (Int.not_lt.mpr y2) (Nat.lt_of_le_of_lt b2 (by decide)) (by decide)).trans ?_
  have hz:0+(x-2) * 1+(y - -1) * (1 * (3-2+1))=x-2+(y - -1) * 2:=by rw [Int.zero_add,Int.mul_one];rfl
  rw [hz]
  have b3:((y - -1) * 2).natAbs<=1001 * 2:=by rw [Int.natAbs_mul];exact Nat.mul_le_mul_right 2 b2
  refine zTV.trans ((oKo (zEC.trans (if_pos (Nat.lt_of_le_of_lt (nbA b1 b3) (by decide))))).trans ((oKo zOx).trans ?_))
  rw [plB,if_pos ⟨x1,x2,y1,y2⟩]
  refine congrArg (fun z=>k (.tup [.int 0,.int z,.int 0,.tup []]) M) ?_
  have y3:(y+1)=y - -1:=rfl
  rw [Int.natCast_add,Int.natCast_add,Int.natCast_mul,y3,Int.toNat_of_nonneg (Int.sub_nonneg_of_le x1),Int.toNat_of_nonneg (Int.sub_nonneg_of_le y1),Int.mul_one,Int.mul_comm _ 2,Int.add_assoc];rfl
theorem zVY {a:Ar}:zBX [zHJ a] M k kx=k (.ref M.n) (M.new (.list ((yZ a).map Pl.enc))):=by
  have x1:zCS [zAq .A]=fun M k kx=>k (.int 3) M:=by
    funext M k kx
    simp only [zCS,zFh,zAq]
    simp -dsimp [zEC]
  have x2:zCS [zAq .B]=fun M k kx=>k (.int 6) M:=by
    funext M k kx
    simp only [zCS,zFh,zAq]
    simp -dsimp [zEC]
  have x3:zCS [zAq .T]=fun M k kx=>k (.int 2) M:=by
    funext M k kx
    simp only [zCS,zFh,zAq]
    simp -dsimp [zEC]
  simp only [zBX,zEO]
  induction a using Ar.casesOn<;>simp only [zHJ]
  · simp -dsimp [↓x1,↓zTV,zEC,yZ,Pl.enc]
  · simp -dsimp [↓x2,↓zTV,zEC,yZ,Pl.enc]
  · simp -dsimp [↓x3,↓zcg,zEC,yZ,Pl.enc]
theorem zUV (R:ze M b σ) {n:Nat}{s:Sm}(hs:okS s) (hb:∀x,worth σ s=some x->okB x=true):yM (n+2) [yu b,(It.elA s).enc] M k kx=onP ((worth σ s).bind plA) (kx M) fun p=>k p.enc M:=by
  have h1:((("elem" : Str) == "substr")=false):=by decide
  have h2:=zSN .A
  have hb':∀x,worth σ s=some x->x.natAbs<=1000:=fun x hx=>by have:=hb x hx;simp -dsimp [okB] at this;lia
  simp only [yM,zBj,It.enc]
  simp only [Ar.nm,zHJ] at h2
  simp -dsimp [h1,↓zHc R h2,↓zHV R hs hb']
  generalize hw:worth σ s=z1;induction z1 using Option.casesOn with
  | none=>simp
  | some x =>
    have:=zbg (M:=M) (k:=k) (kx:=kx) (hb' x hw)
    simp only [zHJ] at this
    simp -dsimp [this]
theorem zUW (R:ze M b σ) {n:Nat}{s t:Sm}(hs:okS s) (ht:okS t) (hb:∀x,worth σ s=some x->okB x=true) (hc:∀x,worth σ t=some x->okB x=true):yM (n+2) [yu b,(It.elB s t).enc] M k kx=onP (b2 (worth σ s) (worth σ t) plB) (kx M) fun p=>k p.enc M:=by
  have h1:((("elem" : Str) == "substr")=false):=by decide
  have h2:=zSN .B
  have hb':∀x,worth σ s=some x->x.natAbs<=1000:=fun x hx=>by have:=hb x hx;simp -dsimp [okB] at this;lia
  have hc':∀x,worth σ t=some x->x.natAbs<=1000:=fun x hx=>by have:=hc x hx;simp -dsimp [okB] at this;lia
  simp only [yM,zBj,It.enc]
  simp only [Ar.nm,zHJ] at h2
  simp -dsimp [h1,↓zHc R h2,↓zHV R hs hb',↓zHV R ht hc']
  generalize hw:worth σ s=z2;induction z2 using Option.casesOn with
  | none=>simp -dsimp [b2]
  | some x =>
    generalize hw':worth σ t=z3;induction z3 using Option.casesOn with
    | none=>simp -dsimp [b2]
    | some y =>
      have:=zbh (M:=M) (k:=k) (kx:=kx) (hb' x hw) (hc' y hw')
      simp only [zHJ] at this
      simp -dsimp [this,b2]
end
noncomputable def zMQ:Option (Sv×Int)->PV
  | none=>.none
  | some (v,_)=>(Sm.var v).enc
noncomputable def zXM:Option (Sv×Int)->PV
  | none=>.none
  | some (_,st)=>.int st
noncomputable def yU (l:Lv):List (Str×PV):=[("items",.lst (ya l.its)),("at",.int l.at_),("target",zMQ l.tg),("step",zXM l.tg),("count",.int l.cnt)]
noncomputable def zBh (b W el:Nat):List (Str×PV):=[("run",yu b),("levels",.ref (W+2)),("elements",.ref el)]
section
variable {M:Mem}{k:PV->Mem->Prop}{kx:Mem->Prop}{b W el:Nat}{σ:Sto}
@[simp] theorem zYm {o o':MO}:(M.new o).set M.n o'=M.new o':=by
  refine Mem.ext' (by rfl) fun j=>?_
  by_cases h:j=M.n<;>simp -dsimp [h]
theorem zNP {C:Addr}{ti:zh}{ps:List PV}:zUm C ti ps M k kx=ti (.inst C M.n::ps) (M.new (.sdict [])) (fun r M'=>r=.none/\k (.inst C M.n) M') kx:=rfl
theorem zQB {its tg st:PV}{c:Int}:zHn [its,tg,st,.int c] M k kx=k (.inst 416 M.n) (M.new (.sdict [("items",its),("at",.int 0),("target",tg),("step",st),("count",.int c)])):=by
  simp only [zHn,zNP,zFO,zdc,zbp,zEt]
  simp -dsimp (decide:=true) [zEI,stk]
theorem zVC (R:ze M b σ) (hn:b+8<=M.n) {its:List It}{v:Sv}{f:Int}{l:Sm}{st:Int}(hE:okE σ (.ido its v f l st)):zDR [yu b,(It.ido its v f l st).enc] M k kx=match worth σ l with
    | none=>kx M
    | some e=>if st=0 then kx M else k (.inst 416 M.n) ((stM M b σ (.num v.ad) f).new (.sdict (yU ⟨its,0,some (v,st),count f e st⟩))):=by
  refine zBb hE fun hf hst hl hw=>?_
  have hw':∀x,worth σ l=some x->x.natAbs<=1000:=fun x hx=>by have:=hw x hx;simp -dsimp [okB] at this;lia
  have hf':f.natAbs<=1000:=by simp -dsimp [okB] at hf;lia
  have hv:(Pl.num v.ad).ok:=show v.ad<12 by induction v using Sv.casesOn<;>decide
  refine zSZ.trans ?_
  refine (zCl R).trans ?_
  refine (zHV R hl hw').trans ?_
  generalize he:worth σ l=z1;induction z1 using Option.casesOn with
  | none=>rfl
  | some e =>
    have he':=hw' e he
    have hst':st.natAbs<=1000:=by lia
    refine (zCl R).trans ?_
    refine (oKo R.operations).trans ?_
    refine (oKo R.limits).trans ?_
    refine (zZG R.lim hf' he' hst').trans ?_
    by_cases h0:st=0
    · exact (if_pos h0).trans (if_pos h0).symm
    · refine (if_neg h0).trans (Eq.trans ?_ (if_neg h0).symm)
      refine (oKo R.memory).trans ?_
      refine (oKo R.mstore).trans ?_
      refine (zFy R).trans ?_
      refine (zLE R (p:=.num v.ad) (v:=f) hv).trans ?_
      refine zQB.trans ?_
      rw [zHl,zTn (f:=f) (e:=e) (st:=st) (by lia)]
      rfl
theorem zKm {l:Lv}{i:Nat}(h:M.c i=.sdict (yU l)):zAd [416] M (.inst 416 i) "items" = some (.lst (ya l.its)):=yx (.head _) h rfl
theorem zSt {l:Lv}{i:Nat}(h:M.c i=.sdict (yU l)):zAd [416] M (.inst 416 i) "at" = some (.int l.at_):=yx (.head _) h rfl
theorem zGN {l:Lv}{i:Nat}(h:M.c i=.sdict (yU l)):zAd [416] M (.inst 416 i) "target" = some (zMQ l.tg):=yx (.head _) h rfl
theorem zYi {l:Lv}{i:Nat}(h:M.c i=.sdict (yU l)):zAd [416] M (.inst 416 i) "step" = some (zXM l.tg):=yx (.head _) h rfl
theorem zKl {l:Lv}{i:Nat}(h:M.c i=.sdict (yU l)):zAd [416] M (.inst 416 i) "count" = some (.int l.cnt):=yx (.head _) h rfl
theorem zQC {l:Lv}{i n:Nat}(h:M.c i=.sdict (yU l)):zEI [416] M (.inst 416 i) "at" (.int n)=some (M.set i (.sdict (yU ⟨l.its,n,l.tg,l.cnt⟩))):=zGA (.head _) h (Nat.le_of_ble_eq_true rfl)
theorem zUP {l:Lv}{i n:Nat}(h:M.c i=.sdict (yU l)):zEI [416] M (.inst 416 i) "count" (.int n)=some (M.set i (.sdict (yU ⟨l.its,l.at_,l.tg,n⟩))):=zGA (.head _) h (Nat.le_of_ble_eq_true rfl)
@[simp] theorem zcu {t:Option (Sv×Int)}:zEf (zMQ t)=true:=by induction t using Option.casesOn<;>rfl
@[simp] theorem zct {t:Option (Sv×Int)}:zEf (zXM t)=true:=by induction t using Option.casesOn<;>rfl
theorem zZt (R:ze M b σ) {l:Lv}{i:Nat}{v:Sv}{st:Int}(hi:M.c i=.sdict (yU l)) (hib:b+8<=i) (ht:l.tg=some (v,st)) (hst:okB st=true) (hx:∀x,σ.num v.ad=some x->okB x=true) (hc:l.cnt≠0):qr [yu b,.inst 416 i] M k kx=onV (σ.num v.ad) (kx M)
    fun x=>k .none ((stM M b σ (.num v.ad) (x+st)).set i (.sdict (yU ⟨l.its,0,l.tg,l.cnt-1⟩))):=by
  have hv:v.ad<12:=by induction v using Sv.casesOn<;>decide
  have hp:∀{k:PV->Mem->Prop}{kx:Mem->Prop},yM 4 [yu b,zMQ l.tg] M k kx=k (.tup [.int 0,.int v.ad,.int 0,.tup []]) M:=fun {k kx}=>by rw [ht];exact zFy R
  have h1:qa M (zMQ l.tg) (.int 1)=some (.int 0):=by rw [ht];simp -dsimp [zMQ,Sm.enc]
  have h2:zXM l.tg=.int st:=by rw [ht];rfl
  simp only [qr,zNT,zDz]
  simp -dsimp [zGN hi,↓hp,h1,R.memory,R.mstore,R.mload,zYi hi,↓zOB R hv]
  generalize hσ:σ.num v.ad=z2;induction z2 using Option.casesOn with
  | none=>simp
  | some x =>
    have hx':=hx x hσ
    have b1:x.natAbs<=100000:=by simp -dsimp [okB] at hx';lia
    have b2:st.natAbs<=100000:=by simp -dsimp [okB] at hst;lia
    have hs:∀{k:PV->Mem->Prop}{kx:Mem->Prop},zs [.inst 210 b,.tup [.int 0,.int v.ad,.int 0,.tup []],.int (x+st)] M k kx=k .none (stM M b σ (.num v.ad) (x+st)):=fun {k kx}=>zLE R (p:=.num v.ad) (v:=x+st) hv
    have hi2:(stM M b σ (.num v.ad) (x+st)).c i=.sdict (yU l):=by rw [zFY (by lia) (by lia)];exact hi
    have e1:((l.cnt:Int)-1)=((l.cnt-1:Nat):Int):=by lia
    have s1:=zUP (n:=l.cnt-1) hi2
    have s2:=zQC (M:=(stM M b σ (.num v.ad) (x+st)).set i (.sdict (yU ⟨l.its,l.at_,l.tg,l.cnt-1⟩))) (l:=⟨l.its,l.at_,l.tg,l.cnt-1⟩) (i:=i) (n:=0) (by simp)
    simp at s2
    rw [h2]
    simp -dsimp [zKv R b1 b2,hs,zKl hi2,zXn,e1,s1,s2]
noncomputable def Ev.enc:Ev->PV
  | .pl (.num a)=>.tup [.int 0,(Pl.num a).enc,.none]
  | .pl (.txt j)=>.tup [.int 5,(Pl.txt j).enc,.none]
  | .val none=>.tup [.int 0,.none,.none]
  | .val (some x)=>.tup [.int 0,.none,.int x]
noncomputable def Pl.kd:Pl->Int | .num _=>0 | .txt _=>5
theorem zVn {p:Pl}:qa M p.enc (.int 0)=some (.int p.kd):=by induction p using Pl.casesOn<;>simp -dsimp [Pl.enc,Pl.kd]
theorem Ev.enc_pl (p:Pl):(Ev.pl p).enc=.tup [.int p.kd,p.enc,.none]:=by induction p using Pl.casesOn<;>rfl
noncomputable def Out.enc:Out->PV
  | .pl p=>.tup [.int p.kd,p.enc,.none]
  | .ex s=>.tup [.int 0,.none,s.enc]
  | _=>.none
structure zHu (M:Mem) (b W el:Nat) (ids:List Nat):Prop where
  w:M.c W=.sdict (zBh b W el)
  lv:M.c (W+2)=.list (ids.reverse.map fun i=>.inst 416 i)
theorem zHu.run {ids:List Nat}(O:zHu M b W el ids):zAd [465] M (.inst 465 W) "run" = some (yu b):=yx (.head _) O.w rfl
theorem zHu.levels {ids:List Nat}(O:zHu M b W el ids):zAd [465] M (.inst 465 W) "levels" = some (.ref (W+2)):=yx (.head _) O.w rfl
theorem zHu.elements {ids:List Nat}(O:zHu M b W el ids):zAd [465] M (.inst 465 W) "elements" = some (.ref el):=yx (.head _) O.w rfl
theorem zHu.setEl {e':Nat}(h:M.c W=.sdict (zBh b W el)):zEI [465] M (.inst 465 W) "elements" (.ref e')=some (M.set W (.sdict (zBh b W e'))):=zGA (.head _) h (Nat.le_of_ble_eq_true rfl)
theorem zId {i:Nat}{xs:List PV}(h:M.c i=.list xs):qY (.ref i) M=some zCq:=congrArg _ (zHC h)
theorem zRy {i:Nat}{xs:List PV}(h:M.c i=.list xs):zFL (.ref i) M=some zOj:=congrArg _ (zHC h)
theorem zal {i:Nat}{xs:List PV}(h:M.c i=.list xs):zIv (.ref i) M=some zGF:=congrArg _ (zHC h)
theorem zYG (x y:Str):PyData.eqv (.str x) (.str y)=(x==y):=by simp only [PyData.eqv]
theorem zaM {w:Str}{r:List PV}(hw:PyData.strOk w=true):zCz [.tup (.str w::r)] M k kx=k (.bool ("var" == w||("array" == w||("elem" == w || "substr" == w)))) M:=by
  have d9:yi M 9 (.tup [.str "var",.str "array",.str "elem",.str "substr"])=some (.tuple [.str "var",.str "array",.str "elem",.str "substr"]):=zDk (zAo (zDj zDs) (zAo (zDj zBV) (zAo (zDj zCO) (zAo (zDj zGP) rfl))))
  have h:inP (.str w) (.tup [.str "var",.str "array",.str "elem",.str "substr"]) M=some ("var" == w||("array" == w||("elem" == w || "substr" == w))):=by
    show inD _ _ M=_
    rw [zbw (zDj hw) d9]
    simp only [List.any_cons,List.any_nil,zYG,Bool.or_false]
  simp only [zCz,zdW,zFi]
  simp -dsimp [qEq,qNe,qIn,qNi,h]
noncomputable def zBS (M:Mem) (b W:Nat) (ids:List Nat) (σ':Sto) (l:Lv) (v:Sv) (f:Int) (σ:Sto):Mem:=((stM M b σ (.num v.ad) f).new (.sdict (yU l))).set (W+2) (.list ((M.n::ids).reverse.map fun i=>.inst 416 i))
def tkA:zX:=zK (zx 2 (zO (yM 4) (zD (zq [465] (zF 0) "run") (zD (zF 1) zM))))
  (zK (zj (zp (zD (zZ (zF 2) (zC (.int 0))) (zD (zF 2) (zD (zC .none) zM)))))
  zJ)
def tkB:zX:=zK (zj (zp (zD (zZ (zF 1) (zC (.int 1))) (zD (zC .none) (zD (zF 1) zM)))))
  zJ
theorem zZC {w:Str}{r:List PV}{c:Bool}(h1:yw .Eq (.str w) (.str "ido") M=some false) (h2:yw .Eq (.str w) (.str "array") M=some false) (hw:PyData.strOk w=true) (hc:("var" == w||("array" == w||("elem" == w || "substr" == w)))=c) :
    yh [.inst 465 W,.tup (.str w::r)] M k kx=bK (tkA ⟨[some (.inst 465 W),some (.tup (.str w::r)),none],M⟩ (fun st=>k .none st.mem) k fun st=>kx st.mem) (tkB ⟨[some (.inst 465 W),some (.tup (.str w::r)),none],M⟩ (fun st=>k .none st.mem) k fun st=>kx st.mem) .mk c:=by
  refine zNT.trans ?_
  refine (oKo h1).trans ?_
  refine (oKo h2).trans ?_
  refine (zaM hw).trans ?_
  rw [hc];rfl
noncomputable def tkK (M:Mem) (b W:Nat) (ids:List Nat) (σ:Sto) (it:It) (k:PV->Mem->Prop) (kx:Mem->Prop):TK->Prop
  | .fault=>kx M
  | .out o=>k o.enc M
  | .els es=>k .none (((M.new (.list (es.map Pl.enc))).set W (.sdict (zBh b W M.n))).set M.n (.list (es.map Pl.enc).reverse))
  | .push σ' l=>match it with
    | .ido its v f _ _=>k .none (zBS M b W ids σ' l v f σ)
    | _=>False
theorem zZV {ids:List Nat}(O:zHu M b W el ids) {r:List PV}{it:It}{o:Option Pl}(hp:∀{k:PV->Mem->Prop}{kx:Mem->Prop},yM 4 [yu b,.tup (.str "elem" :: r)] M k kx=onP o (kx M) fun p=>k p.enc M):yh [.inst 465 W,.tup (.str "elem" :: r)] M k kx=tkK M b W ids σ it k kx (oP o):=by
  refine (zZC zKu zHg zCO (c:=true) (by decide)).trans ?_
  refine (oKo O.run).trans ?_
  refine hp.trans ?_
  induction o using Option.casesOn with
  | none=>rfl
  | some p=>exact oKo zVn
theorem zJk (R:ze M b σ) {ids:List Nat}(O:zHu M b W el ids) (hb:b+15<=W) (hn:W+5<=M.n) (hids:ids.length<=100) {it:It}(hE:okE σ it):yh [.inst 465 W,it.enc] M k kx=tkK M b W ids σ it k kx (tk σ it):=by
  induction it using It.casesOn with
  | ex s =>
    induction s using Sm.casesOn with
    | const c=>exact zZC zIt zGj zCN (c:=false) (by decide)
    | var v =>
      refine (zZC zMj zIu zDs (c:=true) (by decide)).trans ?_
      refine (oKo O.run).trans ?_
      exact zFy R
    | add v c=>exact zZC zMh zIr zEV (c:=false) (by decide)
  | elA s=>exact zZV O (zUV R hE.1 hE.2)
  | elB s t=>exact zZV O (zUW R hE.1.1 hE.2.1 hE.1.2 hE.2.2)
  | arr a =>
    have hw:(M.new (.list ((yZ a).map Pl.enc))).c W=.sdict (zBh b W el):=(if_neg (by lia)).trans O.w
    have e2:zAd [465] ((M.new (.list ((yZ a).map Pl.enc))).set W (.sdict (zBh b W M.n))) (.inst 465 W) "elements" = some (.ref M.n):=yx (.head _) (if_pos rfl) rfl
    have e3:((M.new (.list ((yZ a).map Pl.enc))).set W (.sdict (zBh b W M.n))).c M.n=.list ((yZ a).map Pl.enc):=(if_neg (by lia)).trans (if_pos rfl)
    have e4:((yZ a).map Pl.enc).length<=1000:=by induction a using Ar.casesOn<;>decide
    refine zNT.trans ?_
    refine (oKo zIs).trans ?_
    refine (oKo zGi).trans ?_
    refine (oKo O.run).trans ?_
    refine (zWo R).trans ?_
    refine zVY.trans ?_
    refine (oKo (zHu.setEl hw)).trans ?_
    refine (oKo e2).trans ?_
    refine (oKo (zal e3)).trans ?_
    exact zQm e3 e4 (k:=fun Z M=>k .none M) (kx:=kx)
  | ido its v f l st =>
    have hg:=fun {k:PV->Mem->Prop}{kx:Mem->Prop}=>zVC (k:=k) (kx:=kx) R (by lia) hE
    refine zNT.trans ?_
    refine (oKo zMi).trans ?_
    refine (oKo O.levels).trans ?_
    refine (oKo (zId O.lv)).trans ?_
    refine (oKo O.run).trans ?_
    refine hg.trans ?_
    generalize he:worth σ l=z3;induction z3 using Option.casesOn with
    | none=>rw [tkN he];rfl
    | some e =>
      by_cases h0:st=0
      · rw [tk0 he h0];exact if_pos h0
      · rw [tkS he h0]
        refine (if_neg h0).trans ?_
        have hlv:((stM M b σ (.num v.ad) f).new (.sdict (yU ⟨its,0,some (v,st),count f e st⟩))).c (W+2)=.list (ids.reverse.map fun i=>.inst 416 i):=by
          refine (if_neg (by rw [zHl];lia)).trans ?_
          rw [zFY (by lia) (by lia)]
          exact O.lv
        refine (zCi hlv (by simp;lia) (k:=fun Z M=>k .none M) (kx:=kx)).trans ?_
        simp -dsimp [tkK,zBS]
end
def zFQ (M:Mem) (W:Nat):List Nat->List Lv->Prop
  | [],[]=>True
  | i::ids,l::ls=>M.c i=.sdict (yU l)/\(i=W+1\/W+5<=i)/\i<M.n/\i ∉ ids/\zFQ M W ids ls
  | _,_=>False
structure yD (M:Mem) (b W el:Nat) (ids:List Nat) (e:List Pl) (ls:List Lv):Prop where
  o:zHu M b W el ids
  es_:M.c el=.list (e.reverse.map Pl.enc)
  eld:el=W+3\/W+5<=el
  eln:el<M.n
  lvs:zFQ M W ids ls
  n:W+5<=M.n
structure Frm (b W:Nat) (M M':Mem):Prop where
  n:M.n<=M'.n
  c:∀i,(i<W\/i=W+4)->i≠b+1->i≠b+2->M'.c i=M.c i
theorem Frm.refl {b W:Nat}(M:Mem):Frm b W M M:=⟨Nat.le_refl _,fun Z Z Z Z=>rfl⟩
theorem Frm.trans {b W:Nat}{M M1z M2z:Mem}(x:Frm b W M M1z) (y:Frm b W M1z M2z):Frm b W M M2z:=⟨Nat.le_trans x.n y.n,fun i h h1 h2=>(y.c i h h1 h2).trans (x.c i h h1 h2)⟩
section
variable {M M':Mem}{k:PV->Mem->Prop}{kx:Mem->Prop}{b W el:Nat}{σ:Sto}
theorem zFQ.len:∀{ids:List Nat}{ls:List Lv},zFQ M W ids ls->ids.length=ls.length
  | [],[],_=>rfl
  | _::_,_::_,h=>congrArg (·+1) (zFQ.len h.2.2.2.2)
  | [],_::_,h=>h.elim
  | _::_,[],h=>h.elim
theorem zFQ.mono:∀{ids:List Nat}{ls:List Lv},zFQ M W ids ls->M.n<=M'.n->(∀i∈ids,M'.c i=M.c i)->zFQ M' W ids ls
  | [],[],_,_,_=>trivial
  | i::_,_::_,h,hn,hc=>(zSm ((hc i (.head _)).trans h.1) h.2.1 (Nat.lt_of_lt_of_le h.2.2.1 hn) h.2.2.2.1 (zFQ.mono h.2.2.2.2 hn fun j hj=>hc j (.tail _ hj)))
  | [],_::_,h,_,_=>h.elim
  | _::_,[],h,_,_=>h.elim
theorem zFQ.at:∀{ids:List Nat}{ls:List Lv},zFQ M W ids ls->∀i∈ids,(i=W+1\/W+5<=i)/\i<M.n/\∃kvs,M.c i=.sdict kvs
  | i::_,_::_,h,j,hj=>by
    rcases List.mem_cons.mp hj with rfl | hj
    · exact (zdf h.2.1 h.2.2.1 _ h.1)
    · exact zFQ.at h.2.2.2.2 j hj
  | [],[],_,_,hj=>nomatch hj
  | [],_::_,h,_,_=>h.elim
  | _::_,[],h,_,_=>h.elim
theorem ze.mono (R:ze M b σ) (h:∀i,b<=i->i<=b+7->M'.c i=M.c i):ze M' b σ:=
  ⟨(h _ (by lia) (by lia)).trans R.mem,(h _ (by lia) (by lia)).trans R.num,(h _ (by lia) (by lia)).trans R.chr,(h _ (by lia) (by lia)).trans R.lim,(h _ (by lia) (by lia)).trans R.exs,(h _ (by lia) (by lia)).trans R.run⟩
theorem ze.frm (R:ze M b σ) (hb:b+15<=W) (F:Frm b W M M') (h1:M'.c (b+1)=M.c (b+1)) (h2:M'.c (b+2)=M.c (b+2)):ze M' b σ:=R.mono fun i hi hi'=>by
  by_cases e1:i=b+1
  · rw [e1,h1]
  · by_cases e2:i=b+2
    · rw [e2,h2]
    · exact F.c i (.inl (by lia)) e1 e2
variable {ids:List Nat}{e:List Pl}{ls:List Lv}
theorem yD.elne (O:yD M b W el ids e ls):el≠W+2/\W<el/\el≠W+4/\∀i∈ids,i≠el:=by
  refine (zEg ?_ ?_ ?_ (fun i hi q=>?_))
  · rcases O.eld with h | h<;>lia
  · rcases O.eld with h | h<;>lia
  · rcases O.eld with h | h<;>lia
  · refine zdu (O.lvs.at i hi) fun Z Z kvs hk=>?_
    rw [q,O.es_] at hk;cases hk
theorem yD.idne (O:yD M b W el ids e ls) {i:Nat}(hi:i∈ids):i≠W+2/\W<i/\i≠W+4:=by
  have:=(O.lvs.at i hi).1
  lia
theorem yD.popEl {p:Pl}{r:List Pl}(O:yD M b W el ids e ls):yD (M.set el (.list (r.reverse.map Pl.enc))) b W el ids r ls:=by
  refine zBb O.elne fun h1 h2 h3 h4=>?_
  refine ⟨⟨by simp -dsimp [show W≠el by lia,O.o.w],by simp -dsimp [Ne.symm h1];simpa using O.o.lv⟩,by simp,O.eld,O.eln,O.lvs.mono (Nat.le_refl _) fun i hi=>by simp -dsimp [h4 i hi],O.n⟩
theorem yD.popLv {i:Nat}{l:Lv}(O:yD M b W el (i::ids) e (l::ls)):yD (M.set (W+2) (.list (ids.reverse.map fun i=>.inst 416 i))) b W el ids e ls:=by
  refine zBb O.elne fun h1 h2 h3 h4=>?_
  refine ⟨⟨by simp -dsimp [O.o.w],by simp⟩,by simp -dsimp [h1];simpa using O.es_,O.eld,O.eln,O.lvs.2.2.2.2.mono (Nat.le_refl _) fun j hj=>by simp -dsimp [(O.idne (.tail _ hj)).1],O.n⟩
theorem yD.setLv {i:Nat}{l l':Lv}(O:yD M b W el (i::ids) e (l::ls)):yD (M.set i (.sdict (yU l'))) b W el (i::ids) e (l'::ls):=by
  refine zBb O.elne fun h1 h2 h3 h4=>?_
  refine xAA (O.idne (.head _)) fun g1 g2 g3=>?_
  refine ⟨⟨by simp -dsimp [show W≠i by lia,O.o.w],by simp -dsimp [Ne.symm g1];simpa using O.o.lv⟩,by simp -dsimp [Ne.symm (h4 i (.head _))];simpa using O.es_,O.eld,O.eln,?_,O.n⟩
  refine (zSm (by simp) O.lvs.2.1 O.lvs.2.2.1 O.lvs.2.2.2.1 (O.lvs.2.2.2.2.mono (Nat.le_refl _) fun j hj=>?_))
  have:j≠i:=fun q=>O.lvs.2.2.2.1 (q ▸ hj)
  simp -dsimp [this]
theorem yD.st {p:Pl}{v:Int}(hb:b+15<=W) (O:yD M b W el ids e ls):yD (stM M b σ p v) b W el ids e ls:=by
  refine zBb O.elne fun h1 h2 h3 h4=>?_
  refine ⟨⟨by rw [zFY (by lia) (by lia)];exact O.o.w,by rw [zFY (by lia) (by lia)];exact O.o.lv⟩,by rw [zFY (by lia) (by lia)];exact O.es_,O.eld,by rw [zHl];exact O.eln,O.lvs.mono (by rw [zHl];exact Nat.le_refl _) fun i hi=>?_,by rw [zHl];exact O.n⟩
  have:=O.idne hi
  exact zFY (by lia) (by lia)
theorem yD.newEls {es:List Pl}(O:yD M b W el ids e ls):yD (((M.new (.list (es.map Pl.enc))).set W (.sdict (zBh b W M.n))).set M.n (.list (es.map Pl.enc).reverse)) b W M.n ids es ls:=by
  have hn:=O.n
  refine ⟨⟨by simp -dsimp [show W≠M.n by lia],by simp -dsimp [show W+2≠M.n by lia];simpa using O.o.lv⟩,by simp,.inr O.n,by simp,O.lvs.mono (by simp) fun i hi=>?_,by simp;lia⟩
  have h1:=O.lvs.at i hi
  have h2:=O.idne hi
  simp -dsimp [show i≠M.n by lia,show i≠W by lia]
theorem yD.push {l:Lv}{v:Sv}{f:Int}(hb:b+15<=W) (O:yD M b W el ids e ls) {σ':Sto}:yD (zBS M b W ids σ' l v f σ) b W el (M.n::ids) e (l::ls):=by
  refine zBb O.elne fun h1 h2 h3 h4=>?_
  have hn:=O.n
  have hel:=O.eln
  have O':=O.st (σ:=σ) (p:=.num v.ad) (v:=f) hb
  have hnn:(stM M b σ (.num v.ad) f).n=M.n:=zHl
  refine ⟨⟨?_,?_⟩,?_,O.eld,?_,(zSm ?_ (.inr O.n) ?_ (fun hm=>?_) (O'.lvs.mono (by simp -dsimp [zBS]) fun i hi=>?_)),?_⟩
  · simp -dsimp [zBS,hnn,show W≠M.n by lia];exact O'.o.w
  · simp -dsimp [zBS]
  · simp -dsimp [zBS,hnn,h1,show el≠M.n by lia];simpa using O'.es_
  · simp -dsimp [zBS,hnn];lia
  · simp -dsimp [zBS,hnn,show M.n≠W+2 by lia]
  · simp -dsimp [zBS,hnn]
  · have:=(O.lvs.at _ hm).2.1;lia
  · have:=(O.lvs.at i hi).2.1
    have:=O.idne hi
    simp -dsimp [zBS,hnn,show i≠M.n by lia,show i≠W+2 by lia]
  · simp -dsimp [zBS,hnn];lia
end
def cN:qI:=(bor [(zCt (zq [465] (zF 0) "elements")),(zCt (zq [465] (zF 0) "levels"))])
def nxR:zX:=zw (yA .IsNot (zF 3) (zC .none)) (zK (zj (zF 3))
  zJ) zJ
def nxE:zX:=zK (zPA [416] (zF 2) "at" .Add (zC (.int 1)))
  (zK (zx 3 (yc (zF 0) (yz 465 "take" yh) (zD (zZ (zq [416] (zF 2) "items") (ye .Sub (zq [416] (zF 2) "at") (zC (.int 1)))) zM)))
  (zK nxR
  zJ))
def nxP:zX:=qZ (yc (zq [465] (zF 0) "levels") zFL zM)
def nxT:zX:=zw (yA .Is (zq [416] (zF 2) "target") (zC .none)) (zK nxP
  zJ) (zK (qZ (zO qr (zD (zq [465] (zF 0) "run") (zD (zF 2) zM))))
  zJ)
def nxD:zX:=zw (yA .Eq (zq [416] (zF 2) "at") (zO qw (zD (zq [416] (zF 2) "items") zM))) (zK nxT
  zJ) nxE
def nxC:zX:=zw (yA .Eq (zq [416] (zF 2) "count") (zC (.int 0))) (zK nxP
  zJ) (zK nxD
  zJ)
def bN:zX:=(zK (zw (zCt (zq [465] (zF 0) "elements")) (zK (zx 1 (yc (zq [465] (zF 0) "elements") zFL zM))
  (zK (zj (zp (zD (zZ (zF 1) (zC (.int 0))) (zD (zF 1) (zD (zC .none) zM)))))
  zJ)) zJ)
  (zK (zx 2 (zZ (zq [465] (zF 0) "levels") (zII (zC (.int 1)))))
  (zK nxC
  zJ)))
theorem zUS:zDF=zK (zGv cN bN) (zK (zj (zC .none)) zJ):=rfl
theorem zLK {c:qI}{b:zX}{n:Nat}{lo:List (Option PV)}{M:Mem}{kn kr kx}:yR c b (n+1) ⟨lo,M⟩ kn kr kx=c ⟨lo,M⟩ (fun t M=>bK (b ⟨lo,M⟩ (fun st'=>yR c b n st' kn kr kx) kr kx) (kn ⟨lo,M⟩) .mk t) (fun M=>kx ⟨lo,M⟩):=rfl
def zWd (o:Out) (kn:St->Prop) (kr:PV->Mem->Prop) (kx:St->Prop) (M:Mem):Prop:=match o with
  | .fault=>∀lo,kx ⟨lo,M⟩
  | .fin=>∀lo,kn ⟨lo,M⟩
  | o=>kr o.enc M
section
variable {M M':Mem}{b W el:Nat}{σ:Sto}{ids:List Nat}{e:List Pl}{ls:List Lv}
theorem zMr {i:Nat}{xs:List PV}(h:M.c i=.list xs) (hl:xs.length<=1000):zCV M (.ref i)=some (decide (0<xs.length)):=(congrArg (fun c=>(asL c).bind fun xs=>if xs.length<=1000 then some (decide (0<xs.length)) else none) h).trans (if_pos hl)
theorem zTp {its:List It}{a:Nat}{it:It}(h:its[a]?=some it):(ya its)[a]?=some it.enc:=by rw [zDm,List.getElem?_map,h];rfl
theorem zDl {its:List It}:(ya its).length=its.length:=by rw [zDm];simp
theorem zOc {i j:Nat}{o:MO}(h:j≠i):(M.set i o).c j=M.c j:=if_neg h
theorem zGK {i:Nat}{o:MO}(h:W<i) (h4:i≠W+4):Frm b W M (M.set i o):=⟨Nat.le_refl _,fun j hj Z Z=>by
  have:j≠i:=by lia
  simp -dsimp [this]⟩
theorem zVl {p:Pl}{v:Int}:Frm b W M (stM M b σ p v):=⟨by rw [zHl];exact Nat.le_refl _,fun j Z h1 h2=>zFY h1 h2⟩
theorem yD.tE (O:yD M b W el ids e ls) (he:e.length<=100):zCV M (.ref el)=some (decide (0<e.length)):=by
  rw [zMr O.es_ (by simp;lia)];simp
theorem yD.tL (O:yD M b W el ids e ls) (he:ls.length<=100):zCV M (.ref (W+2))=some (decide (0<ls.length)):=by
  have:=O.lvs.len
  rw [zMr O.o.lv (by simp;lia)];simp -dsimp [this]
theorem yD.last {i:Nat}{l:Lv}(O:yD M b W el (i::ids) e (l::ls)):qa M (.ref (W+2)) (.int (-1))=some (.inst 416 i):=by
  rw [zHY O.o.lv]
  simp only [List.reverse_cons,List.map_append,List.map_cons,List.map_nil]
  exact zQJ
theorem yD.popL {i:Nat}{l:Lv}(O:yD M b W el (i::ids) e (l::ls)) (h:ls.length<=100) {k:PV->Mem->Prop}{kx:Mem->Prop}:zOj [.ref (W+2)] M k kx=k (.inst 416 i) (M.set (W+2) (.list (ids.reverse.map fun i=>.inst 416 i))):=by
  have hl:=O.lvs.len
  simp at hl
  have e1:((i::ids).reverse.map fun i=>PV.inst 416 i).length-1=(ids.reverse.map fun i=>PV.inst 416 i).length:=by simp
  rw [zTS (x:=.inst 416 i) O.o.lv (by simp;lia) (by rw [e1];simp),e1]
  congr 3
  simp -dsimp [List.eraseIdx_append_of_length_le]
theorem zTq {l:Lv}{i:Nat}{v:Sv}{st:Int}{k:PV->Mem->Prop}{kx:Mem->Prop}(R:ze M b σ) (hi:M.c i=.sdict (yU l)) (ht:l.tg=some (v,st)) (hx:σ.num v.ad=none):qr [yu b,.inst 416 i] M k kx=kx M:=by
  have hv:v.ad<12:=by induction v using Sv.casesOn<;>decide
  have hp:∀{k:PV->Mem->Prop}{kx:Mem->Prop},yM 4 [yu b,zMQ l.tg] M k kx=k (.tup [.int 0,.int v.ad,.int 0,.tup []]) M:=fun {k kx}=>by rw [ht];exact zFy R
  have h1:qa M (zMQ l.tg) (.int 1)=some (.int 0):=by rw [ht];simp -dsimp [zMQ,Sm.enc]
  simp only [qr,zNT,zDz]
  simp -dsimp [zGN hi,↓hp,h1,R.memory,R.mstore,R.mload,↓zOB R hv,hx]
theorem zKr {i n:Nat}{l:Lv}{x1 x2 x3:Option PV}{kn:St->Prop}{kr:PV->Mem->Prop}{kx:St->Prop}(O:yD M b W el (i::ids) [] (l::ls)) (hls:ls.length<=10) :
    yR cN bN (n+1) ⟨[some (.inst 465 W),x1,x2,x3],M⟩ kn kr kx=nxC ⟨[some (.inst 465 W),x1,some (.inst 416 i),x3],M⟩ (fun st'=>yR cN bN n st' kn kr kx) kr kx:=by
  have t:zCV M (.ref el)=some false:=O.tE (by simp)
  have t':zCV M (.ref (W+2))=some true:=(O.tL (by simp;lia)).trans (congrArg some (decide_eq_true (Nat.succ_pos _)))
  refine (oKo O.o.elements).trans ?_
  refine (oKo t).trans ?_
  refine (oKo O.o.levels).trans ?_
  refine (oKo t').trans ?_
  refine (oKo O.o.elements).trans ?_
  refine (oKo t).trans ?_
  refine (oKo O.o.levels).trans ?_
  exact oKo O.last
section
variable {i:Nat}{l:Lv}{lo:List (Option PV)}{kn:St->Prop}{kr:PV->Mem->Prop}{kx:St->Prop}
theorem zdm (hi:M.c i=.sdict (yU l)) (h:qD lo 2=some (.inst 416 i)) (hc:l.cnt=0):nxC ⟨lo,M⟩ kn kr kx=nxP ⟨lo,M⟩ kn kr kx:=by
  refine (oKo h).trans ?_
  refine (oKo (zKl hi)).trans ?_
  rw [hc];exact bKt rfl
theorem zSy (hi:M.c i=.sdict (yU l)) (h:qD lo 2=some (.inst 416 i)) (hc:l.cnt≠0):nxC ⟨lo,M⟩ kn kr kx=nxD ⟨lo,M⟩ kn kr kx:=by
  refine (oKo h).trans ?_
  refine (oKo (zKl hi)).trans ?_
  exact bKf fun e=>hc (Int.ofNat.inj e)
theorem zWe (hi:M.c i=.sdict (yU l)) (h:qD lo 2=some (.inst 416 i)) (hil:l.its.length<=10) (ha:l.at_=l.its.length):nxD ⟨lo,M⟩ kn kr kx=nxT ⟨lo,M⟩ kn kr kx:=by
  refine (oKo h).trans ?_
  refine (oKo (zSt hi)).trans ?_
  refine (oKo h).trans ?_
  refine (oKo (zKm hi)).trans ?_
  refine (aKo (b:=Nat.ble (ya l.its).length 1000000) (Nat.ble_eq_true_of_le (by rw [zDl];lia))).trans ?_
  exact bKt (congrArg Int.ofNat (ha.trans zDl.symm))
theorem zaZ (hi:M.c i=.sdict (yU l)) (h:qD lo 2=some (.inst 416 i)) (hil:l.its.length<=10) (ha:l.at_≠l.its.length):nxD ⟨lo,M⟩ kn kr kx=nxE ⟨lo,M⟩ kn kr kx:=by
  refine (oKo h).trans ?_
  refine (oKo (zSt hi)).trans ?_
  refine (oKo h).trans ?_
  refine (oKo (zKm hi)).trans ?_
  refine (aKo (b:=Nat.ble (ya l.its).length 1000000) (Nat.ble_eq_true_of_le (by rw [zDl];lia))).trans ?_
  exact bKf fun e=>ha ((Int.ofNat.inj e).trans zDl)
theorem zWf {xs:List PV}{y:PV}(O:zHu M b W el ids) (h:qD lo 0=some (.inst 465 W)) (hp:∀{k:PV->Mem->Prop}{kx:Mem->Prop},zOj [.ref (W+2)] M k kx=k y (M.set (W+2) (.list xs))):nxP ⟨lo,M⟩ kn kr kx=kn ⟨lo,M.set (W+2) (.list xs)⟩:=by
  refine (oKo h).trans ?_
  refine (oKo O.levels).trans ?_
  refine (oKo (zRy O.lv)).trans ?_
  exact hp (k:=fun Z M=>kn ⟨lo,M⟩) (kx:=fun M=>kx ⟨lo,M⟩)
theorem zcM (hi:M.c i=.sdict (yU l)) (h:qD lo 2=some (.inst 416 i)) (ht:l.tg=none):nxT ⟨lo,M⟩ kn kr kx=nxP ⟨lo,M⟩ kn kr kx:=by
  refine (oKo h).trans ?_
  refine (oKo (zGN hi)).trans ?_
  rw [ht];rfl
theorem zZS (hi:M.c i=.sdict (yU l)) (O:zHu M b W el ids) (h0:qD lo 0=some (.inst 465 W)) (h:qD lo 2=some (.inst 416 i)) {v:Sv×Int}(ht:l.tg=some v):nxT ⟨lo,M⟩ kn kr kx=qr [yu b,.inst 416 i] M (fun Z M=>kn ⟨lo,M⟩) fun M=>kx ⟨lo,M⟩:=by
  refine (oKo h).trans ?_
  refine (oKo (zGN hi)).trans ?_
  rw [ht]
  refine (oKo h0).trans ?_
  refine (oKo O.run).trans ?_
  exact oKo h
end
theorem zHo {i:Nat}{l:Lv}{it:It}(hb:b+15<=W) (O:yD M b W el (i::ids) [] (l::ls)) (R:ze M b σ) (hls:ls.length<=10) (hc:l.cnt≠0) (hc':l.cnt<=1000) (hil:l.its.length<=10) (ha:l.its[l.at_]?=some it) :
    Frm b W M (M.set i (.sdict (yU l.nx)))/\yD (M.set i (.sdict (yU l.nx))) b W el (i::ids) [] (l.nx::ls)/\ze (M.set i (.sdict (yU l.nx))) b σ /\
    ∀n x1 x2 x3 kn kr kx,yR cN bN (n+1) ⟨[some (.inst 465 W),x1,x2,x3],M⟩ kn kr kx=yh [.inst 465 W,it.enc] (M.set i (.sdict (yU l.nx)))
      (fun p M'=>nxR ⟨[some (.inst 465 W),x1,some (.inst 416 i),some p],M'⟩ (fun st'=>yR cN bN n st' kn kr kx) kr kx) (fun M'=>kx ⟨[some (.inst 465 W),x1,some (.inst 416 i),x3],M'⟩):=by
  have ig:=O.idne (.head _)
  have O1:=O.setLv (l':=l.nx)
  have R1:=R.mono (M':=M.set i (.sdict (yU l.nx))) fun j Z hj=>zOc (by lia)
  refine (zEg (zGK ig.2.1 ig.2.2) O1 R1 (fun n x1 x2 x3 kn kr kx=>?_))
  have hal:l.at_<l.its.length:=(List.getElem?_eq_some_iff.mp ha).1
  have hsel:yz 465 "take" yh (.inst 465 W) (M.set i (.sdict (yU l.nx)))=some yh:=by
    exact zEi O1.o.w rfl
  have hg:zGc (ya l.its) ((l.at_:Int)+1-1)=some it.enc:=by
    rw [Int.add_sub_cancel];exact zDQ (zTp ha) (by lia)
  refine (zKr O hls).trans ?_
  refine (zSy O.lvs.1 rfl hc).trans ?_
  refine (zaZ O.lvs.1 rfl hil (by lia)).trans ?_
  refine (oKo (zSt O.lvs.1)).trans ?_
  refine (oKo (zQC (n:=l.at_+1) O.lvs.1)).trans ?_
  refine (oKo hsel).trans ?_
  refine (oKo (zKm O1.lvs.1)).trans ?_
  refine (oKo (zSt O1.lvs.1)).trans ?_
  refine (oKo zOy).trans ?_
  exact oKo hg
theorem yD.short {l:Lv}{r:List Lv}(O:yD M b W el ids e (l::r)) (h:r.length<=10):ids.length<=100:=by
  have:=O.lvs.len
  rw [List.length_cons] at this
  lia
theorem zYn (hb:b+15<=W) {o:Out}{σ':Sto}{e':List Pl}{ls':List Lv}(h:Nx σ e ls o σ' e' ls'):∀(M:Mem) (el:Nat) (ids:List Nat) (x1 x2 x3:Option PV),ze M b σ->yD M b W el ids e ls->∀(kn:St->Prop) (kr:PV->Mem->Prop) (kx:St->Prop),
    (∀M' el' ids',Frm b W M M'->ze M' b σ'->yD M' b W el' ids' e' ls'->zWd o kn kr kx M')->∃n,yR cN bN n ⟨[some (.inst 465 W),x1,x2,x3],M⟩ kn kr kx:=by
  induction h with
  | el hr hls =>
    rename_i σ p r ls
    intro M el ids x1 x2 x3 R O kn kr kx H
    refine ⟨1,?_⟩
    refine zBb O.elne fun h1 h2 h3 h4=>?_
    have t:zCV M (.ref el)=some true:=(O.tE (by simp;lia)).trans (congrArg some (decide_eq_true (Nat.succ_pos _)))
    have e1:((p::r).reverse.map Pl.enc).length-1=(r.reverse.map Pl.enc).length:=by simp
    have pop:∀(k:PV->Mem->Prop) (kx:Mem->Prop),zOj [.ref el] M k kx=k p.enc (M.set el (.list (r.reverse.map Pl.enc))):=fun k kx=>by
      rw [zTS (x:=p.enc) O.es_ (by simp;lia) (by rw [e1];simp),e1]
      congr 3
      simp -dsimp [List.eraseIdx_append_of_length_le]
    refine oKi O.o.elements (oKi t (oKi O.o.elements (oKi t (oKi O.o.elements (oKi (zRy O.es_) (Eq.mpr (pop (fun p M=>oK (fun r=>kr (.tup [r,p,.none]) M) .mk (qa M p (.int 0))) fun M=>kx ⟨[some (.inst 465 W),x1,x2,x3],M⟩) (oKi zVn ?_)))))))
    exact H _ el ids (zGK h2 h3) (R.frm hb (zGK (b:=b) (W:=W) h2 h3) (zOc (by lia)) (zOc (by lia))) (O.popEl (p:=p))
  | fin =>
    intro M el ids x1 x2 x3 R O kn kr kx H
    exact ⟨1,oKi O.o.elements (oKi (O.tE (Nat.zero_le _)) (oKi O.o.levels (oKi (O.tL (Nat.zero_le _)) (H M el ids (.refl M) R O _))))⟩
  | pop0 hls hc hn ih =>
    rename_i σ l ls o σ' e' l'
    intro M el ids x1 x2 x3 R O kn kr kx H
    obtain _ | ⟨i,ids⟩:=ids
    · exact O.lvs.elim
    have Fr1:Frm b W M (M.set (W+2) (.list (ids.reverse.map fun i=>.inst 416 i))):=zGK (by lia) (by lia)
    refine xE (ih _ el ids x1 (some (.inst 416 i)) x3 (R.frm hb Fr1 (by simp;lia) (by simp;lia)) O.popLv kn kr kx fun M' el' ids' F R' O'=>H M' el' ids' (Fr1.trans F) R' O') fun n hn=>?_
    exact ⟨n+1,Eq.mpr ((zKr O hls).trans ((zdm O.lvs.1 rfl hc).trans (zWf O.o rfl (O.popL (by lia))))) hn⟩
  | popT hls hc hc' hil ha ht hn ih =>
    rename_i σ l ls o σ' e' l'
    intro M el ids x1 x2 x3 R O kn kr kx H
    obtain _ | ⟨i,ids⟩:=ids
    · exact O.lvs.elim
    have Fr1:Frm b W M (M.set (W+2) (.list (ids.reverse.map fun i=>.inst 416 i))):=zGK (by lia) (by lia)
    refine xE (ih _ el ids x1 (some (.inst 416 i)) x3 (R.frm hb Fr1 (by simp;lia) (by simp;lia)) O.popLv kn kr kx fun M' el' ids' F R' O'=>H M' el' ids' (Fr1.trans F) R' O') fun n hn=>?_
    exact ⟨n+1,Eq.mpr ((zKr O hls).trans ((zSy O.lvs.1 rfl hc).trans ((zWe O.lvs.1 rfl hil ha).trans ((zcM O.lvs.1 rfl ht).trans (zWf O.o rfl (O.popL (by lia))))))) hn⟩
  | rnd hls hc hc' hil ha ht hx hxb hst hn ih =>
    rename_i σ l ls o σ' e' l' v st x
    intro M el ids x1 x2 x3 R O kn kr kx H
    obtain _ | ⟨i,ids⟩:=ids
    · exact O.lvs.elim
    have ig:=O.idne (.head _)
    have Fr1:=(zVl (M:=M) (b:=b) (W:=W) (σ:=σ) (p:=.num v.ad) (v:=x+st)).trans (zGK (o:=.sdict (yU ⟨l.its,0,l.tg,l.cnt-1⟩)) ig.2.1 ig.2.2)
    have O1:=(O.st (σ:=σ) (p:=.num v.ad) (v:=x+st) hb).setLv (l':=⟨l.its,0,l.tg,l.cnt-1⟩)
    have R1:=(R.st (.num v.ad) (x+st)).mono (M':=(stM M b σ (.num v.ad) (x+st)).set i (.sdict (yU ⟨l.its,0,l.tg,l.cnt-1⟩))) fun j Z hj=>zOc (by lia)
    refine xE (ih _ el (i::ids) x1 (some (.inst 416 i)) x3 R1 O1 kn kr kx fun M' el' ids' F R' O'=>H M' el' ids' (Fr1.trans F) R' O') fun n hn=>?_
    refine ⟨n+1,Eq.mpr ((zKr O hls).trans ((zSy O.lvs.1 rfl hc).trans ((zWe O.lvs.1 rfl hil ha).trans ((zZS O.lvs.1 O.o rfl rfl ht).trans (zZt R O.lvs.1 (by lia) ht hst (fun y hy=>by rw [hx] at hy;refine sE hy ?_;clear hy;rintro rfl;exact hxb) hc))))) ?_⟩
    rw [hx]
    exact hn
  | rndF hls hc hc' hil ha ht hx =>
    rename_i σ l ls v st
    intro M el ids x1 x2 x3 R O kn kr kx H
    obtain _ | ⟨i,ids⟩:=ids
    · exact O.lvs.elim
    exact ⟨1,Eq.mpr ((zKr O hls).trans ((zSy O.lvs.1 rfl hc).trans ((zWe O.lvs.1 rfl hil ha).trans ((zZS O.lvs.1 O.o rfl rfl ht).trans (zTq R O.lvs.1 ht hx))))) (H M el (i::ids) (.refl M) R O _)⟩
  | takeF hls hc hc' hil ha hE ht =>
    rename_i σ l ls it
    intro M el ids x1 x2 x3 R O kn kr kx H
    obtain _ | ⟨i,ids⟩:=ids
    · exact O.lvs.elim
    refine zBb (zHo hb O R hls hc hc' hil ha) fun Fr1 O1 R1 go=>?_
    have F:=H _ el (i::ids) Fr1 R1 O1
    refine ⟨1,Eq.mpr ((go 0 x1 x2 x3 kn kr kx).trans (zJk R1 O1.o hb O1.n (O1.short hls) hE)) ?_⟩
    rw [ht]
    exact F _
  | takeO hls hc hc' hil ha hE ht =>
    rename_i σ l ls it o
    intro M el ids x1 x2 x3 R O kn kr kx H
    obtain _ | ⟨i,ids⟩:=ids
    · exact O.lvs.elim
    refine zBb (zHo hb O R hls hc hc' hil ha) fun Fr1 O1 R1 go=>?_
    have F:=H _ el (i::ids) Fr1 R1 O1
    refine ⟨1,Eq.mpr ((go 0 x1 x2 x3 kn kr kx).trans (zJk R1 O1.o hb O1.n (O1.short hls) hE)) ?_⟩
    have ho:∃ps,o.enc=.tup ps/\zWd o kn kr kx (M.set i (.sdict (yU l.nx)))=kr o.enc (M.set i (.sdict (yU l.nx))):=by
      induction it using It.casesOn with
      | ex s=>induction s using Sm.casesOn<;>(rw [← TK.out.inj (show TK.out _=.out o from ht)];exact (iEA _ rfl rfl))
      | elA s=>refine zOJ ht fun v Z z=>?_;subst z;exact (iEA _ rfl rfl)
      | elB s t=>refine zOJ ht fun v Z z=>?_;subst z;exact (iEA _ rfl rfl)
      | arr a=>exact nomatch ht
      | ido its v f l st=>exact tkI ht (fun z=>nomatch z) fun Z z=>nomatch z
    rw [ht]
    refine xEA ho fun ps ho hp=>?_
    rw [hp,ho] at F
    show nxR ⟨[some (.inst 465 W),x1,some (.inst 416 i),some o.enc],_⟩ _ kr kx
    rw [ho]
    exact F
  | takeE hls hc hc' hil ha hE ht hn ih =>
    rename_i σ l ls it es o σ' e' l'
    intro M el ids x1 x2 x3 R O kn kr kx H
    obtain _ | ⟨i,ids⟩:=ids
    · exact O.lvs.elim
    refine zBb (zHo hb O R hls hc hc' hil ha) fun Fr1 O1 R1 go=>?_
    have hn1:=O1.n
    have nb:∀j,j<W\/j=W+4->((((M.set i (.sdict (yU l.nx))).new (.list (es.map Pl.enc))).set W (.sdict (zBh b W (M.set i (.sdict (yU l.nx))).n))).set (M.set i (.sdict (yU l.nx))).n (.list (es.map Pl.enc).reverse)).c j=(M.set i (.sdict (yU l.nx))).c j:=fun j hj=>by
      rw [qS,if_neg (by lia),qS,if_neg (by lia),zCu,if_neg (by lia)]
    have Fr2:Frm b W (M.set i (.sdict (yU l.nx))) ((((M.set i (.sdict (yU l.nx))).new (.list (es.map Pl.enc))).set W (.sdict (zBh b W (M.set i (.sdict (yU l.nx))).n))).set (M.set i (.sdict (yU l.nx))).n (.list (es.map Pl.enc).reverse)):=
      ⟨Nat.le_succ _,fun j hj Z Z=>nb j hj⟩
    refine xE (ih _ _ (i::ids) x1 (some (.inst 416 i)) (some .none) (R1.frm hb Fr2 (nb _ (.inl (by lia))) (nb _ (.inl (by lia)))) O1.newEls kn kr kx fun M' el' ids' F R' O'=>H M' el' ids' ((Fr1.trans Fr2).trans F) R' O') fun n hn=>?_
    refine ⟨n+1,Eq.mpr ((go n x1 x2 x3 kn kr kx).trans (zJk R1 O1.o hb O1.n (O1.short hls) hE)) ?_⟩
    rw [ht]
    exact hn
  | takeP hls hc hc' hil ha hE ht hn ih =>
    rename_i σ l ls it σ2z l2z o σ' e' l'
    intro M el ids x1 x2 x3 R O kn kr kx H
    obtain _ | ⟨i,ids⟩:=ids
    · exact O.lvs.elim
    refine zBb (zHo hb O R hls hc hc' hil ha) fun Fr1 O1 R1 go=>?_
    have hn1:=O1.n
    have tk1:=fun n=>(go n x1 x2 x3 kn kr kx).trans (zJk R1 O1.o hb O1.n (O1.short hls) hE)
    rw [ht] at tk1
    induction it using It.casesOn with
    | ex s=>induction s using Sm.casesOn<;>exact nomatch ht
    | elA s=>exact (zTA ht).elim
    | elB s t=>exact (zTA ht).elim
    | arr a=>exact nomatch ht
    | ido its v f q st =>
      have hσ:σ2z=σ.setN v.ad f:=tkI ht (fun z=>nomatch z) fun Z z=>(TK.push.inj z).1
      have O2:=O1.push (l:=l2z) (v:=v) (f:=f) (σ:=σ) hb (σ':=σ2z)
      have hnn:(stM (M.set i (.sdict (yU l.nx))) b σ (.num v.ad) f).n=(M.set i (.sdict (yU l.nx))).n:=zHl
      have cc:∀j,j<W\/j=W+4->(zBS (M.set i (.sdict (yU l.nx))) b W (i::ids) σ2z l2z v f σ).c j=(stM (M.set i (.sdict (yU l.nx))) b σ (.num v.ad) f).c j:=fun j hj=>by
        unfold zBS
        rw [qS,if_neg (by lia),zCu,if_neg (by rw [hnn];lia)]
      have Fr2:Frm b W (M.set i (.sdict (yU l.nx))) (zBS (M.set i (.sdict (yU l.nx))) b W (i::ids) σ2z l2z v f σ):=
        ⟨by show _<=(stM _ b σ (.num v.ad) f).n+1;rw [hnn];exact Nat.le_succ _,fun j hj h1 h2=>by rw [cc j hj,zFY h1 h2]⟩
      have R2:ze (zBS (M.set i (.sdict (yU l.nx))) b W (i::ids) σ2z l2z v f σ) b σ2z:=by
        rw [hσ]
        exact (R1.st (.num v.ad) f).mono fun j Z hj=>cc j (.inl (by lia))
      refine xE (ih _ _ _ x1 (some (.inst 416 i)) (some .none) R2 O2 kn kr kx fun M' el' ids' F R' O'=>H M' el' ids' ((Fr1.trans Fr2).trans F) R' O') fun n hn=>?_
      exact ⟨n+1,Eq.mpr (tk1 n) hn⟩
theorem zSw (hb:b+15<=W) {o:Out}{σ':Sto}{e':List Pl}{ls':List Lv}(h:Nx σ e ls o σ' e' ls') (R:ze M b σ) (O:yD M b W el ids e ls) {k:PV->Mem->Prop}{kx:Mem->Prop}
    (H:∀M' el' ids',Frm b W M M'->ze M' b σ'->yD M' b W el' ids' e' ls'->match o with | .fault=>kx M' | .fin=>k .none M' | o=>k o.enc M'):zk [.inst 465 W] M k kx:=by
  refine xE (zYn hb h M el ids none none none R O (fun st=>k .none st.mem) k (fun st=>kx st.mem) fun M' el' ids' F R' O'=>by
    have:=H M' el' ids' F R' O'
    induction o using Out.casesOn with
    | fault=>exact fun lo=>this
    | fin=>exact fun lo=>this
    | pl p=>exact this
    | ex s=>exact this) fun n hn=>?_
  show zk [.inst 465 W] M k kx
  rw [zk,zbm,zUS]
  exact ⟨n,hn⟩
end
def cH:qI:=(zHM [(yA .IsNot (zF 5) (zC .none)),(yA .Lt (zO qw (zD (zF 4) zM)) (zC (.int 40)))])
def bH:zX:=(zK (zFc [6,7,8] (zF 5))
  (zK (zw (yA .Is (zF 7) (zC .none)) (zK (qZ (yc (zF 4) qY (zD (zp (zD (zF 6) (zD (zC .none) (zD (zO (yB 4) (zD (zF 0) (zD (zF 8) zM))) zM)))) zM)))
  zJ) (zK (qZ (yc (zF 4) qY (zD (zp (zD (zF 6) (zD (zF 7) (zD (zC .none) zM)))) zM)))
  (zK (qZ (yc (zq [313] (zF 0) "memory") (yz 210 "store" zs) (zD (zF 7) (zD (dif (yA .Eq (zF 6) (zC (.int 5))) (zC (.str "AB")) (zZ (zF 2) (ye .Mod (ye .Sub (zO qw (zD (zF 4) zM)) (zC (.int 1))) (zO qw (zD (zF 2) zM))))) zM))))
  zJ)))
  (zK (zw (yA .Lt (zO qw (zD (zF 4) zM)) (zC (.int 40))) (zK (zx 5 (yc (zF 3) (yz 465 "next" zk) zM))
  zJ) zJ)
  zJ)))
def cV:qI:=(yA .IsNot (zF 4) (zC .none))
def bV:zX:=(zK (qZ (yc (zF 3) qY (zD (zF 4) zM)))
  (zK (zx 4 (yc (zF 2) (yz 465 "next" zk) zM))
  zJ))
def okD:DecidablePred Pl.ok:=fun p=>match p with
  | .num _=>Nat.decLt _ _
  | .txt _=>Nat.decLt _ _
theorem zcN (a:Ar):∀p∈yZ a,p.ok:=by
  induction a using Ar.casesOn<;>exact @of_decide_eq_true _ (@List.decidableBAll _ Pl.ok okD _) rfl
theorem Nx.ok {σ σ':Sto}{e e':List Pl}{ls ls':List Lv}{o:Out}(h:Nx σ e ls o σ' e' ls'):(∀p∈e,p.ok)->(∀p∈e',p.ok)/\∀p,o=.pl p->p.ok:=by
  have hv:∀v:Sv,(Pl.num v.ad).ok:=fun v=>show v.ad<12 by induction v using Sv.casesOn<;>decide
  have hA:∀x p,plA x=some p->p.ok:=fun x p h=>by
    unfold plA at h
    split at h
    · rename_i hx;refine sE h ?_;clear h;rintro rfl;exact Nat.lt_of_le_of_lt (Nat.add_le_add_left (Int.toNat_le_toNat hx.2) 3) (by decide)
    · exact zW h
  have hB:∀x y p,plB x y=some p->p.ok:=fun x y p h=>by
    unfold plB at h
    split at h
    · rename_i hx;refine sE h ?_;clear h;rintro rfl;exact Nat.lt_of_le_of_lt (Nat.add_le_add (Nat.add_le_add_left (Int.toNat_le_toNat (Int.sub_le_sub_right hx.2.1 2)) 6) (Nat.mul_le_mul_left 2 (Int.toNat_le_toNat (Int.add_le_add_right hx.2.2.2 1)))) (by decide)
    · exact zW h
  have hT:∀σ it,(∀o,tk σ it=.out o->∀p,o=.pl p->p.ok)/\∀es,tk σ it=.els es->∀p∈es,p.ok:=fun σ it=>by
    induction it using It.casesOn with
    | ex s =>
      induction s using Sm.casesOn with
      | var v=>exact ⟨fun o h p hp=>by rw [← TK.out.inj (show TK.out _=.out o from h)] at hp;rw [← Out.pl.inj hp];exact hv v,fun es h=>(nomatch (show TK.out _=.els es from h))⟩
      | _=>exact ⟨fun o h p hp=>by rw [← TK.out.inj (show TK.out _=.out o from h)] at hp;exact (nomatch hp),fun es h=>(nomatch (show TK.out _=.els es from h))⟩
    | elA s =>
      refine ⟨fun o h p hp=>zOJ h fun v hv z=>?_,fun es h=>(zWg h).elim⟩
      refine xEA (Option.bind_eq_some_iff.mp hv) fun x Z hx=>?_
      rw [← Out.pl.inj (z.trans hp)];exact hA _ _ hx
    | elB s t =>
      refine ⟨fun o h p hp=>zOJ h fun v hv z=>?_,fun es h=>(zWg h).elim⟩
      refine xEA (Option.bind_eq_some_iff.mp hv) fun x Z hx=>?_
      refine xEA (Option.bind_eq_some_iff.mp hx) fun y Z hy=>?_
      rw [← Out.pl.inj (z.trans hp)];exact hB _ _ _ hy
    | arr a =>
      refine ⟨fun o h=>(nomatch (show TK.els _=.out o from h)),fun es h p hp=>?_⟩
      rw [← TK.els.inj (show TK.els _=.els es from h)] at hp
      have:=zcN a
      exact this p hp
    | ido its v f l st =>
      exact ⟨fun o h=>tkI h (fun z=>(nomatch z)) fun Z z=>(nomatch z),fun o h=>tkI h (fun z=>(nomatch z)) fun Z z=>(nomatch z)⟩
  induction h with
  | el hr hls=>exact fun h=>⟨fun p hp=>h p (.tail _ hp),fun p hp=>by cases hp;exact h _ (.head _)⟩
  | fin=>exact fun h=>⟨h,fun p hp=>by cases hp⟩
  | pop0 _ _ _ ih=>exact ih
  | popT _ _ _ _ _ _ _ ih=>exact ih
  | rnd _ _ _ _ _ _ _ _ _ _ ih=>exact ih
  | rndF=>exact fun h=>⟨h,fun p hp=>by cases hp⟩
  | takeF=>exact fun h=>⟨h,fun p hp=>by cases hp⟩
  | takeO _ _ _ _ _ _ ht=>exact fun h=>⟨h,(hT _ _).1 _ ht⟩
  | takeE _ _ _ _ _ _ ht _ ih=>exact fun Z=>ih ((hT _ _).2 _ ht)
  | takeP _ _ _ _ _ _ _ _ ih=>exact ih
structure zEX (b W:Nat) (M M':Mem):Prop where
  n:M.n<=M'.n
  c:∀i,i<W->i≠b+1->i≠b+2->M'.c i=M.c i
theorem Frm.h {b W:Nat}{M M':Mem}(F:Frm b W M M'):zEX b W M M':=⟨F.n,fun i h=>F.c i (.inl h)⟩
theorem zEX.trans {b W:Nat}{M M1z M2z:Mem}(x:zEX b W M M1z) (y:zEX b W M1z M2z):zEX b W M M2z:=⟨Nat.le_trans x.n y.n,fun i h h1 h2=>(y.c i h h1 h2).trans (x.c i h h1 h2)⟩
noncomputable def qk (ns:List Int):PV:=.lst (ns.map .int)
section
variable {M M':Mem}{b W el:Nat}{σ:Sto}{ids:List Nat}{e:List Pl}{ls:List Lv}
theorem yD.selN (O:yD M b W el ids e ls):yz 465 "next" zk (.inst 465 W) M=some zk:=by
  exact zEi O.o.w rfl
theorem yD.setLog {o:MO}(O:yD M b W el ids e ls):yD (M.set (W+4) o) b W el ids e ls:=by
  refine zBb O.elne fun h1 h2 h3 h4=>?_
  refine ⟨⟨by rw [qS,if_neg (by lia)];exact O.o.w,by rw [qS,if_neg (by lia)];exact O.o.lv⟩,by rw [qS,if_neg h3];exact O.es_,O.eld,O.eln,O.lvs.mono (Nat.le_refl _) fun i hi=>?_,O.n⟩
  have:=O.idne hi
  rw [qS,if_neg (by lia)]
theorem ze.setLog {o:MO}(hb:b+15<=W) (R:ze M b σ):ze (M.set (W+4) o) b σ:=R.mono fun i Z h=>by rw [qS,if_neg (by lia)]
theorem zEe {o:MO}:zEX b W M (M.set (W+4) o):=⟨Nat.le_refl _,fun i h Z Z=>by rw [qS,if_neg (by lia)]⟩
theorem zSb {p:Pl}{v:Int}:zEX b W M (stM M b σ p v):=zVl.h
theorem zSx {ns:List Int}(h5:ns.length=5) (n:Nat):qa M (qk ns) (.int ((n % 5:Nat):Int))=some (.int (ns.getD (n % 5) 0)):=by
  have h:n % 5<ns.length:=by lia
  unfold qk
  rw [zYP]
  refine zDQ ?_ (by lia)
  rw [List.getElem?_map,List.getElem?_eq_getElem h,List.getD_eq_getElem?_getD,List.getElem?_eq_getElem h]
  rfl
theorem zdl (n:Nat):((n:Int)+1-1).fmod 5=((n % 5:Nat):Int):=by
  rw [Int.add_sub_cancel,Int.fmod_eq_emod_of_nonneg _ (by decide)];rfl
noncomputable def loH (b W:Nat) (items nums:PV) (x5 x6 x7 x8:Option PV):List (Option PV):=[some (yu b),some items,some nums,some (.inst 465 W),some (.ref (W+4)),x5,x6,x7,x8]
theorem zSl (hb:b+15<=W) {ns:List Int}(h5:ns.length=5) {items:PV}{p:Pl}(hp:p.ok) {lg:List Ev}(hl:lg.length<40) (R:ze M b σ) (O:yD M b W el ids e ls) (hL:M.c (W+4)=.list (lg.map Ev.enc)) {n:Nat}{x6 x7 x8:Option PV}{kn:St->Prop}{kr:PV->Mem->Prop}{kx:St->Prop} :
    yR cH bH (n+1) ⟨loH b W items (qk ns) (some (Out.pl p).enc) x6 x7 x8,M⟩ kn kr kx =
      (zK (zw (yA .Lt (zO qw (zD (zF 4) zM)) (zC (.int 40))) (zK (zx 5 (yc (zF 3) (yz 465 "next" zk) zM)) zJ) zJ) zJ) ⟨loH b W items (qk ns) (some (Out.pl p).enc) (some (.int p.kd)) (some p.enc) (some .none),stM (M.set (W+4) (.list ((lg++[Ev.pl p]).map Ev.enc))) b σ p (ns.getD (lg.length % 5) 0)⟩ (fun st'=>yR cH bH n st' kn kr kx) kr kx:=by
  have hlen:zFv M (.ref (W+4))=some lg.length:=(zCH hL).trans (congrArg some (List.length_map _))
  have enc1:lg.map Ev.enc++[.tup [.int p.kd,p.enc,.none]]=(lg++[Ev.pl p]).map Ev.enc:=by rw [List.map_append,List.map_cons,List.map_nil,Ev.enc_pl]
  have ap:∀k kx,zCq [.ref (W+4),.tup [.int p.kd,p.enc,.none]] M k kx=k .none (M.set (W+4) (.list ((lg++[Ev.pl p]).map Ev.enc))):=fun k kx=>by
    rw [zCi hL (by simp;lia),enc1]
  have hs1:=zId hL
  have R1:=R.setLog (o:=.list ((lg++[Ev.pl p]).map Ev.enc)) hb
  have hlen1:zFv (M.set (W+4) (.list ((lg++[Ev.pl p]).map Ev.enc))) (.ref (W+4))=some (lg.length+1):=(zCH (if_pos rfl)).trans (congrArg some (by simp))
  have st:=fun k kx=>zLE (v:=ns.getD (lg.length % 5) 0) (k:=k) (kx:=kx) R1 hp
  have hnl:∀N,zFv N (qk ns)=some 5:=fun N=>congrArg some ((List.length_map _).trans h5)
  have t1:=fun k kx=>zAn (k:=k) (kx:=kx) hlen (by lia)
  have t2:=fun k kx=>zAn (k:=k) (kx:=kx) hlen1 (by lia)
  have t3:=fun N k kx=>zAn (k:=k) (kx:=kx) (hnl N) (by lia)
  have g5:=zSx (M:=M.set (W+4) (.list ((lg++[Ev.pl p]).map Ev.enc))) h5 lg.length
  have m5:∀N,zER .Mod (.int (lg.length:Int)) (.int 5) N=some (.int ((lg.length:Int) % 5)):=fun N=>by
    rw [zSO,if_neg (by decide)]
    rw [Int.fmod_eq_emod_of_nonneg _ (by decide)]
  have g5':qa (M.set (W+4) (.list ((lg++[Ev.pl p]).map Ev.enc))) (qk ns) (.int ((lg.length:Int) % 5))=some (.int (ns.getD (lg.length % 5) 0)):=g5
  have c1:zDh .Is p.enc .none M=some false:=by induction p using Pl.casesOn<;>rfl
  have hl':((lg.length:Int)<40):=by lia
  rw [zLK]
  generalize yR cH bH n=Wn
  simp only [cH,bH,loH,Out.enc]
  generalize (zK (zw (yA .Lt (zO qw (zD (zF 4) zM)) (zC (.int 40))) (zK (zx 5 (yc (zF 3) (yz 465 "next" zk) zM)) zJ) zJ) zJ)=T
  have hl1:(((lg.length+1:Nat):Int))=(lg.length:Int)+1:=by lia
  simp only [hl1] at t2
  generalize ns.getD (lg.length % 5) 0=z at *
  generalize hN:M.set (W+4) (.list ((lg++[Ev.pl p]).map Ev.enc))=N at *
  induction p using Pl.casesOn with
  | num a =>
    simp only [Pl.kd,Pl.val] at ap st ⊢
    simp -dsimp [↓t1,↓t2,↓t3,hs1,↓ap,c1,hl',m5,g5',R1.memory,R1.mstore,↓st]
  | txt j =>
    simp only [Pl.kd,Pl.val] at ap st ⊢
    simp -dsimp [↓t1,↓t2,↓t3,hs1,↓ap,c1,hl',m5,g5',R1.memory,R1.mstore,↓st]
abbrev zFB:zX:=zx 5 (yc (zF 3) (yz 465 "next" zk) zM)
abbrev zNJ:zX:=zK (zw (yA .Lt (zO qw (zD (zF 4) zM)) (zC (.int 40))) (zK zFB zJ) zJ) zJ
theorem zJe {items nums:PV}{x5 x6 x7 x8:Option PV}{lg:List Ev}(hL:M.c (W+4)=.list (lg.map Ev.enc)) (hl:lg.length<=1000) {kn:St->Prop}{kr:PV->Mem->Prop}{kx:St->Prop} :
    zNJ ⟨loH b W items nums x5 x6 x7 x8,M⟩ kn kr kx=if lg.length<40 then zFB ⟨loH b W items nums x5 x6 x7 x8,M⟩ kn kr kx else kn ⟨loH b W items nums x5 x6 x7 x8,M⟩:=by
  have hlen:zFv M (.ref (W+4))=some lg.length:=(zCH hL).trans (congrArg some (List.length_map _))
  have t1:=fun k kx=>zAn (k:=k) (kx:=kx) hlen (by lia)
  unfold zNJ
  generalize zFB=T
  by_cases h:lg.length<40
  · have h':(lg.length:Int)<40:=by lia
    rw [if_pos h]
    simp -dsimp [loH,↓t1,h']
  · have h':¬(lg.length:Int)<40:=by lia
    rw [if_neg h]
    simp -dsimp [loH,↓t1,h']
theorem zNt (hb:b+15<=W) {items nums:PV}{s:Sm}(hs:okX σ s) {lg:List Ev}(hl:lg.length<40) (R:ze M b σ) (hL:M.c (W+4)=.list (lg.map Ev.enc)) {n:Nat}{x6 x7 x8:Option PV}{kn:St->Prop}{kr:PV->Mem->Prop}{kx:St->Prop} :
    yR cH bH (n+1) ⟨loH b W items nums (some (Out.ex s).enc) x6 x7 x8,M⟩ kn kr kx =
      onV (worth σ s) (kx ⟨loH b W items nums (some (Out.ex s).enc) (some (.int 0)) (some .none) (some s.enc),M⟩) fun x=>zNJ ⟨loH b W items nums (some (Out.ex s).enc) (some (.int 0)) (some .none) (some s.enc),M.set (W+4) (.list ((lg++[Ev.val (some x)]).map Ev.enc))⟩ (fun st'=>yR cH bH n st' kn kr kx) kr kx:=by
  have hlen:zFv M (.ref (W+4))=some lg.length:=(zCH hL).trans (congrArg some (List.length_map _))
  have hb':∀x,worth σ s=some x->x.natAbs<=1000:=fun x hx=>by have:=hs.2 x hx;simp -dsimp [okB] at this;lia
  have ap:∀x k kx,zCq [.ref (W+4),.tup [.int 0,.none,.int x]] M k kx=k .none (M.set (W+4) (.list ((lg++[Ev.val (some x)]).map Ev.enc))):=fun x k kx=>by
    rw [zCi hL (by simp;lia),List.map_append];rfl
  have hs1:=zId hL
  have t1:=fun k kx=>zAn (k:=k) (kx:=kx) hlen (by lia)
  have ev:=fun k kx=>zHV (n:=2) (k:=k) (kx:=kx) R hs.1 hb'
  have hl':((lg.length:Int)<40):=by lia
  rw [zLK]
  generalize yR cH bH n=Wn
  simp only [cH,bH,loH,Out.enc,zNJ,zFB]
  generalize (zK (zw (yA .Lt (zO qw (zD (zF 4) zM)) (zC (.int 40))) (zK (zx 5 (yc (zF 3) (yz 465 "next" zk) zM)) zJ) zJ) zJ)=T
  generalize hw:worth σ s=z4;induction z4 using Option.casesOn with
  | none =>
    simp only [hw] at ev
    simp -dsimp [↓t1,hs1,hl',↓ev]
  | some x =>
    simp only [hw] at ev
    generalize hN:(fun x=>M.set (W+4) (.list ((lg++[Ev.val (some x)]).map Ev.enc)))=N at *
    have ap':∀x k kx,zCq [.ref (W+4),.tup [.int 0,.none,.int x]] M k kx=k .none (N x):=fun x k kx=>by rw [ap,← hN]
    have hN':∀x,M.set (W+4) (.list ((lg++[Ev.val (some x)]).map Ev.enc))=N x:=fun x=>by rw [← hN]
    rw [zKt,hN']
    simp -dsimp [↓t1,hs1,hl',↓ev,↓ap']
theorem zKf {items nums:PV}{x5 x6 x7 x8:Option PV}{lg:List Ev}(hL:M.c (W+4)=.list (lg.map Ev.enc)) (hl:lg.length<=1000) (h:x5=some .none\/((∃xs,x5=some (.tup xs))/\40<=lg.length)) {n:Nat}{kn:St->Prop}{kr:PV->Mem->Prop}{kx:St->Prop} :
    yR cH bH (n+1) ⟨loH b W items nums x5 x6 x7 x8,M⟩ kn kr kx=kn ⟨loH b W items nums x5 x6 x7 x8,M⟩:=by
  have hlen:zFv M (.ref (W+4))=some lg.length:=(zCH hL).trans (congrArg some (List.length_map _))
  have t1:=fun k kx=>zAn (k:=k) (kx:=kx) hlen (by lia)
  rw [zLK]
  generalize yR cH bH n=Wn
  simp only [cH,bH,loH]
  rcases h with rfl | ⟨⟨xs,rfl⟩,h⟩
  · simp -dsimp
  · have h':¬(lg.length:Int)<40:=by lia
    simp -dsimp [↓t1,h']
theorem zFJ (hb:b+15<=W) {items nums:PV}{x5 x6 x7 x8:Option PV}{o:Out}{σ':Sto}{e':List Pl}{ls':List Lv}(h:Nx σ e ls o σ' e' ls') (R:ze M b σ) (O:yD M b W el ids e ls) {lg:List Ev}(hL:M.c (W+4)=.list (lg.map Ev.enc)) (hn:W+4≠b+1/\W+4≠b+2) {kn:St->Prop}{kr:PV->Mem->Prop}{kx:St->Prop}
    (H:∀M' el' ids',zEX b W M M'->ze M' b σ'->yD M' b W el' ids' e' ls'->M'.c (W+4)=.list (lg.map Ev.enc)->match o with | .fault=>kx ⟨loH b W items nums x5 x6 x7 x8,M'⟩ | .fin=>kn ⟨loH b W items nums (some .none) x6 x7 x8,M'⟩ | o=>kn ⟨loH b W items nums (some o.enc) x6 x7 x8,M'⟩) :
    zFB ⟨loH b W items nums x5 x6 x7 x8,M⟩ kn kr kx:=by
  simp -dsimp only [zFB,loH,zAk,zNL,qf,zAS,eo0,eo1,eo2,eo3,eo4,eo5,eo6,eo7,eo8,eo9,zPL,zPM,zPN,zPO,zAT,zCE,zAl,zCr,zDy,O.selN]
  refine zSw hb h R O fun M' el' ids' F R' O'=>?_
  have:=H M' el' ids' F.h R' O' ((F.c _ (.inr rfl) hn.1 hn.2).trans hL)
  induction o using Out.casesOn<;>exact this
theorem zYQ (hb:b+15<=W) {ns:List Int}(h5:ns.length=5) {items:PV}{ps:PS}{out:List Ev×Bool×Sto}(h:Ls (some ns) ps e ls out):∃n,∀(M:Mem) (el:Nat) (ids:List Nat) (x5 x6 x7 x8:Option PV),(∀p∈e,p.ok)->ze M b ps.σ->yD M b W el ids e ls->M.c (W+4)=.list (ps.log.map Ev.enc)->∀(kn:St->Prop) (kr:PV->Mem->Prop) (kx:St->Prop),
    (∀M' x5 x6 x7 x8,zEX b W M M'->ze M' b out.2.2->M'.c (W+4)=.list (out.1.map Ev.enc)->if out.2.1=true then kx ⟨loH b W items (qk ns) x5 x6 x7 x8,M'⟩ else kn ⟨loH b W items (qk ns) x5 x6 x7 x8,M'⟩) ->
    ∀K:St->Prop,(∀st,yR cH bH n st kn kr kx->K st)->zFB ⟨loH b W items (qk ns) x5 x6 x7 x8,M⟩ K kr kx:=by
  have hw4:W+4≠b+1/\W+4≠b+2:=by lia
  induction h with
  | fault n hlen =>
    refine ⟨0,fun M el ids x5 x6 x7 x8 he R O hL kn kr kx H K hK=>?_⟩
    exact zFJ hb n R O hL hw4 fun M' el' ids' F R' O' hL'=>H M' _ _ _ _ F R' hL'
  | fin n hlen =>
    refine ⟨1,fun M el ids x5 x6 x7 x8 he R O hL kn kr kx H K hK=>?_⟩
    refine zFJ hb n R O hL hw4 fun M' el' ids' F R' O' hL'=>hK _ ?_
    show yR cH bH (0+1) _ _ _ _
    rw [zKf hL' (by lia) (.inl rfl)]
    exact H M' _ _ _ _ F R' hL'
  | plS n hlen hrd h40 =>
    rename_i ps e l p σ' e' l'
    refine ⟨2,fun M el ids x5 x6 x7 x8 he R O hL kn kr kx H K hK=>?_⟩
    have hp:=(n.ok he).2 _ rfl
    refine zFJ hb n R O hL hw4 fun M' el' ids' F R' O' hL'=>hK _ ?_
    show yR cH bH (1+1) _ _ _ _
    rw [zSl hb h5 hp hlen R' O' hL']
    have hL2:(stM (M'.set (W+4) (.list ((ps.log++[Ev.pl p]).map Ev.enc))) b σ' p (ns.getD (ps.log.length % 5) 0)).c (W+4)=.list ((ps.log++[Ev.pl p]).map Ev.enc):=by
      rw [zFY hw4.1 hw4.2,qS,if_pos rfl]
    refine (zJe (b:=b) (items:=items) (nums:=qk ns) (x5:=some (Out.pl p).enc) (x6:=some (.int p.kd)) (x7:=some p.enc) (x8:=some .none) (kn:=fun st'=>yR cH bH 1 st' kn kr kx) (kr:=kr) (kx:=kx) hL2 (by simp;lia)).mpr ?_
    rw [if_neg (by simp;lia)]
    show yR cH bH (0+1) _ _ _ _
    refine (zKf (b:=b) (items:=items) (nums:=qk ns) (x5:=some (Out.pl p).enc) (x6:=some (.int p.kd)) (x7:=some p.enc) (x8:=some .none) hL2 (by simp;lia) (.inr ⟨⟨_,rfl⟩,by simp;lia⟩)).mpr ?_
    exact H _ _ _ _ _ (F.trans (zEe.trans zSb)) ((R'.setLog hb).st p _) hL2
  | plC n hlen hls ih =>
    rename_i ps e l p σ' e' l' o
    refine xE ih fun m hm=>?_
    refine ⟨m+1,fun M el ids x5 x6 x7 x8 he R O hL kn kr kx H K hK=>?_⟩
    refine xA (n.ok he) fun hok hp=>?_
    have hp:=hp _ rfl
    refine zFJ hb n R O hL hw4 fun M' el' ids' F R' O' hL'=>hK _ ?_
    show yR cH bH (m+1) _ _ _ _
    have hL2:(stM (M'.set (W+4) (.list ((ps.log++[Ev.pl p]).map Ev.enc))) b σ' p (ns.getD (ps.log.length % 5) 0)).c (W+4)=.list ((ps.log++[Ev.pl p]).map Ev.enc):=by
      rw [zFY hw4.1 hw4.2,qS,if_pos rfl]
    rw [zSl hb h5 hp (by lia) R' O' hL']
    refine (zJe (b:=b) (items:=items) (nums:=qk ns) (x5:=some (Out.pl p).enc) (x6:=some (.int p.kd)) (x7:=some p.enc) (x8:=some .none) (kn:=fun st'=>yR cH bH m st' kn kr kx) (kr:=kr) (kx:=kx) hL2 (by simp;lia)).mpr ?_
    rw [if_pos (by simp;lia)]
    exact hm _ el' ids' (some (Out.pl p).enc) (some (.int p.kd)) (some p.enc) (some .none) hok ((R'.setLog hb).st p _) (O'.setLog.st hb) hL2 kn kr kx (fun M'' y5 y6 y7 y8 F2 R2 hL3=>H M'' y5 y6 y7 y8 ((F.trans (zEe.trans zSb)).trans F2) R2 hL3) _ fun Z h=>h
  | exF n hx hlen hrd hw =>
    rename_i ps e l s σ' e' l'
    refine ⟨1,fun M el ids x5 x6 x7 x8 he R O hL kn kr kx H K hK=>?_⟩
    refine zFJ hb n R O hL hw4 fun M' el' ids' F R' O' hL'=>hK _ ?_
    show yR cH bH (0+1) _ _ _ _
    rw [zNt hb hx hlen R' hL',hw]
    exact H M' _ _ _ _ F R' hL'
  | exS n hx hlen hrd hw h40 =>
    rename_i ps e l s σ' e' l'
    refine xE (Option.isSome_iff_exists.mp hw) fun x hw=>?_
    refine ⟨2,fun M el ids x5 x6 x7 x8 he R O hL kn kr kx H K hK=>?_⟩
    refine zFJ hb n R O hL hw4 fun M' el' ids' F R' O' hL'=>hK _ ?_
    show yR cH bH (1+1) _ _ _ _
    rw [zNt hb hx hlen R' hL',hw,zKt]
    have hL2:(M'.set (W+4) (.list ((ps.log++[Ev.val (some x)]).map Ev.enc))).c (W+4)=.list ((ps.log++[Ev.val (some x)]).map Ev.enc):=by
      rw [qS,if_pos rfl]
    refine (zJe (b:=b) (items:=items) (nums:=qk ns) (x5:=some (Out.ex s).enc) (x6:=some (.int 0)) (x7:=some .none) (x8:=some s.enc) (kn:=fun st'=>yR cH bH 1 st' kn kr kx) (kr:=kr) (kx:=kx) hL2 (by simp;lia)).mpr ?_
    rw [if_neg (by simp;lia)]
    show yR cH bH (0+1) _ _ _ _
    refine (zKf (b:=b) (items:=items) (nums:=qk ns) (x5:=some (Out.ex s).enc) (x6:=some (.int 0)) (x7:=some .none) (x8:=some s.enc) hL2 (by simp;lia) (.inr ⟨⟨_,rfl⟩,by simp;lia⟩)).mpr ?_
    rw [hw] at H
    exact H _ _ _ _ _ (F.trans zEe) (R'.setLog hb) hL2
  | exC n hx hlen hw hls ih =>
    rename_i ps e l s σ' e' l' o
    refine xE (Option.isSome_iff_exists.mp (hw rfl)) fun x hw=>?_
    rw [hw] at ih
    refine xE ih fun m hm=>?_
    refine ⟨m+1,fun M el ids x5 x6 x7 x8 he R O hL kn kr kx H K hK=>?_⟩
    refine xA (n.ok he) fun hok Z=>?_
    refine zFJ hb n R O hL hw4 fun M' el' ids' F R' O' hL'=>hK _ ?_
    show yR cH bH (m+1) _ _ _ _
    rw [zNt hb hx (by lia) R' hL',hw,zKt]
    have hL2:(M'.set (W+4) (.list ((ps.log++[Ev.val (some x)]).map Ev.enc))).c (W+4)=.list ((ps.log++[Ev.val (some x)]).map Ev.enc):=by
      rw [qS,if_pos rfl]
    refine (zJe (b:=b) (items:=items) (nums:=qk ns) (x5:=some (Out.ex s).enc) (x6:=some (.int 0)) (x7:=some .none) (x8:=some s.enc) (kn:=fun st'=>yR cH bH m st' kn kr kx) (kr:=kr) (kx:=kx) hL2 (by simp;lia)).mpr ?_
    rw [if_pos (by simp;lia)]
    exact hm _ el' ids' (some (Out.ex s).enc) (some (.int 0)) (some .none) (some s.enc) hok (R'.setLog hb) O'.setLog hL2 kn kr kx (fun M'' y5 y6 y7 y8 F2 R2 hL3=>H M'' y5 y6 y7 y8 ((F.trans zEe).trans F2) R2 hL3) _ fun Z h=>h
end
section
variable {M M':Mem}{k:PV->Mem->Prop}{kx:Mem->Prop}{b W el:Nat}{σ:Sto}{ids:List Nat}{e:List Pl}{ls:List Lv}
theorem zSW {a b:Den}{lo:List (Option PV)}:zIl a b ⟨lo,M⟩ k kx=a ⟨lo,M⟩ (fun x M=>b ⟨lo,M⟩ (fun y M=>∃xs ys,zAe M x=some xs/\zAe M y=some ys/\xs.length+ys.length<=1000/\k (.lst (xs++ys)) M) kx) kx:=rfl
noncomputable def zDC (M:Mem) (b:Nat) (its:List It):Mem:=⟨M.n+4,fun i=>if i=M.n then .sdict (zBh b M.n (M.n+3)) else if i=M.n+1 then .sdict (yU ⟨its,0,none,1⟩) else if i=M.n+2 then .list [.inst 416 (M.n+1)] else if i=M.n+3 then .list [] else M.c i⟩
theorem zTW {its:List It}:zBr [yu b,.lst (ya its)] M k kx=k (.inst 465 M.n) (zDC M b its):=by
  simp -dsimp only [zBr,zNP,zDJ,zdZ,zda,zbn,zDE]
  have q1:∀a:Nat,¬a=a+1+1:=by lia
  have q2:∀a:Nat,¬a=a+1+1+1:=by lia
  simp -dsimp (decide:=true) [zEI,stk,↓zQB,q1,q2]
  have:∀{a c:Mem},a=c->(k (.inst 465 M.n) a↔k (.inst 465 M.n) c):=fun h=>by rw [h]
  refine this (Mem.ext' (by rfl) fun i=>?_)
  simp only [qS,zCu,zCv,zQV,zDC]
  by_cases h0:i=M.n
  · simp -dsimp [h0,zBh]
  · by_cases h1:i=M.n+1
    · simp -dsimp [h1,yU,zMQ,zXM]
    · by_cases h2:i=M.n+2
      · simp -dsimp [h2]
      · by_cases h3:i=M.n+3
        · simp -dsimp [h3]
        · simp -dsimp [h0,h1,h2,h3]
theorem zQn (hb:b+15<=M.n) {its:List It}(R:ze M b σ) {o:MO}:ze ((zDC M b its).new o) b σ/\yD ((zDC M b its).new o) b M.n (M.n+3) [M.n+1] [] [⟨its,0,none,1⟩]/\((zDC M b its).new o).c (M.n+4)=o/\zEX b M.n M ((zDC M b its).new o):=by
  have c:∀i,i<M.n->((zDC M b its).new o).c i=M.c i:=fun i h=>by
    show (if i=M.n+4 then _ else _)=_
    rw [if_neg (by lia)]
    show (if i=M.n then _ else if i=M.n+1 then _ else if i=M.n+2 then _ else if i=M.n+3 then _ else M.c i)=_
    rw [if_neg (by lia),if_neg (by lia),if_neg (by lia),if_neg (by lia)]
  refine (zEg (R.mono fun i Z h=>c i (by lia)) ⟨⟨?_,?_⟩,?_,.inl rfl,?_,(zSm ?_ (.inl rfl) ?_ (by simp) trivial),?_⟩ ?_ ⟨?_,fun i h Z Z=>c i h⟩)
  · simp -dsimp [zDC]
  · simp -dsimp [zDC]
  · simp -dsimp [zDC]
  · simp -dsimp [zDC]
  · simp -dsimp [zDC]
  · simp -dsimp [zDC]
  · simp -dsimp [zDC]
  · show (if M.n+4=M.n+4 then _ else _)=_;rw [if_pos rfl]
  · simp -dsimp [zDC];lia
noncomputable def zGE (f:Bool):List PV:=if f then [.str "fault"] else []
theorem zVy (hb:b+15<=M.n) {ns:List Int}(h5:ns.length=5) {its:List It}(R:ze M b σ) {out:List Ev×Bool×Sto}(hl:out.1.length<=900) (h:Ls (some ns) ⟨[],σ⟩ [] [⟨its,0,none,1⟩] out)
    (H:∀r M',zEX b M.n M M'->ze M' b out.2.2->zAe M' r=some (out.1.map Ev.enc++zGE out.2.1)->k r M'):zAR [yu b,.lst (ya its),qk ns] M k kx:=by
  refine xE (zYQ hb h5 (items:=.lst (ya its)) h) fun n hn=>?_
  have hbody:zFj=zK (zx 3 (zO zBr (zD (zF 0) (zD (zF 1) zM)))) (zK (zx 4 (zHR zM)) (zK (zVQ (zK zFB (zK (zGv cH bH) (zK (zj (zF 4)) zJ))) (zK (zj (zIl (zF 4) (zFb (zD (zC (.str "fault")) zM)))) zJ)) zJ)):=rfl
  refine zBb (zQn (its:=its) (o:=.list []) hb R) fun R1 O1 L1 F1=>?_
  show zAR [yu b,.lst (ya its),qk ns] M k kx
  rw [zAR,zbn,hbody]
  simp -dsimp only [yf,zAk,zAF,qQ,qf,zAS,zVV,eo0,eo1,eo2,eo3,eo4,eo5,eo6,eo7,eo8,eo9,zPL,zPM,zPN,zPO,zAT,zCE,zAl,zCr,zDy,↓zTW]
  let hnd:St->Prop:=fun st'=>(zK (zj (zIl (zF 4) (zFb (zD (zC (.str "fault")) zM)))) zJ) st' (fun st=>zJ st (fun st=>k .none st.mem) k (fun st=>kx st.mem)) k (fun Z=>False)
  show zFB ⟨loH b M.n (.lst (ya its)) (qk ns) none none none none,(zDC M b its).new (.list [])⟩ (fun st=>∃n,yR cH bH n st (fun st'=>(zK (zj (zF 4)) zJ) st' (fun st=>zJ st (fun st=>k .none st.mem) k (fun st=>kx st.mem)) k hnd) k hnd) k hnd
  refine hn _ _ _ none none none none (fun p hp=>nomatch hp) R1 O1 L1 _ _ _ ?_ _ fun st hst=>⟨n,hst⟩
  intro M' x5 x6 x7 x8 F R' hL
  have hlog:zAe M' (.ref (M.n+4))=some (out.1.map Ev.enc):=zDT hL
  by_cases hf:out.2.1=true
  · rw [if_pos hf]
    have hr:=H (.lst (out.1.map Ev.enc++zGE out.2.1)) M' (F1.trans F) R' rfl
    simp -dsimp only [hnd,loH,yf,zNM,zSW,qf,zVU,qQ,zCF,zAS,eo0,eo1,eo2,eo3,eo4,eo5,eo6,eo7,eo8,eo9,zPL,zPM,zPN,zPO,zAT,zCE,zAl,zCr,zDy]
    refine (yb _ _ hlog rfl (by simp;lia) ?_)
    simpa [hf,zGE] using hr
  · rw [if_neg hf]
    have hr:=H (.ref (M.n+4)) M' (F1.trans F) R' (by simp -dsimp [hf,zGE,hlog])
    simp only [loH]
    simp -dsimp
    exact hr
end
noncomputable def zDt:PV->PV
  | .tup (a::b::_)=>.tup [a,b]
  | p=>p
def zRc (p:PV):Prop:=∃a b c,p=.tup [a,b,c]
structure zHt (xs:List PV) (lg:List Ev):Prop where
  eq:xs.map zDt=lg.map fun e=>zDt e.enc
  tup:∀x∈xs,zRc x
theorem zHt.len {xs:List PV}{lg:List Ev}(h:zHt xs lg):xs.length=lg.length:=by
  have:=congrArg List.length h.eq
  simpa using this
theorem zHt.pl {xs:List PV}{lg:List Ev}(h:zHt xs lg) (p:Pl):zHt (xs++[(Out.pl p).enc]) (lg++[Ev.pl p]):=by
  refine ⟨by rw [List.map_append,List.map_append,h.eq];induction p using Pl.casesOn<;>rfl,fun x hx=>?_⟩
  rcases List.mem_append.mp hx with hx | hx
  · exact h.tup x hx
  · rw [List.mem_singleton] at hx;subst hx;exact (zYT _ _ _ rfl)
theorem zHt.ex {xs:List PV}{lg:List Ev}(h:zHt xs lg) (s:Sm) (w:Option Int):zHt (xs++[(Out.ex s).enc]) (lg++[Ev.val w]):=by
  refine ⟨by rw [List.map_append,List.map_append,h.eq];induction w using Option.casesOn<;>rfl,fun x hx=>?_⟩
  rcases List.mem_append.mp hx with hx | hx
  · exact h.tup x hx
  · rw [List.mem_singleton] at hx;subst hx;exact (zYT _ _ _ rfl)
section
variable {M M':Mem}{k:PV->Mem->Prop}{kx:Mem->Prop}{b W el:Nat}{σ:Sto}{ids:List Nat}{e:List Pl}{ls:List Lv}
noncomputable def loK (b W:Nat) (items:PV) (x4:Option PV):List (Option PV):=[some (yu b),some items,some (.inst 465 W),some (.ref (W+4)),x4]
abbrev zGt:zX:=zx 4 (yc (zF 2) (yz 465 "next" zk) zM)
theorem zHe (hb:b+15<=W) {items:PV}{x4:Option PV}{o:Out}{σ':Sto}{e':List Pl}{ls':List Lv}(h:Nx σ e ls o σ' e' ls') (R:ze M b σ) (O:yD M b W el ids e ls) {xs:List PV}(hL:M.c (W+4)=.list xs) {kn:St->Prop}{kr:PV->Mem->Prop}{kx:St->Prop}
    (H:∀M' el' ids',zEX b W M M'->ze M' b σ'->yD M' b W el' ids' e' ls'->M'.c (W+4)=.list xs->match o with | .fault=>kx ⟨loK b W items x4,M'⟩ | .fin=>kn ⟨loK b W items (some .none),M'⟩ | o=>kn ⟨loK b W items (some o.enc),M'⟩) :
    zGt ⟨loK b W items x4,M⟩ kn kr kx:=by
  simp -dsimp only [zGt,loK,zAk,zNL,qf,zAS,eo0,eo1,eo2,eo3,eo4,eo5,eo6,eo7,eo8,eo9,zPL,zPM,zPN,zPO,zAT,zCE,zAl,zCr,zDy,O.selN]
  refine zSw hb h R O fun M' el' ids' F R' O'=>?_
  have:=H M' el' ids' F.h R' O' ((F.c _ (.inr rfl) (by lia) (by lia)).trans hL)
  induction o using Out.casesOn<;>exact this
theorem zTX {items:PV}{xs ys:List PV}(hL:M.c (W+4)=.list xs) (hl:xs.length<=1000) {n:Nat}{kn:St->Prop}{kr:PV->Mem->Prop}{kx:St->Prop} :
    yR cV bV (n+1) ⟨loK b W items (some (.tup ys)),M⟩ kn kr kx=zGt ⟨loK b W items (some (.tup ys)),M.set (W+4) (.list (xs++[.tup ys]))⟩ (fun st'=>yR cV bV n st' kn kr kx) kr kx:=by
  have c2:∀N xs,zDh .IsNot (.tup xs) .none N=some true:=fun Z Z=>rfl
  rw [zLK]
  simp -dsimp only [cV,bV,loK,zGt,zVR,yf,zYC,zNL,qf,zCF,qQ,zAS,eo0,eo1,eo2,eo3,eo4,eo5,eo6,eo7,eo8,eo9,zPL,zPM,zPN,zPO,zAT,zCE,zAl,zCr,zDy,c2,zId hL,↓zCi hL hl,zNO]
theorem zau {items:PV}{n:Nat}{kn:St->Prop}{kr:PV->Mem->Prop}{kx:St->Prop}:yR cV bV (n+1) ⟨loK b W items (some .none),M⟩ kn kr kx=kn ⟨loK b W items (some .none),M⟩:=by
  have c2:∀N,zDh .IsNot .none .none N=some false:=fun Z=>rfl
  rw [zLK]
  simp -dsimp only [cV,loK,zVR,qf,zCF,eo0,eo1,eo2,eo3,eo4,eo5,eo6,eo7,eo8,eo9,zPL,zPM,zPN,zPO,zAT,zCE,zAl,zCr,zDy,c2]
theorem zci (hb:b+15<=W) {items:PV}{ps:PS}{out:List Ev×Bool×Sto}(h:Ls none ps e ls out):∃n,∀(M:Mem) (el:Nat) (ids:List Nat) (xs:List PV) (x4:Option PV),ze M b ps.σ->yD M b W el ids e ls->M.c (W+4)=.list xs->zHt xs ps.log->∀(kn:St->Prop) (kr:PV->Mem->Prop) (kx:St->Prop),
    (∀M' xs' x4',zEX b W M M'->M'.c (W+4)=.list xs'->zHt xs' out.1->if out.2.1=true then kx ⟨loK b W items x4',M'⟩ else kn ⟨loK b W items x4',M'⟩) ->
    ∀K:St->Prop,(∀st,yR cV bV n st kn kr kx->K st)->zGt ⟨loK b W items x4,M⟩ K kr kx:=by
  induction h with
  | fault n hlen =>
    refine ⟨0,fun M el ids xs x4 R O hL hT kn kr kx H K hK=>?_⟩
    exact zHe hb n R O hL fun M' el' ids' F R' O' hL'=>H M' _ _ F hL' hT
  | fin n hlen =>
    refine ⟨1,fun M el ids xs x4 R O hL hT kn kr kx H K hK=>?_⟩
    refine zHe hb n R O hL fun M' el' ids' F R' O' hL'=>hK _ ?_
    show yR cV bV (0+1) _ _ _ _
    rw [zau]
    exact H M' _ _ F hL' hT
  | plS n hlen hrd=>exact zV hrd
  | plC n hlen hls ih =>
    rename_i ps e l p σ' e' l' o
    refine xE ih fun m hm=>?_
    refine ⟨m+1,fun M el ids xs x4 R O hL hT kn kr kx H K hK=>?_⟩
    refine zHe hb n R O hL fun M' el' ids' F R' O' hL'=>hK _ ?_
    show yR cV bV (m+1) ⟨loK b W items (some (.tup _)),M'⟩ _ _ _
    have hl:=hT.len
    rw [zTX hL' (by lia)]
    exact hm _ el' ids' _ _ (R'.setLog hb) O'.setLog (by rw [qS,if_pos rfl];rfl) (hT.pl p) kn kr kx (fun M'' ys y4 F2 hL3 hT3=>H M'' ys y4 ((F.trans zEe).trans F2) hL3 hT3) _ fun Z h=>h
  | exF n hx hlen hrd=>exact zV hrd
  | exS n hx hlen hrd=>exact zV hrd
  | exC n hx hlen hw hls ih =>
    rename_i ps e l s σ' e' l' o
    refine xE ih fun m hm=>?_
    refine ⟨m+1,fun M el ids xs x4 R O hL hT kn kr kx H K hK=>?_⟩
    refine zHe hb n R O hL fun M' el' ids' F R' O' hL'=>hK _ ?_
    show yR cV bV (m+1) ⟨loK b W items (some (.tup _)),M'⟩ _ _ _
    have hl:=hT.len
    rw [zTX hL' (by lia)]
    exact hm _ el' ids' _ _ (R'.setLog hb) O'.setLog (by rw [qS,if_pos rfl];rfl) (hT.ex s _) kn kr kx (fun M'' ys y4 F2 hL3 hT3=>H M'' ys y4 ((F.trans zEe).trans F2) hL3 hT3) _ fun Z h=>h
theorem zUq (hb:b+15<=M.n) {its:List It}(R:ze M b σ) {out:List Ev×Bool×Sto}(h:Ls none ⟨[],σ⟩ [] [⟨its,0,none,1⟩] out)
    (H:∀M',zEX b M.n M M'->if out.2.1=true then kx M' else ∀r xs,zAe M' r=some xs->zHt xs out.1->k r M'):zDA [yu b,.lst (ya its)] M k kx:=by
  refine xE (zci hb (items:=.lst (ya its)) h) fun n hn=>?_
  have hbody:zJq=zK (zx 2 (zO zBr (zD (zF 0) (zD (zF 1) zM)))) (zK (zx 3 (zHR zM)) (zK zGt (zK (zGv cV bV) (zK (zj (zF 3)) zJ)))):=rfl
  refine zBb (zQn (its:=its) (o:=.list []) hb R) fun R1 O1 L1 F1=>?_
  show zDA [yu b,.lst (ya its)] M k kx
  rw [zDA,zYN,hbody]
  simp -dsimp only [yf,zAk,zAF,qQ,qf,zAS,zVV,eo0,eo1,eo2,eo3,eo4,eo5,eo6,eo7,eo8,eo9,zPL,zPM,zPN,zPO,zAT,zCE,zAl,zCr,zDy,↓zTW]
  show zGt ⟨loK b M.n (.lst (ya its)) none,(zDC M b its).new (.list [])⟩ (fun st=>∃n,yR cV bV n st (fun st'=>(zK (zj (zF 3)) zJ) st' (fun st=>k .none st.mem) k (fun st=>kx st.mem)) k (fun st=>kx st.mem)) k (fun st=>kx st.mem)
  refine hn _ _ _ [] none R1 O1 L1 ⟨rfl,fun x hx=>nomatch hx⟩ _ _ _ ?_ _ fun st hst=>⟨n,hst⟩
  intro M' xs x4 F hL hT
  have h2:=H M' (F1.trans F)
  by_cases hf:out.2.1=true
  · rw [if_pos hf] at h2 ⊢
    exact h2
  · rw [if_neg hf] at h2 ⊢
    have hr:=h2 (.ref (M.n+4)) xs (zDT hL) hT
    simp only [loK]
    simp -dsimp
    exact hr
end
inductive Vn | A | B | T | I | J | N deriving DecidableEq
noncomputable def Vn.nm:Vn->Str | .A => "A" | .B => "B" | .T => "T" | .I => "I" | .J => "J" | .N => "N"
noncomputable def Vn.idx:Vn->Nat | .A=>0 | .B=>1 | .T=>2 | .I=>3 | .J=>4 | .N=>5
noncomputable def Vn.seats:Vn->List (List Int)
  | .A=>[[0],[1],[2]]
  | .B=>[[2,-1],[3,-1],[2,0],[3,0],[2,1],[3,1]]
  | .T=>[[1],[2]]
  | _=>[[]]
noncomputable def Vn.pls:Vn->List Pl
  | .A=>yZ .A
  | .B=>yZ .B
  | .T=>yZ .T
  | .I=>[.num 0]
  | .J=>[.num 1]
  | .N=>[.num 2]
noncomputable def Ar.vn:Ar->Vn | .A=>.A | .B=>.B | .T=>.T
noncomputable def Sv.vn:Sv->Vn | .I=>.I | .J=>.J | .N=>.N
noncomputable def zDS (s:List Int):PV:=.tup (s.map .int)
noncomputable def yO (h:Nat):PV:=.dct ["A","B","T","I","J","N"] [.ref h,.ref (h+1),.ref (h+2),.ref (h+3),.ref (h+4),.ref (h+5)]
noncomputable def zBT (σ:Sto):Pl->Option PV
  | .num a=>(σ.num a).map .int
  | .txt j=>if σ.chr j then some (.str "AB") else none
structure HOk (kvs:List (List Int×PV)) (v:Vn) (σ:Sto) (n:Nat):Prop where
  at_:∀(i:Nat) s p,v.seats[i]?=some s->v.pls[i]?=some p->atk kvs s=zBT σ p
  ks:∀kv∈kvs,kv.1∈v.seats
  len:kvs.length<=n+1
  one:v.seats=[[]]->kvs.length<=1
def zy (M:Mem) (h:Nat) (σ:Sto) (n:Nat):Prop:=∀v:Vn,∃kvs,M.c (h+v.idx)=.tdict kvs/\HOk kvs v σ n
structure zAH (M:Mem) (h lg:Nat) (ps:PS):Prop where
  held:zy M h ps.σ ps.log.length
  log:M.c lg=.list (ps.log.map Ev.enc)
  out:lg<h\/h+6<=lg
structure LFr (h lg:Nat) (M M':Mem):Prop where
  n:M'.n=M.n
  c:∀i,i≠lg->(i<h\/h+6<=i)->M'.c i=M.c i
theorem LFr.refl {h lg:Nat}(M:Mem):LFr h lg M M:=⟨rfl,fun Z Z Z=>rfl⟩
theorem LFr.trans {h lg:Nat}{M M1z M2z:Mem}(x:LFr h lg M M1z) (y:LFr h lg M1z M2z):LFr h lg M M2z:=⟨y.n.trans x.n,fun i h1 h2=>(y.c i h1 h2).trans (x.c i h1 h2)⟩
noncomputable def zJU:Rd->PV
  | none=>.none
  | some ns=>qk ns
noncomputable def qp:Option Int->PV
  | none=>.none
  | some x=>.int x
section
variable {M M':Mem}{k:PV->Mem->Prop}{kx:Mem->Prop}{h lg:Nat}{σ:Sto}
theorem zEG (v:Vn):qa M (yO h) (.str v.nm)=some (.ref (h+v.idx)):=by
  induction v using Vn.casesOn<;>simp -dsimp (decide:=true) [yO,zHX,Vn.nm,Vn.idx,atk]
theorem zSn {v u:Vn}(e:v.idx=u.idx):v=u:=by induction v using Vn.casesOn<;>induction u using Vn.casesOn<;>simp -dsimp [Vn.idx] at e<;>rfl
theorem zPu (s:List Int):zDK (s.map PV.int)=some s:=by
  induction s with
  | nil=>rfl
  | cons a r ih=>exact congrArg (Option.map (a::·)) ih
theorem zXA {i:Nat}{kvs:List (List Int×PV)}(hc:M.c i=.tdict kvs):zFK (.ref i) M=some zSF:=by
  exact if_pos (show ((sdP M _).isSome||(tdP M _).isSome)=true by rw [zQj hc];exact Bool.or_true _)
theorem zYk {kvs:List (List Int×PV)}{a:List Int}{x:PV}{kv:List Int×PV}(hm:kv∈stk kvs a x):kv.1=a\/kv∈kvs:=by
  induction kvs with
  | nil=>simp -dsimp [stk] at hm;exact .inl (by rw [hm])
  | cons kv' r ih =>
    obtain ⟨c,y⟩:=kv'
    unfold stk at hm
    split at hm
    · rename_i e
      rcases List.mem_cons.mp hm with rfl | hm
      · exact .inl e
      · exact .inr (.tail _ hm)
    · rcases List.mem_cons.mp hm with rfl | hm
      · exact .inr (.head _)
      · rcases ih hm with h | h
        · exact .inl h
        · exact .inr (.tail _ h)
theorem zYe {kvs:List (List Int×PV)}{a:List Int}{x:PV}:(stk kvs a x).length<=kvs.length+1:=by
  induction kvs with
  | nil=>simp -dsimp [stk]
  | cons kv' r ih =>
    unfold stk
    split
    · simp -dsimp
    · simp;exact ih
theorem zMt {n:Nat}(H:zy M h σ n) (v:Sv) {m:Nat}:yG (m+1) [yO h,.tup [.str "var",.int 0,.str v.nm]] M k kx=k (qp (σ.num v.ad)) M:=by
  refine xEA (H v.vn) fun kvs hc O=>?_
  have hn:v.nm=v.vn.nm:=by induction v using Sv.casesOn<;>rfl
  have ha:atk kvs []=(σ.num v.ad).map .int:=by
    induction v using Sv.casesOn
    · exact O.at_ 0 [] (.num 0) rfl rfl
    · exact O.at_ 0 [] (.num 1) rfl rfl
    · exact O.at_ 0 [] (.num 2) rfl rfl
  have s1:((("var" : Str) == "const")=false):=by decide
  have hg:=zEG (M:=M) (h:=h) v.vn
  rw [← hn] at hg
  have hg2:=fun k kx=>zQl (M:=M) (k:=k) (kx:=kx) (o:=.ref (h+v.vn.idx)) (ys:=[]) (ks:=[]) (kvs:=kvs) rfl (zQj hc)
  simp only [yG,zCs,zZy,zNT,zZz,zYN,zVe,zYO,zPP,zSZ]
  simp -dsimp [s1,hg,zXA hc,↓hg2,ha]
  cases σ.num v.ad<;>simp -dsimp [qp]
theorem zIx {c:Int}{m:Nat}:yG (m+1) [yO h,.tup [.str "const",.int 0,.int c]] M k kx=k (.int c) M:=by
  simp only [yG,zCs,zZy,zNT,zZz,zYN,zVe,zYO,zPP,zSZ]
  simp -dsimp
theorem zQr {n:Nat}(H:zy M h σ n) (s:Sm) {m:Nat}:yG (m+2) [yO h,s.enc] M k kx=k (qp (worth σ s)) M:=by
  induction s using Sm.casesOn with
  | const c=>exact zIx
  | var v=>exact zMt H v
  | add v c =>
    have s1:((("add" : Str) == "const")=false):=by decide
    have s2:((("add" : Str) == "var")=false):=by decide
    rw [yG]
    simp only [zCs,zZy,zNT,zZz,zYN,zVe,zYO,zPP,zSZ,Sm.enc]
    simp -dsimp [s1,s2,zMt H v,zIx]
    have e:∀(a b:PV) (f:PV->PV->Prop),(∃p1z p2z,(a=p1z/\b=p2z)/\f p1z p2z)↔f a b:=fun a b f=>⟨fun ⟨_,_,⟨h1,h2⟩,h⟩=>by rw [h1,h2];exact h,fun h=>⟨a,b,⟨rfl,rfl⟩,h⟩⟩
    rw [e (qp (σ.num v.ad)) (.int c)]
    generalize hv:σ.num v.ad=z1;induction z1 using Option.casesOn with
    | none=>simp -dsimp [qp,worth,hv]
    | some x=>simp -dsimp [qp,worth,hv,zEC]
end
noncomputable def zRE:PV:=.dct ["A","B","T"] [zAq .A,zAq .B,zAq .T]
section
variable {M M':Mem}{k:PV->Mem->Prop}{kx:Mem->Prop}{h lg:Nat}{σ:Sto}{lo:List (Option PV)}
theorem zXw:zFP [] M k kx=k zRE M:=
  zZx.trans (propext (and_iff_right (show (["A","B","T"]:List Str).Nodup by decide)))
theorem zGQ:qb [] M k kx=k zAm M:=
  zZx.trans (propext (and_iff_right (show (zFz.map (·.1)).Nodup by decide)))
@[simp] theorem zeE:itP M (.rng (-1) 2 1)=some [.int (-1),.int 0,.int 1]:=y9
@[simp] theorem zeF:itP M (.rng 2 4 1)=some [.int 2,.int 3]:=y9
@[simp] theorem zeG:itP M (.rng 1 3 1)=some [.int 1,.int 2]:=y9
theorem zLB (a:Ar):qs [.str a.nm] M k kx=k (.lst (a.vn.seats.map zDS)) M:=by
  have hg:qa M zRE (.str a.nm)=some (zAq a):=by
    induction a using Ar.casesOn<;>simp -dsimp (decide:=true) [zRE,zHX,Ar.nm,atk]
  simp only [qs,zbl,zFk]
  simp -dsimp only [yf,zAk,zVW,zAF,zAS,↓zXw,qf,eo0,eo1,eo2,eo3,eo4,eo5,eo6,eo7,eo8,eo9,zPL,zPM,zPN,zPO,zAT,zCE,zAl,zCr,zDy,hg]
  induction a using Ar.casesOn<;>simp -dsimp [zAq,↓zAn zYf,zEC,Ar.vn,Vn.seats,zDS]
theorem zUo {o p:PV}{ys:List PyData}{dd:PyData}{i:Nat}(h1:yi M 9 o=some (.list ys)) (h2:yi M 8 p=some dd) (h3:ys.findIdx? (fun y=>PyData.eqv y dd)=some i) (h4:ys.length<=1000):zOi [o,p] M k kx=k (.int i) M:=
  propext ⟨fun h=>by
    refine zIz h fun Z Z Z Z Z e a b c Z hk=>?_
    simp at e;refine xA e ?_;clear e;intro z1 z2;subst z1;subst z2;rw [h1] at a;cases a;rw [h2] at b;refine sE b ?_;clear b;rintro rfl;rw [h3] at c;refine sE c ?_;clear c;rintro rfl;exact hk,fun hk=>(zPs _ _ _ _ _ rfl h1 h2 h3 h4 hk)⟩
theorem zKA (s:List Int) {n:Nat}:yi M (n+1) (zDS s)=some (.tuple (s.map .int)):=by
  have:∀l:List Int,zDc (yi M n) (l.map PV.int)=some (l.map PyData.int):=by
    intro l
    induction l with
    | nil=>rfl
    | cons a r ih=>exact zAo (by induction n<;>rfl) ih
  exact zDk (this s)
theorem zIH (l:List (List Int)) {n:Nat}:yi M (n+2) (.lst (l.map zDS))=some (.list (l.map fun s=>.tuple (s.map .int))):=by
  have:zDc (yi M (n+1)) (l.map zDS)=some (l.map fun s=>PyData.tuple (s.map .int)):=by
    induction l with
    | nil=>rfl
    | cons a r ih=>exact zAo (zKA a) ih
  exact zJz this
theorem zak {xs:List PV}:zGS (.lst xs) M=some zOi:=rfl
theorem zYw (a:Ar) (j:Fin 6):(a.vn.seats[j.1]?).all (fun s=>decide (s≠[])&&((a.vn.seats.map fun s=>PyData.tuple (s.map .int)).findIdx? (fun y=>PyData.eqv y (.tuple (s.map .int)))==some j.1))=true:=by
  revert j
  induction a using Ar.casesOn<;>decide +kernel
noncomputable def arB:Ar->Int
  | .A=>3
  | .B=>6
  | .T=>0
noncomputable def arU:Ar->Int
  | .T=>2
  | _=>0
noncomputable def zUx (i:Nat):Ar->Pl
  | .A=>.num (3+i)
  | .B=>.num (6+i)
  | .T=>.txt i
theorem zZb (a:Ar) (j:Fin 6):((yZ a)[j.1]?).all (fun p=>decide (p=zUx j.1 a))=true:=by
  revert j
  induction a using Ar.casesOn<;>decide
theorem zMw (a:Ar) {i:Nat}{s:List Int}{p:Pl}(h1:a.vn.seats[i]?=some s) (h2:(yZ a)[i]?=some p):yW [.str a.nm,zDS s] M k kx=k p.enc M:=by
  have hg:qa M zAm (.str a.nm)=some (.tup [.int a.kd,.int (arB a),.int (arU a),zAq a]):=by
    have e:zHJ a=.tup [.int a.kd,.int (arB a),.int (arU a),zAq a]:=by induction a using Ar.casesOn<;>rfl
    exact zHX.trans (Eq.trans (show _=some (zHJ a) from zSN a) (congrArg some e))
  have hi6:i<6:=Nat.lt_of_lt_of_le (List.getElem?_eq_some_iff.mp h2).1 (by induction a using Ar.casesOn<;>decide)
  refine xA (Bool.and_eq_true_iff.mp ((Option.all_eq_true _ _).mp (zYw a ⟨i,hi6⟩) s h1)) fun hs hidx=>?_
  have hs:=of_decide_eq_true hs
  have hp:p=zUx i a:=of_decide_eq_true ((Option.all_eq_true _ _).mp (zZb a ⟨i,hi6⟩) p h2)
  have hti:=fun k kx=>zUo (M:=M) (k:=k) (kx:=kx) (zIH a.vn.seats) (zKA s) (eq_of_beq hidx) (by induction a using Ar.casesOn<;>decide)
  have hne:eqP (zDS s) (.tup []) M=some false:=by
    rw [zRJ (zKA s) (y:=.tuple []) rfl]
    induction s using List.casesOn with
    | nil=>exact absurd rfl hs
    | cons x r=>simp -dsimp [PyData.eqv,PyData.eqvAll]
  have hb:i<18446744073709551616:=by lia
  simp only [yW,zVe,zCk]
  rw [hp]
  simp -dsimp [↓zGQ,hg,qEq,qNe,qIn,qNi,hne,↓zLB,zak,hti,zEC,hb]
  induction a using Ar.casesOn
  · simp -dsimp [arB,arU,zUx,Pl.enc,Ar.kd]
  · simp -dsimp [arB,arU,zUx,Pl.enc,Ar.kd]
  · simp -dsimp [arB,arU,zUx,Pl.enc,Ar.kd]
    rw [Int.mul_comm]
theorem zXi (v:Sv):yW [.str v.nm,.tup []] M k kx=k (Pl.num v.ad).enc M:=by
  have hg:qa M zAm (.str v.nm)=some (.tup [.int 0,.int v.ad,.int 0,.tup []]):=by
    have:=zZI v
    simpa [zHX,zAm,zFz] using this
  have hne:eqP (.tup []) (.tup []) M=some true:=rfl
  simp only [yW,zVe,zCk]
  simp -dsimp [↓zGQ,hg,qEq,qNe,qIn,qNi,hne,zEC,Pl.enc]
theorem zSM (v:Vn) {i:Nat}{s:List Int}{p:Pl}(h1:v.seats[i]?=some s) (h2:v.pls[i]?=some p):yW [.str v.nm,zDS s] M k kx=k p.enc M:=by
  have sc:∀u:Sv,[([]:List Int)][i]?=some s->[Pl.num u.ad][i]?=some p->yW [.str u.nm,zDS s] M k kx=k p.enc M:=fun u h1 h2=>by
    match i,h1,h2 with
    | 0,h1,h2=>refine sE h1 ?_;clear h1;rintro rfl;refine sE h2 ?_;clear h2;rintro rfl;exact zXi u
    | n+1,h1,h2=>simp at h1
  induction v using Vn.casesOn
  · exact zMw .A h1 h2
  · exact zMw .B h1 h2
  · exact zMw .T h1 h2
  · exact sc .I h1 h2
  · exact sc .J h1 h2
  · exact sc .N h1 h2
noncomputable def zdo:Pl->Vn×Nat
  | .num 0=>(.I,0)
  | .num 1=>(.J,0)
  | .num 2=>(.N,0)
  | .num 3=>(.A,0)
  | .num 4=>(.A,1)
  | .num 5=>(.A,2)
  | .num a=>(.B,a-6)
  | .txt j=>(.T,j)
theorem zIc {v:Vn}{i:Nat}{p:Pl}(h:v.pls[i]?=some p):zdo p=(v,i):=by
  induction v using Vn.casesOn
  · match i,h with
    | 0,h=>refine sE h ?_;clear h;rintro rfl;rfl
    | 1,h=>refine sE h ?_;clear h;rintro rfl;rfl
    | 2,h=>refine sE h ?_;clear h;rintro rfl;rfl
    | n+3,h=>simp -dsimp [Vn.pls,yZ] at h
  · match i,h with
    | 0,h=>refine sE h ?_;clear h;rintro rfl;rfl
    | 1,h=>refine sE h ?_;clear h;rintro rfl;rfl
    | 2,h=>refine sE h ?_;clear h;rintro rfl;rfl
    | 3,h=>refine sE h ?_;clear h;rintro rfl;rfl
    | 4,h=>refine sE h ?_;clear h;rintro rfl;rfl
    | 5,h=>refine sE h ?_;clear h;rintro rfl;rfl
    | n+6,h=>simp -dsimp [Vn.pls,yZ] at h
  · match i,h with
    | 0,h=>refine sE h ?_;clear h;rintro rfl;rfl
    | 1,h=>refine sE h ?_;clear h;rintro rfl;rfl
    | n+2,h=>simp -dsimp [Vn.pls,yZ] at h
  · match i,h with
    | 0,h=>refine sE h ?_;clear h;rintro rfl;rfl
    | n+1,h=>simp -dsimp [Vn.pls,yZ] at h
  · match i,h with
    | 0,h=>refine sE h ?_;clear h;rintro rfl;rfl
    | n+1,h=>simp -dsimp [Vn.pls,yZ] at h
  · match i,h with
    | 0,h=>refine sE h ?_;clear h;rintro rfl;rfl
    | n+1,h=>simp -dsimp [Vn.pls,yZ] at h
theorem zWz (v:Vn):v.seats.Nodup:=by induction v using Vn.casesOn<;>decide
theorem zMl {v:Vn}{i j:Nat}{s:List Int}(h1:v.seats[i]?=some s) (h2:v.seats[j]?=some s):i=j:=
  (List.getElem?_inj (List.getElem?_eq_some_iff.mp h1).1 (zWz v)).mp (h1.trans h2.symm)
theorem zGH {p q:Pl}{x:Int}:zBT (σ.put p x) q=if q=p then some (p.val x) else zBT σ q:=by
  induction p using Pl.casesOn with
  | num a =>
    induction q using Pl.casesOn with
    | num c=>by_cases e:c=a<;>simp -dsimp [zBT,Sto.put,Sto.setN,Pl.val,e]
    | txt j=>rw [if_neg (by intro q;cases q)];rfl
  | txt i =>
    induction q using Pl.casesOn with
    | num c=>simp -dsimp [zBT,Sto.put]
    | txt j=>by_cases e:j=i<;>simp -dsimp [zBT,Sto.put,Pl.val,e]
theorem HOk.put {v:Vn}{kvs:List (List Int×PV)}{n i:Nat}{s:List Int}{p:Pl}{x:Int}(O:HOk kvs v σ n) (h1:v.seats[i]?=some s) (h2:v.pls[i]?=some p):HOk (stk kvs s (p.val x)) v (σ.put p x) (n+1):=by
  refine ⟨fun j t q g1 g2=>?_,fun kv hm=>?_,?_,fun hv=>?_⟩
  · rw [zXm,zGH]
    by_cases e:j=i
    · subst e
      rw [h1] at g1;refine sE g1 ?_;clear g1;rintro rfl
      rw [h2] at g2;refine sE g2 ?_;clear g2;rintro rfl
      rw [if_pos rfl,if_pos rfl]
    · have e1:s≠t:=fun q=>e (zMl (q ▸ g1) h1)
      have e2:q≠p:=fun z=>by
        have a:=zIc g2
        rw [z,zIc h2] at a
        exact e (Prod.mk.inj a).2.symm
      rw [if_neg e1,if_neg e2]
      exact O.at_ j t q g1 g2
  · rcases zYk hm with e | hm
    · rw [e];exact List.mem_of_getElem? h1
    · exact O.ks kv hm
  · exact Nat.le_trans zYe (Nat.succ_le_succ O.len)
  · have hs:s=[]:=by
      have:=List.mem_of_getElem? h1
      rw [hv] at this
      simpa using this
    have ho:=O.one hv
    match kvs,O,ho with
    | [],_,_=>simp -dsimp [stk]
    | [(c,y)],O,_ =>
      have:c=[]:=by
        have:=O.ks _ (.head _)
        rw [hv] at this
        simpa using this
      simp -dsimp [stk,this,hs]
theorem HOk.other {v u:Vn}{kvs:List (List Int×PV)}{n i:Nat}{p:Pl}{x:Int}(O:HOk kvs u σ n) (h2:v.pls[i]?=some p) (ne:u≠v):HOk kvs u (σ.put p x) (n+1):=by
  refine ⟨fun j t q g1 g2=>?_,O.ks,Nat.le_succ_of_le O.len,O.one⟩
  have e2:q≠p:=fun z=>by
    have a:=zIc g2
    rw [z,zIc h2] at a
    exact ne (Prod.mk.inj a).1.symm
  rw [zGH,if_neg e2]
  exact O.at_ j t q g1 g2
theorem zy.put {v:Vn}{n i:Nat}{s:List Int}{p:Pl}{x:Int}{kvs:List (List Int×PV)}(H:zy M h σ n) (hk:M.c (h+v.idx)=.tdict kvs) (h1:v.seats[i]?=some s) (h2:v.pls[i]?=some p) (hc:∀j,h<=j->j<h+6->M'.c j=if j=h+v.idx then .tdict (stk kvs s (p.val x)) else M.c j):zy M' h (σ.put p x) (n+1):=by
  intro u
  have hu:u.idx<6:=by induction u using Vn.casesOn<;>decide
  refine xEA (H u) fun kvs' hk' O=>?_
  rw [hc _ (by lia) (by lia)]
  by_cases e:u=v
  · subst e
    rw [hk] at hk';cases hk'
    rw [if_pos rfl]
    exact (iEA _ rfl (O.put h1 h2))
  · rw [if_neg (fun q=>e (zSn (by lia)))]
    exact (iEA _ hk' (O.other h2 e))
theorem zy.keep {n n':Nat}(H:zy M h σ n) (hn:n<=n') (hc:∀j,h<=j->j<h+6->M'.c j=M.c j):zy M' h σ n':=by
  intro u
  have hu:u.idx<6:=by induction u using Vn.casesOn<;>decide
  refine xEA (H u) fun kvs' hk' O=>?_
  exact (iEA kvs' ((hc _ (by lia) (by lia)).trans hk') ⟨O.at_,O.ks,by have:=O.len;lia,O.one⟩)
theorem zRg {lg:Nat}{l:List Ev}(hL:M.c lg=.list (l.map Ev.enc)):zFv M (.ref lg)=some l.length:=(zCH hL).trans (congrArg some (List.length_map _))
theorem zZQ {v:Vn}{i:Nat}{p:Pl}(h:v.pls[i]?=some p):p.kd=if v=.T then 5 else 0:=by
  have:∀v:Vn,∀p∈v.pls,p.kd=if v=.T then 5 else 0:=fun v=>by induction v using Vn.casesOn<;>decide
  exact this v p (List.mem_of_getElem? h)
theorem zas {v:Vn}{i:Nat}{p:Pl}(h:v.pls[i]?=some p) (x:Int):p.val x=if v=.T then .str "AB" else .int x:=by
  have:=zZQ h
  induction p using Pl.casesOn with
  | num a=>simp -dsimp [Pl.kd] at this;rw [if_neg this];rfl
  | txt j=>simp -dsimp [Pl.kd] at this;rw [if_pos this];rfl
@[irreducible] def tlK:Den:=dif (qH .Eq (zF 3) (zC (.str "T"))) (zC (.int 5)) (zC (.int 0))
@[irreducible] def zZD:Den:=dif (qH .Eq (zF 3) (zC (.str "T"))) (zC (.str "AB")) (zF 5)
def tlE:zX:=zK (zj (zPC .Lt (zO qw (zD (zF 1) zM)) (zC (.int 40)))) zJ
def tlR:zX:=zK (zw (yA .IsNot (zF 2) (zC .none)) (zK (zx 5 (zZ (zF 2) (ye .Mod (ye .Sub (zO qw (zD (zF 1) zM)) (zC (.int 1))) (zO qw (zD (zF 2) zM)))))
  (zK (zCY (zZ (zF 0) (zF 3)) (zF 4) zZD)
  zJ)) zJ) tlE
theorem zUn:zGp=zK (qZ (yc (zF 1) qY (zD (zp (zD tlK (zD (zO yW (zD (zF 3) (zD (zF 4) zM))) (zD (zC .none) zM)))) zM))) tlR:=by
  unfold tlR tlK zZD;rfl
theorem zar {v:Vn}{t:Bool}(h3:qD lo 3=some (.str v.nm)) (e:eqP (.str v.nm) (.str "T") M=some t):tlK ⟨lo,M⟩ k kx=k (.int (if t=true then 5 else 0)) M:=by
  unfold tlK
  refine (oKo h3).trans ((oKo (qEq.trans e)).trans ?_)
  induction t using Bool.casesOn<;>rfl
theorem zZE {v:Vn}{t:Bool}{z:Int}(h3:qD lo 3=some (.str v.nm)) (h5:qD lo 5=some (.int z)) (e:eqP (.str v.nm) (.str "T") M=some t):zZD ⟨lo,M⟩ k kx=k (if t=true then .str "AB" else .int z) M:=by
  unfold zZD
  refine (oKo h3).trans ((oKo (qEq.trans e)).trans ?_)
  induction t using Bool.casesOn with
  | true=>rfl
  | false=>exact oKo h5
theorem zXU {n:Nat}(h1:qD lo 1=some (.ref lg)) (hn:zFv M (.ref lg)=some n) (hl:n<=1000000) {kn:St->Prop}{kxs:St->Prop}(F:k (.bool (decide (n<40))) M):tlE ⟨lo,M⟩ kn k kxs:=by
  refine oKi h1 (oKi hn (aKi (Nat.ble_eq_true_of_le hl) ?_))
  have e:dec ((n:Int)<40)=decide (n<40):=by
    by_cases q:n<40
    · exact (zPE (Int.ofNat_lt.mpr q)).trans (decide_eq_true q).symm
    · exact (zSS fun h=>q (Int.ofNat_lt.mp h)).trans (decide_eq_false q).symm
  rw [← e] at F
  exact F
theorem zOh {rd:Rd}{ps:PS}{v:Vn}{i:Nat}{s:List Int}{p:Pl}(hr:∀ns,rd=some ns->ns.length=5) (hl:ps.log.length<40) (L:zAH M h lg ps) (h1:v.seats[i]?=some s) (h2:v.pls[i]?=some p)
    (H:∀M',zAH M' h lg (qj rd ps p)->LFr h lg M M'->k (.bool (decide (ps.log.length+1<40))) M'):zAb [yO h,.ref lg,zJU rd,.str v.nm,zDS s] M k kx:=by
  have hout:=L.out
  have hv6:v.idx<6:=by induction v using Vn.casesOn<;>decide
  refine xEA (L.held v) fun kvs hk O=>?_
  have hokn:PyData.strOk v.nm=true:=by induction v using Vn.casesOn<;>simp -dsimp [Vn.nm]
  have hT:(v.nm==("T" : Str))=decide (v=.T):=by induction v using Vn.casesOn<;>decide
  obtain ⟨t,eqT,hkd,hval⟩:∃t:Bool,(∀N,eqP (.str v.nm) (.str "T") N=some t)/\(p.kd=if t=true then 5 else 0)/\∀x,p.val x=if t=true then .str "AB" else .int x:=
    (q6 (decide (v=.T)) (fun N=>by rw [zSY hokn zWh,hT]) (by rw [zZQ h2];simp) (fun x=>by rw [zas h2];simp))
  have enc1:ps.log.map Ev.enc++[.tup [.int p.kd,p.enc,.none]]=(ps.log++[Ev.pl p]).map Ev.enc:=by rw [List.map_append,List.map_cons,List.map_nil,Ev.enc_pl]
  have ap:∀k kx,zCq [.ref lg,.tup [.int p.kd,p.enc,.none]] M k kx=k .none (M.set lg (.list ((ps.log++[Ev.pl p]).map Ev.enc))):=fun k kx=>by
    rw [zCi L.log (by simp;lia),enc1]
  have hc1:(M.set lg (.list ((ps.log++[Ev.pl p]).map Ev.enc))).c lg=.list ((ps.log++[Ev.pl p]).map Ev.enc):=if_pos rfl
  have fr1:LFr h lg M (M.set lg (.list ((ps.log++[Ev.pl p]).map Ev.enc))):=⟨rfl,fun i hi Z=>if_neg hi⟩
  have hel1:∀j,h<=j->j<h+6->(M.set lg (.list ((ps.log++[Ev.pl p]).map Ev.enc))).c j=M.c j:=fun j Z Z=>if_neg (by lia)
  refine Eq.mpr zbp ?_
  rw [zUn]
  refine oKi (zId L.log) (Eq.mpr (zar rfl (eqT M)) (Eq.mpr (zSM v h1 h2) ?_))
  rw [← hkd]
  refine Eq.mpr (ap (fun Z M=>tlR ⟨[some (yO h),some (.ref lg),some (zJU rd),some (.str v.nm),some (zDS s),none],M⟩ (fun st=>k .none st.mem) k fun st=>kx st.mem) kx) ?_
  generalize M.set lg (.list ((ps.log++[Ev.pl p]).map Ev.enc))=M1 at *
  have hlen1:zFv M1 (.ref lg)=some (ps.log.length+1):=(zRg hc1).trans (by simp)
  have b1:Nat.ble (ps.log.length+1) 1000000=true:=Nat.ble_eq_true_of_le (by lia)
  induction rd using Option.casesOn with
  | none=>exact zXU (kn:=fun st=>k .none st.mem) (kxs:=fun st=>kx st.mem) rfl hlen1 (Nat.le_of_ble_eq_true b1) (H M1 ⟨L.held.keep (by simp -dsimp [qj]) hel1,hc1,hout⟩ fr1)
  | some ns =>
    have h5:=hr ns rfl
    have hk1:M1.c (h+v.idx)=.tdict kvs:=by rw [hel1 _ (by lia) (by lia),hk]
    have hkl:=O.len
    have hnl:(ns.map PV.int).length=5:=(List.length_map _).trans h5
    have m5:zER .Mod (.int (((ps.log.length+1:Nat):Int)-1)) (.int ((ns.map PV.int).length:Nat)) M1=some (.int ((ps.log.length % 5:Nat):Int)):=by
      rw [hnl,zSO,if_neg (by decide)]
      exact congrArg (fun x=>some (PV.int x)) (zdl ps.log.length)
    have hM2:(M1.set (h+v.idx) (.tdict (stk kvs s (p.val (ns.getD (ps.log.length % 5) 0))))).c lg=.list ((ps.log++[Ev.pl p]).map Ev.enc):=(if_neg (by lia)).trans hc1
    have F:=H (M1.set (h+v.idx) (.tdict (stk kvs s (p.val (ns.getD (ps.log.length % 5) 0))))) ⟨by
      have:=zy.put (M':=M1.set (h+v.idx) (.tdict (stk kvs s (p.val (ns.getD (ps.log.length % 5) 0))))) L.held hk h1 h2 (fun j g1 g2=>by
        rw [qS,hel1 j g1 g2])
      simpa [qj] using this,hM2,hout⟩ (fr1.trans ⟨rfl,fun j Z hj=>if_neg (by lia)⟩)
    refine oKi hlen1 (aKi b1 (oKi zOy (aKi (b:=Nat.ble (ns.map PV.int).length 1000000) (by rw [hnl];rfl) (oKi m5 (oKi (zSx h5 _) (Eq.mpr (zZE rfl rfl (eqT M1)) ?_))))))
    rw [← hval]
    exact oKi (zEG v) (oKi (zOd hk1 (zPu s) (by lia)) (zXU (kn:=fun st=>k .none st.mem) (kxs:=fun st=>kx st.mem) rfl ((zRg hM2).trans (by simp)) (Nat.le_of_ble_eq_true b1) F))
end
def bS:zX:=(zK (zw (zHN (zCt (zO zAb (zD (zF 0) (zD (zF 1) (zD (zF 2) (zD (zZ (zF 4) (zC (.int 2))) (zD (zF 5) zM)))))))) (zK (zj (zC (.bool false)))
  zJ) zJ)
  zJ)
def zWP (x:Den):zX:=zw (zHN (zCt (zO zAb (zD (zF 0) (zD (zF 1) (zD (zF 2) (zD (zZ (zF 4) (zC (.int 2))) (zD x zM)))))))) (zK (zj (zC (.bool false)))
  zJ) zJ
def zcG:zX:=zw (bor [(qH .NotIn (zF 5) (zO qs (zD (zZ (zF 4) (zC (.int 2))) zM))),(zHN (zCt (zO zAb (zD (zF 0) (zD (zF 1) (zD (zF 2) (zD (zZ (zF 4) (zC (.int 2))) (zD (zF 5) zM))))))))]) (zK (zj (zC (.bool false)))
  zJ) zJ
def lEl:zX:=zK (zx 5 (zO zSG (zD (qe false 1 [0] (zZ (zF 4) (zC (.int 3))) qP (qy (zO (yG 4) (zD (zF 1) (zD (zF 0) zM))))) zM)))
  (zK zcG
  zJ)
def zWQ:zX:=zw (bor [(zHM [(yA .Is (zZ (zZ (zF 1) (zII (zC (.int 1)))) (zC (.int 2))) (zC .none)),(yA .IsNot (zF 2) (zC .none))]),(yA .GtE (zO qw (zD (zF 1) zM)) (zC (.int 40)))]) (zK (zj (zC (.bool false)))
  zJ) zJ
def zcJ:zX:=zK (qZ (yc (zF 1) qY (zD (zp (zD (zC (.int 0)) (zD (zC .none) (zD (zO (yG 4) (zD (zF 0) (zD (zF 4) zM))) zM)))) zM)))
  (zK zWQ
  zJ)
def zcF:zX:=zK (zFa (yv 5) (zO qs (zD (zZ (zF 4) (zC (.int 2))) zM)) (zK (zWP (zF 5))
  zJ))
  zJ
def zcH (t_law_rounds:zh):zX:=zK (zw (zHN (zCt (zO t_law_rounds (zD (zF 0) (zD (zF 1) (zD (zF 2) (zD (zF 4) zM))))))) (zK (zj (zC (.bool false)))
  zJ) zJ)
  zJ
def lIs (w:Str) (a b:zX):zX:=zw (qH .Eq (zZ (zF 4) (zC (.int 0))) (zC (.str w))) a b
def bL (t_law_rounds:zh):zX:=(zK (lIs "ido" (zcH t_law_rounds) (zK (lIs "array" zcF (zK (lIs "elem" lEl (zK (lIs "var" (zK (zWP (zp zM))
  zJ) zcJ)
  zJ))
  zJ))
  zJ))
  zJ)
theorem zYb {M:Mem}{lo:List (Option PV)}{w:Str}{en:PV}{a b:zX}{kn:St->Prop}{kr:PV->Mem->Prop}{kx:St->Prop}(h:qD lo 4=some en) {u:Str}(g:qa M en (.int 0)=some (.str u)) (q:yw .Eq (.str u) (.str w) M=some true):lIs w a b ⟨lo,M⟩ kn kr kx=a ⟨lo,M⟩ kn kr kx:=
  (oKo h).trans ((oKo g).trans (oKo q))
theorem zNz {M:Mem}{lo:List (Option PV)}{w:Str}{en:PV}{a b:zX}{kn:St->Prop}{kr:PV->Mem->Prop}{kx:St->Prop}(h:qD lo 4=some en) {u:Str}(g:qa M en (.int 0)=some (.str u)) (q:yw .Eq (.str u) (.str w) M=some false):lIs w a (zK b zJ) ⟨lo,M⟩ kn kr kx=b ⟨lo,M⟩ kn kr kx:=
  (oKo h).trans ((oKo g).trans (oKo q))
section
variable {M:Mem}{lo:List (Option PV)}{en:PV}{tR:zh}{kn:St->Prop}{kr:PV->Mem->Prop}{kx:St->Prop}
theorem zZd (h:qD lo 4=some en) (g:qa M en (.int 0)=some (.str "ido")):bL tR ⟨lo,M⟩ kn kr kx=zcH tR ⟨lo,M⟩ kn kr kx:=zYb h g zMi
theorem zZc (h:qD lo 4=some en) (g:qa M en (.int 0)=some (.str "array")):bL tR ⟨lo,M⟩ kn kr kx=zcF ⟨lo,M⟩ kn kr kx:=(zNz h g zIs).trans (zYb h g zGi)
theorem zbQ (h:qD lo 4=some en) (g:qa M en (.int 0)=some (.str "elem")):bL tR ⟨lo,M⟩ kn kr kx=lEl ⟨lo,M⟩ kn kr kx:=(zNz h g zKu).trans ((zNz h g zHg).trans (zYb h g zQL))
theorem zZf (h:qD lo 4=some en) (g:qa M en (.int 0)=some (.str "var")):bL tR ⟨lo,M⟩ kn kr kx=zWP (zp zM) ⟨lo,M⟩ kn kr kx:=(zNz h g zMj).trans ((zNz h g zIu).trans ((zNz h g zRm).trans (zYb h g zUY)))
theorem zZe (h:qD lo 4=some en) {u:Str}(g:qa M en (.int 0)=some (.str u)) (q1:yw .Eq (.str u) (.str "ido") M=some false) (q2:yw .Eq (.str u) (.str "array") M=some false) (q3:yw .Eq (.str u) (.str "elem") M=some false) (q4:yw .Eq (.str u) (.str "var") M=some false):bL tR ⟨lo,M⟩ kn kr kx=zcJ ⟨lo,M⟩ kn kr kx:=
  (zNz h g q1).trans ((zNz h g q2).trans ((zNz h g q3).trans ((oKo h).trans ((oKo g).trans (oKo q4)))))
end
def bR (yk:zh):zX:=(zK (zw (zHN (zCt (zO yk (zD (zF 0) (zD (zF 1) (zD (zF 2) (zD (zF 5) zM))))))) (zK (zj (zC (.bool false)))
  zJ) zJ)
  (zK (zw (yA .Is (yc (zZ (zF 0) (zZ (zF 6) (zC (.int 2)))) zFK (zD (zp zM) zM)) (zC .none)) (zK (zj (zC (.bool false)))
  zJ) zJ)
  (zK (zPB (zZ (zF 0) (zZ (zF 6) (zC (.int 2)))) (zp zM) .Add (zZ (zF 10) (zC (.int 2))))
  zJ)))
theorem zWu (tR:zh):zGG tR=zK (zFa (yv 4) (zF 3) (bL tR)) (zK (zj (zC (.bool true))) zJ):=rfl
noncomputable def loL (h lg:Nat) (rd:Rd) (items:PV) (x4 x5:Option PV):List (Option PV):=[some (yO h),some (.ref lg),some (zJU rd),some items,x4,x5]
def zEL (rd:Rd) (h lg:Nat) (tR:zh) (Inv:PS->Prop) (it:It):Prop:=∀(ps:PS) (M:Mem) (x5:Option PV) (items:PV) (kn:St->Prop) (kr:PV->Mem->Prop) (kx:St->Prop),Inv ps->zAH M h lg ps ->
  (∀M' x5',zAH M' h lg (zCX rd it ps).2->LFr h lg M M'->if (zCX rd it ps).1=true then kn ⟨loL h lg rd items (some it.enc) x5',M'⟩ else kr (.bool false) M')->bL tR ⟨loL h lg rd items (some it.enc) x5,M⟩ kn kr kx
section
variable {M M':Mem}{k:PV->Mem->Prop}{kx:Mem->Prop}{h lg:Nat}{σ:Sto}{lo:List (Option PV)}{rd:Rd}
theorem zYh {tR:zh}{Inv:PS->Prop}{items:PV}{xs₀:List PV}{M₀:Mem}{kr:PV->Mem->Prop}{kx:St->Prop}:∀(rest:List It),(∀it∈rest,zEL rd h lg tR Inv it/\∀ps,Inv ps->(zCX rd it ps).1=true->Inv (zCX rd it ps).2)->∀(ps:PS) (M:Mem) (x4 x5:Option PV) (kn:St->Prop),Inv ps->zAH M h lg ps ->
    (∀M' x4' x5',zAH M' h lg (qJ rd rest ps).2->LFr h lg M M'->if (qJ rd rest ps).1=true then kn ⟨loL h lg rd items x4' x5',M'⟩ else kr (.bool false) M')->zCJ (yv 4) (bL tR) (.lst xs₀) M₀ (ya rest) ⟨loL h lg rd items x4 x5,M⟩ kn kr kx:=by
  intro q0
  induction q0 with
  | nil =>
    intro _ ps M x4 x5 kn I L H
    have:=H M x4 x5 L (.refl M)
    simp -dsimp [ya]
    exact this
  | cons it r ih =>
    intro hr ps M x4 x5 kn I L H
    refine xA (hr it (.head _)) fun hi hp=>?_
    simp -dsimp [ya,loL]
    refine hi ps M x5 items _ kr kx I L fun M' x5' L' F=>?_
    generalize h1:zCX rd it ps=z1;induction z1 using Prod.casesOn with
    | mk b1 ps1 =>
      rw [h1] at L'
      induction b1 using Bool.casesOn with
      | false =>
        have e:qJ rd (it::r) ps=(false,ps1):=by simp only [qJ,h1]
        rw [e] at H
        exact H M' none none L' F
      | true =>
        have e:qJ rd (it::r) ps=qJ rd r ps1:=by simp only [qJ,h1]
        rw [e] at H
        have I1:=hp ps I (by rw [h1])
        rw [h1] at I1
        exact ih (fun i hm=>hr i (.tail _ hm)) ps1 M' (some it.enc) x5' kn I1 L' fun M'' y4 y5 L'' F'=>H M'' y4 y5 L'' (F.trans F')
def zTe (tr:zh) (rd:Rd) (h lg:Nat) (Inv:PS->Prop) (its:List It):Prop:=∀(ps:PS) (M:Mem) (k:PV->Mem->Prop) (kx:Mem->Prop),Inv ps->zAH M h lg ps ->
  (∀M',zAH M' h lg (qJ rd its ps).2->LFr h lg M M'->k (.bool (qJ rd its ps).1) M')->tr [yO h,.ref lg,zJU rd,.lst (ya its)] M k kx
theorem zRq {tR:zh}{Inv:PS->Prop}{its:List It}(hr:∀it∈its,zEL rd h lg tR Inv it/\∀ps,Inv ps->(zCX rd it ps).1=true->Inv (zCX rd it ps).2):zTe (yK 4 6 (zGG tR)) rd h lg Inv its:=by
  intro ps M k kx I L H
  rw [zdb,zWu]
  simp -dsimp
  refine zYh (items:=.lst (ya its)) its hr ps M none none _ I L fun M' x4 x5 L' F=>?_
  have:=H M' L' F
  generalize hb:(qJ rd its ps).1=z2;induction z2 using Bool.casesOn with
  | true =>
    rw [if_pos rfl]
    rw [hb] at this
    simp -dsimp [loL]
    exact this
  | false =>
    rw [if_neg (by simp)]
    rw [hb] at this
    exact this
theorem zNQ {xs ys:List PyData}:PyData.eqv (.tuple xs) (.tuple ys)=PyData.eqvAll xs ys:=by simp only [PyData.eqv]
theorem zRK {a b:PyData}{xs ys:List PyData}:PyData.eqvAll (a::xs) (b::ys)=(PyData.eqv a b&&PyData.eqvAll xs ys):=by simp only [PyData.eqvAll]
theorem zVa:PyData.eqvAll [] []=true:=by simp only [PyData.eqvAll]
theorem zRb {x:PV}{xs:List PV}:inP x (.lst xs) M=inD x (.lst xs) M:=rfl
theorem zNG (o:Option Int) {n:Nat}:∃d,yi M n (qp o)=some d/\∀x:Int,PyData.eqv (.int x) d=decide (o=some x):=by
  induction o using Option.casesOn with
  | none=>exact (iEA .none (by induction n<;>rfl) (fun x=>by simp -dsimp [PyData.eqv]))
  | some y=>exact (iEA (.int y) (by induction n<;>rfl) (fun x=>by
      by_cases e:x=y
      · simp -dsimp [PyData.eqv,e]
      · simp only [PyData.eqv]
        rw [beq_eq_false_iff_ne.mpr e,decide_eq_false (fun q=>e (Option.some.inj q).symm)]))
theorem zUI {o:Option Int}:inP (.tup [qp o]) (.lst (Vn.A.seats.map zDS)) M=some (o.bind plA).isSome:=by
  refine xEA (zNG (M:=M) o (n:=7)) fun d h1 h2=>?_
  rw [zRb]
  have h3:yi M 8 (.tup [qp o])=some (.tuple [d]):=zDk (zAo h1 rfl)
  have h4:yi M 9 (.lst (Vn.A.seats.map zDS))=some (.list (Vn.A.seats.map fun s=>.tuple (s.map .int))):=zIH _
  rw [zWD h3 h4]
  simp only [Vn.seats,List.map,zNQ,zRK,zVa,h2,List.any_cons,List.any_nil]
  induction o using Option.casesOn with
  | none=>simp
  | some x=>simp -dsimp [plA];by_cases e:0<=x/\x<=2<;>simp -dsimp [e]<;>lia
theorem zUJ {o u:Option Int}:inP (.tup [qp o,qp u]) (.lst (Vn.B.seats.map zDS)) M=some (b2 o u plB).isSome:=by
  refine xEA (zNG (M:=M) o (n:=7)) fun d h1 h2=>?_
  refine xEA (zNG (M:=M) u (n:=7)) fun d' h1' h2'=>?_
  rw [zRb]
  have h3:yi M 8 (.tup [qp o,qp u])=some (.tuple [d,d']):=zDk (zAo h1 (zAo h1' rfl))
  have h4:yi M 9 (.lst (Vn.B.seats.map zDS))=some (.list (Vn.B.seats.map fun s=>.tuple (s.map .int))):=zIH _
  rw [zWD h3 h4]
  simp only [Vn.seats,List.map,zNQ,zRK,zVa,h2,h2',List.any_cons,List.any_nil]
  induction o using Option.casesOn with
  | none=>simp -dsimp [b2]
  | some x =>
    induction u using Option.casesOn with
    | none=>simp -dsimp [b2]
    | some y=>simp -dsimp [b2,plB];by_cases e:(2<=x/\x<=3/\-1<=y/\y<=1)<;>simp -dsimp [e]<;>lia
theorem zWm {x:Int}{p:Pl}(hp:plA x=some p):∃i:Nat,Vn.A.seats[i]?=some [x]/\Vn.A.pls[i]?=some p:=by
  unfold plA at hp
  split at hp
  · rename_i hx
    refine sE hp ?_;clear hp;rintro rfl
    rcases (show x=0\/x=1\/x=2 by lia) with rfl | rfl | rfl
    · exact (iEA 0 rfl rfl)
    · exact (iEA 1 rfl rfl)
    · exact (iEA 2 rfl rfl)
  · exact zW hp
theorem zWn {x y:Int}{p:Pl}(hp:plB x y=some p):∃i:Nat,Vn.B.seats[i]?=some [x,y]/\Vn.B.pls[i]?=some p:=by
  unfold plB at hp
  split at hp
  · rename_i hx
    refine sE hp ?_;clear hp;rintro rfl
    rcases (show x=2\/x=3 by lia) with rfl | rfl<;>rcases (show y=-1\/y=0\/y=1 by lia) with rfl | rfl | rfl
    · exact (iEA 0 rfl rfl)
    · exact (iEA 2 rfl rfl)
    · exact (iEA 4 rfl rfl)
    · exact (iEA 1 rfl rfl)
    · exact (iEA 3 rfl rfl)
    · exact (iEA 5 rfl rfl)
  · exact zW hp
end
section
variable {M M':Mem}{k:PV->Mem->Prop}{kx:Mem->Prop}{h lg:Nat}{σ:Sto}{lo:List (Option PV)}{rd:Rd}{tR:zh}{Inv:PS->Prop}
def zIg (rd:Rd) (Inv:PS->Prop):Prop:=∀ps,Inv ps->ps.log.length<40/\∀ns,rd=some ns->ns.length=5
theorem zZk {o:Option Int}:zDh .Is (qp o) .none M=some o.isNone:=by induction o using Option.casesOn<;>rfl
theorem zVH:zDh .IsNot (zJU rd) .none M=some rd.isSome:=by induction rd using Option.casesOn<;>rfl
theorem zXS {rd:Rd}{ps:PS}{p:Pl}:zBa rd [p] ps=if ps.log.length+1<40 then (true,qj rd ps p) else (false,qj rd ps p):=by
  simp -dsimp [zBa,qd]
theorem zcd {ps:PS}{p:Pl}{r:Bool×PS}(e:r=zBa rd [p] ps) {F:List (Option PV)->Mem->Prop}{G:Mem->Prop}{lo:List (Option PV)}
    (H:∀M',zAH M' h lg r.2->LFr h lg M M'->if r.1=true then F lo M' else G M') {M':Mem}(L:zAH M' h lg (qj rd ps p)) (Fr:LFr h lg M M'):bK (G M') (F lo M') .mk (!decide (ps.log.length+1<40)):=by
  rw [zXS] at e
  subst e
  by_cases hb:ps.log.length+1<40
  · rw [if_pos hb] at H
    rw [decide_eq_true hb]
    exact H M' L Fr
  · rw [if_neg hb] at H
    rw [decide_eq_false hb]
    exact H M' L Fr
theorem zWL (hI:zIg rd Inv) {v:Sv}:zEL rd h lg tR Inv (.ex (.var v)):=by
  intro ps M x5 items kn kr kx I L H
  refine xA (hI ps I) fun h40 h5=>?_
  have hs:v.vn.seats[0]?=some []:=by induction v using Sv.casesOn<;>rfl
  have hp:v.vn.pls[0]?=some (.num v.ad):=by induction v using Sv.casesOn<;>rfl
  have hn:v.vn.nm=v.nm:=by induction v using Sv.casesOn<;>rfl
  refine Eq.mpr (zZf rfl rfl) ?_
  have tl:=fun k kx=>zOh (k:=k) (kx:=kx) h5 h40 L hs hp
  rw [hn] at tl
  exact tl _ _ fun M' L' F=>zcd (F:=fun lo M=>kn ⟨lo,M⟩) rfl (fun M' a b=>H M' x5 a b) L' F
theorem zPx (hI:zIg rd Inv) {s:Sm}(hv:∀v,s≠.var v):zEL rd h lg tR Inv (.ex s):=by
  intro ps M x5 items kn kr kx I L H
  refine xA (hI ps I) fun h40 h5=>?_
  have e:zCX rd (.ex s) ps=zLI rd ps (worth ps.σ s):=by
    induction s using Sm.casesOn with
    | var v=>exact absurd rfl (hv v)
    | const c=>rfl
    | add v c=>rfl
  rw [e] at H
  have hout:=L.out
  have ev:(Ev.val (worth ps.σ s)).enc=.tup [.int 0,.none,qp (worth ps.σ s)]:=by cases worth ps.σ s<;>rfl
  have ap:∀{k kx},zCq [.ref lg,.tup [.int 0,.none,qp (worth ps.σ s)]] M k kx=k .none (M.set lg (.list ((ps.log++[Ev.val (worth ps.σ s)]).map Ev.enc))):=fun {k kx}=>by
    rw [zCi L.log (by simp;lia),List.map_append,List.map_cons,List.map_nil,ev]
  have wo:=fun {k kx}=>zQr (k:=k) (kx:=kx) (m:=2) L.held s
  have hc1:(M.set lg (.list ((ps.log++[Ev.val (worth ps.σ s)]).map Ev.enc))).c lg=.list ((ps.log++[Ev.val (worth ps.σ s)]).map Ev.enc):=if_pos rfl
  have hel1:∀j,h<=j->j<h+6->(M.set lg (.list ((ps.log++[Ev.val (worth ps.σ s)]).map Ev.enc))).c j=M.c j:=fun j Z Z=>if_neg (by lia)
  have fr1:LFr h lg M (M.set lg (.list ((ps.log++[Ev.val (worth ps.σ s)]).map Ev.enc))):=⟨rfl,fun i hi Z=>if_neg hi⟩
  generalize M.set lg (.list ((ps.log++[Ev.val (worth ps.σ s)]).map Ev.enc))=M1 at *
  have F:=H M1 x5 ⟨L.held.keep (by simp -dsimp [zLI]) hel1,hc1,hout⟩ fr1
  have gl:qa M1 (.ref lg) (.int (-1))=some (.tup [.int 0,.none,qp (worth ps.σ s)]):=by
    rw [zHY hc1,List.map_append,List.map_cons,List.map_nil,ev]
    exact zQJ
  have hlen1:zFv M1 (.ref lg)=some (ps.log.length+1):=(zRg hc1).trans (by simp)
  have fin:zWQ ⟨loL h lg rd items (some s.enc) x5,M1⟩ kn kr kx:=by
    generalize worth ps.σ s=wv at F gl
    refine oKi gl (oKi zZk ?_)
    have T:(if (!decide (40<=ps.log.length+1))=true then kn ⟨loL h lg rd items (some s.enc) x5,M1⟩ else kr (.bool false) M1)->yA .GtE (zO qw (zD (zF 1) zM)) (zC (.int 40)) ⟨loL h lg rd items (some s.enc) x5,M1⟩ (fun t M=>bK (kr (.bool false) M) (kn ⟨loL h lg rd items (some s.enc) x5,M⟩) .mk t) (fun M=>kx ⟨loL h lg rd items (some s.enc) x5,M⟩):=fun F=>by
      refine oKi hlen1 (aKi (Nat.ble_eq_true_of_le (by lia)) ?_)
      by_cases q:40<=ps.log.length+1
      · rw [decide_eq_true q] at F
        exact Eq.mpr (bKt (by lia)) F
      · rw [decide_eq_false q] at F
        exact Eq.mpr (bKf (by lia)) F
    have F:if (!((wv.isNone&&rd.isSome)||decide (40<=ps.log.length+1)))=true then kn ⟨loL h lg rd items (some s.enc) x5,M1⟩ else kr (.bool false) M1:=F
    generalize wv.isNone=wn at F ⊢
    induction wn using Bool.casesOn with
    | false=>exact T F
    | true =>
      refine oKi zVH ?_
      generalize rd.isSome=rs at F ⊢
      induction rs using Bool.casesOn with
      | false=>exact T F
      | true=>exact F
  obtain ⟨u,g0,n1,n2,n3,n4⟩:∃u:Str,qa M s.enc (.int 0)=some (.str u)/\yw .Eq (.str u) (.str "ido") M=some false/\yw .Eq (.str u) (.str "array") M=some false/\yw .Eq (.str u) (.str "elem") M=some false/\yw .Eq (.str u) (.str "var") M=some false:=by
    induction s using Sm.casesOn with
    | var v=>exact absurd rfl (hv v)
    | const c=>exact ⟨"const",rfl,zIt,zGj,zOM,zQK⟩
    | add v c=>exact ⟨"add",rfl,zMh,zIr,zRl,zUX⟩
  exact Eq.mpr (zZe rfl g0 n1 n2 n3 n4) (oKi (zId L.log) (Eq.mpr wo (Eq.mpr (ap (k:=fun Z M=>zWQ ⟨loL h lg rd items (some s.enc) x5,M⟩ kn kr kx) (kx:=fun M=>kx ⟨loL h lg rd items (some s.enc) x5,M⟩)) fin)))
theorem zQp {ps:PS}(L:zAH M h lg ps) {p:PV}(hs:∀q N N',sK q N N' p=q) {M₀:Mem}{kl:List PV->Mem->Prop}{kx:Mem->Prop}:∀(ss:List Sm) (acc:List PV),acc.length+ss.length<=100->kl (acc++ss.map fun s=>qp (worth ps.σ s)) M ->
    zAQ 0 qP (qy (zO (yG 4) (zD (zF 1) (zD (zF 0) zM)))) p M₀ (ss.map Sm.enc) ⟨[none,some (yO h)],M⟩ acc kl kx:=by
  intro ss
  induction ss with
  | nil=>intro acc _ K;rw [List.map_nil,List.append_nil] at K;exact Eq.mpr (hs _ _ _) K
  | cons s r ih =>
    intro acc hl K
    rw [List.length_cons] at hl
    refine Eq.mpr (hs _ _ _) (Eq.mpr (zQr (m:=2) L.held s) (zGh (by lia) (ih (acc++[qp (worth ps.σ s)]) (by rw [List.length_append];show acc.length+1+r.length<=100;lia) ?_)))
    rw [List.append_assoc]
    exact K
theorem zSo (hI:zIg rd Inv) {a:Ar}{ss:List Sm}{ps:PS}{o:Option Pl}{items x5:Option PV}{kn:St->Prop}{kr:PV->Mem->Prop}{kx:St->Prop}(I:Inv ps) (L:zAH M h lg ps) (hl:ss.length<=2)
    (ins:inP (.tup (ss.map fun s=>qp (worth ps.σ s))) (.lst (a.vn.seats.map zDS)) M=some o.isSome) (hs:∀p,o=some p->∃(i:Nat) (s:List Int),a.vn.seats[i]?=some s/\a.vn.pls[i]?=some p/\PV.tup (ss.map fun s=>qp (worth ps.σ s))=zDS s)
    (H:∀M' x5',zAH M' h lg (zFZ rd ps o).2->LFr h lg M M'->if (zFZ rd ps o).1=true then kn ⟨[some (yO h),some (.ref lg),some (zJU rd),items,some (.tup [.str "elem",.int 0,.str a.nm,.lst (ss.map Sm.enc)]),x5'],M'⟩ else kr (.bool false) M') :
    bL tR ⟨[some (yO h),some (.ref lg),some (zJU rd),items,some (.tup [.str "elem",.int 0,.str a.nm,.lst (ss.map Sm.enc)]),x5],M⟩ kn kr kx:=by
  refine xA (hI ps I) fun h40 h5=>?_
  refine Eq.mpr (zbQ rfl rfl) ?_
  refine zQp L (p:=.lst (ss.map Sm.enc)) (fun Z Z Z=>rfl) ss [] (by show 0+_<=_;lia) ?_
  refine zGh (ps:=ss.map fun s=>qp (worth ps.σ s)) (by rw [List.length_map];lia) ?_
  show zcG ⟨[some (yO h),some (.ref lg),some (zJU rd),items,some (.tup [.str "elem",.int 0,.str a.nm,.lst (ss.map Sm.enc)]),some (.tup (ss.map fun s=>qp (worth ps.σ s)))],M⟩ kn kr kx
  generalize PV.tup (ss.map fun s=>qp (worth ps.σ s))=tv at *
  refine Eq.mpr (zLB a) (oKi (qNi.trans (congrArg (Option.map not) ins)) ?_)
  induction o using Option.casesOn with
  | none=>exact H M none L (.refl M)
  | some p =>
    refine zt (hs p rfl) fun i s g1 g2 g3=>?_
    subst g3
    have hn:a.vn.nm=a.nm:=by induction a using Ar.casesOn<;>rfl
    have tl:=fun k kx=>zOh (k:=k) (kx:=kx) h5 h40 L g1 g2
    rw [hn] at tl
    exact tl _ _ fun M' L' F=>zcd (F:=fun lo M=>kn ⟨lo,M⟩) (show zFZ rd ps (some p)=zBa rd [p] ps from rfl) (fun M' a b=>H M' (some (zDS s)) a b) L' F
theorem zWJ (hI:zIg rd Inv) {s:Sm}:zEL rd h lg tR Inv (.elA s):=by
  intro ps M x5 items kn kr kx I L H
  refine zSo hI (a:=.A) (ss:=[s]) (o:=(worth ps.σ s).bind plA) I L (by decide:1<=2) zUI (fun p hp=>?_) H
  refine xEA (Option.bind_eq_some_iff.mp hp) fun x hx hp=>?_
  refine xEA (zWm hp) fun i g1 g2=>?_
  exact ⟨i,[x],g1,g2,by rw [List.map_cons,hx];rfl⟩
theorem zWK (hI:zIg rd Inv) {s t:Sm}:zEL rd h lg tR Inv (.elB s t):=by
  intro ps M x5 items kn kr kx I L H
  refine zSo hI (a:=.B) (ss:=[s,t]) (o:=b2 (worth ps.σ s) (worth ps.σ t) plB) I L (by decide:2<=2) zUJ (fun p hp=>?_) H
  refine xEA (Option.bind_eq_some_iff.mp hp) fun x hx hp=>?_
  refine xEA (Option.bind_eq_some_iff.mp hp) fun y hy hp=>?_
  refine xEA (zWn hp) fun i g1 g2=>?_
  exact ⟨i,[x,y],g1,g2,by rw [List.map_cons,List.map_cons,hx,hy];rfl⟩
theorem zWy {a:Ar}{items:PV}{xs₀:List PV}{M₀:Mem}{it:PV}{kr:PV->Mem->Prop}{kx:St->Prop}(hit2:∀N,qa N it (.int 2)=some (.str a.nm)) (h5:∀ns,rd=some ns->ns.length=5):∀(n j:Nat),j+n=a.vn.seats.length->∀(ps:PS) (M:Mem) (x5:Option PV) (kn:St->Prop),ps.log.length<40->zAH M h lg ps ->
    (∀M' x5',zAH M' h lg (zBa rd (a.vn.pls.drop j) ps).2->LFr h lg M M'->if (zBa rd (a.vn.pls.drop j) ps).1=true then kn ⟨loL h lg rd items (some it) x5',M'⟩ else kr (.bool false) M') ->
    zCJ (yv 5) bS (.lst xs₀) M₀ ((a.vn.seats.drop j).map zDS) ⟨loL h lg rd items (some it) x5,M⟩ kn kr kx:=by
  intro n
  induction n with
  | zero =>
    intro j hj ps M x5 kn h40 L H
    have e1:a.vn.seats.drop j=[]:=List.drop_eq_nil_of_le (by lia)
    have e2:a.vn.pls.drop j=[]:=List.drop_eq_nil_of_le (by induction a using Ar.casesOn<;>simp -dsimp [Ar.vn,Vn.seats,Vn.pls,yZ] at hj ⊢<;>lia)
    rw [e2] at H
    rw [e1,List.map_nil]
    simp -dsimp only [zJa,zaj]
    exact H M x5 L (.refl M)
  | succ n ih =>
    intro j hj ps M x5 kn h40 L H
    have hj1:j<a.vn.seats.length:=by lia
    have hj2:j<a.vn.pls.length:=by induction a using Ar.casesOn<;>simp -dsimp [Ar.vn,Vn.seats,Vn.pls,yZ] at hj1 ⊢<;>lia
    have e1:=List.drop_eq_getElem_cons hj1
    have e2:=List.drop_eq_getElem_cons hj2
    have tl:=fun k kx=>zOh (k:=k) (kx:=kx) h5 h40 L (List.getElem?_eq_getElem hj1) (List.getElem?_eq_getElem hj2)
    have hn:a.vn.nm=a.nm:=by induction a using Ar.casesOn<;>rfl
    rw [e2] at H
    rw [e1,List.map_cons]
    rw [hn] at tl
    refine oKi (hit2 _) (tl _ _ fun M' L' F=>?_)
    by_cases hb:ps.log.length+1<40
    · rw [decide_eq_true hb]
      have e:zBa rd (a.vn.pls[j]::a.vn.pls.drop (j+1)) ps=zBa rd (a.vn.pls.drop (j+1)) (qj rd ps a.vn.pls[j]):=if_pos (by rw [qd];exact hb)
      rw [e] at H
      exact ih (j+1) (by lia) (qj rd ps (a.vn.pls[j])) M' (some (zDS (a.vn.seats[j]))) kn (by rw [qd];exact hb) L' fun M'' y5 L'' F'=>H M'' y5 L'' (F.trans F')
    · rw [decide_eq_false hb]
      have e:zBa rd (a.vn.pls[j]::a.vn.pls.drop (j+1)) ps=(false,qj rd ps a.vn.pls[j]):=if_neg (by rw [qd];exact hb)
      rw [e] at H
      exact H M' none L' F
theorem zWI (hI:zIg rd Inv) {a:Ar}:zEL rd h lg tR Inv (.arr a):=by
  intro ps M x5 items kn kr kx I L H
  refine xA (hI ps I) fun h40 h5=>?_
  have e:a.vn.pls=yZ a:=by induction a using Ar.casesOn<;>rfl
  have hr:zCX rd (.arr a) ps=zBa rd (a.vn.pls.drop 0) ps:=by rw [e];rfl
  rw [hr] at H
  have se:=fun k kx=>zLB (M:=M) (k:=k) (kx:=kx) a
  have go:=zWy (xs₀:=a.vn.seats.map zDS) (M₀:=M) (items:=items) (it:=(It.arr a).enc) (kr:=kr) (kx:=kx) (fun N=>by simp -dsimp [It.enc]) h5 a.vn.seats.length 0 (by simp) ps M x5 kn h40 L H
  simp only [List.drop_zero] at go
  exact Eq.mpr (zZc rfl rfl) (Eq.mpr (se _ _) go)
end
section
variable {M M':Mem}{k:PV->Mem->Prop}{kx:Mem->Prop}{h lg:Nat}{σ:Sto}{lo:List (Option PV)}{rd:Rd}{tr:zh}
theorem zy.putS {v:Sv}{n:Nat}{x:Int}{kvs:List (List Int×PV)}(H:zy M h σ n) (hk:M.c (h+v.vn.idx)=.tdict kvs) (hc:∀j,h<=j->j<h+6->M'.c j=if j=h+v.vn.idx then .tdict (stk kvs [] (.int x)) else M.c j):zy M' h (σ.setN v.ad x) n:=by
  have hs:v.vn.seats[0]?=some []:=by induction v using Sv.casesOn<;>rfl
  have hp:v.vn.pls[0]?=some (.num v.ad):=by induction v using Sv.casesOn<;>rfl
  have h1:v.vn.seats=[[]]:=by induction v using Sv.casesOn<;>rfl
  intro u
  have hu:u.idx<6:=by induction u using Vn.casesOn<;>decide
  refine xEA (H u) fun kvs' hk' O=>?_
  rw [hc _ (by lia) (by lia)]
  by_cases e:u=v.vn
  · subst e
    rw [hk] at hk';cases hk'
    rw [if_pos rfl]
    have P:=O.put (x:=x) hs hp
    exact (iEA _ rfl ⟨P.at_,P.ks,by have:=P.one h1;simp only [Pl.val] at this;lia,P.one⟩)
  · rw [if_neg (fun q=>e (zSn (by lia)))]
    have P:=O.other (x:=x) hp e
    exact (iEA _ hk' ⟨P.at_,P.ks,O.len,P.one⟩)
theorem zNu {n:Nat}(H:zy M h σ n) (v:Sv):∃kvs,M.c (h+v.vn.idx)=.tdict kvs/\atk kvs []=(σ.num v.ad).map .int/\kvs.length<=1:=by
  refine xEA (H v.vn) fun kvs hc O=>?_
  refine (q6 kvs hc ?_ (O.one (by induction v using Sv.casesOn<;>rfl)))
  induction v using Sv.casesOn
  · exact O.at_ 0 [] (.num 0) rfl rfl
  · exact O.at_ 0 [] (.num 1) rfl rfl
  · exact O.at_ 0 [] (.num 2) rfl rfl
noncomputable def loR (h lg:Nat) (rd:Rd) (it:PV) (its:List It) (v:Sv) (a b c:PV) (f e st:Int) (n:PV) (x12:Option PV):List (Option PV):=
  [some (yO h),some (.ref lg),some (zJU rd),some it,some (.str "ido"),some (.lst (ya its)),some (Sm.var v).enc,some a,some b,some c,some (.lst [.int f,.int e,.int st]),some n,x12]
@[irreducible] def rgC:qI:=yA .Is (yc (zZ (zF 0) (zZ (zF 6) (zC (.int 2)))) zFK (zD (zp zM) zM)) (zC .none)
theorem zYv:bR tr=zK (zw (zHN (zCt (zO tr (zD (zF 0) (zD (zF 1) (zD (zF 2) (zD (zF 5) zM))))))) (zK (zj (zC (.bool false)))
  zJ) zJ)
  (zK (zw rgC (zK (zj (zC (.bool false)))
  zJ) zJ)
  (zK (zPB (zZ (zF 0) (zZ (zF 6) (zC (.int 2)))) (zp zM) .Add (zZ (zF 10) (zC (.int 2))))
  zJ)):=by
  unfold rgC;rfl
theorem zaf {lo:List (Option PV)}{kb:Bool->Mem->Prop}{kx:Mem->Prop}{v:Sv}{i:Nat}{kvs:List (List Int×PV)}{o:Option Int}(h0:qD lo 0=some (yO h)) (h6:qD lo 6=some (Sm.var v).enc) (hg:qa M (yO h) (.str v.nm)=some (.ref i)) (hc:M.c i=.tdict kvs) (ha:atk kvs []=o.map PV.int):rgC ⟨lo,M⟩ kb kx=kb o.isNone M:=by
  unfold rgC
  refine (oKo h0).trans ((oKo h6).trans ((oKo hg).trans ((oKo (zXA hc)).trans ((zQl (k:=fun p M=>oK (fun r=>kb r M) .mk (zDh .Is p .none M)) (kx:=kx) rfl (zQj hc)).trans ?_))))
  rw [ha]
  induction o using Option.casesOn<;>rfl
theorem zUZ {its:List It}{v:Sv}{st:Int}{R:Nat}{InvR:Nat->PS->Prop}(hb:∀r ps,r<R->InvR r ps->∃Inv':PS->Prop,Inv' ps/\zTe tr rd h lg Inv' its/\∀x,(qJ rd its ps).1=true->(qJ rd its ps).2.σ.num v.ad=some x->InvR (r+1) ⟨(qJ rd its ps).2.log,(qJ rd its ps).2.σ.setN v.ad (x+st)⟩)
    {it a b c n:PV}{f e:Int}{p₀ q₀:Int}{M₀:Mem}{kr:PV->Mem->Prop}{kx:St->Prop}:∀(xs:List PV) (r:Nat) (ps:PS) (M:Mem) (x12:Option PV) (kn:St->Prop),xs.length+r<=R->InvR r ps->zAH M h lg ps ->
    (∀M' x12',zAH M' h lg (zBR (qJ rd its) v st xs.length ps).2->LFr h lg M M'->if (zBR (qJ rd its) v st xs.length ps).1=true then kn ⟨loR h lg rd it its v a b c f e st n x12',M'⟩ else kr (.bool false) M') ->
    zCJ (yv 12) (bR tr) (.rng p₀ q₀ 1) M₀ xs ⟨loR h lg rd it its v a b c f e st n x12,M⟩ kn kr kx:=by
  intro q0
  induction q0 with
  | nil =>
    intro r ps M x12 kn hr I L H
    exact H M x12 L (.refl M)
  | cons y xs ih =>
    intro r ps M x12 kn hr I L H
    rw [List.length_cons] at hr
    refine qh (hb r ps (by lia) I) fun Inv' i1 i2 i3=>?_
    have hn:v.vn.nm=v.nm:=by induction v using Sv.casesOn<;>rfl
    rw [zYv] at ih ⊢
    refine i2 ps M _ _ i1 L fun M' L' F=>?_
    have er:zBR (qJ rd its) v st (y::xs).length ps=match qJ rd its ps with
      | (false,ps')=>(false,ps')
      | (true,ps')=>match ps'.σ.num v.ad with
        | none=>(false,ps')
        | some x=>zBR (qJ rd its) v st xs.length ⟨ps'.log,ps'.σ.setN v.ad (x+st)⟩:=rfl
    generalize h1:qJ rd its ps=z1 at *;induction z1 using Prod.casesOn with
    | mk b1 ps1 =>
      induction b1 using Bool.casesOn with
      | false =>
        rw [er] at H
        exact H M' none L' F
      | true =>
        refine qh (zNu L'.held v) fun kvs hc ha hk1=>?_
        have hg:=zEG (M:=M') (h:=h) v.vn
        rw [hn] at hg
        refine Eq.mpr (zaf rfl rfl hg hc ha) ?_
        have er:zBR (qJ rd its) v st (y::xs).length ps=match ps1.σ.num v.ad with
          | none=>(false,ps1)
          | some x=>zBR (qJ rd its) v st xs.length ⟨ps1.log,ps1.σ.setN v.ad (x+st)⟩:=er
        have i3:∀x,ps1.σ.num v.ad=some x->InvR (r+1) ⟨ps1.log,ps1.σ.setN v.ad (x+st)⟩:=fun x=>i3 x rfl
        clear hb
        generalize hx:ps1.σ.num v.ad=z2 at *;induction z2 using Option.casesOn with
        | none =>
          rw [er] at H
          exact H M' none L' F
        | some x =>
          rw [er] at H
          have hst:zDL M' (.ref (h+v.vn.idx)) (.tup []) (.int (x+st))=some (M'.set (h+v.vn.idx) (.tdict (stk kvs [] (.int (x+st))))):=zOd hc rfl (by lia)
          have hv6:v.vn.idx<6:=by induction v using Sv.casesOn<;>decide
          have hout:=L.out
          have L2:zAH (M'.set (h+v.vn.idx) (.tdict (stk kvs [] (.int (x+st))))) h lg ⟨ps1.log,ps1.σ.setN v.ad (x+st)⟩:=
            ⟨zy.putS L'.held hc (fun j Z Z=>by rw [qS]),(if_neg (by lia)).trans L'.log,hout⟩
          have F2:LFr h lg M' (M'.set (h+v.vn.idx) (.tdict (stk kvs [] (.int (x+st))))):=⟨rfl,fun j Z hj=>if_neg (by lia)⟩
          refine oKi hg (oKi (zQj hc) (oKi (show (zDK []).bind (fun x=>atk kvs x)=some (.int x) from ha) (oKi hst ?_)))
          exact ih (r+1) _ _ (some y) kn (by lia) (i3 x rfl) L2 fun M'' y12 L'' F''=>H M'' y12 L'' ((F.trans F2).trans F'')
end
section
variable {M M':Mem}{k:PV->Mem->Prop}{kx:Mem->Prop}{h lg:Nat}{σ:Sto}{lo:List (Option PV)}{rd:Rd}{tr tR:zh}{Inv:PS->Prop}
theorem zWH {n:Nat}(hn:n<=1000000):∃xs:List PV,itP M (.rng 0 n 1)=some xs/\xs.length=n:=by
  have h3:Builtin.Range.rangeSize 0 n 1=n:=by
    unfold Builtin.Range.rangeSize
    simp -dsimp
    lia
  have h1:Builtin.Range.small 0 n 1=true:=by
    unfold Builtin.Range.small
    rw [h3]
    simp -dsimp [Builtin.Range.rangeFitsLong]
    lia
  have h2:(Builtin.Range.rangeSize 0 n 1).toNat=n:=by rw [h3];simp
  refine (iEA ((List.range n).map fun (i:Nat)=>PV.int (0+(i:Int) * 1)) ?_ (by simp))
  refine y9.trans ((if_pos h1).trans ?_)
  rw [h2]
theorem zYU {f st:Int}{w:Option Int}:inP .none (.lst [.int f,qp w,.int st]) M=some w.isNone:=by
  rw [zRb]
  have h1:yi M 8 .none=some .none:=rfl
  obtain ⟨d,h2,h3⟩:∃d,yi M 8 (qp w)=some d/\PyData.eqv d .none=w.isNone:=by
    induction w using Option.casesOn with
    | none=>exact (iEA .none rfl rfl)
    | some x=>exact (iEA (.int x) rfl rfl)
  have h4:yi M 9 (.lst [.int f,qp w,.int st])=some (.list [.int f,d,.int st]):=zJz (zAo rfl (zAo h2 (zAo rfl rfl)))
  have h5:∀x:Int,PyData.eqv (.int x) .none=false:=fun Z=>rfl
  rw [zWD h1 h4]
  simp only [List.any_cons,List.any_nil,h3,h5,Bool.false_or,Bool.or_false]
@[irreducible] def rdD:Den:=dif (yA .Gt (zZ (zF 10) (zC (.int 2))) (zC (.int 0))) (zC (.int 1)) (zII (zC (.int 1)))
def rdR (yk:zh):zX:=zK (zw (bor [(qH .In (zC .none) (zF 10)),(yA .Eq (zZ (zF 10) (zC (.int 2))) (zC (.int 0)))]) (zK (zj (zC (.bool false)))
  zJ) zJ)
  (zK (zCY (zZ (zF 0) (zZ (zF 6) (zC (.int 2)))) (zp zM) (zZ (zF 10) (zC (.int 0))))
  (zK (zx 11 (zO qw (zD (zO zAE (zD (zZ (zF 10) (zC (.int 0))) (zD (ye .Add (zZ (zF 10) (zC (.int 1))) rdD) (zD (zZ (zF 10) (zC (.int 2))) zM)))) zM)))
  (zK (zFa (yv 12) (zO zAE (zD (zF 11) zM)) (bR yk))
  (zK (zj (zC (.bool true)))
  zJ))))
theorem zYt:zCD tr=zK (zFc [4,5,6,7,8,9] (zF 3)) (zK (zx 10 (qe false 1 [0] (zp (zD (zF 7) (zD (zF 8) (zD (zF 9) zM)))) qP (qy (zO (yG 4) (zD (zF 1) (zD (zF 0) zM)))))) (rdR tr)):=by
  unfold rdR rdD;rfl
theorem zad {lo:List (Option PV)}{kx:Mem->Prop}{f st:Int}{e:PV}(h:qD lo 10=some (.lst [.int f,e,.int st])):rdD ⟨lo,M⟩ k kx=k (.int (if 0<st then 1 else -1)) M:=by
  unfold rdD
  refine (oKo h).trans ?_
  by_cases hs:0<st
  · rw [if_pos hs];exact bKt hs
  · rw [if_neg hs];exact bKf hs
theorem zKw {its:List It}{v:Sv}{f:Int}{l:Sm}{st:Int}{ps:PS}(hst:st.natAbs<=2) (L:zAH M h lg ps)
    (hR:∀e,worth ps.σ l=some e->st≠0->count f e st<=1000/\∃(R:Nat) (InvR:Nat->PS->Prop),count f e st<=R/\InvR 0 ⟨ps.log,ps.σ.setN v.ad f⟩/\∀r ps,r<R->InvR r ps->∃Inv':PS->Prop,Inv' ps/\zTe tr rd h lg Inv' its/\∀x,(qJ rd its ps).1=true->(qJ rd its ps).2.σ.num v.ad=some x->InvR (r+1) ⟨(qJ rd its ps).2.log,(qJ rd its ps).2.σ.setN v.ad (x+st)⟩)
    (H:∀M',zAH M' h lg (zCX rd (.ido its v f l st) ps).2->LFr h lg M M'->k (.bool (zCX rd (.ido its v f l st) ps).1) M'):yK 4 13 (zCD tr) [yO h,.ref lg,zJU rd,(It.ido its v f l st).enc] M k kx:=by
  have ins:=zYU (M:=M) (f:=f) (st:=st) (w:=worth ps.σ l)
  refine Eq.mpr zbo ?_
  rw [zYt]
  refine zQp L (p:=.tup [(Sm.const f).enc,l.enc,(Sm.const st).enc]) (fun Z Z Z=>rfl) [.const f,l,.const st] [] (show 0+3<=100 by decide) ?_
  show rdR tr ⟨[some (yO h),some (.ref lg),some (zJU rd),some (It.ido its v f l st).enc,some (.str "ido"),some (.lst (ya its)),some (Sm.var v).enc,some (Sm.const f).enc,some l.enc,some (Sm.const st).enc,some (.lst [.int f,qp (worth ps.σ l),.int st]),none,none],M⟩ (fun st=>k .none st.mem) k fun st=>kx st.mem
  have hr:zCX rd (.ido its v f l st) ps=match worth ps.σ l with
    | none=>(false,ps)
    | some e=>if st=0 then (false,ps) else zBR (qJ rd its) v st (count f e st) ⟨ps.log,ps.σ.setN v.ad f⟩:=rfl
  refine oKi (qIn.trans ins) ?_
  generalize hw:worth ps.σ l=z1;induction z1 using Option.casesOn with
  | none =>
    rw [hw] at hr
    rw [hr] at H
    exact H M L (.refl M)
  | some e =>
    rw [hw] at hr
    by_cases h0:st=0
    · have hr:=hr.trans (if_pos h0)
      rw [hr] at H
      exact Eq.mpr (bKt h0) (H M L (.refl M))
    · have hr:=hr.trans (if_neg h0)
      rw [hr] at H
      refine zSI (hR e hw h0) fun hc R InvR hcR hI hstep=>?_
      have hn:v.vn.nm=v.nm:=by induction v using Sv.casesOn<;>rfl
      have hg:=zEG (M:=M) (h:=h) v.vn
      rw [hn] at hg
      refine qh (zNu L.held v) fun kvs hk ha hk1=>?_
      have hset:zDL M (.ref (h+v.vn.idx)) (.tup []) (.int f)=some (M.set (h+v.vn.idx) (.tdict (stk kvs [] (.int f)))):=zOd hk rfl (by lia)
      have hv6:v.vn.idx<6:=by induction v using Sv.casesOn<;>decide
      have hout:=L.out
      have L2:zAH (M.set (h+v.vn.idx) (.tdict (stk kvs [] (.int f)))) h lg ⟨ps.log,ps.σ.setN v.ad f⟩:=
        ⟨zy.putS L.held hk (fun j Z Z=>by rw [qS]),(if_neg (by lia)).trans L.log,hout⟩
      have F2:LFr h lg M (M.set (h+v.vn.idx) (.tdict (stk kvs [] (.int f)))):=⟨rfl,fun j Z hj=>if_neg (by lia)⟩
      generalize M.set (h+v.vn.idx) (.tdict (stk kvs [] (.int f)))=M2 at *
      refine xEA (zWH (M:=M2) (n:=count f e st) (by lia)) fun xs hxs hxl=>?_
      refine Eq.mpr (bKf h0) (oKi hg (oKi hset (Eq.mpr (zad rfl) (oKi zOx ⟨h0,by lia,aKi (b:=Nat.ble (count f e st) 1000000) (Nat.ble_eq_true_of_le (by lia)) (oKi hxs ?_)⟩))))
      refine zUZ (a:=(Sm.const f).enc) (b:=l.enc) (c:=(Sm.const st).enc) (n:=.int (count f e st)) (f:=f) (e:=e) (it:=(It.ido its v f l st).enc) (p₀:=0) (q₀:=(count f e st:Nat)) (M₀:=M2) (kr:=k) (kx:=fun st=>kx st.mem) hstep xs 0 _ M2 none (fun st'=>k (.bool true) st'.mem) (by lia) hI L2 fun M' x12 L' F=>?_
      rw [hxl] at L' ⊢
      have:=H M' L' (F2.trans F)
      generalize (zBR (qJ rd its) v st (count f e st) ⟨ps.log,ps.σ.setN v.ad f⟩).1=z2 at this ⊢
      induction z2 using Bool.casesOn with
      | true=>exact this
      | false=>exact this
end
section
variable {M M':Mem}{k:PV->Mem->Prop}{kx:Mem->Prop}{h lg:Nat}{σ:Sto}{lo:List (Option PV)}{rd:Rd}{tr tR:zh}{Inv:PS->Prop}
theorem zPw {its:List It}{v:Sv}{f:Int}{l:Sm}{st:Int}(hR:∀ps M k kx,Inv ps->zAH M h lg ps->(∀M',zAH M' h lg (zCX rd (.ido its v f l st) ps).2->LFr h lg M M'->k (.bool (zCX rd (.ido its v f l st) ps).1) M')->tR [yO h,.ref lg,zJU rd,(It.ido its v f l st).enc] M k kx):zEL rd h lg tR Inv (.ido its v f l st):=by
  intro ps M x5 items kn kr kx I L H
  have go:=fun k kx=>hR ps M k kx I L
  simp only [It.enc] at go
  refine Eq.mpr (zZd rfl rfl) ?_
  refine go _ _ fun M' L' F=>?_
  have:=H M' x5 L' F
  generalize hb:(zCX rd (.ido its v f l st) ps).1=z1;induction z1 using Bool.casesOn with
  | true =>
    rw [hb] at this
    exact this
  | false =>
    rw [hb] at this
    exact this
theorem zZK {ib jb:Nat}:zIg rd (Bd ib jb rd):=fun ps B=>⟨B.len,fun ns e=>(B.rd ns e).1⟩
theorem zMb (hI:zIg rd Inv) {it:It}(hl:zQA it):zEL rd h lg tR Inv it:=by
  induction it using It.casesOn with
  | ex s =>
    induction s using Sm.casesOn with
    | var v=>exact zWL hI
    | const c=>exact zPx hI (fun v e=>by cases e)
    | add v c=>exact zPx hI (fun v e=>by cases e)
  | elA s=>exact zWJ hI
  | elB s t=>exact zWK hI
  | arr a=>exact zWI hI
  | ido _ _ _ _ _=>exact hl.elim
theorem zKe {c n:Nat}{Inv:PS->Prop}{it:It}(G:zMv c n rd Inv it):∀ps,Inv ps->(zCX rd it ps).1=true->Inv (zCX rd it ps).2:=fun ps I hb=>by
  have:=(G ps (zCX rd it ps).1 (zCX rd it ps).2 rfl I).1 hb
  exact this.1
theorem zdp {ib jb:Nat}(hi:4<=ib) (hj:4<=jb) (hi':ib<=300) (hj':jb<=300) (n:Nat) {its:List It}(hl:∀i∈its,zQA i):zTe (yk (n+1)) rd h lg (Bd ib jb rd) its:=
  zRq fun it hm=>⟨zMb zZK (hl it hm),zKe (zGL (c:=9) hi hj hi' hj' (by decide) (hl it hm))⟩
theorem zZP {jb:Nat}(hj:4<=jb) (hj':jb<=300) (n:Nat) {it:It}(hl:ok1 it):zEL rd h lg (yK 4 13 (zCD (yk (n+1)))) (Bd 84 jb rd) it:=by
  rcases hl with hf | ⟨js,f,l,st,rfl,O,hi⟩
  · exact zMb zZK hf
  · refine zPw fun ps M k kx B L H=>?_
    refine zKw O.st L (fun e he h0=>?_) H
    have hcnt:count f e st<=1000:=zNF h0 O.f (B.worth (by decide) hj' O.l he) (by decide)
    refine (zRa hcnt 1000 (fun Z ps=>Bd (4+2 * ps.log.length) jb rd ps) hcnt (Bd.setI B (Nat.le_trans O.f (by simp;lia))) (fun r ps1z Z R=>?_))
    have hl:=R.len
    refine (q6 (Bd (4+2 * ps1z.log.length) jb rd) R (zdp (by lia) hj (by lia) hj' n hi) (fun x hb hx=>?_))
    have g:=(zPl js (fun i hm=>zGL (c:=9) (by lia) hj (by lia) hj' (by decide) (hi i hm)) ps1z _ _ rfl R).1 hb
    have hx':=g.1.I x hx
    have hn:=O.ne
    have hst:=O.st
    have hg:=g.2
    exact Bd.setI g.1 (zWY hx' hst (by simp;lia))
theorem zdq {jb:Nat}(hj:4<=jb) (hj':jb<=300) (n:Nat) {its:List It}(hl:∀i∈its,ok1 i):zTe (yk (n+2)) rd h lg (Bd 84 jb rd) its:=
  zRq fun it hm=>⟨zZP hj hj' n (hl it hm),zKe (zSk (c:=8) (by decide) hj hj' (hl it hm))⟩
theorem zcX (n:Nat) {its:List It}(hl:∀i∈its,ok2 i):zTe (yk (n+3)) rd h lg (Bd 84 200 rd) its:=by
  refine zRq fun it hm=>⟨?_,zKe (zVx (hl it hm))⟩
  rcases hl it hm with hf | ⟨js,f,l,st,rfl,O,hi,hl1,hl2⟩
  · exact zZP (jb:=200) (by decide) (by decide) (n+1) hf
  · refine zPw fun ps M k kx B L H=>?_
    refine zKw O.st L (fun e he h0=>?_) H
    have hcnt:count f e st<=92:=zNF h0 O.f (B.worthJ O.l hl1 hl2 he) (by decide)
    refine (zRa (by lia) 92 (fun r ps=>Bd 84 (4+2 * r) rd ps) hcnt (Bd.setJ B (Nat.le_trans O.f (by lia))) (fun r ps1z hr R=>?_))
    refine (q6 (Bd 84 (4+2 * r) rd) R (zdq (by lia) (by lia) n hi) (fun x hb hx=>?_))
    have g:=(zPl js (fun i hm=>zSk (c:=8) (by decide) (by lia) (by lia) (hi i hm)) ps1z _ _ rfl R).1 hb
    have hx':=g.1.J x hx
    exact Bd.setJ g.1 (zWY hx' O.st (by lia))
end
def qx (M:Mem) (pl:Nat):Prop:=∃ns:List Int,M.c pl=.list (ns.map .int)/\ns.length<=24
structure PFr (pl:Nat) (M M':Mem):Prop where
  n:M'.n=M.n
  c:∀i,i≠pl->M'.c i=M.c i
  ok:qx M' pl
theorem PFr.trans {pl:Nat}{M M1z M2z:Mem}(x:PFr pl M M1z) (y:PFr pl M1z M2z):PFr pl M M2z:=⟨y.n.trans x.n,fun i h=>(y.c i h).trans (x.c i h),y.ok⟩
section
variable {M M':Mem}{k:PV->Mem->Prop}{kx:Mem->Prop}{pl:Nat}{lo:List (Option PV)}
theorem qO {m:Int}(hm:0<m) (hm':m<1000) (P:qx M pl) (H:∀d M',0<=d->d<m->PFr pl M M'->k (.int d) M'):zn [.ref pl,.int m] M k kx:=by
  refine xEA P fun ns hc hl=>?_
  have hlen:zFv M (.ref pl)=some ns.length:=(zCH hc).trans (congrArg some (List.length_map _))
  have t1:=fun k kx=>zAn (k:=k) (kx:=kx) hlen (by lia)
  simp only [zn,zNT,zGo]
  induction ns using List.casesOn with
  | nil =>
    have:=H 0 M (Int.le_refl _) hm ⟨rfl,fun Z Z=>rfl,[],hc,by simp⟩
    simp -dsimp [↓t1]
    exact this
  | cons x r =>
    have g0:qa M (.ref pl) (.int 0)=some (.int x):=by rw [zHY hc];simp
    have e1:zER .Mod (.int x) (.int m) M=some (.int (x.fmod m)):=by
      rw [zSO,if_neg (by lia)]
    have e2:zER .FloorDiv (.int x) (.int m) M=some (.int (x.fdiv m)):=by
      rw [zZL,if_neg (by lia)]
    have hs:zDL M (.ref pl) (.int 0) (.int (x.fdiv m))=some (M.set pl (.list ((x.fdiv m::r).map .int))):=by
      rw [zLC hc (by simp at hl ⊢;lia)];rfl
    have hc2:(M.set pl (.list ((x.fdiv m::r).map .int))).c pl=.list ((x.fdiv m::r).map .int):=by simp
    have F2:PFr pl M (M.set pl (.list ((x.fdiv m::r).map .int))):=⟨rfl,fun i hi=>by rw [qS,if_neg hi],_,hc2,by simpa using hl⟩
    have hd1:0<=x.fmod m:=Int.fmod_nonneg_of_pos _ hm
    have hd2:x.fmod m<m:=Int.fmod_lt_of_pos _ hm
    have hne:¬((r.length:Int)+1=0):=by lia
    generalize M.set pl (.list ((x.fdiv m::r).map .int))=M2 at *
    have g2:qa M2 (.ref pl) (.int 0)=some (.int (x.fdiv m)):=by rw [zHY hc2];simp
    have po:=fun k kx=>zXV (M:=M2) (k:=k) (kx:=kx) (i:=pl) (x:=.int (x.fdiv m)) (xs:=r.map .int) (by rw [hc2];rfl) (by simp at hl ⊢;lia)
    have hsp:=zRy hc2
    have F3:PFr pl M2 (M2.set pl (.list (r.map .int))):=⟨rfl,fun i hi=>by rw [qS,if_neg hi],r,by simp,by simp at hl;lia⟩
    simp -dsimp [↓t1,hne,g0,e1,e2,hs,g2,Nat.reduceSub]
    by_cases hz:x.fdiv m=0
    · have hz':=zPE hz
      simp -dsimp [hz',hsp,po]
      exact H _ _ hd1 hd2 (F2.trans F3)
    · have hz':=zSS hz
      simp -dsimp [hz']
      exact H _ _ hd1 hd2 F2
theorem zaP {x:Str}{a b c:Nat}(hx:x.cps=#[a,b,c]) {d:Int}(h0:0<=d) (h3:d<3):qa M (.str x) (.int d)=some (.str ⟨#[if d=0 then a else if d=1 then b else c]⟩):=by
  rcases (show d=0\/d=1\/d=2 by lia) with rfl | rfl | rfl
  · exact zFH (a:=0) (by rw [hx];rfl) (by decide)
  · exact zFH (a:=1) (by rw [hx];rfl) (by decide)
  · exact zFH (a:=2) (by rw [hx];rfl) (by decide)
theorem nij {d:Int}(h0:0<=d) (h3:d<3):∃v:Sv,qa M (.str "NIJ") (.int d)=some (.str v.nm):=by
  rw [zaP (a:=78) (b:=73) (c:=74) (by decide) h0 h3]
  rcases (show d=0\/d=1\/d=2 by lia) with rfl | rfl | rfl
  · exact ⟨.N,by simp -dsimp (decide:=true) [Sv.nm]⟩
  · exact ⟨.I,by simp -dsimp (decide:=true) [Sv.nm]⟩
  · exact ⟨.J,by simp -dsimp (decide:=true) [Sv.nm]⟩
theorem ijn {d:Int}(h0:0<=d) (h3:d<3):∃v:Sv,qa M (.str "IJN") (.int d)=some (.str v.nm):=by
  rw [zaP (a:=73) (b:=74) (c:=78) (by decide) h0 h3]
  rcases (show d=0\/d=1\/d=2 by lia) with rfl | rfl | rfl
  · exact ⟨.I,by simp -dsimp (decide:=true) [Sv.nm]⟩
  · exact ⟨.J,by simp -dsimp (decide:=true) [Sv.nm]⟩
  · exact ⟨.N,by simp -dsimp (decide:=true) [Sv.nm]⟩
theorem abt {d:Int}(h0:0<=d) (h3:d<3):∃v:Ar,qa M (.str "ABT") (.int d)=some (.str v.nm):=by
  rw [zaP (a:=65) (b:=66) (c:=84) (by decide) h0 h3]
  rcases (show d=0\/d=1\/d=2 by lia) with rfl | rfl | rfl
  · exact ⟨.A,by simp -dsimp (decide:=true) [Ar.nm]⟩
  · exact ⟨.B,by simp -dsimp (decide:=true) [Ar.nm]⟩
  · exact ⟨.T,by simp -dsimp (decide:=true) [Ar.nm]⟩
end
section
variable {M M':Mem}{k:PV->Mem->Prop}{kx:Mem->Prop}{pl:Nat}{lo:List (Option PV)}
theorem zGV (P:qx M pl) (H:∀s M',okS s->PFr pl M M'->k s.enc M'):qt [.ref pl] M k kx:=by
  simp only [qt,zbl,zEx]
  simp -dsimp
  refine qO (by decide) (by decide) P fun w M1 w0 w5 F1=>?_
  by_cases h2:w<2
  · simp -dsimp [h2]
    refine qO (by decide) (by decide) F1.ok fun d M2 d0 d6 F2=>?_
    simp -dsimp
    exact H (.const (d-1)) M2 (show (d-1).natAbs<=4 by lia) (F1.trans F2)
  · by_cases h4:w<4
    · simp -dsimp [h2,h4]
      refine qO (by decide) (by decide) F1.ok fun d M2 d0 d6 F2=>?_
      refine xE (nij (M:=M2) d0 d6) fun v hv=>?_
      simp -dsimp [hv]
      exact H (.var v) M2 trivial (F1.trans F2)
    · simp -dsimp [h2,h4]
      refine qO (by decide) (by decide) F1.ok fun d M2 d0 d6 F2=>?_
      refine xE (ijn (M:=M2) d0 d6) fun v hv=>?_
      simp -dsimp [hv]
      refine qO (by decide) (by decide) F2.ok fun e M3 e0 e5 F3=>?_
      simp -dsimp
      exact H (.add v (e-2)) M3 (show (e-2).natAbs<=4 by lia) (F1.trans (F2.trans F3))
theorem zMT (P:qx M pl) (H:∀f l st M',f.natAbs<=2->okS l->st.natAbs<=2->l≠.var .J->(∀c,l≠.add .J c)->PFr pl M M'->k (.tup [(Sm.const f).enc,l.enc,(Sm.const st).enc]) M'):zCT [.ref pl] M k kx:=by
  simp only [zCT,zbm,zEw]
  simp -dsimp
  refine qO (by decide) (by decide) P fun f M1 f0 f3 F1=>?_
  refine qO (by decide) (by decide) F1.ok fun d M2 d0 d3 F2=>?_
  simp -dsimp
  refine qO (by decide) (by decide) F2.ok fun e M3 e0 e3 F3=>?_
  obtain ⟨l,hl,okl,l1,l2⟩:∃l:Sm,qa M3 (.tup [.tup [.str "const",.int 0,.int (1+d)],.tup [.str "var",.int 0,.str "N"],.tup [.str "var",.int 0,.str "I"]]) (.int e)=some l.enc/\okS l/\l≠.var .J/\∀c,l≠.add .J c:=by
    rcases (show e=0\/e=1\/e=2 by lia) with rfl | rfl | rfl
    · exact (zPo (.const (1+d)) (by simp -dsimp [Sm.enc]) (show (1+d).natAbs<=4 by lia) (fun q=>(by cases q)) (fun c q=>(by cases q)))
    · exact (zPo (.var .N) (by simp -dsimp [Sm.enc,Sv.nm]) trivial (fun q=>(by cases q)) (fun c q=>(by cases q)))
    · exact (zPo (.var .I) (by simp -dsimp [Sm.enc,Sv.nm]) trivial (fun q=>(by cases q)) (fun c q=>(by cases q)))
  simp at hl
  simp -dsimp [hl]
  refine qO (by decide) (by decide) F3.ok fun g M4 g0 g6 F4=>?_
  obtain ⟨st,hst,okst⟩:∃st:Int,qa M4 (.tup [.int 1,.int 1,.int 2,.int (-1),.int 1,.int 0]) (.int g)=some (.int st)/\st.natAbs<=2:=by
    rcases (show g=0\/g=1\/g=2\/g=3\/g=4\/g=5 by lia) with rfl | rfl | rfl | rfl | rfl | rfl
    · exact (iEA 1 (zDQ (a:=0) rfl (by decide)) (by decide))
    · exact (iEA 1 (zDQ (a:=1) rfl (by decide)) (by decide))
    · exact (iEA 2 (zDQ (a:=2) rfl (by decide)) (by decide))
    · exact (iEA (-1) (zDQ (a:=3) rfl (by decide)) (by decide))
    · exact (iEA 1 (zDQ (a:=4) rfl (by decide)) (by decide))
    · exact (iEA 0 (zDQ (a:=5) rfl (by decide)) (by decide))
  simp at hst
  simp -dsimp [hst]
  exact H f l st M4 (by lia) okl okst l1 l2 (F1.trans (F2.trans (F3.trans F4)))
section
variable {w c dp:Int}{A B:zX}{kn:St->Prop}{kr:PV->Mem->Prop}{kxs:St->Prop}
theorem zby (h:qD lo 2=some (.int w)) (h1:qD lo 1=some (.int dp)) (q:¬(w=0/\0<dp)):zK (zw (zHM [(yA .Eq (zF 2) (zC (.int 0))),(yA .Gt (zF 1) (zC (.int 0)))]) A zJ) B ⟨lo,M⟩ kn kr kxs=B ⟨lo,M⟩ kn kr kxs:=by
  refine (oKo h).trans ?_
  by_cases hw:w=0
  · exact (bKt hw).trans ((oKo h1).trans (bKf fun z=>q ⟨hw,z⟩))
  · exact bKf hw
theorem zbz (h:qD lo 2=some (.int w)) (h1:qD lo 1=some (.int dp)) (hw:w=0) (hd:0<dp):zK (zw (zHM [(yA .Eq (zF 2) (zC (.int 0))),(yA .Gt (zF 1) (zC (.int 0)))]) A zJ) B ⟨lo,M⟩ kn kr kxs=A ⟨lo,M⟩ (fun st=>B st kn kr kxs) kr kxs:=
  (oKo h).trans ((bKt hw).trans ((oKo h1).trans (bKt hd)))
theorem zWF (h:qD lo 2=some (.int w)) (q:w≠c):zK (zw (yA .Eq (zF 2) (zC (.int c))) A zJ) B ⟨lo,M⟩ kn kr kxs=B ⟨lo,M⟩ kn kr kxs:=(oKo h).trans (bKf q)
theorem zWG (h:qD lo 2=some (.int w)) (q:w=c):zK (zw (yA .Eq (zF 2) (zC (.int c))) A zJ) B ⟨lo,M⟩ kn kr kxs=A ⟨lo,M⟩ (fun st=>B st kn kr kxs) kr kxs:=(oKo h).trans (bKt q)
theorem zcA (h:qD lo 2=some (.int w)) (q:¬w<c):zK (zw (yA .Lt (zF 2) (zC (.int c))) A zJ) B ⟨lo,M⟩ kn kr kxs=B ⟨lo,M⟩ kn kr kxs:=(oKo h).trans (bKf q)
theorem zcB (h:qD lo 2=some (.int w)) (q:w<c):zK (zw (yA .Lt (zF 2) (zC (.int c))) A zJ) B ⟨lo,M⟩ kn kr kxs=A ⟨lo,M⟩ (fun st=>B st kn kr kxs) kr kxs:=(oKo h).trans (bKt q)
end
theorem zKj {n:Nat}{dp:Int}{Q:It->Prop}(hdp:dp=0\/dp=1\/dp=2) (P:qx M pl)
    (hQ:dp≠0->∀M k kx,qx M pl->(∀it M',Q it->PFr pl M M'->k it.enc M')->yo n [.ref pl,.int (dp-1)] M k kx)
    (H1:∀it M',zQA it->PFr pl M M'->k it.enc M')
    (H2:dp≠0->∀its f l st M',1<=its.length->its.length<=2->(∀i∈its,Q i)->f.natAbs<=2->okS l->st.natAbs<=2->l≠.var .J->(∀c,l≠.add .J c)->PFr pl M M'->k (It.ido its (if dp=1 then .I else .J) f l st).enc M'):yo (n+1) [.ref pl,.int dp] M k kx:=by
  rw [yo]
  refine Eq.mpr zYO ?_
  refine qO (by decide) (by decide) P fun w M1 w0 w7 F1=>?_
  by_cases hw:w=0/\0<dp
  · refine xA hw ?_;clear hw;intro z1 hp;subst z1
    have hd0:dp≠0:=by lia
    have hv:∀N,qa N (.str "IJ") (.int (dp-1))=some (.str (if dp=1 then Sv.I else Sv.J).nm):=fun N=>by
      rcases (show dp=1\/dp=2 by lia) with rfl | rfl
      · rw [show (1:Int)-1=((0:Nat):Int) from rfl,zFH (a:=0) (c:=73) (by decide) (by decide)]
        simp -dsimp (decide:=true) [Sv.nm]
      · rw [show (2:Int)-1=((1:Nat):Int) from rfl,zFH (a:=1) (c:=74) (by decide) (by decide)]
        simp -dsimp (decide:=true) [Sv.nm]
    refine Eq.mpr (zbz rfl rfl rfl hp) ?_
    refine qO (by decide) (by decide) F1.ok fun d M2 d0 d2 F2=>?_
    rcases (show d=0\/d=1 by lia) with rfl | rfl
    · simp -dsimp
      refine hQ hd0 _ _ _ F2.ok fun it M3 q3 F3=>?_
      refine zMT F3.ok fun f l st M4 hf hl hst l1 l2 F4=>?_
      have:=H2 hd0 [it] f l st M4 (by simp) (by simp) (by simpa using q3) hf hl hst l1 l2 (F1.trans (F2.trans (F3.trans F4)))
      simp -dsimp [hv]
      exact this
    · simp -dsimp
      refine hQ hd0 _ _ _ F2.ok fun it M3 q3 F3=>?_
      refine hQ hd0 _ _ _ F3.ok fun jt M4 q4 F4=>?_
      refine zMT F4.ok fun f l st M5 hf hl hst l1 l2 F5=>?_
      have:=H2 hd0 [it,jt] f l st M5 (by simp) (by simp) (by simpa using ⟨q3,q4⟩) hf hl hst l1 l2 (F1.trans (F2.trans (F3.trans (F4.trans F5))))
      simp -dsimp [hv]
      exact this
  · refine Eq.mpr (zby rfl rfl hw) ?_
    by_cases h3:w<3
    · refine Eq.mpr (zcB rfl h3) ?_
      refine zGV F1.ok fun s M2 hs F2=>?_
      exact H1 (.elA s) M2 hs (F1.trans F2)
    refine Eq.mpr (zcA rfl h3) ?_
    by_cases e3:w=3
    · refine Eq.mpr (zWG rfl e3) ?_
      refine zGV F1.ok fun s M2 hs F2=>?_
      refine zGV F2.ok fun t M3 ht F3=>?_
      exact H1 (.elB s t) M3 ⟨hs,ht⟩ (F1.trans (F2.trans F3))
    refine Eq.mpr (zWF rfl e3) ?_
    by_cases e4:w=4
    · refine Eq.mpr (zWG rfl e4) ?_
      refine qO (by decide) (by decide) F1.ok fun d M2 d0 d3 F2=>?_
      refine xE (nij (M:=M2) d0 d3) fun v hv=>?_
      exact oKi hv (H1 (.ex (.var v)) M2 trivial (F1.trans F2))
    refine Eq.mpr (zWF rfl e4) ?_
    by_cases e5:w=5
    · refine Eq.mpr (zWG rfl e5) ?_
      refine qO (by decide) (by decide) F1.ok fun d M2 d0 d3 F2=>?_
      refine xE (abt (M:=M2) d0 d3) fun a ha=>?_
      have:=H1 (.arr a) M2 trivial (F1.trans F2)
      refine oKi ha ?_
      induction a using Ar.casesOn with
      | A=>exact oKi zcU this
      | B=>exact oKi zcV this
      | T=>exact oKi zcW this
    refine Eq.mpr (zWF rfl e5) ?_
    refine zGV F1.ok fun s M2 hs F2=>?_
    exact H1 (.ex s) M2 hs (F1.trans F2)
theorem zdi {n:Nat}(P:qx M pl) (H:∀it M',zQA it->PFr pl M M'->k it.enc M'):yo (n+1) [.ref pl,.int 0] M k kx:=
  zKj (Q:=fun Z=>True) (.inl rfl) P (fun h=>absurd rfl h) H (fun h=>absurd rfl h)
theorem zdj {n:Nat}(P:qx M pl) (H:∀it M',ok1 it->PFr pl M M'->k it.enc M'):yo (n+2) [.ref pl,.int 1] M k kx:=
  zKj (Q:=zQA) (.inr (.inl rfl)) P (fun Z M k kx P H=>zdi P H) (fun it M' hl F=>H it M' (.inl hl) F)
    fun Z its f l st M' n1 n2 hi hf hl hst l1 l2 F=>H _ M' (.inr (zNw its f l st rfl ⟨n1,by lia,hf,hl,hst⟩ hi)) F
theorem zdk {n:Nat}(P:qx M pl) (H:∀it M',ok2 it->PFr pl M M'->k it.enc M'):yo (n+3) [.ref pl,.int 2] M k kx:=
  zKj (Q:=ok1) (.inr (.inr rfl)) P (fun Z M k kx P H=>zdj P H) (fun it M' hl F=>H it M' (.inl (.inl hl)) F)
    fun Z its f l st M' n1 n2 hi hf hl hst l1 l2 F=>H _ M' (.inr (zMa its f l st rfl ⟨n1,by lia,hf,hl,hst⟩ hi l1 l2)) F
end
section
variable {M M':Mem}{k:PV->Mem->Prop}{kx:Mem->Prop}{pl h:Nat}{σ:Sto}{lo:List (Option PV)}
@[simp ↓] theorem zVS {c:MO}:yr c ⟨lo,M⟩ k kx=((c=.sdict []\/c=.tdict [])/\k (.ref M.n) (M.new c)):=rfl
noncomputable def zGw:Sto:=⟨fun Z=>none,fun Z=>false⟩
theorem zMg {N:Mem}(P:qx M pl) (h:N.c pl=M.c pl):qx N pl:=by
  refine xEA P fun ns a b=>?_
  exact (iEA ns (h.trans a) b)
theorem zSB {v:Sv}{kn:St->Prop}{kr:PV->Mem->Prop}{kxs:St->Prop}(hpl:pl<h) (P:qx M pl) (H:zy M h σ 0) (hs:∀a,∀x,σ.num a=some x->x.natAbs<=4)
    (K:∀M' σ' ,qx M' pl->zy M' h σ' 0->(∀a,∀x,σ'.num a=some x->x.natAbs<=4)->M'.n=M.n->(∀i,i≠pl->(i<h\/h+6<=i)->M'.c i=M.c i)->kn ⟨[some (.ref pl),some (yO h),some (.str v.nm)],M'⟩) :
    (zK (zw (yA .Lt (zO zn (zD (zF 0) (zD (zC (.int 6)) zM))) (zC (.int 5))) (zK (zCY (zZ (zF 1) (zF 2)) (zp zM) (ye .Sub (zO zn (zD (zF 0) (zD (zC (.int 5)) zM))) (zC (.int 1)))) zJ) zJ) zJ) ⟨[some (.ref pl),some (yO h),some (.str v.nm)],M⟩ kn kr kxs:=by
  simp -dsimp
  refine qO (by decide) (by decide) P fun w M1 w0 w6 F1=>?_
  have H1:zy M1 h σ 0:=H.keep (Nat.le_refl _) fun j hj Z=>F1.c j (by lia)
  by_cases h5:w<5
  · simp -dsimp [h5]
    refine qO (by decide) (by decide) F1.ok fun d M2 d0 d5 F2=>?_
    have H2:zy M2 h σ 0:=H1.keep (Nat.le_refl _) fun j hj Z=>F2.c j (by lia)
    have hn:v.nm=v.vn.nm:=by induction v using Sv.casesOn<;>rfl
    have hg:=zEG (M:=M2) (h:=h) v.vn
    rw [← hn] at hg
    refine qh (zNu H2 v) fun kvs hk ha hk1=>?_
    have hset:zDL M2 (.ref (h+v.vn.idx)) (.tup []) (.int (d-1))=some (M2.set (h+v.vn.idx) (.tdict (stk kvs [] (.int (d-1))))):=zOd hk rfl (by lia)
    have hv6:v.vn.idx<6:=by induction v using Sv.casesOn<;>decide
    simp -dsimp [hg,hset]
    refine K _ (σ.setN v.ad (d-1)) (zMg F2.ok (by rw [qS,if_neg (by lia)])) (zy.putS H2 hk (fun j Z Z=>by rw [qS])) (fun a x hx=>?_) (by rw [zQV,F2.n,F1.n]) (fun i hi hi'=>by rw [qS,if_neg (by lia),F2.c i hi,F1.c i hi])
    simp only [Sto.setN] at hx
    split at hx
    · refine sE hx ?_;clear hx;rintro rfl;lia
    · exact hs a x hx
  · simp -dsimp [h5]
    exact K M1 σ F1.ok H1 hs F1.n fun i hi Z=>F1.c i hi
noncomputable def zUR (M:Mem):Mem:=(((((M.new (.tdict [])).new (.tdict [])).new (.tdict [])).new (.tdict [])).new (.tdict [])).new (.tdict [])
theorem zVz:(zHQ .dct (yj (zC (.str "A")) (yr (.tdict [])) (yj (zC (.str "B")) (yr (.tdict [])) (yj (zC (.str "T")) (yr (.tdict [])) (yj (zC (.str "I")) (yr (.tdict [])) (yj (zC (.str "J")) (yr (.tdict [])) (yj (zC (.str "N")) (yr (.tdict [])) zHS))))))) ⟨lo,M⟩ k kx=k (yO M.n) (zUR M):=by
  have h:∀{p:Prop},((MO.tdict []=.sdict []\/MO.tdict []=.tdict [])/\p)=p:=propext (and_iff_right (.inr rfl))
  refine h.trans (h.trans (h.trans (h.trans (h.trans (h.trans ?_)))))
  exact propext (and_iff_right (show (["A","B","T","I","J","N"]:List Str).Nodup by decide))
def bSt:zX:=(zK (zw (yA .Lt (zO zn (zD (zF 0) (zD (zC (.int 6)) zM))) (zC (.int 5))) (zK (zCY (zZ (zF 1) (zF 2)) (zp zM) (ye .Sub (zO zn (zD (zF 0) (zD (zC (.int 5)) zM))) (zC (.int 1))))
  zJ) zJ)
  zJ)
theorem zSC:zFl=zK (zx 1 (zHQ .dct (yj (zC (.str "A")) (yr (.tdict [])) (yj (zC (.str "B")) (yr (.tdict [])) (yj (zC (.str "T")) (yr (.tdict [])) (yj (zC (.str "I")) (yr (.tdict [])) (yj (zC (.str "J")) (yr (.tdict [])) (yj (zC (.str "N")) (yr (.tdict [])) zHS)))))))) (zK (zFa (yv 2) (zp (zD (zC (.str "N")) (zD (zC (.str "I")) (zD (zC (.str "J")) zM)))) bSt) (zK (zj (zF 1)) zJ)):=rfl
theorem zYl:zy (zUR M) M.n zGw 0/\(zUR M).n=M.n+6/\∀i,i<M.n->(zUR M).c i=M.c i:=by
  refine ⟨fun v=>(iEA [] ?_ ⟨fun i s p h1 h2=>?_,fun kv hm=>(nomatch hm),by simp,by simp⟩),rfl,fun i hi=>?_⟩
  · induction v using Vn.casesOn<;>simp -dsimp [zUR,Vn.idx]<;>lia
  · induction p using Pl.casesOn<;>rfl
  · have step:∀(N:Mem) o,i<N.n->(N.new o).c i=N.c i:=fun N o hN=>by rw [zCu,if_neg (by lia)]
    unfold zUR
    rw [step _ _ (by simp only [zCv];lia),step _ _ (by simp only [zCv];lia),step _ _ (by simp only [zCv];lia),step _ _ (by simp only [zCv];lia),step _ _ (by simp only [zCv];lia),step _ _ (by lia)]
theorem zXN (hpl:pl<M.n) (P:qx M pl) (K:∀M' σ,qx M' pl->zy M' M.n σ 0->(∀a x,σ.num a=some x->x.natAbs<=4)->M'.n=M.n+6->(∀i,i≠pl->i<M.n->M'.c i=M.c i)->k (yO M.n) M'):zBz [.ref pl] M k kx:=by
  refine xAA (zYl (M:=M)) fun H0 n0 c0=>?_
  rw [zBz,zdX,zSC]
  rw [yf,zAk,zVz,yf,zVT]
  have c1:∀(k:PV->Mem->Prop) (kx:Mem->Prop) (lo:List (Option PV)) (N:Mem),(zp (zD (zC (.str "N")) (zD (zC (.str "I")) (zD (zC (.str "J")) zM)))) ⟨lo,N⟩ k kx=k (.tup [.str "N",.str "I",.str "J"]) N:=fun k kx lo N=>by simp
  rw [c1,zaQ,zAT,zHU,zOO,yv,zAT]
  refine zSB (v:=.N) (h:=M.n) hpl (zMg P (c0 pl hpl)) H0 (fun a x hx=>by exact zW hx) fun M1 σ1 P1 H1 s1 n1 f1=>?_
  rw [zHU,zOO,yv,zAT]
  refine zSB (v:=.I) (h:=M.n) hpl P1 H1 s1 fun M2 σ2 P2 H2 s2 n2 f2=>?_
  rw [zHU,zOO,yv,zAT]
  refine zSB (v:=.J) (h:=M.n) hpl P2 H2 s2 fun M3 σ3 P3 H3 s3 n3 f3=>?_
  rw [zJa,zOO,yf,zNM,ev1]
  refine K M3 σ3 P3 H3 s3 (by lia) fun i hi hi'=>?_
  rw [f3 i hi (.inl hi'),f2 i hi (.inl hi'),f1 i hi (.inl hi'),c0 i hi']
end
def bO:zX:=(zK (zST (yv 3) (zZ (zF 0) (zF 2)) (zK (qZ (yc (zF 1) (yz 210 "store" zs) (zD (zO yW (zD (zF 2) (zD (zF 3) zM))) (zD (zZ (zZ (zF 0) (zF 2)) (zF 3)) zM))))
  zJ))
  zJ)
def bI:zX:=(zK (qZ (yc (zF 1) (yz 210 "store" zs) (zD (zO yW (zD (zF 2) (zD (zF 3) zM))) (zD (zZ (zZ (zF 0) (zF 2)) (zF 3)) zM))))
  zJ)
section
variable {M M':Mem}{k:PV->Mem->Prop}{kx:Mem->Prop}{b h:Nat}{σ τ:Sto}{lo:List (Option PV)}
theorem zYE {a b:Den}:zKB a b ⟨lo,M⟩ k kx=a ⟨lo,M⟩ (fun x M=>b ⟨lo,M⟩ (fun y M=>∃xs n,x=.lst xs/\y=.int n/\0<=n/\n<=1000/\xs.length<=10/\k (.ref M.n) (M.new (.list (List.replicate n.toNat xs).flatten))) kx) kx:=rfl
noncomputable def zME (M:Mem):Mem:=⟨M.n+3,fun i=>if i=M.n then .sdict [("numeric",.ref (M.n+1)),("characters",.ref (M.n+2))] else if i=M.n+1 then .list (qz zGw) else if i=M.n+2 then .list (qC zGw) else M.c i⟩
theorem zMX:∀n:Nat,(List.replicate n [PV.none]).flatten=List.replicate n .none
  | 0=>rfl
  | n+1=>by rw [List.replicate_succ,List.flatten_cons,zMX n];rfl
theorem zQD {a:Den}{n:Nat}(hn:n<=1000) (ha:∀(k:PV->Mem->Prop) kx,a ⟨lo,M⟩ k kx=k (.int n) M):zKB (zFb (zD (zC .none) zM)) a ⟨lo,M⟩ k kx=k (.ref M.n) (M.new (.list (List.replicate n .none))):=by
  simp -dsimp only [zYE,zVU,qQ,zCF,zAS,el1,ha]
  have e:=zMX n
  refine propext ⟨fun h=>zHq h fun xs m h1 h2 Z Z Z h=>?_,fun h=>⟨_,_,rfl,rfl,by lia,by lia,by simp,?_⟩⟩
  · cases h1;cases h2;rw [← e];exact h
  · rw [Int.toNat_natCast,e];exact h
theorem zUQ:zGD [.int 12,.int 4] M k kx=k (.inst 210 M.n) (zME M):=by
  have m12:∀(x0 x2:Option PV) (N:Mem) (k:PV->Mem->Prop) kx,zKB (zFb (zD (zC .none) zM)) (zF 1) ⟨[x0,some (.int 12),x2],N⟩ k kx=k (.ref N.n) (N.new (.list (List.replicate 12 .none))):=fun x0 x2 N k kx =>
    zQD (n:=12) (by decide) fun k kx=>rfl
  have m4:∀(x0 x1:Option PV) (N:Mem) (k:PV->Mem->Prop) kx,zKB (zFb (zD (zC .none) zM)) (zF 2) ⟨[x0,x1,some (.int 4)],N⟩ k kx=k (.ref N.n) (N.new (.list (List.replicate 4 .none))):=fun x0 x1 N k kx =>
    zQD (n:=4) (by decide) fun k kx=>rfl
  have q1:∀a:Nat,¬a=a+1+1:=by lia
  simp -dsimp (decide:=true) [zGD,zNP,zEW,zEM,↓m12,↓m4,zEI,stk,q1]
  have:∀{a c:Mem},a=c->(k (.inst 210 M.n) a↔k (.inst 210 M.n) c):=fun h=>by rw [h]
  refine this (Mem.ext' (by rfl) fun i=>?_)
  simp only [qS,zCu,zCv,zQV,zME]
  by_cases h0:i=M.n
  · simp -dsimp [h0]
  · by_cases h1:i=M.n+1
    · simp -dsimp [h1,qz,zGw,qR]
    · by_cases h2:i=M.n+2
      · simp -dsimp [h2,qC,zGw,zIm]
      · simp -dsimp [h0,h1,h2]
structure zCA (M:Mem) (b:Nat) (σ:Sto):Prop where
  mem:M.c b=.sdict [("numeric",.ref (b+1)),("characters",.ref (b+2))]
  num:M.c (b+1)=.list (qz σ)
  chr:M.c (b+2)=.list (qC σ)
theorem zCA.numeric (R:zCA M b σ):zAd [210] M (.inst 210 b) "numeric" = some (.ref (b+1)):=yx (.head _) R.mem rfl
theorem zCA.characters (R:zCA M b σ):zAd [210] M (.inst 210 b) "characters" = some (.ref (b+2)):=yx (.head _) R.mem rfl
theorem zCA.mstore (R:zCA M b σ):yz 210 "store" zs (.inst 210 b) M=some zs:=zEi R.mem rfl
theorem zCA.store (R:zCA M b σ) {p:Pl}{v:Int}(hp:p.ok):zs [.inst 210 b,p.enc,p.val v] M k kx=k .none (stM M b σ p v):=by
  simp only [zs,zCB]
  induction p using Pl.casesOn with
  | num a=>simp -dsimp [Pl.enc,Pl.val,R.numeric,↓zMo R.num hp,stM,Sto.put]
  | txt j=>simp -dsimp [Pl.enc,Pl.val,R.characters,↓zWj,↓zMp (v:=v) R.chr hp,stM]
theorem zCA.st (R:zCA M b σ) (p:Pl) (v:Int):zCA (stM M b σ p v) b (σ.put p v):=by
  induction p using Pl.casesOn with
  | num a=>exact ⟨by simp -dsimp [stM,R.mem],by simp -dsimp [stM],by simp -dsimp [stM,R.chr,qC,Sto.put,Sto.setN]⟩
  | txt j=>exact ⟨by simp -dsimp [stM,R.mem],by simp -dsimp [stM,R.num,qz,Sto.put],by simp -dsimp [stM]⟩
theorem zCA.keep {N:Mem}(R:zCA M b σ) (h:∀i,b<=i->i<=b+2->N.c i=M.c i):zCA N b σ:=
  ⟨(h _ (by lia) (by lia)).trans R.mem,(h _ (by lia) (by lia)).trans R.num,(h _ (by lia) (by lia)).trans R.chr⟩
theorem zYj:zCA (zME M) M.n zGw/\(zME M).n=M.n+3/\∀i,i<M.n->(zME M).c i=M.c i:=by
  refine ⟨⟨?_,?_,?_⟩,rfl,fun i hi=>?_⟩
  · simp -dsimp [zME]
  · simp -dsimp [zME]
  · simp -dsimp [zME]
  · show (if i=M.n then _ else if i=M.n+1 then _ else if i=M.n+2 then _ else M.c i)=_
    rw [if_neg (by lia),if_neg (by lia),if_neg (by lia)]
theorem zac {v:Vn}{i:Nat}{p:Pl}(h:v.pls[i]?=some p):p.ok:=by
  induction v using Vn.casesOn
  · match i,h with
    | 0,h=>refine sE h ?_;clear h;rintro rfl;exact show 3<12 by decide
    | 1,h=>refine sE h ?_;clear h;rintro rfl;exact show 4<12 by decide
    | 2,h=>refine sE h ?_;clear h;rintro rfl;exact show 5<12 by decide
    | n+3,h=>simp -dsimp [Vn.pls,yZ] at h
  · match i,h with
    | 0,h=>refine sE h ?_;clear h;rintro rfl;exact show 6<12 by decide
    | 1,h=>refine sE h ?_;clear h;rintro rfl;exact show 7<12 by decide
    | 2,h=>refine sE h ?_;clear h;rintro rfl;exact show 8<12 by decide
    | 3,h=>refine sE h ?_;clear h;rintro rfl;exact show 9<12 by decide
    | 4,h=>refine sE h ?_;clear h;rintro rfl;exact show 10<12 by decide
    | 5,h=>refine sE h ?_;clear h;rintro rfl;exact show 11<12 by decide
    | n+6,h=>simp -dsimp [Vn.pls,yZ] at h
  · match i,h with
    | 0,h=>refine sE h ?_;clear h;rintro rfl;exact show 0<2 by decide
    | 1,h=>refine sE h ?_;clear h;rintro rfl;exact show 1<2 by decide
    | n+2,h=>simp -dsimp [Vn.pls,yZ] at h
  · match i,h with
    | 0,h=>refine sE h ?_;clear h;rintro rfl;exact show 0<12 by decide
    | n+1,h=>simp -dsimp [Vn.pls,yZ] at h
  · match i,h with
    | 0,h=>refine sE h ?_;clear h;rintro rfl;exact show 1<12 by decide
    | n+1,h=>simp -dsimp [Vn.pls,yZ] at h
  · match i,h with
    | 0,h=>refine sE h ?_;clear h;rintro rfl;exact show 2<12 by decide
    | n+1,h=>simp -dsimp [Vn.pls,yZ] at h
theorem zUh {v:Vn}{i:Nat}{s:List Int}(h:v.seats[i]?=some s):∃p,v.pls[i]?=some p:=by
  have:v.seats.length=v.pls.length:=by induction v using Vn.casesOn<;>rfl
  have hi:=(List.getElem?_eq_some_iff.mp h).1
  exact ⟨_,List.getElem?_eq_getElem (this ▸ hi)⟩
theorem zXk {kvs:List (List Int×PV)}{kv:List Int×PV}(h:kv∈kvs):∃w,atk kvs kv.1=some w:=by
  induction kvs with
  | nil=>nomatch h
  | cons a r ih =>
    unfold atk
    by_cases e:a.1=kv.1
    · rw [if_pos e];exact ⟨_,rfl⟩
    · rw [if_neg e]
      rcases List.mem_cons.mp h with rfl | h
      · exact absurd rfl e
      · exact ih h
theorem zXl {kvs:List (List Int×PV)}{s:List Int}(h:s ∉ kvs.map (·.1)):atk kvs s=none:=by
  induction kvs with
  | nil=>rfl
  | cons a r ih =>
    unfold atk
    simp only [List.map_cons,List.mem_cons,not_or] at h
    rw [if_neg (fun q=>h.1 q.symm)]
    exact ih h.2
theorem zVF {p:Pl}{w:PV}(h:zBT σ p=some w):∃x:Int,w=p.val x:=by
  induction p using Pl.casesOn with
  | num a =>
    simp -dsimp [zBT] at h
    refine xEA h ?_;clear h;intro x _ z1;subst z1
    exact ⟨x,rfl⟩
  | txt j =>
    simp only [zBT] at h
    split at h
    · refine sE h ?_;clear h;rintro rfl;exact ⟨0,rfl⟩
    · exact zW h
theorem zYd {v:Vn}{kvs:List (List Int×PV)}{n:Nat}{o:Obj}{M₀:Mem}{kr:PV->Mem->Prop}{kx:St->Prop}(hb:h+6<=b) (O:HOk kvs v σ n):∀(rest:List (List Int×PV)),(∀kv∈rest,kv∈kvs)->∀(M:Mem) (τ:Sto) (x3 x4:Option PV) (kn:St->Prop),zCA M b τ->M.c (h+v.idx)=.pin o kvs->M₀.c (h+v.idx)=.pin o kvs->(∀(i:Nat) s p,v.seats[i]?=some s->v.pls[i]?=some p->s ∉ rest.map (·.1)->zBT τ p=zBT σ p) ->
    (∀M' τ' x3',zCA M' b τ'->M'.n=M.n->(∀i,i≠b+1->i≠b+2->M'.c i=M.c i)->(∀(i:Nat) p,v.pls[i]?=some p->zBT τ' p=zBT σ p)->(∀u,u≠v->∀(i:Nat) p,u.pls[i]?=some p->zBT τ' p=zBT τ p)->kn ⟨[some (yO h),some (.inst 210 b),some (.str v.nm),x3',x4],M'⟩) ->
    zCJ (yv 3) bI (.ref (h+v.idx)) M₀ (rest.map fun kv=>.tup (kv.1.map .int)) ⟨[some (yO h),some (.inst 210 b),some (.str v.nm),x3,x4],M⟩ kn kr kx:=by
  intro q0
  induction q0 with
  | nil =>
    intro hr M τ x3 x4 kn R hp hp0 hA K
    rw [List.map_nil,zJa]
    refine ⟨hp.trans hp0.symm,K M τ x3 R rfl (fun Z Z Z=>rfl) (fun i p h2=>?_) fun Z Z Z Z Z=>rfl⟩
    have hl:v.seats.length=v.pls.length:=by induction v using Vn.casesOn<;>rfl
    have hi:=(List.getElem?_eq_some_iff.mp h2).1
    exact hA i _ p (List.getElem?_eq_getElem (hl ▸ hi)) h2 (by simp)
  | cons kv r ih =>
    intro hr M τ x3 x4 kn R hp hp0 hA K
    have hv6:v.idx<6:=by induction v using Vn.casesOn<;>decide
    refine xE (List.mem_iff_getElem?.mp (O.ks kv (hr kv (.head _)))) fun i hi=>?_
    refine xE (zUh hi) fun p hpl=>?_
    refine xE (zXk (hr kv (.head _))) fun w hw=>?_
    have hc:=O.at_ i kv.1 p hi hpl
    rw [hw] at hc
    refine xE (zVF hc.symm) fun x hx=>?_
    have ad:=fun k kx=>zSM (M:=M) (k:=k) (kx:=kx) v hi hpl
    have st:=fun k kx=>R.store (k:=k) (kx:=kx) (v:=x) (zac hpl)
    have hg:=zEG (M:=M) (h:=h) v
    have hg2:qa M (.ref (h+v.idx)) (zDS kv.1)=some (p.val x):=by
      show zVm _ (M.c _)=_
      rw [hp]
      show (zDK _).bind _=_
      rw [zPu,Option.bind_some,hw,hx]
    rw [List.map_cons,zHU,yv,zAT]
    refine ⟨hp.trans hp0.symm,?_⟩
    show bI ⟨[some (yO h),some (.inst 210 b),some (.str v.nm),some (zDS kv.1),x4],M⟩ _ _ _
    have ne1:h+v.idx≠b+1:=by lia
    have ne2:h+v.idx≠b+2:=by lia
    have go:=ih (fun q hq=>hr q (.tail _ hq)) (stM M b τ p x) (τ.put p x) (some (zDS kv.1)) x4 kn (R.st p x) (by rw [zFY ne1 ne2,hp]) hp0 (fun j s q h1 h2 hn=>?_) (fun M' τ' x3' R' hn hc' h1 h2=>K M' τ' x3' R' (by rw [hn,zHl]) (fun i e1 e2=>by rw [hc' i e1 e2,zFY e1 e2]) h1 (fun u hu j q hq=>?_))
    · unfold bI
      simp -dsimp [R.mstore,↓ad,hg,↓hg2,↓st]
      exact go
    · rw [zGH]
      by_cases e:q=p
      · rw [if_pos e,e,← hx];exact hc
      · rw [if_neg e]
        refine hA j s q h1 h2 ?_
        simp only [List.map_cons,List.mem_cons,not_or]
        refine ⟨fun z=>e ?_,hn⟩
        rw [z] at h1
        have:=zMl h1 hi
        rw [this,hpl] at h2
        exact (Option.some.inj h2).symm
    · rw [h2 u hu j q hq,zGH,if_neg]
      intro z
      have a:=zIc hq
      rw [z,zIc hpl] at a
      exact hu (Prod.mk.inj a).1.symm
theorem zYD {tg:Tg}{a:Den}{b:zX}{kn:St->Prop}{kr:PV->Mem->Prop}{kxs:St->Prop}:zST tg a b ⟨lo,M⟩ kn kr kxs=a ⟨lo,M⟩ (fun p M=>∃i kvs,p=.ref i/\M.c i=.tdict kvs/\∀o,zCJ tg b p (M.set i (.pin o kvs)) (kvs.map fun kv=>.tup (kv.1.map .int)) ⟨lo,M.set i (.pin o kvs)⟩ (fun st'=>kn ⟨st'.lo,st'.mem.set i (.tdict kvs)⟩) kr kxs) (fun M=>kxs ⟨lo,M⟩):=rfl
theorem zSp {n:Nat}{M₀:Mem}{pd:PV}{kr:PV->Mem->Prop}{kx:St->Prop}(hb:h+6<=b) (hpd:∃a c,pd=.dct a c):∀(vs:List Vn),vs.Nodup->∀(M:Mem) (τ:Sto) (x2 x3 x4:Option PV) (kn:St->Prop),zy M h σ n->zCA M b τ->(∀(u:Vn),∀(i:Nat) p,u.pls[i]?=some p->zBT τ p=if u∈vs then none else zBT σ p) ->
    (∀M' τ' x2' x3',zCA M' b τ'->M'.n=M.n->(∀i,i≠b+1->i≠b+2->M'.c i=M.c i)->(∀(u:Vn) (i:Nat) p,u.pls[i]?=some p->zBT τ' p=zBT σ p)->kn ⟨[some (yO h),some (.inst 210 b),x2',x3',x4],M'⟩) ->
    zCJ (yv 2) bO pd M₀ (vs.map fun v=>.str v.nm) ⟨[some (yO h),some (.inst 210 b),x2,x3,x4],M⟩ kn kr kx
  | [],_,M,τ,x2,x3,x4,kn,H,R,hA,K=>by
    refine xEE hpd ?_;clear hpd;intro a c z2;subst z2
    rw [List.map_nil,zJa]
    exact K M τ x2 x3 R rfl (fun Z Z Z=>rfl) fun u i p hp=>by have:=hA u i p hp;simpa using this
  | v::vs,nd,M,τ,x2,x3,x4,kn,H,R,hA,K=>by
    have hpd':=hpd
    refine xEE hpd ?_;clear hpd;intro a c z3;subst z3
    have hv6:v.idx<6:=by induction v using Vn.casesOn<;>decide
    refine xEA (H v) fun kvs hk O=>?_
    have hg:=zEG (M:=M) (h:=h) v
    rw [List.map_cons,zHU,yv,zAT,zai]
    show bO ⟨[some (yO h),some (.inst 210 b),some (.str v.nm),x3,x4],M⟩ _ _ _
    unfold bO
    rw [yf,zYD,zVW,ev0,ev2]
    refine zCw hg (yS (h+v.idx) kvs rfl hk (fun o=>?_))
    refine zYd (kr:=kr) (kx:=kx) hb O kvs (fun Z q=>q) (M.set (h+v.idx) (.pin o kvs)) τ x3 x4 _ (R.keep fun i Z Z=>by rw [qS,if_neg (by lia)]) (by rw [qS,if_pos rfl]) (by rw [qS,if_pos rfl]) (fun i s p h1 h2 hn=>?_) fun M' τ' x3' R' hn hc h1 h2=>?_
    · have e1:=hA v i p h2
      rw [if_pos (.head _)] at e1
      rw [e1,← O.at_ i s p h1 h2,zXl hn]
    · rw [zNO]
      have hc2:∀i,i≠b+1->i≠b+2->(M'.set (h+v.idx) (.tdict kvs)).c i=M.c i:=fun i e1 e2=>by
        by_cases e:i=h+v.idx
        · rw [e,qS,if_pos rfl,hk]
        · rw [qS,if_neg e,hc i e1 e2,qS,if_neg e]
      refine zSp hb hpd' vs (List.nodup_cons.mp nd).2 _ τ' (some (.str v.nm)) x3' x4 kn (H.keep (Nat.le_refl _) fun j g1 g2=>hc2 j (by lia) (by lia)) (R'.keep fun i Z Z=>by rw [qS,if_neg (by lia)]) (fun u i p hp=>?_) fun M'' τ'' x2' x3'' R'' hn'' hc'' hA''=>K M'' τ'' x2' x3'' R'' (by rw [hn'',zQV,hn,zQV]) (fun i e1 e2=>by rw [hc'' i e1 e2,hc2 i e1 e2]) hA''
      by_cases e:u=v
      · subst e
        rw [if_neg (List.nodup_cons.mp nd).1]
        exact h1 i p hp
      · rw [h2 u e i p hp,hA u i p hp]
        by_cases hm:u∈vs
        · rw [if_pos hm,if_pos (.tail _ hm)]
        · rw [if_neg hm,if_neg (by simp -dsimp [e,hm])]
theorem zWU {y:Str}{v:PV}(l:List (Str×PV)):(stk l y v).length<=l.length+1:=by
  induction l with
  | nil=>exact Nat.le_refl _
  | cons p r ih =>
    unfold stk
    split
    · exact Nat.le_succ _
    · exact Nat.succ_le_succ ih
theorem zQE {M₀:Mem}{ps:List PV}{v:PV}{kn:St->Prop}{kr:PV->Mem->Prop}{kx:St->Prop}(xs:List Str):∀(kvs:List (Str×PV)) (x1:Option PV),kvs.length+xs.length<=1000 ->
    zCJ (yv 1) (zK (zCY (zF 0) (zF 1) (zC v)) zJ) (.tup ps) M₀ (xs.map .str) ⟨[some (.ref M.n),x1],M.new (.sdict kvs)⟩ kn kr kx =
      kn ⟨[some (.ref M.n),xs.foldl (fun Z y=>some (.str y)) x1],M.new (.sdict (xs.foldl (fun l y=>stk l y v) kvs))⟩:=by
  induction xs with
  | nil=>intro kvs x1 hl;rfl
  | cons y r ih =>
    intro kvs x1 hl
    have hl':kvs.length+r.length+1<=1000:=hl
    have hs:zDL (M.new (.sdict kvs)) (.ref M.n) (.str y) v=some (M.new (.sdict (stk kvs y v))):=by
      rw [zam (kvs:=kvs) (by rw [zCu,if_pos rfl]) (by lia),zYm]
    refine Eq.trans ?_ (ih (stk kvs y v) (some (.str y)) (by have:=zWU (y:=y) (v:=v) kvs;lia))
    show oK (fun M'=>zCJ _ _ _ M₀ _ ⟨_,M'⟩ kn kr kx) .mk (zDL _ _ _ _)=_
    rw [hs];rfl
theorem zWp:y0 [] M k kx=k (.ref M.n) (M.new (.sdict zFT)):=by
  simp only [y0,zdV,zBQ]
  rw [yf,zAk]
  have nd:((zFT.take 3).map (·.1)).Nodup:=by decide
  refine (propext (and_iff_right nd)).trans ?_
  refine (zQE (v:=.glob (.ref 385)) ["add","sub","mul","div","pow","powi","and","or","eqv","neqv"] (zFT.take 3) none (by decide)).trans ?_
  refine (zQE (v:=.glob (.ref 392)) ["eq","ne","lt","le","gt","ge"] _ _ (by decide +kernel)).trans ?_
  exact congrArg (fun l=>k (.ref M.n) (M.new (.sdict l))) (by kernel_rfl)
theorem zOp:qG [] M k kx=k zHf M:=
  zZx.trans (propext (and_iff_right (show ([0,4]:List Int).Nodup by decide)))
theorem zUM:zHm [] M k kx=k (.inst 494 M.n) (M.new (.sdict zCI)):=by simp -dsimp [zHm]
end
section
variable {M M':Mem}{k:PV->Mem->Prop}{kx:Mem->Prop}{b h:Nat}{σ τ:Sto}{lo:List (Option PV)}
structure zFR (M:Mem) (r n:Nat) (kvs:List (Str×PV)) (N:Mem):Prop where
  c:N.c r=.sdict kvs
  sz:N.n=n
  k:∀i,i<r->N.c i=M.c i
  rn:r<n
theorem zFR.setA {r n:Nat}{kvs:List (Str×PV)}{N:Mem}{C:Addr}{name:Str}{x:PV}(O:zFR M r n kvs N) (hl:kvs.length<=100):zEI [C] N (.inst C r) name x=some (N.set r (.sdict (stk kvs name x)))/\zFR M r n (stk kvs name x) (N.set r (.sdict (stk kvs name x))):=by
  refine ⟨zGA (.head _) O.c hl,by rw [qS,if_pos rfl],O.sz,fun i hi=>by rw [qS,if_neg (by lia)];exact O.k i hi,O.rn⟩
theorem zFR.new {r n:Nat}{kvs:List (Str×PV)}{N:Mem}{o:MO}(O:zFR M r n kvs N):zFR M r (n+1) kvs (N.new o):=by
  have h1:=O.rn
  have h2:=O.sz
  exact ⟨by rw [zCu,if_neg (by lia)];exact O.c,by rw [zCv,h2],fun i hi=>by rw [zCu,if_neg (by lia)];exact O.k i hi,by lia⟩
theorem zHa:∀(kvs:List (Str×PV)) (a:Str) (x:PV),(stk kvs a x).length<=kvs.length+1
  | [],_,_=>by simp -dsimp [stk]
  | (c,y)::r,a,x=>by
    unfold stk
    split
    · simp -dsimp
    · simp;exact zHa r a x
theorem zIw {r n m:Nat}{kvs:List (Str×PV)}{N:Mem}{name:Str}{x:PV}{kn:St->Prop}{kr:PV->Mem->Prop}{kxs:St->Prop}{rest:zX}(O:zFR M r n kvs N) (hl:kvs.length<=m) (hm:m<=100) (h0:qD lo 0=some (.inst 313 r)) (a:Den) (ha:∀(k:PV->Mem->Prop) kx,a ⟨lo,N⟩ k kx=k x N)
    (K:∀N',zFR M r n (stk kvs name x) N'->(stk kvs name x).length<=m+1->rest ⟨lo,N'⟩ kn kr kxs):zK (yp [313] (zF 0) name a) rest ⟨lo,N⟩ kn kr kxs:=by
  refine xA (O.setA (C:=313) (name:=name) (x:=x) (Nat.le_trans hl hm)) fun e O'=>?_
  rw [yf,zNN,ha,qf]
  exact zCw h0 (zCw e (K _ O' (Nat.le_trans (zHa _ _ _) (Nat.succ_le_succ hl))))
theorem zLD {r n m:Nat}{kvs:List (Str×PV)}{N:Mem}{name:Str}{o:MO}{kn:St->Prop}{kr:PV->Mem->Prop}{kxs:St->Prop}{rest:zX}(O:zFR M r n kvs N) (hl:kvs.length<=m) (hm:m<=100) (h0:qD lo 0=some (.inst 313 r)) (a:Den) (ha:∀(k:PV->Mem->Prop) kx,a ⟨lo,N⟩ k kx=k (.ref N.n) (N.new o))
    (K:∀N',zFR M r (n+1) (stk kvs name (.ref n)) N'->(stk kvs name (.ref n)).length<=m+1->rest ⟨lo,N'⟩ kn kr kxs):zK (yp [313] (zF 0) name a) rest ⟨lo,N⟩ kn kr kxs:=by
  refine xA ((O.new (o:=o)).setA (C:=313) (name:=name) (x:=.ref n) (Nat.le_trans hl hm)) fun e O'=>?_
  rw [yf,zNN,ha,qf]
  exact zCw h0 (zCw (by rw [O.sz];exact e) (K _ O' (Nat.le_trans (zHa _ _ _) (Nat.succ_le_succ hl))))
noncomputable def zON (m l u e s:PV) (r:Nat):List (Str×PV):=[("memory",m),("limits",l),("units",u),("world",.none),("expressions",e),("statements",s),("frame",.ref (r+1)),("depth",.int 0),("steps",.int 0),
  ("places",.ref (r+2)),("flows",.ref (r+3)),("clears",.ref (r+4)),("active",.ref (r+5)),("loops",.ref (r+6)),("operations",.ref (r+7))]
theorem zah {m l u e s:PV}(K:∀N,zFR M M.n (M.n+8) (zON m l u e s M.n) N->k (.inst 313 M.n) N):zQh [m,l,u,.none,e,s] M k kx:=by
  simp only [zQh,zNP,zHG,zdd,zGn]
  have O0:zFR M M.n (M.n+1) [] (M.new (.sdict [])):=⟨by rw [zCu,if_pos rfl],rfl,fun i hi=>by rw [zCu,if_neg (by lia)],by lia⟩
  have d0:∀(lo:List (Option PV)) (N:Mem) (k:PV->Mem->Prop) kx,yr (.sdict []) ⟨lo,N⟩ k kx=k (.ref N.n) (N.new (.sdict [])):=fun lo N k kx=>by simp
  have n0:∀(lo:List (Option PV)) (N:Mem) (k:PV->Mem->Prop) kx,zHR zM ⟨lo,N⟩ k kx=k (.ref N.n) (N.new (.list [])):=fun lo N k kx=>by simp
  have dv:∀(i:Nat) (p:PV) (lo:List (Option PV)) (N:Mem),qD lo i=some p->∀(k:PV->Mem->Prop) kx,zF i ⟨lo,N⟩ k kx=k p N:=fun i p lo N h k kx=>by rw [qf];exact zSz h
  have l0:([]:List (Str×PV)).length<=0:=Nat.le_refl 0
  refine zIw O0 l0 (by decide) rfl _ (dv 1 m _ _ rfl) fun N1 O1 l1=>?_
  refine zIw O1 l1 (by decide) rfl _ (dv 2 l _ _ rfl) fun N2 O2 l2=>?_
  refine zIw O2 l2 (by decide) rfl _ (dv 3 u _ _ rfl) fun N3 O3 l3=>?_
  refine zIw O3 l3 (by decide) rfl _ (dv 4 .none _ _ rfl) fun N4 O4 l4=>?_
  refine zIw O4 l4 (by decide) rfl _ (dv 5 e _ _ rfl) fun N5 O5 l5=>?_
  refine zIw O5 l5 (by decide) rfl _ (dv 6 s _ _ rfl) fun N6 O6 l6=>?_
  refine zLD O6 l6 (by decide) rfl _ (d0 _ _) fun N7 O7 l7=>?_
  refine zIw O7 l7 (by decide) rfl _ (fun k kx=>rfl) fun N8 O8 l8=>?_
  refine zIw O8 l8 (by decide) rfl _ (fun k kx=>rfl) fun N9 O9 l9=>?_
  refine zLD O9 l9 (by decide) rfl _ (d0 _ _) fun N10 O10 l10=>?_
  refine zLD O10 l10 (by decide) rfl _ (d0 _ _) fun N11 O11 l11=>?_
  refine zLD O11 l11 (by decide) rfl _ (d0 _ _) fun N12 O12 l12=>?_
  refine zLD O12 l12 (by decide) rfl _ (n0 _ _) fun N13 O13 l13=>?_
  refine zLD O13 l13 (by decide) rfl _ (d0 _ _) fun N14 O14 l14=>?_
  refine zLD O14 l14 (by decide) rfl _ (d0 _ _) fun N15 O15 l15=>?_
  exact ⟨trivial,K N15 ⟨O15.c,O15.sz,O15.k,O15.rn⟩⟩
theorem zXR {kvs:List (Str×PV)}(nd:(kvs.map (·.1)).Nodup) (hl:kvs.length<=12):(k (.dct (kvs.map (·.1)) (kvs.map (·.2))) M)->tdict [.lst (kvs.map fun kv=>PV.tup [.str kv.1,kv.2])] M k kx:=fun h=>.inr (zNv _ kvs rfl rfl nd hl h)
def zbZ:Den:=zO tdict (zD (qe false 1 [] (zO qb zM) qP (qy (zp (zD (zF 0) (zD (zZ (zO qb zM) (zF 0)) zM))))) zM)
theorem zab {N:Mem}{kl:List PV->Mem->Prop}{kx:Mem->Prop}:∀(kvs:List (Str×PV)) (acc:List PV),(∀kv∈kvs,atk zFz kv.1=some kv.2)->acc.length+kvs.length<=100->kl (acc++kvs.map fun kv=>PV.tup [.str kv.1,kv.2]) N ->
    zAQ 0 qP (qy (zp (zD (zF 0) (zD (zZ (zO qb zM) (zF 0)) zM)))) zAm N (kvs.map fun kv=>PV.str kv.1) ⟨[none],N⟩ acc kl kx:=by
  intro kvs
  induction kvs with
  | nil=>intro acc _ _ K;rw [List.map_nil,List.append_nil] at K;exact K
  | cons q r ih =>
    intro acc h hl K
    rw [List.length_cons] at hl
    have g:qa N zAm (.str q.1)=some q.2:=zHX.trans (h q (.head _))
    refine Eq.mpr zGQ (oKi g (zGh (show 2<=1000 by decide) (zGh (by lia) (ih (acc++[.tup [.str q.1,q.2]]) (fun kv m=>h kv (.tail _ m)) (by rw [List.length_append];show acc.length+1+r.length<=100;lia) ?_))))
    rw [List.append_assoc]
    exact K
theorem zaD {lo:List (Option PV)}{N:Mem}{k:PV->Mem->Prop}{kx:Mem->Prop}(hk:k zAm N):zbZ ⟨lo,N⟩ k kx:=by
  refine Eq.mpr zGQ (oKi (r:=zFz.map fun kv=>PV.str kv.1) rfl ?_)
  have c:∀{q:Str×PV}{r:List (Str×PV)},atk zFz q.1=some q.2->(∀kv∈r,atk zFz kv.1=some kv.2)->∀kv∈q::r,atk zFz kv.1=some kv.2:=fun a b=>List.forall_mem_cons.mpr ⟨a,b⟩
  exact zab zFz [] (c rfl (c rfl (c rfl (c rfl (c rfl (c rfl fun Z h=>nomatch h)))))) (by decide) (zXR (kvs:=zFz) (kx:=kx) (by decide) (by decide) hk)
theorem zWT:zIB=zK (zx 1 (zO zGD (zD (zC (.int 12)) (zD (zC (.int 4)) zM)))) (zK (zFa (yv 2) (zF 0) bO)
  (zK (zx 4 (zO zQh (zD (zF 1) (zD (zO zLG zM) (zD (yr (.sdict [])) (zD (zC .none) (zD (zO y0 zM) (zD (yr (.sdict [])) zM))))))))
  (zK (yp [313] (zF 4) "operations" (zO qG zM))
  (zK (yp [313] (zF 4) "frame" zbZ)
  (zK (zj (zF 4)) zJ))))):=rfl
theorem zRe {n:Nat}(H:zy M h σ n) (hm:h+6<=M.n) (K:∀M',ze M' M.n σ->M'.n=M.n+15->(∀i,i<M.n->M'.c i=M.c i)->k (yu M.n) M'):zAj [yO h] M k kx:=by
  refine xAA (zYj (M:=M)) fun R0 n0 c0=>?_
  rw [zAj,zdY,zWT,yf,zAk,zAF]
  have hargs:∀(lo:List (Option PV)) (N:Mem) (kl:List PV->Mem->Prop) kx,zD (zC (.int 12)) (zD (zC (.int 4)) zM) ⟨lo,N⟩ kl kx=kl [.int 12,.int 4] N:=fun Z Z Z Z=>rfl
  rw [hargs,zCE,zUQ,yf,zVT]
  have hv0:∀(p:PV) (r:List (Option PV)) (N:Mem) (k:PV->Mem->Prop) kx,zF 0 ⟨some p::r,N⟩ k kx=k p N:=fun p r N k kx=>by simp
  show zF 0 ⟨some (yO h)::_,zME M⟩ _ _
  rw [hv0]
  have hit:∀N,itP N (yO h)=some ([Vn.A,.B,.T,.I,.J,.N].map fun v=>.str v.nm):=fun N=>rfl
  rw [hit,zAT]
  refine zSp (σ:=σ) (h:=h) (b:=M.n) (n:=n) hm (iEE _ _ rfl) [Vn.A,.B,.T,.I,.J,.N] (by decide) (zME M) zGw none none none _ (H.keep (Nat.le_refl _) fun j Z Z=>c0 j (by lia)) R0 (fun u i p hp=>?_) fun M1 τ x2 x3 R1 n1 c1 hA=>?_
  · rw [if_pos (by induction u using Vn.casesOn<;>simp)]
    induction p using Pl.casesOn<;>rfl
  · rw [yf,zAk,zAF]
    have e1:qz τ=qz σ:=by
      have key:∀(u:Vn) (i:Nat) (a:Nat),u.pls[i]?=some (.num a)->qR (τ.num a)=qR (σ.num a):=fun u i a hp=>by
        have:=hA u i _ hp
        simp only [zBT] at this
        cases h1:τ.num a<;>cases h2:σ.num a<;>simp -dsimp [h1,h2] at this ⊢
        · rw [this]
      simp only [qz]
      rw [key .I 0 0 rfl,key .J 0 1 rfl,key .N 0 2 rfl,key .A 0 3 rfl,key .A 1 4 rfl,key .A 2 5 rfl,key .B 0 6 rfl,key .B 1 7 rfl,key .B 2 8 rfl,key .B 3 9 rfl,key .B 4 10 rfl,key .B 5 11 rfl]
    have e2:qC τ=qC σ:=by
      have key:∀(i:Nat) (j:Nat),Vn.T.pls[i]?=some (.txt j)->τ.chr j=σ.chr j:=fun i j hp=>by
        have:=hA .T i _ hp
        simp only [zBT] at this
        cases h1:τ.chr j<;>cases h2:σ.chr j<;>simp -dsimp [h1,h2] at this ⊢
      simp only [qC]
      rw [key 0 0 rfl,key 1 1 rfl]
    have hl:=fun k kx=>zUM (M:=M1) (k:=k) (kx:=kx)
    simp -dsimp [zVS,hl,↓zWp]
    have nn:M1.n=M.n+3:=by rw [n1,n0]
    obtain ⟨N,hN⟩:∃N,N=(((M1.new (.sdict zCI)).new (.sdict [])).new (.sdict zFT)).new (.sdict []):=⟨_,rfl⟩
    have hNn:N.n=M.n+7:=by rw [hN];simp -dsimp [nn]
    have hNc:∀i,i<M.n+3->N.c i=M1.c i:=fun i hi=>by
      have step:∀(N:Mem) o,i<N.n->(N.new o).c i=N.c i:=fun N o hN=>by rw [zCu,if_neg (by lia)]
      rw [hN,step _ _ (by simp only [zCv];lia),step _ _ (by simp only [zCv];lia),step _ _ (by simp only [zCv];lia),step _ _ (by lia)]
    have hN3:N.c (M.n+3)=.sdict zCI:=by
      rw [hN];simp -dsimp [nn]
    have hN5:N.c (M.n+5)=.sdict zFT:=by
      rw [hN];simp -dsimp [nn]
    rw [← hN]
    have a1:M1.n=M.n+3:=nn
    have a2:(M1.new (.sdict zCI)).n=M.n+4:=by simp -dsimp [nn]
    have a3:((M1.new (.sdict zCI)).new (.sdict [])).n=M.n+5:=by simp -dsimp [nn]
    have a4:(((M1.new (.sdict zCI)).new (.sdict [])).new (.sdict zFT)).n=M.n+6:=by simp -dsimp [nn]
    rw [a1]
    refine zah fun N2 O2=>?_
    simp only [List.set_cons_succ,List.set_cons_zero]
    have hrr:N.n=M.n+7:=hNn
    rw [hrr] at O2 ⊢
    have dv4:∀(a b c d p:Option PV) (q:PV) (N:Mem) (k:PV->Mem->Prop) kx,zF 4 ⟨[a,b,c,d,some q],N⟩ k kx=k q N:=fun a b c d p q N k kx=>by simp
    refine xA (O2.setA (C:=313) (name := "operations") (x:=zHf) (by simp -dsimp [zON])) fun s1 O3=>?_
    have cb:∀(lo:List (Option PV)) (N:Mem) (k:PV->Mem->Prop) kx,zO qG zM ⟨lo,N⟩ k kx=k zHf N:=fun lo N k kx=>by
      rw [zAF,zAS,zCE,zOp]
    rw [zOp]
    refine zCw s1 ?_
    refine xA (O3.setA (C:=313) (name := "frame") (x:=zAm) (Nat.le_trans (zHa _ _ _) (by simp -dsimp [zON]))) fun s2 O4=>?_
    rw [yf,zNN]
    refine zaD ?_
    rw [qf]
    refine zCw rfl (zCw s2 ?_)
    show (zK (zj (zF 4)) zJ) _ _ _ _
    rw [yf,zNM,qf]
    refine zCw rfl ?_
    refine K _ ⟨?_,?_,?_,?_,?_,?_⟩ O4.sz fun i hi=>?_
    · rw [O4.k _ (by lia),hNc _ (by lia)];exact R1.mem
    · rw [O4.k _ (by lia),hNc _ (by lia),R1.num,e1]
    · rw [O4.k _ (by lia),hNc _ (by lia),R1.chr,e2]
    · rw [O4.k _ (by lia),hN3]
    · rw [O4.k _ (by lia),hN5]
    · exact O4.c
    · rw [O4.k _ (by lia),hNc _ (by lia),c1 i (by lia) (by lia),c0 i hi]
end
theorem zGl {q:Prop}{M₀ M:Mem}{p:PV}(h:stay M₀ M p) (hq:q):sK q M₀ M p:=by
  induction p using PV.casesOn with
  | ref i=>exact ⟨h,hq⟩
  | _=>exact hq
theorem yy:∀{lo:List (Option PV)}{i:Nat}{p:PV},lo[i]?=some (some p)->qD lo i=some p
  | [],_,_,h=>nomatch h
  | _::_,0,_,h=>Option.some.inj h
  | _::r,n+1,_,h=>yy (lo:=r) h
theorem zMV {lo:List (Option PV)}{i:Nat}{p:PV}(h:lo[i]?=some (some p)) {M:Mem}{k:PV->Mem->Prop}{kx:Mem->Prop}:zF i ⟨lo,M⟩ k kx=k p M:=zSz (t:=.mk) (yy h)
def L0:zX:=(zx 1 (qe true 1 [] (zMU (zF 0) (zC (.int 24))) qP (qy (ye .Mod (zO zSE (zD (zF 0) zM)) (ye .Pow (zC (.int 10)) (zC (.int 60)))))))
def L1:zX:=(zx 2 (qe false 1 [1] (zO zAE (zD (ye .Add (zC (.int 1)) (zO zn (zD (zF 1) (zD (zC (.int 4)) zM)))) zM)) qP (qy (zO (yo 4) (zD (zF 1) (zD (zC (.int 2)) zM))))))
def L2:zX:=(zx 3 (qe false 1 [1] (zO zAE (zD (zC (.int 5)) zM)) qP (qy (ye .Sub (zO zn (zD (zF 1) (zD (zC (.int 6)) zM))) (zC (.int 1))))))
def L3:zX:=(zx 4 (zO zBz (zD (zF 1) zM)))
def L4:zX:=(zx 5 (zO zAj (zD (zF 4) zM)))
def L5:zX:=(zx 6 (zO zAj (zD (zF 4) zM)))
def L6:zX:=(zx 7 (zO tdict (zD (qe false 1 [4] (zF 4) qP (qy (zp (zD (zF 0) (zD (zO tdict (zD (zZ (zF 1) (zF 0)) zM)) zM))))) zM)))
def L7:zX:=(zx 8 (zHR zM))
def L8:zX:=(zx 9 (zO (yk 6) (zD (zF 4) (zD (zF 8) (zD (zF 3) (zD (zF 2) zM))))))
def L9:zX:=(zx 10 (qe false 1 [] (zF 8) (bor [(yA .IsNot (zZ (zF 0) (zC (.int 1))) (zC .none)),(yA .IsNot (zZ (zF 0) (zC (.int 2))) (zC .none))]) (qy (zF 0))))
def L10:zX:=(zw (qH .NotEq (zO zAR (zD (zF 5) (zD (zF 2) (zD (zF 3) zM)))) (zIl (zF 10) (dif (bor [(zCt (zF 9)),(yA .GtE (zO qw (zD (zF 10) zM)) (zC (.int 40)))]) (zFb zM) (zFb (zD (zC (.str "fault")) zM))))) (zK (zj (zC (.bool false)))
  zJ) zJ)
def L11:zX:=(zx 11 (zO zAj (zD (zF 4) zM)))
def L12:zX:=(zw (qH .NotEq (zp (zD (zq [210] (zq [313] (zF 5) "memory") "numeric") (zD (zq [210] (zq [313] (zF 5) "memory") "characters") zM))) (zp (zD (zq [210] (zq [313] (zF 11) "memory") "numeric") (zD (zq [210] (zq [313] (zF 11) "memory") "characters") zM)))) (zK (zj (zC (.bool false)))
  zJ) zJ)
def L13:zX:=(zx 8 (zHR zM))
def L14:zX:=(zx 9 (zO (yk 6) (zD (zF 7) (zD (zF 8) (zD (zC .none) (zD (zF 2) zM))))))
def L15:zX:=(zw (yA .GtE (zO qw (zD (zF 8) zM)) (zC (.int 40))) (zK (zj (zC (.bool true)))
  zJ) zJ)
def L16:zX:=(zVQ (zK (zx 12 (zO zDA (zD (zF 6) (zD (zF 2) zM))))
  zJ) (zK (zj (zPG (zF 9)))
  zJ))
def L17:zX:=(zj (zXs (zF 9) (zPD .Eq (qe false 1 [] (zF 12) qP (qy (zp (zD (zZ (zF 0) (zC (.int 0))) (zD (zZ (zF 0) (zC (.int 1))) zM))))) (qe false 1 [] (zF 8) qP (qy (zp (zD (zZ (zF 0) (zC (.int 0))) (zD (zZ (zF 0) (zC (.int 1))) zM))))))))
theorem zWR:zVA=zK L0 (zK L1 (zK L2 (zK L3 (zK L4 (zK L5 (zK L6 (zK L7 (zK L8 (zK L9 (zK L10 (zK L11 (zK L12 (zK L13 (zK L14 (zK L15 (zK L16 (zK L17 zJ))))))))))))))))):=rfl
section
variable {M M':Mem}{k:PV->Mem->Prop}{kx:Mem->Prop}{b h pl:Nat}{σ τ:Sto}{lo:List (Option PV)}
theorem zVN:∀(n:Nat) (p:PV) (d:PyData),yi M n p=some d->PyData.eqv d d=true:=by
  have many:∀n,(∀(p:PV) (d:PyData),yi M n p=some d->PyData.eqv d d=true)->∀(xs:List PV) ds,zDc (yi M n) xs=some ds->PyData.eqvAll ds ds=true:=by
    intro n ih xs
    induction xs with
    | nil=>intro ds e;refine sE e ?_;clear e;rintro rfl;rfl
    | cons x r ihr =>
      intro ds e
      simp only [zDc] at e
      generalize h1:yi M n x=z5;induction z5 using Option.casesOn with
      | none=>simp -dsimp [h1] at e
      | some d =>
        generalize h2:zDc (yi M n) r=z6;induction z6 using Option.casesOn with
        | none=>simp -dsimp [h1,h2] at e
        | some ds' =>
          simp -dsimp [h1,h2] at e
          subst e
          rw [zRK,ih x d h1,ihr ds' h2];rfl
  have at0:∀(p:PV) (d:PyData),zXt p=some d->PyData.eqv d d=true:=fun p d e=>by
    induction p using PV.casesOn with
    | none=>refine sE e ?_;clear e;rintro rfl;rfl
    | bool x=>refine sE e ?_;clear e;rintro rfl;exact beq_self_eq_true x
    | int x=>refine sE e ?_;clear e;rintro rfl;exact beq_self_eq_true x
    | str x=>refine zJQ e fun Z e=>?_;subst e;exact beq_self_eq_true x
    | _=>exact zW e
  intro n
  induction n with
  | zero=>exact at0
  | succ n ih =>
    intro p d e
    have h0:=at0 p d
    induction p using PV.casesOn with
    | tup xs =>
      refine xEA (Option.map_eq_some_iff.mp e) ?_;clear e;intro ds h1 z1;subst z1
      rw [zNQ];exact many n ih xs ds h1
    | lst xs =>
      refine xEA (Option.map_eq_some_iff.mp e) ?_;clear e;intro ds h1 z2;subst z2
      simp only [PyData.eqv];exact many n ih xs ds h1
    | ref i =>
      refine xEA (Option.bind_eq_some_iff.mp e) fun xs Z e=>?_
      refine xEA (Option.map_eq_some_iff.mp e) ?_;clear e;intro ds h1 z3;subst z3
      simp only [PyData.eqv];exact many n ih _ ds h1
    | _=>exact h0 e
theorem zKE {p q:PV}{d:PyData}(h1:yi M 8 p=some d) (h2:yi M 8 q=some d):eqP p q M=some true:=by
  rw [zRJ h1 h2,zVN 8 p d h1]
theorem zHP {n:Nat}{xs:List PV}(hx:∀x∈xs,∃d,yi M n x=some d):∃ds,zDc (yi M n) xs=some ds:=by
  induction xs with
  | nil=>exact ⟨[],rfl⟩
  | cons x r ih =>
    refine xE (hx x (.head _)) fun d hd=>?_
    refine xE (ih fun y hy=>hx y (.tail _ hy)) fun ds hds=>?_
    exact ⟨d::ds,zAo hd hds⟩
theorem zDO {n:Nat}{xs:List PV}(hx:∀x∈xs,∃d,yi M n x=some d):∃d,yi M (n+1) (.tup xs)=some d:=by
  refine xE (zHP hx) fun ds h=>?_
  exact ⟨.tuple ds,zDk h⟩
theorem zBd {n:Nat}(x:Int):∃d,yi M n (.int x)=some d:=⟨_,by induction n<;>rfl⟩
theorem zEb {n:Nat}:∃d,yi M n .none=some d:=⟨_,by induction n<;>rfl⟩
theorem zSR {n:Nat}{x:Str}(h:PyData.strOk x=true):∃d,yi M n (.str x)=some d:=⟨.str x,by induction n<;>exact if_pos h⟩
theorem zVM {n:Nat}(p:Pl):∃d,yi M (n+2) p.enc=some d:=by
  induction p using Pl.casesOn with
  | num a =>
    refine zDO fun x hx=>?_
    simp at hx
    rcases hx with rfl | rfl | rfl | rfl
    · exact zBd _
    · exact zBd _
    · exact zBd _
    · exact zDO fun x hx=>nomatch hx
  | txt a =>
    refine zDO fun x hx=>?_
    simp at hx
    rcases hx with rfl | rfl | rfl | rfl
    · exact zBd _
    · exact zBd _
    · exact zBd _
    · exact zDO fun x hx=>nomatch hx
theorem zZm {n:Nat}(e:Ev):∃d,yi M (n+3) e.enc=some d:=by
  induction e using Ev.casesOn with
  | pl p =>
    rw [Ev.enc_pl]
    refine zDO fun x hx=>?_
    simp at hx
    rcases hx with rfl | rfl | rfl
    · exact zBd _
    · exact zVM p
    · exact zEb
  | val v =>
    have e:(Ev.val v).enc=.tup [.int 0,.none,qp v]:=by induction v using Option.casesOn<;>rfl
    rw [e]
    refine zDO fun x hx=>?_
    simp at hx
    rcases hx with rfl | rfl | rfl
    · exact zBd _
    · exact zEb
    · induction v using Option.casesOn
      · exact zEb
      · exact zBd _
theorem zVL {n:Nat}(e:Ev):∃d,yi M (n+3) (zDt e.enc)=some d:=by
  induction e using Ev.casesOn with
  | pl p =>
    rw [Ev.enc_pl]
    show ∃d,yi M (n+3) (.tup [.int p.kd,p.enc])=some d
    refine zDO fun x hx=>?_
    simp at hx
    rcases hx with rfl | rfl
    · exact zBd _
    · exact zVM p
  | val v =>
    have e:zDt (Ev.val v).enc=.tup [.int 0,.none]:=by induction v using Option.casesOn<;>rfl
    rw [e]
    refine zDO fun x hx=>?_
    simp at hx
    rcases hx with rfl | rfl
    · exact zBd _
    · exact zEb
theorem zIG {r:PV}{xs:List PV}{n:Nat}(h:zAe M r=some xs):yi M (n+1) r=(zDc (yi M n) xs).map .list:=by
  induction r using PV.casesOn with
  | lst ys=>obtain rfl:=sI h;rfl
  | ref i=>exact congrArg (fun o:Option (List PV)=>o.bind fun xs=>(zDc (yi M n) xs).map PyData.list) h
  | _=>exact zW h
theorem zHO {n i:Nat}{xs:List PV}{ys:List PyData}(h:M.c i=.list xs) (h':zDc (yi M n) xs=some ys):yi M (n+1) (.ref i)=some (.list ys):=(zIG (zDT h)).trans (congrArg (Option.map _) h')
theorem zXu (R:ze M b σ):∃d,yi M 8 (.tup [.ref (b+1),.ref (b+2)])=some d/\∀b',ze M b' σ->yi M 8 (.tup [.ref (b'+1),.ref (b'+2)])=some d:=by
  obtain ⟨d1,h1⟩:∃ds,zDc (yi M 6) (qz σ)=some ds:=zHP fun x hx=>by
    have:∃o,x=qR o:=by
      simp only [qz,List.mem_cons,List.not_mem_nil,or_false] at hx
      rcases hx with h | h | h | h | h | h | h | h | h | h | h | h<;>exact ⟨_,h⟩
    refine xE this ?_;clear this;intro o z4;subst z4
    induction o using Option.casesOn with
    | none=>exact zEb
    | some v=>exact zDO fun x hx=>by simp at hx;rcases hx with rfl | rfl<;>exact zBd _
  obtain ⟨d2,h2⟩:∃ds,zDc (yi M 6) (qC σ)=some ds:=zHP fun x hx=>by
    have kA:PyData.strOk "A" = true:=zcO
    have kB:PyData.strOk "B" = true:=zcP
    simp only [qC,List.mem_cons,List.not_mem_nil,or_false] at hx
    have c:∀t y,PyData.strOk y=true->∃d,yi M 6 (zIm t y)=some d:=fun t y hy=>by
      induction t using Bool.casesOn
      · exact zEb
      · exact zSR hy
    rcases hx with rfl | rfl | rfl | rfl
    · exact c _ _ kA
    · exact c _ _ kB
    · exact c _ _ kA
    · exact c _ _ kB
  refine (iEA (.tuple [.list d1,.list d2]) ?_ (fun b' R'=>?_))
  · exact zDk (zAo (zHO R.num h1) (zAo (zHO R.chr h2) rfl))
  · exact zDk (zAo (zHO R'.num h1) (zAo (zHO R'.chr h2) rfl))
theorem zYq {p:PV}{M₀:Mem}(hs:∀N,stay M₀ N p) {kl:List PV->Mem->Prop}:∀(ns:List Int) (acc:List Int),acc.length+ns.length<=24->(∀ys:List Int,ys.length<=24->kl (ys.map .int) M) ->
    zAQ 0 qP (qy (ye .Mod (zO zSE (zD (zF 0) zM)) (ye .Pow (zC (.int 10)) (zC (.int 60))))) p M₀ (ns.map .int) ⟨[none],M⟩ (acc.map .int) kl kx:=by
  intro q0
  induction q0 with
  | nil =>
    intro acc hl K
    rw [List.map_nil,zEc]
    exact zGl (hs M) (K acc (by simpa using hl))
  | cons x r ih =>
    intro acc hl K
    rw [List.map_cons,zEd]
    refine zGl (hs M) ?_
    have e1:∀N,zER .Pow (.int 10) (.int 60) N=some (.int (10^60)):=fun N=>by
      rw [zbR,if_pos (by decide)];rfl
    have e2:∀N y,zER .Mod (.int y) (.int (10^60)) N=some (.int (y.fmod (10^60))):=fun N y=>by
      rw [zSO,if_neg (by decide)]
    have go:=ih (acc++[(if x<0 then -x else x).fmod (10^60)]) (by simp at hl ⊢;lia) K
    rw [List.map_append,List.map_cons,List.map_nil] at go
    rw [zHT,zAl,zKC,zNK,zAF,qQ,qf]
    refine oKi rfl ?_
    show zM ⟨[some (PV.int x)],M⟩ _ _
    rw [zAS,zCE,zZA,zNK]
    exact oKi (e1 M) (oKi (e2 M _) (zGh (by simp at hl ⊢;lia) go))
end
section
variable {M M':Mem}{k:PV->Mem->Prop}{kx:Mem->Prop}{b h pl:Nat}{σ τ:Sto}{lo r:List (Option PV)}{kn:St->Prop}{kr:PV->Mem->Prop}{kxs:St->Prop}
theorem zYF {a b:Den}:zMU a b ⟨lo,M⟩ k kx=a ⟨lo,M⟩ (fun x M=>b ⟨lo,M⟩ (fun y M=>∃n,y=.int n/\0<=n/\((∃xs,zAe M x=some xs/\xs.length<=1000/\k (.lst (xs.take n.toNat)) M)\/∃z,x=.str z/\z.length<=1000/\k (.str (Txt.slice z none (some n))) M)) kx) kx:=rfl
theorem s0 {ns:List Int}(hn:ns.length<=63) (K:∀N,N.n=M.n+1->qx N M.n->(∀i,i<M.n->N.c i=M.c i)->kn ⟨(some (.lst (ns.map .int))::r).set 1 (some (.ref M.n)),N⟩):L0 ⟨some (.lst (ns.map .int))::r,M⟩ kn kr kxs:=by
  unfold L0
  rw [zAk,zFC,zYF,ev0,zCF]
  refine (q6 24 rfl (by decide) (.inl (q6 (ns.map .int) rfl (by simp;lia) ?_)))
  refine oKi rfl ?_
  rw [show (24:Int).toNat=24 from rfl,← List.map_take]
  refine zYq (p:=.lst ((ns.take 24).map .int)) (fun N=>trivial) (ns.take 24) [] (by rw [List.length_nil,Nat.zero_add];exact List.length_take_le 24 ns) fun ys hy=>?_
  rw [zaS]
  exact K _ rfl (iEA ys (by rw [zCu,if_pos rfl]) hy) fun i hi=>by show (M.new _).c i=_;rw [zCu,if_neg (by lia)]
theorem zWM {p:PV}{M₀:Mem}(hs:∀N,stay M₀ N p) {kl:List PV->Mem->Prop}:∀(xs:List PV) (acc:List It) (M:Mem),acc.length+xs.length<=900->(∀it∈acc,ok2 it)->qx M pl->(∀(its:List It) N,its.length=acc.length+xs.length->(∀it∈its,ok2 it)->PFr pl M N->kl (ya its) N) ->
    zAQ 0 qP (qy (zO (yo 4) (zD (zF 1) (zD (zC (.int 2)) zM)))) p M₀ xs ⟨[none,some (.ref pl)],M⟩ (ya acc) kl kx:=by
  intro q0
  induction q0 with
  | nil =>
    intro acc M hl ha P K
    rw [zEc]
    exact zGl (hs M) (K acc M (by simp) ha ⟨rfl,fun Z Z=>rfl,P⟩)
  | cons x xs ih =>
    intro acc M hl ha P K
    rw [zEd]
    refine zGl (hs M) ?_
    rw [zHT,zAl,zKC,zAF,qQ,qf]
    refine oKi (r:=PV.ref pl) rfl ?_
    rw [qQ,zCF,zAS,zCE]
    refine zdk P fun it N hit F=>zGh (by rw [zDl];simp at hl;lia) ?_
    have e:ya acc++[it.enc]=ya (acc++[it]):=by rw [zDm,zDm,List.map_append];rfl
    rw [e]
    refine ih (acc++[it]) N (by simp at hl ⊢;lia) (fun i hi=>?_) F.ok fun its N' hle hok F'=>K its N' (by simp at hle ⊢;lia) hok (F.trans F')
    rcases List.mem_append.mp hi with hi | hi
    · exact ha i hi
    · rw [List.mem_singleton] at hi;subst hi;exact hit
theorem s1 (h1:lo[1]?=some (some (.ref pl))) (P:qx M pl) (K:∀(its:List It) N,its.length<=4->(∀it∈its,ok2 it)->PFr pl M N->kn ⟨lo.set 2 (some (.lst (ya its))),N⟩):L1 ⟨lo,M⟩ kn kr kxs:=by
  have e0:lo0 1 [1] lo=[none,some (.ref pl)]:=by simp -dsimp [lo0,h1]
  unfold L1
  rw [zAk,zFC]
  have hr:∀(k:PV->Mem->Prop) kx,(∀d N,0<=d->d<4->PFr pl M N->k (.rng 0 (1+d) 1) N)->(zO zAE (zD (ye .Add (zC (.int 1)) (zO zn (zD (zF 1) (zD (zC (.int 4)) zM)))) zM)) ⟨lo,M⟩ k kx:=fun k kx K=>by
    rw [zAF,qQ,zNK,zCF,zAF,qQ,zMV h1,qQ,zCF,zAS,zCE]
    refine qO (by decide) (by decide) P fun d N d0 d4 F=>?_
    simp -dsimp
    exact K d N d0 d4 F
  refine hr _ _ fun d N d0 d4 F=>?_
  refine xEA (zWH (M:=N) (n:=(1+d).toNat) (by lia)) fun xs hx hxl=>?_
  rw [show (((1+d).toNat:Nat):Int)=1+d by lia] at hx
  refine oKi hx ?_
  rw [e0]
  exact zWM (p:=.rng 0 (1+d) 1) (fun N=>trivial) xs [] N (by simp;lia) (fun i hi=>nomatch hi) F.ok fun its N' hle hok F'=>K its N' (by simp at hle;lia) hok (F.trans F')
theorem zYo {p:PV}{M₀:Mem}(hs:∀N,stay M₀ N p) {kl:List PV->Mem->Prop}:∀(xs:List PV) (acc:List Int) (M:Mem),acc.length+xs.length<=900->(∀x∈acc,x.natAbs<=4)->qx M pl->(∀(ns:List Int) N,ns.length=acc.length+xs.length->(∀x∈ns,x.natAbs<=4)->PFr pl M N->kl (ns.map .int) N) ->
    zAQ 0 qP (qy (ye .Sub (zO zn (zD (zF 1) (zD (zC (.int 6)) zM))) (zC (.int 1)))) p M₀ xs ⟨[none,some (.ref pl)],M⟩ (acc.map .int) kl kx:=by
  intro q0
  induction q0 with
  | nil =>
    intro acc M hl ha P K
    rw [zEc]
    exact zGl (hs M) (K acc M (by simp) ha ⟨rfl,fun Z Z=>rfl,P⟩)
  | cons x xs ih =>
    intro acc M hl ha P K
    rw [zEd]
    refine zGl (hs M) ?_
    rw [zHT,zAl,zKC,zNK,zAF,qQ,qf]
    refine oKi (r:=PV.ref pl) rfl ?_
    rw [qQ,zCF,zAS,zCE]
    refine qO (by decide) (by decide) P fun d N d0 d6 F=>?_
    refine oKi zOy (zGh (by simp at hl ⊢;lia) ?_)
    have e:acc.map PV.int++[.int (d-1)]=(acc++[d-1]).map .int:=by rw [List.map_append];rfl
    rw [e]
    refine ih (acc++[d-1]) N (by simp at hl ⊢;lia) (fun i hi=>?_) F.ok fun its N' hle hok F'=>K its N' (by simp at hle ⊢;lia) hok (F.trans F')
    rcases List.mem_append.mp hi with hi | hi
    · exact ha i hi
    · rw [List.mem_singleton] at hi;subst hi;lia
theorem s2 (h1:lo[1]?=some (some (.ref pl))) (P:qx M pl) (K:∀(ns:List Int) N,ns.length=5->(∀x∈ns,x.natAbs<=4)->PFr pl M N->kn ⟨lo.set 3 (some (qk ns)),N⟩):L2 ⟨lo,M⟩ kn kr kxs:=by
  have e0:lo0 1 [1] lo=[none,some (.ref pl)]:=by simp -dsimp [lo0,h1]
  unfold L2
  have hr:∀(k:PV->Mem->Prop) kx,(zO zAE (zD (zC (.int 5)) zM)) ⟨lo,M⟩ k kx=k (.rng 0 5 1) M:=fun k kx=>by simp -dsimp
  rw [zAk,zFC,hr]
  refine oKi zYZ ?_
  rw [e0]
  exact zYo (p:=.rng 0 5 1) (fun N=>trivial) _ [] M (by simp) (fun i hi=>nomatch hi) P fun its N' hle hok F'=>K its N' (by simpa using hle) hok F'
theorem s3 (h1:lo[1]?=some (some (.ref pl))) (hpl:pl<M.n) (P:qx M pl) (K:∀N σ,zy N M.n σ 0->(∀a x,σ.num a=some x->x.natAbs<=4)->N.n=M.n+6->kn ⟨lo.set 4 (some (yO M.n)),N⟩):L3 ⟨lo,M⟩ kn kr kxs:=by
  unfold L3
  rw [zAk,zAF,qQ,qf]
  refine oKi (yy h1) ?_
  rw [zAS,zCE]
  exact zXN hpl P fun N σ _ H hσ hn _=>K N σ H hσ hn
theorem s4 {n:Nat}(h4:lo[4]?=some (some (yO h))) (H:zy M h σ n) (hm:h+6<=M.n) (K:∀M',ze M' M.n σ->M'.n=M.n+15->(∀i,i<M.n->M'.c i=M.c i)->kn ⟨lo.set 5 (some (yu M.n)),M'⟩):L4 ⟨lo,M⟩ kn kr kxs:=by
  unfold L4
  rw [zAk,zAF,qQ,qf]
  refine oKi (yy h4) ?_
  rw [zAS,zCE]
  exact zRe H hm K
theorem s5 {n:Nat}(h4:lo[4]?=some (some (yO h))) (H:zy M h σ n) (hm:h+6<=M.n) (K:∀M',ze M' M.n σ->M'.n=M.n+15->(∀i,i<M.n->M'.c i=M.c i)->kn ⟨lo.set 6 (some (yu M.n)),M'⟩):L5 ⟨lo,M⟩ kn kr kxs:=by
  unfold L5
  rw [zAk,zAF,qQ,qf]
  refine oKi (yy h4) ?_
  rw [zAS,zCE]
  exact zRe H hm K
theorem s11 {n:Nat}(h4:lo[4]?=some (some (yO h))) (H:zy M h σ n) (hm:h+6<=M.n) (K:∀M',ze M' M.n σ->M'.n=M.n+15->(∀i,i<M.n->M'.c i=M.c i)->kn ⟨lo.set 11 (some (yu M.n)),M'⟩):L11 ⟨lo,M⟩ kn kr kxs:=by
  unfold L11
  rw [zAk,zAF,qQ,qf]
  refine oKi (yy h4) ?_
  rw [zAS,zCE]
  exact zRe H hm K
theorem zbX {i:Nat}{kvs:List (List Int×PV)}(hc:M.c i=.tdict kvs) (hl:kvs.length<=1) (K:k (.ref M.n) (M.new (.tdict kvs))):tdict [.ref i] M k kx:=.inl (yb i kvs rfl hc hl K)
theorem zXq {p:PV}{M₀:Mem}(hs:∀N,stay M₀ N p) {kl:List PV->Mem->Prop}:∀(vs:List Vn) (acc:List PV) (M:Mem),acc.length+vs.length<=900->zy M h σ 0->h+6<=M.n ->
    (∀N,N.n=M.n+vs.length->(∀i,i<M.n->N.c i=M.c i)->(∀(j:Nat) v,vs[j]?=some v->N.c (M.n+j)=M.c (h+v.idx))->kl (acc++(List.range vs.length).map fun j=>.tup [.str ((vs.getD j .A).nm),.ref (M.n+j)]) N) ->
    zAQ 0 qP (qy (zp (zD (zF 0) (zD (zO tdict (zD (zZ (zF 1) (zF 0)) zM)) zM)))) p M₀ (vs.map fun v=>.str v.nm) ⟨[none,some (yO h)],M⟩ acc kl kx:=by
  intro q0
  induction q0 with
  | nil =>
    intro acc M hl H hm K
    rw [List.map_nil,zEc]
    exact zGl (hs M) (by simpa using K M rfl (fun Z Z=>rfl) (fun j v hj=>by simp at hj))
  | cons v vs ih =>
    intro acc M hl H hm K
    have hv6:v.idx<6:=by induction v using Vn.casesOn<;>decide
    refine xEA (H v) fun kvs hc O=>?_
    have hg:=zEG (M:=M) (h:=h) v
    rw [List.map_cons,zEd]
    refine zGl (hs M) ?_
    rw [zHT,zAl,zKC,zZr,qQ,qf]
    refine oKi (r:=PV.str v.nm) rfl ?_
    have hd:∀(k:PV->Mem->Prop) kx,k (.ref M.n) (M.new (.tdict kvs))->(zO tdict (zD (zZ (zF 1) (zF 0)) zM)) ⟨[some (.str v.nm),some (yO h)],M⟩ k kx:=fun k kx hk=>by
      simp -dsimp [hg]
      exact zbX hc (by have:=O.len;lia) hk
    show (zD (zO tdict (zD (zZ (zF 1) (zF 0)) zM)) zM) ⟨[some (.str v.nm),some (yO h)],M⟩ _ _
    rw [qQ]
    refine hd _ _ ?_
    rw [zAS,el2]
    refine zGh (by simp at hl;lia) ?_
    refine ih (acc++[.tup [.str v.nm,.ref M.n]]) (M.new (.tdict kvs)) (by simp at hl ⊢;lia) (H.keep (Nat.le_refl _) fun j Z Z=>by rw [zCu,if_neg (by lia)]) (by rw [zCv];lia) fun N hN hk hcp=>?_
    have:=K N (by rw [hN,zCv];simp;lia) (fun i hi=>by rw [hk i (by rw [zCv];lia),zCu,if_neg (by lia)]) (fun j u hj=>?_)
    · rw [List.length_cons,List.range_succ_eq_map,List.map_cons,List.map_map] at this
      rw [zCv]
      have e:((fun j=>PV.tup [.str (((v::vs).getD j .A).nm),.ref (M.n+j)]) ∘ Nat.succ)=fun j=>PV.tup [.str ((vs.getD j .A).nm),.ref (M.n+1+j)]:=by
        funext j
        simp only [Function.comp_def,List.getD_cons_succ]
        rw [show M.n+j.succ=M.n+1+j by lia]
      rw [e] at this
      rw [List.append_assoc]
      exact this
    · induction j with
      | zero =>
        refine sE hj ?_;clear hj;rintro rfl
        have:=hk M.n (by rw [zCv];lia)
        rw [Nat.add_zero,this,zCu,if_pos rfl,hc]
      | succ j =>
        have:=hcp j u (by simpa using hj)
        have hu6:u.idx<6:=by induction u using Vn.casesOn<;>decide
        rw [zCv] at this
        rw [show M.n+(j+1)=M.n+1+j by lia,this,zCu,if_neg (by lia)]
theorem s6 (h4:lo[4]?=some (some (yO h))) (H:zy M h σ 0) (hm:h+6<=M.n) (K:∀N,zy N M.n σ 0->N.n=M.n+6->(∀i,i<M.n->N.c i=M.c i)->kn ⟨lo.set 7 (some (yO M.n)),N⟩):L6 ⟨lo,M⟩ kn kr kxs:=by
  have e0:lo0 1 [4] lo=[none,some (yO h)]:=by simp -dsimp [lo0,h4]
  unfold L6
  rw [zAk,zAF,qQ,zFC,qf]
  refine oKi (yy h4) ?_
  refine oKi (r:=[Vn.A,.B,.T,.I,.J,.N].map fun v=>.str v.nm) rfl ?_
  rw [e0]
  refine zXq (p:=yO h) (fun N=>trivial) [Vn.A,.B,.T,.I,.J,.N] [] M (by simp) H hm fun N hN hk hc=>?_
  have hn6:N.n=M.n+6:=hN
  have HN:zy N M.n σ 0:=fun v=>by
    refine xEA (H v) fun kvs hc' O=>?_
    have hv6:v.idx<6:=by induction v using Vn.casesOn<;>decide
    have:=hc v.idx v (by induction v using Vn.casesOn<;>rfl)
    exact (iEA kvs (by rw [this,hc']) O)
  rw [zaR,zAS,zCE]
  have e:([]++(List.range [Vn.A,Vn.B,.T,.I,.J,.N].length).map fun j=>PV.tup [.str (([Vn.A,.B,.T,.I,.J,.N].getD j .A).nm),.ref (M.n+j)])=[(("A" : Str),PV.ref M.n),("B",.ref (M.n+1)),("T",.ref (M.n+2)),("I",.ref (M.n+3)),("J",.ref (M.n+4)),("N",.ref (M.n+5))].map fun kv=>PV.tup [.str kv.1,kv.2]:=rfl
  rw [e]
  exact zXR (by simp (decide:=true)) (by simp) (K N HN hn6 hk)
end
section
variable {M M':Mem}{k:PV->Mem->Prop}{kx:Mem->Prop}{b h pl lg:Nat}{σ τ:Sto}{lo r:List (Option PV)}{kn:St->Prop}{kr:PV->Mem->Prop}{kxs:St->Prop}
theorem s7:L7 ⟨lo,M⟩ kn kr kxs=kn ⟨lo.set 8 (some (.ref M.n)),M.new (.list [])⟩:=by
  unfold L7
  simp -dsimp
theorem s13:L13 ⟨lo,M⟩ kn kr kxs=kn ⟨lo.set 8 (some (.ref M.n)),M.new (.list [])⟩:=by
  unfold L13
  simp -dsimp
theorem s8 {ns:List Int}{its:List It}{ps:PS}(hi:∀it∈its,ok2 it) (h4:lo[4]?=some (some (yO h))) (h8:lo[8]?=some (some (.ref lg))) (h3:lo[3]?=some (some (qk ns))) (h2:lo[2]?=some (some (.lst (ya its)))) (B:Bd 84 200 (some ns) ps) (L:zAH M h lg ps)
    (K:∀M',zAH M' h lg (qJ (some ns) its ps).2->LFr h lg M M'->kn ⟨lo.set 9 (some (.bool (qJ (some ns) its ps).1)),M'⟩):L8 ⟨lo,M⟩ kn kr kxs:=by
  have R:=zcX (rd:=some ns) (h:=h) (lg:=lg) 3 hi ps M (fun p M=>kn ⟨lo.set 9 (some p),M⟩) (fun M=>kxs ⟨lo,M⟩) B L K
  unfold L8
  simp -dsimp [yy h4,yy h8,yy h3,yy h2]
  exact R
theorem s14 {its:List It}{ps:PS}(hi:∀it∈its,ok2 it) (h7:lo[7]?=some (some (yO h))) (h8:lo[8]?=some (some (.ref lg))) (h2:lo[2]?=some (some (.lst (ya its)))) (B:Bd 84 200 none ps) (L:zAH M h lg ps)
    (K:∀M',zAH M' h lg (qJ none its ps).2->LFr h lg M M'->kn ⟨lo.set 9 (some (.bool (qJ none its ps).1)),M'⟩):L14 ⟨lo,M⟩ kn kr kxs:=by
  have R:=zcX (rd:=none) (h:=h) (lg:=lg) 3 hi ps M (fun p M=>kn ⟨lo.set 9 (some p),M⟩) (fun M=>kxs ⟨lo,M⟩) B L K
  unfold L14
  simp -dsimp [yy h7,yy h8,yy h2]
  exact R
def zXx:qI:=(bor [(yA .IsNot (zZ (zF 0) (zC (.int 1))) (zC .none)),(yA .IsNot (zZ (zF 0) (zC (.int 2))) (zC .none))])
theorem zXy {e:Ev}{kb:Bool->Mem->Prop}:zXx ⟨[some e.enc],M⟩ kb kx=kb (match e with | .val none=>false | _=>true) M:=by
  unfold zXx
  induction e using Ev.casesOn with
  | pl p =>
    have:∀N,zDh .IsNot p.enc .none N=some true:=fun N=>by induction p using Pl.casesOn<;>rfl
    rw [Ev.enc_pl]
    simp -dsimp [this]
  | val v=>induction v using Option.casesOn<;>simp -dsimp [Ev.enc]
theorem zZo {M₀:Mem}(hM:M.c lg=M₀.c lg) {kl:List PV->Mem->Prop}:∀(evs:List Ev) (acc:List PV),acc.length+evs.length<=900->kl (acc++(due evs).map Ev.enc) M->zAQ 0 zXx (qy (zF 0)) (.ref lg) M₀ (evs.map Ev.enc) ⟨[none],M⟩ acc kl kx:=by
  intro q0
  induction q0 with
  | nil =>
    intro acc hl K
    rw [List.map_nil,zEc]
    exact ⟨hM,by simpa [due] using K⟩
  | cons e r ih =>
    intro acc hl K
    rw [List.map_cons,zEd]
    refine ⟨hM,?_⟩
    rw [show ([none]:List (Option PV)).set 0 (some e.enc)=[some e.enc] from rfl,zXy]
    have hadd:∀(K':kl (acc++((e::due r).map Ev.enc)) M),(qy (zF 0)) ⟨[some e.enc],M⟩ acc (fun acc' M'=>zAQ 0 zXx (qy (zF 0)) (.ref lg) M₀ (r.map Ev.enc) ⟨[none],M'⟩ acc' kl kx) kx:=fun K'=>by
      rw [zKC,qf]
      refine oKi (r:=e.enc) rfl (zGh (by simp at hl;lia) ?_)
      refine ih (acc++[e.enc]) (by simp at hl ⊢;lia) ?_
      simpa using K'
    induction e using Ev.casesOn with
    | pl p=>exact hadd K
    | val v =>
      induction v using Option.casesOn with
      | none =>
        exact ih acc (by simp at hl;lia) K
      | some x=>exact hadd K
theorem s9 {evs:List Ev}(h8:lo[8]?=some (some (.ref lg))) (hl:evs.length<=40) (hc:M.c lg=.list (evs.map Ev.enc)) (K:kn ⟨lo.set 10 (some (.lst ((due evs).map Ev.enc))),M⟩):L9 ⟨lo,M⟩ kn kr kxs:=by
  unfold L9
  rw [zAk,zFC,zMV h8]
  refine oKi (r:=evs.map Ev.enc) (congrArg asI hc) ?_
  exact zZo rfl evs [] (by simp;lia) K
theorem zXz (l:List Ev):(due l).length<=l.length:=by
  induction l with
  | nil=>simp -dsimp [due]
  | cons e r ih =>
    induction e using Ev.casesOn with
    | pl p=>simp -dsimp [due];exact ih
    | val v=>induction v using Option.casesOn<;>simp -dsimp [due]<;>lia
theorem s10 {ns:List Int}{its:List It}{evs:List Ev}{bb:Bool}{out:List Ev×Bool×Sto}(hb:b+15<=M.n) (n5:ns.length=5) (h5:lo[5]?=some (some (yu b))) (h2:lo[2]?=some (some (.lst (ya its)))) (h3:lo[3]?=some (some (qk ns))) (h10:lo[10]?=some (some (.lst (evs.map Ev.enc)))) (h9:lo[9]?=some (some (.bool bb)))
    (R:ze M b σ) (hl:Ls (some ns) ⟨[],σ⟩ [] [⟨its,0,none,1⟩] out) (hle:evs.length<=40) (ho:out.1=evs) (hf:out.2.1=!(bb||decide (40<=evs.length)))
    (K:∀M',zEX b M.n M M'->ze M' b out.2.2->kn ⟨lo,M'⟩):L10 ⟨lo,M⟩ kn kr kxs:=by
  have hd:=fun k kx H=>zVy (k:=k) (kx:=kx) hb n5 R (by rw [ho];lia) hl H
  have hh:∀(k:PV->Mem->Prop) kx,(∀r M',zEX b M.n M M'->ze M' b out.2.2->zAe M' r=some (evs.map Ev.enc++zGE (!(bb||decide (40<=evs.length))))->k r M')->(zO zAR (zD (zF 5) (zD (zF 2) (zD (zF 3) zM)))) ⟨lo,M⟩ k kx:=fun k kx H=>by
    simp -dsimp [yy h5,yy h2,yy h3]
    refine hd _ _ fun r M' F R' hr=>H r M' F R' ?_
    rw [← hf,← ho];exact hr
  have ha:∀(N:Mem) (k:PV->Mem->Prop) kx,k (.lst (evs.map Ev.enc++zGE (!(bb||decide (40<=evs.length))))) N->(zIl (zF 10) (dif (bor [(zCt (zF 9)),(yA .GtE (zO qw (zD (zF 10) zM)) (zC (.int 40)))]) (zFb zM) (zFb (zD (zC (.str "fault")) zM)))) ⟨lo,N⟩ k kx:=fun N k kx hk=>by
    have tl:=fun k kx=>zAn (M:=N) (o:=.lst (evs.map Ev.enc)) (n:=evs.length) (k:=k) (kx:=kx) (congrArg some (List.length_map _)) (by lia)
    have hp:∀(q:List PV) (K':k (.lst (evs.map Ev.enc++q)) N),q.length<=10->∃xs,zAe N (.lst (evs.map Ev.enc))=some xs/\∃ys,zAe N (.lst q)=some ys/\xs.length+ys.length<=1000/\k (.lst (xs++ys)) N:=fun q K' hq=>(zaN _ rfl _ rfl (by simp;lia) K')
    rw [zSW,zMV h10]
    induction bb using Bool.casesOn with
    | true =>
      simp -dsimp [yy h9]
      exact hp [] hk (by simp)
    | false =>
      by_cases h40:40<=evs.length
      · have h40':(40:Int)<=evs.length:=by lia
        simp -dsimp [yy h9,yy h10,↓tl,h40']
        simp -dsimp [h40,zGE] at hk
        simpa using hp [] (by simpa using hk) (by simp)
      · have h40':¬(40:Int)<=evs.length:=by lia
        simp -dsimp [yy h9,yy h10,↓tl,h40']
        simp -dsimp [h40,zGE] at hk
        simpa using hp [.str "fault"] hk (by simp)
  unfold L10
  rw [zZq,zYA]
  refine hh _ _ fun r M' F R' hr=>?_
  refine ha M' _ _ ?_
  obtain ⟨ds,hds⟩:∃ds,zDc (yi M' 7) (evs.map Ev.enc++zGE (!(bb||decide (40<=evs.length))))=some ds:=zHP fun x hx=>by
    rcases List.mem_append.mp hx with hx | hx
    · refine xEA (List.mem_map.mp hx) fun e Z z1=>?_;subst z1
      exact zZm e
    · have:x=.str "fault":=by
        unfold zGE at hx
        split at hx
        · simpa using hx
        · cases hx
      rw [this];exact zSR zWi
  have q1:=zIG (n:=7) hr
  have q2:=zIG (M:=M') (n:=7) (r:=.lst (evs.map Ev.enc++zGE (!(bb||decide (40<=evs.length))))) rfl
  rw [hds] at q1 q2
  refine oKi (r:=false) ?_ ?_
  · simp only [qEq,qNe,qIn,qNi,zKE q1 q2,Option.map_some,Bool.not_true]
  · show zJ ⟨lo,M'⟩ kn kr kxs
    rw [zNO]
    exact K M' F R'
theorem s12 {b':Nat}(h5:lo[5]?=some (some (yu b))) (h11:lo[11]?=some (some (yu b'))) (R:ze M b σ) (R':ze M b' σ) (K:kn ⟨lo,M⟩):L12 ⟨lo,M⟩ kn kr kxs:=by
  refine xEA (zXu R) fun d q1 q2=>?_
  have hq:yw .NotEq (.tup [.ref (b+1),.ref (b+2)]) (.tup [.ref (b'+1),.ref (b'+2)]) M=some false:=by
    simp only [qEq,qNe,qIn,qNi,zKE q1 (q2 b' R'),Option.map_some,Bool.not_true]
  unfold L12
  simp -dsimp [yy h5,yy h11,R.memory,R'.memory,R.numeric,R.characters,R'.numeric,R'.characters,hq]
  exact K
theorem s15 {evs:List Ev}(h8:lo[8]?=some (some (.ref lg))) (hl:evs.length<=40) (hc:M.c lg=.list (evs.map Ev.enc)) (K1:40<=evs.length->kr (.bool true) M) (K2:evs.length<40->kn ⟨lo,M⟩):L15 ⟨lo,M⟩ kn kr kxs:=by
  have tl:=fun k kx=>zAn (M:=M) (o:=.ref lg) (n:=evs.length) (k:=k) (kx:=kx) ((zCH hc).trans (congrArg some (List.length_map _))) (by lia)
  unfold L15
  by_cases h40:40<=evs.length
  · have h40':(40:Int)<=evs.length:=by lia
    simp -dsimp [yy h8,↓tl,h40']
    exact K1 h40
  · have h40':¬(40:Int)<=evs.length:=by lia
    simp -dsimp [yy h8,↓tl,h40']
    exact K2 (by lia)
theorem s16 {its:List It}{evs:List Ev}{bb:Bool}{out:List Ev×Bool×Sto}(hb:b+15<=M.n) (h6:lo[6]?=some (some (yu b))) (h2:lo[2]?=some (some (.lst (ya its)))) (h9:lo[9]?=some (some (.bool bb))) (R:ze M b σ) (hl:Ls none ⟨[],σ⟩ [] [⟨its,0,none,1⟩] out) (ho:out.1=evs) (hf:out.2.1=!bb)
    (K1:∀M',bb=false->kr (.bool true) M') (K2:∀M' r xs,bb=true->zEX b M.n M M'->zAe M' r=some xs->zHt xs evs->kn ⟨lo.set 12 (some r),M'⟩):L16 ⟨lo,M⟩ kn kr kxs:=by
  have hw:=fun k kx H=>zUq (k:=k) (kx:=kx) hb R hl H
  unfold L16
  show (zK (zx 12 (zO zDA (zD (zF 6) (zD (zF 2) zM)))) zJ) ⟨lo,M⟩ kn kr (fun st'=>(zK (zj (zPG (zF 9))) zJ) st' kn kr (fun Z=>False))
  simp -dsimp [yy h6,yy h2]
  refine hw _ _ fun M' F=>?_
  induction bb using Bool.casesOn with
  | false =>
    rw [hf,if_pos (by simp)]
    simp -dsimp [yy h9]
    exact K1 M' rfl
  | true =>
    rw [hf,if_neg (by simp)]
    intro r xs hr hT
    rw [ho] at hT
    exact K2 M' r xs rfl F hr hT
end
def zJm (f:PS->Bool×PS):Prop:=∀ps,ps.log.length<40->(f ps).2.log.length<=40/\((f ps).1=true->(f ps).2.log.length<40)
theorem zIX {rd:Rd}:∀pls:List Pl,zJm (zBa rd pls):=by
  intro q0
  induction q0 with
  | nil =>
    intro ps h
    exact ⟨Nat.le_of_lt h,fun Z=>h⟩
  | cons p r ih =>
    intro ps h
    unfold zBa
    split
    · rename_i h'
      exact ih _ h'
    · exact ⟨by rw [qd];lia,fun h=>by exact zV h⟩
theorem zMc {rd:Rd}(o:Sto->Option Pl):zJm (fun ps=>zFZ rd ps (o ps.σ)):=fun ps h=>by
  show (zFZ rd ps (o ps.σ)).2.log.length<=40/\((zFZ rd ps (o ps.σ)).1=true->(zFZ rd ps (o ps.σ)).2.log.length<40)
  cases o ps.σ with
  | none=>exact ⟨Nat.le_of_lt h,fun h=>by exact zV h⟩
  | some p=>exact zIX [p] ps h
theorem zMd {rd:Rd}(w:Sto->Option Int):zJm (fun ps=>zLI rd ps (w ps.σ)):=fun ps h=>by
  simp only [zLI]
  refine ⟨by simp;lia,fun hb=>?_⟩
  simp at hb ⊢
  lia
theorem zRf {body:PS->Bool×PS}(hb:zJm body) {v:Sv}{st:Int}:∀n,zJm (zBR body v st n):=by
  intro q0
  induction q0 with
  | zero =>
    intro ps h
    exact ⟨Nat.le_of_lt h,fun Z=>h⟩
  | succ n ih =>
    intro ps h
    refine xA (hb ps h) fun a c=>?_
    unfold zBR
    generalize h1:body ps=z4;induction z4 using Prod.casesOn with
    | mk b1 ps1 =>
      rw [h1] at a c
      induction b1 using Bool.casesOn with
      | false=>exact ⟨a,fun h=>by exact zV h⟩
      | true =>
        generalize hx:ps1.σ.num v.ad=z5;induction z5 using Option.casesOn with
        | none=>simp only [hx];exact ⟨a,fun h=>by exact zV h⟩
        | some x=>simp only [hx];exact ih ⟨ps1.log,ps1.σ.setN v.ad (x+st)⟩ (c rfl)
mutual
theorem zcK {rd:Rd}:∀it:It,zJm (zCX rd it)
  | .ex (.var v)=>zIX _
  | .ex (.const c)=>zMd (fun σ=>worth σ (.const c))
  | .ex (.add v c)=>zMd (fun σ=>worth σ (.add v c))
  | .elA s=>zMc (fun σ=>(worth σ s).bind plA)
  | .elB s t=>zMc (fun σ=>b2 (worth σ s) (worth σ t) plB)
  | .arr a=>zIX _
  | .ido its v f l st=>fun ps h=>by
    unfold zCX
    cases worth ps.σ l with
    | none=>exact ⟨Nat.le_of_lt h,fun h=>by exact zV h⟩
    | some e =>
      by_cases h0:st=0
      · simp only [if_pos h0];exact ⟨Nat.le_of_lt h,fun h=>by exact zV h⟩
      · simp only [if_neg h0];exact zRf (zSq its) _ ⟨ps.log,ps.σ.setN v.ad f⟩ h
theorem zSq {rd:Rd}:∀its:List It,zJm (qJ rd its)
  | []=>fun ps h=>⟨Nat.le_of_lt h,fun Z=>h⟩
  | it::r=>fun ps h=>by
    refine xA (zcK (rd:=rd) it ps h) fun a c=>?_
    unfold qJ
    generalize h1:zCX rd it ps=z6;induction z6 using Prod.casesOn with
    | mk b1 ps1 =>
      rw [h1] at a c
      induction b1 using Bool.casesOn with
      | false=>exact ⟨a,fun h=>by exact zV h⟩
      | true=>exact zSq r ps1 (c rfl)
end
section
variable {M M':Mem}{k:PV->Mem->Prop}{kx:Mem->Prop}{b h pl lg:Nat}{σ τ:Sto}{lo r:List (Option PV)}{kn:St->Prop}{kr:PV->Mem->Prop}{kxs:St->Prop}
theorem zTB {p:PV}{M₀:Mem}(hs:stay M₀ M p) {kl:List PV->Mem->Prop}:∀(xs:List PV) (acc:List PV),(∀x∈xs,zRc x)->acc.length+xs.length<=900->kl (acc++xs.map zDt) M->zAQ 0 qP (qy (zp (zD (zZ (zF 0) (zC (.int 0))) (zD (zZ (zF 0) (zC (.int 1))) zM)))) p M₀ xs ⟨[none],M⟩ acc kl kx:=by
  intro q0
  induction q0 with
  | nil =>
    intro acc ht hl K
    rw [zEc]
    exact zGl hs (by simpa using K)
  | cons x xs ih =>
    intro acc ht hl K
    refine zdw (ht x (.head _)) fun a c d z1=>?_;subst z1
    have hd:∀kl',kl' (acc++[.tup [a,c]]) M->(qy (zp (zD (zZ (zF 0) (zC (.int 0))) (zD (zZ (zF 0) (zC (.int 1))) zM)))) ⟨[some (.tup [a,c,d])],M⟩ acc kl' kx:=fun kl' K'=>by
      simp -dsimp
      exact zGh (by simp at hl;lia) K'
    rw [zEd]
    refine zGl hs ?_
    rw [zHT,zAl]
    refine hd _ ?_
    refine ih (acc++[.tup [a,c]]) (fun y hy=>ht y (.tail _ hy)) (by simp at hl ⊢;lia) ?_
    rw [List.append_assoc]
    exact K
theorem zPv {r:PV}{xs:List PV}(h:zAe M r=some xs):itP M r=some xs/\stay M M r:=by
  induction r using PV.casesOn with
  | lst ys=>obtain rfl:=sI h;exact ⟨rfl,trivial⟩
  | ref i=>exact ⟨by show asI (M.c i)=_;rw [zEY h];rfl,rfl⟩
  | _=>exact zW h
theorem zYH (e:Ev):zRc e.enc:=by
  induction e using Ev.casesOn with
  | pl p=>exact (zYT _ _ _ (Ev.enc_pl p))
  | val v=>induction v using Option.casesOn<;>exact (zYT _ _ _ rfl)
theorem s17 {evs:List Ev}{q:PV}{xs:List PV}(h9:lo[9]?=some (some (.bool true))) (h8:lo[8]?=some (some (.ref lg))) (h12:lo[12]?=some (some q)) (hl:evs.length<=40) (hc:M.c lg=.list (evs.map Ev.enc)) (hq:zAe M q=some xs) (hT:zHt xs evs) (K:kr (.bool true) M):L17 ⟨lo,M⟩ kn kr kxs:=by
  refine xA (zPv hq) fun i1 i2=>?_
  have hlog:zAe M (.ref lg)=some (evs.map Ev.enc):=zDT hc
  refine xA (zPv hlog) fun j1 j2=>?_
  have hxl:=hT.len
  have e0:lo0 1 [] lo=[none]:=rfl
  have heq:(evs.map Ev.enc).map zDt=xs.map zDt:=by rw [hT.eq,List.map_map];rfl
  obtain ⟨ds,hds⟩:∃ds,zDc (yi M 7) (xs.map zDt)=some ds:=zHP fun x hx=>by
    rw [hT.eq] at hx
    refine xEA (List.mem_map.mp hx) fun e Z z2=>?_;subst z2
    exact zVL e
  have q1:yi M 8 (.lst (xs.map zDt))=some (.list ds):=zJz hds
  have hc1:∀(k:PV->Mem->Prop) kx,k (.lst (xs.map zDt)) M->(qe false 1 [] (zF 12) qP (qy (zp (zD (zZ (zF 0) (zC (.int 0))) (zD (zZ (zF 0) (zC (.int 1))) zM))))) ⟨lo,M⟩ k kx:=fun k kx K'=>by
    rw [zFC,zMV h12]
    refine oKi i1 ?_
    rw [e0]
    exact zTB i2 xs [] hT.tup (by simp;lia) K'
  have hc2:∀(k:PV->Mem->Prop) kx,k (.lst (xs.map zDt)) M->(qe false 1 [] (zF 8) qP (qy (zp (zD (zZ (zF 0) (zC (.int 0))) (zD (zZ (zF 0) (zC (.int 1))) zM))))) ⟨lo,M⟩ k kx:=fun k kx K'=>by
    rw [zFC,zMV h8]
    refine oKi j1 ?_
    rw [e0]
    refine zTB j2 (evs.map Ev.enc) [] (fun x hx=>?_) (by simp;lia) ?_
    · refine xEA (List.mem_map.mp hx) fun e Z z3=>?_;subst z3
      exact zYH e
    · rw [heq];exact K'
  unfold L17
  rw [zNM,zZp,zMV h9]
  refine oKi (r:=true) rfl ?_
  rw [zAl,zYB]
  refine hc1 _ _ (hc2 _ _ (oKi (r:=true) ?_ K))
  simp only [qEq,qNe,qIn,qNi,zKE q1 q1]
end
section
variable {M M':Mem}{h b m W lg:Nat}{σ:Sto}
theorem zy.under {n n':Nat}(H:zy M h σ n) (hn:n<=n') (hm:h+6<=m) (c:∀i,i<m->M'.c i=M.c i):zy M' h σ n':=H.keep hn fun j Z q=>c j (Nat.lt_of_lt_of_le q hm)
theorem ze.under (R:ze M b σ) (hm:b+8<=m) (c:∀i,i<m->M'.c i=M.c i):ze M' b σ:=R.mono fun i Z q=>c i (Nat.lt_of_lt_of_le (Nat.lt_succ_of_le q) hm)
theorem ze.via (R:ze M b σ) (hl:h+6<=b) (hm:b+8<=lg) (F:LFr h lg M M'):ze M' b σ:=R.mono fun i a q=>F.c i (Nat.ne_of_lt (Nat.lt_of_lt_of_le (Nat.lt_succ_of_le q) hm)) (.inr (Nat.le_trans hl a))
theorem zy.via {k n n':Nat}(H:zy M k σ n) (hn:n<=n') (hl:h+6<=k) (hm:k+6<=lg) (F:LFr h lg M M'):zy M' k σ n':=H.keep hn fun j a q=>F.c j (Nat.ne_of_lt (Nat.lt_of_lt_of_le q hm)) (.inr (Nat.le_trans hl a))
theorem zy.below {n n':Nat}(H:zy M h σ n) (hn:n<=n') (hl:h+6<=b) (hm:h+6<=W) (F:zEX b W M M'):zy M' h σ n':=H.keep hn fun j Z q=>F.c j (Nat.lt_of_lt_of_le q hm) (Nat.ne_of_lt (Nat.lt_succ_of_lt (Nat.lt_of_lt_of_le q hl))) (Nat.ne_of_lt (Nat.lt_succ_of_lt (Nat.lt_succ_of_lt (Nat.lt_of_lt_of_le q hl))))
theorem zy.above {n n':Nat}(H:zy M h σ n) (hn:n<=n') (hl:b+3<=h) (hm:h+6<=W) (F:zEX b W M M'):zy M' h σ n':=H.keep hn fun j a q=>F.c j (Nat.lt_of_lt_of_le q hm) (Nat.ne_of_gt (Nat.lt_of_lt_of_le (Nat.lt_succ_of_lt (Nat.lt_succ_self _)) (Nat.le_trans hl a))) (Nat.ne_of_gt (Nat.lt_of_lt_of_le (Nat.lt_succ_self _) (Nat.le_trans hl a)))
theorem ze.above {k:Nat}(R:ze M k σ) (hl:b+3<=k) (hm:k+8<=W) (F:zEX b W M M'):ze M' k σ:=R.mono fun i a q=>F.c i (Nat.lt_of_lt_of_le (Nat.lt_succ_of_le q) hm) (Nat.ne_of_gt (Nat.lt_of_lt_of_le (Nat.lt_succ_of_lt (Nat.lt_succ_self _)) (Nat.le_trans hl a))) (Nat.ne_of_gt (Nat.lt_of_lt_of_le (Nat.lt_succ_self _) (Nat.le_trans hl a)))
theorem zWa {o:MO}(e:M.n=lg):(∀i,i<lg->(M.new o).c i=M.c i)/\(M.new o).n=lg+1/\(M.new o).c lg=o:=by
  subst e;exact ⟨fun i hi=>if_neg (Nat.ne_of_lt hi),rfl,if_pos rfl⟩
theorem bd0 (hσ:∀a x,σ.num a=some x->x.natAbs<=4) {rd:Rd}(hr:∀q,rd=some q->q.length=5/\∀x∈q,x.natAbs<=4):Bd 84 200 rd ⟨[],σ⟩:=
  ⟨by simp,fun Z=>rfl,fun x hx=>Nat.le_trans (hσ 0 x hx) (by decide),fun x hx=>Nat.le_trans (hσ 1 x hx) (by decide),fun x hx=>hσ 2 x hx,hr⟩
end
theorem zWS {ns:List Int}(hn:ns.length<=63) {M:Mem}{k:PV->Mem->Prop}{kx:Mem->Prop}(K:∀M',k (.bool true) M'):zTO [.lst (ns.map .int)] M k kx:=by
  rw [zTO,zbk,zWR,yf]
  refine s0 hn fun N0 n0 P0 c0=>?_
  rw [yf]
  refine s1 (pl:=M.n) rfl P0 fun its N1 hil hok F1=>?_
  rw [yf]
  refine s2 (pl:=M.n) rfl F1.ok fun nums N2 n5 hnum F2=>?_
  rw [yf]
  have hN2:N2.n=M.n+1:=by rw [F2.n,F1.n,n0]
  refine s3 (pl:=M.n) rfl (by lia) F2.ok fun N3 σ H3 hσ hN3=>?_
  rw [yf]
  generalize hh:N2.n=h at *
  have o1:h+6<=N3.n:=Nat.le_of_eq hN3.symm
  refine s4 (h:=h) (σ:=σ) (n:=0) rfl H3 o1 fun N4 R4 hN4 c4=>?_
  rw [yf]
  generalize N3.n=b1 at *
  have o2:b1+15<=N4.n:=Nat.le_of_eq hN4.symm
  have l2:b1<=N4.n:=Nat.le_trans (Nat.le_add_right b1 15) o2
  have H4:zy N4 h σ 0:=H3.under (Nat.le_refl _) o1 c4
  refine s5 (h:=h) (σ:=σ) (n:=0) rfl H4 (Nat.le_trans o1 l2) fun N5 R5 hN5 c5=>?_
  rw [yf]
  generalize N4.n=b2 at *
  have H5:zy N5 h σ 0:=H4.under (Nat.le_refl _) (Nat.le_trans o1 l2) c5
  have q2:b1+8<=b2:=Nat.le_trans (Nat.add_le_add_left (by decide) b1) o2
  have R51:ze N5 b1 σ:=R4.under q2 c5
  have o3:b2+15<=N5.n:=Nat.le_of_eq hN5.symm
  have l3:b2<=N5.n:=Nat.le_trans (Nat.le_add_right b2 15) o3
  have p3:h+6<=N5.n:=Nat.le_trans (Nat.le_trans o1 l2) l3
  refine s6 (h:=h) (σ:=σ) rfl H5 p3 fun N6 H6 hN6 c6=>?_
  rw [yf,s7,yf]
  generalize N5.n=h2 at *
  generalize hlg:N6.n=lg at *
  have o4:h2+6<=lg:=Nat.le_of_eq hN6.symm
  have l4:h2<=lg:=Nat.le_trans (Nat.le_add_right h2 6) o4
  refine xAA (zWa (o:=.list []) hlg) fun c7 hN7 hc7=>?_
  generalize N6.new (.list [])=N7 at *
  have c67:∀i,i<h2->N7.c i=N5.c i:=fun i q=>(c7 i (Nat.lt_of_lt_of_le q l4)).trans (c6 i q)
  have H7:zy N7 h σ 0:=H5.under (Nat.le_refl _) p3 c67
  have S7:zy N7 h2 σ 0:=H6.under (Nat.le_refl _) o4 c7
  have q3:b1+8<=h2:=Nat.le_trans q2 l3
  have r3:b2+8<=h2:=Nat.le_trans (Nat.add_le_add_left (by decide) b2) o3
  have p4:h+6<=lg:=Nat.le_trans p3 l4
  have B1:=bd0 hσ (rd:=some nums) fun q hq=>by refine sE hq ?_;clear hq;rintro rfl;exact ⟨n5,hnum⟩
  refine s8 (h:=h) (lg:=lg) (ns:=nums) (its:=its) (ps:=⟨[],σ⟩) hok rfl rfl rfl rfl B1 ⟨H7,hc7,.inr p4⟩ fun N8 L8 F8=>?_
  rw [yf]
  have hlen1:=zSq (rd:=some nums) its ⟨[],σ⟩ (by simp)
  have hw:=zQo (rd:=some nums) hok (by lia) B1 (b:=(qJ (some nums) its ⟨[],σ⟩).1) (ps':=(qJ (some nums) its ⟨[],σ⟩).2) rfl (by simp)
  have hdue:(qJ (some nums) its ⟨[],σ⟩).1=true->due (qJ (some nums) its ⟨[],σ⟩).2.log=(qJ (some nums) its ⟨[],σ⟩).2.log:=fun hb =>
    ((zPl its (fun it hm=>zVx (hok it hm)) ⟨[],σ⟩ _ _ rfl B1).1 hb).1.nn rfl
  generalize hps:(qJ (some nums) its ⟨[],σ⟩).2=ps at *
  generalize hbb:(qJ (some nums) its ⟨[],σ⟩).1=bb at *
  refine s9 (lg:=lg) (evs:=ps.log) rfl hlen1.1 L8.log ?_
  rw [yf]
  have hN8:lg+1<=N8.n:=Nat.le_of_eq (F8.n.trans hN7).symm
  have w8:lg<=N8.n:=Nat.le_trans (Nat.le_succ lg) hN8
  have R81:ze N8 b1 σ:=(R51.under q3 c67).via o1 (Nat.le_trans q3 l4) F8
  have R82:ze N8 b2 σ:=(R5.under r3 c67).via (Nat.le_trans o1 l2) (Nat.le_trans r3 l4) F8
  have S8:zy N8 h2 σ 0:=S7.via (Nat.le_refl _) p3 o4 F8
  have hout1:(if bb=true then (ps.log,false,ps.σ) else zAr (some nums) ps).1=due ps.log:=by
    induction bb using Bool.casesOn with
    | true=>rw [if_pos rfl];exact (hdue rfl).symm
    | false=>rw [if_neg (by simp)];rfl
  have hout2:(if bb=true then (ps.log,false,ps.σ) else zAr (some nums) ps).2.1=!(bb||decide (40<=(due ps.log).length)):=by
    induction bb using Bool.casesOn with
    | true=>rw [if_pos rfl];rfl
    | false =>
      rw [if_neg (by simp)]
      show decide ((due ps.log).length<40)=!(false||decide (40<=(due ps.log).length))
      by_cases q:(due ps.log).length<40
      · rw [decide_eq_true q,decide_eq_false (by lia)];rfl
      · rw [decide_eq_false q,decide_eq_true (by lia)];rfl
  have hout3:(if bb=true then (ps.log,false,ps.σ) else zAr (some nums) ps).2.2=ps.σ:=by
    induction bb using Bool.casesOn with
    | true=>rw [if_pos rfl]
    | false=>rw [if_neg (by simp)];rfl
  have hdl:=zXz ps.log
  have q8:b1+15<=N8.n:=Nat.le_trans (Nat.le_trans o2 (Nat.le_trans l3 l4)) w8
  refine s10 (b:=b1) (σ:=σ) (ns:=nums) (its:=its) (evs:=due ps.log) (bb:=bb) q8 n5 rfl rfl rfl rfl rfl R81 hw (Nat.le_trans hdl hlen1.1) hout1 hout2 fun N10 F10 R10=>?_
  rw [yf]
  rw [hout3] at R10
  have t3:b1+3<=b2:=Nat.le_trans (Nat.add_le_add_left (by decide) b1) o2
  have H10:zy N10 h ps.σ ps.log.length:=L8.held.below (Nat.le_refl _) o1 (Nat.le_trans p4 w8) F10
  have g10:lg<=N10.n:=Nat.le_trans w8 F10.n
  refine s11 (h:=h) (σ:=ps.σ) (n:=ps.log.length) rfl H10 (Nat.le_trans p4 g10) fun N11 R11 hN11 c11=>?_
  rw [yf]
  generalize N10.n=b3 at *
  have R111:ze N11 b1 ps.σ:=R10.under (Nat.le_trans (Nat.le_trans q3 l4) g10) c11
  refine s12 (b:=b1) (b':=b3) rfl rfl R111 R11 ?_
  rw [yf,s13,yf]
  have S11:zy N11 h2 σ 0:=(S8.above (Nat.le_refl _) (Nat.le_trans t3 l3) (Nat.le_trans o4 w8) F10).under (Nat.le_refl _) (Nat.le_trans o4 g10) c11
  have R112:ze N11 b2 σ:=(R82.above t3 (Nat.le_trans (Nat.le_trans r3 l4) w8) F10).under (Nat.le_trans (Nat.le_trans r3 l4) g10) c11
  generalize hlg2:N11.n=lg2 at *
  have g11:lg<=lg2:=Nat.le_trans g10 (Nat.le_trans (Nat.le_add_right b3 15) (Nat.le_of_eq hN11.symm))
  refine xAA (zWa (o:=.list []) hlg2) fun c13 hN13 hc13=>?_
  generalize N11.new (.list [])=N13 at *
  have S13:zy N13 h2 σ 0:=S11.under (Nat.le_refl _) (Nat.le_trans o4 g11) c13
  have B2:=bd0 hσ (rd:=none) fun q hq=>by exact zW hq
  refine s14 (h:=h2) (lg:=lg2) (its:=its) (ps:=⟨[],σ⟩) hok rfl rfl rfl B2 ⟨S13,hc13,.inr (Nat.le_trans o4 g11)⟩ fun N14 L14 F14=>?_
  rw [yf]
  have hlen2:=zSq (rd:=none) its ⟨[],σ⟩ (by simp)
  have hw2:=zQo (rd:=none) hok (by lia) B2 (b:=(qJ none its ⟨[],σ⟩).1) (ps':=(qJ none its ⟨[],σ⟩).2) rfl
  generalize (qJ none its ⟨[],σ⟩).2=ps2 at *
  generalize (qJ none its ⟨[],σ⟩).1=b2' at *
  have hN14:lg2+1<=N14.n:=Nat.le_of_eq (F14.n.trans hN13).symm
  have R142:ze N14 b2 σ:=(R112.under (Nat.le_trans (Nat.le_trans r3 l4) g11) c13).mono fun i Z q=>F14.c i (Nat.ne_of_lt (Nat.lt_of_lt_of_le (Nat.lt_succ_of_le q) (Nat.le_trans (Nat.le_trans r3 l4) g11))) (.inl (Nat.lt_of_lt_of_le (Nat.lt_succ_of_le q) r3))
  refine s15 (lg:=lg2) (evs:=ps2.log) rfl hlen2.1 L14.log (fun Z=>K _) fun h40=>?_
  rw [yf]
  have hw3:=hw2 (fun Z=>h40)
  refine s16 (b:=b2) (σ:=σ) (its:=its) (evs:=ps2.log) (bb:=b2') (Nat.le_trans (Nat.le_trans (Nat.le_trans o3 l4) g11) (Nat.le_trans (Nat.le_succ lg2) hN14)) rfl rfl rfl R142 hw3 (by induction b2' using Bool.casesOn<;>rfl) (by induction b2' using Bool.casesOn<;>rfl) (fun M' Z=>K M') fun N16 r xs hbt F16 hr hT=>?_
  rw [yf]
  subst hbt
  exact s17 (lg:=lg2) (evs:=ps2.log) rfl rfl rfl hlen2.1 (by rw [F16.c lg2 hN14 (Nat.ne_of_gt (Nat.lt_of_lt_of_le (Nat.add_lt_add_left (by decide) b2) (Nat.le_trans r3 (Nat.le_trans l4 g11)))) (Nat.ne_of_gt (Nat.lt_of_lt_of_le (Nat.add_lt_add_left (by decide) b2) (Nat.le_trans r3 (Nat.le_trans l4 g11))))];exact L14.log) hr hT (K _)
open Classical in
theorem zYV {P:Params}{F:FD}{h h1z:Heap}{m1z:Str->Option Value}{b:Addr}{vs:List Value}{f:Nat->MO}(hl:h.get? b=some (zm "list" vs 0)) (hk:∀b o,h.get? b=some o->h1z.get? b=some o) (hn:h1z.Ns h.objs.size m1z)
    (hc:∀x c,(yE F h.objs.size).cells.lookup x=some c->(∃o v,h1z.get? c=some o/\o.data=.cell v)/\h.objs.size<c) {g:Gh}(hg:g=⟨P,0,fun a=>if a=b then some (zm "list" vs 0) else none,fun a=>a=b,fun Z=>0⟩) :
    Inv P h h.objs.size [] (g.cells F h.objs.size h1z) ⟨0,f⟩ m1z h1z/\COk F h.objs.size (g.cells F h.objs.size h1z)/\(g.cells F h.objs.size h1z).led b=some (zm "list" vs 0)/\(g.cells F h.objs.size h1z).fz b:=by
  subst hg
  have hb:¬zAI F h.objs.size b:=fun ⟨x,hx⟩=>absurd (Heap.lt_size hl) (Nat.not_lt.mpr (Nat.le_of_lt (hc x b hx).2))
  have l1:(Gh.cells ⟨P,0,fun a=>if a=b then some (zm "list" vs 0) else none,fun a=>a=b,fun Z=>0⟩ F h.objs.size h1z).led b=some (zm "list" vs 0):=by
    show (if zAI F h.objs.size b then _ else _)=_
    rw [if_neg hb]
    show (if b=b then _ else _)=_
    rw [if_pos rfl]
  have f1:(Gh.cells ⟨P,0,fun a=>if a=b then some (zm "list" vs 0) else none,fun a=>a=b,fun Z=>0⟩ F h.objs.size h1z).fz b:=by
    show (if zAI F h.objs.size b then _ else _)
    rw [if_neg hb]
  refine (zEg ⟨hk,hn,Nat.le_refl _,fun a o e=>?_,rfl,fun i hi=>absurd hi (Nat.not_lt_zero _),fun i j hi=>absurd hi (Nat.not_lt_zero _),fun p hp=>(nomatch hp),rfl⟩ (fun x c hx=>?_) l1 f1)
  · have e':(if zAI F h.objs.size a then h1z.get? a else (if a=b then some (zm "list" vs 0) else none))=some o:=e
    split at e'
    · rename_i ho
      refine xE ho fun x hx=>?_
      have hlt:=(hc x a hx).2
      exact ⟨e',Nat.ne_of_gt hlt,fun Z=>Heap.get?_none_of_le (Nat.le_of_lt hlt)⟩
    · split at e'
      · rename_i hab
        subst hab
        refine sE e' ?_;clear e';rintro rfl
        exact ⟨hk _ _ hl,Nat.ne_of_lt (Heap.lt_size hl),fun nf=>absurd f1 nf⟩
      · exact zW e'
  · refine xA (hc x c hx) fun z1 Z=>?_;obtain ⟨o,v,ho,hd⟩:=z1
    have hoo:zAI F h.objs.size c:=⟨x,hx⟩
    refine (yb o v ?_ ?_ (fun i hi=>absurd hi (Nat.not_lt_zero _)) hd)
    · show (if zAI F h.objs.size c then _ else _)=_
      rw [if_pos hoo];exact ho
    · show ¬(if zAI F h.objs.size c then _ else _)
      rw [if_pos hoo];exact id
theorem zYc (W:WOk Tp w) {s:Shared}(hT:Tp w s.heap) {b:Addr}{vs:List Value}{ns:List Int}(hl:s.heap.get? b=some (zm "list" vs 0)) (hv:∀g,yJ g (ns.map .int) vs) (hn:ns.length<=63)
    {Q E:Value->Shared->Prop}(hq:∀h' tk',(∀a o,s.heap.get? a=some o->h'.get? a=some o)->Q (.bool true) { s with heap:=h',toks:=tk' }):wpAny (model PG w) callerA (call (.ref 598) [.ref b]) Q E s:=by
  have O:=zf (W.fn 56 _ rfl:zUr Tp w zAK) zaA
  refine zBc (O.ob s.heap hT) fun nl cr oc od dV kV doc pm an ct sl ho hbind=>?_
  have tl:zTO [.lst (ns.map .int)] ⟨0,fun Z=>default⟩ (fun p Z=>p=.bool true) (fun Z=>False):=zWS hn fun Z=>rfl
  unfold zTO at tl
  rw [yV] at tl
  refine xA (zHI tl) fun hlen tbody=>?_
  have ndz:(((zAK.nm.take 1).zip [Value.ref b]).map (·.1)).Nodup:=List.nodup_cons.mpr ⟨fun h=>(nomatch h),List.nodup_nil⟩
  refine wpAny_call (zIk (fd:=fnX (zFX zAK.st) zAK.F.name (zFW zAK.st) (zu zAK.st) zAK.F.scope [] dV kV doc pm an zAK.F.cd ct) (body:=zu zAK.st) (binds:=(zAK.nm.take 1).zip [Value.ref b]) (by decide +kernel) ho rfl nl cr rfl (BindsTo.of_eq (hbind [.ref b] rfl)) rfl
    (fun x hx=>?_) (fun s1z x=>?_) O.co O.gen O.kind)
  · have:x.1∈zAK.nm.take 1:=by
      rcases List.mem_cons.mp hx with rfl | hx
      · exact .head _
      · cases hx
    exact (O.kn x.1 this).imp id fun z=>⟨z.1,z.2 _⟩
  · refine zHH x.done fun h1z tk1z z2 Z=>?_;subst z2
    refine zBb (zYV (P:=w.params) (F:=zAK.F) (f:=fun Z=>default) hl x.toInCall.keep x.toInCall.ns (fun y c e=>⟨let ⟨o,a,b⟩:=x.cell y c e;⟨o,_,a,b⟩,x.above y c (mem_of_lookup e)⟩) rfl) fun J CO l1 f1=>?_
    have XC:Ct (Tp w) 90 true (callerA.deeper (yE zAK.F s.heap.objs.size)) s.heap [] [] s.heap.objs.size zAK.F:={
      top:=hT
      fr:=Around.frames_deeper rfl
      room:=(by decide +kernel:callerA.depth+1+90<recursionLimit)
      units:=(by decide +kernel:callerA.units+3+8 * 90+100<cLine)
      out:=rfl
      kinds:=fun e he=>nomatch he
      fk:=O.kind
      hz:=fun Z=>rfl }
    have So:SOk zAK.F zAK.nm s.heap.objs.size (Gh.cells ⟨w.params,0,fun a=>if a=b then some (zm "list" vs 0) else none,fun a=>a=b,fun Z=>0⟩ zAK.F s.heap.objs.size h1z) (bindL (yE zAK.F s.heap.objs.size).kindOf ((zAK.nm.take 1).zip [Value.ref b]) fun Z=>none) ([PV.lst (ns.map .int)].map some++List.replicate (zAK.nm.length-1) none):=by
      refine ⟨?_,CO⟩
      intro i pv e
      induction i with
      | zero =>
        simp only [List.map_cons,List.map_nil,List.cons_append,List.getElem?_cons_zero,Option.some.injEq] at e
        subst e
        exact (zPq ("script") (.ref b) rfl (.inl ⟨rfl,rfl,zMS (by rfl) _ _ ndz (.head _)⟩) b vs 0 rfl f1 l1 (hv _))
      | succ i =>
        simp only [List.map_cons,List.map_nil,List.cons_append,List.nil_append,List.getElem?_cons_succ,List.getElem?_replicate] at e
        split at e<;>cases e
    refine ((zcY W (d:=90) (by decide)).go _ s.heap [] [] _ XC _ _ _ { s with heap:=h1z,toks:=tk1z } _ J So _ _ _ tbody) _ _ (fun st' m' g' h' tk' e i so q=>by cases q) (fun v pv M' m' g' h' tk' e i rr q=>?_) (fun e st' m' g' h' tk' ee i so q=>q.elim)
    obtain rfl:pv=.bool true:=q
    obtain rfl:v=.bool true:=rr
    exact hq h' tk' i.keep
theorem zMs {R:WRecords}{P:Params}{h:Heap}:∀{xs:List WData}{vs:List Value},WellAll P h vs xs->(∀x∈xs,WShape.has R x .int=true)->∃ns:List Int,ns.length=xs.length/\∀g,yJ g (ns.map .int) vs
  | [],_,.nil,_=>(iEA [] rfl (fun Z=>rfl))
  | x::xs,_,.cons h1 h2,hx=>by
    refine xEA (zMs h2 fun x hm=>hx x (.tail _ hm)) fun ns hl hr=>?_
    refine xE (hasW_int (hx x (.head _))) fun n z1=>?_;subst z1
    cases h1 with
    | int _ t=>exact (iEA (n::ns) (by rw [List.length_cons,List.length_cons,hl]) (fun g=>(yS _ _ rfl ⟨t,rfl⟩ (hr g))))
theorem zKk {R:WRecords}:∀{xs:List WData},WShape.hasItems R xs .int=true->∀x∈xs,WShape.has R x .int=true
  | [],_,_,h=>nomatch h
  | y::ys,e,x,h=>by
    unfold WShape.hasItems at e
    refine xA (Bool.and_eq_true_iff.mp e) fun e1 e2=>?_
    rcases List.mem_cons.mp h with rfl | h
    · exact e1
    · exact zKk e2 x h
theorem zdC {K:Params->Frag}(H:∀P,KOk (K P)) {q:Program}{loose:List Str}{XP:(Str->Option Value)->Heap->Prop}{YP:World->Heap->Prop}{d:DefRec}{kwd:List (Str×PySem.Expr)}(hY:∀w h,YP w h->(K w.params).In h) (hi:importsNone q=true) (hdn:d.name = "law") :
    WalkO q loose XP YP PySem.Challenge.rw_no0269_01.row.toRowW d kwd (fun f vs=>call f vs):=by
  intro w s0z s1z mg mb G Y a o pm cd doc dV kV ho hd hcd hD hmg hg args vals as hpre hlay hrd hwl hlo
  refine xA (pre_splitW hpre) fun hsh hcond=>?_
  have hB:Tp0 K w s1z.heap:=by
    refine xEA ((G.T.seer hi).mods) fun mm z2 Z=>?_;obtain ⟨om,_,_,hm,_⟩:=z2
    exact (zbu (hY _ _ Y) G.T.nolimit (iEA mb G.T.b G.T.builtins) om hm)
  have ha:a=598:=by
    refine xEA (zFA (H w.params).g) fun es q1 q2=>?_
    have q3:=q2 _ hB.1
    have q4:nsL es "law" = some (.ref 598):=by
      have:=List.all_eq_true.mp (Bool.and_eq_true_iff.mp q1).1 (("law",.ref 598):Str×Value) (List.mem_of_getElem? (i:=58) rfl)
      exact beq_iff_eq.mp this
    rw [hdn] at hmg
    refine yY q3 fun o1 e1 p1 g1 d1 Z m1=>?_
    refine yY G.T.g fun o2 e2 p2 g2 d2 Z m2=>?_
    rw [g1] at g2
    refine sE g2 ?_;clear g2;rintro rfl
    rw [d1] at d2
    cases d2
    have:=(m1 "law").symm.trans (m2 "law")
    rw [q4,hmg] at this
    cases this
    rfl
  subst ha
  refine zt (hasAllW_cons hsh) fun dd rr z3 h1 h2=>?_;subst z3
  obtain rfl:=hasAllW_nil h2
  refine xEA (hasW_list h1) fun xs z4 h3=>?_;subst z4
  have h4:(WTm.not (.lt (.lit (.int 63)) (.len (.arg 0)))).holds [] { args:=[.list xs] }=true:=(holds_andW hcond).1
  have hlen:xs.length<=63:=by
    have hc:=condW_of h4 (by wtm_val)
    simp only [Bool.not_eq_true',decide_eq_false_iff_not] at hc
    omega
  cases hwl with
  | cons w1 w2 =>
    cases w2
    cases w1 with
    | @list b vs _ hl hw =>
      refine xEA (zMs hw (zKk h3)) fun ns q1 q2=>?_
      refine zYc (zat H) hB hl q2 (by rw [q1];exact hlen) fun h' tk' kp=>GoodW.toG (zEg (.inl (zHZ (.bool true) (.bool true) [] rfl (fun Z=>rfl) (.bool true) ?_ (fun Z=>⟨List.nodup_nil,fun a h=>nomatch h⟩))) kp rfl hg)
      wrow_post
end
end Mine
set_option Elab.async true
namespace Mine.top
noncomputable section
noncomputable def Z:=0
def tw17542608870123051758:=Z
def tw3976154599441133093:=Z
def tw16878204669230926818:=Z
def tw11760055953109336660:=Z
def tw4213018616267185653:=Z
def tw1971433849790844608:=Z
def tw4547018644641229820:=Z
def tw13305523845174962083:=Z
def tw16885616592811714743:=Z
def tw4047667213573674445:=Z
def tw11520865232209809239:=Z
def tw2464713573024523455:=Z
def tw13994475860397038760:=Z
def tw9227057690007400460:=Z
def tw352232786441526191:=Z
def tw5667650583090716360:=Z
def tw14823308797102314842:=Z
def tw7008692893051332821:=Z
def tw18177719399980262173:=Z
def tw18034075008235765660:=Z
def tw283044589724301:=Z
def tw9366391650621772374:=Z
def tw1617357707322924660:=Z
def tw427269002284569659:=Z
def tw4796303294375832693:=Z
def tw2506305409684761478:=Z
def tw6127594578889010139:=Z
def tw13802547742096326172:=Z
def tw11133666699803404755:=Z
def tw2665807947273092163:=Z
def tw5244899138074338376:=Z
def tw1869187583165140508:=Z
def tw3730354652608582461:=Z
def tw8679839319945467846:=Z
def tw908825868028484722:=Z
def tw104434173382791472:=Z
def tw1814787853859245837:=Z
def tw7527032243904285869:=Z
def tw11922380849998532372:=Z
def tw6211089042160764376:=Z
def tw1754339480302792767:=Z
def tw16719718919923625709:=Z
def tw453181688931711583:=Z
def tw5507162329139097715:=Z
def tw4383139521930768336:=Z
def tw13345470168829271861:=Z
def tw13044034144603486326:=Z
def tw13369591340354186047:=Z
def tw6812286434817487243:=Z
def tw16439428074185983240:=Z
def tw16415559393655328363:=Z
def tw8321918168302905379:=Z
def tw7198060816514059695:=Z
def tw11858546649754279707:=Z
def tw47109162367338493:=Z
def tw14371913498598963198:=Z
def tw6292954644110606532:=Z
def tw12415523145999629524:=Z
def tw1195175773429642966:=Z
def tw16058212318047004132:=Z
def tw8054331753737935190:=Z
def tw390997316461189296:=Z
def tw1124271682379634556:=Z
def tw8735323631387419056:=Z
def tw7204998973626084599:=Z
def tw8645369167282567922:=Z
def tw1284575025550258836:=Z
def tw8689318265317240412:=Z
def tw6694047246710070196:=Z
def tw7313339093194340965:=Z
def tw8729362747519067210:=Z
def tw5609151216138764652:=Z
def tw649594095290182367:=Z
def tw13272337422414781067:=Z
def tw10801874191123338550:=Z
def tw18367679650794681301:=Z
def tw8212240652046128837:=Z
def tw84136930442132756:=Z
def tw6659320528611288953:=Z
def tw17346259052997144950:=Z
def tw11762496359356365647:=Z
def tw14399976873020721970:=Z
def tw7250933059871147345:=Z
def tw2985252069258134486:=Z
def tw8204474986945543665:=Z
def tw13370750898655102155:=Z
def tw8435561252592420358:=Z
def tw8139039716903228087:=Z
def tw12425085872883035938:=Z
def tw5088376156974544275:=Z
def tw1149218181149386328:=Z
def tw14446128237075768194:=Z
def tw18064794426631996164:=Z
def tw5915399644114372684:=Z
def tw9851269098105209369:=Z
def tw7325726471975496349:=Z
def tw7847650389618582240:=Z
def tw14453841093610474573:=Z
def tw14901070454687303710:=Z
def tw4392038535549328194:=Z
def tw16580785732701462914:=Z
def tw1471633030738003533:=Z
def tw2377541652452675900:=Z
def tw4835499133494076262:=Z
def tw10783980745131425670:=Z
def tw7160873610591055699:=Z
def tw3479634599624807885:=Z
def tw1275901062530889299:=Z
def tw12342655685612074800:=Z
def tw10936122117785486979:=Z
def tw15245507539482535896:=Z
def tw5839659824258004927:=Z
def tw1697544655201012999:=Z
def tw1294077662247117797:=Z
def tw1843344800811705456:=Z
def tw4058662728301269685:=Z
def tw3422688185749166683:=Z
def tw16759092144687519636:=Z
def tw13710211086531791108:=Z
def tw7444641836354208208:=Z
def tw15092371282622821202:=Z
def tw1676862907878916244:=Z
def tw12080426169559351053:=Z
def tw15286249088069653756:=Z
def tw12483720753089274532:=Z
def tw4551080515912023512:=Z
def tw6431110157172167083:=Z
def tw17342085116792181814:=Z
def tw6919701780365589675:=Z
def tw3739144386018749749:=Z
def tw15976228082101565994:=Z
def tw860223938195835975:=Z
def tw18085771088847121727:=Z
def tw12819366960792805191:=Z
def tw18063644159110109576:=Z
def tw5476889619067714990:=Z
def tw17810072253543177317:=Z
def tw6906291655842520137:=Z
def tw4555866861457887817:=Z
def tw13928562000808390012:=Z
def tw10562855833978642645:=Z
def tw11141966352661209427:=Z
def tw8622502720953521162:=Z
def tw17323899518341599180:=Z
def tw13290321428070320777:=Z
def tw8369368087495890639:=Z
def tw501154541418245514:=Z
def tw11240886729373846589:=Z
def tw13420762306968818387:=Z
def tw17833194346398213888:=Z
def tw11116745826364501430:=Z
def tw13307591127769906961:=Z
def tw8265191368974092141:=Z
def tw14142502885225118848:=Z
def tw13134186033006778460:=Z
def tw2822501910515967889:=Z
def tw10900551605799900844:=Z
def tw1585457916280141200:=Z
def tw2731995056826638727:=Z
def tw3207569582813703071:=Z
def tw7830913209206220567:=Z
def tw15058813355848621054:=Z
def tw708234853630380328:=Z
def tw7671549972530922468:=Z
def tw12400393293032028424:=Z
def tw9063741608606530840:=Z
def tw13968125046926948103:=Z
def tw6438537300738474071:=Z
def tw14168018189251442112:=Z
def tw2417791160451022400:=Z
def tw3767615275625035234:=Z
def tw6487610083215253720:=Z
def tw8311017846404947139:=Z
def tw5581607755468803823:=Z
def tw6664487174759623829:=Z
def tw16453443671601555132:=Z
def tw13799840507378627052:=Z
def tw11982747722937265360:=Z
def tw2835187731363253809:=Z
def tw14789260269991461300:=Z
def tw10887712193710566981:=Z
def tw11613256710310857696:=Z
def tw14402358008270493973:=Z
def tw11459358961799972967:=Z
def tw6624316729101989866:=Z
def tw9382581127745807760:=Z
def tw17022078359063049780:=Z
def tw8184561461823581802:=Z
def tw11423202765487971197:=Z
def tw2462062305354472974:=Z
def tw15874363893724204672:=Z
def tw1988063486488863061:=Z
def tw5398424786039705171:=Z
def tw11960245374511038805:=Z
def tw14349089067433371257:=Z
def tw9059672392935016618:=Z
def tw13987285891283452908:=Z
def tw4655869559712951663:=Z
def tw7429413206186439793:=Z
def tw6930518751129746686:=Z
def tw16155163154822807229:=Z
def tw9601329371697537090:=Z
def tw10399464001100048223:=Z
def tw13177472732611162249:=Z
def tw728428047077509346:=Z
def tw10579768621468169598:=Z
def tw7990429038631628895:=Z
def tw72247145696351765:=Z
def tw2145171640123136144:=Z
def tw1321871150748368714:=Z
def tw5118827330378232414:=Z
def tw17103177528636943170:=Z
def tw2267912224990424062:=Z
def tw15877122091014420850:=Z
def tw2967798162736962236:=Z
def tw12427389293880184781:=Z
def tw6520327441239513222:=Z
def tw17565814175750979855:=Z
def tw18237780215024852062:=Z
def tw16900427199656544559:=Z
def tw8694864300669457046:=Z
def tw17795014544551873601:=Z
def tw10774637447528242797:=Z
def tw2581206410525282061:=Z
def tw146815374380898660:=Z
def tw1886144042066472794:=Z
def tw2847958352784047137:=Z
def tw620129878449983639:=Z
def tw9614876229902214918:=Z
def tw14459580976405569124:=Z
def tw3195522803047326042:=Z
def tw381845443943030031:=Z
def tw5766051744304087583:=Z
def tw1516213087968936877:=Z
def tw10404823597219466188:=Z
def tw18008055252877512497:=Z
def tw7743179893348639699:=Z
def tw1108800333578037850:=Z
def tw9227541089923242437:=Z
def tw53344730913325255:=Z
def tw4859757453598101857:=Z
def tw12392516345856041104:=Z
def tw9800703332001039478:=Z
def tw14608685727046917156:=Z
def tw15985961358823992270:=Z
def tw2312856594315299383:=Z
def tw705360758644809490:=Z
def tw5597187220613765494:=Z
def tw3871027444623705763:=Z
def tw6451443466077778170:=Z
def tw12764151676501842404:=Z
def tw13223034962123697568:=Z
def tw17953984050398360512:=Z
def tw2732273902793177162:=Z
def tw11430207588045935325:=Z
def tw3669314199184481253:=Z
def tw4186445540838780016:=Z
def tw2727672472851901052:=Z
def tw13001836021917841797:=Z
def tw18164388396756303480:=Z
def tw2249405535684624136:=Z
def tw2812155379371279736:=Z
def tw10001883323181062329:=Z
def tw1123975283337734383:=Z
def tw6505410396798821541:=Z
def tw3796891538752321733:=Z
def tw13501252493785611398:=Z
def tw5303079699428457377:=Z
def tw1732150942055357024:=Z
def tw15212760480394562756:=Z
def tw10195997230039290492:=Z
def tw3378803678994701225:=Z
def tw8265311939077410998:=Z
def tw4594695642319353365:=Z
def tw18086089286151905521:=Z
def tw6240723676877644813:=Z
def tw350670483859837877:=Z
def tw8410488445778877200:=Z
def tw2722852734226103192:=Z
def tw10001888077015295000:=Z
def tw5155950481276406077:=Z
def tw10501702545626575530:=Z
def tw16795567611416646642:=Z
def tw16541100652227675460:=Z
def tw3315250197877816394:=Z
def tw15254643099363442306:=Z
def tw6189502492464219833:=Z
def tw8538268897159353584:=Z
def tw11279390925490393535:=Z
def tw15740088241188596515:=Z
def tw17886615442053742456:=Z
def tw15722756333993289495:=Z
def tw6430265229019958763:=Z
def tw17103585973383926153:=Z
def tw3561193834555079511:=Z
def tw17355269125676882429:=Z
def tw11546936639936008217:=Z
def tw18289109515434150305:=Z
def tw10915162052029792233:=Z
def tw4940147422707163885:=Z
def tw5245862010334584759:=Z
def tw8327351992414209593:=Z
def tw6491118196486620199:=Z
def tw105208000716104510:=Z
def tw3140898538269762758:=Z
def tw1492452104121835379:=Z
def tw9378254376102152143:=Z
def tw16359887908644392378:=Z
def tw6265701101103706036:=Z
def tw1736530178072539846:=Z
def tw10548783162686979305:=Z
def tw6859976401760118174:=Z
def tw10341860258655708415:=Z
def tw8968299171318014206:=Z
def tw11466170419677230873:=Z
def tw17470836177267949868:=Z
def tw10956490626425055710:=Z
def tw13896958669275611876:=Z
def tw4498253355057717688:=Z
def tw1112988674713690477:=Z
def tw1139600151236580504:=Z
def tw15095372191486117680:=Z
def tw8025738503920905074:=Z
def tw13889484949932952446:=Z
def tw12622177474791663080:=Z
def tw18371284783138465269:=Z
def tw8892184565913893157:=Z
def tw4656485037274611717:=Z
def tw6042063481754889096:=Z
def tw16196420915677631385:=Z
def tw5983031951866500094:=Z
def tw10574840078274726829:=Z
def tw16273406610938067001:=Z
def tw17315540178315561739:=Z
def tw12105128591322288922:=Z
def tw8281120267493503204:=Z
def tw12535971307161669396:=Z
def tw3337584539547039419:=Z
def tw12643491718579748851:=Z
def tw1016984595167383106:=Z
def tw9152664641465651067:=Z
def tw6572447435987645144:=Z
def tw16599547676461567385:=Z
def tw13318506193475082254:=Z
def tw2544169868661182894:=Z
def tw5702910450625016506:=Z
def tw6898770573198911631:=Z
def tw4299629679881509495:=Z
def tw15860264024139754761:=Z
def tw9919435345466941130:=Z
def tw12166907935582030026:=Z
def tw16054190913257422852:=Z
def tw13864677062968915208:=Z
def tw12540527436937284434:=Z
def tw8813761850579938390:=Z
def tw14502225709538309166:=Z
def tw3484022092364678248:=Z
def tw9121710633936205964:=Z
def tw12317137736924338119:=Z
def tw10567129059001840431:=Z
def tw1245559373397905713:=Z
def tw12376051458212225564:=Z
def tw10996937224433265937:=Z
def tw4840481374290595910:=Z
def tw6674990990233134667:=Z
def tw6973401727384321114:=Z
def tw18186074749648716422:=Z
def tw1655259298481077034:=Z
def tw8657480035899644758:=Z
def tw828460304391194870:=Z
def tw11948995353047267269:=Z
def tw788273225186049534:=Z
def tw12318557346453588183:=Z
def tw2555065506035805374:=Z
def tw16325430554902658873:=Z
def tw11199710921928265848:=Z
def tw2443449257678562572:=Z
def tw4134505453457115739:=Z
def tw4331257952254489624:=Z
def tw15361541807878343388:=Z
def tw14987219478266130788:=Z
def tw7715697345341360870:=Z
def tw2834617895031628566:=Z
def tw11994683656316670133:=Z
def tw10005945817407372193:=Z
def tw1638113669730673903:=Z
def tw8043003576528973991:=Z
def tw2867133514656366558:=Z
def tw6176384092110617959:=Z
def tw5938664839603501006:=Z
def tw3969286963782609292:=Z
def tw7297446738713254254:=Z
def tw1833847959688406909:=Z
def tw9165953624949470791:=Z
def tw16104615914030681952:=Z
def tw17492772389151264855:=Z
def tw5969682004907312646:=Z
def tw814325599930780420:=Z
def tw9233715247699887402:=Z
def tw2924597203103170677:=Z
def tw2220570432770164149:=Z
def tw6746510453823603384:=Z
def tw9631074621892390191:=Z
def tw1088946173253831356:=Z
def tw17428532607074087071:=Z
def tw2878843996050045342:=Z
def tw2907113945770861938:=Z
def tw2596539476470345881:=Z
def tw2617719716777270872:=Z
def tw297971269722091814:=Z
def tw10694878333477680388:=Z
def tw17825272241439330880:=Z
def tw4205137553216949640:=Z
def tw1601500998369573665:=Z
def tw14282377253939248939:=Z
def tw9059832203979395877:=Z
def tw956942650209027819:=Z
def tw10079171474624433434:=Z
def tw7273676953221729872:=Z
def tw15240379268576122478:=Z
def tw3261557481417251176:=Z
def tw12958664272152378060:=Z
def tw8363718466572441477:=Z
def tw5860347150701562758:=Z
def tw12718909917080609646:=Z
def tw8523463495250067690:=Z
def tw10187724287525710026:=Z
def tw15169761463676818070:=Z
def tw11845233108574324481:=Z
def tw12094960947251128927:=Z
def tw427420600052151026:=Z
def tw6756868429301003459:=Z
def tw594810645892935528:=Z
def tw8531415777343470585:=Z
def tw16044733080236030384:=Z
def tw10617020205504526918:=Z
def tw6196800358849779857:=Z
def tw9305691244287143441:=Z
def tw4699463449715708850:=Z
def tw17555251805378815213:=Z
def tw14537839394382259888:=Z
def tw7600245330811189008:=Z
def tw14512626787266085964:=Z
def tw7281139961889257330:=Z
def tw8810280945414196856:=Z
def tw13822267516522204269:=Z
def tw4784893810139332661:=Z
def tw14657780768301432306:=Z
def tw10864713392326063847:=Z
def tw8507776931139520737:=Z
def tw10648311167861321448:=Z
def tw9589608677651300831:=Z
def tw1483126911874232274:=Z
def tw370947364307004932:=Z
def tw13264354339760550358:=Z
def tw3002795768020413707:=Z
def tw15918733279669447828:=Z
def tw17836180711203090203:=Z
def tw6189045185395380447:=Z
def tw987869383939708018:=Z
def tw15646934709686841381:=Z
def tw12958502747184954254:=Z
def tw3712731000106771831:=Z
def tw795583310449317561:=Z
def tw5889316905344633881:=Z
def tw18245740138792012028:=Z
def tw3584897518013459382:=Z
def tw11542710104232473196:=Z
def tw2782073688633401757:=Z
def tw13549259019975226677:=Z
def tw8443935842833279946:=Z
def tw9503340733035011235:=Z
def tw8140125068956082859:=Z
def tw2741389259953327712:=Z
def tw5422964541831752634:=Z
def tw16597617366809209970:=Z
def tw8874702517807110003:=Z
def tw9442318146202087700:=Z
def tw339143206060000330:=Z
def tw13889309363888878346:=Z
def tw7414872774492366064:=Z
def tw4166218997396506358:=Z
def tw14697636140705633519:=Z
def tw2686433634493928565:=Z
def tw7458633546980236471:=Z
def tw14390669486469195807:=Z
def tw887695700811335699:=Z
def tw3195968871104189447:=Z
def tw16550210197400561554:=Z
def tw9843447840031818808:=Z
def tw1142415686869020238:=Z
def tw10448899703829047738:=Z
def tw2683898200743741643:=Z
def tw2514443458684651071:=Z
def tw10187264123177260123:=Z
def tw196536941598035525:=Z
def tw5523086135645875356:=Z
def tw2405475915293451298:=Z
def tw243287103678006315:=Z
def tw12385144161495827662:=Z
def tw9953747333497923681:=Z
def tw10008474027749305400:=Z
def tw517144808224063464:=Z
def tw12012865196380796599:=Z
def tw14762295962024373759:=Z
def tw3855276242980373810:=Z
def tw11334415319851112604:=Z
def tw13160728816969591200:=Z
def tw2988451766255067171:=Z
def tw16713831800681072344:=Z
def tw12545222027267286695:=Z
def tw575894324575664597:=Z
def tw11334203419191126389:=Z
def tw15362295582089109014:=Z
def tw13068111086705522682:=Z
def tw5868845118606482295:=Z
def tw14861896470697024400:=Z
def tw7386116660499605909:=Z
def tw9195894827357321740:=Z
def tw1291508964198565346:=Z
def tw2029088862249889922:=Z
def tw14372152842798730730:=Z
def tw7855079511596107753:=Z
def tw15177526630643400193:=Z
def tw7204493036743257322:=Z
def tw864819663365544661:=Z
def tw1706793611546318481:=Z
def tw76412952228603488:=Z
def tw81815255157605957:=Z
def tw6761616313442571491:=Z
def tw10797620697341660853:=Z
def tw9166809390415177425:=Z
def tw10987319290404115282:=Z
def tw4571971715460732019:=Z
def tw8973803690348224638:=Z
def tw17781115878593249900:=Z
def tw15569959144833144457:=Z
def tw4321519831107876412:=Z
def tw9951221954081769418:=Z
def tw8640399195822439974:=Z
def tw12256363837256957063:=Z
def tw3474246075231452896:=Z
def tw13326734554550294991:=Z
def tw13091174067606910046:=Z
def tw17486766287000646611:=Z
def tw4177254973167742082:=Z
def tw14145802354927516647:=Z
def tw17030962893124633753:=Z
def tw7673058066778466091:=Z
def tw672699306608606093:=Z
def tw10657950659306570408:=Z
def tw8143265674769528471:=Z
def tw2369445192022557226:=Z
def tw16315627841946644802:=Z
end
end Mine.top
namespace Mine
set_option maxHeartbeats 0 in
theorem top : PySem.Challenge.rw_no0269_01.Holds := by
  w_on; o_law; k_head; (case hw => w_witness2)
  refine zdC ?_ (fun w h Y => kIn_of Y) ?_ ?_
  · intro P
    refine ⟨?_, ?_, ?_, ?_, ?_, ?_, ?_, ?_, ?_, ?_, ?_, ?_, ?_, ?_, ?_, ?_⟩
    all_goals kernel_rfl
  · kernel_rfl
  · rfl
end Mine
theorem PySem.Challenge.cw_no0269_01_holds : PySem.Challenge.rw_no0269_01.Holds :=
  Mine.top
