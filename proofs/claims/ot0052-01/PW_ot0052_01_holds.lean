import PyProof.Rows.All
import Wide.All
import OpenK.AllK
import Wide.FinOn
import Lean
import PySem.Challenge.RW_ot0052_01
set_option linter.all false
set_option bootstrap.genMatcherCode false
set_option genSizeOf false
set_option genSizeOfSpec false
set_option tactic.hygienic false
set_option maxRecDepth 100000
set_option autoImplicit false
namespace Mine.Lake
open PySem
section
noncomputable def IfT (P:Prop):Bool→Prop
 | true=>P
 | false=>True
theorem IfT.out {P:Prop}:∀ {b:Bool},IfT P b→b=true→P
 | _,t,rfl=>t
theorem IfT.mk {P:Prop}:∀ {b:Bool},(b=true→P)→IfT P b
 | true,f=>f rfl
 | false,_=>True.intro
theorem bc {G:Prop} (h:¬G→False):G:=Classical.byContradiction h
theorem zrm {G:Prop} (h:true=false):G:=(Bool.false_ne_true h.symm).elim
theorem zaA {α:Type}{a:α}{G:Prop} (h:none=some a):G:=nomatch h
theorem zhy {α:Type}{a:α}{G:Prop} (h:some a=none):G:=nomatch h
theorem zu2 {α:Type}{a:α}{l:List α}{G:Prop} (h:[]=a::l):G:=nomatch h
theorem zuo {α:Type}{a:α}{l:List α}{G:Prop} (h:a::l=[]):G:=nomatch h
theorem noI {α:Type} (f:α→Nat) {a b:α}{G:Prop} (h:a=b) (k:Nat.beq (f a) (f b)=false):G:=by
 subst h
 rw[Nat.beq_refl] at k
 exact zrm k
theorem B2 {b0 b1:Bool}{G:Prop} (h:(b0&&b1)=true) (k:b0=true→b1=true→G):G:=
 k (Bool.and_eq_true_iff.mp h).1 (Bool.and_eq_true_iff.mp h).2
theorem B3 {b0 b1 b2:Bool}{G:Prop} (h:((b0&&b1)&&b2)=true) (k:b0=true→b1=true→b2=true→G):G:=
 B2 (Bool.and_eq_true_iff.mp h).1 fun h0 h1=>k h0 h1 (Bool.and_eq_true_iff.mp h).2
theorem B4 {b0 b1 b2 b3:Bool}{G:Prop} (h:(((b0&&b1)&&b2)&&b3)=true) (k:b0=true→b1=true→b2=true→b3=true→G):G:=
 B3 (Bool.and_eq_true_iff.mp h).1 fun h0 h1 h2=>k h0 h1 h2 (Bool.and_eq_true_iff.mp h).2
theorem B5 {b0 b1 b2 b3 b4:Bool}{G:Prop} (h:((((b0&&b1)&&b2)&&b3)&&b4)=true) (k:b0=true→b1=true→b2=true→b3=true→b4=true→G):G:=
 B4 (Bool.and_eq_true_iff.mp h).1 fun h0 h1 h2 h3=>k h0 h1 h2 h3 (Bool.and_eq_true_iff.mp h).2
theorem B6 {b0 b1 b2 b3 b4 b5:Bool}{G:Prop} (h:(((((b0&&b1)&&b2)&&b3)&&b4)&&b5)=true) (k:b0=true→b1=true→b2=true→b3=true→b4=true→b5=true→G):G:=
 B5 (Bool.and_eq_true_iff.mp h).1 fun h0 h1 h2 h3 h4=>k h0 h1 h2 h3 h4 (Bool.and_eq_true_iff.mp h).2
theorem B7 {b0 b1 b2 b3 b4 b5 b6:Bool}{G:Prop} (h:((((((b0&&b1)&&b2)&&b3)&&b4)&&b5)&&b6)=true) (k:b0=true→b1=true→b2=true→b3=true→b4=true→b5=true→b6=true→G):G:=
 B6 (Bool.and_eq_true_iff.mp h).1 fun h0 h1 h2 h3 h4 h5=>k h0 h1 h2 h3 h4 h5 (Bool.and_eq_true_iff.mp h).2
theorem B8 {b0 b1 b2 b3 b4 b5 b6 b7:Bool}{G:Prop} (h:(((((((b0&&b1)&&b2)&&b3)&&b4)&&b5)&&b6)&&b7)=true) (k:b0=true→b1=true→b2=true→b3=true→b4=true→b5=true→b6=true→b7=true→G):G:=
 B7 (Bool.and_eq_true_iff.mp h).1 fun h0 h1 h2 h3 h4 h5 h6=>k h0 h1 h2 h3 h4 h5 h6 (Bool.and_eq_true_iff.mp h).2
theorem B9 {b0 b1 b2 b3 b4 b5 b6 b7 b8:Bool}{G:Prop} (h:((((((((b0&&b1)&&b2)&&b3)&&b4)&&b5)&&b6)&&b7)&&b8)=true) (k:b0=true→b1=true→b2=true→b3=true→b4=true→b5=true→b6=true→b7=true→b8=true→G):G:=
 B8 (Bool.and_eq_true_iff.mp h).1 fun h0 h1 h2 h3 h4 h5 h6 h7=>k h0 h1 h2 h3 h4 h5 h6 h7 (Bool.and_eq_true_iff.mp h).2
theorem B10 {b0 b1 b2 b3 b4 b5 b6 b7 b8 b9:Bool}{G:Prop} (h:(((((((((b0&&b1)&&b2)&&b3)&&b4)&&b5)&&b6)&&b7)&&b8)&&b9)=true) (k:b0=true→b1=true→b2=true→b3=true→b4=true→b5=true→b6=true→b7=true→b8=true→b9=true→G):G:=
 B9 (Bool.and_eq_true_iff.mp h).1 fun h0 h1 h2 h3 h4 h5 h6 h7 h8=>k h0 h1 h2 h3 h4 h5 h6 h7 h8 (Bool.and_eq_true_iff.mp h).2
theorem B11 {b0 b1 b2 b3 b4 b5 b6 b7 b8 b9 b10:Bool}{G:Prop} (h:((((((((((b0&&b1)&&b2)&&b3)&&b4)&&b5)&&b6)&&b7)&&b8)&&b9)&&b10)=true) (k:b0=true→b1=true→b2=true→b3=true→b4=true→b5=true→b6=true→b7=true→b8=true→b9=true→b10=true→G):G:=
 B10 (Bool.and_eq_true_iff.mp h).1 fun h0 h1 h2 h3 h4 h5 h6 h7 h8 h9=>k h0 h1 h2 h3 h4 h5 h6 h7 h8 h9 (Bool.and_eq_true_iff.mp h).2
theorem zf4 {α:Type}{f:α→Bool}{o:Option α} (h:o.any f=true):∃ x,o=some x∧f x=true:=by
 induction o using Option.casesOn with
 | none=>exact(Bool.false_ne_true h).elim
 | some x=>exact⟨x,rfl,h⟩
theorem zaW {O P:Prop}{G:Prop} (h:O∧P) (k:O→P→G):G:=
 k h.1 h.2
theorem zaF {A:Type}{O:A→Prop}{G:Prop} (h:∃ a,O a) (k:∀ a,O a→G):G:=
 h.elim fun a h=>k a h
theorem ziM {O P Q:Prop}{G:Prop} (h:O∧P∧Q) (k:O→P→Q→G):G:=
 k h.1 h.2.1 h.2.2
theorem zao {A:Type}{O P:A→Prop}{G:Prop} (h:∃ a,O a∧P a) (k:∀ a,O a→P a→G):G:=
 h.elim fun a h=>k a h.1 h.2
theorem zkh {A B:Type}{O:A→B→Prop}{G:Prop} (h:∃ a b,O a b) (k:∀ a b,O a b→G):G:=
 h.elim fun a h=>h.elim fun b h=>k a b h
theorem zoZ {O P Q R:Prop}{G:Prop} (h:O∧P∧Q∧R) (k:O→P→Q→R→G):G:=
 k h.1 h.2.1 h.2.2.1 h.2.2.2
theorem zb8 {A:Type}{O P Q:A→Prop}{G:Prop} (h:∃ a,O a∧P a∧Q a) (k:∀ a,O a→P a→Q a→G):G:=
 h.elim fun a h=>k a h.1 h.2.1 h.2.2
theorem zaZ {A B:Type}{O P:A→B→Prop}{G:Prop} (h:∃ a b,O a b∧P a b) (k:∀ a b,O a b→P a b→G):G:=
 h.elim fun a h=>h.elim fun b h=>k a b h.1 h.2
theorem zrn {A B C:Type}{O:A→B→C→Prop}{G:Prop} (h:∃ a b c,O a b c) (k:∀ a b c,O a b c→G):G:=
 h.elim fun a h=>h.elim fun b h=>h.elim fun c h=>k a b c h
theorem zfl {A:Type}{O P Q R:A→Prop}{G:Prop} (h:∃ a,O a∧P a∧Q a∧R a) (k:∀ a,O a→P a→Q a→R a→G):G:=
 h.elim fun a h=>k a h.1 h.2.1 h.2.2.1 h.2.2.2
theorem zc0 {A B:Type}{O P Q:A→B→Prop}{G:Prop} (h:∃ a b,O a b∧P a b∧Q a b) (k:∀ a b,O a b→P a b→Q a b→G):G:=
 h.elim fun a h=>h.elim fun b h=>k a b h.1 h.2.1 h.2.2
theorem zgT {A B C:Type}{O P:A→B→C→Prop}{G:Prop} (h:∃ a b c,O a b c∧P a b c) (k:∀ a b c,O a b c→P a b c→G):G:=
 h.elim fun a h=>h.elim fun b h=>h.elim fun c h=>k a b c h.1 h.2
theorem zup {A B C D:Type}{O:A→B→C→D→Prop}{G:Prop} (h:∃ a b c d,O a b c d) (k:∀ a b c d,O a b c d→G):G:=
 h.elim fun a h=>h.elim fun b h=>h.elim fun c h=>h.elim fun d h=>k a b c d h
theorem ziL {A B:Type}{O P Q R:A→B→Prop}{G:Prop} (h:∃ a b,O a b∧P a b∧Q a b∧R a b) (k:∀ a b,O a b→P a b→Q a b→R a b→G):G:=
 h.elim fun a h=>h.elim fun b h=>k a b h.1 h.2.1 h.2.2.1 h.2.2.2
theorem zdb {A B C:Type}{O P Q:A→B→C→Prop}{G:Prop} (h:∃ a b c,O a b c∧P a b c∧Q a b c) (k:∀ a b c,O a b c→P a b c→Q a b c→G):G:=
 h.elim fun a h=>h.elim fun b h=>h.elim fun c h=>k a b c h.1 h.2.1 h.2.2
theorem zro {A B C D:Type}{O P:A→B→C→D→Prop}{G:Prop} (h:∃ a b c d,O a b c d∧P a b c d) (k:∀ a b c d,O a b c d→P a b c d→G):G:=
 h.elim fun a h=>h.elim fun b h=>h.elim fun c h=>h.elim fun d h=>k a b c d h.1 h.2
theorem znt {A B C D E:Type}{O:A→B→C→D→E→Prop}{G:Prop} (h:∃ a b c d e,O a b c d e) (k:∀ a b c d e,O a b c d e→G):G:=
 h.elim fun a h=>h.elim fun b h=>h.elim fun c h=>h.elim fun d h=>h.elim fun e h=>k a b c d e h
theorem zu3 {A:Type}{O P Q R S T:A→Prop}{G:Prop} (h:∃ a,O a∧P a∧Q a∧R a∧S a∧T a) (k:∀ a,O a→P a→Q a→R a→S a→T a→G):G:=
 h.elim fun a h=>k a h.1 h.2.1 h.2.2.1 h.2.2.2.1 h.2.2.2.2.1 h.2.2.2.2.2
theorem ztn {A B:Type}{O P Q R S:A→B→Prop}{G:Prop} (h:∃ a b,O a b∧P a b∧Q a b∧R a b∧S a b) (k:∀ a b,O a b→P a b→Q a b→R a b→S a b→G):G:=
 h.elim fun a h=>h.elim fun b h=>k a b h.1 h.2.1 h.2.2.1 h.2.2.2.1 h.2.2.2.2
theorem zeC {A B C:Type}{O P Q R:A→B→C→Prop}{G:Prop} (h:∃ a b c,O a b c∧P a b c∧Q a b c∧R a b c) (k:∀ a b c,O a b c→P a b c→Q a b c→R a b c→G):G:=
 h.elim fun a h=>h.elim fun b h=>h.elim fun c h=>k a b c h.1 h.2.1 h.2.2.1 h.2.2.2
theorem zld {A B C D:Type}{O P Q:A→B→C→D→Prop}{G:Prop} (h:∃ a b c d,O a b c d∧P a b c d∧Q a b c d) (k:∀ a b c d,O a b c d→P a b c d→Q a b c d→G):G:=
 h.elim fun a h=>h.elim fun b h=>h.elim fun c h=>h.elim fun d h=>k a b c d h.1 h.2.1 h.2.2
theorem zuq {A B C D E:Type}{O P:A→B→C→D→E→Prop}{G:Prop} (h:∃ a b c d e,O a b c d e∧P a b c d e) (k:∀ a b c d e,O a b c d e→P a b c d e→G):G:=
 h.elim fun a h=>h.elim fun b h=>h.elim fun c h=>h.elim fun d h=>h.elim fun e h=>k a b c d e h.1 h.2
theorem zo0 {A B C:Type}{O P Q R S:A→B→C→Prop}{G:Prop} (h:∃ a b c,O a b c∧P a b c∧Q a b c∧R a b c∧S a b c) (k:∀ a b c,O a b c→P a b c→Q a b c→R a b c→S a b c→G):G:=
 h.elim fun a h=>h.elim fun b h=>h.elim fun c h=>k a b c h.1 h.2.1 h.2.2.1 h.2.2.2.1 h.2.2.2.2
theorem zo1 {A B C D:Type}{O P Q R:A→B→C→D→Prop}{G:Prop} (h:∃ a b c d,O a b c d∧P a b c d∧Q a b c d∧R a b c d) (k:∀ a b c d,O a b c d→P a b c d→Q a b c d→R a b c d→G):G:=
 h.elim fun a h=>h.elim fun b h=>h.elim fun c h=>h.elim fun d h=>k a b c d h.1 h.2.1 h.2.2.1 h.2.2.2
theorem zur {A B C D E:Type}{O P Q:A→B→C→D→E→Prop}{G:Prop} (h:∃ a b c d e,O a b c d e∧P a b c d e∧Q a b c d e) (k:∀ a b c d e,O a b c d e→P a b c d e→Q a b c d e→G):G:=
 h.elim fun a h=>h.elim fun b h=>h.elim fun c h=>h.elim fun d h=>h.elim fun e h=>k a b c d e h.1 h.2.1 h.2.2
theorem zu4 {A B C D E F:Type}{O P:A→B→C→D→E→F→Prop}{G:Prop} (h:∃ a b c d e f,O a b c d e f∧P a b c d e f) (k:∀ a b c d e f,O a b c d e f→P a b c d e f→G):G:=
 h.elim fun a h=>h.elim fun b h=>h.elim fun c h=>h.elim fun d h=>h.elim fun e h=>h.elim fun f h=>k a b c d e f h.1 h.2
theorem zus {A B:Type}{O P Q R S T U:A→B→Prop}{G:Prop} (h:∃ a b,O a b∧P a b∧Q a b∧R a b∧S a b∧T a b∧U a b) (k:∀ a b,O a b→P a b→Q a b→R a b→S a b→T a b→U a b→G):G:=
 h.elim fun a h=>h.elim fun b h=>k a b h.1 h.2.1 h.2.2.1 h.2.2.2.1 h.2.2.2.2.1 h.2.2.2.2.2.1 h.2.2.2.2.2.2
theorem zto {A B C:Type}{O P Q R S T:A→B→C→Prop}{G:Prop} (h:∃ a b c,O a b c∧P a b c∧Q a b c∧R a b c∧S a b c∧T a b c) (k:∀ a b c,O a b c→P a b c→Q a b c→R a b c→S a b c→T a b c→G):G:=
 h.elim fun a h=>h.elim fun b h=>h.elim fun c h=>k a b c h.1 h.2.1 h.2.2.1 h.2.2.2.1 h.2.2.2.2.1 h.2.2.2.2.2
theorem zut {A B C D:Type}{O P Q R S:A→B→C→D→Prop}{G:Prop} (h:∃ a b c d,O a b c d∧P a b c d∧Q a b c d∧R a b c d∧S a b c d) (k:∀ a b c d,O a b c d→P a b c d→Q a b c d→R a b c d→S a b c d→G):G:=
 h.elim fun a h=>h.elim fun b h=>h.elim fun c h=>h.elim fun d h=>k a b c d h.1 h.2.1 h.2.2.1 h.2.2.2.1 h.2.2.2.2
theorem ztB {A B C D E:Type}{O P Q R:A→B→C→D→E→Prop}{G:Prop} (h:∃ a b c d e,O a b c d e∧P a b c d e∧Q a b c d e∧R a b c d e) (k:∀ a b c d e,O a b c d e→P a b c d e→Q a b c d e→R a b c d e→G):G:=
 h.elim fun a h=>h.elim fun b h=>h.elim fun c h=>h.elim fun d h=>h.elim fun e h=>k a b c d e h.1 h.2.1 h.2.2.1 h.2.2.2
theorem zuu {A B C D E F:Type}{O P Q:A→B→C→D→E→F→Prop}{G:Prop} (h:∃ a b c d e f,O a b c d e f∧P a b c d e f∧Q a b c d e f) (k:∀ a b c d e f,O a b c d e f→P a b c d e f→Q a b c d e f→G):G:=
 h.elim fun a h=>h.elim fun b h=>h.elim fun c h=>h.elim fun d h=>h.elim fun e h=>h.elim fun f h=>k a b c d e f h.1 h.2.1 h.2.2
theorem ztp {A B C:Type}{O P Q R S T U:A→B→C→Prop}{G:Prop} (h:∃ a b c,O a b c∧P a b c∧Q a b c∧R a b c∧S a b c∧T a b c∧U a b c) (k:∀ a b c,O a b c→P a b c→Q a b c→R a b c→S a b c→T a b c→U a b c→G):G:=
 h.elim fun a h=>h.elim fun b h=>h.elim fun c h=>k a b c h.1 h.2.1 h.2.2.1 h.2.2.2.1 h.2.2.2.2.1 h.2.2.2.2.2.1 h.2.2.2.2.2.2
theorem ztq {A B C D:Type}{O P Q R S T:A→B→C→D→Prop}{G:Prop} (h:∃ a b c d,O a b c d∧P a b c d∧Q a b c d∧R a b c d∧S a b c d∧T a b c d) (k:∀ a b c d,O a b c d→P a b c d→Q a b c d→R a b c d→S a b c d→T a b c d→G):G:=
 h.elim fun a h=>h.elim fun b h=>h.elim fun c h=>h.elim fun d h=>k a b c d h.1 h.2.1 h.2.2.1 h.2.2.2.1 h.2.2.2.2.1 h.2.2.2.2.2
theorem zuv {A B C D E:Type}{O P Q R S:A→B→C→D→E→Prop}{G:Prop} (h:∃ a b c d e,O a b c d e∧P a b c d e∧Q a b c d e∧R a b c d e∧S a b c d e) (k:∀ a b c d e,O a b c d e→P a b c d e→Q a b c d e→R a b c d e→S a b c d e→G):G:=
 h.elim fun a h=>h.elim fun b h=>h.elim fun c h=>h.elim fun d h=>h.elim fun e h=>k a b c d e h.1 h.2.1 h.2.2.1 h.2.2.2.1 h.2.2.2.2
theorem zu5 {A B C D E F H:Type}{O P Q:A→B→C→D→E→F→H→Prop}{G:Prop} (h:∃ a b c d e f g,O a b c d e f g∧P a b c d e f g∧Q a b c d e f g) (k:∀ a b c d e f g,O a b c d e f g→P a b c d e f g→Q a b c d e f g→G):G:=
 h.elim fun a h=>h.elim fun b h=>h.elim fun c h=>h.elim fun d h=>h.elim fun e h=>h.elim fun f h=>h.elim fun g h=>k a b c d e f g h.1 h.2.1 h.2.2
theorem zuw {A B C D E:Type}{O P Q R S T:A→B→C→D→E→Prop}{G:Prop} (h:∃ a b c d e,O a b c d e∧P a b c d e∧Q a b c d e∧R a b c d e∧S a b c d e∧T a b c d e) (k:∀ a b c d e,O a b c d e→P a b c d e→Q a b c d e→R a b c d e→S a b c d e→T a b c d e→G):G:=
 h.elim fun a h=>h.elim fun b h=>h.elim fun c h=>h.elim fun d h=>h.elim fun e h=>k a b c d e h.1 h.2.1 h.2.2.1 h.2.2.2.1 h.2.2.2.2.1 h.2.2.2.2.2
theorem zc1 {A:Type}{O P:A→Prop} (a:A) (h0:O a) (h1:P a):∃ a,O a∧P a:=⟨a,h0,h1⟩
theorem zux {A B:Type}{O:A→B→Prop} (a:A) (b:B) (h0:O a b):∃ a b,O a b:=⟨a,b,h0⟩
theorem zle {A:Type}{O P Q:A→Prop} (a:A) (h0:O a) (h1:P a) (h2:Q a):∃ a,O a∧P a∧Q a:=⟨a,h0,h1,h2⟩
theorem zdf {A B:Type}{O P:A→B→Prop} (a:A) (b:B) (h0:O a b) (h1:P a b):∃ a b,O a b∧P a b:=⟨a,b,h0,h1⟩
theorem zrp {A B C:Type}{O:A→B→C→Prop} (a:A) (b:B) (c:C) (h0:O a b c):∃ a b c,O a b c:=⟨a,b,c,h0⟩
theorem zre {A:Type}{O P Q R:A→Prop} (a:A) (h0:O a) (h1:P a) (h2:Q a) (h3:R a):∃ a,O a∧P a∧Q a∧R a:=⟨a,h0,h1,h2,h3⟩
theorem zki {A B:Type}{O P Q:A→B→Prop} (a:A) (b:B) (h0:O a b) (h1:P a b) (h2:Q a b):∃ a b,O a b∧P a b∧Q a b:=⟨a,b,h0,h1,h2⟩
theorem znu {A B C:Type}{O P:A→B→C→Prop} (a:A) (b:B) (c:C) (h0:O a b c) (h1:P a b c):∃ a b c,O a b c∧P a b c:=⟨a,b,c,h0,h1⟩
theorem zu6 {A B C D:Type}{O:A→B→C→D→Prop} (a:A) (b:B) (c:C) (d:D) (h0:O a b c d):∃ a b c d,O a b c d:=⟨a,b,c,d,h0⟩
theorem zo2 {A B:Type}{O P Q R:A→B→Prop} (a:A) (b:B) (h0:O a b) (h1:P a b) (h2:Q a b) (h3:R a b):∃ a b,O a b∧P a b∧Q a b∧R a b:=⟨a,b,h0,h1,h2,h3⟩
theorem znv {A B C:Type}{O P Q:A→B→C→Prop} (a:A) (b:B) (c:C) (h0:O a b c) (h1:P a b c) (h2:Q a b c):∃ a b c,O a b c∧P a b c∧Q a b c:=⟨a,b,c,h0,h1,h2⟩
theorem zu7 {A B C D:Type}{O P:A→B→C→D→Prop} (a:A) (b:B) (c:C) (d:D) (h0:O a b c d) (h1:P a b c d):∃ a b c d,O a b c d∧P a b c d:=⟨a,b,c,d,h0,h1⟩
theorem zu8 {A B C D E:Type}{O:A→B→C→D→E→Prop} (a:A) (b:B) (c:C) (d:D) (e:E) (h0:O a b c d e):∃ a b c d e,O a b c d e:=⟨a,b,c,d,e,h0⟩
theorem ztC {A B:Type}{O P Q R S:A→B→Prop} (a:A) (b:B) (h0:O a b) (h1:P a b) (h2:Q a b) (h3:R a b) (h4:S a b):∃ a b,O a b∧P a b∧Q a b∧R a b∧S a b:=⟨a,b,h0,h1,h2,h3,h4⟩
theorem zrf {A B C:Type}{O P Q R:A→B→C→Prop} (a:A) (b:B) (c:C) (h0:O a b c) (h1:P a b c) (h2:Q a b c) (h3:R a b c):∃ a b c,O a b c∧P a b c∧Q a b c∧R a b c:=⟨a,b,c,h0,h1,h2,h3⟩
theorem znn {A B C D:Type}{O P Q:A→B→C→D→Prop} (a:A) (b:B) (c:C) (d:D) (h0:O a b c d) (h1:P a b c d) (h2:Q a b c d):∃ a b c d,O a b c d∧P a b c d∧Q a b c d:=⟨a,b,c,d,h0,h1,h2⟩
theorem zu9 {A B:Type}{O P Q R S T:A→B→Prop} (a:A) (b:B) (h0:O a b) (h1:P a b) (h2:Q a b) (h3:R a b) (h4:S a b) (h5:T a b):∃ a b,O a b∧P a b∧Q a b∧R a b∧S a b∧T a b:=⟨a,b,h0,h1,h2,h3,h4,h5⟩
theorem ztD {A B C:Type}{O P Q R S:A→B→C→Prop} (a:A) (b:B) (c:C) (h0:O a b c) (h1:P a b c) (h2:Q a b c) (h3:R a b c) (h4:S a b c):∃ a b c,O a b c∧P a b c∧Q a b c∧R a b c∧S a b c:=⟨a,b,c,h0,h1,h2,h3,h4⟩
theorem zrq {A B C D:Type}{O P Q R:A→B→C→D→Prop} (a:A) (b:B) (c:C) (d:D) (h0:O a b c d) (h1:P a b c d) (h2:Q a b c d) (h3:R a b c d):∃ a b c d,O a b c d∧P a b c d∧Q a b c d∧R a b c d:=⟨a,b,c,d,h0,h1,h2,h3⟩
theorem zva {A B C D E F:Type}{O P:A→B→C→D→E→F→Prop} (a:A) (b:B) (c:C) (d:D) (e:E) (f:F) (h0:O a b c d e f) (h1:P a b c d e f):∃ a b c d e f,O a b c d e f∧P a b c d e f:=⟨a,b,c,d,e,f,h0,h1⟩
theorem zvb {A B:Type}{O P Q R S T U:A→B→Prop} (a:A) (b:B) (h0:O a b) (h1:P a b) (h2:Q a b) (h3:R a b) (h4:S a b) (h5:T a b) (h6:U a b):∃ a b,O a b∧P a b∧Q a b∧R a b∧S a b∧T a b∧U a b:=⟨a,b,h0,h1,h2,h3,h4,h5,h6⟩
theorem zrr {A B C:Type}{O P Q R S T:A→B→C→Prop} (a:A) (b:B) (c:C) (h0:O a b c) (h1:P a b c) (h2:Q a b c) (h3:R a b c) (h4:S a b c) (h5:T a b c):∃ a b c,O a b c∧P a b c∧Q a b c∧R a b c∧S a b c∧T a b c:=⟨a,b,c,h0,h1,h2,h3,h4,h5⟩
theorem zuy {A B C D:Type}{O P Q R S:A→B→C→D→Prop} (a:A) (b:B) (c:C) (d:D) (h0:O a b c d) (h1:P a b c d) (h2:Q a b c d) (h3:R a b c d) (h4:S a b c d):∃ a b c d,O a b c d∧P a b c d∧Q a b c d∧R a b c d∧S a b c d:=⟨a,b,c,d,h0,h1,h2,h3,h4⟩
theorem ztE {A B C D E:Type}{O P Q R:A→B→C→D→E→Prop} (a:A) (b:B) (c:C) (d:D) (e:E) (h0:O a b c d e) (h1:P a b c d e) (h2:Q a b c d e) (h3:R a b c d e):∃ a b c d e,O a b c d e∧P a b c d e∧Q a b c d e∧R a b c d e:=⟨a,b,c,d,e,h0,h1,h2,h3⟩
theorem zvc {A B C:Type}{O P Q R S T U:A→B→C→Prop} (a:A) (b:B) (c:C) (h0:O a b c) (h1:P a b c) (h2:Q a b c) (h3:R a b c) (h4:S a b c) (h5:T a b c) (h6:U a b c):∃ a b c,O a b c∧P a b c∧Q a b c∧R a b c∧S a b c∧T a b c∧U a b c:=⟨a,b,c,h0,h1,h2,h3,h4,h5,h6⟩
theorem ztF {A B C D:Type}{O P Q R S T:A→B→C→D→Prop} (a:A) (b:B) (c:C) (d:D) (h0:O a b c d) (h1:P a b c d) (h2:Q a b c d) (h3:R a b c d) (h4:S a b c d) (h5:T a b c d):∃ a b c d,O a b c d∧P a b c d∧Q a b c d∧R a b c d∧S a b c d∧T a b c d:=⟨a,b,c,d,h0,h1,h2,h3,h4,h5⟩
theorem zuz {A B C D E:Type}{O P Q R S:A→B→C→D→E→Prop} (a:A) (b:B) (c:C) (d:D) (e:E) (h0:O a b c d e) (h1:P a b c d e) (h2:Q a b c d e) (h3:R a b c d e) (h4:S a b c d e):∃ a b c d e,O a b c d e∧P a b c d e∧Q a b c d e∧R a b c d e∧S a b c d e:=⟨a,b,c,d,e,h0,h1,h2,h3,h4⟩
theorem zuA {A B C D E:Type}{O P Q R S T:A→B→C→D→E→Prop} (a:A) (b:B) (c:C) (d:D) (e:E) (h0:O a b c d e) (h1:P a b c d e) (h2:Q a b c d e) (h3:R a b c d e) (h4:S a b c d e) (h5:T a b c d e):∃ a b c d e,O a b c d e∧P a b c d e∧Q a b c d e∧R a b c d e∧S a b c d e∧T a b c d e:=⟨a,b,c,d,e,h0,h1,h2,h3,h4,h5⟩
theorem zvd {A B C D E:Type}{O P Q R S T U V W:A→B→C→D→E→Prop} (a:A) (b:B) (c:C) (d:D) (e:E) (h0:O a b c d e) (h1:P a b c d e) (h2:Q a b c d e) (h3:R a b c d e) (h4:S a b c d e) (h5:T a b c d e) (h6:U a b c d e) (h7:V a b c d e) (h8:W a b c d e):∃ a b c d e,O a b c d e∧P a b c d e∧Q a b c d e∧R a b c d e∧S a b c d e∧T a b c d e∧U a b c d e∧V a b c d e∧W a b c d e:=⟨a,b,c,d,e,h0,h1,h2,h3,h4,h5,h6,h7,h8⟩
theorem zve {A B C D E F H I:Type}{O P Q R S T U:A→B→C→D→E→F→H→I→Prop} (a:A) (b:B) (c:C) (d:D) (e:E) (f:F) (g:H) (i:I) (h0:O a b c d e f g i) (h1:P a b c d e f g i) (h2:Q a b c d e f g i) (h3:R a b c d e f g i) (h4:S a b c d e f g i) (h5:T a b c d e f g i) (h6:U a b c d e f g i):∃ a b c d e f g i,O a b c d e f g i∧P a b c d e f g i∧Q a b c d e f g i∧R a b c d e f g i∧S a b c d e f g i∧T a b c d e f g i∧U a b c d e f g i:=⟨a,b,c,d,e,f,g,i,h0,h1,h2,h3,h4,h5,h6⟩
theorem ztG {A B C D E F H:Type}{O P Q R S T U V W:A→B→C→D→E→F→H→Prop}{G:Prop} (h:∃ a b c d e f g,O a b c d e f g∧P a b c d e f g∧Q a b c d e f g∧R a b c d e f g∧S a b c d e f g∧T a b c d e f g∧U a b c d e f g∧V a b c d e f g∧W a b c d e f g) (k:∀ a b c d e f g,O a b c d e f g→P a b c d e f g→Q a b c d e f g→R a b c d e f g→S a b c d e f g→T a b c d e f g→U a b c d e f g→V a b c d e f g→W a b c d e f g→G):G:=
 h.elim fun a h=>h.elim fun b h=>h.elim fun c h=>h.elim fun d h=>h.elim fun e h=>h.elim fun f h=>h.elim fun g h=>k a b c d e f g h.1 h.2.1 h.2.2.1 h.2.2.2.1 h.2.2.2.2.1 h.2.2.2.2.2.1 h.2.2.2.2.2.2.1 h.2.2.2.2.2.2.2.1 h.2.2.2.2.2.2.2.2
theorem zrs {A B C D E F H:Type}{O P Q R S T U V W X Y:A→B→C→D→E→F→H→Prop}{G:Prop} (h:∃ a b c d e f g,O a b c d e f g∧P a b c d e f g∧Q a b c d e f g∧R a b c d e f g∧S a b c d e f g∧T a b c d e f g∧U a b c d e f g∧V a b c d e f g∧W a b c d e f g∧X a b c d e f g∧Y a b c d e f g) (k:∀ a b c d e f g,O a b c d e f g→P a b c d e f g→Q a b c d e f g→R a b c d e f g→S a b c d e f g→T a b c d e f g→U a b c d e f g→V a b c d e f g→W a b c d e f g→X a b c d e f g→Y a b c d e f g→G):G:=
 h.elim fun a h=>h.elim fun b h=>h.elim fun c h=>h.elim fun d h=>h.elim fun e h=>h.elim fun f h=>h.elim fun g h=>k a b c d e f g h.1 h.2.1 h.2.2.1 h.2.2.2.1 h.2.2.2.2.1 h.2.2.2.2.2.1 h.2.2.2.2.2.2.1 h.2.2.2.2.2.2.2.1 h.2.2.2.2.2.2.2.2.1 h.2.2.2.2.2.2.2.2.2.1 h.2.2.2.2.2.2.2.2.2.2
theorem zuB {A B C D E F H I:Type}{O P Q R S T U:A→B→C→D→E→F→H→I→Prop}{G:Prop} (h:∃ a b c d e f g i,O a b c d e f g i∧P a b c d e f g i∧Q a b c d e f g i∧R a b c d e f g i∧S a b c d e f g i∧T a b c d e f g i∧U a b c d e f g i) (k:∀ a b c d e f g i,O a b c d e f g i→P a b c d e f g i→Q a b c d e f g i→R a b c d e f g i→S a b c d e f g i→T a b c d e f g i→U a b c d e f g i→G):G:=
 h.elim fun a h=>h.elim fun b h=>h.elim fun c h=>h.elim fun d h=>h.elim fun e h=>h.elim fun f h=>h.elim fun g h=>h.elim fun i h=>k a b c d e f g i h.1 h.2.1 h.2.2.1 h.2.2.2.1 h.2.2.2.2.1 h.2.2.2.2.2.1 h.2.2.2.2.2.2
theorem zvf {A B C D E F H I:Type}{O P Q R S T U V W:A→B→C→D→E→F→H→I→Prop}{G:Prop} (h:∃ a b c d e f g i,O a b c d e f g i∧P a b c d e f g i∧Q a b c d e f g i∧R a b c d e f g i∧S a b c d e f g i∧T a b c d e f g i∧U a b c d e f g i∧V a b c d e f g i∧W a b c d e f g i) (k:∀ a b c d e f g i,O a b c d e f g i→P a b c d e f g i→Q a b c d e f g i→R a b c d e f g i→S a b c d e f g i→T a b c d e f g i→U a b c d e f g i→V a b c d e f g i→W a b c d e f g i→G):G:=
 h.elim fun a h=>h.elim fun b h=>h.elim fun c h=>h.elim fun d h=>h.elim fun e h=>h.elim fun f h=>h.elim fun g h=>h.elim fun i h=>k a b c d e f g i h.1 h.2.1 h.2.2.1 h.2.2.2.1 h.2.2.2.2.1 h.2.2.2.2.2.1 h.2.2.2.2.2.2.1 h.2.2.2.2.2.2.2.1 h.2.2.2.2.2.2.2.2
theorem zpB {A B C D E F H I:Type}{O P Q R S T U V W X Y Z n:A→B→C→D→E→F→H→I→Prop}{G:Prop} (h:∃ a b c d e f g i,O a b c d e f g i∧P a b c d e f g i∧Q a b c d e f g i∧R a b c d e f g i∧S a b c d e f g i∧T a b c d e f g i∧U a b c d e f g i∧V a b c d e f g i∧W a b c d e f g i∧X a b c d e f g i∧Y a b c d e f g i∧Z a b c d e f g i∧n a b c d e f g i) (k:∀ a b c d e f g i,O a b c d e f g i→P a b c d e f g i→Q a b c d e f g i→R a b c d e f g i→S a b c d e f g i→T a b c d e f g i→U a b c d e f g i→V a b c d e f g i→W a b c d e f g i→X a b c d e f g i→Y a b c d e f g i→Z a b c d e f g i→n a b c d e f g i→G):G:=
 h.elim fun a h=>h.elim fun b h=>h.elim fun c h=>h.elim fun d h=>h.elim fun e h=>h.elim fun f h=>h.elim fun g h=>h.elim fun i h=>k a b c d e f g i h.1 h.2.1 h.2.2.1 h.2.2.2.1 h.2.2.2.2.1 h.2.2.2.2.2.1 h.2.2.2.2.2.2.1 h.2.2.2.2.2.2.2.1 h.2.2.2.2.2.2.2.2.1 h.2.2.2.2.2.2.2.2.2.1 h.2.2.2.2.2.2.2.2.2.2.1 h.2.2.2.2.2.2.2.2.2.2.2.1 h.2.2.2.2.2.2.2.2.2.2.2.2
end
section
set_option genCtorIdx false in
inductive V where
 | none
 | bool (b:Bool)
 | int (i:Int)
 | any
 | str (s:List Nat)
 | tup (vs:List V)
 | loc (n:Nat)
 | fn (n:Nat)
 | rng (n:Nat)
noncomputable def V.ctorIdx (v:V):Nat:=@V.casesOn (fun ua=>Nat) v 0 (fun ua=>1) (fun ua=>2) 3 (fun ua=>4) (fun ua=>5) (fun ua=>6) (fun ua=>7) fun ua=>8

set_option genCtorIdx false in
inductive C where
 | list (vs:List V)
 | inst (as:List (Nat×V))
 | dict (kvs:List (List Nat×V))
 | words (rest:List V)
noncomputable def C.ctorIdx (v:C):Nat:=@C.casesOn (fun ua=>Nat) v (fun ua=>0) (fun ua=>1) (fun ua=>2) fun ua=>3

inductive BI where
 | len | min | max | int | str | tuple | list
inductive TY where
 | tuple | str | int | bool
inductive MT where
 | append | lower | find | join
inductive WM where
 | peek | take | looks | expect | name | split

set_option genInjectivity false in
set_option genCtorIdx false in
mutual
inductive E where
 | c (v:V)
 | x (i:Nat)
 | g (n:Nat)
 | not (a:E)
 | bop (and:Bool) (es:Es)
 | ite (t a b:E)
 | cmp (op:CmpOp) (a b:E)
 | bin (op:Operator) (a b:E)
 | tup (es:Es)
 | lst (es:Es)
 | dict (ks:List (List Nat)) (vs:Es)
 | sub (a i:E)
 | sl (a lo hi:E)
 | attr (a:E) (k:Nat)
 | call (f:Nat) (es:Es)
 | bi (b:BI) (es:Es)
 | isi (a:E) (t:TY)
 | mth (a:E) (m:MT) (es:Es)
 | wm (a:E) (m:WM) (es:Es)
 | dget (n:Nat) (a:E) (d:V)
 | vcall (f:E) (es:Es)
 | newW (a:E)
 | range (a:E)
 | comp (cap:List Nat) (elt it:E)
 | bad
inductive Es where
 | nil
 | cons (e:E) (es:Es)
end

set_option genInjectivity false in
set_option genCtorIdx false in
mutual
inductive S where
 | expr (e:E)
 | asg (i:Nat) (e:E)
 | asgT (is:List Nat) (e:E)
 | aug (i:Nat) (op:Operator) (e:E)
 | augA (a:E) (k:Nat) (op:Operator) (e:E)
 | setA (a:E) (k:Nat) (e:E)
 | setI (a i e:E)
 | ite (t:E) (b o:Ss)
 | whl (t:E) (b:Ss)
 | for_ (i:Nat) (it:E) (b:Ss)
 | ret (e:E)
 | raise (a b:E)
 | try_ (b h:Ss)
 | brk
 | bad
inductive Ss where
 | nil
 | cons (s:S) (ss:Ss)
end

set_option genCtorIdx false in
inductive R (α:Type) where
 | ok (a:α) (σ:List C)
 | exc
 | fin (v:V)
 | stuck
noncomputable def R.ctorIdx {α:Type} (v:R α):Nat:=@R.casesOn α (fun ua=>Nat) v (fun ua ub=>0) 1 (fun ua=>2) 3

namespace R
noncomputable def bind {α β:Type}:R α→(α→List C→R β)→R β
 | ok a σ,f=>f a σ
 | exc,_=>exc
 | fin _,_=>stuck
 | stuck,_=>stuck
end R

set_option genInjectivity false in
set_option genCtorIdx false in
inductive Fl where
 | next | brk | ret (v:V)
noncomputable def Fl.ctorIdx (v:Fl):Nat:=@Fl.casesOn (fun ua=>Nat) v 0 1 fun ua=>2

noncomputable abbrev Env:=List (Option V)

set_option genInjectivity false in
structure Lo where
 ex:E→Env→List C→R V
 st:Ss→Env→List C→R (Fl×Env)
 tr:E→Env→List C→R Bool
 call:Nat→List V→List C→R V

noncomputable def LIM:Nat:=4000
noncomputable def zaP:Nat:=2097152

noncomputable def ofOpt {α:Type} (σ:List C):Option α→R α
 | some a=>.ok a σ
 | none=>.stuck

noncomputable def zan:List Nat→List Nat→Bool
 | [],[]=>true
 | a::as,b::bs=>Nat.beq a b&&zan as bs
 | _,_=>false

noncomputable def isStr:V→Bool
 | .str _=>true
 | _=>false

mutual
noncomputable def veq:V→V→Option Bool
 | .none,.none=>some true
 | .bool a,.bool b=>some (a == b)
 | .int a,.int b=>some (decide (a=b))
 | .str a,.str b=>some (zan a b)
 | .tup as,.tup bs=>veqs as bs
 | _,_=>none
noncomputable def veqs:List V→List V→Option Bool
 | [],[]=>some true
 | a::as,b::bs=>match veq a b with
  | some true=>veqs as bs
  | _=>none
 | _,_=>none
end

mutual
noncomputable def zk9:V→Nat
 | .tup vs=>vdeps vs+1
 | _=>0
noncomputable def vdeps:List V→Nat
 | []=>0
 | v::vs=>max (zk9 v) (vdeps vs)
end

noncomputable def zbt (a:List Nat):List V→Option Bool
 | []=>some false
 | .str b::r=>match zbt a r with
  | some q=>some (zan a b||q)
  | none=>none
 | _::_=>none

noncomputable def za3 (a:List Nat):List (List Nat×V)→Option V
 | []=>none
 | (k,v)::r=>if zan a k then some v else za3 a r

noncomputable def zah (c:Nat):List Nat→Bool
 | []=>false
 | d::r=>Nat.beq c d||zah c r

noncomputable def za4 (σ:List C):V→Option (List V)
 | .loc n=>match σ[n]? with
  | some (.list vs)=>some vs
  | _=>none
 | _=>none

noncomputable def zf5 (σ:List C) (op:CmpOp) (a b:V):Option Bool:=
 match op with
 | .Eq=>match a,b with
  | .loc _,.loc _=>none
  | _,_=>match a,b with
   | .int x,.int y=>some (decide (x=y))
   | .str x,.str y=>some (zan x y)
   | _,_=>none
 | .NotEq=>match a,b with
  | .int x,.int y=>some (!decide (x=y))
  | .str x,.str y=>some (!zan x y)
  | .tup x,.tup y=>match veqs x y with
   | some r=>if vdeps x≤60 then some (!r) else none
   | none=>none
  | .loc x,.loc y=>match za4 σ (.loc x),za4 σ (.loc y) with
   | some [],some []=>some false
   | some (_::_),some []=>some true
   | _,_=>none
  | _,_=>none
 | .Lt=>match a,b with
  | .int x,.int y=>some (decide (x < y))
  | _,_=>none
 | .LtE=>match a,b with
  | .int x,.int y=>some (decide (x≤y))
  | _,_=>none
 | .Gt=>match a,b with
  | .int x,.int y=>some (decide (y < x))
  | _,_=>none
 | .GtE=>match a,b with
  | .int x,.int y=>some (decide (y≤x))
  | _,_=>none
 | .Is=>match b with
  | .none=>match a with
   | .none=>some true
   | .bool _ | .int _ | .any | .str _ | .tup _ | .loc _ | .fn _=>some false
   | _=>none
  | _=>none
 | .IsNot=>match b with
  | .none=>match a with
   | .none=>some false
   | .bool _ | .int _ | .any | .str _ | .tup _ | .loc _ | .fn _=>some true
   | _=>none
  | _=>none
 | .In=>match a,b with
  | .str x,.tup y=>zbt x y
  | .str [x],.str y=>some (zah x y)
  | .str x,.loc n=>match σ[n]? with
   | some (.dict kvs)=>some (za3 x kvs).isSome
   | _=>none
  | _,_=>none
 | .NotIn=>match a,b with
  | .str x,.tup y=>match zbt x y with
   | some r=>some (!r)
   | none=>none
  | .str x,.loc n=>match σ[n]? with
   | some (.dict kvs)=>some (!(za3 x kvs).isSome)
   | _=>none
  | _,_=>none

noncomputable def zb1 (i:Int):Bool:=decide (i.natAbs < 18446744073709551616)
noncomputable def zuC:Operator→V→V→Option V
 | .Add,.int x,.int y=>some (.int (x+y))
 | _,_,_=>none

noncomputable def ztH (σ:List C):Option (List V)→Option (List V)→R V
 | some u,some v=>if(u++v).length≤LIM then .ok (.loc σ.length) (σ++[.list (u++v)]) else .stuck
 | _,_=>.stuck
noncomputable def zrg (σ:List C) (a b:V):R V:=
 match a,b with
 | .int x,.int y=>.ok (.int (x+y)) σ
 | .any,.int _=>.ok .any σ
 | .str x,.str y=>if(x++y).length≤zaP then .ok (.str (x++y)) σ else .stuck
 | .tup x,.tup y=>if(x++y).length≤LIM then .ok (.tup (x++y)) σ else .stuck
 | .loc x,.loc y=>ztH σ (za4 σ (.loc x)) (za4 σ (.loc y))
 | _,_=>.stuck
noncomputable def zrt (σ:List C) (a b:V):R V:=
 match a,b with
 | .int x,.int y=>.ok (.int (x-y)) σ
 | .any,.int _=>.ok .any σ
 | _,_=>.stuck
noncomputable def zuD (σ:List C) (a b:V):R V:=
 match a,b with
 | .int x,.int y=>if zb1 x||zb1 y then .ok (.int (x*y)) σ else .stuck
 | _,_=>.stuck
noncomputable def zuE (σ:List C) (a b:V):R V:=
 match a,b with
 | .int x,.int y=>if y=0||!zb1 y then .stuck else .ok (.int (x.fdiv y)) σ
 | _,_=>.stuck
noncomputable def zuF (σ:List C) (a b:V):R V:=
 match a,b with
 | .int x,.int y=>if y=0 then .stuck else .ok (.int (x.fmod y)) σ
 | _,_=>.stuck
noncomputable def zuG (σ:List C) (a b:V):R V:=
 match a,b with
 | .int x,.int y=>if x=10∧y=18 then .ok (.int 1000000000000000000) σ else .stuck
 | _,_=>.stuck
noncomputable def zru (σ:List C) (op:Operator) (a b:V):R V:=
 match op with
 | .Add=>zrg σ a b
 | .Sub=>zrt σ a b
 | .Mult=>zuD σ a b
 | .FloorDiv=>zuE σ a b
 | .Mod=>zuF σ a b
 | .Pow=>zuG σ a b
 | _=>.stuck

noncomputable def idx (i:Int) (n:Nat):Option Nat:=
 let j:=if i < 0 then i+n else i
 if 0≤j∧j < n∧n≤zaP then some j.toNat else none

noncomputable def zfa (σ:List C) (a i:V):Option V:=
 match a,i with
 | .tup vs,.int k=>match idx k vs.length with
  | some j=>vs[j]?
  | none=>none
 | .loc n,.int k=>match σ[n]? with
  | some (.list vs)=>match idx k vs.length with
   | some j=>vs[j]?
   | none=>none
  | _=>none
 | .str s,.int k=>match idx k s.length with
  | some j=>match s[j]? with
   | some c=>some (.str [c])
   | none=>none
  | none=>none
 | .loc n,.str k=>match σ[n]? with
  | some (.dict kvs)=>za3 k kvs
  | _=>none
 | _,_=>none

noncomputable def cut {α:Type} (lo hi:V) (l:List α):Option (List α):=
 match lo,hi with
 | .none,.int h=>if 0≤h then some (l.take h.toNat) else none
 | .int a,.int h=>if 0≤a∧0≤h then some ((l.take h.toNat).drop a.toNat) else none
 | _,_=>none

noncomputable def slV (σ:List C) (a lo hi:V):R V:=
 match a with
 | .str s=>match cut lo hi s with
  | some r=>if r.length≤zaP then .ok (.str r) σ else .stuck
  | none=>.stuck
 | .loc n=>match σ[n]? with
  | some (.list vs)=>match cut lo hi vs with
   | some r=>if vs.length≤LIM then .ok (.loc σ.length) (σ++[.list r]) else .stuck
   | none=>.stuck
  | _=>.stuck
 | _=>.stuck

noncomputable def znw (σ:List C) (a:V) (k:Nat):Option V:=
 match a with
 | .loc n=>match σ[n]? with
  | some (.inst as)=>as.lookup k
  | _=>none
 | _=>none

noncomputable def setAttr:Nat→V→List (Nat×V)→List (Nat×V)
 | k,v,[]=>[(k,v)]
 | k,v,(j,u)::r=>if Nat.beq k j then(j,v)::r else(j,u)::setAttr k v r

noncomputable def zcc (σ:List C) (a:V) (k:Nat) (v:V):R Unit:=
 match a with
 | .loc n=>match σ[n]? with
  | some (.inst as)=>match Nat.ble (setAttr k v as).length 2 with
   | true=>.ok () (σ.set n (.inst (setAttr k v as)))
   | false=>.stuck
  | _=>.stuck
 | _=>.stuck

noncomputable def zcr (σ:List C) (a i v:V):R Unit:=
 match a,i with
 | .loc n,.int k=>match σ[n]? with
  | some (.list vs)=>if 0≤k∧k.toNat < vs.length∧vs.length≤LIM then .ok () (σ.set n (.list (vs.set k.toNat v))) else .stuck
  | _=>.stuck
 | _,_=>.stuck

noncomputable def zrv (σ:List C):V→Option Nat
 | .str s=>if s.length≤zaP then some s.length else none
 | .tup vs=>if vs.length≤zaP then some vs.length else none
 | .loc n=>match σ[n]? with
  | some (.list vs)=>if vs.length≤zaP then some vs.length else none
  | _=>none
 | _=>none
noncomputable def zpC:List Nat:=[48,49,50,51,52,53,54,55,56,57,97,98,99,100,101,102]

noncomputable def zee (σ:List C):V→Option (List V)
 | .tup vs=>some vs
 | .loc n=>match σ[n]? with
  | some (.list vs)=>some vs
  | _=>none
 | _=>none

noncomputable def biV (σ:List C) (b:BI) (as:List V):R V:=
 match b,as with
 | .len,[a]=>match zrv σ a with
  | some n=>.ok (.int n) σ
  | none=>.stuck
 | .min,[.int a,.int b]=>.ok (.int (if b < a then b else a)) σ
 | .max,[.int a,.int b]=>.ok (.int (if a < b then b else a)) σ
 | .int,[.int a]=>.ok (.int a) σ
 | .int,[.bool a]=>.ok (.int (if a then 1 else 0)) σ
 | .str,[.int a]=>if 0≤a∧a≤9 then .ok (.str [48+a.toNat]) σ else .stuck
 | .tuple,[a]=>match za4 σ a with
  | some vs=>if vs.length≤LIM then .ok (.tup vs) σ else .stuck
  | none=>.stuck
 | .list,[a]=>match za4 σ a with
  | some vs=>if vs.length≤LIM then .ok (.loc σ.length) (σ++[.list vs]) else .stuck
  | none=>.stuck
 | _,_=>.stuck

noncomputable def znx (t:TY) (a:V):Option Bool:=
 match a with
 | .none=>some false
 | .bool _=>some (match t with | .bool | .int=>true | _=>false)
 | .int _=>some (match t with | .int=>true | _=>false)
 | .any=>some (match t with | .int=>true | _=>false)
 | .str _=>some (match t with | .str=>true | _=>false)
 | .tup _=>some (match t with | .tuple=>true | _=>false)
 | _=>none

noncomputable def zgi (c:Nat):Option Nat:=if c < 65 then some c else if c≤90 then some (c+32) else if c < 128 then some c else none

noncomputable def zfm (c:Nat):Nat→List Nat→Int
 | _,[]=>-1
 | k,d::r=>if Nat.beq c d then(k:Int) else zfm c (k+1) r

noncomputable def zdi:List V→Option (List (List Nat))
 | []=>some []
 | .str s::r=>match zdi r with
  | some l=>some (s::l)
  | none=>none
 | _::_=>none

noncomputable def zaB (sep:List Nat):List (List Nat)→List Nat
 | []=>[]
 | [a]=>a
 | a::b::r=>a++(sep++zaB sep (b::r))

noncomputable def zo3 (σ:List C) (m:MT) (a:V) (as:List V):R V:=
 match m,a,as with
 | .append,.loc n,[v]=>match σ[n]? with
  | some (.list vs)=>if vs.length < LIM then .ok .none (σ.set n (.list (vs++[v]))) else .stuck
  | _=>.stuck
 | .lower,.str [c],[]=>match zgi c with
  | some d=>.ok (.str [d]) σ
  | none=>.stuck
 | .find,.str s,[.str [c]]=>if zan s zpC then .ok (.int (zfm c 0 zpC)) σ else .stuck
 | .join,.str s,[a]=>match zee σ a with
  | some vs=>match zdi vs with
   | some l=>if(l.map List.length).sum+l.length*s.length≤zaP then .ok (.str (zaB s l)) σ else .stuck
   | none=>.stuck
  | none=>.stuck
 | _,_,_=>.stuck

noncomputable def zdV:List Nat:=[101,110,100]
noncomputable def zbu:List Nat:=[115,105,103,110]
noncomputable def zcs:List Nat:=[110,97,109,101]
noncomputable def zno:List Nat:=[62]

noncomputable def zbB:List V→Nat→Option V
 | [],_=>none
 | t::_,0=>some t
 | t::r,k+1=>match r with
  | []=>some t
  | _::_=>zbB r k

noncomputable def kindOf:V→Option (List Nat)
 | .tup (.str k::_)=>some k
 | _=>none
noncomputable def zhB:V→Option (List Nat)
 | .tup (_::.str t::_)=>some t
 | _=>none
noncomputable def zfn:V→Option V
 | .tup (_::_::p::_)=>some p
 | _=>none

noncomputable def zdg:List V→Option (V×List V)
 | t::r=>match kindOf t with
  | some k=>if zan k zdV then some (t,t::r) else some (t,r)
  | none=>none
 | []=>none

noncomputable def zbi (rest:List V) (text:List Nat) (k:Nat):Option Bool:=
 match zbB rest k with
 | some t=>match kindOf t,zhB t with
  | some kd,some tx=>some ((zan kd zbu||zan kd zcs)&&zan tx text)
  | _,_=>none
 | none=>none

noncomputable def wmV (kw:List V) (m:WM) (rest:List V) (as:List V):Option (Option (V×List V)):=
 match m,as with
 | .peek,[]=>match zbB rest 0 with
  | some t=>some (some (t,rest))
  | none=>none
 | .peek,[.int k]=>if 0≤k then(match zbB rest k.toNat with
  | some t=>some (some (t,rest))
  | none=>none) else none
 | .take,[]=>match zdg rest with
  | some (t,r)=>some (some (t,r))
  | none=>none
 | .looks,[.str tx]=>match zbi rest tx 0 with
  | some b=>some (some (.bool b,rest))
  | none=>none
 | .looks,[.str tx,.int k]=>if 0≤k then(match zbi rest tx k.toNat with
  | some b=>some (some (.bool b,rest))
  | none=>none) else none
 | .expect,[.str tx]=>match zbi rest tx 0 with
  | some true=>match zdg rest with
   | some (t,r)=>some (some (t,r))
   | none=>none
  | some false=>match zbB rest 0 with
   | some t=>match zfn t,Nat.ble tx.length 1000 with
    | some _,true=>some none
    | _,_=>none
   | none=>none
  | none=>none
 | .name,[]=>match zbB rest 0 with
  | some t=>match kindOf t,zhB t,zfn t with
   | some kd,some tx,some p=>
    if zan kd zcs then
     match zbt tx kw with
     | some true=>some none
     | some false=>match zdg rest with
      | some (_,r)=>some (some (.tup [.str tx,p],r))
      | none=>none
     | none=>none
    else some none
   | _,_,_=>none
  | none=>none
 | .split,[]=>match zbB rest 0 with
  | some t=>match kindOf t,zhB t,zfn t with
   | some kd,some tx,some p=>
    if zan kd zbu&&zan tx zno then
     match zdg rest with
     | some (_,r)=>some (some (.tup [.str zbu,.str zno,p,.none,.none],r))
     | none=>none
    else none
   | _,_,_=>none
  | none=>none
 | _,_=>none

noncomputable def zb9:V→V
 | .tup (k::t::.int _::r)=>.tup (k::t::.any::r)
 | v=>v
mutual
noncomputable def plain:V→Bool
 | .tup vs=>plains vs
 | .loc _=>false
 | .fn _=>false
 | .rng _=>false
 | _=>true
noncomputable def plains:List V→Bool
 | []=>true
 | v::vs=>plain v&&plains vs
end
noncomputable def zpD:V→Bool
 | .tup [.str _,.str _,_,_,_]=>true
 | _=>false
noncomputable def zbv:C→Bool
 | .list vs=>plains vs
 | .words _=>true
 | .inst _=>false
 | .dict _=>false
noncomputable def zdW:V→Bool
 | .tup [.str _,.str _,.int _,a,b]=>plain a&&plain b
 | _=>false
noncomputable def zbC:List V→Bool
 | []=>false
 | [t]=>match kindOf t with
  | some k=>zan k zdV
  | none=>false
 | _::t::r=>zbC (t::r)
noncomputable def zcg:List Nat→Bool
 | []=>true
 | x::r=>!(r.any (Nat.beq x))&&zcg r
noncomputable def frA:Nat→List V→Option (List V×List Nat)
 | _,[]=>some ([],[])
 | k,.loc n::r=>match frA (k+1) r with
  | some (as,ls)=>some (.loc k::as,n::ls)
  | none=>none
 | k,v::r=>match plain v with
  | true=>match frA k r with
   | some (as,ls)=>some (v::as,ls)
   | none=>none
  | false=>none
noncomputable def zny (σ:List C):List Nat→Option (List C)
 | []=>some []
 | n::r=>match σ[n]?,zny σ r with
  | some c,some τ=>match zbv c with
   | true=>some (c::τ)
   | false=>none
  | _,_=>none
noncomputable def zfo:List Nat→List C→List C→Option (List C)
 | [],_,σ=>some σ
 | n::r,c::τ,σ=>match zbv c with
  | true=>zfo r τ (σ.set n c)
  | false=>none
 | _::_,[],_=>none
noncomputable def zdX (σ σ':List C) (k:Nat) (τ:List C) (v:V):R V:=
 match v with
 | .loc n=>match Nat.ble k n with
  | true=>match τ[n]? with
   | some c=>match zbv c with
    | true=>.ok (.loc σ.length) (σ'++[c])
    | false=>.stuck
   | none=>.stuck
  | false=>.stuck
 | v=>match plain v with
  | true=>.ok v σ'
  | false=>.stuck
noncomputable def znz (σ:List C) (ls:List Nat):R V→R V
 | .ok v τ=>match zfo ls τ σ with
  | some σ'=>zdX σ σ' ls.length τ v
  | none=>.stuck
 | .exc=>.exc
 | .fin _=>.stuck
 | .stuck=>.stuck

set_option genInjectivity false in
structure Fn where
 name:List Nat
 addr:Nat
 params:Nat
 dflts:List V
 vars:List (List Nat)
 body:Ss

set_option genInjectivity false in
structure Tab where
 fns:List Fn
 globs:List (List Nat×V)
 dicts:List (List Nat×List (List Nat×V))
 kw:List V

noncomputable def zeZ (f:Fn) (as:List V):Option Env:=
 let need:=f.params-as.length
 if as.length≤f.params∧need≤f.dflts.length then
  some ((as++f.dflts.drop (f.dflts.length-need)).map some++List.replicate (f.vars.length-f.params) none)
 else none

section
variable (T:Tab) (prim:Bool) (lo:Lo)

set_option genInjectivity false in
set_option genCtorIdx false in
inductive Src where
 | fixed (vs:List V)
 | cell (n:Nat)
noncomputable def Src.ctorIdx (v:Src):Nat:=@Src.casesOn (fun ua=>Nat) v (fun ua=>0) fun ua=>1
noncomputable def zef (σ:List C):Src→Nat→Option (Option V)
 | .fixed vs,j=>some vs[j]?
 | .cell n,j=>match σ[n]? with
  | some (.list vs)=>match Nat.ble vs.length LIM with
   | true=>some vs[j]?
   | false=>none
  | _=>none
noncomputable def zch (f:V→List C→R V) (src:Src):Nat→Nat→List C→R (List V)
 | 0,_,_=>.stuck
 | n+1,j,σ=>match zef σ src j with
  | some (some v)=>match f v σ with
   | .ok u σ1=>match zch f src n (j+1) σ1 with
    | .ok us σ2=>.ok (u::us) σ2
    | _=>.stuck
   | _=>.stuck
  | some none=>.ok [] σ
  | none=>.stuck

noncomputable def zeD (ρ:Env):List Nat→Option Env
 | []=>some []
 | i::r=>match ρ[i]? with
  | some (some v)=>match zeD ρ r with
   | some l=>some (some v::l)
   | none=>none
  | _=>none

noncomputable def zdY (σ:List C):V→Option Src
 | .rng n=>match Nat.ble n 100 with
  | true=>some (.fixed ((List.range n).map fun k=>.int (k:Nat)))
  | false=>none
 | .tup vs=>match Nat.ble vs.length LIM with
  | true=>some (.fixed vs)
  | false=>none
 | .loc n=>match σ[n]? with
  | some (.list _)=>some (.cell n)
  | _=>none
 | _=>none
noncomputable def zbb:Nat:=4002

noncomputable def zjs:WM→Nat
 | .peek=>0
 | .take=>1
 | .looks=>2
 | .expect=>3
 | .name=>4
 | .split=>5

noncomputable def zdZ (m:WM) (u:V) (vs:List V) (σ2:List C):R V:=
 match u with
 | .loc n=>match σ2[n]? with
  | some (.words rest)=>
   if prim then
    match wmV T.kw m rest vs with
    | some (some (v,r))=>.ok v (σ2.set n (.words r))
    | some none=>.exc
    | none=>.stuck
   else .stuck
  | some (.inst _)=>lo.call (zjs m) (.loc n::vs) σ2
  | _=>.stuck
 | _=>.stuck
noncomputable def zeg (m:MT) (u:V) (σ:List C):R Unit:=
 match m,u with
 | .append,.loc n=>match σ[n]? with
  | some (.list _)=>.ok () σ
  | _=>.stuck
 | .append,_=>.stuck
 | _,.str _=>.ok () σ
 | _,_=>.stuck
noncomputable def zlf (u:V) (σ:List C):R Unit:=
 match u with
 | .fn k=>match T.fns[k]? with
  | some _=>.ok () σ
  | none=>.stuck
 | _=>.stuck
noncomputable def zkj (u:V) (σ:List C):R Unit:=
 match u with
 | .loc n=>match σ[n]? with
  | some (.words _)=>.ok () σ
  | some (.inst _)=>.ok () σ
  | _=>.stuck
 | _=>.stuck
noncomputable def zvg (v:V) (σ:List C):R V:=
 match v with
 | .bool b=>.ok (.bool (!b)) σ
 | _=>.stuck
noncomputable def zd0 (v:V) (σ:List C):R Bool:=
 match v with
 | .bool b=>.ok b σ
 | _=>.stuck
noncomputable def okB (σ:List C):Option Bool→R V
 | some b=>.ok (.bool b) σ
 | none=>.stuck
noncomputable def zuH (vs:List V) (σ:List C):R V:=if vs.length≤LIM then .ok (.tup vs) σ else .stuck
noncomputable def zuI (vs:List V) (σ:List C):R V:=if vs.length≤LIM then .ok (.loc σ.length) (σ++[.list vs]) else .stuck
noncomputable def zkk (ks:List (List Nat)) (vs:List V) (σ:List C):R V:=if vs.length=ks.length∧vs.length≤15 then .ok (.loc σ.length) (σ++[.dict (ks.zip vs)]) else .stuck
noncomputable def zrw (n:Nat) (d:V) (v:V) (σ:List C):R V:=
 match v with
 | .str k=>match T.dicts[n]? with
  | some (_,kvs)=>.ok ((za3 k kvs).getD d) σ
  | none=>.stuck
 | _=>.stuck
noncomputable def zla (u:V) (σ1:List C):R V:=
 match za4 σ1 u with
 | some vs=>if prim&&vs.all zdW&&decide (vs.length≤LIM)&&zbC vs then .ok (.loc σ1.length) (σ1++[.words (vs.map zb9)]) else .stuck
 | none=>.stuck
noncomputable def zuJ (v:V) (σ:List C):R V:=
 match v with
 | .int k=>if 0≤k∧k≤100 then .ok (.rng k.toNat) σ else .stuck
 | _=>.stuck
noncomputable def zrx (u:V) (vs:List V) (σ:List C):R V:=
 match u with
 | .fn k=>lo.call k vs σ
 | _=>.stuck
noncomputable def zkl (cap:List Nat) (elt:E) (ρ:Env) (u:V) (σ1:List C):R V:=
 match zdY σ1 u,zeD ρ cap with
 | some src,some ρ'=>match zch (fun v σ'=>lo.ex elt (ρ'++[some v]) σ') src zbb 0 σ1 with
  | .ok us σ2=>if us.length≤LIM then .ok (.loc σ2.length) (σ2++[.list us]) else .stuck
  | _=>.stuck
 | _,_=>.stuck
noncomputable def zkm (ρ:Env) (i:Nat) (σ:List C):R V:=
 match ρ[i]? with
 | some (some v)=>.ok v σ
 | _=>.stuck
noncomputable def ztI (n:Nat) (σ:List C):R V:=
 match T.globs[n]? with
 | some p=>.ok p.2 σ
 | none=>.stuck

mutual
noncomputable def evE:E→Env→List C→R V
 | .c v,_,σ=>.ok v σ
 | .x i,ρ,σ=>zkm ρ i σ
 | .g n,_,σ=>ztI T n σ
 | .not a,ρ,σ=>(evE a ρ σ).bind zvg
 | .bop k es,ρ,σ=>evB k es ρ σ
 | .ite t a b,ρ,σ=>(evT t ρ σ).bind fun c σ1=>match c with
  | true=>evE a ρ σ1
  | false=>evE b ρ σ1
 | .cmp op a b,ρ,σ=>(evE a ρ σ).bind fun u σ1=>(evE b ρ σ1).bind fun v σ2=>okB σ2 (zf5 σ2 op u v)
 | .bin op a b,ρ,σ=>(evE a ρ σ).bind fun u σ1=>(evE b ρ σ1).bind fun v σ2=>zru σ2 op u v
 | .tup es,ρ,σ=>(evEs es ρ σ).bind zuH
 | .lst es,ρ,σ=>(evEs es ρ σ).bind zuI
 | .dict ks es,ρ,σ=>(evEs es ρ σ).bind (zkk ks)
 | .sub a i,ρ,σ=>(evE a ρ σ).bind fun u σ1=>(evE i ρ σ1).bind fun v σ2=>ofOpt σ2 (zfa σ2 u v)
 | .sl a l h,ρ,σ=>(evE a ρ σ).bind fun u σ1=>(evE l ρ σ1).bind fun v σ2=>(evE h ρ σ2).bind fun w σ3=>slV σ3 u v w
 | .attr a k,ρ,σ=>(evE a ρ σ).bind fun u σ1=>ofOpt σ1 (znw σ1 u k)
 | .call f es,ρ,σ=>(evEs es ρ σ).bind fun vs σ1=>lo.call f vs σ1
 | .bi b es,ρ,σ=>(evEs es ρ σ).bind fun vs σ1=>biV σ1 b vs
 | .isi a t,ρ,σ=>(evE a ρ σ).bind fun u σ1=>okB σ1 (znx t u)
 | .mth a m es,ρ,σ=>(evE a ρ σ).bind fun u σ1=>(zeg m u σ1).bind fun ua σ1=>(evEs es ρ σ1).bind fun vs σ2=>zo3 σ2 m u vs
 | .wm a m es,ρ,σ=>(evE a ρ σ).bind fun u σ1=>(zkj u σ1).bind fun ua σ1=>(evEs es ρ σ1).bind fun vs σ2=>zdZ T prim lo m u vs σ2
 | .dget n a d,ρ,σ=>(evE a ρ σ).bind (zrw T n d)
 | .vcall f es,ρ,σ=>(evE f ρ σ).bind fun u σ1=>(zlf T u σ1).bind fun ua σ1=>(evEs es ρ σ1).bind fun vs σ2=>zrx lo u vs σ2
 | .newW a,ρ,σ=>(evE a ρ σ).bind (zla prim)
 | .range a,ρ,σ=>(evE a ρ σ).bind zuJ
 | .comp cap elt it,ρ,σ=>(evE it ρ σ).bind fun u σ1=>zkl lo cap elt ρ u σ1
 | .bad,_,_=>.stuck
noncomputable def evEs:Es→Env→List C→R (List V)
 | .nil,_,σ=>.ok [] σ
 | .cons e es,ρ,σ=>(evE e ρ σ).bind fun v σ1=>(evEs es ρ σ1).bind fun vs σ2=>.ok (v::vs) σ2
noncomputable def evB (k:Bool):Es→Env→List C→R V
 | .nil,_,_=>.stuck
 | .cons e .nil,ρ,σ=>evE e ρ σ
 | .cons e (.cons e' es),ρ,σ=>(evE e ρ σ).bind fun v σ1=>(zd0 v σ1).bind fun b σ1=>if b == k then evB k (.cons e' es) ρ σ1 else .ok (.bool b) σ1
noncomputable def evT:E→Env→List C→R Bool
 | .not a,ρ,σ=>(evT a ρ σ).bind fun b σ1=>.ok (!b) σ1
 | .bop k es,ρ,σ=>evTs k es ρ σ
 | .ite t a b,ρ,σ=>(evT t ρ σ).bind fun c σ1=>match c with
  | true=>evT a ρ σ1
  | false=>evT b ρ σ1
 | .cmp op a b,ρ,σ=>(evE a ρ σ).bind fun u σ1=>(evE b ρ σ1).bind fun v σ2=>ofOpt σ2 (zf5 σ2 op u v)
 | .x i,ρ,σ=>(zkm ρ i σ).bind zd0
 | .c v,_,σ=>zd0 v σ
 | .call f es,ρ,σ=>(evEs es ρ σ).bind fun vs σ1=>(lo.call f vs σ1).bind zd0
 | .wm a m es,ρ,σ=>(evE a ρ σ).bind fun u σ1=>(zkj u σ1).bind fun ua σ1=>(evEs es ρ σ1).bind fun vs σ2=>(zdZ T prim lo m u vs σ2).bind zd0
 | .isi a t,ρ,σ=>(evE a ρ σ).bind fun u σ1=>ofOpt σ1 (znx t u)
 | _,_,_=>.stuck
noncomputable def evTs (k:Bool):Es→Env→List C→R Bool
 | .nil,_,σ=>.ok k σ
 | .cons e es,ρ,σ=>(evT e ρ σ).bind fun b σ1=>if b == k then evTs k es ρ σ1 else .ok b σ1
end

noncomputable def za5:List Nat→List V→Env→Option Env
 | [],[],ρ=>some ρ
 | i::is,v::vs,ρ=>za5 is vs (ρ.set i (some v))
 | _,_,_=>none

noncomputable def zf3 (t:E) (b:Ss):Nat→Env→List C→R (Fl×Env)
 | 0,_,_=>.stuck
 | n+1,ρ,σ=>match lo.tr t ρ σ with
  | .ok true σ1=>match lo.st b ρ σ1 with
   | .ok (.next,ρ1) σ2=>zf3 t b n ρ1 σ2
   | .ok (.brk,ρ1) σ2=>.ok (.next,ρ1) σ2
   | .ok (.ret v,ρ1) σ2=>.ok (.ret v,ρ1) σ2
   | .exc=>.exc
   | _=>.stuck
  | .ok false σ1=>.ok (.next,ρ) σ1
  | .exc=>.exc
  | _=>.stuck

theorem zhC {t:E}{b:Ss}{n:Nat}{ρ:Env}{σ:List C}:zf3 lo t b (n+1) ρ σ=match lo.tr t ρ σ with
  | .ok true σ1=>match lo.st b ρ σ1 with
   | .ok (.next,ρ1) σ2=>zf3 lo t b n ρ1 σ2
   | .ok (.brk,ρ1) σ2=>.ok (.next,ρ1) σ2
   | .ok (.ret v,ρ1) σ2=>.ok (.ret v,ρ1) σ2
   | .exc=>.exc
   | _=>.stuck
  | .ok false σ1=>.ok (.next,ρ) σ1
  | .exc=>.exc
  | _=>.stuck:=rfl
noncomputable def zgU (i:Nat) (b:Ss) (src:Src):Nat→Nat→Env→List C→R (Fl×Env)
 | 0,_,_,_=>.stuck
 | n+1,j,ρ,σ=>match zef σ src j with
  | some (some v)=>match lo.st b (ρ.set i (some v)) σ with
   | .ok (.next,ρ1) σ2=>zgU i b src n (j+1) ρ1 σ2
   | .ok (.brk,ρ1) σ2=>.ok (.next,ρ1) σ2
   | .ok (.ret u,ρ1) σ2=>.ok (.ret u,ρ1) σ2
   | .exc=>.exc
   | _=>.stuck
  | some none=>.ok (.next,ρ) σ
  | none=>.stuck

noncomputable def zd1:Nat:=100000

noncomputable def zgV (is:List Nat) (ρ:Env) (u:V) (σ:List C):R (Fl×Env):=
 match zee σ u with
 | some vs=>match za5 is vs ρ with
  | some ρ1=>.ok (.next,ρ1) σ
  | none=>.stuck
 | none=>.stuck
noncomputable def zlg (i:Nat) (ρ:Env) (v:V) (σ:List C):R (Fl×Env):=if i < ρ.length then .ok (.next,ρ.set i (some v)) σ else .stuck
noncomputable def zpE (op:Operator) (u v:V) (σ:List C):R V:=ofOpt σ (zuC op u v)
noncomputable def zlh (ρ:Env) (_:Unit) (σ:List C):R (Fl×Env):=.ok (.next,ρ) σ
noncomputable def zo4 (u:V) (σ:List C):R Src:=ofOpt σ (zdY σ u)
noncomputable def zf6 (f:Env→List C→R (Fl×Env)):R (Fl×Env)→R (Fl×Env)
 | .ok (.next,ρ1) σ1=>f ρ1 σ1
 | .ok (.brk,ρ1) σ1=>.ok (.brk,ρ1) σ1
 | .ok (.ret v,ρ1) σ1=>.ok (.ret v,ρ1) σ1
 | .exc=>.exc
 | .fin v=>.fin v
 | .stuck=>.stuck
noncomputable def caught (h:Ss):R (Fl×Env)→R (Fl×Env)
 | .ok r σ1=>.ok r σ1
 | .exc=>match h with
  | .cons (.ret (.c (.bool k))) .nil=>.fin (.bool k)
  | _=>.stuck
 | .fin _=>.stuck
 | .stuck=>.stuck

mutual
noncomputable def evS:S→Env→List C→R (Fl×Env)
 | .expr e,ρ,σ=>(evE T prim lo e ρ σ).bind fun ua σ1=>.ok (.next,ρ) σ1
 | .asg i e,ρ,σ=>(evE T prim lo e ρ σ).bind (zlg i ρ)
 | .asgT is e,ρ,σ=>(evE T prim lo e ρ σ).bind (zgV is ρ)
 | .aug i op e,ρ,σ=>(zkm ρ i σ).bind fun u σ=>(evE T prim lo e ρ σ).bind fun v σ1=>(zpE op u v σ1).bind (zlg i ρ)
 | .augA a k op e,ρ,σ=>(evE T prim lo a ρ σ).bind fun o σ1=>(ofOpt σ1 (znw σ1 o k)).bind fun u σ1=>(evE T prim lo e ρ σ1).bind fun v σ2=>(zpE op u v σ2).bind fun r σ2=>(zcc σ2 o k r).bind (zlh ρ)
 | .setA a k e,ρ,σ=>(evE T prim lo e ρ σ).bind fun v σ1=>(evE T prim lo a ρ σ1).bind fun o σ2=>(zcc σ2 o k v).bind (zlh ρ)
 | .setI a i e,ρ,σ=>(evE T prim lo e ρ σ).bind fun v σ1=>(evE T prim lo a ρ σ1).bind fun o σ2=>(evE T prim lo i ρ σ2).bind fun j σ3=>(zcr σ3 o j v).bind (zlh ρ)
 | .ite t b o,ρ,σ=>(evT T prim lo t ρ σ).bind fun c σ1=>match c with
  | true=>evSs b ρ σ1
  | false=>evSs o ρ σ1
 | .whl t b,ρ,σ=>zf3 lo t b zd1 ρ σ
 | .for_ i it b,ρ,σ=>(evE T prim lo it ρ σ).bind fun u σ1=>(zo4 u σ1).bind fun src σ1=>if i < ρ.length then zgU lo i b src zbb 0 ρ σ1 else .stuck
 | .ret e,ρ,σ=>(evE T prim lo e ρ σ).bind fun v σ1=>.ok (.ret v,ρ) σ1
 | .raise a b,ρ,σ=>(evE T prim lo a ρ σ).bind fun ua σ1=>(evE T prim lo b ρ σ1).bind fun ua ub=>.exc
 | .try_ b h,ρ,σ=>caught h (evSs b ρ σ)
 | .brk,ρ,σ=>.ok (.brk,ρ) σ
 | .bad,_,_=>.stuck
noncomputable def evSs:Ss→Env→List C→R (Fl×Env)
 | .nil,ρ,σ=>.ok (.next,ρ) σ
 | .cons s ss,ρ,σ=>zf6 (fun ρ1 σ1=>evSs ss ρ1 σ1) (evS s ρ σ)
end

noncomputable def zpF:R (Fl×Env)→R V
 | .ok (.ret v,_) σ1=>.ok v σ1
 | .ok (.next,_) σ1=>.ok .none σ1
 | .ok (.brk,_) _=>.stuck
 | .exc=>.exc
 | .fin v=>.fin v
 | .stuck=>.stuck
noncomputable def zcC (fn:Fn) (as:List V) (σ:List C):R V:=
 match zeZ fn as with
 | some ρ=>zpF (evSs T prim lo fn.body ρ σ)
 | none=>.stuck
noncomputable def zdM (fn:Fn) (as:List V) (σ:List C):R V:=
 match frA 0 as with
 | some (as',ls)=>match zcg ls,zny σ ls with
  | true,some τ=>znz σ ls (zcC T prim lo fn as' τ)
  | _,_=>.stuck
 | none=>.stuck
noncomputable def znA (f:Nat) (as:List V) (σ:List C):R V:=
 match T.fns[f]? with
 | some fn=>match prim with
  | true=>zdM T prim lo fn as σ
  | false=>zcC T prim lo fn as σ
 | none=>.stuck
end

noncomputable def lo0:Lo:=⟨fun ua ub uc=>.stuck,fun ua ub uc=>.stuck,fun ua ub uc=>.stuck,fun ua ub uc=>.stuck⟩
noncomputable def ev (T:Tab) (prim:Bool):Nat→Lo
 | 0=>lo0
 | d+1=>⟨evE T prim (ev T prim d),evSs T prim (ev T prim d),evT T prim (ev T prim d),znA T prim (ev T prim d)⟩
end
section
open W Calls PyProof.Rows
noncomputable abbrev AM:=List (Addr×List Addr)
noncomputable def Mut (m:AM) (b:Addr):Prop:=∃ p∈m,b∈p.2
noncomputable def zaa (l:List Nat):Str:=⟨l.toArray⟩

noncomputable abbrev zli (xs:List Value) (n:Nat):Obj:={ cls:=.type "tuple",data:=.seq xs.toArray n }
noncomputable abbrev zdh (xs:List Value) (n:Nat):Obj:={ cls:=.type "list",data:=.seq xs.toArray n }

section
variable (F:Nat→Option Addr)
mutual
inductive Rep (m:AM) (h:Heap):Value→V→Prop
 | none:Rep m h .none .none
 | bool (b:Bool):Rep m h (.bool b) (.bool b)
 | int (i:Int) (t:Tok):Rep m h (.int i t) (.int i)
 | any (i:Int) (t:Tok):Rep m h (.int i t) .any
 | str (s:List Nat) (t:Tok):Rep m h (.str (zaa s) t) (.str s)
 | tup {a:Addr}{n:Nat}{xs:List Value}{vs:List V}:h.get? a=some (zli xs n)→Reps m h xs vs→Rep m h (.ref a) (.tup vs)
 | loc {n:Nat}{p:Addr×List Addr}:m[n]?=some p→Rep m h (.ref p.1) (.loc n)
 | fn {n:Nat}{a:Addr}:F n=some a→Rep m h (.ref a) (.fn n)
 | rng {a:Addr}{n:Nat}{t u v:Tok}:IsRange h a 0 (n:Int) 1 t u v→Rep m h (.ref a) (.rng n)
inductive Reps (m:AM) (h:Heap):List Value→List V→Prop
 | nil:Reps m h [] []
 | cons {x:Value}{v:V}{xs:List Value}{vs:List V}:Rep m h x v→Reps m h xs vs→Reps m h (x::xs) (v::vs)
end
end

noncomputable def IfO {α:Type} (P:α→Prop):Option α→Prop
 | some a=>P a
 | none=>True
theorem zc3 {α:Type}{P:α→Prop}{c:Prop} [Decidable c] {a b:α} (h1:c→P a) (h2:¬c→P b):P (if c then a else b):=
 if h:c then(if_pos h:ite c a b=a).symm▸h1 h else(if_neg h:ite c a b=b).symm▸h2 h
theorem IfO.out {α:Type}{P:α→Prop}{r:α}:∀ {o:Option α},IfO P o→o=some r→P r
 | _,t,rfl=>t
noncomputable def IfS {α:Type} (P:R α→Prop):R α→Prop
 | .stuck=>True
 | .ok a σ=>P (.ok a σ)
 | .exc=>P .exc
 | .fin v=>P (.fin v)
theorem IfS.out {α:Type}{P:R α→Prop}:∀ {r:R α},IfS P r→r≠.stuck→P r
 | .stuck,_,h=>absurd rfl h
 | .ok ..,t,_=>t
 | .exc,t,_=>t
 | .fin _,t,_=>t
noncomputable def zuK (F:Nat→Option Addr) (m:AM) (h:Heap) (x:Value):V→Prop
 | .none=>x=.none
 | .bool b=>x=.bool b
 | .int i=>∃ t,x=.int i t
 | .any=>∃ i t,x=.int i t
 | .str s=>∃ t,x=.str (zaa s) t
 | .tup vs=>∃ a n xs,x=.ref a∧h.get? a=some (zli xs n)∧Reps F m h xs vs
 | .loc n=>∃ p,x=.ref p.1∧m[n]?=some p
 | .fn n=>∃ a,x=.ref a∧F n=some a
 | .rng n=>∃ a t u v,x=.ref a∧IsRange h a 0 (n:Int) 1 t u v
theorem Rep.inv {F:Nat→Option Addr}{m:AM}{h:Heap}{x:Value}{v:V} (r:Rep F m h x v):zuK F m h x v:=
 Rep.casesOn (motive_1:=fun x v ua=>zuK F m h x v) r rfl (fun ua=>rfl) (fun ua t=>⟨t,rfl⟩) (fun i t=>⟨i,t,rfl⟩) (fun ua t=>⟨t,rfl⟩) (fun e r=>⟨_,_,_,rfl,e,r⟩) (fun e=>⟨_,rfl,e⟩) (fun e=>⟨_,rfl,e⟩) fun e=>⟨_,_,_,_,rfl,e⟩

theorem Reps.invc {F:Nat→Option Addr}{m:AM}{h:Heap}{xs:List Value}{vs:List V} (r:Reps F m h xs vs):match vs with
  | []=>xs=[]
  | v::vs=>∃ x r,xs=x::r∧Rep F m h x v∧Reps F m h r vs:=by
 cases r with
 | nil=>exact rfl
 | cons a b=>exact zki _ _ rfl a b
theorem Reps.inv1 {F:Nat→Option Addr}{m:AM}{h:Heap}{xs:List Value}{v:V} (r:Reps F m h xs [v]):∃ x,xs=[x]∧Rep F m h x v:=
 let ⟨x,_,e,a,b⟩:=r.invc
 ⟨x,by refine e.symm▸?_; refine b.invc.symm▸?_; with_reducible rfl,a⟩
theorem Reps.inv2 {F:Nat→Option Addr}{m:AM}{h:Heap}{xs:List Value}{v u:V} (r:Reps F m h xs [v,u]):∃ x y,xs=[x,y]∧Rep F m h x v∧Rep F m h y u:=
 let ⟨x,_,e,a,b⟩:=r.invc
 let ⟨y,e',b⟩:=b.inv1
 ⟨x,y,by refine e.symm▸?_; refine e'.symm▸?_; with_reducible rfl,a,b⟩

noncomputable def zaL (o:Obj):Prop:=(o.cls=.type "tuple" ∧ ∃ xs n,o.data=.seq xs n)∨(o.cls=.type "range" ∧ ∃ f,o.data=.fields f)
noncomputable def zb2 (h h':Heap):Prop:=∀ b o,h.get? b=some o→zaL o→h'.get? b=some o
theorem zb2.of_sub {h h':Heap} (k:h.StaysIn h'):zb2 h h':=fun b o e ua=>k b o e

section
variable {F:Nat→Option Addr}{m m':AM}{h h':Heap}
theorem zcD {m m':AM} (p:m <+: m') {n:Nat}{q:Addr×List Addr} (e:m[n]?=some q):m'[n]?=some q:=by
 refine zaF p ?_
 clear p
 intro r ee0
 subst ee0
 obtain⟨hl,_⟩:=List.getElem?_eq_some_iff.mp e
 refine(List.getElem?_append_left hl).symm▸?_; exact e
theorem Rep.ext (p:m <+: m') (k:zb2 h h') {x:Value}{v:V} (r:Rep F m h x v):Rep F m' h' x v:=
 Rep.rec (motive_1:=fun x v ua=>Rep F m' h' x v) (motive_2:=fun xs vs ua=>Reps F m' h' xs vs) .none .bool .int .any .str (fun e ua r=>.tup (k _ _ e (.inl ⟨rfl,_,_,rfl⟩)) r) (fun e=>.loc (zcD p e)) .fn (fun e=>.rng (k _ _ e (.inr ⟨rfl,_,rfl⟩))) .nil (fun ua ub a b=>.cons a b) r
theorem Reps.ext (p:m <+: m') (k:zb2 h h') {xs:List Value}{vs:List V} (r:Reps F m h xs vs):Reps F m' h' xs vs:=
 Reps.rec (motive_1:=fun x v ua=>Rep F m' h' x v) (motive_2:=fun xs vs ua=>Reps F m' h' xs vs) .none .bool .int .any .str (fun e ua r=>.tup (k _ _ e (.inl ⟨rfl,_,_,rfl⟩)) r) (fun e=>.loc (zcD p e)) .fn (fun e=>.rng (k _ _ e (.inr ⟨rfl,_,rfl⟩))) .nil (fun ua ub a b=>.cons a b) r
theorem Reps.ind {P:List Value→List V→Prop} (z:P [] []) (c:∀ {x:Value}{v:V}{xs:List Value}{vs:List V},Rep F m h x v→Reps F m h xs vs→P xs vs→P (x::xs) (v::vs)) {xs:List Value}{vs:List V} (r:Reps F m h xs vs):P xs vs:=
 Reps.rec (motive_1:=fun ua ub uc=>True) (motive_2:=fun xs vs ua=>P xs vs) trivial (fun ua=>trivial) (fun ua ub=>trivial) (fun ua ub=>trivial) (fun ua ub=>trivial) (fun ua ub uc=>trivial) (fun ua=>trivial) (fun ua=>trivial) (fun ua=>trivial) z (fun a b ua i=>c a b i) r
theorem Reps.length {xs:List Value}{vs:List V} (r:Reps F m h xs vs):xs.length=vs.length:=r.ind (P:=fun xs vs=>xs.length=vs.length) rfl fun ua ub i=>congrArg (·+1) i
theorem Reps.get {xs:List Value}{vs:List V}{v:V} (i:Nat) (r:Reps F m h xs vs):vs[i]?=some v→∃ x,xs[i]?=some x∧Rep F m h x v:=
 r.ind (P:=fun xs vs=>∀ i,vs[i]?=some v→∃ x,xs[i]?=some x∧Rep F m h x v) (fun ua e=>zaA e) (fun{x v xs vs} a _ ih i=>by
  induction i using Nat.casesOn with
  | zero=>intro e; have e:=Option.some.inj e; subst e; exact zc1 x rfl a
  | succ i=>exact ih i) i
theorem Reps.append {xs ys:List Value}{vs us:List V} (r:Reps F m h xs vs) (s:Reps F m h ys us):Reps F m h (xs++ys) (vs++us):=r.ind (P:=fun xs vs=>Reps F m h (xs++ys) (vs++us)) s fun a ua i=>.cons a i
theorem Reps.one {x:Value}{v:V} (r:Rep F m h x v):Reps F m h [x] [v]:=.cons r .nil
theorem Reps.take {xs:List Value}{vs:List V} (n:Nat) (r:Reps F m h xs vs):Reps F m h (xs.take n) (vs.take n):=
 r.ind (P:=fun xs vs=>∀ n,Reps F m h (xs.take n) (vs.take n)) (fun n=>by rw[List.take_nil,List.take_nil]; exact .nil) (fun a ua ih n=>by
  induction n using Nat.casesOn with
  | zero=>exact .nil
  | succ n=>exact .cons a (ih n)) n
theorem Reps.drop {xs:List Value}{vs:List V} (n:Nat) (r:Reps F m h xs vs):Reps F m h (xs.drop n) (vs.drop n):=
 r.ind (P:=fun xs vs=>∀ n,Reps F m h (xs.drop n) (vs.drop n)) (fun n=>by rw[List.drop_nil,List.drop_nil]; exact .nil) (fun a b ih n=>by
  induction n using Nat.casesOn with
  | zero=>exact .cons a b
  | succ n=>exact ih n) n
theorem Reps.set {x:Value}{v:V} (r:Rep F m h x v) {xs:List Value}{vs:List V} (n:Nat) (rs:Reps F m h xs vs):Reps F m h (xs.set n x) (vs.set n v):=
 rs.ind (P:=fun xs vs=>∀ n,Reps F m h (xs.set n x) (vs.set n v)) (fun ua=>.nil) (fun a b ih n=>by
  induction n using Nat.casesOn with
  | zero=>exact .cons r b
  | succ n=>exact .cons a (ih n)) n
end

structure Ext (m m':AM) (h h':Heap):Prop where
 pre:m <+: m'
 keep:∀ (b:Addr) (o:Obj),h.get? b=some o→¬ Mut m b→h'.get? b=some o
 fresh:∀ b,Mut m' b→Mut m b∨h.get? b=none

theorem Mut.mono {m m':AM} (p:m <+: m') {b:Addr} (x:Mut m b):Mut m' b:=by
 refine zao x ?_
 clear x
 intro q hq hb
 refine zaF p ?_
 clear p
 intro r ee0
 subst ee0
 exact zc1 q (List.mem_append_left _ hq) hb
theorem Ext.refl (m:AM) (h:Heap):Ext m m h h:=⟨List.prefix_rfl,fun ua ub e uc=>e,fun ua x=>.inl x⟩
theorem Ext.notMut {m m':AM}{h h':Heap} (x:Ext m m' h h') {b:Addr}{o:Obj} (hb:h.get? b=some o) (n:¬ Mut m b):¬ Mut m' b:=fun q=>by
 refine Or.elim (x.fresh b q) ?_ ?_
 intro q
 rotate_left
 intro q
 rotate_left
 ·exact n q
 ·replace q:=hb▸q; exact zhy q
theorem Ext.trans {m m' m'':AM}{h h' h'':Heap} (x:Ext m m' h h') (y:Ext m' m'' h' h''):Ext m m'' h h'':=
 ⟨x.pre.trans y.pre,fun b o e n=>y.keep b o (x.keep b o e n) (x.notMut e n),fun b q=>by
  refine Or.elim (y.fresh b q) ?_ ?_
  intro q
  rotate_left
  intro q
  rotate_left
  ·exact x.fresh b q
  ·by_cases hm:Mut m b
   ·exact .inl hm
   ·induction e:h.get? b using Option.casesOn with
    | none=>exact .inr rfl
    | some o=>rw[x.keep b o e hm] at q; exact zhy q⟩
theorem Ext.of_sub {m:AM}{h h':Heap} (k:h.StaysIn h'):Ext m m h h':=⟨List.prefix_rfl,fun b o e ua=>k b o e,fun ua x=>.inl x⟩

theorem zaJ (h:Heap) (o:Obj):h.StaysIn (h.push o):=fun ua ub e=>Heap.get?_push_of_some o e
theorem zbD (h:Heap):h.get? h.objs.size=none:=by
 induction e:h.get? h.objs.size using Option.casesOn with
 | none=>rfl
 | some o=>exact absurd (Heap.lt_size e) (Nat.lt_irrefl _)
theorem zcJ (h:Heap) {b:Nat} (hb:h.objs.size≤b):h.get? b=none:=by
 induction e:h.get? b using Option.casesOn with
 | none=>rfl
 | some o=>exact absurd (Heap.lt_size e) (Nat.not_lt.mpr hb)

set_option genInjectivity false in
structure Stat where
 prog:Program
 w:World
 K:Frag
 p:Program
 loose:List Str
 mg:Str→Option Value
 mb:Str→Option Value
 base:Heap
 T:Tab
 WC:Addr
 GF:Addr

noncomputable def Stat.F (X:Stat) (n:Nat):Option Addr:=(X.T.fns[n]?).map (·.addr)

noncomputable def zae:Nat→Str
 | 0=>"rows"
 | _=>"at"

section
variable (X:Stat)
noncomputable def zlj (m:AM) (h:Heap):List DictEntry→List (List Nat×V)→Prop
 | [],[]=>True
 | e::es,(k,v)::r=>((∃ t,e.key=.str (zaa k) t)∧Rep X.F m h e.val v)∧zlj m h es r
 | _,_=>False

noncomputable def zf7 (m:AM) (h:Heap):List DictEntry→List (Nat×V)→Prop
 | [],[]=>True
 | e::es,(k,v)::r=>(k < 2∧(∃ t,e.key=.str (zae k) t)∧Rep X.F m h e.val v)∧zf7 m h es r
 | _,_=>False

structure IsW (h:Heap) (x dx:Addr) (es:List DictEntry) (n:Nat):Prop where
 ob:h.get? x=some (instObj X.WC dx)
 di:h.get? dx=some (dictOf es n)

noncomputable def zf8 (m:AM) (h:Heap) (p:Addr×List Addr):C→Prop
 | .list vs=>p.2=[p.1]∧∃ xs n,h.get? p.1=some (zdh xs n)∧Reps X.F m h xs vs
 | .dict kvs=>p.2=[p.1]∧∃ o es n,h.get? p.1=some o∧o.cls=.type "dict" ∧ o.data=.dict es n∧zlj X m h es.toList kvs
 | .inst as=>∃ dx es n,p.2=[p.1,dx]∧dx≠p.1∧IsW X h p.1 dx es n∧zf7 X m h es as∧as.length≤2
 | .words rest=>∃ dx rl es n L i xs nn,p.2=[p.1,dx,rl]∧dx≠p.1∧rl≠p.1∧rl≠dx∧IsW X h p.1 dx es n ∧
   (∃ t1 t2 t3 h1 h2,es=[⟨h1,.str (zae 0) t1,.ref rl⟩,⟨h2,.str (zae 1) t2,.int (i:Nat) t3⟩]) ∧
   h.get? rl=some (zdh xs nn)∧Reps X.F [] h xs L∧L.drop i=rest∧rest≠[]∧zbC L=true∧L.length≤LIM∧L.all zpD=true

structure Sto (m:AM) (h:Heap) (σ:List C):Prop where
 len:m.length=σ.length
 rep:∀ (n:Nat) (p:Addr×List Addr) (c:C),m[n]?=some p→σ[n]?=some c→zf8 X m h p c
 own:∀ p∈m,p.1∈p.2∧∀ b∈p.2,X.base.get? b=none∧∃ o,h.get? b=some o∧¬ zaL o
 apart:∀ (i j:Nat) (p q:Addr×List Addr),i≠j→m[i]?=some p→m[j]?=some q→∀ b∈p.2,b ∉ q.2
end

section
variable {X:Stat}{m m':AM}{h h':Heap}{σ:List C}
theorem zlj.ext (p:m <+: m') (k:zb2 h h'):∀ {es:List DictEntry}{kvs:List (List Nat×V)},zlj X m h es kvs→zlj X m' h' es kvs
 | [],[],_=>trivial
 | _::_,(_,_)::_,⟨⟨b,c⟩,r⟩=>⟨⟨b,c.ext p k⟩,zlj.ext p k r⟩
 | [],_::_,x=>x.elim
 | _::_,[],x=>x.elim
theorem zf7.ext (p:m <+: m') (k:zb2 h h'):∀ {es:List DictEntry}{as:List (Nat×V)},zf7 X m h es as→zf7 X m' h' es as
 | [],[],_=>trivial
 | _::_,(_,_)::_,⟨⟨a,b,c⟩,r⟩=>⟨⟨a,b,c.ext p k⟩,zf7.ext p k r⟩
 | [],_::_,x=>x.elim
 | _::_,[],x=>x.elim
theorem IsW.keep {x dx:Addr}{es:List DictEntry}{n:Nat} (I:IsW X h x dx es n) (k1:∀ o,h.get? x=some o→h'.get? x=some o) (k2:∀ o,h.get? dx=some o→h'.get? dx=some o):IsW X h' x dx es n:=
 ⟨k1 _ I.ob,k2 _ I.di⟩
theorem zf8.ext (p:m <+: m') (k:zb2 h h') {q:Addr×List Addr}{c:C} (x:zf8 X m h q c) (hq:q.1∈q.2) (hk:∀ b∈q.2,∀ o,h.get? b=some o→h'.get? b=some o):zf8 X m' h' q c:=by
 refine bc fun hN=>?_
 induction c using C.casesOn with
 | list vs=>refine zaW x ?_; clear x; intro a rst; refine zaZ rst ?_; clear rst; intro xs n b e; refine hN ?_; exact⟨a,xs,n,hk _ hq _ b,e.ext p k⟩
 | dict kvs=>refine zaW x ?_; clear x; intro a rst; refine zeC rst ?_; clear rst; intro o es n b c d e; refine hN ?_; exact⟨a,o,es,n,hk _ hq _ b,c,d,e.ext p k⟩
 | inst as=>refine zo0 x ?_; clear x; intro dx es n a ne b c d; refine hN ?_; exact ztD dx es n a ne (b.keep (hk _ hq) (hk _ (by refine a.symm▸?_; exact List.mem_cons_of_mem _ (List.mem_cons_self ..)))) (c.ext p k) d
 | words rest=>
  refine zvf x ?_
  clear x
  intro dx rl es n L i xs nn a n1 n2 n3 b c e f g
  refine hN ?_
  exact⟨dx,rl,es,n,L,i,xs,nn,a,n1,n2,n3,b.keep (hk _ hq) (hk _ (by refine a.symm▸?_; exact List.mem_cons_of_mem _ (List.mem_cons_self ..))),c,hk _ (by refine a.symm▸?_; exact List.mem_cons_of_mem _ (List.mem_cons_of_mem _ (List.mem_cons_self ..))) _ e,f.ext List.prefix_rfl k,g⟩
theorem zai {α:Type}{l:List α}{n:Nat}{a:α} (e:l[n]?=some a):a∈l:=List.mem_of_getElem? e
theorem Sto.frz (S:Sto X m h σ) {b:Addr}{o:Obj} (q:Mut m b) (e:h.get? b=some o):¬ zaL o:=by
 refine bc fun hN=>?_
 refine zao q ?_
 clear q
 intro p hp hb
 refine zaW ((S.own p hp).2 b hb) fun ua rst=>?_
 refine zao rst ?_
 clear rst
 intro o' e' f
 replace e':=e▸e'; have ee:=Option.some.inj e'; clear e'; subst ee; refine hN ?_; exact f
theorem Sto.keepT (S:Sto X m h σ) (x:Ext m m' h h'):zb2 h h':=fun b o e f=>x.keep b o e fun q=>S.frz q e f
theorem Sto.live (S:Sto X m h σ) {b:Addr} (q:Mut m b):∃ o,h.get? b=some o:=by
 refine bc fun hN=>?_
 refine zao q ?_
 clear q
 intro p hp hb
 refine zaW ((S.own p hp).2 b hb) fun ua rst=>?_
 refine zao rst ?_
 clear rst
 intro o' e' _
 refine hN ?_
 exact⟨o',e'⟩
theorem Sto.ge (S:Sto X m h σ) {b:Addr} (q:Mut m b):X.base.get? b=none:=by
 refine zao q ?_
 clear q
 intro p hp hb
 exact((S.own p hp).2 b hb).1

theorem Sto.calm (S:Sto X m h σ) (k:zb2 h h') (u:∀ b,Mut m b→∀ o,h.get? b=some o→h'.get? b=some o):Sto X m h' σ:=
 ⟨S.len,fun n p c e1 e2=>(S.rep n p c e1 e2).ext List.prefix_rfl k (S.own p (zai e1)).1 fun b hb o e=>u b ⟨p,zai e1,hb⟩ o e,
  fun p hp=>⟨(S.own p hp).1,fun b hb=>let ⟨x,o,e,f⟩:=(S.own p hp).2 b hb; ⟨x,o,u b ⟨p,hp,hb⟩ o e,f⟩⟩,S.apart⟩
theorem Sto.sub (S:Sto X m h σ) (k:h.StaysIn h'):Sto X m h' σ:=S.calm (.of_sub k) fun b ua o e=>k b o e

theorem Mut.push {q:Addr×List Addr}{b:Addr}:Mut (m++[q]) b↔Mut m b∨b∈q.2:=by
 constructor
 ·rintro⟨p,hp,hb⟩
  rcases List.mem_append.mp hp with hp | hp
  ·exact .inl ⟨p,hp,hb⟩
  ·rw[List.mem_singleton.mp hp] at hb; exact .inr hb
 ·rintro(⟨p,hp,hb⟩ | hb)
  ·exact zc1 p (List.mem_append_left _ hp) hb
  ·exact zc1 q (List.mem_append_right _ (List.mem_singleton.mpr rfl)) hb

theorem Sto.adopt (S:Sto X m h σ) {q:Addr×List Addr}{c:C} (hq:q.1∈q.2) (hn:∀ b∈q.2,¬ Mut m b∧X.base.get? b=none∧∃ o,h.get? b=some o∧¬ zaL o)
  (r:zf8 X (m++[q]) h q c):Sto X (m++[q]) h (σ++[c]):=by
 have pr:m <+: m++[q]:=List.prefix_append ..
 refine⟨by simp[S.len],fun n p d e1 e2=>?_,fun p hp=>?_,fun i j p p' ij e1 e2 b h1 h2=>?_⟩
 ·by_cases hnl:n < m.length
  ·rw[List.getElem?_append_left hnl] at e1
   rw[List.getElem?_append_left (S.len▸hnl)] at e2
   exact(S.rep n p d e1 e2).ext pr (.of_sub fun ua ub e=>e) (S.own p (zai e1)).1 fun ua ub uc e=>e
  ·rw[List.getElem?_append_right (by exact Nat.le_of_not_lt ‹_›)] at e1
   rw[List.getElem?_append_right (by have:=S.len; omega)] at e2
   have hz:n-m.length=0:=by
    refine Or.elim (Nat.eq_zero_or_pos (n-m.length)) ?_ ?_
    intro z
    rotate_left
    intro z
    rotate_left
    ·exact z
    ·rw[List.getElem?_eq_none (by simp; assumption)] at e1; exact zaA e1
   have hz':n-σ.length=0:=by have:=S.len; omega
   rw[hz] at e1; rw[hz'] at e2
   have ee:=Option.some.inj e1; clear e1; subst ee; have ee:=Option.some.inj e2; clear e2; subst ee; exact r
 ·refine Or.elim (List.mem_append.mp hp) ?_ ?_
  intro hp
  rotate_left
  intro hp
  rotate_left
  ·exact S.own p hp
  ·rw[List.mem_singleton.mp hp]
   exact⟨hq,fun b hb'=>(hn b hb').2⟩
 ·have old:∀ (k:Nat) (p:Addr×List Addr) ,(m++[q])[k]?=some p→(k < m.length∧m[k]?=some p)∨(k=m.length∧p=q):=fun k p e=>by
   by_cases hk:k < m.length
   ·rw[List.getElem?_append_left hk] at e; exact .inl ⟨hk,e⟩
   ·rw[List.getElem?_append_right (by exact Nat.le_of_not_lt ‹_›)] at e
    have hz:k-m.length=0:=by
     refine Or.elim (Nat.eq_zero_or_pos (k-m.length)) ?_ ?_
     intro z
     rotate_left
     intro z
     rotate_left
     ·exact z
     ·rw[List.getElem?_eq_none (by simp; assumption)] at e; exact zaA e
    rw[hz] at e; have ee:=Option.some.inj e; clear e; subst ee; exact .inr ⟨by omega,rfl⟩
  rcases old i p e1 with ⟨_,a1⟩ | ⟨i1,rfl⟩ <;> (refine Or.elim (old j p' e2) ?_ ?_; intro nm; refine zaW nm ?_; clear nm; intro _ a2; rotate_left; intro nm; refine zaW nm ?_; clear nm; intro j1 ee0; subst ee0; rotate_left)
  ·exact S.apart i j p p' ij a1 a2 b h1 h2
  ·exact(hn b h2).1 ⟨p,zai a1,h1⟩
  ·exact(hn b h1).1 ⟨p',zai a2,h2⟩
  ·exact ij (i1.trans j1.symm)
theorem Sto.push (S:Sto X m h σ) (k:h.StaysIn h') {q:Addr×List Addr}{c:C} (hq:q.1∈q.2) (hn:∀ b∈q.2,h.get? b=none∧∃ o,h'.get? b=some o∧¬ zaL o) (hb:X.base.StaysIn h)
  (r:zf8 X (m++[q]) h' q c):Sto X (m++[q]) h' (σ++[c]):=
 (S.sub k).adopt hq (fun b hb'=>⟨(fun hm=>by refine zaF (S.live hm) fun o e=>?_; rw[(hn b hb').1] at e; exact zaA e),(by
  induction e:X.base.get? b using Option.casesOn with
  | none=>rfl
  | some o=>have:=(hn b hb').1; rw[hb b o e] at this; exact zhy this),(hn b hb').2⟩) r

theorem Ext.push (k:h.StaysIn h') {q:Addr×List Addr} (hn:∀ b∈q.2,h.get? b=none):Ext m (m++[q]) h h':=
 ⟨List.prefix_append ..,fun b o e ua=>k b o e,fun b hb=>(Mut.push.mp hb).imp_right (hn b)⟩

theorem Sto.put (S:Sto X m h σ) {n:Nat}{p:Addr×List Addr}{c:C} (e:m[n]?=some p) (k:∀ b o,h.get? b=some o→b ∉ p.2→h'.get? b=some o)
  (hn:∀ b∈p.2,∃ o,h'.get? b=some o∧¬ zaL o) (r:zf8 X m h' p c):Sto X m h' (σ.set n c):=by
 have kt:zb2 h h':=fun b o e' f=>k b o e' fun hb=>S.frz ⟨p,zai e,hb⟩ e' f
 refine⟨by simp[S.len],fun j q d e1 e2=>?_,fun q hq=>⟨(S.own q hq).1,fun b hb=>?_⟩,S.apart⟩
 ·refine bc fun hN=>?_
  by_cases hj:n=j
  ·subst hj
   rw[e] at e1; have ee:=Option.some.inj e1; clear e1; subst ee
   rw[List.getElem?_set] at e2
   simp only[if_true] at e2
   split at e2
   ·have ee:=Option.some.inj e2; clear e2; subst ee; refine hN ?_; exact r
   ·exact zaA e2
  ·rw[List.getElem?_set_ne hj] at e2
   refine hN ?_
   exact(S.rep j q d e1 e2).ext List.prefix_rfl kt (S.own q (zai e1)).1 fun b hb o e'=>k b o e' (S.apart j n q p (Ne.symm hj) e1 e b hb)
 ·refine bc fun hN=>?_
  refine zaW ((S.own q hq).2 b hb) fun x rst=>?_
  refine zao rst ?_
  clear rst
  intro o e' f
  by_cases hp:b∈p.2
  ·refine hN ?_
   exact⟨x,hn b hp⟩
  ·refine hN ?_
   exact⟨x,o,k b o e' hp,f⟩
theorem Ext.put {p:Addr×List Addr} (hp:p∈m) (k:∀ b o,h.get? b=some o→b ∉ p.2→h'.get? b=some o):Ext m m h h':=
 ⟨List.prefix_rfl,fun b o e n=>k b o e fun q=>n ⟨p,hp,q⟩,fun ua x=>.inl x⟩
end
end
section
open W Calls PyProof.Rows
noncomputable def nm (l:List Nat) (x:Str):Bool:=zan l x.cps.toList
theorem zcK:∀ {a b:List Nat},zan a b=true↔a=b
 | [],[]=>⟨fun ua=>rfl,fun ua=>rfl⟩
 | [],_::_=>⟨fun h=>(nomatch h),fun h=>(nomatch h)⟩
 | _::_,[]=>⟨fun h=>(nomatch h),fun h=>(nomatch h)⟩
 | a::as,b::bs=>by
  show(Nat.beq a b&&zan as bs)=true↔_
  rw[Bool.and_eq_true,zcK,List.cons.injEq]
  exact⟨fun h=>⟨Nat.eq_of_beq_eq_true h.1,h.2⟩,fun h=>⟨h.1▸Nat.beq_refl a,h.2⟩⟩
theorem zdj {l:List Nat}{x:Str}:nm l x=true↔x=zaa l:=by
 unfold nm
 rw[zcK]
 constructor
 ·rintro rfl; rfl
 ·rintro rfl; rfl

noncomputable def zgW (sc:Scope) (x:Str):Bool:=match sc.names.lookup x with
 | some .local | some .cell | some .free=>true
 | _=>false
noncomputable def zlk (sc:Scope) (x:Str):Bool:=match sc.names.lookup x with
 | some .globalImplicit=>true
 | _=>false
noncomputable def zc4 (x:Str):Bool:=!(x == ("__debug__" : Str))&&!(x == ("__classdict__" : Str))
noncomputable def dSc:Scope:=⟨.function,[],false,false,[]⟩
noncomputable def dE:Expr:=.Name ⟨#[]⟩ ⟨0,0,0,0⟩
noncomputable def e1 (e:Expr):Expr:=@Expr.casesOn (fun ua=>Expr) e (fun a b c=>dE) (fun a b c=>dE) (fun x b c d=>x) (fun a x c=>x) (fun a b c d=>dE) (fun x b c d=>x) (fun a b c=>dE) (fun a b c=>dE) (fun x b c d=>x) (fun a b c d=>dE) (fun a b c d e=>dE) (fun a b c d=>dE) (fun a b=>dE) (fun a b=>dE) (fun a b=>dE) (fun x b c d=>x) (fun x b c d=>x) (fun a b c d=>dE) (fun a b=>dE) (fun a b c=>dE) (fun x b c=>x) (fun x b c=>x) (fun a b=>dE) (fun a b=>dE) (fun a b=>dE) (fun a b c=>dE) (fun a b c d=>dE)
noncomputable def e2 (e:Expr):Expr:=@Expr.casesOn (fun ua=>Expr) e (fun a b c=>dE) (fun a b c=>dE) (fun a b x d=>x) (fun a b c=>dE) (fun a b c d=>dE) (fun a x c d=>x) (fun a b c=>dE) (fun a b c=>dE) (fun a b c d=>dE) (fun a b c d=>dE) (fun a b c d e=>dE) (fun a b c d=>dE) (fun a b=>dE) (fun a b=>dE) (fun a b=>dE) (fun a b c d=>dE) (fun a b c d=>dE) (fun a b c d=>dE) (fun a b=>dE) (fun a b c=>dE) (fun a b c=>dE) (fun a x c=>x) (fun a b=>dE) (fun a b=>dE) (fun a b=>dE) (fun a b c=>dE) (fun a b c d=>dE)
noncomputable def e3 (e:Expr):Expr:=@Expr.casesOn (fun ua=>Expr) e (fun a b c=>dE) (fun a b c=>dE) (fun a b c d=>dE) (fun a b c=>dE) (fun a b c d=>dE) (fun a b x d=>x) (fun a b c=>dE) (fun a b c=>dE) (fun a b c d=>dE) (fun a b c d=>dE) (fun a b c d e=>dE) (fun a b c d=>dE) (fun a b=>dE) (fun a b=>dE) (fun a b=>dE) (fun a b c d=>dE) (fun a b c d=>dE) (fun a b c d=>dE) (fun a b=>dE) (fun a b c=>dE) (fun a b c=>dE) (fun a b c=>dE) (fun a b=>dE) (fun a b=>dE) (fun a b=>dE) (fun a b c=>dE) (fun a b c d=>dE)
noncomputable def l1 (e:Expr):List Expr:=@Expr.casesOn (fun ua=>List Expr) e (fun a x c=>x) (fun a b c=>[]) (fun a b c d=>[]) (fun a b c=>[]) (fun a b c d=>[]) (fun a b c d=>[]) (fun a x c=>x) (fun a b c=>[]) (fun a b c d=>[]) (fun a b c d=>[]) (fun a b c d e=>[]) (fun a b c d=>[]) (fun a b=>[]) (fun a b=>[]) (fun a b=>[]) (fun a b x d=>x) (fun a x c d=>x) (fun a b c d=>[]) (fun a b=>[]) (fun a b c=>[]) (fun a b c=>[]) (fun a b c=>[]) (fun a b=>[]) (fun a b=>[]) (fun x b=>x) (fun x b c=>x) (fun a b c d=>[])
noncomputable def nmE (e:Expr):Str:=@Expr.casesOn (fun ua=>Str) e (fun a b c=>⟨#[]⟩) (fun a b c=>⟨#[]⟩) (fun a b c d=>⟨#[]⟩) (fun a b c=>⟨#[]⟩) (fun a b c d=>⟨#[]⟩) (fun a b c d=>⟨#[]⟩) (fun a b c=>⟨#[]⟩) (fun a b c=>⟨#[]⟩) (fun a b c d=>⟨#[]⟩) (fun a b c d=>⟨#[]⟩) (fun a b c d e=>⟨#[]⟩) (fun a b c d=>⟨#[]⟩) (fun a b=>⟨#[]⟩) (fun a b=>⟨#[]⟩) (fun a b=>⟨#[]⟩) (fun a b c d=>⟨#[]⟩) (fun a b c d=>⟨#[]⟩) (fun a b c d=>⟨#[]⟩) (fun a b=>⟨#[]⟩) (fun a b c=>⟨#[]⟩) (fun a x c=>x) (fun a b c=>⟨#[]⟩) (fun a b=>⟨#[]⟩) (fun x b=>x) (fun a b=>⟨#[]⟩) (fun a b c=>⟨#[]⟩) (fun a b c d=>⟨#[]⟩)
noncomputable def zpG (e:Expr):List (Option Expr):=@Expr.casesOn (fun ua=>List (Option Expr)) e (fun a b c=>[]) (fun a b c=>[]) (fun a b c d=>[]) (fun a b c=>[]) (fun a b c d=>[]) (fun a b c d=>[]) (fun x b c=>x) (fun a b c=>[]) (fun a b c d=>[]) (fun a b c d=>[]) (fun a b c d e=>[]) (fun a b c d=>[]) (fun a b=>[]) (fun a b=>[]) (fun a b=>[]) (fun a b c d=>[]) (fun a b c d=>[]) (fun a b c d=>[]) (fun a b=>[]) (fun a b c=>[]) (fun a b c=>[]) (fun a b c=>[]) (fun a b=>[]) (fun a b=>[]) (fun a b=>[]) (fun a b c=>[]) (fun a b c d=>[])
noncomputable def zjt (e:Expr):List Keyword:=@Expr.casesOn (fun ua=>List Keyword) e (fun a b c=>[]) (fun a b c=>[]) (fun a b c d=>[]) (fun a b c=>[]) (fun a b c d=>[]) (fun a b c d=>[]) (fun a b c=>[]) (fun a b c=>[]) (fun a b c d=>[]) (fun a b c d=>[]) (fun a b c d e=>[]) (fun a b c d=>[]) (fun a b=>[]) (fun a b=>[]) (fun a b=>[]) (fun a b c d=>[]) (fun a b x d=>x) (fun a b c d=>[]) (fun a b=>[]) (fun a b c=>[]) (fun a b c=>[]) (fun a b c=>[]) (fun a b=>[]) (fun a b=>[]) (fun a b=>[]) (fun a b c=>[]) (fun a b c d=>[])
noncomputable def zuL (e:Expr):List CmpOp:=@Expr.casesOn (fun ua=>List CmpOp) e (fun a b c=>[]) (fun a b c=>[]) (fun a b c d=>[]) (fun a b c=>[]) (fun a b c d=>[]) (fun a b c d=>[]) (fun a b c=>[]) (fun a b c=>[]) (fun a b c d=>[]) (fun a b c d=>[]) (fun a b c d e=>[]) (fun a b c d=>[]) (fun a b=>[]) (fun a b=>[]) (fun a b=>[]) (fun a x c d=>x) (fun a b c d=>[]) (fun a b c d=>[]) (fun a b=>[]) (fun a b c=>[]) (fun a b c=>[]) (fun a b c=>[]) (fun a b=>[]) (fun a b=>[]) (fun a b=>[]) (fun a b c=>[]) (fun a b c d=>[])
noncomputable def zuM (e:Expr):BoolOp:=@Expr.casesOn (fun ua=>BoolOp) e (fun x b c=>x) (fun a b c=>.And) (fun a b c d=>.And) (fun a b c=>.And) (fun a b c d=>.And) (fun a b c d=>.And) (fun a b c=>.And) (fun a b c=>.And) (fun a b c d=>.And) (fun a b c d=>.And) (fun a b c d e=>.And) (fun a b c d=>.And) (fun a b=>.And) (fun a b=>.And) (fun a b=>.And) (fun a b c d=>.And) (fun a b c d=>.And) (fun a b c d=>.And) (fun a b=>.And) (fun a b c=>.And) (fun a b c=>.And) (fun a b c=>.And) (fun a b=>.And) (fun a b=>.And) (fun a b=>.And) (fun a b c=>.And) (fun a b c d=>.And)
noncomputable def ztJ (e:Expr):UnaryOp:=@Expr.casesOn (fun ua=>UnaryOp) e (fun a b c=>.Not) (fun a b c=>.Not) (fun a b c d=>.Not) (fun x b c=>x) (fun a b c d=>.Not) (fun a b c d=>.Not) (fun a b c=>.Not) (fun a b c=>.Not) (fun a b c d=>.Not) (fun a b c d=>.Not) (fun a b c d e=>.Not) (fun a b c d=>.Not) (fun a b=>.Not) (fun a b=>.Not) (fun a b=>.Not) (fun a b c d=>.Not) (fun a b c d=>.Not) (fun a b c d=>.Not) (fun a b=>.Not) (fun a b c=>.Not) (fun a b c=>.Not) (fun a b c=>.Not) (fun a b=>.Not) (fun a b=>.Not) (fun a b=>.Not) (fun a b c=>.Not) (fun a b c d=>.Not)
noncomputable def zuN (e:Expr):Operator:=@Expr.casesOn (fun ua=>Operator) e (fun a b c=>.Add) (fun a b c=>.Add) (fun a x c d=>x) (fun a b c=>.Add) (fun a b c d=>.Add) (fun a b c d=>.Add) (fun a b c=>.Add) (fun a b c=>.Add) (fun a b c d=>.Add) (fun a b c d=>.Add) (fun a b c d e=>.Add) (fun a b c d=>.Add) (fun a b=>.Add) (fun a b=>.Add) (fun a b=>.Add) (fun a b c d=>.Add) (fun a b c d=>.Add) (fun a b c d=>.Add) (fun a b=>.Add) (fun a b c=>.Add) (fun a b c=>.Add) (fun a b c=>.Add) (fun a b=>.Add) (fun a b=>.Add) (fun a b=>.Add) (fun a b c=>.Add) (fun a b c d=>.Add)
noncomputable def zry (e:Expr):Const:=@Expr.casesOn (fun ua=>Const) e (fun a b c=>.none) (fun a b c=>.none) (fun a b c d=>.none) (fun a b c=>.none) (fun a b c d=>.none) (fun a b c d=>.none) (fun a b c=>.none) (fun a b c=>.none) (fun a b c d=>.none) (fun a b c d=>.none) (fun a b c d e=>.none) (fun a b c d=>.none) (fun a b=>.none) (fun a b=>.none) (fun a b=>.none) (fun a b c d=>.none) (fun a b c d=>.none) (fun a b c d=>.none) (fun a b=>.none) (fun x b c=>x) (fun a b c=>.none) (fun a b c=>.none) (fun a b=>.none) (fun a b=>.none) (fun a b=>.none) (fun a b c=>.none) (fun a b c d=>.none)
noncomputable def zpH (e:Expr):List Comprehension:=@Expr.casesOn (fun ua=>List Comprehension) e (fun a b c=>[]) (fun a b c=>[]) (fun a b c d=>[]) (fun a b c=>[]) (fun a b c d=>[]) (fun a b c d=>[]) (fun a b c=>[]) (fun a b c=>[]) (fun a x c d=>x) (fun a b c d=>[]) (fun a b c d e=>[]) (fun a b c d=>[]) (fun a b=>[]) (fun a b=>[]) (fun a b=>[]) (fun a b c d=>[]) (fun a b c d=>[]) (fun a b c d=>[]) (fun a b=>[]) (fun a b c=>[]) (fun a b c=>[]) (fun a b c=>[]) (fun a b=>[]) (fun a b=>[]) (fun a b=>[]) (fun a b c=>[]) (fun a b c d=>[])
noncomputable def scE (e:Expr):Scope:=@Expr.casesOn (fun ua=>Scope) e (fun a b c=>dSc) (fun a b c=>dSc) (fun a b c d=>dSc) (fun a b c=>dSc) (fun a b c d=>dSc) (fun a b c d=>dSc) (fun a b c=>dSc) (fun a b c=>dSc) (fun a b x d=>x) (fun a b c d=>dSc) (fun a b c d e=>dSc) (fun a b c d=>dSc) (fun a b=>dSc) (fun a b=>dSc) (fun a b=>dSc) (fun a b c d=>dSc) (fun a b c d=>dSc) (fun a b c d=>dSc) (fun a b=>dSc) (fun a b c=>dSc) (fun a b c=>dSc) (fun a b c=>dSc) (fun a b=>dSc) (fun a b=>dSc) (fun a b=>dSc) (fun a b c=>dSc) (fun a b c d=>dSc)
noncomputable def nE (e:Expr):Nat:=@Expr.casesOn (fun ua=>Nat) e (fun a b c=>0) (fun a b c=>0) (fun a b c d=>0) (fun a b c=>0) (fun a b c d=>0) (fun a b c d=>0) (fun a b c=>0) (fun a b c=>0) (fun a b c d=>0) (fun a b c d=>0) (fun a b c d e=>0) (fun a b c d=>0) (fun a b=>0) (fun a b=>0) (fun a b=>0) (fun a b c d=>0) (fun a b c d=>0) (fun a b c d=>0) (fun a b=>0) (fun a x c=>x) (fun a b c=>0) (fun a b c=>0) (fun a b=>0) (fun a b=>0) (fun a b=>0) (fun a x c=>x) (fun a b c d=>0)
noncomputable def loE (e:Expr):Option Expr:=@Expr.casesOn (fun ua=>Option Expr) e (fun a b c=>none) (fun a b c=>none) (fun a b c d=>none) (fun a b c=>none) (fun a b c d=>none) (fun a b c d=>none) (fun a b c=>none) (fun a b c=>none) (fun a b c d=>none) (fun a b c d=>none) (fun a b c d e=>none) (fun a b c d=>none) (fun a b=>none) (fun a b=>none) (fun a b=>none) (fun a b c d=>none) (fun a b c d=>none) (fun a b c d=>none) (fun a b=>none) (fun a b c=>none) (fun a b c=>none) (fun a b c=>none) (fun a b=>none) (fun a b=>none) (fun a b=>none) (fun a b c=>none) (fun x b c d=>x)
noncomputable def hiE (e:Expr):Option Expr:=@Expr.casesOn (fun ua=>Option Expr) e (fun a b c=>none) (fun a b c=>none) (fun a b c d=>none) (fun a b c=>none) (fun a b c d=>none) (fun a b c d=>none) (fun a b c=>none) (fun a b c=>none) (fun a b c d=>none) (fun a b c d=>none) (fun a b c d e=>none) (fun a b c d=>none) (fun a b=>none) (fun a b=>none) (fun a b=>none) (fun a b c d=>none) (fun a b c d=>none) (fun a b c d=>none) (fun a b=>none) (fun a b c=>none) (fun a b c=>none) (fun a b c=>none) (fun a b=>none) (fun a b=>none) (fun a b=>none) (fun a b c=>none) (fun a x c d=>x)
noncomputable def stE (e:Expr):Option Expr:=@Expr.casesOn (fun ua=>Option Expr) e (fun a b c=>none) (fun a b c=>none) (fun a b c d=>none) (fun a b c=>none) (fun a b c d=>none) (fun a b c d=>none) (fun a b c=>none) (fun a b c=>none) (fun a b c d=>none) (fun a b c d=>none) (fun a b c d e=>none) (fun a b c d=>none) (fun a b=>none) (fun a b=>none) (fun a b=>none) (fun a b c d=>none) (fun a b c d=>none) (fun a b c d=>none) (fun a b=>none) (fun a b c=>none) (fun a b c=>none) (fun a b c=>none) (fun a b=>none) (fun a b=>none) (fun a b=>none) (fun a b c=>none) (fun a b x d=>x)

noncomputable def v1 (e:Stmt):Expr:=@Stmt.casesOn (fun ua=>Expr) e (fun a b c d e f g h i j=>dE) (fun a b c d e f g h i j=>dE) (fun a b c d e f g h i j k=>dE) (fun a b=>dE) (fun a b=>dE) (fun a x c=>x) (fun a b c d e f g=>dE) (fun a b x d=>x) (fun a b c d e=>dE) (fun a x c d e=>x) (fun a b c d e=>dE) (fun x b c d=>x) (fun x b c d=>x) (fun a b c=>dE) (fun a b c=>dE) (fun a b c=>dE) (fun a b c=>dE) (fun a b c d e=>dE) (fun a b c d e=>dE) (fun a b c=>dE) (fun a b=>dE) (fun a b c d=>dE) (fun a b=>dE) (fun a b=>dE) (fun x b=>x) (fun a=>dE) (fun a=>dE) (fun a=>dE)
noncomputable def t1 (e:Stmt):Expr:=@Stmt.casesOn (fun ua=>Expr) e (fun a b c d e f g h i j=>dE) (fun a b c d e f g h i j=>dE) (fun a b c d e f g h i j k=>dE) (fun a b=>dE) (fun a b=>dE) (fun a b c=>dE) (fun a b c d e f g=>dE) (fun x b c d=>x) (fun a b c d e=>dE) (fun x b c d e=>x) (fun a b c d e=>dE) (fun a b c d=>dE) (fun a b c d=>dE) (fun a b c=>dE) (fun a b c=>dE) (fun a b c=>dE) (fun a b c=>dE) (fun a b c d e=>dE) (fun a b c d e=>dE) (fun a b c=>dE) (fun a b=>dE) (fun a b c d=>dE) (fun a b=>dE) (fun a b=>dE) (fun a b=>dE) (fun a=>dE) (fun a=>dE) (fun a=>dE)
noncomputable def tsS (e:Stmt):List Expr:=@Stmt.casesOn (fun ua=>List Expr) e (fun a b c d e f g h i j=>[]) (fun a b c d e f g h i j=>[]) (fun a b c d e f g h i j k=>[]) (fun a b=>[]) (fun a b=>[]) (fun x b c=>x) (fun a b c d e f g=>[]) (fun a b c d=>[]) (fun a b c d e=>[]) (fun a b c d e=>[]) (fun a b c d e=>[]) (fun a b c d=>[]) (fun a b c d=>[]) (fun a b c=>[]) (fun a b c=>[]) (fun a b c=>[]) (fun a b c=>[]) (fun a b c d e=>[]) (fun a b c d e=>[]) (fun a b c=>[]) (fun a b=>[]) (fun a b c d=>[]) (fun a b=>[]) (fun a b=>[]) (fun a b=>[]) (fun a=>[]) (fun a=>[]) (fun a=>[])
noncomputable def b1 (e:Stmt):List Stmt:=@Stmt.casesOn (fun ua=>List Stmt) e (fun a b c d e f g h i j=>[]) (fun a b c d e f g h i j=>[]) (fun a b c d e f g h i j k=>[]) (fun a b=>[]) (fun a b=>[]) (fun a b c=>[]) (fun a b c d e f g=>[]) (fun a b c d=>[]) (fun a b c d e=>[]) (fun a b x d e=>x) (fun a b c d e=>[]) (fun a x c d=>x) (fun a x c d=>x) (fun a b c=>[]) (fun a b c=>[]) (fun a b c=>[]) (fun a b c=>[]) (fun x b c d e=>x) (fun a b c d e=>[]) (fun a b c=>[]) (fun a b=>[]) (fun a b c d=>[]) (fun a b=>[]) (fun a b=>[]) (fun a b=>[]) (fun a=>[]) (fun a=>[]) (fun a=>[])
noncomputable def b2 (e:Stmt):List Stmt:=@Stmt.casesOn (fun ua=>List Stmt) e (fun a b c d e f g h i j=>[]) (fun a b c d e f g h i j=>[]) (fun a b c d e f g h i j k=>[]) (fun a b=>[]) (fun a b=>[]) (fun a b c=>[]) (fun a b c d e f g=>[]) (fun a b c d=>[]) (fun a b c d e=>[]) (fun a b c x e=>x) (fun a b c d e=>[]) (fun a b x d=>x) (fun a b x d=>x) (fun a b c=>[]) (fun a b c=>[]) (fun a b c=>[]) (fun a b c=>[]) (fun a b x d e=>x) (fun a b c d e=>[]) (fun a b c=>[]) (fun a b=>[]) (fun a b c d=>[]) (fun a b=>[]) (fun a b=>[]) (fun a b=>[]) (fun a=>[]) (fun a=>[]) (fun a=>[])
noncomputable def b3 (e:Stmt):List Stmt:=@Stmt.casesOn (fun ua=>List Stmt) e (fun a b c d e f g h i j=>[]) (fun a b c d e f g h i j=>[]) (fun a b c d e f g h i j k=>[]) (fun a b=>[]) (fun a b=>[]) (fun a b c=>[]) (fun a b c d e f g=>[]) (fun a b c d=>[]) (fun a b c d e=>[]) (fun a b c d e=>[]) (fun a b c d e=>[]) (fun a b c d=>[]) (fun a b c d=>[]) (fun a b c=>[]) (fun a b c=>[]) (fun a b c=>[]) (fun a b c=>[]) (fun a b c x e=>x) (fun a b c d e=>[]) (fun a b c=>[]) (fun a b=>[]) (fun a b c d=>[]) (fun a b=>[]) (fun a b=>[]) (fun a b=>[]) (fun a=>[]) (fun a=>[]) (fun a=>[])
noncomputable def opS (e:Stmt):Operator:=@Stmt.casesOn (fun ua=>Operator) e (fun a b c d e f g h i j=>.Add) (fun a b c d e f g h i j=>.Add) (fun a b c d e f g h i j k=>.Add) (fun a b=>.Add) (fun a b=>.Add) (fun a b c=>.Add) (fun a b c d e f g=>.Add) (fun a x c d=>x) (fun a b c d e=>.Add) (fun a b c d e=>.Add) (fun a b c d e=>.Add) (fun a b c d=>.Add) (fun a b c d=>.Add) (fun a b c=>.Add) (fun a b c=>.Add) (fun a b c=>.Add) (fun a b c=>.Add) (fun a b c d e=>.Add) (fun a b c d e=>.Add) (fun a b c=>.Add) (fun a b=>.Add) (fun a b c d=>.Add) (fun a b=>.Add) (fun a b=>.Add) (fun a b=>.Add) (fun a=>.Add) (fun a=>.Add) (fun a=>.Add)
noncomputable def sP (e:Stmt):Pos:=@Stmt.casesOn (fun ua=>Pos) e (fun a b c d e f g h i j=>⟨0,0,0,0⟩) (fun a b c d e f g h i j=>⟨0,0,0,0⟩) (fun a b c d e f g h i j k=>⟨0,0,0,0⟩) (fun a x=>x) (fun a b=>⟨0,0,0,0⟩) (fun a b x=>x) (fun a b c d e f g=>⟨0,0,0,0⟩) (fun a b c x=>x) (fun a b c d e=>⟨0,0,0,0⟩) (fun a b c d x=>x) (fun a b c d e=>⟨0,0,0,0⟩) (fun a b c x=>x) (fun a b c x=>x) (fun a b c=>⟨0,0,0,0⟩) (fun a b c=>⟨0,0,0,0⟩) (fun a b c=>⟨0,0,0,0⟩) (fun a b x=>x) (fun a b c d x=>x) (fun a b c d e=>⟨0,0,0,0⟩) (fun a b c=>⟨0,0,0,0⟩) (fun a b=>⟨0,0,0,0⟩) (fun a b c d=>⟨0,0,0,0⟩) (fun a b=>⟨0,0,0,0⟩) (fun a b=>⟨0,0,0,0⟩) (fun a x=>x) (fun a=>⟨0,0,0,0⟩) (fun x=>x) (fun a=>⟨0,0,0,0⟩)
noncomputable def o1 (e:Stmt):Option Expr:=@Stmt.casesOn (fun ua=>Option Expr) e (fun a b c d e f g h i j=>none) (fun a b c d e f g h i j=>none) (fun a b c d e f g h i j k=>none) (fun x b=>x) (fun a b=>none) (fun a b c=>none) (fun a b c d e f g=>none) (fun a b c d=>none) (fun a b c d e=>none) (fun a b c d e=>none) (fun a b c d e=>none) (fun a b c d=>none) (fun a b c d=>none) (fun a b c=>none) (fun a b c=>none) (fun a b c=>none) (fun x b c=>x) (fun a b c d e=>none) (fun a b c d e=>none) (fun a b c=>none) (fun a b=>none) (fun a b c d=>none) (fun a b=>none) (fun a b=>none) (fun a b=>none) (fun a=>none) (fun a=>none) (fun a=>none)
noncomputable def o2 (e:Stmt):Option Expr:=@Stmt.casesOn (fun ua=>Option Expr) e (fun a b c d e f g h i j=>none) (fun a b c d e f g h i j=>none) (fun a b c d e f g h i j k=>none) (fun a b=>none) (fun a b=>none) (fun a b c=>none) (fun a b c d e f g=>none) (fun a b c d=>none) (fun a b c d e=>none) (fun a b c d e=>none) (fun a b c d e=>none) (fun a b c d=>none) (fun a b c d=>none) (fun a b c=>none) (fun a b c=>none) (fun a b c=>none) (fun a x c=>x) (fun a b c d e=>none) (fun a b c d e=>none) (fun a b c=>none) (fun a b=>none) (fun a b c d=>none) (fun a b=>none) (fun a b=>none) (fun a b=>none) (fun a=>none) (fun a=>none) (fun a=>none)
noncomputable def hsS (e:Stmt):List ExceptHandler:=@Stmt.casesOn (fun ua=>List ExceptHandler) e (fun a b c d e f g h i j=>[]) (fun a b c d e f g h i j=>[]) (fun a b c d e f g h i j k=>[]) (fun a b=>[]) (fun a b=>[]) (fun a b c=>[]) (fun a b c d e f g=>[]) (fun a b c d=>[]) (fun a b c d e=>[]) (fun a b c d e=>[]) (fun a b c d e=>[]) (fun a b c d=>[]) (fun a b c d=>[]) (fun a b c=>[]) (fun a b c=>[]) (fun a b c=>[]) (fun a b c=>[]) (fun a x c d e=>x) (fun a b c d e=>[]) (fun a b c=>[]) (fun a b=>[]) (fun a b c d=>[]) (fun a b=>[]) (fun a b=>[]) (fun a b=>[]) (fun a=>[]) (fun a=>[]) (fun a=>[])

noncomputable def isK (n:Nat) (e:Expr):Bool:=Nat.beq e.ctorIdx n
noncomputable def isQ (n:Nat) (e:Stmt):Bool:=Nat.beq e.ctorIdx n
section
theorem ztK {e:Expr} (h:isK 0 e=true):e=.BoolOp (zuM e) (l1 e) e.pos:=by
 refine IfT.out ?_ h
 clear h
 induction e using Expr.casesOn with
 | BoolOp a0 a1 a2=>exact .mk fun ua=>rfl
 | _=>exact True.intro
theorem ztL {e:Expr} (h:isK 2 e=true):e=.BinOp (e1 e) (zuN e) (e2 e) e.pos:=by
 refine IfT.out ?_ h
 clear h
 induction e using Expr.casesOn with
 | BinOp a0 a1 a2 a3=>exact .mk fun ua=>rfl
 | _=>exact True.intro
theorem zuO {e:Expr} (h:isK 3 e=true):e=.UnaryOp (ztJ e) (e1 e) e.pos:=by
 refine IfT.out ?_ h
 clear h
 induction e using Expr.casesOn with
 | UnaryOp a0 a1 a2=>exact .mk fun ua=>rfl
 | _=>exact True.intro
theorem zvh {e:Expr} (h:isK 5 e=true):e=.IfExp (e1 e) (e2 e) (e3 e) e.pos:=by
 refine IfT.out ?_ h
 clear h
 induction e using Expr.casesOn with
 | IfExp a0 a1 a2 a3=>exact .mk fun ua=>rfl
 | _=>exact True.intro
theorem zrz {e:Expr} (h:isK 6 e=true):e=.Dict (zpG e) (l1 e) e.pos:=by
 refine IfT.out ?_ h
 clear h
 induction e using Expr.casesOn with
 | Dict a0 a1 a2=>exact .mk fun ua=>rfl
 | _=>exact True.intro
theorem zrA {e:Expr} (h:isK 8 e=true):e=.ListComp (e1 e) (zpH e) (scE e) e.pos:=by
 refine IfT.out ?_ h
 clear h
 induction e using Expr.casesOn with
 | ListComp a0 a1 a2 a3=>exact .mk fun ua=>rfl
 | _=>exact True.intro
theorem ztM {e:Expr} (h:isK 15 e=true):e=.Compare (e1 e) (zuL e) (l1 e) e.pos:=by
 refine IfT.out ?_ h
 clear h
 induction e using Expr.casesOn with
 | Compare a0 a1 a2 a3=>exact .mk fun ua=>rfl
 | _=>exact True.intro
theorem zrB {e:Expr} (h:isK 16 e=true):e=.Call (e1 e) (l1 e) (zjt e) e.pos:=by
 refine IfT.out ?_ h
 clear h
 induction e using Expr.casesOn with
 | Call a0 a1 a2 a3=>exact .mk fun ua=>rfl
 | _=>exact True.intro
theorem znB {e:Expr} (h:isK 19 e=true):e=.Constant (zry e) (nE e) e.pos:=by
 refine IfT.out ?_ h
 clear h
 induction e using Expr.casesOn with
 | Constant a0 a1 a2=>exact .mk fun ua=>rfl
 | _=>exact True.intro
theorem zgj {e:Expr} (h:isK 20 e=true):e=.Attribute (e1 e) (nmE e) e.pos:=by
 refine IfT.out ?_ h
 clear h
 induction e using Expr.casesOn with
 | Attribute a0 a1 a2=>exact .mk fun ua=>rfl
 | _=>exact True.intro
theorem zll {e:Expr} (h:isK 21 e=true):e=.Subscript (e1 e) (e2 e) e.pos:=by
 refine IfT.out ?_ h
 clear h
 induction e using Expr.casesOn with
 | Subscript a0 a1 a2=>exact .mk fun ua=>rfl
 | _=>exact True.intro
theorem zfp {e:Expr} (h:isK 23 e=true):e=.Name (nmE e) e.pos:=by
 refine IfT.out ?_ h
 clear h
 induction e using Expr.casesOn with
 | Name a0 a1=>exact .mk fun ua=>rfl
 | _=>exact True.intro
theorem ztN {e:Expr} (h:isK 24 e=true):e=.List (l1 e) e.pos:=by
 refine IfT.out ?_ h
 clear h
 induction e using Expr.casesOn with
 | List a0 a1=>exact .mk fun ua=>rfl
 | _=>exact True.intro
theorem zrC {e:Expr} (h:isK 25 e=true):e=.Tuple (l1 e) (nE e) e.pos:=by
 refine IfT.out ?_ h
 clear h
 induction e using Expr.casesOn with
 | Tuple a0 a1 a2=>exact .mk fun ua=>rfl
 | _=>exact True.intro
theorem zvi {e:Expr} (h:isK 26 e=true):e=.Slice (loE e) (hiE e) (stE e) e.pos:=by
 refine IfT.out ?_ h
 clear h
 induction e using Expr.casesOn with
 | Slice a0 a1 a2 a3=>exact .mk fun ua=>rfl
 | _=>exact True.intro
theorem ztO {e:Stmt} (h:isQ 3 e=true):e=.Return (o1 e) (sP e):=by
 refine IfT.out ?_ h
 clear h
 induction e using Stmt.casesOn with
 | Return a0 a1=>exact .mk fun ua=>rfl
 | _=>exact True.intro
theorem ztP {e:Stmt} (h:isQ 5 e=true):e=.Assign (tsS e) (v1 e) (sP e):=by
 refine IfT.out ?_ h
 clear h
 induction e using Stmt.casesOn with
 | Assign a0 a1 a2=>exact .mk fun ua=>rfl
 | _=>exact True.intro
theorem ztQ {e:Stmt} (h:isQ 7 e=true):e=.AugAssign (t1 e) (opS e) (v1 e) (sP e):=by
 refine IfT.out ?_ h
 clear h
 induction e using Stmt.casesOn with
 | AugAssign a0 a1 a2 a3=>exact .mk fun ua=>rfl
 | _=>exact True.intro
theorem ztR {e:Stmt} (h:isQ 9 e=true):e=.For (t1 e) (v1 e) (b1 e) (b2 e) (sP e):=by
 refine IfT.out ?_ h
 clear h
 induction e using Stmt.casesOn with
 | For a0 a1 a2 a3 a4=>exact .mk fun ua=>rfl
 | _=>exact True.intro
theorem ztS {e:Stmt} (h:isQ 11 e=true):e=.While (v1 e) (b1 e) (b2 e) (sP e):=by
 refine IfT.out ?_ h
 clear h
 induction e using Stmt.casesOn with
 | While a0 a1 a2 a3=>exact .mk fun ua=>rfl
 | _=>exact True.intro
theorem zvj {e:Stmt} (h:isQ 12 e=true):e=.If (v1 e) (b1 e) (b2 e) (sP e):=by
 refine IfT.out ?_ h
 clear h
 induction e using Stmt.casesOn with
 | If a0 a1 a2 a3=>exact .mk fun ua=>rfl
 | _=>exact True.intro
theorem zpI {e:Stmt} (h:isQ 16 e=true):e=.Raise (o1 e) (o2 e) (sP e):=by
 refine IfT.out ?_ h
 clear h
 induction e using Stmt.casesOn with
 | Raise a0 a1 a2=>exact .mk fun ua=>rfl
 | _=>exact True.intro
theorem ztT {e:Stmt} (h:isQ 17 e=true):e=.Try (b1 e) (hsS e) (b2 e) (b3 e) (sP e):=by
 refine IfT.out ?_ h
 clear h
 induction e using Stmt.casesOn with
 | Try a0 a1 a2 a3 a4=>exact .mk fun ua=>rfl
 | _=>exact True.intro
theorem zo5 {e:Stmt} (h:isQ 24 e=true):e=.Expr (v1 e) (sP e):=by
 refine IfT.out ?_ h
 clear h
 induction e using Stmt.casesOn with
 | Expr a0 a1=>exact .mk fun ua=>rfl
 | _=>exact True.intro
theorem ztU {e:Stmt} (h:isQ 26 e=true):e=.Break (sP e):=by
 refine IfT.out ?_ h
 clear h
 induction e using Stmt.casesOn with
 | Break a0=>exact .mk fun ua=>rfl
 | _=>exact True.intro
end

noncomputable def one {α:Type} (l:List α):Bool:=Nat.beq l.length 1
theorem zci {α β γ:Type} (f:α→β→γ) {a a1:α}{b b1:β} (h:a=a1) (k:b=b1):f a b=f a1 b1:=h▸k▸rfl
theorem zkn {α:Type} (d:α) {l:List α} (h:one l=true):l=[l.headD d]:=by
 refine IfT.out ?_ h
 clear h
 induction l using List.casesOn with
 | nil=>exact True.intro
 | cons a r=>induction r using List.casesOn with
  | nil=>exact .mk fun ua=>rfl
  | cons b r=>exact True.intro
theorem zo6 {α:Type} (d:α) {l:List α} (h:(!l.isEmpty)=true):l=l.headD d::l.tail:=by
 refine IfT.out ?_ h
 clear h
 induction l using List.casesOn with
 | nil=>exact True.intro
 | cons a r=>exact .mk fun ua=>rfl
theorem znC {α:Type} (d:α) {l:List α} (h:Nat.beq l.length 2=true):l=[l.headD d,l.tail.headD d]:=by
 refine IfT.out ?_ h
 clear h
 induction l using List.casesOn with
 | nil=>exact True.intro
 | cons a r=>induction r using List.casesOn with
  | nil=>exact True.intro
  | cons b r=>induction r using List.casesOn with
   | nil=>exact .mk fun ua=>rfl
   | cons c r=>exact True.intro
theorem zeE {α:Type}{l:List α} (h:l.isEmpty=true):l=[]:=List.isEmpty_iff.mp h
theorem zlm {α:Type} (d:α) {o:Option α} (h:o.isSome=true):o=some (o.getD d):=by
 refine IfT.out ?_ h
 clear h
 induction o using Option.casesOn with
 | none=>exact True.intro
 | some a=>exact .mk fun ua=>rfl
theorem zhD {α:Type}{o:Option α} (h:o.isNone=true):o=none:=Option.isNone_iff_eq_none.mp h
noncomputable def za0 (e:Expr):Bool:=!isK 22 e
noncomputable def zgX (e:Expr):Bool:=!isK 26 e
noncomputable def zhE (e:Expr):Bool:=!isK 7 e
noncomputable def zbE (a b:Pos):Bool:=a.endLine == b.line

noncomputable def okC:V→Const→Bool
 | .none,.none=>true
 | .bool a,.bool b=>a == b
 | .int a,.int b=>decide (a=b)
 | .str a,.str b=>nm a b
 | _,_=>false

noncomputable def zhF:BI→List Nat
 | .len=>[108,101,110]
 | .min=>[109,105,110]
 | .max=>[109,97,120]
 | .int=>[105,110,116]
 | .str=>[115,116,114]
 | .tuple=>[116,117,112,108,101]
 | .list=>[108,105,115,116]
noncomputable def zhG:TY→List Nat
 | .tuple=>[116,117,112,108,101]
 | .str=>[115,116,114]
 | .int=>[105,110,116]
 | .bool=>[98,111,111,108]
noncomputable def zhH:MT→List Nat
 | .append=>[97,112,112,101,110,100]
 | .lower=>[108,111,119,101,114]
 | .find=>[102,105,110,100]
 | .join=>[106,111,105,110]
noncomputable def zdk:WM→List Nat
 | .peek=>[112,101,101,107]
 | .take=>[116,97,107,101]
 | .looks=>[108,111,111,107,115]
 | .expect=>[101,120,112,101,99,116]
 | .name=>[110,97,109,101]
 | .split=>[115,112,108,105,116,95,99,108,111,115,101]
noncomputable def zb3:List Nat:=[105,115,105,110,115,116,97,110,99,101]
noncomputable def zfq:List Nat:=[114,97,110,103,101]
noncomputable def zgY:List Nat:=[87,111,114,100,115]
noncomputable def zrD:List Nat:=[103,101,116]
noncomputable def zpJ:List Nat:=[71,114,97,109,109,97,114,70,97,117,108,116]

noncomputable def isX (e:E):Bool:=@E.casesOn (fun ua=>Bool) e (fun ua=>false) (fun ua=>true) (fun ua=>false) (fun ua=>false) (fun ua ub=>false) (fun ua ub uc=>false) (fun ua ub uc=>false) (fun ua ub uc=>false) (fun ua=>false) (fun ua=>false) (fun ua ub=>false) (fun ua ub=>false) (fun ua ub uc=>false) (fun ua ub=>false) (fun ua ub=>false) (fun ua ub=>false) (fun ua ub=>false) (fun ua ub uc=>false) (fun ua ub uc=>false) (fun ua ub uc=>false) (fun ua ub=>false) (fun ua=>false) (fun ua=>false) (fun ua ub uc=>false) false
noncomputable def isC (e:E):Bool:=@E.casesOn (fun ua=>Bool) e (fun ua=>true) (fun ua=>false) (fun ua=>false) (fun ua=>false) (fun ua ub=>false) (fun ua ub uc=>false) (fun ua ub uc=>false) (fun ua ub uc=>false) (fun ua=>false) (fun ua=>false) (fun ua ub=>false) (fun ua ub=>false) (fun ua ub uc=>false) (fun ua ub=>false) (fun ua ub=>false) (fun ua ub=>false) (fun ua ub=>false) (fun ua ub uc=>false) (fun ua ub uc=>false) (fun ua ub uc=>false) (fun ua ub=>false) (fun ua=>false) (fun ua=>false) (fun ua ub uc=>false) false
noncomputable def zuP:E→Bool
 | .c (.str _)=>true
 | e=>isX e
theorem zpK {a:E} (h:isX a=true):∃ i,a=.x i:=by
 refine IfT.out ?_ h
 clear h
 induction a using E.casesOn with
 | x i=>exact .mk fun ua=>⟨i,rfl⟩
 | _=>exact True.intro

theorem znD {a:E} (h:zuP a=true):(∃ i,a=.x i)∨∃ s,a=.c (.str s):=by
 refine IfT.out ?_ h
 clear h
 induction a using E.casesOn with
 | x i=>exact .mk fun ua=>.inl ⟨i,rfl⟩
 | c v=>
  induction v using V.casesOn with
  | str s=>exact .mk fun ua=>.inr ⟨s,rfl⟩
  | _=>exact True.intro
 | _=>exact True.intro
noncomputable def zuQ:E→Bool
 | .c .none=>true
 | _=>false
theorem znE {a:E} (h:zuQ a=true):a=.c .none:=by
 refine IfT.out ?_ h
 clear h
 induction a using E.casesOn with
 | c v=>
  induction v using V.casesOn with
  | none=>exact .mk fun ua=>rfl
  | _=>exact True.intro
 | _=>exact True.intro

noncomputable def okG (sc:Scope) (l:List Nat) (e:Expr):Bool:=isK 23 e&&(nm l (nmE e)&&zlk sc (nmE e)&&zc4 (nmE e))

noncomputable def ztV (k:List Nat):Option Expr→Bool
 | none=>false
 | some e=>isK 19 e&&okC (.str k) (zry e)
noncomputable def zfr:List (List Nat)→List (Option Expr)→Bool
 | [],l=>l.isEmpty
 | k::ks,l=>ztV k (l.headD none)&&zfr ks l.tail

noncomputable def zbc (vars:List (List Nat)):List Nat→Option (List (List Nat))
 | []=>some []
 | i::r=>match vars[i]?,zbc vars r with
  | some x,some l=>some (x::l)
  | _,_=>none
noncomputable def zko (sc sc':Scope):Scope:=
 { sc' with names:=sc'.names.map fun(n,k)=>if(k == .free&&sc.kind == .function&&sc.names.lookup n == some .cell) then(n,.cell) else(n,k) }
noncomputable def zdN (sc sc':Scope):List (List Nat)→Bool
 | []=>true
 | x::r=>(sc.names.lookup (zaa x) == some .cell)&&(sc'.names.lookup (zaa x) == some .cell)&&zdN sc sc' r
noncomputable def zdO:List (List Nat)→Bool
 | []=>true
 | x::r=>!(r.any (zan x))&&zdO r

noncomputable def zuR:V→V
 | .int i=>.int (-i)
 | _=>.any
noncomputable def zvk (v:V) (e:Expr):Bool:=(isK 19 e&&okC v (zry e))||(isK 3 e&&((ztJ e == .USub)&&(isK 19 (e1 e)&&okC (zuR v) (zry (e1 e)))))
noncomputable def ztW (e:E) (f:Expr→Bool):Option Expr→Bool
 | some pe=>f pe
 | none=>zuQ e
noncomputable def gg (pe:Expr):Comprehension:=(zpH pe).headD ⟨dE,dE,[],1⟩
variable (T:Tab)
mutual
noncomputable def okE (vars:List (List Nat)) (sc:Scope):E→Expr→Bool
 | .c v,pe=>zvk v pe
 | .x i,pe=>isK 23 pe&&((match vars[i]? with
  | some l=>nm l (nmE pe)
  | none=>false)&&zgW sc (nmE pe)&&zc4 (nmE pe))
 | .g n,pe=>match T.globs[n]? with
  | some p=>okG sc p.1 pe
  | none=>false
 | .not a,pe=>isK 3 pe&&((ztJ pe == .Not)&&okE vars sc a (e1 pe))
 | .bop k es,pe=>isK 0 pe&&((zuM pe == (if k then .And else .Or))&&okEs vars sc es (l1 pe))
 | .ite t a b,pe=>isK 5 pe&&(okE vars sc t (e1 pe)&&okE vars sc a (e2 pe)&&okE vars sc b (e3 pe))
 | .cmp op a b,pe=>isK 15 pe&&((zuL pe == [op])&&(one (l1 pe)&&(okE vars sc a (e1 pe)&&okE vars sc b ((l1 pe).headD dE)&&!behindInMarks op ((l1 pe).headD dE))))
 | .bin op a b,pe=>isK 2 pe&&((zuN pe == op)&&okE vars sc a (e1 pe)&&okE vars sc b (e2 pe))
 | .tup es,pe=>isK 25 pe&&okEs vars sc es (l1 pe)
 | .lst es,pe=>isK 24 pe&&okEs vars sc es (l1 pe)
 | .dict ks es,pe=>isK 6 pe&&(zfr ks (zpG pe)&&okEs vars sc es (l1 pe)&&decide (ks.length≤15)&&zdO ks&&decide (ks.length≠0)&&Nat.beq (zpG pe).length (l1 pe).length)
 | .sub a i,pe=>isK 21 pe&&(okE vars sc a (e1 pe)&&okE vars sc i (e2 pe)&&zgX (e2 pe))
 | .sl a lo hi,pe=>isK 21 pe&&(isK 26 (e2 pe)&&((stE (e2 pe)).isNone&&okE vars sc a (e1 pe)&&ztW lo (okE vars sc lo) (loE (e2 pe))&&ztW hi (okE vars sc hi) (hiE (e2 pe))))
 | .attr a k,pe=>isK 20 pe&&(isX a&&okE vars sc a (e1 pe)&&(nmE pe == zae k)&&decide (k < 2))
 | .call f es,pe=>isK 16 pe&&((zjt pe).isEmpty&&((match T.fns[f]? with
  | some fn=>okG sc fn.name (e1 pe)&&decide (6 < f)
  | none=>false)&&okEs vars sc es (l1 pe)&&decide ((l1 pe).length≤20)))
 | .bi b es,pe=>isK 16 pe&&((zjt pe).isEmpty&&(okG sc (zhF b) (e1 pe)&&okEs vars sc es (l1 pe)&&decide ((l1 pe).length≤20)))
 | .isi a t,pe=>isK 16 pe&&((zjt pe).isEmpty&&(Nat.beq (l1 pe).length 2&&(za0 ((l1 pe).headD dE)&&okG sc zb3 (e1 pe)&&okE vars sc a ((l1 pe).headD dE)&&okG sc (zhG t) ((l1 pe).tail.headD dE))))
 | .mth a m es,pe=>isK 16 pe&&((zjt pe).isEmpty&&(isK 20 (e1 pe)&&(zbE (e1 pe).pos pe.pos&&zuP a&&okE vars sc a (e1 (e1 pe))&&nm (zhH m) (nmE (e1 pe))&&okEs vars sc es (l1 pe)&&decide ((l1 pe).length≤20))))
 | .wm a m es,pe=>isK 16 pe&&((zjt pe).isEmpty&&(isK 20 (e1 pe)&&(zbE (e1 pe).pos pe.pos&&isX a&&okE vars sc a (e1 (e1 pe))&&nm (zdk m) (nmE (e1 pe))&&okEs vars sc es (l1 pe)&&decide ((l1 pe).length≤20))))
 | .dget n a d,pe=>isK 16 pe&&((zjt pe).isEmpty&&(Nat.beq (l1 pe).length 2&&(isK 20 (e1 pe)&&(isK 19 ((l1 pe).tail.headD dE)&&(zbE (e1 pe).pos pe.pos&&za0 ((l1 pe).headD dE)&&(match T.dicts[n]? with
  | some p=>okG sc p.1 (e1 (e1 pe))
  | none=>false)&&nm zrD (nmE (e1 pe))&&okE vars sc a ((l1 pe).headD dE)&&okC d (zry ((l1 pe).tail.headD dE)))))))
 | .vcall f es,pe=>isK 16 pe&&((zjt pe).isEmpty&&(isK 21 (e1 pe)&&(okE vars sc f (e1 pe)&&okEs vars sc es (l1 pe)&&decide ((l1 pe).length≤20))))
 | .newW a,pe=>isK 16 pe&&((zjt pe).isEmpty&&(one (l1 pe)&&(za0 ((l1 pe).headD dE)&&okG sc zgY (e1 pe)&&okE vars sc a ((l1 pe).headD dE))))
 | .range a,pe=>isK 16 pe&&((zjt pe).isEmpty&&(one (l1 pe)&&(za0 ((l1 pe).headD dE)&&okG sc zfq (e1 pe)&&okE vars sc a ((l1 pe).headD dE))))
 | .comp cap elt it,pe=>isK 8 pe&&(one (zpH pe)&&(isK 23 (gg pe).target&&((gg pe).ifs.isEmpty&&(decide ((gg pe).is_async=0)&&(okE vars sc it (gg pe).iter&&(match zbc vars cap with
  | some l=>okE (l++[(nmE (gg pe).target).cps.toList]) (zko sc (scE pe)) elt (e1 pe)&&zdN sc (zko sc (scE pe)) l&&zdO (l++[(nmE (gg pe).target).cps.toList])&&((scE pe).names.all fun x=>decide (x.2≠.free)||l.any (nm · x.1))
  | none=>false)&&((scE pe).names.lookup (nmE (gg pe).target) == some .local)&&((scE pe).kind == .function)&&((scE pe).names.all fun x=>decide (x.2≠.cell)&&((scE pe).names.lookup x.1 == some x.2))&&zhE (gg pe).iter)))))
 | .bad,_=>true
noncomputable def okEs (vars:List (List Nat)) (sc:Scope):Es→List Expr→Bool
 | .nil,l=>l.isEmpty
 | .cons e es,l=>!l.isEmpty&&(okE vars sc e (l.headD dE)&&za0 (l.headD dE)&&okEs vars sc es l.tail)
end
noncomputable def okO (vars:List (List Nat)) (sc:Scope) (e:E) (o:Option Expr):Bool:=ztW e (okE T vars sc e) o

noncomputable def zdc (e:Expr):Bool:=isK 8 e||isK 9 e||isK 10 e
noncomputable def ziN (vars:List (List Nat)) (sc:Scope):List Nat→List Expr→Bool
 | [],l=>l.isEmpty
 | i::is,l=>!l.isEmpty&&(isK 23 (l.headD dE)&&((match vars[i]? with
  | some l'=>nm l' (nmE (l.headD dE))
  | none=>false)&&(sc.names.lookup (nmE (l.headD dE)) == some .local)&&ziN vars sc is l.tail))
noncomputable def zdl (vars:List (List Nat)) (sc:Scope) (i:Nat) (x:Str):Bool:=(match vars[i]? with
  | some l=>nm l x
  | none=>false)&&(match sc.names.lookup x with
  | some .local | some .cell=>true
  | _=>false)
noncomputable def zpL (sc:Scope) (x:Str) (np:Pos) (pe:Expr):Bool:=cond (isK 8 pe) ((sc.names.lookup x == some .local)&&(np.line == pe.pos.line)&&!((scE pe).names.any fun(n,k)=>n == x&&(k == .local||k == .cell))) (!(isK 9 pe||isK 10 pe))
noncomputable def zln (pe:Expr):Bool:=!isK 25 pe||((l1 pe).all (foldedForSure 8)||!(l1 pe).all (constantsAlone 8))
noncomputable def dS:Stmt:=.Pass ⟨0,0,0,0⟩
noncomputable def th (ps:Stmt):Expr:=(tsS ps).headD dE
noncomputable def rx (ps:Stmt):Expr:=(o1 ps).getD dE
noncomputable def hT:ExceptHandler→Option Expr
 | .ExceptHandler t _ _ _=>t
noncomputable def hN:ExceptHandler→Option Str
 | .ExceptHandler _ n _ _=>n
noncomputable def hB:ExceptHandler→List Stmt
 | .ExceptHandler _ _ b _=>b
noncomputable def hh (ps:Stmt):ExceptHandler:=(hsS ps).headD (.ExceptHandler none none [] ⟨0,0,0,0⟩)
mutual
noncomputable def okS (vars:List (List Nat)) (sc:Scope):S→Stmt→Bool
 | .expr e,ps=>isQ 24 ps&&(okE T vars sc e (v1 ps)&&!zdc (v1 ps))
 | .asg i e,ps=>isQ 5 ps&&(one (tsS ps)&&(isK 23 (th ps)&&(zdl vars sc i (nmE (th ps))&&okE T vars sc e (v1 ps)&&zpL sc (nmE (th ps)) (th ps).pos (v1 ps))))
 | .asgT is e,ps=>isQ 5 ps&&(one (tsS ps)&&(isK 25 (th ps)&&(ziN vars sc is (l1 (th ps))&&okE T vars sc e (v1 ps)&&zcg is&&!zdc (v1 ps)&&zln (v1 ps))))
 | .aug i op e,ps=>isQ 7 ps&&(isK 23 (t1 ps)&&((opS ps == op)&&(vars[i]?.any (nm · (nmE (t1 ps))))&&(sc.names.lookup (nmE (t1 ps)) == some .local)&&okE T vars sc e (v1 ps)))
 | .augA a k op e,ps=>isQ 7 ps&&(isK 20 (t1 ps)&&((opS ps == op)&&(nmE (t1 ps) == zae k)&&isX a&&okE T vars sc a (e1 (t1 ps))&&okE T vars sc e (v1 ps)&&decide (k < 2)))
 | .setA a k e,ps=>isQ 5 ps&&(one (tsS ps)&&(isK 20 (th ps)&&((nmE (th ps) == zae k)&&isX a&&okE T vars sc a (e1 (th ps))&&okE T vars sc e (v1 ps)&&!zdc (v1 ps)&&decide (k < 2))))
 | .setI a i e,ps=>isQ 5 ps&&(one (tsS ps)&&(isK 21 (th ps)&&(isX a&&isC i&&okE T vars sc a (e1 (th ps))&&okE T vars sc i (e2 (th ps))&&okE T vars sc e (v1 ps)&&!zdc (v1 ps))))
 | .ite t b o,ps=>isQ 12 ps&&(okE T vars sc t (v1 ps)&&okSs vars sc b (b1 ps)&&okSs vars sc o (b2 ps))
 | .whl t b,ps=>isQ 11 ps&&((b2 ps).isEmpty&&(okE T vars sc t (v1 ps)&&okSs vars sc b (b1 ps)))
 | .for_ i it b,ps=>isQ 9 ps&&((b2 ps).isEmpty&&(isK 23 (t1 ps)&&(zdl vars sc i (nmE (t1 ps))&&okE T vars sc it (v1 ps)&&okSs vars sc b (b1 ps)&&zhE (v1 ps))))
 | .ret e,ps=>isQ 3 ps&&((o1 ps).isSome&&okE T vars sc e (rx ps))
 | .raise a b,ps=>isQ 16 ps&&((o2 ps).isNone&&((o1 ps).isSome&&(isK 16 (rx ps)&&((zjt (rx ps)).isEmpty&&(Nat.beq (l1 (rx ps)).length 2&&(za0 ((l1 (rx ps)).headD dE)&&za0 ((l1 (rx ps)).tail.headD dE)&&okG sc zpJ (e1 (rx ps))&&okE T vars sc a ((l1 (rx ps)).headD dE)&&okE T vars sc b ((l1 (rx ps)).tail.headD dE)))))))
 | .try_ b h,ps=>isQ 17 ps&&((b2 ps).isEmpty&&((b3 ps).isEmpty&&(one (hsS ps)&&((hN (hh ps)).isNone&&((hT (hh ps)).isSome&&(okSs vars sc b (b1 ps)&&okG sc zpJ ((hT (hh ps)).getD dE)&&okSs vars sc h (hB (hh ps))))))))
 | .brk,ps=>isQ 26 ps
 | .bad,_=>true
noncomputable def okSs (vars:List (List Nat)) (sc:Scope):Ss→List Stmt→Bool
 | .nil,l=>l.isEmpty
 | .cons s ss,l=>!l.isEmpty&&(okS vars sc s (l.headD dS)&&okSs vars sc ss l.tail)
end

noncomputable def zfs (sc:Scope):List (List Nat)→List PySem.Arg→Bool
 | [],[]=>true
 | x::r,a::as=>nm x a.arg&&zfs sc r as
 | _,_=>false

noncomputable def zgZ:List Value→List V→Bool
 | [],[]=>true
 | .bool a::r,.bool b::s=>(a == b)&&zgZ r s
 | .int a _::r,.int b::s=>decide (a=b)&&zgZ r s
 | _,_=>false
noncomputable def zrE:Data→Option FuncData
 | .func f=>some f
 | _=>none
theorem zlo {d:Data}{f:FuncData} (h:zrE d=some f):d=.func f:=by
 refine IfO.out (P:=fun f=>d=.func f) ?_ h
 clear h
 induction d using Data.casesOn with
 | func f=>exact rfl
 | _=>exact True.intro
noncomputable def stB:FuncBody→Option (List Stmt)
 | .stmts b=>some b
 | .expr _=>none
noncomputable def rfV:Value→Option Addr
 | .ref a=>some a
 | _=>none
theorem zrF {v:Value}{a:Addr} (h:rfV v=some a):v=.ref a:=by
 refine IfO.out (P:=fun a=>v=.ref a) ?_ h
 clear h
 induction v using Value.casesOn with
 | ref f=>exact rfl
 | _=>exact True.intro
noncomputable def zrG:Value→Bool
 | .none=>true
 | _=>false
theorem zpM {v:Value} (h:zrG v=true):v=.none:=by
 refine IfT.out ?_ h
 clear h
 induction v using Value.casesOn with
 | none=>exact .mk fun ua=>rfl
 | _=>exact True.intro
noncomputable def zrH (p:Arguments):Bool:=p.posonlyargs.isEmpty&&p.vararg.isNone&&p.kwonlyargs.isEmpty&&p.kw_defaults.isEmpty&&p.kwarg.isNone
theorem zpN {p:Arguments} (h:zrH p=true):p=⟨[],p.args,none,[],[],none,p.defaults⟩:=by
 obtain⟨po,as,va,ko,kd,kw,ds⟩:=p
 exact B5 h fun a b c d e=>by rw[zeE (l:=po) a,zhD (o:=va) b,zeE (l:=ko) c,zeE (l:=kd) d,zhD (o:=kw) e]
noncomputable def zo7 (K:Frag) (d:Value) (ds:List V):Bool:=(zrG d&&ds.isEmpty)||(rfV d).any fun t=>(K.lookup t).any fun o=>match o.data with
 | .seq xs _=>zgZ xs.toList ds
 | _=>false
noncomputable def zrh (K:Frag) (fn:Fn):Bool:=(K.lookup fn.addr).any fun o=>(zrE o.data).any fun fd=>
 ((stB fd.body).any (okSs T fn.vars fd.scope fn.body)&&zrH fd.params&&zfs fd.scope (fn.vars.take fn.params) fd.params.args&&decide (fn.params≤fn.vars.length) &&
  (fn.vars.all fun x=>fd.scope.names.lookup (zaa x) == some .local||fd.scope.names.lookup (zaa x) == some .cell)&&zdO fn.vars&&(fd.scope.kind == .function)&&!fd.scope.isCoroutine) &&
 (!fd.scope.isGenerator&&decide (fd.globals=mainGlobals)&&decide (fd.builtins=builtinsNs)&&fd.closure.isEmpty&&codeIn K fd.code fd.qualname&&zo7 K fd.defaults fn.dflts)
end
section
open W Calls PyProof.Rows
structure Ok (X:Stat) (fs:List PySem.Env) (m:AM) (σ:List C) (s:Shared):Prop where
 stays:X.base.StaysIn s.heap
 ff:s.heap.FunFrames X.base fs
 prot:∀ e∈fs,∀ L,e.frame=some L→¬ Mut m L
 sto:Sto X m s.heap σ

noncomputable def zc2 (s s':Shared):Prop:=s'.gens=s.gens∧s'.drawn=s.drawn∧s'.os=s.os
theorem zc2.refl (s:Shared):zc2 s s:=⟨rfl,rfl,rfl⟩
theorem zc2.trans {a b c:Shared} (x:zc2 a b) (y:zc2 b c):zc2 a c:=⟨y.1.trans x.1,y.2.1.trans x.2.1,y.2.2.trans x.2.2⟩

theorem zeh {h h' base:Heap}{m m':AM} (x:Ext m m' h h'):∀ {fs:List PySem.Env},(∀ e∈fs,∀ L,e.frame=some L→¬ Mut m L)→h.FunFrames base fs→h'.FunFrames base fs
 | [],_,_=>trivial
 | e::r,p,⟨hk,⟨L,o,hf,hn,ho,hd⟩,hr⟩=>⟨hk,⟨L,o,hf,hn,x.keep L o ho (p e (List.mem_cons_self ..) L hf),hd⟩,zeh x (fun e' he=>p e' (List.mem_cons_of_mem _ he)) hr⟩
theorem za6 {h base:Heap}:∀ {fs:List PySem.Env},h.FunFrames base fs→∀ e∈fs,∀ L,e.frame=some L→∃ o,h.get? L=some o
 | [],_,_,he,_,_=>absurd he List.not_mem_nil
 | e::r,k,e',he,L',hf'=>by
  refine ziL k.2.1 fun L o hf hn ho hd=>?_
  have hr:=k.2.2
  refine Or.elim (List.mem_cons.mp he) ?_ ?_
  intro nm
  subst nm
  rotate_left
  intro he
  rotate_left
  ·have:L=L':=Option.some.inj (hf.symm.trans hf')
   exact⟨o,this▸ho⟩
  ·exact za6 hr e' he L' hf'

section
variable {X:Stat}{fs:List PySem.Env}{m m' m'':AM}{σ σ':List C}{s s' s'':Shared}

theorem Ok.ext (k:Ok X fs m σ s) (x:Ext m m' s.heap s'.heap) (S:Sto X m' s'.heap σ'):Ok X fs m' σ' s':=
 ⟨fun b o e=>x.keep b o (k.stays b o e) fun q=>(by have:=k.sto.ge q; rw[e] at this; exact zhy this),zeh x k.prot k.ff,
  fun e he L hf=>let ⟨_,ho⟩:=za6 k.ff e he L hf; x.notMut ho (k.prot e he L hf),S⟩

noncomputable def ztr (X:Stat) (fs:List PySem.Env) (m:AM) (s:Shared) (v:V) (σ':List C) (val:Value) (s':Shared):Prop:=
 ∃ m',Ext m m' s.heap s'.heap∧Ok X fs m' σ' s'∧zc2 s s'∧Rep X.F m' s'.heap val v
noncomputable def zrI (X:Stat) (fs:List PySem.Env) (m:AM) (s:Shared) (vs:List V) (σ':List C) (vals:List Value) (s':Shared):Prop:=
 ∃ m',Ext m m' s.heap s'.heap∧Ok X fs m' σ' s'∧zc2 s s'∧Reps X.F m' s'.heap vals vs
noncomputable def zlp (X:Stat) (fs:List PySem.Env) (m:AM) (s:Shared) (σ':List C) (s':Shared):Prop:=
 ∃ m',Ext m m' s.heap s'.heap∧Ok X fs m' σ' s'∧zc2 s s'

noncomputable def PV (X:Stat) (fs:List PySem.Env) (m:AM) (s:Shared) (r:R V):Value→Shared→Prop:=fun val s'=>∃ v σ',r=.ok v σ'∧ztr X fs m s v σ' val s'
noncomputable def PVs (X:Stat) (fs:List PySem.Env) (m:AM) (s:Shared) (r:R (List V)):List Value→Shared→Prop:=fun vals s'=>∃ vs σ',r=.ok vs σ'∧zrI X fs m s vs σ' vals s'
noncomputable def PB (X:Stat) (fs:List PySem.Env) (m:AM) (s:Shared) (r:R Bool):Bool→Shared→Prop:=fun b s'=>∃ σ',r=.ok b σ'∧zlp X fs m s σ' s'

noncomputable def Exc (X:Stat) (fs:List PySem.Env) (e:Addr) (h:Heap):Prop:=
 X.base.StaysIn h∧X.base.get? e=none∧h.FunFrames X.base fs∧∃ oe vs a0,h.get? e=some oe∧(oe.cls=.ref X.GF∧vs[0]?=some a0)∧oe.data=.fields vs ∧
  (vs[1]?=some .none∨∃ T oT ts fl,vs[1]?=some (.ref T)∧X.base.get? T=none∧T≠e∧h.get? T=some oT∧oT.data=.fields ts∧ts[3]?=some fl)
noncomputable def PX {α:Type} (X:Stat) (fs:List PySem.Env) (s:Shared) (r:R α):Value→Shared→Prop:=fun x s'=>r=.exc∧∃ e,x=.ref e∧Exc X fs e s'.heap∧zc2 s s'

theorem PX.to {α β:Type}{r:R α}{r':R β}{x:Value}{s₀:Shared} (h:PX X fs s r x s') (y:zc2 s₀ s) (e:r=.exc→r'=.exc):PX X fs s₀ r' x s':=by
 refine zaW h ?_
 clear h
 intro a rst
 refine zb8 rst ?_
 clear rst
 intro e' b c d
 exact⟨e a,e',b,c,y.trans d⟩

theorem ztr.after {v:V}{val:Value}{s₀:Shared}{m₀:AM} (x:Ext m₀ m s₀.heap s.heap) (y:zc2 s₀ s) (g:ztr X fs m s v σ' val s'):ztr X fs m₀ s₀ v σ' val s':=by
 refine zfl g ?_
 clear g
 intro m' a b c d
 exact zre m' (x.trans a) b (y.trans c) d
theorem zlp.after {s₀:Shared}{m₀:AM} (x:Ext m₀ m s₀.heap s.heap) (y:zc2 s₀ s) (g:zlp X fs m s σ' s'):zlp X fs m₀ s₀ σ' s':=by
 refine zb8 g ?_
 clear g
 intro m' a b c
 exact zle m' (x.trans a) b (y.trans c)
theorem PV.after {r r':R V}{val:Value}{s₀:Shared}{m₀:AM} (x:Ext m₀ m s₀.heap s.heap) (y:zc2 s₀ s) (g:PV X fs m s r val s') (e:r=r'):PV X fs m₀ s₀ r' val s':=by
 refine zaZ g ?_
 clear g
 intro v σ' a b
 exact zdf v σ' (e▸a) (b.after x y)

theorem Ok.toks (k:Ok X fs m σ s) (tk:Nat):Ok X fs m σ { s with toks:=tk }:=⟨k.stays,k.ff,k.prot,k.sto⟩
theorem zct {v:V}{val:Value} (k:Ok X fs m σ s) (r:Rep X.F m s.heap val v):PV X fs m s (.ok v σ) val s:=⟨v,σ,rfl,m,.refl ..,k,.refl _,r⟩
theorem za1 {v:V}{val:Value} (k:Ok X fs m σ s) (tk:Nat) (r:Rep X.F m s.heap val v):PV X fs m s (.ok v σ) val { s with toks:=tk }:=⟨v,σ,rfl,m,.refl ..,k.toks tk,⟨rfl,rfl,rfl⟩,r⟩

theorem Ok.push (k:Ok X fs m σ s) (o:Obj):Ok X fs m σ { s with heap:=s.heap.push o }:=
 k.ext (s':={ s with heap:=s.heap.push o }) (.of_sub (zaJ _ _)) (k.sto.sub (zaJ _ _))
theorem zlq {vs:List V}{xs:List Value} (k:Ok X fs m σ s) (r:Reps X.F m s.heap xs vs) (tk:Nat) :
  PV X fs m s (.ok (.tup vs) σ) (.ref s.heap.objs.size) { s with heap:=s.heap.push { cls:=.type "tuple",data:=.seq xs.toArray },toks:=tk }:=
 ⟨_,σ,rfl,m,.of_sub (zaJ _ _),(k.push _).toks tk,⟨rfl,rfl,rfl⟩,.tup (n:=0) (Heap.get?_push_size _ rfl) (r.ext List.prefix_rfl (.of_sub (zaJ _ _)))⟩

theorem zdy {α:Type} (l:List α) (a:α):(l++[a])[l.length]?=some a:=by
 rw[List.getElem?_append_right (Nat.le_refl _),Nat.sub_self]; rfl
theorem zrJ {c:C}{o:Obj} (k:Ok X fs m σ s) (tk:Nat) (hf:¬ zaL o) (hfr:o.isFreed=false)
  (r:zf8 X (m++[(s.heap.objs.size,[s.heap.objs.size])]) (s.heap.push o) (s.heap.objs.size,[s.heap.objs.size]) c) :
  PV X fs m s (.ok (.loc σ.length) (σ++[c])) (.ref s.heap.objs.size) { s with heap:=s.heap.push o,toks:=tk }:=by
 have hn:∀ b∈[s.heap.objs.size],s.heap.get? b=none∧∃ o',(s.heap.push o).get? b=some o'∧¬ zaL o':=fun b hb=>by
  refine(List.mem_singleton.mp hb).symm▸?_
  exact⟨zbD _,o,Heap.get?_push_size _ hfr,hf⟩
 have S:=k.sto.push (h':=s.heap.push o) (q:=(s.heap.objs.size,[s.heap.objs.size])) (c:=c) (zaJ _ _) (List.mem_singleton.mpr rfl) hn k.stays r
 have x:Ext m (m++[(s.heap.objs.size,[s.heap.objs.size])]) s.heap (s.heap.push o):=.push (zaJ _ _) fun b hb=>(hn b hb).1
 refine⟨_,_,rfl,_,x,(k.ext (s':={ s with heap:=s.heap.push o }) x S).toks tk,⟨rfl,rfl,rfl⟩,?_⟩
 have:=Rep.loc (F:=X.F) (m:=m++[(s.heap.objs.size,[s.heap.objs.size])]) (h:=s.heap.push o) (n:=σ.length) (p:=(s.heap.objs.size,[s.heap.objs.size])) (by refine k.sto.len▸?_; exact zdy _ _)
 exact this
theorem zay (xs:List Value) (n:Nat):¬ zaL (zdh xs n):=by
 rintro(⟨h,_⟩ | ⟨h,_⟩) <;> exact absurd (Value.type.inj h) (by decide)
theorem zcj (es:List DictEntry) (n:Nat):¬ zaL (dictOf es n):=by
 rintro(⟨h,_⟩ | ⟨h,_⟩) <;> exact absurd (Value.type.inj h) (by decide)
theorem zdm (a b:Addr):¬ zaL (instObj a b):=by
 rintro(⟨h,_⟩ | ⟨h,_⟩) <;> exact noI PySem.Value.ctorIdx h rfl
theorem ziO {vs:List V}{xs:List Value} (k:Ok X fs m σ s) (r:Reps X.F m s.heap xs vs) (tk:Nat) :
  PV X fs m s (.ok (.loc σ.length) (σ++[.list vs])) (.ref s.heap.objs.size) { s with heap:=s.heap.push { cls:=.type "list",data:=.seq xs.toArray },toks:=tk }:=
 zrJ (o:=zdh xs 0) k tk (zay _ _) rfl ⟨rfl,xs,0,Heap.get?_push_size _ rfl,r.ext (List.prefix_append ..) (.of_sub (zaJ _ _))⟩

theorem znF {c:C}{o:Obj}{a:Addr}{h':Heap} (k:Ok X fs m σ s) (st:s.heap.StaysIn h') (ha:s.heap.get? a=none) (ho:h'.get? a=some o) (hf:¬ zaL o) (tk:Nat)
  (r:zf8 X (m++[(a,[a])]) h' (a,[a]) c):PV X fs m s (.ok (.loc σ.length) (σ++[c])) (.ref a) { s with heap:=h',toks:=tk }:=by
 have hn:∀ b∈[a],s.heap.get? b=none∧∃ o',h'.get? b=some o'∧¬ zaL o':=fun b hb=>by
  refine(List.mem_singleton.mp hb).symm▸?_
  exact⟨ha,o,ho,hf⟩
 have S:=k.sto.push (h':=h') (q:=(a,[a])) (c:=c) st (List.mem_singleton.mpr rfl) hn k.stays r
 have x:Ext m (m++[(a,[a])]) s.heap h':=.push st fun b hb=>(hn b hb).1
 refine⟨_,_,rfl,_,x,(k.ext (s':={ s with heap:=h' }) x S).toks tk,⟨rfl,rfl,rfl⟩,?_⟩
 have:=Rep.loc (F:=X.F) (m:=m++[(a,[a])]) (h:=h') (n:=σ.length) (p:=(a,[a])) (by refine k.sto.len▸?_; exact zdy _ _)
 exact this
theorem zg0 {vs:List V}{xs:List Value}{n:Nat}{a:Addr}{h':Heap} (k:Ok X fs m σ s) (st:s.heap.StaysIn h') (ha:s.heap.get? a=none) (ho:h'.get? a=some (zdh xs n)) (r:Reps X.F m s.heap xs vs) (tk:Nat) :
  PV X fs m s (.ok (.loc σ.length) (σ++[.list vs])) (.ref a) { s with heap:=h',toks:=tk }:=
 znF k st ha ho (zay _ _) tk ⟨rfl,xs,n,ho,r.ext (List.prefix_append ..) (.of_sub st)⟩

theorem Ok.adopt {c:C}{o:Obj}{a:Addr} (k:Ok X fs m σ s) (hm:¬ Mut m a) (hb:X.base.get? a=none) (ho:s.heap.get? a=some o) (hf:¬ zaL o) (hp:∀ e∈fs,∀ L,e.frame=some L→L≠a)
  (r:zf8 X (m++[(a,[a])]) s.heap (a,[a]) c):Ok X fs (m++[(a,[a])]) (σ++[c]) s:=
 ⟨k.stays,k.ff,fun e he L hL hM=>by
  refine Or.elim (Mut.push.mp hM) ?_ ?_
  intro hM
  rotate_left
  intro hM
  rotate_left
  ·exact k.prot e he L hL hM
  ·exact hp e he L hL (List.mem_singleton.mp hM),
  k.sto.adopt (List.mem_singleton.mpr rfl) (fun b hb'=>by refine(List.mem_singleton.mp hb').symm▸?_; exact⟨hm,hb,o,ho,hf⟩) r⟩
theorem Ok.fresh (k:Ok X fs m σ s) {a:Addr} (h:s.heap.get? a=none):¬ Mut m a∧X.base.get? a=none∧∀ e∈fs,∀ L,e.frame=some L→L≠a:=by
 refine⟨(fun hm=>by refine zaF (k.sto.live hm) fun o e=>?_; rw[h] at e; exact zaA e),?_,fun e he L hL q=>?_⟩
 ·induction e:X.base.get? a using Option.casesOn with
  | none=>rfl
  | some o=>rw[k.stays _ _ e] at h; exact zhy h
 ·refine zaF (za6 k.ff e he L hL) fun o ho=>?_
  rw[q,h] at ho; exact zaA ho

theorem Ok.at (k:Ok X fs m σ s) {n:Nat}{c:C} (e:σ[n]?=some c):∃ p,m[n]?=some p∧zf8 X m s.heap p c:=by
 obtain⟨hl,_⟩:=List.getElem?_eq_some_iff.mp e
 have hl':n < m.length:=by rw[k.sto.len]; exact hl
 exact zc1 (m[n]) (List.getElem?_eq_getElem hl') (k.sto.rep n _ c (List.getElem?_eq_getElem hl') e)
theorem Ok.loc (k:Ok X fs m σ s) {n:Nat}{c:C}{val:Value} (r:Rep X.F m s.heap val (.loc n)) (e:σ[n]?=some c):∃ p,val=.ref p.1∧m[n]?=some p∧zf8 X m s.heap p c:=by
 refine zao (k.at e) fun p h1 h2=>?_
 cases r with
 | loc h=>replace h:=h1▸h; have ee:=Option.some.inj h; clear h; subst ee; exact zle p rfl h1 h2
theorem Ok.list (k:Ok X fs m σ s) {n:Nat}{vs:List V}{val:Value} (r:Rep X.F m s.heap val (.loc n)) (e:σ[n]?=some (.list vs)) :
  ∃ a xs c,val=.ref a∧m[n]?=some (a,[a])∧s.heap.get? a=some (zdh xs c)∧Reps X.F m s.heap xs vs:=by
 refine bc fun hN=>?_
 refine zfl (k.loc r e) fun nn0 ee1 h1 h2 rst=>?_
 obtain⟨a,fp⟩:=nn0
 subst ee1
 refine zaZ rst ?_
 clear rst
 intro xs c h3 h4
 have h2:fp=[a]:=h2
 subst h2
 refine hN ?_
 exact zrf a xs c rfl h1 h3 h4
theorem zaI {h:Heap}{a:Addr}{xs:List Value}{n:Nat} (e:h.get? a=some (zdh xs n)):h.IsList a xs.toArray:=⟨_,e,rfl,n,rfl⟩
theorem zju {h:Heap}{a:Addr}{xs:List Value}{n:Nat} (e:h.get? a=some (zli xs n)):IsTup h a xs.toArray:=⟨_,e,rfl,n,rfl⟩
theorem zck {v:V}{vs:List V} (e:za4 σ v=some vs):∃ n,v=.loc n∧σ[n]?=some (.list vs):=by
 unfold za4 at e
 split at e
 ·split at e
  ·have ee:=Option.some.inj e; clear e; subst ee; exact zc1 _ rfl ‹_›
  ·exact zaA e
 ·exact zaA e
theorem zpO (k:Ok X fs m σ s) {n:Nat}{vs vs':List V}{a:Addr}{xs xs':List Value}{c c':Nat}{h':Heap} (e:m[n]?=some (a,[a])) (hs:Heap.SameBut a s.heap h') (hn:h'.get? a=some (zdh xs' c'))
  (ho:s.heap.get? a=some (zdh xs c)) (r:Reps X.F m s.heap xs' vs') (tk:Nat):zlp X fs m s (σ.set n (.list vs')) { s with heap:=h',toks:=tk }:=by
 have keep:∀ b o,s.heap.get? b=some o→b ∉ [a]→h'.get? b=some o:=fun b o eb hb=>(hs.2 b fun q=>hb (by refine q.symm▸?_; exact List.mem_cons_self)).trans eb
 have x:Ext m m s.heap h':=.put (zai e) keep
 have S:=k.sto.put (c:=.list vs') e keep (fun b hb=>by refine(List.mem_singleton.mp hb).symm▸?_; exact zc1 _ hn (zay _ _)) ⟨rfl,xs',c',hn,r.ext List.prefix_rfl (k.sto.keepT x)⟩
 exact zle m x ((k.ext (s':={ s with heap:=h' }) x S).toks tk) (⟨rfl,rfl,rfl⟩)
end
end
section
open W Calls PyProof.Rows
theorem za7 (l:List Nat):(zaa l).length=l.length:=by
 show(l.toArray).size=_
 rfl
theorem zhI {a b:List Nat}:zaa a=zaa b↔a=b:=by
 constructor
 ·intro h
  have:(zaa a).cps.toList=(zaa b).cps.toList:=by refine h.symm▸?_; with_reducible rfl
  simpa [zaa] using this
 ·rintro rfl; rfl
theorem zb4 (a b:List Nat):zan a b=decide (a=b):=by
 by_cases h:a=b
 ·refine(zcK.mpr h).symm▸?_
  refine(decide_eq_true h).symm▸?_
  with_reducible rfl
 ·refine(decide_eq_false h).symm▸?_
  induction q:zan a b using Bool.casesOn with
  | false=>rfl
  | true=>exact absurd (zcK.mp q) h
theorem zdn (a b:List Nat):(zaa a == zaa b)=zan a b:=by
 rw[zb4]
 by_cases h:a=b
 ·subst h; simp
 ·refine(decide_eq_false h).symm▸?_
  simpa using fun q=>h (zhI.mp q)
theorem zlr (a b:List Nat):(zaa a != zaa b)=!zan a b:=by
 show(!(zaa a == zaa b))=_
 rw[zdn]

section
variable {X:Stat}{fs:List PySem.Env}{m m':AM}{σ σ':List C}{s s':Shared}{A:Around}{E:Value→Shared→Prop}

noncomputable def EqG (F:Nat→Option Addr) (m:AM) (s:Shared) (v u:V):Prop:=∀ (A:Around) (x y:Value),Rep F m s.heap x v→Rep F m s.heap y u→A.units+zk9 v < cLine→SeqAt.EqAt A s x y true
noncomputable def zts (F:Nat→Option Addr) (m:AM) (s:Shared) (vs us:List V):Prop:=∀ (A:Around) (xs ys:List Value),Reps F m s.heap xs vs→Reps F m s.heap ys us→A.units+vdeps vs < cLine →
  xs.length=ys.length∧∀ j (h1:j < xs.length) (h2:j < ys.length),SeqAt.EqAt A s xs[j] ys[j] true
theorem zpP {F:Nat→Option Addr}{vs us:List V} (h:zts F m s vs us):EqG F m s (.tup vs) (.tup us):=by
 intro A x y rx ry hu
 have hu:A.units+(vdeps vs+1) < cLine:=hu
 refine zdb rx.inv fun a n xs ee0 e1 r1=>?_
 subst ee0
 refine zdb ry.inv fun b n' ys ee0 e2 r2=>?_
 subst ee0
 by_cases hab:a=b
 ·subst hab; exact SeqAt.EqAt.same _
 refine zaW (h A.in1 xs ys r1 r2 (by show A.units+1+_ < _; omega)) fun hl hj=>?_
 have q:=SeqAt.RcAt.tuples (A:=A) (e:=fun ua=>true) (show s.heap.IsTuple a xs.toArray from⟨_,e1,rfl,_,rfl⟩) (show s.heap.IsTuple b ys.toArray from⟨_,e2,rfl,_,rfl⟩) (by exact Nat.lt_of_le_of_lt (Nat.le_add_right _ _) ‹_›)
  (fun j h1 h2=>by simpa using hj j (by exact h1) (by exact h2))
 rw[show((List.range (min xs.toArray.size ys.toArray.size)).all (fun ua=>true)&&xs.toArray.size == ys.toArray.size)=true by simp[hl]] at q
 exact SeqAt.EqAt.of_refs hab q
theorem zpQ {F:Nat→Option Addr}:EqG F m s .none .none:=by
 intro A x y rx ry _
 refine(show x=.none from rx.inv).symm▸?_
 refine(show y=.none from ry.inv).symm▸?_
 exact SeqAt.EqAt.same _
theorem zpR {F:Nat→Option Addr}{b c:Bool} (h:(b == c)=true):EqG F m s (.bool b) (.bool c):=by
 intro A x y rx ry _
 refine(show x=.bool b from rx.inv).symm▸?_
 refine(show y=.bool c from ry.inv).symm▸?_
 exact h▸SeqAt.EqAt.bool_bool (A:=A) (s:=s) b c
theorem zpS {F:Nat→Option Addr}{i j:Int} (h:decide (i=j)=true):EqG F m s (.int i) (.int j):=by
 intro A x y rx ry _
 refine zaF rx.inv fun t ee0=>?_
 subst ee0
 refine zaF ry.inv fun t' ee0=>?_
 subst ee0
 have h:(i == j)=true:=h
 exact h▸SeqAt.EqAt.int_int (A:=A) (s:=s) i t j t'
theorem zpT {F:Nat→Option Addr}{a b:List Nat} (h:zan a b=true):EqG F m s (.str a) (.str b):=by
 intro A x y rx ry _
 refine zaF rx.inv fun t ee0=>?_
 subst ee0
 refine zaF ry.inv fun t' ee0=>?_
 subst ee0
 have q:=SeqAt.EqAt.str_str (A:=A) (s:=s) (zaa a) t (zaa b) t'
 rw[zdn,h] at q; exact q
theorem znG {F:Nat→Option Addr}{v u:V}{vs us:List V} (h0:EqG F m s v u) (h:zts F m s vs us):zts F m s (v::vs) (u::us):=by
 intro A xs ys rx ry hu
 refine bc fun hN=>?_
 obtain⟨x,xs,rfl,rx,rxs⟩:=rx.invc
 obtain⟨y,ys,rfl,ry,rys⟩:=ry.invc
 have hd:vdeps (v::vs)=max (zk9 v) (vdeps vs):=rfl
 replace hu:=hd▸hu
 have h0:=h0 A x y rx ry (Nat.lt_of_le_of_lt (Nat.add_le_add_left (Nat.le_max_left ..) _) hu)
 refine zaW (h A xs ys rxs rys (Nat.lt_of_le_of_lt (Nat.add_le_add_left (Nat.le_max_right ..) _) hu)) fun hl hj=>?_
 refine hN ?_
 refine⟨congrArg (·+1) hl,fun j h1 h2=>?_⟩
 induction j using Nat.casesOn with
 | zero=>exact h0
 | succ j=>exact hj j (Nat.lt_of_succ_lt_succ h1) (Nat.lt_of_succ_lt_succ h2)
mutual
theorem zls {F:Nat→Option Addr}:∀ v u:V,IfO (fun r=>r=true→EqG F m s v u) (veq v u)
 | .tup vs,u=>by
  induction u using V.casesOn with
  | tup us=>
   show IfO _ (veqs vs us)
   have:=eqsAt_tree (F:=F) vs us
   induction q:veqs vs us using Option.casesOn with
   | none=>exact True.intro
   | some r=>exact fun h=>zpP (this.out q h)
  | _=>exact True.intro
 | .none,u=>by
  induction u using V.casesOn with
  | none=>exact fun ua=>zpQ
  | _=>exact True.intro
 | .bool b,u=>by
  induction u using V.casesOn with
  | bool c=>exact fun h=>zpR h
  | _=>exact True.intro
 | .int i,u=>by
  induction u using V.casesOn with
  | int j=>exact fun h=>zpS h
  | _=>exact True.intro
 | .str a,u=>by
  induction u using V.casesOn with
  | str b=>exact fun h=>zpT h
  | _=>exact True.intro
 | .any,u=>by induction u using V.casesOn <;> exact True.intro
 | .loc _,u=>by induction u using V.casesOn <;> exact True.intro
 | .fn _,u=>by induction u using V.casesOn <;> exact True.intro
 | .rng _,u=>by induction u using V.casesOn <;> exact True.intro
theorem eqsAt_tree {F:Nat→Option Addr}:∀ vs us:List V,IfO (fun r=>r=true→zts F m s vs us) (veqs vs us)
 | [],[]=>fun ua A xs ys rx ry ub=>by
  refine(show xs=[] from rx.invc).symm▸?_
  refine(show ys=[] from ry.invc).symm▸?_
  exact⟨rfl,fun j h1 ua=>absurd h1 (Nat.not_lt_zero _)⟩
 | v::vs,u::us=>by
  show IfO _ (match veq v u with
   | some true=>veqs vs us
   | _=>none)
  have h0:=zls (F:=F) v u
  have h1:=eqsAt_tree (F:=F) vs us
  induction q:veq v u using Option.casesOn with
  | none=>exact True.intro
  | some b=>
   induction b using Bool.casesOn with
   | false=>exact True.intro
   | true=>
    show IfO _ (veqs vs us)
    induction q':veqs vs us using Option.casesOn with
    | none=>exact True.intro
    | some r=>exact fun h=>znG (h0.out q rfl) (h1.out q' h)
 | [],_::_=>True.intro
 | _::_,[]=>True.intro
end

noncomputable def isS (k:List Nat):Value→Bool
 | .str b _=>b == zaa k
 | _=>false
theorem zgk {F:Nat→Option Addr} (a:List Nat) {y:List V}:∀ {xs:List Value}{r:Bool},Reps F m s.heap xs y→zbt a y=some r →
  (∀ z∈xs,∀ (t:Tok) (A:Around),SeqAt.EqAt A s z (.str (zaa a) t) (isS a z))∧xs.any (isS a)=r:=by
 induction y with
 | nil=>
  intro xs r rx e
  rw[show xs=[] from rx.invc]
  exact⟨fun z hz=>absurd hz List.not_mem_nil,Option.some.inj e⟩
 | cons v vs ih=>
  intro xs r rx
  obtain⟨x,xs,rfl,rx,rxs⟩:=rx.invc
  refine IfO.out (P:=fun r=>(∀ z∈x::xs,∀ (t:Tok) (A:Around),SeqAt.EqAt A s z (.str (zaa a) t) (isS a z))∧(x::xs).any (isS a)=r) ?_
  induction v using V.casesOn with
  | str b=>
   show IfO _ (match zbt a vs with
    | some q=>some (zan a b||q)
    | none=>none)
   induction hq:zbt a vs using Option.casesOn with
   | none=>exact True.intro
   | some q=>
    refine zaW (ih rxs hq) fun h1 h2=>?_
    refine zaF rx.inv fun t' ee0=>?_
    subst ee0
    refine And.intro (fun z hz t A=>?_) ?_
    ·refine Or.elim (List.mem_cons.mp hz) ?_ ?_
     intro nm
     subst nm
     rotate_left
     intro hz
     rotate_left
     ·exact SeqAt.EqAt.str_str _ _ _ _
     ·exact h1 z hz t A
    ·show((zaa b == zaa a)||xs.any (isS a))=_
     rw[h2,zdn,zb4,zb4]
     by_cases hab:a=b
     ·subst hab; rfl
     ·rw[decide_eq_false hab,decide_eq_false (fun q=>hab q.symm)]
  | _=>exact True.intro

theorem ze0 (c:Nat):∀ (l:List Nat),zah c l=decide (c∈l)
 | []=>rfl
 | d::r=>by
  show(Nat.beq c d||zah c r)=_
  refine(ze0 c r).symm▸?_
  by_cases h:c=d
  ·subst h; simp
  ·have:Nat.beq c d=false:=by
    induction q:Nat.beq c d using Bool.casesOn with
    | false=>rfl
    | true=>exact absurd (Nat.eq_of_beq_eq_true q) h
   simp[this,h]
theorem zgl:∀ (es:List DictEntry) (kvs:List (List Nat×V)),zlj X m s.heap es kvs→(es.all fun e=>isExactStrKey e.key)=true
 | [],_,_=>rfl
 | e::es,[],h=>h.elim
 | e::es,(_,_)::r,⟨⟨⟨t,h2⟩,_⟩,h4⟩=>by
  refine List.all_cons.symm▸?_; refine(zgl es r h4).symm▸?_; refine h2.symm▸?_; rfl
theorem zhJ (key:List Nat):∀ (es:List DictEntry) (kvs:List (List Nat×V)),zlj X m s.heap es kvs →
  (∀ u,za3 key kvs=some u→∃ v,(es.find? fun e=>e.key.isStr (zaa key)).map (·.val)=some v∧Rep X.F m s.heap v u) ∧
  (za3 key kvs=none→(es.find? fun e=>e.key.isStr (zaa key)).map (·.val)=none)
 | [],[],_=>⟨fun u e=>(nomatch e),fun ua=>rfl⟩
 | [],_::_,h=>h.elim
 | e::es,[],h=>h.elim
 | e::es,(y,u)::r,⟨⟨⟨t,h2⟩,h3⟩,h4⟩=>by
  have hk:e.key.isStr (zaa key)=zan key y:=by
   rw[h2]
   show(zaa y == zaa key)=_
   rw[zdn,zb4,zb4]
   by_cases hab:key=y
   ·subst hab; rfl
   ·rw[decide_eq_false hab,decide_eq_false (fun q=>hab q.symm)]
  have hh:za3 key ((y,u)::r)=if zan key y then some u else za3 key r:=rfl
  rw[hh,List.find?_cons,hk]
  induction hq:zan key y using Bool.casesOn with
  | true=>exact⟨fun u' e=>⟨_,rfl,by have ee:=Option.some.inj e; clear e; subst ee; exact h3⟩,fun e=>by exact zhy e⟩
  | false=>exact zhJ key es r h4

structure IsD (X:Stat) (m:AM) (h:Heap) (a:Addr) (kvs:List (List Nat×V)):Prop where
 obj:∃ o es ep,h.get? a=some o∧o.cls=.type "dict" ∧ o.data=.dict es ep∧zlj X m h es.toList kvs
 ne:(a == sysModules)=false
theorem IsD.typeIs {a:Addr}{kvs:List (List Nat×V)} (T:IsD X m s.heap a kvs):s.TypeIs (.ref a) "dict":=let ⟨⟨o,es,ep,ho,hc,_⟩,_⟩:=T; ⟨_,ho,hc⟩
theorem IsD.get {a:Addr}{kvs:List (List Nat×V)} (T:IsD X m s.heap a kvs) (key:List Nat) (t:Tok) {prog:Program}{w:World}{Q:Option Value→Shared→Prop}
  (h1:∀ v u,za3 key kvs=some u→Rep X.F m s.heap v u→Q (some v) { s with toks:=s.toks+1 }) (h2:za3 key kvs=none→Q none { s with toks:=s.toks+1 }) :
  wpAny (model prog w) A (dictGet a (.str (zaa key) t)) Q E s:=by
 obtain⟨⟨o,es,ep,ho,hc,hd,hr⟩,_⟩:=T
 unfold dictGet
 try with_reducible refine wpAny_holding ?_
 refine wpAny_bind (wpAny_pyHash_str (wpAny_bind (KTD.kt_dictFind_strs (s:={ s with toks:=s.toks+1 }) ho hd (by simpa using zgl es.toList kvs hr) ?_)))
 have hq:Q (findBy (fun k v=>v.isStr k) es (zaa key)) { s with toks:=s.toks+1 }:=by
  have hf:findBy (fun k v=>v.isStr k) es (zaa key)=(es.toList.find? fun e=>e.key.isStr (zaa key)).map (·.val):=by
   obtain⟨l⟩:=es
   simp[findBy]
  refine hf.symm▸?_
  refine zaW (zhJ key es.toList kvs hr) fun f1 f2=>?_
  induction hat:za3 key kvs using Option.casesOn with
  | some d=>refine zao (f1 d hat) fun v hv hfl=>?_; refine hv.symm▸?_; exact h1 v d hat hfl
  | none=>refine(f2 hat).symm▸?_; exact h2 hat
 rw[findBy_of_findIdx?] at hq
 cases hi:es.findIdx? fun e=>e.key.isStr (zaa key) with
 | none=>replace hq:=hi▸hq; exact wpAny_pure hq
 | some i=>replace hq:=hi▸hq; exact wpAny_bind (wpAny_dictEntries (s:={ s with toks:=s.toks+1 }) ho hd (wpAny_pure hq))
theorem Ok.dict (k:Ok X fs m σ s) (hb:X.base.get? sysModules≠none) {n:Nat}{kvs:List (List Nat×V)}{val:Value} (r:Rep X.F m s.heap val (.loc n)) (e:σ[n]?=some (.dict kvs)):∃ a,val=.ref a∧IsD X m s.heap a kvs:=by
 refine zfl (k.loc r e) fun p ee0 hp ua rst=>?_
 subst ee0
 refine zeC rst ?_
 clear rst
 intro o es ep ho hc hd hr
 refine⟨_,rfl,⟨o,es,ep,ho,hc,hd,hr⟩,?_⟩
 have:=k.sto.ge (b:=p.1) ⟨p,zai hp,(k.sto.own p (zai hp)).1⟩
 induction q:p.1 == sysModules using Bool.casesOn with
 | false=>rfl
 | true=>
  have q':p.1=sysModules:=by exact of_decide_eq_true q
  rw[q'] at this
  exact absurd this hb

section
variable {prog:Program}{w:World}{a:Addr}{kvs:List (List Nat×V)}{key:List Nat}{tk:Tok}
theorem IsD.item {value slice:Expr}{Q:Value→Shared→Prop}{u:V} (T:IsD X m s.heap a kvs) (hu:za3 key kvs=some u) (h:∀ v,Rep X.F m s.heap v u→Q v { s with toks:=s.toks+1 })
  (hs:subscripted slice false (.ref a) (.str (zaa key) tk)=operate [.ref a,.str (zaa key) tk] (getItem (.ref a) (.str (zaa key) tk))) :
  wpAny (model prog w) A (subscriptTail value slice (.ref a) (.str (zaa key) tk)) Q E s:=by
 refine tail_any T.typeIs PySem.slot_dict_getitem.lookup ?_ hs
 unfold getItem
 try with_reducible refine wpAny_holding ?_
 refine wpAny_bind (wpAny_sequenceKey T.typeIs (by decide) ?_)
 refine wpAny_bind (wpAny_callSpecial?_slot (name:=Str.ofString "__getitem__") T.typeIs PySem.slot_dict_getitem
  (wpAny_call_entry PySem.slot_dict_getitem T.typeIs PySem.entry_dict_getitem ?_ (PySem.args_dict_getitem _ _)))
 show wpAny _ _ (dictGet a (.str (zaa key) tk) >>= _) _ _ s
 exact wpAny_bind (T.get key tk (fun v d ha hv=>by replace ha:=hu▸ha; have ee:=Option.some.inj ha; clear ha; subst ee; exact wpAny_pure ⟨v,rfl,wpAny_pure (h v hv)⟩) fun hn=>by replace hn:=hu▸hn; exact zhy hn)
theorem IsD.has {Q:Value→Shared→Prop} (T:IsD X m s.heap a kvs) (h:Q (.bool (za3 key kvs).isSome) { s with toks:=s.toks+1 }):wpAny (model prog w) A (compareOp .In (.str (zaa key) tk) (.ref a)) Q E s:=by
 show wpAny _ _ (do return .bool (← contains (.ref a) (.str (zaa key) tk))) Q E s
 refine wpAny_bind ?_
 unfold contains
 try with_reducible refine wpAny_holding ?_
 refine wpAny_bind (wpAny_specialOf T.typeIs PySem.slot_dict_contains.lookup ?_)
 show wpAny _ _ (if(some (Value.builtin "dict.__contains__") == some Value.none)=true then _ else _) _ E s
 rw[if_neg (by rw[beq_builtin_none]; exact Bool.false_ne_true)]
 refine wpAny_bind (wpAny_callSpecialUnlessNone?_slot (name:=Str.ofString "__contains__") T.typeIs PySem.slot_dict_contains
  (wpAny_call_entry PySem.slot_dict_contains T.typeIs PySem.entry_dict_contains ?_ (PySem.args_dict_contains _ _)))
 show wpAny _ _ (dictGet a (.str (zaa key) tk) >>= _) _ _ s
 refine wpAny_bind (T.get key tk (fun v d ha ua=>?_) fun hn=>?_)
 ·replace h:=ha▸h
  show wpAny _ _ (ret (.bool true)) _ _ _
  exact wpAny_pure ⟨_,rfl,wpAny_truthy_bool (wpAny_pure h)⟩
 ·replace h:=hn▸h
  show wpAny _ _ (Builtin.Dict.pendingKey? a (.str (zaa key) tk) >>= _) _ _ _
  exact wpAny_bind (wpAny_pendingKey_other T.ne (wpAny_pure ⟨_,rfl,wpAny_truthy_bool (wpAny_pure h)⟩))
theorem IsD.hasNot {Q:Value→Shared→Prop} (T:IsD X m s.heap a kvs) (h:Q (.bool !(za3 key kvs).isSome) { s with toks:=s.toks+1 }):wpAny (model prog w) A (compareOp .NotIn (.str (zaa key) tk) (.ref a)) Q E s:=by
 show wpAny _ _ (do return .bool (!(← contains (.ref a) (.str (zaa key) tk)))) Q E s
 refine wpAny_bind ?_
 unfold contains
 try with_reducible refine wpAny_holding ?_
 refine wpAny_bind (wpAny_specialOf T.typeIs PySem.slot_dict_contains.lookup ?_)
 show wpAny _ _ (if(some (Value.builtin "dict.__contains__") == some Value.none)=true then _ else _) _ E s
 rw[if_neg (by rw[beq_builtin_none]; exact Bool.false_ne_true)]
 refine wpAny_bind (wpAny_callSpecialUnlessNone?_slot (name:=Str.ofString "__contains__") T.typeIs PySem.slot_dict_contains
  (wpAny_call_entry PySem.slot_dict_contains T.typeIs PySem.entry_dict_contains ?_ (PySem.args_dict_contains _ _)))
 show wpAny _ _ (dictGet a (.str (zaa key) tk) >>= _) _ _ s
 refine wpAny_bind (T.get key tk (fun v d ha ua=>?_) fun hn=>?_)
 ·rw[ha] at h
  show wpAny _ _ (ret (.bool true)) _ _ _
  exact wpAny_pure ⟨_,rfl,wpAny_truthy_bool (wpAny_pure h)⟩
 ·rw[hn] at h
  show wpAny _ _ (Builtin.Dict.pendingKey? a (.str (zaa key) tk) >>= _) _ _ _
  exact wpAny_bind (wpAny_pendingKey_other T.ne (wpAny_pure ⟨_,rfl,wpAny_truthy_bool (wpAny_pure h)⟩))
theorem IsD.meets_get2 {dflt:Value}:MeetsIn prog w (Builtin.«dict.get» ⟨[.ref a,.str (zaa key) tk,dflt],[]⟩) (fun ua R s=>IsD X m s.heap a kvs∧(∀ v u,za3 key kvs=some u→Rep X.F m s.heap v u→R (.ok (.ret v)) { s with toks:=s.toks+1 })∧(za3 key kvs=none→R (.ok (.ret dflt)) { s with toks:=s.toks+1 })):=
 .of_wp fun A R s ww=>ziM ww fun T h1 h2=>by
  show wpAny _ _ (dictGet a (.str (zaa key) tk) >>= _) _ _ s
  refine wpAny_bind (T.get key tk (fun v d ha hv=>wpAny_pure ⟨v,rfl,h1 v d ha hv⟩) fun hn=>?_)
  show wpAny _ _ (Builtin.Dict.missed a (.str (zaa key) tk) >>= _) _ _ _
  exact wpAny_bind (wpAny_missed_other T.ne (wpAny_pure ⟨dflt,rfl,h2 hn⟩))
theorem IsD.get2 {Q:Value→Shared→Prop}{dflt:Value} (T:IsD X m s.heap a kvs) (h1:∀ v u,za3 key kvs=some u→Rep X.F m s.heap v u→Q v { s with toks:=s.toks+1 }) (h2:za3 key kvs=none→Q dflt { s with toks:=s.toks+1 }) :
  wpAny (model prog w) A (call (.builtin "dict.get") [.ref a,.str (zaa key) tk,dflt]) Q E s:=
 call_meetsIn PySem.F.slot_dict_get T.typeIs PySem.F.entry_dict_get (PySem.F.args_dict_get_3 _ _ _) (IsD.meets_get2 (X:=X) (m:=m) (kvs:=kvs)) ⟨T,fun v u a b=>h1 v u a b,fun hn=>h2 hn⟩
end

theorem zhK:∀ {x y:List V}{q:Bool},veqs x y=some q→q=true
 | [],[],q,e=>by have ee:=Option.some.inj e; clear e; subst ee; rfl
 | v::vs,u::us,q,e=>by
  have e':(match veq v u with
   | some true=>veqs vs us
   | _=>none)=some q:=e
  split at e'
  ·exact zhK e'
  ·exact zaA e'
 | [],_::_,q,e=>by exact zaA e
 | _::_,[],q,e=>by exact zaA e
noncomputable def zgm (X:Stat) (m:AM) (A:Around) (E:Value→Shared→Prop) (s:Shared) (op:CmpOp) (a b:V) (r:Bool):Prop:=
 ∀ (va vb:Value),Rep X.F m s.heap va a→Rep X.F m s.heap vb b→∀ (prog:Program) (w:World) (Q:Value→Shared→Prop),(∀ tk,Q (.bool r) { s with toks:=tk })→wpAny (model prog w) A (compareOp op va vb) Q E s
theorem zrK (a b:V):IfO (zgm X m A E s .Eq a b) (zf5 σ .Eq a b):=by
 induction a using V.casesOn <;> induction b using V.casesOn <;> first | exact True.intro | skip
 ·intro va vb ra rb prog w Q h
  refine zaF ra.inv fun t ee0=>?_
  subst ee0
  refine zaF rb.inv fun t' ee0=>?_
  subst ee0
  exact eq_int (h s.toks)
 ·intro va vb ra rb prog w Q h
  refine zaF ra.inv fun t ee0=>?_
  subst ee0
  refine zaF rb.inv fun t' ee0=>?_
  subst ee0
  exact eq_str (by rw[zdn]; exact h s.toks)
set_option tactic.hygienic true in
theorem zkp (hu:A.units+100 < cLine) (x y:List V):IfO (zgm X m A E s .NotEq (.tup x) (.tup y)) (zf5 σ .NotEq (.tup x) (.tup y)):=by
 show IfO _ (match veqs x y with
  | some r=>if vdeps x≤60 then some (!r) else none
  | none=>none)
 split
 ·rename_i q hq
  split
  ·rename_i hd
   intro va vb ra rb prog w Q h
   refine zdb ra.inv fun a n xs ee0 e1 r1=>?_
   subst ee0
   refine zdb rb.inv fun b n' ys ee0 e2 r2=>?_
   subst ee0
   have hq':q=true:=zhK hq
   subst hq'
   obtain⟨hl,hj⟩:=(eqsAt_tree x y).out hq rfl A.in1 xs ys r1 r2 (by show A.units+1+_ < _; omega)
   have q:=SeqAt.RcNeAt.tuples (A:=A) (e:=fun ua=>true) (show s.heap.IsTuple a xs.toArray from⟨_,e1,rfl,_,rfl⟩) (show s.heap.IsTuple b ys.toArray from⟨_,e2,rfl,_,rfl⟩) (by exact Nat.lt_of_le_of_lt (Nat.le_add_right _ _) ‹_›)
    (fun j h1 h2=>by simpa using hj j (by exact h1) (by exact h2))
   rw[show((List.range (min xs.toArray.size ys.toArray.size)).all (fun ua=>true)&&xs.toArray.size == ys.toArray.size)=true by simp[hl]] at q
   exact q prog w E Q (h _)
  ·exact True.intro
 ·exact True.intro
theorem zkq (k:Ok X fs m σ s) (hu:A.units+100 < cLine) (x y:Nat):IfO (zgm X m A E s .NotEq (.loc x) (.loc y)) (zf5 σ .NotEq (.loc x) (.loc y)):=by
 show IfO _ (match za4 σ (.loc x),za4 σ (.loc y) with
  | some [],some []=>some false
  | some (_::_),some []=>some true
  | _,_=>none)
 cases h1:za4 σ (.loc x) with
 | none=>exact True.intro
 | some l=>
  cases h2:za4 σ (.loc y) with
  | none=>induction l using List.casesOn <;> exact True.intro
  | some l'=>
   induction l' using List.casesOn with
   | cons _ _=>induction l using List.casesOn <;> exact True.intro
   | nil=>
    have go:zgm X m A E s .NotEq (.loc x) (.loc y) (!l.isEmpty):=by
     intro va vb ra rb prog w Q h
     refine zao (zck h1) fun n1 q1 g1=>?_
     refine zao (zck h2) fun n2 q2 g2=>?_
     cases q1; cases q2
     refine zeC (k.list ra g1) fun la xs c1 ee0 ua o1 r1=>?_
     subst ee0
     refine zeC (k.list rb g2) fun lb ys c2 ee0 ua o2 r2=>?_
     subst ee0
     cases r2
     cases r1 with
     | nil=>
      have q:=SeqAt.RcNeAt.lists (A:=A) (e:=fun ua=>true) (zaI o1) (zaI o2) rfl (by exact Nat.lt_of_le_of_lt (Nat.le_add_right _ _) ‹_›) (fun j h1 ua=>absurd h1 (by trivial))
      exact q prog w E Q (h _)
     | cons _ _=>
      have q:=SeqAt.RcNeAt.lists_lengths (A:=A) (zaI o1) (zaI o2) (by rfl) (by exact Nat.lt_of_le_of_lt (Nat.le_add_right _ _) ‹_›)
      exact q prog w E Q (h _)
    induction l using List.casesOn <;> exact go
theorem zrL (k:Ok X fs m σ s) (hu:A.units+100 < cLine) (a b:V):IfO (zgm X m A E s .NotEq a b) (zf5 σ .NotEq a b):=by
 induction a using V.casesOn <;> induction b using V.casesOn <;> first | exact True.intro | skip
 ·intro va vb ra rb prog w Q h
  refine zaF ra.inv fun t ee0=>?_
  subst ee0
  refine zaF rb.inv fun t' ee0=>?_
  subst ee0
  exact ne_int (h s.toks)
 ·intro va vb ra rb prog w Q h
  refine zaF ra.inv fun t ee0=>?_
  subst ee0
  refine zaF rb.inv fun t' ee0=>?_
  subst ee0
  exact ne_str (by rw[zlr]; exact h s.toks)
 ·exact zkp hu _ _
 ·exact zkq k hu _ _
theorem zrM (a b:V):IfO (zgm X m A E s .Lt a b) (zf5 σ .Lt a b):=by
 induction a using V.casesOn <;> induction b using V.casesOn <;> first | exact True.intro | skip
 intro va vb ra rb prog w Q h
 refine zaF ra.inv fun t ee0=>?_
 subst ee0
 refine zaF rb.inv fun t' ee0=>?_
 subst ee0
 exact lt_int (h s.toks)
theorem zrN (a b:V):IfO (zgm X m A E s .LtE a b) (zf5 σ .LtE a b):=by
 induction a using V.casesOn <;> induction b using V.casesOn <;> first | exact True.intro | skip
 intro va vb ra rb prog w Q h
 refine zaF ra.inv fun t ee0=>?_
 subst ee0
 refine zaF rb.inv fun t' ee0=>?_
 subst ee0
 exact le_int (h s.toks)
theorem zrO (a b:V):IfO (zgm X m A E s .Gt a b) (zf5 σ .Gt a b):=by
 induction a using V.casesOn <;> induction b using V.casesOn <;> first | exact True.intro | skip
 intro va vb ra rb prog w Q h
 refine zaF ra.inv fun t ee0=>?_
 subst ee0
 refine zaF rb.inv fun t' ee0=>?_
 subst ee0
 exact gt_int (h s.toks)
theorem zrP (a b:V):IfO (zgm X m A E s .GtE a b) (zf5 σ .GtE a b):=by
 induction a using V.casesOn <;> induction b using V.casesOn <;> first | exact True.intro | skip
 intro va vb ra rb prog w Q h
 refine zaF ra.inv fun t ee0=>?_
 subst ee0
 refine zaF rb.inv fun t' ee0=>?_
 subst ee0
 exact ge_int (h s.toks)
theorem zpU {va:Value}{a:V}{prog:Program}{w:World}{Q:Value→Shared→Prop} (ra:Rep X.F m s.heap va a):IfO (fun r=>Q (.bool r) s→wpAny (model prog w) A (compareOp .Is va .none) Q E s) (zf5 σ .Is a .none):=by
 cases ra <;> first | exact True.intro | exact fun h=>wpAny_is_plain rfl h
theorem zkr {va:Value}{a:V}{prog:Program}{w:World}{Q:Value→Shared→Prop} (ra:Rep X.F m s.heap va a):IfO (fun r=>Q (.bool r) s→wpAny (model prog w) A (compareOp .IsNot va .none) Q E s) (zf5 σ .IsNot a .none):=by
 cases ra <;> first | exact True.intro | exact fun h=>wpAny_isNot_plain rfl h
theorem zrQ {a b:V}{r:Bool} (e:zf5 σ .Is a b=some r):zgm X m A E s .Is a b r:=by
 have hb:IfT (b=.none) (zf5 σ .Is a b).isSome:=by
  induction b using V.casesOn <;> first | exact True.intro | exact .mk fun ua=>rfl
 have:=hb.out (by refine e.symm▸?_; rfl)
 subst this
 intro va vb ra rb prog w Q h
 obtain rfl:=rb.inv
 exact(zpU ra).out e (h s.toks)
theorem zlt {a b:V}{r:Bool} (e:zf5 σ .IsNot a b=some r):zgm X m A E s .IsNot a b r:=by
 have hb:IfT (b=.none) (zf5 σ .IsNot a b).isSome:=by
  induction b using V.casesOn <;> first | exact True.intro | exact .mk fun ua=>rfl
 have:=hb.out (by refine e.symm▸?_; rfl)
 subst this
 intro va vb ra rb prog w Q h
 obtain rfl:=rb.inv
 exact(zkr ra).out e (h s.toks)
theorem zrR (x:List Nat) (y:List V) {r:Bool} (e:zbt x y=some r):zgm X m A E s .In (.str x) (.tup y) r:=by
 intro va vb ra rb prog w Q h
 refine zaF ra.inv fun t ee0=>?_
 subst ee0
 refine zdb rb.inv fun la n xs ee0 e1 r1=>?_
 subst ee0
 refine zaW (zgk x r1 e) fun h1 h2=>?_
 have h0:=h s.toks
 refine SeqAt.in_tupleAt (isS x) ⟨_,e1,rfl,_,rfl⟩ (fun z hz=>h1 z (by simpa using hz) t _) ?_
 rw[← h2] at h0
 simpa using h0
theorem zlu (x:List Nat) (y:List V) {r:Bool} (e:zbt x y=some r):zgm X m A E s .NotIn (.str x) (.tup y) (!r):=by
 intro va vb ra rb prog w Q h
 refine zaF ra.inv fun t ee0=>?_
 subst ee0
 refine zdb rb.inv fun la n xs ee0 e1 r1=>?_
 subst ee0
 refine zaW (zgk x r1 e) fun h1 h2=>?_
 have h0:=h s.toks
 refine SeqAt.notIn_tupleAt (isS x) ⟨_,e1,rfl,_,rfl⟩ (fun z hz=>h1 z (by simpa using hz) t _) ?_
 replace h0:=h2.symm▸h0
 simpa using h0
theorem zrS (c:Nat) (y:List Nat):zgm X m A E s .In (.str [c]) (.str y) (zah c y):=by
 intro va vb ra rb prog w Q h
 refine zaF ra.inv fun t ee0=>?_
 subst ee0
 refine zaF rb.inv fun t' ee0=>?_
 subst ee0
 refine SB.contains ?_
 have:=StrLaws.found_one (zaa y) c
 refine(show zaa [c]=(⟨#[c]⟩:Str) from rfl).symm▸?_
 refine(show Txt.contains (zaa y) ⟨#[c]⟩=_ from this).symm▸?_
 have e2:(decide (c∈(zaa y).cps.toList))=zah c y:=by
  rw[ze0,Bool.eq_iff_iff]
  simp only[zaa]
  exact decide_eq_true_iff.trans decide_eq_true_iff.symm
 refine e2.symm▸?_; exact h s.toks
set_option tactic.hygienic true in
theorem zrT (k:Ok X fs m σ s) (hb:X.base.get? sysModules≠none) (x:List Nat) (n:Nat):IfO (zgm X m A E s .In (.str x) (.loc n)) (match σ[n]? with
  | some (.dict kvs)=>some (za3 x kvs).isSome
  | _=>none):=by
 split
 ·rename_i kvs hs
  intro va vb ra rb prog w Q h
  obtain⟨la,rfl,T⟩:=k.dict hb rb hs
  obtain⟨t,rfl⟩:=ra.inv
  exact T.has (h _)
 ·exact True.intro
set_option tactic.hygienic true in
theorem zlv (k:Ok X fs m σ s) (hb:X.base.get? sysModules≠none) (x:List Nat) (n:Nat):IfO (zgm X m A E s .NotIn (.str x) (.loc n)) (match σ[n]? with
  | some (.dict kvs)=>some (!(za3 x kvs).isSome)
  | _=>none):=by
 split
 ·rename_i kvs hs
  intro va vb ra rb prog w Q h
  refine zao (k.dict hb rb hs) fun la ee0 T=>?_
  subst ee0
  refine zaF ra.inv fun t ee0=>?_
  subst ee0
  exact T.hasNot (h _)
 ·exact True.intro
set_option tactic.hygienic true in
theorem zrU (k:Ok X fs m σ s) (hb:X.base.get? sysModules≠none) (a b:V):IfO (zgm X m A E s .In a b) (zf5 σ .In a b):=by
 induction a using V.casesOn <;> first | exact True.intro | skip
 rename_i x
 induction b using V.casesOn with
 | tup y=>
  have go:IfO (zgm X m A E s .In (.str x) (.tup y)) (zbt x y):=by
   induction e:zbt x y using Option.casesOn with
   | none=>exact True.intro
   | some r=>exact zrR x y e
  match x,go with
  | [],go=>exact go
  | [_],go=>exact go
  | _::_::_,go=>exact go
 | str y=>
  match x with
  | []=>exact True.intro
  | [c]=>exact zrS c y
  | _::_::_=>exact True.intro
 | loc n=>
  have go:=zrT (A:=A) (E:=E) k hb x n
  match x,go with
  | [],go=>exact go
  | [_],go=>exact go
  | _::_::_,go=>exact go
 | _=>
  match x with
  | []=>exact True.intro
  | [_]=>exact True.intro
  | _::_::_=>exact True.intro
set_option tactic.hygienic true in
theorem zlw (k:Ok X fs m σ s) (hb:X.base.get? sysModules≠none) (a b:V):IfO (zgm X m A E s .NotIn a b) (zf5 σ .NotIn a b):=by
 induction a using V.casesOn <;> first | exact True.intro | skip
 rename_i x
 induction b using V.casesOn with
 | tup y=>
  show IfO _ (match zbt x y with
   | some r=>some (!r)
   | none=>none)
  induction e:zbt x y using Option.casesOn with
  | none=>exact True.intro
  | some r=>exact zlu x y e
 | loc n=>exact zlv k hb x n
 | _=>exact True.intro
theorem zeF (k:Ok X fs m σ s) (hb:X.base.get? sysModules≠none) (hu:A.units+100 < cLine) {op:CmpOp}{a b:V}{va vb:Value} (ra:Rep X.F m s.heap va a) (rb:Rep X.F m s.heap vb b) {r:Bool} (e:zf5 σ op a b=some r)
  {prog:Program}{w:World}{Q:Value→Shared→Prop} (h:∀ tk,Q (.bool r) { s with toks:=tk }):wpAny (model prog w) A (compareOp op va vb) Q E s:=by
 have:zgm X m A E s op a b r:=by
  induction op using PySem.CmpOp.casesOn with
  | Eq=>exact(zrK a b).out e
  | NotEq=>exact(zrL k hu a b).out e
  | Lt=>exact(zrM a b).out e
  | LtE=>exact(zrN a b).out e
  | Gt=>exact(zrO a b).out e
  | GtE=>exact(zrP a b).out e
  | Is=>exact zrQ e
  | IsNot=>exact zlt e
  | In=>exact(zrU k hb a b).out e
  | NotIn=>exact(zlw k hb a b).out e
 exact this _ _ ra rb _ _ _ h
end
end
section
open W Calls PyProof.Rows
theorem zhL {i:Int} (h:zb1 i=true):Builtin.Int.intBits i≤64:=by
 have h:i.natAbs < 18446744073709551616:=of_decide_eq_true h
 unfold Builtin.Int.intBits
 split
 ·decide
 ·by_cases hz:i.natAbs=0
  ·refine hz.symm▸?_; decide
  ·have:=(Nat.log2_lt hz (k:=64)).mpr (by simpa using h)
   assumption
theorem zrV {a b:Int} (h:(zb1 a||zb1 b)=true):IntMulOk a b:=by
 unfold IntMulOk
 intro q
 refine zaW (Bool.and_eq_true_iff.mp q) fun q1 ua=>?_
 refine zaW (Bool.and_eq_true_iff.mp q1) fun q1 q2=>?_
 have q1:64 < Builtin.Int.intBits a:=of_decide_eq_true q1
 have q2:64 < Builtin.Int.intBits b:=of_decide_eq_true q2
 refine Or.elim (Bool.or_eq_true _ _▸h) ?_ ?_
 intro h
 rotate_left
 intro h
 rotate_left
 ·have:=zhL h; exact absurd ‹_› (Nat.not_le_of_lt ‹_›)
 ·have:=zhL h; exact absurd ‹_› (Nat.not_le_of_lt ‹_›)
theorem zrW {a b:Int} (h:zb1 b=true):Builtin.divisionGoesByPylong a b=false:=by
 unfold Builtin.divisionGoesByPylong
 have h:b.natAbs < 18446744073709551616:=of_decide_eq_true h
 have:(if b == 0 then 0 else b.natAbs.log2 / 30+1)≤300:=by
  split
  ·exact Nat.le_of_ble_eq_true rfl
  ·by_cases hz:b.natAbs=0
   ·refine hz.symm▸?_; decide
   ·have:=(Nat.log2_lt hz (k:=64)).mpr (by simpa using h)
    omega
 simp only[Bool.and_eq_false_iff,decide_eq_false_iff_not]
 left; omega

section
variable {X:Stat}{fs:List PySem.Env}{m m':AM}{σ σ':List C}{s s':Shared}{A:Around}{E:Value→Shared→Prop}

theorem zdo (a b:List Nat):zaa a++zaa b=zaa (a++b):=by
 show(⟨(zaa a).cps++(zaa b).cps⟩:Str)=_
 simp[zaa]

noncomputable def znp (X:Stat) (fs:List PySem.Env) (m:AM) (s:Shared) (A:Around) (E:Value→Shared→Prop) (op:Operator) (a b:V) (r:R V):Prop:=
 ∀ (va vb:Value),Rep X.F m s.heap va a→Rep X.F m s.heap vb b→∀ (prog:Program) (w:World),wpAny (model prog w) A (binaryOp op va vb) (PV X fs m s r) E s
variable (k:Ok X fs m σ s)
include k
theorem znH (x y:List Nat):IfS (znp X fs m s A E .Add (.str x) (.str y)) (zrg σ (.str x) (.str y)):=by
 show IfS _ (if(x++y).length≤zaP then _ else _)
 split
 ·rename_i hl
  intro va vb ra rb prog w
  refine zaF ra.inv fun t ee0=>?_
  subst ee0
  refine zaF rb.inv fun t' ee0=>?_
  subst ee0
  refine add_str (fun t' tk=>?_) ?_
  ·rw[zdo]
   exact za1 k tk (.str _ _)
  ·rw[za7,za7,sizeLine_eq]
   rw[List.length_append] at hl
   unfold zaP at hl
   exact Nat.le_trans ‹_› (by decide)
 ·exact True.intro
theorem znI (x y:List V):IfS (znp X fs m s A E .Add (.tup x) (.tup y)) (zrg σ (.tup x) (.tup y)):=by
 show IfS _ (if(x++y).length≤LIM then _ else _)
 split
 ·rename_i hl
  intro va vb ra rb prog w
  replace hl:=List.length_append▸hl
  refine bc fun hN=>?_
  refine zdb ra.inv fun a1 n1 xs ee0 e1 r1=>?_
  subst ee0
  refine zdb rb.inv fun b1 n2 ys ee0 e2 r2=>?_
  subst ee0
  have rt:Rep X.F m s.heap (.ref a1) (.tup x):=.tup e1 r1
  have ru:Rep X.F m s.heap (.ref b1) (.tup y):=.tup e2 r2
  by_cases hv:xs=[]
  ·subst hv
   cases r1
   refine hN ?_
   exact concat_meets ⟨_,e1,rfl⟩ ⟨_,e2,rfl⟩ noFill_tuple_add seq_tuple_add PySem.F.slot_tuple_add PySem.F.entry_tuple_add (PySem.F.args_tuple_add_2 _ _)
    (AutoSeq1.tuple___add___tuple_tuple_0 a1 _ n1 b1 _ n2 rfl) ⟨e1,e2,zct k ru⟩
  ·by_cases hw:ys=[]
   ·subst hw
    cases r2
    refine hN ?_
    exact concat_meets ⟨_,e1,rfl⟩ ⟨_,e2,rfl⟩ noFill_tuple_add seq_tuple_add PySem.F.slot_tuple_add PySem.F.entry_tuple_add (PySem.F.args_tuple_add_2 _ _)
     (AutoSeq1.tuple___add___tuple_tuple_1 a1 _ n1 b1 _ n2 (by simpa using hv) rfl) ⟨e1,e2,zct k (by rw[List.append_nil]; exact rt)⟩
   ·refine hN ?_
    refine concat_meets ⟨_,e1,rfl⟩ ⟨_,e2,rfl⟩ noFill_tuple_add seq_tuple_add PySem.F.slot_tuple_add PySem.F.entry_tuple_add (PySem.F.args_tuple_add_2 _ _)
     (AutoSeq1.tuple___add___tuple_tuple_2 a1 _ n1 b1 _ n2 (by simpa using hv) (by simpa using hw) (by
      refine List.size_toArray.symm▸?_; refine List.size_toArray.symm▸?_; refine r1.length.symm▸?_; refine r2.length.symm▸?_; refine sizeLine_eq.symm▸?_; unfold LIM at hl; exact Nat.le_trans ‹_› (by decide))) ⟨e1,e2,?_⟩
    have:=zlq k (r1.append r2) s.toks
    refine(show xs.toArray++ys.toArray=(xs++ys).toArray by simp).symm▸?_
    exact this
 ·exact True.intro
theorem zlx (x y:Nat):IfS (znp X fs m s A E .Add (.loc x) (.loc y)) (zrg σ (.loc x) (.loc y)):=by
 show IfS _ (ztH σ (za4 σ (.loc x)) (za4 σ (.loc y)))
 cases h1:za4 σ (.loc x) with
 | none=>exact True.intro
 | some u=>
  cases h2:za4 σ (.loc y) with
  | none=>exact True.intro
  | some v=>
   show IfS _ (if(u++v).length≤LIM then _ else _)
   split
   ·rename_i hl
    intro va vb ra rb prog w
    replace hl:=List.length_append▸hl
    refine zao (zck h1) fun n1 q1 g1=>?_
    refine zao (zck h2) fun n2 q2 g2=>?_
    cases q1; cases q2
    refine zeC (k.list ra g1) fun la xs c1 ee0 ua o1 r1=>?_
    subst ee0
    refine zeC (k.list rb g2) fun lb ys c2 ee0 ua o2 r2=>?_
    subst ee0
    refine concat_meets ⟨_,o1,rfl⟩ ⟨_,o2,rfl⟩ noFill_list_add seq_list_add PySem.F.slot_list_add PySem.F.entry_list_add (PySem.F.args_list_add_2 _ _)
     (AutoSeq1.list___add___list_list_0 la _ c1 lb _ c2 (by refine List.size_toArray.symm▸?_; refine List.size_toArray.symm▸?_; refine r1.length.symm▸?_; refine r2.length.symm▸?_; refine sizeLine_eq.symm▸?_; unfold LIM at hl; exact Nat.le_trans ‹_› (by decide))) ⟨o1,o2,?_⟩
    have:=ziO k (r1.append r2) s.toks
    refine(show xs.toArray++ys.toArray=(xs++ys).toArray by simp).symm▸?_
    exact this
   ·exact True.intro
theorem zks (a b:V):IfS (znp X fs m s A E .Add a b) (zrg σ a b):=by
 induction a using V.casesOn <;> induction b using V.casesOn <;> first | exact True.intro | skip
 ·intro va vb ra rb prog w
  refine zaF ra.inv fun t ee0=>?_
  subst ee0
  refine zaF rb.inv fun t' ee0=>?_
  subst ee0
  exact add_int (za1 k _ (.int _ _))
 ·intro va vb ra rb prog w
  refine zkh ra.inv fun i t ee0=>?_
  subst ee0
  refine zaF rb.inv fun t' ee0=>?_
  subst ee0
  exact add_int (za1 k _ (.any _ _))
 ·exact znH k _ _
 ·exact znI k _ _
 ·exact zlx k _ _
theorem ziP (a b:V):IfS (znp X fs m s A E .Sub a b) (zrt σ a b):=by
 induction a using V.casesOn <;> induction b using V.casesOn <;> first | exact True.intro | skip
 ·intro va vb ra rb prog w
  obtain⟨t,rfl⟩:=ra.inv
  obtain⟨t',rfl⟩:=rb.inv
  exact sub_int (za1 k _ (.int _ _))
 ·intro va vb ra rb prog w
  refine zkh ra.inv fun i t ee0=>?_
  subst ee0
  obtain⟨t',rfl⟩:=rb.inv
  exact sub_int (za1 k _ (.any _ _))
set_option tactic.hygienic true in
theorem zkt (a b:V):IfS (znp X fs m s A E .Mult a b) (zuD σ a b):=by
 induction a using V.casesOn <;> induction b using V.casesOn <;> first | exact True.intro | skip
 rename_i x y
 show IfS _ (if(zb1 x||zb1 y)=true then _ else _)
 split
 ·rename_i hf
  intro va vb ra rb prog w
  obtain⟨t,rfl⟩:=ra.inv
  obtain⟨t',rfl⟩:=rb.inv
  exact mul_int (za1 k _ (.int _ _)) (zrV hf)
 ·exact True.intro
set_option tactic.hygienic true in
theorem zku (a b:V):IfS (znp X fs m s A E .FloorDiv a b) (zuE σ a b):=by
 induction a using V.casesOn <;> induction b using V.casesOn <;> first | exact True.intro | skip
 rename_i x y
 show IfS _ (if(decide (y=0)||!zb1 y)=true then _ else _)
 split
 ·exact True.intro
 ·rename_i hf
  intro va vb ra rb prog w
  refine zaF ra.inv fun t ee0=>?_
  subst ee0
  refine zaF rb.inv fun t' ee0=>?_
  subst ee0
  simp only[Bool.or_eq_true,decide_eq_true_eq,Bool.not_eq_true',not_or,Bool.not_eq_false] at hf
  exact floordiv_int hf.1 (za1 k _ (.int _ _)) (.inl (zrW hf.2))
set_option tactic.hygienic true in
theorem zkv (a b:V):IfS (znp X fs m s A E .Mod a b) (zuF σ a b):=by
 induction a using V.casesOn <;> induction b using V.casesOn <;> first | exact True.intro | skip
 rename_i x y
 show IfS _ (if y=0 then _ else _)
 split
 ·exact True.intro
 ·rename_i hf
  intro va vb ra rb prog w
  obtain⟨t,rfl⟩:=ra.inv
  obtain⟨t',rfl⟩:=rb.inv
  exact mod_int' hf (za1 k _ (.int _ _))
set_option tactic.hygienic true in
theorem zkw (a b:V):IfS (znp X fs m s A E .Pow a b) (zuG σ a b):=by
 induction a using V.casesOn <;> induction b using V.casesOn <;> first | exact True.intro | skip
 rename_i x y
 show IfS _ (if x=10∧y=18 then _ else _)
 split
 ·rename_i hf
  refine zaW hf ?_
  clear hf
  intro ee0 ee1
  subst ee0
  subst ee1
  intro va vb ra rb prog w
  refine zaF ra.inv fun t ee0=>?_
  subst ee0
  refine zaF rb.inv fun t' ee0=>?_
  subst ee0
  exact pow_int (by decide) (by decide) (za1 k _ (.int _ _))
 ·exact True.intro
theorem zkx {prog:Program}{w:World}{a b:V}{va vb:Value} (ra:Rep X.F m s.heap va a) (rb:Rep X.F m s.heap vb b) {op:Operator} (hn:zru σ op a b≠.stuck):wpAny (model prog w) A (binaryOp op va vb) (PV X fs m s (zru σ op a b)) E s:=by
 have:IfS (znp X fs m s A E op a b) (zru σ op a b):=by
  induction op using PySem.Operator.casesOn with
  | Add=>exact zks k a b
  | Sub=>exact ziP k a b
  | Mult=>exact zkt k a b
  | FloorDiv=>exact zku k a b
  | Mod=>exact zkv k a b
  | Pow=>exact zkw k a b
  | _=>exact True.intro
 exact this.out hn va vb ra rb prog w
end

section
variable {X:Stat}{fs:List PySem.Env}{m m':AM}{σ σ':List C}{s s':Shared}{A:Around}{E:Value→Shared→Prop}
theorem zfd {i:Int}{n j:Nat} (e:idx i n=some j):n≤zaP∧j < n∧((0≤i∧j=i.toNat∧i < n)∨(i < 0 ∧ -(n:Int)≤i∧j=(i+n).toNat)):=by
 unfold idx at e
 by_cases hi:i < 0
 ·simp only[hi,if_true] at e
  split at e
  ·rename_i h; have ee:=Option.some.inj e; clear e; subst ee; exact⟨h.2.2,by omega,.inr ⟨hi,by omega,rfl⟩⟩
  ·exact zaA e
 ·simp only[hi,if_false] at e
  split at e
  ·rename_i h; have ee:=Option.some.inj e; clear e; subst ee; exact⟨h.2.2,by omega,.inl ⟨by omega,rfl,by omega⟩⟩
  ·exact zaA e
theorem zly {i:Int}{n j:Nat} (e:idx i n=some j):seqIndex? i n=some j:=by
 obtain⟨_,_,⟨h1,rfl,h3⟩ | ⟨h1,h2,rfl⟩⟩:=zfd e
 ·exact PySem.seqIndex_of h1 h3
 ·exact PySem.MeetsSeq.seqIndex_neg h1 (by omega)

noncomputable def zrX (X:Stat) (fs:List PySem.Env) (m:AM) (σ:List C) (s:Shared) (A:Around) (E:Value→Shared→Prop) (a b u:V):Prop:=
 ∀ (va vb:Value),Rep X.F m s.heap va a→Rep X.F m s.heap vb b→∀ (prog:Program) (w:World) (value slice:Expr),subscripted slice false va vb=operate [va,vb] (getItem va vb)→wpAny (model prog w) A (subscriptTail value slice va vb) (PV X fs m s (.ok u σ)) E s
variable (k:Ok X fs m σ s)
include k
theorem znJ (vs:List V) (i:Int):IfO (zrX X fs m σ s A E (.tup vs) (.int i)) (zfa σ (.tup vs) (.int i)):=by
 show IfO _ (match idx i vs.length with
  | some j=>vs[j]?
  | none=>none)
 induction hj:idx i vs.length using Option.casesOn with
 | none=>exact True.intro
 | some j=>
  show IfO _ vs[j]?
  induction e:vs[j]? using Option.casesOn with
  | none=>exact True.intro
  | some u=>
   intro va vb ra rb prog w value slice hs
   refine bc fun hN=>?_
   refine zaF rb.inv fun tt ee0=>?_
   subst ee0
   refine zdb ra.inv fun t n xs ee0 e1 r1=>?_
   subst ee0
   refine zao (r1.get j e) fun x hx rx=>?_
   refine ziM (zfd hj) fun h1 h2 h3=>?_
   unfold zaP at h1
   refine hN ?_
   exact item_tupleT (l:=xs) ⟨_,e1,rfl,_,rfl⟩ (by omega) (by omega) (by refine r1.length.symm▸?_; exact zly hj) hx (zct k rx) hs
set_option tactic.hygienic true in
theorem zlz (n:Nat) (i:Int):IfO (zrX X fs m σ s A E (.loc n) (.int i)) (zfa σ (.loc n) (.int i)):=by
 show IfO _ (match σ[n]? with
  | some (.list vs)=>match idx i vs.length with
   | some j=>vs[j]?
   | none=>none
  | _=>none)
 split
 ·rename_i vs hv
  show IfO _ (match idx i vs.length with
   | some j=>vs[j]?
   | none=>none)
  induction hj:idx i vs.length using Option.casesOn with
  | none=>exact True.intro
  | some j=>
   show IfO _ vs[j]?
   induction e:vs[j]? using Option.casesOn with
   | none=>exact True.intro
   | some u=>
    intro va vb ra rb prog w value slice hs
    refine zeC (k.list ra hv) fun la xs c1 ee0 ua o1 r1=>?_
    subst ee0
    refine zaF rb.inv fun tt ee0=>?_
    subst ee0
    refine zao (r1.get j e) fun x hx rx=>?_
    refine ziM (zfd hj) fun h1 h2 h3=>?_
    unfold zaP at h1
    refine tail_any (T:="list") ⟨_,o1,rfl⟩ F.slot_list_getitem.lookup ?_ hs
    refine Or.elim h3 ?_ ?_
    clear h3
    intro nm
    refine ziM nm ?_
    clear nm
    intro h3 ee0 h4
    subst ee0
    rotate_left
    clear h3
    intro nm
    refine ziM nm ?_
    clear nm
    intro h3 h4 ee0
    subst ee0
    rotate_left
    ·exact wpAny_getItem_list (zaI o1) h3 (by omega) (by simpa using hx) (zct k rx)
    ·exact wpAny_getItem_list_neg (zaI o1) h3 (by refine List.size_toArray.symm▸?_; refine r1.length.symm▸?_; exact h4) (by omega) (by refine List.size_toArray.symm▸?_; refine r1.length.symm▸?_; simpa using hx) (zct k rx)
 ·exact True.intro
theorem znK (l:List Nat) (i:Int):IfO (zrX X fs m σ s A E (.str l) (.int i)) (zfa σ (.str l) (.int i)):=by
 show IfO _ (match idx i l.length with
  | some j=>match l[j]? with
   | some c=>some (V.str [c])
   | none=>none
  | none=>none)
 induction hj:idx i l.length using Option.casesOn with
 | none=>exact True.intro
 | some j=>
  show IfO _ (match l[j]? with
   | some c=>some (V.str [c])
   | none=>none)
  induction hc:l[j]? using Option.casesOn with
  | none=>exact True.intro
  | some c=>
   intro va vb ra rb prog w value slice hs
   refine zaF ra.inv fun t ee0=>?_
   subst ee0
   refine zaF rb.inv fun t' ee0=>?_
   subst ee0
   refine ziM (zfd hj) fun h1 h2 h3=>?_
   unfold zaP at h1
   refine tail_any (T:="str") (typeIs_str _ _ _) F.slot_str_getitem.lookup ?_ hs
   have hat:Txt.charAt (zaa l) i=some c:=by
    unfold Txt.charAt
    rw[za7,zly hj]
    show(zaa l).cps[j]?=some c
    simpa [zaa] using hc
   refine SB.getItem (by unfold fitsSsize; simp; omega) (by refine hat.symm▸?_; rfl) ?_
   have:Txt.item (zaa l) i=zaa [c]:=by
    unfold Txt.item; refine hat.symm▸?_; rfl
   refine this.symm▸?_
   exact za1 k _ (.str _ _)
set_option tactic.hygienic true in
theorem zlA (hb:X.base.get? sysModules≠none) (n:Nat) (key:List Nat):IfO (zrX X fs m σ s A E (.loc n) (.str key)) (zfa σ (.loc n) (.str key)):=by
 show IfO _ (match σ[n]? with
  | some (.dict kvs)=>za3 key kvs
  | _=>none)
 split
 ·rename_i kvs hv
  cases e:za3 key kvs with
  | none=>exact True.intro
  | some u=>
   intro va vb ra rb prog w value slice hs
   refine bc fun hN=>?_
   obtain⟨t,rfl⟩:=rb.inv
   obtain⟨la,rfl,T⟩:=k.dict hb ra hv
   refine hN ?_
   exact T.item (slice:=slice) e (fun v r=>za1 k _ r) hs
 ·exact True.intro
theorem zky {prog:Program}{w:World}{a b:V}{va vb:Value} (ra:Rep X.F m s.heap va a) (rb:Rep X.F m s.heap vb b) (hb:X.base.get? sysModules≠none) {value slice:Expr} (hs:subscripted slice false va vb=operate [va,vb] (getItem va vb)) {u:V} (e:zfa σ a b=some u) :
  wpAny (model prog w) A (subscriptTail value slice va vb) (PV X fs m s (.ok u σ)) E s:=by
 have:IfO (zrX X fs m σ s A E a b) (zfa σ a b):=by
  induction a using V.casesOn <;> induction b using V.casesOn <;> first | exact True.intro | exact znJ k _ _ | exact zlz k _ _ | exact znK k _ _ | exact zlA k hb _ _
 exact this.out e va vb ra rb prog w value slice hs

omit k in
set_option tactic.hygienic true in
theorem zjv {α:Type}{lo hi:V}{l r:List α} (e:cut lo hi l=some r):∃ (a:Option Int) (h:Int),(lo=.none∧a=none∨∃ x,lo=.int x∧a=some x∧0≤x)∧hi=.int h∧0≤h∧r=(l.take h.toNat).drop (a.getD 0).toNat:=by
 refine IfO.out (P:=fun r=>∃ (a:Option Int) (h:Int),(lo=.none∧a=none∨∃ x,lo=.int x∧a=some x∧0≤x)∧hi=.int h∧0≤h∧r=(l.take h.toNat).drop (a.getD 0).toNat) ?_ e
 clear e
 induction lo using V.casesOn with
 | none=>
  induction hi using V.casesOn with
  | int h=>exact zc3 (fun q=>zo2 none h (.inl ⟨rfl,rfl⟩) rfl q rfl) fun ua=>True.intro
  | _=>exact True.intro
 | int a=>
  induction hi using V.casesOn with
  | int h=>exact zc3 (fun q=>zo2 (some a) h (.inr ⟨a,rfl,rfl,q.1⟩) rfl q.2 rfl) fun ua=>True.intro
  | _=>exact True.intro
 | _=>exact True.intro
end
end
section
open W Calls PyProof.Rows
theorem ztt {h:Int} (hh:0≤h) (n:Nat):max (0:Int) (min h n)=((min h.toNat n:Nat):Int):=by
 refine zaF (Int.eq_ofNat_of_zero_le hh) fun k ee0=>?_
 subst ee0
 rw[Int.toNat_natCast]
 refine Or.elim (Nat.le_total k n) ?_ ?_
 intro h
 rotate_left
 intro h
 rotate_left
 ·refine(Nat.min_eq_left h).symm▸?_; refine(Int.min_eq_left (Int.ofNat_le.mpr h)).symm▸?_; exact Int.max_eq_right (Int.natCast_nonneg _)
 ·refine(Nat.min_eq_right h).symm▸?_; refine(Int.min_eq_right (Int.ofNat_le.mpr h)).symm▸?_; exact Int.max_eq_right (Int.natCast_nonneg _)
theorem zuS (a h:Nat):sliceRange (a:Int) (h:Int) 1=List.range' a (h-a):=by
 unfold sliceRange
 rw[if_pos (by decide)]
 by_cases q:a < h
 ·rw[if_pos (Int.ofNat_lt.mpr q),Int.add_sub_cancel,Int.ediv_one]
  dsimp only
  rw[Int.toNat_sub,List.range'_eq_map_range]
  exact List.map_congr_left fun k ua=>by rw[Int.one_mul,← Int.natCast_add,Int.toNat_natCast]
 ·rw[if_neg (fun e=>q (Int.ofNat_lt.mp e)),Nat.sub_eq_zero_of_le (Nat.le_of_not_lt q)]
  rfl
theorem zgn {α:Type} (l:List α):∀ (n a:Nat),(List.range' a n).filterMap (fun i=>l[i]?)=(l.drop a).take n
 | 0,a=>by rfl
 | n+1,a=>by
  rw[List.range'_succ,List.filterMap_cons,zgn l n (a+1)]
  induction e:l[a]? using Option.casesOn with
  | none=>
   have:=List.getElem?_eq_none_iff.mp e
   rw[List.drop_eq_nil_of_le (by exact Nat.le_succ_of_le ‹_›),List.drop_eq_nil_of_le this]; simp
  | some x=>
   obtain⟨h,rfl⟩:=List.getElem?_eq_some_iff.mp e
   rw[List.drop_eq_getElem_cons h]
   rfl
theorem zjw {α:Type} (l:List α) (a h:Nat):(List.range' (min a l.length) (min h l.length-min a l.length)).filterMap (fun i=>l[i]?)=(l.take h).drop a:=by
 rw[zgn,List.drop_take]
 refine Or.elim (Nat.le_total l.length a) ?_ ?_
 intro q
 rotate_left
 intro q
 rotate_left
 ·refine(Nat.min_eq_right q).symm▸?_
  refine List.drop_length.symm▸?_
  refine(List.drop_eq_nil_of_le q).symm▸?_
  refine List.take_nil.symm▸?_
  refine List.take_nil.symm▸?_
  with_reducible rfl
 ·refine(Nat.min_eq_left q).symm▸?_
  refine Or.elim (Nat.le_total h l.length) ?_ ?_
  intro p
  rotate_left
  intro p
  rotate_left
  ·refine(Nat.min_eq_left p).symm▸?_
   with_reducible rfl
  ·rw[Nat.min_eq_right p,List.take_of_length_le (by rw[List.length_drop]; exact Nat.le_refl _),List.take_of_length_le (by rw[List.length_drop]; exact Nat.sub_le_sub_right p _)]
theorem zjx (l:List Nat) (a:Option Int) (h:Int) (ha:0≤a.getD 0) (hh:0≤h) :
  Builtin.Str.strSliceIndices a (some h) 1 l.length=List.range' (min (a.getD 0).toNat l.length) (min h.toNat l.length-min (a.getD 0).toNat l.length):=by
 rw[← zuS]
 unfold Builtin.Str.strSliceIndices
 simp only[show((1:Int) > 0) from by decide,if_true,Int.not_lt.mpr hh,if_false]
 rw[ztt hh]
 induction a using Option.casesOn with
 | none=>rfl
 | some x=>
  have hx:0≤x:=ha
  simp only[Int.not_lt.mpr hx,if_false,Option.getD_some]
  rw[ztt hx]
theorem zlB {α:Type} (l:List α) (a:Option Int) (h:Int) (ha:0≤a.getD 0) (hh:0≤h) :
  (sliceRange (sliceBounds a (some h) none l.length).fst (sliceBounds a (some h) none l.length).snd.fst (sliceBounds a (some h) none l.length).snd.snd) =
   List.range' (min (a.getD 0).toNat l.length) (min h.toNat l.length-min (a.getD 0).toNat l.length):=by
 rw[← zuS]
 unfold sliceBounds
 simp only[Option.getD_none,show((1:Int) > 0) from by decide,if_true,Int.not_lt.mpr hh,if_false]
 rw[ztt hh]
 induction a using Option.casesOn with
 | none=>rfl
 | some x=>
  have hx:0≤x:=ha
  simp only[Int.not_lt.mpr hx,if_false,Option.getD_some]
  rw[ztt hx]

theorem znL {α:Type}{l:List α}{a h:Nat} (q:min h l.length-min a l.length=l.length):(l.take h).drop a=l:=by
 induction l using List.casesOn with
 | nil=>simp
 | cons x l=>
  have h1:(x::l).length≤min h (x::l).length:=Nat.le_trans (Nat.le_of_eq q.symm) (Nat.sub_le ..)
  have h2:min a (x::l).length=0:=by
   refine Nat.eq_zero_of_not_pos fun p=>?_
   have:=Nat.sub_lt_of_pos_le p (Nat.le_of_lt (Nat.lt_of_sub_pos (by rw[q]; exact Nat.succ_pos _)))
   rw[q] at this
   exact absurd this (Nat.not_lt.mpr (Nat.min_le_right ..))
  have h3:a=0:=by
   refine Or.elim (Nat.le_total a (x::l).length) ?_ ?_
   intro p
   rotate_left
   intro p
   rotate_left
   ·rwa [Nat.min_eq_left p] at h2
   ·rw[Nat.min_eq_right p] at h2; cases h2
  rw[h3,List.drop_zero,List.take_of_length_le (Nat.le_trans h1 (Nat.min_le_left ..))]

section
variable {X:Stat}{fs:List PySem.Env}{m m':AM}{σ σ':List C}{s s':Shared}{A:Around}{E:Value→Shared→Prop}

theorem zg1 {F:Nat→Option Addr}{lo:V}{vl:Value}{a:Option Int} (r:Rep F m s.heap vl lo) (h:lo=.none∧a=none∨∃ x,lo=.int x∧a=some x∧0≤x) :
  ∃ p:Option (Int×Tok),vl=partValue p∧p.map (·.1)=a∧IsPart vl a∧0≤a.getD 0:=by
 refine Or.elim h ?_ ?_
 clear h
 intro nm
 refine zaW nm ?_
 clear nm
 intro ee0 ee1
 subst ee0
 subst ee1
 rotate_left
 clear h
 intro nm
 refine zb8 nm ?_
 clear nm
 intro x ee0 ee1 hx
 subst ee0
 subst ee1
 rotate_left
 ·cases r; exact zre none rfl rfl .none (Int.le_refl _)
 ·cases r with
  | int i t=>exact zre (some (_,t)) rfl rfl (.int _ _) hx

theorem zlC (k:Ok X fs m σ s) {l r:List Nat}{lo hi:V}{vl vh:Value} (rl:Rep X.F m s.heap vl lo) (rh:Rep X.F m s.heap vh hi) (e:cut lo hi l=some r) (t:Tok) (hl:r.length≤zaP) :
  ∃ pl ph,vl=partValue pl∧vh=partValue ph∧(sliceMade (zaa l) t pl ph none).post (PV X fs m s (.ok (.str r) σ)) { s with heap:=s.heap.push { cls:=Value.type "slice",data:=Data.fields #[vl,vh,Value.none] } }:=by
 refine bc fun hN=>?_
 refine ziL (zjv e) fun a h ha ee0 hh ee1=>?_
 subst ee0
 subst ee1
 refine zfl (zg1 rl ha) fun pl e1 e2 ua h0=>?_
 refine zfl (zg1 (s:=s) (a:=some h) rh (.inr ⟨h,rfl,rfl,hh⟩)) fun ph e3 e4 ua ub=>?_
 refine hN ?_
 refine zki pl ph e1 e3 ?_
 have k':=k.push { cls:=Value.type "slice",data:=Data.fields #[vl,vh,Value.none] }
 have key:(slicePicked (zaa l) pl ph none).filterMap ((zaa l).cps[·]?)=(l.take h.toNat).drop (a.getD 0).toNat:=by
  unfold slicePicked
  rw[e2,e4,za7]
  show List.filterMap _ (Builtin.Str.strSliceIndices a (some h) 1 l.length)=_
  rw[zjx l a h h0 hh,← zjw l]
  congr 1
  funext i
  simp[zaa]
 have done:∀ t' tk,PV X fs m s (.ok (.str ((l.take h.toNat).drop (a.getD 0).toNat)) σ) (.str (zaa ((l.take h.toNat).drop (a.getD 0).toNat)) t') { s with heap:=s.heap.push { cls:=Value.type "slice",data:=Data.fields #[vl,vh,Value.none] },toks:=tk }:=fun t' tk=>
  ⟨_,σ,rfl,m,.of_sub (zaJ _ _),k'.toks tk,⟨rfl,rfl,rfl⟩,.str _ _⟩
 unfold sliceMade
 split
 ·rename_i q
  have q2:(slicePicked (zaa l) pl ph none).length=l.length:=by
   have:=(Bool.and_eq_true_iff.mp q).2
   simpa [za7] using this
  have hfull:(l.take h.toNat).drop (a.getD 0).toNat=l:=by
   unfold slicePicked at q2
   rw[e2,e4,za7,show Builtin.Str.strSliceIndices a (some h) (Option.getD (Option.map (fun x:Int×Tok=>x.fst) none) 1) l.length=Builtin.Str.strSliceIndices a (some h) 1 l.length from rfl,zjx l a h h0 hh,List.length_range'] at q2
   exact znL q2
  have:=done t s.toks
  rw[hfull] at this ⊢
  exact this
 ·refine(show({ cps:=(List.filterMap (fun x=>(zaa l).cps[x]?) (slicePicked (zaa l) pl ph none)).toArray }:Str)=zaa ((l.take h.toNat).drop (a.getD 0).toNat) by rw[key]; rfl).symm▸?_
  refine⟨?_,done _ _⟩
  rw[za7,sizeLine_eq]
  unfold zaP at hl; exact Nat.le_trans ‹_› (by decide)
theorem zkz (k:Ok X fs m σ s) {vs us:List V}{xs:List Value}{lo hi:V}{vl vh:Value} (rl:Rep X.F m s.heap vl lo) (rh:Rep X.F m s.heap vh hi) (e:cut lo hi vs=some us) (r:Reps X.F m s.heap xs vs) :
  ∃ pl ph,IsPart vl pl∧IsPart vh ph∧PV X fs m s (.ok (.loc σ.length) (σ++[.list us])) (.ref (s.heap.objs.size+1))
   { s with heap:=(s.heap.push { cls:=Value.type "slice",data:=Data.fields #[vl,vh,Value.none] }).push { cls:=Value.type "list",data:=Data.seq (slicePick xs.toArray pl ph none) } }:=by
 refine bc fun hN=>?_
 refine ziL (zjv e) fun a h ha ee0 hh ee1=>?_
 subst ee0
 subst ee1
 refine zfl (zg1 rl ha) fun pl e1 e2 p1 h0=>?_
 refine zfl (zg1 (s:=s) (a:=some h) rh (.inr ⟨h,rfl,rfl,hh⟩)) fun ph e3 e4 p2 ua=>?_
 refine hN ?_
 refine zki _ _ p1 p2 ?_
 have k':=k.push { cls:=Value.type "slice",data:=Data.fields #[vl,vh,Value.none] }
 have key:slicePick xs.toArray a (some h) none=((xs.take h.toNat).drop (a.getD 0).toNat).toArray:=by
  unfold slicePick
  rw[List.size_toArray,zlB xs a h h0 hh,← zjw xs]
  simp
 rw[key]
 have:=ziO k' ((Reps.ext List.prefix_rfl (.of_sub (zaJ s.heap { cls:=Value.type "slice",data:=Data.fields #[vl,vh,Value.none] })) r).take h.toNat |>.drop (a.getD 0).toNat) s.toks
 have hz:({ s with heap:=s.heap.push { cls:=Value.type "slice",data:=Data.fields #[vl,vh,Value.none] } }:Shared).heap.objs.size=s.heap.objs.size+1:=Heap.size_push ..
 rw[hz] at this
 exact PV.after (m₀:=m) (s₀:=s) (s:={ s with heap:=s.heap.push { cls:=Value.type "slice",data:=Data.fields #[vl,vh,Value.none] } }) (Ext.of_sub (zaJ s.heap { cls:=Value.type "slice",data:=Data.fields #[vl,vh,Value.none] })) ⟨rfl,rfl,rfl⟩ this rfl
end
end
section
open W Calls PyProof.Rows
noncomputable def znM:BI→Value
 | .len=>.builtin "len"
 | .min=>.builtin "min"
 | .max=>.builtin "max"
 | .int=>.type "int"
 | .str=>.type "str"
 | .tuple=>.type "tuple"
 | .list=>.type "list"
noncomputable def zpV:TY→Value
 | .tuple=>.type "tuple"
 | .str=>.type "str"
 | .int=>.type "int"
 | .bool=>.type "bool"

section
variable {X:Stat}{fs:List PySem.Env}{m m':AM}{σ σ':List C}{s s':Shared}{A:Around}{E:Value→Shared→Prop}

theorem Ok.stay (k:Ok X fs m σ s) {h':Heap} (x:s.heap.StaysIn h') (tk:Nat):Ok X fs m σ { s with heap:=h',toks:=tk }:=
 (k.ext (s':={ s with heap:=h' }) (.of_sub x) (k.sto.sub x)).toks tk
theorem zft (k:Ok X fs m σ s) {h':Heap} (x:s.heap.StaysIn h') (tk:Nat) {v:V}{val:Value} (r:Rep X.F m h' val v):PV X fs m s (.ok v σ) val { s with heap:=h',toks:=tk }:=
 ⟨v,σ,rfl,m,.of_sub x,k.stay x tk,⟨rfl,rfl,rfl⟩,r⟩

theorem zgo (k:Ok X fs m σ s) {v:V}{val:Value}{vs:List V} (r:Rep X.F m s.heap val v) (e:zee σ v=some vs) :
  ∃ a xs n,val=.ref a∧Reps X.F m s.heap xs vs∧(s.heap.get? a=some (zdh xs n)∨s.heap.get? a=some (zli xs n)):=by
 unfold zee at e
 split at e
 ·refine zdb r.inv fun a n xs ee0 e1 r1=>?_
  subst ee0
  have ee:=Option.some.inj e
  clear e
  subst ee
  exact znv a xs n rfl r1 (.inr e1)
 ·split at e
  ·have ee:=Option.some.inj e
   clear e
   subst ee
   refine zeC (k.list r ‹_›) fun a xs c ee0 ua o1 r1=>?_
   subst ee0
   exact znv a xs c rfl r1 (.inl o1)
  ·exact zaA e
 ·exact zaA e

theorem zkA (k:Ok X fs m σ s) {t:TY}{a:V}{va:Value} (ra:Rep X.F m s.heap va a) {b:Bool} (e:znx t a=some b) {prog:Program}{w:World}{Q:Value→Shared→Prop} (h:∀ tk,Q (.bool b) { s with toks:=tk }) :
  wpAny (model prog w) A (call (.builtin "isinstance") [va,zpV t]) Q E s:=by
 refine IfO.out (P:=fun b=>(∀ tk,Q (.bool b) { s with toks:=tk })→wpAny (model prog w) A (call (.builtin "isinstance") [va,zpV t]) Q E s) ?_ e h
 clear e h
 cases ra with
 | none=>induction t using Lake.TY.casesOn with
  | tuple=>exact fun h=>IsiPair.NoneType_tuple (h _)
  | str=>exact fun h=>IsiPair.NoneType_str (h _)
  | int=>exact fun h=>IsiPair.NoneType_int (h _)
  | bool=>exact fun h=>IsiPair.NoneType_bool (h _)
 | bool x=>induction t using Lake.TY.casesOn with
  | tuple=>exact fun h=>IsiPair.bool_tuple (h _)
  | str=>exact fun h=>IsiPair.bool_str (h _)
  | int=>exact fun h=>IsiPair.bool_int (h s.toks)
  | bool=>exact fun h=>IsiPair.bool_bool (h s.toks)
 | int i t'=>induction t using Lake.TY.casesOn with
  | tuple=>exact fun h=>IsiPair.int_tuple (h _)
  | str=>exact fun h=>IsiPair.int_str (h _)
  | int=>exact fun h=>IsiPair.int_int (h s.toks)
  | bool=>exact fun h=>IsiPair.int_bool (h _)
 | any i t'=>induction t using Lake.TY.casesOn with
  | tuple=>exact fun h=>IsiPair.int_tuple (h _)
  | str=>exact fun h=>IsiPair.int_str (h _)
  | int=>exact fun h=>IsiPair.int_int (h s.toks)
  | bool=>exact fun h=>IsiPair.int_bool (h _)
 | str x t'=>induction t using Lake.TY.casesOn with
  | tuple=>exact fun h=>IsiPair.str_tuple (h _)
  | str=>exact fun h=>IsiPair.str_str (h s.toks)
  | int=>exact fun h=>IsiPair.str_int (h _)
  | bool=>exact fun h=>IsiPair.str_bool (h _)
 | @tup a n xs vs e1 r1=>
  have hT:s.heap.IsTuple a xs.toArray:=⟨_,e1,rfl,_,rfl⟩
  induction t using Lake.TY.casesOn with
  | tuple=>exact fun h=>IsiPair.isTuple_tuple hT (fun ua ub e=>e) (h s.toks)
  | str=>exact fun h=>IsiPair.isTuple_str hT (fun ua ub e=>e) (h _)
  | int=>exact fun h=>IsiPair.isTuple_int hT (fun ua ub e=>e) (h _)
  | bool=>exact fun h=>IsiPair.isTuple_bool hT (fun ua ub e=>e) (h _)
 | loc _=>exact True.intro
 | fn _=>exact True.intro
 | rng _=>exact True.intro

theorem ztX {a:Int} (h0:0≤a) (h9:a≤9):a.natAbs.log2 < 1920∧(Str.ofString (toString a))=zaa [48+a.toNat]:=by
 refine zaF (Int.eq_ofNat_of_zero_le h0) fun n ee0=>?_
 subst ee0
 exact(by decide +kernel:∀ n:Nat,n < 10→(n:Int).natAbs.log2 < 1920∧(Str.ofString (toString (n:Int)))=zaa [48+(n:Int).toNat]) n (by omega)
noncomputable def BiG (X:Stat) (fs:List PySem.Env) (m:AM) (s:Shared) (A:Around) (E:Value→Shared→Prop) (b:BI) (as:List V) (r:R V):Prop:=
 ∀ (xs:List Value),Reps X.F m s.heap xs as→wpAny (model X.prog X.w) A (call (znM b) xs) (PV X fs m s r) E s
set_option tactic.hygienic true in
theorem znN (k:Ok X fs m σ s) (a:V):IfO (fun n:Nat=>BiG X fs m s A E .len [a] (.ok (.int n) σ)) (zrv σ a):=by
 have fin:∀ (n:Int) (tk:Nat),PV X fs m s (.ok (.int n) σ) (.int n (s.toks+1)) { s with toks:=tk }:=fun n tk=>⟨_,σ,rfl,m,.refl ..,k.toks _,⟨rfl,rfl,rfl⟩,.int _ _⟩
 unfold zrv
 split
 ·split
  ·rename_i l hle
   intro xs ra
   obtain⟨x,rfl,r1⟩:=ra.inv1
   obtain⟨t,rfl⟩:=r1.inv
   refine len_str ?_ ?_
   ·rw[za7]; unfold zaP at hle; omega
   ·rw[za7]
    exact fin _ _
  ·exact True.intro
 ·split
  ·rename_i vs hle
   intro xs ra
   obtain⟨x,rfl,r1⟩:=ra.inv1
   obtain⟨a,n,xs,rfl,e1,r1⟩:=r1.inv
   refine len_tuple (items:=xs.toArray) ⟨_,e1,rfl,_,rfl⟩ ?_ ?_
   ·refine List.size_toArray.symm▸?_; refine r1.length.symm▸?_; unfold zaP at hle; omega
   ·refine List.size_toArray.symm▸?_
    refine r1.length.symm▸?_
    exact fin _ _
  ·exact True.intro
 ·split
  ·rename_i vs hv
   split
   ·rename_i hle
    intro xs ra
    obtain⟨x,rfl,r1⟩:=ra.inv1
    obtain⟨la,xs,c1,rfl,_,o1,rr⟩:=k.list r1 hv
    refine call_len_list (zaI o1) ?_ ?_
    ·refine List.size_toArray.symm▸?_; refine rr.length.symm▸?_; unfold zaP at hle; omega
    ·refine List.size_toArray.symm▸?_
     refine rr.length.symm▸?_
     exact fin _ _
   ·exact True.intro
  ·exact True.intro
 ·exact True.intro
theorem zrY (k:Ok X fs m σ s) (a:V):IfS (BiG X fs m s A E .len [a]) (biV σ .len [a]):=by
 show IfS _ (match zrv σ a with
  | some n=>.ok (V.int n) σ
  | none=>.stuck)
 induction e:zrv σ a using Option.casesOn with
 | none=>exact True.intro
 | some n=>exact(znN k a).out e
theorem zrZ (k:Ok X fs m σ s) (hh:A.handled=none) (a b:Int):BiG X fs m s A E .min [.int a,.int b] (.ok (.int (if b < a then b else a)) σ):=by
 intro xs ra
 refine zc0 ra.inv2 fun x y ee0 r1 r2=>?_
 subst ee0
 obtain⟨t,rfl⟩:=r1.inv
 obtain⟨t',rfl⟩:=r2.inv
 refine min_two_ints hh fun h' tk hk=>?_
 by_cases q:b < a
 ·refine(if_pos q).symm▸?_; refine(if_pos q).symm▸?_; exact zft k hk tk (.int _ _)
 ·refine(if_neg q).symm▸?_; refine(if_neg q).symm▸?_; exact zft k hk tk (.int _ _)
theorem zr0 (k:Ok X fs m σ s) (hh:A.handled=none) (a b:Int):BiG X fs m s A E .max [.int a,.int b] (.ok (.int (if a < b then b else a)) σ):=by
 intro xs ra
 refine zc0 ra.inv2 fun x y ee0 r1 r2=>?_
 subst ee0
 obtain⟨t,rfl⟩:=r1.inv
 obtain⟨t',rfl⟩:=r2.inv
 refine max_two_ints hh fun h' tk hk=>?_
 by_cases q:a < b
 ·simp only[q,gt_iff_lt,if_true]; exact zft k hk tk (.int _ _)
 ·simp only[q,gt_iff_lt,if_false]; exact zft k hk tk (.int _ _)
theorem zr1 (k:Ok X fs m σ s) (a:V):IfS (BiG X fs m s A E .int [a]) (biV σ .int [a]):=by
 induction a using V.casesOn <;> first | exact True.intro | skip
 ·intro xs ra
  refine zao ra.inv1 fun x ee0 r1=>?_
  subst ee0
  obtain rfl:=r1.inv
  exact call_int_bool (za1 k _ (.int _ _))
 ·intro xs ra
  refine zao ra.inv1 fun x ee0 r1=>?_
  subst ee0
  refine zaF r1.inv fun t ee0=>?_
  subst ee0
  exact call_int_int (zct k (.int _ _))
set_option tactic.hygienic true in
theorem zr2 (k:Ok X fs m σ s) (a:V):IfS (BiG X fs m s A E .str [a]) (biV σ .str [a]):=by
 induction a using V.casesOn <;> first | exact True.intro | skip
 rename_i a
 show IfS _ (if 0≤a∧a≤9 then _ else _)
 split
 ·rename_i q
  intro xs ra
  refine zao ra.inv1 fun x ee0 r1=>?_
  subst ee0
  obtain⟨t,rfl⟩:=r1.inv
  obtain⟨h1,h2⟩:=ztX q.1 q.2
  refine P.str_of_int h1 ?_
  refine h2.symm▸?_
  exact za1 k _ (.str _ _)
 ·exact True.intro
theorem znO (k:Ok X fs m σ s) (a:V):IfS (BiG X fs m s A E .tuple [a]) (biV σ .tuple [a]):=by
 show IfS _ (match za4 σ a with
  | some vs=>if vs.length≤LIM then .ok (V.tup vs) σ else .stuck
  | none=>.stuck)
 induction hl:za4 σ a using Option.casesOn with
 | none=>exact True.intro
 | some vs=>
  show IfS _ (if vs.length≤LIM then _ else _)
  split
  ·rename_i q
   intro xs ra
   refine zao ra.inv1 fun x ee0 r1=>?_
   subst ee0
   refine zao (zck hl) fun n ee0 g=>?_
   subst ee0
   refine zeC (k.list r1 g) fun la xs c1 ee0 ua o1 rr=>?_
   subst ee0
   refine call_tuple_list (zaI o1) (fun h' hk=>?_) ?_
   ·have:=zlq (k.stay hk s.toks) (rr.ext List.prefix_rfl (.of_sub hk)) s.toks
    exact PV.after (m₀:=m) (s₀:=s) (s:={ s with heap:=h' }) (.of_sub hk) ⟨rfl,rfl,rfl⟩ this rfl
   ·refine List.size_toArray.symm▸?_; refine rr.length.symm▸?_; refine sizeLine_eq.symm▸?_; unfold LIM at q; omega
  ·exact True.intro
theorem zpW (k:Ok X fs m σ s) (a:V):IfS (BiG X fs m s A E .list [a]) (biV σ .list [a]):=by
 show IfS _ (match za4 σ a with
  | some vs=>if vs.length≤LIM then .ok (V.loc σ.length) (σ++[.list vs]) else .stuck
  | none=>.stuck)
 induction hl:za4 σ a using Option.casesOn with
 | none=>exact True.intro
 | some vs=>
  show IfS _ (if vs.length≤LIM then _ else _)
  split
  ·rename_i q
   intro xs ra
   refine zao ra.inv1 fun x ee0 r1=>?_
   subst ee0
   refine zao (zck hl) fun n ee0 g=>?_
   subst ee0
   refine zeC (k.list r1 g) fun la xs c1 ee0 ua o1 rr=>?_
   subst ee0
   refine call_list_seq la (.inl rfl) o1 rfl rfl (fun h' c' hk hg=>?_) ?_
   ·exact zg0 k hk (zbD _) hg rr s.toks
   ·refine List.size_toArray.symm▸?_; refine rr.length.symm▸?_; refine sizeLine_eq.symm▸?_; unfold LIM at q; omega
  ·exact True.intro
theorem zlD (k:Ok X fs m σ s) (hh:A.handled=none) {b:BI}{as:List V}{xs:List Value} (ra:Reps X.F m s.heap xs as) (hn:biV σ b as≠.stuck) :
  wpAny (model X.prog X.w) A (call (znM b) xs) (PV X fs m s (biV σ b as)) E s:=by
 have:IfS (BiG X fs m s A E b as) (biV σ b as):=by
  clear ra hn
  match as with
  | []=>induction b using Lake.BI.casesOn <;> exact True.intro
  | [a]=>
   induction b using Lake.BI.casesOn with
   | len=>exact zrY k a
   | min=>induction a using V.casesOn <;> exact True.intro
   | max=>induction a using V.casesOn <;> exact True.intro
   | int=>exact zr1 k a
   | str=>exact zr2 k a
   | tuple=>exact znO k a
   | list=>exact zpW k a
  | [a,c]=>
   induction b using Lake.BI.casesOn with
   | min=>
    induction a using V.casesOn with
    | int a=>
     induction c using V.casesOn with
     | int c=>exact zrZ k hh a c
     | _=>exact True.intro
    | _=>exact True.intro
   | max=>
    induction a using V.casesOn with
    | int a=>
     induction c using V.casesOn with
     | int c=>exact zr0 k hh a c
     | _=>exact True.intro
    | _=>exact True.intro
   | _=>first | exact True.intro | (induction a using V.casesOn <;> exact True.intro)
  | a::c::_::_=>induction b using Lake.BI.casesOn <;> first | exact True.intro | (induction a using V.casesOn <;> first | exact True.intro | (induction c using V.casesOn <;> exact True.intro))
 exact this.out hn xs ra
end
end
section
open W Calls PyProof.Rows
structure Facts (X:Stat):Prop where
 inK:X.K.In X.base
 mg:X.base.Ns mainGlobals X.mg
 mb:X.base.Ns builtinsNs X.mb
 lim:X.base.NoLimit
 sysm:X.base.get? sysModules≠none
 fns:∀ (n:Nat) (fn:Fn),X.T.fns[n]?=some fn→zrh X.T X.K fn=true
 fnG:∀ (n:Nat) (fn:Fn),6 < n→X.T.fns[n]?=some fn→X.mg (zaa fn.name)=some (.ref fn.addr)
 globs:∀ (n:Nat) (p:List Nat×V),X.T.globs[n]?=some p→∃ val,X.mg (zaa p.1)=some val∧Rep X.F [] X.base val p.2
 dicts:∀ (n:Nat) (p:List Nat×List (List Nat×V)),X.T.dicts[n]?=some p→∃ a,X.mg (zaa p.1)=some (.ref a)∧IsD X [] X.base a p.2∧∃ o,X.base.get? a=some o∧o.dict=none
 bi:∀ b:BI,X.mg (zaa (zhF b))=none∧X.mb (zaa (zhF b))=some (znM b)
 ty:∀ t:TY,X.mg (zaa (zhG t))=none∧X.mb (zaa (zhG t))=some (zpV t)
 isi:X.mg (zaa zb3)=none∧X.mb (zaa zb3)=some (.builtin "isinstance")
 rng:X.mg (zaa zfq)=none∧X.mb (zaa zfq)=some (.type "range")
 words:X.mg (zaa zgY)=some (.ref X.WC)
 gf:X.mg (zaa zpJ)=some (.ref X.GF)

noncomputable def zcE (X:Stat) (env:PySem.Env) (m:AM) (h:Heap) (lm:Str→Option Value) (x:Str) (o:Option V):Prop:=
 match env.scope.names.lookup x with
 | some .local=>∀ v,o=some v→∃ val,lm x=some val∧Rep X.F m h val v
 | some .cell | some .free=>∃ c v₀,env.cells.lookup x=some c∧h.IsCell c v₀∧¬ Mut m c∧c≠env.locals∧∀ v,o=some v→∃ val,v₀=some val∧Rep X.F m h val v
 | _=>False

structure EnvOK (X:Stat) (vars:List (List Nat)) (env:PySem.Env) (ρ:Env) (m:AM) (h:Heap):Prop where
 kind:env.scope.kind=.function
 glob:env.globals=mainGlobals
 bui:env.builtins=builtinsNs
 len:ρ.length=vars.length
 lnm:¬ Mut m env.locals
 inj:∀ x y c,env.cells.lookup x=some c→env.cells.lookup y=some c→x=y
 vars:∃ lm,h.Ns env.locals lm∧∀ (i:Nat) (x:List Nat) (o:Option V),vars[i]?=some x→ρ[i]?=some o→zcE X env m h lm (zaa x) o

noncomputable def slk:Bool→Nat
 | true=>100
 | false=>50
structure Lim (prim:Bool) (A:Around) (n:Nat):Prop where
 hand:A.handled=none
 depth:A.depth+2*n+slk prim≤700
 units:A.units+12*n+12*slk prim≤9000

structure LimX (A:Around):Prop where
 hand:A.handled=none
 depth:A.depth+40≤700
 units:A.units+480≤9000
theorem Lim.x {prim:Bool}{A:Around}{n:Nat} (l:Lim prim A n):LimX A:=⟨l.hand,by have:=l.depth; induction prim using Bool.casesOn <;> (unfold slk at this; dsimp only at this; omega),by have:=l.units; induction prim using Bool.casesOn <;> (unfold slk at this; dsimp only at this; omega)⟩

noncomputable def zbh {α:Type} (r:R α):Prop:=r≠.stuck∧∀ v,r≠.fin v

section
variable {X:Stat}{fs:List PySem.Env}{m m':AM}{σ σ':List C}{s s':Shared}{A:Around}{E:Value→Shared→Prop}{vars:List (List Nat)}{env:PySem.Env}{ρ:Env}

theorem zab {α:Type}{P:Prop} (h:zbh (α:=α) .stuck):P:=absurd rfl h.1
theorem znP {α:Type}{v:V}{P:Prop} (h:zbh (α:=α) (.fin v)):P:=absurd rfl (h.2 v)
theorem zdp {α:Type} (a:α) (σ:List C):zbh (.ok a σ):=⟨(fun h=>nomatch h),fun v h=>nomatch h⟩
theorem zfe {α:Type}:zbh (α:=α) .exc:=⟨(fun h=>nomatch h),fun v h=>nomatch h⟩

theorem zcE.gen {h h':Heap}{lm lm':Str→Option Value}{x:Str}{o:Option V} (v:zcE X env m h lm x o) (p:m <+: m') (kt:zb2 h h') (hl:lm' x=lm x)
  (hc:∀ c v₀,env.cells.lookup x=some c→h.IsCell c v₀→¬ Mut m c→c≠env.locals→h'.IsCell c v₀∧¬ Mut m' c):zcE X env m' h' lm' x o:=by
 have cel:(∃ c v₀,env.cells.lookup x=some c∧h.IsCell c v₀∧¬ Mut m c∧c≠env.locals∧∀ v,o=some v→∃ val,v₀=some val∧Rep X.F m h val v) →
   ∃ c v₀,env.cells.lookup x=some c∧h'.IsCell c v₀∧¬ Mut m' c∧c≠env.locals∧∀ v,o=some v→∃ val,v₀=some val∧Rep X.F m' h' val v:=fun⟨c,v₀,a,b,d,e,f⟩=>
  ⟨c,v₀,a,(hc c v₀ a b d e).1,(hc c v₀ a b d e).2,e,fun u hu=>let ⟨val,p',q⟩:=f u hu; ⟨val,p',q.ext p kt⟩⟩
 delta zcE at v ⊢
 generalize env.scope.names.lookup x=o at v ⊢
 induction o using Option.casesOn with
 | none=>exact v.elim
 | some k=>
  induction k using NameKind.casesOn with
  | «local»=>exact fun u hu=>let ⟨val,a,b⟩:=v u hu; ⟨val,hl.trans a,b.ext p kt⟩
  | cell=>exact cel v
  | free=>exact cel v
  | _=>exact v.elim
theorem zcE.ext {lm:Str→Option Value}{x:Str}{o:Option V} (v:zcE X env m s.heap lm x o) (k:Ok X fs m σ s) (e:Ext m m' s.heap s'.heap):zcE X env m' s'.heap lm x o:=
 v.gen e.pre (k.sto.keepT e) rfl fun c _ _ ⟨oc,b1,b2⟩ d _=>⟨⟨oc,e.keep c oc b1 d,b2⟩,e.notMut b1 d⟩
theorem EnvOK.ext (e:EnvOK X vars env ρ m s.heap) (k:Ok X fs m σ s) (x:Ext m m' s.heap s'.heap):EnvOK X vars env ρ m' s'.heap:=by
 obtain⟨a,b,c,d,f,i,lm,⟨o,es,ep,g1,g2⟩,g⟩:=e
 exact⟨a,b,c,d,x.notMut g1 f,i,lm,⟨o,es,ep,x.keep _ _ g1 f,g2⟩,fun j y o hy ho=>(g j y o hy ho).ext k x⟩

theorem Ok.lim (k:Ok X fs m σ s) (f:Facts X):s.heap.NoLimit:=f.lim.keeps k.stays
theorem Ok.ns (k:Ok X fs m σ s) {a:Addr}{mm:Str→Option Value} (n:X.base.Ns a mm):s.heap.Ns a mm:=n.keepsP k.stays
theorem Ok.glob (k:Ok X fs m σ s) {val:Value}{v:V} (r:Rep X.F [] X.base val v):Rep X.F m s.heap val v:=r.ext List.nil_prefix (.of_sub k.stays)

theorem zei {x:Str} (h:zc4 x=true):(x == ("__debug__" : Str))=false∧(x == ("__classdict__" : Str))=false:=by
 unfold zc4 at h
 simpa using h
theorem zg2 (e:EnvOK X vars env ρ m s.heap) {i:Nat}{v:V} (hr:ρ[i]?=some (some v)) {x:Str}{p:Pos} (hok:((match vars[i]? with
  | some l=>nm l x
  | none=>false)&&zgW env.scope x&&zc4 x)=true) {M:Model}{Q:Value→Shared→Prop} (h:∀ val,Rep X.F m s.heap val v→Q val s):wpAny M A (eval (.Name x p) env) Q E s:=by
 refine bc fun hN=>?_
 refine zaW (Bool.and_eq_true_iff.mp hok |>.imp_left Bool.and_eq_true_iff.mp) fun nn0 h3=>?_
 obtain⟨h1,h2⟩:=nn0
 refine zaW (zei h3) fun d1 d2=>?_
 induction hv:vars[i]? using Option.casesOn with
 | none=>replace h1:=hv▸h1; exact(Bool.false_ne_true h1).elim
 | some l=>
  replace h1:=hv▸h1
  have hx:=zdj.mp h1
  subst hx
  refine zao e.vars fun lm hns hvars=>?_
  have:zcE X env m s.heap lm (zaa l) (some v):=hvars i l _ hv hr
  refine hN ?_
  refine wpAny_Name ?_ d1
  delta zcE at this
  generalize hl:env.scope.names.lookup (zaa l)=o at this
  refine bc fun hN=>?_
  induction o using Option.casesOn with
  | none=>exact this.elim
  | some k=>
   induction k using NameKind.casesOn with
   | «local»=>
    refine zao (this v rfl) fun val a b=>?_
    refine hN ?_
    exact wpAny_loadName_local e.kind hl hns a (h val b)
   | cell=>
    refine ztn this fun c v₀ a b ua ub f=>?_
    refine zao (f v rfl) fun val ee0 r=>?_
    subst ee0
    refine hN ?_
    exact wpAny_loadName_cell e.kind hl a b (h val r)
   | free=>
    refine ztn this fun c v₀ a b ua ub f=>?_
    refine zao (f v rfl) fun val ee0 r=>?_
    subst ee0
    refine hN ?_
    exact wpAny_loadName_free e.kind hl a b (h val r) d2
   | _=>exact this.elim
theorem ziQ {sc:Scope}{x:Str} (h:zlk sc x=true):sc.names.lookup x=some .globalImplicit:=by
 refine IfT.out ?_ h
 delta zlk
 generalize sc.names.lookup x=o
 induction o using Option.casesOn with
 | none=>exact True.intro
 | some k=>
  induction k using NameKind.casesOn with
  | globalImplicit=>exact .mk fun ua=>rfl
  | _=>exact True.intro
theorem zff {sc:Scope}{l:List Nat}{g:Expr} (h:okG sc l g=true):∃ p,g=.Name (zaa l) p∧sc.names.lookup (zaa l)=some .globalImplicit∧(zaa l == ("__debug__" : Str))=false:=
 B2 h fun h0 h=>B3 h fun h1 h2 h3=>by
  have hx:=zdj.mp h1
  rw[hx] at h2 h3
  exact zle _ ((zfp h0).trans (congrArg (Expr.Name · _) hx)) (ziQ h2) ((zei h3).1)
theorem zcL (k:Ok X fs m σ s) (f:Facts X) (e:EnvOK X vars env ρ m s.heap) {l:List Nat}{g:Expr} (h:okG env.scope l g=true) {val:Value} (hv:X.mg (zaa l)=some val) {M:Model}{Q:Value→Shared→Prop} (hq:Q val s) :
  wpAny M A (eval g env) Q E s:=by
 refine zb8 (zff h) fun p ee0 h1 h2=>?_
 subst ee0
 exact Name_function_global e.kind h1 (loadGlobal_global (by refine e.glob.symm▸?_; exact k.ns f.mg) hv hq) h2
theorem zcM (k:Ok X fs m σ s) (f:Facts X) (e:EnvOK X vars env ρ m s.heap) {l:List Nat}{g:Expr} (h:okG env.scope l g=true) {val:Value} (hg:X.mg (zaa l)=none∧X.mb (zaa l)=some val) {M:Model}{Q:Value→Shared→Prop} (hq:Q val s) :
  wpAny M A (eval g env) Q E s:=by
 refine zb8 (zff h) fun p ee0 h1 h2=>?_
 subst ee0
 exact Name_function_global e.kind h1 (loadGlobal_builtin (by refine e.glob.symm▸?_; exact k.ns f.mg) hg.1 (by refine e.bui.symm▸?_; exact k.ns f.mb) hg.2 hq) h2

theorem zjy (k:Ok X fs m σ s) {v:V}{c:Const}{n:Nat}{p:Pos} (h:okC v c=true):wpAny (model X.prog X.w) A (eval (.Constant c n p) env) (PV X fs m s (.ok v σ)) E s:=by
 refine IfT.out ?_ h
 clear h
 induction v using V.casesOn with
 | none=>induction c using PySem.Const.casesOn with
  | none=>exact wpAny_Constant_none (zct k .none)
  | _=>exact True.intro
 | bool x=>induction c using PySem.Const.casesOn with
  | bool y=>
   refine .mk fun h=>?_
   refine(eq_of_beq (show(x == y)=true from h)).symm▸?_
   exact wpAny_Constant_bool (zct k (.bool _))
  | _=>exact True.intro
 | int x=>induction c using PySem.Const.casesOn with
  | int y=>
   refine .mk fun h=>?_
   refine(of_decide_eq_true (show decide (x=y)=true from h)).symm▸?_
   exact wpAny_Constant_int (za1 k _ (.int _ _))
  | _=>exact True.intro
 | str x=>induction c using PySem.Const.casesOn with
  | str y=>
   refine .mk fun h=>?_
   refine(zdj.mp (show nm x y=true from h)).symm▸?_
   exact Constant_str (za1 k _ (.str _ _))
  | _=>exact True.intro
 | _=>induction c using PySem.Const.casesOn <;> exact True.intro
end
end
section
open W Calls PyProof.Rows
section
variable {T:Tab}{vars:List (List Nat)}{sc:Scope}{pe:Expr}

theorem zpX {v:V}{c:Const} (h:okC (zuR v) c=true):∃ i j,v=.int i∧c=.int j∧i = -j:=by
 refine IfT.out ?_ h
 clear h
 induction v using V.casesOn with
 | int i=>
  induction c using Const.casesOn with
  | int j=>exact .mk fun h=>⟨i,j,rfl,rfl,by rw[← of_decide_eq_true h,Int.neg_neg]⟩
  | _=>exact True.intro
 | _=>induction c using Const.casesOn <;> exact True.intro
theorem zlE {v:V} (h:okE T vars sc (.c v) pe=true):(∃ c n p,pe=.Constant c n p∧okC v c=true)∨∃ i j n p q,v=.int i∧pe=.UnaryOp .USub (.Constant (.int j) n p) q∧i = -j:=
 Or.elim (Bool.or_eq_true_iff.mp h) (fun h=>B2 h fun h0 h=>.inl ⟨_,_,_,znB h0,h⟩) fun h=>B2 h fun h0 h=>B2 h fun h1 h=>B2 h fun h2 h=>.inr (zc0 (zpX h) fun i j a b c=>⟨i,j,_,_,_,a,(zuO h0).trans (by rw[eq_of_beq h1,znB h2,b]),c⟩)
theorem zf9 {i:Nat} (h:okE T vars sc (.x i) pe=true):∃ x p,pe=.Name x p∧((match vars[i]? with
  | some l=>nm l x
  | none=>false)&&zgW sc x&&zc4 x)=true:=
 B2 h fun h0 h=>zdf _ _ (zfp h0) h
theorem zr3 {n:Nat} (h:okE T vars sc (.g n) pe=true):∃ p,T.globs[n]?=some p∧okG sc p.1 pe=true:=by
 have h:(match T.globs[n]? with
  | some p=>okG sc p.1 pe
  | none=>false)=true:=h
 induction e:T.globs[n]? using Option.casesOn with
 | none=>rw[e] at h; exact(Bool.false_ne_true h).elim
 | some q=>rw[e] at h; exact⟨q,rfl,h⟩
theorem zlF {a:E} (h:okE T vars sc (.not a) pe=true):∃ e p,pe=.UnaryOp .Not e p∧okE T vars sc a e=true:=
 B2 h fun h0 h=>B2 h fun h1 h2=>zdf _ _ ((zuO h0).trans (congrArg (Expr.UnaryOp · _ _) (eq_of_beq h1))) h2
theorem zlG {k:Bool}{es:Es} (h:okE T vars sc (.bop k es) pe=true):∃ l p,pe=.BoolOp (if k then .And else .Or) l p∧okEs T vars sc es l=true:=
 B2 h fun h0 h=>B2 h fun h1 h2=>zdf _ _ ((ztK h0).trans (congrArg (Expr.BoolOp · _ _) (eq_of_beq h1))) h2
theorem zlH {t a b:E} (h:okE T vars sc (.ite t a b) pe=true):∃ t' a' b' p,pe=.IfExp t' a' b' p∧okE T vars sc t t'=true∧okE T vars sc a a'=true∧okE T vars sc b b'=true:=
 B2 h fun h0 h=>B3 h fun h1 h2 h3=>zrq _ _ _ _ (zvh h0) h1 h2 h3
theorem ziR {op:CmpOp}{a b:E} (h:okE T vars sc (.cmp op a b) pe=true):∃ l r p,pe=.Compare l [op] [r] p∧okE T vars sc a l=true∧okE T vars sc b r=true∧behindInMarks op r=false:=
 B2 h fun h0 h=>B2 h fun h1 h=>B2 h fun h2 h=>B3 h fun h3 h4 h5=>
  zrf _ _ _ ((ztM h0).trans (zci (fun a b=>Expr.Compare _ a b _) (eq_of_beq h1) (zkn dE h2))) h3 h4 (Bool.not_eq_true' _▸h5)
theorem zpY {op:Operator}{a b:E} (h:okE T vars sc (.bin op a b) pe=true):∃ l r p,pe=.BinOp l op r p∧okE T vars sc a l=true∧okE T vars sc b r=true:=
 B2 h fun h0 h=>B3 h fun h1 h2 h3=>znv _ _ _ ((ztL h0).trans (congrArg (Expr.BinOp _ · _ _) (eq_of_beq h1))) h2 h3
theorem zpZ {es:Es} (h:okE T vars sc (.tup es) pe=true):∃ l n p,pe=.Tuple l n p∧okEs T vars sc es l=true:=
 B2 h fun h0 h=>znu _ _ _ (zrC h0) h
theorem zp0 {es:Es} (h:okE T vars sc (.lst es) pe=true):∃ l p,pe=.List l p∧okEs T vars sc es l=true:=
 B2 h fun h0 h=>zdf _ _ (ztN h0) h
theorem znQ {ks:List (List Nat)}{es:Es} (h:okE T vars sc (.dict ks es) pe=true):∃ keys vals p,pe=.Dict keys vals p∧zfr ks keys=true∧okEs T vars sc es vals=true∧ks.length≤15∧zdO ks=true∧ks.length≠0∧keys.length=vals.length:=
 B2 h fun h0 h=>B6 h fun h1 h2 h3 h4 h5 h6=>zvc _ _ _ (zrz h0) h1 h2 (of_decide_eq_true h3) h4 (of_decide_eq_true h5) (Nat.eq_of_beq_eq_true h6)
theorem zlI {a i:E} (h:okE T vars sc (.sub a i) pe=true):∃ v s p,pe=.Subscript v s p∧okE T vars sc a v=true∧okE T vars sc i s=true∧zgX s=true:=
 B2 h fun h0 h=>B3 h fun h1 h2 h3=>zrf _ _ _ (zll h0) h1 h2 h3
theorem zr4 {a lo hi:E} (h:okE T vars sc (.sl a lo hi) pe=true):∃ v l hh p q,pe=.Subscript v (.Slice l hh none p) q∧okE T vars sc a v=true∧okO T vars sc lo l=true∧okO T vars sc hi hh=true:=
 B2 h fun h0 h=>B2 h fun h1 h=>B4 h fun h2 h3 h4 h5=>
  ztE _ _ _ _ _ ((zll h0).trans (congrArg (Expr.Subscript _ · _) ((zvi h1).trans (congrArg (Expr.Slice _ _ · _) (zhD h2))))) h3 h4 h5
theorem znR {a:E}{k:Nat} (h:okE T vars sc (.attr a k) pe=true):∃ v p,pe=.Attribute v (zae k) p∧isX a=true∧okE T vars sc a v=true∧k < 2:=
 B2 h fun h0 h=>B4 h fun h1 h2 h3 h4=>zo2 _ _ ((zgj h0).trans (congrArg (Expr.Attribute _ · _) (eq_of_beq h3))) h1 h2 (of_decide_eq_true h4)
theorem ztY {g:Comprehension}{t:Expr} (h:g.target=t) (h1:g.ifs=[]) (h2:g.is_async=0):g=⟨t,g.iter,[],0⟩:=by
 obtain⟨a,b,c,d⟩:=g
 exact congr (zci (fun t i=>Comprehension.mk t b i) h h1) h2
theorem zej (h:isK 16 pe=true) (k:(zjt pe).isEmpty=true):pe=.Call (e1 pe) (l1 pe) [] pe.pos:=(zrB h).trans (congrArg (Expr.Call _ _ · _) (zeE k))
theorem zlJ {k:List Nat} (h:isK 16 pe=true) (h1:(zjt pe).isEmpty=true) (h2:isK 20 (e1 pe)=true) (h3:nm k (nmE (e1 pe))=true):pe=.Call (.Attribute (e1 (e1 pe)) (zaa k) (e1 pe).pos) (l1 pe) [] pe.pos:=
 (zej h h1).trans (congrArg (Expr.Call · _ _ _) ((zgj h2).trans (congrArg (Expr.Attribute _ · _) (zdj.mp h3))))
theorem zg3 {f:Nat}{es:Es} (h:okE T vars sc (.call f es) pe=true):∃ g args p fn,pe=.Call g args [] p∧T.fns[f]?=some fn∧okG sc fn.name g=true∧6 < f∧okEs T vars sc es args=true∧args.length≤20:=
 B2 h fun h0 h=>B2 h fun h1 h=>B3 h fun h2 h3 h4=>by
  have h2:(match T.fns[f]? with
   | some fn=>okG sc fn.name (e1 pe)&&decide (6 < f)
   | none=>false)=true:=h2
  induction e:T.fns[f]? using Option.casesOn with
  | none=>rw[e] at h2; exact(Bool.false_ne_true h2).elim
  | some fn=>rw[e] at h2; exact B2 h2 fun h5 h6=>ztF _ _ _ fn (zej h0 h1) rfl h5 (of_decide_eq_true h6) h3 (of_decide_eq_true h4)
theorem zo8 {b:BI}{es:Es} (h:okE T vars sc (.bi b es) pe=true):∃ g args p,pe=.Call g args [] p∧okG sc (zhF b) g=true∧okEs T vars sc es args=true∧args.length≤20:=
 B2 h fun h0 h=>B2 h fun h1 h=>B3 h fun h2 h3 h4=>zrf _ _ _ (zej h0 h1) h2 h3 (of_decide_eq_true h4)
theorem zlK {a:E}{t:TY} (h:okE T vars sc (.isi a t) pe=true):∃ g e y p,pe=.Call g [e,y] [] p∧za0 e=true∧okG sc zb3 g=true∧okE T vars sc a e=true∧okG sc (zhG t) y=true:=
 B2 h fun h0 h=>B2 h fun h1 h=>B2 h fun h2 h=>B4 h fun h3 h4 h5 h6=>zuy _ _ _ _ ((zej h0 h1).trans (congrArg (Expr.Call _ · _ _) (znC dE h2))) h3 h4 h5 h6
theorem zp1 {a:E}{m:MT}{es:Es} (h:okE T vars sc (.mth a m es) pe=true):∃ o ap args cp,pe=.Call (.Attribute o (zaa (zhH m)) ap) args [] cp∧zbE ap cp=true ∧
  ((∃ i,a=.x i)∨∃ s,a=.c (.str s))∧okE T vars sc a o=true∧okEs T vars sc es args=true∧args.length≤20:=
 B2 h fun h0 h=>B2 h fun h1 h=>B2 h fun h2 h=>B6 h fun h3 h4 h5 h6 h7 h8=>ztF _ _ _ _ (zlJ h0 h1 h2 h6) h3 (znD h4) h5 h7 (of_decide_eq_true h8)
theorem zo9 {a:E}{m:WM}{es:Es} (h:okE T vars sc (.wm a m es) pe=true):∃ o ap args cp,pe=.Call (.Attribute o (zaa (zdk m)) ap) args [] cp∧zbE ap cp=true ∧
  (∃ i,a=.x i)∧okE T vars sc a o=true∧okEs T vars sc es args=true∧args.length≤20:=
 B2 h fun h0 h=>B2 h fun h1 h=>B2 h fun h2 h=>B6 h fun h3 h4 h5 h6 h7 h8=>ztF _ _ _ _ (zlJ h0 h1 h2 h6) h3 (zpK h4) h5 h7 (of_decide_eq_true h8)
theorem znS {n:Nat}{a:E}{d:V} (h:okE T vars sc (.dget n a d) pe=true):∃ g ap e c k cp' cp q,pe=.Call (.Attribute g (zaa zrD) ap) [e,.Constant c k cp'] [] cp∧zbE ap cp=true∧za0 e=true ∧
  T.dicts[n]?=some q∧okG sc q.1 g=true∧okE T vars sc a e=true∧okC d c=true:=
 B2 h fun h0 h=>B2 h fun h1 h=>B2 h fun h2 h=>B2 h fun h3 h=>B2 h fun h4 h=>B6 h fun q1 q2 q3 q4 q5 q6=>by
  have q3:(match T.dicts[n]? with
   | some p=>okG sc p.1 (e1 (e1 pe))
   | none=>false)=true:=q3
  induction e':T.dicts[n]? using Option.casesOn with
  | none=>rw[e'] at q3; exact(Bool.false_ne_true q3).elim
  | some p=>rw[e'] at q3; exact zve _ _ _ _ _ _ _ p ((zlJ h0 h1 h3 q4).trans (congrArg (Expr.Call _ · _ _) ((znC dE h2).trans (congrArg (fun y=>[_,y]) (znB h4))))) q1 q2 rfl q3 q5 q6
theorem zlL {f:E}{es:Es} (h:okE T vars sc (.vcall f es) pe=true):∃ v s p args cp,pe=.Call (.Subscript v s p) args [] cp∧okE T vars sc f (.Subscript v s p)=true∧okEs T vars sc es args=true∧args.length≤20:=
 B2 h fun h0 h=>B2 h fun h1 h=>B2 h fun h2 h=>B3 h fun h3 h4 h5=>ztE _ _ _ _ _ ((zej h0 h1).trans (congrArg (Expr.Call · _ _ _) (zll h2))) (zll h2▸h3) h4 (of_decide_eq_true h5)
theorem znT {a:E} (h:okE T vars sc (.newW a) pe=true):∃ g e p,pe=.Call g [e] [] p∧za0 e=true∧okG sc zgY g=true∧okE T vars sc a e=true:=
 B2 h fun h0 h=>B2 h fun h1 h=>B2 h fun h2 h=>B3 h fun h3 h4 h5=>zrf _ _ _ ((zej h0 h1).trans (congrArg (Expr.Call _ · _ _) (zkn dE h2))) h3 h4 h5
theorem zlM {a:E} (h:okE T vars sc (.range a) pe=true):∃ g e p,pe=.Call g [e] [] p∧za0 e=true∧okG sc zfq g=true∧okE T vars sc a e=true:=
 B2 h fun h0 h=>B2 h fun h1 h=>B2 h fun h2 h=>B3 h fun h3 h4 h5=>zrf _ _ _ ((zej h0 h1).trans (congrArg (Expr.Call _ · _ _) (zkn dE h2))) h3 h4 h5
theorem zjz {cap:List Nat}{elt it:E} (h:okE T vars sc (.comp cap elt it) pe=true):∃ e t tp iter sc' p l,pe=.ListComp e [⟨.Name t tp,iter,[],0⟩] sc' p∧okE T vars sc it iter=true∧zbc vars cap=some l ∧
  okE T (l++[t.cps.toList]) (zko sc sc') elt e=true∧zdN sc (zko sc sc') l=true∧zdO (l++[t.cps.toList])=true∧sc'.names.lookup t=some .local∧sc'.kind=.function ∧
  (∀ x∈sc'.names,x.2≠.cell∧sc'.names.lookup x.1=some x.2)∧zhE iter=true∧(∀ x∈sc'.names,x.2=.free→∃ y∈l,x.1=zaa y):=by
 refine B2 h fun h0 h=>B2 h fun h1 h=>B2 h fun h2 h=>B2 h fun h3 h=>B2 h fun h4 h=>B6 h fun q1 q2 q3 q4 q5 q6=>?_
 have q2:(match zbc vars cap with
  | some l=>okE T (l++[(nmE (gg pe).target).cps.toList]) (zko sc (scE pe)) elt (e1 pe)&&zdN sc (zko sc (scE pe)) l&&zdO (l++[(nmE (gg pe).target).cps.toList])&&((scE pe).names.all fun x=>decide (x.2≠.free)||l.any (nm · x.1))
  | none=>false)=true:=q2
 induction ec:zbc vars cap using Option.casesOn with
 | none=>rw[ec] at q2; exact(Bool.false_ne_true q2).elim
 | some l=>
  rw[ec] at q2
  refine B4 q2 fun g1 g2 g3 g4=>?_
  have e:=ztY (zfp h2) (zeE h3) (of_decide_eq_true h4)
  refine⟨_,_,_,_,_,_,l,(zrA h0).trans (congrArg (Expr.ListComp _ · _ _) ((zkn _ h1).trans (congrArg (fun g=>[g]) e))),q1,rfl,g1,g2,g3,eq_of_beq q3,eq_of_beq q4,fun x hx=>?_,q6,fun x hx hxf=>?_⟩
  ·exact B2 (List.all_eq_true.mp q5 x hx) fun a b=>⟨of_decide_eq_true a,eq_of_beq b⟩
  ·refine Or.elim (Bool.or_eq_true_iff.mp (List.all_eq_true.mp g4 x hx)) (fun q=>absurd hxf (of_decide_eq_true q)) fun q=>?_
   refine zao (List.any_eq_true.mp q) fun y hy hyx=>?_
   exact zc1 y hy (zdj.mp hyx)
theorem zd2 {l:List Expr} (h:okEs T vars sc .nil l=true):l=[]:=
 zeE h
theorem zbX {e:E}{es:Es}{l:List Expr} (h:okEs T vars sc (.cons e es) l=true):∃ pe pes,l=pe::pes∧okE T vars sc e pe=true∧za0 pe=true∧okEs T vars sc es pes=true:=
 B2 h fun h0 h=>B3 h fun h1 h2 h3=>zo2 _ _ (zo6 dE h0) h1 h2 h3
theorem ztZ {e:E}{l:Option Expr} (h:okO T vars sc e l=true):(e=.c .none∧l=none)∨∃ pe,l=some pe∧okE T vars sc e pe=true:=by
 induction l using Option.casesOn with
 | none=>exact .inl ⟨znE h,rfl⟩
 | some pe=>exact .inr ⟨pe,rfl,h⟩
end
end
section
open W Calls PyProof.Rows
section
variable {T:Tab}{vars:List (List Nat)}{sc:Scope}{ps:Stmt}
theorem zpa {b:Bool} (h:(!b)=true):b=false:=Bool.not_eq_true' b▸h
theorem zlN {t:Expr} (h0:isQ 5 ps=true) (h1:one (tsS ps)=true) (h2:th ps=t):ps=.Assign [t] (v1 ps) (sP ps):=(ztP h0).trans (congrArg (Stmt.Assign · _ _) ((zkn dE h1).trans (congrArg (fun t=>[t]) h2)))
theorem zr5 {t:Expr}{op:Operator} (h0:isQ 7 ps=true) (h1:t1 ps=t) (h2:opS ps=op):ps=.AugAssign t op (v1 ps) (sP ps):=(ztQ h0).trans (zci (fun t o=>Stmt.AugAssign t o _ _) h1 h2)
noncomputable def hP:ExceptHandler→Pos
 | .ExceptHandler _ _ _ p=>p
theorem zr6 {x:ExceptHandler} (h:(hN x).isNone=true) (k:(hT x).isSome=true):x=.ExceptHandler (some ((hT x).getD dE)) none (hB x) (hP x):=by
 obtain⟨a,b,c,d⟩:=x
 exact zci (fun a b=>ExceptHandler.ExceptHandler a b c d) (zlm dE k) (zhD h)
theorem zp2 {e:E} (h:okS T vars sc (.expr e) ps=true):∃ pe p,ps=.Expr pe p∧okE T vars sc e pe=true∧zdc pe=false:=
 B2 h fun h0 h=>B2 h fun q1 q2=>zki _ _ (zo5 h0) q1 (zpa q2)
theorem zpb {i:Nat}{e:E} (h:okS T vars sc (.asg i e) ps=true):∃ x np pe p,ps=.Assign [.Name x np] pe p∧zdl vars sc i x=true∧okE T vars sc e pe=true∧zpL sc x np pe=true:=
 B2 h fun h0 h=>B2 h fun h1 h=>B2 h fun h2 h=>B3 h fun q1 q2 q3=>zrq _ _ _ _ (zlN h0 h1 (zfp h2)) q1 q2 q3
theorem zp3 {is:List Nat}{e:E} (h:okS T vars sc (.asgT is e) ps=true):∃ ts k tp pe p,ps=.Assign [.Tuple ts k tp] pe p∧ziN vars sc is ts=true∧okE T vars sc e pe=true∧zcg is=true∧zdc pe=false∧zln pe=true:=
 B2 h fun h0 h=>B2 h fun h1 h=>B2 h fun h2 h=>B5 h fun q1 q2 q3 q4 q5=>zuA _ _ _ _ _ (zlN h0 h1 (zrC h2)) q1 q2 q3 (zpa q4) q5
theorem zp4 {a:E}{k:Nat}{e:E} (h:okS T vars sc (.setA a k e) ps=true):∃ o op pe p,ps=.Assign [.Attribute o (zae k) op] pe p∧okE T vars sc a o=true∧okE T vars sc e pe=true∧zdc pe=false∧k < 2:=
 B2 h fun h0 h=>B2 h fun h1 h=>B2 h fun h2 h=>B6 h fun q0 ua q2 q3 q4 q5=>zuy _ _ _ _ (zlN h0 h1 ((zgj h2).trans (congrArg (Expr.Attribute _ · _) (eq_of_beq q0)))) q2 q3 (zpa q4) (of_decide_eq_true q5)
theorem zp5 {a i e:E} (h:okS T vars sc (.setI a i e) ps=true):∃ o sl sp pe p,ps=.Assign [.Subscript o sl sp] pe p∧okE T vars sc a o=true∧okE T vars sc i sl=true∧okE T vars sc e pe=true∧zdc pe=false:=
 B2 h fun h0 h=>B2 h fun h1 h=>B2 h fun h2 h=>B6 h fun ua ub q3 q4 q5 q6=>zuz _ _ _ _ _ (zlN h0 h1 (zll h2)) q3 q4 q5 (zpa q6)
theorem zr7 {i:Nat}{op:Operator}{e:E} (h:okS T vars sc (.aug i op e) ps=true):∃ x xp pe p,ps=.AugAssign (.Name x xp) op pe p∧vars[i]?.any (nm · x)=true∧sc.names.lookup x=some .local∧okE T vars sc e pe=true:=
 B2 h fun h0 h=>B2 h fun h1 h=>B4 h fun q1 q2 q3 q4=>zrq _ _ _ _ (zr5 h0 (zfp h1) (eq_of_beq q1)) q2 (eq_of_beq q3) q4
theorem zp6 {a:E}{k:Nat}{op:Operator}{e:E} (h:okS T vars sc (.augA a k op e) ps=true):∃ o ap pe p,ps=.AugAssign (.Attribute o (zae k) ap) op pe p∧okE T vars sc a o=true∧okE T vars sc e pe=true∧k < 2:=
 B2 h fun h0 h=>B2 h fun h1 h=>B6 h fun q1 q2 ua q4 q5 q6=>zrq _ _ _ _ (zr5 h0 ((zgj h1).trans (congrArg (Expr.Attribute _ · _) (eq_of_beq q2))) (eq_of_beq q1)) q4 q5 (of_decide_eq_true q6)
theorem zpc {t:E}{b o:Ss} (h:okS T vars sc (.ite t b o) ps=true):∃ t' b' o' p,ps=.If t' b' o' p∧okE T vars sc t t'=true∧okSs T vars sc b b'=true∧okSs T vars sc o o'=true:=
 B2 h fun h0 h=>B3 h fun h1 h2 h3=>zrq _ _ _ _ (zvj h0) h1 h2 h3
theorem zr8 {t:E}{b:Ss} (h:okS T vars sc (.whl t b) ps=true):∃ t' b' p,ps=.While t' b' [] p∧okE T vars sc t t'=true∧okSs T vars sc b b'=true:=
 B2 h fun h0 h=>B2 h fun h1 h=>B2 h fun h2 h3=>znv _ _ _ ((ztS h0).trans (congrArg (Stmt.While _ _ · _) (zeE h1))) h2 h3
theorem zr9 {i:Nat}{it:E}{b:Ss} (h:okS T vars sc (.for_ i it b) ps=true):∃ x xp it' b' p,ps=.For (.Name x xp) it' b' [] p∧zdl vars sc i x=true∧okE T vars sc it it'=true∧okSs T vars sc b b'=true∧zhE it'=true:=
 B2 h fun h0 h=>B2 h fun h1 h=>B2 h fun h2 h=>B4 h fun q1 q2 q3 q4=>zuz _ _ _ _ _ ((ztR h0).trans (zci (fun t l=>Stmt.For t _ _ l _) (zfp h2) (zeE h1))) q1 q2 q3 q4
theorem zpd {e:E} (h:okS T vars sc (.ret e) ps=true):∃ pe p,ps=.Return (some pe) p∧okE T vars sc e pe=true:=
 B2 h fun h0 h=>B2 h fun h1 h=>zdf _ _ ((ztO h0).trans (congrArg (Stmt.Return · _) (zlm dE h1))) h
theorem znU {a b:E} (h:okS T vars sc (.raise a b) ps=true):∃ g a' b' cp p,ps=.Raise (some (.Call g [a',b'] [] cp)) none p∧za0 a'=true∧za0 b'=true∧okG sc zpJ g=true∧okE T vars sc a a'=true∧okE T vars sc b b'=true:=
 B2 h fun h0 h=>B2 h fun h1 h=>B2 h fun h2 h=>B2 h fun h3 h=>B2 h fun h4 h=>B2 h fun h5 h=>B5 h fun q1 q2 q3 q4 q5=>
  zuA _ _ _ _ _ ((zpI h0).trans (zci (fun o c=>Stmt.Raise o c _) ((zlm dE h2).trans (congrArg some ((zej h3 h4).trans (congrArg (Expr.Call _ · _ _) (znC dE h5))))) (zhD h1))) q1 q2 q3 q4 q5
theorem zsa {b h₀:Ss} (h:okS T vars sc (.try_ b h₀) ps=true):∃ b' g h' hp p,ps=.Try b' [.ExceptHandler (some g) none h' hp] [] [] p∧okSs T vars sc b b'=true∧okG sc zpJ g=true∧okSs T vars sc h₀ h'=true:=
 B2 h fun h0 h=>B2 h fun h1 h=>B2 h fun h2 h=>B2 h fun h3 h=>B2 h fun h4 h=>B2 h fun h5 h=>B3 h fun q1 q2 q3=>
  ztE _ _ _ (hP (hh ps)) _ ((ztT h0).trans (by rw[zeE h1,zeE h2,zkn _ h3]; exact congrArg (fun x=>Stmt.Try _ [x] [] [] _) (zr6 h4 h5))) q1 q2 q3
theorem zsb (h:okS T vars sc .brk ps=true):∃ p,ps=.Break p:=
 ⟨_,ztU h⟩
theorem znV {k:Bool}{l:List Stmt} (h:okSs T vars sc (.cons (.ret (.c (.bool k))) .nil) l=true):∃ i cp rp,l=[.Return (some (.Constant (.bool k) i cp)) rp]:=by
 refine B2 h fun h0 h=>B2 h fun w1 w2=>?_
 refine zaZ (zpd w1) fun pe rp e w=>?_
 refine Or.elim (zlE w) (fun w=>zgT w fun c i cp e2 hc=>?_) fun w=>zur w fun ua ub uc ud ue q uf ug=>by exact noI V.ctorIdx q rfl
 have:c=.bool k:=by
  refine IfT.out ?_ hc
  induction c using Const.casesOn with
  | bool k'=>exact .mk fun e=>congrArg _ (eq_of_beq e).symm
  | _=>exact True.intro
 exact⟨i,cp,rp,(zo6 dS h0).trans (zci List.cons (e.trans (by rw[e2,this])) (zeE w2))⟩
end
theorem zkB {h:Ss} (hn:caught h .exc≠.stuck):∃ k,h=.cons (.ret (.c (.bool k))) .nil:=by
 refine IfS.out (P:=fun ua=>∃ k,h=.cons (.ret (.c (.bool k))) .nil) ?_ hn
 clear hn
 induction h using Ss.casesOn with
 | nil=>exact True.intro
 | cons s r=>
  induction s using S.casesOn with
  | ret e=>
   induction e using E.casesOn with
   | c v=>
    induction v using V.casesOn with
    | bool k=>
     induction r using Ss.casesOn with
     | nil=>exact⟨k,rfl⟩
     | cons _ _=>exact True.intro
    | _=>exact True.intro
   | _=>exact True.intro
  | _=>exact True.intro
theorem zjA {op:Operator}{u v c:V} (h:zuC op u v=some c):op=.Add∧∃ a b,u=.int a∧v=.int b∧c=.int (a+b):=by
 refine IfO.out (P:=fun c=>op=.Add∧∃ a b,u=.int a∧v=.int b∧c=.int (a+b)) ?_ h
 clear h
 induction op using Operator.casesOn with
 | Add=>
  induction u using V.casesOn with
  | int x=>
   induction v using V.casesOn with
   | int y=>exact⟨rfl,_,_,rfl,rfl,rfl⟩
   | _=>exact True.intro
  | _=>exact True.intro
 | _=>exact True.intro
theorem zhM {σ:List C}{v c:V}{i:Nat} (h:znw σ v i=some c):∃ nn as,v=.loc nn∧σ[nn]?=some (.inst as)∧as.lookup i=some c:=by
 refine IfO.out (P:=fun c=>∃ nn as,v=.loc nn∧σ[nn]?=some (.inst as)∧as.lookup i=some c) ?_ h
 clear h
 induction v using V.casesOn with
 | loc n=>
  delta znw
  dsimp only
  generalize hs:σ[n]?=o
  induction o using Option.casesOn with
  | none=>exact True.intro
  | some c=>
   induction c using C.casesOn with
   | inst as=>
    generalize hl:as.lookup i=q
    induction q using Option.casesOn with
    | none=>simp only[hl]; exact True.intro
    | some c=>simp only[hl]; exact zki _ _ rfl hs hl
   | _=>exact True.intro
 | _=>exact True.intro
theorem znW {σ:List C}{ρ:Env}{i:Nat} (h:zbh (zkm ρ i σ)):∃ u,ρ[i]?=some (some u):=by
 refine IfS.out (P:=fun ua=>∃ u,ρ[i]?=some (some u)) ?_ h.1
 clear h
 delta zkm
 generalize ρ[i]?=o
 induction o using Option.casesOn with
 | none=>exact True.intro
 | some a=>
  induction a using Option.casesOn with
  | none=>exact True.intro
  | some u=>exact⟨u,rfl⟩
theorem zlO (mt:MT) (v:V) (σ:List C):zeg mt v σ=.ok () σ∨zeg mt v σ=.stuck:=by
 induction mt using MT.casesOn with
 | append=>
  induction v using V.casesOn with
  | loc n=>
   delta zeg
   dsimp only
   generalize σ[n]?=o
   induction o using Option.casesOn with
   | none=>exact .inr rfl
   | some c=>
    induction c using C.casesOn with
    | list _=>exact .inl rfl
    | _=>exact .inr rfl
  | _=>exact .inr rfl
 | _=>
  induction v using V.casesOn with
  | str _=>exact .inl rfl
  | _=>exact .inr rfl
theorem zlP {T:Tab}{v:V}{σ:List C} (h:zbh (zlf T v σ)):zlf T v σ=.ok () σ∧∃ i fn,v=.fn i∧T.fns[i]?=some fn:=by
 refine IfS.out (P:=fun r=>r=.ok () σ∧∃ i fn,v=.fn i∧T.fns[i]?=some fn) ?_ h.1
 clear h
 induction v using V.casesOn with
 | fn i=>
  delta zlf
  dsimp only
  generalize hs:T.fns[i]?=o
  induction o using Option.casesOn with
  | none=>exact True.intro
  | some fn=>exact⟨rfl,_,_,rfl,hs⟩
 | _=>exact True.intro
theorem zlQ {v:V}{σ:List C} (h:zbh (zkj v σ)):zkj v σ=.ok () σ∧∃ n,v=.loc n∧((∃ rest,σ[n]?=some (.words rest))∨∃ as,σ[n]?=some (.inst as)):=by
 refine IfS.out (P:=fun r=>r=.ok () σ∧∃ n,v=.loc n∧((∃ rest,σ[n]?=some (.words rest))∨∃ as,σ[n]?=some (.inst as))) ?_ h.1
 clear h
 induction v using V.casesOn with
 | loc n=>
  delta zkj
  dsimp only
  generalize hs:σ[n]?=o
  induction o using Option.casesOn with
  | none=>exact True.intro
  | some c=>
   induction c using C.casesOn with
   | words rest=>exact⟨rfl,_,rfl,.inl ⟨_,hs⟩⟩
   | inst as=>exact⟨rfl,_,rfl,.inr ⟨_,hs⟩⟩
   | _=>exact True.intro
 | _=>exact True.intro
theorem zlR {T:Tab}{prim:Bool}{lo:Lo}{mt:WM}{n:Nat}{vs:List V}{σ:List C} (h:zbh (zdZ T prim lo mt (.loc n) vs σ)) :
  (prim=true∧(∃ rest,σ[n]?=some (.words rest))∧zdZ T prim lo mt (.loc n) vs σ=zdZ T true lo0 mt (.loc n) vs σ)∨((∃ as,σ[n]?=some (.inst as))∧zdZ T prim lo mt (.loc n) vs σ=lo.call (zjs mt) (.loc n::vs) σ):=by
 unfold zdZ at h ⊢
 dsimp only at h ⊢
 cases hs:σ[n]? with
 | none=>rw[hs] at h; exact zab h
 | some c=>
  rw[hs] at h
  cases c with
  | words rest=>
   cases prim with
   | true=>exact .inl ⟨rfl,⟨rest,rfl⟩,rfl⟩
   | false=>exact zab h
  | inst as=>exact .inr ⟨⟨as,rfl⟩,rfl⟩
  | list _=>exact zab h
  | dict _=>exact zab h
theorem znX {prim:Bool}{u:V}{σ:List C} (h:zbh (zla prim u σ)):prim=true:=by
 cases prim with
 | true=>rfl
 | false=>
  delta zla at h
  generalize za4 σ u=o at h
  induction o using Option.casesOn with
  | none=>exact zab h
  | some _=>exact zab h
theorem zp7 {k:List Nat}{c:Const} (h:okC (.str k) c=true):c=.str (zaa k):=by
 refine IfT.out ?_ h
 induction c using Const.casesOn with
 | str y=>exact .mk fun e=>congrArg _ (zdj.mp e)
 | _=>exact True.intro
theorem zlS {k:List Nat}{ks:List (List Nat)}{l:List (Option Expr)} (h:zfr (k::ks) l=true):∃ n p r,l=some (.Constant (.str (zaa k)) n p)::r∧zfr ks r=true:=by
 refine B2 h fun h1 h2=>?_
 refine IfT.out ?_ h1
 clear h h1
 induction l using List.casesOn with
 | nil=>exact True.intro
 | cons a r=>
  induction a using Option.casesOn with
  | none=>exact True.intro
  | some x=>exact .mk fun h=>B2 h fun h3 h4=>⟨_,_,r,congrArg (some ·::r) ((znB h3).trans (congrArg (Expr.Constant · _ _) (zp7 h4))),h2⟩
theorem zg4 {env:PySem.Env}{pos:Pos}{pe:Expr}{r:List Expr} (q:za0 pe=true):backTo pos (starEach (pe::r) env)=(false,eval pe env)::backTo pos (starEach r env):=by
 refine IfT.out ?_ q
 clear q
 induction pe using Expr.casesOn <;> first | exact True.intro | exact .mk fun ua=>rfl
theorem zsc {env:PySem.Env}{pos:Pos}{a:Expr} (q:za0 a=true):backTo pos (starEach [a] env)=[a].map fun e=>(false,eval e env):=by
 refine(zg4 q).symm▸?_; rfl
theorem zp8 {env:PySem.Env}{pos:Pos}{a b:Expr} (q:za0 a=true) (r:za0 b=true):backTo pos (starEach [a,b] env)=[a,b].map fun e=>(false,eval e env):=by
 rw[zg4 q,zg4 r]; rfl
end
section
open W Calls PyProof.Rows
section
variable (X:Stat)
noncomputable def zt0 (fl:Fl) (f:Flow) (m:AM) (h:Heap):Prop:=
 match fl with
 | .next=>f=.next
 | .brk=>f=.brk
 | .ret v=>∃ val,f=.ret val∧Rep X.F m h val v

structure Fresh (vars:List (List Nat)) (env:PySem.Env) (h:Heap):Prop where
 loc:h.get? env.locals=none
 cel:∀ x∈vars,∀ c,env.scope.names.lookup (zaa x)=some .cell→env.cells.lookup (zaa x)=some c→h.get? c=none

structure Sit (fs:List PySem.Env) (vars:List (List Nat)) (env:PySem.Env) (m₀:AM) (s₀:Shared) (ρ:Env) (σ:List C) (m:AM) (s:Shared):Prop where
 ext:Ext m₀ m s₀.heap s.heap
 ok:Ok X fs m σ s
 same:zc2 s₀ s
 eok:EnvOK X vars env ρ m s.heap
 fresh:Fresh vars env s₀.heap
 base:X.base.StaysIn s₀.heap
 nodup:(vars.map zaa).Nodup

noncomputable def PS (fs:List PySem.Env) (vars:List (List Nat)) (env:PySem.Env) (m₀:AM) (s₀:Shared) (r:R (Fl×Env)):Flow→Shared→Prop:=fun f s'=>
 (∃ fl ρ' σ' m',r=.ok (fl,ρ') σ'∧Sit X fs vars env m₀ s₀ ρ' σ' m' s'∧zt0 X fl f m' s'.heap)∨∃ b,r=.fin (.bool b)∧f=.ret (.bool b)∧X.base.StaysIn s'.heap∧zc2 s₀ s'

noncomputable def PC (fs:List PySem.Env) (m:AM) (s:Shared) (r:R V):Result→Shared→Prop:=fun res s'=>match res with
 | .ok (.ret v)=>PV X fs m s r v s'
 | .ok _=>False
 | .error e=>PX X fs s r e s'

structure LoOK (lo:Lo) (prim:Bool) (n:Nat):Prop where
 ex:∀ {fs:List PySem.Env}{A:Around}{env:PySem.Env}{vars:List (List Nat)}{e:E}{pe:Expr}{ρ:Env}{m:AM}{σ:List C}{s:Shared},okE X.T vars env.scope e pe=true→EnvOK X vars env ρ m s.heap→Ok X fs m σ s→Lim prim A n→A.frames=some fs →
  zbh (lo.ex e ρ σ)→wpAny (model X.prog X.w) A (eval pe env) (PV X fs m s (lo.ex e ρ σ)) (PX X fs s (lo.ex e ρ σ)) s
 tr:∀ {fs:List PySem.Env}{A:Around}{env:PySem.Env}{vars:List (List Nat)}{e:E}{pe:Expr}{ρ:Env}{m:AM}{σ:List C}{s:Shared},okE X.T vars env.scope e pe=true→EnvOK X vars env ρ m s.heap→Ok X fs m σ s→Lim prim A n→A.frames=some fs →
  zbh (lo.tr e ρ σ)→wpAny (model X.prog X.w) A (PySem.isTrue pe env (eval pe env)) (PB X fs m s (lo.tr e ρ σ)) (PX X fs s (lo.tr e ρ σ)) s
 st:∀ {fs outer:List PySem.Env}{A:Around}{env:PySem.Env}{vars:List (List Nat)}{b:Ss}{pb:List Stmt}{ρ:Env}{m₀ m:AM}{σ:List C}{s₀ s:Shared},okSs X.T vars env.scope b pb=true→Sit X fs vars env m₀ s₀ ρ σ m s→Lim prim A n→A.frames=some fs →
  fs=env::outer→env.frame=some env.locals→lo.st b ρ σ≠.stuck→wpAny (model X.prog X.w) A (execs pb env) (PS X fs vars env m₀ s₀ (lo.st b ρ σ)) (PX X fs s₀ (lo.st b ρ σ)) s
 call:∀ {fs:List PySem.Env}{A:Around}{f:Nat}{fn:Fn}{vals:List Value}{as:List V}{m:AM}{σ:List C}{s:Shared},X.T.fns[f]?=some fn→Reps X.F m s.heap vals as→Ok X fs m σ s→Lim prim A n→A.frames=some fs →
  zbh (lo.call f as σ)→codeAny (model X.prog X.w) A (.call (.ref fn.addr) ⟨vals,[]⟩) (PC X fs m s (lo.call f as σ)) s

structure PrimOK (prim:Bool):Prop where
 wm:∀ {fs:List PySem.Env}{A:Around}{mt:WM}{fn:Fn}{i:Nat}{val:Value}{vals:List Value}{as rest:List V}{m:AM}{σ:List C}{s:Shared},prim=true→X.T.fns[zjs mt]?=some fn→Rep X.F m s.heap val (.loc i)→σ[i]?=some (.words rest)→Reps X.F m s.heap vals as →
  Ok X fs m σ s→Lim false A 20→A.frames=some fs→zbh (zdZ X.T prim lo0 mt (.loc i) as σ) →
  wpAny (model X.prog X.w) A (PySem.call (.ref fn.addr) (val::vals)) (PV X fs m s (zdZ X.T prim lo0 mt (.loc i) as σ)) (PX X fs s (zdZ X.T prim lo0 mt (.loc i) as σ)) s
 new:∀ {fs:List PySem.Env}{A:Around}{u:V}{val:Value}{m:AM}{σ:List C}{s:Shared},Rep X.F m s.heap val u→Ok X fs m σ s→Lim false A 20→A.frames=some fs→zbh (zla prim u σ) →
  wpAny (model X.prog X.w) A (PySem.call (.ref X.WC) [val]) (PV X fs m s (zla prim u σ)) (PX X fs s (zla prim u σ)) s
end

section
variable {X:Stat}{fs:List PySem.Env}{m m':AM}{σ σ':List C}{s s':Shared}{A:Around}{E:Value→Shared→Prop}{vars:List (List Nat)}{env:PySem.Env}{ρ:Env}

theorem zt1 {M:Model}{t:Sem Value}{r r':R V}{s₁:Shared}{m₁:AM} (h:wpAny M A t (PV X fs m₁ s₁ r') (PX X fs s₁ r') s₁) (x:Ext m m₁ s.heap s₁.heap) (y:zc2 s s₁) (e:r'=r):wpAny M A t (PV X fs m s r) (PX X fs s r) s₁:=
 wpAny_mono h (fun val s2 g=>g.after x y e) fun v s2 g=>g.to y (fun q=>e▸q)
theorem zt2 {M:Model}{t:Sem Bool}{r r':R Bool}{s₁:Shared}{m₁:AM} (h:wpAny M A t (PB X fs m₁ s₁ r') (PX X fs s₁ r') s₁) (x:Ext m m₁ s.heap s₁.heap) (y:zc2 s s₁) (e:r'=r):wpAny M A t (PB X fs m s r) (PX X fs s r) s₁:=
 wpAny_mono h (fun val s2 ww=>zao ww fun σ2 a b=>⟨σ2,e▸a,b.after x y⟩) fun v s2 g=>g.to y (fun q=>e▸q)
theorem zgp {b:Bool} (k:Ok X fs m σ s):PB X fs m s (.ok b σ) b s:=⟨σ,rfl,m,.refl ..,k,.refl _⟩
theorem zsd {b:Bool} (k:Ok X fs m σ s) (tk:Nat):PB X fs m s (.ok b σ) b { s with toks:=tk }:=⟨σ,rfl,m,.refl ..,k.toks tk,⟨rfl,rfl,rfl⟩⟩

theorem zaY {T:Tab}{sc:Scope}{pos:Pos}:∀ {es:Es}{l:List Expr},okEs T vars sc es l=true→backTo pos (starEach l env)=l.map fun e=>(false,eval e env)
 | .nil,l,h=>by refine(zd2 h).symm▸?_; rfl
 | .cons e es,l,h=>by
  refine ziL (zbX h) fun pe pes ee0 ua h2 h3=>?_
  subst ee0
  have ih:=zaY (pos:=pos) (es:=es) h3
  refine List.map_cons.symm▸?_
  refine ih▸?_
  refine(zg4 h2).symm▸?_
  with_reducible rfl
theorem zhN {s:Expr} (h:zgX s=true) (o iv:Value):subscripted s false o iv=operate [o,iv] (getItem o iv):=by
 induction s using PySem.Expr.casesOn <;> first | (cases h; done) | rfl
end
end
section
open W Calls PyProof.Rows
section
variable {X:Stat}{fs:List PySem.Env}{m m':AM}{σ σ':List C}{s s':Shared}{A:Around}{E:Value→Shared→Prop}{vars:List (List Nat)}{env:PySem.Env}{ρ:Env}

set_option tactic.hygienic true in
theorem zlT (k:Ok X fs m σ s) {value:Expr}{l h:Option Expr}{p:Pos}{a lo hi:V}{va vl vh:Value} (ra:Rep X.F m s.heap va a) (rl:Rep X.F m s.heap vl lo) (rh:Rep X.F m s.heap vh hi) (hf:slV σ a lo hi≠.stuck) :
  wpAny (model X.prog X.w) A (subscriptTail value (.Slice l h none p) va (.ref s.heap.objs.size)) (PV X fs m s (slV σ a lo hi)) E { s with heap:=s.heap.push { cls:=.type "slice",data:=.fields #[vl,vh,.none] } }:=by
 unfold slV at hf ⊢
 split at hf
 ·rename_i x
  split at hf
  ·rename_i r hr
   split at hf
   ·rename_i hl
    refine(if_pos hl).symm▸?_
    cases ra with
    | str _ t=>
     refine zc0 (zlC k rl rh hr t hl) fun pl ph ee0 ee1 hp=>?_
     subst ee0
     subst ee1
     exact tail_any (T:="str") (typeIs_str _ _ _) F.slot_str_getitem.lookup (wpAny_getItem_str_slice (l:=pl) (u:=ph) (st:=none) ⟨_,Heap.get?_push_size _ rfl,rfl,rfl⟩ rfl hp) (ops:=[.ref s.heap.objs.size,.str (zaa x) t]) rfl
   ·exact absurd rfl hf
  ·exact absurd rfl hf
 ·rename_i n
  split at hf
  ·rename_i vs hn
   split at hf
   ·rename_i r hr
    split at hf
    ·rename_i hl
     refine(if_pos hl).symm▸?_
     refine zeC (k.list ra hn) fun la xs c ee0 ua o1 r1=>?_
     subst ee0
     refine zc0 (zkz k rl rh hr r1) fun pl ph p1 p2 hp=>?_
     have hsz:xs.toArray.size≤sizeLine:=by
      refine List.size_toArray.symm▸?_; refine r1.length.symm▸?_; refine sizeLine_eq.symm▸?_; unfold LIM at hl; exact Nat.le_trans ‹_› (by decide)
     refine tail_any (T:="list") (Heap.IsList.typeIs (s:={ s with heap:=s.heap.push _ }) ((zaI o1).push _)) F.slot_list_getitem.lookup
      (wpAny_getItem_list_slice (hsz:=hsz) ((zaI o1).push _) (Heap.IsSliceOf.new ..) p1 p2 .none (by trivial) ?_) (ops:=[.ref s.heap.objs.size,.ref la]) rfl
     show PV X fs m s _ (.ref (s.heap.push _).objs.size) _
     rw[Heap.size_push]
     exact hp
    ·exact absurd rfl hf
   ·exact absurd rfl hf
  ·exact absurd rfl hf
 ·exact absurd rfl hf

theorem zjB {m₁:AM}{σ₁:List C}{s₁:Shared}{h':Heap}{a:Addr}{o1 o:Obj}{c0 c:C} (k:Ok X fs m σ s) (k1:Ok X fs m₁ σ₁ s₁) (x:Ext m m₁ s.heap s₁.heap) (y:zc2 s s₁) (h0:s.heap.get? a=none) (n1:¬ Mut m₁ a)
  (e1:s₁.heap.get? a=some o1) (f1:¬ zaL o1) (r0:zf8 X (m₁++[(a,[a])]) s₁.heap (a,[a]) c0)
  (sb:Heap.SameBut a s₁.heap h') (e2:h'.get? a=some o) (f2:¬ zaL o) (r:zb2 s₁.heap h'→zf8 X (m₁++[(a,[a])]) h' (a,[a]) c) (tk:Nat) :
  PV X fs m s (.ok (.loc σ₁.length) (σ₁++[c])) (.ref a) { s₁ with heap:=h',toks:=tk }:=by
 refine ziM (k.fresh h0) fun ua hb hfr=>?_
 have K1:=k1.adopt (c:=c0) n1 hb e1 f1 hfr r0
 have keep:∀ b o,s₁.heap.get? b=some o→b ∉ [a]→h'.get? b=some o:=fun b o eb hb=>(sb.2 b fun q=>hb (by refine q.symm▸?_; exact List.mem_cons_self)).trans eb
 have X1:Ext (m₁++[(a,[a])]) (m₁++[(a,[a])]) s₁.heap h':=.put (p:=(a,[a])) (List.mem_append_right _ (List.mem_singleton.mpr rfl)) keep
 have el:(m₁++[(a,[a])])[σ₁.length]?=some (a,[a]):=by refine k1.sto.len▸?_; exact zdy _ _
 have S:=K1.sto.put (n:=σ₁.length) (c:=c) el keep (fun b hb=>by refine(List.mem_singleton.mp hb).symm▸?_; exact zc1 _ e2 f2) (r (K1.sto.keepT X1))
 have es:(σ₁++[c0]).set σ₁.length c=σ₁++[c]:=by simp
 replace S:=es▸S
 refine⟨_,_,rfl,m₁++[(a,[a])],⟨x.pre.trans (List.prefix_append ..),fun b ob eb nb=>?_,fun b hm=>?_⟩,(K1.ext (s':={ s₁ with heap:=h' }) X1 S).toks tk,y,?_⟩
 ·have hne:b≠a:=fun q=>by subst q; replace eb:=h0▸eb; exact zaA eb
  exact(sb.2 b hne).trans (x.keep b ob eb nb)
 ·rcases Mut.push.mp hm with hm | hm
  ·exact x.fresh b hm
  ·refine(List.mem_singleton.mp hm).symm▸?_; exact .inr h0
 ·exact .loc (p:=(a,[a])) el

theorem zd3:∀ {l:List (List Nat)},zdO l=true→(l.map zaa).Nodup
 | [],_=>List.nodup_nil
 | x::r,h=>by
  have h:(!(r.any (zan x))&&zdO r)=true:=h
  simp only[Bool.and_eq_true,Bool.not_eq_true',List.any_eq_false] at h
  refine List.nodup_cons.mpr ⟨fun q=>?_,zd3 h.2⟩
  refine zao (List.mem_map.mp q) fun y hy e=>?_
  have:=h.1 y hy
  rw[zhI.mp e] at this
  exact this (zcK.mpr rfl)
theorem ze1 {K:Type} [DecidableEq K]:∀ (more kvs:List (K×Value)),((kvs++more).map (·.1)).Nodup→merged kvs more=kvs++more
 | [],kvs,_=>by simp[merged]
 | (k,v)::r,kvs,h=>by
  have hn:kvs.any (fun kv=>kv.1=k)=false:=by
   rw[List.any_eq_false]
   intro p hp q
   have q:p.1=k:=of_decide_eq_true q
   rw[List.map_append,List.map_cons] at h
   exact(List.nodup_append.mp h).2.2 p.1 (List.mem_map_of_mem hp) k (List.mem_cons_self ..) q
  show merged (stored kvs k v) r=_
  have hs:stored kvs k v=kvs++[(k,v)]:=by unfold stored; rw[hn]; rfl
  rw[hs,ze1 r (kvs++[(k,v)]) (by simpa using h)]
  exact List.append_assoc _ _ _
theorem ziS {ks:List (List Nat)}:∀ {keys:List (Option Expr)},zfr ks keys=true→keys.all (·.isSome)=true∧keys.length=ks.length:=by
 induction ks with
 | nil=>
  intro keys h
  induction keys using List.casesOn with
  | nil=>exact⟨rfl,rfl⟩
  | cons _ _=>exact(Bool.false_ne_true h).elim
 | cons k ks ih=>
  intro keys h
  refine zgT (zlS h) fun n p r ee0 h'=>?_
  subst ee0
  exact⟨(ih h').1,congrArg (·+1) (ih h').2⟩
theorem zgq:∀ (es:List DictEntry) (ks:List (List Nat)) (vals:List Value) (vs:List V) (h:Heap),Pairs (PySem.strKind X.prog X.w) es ((ks.map zaa).zip vals)→Reps X.F m h vals vs→vs.length=ks.length→zlj X m h es (ks.zip vs)
 | es,[],vals,vs,h,hp,r,hl=>by cases hp; trivial
 | es,k::ks,vals,vs,h,hp,r,hl=>by
  cases r with
  | nil=>simp at hl
  | cons a b=>
   cases hp with
   | cons h1 h2 h3=>
    refine⟨⟨Value.isStrOf_shape h1,?_⟩,zgq _ ks _ _ h h3 b (by exact Nat.succ.inj hl)⟩
    refine h2.symm▸?_; exact a
theorem znY {m₁:AM}{σ₁:List C}{s₁:Shared}{ks:List (List Nat)}{vals:List Value}{vs:List V}{pairs:List (Value×Value)}
  (k:Ok X fs m σ s) (k1:Ok X fs m₁ σ₁ s₁) (x:Ext m m₁ (s.heap.push { cls:=.type "dict",data:=.dict #[] }) s₁.heap) (y:zc2 s s₁) (rs:Reps X.F m₁ s₁.heap vals vs) (hl:vs.length=ks.length) (hd:zdO ks=true)
  (hc:Carries (PySem.strKind X.prog X.w) pairs ((ks.map zaa).zip vals)) :
  ∃ kvs,Carries (PySem.strKind X.prog X.w) pairs kvs∧s₁.heap.DictOf (PySem.strKind X.prog X.w) s.heap.objs.size [] ∧
   ∀ h',h'.DictOf (PySem.strKind X.prog X.w) s.heap.objs.size (merged [] kvs)→Heap.SameBut s.heap.objs.size s₁.heap h'→PV X fs m s (.ok (.loc σ₁.length) (σ₁++[.dict (ks.zip vs)])) (.ref s.heap.objs.size) { s₁ with heap:=h',toks:=s₁.toks+pairs.length }:=by
 have hlen:vals.length=ks.length:=rs.length.trans hl
 have knew:(s.heap.push { cls:=.type "dict",data:=.dict #[] }).get? s.heap.objs.size=some { cls:=.type "dict",data:=.dict #[] }:=Heap.get?_push_size _ rfl
 have nm:¬ Mut m s.heap.objs.size:=(k.fresh (zbD _)).1
 have e1:s₁.heap.get? s.heap.objs.size=some { cls:=.type "dict",data:=.dict #[] }:=x.keep _ _ knew nm
 refine zle _ hc (⟨_,#[],0,e1,⟨rfl,rfl,rfl⟩,rfl,(fun e he=>absurd he (by simp)),.nil,List.nodup_nil⟩) (fun h' hD hs=>?_)
 have hm:merged ([]:List (Str×Value)) ((ks.map zaa).zip vals)=(ks.map zaa).zip vals:=by
  rw[ze1]
  ·rfl
  ·rw[List.nil_append,List.map_fst_zip (by rw[List.length_map,hlen]; exact Nat.le_refl _)]; exact zd3 hd
 rw[hm] at hD
 refine zto hD ?_
 clear hD
 intro o es ep ho hex hdat _ hp _
 have x':Ext m m₁ s.heap s₁.heap:=(Ext.of_sub (zaJ _ _)).trans x
 exact zjB (o1:={ cls:=.type "dict",data:=.dict #[] }) (c0:=.dict []) (c:=.dict (ks.zip vs)) k k1 x' y (zbD _) (x.notMut knew nm) e1 (zcj [] 0) ⟨rfl,_,#[],0,e1,rfl,rfl,trivial⟩ hs ho
  (by rintro(⟨q,_⟩ | ⟨q,_⟩) <;> (rw[hex.1] at q; exact absurd (Value.type.inj q) (by decide)))
  (fun kt=>⟨rfl,o,es,ep,ho,hex.1,hdat,zgq _ _ _ _ _ hp (rs.ext (List.prefix_append ..) kt) hl⟩) _
end
end
section
open W Calls PyProof.Rows
section
variable {M:Model}{A:Around}{E:Value→Shared→Prop}{s:Shared}{env:PySem.Env}
theorem zhO {f:Value}:∀ {l:List (Bool×Sem Value)}{Q:PySem.Args→Shared→Prop},(l.any (·.1))=false→wpAny M A (spliced l) (fun vs s'=>Q ⟨vs,[]⟩ s') E s→wpAny M A (evalArgs f true l []) Q E s
 | [],Q,_,h=>by
  unfold evalArgs
  show wpAny M A (spliced [] >>= _) Q E s
  refine wpAny_bind (wpAny_mono h (fun vs s' h'=>?_) fun ua ub x=>x)
  refine wpAny_bind (wpAny_pure ?_)
  refine wpAny_holding ?_
  exact wpAny_bind (wpAny_pure (wpAny_bind (wpAny_pure (wpAny_pure h'))))
 | (true,x)::r,Q,hp,h=>by exact zrm hp
 | (false,x)::r,Q,_,h=>evalArgs_plain h
theorem zhP (l:List Expr):((l.map fun e=>((false:Bool),eval e env)).any (·.1))=false:=by
 induction l with
 | nil=>rfl
 | cons _ _ ih=>rw[List.map_cons,List.any_cons,ih]; rfl
noncomputable def znZ (M:Model) (f:Value) (P:Heap→Prop):Prop:=∀ h,P h→∃ k,(k=Keeper.frame∨k=Keeper.machine∨k=Keeper.boundFrame)∧Looks M h (keeperOf f) k
theorem zau {pos:Pos}{f:Value}{first:List Value}{l:List Expr}{P:Heap→Prop}{Q:Value→Shared→Prop} (hk:znZ M f P)
  (h:wpAny M A (spliced (l.map fun e=>(false,eval e env))) (fun vs s₁=>P s₁.heap∧wpAny M A (call f (first++vs)) Q E s₁) E s):wpAny M A (callWith pos f first (l.map fun e=>(false,eval e env)) []) Q E s:=
 callWith_of (by rw[zhP]; rfl) hk (zhO (zhP l) h)
theorem zbF (id:String):znZ M (.builtin id) fun ua=>True:=fun h ua=>⟨_,.inr (.inl rfl),Looks.now⟩
theorem zgr (id:String):znZ M (.type id) fun ua=>True:=fun h ua=>⟨_,.inr (.inl rfl),Looks.now⟩
theorem zjC (b:BI):znZ M (znM b) fun ua=>True:=by
 induction b using Lake.BI.casesOn <;> first | exact zbF _ | exact zgr _

theorem zbw {g:Expr}{args:List Expr}{p:Pos}{Q:Value→Shared→Prop} (hg:∃ x q,g=.Name x q) (ht:backTo p (starEach args env)=args.map fun e=>(false,eval e env))
  (h:wpAny M A (eval g env) (fun f s₁=>wpAny M A (callWith p f [] (args.map fun e=>(false,eval e env)) []) Q E s₁) E s):wpAny M A (eval (.Call g args [] p) env) Q E s:=by
 refine zkh hg ?_
 clear hg
 intro x q ee0
 subst ee0
 exact Call_Name ht h
theorem zek {o:Expr}{name:Str}{args:List Expr}{ap cp:Pos}{Q:Value→Shared→Prop} (hb:attributeBase o name env (eval o env)=eval o env) (ht:backTo cp (starEach args env)=args.map fun e=>(false,eval e env))
  (hl:zbE ap cp=true) (hn:args.length≤20)
  (h:wpAny M A (eval o env) (fun ov s₁=>∀ pl,wpAny M A (getMethod ov name pl) (fun fx s₂=>wpAny M A (callWith cp fx.1 fx.2 (args.map fun e=>(false,eval e env)) []) Q E s₂) E s₁) E s) :
  wpAny M A (eval (.Call (.Attribute o name ap) args [] cp) env) Q E s:=by
 rw[arm_eval_Call,hb,ht]
 refine wpAny_bind (wpAny_mono h (fun ov s₁ h₁=>?_) fun ua ub e=>e)
 refine wpAny_bind (wpAny_standAt ?_)
 have hform:methodCallForm (args.length+([]:List Keyword).length) (args.map fun e=>(false,eval e env)) (backToKw cp (keywordEach [] env))=true:=by
  unfold methodCallForm
  have:((args.map fun e=>((false:Bool),eval e env)).all fun x=>!x.1)=true:=by
   refine List.all_map.symm▸?_; simp
  refine this.symm▸?_
  show(true&&([]:List (Option Str×Sem Value)).all _&&decide (args.length+0+0 < 30))=true
  simp; omega
 have hpos:methodCallPos true o env ap cp=pure cp:=by
  unfold methodCallPos
  have hl:(ap.endLine == cp.line)=true:=hl
  simp[hl]
 unfold methodCall
 refine hform.symm▸?_
 refine wpAny_bind (wpAny_holding (wpAny_mono (h₁ _) (fun fx s₂ h₂=>?_) fun ua ub e=>e))
 exact wpAny_bind (wpAny_of_eq hpos h₂)
end

theorem zd4 (c:Nat):∀ (l:List Nat) (k:Nat),(zfm c k l = -1∧c ∉ l)∨∃ i,zfm c k l=((k+i:Nat):Int)∧l[i]?=some c∧∀ j,j < i→l[j]?≠some c
 | [],k=>.inl ⟨rfl,List.not_mem_nil⟩
 | d::r,k=>by
  have e:zfm c k (d::r)=if Nat.beq c d then(k:Int) else zfm c (k+1) r:=rfl
  refine e.symm▸?_
  induction q:Nat.beq c d using Bool.casesOn with
  | true=>
   have:=Nat.eq_of_beq_eq_true q
   subst this
   exact .inr ⟨0,by rfl,rfl,fun j h=>absurd h (Nat.not_lt_zero _)⟩
  | false=>
   have hne:c≠d:=fun h=>by subst h; rw[Nat.beq_refl] at q; exact zrm q
   rw[if_neg (by decide)]
   refine Or.elim (zd4 c r (k+1)) ?_ ?_
   intro nm
   refine zaW nm ?_
   clear nm
   intro h1 h2
   rotate_left
   intro nm
   refine zb8 nm ?_
   clear nm
   intro i h1 h2 h3
   rotate_left
   ·exact .inl ⟨h1,fun h=>by refine Or.elim (List.mem_cons.mp h) ?_ ?_; intro h; rotate_left; intro h; rotate_left; exact hne h; exact h2 h⟩
   ·refine .inr ⟨i+1,by refine h1.symm▸?_; congr 1; exact Nat.add_right_comm _ _ _,h2,fun j hj=>?_⟩
    induction j using Nat.casesOn with
    | zero=>intro h; exact hne (Option.some.inj h).symm
    | succ j=>exact h3 j (by exact Nat.le_of_succ_le_succ ‹_›)
theorem zn0 (x:List Nat) (c:Nat):Txt.find (zaa x) (zaa [c])=zfm c 0 x:=by
 have at1:∀ i,StrLaws.At (zaa x) (zaa [c]) (zaa x).length i↔x[i]?=some c:=fun i=>by
  have:=StrLaws.subAt_one (zaa x) c i
  simpa [StrLaws.At,zaa] using this
 refine Or.elim (find_whole (zaa x) (zaa [c])) ?_ ?_
 intro nm
 refine zaW nm ?_
 clear nm
 intro h1 h2
 rotate_left
 intro nm
 refine zb8 nm ?_
 clear nm
 intro i h1 h2 h3
 rotate_left
 ·refine h1.symm▸?_
  refine Or.elim (zd4 c x 0) ?_ ?_
  intro nm
  refine zaW nm ?_
  clear nm
  intro e _
  rotate_left
  intro nm
  refine zb8 nm ?_
  clear nm
  intro j _ e2 _
  rotate_left
  ·exact e.symm
  ·exact absurd ((at1 j).mpr e2) (h2 j)
 ·refine h1.symm▸?_
  have h2:=(at1 i).mp h2
  refine Or.elim (zd4 c x 0) ?_ ?_
  intro nm
  refine zaW nm ?_
  clear nm
  intro _ e
  rotate_left
  intro nm
  refine zb8 nm ?_
  clear nm
  intro j e1 e2 e3
  rotate_left
  ·exact absurd (List.mem_of_getElem? h2) e
  ·refine e1.symm▸?_
   have:i=j:=by
    refine Or.elim (Nat.lt_trichotomy i j) ?_ ?_
    intro q
    rotate_left
    intro no
    refine Or.elim no ?_ ?_
    intro q
    rotate_left
    intro q
    rotate_left
    ·exact absurd h2 (e3 i q)
    ·exact q
    ·exact absurd ((at1 j).mpr e2) (h3 j q)
   subst this
   simp
theorem zhQ {c d:Nat} (h:zgi c=some d):Txt.lower (zaa [c])=zaa [d]:=by
 have hc:c < 128:=by
  unfold zgi at h
  split at h
  ·exact Nat.le_trans ‹_› (by decide)
  ·split at h
   ·omega
   ·split at h
    ·assumption
    ·exact zaA h
 refine(lower_ascii (x:=zaa [c]) (by intro c' hc'; simp[zaa] at hc'; omega)).symm▸?_
 have:lo1 c=d:=by
  unfold zgi at h
  unfold lo1
  split at h
  ·have ee:=Option.some.inj h; clear h; subst ee; rw[if_neg (by omega)]
  ·split at h
   ·have ee:=Option.some.inj h; clear h; subst ee; rw[if_pos (by omega)]
   ·have ee:=Option.some.inj h; clear h; subst ee; rw[if_neg (by omega)]
 refine this▸?_
 simp[zaa]
theorem zfu (sep:List Nat):∀ (l:List (List Nat)),Str.join (zaa sep) (l.map zaa)=zaa (zaB sep l)
 | []=>rfl
 | [a]=>rfl
 | a::b::r=>by
  have ih:=zfu sep (b::r)
  show zaa a++zaa sep++Str.join (zaa sep) ((b::r).map zaa)=zaa (a++(sep++zaB sep (b::r)))
  rw[ih,zdo,zdo,List.append_assoc]
theorem zhR (sep:List Nat) (l:List (List Nat)):Txt.join (zaa sep) (l.map zaa)=zaa (zaB sep l):=by
 rw[eq_of_beq (join_plain_closes (zaa sep) (l.map zaa)),zfu]
section
variable {X:Stat}{fs:List PySem.Env}{m m':AM}{σ σ':List C}{s s':Shared}{A:Around}{E:Value→Shared→Prop}{vars:List (List Nat)}{env:PySem.Env}{ρ:Env}

theorem zn1 {vs:List V}:∀ {xs:List Value}{l:List (List Nat)},Reps X.F m s.heap xs vs→zdi vs=some l→StrsAre xs (l.map zaa):=by
 induction vs with
 | nil=>
  intro xs l r e
  have e:[]=l:=Option.some.inj e
  refine(show xs=[] from r.invc).symm▸?_
  refine e▸?_
  exact .nil
 | cons v vs ih=>
  intro xs l r
  refine zc0 r.invc fun x xs ee0 a b=>?_
  subst ee0
  refine IfO.out (P:=fun(l:List (List Nat))=>StrsAre (x::xs) (l.map zaa)) ?_
  induction v using V.casesOn with
  | str y=>
   show IfO _ (match zdi vs with
    | some l=>some (y::l)
    | none=>none)
   induction hl:zdi vs using Option.casesOn with
   | none=>exact True.intro
   | some l'=>
    refine zaF a.inv fun t ee0=>?_
    subst ee0
    exact .cons _ _ (ih b hl)
  | _=>exact True.intro

noncomputable def zt3:MT→String
 | .append=>"list.append"
 | .lower=>"str.lower"
 | .find=>"str.find"
 | .join=>"str.join"
noncomputable def zt4:MT→Str
 | .append=>"append"
 | .lower=>"lower"
 | .find=>"find"
 | .join=>"join"
theorem zn2 (mt:MT):zaa (zhH mt)=zt4 mt:=by induction mt using Lake.MT.casesOn <;> decide +kernel
theorem ziT (mt:MT) {o:V}{vo:Value} (r:Rep X.F m s.heap vo o) (hm:mt≠.append) (h:zeg mt o σ≠.stuck):∃ x t,vo=.str x t:=by
 have:IfS (fun ua=>∃ x,o=.str x) (zeg mt o σ):=by
  induction mt using Lake.MT.casesOn with
  | append=>exact absurd rfl hm
  | _=>induction o using V.casesOn <;> first | exact True.intro | exact⟨_,rfl⟩
 refine zaF (this.out h) fun x ee0=>?_
 subst ee0
 exact⟨_,r.inv⟩
set_option tactic.hygienic true in
theorem zkC (k:Ok X fs m σ s) {mt:MT}{o:V}{vo:Value} (r:Rep X.F m s.heap vo o) (h:zeg mt o σ≠.stuck) (pl:Sem Bool) {M:Model}{Q:Value×List Value→Shared→Prop} (hq:Q (.builtin (zt3 mt),[vo]) s) :
  wpAny M A (getMethod vo (zaa (zhH mt)) pl) Q E s:=by
 rw[zn2]
 induction mt using Lake.MT.casesOn with
 | append=>
  have:IfS (fun ua=>∃ a,vo=.ref a∧∃ xs c,s.heap.get? a=some (zdh xs c)) (zeg .append o σ):=by
   induction o using V.casesOn <;> first | exact True.intro | skip
   rename_i n
   show IfS _ (match σ[n]? with
    | some (.list _)=>R.ok () σ
    | _=>.stuck)
   split
   ·rename_i vs hv
    refine zeC (k.list r hv) fun la xs c ee0 ua o1 r1=>?_
    subst ee0
    exact⟨la,rfl,xs,c,o1⟩
   ·exact True.intro
  refine zao (this.out h) fun la ee0 rst=>?_
  subst ee0
  refine zkh rst ?_
  clear rst
  intro xs c o1
  exact getMethod_builtin (T:="list") ⟨_,o1,rfl⟩ F.plainAttrs_list F.slot_list_append F.type_list_append (fun a e=>by cases e; exact zc1 _ o1 rfl) hq
 | lower=>
  refine zkh (ziT .lower r nofun h) fun x t ee0=>?_
  subst ee0
  exact GM.lower hq
 | find=>
  refine zkh (ziT .find r nofun h) fun x t ee0=>?_
  subst ee0
  exact GM.find hq
 | join=>
  refine zkh (ziT .join r nofun h) fun x t ee0=>?_
  subst ee0
  exact GM.join hq
noncomputable def zse (X:Stat) (fs:List PySem.Env) (m:AM) (s:Shared) (A:Around) (E:Value→Shared→Prop) (mt:MT) (o:V) (as:List V) (r:R V):Prop:=
 ∀ (vo:Value) (xs:List Value),Rep X.F m s.heap vo o→Reps X.F m s.heap xs as→wpAny (model X.prog X.w) A (call (.builtin (zt3 mt)) (vo::xs)) (PV X fs m s r) E s
set_option tactic.hygienic true in
theorem zkD (k:Ok X fs m σ s) (n:Nat) (v:V):IfS (zse X fs m s A E .append (.loc n) [v]) (zo3 σ .append (.loc n) [v]):=by
 show IfS _ (match σ[n]? with
  | some (.list vs)=>if vs.length < LIM then .ok V.none (σ.set n (.list (vs++[v]))) else .stuck
  | _=>.stuck)
 split
 ·rename_i vs hv
  split
  ·rename_i q
   intro vo xs ro ra
   refine zeC (k.list ro hv) fun la ys c ee0 hm o1 r1=>?_
   subst ee0
   refine zao ra.inv1 fun x ee0 r0=>?_
   subst ee0
   refine wpAny_list_append_plain ⟨c,o1⟩ (fun h' hl hs=>?_) (by rw[List.size_toArray,r1.length,sizeLine_eq]; unfold LIM at q; omega)
   refine zaF hl ?_
   clear hl
   intro c' hd
   rw[List.push_toArray] at hd
   refine zb8 (zpO (vs:=vs) k hm hs hd o1 (r1.append (.one r0)) s.toks) fun m' x1 k1 y1=>?_
   exact⟨_,_,rfl,m',x1,k1,y1,.none⟩
  ·exact True.intro
 ·exact True.intro
theorem zlU (k:Ok X fs m σ s) (c:Nat):IfS (zse X fs m s A E .lower (.str [c]) []) (zo3 σ .lower (.str [c]) []):=by
 show IfS _ (match zgi c with
  | some d=>.ok (V.str [d]) σ
  | none=>.stuck)
 induction hd:zgi c using Option.casesOn with
 | none=>exact True.intro
 | some d=>
  intro vo xs ro ra
  refine zaF ro.inv fun t ee0=>?_
  subst ee0
  refine(show xs=[] from ra.invc).symm▸?_
  refine SC.lower ?_ ?_
  ·refine(zhQ hd).symm▸?_; rfl
  ·refine(zhQ hd).symm▸?_; exact za1 k _ (.str _ _)
theorem zn3 (k:Ok X fs m σ s) (y:List Nat) (c:Nat):IfS (zse X fs m s A E .find (.str y) [.str [c]]) (zo3 σ .find (.str y) [.str [c]]):=by
 show IfS _ (if zan y zpC=true then _ else _)
 split
 ·rename_i q
  intro vo xs ro ra
  obtain⟨t,rfl⟩:=ro.inv
  refine zao ra.inv1 fun x ee0 r0=>?_
  subst ee0
  obtain⟨t',rfl⟩:=r0.inv
  refine(zcK.mp q).symm▸?_
  refine SC.find ?_
  rw[zn0]
  exact za1 k _ (.int _ _)
 ·exact True.intro
theorem zn4 (k:Ok X fs m σ s) (y:List Nat) (a:V):IfS (zse X fs m s A E .join (.str y) [a]) (zo3 σ .join (.str y) [a]):=by
 show IfS _ (match zee σ a with
  | some vs=>match zdi vs with
   | some l=>if(l.map List.length).sum+l.length*y.length≤zaP then .ok (V.str (zaB y l)) σ else .stuck
   | none=>.stuck
  | none=>.stuck)
 induction hv:zee σ a using Option.casesOn with
 | none=>exact True.intro
 | some vs=>
  show IfS _ (match zdi vs with
   | some l=>if(l.map List.length).sum+l.length*y.length≤zaP then .ok (V.str (zaB y l)) σ else .stuck
   | none=>.stuck)
  induction hl:zdi vs using Option.casesOn with
  | none=>exact True.intro
  | some l=>
   show IfS _ (if(l.map List.length).sum+l.length*y.length≤zaP then _ else _)
   split
   ·rename_i q
    intro vo xs ro ra
    refine zaF ro.inv fun t ee0=>?_
    subst ee0
    refine zao ra.inv1 fun x ee0 r0=>?_
    subst ee0
    refine zdb (zgo k r0 hv) fun a' ys c ee0 rr h=>?_
    subst ee0
    have sa:=zn1 rr hl
    have hok:((l.map zaa).map (·.length)).sum+(l.map zaa).length*(zaa y).length≤16777216:=by
     rw[List.map_map,List.length_map,za7,show(Str.length ∘ zaa)=List.length from funext fun z=>za7 z]
     exact Nat.le_trans q (by decide)
    have done:∀ t' tk,PV X fs m s (.ok (.str (zaB y l)) σ) (.str (Txt.join (zaa y) (l.map zaa)) t') { s with toks:=tk }:=fun t' tk=>by rw[zhR]; exact za1 k tk (.str _ _)
    rcases h with h | h
    ·exact join_list (zaI h) (by exact sa) hok done
    ·exact join_tuple (zju h) (by exact sa) hok done
   ·exact True.intro
theorem zkE (k:Ok X fs m σ s) {mt:MT}{o:V}{vo:Value} (ro:Rep X.F m s.heap vo o) {as:List V}{xs:List Value} (ra:Reps X.F m s.heap xs as) (hn:zo3 σ mt o as≠.stuck) :
  wpAny (model X.prog X.w) A (call (.builtin (zt3 mt)) (vo::xs)) (PV X fs m s (zo3 σ mt o as)) E s:=by
 have:IfS (zse X fs m s A E mt o as) (zo3 σ mt o as):=by
  clear hn ra ro
  induction mt using Lake.MT.casesOn with
  | append=>
   induction o using V.casesOn with
   | loc n=>
    match as with
    | [v]=>exact zkD k n v
    | []=>exact True.intro
    | _::_::_=>exact True.intro
   | _=>exact True.intro
  | lower=>
   induction o using V.casesOn with
   | str x=>
    match x,as with
    | [c],[]=>exact zlU k c
    | [],_=>exact True.intro
    | [_],_::_=>exact True.intro
    | _::_::_,_=>exact True.intro
   | _=>exact True.intro
  | find=>
   induction o using V.casesOn with
   | str y=>
    match as with
    | []=>exact True.intro
    | a::r=>
     induction a using V.casesOn with
     | str x=>
      match x,r with
      | [c],[]=>exact zn3 k y c
      | [],_=>exact True.intro
      | [_],_::_=>exact True.intro
      | _::_::_,_=>exact True.intro
     | _=>exact True.intro
   | _=>exact True.intro
  | join=>
   induction o using V.casesOn with
   | str y=>
    match as with
    | [a]=>exact zn4 k y a
    | []=>exact True.intro
    | _::_::_=>exact True.intro
   | _=>exact True.intro
 exact this.out hn vo xs ro ra
end
end
section
open W Calls PyProof.Rows
structure WFacts (X:Stat):Prop where
 pg:plainGet X.K X.WC (zae 0)=true
 hd:hasDictIn X.K X.WC=true
 at_:∀ k,k < 2→findIn X.K (.ref X.WC) (zae k)=some none
 sa:findIn X.K (.ref X.WC) "__setattr__" = some (some (.builtin "object.__setattr__"))
 po:plainOver X.K X.WC=true
 tk:∀ k,k < 2→takerIn X.K X.WC (zae k)=some none
 mth:∀ mt:WM,∃ fn,X.T.fns[zjs mt]?=some fn∧findIn X.K (.ref X.WC) (zaa (zdk mt))=some (some (.ref fn.addr))∧isFn X.K (.ref fn.addr)=true∧keepIn X.K (.ref fn.addr)=true
 kc:keepIn X.K (.ref X.WC)=true
 mks:makesIn X.K X.WC=true
 ini:∃ fn,X.T.fns[6]?=some fn∧findIn X.K (.ref X.WC) "__init__" = some (some (.ref fn.addr))∧typeIn X.K (.ref fn.addr)=some (.type "function")

theorem zfv:zae 0≠zae 1:=by decide +kernel
theorem zhS:∀ {i j:Nat},i < 2→j < 2→zae i=zae j→i=j
 | 0,0,_,_,_=>rfl
 | 1,1,_,_,_=>rfl
 | 0,1,_,_,h=>absurd h zfv
 | 1,0,_,_,h=>absurd h.symm zfv
 | _+2,_,h,_,_=>by omega
 | _,_+2,_,h,_=>by omega
theorem zjD {i j:Nat} (hi:i < 2) (hj:j < 2):(zae i == zae j)=Nat.beq i j:=by
 by_cases h:i=j
 ·subst h; simp
 ·have h1:Nat.beq i j=false:=by
   induction q:Nat.beq i j using Bool.casesOn with
   | false=>rfl
   | true=>exact absurd (Nat.eq_of_beq_eq_true q) h
  refine h1.symm▸?_
  exact beq_eq_false_iff_ne.mpr fun q=>h (zhS hi hj q)

section
variable {X:Stat}{fs:List PySem.Env}{m m':AM}{σ σ':List C}{s s':Shared}{A:Around}{E:Value→Shared→Prop}{vars:List (List Nat)}{env:PySem.Env}{ρ:Env}{h:Heap}

theorem IsW.inst {x dx:Addr}{es:List DictEntry}{n:Nat} (I:IsW X h x dx es n):PySem.W.InstAt h x (instObj X.WC dx) X.WC (some (dictOf es n)):=⟨I.ob,rfl,rfl,I.di⟩
noncomputable def zhT (es:List DictEntry):Prop:=∀ e∈es,∃ j t,j < 2∧e.key=.str (zae j) t
theorem zf7.keys:∀ {es:List DictEntry}{as:List (Nat×V)},zf7 X m h es as→zhT es
 | [],[],_=>fun e h=>nomatch h
 | e::es,(k,v)::r,⟨⟨a,⟨t,b⟩,c⟩,r'⟩=>fun e' h'=>by
  rcases List.mem_cons.mp h' with rfl | h'
  ·exact zdf k t a b
  ·exact zf7.keys r' e' h'
 | [],_::_,x=>x.elim
 | _::_,[],x=>x.elim
theorem zlV {es:List DictEntry}{name:Str} (k:zhT es) (hn:∀ j,j < 2→name≠zae j):getL name es=some none:=by
 unfold getL
 have h1:es.find? (·.key.isStr name)=none:=by
  rw[List.find?_eq_none]
  intro e he q
  refine zaZ (k e he) fun j t hj ek=>?_
  replace q:=ek▸q
  exact hn j hj (eq_of_beq (show(zae j == name)=true from q)).symm
 have h2:es.any (·.refKey)=false:=by
  rw[List.any_eq_false]
  intro e he q
  refine zaZ (k e he) fun j t hj ek=>?_
  unfold DictEntry.refKey at q
  replace q:=ek▸q; exact(Bool.false_ne_true q).elim
 refine h1.symm▸?_; refine h2.symm▸?_; rfl
theorem zf7.look:∀ {es:List DictEntry}{as:List (Nat×V)}{k:Nat},zf7 X m h es as→k < 2 →
  (∀ v,as.lookup k=some v→∃ e,es.find? (·.key.isStr (zae k))=some e∧Rep X.F m h e.val v)∧(as.lookup k=none→es.find? (·.key.isStr (zae k))=none)
 | [],[],k,_,_=>⟨(fun v e=>nomatch e),fun ua=>rfl⟩
 | e::es,(j,v)::r,k,⟨⟨a,⟨t,b⟩,c⟩,r'⟩,hk=>by
  have hkey:e.key.isStr (zae k)=Nat.beq j k:=by
   refine b.symm▸?_; exact zjD a hk
  rw[List.find?_cons,hkey,List.lookup_cons]
  have hb:(k == j)=Nat.beq j k:=by
   rw[Bool.eq_iff_iff,beq_iff_eq]
   exact⟨fun q=>by refine q.symm▸?_; exact Nat.beq_refl j,fun q=>(Nat.eq_of_beq_eq_true q).symm⟩
  refine hb.symm▸?_
  induction q:Nat.beq j k using Bool.casesOn with
  | true=>exact⟨fun u e'=>⟨e,rfl,by have ee:=Option.some.inj e'; clear e'; subst ee; exact c⟩,fun e'=>by exact zhy e'⟩
  | false=>exact zf7.look r' hk
 | [],_::_,k,x,_=>x.elim
 | _::_,[],k,x,_=>x.elim
theorem zhU {es:List DictEntry}{name:Str}{e:DictEntry} (h:es.find? (·.key.isStr name)=some e):getL name es=some (some e.val):=by
 unfold getL; refine h.symm▸?_; with_reducible rfl

theorem zgs {F:Nat→Option Addr}{val:Value}{v:V} (r:Rep F m h val v):handedIn val=true:=by
 cases r <;> rfl
theorem zhV (F:WFacts X) (kI:X.K.In s.heap) {x dx:Addr}{es:List DictEntry}{n:Nat} (I:IsW X s.heap x dx es n) {k:Nat} (hk:k < 2) {val:Value} (hl:getL (zae k) es=some (some val)) (hh:handedIn val=true) {Q:Value→Shared→Prop}
  (h:Q val { s with toks:=s.toks+1 }):wpAny (model X.prog X.w) A (getAttr (.ref x) (zae k) true) Q E s:=
 get_value kI I.inst (plainGet_of F.pg).1 (findObj_own F.hd (F.at_ k hk) rfl hl) hh h
theorem zlW (F:WFacts X) (kI:X.K.In s.heap) {x dx:Addr}{es:List DictEntry}{n:Nat} (I:IsW X s.heap x dx es n) (ke:zhT es) {mt:WM}{fn:Fn} (hf:X.T.fns[zjs mt]?=some fn) {pl:Sem Bool}{Q:Value×List Value→Shared→Prop}
  (h:Q (.ref fn.addr,[.ref x]) s):wpAny (model X.prog X.w) A (getMethod (.ref x) (zaa (zdk mt)) pl) Q E s:=by
 refine zfl (F.mth mt) fun fn' h1 h2 h3 h4=>?_
 rw[hf] at h1; have ee:=Option.some.inj h1; clear h1; subst ee
 refine method_fn kI I.inst (plainGet_of F.pg).1 (plainGet_of F.pg).2 h2 (beq_iff_eq.mp h3) ?_ h
 show(lookIn _ (dictOf es n)).map _=_
 rw[lookIn_dict,zlV ke fun j hj=>by
  have d0:zaa (zdk mt)≠zae 0:=by induction mt using Lake.WM.casesOn <;> decide +kernel
  have d1:zaa (zdk mt)≠zae 1:=by induction mt using Lake.WM.casesOn <;> decide +kernel
  match j,hj with
  | 0,_=>exact d0
  | 1,_=>exact d1]
 rfl

theorem zf7.put {hsh:Int}{t:Tok}{val:Value}{v:V} (r:Rep X.F m h val v) {k:Nat} (hk:k < 2):∀ {es:List DictEntry}{as:List (Nat×V)},zf7 X m h es as→zf7 X m h (putL (zae k) hsh (.str (zae k) t) val es) (setAttr k v as)
 | [],[],_=>⟨⟨hk,⟨t,rfl⟩,r⟩,trivial⟩
 | e::es,(j,u)::rs,⟨⟨a,⟨t',b⟩,c⟩,r'⟩=>by
  have hkey:e.key.isStr (zae k)=Nat.beq k j:=by
   refine b.symm▸?_
   have:(zae j == zae k)=Nat.beq j k:=zjD a hk
   refine(show Nat.beq k j=Nat.beq j k from by rw[Bool.eq_iff_iff]; exact⟨fun q=>by rw[Nat.eq_of_beq_eq_true q]; exact Nat.beq_refl _,fun q=>by rw[Nat.eq_of_beq_eq_true q]; exact Nat.beq_refl _⟩).symm▸?_
   exact this
  unfold putL setAttr
  refine hkey.symm▸?_
  induction q:Nat.beq k j using Bool.casesOn with
  | true=>exact⟨⟨a,⟨t',b⟩,r⟩,r'⟩
  | false=>exact⟨⟨a,⟨t',b⟩,c⟩,zf7.put r hk r'⟩
 | [],_::_,x=>x.elim
 | _::_,[],x=>x.elim
theorem zcl {name:Str}{hsh:Int}{key v:Value}:∀ (es:List DictEntry),(putL name hsh key v es).length≤es.length+1
 | []=>by exact Nat.succ_pos _
 | e::r=>by
  unfold putL
  split
  ·simp
  ·have:=zcl (name:=name) (hsh:=hsh) (key:=key) (v:=v) r
   simp; omega
theorem zf7.length:∀ {es:List DictEntry}{as:List (Nat×V)},zf7 X m h es as→es.length=as.length
 | [],[],_=>rfl
 | _::_,(_,_)::_,⟨_,r⟩=>by refine List.length_cons.symm▸?_; refine List.length_cons.symm▸?_; refine(zf7.length r).symm▸?_; with_reducible rfl
 | [],_::_,x=>x.elim
 | _::_,[],x=>x.elim

theorem zkF (F:WFacts X) (kI:X.K.In s.heap) {x dx:Addr}{es:List DictEntry}{n:Nat} (I:IsW X s.heap x dx es n) (ke:zhT es) (hz:es.length≤100) {k:Nat} (hk:k < 2) {v:Value}{Q:Unit→Shared→Prop}
  (h:∀ h' hsh t n',Heap.SameBut dx s.heap h'→h'.get? dx=some (dictOf (putL (zae k) hsh (.str (zae k) t) v es) n')→Q () { s with heap:=h',toks:=s.toks+2 }):wpAny (model X.prog X.w) A (PySem.setAttr (.ref x) (zae k) v) Q E s:=by
 refine set_plain kI I.inst F.sa (osa_open (s:={ s with toks:=s.toks+1 }) kI I.inst F.po (F.tk k hk) fun b=>?_)
 refine zao (any_some F.hd) fun cd hc hd'=>?_
 have D:=I.di
 refine wpAny_bind (wpAny_pure (wpAny_bind (wpAny_bind (wpAny_loadPart I.ob (wpAny_bind (looks_clsIn (h:=s.heap) kI hc _ _ _ _ (fun ua ub e=>e) ?_))))))
 refine hd'.symm▸?_
 refine wpAny_pure (a:=some dx) (wpAny_bind (wpAny_pure (wpAny_bind ?_)))
 unfold nsSet
 refine wpAny_bind (wpAny_bind (wpAny_askSetting (wpAny_pure (wpAny_bind (wpAny_mkText (wpAny_bind (wpAny_loadPart D ?_)))))))
 have c:(!es.toArray.any (·.key.isStr (zae k))&&es.toArray.any (·.refKey))=false:=by
  refine Array.any_toList▸?_
  refine Array.any_toList▸?_
  have h2:es.any (·.refKey)=false:=by
   rw[List.any_eq_false]
   intro e he q
   refine zaZ (ke e he) fun j t hj ek=>?_
   unfold DictEntry.refKey at q
   replace q:=ek▸q; exact(Bool.false_ne_true q).elim
  show(_&&es.any (·.refKey))=false
  rw[h2,Bool.and_false]
 have hdat:(dictOf es n).data=.dict es.toArray n:=rfl
 refine hdat.symm▸?_
 dsimp only
 rw[aRefKeyMayBeTheName_at,c]
 have D':∀ hsh t,(s.heap.update dx (Obj.putName (zae k) hsh (.str (zae k) t) v)).get? dx=some (dictOf (putL (zae k) hsh (.str (zae k) t) v es) (putN (zae k) es n)):=fun hsh t=>by
  rw[← putName_dict]
  exact Heap.get?_update_self _ D (by rw[putName_dict]; rfl)
 refine wpAny_updatePart D ?_
 have D2:=D' (PyData.keyHash X.w.params (zae k)) (s.toks+1)
 refine wpAny_bind (wpAny_lookBehind D2 (show(Data.dict (putL (zae k) (PyData.keyHash X.w.params (zae k)) (.str (zae k) (s.toks+1)) v es).toArray (putN (zae k) es n)).pastItsLine=none from pastItsLine_dict ?_) ?_)
 ·have:=zcl (name:=zae k) (hsh:=PyData.keyHash X.w.params (zae k)) (key:=.str (zae k) (s.toks+1)) (v:=v) es
  refine List.size_toArray.symm▸?_; refine sizeLine_eq.symm▸?_; omega
 ·exact wpAny_pure (h _ _ _ _ (Heap.SameBut.update ..) (D' _ _))
end
end
section
open W Calls PyProof.Rows
structure Fam (X:Stat) (fs:List PySem.Env) (β γ:Type) where
 P:AM→Shared→R β→γ→Shared→Prop
 back:∀ {m₀ m:AM}{s₀ s s':Shared}{r:R β}{v:γ},Ext m₀ m s₀.heap s.heap→zc2 s₀ s→P m s r v s'→P m₀ s₀ r v s'

section
variable {X:Stat}{fs:List PySem.Env}{m m':AM}{σ σ':List C}{s s':Shared}{A:Around}{vars:List (List Nat)}{env:PySem.Env}{ρ:Env}

theorem zbj {α β:Type}{r1:R α}{K:α→List C→R β} (hf:zbh (r1.bind K)):zbh r1:=by
 induction r1 using R.casesOn with
 | ok=>exact zdp _ _
 | exc=>exact zfe
 | fin=>exact zab hf
 | stuck=>exact zab hf

structure From (X:Stat) (m₀:AM) (s₀:Shared) (m:AM) (s:Shared):Prop where
 x:Ext m₀ m s₀.heap s.heap
 y:zc2 s₀ s
theorem From.refl (X:Stat) (m:AM) (s:Shared):From X m s m s:=⟨.refl ..,.refl _⟩
variable {β γ:Type}{m₀:AM}{s₀:Shared}{r:R β}
theorem zbA {M:Model}{t:Sem Value}{Q:Value→Shared→Prop}{r1:R V}{K:V→List C→R β} (w:From X m₀ s₀ m s) (hr:r=r1.bind K) (hf:zbh r) (h1:zbh r1→wpAny M A t (PV X fs m s r1) (PX X fs s r1) s)
  (h2:∀ v σ1 m1 val s1,From X m₀ s₀ m1 s1→Ext m m1 s.heap s1.heap→Ok X fs m1 σ1 s1→Rep X.F m1 s1.heap val v→r=K v σ1→r1=.ok v σ1→Q val s1):wpAny M A t Q (PX X fs s₀ r) s:=by
 subst hr
 refine wpAny_mono (h1 (zbj hf)) (fun val s1 ⟨v,σ1,e,m1,a,b,c,d⟩=>?_) fun x s1 hx=>hx.to w.y fun e=>by refine e.symm▸?_; rfl
 subst e
 exact h2 v σ1 m1 val s1 ⟨w.x.trans a,w.y.trans c⟩ a b d rfl rfl
theorem ze2 {M:Model}{t:Sem (List Value)}{Q:List Value→Shared→Prop}{r1:R (List V)}{K:List V→List C→R β} (w:From X m₀ s₀ m s) (hr:r=r1.bind K) (hf:zbh r) (h1:zbh r1→wpAny M A t (PVs X fs m s r1) (PX X fs s r1) s)
  (h2:∀ v σ1 m1 val s1,From X m₀ s₀ m1 s1→Ext m m1 s.heap s1.heap→Ok X fs m1 σ1 s1→Reps X.F m1 s1.heap val v→r=K v σ1→r1=.ok v σ1→Q val s1):wpAny M A t Q (PX X fs s₀ r) s:=by
 subst hr
 refine wpAny_mono (h1 (zbj hf)) (fun val s1 ⟨v,σ1,e,m1,a,b,c,d⟩=>?_) fun x s1 hx=>hx.to w.y fun e=>by refine e.symm▸?_; rfl
 subst e
 exact h2 v σ1 m1 val s1 ⟨w.x.trans a,w.y.trans c⟩ a b d rfl rfl
theorem zlX {M:Model}{t:Sem Bool}{Q:Bool→Shared→Prop}{r1:R Bool}{K:Bool→List C→R β} (w:From X m₀ s₀ m s) (hr:r=r1.bind K) (hf:zbh r) (h1:zbh r1→wpAny M A t (PB X fs m s r1) (PX X fs s r1) s)
  (h2:∀ v σ1 m1 s1,From X m₀ s₀ m1 s1→Ext m m1 s.heap s1.heap→Ok X fs m1 σ1 s1→r=K v σ1→r1=.ok v σ1→Q v s1):wpAny M A t Q (PX X fs s₀ r) s:=by
 subst hr
 refine wpAny_mono (h1 (zbj hf)) (fun val s1 ⟨σ1,e,m1,a,b,c⟩=>?_) fun x s1 hx=>hx.to w.y fun e=>by refine e.symm▸?_; rfl
 subst e
 exact h2 val σ1 m1 s1 ⟨w.x.trans a,w.y.trans c⟩ a b rfl rfl
theorem zg5 {M:Model}{t:Sem Value}{r r1:R V} (w:From X m₀ s₀ m s) (hr:r=r1) (h:wpAny M A t (PV X fs m s r1) (PX X fs s r1) s):wpAny M A t (PV X fs m₀ s₀ r) (PX X fs s₀ r) s:=
 zt1 h w.x w.y hr.symm
theorem zn5 {M:Model}{t:Sem Bool}{r r1:R Bool} (w:From X m₀ s₀ m s) (hr:r=r1) (h:wpAny M A t (PB X fs m s r1) (PX X fs s r1) s):wpAny M A t (PB X fs m₀ s₀ r) (PX X fs s₀ r) s:=
 zt2 h w.x w.y hr.symm
theorem From.pv {r:R V}{val:Value}{r':R V} (w:From X m₀ s₀ m s) (hr:r=r') (g:PV X fs m s r' val s'):PV X fs m₀ s₀ r val s':=g.after w.x w.y hr.symm
theorem From.pb {r r':R Bool}{b:Bool} (w:From X m₀ s₀ m s) (hr:r=r') (g:PB X fs m s r' b s'):PB X fs m₀ s₀ r b s':=by
 refine zao g ?_
 clear g
 intro σ2 a c
 exact zc1 σ2 (hr.trans a) (c.after w.x w.y)
theorem zbh.ofOpt {α:Type}{o:Option α}{σ:List C} (h:zbh (ofOpt σ o)):∃ a,o=some a:=by
 induction o using Option.casesOn with
 | none=>exact zab h
 | some a=>exact⟨a,rfl⟩
theorem zbh.okB {o:Option Bool}{σ:List C} (h:zbh (okB σ o)):∃ a,o=some a:=by
 induction o using Option.casesOn with
 | none=>exact zab h
 | some a=>exact⟨a,rfl⟩

variable (F:Facts X) {prim:Bool}{lo:Lo}{n:Nat} (L:LoOK X lo prim n) (W:WFacts X) (P:PrimOK X prim)
structure Begin (X:Stat) (fs:List PySem.Env) (vars:List (List Nat)) (env:PySem.Env) (ρ:Env) (σ:List C) (m:AM) (s:Shared) (prim:Bool) (A:Around) (n:Nat):Prop where
 e:EnvOK X vars env ρ m s.heap
 k:Ok X fs m σ s
 l:Lim prim A n
 f:A.frames=some fs
theorem Begin.on {σ1:List C}{m1:AM}{s1:Shared}{n:Nat}{prim:Bool} (b:Begin X fs vars env ρ σ m s prim A n) (x:Ext m m1 s.heap s1.heap) (k:Ok X fs m1 σ1 s1):Begin X fs vars env ρ σ1 m1 s1 prim A n:=⟨b.e.ext b.k x,k,b.l,b.f⟩

theorem Begin.lim20 (b:Begin X fs vars env ρ σ m s true A n):Lim false A 20:=⟨b.l.hand,by have:=b.l.depth; unfold slk at *; dsimp only at *; omega,by have:=b.l.units; unfold slk at *; dsimp only at *; omega⟩
theorem zfw {σ':List C}{v:V} (h:zbh (zd0 v σ')):∃ b,v=.bool b:=by
 induction v using V.casesOn <;> first | exact zab h | exact⟨_,rfl⟩
theorem zp9 {lo:Lo}{prim:Bool}{n:Nat} (L:LoOK X lo prim n) {f:Nat}{fn:Fn}{vals:List Value}{as:List V} (h1:X.T.fns[f]?=some fn) (h2:Reps X.F m s.heap vals as) (h3:Ok X fs m σ s) (h4:Lim prim A n) (h5:A.frames=some fs) (h6:zbh (lo.call f as σ)) :
  wpAny (model X.prog X.w) A (PySem.call (.ref fn.addr) vals) (PV X fs m s (lo.call f as σ)) (PX X fs s (lo.call f as σ)) s:=
 wpAny_call (codeAny_mono (L.call h1 h2 h3 h4 h5 h6) fun r s' z=>by
  rcases r with e | (v | _ | _ | _) <;> exact z)
theorem zlY {fn:Fn}{f:Nat} (F:Facts X) (h:X.T.fns[f]?=some fn):keepIn X.K (.ref fn.addr)=true:=by
 refine zao (zf4 (F.fns f fn h)) fun o hl h=>zao (zf4 h) fun fd hd ua=>?_
 obtain⟨c,d,dt,sl⟩:=o
 have e:dt=_:=zlo hd
 subst e
 unfold keepIn
 dsimp only
 rw[hl]
theorem zg6 {α:Type}{r r':R α} (h:r=r') (hf:zbh r):zbh r':=h▸hf
theorem zce {α β γ:Type} (r:R α) (f:α→List C→R β) (g:β→List C→R γ):(r.bind f).bind g=r.bind fun a σ=>(f a σ).bind g:=by
 induction r using R.casesOn <;> rfl
theorem zlZ {β:Type}{r:R β}{p:R Unit}{K:Unit→List C→R β}{σ1:List C} (hp:zbh p) (h:p=.ok () σ1∨p=.stuck) (hr:r=p.bind K):p=.ok () σ1∧r=K () σ1:=by
 refine Or.elim h ?_ ?_
 clear h
 intro h
 rotate_left
 clear h
 intro h
 rotate_left
 ·subst h; exact⟨rfl,hr⟩
 ·subst h; exact zab hp
theorem zl0 {m₀:AM}{s₀:Shared}{v:V}{val:Value}{r:R Bool} (w:From X m₀ s₀ m s) (hr:r=zd0 v σ) (hf:zbh r) (k:Ok X fs m σ s) (ra:Rep X.F m s.heap val v) {M:Model}{E:Value→Shared→Prop}:wpAny M A (truthy val) (PB X fs m₀ s₀ r) E s:=by
 refine zaF (zfw (hr▸hf)) fun b ee0=>?_
 subst ee0
 cases ra
 exact wpAny_truthy_bool (w.pb hr (zgp k))
theorem zbY {sc:Scope}{l:List Nat}{g:Expr} (h:okG sc l g=true):∃ x q,g=.Name x q:=let ⟨p,e,_⟩:=zff h; ⟨_,p,e⟩
theorem Ok.kin (k:Ok X fs m σ s) (F:Facts X):X.K.In s.heap:=F.inK.keeps k.stays

include F L W P
omit F L W P in
set_option tactic.hygienic true in
theorem sX (i:Nat) {pe:Expr}{fs:List PySem.Env}{A:Around}{env:PySem.Env}{vars:List (List Nat)}{ρ:Env}{m:AM}{σ:List C}{s:Shared} (hok:okE X.T vars env.scope (.x i) pe=true) (B:Begin X fs vars env ρ σ m s prim A n)
  (hf:zbh (evE X.T prim lo (.x i) ρ σ)):wpAny (model X.prog X.w) A (eval pe env) (PV X fs m s (evE X.T prim lo (.x i) ρ σ)) (PX X fs s (evE X.T prim lo (.x i) ρ σ)) s:=by
 refine zaZ (zf9 hok) fun x p ee0 h=>?_
 subst ee0
 have hr:evE X.T prim lo (.x i) ρ σ=zkm ρ i σ:=rfl
 rw[hr] at hf ⊢
 unfold zkm at hf ⊢
 split at hf
 ·rename_i v hv
  exact zg2 B.e hv h fun val r=>zct B.k r
 ·exact zab hf

section
variable (X) (prim) (lo) (n)
noncomputable def PE (e:E):Prop:=∀ {pe:Expr}{fs:List PySem.Env}{A:Around}{env:PySem.Env}{vars:List (List Nat)}{ρ:Env}{m:AM}{σ:List C}{s:Shared},okE X.T vars env.scope e pe=true→Begin X fs vars env ρ σ m s prim A n →
  zbh (evE X.T prim lo e ρ σ)→wpAny (model X.prog X.w) A (eval pe env) (PV X fs m s (evE X.T prim lo e ρ σ)) (PX X fs s (evE X.T prim lo e ρ σ)) s
noncomputable def PEs (es:Es):Prop:=∀ {l:List Expr}{fs:List PySem.Env}{A:Around}{env:PySem.Env}{vars:List (List Nat)}{ρ:Env}{m:AM}{σ:List C}{s:Shared},okEs X.T vars env.scope es l=true→Begin X fs vars env ρ σ m s prim A n →
  zbh (evEs X.T prim lo es ρ σ)→wpAny (model X.prog X.w) A (spliced (l.map fun e=>(false,eval e env))) (PVs X fs m s (evEs X.T prim lo es ρ σ)) (PX X fs s (evEs X.T prim lo es ρ σ)) s
noncomputable def PBo (es:Es):Prop:=∀ (kk:Bool) {l:List Expr}{p:Pos}{fs:List PySem.Env}{A:Around}{env:PySem.Env}{vars:List (List Nat)}{ρ:Env}{m:AM}{σ:List C}{s:Shared},okEs X.T vars env.scope es l=true→Begin X fs vars env ρ σ m s prim A n →
  zbh (evB X.T prim lo kk es ρ σ)→wpAny (model X.prog X.w) A (eval (.BoolOp (if kk then .And else .Or) l p) env) (PV X fs m s (evB X.T prim lo kk es ρ σ)) (PX X fs s (evB X.T prim lo kk es ρ σ)) s
noncomputable def PT (e:E):Prop:=∀ {pe:Expr}{fs:List PySem.Env}{A:Around}{env:PySem.Env}{vars:List (List Nat)}{ρ:Env}{m:AM}{σ:List C}{s:Shared},okE X.T vars env.scope e pe=true→Begin X fs vars env ρ σ m s prim A n →
  zbh (evT X.T prim lo e ρ σ)→wpAny (model X.prog X.w) A (PySem.isTrue pe env (eval pe env)) (PB X fs m s (evT X.T prim lo e ρ σ)) (PX X fs s (evT X.T prim lo e ρ σ)) s
noncomputable def PTs (es:Es):Prop:=∀ (kk:Bool) {l:List Expr}{p:Pos}{whole:Sem Value}{fs:List PySem.Env}{A:Around}{env:PySem.Env}{vars:List (List Nat)}{ρ:Env}{m:AM}{σ:List C}{s:Shared},okEs X.T vars env.scope es l=true→Begin X fs vars env ρ σ m s prim A n →
  zbh (evTs X.T prim lo kk es ρ σ)→wpAny (model X.prog X.w) A (PySem.isTrue (.BoolOp (if kk then .And else .Or) l p) env whole) (PB X fs m s (evTs X.T prim lo kk es ρ σ)) (PX X fs s (evTs X.T prim lo kk es ρ σ)) s
noncomputable def PPs (es:Es):Prop:=∀ (ks:List (List Nat)) {keys:List (Option Expr)}{vals:List Expr}{p:Pos}{fs:List PySem.Env}{A:Around}{env:PySem.Env}{vars:List (List Nat)}{ρ:Env}{m:AM}{σ:List C}{s:Shared},zfr ks keys=true→okEs X.T vars env.scope es vals=true→keys.length=vals.length→Begin X fs vars env ρ σ m s prim A n →
  zbh (evEs X.T prim lo es ρ σ)→wpAny (model X.prog X.w) A (evalPairs (pairTrees keys vals env p)) (fun prs s'=>∃ vs σ' vals',evEs X.T prim lo es ρ σ=.ok vs σ'∧zrI X fs m s vs σ' vals' s'∧Carries (PySem.strKind X.prog X.w) prs ((ks.map zaa).zip vals'))
   (PX X fs s (evEs X.T prim lo es ρ σ)) s
end
theorem cO {e:E} (hE:PE X prim lo n e) {l:Option Expr}{fs:List PySem.Env}{A:Around}{env:PySem.Env}{vars:List (List Nat)}{ρ:Env}{m:AM}{σ:List C}{s:Shared} (hok:okO X.T vars env.scope e l=true) (B:Begin X fs vars env ρ σ m s prim A n)
  (hf:zbh (evE X.T prim lo e ρ σ)):wpAny (model X.prog X.w) A (evalPart l env) (PV X fs m s (evE X.T prim lo e ρ σ)) (PX X fs s (evE X.T prim lo e ρ σ)) s:=by
 refine Or.elim (ztZ hok) ?_ ?_
 intro nm
 refine zaW nm ?_
 clear nm
 intro ee0 ee1
 subst ee0
 subst ee1
 rotate_left
 intro nm
 refine zao nm ?_
 clear nm
 intro pe ee0 h
 subst ee0
 rotate_left
 ·exact wpAny_evalPart_none (zct B.k .none)
 ·exact wpAny_evalPart_some (hE h B hf)
omit F L W P in
theorem zn6 {fs:List PySem.Env}{m:AM}{σ:List C}{s:Shared}{val:Value}{n:Nat} (k:Ok X fs m σ s) (ra:Rep X.F m s.heap val (.loc n)) (h:(∃ rest,σ[n]?=some (.words rest))∨∃ as,σ[n]?=some (.inst as)) :
  ∃ q dx es en,val=.ref q∧IsW X s.heap q dx es en∧zhT es:=by
 refine Or.elim h ?_ ?_
 clear h
 intro nm
 refine zaF nm ?_
 clear nm
 intro rest h
 rotate_left
 clear h
 intro nm
 refine zaF nm ?_
 clear nm
 intro as h
 rotate_left
 ·refine zb8 (k.loc ra h) fun q ee0 hq rst=>?_
  subst ee0
  refine zuB rst ?_
  clear rst
  intro dx rl es' en L' i xs nn' g1 n1 n2 n3 g2 nm0 g4
  obtain⟨t1,t2,t3,h1,h2,rfl⟩:=nm0
  refine znn _ dx _ en rfl g2 (fun e he=>?_)
  refine Or.elim (List.mem_cons.mp he) ?_ ?_
  intro nm
  subst nm
  rotate_left
  intro he
  rotate_left
  ·exact zdf 0 t1 (by decide) rfl
  ·cases List.mem_singleton.mp he
   exact zdf 1 t2 (by exact Nat.le_refl _) rfl
 ·refine zb8 (k.loc ra h) fun q ee0 hq rst=>?_
  subst ee0
  refine zo0 rst ?_
  clear rst
  intro dx es' en g1 n1 g2 g3 g4
  exact znn _ dx es' en rfl g2 g3.keys
theorem cW (mt:WM) (es:Es) (hEs:PEs X prim lo n es):∀ {j:Nat}{o:Expr}{ap cp:Pos}{args:List Expr}{fs:List PySem.Env}{A:Around}{env:PySem.Env}{vars:List (List Nat)}{ρ:Env}{m:AM}{σ:List C}{s:Shared},
  attributeBase o (zaa (zdk mt)) env (eval o env)=eval o env→zbE ap cp=true→okE X.T vars env.scope (.x j) o=true→okEs X.T vars env.scope es args=true→args.length≤20→Begin X fs vars env ρ σ m s prim A n →
  zbh (evE X.T prim lo (.wm (.x j) mt es) ρ σ)→wpAny (model X.prog X.w) A (eval (.Call (.Attribute o (zaa (zdk mt)) ap) args [] cp) env) (PV X fs m s (evE X.T prim lo (.wm (.x j) mt es) ρ σ)) (PX X fs s (evE X.T prim lo (.wm (.x j) mt es) ρ σ)) s:=by
  intro j o ap cp args fs A env vars ρ m σ s hb h1 h3 h4 h5 B hf
  refine zek hb (zaY h4) h1 h5 (zbA (.refl X m s) rfl hf (sX j h3 B) fun v σ1 m1 val s1 w x k ra hr ua=>fun pl=>?_)
  have hp:zbh (zkj v σ1):=zbj (hr▸hf)
  refine zaW (zlQ hp) fun e0 rst=>?_
  refine zao rst ?_
  clear rst
  intro nn hv hc
  obtain⟨e,hr'⟩:=zlZ hp (.inl e0) hr
  subst hv
  refine zfl (W.mth mt) fun fn hfn hfind hisf hkeep=>?_
  refine zld (zn6 k ra hc) fun q dx es' en ee0 I ke=>?_
  subst ee0
  refine zlW W (k.kin F) I ke hfn ?_
  refine zau (keeps_K hkeep) (ze2 w hr' hf (hEs h4 (B.on x k)) fun vs σ2 m2 vals s2 w2 x2 k2 rs hr2 ua=>⟨k2.kin F,?_⟩)
  have hf2:=hr2▸hf
  have ra2:=ra.ext x2.pre (k.sto.keepT x2)
  show wpAny _ _ (PySem.call (.ref fn.addr) (.ref q::vals)) _ _ _
  refine Or.elim (zlR hf2) ?_ ?_
  intro nm
  refine ziM nm ?_
  clear nm
  intro ee0 nn1 hrun
  subst ee0
  obtain⟨rest,hs⟩:=nn1
  rotate_left
  intro nm
  refine zaW nm ?_
  clear nm
  intro _ hrun
  rotate_left
  ·rw[hrun] at hf2
   exact zg5 w2 (hr2.trans hrun) (P.wm rfl hfn ra2 hs rs k2 B.lim20 B.f hf2)
  ·rw[hrun] at hf2
   exact zg5 w2 (hr2.trans hrun) (zp9 L hfn (.cons ra2 rs) k2 B.l B.f hf2)
theorem zuT (v:V)  : PE X prim lo n (.c v):=by
  intro pe fs A env vars ρ m σ s hok B hf
  rcases zlE hok with ⟨c,n,p,rfl,hc⟩ | ⟨i,j,n,p,q,rfl,rfl,rfl⟩
  ·exact zjy B.k hc
  ·exact UnaryOp_ (wpAny_Constant_int (PyProof.Rows.neg_int (za1 B.k _ (.int _ _))))
theorem zuU (i:Nat)  : PE X prim lo n (.x i):=by
  intro pe fs A env vars ρ m σ s hok B hf
  exact sX i hok B hf
theorem zvl (i:Nat)  : PE X prim lo n (.g i):=by
  intro pe fs A env vars ρ m σ s hok B hf
  refine zao (zr3 hok) fun p hp h=>?_
  show wpAny _ _ _ (PV X fs m s (ztI X.T i σ)) _ _
  unfold ztI
  refine hp.symm▸?_
  refine zao (F.globs i p hp) fun val h1 h2=>?_
  exact zcL B.k F B.e h h1 (zct B.k (B.k.glob h2))
theorem zsf (a:E) (hEa:PE X prim lo n a):PE X prim lo n (.not a):=by
  intro pe fs A env vars ρ m σ s hok B hf
  refine zaZ (zlF hok) fun e p ee0 h=>?_
  subst ee0
  refine UnaryOp_ (zbA (.refl X m s) rfl hf (hEa h B) fun v σ1 m1 val s1 w x k r hr ua=>?_)
  rw[hr] at hf ⊢
  refine not_of ?_
  cases r <;> first | exact zab hf | exact wpAny_truthy_bool (w.pv rfl (zct k (.bool _)))
theorem zsg (kk:Bool) (es:Es) (hB:PBo X prim lo n es):PE X prim lo n (.bop kk es):=by
  intro pe fs A env vars ρ m σ s hok B hf
  refine zaZ (zlG hok) fun l p ee0 h=>?_
  subst ee0
  exact hB kk h B hf
theorem zsh (t:E) (a:E) (b:E) (hTt:PT X prim lo n t) (hEa:PE X prim lo n a) (hEb:PE X prim lo n b):PE X prim lo n (.ite t a b):=by
  intro pe fs A env vars ρ m σ s hok B hf
  refine zo1 (zlH hok) fun t' a' b' p ee0 h1 h2 h3=>?_
  subst ee0
  refine IfExp_ (zlX (.refl X m s) rfl hf (hTt h1 B) fun c σ1 m1 s1 w x k hr ua=>?_)
  rw[hr] at hf
  induction c using Bool.casesOn with
  | true=>exact zg5 w hr (hEa h2 (B.on x k) hf)
  | false=>exact zg5 w hr (hEb h3 (B.on x k) hf)
theorem zsi (op:CmpOp) (a:E) (b:E) (hEa:PE X prim lo n a) (hEb:PE X prim lo n b):PE X prim lo n (.cmp op a b):=by
  intro pe fs A env vars ρ m σ s hok B hf
  refine zeC (ziR hok) fun l r p ee0 h1 h2 h3=>?_
  subst ee0
  refine wpAny_Compare1 (zbA (.refl X m s) rfl hf (hEa h1 B) fun v σ1 m1 val s1 w x k ra hr ua=>?_) h3
  refine zbA w hr hf (hEb h2 (B.on x k)) fun u σ2 m2 val2 s2 w2 x2 k2 rb hr2 ua=>?_
  refine zaF (zbh.okB (hr2▸hf)) fun c hc=>?_
  rw[hc] at hr2
  exact zeF k2 F.sysm (by have:=B.l.units; show A.units+100 < 9900; omega) (ra.ext x2.pre (k.sto.keepT x2)) rb hc fun tk=>w2.pv hr2 (za1 k2 tk (.bool _))
theorem zsj (op:Operator) (a:E) (b:E) (hEa:PE X prim lo n a) (hEb:PE X prim lo n b):PE X prim lo n (.bin op a b):=by
  intro pe fs A env vars ρ m σ s hok B hf
  refine zdb (zpY hok) fun l r p ee0 h1 h2=>?_
  subst ee0
  refine wpAny_BinOp (zbA (.refl X m s) rfl hf (hEa h1 B) fun v σ1 m1 val s1 w x k ra hr ua=>?_)
  refine zbA w hr hf (hEb h2 (B.on x k)) fun u σ2 m2 val2 s2 w2 x2 k2 rb hr2 ua=>?_
  refine wpAny_mono (zkx k2 (ra.ext x2.pre (k.sto.keepT x2)) rb (E:=fun ua ub=>False) (hr2▸hf).1) (fun val s3 g=>w2.pv hr2 g) fun ua ub g=>g.elim
theorem zsk (es:Es) (hEs:PEs X prim lo n es):PE X prim lo n (.tup es):=by
  intro pe fs A env vars ρ m σ s hok B hf
  refine zgT (zpZ hok) fun l n p ee0 h=>?_
  subst ee0
  refine wpAny_Tuple ?_
  rw[zaY h]
  refine ze2 (.refl X m s) rfl hf (hEs h B) fun vs σ1 m1 vals s1 w x k rs hr ua=>?_
  have hf:=hr▸hf
  unfold zuH at hf hr
  by_cases hl:vs.length≤LIM
  ·rw[if_pos hl] at hr
   exact⟨by rw[rs.length,sizeLine_eq]; unfold LIM at hl; exact Nat.le_trans ‹_› (by decide),w.pv hr (zlq k rs s1.toks)⟩
  ·rw[if_neg hl] at hf; exact zab hf
theorem zsl (es:Es) (hEs:PEs X prim lo n es):PE X prim lo n (.lst es):=by
  intro pe fs A env vars ρ m σ s hok B hf
  refine zaZ (zp0 hok) fun l p ee0 h=>?_
  subst ee0
  refine wpAny_List ?_
  rw[zaY h]
  refine ze2 (.refl X m s) rfl hf (hEs h B) fun vs σ1 m1 vals s1 w x k rs hr ua=>?_
  have hf:=hr▸hf
  unfold zuI at hf hr
  by_cases hl:vs.length≤LIM
  ·rw[if_pos hl] at hr
   exact⟨by rw[rs.length,sizeLine_eq]; unfold LIM at hl; omega,w.pv hr (ziO k rs s1.toks)⟩
  ·rw[if_neg hl] at hf; exact zab hf
theorem zqa (ks:List (List Nat)) (es:Es) (hPs:PPs X prim lo n es):PE X prim lo n (.dict ks es):=by
  intro pe fs A env vars ρ m σ s hok B hf
  refine ztp (znQ hok) fun keys vals p ee0 h1 h2 h3 h4 h5 a3=>?_
  subst ee0
  obtain⟨a1,a2⟩:=ziS h1
  have hf1:=zbj (r1:=evEs X.T prim lo es ρ σ) (K:=zkk ks) hf
  refine wpAny_Dict_walk (knd:=PySem.strKind X.prog X.w) a1 a3 (fun q=>by rw[q] at a2; exact h5 a2.symm) (by omega) ?_
  have k0:=B.k.push { cls:=.type "dict",data:=.dict #[] }
  have x0:Ext m m s.heap (s.heap.push { cls:=.type "dict",data:=.dict #[] }):=.of_sub (zaJ _ _)
  refine wpAny_mono (hPs ks h1 h2 a3 (B.on (s1:={ s with heap:=s.heap.push { cls:=.type "dict",data:=.dict #[] } }) x0 k0) hf1) (fun prs s1 ⟨vs,σ1,vals',e,⟨m1,x,k,y,rs⟩,hc⟩=>?_) fun v s1 hx=>hx.to ⟨rfl,rfl,rfl⟩ fun e=>by
   show(evEs X.T prim lo es ρ σ).bind (zkk ks)=_
   rw[e]; rfl
  have hr:evE X.T prim lo (.dict ks es) ρ σ=zkk ks vs σ1:=by
   show(evEs X.T prim lo es ρ σ).bind (zkk ks)=_
   rw[e]; rfl
  rw[hr] at hf ⊢
  unfold zkk at hf ⊢
  by_cases hl:vs.length=ks.length∧vs.length≤15
  ·rw[if_pos hl]
   exact znY B.k k x ⟨y.1,y.2.1,y.2.2⟩ rs hl.1 h4 hc
  ·rw[if_neg hl] at hf; exact zab hf
theorem zsm (a:E) (i:E) (hEa:PE X prim lo n a) (hEi:PE X prim lo n i):PE X prim lo n (.sub a i):=by
  intro pe fs A env vars ρ m σ s hok B hf
  refine zeC (zlI hok) fun v sl p ee0 h1 h2 h3=>?_
  subst ee0
  refine Subscript_ (zbA (.refl X m s) rfl hf (hEa h1 B) fun v σ1 m1 val s1 w x k ra hr ua=>?_)
  refine zbA w hr hf (hEi h2 (B.on x k)) fun u σ2 m2 val2 s2 w2 x2 k2 rb hr2 ua=>?_
  obtain⟨c,hc⟩:=zbh.ofOpt (hr2▸hf)
  rw[hc] at hr2
  refine wpAny_mono (zky k2 (ra.ext x2.pre (k.sto.keepT x2)) rb (E:=fun ua ub=>False) F.sysm (zhN h3 _ _) hc) (fun val s3 g=>w2.pv hr2 g) fun ua ub g=>g.elim
theorem zt5 (a:E) (l:E) (h:E) (hEa:PE X prim lo n a) (hEl:PE X prim lo n l) (hEh:PE X prim lo n h):PE X prim lo n (.sl a l h):=by
  intro pe fs A env vars ρ m σ s hok B hf
  refine ztB (zr4 hok) fun v lo' hi' p q ee0 h1 h2 h3=>?_
  subst ee0
  refine Subscript_ (zbA (.refl X m s) rfl hf (hEa h1 B) fun v σ1 m1 val s1 w x k ra hr ua=>?_)
  refine wpAny_Slice (zbA w hr hf (cO F L W P hEl h2 (B.on x k)) fun u σ2 m2 val2 s2 w2 x2 k2 rl hr2 ua=>?_)
  refine zbA w2 hr2 hf (cO F L W P hEh h3 ((B.on x k).on x2 k2)) fun z σ3 m3 val3 s3 w3 x3 k3 rh hr3 ua=>?_
  refine wpAny_evalPart_none ?_
  have ra':=(ra.ext x2.pre (k.sto.keepT x2)).ext x3.pre (k2.sto.keepT x3)
  refine wpAny_mono (zlT k3 ra' (rl.ext x3.pre (k2.sto.keepT x3)) rh (hr3▸hf).1 (E:=fun ua ub=>False)) (fun val s3 g=>w3.pv hr3 g) fun ua ub g=>g.elim
theorem zqb (a:E) (i:Nat)  : PE X prim lo n (.attr a i):=by
  intro pe fs A env vars ρ m σ s hok B hf
  refine ziL (znR hok) fun v p ee0 hx h1 hi=>?_
  subst ee0
  obtain⟨j,rfl⟩:∃ j,a=.x j:=by
   induction a using Lake.E.casesOn <;> first | exact⟨_,rfl⟩ | exact(Bool.false_ne_true hx).elim
  refine zaZ (zf9 h1) fun nx np ee0 ua=>?_
  subst ee0
  refine Attribute_Name_ (zbA (.refl X m s) rfl hf (sX j h1 B) fun v σ1 m1 val s1 w x k ra hr ua=>?_)
  refine zaF (zbh.ofOpt (hr▸hf)) fun c hc=>?_
  rw[hc] at hr
  refine zc0 (zhM hc) fun nn as e1 e2 e3=>?_
  subst e1
  refine zb8 (k.loc ra e2) fun q ee0 hq rst=>?_
  subst ee0
  refine zo0 rst ?_
  clear rst
  intro dx es ne f1 f2 f3 f4 f5
  refine zao ((f4.look hi).1 c e3) fun e g1 g2=>?_
  exact zhV W (k.kin F) f3 hi (zhU g1) (zgs g2) (w.pv hr (za1 k _ g2))
theorem zl1 (f:Nat) (es:Es) (hEs:PEs X prim lo n es):PE X prim lo n (.call f es):=by
  intro pe fs A env vars ρ m σ s hok B hf
  refine ztq (zg3 hok) fun g args p fn ee0 h1 h2 h3 h4 h5=>?_
  subst ee0
  refine zbw (zbY h2) (zaY h4) (zcL B.k F B.e h2 (F.fnG f fn h3 h1) ?_)
  refine zau (keeps_K (zlY F h1)) (ze2 (.refl X m s) rfl hf (hEs h4 B) fun vs σ1 m1 vals s1 w x k rs hr ua=>⟨k.kin F,?_⟩)
  exact zg5 w hr (zp9 L h1 rs k B.l B.f (hr▸hf))
theorem zt6 (b:BI) (es:Es) (hEs:PEs X prim lo n es):PE X prim lo n (.bi b es):=by
  intro pe fs A env vars ρ m σ s hok B hf
  refine zeC (zo8 hok) fun g args p ee0 h1 h2 h3=>?_
  subst ee0
  refine zbw (zbY h1) (zaY h2) (zcM B.k F B.e h1 (F.bi b) ?_)
  refine zau (zjC b) (ze2 (.refl X m s) rfl hf (hEs h2 B) fun vs σ1 m1 vals s1 w x k rs hr ua=>⟨trivial,?_⟩)
  exact wpAny_mono (zlD k B.l.hand rs (hr▸hf).1 (E:=fun ua ub=>False)) (fun val s3 g=>w.pv hr g) fun ua ub g=>g.elim
theorem zpe (a:E) (t:TY) (hEa:PE X prim lo n a):PE X prim lo n (.isi a t):=by
  intro pe fs A env vars ρ m σ s hok B hf
  refine zut (zlK hok) fun g e y p ee0 h1 h2 h3 h4=>?_
  subst ee0
  have ht:backTo p (starEach [e,y] env)=[e,y].map fun e=>(false,eval e env):=zp8 h1 (by refine zkh (zbY h4) fun ua ub ee0=>?_; subst ee0; rfl)
  refine zbw (zbY h2) ht (zcM B.k F B.e h2 F.isi ?_)
  refine zau (zbF _) (spliced_cons (zbA (.refl X m s) rfl hf (hEa h3 B) fun v σ1 m1 val s1 w x k ra hr ua=>?_))
  refine spliced_cons (zcM k F (B.on x k).e h4 (F.ty t) (spliced_nil ⟨trivial,?_⟩))
  refine zaF (zbh.okB (hr▸hf)) fun c hc=>?_
  rw[hc] at hr
  exact zkA k ra hc fun tk=>w.pv hr (za1 k tk (.bool _))
theorem zsn (a:E) (mt:MT) (es:Es) (hEa:PE X prim lo n a) (hEs:PEs X prim lo n es):PE X prim lo n (.mth a mt es):=by
  intro pe fs A env vars ρ m σ s hok B hf
  refine ztq (zp1 hok) fun o ap args cp ee0 h1 h2 h3 h4 h5=>?_
  subst ee0
  have hb:attributeBase o (zaa (zhH mt)) env (eval o env)=eval o env:=by
   refine Or.elim h2 ?_ ?_
   clear h2
   intro nm
   refine zaF nm ?_
   clear nm
   intro i ee0
   subst ee0
   rotate_left
   clear h2
   intro nm
   refine zaF nm ?_
   clear nm
   intro y ee0
   subst ee0
   rotate_left
   ·refine zaZ (zf9 h3) fun ua ub ee0 uc=>?_; subst ee0; rfl
   ·rcases zlE h3 with ⟨c,n,p,rfl,_⟩ | ⟨i,j,n,p,q,e,_⟩
    ·rfl
    ·exact noI V.ctorIdx e rfl
  refine zek hb (zaY h4) h1 h5 (zbA (.refl X m s) rfl hf (hEa h3 B) fun v σ1 m1 val s1 w x k ra hr ua=>fun pl=>?_)
  have hp:zbh (zeg mt v σ1):=zbj (hr▸hf)
  refine zaW (zlZ hp (zlO ..) hr) fun e hr'=>?_
  refine zkC k ra hp.1 pl ?_
  refine zau (zbF _) (ze2 w hr' hf (hEs h4 (B.on x k)) fun vs σ2 m2 vals s2 w2 x2 k2 rs hr2 ua=>⟨trivial,?_⟩)
  exact wpAny_mono (zkE k2 (ra.ext x2.pre (k.sto.keepT x2)) rs (hr2▸hf).1 (E:=fun ua ub=>False)) (fun val s3 g=>w2.pv hr2 g) fun ua ub g=>g.elim
theorem zso (a:E) (mt:WM) (es:Es) (hEs:PEs X prim lo n es):PE X prim lo n (.wm a mt es):=by
  intro pe fs A env vars ρ m σ s hok B hf
  refine ztq (zo9 hok) fun o ap args cp ee0 h1 nn1 h3 h4 h5=>?_
  subst ee0
  obtain⟨j,rfl⟩:=nn1
  have hb:attributeBase o (zaa (zdk mt)) env (eval o env)=eval o env:=by
   refine zaZ (zf9 h3) fun ua ub ee0 uc=>?_; subst ee0; rfl
  exact cW F L W P mt es hEs hb h1 h3 h4 h5 B hf
theorem zqc (nn:Nat) (a:E) (d:V) (hEa:PE X prim lo n a):PE X prim lo n (.dget nn a d):=by
  intro pe fs A env vars ρ m σ s hok B hf
  refine bc fun hN=>?_
  refine zuB (znS hok) fun g ap e c kk cp' cp q ee0 h1 h2 h3 h4 h5 h6=>?_
  subst ee0
  refine zkh (zbY h4) fun ua ub ee0=>?_
  subst ee0
  refine zb8 (F.dicts nn q h3) fun da hg hD rst=>?_
  refine zao rst ?_
  clear rst
  intro od ho hod
  have ht:backTo cp (starEach [e,.Constant c kk cp'] env)=[e,.Constant c kk cp'].map fun e=>(false,eval e env):=zp8 h2 rfl
  refine hN ?_
  refine zek rfl ht h1 (by exact Nat.le_of_ble_eq_true rfl) (zcL B.k F B.e h4 hg fun pl=>?_)
  have hD':∀ {m:AM}{s:Shared}{σ:List C},Ok X fs m σ s→IsD X m s.heap da q.2:=fun k=>by
   obtain⟨⟨o,es,ep,b1,b2,b3,b4⟩,b5⟩:=hD
   exact⟨⟨o,es,ep,k.stays _ _ b1,b2,b3,b4.ext List.nil_prefix (.of_sub k.stays)⟩,b5⟩
  refine getMethod_builtin (T:="dict") (hD' B.k).typeIs PySem.F.plainAttrs_dict PySem.F.slot_dict_get PySem.F.type_dict_get (fun a' e'=>by cases e'; exact zc1 od (B.k.stays _ _ ho) hod) ?_
  refine zau (zbF _) (spliced_cons (zbA (.refl X m s) rfl hf (hEa h5 B) fun v σ1 m1 val s1 w x k ra hr ua=>?_))
  refine spliced_cons (wpAny_mono (zjy k h6 (E:=fun ua ub=>False)) (fun val2 s2 ⟨d',σ2,e2,m2,x2,k2,y2,rd⟩=>spliced_nil ⟨trivial,?_⟩) fun ua ub z=>z.elim)
  refine bc fun hN=>?_
  refine zaW (R.ok.inj e2) fun ee ff=>?_
  clear e2
  subst ee
  subst ff
  have hf:=hr▸hf
  unfold zrw at hf hr
  cases ra with
  | str kk' t=>
   simp only[h3] at hr
   have w2:From X m s m2 s2:=⟨w.x.trans x2,w.y.trans y2⟩
   refine hN ?_
   refine(hD' k2).get2 (fun v u ha hu=>?_) fun hn=>?_
   ·rw[ha] at hr; exact w2.pv hr (za1 k2 _ hu)
   ·rw[hn] at hr; exact w2.pv hr (za1 k2 _ rd)
  | _=>exact zab hf
theorem zn7 (f:E) (es:Es) (hEf:PE X prim lo n f) (hEs:PEs X prim lo n es):PE X prim lo n (.vcall f es):=by
  intro pe fs A env vars ρ m σ s hok B hf
  refine bc fun hN=>?_
  refine ztB (zlL hok) fun v sl p args cp ee0 h1 h2 h3=>?_
  subst ee0
  refine hN ?_
  refine Call_ (zbA (.refl X m s) rfl hf (hEf h1 B) fun u σ1 m1 val s1 w x k ra hr ua=>?_)
  refine(zaY h2).symm▸?_
  have hp:zbh (zlf X.T u σ1):=zbj (hr▸hf)
  refine bc fun hN=>?_
  refine zaW (zlP hp) fun e0 rst=>?_
  refine zaZ rst ?_
  clear rst
  intro i fn hv hi
  refine zaW (zlZ hp (.inl e0) hr) fun e hr'=>?_
  subst hv
  refine zao ra.inv fun ad ee0 had=>?_
  subst ee0
  have had:ad=fn.addr:=by
   unfold Stat.F at had
   replace had:=hi▸had; exact(Option.some.inj had).symm
  subst had
  refine hN ?_
  refine zau (keeps_K (zlY F hi)) (ze2 w hr' hf (hEs h2 (B.on x k)) fun vs σ2 m2 vals s2 w2 x2 k2 rs hr2 ua=>⟨k2.kin F,?_⟩)
  exact zg5 w2 (show _=lo.call i vs σ2 from hr2) (zp9 L hi rs k2 B.l B.f ((show _=lo.call i vs σ2 from hr2)▸hf))
theorem zqd (a:E) (hEa:PE X prim lo n a):PE X prim lo n (.newW a):=by
  intro pe fs A env vars ρ m σ s hok B hf
  refine zeC (znT hok) fun g e p ee0 h1 h2 h3=>?_
  subst ee0
  have ht:backTo p (starEach [e] env)=[e].map fun e=>(false,eval e env):=zsc h1
  refine zbw (zbY h2) ht (zcL B.k F B.e h2 F.words ?_)
  refine zau (keeps_K W.kc) (spliced_cons (zbA (.refl X m s) rfl hf (hEa h3 B) fun v σ1 m1 val s1 w x k ra hr ua=>?_))
  have hf:=hr▸hf
  have hprim:=znX hf
  refine spliced_nil ⟨k.kin F,?_⟩
  subst hprim
  exact zg5 w hr (P.new ra k B.lim20 B.f hf)
theorem zn8 (a:E) (hEa:PE X prim lo n a):PE X prim lo n (.range a):=by
  intro pe fs A env vars ρ m σ s hok B hf
  refine bc fun hN=>?_
  refine zeC (zlM hok) fun g e p ee0 h1 h2 h3=>?_
  subst ee0
  have ht:backTo p (starEach [e] env)=[e].map fun e=>(false,eval e env):=zsc h1
  refine hN ?_
  refine zbw (zbY h2) ht (zcM B.k F B.e h2 F.rng ?_)
  refine zau (zgr _) (spliced_cons (zbA (.refl X m s) rfl hf (hEa h3 B) fun v σ1 m1 val s1 w x k ra hr ua=>?_))
  refine spliced_nil ⟨trivial,?_⟩
  have hf:=hr▸hf
  refine bc fun hN=>?_
  cases ra with
  | int i t=>
   have hf:zbh (if 0≤i∧i≤100 then R.ok (V.rng i.toNat) σ1 else .stuck):=hf
   have hr:_=(if 0≤i∧i≤100 then R.ok (V.rng i.toNat) σ1 else .stuck):=hr
   by_cases hj:0≤i∧i≤100
   ·replace hr:=(if_pos hj)▸hr
    refine hN ?_
    refine call_range_1 ?_
    have hz:(i.toNat:Int)=i:=by omega
    have hR:IsRange (s1.heap.push { cls:=.type "range",data:=.fields #[.int 0 s1.toks,.int i t,.int 1 (s1.toks+1)] }) s1.heap.objs.size 0 (i.toNat:Int) 1 s1.toks t (s1.toks+1):=by
     refine hz.symm▸?_; exact IsRange.new ..
    exact w.pv hr (zft k (zaJ _ _) _ (.rng hR))
   ·replace hf:=(if_neg hj)▸hf; exact zab hf
  | _=>exact zab hf
theorem zsp   : PE X prim lo n (.bad ):=by
  intro pe fs A env vars ρ m σ s hok B hf
  exact zab hf
theorem zsq (a:E) (hTa:PT X prim lo n a):PT X prim lo n (.not a):=by
  intro pe fs A env vars ρ m σ s hok B hf
  refine zaZ (zlF hok) fun e p ee0 h=>?_
  subst ee0
  exact isTrue_not (zlX (.refl X m s) rfl hf (hTa h B) fun c σ1 m1 s1 w x k hr ua=>w.pb hr (zgp k))
theorem zsr (kk:Bool) (es:Es) (hTs:PTs X prim lo n es):PT X prim lo n (.bop kk es):=by
  intro pe fs A env vars ρ m σ s hok B hf
  refine zaZ (zlG hok) fun l p ee0 h=>?_
  subst ee0
  exact hTs kk h B hf
theorem zss (t:E) (a:E) (b:E) (hTt:PT X prim lo n t) (hTa:PT X prim lo n a) (hTb:PT X prim lo n b):PT X prim lo n (.ite t a b):=by
  intro pe fs A env vars ρ m σ s hok B hf
  refine zo1 (zlH hok) fun t' a' b' p ee0 h1 h2 h3=>?_
  subst ee0
  refine isTrue_IfExp (zlX (.refl X m s) rfl hf (hTt h1 B) fun c σ1 m1 s1 w x k hr ua=>?_)
  rw[hr] at hf
  induction c using Bool.casesOn with
  | true=>exact zn5 w hr (hTa h2 (B.on x k) hf)
  | false=>exact zn5 w hr (hTb h3 (B.on x k) hf)
theorem zst (op:CmpOp) (a:E) (b:E) (hEa:PE X prim lo n a) (hEb:PE X prim lo n b):PT X prim lo n (.cmp op a b):=by
  intro pe fs A env vars ρ m σ s hok B hf
  refine zeC (ziR hok) fun l r p ee0 h1 h2 h3=>?_
  subst ee0
  refine wpAny_isTrue_Compare1 (zbA (.refl X m s) rfl hf (hEa h1 B) fun v σ1 m1 val s1 w x k ra hr ua=>?_) h3
  refine zbA w hr hf (hEb h2 (B.on x k)) fun u σ2 m2 val2 s2 w2 x2 k2 rb hr2 ua=>?_
  obtain⟨c,hc⟩:=zbh.ofOpt (hr2▸hf)
  rw[hc] at hr2
  exact zeF k2 F.sysm (by have:=B.l.units; show A.units+100 < 9900; omega) (ra.ext x2.pre (k.sto.keepT x2)) rb hc fun tk=>wpAny_truthy_bool (w2.pb hr2 (zsd k2 tk))
theorem zvm (i:Nat) (hS:PE X prim lo n (.x i)):PT X prim lo n (.x i):=by
  intro pe fs A env vars ρ m σ s hok B hf
  have hr:evT X.T prim lo (.x i) ρ σ=(evE X.T prim lo (.x i) ρ σ).bind zd0:=rfl
  refine zaZ (zf9 hok) fun x p ee0 h=>?_
  subst ee0
  exact isTrue_plain (zbA (.refl X m s) hr hf (hS hok B) fun v σ1 m1 val s1 w x k ra hr ua=>zl0 w hr hf k ra)
theorem zvn (v:V) (hS:PE X prim lo n (.c v)):PT X prim lo n (.c v):=by
  intro pe fs A env vars ρ m σ s hok B hf
  have hr:evT X.T prim lo (.c v) ρ σ=(evE X.T prim lo (.c v) ρ σ).bind zd0:=rfl
  rcases zlE hok with ⟨c,n,p,rfl,hc⟩ | ⟨i,j,n,p,q,rfl,rfl,rfl⟩
  ·exact isTrue_plain (zbA (.refl X m s) hr hf (hS hok B) fun v σ1 m1 val s1 w x k ra hr ua=>zl0 w hr hf k ra)
  ·exact zab hf
theorem zqe (f:Nat) (es:Es) (hS:PE X prim lo n (.call f es)):PT X prim lo n (.call f es):=by
  intro pe fs A env vars ρ m σ s hok B hf
  have hr:evT X.T prim lo (.call f es) ρ σ=(evE X.T prim lo (.call f es) ρ σ).bind zd0:=by
   show(evEs X.T prim lo es ρ σ).bind _=((evEs X.T prim lo es ρ σ).bind _).bind _
   rw[zce]
  have hpl:∃ g args p,pe=.Call g args [] p:=by
   refine zro (zg3 hok) fun g args p fn ee0 ua=>?_
   subst ee0
   exact zrp _ _ _ rfl
  refine bc fun hN=>?_
  refine zrn hpl ?_
  clear hpl
  intro g args p ee0
  subst ee0
  refine hN ?_
  exact isTrue_plain (zbA (.refl X m s) hr hf (hS hok B) fun v σ1 m1 val s1 w x k ra hr ua=>zl0 w hr hf k ra)
theorem zt7 (a:E) (mt:WM) (es:Es) (hS:PE X prim lo n (.wm a mt es)):PT X prim lo n (.wm a mt es):=by
  intro pe fs A env vars ρ m σ s hok B hf
  have hr:evT X.T prim lo (.wm a mt es) ρ σ=(evE X.T prim lo (.wm a mt es) ρ σ).bind zd0:=by
   show(evE X.T prim lo a ρ σ).bind _=((evE X.T prim lo a ρ σ).bind _).bind _
   rw[zce]
   congr 1
   funext u σ1
   rw[zce]
   congr 1
   funext _ σ1
   rw[zce]
  have hpl:∃ g args p,pe=.Call g args [] p:=by
   refine zro (zo9 hok) fun o ap args cp ee0 ua=>?_
   subst ee0
   exact zrp _ _ _ rfl
  refine bc fun hN=>?_
  refine zrn hpl ?_
  clear hpl
  intro g args p ee0
  subst ee0
  refine hN ?_
  exact isTrue_plain (zbA (.refl X m s) hr hf (hS hok B) fun v σ1 m1 val s1 w x k ra hr ua=>zl0 w hr hf k ra)
theorem zsu (a:E) (t:TY) (hS:PE X prim lo n (.isi a t)):PT X prim lo n (.isi a t):=by
  intro pe fs A env vars ρ m σ s hok B hf
  have hr:evT X.T prim lo (.isi a t) ρ σ=(evE X.T prim lo (.isi a t) ρ σ).bind zd0:=by
   show(evE X.T prim lo a ρ σ).bind _=((evE X.T prim lo a ρ σ).bind _).bind _
   rw[zce]
   congr 1
   funext u σ1
   induction znx t u using Option.casesOn <;> rfl
  have hpl:∃ g args p,pe=.Call g args [] p:=by
   refine zro (zlK hok) fun g e y p ee0 ua=>?_
   subst ee0
   exact zrp _ _ _ rfl
  refine bc fun hN=>?_
  refine zrn hpl ?_
  clear hpl
  intro g args p ee0
  subst ee0
  refine hN ?_
  exact isTrue_plain (zbA (.refl X m s) hr hf (hS hok B) fun v σ1 m1 val s1 w x k ra hr ua=>zl0 w hr hf k ra)
theorem zvo (i:Nat)  : PT X prim lo n (.g i):=by
  intro pe fs A env vars ρ m σ s hok B hf
  exact zab hf
theorem zsv (op:Operator) (a:E) (b:E)  : PT X prim lo n (.bin op a b):=by
  intro pe fs A env vars ρ m σ s hok B hf
  exact zab hf
theorem zsw (es:Es)  : PT X prim lo n (.tup es):=by
  intro pe fs A env vars ρ m σ s hok B hf
  exact zab hf
theorem zsx (es:Es)  : PT X prim lo n (.lst es):=by
  intro pe fs A env vars ρ m σ s hok B hf
  exact zab hf
theorem zqf (ks:List (List Nat)) (es:Es)  : PT X prim lo n (.dict ks es):=by
  intro pe fs A env vars ρ m σ s hok B hf
  exact zab hf
theorem zsy (a:E) (i:E)  : PT X prim lo n (.sub a i):=by
  intro pe fs A env vars ρ m σ s hok B hf
  exact zab hf
theorem zt8 (a:E) (l:E) (h:E)  : PT X prim lo n (.sl a l h):=by
  intro pe fs A env vars ρ m σ s hok B hf
  exact zab hf
theorem zqg (a:E) (i:Nat)  : PT X prim lo n (.attr a i):=by
  intro pe fs A env vars ρ m σ s hok B hf
  exact zab hf
theorem zt9 (b:BI) (es:Es)  : PT X prim lo n (.bi b es):=by
  intro pe fs A env vars ρ m σ s hok B hf
  exact zab hf
theorem zsz (a:E) (mt:MT) (es:Es)  : PT X prim lo n (.mth a mt es):=by
  intro pe fs A env vars ρ m σ s hok B hf
  exact zab hf
theorem zqh (nn:Nat) (a:E) (d:V)  : PT X prim lo n (.dget nn a d):=by
  intro pe fs A env vars ρ m σ s hok B hf
  exact zab hf
theorem zn9 (f:E) (es:Es)  : PT X prim lo n (.vcall f es):=by
  intro pe fs A env vars ρ m σ s hok B hf
  exact zab hf
theorem zqi (a:E)  : PT X prim lo n (.newW a):=by
  intro pe fs A env vars ρ m σ s hok B hf
  exact zab hf
theorem zoa (a:E)  : PT X prim lo n (.range a):=by
  intro pe fs A env vars ρ m σ s hok B hf
  exact zab hf
theorem zqj (cap:List Nat) (elt:E) (it:E)  : PT X prim lo n (.comp cap elt it):=by
  intro pe fs A env vars ρ m σ s hok B hf
  exact zab hf
theorem zsA   : PT X prim lo n (.bad ):=by
  intro pe fs A env vars ρ m σ s hok B hf
  exact zab hf

theorem zl2:PEs X prim lo n .nil:=by
 intro l fs A env vars ρ m σ s hok B hf
 refine(zd2 hok).symm▸?_
 exact spliced_nil ⟨[],σ,rfl,m,.refl ..,B.k,.refl _,.nil⟩
theorem zjE (e:E) (es:Es) (hE:PE X prim lo n e) (hEs:PEs X prim lo n es):PEs X prim lo n (.cons e es):=by
 intro l fs A env vars ρ m σ s hok B hf
 refine ziL (zbX hok) fun pe pes ee0 h1 ua h2=>?_
 subst ee0
 refine spliced_cons (zbA (.refl X m s) rfl hf (hE h1 B) fun v σ1 m1 val s1 w x k ra hr ua=>?_)
 refine ze2 w hr hf (hEs h2 (B.on x k)) fun vs σ2 m2 vals s2 w2 x2 k2 rb hr2 ua=>?_
 exact⟨_,_,hr2,m2,w2.x,k2,w2.y,.cons (ra.ext x2.pre (k.sto.keepT x2)) rb⟩
theorem zsB:PBo X prim lo n .nil:=by
 intro kk l p fs A env vars ρ m σ s hok B hf
 exact zab hf
theorem zsC (e:E) (hE:PE X prim lo n e):PBo X prim lo n (.cons e .nil):=by
 intro kk l p fs A env vars ρ m σ s hok B hf
 refine ziL (zbX hok) fun pe pes ee0 h1 ua h2=>?_
 subst ee0
 refine(zd2 h2).symm▸?_
 exact BoolOp_one (hE h1 B hf)
theorem zqk (e e':E) (es:Es) (hE:PE X prim lo n e) (hB:PBo X prim lo n (.cons e' es)):PBo X prim lo n (.cons e (.cons e' es)):=by
 intro kk l p fs A env vars ρ m σ s hok B hf
 refine ziL (zbX hok) fun pe pes ee0 h1 ua h2=>?_
 subst ee0
 refine ziL (zbX h2) fun pe2 pes2 ee0 ua ub uc=>?_
 subst ee0
 induction kk using Bool.casesOn with
 | true=>
  refine BoolOp_and (zbA (.refl X m s) rfl hf (hE h1 B) fun v σ1 m1 val s1 w x k ra hr ua=>?_)
  obtain⟨b,rfl⟩:=zfw (zbj (hr▸hf))
  cases ra
  refine wpAny_truthy_bool ?_
  induction b using Bool.casesOn with
  | true=>exact zg5 w hr (hB true h2 (B.on x k) (zg6 hr hf))
  | false=>exact w.pv hr (zct k (.bool _))
 | false=>
  refine BoolOp_or (zbA (.refl X m s) rfl hf (hE h1 B) fun v σ1 m1 val s1 w x k ra hr ua=>?_)
  obtain⟨b,rfl⟩:=zfw (zbj (hr▸hf))
  cases ra
  refine wpAny_truthy_bool ?_
  induction b using Bool.casesOn with
  | true=>exact w.pv hr (zct k (.bool _))
  | false=>exact zg5 w hr (hB false h2 (B.on x k) (zg6 hr hf))
theorem zl3:PTs X prim lo n .nil:=by
 intro kk l p whole fs A env vars ρ m σ s hok B hf
 refine(zd2 hok).symm▸?_
 induction kk using Bool.casesOn with
 | true=>exact isTrue_and_nil (zgp B.k)
 | false=>exact isTrue_or_nil (zgp B.k)
theorem zjF (e:E) (es:Es) (hT:PT X prim lo n e) (hTs:PTs X prim lo n es):PTs X prim lo n (.cons e es):=by
 intro kk l p whole fs A env vars ρ m σ s hok B hf
 refine ziL (zbX hok) fun pe pes ee0 h1 ua h2=>?_
 subst ee0
 induction kk using Bool.casesOn with
 | true=>
  refine isTrue_and (zlX (.refl X m s) rfl hf (hT h1 B) fun b σ1 m1 s1 w x k hr ua=>?_)
  induction b using Bool.casesOn with
  | true=>exact zn5 w hr (hTs true h2 (B.on x k) (zg6 hr hf))
  | false=>exact w.pb hr (zgp k)
 | false=>
  refine isTrue_or (zlX (.refl X m s) rfl hf (hT h1 B) fun b σ1 m1 s1 w x k hr ua=>?_)
  induction b using Bool.casesOn with
  | true=>exact w.pb hr (zgp k)
  | false=>exact zn5 w hr (hTs false h2 (B.on x k) (zg6 hr hf))
theorem zpf:PPs X prim lo n .nil:=by
 intro ks keys vals p fs A env vars ρ m σ s hk hok hl B hf
 have:=zd2 hok
 subst this
 induction keys using List.casesOn with
 | nil=>
  induction ks using List.casesOn with
  | nil=>exact pairTrees_nil_walk ⟨[],σ,[],rfl,⟨m,.refl ..,B.k,.refl _,.nil⟩,trivial⟩
  | cons _ _=>exact(Bool.false_ne_true hk).elim
 | cons a b=>cases hl
theorem zl4 (e:E) (es:Es) (hE:PE X prim lo n e) (hPs:PPs X prim lo n es):PPs X prim lo n (.cons e es):=by
 intro ks keys vals p fs A env vars ρ m σ s hk hok hl B hf
 refine ziL (zbX hok) fun pe pes ee0 h1 ua h2=>?_
 subst ee0
 induction ks using List.casesOn with
 | nil=>
  induction keys using List.casesOn with
  | nil=>cases hl
  | cons a b=>exact(Bool.false_ne_true hk).elim
 | cons kk ks=>
  refine zgT (zlS hk) fun kp kq kr ee0 hk2=>?_
  subst ee0
  refine pairTrees_cons_walk (Constant_str ?_)
  have k0:=B.k.toks (s.toks+1)
  have B0:Begin X fs vars env ρ σ m { s with toks:=s.toks+1 } prim A n:=⟨B.e,k0,B.l,B.f⟩
  have w0:From X m s m { s with toks:=s.toks+1 }:=⟨.refl ..,rfl,rfl,rfl⟩
  refine zbA (s:={ s with toks:=s.toks+1 }) w0 rfl hf (hE h1 B0) fun v σ1 m1 val s1 w x k ra hr ua=>?_
  have hf1:=zbj (hr▸hf)
  refine wpAny_mono (hPs ks hk2 h2 (by exact Nat.succ.inj hl) (B0.on x k) hf1) (fun prs s2 ⟨vs,σ2,vals',e2,⟨m2,x2,k2,y2,rs⟩,hc⟩=>?_) fun v s2 hx=>hx.to w.y fun e2=>by refine hr.symm▸?_; refine e2.symm▸?_; rfl
  refine⟨v::vs,σ2,val::vals',by refine hr.symm▸?_; refine e2.symm▸?_; rfl,⟨m2,w.x.trans x2,k2,w.y.trans y2,.cons (ra.ext x2.pre (k.sto.keepT x2)) rs⟩,?_,rfl,hc⟩
  exact strKind_is X.prog X.w _ _

end
end
section
open W Calls PyProof.Rows
section
variable {X:Stat}{fs:List PySem.Env}{m m':AM}{σ σ':List C}{s s':Shared}{A:Around}{E:Value→Shared→Prop}{vars:List (List Nat)}{env:PySem.Env}{ρ:Env}{h h':Heap}

structure Aside (X:Stat) (fs:List PySem.Env) (m:AM) (h:Heap) (a:Addr):Prop where
 nm:¬ Mut m a
 nb:X.base.get? a=none
 nf:∀ e∈fs,∀ L,e.frame=some L→L≠a
 ex:∃ o,h.get? a=some o∧¬ zaL o
theorem Aside.ext {a:Addr} (x:Aside X fs m s.heap a) (e:Ext m m' s.heap s'.heap):Aside X fs m' s'.heap a:=by
 refine zao x.ex fun o h1 h2=>?_
 exact⟨e.notMut h1 x.nm,x.nb,x.nf,o,e.keep _ _ h1 x.nm,h2⟩
theorem Ok.but {a:Addr} (k:Ok X fs m σ s) (x:Aside X fs m s.heap a) (hk:Heap.ExtBut a s.heap h') (tk:Nat):Ok X fs m σ { s with heap:=h',toks:=tk }:=by
 refine zao x.ex fun o e1 e2=>?_
 have kt:zb2 s.heap h':=fun b ob eb fb=>hk b ob (fun q=>by subst q; replace eb:=e1▸eb; have ee:=Option.some.inj eb; clear eb; subst ee; exact e2 fb) eb
 have hff:∀ {fs':List PySem.Env},(∀ e∈fs',∀ L,e.frame=some L→L≠a)→s.heap.FunFrames X.base fs'→h'.FunFrames X.base fs':=by
  intro fs'
  induction fs' with
  | nil=>intro _ _; trivial
  | cons e r ih=>
   intro p ⟨hk',⟨L,ob,hf,hn,ho,hd⟩,hr⟩
   exact⟨hk',⟨L,ob,hf,hn,hk L ob (p e (List.mem_cons_self ..) L hf) ho,hd⟩,ih (fun e' he=>p e' (List.mem_cons_of_mem _ he)) hr⟩
 exact⟨fun b ob eb=>hk b ob (fun q=>by subst q; replace eb:=x.nb▸eb; exact zaA eb) (k.stays b ob eb),hff x.nf k.ff,k.prot,
  k.sto.calm kt fun b hb ob eb=>hk b ob (fun q=>x.nm (q▸hb)) eb⟩
theorem Aside.but {a b:Addr} (x:Aside X fs m h a) (hk:Heap.ExtBut b h h') (hab:a≠b):Aside X fs m h' a:=by
 refine zao x.ex fun o h1 h2=>?_
 exact⟨x.nm,x.nb,x.nf,o,hk _ _ hab h1,h2⟩
theorem EnvOK.but {a:Addr} (e:EnvOK X vars env ρ m h) (kt:zb2 h h') (hk:Heap.ExtBut a h h') (hl:env.locals≠a) (hc:∀ v,¬ h.IsCell a v):EnvOK X vars env ρ m h':=by
 obtain⟨h1,b,c,d,f,i,lm,⟨o,es,ep,g1,g2⟩,g⟩:=e
 refine⟨h1,b,c,d,f,i,lm,⟨o,es,ep,hk _ _ hl g1,g2⟩,fun j y o hy ho=>?_⟩
 exact(g j y o hy ho).gen List.prefix_rfl kt rfl fun c v₀ ua q dm ub=>⟨let ⟨oc,b1,b2⟩:=q; ⟨oc,hk c oc (fun e=>hc v₀ (e▸q)) b1,b2⟩,dm⟩

noncomputable def zcu (X:Stat) (m:AM) (h:Heap) (src:Src) (I:Addr) (j:Nat):Prop:=match src with
 | .fixed vs=>(∃ a xs n,h.get? a=some (zli xs n)∧Reps X.F m h xs vs∧h.IsTupleIter I a j) ∨
   ∃ n:Nat,vs=(List.range n).map (fun k=>V.int (k:Nat))∧IsRangeIter h I ((j:Nat):Int) ((n:Int)-(j:Nat)) 1
 | .cell k=>∃ p,m[k]?=some p∧h.IsListIter I p.1 j

theorem zaS {T:String} (hT:T ≠ "tuple" ∧ T ≠ "range") {o:Obj} (hc:o.cls=.type T):¬ zaL o:=by
 rintro(⟨q,_⟩ | ⟨q,_⟩) <;> (replace q:=hc▸q; cases q)
 ·exact hT.1 rfl
 ·exact hT.2 rfl

theorem Ok.aside_new (k:Ok X fs m σ s) {a:Addr} (h0:s.heap.get? a=none) {o:Obj} (h1:h'.get? a=some o) (hf:¬ zaL o):Aside X fs m h' a:=
 let ⟨p,q,r⟩:=k.fresh h0; ⟨p,q,r,o,h1,hf⟩

theorem zfx (k:Ok X fs m σ s) {val:Value}{u:V} (r:Rep X.F m s.heap val u) {src:Src} (e:zdY σ u=some src) {Q:Value→Shared→Prop}
  (h:∀ I h',s.heap.StaysIn h'→s.heap.get? I=none→zcu X m h' src I 0→(∃ o,h'.get? I=some o∧¬ zaL o)→Q (.ref I) { s with heap:=h' }):wpAny (model X.prog X.w) A (pyIter val) Q E s:=by
 refine bc fun hN=>?_
 induction u using V.casesOn with
 | rng n=>
  have e:(match Nat.ble n 100 with
   | true=>some (Src.fixed ((List.range n).map fun k=>.int (k:Nat)))
   | false=>none)=some src:=e
  split at e
  rotate_left
  ·exact zaA e
  rename_i hn
  have hn:=Nat.le_of_ble_eq_true hn
  have ee:=Option.some.inj e
  clear e
  subst ee
  cases r with
  | @rng a _ t u v hR=>
   refine hN ?_
   refine wpAny_pyIter_range hR (small_one (by decide) (by decide) (by exact Int.ofNat_nonneg _) (by omega)) ?_
   refine h _ _ (zaJ _ _) (zbD _) (.inr ⟨n,rfl,?_⟩) ⟨_,Heap.get?_push_size _ rfl,zaS (T:="range_iterator") (by decide) rfl⟩
   have hsz:Builtin.Range.rangeSize 0 (n:Int) 1=(n:Int):=by rw[rangeSize_one]; split <;> omega
   have:=Heap.get?_push_size (o:={ cls:=.type "range_iterator",data:=.fields #[rawInt 0,rawInt (Builtin.Range.rangeSize 0 n 1),rawInt 1] }) s.heap rfl
   rw[hsz] at this ⊢
   show IsRangeIter _ _ ((0:Nat):Int) ((n:Int)-((0:Nat):Int)) 1
   refine(show((n:Int)-((0:Nat):Int))=(n:Int) by rfl).symm▸?_
   exact this
 | tup vs=>
  have e:(match Nat.ble vs.length LIM with
   | true=>some (Src.fixed vs)
   | false=>none)=some src:=e
  split at e
  ·have ee:=Option.some.inj e
   clear e
   subst ee
   cases r with
   | @tup a n xs _ e1 r1=>
    refine hN ?_
    refine wpAny_pyIter_tuple (items:=xs.toArray) ⟨_,e1,rfl,_,rfl⟩ ?_
    refine h _ _ (zaJ _ _) (zbD _) (.inl ⟨a,xs,n,zaJ _ _ _ _ e1,r1.ext List.prefix_rfl (.of_sub (zaJ _ _)),_,Heap.get?_push_size _ rfl,rfl,rfl⟩) ⟨_,Heap.get?_push_size _ rfl,zaS (T:="tuple_iterator") (by decide) rfl⟩
  ·exact zaA e
 | loc n=>
  have e:(match σ[n]? with
   | some (.list _)=>some (Src.cell n)
   | _=>none)=some src:=e
  split at e
  ·rename_i vs hv
   have ee:=Option.some.inj e
   clear e
   subst ee
   refine zeC (k.list r hv) fun la xs c ee0 hm o1 r1=>?_
   subst ee0
   refine hN ?_
   refine wpAny_pyIter_list (zaI o1) ?_
   exact h _ _ (zaJ _ _) (zbD _) ⟨_,hm,_,Heap.get?_push_size _ rfl,rfl,rfl⟩ ⟨_,Heap.get?_push_size _ rfl,zaS (T:="list_iterator") (by decide) rfl⟩
  ·exact zaA e
 | _=>exact zaA e

theorem zhW {F:Nat→Option Addr}{xs:List Value}{vs:List V} (r:Reps F m h xs vs) {j:Nat} (e:vs[j]?=none):xs.toArray[j]?=none:=by
 have:=List.getElem?_eq_none_iff.mp e
 have h2:=r.length
 simp
 omega
theorem zel (k:Ok X fs m σ s) {src:Src}{I:Addr}{j:Nat} (it:zcu X m s.heap src I j) (as:Aside X fs m s.heap I) (hh:A.handled=none) {r:Option V} (e:zef σ src j=some r) {Q:Option Value→Shared→Prop}
  (h1:∀ v val h' tk,r=some v→Heap.ExtBut I s.heap h'→Rep X.F m h' val v→zcu X m h' src I (j+1)→(∃ o,h'.get? I=some o∧¬ zaL o)→Q (some val) { s with heap:=h',toks:=tk })
  (h2:∀ h' tk,r=none→Heap.ExtBut I s.heap h'→Q none { s with heap:=h',toks:=tk }):wpAny (model X.prog X.w) A (pyNext (.ref I)) Q E s:=by
 refine zao as.ex fun oI eI fI=>?_
 have kt:∀ {h':Heap},Heap.ExtBut I s.heap h'→zb2 s.heap h':=fun hk b ob eb fb=>hk b ob (fun q=>by subst q; rw[eI] at eb; have ee:=Option.some.inj eb; clear eb; subst ee; exact fI fb) eb
 induction src using Lake.Src.casesOn with
 | fixed vs=>
  have e:some vs[j]?=some r:=e
  have e:=Option.some.inj e
  rcases it with ⟨a,xs,n,e1,r1,it⟩ | ⟨n,rfl,it⟩
  ·have hT:s.heap.IsTuple a xs.toArray:=⟨_,e1,rfl,_,rfl⟩
   have hne:a≠I:=fun q=>by subst q; rw[eI] at e1; have ee:=Option.some.inj e1; clear e1; subst ee; exact fI (.inl ⟨rfl,_,_,rfl⟩)
   induction r using Option.casesOn with
   | some v=>
    refine zao (r1.get j e) fun x hx rx=>?_
    refine wpAny_pyNext_tuple_item it hT (x:=x) (by simpa using hx) fun h' hit' hs'=>?_
    refine zb8 (id hit') fun o' b1 b2 b3=>?_
    exact h1 v x h' s.toks rfl hs'.extBut (rx.ext List.prefix_rfl (kt hs'.extBut)) (.inl ⟨a,xs,n,hs'.extBut a _ hne e1,r1.ext List.prefix_rfl (kt hs'.extBut),hit'⟩) ⟨o',b1,zaS (T:="tuple_iterator") (by decide) b2⟩
   | none=>exact wpAny_pyNext_tuple_end hh it hT (zhW r1 e) fun h' hs'=>h2 h' s.toks rfl hs'
  ·induction r using Option.casesOn with
   | some v=>
    have hj:j < n:=by
     obtain⟨hl,_⟩:=List.getElem?_eq_some_iff.mp e
     simpa using hl
    have hv:v=.int (j:Nat):=by
     rw[List.getElem?_map,List.getElem?_range hj] at e
     exact(Option.some.inj e).symm
    subst hv
    refine wpAny_pyNext_range_item it (by omega) fun h' hit' hs'=>?_
    have e1:(((j+1:Nat)):Int)=(j:Int)+1:=by rfl
    have e2:(n:Int)-((j+1:Nat):Int)=(n:Int)-(j:Nat)-1:=by omega
    refine h1 _ _ h' _ rfl hs'.extBut (.int _ _) (.inr ⟨n,rfl,?_⟩) ⟨_,hit',zaS (T:="range_iterator") (by decide) rfl⟩
    rw[e1]
    rw[show(n:Int)-((j:Int)+1)=(n:Int)-(j:Nat)-1 by assumption]
    exact hit'
   | none=>
    have hj:n≤j:=by simpa using List.getElem?_eq_none_iff.mp e
    exact wpAny_pyNext_range_end hh it (by omega) fun h' hs'=>h2 h' s.toks rfl hs'
 | cell kk=>
  refine zao it ?_
  clear it
  intro p hp it
  have e:(match σ[kk]? with
   | some (.list vs)=>match Nat.ble vs.length LIM with
    | true=>some vs[j]?
    | false=>none
   | _=>none)=some r:=e
  split at e
  ·rename_i vs hv
   split at e
   ·have e:=Option.some.inj e
    have C1:=k.sto.rep kk p (.list vs) hp hv
    obtain⟨hfp,xs,n,e1,r1⟩:=C1
    have hM:Mut m p.1:=⟨p,zai hp,(k.sto.own p (zai hp)).1⟩
    have hne:p.1≠I:=fun q=>as.nm (q▸hM)
    induction r using Option.casesOn with
    | some v=>
     refine zao (r1.get j e) fun x hx rx=>?_
     refine wpAny_pyNext_list_item it (zaI e1) (x:=x) (by simpa using hx) fun h' hit' hs'=>?_
     refine zb8 (id hit') fun o' b1 b2 b3=>?_
     exact h1 v x h' s.toks rfl hs'.extBut (rx.ext List.prefix_rfl (kt hs'.extBut)) ⟨p,hp,hit'⟩ ⟨o',b1,zaS (T:="list_iterator") (by decide) b2⟩
    | none=>exact wpAny_pyNext_list_end hh it (zaI e1) (zhW r1 e) fun h' hs'=>h2 h' s.toks rfl hs'
   ·exact zaA e
  ·exact zaA e
theorem zcu.ext {src:Src}{I:Addr}{j:Nat} (it:zcu X m h src I j) (p:m <+: m') (kt:zb2 h h') (hI:∀ o,h.get? I=some o→h'.get? I=some o):zcu X m' h' src I j:=by
 induction src using Lake.Src.casesOn with
 | fixed vs=>
  rcases it with ⟨a,xs,n,e1,r1,o,b1,b2⟩ | ⟨n,rfl,it⟩
  ·exact .inl ⟨a,xs,n,kt _ _ e1 (.inl ⟨rfl,_,_,rfl⟩),r1.ext p kt,o,hI _ b1,b2⟩
  ·exact .inr ⟨n,rfl,hI _ it⟩
 | cell kk=>
  refine zao it ?_
  clear it
  intro q hq rst
  refine zao rst ?_
  clear rst
  intro o b1 b2
  exact⟨q,zcD p hq,o,hI _ b1,b2⟩
end
end
section
open W Calls PyProof.Rows
noncomputable def zcd (cells:List (Str×Addr)):List (Str×NameKind)→List (Str×Addr)→List (Str×Addr)
 | [],acc=>acc
 | (n,k)::r,acc=>if k == .free then(match cells.lookup n with
  | some c=>zcd cells r ((n,c)::acc)
  | none=>zcd cells r acc) else zcd cells r acc
theorem zkG {env:PySem.Env}{scope:Scope} (h:∀ x∈scope.names,x.2=.free→∃ c,env.cells.lookup x.1=some c):closureFor scope env=pure (zcd env.cells scope.names []):=by
 have key:∀ (names:List (Str×NameKind)) (acc:List (Str×Addr)),(∀ x∈names,x.2=.free→∃ c,env.cells.lookup x.1=some c) →
   (forIn names acc fun(x:Str×NameKind) (r:List (Str×Addr))=>(match x with
    | (name,kind)=>if(kind == NameKind.free)=true then do
      let c ← cellOf env name
      pure (ForInStep.yield ((name,c)::r))
     else pure (ForInStep.yield r):Sem (ForInStep (List (Str×Addr)))))=pure (zcd env.cells names acc):=by
  intro names
  induction names with
  | nil=>intro acc _; rfl
  | cons x r ih=>
   intro acc hx
   obtain⟨n,k⟩:=x
   rw[List.forIn_cons]
   by_cases hk:k=.free
   ·subst hk
    obtain⟨c,hc⟩:=hx (n,.free) (List.mem_cons_self ..) rfl
    have e:zcd env.cells ((n,.free)::r) acc=zcd env.cells r ((n,c)::acc):=by
     show(if(NameKind.free == NameKind.free)=true then(match env.cells.lookup n with
      | some c=>zcd env.cells r ((n,c)::acc)
      | none=>zcd env.cells r acc) else _)=_
     rw[if_pos (by decide)]
     have hc:env.cells.lookup n=some c:=hc
     refine hc.symm▸?_
     with_reducible rfl
    refine e.symm▸?_
    refine(ih ((n,c)::acc) fun y hy=>hx y (List.mem_cons_of_mem _ hy))▸?_
    have hco:cellOf env n=pure c:=by
     unfold cellOf
     have hc:env.cells.lookup n=some c:=hc
     refine hc.symm▸?_
     with_reducible rfl
    simp only[show(NameKind.free == NameKind.free)=true by decide,if_true,hco]
    rfl
   ·have e:zcd env.cells ((n,k)::r) acc=zcd env.cells r acc:=by
     show(if(k == NameKind.free)=true then _ else _)=_
     rw[if_neg (by simpa using hk)]
    refine e.symm▸?_
    refine(ih acc fun y hy=>hx y (List.mem_cons_of_mem _ hy))▸?_
    have:(k == NameKind.free)=false:=by simpa using hk
    simp only[this,Bool.false_eq_true,if_false]
    rfl
 simp only[closureFor]
 have:=key scope.names [] h
 rw[show(forIn scope.names ([]:List (Str×Addr)) fun(x:Str×NameKind) (r:List (Str×Addr))=>(match x with
    | (name,kind)=>if(kind == NameKind.free)=true then do
      let c ← cellOf env name
      pure (ForInStep.yield ((name,c)::r))
     else pure (ForInStep.yield r):Sem (ForInStep (List (Str×Addr)))))=pure (zcd env.cells scope.names []) from this] 
 rfl
theorem zdq {cells:List (Str×Addr)}:∀ {names:List (Str×NameKind)}{acc:List (Str×Addr)},(∀ y c,acc.lookup y=some c→cells.lookup y=some c)→∀ y c,(zcd cells names acc).lookup y=some c→cells.lookup y=some c
 | [],acc,h=>h
 | (n,k)::r,acc,h=>by
  unfold zcd
  split
  ·split
   ·rename_i c hc
    refine zdq fun y c' hy=>?_
    rw[List.lookup_cons] at hy
    split at hy
    ·rename_i q
     have:y=n:=by exact of_decide_eq_true q
     subst this
     have ee:=Option.some.inj hy; clear hy; subst ee; exact hc
    ·exact h y c' hy
   ·exact zdq h
  ·exact zdq h
theorem zcN {cells:List (Str×Addr)}{y:Str}{c:Addr} (hy:cells.lookup y=some c):∀ {names:List (Str×NameKind)}{acc:List (Str×Addr)},(acc.lookup y=some c∨(y,.free)∈names)→(zcd cells names acc).lookup y=some c
 | [],acc,h=>by refine Or.elim h ?_ ?_; clear h; intro h; rotate_left; clear h; intro h; rotate_left; exact h; cases h
 | (n,k)::r,acc,h=>by
  unfold zcd
  by_cases hk:k=.free
  ·subst hk
   rw[if_pos (by decide)]
   by_cases hn:n=y
   ·subst hn
    refine hy.symm▸?_
    exact zcN hy (.inl (by rw[List.lookup_cons]; simp))
   ·have hb:(y == n)=false:=by simpa using fun q:y=n=>hn q.symm
    split
    ·refine zcN hy ?_
     refine Or.elim h ?_ ?_
     clear h
     intro h
     rotate_left
     clear h
     intro h
     rotate_left
     ·exact .inl (by rw[List.lookup_cons,hb]; exact h)
     ·refine Or.elim (List.mem_cons.mp h) ?_ ?_
      intro h
      rotate_left
      intro h
      rotate_left
      ·cases h; exact absurd rfl hn
      ·exact .inr h
    ·refine zcN hy ?_
     refine Or.elim h ?_ ?_
     clear h
     intro h
     rotate_left
     clear h
     intro h
     rotate_left
     ·exact .inl h
     ·refine Or.elim (List.mem_cons.mp h) ?_ ?_
      intro h
      rotate_left
      intro h
      rotate_left
      ·cases h; exact absurd rfl hn
      ·exact .inr h
  ·rw[if_neg (by simpa using hk)]
   refine zcN hy ?_
   refine Or.elim h ?_ ?_
   clear h
   intro h
   rotate_left
   clear h
   intro h
   rotate_left
   ·exact .inl h
   ·refine Or.elim (List.mem_cons.mp h) ?_ ?_
    intro h
    rotate_left
    intro h
    rotate_left
    ·cases h; exact absurd rfl hk
    ·exact .inr h

theorem zob {sc sc':Scope}{x:Str} (hn:∀ y∈sc'.names,y.2≠.cell) (h:(zko sc sc').names.lookup x=some .cell):(x,NameKind.free)∈sc'.names:=by
 have key:∀ (names:List (Str×NameKind)),(∀ y∈names,y.2≠.cell)→(names.map fun(p:Str×NameKind)=>match p with | (n,k)=>if(k == .free&&sc.kind == .function&&sc.names.lookup n == some .cell)=true then(n,NameKind.cell) else(n,k)).lookup x=some .cell→(x,NameKind.free)∈names:=by
  intro names
  induction names with
  | nil=>intro _ h; exact zaA h
  | cons p r ih=>
   intro hn h
   obtain⟨n,k⟩:=p
   replace h:=List.map_cons▸h
   dsimp only at h
   by_cases hc:(k == .free&&sc.kind == .function&&sc.names.lookup n == some .cell)=true
   ·replace h:=(if_pos hc)▸h
    have hk:k=.free:=by
     simp only[Bool.and_eq_true,beq_iff_eq] at hc; exact hc.1.1
    subst hk
    rw[List.lookup_cons] at h
    split at h
    ·rename_i q
     have:x=n:=by exact of_decide_eq_true q
     subst this
     exact List.mem_cons_self ..
    ·exact List.mem_cons_of_mem _ (ih (fun y hy=>hn y (List.mem_cons_of_mem _ hy)) h)
   ·replace h:=(if_neg hc)▸h
    rw[List.lookup_cons] at h
    split at h
    ·have ee:=Option.some.inj h
     clear h
     subst ee
     exact absurd rfl (hn (n,.cell) (List.mem_cons_self ..))
    ·exact List.mem_cons_of_mem _ (ih (fun y hy=>hn y (List.mem_cons_of_mem _ hy)) h)
 exact key sc'.names hn h

section
variable {X:Stat}{fs:List PySem.Env}{m m':AM}{σ σ':List C}{s s':Shared}{A:Around}{E:Value→Shared→Prop}{vars:List (List Nat)}{env:PySem.Env}{ρ:Env}{h h':Heap}

theorem zjG:∀ {cap:List Nat}{l:List (List Nat)}{ρ':Env},zbc vars cap=some l→zeD ρ cap=some ρ'→l.length=ρ'.length∧∀ (i:Nat) (x:List Nat) (o:Option V),l[i]?=some x→ρ'[i]?=some o→∃ (j:Nat) (v:V),vars[j]?=some x∧ρ[j]?=some (some v)∧o=some v
 | [],l,ρ',h1,h2=>by
  have ee:=Option.some.inj h1; clear h1; subst ee; have ee:=Option.some.inj h2; clear h2; subst ee
  exact⟨rfl,fun i x o h=>by simp at h⟩
 | j::r,l,ρ',h1,h2=>by
  have h1:(match vars[j]?,zbc vars r with
   | some x,some l=>some (x::l)
   | _,_=>none)=some l:=h1
  have h2:(match ρ[j]? with
   | some (some v)=>match zeD ρ r with
    | some l=>some (some v::l)
    | none=>none
   | _=>none)=some ρ':=h2
  split at h1
  ·rename_i x l' hx hl
   have ee:=Option.some.inj h1
   clear h1
   subst ee
   split at h2
   ·rename_i v hv
    split at h2
    ·rename_i ρ'' hr
     have ee:=Option.some.inj h2
     clear h2
     subst ee
     obtain⟨g1,g2⟩:=zjG hl hr
     refine⟨by simp[g1],fun i y o hy ho=>?_⟩
     cases i with
     | zero=>have ee:=Option.some.inj hy; clear hy; subst ee; have ee:=Option.some.inj ho; clear ho; subst ee; exact⟨j,v,hx,hv,rfl⟩
     | succ i=>exact g2 i y o hy ho
    ·exact zaA h2
   ·exact zaA h2
  ·exact zaA h1
theorem zeG {sc sc':Scope}:∀ {l:List (List Nat)},zdN sc sc' l=true→∀ x∈l,sc.names.lookup (zaa x)=some .cell∧sc'.names.lookup (zaa x)=some .cell
 | [],_=>fun x hx=>nomatch hx
 | y::r,h=>fun x hx=>by
  have h:((sc.names.lookup (zaa y) == some .cell)&&(sc'.names.lookup (zaa y) == some .cell)&&zdN sc sc' r)=true:=h
  simp only[Bool.and_eq_true,beq_iff_eq] at h
  refine Or.elim (List.mem_cons.mp hx) ?_ ?_
  intro nm
  subst nm
  rotate_left
  intro hx
  rotate_left
  ·exact h.1
  ·exact zeG h.2 x hx

theorem zoc (e:EnvOK X vars env ρ m h) {cap:List Nat}{l:List (List Nat)}{ρ':Env}{t:Str}{sc':Scope}{C:Addr}{lm:Str→Option Value}{val:Value}{v:V} (h1:zbc vars cap=some l) (h2:zeD ρ cap=some ρ') (h3:zdN env.scope (zko env.scope sc') l=true)
  (h5:sc'.names.lookup t=some .local) (h6:sc'.kind=.function) (h7:∀ y∈sc'.names,y.2≠.cell) (hns:h.Ns C lm) (hv:lm t=some val) (hr:Rep X.F m h val v) (hC:¬ Mut m C) :
  EnvOK X (l++[t.cps.toList]) (compEnvC sc' (zcd env.cells sc'.names []) C env) (ρ'++[some v]) m h:=by
 refine zaW (zjG h1 h2) fun c1 c2=>?_
 refine⟨h6,e.glob,e.bui,by simp[c1],hC,fun x y c hx hy=>?_,lm,hns,fun i x o hx ho=>?_⟩
 ·exact e.inj x y c (zdq (fun ua ub q=>by exact zaA q) x c hx) (zdq (fun ua ub q=>by exact zaA q) y c hy)
 ·by_cases hi:i < l.length
  ·replace hx:=(List.getElem?_append_left hi)▸hx
   replace ho:=(List.getElem?_append_left (c1▸hi))▸ho
   refine zc0 (c2 i x o hx ho) fun j u g1 g2 ee0=>?_
   subst ee0
   refine zaW (zeG h3 x (List.mem_of_getElem? hx)) fun q1 q2=>?_
   refine zao e.vars fun lm0 hns0 hvars=>?_
   have w:=hvars j x _ g1 g2
   unfold zcE at w ⊢
   replace w:=q1▸w
   refine(show(compEnvC sc' (zcd env.cells sc'.names []) C env).scope.names.lookup (zaa x)=some .cell from q2).symm▸?_
   refine ztn w ?_
   clear w
   intro c v₀ a1 a2 a3 a4 a5
   refine ztC c (v₀) (zcN a1 (.inr (zob h7 q2))) a2 a3 (fun q=>?_) a5
   refine zao a2 ?_
   clear a2
   intro oc b1 b2
   refine zdb hns ?_
   clear hns
   intro o2 es ep d1 d2 _
   have q:c=C:=q
   replace b1:=q▸b1
   replace b1:=d1▸b1
   have ee:=Option.some.inj b1
   clear b1
   subst ee
   replace b2:=d2▸b2; cases b2
  ·have hi':i=l.length:=by
    have:=(List.getElem?_eq_some_iff.mp hx).1
    simp at this
    omega
   subst hi'
   rw[List.getElem?_append_right (Nat.le_refl _),Nat.sub_self] at hx
   rw[c1,List.getElem?_append_right (Nat.le_refl _),Nat.sub_self] at ho
   have ee:=Option.some.inj hx; clear hx; subst ee; have ee:=Option.some.inj ho; clear ho; subst ee
   unfold zcE
   refine(show zaa t.cps.toList=t from by cases t; rfl).symm▸?_
   refine(show(compEnvC sc' (zcd env.cells sc'.names []) C env).scope.names.lookup t=some .local from lookup_relabel_local h5).symm▸?_
   exact fun u hu=>by have ee:=Option.some.inj hu; clear hu; subst ee; exact zc1 val hv hr

structure CompSt (X:Stat) (fs:List PySem.Env) (vars:List (List Nat)) (env:PySem.Env) (ρ:Env) (mb:AM) (sb:Shared) (f:V→List C→R V) (src:Src) (us:List V) (σe:List C) (I D Cc:Addr) (n:Nat) (s:Shared):Prop where
 st:∃ j m σ done rest ys nD lm,Ext mb m sb.heap s.heap∧zc2 sb s∧Ok X fs m σ s∧zch f src n j σ=.ok rest σe∧us=done++rest ∧
  s.heap.get? D=some (zdh ys nD)∧Reps X.F m s.heap ys done∧Aside X fs m s.heap D∧Aside X fs m s.heap Cc∧Aside X fs m s.heap I∧s.heap.Ns Cc lm∧zcu X m s.heap src I j∧EnvOK X vars env ρ m s.heap

theorem zem {a:Addr}{xs:List Value}{n:Nat} (e:h.get? a=some (zdh xs n)):∀ v,¬ h.IsCell a v:=fun v ww=>zao ww fun o h1 h2=>by rw[e] at h1; have ee:=Option.some.inj h1; clear h1; subst ee; cases h2
theorem zd5 {a:Addr}{lm:Str→Option Value} (e:h.Ns a lm):∀ v,¬ h.IsCell a v:=fun v ww=>zao ww fun o h1 h2=>by
 refine zdb e ?_
 clear e
 intro o2 es ep d1 d2 _
 replace h1:=d1▸h1; have ee:=Option.some.inj h1; clear h1; subst ee; replace h2:=d2▸h2; cases h2
theorem zbd {src:Src}{I:Addr}{j:Nat} (it:zcu X m h src I j):∀ v,¬ h.IsCell I v:=fun v ww=>zao ww fun o h1 h2=>by
 induction src using Lake.Src.casesOn with
 | fixed vs=>
  rcases it with ⟨a,xs,n,e1,r1,o',b1,b2,b3⟩ | ⟨n,rfl,it⟩
  ·replace h1:=b1▸h1; have ee:=Option.some.inj h1; clear h1; subst ee; replace h2:=b3▸h2; cases h2
  ·unfold IsRangeIter at it; replace h1:=it▸h1; have ee:=Option.some.inj h1; clear h1; subst ee; cases h2
 | cell kk=>
  refine zao it ?_
  clear it
  intro q hq rst
  refine zb8 rst ?_
  clear rst
  intro o' b1 b2 b3
  replace h1:=b1▸h1; have ee:=Option.some.inj h1; clear h1; subst ee; replace h2:=b3▸h2; cases h2

theorem Ext.but {mb:AM}{hb:Heap}{a:Addr} (x:Ext mb m hb h) (hk:Heap.ExtBut a h h') (h0:hb.get? a=none):Ext mb m hb h':=
 ⟨x.pre,fun b ob eb nb=>hk b ob (fun q=>by subst q; rw[h0] at eb; exact zaA eb) (x.keep b ob eb nb),x.fresh⟩
theorem Aside.set {a:Addr} (x:Aside X fs m h a) {o:Obj} (e:h'.get? a=some o) (hf:¬ zaL o):Aside X fs m h' a:=⟨x.nm,x.nb,x.nf,o,e,hf⟩
theorem Aside.keep {a:Addr} (x:Aside X fs m h a) (hk:Heap.ExtBut a h h'):zb2 h h':=fun b ob eb fb=>by
 refine zao x.ex fun o e1 f1=>?_
 exact hk b ob (fun q=>by subst q; rw[e1] at eb; have ee:=Option.some.inj eb; clear eb; subst ee; exact f1 fb) eb
variable {prim:Bool}{lo:Lo}{n:Nat}
set_option tactic.hygienic true in
theorem zl5 (L:LoOK X lo prim n) (lim:Lim prim A n) (hfr:A.frames=some fs) {elt:Lake.E}{e:Expr}{t:Str}{tp p:Pos}{iter:Expr}{sc':Scope}{l:List (List Nat)}{cap:List Nat}{ρ':Env}{us:List V}{σe:List C}{I D Cc:Addr}{mb:AM}{sb:Shared}{src:Src}
  (h1:zbc vars cap=some l) (h2:zeD ρ cap=some ρ') (hok:okE X.T (l++[t.cps.toList]) (zko env.scope sc') elt e=true) (h3:zdN env.scope (zko env.scope sc') l=true) (h5:sc'.names.lookup t=some .local) (h6:sc'.kind=.function) (h7:∀ y∈sc'.names,y.2≠.cell)
  (hus:us.length≤LIM) (hI0:sb.heap.get? I=none) (hD0:sb.heap.get? D=none) (hC0:sb.heap.get? Cc=none) (hDC:D≠Cc) (hDI:D≠I) (hCI:Cc≠I) (eDC:env.locals≠Cc) (eDD:env.locals≠D) (eDI:env.locals≠I) {R:Result→Shared→Prop}
  (hend:∀ m1 s1 ys nD lm,Ext mb m1 sb.heap s1.heap→zc2 sb s1→Ok X fs m1 σe s1→s1.heap.get? D=some (zdh ys nD)→Reps X.F m1 s1.heap ys us→Aside X fs m1 s1.heap D→Aside X fs m1 s1.heap Cc→s1.heap.Ns Cc lm→EnvOK X vars env ρ m1 s1.heap→R (.ok .next) s1)
  {N:Nat} (hst:CompSt X fs vars env ρ mb sb (fun v σ'=>lo.ex elt (ρ'++[some v]) σ') src us σe I D Cc N s) :
  codeAny (model X.prog X.w) A (.compLoop (.ListComp e [⟨.Name t tp,iter,[],0⟩] sc' p) 0 (.ref I) (.ref D) (compEnvC sc' (zcd env.cells sc'.names []) Cc env)) R s:=by
 refine codeAny_compLoop_list (CompSt X fs vars env ρ mb sb (fun v σ'=>lo.ex elt (ρ'++[some v]) σ') src us σe I D Cc) (fun N s hst=>?_) N hst
 refine zpB hst.st fun j m σ done rest ys nD lm x y k hc hu hD rD aD aC aI hns it eo=>?_
 induction N using Nat.casesOn with
 | zero=>cases hc
 | succ N=>
  unfold zch at hc
  split at hc
  ·rename_i v hsrc
   split at hc
   ·rename_i u σ1 hf
    split at hc
    ·rename_i us' σ2 hc'
     cases hc
     refine zel k it aI lim.hand hsrc (fun v' val ha tka hv hka ra ita exa=>?_) (fun ha tka hv ua=>by exact zhy hv)
     have ee:=Option.some.inj hv
     clear hv
     subst ee
     refine zao aI.ex fun oI eI fI=>?_
     have kt:∀ {h':Heap},Heap.ExtBut I s.heap h'→zb2 s.heap h':=fun hk b ob eb fb=>hk b ob (fun q=>by subst q; replace eb:=eI▸eb; have ee:=Option.some.inj eb; clear eb; subst ee; exact fI fb) eb
     have ka:=k.but aI hka tka
     have hDa:=hka D _ hDI hD
     have nsa:ha.Ns Cc lm:=hns.at' fun o e=>hka Cc o hCI e
     have aDa:=aD.but hka hDI
     have aCa:=aC.but hka hCI
     have eoa:=eo.but (kt hka) hka eDI (zbd it)
     have rDa:=rD.ext List.prefix_rfl (kt hka)
     have aIa:Aside X fs m ha I:=by refine zao exa ?_; clear exa; intro o q1 q2; exact aI.set q1 q2
     have xa:Ext mb m sb.heap ha:=x.but hka hI0
     refine wpAny_assign_Name (wpAny_storeName_local (env:=compEnvC sc' (zcd env.cells sc'.names []) Cc env) (lookup_relabel_local h5) nsa (fun hb' nsb hkb=>?_) (by simp[compEnvC,relabel,h6]))
     have hkb:Heap.ExtBut Cc ha hb':=hkb.extBut
     have aCb:Aside X fs m hb' Cc:=by
      refine zdb nsb ?_
      clear nsb
      intro o2 es ep d1 d2 _
      exact aCa.set d1 (by rintro(⟨_,xs,nn,q⟩ | ⟨_,ff,q⟩) <;> (replace q:=d2▸q; cases q))
     have kb:=ka.but aCa hkb (tka+1)
     have eob:=eoa.but (aCa.keep hkb) hkb eDC (zd5 nsa)
     have rb:=ra.ext List.prefix_rfl (aCa.keep hkb)
     have ce:=zoc eob h1 h2 h3 h5 h6 h7 nsb (by simp) rb aCb.nm
     have hfine:zbh (lo.ex elt (ρ'++[some v]) σ):=by refine hf.symm▸?_; exact zdp _ _
     refine wpAny_mono (L.ex (s:={ s with heap:=hb',toks:=tka+1 }) hok ce kb lim hfr hfine) (fun val2 s3 ⟨u',σ',e',m3,x3,k3,y3,r3⟩=>?_) (fun xx s3 ww=>zaW ww fun e' ua=>by replace e':=hf▸e'; cases e')
     replace e':=hf▸e'
     cases e'
     have xb:Ext mb m sb.heap hb':=xa.but hkb hC0
     have hDb:=hkb D _ hDC hDa
     have aDb:Aside X fs m hb' D:=aDa.but hkb hDC
     have hDc:=x3.keep _ _ hDb aDb.nm
     have kt3:=kb.sto.keepT x3
     have rDc:=(rDa.ext List.prefix_rfl (aCa.keep hkb)).ext x3.pre kt3
     have aDc:Aside X fs m3 s3.heap D:=Aside.ext (s:={ s with heap:=hb',toks:=tka+1 }) aDb x3
     have hlen:ys.length≤LIM:=by
      have:=rD.length
      replace hus:=hu▸hus
      simp at hus
      omega
     refine wpAny_list_append_plain (items:=ys.toArray) ⟨nD,hDc⟩ (fun hd hl hs=>?_) (by refine List.size_toArray.symm▸?_; refine sizeLine_eq.symm▸?_; unfold LIM at hlen; exact Nat.le_trans ‹_› (by decide))
     refine zaF hl ?_
     clear hl
     intro nD' hDd
     rw[List.push_toArray] at hDd
     have hkd:Heap.ExtBut D s3.heap hd:=hs.extBut
     have aIc:Aside X fs m3 s3.heap I:=Aside.ext (s:={ s with heap:=hb',toks:=tka+1 }) (aIa.but hkb (Ne.symm hCI)) x3
     have aCc:Aside X fs m3 s3.heap Cc:=Aside.ext (s:={ s with heap:=hb',toks:=tka+1 }) aCb x3
     have nsc:s3.heap.Ns Cc _:=nsb.at' fun o e=>x3.keep Cc o e aCb.nm
     have kd:=k3.but aDc hkd s3.toks
     have itb:=ita.ext (m':=m) List.prefix_rfl (aCa.keep hkb) fun o e=>hkb I o (Ne.symm hCI) e
     have itc:=itb.ext x3.pre kt3 fun o e=>x3.keep I o e (aIa.but hkb (Ne.symm hCI)).nm
     have itd:=itc.ext (m':=m3) List.prefix_rfl (aDc.keep hkd) fun o e=>hkd I o (Ne.symm hDI) e
     have eoc:EnvOK X vars env ρ m3 s3.heap:=EnvOK.ext (s:={ s with heap:=hb',toks:=tka+1 }) eob kb x3
     refine zc1 N (Nat.lt_succ_self _) (⟨j+1,m3,σ1,done++[u],us',ys++[val2],nD',_,(xb.trans x3).but hkd hD0,?_,kd,hc',by refine hu.symm▸?_; simp,hDd,?_,aDc.set hDd (zay _ _),aCc.but hkd (Ne.symm hDC),aIc.but hkd (Ne.symm hDI),nsc.at' (fun o e=>hkd Cc o (Ne.symm hDC) e),itd,?_⟩)
     ·exact y.trans (zc2.trans ⟨rfl,rfl,rfl⟩ (y3.trans ⟨rfl,rfl,rfl⟩))
     ·exact(rDc.append (.one r3)).ext List.prefix_rfl (aDc.keep hkd)
     ·exact eoc.but (aDc.keep hkd) hkd eDD (zem hDc)
    ·cases hc
   ·cases hc
  ·rename_i hsrc
   cases hc
   refine zel k it aI lim.hand hsrc (fun v' val ha tka hv=>by exact zaA hv) (fun ha tka ua hka=>?_)
   have hu':us=done:=by refine hu.symm▸?_; exact List.append_nil _
   have ka:=k.but aI hka tka
   refine hend m { s with heap:=ha,toks:=tka } ys nD lm (x.but hka hI0) (y.trans ⟨rfl,rfl,rfl⟩) ka (hka D _ hDI hD) ?_ (aD.but hka hDI) (aC.but hka hCI) (hns.at' fun o e=>hka Cc o hCI e) (eo.but (aI.keep hka) hka eDI (zbd it))
   refine hu'.symm▸?_
   exact rD.ext List.prefix_rfl (aI.keep hka)
  ·cases hc

theorem zl6 {src:Src}{I:Addr}{j:Nat} (it:zcu X m s.heap src I j) {Q:Value→Shared→Prop} (h:Q (.ref I) s) {prog:Program}{w:World}:wpAny (model prog w) A (pyIter (.ref I)) Q E s:=by
 induction src using Lake.Src.casesOn with
 | fixed vs=>
  refine Or.elim it ?_ ?_
  clear it
  intro nm
  refine zdb nm ?_
  clear nm
  intro a xs n e1 r1 it
  rotate_left
  clear it
  intro nm
  refine zao nm ?_
  clear nm
  intro n ee0 it
  subst ee0
  rotate_left
  ·exact wpAny_pyIter_tupleiter it h
  ·exact wpAny_pyIter_rangeiter it h
 | cell kk=>
  refine zao it ?_
  clear it
  intro q hq it
  exact wpAny_pyIter_listiter it h

theorem zgt (L:LoOK X lo prim n) (lim:Lim prim A n) (hfr:A.frames=some fs) {elt:Lake.E}{e:Expr}{t:Str}{tp p:Pos}{iter:Expr}{sc':Scope}{l:List (List Nat)}{cap:List Nat}{ρ':Env}{us:List V}{σe:List C}{I:Addr}{sb:Shared}{src:Src}
  (h1:zbc vars cap=some l) (h2:zeD ρ cap=some ρ') (hok:okE X.T (l++[t.cps.toList]) (zko env.scope sc') elt e=true) (h3:zdN env.scope (zko env.scope sc') l=true) (h5:sc'.names.lookup t=some .local) (h6:sc'.kind=.function) (h7:∀ y∈sc'.names,y.2≠.cell)
  (hus:us.length≤LIM) (kb:Ok X fs m σ sb) (eo:EnvOK X vars env ρ m sb.heap) (hst:sb.heap.StaysIn s.heap) (hy:zc2 sb s) (hI0:sb.heap.get? I=none) (it:zcu X m s.heap src I 0) (hIe:∃ o,s.heap.get? I=some o∧¬ zaL o)
  (hc:zch (fun v σ'=>lo.ex elt (ρ'++[some v]) σ') src zbb 0 σ=.ok us σe) {RR:Value→Addr→Result→Shared→Prop}
  (hend:∀ D Cc m1 s1 ys nD lm,Ext m m1 sb.heap s1.heap→zc2 sb s1→Ok X fs m1 σe s1→s1.heap.get? D=some (zdh ys nD)→Reps X.F m1 s1.heap ys us→Aside X fs m1 s1.heap D→Aside X fs m1 s1.heap Cc→s1.heap.Ns Cc lm→EnvOK X vars env ρ m1 s1.heap →
   sb.heap.get? D=none→sb.heap.get? Cc=none→D≠Cc→RR (.ref D) Cc (.ok .next) s1) :
  wpAny (model X.prog X.w) A (newList []) (fun acc s₃=>wpAny (model X.prog X.w) A (newFunctionEnv sc' env.globals (zcd env.cells sc'.names []) [] env.qual none .none (some env)) (fun cenv s₄=>
   codeAny (model X.prog X.w) A (.compStart (.ListComp e [⟨.Name t tp,iter,[],0⟩] sc' p) 0 (.ref I) acc { cenv with scope:=relabel sc' env }) (RR acc cenv.locals) s₄) E s₃) E s:=by
 refine wpAny_newObj_type (wpAny_newFunctionEnv h7 (by intro y hy; simp at hy) (fun h₁ hns₁ hsb₁=>?_) h6)
 dsimp only at hns₁ hsb₁ ⊢
 generalize hH2:s.heap.push { cls:=.type "list",dict:=none,data:=.seq ([]:List Value).toArray }=H2 at hns₁ hsb₁ ⊢
 have hC:H2.objs.size=s.heap.objs.size+1:=by rw[← hH2,Heap.size_push]
 have hDC:s.heap.objs.size≠H2.objs.size:=by refine hC.symm▸?_; exact Nat.ne_of_lt (Nat.lt_succ_self _)
 have old:∀ b o,s.heap.get? b=some o→h₁.get? b=some o:=fun b o e=>hsb₁.extBut b o (by refine hC.symm▸?_; exact Nat.ne_of_lt (Nat.lt_succ_of_lt (Heap.lt_size e))) (Heap.get?_push_of_some _ (hH2▸Heap.get?_push_of_some _ e))
 have hD:h₁.get? s.heap.objs.size=some (zdh [] 0):=hsb₁.extBut _ _ hDC (Heap.get?_push_of_some _ (hH2▸Heap.get?_push_size _ rfl))
 have hD0:sb.heap.get? s.heap.objs.size=none:=by
  induction q:sb.heap.get? s.heap.objs.size using Option.casesOn with
  | none=>rfl
  | some o=>have:=hst _ _ q; rw[zbD] at this; exact zaA this
 have hC0:sb.heap.get? H2.objs.size=none:=by
  induction q:sb.heap.get? H2.objs.size using Option.casesOn with
  | none=>rfl
  | some o=>have:=hst _ _ q; rw[zcJ _ (by rw[hC]; exact Nat.le_succ _)] at this; exact zaA this
 have hSI:∀ a,s.heap.get? a=none→a≠I:=fun a h0 q=>by
  refine zao hIe ?_
  clear hIe
  intro o e1 _
  replace h0:=q▸h0; replace h0:=e1▸h0; exact zhy h0
 have x1:Ext m m sb.heap h₁:=⟨List.prefix_rfl,fun b o e ua=>old b o (hst b o e),fun ua q=>.inl q⟩
 have k1:Ok X fs m σ { s with heap:=h₁,toks:=s.toks+([]:List (Str×Value)).length }:=(kb.ext (s':={ s with heap:=h₁,toks:=s.toks+([]:List (Str×Value)).length }) x1 (kb.sto.sub fun b o e=>old b o (hst b o e)))
 have aD:Aside X fs m h₁ s.heap.objs.size:=kb.aside_new hD0 hD (zay _ _)
 have aC:Aside X fs m h₁ H2.objs.size:=by
  refine zdb (id hns₁) fun o2 es ep d1 d2 ua=>?_
  exact kb.aside_new hC0 d1 (by rintro(⟨_,xs,nn,q⟩ | ⟨_,ff,q⟩) <;> (replace q:=d2▸q; cases q))
 have aI:Aside X fs m h₁ I:=by
  refine zao hIe ?_
  clear hIe
  intro o e1 e2
  exact kb.aside_new hI0 (old _ _ e1) e2
 have it1:zcu X m h₁ src I 0:=it.ext List.prefix_rfl (.of_sub old) fun o e=>old _ _ e
 have eo1:EnvOK X vars env ρ m h₁:=EnvOK.ext (s':={ s with heap:=h₁,toks:=0 }) eo kb x1
 have hloc:∀ a,sb.heap.get? a=none→env.locals≠a:=fun a h0 q=>by
  refine zao eo.vars fun lm nn0 ua=>?_
  refine zgT nn0 ?_
  clear nn0
  intro o2 es ep d1 _
  replace d1:=q▸d1; replace d1:=h0▸d1; exact zaA d1
 have loop:codeAny (model X.prog X.w) A (.compLoop (.ListComp e [⟨.Name t tp,iter,[],0⟩] sc' p) 0 (.ref I) (.ref s.heap.objs.size) (compEnvC sc' (zcd env.cells sc'.names []) H2.objs.size env))
   (RR (.ref s.heap.objs.size) H2.objs.size) { s with heap:=h₁,toks:=s.toks+([]:List (Str×Value)).length }:=by
  refine zl5 L lim hfr h1 h2 hok h3 h5 h6 h7 hus hI0 hD0 hC0 hDC (hSI _ (zbD _)) (hSI _ (zcJ _ (by refine hC.symm▸?_; exact Nat.le_succ _))) (hloc _ hC0) (hloc _ hD0) (hloc _ hI0)
   (fun m1 s1 ys nD lm a b c d e f g h i=>hend _ _ m1 s1 ys nD lm a b c d e f g h i hD0 hC0 hDC) (N:=zbb)
   ⟨0,m,σ,[],us,[],0,_,x1,hy.trans ⟨rfl,rfl,rfl⟩,k1,hc,rfl,hD,.nil,aD,aC,aI,hns₁,it1,eo1⟩
 exact codeAny_compStart_list loop (zl6 (s:={ s with heap:=h₁,toks:=s.toks+([]:List (Str×Value)).length }) it1 loop)
end

section
variable {X:Stat}{prim:Bool}{lo:Lo}{n:Nat}{env:PySem.Env}
theorem zdr {iter:Expr} (h:zhE iter=true) (x:Value):foldedSetIterable iter env x=pure x:=by
 induction iter using PySem.Expr.casesOn <;> first | (cases h; done) | rfl
set_option tactic.hygienic true in
theorem ze3 {vars:List (List Nat)}:∀ {cap:List Nat}{l:List (List Nat)},zbc vars cap=some l→∀ y∈l,∃ j:Nat,vars[j]?=some y
 | [],l,h,y,hy=>by have ee:=Option.some.inj h; clear h; subst ee; cases hy
 | j::r,l,h,y,hy=>by
  have h:(match vars[j]?,zbc vars r with
   | some x,some l=>some (x::l)
   | _,_=>none)=some l:=h
  split at h
  ·rename_i x l' hx hl
   have ee:=Option.some.inj h
   clear h
   subst ee
   refine Or.elim (List.mem_cons.mp hy) ?_ ?_
   intro nm
   subst nm
   rotate_left
   intro hy
   rotate_left
   ·exact⟨j,hx⟩
   ·exact ze3 hl y hy
  ·exact zaA h
theorem zgu {vars:List (List Nat)}{ρ:Env}{m:AM}{h:Heap}{sc':Scope}{l:List (List Nat)}{cap:List Nat} (e:EnvOK X vars env ρ m h) (h1:zbc vars cap=some l) (h3:zdN env.scope (zko env.scope sc') l=true)
  (h9:∀ x∈sc'.names,x.2=.free→∃ y∈l,x.1=zaa y):closureFor sc' env=pure (zcd env.cells sc'.names []):=zkG fun x hx hxf=>by
 refine zao (h9 x hx hxf) fun y hy hxy=>?_
 refine zaW (zeG h3 y hy) fun q1 q2=>?_
 refine zaF (ze3 h1 y hy) fun j hj=>?_
 have hl:j < ρ.length:=by refine e.len.symm▸?_; exact(List.getElem?_eq_some_iff.mp hj).1
 refine zao e.vars fun lm hns hv=>?_
 have w:=hv j y _ hj (List.getElem?_eq_getElem hl)
 unfold zcE at w
 replace w:=q1▸w
 refine zaZ w ?_
 clear w
 intro c v₀ a1 _
 refine hxy.symm▸?_
 exact⟨c,a1⟩
set_option tactic.hygienic true in
theorem zkH (F:Facts X) (L:LoOK X lo prim n) (cap:List Nat) (elt it:Lake.E) (hEit:PE X prim lo n it):PE X prim lo n (.comp cap elt it):=by
 intro pe fs A env vars ρ m σ s hok B hf
 refine zrs (zjz hok) fun e t tp iter sc' p l ee0 h0 h1 hok' h3 h4 h5 h6 h7 h8 h9=>?_
 subst ee0
 rw[eval_ListComp]
 refine wpAny_comprehension_free (use:=none) rfl (fun x=>zdr h8 x) (zgu B.e h1 h3 h9) h6 (fun x hx hl=>hl▸(h7 x hx).2) ?_
 refine zbA (.refl X m s) rfl hf (hEit h0 B) fun u σ1 m1 val s1 w x k ra hr ua=>?_
 have hf:=hr▸hf
 unfold zkl at hf hr
 split at hf
 ·rename_i src ρ' hsrc hcap
  split at hf
  ·rename_i us σ2 hcomp
   by_cases hl:us.length≤LIM
   ·rw[if_pos hl] at hf
    rw[hsrc,hcap] at hr
    dsimp only at hr
    rw[hcomp] at hr
    dsimp only at hr
    rw[if_pos hl] at hr
    refine zfx k ra hsrc fun I h' hst hI0 hit hIe=>?_
    refine zgt (s:={ s1 with heap:=h' }) (RR:=fun acc C=>compPost (model X.prog X.w) A _ none _ acc C) L B.l B.f h1 hcap hok' h3 h5 h6 (fun y hy=>(h7 y hy).1) hl k (B.on x k).e hst ⟨rfl,rfl,rfl⟩ hI0 hit hIe hcomp ?_
    intro D Cc m2 s2 ys nD lm x2 y2 k2 hD rD aD aC hns eo hD0 hC0 hDC
    refine zc1 lm hns (fun h'' hs''=>w.pv hr ?_)
    have k3:=k2.but aC hs''.extBut s2.toks
    have hD3:=hs''.extBut D _ hDC hD
    have hR:zf8 X (m2++[(D,[D])]) h'' (D,[D]) (.list us):=⟨rfl,ys,nD,hD3,(rD.ext List.prefix_rfl (aC.keep hs''.extBut)).ext (List.prefix_append ..) (fun ua ub e uc=>e)⟩
    exact zjB (s₁:={ s2 with heap:=h'' }) (o1:=zdh ys nD) (c0:=.list us) (c:=.list us) k k3 (x2.but hs''.extBut hC0) y2 hD0 aD.nm hD3 (zay _ _) hR
     (Heap.SameBut.refl ..) hD3 (zay _ _) (fun ua=>hR) s2.toks
   ·rw[if_neg hl] at hf; exact zab hf
  ·exact zab hf
 ·exact zab hf
end
end
section
open W Calls PyProof.Rows
section
variable {X:Stat} (F:Facts X) {prim:Bool}{lo:Lo}{n:Nat} (L:LoOK X lo prim n) (W:WFacts X) (P:PrimOK X prim)
include F L W P
mutual
theorem zbM:∀ e:E,PE X prim lo n e∧PT X prim lo n e
 | .c v=>⟨zuT F L W P v ,zvn F L W P v (zuT F L W P v )⟩
 | .x i=>⟨zuU F L W P i ,zvm F L W P i (zuU F L W P i )⟩
 | .g i=>⟨zvl F L W P i ,zvo F L W P i ⟩
 | .not a=>⟨zsf F L W P a (zbM a).1,zsq F L W P a (zbM a).2⟩
 | .bop kk es=>⟨zsg F L W P kk es (allEs es).2.1,zsr F L W P kk es (allEs es).2.2.1⟩
 | .ite t a b=>⟨zsh F L W P t a b (zbM t).2 (zbM a).1 (zbM b).1,zss F L W P t a b (zbM t).2 (zbM a).2 (zbM b).2⟩
 | .cmp op a b=>⟨zsi F L W P op a b (zbM a).1 (zbM b).1,zst F L W P op a b (zbM a).1 (zbM b).1⟩
 | .bin op a b=>⟨zsj F L W P op a b (zbM a).1 (zbM b).1,zsv F L W P op a b ⟩
 | .tup es=>⟨zsk F L W P es (allEs es).1,zsw F L W P es ⟩
 | .lst es=>⟨zsl F L W P es (allEs es).1,zsx F L W P es ⟩
 | .dict ks es=>⟨zqa F L W P ks es (allEs es).2.2.2,zqf F L W P ks es ⟩
 | .sub a i=>⟨zsm F L W P a i (zbM a).1 (zbM i).1,zsy F L W P a i ⟩
 | .sl a l h=>⟨zt5 F L W P a l h (zbM a).1 (zbM l).1 (zbM h).1,zt8 F L W P a l h ⟩
 | .attr a i=>⟨zqb F L W P a i ,zqg F L W P a i ⟩
 | .call f es=>⟨zl1 F L W P f es (allEs es).1,zqe F L W P f es (zl1 F L W P f es (allEs es).1)⟩
 | .bi b es=>⟨zt6 F L W P b es (allEs es).1,zt9 F L W P b es ⟩
 | .isi a t=>⟨zpe F L W P a t (zbM a).1,zsu F L W P a t (zpe F L W P a t (zbM a).1)⟩
 | .mth a mt es=>⟨zsn F L W P a mt es (zbM a).1 (allEs es).1,zsz F L W P a mt es ⟩
 | .wm a mt es=>⟨zso F L W P a mt es (allEs es).1,zt7 F L W P a mt es (zso F L W P a mt es (allEs es).1)⟩
 | .dget nn a d=>⟨zqc F L W P nn a d (zbM a).1,zqh F L W P nn a d ⟩
 | .vcall f es=>⟨zn7 F L W P f es (zbM f).1 (allEs es).1,zn9 F L W P f es ⟩
 | .newW a=>⟨zqd F L W P a (zbM a).1,zqi F L W P a ⟩
 | .range a=>⟨zn8 F L W P a (zbM a).1,zoa F L W P a ⟩
 | .comp cap elt it=>⟨zkH F L cap elt it (zbM it).1,zqj F L W P cap elt it ⟩
 | .bad =>⟨zsp F L W P  ,zsA F L W P  ⟩
theorem allEs:∀ es:Es,PEs X prim lo n es∧PBo X prim lo n es∧PTs X prim lo n es∧PPs X prim lo n es
 | .nil=>⟨zl2 F L W P,zsB F L W P,zl3 F L W P,zpf F L W P⟩
 | .cons e .nil=>⟨zjE F L W P e .nil (zbM e).1 (zl2 F L W P),zsC F L W P e (zbM e).1,zjF F L W P e .nil (zbM e).2 (zl3 F L W P),zl4 F L W P e .nil (zbM e).1 (zpf F L W P)⟩
 | .cons e (.cons e' es)=>⟨zjE F L W P e _ (zbM e).1 (allEs (.cons e' es)).1,zqk F L W P e e' es (zbM e).1 (allEs (.cons e' es)).2.1,zjF F L W P e _ (zbM e).2 (allEs (.cons e' es)).2.2.1,zl4 F L W P e _ (zbM e).1 (allEs (.cons e' es)).2.2.2⟩
end
end
end
section
open W Calls PyProof.Rows
theorem zgv {base h:Heap}{a:Addr} (k:base.StaysIn h) (e:h.get? a=none):base.get? a=none:=by
 induction q:base.get? a using Option.casesOn with
 | none=>rfl
 | some o=>rw[k a o q] at e; exact zhy e

section
variable {X:Stat}{fs outer:List PySem.Env}{m m' m₀:AM}{σ σ':List C}{s s' s₀:Shared}{A:Around}{E:Value→Shared→Prop}{vars:List (List Nat)}{env:PySem.Env}{ρ:Env}{h h':Heap}

theorem zen {base:Heap}{a:Addr} (hk:Heap.ExtBut a h h') {o':Obj} (e:h'.get? a=some o') (hf:∀ vs,o'.data≠.fields vs):∀ {l:List PySem.Env},h.FunFrames base l→h'.FunFrames base l
 | [],_=>trivial
 | e'::r,⟨hm,⟨L,o,h1,h2,h3,h4⟩,hr⟩=>by
  refine⟨hm,?_,zen hk e hf hr⟩
  by_cases q:L=a
  ·subst q; exact zo2 L o' h1 h2 e hf
  ·exact zo2 L o h1 h2 (hk L o q h3) h4
theorem Ok.one {a:Addr} (k:Ok X fs m σ s) (nm:¬ Mut m a) (nb:X.base.get? a=none) {o o':Obj} (e1:s.heap.get? a=some o) (f1:¬ zaL o) (hk:Heap.ExtBut a s.heap h') (e2:h'.get? a=some o') (f2:∀ vs,o'.data≠.fields vs) (tk:Nat):Ok X fs m σ { s with heap:=h',toks:=tk }:=by
 have kt:zb2 s.heap h':=fun b ob eb fb=>hk b ob (fun q=>by subst q; rw[e1] at eb; have ee:=Option.some.inj eb; clear eb; subst ee; exact f1 fb) eb
 exact⟨fun b ob eb=>hk b ob (fun q=>by subst q; rw[nb] at eb; exact zaA eb) (k.stays b ob eb),zen hk e2 f2 k.ff,k.prot,
  k.sto.calm kt fun b hb ob eb=>hk b ob (fun q=>nm (q▸hb)) eb⟩
theorem zbG {o:Obj} {es ep} (d:o.data=.dict es ep):¬ zaL o:=by
 rintro(⟨_,xs,nn,q⟩ | ⟨_,ff,q⟩) <;> (replace q:=d▸q; cases q)
theorem zcm {o:Obj}{v:Option Value} (d:o.data=.cell v):¬ zaL o:=by
 rintro(⟨_,xs,nn,q⟩ | ⟨_,ff,q⟩) <;> (replace q:=d▸q; cases q)

set_option tactic.hygienic true in
theorem zbQ {sc:Scope}{i:Nat}{x:Str} (h:zdl vars sc i x=true):∃ l,vars[i]?=some l∧x=zaa l∧(sc.names.lookup x=some .local∨sc.names.lookup x=some .cell):=by
 unfold zdl at h
 refine zaW (Bool.and_eq_true_iff.mp h) fun h1 h2=>?_
 split at h1
 ·rename_i l hl
  refine⟨l,hl,zdj.mp h1,?_⟩
  split at h2
  ·exact .inl ‹_›
  ·exact .inr ‹_›
  ·exact(Bool.false_ne_true h2).elim
 ·exact(Bool.false_ne_true h1).elim
theorem zsD (nd:(vars.map zaa).Nodup) {i j:Nat}{x y:List Nat} (hi:vars[i]?=some x) (hj:vars[j]?=some y) (h:zaa x=zaa y):i=j:=by
 have h1:(vars.map zaa)[i]?=some (zaa x):=by refine(List.getElem?_map).symm▸?_; refine hi.symm▸?_; rfl
 have h2:(vars.map zaa)[j]?=some (zaa x):=by refine(List.getElem?_map).symm▸?_; refine hj.symm▸?_; refine h.symm▸?_; rfl
 obtain⟨l1,_⟩:=List.getElem?_eq_some_iff.mp h1
 exact(List.getElem?_inj l1 nd).mp (h1.trans h2.symm)

theorem Sit.set (S:Sit X fs vars env m₀ s₀ ρ σ m s) {i:Nat}{l:List Nat}{v:V}{a:Addr}{tk:Nat}{lm lm':Str→Option Value} (hl:vars[i]?=some l) (hvars:∀ (i:Nat) (x:List Nat) (o:Option V),vars[i]?=some x→ρ[i]?=some o→zcE X env m s.heap lm (zaa x) o)
  (hkk:Heap.ExtBut a s.heap h') (hfr:s₀.heap.get? a=none) (kt:zb2 s.heap h') (k':Ok X fs m σ { s with heap:=h',toks:=tk }) (hn:h'.Ns env.locals lm') (hv:zcE X env m h' lm' (zaa l) (some v))
  (hlm:∀ y,y≠zaa l→lm' y=lm y) (hc:∀ y c v₀,y≠zaa l→env.cells.lookup y=some c→s.heap.IsCell c v₀→c≠env.locals→c≠a) :
  Sit X fs vars env m₀ s₀ (ρ.set i (some v)) σ m { s with heap:=h',toks:=tk }:=by
 refine⟨S.ext.but hkk hfr,k',S.same.trans ⟨rfl,rfl,rfl⟩,⟨S.eok.kind,S.eok.glob,S.eok.bui,by rw[List.length_set]; exact S.eok.len,S.eok.lnm,S.eok.inj,lm',hn,fun j y o hy ho=>?_⟩,S.fresh,S.base,S.nodup⟩
 by_cases hij:i=j
 ·subst hij
  have e:l=y:=Option.some.inj (hl.symm.trans hy)
  subst e
  have hil:i < ρ.length:=by rw[S.eok.len]; exact(List.getElem?_eq_some_iff.mp hl).1
  rw[List.getElem?_set_self hil] at ho
  exact Option.some.inj ho▸hv
 ·rw[List.getElem?_set_ne hij] at ho
  have hne:zaa y≠zaa l:=fun q=>hij (zsD S.nodup hl hy q.symm)
  exact(hvars j y o hy ho).gen List.prefix_rfl kt (hlm _ hne) fun c v₀ e q dm dl=>⟨let ⟨oc,p2,p3⟩:=q; ⟨oc,hkk c oc (hc _ c v₀ hne e q dl) p2,p3⟩,dm⟩
theorem zhX (S:Sit X fs vars env m₀ s₀ ρ σ m s) {i:Nat}{l:List Nat} (hl:vars[i]?=some l) (hk:env.scope.names.lookup (zaa l)=some .local) {val:Value}{v:V} (r:Rep X.F m s.heap val v) {M:Model}{Q:Unit→Shared→Prop}
  (hq:∀ s',Sit X fs vars env m₀ s₀ (ρ.set i (some v)) σ m s'→zb2 s.heap s'.heap→Heap.ExtBut env.locals s.heap s'.heap→(∀ lm,s.heap.Ns env.locals lm→s'.heap.Ns env.locals fun x=>if x=zaa l then some val else lm x)→Q () s'):wpAny M A (storeName env (zaa l) val) Q E s:=by
 refine zao S.eok.vars fun lm hns hvars=>?_
 refine wpAny_storeName_local hk hns (fun h' hn' hs'=>?_) (by refine S.eok.kind.symm▸?_; rfl)
 refine bc fun hN=>?_
 refine zdb (id hns) fun o1 es1 ep1 a1 a2 a3=>?_
 refine zdb (id hn') fun o2 es2 ep2 b1 b2 b3=>?_
 have hkk:=hs'.extBut
 have k':=S.ok.one S.eok.lnm (zgv S.base S.fresh.loc) a1 (zbG a2) hkk b1 (fun vs q=>by replace q:=b2▸q; cases q) (s.toks+1)
 have kt:zb2 s.heap h':=fun b ob eb fb=>hkk b ob (fun q=>by subst q; replace eb:=a1▸eb; have ee:=Option.some.inj eb; clear eb; subst ee; exact zbG a2 fb) eb
 refine hN ?_
 refine hq _ (S.set hl hvars hkk S.fresh.loc kt k' hn' ?_ (fun y hy=>if_neg hy) fun ua ub uc ud ue uf dl=>dl) kt hkk fun lm2 hns2=>?_
 ·unfold zcE
  refine hk.symm▸?_
  exact fun u hu=>⟨val,if_pos rfl,Option.some.inj hu▸r.ext List.prefix_rfl kt⟩
 ·have:lm2=lm:=by
   refine zeC hns2 ?_
   clear hns2
   intro o3 es3 ep3 c1 c2 c3 c4
   replace c1:=a1▸c1; have ee:=Option.some.inj c1; clear c1; subst ee
   replace c2:=a2▸c2; cases c2
   funext z
   rw[← a3.2,← c4]
  refine this.symm▸?_; exact hn'
theorem zbR (S:Sit X fs vars env m₀ s₀ ρ σ m s) {i:Nat}{x:Str} (hx:zdl vars env.scope i x=true) {val:Value}{v:V} (r:Rep X.F m s.heap val v) {M:Model}{Q:Unit→Shared→Prop}
  (hq:∀ s',Sit X fs vars env m₀ s₀ (ρ.set i (some v)) σ m s'→zb2 s.heap s'.heap→(∀ b o,b≠env.locals→(∀ v,¬ s.heap.IsCell b v)→s.heap.get? b=some o→s'.heap.get? b=some o)→Q () s'):wpAny M A (storeName env x val) Q E s:=by
 refine zb8 (zbQ hx) fun l hl ee0 hk=>?_
 subst ee0
 rcases hk with hk | hk
 ·exact zhX S hl hk r fun s' S' kt hkk ua=>hq s' S' kt fun b o hb ua eb=>hkk b o hb eb
 ·refine zao S.eok.vars fun lm hns hvars=>?_
  have hil:i < ρ.length:=by refine S.eok.len.symm▸?_; exact(List.getElem?_eq_some_iff.mp hl).1
  have w0:=hvars i l _ hl (List.getElem?_eq_getElem hil)
  unfold zcE at w0
  replace w0:=hk▸w0
  refine ztn w0 ?_
  clear w0
  intro c v₀ c1 c0 c4 c5 c6
  refine wpAny_storeName_cell S.eok.kind hk c1 c0 fun h' hv' hs'=>?_
  refine zao (id c0) fun oc c2 c3=>?_
  refine zao (id hv') fun o2 d1 d2=>?_
  have hfr:s₀.heap.get? c=none:=S.fresh.cel l (zai hl) c hk c1
  have hkk:=hs'.extBut
  have k':Ok X fs m σ { s with heap:=h' }:=S.ok.one c4 (zgv S.base hfr) c2 (zcm c3) hkk d1 (fun vs q=>by replace q:=d2▸q; cases q) s.toks
  have kt:zb2 s.heap h':=fun b ob eb fb=>hkk b ob (fun q=>by subst q; replace eb:=c2▸eb; have ee:=Option.some.inj eb; clear eb; subst ee; exact zcm c3 fb) eb
  refine hq _ (S.set hl hvars hkk hfr kt k' (hns.at' fun o e=>hkk _ o (Ne.symm c5) e) ?_ (fun ua ub=>rfl) fun y c' v' hne e ua ub q=>hne (S.eok.inj _ _ c (q▸e) c1)) kt fun b o ua hb eb=>hkk b o (fun q=>hb v₀ (q▸c0)) eb
  unfold zcE
  refine hk.symm▸?_
  exact ztC c (some val) c1 hv' c4 c5 (fun u hu=>⟨val,rfl,Option.some.inj hu▸r.ext List.prefix_rfl kt⟩)
theorem zhY (S:Sit X fs vars env m₀ s₀ ρ σ m s) {i:Nat}{x:Str} (hx:zdl vars env.scope i x=true) {val:Value}{v:V} (r:Rep X.F m s.heap val v) {M:Model}{Q:Unit→Shared→Prop}
  (hq:∀ s',Sit X fs vars env m₀ s₀ (ρ.set i (some v)) σ m s'→Q () s'):wpAny M A (storeName env x val) Q E s:=zbR S hx r fun s' S' ua ub=>hq s' S'
end
end
section
open W Calls PyProof.Rows
section
variable {prog:Program}{w:World}{A:Around}{E:Value→Shared→Prop}{s:Shared}
theorem zhZ {it l:Addr}{items:Array Value} (hne:l≠it):∀ (n i:Nat) (s:Shared) (Q:List Value→Shared→Prop),s.heap.IsListIter it l i→s.heap.IsList l items→i+n≤items.size →
  (∀ h',h'.IsListIter it l (i+n)→Heap.SameBut it s.heap h'→Q ((items.toList.drop i).take n) { s with heap:=h' })→wpAny (model prog w) A (draw (.ref it) n) Q E s
 | 0,i,s,Q,hit,_,_,hQ=>by
  show wpAny _ _ (pure []) Q E s
  exact wpAny_pure (by simpa using hQ s.heap hit (Heap.SameBut.refl ..))
 | n+1,i,s,Q,hit,hl,hle,hQ=>by
  have hlt:i < items.size:=by exact Nat.lt_of_le_of_lt (Nat.le_add_right _ _) ‹_›
  show wpAny _ _ (pyNext (.ref it) >>= _) Q E s
  refine wpAny_bind (wpAny_pyNext_list_item hit hl (x:=items[i]) (by simp[hlt]) fun h₁ hit₁ hs₁=>?_)
  refine wpAny_bind (wpAny_holding (zhZ hne n (i+1) _ _ hit₁ (hl.extBut hs₁.extBut hne) (by omega) fun h₂ hit₂ hs₂=>wpAny_pure ?_))
  have hd:items.toList.drop i=items[i]::items.toList.drop (i+1):=by simp[List.drop_eq_getElem_cons,hlt]
  have:=hQ h₂ (by rw[show i+(n+1)=i+1+n by omega]; exact hit₂) (hs₁.trans hs₂)
  rw[hd,List.take_succ_cons] at this
  exact this
theorem zfb {l:Addr}{items:Array Value}{Q:List Value→Shared→Prop} (hh:A.handled=none) (hl:s.heap.IsList l items)
  (hQ:∀ h',Heap.ExtBut s.heap.objs.size s.heap h'→Q items.toList { s with heap:=h' }):wpAny (model prog w) A (unpackItems (.ref l) items.size none) Q E s:=by
 have hlt:l≠s.heap.objs.size:=by refine zao hl ?_; clear hl; intro o ho _; exact Nat.ne_of_lt (Heap.lt_size ho)
 unfold unpackItems
 refine wpAny_bind ?_
 ·unfold notIterableAtAll
  refine wpAny_bind (wpAny_specialOf hl.typeIs F.slot_list_iter.lookup ?_)
  refine wpAny_pure ?_
  simp only[Bool.false_eq_true,if_false]
  refine wpAny_bind (wpAny_holding (wpAny_pyIter_list hl ?_))
  refine wpAny_bind (wpAny_holding (zhZ hlt items.size 0 _ _ ⟨_,Heap.get?_push_size _ rfl,rfl,rfl⟩ (hl.push _) (by omega) fun h₁ hit₁ hs₁=>?_))
  have hall:List.take items.size (List.drop 0 items.toList)=items.toList:=by
   refine List.drop_zero.symm▸?_; exact List.take_of_length_le (by simp)
  refine hall.symm▸?_
  rw[if_neg (by simp)]
  have ht₁:h₁.IsList l items:=(hl.push _).extBut hs₁.extBut hlt
  refine wpAny_bind (wpAny_holding (wpAny_pyNext_list_end hh hit₁ ht₁ (by simp) fun h₂ he₂=>?_))
  simp only[Option.isSome_none,Bool.false_eq_true,if_false]
  refine wpAny_pure (hQ h₂ fun b o hb e=>he₂ b o hb (hs₁.extBut b o hb (Heap.get?_push_of_some _ e)))
end

section
variable {X:Stat}{fs outer:List PySem.Env}{m m' m₀:AM}{σ σ':List C}{s s' s₀:Shared}{A:Around}{E:Value→Shared→Prop}{vars:List (List Nat)}{env:PySem.Env}{ρ:Env}{h h':Heap}

theorem Sit.stay (S:Sit X fs vars env m₀ s₀ ρ σ m s) (st:s.heap.StaysIn h') (tk:Nat):Sit X fs vars env m₀ s₀ ρ σ m { s with heap:=h',toks:=tk }:=
 ⟨S.ext.trans (.of_sub st),S.ok.stay st tk,S.same.trans ⟨rfl,rfl,rfl⟩,EnvOK.ext (s':={ s with heap:=h',toks:=tk }) S.eok S.ok (.of_sub st),S.fresh,S.base,S.nodup⟩
theorem Sit.on {σ1:List C}{m1:AM}{s1:Shared} (S:Sit X fs vars env m₀ s₀ ρ σ m s) (x:Ext m m1 s.heap s1.heap) (k:Ok X fs m1 σ1 s1) (y:zc2 s s1):Sit X fs vars env m₀ s₀ ρ σ1 m1 s1:=
 ⟨S.ext.trans x,k,S.same.trans y,S.eok.ext S.ok x,S.fresh,S.base,S.nodup⟩

theorem ze4 (S:Sit X fs vars env m₀ s₀ ρ σ m s) (hh:A.handled=none) {val:Value}{u:V} (r:Rep X.F m s.heap val u) {vs:List V} (e:zee σ u=some vs) {n:Nat} (hn:vs.length=n) {Q:List Value→Shared→Prop}
  (hq:∀ xs s',Sit X fs vars env m₀ s₀ ρ σ m s'→Reps X.F m s'.heap xs vs→Q xs s'):wpAny (model X.prog X.w) A (unpackItems val n none) Q E s:=by
 refine zdb (zgo S.ok r e) fun a xs c ee0 rr ht=>?_
 subst ee0
 have hsz:n=xs.toArray.size:=by refine List.size_toArray.symm▸?_; refine rr.length.symm▸?_; refine hn.symm▸?_; with_reducible rfl
 have fin:∀ h',Heap.ExtBut s.heap.objs.size s.heap h'→Q xs { s with heap:=h' }:=fun h' hk=>by
  have st:s.heap.StaysIn h':=fun b o eb=>hk b o (Nat.ne_of_lt (Heap.lt_size eb)) eb
  exact hq xs _ (S.stay st s.toks) (rr.ext List.prefix_rfl (.of_sub st))
 refine hsz.symm▸?_
 refine Or.elim ht ?_ ?_
 clear ht
 intro ht
 rotate_left
 clear ht
 intro ht
 rotate_left
 ·exact zfb hh (zaI ht) fun h' hk=>by simpa using fin h' hk
 ·exact PyProof.Rows.unpackItems_tuple hh (zju ht) fun h' hk=>by simpa using fin h' hk

theorem zpg {sc:Scope}{i:Nat}{is:List Nat}{ts:List Expr} (h:ziN vars sc (i::is) ts=true):∃ x p r,ts=.Name x p::r∧zdl vars sc i x=true∧ziN vars sc is r=true:=by
 refine IfT.out ?_ h
 clear h
 induction ts using List.casesOn with
 | nil=>exact True.intro
 | cons t r=>
  induction t using PySem.Expr.casesOn with
  | Name x p=>
   refine .mk fun h=>?_
   have h:((match vars[i]? with
    | some l=>nm l x
    | none=>false)&&(sc.names.lookup x == some .local)&&ziN vars sc is r)=true:=h
   simp only[Bool.and_eq_true,beq_iff_eq] at h
   exact znv x p r rfl (Bool.and_eq_true_iff.mpr ⟨h.1.1,by refine h.1.2.symm▸?_; with_reducible rfl⟩) h.2
  | _=>exact True.intro
theorem zeo {sc:Scope}{is:List Nat}:∀ {ts:List Expr},ziN vars sc is ts=true→ts.length=is.length∧∀ (k:Nat) (i:Nat),is[k]?=some i→∃ x p,ts[k]?=some (.Name x p)∧zdl vars sc i x=true:=by
 induction is with
 | nil=>
  intro ts h
  induction ts using List.casesOn with
  | nil=>exact⟨rfl,fun k i h=>nomatch h⟩
  | cons _ _=>exact(Bool.false_ne_true h).elim
 | cons i is ih=>
  intro ts h
  refine zdb (zpg h) fun x p r ee0 h1 h2=>?_
  subst ee0
  refine zaW (ih h2) fun a b=>?_
  refine⟨congrArg (·+1) a,fun k j hk=>?_⟩
  induction k using Nat.casesOn with
  | zero=>exact zdf x p rfl (Option.some.inj hk▸h1)
  | succ k=>exact b k j hk
theorem zfc {sc:Scope}{is:List Nat}:∀ {ts:List Expr},ziN vars sc is ts=true→assignEach ts env=ts.map fun t=>(false,assign t env):=by
 induction is with
 | nil=>
  intro ts h
  induction ts using List.casesOn with
  | nil=>rfl
  | cons _ _=>exact(Bool.false_ne_true h).elim
 | cons i is ih=>
  intro ts h
  refine zdb (zpg h) fun x p r ee0 ua h2=>?_
  subst ee0
  refine List.map_cons.symm▸?_
  refine(ih h2)▸?_
  rfl

theorem zl7 {ρ1:Env} (is:List Nat):∀ {ts:List Expr}{xs:List Value}{vs:List V}{ρ:Env}{s:Shared},ziN vars env.scope is ts=true→Sit X fs vars env m₀ s₀ ρ σ m s→Reps X.F m s.heap xs vs→za5 is vs ρ=some ρ1→∀ {M:Model}{Q:Unit→Shared→Prop},
  (∀ s',Sit X fs vars env m₀ s₀ ρ1 σ m s'→Q () s')→wpAny M A (assignInOrder (ts.map fun t=>assign t env) xs) Q E s:=by
 induction is with
 | nil=>
  intro ts xs vs ρ s hok S r e M Q hq
  refine bc fun hN=>?_
  induction ts using List.casesOn with
  | cons _ _=>exact(Bool.false_ne_true hok).elim
  | nil=>
   induction vs using List.casesOn with
   | cons _ _=>exact zaA e
   | nil=>
    cases r
    have ee:=Option.some.inj e
    clear e
    subst ee
    refine hN ?_
    exact wpAny_pure (hq s S)
 | cons i is ih=>
  intro ts xs vs ρ s hok S r e M Q hq
  refine bc fun hN=>?_
  induction ts using List.casesOn with
  | nil=>exact(Bool.false_ne_true hok).elim
  | cons t ts=>
   induction vs using List.casesOn with
   | nil=>exact zaA e
   | cons v vs=>
    cases r with
    | @cons x _ xs _ r rs=>
     refine zaW (zeo hok) fun a b=>?_
     refine zaZ (b 0 i rfl) fun y p h1 h2=>?_
     have ee:=Option.some.inj h1
     clear h1
     subst ee
     have hok2:ziN vars env.scope is ts=true:=by
      have h:((match vars[i]? with
       | some l=>nm l y
       | none=>false)&&(env.scope.names.lookup y == some .local)&&ziN vars env.scope is ts)=true:=hok
      exact(Bool.and_eq_true_iff.mp h).2
     have e:za5 is vs (ρ.set i (some v))=some ρ1:=e
     refine hN ?_
     show wpAny M A (holding xs (assign (.Name y p) env x) >>= fun ua=>assignInOrder (ts.map fun t=>assign t env) xs) Q E s
     refine wpAny_bind (wpAny_holding (wpAny_assign_Name (zbR S h2 r fun s' S' kt ua=>?_)))
     exact ih hok2 S' (rs.ext List.prefix_rfl kt) e hq

theorem zg7 {ρ:Env}{a b:Nat}{x y:V} (h:a≠b):(ρ.set a (some x)).set b (some y)=(ρ.set b (some y)).set a (some x):=List.set_comm _ _ h
theorem ziU {is:List Nat}{vs:List V}{ρ ρ1:Env} (hn:zcg is=true) (hl:is.length=2∨is.length=3) (e:za5 is vs ρ=some ρ1):za5 is.reverse vs.reverse ρ=some ρ1:=by
 have ne:∀ {x y:Nat},Nat.beq x y=false→x≠y:=fun h q=>by subst q; rw[Nat.beq_refl] at h; exact zrm h
 match is,vs,hl,hn,e with
 | [a,b],[x,y],_,hn,e=>
  have hn:(!(Nat.beq a b||false)&&(!false&&true))=true:=hn
  have hab:a≠b:=ne (by revert hn; induction Nat.beq a b using Bool.casesOn <;> simp)
  have e:(ρ.set a (some x)).set b (some y)=ρ1:=Option.some.inj e
  show some ((ρ.set b (some y)).set a (some x))=_
  rw[← e,zg7 hab]
 | [a,b,c],[x,y,z],_,hn,e=>
  have hn:(!(Nat.beq a b||(Nat.beq a c||false))&&(!(Nat.beq b c||false)&&(!false&&true)))=true:=hn
  have hab:a≠b:=ne (by revert hn; induction Nat.beq a b using Bool.casesOn <;> simp)
  have hac:a≠c:=ne (by revert hn; induction Nat.beq a c using Bool.casesOn <;> induction Nat.beq a b using Bool.casesOn <;> simp)
  have hbc:b≠c:=ne (by revert hn; induction Nat.beq b c using Bool.casesOn <;> simp)
  have e:((ρ.set a (some x)).set b (some y)).set c (some z)=ρ1:=Option.some.inj e
  show some (((ρ.set c (some z)).set b (some y)).set a (some x))=_
  rw[← e,zg7 hab,zg7 hac,zg7 hbc]
 | [],_,hl,_,_=>simp at hl
 | [_],_,hl,_,_=>simp at hl
 | _::_::_::_::_,_,hl,_,_=>simp at hl; 
 | [_,_],[],_,_,e=>exact zaA e
 | [_,_],[_],_,_,e=>exact zaA e
 | [_,_],_::_::_::_,_,_,e=>exact zaA e
 | [_,_,_],[],_,_,e=>exact zaA e
 | [_,_,_],[_],_,_,e=>exact zaA e
 | [_,_,_],[_,_],_,_,e=>exact zaA e
 | [_,_,_],_::_::_::_::_,_,_,e=>exact zaA e
theorem Reps.reverse {F:Nat→Option Addr}{xs:List Value}{vs:List V} (r:Reps F m h xs vs):Reps F m h xs.reverse vs.reverse:=by
 induction vs generalizing xs with
 | nil=>cases r; exact .nil
 | cons v vs ih=>
  cases r with
  | cons a b=>
   rw[List.reverse_cons,List.reverse_cons]
   exact(ih b).append (.one a)

theorem zg8 {l:Addr}{items:Array Value}{k:Int}{t:Tok}{v:Value}{Q:Unit→Shared→Prop}{prog:Program}{w:World} (hp:s.heap.PlainList l items)
  (h0:0≤k) (hfit:k < 2 ^ 63) (hn:k < items.size)
  (hQ:∀ h',h'.PlainList l (items.setIfInBounds k.toNat v)→Heap.SameBut l s.heap h'→Q () { s with heap:=h' }) :
  wpAny (model prog w) A (setItem (.ref l) (.int k t) v) Q E s:=by
 have hl:=hp.isList
 obtain⟨ne,ho⟩:=hp
 have hd:({ cls:=.type "list",data:=.seq items ne }:Obj).data=.seq items ne:=rfl
 unfold setItem
 try with_reducible refine wpAny_holding ?_
 first | refine wpAny_bind (wpAny_pure ?_) | skip
 refine wpAny_bind (wpAny_sequenceKey hl.typeIs (by decide) ?_)
 refine wpAny_bind (wpAny_callSpecial?_slot (name:=Str.ofString "__setitem__") hl.typeIs slot_list_setitem
  (wpAny_call_entry slot_list_setitem hl.typeIs entry_list_setitem ?_ (args_list_setitem _ _ _)))
 show wpAny _ _ (Builtin.List.listSubscript? (.int k t) >>= _) _ _ s
 refine wpAny_bind (wpAny_listSubscript_int (fitsIndex_of h0 hfit) ?_)
 clear hfit
 obtain⟨j,rfl⟩:=Int.eq_ofNat_of_zero_le h0
 have hj:j < items.size:=by exact Int.ofNat_le.mp ‹_›
 have hx':items[j]?=some items[j]:=Array.getElem?_eq_getElem hj
 show wpAny _ _ ((seqItemAt l j >>= fun r=>pure (r.map (j,·))) >>= _) _ _ s
 refine wpAny_bind (wpAny_bind (wpAny_seqItemAt ho hd (wpAny_pure ?_)))
 refine hx'.symm▸?_
 show wpAny _ _ (setSeqItemAt l j v >>= _) _ _ s
 have hfin:(s.heap.update l (Obj.mapSeq (·.setIfInBounds j v))).PlainList l (items.setIfInBounds j v):=by
  have hm:∃ n',Obj.mapSeq (·.setIfInBounds j v) ({ cls:=.type "list",data:=.seq items ne }:Obj)={ cls:=.type "list",data:=.seq (items.setIfInBounds j v) n' }:=by
   exact⟨_,rfl⟩
  obtain⟨n',hm⟩:=hm
  exact⟨n',(Heap.get?_update_self _ ho (by refine hm.symm▸?_; rfl)).trans (by refine hm.symm▸?_; with_reducible rfl)⟩
 refine wpAny_bind (wpAny_setSeqItemAt ho hd ?_)
 first
  | exact wpAny_bind (wpAny_pure (wpAny_pure ⟨.none,rfl,wpAny_pure (hQ _ hfin (Heap.SameBut.update ..))⟩))
  | exact wpAny_pure ⟨.none,rfl,wpAny_pure (hQ _ hfin (Heap.SameBut.update ..))⟩

set_option tactic.hygienic true in
theorem zga (S:Sit X fs vars env m₀ s₀ ρ σ m s) {o j v:V}{vo vj val:Value} (ro:Rep X.F m s.heap vo o) (rj:Rep X.F m s.heap vj j) (rv:Rep X.F m s.heap val v) (hf:zbh (zcr σ o j v)) {Q:Unit→Shared→Prop}
  (hq:∀ σ1 s',zcr σ o j v=.ok () σ1→Sit X fs vars env m₀ s₀ ρ σ1 m s'→Q () s'):wpAny (model X.prog X.w) A (setItem vo vj val) Q E s:=by
 unfold zcr at hf
 split at hf
 ·rename_i n k
  split at hf
  ·rename_i vs hv
   by_cases hk:0≤k∧k.toNat < vs.length∧vs.length≤LIM
   ·have he:zcr σ (.loc n) (.int k) v=.ok () (σ.set n (.list (vs.set k.toNat v))):=by
     unfold zcr; simp only[hv]; exact if_pos hk
    refine zeC (S.ok.list ro hv) fun la xs c ee0 hm o1 r1=>?_
    subst ee0
    cases rj with
    | int _ t=>
     have hlen:=r1.length
     refine zg8 ⟨c,o1⟩ hk.1 (by have:=hk.2; unfold LIM at this; omega) (by rw[List.size_toArray,hlen]; omega) fun h' hp hs=>?_
     refine zaF hp ?_
     clear hp
     intro c' hp
     rw[List.setIfInBounds_toArray] at hp
     have keep:∀ b o,s.heap.get? b=some o→b ∉ [la]→h'.get? b=some o:=fun b o eb hb=>(hs.2 b fun q=>hb (by rw[q]; exact List.mem_cons_self)).trans eb
     have x:Ext m m s.heap h':=.put (p:=(la,[la])) (zai hm) keep
     have SS:=S.ok.sto.put (c:=.list (vs.set k.toNat v)) hm keep (fun b hb=>by rw[List.mem_singleton.mp hb]; exact⟨_,hp,zay _ _⟩) ⟨rfl,xs.set k.toNat val,c',hp,(r1.set rv k.toNat).ext List.prefix_rfl (S.ok.sto.keepT x)⟩
     exact hq _ _ he (S.on (s1:={ s with heap:=h' }) x (S.ok.ext (s':={ s with heap:=h' }) x SS) ⟨rfl,rfl,rfl⟩)
   ·rw[if_neg hk] at hf; exact zab hf
  ·exact zab hf
 ·exact zab hf
set_option tactic.hygienic true in
theorem zdP (F:Facts X) (W:WFacts X) (S:Sit X fs vars env m₀ s₀ ρ σ m s) {o v:V}{k:Nat} (hk:k < 2) {vo val:Value} (ro:Rep X.F m s.heap vo o) (rv:Rep X.F m s.heap val v) (hf:zbh (zcc σ o k v)) {Q:Unit→Shared→Prop}
  (hq:∀ σ1 s',zcc σ o k v=.ok () σ1→Sit X fs vars env m₀ s₀ ρ σ1 m s'→Q () s'):wpAny (model X.prog X.w) A (PySem.setAttr vo (zae k) val) Q E s:=by
 unfold zcc at hf
 split at hf
 ·rename_i n
  split at hf
  ·rename_i as has
   split at hf
   rotate_left
   ·exact zab hf
   rename_i hle
   have he:zcc σ (.loc n) k v=.ok () (σ.set n (.inst (setAttr k v as))):=by
    unfold zcc; simp only[has,hle]
   refine zb8 (S.ok.loc ro has) fun q ee0 hm rst=>?_
   subst ee0
   refine zo0 rst ?_
   clear rst
   intro dx es en g1 g2 g3 g4 g5
   refine zkF W (S.ok.kin F) g3 g4.keys (by refine g4.length.symm▸?_; exact Nat.le_trans ‹_› (by decide)) hk fun h' hsh t n' hs hd=>?_
   have keep:∀ b o,s.heap.get? b=some o→b ∉ q.2→h'.get? b=some o:=fun b o eb hb=>(hs.2 b fun qq=>hb (by refine g1.symm▸?_; refine qq.symm▸?_; simp)).trans eb
   have x:Ext m m s.heap h':=.put (p:=q) (zai hm) keep
   have ob:h'.get? q.1=some (instObj X.WC dx):=(hs.2 q.1 (Ne.symm g2)).trans g3.ob
   have SS:=S.ok.sto.put (c:=.inst (setAttr k v as)) hm keep (fun b hb=>by
     replace hb:=g1▸hb
     rcases List.mem_cons.mp hb with rfl | hb
     ·exact zc1 _ ob (zdm _ _)
     ·refine(List.mem_singleton.mp hb).symm▸?_; exact zc1 _ hd (zcj _ _))
    ⟨dx,_,n',g1,g2,⟨ob,hd⟩,(g4.put rv hk).ext List.prefix_rfl (S.ok.sto.keepT x),by
     exact Nat.le_of_ble_eq_true hle⟩
   exact hq _ _ he (S.on (s1:={ s with heap:=h',toks:=s.toks+2 }) x (S.ok.ext (s':={ s with heap:=h',toks:=s.toks+2 }) x SS) ⟨rfl,rfl,rfl⟩)
  ·exact zab hf
 ·exact zab hf
end
end
section
open W Calls PyProof.Rows
noncomputable def zl8 (X:Stat) (fs:List PySem.Env) (e:Addr) (h:Heap):Prop:=
 X.base.StaysIn h∧X.base.get? e=none∧h.FunFrames X.base fs∧∃ a0 fl,h.TracedAtW X.base e (.ref X.GF) a0 fl

section
variable {X:Stat}{fs outer:List PySem.Env}{m m' m₀:AM}{σ σ':List C}{s s' s₀:Shared}{A:Around}{E:Value→Shared→Prop}{env:PySem.Env}{e:Addr}{M:Model}

theorem zl8.exc {h:Heap} (x:zl8 X fs e h):Exc X fs e h:=by
 refine zoZ x ?_
 clear x
 intro a b c rst
 refine ztG rst ?_
 clear rst
 intro a0 fl oe vs T oT ts he nm0 hd h1 hnT hTe hT hdT h3
 obtain⟨hc,h0⟩:=nm0
 exact⟨a,b,c,oe,vs,a0,he,⟨hc,h0⟩,hd,.inr ⟨T,oT,ts,fl,h1,hnT,hTe,hT,hdT,h3⟩⟩

theorem zl8.obj {h:Heap} (x:zl8 X fs e h):∃ oe,h.get? e=some oe∧oe.cls=.ref X.GF:=by
 refine zoZ x ?_
 clear x
 intro _ _ _ rst
 refine zu5 rst ?_
 clear rst
 intro a0 fl oe vs T oT ts he nm0 _
 obtain⟨hc,h0⟩:=nm0
 exact zc1 oe he hc
theorem zl9 {L:Addr}{a0 fl:Value}{l:List PySem.Env}{h h':Heap}{cls:Value} (hc:cls=.ref X.GF) (hen:X.base.get? e=none) (x:Heap.NotedW X.base l e cls a0 fl h h'):zl8 X l e h':=by
 refine bc fun hN=>?_
 subst hc
 refine zoZ x ?_
 clear x
 intro k1 k2 k3 _
 refine hN ?_
 exact⟨k1,hen,k2,a0,fl,k3⟩

theorem zg9 {L:Addr} (hfr:A.frames=some (env::outer)) (hf:env.frame=some L) (x:Exc X (env::outer) e s.heap) {Q:Unit→Shared→Prop}
  (hq:∀ h',zl8 X (env::outer) e h'→Q () { s with heap:=h' }):wpAny M A (noteFrame (.ref e) env) Q E s:=by
 obtain⟨hkb,hen,hl,oe,vs,a0,he,⟨hc,h0⟩,hd,h1 | ⟨T,oT,ts,fl,h1,hnT,hTe,hT,hdT,h3⟩⟩:=x
 ·unfold noteFrame
  simp only[hf]
  refine wpAny_bind (wpAny_field he hd h1 ?_)
  rw[if_neg (by decide)]
  exact wpAny_entryW hfr hl hf he hkb hen hd (Array.getElem?_eq_some_iff.mp h1).1 h0 fun h' hn=>hq h' (zl9 (L:=L) hc hen hn)
 ·unfold noteFrame
  simp only[hf]
  refine wpAny_bind (wpAny_field he hd h1 ?_)
  refine(if_pos (show(Value.ref T != Value.none)=true from by simp)).symm▸?_
  refine wpAny_bind (wpAny_field hT hdT h3 ?_)
  by_cases hfl:(fl == rawInt L)=true
  ·refine(if_pos hfl).symm▸?_
   exact wpAny_pure (hq s.heap ⟨hkb,hen,hl,a0,fl,oe,vs,T,oT,ts,he,⟨hc,h0⟩,hd,h1,hnT,hTe,hT,hdT,h3⟩)
  ·refine(if_neg hfl).symm▸?_
   refine wpAny_bind (wpAny_setField hT hdT (Array.getElem?_eq_some_iff.mp h3).1 ?_)
   have other:∀ b,b≠T→(s.heap.update T (Obj.mapFields (·.setIfInBounds 3 Value.none))).get? b=s.heap.get? b:=fun b hb=>Heap.get?_update_other _ _ (Ne.symm hb)
   have noRecord:∀ b o,s.heap.get? b=some o→(∀ vs,o.data≠.fields vs)→b≠T:=fun b o hb hnf q=>by
    replace hb:=q▸hb; replace hb:=hT▸hb; injection hb with hb; subst hb; exact hnf ts hdT
   refine wpAny_entryW hfr (hl.of_keeps fun b o hb hnf=>⟨o,(other b (noRecord b o hb hnf)).trans hb,rfl⟩) hf ((other e (Ne.symm hTe)).trans he)
    (fun b o hbo=>(other b fun q=>by replace hbo:=q▸hbo; replace hbo:=hnT▸hbo; exact zaA hbo).trans (hkb b o hbo)) hen hd (Array.getElem?_eq_some_iff.mp h1).1 h0
    fun h' hn=>hq h' (zl9 (L:=L) hc hen hn)
theorem zdz (x:zl8 X fs e s.heap) {f:Option Addr}{Q:Unit→Shared→Prop} (hq:∀ h',zl8 X fs e h'→Q () { s with heap:=h' }):wpAny M A (setFlight (.ref e) f) Q E s:=by
 refine zoZ x ?_
 clear x
 intro hkb hen hl rst
 refine ztG rst ?_
 clear rst
 intro a0 fl oe vs T oT ts he hcls hd h1 hnT hTe hT hdT h3
 have hsz3:3 < ts.size:=(Array.getElem?_eq_some_iff.mp h3).1
 have other:∀ b,b≠T→(s.heap.update T (Obj.mapFields (·.setIfInBounds 3 (f.elim Value.none fun f=>rawInt f)))).get? b=s.heap.get? b:=
  fun b hb=>Heap.get?_update_other _ _ (Ne.symm hb)
 have noRecord:∀ b o,s.heap.get? b=some o→(∀ vs,o.data≠.fields vs)→b≠T:=fun b o hb hnf q=>by
  replace hb:=q▸hb; replace hb:=hT▸hb; injection hb with hb; subst hb; exact hnf ts hdT
 unfold setFlight
 refine wpAny_bind (wpAny_field he hd h1 ?_)
 refine(if_pos (show(Value.ref T != Value.none)=true from by rfl)).symm▸?_
 refine wpAny_setField hT hdT hsz3 (hq _ ⟨fun b o hbo=>(other b fun q=>by replace hbo:=q▸hbo; replace hbo:=hnT▸hbo; exact zaA hbo).trans (hkb b o hbo),hen,
  hl.of_keeps fun b o hb hnf=>⟨o,(other b (noRecord b o hb hnf)).trans hb,rfl⟩,a0,f.elim Value.none fun f=>rawInt f,?_⟩)
 exact zvd oe vs T _ _ ((other e (Ne.symm hTe)).trans he) hcls hd h1 hnT hTe (Heap.get?_update_self _ hT (Obj.isFreed_of_fields (Obj.data_mapFields hdT _))) (Obj.data_mapFields hdT _) (by simp[hsz3])
theorem zma {L:Addr} (hfr:A.frames=some (env::outer)) (hf:env.frame=some L) (x:Exc X (env::outer) e s.heap) {Q:Unit→Shared→Prop}
  (hq:∀ h',zl8 X outer e h'→Q () { s with heap:=h' }):wpAny M A (leaving env (.ref e)) Q E s:=by
 unfold leaving
 refine wpAny_bind (zg9 hfr hf x fun h1 x1=>?_)
 refine zdz (s:={ s with heap:=h1 }) x1 fun h2 x2=>?_
 refine bc fun hN=>?_
 refine zoZ x2 ?_
 clear x2
 intro a b nn0 d
 refine ziM nn0 ?_
 clear nn0
 intro _ _ c
 refine hN ?_
 exact hq h2 ⟨a,b,c,d⟩
theorem zjH {α:Type}{L:Addr}{r:R α}{v:Value} (hfr:A.frames=some (env::outer)) (hf:env.frame=some L) (x:PX X (env::outer) s₀ r v s) {R':Value→Shared→Prop}
  (hq:∀ e s',v=.ref e→zl8 X (env::outer) e s'.heap→zc2 s₀ s'→R' v s'):notedBy M A env R' v s:=by
 refine zaW x ?_
 clear x
 intro he rst
 refine zb8 rst ?_
 clear rst
 intro e ef0 hx y
 subst ef0
 exact zg9 hfr hf hx fun h' x'=>hq e _ rfl x' (y.trans ⟨rfl,rfl,rfl⟩)
theorem zmb {α:Type}{r:R α} (he:r=.exc) (x:zl8 X fs e s.heap) (y:zc2 s₀ s) {E:Value→Shared→Prop} (hE:∀ s',PX X fs s₀ r (.ref e) s'→E (.ref e) s'):cameBackBy M A env E (.ref e) s:=by
 have x':=x
 refine zoZ x' ?_
 clear x'
 intro hkb hen hl rst
 refine ztG rst ?_
 clear rst
 intro a0 fl oe vs T oT ts he' hcls hd h1 hnT hTe hT hdT h3
 unfold cameBackBy
 refine wpAny_bind (wpAny_field he' hd h1 ?_)
 rw[if_neg (by exact of_decide_eq_true rfl)]
 refine zdz x fun h' x2=>hE _ ⟨he,e,rfl,x2.exc,y.trans ⟨rfl,rfl,rfl⟩⟩
end

noncomputable def ztu (X:Stat) (fs:List PySem.Env) (e:Addr) (h:Heap):Prop:=
 X.base.StaysIn h∧X.base.get? e=none∧h.FunFrames X.base fs∧∃ oe vs a0,h.get? e=some oe∧(oe.cls=.ref X.GF∧vs[0]?=some a0)∧oe.data=.fields vs∧vs[1]?=some .none
theorem ztu.exc {X:Stat}{fs:List PySem.Env}{e:Addr}{h:Heap} (x:ztu X fs e h):Exc X fs e h:=
 let ⟨a,b,c,oe,vs,a0,d,f,g,i⟩:=x; ⟨a,b,c,oe,vs,a0,d,f,g,.inl i⟩

structure ExcOK (X:Stat):Prop where
 keep:keepIn X.K (.ref X.GF)=true
 make:∀ {fs:List PySem.Env}{A:Around}{m:AM}{σ:List C}{s:Shared}{va vb:Value}{a b:V}{E:Value→Shared→Prop},Rep X.F m s.heap va a→Rep X.F m s.heap vb b→Ok X fs m σ s→LimX A→A.frames=some fs →
  wpAny (model X.prog X.w) A (PySem.call (.ref X.GF) [va,vb]) (fun v s'=>∃ e,v=.ref e∧ztu X fs e s'.heap∧zc2 s s') E s
 raised:∀ {fs:List PySem.Env}{A:Around}{s:Shared}{x:Sem Value}{env:PySem.Env}{Q:Flow→Shared→Prop}{E:Value→Shared→Prop},A.handled=none→wpAny (model X.prog X.w) A x (fun v s'=>∃ e,v=.ref e∧ztu X fs e s'.heap∧E (.ref e) s') E s →
  wpAny (model X.prog X.w) A (raiseStmt env (some x) none) Q E s
 caught:∀ {outer:List PySem.Env}{A:Around}{s:Shared}{env:PySem.Env}{e:Addr}{g:Expr}{k:Bool}{i:Nat}{p rp hp:Pos}{Q:Flow→Shared→Prop}{E:Value→Shared→Prop},A.handled=none→A.frames=some (env::outer)→env.frame=some env.locals →
  env.scope.kind=.function→env.globals=mainGlobals→okG env.scope zpJ g=true→Exc X (env::outer) e s.heap→(∀ s',X.base.StaysIn s'.heap→zc2 s s'→Q (.ret (.bool k)) s') →
  wpAny (model X.prog X.w) A (noteFrame (.ref e) env) (fun ua s₂=>wpAny (model X.prog X.w) A (setFlight (.ref e) none) (fun ua s₃=>wpAny (model X.prog X.w) A (handleBy (.ref e) env [.ExceptHandler (some g) none [.Return (some (.Constant (.bool k) i p)) rp] hp]) Q E s₃) E s₂) E s
end
section
open W Calls PyProof.Rows
section
variable {X:Stat}{fs outer:List PySem.Env}{m m' m₀:AM}{σ σ':List C}{s s' s₀:Shared}{A:Around}{vars:List (List Nat)}{env:PySem.Env}{ρ:Env}

theorem zaE {α β:Type}{r1:R α}{K:α→List C→R β} (hn:r1.bind K≠.stuck):zbh r1:=by
 induction r1 using R.casesOn with
 | ok=>exact zdp _ _
 | exc=>exact zfe
 | fin=>exact absurd rfl hn
 | stuck=>exact absurd rfl hn
theorem PX.at {α β:Type}{r1:R α}{r:R β}{x:Value} (S:zc2 s₀ s) (h:PX X fs s r1 x s') (e:r1=.exc→r=.exc):PX X fs s₀ r x s':=h.to S e

theorem zds {α:Type}{M:Model}{t:Sem Value}{r1:R V}{r:R α}{K:V→List C→R α}{Q:Value→Shared→Prop} (S:Sit X fs vars env m₀ s₀ ρ σ m s) (hr:r=r1.bind K) (hn:r≠.stuck)
  (h1:zbh r1→wpAny M A t (PV X fs m s r1) (PX X fs s r1) s)
  (h2:∀ v σ1 m1 val s1,Sit X fs vars env m₀ s₀ ρ σ1 m1 s1→Ext m m1 s.heap s1.heap→Rep X.F m1 s1.heap val v→r=K v σ1→Q val s1):wpAny M A t Q (PX X fs s₀ r) s:=by
 subst hr
 refine wpAny_mono (h1 (zaE hn)) (fun val s1 ⟨v,σ1,e,m1,a,b,c,d⟩=>?_) fun x s1 hx=>hx.at S.same fun e=>by refine e.symm▸?_; rfl
 subst e
 exact h2 v σ1 m1 val s1 (S.on a b c) a d rfl
theorem zua {α:Type}{M:Model}{t:Sem Bool}{r1:R Bool}{r:R α}{K:Bool→List C→R α}{Q:Bool→Shared→Prop} (S:Sit X fs vars env m₀ s₀ ρ σ m s) (hr:r=r1.bind K) (hn:r≠.stuck)
  (h1:zbh r1→wpAny M A t (PB X fs m s r1) (PX X fs s r1) s)
  (h2:∀ v σ1 m1 s1,Sit X fs vars env m₀ s₀ ρ σ1 m1 s1→r=K v σ1→Q v s1):wpAny M A t Q (PX X fs s₀ r) s:=by
 subst hr
 refine wpAny_mono (h1 (zaE hn)) (fun val s1 ⟨σ1,e,m1,a,b,c⟩=>?_) fun x s1 hx=>hx.at S.same fun e=>by refine e.symm▸?_; rfl
 subst e
 exact h2 val σ1 m1 s1 (S.on a b c) rfl
theorem zbS (S:Sit X fs vars env m₀ s₀ ρ σ m s) {r:R (Fl×Env)} (hr:r=.ok (.next,ρ) σ):PS X fs vars env m₀ s₀ r .next s:=.inl ⟨.next,ρ,σ,m,hr,S,rfl⟩
theorem zdt (h:env.scope.kind=.function):interactive env=false:=by unfold interactive; refine h.symm▸?_; rfl
theorem zaX {pe:Expr}{t:Option Expr}{l:Nat} (h:zdc pe=false):swapsWith pe t l env=pure false:=by
 induction pe using PySem.Expr.casesOn <;> first | (cases h; done) | rfl
theorem Sit.begin (S:Sit X fs vars env m₀ s₀ ρ σ m s) {prim:Bool}{n:Nat} (l:Lim prim A n) (f:A.frames=some fs):Begin X fs vars env ρ σ m s prim A n:=⟨S.eok,S.ok,l,f⟩
end

section
variable (X:Stat) (prim:Bool) (lo:Lo) (n:Nat)
noncomputable def PSt (st:S):Prop:=∀ {ps:Stmt}{fs outer:List PySem.Env}{A:Around}{env:PySem.Env}{vars:List (List Nat)}{ρ:Env}{m₀ m:AM}{σ:List C}{s₀ s:Shared},okS X.T vars env.scope st ps=true→Sit X fs vars env m₀ s₀ ρ σ m s→Lim prim A n→A.frames=some fs →
  fs=env::outer→env.frame=some env.locals→evS X.T prim lo st ρ σ≠.stuck→wpAny (model X.prog X.w) A (exec ps env) (PS X fs vars env m₀ s₀ (evS X.T prim lo st ρ σ)) (PX X fs s₀ (evS X.T prim lo st ρ σ)) s
noncomputable def znq (b:Ss):Prop:=∀ {pb:List Stmt}{fs outer:List PySem.Env}{A:Around}{env:PySem.Env}{vars:List (List Nat)}{ρ:Env}{m₀ m:AM}{σ:List C}{s₀ s:Shared},okSs X.T vars env.scope b pb=true→Sit X fs vars env m₀ s₀ ρ σ m s→Lim prim A n→A.frames=some fs →
  fs=env::outer→env.frame=some env.locals→evSs X.T prim lo b ρ σ≠.stuck→wpAny (model X.prog X.w) A (execs pb env) (PS X fs vars env m₀ s₀ (evSs X.T prim lo b ρ σ)) (PX X fs s₀ (evSs X.T prim lo b ρ σ)) s
end

section
variable {X:Stat} (F:Facts X) {prim:Bool}{lo:Lo}{n:Nat} (L:LoOK X lo prim n) (W:WFacts X) (P:PrimOK X prim) (G:ExcOK X)
include F L W P G
theorem zsE:znq X prim lo n .nil:=by
 intro pb fs outer A env vars ρ m₀ m σ s₀ s hok S l hfr hfs hfl hn
 have:pb=[]:=by
  induction pb using List.casesOn with
  | nil=>rfl
  | cons _ _=>exact(Bool.false_ne_true hok).elim
 subst this
 exact wpAny_execs_nil (zbS S rfl)
theorem zql (st:S) (b:Ss) (h1:PSt X prim lo n st) (h2:znq X prim lo n b):znq X prim lo n (.cons st b):=by
 intro pb fs outer A env vars ρ m₀ m σ s₀ s hok S l hfr hfs hfl hn
 obtain⟨ps,pss,rfl,k1,k2⟩:∃ ps pss,pb=ps::pss∧okS X.T vars env.scope st ps=true∧okSs X.T vars env.scope b pss=true:=by
  induction pb using List.casesOn with
  | nil=>exact(Bool.false_ne_true hok).elim
  | cons ps pss=>
   obtain⟨q1,q2⟩:=Bool.and_eq_true_iff.mp (show(okS X.T vars env.scope st ps&&okSs X.T vars env.scope b pss)=true from hok)
   exact zki ps pss rfl q1 q2
 have hr:evSs X.T prim lo (.cons st b) ρ σ=zf6 (fun ρ1 σ1=>evSs X.T prim lo b ρ1 σ1) (evS X.T prim lo st ρ σ):=rfl
 rw[hr] at hn ⊢
 have hn1:evS X.T prim lo st ρ σ≠.stuck:=fun q=>by replace hn:=q▸hn; exact hn rfl
 refine wpAny_execs_cons (wpAny_mono (h1 k1 S l hfr hfs hfl hn1) (fun f s1 hps=>?_) fun x s1 hx=>hx.at (.refl _) fun e=>by refine e.symm▸?_; rfl)
 refine Or.elim hps ?_ ?_
 clear hps
 intro nm
 refine zld nm ?_
 clear nm
 intro fl ρ1 σ1 m1 e S1 hfl1
 rotate_left
 clear hps
 intro nm
 refine zfl nm ?_
 clear nm
 intro bb e ee0 hst hsm
 subst ee0
 rotate_left
 ·rw[e] at hn ⊢
  induction fl using Fl.casesOn with
  | next=>
   subst hfl1
   exact h2 k2 S1 l hfr hfs hfl hn
  | brk=>
   subst hfl1
   exact .inl ⟨.brk,ρ1,σ1,m1,rfl,S1,rfl⟩
  | ret v=>
   refine zao hfl1 ?_
   clear hfl1
   intro val ee0 r
   subst ee0
   exact .inl ⟨.ret v,ρ1,σ1,m1,rfl,S1,val,rfl,r⟩
 ·refine e.symm▸?_
  exact .inr ⟨bb,rfl,rfl,hst,hsm⟩
theorem zqm (e:E):PSt X prim lo n (.expr e):=by
 intro ps fs outer A env vars ρ m₀ m σ s₀ s hok S l hfr hfs hfl hn
 refine zc0 (zp2 hok) fun pe p ee0 h1 h2=>?_
 subst ee0
 exact wpAny_Expr_any (zds S rfl hn (fun hf=>(zbM F L W P e).1 h1 (S.begin l hfr) hf) fun v σ1 m1 val s1 S1 x r hr=>zbS S1 hr) (zdt S.eok.kind) (zaX h2)
theorem zsF (e:E):PSt X prim lo n (.ret e):=by
 intro ps fs outer A env vars ρ m₀ m σ s₀ s hok S l hfr hfs hfl hn
 refine zaZ (zpd hok) fun pe p ee0 h1=>?_
 subst ee0
 exact wpAny_Return_some (zds S rfl hn (fun hf=>(zbM F L W P e).1 h1 (S.begin l hfr) hf) fun v σ1 m1 val s1 S1 x r hr=>.inl ⟨.ret v,ρ,σ1,m1,hr,S1,val,rfl,r⟩)
theorem zsG:PSt X prim lo n .brk:=by
 intro ps fs outer A env vars ρ m₀ m σ s₀ s hok S l hfr hfs hfl hn
 obtain⟨p,rfl⟩:=zsb hok
 exact wpAny_Break (.inl ⟨.brk,ρ,σ,m,rfl,S,rfl⟩)
theorem zsH (t:E) (b o:Ss) (hb:znq X prim lo n b) (ho:znq X prim lo n o):PSt X prim lo n (.ite t b o):=by
 intro ps fs outer A env vars ρ m₀ m σ s₀ s hok S l hfr hfs hfl hn
 refine zo1 (zpc hok) fun t' b' o' p ee0 h1 h2 h3=>?_
 subst ee0
 refine wpAny_If (zua S rfl hn (fun hf=>(zbM F L W P t).2 h1 (S.begin l hfr) hf) fun c σ1 m1 s1 S1 hr=>?_)
 have hn:=hr▸hn
 refine hr.symm▸?_
 induction c using Bool.casesOn with
 | true=>exact hb h2 S1 l hfr hfs hfl hn
 | false=>exact ho h3 S1 l hfr hfs hfl hn
theorem zsI (i:Nat) (op:Operator) (e:E):PSt X prim lo n (.aug i op e):=by
 intro ps fs outer A env vars ρ m₀ m σ s₀ s hok S l hfr hfs hfl hn
 refine bc fun hN=>?_
 refine zo1 (zr7 hok) fun x xp pe p ee0 h1 h2 h3=>?_
 subst ee0
 have hv:zdl vars env.scope i x=true:=by
  unfold zdl
  induction q:vars[i]? using Option.casesOn with
  | none=>replace h1:=q▸h1; exact(Bool.false_ne_true h1).elim
  | some y=>replace h1:=q▸h1; exact Bool.and_eq_true_iff.mpr ⟨h1,by refine h2.symm▸?_; with_reducible rfl⟩
 have hr0:evS X.T prim lo (.aug i op e) ρ σ=(zkm ρ i σ).bind fun u σ=>(evE X.T prim lo e ρ σ).bind fun v σ1=>(zpE op u v σ1).bind (zlg i ρ):=rfl
 refine zaF (znW (zaE (hr0▸hn))) fun u hu=>?_
 have hr1:evS X.T prim lo (.aug i op e) ρ σ=(evE X.T prim lo e ρ σ).bind fun v σ1=>(zpE op u v σ1).bind (zlg i ρ):=by
  refine hr0.symm▸?_; unfold zkm; refine hu.symm▸?_; rfl
 refine zb8 (zbQ hv) fun y hy ee0 ua=>?_
 subst ee0
 refine zao S.eok.vars fun lm hns hvars=>?_
 have w:=hvars i y _ hy hu
 unfold zcE at w
 replace w:=h2▸w
 refine zao (w u rfl) fun val0 w1 w2=>?_
 refine hN ?_
 refine wpAny_AugAssign_Name (wpAny_loadName_local S.eok.kind h2 hns w1 ?_)
 refine zds S hr1 hn (fun hf=>(zbM F L W P e).1 h3 (S.begin l hfr) hf) fun v σ1 m1 val s1 S1 x1 r hr=>?_
 have hf2:=zaE (hr▸hn)
 have r0:=w2.ext x1.pre (S.ok.sto.keepT x1)
 refine bc fun hN=>?_
 refine zaF (zbh.ofOpt hf2) fun c hc=>?_
 obtain⟨rfl,a,b,rfl,rfl,rfl⟩:=zjA hc
 refine zaF r0.inv fun t0 q0=>?_
 refine zaF r.inv fun t1 q1=>?_
 subst q0
 subst q1
 refine hN ?_
 refine PyProof.Rows.iadd_int ?_
 have S2:Sit X fs vars env m₀ s₀ ρ σ1 m1 { s1 with toks:=s1.toks+1 }:=S1.stay (h':=s1.heap) (fun ua ub e=>e) _
 refine zhY S2 hv (.int _ _) fun s3 S3=>zbS S3 ?_
 refine hr.symm▸?_
 unfold zpE
 refine hc.symm▸?_
 show zlg i ρ (.int (a+b)) σ1=_
 unfold zlg
 rw[if_pos (by rw[S.eok.len]; exact(List.getElem?_eq_some_iff.mp hy).1)]
end
end
section
open W Calls PyProof.Rows
section
variable {X:Stat}{fs outer:List PySem.Env}{m m' m₀:AM}{σ σ':List C}{s s' s₀:Shared}{A:Around}{vars:List (List Nat)}{env:PySem.Env}{ρ:Env}{h h':Heap}
theorem Sit.but (S:Sit X fs vars env m₀ s₀ ρ σ m s) {a:Addr} (x:Aside X fs m s.heap a) (hk:Heap.ExtBut a s.heap h') (h0:s₀.heap.get? a=none) (hl:env.locals≠a) (hc:∀ v,¬ s.heap.IsCell a v) (tk:Nat):Sit X fs vars env m₀ s₀ ρ σ m { s with heap:=h',toks:=tk }:=
 ⟨S.ext.but hk h0,S.ok.but x hk tk,S.same.trans ⟨rfl,rfl,rfl⟩,S.eok.but (x.keep hk) hk hl hc,S.fresh,S.base,S.nodup⟩
noncomputable def zfg (vars:List (List Nat)) (env:PySem.Env):List Addr:=vars.filterMap fun x=>match env.scope.names.lookup (zaa x) with
 | some .cell=>env.cells.lookup (zaa x)
 | _=>none
noncomputable def zeH (vars:List (List Nat)) (env:PySem.Env) (h:Heap):Heap:=hideAll h (env.locals::zfg vars env)
theorem Sit.rebase (S:Sit X fs vars env m₀ s₀ ρ σ m s):Sit X fs vars env m { s with heap:=zeH vars env s.heap } ρ σ m s:=by
 have hown:∀ b∈env.locals::zfg vars env,s₀.heap.get? b=none:=fun b hb=>by
  refine Or.elim (List.mem_cons.mp hb) ?_ ?_
  intro nm
  subst nm
  rotate_left
  intro hb
  rotate_left
  ·exact S.fresh.loc
  ·refine zao (List.mem_filterMap.mp hb) fun x hx e=>?_
   split at e
   ·exact S.fresh.cel x hx b ‹_› e
   ·exact zaA e
 refine⟨⟨List.prefix_rfl,fun b o e ua=>of_hideAll _ e,fun b q=>.inl q⟩,S.ok,⟨rfl,rfl,rfl⟩,S.eok,⟨hideAll_none _ (List.mem_cons_self ..),fun x hx c h1 h2=>hideAll_none _ (List.mem_cons_of_mem _ (List.mem_filterMap.mpr ⟨x,hx,by refine h1.symm▸?_; exact h2⟩))⟩,fun b o e=>?_,S.nodup⟩
 exact hideAll_get _ (S.ok.stays b o e) fun hb=>by have:=S.base b o e; replace this:=(hown b hb)▸this; exact zaA this
theorem Sit.unbase {ρ':Env}{σ':List C}{m':AM}{s':Shared} (S:Sit X fs vars env m₀ s₀ ρ σ m s) (S':Sit X fs vars env m { s with heap:=zeH vars env s.heap } ρ' σ' m' s'):Sit X fs vars env m₀ s₀ ρ' σ' m' s':=by
 have hown:∀ b∈env.locals::zfg vars env,s₀.heap.get? b=none:=fun b hb=>by
  refine Or.elim (List.mem_cons.mp hb) ?_ ?_
  intro nm
  subst nm
  rotate_left
  intro hb
  rotate_left
  ·exact S.fresh.loc
  ·refine zao (List.mem_filterMap.mp hb) fun x hx e=>?_
   split at e
   ·exact S.fresh.cel x hx b ‹_› e
   ·exact zaA e
 have x1:Ext m₀ m s₀.heap (zeH vars env s.heap):=⟨S.ext.pre,fun b o e nb=>hideAll_get _ (S.ext.keep b o e nb) fun hb=>(by replace e:=(hown b hb)▸e; exact zaA e),S.ext.fresh⟩
 exact⟨x1.trans S'.ext,S'.ok,S.same.trans ⟨S'.same.1,S'.same.2.1,S'.same.2.2⟩,S'.eok,S.fresh,S.base,S.nodup⟩
theorem Sit.own_cell (S:Sit X fs vars env m₀ s₀ ρ σ m s) {b:Addr} (hb:b∈env.locals::zfg vars env):b=env.locals∨∃ v,s.heap.IsCell b v:=by
 refine Or.elim (List.mem_cons.mp hb) ?_ ?_
 intro nm
 subst nm
 rotate_left
 intro hb
 rotate_left
 ·exact .inl rfl
 ·refine zao (List.mem_filterMap.mp hb) fun x hx e=>?_
  split at e
  ·rename_i hk
   obtain⟨i,hi,rfl⟩:=List.getElem_of_mem hx
   have hil:i < ρ.length:=by refine S.eok.len.symm▸?_; exact hi
   refine zao S.eok.vars fun lm hns hv=>?_
   have w:=hv i _ _ (List.getElem?_eq_getElem hi) (List.getElem?_eq_getElem hil)
   unfold zcE at w
   replace w:=hk▸w
   refine zc0 w ?_
   clear w
   intro c v₀ a1 a2 _
   replace a1:=e▸a1
   have ee:=Option.some.inj a1
   clear a1
   subst ee
   exact .inr ⟨v₀,a2⟩
  ·exact zaA e
theorem Sit.on_aside {ρ':Env}{σ':List C}{m':AM}{s':Shared} (S:Sit X fs vars env m₀ s₀ ρ σ m s) (S':Sit X fs vars env m { s with heap:=zeH vars env s.heap } ρ' σ' m' s') {a:Addr} (x:Aside X fs m s.heap a) (hl:a≠env.locals) (hc:∀ v,¬ s.heap.IsCell a v) :
  Aside X fs m' s'.heap a∧m <+: m'∧(∀ o,s.heap.get? a=some o→s'.heap.get? a=some o)∧zb2 s.heap s'.heap:=by
 have hin:∀ b o,s.heap.get? b=some o→b≠env.locals→(∀ v,¬ s.heap.IsCell b v)→(zeH vars env s.heap).get? b=some o:=fun b o e h1 h2=>hideAll_get _ e fun hb=>by
  refine Or.elim (S.own_cell hb) ?_ ?_
  intro q
  rotate_left
  intro nm
  refine zaF nm ?_
  clear nm
  intro v q
  rotate_left
  ·exact h1 q
  ·exact h2 v q
 refine zao x.ex fun o e1 e2=>?_
 have ha:=S'.ext.keep a o (hin a o e1 hl hc) x.nm
 refine⟨⟨S'.ext.notMut (hin a o e1 hl hc) x.nm,x.nb,x.nf,o,ha,e2⟩,S'.ext.pre,fun o' e'=>?_,fun b ob eb fb=>?_⟩
 ·rw[e1] at e'; have ee:=Option.some.inj e'; clear e'; subst ee; exact ha
 ·refine S'.ext.keep b ob (hin b ob eb (fun q=>?_) fun v q=>?_) fun q=>S.ok.sto.frz q eb fb
  ·subst q
   refine zao S.eok.vars fun lm nn0 ua=>?_
   refine zdb nn0 ?_
   clear nn0
   intro o2 es ep d1 d2 _
   rw[d1] at eb; have ee:=Option.some.inj eb; clear eb; subst ee; exact zbG d2 fb
  ·refine zao q ?_
   clear q
   intro o2 d1 d2
   rw[d1] at eb; have ee:=Option.some.inj eb; clear eb; subst ee; exact zcm d2 fb

theorem Sit.adopt (S:Sit X fs vars env m₀ s₀ ρ σ m s) {D:Addr}{ys:List Value}{nD:Nat}{us:List V} (x:Aside X fs m s.heap D) (h0:s₀.heap.get? D=none) (hl:env.locals≠D) (hD:s.heap.get? D=some (zdh ys nD)) (r:Reps X.F m s.heap ys us) :
  Sit X fs vars env m₀ s₀ ρ (σ++[.list us]) (m++[(D,[D])]) s∧Rep X.F (m++[(D,[D])]) s.heap (.ref D) (.loc σ.length):=by
 have pr:m <+: m++[(D,[D])]:=List.prefix_append ..
 have K:=S.ok.adopt (c:=.list us) x.nm x.nb hD (zay _ _) x.nf ⟨rfl,ys,nD,hD,r.ext pr (fun ua ub e uc=>e)⟩
 refine⟨⟨⟨S.ext.pre.trans pr,S.ext.keep,fun b hb=>?_⟩,K,S.same,?_,S.fresh,S.base,S.nodup⟩,?_⟩
 ·rcases Mut.push.mp hb with hb | hb
  ·exact S.ext.fresh b hb
  ·refine(List.mem_singleton.mp hb).symm▸?_; exact .inr h0
 ·obtain⟨h1,b,c,d,f,i,lm,hns,g⟩:=S.eok
  refine⟨h1,b,c,d,fun q=>?_,i,lm,hns,fun j y o hy ho=>?_⟩
  ·rcases Mut.push.mp q with q | q
   ·exact f q
   ·exact hl (List.mem_singleton.mp q)
  ·have v:=g j y o hy ho
   have hcell:∀ c v₀,s.heap.IsCell c v₀→¬ Mut m c→¬ Mut (m++[(D,[D])]) c:=fun c v₀ hc hm q=>by
    rcases Mut.push.mp q with q | q
    ·exact hm q
    ·have q:=List.mem_singleton.mp q
     subst q
     exact zem hD v₀ hc
   exact v.gen pr (fun ua ub e uc=>e) rfl fun c v₀ ua q dm ub=>⟨q,hcell c v₀ q dm⟩
 ·refine S.ok.sto.len▸?_
  exact .loc (p:=(D,[D])) (zdy _ _)
end

section
variable {X:Stat} (F:Facts X) {prim:Bool}{lo:Lo}{n:Nat} (L:LoOK X lo prim n) (W:WFacts X) (P:PrimOK X prim) (G:ExcOK X)
include F L W P G
theorem zmc {fs:List PySem.Env}{vars:List (List Nat)}{env:PySem.Env}{m₀ m1:AM}{s₀ s3:Shared}{i:Nat}{ρ:Env}{v:V}{σ1:List C}{r:R (Fl×Env)} (hr:r=zlg i ρ v σ1) (hi:i < ρ.length) (S3:Sit X fs vars env m₀ s₀ (ρ.set i (some v)) σ1 m1 s3):PS X fs vars env m₀ s₀ r .next s3:=
 zbS S3 (by rw[hr]; unfold zlg; rw[if_pos hi])
set_option tactic.hygienic true in
theorem zod {cap:List Nat}{elt it:E}{i:Nat}{x:Str}{np p:Pos}{pe:Expr}{fs:List PySem.Env}{A:Around}{env:PySem.Env}{vars:List (List Nat)}{ρ:Env}{m₀ m:AM}{σ:List C}{s₀ s:Shared}
  (h1:zdl vars env.scope i x=true) (h2:okE X.T vars env.scope (.comp cap elt it) pe=true) (h3:zpL env.scope x np pe=true) (S:Sit X fs vars env m₀ s₀ ρ σ m s) (l:Lim prim A n) (hfr:A.frames=some fs)
  (hn:evS X.T prim lo (.asg i (.comp cap elt it)) ρ σ≠.stuck) :
  wpAny (model X.prog X.w) A (exec (.Assign [.Name x np] pe p) env) (PS X fs vars env m₀ s₀ (evS X.T prim lo (.asg i (.comp cap elt it)) ρ σ)) (PX X fs s₀ (evS X.T prim lo (.asg i (.comp cap elt it)) ρ σ)) s:=by
 refine zrs (zjz h2) fun e t tp iter sc' pp ll ee0 g0 g1 gok g3 g4 g5 g6 g7 g8 g9=>?_
 subst ee0
 refine zb8 (zbQ h1) fun y hy ee0 ua=>?_
 subst ee0
 have hil:i < ρ.length:=by rw[S.eok.len]; exact(List.getElem?_eq_some_iff.mp hy).1
 have hsw:swapsWith (.ListComp e [⟨.Name t tp,iter,[],0⟩] sc' pp) (some (.Name (zaa y) np)) p.line env=pure true:=by
  have h3:((env.scope.names.lookup (zaa y) == some .local)&&(np.line == (Expr.ListComp e [⟨.Name t tp,iter,[],0⟩] sc' pp).pos.line)&&!(sc'.names.any fun(n,k)=>n == zaa y&&(k == .local||k == .cell)))=true:=h3
  show(pure (env.blockKind == .function&&env.kindOf (zaa y) == some .local&&np.line == (Expr.ListComp e [⟨.Name t tp,iter,[],0⟩] sc' pp).pos.line
   && !(sc'.names.any fun(n,k)=>n == zaa y&&(k == .local||k == .cell))):Sem Bool)=pure true
  congr 1
  simp only[Bool.and_eq_true] at h3 ⊢
  refine⟨⟨⟨?_,h3.1.1⟩,h3.1.2⟩,h3.2⟩
  unfold Env.blockKind
  rw[S.eok.kind]; rfl
 rw[exec_Assign_Name_used _ _ _ _ hsw]
 refine wpAny_bind (wpAny_standAt (wpAny_bind ?_))
 show wpAny _ A (do let _ ← comprehension (.ListComp e [⟨.Name t tp,iter,[],0⟩] sc' pp) sc' env _ (newList []) false (eval iter env) (some (assign (.Name (zaa y) np) env))) _ _ s
 refine wpAny_bind (wpAny_mono (wpAny_comprehension_free (use:=some (assign (.Name (zaa y) np) env)) (Q:=fun ua s'=>PS X fs vars env m₀ s₀ (evS X.T prim lo (.asg i (.comp cap elt it)) ρ σ) .next s') rfl (fun x=>zdr g8 x) (zgu S.eok g1 g3 g9) g6 (fun x hx hl=>hl▸(g7 x hx).2) ?_)
  (fun ua s' hq=>wpAny_pure (wpAny_pure hq)) fun ua ub e=>e)
 have hr0:evS X.T prim lo (.asg i (.comp cap elt it)) ρ σ=(evE X.T prim lo it ρ σ).bind fun u σ1=>(zkl lo cap elt ρ u σ1).bind (zlg i ρ):=by
  show((evE X.T prim lo it ρ σ).bind fun u σ1=>zkl lo cap elt ρ u σ1).bind (zlg i ρ)=_
  rw[zce]
 refine zds S hr0 hn (fun hf=>(zbM F L W P it).1 g0 (S.begin l hfr) hf) fun u σ1 m1 val s1 S1 x1 ra hr=>?_
 have hf:=zaE (hr▸hn)
 unfold zkl at hf hr
 split at hf
 ·rename_i src ρ' hsrc hcap
  split at hf
  ·rename_i us σ2 hcomp
   by_cases hl:us.length≤LIM
   ·rw[hsrc,hcap] at hr
    dsimp only at hr
    rw[hcomp] at hr
    dsimp only at hr
    rw[if_pos hl] at hr
    have hr:evS X.T prim lo (.asg i (.comp cap elt it)) ρ σ=zlg i ρ (.loc σ2.length) (σ2++[.list us]):=hr
    refine zfx S1.ok ra hsrc fun I h' hst hI0 hit hIe=>?_
    refine zgt (s:={ s1 with heap:=h' }) (RR:=fun acc C=>compPost (model X.prog X.w) A _ (some (assign (.Name (zaa y) np) env)) _ acc C) L l hfr g1 hcap gok g3 g5 g6 (fun y hy=>(g7 y hy).1) hl S1.ok S1.eok hst ⟨rfl,rfl,rfl⟩ hI0 hit hIe hcomp ?_
    intro D Cc m2 s2 ys nD lm x2 y2 k2 hD rD aD aC hns eo hD0 hC0 hDC
    have S2:Sit X fs vars env m₀ s₀ ρ σ2 m2 s2:=S1.on x2 k2 y2
    have hz:∀ a,s1.heap.get? a=none→s₀.heap.get? a=none∧env.locals≠a:=fun a h0=>by
     refine⟨?_,fun q=>?_⟩
     ·induction q:s₀.heap.get? a using Option.casesOn with
      | none=>rfl
      | some o=>
       by_cases hM:Mut m₀ a
       ·obtain⟨o',e'⟩:=S1.ok.sto.live (hM.mono S1.ext.pre)
        rw[h0] at e'; exact zaA e'
       ·have:=S1.ext.keep a o q hM
        rw[h0] at this; exact zaA this
     ·refine zao S1.eok.vars fun lm nn0 ua=>?_
      refine zgT nn0 ?_
      clear nn0
      intro o2 es ep d1 _
      rw[q,h0] at d1; exact zaA d1
    obtain⟨S3,r3⟩:=S2.adopt aD (hz D hD0).1 (hz D hD0).2 hD rD
    show wpAny _ A (assign (.Name (zaa y) np) env (.ref D)) _ _ s2
    refine wpAny_assign_Name (zbR S3 h1 r3 fun s4 S4 kt kk=>?_)
    have nc4:s4.heap.Ns Cc lm:=hns.at' fun o e=>kk Cc o (Ne.symm (hz Cc hC0).2) (zd5 hns) e
    refine zc1 lm nc4 (fun h5 hs5=>?_)
    have aC4:Aside X fs (m2++[(D,[D])]) s4.heap Cc:=by
     refine zdb (id nc4) fun o2 es ep d1 d2 ua=>?_
     refine⟨fun q=>?_,aC.nb,aC.nf,o2,d1,zbG d2⟩
     rcases Mut.push.mp q with q | q
     ·exact aC.nm q
     ·exact hDC (List.mem_singleton.mp q).symm
    exact zmc F L W P G hr hil (S4.but aC4 hs5.extBut (hz Cc hC0).1 (hz Cc hC0).2 (zd5 nc4) s4.toks)
   ·rw[if_neg hl] at hf; exact zab hf
  ·exact zab hf
 ·exact zab hf
end
end
section
open W Calls PyProof.Rows
inductive NamesOk (vars:List (List Nat)) (sc:Scope):List Nat→List Str→Prop
 | nil:NamesOk vars sc [] []
 | cons {i:Nat}{x:Str}{is:List Nat}{xs:List Str}:zdl vars sc i x=true→NamesOk vars sc is xs→NamesOk vars sc (i::is) (x::xs)
theorem NamesOk.append {vars:List (List Nat)}{sc:Scope}{is js:List Nat}{xs ys:List Str} (a:NamesOk vars sc is xs) (b:NamesOk vars sc js ys):NamesOk vars sc (is++js) (xs++ys):=by
 induction a with
 | nil=>exact b
 | cons h _ ih=>exact .cons h ih
theorem NamesOk.reverse {vars:List (List Nat)}{sc:Scope}{is:List Nat}{xs:List Str} (a:NamesOk vars sc is xs):NamesOk vars sc is.reverse xs.reverse:=by
 induction a with
 | nil=>exact .nil
 | cons h _ ih=>rw[List.reverse_cons,List.reverse_cons]; exact ih.append (.cons h .nil)
theorem NamesOk.length {vars:List (List Nat)}{sc:Scope}{is:List Nat}{xs:List Str} (a:NamesOk vars sc is xs):xs.length=is.length:=by
 induction a with
 | nil=>rfl
 | cons _ _ ih=>simp[ih]
theorem zjI {vars:List (List Nat)}{sc:Scope}{f:Expr→Option Str} (hf:∀ x p,f (.Name x p)=some x∨f (.Name x p)=none):∀ {is:List Nat}{ts:List Expr},ziN vars sc is ts=true→(ts.filterMap f).length=ts.length→NamesOk vars sc is (ts.filterMap f)
 | [],[],_,_=>.nil
 | [],_::_,h,_=>by exact(Bool.false_ne_true h).elim
 | i::is,[],h,_=>by exact(Bool.false_ne_true h).elim
 | i::is,t::ts,h,hl=>by
  obtain⟨_,b⟩:=zeo h
  refine zaZ (b 0 i rfl) fun x p h1 h2=>?_
  have ee:=Option.some.inj h1
  clear h1
  subst ee
  have h3:ziN vars sc is ts=true:=by
   have h:((match vars[i]? with
    | some l=>nm l x
    | none=>false)&&(sc.names.lookup x == some .local)&&ziN vars sc is ts)=true:=h
   exact(Bool.and_eq_true_iff.mp h).2
  rcases hf x p with q | q
  ·rw[List.filterMap_cons_some q] at hl ⊢
   exact .cons h2 (zjI hf h3 (by exact Nat.succ.inj hl))
  ·rw[List.filterMap_cons_none q] at hl
   have:=List.length_filterMap_le f ts
   simp at hl
   omega
theorem zsJ {a b:Nat}{x:Bool} (h:¬(a != b||x)=true):a=b:=by
 simp only[Bool.or_eq_true,not_or,bne_iff_ne,ne_eq,Decidable.not_not] at h; exact h.1
theorem zsK {a:Nat}{x y:Bool} (h:¬(!(a == 2||a == 3)||x||y)=true):a=2∨a=3:=by
 simp only[Bool.or_eq_true,not_or,Bool.not_eq_true',Bool.not_eq_false,beq_iff_eq] at h; exact h.1.1
theorem zsL {a b:Bool} (h:(a||!b)=true) (k:¬a=true):¬b=true:=fun e=>k (by simpa [e] using h)
noncomputable def zvp (vars:List (List Nat)) (env:PySem.Env) (is:List Nat) (r:Sem (Option (List Str))):Prop:=
 r=pure none∨∃ names,r=pure (some names)∧NamesOk vars env.scope is names∧(is.length=2∨is.length=3)
theorem zha {vars:List (List Nat)}{env:PySem.Env}{is:List Nat}{ts us:List Expr}{k kk:Nat}{tp up:Pos} (h1:ziN vars env.scope is ts=true) (h5:zln (.Tuple us kk up)=true) :
  zvp vars env is (swappedStores [.Tuple ts k tp] (.Tuple us kk up) env):=by
 delta swappedStores
 dsimp only
 refine zc3 (fun ua=>.inl rfl) fun c1=>zc3 (fun ua=>.inl rfl) fun ua=>zc3 (fun ua=>.inl rfl) fun c3=>zc3 (fun ua=>.inl rfl) fun c4=>zc3 (fun c5=>absurd c5 (zsL h5 c4)) fun ua=>?_
 refine .inr ⟨_,rfl,zjI (fun x p=>?_) h1 (zsJ c3),(zeo h1).1▸zsK c1⟩
 exact zc3 (P:=fun r=>r=some x∨r=none) (fun ua=>.inl rfl) fun ua=>.inr rfl
theorem ziV {X:Stat}{fs:List PySem.Env}{vars:List (List Nat)}{env:PySem.Env}{m₀ m:AM}{s₀:Shared}{σ:List C}{ρ1:Env}{A:Around}{E:Value→Shared→Prop}{is:List Nat}{xs:List Str} (a:NamesOk vars env.scope is xs) :
  ∀ {vals:List Value}{vs:List V}{ρ:Env}{s:Shared},Sit X fs vars env m₀ s₀ ρ σ m s→Reps X.F m s.heap vals vs→za5 is vs ρ=some ρ1→∀ {M:Model}{Q:Unit→Shared→Prop},
  (∀ s',Sit X fs vars env m₀ s₀ ρ1 σ m s'→Q () s')→wpAny M A (assignInOrder (xs.map fun x=>bindName env x) vals) Q E s:=by
 induction a with
 | nil=>
  intro vals vs ρ s S r e M Q hq
  refine bc fun hN=>?_
  induction vs using List.casesOn with
  | cons _ _=>exact zaA e
  | nil=>cases r; have ee:=Option.some.inj e; clear e; subst ee; refine hN ?_; exact wpAny_pure (hq s S)
 | @cons i x is xs h _ ih=>
  intro vals vs ρ s S r e M Q hq
  refine bc fun hN=>?_
  induction vs using List.casesOn with
  | nil=>exact zaA e
  | cons v vs=>
   cases r with
   | @cons y _ ys _ r rs=>
    have e:za5 is vs (ρ.set i (some v))=some ρ1:=e
    refine hN ?_
    show wpAny M A (holding ys (bindName env x y) >>= fun ua=>assignInOrder (xs.map fun x=>bindName env x) ys) Q E s
    refine wpAny_bind (wpAny_holding (wpAny_bindName (zbR S h r fun s' S' kt ua=>?_)))
    exact ih S' (rs.ext List.prefix_rfl kt) e hq

section
variable {X:Stat} (F:Facts X) {prim:Bool}{lo:Lo}{n:Nat} (L:LoOK X lo prim n) (W:WFacts X) (P:PrimOK X prim) (G:ExcOK X)
include F L W P G
theorem zmd {T:Tab}{vars:List (List Nat)}{sc:Scope}{e:E}{el:Expr}{g:List Comprehension}{sc':Scope}{p:Pos} (h:okE T vars sc e (.ListComp el g sc' p)=true):(∃ cap elt it,e=.comp cap elt it)∨e=.bad:=by
 refine IfT.out ?_ h
 clear h
 induction e using Lake.E.casesOn with
 | comp cap elt it=>exact .mk fun ua=>.inl ⟨_,_,_,rfl⟩
 | bad=>exact .mk fun ua=>.inr rfl
 | c v=>induction v using V.casesOn <;> exact True.intro
 | g n=>exact .mk fun h=>zao (zr3 h) fun ua ub h=>(Bool.false_ne_true h).elim
 | _=>exact True.intro
theorem zsM (i:Nat) (e:E):PSt X prim lo n (.asg i e):=by
 intro ps fs outer A env vars ρ m₀ m σ s₀ s hok S l hfr hfs hfl hn
 refine zo1 (zpb hok) fun x np pe p ee0 h1 h2 h3=>?_
 subst ee0
 have plain:zdc pe=false→wpAny (model X.prog X.w) A (exec (.Assign [.Name x np] pe p) env) (PS X fs vars env m₀ s₀ (evS X.T prim lo (.asg i e) ρ σ)) (PX X fs s₀ (evS X.T prim lo (.asg i e) ρ σ)) s:=fun hc=>by
  refine zb8 (zbQ h1) fun y hy ua ub=>?_
  refine wpAny_Assign_Name (zds S rfl hn (fun hf=>(zbM F L W P e).1 h2 (S.begin l hfr) hf) fun v σ1 m1 val s1 S1 x1 r hr=>?_) (zaX hc)
  exact zhY S1 h1 r fun s2 S2=>zmc F L W P G hr (by rw[S.eok.len]; exact(List.getElem?_eq_some_iff.mp hy).1) S2
 induction hc:zdc pe using Bool.casesOn with
 | false=>exact plain hc
 | true=>
  induction pe using PySem.Expr.casesOn with
  | ListComp el g sc' pp=>
   refine Or.elim (zmd F L W P G h2) ?_ ?_
   intro nm
   refine zrn nm ?_
   clear nm
   intro cap elt it ee0
   subst ee0
   rotate_left
   intro nm
   subst nm
   rotate_left
   ·exact zod F L W P G h1 h2 h3 S l hfr hn
   ·exact absurd rfl hn
  | SetComp _ _ _ _=>exact(Bool.false_ne_true h3).elim
  | DictComp _ _ _ _ _=>exact(Bool.false_ne_true h3).elim
  | _=>exact(Bool.false_ne_true hc).elim
omit F L W P G in
theorem ziW {is:List Nat}{ρ:Env}{v:V}{σ:List C}{r:R (Fl×Env)} (h:r=zgV is ρ v σ) (hn:r≠.stuck):∃ vs ρ1,zee σ v=some vs∧za5 is vs ρ=some ρ1∧r=.ok (.next,ρ1) σ:=by
 subst h
 refine IfS.out (P:=fun r=>∃ vs ρ1,zee σ v=some vs∧za5 is vs ρ=some ρ1∧r=.ok (.next,ρ1) σ) ?_ hn
 clear hn
 delta zgV
 generalize zee σ v=o
 induction o using Option.casesOn with
 | none=>exact True.intro
 | some vs=>
  dsimp only
  generalize hq:za5 is vs ρ=q
  induction q using Option.casesOn with
  | none=>exact True.intro
  | some ρ1=>exact zki _ _ rfl hq rfl
set_option tactic.hygienic true in
theorem zqn (is:List Nat) (e:E):PSt X prim lo n (.asgT is e):=by
 intro ps fs outer A env vars ρ m₀ m σ s₀ s hok S l hfr hfs hfl hn
 refine zuw (zp3 hok) fun ts k tp pe p ee0 h1 h2 h3 h4 h5=>?_
 subst ee0
 obtain⟨ht1,ht2⟩:=zeo h1
 have he:=zfc (env:=env) h1
 have fin:∀ v σ1 m1 val s1,Sit X fs vars env m₀ s₀ ρ σ1 m1 s1→Rep X.F m1 s1.heap val v→evS X.T prim lo (.asgT is e) ρ σ=zgV is ρ v σ1→∃ vs ρ1,zee σ1 v=some vs∧za5 is vs ρ=some ρ1∧vs.length=is.length∧evS X.T prim lo (.asgT is e) ρ σ=.ok (.next,ρ1) σ1:=fun v σ1 m1 val s1 S1 r hr=>by
  refine zc0 (ziW hr hn) fun vs ρ1 hvs hρ hr=>zo2 vs ρ1 hvs hρ ?_ hr
  have:∀ (is:List Nat) (vs:List V) (ρ ρ1:Env),za5 is vs ρ=some ρ1→vs.length=is.length:=by
   intro is
   induction is with
   | nil=>intro vs ρ ρ1 h; cases vs with | nil=>rfl | cons _ _=>exact zaA h
   | cons i is ih=>intro vs ρ ρ1 h; cases vs with | nil=>exact zaA h | cons v vs=>simp[ih vs _ _ h]
  exact this is vs ρ ρ1 hρ
 have unswapped:swappedStores [.Tuple ts k tp] pe env=pure none→wpAny (model X.prog X.w) A (exec (.Assign [.Tuple ts k tp] pe p) env) (PS X fs vars env m₀ s₀ (evS X.T prim lo (.asgT is e) ρ σ)) (PX X fs s₀ (evS X.T prim lo (.asgT is e) ρ σ)) s:=fun hw=>by
  refine Assign_Tuple (zds S rfl hn (fun hf=>(zbM F L W P e).1 h2 (S.begin l hfr) hf) fun v σ1 m1 val s1 S1 x1 r hr=>?_) (show swapsWith pe (some (.Tuple ts k tp)) p.line env=pure false from zaX h4) hw
  refine ziL (fin v σ1 m1 val s1 S1 r hr) fun vs ρ1 hvs hρ hlen hr=>?_
  rw[arm_assign_Tuple]
  refine wpAny_bind (wpAny_standAt ?_)
  unfold unpack
  refine he.symm▸?_
  have hidx:(ts.map fun t=>((false:Bool),assign t env)).findIdx? (·.1)=none:=by
   rw[List.findIdx?_eq_none_iff]
   intro x hx
   refine zao (List.mem_map.mp hx) fun t ua ee0=>?_
   subst ee0
   rfl
  rw[hidx,List.length_map]
  refine wpAny_bind (wpAny_holding (ze4 S1 l.hand r hvs (by refine hlen.symm▸?_; refine ht1.symm▸?_; with_reducible rfl) fun xs s2 S2 rs=>?_))
  refine List.map_map.symm▸?_
  exact zl7 is h1 S2 rs hρ fun s3 S3=>zbS S3 hr
 induction pe using PySem.Expr.casesOn with
 | Tuple us kk up=>
  refine Or.elim (zha (k:=k) (tp:=tp) h1 h5) ?_ ?_
  intro hw
  rotate_left
  intro nm
  refine zb8 nm ?_
  clear nm
  intro names hw hnm hlen
  rotate_left
  ·exact unswapped hw
  ·refine Assign_Tuple_swapped (zds S rfl hn (fun hf=>(zbM F L W P e).1 h2 (S.begin l hfr) hf) fun v σ1 m1 val s1 S1 x1 r hr=>?_) (show swapsWith _ (some (.Tuple ts k tp)) p.line env=pure false from zaX h4) hw
   refine ziL (fin v σ1 m1 val s1 S1 r hr) fun vs ρ1 hvs hρ hl2 hr=>?_
   refine ze4 S1 l.hand r hvs (by refine hl2.symm▸?_; refine hnm.length.symm▸?_; with_reducible rfl) fun xs s2 S2 rs=>?_
   exact ziV hnm.reverse S2 rs.reverse (ziU h3 hlen hρ) fun s3 S3=>zbS S3 hr
 | _=>exact unswapped rfl
end
end
section
open W Calls PyProof.Rows
section
variable {X:Stat} (F:Facts X) {prim:Bool}{lo:Lo}{n:Nat} (L:LoOK X lo prim n) (W:WFacts X) (P:PrimOK X prim) (G:ExcOK X)
include F L W P G
theorem zqo (a:E) (k:Nat) (e:E):PSt X prim lo n (.setA a k e):=by
 intro ps fs outer A env vars ρ m₀ m σ s₀ s hok S l hfr hfs hfl hn
 refine zut (zp4 hok) fun o op pe p ee0 h1 h2 h3 h4=>?_
 subst ee0
 refine plainObj_wpAny_Assign_Attribute (zds S rfl hn (fun hf=>(zbM F L W P e).1 h2 (S.begin l hfr) hf) fun v σ1 m1 val s1 S1 x1 r hr=>?_) (zaX h3)
 refine zds S1 hr hn (fun hf=>(zbM F L W P a).1 h1 (S1.begin l hfr) hf) fun o' σ2 m2 val2 s2 S2 x2 r2 hr2=>?_
 refine zdP F W S2 h4 r2 (r.ext x2.pre (S1.ok.sto.keepT x2)) (zaE (hr2▸hn)) fun σ3 s3 he S3=>zbS S3 ?_
 refine hr2.symm▸?_; refine he.symm▸?_; rfl
theorem zqp (a:E) (k:Nat) (op:Operator) (e:E):PSt X prim lo n (.augA a k op e):=by
 intro ps fs outer A env vars ρ m₀ m σ s₀ s hok S l hfr hfs hfl hn
 refine bc fun hN=>?_
 refine zo1 (zp6 hok) fun o ap pe p ee0 h1 h2 h4=>?_
 subst ee0
 refine hN ?_
 refine wpAny_AugAssign_AttributeAny (zds S rfl hn (fun hf=>(zbM F L W P a).1 h1 (S.begin l hfr) hf) fun ov σ1 m1 val s1 S1 x1 r hr=>?_)
 refine bc fun hN=>?_
 refine zaF (zbh.ofOpt (zaE (hr▸hn))) fun c hc=>?_
 replace hr:=hc▸hr
 have hr:evS X.T prim lo (.augA a k op e) ρ σ=(evE X.T prim lo e ρ σ1).bind fun v σ2=>(zpE op c v σ2).bind fun r σ2=>(zcc σ2 ov k r).bind (zlh ρ):=hr
 refine zc0 (zhM hc) fun nn as ee0 e2 e3=>?_
 subst ee0
 have r':=r
 refine zb8 (S1.ok.loc r' e2) fun q ee0 hq rst=>?_
 subst ee0
 refine zo0 rst ?_
 clear rst
 intro dx es en f1 f2 f3 f4 f5
 refine zao ((f4.look h4).1 c e3) fun en' g1 g2=>?_
 refine hN ?_
 refine zhV W (S1.ok.kin F) f3 h4 (zhU g1) (zgs g2) ?_
 have S1':Sit X fs vars env m₀ s₀ ρ σ1 m1 { s1 with toks:=s1.toks+1 }:=S1.stay (h':=s1.heap) (fun ua ub e=>e) _
 refine zds S1' hr hn (fun hf=>(zbM F L W P e).1 h2 (S1'.begin l hfr) hf) fun v σ2 m2 val2 s2 S2 x2 r2 hr2=>?_
 have kt:=S1'.ok.sto.keepT x2
 refine bc fun hN=>?_
 refine zaF (zbh.ofOpt (zaE (hr2▸hn))) fun d hd=>?_
 refine zaW (zjA hd) fun ee0 rst=>?_
 subst ee0
 refine zc0 rst ?_
 clear rst
 intro x y ef0 ef1 ef2
 subst ef0
 subst ef1
 subst ef2
 have g2':=g2.ext (h':=s2.heap) x2.pre kt
 refine zaF g2'.inv fun t0 q0=>?_
 refine hN ?_
 refine q0.symm▸?_
 refine bc fun hN=>?_
 refine zaF r2.inv fun t1 q1=>?_
 subst q1
 refine hN ?_
 refine PyProof.Rows.iadd_int ?_
 have S2':Sit X fs vars env m₀ s₀ ρ σ2 m2 { s2 with toks:=s2.toks+1 }:=S2.stay (h':=s2.heap) (fun ua ub e=>e) _
 have hr3:evS X.T prim lo (.augA a k .Add e) ρ σ=(zcc σ2 (.loc nn) k (.int (x+y))).bind (zlh ρ):=by
  refine hr2.symm▸?_
  unfold zpE
  refine hd.symm▸?_; rfl
 refine zdP F W S2' h4 (r.ext (h':=s2.heap) x2.pre kt) (.int _ _) (zaE (hr3▸hn)) fun σ3 s3 he S3=>zbS S3 ?_
 refine hr3.symm▸?_; refine he.symm▸?_; rfl
theorem zqq (a i e:E):PSt X prim lo n (.setI a i e):=by
 intro ps fs outer A env vars ρ m₀ m σ s₀ s hok S l hfr hfs hfl hn
 refine bc fun hN=>?_
 refine zuv (zp5 hok) fun o sl sp pe p ee0 h1 h2 h3 h4=>?_
 subst ee0
 refine hN ?_
 refine wpAny_Assign_Subscript (zds S rfl hn (fun hf=>(zbM F L W P e).1 h3 (S.begin l hfr) hf) fun v σ1 m1 val s1 S1 x1 r hr=>?_) (zaX h4)
 refine zds S1 hr hn (fun hf=>(zbM F L W P a).1 h1 (S1.begin l hfr) hf) fun o' σ2 m2 val2 s2 S2 x2 r2 hr2=>?_
 refine zds S2 hr2 hn (fun hf=>(zbM F L W P i).1 h2 (S2.begin l hfr) hf) fun j σ3 m3 val3 s3 S3 x3 r3 hr3=>?_
 have rv:=(r.ext x2.pre (S1.ok.sto.keepT x2)).ext x3.pre (S2.ok.sto.keepT x3)
 refine zga S3 (r2.ext x3.pre (S2.ok.sto.keepT x3)) r3 rv (zaE (hr3▸hn)) fun σ4 s4 he S4=>zbS S4 ?_
 refine hr3.symm▸?_; refine he.symm▸?_; rfl

theorem zme {t:E}{b:Ss}{t':Expr}{b':List Stmt}{fs outer:List PySem.Env}{A:Around}{env:PySem.Env}{vars:List (List Nat)}{m₀:AM}{s₀:Shared}{r:R (Fl×Env)} (h1:okE X.T vars env.scope t t'=true) (h2:okSs X.T vars env.scope b b'=true)
  (l:Lim prim A n) (hfr:A.frames=some fs) (hfs:fs=env::outer) (hfl:env.frame=some env.locals) (hn:r≠.stuck) {N:Nat}{s:Shared} (hI:∃ ρ σ m,Sit X fs vars env m₀ s₀ ρ σ m s∧zf3 lo t b N ρ σ=r) :
  codeAny (model X.prog X.w) A (.whileLoop t' b' [] env) (fun res s'=>match res with | .ok f=>PS X fs vars env m₀ s₀ r f s' | .error e=>cameBackBy (model X.prog X.w) A env (PX X fs s₀ r) e s') s:=by
 refine codeAny_whileLoop (fun N s=>∃ ρ σ m,Sit X fs vars env m₀ s₀ ρ σ m s∧zf3 lo t b N ρ σ=r) (fun N s ww=>zgT ww fun ρ σ m S hr=>?_) N hI
 have err:∀ {α:Type}{r1:R α}{x:Value}{s1 s2:Shared},zc2 s₀ s1→(r1=.exc→r=.exc)→PX X fs s1 r1 x s2→notedBy (model X.prog X.w) A env (fun e s'=>cameBackBy (model X.prog X.w) A env (PX X fs s₀ r) e s') x s2:=fun hS he hx=>by
  have hx:=hx.at hS he
  subst hfs
  exact zjH hfr hfl hx fun e s' hv xt ys=>by subst hv; exact zmb hx.1 xt ys fun s'' h=>h
 induction N using Nat.casesOn with
 | zero=>exact absurd hr.symm hn
 | succ N=>
  rw[zhC] at hr
  have hf:zbh (lo.tr t ρ σ):=by
   induction q:lo.tr t ρ σ using R.casesOn with
   | ok=>exact zdp _ _
   | exc=>exact zfe
   | fin=>rw[q] at hr; exact absurd hr.symm hn
   | stuck=>rw[q] at hr; exact absurd hr.symm hn
  refine wpAny_mono (L.tr h1 S.eok S.ok l hfr hf) (fun c s1 ⟨σ1,hc,m1,x,k,y⟩=>?_) fun x s1 hx=>err S.same (fun q=>by rw[q] at hr; exact hr.symm) hx
  have S1:=S.on x k y
  rw[hc] at hr
  induction c using Bool.casesOn with
  | true=>
   dsimp only at hr ⊢
   rw[if_pos rfl]
   have hb:lo.st b ρ σ1≠.stuck:=fun q=>by rw[q] at hr; exact hn hr.symm
   refine wpAny_mono (L.st h2 S1 l hfr hfs hfl hb) (fun f s2 hps=>?_) fun x s2 hx=>err (.refl _) (fun q=>by rw[q] at hr; exact hr.symm) hx
   refine Or.elim hps ?_ ?_
   clear hps
   intro nm
   refine zld nm ?_
   clear nm
   intro fl ρ1 σ2 m2 e S2 hfl1
   rotate_left
   clear hps
   intro nm
   refine zb8 nm ?_
   clear nm
   intro bb e ee0 _
   subst ee0
   rotate_left
   ·rw[e] at hr
    induction fl using Fl.casesOn with
    | next=>subst hfl1; exact⟨N,Nat.lt_succ_self _,ρ1,σ2,m2,S2,hr⟩
    | brk=>subst hfl1; exact zbS S2 hr.symm
    | ret v=>
     refine zao hfl1 ?_
     clear hfl1
     intro val ee0 rr
     subst ee0
     exact .inl ⟨.ret v,ρ1,σ2,m2,hr.symm,S2,val,rfl,rr⟩
   ·rw[e] at hr
    exact absurd hr.symm hn
  | false=>
   dsimp only at hr ⊢
   rw[if_neg (by decide)]
   exact wpAny_execs_nil (zbS S1 hr.symm)
theorem zsN (t:E) (b:Ss):PSt X prim lo n (.whl t b):=by
 intro ps fs outer A env vars ρ m₀ m σ s₀ s hok S l hfr hfs hfl hn
 refine zdb (zr8 hok) fun t' b' p ee0 h1 h2=>?_
 subst ee0
 exact wpAny_While (zme F L W P G h1 h2 l hfr hfs hfl hn (N:=zd1) ⟨ρ,σ,m,S,rfl⟩)
theorem zmf {i:Nat}{b:Ss}{x:Str}{xp:Pos}{b':List Stmt}{fs outer:List PySem.Env}{A:Around}{env:PySem.Env}{vars:List (List Nat)}{m₀:AM}{s₀:Shared}{r:R (Fl×Env)}{src:Src}{I:Addr} (h1:zdl vars env.scope i x=true) (h2:okSs X.T vars env.scope b b'=true)
  (l:Lim prim A n) (hfr:A.frames=some fs) (hfs:fs=env::outer) (hfl:env.frame=some env.locals) (hn:r≠.stuck) (hI0:s₀.heap.get? I=none) (hIl:env.locals≠I) {N:Nat}{s:Shared}
  (hI:∃ ρ σ m j,Sit X fs vars env m₀ s₀ ρ σ m s∧zgU lo i b src N j ρ σ=r∧Aside X fs m s.heap I∧zcu X m s.heap src I j) :
  codeAny (model X.prog X.w) A (.forLoop (.Name x xp) (.ref I) b' [] env) (fun res s'=>match res with | .ok f=>PS X fs vars env m₀ s₀ r f s' | .error e=>cameBackBy (model X.prog X.w) A env (PX X fs s₀ r) e s') s:=by
 refine codeAny_forLoop (fun N s=>∃ ρ σ m j,Sit X fs vars env m₀ s₀ ρ σ m s∧zgU lo i b src N j ρ σ=r∧Aside X fs m s.heap I∧zcu X m s.heap src I j) (fun N s ww=>zo1 ww fun ρ σ m j S hr aI it=>?_) N hI
 have err:∀ {α:Type}{r1:R α}{x:Value}{s1 s2:Shared},zc2 s₀ s1→(r1=.exc→r=.exc)→PX X fs s1 r1 x s2→notedBy (model X.prog X.w) A env (fun e s'=>cameBackBy (model X.prog X.w) A env (PX X fs s₀ r) e s') x s2:=fun hS he hx=>by
  have hx:=hx.at hS he
  subst hfs
  exact zjH hfr hfl hx fun e s' hv xt ys=>by subst hv; exact zmb hx.1 xt ys fun s'' h=>h
 induction N using Nat.casesOn with
 | zero=>exact absurd hr.symm hn
 | succ N=>
  unfold zgU at hr
  induction hsrc:zef σ src j using Option.casesOn with
  | none=>replace hr:=hsrc▸hr; exact absurd hr.symm hn
  | some ov=>
   replace hr:=hsrc▸hr
   induction ov using Option.casesOn with
   | none=>
    refine zel S.ok it aI l.hand hsrc (fun v val h' tk hv=>by exact zaA hv) fun h' tk ua hk=>?_
    exact wpAny_execs_nil (zbS (S.but aI hk hI0 hIl (zbd it) tk) hr.symm)
   | some v=>
    refine zel S.ok it aI l.hand hsrc (fun v' val h' tk hv hk rv it' ex=>?_) fun h' tk hv ua=>by exact zhy hv
    have ee:=Option.some.inj hv
    clear hv
    subst ee
    dsimp only at hr
    have S1:=S.but aI hk hI0 hIl (zbd it) tk
    have aI1:Aside X fs m h' I:=by refine zao ex ?_; clear ex; intro o q1 q2; exact aI.set q1 q2
    refine wpAny_assign_Name (zbR S1 h1 rv fun s2 S2 kt kk=>?_)
    have keepI:∀ o,h'.get? I=some o→s2.heap.get? I=some o:=fun o e=>kk I o (Ne.symm hIl) (zbd it') e
    have it2:zcu X m s2.heap src I (j+1):=it'.ext List.prefix_rfl kt keepI
    have aI2:Aside X fs m s2.heap I:=by refine zao ex ?_; clear ex; intro o q1 q2; exact aI1.set (keepI o q1) q2
    have hb:lo.st b (ρ.set i (some v)) σ≠.stuck:=fun q=>by replace hr:=q▸hr; exact hn hr.symm
    refine wpAny_mono (L.st h2 S2.rebase l hfr hfs hfl hb) (fun f s3 hps=>?_) fun x s3 hx=>err (s1:={ s2 with heap:=zeH vars env s2.heap }) ⟨S2.same.1,S2.same.2.1,S2.same.2.2⟩ (fun q=>by replace hr:=q▸hr; exact hr.symm) hx
    refine Or.elim hps ?_ ?_
    clear hps
    intro nm
    refine zld nm ?_
    clear nm
    intro fl ρ1 σ2 m3 e S3' hfl1
    rotate_left
    clear hps
    intro nm
    refine zb8 nm ?_
    clear nm
    intro bb e ee0 _
    subst ee0
    rotate_left
    ·have S3:=S2.unbase S3'
     replace hr:=e▸hr
     induction fl using Fl.casesOn with
     | next=>
      subst hfl1
      refine zoZ (S2.on_aside S3' aI2 (Ne.symm hIl) (zbd it2)) fun aI3 pr3 kI3 kt3=>?_
      exact⟨N,Nat.lt_succ_self _,ρ1,σ2,m3,j+1,S3,hr,aI3,it2.ext pr3 kt3 kI3⟩
     | brk=>subst hfl1; exact zbS S3 hr.symm
     | ret v=>
      refine zao hfl1 ?_
      clear hfl1
      intro val ee0 rr
      subst ee0
      exact .inl ⟨.ret v,ρ1,σ2,m3,hr.symm,S3,val,rfl,rr⟩
    ·replace hr:=e▸hr
     exact absurd hr.symm hn
theorem zsO (i:Nat) (it:E) (b:Ss):PSt X prim lo n (.for_ i it b):=by
 intro ps fs outer A env vars ρ m₀ m σ s₀ s hok S l hfr hfs hfl hn
 refine zuv (zr9 hok) fun x xp it' b' p ee0 h1 h2 h3 h4=>?_
 subst ee0
 refine wpAny_For (zds S rfl hn (fun hf=>(zbM F L W P it).1 h2 (S.begin l hfr) hf) fun u σ1 m1 val s1 S1 x1 r hr=>?_) (fun y=>zdr h4 y)
 refine zaF (zbh.ofOpt (zaE (hr▸hn))) fun src hsrc=>?_
 have hil:i < ρ.length:=by
  refine zao (zbQ h1) fun y hy ua=>?_
  rw[S.eok.len]; exact(List.getElem?_eq_some_iff.mp hy).1
 have hr2:zgU lo i b src zbb 0 ρ σ1=evS X.T prim lo (.for_ i it b) ρ σ:=by
  rw[hr]
  unfold zo4
  rw[hsrc]
  show _=(if i < ρ.length then zgU lo i b src zbb 0 ρ σ1 else .stuck)
  rw[if_pos hil]
 refine zfx S1.ok r hsrc fun I h' hst hI0 hit hIe=>?_
 have S2:Sit X fs vars env m₀ s₀ ρ σ1 m1 { s1 with heap:=h' }:=S1.stay hst s1.toks
 have hl:env.locals≠I:=fun q=>by
  refine zao S1.eok.vars fun lm nn0 ua=>?_
  refine zgT nn0 ?_
  clear nn0
  intro o2 es ep d1 _
  rw[q,hI0] at d1; exact zaA d1
 have hI00:s₀.heap.get? I=none:=by
  induction q:s₀.heap.get? I using Option.casesOn with
  | none=>rfl
  | some o=>
   by_cases hM:Mut m₀ I
   ·refine zaF (S1.ok.sto.live (hM.mono S1.ext.pre)) fun o' e'=>?_
    rw[hI0] at e'; exact zaA e'
   ·have:=S1.ext.keep I o q hM
    rw[hI0] at this; exact zaA this
 refine zao hIe ?_
 clear hIe
 intro oI eI fI
 exact zmf F L W P G h1 h3 l hfr hfs hfl hn hI00 hl (N:=zbb) (s:={ s1 with heap:=h' }) ⟨ρ,σ1,m1,0,S2,hr2,S1.ok.aside_new hI0 eI fI,hit⟩
theorem zoe (a b:E):PSt X prim lo n (.raise a b):=by
 intro ps fs outer A env vars ρ m₀ m σ s₀ s hok S l hfr hfs hfl hn
 refine zuw (znU hok) fun g a' b' cp p ee0 q1 q2 h1 h2 h3=>?_
 subst ee0
 have ht:backTo cp (starEach [a',b'] env)=[a',b'].map fun e=>(false,eval e env):=zp8 q1 q2
 rw[arm_exec_Raise]
 refine wpAny_bind (wpAny_standAt ?_)
 show wpAny _ _ (raiseStmt env (some (eval (.Call g [a',b'] [] cp) env >>= fun v=>standAt p >>= fun ua=>pure v)) none) _ _ s
 refine G.raised (fs:=fs) l.hand (wpAny_bind (zbw (zbY h1) ht (zcL S.ok F S.eok h1 F.gf ?_)))
 refine zau (keeps_K G.keep) (spliced_cons (zds S rfl hn (fun hf=>(zbM F L W P a).1 h2 (S.begin l hfr) hf) fun v σ1 m1 val s1 S1 x1 r hr=>?_))
 refine spliced_cons (zds S1 hr hn (fun hf=>(zbM F L W P b).1 h3 (S1.begin l hfr) hf) fun u σ2 m2 val2 s2 S2 x2 r2 hr2=>?_)
 refine spliced_nil ⟨S2.ok.kin F,?_⟩
 refine wpAny_mono (G.make (r.ext x2.pre (S1.ok.sto.keepT x2)) r2 S2.ok l.x hfr (E:=fun ua ub=>False)) (fun v s3 ww=>zb8 ww fun e he hx hy=>?_) fun ua ub z=>z.elim
 subst he
 exact wpAny_bind (wpAny_standAt (wpAny_pure ⟨e,rfl,hx,hr2,e,rfl,hx.exc,S2.same.trans hy⟩))
theorem zsP (b h:Ss) (hb:znq X prim lo n b):PSt X prim lo n (.try_ b h):=by
 intro ps fs outer A env vars ρ m₀ m σ s₀ s hok S l hfr hfs hfl hn
 refine ztB (zsa hok) fun b' g h' hp p ee0 h1 h2 h3=>?_
 subst ee0
 have hr:evS X.T prim lo (.try_ b h) ρ σ=caught h (evSs X.T prim lo b ρ σ):=rfl
 have hn1:evSs X.T prim lo b ρ σ≠.stuck:=fun q=>by replace hn:=hr▸hn; replace hn:=q▸hn; exact hn rfl
 refine wpAny_Try_except (wpAny_mono (hb h1 S l hfr hfs hfl hn1) (fun f s1 hps=>?_) fun x s1 hx=>?_)
 ·refine Or.elim hps ?_ ?_
  clear hps
  intro nm
  refine zld nm ?_
  clear nm
  intro fl ρ1 σ1 m1 e S1 hfl1
  rotate_left
  clear hps
  intro nm
  refine zb8 nm ?_
  clear nm
  intro bb e ee0 _
  subst ee0
  rotate_left
  ·refine hr.symm▸?_
   refine e.symm▸?_
   induction fl using Fl.casesOn with
   | next=>subst hfl1; exact wpAny_execs_nil (.inl ⟨.next,ρ1,σ1,m1,rfl,S1,rfl⟩)
   | brk=>subst hfl1; exact .inl ⟨.brk,ρ1,σ1,m1,rfl,S1,rfl⟩
   | ret v=>refine zao hfl1 ?_; clear hfl1; intro val ee0 rr; subst ee0; exact .inl ⟨.ret v,ρ1,σ1,m1,rfl,S1,val,rfl,rr⟩
  ·replace hn:=hr▸hn; replace hn:=e▸hn; exact absurd rfl hn
 ·refine zaW hx ?_
  clear hx
  intro he rst
  refine zb8 rst ?_
  clear rst
  intro e ef0 hx hy
  subst ef0
  replace hn:=hr▸hn
  replace hn:=he▸hn
  refine hr.symm▸?_
  refine he.symm▸?_
  refine zaF (zkB hn) fun k ee0=>?_
  subst ee0
  refine zrn (znV h3) fun i cp rp ee0=>?_
  subst ee0
  subst hfs
  exact G.caught l.hand hfr hfl S.eok.kind S.eok.glob h2 hx fun s' hst y=>.inr ⟨k,rfl,rfl,hst,hy.trans y⟩
theorem zsQ:PSt X prim lo n .bad:=by
 intro ps fs outer A env vars ρ m₀ m σ s₀ s hok S l hfr hfs hfl hn
 exact absurd rfl hn
mutual
theorem zvq:∀ st:S,PSt X prim lo n st
 | .expr e=>zqm F L W P G e
 | .asg i e=>zsM F L W P G i e
 | .asgT is e=>zqn F L W P G is e
 | .aug i op e=>zsI F L W P G i op e
 | .augA a k op e=>zqp F L W P G a k op e
 | .setA a k e=>zqo F L W P G a k e
 | .setI a i e=>zqq F L W P G a i e
 | .ite t b o=>zsH F L W P G t b o (allSs b) (allSs o)
 | .whl t b=>zsN F L W P G t b
 | .for_ i it b=>zsO F L W P G i it b
 | .ret e=>zsF F L W P G e
 | .raise a b=>zoe F L W P G a b
 | .try_ b h=>zsP F L W P G b h (allSs b)
 | .brk=>zsG F L W P G
 | .bad=>zsQ F L W P G
theorem allSs:∀ b:Ss,znq X prim lo n b
 | .nil=>zsE F L W P G
 | .cons st b=>zql F L W P G st b (zvq st) (allSs b)
end
end
end
section
open W Calls PyProof.Rows
theorem zep {α:Type}{k:Str}:∀ {l r:List (Str×α)},(l++r).lookup k=(l.lookup k).or (r.lookup k)
 | [],r=>by simp
 | (j,v)::l,r=>by
  rw[List.cons_append,List.lookup_cons,List.lookup_cons]
  induction k == j using Bool.casesOn with
  | true=>rfl
  | false=>exact zep
theorem zfy {α:Type}{k:Str}:∀ (l s:List (Str×α)),(l.foldl (fun b a=>if(b.lookup a.1).isNone=true then b++[(a.1,a.2)] else b) s).lookup k=(s.lookup k).or (l.lookup k)
 | [],s=>by simp
 | (j,v)::l,s=>by
  rw[List.foldl_cons,zfy l]
  dsimp only
  by_cases hj:(s.lookup j).isNone=true
  ·rw[if_pos hj,zep,Option.or_assoc]
   congr 1
   rw[List.lookup_cons,List.lookup_cons]
   induction k == j using Bool.casesOn <;> simp
  ·rw[if_neg hj,List.lookup_cons]
   induction e:k == j using Bool.casesOn with
   | false=>rfl
   | true=>
    have:=eq_of_beq e
    subst this
    induction hs:s.lookup k using Option.casesOn with
    | none=>rw[hs] at hj; exact absurd rfl hj
    | some v=>rfl
theorem zdA {α:Type}{k:Str}:∀ {ns:List Str}{vs:List α}{i:Nat} ,ns.Nodup→ns[i]?=some k→(ns.zip vs).lookup k=vs[i]?
 | [],_,i,_,h=>by simp at h
 | n::ns,[],i,_,h=>by rfl
 | n::ns,v::vs,0,_,h=>by
  have ee:=Option.some.inj h
  clear h
  subst ee
  simp
 | n::ns,v::vs,i+1,nd,h=>by
  have h:ns[i]?=some k:=h
  rw[List.zip_cons_cons,List.lookup_cons]
  have ne:k≠n:=fun e=>(List.nodup_cons.mp nd).1 (e▸List.mem_of_getElem? h)
  refine(show(k == n)=false from beq_eq_false_iff_ne.mpr ne).symm▸?_
  exact zdA (List.nodup_cons.mp nd).2 h
theorem zeq {α:Type}{f:Str→Option α}:∀ {ns:List Str}{vs:List α},ns.length=vs.length→(∀ (i:Nat) (n:Str) (v:α),ns[i]?=some n→vs[i]?=some v→f n=some v)→(ns.filterMap fun n=>(f n).map (n,·))=ns.zip vs
 | [],[],_,_=>rfl
 | n::ns,v::vs,hl,h=>by
  rw[List.filterMap_cons,h 0 n v rfl rfl]
  show(n,v)::_=(n,v)::_
  rw[zeq (by exact Nat.succ.inj hl) fun i n v a b=>h (i+1) n v a b]; rfl
 | [],_::_,hl,_=>by simp at hl
 | _::_,[],hl,_=>by simp at hl

theorem zmg {n v d:Nat} (h2:n-v≤d):n-(d-(d-n))≤v:=by
 refine Or.elim (Nat.le_total d n) ?_ ?_
 intro h
 rotate_left
 intro h
 rotate_left
 ·rw[Nat.sub_eq_zero_of_le h,Nat.sub_zero]
  exact Nat.sub_le_iff_le_add.mpr (Nat.add_comm v d▸Nat.sub_le_iff_le_add.mp h2)
 ·rw[Nat.sub_sub_self h,Nat.sub_self]
  exact Nat.zero_le _
theorem zqr {n v d i:Nat} (h1:v≤n) (h2:n-v≤d) (h3:v≤i):d-n+(i-(n-(d-(d-n))))=d-(n-v)+(i-v):=by
 refine zaF (Nat.exists_eq_add_of_le h1) fun a ee0=>?_
 subst ee0
 refine zaF (Nat.exists_eq_add_of_le h3) fun b ee0=>?_
 subst ee0
 rw[Nat.add_sub_cancel_left] at h2 ⊢
 refine zaF (Nat.exists_eq_add_of_le h2) fun c ee0=>?_
 subst ee0
 rw[Nat.add_sub_cancel_left,Nat.add_sub_cancel_left,Nat.add_comm v a,Nat.add_sub_add_left]
 refine Or.elim (Nat.le_total c v) ?_ ?_
 intro h
 rotate_left
 intro h
 rotate_left
 ·rw[Nat.sub_eq_zero_of_le h,Nat.sub_zero,Nat.add_sub_add_left,Nat.zero_add]
  refine zaF (Nat.exists_eq_add_of_le h) fun e ee0=>?_
  subst ee0
  rw[Nat.add_sub_cancel_left,Nat.add_right_comm,Nat.add_sub_cancel]
 ·refine zaF (Nat.exists_eq_add_of_le h) fun e ee0=>?_
  subst ee0
  rw[Nat.add_sub_cancel_left,← Nat.add_assoc,Nat.add_sub_cancel,Nat.sub_self,Nat.sub_zero,← Nat.add_assoc,Nat.add_comm e v]
theorem zof {n v d:Nat} (h1:v≤n) (h2:n-v≤d):n=v+(d-(d-(n-v))):=by
 refine(Nat.sub_sub_self h2).symm▸?_
 refine(Nat.add_sub_cancel' h1).symm▸?_
 with_reducible rfl
theorem zmh {names:List Str}{vals dfl:List Value} (nd:names.Nodup) (h1:vals.length≤names.length) (h2:names.length-vals.length≤dfl.length) :
  (names.filterMap fun n=>((List.foldl (fun b a=>if(b.lookup a.1).isNone=true then b++[(a.1,a.2)] else b) (names.zip vals) ((names.drop (names.length-(dfl.drop (dfl.length-names.length)).length)).zip (dfl.drop (dfl.length-names.length)))).lookup n).map (n,·)) =
   names.zip (vals++dfl.drop (dfl.length-(names.length-vals.length))):=by
 have hz:∀ (i:Nat) (n:Str),names[i]?=some n→(names.zip vals).lookup n=vals[i]?:=fun i n h=>zdA nd h
 rw[zeq (vs:=vals++dfl.drop (dfl.length-(names.length-vals.length)))]
 ·refine List.length_append.symm▸?_; refine List.length_drop.symm▸?_; exact zof h1 h2
 ·intro i n v hi hv
  rw[zfy,hz i n hi]
  by_cases hlt:i < vals.length
  ·replace hv:=(List.getElem?_append_left hlt)▸hv
   refine hv.symm▸?_; rfl
  ·have hge:=Nat.le_of_not_lt hlt
   replace hv:=(List.getElem?_append_right hge)▸hv
   replace hv:=(List.getElem?_drop)▸hv
   refine(List.getElem?_eq_none hge).symm▸?_
   have hsub:(List.drop (names.length-(List.drop (dfl.length-names.length) dfl).length) names)[i-(names.length-(List.drop (dfl.length-names.length) dfl).length)]?=some n:=by
    refine(List.getElem?_drop).symm▸?_
    refine hi▸?_
    refine List.length_drop.symm▸?_
    refine(Nat.add_sub_cancel' (Nat.le_trans (zmg h2) hge)).symm▸?_
    with_reducible rfl
   refine(zdA (List.Nodup.sublist (List.drop_sublist ..) nd) hsub).symm▸?_
   refine(List.getElem?_drop).symm▸?_
   refine Option.none_or.symm▸?_
   refine hv▸?_
   refine List.length_drop.symm▸?_
   refine(zqr h1 h2 hge).symm▸?_
   with_reducible rfl
theorem zkI {names:List Str}{vals dfl:List Value} (nd:names.Nodup) (h2:names.length-vals.length≤dfl.length) :
  (List.filter (fun n=>(List.lookup n (names.zip vals)).isNone) (List.take (names.length-(List.drop (dfl.length-names.length) dfl).length) names))=[]:=by
 refine List.filter_eq_nil_iff.mpr fun n hn'=>?_
 refine zaF (List.getElem?_of_mem hn') fun i hi=>?_
 rw[List.getElem?_take] at hi
 split at hi
 ·rename_i hlt
  rw[zdA nd hi]
  have:i < vals.length:=by
   rw[List.length_drop] at hlt
   exact Nat.lt_of_lt_of_le hlt (zmg h2)
  simp[List.getElem?_eq_getElem this]
 ·exact zaA hi
theorem zkJ {x:Sem (Option (Array Value))}{names:List Str}{vals dfl:List Value}{e1 e2:Option (Array Value)→Sem (List (Str×Value))}{e3:List (Str×Value)→Sem (List (Str×Value))}{s:Shared}{M:Model}{A:Around}{E:Value→Shared→Prop}{Q:List (Str×Value)→Shared→Prop} (nd:names.Nodup)
  (hd:∀ (Q:Option (Array Value)→Shared→Prop),(∀ x:Option (Array Value),(x.getD #[]).toList=dfl→Q x s)→wpAny M A x Q E s)
  (h1:vals.length≤names.length) (h2:names.length-vals.length≤dfl.length) (hq:Q (names.zip (vals++dfl.drop (dfl.length-(names.length-vals.length)))) s) :
  wpAny M A (x >>= fun d=>if(decide (vals.length > names.length)&&(none:Option Str).isNone)=true then e1 d else
   if(!(List.filter (fun n=>(List.lookup n (names.zip vals)).isNone) (List.take (names.length-(List.drop ((d.getD #[]).toList.length-names.length) (d.getD #[]).toList).length) names)).isEmpty)=true then e2 d else
   (forIn ((List.drop (names.length-(List.drop ((d.getD #[]).toList.length-names.length) (d.getD #[]).toList).length) names).zip (List.drop ((d.getD #[]).toList.length-names.length) (d.getD #[]).toList)) (names.zip vals)
    fun x s=>if(List.lookup x.fst s).isNone=true then(pure (ForInStep.yield (s++[(x.fst,x.snd)])):Sem _) else pure (ForInStep.yield s)) >>= fun s=>
   if(!([]:List Str).isEmpty)=true then e3 s else pure (List.filterMap (fun n=>Option.map (fun x=>(n,x)) (List.lookup n s)) (names++[]))) Q E s:=by
 have hf:∀ (l b:List (Str×Value)),(forIn l b fun x s=>if(List.lookup x.fst s).isNone=true then(pure (ForInStep.yield (s++[(x.fst,x.snd)])):Sem _) else pure (ForInStep.yield s))=pure (l.foldl (fun b a=>if(b.lookup a.1).isNone=true then b++[(a.1,a.2)] else b) b):=by
  intro l
  induction l with
  | nil=>intro b; rfl
  | cons a l ih=>
   intro b
   rw[List.forIn_cons,List.foldl_cons,← ih]
   split <;> rw[pure_bind]
 refine wpAny_bind (hd _ fun x hx=>?_)
 rw[hx,if_neg (by rw[decide_eq_false (Nat.not_lt.mpr h1)]; exact Bool.false_ne_true),zkI nd h2,if_neg (by decide),hf,pure_bind,if_neg (by decide),List.append_nil,zmh nd h1 h2]
 exact wpAny_pure hq
theorem zjJ {s:Shared}{fd:FuncData}{as:List PySem.Arg}{ds:List Expr}{vals:List Value}{dfl:List Value}{names:List Str} (hp:fd.params=⟨[],as,none,[],[],none,ds⟩) (hn:as.map (·.arg)=names) (nd:names.Nodup)
  (hd:∀ (M:Model) (A:Around) (E:Value→Shared→Prop) (Q:Option (Array Value)→Shared→Prop),(∀ x:Option (Array Value),(x.getD #[]).toList=dfl→Q x s)→wpAny M A (seqItems? fd.defaults) Q E s)
  (h1:vals.length≤names.length) (h2:names.length-vals.length≤dfl.length) :
  BindsTo s fd ⟨vals,[]⟩ (names.zip (vals++dfl.drop (dfl.length-(names.length-vals.length)))):=by
 intro M A E Q hq
 obtain⟨n1,n2,ps,bd,sc,gl,cl,df,kd,dc,pm,an,cd,ct,bu⟩:=fd
 have hp:ps=_:=hp
 subst hp hn
 exact zkJ (x:=seqItems? df) (names:=as.map (·.arg)) (e3:=fun ua=>pure []) nd (hd M A E) h1 h2 hq
end
section
open W Calls PyProof.Rows
section
variable {kindOf:Str→Option NameKind}
theorem zgw {n:Str}:∀ {ns:List Str}{vs:List Value}{m:Str→Option Value},n ∉ ns→bindL kindOf (ns.zip vs) m n=m n
 | [],_,_,_=>by rfl
 | _::_,[],_,_=>by rfl
 | k::ns,v::vs,m,h=>by
  refine List.zip_cons_cons.symm▸?_
  unfold bindL
  refine(zgw (fun q=>h (List.mem_cons_of_mem _ q))).symm▸?_
  split
  ·exact if_neg fun q:n=k=>h (q▸List.mem_cons_self ..)
  ·rfl
theorem zgx {n:Str}:∀ {ns:List Str}{vs:List Value}{m:Str→Option Value},n ∉ ns→bindC kindOf (ns.zip vs) m n=m n
 | [],_,_,_=>by rfl
 | _::_,[],_,_=>by rfl
 | k::ns,v::vs,m,h=>by
  refine List.zip_cons_cons.symm▸?_
  unfold bindC
  refine(zgx (fun q=>h (List.mem_cons_of_mem _ q))).symm▸?_
  split
  ·rfl
  ·exact if_neg fun q:n=k=>h (q▸List.mem_cons_self ..)
theorem zcO {n:Str}{v:Value}:∀ {ns:List Str}{vs:List Value}{m:Str→Option Value}{i:Nat},ns.Nodup→kindOf n=some .local→ns[i]?=some n→vs[i]?=some v→bindL kindOf (ns.zip vs) m n=some v
 | [],_,_,_,_,_,h,_=>by simp at h
 | _::_,[],_,_,_,_,_,h=>by simp at h
 | k::ns,u::vs,m,0,nd,hk,h1,h2=>by
  have ee:=Option.some.inj h1; clear h1; subst ee; have ee:=Option.some.inj h2; clear h2; subst ee
  rw[List.zip_cons_cons]
  unfold bindL
  rw[zgw (List.nodup_cons.mp nd).1,if_pos hk,if_pos rfl]
 | k::ns,u::vs,m,i+1,nd,hk,h1,h2=>by
  rw[List.zip_cons_cons]
  unfold bindL
  exact zcO (List.nodup_cons.mp nd).2 hk h1 h2
theorem zh0 {n:Str}{v:Value}:∀ {ns:List Str}{vs:List Value}{m:Str→Option Value}{i:Nat},ns.Nodup→¬ kindOf n=some .local→ns[i]?=some n→vs[i]?=some v→bindC kindOf (ns.zip vs) m n=some v
 | [],_,_,_,_,_,h,_=>by simp at h
 | _::_,[],_,_,_,_,_,h=>by simp at h
 | k::ns,u::vs,m,0,nd,hk,h1,h2=>by
  have ee:=Option.some.inj h1; clear h1; subst ee; have ee:=Option.some.inj h2; clear h2; subst ee
  refine List.zip_cons_cons.symm▸?_
  unfold bindC
  refine(zgx (List.nodup_cons.mp nd).1).symm▸?_
  refine(if_neg hk).symm▸?_
  refine(if_pos rfl).symm▸?_
  with_reducible rfl
 | k::ns,u::vs,m,i+1,nd,hk,h1,h2=>by
  refine List.zip_cons_cons.symm▸?_
  unfold bindC
  exact zh0 (List.nodup_cons.mp nd).2 hk h1 h2
end
theorem zfz {x:Str}:∀ {ns:List (Str×NameKind)}{k:Nat}{acc:List (Str×Addr)},(acc.lookup x).isSome=true→((cellsFrom k ns acc).lookup x).isSome=true
 | [],_,_,h=>h
 | (n,d)::ns,k,acc,h=>by
  unfold cellsFrom
  split
  ·refine zfz ?_
   rw[List.lookup_cons]
   split
   ·rfl
   ·exact h
  ·exact zfz h
theorem zdB {x:Str}:∀ {ns:List (Str×NameKind)}{k:Nat}{acc:List (Str×Addr)},(x,.cell)∈ns→((cellsFrom k ns acc).lookup x).isSome=true
 | (n,d)::ns,k,acc,h=>by
  unfold cellsFrom
  refine Or.elim (List.mem_cons.mp h) ?_ ?_
  intro h
  rotate_left
  intro h
  rotate_left
  ·cases h
   rw[if_pos (by decide)]
   exact zfz (by simp)
  ·split
   ·exact zdB h
   ·exact zdB h
 | [],_,_,h=>nomatch h

theorem zd6 {sc:Scope}:∀ {l:List (List Nat)}{as:List PySem.Arg},zfs sc l as=true→as.map (·.arg)=l.map zaa
 | [],[],_=>rfl
 | x::r,a::as,h=>by
  have h:(nm x a.arg&&zfs sc r as)=true:=h
  refine zaW (Bool.and_eq_true_iff.mp h) fun h1 h2=>?_
  refine List.map_cons.symm▸?_
  refine List.map_cons.symm▸?_
  refine(zd6 h2).symm▸?_
  refine(zdj.mp h1).symm▸?_
  with_reducible rfl
 | [],_::_,h=>nomatch h
 | _::_,[],h=>nomatch h

section
variable {X:Stat}{m:AM}{h:Heap}
theorem zog {xs:List Value}:∀ {ds:List V},zgZ xs ds=true→Reps X.F m h xs ds:=by
 induction xs with
 | nil=>
  intro ds e
  induction ds using List.casesOn with
  | nil=>exact .nil
  | cons _ _=>exact(Bool.false_ne_true e).elim
 | cons x r ih=>
  intro ds e
  induction ds using List.casesOn with
  | nil=>exact(Bool.false_ne_true (by induction x using PySem.Value.casesOn <;> exact e)).elim
  | cons d s=>
   have:Rep X.F m h x d∧zgZ r s=true:=by
    refine IfT.out ?_ e
    clear e ih
    induction x using PySem.Value.casesOn with
    | bool a=>
     induction d using V.casesOn with
     | bool b=>
      refine .mk fun e=>?_
      refine zaW (Bool.and_eq_true_iff.mp (show((a == b)&&zgZ r s)=true from e)) fun e1 e2=>?_
      refine(eq_of_beq e1).symm▸?_
      exact⟨.bool b,e2⟩
     | _=>exact True.intro
    | int a t=>
     induction d using V.casesOn with
     | int b=>
      refine .mk fun e=>?_
      refine zaW (Bool.and_eq_true_iff.mp (show(decide (a=b)&&zgZ r s)=true from e)) fun e1 e2=>?_
      refine(of_decide_eq_true e1).symm▸?_
      exact⟨.int b t,e2⟩
     | _=>exact True.intro
    | _=>exact True.intro
   exact .cons this.1 (ih this.2)
end

structure FnOK (T:Tab) (K:Frag) (fn:Fn) (o:Obj) (fd:FuncData) (b:List Stmt) (as:List PySem.Arg) (ds:List Expr):Prop where
 look:K.lookup fn.addr=some o
 data:o.data=.func fd
 body:fd.body=.stmts b
 okb:okSs T fn.vars fd.scope fn.body b=true
 params:fd.params=⟨[],as,none,[],[],none,ds⟩
 binds:zfs fd.scope (fn.vars.take fn.params) as=true
 le:fn.params≤fn.vars.length
 kinds:∀ x∈fn.vars,fd.scope.names.lookup (zaa x)=some .local∨fd.scope.names.lookup (zaa x)=some .cell
 nd:(fn.vars.map zaa).Nodup
 kind:fd.scope.kind=.function
 co:fd.scope.isCoroutine=false
 gen:fd.scope.isGenerator=false
 glob:fd.globals=mainGlobals
 bui:fd.builtins=builtinsNs
 clo:fd.closure=[]
 code:codeIn K fd.code fd.qualname=true
 dflt:(fd.defaults=.none∧fn.dflts=[])∨∃ t c d xs n sl,fd.defaults=.ref t∧K.lookup t=some ⟨c,d,.seq xs n,sl⟩∧zgZ xs.toList fn.dflts=true

theorem zoh {K:Frag}{v:Value}{ds:List V} (h:zo7 K v ds=true):(v=.none∧ds=[])∨∃ t c d xs n sl,v=.ref t∧K.lookup t=some ⟨c,d,.seq xs n,sl⟩∧zgZ xs.toList ds=true:=by
 refine Or.elim (Bool.or_eq_true_iff.mp h) (fun h=>B2 h fun a b=>.inl ⟨zpM a,zeE b⟩) fun h=>zao (zf4 h) fun t e h=>zao (zf4 h) fun o e1 h=>.inr ?_
 obtain⟨c,d,dt,sl⟩:=o
 refine IfT.out ?_ h
 clear h
 induction dt using Data.casesOn with
 | seq xs n=>exact .mk fun h=>⟨t,c,d,xs,n,sl,zrF e,e1,h⟩
 | _=>exact True.intro
theorem zub {d:FuncBody}{f:List Stmt} (h:stB d=some f):d=.stmts f:=by
 induction d using FuncBody.casesOn with
 | stmts b=>exact congrArg _ (Option.some.inj h)
 | expr _=>exact zaA h
set_option tactic.hygienic true in
theorem zsR {T:Tab}{K:Frag}{fn:Fn} (h:zrh T K fn=true):∃ o fd b as ds,FnOK T K fn o fd b as ds:=
 zao (zf4 h) fun o hl h=>zao (zf4 h) fun fd hd h=>B2 h fun h h'=>B8 h fun h1 h2 h3 h4 h5 h6 h7 h8=>B6 h' fun g1 g2 g3 g4 g5 g6=>zao (zf4 h1) fun b hb h1=>
  ⟨o,fd,b,_,_,hl,zlo hd,zub hb,h1,zpN h2,h3,of_decide_eq_true h4,fun x hx=>(Bool.or_eq_true_iff.mp (List.all_eq_true.mp h5 x hx)).imp eq_of_beq eq_of_beq,zd3 h6,eq_of_beq h7,zpa h8,zpa g1,of_decide_eq_true g2,of_decide_eq_true g3,zeE g4,g5,zoh g6⟩

theorem zmi {fn:Fn}{as:List V}{ρ:Env} (h:zeZ fn as=some ρ):as.length≤fn.params∧fn.params-as.length≤fn.dflts.length ∧
  ρ=(as++fn.dflts.drop (fn.dflts.length-(fn.params-as.length))).map some++List.replicate (fn.vars.length-fn.params) none:=by
 unfold zeZ at h
 dsimp only at h
 split at h
 ·rename_i c
  have ee:=Option.some.inj h
  clear h
  subst ee
  exact⟨c.1,c.2,rfl⟩
 ·exact zaA h

theorem Lim.deeper {prim:Bool}{A:Around}{n:Nat}{env:PySem.Env} (l:Lim prim A (n+1)):Lim prim (A.deeper env) n:=
 ⟨l.hand,by have:=l.depth; show A.depth+1+2*n+slk prim≤700; omega,by have:=l.units; show A.units+3+12*n+12*slk prim≤9000; omega⟩

section
variable {X:Stat}{fs:List PySem.Env}{m:AM}{σ:List C}{s:Shared}{A:Around}{R:Result→Shared→Prop}
theorem zph {fn:Fn}{vals:List Value}{ρ0:Env} (F:Facts X) {f:Nat} (hf:X.T.fns[f]?=some fn) (k:Ok X fs m σ s) (hroom:A.depth < recursionLimit) (n1:vals.length≤fn.params) (n2:fn.params-vals.length≤fn.dflts.length) (hl0:ρ0.length=fn.params)
  (hv0:∀ dfl:List Value,(∀ m h,Reps X.F m h dfl fn.dflts)→∀ (i:Nat) (v:V),ρ0[i]?=some (some v)→∃ val,(vals++dfl.drop (dfl.length-(fn.params-vals.length)))[i]?=some val∧Rep X.F m s.heap val v)
  (h:∀ b env s',okSs X.T fn.vars env.scope fn.body b=true→Sit X (env::fs) fn.vars env m s (ρ0++List.replicate (fn.vars.length-fn.params) none) σ m s'→env.frame=some env.locals →
   (∃ o fd,X.K.lookup fn.addr=some o∧o.data=.func fd∧env.scope=fd.scope) →
   (∃ dfl lm,s'.heap.Ns env.locals lm∧∀ (i:Nat) y val,env.scope.names.lookup (zaa y)=some .local→i < fn.params→fn.vars[i]?=some y→(vals++List.drop (dfl.length-(fn.params-vals.length)) dfl)[i]?=some val→lm (zaa y)=some val) →
   wpAny (model X.prog X.w) (A.deeper env) (execs b env) (fun f s'=>R (.ok (.ret (match f with | .ret v=>v | _=>.none))) s')
   (fun e s'=>wpAny (model X.prog X.w) (A.deeper env) (leaving env e) (fun ua s''=>R (.error e) s'') (fun e' s''=>R (.error e') s'') s') s') :
  codeAny (model X.prog X.w) A (.call (.ref fn.addr) ⟨vals,[]⟩) R s:=by
 refine znt (zsR (F.fns f fn hf)) fun o fd b ps ds H=>?_
 have KIn:X.K.In s.heap:=F.inK.keeps k.stays
 have hd:∃ dfl:List Value,(∀ m h,Reps X.F m h dfl fn.dflts)∧(∀ (M:Model) (A:Around) (E:Value→Shared→Prop) (Q:Option (Array Value)→Shared→Prop),(∀ x:Option (Array Value),(x.getD #[]).toList=dfl→Q x s)→wpAny M A (seqItems? fd.defaults) Q E s):=by
  refine Or.elim H.dflt ?_ ?_
  intro nm
  refine zaW nm ?_
  clear nm
  intro e1 e2
  rotate_left
  intro nm
  refine zuu nm ?_
  clear nm
  intro t c d xs n sl e1 e2 e3
  rotate_left
  ·refine zc1 ([]) (fun m h=>e2▸.nil) (fun M A E Q hq=>?_)
   refine e1.symm▸?_
   exact wpAny_pure (hq none rfl)
  ·refine zc1 xs.toList (fun m h=>zog e3) (fun M A E Q hq=>?_)
   refine e1.symm▸?_
   exact wpAny_seqItems (KIn _ _ e2) rfl (hq _ rfl)
 refine zao hd ?_
 clear hd
 intro dfl rd hd
 have hv0:=hv0 dfl rd
 have hld:dfl.length=fn.dflts.length:=(rd m s.heap).length
 clear rd
 have hnl:((fn.vars.take fn.params).map zaa).length=fn.params:=by rw[List.length_map,List.length_take]; exact Nat.min_eq_left H.le
 have nd:((fn.vars.take fn.params).map zaa).Nodup:=(H.nd).sublist ((List.take_sublist ..).map _)
 have hb:=zjJ (s:=s) (vals:=vals) (dfl:=dfl) H.params (zd6 H.binds) nd hd (by refine hnl.symm▸?_; exact n1) (by refine hnl.symm▸?_; refine hld.symm▸?_; exact n2)
 replace hb:=hnl▸hb
 generalize hfull:vals++dfl.drop (dfl.length-(fn.params-vals.length))=full at hb hv0
 have hget:∀ {i:Nat}{y:List Nat},i < fn.params→fn.vars[i]?=some y→((fn.vars.take fn.params).map zaa)[i]?=some (zaa y):=fun hi hy=>by
  refine(List.getElem?_map).symm▸?_; refine(List.getElem?_take_of_lt hi).symm▸?_; refine hy.symm▸?_; rfl
 refine codeAny_call_function hroom (KIn _ _ H.look) H.data H.co H.gen H.body (codeRec_of KIn H.code) (hb _ _ _ _ ?_)
 refine H.clo.symm▸?_
 refine wpAny_newFunctionEnv_cells H.kind (fun x hx=>?_) fun env he s' x=>?_
 ·have hx1:x.1∈(fn.vars.take fn.params).map zaa:=(List.of_mem_zip (show(x.1,x.2)∈_ from hx)).1
  refine zao (List.mem_map.mp hx1) fun y hy hyx=>?_
  refine Or.elim (H.kinds y (List.mem_of_mem_take hy)) ?_ ?_
  intro h1
  rotate_left
  intro h1
  rotate_left
  ·exact .inl (hyx▸h1)
  ·exact .inr ⟨hyx▸h1,zdB (mem_of_lookup (hyx▸h1))⟩
 ·have hst:s.heap.StaysIn s'.heap:=x.toInCall.keep
  have e1:env.scope=fd.scope:=by refine he.symm▸?_; rfl
  have e2:env.globals=fd.globals:=by refine he.symm▸?_; rfl
  have e3:env.builtins=fd.builtins:=by refine he.symm▸?_; rfl
  have e4:env.frame=some env.locals:=by refine he.symm▸?_; rfl
  have e5:env.cells=cellsFrom (s.heap.objs.size+1) fd.scope.names []:=by refine he.symm▸?_; rfl
  have e6:env.locals=s.heap.objs.size:=by refine he.symm▸?_; rfl
  clear he
  have hLn:s.heap.get? env.locals=none:=by refine e6.symm▸?_; exact zbD _
  have hnm:∀ c,s.heap.get? c=none→¬ Mut m c:=fun c hc q=>by
   obtain⟨o,ho⟩:=k.sto.live q
   replace ho:=hc▸ho; exact zaA ho
  have hcn:∀ n c,env.cells.lookup n=some c→s.heap.get? c=none:=fun n c hc=>zcJ _ (by
   have:=x.above n c (mem_of_lookup hc)
   replace this:=e6▸this
   exact Nat.le_of_lt this)
  have hk2:∀ y,env.kindOf y=fd.scope.names.lookup y:=fun y=>by unfold Env.kindOf; refine e1.symm▸?_; with_reducible rfl
  have hsame:zc2 s s':=by
   refine zkh x.toInCall.same fun h' tk hs'=>?_
   refine hs'.symm▸?_; exact⟨rfl,rfl,rfl⟩
  refine⟨(k.lim F).keeps hst,codeAny_func ?_⟩
  refine h b env s' (by refine e1.symm▸?_; exact H.okb) ?_ e4 ⟨o,fd,H.look,H.data,e1⟩ ⟨dfl,_,x.toInCall.ns,fun i y val hy hi hv hval=>?_⟩
  rotate_left
  ·replace hval:=hfull▸hval
   exact zcO nd (by rw[hk2,← e1]; exact hy) (hget hi hv) hval
  have kt:zb2 s.heap s'.heap:=.of_sub hst
  refine⟨.of_sub hst,⟨fun b o e=>hst _ _ (k.stays b o e),⟨by refine e1.symm▸?_; refine H.kind.symm▸?_; decide,?_,k.ff.of_keeps fun b o e ua=>⟨o,hst b o e,rfl⟩⟩,fun e he' L hL=>?_,k.sto.sub hst⟩,hsame,
   ⟨by refine e1.symm▸?_; exact H.kind,by refine e2.symm▸?_; exact H.glob,by refine e3.symm▸?_; exact H.bui,?_,hnm _ hLn,fun y z c hy hz=>name_of_addr x.apart (mem_of_lookup hy) (mem_of_lookup hz),_,x.toInCall.ns,fun i y o hy ho=>?_⟩,⟨hLn,fun y ua c ub hc=>hcn _ c hc⟩,k.stays,H.nd⟩
  ·refine zdb x.toInCall.ns fun o es ep g1 g2 g3=>?_
   refine zo2 env.locals o e4 ?_ g1 (fun vs hvs=>?_)
   ·induction hq:X.base.get? env.locals using Option.casesOn with
    | none=>rfl
    | some o'=>replace hLn:=(k.stays _ _ hq)▸hLn; exact zhy hLn
   ·replace hvs:=g2▸hvs; cases hvs
  ·refine Or.elim (List.mem_cons.mp he') ?_ ?_
   intro nm
   subst nm
   rotate_left
   intro he'
   rotate_left
   ·replace hL:=e4▸hL; have ee:=Option.some.inj hL; clear hL; subst ee; exact hnm _ hLn
   ·exact k.prot e he' L hL
  ·refine List.length_append.symm▸?_
   refine List.length_replicate.symm▸?_
   refine hl0.symm▸?_
   exact Nat.add_sub_of_le H.le
  ·have hval:∀ v,o=some v→∃ val,((fn.vars.take fn.params).map zaa)[i]?=some (zaa y)∧full[i]?=some val∧Rep X.F m s'.heap val v:=fun v hv=>by
    subst hv
    refine Or.elim (Nat.lt_or_ge i ρ0.length) ?_ ?_
    intro hi
    rotate_left
    intro hi
    rotate_left
    ·replace ho:=(List.getElem?_append_left hi)▸ho
     refine zao (hv0 i v ho) fun val q1 q2=>?_
     exact zle val (hget (hl0▸hi) hy) q1 (q2.ext List.prefix_rfl kt)
    ·replace ho:=(List.getElem?_append_right hi)▸ho
     replace ho:=(List.getElem?_replicate)▸ho
     split at ho <;> cases ho
   unfold zcE
   refine e1.symm▸?_
   rcases H.kinds y (List.mem_of_getElem? hy) with hl | hl <;> refine hl.symm▸?_ <;> dsimp only
   ·intro v hv
    refine zb8 (hval v hv) fun val q1 q2 q3=>?_
    exact zc1 val (zcO nd (by rw[hk2]; exact hl) q1 q2) q3
   ·obtain⟨c,hc⟩:=Option.isSome_iff_exists.mp (zdB (k:=s.heap.objs.size+1) (acc:=[]) (mem_of_lookup hl))
    replace hc:=e5.symm▸hc
    refine ztC c _ hc (x.cell _ c hc) (hnm _ (hcn _ c hc)) (fun q=>?_) (fun v hv=>?_)
    ·have:=x.above _ c (mem_of_lookup hc)
     replace this:=q▸this
     exact Nat.lt_irrefl _ this
    ·refine zb8 (hval v hv) fun val q1 q2 q3=>?_
     exact zc1 val (zh0 nd (by rw[hk2,hl]; exact fun q=>nomatch q) q1 q2) q3
theorem zuc {fn:Fn}{vals:List Value}{as:List V}{ρ:Env} (F:Facts X) {f:Nat} (hf:X.T.fns[f]?=some fn) (r:Reps X.F m s.heap vals as) (k:Ok X fs m σ s) (hroom:A.depth < recursionLimit) (hρ:zeZ fn as=some ρ)
  (h:∀ b env s',okSs X.T fn.vars env.scope fn.body b=true→Sit X (env::fs) fn.vars env m s ρ σ m s'→env.frame=some env.locals →
   wpAny (model X.prog X.w) (A.deeper env) (execs b env) (fun f s'=>R (.ok (.ret (match f with | .ret v=>v | _=>.none))) s')
   (fun e s'=>wpAny (model X.prog X.w) (A.deeper env) (leaving env e) (fun ua s''=>R (.error e) s'') (fun e' s''=>R (.error e') s'') s') s') :
  codeAny (model X.prog X.w) A (.call (.ref fn.addr) ⟨vals,[]⟩) R s:=by
 refine ziM (zmi hρ) fun n1 n2 ee0=>?_
 subst ee0
 have hl:=r.length
 rw[← hl] at n1 n2
 refine zph F hf k hroom n1 n2 (by rw[List.length_map,List.length_append,List.length_drop,← hl,Nat.sub_sub_self n2]; exact Nat.add_sub_of_le n1) (fun dfl rd i v hi=>?_) fun b env s' hok S hfe ua ub=>h b env s' hok S hfe
 have hld:dfl.length=fn.dflts.length:=(rd m s.heap).length
 replace hi:=(List.getElem?_map)▸hi
 refine zao (Option.map_eq_some_iff.mp hi) fun u hu e=>?_
 have ee:=Option.some.inj e
 clear e
 subst ee
 have hall:Reps X.F m s.heap (vals++dfl.drop (dfl.length-(fn.params-vals.length))) (as++fn.dflts.drop (fn.dflts.length-(fn.params-as.length))):=by
  refine hld.symm▸?_
  refine hl.symm▸?_
  exact r.append ((rd m s.heap).drop _)
 exact Reps.get i hall hu
end
end
section
open W Calls PyProof.Rows
noncomputable def PCF (X:Stat) (fs:List PySem.Env) (m:AM) (s:Shared) (r:R V):Result→Shared→Prop:=fun res s'=>PC X fs m s r res s'∨∃ b,r=.fin (.bool b)∧res=.ok (.ret (.bool b))∧X.base.StaysIn s'.heap∧zc2 s s'

section
variable {X:Stat}{fs:List PySem.Env}{m:AM}{σ:List C}{s:Shared}{A:Around}{prim:Bool}{lo:Lo}{n:Nat}
theorem Ok.outer {env:PySem.Env} (k:Ok X (env::fs) m σ s):Ok X fs m σ s:=⟨k.stays,k.ff.2.2,fun e he L hL=>k.prot e (List.mem_cons_of_mem _ he) L hL,k.sto⟩
theorem zud {prim:Bool}{A:Around}{n:Nat} (l:Lim prim A n):A.depth < recursionLimit:=by
 have:=l.depth
 show A.depth < 1000
 omega
theorem zh1 {f:Nat}{fn:Fn}{vals:List Value}{as:List V} (F:Facts X) (hs:znq X prim lo n fn.body) (hf:X.T.fns[f]?=some fn) (r:Reps X.F m s.heap vals as) (k:Ok X fs m σ s)
  (l:Lim prim A (n+1)) (hfr:A.frames=some fs) (hne:zcC X.T prim lo fn as σ≠.stuck):codeAny (model X.prog X.w) A (.call (.ref fn.addr) ⟨vals,[]⟩) (PCF X fs m s (zcC X.T prim lo fn as σ)) s:=by
 unfold zcC at hne ⊢
 induction hρ:zeZ fn as using Option.casesOn with
 | none=>replace hne:=hρ▸hne; exact absurd rfl hne
 | some ρ=>
  replace hne:=hρ▸hne
  dsimp only at hne ⊢
  have hne':evSs X.T prim lo fn.body ρ σ≠.stuck:=fun q=>by replace hne:=q▸hne; exact hne rfl
  refine zuc F hf r k (zud l) hρ fun b env s' hok S hfe=>?_
  have hfr':(A.deeper env).frames=some (env::fs):=Around.frames_deeper hfr
  refine wpAny_mono (hs hok S l.deeper hfr' rfl hfe hne') (fun fl s1 h1=>?_) fun e s1 h1=>?_
  ·refine Or.elim h1 ?_ ?_
   clear h1
   intro nm
   refine zld nm ?_
   clear nm
   intro fl' ρ' σ' m' e1 S' e2
   rotate_left
   clear h1
   intro nm
   refine zfl nm ?_
   clear nm
   intro b e1 e2 hst hsm
   rotate_left
   ·rw[e1] at hne ⊢
    left
    induction fl' using Fl.casesOn with
    | next=>
     cases (show fl=.next from e2)
     exact⟨_,σ',rfl,m',S'.ext,S'.ok.outer,S'.same,.none⟩
    | brk=>exact absurd rfl hne
    | ret v=>
     refine zao ((show ∃ val,fl=.ret val∧_ from e2)) fun val ee0 e3=>?_
     subst ee0
     exact⟨_,σ',rfl,m',S'.ext,S'.ok.outer,S'.same,e3⟩
   ·refine e1.symm▸?_
    refine e2.symm▸?_
    exact .inr ⟨b,rfl,rfl,hst,hsm⟩
  ·refine zaW h1 ?_
   clear h1
   intro e1 rst
   refine zb8 rst ?_
   clear rst
   intro e ef0 x y
   subst ef0
   refine zma hfr' hfe x fun h' x'=>?_
   refine e1.symm▸?_
   exact .inl ⟨rfl,e,rfl,x'.exc,y.trans ⟨rfl,rfl,rfl⟩⟩
end
end
section
open W Calls PyProof.Rows
section
variable {F:Nat→Option Addr}{m m':AM}{h:Heap}
theorem Rep.plain {x:Value}{v:V} (r:Rep F m h x v):Lake.plain v=true→Rep F m' h x v:=
 Rep.rec (motive_1:=fun x v ua=>Lake.plain v=true→Rep F m' h x v) (motive_2:=fun xs vs ua=>plains vs=true→Reps F m' h xs vs) (fun ua=>.none) (fun b ua=>.bool b) (fun i t ua=>.int i t) (fun i t ua=>.any i t) (fun s t ua=>.str s t) (fun e ua r q=>.tup e (r q)) (fun ua q=>(Bool.false_ne_true q).elim) (fun ua q=>(Bool.false_ne_true q).elim) (fun ua q=>(Bool.false_ne_true q).elim) (fun ua=>.nil) (fun ua ub a b q=>B2 q fun q1 q2=>.cons (a q1) (b q2)) r
theorem Reps.plain {xs:List Value}{vs:List V} (r:Reps F m h xs vs):plains vs=true→Reps F m' h xs vs:=
 r.ind (P:=fun xs vs=>plains vs=true→Reps F m' h xs vs) (fun ua=>.nil) fun a ua b q=>B2 q fun q1 q2=>.cons (a.plain q1) (b q2)
end
theorem zf8.plain {X:Stat}{m m':AM}{h:Heap}{p:Addr×List Addr}{c:C} (x:zf8 X m h p c) (q:zbv c=true):zf8 X m' h p c:=by
 refine bc fun hN=>?_
 induction c using C.casesOn with
 | list vs=>refine zaW x ?_; clear x; intro a rst; refine zaZ rst ?_; clear rst; intro xs n b e; refine hN ?_; exact⟨a,xs,n,b,e.plain q⟩
 | dict kvs=>exact(Bool.false_ne_true q).elim
 | inst as=>exact(Bool.false_ne_true q).elim
 | words rest=>refine hN ?_; exact x

theorem zfA:∀ {ls:List Nat},zcg ls=true→∀ {i j n:Nat},ls[i]?=some n→ls[j]?=some n→i=j
 | [],_,i,_,_,e,_=>by simp at e
 | x::r,h,i,j,n,e1,e2=>by
  have h:(!(r.any (Nat.beq x))&&zcg r)=true:=h
  obtain⟨h1,h2⟩:=Bool.and_eq_true_iff.mp h
  have hx:∀ k:Nat,r[k]?=some x→False:=fun k e=>by
   have:=List.any_eq_true.mpr ⟨x,List.mem_of_getElem? e,(Nat.beq_refl x)⟩
   rw[this] at h1; exact(Bool.false_ne_true h1).elim
  induction i using Nat.casesOn with
  | zero=>induction j using Nat.casesOn with
   | zero=>rfl
   | succ j=>have ee:=Option.some.inj e1; clear e1; subst ee; exact(hx j e2).elim
  | succ i=>induction j using Nat.casesOn with
   | zero=>have ee:=Option.some.inj e2; clear e2; subst ee; exact(hx i e1).elim
   | succ j=>exact congrArg _ (zfA h2 (show r[i]?=some n from e1) (show r[j]?=some n from e2))
set_option tactic.hygienic true in
theorem zh2 {σ:List C}:∀ {ls:List Nat}{τ:List C},zny σ ls=some τ→τ.length=ls.length∧∀ (j n:Nat),ls[j]?=some n→∃ c,τ[j]?=some c∧σ[n]?=some c∧zbv c=true
 | [],τ,h=>by have ee:=Option.some.inj h; clear h; subst ee; exact⟨rfl,fun j n e=>by simp at e⟩
 | x::r,τ,h=>by
  unfold zny at h
  split at h
  ·rename_i c τ' h1 h2
   split at h
   ·rename_i hp
    have ee:=Option.some.inj h
    clear h
    subst ee
    obtain⟨a,b⟩:=zh2 h2
    refine⟨by simp[a],fun j n e=>?_⟩
    induction j using Nat.casesOn with
    | zero=>have ee:=Option.some.inj e; clear e; subst ee; exact zle c rfl h1 hp
    | succ j=>exact b j n e
   ·exact zaA h
  ·exact zaA h
theorem zd7:∀ {ls:List Nat}{τ σ σ':List C},zfo ls τ σ=some σ'→zcg ls=true→σ'.length=σ.length∧(∀ n:Nat,n ∉ ls→σ'[n]?=σ[n]?) ∧
  ∀ (j n:Nat),ls[j]?=some n→∃ c,τ[j]?=some c∧zbv c=true∧(n < σ.length→σ'[n]?=some c)
 | [],τ,σ,σ',h,_=>by have ee:=Option.some.inj h; clear h; subst ee; exact⟨rfl,fun ua ub=>rfl,fun j n e=>by simp at e⟩
 | x::r,[],σ,σ',h,_=>nomatch h
 | x::r,c::τ,σ,σ',h,hnd=>by
  unfold zfo at h
  split at h
  ·rename_i hp
   have hnd':(!(r.any (Nat.beq x))&&zcg r)=true:=hnd
   refine zaW (Bool.and_eq_true_iff.mp hnd') fun h1 h2=>?_
   refine ziM (zd7 h h2) fun a b d=>?_
   have hx:x ∉ r:=fun q=>by
    have:=List.any_eq_true.mpr ⟨x,q,(Nat.beq_refl x)⟩
    replace h1:=this▸h1; exact(Bool.false_ne_true h1).elim
   refine⟨by refine a.symm▸?_; refine List.length_set.symm▸?_; with_reducible rfl,fun n hn=>?_,fun j n e=>?_⟩
   ·refine(b n (fun q=>hn (List.mem_cons_of_mem _ q))).symm▸?_
    refine(List.getElem?_set_ne fun q:x=n=>hn (q▸List.mem_cons_self ..)).symm▸?_
    with_reducible rfl
   ·induction j using Nat.casesOn with
    | zero=>
     have ee:=Option.some.inj e
     clear e
     subst ee
     refine zle c rfl hp (fun hl=>?_)
     refine(b x hx).symm▸?_
     refine(List.getElem?_set_self hl).symm▸?_
     with_reducible rfl
    | succ j=>
     refine zb8 (d j n e) fun c' q1 q2 q3=>?_
     exact zle c' q1 q2 (fun hl=>q3 (by refine List.length_set.symm▸?_; exact hl))
  ·exact zaA h

set_option tactic.hygienic true in
theorem zhb {F:Nat→Option Addr}{m ms:AM}{h:Heap}:∀ {as:List V}{vals:List Value}{k:Nat}{as':List V}{ls:List Nat},frA k as=some (as',ls)→Reps F m h vals as →
  (∀ (j n:Nat),ls[j]?=some n→∃ p,m[n]?=some p∧ms[k+j]?=some p)→Reps F ms h vals as'
 | [],_,k,as',ls,e,r,_=>by cases r; cases e; exact .nil
 | v::as,_,k,as',ls,e,.cons (x:=x) (xs:=xs) r1 r2,hm=>by
  have pl:∀ {v:V},frA k (v::as)=(match plain v with
   | true=>match frA k as with
    | some (as,ls)=>some (v::as,ls)
    | none=>none
   | false=>none)→frA k (v::as)=some (as',ls)→Rep F m h x v→Reps F ms h (x::xs) as':=fun{v} d e r1=>by
   rw[d] at e
   split at e
   ·rename_i hp
    split at e
    ·rename_i as2 ls2 h2
     cases e
     exact .cons (r1.plain hp) (zhb h2 r2 hm)
    ·exact zaA e
   ·exact zaA e
  induction v using V.casesOn with
  | loc n=>
   unfold frA at e
   split at e
   ·rename_i as2 ls2 h2
    cases e
    refine .cons ?_ (zhb h2 r2 fun j n' hj=>?_)
    ·cases r1 with
     | loc e1=>
      refine zao (hm 0 n rfl) fun p q1 q2=>?_
      rw[e1] at q1; have ee:=Option.some.inj q1; clear q1; subst ee
      exact .loc q2
    ·refine zao (hm (j+1) n' hj) fun p q1 q2=>?_
     exact⟨p,q1,by rw[← q2]; congr 1; exact Nat.add_right_comm _ _ _⟩
   ·exact zaA e
  | _=>exact pl rfl e r1

section
variable {X:Stat}{fs:List PySem.Env}{m ms ms':AM}{σ σ' τ τ':List C}{s s':Shared}{ls:List Nat}
noncomputable def zpi (m ms:AM) (ls:List Nat):Prop:=ms.length=ls.length∧∀ (j n:Nat),ls[j]?=some n→∃ p,m[n]?=some p∧ms[j]?=some p
theorem zpi.back (l:zpi m ms ls) {j:Nat}{p:Addr×List Addr} (e:ms[j]?=some p):∃ n,ls[j]?=some n∧m[n]?=some p:=by
 refine bc fun hN=>?_
 obtain⟨hl,_⟩:=List.getElem?_eq_some_iff.mp e
 have hl':j < ls.length:=l.1▸hl
 refine zao (l.2 j ls[j] (List.getElem?_eq_getElem hl')) fun p' q1 q2=>?_
 rw[e] at q2; have ee:=Option.some.inj q2; clear q2; subst ee
 refine hN ?_
 exact zc1 _ (List.getElem?_eq_getElem hl') q1
theorem zpi.mut (l:zpi m ms ls) {b:Addr} (q:Mut ms b):Mut m b:=by
 refine zao q ?_
 clear q
 intro p hp hb
 refine zaF (List.getElem?_of_mem hp) fun j hj=>?_
 refine zao (l.back hj) fun n ua e=>?_
 exact zc1 p (zai e) hb
theorem zoi (k:Ok X fs m σ s) (hp:zny σ ls=some τ) (nd:zcg ls=true):∃ ms,zpi m ms ls∧Ok X fs ms τ s:=by
 refine zaW (zh2 hp) fun p1 p2=>?_
 have hl:zpi m (ls.map fun n=>(m[n]?).getD (0,[])) ls:=⟨by exact List.length_map ..,fun j n e=>by
  refine zb8 (p2 j n e) fun c ua q ub=>?_
  have hn:n < m.length:=by refine k.sto.len.symm▸?_; exact(List.getElem?_eq_some_iff.mp q).1
  exact zc1 (m[n]) (List.getElem?_eq_getElem hn) (by refine(List.getElem?_map).symm▸?_; refine e.symm▸?_; show some ((m[n]?).getD _)=_; refine(List.getElem?_eq_getElem hn).symm▸?_; rfl)⟩
 refine zc1 _ hl (⟨k.stays,k.ff,fun e he L hL q=>k.prot e he L hL (hl.mut q),⟨by refine hl.1.symm▸?_; refine p1.symm▸?_; with_reducible rfl,fun n p c e1 e2=>?_,fun p hp=>?_,fun i j p q ij e1 e2 b h1 h2=>?_⟩⟩)
 ·refine bc fun hN=>?_
  refine zao (hl.back e1) fun n' q1 q2=>?_
  refine zb8 (p2 n n' q1) fun c' q3 q4 q5=>?_
  replace e2:=q3▸e2; cases e2
  refine hN ?_
  exact(k.sto.rep n' p c q2 q4).plain q5
 ·refine bc fun hN=>?_
  refine zaF (List.getElem?_of_mem hp) fun j hj=>?_
  refine zao (hl.back hj) fun n ua e=>?_
  refine hN ?_
  exact k.sto.own p (zai e)
 ·refine bc fun hN=>?_
  refine zao (hl.back e1) fun n1 a1 a2=>?_
  refine zao (hl.back e2) fun n2 b1 b2=>?_
  refine hN ?_
  exact k.sto.apart n1 n2 p q (fun q=>ij (zfA nd a1 (q▸b1))) a2 b2 b h1 h2

theorem zmj (k:Ok X fs m σ s) (l:zpi m ms ls) (nd:zcg ls=true) (x:Ext ms ms' s.heap s'.heap) (k':Ok X fs ms' τ' s') (hp:zfo ls τ' σ=some σ'):Ext m m s.heap s'.heap∧Ok X fs m σ' s':=by
 refine ziM (zd7 hp nd) fun p1 p2 p3=>?_
 have ex:Ext m m s.heap s'.heap:=⟨List.prefix_rfl,fun b o e hn=>x.keep b o e fun q=>hn (l.mut q),fun ua q=>.inl q⟩
 refine⟨ex,k'.stays,k'.ff,k.prot,by rw[k.sto.len,p1],fun n p c e1 e2=>?_,fun p hp=>?_,k.sto.apart⟩
 ·by_cases hn:n∈ls
  ·refine zaF (List.getElem?_of_mem hn) fun j hj=>?_
   refine zb8 (p3 j n hj) fun c' q1 q2 q3=>?_
   rw[q3 (by rw[← k.sto.len]; exact(List.getElem?_eq_some_iff.mp e1).1)] at e2; have ee:=Option.some.inj e2; clear e2; subst ee
   refine zao (l.2 j n hj) fun p' r1 r2=>?_
   rw[e1] at r1; have ee:=Option.some.inj r1; clear r1; subst ee
   exact(k'.sto.rep j p _ (zcD x.pre r2) q1).plain q2
  ·rw[p2 n hn] at e2
   refine(k.sto.rep n p c e1 e2).ext List.prefix_rfl (k.sto.keepT ex) (k.sto.own p (zai e1)).1 fun b hb o e=>x.keep b o e fun ww=>zao ww fun p' hp' hb'=>?_
   refine zaF (List.getElem?_of_mem hp') fun j hj=>?_
   refine zao (l.back hj) fun n' q1 q2=>?_
   exact k.sto.apart n n' p p' (fun q=>hn (q▸List.mem_of_getElem? q1)) e1 q2 b hb hb'
 ·refine zaF (List.getElem?_of_mem hp) fun n hn=>?_
  refine⟨(k.sto.own p hp).1,fun b hb=>?_⟩
  refine zaW ((k.sto.own p hp).2 b hb) fun o1 rst=>?_
  refine zao rst ?_
  clear rst
  intro o o2 o3
  refine⟨o1,?_⟩
  by_cases hm:n∈ls
  ·refine zaF (List.getElem?_of_mem hm) fun j hj=>?_
   refine zao (l.2 j n hj) fun p' r1 r2=>?_
   rw[hn] at r1; have ee:=Option.some.inj r1; clear r1; subst ee
   exact((k'.sto.own p (zai (zcD x.pre r2))).2 b hb).2
  ·refine⟨o,x.keep b o o2 fun ww=>zao ww fun p' hp' hb'=>?_,o3⟩
   refine zaF (List.getElem?_of_mem hp') fun j hj=>?_
   refine zao (l.back hj) fun n' q1 q2=>?_
   exact k.sto.apart n n' p p' (fun q=>hm (q▸List.mem_of_getElem? q1)) hn q2 b hb hb'

set_option tactic.hygienic true in
theorem zmk {v:V}{val:Value} (k:Ok X fs m σ s) (l:zpi m ms ls) (x:Ext ms ms' s.heap s'.heap) (k':Ok X fs ms' τ' s') (y:zc2 s s') (ex:Ext m m s.heap s'.heap) (ko:Ok X fs m σ' s') (hlen:σ'.length=σ.length)
  (r:Rep X.F ms' s'.heap val v) (hne:zdX σ σ' ls.length τ' v≠.stuck):PV X fs m s (zdX σ σ' ls.length τ' v) val s':=by
 have pl:∀ {v:V},zdX σ σ' ls.length τ' v=(match plain v with
   | true=>.ok v σ'
   | false=>.stuck)→zdX σ σ' ls.length τ' v≠.stuck→Rep X.F ms' s'.heap val v→PV X fs m s (zdX σ σ' ls.length τ' v) val s':=fun{v} d hn r=>by
  rw[d] at hn ⊢
  split
  ·rename_i hp; exact⟨v,σ',rfl,m,ex,ko,y,r.plain hp⟩
  ·rename_i hp; rw[hp] at hn; exact absurd rfl hn
 induction v using V.casesOn with
 | loc n=>
  unfold zdX at hne ⊢
  dsimp only at hne ⊢
  split at hne
  case h_2=>exact absurd rfl hne
  rename_i hle
  try (rw[hle]; dsimp only)
  split at hne
  case h_2=>exact absurd rfl hne
  rename_i c hc
  try (rw[hc]; dsimp only)
  split at hne
  case h_2=>exact absurd rfl hne
  rename_i hpc
  try (rw[hpc]; dsimp only)
  have hle:=Nat.le_of_ble_eq_true hle
  cases r with
  | loc e1=>
   rename_i q
   have hnq:∀ b∈q.2,s.heap.get? b=none:=fun b hb=>by
    refine Or.elim (x.fresh b ⟨q,zai e1,hb⟩) ?_ ?_
    intro nm
    refine zao nm ?_
    clear nm
    intro p hp hb'
    rotate_left
    intro h1
    rotate_left
    ·obtain⟨j,hj⟩:=List.getElem?_of_mem hp
     have hj':=(List.getElem?_eq_some_iff.mp hj).1
     rw[l.1] at hj'
     exact(k'.sto.apart j n p q (by exact Nat.ne_of_lt (Nat.lt_of_lt_of_le ‹_› ‹_›)) (zcD x.pre hj) e1 b hb' hb).elim
    ·exact h1
   have hnm:∀ b∈q.2,¬ Mut m b:=fun b hb q=>by
    obtain⟨o,ho⟩:=k.sto.live q
    rw[hnq b hb] at ho; exact zaA ho
   have S:=ko.sto.adopt (q:=q) (c:=c) (k'.sto.own q (zai e1)).1 (fun b hb=>⟨hnm b hb,(k'.sto.own q (zai e1)).2 b hb⟩) ((k'.sto.rep n q c e1 hc).plain hpc)
   have ex2:Ext m (m++[q]) s.heap s'.heap:=⟨List.prefix_append ..,ex.keep,fun b hb=>(Mut.push.mp hb).imp_right (hnq b)⟩
   refine⟨.loc σ.length,σ'++[c],rfl,m++[q],ex2,⟨ko.stays,ko.ff,fun e he L hL hM=>?_,S⟩,y,?_⟩
   ·refine Or.elim (Mut.push.mp hM) ?_ ?_
    intro hM
    rotate_left
    intro hM
    rotate_left
    ·exact ko.prot e he L hL hM
    ·obtain⟨o,ho⟩:=za6 k.ff e he L hL
     rw[hnq L hM] at ho; exact zaA ho
   ·exact .loc (p:=q) (by rw[← k.sto.len]; exact zdy _ _)
 | _=>exact pl rfl hne r
end
end
section
open W Calls PyProof.Rows
section
variable {X:Stat}{fs:List PySem.Env}{m:AM}{σ:List C}{s:Shared}{A:Around}{prim:Bool}{lo:Lo}{n:Nat}
theorem zh3 {f:Nat}{fn:Fn}{vals:List Value}{as:List V} (F:Facts X) (hs:znq X prim lo n fn.body) (hf:X.T.fns[f]?=some fn) (r:Reps X.F m s.heap vals as) (k:Ok X fs m σ s)
  (l:Lim prim A (n+1)) (hfr:A.frames=some fs) (hne:zbh (zdM X.T prim lo fn as σ)):codeAny (model X.prog X.w) A (.call (.ref fn.addr) ⟨vals,[]⟩) (PC X fs m s (zdM X.T prim lo fn as σ)) s:=by
 unfold zdM at hne ⊢
 induction h1:frA 0 as using Option.casesOn with
 | none=>replace hne:=h1▸hne; exact zab hne
 | some q=>
  obtain⟨as',ls⟩:=q
  replace hne:=h1▸hne
  dsimp only at hne ⊢
  induction h2:zcg ls using Bool.casesOn with
  | false=>replace hne:=h2▸hne; exact zab hne
  | true=>
   induction h3:zny σ ls using Option.casesOn with
   | none=>replace hne:=h2▸hne; replace hne:=h3▸hne; exact zab hne
   | some τ=>
    replace hne:=h2▸hne
    replace hne:=h3▸hne
    dsimp only at hne ⊢
    refine zao (zoi k h3 h2) fun ms hl k1=>?_
    have r':Reps X.F ms s.heap vals as':=zhb h1 r fun j n e=>by rw[Nat.zero_add]; exact hl.2 j n e
    have hne':zcC X.T prim lo fn as' τ≠.stuck:=fun q=>by replace hne:=q▸hne; exact zab hne
    refine codeAny_mono (zh1 F hs hf r' k1 l hfr hne') fun res s' hres=>?_
    refine Or.elim hres ?_ ?_
    clear hres
    intro hres
    rotate_left
    clear hres
    intro nm
    refine zb8 nm ?_
    clear nm
    intro b e1 e2 _
    rotate_left
    ·cases res with
     | error e=>
      obtain⟨e1,e2⟩:=hres
      refine e1.symm▸?_
      exact⟨rfl,e2⟩
     | ok fl=>induction fl using PySem.Flow.casesOn with
      | ret val=>
       refine zaZ hres ?_
       clear hres
       intro v τ' e1 rst
       refine zfl rst ?_
       clear rst
       intro ms' x k2 y rv
       rw[e1] at hne ⊢
       unfold znz at hne ⊢
       dsimp only at hne ⊢
       induction h4:zfo ls τ' σ using Option.casesOn with
       | none=>replace hne:=h4▸hne; exact zab hne
       | some σ'=>
        replace hne:=h4▸hne
        dsimp only at hne ⊢
        obtain⟨ex,ko⟩:=zmj k hl h2 x k2 h4
        exact zmk k hl x k2 y ex ko (zd7 h4 h2).1 rv hne.1
      | _=>exact hres.elim
    ·replace hne:=e1▸hne
     exact zab hne
theorem ziX {f:Nat}{fn:Fn}{vals:List Value}{as:List V} (F:Facts X) (hs:znq X prim lo n fn.body) (hf:X.T.fns[f]?=some fn) (r:Reps X.F m s.heap vals as) (k:Ok X fs m σ s)
  (l:Lim prim A (n+1)) (hfr:A.frames=some fs) (hne:zbh (znA X.T prim lo f as σ)):codeAny (model X.prog X.w) A (.call (.ref fn.addr) ⟨vals,[]⟩) (PC X fs m s (znA X.T prim lo f as σ)) s:=by
 unfold znA at hne ⊢
 rw[hf] at hne ⊢
 dsimp only at hne ⊢
 induction prim using Bool.casesOn with
 | true=>exact zh3 F hs hf r k l hfr hne
 | false=>
  dsimp only at hne ⊢
  refine codeAny_mono (zh1 F hs hf r k l hfr hne.1) fun res s' hres=>?_
  refine Or.elim hres ?_ ?_
  clear hres
  intro hres
  rotate_left
  clear hres
  intro nm
  refine zb8 nm ?_
  clear nm
  intro b e1 e2 _
  rotate_left
  ·exact hres
  ·rw[e1] at hne; exact znP hne
theorem Lim.down {prim:Bool}{A:Around}{n:Nat} (l:Lim prim A (n+1)):Lim prim A n:=⟨l.hand,by have:=l.depth; omega,by have:=l.units; omega⟩
theorem zkK (F:Facts X) (W:WFacts X) (P:PrimOK X prim) (G:ExcOK X):∀ n,LoOK X (ev X.T prim n) prim n
 | 0=>⟨fun ua ub uc ud ue h=>zab h,fun ua ub uc ud ue h=>zab h,fun ua ub uc ud ue uf h=>absurd rfl h,fun ua ub uc ud ue h=>zab h⟩
 | n+1=>
  have L:=zkK F W P G n
  ⟨fun hok he k l hfr hn=>(zbM F L W P _).1 hok ⟨he,k,l.down,hfr⟩ hn,fun hok he k l hfr hn=>(zbM F L W P _).2 hok ⟨he,k,l.down,hfr⟩ hn,
   fun hok S l hfr e1 e2 hn=>allSs F L W P G _ hok S l.down hfr e1 e2 hn,fun hf r k l hfr hn=>ziX F (allSs F L W P G _) hf r k l hfr hn⟩
end
end
section
open W Calls PyProof.Rows
section
variable {prog:Program}{w:World}{A:Around}{E:Value→Shared→Prop}{R:Result→Shared→Prop}{h:Heap}{g:Array GenState}{d:Drawn}{t:Nat}{os:OsState}
variable {nm q:Str}{C D N:Addr}{bs bm:List Value}{hdct:Bool}{sn:List Str}{sub:List Value}{ab:Bool}{col:Option Bool}{dd:Option Addr}{k0 k1 k2 k3 k5:Option Value}{B newId initId:String}{K:Frag}{fI:Addr}

theorem zue {x:Value} (hx:bm.contains x=true):(Value.ref C::Value.ref D::bm).contains x=true:=by
 rw[List.contains_cons,List.contains_cons,hx,Bool.or_true,Bool.or_true]
theorem zml {T:String} (hx:bm.contains (.type T)=false):(Value.ref C::Value.ref D::bm).contains (.type T)=false:=by
 rw[List.contains_cons,List.contains_cons,hx]; rfl
theorem zkL {M:Model} (F:ExcBaseFacts B newId initId bm) {rest:List Value}{Q:Unit→Shared→Prop} (hC:h.get? C=some (excClassObj nm q C N bs (.ref D::bm) hdct sn sub ab col dd k0 k1 k2 k3 k5 newId))
  (hq:Q () ⟨h,g,d,t,os⟩):wpAny M A (checkBuiltinCall newId ⟨.ref C::rest,[]⟩) Q E ⟨h,g,d,t,os⟩:=by
 have hcont:(Value.ref C::Value.ref D::bm).contains (.type B)=true:=zue F.hasB
 have hstar:=F.noStar
 unfold checkBuiltinCall
 refine(zci Prod.mk F.newKind F.newSplit).symm▸?_
 dsimp only
 refine F.newRow.symm▸?_
 dsimp only
 repeat (first | refine wpAny_loadPart_at hC ?_ | (refine wpAny_isSubtype_exc hC ?_; refine hcont.symm▸?_) | refine wpAny_staticBase_exc hC ?_ | refine wpAny_madeBy_exc hC ?_ | simp only[bne_self_eq_false,Bool.false_eq_true,if_false] | wp_step)
 exact hq
theorem zoj (F:ExcBaseFacts B newId initId bm) {rest:List Value} (hC:h.get? C=some (excClassObj nm q C N bs (.ref D::bm) hdct sn sub ab col dd k0 k1 k2 k3 k5 newId))
  (hq:R (.ok (.ret (.ref (h.objs.size+1)))) ⟨(h.push { cls:=.type "tuple",data:=.seq rest.toArray }).push
   { cls:=.ref C,data:=.fields #[.ref h.objs.size,.none,.none,.none,.bool false,.none] },g,d,t,os⟩) (hrest:rest.length≤sizeLine) :
  codeAny (model prog w) A (.builtin newId ⟨.ref C::rest,[]⟩) R ⟨h,g,d,t,os⟩:=by
 have hends:=F.ends
 have hcB:(Value.ref C::Value.ref D::bm).contains (.type B)=true:=zue F.hasB
 have hcA:(Value.ref C::Value.ref D::bm).contains (.type "AttributeError")=false:=zml F.noAttr
 have hcN:(Value.ref C::Value.ref D::bm).contains (.type "NameError")=false:=zml F.noName
 refine codeAny_builtinAt F.entry ?_
 unfold Builtin.«BaseException.__new__»
 refine PySem.wpAt_bind ?_
 show PySem.wpAt _ _ _ (stack >>= _) _ _ _
 refine PySem.wpAt_bind (PySem.wpAt_stack fun p below=>PySem.wpAt_of_wpAny ?_)
 wp_walk
 refine PySem.wpAt_of_wpAny ?_
 rw[F.owner]
 repeat (first | with_reducible refine wpAny_madeHere_exc F.canon hC ?_ | with_reducible refine wpAny_loadPart_at hC ?_ | (with_reducible refine wpAny_isSubtype_exc hC ?_; first | rw[hcB] | rw[hcA] | rw[hcN]) | wp_step)
 show R _ _
 rw[Heap.size_push]
 exact hq

noncomputable abbrev zfB (C t:Addr):Obj:={ cls:=.ref C,data:=.fields #[.ref t,.none,.none,.none,.bool false,.none] }
theorem zkM (F:ExcBaseFacts B newId initId bm) {rest:List Value}{Q:Fin→Shared→Prop}
  (hC:h.get? C=some (excClassObj nm q C N bs (.ref D::bm) hdct sn sub ab col dd k0 k1 k2 k3 k5 newId)) (X:K.In h) (hi:findIn K (.ref C) "__init__" = some (some (.ref fI))) (hf:typeIn K (.ref fI)=some (.type "function"))
  (hrest:rest.length≤sizeLine)
  (hq:wpAny (model prog w) A (call (.ref fI) (.ref (h.objs.size+1)::rest)) (fun v s'=>v=.none∧Q (.done (.ret (.ref (h.objs.size+1)))) s') E ⟨(h.push { cls:=.type "tuple",data:=.seq rest.toArray }).push (zfB C h.objs.size),g,d,t,os⟩) :
  wpAny (model prog w) A (Builtin.«type.__call__» ⟨.ref C::rest,[]⟩) Q E ⟨h,g,d,t,os⟩:=by
 repeat (first | with_reducible refine wpAny_loadPart_at hC ?_ | with_reducible refine wpAny_madeBy_exc hC ?_ | wp_step)
 refine codeAny_call_builtin_code (Code.quiet_builtin _ F.quiet) (zkL F hC ?_)
 refine zoj F hC ?_ hrest
 show wpAny _ _ _ _ _ _
 have hC₁:=Heap.get?_push_of_some (zfB C h.objs.size) (Heap.get?_push_of_some { cls:=.type "tuple",data:=.seq rest.toArray } hC)
 have X₁:K.In ((h.push { cls:=.type "tuple",data:=.seq rest.toArray }).push (zfB C h.objs.size)):=X.keeps fun b o e=>Heap.get?_push_of_some _ (Heap.get?_push_of_some _ e)
 have hget:((h.push { cls:=.type "tuple",data:=.seq rest.toArray }).push (zfB C h.objs.size)).get? (h.objs.size+1)=some (zfB C h.objs.size):=by heap_get
 have hcC:(Value.ref C::Value.ref D::bm).contains (.ref C)=true:=by simp
 unfold isInstance
 repeat (first | with_reducible refine wpAny_loadPart_at hget ?_ | (with_reducible refine wpAny_isSubtype_exc hC₁ ?_; refine hcC.symm▸?_) | wp_step)
 refine(looks_findIn X₁ hi).here ?_
 refine wpAny_holding (wpAny_bind ((bind_fn X₁ _ hf).here (wpAny_bind (wpAny_mono hq (fun v s' z=>?_) fun ua ub z=>z))))
 obtain⟨rfl,z⟩:=z
 exact wpAny_pure (wpAny_pure z)

theorem zmm (F:ExcBaseFacts B newId initId bm) {rest:List Value}{Q:Value→Shared→Prop}
  (hC:h.get? C=some (excClassObj nm q C N bs (.ref D::bm) hdct sn sub ab col dd k0 k1 k2 k3 k5 newId)) (X:K.In h) (hi:findIn K (.ref C) "__init__" = some (some (.ref fI))) (hf:typeIn K (.ref fI)=some (.type "function"))
  (hrest:rest.length≤sizeLine)
  (hq:∀ A':Around,A'.depth≤A.depth+2→A'.units≤A.units+20→A'.handled=A.handled→A'.frames=A.frames→wpAny (model prog w) A' (call (.ref fI) (.ref (h.objs.size+1)::rest)) (fun v s'=>v=.none∧Q (.ref (h.objs.size+1)) s') E ⟨(h.push { cls:=.type "tuple",data:=.seq rest.toArray }).push (zfB C h.objs.size),g,d,t,os⟩) :
  wpAny (model prog w) A (call (.ref C) rest) Q E ⟨h,g,d,t,os⟩:=by
 have f1:=tc_lookup
 have f2:=tc_bind (.ref C)
 have hT:(⟨h,g,d,t,os⟩:Shared).TypeIs (.ref C) "type":=⟨_,hC,rfl⟩
 refine wpAny_call (codeAny_of_tree ?_)
 show wpAny _ _ (callAny (.ref C) _) _ _ _
 repeat (any_goals (first | assumption | with_reducible refine wpAny_loadPart_at hC ?_ | wp_step))
 refine⟨rfl,?_⟩
 refine codeAny_call_builtin_at (Code.quiet_builtin _ (by decide +kernel)) entry_typeCall (wpAny_check_type_call_sub hC (zkM F hC X hi hf hrest ?_))
 refine wpAny_mono (hq _ ?_ ?_ ?_ ?_) (fun v s' z=>⟨z.1,?_⟩) fun e s' z=>?_
 ·show A.depth+1≤A.depth+2; exact Nat.lt_add_of_pos_right (by decide)
 ·exact Nat.add_le_add_left (show Code.cUnits (.builtin "type.__call__" ⟨.ref C::rest,[]⟩)≤20 from by first | (show(0:Nat)≤20; omega) | (show(1:Nat)≤20; decide) | (show(2:Nat)≤20; omega) | (show(4:Nat)≤20; omega) | (show(5:Nat)≤20; omega)) _
 ·rfl
 ·rfl
 ·exact z.2
 ·exact z
end
end
section
open W Calls PyProof.Rows
noncomputable def zc5 (es:List DictEntry):Prop:=∀ e∈es,e.refKey=false
theorem zc5.put {name:Str}{hsh:Int}{t:Tok}{v:Value}:∀ {es:List DictEntry},zc5 es→zc5 (putL name hsh (.str name t) v es)
 | [],_=>fun e he=>by refine(List.mem_singleton.mp he).symm▸?_; rfl
 | e::r,K=>by
  unfold putL
  split
  ·intro e' he'
   refine Or.elim (List.mem_cons.mp he') ?_ ?_
   intro nm
   subst nm
   rotate_left
   intro he'
   rotate_left
   ·exact K e (List.mem_cons_self ..)
   ·exact K e' (List.mem_cons_of_mem _ he')
  ·intro e' he'
   refine Or.elim (List.mem_cons.mp he') ?_ ?_
   intro nm
   subst nm
   rotate_left
   intro he'
   rotate_left
   ·exact K _ (List.mem_cons_self ..)
   ·exact zc5.put (fun e h=>K e (List.mem_cons_of_mem _ h)) e' he'

section
variable {X:Stat}{A:Around}{E:Value→Shared→Prop}{s:Shared}
theorem zjK {dx:Addr}{es:List DictEntry}{n:Nat}{name:Str}{v:Value}{tk:Tok} (D:s.heap.get? dx=some (dictOf es n)) (ke:zc5 es) (hz:es.length≤100) {Q:PySem.Fin→Shared→Prop}
  (h:∀ h' hsh t n',Heap.SameBut dx s.heap h'→h'.get? dx=some (dictOf (putL name hsh (.str name t) v es) n')→Q (.done (.ret .none)) { s with heap:=h',toks:=s.toks+1 }) :
  wpAny (model X.prog X.w) A (Builtin.ObjectAttr.storeInDict dx (.str name tk) name v) Q E s:=by
 unfold Builtin.ObjectAttr.storeInDict
 refine wpAny_bind (wpAny_pure (wpAny_bind ?_))
 unfold nsSet
 refine wpAny_bind (wpAny_bind (wpAny_askSetting (wpAny_pure (wpAny_bind (wpAny_mkText (wpAny_bind (wpAny_loadPart D ?_)))))))
 have c:(!es.toArray.any (·.key.isStr name)&&es.toArray.any (·.refKey))=false:=by
  refine Array.any_toList▸?_
  refine Array.any_toList▸?_
  have h2:es.any (·.refKey)=false:=by
   rw[List.any_eq_false]
   intro e he q
   replace q:=(ke e he)▸q; exact(Bool.false_ne_true q).elim
  show(_&&es.any (·.refKey))=false
  rw[h2,Bool.and_false]
 have hdat:(dictOf es n).data=.dict es.toArray n:=rfl
 refine hdat.symm▸?_
 dsimp only
 rw[aRefKeyMayBeTheName_at,c]
 have D':∀ hsh t,(s.heap.update dx (Obj.putName name hsh (.str name t) v)).get? dx=some (dictOf (putL name hsh (.str name t) v es) (putN name es n)):=fun hsh t=>by
  rw[← putName_dict]
  exact Heap.get?_update_self _ D (by rw[putName_dict]; rfl)
 refine wpAny_updatePart D ?_
 have D2:=D' (PyData.keyHash X.w.params name) s.toks
 refine wpAny_bind (wpAny_lookBehind D2 (show(Data.dict (putL name (PyData.keyHash X.w.params name) (.str name s.toks) v es).toArray (putN name es n)).pastItsLine=none from pastItsLine_dict ?_) ?_)
 ·have:=zcl (name:=name) (hsh:=PyData.keyHash X.w.params name) (key:=.str name s.toks) (v:=v) es
  refine List.size_toArray.symm▸?_; refine sizeLine_eq.symm▸?_; omega
 ·exact wpAny_pure (h _ _ _ _ (Heap.SameBut.update ..) (D' _ _))

noncomputable abbrev zer (D:Addr):List Value:=[.ref D,.type "Exception",.type "BaseException",.type "object"]
structure ExcAt (X:Stat) (s0:Heap) (L:Addr) (lm:Str→Option Value) (h:Heap) (x:Addr) (k:Nat):Prop where
 st:s0.StaysIn h
 new:s0.get? x=none
 xL:x≠L
 ns:h.Ns L lm
 ob:∃ oe vs a0,h.get? x=some oe∧oe.cls=.ref X.GF∧oe.data=.fields vs∧vs[0]?=some a0∧vs[1]?=some .none ∧
  (oe.dict=none∨∃ dx es n,oe.dict=some dx∧dx≠x∧dx≠L∧s0.get? dx=none∧h.get? dx=some (dictOf es n)∧zc5 es∧es.length≤k)

theorem zh4 {s0:Heap}{L:Addr}{lm:Str→Option Value}{x D:Addr}{k:Nat}{name:Str}{v:Value} (KI:X.K.In s0) {cd:ClassData} (hcd:clsIn X.K X.GF=some cd) (hmro:cd.mro=.ref X.GF::zer D) (hhd:cd.hasDict=true)
  (hs:findIn X.K (.ref X.GF) "__setattr__" = some (some (.builtin "object.__setattr__"))) (ht:findIn X.K (.ref X.GF) name=some none) (J:ExcAt X s0 L lm s.heap x k) (hk:k≤90) {Q:Unit→Shared→Prop}
  (h:∀ h' tk,ExcAt X s0 L lm h' x (k+1)→Q () { s with heap:=h',toks:=tk }):wpAny (model X.prog X.w) A (PySem.setAttr (.ref x) name v) Q E s:=by
 obtain⟨st,hnew,xL,ns,oe,vs,a0,hx,hc,hd,h0,h1,hdict⟩:=J
 have XK:X.K.In s.heap:=KI.keeps st
 have hne:cd.mro.isEmpty=false:=by refine hmro.symm▸?_; rfl
 have ⟨od,I⟩:∃ od,PySem.W.InstAt s.heap x oe X.GF od:=by
  refine Or.elim hdict ?_ ?_
  clear hdict
  intro hdn
  rotate_left
  clear hdict
  intro nm
  refine ztp nm ?_
  clear nm
  intro dx es n e1 e2 e3 e4 e5 e6 e7
  rotate_left
  ·exact⟨none,hx,hc,by unfold notCls; refine hd.symm▸?_; with_reducible rfl,by refine hdn.symm▸?_; trivial⟩
  ·exact⟨some (dictOf es n),hx,hc,by unfold notCls; refine hd.symm▸?_; with_reducible rfl,by refine e1.symm▸?_; exact e5⟩
 refine set_plain XK I hs ?_
 have SF:=PySem.F.store_object
 have sub:Looks (model X.prog X.w) s.heap (isInstance (.ref x) (.type "object")) true:=I.type.andThen (looks_mroIn XK (by unfold mroIn; rw[hcd,Option.bind_some,if_neg (by rw[hne]; decide),hmro]; rfl))
 refine codeAny_call_builtin SF.slot.plain SF.entry (@check_slot (model X.prog X.w) _ _ { s with toks:=s.toks+1 } "object.__setattr__" "object" "__setattr__" (.ref x) [.str name s.toks,v] [] _ SF.kind SF.split sub (SF.args (.ref x) (.str name s.toks) v) ?_)
 have hm:Looks (model X.prog X.w) s.heap (mroOf (.ref X.GF)) cd.mro:=(looks_clsIn XK hcd).andThen .now
 rw[osa_eq,refuse_eq]
 refine wpAny_bind (wpAny_bind (I.type.here (s:={ s with toks:=s.toks+1 }) (wpAny_bind (hm.here (s:={ s with toks:=s.toks+1 }) ?_))))
 rw[hmro,refuseLoop_ref,refuseLoop_ref,PySem.F.store_Exception.passes]
 refine wpAny_pure (wpAny_bind (I.type.here (s:={ s with toks:=s.toks+1 }) (wpAny_bind ((looks_findIn XK ht).here (s:={ s with toks:=s.toks+1 }) ?_))))
 refine wpAny_bind (wpAny_pure ?_)
 dsimp only
 refine wpAny_bind (wpAny_pure (wpAny_bind (wpAny_bind (wpAny_loadPart (s:={ s with toks:=s.toks+1 }) hx ?_))))
 obtain⟨oc,odi,oda,osl⟩:=oe
 dsimp only at hc hd hdict
 subst hc hd
 dsimp only
 refine wpAny_bind (looks_clsIn (h:=s.heap) XK hcd _ _ _ _ (fun ua ub e=>e) ?_)
 refine hhd.symm▸?_
 refine Or.elim hdict ?_ ?_
 clear hdict
 intro hdn
 rotate_left
 clear hdict
 intro nm
 refine ztp nm ?_
 clear nm
 intro dx es n e1 e2 e3 e4 e5 e6 e7
 rotate_left
 ·subst hdn
  rw[if_neg (by decide)]
  dsimp only
  rw[if_neg (by exact of_decide_eq_true rfl)]
  refine wpAny_bind (wpAny_alloc' (h:=s.heap) (g:=s.gens) (d:=s.drawn) (t:=s.toks+1) (os:=s.os) ?_)
  have hx1:(s.heap.push emptyDict).get? x=some { cls:=.ref X.GF,data:=.fields vs,slots:=osl }:=Heap.get?_push_of_some _ hx
  have hxs:x≠s.heap.objs.size:=Nat.ne_of_lt (Heap.lt_size hx)
  have hLs:L≠s.heap.objs.size:=by
   refine zgT ns ?_
   clear ns
   intro o es ep g1 _
   exact Nat.ne_of_lt (Heap.lt_size g1)
  refine wpAny_bind (wpAny_update' hx1 (wpAny_pure ?_))
  dsimp only
  have hself:((s.heap.push emptyDict).update x fun o=>{ cls:=o.cls,dict:=some s.heap.objs.size,data:=o.data,slots:=o.slots }).get? x=some { cls:=.ref X.GF,dict:=some s.heap.objs.size,data:=.fields vs,slots:=osl }:=
   Heap.get?_update_self _ hx1 rfl
  have hoth:∀ b,b≠x→((s.heap.push emptyDict).update x fun o=>{ cls:=o.cls,dict:=some s.heap.objs.size,data:=o.data,slots:=o.slots }).get? b=(s.heap.push emptyDict).get? b:=fun b hb=>Heap.get?_update_other _ _ (Ne.symm hb)
  have hD:((s.heap.push emptyDict).update x fun o=>{ cls:=o.cls,dict:=some s.heap.objs.size,data:=o.data,slots:=o.slots }).get? s.heap.objs.size=some (dictOf [] 0):=(hoth _ (Ne.symm hxs)).trans (Heap.get?_push_size _ rfl)
  refine zjK (s:={ s with heap:=((s.heap.push emptyDict).update x fun o=>{ cls:=o.cls,dict:=some s.heap.objs.size,data:=o.data,slots:=o.slots }),toks:=s.toks+1 }) hD (fun e he=>nomatch he) (by exact Nat.le_of_ble_eq_true rfl) fun h' hsh t n' hsb hD'=>h h' _ ⟨fun b o hb=>?_,hnew,xL,?_,?_⟩
  ·have hbx:b≠x:=fun q=>by replace hb:=q▸hb; replace hb:=hnew▸hb; exact zaA hb
   have hb1:=st b o hb
   exact(hsb.2 b (Nat.ne_of_lt (Heap.lt_size hb1))).trans ((hoth b hbx).trans (Heap.get?_push_of_some _ hb1))
  ·refine zgT ns ?_
   clear ns
   intro o es ep g1 g2
   exact znu o es ep ((hsb.2 L hLs).trans ((hoth L (Ne.symm xL)).trans (Heap.get?_push_of_some _ g1))) g2
  ·refine zrr _ vs a0 ((hsb.2 x hxs).trans hself) rfl rfl h0 h1 (.inr ⟨s.heap.objs.size,_,n',rfl,Ne.symm hxs,Ne.symm hLs,?_,hD',zc5.put (fun e he=>nomatch he),?_⟩)
   ·induction q:s0.get? s.heap.objs.size using Option.casesOn with
    | none=>rfl
    | some o=>exact absurd (Heap.lt_size (st _ _ q)) (Nat.lt_irrefl _)
   ·have:=zcl (name:=name) (hsh:=hsh) (key:=.str name t) (v:=v) []
    simp only[List.length_nil] at this
    exact Nat.succ_pos _
 ·subst e1
  refine wpAny_pure (a:=some dx) ?_
  dsimp only
  refine zjK (s:={ s with toks:=s.toks+1 }) e5 e6 (by omega) fun h' hsh t n' hsb hD'=>h h' _ ⟨fun b o hb=>?_,hnew,xL,?_,?_⟩
  ·have hbd:b≠dx:=fun q=>by replace hb:=q▸hb; replace hb:=e4▸hb; exact zaA hb
   exact(hsb.2 b hbd).trans (st b o hb)
  ·refine zgT ns ?_
   clear ns
   intro o es' ep g1 g2
   exact znu o es' ep ((hsb.2 L (Ne.symm e3)).trans g1) g2
  ·refine zrr _ vs a0 ((hsb.2 x (Ne.symm e2)).trans hx) rfl rfl h0 h1 (.inr ⟨dx,_,n',rfl,e2,e3,e4,hD',e6.put,?_⟩)
   have:=zcl (name:=name) (hsh:=hsh) (key:=.str name t) (v:=v) es
   omega
end
end
section
open W Calls PyProof.Rows
noncomputable def zbk:List Nat:=[115,101,108,102]
noncomputable def zaz:List Nat:=[109,101,115,115,97,103,101]
noncomputable def zca:List Nat:=[115,112,111,116]
noncomputable def zmn (fI:Addr):Fn:=⟨[],fI,3,[.int 0],[zbk,zaz,zca],.cons .bad (.cons .bad (.cons .bad .nil))⟩
noncomputable def isN (x:Str) (e:Expr):Bool:=isK 23 e&&(nmE e == x)
noncomputable def zuV (st:Stmt):Bool:=isQ 24 st&&(isK 16 (v1 st)&&((zjt (v1 st)).isEmpty&&(isK 20 (e1 (v1 st))&&(Nat.beq (l1 (v1 st)).length 2&&(zbE (e1 (v1 st)).pos (v1 st).pos&&isN "Exception" (e1 (e1 (v1 st)))&&(nmE (e1 (v1 st)) == "__init__")&&isN (zaa zbk) ((l1 (v1 st)).headD dE)&&isN (zaa zaz) ((l1 (v1 st)).tail.headD dE))))))
noncomputable def zuf (n x:Str) (st:Stmt):Bool:=isQ 5 st&&(one (tsS st)&&(isK 20 (th st)&&(isN (zaa zbk) (e1 (th st))&&(nmE (th st) == n)&&isN x (v1 st))))
noncomputable def ziY (sc:Scope) (b:List Stmt):Bool:=Nat.beq b.length 3&&(zuV (b.headD dS)&&zuf "message" (zaa zaz) (b.tail.headD dS)&&zuf "spot" (zaa zca) (b.tail.tail.headD dS) &&
 (sc.names.lookup ("Exception" : Str) == some .globalImplicit)&&(sc.names.lookup (zaa zbk) == some .local)&&(sc.names.lookup (zaa zaz) == some .local)&&(sc.names.lookup (zaa zca) == some .local))
theorem zqs {α:Type} (d:α) {l:List α} (h:Nat.beq l.length 3=true):l=[l.headD d,l.tail.headD d,l.tail.tail.headD d]:=by
 refine IfT.out ?_ h
 clear h
 induction l using List.casesOn with
 | nil=>exact True.intro
 | cons a r=>induction r using List.casesOn with
  | nil=>exact True.intro
  | cons b r=>induction r using List.casesOn with
   | nil=>exact True.intro
   | cons c r=>induction r using List.casesOn with
    | nil=>exact .mk fun ua=>rfl
    | cons c r=>exact True.intro
noncomputable def zjL (K:Frag) (fI:Addr):Bool:=match K.lookup fI with
 | some ⟨_,_,.func fd,_⟩=>(match fd.body with
  | .stmts b=>ziY fd.scope b
  | _=>false)
 | _=>false

noncomputable def zqt (K:Frag) (a:Addr):Prop:=∃ nm q D N bs sn sub ab col dd k0 k1 k2 k3 k5,K.lookup a=some (excClassObj nm q a N bs (zer D) true sn sub ab col dd k0 k1 k2 k3 k5 "Exception.__new__")
structure GFacts (X:Stat):Prop where
 cls:zqt X.K X.GF
 ini:∃ fI,findIn X.K (.ref X.GF) "__init__" = some (some (.ref fI))∧typeIn X.K (.ref fI)=some (.type "function")∧zrh X.T X.K (zmn fI)=true∧zjL X.K fI=true
 sa:findIn X.K (.ref X.GF) "__setattr__" = some (some (.builtin "object.__setattr__"))
 ms:findIn X.K (.ref X.GF) "message" = some none
 sp:findIn X.K (.ref X.GF) "spot" = some none
 ex:X.mg "Exception" = none∧X.mb "Exception" = some (.type "Exception")
 keep:keepIn X.K (.ref X.GF)=true

theorem GFacts.cls_ {X:Stat} (G:GFacts X) {P:Prop} (f:∀ nm q D N bs sn sub ab col dd k0 k1 k2 k3 k5,X.K.lookup X.GF=some (excClassObj nm q X.GF N bs (zer D) true sn sub ab col dd k0 k1 k2 k3 k5 "Exception.__new__")→P):P:=
 Exists.elim G.cls fun nm h=>h.elim fun q h=>h.elim fun D h=>h.elim fun N h=>h.elim fun bs h=>h.elim fun sn h=>h.elim fun sub h=>h.elim fun ab h=>h.elim fun col h=>h.elim fun dd h=>h.elim fun k0 h=>h.elim fun k1 h=>h.elim fun k2 h=>h.elim fun k3 h=>h.elim fun k5 h=>
 f nm q D N bs sn sub ab col dd k0 k1 k2 k3 k5 h
theorem zh5 {x:Str}{e:Expr} (h:isN x e=true):e=.Name x e.pos:=B2 h fun h0 h=>(zfp h0).trans (congrArg (Expr.Name · _) (eq_of_beq h))
theorem zmo {st:Stmt} (h:zuV st=true):∃ p1 ap p2 p3 cp q,st=.Expr (.Call (.Attribute (.Name "Exception" p1) "__init__" ap) [.Name (zaa zbk) p2,.Name (zaa zaz) p3] [] cp) q∧zbE ap cp=true:=
 B2 h fun h0 h=>B2 h fun h1 h=>B2 h fun h2 h=>B2 h fun h3 h=>B2 h fun h4 h=>B5 h fun q1 q2 q3 q4 q5=>
  zva _ _ _ _ _ _ ((zo5 h0).trans (congrArg (Stmt.Expr · _) ((zej h1 h2).trans (zci (fun f l=>Expr.Call f l [] _) ((zgj h3).trans (zci (fun o n=>Expr.Attribute o n _) (zh5 q2) (eq_of_beq q3))) ((znC dE h4).trans (zci (fun a b=>[a,b]) (zh5 q4) (zh5 q5))))))) q1
theorem zh6 {n x:Str}{st:Stmt} (h:zuf n x st=true):∃ p1 p2 p3 q,st=.Assign [.Attribute (.Name (zaa zbk) p1) n p2] (.Name x p3) q:=
 B2 h fun h0 h=>B2 h fun h1 h=>B2 h fun h2 h=>B3 h fun q1 q2 q3=>
  zu6 _ _ _ _ ((zlN h0 h1 ((zgj h2).trans (zci (fun o n=>Expr.Attribute o n _) (zh5 q1) (eq_of_beq q2)))).trans (congrArg (Stmt.Assign _ · _) (zh5 q3)))
theorem zh7 {P:Prop}{sc:Scope}{b:List Stmt} (h:ziY sc b=true) (f:∀ p1 p2 p3 p4 p5 p6 p7 p8 p9 q1 q2 q3 ap cp,b=[.Expr (.Call (.Attribute (.Name "Exception" p1) "__init__" ap) [.Name (zaa zbk) p2,.Name (zaa zaz) p3] [] cp) q1,
  .Assign [.Attribute (.Name (zaa zbk) p4) "message" p5] (.Name (zaa zaz) p6) q2,.Assign [.Attribute (.Name (zaa zbk) p7) "spot" p8] (.Name (zaa zca) p9) q3]→zbE ap cp=true →
  sc.names.lookup ("Exception" : Str)=some .globalImplicit→sc.names.lookup (zaa zbk)=some .local→sc.names.lookup (zaa zaz)=some .local→sc.names.lookup (zaa zca)=some .local→P):P:=
 B2 h fun h0 h=>B7 h fun h1 h2 h3 h4 h5 h6 h7=>zu4 (zmo h1) fun p1 ap p2 p3 cp q1 e1 hl=>zup (zh6 h2) fun p4 p5 p6 q2 e2=>zup (zh6 h3) fun p7 p8 p9 q3 e3=>
  f p1 p2 p3 p4 p5 p6 p7 p8 p9 q1 q2 q3 ap cp ((zqs dS h0).trans (zci List.cons e1 (zci (fun a b=>[a,b]) e2 e3))) hl (eq_of_beq h4) (eq_of_beq h5) (eq_of_beq h6) (eq_of_beq h7)

section
variable {X:Stat}{A:Around}{E:Value→Shared→Prop}{s:Shared}
variable {nm q:Str}{D N:Addr}{bs:List Value}{sn:List Str}{sub:List Value}{ab:Bool}{col:Option Bool}{dd:Option Addr}{k0 k1 k2 k3 k5:Option Value}
theorem zmp {s0:Heap}{L:Addr}{lm:Str→Option Value}{x:Addr}{k:Nat}{va:Value} (hC:X.K.lookup X.GF=some (excClassObj nm q X.GF N bs (zer D) true sn sub ab col dd k0 k1 k2 k3 k5 "Exception.__new__")) (KI:X.K.In s0)
  (J:ExcAt X s0 L lm s.heap x k) {Q:Value→Shared→Prop} (h:∀ h',ExcAt X s0 L lm h' x k→Q .none { s with heap:=h' }) :
  wpAny (model X.prog X.w) A (call (.builtin "Exception.__init__") [.ref x,va]) Q E s:=by
 have F:=PySem.F.excBase_Exception
 refine bc fun hN=>?_
 obtain⟨st,hnew,xL,ns,oe,vs,a0,hx,hc,hd,h0,h1,hdict⟩:=J
 have hC':=(KI.keeps st) _ _ hC
 obtain⟨hh,g,d,t,os⟩:=s
 have hcB:(Value.ref X.GF::zer D).contains (.type "Exception")=true:=zue F.hasB
 have check:∀ {A:Around}{E:Value→Shared→Prop}{Q:Unit→Shared→Prop},Q () ⟨hh,g,d,t,os⟩→wpAny (model X.prog X.w) A (checkBuiltinCall "Exception.__init__" ⟨[.ref x,va],[]⟩) Q E ⟨hh,g,d,t,os⟩:=by
  intro A E Q hq
  have hshort:=F.noStar
  unfold checkBuiltinCall
  refine(zci Prod.mk F.initKind F.initSplit).symm▸?_
  dsimp only
  refine F.initRow.symm▸?_
  dsimp only
  repeat (first | (with_reducible refine wpAny_loadPart_at hx ?_; refine hc.symm▸?_) | with_reducible refine wpAny_loadPart_at hC' ?_ | (with_reducible refine wpAny_isSubtype_exc hC' ?_; refine hcB.symm▸?_) | wp_step)
  exact hq
 refine hN ?_
 refine wpAny_call (codeAny_call_builtin F.init.plain F.initEntry (check ?_))
 refine bc fun hN=>?_
 obtain⟨oc,odi,oda,osl⟩:=oe
 dsimp only at hc hd hdict
 subst hc hd
 refine hN ?_
 wp_walk
 refine h0.symm▸?_
 have hx1:(hh.push { cls:=.type "tuple",data:=.seq #[va] }).get? x=some { cls:=.ref X.GF,dict:=odi,data:=.fields vs,slots:=osl }:=Heap.get?_push_of_some _ hx
 have hsz:0 < vs.size:=(Array.getElem?_eq_some_iff.mp h0).1
 have fin:Q .none ⟨(hh.push { cls:=.type "tuple",data:=.seq #[va] }).update x (Obj.mapFields (·.setIfInBounds 0 (.ref hh.objs.size))),g,d,t,os⟩:=by
  have other:∀ b,b≠x→((hh.push { cls:=.type "tuple",data:=.seq #[va] }).update x (Obj.mapFields (·.setIfInBounds 0 (.ref hh.objs.size)))).get? b=(hh.push { cls:=.type "tuple",data:=.seq #[va] }).get? b:=fun b hb=>Heap.get?_update_other _ _ (Ne.symm hb)
  refine h _ ⟨fun b o hb=>?_,hnew,xL,?_,?_⟩
  ·have hbx:b≠x:=fun q=>by replace hb:=q▸hb; replace hb:=hnew▸hb; exact zaA hb
   exact(other b hbx).trans (Heap.get?_push_of_some _ (st b o hb))
  ·refine zgT ns ?_
   clear ns
   intro o es ep g1 g2
   exact znu o es ep ((other L (Ne.symm xL)).trans (Heap.get?_push_of_some _ g1)) g2
  ·refine zrr ({ cls:=.ref X.GF,dict:=odi,data:=.fields (vs.setIfInBounds 0 (.ref hh.objs.size)),slots:=osl }) _ (.ref hh.objs.size) (Heap.get?_update_self _ hx1 rfl) rfl rfl (by simp[hsz]) ?_ ?_
   ·rw[Array.getElem?_setIfInBounds_ne (by decide)]; exact h1
   ·refine Or.elim hdict ?_ ?_
    clear hdict
    intro hdn
    rotate_left
    clear hdict
    intro nm
    refine ztp nm ?_
    clear nm
    intro dx es n e1 e2 e3 e4 e5 e6 e7
    rotate_left
    ·exact .inl hdn
    ·exact .inr ⟨dx,es,n,e1,e2,e3,e4,(other dx e2).trans (Heap.get?_push_of_some _ e5),e6,e7⟩
 refine wpAny_pure (wpAny_bind (wpAny_setField hx1 rfl hsz ?_))
 induction a0 using PySem.Value.casesOn <;> first
  | exact wpAny_pure (wpAny_pure fin)
  | exact wpAny_letGo (wpAny_pure fin)
end
end
section
open W Calls PyProof.Rows
theorem zhc:findCls [] (.type "Exception") (.type "type") "__init__" = some (.val (.builtin "Exception.__init__")):=by kernel_rfl
section
variable {X:Stat}{A:Around}{E:Value→Shared→Prop}{s:Shared}
theorem zok {pl:Sem Bool}{Q:Value×List Value→Shared→Prop} (KI:X.K.In s.heap) (h:Q (.builtin "Exception.__init__",[]) { s with toks:=s.toks+1 }) :
  wpAny (model X.prog X.w) A (getMethod (.type "Exception") "__init__" pl) Q E s:=by
 have hstub:opaqueClassAbove (.type "Exception")=pure none:=by unfold opaqueClassAbove; dsimp only; refine(show Manifest.isStub "Exception" = false by decide +kernel).symm▸?_; rfl
 have L0:Looks (model X.prog X.w) s.heap (typeOf (.type "Exception")) (.type "type"):=Looks.of_pure (by kernel_rfl)
 have hg:findIn X.K (.type "type") "__getattribute__" = some (some (.builtin "type.__getattribute__")):=type_tga
 unfold getMethod specialOf
 refine wpAny_bind (wpAny_bind (L0.here ((looks_findIn KI hg).here ?_)))
 dsimp only
 refine(if_pos canon_tga).symm▸?_
 refine wpAny_bind (wpAny_mono (Q:=fun v=>Q (v,[])) (E:=E) ?_ (fun ua ub z=>wpAny_pure z) fun ua ub z=>z)
 have LO:Looks (model X.prog X.w) s.heap (opaqueClassAbove (.type "Exception")) none:=Looks.of_pure hstub
 refine cls_open KI LO L0 hg (looks_hook KI (r:=none) (by rfl)) (by show subIn X.K _ _=_; rfl) (r:=.val (.builtin "Exception.__init__")) zhc
  (wpAny_pure (by show wpAny _ _ (handedOut _) _ _ _; refine(handedOut_of (show handedIn (.builtin "Exception.__init__")=true by decide +kernel)).symm▸?_; exact wpAny_pure h))

theorem zdC {lm:Str→Option Value}{env:PySem.Env}{x:Str}{p:Pos}{v:Value} (hk:env.scope.kind=.function) (hl:env.kindOf x=some .local) (ns:s.heap.Ns env.locals lm) (hv:lm x=some v) (hd:(x == ("__debug__" : Str))=false) {M:Model}{Q:Value→Shared→Prop} (h:Q v s) :
  wpAny M A (eval (.Name x p) env) Q E s:=wpAny_Name (wpAny_loadName_local hk hl ns hv h) hd

theorem zol (F:Facts X) (G:GFacts X) {fI:Addr} (ho:zrh X.T X.K (zmn fI)=true) (hi:zjL X.K fI=true) {s0:Heap}{x:Addr}{va vb:Value} (KI:X.K.In s0) (hb:X.base.StaysIn s0) (hroom:A.depth < recursionLimit)
  (hs:s0.StaysIn s.heap) (hx0:s0.get? x=none) (hx:∃ t,s.heap.get? x=some (zfB X.GF t)) :
  codeAny (model X.prog X.w) A (.call (.ref fI) ⟨[.ref x,va,vb],[]⟩) (fun r s'=>r=.ok (.ret .none)∧zc2 s s'∧∃ L lm,ExcAt X s0 L lm s'.heap x 2) s:=by
 refine znt (zsR ho) fun o fd b ps ds H=>?_
 refine G.cls_ fun nm q D N bs sn sub ab col dd k0 k1 k2 k3 k5 hC=>?_
 have hb':ziY fd.scope b=true:=by
  have hd:=H.data
  obtain⟨oc,od,oda,osl⟩:=o
  subst hd
  have hi:=hi
  unfold zjL at hi
  replace hi:=(show X.K.lookup fI=_ from H.look)▸hi
  dsimp only at hi
  replace hi:=H.body▸hi
  exact hi
 refine zh7 hb' fun p1 p2 p3 p4 p5 p6 p7 p8 p9 q1 q2 q3 ap cp eb hsl g1 g2 g3 g4=>?_
 refine bc fun hN=>?_
 subst eb
 have KS:X.K.In s.heap:=KI.keeps hs
 have names:ps.map (·.arg)=[zaa zbk,zaa zaz,zaa zca]:=zd6 H.binds
 have nd:[zaa zbk,zaa zaz,zaa zca].Nodup:=H.nd
 have hd:∃ dfl:List Value,(∀ (M:Model) (A:Around) (E:Value→Shared→Prop) (Q:Option (Array Value)→Shared→Prop),(∀ x:Option (Array Value),(x.getD #[]).toList=dfl→Q x s)→wpAny M A (seqItems? fd.defaults) Q E s):=by
  refine Or.elim H.dflt ?_ ?_
  intro nm
  refine zaW nm ?_
  clear nm
  intro e1 e2
  rotate_left
  intro nm
  refine zuu nm ?_
  clear nm
  intro t c d xs n sl e1 e2 e3
  rotate_left
  ·exact zuo e2
  ·refine⟨xs.toList,fun M A E Q hq=>?_⟩
   refine e1.symm▸?_
   exact wpAny_seqItems (KS _ _ e2) rfl (hq _ rfl)
 obtain⟨dfl,hd⟩:=hd
 have hbt:=zjJ (s:=s) (vals:=[.ref x,va,vb]) (dfl:=dfl) H.params names nd hd (by exact Nat.le_of_ble_eq_true rfl) (by exact Nat.zero_le _)
 have hz:[zaa zbk,zaa zaz,zaa zca].zip ([Value.ref x,va,vb]++dfl.drop (dfl.length-([zaa zbk,zaa zaz,zaa zca].length-[Value.ref x,va,vb].length)))=[(zaa zbk,.ref x),(zaa zaz,va),(zaa zca,vb)]:=rfl
 replace hbt:=hz▸hbt
 have hlim:s.heap.NoLimit:=(F.lim.keeps hb).keeps hs
 refine hN ?_
 refine codeAny_call_function hroom (KS _ _ H.look) H.data H.co H.gen H.body (codeRec_of KS H.code) (hbt _ _ _ _ ?_)
 refine H.clo.symm▸?_
 refine wpAny_newFunctionEnv_cells H.kind (fun y hy=>?_) fun env he s' z=>?_
 ·left
  simp only[List.mem_cons,List.not_mem_nil,or_false] at hy
  rcases hy with rfl | rfl | rfl <;> assumption
 have hst:s.heap.StaysIn s'.heap:=z.toInCall.keep
 have e1:env.scope=fd.scope:=by refine he.symm▸?_; rfl
 have e2:env.globals=fd.globals:=by refine he.symm▸?_; rfl
 have e3:env.builtins=fd.builtins:=by refine he.symm▸?_; rfl
 have e6:env.locals=s.heap.objs.size:=by refine he.symm▸?_; rfl
 have hk2:∀ y,env.kindOf y=fd.scope.names.lookup y:=fun y=>by unfold Env.kindOf; refine e1.symm▸?_; with_reducible rfl
 have hk:env.scope.kind=.function:=by refine e1.symm▸?_; exact H.kind
 have l1:bindL env.kindOf [(zaa zbk,.ref x),(zaa zaz,va),(zaa zca,vb)] (fun ua=>none) (zaa zbk)=some (.ref x):=by
  have:=zcO (kindOf:=env.kindOf) (m:=fun ua=>none) (vs:=[.ref x,va,vb]) (i:=0) nd ((hk2 _).trans g2) rfl rfl
  exact this
 have l2:bindL env.kindOf [(zaa zbk,.ref x),(zaa zaz,va),(zaa zca,vb)] (fun ua=>none) (zaa zaz)=some va:=by
  have:=zcO (kindOf:=env.kindOf) (m:=fun ua=>none) (vs:=[.ref x,va,vb]) (i:=1) nd ((hk2 _).trans g3) rfl rfl
  exact this
 have l3:bindL env.kindOf [(zaa zbk,.ref x),(zaa zaz,va),(zaa zca,vb)] (fun ua=>none) (zaa zca)=some vb:=by
  have:=zcO (kindOf:=env.kindOf) (m:=fun ua=>none) (vs:=[.ref x,va,vb]) (i:=2) nd ((hk2 _).trans g4) rfl rfl
  exact this
 refine bc fun hN=>?_
 refine zkh z.toInCall.same fun h' tk hs'=>?_
 obtain⟨t,hxo⟩:=hx
 have hxL:x≠env.locals:=fun q=>by replace hxo:=q▸hxo; replace hxo:=e6▸hxo; exact absurd (Heap.lt_size hxo) (Nat.lt_irrefl _)
 have J0:ExcAt X s0 env.locals (bindL env.kindOf [(zaa zbk,.ref x),(zaa zaz,va),(zaa zca,vb)] fun ua=>none) s'.heap x 0:=
  ⟨fun b o e=>hst _ _ (hs b o e),hx0,hxL,z.toInCall.ns,_,_,_,hst _ _ hxo,rfl,rfl,rfl,rfl,.inl rfl⟩
 refine hN ?_
 refine⟨hlim.keeps hst,codeAny_func ?_⟩
 have hcd:clsIn X.K X.GF=some { name:=nm,bases:=bs,mro:=.ref X.GF::zer D,ns:=N,qualname:=q,hasDict:=true,slotNames:=sn,subclasses:=sub,abstract:=ab,collection:=col,hasDel:=false }:=by
  unfold clsIn; refine hC.symm▸?_; with_reducible rfl
 have rdd:∀ {x:List Nat},(x=zbk∨x=zaz∨x=zca)→(zaa x == ("__debug__" : Str))=false:=fun h=>by rcases h with rfl | rfl | rfl <;> decide +kernel
 refine wpAny_execs_cons (wpAny_Expr_any (zek rfl rfl hsl (by exact Nat.le_of_ble_eq_true rfl) (Name_function_global hk (by rw[hk2]; exact g1) (loadGlobal_builtin (by refine e2.symm▸?_; refine H.glob.symm▸?_; exact F.mg.keepsP fun b o e=>J0.st _ _ (hb _ _ e)) G.ex.1 (by refine e3.symm▸?_; refine H.bui.symm▸?_; exact F.mb.keepsP fun b o e=>J0.st _ _ (hb _ _ e)) G.ex.2 ?_) (by decide +kernel))) (zdt hk) (zaX rfl))
 intro pl
 refine zok (KI.keeps J0.st) (zau (zbF _) (spliced_cons (zdC (s:={ s' with toks:=s'.toks+1 }) hk ((hk2 _).trans g2) J0.ns l1 (rdd (.inl rfl)) (spliced_cons (zdC (s:={ s' with toks:=s'.toks+1 }) hk ((hk2 _).trans g3) J0.ns l2 (rdd (.inr (.inl rfl))) (spliced_nil ⟨trivial,?_⟩))))))
 refine zmp (s:={ s' with toks:=s'.toks+1 }) hC KI J0 fun h1 J1=>?_
 refine wpAny_execs_cons (plainObj_wpAny_Assign_Attribute (zdC (s:={ s' with heap:=h1,toks:=s'.toks+1 }) hk ((hk2 _).trans g3) J1.ns l2 (rdd (.inr (.inl rfl))) (zdC (s:={ s' with heap:=h1,toks:=s'.toks+1 }) hk ((hk2 _).trans g2) J1.ns l1 (rdd (.inl rfl)) ?_)) (zaX rfl))
 refine zh4 (s:={ s' with heap:=h1,toks:=s'.toks+1 }) KI hcd rfl rfl G.sa G.ms J1 (by decide) fun h2 tk2 J2=>?_
 refine wpAny_execs_cons (plainObj_wpAny_Assign_Attribute (zdC (s:={ s' with heap:=h2,toks:=tk2 }) hk ((hk2 _).trans g4) J2.ns l3 (rdd (.inr (.inr rfl))) (zdC (s:={ s' with heap:=h2,toks:=tk2 }) hk ((hk2 _).trans g2) J2.ns l1 (rdd (.inl rfl)) ?_)) (zaX rfl))
 refine zh4 (s:={ s' with heap:=h2,toks:=tk2 }) KI hcd rfl rfl G.sa G.sp J2 (by decide) fun h3 tk3 J3=>?_
 refine wpAny_execs_nil ⟨rfl,?_,_,_,J3⟩
 refine hs'.symm▸?_; exact⟨rfl,rfl,rfl⟩
end
end
section
open W Calls PyProof.Rows
theorem zsS {X:Stat} (F:Facts X) (G:GFacts X):ExcOK X:=by
 refine G.cls_ fun nm q D N bs sn sub ab col dd k0 k1 k2 k3 k5 hC=>?_
 have FB:=PySem.F.excBase_Exception
 have hbase:(zer D).contains (.type "BaseException")=true:=by
  show(Value.ref D::_).contains _=true
  rw[List.contains_cons,FB.hasBase,Bool.or_true]
 refine⟨G.keep,?_,?_,?_⟩
 ·intro fs A m σ s va vb a b E ra rb k l hfr
  refine bc fun hN=>?_
  refine zfl G.ini fun fI hi hf ho hii=>?_
  have KS:X.K.In s.heap:=F.inK.keeps k.stays
  obtain⟨hh,g,d,t,os⟩:=s
  refine hN ?_
  refine zmm FB (KS _ _ hC) KS hi hf (by show 2≤sizeLine; refine sizeLine_eq.symm▸?_; decide) fun A' a1 a2 a3 a4=>wpAny_call (codeAny_mono (zol F G ho hii (s0:=hh) KS k.stays ?_ (fun b o e=>Heap.get?_push_of_some _ (Heap.get?_push_of_some _ e)) (zcJ _ (by exact Nat.le_succ _)) ⟨hh.objs.size,by heap_get⟩) fun r s' z=>?_)
  ·have:=l.depth
   show A'.depth < 1000
   omega
  ·refine bc fun hN=>?_
   refine ziM z ?_
   clear z
   intro ee0 y rst
   subst ee0
   refine zkh rst ?_
   clear rst
   intro L lm J
   refine zto J.ob fun oe vs a0 h1 h2 h3 h4 h5 ua=>?_
   refine hN ?_
   refine⟨rfl,_,rfl,⟨fun b o e=>J.st _ _ (k.stays b o e),?_,k.ff.of_keeps fun b o e ua=>⟨o,J.st b o e,rfl⟩,oe,vs,a0,h1,⟨h2,h4⟩,h3,h5⟩,y.1,y.2.1,y.2.2⟩
   cases q:X.base.get? (hh.objs.size+1) with
   | none=>rfl
   | some o=>exact absurd (Heap.lt_size (k.stays _ _ q)) (by show ¬ hh.objs.size+1 < hh.objs.size; omega)
 ·intro fs A s x env Q E hh h
  have hcB:(Value.ref X.GF::zer D).contains (.type "BaseException")=true:=by rw[List.contains_cons,hbase,Bool.or_true]
  unfold raiseStmt
  refine wpAny_bind (wpAny_mono h (fun v s₁ h₁=>?_) fun ua ub x=>x)
  refine bc fun hN=>?_
  refine zb8 h₁ ?_
  clear h₁
  intro e ee0 nn1 hE
  subst ee0
  refine zoZ nn1 ?_
  clear nn1
  intro hb hen hl rst
  refine zeC rst ?_
  clear rst
  intro oe vs a0 he nm0 hd h1
  obtain⟨hc,h0⟩:=nm0
  have hC':=(F.inK.keeps hb) _ _ hC
  obtain⟨hp,g,d,tk,os⟩:=s₁
  obtain⟨oc,odi,oda,osl⟩:=oe
  dsimp only at hc hd
  subst hc hd
  refine hN ?_
  repeat (first | with_reducible refine wpAny_loadPart_at he ?_ | with_reducible refine wpAny_loadPart_at hC' ?_ | (with_reducible refine wpAny_isSubtype_exc hC' ?_; refine hcB.symm▸?_) | wp_step)
  refine h1.symm▸?_
  refine wpAny_pure ?_
  rw[if_neg (by decide)]
  exact wpAny_pure (wpAny_raiseNew_none hh hE)
 ·intro outer A s env e g k i p rp hp Q E hh hfr hf hk hgl hg x hq
  refine zg9 hfr hf x fun h1 x1=>zdz (s:={ s with heap:=h1 }) x1 fun h2 x2=>?_
  refine bc fun hN=>?_
  refine zb8 (zff hg) fun pg ee0 g1 g2=>?_
  subst ee0
  refine hN ?_
  refine wpAny_handleBy_cons (codeAny_handlers_test (Name_function_global hk g1 (loadGlobal_global (s:={ s with heap:=h2 }) (by refine hgl.symm▸?_; exact F.mg.keepsP x2.1) F.gf ?_) g2)) (by intro q; exact noI PySem.Value.ctorIdx q rfl)
  refine zao x2.obj fun oe he hc=>?_
  refine wpAny_excMatches_sub_self (h:=h2) (g:=s.gens) (d:=s.drawn) (t:=s.toks) (os:=s.os) ((F.inK.keeps x2.1) _ _ hC) he hc hbase ?_
  refine codeAny_handlers_suite (zdz (s:={ s with heap:=h2 }) x2 fun h3 x3=>?_)
  refine wpAny_execs_cons (wpAny_Return_some (wpAny_Constant_bool ?_))
  exact hq _ x3.1 ⟨rfl,rfl,rfl⟩
end
section
namespace T
noncomputable abbrev a:E:=.x 0
noncomputable abbrev b:E→Es:=fun a=>Es.cons a Es.nil
noncomputable abbrev c:E→E→Es:=fun a b=>Es.cons a (Es.cons b Es.nil)
noncomputable abbrev d:Es→E:=E.tup
noncomputable abbrev e:E:=.x 1
noncomputable abbrev f:E→Int→E:=fun a s=>.sub a (.c (.int s))
noncomputable abbrev g:Nat→Es→E:=E.call
noncomputable abbrev h:Es:=Es.nil
noncomputable abbrev i:List Nat→E:=fun s=>.c (.str s)
noncomputable abbrev j:Int→E:=fun s=>.c (.int s)
noncomputable abbrev k:S→Ss:=fun a=>Ss.cons a Ss.nil
noncomputable abbrev l:E→S:=S.ret
noncomputable abbrev m:E→Ss→Ss→S:=S.ite
noncomputable abbrev n:E:=.x 2
noncomputable abbrev o:S:=S.bad
noncomputable abbrev p:Ss:=Ss.nil
noncomputable abbrev q:E→E→E:=E.bin .Add
noncomputable abbrev r:E→Es→E:=fun a s=>.wm a .looks s
noncomputable abbrev s:E→S:=S.expr
noncomputable abbrev t:E:=.x 3
noncomputable abbrev u:Es→E:=E.lst
noncomputable abbrev v:E→E→E:=E.cmp .Eq
noncomputable abbrev w:S→S→Ss:=fun a b=>Ss.cons a (Ss.cons b Ss.nil)
noncomputable abbrev x:E→E→E→Es:=fun a b c=>Es.cons a (Es.cons b (Es.cons c Es.nil))
noncomputable abbrev y:E→S:=S.asg 2
noncomputable abbrev z:E:=.c .none
noncomputable abbrev A:E→Es→E:=fun a s=>.wm a .expect s
noncomputable abbrev B:S→S→S→Ss:=fun a b c=>Ss.cons a (Ss.cons b (Ss.cons c Ss.nil))
noncomputable abbrev D:E:=.x 4
noncomputable abbrev F:E→S:=S.asg 1
noncomputable abbrev G:E→MT→Es→E:=E.mth
noncomputable abbrev H:E→Es→E:=fun a s=>.wm a .peek s
noncomputable abbrev I:S→S→S→S→Ss:=fun a b c d=>Ss.cons a (Ss.cons b (Ss.cons c (Ss.cons d Ss.nil)))
noncomputable abbrev J:E→E:=E.not
noncomputable abbrev K:E→Es→E:=fun a s=>.wm a .take s
noncomputable abbrev L:E:=.x 5
noncomputable abbrev M:Es→E:=E.bop true
noncomputable abbrev N:List Nat→E→S:=S.asgT
noncomputable abbrev O:Es→E:=E.bi .tuple
noncomputable abbrev P:Nat→E:=E.g
noncomputable abbrev Q:E→S:=S.asg 3
noncomputable abbrev T:E→Ss→S:=S.whl
noncomputable abbrev U:E:=.c (.str [])
noncomputable abbrev W:E→E→E→E→Es→Es:=fun a b c d z=>Es.cons a (Es.cons b (Es.cons c (Es.cons d z)))
noncomputable abbrev X:E:=.x 6
noncomputable abbrev Y:S→S→S→S→Ss→Ss:=fun a b c d z=>Ss.cons a (Ss.cons b (Ss.cons c (Ss.cons d z)))
noncomputable abbrev Z:E→E→E→E:=E.ite
noncomputable abbrev α:E→E→E:=E.cmp .NotEq
noncomputable abbrev β:List Nat→E→E→E:=E.comp
noncomputable abbrev γ:E→E→E:=E.sub
noncomputable abbrev δ:Es→E:=E.bi .len
noncomputable abbrev ε:E→E→E:=E.cmp .In
noncomputable abbrev ζ:E→E→E→E→E→Es:=fun a b c d e=>Es.cons a (Es.cons b (Es.cons c (Es.cons d (Es.cons e Es.nil))))
noncomputable abbrev η:S→S→S→S→S→Ss:=fun a b c d e=>Ss.cons a (Ss.cons b (Ss.cons c (Ss.cons d (Ss.cons e Ss.nil))))
noncomputable abbrev θ:E→S:=S.asg 4
noncomputable abbrev ι:E:=.x 7
noncomputable abbrev κ:E→Es→E:=fun a s=>.wm a .name s
noncomputable abbrev μ:E:=.c (.str [115,105,103,110])
noncomputable abbrev ν:E:=.c (.bool false)
noncomputable abbrev ξ:E:=.c (.str [125])
noncomputable abbrev ο:E:=.c (.str [110,97,109,101])
noncomputable abbrev π:Es→E:=E.bop false
noncomputable abbrev ρ:E:=.x 8
noncomputable abbrev σ:E:=.c (.str [40])
noncomputable abbrev τ:E→E→E→E→Es:=fun a b c d=>Es.cons a (Es.cons b (Es.cons c (Es.cons d Es.nil)))
noncomputable abbrev υ:Es→E:=E.bi .int
noncomputable abbrev φ:E→E→S:=S.raise
noncomputable abbrev χ:E→E→E:=E.bin .Mult
noncomputable abbrev ψ:E:=.c (.str [44])
noncomputable abbrev ω:E:=.c (.str [123])
noncomputable abbrev a0:E:=.c (.str [59])
noncomputable abbrev a1:E:=.c (.str [117,56])
noncomputable abbrev a2:E→E→E:=E.cmp .Lt
noncomputable abbrev a3:E:=.c (.str [114,101,102])
noncomputable abbrev a4:E:=.c (.bool true)
noncomputable abbrev a5:E:=.c (.str [41])
noncomputable abbrev a6:E:=.c (.str [105,110,116])
noncomputable abbrev a7:E:=.c (.str [38])
noncomputable abbrev a8:E:=.c (.str [109,117,116])
noncomputable abbrev a9:E:=.c (.str [102,110])
noncomputable abbrev c0:E:=.c (.str [115,101,108,102])
noncomputable abbrev c1:E→E→E:=E.bin .Mod
noncomputable abbrev c2:E:=.c (.str [114,101,103,105,111,110])
noncomputable abbrev c3:E:=.c (.str [58,58])
noncomputable abbrev c4:S→S→S→S→S→S→Ss:=fun a b c d e f=>Ss.cons a (Ss.cons b (Ss.cons c (Ss.cons d (Ss.cons e (Ss.cons f Ss.nil)))))
noncomputable abbrev c5:E:=.c (.str [105,109,112,108])
noncomputable abbrev c6:E:=.c (.str [32,125])
noncomputable abbrev c7:E:=.c (.str [101,110,100])
noncomputable abbrev c8:E:=.c (.str [62])
noncomputable abbrev c9:E:=.c (.str [95])
noncomputable abbrev d0:E:=.c (.str [60])
noncomputable abbrev d1:E:=.c (.str [58])
noncomputable abbrev d2:E:=.c (.str [110,97,109,101,100])
noncomputable abbrev d3:E:=.c (.str [115,116,114,117,99,116])
noncomputable abbrev d4:E:=.c (.str [32])
noncomputable abbrev d5:E:=.c (.str [38,38])
noncomputable abbrev d6:E:=.c (.str [112,97,116,104])
noncomputable abbrev d7:E:=.c (.str [116,117,112,108,101])
noncomputable abbrev d8:E:=.c (.str [101,110,117,109])
noncomputable abbrev d9:E:=.c (.str [116,114,97,105,116])
noncomputable abbrev f0:E:=.c (.str [109,111,100])
noncomputable abbrev f1:E:=.c (.str [115,117,112,101,114])
noncomputable abbrev f2:E:=.c (.str [117,115,101])
noncomputable abbrev f3:E:=.c (.str [99,111,110,115,116])
noncomputable abbrev f4:E:=.c (.str [44,32])
noncomputable abbrev f5:E:=.c (.str [97])
noncomputable abbrev f6:E:=.c (.str [83])
noncomputable abbrev f7:E→Es→E:=fun a s=>.wm a .split s
end T
section
open T
noncomputable def zmq:Fn:=⟨[112,101,101,107],154,2,[(.int 0)],[[115,101,108,102],[97,104,101,97,100]],(k (l (γ (.attr a 0) (.bi .min (c (q (.attr a 1) e) (.bin .Sub (δ (b (.attr a 0))) (j 1)))))))⟩
noncomputable def zpj:Fn:=⟨[116,97,107,101],161,1,[],[[115,101,108,102],[119,111,114,100]],(B (F (H a h)) (m (α (f e 0) c7) (k (.augA a 1 .Add (j 1))) p) (l e))⟩
noncomputable def zmr:Fn:=⟨[108,111,111,107,115],169,3,[(.int 0)],[[115,101,108,102],[116,101,120,116],[97,104,101,97,100],[119,111,114,100]],(w (Q (H a (b n))) (l (M (c (ε (f t 0) (d (c μ ο))) (v (f t 1) e)))))⟩
noncomputable def zhd:Fn:=⟨[101,120,112,101,99,116],176,2,[],[[115,101,108,102],[116,101,120,116]],(w (m (J (r a (b e))) (k (φ (q e (i [32,105,115,32,109,105,115,115,105,110,103])) (f (H a h) 2))) p) (l (K a h)))⟩
noncomputable def zpk:Fn:=⟨[110,97,109,101],183,1,[],[[115,101,108,102],[119,111,114,100]],(I (F (H a h)) (m (π (c (α (f e 0) ο) (ε (f e 1) (P 0)))) (k (φ (i [97,32,110,97,109,101,32,105,115,32,109,105,115,115,105,110,103]) (f e 2))) p) (.augA a 1 .Add (j 1)) (l (d (c (f e 1) (f e 2)))))⟩
noncomputable def zes:Fn:=⟨[115,112,108,105,116,95,99,108,111,115,101],190,1,[],[[115,101,108,102],[119,111,114,100]],(I (F (H a h)) (m (π (c (α (f e 0) μ) (α (.sl (f e 1) z (j 1)) c8))) (k o) p) (m (v (f e 1) c8) (k (.augA a 1 .Add (j 1))) (k o)) (l (d (ζ μ c8 (f e 2) z z))))⟩
noncomputable def zfC:Fn:=⟨[95,95,105,110,105,116,95,95],146,2,[],[[115,101,108,102],[114,111,119,115]],(w (.setA a 0 (.bi .list (b e))) (.setA a 1 (j 0)))⟩
noncomputable def zh8:Fn:=⟨[114,117,110,95,101,110,100],69,3,[],[[116,101,120,116],[97,116],[115,105,103,110,115]],(w (T (M (c (a2 e (δ (b a))) (ε (γ a e) n))) (k (.aug 1 .Add (j 1)))) (l e))⟩
noncomputable def zd8:Fn:=⟨[98,108,97,110,107,95,101,110,100],83,2,[],[[116,101,120,116],[97,116],[101,110,100]],(w (T (a2 e (δ (b a))) (k (m (ε (γ a e) (P 1)) (k (F (g 7 (x a e (P 1))))) (k (m (v (.sl a e (q e (j 2))) (i [47,47])) (w o o) (k (m (v (.sl a e (q e (j 2))) (i [47,42])) (k o) (k (l e))))))))) (l e))⟩
noncomputable def zbZ:Fn:=⟨[102,105,103,117,114,101,95,119,111,114,116,104],90,1,[],[[115,105,103,110],[112,108,97,99,101]],(w (F (G (i [48,49,50,51,52,53,54,55,56,57,97,98,99,100,101,102]) .find (b (G a .lower h)))) (l (Z (.cmp .GtE e (j 0)) e (j 99))))⟩
noncomputable def zh9:Fn:=⟨[98,97,115,101,95,97,116],97,2,[],[[116,101,120,116],[97,116],[98,97,115,101,115],[97,104,101,97,100]],(B (y (.dict [[48,120],[48,111],[48,98]] (x (j 16) (j 8) (j 2)))) (Q (.sl a e (q e (j 2)))) (l (Z (ε t n) (d (c (γ n t) (q e (j 2)))) (d (c (j 10) e)))))⟩
noncomputable def zeI:Fn:=⟨[114,101,97,100,95,105,110,116],104,2,[],[[116,101,120,116],[98,101,103,105,110],[98,97,115,101],[97,116],[118,97,108,117,101],[109,97,110,121],[101,110,100],[107,105,110,100]],(Y (N [2,3] (g 10 (c a e))) (N [4,5] (d (c (j 0) (j 0)))) (T (M (c (a2 t (δ (b a))) (π (c (v (γ a t) c9) (a2 (g 9 (b (γ a t))) n))))) (w (m (α (γ a t) c9) (k (N [4,5] (d (c (q (χ D n) (g 9 (b (γ a t)))) (q L (j 1)))))) p) (.aug 3 .Add (j 1)))) (m (v L (j 0)) (k o) p) (η (m (.cmp .Gt L (P 4)) (k o) p) (.asg 6 (g 7 (x a t (P 3)))) (.asg 7 (.sl a t X)) (m (M (c (α ι U) (.cmp .NotIn ι (P 2)))) (k o) p) (l (d (c (d (ζ a6 (.sl a e X) e D (Z (v ι U) z ι))) X)))))⟩
noncomputable def zd9:Fn:=⟨[114,101,97,100,95,115,105,103,110],111,2,[],[[116,101,120,116],[97,116],[115,105,103,110]],(w (.for_ 2 (P 5) (k (m (v (.sl a e (q e (δ (b n)))) n) (k (l (d (c (d (ζ μ n e z z)) (q e (δ (b n))))))) p))) o)⟩
noncomputable def zea:Fn:=⟨[114,101,97,100,95,119,111,114,100],118,2,[],[[116,101,120,116],[97,116],[101,110,100]],(I (m (ε (γ a e) (P 7)) (w (y (g 7 (x a e (P 3)))) (l (d (c (d (ζ ο (.sl a e n) e z z)) n)))) p) (m (ε (γ a e) (P 6)) (k (l (g 11 (c a e)))) p) (m (v (γ a e) (i [39])) (B (y (g 7 (x a (q e (j 1)) (P 3)))) (m (π (c (v n (q e (j 1))) (ε (γ a (q e (j 1))) (P 6)))) (k o) p) (l (d (c (d (ζ c2 (.sl a e n) e z z)) n)))) p) (l (g 12 (c a e))))⟩
noncomputable def zcn:Fn:=⟨[119,111,114,100,95,114,111,119,115],125,1,[],[[116,101,120,116],[102,111,117,110,100],[97,116],[119,111,114,100]],(η (F (u h)) (y (g 8 (c a (j 0)))) (T (a2 n (δ (b a))) (B (N [3,2] (g 13 (c a n))) (s (G e .append (b t))) (y (g 8 (c a n))))) (s (G e .append (b (d (ζ c7 U (δ (b a)) z z))))) (l e))⟩
noncomputable def zcv:Fn:=⟨[114,101,97,100,95,119,111,114,100,115],132,1,[],[[116,101,120,116]],(k (l (.newW (g 14 (b a)))))⟩
noncomputable def zdu:Fn:=⟨[114,101,97,100,95,103,101,110,101,114,105,99,115],267,1,[],[[119,111,114,100,115],[114,101,103,105,111,110,115],[112,97,114,97,109,115]],(c4 (m (J (r a (b d0))) (k (l (d (c (d h) (d h))))) p) (s (K a h)) (N [1,2] (d (c (u h) (u h)))) (T (J (g 22 (b a))) (B (m (v (f (H a h) 0) c2) (w (m (α n (u h)) (k o) p) (s (G e .append (b (f (K a h) 1))))) (k (s (G n .append (b (g 24 (b a))))))) (m (J (r a (b ψ))) (k .brk) p) (s (K a h)))) (s (f7 a h)) (l (d (c (O (b e)) (O (b n))))))⟩
noncomputable def zbl:Fn:=⟨[114,101,97,100,95,112,114,111,103,114,97,109],595,1,[],[[116,101,120,116],[119,111,114,100,115]],(w (F (g 15 (b a))) (l (g 43 (c e U))))⟩
noncomputable def zb5:Fn:=⟨[114,101,97,100,95,105,116,101,109,115],602,2,[],[[119,111,114,100,115],[101,110,100],[102,111,117,110,100]],(I (y (u h)) (T (M (c (α (f (H a h) 0) c7) (J (M (c (α e U) (r a (b e))))))) (k (s (G n .append (b (g 45 (b a))))))) (m (M (c (v e U) (α (f (H a h) 0) c7))) (k o) p) (l (O (b n))))⟩
noncomputable def zc6:Fn:=⟨[114,101,97,100,95,105,116,101,109],616,1,[],[[119,111,114,100,115],[105,115,95,112,117,98],[119,111,114,100],[114,101,97,100,101,114,115]],(Y (F (g 44 (b a))) (y (H a h)) (m (α (f n 0) ο) (k (φ (i [97,110,32,105,116,101,109,32,105,115,32,109,105,115,115,105,110,103]) (f n 2))) p) (m (v (f n 1) a9) (k (l (g 46 (c a e)))) p) (I (m (v (f n 1) c5) (w (m e (k (φ (i [97,110,32,105,109,112,108,32,105,115,32,110,111,116,32,112,117,98]) (f n 2))) p) (l (g 55 (b a)))) p) (Q (.dict [[115,116,114,117,99,116],[101,110,117,109],[116,114,97,105,116],[109,111,100],[117,115,101],[99,111,110,115,116]] (W (P 15) (P 14) (P 13) (P 12) (c (P 11) (P 10))))) (m (.cmp .NotIn (f n 1) t) (k (φ (q (i [110,111,32,105,116,101,109,32,98,101,103,105,110,115,32,119,105,116,104,32]) (f n 1)) (f n 2))) p) (l (.vcall (γ t (f n 1)) (c a e)))))⟩
noncomputable def zia:Fn:=⟨[114,101,97,100,95,102,110],623,2,[],[[119,111,114,100,115],[105,115,95,112,117,98],[115,112,111,116],[110,97,109,101],[103,101,110,101,114,105,99,115],[115,101,108,102,95,107,105,110,100],[112,97,114,97,109,115],[114,101,115,117,108,116],[98,111,100,121]],(Y (y (f (A a (b a9)) 2)) (Q (f (κ a h) 0)) (θ (g 23 (b a))) (N [5,6] (g 47 (b a))) (I (N [7,8] (d (c z z))) (m (r a (b (i [45,62]))) (w (s (K a h)) (.asg 7 (g 16 (b a)))) p) (m (r a (b a0)) (k (s (K a h))) (k (.asg 8 (g 41 (b a))))) (l (d (W a9 n t D (ζ L X ι ρ e))))))⟩
noncomputable def zfD:Fn:=⟨[114,101,97,100,95,102,111,114,109],658,1,[],[[119,111,114,100,115]],(B (m (r a (b ω)) (k (l (d (c d2 (g 49 (b a)))))) p) (m (r a (b σ)) (k (l (d (c d7 (g 50 (b a)))))) p) (l (d (c (i [117,110,105,116]) (d h)))))⟩
noncomputable def zet:Fn:=⟨[114,101,97,100,95,115,116,114,117,99,116],665,2,[],[[119,111,114,100,115],[105,115,95,112,117,98],[115,112,111,116],[110,97,109,101],[103,101,110,101,114,105,99,115],[102,111,114,109],[102,105,101,108,100,115]],(c4 (y (f (A a (b d3)) 2)) (Q (f (κ a h) 0)) (θ (g 23 (b a))) (N [5,6] (g 51 (b a))) (m (α L d2) (k (s (A a (b a0)))) p) (l (d (W d3 n t D (x L X e)))))⟩
noncomputable def zaO:Fn:=⟨[114,101,97,100,95,101,110,117,109],672,2,[],[[119,111,114,100,115],[105,115,95,112,117,98],[115,112,111,116],[110,97,109,101],[103,101,110,101,114,105,99,115],[102,111,117,110,100],[118,97,114,105,97,110,116],[102,111,114,109],[102,105,101,108,100,115]],(Y (y (f (A a (b d8)) 2)) (Q (f (κ a h) 0)) (θ (g 23 (b a))) (s (A a (b ω))) (I (.asg 5 (u h)) (T (J (r a (b ξ))) (η (.asg 6 (f (κ a h) 0)) (N [7,8] (g 51 (b a))) (s (G L .append (b (d (x X ι ρ))))) (m (J (r a (b ψ))) (k .brk) p) (s (K a h)))) (s (A a (b ξ))) (l (d (W d8 n t D (c (O (b L)) e))))))⟩
noncomputable def zbT:Fn:=⟨[114,101,97,100,95,102,110,115],679,1,[],[[119,111,114,100,115],[102,111,117,110,100],[105,115,95,112,117,98]],(η (s (A a (b ω))) (F (u h)) (T (J (r a (b ξ))) (B (y (g 44 (b a))) (m (J (r a (b a9))) (k (φ (i [97,32,102,117,110,99,116,105,111,110,32,105,115,32,109,105,115,115,105,110,103]) (f (H a h) 2))) p) (s (G e .append (b (g 46 (c a n))))))) (s (A a (b ξ))) (l (O (b e))))⟩
noncomputable def zco:Fn:=⟨[114,101,97,100,95,105,109,112,108],686,1,[],[[119,111,114,100,115],[115,112,111,116],[103,101,110,101,114,105,99,115],[116,111,108,100],[116,114,97,105,116],[102,117,110,99,116,105,111,110,115],[102,117,110,99,116,105,111,110]],(Y (F (f (A a (b c5)) 2)) (y (g 23 (b a))) (N [3,4] (d (c (g 16 (b a)) z))) (m (r a (b (i [102,111,114]))) (B (s (K a h)) (m (α (f t 0) d6) (k (φ (i [97,32,116,114,97,105,116,32,105,115,32,109,105,115,115,105,110,103]) (f t 1))) p) (N [4,3] (d (c (f t 2) (g 16 (b a)))))) p) (B (.asg 5 (g 54 (b a))) (.for_ 6 L (k (m (.cmp .Is (f X 7) z) (k (φ (i [97,32,102,117,110,99,116,105,111,110,32,111,102,32,97,110,32,105,109,112,108,32,104,97,115,32,97,32,98,111,100,121]) (f X 1))) p))) (l (d (W c5 e n D (c t L))))))⟩
noncomputable def ze5:Fn:=⟨[114,101,97,100,95,116,114,97,105,116],693,2,[],[[119,111,114,100,115],[105,115,95,112,117,98],[115,112,111,116],[110,97,109,101],[103,101,110,101,114,105,99,115]],(I (y (f (A a (b d9)) 2)) (Q (f (κ a h) 0)) (θ (g 23 (b a))) (l (d (W d9 n t D (c (g 54 (b a)) e)))))⟩
noncomputable def zgy:Fn:=⟨[114,101,97,100,95,109,111,100],700,2,[],[[119,111,114,100,115],[105,115,95,112,117,98],[115,112,111,116],[110,97,109,101],[105,116,101,109,115]],(c4 (y (f (A a (b f0)) 2)) (Q (f (κ a h) 0)) (s (A a (b ω))) (θ (g 43 (c a ξ))) (s (A a (b ξ))) (l (d (ζ f0 n t D e))))⟩
noncomputable def zaq:Fn:=⟨[95,108,97,119,95,112,111,111,108],728,2,[],[[115,99,114,105,112,116],[107],[99,101,108,108],[98,105,103],[109,105,120,101,100]],(η (y (j 0)) (m (a2 e (δ (b a))) (k (y (γ a e))) p) (Q (.bi .max (c (υ (b n)) (υ (b (.bin .Sub (j (-1)) n)))))) (θ (c1 (υ (b (χ (q (q (q (c1 (υ (b t)) (j 2147483629)) (χ (χ (j 7919) e) e)) (χ (j 31) e)) (j 17)) (j 48271)))) (j 2147483647))) (l (u (c (χ t (υ (b (.cmp .GtE t (.bin .Pow (j 10) (j 18)))))) D))))⟩
noncomputable def zeJ:Fn:=⟨[95,108,97,119,95,116,97,107,101],735,2,[],[[115,111,117,114,99,101],[116,111,112],[100,114,97,119,110]],(B (m (.cmp .Gt (f a 0) (j 0)) (B (y (c1 (υ (b (f a 0))) e)) (.setI a (j 0) (.bin .FloorDiv (f a 0) e)) (l n)) p) (.setI a (j 1) (c1 (υ (b (q (χ (f a 1) (j 39373)) (j 7)))) (j 2147483647))) (l (c1 (υ (b (.bin .FloorDiv (c1 (υ (b (χ (f a 1) (f a 1)))) (j 2147483629)) (j 32)))) e)))⟩
noncomputable def zeu:Fn:=⟨[95,108,97,119,95,111,110,101],742,2,[],[[115,111,117,114,99,101],[116,104,105,110,103,115]],(k (l (γ e (g 62 (c a (δ (b e)))))))⟩
noncomputable def zgz:Fn:=⟨[95,108,97,119,95,112,97,116,104],749,1,[],[[110,97,109,101]],(k (l (d (x d6 (j 0) (d (b (d (x a (d h) (d h)))))))))⟩
noncomputable def zc7:Fn:=⟨[95,108,97,119,95,99,111,109,109,97],756,1,[],[[115,111,117,114,99,101]],(k (l (g 63 (c a (u (c U ψ))))))⟩
noncomputable def zev:Fn:=⟨[95,108,97,119,95,112,117,98],763,1,[],[[115,111,117,114,99,101]],(k (l (g 63 (c a (u (c (d (c (i [112,117,98,32]) a4)) (d (c U ν))))))))⟩
noncomputable def zbm:Fn:=⟨[95,108,97,119,95,103,101,110,101,114,105,99,115],770,1,[],[[115,111,117,114,99,101]],(k (l (g 63 (c a (u (x (d (c U (d (c (d h) (d h))))) (d (c U (d (c (d h) (d h))))) (d (c (i [60,39,97,44,32,84,58,32,67,111,112,121,62]) (d (c (d (b (i [39,97]))) (d (b (d (c (i [84]) (d (b (d (b (d (x (i [67,111,112,121]) (d h) (d h)))))))))))))))))))))⟩
noncomputable def zcw:Fn:=⟨[95,108,97,119,95,102,105,101,108,100,115],777,2,[],[[115,111,117,114,99,101],[105,115,95,110,97,109,101,100],[114,111,119,115],[116,101,120,116,115],[110,97,109,101],[112,117,98],[105,115,95,112,117,98],[116,111,108,100],[108,97,115,116]],(I (N [2,3] (d (c (u h) (u h)))) (.for_ 4 (.sl (u (c (i [120]) (i [121]))) z (g 62 (c a (j 3)))) (I (N [5,6] (g 66 (b a))) (.asg 7 (g 63 (c a (u (c (d (c a1 (g 64 (b a1)))) (d (c (i [38,84]) (d (ζ a3 (j 0) z ν (g 64 (b (i [84])))))))))))) (s (G n .append (b (d (x (Z e D (.bi .str (b (δ (b n))))) (f ι 1) X))))) (s (G t .append (b (q (q L (Z e (q D (i [58,32])) U)) (f ι 0))))))) (.asg 8 (Z (α n (u h)) (g 65 (b a)) U)) (l (u (c (q (G f4 .join (b t)) ρ) (O (b n))))))⟩
noncomputable def zdD:Fn:=⟨[95,108,97,119,95,102,111,114,109],784,1,[],[[115,111,117,114,99,101],[119,97,121],[116,101,120,116],[114,111,119,115]],(I (F (g 62 (c a (j 3)))) (m (v e (j 0)) (k (l (d (x (i [117,110,105,116]) U (d h))))) p) (N [2,3] (g 68 (c a (v e (j 1))))) (l (Z (v e (j 1)) (d (x d2 (q (q (i [32,123,32]) n) c6) t)) (d (x d7 (q (q σ n) a5) t)))))⟩
noncomputable def zcF:Fn:=⟨[95,108,97,119,95,102,117,110,99,116,105,111,110],789,2,[],[[115,111,117,114,99,101],[105,115,95,98,97,114,101],[112,117,98],[105,115,95,112,117,98],[103,101,110,101,114,105,99,115],[115,101,108,102,95,114,111,119],[112,97,114,97,109,115],[116,101,120,116,115],[114,101,115,117,108,116],[98,111,100,121],[116,101,120,116],[116,111,108,100]],(Y (N [2,3] (g 66 (b a))) (N [4,5] (d (c (g 67 (b a)) (g 63 (c a (u (τ (d (c U z)) (d (c c0 (i [118,97,108,117,101]))) (d (c (i [38,115,101,108,102]) a3)) (d (c (i [38,109,117,116,32,115,101,108,102]) a8))))))))) (.asg 6 (β [] (d (W ο (j 0) a ν (c ν z))) (.sl (u (c f5 (i [98]))) z (g 62 (c a (j 3)))))) (.asg 7 (q (Z (.cmp .IsNot (f L 1) z) (u (b (f L 0))) (u h)) (β [] (q (f a 2) (i [58,32,117,56])) X))) (η (.asg 8 (g 63 (c a (u (c (d (c U z)) (d (c (i [32,45,62,32,117,56]) (g 64 (b a1))))))))) (.asg 9 (Z e z (d (τ (i [98,108,111,99,107]) (j 0) (d h) (d (τ a6 (j 0) (j 7) z)))))) (.asg 10 (q (q (q (q (q (q (q n (i [102,110,32,102])) (f D 0)) σ) (G f4 .join (b ι))) (Z (α ι (u h)) (g 65 (b a)) U)) a5) (f ρ 0))) (.asg 11 (O (b (β [] (d (c a (g 64 (b a1)))) X)))) (l (u (c (q (.x 10) (Z e a0 (i [32,123,32,55,32,125]))) (d (W a9 (j 0) (i [102]) (f D 1) (ζ (f L 1) (.x 11) (f ρ 1) (.x 9) t))))))))⟩
noncomputable def zdE:Fn:=⟨[95,108,97,119,95,101,110,117,109],796,3,[],[[115,111,117,114,99,101],[112,117,98],[105,115,95,112,117,98],[103,101,110,101,114,105,99,115],[114,111,119,115],[116,101,120,116,115],[110,97,109,101],[102,111,114,109],[116,101,120,116],[102,105,101,108,100,115],[108,97,115,116]],(I (N [3,4,5] (d (x (g 67 (b a)) (u h) (u h)))) (.for_ 6 (.sl (u (c (i [65]) (i [66]))) z (g 62 (c a (j 3)))) (B (N [7,8,9] (g 69 (b a))) (s (G D .append (b (d (x X ι (.x 9)))))) (s (G L .append (b (q X ρ)))))) (.asg 10 (Z (α D (u h)) (g 65 (b a)) U)) (l (u (c (q (q (q (q (q (q e (i [101,110,117,109,32,69])) (f t 0)) (i [32,123,32])) (G f4 .join (b L))) (.x 10)) c6) (d (W d8 (j 0) (i [69]) (f t 1) (c (O (b D)) n)))))))⟩
noncomputable def zeK:Fn:=⟨[95,108,97,119,95,105,109,112,108],801,1,[],[[115,111,117,114,99,101],[103,101,110,101,114,105,99,115],[115,111,109,101],[116,114,97,105,116],[116,101,120,116]],(η (F (g 67 (b a))) (y (β [0] (g 70 (c a ν)) (.range (g 62 (c a (j 3)))))) (Q (g 63 (c a (u (c (d (c U z)) (d (c (i [84,114,60,117,56,62,32,102,111,114,32]) (d (b (d (x (i [84,114]) (d h) (d (b (g 64 (b a1))))))))))))))) (θ (q (q (q (q (q (q c5 (f e 0)) d4) (f t 0)) (i [83,32,123,32])) (G d4 .join (b (β [] (f a 0) n)))) c6)) (l (u (c D (d (W c5 (j 0) (f e 1) (f t 1) (c (g 64 (b f6)) (O (b (β [] (f a 1) n))))))))))⟩
noncomputable def zcP:Fn:=⟨[95,108,97,119,95,105,116,101,109],806,2,[],[[115,111,117,114,99,101],[100,101,101,112],[119,97,121],[112,117,98],[105,115,95,112,117,98],[103,101,110,101,114,105,99,115],[114,111,119],[116,101,120,116],[115,111,109,101],[110,97,109,101,115],[97,108,105,97,115]],(Y (y (g 62 (c a (Z (.cmp .Gt e (j 0)) (j 8) (j 7))))) (N [3,4] (g 66 (b a))) (m (v n (j 0)) (k (l (g 70 (c a (v (g 62 (c a (j 4))) (j 0)))))) p) (m (v n (j 1)) (B (N [5,6] (d (c (g 67 (b a)) (g 69 (b a))))) (.asg 7 (q (q (q (q t (i [115,116,114,117,99,116,32,83])) (f L 0)) (f X 1)) (Z (v (f X 0) d2) U a0))) (l (u (c ι (d (W d3 (j 0) f6 (f L 1) (x (f X 0) (f X 2) D))))))) p) (Y (m (v n (j 2)) (k (l (g 71 (x a t D)))) p) (m (v n (j 3)) (k (l (g 72 (b a)))) p) (m (v n (j 4)) (B (.asg 8 (β [0] (g 70 (c a (v (g 62 (c a (j 2))) (j 0)))) (.range (g 62 (c a (j 3)))))) (.asg 7 (q (q (q t (i [116,114,97,105,116,32,84,114,32,123,32])) (G d4 .join (b (β [] (f a 0) ρ)))) c6)) (l (u (c ι (d (W d9 (j 0) (i [84,114]) (d (c (d h) (d h))) (c (O (b (β [] (f a 1) ρ))) D))))))) p) (m (v n (j 5)) (B (.asg 9 (g 63 (c a (u (τ (d (c (i [99,114,97,116,101]) f5)) (d (x f5 (i [98]) (i [99]))) (d (x f1 f1 f6)) (d (c c0 (i [120])))))))) (.asg 10 (g 63 (c a (u (c (f (.x 9) (-1)) (i [111,116,104,101,114])))))) (l (u (c (q (q (q (q t (i [117,115,101,32])) (G c3 .join (b (.x 9)))) (Z (v (.x 10) (f (.x 9) (-1))) U (i [32,97,115,32,111,116,104,101,114]))) a0) (d (ζ f2 (j 0) (.x 9) (.x 10) D)))))) p) (B (m (v n (j 6)) (k (l (u (c (q t (i [99,111,110,115,116,32,67,58,32,117,56,32,61,32,55,59])) (d (W f3 (j 0) (i [67]) (g 64 (b a1)) (c (d (τ a6 (j 0) (j 7) z)) D))))))) p) (.asg 8 (β [0,1] (g 73 (c a (.bin .Sub e (j 1)))) (.range (g 62 (c a (j 3)))))) (l (u (c (q (q (q t (i [109,111,100,32,109,32,123,32])) (G d4 .join (b (β [] (f a 0) ρ)))) c6) (d (ζ f0 (j 0) (i [109]) (O (b (β [] (f a 1) ρ))) D))))))))⟩
noncomputable def zcQ:Fn:=⟨[95,108,97,119,95,98,97,114,101],811,1,[],[[116,104,105,110,103],[112,97,114,116,115]],(I (m (J (.isi a .tuple)) (k (l a)) p) (F (β [] (g 74 (b a)) a)) (m (M (τ (.cmp .Gt (δ (b e)) (j 1)) (.isi (f a 0) .str) (.isi (f a 1) .int) (J (.isi (f a 1) .bool)))) (k (.setI e (j 1) (j 0))) p) (l (O (b e))))⟩
noncomputable def zgb:Fn:=⟨[108,97,119],816,1,[],[[115,99,114,105,112,116],[115,111,117,114,99,101],[114,111,119,115],[119,114,111,110,103]],(Y (F (g 61 (c a (j 0)))) (y (u (b (u (c (i [115,116,114,117,99,116,32,80,40,117,56,44,32,112,117,98,32,117,56,41,59]) (d (W d3 (j 0) (i [80]) (d (c (d h) (d h))) (x d7 (d (c (d (x (i [48]) (g 64 (b a1)) ν)) (d (x (i [49]) (g 64 (b a1)) a4)))) ν)))))))) (y (q n (β [1] (g 73 (c a (j 1))) (.range (g 62 (c e (j 4))))))) (m (α (g 74 (b (g 42 (b (G (i [10]) .join (b (β [] (f a 0) n))))))) (O (b (β [] (f a 1) n)))) (k o) p) (B (Q (u (W (i [112,117,98,32,105,109,112,108,32,83,32,123,32,125]) (i [105,109,112,108,32,83,32,123,32,102,110,32,102,40,41,59,32,125]) (i [115,116,114,117,99,116,32,83,40,117,56,41]) (i [105,109,112,108,32,38,83,32,102,111,114,32,84,32,123,32,125]) (W a9 (i [55]) (i [109,111,100,32,109,32,123,32,102,110,32,102,40,41,32,123,32,55,32,125]) (i [115,116,114,117,99,116,32,83]) (W (i [108,101,116,32,120,32,61,32,55,59]) (i [102,110,32,102,40,97,41,32,123,32,55,32,125]) (i [101,110,117,109,32,69,32,123,32,65,32,66,32,125]) (i [117,115,101,32,97,58,58,59]) (x (i [99,111,110,115,116,32,67,32,61,32,55,59]) (i [116,114,97,105,116,32,84,32,123,32,55,32,125]) (i [102,110,32,102,40,97,58,32,117,56,32,115,101,108,102,41,32,123,32,55,32,125]))))))) (.try_ (k (s (g 42 (b (g 63 (c e t)))))) (k (l a4))) o))⟩
noncomputable def TB:Tab where
 fns:=[zmq,zpj,zmr,zhd,zpk,zes,zfC,zh8,zd8,zbZ,zh9,zeI,zd9,zea,zcn,zcv,⟨[114,101,97,100,95,116,121,112,101],205,1,[],[[119,111,114,100,115],[119,111,114,100],[115,112,111,116]],(Y (F (H a h)) (y (f e 2)) (m (r a (b σ)) (k o) p) (m (π (c (r a (b a7)) (r a (b d5)))) (k (l (g 17 (b a)))) p) (I (m (r a (b (i [91]))) (k o) p) (m (r a (b (i [33]))) (w o o) p) (m (r a (b c9)) (w o o) p) (l (d (x d6 n (g 18 (b a)))))))⟩,⟨[114,101,97,100,95,114,101,102,95,116,121,112,101],219,1,[],[[119,111,114,100,115],[119,111,114,100],[115,112,111,116],[114,101,103,105,111,110],[105,115,95,109,117,116],[102,111,117,110,100]],(Y (F (K a h)) (y (.bin .Sub (q (f e 2) (δ (b (f e 1)))) (j 1))) (Q z) (m (v (f (H a h) 0) c2) (k o) p) (I (θ (r a (b a8))) (m D (k o) p) (.asg 5 (d (ζ a3 n t D (g 16 (b a))))) (l (Z (v (f e 1) a7) L (d (ζ a3 (f e 2) z ν L))))))⟩,⟨[114,101,97,100,95,115,112,97,116,104],232,2,[(.bool false)],[[119,111,114,100,115],[105,115,95,101,120,112,114],[102,111,117,110,100]],(B (y (u (b (g 19 (x a (d h) e))))) (T (r a (b c3)) (w o o)) (l (O (b n))))⟩,⟨[114,101,97,100,95,115,101,103,109,101,110,116],239,3,[],[[119,111,114,100,115],[97,104,101,97,100],[105,115,95,101,120,112,114],[110,97,109,101]],(I (Q (g 20 (c a e))) (m (M (c (r a (b c3)) (r a (c d0 (j 1))))) (w o o) p) (m (M (c (J n) (r a (b d0)))) (k (l (q (d (b t)) (g 21 (b a))))) p) (l (d (x t (d h) (d h)))))⟩,⟨[114,101,97,100,95,112,97,116,104,95,110,97,109,101],246,2,[],[[119,111,114,100,115],[97,104,101,97,100],[119,111,114,100]],(B (y (H a h)) (m (M (c (v (f n 0) ο) (ε (f n 1) (P 8)))) (w o o) p) (l (f (κ a h) 0)))⟩,⟨[114,101,97,100,95,97,114,103,117,109,101,110,116,115],253,1,[],[[119,111,114,100,115],[114,101,103,105,111,110,115],[116,121,112,101,115]],(η (s (A a (b d0))) (N [1,2] (d (c (u h) (u h)))) (T (J (g 22 (b a))) (B (m (v (f (H a h) 0) c2) (w o o) (k (s (G n .append (b (g 16 (b a))))))) (m (J (r a (b ψ))) (k .brk) p) o)) (s (f7 a h)) (l (d (c (O (b e)) (O (b n))))))⟩,⟨[105,115,95,99,108,111,115,101,100],260,1,[],[[119,111,114,100,115],[119,111,114,100]],(w (F (H a h)) (l (M (c (v (f e 0) μ) (v (.sl (f e 1) z (j 1)) c8)))))⟩,zdu,⟨[114,101,97,100,95,112,97,114,97,109],274,1,[],[[119,111,114,100,115],[110,97,109,101],[98,111,117,110,100,115]],(I (F (f (κ a h) 0)) (y (u h)) (m (r a (b d1)) (B (s (K a h)) (s (G n .append (b (g 18 (b a))))) (T (r a (b (i [43]))) (w o o))) p) (l (d (c e (O (b n))))))⟩,⟨[105,115,95,112,108,97,105,110,95,110,97,109,101],281,1,[],[[119,111,114,100]],(k (l (M (c (v (f a 0) ο) (.cmp .NotIn (f a 1) (P 0))))))⟩,⟨[114,101,97,100,95,112,97,116,116,101,114,110],288,1,[],[[119,111,114,100,115],[115,112,111,116],[102,111,117,110,100]],(η (F (f (H a h) 2)) (m (r a (b (i [124]))) (k o) p) (y (u (b (g 27 (b a))))) (T (r a (b (i [124]))) (w o o)) (l (Z (v (δ (b n)) (j 1)) (f n 0) (d (x (i [111,114]) e (O (b n)))))))⟩,⟨[114,101,97,100,95,112,97,114,116],295,1,[],[[119,111,114,100,115],[119,111,114,100],[115,112,111,116]],(Y (F (H a h)) (y (f e 2)) (m (r a (b c9)) (w o o) p) (m (π (c (r a (b a7)) (r a (b d5)))) (k o) p) (Y (m (r a (b σ)) (k o) p) (m (π (c (v (f e 0) a6) (r a (b (i [45]))))) (k o) p) (m (π (c (r a (b (i [116,114,117,101]))) (r a (b (i [102,97,108,115,101]))))) (w o o) p) (m (π (c (r a (b a3)) (r a (b a8)))) (k o) p) (B (m (M (c (g 25 (b e)) (g 28 (b a)))) (k (l (g 29 (b a)))) p) o o)))⟩,⟨[105,115,95,97,108,111,110,101],302,1,[],[[119,111,114,100,115],[115,105,103,110]],(w (.for_ 1 (d (x c3 σ ω)) (k (m (r a (c e (j 1))) (k o) p))) (l a4))⟩,⟨[114,101,97,100,95,98,105,110,100,105,110,103],337,1,[],[[119,111,114,100,115],[115,112,111,116],[105,115,95,114,101,102],[105,115,95,109,117,116],[110,97,109,101],[105,110,110,101,114]],(Y (F (f (H a h) 2)) (y (r a (b a3))) (m n (k o) p) (Q (r a (b a8))) (η (m t (k o) p) (θ (f (κ a h) 0)) (.asg 5 z) (m (r a (b (i [64]))) (w o o) p) (l (d (W ο e D n (c t L))))))⟩,⟨[114,101,97,100,95,101,120,112,114],378,2,[(.bool false)],[[119,111,114,100,115],[110,111,95,115,116,114,117,99,116],[108,101,102,116],[119,111,114,100]],(η (y (g 32 (x a (j 1) e))) (Q (H a h)) (m (M (c (v (f t 0) μ) (v (f t 1) (i [61])))) (w o o) p) (m (M (c (v (f t 0) μ) (ε (f t 1) (P 9)))) (w o o) p) (l n))⟩,⟨[108,101,118,101,108,95,111,102],385,1,[],[[119,111,114,100]],(k (l (Z (v (f a 0) μ) (.dget 0 (f a 1) (.int 0)) (j 0))))⟩,⟨[114,101,97,100,95,98,105,110,97,114,121],392,3,[],[[119,111,114,100,115],[108,101,97,115,116],[110,111,95,115,116,114,117,99,116]],(k (l (g 33 (τ a (g 34 (c a n)) e n))))⟩,⟨[114,101,97,100,95,98,101,104,105,110,100],399,4,[],[[119,111,114,100,115],[108,101,102,116],[108,101,97,115,116],[110,111,95,115,116,114,117,99,116],[105,115,95,99,111,109,112,97,114,101,100],[119,111,114,100],[108,101,118,101,108],[114,105,103,104,116]],(w (θ ν) (T a4 (Y (.asg 5 (H a h)) (.asg 6 (g 31 (b L))) (m (π (c (a2 X n) (v X (j 0)))) (k (l e)) p) o (I o o o o))))⟩,⟨[114,101,97,100,95,99,97,115,116],406,2,[],[[119,111,114,100,115],[110,111,95,115,116,114,117,99,116]],(k (l (g 35 (c a (g 36 (c a e))))))⟩,⟨[99,97,115,116,95,98,101,104,105,110,100],413,2,[],[[119,111,114,100,115],[108,101,102,116]],(w (T (r a (b (i [97,115]))) (w o o)) (l e))⟩,⟨[114,101,97,100,95,117,110,97,114,121],420,2,[],[[119,111,114,100,115],[110,111,95,115,116,114,117,99,116],[119,111,114,100],[105,110,110,101,114]],(I (y (H a h)) (m (M (c (v (f n 0) μ) (ε (f n 1) (d (x (i [45]) (i [33]) (i [42])))))) (w o o) p) (m (M (c (v (f n 0) μ) (ε (f n 1) (d (c a7 d5))))) (B o o o) p) (l (g 37 (c a (g 39 (c a e))))))⟩,⟨[114,101,97,100,95,112,111,115,116,102,105,120],434,2,[],[[119,111,114,100,115],[108,101,102,116],[105,110,100,101,120]],(k (T a4 (k (m (r a (b σ)) (k o) (k (m (r a (b (i [91]))) (I o o o o) (k (m (r a (b (i [46]))) (w o o) (k (l e))))))))))⟩,⟨[105,115,95,98,108,111,99,107,95,108,105,107,101],469,1,[],[[119,111,114,100,115],[119,111,114,100]],(B (F (H a h)) (m (v (f e 0) c2) (k o) p) (l (M (c (ε (f e 1) (d (W ω (i [105,102]) (i [109,97,116,99,104]) (i [108,111,111,112]) (c (i [119,104,105,108,101]) (i [102,111,114]))))) (ε (f e 0) (d (c μ ο)))))))⟩,⟨[114,101,97,100,95,112,114,105,109,97,114,121],476,2,[],[[119,111,114,100,115],[110,111,95,115,116,114,117,99,116],[119,111,114,100]],(Y (y (H a h)) (m (g 38 (b a)) (k o) p) (m (v (f n 0) a6) (w (s (K a h)) (l (d (τ a6 (f n 2) (f n 3) (f n 4))))) p) o (c4 o o o o o o))⟩,⟨[114,101,97,100,95,115,116,97,116,101,109,101,110,116,95,101,120,112,114],581,1,[],[[119,111,114,100,115],[118,97,108,117,101]],(I (m (J (g 38 (b a))) (k (l (d (c (g 30 (b a)) ν)))) p) o o o)⟩,⟨[114,101,97,100,95,98,108,111,99,107],588,1,[],[[119,111,114,100,115],[115,112,111,116],[115,116,97,116,101,109,101,110,116,115],[116,97,105,108],[98,101,103,105,110],[118,97,108,117,101],[105,115,95,102,114,101,101]],(η (F (f (A a (b ω)) 2)) (N [2,3] (d (c (u h) z))) (T (J (r a (b ξ))) (k (m (r a (b a0)) (k o) (k (m (r a (b (i [108,101,116]))) (k o) (B (θ (f (H a h) 2)) (N [5,6] (g 40 (b a))) (m (r a (b ξ)) (k (Q L)) (k o)))))))) (s (A a (b ξ))) (l (d (τ (i [98,108,111,99,107]) e (O (b n)) t))))⟩,zbl,zb5,⟨[114,101,97,100,95,112,117,98],609,1,[],[[119,111,114,100,115]],(B (m (J (r a (b (i [112,117,98])))) (k (l ν)) p) (s (K a h)) (l a4))⟩,zc6,zia,⟨[114,101,97,100,95,112,97,114,97,109,115],630,1,[],[[119,111,114,100,115],[115,101,108,102,95,107,105,110,100],[102,111,117,110,100],[112,97,116,116,101,114,110]],(Y (s (A a (b σ))) (F (g 48 (b a))) (y (u h)) (m (M (c (.cmp .IsNot e z) (J (r a (b a5))))) (k (s (A a (b ψ)))) p) (B (T (J (r a (b a5))) (η (Q (g 26 (b a))) (s (A a (b d1))) (s (G n .append (b (d (c t (g 16 (b a))))))) (m (J (r a (b ψ))) (k .brk) p) (s (K a h)))) (s (A a (b a5))) (l (d (c e (O (b n)))))))⟩,⟨[114,101,97,100,95,115,101,108,102],637,1,[],[[119,111,114,100,115]],(I (m (r a (b c0)) (w (s (K a h)) (l (i [118,97,108,117,101]))) p) (m (M (c (r a (b a7)) (r a (c c0 (j 1))))) (B (s (K a h)) (s (K a h)) (l a3)) p) (m (M (x (r a (b a7)) (r a (c a8 (j 1))) (r a (c c0 (j 2))))) (I (s (K a h)) (s (K a h)) (s (K a h)) (l a8)) p) (l z))⟩,⟨[114,101,97,100,95,110,97,109,101,100,95,102,105,101,108,100,115],644,1,[],[[119,111,114,100,115],[102,111,117,110,100],[105,115,95,112,117,98],[110,97,109,101]],(η (s (A a (b ω))) (F (u h)) (T (J (r a (b ξ))) (c4 (y (g 44 (b a))) (Q (f (κ a h) 0)) (s (A a (b d1))) (s (G e .append (b (d (x t (g 16 (b a)) n))))) (m (J (r a (b ψ))) (k .brk) p) (s (K a h)))) (s (A a (b ξ))) (l (O (b e))))⟩,⟨[114,101,97,100,95,116,117,112,108,101,95,102,105,101,108,100,115],651,1,[],[[119,111,114,100,115],[102,111,117,110,100],[105,115,95,112,117,98]],(η (s (A a (b σ))) (F (u h)) (T (J (r a (b a5))) (I (y (g 44 (b a))) (s (G e .append (b (d (x (.bi .str (b (δ (b e)))) (g 16 (b a)) n))))) (m (J (r a (b ψ))) (k .brk) p) (s (K a h)))) (s (A a (b a5))) (l (O (b e))))⟩,zfD,zet,zaO,zbT,zco,ze5,zgy,⟨[114,101,97,100,95,117,115,101,95,110,97,109,101],707,1,[],[[119,111,114,100,115],[119,111,114,100]],(B (F (H a h)) (m (M (c (v (f e 0) ο) (ε (f e 1) (d (x (i [99,114,97,116,101]) c0 f1))))) (w (s (K a h)) (l (f e 1))) p) (l (f (κ a h) 0)))⟩,⟨[114,101,97,100,95,117,115,101],714,2,[],[[119,111,114,100,115],[105,115,95,112,117,98],[115,112,111,116],[110,97,109,101,115],[97,108,105,97,115]],(Y (y (f (A a (b f2)) 2)) (Q (u (b (g 58 (b a))))) (T (r a (b c3)) (w (s (K a h)) (s (G t .append (b (g 58 (b a))))))) (θ (f t (-1))) (B (m (r a (b (i [97,115]))) (w (s (K a h)) (θ (f (κ a h) 0))) p) (s (A a (b a0))) (l (d (ζ f2 n (O (b t)) D e)))))⟩,⟨[114,101,97,100,95,99,111,110,115,116],721,2,[],[[119,111,114,100,115],[105,115,95,112,117,98],[115,112,111,116],[110,97,109,101],[116,111,108,100],[118,97,108,117,101]],(Y (y (f (A a (b f3)) 2)) (Q (f (κ a h) 0)) (s (A a (b d1))) (θ (g 16 (b a))) (I (s (A a (b (i [61])))) (.asg 5 (g 30 (b a))) (s (A a (b a0))) (l (d (W f3 n t D (c L e))))))⟩,zaq,zeJ,zeu,zgz,zc7,zev,zbm,zcw,zdD,zcF,zdE,zeK,zcP,zcQ,zgb]
 globs:=[([75,69,89,87,79,82,68,83],(.tup [(.str [95]),(.str [83,101,108,102]),(.str [97,115]),(.str [98,114,101,97,107]),(.str [99,111,110,115,116]),(.str [99,111,110,116,105,110,117,101]),(.str [99,114,97,116,101]),(.str [101,108,115,101]),(.str [101,110,117,109]),(.str [102,97,108,115,101]),(.str [102,110]),(.str [102,111,114]),(.str [105,102]),(.str [105,109,112,108]),(.str [105,110]),(.str [108,101,116]),(.str [108,111,111,112]),(.str [109,97,116,99,104]),(.str [109,111,100]),(.str [109,117,116]),(.str [112,117,98]),(.str [114,101,102]),(.str [114,101,116,117,114,110]),(.str [115,101,108,102]),(.str [115,116,114,117,99,116]),(.str [115,117,112,101,114]),(.str [116,114,97,105,116]),(.str [116,114,117,101]),(.str [117,115,101]),(.str [119,104,105,108,101])])),([66,76,65,78,75,83],(.str [32,9,13,10])),([73,78,84,95,75,73,78,68,83],(.tup [(.str [105,56]),(.str [105,49,54]),(.str [105,51,50]),(.str [105,54,52]),(.str [117,56]),(.str [117,49,54]),(.str [117,51,50]),(.str [117,54,52]),(.str [117,115,105,122,101])])),([78,65,77,69,95,83,73,71,78,83],(.str [97,98,99,100,101,102,103,104,105,106,107,108,109,110,111,112,113,114,115,116,117,118,119,120,121,122,65,66,67,68,69,70,71,72,73,74,75,76,77,78,79,80,81,82,83,84,85,86,87,88,89,90,95,48,49,50,51,52,53,54,55,56,57])),([77,79,83,84,95,70,73,71,85,82,69,83],(.int 40)),([83,73,71,78,83],(.tup [(.str [60,60,61]),(.str [62,62,61]),(.str [46,46,61]),(.str [58,58]),(.str [45,62]),(.str [61,62]),(.str [61,61]),(.str [33,61]),(.str [60,61]),(.str [62,61]),(.str [38,38]),(.str [124,124]),(.str [60,60]),(.str [62,62]),(.str [46,46]),(.str [43,61]),(.str [45,61]),(.str [42,61]),(.str [47,61]),(.str [37,61]),(.str [38,61]),(.str [124,61]),(.str [94,61]),(.str [40]),(.str [41]),(.str [123]),(.str [125]),(.str [91]),(.str [93]),(.str [44]),(.str [59]),(.str [58]),(.str [46]),(.str [61]),(.str [60]),(.str [62]),(.str [43]),(.str [45]),(.str [42]),(.str [47]),(.str [37]),(.str [38]),(.str [124]),(.str [94]),(.str [33]),(.str [64])])),([70,73,71,85,82,69,83],(.str [48,49,50,51,52,53,54,55,56,57])),([78,65,77,69,95,66,69,71,73,78,83],(.str [97,98,99,100,101,102,103,104,105,106,107,108,109,110,111,112,113,114,115,116,117,118,119,120,121,122,65,66,67,68,69,70,71,72,73,74,75,76,77,78,79,80,81,82,83,84,85,86,87,88,89,90,95])),([80,65,84,72,95,87,79,82,68,83],(.tup [(.str [83,101,108,102]),(.str [99,114,97,116,101]),(.str [115,101,108,102]),(.str [115,117,112,101,114])])),([85,80,68,65,84,69,83],(.tup [(.str [43,61]),(.str [45,61]),(.str [42,61]),(.str [47,61]),(.str [37,61]),(.str [38,61]),(.str [124,61]),(.str [94,61]),(.str [60,60,61]),(.str [62,62,61])])),([114,101,97,100,95,99,111,110,115,116],(.fn 60)),([114,101,97,100,95,117,115,101],(.fn 59)),([114,101,97,100,95,109,111,100],(.fn 57)),([114,101,97,100,95,116,114,97,105,116],(.fn 56)),([114,101,97,100,95,101,110,117,109],(.fn 53)),([114,101,97,100,95,115,116,114,117,99,116],(.fn 52))]
 dicts:=[([76,69,86,69,76,83],[([124,124],(.int 1)),([38,38],(.int 2)),([61,61],(.int 3)),([33,61],(.int 3)),([60],(.int 3)),([60,61],(.int 3)),([62],(.int 3)),([62,61],(.int 3)),([124],(.int 4)),([94],(.int 5)),([38],(.int 6)),([60,60],(.int 7)),([62,62],(.int 7)),([43],(.int 8)),([45],(.int 8)),([42],(.int 9)),([47],(.int 9)),([37],(.int 9))])]
 kw:=[(.str [95]),(.str [83,101,108,102]),(.str [97,115]),(.str [98,114,101,97,107]),(.str [99,111,110,115,116]),(.str [99,111,110,116,105,110,117,101]),(.str [99,114,97,116,101]),(.str [101,108,115,101]),(.str [101,110,117,109]),(.str [102,97,108,115,101]),(.str [102,110]),(.str [102,111,114]),(.str [105,102]),(.str [105,109,112,108]),(.str [105,110]),(.str [108,101,116]),(.str [108,111,111,112]),(.str [109,97,116,99,104]),(.str [109,111,100]),(.str [109,117,116]),(.str [112,117,98]),(.str [114,101,102]),(.str [114,101,116,117,114,110]),(.str [115,101,108,102]),(.str [115,116,114,117,99,116]),(.str [115,117,112,101,114]),(.str [116,114,97,105,116]),(.str [116,114,117,101]),(.str [117,115,101]),(.str [119,104,105,108,101])]

end
noncomputable abbrev zms:Nat:=7
noncomputable abbrev zfE:Nat:=8
noncomputable abbrev zcG:Nat:=9
noncomputable abbrev zmt:Nat:=10
noncomputable abbrev zkN:Nat:=11
noncomputable abbrev ziZ:Nat:=12
noncomputable abbrev zfF:Nat:=13
noncomputable abbrev zi0:Nat:=14
noncomputable abbrev zib:Nat:=15
noncomputable abbrev zfG:Nat:=23
noncomputable abbrev zdQ:Nat:=42
noncomputable abbrev ze6:Nat:=43
noncomputable abbrev zbp:Nat:=45
noncomputable abbrev zic:Nat:=46
noncomputable abbrev zhe:Nat:=47
noncomputable abbrev zi1:Nat:=51
noncomputable abbrev zhf:Nat:=52
noncomputable abbrev zi2:Nat:=53
noncomputable abbrev zkO:Nat:=54
noncomputable abbrev zfH:Nat:=55
noncomputable abbrev zid:Nat:=56
noncomputable abbrev zkP:Nat:=57
noncomputable abbrev zkQ:Nat:=59
noncomputable abbrev zie:Nat:=60
noncomputable abbrev zgA:Nat:=62
noncomputable abbrev zif:Nat:=63
noncomputable abbrev zkR:Nat:=64
noncomputable abbrev zi3:Nat:=65
noncomputable abbrev zig:Nat:=66
noncomputable abbrev zgc:Nat:=67
noncomputable abbrev zih:Nat:=68
noncomputable abbrev zkS:Nat:=69
noncomputable abbrev zgd:Nat:=70
noncomputable abbrev zkT:Nat:=71
noncomputable abbrev zkU:Nat:=72
noncomputable abbrev zgB:Nat:=73
noncomputable abbrev zkV:Nat:=74
end
section
noncomputable def σW (L:List V) (i:Nat):List C:=[.inst [(0,.loc 1),(1,.int (i:Nat))],.list L]

theorem zfI:∀ (r:List V) (k:Nat) (t:V),zbB r k=some t→r≠[]∧r[min k (r.length-1)]?=some t
 | [],k,t,h=>by induction k using Nat.casesOn <;> exact zaA h
 | a::r,0,t,h=>by have ee:=Option.some.inj h; clear h; subst ee; exact⟨by simp,by simp⟩
 | [a],k+1,t,h=>by have ee:=Option.some.inj h; clear h; subst ee; exact⟨by simp,by simp⟩
 | a::b::r,k+1,t,h=>by
  have ih:=(zfI (b::r) k t h).2
  refine⟨by simp,?_⟩
  rw[show min (k+1) ((a::b::r).length-1)=min k ((b::r).length-1)+1 from Nat.add_min_add_right k r.length 1]
  exact ih

theorem zom {n i k:Nat} (h:i < n):(if(n:Int)-1 < (i:Int)+k then(n:Int)-1 else(i:Int)+k)=((i+min k (n-i-1):Nat):Int):=by
 split <;> omega
theorem zqu {L:List V}{i k:Nat}{t:V} (h:zbB (L.drop i) k=some t) (hl:L.length≤LIM) :
  zfa (σW L i) (.loc 1) (.int (if(L.length:Int)-1 < (i:Int)+k then(L.length:Int)-1 else(i:Int)+k))=some t∧L.length≤zaP:=by
 refine zaW (zfI _ _ _ h) fun h1 h2=>?_
 have hs:L.length≤zaP:=Nat.le_trans hl (by decide)
 refine⟨?_,hs⟩
 replace h2:=(List.getElem?_drop)▸h2
 replace h2:=List.length_drop▸h2
 have hlt:i < L.length:=by
  refine Or.elim (Nat.lt_or_ge i L.length) ?_ ?_
  intro q
  rotate_left
  intro q
  rotate_left
  ·exact q
  ·exact absurd (List.drop_eq_nil_iff.mpr q) h1
 have e:=zom hlt (k:=k)
 refine e.symm▸?_
 show(match idx ((i+min k (L.length-i-1):Nat):Int) L.length with | some j=>L[j]? | none=>none)=some t
 have:idx ((i+min k (L.length-i-1):Nat):Int) L.length=some (i+min k (L.length-i-1)):=by
  unfold idx
  have hj:i+min k (L.length-i-1) < L.length:=(List.getElem?_eq_some_iff.mp h2).1
  rw[if_neg (Int.not_lt.mpr (Int.natCast_nonneg _)),if_pos ⟨Int.natCast_nonneg _,Int.ofNat_lt.mpr hj,hs⟩]
  rfl
 refine this.symm▸?_
 exact h2

theorem zbH {α β:Type}{r:R α}{a:α}{σ:List C}{f:α→List C→R β} (h:r=.ok a σ):r.bind f=f a σ:=by rw[h]; rfl

theorem zjM (lo:Lo) {L:List V}{i k:Nat}{t:V} (h:zbB (L.drop i) k=some t) (hl:L.length≤LIM):zcC TB false lo zmq [.loc 0,.int k] (σW L i)=.ok t (σW L i):=by
 refine zaW (zqu h hl) fun h1 h2=>?_
 have e1:evE TB false lo (.bi .len (.cons (.attr (.x 0) 0) .nil)) [some (.loc 0),some (.int k)] (σW L i)=.ok (.int L.length) (σW L i):=by
  show(match (if L.length≤zaP then some L.length else none) with
   | some n=>R.ok (V.int n) (σW L i)
   | none=>.stuck)=_
  refine(if_pos h2).symm▸?_
  with_reducible rfl
 have e2:evE TB false lo (.bin .Sub (.bi .len (.cons (.attr (.x 0) 0) .nil)) (.c (.int 1))) [some (.loc 0),some (.int k)] (σW L i)=.ok (.int ((L.length:Int)-1)) (σW L i):=zbH e1
 have e3:evEs TB false lo (.cons (.bin .Sub (.bi .len (.cons (.attr (.x 0) 0) .nil)) (.c (.int 1))) .nil) [some (.loc 0),some (.int k)] (σW L i)=.ok [.int ((L.length:Int)-1)] (σW L i):=zbH e2
 have e4:evEs TB false lo (.cons (.bin .Add (.attr (.x 0) 1) (.x 1)) (.cons (.bin .Sub (.bi .len (.cons (.attr (.x 0) 0) .nil)) (.c (.int 1))) .nil)) [some (.loc 0),some (.int k)] (σW L i)=.ok [.int ((i:Int)+k),.int ((L.length:Int)-1)] (σW L i):=zbH e3
 have e5:evE TB false lo (.bi .min (.cons (.bin .Add (.attr (.x 0) 1) (.x 1)) (.cons (.bin .Sub (.bi .len (.cons (.attr (.x 0) 0) .nil)) (.c (.int 1))) .nil))) [some (.loc 0),some (.int k)] (σW L i)=.ok (.int (if(L.length:Int)-1 < (i:Int)+k then(L.length:Int)-1 else(i:Int)+k)) (σW L i):=zbH e4
 have e6:evE TB false lo (.sub (.attr (.x 0) 0) (.bi .min (.cons (.bin .Add (.attr (.x 0) 1) (.x 1)) (.cons (.bin .Sub (.bi .len (.cons (.attr (.x 0) 0) .nil)) (.c (.int 1))) .nil)))) [some (.loc 0),some (.int k)] (σW L i)=.ok t (σW L i):=by
  refine Eq.trans (zbH (r:=evE TB false lo (.bi .min _) _ _) e5) ?_
  refine h1.symm▸?_; rfl
 show zpF (zf6 _ ((evE TB false lo (.sub (.attr (.x 0) 0) (.bi .min (.cons (.bin .Add (.attr (.x 0) 1) (.x 1)) (.cons (.bin .Sub (.bi .len (.cons (.attr (.x 0) 0) .nil)) (.c (.int 1))) .nil)))) [some (.loc 0),some (.int k)] (σW L i)).bind _))=_
 refine e6.symm▸?_
 rfl
end
section
section
variable {T:Tab}{prim:Bool}{lo:Lo}
theorem zaj {s:S}{ss:Ss}{ρ ρ1:Env}{σ σ1:List C} (h:evS T prim lo s ρ σ=.ok (.next,ρ1) σ1):evSs T prim lo (.cons s ss) ρ σ=evSs T prim lo ss ρ1 σ1:=by
 show zf6 _ (evS T prim lo s ρ σ)=_
 refine h.symm▸?_; rfl
theorem zfh {s:S}{ss:Ss}{ρ:Env}{σ:List C} (h:evS T prim lo s ρ σ=.exc):evSs T prim lo (.cons s ss) ρ σ=.exc:=by
 show zf6 _ (evS T prim lo s ρ σ)=_
 refine h.symm▸?_; rfl
noncomputable def zsT:Bool→Ss→Ss→Ss
 | true,x,_=>x
 | false,_,y=>y
theorem zaT {t:E}{x y:Ss}{b:Bool}{ρ:Env}{σ σ1:List C} (h:evT T prim lo t ρ σ=.ok b σ1):evS T prim lo (.ite t x y) ρ σ=evSs T prim lo (zsT b x y) ρ σ1:=by
 show(evT T prim lo t ρ σ).bind _=_
 refine h.symm▸?_; induction b using Bool.casesOn <;> rfl
theorem zon {k b:Bool}{e e':E}{es:Es}{ρ:Env}{σ σ1:List C} (h:evE T prim lo e ρ σ=.ok (.bool b) σ1):evB T prim lo k (.cons e (.cons e' es)) ρ σ=if b == k then evB T prim lo k (.cons e' es) ρ σ1 else .ok (.bool b) σ1:=by
 show(evE T prim lo e ρ σ).bind _=_
 refine h.symm▸?_; rfl
theorem zbn {k b:Bool}{e:E}{es:Es}{ρ:Env}{σ σ1:List C} (h:evT T prim lo e ρ σ=.ok b σ1):evTs T prim lo k (.cons e es) ρ σ=if b == k then evTs T prim lo k es ρ σ1 else .ok b σ1:=by
 show(evT T prim lo e ρ σ).bind _=_
 refine h.symm▸?_; rfl
theorem zdd {fn:Fn}{as:List V}{ρ ρ':Env}{σ σ':List C}{v:V} (hn:zeZ fn as=some ρ) (h:evSs T prim lo fn.body ρ σ=.ok (.ret v,ρ') σ'):zcC T prim lo fn as σ=.ok v σ':=by
 unfold zcC
 rw[hn]
 dsimp only
 rw[h]; rfl
theorem zmu {fn:Fn}{as:List V}{ρ:Env}{σ:List C} (hn:zeZ fn as=some ρ) (h:evSs T prim lo fn.body ρ σ=.exc):zcC T prim lo fn as σ=.exc:=by
 unfold zcC
 refine hn.symm▸?_
 dsimp only
 refine h.symm▸?_; rfl
end

theorem zdF:∀ {a b:List Nat},zan a b=true→a=b
 | [],[],_=>rfl
 | x::a,y::b,h=>by
  have h:(Nat.beq x y&&zan a b)=true:=h
  refine zaW (Bool.and_eq_true_iff.mp h) fun h1 h2=>?_
  refine(Nat.eq_of_beq_eq_true h1).symm▸?_
  refine(zdF h2).symm▸?_
  with_reducible rfl
 | [],_::_,h=>nomatch h
 | _::_,[],h=>nomatch h

theorem zmv (lo:Lo) {L:List V}{i:Nat}{t:V} (h:zbB (L.drop i) 0=some t) (hl:L.length≤LIM):zcC TB false lo zmq [.loc 0] (σW L i)=.ok t (σW L i):=zjM lo (k:=0) h hl

noncomputable abbrev tk (k tx:List Nat) (p a b:V):V:=.tup [.str k,.str tx,p,a,b]
section
variable {lo:Lo}{L:List V}{i:Nat}{k tx:List Nat}{p a b:V}
theorem zoo (hp:lo.call 0 [.loc 0] (σW L i)=.ok (tk k tx p a b) (σW L i)):zcC TB false lo zpj [.loc 0] (σW L i)=.ok (tk k tx p a b) (σW L (match zan k zdV with
  | true=>i
  | false=>i+1)):=by
 have e1:evS TB false lo (.asg 1 (.wm (.x 0) .peek .nil)) [some (.loc 0),none] (σW L i)=.ok (.next,[some (.loc 0),some (tk k tx p a b)]) (σW L i):=by
  show(lo.call 0 [.loc 0] (σW L i)).bind _=_
  refine hp.symm▸?_; rfl
 refine zdd (ρ:=[some (.loc 0),none]) (ρ':=[some (.loc 0),some (tk k tx p a b)]) rfl ((zaj e1).trans ?_)
 have e2:evT TB false lo (.cmp .NotEq (.sub (.x 1) (.c (.int 0))) (.c (.str [101,110,100]))) [some (.loc 0),some (tk k tx p a b)] (σW L i)=.ok (!zan k zdV) (σW L i):=rfl
 have e3:=zaT (x:=(.cons (.augA (.x 0) 1 .Add (.c (.int 1))) .nil)) (y:=.nil) e2
 induction q:zan k zdV using Bool.casesOn with
 | true=>replace e3:=q▸e3; exact(zaj (e3.trans rfl)).trans rfl
 | false=>replace e3:=q▸e3; exact(zaj (e3.trans rfl)).trans rfl
theorem zmw {c:List Nat}{n:Int} (hp:lo.call 0 [.loc 0,.int n] (σW L i)=.ok (tk k tx p a b) (σW L i)):zcC TB false lo zmr [.loc 0,.str c,.int n] (σW L i)=.ok (.bool ((zan k zbu||zan k zcs)&&zan tx c)) (σW L i):=by
 have e1:evS TB false lo (.asg 3 (.wm (.x 0) .peek (.cons (.x 2) .nil))) [some (.loc 0),some (.str c),some (.int n),none] (σW L i)=.ok (.next,[some (.loc 0),some (.str c),some (.int n),some (tk k tx p a b)]) (σW L i):=by
  show(lo.call 0 [.loc 0,.int n] (σW L i)).bind _=_
  refine hp.symm▸?_; rfl
 refine zdd (ρ:=[some (.loc 0),some (.str c),some (.int n),none]) (ρ':=[some (.loc 0),some (.str c),some (.int n),some (tk k tx p a b)]) rfl ((zaj e1).trans ?_)
 have e2:evE TB false lo (.cmp .In (.sub (.x 3) (.c (.int 0))) (.tup (.cons (.c (.str [115,105,103,110])) (.cons (.c (.str [110,97,109,101])) .nil)))) [some (.loc 0),some (.str c),some (.int n),some (tk k tx p a b)] (σW L i)=.ok (.bool (zan k zbu||(zan k zcs||false))) (σW L i):=rfl
 have e3:evE TB false lo (.cmp .Eq (.sub (.x 3) (.c (.int 1))) (.x 1)) [some (.loc 0),some (.str c),some (.int n),some (tk k tx p a b)] (σW L i)=.ok (.bool (zan tx c)) (σW L i):=rfl
 have e4:evE TB false lo (.bop true (.cons (.cmp .In (.sub (.x 3) (.c (.int 0))) (.tup (.cons (.c (.str [115,105,103,110])) (.cons (.c (.str [110,97,109,101])) .nil)))) (.cons (.cmp .Eq (.sub (.x 3) (.c (.int 1))) (.x 1)) .nil))) [some (.loc 0),some (.str c),some (.int n),some (tk k tx p a b)] (σW L i)=.ok (.bool ((zan k zbu||zan k zcs)&&zan tx c)) (σW L i):=by
  rw[Bool.or_false] at e2
  refine(zon e2).trans ?_
  cases q:(zan k zbu||zan k zcs) with
  | true=>exact e3
  | false=>rfl
 show zf6 _ ((evE TB false lo _ _ _).bind _)=_
 refine e4.symm▸?_; rfl
theorem zop {kw:Bool} (hk:zbt tx TB.kw=some kw) (hp:lo.call 0 [.loc 0] (σW L i)=.ok (tk k tx p a b) (σW L i)) :
  zcC TB false lo zpk [.loc 0] (σW L i)=match (zan k zcs&&!kw) with
   | true=>.ok (.tup [.str tx,p]) (σW L (i+1))
   | false=>.exc:=by
 have e1:evS TB false lo (.asg 1 (.wm (.x 0) .peek .nil)) [some (.loc 0),none] (σW L i)=.ok (.next,[some (.loc 0),some (tk k tx p a b)]) (σW L i):=by
  show(lo.call 0 [.loc 0] (σW L i)).bind _=_
  refine hp.symm▸?_; rfl
 have e2:evT TB false lo (.cmp .NotEq (.sub (.x 1) (.c (.int 0))) (.c (.str [110,97,109,101]))) [some (.loc 0),some (tk k tx p a b)] (σW L i)=.ok (!zan k zcs) (σW L i):=rfl
 have e3:evT TB false lo (.cmp .In (.sub (.x 1) (.c (.int 1))) (.g 0)) [some (.loc 0),some (tk k tx p a b)] (σW L i)=.ok kw (σW L i):=by
  show ofOpt _ (zbt tx TB.kw)=_
  refine hk.symm▸?_; rfl
 have e4:evT TB false lo (.bop false (.cons (.cmp .NotEq (.sub (.x 1) (.c (.int 0))) (.c (.str [110,97,109,101]))) (.cons (.cmp .In (.sub (.x 1) (.c (.int 1))) (.g 0)) .nil))) [some (.loc 0),some (tk k tx p a b)] (σW L i)=.ok (!(zan k zcs&&!kw)) (σW L i):=by
  refine(zbn e2).trans ?_
  induction zan k zcs using Bool.casesOn with
  | true=>refine(zbn e3).trans ?_; induction kw using Bool.casesOn <;> rfl
  | false=>rfl
 have e5:=zaT (x:=(.cons (.raise (.c (.str [97,32,110,97,109,101,32,105,115,32,109,105,115,115,105,110,103])) (.sub (.x 1) (.c (.int 2)))) .nil)) (y:=.nil) e4
 cases q:(zan k zcs&&!kw) with
 | true=>
  replace e5:=q▸e5
  exact zdd (ρ:=[some (.loc 0),none]) (ρ':=[some (.loc 0),some (tk k tx p a b)]) rfl ((zaj e1).trans ((zaj (e5.trans rfl)).trans rfl))
 | false=>
  replace e5:=q▸e5
  exact zmu (ρ:=[some (.loc 0),none]) rfl ((zaj e1).trans (zfh (e5.trans rfl)))
theorem zmx (hk:zan k zbu=true) (ht:zan tx zno=true) (hp:lo.call 0 [.loc 0] (σW L i)=.ok (tk k tx p a b) (σW L i)) :
  zcC TB false lo zes [.loc 0] (σW L i)=.ok (.tup [.str zbu,.str zno,p,.none,.none]) (σW L (i+1)):=by
 have:=zdF hk
 refine bc fun hN=>?_
 subst this
 have:=zdF ht
 subst this
 have e1:evS TB false lo (.asg 1 (.wm (.x 0) .peek .nil)) [some (.loc 0),none] (σW L i)=.ok (.next,[some (.loc 0),some (tk zbu zno p a b)]) (σW L i):=by
  show(lo.call 0 [.loc 0] (σW L i)).bind _=_
  rw[hp]; rfl
 refine hN ?_
 exact zdd (ρ:=[some (.loc 0),none]) (ρ':=[some (.loc 0),some (tk zbu zno p a b)]) rfl ((zaj e1).trans rfl)
end
end
section
theorem zeL {t:V} (h:zdW t=true):∃ k x i a b,t=.tup [.str k,.str x,.int i,a,b]∧plain a=true∧plain b=true:=by
 refine IfT.out ?_ h
 clear h
 induction t using V.casesOn with
 | tup vs=>
  induction vs using List.casesOn with
  | nil=>exact True.intro
  | cons k vs=>
   induction k using V.casesOn with
   | str k=>
    induction vs using List.casesOn with
    | nil=>exact True.intro
    | cons x vs=>
     induction x using V.casesOn with
     | str x=>
      induction vs using List.casesOn with
      | nil=>exact True.intro
      | cons i vs=>
       induction i using V.casesOn with
       | int i=>
        match vs with
        | [a,b]=>exact .mk fun h=>⟨k,x,i,a,b,rfl,Bool.and_eq_true_iff.mp h⟩
        | []=>exact True.intro
        | [_]=>exact True.intro
        | _::_::_::_=>exact True.intro
       | _=>exact True.intro
     | _=>exact True.intro
   | _=>exact True.intro
 | _=>exact True.intro
theorem zi4 {t:V} (h:zdW t=true):plain t=true∧zpD (zb9 t)=true:=by
 refine zur (zeL h) fun k x i a b ee0 h1 h2=>?_
 subst ee0
 refine⟨?_,rfl⟩
 show(true&&(true&&(true&&(plain a&&(plain b&&true)))))=true
 refine h1.symm▸?_; refine h2.symm▸?_; rfl
theorem zeM:∀ {vs:List V},vs.all zdW=true→plains vs=true∧(vs.map zb9).all zpD=true
 | [],_=>⟨rfl,rfl⟩
 | t::vs,h=>by
  rw[List.all_cons,Bool.and_eq_true] at h
  refine zaW (zeM h.2) fun a b=>?_
  refine zaW (zi4 h.1) fun c d=>?_
  refine⟨?_,?_⟩
  ·show(plain t&&plains vs)=true
   refine c.symm▸?_; refine a.symm▸?_; rfl
  ·refine List.map_cons.symm▸?_; refine List.all_cons.symm▸?_; refine d.symm▸?_; refine b.symm▸?_; rfl

section
variable {T:Tab}{prim:Bool}{lo:Lo}{ρ ρ1:Env}{σ σ1 σ2:List C}
theorem zav {i:Nat}{e:E}{v:V} (h:evE T prim lo e ρ σ=.ok v σ1) (hi:i < ρ.length):evS T prim lo (.asg i e) ρ σ=.ok (.next,ρ.set i (some v)) σ1:=by
 show(evE T prim lo e ρ σ).bind _=_
 refine h.symm▸?_
 show(if i < ρ.length then _ else _)=_
 refine(if_pos hi).symm▸?_
 with_reducible rfl
theorem zbU {is:List Nat}{e:E}{vs:List V} (h:evE T prim lo e ρ σ=.ok (.tup vs) σ1) (hs:za5 is vs ρ=some ρ1):evS T prim lo (.asgT is e) ρ σ=.ok (.next,ρ1) σ1:=by
 show(evE T prim lo e ρ σ).bind _=_
 refine h.symm▸?_
 show(match za5 is vs ρ with
  | some ρ1=>R.ok (Fl.next,ρ1) σ1
  | none=>.stuck)=_
 refine hs.symm▸?_
 with_reducible rfl
theorem zmy {is:List Nat}{e:E}{vs:List V}{k:Nat} (h:evE T prim lo e ρ σ=.ok (.loc k) σ1) (hk:σ1[k]?=some (.list vs)) (hs:za5 is vs ρ=some ρ1):evS T prim lo (.asgT is e) ρ σ=.ok (.next,ρ1) σ1:=by
 show(evE T prim lo e ρ σ).bind _=_
 refine h.symm▸?_
 show(match (match σ1[k]? with
  | some (C.list vs)=>some vs
  | _=>none) with
  | some vs=>(match za5 is vs ρ with
   | some ρ1=>R.ok (Fl.next,ρ1) σ1
   | none=>.stuck)
  | none=>.stuck)=_
 refine hk.symm▸?_; dsimp only; refine hs.symm▸?_; with_reducible rfl
theorem ze7 {e:E}{v:V} (h:evE T prim lo e ρ σ=.ok v σ1):evS T prim lo (.ret e) ρ σ=.ok (.ret v,ρ) σ1:=by
 show(evE T prim lo e ρ σ).bind _=_
 refine h.symm▸?_; rfl
theorem zc8 {e:E}{v:V} (h:evE T prim lo e ρ σ=.ok v σ1):evS T prim lo (.expr e) ρ σ=.ok (.next,ρ) σ1:=by
 show(evE T prim lo e ρ σ).bind _=_
 refine h.symm▸?_; rfl
theorem zaQ {s:S}{ss:Ss}{v:V} (h:evS T prim lo s ρ σ=.ok (.ret v,ρ1) σ1):evSs T prim lo (.cons s ss) ρ σ=.ok (.ret v,ρ1) σ1:=by
 show zf6 _ (evS T prim lo s ρ σ)=_
 refine h.symm▸?_; rfl
theorem zac {e:E}{es:Es}{v:V}{vs:List V} (h:evE T prim lo e ρ σ=.ok v σ1) (h2:evEs T prim lo es ρ σ1=.ok vs σ2):evEs T prim lo (.cons e es) ρ σ=.ok (v::vs) σ2:=by
 show(evE T prim lo e ρ σ).bind _=_
 refine h.symm▸?_
 show(evEs T prim lo es ρ σ1).bind _=_
 refine h2.symm▸?_; rfl
theorem zpl:evEs T prim lo .nil ρ σ=.ok [] σ:=rfl
theorem zag {e:E}{v:V} (h:evE T prim lo e ρ σ=.ok v σ1):evEs T prim lo (.cons e .nil) ρ σ=.ok [v] σ1:=zac h zpl
theorem zad {f:Nat}{es:Es}{vs:List V}{r:R V} (h:evEs T prim lo es ρ σ=.ok vs σ1) (h2:lo.call f vs σ1=r):evE T prim lo (.call f es) ρ σ=r:=by
 show(evEs T prim lo es ρ σ).bind _=_
 refine h.symm▸?_; exact h2
theorem zcR {op:Operator}{a b:E}{u v:V}{r:R V} (h:evE T prim lo a ρ σ=.ok u σ1) (h2:evE T prim lo b ρ σ1=.ok v σ2) (h3:zru σ2 op u v=r):evE T prim lo (.bin op a b) ρ σ=r:=by
 show(evE T prim lo a ρ σ).bind _=_
 refine h.symm▸?_
 show(evE T prim lo b ρ σ1).bind _=_
 refine h2.symm▸?_; exact h3
theorem zbq {x y:List Nat}{a b:Nat} (hx:x.length≤a) (hy:y.length≤b):(x++y).length≤a+b:=by rw[List.length_append]; exact Nat.add_le_add hx hy
theorem add_str {a b:E}{x y:List Nat} (h:evE T prim lo a ρ σ=.ok (.str x) σ1) (h2:evE T prim lo b ρ σ1=.ok (.str y) σ2) (hl:(x++y).length≤zaP):evE T prim lo (.bin .Add a b) ρ σ=.ok (.str (x++y)) σ2:=
 zcR h h2 (by show(if(x++y).length≤zaP then _ else _)=_; rw[if_pos hl])
theorem zbg {a i:E}{u w v:V} (h:evE T prim lo a ρ σ=.ok u σ1) (h2:evE T prim lo i ρ σ1=.ok w σ2) (h3:zfa σ2 u w=some v):evE T prim lo (.sub a i) ρ σ=.ok v σ2:=by
 show(evE T prim lo a ρ σ).bind _=_
 refine h.symm▸?_
 show(evE T prim lo i ρ σ1).bind _=_
 refine h2.symm▸?_
 show ofOpt σ2 _=_
 refine h3.symm▸?_; rfl
theorem zaU {es:Es}{vs:List V} (h:evEs T prim lo es ρ σ=.ok vs σ1) (hl:vs.length≤LIM):evE T prim lo (.tup es) ρ σ=.ok (.tup vs) σ1:=by
 show(evEs T prim lo es ρ σ).bind _=_
 refine h.symm▸?_
 show(if vs.length≤LIM then _ else _)=_
 refine(if_pos hl).symm▸?_
 with_reducible rfl
theorem zcp {es:Es}{vs:List V} (h:evEs T prim lo es ρ σ=.ok vs σ1) (hl:vs.length≤LIM):evE T prim lo (.lst es) ρ σ=.ok (.loc σ1.length) (σ1++[.list vs]):=by
 show(evEs T prim lo es ρ σ).bind _=_
 rw[h]
 show(if vs.length≤LIM then _ else _)=_
 rw[if_pos hl]
theorem zpm {op:CmpOp}{a b:E}{u v:V}{q:Bool} (h:evE T prim lo a ρ σ=.ok u σ1) (h2:evE T prim lo b ρ σ1=.ok v σ2) (h3:zf5 σ2 op u v=some q):evE T prim lo (.cmp op a b) ρ σ=.ok (.bool q) σ2:=by
 show(evE T prim lo a ρ σ).bind _=_
 refine h.symm▸?_
 show(evE T prim lo b ρ σ1).bind _=_
 refine h2.symm▸?_
 show okB σ2 _=_
 refine h3.symm▸?_; rfl
theorem za8 {op:CmpOp}{a b:E}{u v:V}{q:Bool} (h:evE T prim lo a ρ σ=.ok u σ1) (h2:evE T prim lo b ρ σ1=.ok v σ2) (h3:zf5 σ2 op u v=some q):evT T prim lo (.cmp op a b) ρ σ=.ok q σ2:=by
 show(evE T prim lo a ρ σ).bind _=_
 refine h.symm▸?_
 show(evE T prim lo b ρ σ1).bind _=_
 refine h2.symm▸?_
 show ofOpt σ2 _=_
 refine h3.symm▸?_; rfl
noncomputable def zug:Bool→E→E→E
 | true,a,_=>a
 | false,_,b=>b
theorem zcH {t a b:E}{q:Bool}{r:R V} (h:evT T prim lo t ρ σ=.ok q σ1) (h2:evE T prim lo (zug q a b) ρ σ1=r):evE T prim lo (.ite t a b) ρ σ=r:=by
 show(evT T prim lo t ρ σ).bind _=_
 refine h.symm▸?_
 induction q using Bool.casesOn <;> exact h2
end

noncomputable abbrev EV (d:Nat):Lo:=ev TB true d
section
variable {d f:Nat}{fn:Fn}{args:List V}{c c':C}{gs gs':List C}{v:V}
theorem zfJ:∀ {as:List V}{k:Nat},plains as=true→frA k as=some (as,[])
 | [],_,_=>rfl
 | v::as,k,h=>by
  have h:(plain v&&plains as)=true:=h
  refine zaW (Bool.and_eq_true_iff.mp h) fun h1 h2=>?_
  have ih:=zfJ (k:=k) h2
  have e:frA k (v::as)=(match plain v with
   | true=>match frA k as with
    | some (as,ls)=>some (v::as,ls)
    | none=>none
   | false=>none):=by induction v using V.casesOn <;> first | rfl | (exact(Bool.false_ne_true h1).elim; done)
  refine e.symm▸?_
  refine h1.symm▸?_
  refine ih.symm▸?_
  with_reducible rfl
theorem zeN (hf:TB.fns[f]?=some fn) (as:List V) (σ:List C):(EV (d+1)).call f as σ=zdM TB true (EV d) fn as σ:=by
 show(match TB.fns[f]? with
  | some fn=>_
  | none=>_)=_
 refine hf.symm▸?_
 with_reducible rfl
theorem zjN (hf:TB.fns[f]?=some fn) (ha:plains args=true) (hc:zbv c=true):(EV (d+1)).call f (.loc 0::args) (c::gs)=znz (c::gs) [0] (zcC TB true (EV d) fn (.loc 0::args) [c]):=by
 rw[zeN hf]
 have e1:frA 0 (.loc 0::args)=some (.loc 0::args,[0]):=by
  show(match frA 1 args with
   | some (as,ls)=>_
   | none=>_)=_
  refine(zfJ ha).symm▸?_
  with_reducible rfl
 have e2:zny (c::gs) [0]=some [c]:=by
  show(match zbv c with
   | true=>some [c]
   | false=>none)=_
  refine hc.symm▸?_
  with_reducible rfl
 unfold zdM
 refine e1.symm▸?_
 dsimp only
 refine e2.symm▸?_
 rfl
theorem zat (hf:TB.fns[f]?=some fn) (ha:plains args=true) (hc:zbv c=true) (h:zcC TB true (EV d) fn (.loc 0::args) [c]=.ok v (c'::gs')) (hc':zbv c'=true) (hv:plain v=true) :
  (EV (d+1)).call f (.loc 0::args) (c::gs)=.ok v (c'::gs):=by
 refine(zjN hf ha hc).symm▸?_
 refine h.symm▸?_
 show(match (match zbv c' with
  | true=>some (c'::gs)
  | false=>none) with
  | some σ'=>zdX (c::gs) σ' 1 (c'::gs') v
  | none=>R.stuck)=_
 refine hc'.symm▸?_
 show zdX _ _ _ _ _=_
 have:zdX (c::gs) (c'::gs) 1 (c'::gs') v=(match plain v with
  | true=>.ok v (c'::gs)
  | false=>.stuck):=by induction v using V.casesOn <;> first | rfl | (exact(Bool.false_ne_true hv).elim; done)
 refine this.symm▸?_
 refine hv.symm▸?_
 with_reducible rfl
theorem zcS {k:Nat}{vs:List V} (hf:TB.fns[f]?=some fn) (ha:plains args=true) (hc:zbv c=true) (h:zcC TB true (EV d) fn (.loc 0::args) [c]=.ok (.loc k) (c'::gs')) (hc':zbv c'=true)
  (hk:Nat.ble 1 k=true) (hv:(c'::gs')[k]?=some (.list vs)) (hp:plains vs=true) :
  (EV (d+1)).call f (.loc 0::args) (c::gs)=.ok (.loc (gs.length+1)) (c'::(gs++[.list vs])):=by
 refine(zjN hf ha hc).symm▸?_
 refine h.symm▸?_
 show(match (match zbv c' with
  | true=>some (c'::gs)
  | false=>none) with
  | some σ'=>zdX (c::gs) σ' 1 (c'::gs') (.loc k)
  | none=>R.stuck)=_
 refine hc'.symm▸?_
 show(match Nat.ble 1 k with
  | true=>(match (c'::gs')[k]? with
   | some c=>(match zbv c with
    | true=>R.ok (V.loc (gs.length+1)) (c'::gs++[c])
    | false=>.stuck)
   | none=>.stuck)
  | false=>.stuck)=_
 refine hk.symm▸?_
 refine hv.symm▸?_
 show(match plains vs with
  | true=>R.ok (V.loc (gs.length+1)) (c'::gs++[C.list vs])
  | false=>.stuck)=_
 refine hp.symm▸?_; rfl
theorem zbe (hf:TB.fns[f]?=some fn) (ha:plains args=true) (h:zcC TB true (EV d) fn args []=.ok v gs') (hv:plain v=true) :
  (EV (d+1)).call f args gs=.ok v gs:=by
 rw[zeN hf]
 unfold zdM
 refine(zfJ ha).symm▸?_
 show znz gs [] (zcC TB true (EV d) fn args [])=_
 refine h.symm▸?_
 show zdX gs gs 0 gs' v=_
 have:zdX gs gs 0 gs' v=(match plain v with
  | true=>.ok v gs
  | false=>.stuck):=by induction v using V.casesOn <;> first | rfl | (exact(Bool.false_ne_true hv).elim; done)
 refine this.symm▸?_
 refine hv.symm▸?_
 with_reducible rfl
end
end
section
noncomputable def SC (c:C):Prop:=∃ a b:Int,0≤a∧0≤b∧c=.list [.int a,.int b]
theorem SC.plain {c:C} (h:SC c):zbv c=true:=by refine zc0 h ?_; clear h; intro a b _ _ ee0; subst ee0; rfl

theorem zjO {x:Int} (h0:0≤x) (h1:x < 2147483647):zb1 x=true:=by
 unfold zb1
 exact decide_eq_true (by omega)

theorem zmz {lo:Lo}{a b top:Int} (ha:0≤a) (hb:0≤b) (ht:0 < top) (ht2:top≤1000) :
  ∃ n a' b',0≤n∧n < top∧0≤a'∧0≤b'∧zcC TB true lo zeJ [.loc 0,.int top] [.list [.int a,.int b]]=.ok (.int n) [.list [.int a',.int b']]:=by
 have hty:¬ top=0:=by omega
 have htf:zb1 top=true:=zjO (by omega) (by omega)
 have e0:evT TB true lo (.cmp .Gt (.sub (.x 0) (.c (.int 0))) (.c (.int 0))) [some (.loc 0),some (.int top),none] [.list [.int a,.int b]]=.ok (decide (0 < a)) [.list [.int a,.int b]]:=rfl
 by_cases h:0 < a
 ·replace e0:=(decide_eq_true h)▸e0
  refine ztD (a.fmod top) (a.fdiv top) b (Int.fmod_nonneg_of_pos _ ht) (Int.fmod_lt_of_pos _ ht) (Int.fdiv_nonneg ha (by omega)) hb ?_
  refine zdd (ρ:=[some (.loc 0),some (.int top),none]) (ρ':=[some (.loc 0),some (.int top),some (.int (a.fmod top))]) rfl ?_
  refine zaQ ((zaT e0).trans ?_)
  refine(zaj (zav (v:=.int (a.fmod top)) (σ1:=[.list [.int a,.int b]]) ?_ (by exact Nat.le_of_ble_eq_true rfl))).trans ?_
  ·show(if top=0 then R.stuck else _)=_
   refine(if_neg hty).symm▸?_
   with_reducible rfl
  refine(zaj (ρ1:=[some (.loc 0),some (.int top),some (.int (a.fmod top))]) (σ1:=[.list [.int (a.fdiv top),.int b]]) ?_).trans rfl
  have:evE TB true lo (.bin .FloorDiv (.sub (.x 0) (.c (.int 0))) (.x 1)) [some (.loc 0),some (.int top),some (.int (a.fmod top))] [.list [.int a,.int b]]=.ok (.int (a.fdiv top)) [.list [.int a,.int b]]:=by
   show(if(decide (top=0)||!zb1 top)=true then R.stuck else _)=_
   refine htf.symm▸?_; refine(decide_eq_false hty).symm▸?_; rfl
  show(evE TB true lo (.bin .FloorDiv (.sub (.x 0) (.c (.int 0))) (.x 1)) _ _).bind _=_
  exact(zbH this).trans rfl
 ·replace e0:=(decide_eq_false h)▸e0
  have hb1:0≤(b*39373+7).fmod 2147483647:=Int.fmod_nonneg_of_pos _ (by decide)
  have hb2:(b*39373+7).fmod 2147483647 < 2147483647:=Int.fmod_lt_of_pos _ (by decide)
  generalize hb':(b*39373+7).fmod 2147483647=b' at hb1 hb2
  have fb:zb1 b'=true:=zjO hb1 hb2
  refine ztD ((((b'*b').fmod 2147483629).fdiv 32).fmod top) a b' (Int.fmod_nonneg_of_pos _ ht) (Int.fmod_lt_of_pos _ ht) ha hb1 ?_
  refine zdd (ρ:=[some (.loc 0),some (.int top),none]) (ρ':=[some (.loc 0),some (.int top),none]) rfl ?_
  refine(zaj ((zaT e0).trans rfl)).trans ?_
  refine(zaj (ρ1:=[some (.loc 0),some (.int top),none]) (σ1:=[.list [.int a,.int b']]) ?_).trans ?_
  ·have e1:evE TB true lo (.bin .Mult (.sub (.x 0) (.c (.int 1))) (.c (.int 39373))) [some (.loc 0),some (.int top),none] [.list [.int a,.int b]]=.ok (.int (b*39373)) [.list [.int a,.int b]]:=by
    show(if(zb1 b||zb1 39373)=true then _ else R.stuck)=_
    rw[show zb1 39373=true from by decide,Bool.or_true]; rfl
   have e2:evE TB true lo (.bin .Mod (.bi .int (.cons (.bin .Add (.bin .Mult (.sub (.x 0) (.c (.int 1))) (.c (.int 39373))) (.c (.int 7))) .nil)) (.c (.int 2147483647))) [some (.loc 0),some (.int top),none] [.list [.int a,.int b]]=.ok (.int b') [.list [.int a,.int b]]:=by
    refine hb'▸?_
    refine zcR (u:=.int (b*39373+7)) (v:=.int 2147483647) (σ1:=[.list [.int a,.int b]]) (σ2:=[.list [.int a,.int b]]) ?_ rfl rfl
    have e3:evE TB true lo (.bin .Add (.bin .Mult (.sub (.x 0) (.c (.int 1))) (.c (.int 39373))) (.c (.int 7))) [some (.loc 0),some (.int top),none] [.list [.int a,.int b]]=.ok (.int (b*39373+7)) [.list [.int a,.int b]]:=zcR e1 rfl rfl
    exact zbH (zag e3)
   exact(zbH e2).trans rfl
  ·have e1:evE TB true lo (.bin .Mult (.sub (.x 0) (.c (.int 1))) (.sub (.x 0) (.c (.int 1)))) [some (.loc 0),some (.int top),none] [.list [.int a,.int b']]=.ok (.int (b'*b')) [.list [.int a,.int b']]:=by
    show(if(zb1 b'||zb1 b')=true then _ else R.stuck)=_
    refine fb.symm▸?_; rfl
   have e2:evE TB true lo (.bin .Mod (.bi .int (.cons (.bin .Mult (.sub (.x 0) (.c (.int 1))) (.sub (.x 0) (.c (.int 1)))) .nil)) (.c (.int 2147483629))) [some (.loc 0),some (.int top),none] [.list [.int a,.int b']]=.ok (.int ((b'*b').fmod 2147483629)) [.list [.int a,.int b']]:=
    zcR (zbH (zag e1)) rfl rfl
   have e3:evE TB true lo (.bin .FloorDiv (.bin .Mod (.bi .int (.cons (.bin .Mult (.sub (.x 0) (.c (.int 1))) (.sub (.x 0) (.c (.int 1)))) .nil)) (.c (.int 2147483629))) (.c (.int 32))) [some (.loc 0),some (.int top),none] [.list [.int a,.int b']]=.ok (.int (((b'*b').fmod 2147483629).fdiv 32)) [.list [.int a,.int b']]:=
    zcR e2 rfl rfl
   refine zaQ (ze7 (zcR (zbH (zag e3)) rfl ?_))
   show(if top=0 then R.stuck else _)=_
   refine(if_neg hty).symm▸?_
   with_reducible rfl

theorem zbV (d:Nat) {c:C} (hc:SC c) {top:Int} (ht:0 < top) (ht2:top≤1000) (gs:List C) :
  ∃ (n:Nat) (c':C),SC c'∧(n:Int) < top∧(EV (d+1)).call zgA [.loc 0,.int top] (c::gs)=.ok (.int n) (c'::gs):=by
 refine zc0 hc ?_
 clear hc
 intro a b ha hb ee0
 subst ee0
 refine zo0 (zmz (lo:=EV d) ha hb ht ht2) fun n a' b' h0 h1 ha' hb' h=>?_
 refine zki n.toNat (.list [.int a',.int b']) (⟨a',b',ha',hb',rfl⟩) (by omega) ?_
 refine(show((n.toNat:Nat):Int)=n by exact Int.toNat_of_nonneg ‹_›).symm▸?_
 exact zat (fn:=zeJ) rfl rfl rfl h rfl rfl

theorem zsU (d:Nat) {c:C} (hc:SC c) {gs:List C}{k:Nat}{vs:List V} (hk:gs[k]?=some (.list vs)) (h0:vs≠[]) (hl:vs.length≤100) (hp:plains vs=true) :
  ∃ (n:Nat) (v:V) (c':C),SC c'∧vs[n]?=some v∧(EV (d+2)).call zif [.loc 0,.loc (k+1)] (c::gs)=.ok v (c'::gs):=by
 have hl0:0 < vs.length:=List.length_pos_iff.mpr h0
 refine zc0 (zbV d hc (top:=vs.length) (by exact Int.ofNat_le.mpr ‹_›) (by omega) [.list vs]) fun n c' hc' hn h=>?_
 have hn':n < vs.length:=by exact Int.ofNat_le.mp ‹_›
 refine znv n (vs[n]) c' hc' (List.getElem?_eq_getElem hn') ?_
 have hrun:zcC TB true (EV (d+1)) zeu [.loc 0,.loc 1] [c,.list vs]=.ok vs[n] [c',.list vs]:=by
  refine zdd (ρ:=[some (.loc 0),some (.loc 1)]) rfl (zaQ (ze7 (zbg (u:=.loc 1) (w:=.int n) (σ1:=[c,.list vs]) (σ2:=[c',.list vs]) rfl (zad (vs:=[.loc 0,.int vs.length]) (σ1:=[c,.list vs]) (zac rfl (zag ?_)) h) ?_)))
  ·show(match (if vs.length≤zaP then some vs.length else none) with
    | some n=>R.ok (V.int n) [c,C.list vs]
    | none=>.stuck)=_
   rw[if_pos (by unfold zaP; exact Nat.le_trans ‹_› (by decide))]
  ·show(match idx (n:Nat) vs.length with
    | some j=>vs[j]?
    | none=>none)=_
   have:idx (n:Nat) vs.length=some n:=by
    unfold idx
    have hneg:¬ ((n:Nat):Int) < 0:=by omega
    simp only[if_neg hneg]
    rw[if_pos (by unfold zaP; refine⟨by exact Int.ofNat_nonneg _,by assumption,by exact Nat.le_trans ‹_› (by decide)⟩)]
    congr 1
   rw[this]
   exact List.getElem?_eq_getElem hn'
 rw[zeN (fn:=zeu) rfl]
 have hkl:k < gs.length:=(List.getElem?_eq_some_iff.mp hk).1
 have e2:zny (c::gs) [0,k+1]=some [c,.list vs]:=by
  show(match gs[k]?,some ([]:List C) with
   | some c,some τ=>(match zbv c with
    | true=>some (c::τ)
    | false=>none)
   | _,_=>none) |> fun r=>(match some c,r with
   | some c,some τ=>(match zbv c with
    | true=>some (c::τ)
    | false=>none)
   | _,_=>none)=_
  rw[hk]
  dsimp only
  rw[show zbv (.list vs)=true from hp]
  dsimp only
  rw[hc.plain]
 unfold zdM
 show(match zcg [0,k+1],zny (c::gs) [0,k+1] with
  | true,some τ=>znz (c::gs) [0,k+1] (zcC TB true (EV (d+1)) zeu [.loc 0,.loc 1] τ)
  | _,_=>R.stuck)=_
 rw[e2,show zcg [0,k+1]=true by simp[zcg,Nat.beq]]
 dsimp only
 rw[hrun]
 have e3:zfo [0,k+1] [c',.list vs] (c::gs)=some (c'::gs):=by
  show(match zbv c' with
   | true=>(match plains vs with
    | true=>some (c'::gs.set k (.list vs))
    | false=>none)
   | false=>none)=_
  rw[hc'.plain,hp]
  dsimp only
  rw[show gs.set k (.list vs)=gs from ?_]
  apply List.ext_getElem?
  intro i
  by_cases q:k=i
  ·subst q; rw[List.getElem?_set_self hkl,hk]
  ·rw[List.getElem?_set_ne q]
 unfold znz
 dsimp only
 rw[e3]
 dsimp only
 have hv:plain vs[n]=true:=by
  have:∀ (l:List V) (n:Nat) (h:n < l.length),plains l=true→plain l[n]=true:=by
   intro l
   induction l with
   | nil=>intro n h; simp at h
   | cons a l ih=>
    intro n h hp
    have hp:(plain a&&plains l)=true:=hp
    refine zaW (Bool.and_eq_true_iff.mp hp) fun h1 h2=>?_
    induction n using Nat.casesOn with
    | zero=>exact h1
    | succ n=>exact ih n (by simpa using h) h2
  exact this vs n hn' hp
 generalize vs[n]=v at hv
 have:∀ (v:V),plain v=true→zdX (c::gs) (c'::gs) 2 [c',.list vs] v=.ok v (c'::gs):=by
  intro v hv
  have e:zdX (c::gs) (c'::gs) 2 [c',.list vs] v=(match plain v with
   | true=>.ok v (c'::gs)
   | false=>.stuck):=by induction v using V.casesOn <;> first | rfl | (exact(Bool.false_ne_true hv).elim; done)
  rw[e,hv]
 exact this v hv

theorem zhg (d:Nat) (s:List Nat) (gs:List C):(EV (d+1)).call zkR [.str s] gs=.ok (.tup [.str [112,97,116,104],.int 0,.tup [.tup [.str s,.tup [],.tup []]]]) gs:=
 zbe (fn:=zgz) rfl rfl rfl rfl
end
section
inductive SelfK where | no | val | ref | mut
inductive N3 where | n0 | n1 | n2
inductive U4 where | u0 | u1 | u2 | u3
set_option genInjectivity false in
structure FnC where
 pub:Bool
 gen:Bool
 self:SelfK
 par:N3
 com:Bool
 res:Bool
 bare:Bool
noncomputable def nb (k:FnC):FnC:=⟨k.pub,k.gen,k.self,k.par,k.com,k.res,false⟩
set_option genInjectivity false in
structure Fld where
 pub:Bool
 ref:Bool
set_option genInjectivity false in
set_option genCtorIdx false in
inductive FL where
 | n0
 | n1 (a:Fld) (com:Bool)
 | n2 (a b:Fld) (com:Bool)
set_option genInjectivity false in
set_option genCtorIdx false in
inductive FormC where
 | unit
 | named (f:FL)
 | tuple (f:FL)
set_option genInjectivity false in
set_option genCtorIdx false in
inductive EL where
 | n0
 | n1 (a:FormC) (com:Bool)
 | n2 (a b:FormC) (com:Bool)
set_option genInjectivity false in
set_option genCtorIdx false in
inductive Up (α:Type) where
 | n0
 | n1 (a:α)
 | n2 (a b:α)
noncomputable def Up.nb:Up FnC→Up FnC
 | n0=>n0
 | n1 a=>n1 (Lake.nb a)
 | n2 a b=>n2 (Lake.nb a) (Lake.nb b)
noncomputable def Up.list {α:Type}:Up α→List α
 | n0=>[]
 | n1 a=>[a]
 | n2 a b=>[a,b]
set_option genInjectivity false in
set_option genCtorIdx false in
inductive It0 where
 | fn (k:FnC)
 | struct (pub gen:Bool) (f:FormC)
 | enum (pub gen:Bool) (e:EL)
 | impl (gen tr:Bool) (fs:Up FnC)
 | trait (pub:Bool) (fs:Up FnC)
 | use (pub:Bool) (n:U4) (al:Bool)
 | const (pub:Bool)
set_option genCtorIdx false in
inductive It where
 | base (i:It0)
 | mod (pub:Bool) (is:Up It0)

noncomputable def zdG:Bool→List Nat
 | true=>[112,117,98,32]
 | false=>[]
noncomputable def zi5:Bool→List Nat
 | true=>[60,39,97,44,32,84,58,32,67,111,112,121,62]
 | false=>[]
noncomputable def zmA:Bool→List Nat
 | true=>[44]
 | false=>[]
noncomputable def zqv:SelfK→List Nat
 | .no=>[]
 | .val=>[115,101,108,102]
 | .ref=>[38,115,101,108,102]
 | .mut=>[38,109,117,116,32,115,101,108,102]
noncomputable def zkW:N3→List (List Nat)
 | .n0=>[]
 | .n1=>[[97,58,32,117,56]]
 | .n2=>[[97,58,32,117,56],[98,58,32,117,56]]
noncomputable def znr:SelfK→N3→List (List Nat)
 | .no,n=>zkW n
 | s,n=>zqv s::zkW n
noncomputable def zri:SelfK→N3→Bool→List Nat
 | .no,.n0,_=>[]
 | _,_,c=>zmA c
noncomputable def zoq:Bool→List Nat
 | true=>[32,45,62,32,117,56]
 | false=>[]
noncomputable def zhh:Bool→List Nat
 | true=>[59]
 | false=>[32,123,32,55,32,125]
noncomputable def zeO (k:FnC):List Nat:=((((((zdG k.pub++[102,110,32,102])++zi5 k.gen)++[40])++zaB [44,32] (znr k.self k.par))++zri k.self k.par k.com)++[41])++zoq k.res
noncomputable def zax (k:FnC):List Nat:=zeO k++zhh k.bare
noncomputable def tyT:Bool→List Nat
 | true=>[38,84]
 | false=>[117,56]
noncomputable def zjP:Bool→List Nat→List Nat
 | true,nm=>nm++[58,32]
 | false,_=>[]
noncomputable def zb7 (named:Bool) (nm:List Nat) (f:Fld):List Nat:=(zdG f.pub++zjP named nm)++tyT f.ref
noncomputable def zi6 (named:Bool):FL→List (List Nat)
 | .n0=>[]
 | .n1 a _=>[zb7 named [120] a]
 | .n2 a b _=>[zb7 named [120] a,zb7 named [121] b]
noncomputable def zkX:FL→List Nat
 | .n0=>[]
 | .n1 _ c=>zmA c
 | .n2 _ _ c=>zmA c
noncomputable def zbx (named:Bool) (f:FL):List Nat:=zaB [44,32] (zi6 named f)++zkX f
noncomputable def zaC:FormC→List Nat
 | .unit=>[]
 | .named f=>([32,123,32]++zbx true f)++[32,125]
 | .tuple f=>([40]++zbx false f)++[41]
noncomputable def zeP:FormC→List Nat
 | .named _=>[]
 | _=>[59]
noncomputable def zi7:EL→List (List Nat)
 | .n0=>[]
 | .n1 a _=>[[65]++zaC a]
 | .n2 a b _=>[[65]++zaC a,[66]++zaC b]
noncomputable def zeQ:EL→List Nat
 | .n0=>[]
 | .n1 _ c=>zmA c
 | .n2 _ _ c=>zmA c
noncomputable def trT:Bool→List Nat
 | true=>[84,114,60,117,56,62,32,102,111,114,32]
 | false=>[]
noncomputable def zmB:U4→List (List Nat)
 | .u0=>[[99,114,97,116,101],[97]]
 | .u1=>[[97],[98],[99]]
 | .u2=>[[115,117,112,101,114],[115,117,112,101,114],[83]]
 | .u3=>[[115,101,108,102],[120]]
noncomputable def zfK:U4→List Nat
 | .u0=>[97]
 | .u1=>[99]
 | .u2=>[83]
 | .u3=>[120]
noncomputable def asT:Bool→List Nat
 | true=>[32,97,115,32,111,116,104,101,114]
 | false=>[]
noncomputable def zak:It0→List Nat
 | .fn k=>zax k
 | .struct p g f=>(((zdG p++[115,116,114,117,99,116,32,83])++zi5 g)++zaC f)++zeP f
 | .enum p g e=>(((((zdG p++[101,110,117,109,32,69])++zi5 g)++[32,123,32])++zaB [44,32] (zi7 e))++zeQ e)++[32,125]
 | .impl g tr fs=>((((([105,109,112,108]++zi5 g)++[32])++trT tr)++[83,32,123,32])++zaB [32] (fs.list.map fun k=>zax (nb k)))++[32,125]
 | .trait p fs=>((zdG p++[116,114,97,105,116,32,84,114,32,123,32])++zaB [32] (fs.list.map zax))++[32,125]
 | .use p n al=>(((zdG p++[117,115,101,32])++zaB [58,58] (zmB n))++asT al)++[59]
 | .const p=>zdG p++[99,111,110,115,116,32,67,58,32,117,56,32,61,32,55,59]
noncomputable def zaK:It→List Nat
 | .base i=>zak i
 | .mod p is=>((zdG p++[109,111,100,32,109,32,123,32])++zaB [32] (is.list.map zak))++[32,125]

section
variable (z:V)
noncomputable def zbN (s:List Nat):V:=.tup [.str [112,97,116,104],z,.tup [.tup [.str s,.tup [],.tup []]]]
noncomputable def zdH:Bool→V
 | true=>.tup [.tup [.str [39,97]],.tup [.tup [.str [84],.tup [.tup [.tup [.str [67,111,112,121],.tup [],.tup []]]]]]]
 | false=>.tup [.tup [],.tup []]
noncomputable def zhi:SelfK→V
 | .no=>.none
 | .val=>.str [118,97,108,117,101]
 | .ref=>.str [114,101,102]
 | .mut=>.str [109,117,116]
noncomputable def zqw (s:List Nat):V:=.tup [.str [110,97,109,101],z,.str s,.bool false,.bool false,.none]
noncomputable def zmC:N3→List V
 | .n0=>[]
 | .n1=>[zqw z [97]]
 | .n2=>[zqw z [97],zqw z [98]]
noncomputable def zcT:N3→List V
 | .n0=>[]
 | .n1=>[.tup [zqw z [97],zbN z [117,56]]]
 | .n2=>[.tup [zqw z [97],zbN z [117,56]],.tup [zqw z [98],zbN z [117,56]]]
noncomputable def zsV:Bool→V
 | true=>zbN z [117,56]
 | false=>.none
noncomputable def seven:V:=.tup [.str [105,110,116],z,.int 7,.none]
noncomputable def zkY:Bool→V
 | true=>.none
 | false=>.tup [.str [98,108,111,99,107],z,.tup [],seven z]
noncomputable def zal (k:FnC):V:=.tup [.str [102,110],z,.str [102],zdH k.gen,zhi k.self,.tup (zcT z k.par),zsV z k.res,zkY z k.bare,.bool k.pub]
noncomputable def tyV:Bool→V
 | true=>.tup [.str [114,101,102],z,.none,.bool false,zbN z [84]]
 | false=>zbN z [117,56]
noncomputable def zdR (nm:List Nat) (f:Fld):V:=.tup [.str nm,tyV z f.ref,.bool f.pub]
noncomputable def zkZ:Bool→Bool→List Nat
 | true,true=>[120]
 | true,false=>[121]
 | false,true=>[48]
 | false,false=>[49]
noncomputable def zaM (named:Bool):FL→List V
 | .n0=>[]
 | .n1 a _=>[zdR z (zkZ named true) a]
 | .n2 a b _=>[zdR z (zkZ named true) a,zdR z (zkZ named false) b]
noncomputable def zbr:FormC→V
 | .unit=>.str [117,110,105,116]
 | .named _=>.str [110,97,109,101,100]
 | .tuple _=>.str [116,117,112,108,101]
noncomputable def zam:FormC→V
 | .unit=>.tup []
 | .named f=>.tup (zaM z true f)
 | .tuple f=>.tup (zaM z false f)
noncomputable def zby:EL→List V
 | .n0=>[]
 | .n1 a _=>[.tup [.str [65],zbr a,zam z a]]
 | .n2 a b _=>[.tup [.str [65],zbr a,zam z a],.tup [.str [66],zbr b,zam z b]]
noncomputable def trV:Bool→V
 | true=>.tup [.tup [.str [84,114],.tup [],.tup [zbN z [117,56]]]]
 | false=>.none
noncomputable def za9 (n:U4):List V:=(zmB n).map .str
noncomputable def alV:Bool→U4→V
 | true,_=>.str [111,116,104,101,114]
 | false,n=>.str (zfK n)
noncomputable def zaf:It0→V
 | .fn k=>zal z k
 | .struct p g f=>.tup [.str [115,116,114,117,99,116],z,.str [83],zdH g,zbr f,zam z f,.bool p]
 | .enum p g e=>.tup [.str [101,110,117,109],z,.str [69],zdH g,.tup (zby z e),.bool p]
 | .impl g tr fs=>.tup [.str [105,109,112,108],z,zdH g,trV z tr,zbN z [83],.tup (fs.list.map fun k=>zal z (nb k))]
 | .trait p fs=>.tup [.str [116,114,97,105,116],z,.str [84,114],zdH false,.tup (fs.list.map (zal z)),.bool p]
 | .use p n al=>.tup [.str [117,115,101],z,.tup (za9 n),alV al n,.bool p]
 | .const p=>.tup [.str [99,111,110,115,116],z,.str [67],zbN z [117,56],seven z,.bool p]
noncomputable def zar:It→V
 | .base i=>zaf z i
 | .mod p is=>.tup [.str [109,111,100],z,.str [109],.tup (is.list.map (zaf z)),.bool p]
end

noncomputable def nmT (s:List Nat):V:=.tup [.str zcs,.str s,.any,.none,.none]
noncomputable def sgT (s:List Nat):V:=.tup [.str zbu,.str s,.any,.none,.none]
noncomputable def rgT (s:List Nat):V:=.tup [.str [114,101,103,105,111,110],.str s,.any,.none,.none]
noncomputable def svT:V:=.tup [.str [105,110,116],.str [55],.any,.int 7,.none]
noncomputable def zlb:V:=.tup [.str zdV,.str [],.any,.none,.none]
noncomputable def zmD:Bool→List V
 | true=>[nmT [112,117,98]]
 | false=>[]
noncomputable def zgC:Bool→List V
 | true=>[sgT [60],rgT [39,97],sgT [44],nmT [84],sgT [58],nmT [67,111,112,121],sgT [62]]
 | false=>[]
noncomputable def zi8:Bool→List V
 | true=>[sgT [44]]
 | false=>[]
noncomputable def zqx:SelfK→List V
 | .no=>[]
 | .val=>[nmT [115,101,108,102]]
 | .ref=>[sgT [38],nmT [115,101,108,102]]
 | .mut=>[sgT [38],nmT [109,117,116],nmT [115,101,108,102]]
noncomputable def zrj (s:List Nat):List V:=[nmT s,sgT [58],nmT [117,56]]
noncomputable def zk0:SelfK→N3→Bool→List V
 | .no,.n0,_=>[]
 | .no,.n1,c=>zrj [97]++zi8 c
 | .no,.n2,c=>zrj [97]++(sgT [44]::(zrj [98]++zi8 c))
 | s,.n0,c=>zqx s++zi8 c
 | s,.n1,c=>zqx s++(sgT [44]::(zrj [97]++zi8 c))
 | s,.n2,c=>zqx s++(sgT [44]::(zrj [97]++(sgT [44]::(zrj [98]++zi8 c))))
noncomputable def zqy:Bool→List V
 | true=>[sgT [45,62],nmT [117,56]]
 | false=>[]
noncomputable def zi9:Bool→List V
 | true=>[sgT [59]]
 | false=>[sgT [123],svT,sgT [125]]
noncomputable def zja (k:FnC) (r:List V):List V:=nmT [102,110]::nmT [102]::(zgC k.gen++(sgT [40]::(zk0 k.self k.par k.com++(sgT [41]::(zqy k.res++(zi9 k.bare++r))))))
noncomputable def fnW (k:FnC) (r:List V):List V:=zmD k.pub++zja k r
noncomputable def tyW:Bool→List V
 | true=>[sgT [38],nmT [84]]
 | false=>[nmT [117,56]]
noncomputable def zqz (named:Bool) (nm:List Nat) (f:Fld):List V:=zmD f.pub++((match named with
 | true=>[nmT nm,sgT [58]]
 | false=>[])++tyW f.ref)
noncomputable def flW (named:Bool):FL→List V
 | .n0=>[]
 | .n1 a c=>zqz named [120] a++zi8 c
 | .n2 a b c=>zqz named [120] a++(sgT [44]::(zqz named [121] b++zi8 c))
noncomputable def zbI (f:FormC) (r:List V):List V:=match f with
 | .unit=>r
 | .named f=>sgT [123]::(flW true f++(sgT [125]::r))
 | .tuple f=>sgT [40]::(flW false f++(sgT [41]::r))
noncomputable def zb0:FormC→List V
 | .named _=>[]
 | _=>[sgT [59]]
noncomputable def elW (e:EL) (r:List V):List V:=match e with
 | .n0=>r
 | .n1 a c=>nmT [65]::zbI a (zi8 c++r)
 | .n2 a b c=>nmT [65]::zbI a (sgT [44]::nmT [66]::zbI b (zi8 c++r))
noncomputable def trW:Bool→List V
 | true=>[nmT [84,114],sgT [60],nmT [117,56],sgT [62],nmT [102,111,114]]
 | false=>[]
noncomputable def zed (fs:Up FnC) (r:List V):List V:=match fs with
 | .n0=>r
 | .n1 a=>fnW a r
 | .n2 a b=>fnW a (fnW b r)
noncomputable def ztv:U4→List V
 | .u0=>[nmT [99,114,97,116,101],sgT [58,58],nmT [97]]
 | .u1=>[nmT [97],sgT [58,58],nmT [98],sgT [58,58],nmT [99]]
 | .u2=>[nmT [115,117,112,101,114],sgT [58,58],nmT [115,117,112,101,114],sgT [58,58],nmT [83]]
 | .u3=>[nmT [115,101,108,102],sgT [58,58],nmT [120]]
noncomputable def asW:Bool→List V
 | true=>[nmT [97,115],nmT [111,116,104,101,114]]
 | false=>[]
noncomputable def zhz (i:It0) (r:List V):List V:=match i with
 | .fn k=>fnW k r
 | .struct p g f=>zmD p++(nmT [115,116,114,117,99,116]::nmT [83]::(zgC g++zbI f (zb0 f++r)))
 | .enum p g e=>zmD p++(nmT [101,110,117,109]::nmT [69]::(zgC g++(sgT [123]::elW e (sgT [125]::r))))
 | .impl g tr fs=>nmT [105,109,112,108]::(zgC g++(trW tr++(nmT [83]::sgT [123]::zed fs.nb (sgT [125]::r))))
 | .trait p fs=>zmD p++(nmT [116,114,97,105,116]::nmT [84,114]::sgT [123]::zed fs (sgT [125]::r))
 | .use p n al=>zmD p++(nmT [117,115,101]::(ztv n++(asW al++(sgT [59]::r))))
 | .const p=>zmD p++(nmT [99,111,110,115,116]::nmT [67]::sgT [58]::nmT [117,56]::sgT [61]::svT::sgT [59]::r)
noncomputable def zew (is:Up It0) (r:List V):List V:=match is with
 | .n0=>r
 | .n1 a=>zhz a r
 | .n2 a b=>zhz a (zhz b r)
noncomputable def itW (i:It) (r:List V):List V:=match i with
 | .base i=>zhz i r
 | .mod p is=>zmD p++(nmT [109,111,100]::nmT [109]::sgT [123]::zew is (sgT [125]::r))
end
section
theorem zrk {α:Type}{a b v:α}{n:Nat} (h:[a,b][n]?=some v):v=a∨v=b:=by
 match n,h with
 | 0,h=>exact .inl (Option.some.inj h).symm
 | 1,h=>exact .inr (Option.some.inj h).symm
theorem zvr {α:Type}{a b c v:α}{n:Nat} (h:[a,b,c][n]?=some v):v=a∨v=b∨v=c:=by
 match n,h with
 | 0,h=>exact .inl (Option.some.inj h).symm
 | 1,h=>exact .inr (.inl (Option.some.inj h).symm)
 | 2,h=>exact .inr (.inr (Option.some.inj h).symm)
theorem zuW {α:Type}{a b c d v:α}{n:Nat} (h:[a,b,c,d][n]?=some v):v=a∨v=b∨v=c∨v=d:=by
 match n,h with
 | 0,h=>exact .inl (Option.some.inj h).symm
 | 1,h=>exact .inr (.inl (Option.some.inj h).symm)
 | 2,h=>exact .inr (.inr (.inl (Option.some.inj h).symm))
 | 3,h=>exact .inr (.inr (.inr (Option.some.inj h).symm))

section
variable {c:C} (gs:List C)
theorem zcI (d:Nat) (hc:SC c) {vs:List V} (h0:vs≠[]) (hl:vs.length≤100) (hp:plains vs=true) :
  ∃ (n:Nat) (v:V) (c':C),SC c'∧vs[n]?=some v∧(EV (d+2)).call zif [.loc 0,.loc (gs.length+1)] (c::(gs++[.list vs]))=.ok v (c'::(gs++[.list vs])):=
 zsU d hc (gs:=gs++[.list vs]) (by simp) h0 hl hp

theorem zii (d:Nat) (hc:SC c):∃ p c',SC c'∧(EV (d+3)).call zi3 [.loc 0] (c::gs)=.ok (.str (zmA p)) (c'::gs):=by
 refine zdb (zcI [] d hc (vs:=[.str [],.str [44]]) (by trivial) (by trivial) rfl) fun n v c' hc' hv h=>?_
 have hr:zcC TB true (EV (d+2)) zc7 [.loc 0] [c]=.ok v [c',.list [.str [],.str [44]]]:=zdd (ρ:=[some (.loc 0)]) rfl (zaQ (ze7 h))
 refine Or.elim (zrk hv) ?_ ?_
 intro nm
 subst nm
 rotate_left
 intro nm
 subst nm
 rotate_left
 ·exact zdf false c' hc' (zat (fn:=zc7) rfl rfl hc.plain hr hc'.plain rfl)
 ·exact zdf true c' hc' (zat (fn:=zc7) rfl rfl hc.plain hr hc'.plain rfl)
noncomputable def ztw (p:Bool):V:=.tup [.str (zdG p),.bool p]
theorem zhj (d:Nat) (hc:SC c):∃ p c',SC c'∧(EV (d+3)).call zig [.loc 0] (c::gs)=.ok (.tup [.str (zdG p),.bool p]) (c'::gs):=by
 refine zdb (zcI [] d hc (vs:=[ztw true,ztw false]) (by trivial) (by trivial) rfl) fun n v c' hc' hv h=>?_
 have hr:zcC TB true (EV (d+2)) zev [.loc 0] [c]=.ok v [c',.list [ztw true,ztw false]]:=zdd (ρ:=[some (.loc 0)]) rfl (zaQ (ze7 h))
 refine Or.elim (zrk hv) ?_ ?_
 intro nm
 subst nm
 rotate_left
 intro nm
 subst nm
 rotate_left
 ·exact zdf true c' hc' (zat (fn:=zev) rfl rfl hc.plain hr hc'.plain rfl)
 ·exact zdf false c' hc' (zat (fn:=zev) rfl rfl hc.plain hr hc'.plain rfl)
noncomputable def gV (g:Bool):V:=.tup [.str (zi5 g),zdH g]
theorem zhk (d:Nat) (hc:SC c):∃ g c',SC c'∧(EV (d+3)).call zgc [.loc 0] (c::gs)=.ok (.tup [.str (zi5 g),zdH g]) (c'::gs):=by
 refine zdb (zcI [] d hc (vs:=[gV false,gV false,gV true]) (by trivial) (by trivial) rfl) fun n v c' hc' hv h=>?_
 have hr:zcC TB true (EV (d+2)) zbm [.loc 0] [c]=.ok v [c',.list [gV false,gV false,gV true]]:=zdd (ρ:=[some (.loc 0)]) rfl (zaQ (ze7 h))
 rcases zvr hv with rfl | rfl | rfl
 ·exact zdf false c' hc' (zat (fn:=zbm) rfl rfl hc.plain hr hc'.plain rfl)
 ·exact zdf false c' hc' (zat (fn:=zbm) rfl rfl hc.plain hr hc'.plain rfl)
 ·exact zdf true c' hc' (zat (fn:=zbm) rfl rfl hc.plain hr hc'.plain rfl)
end

theorem zgD:∀ l:List (List Nat),zdi (l.map .str)=some l
 | []=>rfl
 | s::l=>by
  show(match zdi (l.map .str) with
   | some l=>some (s::l)
   | none=>none)=_
  refine(zgD l).symm▸?_
  with_reducible rfl
section
variable {T:Tab}{prim:Bool}{lo:Lo}{ρ:Env}{σ σ1 σ2:List C}
theorem zdv {a b:E}{s:List Nat}{v:V}{l:List (List Nat)} (h:evE T prim lo a ρ σ=.ok (.str s) σ1) (h2:evE T prim lo b ρ σ1=.ok v σ2) (h3:zee σ2 v=some (l.map .str)) (hl:(l.map List.length).sum+l.length*s.length≤zaP) :
  evE T prim lo (.mth a .join (.cons b .nil)) ρ σ=.ok (.str (zaB s l)) σ2:=by
 show(evE T prim lo a ρ σ).bind _=_
 refine h.symm▸?_
 show(evEs T prim lo (.cons b .nil) ρ σ1).bind _=_
 refine(zag h2).symm▸?_
 show(match zee σ2 v with
  | some vs=>(match zdi vs with
   | some l=>if(l.map List.length).sum+l.length*s.length≤zaP then R.ok (V.str (zaB s l)) σ2 else .stuck
   | none=>.stuck)
  | none=>.stuck)=_
 refine h3.symm▸?_
 dsimp only
 rw[zgD]
 dsimp only
 refine(if_pos hl).symm▸?_
 with_reducible rfl
noncomputable def zjQ (r:R (Fl×Env)) (v:V) (σ:List C):Prop:=∃ ρ',r=.ok (.ret v,ρ') σ
theorem zap {s:S}{ss:Ss}{ρ ρ1:Env}{σ σ1 σ':List C}{v:V} (h:evS T prim lo s ρ σ=.ok (.next,ρ1) σ1) (h2:zjQ (evSs T prim lo ss ρ1 σ1) v σ'):zjQ (evSs T prim lo (.cons s ss) ρ σ) v σ':=by
 refine zaF h2 ?_
 clear h2
 intro ρ' h2
 exact⟨ρ',(zaj h).trans h2⟩
theorem fin {e:E}{ss:Ss}{ρ:Env}{σ σ':List C}{v:V} (h:evE T prim lo e ρ σ=.ok v σ'):zjQ (evSs T prim lo (.cons (.ret e) ss) ρ σ) v σ':=⟨ρ,zaQ (ze7 h)⟩
theorem zjb {t:E}{x y ss:Ss}{b:Bool}{ρ:Env}{σ σ1 σ':List C}{v:V} (h:evT T prim lo t ρ σ=.ok b σ1) (h2:zjQ (evSs T prim lo (zsT b x y) ρ σ1) v σ'):zjQ (evSs T prim lo (.cons (.ite t x y) ss) ρ σ) v σ':=by
 refine zaF h2 ?_
 clear h2
 intro ρ' h2
 exact⟨ρ',zaQ ((zaT h).trans h2)⟩
theorem zas {fn:Fn}{as:List V}{ρ:Env}{σ σ':List C}{v:V} (hn:zeZ fn as=some ρ) (h:zjQ (evSs T prim lo fn.body ρ σ) v σ'):zcC T prim lo fn as σ=.ok v σ':=by
 refine zaF h ?_
 clear h
 intro ρ' h
 exact zdd hn h
theorem zeR {cap:List Nat}{elt it:E}{u:V}{r:R V} (h:evE T prim lo it ρ σ=.ok u σ1) (h2:zkl lo cap elt ρ u σ1=r):evE T prim lo (.comp cap elt it) ρ σ=r:=by
 show(evE T prim lo it ρ σ).bind _=_
 refine h.symm▸?_; exact h2
theorem zor {a l k:E}{u v w:V}{σ3:List C}{r:R V} (h:evE T prim lo a ρ σ=.ok u σ1) (h2:evE T prim lo l ρ σ1=.ok v σ2) (h3:evE T prim lo k ρ σ2=.ok w σ3) (h4:slV σ3 u v w=r):evE T prim lo (.sl a l k) ρ σ=r:=by
 show(evE T prim lo a ρ σ).bind _=_
 refine h.symm▸?_
 show(evE T prim lo l ρ σ1).bind _=_
 refine h2.symm▸?_
 show(evE T prim lo k ρ σ2).bind _=_
 refine h3.symm▸?_; exact h4
end
theorem zaR (p:Bool):(zdG p).length≤4:=by induction p using Bool.casesOn <;> decide
theorem zcx (p:Bool):(zi5 p).length≤13:=by induction p using Bool.casesOn <;> decide
theorem zfi (p:Bool):(zmA p).length≤1:=by induction p using Bool.casesOn <;> decide
theorem zjR (p:Bool):(zoq p).length≤6:=by induction p using Bool.casesOn <;> decide
theorem zij (p:Bool):(zhh p).length≤6:=by induction p using Bool.casesOn <;> decide
theorem zmE (p:Bool):(tyT p).length≤2:=by induction p using Bool.casesOn <;> decide
theorem zjS (s:SelfK) (n:N3) (p:Bool):(zri s n p).length≤1:=by induction s using SelfK.casesOn <;> induction n using Lake.N3.casesOn <;> induction p using Bool.casesOn <;> decide
theorem zjT (s:SelfK) (n:N3):(zaB [44,32] (znr s n)).length≤40:=by induction s using SelfK.casesOn <;> induction n using Lake.N3.casesOn <;> decide

noncomputable def zeS (s:SelfK):V:=.tup [.str (zqv s),zhi s]
noncomputable def zik (r:Bool):V:=.tup [.str (zoq r),zsV (.int 0) r]
noncomputable def zvs (bare:Bool) (p g:Bool) (s:SelfK) (pa tx re bo:V):Env:=
 [some (.loc 0),some (.bool bare),some (.str (zdG p)),some (.bool p),some (.tup [.str (zi5 g),zdH g]),some (zeS s),some pa,some tx,some re,some bo,none,none]
noncomputable def zrl (n:N3):List V:=match n with
 | .n0=>[]
 | .n1=>[.str [97]]
 | .n2=>[.str [97],.str [98]]
noncomputable def sfL:List V:=[zeS .no,zeS .val,zeS .ref,zeS .mut]
noncomputable def abL:List V:=[.str [97],.str [98]]

noncomputable def zos:SelfK→List V
 | .no=>[]
 | s=>[.str (zqv s)]

noncomputable def ztx:List V:=[zik false,zik true]
noncomputable def stA (c:C) (s:SelfK) (n:N3):List C:=[c,.list sfL,.list abL,.list (zrl n),.list (zmC (.int 0) n),.list (zos s),.list ((zkW n).map .str),.list ((znr s n).map .str)]
noncomputable def stF (c:C) (s:SelfK) (n:N3):List C:=[c,.list sfL,.list abL,.list (zrl n),.list (zmC (.int 0) n),.list (zos s),.list ((zkW n).map .str),.list ((znr s n).map .str),.list ztx]
theorem zfL (k:FnC):(zeO k).length≤100:=by
 have l1:=zaR k.pub
 have l2:=zcx k.gen
 have l3:=zjT k.self k.par
 have l4:=zjS k.self k.par k.com
 have l5:=zjR k.res
 unfold zeO
 exact Nat.le_trans (by repeat' first | assumption | apply zbq | exact Nat.le_refl _) (by decide)
theorem zbW (g:Bool):plain (zdH g)=true:=by induction g using Bool.casesOn <;> rfl
theorem zjc (s:SelfK):plain (zhi s)=true:=by induction s using SelfK.casesOn <;> rfl
theorem zaV {z:V} (hz:plain z=true) (k:FnC):plain (zal z k)=true:=by
 obtain⟨p,g,s,n,q,r,b⟩:=k
 have h1:=zbW g
 have h2:=zjc s
 have h3:plains (zcT z n)=true:=by induction n using Lake.N3.casesOn <;> simp[zcT,plains,plain,zqw,zbN,hz]
 have h4:plain (zsV z r)=true:=by induction r using Bool.casesOn <;> simp[zsV,plains,plain,zbN,hz]
 have h5:plain (zkY z b)=true:=by induction b using Bool.casesOn <;> simp[zkY,plains,plain,seven,hz]
 simp[zal,plain,plains,h1,h2,h3,h4,h5,hz]
theorem zjd (d:Nat) {c:C} (hc:SC c) (bare:Bool) (gs:List C):∃ k c',SC c'∧k.bare=bare ∧
  (EV (d+5)).call zgd [.loc 0,.bool bare] (c::gs)=.ok (.loc (gs.length+1)) (c'::(gs++[.list [.str (zax k),zal (.int 0) k]])):=by
 refine zaZ (zhj [] (d+1) hc) fun p c1 hc1 h1=>?_
 refine zaZ (zhk [] (d+1) hc1) fun g c2 hc2 h2=>?_
 refine zdb (zcI [] (d+2) hc2 (vs:=sfL) (by trivial) (by trivial) rfl) fun n3 v3 c3 hc3 hv3 h3=>?_
 obtain⟨s,rfl⟩:∃ s,v3=zeS s:=by rcases zuW hv3 with rfl | rfl | rfl | rfl <;> exact⟨_,rfl⟩
 refine zc0 (zbV (d+3) hc3 (top:=3) (by decide) (by decide) [.list sfL,.list abL]) fun n4 c4 hc4 hn4 h4=>?_
 obtain⟨n,hn⟩:∃ n:N3,(n4:Nat)=(match n with | .n0=>0 | .n1=>1 | .n2=>2):=by
  rcases(show n4=0∨n4=1∨n4=2 by omega) with rfl | rfl | rfl
  ·exact⟨.n0,rfl⟩
  ·exact⟨.n1,rfl⟩
  ·exact⟨.n2,rfl⟩
 refine zdb (zcI [.list sfL,.list abL,.list (zrl n),.list (zmC (.int 0) n),.list (zos s),.list ((zkW n).map .str),.list ((znr s n).map .str)] (d+2) hc4 (vs:=ztx) (by trivial) (by trivial) rfl) fun n5 v5 c5 hc5 hv5 h5=>?_
 obtain⟨r,rfl⟩:∃ r,v5=zik r:=by rcases zrk hv5 with rfl | rfl <;> exact⟨_,rfl⟩
 obtain⟨q,c6,hc6,h6⟩:∃ q c6,SC c6∧evE TB true (EV (d+4)) (.ite (.cmp .NotEq (.x 7) (.lst .nil)) (.call 65 (.cons (.x 0) .nil)) (.c (.str []))) (zvs bare p g s (.loc 4) (.loc 7) (zik r) (zkY (.int 0) bare)) (stF c5 s n)=.ok (.str (zri s n q)) (stF c6 s n++[.list []]):=by
  by_cases hz:(s=.no∧n=.n0)
  ·refine zaW hz ?_
   clear hz
   intro ee0 ee1
   subst ee0
   subst ee1
   exact zdf false c5 hc5 (by kernel_rfl)
  ·refine zaZ (zii [.list sfL,.list abL,.list (zrl n),.list (zmC (.int 0) n),.list (zos s),.list ((zkW n).map .str),.list ((znr s n).map .str),.list ztx,.list []] (d+1) hc5) fun q c6 hc6 h6=>?_
   refine zdf q c6 hc6 (zcH (q:=true) (σ1:=stF c5 s n++[.list []]) ?_ ?_)
   ·induction s using SelfK.casesOn <;> induction n using Lake.N3.casesOn <;> first | (exact absurd ⟨rfl,rfl⟩ hz) | kernel_rfl
   ·refine(zad (zag rfl) h6).trans ?_
    induction s using SelfK.casesOn <;> induction n using Lake.N3.casesOn <;> first | (exact absurd ⟨rfl,rfl⟩ hz) | rfl
 refine zki (⟨p,g,s,n,q,r,bare⟩) c6 hc6 rfl ?_
 have hr:zcC TB true (EV (d+4)) zcF [.loc 0,.bool bare] [c]=.ok (.loc 11) (stF c6 s n++[.list [],.list (zcT (.int 0) n),.list [.str (zax ⟨p,g,s,n,q,r,bare⟩),zal (.int 0) ⟨p,g,s,n,q,r,bare⟩]]):=by
  refine zas (ρ:=[some (.loc 0),some (.bool bare),none,none,none,none,none,none,none,none,none,none]) rfl ?_
  refine zap (zbU (zad (vs:=[.loc 0]) (zag rfl) h1) rfl) ?_
  refine zap (zbU (zaU (zac (zad (vs:=[.loc 0]) (zag rfl) h2) (zag (zad (vs:=[.loc 0,.loc 1]) (σ1:=[c2,.list sfL]) (zac rfl (zag rfl)) h3))) (by simp[LIM])) rfl) ?_
  refine zap (zav (v:=.loc 4) (σ1:=[c4,.list sfL,.list abL,.list (zrl n),.list (zmC (.int 0) n)]) (zeR (u:=.loc 3) (σ1:=[c4,.list sfL,.list abL,.list (zrl n)]) (zor (u:=.loc 2) (v:=.none) (w:=.int n4) (σ1:=[c3,.list sfL,.list abL]) (σ2:=[c3,.list sfL,.list abL]) (σ3:=[c4,.list sfL,.list abL]) rfl rfl (zad (vs:=[.loc 0,.int 3]) (zac rfl (zag rfl)) h4) ?_) ?_) (by simp)) ?_
  ·refine hn.symm▸?_; induction n using Lake.N3.casesOn <;> rfl
  ·induction n using Lake.N3.casesOn <;> kernel_rfl
  refine zap (zav (v:=.loc 7) (σ1:=stA c4 s n) ?_ (by simp)) ?_
  ·induction s using SelfK.casesOn <;> induction n using Lake.N3.casesOn <;> kernel_rfl
  refine zap (zav (v:=zik r) (σ1:=stF c5 s n) (zad (vs:=[.loc 0,.loc 8]) (σ1:=stF c4 s n) (zac rfl (zag ?_)) h5) (by simp)) ?_
  ·refine zcp (vs:=ztx) (σ1:=stA c4 s n) ?_ (by trivial)
   refine zac rfl (zag (zaU (zac rfl (zag (zad (zag rfl) (zhg (d+3) _ _)))) (by trivial)))
  refine zap (zav (v:=zkY (.int 0) bare) (σ1:=stF c5 s n) ?_ (by simp)) ?_
  ·induction bare using Bool.casesOn <;> rfl
  refine zap (zav (v:=.str (zeO ⟨p,g,s,n,q,r,bare⟩)) (σ1:=stF c6 s n++[.list []]) ?_ (by simp)) ?_
  ·have l1:=zaR p
   have l2:=zcx g
   have l3:=zjT s n
   have l4:=zjS s n q
   have l5:=zjR r
   refine add_str (σ1:=stF c6 s n++[.list []]) (add_str (σ1:=stF c6 s n++[.list []]) (add_str (σ1:=stF c5 s n) (add_str (σ1:=stF c5 s n) (add_str (σ1:=stF c5 s n) (add_str (σ1:=stF c5 s n) (add_str (x:=zdG p) (σ1:=stF c5 s n) rfl rfl ?_) (zbg (σ1:=stF c5 s n) rfl rfl rfl) ?_) rfl ?_) (zdv (v:=.loc 7) (l:=znr s n) (σ1:=stF c5 s n) rfl rfl rfl ?_) ?_) (by exact h6) ?_) rfl ?_) (zbg (σ1:=stF c6 s n++[.list []]) rfl rfl rfl) ?_
   case refine_4=>induction s using SelfK.casesOn <;> induction n using Lake.N3.casesOn <;> decide
   all_goals exact Nat.le_trans (by repeat' first | assumption | apply zbq | exact Nat.le_refl _) (by decide)
  refine zap (zav (v:=.tup (zcT (.int 0) n)) (σ1:=stF c6 s n++[.list [],.list (zcT (.int 0) n)]) ?_ (by simp)) ?_
  ·induction s using SelfK.casesOn <;> induction n using Lake.N3.casesOn <;> kernel_rfl
  refine fin ?_
  refine Eq.trans (zcp (vs:=[.str (zax ⟨p,g,s,n,q,r,bare⟩),zal (.int 0) ⟨p,g,s,n,q,r,bare⟩]) (σ1:=stF c6 s n++[.list [],.list (zcT (.int 0) n)]) (zac (σ1:=stF c6 s n++[.list [],.list (zcT (.int 0) n)]) (add_str (x:=zeO ⟨p,g,s,n,q,r,bare⟩) (y:=zhh bare) (σ1:=stF c6 s n++[.list [],.list (zcT (.int 0) n)]) rfl ?_ ?_) (zag (v:=zal (.int 0) ⟨p,g,s,n,q,r,bare⟩) (by kernel_rfl))) (by simp[LIM])) (by kernel_rfl)
  ·induction bare using Bool.casesOn <;> rfl
  ·have:=zfL ⟨p,g,s,n,q,r,bare⟩
   have:=zij bare
   simp only[List.length_append]; unfold zaP; omega
 exact zcS (fn:=zcF) (k:=11) rfl rfl hc.plain hr hc6.plain rfl rfl (by show(true&&(plain (zal (.int 0) ⟨p,g,s,n,q,r,bare⟩)&&true))=true; rw[zaV rfl]; rfl)
end
section
theorem zqA {n:Nat} (h:(n:Int) < 3):∃ k:N3,n=(match k with | .n0=>0 | .n1=>1 | .n2=>2):=by
 rcases(show n=0∨n=1∨n=2 by omega) with rfl | rfl | rfl
 ·exact⟨.n0,rfl⟩
 ·exact⟨.n1,rfl⟩
 ·exact⟨.n2,rfl⟩

noncomputable def zje (r:Bool):V:=.tup [.str (tyT r),tyV (.int 0) r]
noncomputable def tyL:List V:=[zje false,zje true]
noncomputable def zeT:Ss:=match zcw.body with
 | .cons _ (.cons (.for_ _ _ b) _)=>b
 | _=>.nil
noncomputable def zqB (nmd:Bool) (nm:List Nat) (f:Fld):Env:=[some (.loc 0),some (.bool nmd),some (.loc 1),some (.loc 2),some (.str nm),some (.str (zdG f.pub)),some (.bool f.pub),some (zje f.ref),none]
theorem zot {lo:Lo}{ρ:Env}{σ:List C}{rows:List V} (h1:ρ[2]?=some (some (.loc 1))) (h2:σ[1]?=some (.list rows)) (hl:rows.length≤9) :
  evE TB true lo (.bi .str (.cons (.bi .len (.cons (.x 2) .nil)) .nil)) ρ σ=.ok (.str [48+rows.length]) σ:=by
 have e0:evE TB true lo (.x 2) ρ σ=.ok (.loc 1) σ:=by
  show zkm ρ 2 σ=_
  unfold zkm; refine h1.symm▸?_; with_reducible rfl
 have e1:evE TB true lo (.bi .len (.cons (.x 2) .nil)) ρ σ=.ok (.int rows.length) σ:=by
  show(evEs TB true lo (.cons (.x 2) .nil) ρ σ).bind _=_
  refine(zag e0).symm▸?_
  show(match (match σ[1]? with
   | some (C.list vs)=>if vs.length≤zaP then some vs.length else none
   | _=>none) with
   | some n=>R.ok (V.int n) σ
   | none=>.stuck)=_
  refine h2.symm▸?_; dsimp only; rw[if_pos (by unfold zaP; exact Nat.le_trans ‹_› (by decide))]
 show(evEs TB true lo (.cons (.bi .len (.cons (.x 2) .nil)) .nil) ρ σ).bind _=_
 refine(zag e1).symm▸?_
 show(if 0≤(rows.length:Int)∧(rows.length:Int)≤9 then R.ok (V.str [48+(rows.length:Int).toNat]) σ else .stuck)=_
 rw[if_pos (by omega)]; rfl
theorem zbJ {T:Tab}{prim:Bool}{lo:Lo}{ρ:Env}{σ σ1 σ2:List C}{a b:E}{k:Nat}{v:V}{vs ws:List V} (h:evE T prim lo a ρ σ=.ok (.loc k) σ1) (hk:σ1[k]?=some (.list ws)) (h2:evE T prim lo b ρ σ1=.ok v σ2) (hk2:σ2[k]?=some (.list vs)) (hl:vs.length < LIM) :
  evE T prim lo (.mth a .append (.cons b .nil)) ρ σ=.ok .none (σ2.set k (.list (vs++[v]))):=by
 show(evE T prim lo a ρ σ).bind _=_
 refine h.symm▸?_
 show(match σ1[k]? with
  | some (C.list _)=>R.ok () σ1
  | _=>.stuck).bind _=_
 refine hk.symm▸?_
 show(evEs T prim lo (.cons b .nil) ρ σ1).bind _=_
 refine(zag h2).symm▸?_
 show(match σ2[k]? with
  | some (C.list vs)=>if vs.length < LIM then R.ok V.none (σ2.set k (.list (vs++[v]))) else .stuck
  | _=>.stuck)=_
 refine hk2.symm▸?_; dsimp only; refine(if_pos hl).symm▸?_; with_reducible rfl

theorem zbs (nmd:Bool) (nm:List Nat) (f:Fld) (h:nm.length≤1):(zb7 nmd nm f).length≤9:=by
 have:=zaR f.pub
 have:=zmE f.ref
 unfold zb7
 induction nmd using Bool.casesOn <;> simp[zjP] <;> omega

noncomputable def zjf:Bool→List Nat→Nat→List Nat
 | true,nm,_=>nm
 | false,_,k=>[48+k]
theorem zhl (d:Nat) {c:C} (hc:SC c) (nmd:Bool) (nm:List Nat) (hn:nm.length≤1) (rows:List V) (txts:List (List Nat)) (gs:List C) (v5 v6 v7:Option V) (hr:rows.length≤2) (hx:txts.length≤2) :
  ∃ f c' g,SC c'∧(EV (d+4)).st zeT [some (.loc 0),some (.bool nmd),some (.loc 1),some (.loc 2),some (.str nm),v5,v6,v7,none] (c::.list rows::.list (txts.map .str)::gs) =
   .ok (.next,zqB nmd nm f) (c'::.list (rows++[zdR (.int 0) (zjf nmd nm rows.length) f])::.list ((txts++[zb7 nmd nm f]).map .str)::(gs++[g])):=by
 refine zaZ (zhj (.list rows::.list (txts.map .str)::gs) d hc) fun p c1 hc1 h1=>?_
 refine zdb (zcI (.list rows::.list (txts.map .str)::gs) (d+1) hc1 (vs:=tyL) (by trivial) (by trivial) rfl) fun n2 v2 c2 hc2 hv2 h2=>?_
 obtain⟨r,rfl⟩:∃ r,v2=zje r:=by rcases zrk hv2 with rfl | rfl <;> exact⟨_,rfl⟩
 refine znu (⟨p,r⟩) c2 (.list tyL) hc2 ?_
 show evSs TB true (EV (d+3)) zeT _ _=_
 have e1:evS TB true (EV (d+3)) (.asgT [5,6] (.call 66 (.cons (.x 0) .nil))) [some (.loc 0),some (.bool nmd),some (.loc 1),some (.loc 2),some (.str nm),v5,v6,v7,none] (c::.list rows::.list (txts.map .str)::gs) =
   .ok (.next,[some (.loc 0),some (.bool nmd),some (.loc 1),some (.loc 2),some (.str nm),some (.str (zdG p)),some (.bool p),v7,none]) (c1::.list rows::.list (txts.map .str)::gs):=zbU (zad (vs:=[.loc 0]) (zag rfl) h1) rfl
 refine(zaj e1).trans ?_
 refine(zaj (zav (v:=zje r) (σ1:=c2::.list rows::.list (txts.map .str)::(gs++[.list tyL])) (zad (vs:=[.loc 0,.loc (gs.length+1+1+1)]) (σ1:=c1::.list rows::.list (txts.map .str)::(gs++[.list tyL])) (zac rfl (zag ?_)) h2) (by simp))).trans ?_
 ·exact zcp (vs:=tyL) (σ1:=c1::.list rows::.list (txts.map .str)::gs) (zac (zaU (zac rfl (zag (zad (zag rfl) (zhg (d+2) _ _)))) (by trivial)) (zag (zaU (zac rfl (zag (zaU (zac rfl (zac rfl (zac rfl (zac rfl (zag (zad (zag rfl) (zhg (d+2) _ _))))))) (by trivial)))) (by trivial)))) (by trivial)
 have e3:evE TB true (EV (d+3)) (.tup (.cons (.ite (.x 1) (.x 4) (.bi .str (.cons (.bi .len (.cons (.x 2) .nil)) .nil))) (.cons (.sub (.x 7) (.c (.int 1))) (.cons (.x 6) .nil)))) (zqB nmd nm ⟨p,r⟩) (c2::.list rows::.list (txts.map .str)::(gs++[.list tyL])) =
   .ok (zdR (.int 0) (zjf nmd nm rows.length) ⟨p,r⟩) (c2::.list rows::.list (txts.map .str)::(gs++[.list tyL])):=by
  refine zaU (zac (zcH (q:=nmd) rfl ?_) (zac rfl (zag rfl))) (by simp[LIM])
  induction nmd using Bool.casesOn
  ·exact zot rfl rfl (by exact Nat.le_trans ‹_› (by decide))
  ·rfl
 refine(zaj (zc8 (zbJ (k:=1) (ws:=rows) rfl rfl e3 rfl (by unfold LIM; omega)))).trans ?_
 have lf:=zbs nmd nm ⟨p,r⟩ hn
 have e4:∀ σ,evE TB true (EV (d+3)) (.bin .Add (.bin .Add (.x 5) (.ite (.x 1) (.bin .Add (.x 4) (.c (.str [58,32]))) (.c (.str [])))) (.sub (.x 7) (.c (.int 0)))) (zqB nmd nm ⟨p,r⟩) σ=.ok (.str (zb7 nmd nm ⟨p,r⟩)) σ:=by
  intro σ
  have:=zaR p
  have:=zmE r
  refine add_str (x:=zdG p++zjP nmd nm) (y:=tyT r) (σ1:=σ) (add_str (x:=zdG p) (σ1:=σ) rfl (zcH (q:=nmd) (σ1:=σ) rfl ?_) ?_) (zbg (u:=zje r) (w:=.int 0) (σ1:=σ) rfl rfl rfl) ?_
  ·induction nmd using Bool.casesOn
   ·rfl
   ·exact add_str rfl rfl (by simp; unfold zaP; omega)
  ·induction nmd using Bool.casesOn <;> simp[zjP] <;> unfold zaP <;> omega
  ·unfold zb7 at lf; unfold zaP; dsimp only at lf; exact Nat.le_trans ‹_› (by decide)
 refine(zaj (zc8 (zbJ (k:=2) (ws:=txts.map .str) (vs:=txts.map .str) (σ1:=c2::.list (rows++[zdR (.int 0) (zjf nmd nm rows.length) ⟨p,r⟩])::.list (txts.map .str)::(gs++[.list tyL])) (by rfl) rfl (e4 _) rfl (by simp; unfold LIM; omega)))).trans ?_
 refine List.map_append.symm▸?_
 rfl

theorem zcy {T:Tab}{prim:Bool}{lo:Lo}{i n j:Nat}{b:Ss}{src:Src}{v:V}{ρ ρ1:Env}{σ σ1:List C} (h:zef σ src j=some (some v)) (h2:lo.st b (ρ.set i (some v)) σ=.ok (.next,ρ1) σ1):zgU lo i b src (n+1) j ρ σ=zgU lo i b src n (j+1) ρ1 σ1:=by
 conv=>lhs; unfold zgU
 rw[h]; dsimp only; rw[h2]
theorem zeb {lo:Lo}{i n j:Nat}{b:Ss}{src:Src}{ρ:Env}{σ:List C} (h:zef σ src j=some none):zgU lo i b src (n+1) j ρ σ=.ok (.next,ρ) σ:=by
 unfold zgU
 rw[h]
theorem zjU {T:Tab}{prim:Bool}{lo:Lo}{i:Nat}{it:E}{b:Ss}{u:V}{src:Src}{ρ:Env}{σ σ1:List C}{r:R (Fl×Env)} (h:evE T prim lo it ρ σ=.ok u σ1) (hs:zdY σ1 u=some src) (hi:i < ρ.length) (h2:zgU lo i b src zbb 0 ρ σ1=r):evS T prim lo (.for_ i it b) ρ σ=r:=by
 show(evE T prim lo it ρ σ).bind _=_
 refine h.symm▸?_
 show(ofOpt σ1 (zdY σ1 u)).bind _=_
 refine hs.symm▸?_
 show(if i < ρ.length then zgU lo i b src zbb 0 ρ σ1 else .stuck)=_
 refine(if_pos hi).symm▸?_; exact h2
noncomputable def xyL:List V:=[.str [120],.str [121]]
noncomputable def xyN (k:N3):List V:=match k with
 | .n0=>[]
 | .n1=>[.str [120]]
 | .n2=>[.str [120],.str [121]]
noncomputable def zty (nmd:Bool):FL→Env
 | .n0=>[some (.loc 0),some (.bool nmd),some (.loc 1),some (.loc 2),none,none,none,none,none]
 | .n1 a _=>zqB nmd [120] a
 | .n2 _ b _=>zqB nmd [121] b
noncomputable def FL.isN (k:N3):FL→Prop
 | .n0=>k=.n0
 | .n1 _ q=>k=.n1∧q=false
 | .n2 _ _ q=>k=.n2∧q=false
theorem zmF (d:Nat) {c:C} (hc:SC c) (nmd:Bool) (k:N3):∃ (f:FL) (c':C) (gs:List C),SC c'∧f.isN k ∧
  zgU (EV (d+4)) 4 zeT (.cell 4) zbb 0 [some (.loc 0),some (.bool nmd),some (.loc 1),some (.loc 2),none,none,none,none,none] [c,.list [],.list [],.list xyL,.list (xyN k)]=.ok (.next,zty nmd f) (c'::.list (zaM (.int 0) nmd f)::.list ((zi6 nmd f).map .str)::gs):=by
 induction k using Lake.N3.casesOn with
 | n0=>exact znv .n0 c ([.list xyL,.list []]) hc rfl (zeb (n:=4001) rfl)
 | n1=>
  refine zgT (zhl d hc nmd [120] (by decide) [] [] [.list xyL,.list [.str [120]]] none none none (by decide) (by decide)) fun f1 c1 g1 hc1 h1=>?_
  have e1:=zcy (T:=TB) (prim:=true) (i:=4) (n:=4001) (j:=0) (b:=zeT) (src:=.cell 4) (v:=.str [120]) (ρ:=[some (.loc 0),some (.bool nmd),some (.loc 1),some (.loc 2),none,none,none,none,none]) rfl h1
  have r0:zjf nmd [120] 0=zkZ nmd true:=by induction nmd using Bool.casesOn <;> rfl
  refine znv (.n1 f1 false) c1 ([.list xyL,.list [.str [120]],g1]) hc1 (⟨rfl,rfl⟩) (e1.trans ((zeb (n:=4000) (by rfl)).trans ?_))
  simp only[List.length_nil,r0]; rfl
 | n2=>
  refine zgT (zhl d hc nmd [120] (by decide) [] [] [.list xyL,.list [.str [120],.str [121]]] none none none (by decide) (by decide)) fun f1 c1 g1 hc1 h1=>?_
  have e1:=zcy (T:=TB) (prim:=true) (i:=4) (n:=4001) (j:=0) (b:=zeT) (src:=.cell 4) (v:=.str [120]) (ρ:=[some (.loc 0),some (.bool nmd),some (.loc 1),some (.loc 2),none,none,none,none,none]) rfl h1
  refine zgT (zhl d hc1 nmd [121] (by decide) [zdR (.int 0) (zjf nmd [120] 0) f1] [zb7 nmd [120] f1] [.list xyL,.list [.str [120],.str [121]],g1] (some (.str (zdG f1.pub))) (some (.bool f1.pub)) (some (zje f1.ref)) (by exact Nat.succ_pos _) (by exact Nat.succ_pos _)) fun f2 c2 g2 hc2 h2=>?_
  have e2:=zcy (T:=TB) (prim:=true) (i:=4) (n:=4000) (j:=1) (b:=zeT) (src:=.cell 4) (v:=.str [121]) (ρ:=zqB nmd [120] f1) rfl h2
  have r0:zjf nmd [120] 0=zkZ nmd true:=by induction nmd using Bool.casesOn <;> rfl
  have r1:zjf nmd [121] 1=zkZ nmd false:=by induction nmd using Bool.casesOn <;> rfl
  refine znv (.n2 f1 f2 false) c2 ([.list xyL,.list [.str [120],.str [121]],g1,g2]) hc2 (⟨rfl,rfl⟩) (e1.trans (e2.trans ((zeb (n:=3999) (by rfl)).trans ?_)))
  simp only[List.length_nil,List.length_cons,r0]
  refine(show(0+1:Nat)=1 from rfl).symm▸?_; refine r1.symm▸?_; rfl
end
section
theorem zbo {T:Tab}{prim:Bool}{lo:Lo}{ρ:Env}{σ:List C}{i:Nat}{v:V} (h:ρ[i]?=some (some v)):evE T prim lo (.x i) ρ σ=.ok v σ:=by
 show zkm ρ i σ=_
 unfold zkm; refine h.symm▸?_; with_reducible rfl
theorem zmG {T:Tab}{prim:Bool}{lo:Lo}{ρ:Env}{σ:List C}{i k:Nat}{vs:List V} (h:ρ[i]?=some (some (.loc k))) (hk:σ[k]?=some (.list vs)):evT T prim lo (.cmp .NotEq (.x i) (.lst .nil)) ρ σ=.ok (!vs.isEmpty) (σ++[.list []]):=by
 refine za8 (zbo h) (zcp zpl (by trivial)) ?_
 have hk':(σ++[C.list []])[k]?=some (.list vs):=by refine(List.getElem?_append_left (List.getElem?_eq_some_iff.mp hk).1).symm▸?_; exact hk
 have hl:(σ++[C.list []])[σ.length]?=some (.list []):=by simp
 show(match (match (σ++[C.list []])[k]? with
  | some (C.list vs)=>some vs
  | _=>none),(match (σ++[C.list []])[σ.length]? with
  | some (C.list vs)=>some vs
  | _=>none) with
  | some [],some []=>some false
  | some (_::_),some []=>some true
  | _,_=>none)=_
 refine hk'.symm▸?_
 refine hl.symm▸?_
 induction vs using List.casesOn <;> rfl
noncomputable def zuh:List V→Bool→List Nat
 | [],_=>[]
 | _::_,q=>zmA q
theorem zjV (d:Nat) {c:C} (hc:SC c) {gs:List C}{ρ:Env}{i k:Nat}{vs:List V} (h0:ρ[0]?=some (some (.loc 0))) (h:ρ[i]?=some (some (.loc (k+1)))) (hk:gs[k]?=some (.list vs)) :
  ∃ q c',SC c'∧evE TB true (EV (d+3)) (.ite (.cmp .NotEq (.x i) (.lst .nil)) (.call 65 (.cons (.x 0) .nil)) (.c (.str []))) ρ (c::gs)=.ok (.str (zuh vs q)) (c'::(gs++[.list []])):=by
 have e:=zmG (T:=TB) (prim:=true) (lo:=EV (d+3)) (σ:=c::gs) h hk
 induction vs using List.casesOn with
 | nil=>exact zdf false c hc (zcH e rfl)
 | cons v vs=>
  refine zaZ (zii (gs++[.list []]) d hc) fun q c' hc' h1=>?_
  exact zdf q c' hc' (zcH e (zad (zag (zbo h0)) h1))
theorem zbK {T:Tab}{prim:Bool}{lo:Lo}{ρ:Env}{σ σ1:List C}{k:Nat}{vs:List V}{a:E} (h:evE T prim lo a ρ σ=.ok (.loc k) σ1) (hk:σ1[k]?=some (.list vs)) (hl:vs.length≤LIM):evE T prim lo (.bi .tuple (.cons a .nil)) ρ σ=.ok (.tup vs) σ1:=by
 show(evEs T prim lo (.cons a .nil) ρ σ).bind _=_
 refine(zag h).symm▸?_
 show(match (match σ1[k]? with
  | some (C.list vs)=>some vs
  | _=>none) with
  | some vs=>if vs.length≤LIM then R.ok (V.tup vs) σ1 else .stuck
  | none=>.stuck)=_
 refine hk.symm▸?_; dsimp only; refine(if_pos hl).symm▸?_; with_reducible rfl

noncomputable def FL.set (q:Bool):FL→FL
 | .n0=>.n0
 | .n1 a _=>.n1 a q
 | .n2 a b _=>.n2 a b q
theorem zcU (nmd:Bool) (f:FL):(zbx nmd f).length≤30:=by
 unfold zbx
 induction f using FL.casesOn with
 | n0=>induction nmd using Bool.casesOn <;> decide
 | n1 a q=>
  have:=zbs nmd [120] a (by decide)
  have:=zfi q
  simp only[zi6,zkX,zaB,List.length_append]; omega
 | n2 a b q=>
  have:=zbs nmd [120] a (by decide)
  have:=zbs nmd [121] b (by decide)
  have:=zfi q
  simp only[zi6,zkX,zaB,List.length_append,List.length_cons,List.length_nil]; omega
theorem zmH {z:V} (hz:plain z=true) (r:Bool):plain (tyV z r)=true:=by induction r using Bool.casesOn <;> simp[tyV,zbN,plain,plains,hz]
theorem zcz {z:V} (hz:plain z=true) (nmd:Bool) (f:FL):plains (zaM z nmd f)=true:=by
 induction f using FL.casesOn <;> simp[zaM,zdR,plain,plains,zmH hz]
theorem zfM (f:FormC):plain (zbr f)=true:=by induction f using FormC.casesOn <;> rfl
theorem zdS {z:V} (hz:plain z=true) (f:FormC):plain (zam z f)=true:=by
 induction f using FormC.casesOn <;> simp[zam,plain,plains,zcz hz]

theorem zjW (d:Nat) {c:C} (hc:SC c) (nmd:Bool) (gs0:List C):∃ f c',SC c' ∧
  (EV (d+5)).call zih [.loc 0,.bool nmd] (c::gs0)=.ok (.loc (gs0.length+1)) (c'::(gs0++[.list [.str (zbx nmd f),.tup (zaM (.int 0) nmd f)]])):=by
 refine bc fun hN=>?_
 refine zc0 (zbV (d+3) hc (top:=3) (by decide) (by decide) [.list [],.list [],.list xyL]) fun n1 c1 hc1 hn1 h1=>?_
 obtain⟨k,hk⟩:=zqA hn1
 refine zdb (zmF d hc1 nmd k) fun f c2 gs hc2 hfk h2=>?_
 refine hN ?_
 refine zaZ (zjV (d+1) hc2 (gs:=.list (zaM (.int 0) nmd f)::.list ((zi6 nmd f).map .str)::gs) (ρ:=zty nmd f) (i:=2) (k:=0) (by induction f using FL.casesOn <;> rfl) (by induction f using FL.casesOn <;> rfl) rfl) fun q c3 hc3 h3=>?_
 refine zdf (f.set q) c3 hc3 ?_
 have ht:∀ t,evE TB true (EV (d+4)) (.mth (.c (.str [44,32])) .join (.cons (.x 3) .nil)) ((zty nmd f).set 8 t) (c3::.list (zaM (.int 0) nmd f)::.list ((zi6 nmd f).map .str)::(gs++[.list []]))=.ok (.str (zaB [44,32] (zi6 nmd f))) (c3::.list (zaM (.int 0) nmd f)::.list ((zi6 nmd f).map .str)::(gs++[.list []])):=fun t=>by
  refine zdv (v:=.loc 2) rfl (zbo (by induction f using FL.casesOn <;> rfl)) rfl ?_
  induction f using FL.casesOn with
  | n0=>exact Nat.zero_le _
  | n1 a _=>
   have:=zbs nmd [120] a (by decide)
   simp[zi6]; unfold zaP; omega
  | n2 a b _=>
   have:=zbs nmd [120] a (by decide)
   have:=zbs nmd [121] b (by decide)
   simp[zi6]; unfold zaP; omega
 have hq:zuh (zaM (.int 0) nmd f) q=zkX (f.set q):=by induction f using FL.casesOn <;> rfl
 replace h3:=hq▸h3
 have e1:zi6 nmd (f.set q)=zi6 nmd f:=by induction f using FL.casesOn <;> rfl
 have e2:zaM (.int 0) nmd (f.set q)=zaM (.int 0) nmd f:=by induction f using FL.casesOn <;> rfl
 have hr:zcC TB true (EV (d+4)) zcw [.loc 0,.bool nmd] [c]=.ok (.loc (gs.length+4)) (c3::.list (zaM (.int 0) nmd f)::.list ((zi6 nmd f).map .str)::(gs++[.list []]++[.list [.str (zbx nmd (f.set q)),.tup (zaM (.int 0) nmd (f.set q))]])):=by
  refine zas (ρ:=[some (.loc 0),some (.bool nmd),none,none,none,none,none,none,none]) rfl ?_
  refine zap (ρ1:=[some (.loc 0),some (.bool nmd),some (.loc 1),some (.loc 2),none,none,none,none,none]) (σ1:=[c,.list [],.list []]) rfl ?_
  refine zap (zjU (T:=TB) (prim:=true) (u:=.loc 4) (src:=.cell 4) (σ1:=[c1,.list [],.list [],.list xyL,.list (xyN k)]) (zor (u:=.loc 3) (v:=.none) (w:=.int n1) (σ1:=[c,.list [],.list [],.list xyL]) (σ2:=[c,.list [],.list [],.list xyL]) (σ3:=[c1,.list [],.list [],.list xyL]) rfl rfl (zad (vs:=[.loc 0,.int 3]) (zac rfl (zag rfl)) h1) ?_) rfl (by simp) h2) ?_
  ·refine hk.symm▸?_; induction k using Lake.N3.casesOn <;> rfl
  refine zap (zav h3 (by induction f using FL.casesOn <;> simp[zty,zqB])) ?_
  refine fin ?_
  have hlen:=zcU nmd (f.set q)
  unfold zbx at hlen
  replace hlen:=e1▸hlen
  have hrl:(zaM (.int 0) nmd f).length≤2:=by induction f using FL.casesOn <;> simp[zaM]
  refine Eq.trans (zcp (σ1:=c3::.list (zaM (.int 0) nmd f)::.list ((zi6 nmd f).map .str)::(gs++[.list []])) (zac (add_str (ht _) (zbo (v:=.str (zkX (f.set q))) (by induction f using FL.casesOn <;> rfl)) (by unfold zaP; exact Nat.le_trans ‹_› (by decide))) (zag (zbK (k:=1) (vs:=zaM (.int 0) nmd f) (zbo (by induction f using FL.casesOn <;> rfl)) rfl (by unfold LIM; exact Nat.le_trans ‹_› (by decide))))) (by simp[LIM])) ?_
  unfold zbx
  refine e1.symm▸?_
  refine e2.symm▸?_
  simp
 refine zcS (fn:=zcw) (k:=gs.length+4) rfl rfl hc.plain hr hc3.plain rfl (by simp) ?_
 show(true&&(plains (zaM (.int 0) nmd (f.set q))&&true))=true
 rw[zcz rfl]; rfl

theorem zbz (f:FormC):(zaC f).length≤40:=by
 induction f using FormC.casesOn with
 | unit=>decide
 | named f=>
  have:=zcU true f
  simp only[zaC,List.length_append,List.length_cons,List.length_nil]; omega
 | tuple f=>
  have:=zcU false f
  simp only[zaC,List.length_append,List.length_cons,List.length_nil]; omega
theorem zjX (d:Nat) {c:C} (hc:SC c) (gs:List C):∃ f c',SC c' ∧
  (EV (d+6)).call zkS [.loc 0] (c::gs)=.ok (.tup [zbr f,.str (zaC f),zam (.int 0) f]) (c'::gs):=by
 refine zc0 (zbV (d+4) hc (top:=3) (by decide) (by decide) []) fun n1 c1 hc1 hn1 h1=>?_
 have s1:evS TB true (EV (d+5)) (.asg 1 (.call 62 (.cons (.x 0) (.cons (.c (.int 3)) .nil)))) [some (.loc 0),none,none,none] [c]=.ok (.next,[some (.loc 0),some (.int n1),none,none]) [c1]:=zav (zad (vs:=[.loc 0,.int 3]) (zac rfl (zag rfl)) h1) (by trivial)
 obtain⟨k,hk⟩:=zqA hn1
 induction k using Lake.N3.casesOn with
 | n0=>
  subst hk
  refine zdf .unit c1 hc1 ?_
  refine zat (fn:=zdD) (gs':=[]) rfl rfl hc.plain (zas (ρ:=[some (.loc 0),none,none,none]) rfl ?_) hc1.plain rfl
  exact zap s1 (zjb (b:=true) (σ1:=[c1]) rfl (fin rfl))
 | n1=>
  subst hk
  refine zaZ (zjW d hc1 true []) fun f c2 hc2 h2=>?_
  refine zdf (.named f) c2 hc2 ?_
  have:=zcU true f
  refine zat (fn:=zdD) (gs':=[.list [.str (zbx true f),.tup (zaM (.int 0) true f)]]) rfl rfl hc.plain (zas (ρ:=[some (.loc 0),none,none,none]) rfl ?_) hc2.plain (by show(true&&(true&&(plains (zaM (.int 0) true f)&&true)))=true; rw[zcz rfl]; rfl)
  refine zap s1 (zap (ρ1:=[some (.loc 0),some (.int 1),none,none]) (σ1:=[c1]) rfl ?_)
  refine zap (zmy (k:=1) (vs:=[.str (zbx true f),.tup (zaM (.int 0) true f)]) (zad (vs:=[.loc 0,.bool true]) (σ1:=[c1]) (zac rfl (zag rfl)) h2) rfl rfl) ?_
  refine fin (zcH (q:=true) (σ1:=[c2,.list [.str (zbx true f),.tup (zaM (.int 0) true f)]]) rfl (zaU (zac rfl (zac (add_str (x:=[32,123,32]++zbx true f) (add_str (x:=[32,123,32]) (y:=zbx true f) rfl rfl ?_) rfl ?_) (zag rfl))) (by simp[LIM])))
  ·simp; unfold zaP; omega
  ·simp; unfold zaP; omega
 | n2=>
  subst hk
  refine zaZ (zjW d hc1 false []) fun f c2 hc2 h2=>?_
  refine zdf (.tuple f) c2 hc2 ?_
  have:=zcU false f
  refine zat (fn:=zdD) (gs':=[.list [.str (zbx false f),.tup (zaM (.int 0) false f)]]) rfl rfl hc.plain (zas (ρ:=[some (.loc 0),none,none,none]) rfl ?_) hc2.plain (by show(true&&(true&&(plains (zaM (.int 0) false f)&&true)))=true; rw[zcz rfl]; rfl)
  refine zap s1 (zap (ρ1:=[some (.loc 0),some (.int 2),none,none]) (σ1:=[c1]) rfl ?_)
  refine zap (zmy (k:=1) (vs:=[.str (zbx false f),.tup (zaM (.int 0) false f)]) (zad (vs:=[.loc 0,.bool false]) (σ1:=[c1]) (zac rfl (zag rfl)) h2) rfl rfl) ?_
  refine fin (zcH (q:=false) (σ1:=[c2,.list [.str (zbx false f),.tup (zaM (.int 0) false f)]]) rfl (zaU (zac rfl (zac (add_str (x:=[40]++zbx false f) (add_str (x:=[40]) (y:=zbx false f) rfl rfl ?_) rfl ?_) (zag rfl))) (by simp[LIM])))
  ·simp; unfold zaP; omega
  ·simp; unfold zaP; omega
end
section
noncomputable def zgE:Ss:=match zdE.body with
 | .cons _ (.cons (.for_ _ _ b) _)=>b
 | _=>.nil
noncomputable def zge (p g:Bool) (a b c d:Option V):Env:=[some (.loc 0),some (.str (zdG p)),some (.bool p),some (gV g),some (.loc 1),some (.loc 2),a,b,c,d,none]
noncomputable def zil (p g:Bool) (nm:List Nat) (f:FormC):Env:=zge p g (some (.str nm)) (some (zbr f)) (some (.str (zaC f))) (some (zam (.int 0) f))
noncomputable def zou (nm:List Nat) (f:FormC):V:=.tup [.str nm,zbr f,zam (.int 0) f]
theorem zjg (d:Nat) {c:C} (hc:SC c) (p g:Bool) (nm:List Nat) (hn:nm.length≤1) (rows:List V) (txts:List (List Nat)) (gs:List C) (v7 v8 v9:Option V) (hr:rows.length≤2) (hx:txts.length≤2) :
  ∃ f c',SC c'∧(EV (d+7)).st zgE (zge p g (some (.str nm)) v7 v8 v9) (c::.list rows::.list (txts.map .str)::gs) =
   .ok (.next,zil p g nm f) (c'::.list (rows++[zou nm f])::.list ((txts++[nm++zaC f]).map .str)::gs):=by
 refine zaZ (zjX d hc (.list rows::.list (txts.map .str)::gs)) fun f c1 hc1 h1=>?_
 refine zdf f c1 hc1 ?_
 show evSs TB true (EV (d+6)) zgE _ _=_
 have e1:evS TB true (EV (d+6)) (.asgT [7,8,9] (.call 69 (.cons (.x 0) .nil))) (zge p g (some (.str nm)) v7 v8 v9) (c::.list rows::.list (txts.map .str)::gs) =
   .ok (.next,zil p g nm f) (c1::.list rows::.list (txts.map .str)::gs):=zbU (zad (vs:=[.loc 0]) (zag rfl) h1) rfl
 refine(zaj e1).trans ?_
 have e2:evE TB true (EV (d+6)) (.tup (.cons (.x 6) (.cons (.x 7) (.cons (.x 9) .nil)))) (zil p g nm f) (c1::.list rows::.list (txts.map .str)::gs)=.ok (zou nm f) (c1::.list rows::.list (txts.map .str)::gs):=
  zaU (zac rfl (zac rfl (zag rfl))) (by simp[LIM])
 refine(zaj (zc8 (zbJ (k:=1) (ws:=rows) rfl rfl e2 rfl (by unfold LIM; omega)))).trans ?_
 have lf:=zbz f
 have e3:∀ σ,evE TB true (EV (d+6)) (.bin .Add (.x 6) (.x 8)) (zil p g nm f) σ=.ok (.str (nm++zaC f)) σ:=fun σ=>add_str rfl rfl (by simp only[List.length_append]; unfold zaP; omega)
 refine(zaj (zc8 (zbJ (k:=2) (ws:=txts.map .str) (vs:=txts.map .str) (σ1:=c1::.list (rows++[zou nm f])::.list (txts.map .str)::gs) (by rfl) rfl (e3 _) rfl (by simp; unfold LIM; omega)))).trans ?_
 refine List.map_append.symm▸?_
 rfl
noncomputable def elL:List V:=[.str [65],.str [66]]
noncomputable def elN (k:N3):List V:=match k with
 | .n0=>[]
 | .n1=>[.str [65]]
 | .n2=>[.str [65],.str [66]]
noncomputable def zhm (p g:Bool):EL→Env
 | .n0=>zge p g none none none none
 | .n1 a _=>zil p g [65] a
 | .n2 _ b _=>zil p g [66] b
theorem zov (d:Nat) {c:C} (hc:SC c) (p g:Bool) (k:N3):∃ (f:EL) (c':C) (gs:List C),SC c' ∧
  zgU (EV (d+7)) 6 zgE (.cell 4) zbb 0 (zge p g none none none none) [c,.list [],.list [],.list elL,.list (elN k)]=.ok (.next,zhm p g f) (c'::.list (zby (.int 0) f)::.list ((zi7 f).map .str)::gs):=by
 induction k using Lake.N3.casesOn with
 | n0=>exact znu .n0 c ([.list elL,.list []]) hc (zeb (n:=4001) rfl)
 | n1=>
  refine zaZ (zjg d hc p g [65] (by decide) [] [] [.list elL,.list [.str [65]]] none none none (by decide) (by decide)) fun f1 c1 hc1 h1=>?_
  have e1:=zcy (T:=TB) (prim:=true) (i:=6) (n:=4001) (j:=0) (b:=zgE) (src:=.cell 4) (v:=.str [65]) (ρ:=zge p g none none none none) rfl h1
  exact znu (.n1 f1 false) c1 ([.list elL,.list [.str [65]]]) hc1 (e1.trans ((zeb (n:=4000) (by rfl)).trans rfl))
 | n2=>
  refine zaZ (zjg d hc p g [65] (by decide) [] [] [.list elL,.list [.str [65],.str [66]]] none none none (by decide) (by decide)) fun f1 c1 hc1 h1=>?_
  have e1:=zcy (T:=TB) (prim:=true) (i:=6) (n:=4001) (j:=0) (b:=zgE) (src:=.cell 4) (v:=.str [65]) (ρ:=zge p g none none none none) rfl h1
  refine zaZ (zjg d hc1 p g [66] (by decide) [zou [65] f1] [[65]++zaC f1] [.list elL,.list [.str [65],.str [66]]] (some (zbr f1)) (some (.str (zaC f1))) (some (zam (.int 0) f1)) (by exact Nat.succ_pos _) (by exact Nat.succ_pos _)) fun f2 c2 hc2 h2=>?_
  have e2:=zcy (T:=TB) (prim:=true) (i:=6) (n:=4000) (j:=1) (b:=zgE) (src:=.cell 4) (v:=.str [66]) (ρ:=zil p g [65] f1) rfl h2
  exact znu (.n2 f1 f2 false) c2 ([.list elL,.list [.str [65],.str [66]]]) hc2 (e1.trans (e2.trans ((zeb (n:=3999) (by rfl)).trans rfl)))
noncomputable def EL.set (q:Bool):EL→EL
 | .n0=>.n0
 | .n1 a _=>.n1 a q
 | .n2 a b _=>.n2 a b q
theorem zjY (f:EL):(zaB [44,32] (zi7 f)).length≤90∧((zi7 f).map List.length).sum+(zi7 f).length*2≤100:=by
 induction f using EL.casesOn with
 | n0=>decide
 | n1 a _=>
  have:=zbz a
  simp[zi7,zaB]; omega
 | n2 a b _=>
  have:=zbz a
  have:=zbz b
  simp[zi7,zaB]; omega
theorem ze8 {z:V} (hz:plain z=true) (f:EL):plains (zby z f)=true:=by
 induction f using EL.casesOn <;> simp[zby,plain,plains,zfM,zdS hz]

theorem zim (e:EL):(zeQ e).length≤1:=by
 induction e using EL.casesOn with
 | n0=>decide
 | n1 a q=>exact zfi q
 | n2 a b q=>exact zfi q
theorem zow (d:Nat) {c:C} (hc:SC c) (p:Bool) (gs0:List C):∃ g e c',SC c' ∧
  (EV (d+8)).call zkT [.loc 0,.str (zdG p),.bool p] (c::gs0)=.ok (.loc (gs0.length+1)) (c'::(gs0++[.list [.str (zak (.enum p g e)),zaf (.int 0) (.enum p g e)]])):=by
 refine bc fun hN=>?_
 refine zaZ (zhk [] (d+4) hc) fun g c0 hc0 h0=>?_
 refine zc0 (zbV (d+6) hc0 (top:=3) (by decide) (by decide) [.list [],.list [],.list elL]) fun n1 c1 hc1 hn1 h1=>?_
 refine zaF (zqA hn1) fun k hk=>?_
 refine zgT (zov d hc1 p g k) fun f c2 gs hc2 h2=>?_
 refine hN ?_
 refine zaZ (zjV (d+4) hc2 (gs:=.list (zby (.int 0) f)::.list ((zi7 f).map .str)::gs) (ρ:=zhm p g f) (i:=4) (k:=0) (by induction f using EL.casesOn <;> rfl) (by induction f using EL.casesOn <;> rfl) rfl) fun q c3 hc3 h3=>?_
 refine znu g (f.set q) c3 hc3 ?_
 have hq:zuh (zby (.int 0) f) q=zeQ (f.set q):=by induction f using EL.casesOn <;> rfl
 replace h3:=hq▸h3
 have e1:zi7 (f.set q)=zi7 f:=by induction f using EL.casesOn <;> rfl
 have e2:zby (.int 0) (f.set q)=zby (.int 0) f:=by induction f using EL.casesOn <;> rfl
 refine zaW (zjY f) fun l1 l2=>?_
 have l3:=zaR p
 have l4:=zcx g
 have l5:(zeQ (f.set q)).length≤1:=zim _
 have hr:zcC TB true (EV (d+7)) zdE [.loc 0,.str (zdG p),.bool p] [c]=.ok (.loc (gs.length+4)) (c3::.list (zby (.int 0) f)::.list ((zi7 f).map .str)::(gs++[.list []]++[.list [.str (zak (.enum p g (f.set q))),zaf (.int 0) (.enum p g (f.set q))]])):=by
  refine zas (ρ:=[some (.loc 0),some (.str (zdG p)),some (.bool p),none,none,none,none,none,none,none,none]) rfl ?_
  refine zap (ρ1:=zge p g none none none none) (σ1:=[c0,.list [],.list []]) (zbU (vs:=[gV g,.loc 1,.loc 2]) (zaU (zac (zad (vs:=[.loc 0]) (zag rfl) h0) (zac (v:=.loc 1) (σ1:=[c0,.list []]) rfl (zag (v:=.loc 2) (σ1:=[c0,.list [],.list []]) rfl))) (by simp[LIM])) rfl) ?_
  refine zap (zjU (T:=TB) (prim:=true) (u:=.loc 4) (src:=.cell 4) (σ1:=[c1,.list [],.list [],.list elL,.list (elN k)]) (zor (u:=.loc 3) (v:=.none) (w:=.int n1) (σ1:=[c0,.list [],.list [],.list elL]) (σ2:=[c0,.list [],.list [],.list elL]) (σ3:=[c1,.list [],.list [],.list elL]) rfl rfl (zad (vs:=[.loc 0,.int 3]) (zac rfl (zag rfl)) h1) ?_) rfl (by simp[zge]) h2) ?_
  ·refine hk.symm▸?_; induction k using Lake.N3.casesOn <;> rfl
  refine zap (zav h3 (by induction f using EL.casesOn <;> simp[zhm,zil,zge])) ?_
  refine fin ?_
  have hrl:(zby (.int 0) f).length≤2:=by induction f using EL.casesOn <;> simp[zby]
  let σ3:List C:=c3::.list (zby (.int 0) f)::.list ((zi7 f).map .str)::(gs++[.list []])
  have x3:((zhm p g f).set 10 (some (.str (zeQ (f.set q)))))[3]?=some (some (gV g)):=by induction f using EL.casesOn <;> rfl
  have x1:((zhm p g f).set 10 (some (.str (zeQ (f.set q)))))[1]?=some (some (.str (zdG p))):=by induction f using EL.casesOn <;> rfl
  have x2:((zhm p g f).set 10 (some (.str (zeQ (f.set q)))))[2]?=some (some (.bool p)):=by induction f using EL.casesOn <;> rfl
  have x4:((zhm p g f).set 10 (some (.str (zeQ (f.set q)))))[4]?=some (some (.loc 1)):=by induction f using EL.casesOn <;> rfl
  have x5:((zhm p g f).set 10 (some (.str (zeQ (f.set q)))))[5]?=some (some (.loc 2)):=by induction f using EL.casesOn <;> rfl
  have x10:((zhm p g f).set 10 (some (.str (zeQ (f.set q)))))[10]?=some (some (.str (zeQ (f.set q)))):=by induction f using EL.casesOn <;> rfl
  refine Eq.trans (zcp (σ1:=σ3) (zac (σ1:=σ3) (add_str (σ1:=σ3) (add_str (σ1:=σ3) (add_str (σ1:=σ3) (add_str (σ1:=σ3) (add_str (σ1:=σ3) (add_str (σ1:=σ3) (zbo x1) rfl ?_) (zbg (u:=gV g) (w:=.int 0) (v:=.str (zi5 g)) (σ1:=σ3) (zbo x3) rfl rfl) ?_) rfl ?_) (zdv (v:=.loc 2) (l:=zi7 f) (σ1:=σ3) rfl (zbo x5) rfl (by unfold zaP; simp only[List.length_cons,List.length_nil]; exact Nat.le_trans ‹_› (by decide))) ?_) (zbo x10) ?_) rfl ?_)
   (zag (zaU (zac rfl (zac rfl (zac rfl (zac (zbg (u:=gV g) (w:=.int 1) (v:=zdH g) (σ1:=σ3) (zbo x3) rfl rfl) (zac (zbK (k:=1) (vs:=zby (.int 0) f) (zbo x4) rfl (by unfold LIM; exact Nat.le_trans ‹_› (by decide))) (zag (zbo x2))))))) (by simp[LIM])))) (by simp[LIM])) ?_
  case refine_7=>
   show R.ok _ _=_
   dsimp only[zak,zaf]
   refine e1.symm▸?_
   refine e2.symm▸?_
   simp[σ3]
  all_goals exact Nat.le_trans (by repeat' first | assumption | apply zbq | exact Nat.le_refl _) (by decide)
 refine zcS (fn:=zdE) (k:=gs.length+4) rfl rfl hc.plain hr hc3.plain rfl (by simp) ?_
 show(true&&(plain (zaf (.int 0) (.enum p g (f.set q)))&&true))=true
 simp[zaf,plain,plains,zbW,ze8 (z:=.int 0) rfl]
end
section
noncomputable def zbP:Nat→Nat→List V
 | _,0=>[]
 | k,n+1=>.loc (k+1)::zbP (k+1) n
theorem zcA:∀ (n k:Nat),(zbP k n).length=n
 | 0,_=>rfl
 | n+1,k=>by simp[zbP,zcA n]
noncomputable def zgf {α:Type} (tx:α→List Nat) (tr:α→V) (a:α):C:=.list [.str (tx a),tr a]

theorem zfN {α:Type}{tx:α→List Nat}{tr:α→V}{f:V→List C→R V} (H:∀ v c,SC c→∀ gs,∃ a c',SC c'∧f v (c::gs)=.ok (.loc (gs.length+1)) (c'::(gs++[zgf tx tr a]))) (all:List V) :
  ∀ (rest:List V) (j fuel:Nat) (c:C) (gs:List C),all.drop j=rest→rest.length < fuel→SC c→∃ (as:List α) (c':C),SC c'∧as.length=rest.length∧zch f (.fixed all) fuel j (c::gs)=.ok (zbP gs.length rest.length) (c'::(gs++as.map (zgf tx tr)))
 | [],j,fuel,c,gs,hd,hf,hc=>by
  obtain⟨n,rfl⟩:∃ n,fuel=n+1:=⟨fuel-1,by simp at hf; exact(Nat.sub_add_cancel ‹_›).symm⟩
  refine zki ([]) c hc rfl ?_
  unfold zch
  have:zef (c::gs) (.fixed all) j=some none:=by
   show some all[j]?=_
   refine(List.getElem?_eq_none (List.drop_eq_nil_iff.mp hd)).symm▸?_
   with_reducible rfl
  refine this.symm▸?_; simp[zbP]
 | v::rest,j,fuel,c,gs,hd,hf,hc=>by
  obtain⟨n,rfl⟩:∃ n,fuel=n+1:=⟨fuel-1,by simp at hf; omega⟩
  refine zaZ (H v c hc gs) fun a c1 hc1 h1=>?_
  have hd':all.drop (j+1)=rest:=by refine List.tail_drop▸?_; refine hd.symm▸?_; rfl
  refine zc0 (zfN H all rest (j+1) n c1 (gs++[zgf tx tr a]) hd' (by simp at hf; exact Nat.lt_of_lt_of_le (Nat.lt_succ_self _) ‹_›) hc1) fun as c2 hc2 hl h2=>?_
  refine zki (a::as) c2 hc2 (by simp[hl]) ?_
  unfold zch
  have:zef (c::gs) (.fixed all) j=some (some v):=by
   show some all[j]?=_
   have e:(all.drop j)[0]?=some v:=by refine hd.symm▸?_; rfl
   replace e:=(List.getElem?_drop)▸e
   simpa using e
  refine this.symm▸?_
  dsimp only
  refine h1.symm▸?_
  dsimp only
  refine h2.symm▸?_
  simp[zbP]

theorem zfO {f:V→List C→R V}{σ:List C}{m:Nat}{vs:List V} (hm:σ[m]?=some (.list vs)) (hl:vs.length≤LIM) {g:V→Option V} (H:∀ v u,g v=some u→f v σ=.ok u σ) :
  ∀ (rest us:List V) (j fuel:Nat),vs.drop j=rest→rest.length < fuel→rest.map g=us.map some→zch f (.cell m) fuel j σ=.ok us σ
 | [],us,j,fuel,hd,hf,hu=>by
  obtain⟨n,rfl⟩:∃ n,fuel=n+1:=⟨fuel-1,by simp at hf; exact(Nat.sub_add_cancel ‹_›).symm⟩
  have:us=[]:=by induction us using List.casesOn <;> simp_all
  subst this
  unfold zch
  have:zef σ (.cell m) j=some none:=by
   show(match σ[m]? with
    | some (C.list vs)=>(match Nat.ble vs.length LIM with
     | true=>some vs[j]?
     | false=>none)
    | _=>none)=_
   refine hm.symm▸?_; dsimp only; refine(Nat.ble_eq.mpr hl).symm▸?_; dsimp only
   refine(List.getElem?_eq_none (List.drop_eq_nil_iff.mp hd)).symm▸?_
   with_reducible rfl
  refine this.symm▸?_
  with_reducible rfl
 | v::rest,us,j,fuel,hd,hf,hu=>by
  obtain⟨n,rfl⟩:∃ n,fuel=n+1:=⟨fuel-1,by simp at hf; omega⟩
  obtain⟨u,us,rfl⟩:∃ u us',us=u::us':=by induction us using List.casesOn with
   | nil=>simp at hu
   | cons u us=>exact zux u us rfl
  replace hu:=List.map_cons▸hu
  replace hu:=List.map_cons▸hu
  refine zaW (List.cons.inj hu) fun hu1 hu2=>?_
  have hd':vs.drop (j+1)=rest:=by refine List.tail_drop▸?_; refine hd.symm▸?_; rfl
  have ih:=zfO hm hl H rest us (j+1) n hd' (by simp at hf; exact Nat.lt_of_lt_of_le (Nat.lt_succ_self _) ‹_›) hu2
  unfold zch
  have:zef σ (.cell m) j=some (some v):=by
   show(match σ[m]? with
    | some (C.list vs)=>(match Nat.ble vs.length LIM with
     | true=>some vs[j]?
     | false=>none)
    | _=>none)=_
   refine hm.symm▸?_; dsimp only; refine(Nat.ble_eq.mpr hl).symm▸?_; dsimp only
   have e:(vs.drop j)[0]?=some v:=by refine hd.symm▸?_; rfl
   replace e:=(List.getElem?_drop)▸e
   simpa using e
  refine this.symm▸?_
  dsimp only
  refine(H v u hu1).symm▸?_
  dsimp only
  refine ih.symm▸?_
  with_reducible rfl

theorem zhn {α:Type}{tx:α→List Nat}{tr:α→V}{σ:List C}:∀ {as:List α}{k:Nat},(∀ (i:Nat) a,as[i]?=some a→σ[k+1+i]?=some (zgf tx tr a)) →
  (zbP k as.length).map (fun v=>zfa σ v (.int 0))=(as.map fun a=>V.str (tx a)).map some∧(zbP k as.length).map (fun v=>zfa σ v (.int 1))=(as.map tr).map some
 | [],_,_=>⟨rfl,rfl⟩
 | a::as,k,h=>by
  refine zaW (zhn (as:=as) (k:=k+1) (fun i b hb=>by rw[← h (i+1) b hb]; congr 1; exact Nat.add_right_comm _ _ _)) fun i1 i2=>?_
  have h0:σ[k+1]?=some (zgf tx tr a):=h 0 a rfl
  have e:∀ b:Nat,b < 2→zfa σ (.loc (k+1)) (.int b)=[V.str (tx a),tr a][b]?:=fun b hb=>by
   show(match σ[k+1]? with
    | some (C.list vs)=>(match idx b vs.length with
     | some j=>vs[j]?
     | none=>none)
    | _=>none)=_
   rw[h0]
   rcases(show b=0∨b=1 by omega) with rfl | rfl <;> rfl
  constructor
  ·show zfa σ (.loc (k+1)) (.int (0:Nat))::_=_
   rw[i1,e 0 (by decide)]; rfl
  ·show zfa σ (.loc (k+1)) (.int (1:Nat))::_=_
   rw[i2,e 1 (by decide)]; rfl

section
variable {d:Nat}{ρ:Env}{σ:List C}
theorem zmI {α:Type}{tx:α→List Nat}{tr:α→V}{as:List α}{i m:Nat} (hi:ρ[i]?=some (some (.loc m))) (hm:σ[m]?=some (.list (zbP 0 as.length))) (hl:as.length≤10) (hr:∀ (i:Nat) a,as[i]?=some a→σ[i+1]?=some (zgf tx tr a)) :
  evE TB true (EV (d+1)) (.comp [] (.sub (.x 0) (.c (.int 0))) (.x i)) ρ σ=.ok (.loc σ.length) (σ++[.list (as.map fun a=>.str (tx a))]) ∧
  evE TB true (EV (d+1)) (.comp [] (.sub (.x 0) (.c (.int 1))) (.x i)) ρ σ=.ok (.loc σ.length) (σ++[.list (as.map tr)]):=by
 have hL:(zbP 0 as.length).length≤LIM:=by rw[zcA]; unfold LIM; exact Nat.le_trans ‹_› (by decide)
 have hT:(zbP 0 as.length).length < zbb:=by rw[zcA]; unfold zbb; omega
 obtain⟨c1,c2⟩:=zhn (σ:=σ) (as:=as) (k:=0) (fun i a h=>by rw[← hr i a h]; congr 1; exact Nat.add_comm _ _)
 have H:∀ (b:Int) (v u:V),zfa σ v (.int b)=some u→(EV (d+1)).ex (.sub (.x 0) (.c (.int b))) ([]++[some v]) σ=.ok u σ:=fun b v u h=>by
  show evE TB true (EV d) (.sub (.x 0) (.c (.int b))) [some v] σ=_
  exact zbg (u:=v) (w:=.int b) (σ1:=σ) (σ2:=σ) rfl rfl h
 have key:∀ (b:Int) (us:List V),us.length=as.length→(zbP 0 as.length).map (fun v=>zfa σ v (.int b))=us.map some→evE TB true (EV (d+1)) (.comp [] (.sub (.x 0) (.c (.int b))) (.x i)) ρ σ=.ok (.loc σ.length) (σ++[.list us]):=fun b us hus hmap=>by
  refine zeR (zbo hi) ?_
  have e1:zdY σ (.loc m)=some (.cell m):=by
   show(match σ[m]? with
    | some (C.list _)=>some (Src.cell m)
    | _=>none)=_
   rw[hm]
  show(match zdY σ (.loc m),zeD ρ [] with
   | some src,some ρ'=>(match zch (fun v σ'=>(EV (d+1)).ex (.sub (.x 0) (.c (.int b))) (ρ'++[some v]) σ') src zbb 0 σ with
    | .ok us σ2=>if us.length≤LIM then R.ok (V.loc σ2.length) (σ2++[C.list us]) else .stuck
    | _=>.stuck)
   | _,_=>.stuck)=_
  rw[e1]
  show(match zch (fun v σ'=>(EV (d+1)).ex (.sub (.x 0) (.c (.int b))) ([]++[some v]) σ') (.cell m) zbb 0 σ with
    | .ok us σ2=>if us.length≤LIM then R.ok (V.loc σ2.length) (σ2++[C.list us]) else .stuck
    | _=>.stuck)=_
  rw[zfO hm hL (H b) _ us 0 zbb rfl hT hmap]
  dsimp only
  rw[if_pos (by rw[hus]; unfold LIM; exact Nat.le_trans ‹_› (by decide))]
 exact⟨key 0 _ (by exact List.length_map ..) c1,key 1 _ (by exact List.length_map ..) c2⟩

theorem zjh {α:Type}{tx:α→List Nat}{tr:α→V}{cap:List Nat}{elt:E}{ρ':Env}{c:C}{n:Nat} (hcap:zeD ρ cap=some ρ') (hn:n≤3) {it:E} (hit:evE TB true (EV d) it ρ σ=.ok (.rng n) (c::[]))
  (hc:SC c) (H:∀ v c,SC c→∀ gs,∃ a c',SC c'∧(EV d).ex elt (ρ'++[some v]) (c::gs)=.ok (.loc (gs.length+1)) (c'::(gs++[zgf tx tr a]))) :
  ∃ (as:List α) (c':C),SC c'∧as.length=n∧evE TB true (EV d) (.comp cap elt it) ρ σ=.ok (.loc (n+1)) (c'::(as.map (zgf tx tr)++[.list (zbP 0 n)])):=by
 let all:List V:=(List.range n).map fun k=>.int (k:Nat)
 have hal:all.length=n:=by simp[all]
 refine zc0 (zfN (f:=fun v σ'=>(EV d).ex elt (ρ'++[some v]) σ') H all all 0 zbb c [] rfl (by refine hal.symm▸?_; unfold zbb; omega) hc) fun as c' hc' hl h=>?_
 refine zki as c' hc' (by refine hl.symm▸?_; refine hal.symm▸?_; with_reducible rfl) (zeR hit ?_)
 have e1:zdY [c] (.rng n)=some (.fixed all):=by
  show(match Nat.ble n 100 with
   | true=>some (Src.fixed all)
   | false=>none)=_
  rw[Nat.ble_eq.mpr (by exact Nat.le_trans ‹_› (by decide))]
 show(match zdY [c] (.rng n),zeD ρ cap with
   | some src,some ρ'=>(match zch (fun v σ'=>(EV d).ex elt (ρ'++[some v]) σ') src zbb 0 [c] with
    | .ok us σ2=>if us.length≤LIM then R.ok (V.loc σ2.length) (σ2++[C.list us]) else .stuck
    | _=>.stuck)
   | _,_=>.stuck)=_
 refine e1.symm▸?_
 refine hcap.symm▸?_
 dsimp only
 refine h.symm▸?_
 dsimp only
 rw[if_pos (by rw[zcA,hal]; unfold LIM; exact Nat.le_trans ‹_› (by decide)),hal]
 simp[hl,hal]
theorem zfj {e:E}{n:Nat}{σ1:List C}{lo:Lo} (h:evE TB true lo e ρ σ=.ok (.int n) σ1) (hn:n≤3):evE TB true lo (.range e) ρ σ=.ok (.rng n) σ1:=by
 show(evE TB true lo e ρ σ).bind zuJ=_
 rw[h]
 show(if 0≤(n:Int)∧(n:Int)≤100 then R.ok (V.rng (n:Int).toNat) σ1 else .stuck)=_
 rw[if_pos (by omega)]; rfl
end
theorem zqC {α:Type}{as:List α}{n:Nat} (h:as.length=n) (hn:n < 3):∃ u:Up α,u.list=as:=by
 match as,h with
 | [],_=>exact⟨.n0,rfl⟩
 | [a],_=>exact⟨.n1 a,rfl⟩
 | [a,b],_=>exact⟨.n2 a b,rfl⟩
 | _::_::_::_,h=>simp at h; omega
theorem zji {α:Type}{tx:α→List Nat}{tr:α→V}{as:List α}{c:C}{gs:List C}:∀ (i:Nat) (a:α),as[i]?=some a→(c::(as.map (zgf tx tr)++gs):List C)[i+1]?=some (zgf tx tr a):=fun i a h=>by
 rw[List.getElem?_cons_succ,List.getElem?_append_left (by simpa using (List.getElem?_eq_some_iff.mp h).1),List.getElem?_map,h]; rfl
end
section
theorem zgF {α:Type}{tx:α→List Nat}{B:Nat} (h:∀ a,(tx a).length≤B) (u:Up α):(zaB [32] (u.list.map tx)).length≤2*B+1∧((u.list.map tx).map List.length).sum+(u.list.map tx).length*([32]:List Nat).length≤2*B+2:=by
 cases u with
 | n0=>simp[Up.list,zaB]
 | n1 a=>have:=h a; simp[Up.list,zaB]; omega
 | n2 a b=>have:=h a; have:=h b; simp[Up.list,zaB]; omega
theorem zcV (k:FnC):(zax k).length≤106:=by
 have:=zfL k
 have:=zij k.bare
 unfold zax; refine List.length_append.symm▸?_; omega
theorem zdI {α:Type}{tr:α→V} (h:∀ a,plain (tr a)=true) (u:Up α):plains (u.list.map tr)=true:=by
 cases u <;> simp[Up.list,plains,h]
theorem zmJ (p:Bool):(trT p).length≤11:=by induction p using Bool.casesOn <;> decide
theorem zin {z:V} (hz:plain z=true) (t:Bool):plain (trV z t)=true:=by induction t using Bool.casesOn <;> simp[trV,zbN,plain,plains,hz]

theorem zcq {α:Type} (l:List α) (a:α):(l++[a])[l.length]?=some a:=by simp
theorem zmK (d:Nat) (s:List Nat) (ρ:Env) (σ:List C):evE TB true (EV (d+1)) (.call 64 (.cons (.c (.str s)) .nil)) ρ σ=.ok (zbN (.int 0) s) σ:=zad (vs:=[.str s]) (σ1:=σ) (zag rfl) (zhg d s σ)
theorem zjZ {σ:List C}{k:Nat}{vs:List V} (h:σ[k]?=some (.list vs)):zee σ (.loc k)=some vs:=by
 show(match σ[k]? with
  | some (C.list vs)=>some vs
  | _=>none)=_
 refine h.symm▸?_
 with_reducible rfl
noncomputable def zio (t:Bool):V:=.tup [.str (trT t),trV (.int 0) t]
noncomputable def trL:List V:=[zio false,zio true]

theorem zox (d:Nat) {c:C} (hc:SC c) (gs0:List C):∃ g tr fs c',SC c' ∧
  (EV (d+7)).call zkU [.loc 0] (c::gs0)=.ok (.loc (gs0.length+1)) (c'::(gs0++[.list [.str (zak (.impl g tr fs)),zaf (.int 0) (.impl g tr fs)]])):=by
 refine zaZ (zhk [] (d+3) hc) fun g c1 hc1 h1=>?_
 refine zc0 (zbV (d+5) hc1 (top:=3) (by decide) (by decide) []) fun n c2 hc2 hn h2=>?_
 let ρ1:Env:=[some (.loc 0),some (gV g),none,none,none]
 obtain⟨as,c3,hc3,hl,h3⟩:=zjh (d:=d+6) (ρ:=ρ1) (σ:=[c1]) (tx:=fun k=>zax (nb k)) (tr:=fun k=>zal (.int 0) (nb k)) (cap:=[0]) (elt:=.call 70 (.cons (.x 0) (.cons (.c (.bool false)) .nil))) (ρ':=[some (.loc 0)]) (n:=n) (it:=.range (.call 62 (.cons (.x 0) (.cons (.c (.int 3)) .nil)))) rfl (by omega)
  (zfj (zad (vs:=[.loc 0,.int 3]) (zac rfl (zag rfl)) h2) (by omega)) hc2 (fun v c hc gs=>by
   refine zc0 (zjd d hc false gs) fun k c' hc' hk h=>?_
   have hk:nb k=k:=by obtain⟨_,_,_,_,_,_,b⟩:=k; subst hk; rfl
   refine zdf k c' hc' ?_
   unfold zgf
   dsimp only
   refine hk.symm▸?_
   show evE TB true (EV (d+5)) (.call 70 (.cons (.x 0) (.cons (.c (.bool false)) .nil))) [some (.loc 0),some v] (c::gs)=_
   exact zad (vs:=[.loc 0,.bool false]) (zac rfl (zag rfl)) h)
 refine zaF (zqC hl (by exact Int.ofNat_le.mp ‹_›)) fun fs ee0=>?_
 subst ee0
 refine zdb (zcI (fs.list.map (zgf (fun k=>zax (nb k)) (fun k=>zal (.int 0) (nb k)))++[.list (zbP 0 n)]) (d+4) hc3 (vs:=trL) (by trivial) (by trivial) rfl) fun m v4 c4 hc4 hv4 h4=>?_
 obtain⟨t,rfl⟩:∃ t,v4=zio t:=by rcases zrk hv4 with rfl | rfl <;> exact⟨_,rfl⟩
 refine zu7 g t fs c4 hc4 ?_
 refine zaW (zgF (tx:=fun k=>zax (nb k)) (fun k=>zcV (nb k)) fs) fun l1 l2=>?_
 have l3:=zcx g
 have l4:=zmJ t
 let rows:List C:=fs.list.map (zgf (fun k=>zax (nb k)) (fun k=>zal (.int 0) (nb k)))
 let σ4:List C:=c4::(rows++[.list (zbP 0 n)]++[.list trL])
 let ρ4:Env:=[some (.loc 0),some (gV g),some (.loc (n+1)),some (zio t),none]
 have hrl:rows.length=n:=by simp[rows,hl]
 have hm:∀ (gs:List C),(c4::(rows++[.list (zbP 0 n)]++gs))[n+1]?=some (.list (zbP 0 fs.list.length)):=fun gs=>by
  rw[List.getElem?_cons_succ,List.append_assoc,List.getElem?_append_right (by omega),hrl,hl]; simp
 have hcol:∀ (ρ:Env) (gs:List C),ρ[2]?=some (some (.loc (n+1)))→_:=fun ρ gs h=>zmI (d:=d+5) (ρ:=ρ) (σ:=c4::(rows++[.list (zbP 0 n)]++gs)) (tx:=fun k=>zax (nb k)) (tr:=fun k=>zal (.int 0) (nb k)) (as:=fs.list) (i:=2) h (hm gs) (by omega) (by rw[List.append_assoc]; exact zji)
 have k1:=(hcol ρ4 [.list trL] rfl).1
 let tx:List Nat:=zak (.impl g t fs)
 let σ5:List C:=c4::(rows++[.list (zbP 0 n)]++[.list trL,.list (fs.list.map fun a=>.str (zax (nb a)))])
 let ρ5:Env:=[some (.loc 0),some (gV g),some (.loc (n+1)),some (zio t),some (.str tx)]
 have k2:=(hcol ρ5 [.list trL,.list (fs.list.map fun a=>.str (zax (nb a)))] rfl).2
 let σ6:List C:=σ5++[.list (fs.list.map fun k=>zal (.int 0) (nb k))]
 have e5:(c4::(rows++[.list (zbP 0 n)]++[.list trL]))++[.list (fs.list.map fun a=>V.str (zax (nb a)))]=σ5:=by simp[σ5]
 replace k1:=e5▸k1
 have s5:σ5[(c4::(rows++[.list (zbP 0 n)]++[.list trL])).length]?=some (.list ((fs.list.map fun k=>zax (nb k)).map .str)):=by
  rw[← e5,List.getElem?_append_right (by simp)]
  simp
 have s6:σ6[σ5.length]?=some (.list (fs.list.map fun k=>zal (.int 0) (nb k))):=by simp[σ6]
 have hr:zcC TB true (EV (d+6)) zeK [.loc 0] [c]=.ok (.loc σ6.length) (σ6++[.list [.str tx,zaf (.int 0) (.impl g t fs)]]):=by
  refine zas (ρ:=[some (.loc 0),none,none,none,none]) rfl ?_
  refine zap (ρ1:=ρ1) (zav (zad (vs:=[.loc 0]) (zag rfl) h1) (by trivial)) ?_
  refine zap (ρ1:=[some (.loc 0),some (gV g),some (.loc (n+1)),none,none]) (zav h3 (by simp[ρ1])) ?_
  refine zap (ρ1:=ρ4) (σ1:=σ4) (zav (v:=zio t) (zad (vs:=[.loc 0,.loc ((rows++[C.list (zbP 0 n)]).length+1)]) (σ1:=c3::(rows++[.list (zbP 0 n)]++[.list trL])) (zac rfl (zag ?_)) h4) (by simp)) ?_
  ·exact zcp (vs:=trL) (σ1:=c3::(rows++[.list (zbP 0 n)])) (by kernel_rfl) (by trivial)
  refine zap (ρ1:=ρ5) (σ1:=σ5) (zav (v:=.str tx) (add_str (σ1:=σ5) (add_str (σ1:=σ4) (add_str (σ1:=σ4) (add_str (σ1:=σ4) (add_str (σ1:=σ4) (add_str (σ1:=σ4) (x:=[105,109,112,108]) rfl (zbg (u:=gV g) (w:=.int 0) (v:=.str (zi5 g)) (σ1:=σ4) rfl rfl rfl) ?_) rfl ?_) (zbg (u:=zio t) (w:=.int 0) (v:=.str (trT t)) (σ1:=σ4) rfl rfl rfl) ?_) rfl ?_) (zdv (s:=[32]) (l:=fs.list.map fun k=>zax (nb k)) (σ1:=σ4) rfl k1 (zjZ s5) (by unfold zaP; exact Nat.le_trans ‹_› (by decide))) ?_) rfl ?_) (by simp[ρ4])) ?_
  rotate_right
  ·refine fin ?_
   refine zcp (vs:=[.str tx,zaf (.int 0) (.impl g t fs)]) (σ1:=σ6) (zac rfl (zag (zaU (zac rfl (zac rfl (zac (zbg (u:=gV g) (w:=.int 1) (v:=zdH g) (σ1:=σ5) rfl rfl rfl) (zac (zbg (u:=zio t) (w:=.int 1) (v:=trV (.int 0) t) (σ1:=σ5) rfl rfl rfl) (zac (zmK (d+5) _ _ _) (zag (zbK k2 s6 (by simp[hl]; unfold LIM; omega)))))))) (by simp[LIM])))) (by simp[LIM])
  all_goals exact Nat.le_trans (by repeat' first | assumption | apply zbq | exact Nat.le_refl _) (by decide)
 refine zcS (fn:=zeK) (k:=σ6.length) (gs':=rows++[.list (zbP 0 n)]++[.list trL,.list (fs.list.map fun a=>.str (zax (nb a)))]++[.list (fs.list.map fun k=>zal (.int 0) (nb k))]++[.list [.str tx,zaf (.int 0) (.impl g t fs)]]) rfl rfl hc.plain (hr.trans ?_) hc4.plain ?_ ?_ ?_
 ·rfl
 ·exact Nat.ble_eq.mpr (by exact Nat.succ_pos _)
 ·have e:(c4::(rows++[.list (zbP 0 n)]++[.list trL,.list (fs.list.map fun a=>.str (zax (nb a)))]++[.list (fs.list.map fun k=>zal (.int 0) (nb k))]++[.list [.str tx,zaf (.int 0) (.impl g t fs)]]):List C)=σ6++[.list [.str tx,zaf (.int 0) (.impl g t fs)]]:=by rfl
  refine e.symm▸?_; exact zcq _ _
 ·show(true&&(plain (zaf (.int 0) (.impl g t fs))&&true))=true
  have:=zdI (tr:=fun k=>zal (.int 0) (nb k)) (fun k=>zaV rfl (nb k)) fs
  simp[zaf,plain,plains,zbW,zin (z:=.int 0) rfl,zbN,this]
end
section
theorem zfP (f:FormC):(zeP f).length≤1:=by induction f using FormC.casesOn <;> simp[zeP]
theorem zmL (p:Bool):(asT p).length≤9:=by induction p using Bool.casesOn <;> decide
theorem ziq (n:U4):(zaB [58,58] (zmB n)).length≤20:=by induction n using U4.casesOn <;> decide
theorem zec (i:It0):(zak i).length≤300:=by
 induction i using It0.casesOn with
 | fn k=>have:=zcV k; simp only[zak]; exact Nat.le_trans ‹_› (by decide)
 | struct p g f=>
  have:=zaR p; have:=zcx g; have:=zbz f; have:=zfP f
  unfold zak; exact Nat.le_trans (by repeat' first | assumption | apply zbq | exact Nat.le_refl _) (by decide)
 | enum p g e=>
  have:=zaR p; have:=zcx g; have:=(zjY e).1; have:=zim e
  unfold zak; exact Nat.le_trans (by repeat' first | assumption | apply zbq | exact Nat.le_refl _) (by decide)
 | impl g t fs=>
  have:=zcx g; have:=zmJ t; have:=(zgF (tx:=fun k=>zax (nb k)) (fun k=>zcV (nb k)) fs).1
  unfold zak; exact Nat.le_trans (by repeat' first | assumption | apply zbq | exact Nat.le_refl _) (by decide)
 | trait p fs=>
  have:=zaR p; have:=(zgF zcV fs).1
  unfold zak; exact Nat.le_trans (by repeat' first | assumption | apply zbq | exact Nat.le_refl _) (by decide)
 | use p n al=>
  have:=zaR p; have:=ziq n; have:=zmL al
  unfold zak; exact Nat.le_trans (by repeat' first | assumption | apply zbq | exact Nat.le_refl _) (by decide)
 | const p=>
  have:=zaR p
  unfold zak; exact Nat.le_trans (by repeat' first | assumption | apply zbq | exact Nat.le_refl _) (by decide)
theorem zeU (i:It):(zaK i).length≤700:=by
 induction i using It.casesOn with
 | base i=>have:=zec i; simp only[zaK]; exact Nat.le_trans ‹_› (by decide)
 | mod p is=>
  have:=zaR p; have:=(zgF zec is).1
  unfold zaK; exact Nat.le_trans (by repeat' first | assumption | apply zbq | exact Nat.le_refl _) (by decide)
theorem zjj (n:U4):plains (za9 n)=true:=by induction n using U4.casesOn <;> rfl
theorem zmM (a:Bool) (n:U4):plain (alV a n)=true:=by induction a using Bool.casesOn <;> rfl
theorem zaN {z:V} (hz:plain z=true) (i:It0):plain (zaf z i)=true:=by
 induction i using It0.casesOn with
 | fn k=>exact zaV hz k
 | struct p g f=>simp[zaf,plain,plains,zbW,zfM,zdS hz,hz]
 | enum p g e=>simp[zaf,plain,plains,zbW,ze8 hz,hz]
 | impl g t fs=>simp[zaf,plain,plains,zbW,zin hz,zbN,zdI (tr:=fun k=>zal z (nb k)) (fun k=>zaV hz (nb k)) fs,hz]
 | trait p fs=>simp[zaf,plain,plains,zbW,zdI (fun k=>zaV hz k) fs,hz]
 | use p n al=>simp[zaf,plain,plains,zjj,zmM,hz]
 | const p=>simp[zaf,plain,plains,zbN,seven,hz]
theorem zfk {z:V} (hz:plain z=true) (i:It):plain (zar z i)=true:=by
 induction i using It.casesOn with
 | base i=>exact zaN hz i
 | mod p is=>simp[zar,plain,plains,zdI (fun k=>zaN hz k) is,hz]

noncomputable def zpn:Ss:=match zcP.body with
 | .cons _ (.cons _ r)=>r
 | _=>.nil
noncomputable def zde (deep:Int) (n:Nat) (p:Bool):Env:=[some (.loc 0),some (.int deep),some (.int n),some (.str (zdG p)),some (.bool p),none,none,none,none,none,none]
noncomputable def zgg (d:Nat) (deep:Int) (n:Nat) (p:Bool) (c:C) (i:It):Prop:=∃ c' gs k,SC c'∧zjQ (evSs TB true (EV (d+8)) zpn (zde deep n p) [c]) (.loc (k+1)) (c'::gs)∧gs[k]?=some (zgf zaK (zar (.int 0)) i)

section
variable (d:Nat) (deep:Int) (p:Bool) {c:C} (hc:SC c)
include hc
theorem zvt:∃ i,zgg d deep 0 p c (.base i):=by
 refine zc0 (zbV (d+7) hc (top:=4) (by decide) (by decide) []) fun m c1 hc1 ua h1=>?_
 refine zc0 (zjd (d+3) hc1 (decide ((m:Int)=0)) []) fun k c2 hc2 ua h2=>?_
 refine znn (.fn k) c2 ([.list [.str (zax k),zal (.int 0) k]]) 0 hc2 ?_ rfl
 refine zjb (b:=true) (σ1:=[c]) rfl (fin (zad (vs:=[.loc 0,.bool (decide ((m:Int)=0))]) (σ1:=[c1]) (zac rfl (zag (zpm (u:=.int m) (v:=.int 0) (σ1:=[c1]) (zad (vs:=[.loc 0,.int 4]) (σ1:=[c]) (zac rfl (zag rfl)) h1) rfl rfl))) h2))
theorem zvu:∃ i,zgg d deep 1 p c (.base i):=by
 refine zaZ (zhk [] (d+5) hc) fun g c1 hc1 h1=>?_
 refine zaZ (zjX (d+2) hc1 []) fun f c2 hc2 h2=>?_
 let ρ1:Env:=[some (.loc 0),some (.int deep),some (.int 1),some (.str (zdG p)),some (.bool p),some (gV g),some (.tup [zbr f,.str (zaC f),zam (.int 0) f]),none,none,none,none]
 let tx:=zak (.struct p g f)
 have l1:=zaR p
 have l2:=zcx g
 have l3:=zbz f
 have l4:=zfP f
 refine znn (.struct p g f) c2 ([.list [.str tx,zaf (.int 0) (.struct p g f)]]) 0 hc2 ?_ rfl
 refine zap (ρ1:=zde deep 1 p) (σ1:=[c]) rfl (zjb (b:=true) (σ1:=[c]) rfl ?_)
 refine zap (ρ1:=ρ1) (σ1:=[c2]) (zbU (vs:=[gV g,.tup [zbr f,.str (zaC f),zam (.int 0) f]]) (zaU (zac (zad (vs:=[.loc 0]) (zag rfl) h1) (zag (zad (vs:=[.loc 0]) (zag rfl) h2))) (by exact Nat.le_of_ble_eq_true rfl)) rfl) ?_
 refine zap (ρ1:=ρ1.set 7 (some (.str tx))) (σ1:=[c2]) (zav (v:=.str tx) (add_str (σ1:=[c2]) (add_str (σ1:=[c2]) (add_str (σ1:=[c2]) (add_str (σ1:=[c2]) (x:=zdG p) rfl rfl ?_) (zbg (u:=gV g) (w:=.int 0) (v:=.str (zi5 g)) (σ1:=[c2]) rfl rfl rfl) ?_) (zbg (w:=.int 1) (v:=.str (zaC f)) (σ1:=[c2]) rfl rfl rfl) ?_) (y:=zeP f) ?_ ?_) (by exact Nat.le_of_ble_eq_true rfl)) ?_
 rotate_right
 ·exact fin (zcp (vs:=[.str tx,zaf (.int 0) (.struct p g f)]) (σ1:=[c2]) (zac rfl (zag (by kernel_rfl))) (by exact Nat.le_of_ble_eq_true rfl))
 case refine_4=>induction f using FormC.casesOn <;> rfl
 all_goals exact Nat.le_trans (by repeat' first | assumption | apply zbq | exact Nat.le_refl _) (by decide)
theorem zvv:∃ i,zgg d deep 2 p c (.base i):=by
 refine zgT (zow d hc p []) fun g e c1 hc1 h1=>?_
 refine znn (.enum p g e) c1 ([.list [.str (zak (.enum p g e)),zaf (.int 0) (.enum p g e)]]) 0 hc1 ?_ rfl
 refine zap (ρ1:=zde deep 2 p) (σ1:=[c]) rfl (zap (ρ1:=zde deep 2 p) (σ1:=[c]) rfl ?_)
 exact zjb (b:=true) (σ1:=[c]) rfl (fin (zad (vs:=[.loc 0,.str (zdG p),.bool p]) (σ1:=[c]) (zac rfl (zac rfl (zag rfl))) h1))
theorem zvw:∃ i,zgg d deep 3 p c (.base i):=by
 refine zro (zox (d+1) hc []) fun g t fs c1 hc1 h1=>?_
 refine znn (.impl g t fs) c1 ([.list [.str (zak (.impl g t fs)),zaf (.int 0) (.impl g t fs)]]) 0 hc1 ?_ rfl
 refine zap (ρ1:=zde deep 3 p) (σ1:=[c]) rfl (zap (ρ1:=zde deep 3 p) (σ1:=[c]) rfl (zap (ρ1:=zde deep 3 p) (σ1:=[c]) rfl ?_))
 exact zjb (b:=true) (σ1:=[c]) rfl (fin (zad (vs:=[.loc 0]) (σ1:=[c]) (zag rfl) h1))
theorem zvx:∃ i,zgg d deep 4 p c (.base i):=by
 refine bc fun hN=>?_
 refine zc0 (zbV (d+7) hc (top:=3) (by decide) (by decide) []) fun n c2 hc2 hn h2=>?_
 let ρ1:Env:=zde deep 4 p
 obtain⟨as,c3,hc3,hl,h3⟩:=zjh (d:=d+8) (ρ:=ρ1) (σ:=[c]) (tx:=zax) (tr:=zal (.int 0)) (cap:=[0]) (elt:=.call 70 (.cons (.x 0) (.cons (.cmp .Eq (.call 62 (.cons (.x 0) (.cons (.c (.int 2)) .nil))) (.c (.int 0))) .nil))) (ρ':=[some (.loc 0)]) (n:=n) (it:=.range (.call 62 (.cons (.x 0) (.cons (.c (.int 3)) .nil)))) rfl (by omega)
  (zfj (zad (vs:=[.loc 0,.int 3]) (zac rfl (zag rfl)) h2) (by omega)) hc2 (fun v c hc gs=>by
   refine zc0 (zbV (d+6) hc (top:=2) (by decide) (by decide) gs) fun m c1 hc1 ua h1=>?_
   refine zc0 (zjd (d+2) hc1 (decide ((m:Int)=0)) gs) fun k c' hc' ua h=>?_
   refine zdf k c' hc' ?_
   show evE TB true (EV (d+7)) (.call 70 (.cons (.x 0) (.cons (.cmp .Eq (.call 62 (.cons (.x 0) (.cons (.c (.int 2)) .nil))) (.c (.int 0))) .nil))) [some (.loc 0),some v] (c::gs)=_
   exact zad (vs:=[.loc 0,.bool (decide ((m:Int)=0))]) (σ1:=c1::gs) (zac rfl (zag (zpm (u:=.int m) (v:=.int 0) (σ1:=c1::gs) (zad (vs:=[.loc 0,.int 2]) (σ1:=c::gs) (zac rfl (zag rfl)) h1) rfl rfl))) h)
 obtain⟨fs,rfl⟩:=zqC hl (by exact Int.ofNat_le.mp ‹_›)
 obtain⟨l1,l2⟩:=zgF zcV fs
 have l3:=zaR p
 let rows:List C:=fs.list.map (zgf zax (zal (.int 0)))
 let σ3:List C:=c3::(rows++[.list (zbP 0 n)])
 have hrl:rows.length=n:=by simp[rows,hl]
 have hm:∀ (gs:List C),(c3::(rows++[.list (zbP 0 n)]++gs))[n+1]?=some (.list (zbP 0 fs.list.length)):=fun gs=>by
  rw[List.getElem?_cons_succ,List.append_assoc,List.getElem?_append_right (by omega),hrl,hl]; simp
 have hcol:∀ (ρ:Env) (gs:List C),ρ[8]?=some (some (.loc (n+1)))→_:=fun ρ gs h=>zmI (d:=d+7) (ρ:=ρ) (σ:=c3::(rows++[.list (zbP 0 n)]++gs)) (tx:=zax) (tr:=zal (.int 0)) (as:=fs.list) (i:=8) h (hm gs) (by omega) (by rw[List.append_assoc]; exact zji)
 let tx:List Nat:=zak (.trait p fs)
 let ρ3:Env:=ρ1.set 8 (some (.loc (n+1)))
 have k1:=(hcol ρ3 [] rfl).1
 let σ4:List C:=c3::(rows++[.list (zbP 0 n)]++[.list (fs.list.map fun a=>.str (zax a))])
 let ρ4:Env:=ρ3.set 7 (some (.str tx))
 have k2:=(hcol ρ4 [.list (fs.list.map fun a=>.str (zax a))] rfl).2
 let σ5:List C:=σ4++[.list (fs.list.map (zal (.int 0)))]
 have e3:(c3::(rows++[.list (zbP 0 n)]++[]))=σ3:=by simp[σ3]
 have e4:σ3++[.list (fs.list.map fun a=>V.str (zax a))]=σ4:=by rfl
 rw[e3,e4] at k1
 have s4:σ4[σ3.length]?=some (.list ((fs.list.map zax).map .str)):=by
  rw[← e4,zcq,List.map_map]; rfl
 have s5:σ5[σ4.length]?=some (.list (fs.list.map (zal (.int 0)))):=zcq _ _
 refine hN ?_
 refine znn (.trait p fs) c3 (rows++[.list (zbP 0 n)]++[.list (fs.list.map fun a=>.str (zax a))]++[.list (fs.list.map (zal (.int 0)))]++[.list [.str tx,zaf (.int 0) (.trait p fs)]]) ((rows++[C.list (zbP 0 n)]++[C.list (fs.list.map fun a=>V.str (zax a))]++[C.list (fs.list.map (zal (.int 0)))]).length) hc3 ?_ (zcq _ _)
 refine zap (ρ1:=zde deep 4 p) (σ1:=[c]) rfl (zap (ρ1:=zde deep 4 p) (σ1:=[c]) rfl (zap (ρ1:=zde deep 4 p) (σ1:=[c]) rfl (zap (ρ1:=zde deep 4 p) (σ1:=[c]) rfl (zjb (b:=true) (σ1:=[c]) rfl ?_))))
 refine zap (ρ1:=ρ3) (σ1:=σ3) (zav h3 (by simp[ρ1,zde])) ?_
 refine zap (ρ1:=ρ4) (σ1:=σ4) (zav (v:=.str tx) (add_str (σ1:=σ4) (add_str (σ1:=σ3) (add_str (σ1:=σ3) (x:=zdG p) rfl rfl ?_) (zdv (s:=[32]) (l:=fs.list.map zax) (σ1:=σ3) rfl k1 (zjZ s4) (by unfold zaP; exact Nat.le_trans ‹_› (by decide))) ?_) rfl ?_) (by simp[ρ3,ρ1,zde])) ?_
 rotate_right
 ·refine fin (Eq.trans (zcp (vs:=[.str tx,zaf (.int 0) (.trait p fs)]) (σ1:=σ5) (zac rfl (zag (zaU (zac rfl (zac rfl (zac rfl (zac (v:=zdH false) rfl (zac (zbK k2 s5 (by simp[hl]; unfold LIM; omega)) (zag rfl)))))) (by simp[LIM])))) (by simp[LIM])) ?_)
  rfl
 all_goals exact Nat.le_trans (by repeat' first | assumption | apply zbq | exact Nat.le_refl _) (by decide)
theorem zvy:∃ i,zgg d deep 5 p c (.base i):=by
 refine zdb (zcI [] (d+6) hc (vs:=[.tup (za9 .u0),.tup (za9 .u1),.tup (za9 .u2),.tup (za9 .u3)]) (by exact of_decide_eq_true rfl) (by exact Nat.le_of_ble_eq_true rfl) rfl) fun m v1 c1 hc1 hv1 h1=>?_
 obtain⟨u,rfl⟩:∃ u,v1=.tup (za9 u):=by rcases zuW hv1 with rfl | rfl | rfl | rfl <;> exact⟨_,rfl⟩
 refine zdb (zcI [.list [.tup (za9 .u0),.tup (za9 .u1),.tup (za9 .u2),.tup (za9 .u3)]] (d+6) hc1 (vs:=[.str (zfK u),.str [111,116,104,101,114]]) (by exact of_decide_eq_true rfl) (by exact Nat.le_of_ble_eq_true rfl) rfl) fun m2 v2 c2 hc2 hv2 h2=>?_
 obtain⟨al,rfl⟩:∃ al,v2=alV al u:=by
  refine Or.elim (zrk hv2) ?_ ?_
  intro nm
  subst nm
  rotate_left
  intro nm
  subst nm
  rotate_left
  ·exact⟨false,rfl⟩
  ·exact⟨true,rfl⟩
 let tx:=zak (.use p u al)
 have l1:=zaR p
 have l2:=ziq u
 have l3:=zmL al
 let σ2:List C:=[c2,.list [.tup (za9 .u0),.tup (za9 .u1),.tup (za9 .u2),.tup (za9 .u3)],.list [.str (zfK u),.str [111,116,104,101,114]]]
 let ρ2:Env:=((zde deep 5 p).set 9 (some (.tup (za9 u)))).set 10 (some (alV al u))
 refine znn (.use p u al) c2 ([.list [.tup (za9 .u0),.tup (za9 .u1),.tup (za9 .u2),.tup (za9 .u3)],.list [.str (zfK u),.str [111,116,104,101,114]],.list [.str tx,zaf (.int 0) (.use p u al)]]) 2 hc2 ?_ rfl
 refine zap (ρ1:=zde deep 5 p) (σ1:=[c]) rfl (zap (ρ1:=zde deep 5 p) (σ1:=[c]) rfl (zap (ρ1:=zde deep 5 p) (σ1:=[c]) rfl (zap (ρ1:=zde deep 5 p) (σ1:=[c]) rfl (zap (ρ1:=zde deep 5 p) (σ1:=[c]) rfl (zjb (b:=true) (σ1:=[c]) rfl ?_)))))
 refine zap (ρ1:=(zde deep 5 p).set 9 (some (.tup (za9 u)))) (σ1:=[c1,.list [.tup (za9 .u0),.tup (za9 .u1),.tup (za9 .u2),.tup (za9 .u3)]]) (zav (v:=.tup (za9 u)) (zad (vs:=[.loc 0,.loc 1]) (σ1:=[c,.list [.tup (za9 .u0),.tup (za9 .u1),.tup (za9 .u2),.tup (za9 .u3)]]) (by kernel_rfl) h1) (by exact Nat.le_of_ble_eq_true rfl)) ?_
 refine zap (ρ1:=ρ2) (σ1:=σ2) (zav (v:=alV al u) (zad (vs:=[.loc 0,.loc 2]) (σ1:=[c1,.list [.tup (za9 .u0),.tup (za9 .u1),.tup (za9 .u2),.tup (za9 .u3)],.list [.str (zfK u),.str [111,116,104,101,114]]]) (by induction u using U4.casesOn <;> kernel_rfl) h2) (by exact Nat.le_of_ble_eq_true rfl)) ?_
 refine fin (zcp (vs:=[.str tx,zaf (.int 0) (.use p u al)]) (σ1:=σ2) (zac (add_str (σ1:=σ2) (add_str (σ1:=σ2) (add_str (σ1:=σ2) (add_str (σ1:=σ2) (x:=zdG p) rfl rfl ?_) (zdv (s:=[58,58]) (v:=.tup (za9 u)) (l:=zmB u) (σ1:=σ2) rfl rfl rfl (by induction u using U4.casesOn <;> decide)) ?_) (y:=asT al) ?_ ?_) rfl ?_) (zag rfl)) (by exact Nat.le_of_ble_eq_true rfl))
 case refine_3=>induction u using U4.casesOn <;> induction al using Bool.casesOn <;> kernel_rfl
 all_goals exact Nat.le_trans (by repeat' first | assumption | apply zbq | exact Nat.le_refl _) (by decide)
theorem zvz:∃ i,zgg d deep 6 p c (.base i):=by
 refine znn (.const p) c ([.list [.str (zak (.const p)),zaf (.int 0) (.const p)]]) 0 hc ?_ rfl
 have l1:=zaR p
 refine zap (ρ1:=zde deep 6 p) (σ1:=[c]) rfl (zap (ρ1:=zde deep 6 p) (σ1:=[c]) rfl (zap (ρ1:=zde deep 6 p) (σ1:=[c]) rfl (zap (ρ1:=zde deep 6 p) (σ1:=[c]) rfl (zap (ρ1:=zde deep 6 p) (σ1:=[c]) rfl (zap (ρ1:=zde deep 6 p) (σ1:=[c]) rfl (zjb (b:=true) (σ1:=[c]) rfl ?_))))))
 refine fin (zcp (vs:=[.str (zak (.const p)),zaf (.int 0) (.const p)]) (σ1:=[c]) (zac (add_str (σ1:=[c]) (x:=zdG p) rfl rfl ?_) (zag (by kernel_rfl))) (by simp[LIM]))
 simp only[List.length_append,List.length_cons,List.length_nil]; unfold zaP; omega
end
end
section
theorem zj0 {lo:Lo}{deep:Int}{top:Int}{n:Nat}{p:Bool}{c c1 c2 c':C}{gs:List C}{v:V} (ht:(if 0 < deep then(8:Int) else 7)=top) (h1:lo.call zgA [.loc 0,.int top] [c]=.ok (.int n) [c1])
  (h2:lo.call zig [.loc 0] [c1]=.ok (.tup [.str (zdG p),.bool p]) [c2]) (h:zjQ (evSs TB true lo zpn (zde deep n p) [c2]) v (c'::gs)):zcC TB true lo zcP [.loc 0,.int deep] [c]=.ok v (c'::gs):=by
 refine zas (ρ:=[some (.loc 0),some (.int deep),none,none,none,none,none,none,none,none,none]) rfl ?_
 refine zap (ρ1:=[some (.loc 0),some (.int deep),some (.int n),none,none,none,none,none,none,none,none]) (σ1:=[c1]) (zav (zad (vs:=[.loc 0,.int top]) (σ1:=[c]) (zac rfl (zag ?_)) h1) (by exact Nat.le_of_ble_eq_true rfl)) ?_
 ·have e:evT TB true lo (.cmp .Gt (.x 1) (.c (.int 0))) [some (.loc 0),some (.int deep),none,none,none,none,none,none,none,none,none] [c]=.ok (decide (0 < deep)) [c]:=rfl
  refine zcH e ?_
  by_cases q:0 < deep
  ·replace ht:=(if_pos q)▸ht; subst ht; refine(decide_eq_true q).symm▸?_; rfl
  ·replace ht:=(if_neg q)▸ht; subst ht; refine(decide_eq_false q).symm▸?_; rfl
 ·exact zap (ρ1:=zde deep n p) (σ1:=[c2]) (zbU (zad (vs:=[.loc 0]) (zag rfl) h2) rfl) h

theorem zuX (d:Nat) (deep:Int) (p:Bool) {c:C} (hc:SC c) {n:Nat} (hn:n < 7):∃ i,zgg d deep n p c (.base i):=by
 rcases(show n=0∨n=1∨n=2∨n=3∨n=4∨n=5∨n=6 by omega) with rfl | rfl | rfl | rfl | rfl | rfl | rfl
 ·exact zvt d deep p hc
 ·exact zvu d deep p hc
 ·exact zvv d deep p hc
 ·exact zvw d deep p hc
 ·exact zvx d deep p hc
 ·exact zvy d deep p hc
 ·exact zvz d deep p hc

theorem zmN (d:Nat) {c:C} (hc:SC c) (gs0:List C):∃ i c',SC c'∧(EV (d+9)).call zgB [.loc 0,.int 0] (c::gs0)=.ok (.loc (gs0.length+1)) (c'::(gs0++[zgf zak (zaf (.int 0)) i])):=by
 refine bc fun hN=>?_
 refine zc0 (zbV (d+7) hc (top:=7) (by decide) (by decide) []) fun n c1 hc1 hn h1=>?_
 refine zaZ (zhj [] (d+5) hc1) fun p c2 hc2 h2=>?_
 refine zld (zuX d 0 p hc2 (n:=n) (by exact Int.ofNat_le.mp ‹_›)) fun i c3 gs k hc3 h3 h4=>?_
 refine hN ?_
 refine zdf i c3 hc3 (zcS (fn:=zcP) (k:=k+1) rfl rfl hc.plain (zj0 rfl h1 h2 h3) hc3.plain rfl h4 ?_)
 show(true&&(plain (zaf (.int 0) i)&&true))=true
 rw[zaN rfl]; rfl

theorem zvA (d:Nat) (p:Bool) {c:C} (hc:SC c):∃ i,zgg (d+2) 1 7 p c i:=by
 refine bc fun hN=>?_
 refine zc0 (zbV (d+9) hc (top:=3) (by decide) (by decide) []) fun n c2 hc2 hn h2=>?_
 let ρ1:Env:=zde 1 7 p
 obtain⟨as,c3,hc3,hl,h3⟩:=zjh (d:=d+10) (ρ:=ρ1) (σ:=[c]) (tx:=zak) (tr:=zaf (.int 0)) (cap:=[0,1]) (elt:=.call 73 (.cons (.x 0) (.cons (.bin .Sub (.x 1) (.c (.int 1))) .nil))) (ρ':=[some (.loc 0),some (.int 1)]) (n:=n) (it:=.range (.call 62 (.cons (.x 0) (.cons (.c (.int 3)) .nil)))) rfl (by omega)
  (zfj (zad (vs:=[.loc 0,.int 3]) (zac rfl (zag rfl)) h2) (by omega)) hc2 (fun v c hc gs=>by
   refine zaZ (zmN d hc gs) fun i c' hc' h=>?_
   refine zdf i c' hc' ?_
   show evE TB true (EV (d+9)) (.call 73 (.cons (.x 0) (.cons (.bin .Sub (.x 1) (.c (.int 1))) .nil))) [some (.loc 0),some (.int 1),some v] (c::gs)=_
   exact zad (vs:=[.loc 0,.int 0]) (σ1:=c::gs) (zac rfl (zag rfl)) h)
 obtain⟨fs,rfl⟩:=zqC hl (by exact Int.ofNat_le.mp ‹_›)
 obtain⟨l1,l2⟩:=zgF zec fs
 have l3:=zaR p
 let rows:List C:=fs.list.map (zgf zak (zaf (.int 0)))
 let σ3:List C:=c3::(rows++[.list (zbP 0 n)])
 have hrl:rows.length=n:=by simp[rows,hl]
 have hm:∀ (gs:List C),(c3::(rows++[.list (zbP 0 n)]++gs))[n+1]?=some (.list (zbP 0 fs.list.length)):=fun gs=>by
  rw[List.getElem?_cons_succ,List.append_assoc,List.getElem?_append_right (by omega),hrl,hl]; simp
 have hcol:∀ (ρ:Env) (gs:List C),ρ[8]?=some (some (.loc (n+1)))→_:=fun ρ gs h=>zmI (d:=d+9) (ρ:=ρ) (σ:=c3::(rows++[.list (zbP 0 n)]++gs)) (tx:=zak) (tr:=zaf (.int 0)) (as:=fs.list) (i:=8) h (hm gs) (by omega) (by rw[List.append_assoc]; exact zji)
 let tx:List Nat:=zaK (.mod p fs)
 let ρ3:Env:=ρ1.set 8 (some (.loc (n+1)))
 have k1:=(hcol ρ3 [] rfl).1
 let σ4:List C:=c3::(rows++[.list (zbP 0 n)]++[.list (fs.list.map fun a=>.str (zak a))])
 have k2:=(hcol ρ3 [.list (fs.list.map fun a=>.str (zak a))] rfl).2
 let σ5:List C:=σ4++[.list (fs.list.map (zaf (.int 0)))]
 have e3:(c3::(rows++[.list (zbP 0 n)]++[]))=σ3:=by simp[σ3]
 have e4:σ3++[.list (fs.list.map fun a=>V.str (zak a))]=σ4:=by rfl
 rw[e3,e4] at k1
 have s4:σ4[σ3.length]?=some (.list ((fs.list.map zak).map .str)):=by
  rw[← e4,zcq,List.map_map]; rfl
 have s5:σ5[σ4.length]?=some (.list (fs.list.map (zaf (.int 0)))):=zcq _ _
 refine hN ?_
 refine znn (.mod p fs) c3 (rows++[.list (zbP 0 n)]++[.list (fs.list.map fun a=>.str (zak a))]++[.list (fs.list.map (zaf (.int 0)))]++[.list [.str tx,zar (.int 0) (.mod p fs)]]) ((rows++[C.list (zbP 0 n)]++[C.list (fs.list.map fun a=>V.str (zak a))]++[C.list (fs.list.map (zaf (.int 0)))]).length) hc3 ?_ (zcq _ _)
 refine zap (ρ1:=zde 1 7 p) (σ1:=[c]) rfl (zap (ρ1:=zde 1 7 p) (σ1:=[c]) rfl (zap (ρ1:=zde 1 7 p) (σ1:=[c]) rfl (zap (ρ1:=zde 1 7 p) (σ1:=[c]) rfl (zap (ρ1:=zde 1 7 p) (σ1:=[c]) rfl (zap (ρ1:=zde 1 7 p) (σ1:=[c]) rfl (zap (ρ1:=zde 1 7 p) (σ1:=[c]) rfl ?_))))))
 refine zap (ρ1:=ρ3) (σ1:=σ3) (zav h3 (by simp[ρ1,zde])) ?_
 refine fin (Eq.trans (zcp (vs:=[.str tx,zar (.int 0) (.mod p fs)]) (σ1:=σ5) (zac (σ1:=σ4) (add_str (σ1:=σ4) (add_str (σ1:=σ3) (add_str (σ1:=σ3) (x:=zdG p) rfl rfl ?_) (zdv (s:=[32]) (l:=fs.list.map zak) (σ1:=σ3) rfl k1 (zjZ s4) (by unfold zaP; exact Nat.le_trans ‹_› (by decide))) ?_) rfl ?_) (zag (zaU (zac rfl (zac rfl (zac rfl (zac (zbK k2 s5 (by simp[hl]; unfold LIM; omega)) (zag rfl))))) (by simp[LIM])))) (by simp[LIM])) ?_)
 case refine_4=>rfl
 all_goals exact Nat.le_trans (by repeat' first | assumption | apply zbq | exact Nat.le_refl _) (by decide)

theorem zmO (d:Nat) {c:C} (hc:SC c) (gs0:List C):∃ i c',SC c'∧(EV (d+11)).call zgB [.loc 0,.int 1] (c::gs0)=.ok (.loc (gs0.length+1)) (c'::(gs0++[zgf zaK (zar (.int 0)) i])):=by
 refine bc fun hN=>?_
 refine zc0 (zbV (d+9) hc (top:=8) (by decide) (by decide) []) fun n c1 hc1 hn h1=>?_
 refine zaZ (zhj [] (d+7) hc1) fun p c2 hc2 h2=>?_
 obtain⟨i,c3,gs,k,hc3,h3,h4⟩:∃ i,zgg (d+2) 1 n p c2 i:=by
  refine Or.elim (Nat.lt_or_ge n 7) ?_ ?_
  intro q
  rotate_left
  intro q
  rotate_left
  ·refine zaF (zuX (d+2) 1 p hc2 q) fun i h=>?_
   exact⟨_,h⟩
  ·have:n=7:=by omega
   subst this
   exact zvA d p hc2
 refine hN ?_
 refine zdf i c3 hc3 (zcS (fn:=zcP) (k:=k+1) rfl rfl hc.plain (zj0 rfl h1 h2 h3) hc3.plain rfl h4 ?_)
 show(true&&(plain (zar (.int 0) i)&&true))=true
 rw[zfk rfl]; rfl
end
section
noncomputable def zaG:List Nat:=[32,9,13,10]
noncomputable def zbf:List Nat:=[97,98,99,100,101,102,103,104,105,106,107,108,109,110,111,112,113,114,115,116,117,118,119,120,121,122,65,66,67,68,69,70,71,72,73,74,75,76,77,78,79,80,81,82,83,84,85,86,87,88,89,90,95]
noncomputable def zaH:List Nat:=[97,98,99,100,101,102,103,104,105,106,107,108,109,110,111,112,113,114,115,116,117,118,119,120,121,122,65,66,67,68,69,70,71,72,73,74,75,76,77,78,79,80,81,82,83,84,85,86,87,88,89,90,95,48,49,50,51,52,53,54,55,56,57]
noncomputable def zdT:List Nat:=[48,49,50,51,52,53,54,55,56,57]
noncomputable def za2:List (List Nat):=[[60,60,61],[62,62,61],[46,46,61],[58,58],[45,62],[61,62],[61,61],[33,61],[60,61],[62,61],[38,38],[124,124],[60,60],[62,62],[46,46],[43,61],[45,61],[42,61],[47,61],[37,61],[38,61],[124,61],[94,61],[40],[41],[123],[125],[91],[93],[44],[59],[58],[46],[61],[60],[62],[43],[45],[42],[47],[37],[38],[124],[94],[33],[64]]

noncomputable def zcW (p:List Nat):List Nat→Nat
 | []=>0
 | c::r=>match zah c p with
  | true=>zcW p r+1
  | false=>0
theorem zgG {p:List Nat}{c:Nat}{r:List Nat} (h:zah c p=true):zcW p (c::r)=zcW p r+1:=by
 show(match zah c p with
  | true=>zcW p r+1
  | false=>0)=_
 refine h.symm▸?_
 with_reducible rfl
theorem zfQ {p:List Nat}{c:Nat}{r:List Nat} (h:zah c p=false):zcW p (c::r)=0:=by
 show(match zah c p with
  | true=>zcW p r+1
  | false=>0)=_
 refine h.symm▸?_
 with_reducible rfl
theorem zho (p:List Nat):∀ r:List Nat,zcW p r≤r.length
 | []=>Nat.le_refl _
 | c::r=>by
  induction h:zah c p using Bool.casesOn with
  | true=>rw[zgG h]; simpa using zho p r
  | false=>rw[zfQ h]; exact Nat.zero_le _
noncomputable def skip (r:List Nat):Option (List Nat):=match r.drop (zcW zaG r) with
 | []=>some []
 | c::r'=>match Nat.beq c 47 with
  | true=>none
  | false=>some (c::r')
noncomputable def sgn (r:List Nat):List (List Nat)→Option (List Nat)
 | []=>none
 | s::l=>match zan (r.take s.length) s with
  | true=>some s
  | false=>sgn r l
noncomputable def zsW:List Nat→Option (V×Nat)
 | []=>none
 | c::r=>match zah c zbf with
  | true=>some (nmT ((c::r).take (zcW zaH (c::r))),zcW zaH (c::r))
  | false=>match zah c zdT with
   | true=>match Nat.beq c 55,r with
    | true,d::_=>match Nat.beq d 32||Nat.beq d 59 with
     | true=>some (svT,1)
     | false=>none
    | _,_=>none
   | false=>match Nat.beq c 39 with
    | true=>match r with
     | d::r'=>match zah d zbf with
      | true=>some (rgT ((c::r).take (zcW zaH r+1)),zcW zaH r+1)
      | false=>none
     | []=>none
    | false=>match sgn (c::r) za2 with
     | some s=>some (sgT s,s.length)
     | none=>none
noncomputable def zjk:Nat→List Nat→Option (List V×List Nat)
 | 0,r=>some ([],r)
 | n+1,r=>match skip r with
  | none=>none
  | some r1=>match zsW r1 with
   | none=>none
   | some (t,k)=>match zjk n (r1.drop k) with
    | none=>none
    | some (ts,r2)=>some (t::ts,r2)
noncomputable def LxS (r:List Nat) (ts:List V):Prop:=∃ n r',zjk n r=some (ts,r')∧skip r'=some []

theorem zgH:∀ {n m:Nat}{a b c:List Nat}{ts us:List V},zjk n a=some (ts,b)→zjk m b=some (us,c)→zjk (n+m) a=some (ts++us,c)
 | 0,m,a,b,c,ts,us,h1,h2=>by
  cases h1
  rw[Nat.zero_add]; exact h2
 | n+1,m,a,b,c,ts,us,h1,h2=>by
  rw[Nat.succ_add]
  unfold zjk at h1 ⊢
  induction e1:skip a using Option.casesOn with
  | none=>replace h1:=e1▸h1; exact zaA h1
  | some r1=>
   replace h1:=e1▸h1
   dsimp only at h1 ⊢
   induction e2:zsW r1 using Option.casesOn with
   | none=>replace h1:=e2▸h1; exact zaA h1
   | some q=>
    obtain⟨t,k⟩:=q
    replace h1:=e2▸h1
    dsimp only at h1 ⊢
    cases e3:zjk n (r1.drop k) with
    | none=>replace h1:=e3▸h1; exact zaA h1
    | some q=>
     obtain⟨ts',r2⟩:=q
     replace h1:=e3▸h1
     cases h1
     refine(zgH e3 h2).symm▸?_; rfl
theorem pc {n:Nat}{w r:List Nat}{ts us:List V} (h:zjk n (w++r)=some (ts,r)) (h2:LxS r us):LxS (w++r) (ts++us):=by
 refine zaZ h2 ?_
 clear h2
 intro m r' e1 e2
 exact zdf (n+m) r' (zgH h e1) e2
theorem zk1 (r:List Nat):skip (32::r)=skip r:=rfl
theorem zmP (r:List Nat):skip (10::r)=skip r:=rfl
theorem bl {r:List Nat}{us:List V} (h:LxS r us):LxS (32::r) us:=by
 refine zaZ h ?_
 clear h
 intro n r' e1 e2
 induction n using Nat.casesOn with
 | zero=>
  cases e1
  exact zdf 0 _ rfl e2
 | succ n=>
  refine zdf (n+1) r' ?_ e2
  unfold zjk at e1 ⊢
  rw[zk1]; exact e1
theorem zuY {r:List Nat}{us:List V} (h:LxS r us):LxS (10::r) us:=by
 refine zaZ h ?_
 clear h
 intro n r' e1 e2
 induction n using Nat.casesOn with
 | zero=>
  cases e1
  exact zdf 0 _ rfl e2
 | succ n=>
  refine zdf (n+1) r' ?_ e2
  unfold zjk at e1 ⊢
  rw[zmP]; exact e1

section
variable {s:List Nat}{at':Nat}
theorem zjl {n i:Nat} (h:i < n) (hl:n≤zaP):idx (i:Nat) n=some i:=by
 have hneg:¬ ((i:Nat):Int) < 0:=by omega
 unfold idx
 simp only[if_neg hneg]
 rw[if_pos (by refine⟨by exact Int.ofNat_nonneg _,by exact Int.ofNat_le.mpr ‹_›,hl⟩)]
 congr 1
theorem zc9 {c:Nat}{r:List Nat}{a:Nat} (h:s.drop a=c::r):a < s.length:=by
 refine Or.elim (Nat.lt_or_ge a s.length) ?_ ?_
 intro q
 rotate_left
 intro q
 rotate_left
 ·exact q
 ·rw[List.drop_eq_nil_iff.mpr q] at h; exact zu2 h
theorem zoy {c:Nat}{r:List Nat}{a:Nat} (h:s.drop a=c::r):s[a]?=some c:=by
 have e:(s.drop a)[0]?=some c:=by rw[h]; rfl
 rw[List.getElem?_drop] at e
 simpa using e
theorem zfR {c:Nat}{r:List Nat}{a:Nat} (h:s.drop a=c::r):s.drop (a+1)=r:=by refine List.tail_drop▸?_; refine h.symm▸?_; rfl
theorem zeV {σ:List C}{c:Nat}{r:List Nat}{a:Nat} (hl:s.length≤zaP) (h:s.drop a=c::r):zfa σ (.str s) (.int (a:Nat))=some (.str [c]):=by
 show(match idx (a:Nat) s.length with
  | some j=>(match s[j]? with
   | some c=>some (V.str [c])
   | none=>none)
  | none=>none)=_
 refine(zjl (zc9 h) hl).symm▸?_
 dsimp only
 refine(zoy h).symm▸?_
 with_reducible rfl
theorem len_str {T:Tab}{prim:Bool}{lo:Lo}{ρ:Env}{σ:List C}{i:Nat} (hl:s.length≤zaP) (h:ρ[i]?=some (some (.str s))):evE T prim lo (.bi .len (.cons (.x i) .nil)) ρ σ=.ok (.int s.length) σ:=by
 show(evEs T prim lo (.cons (.x i) .nil) ρ σ).bind _=_
 refine(zag (zbo h)).symm▸?_
 show(match (if s.length≤zaP then some s.length else none) with
  | some n=>R.ok (V.int n) σ
  | none=>.stuck)=_
 refine(if_pos hl).symm▸?_
 with_reducible rfl
end
theorem zpo {T:Tab}{prim:Bool}{lo:Lo}{ρ:Env}{σ:List C}{e:E}{es:Es}{k b:Bool} (h:evT T prim lo e ρ σ=.ok b σ):evT T prim lo (.bop k (.cons e es)) ρ σ=if b == k then evTs T prim lo k es ρ σ else .ok b σ:=zbn h

theorem zdw {lo:Lo}{t:E}{b:Ss}{n:Nat}{ρ:Env}{σ σ1:List C} (h:lo.tr t ρ σ=.ok false σ1):zf3 lo t b (n+1) ρ σ=.ok (.next,ρ) σ1:=by
 rw[zhC,h]
theorem zda {lo:Lo}{t:E}{b:Ss}{n:Nat}{ρ ρ1:Env}{σ σ1 σ2:List C} (h:lo.tr t ρ σ=.ok true σ1) (h2:lo.st b ρ σ1=.ok (.next,ρ1) σ2):zf3 lo t b (n+1) ρ σ=zf3 lo t b n ρ1 σ2:=by
 rw[zhC,h]; dsimp only; rw[h2]
theorem zqD {lo:Lo}{t:E}{b:Ss}{n:Nat}{ρ ρ1:Env}{σ σ1 σ2:List C}{v:V} (h:lo.tr t ρ σ=.ok true σ1) (h2:lo.st b ρ σ1=.ok (.ret v,ρ1) σ2):zf3 lo t b (n+1) ρ σ=.ok (.ret v,ρ1) σ2:=by
 rw[zhC,h]; dsimp only; rw[h2]

noncomputable def ztz:E:=(.bop true (.cons (.cmp .Lt (.x 1) (.bi .len (.cons (.x 0) .nil))) (.cons (.cmp .In (.sub (.x 0) (.x 1)) (.x 2)) .nil)))
theorem zj1 (d:Nat) {s p:List Nat} (hl:s.length≤zaP):∀ (r:List Nat) (a n:Nat),s.drop a=r→a≤s.length→r.length < n →
  zf3 (EV (d+1)) ztz (.cons (.aug 1 .Add (.c (.int 1))) .nil) n [some (.str s),some (.int a),some (.str p)] []=.ok (.next,[some (.str s),some (.int ((a+zcW p r:Nat):Int)),some (.str p)]) []
 | [],a,n,h,ha,hn=>by
  obtain⟨n,rfl⟩:∃ m,n=m+1:=⟨n-1,by simp at hn; exact(Nat.sub_add_cancel ‹_›).symm⟩
  have e1:evT TB true (EV d) (.cmp .Lt (.x 1) (.bi .len (.cons (.x 0) .nil))) [some (.str s),some (.int a),some (.str p)] []=.ok false []:=by
   refine za8 (u:=.int a) (v:=.int s.length) rfl (len_str hl rfl) ?_
   show some (decide _)=_
   have:=List.drop_eq_nil_iff.mp h
   rw[decide_eq_false (by omega)]
  refine(zdw (σ1:=[]) ?_).trans (by rfl)
  show evT TB true (EV d) ztz _ _=_
  exact(zpo e1).trans rfl
 | c::r,a,n,h,ha,hn=>by
  obtain⟨n,rfl⟩:∃ m,n=m+1:=⟨n-1,by simp at hn; omega⟩
  have hlt:=zc9 h
  have e1:evT TB true (EV d) (.cmp .Lt (.x 1) (.bi .len (.cons (.x 0) .nil))) [some (.str s),some (.int a),some (.str p)] []=.ok true []:=by
   refine za8 (u:=.int a) (v:=.int s.length) rfl (len_str hl rfl) ?_
   show some (decide _)=_
   rw[decide_eq_true (by exact Int.ofNat_le.mpr ‹_›)]
  have e2:evT TB true (EV d) (.cmp .In (.sub (.x 0) (.x 1)) (.x 2)) [some (.str s),some (.int a),some (.str p)] []=.ok (zah c p) []:=
   za8 (u:=.str [c]) (v:=.str p) (zbg (u:=.str s) (w:=.int a) rfl rfl (zeV hl h)) rfl rfl
  have e3:evT TB true (EV d) ztz [some (.str s),some (.int a),some (.str p)] []=.ok (zah c p) []:=by
   refine(zpo e1).trans ((zbn e2).trans ?_)
   induction zah c p using Bool.casesOn <;> rfl
  induction q:zah c p using Bool.casesOn with
  | false=>
   rw[q] at e3
   refine(zdw (σ1:=[]) e3).trans ?_
   rw[zfQ q]; rfl
  | true=>
   rw[q] at e3
   refine(zda (ρ1:=[some (.str s),some (.int ((a+1:Nat):Int)),some (.str p)]) (σ1:=[]) (σ2:=[]) e3 ?_).trans ?_
   ·show evSs TB true (EV d) _ _ _=_
    rfl
   ·rw[zj1 d hl r (a+1) n (zfR h) hlt (by simp at hn; assumption)]
    rw[zgG q]
    rw[show a+1+zcW p r=a+(zcW p r+1) by exact Nat.add_right_comm _ _ _]
theorem zdJ (d:Nat) {s p:List Nat}{a:Nat} (hl:s.length < 5000) (ha:a≤s.length) (σ:List C):(EV (d+2)).call zms [.str s,.int a,.str p] σ=.ok (.int ((a+zcW p (s.drop a):Nat):Int)) σ:=by
 refine zbe (fn:=zh8) (gs':=[]) rfl rfl (zas (ρ:=[some (.str s),some (.int a),some (.str p)]) rfl ?_) rfl
 refine zap (ρ1:=[some (.str s),some (.int ((a+zcW p (s.drop a):Nat):Int)),some (.str p)]) (σ1:=[]) ?_ (fin rfl)
 show zf3 (EV (d+1)) ztz (.cons (.aug 1 .Add (.c (.int 1))) .nil) zd1 _ _=_
 exact zj1 d (by unfold zaP; omega) _ _ _ rfl ha (by refine List.length_drop.symm▸?_; unfold zd1; omega)
end
section
theorem zir {p:List Nat}:∀ {r:List Nat}{c:Nat}{r':List Nat},r.drop (zcW p r)=c::r'→zah c p=false
 | [],c,r',h=>by simp at h
 | x::r,c,r',h=>by
  induction q:zah x p using Bool.casesOn with
  | true=>replace h:=(zgG q)▸h; replace h:=List.drop_succ_cons▸h; exact zir h
  | false=>replace h:=(zfQ q)▸h; cases h; exact q
theorem zoz {α:Type} (s:List α) (a k:Nat):(s.take (a+k)).drop a=(s.drop a).take k:=by
 rw[List.drop_take]; congr 1; exact Nat.add_sub_cancel_left ..
section
variable {T:Tab}{prim:Bool}{lo:Lo}{ρ:Env}{σ:List C}
theorem zoA {s:List Nat}{i j a:Nat} (hl:s.length≤zaP) (hi:ρ[i]?=some (some (.int (a:Nat)))) (hj:ρ[j]?=some (some (.str s))):evT T prim lo (.cmp .Lt (.x i) (.bi .len (.cons (.x j) .nil))) ρ σ=.ok (decide (a < s.length)) σ:=by
 refine za8 (u:=.int a) (v:=.int s.length) (zbo hi) (len_str hl hj) ?_
 show some (decide _)=_
 congr 1
 exact decide_eq_decide.mpr (by omega)
theorem zfS {s:List Nat}{a b c:E}{i k:Nat} (hl:s.length≤zaP) (h1:evE T prim lo a ρ σ=.ok (.str s) σ) (h2:evE T prim lo b ρ σ=.ok (.int (i:Nat)) σ) (h3:evE T prim lo c ρ σ=.ok (.int ((i+k:Nat):Int)) σ):evE T prim lo (.sl a b c) ρ σ=.ok (.str ((s.drop i).take k)) σ:=by
 refine zor h1 h2 h3 ?_
 show(match (if 0≤(i:Int)∧0≤((i+k:Nat):Int) then some ((s.take ((i+k:Nat):Int).toNat).drop (i:Int).toNat) else none) with
  | some r=>if r.length≤zaP then R.ok (V.str r) σ else .stuck
  | none=>.stuck)=_
 rw[if_pos (by omega)]
 dsimp only
 rw[Int.toNat_natCast,Int.toNat_natCast,zoz,if_pos (by rw[List.length_take,List.length_drop]; omega)]
theorem eq_str {a b:E}{x y:List Nat}{σ1 σ2:List C} (h1:evE T prim lo a ρ σ=.ok (.str x) σ1) (h2:evE T prim lo b ρ σ1=.ok (.str y) σ2):evT T prim lo (.cmp .Eq a b) ρ σ=.ok (zan x y) σ2:=za8 h1 h2 rfl
theorem zhp {i:Nat}{a k:Nat} (hi:ρ[i]?=some (some (.int (a:Nat)))):evE T prim lo (.bin .Add (.x i) (.c (.int (k:Nat)))) ρ σ=.ok (.int ((a+k:Nat):Int)) σ:=zcR (u:=.int a) (v:=.int k) (zbo hi) rfl rfl
end

noncomputable def blT:E:=(.cmp .Lt (.x 1) (.bi .len (.cons (.x 0) .nil)))
noncomputable def blB:Ss:=match zd8.body with
 | .cons (.whl _ b) _=>b
 | _=>.nil
theorem zmQ {T:Tab}{prim:Bool}{lo:Lo}{ρ:Env}{σ:List C}{s:List Nat}{a:Nat} (hl:s.length≤zaP) (hi:ρ[1]?=some (some (.int (a:Nat)))) (hj:ρ[0]?=some (some (.str s))):evT T prim lo blT ρ σ=.ok (decide (a < s.length)) σ:=zoA hl hi hj
theorem zmR (d:Nat) {s:List Nat}{a c n:Nat}{r:List Nat} (hl:s.length≤zaP) (h:s.drop a=c::r) (h1:zah c zaG=false) (h2:Nat.beq c 47=false) (v:Option V) :
  zf3 (EV (d+1)) blT blB (n+1) [some (.str s),some (.int a),v] []=.ok (.ret (.int a),[some (.str s),some (.int a),v]) []:=by
 have e0:evT TB true (EV d) blT [some (.str s),some (.int a),v] []=.ok true []:=by
  rw[zmQ (s:=s) (a:=a) hl rfl rfl,decide_eq_true (zc9 h)]
 have e1:evT TB true (EV d) (.cmp .In (.sub (.x 0) (.x 1)) (.g 1)) [some (.str s),some (.int a),v] []=.ok false []:=by
  refine h1▸?_
  exact za8 (u:=.str [c]) (v:=.str zaG) (zbg (u:=.str s) (w:=.int a) rfl rfl (zeV hl h)) rfl rfl
 have sl:evE TB true (EV d) (.sl (.x 0) (.x 1) (.bin .Add (.x 1) (.c (.int 2)))) [some (.str s),some (.int a),v] []=.ok (.str ((c::r).take 2)) []:=by
  refine h▸?_; exact zfS hl rfl rfl (zhp (k:=2) rfl)
 have q:∀ x,zan ((c::r).take 2) [47,x]=false:=fun x=>by
  show(Nat.beq c 47&&_)=false
  refine h2.symm▸?_; rfl
 have e2:evT TB true (EV d) (.cmp .Eq (.sl (.x 0) (.x 1) (.bin .Add (.x 1) (.c (.int 2)))) (.c (.str [47,47]))) [some (.str s),some (.int a),v] []=.ok false []:=by
  refine(q 47)▸?_; exact eq_str sl rfl
 have e3:evT TB true (EV d) (.cmp .Eq (.sl (.x 0) (.x 1) (.bin .Add (.x 1) (.c (.int 2)))) (.c (.str [47,42]))) [some (.str s),some (.int a),v] []=.ok false []:=by
  refine(q 42)▸?_; exact eq_str sl rfl
 refine zqD (σ1:=[]) e0 ?_
 show evSs TB true (EV d) blB _ _=_
 refine zaQ ((zaT e1).trans ?_)
 refine zaQ ((zaT e2).trans ?_)
 refine zaQ ((zaT e3).trans ?_)
 exact zaQ (ze7 rfl)
theorem zk2 (d:Nat) {s:List Nat}{a n:Nat} (hl:s.length≤zaP) (h:s.length≤a) (v:Option V) :
  zf3 (EV (d+1)) blT blB (n+1) [some (.str s),some (.int a),v] []=.ok (.next,[some (.str s),some (.int a),v]) []:=by
 have e0:evT TB true (EV d) blT [some (.str s),some (.int a),v] []=.ok false []:=by
  rw[zmQ (s:=s) (a:=a) hl rfl rfl,decide_eq_false (by omega)]
 exact zdw (σ1:=[]) e0
theorem zis (d:Nat) {s:List Nat}{a n:Nat}{r:List Nat} (hl:s.length < 5000) (ha:a≤s.length) (h:skip (s.drop a)=some r) (h0:zcW zaG (s.drop a)=0) (v:Option V) :
  s.drop a=r∧∃ fl,zf3 (EV (d+1)) blT blB (n+1) [some (.str s),some (.int a),v] []=.ok (fl,[some (.str s),some (.int a),v]) []∧(fl=.next∨fl=.ret (.int a)):=by
 have hs:s.length≤zaP:=by unfold zaP; omega
 unfold skip at h
 rw[h0,List.drop_zero] at h
 induction q:s.drop a using List.casesOn with
 | nil=>
  rw[q] at h
  have ee:=Option.some.inj h
  clear h
  subst ee
  exact⟨rfl,.next,zk2 d hs (List.drop_eq_nil_iff.mp q) v,.inl rfl⟩
 | cons c r'=>
  rw[q] at h
  dsimp only at h
  induction q2:Nat.beq c 47 using Bool.casesOn with
  | true=>rw[q2] at h; exact zaA h
  | false=>
   rw[q2] at h
   have ee:=Option.some.inj h
   clear h
   subst ee
   refine⟨rfl,.ret (.int a),zmR d hs q ?_ q2 v,.inr rfl⟩
   have:(s.drop a).drop (zcW zaG (s.drop a))=c::r':=by rw[h0,List.drop_zero,q]
   exact zir this
theorem zfT {p:List Nat}:∀ r:List Nat,zcW p (r.drop (zcW p r))=0
 | []=>rfl
 | c::r=>by
  induction q:zah c p using Bool.casesOn with
  | true=>refine(zgG q).symm▸?_; refine List.drop_succ_cons.symm▸?_; exact zfT r
  | false=>refine(zfQ q).symm▸?_; refine List.drop_zero.symm▸?_; refine(zfQ q).symm▸?_; with_reducible rfl
theorem zmS {r r':List Nat} (h:skip r=some r'):skip (r.drop (zcW zaG r))=some r':=by
 unfold skip at h ⊢
 rw[zfT,List.drop_zero]; exact h
theorem zj2 (d:Nat) {s:List Nat}{a:Nat}{r:List Nat} (hl:s.length < 5000) (ha:a≤s.length) (h:skip (s.drop a)=some r) (σ:List C):∃ a':Nat,a'≤s.length∧s.drop a'=r∧(EV (d+4)).call zfE [.str s,.int a] σ=.ok (.int a') σ:=by
 have hs:s.length≤zaP:=by unfold zaP; omega
 have fin:∀ (a':Nat) (fl:Fl),(fl=.next∨fl=.ret (.int a'))→zf3 (EV (d+3)) blT blB zd1 [some (.str s),some (.int a),none] []=.ok (fl,[some (.str s),some (.int a'),none]) []→(EV (d+4)).call zfE [.str s,.int a] σ=.ok (.int a') σ:=fun a' fl hfl hw=>by
  refine zbe (fn:=zd8) (gs':=[]) rfl rfl (zas (ρ:=[some (.str s),some (.int a),none]) rfl ?_) rfl
  refine Or.elim hfl ?_ ?_
  clear hfl
  intro nm
  subst nm
  rotate_left
  clear hfl
  intro nm
  subst nm
  rotate_left
  ·exact zap (ρ1:=[some (.str s),some (.int a'),none]) (σ1:=[]) hw (Lake.fin rfl)
  ·exact⟨_,zaQ hw⟩
 by_cases h0:zcW zaG (s.drop a)=0
 ·obtain⟨e,fl,hw,hfl⟩:=zis (d+2) (n:=99999) hl ha h h0 none
  exact zle a ha e (fin a fl hfl hw)
 ·-- one turn over the blanks
  induction q:s.drop a using List.casesOn with
  | nil=>replace h0:=q▸h0; exact absurd rfl h0
  | cons c r'=>
   have hc:zah c zaG=true:=by
    induction z:zah c zaG using Bool.casesOn with
    | true=>rfl
    | false=>replace h0:=q▸h0; replace h0:=(zfQ z)▸h0; exact absurd rfl h0
   have ha':a+zcW zaG (s.drop a)≤s.length:=by
    have:=zho zaG (s.drop a)
    replace this:=List.length_drop▸this; omega
   have hd:s.drop (a+zcW zaG (s.drop a))=(s.drop a).drop (zcW zaG (s.drop a)):=by refine List.drop_drop.symm▸?_; with_reducible rfl
   obtain⟨e,fl,hw,hfl⟩:=zis (d+2) (n:=99998) hl ha' (r:=r) (by refine hd.symm▸?_; exact zmS h) (by refine hd.symm▸?_; exact zfT _) none
   refine zle _ ha' e (fin _ fl hfl ?_)
   have e0:evT TB true (EV (d+2)) blT [some (.str s),some (.int a),none] []=.ok true []:=by
    rw[zmQ (s:=s) (a:=a) hs rfl rfl,decide_eq_true (zc9 q)]
   have e1:evT TB true (EV (d+2)) (.cmp .In (.sub (.x 0) (.x 1)) (.g 1)) [some (.str s),some (.int a),none] []=.ok true []:=by
    refine hc▸?_
    exact za8 (u:=.str [c]) (v:=.str zaG) (zbg (u:=.str s) (w:=.int a) rfl rfl (zeV hs q)) rfl rfl
   refine(zda (n:=99999) (σ1:=[]) (σ2:=[]) (ρ1:=[some (.str s),some (.int ((a+zcW zaG (s.drop a):Nat):Int)),none]) e0 ?_).trans hw
   show evSs TB true (EV (d+2)) blB _ _=_
   refine(zaj ((zaT e1).trans ((zaj (ρ1:=[some (.str s),some (.int ((a+zcW zaG (s.drop a):Nat):Int)),none]) (σ1:=[]) (zav (zad (vs:=[.str s,.int a,.str zaG]) (σ1:=[]) rfl (zdJ d hl ha [])) (by exact Nat.le_of_ble_eq_true rfl))).trans rfl))).trans rfl

noncomputable def sgB:Ss:=match zd9.body with
 | .cons (.for_ _ _ b) _=>b
 | _=>.nil
noncomputable def zsX (k t:List Nat) (a:Nat) (x y:V) (e:Nat):V:=.tup [.tup [.str k,.str t,.int a,x,y],.int e]
theorem zit (d:Nat) {s:List Nat}{a:Nat} (hl:s.length < 5000) (sg:List Nat):∀ (l:List (List Nat)) (j n:Nat) (v:Option V),za2.drop j=l→l.length < n→(∀ x∈l,x.length≤3)→sgn (s.drop a) l=some sg →
  ∃ ρ',zgU (EV (d+1)) 2 sgB (.fixed (za2.map .str)) n j [some (.str s),some (.int a),v] []=.ok (.ret (zsX zbu sg a .none .none (a+sg.length)),ρ') []
 | [],j,n,v,hj,hn,hx,h=>by cases h
 | x::l,j,n,v,hj,hn,hx,h=>by
  have hs:s.length≤zaP:=by unfold zaP; omega
  obtain⟨n,rfl⟩:∃ m,n=m+1:=⟨n-1,by simp at hn; omega⟩
  have hsrc:zef [] (.fixed (za2.map .str)) j=some (some (.str x)):=by
   show some (za2.map V.str)[j]?=_
   have e:(za2.drop j)[0]?=some x:=by refine hj.symm▸?_; rfl
   replace e:=(List.getElem?_drop)▸e
   refine(List.getElem?_map).symm▸?_; refine(show za2[j]?=some x by exact e).symm▸?_; rfl
  have hx3:=hx x (List.mem_cons_self ..)
  have lenx:evE TB true (EV d) (.bi .len (.cons (.x 2) .nil)) [some (.str s),some (.int a),some (.str x)] []=.ok (.int x.length) []:=len_str (by unfold zaP; exact Nat.le_trans ‹_› (by decide)) rfl
  have pl:evE TB true (EV d) (.bin .Add (.x 1) (.bi .len (.cons (.x 2) .nil))) [some (.str s),some (.int a),some (.str x)] []=.ok (.int ((a+x.length:Nat):Int)) []:=zcR (u:=.int a) (v:=.int x.length) rfl lenx rfl
  have e1:evT TB true (EV d) (.cmp .Eq (.sl (.x 0) (.x 1) (.bin .Add (.x 1) (.bi .len (.cons (.x 2) .nil)))) (.x 2)) [some (.str s),some (.int a),some (.str x)] []=.ok (zan ((s.drop a).take x.length) x) []:=eq_str (zfS hs rfl rfl pl) rfl
  unfold sgn at h
  cases q:zan ((s.drop a).take x.length) x with
  | true=>
   rw[q] at h e1
   cases h
   have e2:evE TB true (EV d) (.tup (.cons (.tup (.cons (.c (.str [115,105,103,110])) (.cons (.x 2) (.cons (.x 1) (.cons (.c .none) (.cons (.c .none) .nil)))))) (.cons (.bin .Add (.x 1) (.bi .len (.cons (.x 2) .nil))) .nil))) [some (.str s),some (.int a),some (.str sg)] []=.ok (zsX zbu sg a .none .none (a+sg.length)) []:=
    zaU (zac rfl (zag pl)) (by exact Nat.le_of_ble_eq_true rfl)
   refine⟨[some (.str s),some (.int a),some (.str sg)],?_⟩
   unfold zgU
   refine hsrc.symm▸?_
   dsimp only
   have:(EV (d+1)).st sgB ([some (.str s),some (.int a),v].set 2 (some (.str sg))) []=.ok (.ret (zsX zbu sg a .none .none (a+sg.length)),[some (.str s),some (.int a),some (.str sg)]) []:=by
    show evSs TB true (EV d) sgB [some (.str s),some (.int a),some (.str sg)] []=_
    exact zaQ ((zaT e1).trans (zaQ (ze7 e2)))
   refine this.symm▸?_
   with_reducible rfl
  | false=>
   rw[q] at h e1
   obtain⟨ρ',ih⟩:=zit d hl sg l (j+1) n (some (.str x)) (by refine List.tail_drop▸?_; refine hj.symm▸?_; rfl) (by simp at hn; assumption) (fun y hy=>hx y (List.mem_cons_of_mem _ hy)) h
   refine⟨ρ',Eq.trans ?_ ih⟩
   refine zcy (T:=TB) (prim:=true) (v:=.str x) hsrc ?_
   show evSs TB true (EV d) sgB [some (.str s),some (.int a),some (.str x)] []=_
   exact(zaj ((zaT e1).trans rfl)).trans rfl
theorem zqE (d:Nat) {s:List Nat}{a:Nat}{sg:List Nat} (hl:s.length < 5000) (h:sgn (s.drop a) za2=some sg) (σ:List C):(EV (d+2)).call ziZ [.str s,.int a] σ=.ok (zsX zbu sg a .none .none (a+sg.length)) σ:=by
 refine zaF (zit d hl sg za2 0 zbb none rfl (by decide) (by decide) h) fun ρ' hw=>?_
 refine zbe (fn:=zd9) (gs':=[]) rfl rfl (zas (ρ:=[some (.str s),some (.int a),none]) rfl ?_) rfl
 exact⟨ρ',zaQ (zjU (T:=TB) (prim:=true) (u:=.tup (za2.map .str)) (src:=.fixed (za2.map .str)) (σ1:=[]) rfl rfl (by exact Nat.le_of_ble_eq_true rfl) hw)⟩
end
section
theorem zpp (d:Nat) (σ:List C):(EV (d+1)).call zcG [.str [55]] σ=.ok (.int 7) σ:=zbe (fn:=zbZ) (gs':=[]) rfl rfl (by kernel_rfl) rfl
theorem zsY (d:Nat) (σ:List C) {c:Nat} (h:c=32∨c=59):(EV (d+1)).call zcG [.str [c]] σ=.ok (.int 99) σ:=by
 refine Or.elim h ?_ ?_
 clear h
 intro nm
 subst nm
 rotate_left
 clear h
 intro nm
 subst nm
 rotate_left
 ·exact zbe (fn:=zbZ) (gs':=[]) rfl rfl (by kernel_rfl) rfl
 ·exact zbe (fn:=zbZ) (gs':=[]) rfl rfl (by kernel_rfl) rfl
theorem zqF (d:Nat) {s:List Nat}{a c:Nat}{r:List Nat} (hl:s.length≤zaP) (h:s.drop a=55::c::r) (σ:List C):(EV (d+1)).call zmt [.str s,.int a] σ=.ok (.tup [.int 10,.int a]) σ:=by
 refine zbe (fn:=zh9) (gs':=[.dict [([48,120],.int 16),([48,111],.int 8),([48,98],.int 2)]]) rfl rfl (zas (ρ:=[some (.str s),some (.int a),none,none]) rfl ?_) rfl
 refine zap (ρ1:=[some (.str s),some (.int a),some (.loc 0),none]) (σ1:=[.dict [([48,120],.int 16),([48,111],.int 8),([48,98],.int 2)]]) rfl ?_
 have e:(s.drop a).take 2=[55,c]:=by refine h.symm▸?_; rfl
 refine zap (ρ1:=[some (.str s),some (.int a),some (.loc 0),some (.str [55,c])]) (σ1:=[.dict [([48,120],.int 16),([48,111],.int 8),([48,98],.int 2)]]) (zav (by refine e▸?_; exact zfS hl rfl rfl (zhp (k:=2) rfl)) (by exact Nat.le_of_ble_eq_true rfl)) ?_
 exact Lake.fin (zcH (q:=false) (σ1:=[.dict [([48,120],.int 16),([48,111],.int 8),([48,98],.int 2)]]) (za8 (u:=.str [55,c]) (v:=.loc 0) rfl rfl (by rfl)) (by rfl))

noncomputable def ztA:E:=(.bop true (.cons (.cmp .Lt (.x 3) (.bi .len (.cons (.x 0) .nil))) (.cons (.bop false (.cons (.cmp .Eq (.sub (.x 0) (.x 3)) (.c (.str [95]))) (.cons (.cmp .Lt (.call 9 (.cons (.sub (.x 0) (.x 3)) .nil)) (.x 2)) .nil))) .nil)))
noncomputable def zuZ:Ss:=match zeI.body with
 | .cons _ (.cons _ (.cons (.whl _ b) _))=>b
 | _=>.nil
theorem zsZ (d:Nat) {s:List Nat}{a c:Nat}{r:List Nat} (hl:s.length < 5000) (h:s.drop a=55::c::r) (hc:c=32∨c=59) (σ:List C):(EV (d+4)).call zkN [.str s,.int a] σ=.ok (zsX [105,110,116] [55] a (.int 7) .none (a+1)) σ:=by
 have hs:s.length≤zaP:=by unfold zaP; omega
 have h':s.drop (a+1)=c::r:=zfR h
 have l1:=zc9 h
 have l2:=zc9 h'
 let ρ2:Env:=[some (.str s),some (.int a),some (.int 10),some (.int a),some (.int 0),some (.int 0),none,none]
 let ρ3:Env:=[some (.str s),some (.int a),some (.int 10),some (.int ((a+1:Nat):Int)),some (.int 7),some (.int 1),none,none]
 have sb:∀ {i:Nat}{x:Nat}{r:List Nat}{ρ:Env}{lo:Lo} (h:s.drop i=x::r) (h0:ρ[0]?=some (some (.str s))) (h3:ρ[3]?=some (some (.int (i:Nat)))),evE TB true lo (.sub (.x 0) (.x 3)) ρ []=.ok (.str [x]) []:=fun h h0 h3=>zbg (zbo h0) (zbo h3) (zeV hs h)
 have orT:∀ {x w:Nat}{q:Bool}{r:List Nat}{ρ:Env}{i:Nat} (h:s.drop i=x::r) (h0:ρ[0]?=some (some (.str s))) (h2:ρ[2]?=some (some (.int 10))) (h3:ρ[3]?=some (some (.int (i:Nat)))) (hx:zan [x] [95]=false) (hw:(EV (d+1+1)).call zcG [.str [x]] []=.ok (.int w) []) (hq:decide ((w:Int) < 10)=q),
   evT TB true (EV (d+2)) ztA ρ []=.ok q []:=fun{x w q r ρ i} h h0 h2 h3 hx hw hq=>by
  have a1:evT TB true (EV (d+2)) (.cmp .Lt (.x 3) (.bi .len (.cons (.x 0) .nil))) ρ []=.ok true []:=by
   refine(zoA (s:=s) (a:=i) hs h3 h0).symm▸?_
   refine(decide_eq_true (zc9 h)).symm▸?_
   with_reducible rfl
  have a2:evT TB true (EV (d+2)) (.cmp .Eq (.sub (.x 0) (.x 3)) (.c (.str [95]))) ρ []=.ok false []:=by
   refine hx▸?_; exact eq_str (sb h h0 h3) rfl
  have a3:evT TB true (EV (d+2)) (.cmp .Lt (.call 9 (.cons (.sub (.x 0) (.x 3)) .nil)) (.x 2)) ρ []=.ok q []:=by
   refine hq▸?_
   exact za8 (u:=.int w) (v:=.int 10) (zad (vs:=[.str [x]]) (zag (sb h h0 h3)) hw) (zbo h2) rfl
  have a4:evT TB true (EV (d+2)) (.bop false (.cons (.cmp .Eq (.sub (.x 0) (.x 3)) (.c (.str [95]))) (.cons (.cmp .Lt (.call 9 (.cons (.sub (.x 0) (.x 3)) .nil)) (.x 2)) .nil))) ρ []=.ok q []:=by
   refine(zpo a2).trans ((zbn a3).trans ?_)
   induction q using Bool.casesOn <;> rfl
  refine(zpo a1).trans ((zbn a4).trans ?_)
  induction q using Bool.casesOn <;> rfl
 have t1:evT TB true (EV (d+2)) ztA ρ2 []=.ok true []:=orT (w:=7) h rfl rfl rfl (by rfl) (zpp (d+1) []) (by decide)
 have t2:evT TB true (EV (d+2)) ztA ρ3 []=.ok false []:=orT (w:=99) h' rfl rfl rfl (by rcases hc with rfl | rfl <;> rfl) (zsY (d+1) [] hc) (by decide)
 have b1:evSs TB true (EV (d+2)) zuZ ρ2 []=.ok (.next,ρ3) []:=by
  have a2:evT TB true (EV (d+2)) (.cmp .NotEq (.sub (.x 0) (.x 3)) (.c (.str [95]))) ρ2 []=.ok true []:=za8 (sb h rfl rfl) rfl rfl
  have a3:evE TB true (EV (d+2)) (.bin .Add (.bin .Mult (.x 4) (.x 2)) (.call 9 (.cons (.sub (.x 0) (.x 3)) .nil))) ρ2 []=.ok (.int 7) []:=
   zcR (u:=.int 0) (v:=.int 7) (σ1:=[]) (σ2:=[]) rfl (zad (vs:=[.str [55]]) (zag (sb h rfl rfl)) (zpp (d+1) [])) rfl
  refine(zaj (ρ1:=[some (.str s),some (.int a),some (.int 10),some (.int a),some (.int 7),some (.int 1),none,none]) (σ1:=[]) ((zaT a2).trans ((zaj (zbU (vs:=[.int 7,.int 1]) (zaU (zac a3 (zag rfl)) (by trivial)) rfl)).trans rfl))).trans ?_
  rfl
 have hw:zf3 (EV (d+3)) ztA zuZ zd1 ρ2 []=.ok (.next,ρ3) []:=
  (zda (n:=99999) (σ1:=[]) (σ2:=[]) (ρ1:=ρ3) t1 b1).trans (zdw (n:=99998) (σ1:=[]) t2)
 have sp:zcW zaH (s.drop (a+1))=0:=by refine h'.symm▸?_; rcases hc with rfl | rfl <;> exact zfQ rfl
 have re:=zdJ (d+1) (s:=s) (p:=zaH) (a:=a+1) hl ‹_› []
 rw[sp,Nat.add_zero] at re
 refine zbe (fn:=zeI) (gs':=[]) rfl rfl (zas (ρ:=[some (.str s),some (.int a),none,none,none,none,none,none]) rfl ?_) rfl
 refine zap (ρ1:=[some (.str s),some (.int a),some (.int 10),some (.int a),none,none,none,none]) (σ1:=[]) (zbU (vs:=[.int 10,.int a]) (zad (vs:=[.str s,.int a]) (σ1:=[]) rfl (zqF (d+2) hs h [])) rfl) ?_
 refine zap (ρ1:=ρ2) (σ1:=[]) rfl ?_
 refine zap (ρ1:=ρ3) (σ1:=[]) hw ?_
 refine zap (ρ1:=ρ3) (σ1:=[]) rfl (zap (ρ1:=ρ3) (σ1:=[]) rfl ?_)
 let ρ4:Env:=[some (.str s),some (.int a),some (.int 10),some (.int ((a+1:Nat):Int)),some (.int 7),some (.int 1),some (.int ((a+1:Nat):Int)),none]
 refine zap (ρ1:=ρ4) (σ1:=[]) (zav (zad (vs:=[.str s,.int ((a+1:Nat):Int),.str zaH]) (σ1:=[]) rfl re) (by exact Nat.le_of_ble_eq_true rfl)) ?_
 let ρ5:Env:=[some (.str s),some (.int a),some (.int 10),some (.int ((a+1:Nat):Int)),some (.int 7),some (.int 1),some (.int ((a+1:Nat):Int)),some (.str [])]
 refine zap (ρ1:=ρ5) (σ1:=[]) (zav (v:=.str []) (by
  have:=zfS (T:=TB) (prim:=true) (lo:=EV (d+3)) (σ:=[]) (ρ:=ρ4) (s:=s) (i:=a+1) (k:=0) (a:=.x 0) (b:=.x 3) (c:=.x 6) hs rfl rfl rfl
  replace this:=List.take_zero▸this
  exact this) (by exact Nat.le_of_ble_eq_true rfl)) ?_
 refine zap (ρ1:=ρ5) (σ1:=[]) rfl ?_
 have e7:evE TB true (EV (d+3)) (.sl (.x 0) (.x 1) (.x 6)) ρ5 []=.ok (.str [55]) []:=by
  have:=zfS (T:=TB) (prim:=true) (lo:=EV (d+3)) (σ:=[]) (ρ:=ρ5) (s:=s) (i:=a) (k:=1) (a:=.x 0) (b:=.x 1) (c:=.x 6) hs rfl rfl rfl
  replace this:=h▸this
  exact this
 exact Lake.fin (zaU (zac (zaU (zac rfl (zac e7 (zac rfl (zac rfl (zag (zcH (q:=true) (σ1:=[]) rfl rfl)))))) (by exact Nat.le_of_ble_eq_true rfl)) (zag rfl)) (by exact Nat.le_of_ble_eq_true rfl))
end
section
noncomputable def spot (a:Nat):V→V
 | .tup [k,t,_,x,y]=>.tup [k,t,.int a,x,y]
 | v=>v
theorem ziu (c:Nat):∀ (p q:List Nat),zah c (p++q)=(zah c p||zah c q)
 | [],q=>by rfl
 | x::p,q=>by
  show(Nat.beq c x||zah c (p++q))=(Nat.beq c x||zah c p||zah c q)
  rw[ziu c p q,Bool.or_assoc]
theorem zgI {c:Nat} (h:zah c zbf=true):zah c zaH=true:=by
 rw[show zaH=zbf++zdT from rfl,ziu,h]; rfl
theorem zmT {c:Nat} (h:zah c zbf=true):zah c zdT=false:=by
 have:∀ (p:List Nat),(p.all fun x=>!zah x zdT)=true→zah c p=true→zah c zdT=false:=by
  intro p
  induction p with
  | nil=>intro _ h; exact(Bool.false_ne_true h).elim
  | cons x p ih=>
   intro h1 h2
   rw[List.all_cons,Bool.and_eq_true] at h1
   have h2:(Nat.beq c x||zah c p)=true:=h2
   rcases Bool.or_eq_true_iff.mp h2 with q | q
   ·refine(Nat.eq_of_beq_eq_true q).symm▸?_; simpa using h1.1
   ·exact ih h1.2 q
 exact this zbf (by decide) h
theorem zhq {r:List Nat}:∀ {l:List (List Nat)}{s:List Nat},sgn r l=some s→s∈l∧zan (r.take s.length) s=true
 | x::l,s,h=>by
  unfold sgn at h
  cases q:zan (r.take x.length) x with
  | true=>rw[q] at h; have ee:=Option.some.inj h; clear h; subst ee; exact⟨List.mem_cons_self ..,q⟩
  | false=>rw[q] at h; exact⟨List.mem_cons_of_mem _ (zhq h).1,(zhq h).2⟩

inductive Lex1:List Nat→V→Nat→Prop
 | name (c:Nat) (r:List Nat) (h:zah c zbf=true):Lex1 (c::r) (nmT ((c::r).take (zcW zaH (c::r)))) (zcW zaH (c::r))
 | seven (d:Nat) (r:List Nat) (h:d=32∨d=59):Lex1 (55::d::r) svT 1
 | region (d:Nat) (r:List Nat) (h:zah d zbf=true):Lex1 (39::d::r) (rgT ((39::d::r).take (zcW zaH (d::r)+1))) (zcW zaH (d::r)+1)
 | sign (c:Nat) (r:List Nat) (s:List Nat) (h1:zah c zbf=false) (h2:zah c zdT=false) (h3:Nat.beq c 39=false) (h4:sgn (c::r) za2=some s):Lex1 (c::r) (sgT s) s.length
theorem zmU {r:List Nat}{t:V}{k:Nat} (h:zsW r=some (t,k)):Lex1 r t k:=by
 induction r using List.casesOn with
 | nil=>exact zaA h
 | cons c r=>
  unfold zsW at h
  dsimp only at h
  induction q1:zah c zbf using Bool.casesOn with
  | true=>replace h:=q1▸h; cases h; exact .name c r q1
  | false=>
   replace h:=q1▸h
   dsimp only at h
   induction q2:zah c zdT using Bool.casesOn with
   | true=>
    replace h:=q2▸h
    dsimp only at h
    induction q3:Nat.beq c 55 using Bool.casesOn with
    | false=>replace h:=q3▸h; exact zaA h
    | true=>
     have:=Nat.eq_of_beq_eq_true q3
     subst this
     replace h:=q3▸h
     induction r using List.casesOn with
     | nil=>exact zaA h
     | cons d r=>
      dsimp only at h
      cases q4:(Nat.beq d 32||Nat.beq d 59) with
      | false=>replace h:=q4▸h; exact zaA h
      | true=>
       replace h:=q4▸h
       cases h
       refine .seven d r ?_
       rcases Bool.or_eq_true_iff.mp q4 with q | q
       ·exact .inl (Nat.eq_of_beq_eq_true q)
       ·exact .inr (Nat.eq_of_beq_eq_true q)
   | false=>
    replace h:=q2▸h
    dsimp only at h
    induction q3:Nat.beq c 39 using Bool.casesOn with
    | true=>
     have:=Nat.eq_of_beq_eq_true q3
     subst this
     replace h:=q3▸h
     induction r using List.casesOn with
     | nil=>exact zaA h
     | cons d r=>
      dsimp only at h
      induction q4:zah d zbf using Bool.casesOn with
      | false=>replace h:=q4▸h; exact zaA h
      | true=>replace h:=q4▸h; cases h; exact .region d r q4
    | false=>
     replace h:=q3▸h
     dsimp only at h
     cases q4:sgn (c::r) za2 with
     | none=>replace h:=q4▸h; exact zaA h
     | some s=>replace h:=q4▸h; cases h; exact .sign c r s q1 q2 q3 q4
theorem zoB {r:List Nat}{t:V}{k:Nat} (h:Lex1 r t k):1≤k∧k≤r.length:=by
 cases h with
 | name c r h=>
  refine⟨?_,zho _ _⟩
  rw[zgG (zgI h)]; exact Nat.succ_pos _
 | seven d r h=>exact of_decide_eq_true rfl
 | region d r h=>
  have:=zho zaH (d::r)
  refine⟨by exact Nat.succ_pos _,?_⟩
  simp at this ⊢; assumption
 | sign c r s h1 h2 h3 h4=>
  refine zaW (zhq h4) fun m q=>?_
  have e:=congrArg List.length (zdF q)
  rw[List.length_take] at e
  have:1≤s.length:=by
   have:∀ x∈za2,1≤x.length:=by decide
   exact this s m
  exact⟨this,by omega⟩
theorem zoC {r:List Nat}{t:V}{k:Nat} (h:Lex1 r t k) (a:Nat):zb9 (spot a t)=t∧zdW (spot a t)=true:=by
 cases h <;> exact⟨rfl,rfl⟩

theorem zqG (d:Nat) {s:List Nat}{a:Nat}{r:List Nat}{t:V}{k:Nat} (hl:s.length < 5000) (h:s.drop a=r) (h1:Lex1 r t k) (σ:List C):(EV (d+5)).call zfF [.str s,.int a] σ=.ok (.tup [spot a t,.int ((a+k:Nat):Int)]) σ:=by
 have hs:s.length≤zaP:=by unfold zaP; omega
 let ρ:Env:=[some (.str s),some (.int a),none]
 have sb:∀ {i:Nat}{x:Nat}{r:List Nat} (h:s.drop i=x::r) {e:E} (he:evE TB true (EV (d+4)) e ρ []=.ok (.int (i:Nat)) []),evE TB true (EV (d+4)) (.sub (.x 0) e) ρ []=.ok (.str [x]) []:=fun h e he=>zbg rfl he (zeV hs h)
 have isn:∀ {x:Nat}{r:List Nat} (h:s.drop a=x::r),evT TB true (EV (d+4)) (.cmp .In (.sub (.x 0) (.x 1)) (.g 7)) ρ []=.ok (zah x zbf) []:=fun h=>za8 (v:=.str zbf) (sb h rfl) rfl rfl
 have isf:∀ {x:Nat}{r:List Nat} (h:s.drop a=x::r),evT TB true (EV (d+4)) (.cmp .In (.sub (.x 0) (.x 1)) (.g 6)) ρ []=.ok (zah x zdT) []:=fun h=>za8 (v:=.str zdT) (sb h rfl) rfl rfl
 have isq:∀ {x:Nat}{r:List Nat} (h:s.drop a=x::r),evT TB true (EV (d+4)) (.cmp .Eq (.sub (.x 0) (.x 1)) (.c (.str [39]))) ρ []=.ok (zan [x] [39]) []:=fun h=>eq_str (sb h rfl) rfl
 have go:∀ {v:V},plain v=true→zjQ (evSs TB true (EV (d+4)) zea.body ρ []) v []→(EV (d+5)).call zfF [.str s,.int a] σ=.ok v σ:=fun hp h=>zbe (fn:=zea) (gs':=[]) rfl rfl (zas (ρ:=ρ) rfl h) hp
 cases h1 with
 | name c r h1=>
  refine go rfl ?_
  have e:=isn h
  rw[h1] at e
  have re:=zdJ (d+2) (s:=s) (p:=zaH) (a:=a) hl (by have:=zc9 h; exact Nat.le_of_lt ‹_›) []
  rw[h] at re
  refine zjb e (zap (ρ1:=[some (.str s),some (.int a),some (.int ((a+zcW zaH (c::r):Nat):Int))]) (σ1:=[]) (zav (zad (vs:=[.str s,.int a,.str zaH]) (σ1:=[]) rfl re) (by exact Nat.le_of_ble_eq_true rfl)) ?_)
  refine Lake.fin (zaU (zac (zaU (zac rfl (zac ?_ rfl)) (by exact Nat.le_of_ble_eq_true rfl)) rfl) (by exact Nat.le_of_ble_eq_true rfl))
  rw[← h]
  exact zfS hs rfl rfl rfl
 | seven d' r h1=>
  refine go rfl ?_
  have e:=isn h
  refine zap (ρ1:=ρ) (σ1:=[]) ((zaT e).trans rfl) (zjb (b:=true) (σ1:=[]) (isf h) ?_)
  exact Lake.fin (zad (vs:=[.str s,.int a]) (σ1:=[]) rfl (zsZ d hl h h1 []))
 | region d' r h1=>
  refine go rfl ?_
  have h':=zfR h
  have re:=zdJ (d+2) (s:=s) (p:=zaH) (a:=a+1) hl (by have:=zc9 h; assumption) []
  rw[h'] at re
  let ρ1:Env:=[some (.str s),some (.int a),some (.int ((a+1+zcW zaH (d'::r):Nat):Int))]
  refine zap (ρ1:=ρ) (σ1:=[]) ((zaT (isn h)).trans rfl) (zap (ρ1:=ρ) (σ1:=[]) ((zaT (isf h)).trans rfl) (zjb (b:=true) (σ1:=[]) (isq h) ?_))
  refine zap (ρ1:=ρ1) (σ1:=[]) (zav (zad (vs:=[.str s,.int ((a+1:Nat):Int),.str zaH]) (σ1:=[]) rfl re) (by exact Nat.le_of_ble_eq_true rfl)) ?_
  have sp:=zgG (p:=zaH) (r:=r) (zgI h1)
  have e1:evT TB true (EV (d+4)) (.cmp .Eq (.x 2) (.bin .Add (.x 1) (.c (.int 1)))) ρ1 []=.ok false []:=by
   refine za8 (u:=.int ((a+1+zcW zaH (d'::r):Nat):Int)) (v:=.int ((a+1:Nat):Int)) rfl (zhp (k:=1) rfl) ?_
   show some (decide _)=_
   rw[decide_eq_false (by omega)]
  have e2:evT TB true (EV (d+4)) (.cmp .In (.sub (.x 0) (.bin .Add (.x 1) (.c (.int 1)))) (.g 6)) ρ1 []=.ok false []:=by
   rw[← zmT h1]
   exact za8 (v:=.str zdT) (zbg (u:=.str s) rfl (zhp (k:=1) rfl) (zeV hs h')) rfl rfl
  have e4:evT TB true (EV (d+4)) (.bop false (.cons (.cmp .Eq (.x 2) (.bin .Add (.x 1) (.c (.int 1)))) (.cons (.cmp .In (.sub (.x 0) (.bin .Add (.x 1) (.c (.int 1)))) (.g 6)) .nil))) ρ1 []=.ok false []:=by
   rw[zpo e1]
   show evTs _ _ _ _ _ _ _=_
   rw[zbn e2]; rfl
  refine zap (ρ1:=ρ1) (σ1:=[]) ((zaT e4).trans rfl) ?_
  have e3:a+(zcW zaH (d'::r)+1)=a+1+zcW zaH (d'::r):=by omega
  refine Lake.fin (zaU (zac (zaU (zac rfl (zac ?_ rfl)) (by exact Nat.le_of_ble_eq_true rfl)) (by rw[e3]; rfl)) (by exact Nat.le_of_ble_eq_true rfl))
  rw[← h]
  exact zfS hs rfl rfl (by rw[e3]; rfl)
 | sign c r sg h1 h2 h3 h4=>
  refine go rfl ?_
  have e1:=isn h
  rw[h1] at e1
  have e2:=isf h
  rw[h2] at e2
  have e3:=isq h
  rw[show zan [c] [39]=false by show(Nat.beq c 39&&true)=false; rw[h3]; rfl] at e3
  refine zap (ρ1:=ρ) (σ1:=[]) ((zaT e1).trans rfl) (zap (ρ1:=ρ) (σ1:=[]) ((zaT e2).trans rfl) (zap (ρ1:=ρ) (σ1:=[]) ((zaT e3).trans rfl) ?_))
  exact Lake.fin (zad (vs:=[.str s,.int a]) (σ1:=[]) rfl (zqE (d+2) hl (by rw[h]; exact h4) []))
theorem zfU:∀ (l:List V) (t:V),zbC (l++[t])=zbC [t]
 | [],t=>rfl
 | [a],t=>rfl
 | a::b::l,t=>zfU (b::l) t
noncomputable def rwB:Ss:=match zcn.body with
 | .cons _ (.cons _ (.cons (.whl _ b) _))=>b
 | _=>.nil
noncomputable def rwT:E:=(.cmp .Lt (.x 2) (.bi .len (.cons (.x 0) .nil)))
noncomputable def zgJ (s:List Nat) (a:Nat) (v:Option V):Env:=[some (.str s),some (.loc 0),some (.int a),v]
theorem zoD {r r':List Nat} (h:skip r=some r'):r'.length≤r.length:=by
 unfold skip at h
 have:=List.length_drop (i:=zcW zaG r) (l:=r)
 cases q:r.drop (zcW zaG r) with
 | nil=>replace h:=q▸h; have ee:=Option.some.inj h; clear h; subst ee; exact Nat.zero_le _
 | cons c l=>
  replace h:=q▸h
  dsimp only at h
  induction q2:Nat.beq c 47 using Bool.casesOn with
  | true=>replace h:=q2▸h; exact zaA h
  | false=>replace h:=q2▸h; have ee:=Option.some.inj h; clear h; subst ee; replace this:=q▸this; omega
theorem ziv (d:Nat) {s:List Nat} (hl:s.length < 4000) {R2:List Nat} (h2:skip R2=some []):∀ (n a fuel:Nat) (R r1:List Nat) (ts acc:List V) (v:Option V),zjk n R=some (ts,R2)→skip R=some r1→s.drop a=r1→a≤s.length→r1.length < fuel→acc.length≤a →
  ∃ rows a' v',a'≤s.length∧s.length≤a'∧zf3 (EV (d+6)) rwT rwB fuel (zgJ s a v) [.list acc]=.ok (.next,zgJ s a' v') [.list (acc++rows)]∧rows.map zb9=ts∧rows.all zdW=true∧(acc++rows).length≤s.length
 | 0,a,fuel,R,r1,ts,acc,v,hN,hR,hd,ha,hf,hacc=>by
  cases hN
  rw[h2] at hR
  have ee:=Option.some.inj hR
  clear hR
  subst ee
  obtain⟨n,rfl⟩:∃ m,fuel=m+1:=⟨fuel-1,by simp at hf; exact(Nat.sub_add_cancel ‹_›).symm⟩
  have hle:=List.drop_eq_nil_iff.mp hd
  have e:evT TB true (EV (d+5)) rwT (zgJ s a v) [.list acc]=.ok false [.list acc]:=by
   have:=zoA (T:=TB) (prim:=true) (lo:=EV (d+5)) (ρ:=zgJ s a v) (σ:=[.list acc]) (s:=s) (i:=2) (j:=0) (a:=a) (by unfold zaP; omega) rfl rfl
   rw[decide_eq_false (by omega)] at this
   exact this
  exact zrr ([]) a v ha hle (by rw[List.append_nil]; exact zdw e) rfl rfl (by simp; exact Nat.le_trans ‹_› ‹_›)
 | n+1,a,fuel,R,r1,ts,acc,v,hN,hR,hd,ha,hf,hacc=>by
  obtain⟨f,rfl⟩:∃ m,fuel=m+1:=⟨fuel-1,by omega⟩
  unfold zjk at hN
  rw[hR] at hN
  dsimp only at hN
  induction e1:zsW r1 using Option.casesOn with
  | none=>rw[e1] at hN; exact zaA hN
  | some q=>
   obtain⟨t,k⟩:=q
   rw[e1] at hN
   dsimp only at hN
   cases e2:zjk n (r1.drop k) with
   | none=>rw[e2] at hN; exact zaA hN
   | some q=>
    obtain⟨ts',R3⟩:=q
    rw[e2] at hN
    cases hN
    have L:=zmU e1
    refine zaW (zoB L) fun k1 k2=>?_
    have hlen:r1.length=s.length-a:=by rw[← hd,List.length_drop]
    have hsk:∃ r2,skip (r1.drop k)=some r2:=by
     induction n using Nat.casesOn with
     | zero=>cases e2; exact⟨_,h2⟩
     | succ n=>
      unfold zjk at e2
      cases q:skip (r1.drop k) with
      | none=>rw[q] at e2; exact zaA e2
      | some r2=>exact⟨r2,rfl⟩
    refine zaF hsk ?_
    clear hsk
    intro r2 hsk
    have hdk:s.drop (a+k)=r1.drop k:=by rw[← hd,List.drop_drop]
    refine zb8 (zj2 (d+1) (s:=s) (a:=a+k) (r:=r2) (by exact Nat.le_trans ‹_› (by decide)) (by omega) (by rw[hdk]; exact hsk) [.list (acc++[spot a t])]) fun a2 ha2 hd2 hb=>?_
    have hr2:=zoD hsk
    rw[List.length_drop] at hr2
    have hlen2:r2.length=s.length-a2:=by rw[← hd2,List.length_drop]
    refine zto (ziv d hl h2 n a2 f (r1.drop k) r2 ts' (acc++[spot a t]) (some (spot a t)) e2 hsk hd2 ha2 (by omega) (by simp; omega)) fun rows a' v' q1 q2 q3 q4 q5 q6=>?_
    refine zaW (zoC L a) fun w1 w2=>?_
    refine zrr (spot a t::rows) a' v' q1 q2 ?_ (by rw[List.map_cons,w1,q4]) (by rw[List.all_cons,w2,q5]; rfl) (by simpa using q6)
    have et:evT TB true (EV (d+5)) rwT (zgJ s a v) [.list acc]=.ok true [.list acc]:=by
     have:=zoA (T:=TB) (prim:=true) (lo:=EV (d+5)) (ρ:=zgJ s a v) (σ:=[.list acc]) (s:=s) (i:=2) (j:=0) (a:=a) (by unfold zaP; omega) rfl rfl
     rw[decide_eq_true (by omega)] at this
     exact this
    have eb:evSs TB true (EV (d+5)) rwB (zgJ s a v) [.list acc]=.ok (.next,zgJ s a2 (some (spot a t))) [.list (acc++[spot a t])]:=by
     have s1:evS TB true (EV (d+5)) (.asgT [3,2] (.call 13 (.cons (.x 0) (.cons (.x 2) .nil)))) (zgJ s a v) [.list acc]=.ok (.next,zgJ s (a+k) (some (spot a t))) [.list acc]:=
      zbU (zad (vs:=[.str s,.int a]) (σ1:=[.list acc]) rfl (zqG d (by exact Nat.le_trans ‹_› (by decide)) hd L [.list acc])) rfl
     have s2:evS TB true (EV (d+5)) (.expr (.mth (.x 1) .append (.cons (.x 3) .nil))) (zgJ s (a+k) (some (spot a t))) [.list acc]=.ok (.next,zgJ s (a+k) (some (spot a t))) [.list (acc++[spot a t])]:=
      zc8 (zbJ (k:=0) (v:=spot a t) (vs:=acc) (ws:=acc) (σ1:=[.list acc]) (σ2:=[.list acc]) rfl rfl rfl rfl (by unfold LIM; omega))
     have s3:evS TB true (EV (d+5)) (.asg 2 (.call 8 (.cons (.x 0) (.cons (.x 2) .nil)))) (zgJ s (a+k) (some (spot a t))) [.list (acc++[spot a t])]=.ok (.next,zgJ s a2 (some (spot a t))) [.list (acc++[spot a t])]:=
      zav (zad (vs:=[.str s,.int ((a+k:Nat):Int)]) (σ1:=[.list (acc++[spot a t])]) rfl hb) (by simp[zgJ])
     exact(zaj s1).trans ((zaj s2).trans ((zaj s3).trans rfl))
    rw[zda (lo:=EV (d+6)) (t:=rwT) (b:=rwB) (ρ:=zgJ s a v) (ρ1:=zgJ s a2 (some (spot a t))) (σ:=[.list acc]) (σ1:=[.list acc]) (σ2:=[.list (acc++[spot a t])]) (n:=f) et eb,q3]
    simp
set_option tactic.hygienic true in
theorem zqH (d:Nat) {s:List Nat}{ts:List V} (hl:s.length < 3999) (h:LxS s ts):∃ rows:List V,rows.map zb9=ts++[zlb]∧rows.all zdW=true∧rows.length≤3999∧zbC rows=true∧plains rows=true ∧
  zcC TB true (EV (d+6)) zcn [.str s] []=.ok (.loc 0) [.list rows]:=by
 refine zaZ h ?_
 clear h
 intro n R2 h1 h2
 obtain⟨r1,hr1⟩:∃ r1,skip s=some r1:=by
  induction n using Nat.casesOn with
  | zero=>cases h1; exact⟨_,h2⟩
  | succ n=>
   unfold zjk at h1
   induction q:skip s using Option.casesOn with
   | none=>rw[q] at h1; exact zaA h1
   | some r2=>exact⟨r2,rfl⟩
 refine zb8 (zj2 (d+2) (s:=s) (a:=0) (r:=r1) (by exact Nat.le_trans ‹_› (by decide)) (by exact Nat.zero_le _) (by rw[List.drop_zero]; exact hr1) [.list []]) fun a ha hd hb=>?_
 refine zto (ziv d (by exact Nat.le_trans ‹_› (by decide)) h2 n a zd1 s r1 ts [] none h1 hr1 hd ha (by rw[← hd,List.length_drop]; unfold zd1; omega) (by simp)) fun rows a' v' q1 q2 q3 q4 q5 q6=>?_
 rw[List.nil_append] at q3 q6
 let e:V:=.tup [.str zdV,.str [],.int s.length,.none,.none]
 have pls:∀ l:List V,l.all zdW=true→plains l=true:=fun l h=>(zeM h).1
 have hall:(rows++[e]).all zdW=true:=by rw[List.all_append,q5]; rfl
 refine⟨rows++[e],by rw[List.map_append,q4]; rfl,hall,by simp; omega,by rw[zfU]; rfl,pls _ hall,?_⟩
 refine zas (ρ:=[some (.str s),none,none,none]) rfl ?_
 refine zap (ρ1:=[some (.str s),some (.loc 0),none,none]) (σ1:=[.list []]) rfl ?_
 refine zap (ρ1:=zgJ s a none) (σ1:=[.list []]) (zav (zad (vs:=[.str s,.int 0]) (σ1:=[.list []]) rfl hb) (by simp)) ?_
 refine zap (ρ1:=zgJ s a' v') (σ1:=[.list rows]) q3 ?_
 refine zap (ρ1:=zgJ s a' v') (σ1:=[.list (rows++[e])]) (zc8 (zbJ (k:=0) (v:=e) (vs:=rows) (ws:=rows) (σ1:=[.list rows]) (σ2:=[.list rows]) rfl rfl ?_ rfl (by unfold LIM; omega))) (Lake.fin rfl)
 exact zaU (zac rfl (zac rfl (zac (len_str (by unfold zaP; omega) rfl) rfl))) (by simp[LIM])
theorem zoE (d:Nat) {s:List Nat}{ts:List V} (hl:s.length < 3999) (h:LxS s ts) (σ:List C):(EV (d+8)).call zib [.str s] σ=.ok (.loc σ.length) (σ++[.words (ts++[zlb])]):=by
 refine zu3 (zqH d hl h) fun rows r1 r2 r3 r4 r5 hr=>?_
 have hc:(EV (d+7)).call zi0 [.str s] []=.ok (.loc 0) [.list rows]:=by
  rw[zeN (fn:=zcn) rfl]
  unfold zdM
  show znz [] [] (zcC TB true (EV (d+6)) zcn [.str s] [])=_
  rw[hr]
  show(match plains rows with
   | true=>R.ok (V.loc 0) [C.list rows]
   | false=>.stuck)=_
  rw[r5]
 have hrun:zcC TB true (EV (d+7)) zcv [.str s] []=.ok (.loc 1) [.list rows,.words (ts++[zlb])]:=by
  refine zas (ρ:=[some (.str s)]) rfl (Lake.fin ?_)
  show(evE TB true (EV (d+7)) (.call 14 (.cons (.x 0) .nil)) [some (.str s)] []).bind _=_
  rw[zad (vs:=[.str s]) (σ1:=[]) rfl hc]
  show(if(true&&rows.all zdW&&decide (rows.length≤LIM)&&zbC rows)=true then R.ok (V.loc 1) [C.list rows,.words (rows.map zb9)] else .stuck)=_
  rw[r2,r4,r1,decide_eq_true (by unfold LIM; exact Nat.le_trans ‹_› (by decide))]; rfl
 rw[zeN (fn:=zcv) rfl]
 unfold zdM
 show znz σ [] (zcC TB true (EV (d+7)) zcv [.str s] [])=_
 rw[hrun]
 rfl
end
section
section
variable {X:List Nat}{ts:List V}
theorem zfV (p:Bool) (h:LxS X ts):LxS (zdG p++X) (zmD p++ts):=by
 induction p using Bool.casesOn with
 | false=>exact h
 | true=>exact pc (n:=1) (w:=[112,117,98]) (ts:=[nmT [112,117,98]]) (by kernel_rfl) (bl h)
theorem zex (h:LxS X ts):LxS (44::X) (sgT [44]::ts):=pc (n:=1) (w:=[44]) (ts:=[sgT [44]]) (by kernel_rfl) h
theorem zpq (q:Bool) (h:LxS X ts):LxS (zmA q++X) (zi8 q++ts):=by
 induction q using Bool.casesOn with
 | false=>exact h
 | true=>exact zex h
theorem zfW (h:LxS X ts):LxS (123::X) (sgT [123]::ts):=pc (n:=1) (w:=[123]) (ts:=[sgT [123]]) (by kernel_rfl) h
theorem zey (h:LxS X ts):LxS (125::X) (sgT [125]::ts):=pc (n:=1) (w:=[125]) (ts:=[sgT [125]]) (by kernel_rfl) h
theorem zoF (h:LxS X ts):LxS (40::X) (sgT [40]::ts):=pc (n:=1) (w:=[40]) (ts:=[sgT [40]]) (by kernel_rfl) h
theorem zmV (h:LxS X ts):LxS (41::X) (sgT [41]::ts):=pc (n:=1) (w:=[41]) (ts:=[sgT [41]]) (by kernel_rfl) h
theorem zqI (h:LxS X ts):LxS (59::X) (sgT [59]::ts):=pc (n:=1) (w:=[59]) (ts:=[sgT [59]]) (by kernel_rfl) h
theorem zgK (g:Bool) {c:Nat} (hc:c=32∨c=40∨c=59) (h:LxS (c::X) ts):LxS (zi5 g++c::X) (zgC g++ts):=by
 induction g using Bool.casesOn with
 | false=>exact h
 | true=>exact pc (n:=7) (w:=zi5 true) (ts:=zgC true) (by rcases hc with rfl | rfl | rfl <;> kernel_rfl) h
theorem zqJ (r b:Bool) (h:LxS X ts):LxS (zoq r++(zhh b++X)) (zqy r++(zi9 b++ts)):=by
 induction r using Bool.casesOn <;> induction b using Bool.casesOn
 ·exact pc (n:=3) (w:=zoq false++zhh false) (ts:=zqy false++zi9 false) (by kernel_rfl) h
 ·exact pc (n:=1) (w:=zoq false++zhh true) (ts:=zqy false++zi9 true) (by kernel_rfl) h
 ·exact pc (n:=5) (w:=zoq true++zhh false) (ts:=zqy true++zi9 false) (by kernel_rfl) h
 ·exact pc (n:=3) (w:=zoq true++zhh true) (ts:=zqy true++zi9 true) (by kernel_rfl) h
theorem zqK (s:SelfK) (n:N3) (q:Bool) (h:LxS X ts):LxS ([40]++(zaB [44,32] (znr s n)++(zri s n q++([41]++X)))) (sgT [40]::(zk0 s n q++(sgT [41]::ts))):=by
 have:=pc (n:=(zk0 s n q).length+2) (w:=[40]++(zaB [44,32] (znr s n)++(zri s n q++[41]))) (r:=X) (ts:=sgT [40]::(zk0 s n q++[sgT [41]])) (us:=ts) (by induction s using SelfK.casesOn <;> induction n using Lake.N3.casesOn <;> induction q using Bool.casesOn <;> kernel_rfl) h
 simpa using this
theorem zoG (k:FnC) (h:LxS X ts):LxS (zax k++X) (fnW k ts):=by
 obtain⟨p,g,s,n,q,r,b⟩:=k
 have h1:=zqK s n q (zqJ r b h)
 have h2:=zgK g (.inr (.inl rfl)) h1
 have h3:=pc (n:=2) (w:=[102,110,32,102]) (ts:=[nmT [102,110],nmT [102]]) (by induction g using Bool.casesOn <;> kernel_rfl) h2
 have h4:=zfV p h3
 have e:zax ⟨p,g,s,n,q,r,b⟩++X=zdG p++([102,110,32,102]++(zi5 g++40::([]++(zaB [44,32] (znr s n)++(zri s n q++([41]++(zoq r++(zhh b++X)))))))):=by
  simp[zax,zeO,List.append_assoc]
 rw[e]
 exact h4
theorem ziw (nmd:Bool) {nm:List Nat} (hn:nm=[120]∨nm=[121]) (f:Fld) {c:Nat} (hc:c=44∨c=32∨c=41) (h:LxS (c::X) ts):LxS (zb7 nmd nm f++c::X) (zqz nmd nm f++ts):=by
 obtain⟨p,r⟩:=f
 refine pc (n:=(zqz nmd nm ⟨p,r⟩).length) ?_ h
 rcases hn with rfl | rfl <;> rcases hc with rfl | rfl | rfl <;> induction nmd using Bool.casesOn <;> induction p using Bool.casesOn <;> induction r using Bool.casesOn <;> kernel_rfl
theorem zs0 (nmd:Bool) (f:FL) {c:Nat} (hc:c=32∨c=41) (h:LxS (c::X) ts):LxS (zbx nmd f++c::X) (flW nmd f++ts):=by
 induction f using FL.casesOn with
 | n0=>exact h
 | n1 a q=>
  show LxS ((zb7 nmd [120] a++zmA q)++c::X) ((zqz nmd [120] a++zi8 q)++ts)
  rw[List.append_assoc,List.append_assoc]
  induction q using Bool.casesOn with
  | false=>exact ziw nmd (.inl rfl) a (.inr hc) h
  | true=>exact ziw nmd (.inl rfl) a (.inl rfl) (zex h)
 | n2 a b q=>
  have hb:LxS (zb7 nmd [121] b++(zmA q++c::X)) (zqz nmd [121] b++(zi8 q++ts)):=by
   induction q using Bool.casesOn with
   | false=>exact ziw nmd (.inr rfl) b (.inr hc) h
   | true=>exact ziw nmd (.inr rfl) b (.inl rfl) (zex h)
  have:=ziw nmd (.inl rfl) a (.inl rfl) (zex (bl hb))
  simpa [zbx,zi6,zkX,flW,zaB,List.append_assoc] using this
theorem zhr (f:FormC) (h:LxS X ts):LxS (zaC f++X) (zbI f ts):=by
 induction f using FormC.casesOn with
 | unit=>exact h
 | named f=>
  have:=bl (zfW (bl (zs0 true f (.inl rfl) (bl (zey h)))))
  simpa [zaC,zbI,List.append_assoc] using this
 | tuple f=>
  have:=zoF (zs0 false f (.inr rfl) (zmV h))
  simpa [zaC,zbI,List.append_assoc] using this
theorem zui (e:EL) (h:LxS X ts):LxS (zaB [44,32] (zi7 e)++(zeQ e++(32::X))) (elW e ts):=by
 induction e using EL.casesOn with
 | n0=>exact bl h
 | n1 a q=>
  have h1:=zhr a (zpq q (bl h))
  have h2:=pc (n:=1) (w:=[65]) (ts:=[nmT [65]]) (by induction a using FormC.casesOn <;> induction q using Bool.casesOn <;> kernel_rfl) h1
  exact h2
 | n2 a b q=>
  have h1:=zhr b (zpq q (bl h))
  have h2:=pc (n:=1) (w:=[66]) (ts:=[nmT [66]]) (by induction b using FormC.casesOn <;> induction q using Bool.casesOn <;> kernel_rfl) h1
  have h3:=zhr a (zex (bl h2))
  have h4:=pc (n:=1) (w:=[65]) (ts:=[nmT [65]]) (by induction a using FormC.casesOn <;> kernel_rfl) h3
  simpa [zi7,zeQ,elW,zaB,List.append_assoc] using h4
theorem zpr (fs:Up FnC) (h:LxS X ts):LxS (zaB [32] (fs.list.map zax)++X) (zed fs ts):=by
 cases fs with
 | n0=>exact h
 | n1 a=>exact zoG a h
 | n2 a b=>
  have:=zoG a (bl (zoG b h))
  simpa [Up.list,zaB,zed,List.append_assoc] using this
theorem zs1 (fs:Up FnC) (h:LxS X ts):LxS (zaB [32] (fs.list.map fun k=>zax (nb k))++X) (zed fs.nb ts):=by
 have e:(fs.list.map fun k=>zax (nb k))=fs.nb.list.map zax:=by cases fs <;> rfl
 refine e.symm▸?_; exact zpr fs.nb h
theorem zj3 (i:It0) (h:LxS X ts):LxS (zak i++X) (zhz i ts):=by
 induction i using It0.casesOn with
 | fn k=>exact zoG k h
 | struct p g f=>
  have h1:LxS (zaC f++(zeP f++X)) (zbI f (zb0 f++ts)):=zhr f (by induction f using FormC.casesOn <;> first | exact h | exact zqI h)
  have h2:LxS (zi5 g++(zaC f++(zeP f++X))) (zgC g++zbI f (zb0 f++ts)):=by
   induction f using FormC.casesOn with
   | unit=>exact zgK g (.inr (.inr rfl)) h1
   | named f=>exact zgK g (.inl rfl) (by exact h1) |> fun q=>by exact q
   | tuple f=>exact zgK g (.inr (.inl rfl)) (by exact h1) |> fun q=>by exact q
  have h3:=zfV p (pc (n:=2) (w:=[115,116,114,117,99,116,32,83]) (ts:=[nmT [115,116,114,117,99,116],nmT [83]]) (by induction g using Bool.casesOn <;> induction f using FormC.casesOn <;> kernel_rfl) h2)
  simpa [zak,zhz,List.append_assoc] using h3
 | enum p g e=>
  have h1:=bl (zfW (bl (zui e (zey h))))
  have h2:=zgK g (.inl rfl) h1
  have h3:=zfV p (pc (n:=2) (w:=[101,110,117,109,32,69]) (ts:=[nmT [101,110,117,109],nmT [69]]) (by induction g using Bool.casesOn <;> kernel_rfl) h2)
  simpa [zak,zhz,List.append_assoc] using h3
 | impl g t fs=>
  have h1:=bl (zfW (bl (zs1 fs (bl (zey h)))))
  have h2:=pc (n:=1) (w:=[83]) (ts:=[nmT [83]]) (by kernel_rfl) h1
  have h3:LxS (trT t++([83]++(32::123::32::(zaB [32] (fs.list.map fun k=>zax (nb k))++32::125::X)))) (trW t++(nmT [83]::sgT [123]::zed fs.nb (sgT [125]::ts))):=by
   induction t using Bool.casesOn with
   | false=>exact h2
   | true=>exact pc (n:=5) (w:=[84,114,60,117,56,62,32,102,111,114]) (ts:=trW true) (by kernel_rfl) (bl h2)
  have h4:=zgK g (.inl rfl) (bl h3)
  have h5:=pc (n:=1) (w:=[105,109,112,108]) (ts:=[nmT [105,109,112,108]]) (by induction g using Bool.casesOn <;> kernel_rfl) h4
  simpa [zak,zhz,List.append_assoc] using h5
 | trait p fs=>
  have h1:=bl (zfW (bl (zpr fs (bl (zey h)))))
  have h2:=zfV p (pc (n:=2) (w:=[116,114,97,105,116,32,84,114]) (ts:=[nmT [116,114,97,105,116],nmT [84,114]]) (by kernel_rfl) h1)
  simpa [zak,zhz,List.append_assoc] using h2
 | use p n al=>
  have h1:=zfV p (pc (n:=(ztv n).length+(asW al).length+2) (w:=[117,115,101,32]++(zaB [58,58] (zmB n)++(asT al++[59]))) (ts:=nmT [117,115,101]::(ztv n++(asW al++[sgT [59]]))) (by induction n using U4.casesOn <;> induction al using Bool.casesOn <;> kernel_rfl) h)
  simpa [zak,zhz,List.append_assoc] using h1
 | const p=>
  have h1:=zfV p (pc (n:=7) (w:=[99,111,110,115,116,32,67,58,32,117,56,32,61,32,55,59]) (ts:=[nmT [99,111,110,115,116],nmT [67],sgT [58],nmT [117,56],sgT [61],svT,sgT [59]]) (by kernel_rfl) h)
  simpa [zak,zhz,List.append_assoc] using h1
theorem zqL (is:Up It0) (h:LxS X ts):LxS (zaB [32] (is.list.map zak)++X) (zew is ts):=by
 cases is with
 | n0=>exact h
 | n1 a=>exact zj3 a h
 | n2 a b=>
  have:=zj3 a (bl (zj3 b h))
  simpa [Up.list,zaB,zew,List.append_assoc] using this
theorem zs2 (i:It) (h:LxS X ts):LxS (zaK i++X) (itW i ts):=by
 induction i using It.casesOn with
 | base i=>exact zj3 i h
 | mod p is=>
  have h1:=bl (zfW (bl (zqL is (bl (zey h)))))
  have h2:=zfV p (pc (n:=2) (w:=[109,111,100,32,109]) (ts:=[nmT [109,111,100],nmT [109]]) (by kernel_rfl) h1)
  simpa [zaK,itW,List.append_assoc] using h2
end
noncomputable def zqM:List It→List V
 | []=>[]
 | i::l=>itW i (zqM l)
theorem zps:LxS [] []:=⟨0,[],rfl,rfl⟩
theorem zpt:∀ (i:It) (l:List It),LxS (zaB [10] ((i::l).map zaK)) (zqM (i::l))
 | i,[]=>by
  have:=zs2 i zps
  simpa [zaB,zqM] using this
 | i,j::l=>by
  have ih:=zpt j l
  exact zs2 i (zuY ih)
noncomputable def zbL:List Nat:=[115,116,114,117,99,116,32,80,40,117,56,44,32,112,117,98,32,117,56,41,59]
noncomputable def zdx (r:List V):List V:=nmT [115,116,114,117,99,116]::nmT [80]::sgT [40]::nmT [117,56]::sgT [44]::nmT [112,117,98]::nmT [117,56]::sgT [41]::sgT [59]::r
theorem zs3 (l:List It):LxS (zaB [10] (zbL::l.map zaK)) (zdx (zqM l)):=by
 induction l using List.casesOn with
 | nil=>
  have:=pc (n:=9) (w:=zbL) (r:=[]) (ts:=zdx []) (by kernel_rfl) zps
  rw[List.append_nil] at this
  exact this
 | cons i l=>exact pc (n:=9) (w:=zbL) (r:=10::zaB [10] ((i::l).map zaK)) (ts:=zdx []) (by kernel_rfl) (zuY (zpt i l))
end
section
section
variable (d:Nat) (X:List V) (gs:List C)
theorem zj4 (g:Bool) (h:zbi X [60] 0=some false):(EV (d+10)).call zfG [.loc 0] (.words (zgC g++X)::gs)=.ok (zdH g) (.words X::gs):=by
 induction g using Bool.casesOn with
 | true=>kernel_rfl
 | false=>
  refine zat (fn:=zdu) (gs':=[]) rfl rfl rfl (zas (ρ:=[some (.loc 0),none,none]) rfl ?_) rfl rfl
  have e:evT TB true (EV (d+9)) (.wm (.x 0) .looks (.cons (.c (.str [60])) .nil)) [some (.loc 0),none,none] [.words X]=.ok false [.words X]:=by
   show(match (match zbi X [60] 0 with
    | some b=>some (some (V.bool b,X))
    | none=>none) with
    | some (some (v,r))=>R.ok v ([C.words X].set 0 (.words r))
    | some none=>.exc
    | none=>.stuck).bind zd0=_
   refine h.symm▸?_; rfl
  refine zjb (b:=true) (σ1:=[.words X]) ?_ (fin rfl)
  show(evT TB true (EV (d+9)) (.wm (.x 0) .looks (.cons (.c (.str [60])) .nil)) [some (.loc 0),none,none] [.words X]).bind _=_
  refine e.symm▸?_; rfl
theorem zqN (s:SelfK) (n:N3) (q:Bool):(EV (d+20)).call zhe [.loc 0] (.words (sgT [40]::(zk0 s n q++(sgT [41]::X)))::gs)=.ok (.tup [zhi s,.tup (zcT .any n)]) (.words X::gs):=by
 induction s using SelfK.casesOn <;> induction n using Lake.N3.casesOn <;> induction q using Bool.casesOn <;> kernel_rfl
theorem zpu (k:FnC):(EV (d+24)).call zic [.loc 0,.bool k.pub] (.words (zja k X)::gs)=.ok (zal .any k) (.words X::gs):=by
 obtain⟨p,g,s,n,q,r,b⟩:=k
 refine zat (fn:=zia) (gs':=[]) rfl rfl rfl (zas (ρ:=[some (.loc 0),some (.bool p),none,none,none,none,none,none,none]) rfl ?_) rfl (zaV rfl _)
 let X3:=zqy r++(zi9 b++X)
 let X2:=sgT [40]::(zk0 s n q++(sgT [41]::X3))
 let X1:=zgC g++X2
 refine zap (ρ1:=[some (.loc 0),some (.bool p),some .any,none,none,none,none,none,none]) (σ1:=[.words (nmT [102]::X1)]) (by kernel_rfl) ?_
 refine zap (ρ1:=[some (.loc 0),some (.bool p),some .any,some (.str [102]),none,none,none,none,none]) (σ1:=[.words X1]) (by kernel_rfl) ?_
 refine zap (ρ1:=[some (.loc 0),some (.bool p),some .any,some (.str [102]),some (zdH g),none,none,none,none]) (σ1:=[.words X2]) (zav (zad (vs:=[.loc 0]) (σ1:=[.words X1]) rfl (zj4 (d+13) X2 [] g rfl)) (by exact Nat.le_of_ble_eq_true rfl)) ?_
 refine zap (ρ1:=[some (.loc 0),some (.bool p),some .any,some (.str [102]),some (zdH g),some (zhi s),some (.tup (zcT .any n)),none,none]) (σ1:=[.words X3]) (zbU (vs:=[zhi s,.tup (zcT .any n)]) (zad (vs:=[.loc 0]) (σ1:=[.words X2]) rfl (zqN (d+3) X3 [] s n q)) rfl) ?_
 refine⟨[some (.loc 0),some (.bool p),some .any,some (.str [102]),some (zdH g),some (zhi s),some (.tup (zcT .any n)),some (zsV .any r),some (zkY .any b)],?_⟩
 induction r using Bool.casesOn <;> induction b using Bool.casesOn <;> kernel_rfl
end
end
section
noncomputable def zdL:Ss→E×Ss
 | .cons (.whl t b) _=>(t,b)
 | .cons _ r=>zdL r
 | .nil=>(.bad,.nil)
inductive Chain (lo:Lo) (t:E) (b:Ss) (ρ:Option V→Env):List V→List V→List V→Prop
 | nil (X:List V):Chain lo t b ρ X X []
 | cons {X X1 X2:List V}{v:V}{vs:List V} (ht:∀ o acc,lo.tr t (ρ o) [.words X,.list acc]=.ok true [.words X,.list acc]) (hb:∀ o acc,acc.length < LIM→∃ o',lo.st b (ρ o) [.words X,.list acc]=.ok (.next,ρ o') [.words X1,.list (acc++[v])])
   (h:Chain lo t b ρ X1 X2 vs):Chain lo t b ρ X X2 (v::vs)
theorem zfX {lo:Lo}{t:E}{b:Ss}{ρ:Option V→Env}{X X2:List V}{vs:List V} (h:Chain lo t b ρ X X2 vs) (he:∀ o acc,lo.tr t (ρ o) [.words X2,.list acc]=.ok false [.words X2,.list acc]) :
  ∀ (n:Nat) (o:Option V) (acc:List V),vs.length < n→acc.length+vs.length≤LIM→∃ o',zf3 lo t b n (ρ o) [.words X,.list acc]=.ok (.next,ρ o') [.words X2,.list (acc++vs)]:=by
 induction h with
 | nil X=>
  intro n o acc hn hl
  obtain⟨n,rfl⟩:∃ m,n=m+1:=⟨n-1,by simp at hn; exact(Nat.sub_add_cancel ‹_›).symm⟩
  exact⟨o,by rw[List.append_nil]; exact zdw (he o acc)⟩
 | cons ht hb h ih=>
  intro n o acc hn hl
  obtain⟨n,rfl⟩:∃ m,n=m+1:=⟨n-1,by simp at hn; omega⟩
  simp only[List.length_cons] at hn hl
  obtain⟨o1,h1⟩:=hb o acc (by exact Nat.lt_of_le_of_lt (Nat.le_add_right _ _) ‹_›)
  obtain⟨o2,h2⟩:=ih he n o1 (acc++[_]) (by exact Nat.le_of_succ_le_succ ‹_›) (by rw[List.length_append]; simp; omega)
  refine⟨o2,(zda (ht o acc) h1).trans (h2.trans ?_)⟩
  rw[List.append_assoc]; rfl

section
variable (d:Nat) (X:List V) (gs:List C)
noncomputable def zns (o:Option V):Env:=[some (.loc 0),some (.loc 1),o]
theorem zmW (fs:Up FnC):Chain (EV (d+26)) (zdL zbT.body).1 (zdL zbT.body).2 zns (zed fs (sgT [125]::X)) (sgT [125]::X) (fs.list.map (zal .any)):=by
 have turn:∀ (k:FnC) (Y:List V),(∀ o acc,(EV (d+26)).tr (zdL zbT.body).1 (zns o) [.words (fnW k Y),.list acc]=.ok true [.words (fnW k Y),.list acc]) ∧
   ∀ o acc,acc.length < LIM→∃ o',(EV (d+26)).st (zdL zbT.body).2 (zns o) [.words (fnW k Y),.list acc]=.ok (.next,zns o') [.words Y,.list (acc++[zal .any k])]:=fun k Y=>by
  obtain⟨p,g,s,n,q,r,b⟩:=k
  refine⟨fun o acc=>by induction p using Bool.casesOn <;> kernel_rfl,fun o acc hl=>⟨some (.bool p),?_⟩⟩
  show evSs TB true (EV (d+25)) (zdL zbT.body).2 _ _=_
  have e1:evS TB true (EV (d+25)) (.asg 2 (.call 44 (.cons (.x 0) .nil))) (zns o) [.words (fnW ⟨p,g,s,n,q,r,b⟩ Y),.list acc]=.ok (.next,zns (some (.bool p))) [.words (zja ⟨p,g,s,n,q,r,b⟩ Y),.list acc]:=by induction p using Bool.casesOn <;> kernel_rfl
  refine(zaj e1).trans ?_
  refine(zaj (ρ1:=zns (some (.bool p))) (σ1:=[.words (zja ⟨p,g,s,n,q,r,b⟩ Y),.list acc]) (by kernel_rfl)).trans ?_
  refine(zaj (zc8 (zbJ (k:=1) (v:=zal .any ⟨p,g,s,n,q,r,b⟩) (vs:=acc) (ws:=acc) (σ1:=[.words (zja ⟨p,g,s,n,q,r,b⟩ Y),.list acc]) (σ2:=[.words Y,.list acc]) rfl rfl (zad (vs:=[.loc 0,.bool p]) (σ1:=[.words (zja ⟨p,g,s,n,q,r,b⟩ Y),.list acc]) rfl (zpu (d+1) Y [.list acc] ⟨p,g,s,n,q,r,b⟩)) rfl hl))).trans ?_
  rfl
 cases fs with
 | n0=>exact .nil _
 | n1 a=>exact .cons (turn a _).1 (turn a _).2 (.nil _)
 | n2 a c=>exact .cons (turn a _).1 (turn a _).2 (.cons (turn c _).1 (turn c _).2 (.nil _))
theorem zpv (fs:Up FnC):(EV (d+27)).call zkO [.loc 0] (.words (sgT [123]::zed fs (sgT [125]::X))::gs)=.ok (.tup (fs.list.map (zal .any))) (.words X::gs):=by
 have hp:plains (fs.list.map (zal .any))=true:=zdI (fun k=>zaV rfl k) fs
 have hl:(fs.list.map (zal .any)).length≤2:=by cases fs <;> simp[Up.list]
 refine zat (fn:=zbT) (gs':=[.list (fs.list.map (zal .any))]) rfl rfl rfl (zas (ρ:=[some (.loc 0),none,none]) rfl ?_) rfl hp
 refine zap (ρ1:=[some (.loc 0),none,none]) (σ1:=[.words (zed fs (sgT [125]::X))]) (by kernel_rfl) ?_
 refine zap (ρ1:=zns none) (σ1:=[.words (zed fs (sgT [125]::X)),.list []]) rfl ?_
 refine zaF (zfX (zmW d X fs) (fun o acc=>by kernel_rfl) zd1 none [] (by unfold zd1; omega) (by simp only[List.length_nil]; unfold LIM; omega)) fun o' hw=>?_
 refine zap (ρ1:=zns o') (σ1:=[.words (sgT [125]::X),.list (fs.list.map (zal .any))]) hw ?_
 refine zap (ρ1:=zns o') (σ1:=[.words X,.list (fs.list.map (zal .any))]) (by kernel_rfl) ?_
 exact fin (zbK (k:=1) rfl rfl (by unfold LIM; exact Nat.le_trans ‹_› (by decide)))

theorem zmX (f:FormC) (Y:List V) (h:f=.unit→zbi Y [123] 0=some false∧zbi Y [40] 0=some false):(EV (d+20)).call zi1 [.loc 0] (.words (zbI f Y)::gs)=.ok (.tup [zbr f,zam .any f]) (.words Y::gs):=by
 induction f using FormC.casesOn with
 | unit=>
  refine zaW (h rfl) fun h1 h2=>?_
  refine zat (fn:=zfD) (gs':=[]) rfl rfl rfl (zas (ρ:=[some (.loc 0)]) rfl ?_) rfl rfl
  have e:∀ t,zbi Y t 0=some false→evT TB true (EV (d+19)) (.wm (.x 0) .looks (.cons (.c (.str t)) .nil)) [some (.loc 0)] [.words Y]=.ok false [.words Y]:=fun t h=>by
   show(match (match zbi Y t 0 with
    | some b=>some (some (V.bool b,Y))
    | none=>none) with
    | some (some (v,r))=>R.ok v ([C.words Y].set 0 (.words r))
    | some none=>.exc
    | none=>.stuck).bind zd0=_
   refine h.symm▸?_; rfl
  refine zap (ρ1:=[some (.loc 0)]) (σ1:=[.words Y]) ((zaT (e _ h1)).trans rfl) (zap (ρ1:=[some (.loc 0)]) (σ1:=[.words Y]) ((zaT (e _ h2)).trans rfl) (fin rfl))
 | named f=>
  induction f using FL.casesOn with
  | n0=>kernel_rfl
  | n1 a q=>obtain⟨p,r⟩:=a; induction q using Bool.casesOn <;> induction p using Bool.casesOn <;> induction r using Bool.casesOn <;> kernel_rfl
  | n2 a b q=>obtain⟨p,r⟩:=a; obtain⟨p',r'⟩:=b; induction q using Bool.casesOn <;> induction p using Bool.casesOn <;> induction r using Bool.casesOn <;> induction p' using Bool.casesOn <;> induction r' using Bool.casesOn <;> kernel_rfl
 | tuple f=>
  induction f using FL.casesOn with
  | n0=>kernel_rfl
  | n1 a q=>obtain⟨p,r⟩:=a; induction q using Bool.casesOn <;> induction p using Bool.casesOn <;> induction r using Bool.casesOn <;> kernel_rfl
  | n2 a b q=>obtain⟨p,r⟩:=a; obtain⟨p',r'⟩:=b; induction q using Bool.casesOn <;> induction p using Bool.casesOn <;> induction r using Bool.casesOn <;> induction p' using Bool.casesOn <;> induction r' using Bool.casesOn <;> kernel_rfl
end
end
section
section
variable (d:Nat) (X:List V) (gs:List C)
theorem zmY (p g:Bool) (f:FormC):(EV (d+22)).call zhf [.loc 0,.bool p] (.words (nmT [115,116,114,117,99,116]::nmT [83]::(zgC g++zbI f (zb0 f++X)))::gs)=.ok (zaf .any (.struct p g f)) (.words X::gs):=by
 refine zat (fn:=zet) (gs':=[]) rfl rfl rfl (zas (ρ:=[some (.loc 0),some (.bool p),none,none,none,none,none]) rfl ?_) rfl (zaN rfl (.struct p g f))
 refine zap (ρ1:=[some (.loc 0),some (.bool p),some .any,none,none,none,none]) (σ1:=[.words (nmT [83]::(zgC g++zbI f (zb0 f++X)))]) (by kernel_rfl) ?_
 refine zap (ρ1:=[some (.loc 0),some (.bool p),some .any,some (.str [83]),none,none,none]) (σ1:=[.words (zgC g++zbI f (zb0 f++X))]) (by kernel_rfl) ?_
 refine zap (ρ1:=[some (.loc 0),some (.bool p),some .any,some (.str [83]),some (zdH g),none,none]) (σ1:=[.words (zbI f (zb0 f++X))]) (zav (zad (vs:=[.loc 0]) (σ1:=[.words (zgC g++zbI f (zb0 f++X))]) rfl (zj4 (d+11) _ [] g (by induction f using FormC.casesOn <;> rfl))) (by exact Nat.le_of_ble_eq_true rfl)) ?_
 refine zap (ρ1:=[some (.loc 0),some (.bool p),some .any,some (.str [83]),some (zdH g),some (zbr f),some (zam .any f)]) (σ1:=[.words (zb0 f++X)]) (zbU (vs:=[zbr f,zam .any f]) (zad (vs:=[.loc 0]) (σ1:=[.words (zbI f (zb0 f++X))]) rfl (zmX (d+1) [] f _ (fun q=>by subst q; exact⟨rfl,rfl⟩))) rfl) ?_
 refine zap (ρ1:=[some (.loc 0),some (.bool p),some .any,some (.str [83]),some (zdH g),some (zbr f),some (zam .any f)]) (σ1:=[.words X]) (by induction f using FormC.casesOn <;> kernel_rfl) ?_
 exact fin rfl

noncomputable def zhA (p g:Bool) (a b c:Option V):Env:=[some (.loc 0),some (.bool p),some .any,some (.str [69]),some (zdH g),some (.loc 1),a,b,c]
theorem zqO (p g:Bool) (e:EL):(EV (d+23)).call zi2 [.loc 0,.bool p] (.words (nmT [101,110,117,109]::nmT [69]::(zgC g++(sgT [123]::elW e (sgT [125]::X))))::gs)=.ok (zaf .any (.enum p g e)) (.words X::gs):=by
 have hl:(zby .any e).length≤2:=by induction e using EL.casesOn <;> simp[zby]
 refine zat (fn:=zaO) (gs':=[.list (zby .any e)]) rfl rfl rfl (zas (ρ:=[some (.loc 0),some (.bool p),none,none,none,none,none,none,none]) rfl ?_) rfl (zaN rfl (.enum p g e))
 refine zap (ρ1:=[some (.loc 0),some (.bool p),some .any,none,none,none,none,none,none]) (σ1:=[.words (nmT [69]::(zgC g++(sgT [123]::elW e (sgT [125]::X))))]) (by kernel_rfl) ?_
 refine zap (ρ1:=[some (.loc 0),some (.bool p),some .any,some (.str [69]),none,none,none,none,none]) (σ1:=[.words (zgC g++(sgT [123]::elW e (sgT [125]::X)))]) (by kernel_rfl) ?_
 refine zap (ρ1:=[some (.loc 0),some (.bool p),some .any,some (.str [69]),some (zdH g),none,none,none,none]) (σ1:=[.words (sgT [123]::elW e (sgT [125]::X))]) (zav (zad (vs:=[.loc 0]) (σ1:=[.words (zgC g++(sgT [123]::elW e (sgT [125]::X)))]) rfl (zj4 (d+12) _ [] g rfl)) (by exact Nat.le_of_ble_eq_true rfl)) ?_
 refine zap (ρ1:=[some (.loc 0),some (.bool p),some .any,some (.str [69]),some (zdH g),none,none,none,none]) (σ1:=[.words (elW e (sgT [125]::X))]) (by kernel_rfl) ?_
 refine zap (ρ1:=zhA p g none none none) (σ1:=[.words (elW e (sgT [125]::X)),.list []]) rfl ?_
 have turn:∀ (nm:List Nat) (f:FormC) (Y Y2:List V) (fl:Fl) (a b c:Option V) (acc:List V),(nm=[65]∨nm=[66])→acc.length≤2→(f=.unit→zbi Y [123] 0=some false∧zbi Y [40] 0=some false) →
   (∀ (ρ:Env) (l:C),ρ[0]?=some (some (.loc 0))→evS TB true (EV (d+21)) (.ite (.not (.wm (.x 0) .looks (.cons (.c (.str [44])) .nil))) (.cons .brk .nil) .nil) ρ [.words Y,l]=.ok (fl,ρ) [.words Y,l])→(fl=.next→∃ Z,Y=sgT [44]::Z∧Y2=Z)→(fl=.brk→Y2=Y)→(fl=.next∨fl=.brk) →
   (EV (d+22)).st (zdL zaO.body).2 (zhA p g a b c) [.words (nmT nm::zbI f Y),.list acc]=.ok (fl,zhA p g (some (.str nm)) (some (zbr f)) (some (zam .any f))) [.words Y2,.list (acc++[.tup [.str nm,zbr f,zam .any f]])]:=by
  intro nm f Y Y2 fl a b c acc hnm hacc hf hbr hn1 hb1 hfl
  show evSs TB true (EV (d+21)) (zdL zaO.body).2 _ _=_
  have e1:evS TB true (EV (d+21)) (.asg 6 (.sub (.wm (.x 0) .name .nil) (.c (.int 0)))) (zhA p g a b c) [.words (nmT nm::zbI f Y),.list acc]=.ok (.next,zhA p g (some (.str nm)) b c) [.words (zbI f Y),.list acc]:=by
   rcases hnm with rfl | rfl <;> kernel_rfl
  refine(zaj e1).trans ?_
  have e2:evS TB true (EV (d+21)) (.asgT [7,8] (.call 51 (.cons (.x 0) .nil))) (zhA p g (some (.str nm)) b c) [.words (zbI f Y),.list acc]=.ok (.next,zhA p g (some (.str nm)) (some (zbr f)) (some (zam .any f))) [.words Y,.list acc]:=
   zbU (vs:=[zbr f,zam .any f]) (zad (vs:=[.loc 0]) (σ1:=[.words (zbI f Y),.list acc]) rfl (zmX (d+1) [.list acc] f Y hf)) rfl
  refine(zaj e2).trans ?_
  have e3:evS TB true (EV (d+21)) (.expr (.mth (.x 5) .append (.cons (.tup (.cons (.x 6) (.cons (.x 7) (.cons (.x 8) .nil)))) .nil))) (zhA p g (some (.str nm)) (some (zbr f)) (some (zam .any f))) [.words Y,.list acc]=.ok (.next,zhA p g (some (.str nm)) (some (zbr f)) (some (zam .any f))) [.words Y,.list (acc++[.tup [.str nm,zbr f,zam .any f]])]:=
   zc8 (zbJ (k:=1) (v:=.tup [.str nm,zbr f,zam .any f]) (vs:=acc) (ws:=acc) (σ1:=[.words Y,.list acc]) (σ2:=[.words Y,.list acc]) rfl rfl rfl rfl (by unfold LIM; omega))
  refine(zaj e3).trans ?_
  have e4:=hbr (zhA p g (some (.str nm)) (some (zbr f)) (some (zam .any f))) (.list (acc++[.tup [.str nm,zbr f,zam .any f]])) rfl
  refine Or.elim hfl ?_ ?_
  clear hfl
  intro nm
  subst nm
  rotate_left
  clear hfl
  intro nm
  subst nm
  rotate_left
  ·refine zao (hn1 rfl) fun Z ee0 ee1=>?_
   subst ee0
   subst ee1
   exact(zaj e4).trans (by kernel_rfl)
  ·have:=hb1 rfl
   subst this
   show zf6 _ (evS TB true (EV (d+21)) (.ite (.not (.wm (.x 0) .looks (.cons (.c (.str [44])) .nil))) (.cons .brk .nil) .nil) _ _)=_
   rw[e4]; rfl
 have brT:∀ (Z:List V) (ρ:Env) (l:C),ρ[0]?=some (some (.loc 0))→evS TB true (EV (d+21)) (.ite (.not (.wm (.x 0) .looks (.cons (.c (.str [44])) .nil))) (.cons .brk .nil) .nil) ρ [.words (sgT [44]::Z),l]=.ok (.next,ρ) [.words (sgT [44]::Z),l]:=fun Z ρ l h=>by
  have e:evT TB true (EV (d+21)) (.wm (.x 0) .looks (.cons (.c (.str [44])) .nil)) ρ [.words (sgT [44]::Z),l]=.ok true [.words (sgT [44]::Z),l]:=by
   show(evE TB true (EV (d+21)) (.x 0) ρ _).bind _=_
   rw[zbo h]; rfl
  exact(zaT (b:=false) (σ1:=[.words (sgT [44]::Z),l]) (by show(evT TB true (EV (d+21)) (.wm (.x 0) .looks (.cons (.c (.str [44])) .nil)) ρ _).bind _=_; rw[e]; rfl)).trans rfl
 have brF:∀ (Z:List V) (ρ:Env) (l:C),ρ[0]?=some (some (.loc 0))→evS TB true (EV (d+21)) (.ite (.not (.wm (.x 0) .looks (.cons (.c (.str [44])) .nil))) (.cons .brk .nil) .nil) ρ [.words (sgT [125]::Z),l]=.ok (.brk,ρ) [.words (sgT [125]::Z),l]:=fun Z ρ l h=>by
  have e:evT TB true (EV (d+21)) (.wm (.x 0) .looks (.cons (.c (.str [44])) .nil)) ρ [.words (sgT [125]::Z),l]=.ok false [.words (sgT [125]::Z),l]:=by
   show(evE TB true (EV (d+21)) (.x 0) ρ _).bind _=_
   rw[zbo h]; rfl
  exact(zaT (b:=true) (σ1:=[.words (sgT [125]::Z),l]) (by show(evT TB true (EV (d+21)) (.wm (.x 0) .looks (.cons (.c (.str [44])) .nil)) ρ _).bind _=_; rw[e]; rfl)).trans rfl
 have tE:∀ a b c l,(EV (d+22)).tr (zdL zaO.body).1 (zhA p g a b c) [.words (sgT [125]::X),l]=.ok false [.words (sgT [125]::X),l]:=fun a b c l=>by kernel_rfl
 have tN:∀ nm Z a b c l,(nm=[65]∨nm=[66])→(EV (d+22)).tr (zdL zaO.body).1 (zhA p g a b c) [.words (nmT nm::Z),l]=.ok true [.words (nmT nm::Z),l]:=fun nm Z a b c l h=>by rcases h with rfl | rfl <;> kernel_rfl
 obtain⟨a,b,c,hw⟩:∃ a b c,zf3 (EV (d+22)) (zdL zaO.body).1 (zdL zaO.body).2 zd1 (zhA p g none none none) [.words (elW e (sgT [125]::X)),.list []]=.ok (.next,zhA p g a b c) [.words (sgT [125]::X),.list (zby .any e)]:=by
  have last:∀ (n:Nat) (nm:List Nat) (f:FormC) (q:Bool) (a b c:Option V) (acc:List V),(nm=[65]∨nm=[66])→acc.length≤2→zf3 (EV (d+22)) (zdL zaO.body).1 (zdL zaO.body).2 (n+2) (zhA p g a b c) [.words (nmT nm::zbI f (zi8 q++(sgT [125]::X))),.list acc]=.ok (.next,zhA p g (some (.str nm)) (some (zbr f)) (some (zam .any f))) [.words (sgT [125]::X),.list (acc++[.tup [.str nm,zbr f,zam .any f]])]:=by
   intro n nm f q a b c acc hnm hacc
   induction q using Bool.casesOn with
   | true=>
    refine(zda (tN nm _ a b c _ hnm) (turn nm f (sgT [44]::sgT [125]::X) (sgT [125]::X) .next a b c acc hnm hacc (fun ua=>⟨rfl,rfl⟩) (brT _) (fun ua=>⟨_,rfl,rfl⟩) (fun h=>nomatch h) (.inl rfl))).trans ?_
    exact zdw (tE _ _ _ _)
   | false=>
    have h:=turn nm f (sgT [125]::X) (sgT [125]::X) .brk a b c acc hnm hacc (fun ua=>⟨rfl,rfl⟩) (brF _) (fun h=>nomatch h) (fun ua=>rfl) (.inr rfl)
    have h1:=tN nm (zbI f (sgT [125]::X)) a b c (.list acc) hnm
    show zf3 _ _ _ (n+1+1) _ [.words (nmT nm::zbI f (sgT [125]::X)),.list acc]=_
    rw[zhC,h1]
    dsimp only
    rw[h]
  induction e using EL.casesOn with
  | n0=>exact zrp none none none (zdw (n:=99999) (tE _ _ _ _))
  | n1 f q=>exact zrp _ _ _ (last 99998 [65] f q none none none [] (.inl rfl) (by trivial))
  | n2 f f2 q=>
   refine⟨_,_,_,(zda (n:=99999) (tN [65] _ none none none _ (.inl rfl)) (turn [65] f (sgT [44]::nmT [66]::zbI f2 (zi8 q++(sgT [125]::X))) (nmT [66]::zbI f2 (zi8 q++(sgT [125]::X))) .next none none none [] (.inl rfl) (by trivial) (fun ua=>⟨rfl,rfl⟩) (brT _) (fun ua=>⟨_,rfl,rfl⟩) (fun h=>nomatch h) (.inl rfl))).trans (last 99997 [66] f2 q _ _ _ _ (.inr rfl) (by exact Nat.succ_pos _))⟩
 refine zap (ρ1:=zhA p g a b c) (σ1:=[.words (sgT [125]::X),.list (zby .any e)]) hw ?_
 refine zap (ρ1:=zhA p g a b c) (σ1:=[.words X,.list (zby .any e)]) (by kernel_rfl) ?_
 refine fin (zaU (zac rfl (zac rfl (zac rfl (zac rfl (zac (zbK (k:=1) (vs:=zby .any e) rfl rfl (by unfold LIM; exact Nat.le_trans ‹_› (by decide))) rfl))))) (by exact Nat.le_of_ble_eq_true rfl))
end
end
section
section
variable (d:Nat) (X:List V) (gs:List C)
theorem zoH (p:Bool) (fs:Up FnC):(EV (d+29)).call zid [.loc 0,.bool p] (.words (nmT [116,114,97,105,116]::nmT [84,114]::sgT [123]::zed fs (sgT [125]::X))::gs)=.ok (zaf .any (.trait p fs)) (.words X::gs):=by
 refine zat (fn:=ze5) (gs':=[]) rfl rfl rfl (zas (ρ:=[some (.loc 0),some (.bool p),none,none,none]) rfl ?_) rfl (zaN rfl (.trait p fs))
 refine zap (ρ1:=[some (.loc 0),some (.bool p),some .any,none,none]) (σ1:=[.words (nmT [84,114]::sgT [123]::zed fs (sgT [125]::X))]) (by kernel_rfl) ?_
 refine zap (ρ1:=[some (.loc 0),some (.bool p),some .any,some (.str [84,114]),none]) (σ1:=[.words (sgT [123]::zed fs (sgT [125]::X))]) (by kernel_rfl) ?_
 refine zap (ρ1:=[some (.loc 0),some (.bool p),some .any,some (.str [84,114]),some (zdH false)]) (σ1:=[.words (sgT [123]::zed fs (sgT [125]::X))]) (by kernel_rfl) ?_
 exact fin (zaU (zac rfl (zac rfl (zac rfl (zac rfl (zac (zad (vs:=[.loc 0]) (σ1:=[.words (sgT [123]::zed fs (sgT [125]::X))]) rfl (zpv (d+1) X [] fs)) rfl))))) (by exact Nat.le_of_ble_eq_true rfl))

theorem zgL {lo:Lo}{b:Ss}{i:Nat}{σ:List C}{all:List V} (P:Env→Prop) (hb:∀ ρ v,v∈all→P ρ→∃ ρ',lo.st b (ρ.set i (some v)) σ=.ok (.next,ρ') σ∧P ρ'):∀ (rest:List V) (j n:Nat) (ρ:Env),all.drop j=rest→rest.length < n→P ρ→∃ ρ',zgU lo i b (.fixed all) n j ρ σ=.ok (.next,ρ') σ∧P ρ'
 | [],j,n,ρ,hd,hn,hP=>by
  obtain⟨n,rfl⟩:∃ m,n=m+1:=⟨n-1,by simp at hn; exact(Nat.sub_add_cancel ‹_›).symm⟩
  refine zc1 ρ (zeb ?_) hP
  show some all[j]?=_
  refine(List.getElem?_eq_none (List.drop_eq_nil_iff.mp hd)).symm▸?_
  with_reducible rfl
 | v::rest,j,n,ρ,hd,hn,hP=>by
  obtain⟨n,rfl⟩:∃ m,n=m+1:=⟨n-1,by simp at hn; omega⟩
  have e:(all.drop j)[0]?=some v:=by refine hd.symm▸?_; rfl
  replace e:=(List.getElem?_drop)▸e
  have e:all[j]?=some v:=by simpa using e
  refine zao (hb ρ v (List.mem_of_getElem? e) hP) fun ρ1 h1 hP1=>?_
  refine zao (zgL P hb rest (j+1) n ρ1 (by refine List.tail_drop▸?_; refine hd.symm▸?_; rfl) (by simp at hn; exact Nat.lt_of_lt_of_le (Nat.lt_succ_self _) ‹_›) hP1) fun ρ2 h2 hP2=>?_
  have es:zef σ (.fixed all) j=some (some v):=by
   show some all[j]?=_
   refine e.symm▸?_
   with_reducible rfl
  exact zc1 ρ2 ((zcy (T:=TB) (prim:=true) (v:=v) es h1).trans h2) hP2

noncomputable def zs4 (g t:Bool) (fs:List V) (o:Option V):Env:=[some (.loc 0),some .any,some (zdH g),some (zbN .any [83]),some (trV .any t),some (.tup fs),o]
theorem zqP (g t:Bool) (fs:Up FnC):(EV (d+29)).call zfH [.loc 0] (.words (nmT [105,109,112,108]::(zgC g++(trW t++(nmT [83]::sgT [123]::zed fs.nb (sgT [125]::X)))))::gs)=.ok (zaf .any (.impl g t fs)) (.words X::gs):=by
 refine zat (fn:=zco) (gs':=[]) rfl rfl rfl (zas (ρ:=[some (.loc 0),none,none,none,none,none,none]) rfl ?_) rfl (zaN rfl (.impl g t fs))
 refine zap (ρ1:=[some (.loc 0),some .any,none,none,none,none,none]) (σ1:=[.words (zgC g++(trW t++(nmT [83]::sgT [123]::zed fs.nb (sgT [125]::X))))]) (by kernel_rfl) ?_
 refine zap (ρ1:=[some (.loc 0),some .any,some (zdH g),none,none,none,none]) (σ1:=[.words (trW t++(nmT [83]::sgT [123]::zed fs.nb (sgT [125]::X)))]) (zav (zad (vs:=[.loc 0]) (σ1:=[.words (zgC g++(trW t++(nmT [83]::sgT [123]::zed fs.nb (sgT [125]::X))))]) rfl (zj4 (d+18) _ [] g (by induction t using Bool.casesOn <;> rfl))) (by trivial)) ?_
 obtain⟨ρ2,hρ⟩:∃ ρ2,ρ2=zs4 g t (fs.nb.list.map (zal .any)) none:=⟨_,rfl⟩
 have s2:evSs TB true (EV (d+28)) (match zco.body with
   | .cons _ (.cons _ r)=>r
   | _=>.nil) [some (.loc 0),some .any,some (zdH g),none,none,none,none] [.words (trW t++(nmT [83]::sgT [123]::zed fs.nb (sgT [125]::X)))]=evSs TB true (EV (d+28)) (match zco.body with
   | .cons _ (.cons _ (.cons _ (.cons _ r)))=>r
   | _=>.nil) [some (.loc 0),some .any,some (zdH g),some (zbN .any [83]),some (trV .any t),none,none] [.words (sgT [123]::zed fs.nb (sgT [125]::X))]:=by
  induction t using Bool.casesOn with
  | false=>
   refine(zaj (ρ1:=[some (.loc 0),some .any,some (zdH g),some (zbN .any [83]),some .none,none,none]) (σ1:=[.words (sgT [123]::zed fs.nb (sgT [125]::X))]) (by kernel_rfl)).trans ?_
   exact(zaj (ρ1:=[some (.loc 0),some .any,some (zdH g),some (zbN .any [83]),some .none,none,none]) (σ1:=[.words (sgT [123]::zed fs.nb (sgT [125]::X))]) (by kernel_rfl))
  | true=>
   refine(zaj (ρ1:=[some (.loc 0),some .any,some (zdH g),some (.tup [.str [112,97,116,104],.any,.tup [.tup [.str [84,114],.tup [],.tup [zbN .any [117,56]]]]]),some .none,none,none]) (σ1:=[.words (nmT [102,111,114]::nmT [83]::sgT [123]::zed fs.nb (sgT [125]::X))]) (by kernel_rfl)).trans ?_
   exact(zaj (ρ1:=[some (.loc 0),some .any,some (zdH g),some (zbN .any [83]),some (trV .any true),none,none]) (σ1:=[.words (sgT [123]::zed fs.nb (sgT [125]::X))]) (by kernel_rfl))
 have e:fs.list.map (fun k=>zal .any (nb k))=fs.nb.list.map (zal .any):=by cases fs <;> rfl
 have hr:zjQ (evSs TB true (EV (d+28)) (match zco.body with
   | .cons _ (.cons _ (.cons _ (.cons _ r)))=>r
   | _=>.nil) [some (.loc 0),some .any,some (zdH g),some (zbN .any [83]),some (trV .any t),none,none] [.words (sgT [123]::zed fs.nb (sgT [125]::X))]) (zaf .any (.impl g t fs)) [.words X]:=by
  refine zap (ρ1:=zs4 g t (fs.nb.list.map (zal .any)) none) (σ1:=[.words X]) (zav (zad (vs:=[.loc 0]) (σ1:=[.words (sgT [123]::zed fs.nb (sgT [125]::X))]) rfl (zpv (d+1) X [] fs.nb)) (by exact Nat.le_of_ble_eq_true rfl)) ?_
  obtain⟨ρ',h,o,rfl⟩:=zgL (lo:=EV (d+28)) (b:=.cons (.ite (.cmp .Is (.sub (.x 6) (.c (.int 7))) (.c .none)) (.cons (.raise (.c (.str [97,32,102,117,110,99,116,105,111,110,32,111,102,32,97,110,32,105,109,112,108,32,104,97,115,32,97,32,98,111,100,121])) (.sub (.x 6) (.c (.int 1)))) .nil) .nil) .nil) (i:=6) (σ:=[.words X]) (all:=fs.nb.list.map (zal .any)) (fun ρ=>∃ o,ρ=zs4 g t (fs.nb.list.map (zal .any)) o) (fun ρ v hv ⟨o,ho⟩=>by
   subst ho
   refine⟨_,?_,some v,rfl⟩
   refine zao (List.mem_map.mp hv) fun k hk ee0=>?_
   subst ee0
   have hb:k.bare=false:=by
    cases fs with
    | n0=>cases hk
    | n1 a=>refine(List.mem_singleton.mp hk).symm▸?_; rfl
    | n2 a b=>
     refine Or.elim (List.mem_cons.mp hk) ?_ ?_
     intro nm
     subst nm
     rotate_left
     intro hk
     rotate_left
     ·rfl
     ·refine(List.mem_singleton.mp hk).symm▸?_; rfl
   obtain⟨_,_,_,_,_,_,b⟩:=k
   subst hb
   kernel_rfl) (fs.nb.list.map (zal .any)) 0 zbb (zs4 g t (fs.nb.list.map (zal .any)) none) rfl (by cases fs <;> (unfold zbb; exact Nat.le_of_ble_eq_true rfl)) ⟨none,rfl⟩
  refine zap (ρ1:=zs4 g t (fs.nb.list.map (zal .any)) o) (σ1:=[.words X]) (zjU (T:=TB) (prim:=true) (u:=.tup (fs.nb.list.map (zal .any))) (src:=.fixed (fs.nb.list.map (zal .any))) (σ1:=[.words X]) rfl (by cases fs <;> rfl) (by exact Nat.le_of_ble_eq_true rfl) h) ?_
  dsimp only[zaf]
  refine e.symm▸?_
  exact fin rfl
 refine zaF hr ?_
 clear hr
 intro ρ' hr
 exact⟨ρ',s2.trans hr⟩
theorem zs5 (p:Bool) (n:U4) (al:Bool):(EV (d+20)).call zkQ [.loc 0,.bool p] (.words (nmT [117,115,101]::(ztv n++(asW al++(sgT [59]::X))))::gs)=.ok (zaf .any (.use p n al)) (.words X::gs):=by
 induction n using U4.casesOn <;> induction al using Bool.casesOn <;> kernel_rfl
theorem zmZ (p:Bool):(EV (d+20)).call zie [.loc 0,.bool p] (.words (nmT [99,111,110,115,116]::nmT [67]::sgT [58]::nmT [117,56]::sgT [61]::svT::sgT [59]::X)::gs)=.ok (zaf .any (.const p)) (.words X::gs):=by
 kernel_rfl

noncomputable def kinds:C:=.dict [([115,116,114,117,99,116],.fn 52),([101,110,117,109],.fn 53),([116,114,97,105,116],.fn 56),([109,111,100],.fn 57),([117,115,101],.fn 59),([99,111,110,115,116],.fn 60)]
theorem zoI {T:Tab}{lo:Lo}{ρ:Env}{σ σ1 σ2:List C}{f:E}{es:Es}{k:Nat}{fn:Fn}{vs:List V}{r:R V} (h:evE T true lo f ρ σ=.ok (.fn k) σ1) (hf:T.fns[k]?=some fn) (h2:evEs T true lo es ρ σ1=.ok vs σ2) (h3:lo.call k vs σ2=r):evE T true lo (.vcall f es) ρ σ=r:=by
 show(evE T true lo f ρ σ).bind _=_
 refine h.symm▸?_
 show(match T.fns[k]? with
  | some _=>R.ok () σ1
  | none=>.stuck).bind _=_
 refine hf.symm▸?_
 show(evEs T true lo es ρ σ1).bind _=_
 refine h2.symm▸?_; exact h3
theorem zeW {p:Bool}{w:List Nat}{Y:List V}{k:Nat}{fn:Fn}{v:V}{L:Nat} (hw:w=[115,116,114,117,99,116]∧k=52∨w=[101,110,117,109]∧k=53∨w=[116,114,97,105,116]∧k=56∨w=[109,111,100]∧k=57∨w=[117,115,101]∧k=59∨w=[99,111,110,115,116]∧k=60)
  (hf:TB.fns[k]?=some fn) (hv:plain v=true) (h:∀ gs,(EV (L+4)).call k [.loc 0,.bool p] (.words (nmT w::Y)::gs)=.ok v (.words X::gs)):(EV (L+5)).call zbp [.loc 0] (.words (zmD p++nmT w::Y)::gs)=.ok v (.words X::gs):=by
 refine zat (fn:=zc6) (gs':=[kinds]) rfl rfl rfl (zas (ρ:=[some (.loc 0),none,none,none]) rfl ?_) rfl hv
 have s1:evS TB true (EV (L+4)) (.asg 1 (.call 44 (.cons (.x 0) .nil))) [some (.loc 0),none,none,none] [.words (zmD p++nmT w::Y)]=.ok (.next,[some (.loc 0),some (.bool p),none,none]) [.words (nmT w::Y)]:=by
  rcases hw with ⟨rfl,_⟩ | ⟨rfl,_⟩ | ⟨rfl,_⟩ | ⟨rfl,_⟩ | ⟨rfl,_⟩ | ⟨rfl,_⟩ <;> induction p using Bool.casesOn <;> kernel_rfl
 refine zap s1 ?_
 refine zap (ρ1:=[some (.loc 0),some (.bool p),some (nmT w),none]) (σ1:=[.words (nmT w::Y)]) rfl ?_
 refine zap (ρ1:=[some (.loc 0),some (.bool p),some (nmT w),none]) (σ1:=[.words (nmT w::Y)]) rfl ?_
 refine zap (ρ1:=[some (.loc 0),some (.bool p),some (nmT w),none]) (σ1:=[.words (nmT w::Y)]) (by rcases hw with ⟨rfl,_⟩ | ⟨rfl,_⟩ | ⟨rfl,_⟩ | ⟨rfl,_⟩ | ⟨rfl,_⟩ | ⟨rfl,_⟩ <;> kernel_rfl) ?_
 refine zap (ρ1:=[some (.loc 0),some (.bool p),some (nmT w),none]) (σ1:=[.words (nmT w::Y)]) (by rcases hw with ⟨rfl,_⟩ | ⟨rfl,_⟩ | ⟨rfl,_⟩ | ⟨rfl,_⟩ | ⟨rfl,_⟩ | ⟨rfl,_⟩ <;> kernel_rfl) ?_
 refine zap (ρ1:=[some (.loc 0),some (.bool p),some (nmT w),some (.loc 1)]) (σ1:=[.words (nmT w::Y),kinds]) (by kernel_rfl) ?_
 refine zap (ρ1:=[some (.loc 0),some (.bool p),some (nmT w),some (.loc 1)]) (σ1:=[.words (nmT w::Y),kinds]) (by rcases hw with ⟨rfl,_⟩ | ⟨rfl,_⟩ | ⟨rfl,_⟩ | ⟨rfl,_⟩ | ⟨rfl,_⟩ | ⟨rfl,_⟩ <;> kernel_rfl) ?_
 exact fin (zoI (k:=k) (σ1:=[.words (nmT w::Y),kinds]) (by rcases hw with ⟨rfl,rfl⟩ | ⟨rfl,rfl⟩ | ⟨rfl,rfl⟩ | ⟨rfl,rfl⟩ | ⟨rfl,rfl⟩ | ⟨rfl,rfl⟩ <;> kernel_rfl) hf (vs:=[.loc 0,.bool p]) (σ2:=[.words (nmT w::Y),kinds]) rfl (h [kinds]))
theorem zqQ {L:Nat} (k:FnC) (h:∀ gs,(EV (L+4)).call zic [.loc 0,.bool k.pub] (.words (zja k X)::gs)=.ok (zal .any k) (.words X::gs)):(EV (L+5)).call zbp [.loc 0] (.words (fnW k X)::gs)=.ok (zal .any k) (.words X::gs):=by
 refine zat (fn:=zc6) (gs':=[]) rfl rfl rfl (zas (ρ:=[some (.loc 0),none,none,none]) rfl ?_) rfl (zaV rfl k)
 obtain⟨p,g,s,n,q,r,b⟩:=k
 have s1:evS TB true (EV (L+4)) (.asg 1 (.call 44 (.cons (.x 0) .nil))) [some (.loc 0),none,none,none] [.words (fnW ⟨p,g,s,n,q,r,b⟩ X)]=.ok (.next,[some (.loc 0),some (.bool p),none,none]) [.words (zja ⟨p,g,s,n,q,r,b⟩ X)]:=by
  induction p using Bool.casesOn <;> kernel_rfl
 refine zap s1 ?_
 refine zap (ρ1:=[some (.loc 0),some (.bool p),some (nmT [102,110]),none]) (σ1:=[.words (zja ⟨p,g,s,n,q,r,b⟩ X)]) (by kernel_rfl) ?_
 refine zap (ρ1:=[some (.loc 0),some (.bool p),some (nmT [102,110]),none]) (σ1:=[.words (zja ⟨p,g,s,n,q,r,b⟩ X)]) (by kernel_rfl) ?_
 refine zjb (b:=true) (σ1:=[.words (zja ⟨p,g,s,n,q,r,b⟩ X)]) (by kernel_rfl) ?_
 exact fin (zad (vs:=[.loc 0,.bool p]) (σ1:=[.words (zja ⟨p,g,s,n,q,r,b⟩ X)]) rfl (h []))
theorem zm0 {L:Nat}{Y:List V}{v:V} (hv:plain v=true) (h:∀ gs,(EV (L+4)).call zfH [.loc 0] (.words (nmT [105,109,112,108]::Y)::gs)=.ok v (.words X::gs)):(EV (L+5)).call zbp [.loc 0] (.words (nmT [105,109,112,108]::Y)::gs)=.ok v (.words X::gs):=by
 refine zat (fn:=zc6) (gs':=[]) rfl rfl rfl (zas (ρ:=[some (.loc 0),none,none,none]) rfl ?_) rfl hv
 refine zap (ρ1:=[some (.loc 0),some (.bool false),none,none]) (σ1:=[.words (nmT [105,109,112,108]::Y)]) (by kernel_rfl) ?_
 refine zap (ρ1:=[some (.loc 0),some (.bool false),some (nmT [105,109,112,108]),none]) (σ1:=[.words (nmT [105,109,112,108]::Y)]) (by kernel_rfl) ?_
 refine zap (ρ1:=[some (.loc 0),some (.bool false),some (nmT [105,109,112,108]),none]) (σ1:=[.words (nmT [105,109,112,108]::Y)]) (by kernel_rfl) ?_
 refine zap (ρ1:=[some (.loc 0),some (.bool false),some (nmT [105,109,112,108]),none]) (σ1:=[.words (nmT [105,109,112,108]::Y)]) (by kernel_rfl) ?_
 refine zjb (b:=true) (σ1:=[.words (nmT [105,109,112,108]::Y)]) (by kernel_rfl) ?_
 refine zap (ρ1:=[some (.loc 0),some (.bool false),some (nmT [105,109,112,108]),none]) (σ1:=[.words (nmT [105,109,112,108]::Y)]) (by kernel_rfl) ?_
 exact fin (zad (vs:=[.loc 0]) (σ1:=[.words (nmT [105,109,112,108]::Y)]) rfl (h []))
theorem zj5 (i:It0):(EV (d+30)).call zbp [.loc 0] (.words (zhz i X)::gs)=.ok (zaf .any i) (.words X::gs):=by
 induction i using It0.casesOn with
 | fn k=>exact zqQ X gs k (L:=d+25) fun gs=>zpu (d+5) X gs k
 | struct p g f=>exact zeW X gs (L:=d+25) (.inl ⟨rfl,rfl⟩) rfl (zaN rfl _) fun gs=>zmY (d+7) X gs p g f
 | enum p g e=>exact zeW X gs (L:=d+25) (.inr (.inl ⟨rfl,rfl⟩)) rfl (zaN rfl _) fun gs=>zqO (d+6) X gs p g e
 | impl g t fs=>exact zm0 X gs (L:=d+25) (zaN rfl (.impl g t fs)) fun gs=>zqP d X gs g t fs
 | trait p fs=>exact zeW X gs (L:=d+25) (.inr (.inr (.inl ⟨rfl,rfl⟩))) rfl (zaN rfl _) fun gs=>zoH d X gs p fs
 | use p n al=>exact zeW X gs (L:=d+25) (.inr (.inr (.inr (.inr (.inl ⟨rfl,rfl⟩))))) rfl (zaN rfl _) fun gs=>zs5 (d+9) X gs p n al
 | const p=>exact zeW X gs (L:=d+25) (.inr (.inr (.inr (.inr (.inr ⟨rfl,rfl⟩))))) rfl (zaN rfl _) fun gs=>zmZ (d+9) X gs p
end
end
section
theorem zoJ (k:FnC) (r s:List V):zja k r++s=zja k (r++s):=by simp[zja]
theorem zm1 (k:FnC) (r s:List V):fnW k r++s=fnW k (r++s):=by simp[fnW,zoJ]
theorem zix (f:FormC) (r s:List V):zbI f r++s=zbI f (r++s):=by induction f using FormC.casesOn <;> simp[zbI]
theorem zqR (e:EL) (r s:List V):elW e r++s=elW e (r++s):=by induction e using EL.casesOn <;> simp[elW,zix]
theorem zoK (fs:Up FnC) (r s:List V):zed fs r++s=zed fs (r++s):=by cases fs <;> simp[zed,zm1]
theorem zj6 (i:It0) (r s:List V):zhz i r++s=zhz i (r++s):=by induction i using It0.casesOn <;> simp[zhz,zm1,zix,zqR,zoK]
theorem zm2 (is:Up It0) (r s:List V):zew is r++s=zew is (r++s):=by cases is <;> simp[zew,zj6]
theorem zqS (i:It) (r s:List V):itW i r++s=itW i (r++s):=by induction i using It.casesOn <;> simp[itW,zj6,zm2]
noncomputable def zj7:List It→List V
 | []=>[zlb]
 | i::l=>itW i (zj7 l)
theorem zj8:∀ l:List It,zqM l++[zlb]=zj7 l
 | []=>rfl
 | i::l=>by
  show itW i (zqM l)++_=itW i (zj7 l)
  rw[zqS,zj8 l]

section
variable (d:Nat) (X:List V) (gs:List C)
noncomputable def itB:Ss:=(zdL zb5.body).2
noncomputable def itT:E:=(zdL zb5.body).1
noncomputable def zcb (e:List Nat) (_:Option V):Env:=[some (.loc 0),some (.str e),some (.loc 1)]
theorem zjm {L:Nat}{e:List Nat}{Y:List V}{v:V} (h:∀ gs,(EV (L+1)).call zbp [.loc 0] (.words Y::gs)=.ok v (.words X::gs)):∀ (o:Option V) acc,acc.length < LIM→∃ o',(EV (L+2)).st itB (zcb e o) [.words Y,.list acc]=.ok (.next,zcb e o') [.words X,.list (acc++[v])]:=fun o acc hl=>by
 refine⟨none,?_⟩
 show evSs TB true (EV (L+1)) itB (zcb e o) [.words Y,.list acc]=_
 exact(zaj (zc8 (zbJ (k:=1) (v:=v) (vs:=acc) (ws:=acc) (σ1:=[.words Y,.list acc]) (σ2:=[.words X,.list acc]) rfl rfl (zad (vs:=[.loc 0]) (σ1:=[.words Y,.list acc]) rfl (h [.list acc])) rfl hl))).trans rfl
theorem zj9 {L:Nat} (i:It0) (e:List Nat) (he:e=[125]∨e=[]) (o:Option V) (acc:List V):(EV (L+2)).tr itT (zcb e o) [.words (zhz i X),.list acc]=.ok true [.words (zhz i X),.list acc]:=by
 induction i using It0.casesOn with
 | fn k=>obtain⟨p,_,_,_,_,_,_⟩:=k; rcases he with rfl | rfl <;> induction p using Bool.casesOn <;> kernel_rfl
 | struct p g f=>rcases he with rfl | rfl <;> induction p using Bool.casesOn <;> kernel_rfl
 | enum p g f=>rcases he with rfl | rfl <;> induction p using Bool.casesOn <;> kernel_rfl
 | impl g t f=>rcases he with rfl | rfl <;> kernel_rfl
 | trait p f=>rcases he with rfl | rfl <;> induction p using Bool.casesOn <;> kernel_rfl
 | use p n a=>rcases he with rfl | rfl <;> induction p using Bool.casesOn <;> kernel_rfl
 | const p=>rcases he with rfl | rfl <;> induction p using Bool.casesOn <;> kernel_rfl
theorem zuj {L:Nat} (i:It) (o:Option V) (acc:List V):(EV (L+2)).tr itT (zcb [] o) [.words (itW i X),.list acc]=.ok true [.words (itW i X),.list acc]:=by
 induction i using It.casesOn with
 | base i=>exact zj9 X i [] (.inr rfl) o acc
 | mod p is=>induction p using Bool.casesOn <;> kernel_rfl

theorem zm3 (is:Up It0):(EV (d+33)).call ze6 [.loc 0,.str [125]] (.words (zew is (sgT [125]::X))::gs)=.ok (.tup (is.list.map (zaf .any))) (.words (sgT [125]::X)::gs):=by
 have hp:plains (is.list.map (zaf .any))=true:=zdI (fun k=>zaN rfl k) is
 have hl:(is.list.map (zaf .any)).length≤2:=by cases is <;> simp[Up.list]
 have ch:Chain (EV (d+32)) itT itB (zcb [125]) (zew is (sgT [125]::X)) (sgT [125]::X) (is.list.map (zaf .any)):=by
  have tn:∀ i Y,∀ (o:Option V) acc,acc.length < LIM→∃ o',(EV (d+32)).st itB (zcb [125] o) [.words (zhz i Y),.list acc]=.ok (.next,zcb [125] o') [.words Y,.list (acc++[zaf .any i])]:=fun i Y=>zjm Y (L:=d+30) fun gs=>zj5 (d+1) Y gs i
  cases is with
  | n0=>exact .nil _
  | n1 a=>exact .cons (fun o acc=>zj9 (L:=d+30) _ a [125] (.inl rfl) o acc) (tn a _) (.nil _)
  | n2 a b=>exact .cons (fun o acc=>zj9 (L:=d+30) _ a [125] (.inl rfl) o acc) (tn a _) (.cons (fun o acc=>zj9 (L:=d+30) _ b [125] (.inl rfl) o acc) (tn b _) (.nil _))
 refine zat (fn:=zb5) (gs':=[.list (is.list.map (zaf .any))]) rfl rfl rfl (zas (ρ:=[some (.loc 0),some (.str [125]),none]) rfl ?_) rfl hp
 refine zap (ρ1:=zcb [125] none) (σ1:=[.words (zew is (sgT [125]::X)),.list []]) rfl ?_
 refine zaF (zfX ch (fun o acc=>by kernel_rfl) zd1 none [] (by unfold zd1; omega) (by simp only[List.length_nil]; unfold LIM; omega)) fun o' hw=>?_
 refine zap (ρ1:=zcb [125] none) (σ1:=[.words (sgT [125]::X),.list (is.list.map (zaf .any))]) hw ?_
 refine zap (ρ1:=zcb [125] none) (σ1:=[.words (sgT [125]::X),.list (is.list.map (zaf .any))]) rfl ?_
 exact fin (zbK (k:=1) rfl rfl (by unfold LIM; exact Nat.le_trans ‹_› (by decide)))
theorem zs6 (p:Bool) (is:Up It0):(EV (d+34)).call zkP [.loc 0,.bool p] (.words (nmT [109,111,100]::nmT [109]::sgT [123]::zew is (sgT [125]::X))::gs)=.ok (zar .any (.mod p is)) (.words X::gs):=by
 refine zat (fn:=zgy) (gs':=[]) rfl rfl rfl (zas (ρ:=[some (.loc 0),some (.bool p),none,none,none]) rfl ?_) rfl (zfk rfl (.mod p is))
 refine zap (ρ1:=[some (.loc 0),some (.bool p),some .any,none,none]) (σ1:=[.words (nmT [109]::sgT [123]::zew is (sgT [125]::X))]) (by kernel_rfl) ?_
 refine zap (ρ1:=[some (.loc 0),some (.bool p),some .any,some (.str [109]),none]) (σ1:=[.words (sgT [123]::zew is (sgT [125]::X))]) (by kernel_rfl) ?_
 refine zap (ρ1:=[some (.loc 0),some (.bool p),some .any,some (.str [109]),none]) (σ1:=[.words (zew is (sgT [125]::X))]) (by kernel_rfl) ?_
 refine zap (ρ1:=[some (.loc 0),some (.bool p),some .any,some (.str [109]),some (.tup (is.list.map (zaf .any)))]) (σ1:=[.words (sgT [125]::X)]) (zav (zad (vs:=[.loc 0,.str [125]]) (σ1:=[.words (zew is (sgT [125]::X))]) rfl (zm3 d X [] is)) (by exact Nat.le_of_ble_eq_true rfl)) ?_
 refine zap (ρ1:=[some (.loc 0),some (.bool p),some .any,some (.str [109]),some (.tup (is.list.map (zaf .any)))]) (σ1:=[.words X]) (by kernel_rfl) ?_
 exact fin rfl
theorem zqT (i:It):(EV (d+35)).call zbp [.loc 0] (.words (itW i X)::gs)=.ok (zar .any i) (.words X::gs):=by
 induction i using It.casesOn with
 | base i=>exact zj5 (d+5) X gs i
 | mod p is=>exact zeW X gs (L:=d+30) (.inr (.inr (.inr (.inl ⟨rfl,rfl⟩)))) rfl (zfk rfl _) fun gs=>zs6 d X gs p is

noncomputable def zaw (z:V):V:=.tup [.str [115,116,114,117,99,116],z,.str [80],.tup [.tup [],.tup []],.str [116,117,112,108,101],.tup [.tup [.str [48],zbN z [117,56],.bool false],.tup [.str [49],zbN z [117,56],.bool true]],.bool false]
theorem zoL:(EV (d+30)).call zbp [.loc 0] (.words (zdx X)::gs)=.ok (zaw .any) (.words X::gs):=by kernel_rfl
theorem ziy:∀ l:List It,Chain (EV (d+37)) itT itB (zcb []) (zj7 l) [zlb] (l.map (zar .any))
 | []=>.nil _
 | i::l=>.cons (fun o acc=>zuj (L:=d+35) _ i o acc) (zjm (zj7 l) (L:=d+35) fun gs=>zqT (d+1) (zj7 l) gs i) (ziy l)
theorem zfY {z:V} (hz:plain z=true):∀ l:List It,plains (l.map (zar z))=true
 | []=>rfl
 | i::l=>by
  show(plain (zar z i)&&plains (l.map (zar z)))=true
  rw[zfk hz,zfY hz l]; rfl
theorem zoM (l:List It) (hl:l.length≤100):(EV (d+38)).call ze6 [.loc 0,.str []] (.words (zdx (zj7 l))::gs)=.ok (.tup (zaw .any::l.map (zar .any))) (.words [zlb]::gs):=by
 have ch:Chain (EV (d+37)) itT itB (zcb []) (zdx (zj7 l)) [zlb] (zaw .any::l.map (zar .any)):=
  .cons (fun o acc=>by kernel_rfl) (zjm (zj7 l) (L:=d+35) fun gs=>zoL (d+6) (zj7 l) gs) (ziy d l)
 refine zat (fn:=zb5) (gs':=[.list (zaw .any::l.map (zar .any))]) rfl rfl rfl (zas (ρ:=[some (.loc 0),some (.str []),none]) rfl ?_) rfl (by show(plain (zaw .any)&&plains (l.map (zar .any)))=true; rw[zfY rfl]; rfl)
 refine zap (ρ1:=zcb [] none) (σ1:=[.words (zdx (zj7 l)),.list []]) rfl ?_
 refine zaF (zfX ch (fun o acc=>by kernel_rfl) zd1 none [] (by simp; unfold zd1; omega) (by simp; unfold LIM; omega)) fun o' hw=>?_
 refine zap (ρ1:=zcb [] none) (σ1:=[.words [zlb],.list (zaw .any::l.map (zar .any))]) hw ?_
 refine zap (ρ1:=zcb [] none) (σ1:=[.words [zlb],.list (zaw .any::l.map (zar .any))]) rfl ?_
 exact fin (zbK (k:=1) rfl rfl (by simp; unfold LIM; omega))
theorem zk3 (l:List It) (hl:l.length≤3) (hs:(zaB [10] (zbL::l.map zaK)).length < 3999):(EV (d+39)).call zdQ [.str (zaB [10] (zbL::l.map zaK))] gs=.ok (.tup (zaw .any::l.map (zar .any))) gs:=by
 have hw:=zoE (d+30) hs (zs3 l) []
 rw[show zdx (zqM l)++[zlb]=zdx (zj7 l) by rw[← zj8]; rfl] at hw
 refine zbe (fn:=zbl) (gs':=[.words [zlb]]) rfl rfl (zas (ρ:=[some (.str (zaB [10] (zbL::l.map zaK))),none]) rfl ?_) (by show(plain (zaw .any)&&plains (l.map (zar .any)))=true; rw[zfY rfl]; rfl)
 refine zap (ρ1:=[some (.str (zaB [10] (zbL::l.map zaK))),some (.loc 0)]) (σ1:=[.words (zdx (zj7 l))]) (zav (zad (vs:=[.str (zaB [10] (zbL::l.map zaK))]) (σ1:=[]) rfl hw) (by exact Nat.le_of_ble_eq_true rfl)) ?_
 exact fin (zad (vs:=[.loc 0,.str []]) (σ1:=[.words (zdx (zj7 l))]) rfl (zoM d [] l (by exact Nat.le_trans ‹_› (by decide))))
end
end
section
noncomputable def zez:V→Bool
 | .int _=>true
 | .any=>true
 | _=>false
noncomputable def zlc:List V→List V→List V
 | a::b::_,a'::b'::r=>match isStr a&&zez b with
  | true=>a'::.int 0::r
  | false=>a'::b'::r
 | _,bs=>bs
mutual
noncomputable def zbO:V→V
 | .tup vs=>.tup (zlc vs (bareVs vs))
 | v=>v
noncomputable def bareVs:List V→List V
 | []=>[]
 | v::vs=>zbO v::bareVs vs
end
theorem zcX:∀ vs:List V,(bareVs vs).length=vs.length
 | []=>rfl
 | v::vs=>by simp[bareVs,zcX vs]
mutual
noncomputable def thin:V→Bool
 | .none=>true
 | .bool _=>true
 | .int _=>true
 | .any=>true
 | .str _=>true
 | .tup vs=>decide (vs.length≤100)&&thins vs
 | _=>false
noncomputable def thins:List V→Bool
 | []=>true
 | v::vs=>thin v&&thins vs
end
theorem zk4 {vs bs:List V} (h:plains bs=true):plains (zlc vs bs)=true:=by
 match vs,bs,h with
 | [],bs,h=>exact h
 | [_],bs,h=>exact h
 | a::b::vs,[],h=>exact h
 | a::b::vs,[c],h=>exact h
 | a::b::vs,a'::b'::r,h=>
  show plains (match isStr a&&zez b with
   | true=>a'::.int 0::r
   | false=>a'::b'::r)=true
  induction isStr a&&zez b using Bool.casesOn with
  | false=>exact h
  | true=>
   have h:(plain a'&&(plain b'&&plains r))=true:=h
   simp only[Bool.and_eq_true] at h
   show(plain a'&&(true&&plains r))=true
   simp[h]
mutual
theorem zgM:∀ v:V,thin v=true→plain (zbO v)=true
 | .none,_=>rfl
 | .bool _,_=>rfl
 | .int _,_=>rfl
 | .any,_=>rfl
 | .str _,_=>rfl
 | .tup vs,h=>by
  have h:(decide (vs.length≤100)&&thins vs)=true:=h
  have ih:=bares_plain vs (Bool.and_eq_true_iff.mp h).2
  exact zk4 ih
 | .loc _,h=>nomatch h
 | .fn _,h=>nomatch h
 | .rng _,h=>nomatch h
theorem bares_plain:∀ vs:List V,thins vs=true→plains (bareVs vs)=true
 | [],_=>rfl
 | v::vs,h=>by
  have h:(thin v&&thins vs)=true:=h
  rw[Bool.and_eq_true] at h
  show(plain (zbO v)&&plains (bareVs vs))=true
  refine(zgM v h.1).symm▸?_; refine(bares_plain vs h.2).symm▸?_; rfl
end
theorem zeX:∀ v:V,thin v=true→plain v=true:=by
 intro v
 refine V.rec (motive_1:=fun v=>thin v=true→plain v=true) (motive_2:=fun vs=>thins vs=true→plains vs=true) ?_ ?_ ?_ ?_ ?_ ?_ ?_ ?_ ?_ ?_ ?_ v
 ·intro _; rfl
 ·intro _ _; rfl
 ·intro _ _; rfl
 ·intro _; rfl
 ·intro _ _; rfl
 ·intro vs ih h
  have h:(decide (vs.length≤100)&&thins vs)=true:=h
  exact ih (Bool.and_eq_true_iff.mp h).2
 ·intro _ h; exact(Bool.false_ne_true h).elim
 ·intro _ h; exact(Bool.false_ne_true h).elim
 ·intro _ h; exact(Bool.false_ne_true h).elim
 ·intro _; rfl
 ·intro v vs h1 h2 h
  have h:(thin v&&thins vs)=true:=h
  rw[Bool.and_eq_true] at h
  show(plain v&&plains vs)=true
  refine(h1 h.1).symm▸?_; refine(h2 h.2).symm▸?_; rfl

noncomputable def zoN:E:=.call 74 (.cons (.x 0) .nil)
theorem ziz {f:V→List C→R V}{all:List V}{σ:List C}:∀ (rest:List V) (j n:Nat),(∀ v∈rest,f v σ=.ok (zbO v) σ)→all.drop j=rest→rest.length < n→zch f (.fixed all) n j σ=.ok (bareVs rest) σ
 | [],j,n,hf,hd,hn=>by
  obtain⟨n,rfl⟩:∃ m,n=m+1:=⟨n-1,by simp at hn; exact(Nat.sub_add_cancel ‹_›).symm⟩
  unfold zch
  have:zef σ (.fixed all) j=some none:=by
   show some all[j]?=_
   refine(List.getElem?_eq_none (List.drop_eq_nil_iff.mp hd)).symm▸?_
   with_reducible rfl
  refine this.symm▸?_; rfl
 | v::rest,j,n,hf,hd,hn=>by
  obtain⟨n,rfl⟩:∃ m,n=m+1:=⟨n-1,by simp at hn; omega⟩
  have ih:=ziz (f:=f) (all:=all) (σ:=σ) rest (j+1) n (fun u hu=>hf u (List.mem_cons_of_mem _ hu)) (by refine List.tail_drop▸?_; refine hd.symm▸?_; rfl) (by simp at hn; exact Nat.lt_of_lt_of_le (Nat.lt_succ_self _) ‹_›)
  unfold zch
  have:zef σ (.fixed all) j=some (some v):=by
   show some all[j]?=_
   have e:(all.drop j)[0]?=some v:=by refine hd.symm▸?_; rfl
   replace e:=(List.getElem?_drop)▸e
   simpa using e
  refine this.symm▸?_
  dsimp only
  refine(hf v (List.mem_cons_self ..)).symm▸?_
  dsimp only
  refine ih.symm▸?_; rfl
noncomputable def zoO:E:=(.bop true (.cons (.cmp .Gt (.bi .len (.cons (.x 1) .nil)) (.c (.int 1))) (.cons (.isi (.sub (.x 0) (.c (.int 0))) .str) (.cons (.isi (.sub (.x 0) (.c (.int 1))) .int) (.cons (.not (.isi (.sub (.x 0) (.c (.int 1))) .bool)) .nil)))))
theorem zka {v:V} (h:thin v=true):znx .str v=some (isStr v)∧∃ q,znx .int v=some q∧znx .bool v=some (q&&!zez v)∧(zez v=true→q=true):=by
 induction v using V.casesOn with
 | none=>exact⟨rfl,false,rfl,rfl,fun h=>nomatch h⟩
 | bool b=>exact⟨rfl,true,rfl,rfl,fun ua=>rfl⟩
 | int i=>exact⟨rfl,true,rfl,rfl,fun ua=>rfl⟩
 | any=>exact⟨rfl,true,rfl,rfl,fun ua=>rfl⟩
 | str s=>exact⟨rfl,false,rfl,rfl,fun h=>nomatch h⟩
 | tup vs=>exact⟨rfl,false,rfl,rfl,fun h=>nomatch h⟩
 | loc n=>exact(Bool.false_ne_true h).elim
 | fn n=>exact(Bool.false_ne_true h).elim
 | rng n=>exact(Bool.false_ne_true h).elim

theorem zoP (lo:Lo) (vs:List V) (ht:thins vs=true) (hl:vs.length≤100):zjQ (evSs TB true lo (match zcQ.body with
  | .cons _ (.cons _ r)=>r
  | _=>.nil) [some (.tup vs),some (.loc 0)] [.list (bareVs vs)]) (.tup (zlc vs (bareVs vs))) [.list (zlc vs (bareVs vs))]:=by
 have hb:=zcX vs
 have lenE:evE TB true lo (.bi .len (.cons (.x 1) .nil)) [some (.tup vs),some (.loc 0)] [.list (bareVs vs)]=.ok (.int vs.length) [.list (bareVs vs)]:=by
  show(match (if(bareVs vs).length≤zaP then some (bareVs vs).length else none) with
   | some n=>R.ok (V.int n) [C.list (bareVs vs)]
   | none=>.stuck)=_
  rw[hb,if_pos (by unfold zaP; exact Nat.le_trans ‹_› (by decide))]
 have t1:evT TB true lo (.cmp .Gt (.bi .len (.cons (.x 1) .nil)) (.c (.int 1))) [some (.tup vs),some (.loc 0)] [.list (bareVs vs)]=.ok (decide ((1:Int) < vs.length)) [.list (bareVs vs)]:=
  za8 lenE rfl rfl
 have last:∀ ws:List V,ws.length≤100→zjQ (evSs TB true lo (.cons (.ret (.bi .tuple (.cons (.x 1) .nil))) .nil) [some (.tup vs),some (.loc 0)] [.list ws]) (.tup ws) [.list ws]:=fun ws h=>fin (zbK (k:=0) rfl rfl (by unfold LIM; exact Nat.le_trans ‹_› (by decide)))
 have keep:∀ (h:evT TB true lo zoO [some (.tup vs),some (.loc 0)] [.list (bareVs vs)]=.ok false [.list (bareVs vs)]),zlc vs (bareVs vs)=bareVs vs→zjQ (evSs TB true lo (match zcQ.body with
  | .cons _ (.cons _ r)=>r
  | _=>.nil) [some (.tup vs),some (.loc 0)] [.list (bareVs vs)]) (.tup (zlc vs (bareVs vs))) [.list (zlc vs (bareVs vs))]:=fun h e=>by
  refine e.symm▸?_
  exact zap (ρ1:=[some (.tup vs),some (.loc 0)]) (σ1:=[.list (bareVs vs)]) ((zaT h).trans rfl) (last _ (by omega))
 refine bc fun hN=>?_
 induction vs using List.casesOn with
 | nil=>refine hN ?_; exact keep ((zpo t1).trans rfl) rfl
 | cons a vs=>
  induction vs using List.casesOn with
  | nil=>refine hN ?_; exact keep ((zpo t1).trans rfl) rfl
  | cons b vs=>
   have ht:(thin a&&(thin b&&thins vs))=true:=ht
   simp only[Bool.and_eq_true] at ht
   obtain⟨ha,q,hq1,hq2,hq3⟩:=(zka ht.1).1,(zka ht.2.1).2
   rw[decide_eq_true (by simp only[List.length_cons]; omega)] at t1
   have i0:idx 0 (vs.length+1+1)=some 0:=zjl (i:=0) (by exact Nat.succ_pos _) (by simp at hl; unfold zaP; omega)
   have i1:idx 1 (vs.length+1+1)=some 1:=zjl (i:=1) (by exact Nat.le_add_left _ _) (by simp at hl; unfold zaP; omega)
   have s0:evE TB true lo (.sub (.x 0) (.c (.int 0))) [some (.tup (a::b::vs)),some (.loc 0)] [.list (bareVs (a::b::vs))]=.ok a [.list (bareVs (a::b::vs))]:=
    zbg (u:=.tup (a::b::vs)) (w:=.int 0) rfl rfl (by
     show(match idx 0 (vs.length+1+1) with
      | some j=>(a::b::vs)[j]?
      | none=>none)=_
     refine i0.symm▸?_; rfl)
   have s1:evE TB true lo (.sub (.x 0) (.c (.int 1))) [some (.tup (a::b::vs)),some (.loc 0)] [.list (bareVs (a::b::vs))]=.ok b [.list (bareVs (a::b::vs))]:=
    zbg (u:=.tup (a::b::vs)) (w:=.int 1) rfl rfl (by
     show(match idx 1 (vs.length+1+1) with
      | some j=>(a::b::vs)[j]?
      | none=>none)=_
     refine i1.symm▸?_; rfl)
   have isiT:∀ {e:E}{v:V}{t:TY}{q:Bool},evE TB true lo e [some (.tup (a::b::vs)),some (.loc 0)] [.list (bareVs (a::b::vs))]=.ok v [.list (bareVs (a::b::vs))]→znx t v=some q→evT TB true lo (.isi e t) [some (.tup (a::b::vs)),some (.loc 0)] [.list (bareVs (a::b::vs))]=.ok q [.list (bareVs (a::b::vs))]:=fun{e v t q} h h2=>by
    show(evE TB true lo e _ _).bind _=_
    refine h.symm▸?_
    show ofOpt _ (znx t v)=_
    refine h2.symm▸?_; rfl
   have t2:=isiT s0 ha
   have t3:=isiT s1 hq1
   have t4:evT TB true lo (.not (.isi (.sub (.x 0) (.c (.int 1))) .bool)) [some (.tup (a::b::vs)),some (.loc 0)] [.list (bareVs (a::b::vs))]=.ok (!(q&&!zez b)) [.list (bareVs (a::b::vs))]:=by
    show(evT TB true lo (.isi (.sub (.x 0) (.c (.int 1))) .bool) _ _).bind _=_
    refine(isiT s1 hq2).symm▸?_; rfl
   have tt:evT TB true lo zoO [some (.tup (a::b::vs)),some (.loc 0)] [.list (bareVs (a::b::vs))]=.ok (isStr a&&zez b) [.list (bareVs (a::b::vs))]:=by
    refine(show zoO=_ from rfl).symm▸?_
    unfold zoO
    refine(zpo t1).symm▸?_
    show evTs _ _ _ _ _ _ _=_
    refine(zbn t2).symm▸?_
    induction h1:isStr a using Bool.casesOn with
    | false=>rfl
    | true=>
     show evTs _ _ _ _ _ _ _=_
     refine(zbn t3).symm▸?_
     induction h2:q using Bool.casesOn with
     | false=>
      replace hq3:=h2▸hq3
      have:zez b=false:=by induction z:zez b using Bool.casesOn with
       | false=>rfl
       | true=>exact absurd (hq3 z) (by decide)
      refine this.symm▸?_; rfl
     | true=>
      show evTs _ _ _ _ _ _ _=_
      refine(zbn t4).symm▸?_
      refine h2.symm▸?_
      induction zez b using Bool.casesOn <;> rfl
   cases h:(isStr a&&zez b) with
   | false=>
    replace tt:=h▸tt
    refine hN ?_
    refine keep tt ?_
    show(match isStr a&&zez b with
     | true=>zbO a::.int 0::bareVs vs
     | false=>zbO a::zbO b::bareVs vs)=_
    refine h.symm▸?_; rfl
   | true=>
    replace tt:=h▸tt
    have e:zlc (a::b::vs) (bareVs (a::b::vs))=zbO a::.int 0::bareVs vs:=by
     show(match isStr a&&zez b with
      | true=>zbO a::.int 0::bareVs vs
      | false=>zbO a::zbO b::bareVs vs)=_
     refine h.symm▸?_
     with_reducible rfl
    refine hN ?_
    refine e.symm▸?_
    refine zap (ρ1:=[some (.tup (a::b::vs)),some (.loc 0)]) (σ1:=[.list (zbO a::.int 0::bareVs vs)]) ((zaT tt).trans ((zaj (ρ1:=[some (.tup (a::b::vs)),some (.loc 0)]) (σ1:=[.list (zbO a::.int 0::bareVs vs)]) ?_).trans rfl)) (last _ (by have:=zcX vs; simp at hl ⊢; omega))
    have hset:zcr [.list (zbO a::zbO b::bareVs vs)] (.loc 0) (.int 1) (.int 0)=.ok () [.list (zbO a::.int 0::bareVs vs)]:=by
     show(if 0≤(1:Int)∧(1:Int).toNat < (zbO a::zbO b::bareVs vs).length∧(zbO a::zbO b::bareVs vs).length≤LIM then R.ok () [C.list ((zbO a::zbO b::bareVs vs).set 1 (.int 0))] else .stuck)=_
     rw[if_pos (by refine⟨by decide,by simp,?_⟩; simp at hl ⊢; rw[zcX]; unfold LIM; omega)]
     rfl
    show(zcr [.list (zbO a::zbO b::bareVs vs)] (.loc 0) (.int 1) (.int 0)).bind _=_
    refine hset.symm▸?_; rfl

theorem zkb:∀ {vs:List V},thins vs=true→∀ v∈vs,thin v=true
 | u::vs,h,v,hv=>by
  have h:(thin u&&thins vs)=true:=h
  rw[Bool.and_eq_true] at h
  rcases List.mem_cons.mp hv with rfl | hv
  ·exact h.1
  ·exact zkb h.2 v hv
theorem zm4:∀ {vs:List V}{v:V},v∈vs→zk9 v≤vdeps vs
 | u::vs,v,hv=>by
  show zk9 v≤max (zk9 u) (vdeps vs)
  rcases List.mem_cons.mp hv with rfl | hv
  ·omega
  ·have:=zm4 hv; omega
theorem zqU:∀ (n d:Nat) (v:V) (σ:List C),zk9 v≤n→thin v=true→(EV (d+2*n+1)).call zkV [v] σ=.ok (zbO v) σ:=by
 intro n
 induction n with
 | zero=>
  intro d v σ hd ht
  have:∀ u,evT TB true (EV (d+2*0)) (.not (.isi (.x 0) .tuple)) [some v,u] []=.ok true []:=by
   induction v using V.casesOn <;> first | (intro u; rfl) | (exact(Bool.false_ne_true ht).elim; done) | (exact absurd hd (by exact of_decide_eq_true rfl))
  have e:zbO v=v:=by induction v using V.casesOn <;> first | rfl | (exact absurd hd (by exact of_decide_eq_true rfl))
  refine e.symm▸?_
  exact zbe (fn:=zcQ) (gs':=[]) rfl (by show(plain v&&true)=true; refine(zeX v ht).symm▸?_; rfl) (zas (ρ:=[some v,none]) rfl (zjb (this none) (fin rfl))) (zeX v ht)
 | succ n ih=>
  intro d v σ hd ht
  by_cases hv:∃ vs,v=.tup vs
  ·obtain⟨vs,rfl⟩:=hv
   have ht':(decide (vs.length≤100)&&thins vs)=true:=ht
   rw[Bool.and_eq_true,decide_eq_true_eq] at ht'
   have hd':vdeps vs≤n:=by
    have:vdeps vs+1≤n+1:=hd
    exact Nat.le_of_succ_le_succ ‹_›
   have hc:evE TB true (EV (d+2*n+2)) (.comp [] zoN (.x 0)) [some (.tup vs),none] []=.ok (.loc 0) [.list (bareVs vs)]:=by
    refine zeR (u:=.tup vs) (σ1:=[]) rfl ?_
    have e1:zdY [] (.tup vs)=some (.fixed vs):=by
     show(match Nat.ble vs.length LIM with
      | true=>some (Src.fixed vs)
      | false=>none)=_
     rw[Nat.ble_eq.mpr (by unfold LIM; omega)]
    show(match zdY [] (.tup vs),zeD [some (.tup vs),none] [] with
     | some src,some ρ'=>(match zch (fun v σ'=>(EV (d+2*n+2)).ex zoN (ρ'++[some v]) σ') src zbb 0 [] with
      | .ok us σ2=>if us.length≤LIM then R.ok (V.loc σ2.length) (σ2++[C.list us]) else .stuck
      | _=>.stuck)
     | _,_=>.stuck)=_
    refine e1.symm▸?_
    show(match zch (fun v σ'=>(EV (d+2*n+2)).ex zoN ([]++[some v]) σ') (.fixed vs) zbb 0 [] with
      | .ok us σ2=>if us.length≤LIM then R.ok (V.loc σ2.length) (σ2++[C.list us]) else .stuck
      | _=>.stuck)=_
    rw[ziz vs 0 zbb (fun v hv=>by
     show evE TB true (EV (d+2*n+1)) zoN [some v] []=_
     exact zad (vs:=[v]) (σ1:=[]) rfl (ih d v [] (by have:=zm4 hv; exact Nat.le_trans ‹_› ‹_›) (zkb ht'.2 v hv))) rfl (by unfold zbb; omega)]
    dsimp only
    rw[if_pos (by rw[zcX]; unfold LIM; omega)]; rfl
   refine zbe (fn:=zcQ) (d:=d+2*n+2) (gs':=[.list (zlc vs (bareVs vs))]) rfl (by show(plain (.tup vs)&&true)=true; refine(zeX _ ht).symm▸?_; rfl) (zas (ρ:=[some (.tup vs),none]) rfl ?_) (zgM _ ht)
   refine zap (ρ1:=[some (.tup vs),none]) (σ1:=[]) rfl ?_
   refine zap (ρ1:=[some (.tup vs),some (.loc 0)]) (σ1:=[.list (bareVs vs)]) (zav hc (by exact Nat.le_of_ble_eq_true rfl)) ?_
   exact zoP _ vs ht'.2 ht'.1
  ·have h0:zk9 v=0:=by induction v using V.casesOn <;> first | rfl | (exact absurd ⟨_,rfl⟩ hv)
   have:=ih (d+2) v σ (by omega) ht
   refine(show d+2*(n+1)+1=d+2+2*n+1 by omega).symm▸?_
   exact this
end
section
mutual
noncomputable def solid:V→Bool
 | .none=>true
 | .bool _=>true
 | .int _=>true
 | .str _=>true
 | .tup vs=>solids vs
 | _=>false
noncomputable def solids:List V→Bool
 | []=>true
 | v::vs=>solid v&&solids vs
end
theorem zgN:∀ s:List Nat,zan s s=true
 | []=>rfl
 | x::s=>by
  show(Nat.beq x x&&zan s s)=true
  rw[Nat.beq_refl,zgN s]; rfl
mutual
theorem zoQ:∀ v:V,solid v=true→veq v v=some true
 | .none,_=>rfl
 | .bool b,_=>by induction b using Bool.casesOn <;> rfl
 | .int i,_=>by show some (decide (i=i))=_; rw[decide_eq_true rfl]
 | .str s,_=>by show some (zan s s)=_; rw[zgN]
 | .tup vs,h=>veqs_refl vs h
 | .any,h=>nomatch h
 | .loc _,h=>nomatch h
 | .fn _,h=>nomatch h
 | .rng _,h=>nomatch h
theorem veqs_refl:∀ vs:List V,solids vs=true→veqs vs vs=some true
 | [],_=>rfl
 | v::vs,h=>by
  have h:(solid v&&solids vs)=true:=h
  rw[Bool.and_eq_true] at h
  show(match veq v v with
   | some true=>veqs vs vs
   | _=>none)=_
  refine(zoQ v h.1).symm▸?_
  exact veqs_refl vs h.2
end
structure Told (n:Nat) (v u:V):Prop where
 thin:thin v=true
 dep:zk9 v≤n
 bare:zbO v=u
 solid:solid u=true
 depU:zk9 u≤n
structure Tolds (n:Nat) (vs us:List V):Prop where
 thin:thins vs=true
 dep:vdeps vs≤n
 bare:bareVs vs=us
 solid:solids us=true
 depU:vdeps us≤n
theorem Tolds.nil (n:Nat):Tolds n [] []:=⟨rfl,Nat.zero_le _,rfl,rfl,Nat.zero_le _⟩
theorem Tolds.cons {n:Nat}{v u:V}{vs us:List V} (a:Told n v u) (b:Tolds n vs us):Tolds n (v::vs) (u::us):=by
 refine⟨?_,?_,?_,?_,?_⟩
 ·show(Lake.thin v&&thins vs)=true
  refine a.thin.symm▸?_; refine b.thin.symm▸?_; rfl
 ·show max (zk9 v) (vdeps vs)≤n
  have:=a.dep; have:=b.dep; omega
 ·show zbO v::bareVs vs=_
  refine a.bare.symm▸?_
  refine b.bare.symm▸?_
  with_reducible rfl
 ·show(Lake.solid u&&solids us)=true
  refine a.solid.symm▸?_; refine b.solid.symm▸?_; rfl
 ·show max (zk9 u) (vdeps us)≤n
  have:=a.depU; have:=b.depU; omega
theorem Told.up {n m:Nat}{v u:V} (a:Told n v u) (h:n≤m):Told m v u:=⟨a.thin,Nat.le_trans a.dep h,a.bare,a.solid,Nat.le_trans a.depU h⟩
theorem Told.tup {n:Nat}{vs us:List V} (a:Tolds n vs us) (h:zlc vs us=us) (hl:vs.length≤100):Told (n+1) (.tup vs) (.tup us):=by
 refine⟨?_,?_,?_,a.solid,?_⟩
 ·show(decide (vs.length≤100)&&thins vs)=true
  refine a.thin.symm▸?_; refine(decide_eq_true hl).symm▸?_; rfl
 ·show vdeps vs+1≤n+1
  have:=a.dep; exact Nat.succ_le_succ ‹_›
 ·show V.tup (zlc vs (bareVs vs))=_
  refine a.bare.symm▸?_
  refine h.symm▸?_
  with_reducible rfl
 ·show vdeps us+1≤n+1
  have:=a.depU; exact Nat.succ_le_succ ‹_›
theorem Told.node {n:Nat}{s:List Nat}{vs us:List V} (a:Tolds n vs us) (hl:vs.length≤90):Told (n+1) (.tup (.str s::.any::vs)) (.tup (.str s::.int 0::us)):=by
 refine⟨?_,?_,?_,?_,?_⟩
 ·show(decide (vs.length+1+1≤100)&&thins vs)=true
  rw[a.thin,decide_eq_true (by omega)]; rfl
 ·show max 0 (max 0 (vdeps vs))+1≤n+1
  have:=a.dep; exact Nat.succ_le_succ ‹_›
 ·show V.tup (zlc (.str s::.any::vs) (.str s::.any::bareVs vs))=_
  rw[a.bare]; rfl
 ·exact a.solid
 ·show max 0 (max 0 (vdeps us))+1≤n+1
  have:=a.depU; exact Nat.succ_le_succ ‹_›
theorem Told.str (n:Nat) (s:List Nat):Told n (.str s) (.str s):=⟨rfl,Nat.zero_le _,rfl,rfl,Nat.zero_le _⟩
theorem Told.bool (n:Nat) (s:Bool):Told n (.bool s) (.bool s):=⟨rfl,Nat.zero_le _,rfl,rfl,Nat.zero_le _⟩
theorem Told.none (n:Nat):Told n .none .none:=⟨rfl,Nat.zero_le _,rfl,rfl,Nat.zero_le _⟩
theorem ziA (s:List Nat) (n:Nat) (h:4≤n):Told n (zbN .any s) (zbN (.int 0) s):=by
 refine Told.up ⟨?_,?_,rfl,rfl,?_⟩ h
 ·rfl
 ·exact Nat.le_of_ble_eq_true rfl
 ·exact Nat.le_of_ble_eq_true rfl
theorem zeA (g:Bool) (n:Nat) (h:7≤n):Told n (zdH g) (zdH g):=by
 refine Told.up ?_ h
 induction g using Bool.casesOn <;> exact⟨rfl,Nat.le_of_ble_eq_true rfl,rfl,rfl,Nat.le_of_ble_eq_true rfl⟩
theorem zm5 (s:SelfK) (n:Nat):Told n (zhi s) (zhi s):=by
 induction s using SelfK.casesOn <;> exact⟨rfl,Nat.zero_le _,rfl,rfl,Nat.zero_le _⟩
theorem zjn (k:FnC) (m:Nat) (h:8≤m):Told m (zal .any k) (zal (.int 0) k):=by
 obtain⟨p,g,s,n,q,r,b⟩:=k
 refine Told.up (n:=7+1) (.node (.cons (.str _ _) (.cons (zeA g _ (by exact Nat.le_refl _)) (.cons (zm5 s _) (.cons ?_ (.cons ?_ (.cons ?_ (.cons (.bool _ _) (.nil _)))))))) (by exact Nat.le_of_ble_eq_true rfl)) h
 ·induction n using Lake.N3.casesOn <;> exact⟨rfl,Nat.le_of_ble_eq_true rfl,rfl,rfl,Nat.le_of_ble_eq_true rfl⟩
 ·induction r using Bool.casesOn <;> exact⟨rfl,Nat.le_of_ble_eq_true rfl,rfl,rfl,Nat.le_of_ble_eq_true rfl⟩
 ·induction b using Bool.casesOn <;> exact⟨rfl,Nat.le_of_ble_eq_true rfl,rfl,rfl,Nat.le_of_ble_eq_true rfl⟩
theorem zqV (r:Bool) (n:Nat) (h:5≤n):Told n (tyV .any r) (tyV (.int 0) r):=by
 refine Told.up ?_ h
 induction r using Bool.casesOn <;> exact⟨rfl,Nat.le_of_ble_eq_true rfl,rfl,rfl,Nat.le_of_ble_eq_true rfl⟩
theorem zhs (nm:List Nat) (f:Fld):Told 6 (zdR .any nm f) (zdR (.int 0) nm f):=by
 obtain⟨p,r⟩:=f
 refine .tup (.cons (.str _ _) (.cons (zqV r _ (by exact Nat.le_refl _)) (.cons (.bool _ _) (.nil _)))) ?_ (by exact Nat.le_of_ble_eq_true rfl)
 induction r using Bool.casesOn <;> rfl
theorem zgO (f:FormC) (n:Nat):Told n (zbr f) (zbr f):=by
 induction f using FormC.casesOn <;> exact⟨rfl,Nat.zero_le _,rfl,rfl,Nat.zero_le _⟩
theorem zm6 (nmd:Bool) (f:FL):Told 7 (.tup (zaM .any nmd f)) (.tup (zaM (.int 0) nmd f)):=by
 induction f using FL.casesOn with
 | n0=>exact .tup (.nil _) rfl (by exact Nat.zero_le _)
 | n1 a q=>exact .tup (.cons (zhs _ a) (.nil _)) rfl (by exact Nat.succ_pos _)
 | n2 a b q=>exact .tup (.cons (zhs _ a) (.cons (zhs _ b) (.nil _))) rfl (by exact Nat.le_of_ble_eq_true rfl)
theorem ziB (f:FormC) (n:Nat) (h:7≤n):Told n (zam .any f) (zam (.int 0) f):=by
 refine Told.up ?_ h
 induction f using FormC.casesOn with
 | unit=>exact .up (.tup (.nil 0) rfl (by simp)) (by decide)
 | named f=>exact zm6 true f
 | tuple f=>exact zm6 false f
theorem zjo (nm:List Nat) (f:FormC):Told 8 (.tup [.str nm,zbr f,zam .any f]) (.tup [.str nm,zbr f,zam (.int 0) f]):=by
 refine .tup (.cons (.str _ _) (.cons (zgO f _) (.cons (ziB f _ (by exact Nat.le_refl _)) (.nil _)))) ?_ (by exact Nat.le_of_ble_eq_true rfl)
 induction f using FormC.casesOn <;> rfl
theorem zht {α:Type}{t:V→α→V}{n:Nat} (h:∀ a,Told n (t .any a) (t (.int 0) a)) (hs:∀ a,isStr (t .any a)=false) (u:Up α):Told (n+1) (.tup (u.list.map (t .any))) (.tup (u.list.map (t (.int 0)))):=by
 cases u with
 | n0=>exact .tup (.nil _) rfl (by exact Nat.zero_le _)
 | n1 a=>exact .tup (.cons (h a) (.nil _)) rfl (by exact Nat.succ_pos _)
 | n2 a b=>
  refine .tup (.cons (h a) (.cons (h b) (.nil _))) ?_ (by exact Nat.le_of_ble_eq_true rfl)
  show(match isStr (t .any a)&&zez (t .any b) with
   | true=>t (.int 0) a::.int 0::[]
   | false=>t (.int 0) a::t (.int 0) b::[])=_
  refine(hs a).symm▸?_; rfl
theorem zkc (i:It0):Told 11 (zaf .any i) (zaf (.int 0) i):=by
 induction i using It0.casesOn with
 | fn k=>exact zjn k _ (by decide)
 | struct p g f=>exact .node (.cons (.str _ _) (.cons (zeA g _ (by decide)) (.cons (zgO f _) (.cons (ziB f _ (by decide)) (.cons (.bool _ _) (.nil _)))))) (by exact Nat.le_of_ble_eq_true rfl)
 | enum p g e=>
  refine .node (.cons (.str _ _) (.cons (zeA g _ (by decide)) (.cons (Told.up (n:=9) ?_ (by decide)) (.cons (.bool _ _) (.nil _))))) (by exact Nat.le_of_ble_eq_true rfl)
  induction e using EL.casesOn with
  | n0=>exact .tup (.nil _) rfl (by trivial)
  | n1 a q=>exact .tup (.cons (zjo _ a) (.nil _)) rfl (by exact Nat.succ_pos _)
  | n2 a b q=>exact .tup (.cons (zjo _ a) (.cons (zjo _ b) (.nil _))) rfl (by exact Nat.le_of_ble_eq_true rfl)
 | impl g t fs=>
  refine .node (.cons (zeA g _ (by decide)) (.cons (Told.up (n:=7) ?_ (by decide)) (.cons (ziA _ _ (by decide)) (.cons (Told.up (n:=9) (zht (t:=fun z k=>zal z (nb k)) (fun a=>zjn (nb a) _ (by exact Nat.le_refl _)) (fun a=>rfl) fs) (by decide)) (.nil _))))) (by exact Nat.le_of_ble_eq_true rfl)
  induction t using Bool.casesOn <;> exact⟨rfl,Nat.le_of_ble_eq_true rfl,rfl,rfl,Nat.le_of_ble_eq_true rfl⟩
 | trait p fs=>exact .node (.cons (.str _ _) (.cons (zeA false _ (by decide)) (.cons (Told.up (n:=9) (zht (t:=zal) (fun a=>zjn a _ (by exact Nat.le_refl _)) (fun a=>rfl) fs) (by decide)) (.cons (.bool _ _) (.nil _))))) (by exact Nat.le_of_ble_eq_true rfl)
 | use p n al=>
  refine .node (.cons ?_ (.cons ?_ (.cons (.bool _ _) (.nil _)))) (by exact Nat.le_of_ble_eq_true rfl)
  ·induction n using U4.casesOn <;> exact⟨rfl,Nat.le_of_ble_eq_true rfl,rfl,rfl,Nat.le_of_ble_eq_true rfl⟩
  ·induction al using Bool.casesOn <;> exact⟨rfl,Nat.zero_le _,rfl,rfl,Nat.zero_le _⟩
 | const p=>exact .node (.cons (.str _ _) (.cons (ziA _ _ (by decide)) (.cons (Told.up (n:=1) ⟨rfl,Nat.le_of_ble_eq_true rfl,rfl,rfl,Nat.le_of_ble_eq_true rfl⟩ (by decide)) (.cons (.bool _ _) (.nil _))))) (by exact Nat.le_of_ble_eq_true rfl)
theorem zgP (z:V) (i:It0):isStr (zaf z i)=false:=by induction i using It0.casesOn <;> rfl
theorem zs7 (z:V) (i:It):isStr (zar z i)=false:=by
 induction i using It.casesOn with
 | base i=>exact zgP z i
 | mod p is=>rfl
theorem zqW (i:It):Told 13 (zar .any i) (zar (.int 0) i):=by
 induction i using It.casesOn with
 | base i=>exact(zkc i).up (by decide)
 | mod p is=>exact .node (.cons (.str _ _) (.cons (zht (t:=zaf) zkc (zgP _) is) (.cons (.bool _ _) (.nil _)))) (by exact Nat.le_of_ble_eq_true rfl)
theorem zk5:Told 13 (zaw .any) (zaw (.int 0)):=⟨rfl,Nat.le_of_ble_eq_true rfl,rfl,rfl,Nat.le_of_ble_eq_true rfl⟩
theorem zkd:∀ l:List It,Tolds 13 (l.map (zar .any)) (l.map (zar (.int 0)))
 | []=>.nil _
 | i::l=>.cons (zqW i) (zkd l)
theorem zoR (l:List It) (hl:l.length≤3):Told 14 (.tup (zaw .any::l.map (zar .any))) (.tup (zaw (.int 0)::l.map (zar (.int 0)))):=by
 refine .tup (.cons zk5 (zkd l)) ?_ (by simp; exact Nat.le_trans ‹_› (by decide))
 induction l using List.casesOn <;> rfl
end
section
noncomputable def zhu:Ss:=match zaq.body with
 | .cons _ (.cons _ r)=>r
 | _=>.nil
theorem zm7 (lo:Lo) (cell:Int):∃ c,SC c∧zjQ (evSs TB true lo zhu [none,some (.int 0),some (.int cell),none,none] []) (.loc 0) [c]:=by
 let big:Int:=if cell < -1-cell then -1-cell else cell
 have hb:0≤big:=by show 0≤(if cell < -1-cell then -1-cell else cell); split <;> omega
 let a:Int:=big*(if decide ((1000000000000000000:Int)≤big)=true then 1 else 0)
 let b:Int:=(((big.fmod 2147483629+7919*0*0)+31*0+17)*48271).fmod 2147483647
 have ha:0≤a:=by
  show 0≤big*_
  split
  ·omega
  ·omega
 have hb':0≤b:=Int.fmod_nonneg_of_pos _ (by decide)
 refine zc1 (.list [.int a,.int b]) (⟨a,b,ha,hb',rfl⟩) ?_
 refine zap (ρ1:=[none,some (.int 0),some (.int cell),some (.int big),none]) (σ1:=[]) rfl ?_
 refine zap (ρ1:=[none,some (.int 0),some (.int cell),some (.int big),some (.int b)]) (σ1:=[]) (zav (v:=.int b) ?_ (by exact Nat.le_of_ble_eq_true rfl)) ?_
 ·have m:evE TB true lo (.bin .Mult (.bin .Add (.bin .Add (.bin .Add (.bin .Mod (.bi .int (.cons (.x 3) .nil)) (.c (.int 2147483629))) (.bin .Mult (.bin .Mult (.c (.int 7919)) (.x 1)) (.x 1))) (.bin .Mult (.c (.int 31)) (.x 1))) (.c (.int 17))) (.c (.int 48271))) [none,some (.int 0),some (.int cell),some (.int big),none] []=.ok (.int (((big.fmod 2147483629+7919*0*0)+31*0+17)*48271)) []:=by
   refine zcR (u:=.int ((big.fmod 2147483629+7919*0*0)+31*0+17)) (v:=.int 48271) (σ1:=[]) (σ2:=[]) rfl rfl ?_
   show(if(zb1 _||zb1 48271)=true then _ else R.stuck)=_
   rw[show zb1 48271=true by decide,Bool.or_true,if_pos rfl]
  exact zcR (u:=.int (((big.fmod 2147483629+7919*0*0)+31*0+17)*48271)) (v:=.int 2147483647) (σ1:=[]) (σ2:=[]) (zbH (zag m)) rfl rfl
 refine fin (zcp (vs:=[.int a,.int b]) (σ1:=[]) (zac ?_ (zag rfl)) (by exact Nat.le_of_ble_eq_true rfl))
 refine zcR (u:=.int big) (v:=.int (if decide ((1000000000000000000:Int)≤big)=true then 1 else 0)) (σ1:=[]) (σ2:=[]) rfl rfl ?_
 show(if(zb1 _||zb1 (if decide ((1000000000000000000:Int)≤big)=true then 1 else 0))=true then _ else R.stuck)=_
 rw[show zb1 (if decide ((1000000000000000000:Int)≤big)=true then 1 else 0)=true by split <;> decide,Bool.or_true,if_pos rfl]

noncomputable def zeB:List (List Nat):=[[112,117,98,32,105,109,112,108,32,83,32,123,32,125],[105,109,112,108,32,83,32,123,32,102,110,32,102,40,41,59,32,125],[115,116,114,117,99,116,32,83,40,117,56,41],[105,109,112,108,32,38,83,32,102,111,114,32,84,32,123,32,125],[102,110],[55],[109,111,100,32,109,32,123,32,102,110,32,102,40,41,32,123,32,55,32,125],[115,116,114,117,99,116,32,83],[108,101,116,32,120,32,61,32,55,59],[102,110,32,102,40,97,41,32,123,32,55,32,125],[101,110,117,109,32,69,32,123,32,65,32,66,32,125],[117,115,101,32,97,58,58,59],[99,111,110,115,116,32,67,32,61,32,55,59],[116,114,97,105,116,32,84,32,123,32,55,32,125],[102,110,32,102,40,97,58,32,117,56,32,115,101,108,102,41,32,123,32,55,32,125]]
theorem zqX (d:Nat):∀ w∈zeB,zcC TB true (EV (d+40)) zbl [.str w] []=.exc:=by
 intro w hw
 simp only[zeB,List.mem_cons,List.not_mem_nil,or_false] at hw
 rcases hw with rfl | rfl | rfl | rfl | rfl | rfl | rfl | rfl | rfl | rfl | rfl | rfl | rfl | rfl | rfl <;> kernel_rfl
theorem ziC:∀ (l:List It) (n:Nat),l.length≤n→(zaB [10] (l.map zaK)).length≤701*n
 | [],n,_=>Nat.zero_le _
 | [i],n,h=>by
  have:=zeU i
  simp only[List.length_cons,List.length_nil] at h
  show(zaK i).length≤_
  omega
 | i::j::l,n,h=>by
  obtain⟨n,rfl⟩:∃ m,n=m+1:=⟨n-1,by simp at h; omega⟩
  have ih:=ziC (j::l) n (by simp at h ⊢; omega)
  have:=zeU i
  show(zaK i++([10]++zaB [10] ((j::l).map zaK))).length≤_
  rw[List.length_append,List.length_append]
  simp only[List.length_cons,List.length_nil]
  omega
theorem ziD:∀ (l:List It),((l.map zaK).map List.length).sum≤700*l.length
 | []=>Nat.zero_le _
 | i::l=>by
  have ih:=ziD l
  have:=zeU i
  simp only[List.map_cons,List.sum_cons,List.length_cons]
  omega
theorem zqY (l:List It) (h:l.length≤3):(zaB [10] (zbL::l.map zaK)).length < 3999:=by
 induction l using List.casesOn with
 | nil=>show zbL.length < 3999; decide
 | cons i l=>
  have:=ziC (i::l) 3 h
  show(zbL++([10]++zaB [10] ((i::l).map zaK))).length < 3999
  refine List.length_append.symm▸?_
  refine List.length_append.symm▸?_
  have:zbL.length=21:=rfl
  simp only[List.length_cons,List.length_nil]
  omega


noncomputable def zm8:Ss:=match zgb.body with
 | .cons _ (.cons _ (.cons _ (.cons _ r)))=>r
 | _=>.nil
theorem zqZ (d:Nat) {c:C} (hc:SC c) (gs:List C) (k:Nat):evSs TB true (EV (d+50)) zm8 [none,some (.loc 0),some (.loc k),none] (c::gs)=.fin (.bool true):=by
 let σ:List C:=c::(gs++[.list (zeB.map .str)])
 have hlw:(zeB.map V.str).length=15:=rfl
 have hpl:plains (zeB.map V.str)=true:=rfl
 have s1:evS TB true (EV (d+50)) (match zm8 with
   | .cons s _=>s
   | .nil=>.bad) [none,some (.loc 0),some (.loc k),none] (c::gs)=.ok (.next,[none,some (.loc 0),some (.loc k),some (.loc (gs.length+1))]) σ:=
  zav (v:=.loc (gs.length+1)) (zcp (vs:=zeB.map .str) (σ1:=c::gs) rfl (by refine hlw.symm▸?_; unfold LIM; decide)) (by exact Nat.le_of_ble_eq_true rfl)
 refine Eq.trans (b:=evSs TB true (EV (d+50)) (match zm8 with
   | .cons _ r=>r
   | .nil=>.nil) [none,some (.loc 0),some (.loc k),some (.loc (gs.length+1))] σ) (zaj s1) ?_
 refine bc fun hN=>?_
 refine zdb (zcI gs (d+48) hc (vs:=zeB.map .str) (by decide) (by refine hlw.symm▸?_; decide) hpl) fun n v c' hc' hv h2=>?_
 obtain⟨w,hw,rfl⟩:∃ w∈zeB,v=.str w:=by
  have:=List.mem_of_getElem? hv
  refine zao (List.mem_map.mp this) fun w hw e=>?_
  exact zc1 w hw e.symm
 have h3:(EV (d+50)).call zdQ [.str w] (c'::(gs++[.list (zeB.map .str)]))=.exc:=by
  rw[zeN (fn:=zbl) rfl]
  show znz _ [] (zcC TB true (EV (d+49)) zbl [.str w] [])=_
  refine(zqX (d+9) w hw).symm▸?_; rfl
 have e1:evE TB true (EV (d+50)) (.call 42 (.cons (.call 63 (.cons (.x 1) (.cons (.x 3) .nil))) .nil)) [none,some (.loc 0),some (.loc k),some (.loc (gs.length+1))] σ=.exc:=
  zad (vs:=[.str w]) (zag (zad (vs:=[.loc 0,.loc (gs.length+1)]) (σ1:=σ) rfl h2)) h3
 have e2:evSs TB true (EV (d+50)) (.cons (.expr (.call 42 (.cons (.call 63 (.cons (.x 1) (.cons (.x 3) .nil))) .nil))) .nil) [none,some (.loc 0),some (.loc k),some (.loc (gs.length+1))] σ=.exc:=
  zfh (by
   show(evE TB true (EV (d+50)) _ _ _).bind _=_
   refine e1.symm▸?_; rfl)
 refine hN ?_
 show zf6 _ (caught (.cons (.ret (.c (.bool true))) .nil) (evSs TB true (EV (d+50)) (.cons (.expr (.call 42 (.cons (.call 63 (.cons (.x 1) (.cons (.x 3) .nil))) .nil))) .nil) [none,some (.loc 0),some (.loc k),some (.loc (gs.length+1))] σ))=_
 refine e2.symm▸?_; rfl
end
section
noncomputable def zb6:C:=.list [.str zbL,zaw (.int 0)]
noncomputable def zfZ:Ss:=match zgb.body with
 | .cons _ r=>r
 | _=>.nil
theorem zoS (d:Nat) {c:C} (hc:SC c):evSs TB true (EV (d+50)) zfZ [none,some (.loc 0),none,none] [c]=.fin (.bool true):=by
 refine bc fun hN=>?_
 refine zc0 (zbV (d+49) hc (top:=4) (by decide) (by decide) [zb6,.list [.loc 1]]) fun n c1 hc1 hn h2=>?_
 let all:List V:=(List.range n).map fun k=>.int (k:Nat)
 have hal:all.length=n:=by simp[all]
 let ρ2:Env:=[none,some (.loc 0),some (.loc 2),none]
 let elt:E:=.call 73 (.cons (.x 0) (.cons (.c (.int 1)) .nil))
 obtain⟨is,c2,hc2,hil,h3⟩:=zfN (tx:=zaK) (tr:=zar (.int 0)) (f:=fun v σ'=>(EV (d+50)).ex elt ([some (.loc 0)]++[some v]) σ') (fun v c hc gs=>by
  refine zaZ (zmO (d+38) hc gs) fun i c' hc' h=>?_
  refine zdf i c' hc' ?_
  show evE TB true (EV (d+49)) elt [some (.loc 0),some v] (c::gs)=_
  exact zad (vs:=[.loc 0,.int 1]) (σ1:=c::gs) rfl h) all all 0 zbb c1 [zb6,.list [.loc 1]] rfl (by rw[hal]; unfold zbb; omega) hc1
 rw[hal] at h3 hil
 let rows:List C:=is.map (zgf zaK (zar (.int 0)))
 have hrl:rows.length=n:=by simp[rows,hil]
 let σ3:List C:=c2::([zb6,.list [.loc 1]]++rows)++[.list (zbP 2 n)]
 have hcomp:evE TB true (EV (d+50)) (.comp [1] elt (.range (.call 62 (.cons (.x 1) (.cons (.c (.int 4)) .nil))))) ρ2 [c,zb6,.list [.loc 1]]=.ok (.loc (n+3)) σ3:=by
  refine zeR (u:=.rng n) (σ1:=[c1,zb6,.list [.loc 1]]) (zfj (zad (vs:=[.loc 0,.int 4]) (zac rfl (zag rfl)) h2) (by omega)) ?_
  have e1:zdY [c1,zb6,.list [.loc 1]] (.rng n)=some (.fixed all):=by
   show(match Nat.ble n 100 with
    | true=>some (Src.fixed all)
    | false=>none)=_
   rw[Nat.ble_eq.mpr (by omega)]
  show(match zdY [c1,zb6,.list [.loc 1]] (.rng n),zeD ρ2 [1] with
    | some src,some ρ'=>(match zch (fun v σ'=>(EV (d+50)).ex elt (ρ'++[some v]) σ') src zbb 0 [c1,zb6,.list [.loc 1]] with
     | .ok us σ2=>if us.length≤LIM then R.ok (V.loc σ2.length) (σ2++[C.list us]) else .stuck
     | _=>.stuck)
    | _,_=>.stuck)=_
  rw[e1]
  show(match zch (fun v σ'=>(EV (d+50)).ex elt ([some (.loc 0)]++[some v]) σ') (.fixed all) zbb 0 [c1,zb6,.list [.loc 1]] with
     | .ok us σ2=>if us.length≤LIM then R.ok (V.loc σ2.length) (σ2++[C.list us]) else .stuck
     | _=>.stuck)=_
  rw[h3]
  dsimp only
  rw[if_pos (by rw[zcA]; unfold LIM; omega)]
  have:(c2::([zb6,.list [.loc 1]]++is.map (zgf zaK (zar (.int 0))))).length=n+3:=by simp[hil]
  rw[this]
  rfl
 let vs:List V:=.loc 1::zbP 2 n
 let σ4:List C:=σ3++[.list vs]
 have h3l:σ3.length=n+4:=by simp[σ3,hrl]
 have hadd:zrg σ3 (.loc 2) (.loc (n+3))=.ok (.loc (n+4)) σ4:=by
  have q:σ3[n+3]?=some (.list (zbP 2 n)):=by
   have e:(c2::([zb6,.list [.loc 1]]++rows)).length=n+3:=by simp[hrl]
   show((c2::([zb6,.list [.loc 1]]++rows))++[.list (zbP 2 n)])[n+3]?=_
   rw[← e]; simp
  show ztH σ3 (some [.loc 1]) (match σ3[n+3]? with
   | some (.list vs)=>some vs
   | _=>none)=_
  rw[q]
  show(if([V.loc 1]++zbP 2 n).length≤LIM then R.ok (V.loc σ3.length) (σ3++[C.list ([V.loc 1]++zbP 2 n)]) else .stuck)=_
  rw[if_pos (by simp[zcA]; unfold LIM; omega),h3l]; rfl
 refine hN ?_
 let ρ3:Env:=[none,some (.loc 0),some (.loc (n+4)),none]
 have vsl:vs.length≤LIM:=by simp[vs,zcA]; unfold LIM; omega
 have m4:∀ gs,(σ4++gs)[n+4]?=some (.list vs):=fun gs=>by
  show(σ3++[.list vs]++gs)[n+4]?=_
  rw[List.append_assoc,List.getElem?_append_right (by omega),h3l]; simp
 have rat:∀ gs (i:Nat) (a:It),is[i]?=some a→(σ4++gs)[2+1+i]?=some (zgf zaK (zar (.int 0)) a):=fun gs i a h=>by
  have hi:=(List.getElem?_eq_some_iff.mp h).1
  show(c2::zb6::.list [.loc 1]::(rows++[.list (zbP 2 n)])++[.list vs]++gs)[2+1+i]?=_
  rw[show 2+1+i=i+1+1+1 by exact Nat.add_comm _ _]
  show((rows++[.list (zbP 2 n)])++[.list vs]++gs)[i]?=_
  rw[List.append_assoc,List.append_assoc,List.getElem?_append_left (by omega),List.getElem?_map,h]; rfl
 have col:∀ (gs:List C) (b:Nat) (us:List V),us.length≤100→vs.map (fun v=>zfa (σ4++gs) v (.int b))=us.map some→evE TB true (EV (d+50)) (.comp [] (.sub (.x 0) (.c (.int b))) (.x 2)) ρ3 (σ4++gs)=.ok (.loc (σ4++gs).length) (σ4++gs++[.list us]):=fun gs b us hus hmap=>by
  refine zeR (u:=.loc (n+4)) (σ1:=σ4++gs) rfl ?_
  have e1:zdY (σ4++gs) (.loc (n+4))=some (.cell (n+4)):=by
   show(match (σ4++gs)[n+4]? with
    | some (C.list _)=>some (Src.cell (n+4))
    | _=>none)=_
   rw[m4]
  show(match zdY (σ4++gs) (.loc (n+4)),zeD ρ3 [] with
   | some src,some ρ'=>(match zch (fun v σ'=>(EV (d+50)).ex (.sub (.x 0) (.c (.int b))) (ρ'++[some v]) σ') src zbb 0 (σ4++gs) with
    | .ok us σ2=>if us.length≤LIM then R.ok (V.loc σ2.length) (σ2++[C.list us]) else .stuck
    | _=>.stuck)
   | _,_=>.stuck)=_
  rw[e1]
  show(match zch (fun v σ'=>(EV (d+50)).ex (.sub (.x 0) (.c (.int b))) ([]++[some v]) σ') (.cell (n+4)) zbb 0 (σ4++gs) with
    | .ok us σ2=>if us.length≤LIM then R.ok (V.loc σ2.length) (σ2++[C.list us]) else .stuck
    | _=>.stuck)=_
  rw[zfO (m4 gs) vsl (g:=fun v=>zfa (σ4++gs) v (.int b)) (fun v u h=>by
   show evE TB true (EV (d+49)) (.sub (.x 0) (.c (.int b))) [some v] (σ4++gs)=_
   exact zbg (u:=v) (w:=.int b) (σ1:=σ4++gs) (σ2:=σ4++gs) rfl rfl h) vs us 0 zbb rfl (by simp[vs,zcA]; unfold zbb; omega) hmap]
  dsimp only
  rw[if_pos (by unfold LIM; exact Nat.le_trans ‹_› (by decide))]
 have cols:=fun gs=>zhn (σ:=σ4++gs) (as:=is) (k:=2) (rat gs)
 have f0:∀ gs,zfa (σ4++gs) (.loc 1) (.int 0)=some (.str zbL):=fun gs=>rfl
 have f1:∀ gs,zfa (σ4++gs) (.loc 1) (.int 1)=some (zaw (.int 0)):=fun gs=>rfl
 have k1:=col [] 0 (.str zbL::is.map fun a=>.str (zaK a)) (by simp; omega) (by
  have:=(cols []).1
  rw[hil] at this
  show zfa (σ4++[]) (.loc 1) (.int 0)::(zbP 2 n).map _=_
  rw[f0]
  show some (V.str zbL)::(zbP 2 n).map (fun v=>zfa (σ4++[]) v (.int 0))=_
  rw[this]; rfl)
 have k2:=fun gs=>col gs 1 (zaw (.int 0)::is.map (zar (.int 0))) (by simp; omega) (by
  have:=(cols gs).2
  rw[hil] at this
  show zfa (σ4++gs) (.loc 1) (.int 1)::(zbP 2 n).map _=_
  rw[f1]
  show some (zaw (.int 0))::(zbP 2 n).map (fun v=>zfa (σ4++gs) v (.int 1))=_
  rw[this]; rfl)
 rw[List.append_nil] at k1
 let ts:List (List Nat):=zbL::is.map zaK
 have hts:V.str zbL::is.map (fun a=>V.str (zaK a))=ts.map .str:=by simp[ts]
 rw[hts] at k1
 let σ5:List C:=σ4++[.list (ts.map .str)]
 have s5:σ5[σ4.length]?=some (.list (ts.map .str)):=by show(σ4++[C.list (ts.map .str)])[σ4.length]?=_; simp
 have hsum:(ts.map List.length).sum+ts.length*([10]:List Nat).length≤zaP:=by
  have:=ziD is
  have e:zbL.length=21:=rfl
  simp only[ts,List.map_cons,List.sum_cons,List.length_cons,List.length_map,List.length_nil]
  rw[e]
  unfold zaP
  omega
 have j1:evE TB true (EV (d+50)) (.mth (.c (.str [10])) .join (.cons (.comp [] (.sub (.x 0) (.c (.int 0))) (.x 2)) .nil)) ρ3 σ4=.ok (.str (zaB [10] ts)) σ5:=zdv (s:=[10]) (l:=ts) (σ1:=σ4) rfl k1 (zjZ s5) hsum
 have j2:evE TB true (EV (d+50)) (.call 42 (.cons (.mth (.c (.str [10])) .join (.cons (.comp [] (.sub (.x 0) (.c (.int 0))) (.x 2)) .nil)) .nil)) ρ3 σ4=.ok (.tup (zaw .any::is.map (zar .any))) σ5:=
  zad (vs:=[.str (zaB [10] ts)]) (zag j1) (zk3 (d+11) σ5 is (by omega) (zqY is (by omega)))
 have tl:=zoR is (by omega)
 have j3:evE TB true (EV (d+50)) (.call 74 (.cons (.call 42 (.cons (.mth (.c (.str [10])) .join (.cons (.comp [] (.sub (.x 0) (.c (.int 0))) (.x 2)) .nil)) .nil)) .nil)) ρ3 σ4=.ok (.tup (zaw (.int 0)::is.map (zar (.int 0)))) σ5:=by
  refine zad (vs:=[.tup (zaw .any::is.map (zar .any))]) (zag j2) ?_
  have:=zqU 14 (d+21) (.tup (zaw .any::is.map (zar .any))) σ5 tl.dep tl.thin
  rw[tl.bare] at this
  exact this
 let σ6:List C:=σ5++[.list (zaw (.int 0)::is.map (zar (.int 0)))]
 have s6:σ6[σ5.length]?=some (.list (zaw (.int 0)::is.map (zar (.int 0)))):=by show(σ5++[C.list _])[σ5.length]?=_; simp
 have j4:evE TB true (EV (d+50)) (.bi .tuple (.cons (.comp [] (.sub (.x 0) (.c (.int 1))) (.x 2)) .nil)) ρ3 σ5=.ok (.tup (zaw (.int 0)::is.map (zar (.int 0)))) σ6:=
  zbK (k2 [.list (ts.map .str)]) s6 (by simp; unfold LIM; omega)
 have j5:evT TB true (EV (d+50)) (.cmp .NotEq (.call 74 (.cons (.call 42 (.cons (.mth (.c (.str [10])) .join (.cons (.comp [] (.sub (.x 0) (.c (.int 0))) (.x 2)) .nil)) .nil)) .nil)) (.bi .tuple (.cons (.comp [] (.sub (.x 0) (.c (.int 1))) (.x 2)) .nil))) ρ3 σ4=.ok false σ6:=by
  refine za8 j3 j4 ?_
  show(match veqs (zaw (.int 0)::is.map (zar (.int 0))) (zaw (.int 0)::is.map (zar (.int 0))) with
   | some r=>if vdeps (zaw (.int 0)::is.map (zar (.int 0)))≤60 then some (!r) else none
   | none=>none)=_
  rw[veqs_refl _ tl.solid]
  dsimp only
  rw[if_pos (by have:vdeps (zaw (.int 0)::is.map (zar (.int 0)))+1≤14:=tl.depU; omega)]; rfl
 have hend:=zqZ d hc2 ([zb6,.list [.loc 1]]++rows++[.list (zbP 2 n)]++[.list vs]++[.list (ts.map .str)]++[.list (zaw (.int 0)::is.map (zar (.int 0)))]) (n+4)
 have hσ6:c2::([zb6,.list [.loc 1]]++rows++[.list (zbP 2 n)]++[.list vs]++[.list (ts.map .str)]++[.list (zaw (.int 0)::is.map (zar (.int 0)))])=σ6:=by rfl
 rw[hσ6] at hend
 show evSs TB true (EV (d+50)) zfZ [none,some (.loc 0),none,none] [c]=.fin (.bool true)
 refine(zaj (ρ1:=ρ2) (σ1:=[c,zb6,.list [.loc 1]]) (by kernel_rfl)).trans ?_
 refine(zaj (ρ1:=ρ3) (σ1:=σ4) (zav (zcR (op:=.Add) (u:=.loc 2) (σ1:=[c,zb6,.list [.loc 1]]) rfl hcomp hadd) (by trivial))).trans ?_
 refine(zaj (ρ1:=ρ3) (σ1:=σ6) ((zaT j5).trans rfl)).trans ?_
 exact hend
end
section
open W Calls PyProof.Rows
mutual
noncomputable def noLoc:V→Bool
 | .tup vs=>noLocs vs
 | .loc _=>false
 | _=>true
noncomputable def noLocs:List V→Bool
 | []=>true
 | v::vs=>noLoc v&&noLocs vs
end
section
variable {F:Nat→Option Addr}{m m':AM}{h h':Heap}
theorem Rep.noLoc {x:Value}{v:V} (r:Rep F [] h x v):Lake.noLoc v=true:=
 Rep.rec (motive_1:=fun ua v ub=>Lake.noLoc v=true) (motive_2:=fun ua vs ub=>noLocs vs=true) rfl (fun ua=>rfl) (fun ua ub=>rfl) (fun ua ub=>rfl) (fun ua ub=>rfl) (fun ua ub r=>r) (fun e=>zaA e) (fun ua=>rfl) (fun ua=>rfl) rfl (fun ua ub a b=>Bool.and_eq_true_iff.mpr ⟨a,b⟩) r
theorem Reps.noLoc {xs:List Value}{vs:List V} (r:Reps F [] h xs vs):noLocs vs=true:=
 r.ind (P:=fun ua vs=>noLocs vs=true) rfl fun a ua b=>Bool.and_eq_true_iff.mpr ⟨a.noLoc,b⟩
theorem Rep.free {x:Value}{v:V} (r:Rep F m h x v):Lake.noLoc v=true→Rep F m' h x v:=
 Rep.rec (motive_1:=fun x v ua=>Lake.noLoc v=true→Rep F m' h x v) (motive_2:=fun xs vs ua=>noLocs vs=true→Reps F m' h xs vs) (fun ua=>.none) (fun b ua=>.bool b) (fun i t ua=>.int i t) (fun i t ua=>.any i t) (fun s t ua=>.str s t) (fun e ua r q=>.tup e (r q)) (fun ua q=>(Bool.false_ne_true q).elim) (fun e ua=>.fn e) (fun e ua=>.rng e) (fun ua=>.nil) (fun ua ub a b q=>B2 q fun q1 q2=>.cons (a q1) (b q2)) r
theorem Reps.free {xs:List Value}{vs:List V} (r:Reps F m h xs vs):noLocs vs=true→Reps F m' h xs vs:=
 r.ind (P:=fun xs vs=>noLocs vs=true→Reps F m' h xs vs) (fun ua=>.nil) fun a ua b q=>B2 q fun q1 q2=>.cons (a.free q1) (b q2)
end
theorem zeY:∀ {vs:List V},noLocs vs=true→∀ v∈vs,noLoc v=true
 | u::vs,h,v,hv=>by
  have h:(noLoc u&&noLocs vs)=true:=h
  rw[Bool.and_eq_true] at h
  rcases List.mem_cons.mp hv with rfl | hv
  ·exact h.1
  ·exact zeY h.2 v hv

theorem zf7.two {X:Stat}{m:AM}{h:Heap}{es:List DictEntry}{i:Nat}{j:Int}{q:Addr×List Addr} (w:zf7 X m h es [(0,.loc i),(1,.int j)]) (hq:m[i]?=some q) :
  ∃ t1 t2 t3 h1 h2,es=[⟨h1,.str (zae 0) t1,.ref q.1⟩,⟨h2,.str (zae 1) t2,.int j t3⟩]:=by
 induction es using List.casesOn with
 | nil=>exact False.elim w
 | cons e0 es=>
  have w0:=w.1
  have w:=w.2
  induction es using List.casesOn with
  | nil=>exact False.elim w
  | cons e1 es=>
   have w1:=w.1
   have w:=w.2
   induction es using List.casesOn with
   | cons _ _=>exact False.elim w
   | nil=>
    refine ziM w0 ?_
    clear w0
    intro _ nn0 c2
    refine zaF nn0 ?_
    clear nn0
    intro t1 c1
    refine ziM w1 ?_
    clear w1
    intro _ nn0 c4
    refine zaF nn0 ?_
    clear nn0
    intro t2 c3
    refine zao c2.inv fun p c5 c6=>?_
    have e:p=q:=Option.some.inj (c6.symm.trans hq)
    subst e
    refine zaF c4.inv fun t3 c7=>?_
    exact zu8 t1 t2 t3 e0.hash e1.hash (by refine c1▸?_; refine c3▸?_; refine c5▸?_; refine c7▸?_; with_reducible rfl)
theorem Sto.two {X:Stat}{h:Heap}{p q:Addr×List Addr}{c d:C} (hp:zf8 X [p,q] h p c) (hq:zf8 X [p,q] h q d) (op:p.1∈p.2∧∀ b∈p.2,X.base.get? b=none∧∃ o,h.get? b=some o∧¬ zaL o)
  (oq:q.1∈q.2∧∀ b∈q.2,X.base.get? b=none∧∃ o,h.get? b=some o∧¬ zaL o) (ap:∀ b∈p.2,b ∉ q.2):Sto X [p,q] h [c,d]:=by
 refine⟨rfl,fun n r e e1 e2=>?_,fun r hr=>?_,fun a b r1 r2 hab e1 e2=>?_⟩
 ·refine bc fun hN=>?_
  induction n using Nat.casesOn with
  | zero=>have ee:=Option.some.inj e1; clear e1; subst ee; have ee:=Option.some.inj e2; clear e2; subst ee; refine hN ?_; exact hp
  | succ n=>
   induction n using Nat.casesOn with
   | zero=>have ee:=Option.some.inj e1; clear e1; subst ee; have ee:=Option.some.inj e2; clear e2; subst ee; refine hN ?_; exact hq
   | succ n=>exact zaA e1
 ·refine bc fun hN=>?_
  rcases List.mem_cons.mp hr with rfl | hr
  ·refine hN ?_
   exact op
  ·cases List.mem_singleton.mp hr
   refine hN ?_
   exact oq
 ·refine bc fun hN=>?_
  induction a using Nat.casesOn with
  | zero=>
   have ee:=Option.some.inj e1
   clear e1
   subst ee
   induction b using Nat.casesOn with
   | zero=>exact absurd rfl hab
   | succ b=>
    induction b using Nat.casesOn with
    | zero=>have ee:=Option.some.inj e2; clear e2; subst ee; refine hN ?_; exact ap
    | succ b=>exact zaA e2
  | succ a=>
   induction a using Nat.casesOn with
   | succ a=>exact zaA e1
   | zero=>
    have ee:=Option.some.inj e1
    clear e1
    subst ee
    induction b using Nat.casesOn with
    | zero=>have ee:=Option.some.inj e2; clear e2; subst ee; refine hN ?_; exact fun b h1 h2=>ap b h2 h1
    | succ b=>
     induction b using Nat.casesOn with
     | zero=>exact absurd rfl hab
     | succ b=>exact zaA e2
section
variable {X:Stat}{fs:List PySem.Env}{A:Around}{m:AM}{σ:List C}{s:Shared}{i:Nat}{rest:List V}{val:Value}
theorem zgQ (X:Stat):PrimOK X false:=⟨fun h=>(nomatch h),fun{fs A u val m σ s} _ _ _ _ hf=>by
 have:zla false u σ=.stuck:=by
  unfold zla
  split
  ·rfl
  ·rfl
 rw[this] at hf; exact zab hf⟩

theorem zgR (F:Facts X) (W:WFacts X) (G:ExcOK X) {fn:Fn}{f:Nat} (hf:X.T.fns[f]?=some fn) {as:List V}{vals:List Value} (k:Ok X fs m σ s) (r:Rep X.F m s.heap val (.loc i)) (e:σ[i]?=some (.words rest)) (ra:Reps X.F m s.heap vals as) (hp:plains as=true)
  (l:Lim false A 20) (hfr:A.frames=some fs):∃ L j,L.drop j=rest∧rest≠[]∧zbC L=true∧L.length≤LIM∧L.all zpD=true∧noLocs L=true ∧
  ∀ (q:R V),(ev X.T false 4).call f (.loc 0::as) (σW L j)=q→(q=.exc∨∃ v j',q=.ok v (σW L j')∧noLoc v=true∧L.drop j'≠[]) →
   wpAny (model X.prog X.w) A (PySem.call (.ref fn.addr) (val::vals))
    (fun v' s'=>∃ v j',q=.ok v (σW L j')∧PV X fs m s (.ok v (σ.set i (.words (L.drop j')))) v' s') (fun v' s'=>q=.exc∧∀ {α:Type},PX X fs s (R.exc (α:=α)) v' s') s:=by
 refine zb8 (k.loc r e) fun p ee0 hpm rst=>?_
 subst ee0
 refine zpB rst ?_
 clear rst
 intro dx rl es n L j xs nn hp2 hne1 hne2 hne3 IW nm0 hrl hR hd hn hle hLl htk
 obtain⟨t1,t2,t3,k1,k2,rfl⟩:=nm0
 refine zvb L j hd hn hle hLl htk hR.noLoc (fun q hq hqs=>?_)
 let ms:AM:=[(p.1,[p.1,dx]),(rl,[rl])]
 have mutI:∀ {b},Mut ms b→b∈p.2:=fun{b} ww=>zao ww fun q hq hb=>by
  rw[hp2]
  simp only[ms,List.mem_cons,List.not_mem_nil,or_false] at hq
  refine Or.elim hq ?_ ?_
  clear hq
  intro nm
  subst nm
  rotate_left
  clear hq
  intro nm
  subst nm
  rotate_left
  ·simp only[List.mem_cons,List.not_mem_nil,or_false] at hb ⊢
   refine Or.elim hb ?_ ?_
   clear hb
   intro nm
   subst nm
   rotate_left
   clear hb
   intro nm
   subst nm
   rotate_left
   ·exact .inl rfl
   ·exact .inr (.inl rfl)
  ·simp only[List.mem_cons,List.not_mem_nil,or_false] at hb ⊢
   exact .inr (.inr hb)
 have mutO:∀ {b},b∈p.2→Mut ms b:=fun{b} hb=>by
  rw[hp2] at hb
  simp only[List.mem_cons,List.not_mem_nil,or_false] at hb
  rcases hb with rfl | rfl | rfl
  ·exact zc1 _ (List.mem_cons_self ..) (by exact List.mem_cons_self)
  ·exact zc1 _ (List.mem_cons_self ..) (by exact List.mem_cons_of_mem _ (List.mem_cons_self ..))
  ·exact zc1 ((_,[_])) (List.mem_cons_of_mem _ (List.mem_cons_self ..)) (by exact List.mem_cons_self)
 have pm:p∈m:=zai hpm
 have mutM:∀ {b},Mut ms b→Mut m b:=fun hb=>⟨p,pm,mutI hb⟩
 have own:=k.sto.own p pm
 have S1:Sto X ms s.heap (σW L j):=.two (p:=(p.1,[p.1,dx])) (q:=(rl,[rl]))
  ⟨dx,_,_,rfl,hne1,IW,⟨⟨by decide,⟨_,rfl⟩,.loc (p:=(rl,[rl])) rfl⟩,⟨by decide,⟨_,rfl⟩,.int _ _⟩,trivial⟩,Nat.le_refl 2⟩
  ⟨rfl,xs,nn,hrl,hR.ext List.nil_prefix (.of_sub fun ua ub e=>e)⟩
  ⟨List.mem_cons_self ..,fun b hb=>own.2 b (mutI ⟨_,List.mem_cons_self ..,hb⟩)⟩ ⟨List.mem_cons_self ..,fun b hb=>own.2 b (mutI ⟨_,List.mem_cons_of_mem _ (List.mem_cons_self ..),hb⟩)⟩
  fun b h1 h2=>by
   cases List.mem_singleton.mp h2
   refine Or.elim (List.mem_cons.mp h1) ?_ ?_
   intro h1
   rotate_left
   intro h1
   rotate_left
   ·exact hne2 h1
   ·exact hne3 (List.mem_singleton.mp h1)
 have k1:Ok X fs ms (σW L j) s:=⟨k.stays,k.ff,fun en he L' hL q=>k.prot en he L' hL (mutM q),S1⟩
 have LO:=zkK (prim:=false) F W (zgQ X) G 4
 have rs:Reps X.F ms s.heap (.ref p.1::vals) (.loc 0::as):=.cons (.loc (p:=(p.1,[p.1,dx])) rfl) (ra.plain hp)
 have hfine:zbh ((ev X.T false 4).call f (.loc 0::as) (σW L j)):=by
  rw[hq]
  refine Or.elim hqs ?_ ?_
  clear hqs
  intro nm
  subst nm
  rotate_left
  clear hqs
  intro nm
  refine zaZ nm ?_
  clear nm
  intro v j' ee0 _
  subst ee0
  rotate_left
  ·exact zfe
  ·exact zdp _ _
 refine wpAny_call (codeAny_mono (LO.call hf rs k1 ⟨l.hand,by have:=l.depth; unfold slk at this ⊢; dsimp only at this ⊢; omega,by have:=l.units; unfold slk at this ⊢; dsimp only at this ⊢; omega⟩ hfr hfine) fun res s' z=>?_)
 rw[hq] at z
 induction res using Except.casesOn with
 | error e=>
  refine zaW z ?_
  clear z
  intro z1 rst
  refine zb8 rst ?_
  clear rst
  intro e' z2 z3 z4
  exact⟨z1,fun{α}=>⟨rfl,e',z2,z3,z4⟩⟩
 | ok fl=>induction fl using PySem.Flow.casesOn with
  | ret v'=>
   refine zaZ z ?_
   clear z
   intro v σ' z1 rst
   refine zfl rst ?_
   clear rst
   intro ms' x k2 y rv
   refine Or.elim hqs ?_ ?_
   clear hqs
   intro nm
   subst nm
   rotate_left
   clear hqs
   intro nm
   refine zc0 nm ?_
   clear nm
   intro v0 j' ee0 hv0 hj'
   subst ee0
   rotate_left
   ·exact noI R.ctorIdx z1 rfl
   ·injection z1 with z1 z2
    subst z1 z2
    refine⟨_,j',rfl,v0,_,rfl,m,?_,?_,y,?_⟩
    ·exact⟨List.prefix_rfl,fun b o e hb=>x.keep b o e fun hb'=>hb (mutM hb'),fun ua q=>.inl q⟩
    ·have keepO:∀ b o,s.heap.get? b=some o→b ∉ p.2→s'.heap.get? b=some o:=fun b o e hb=>x.keep b o e fun hb'=>hb (mutI hb')
     have q0:ms'[0]?=some (p.1,[p.1,dx]):=zcD x.pre rfl
     have q1:ms'[1]?=some (rl,[rl]):=zcD x.pre rfl
     refine zo0 (k2.sto.rep 0 _ _ q0 rfl) fun dx' es' n' w1 w2 w3 w4 w5=>?_
     refine zaW (k2.sto.rep 1 _ _ q1 rfl) fun u1 rst=>?_
     refine zaZ rst ?_
     clear rst
     intro xs' nn' u2 u3
     have hdx:dx'=dx:=by simpa using w1.symm
     subst hdx
     refine⟨k2.stays,k2.ff,k.prot,k.sto.put hpm keepO (fun b hb=>?_) ?_⟩
     ·refine zao (mutO hb) fun q hq hb'=>?_
      have hq':q∈ms':=x.pre.subset hq
      exact((k2.sto.own q hq').2 b hb').2
     ·exact⟨dx',rl,_,n',L,j',xs',nn',hp2,hne1,hne2,hne3,w3,w4.two q1,u2,u3.free hR.noLoc,rfl,hj',hle,hLl,htk⟩
    ·exact rv.free hv0
  | _=>exact z.elim
end
end
section
open W Calls PyProof.Rows
noncomputable abbrev EF (n:Nat):Lo:=ev TB false n
theorem zcY {r:List V}{k:Nat}{t:V} (h:zbB r k=some t):t∈r:=List.mem_of_getElem? (zfI r k t h).2
theorem ziE {t:V} (h:zpD t=true):∃ k tx p a b,t=tk k tx p a b:=by
 refine IfT.out ?_ h
 clear h
 induction t using V.casesOn with
 | tup vs=>
  induction vs using List.casesOn with
  | nil=>exact True.intro
  | cons k vs=>
   induction k using V.casesOn with
   | str k=>
    induction vs using List.casesOn with
    | nil=>exact True.intro
    | cons x vs=>
     induction x using V.casesOn with
     | str x=>
      match vs with
      | [p,a,b]=>exact .mk fun ua=>⟨k,x,p,a,b,rfl⟩
      | []=>exact True.intro
      | [_]=>exact True.intro
      | [_,_]=>exact True.intro
      | _::_::_::_::_=>exact True.intro
     | _=>exact True.intro
   | _=>exact True.intro
 | _=>exact True.intro
theorem ze9:∀ {L:List V} (j:Nat) {r:List V},zbC L=true→L.drop j=r→r≠[]→zbC r=true
 | L,0,r,h,e,_=>by rw[List.drop_zero] at e; subst e; exact h
 | [],j+1,r,h,e,hn=>by simp at e; exact absurd e.symm (by exact hn.symm)
 | [a],j+1,r,h,e,hn=>by simp at e; exact absurd e.symm (by exact hn.symm)
 | a::b::L,j+1,r,h,e,hn=>ze9 (L:=b::L) j h e hn

section
variable {L:List V}{j:Nat}{rest:List V} (hd:L.drop j=rest) (hn:rest≠[]) (hle:zbC L=true) (hLl:L.length≤LIM) (htk:L.all zpD=true) (hnl:noLocs L=true)
include hd
theorem zk6 {t:V} (h:t∈rest):t∈L:=by subst hd; exact List.mem_of_mem_drop h
include htk
theorem ziF {t:V}{k:Nat} (h:zbB rest k=some t):∃ kd tx p a b,t=tk kd tx p a b:=ziE (List.all_eq_true.mp htk t (zk6 hd (zcY h)))
include hLl
theorem pk (n:Nat) {t:V}{k:Nat} (h:zbB rest k=some t):(EF (n+1)).call 0 [.loc 0,.int k] (σW L j)=.ok t (σW L j):=by
 subst hd
 exact zjM (EF n) h hLl
theorem pk0 (n:Nat) {t:V} (h:zbB rest 0=some t):(EF (n+1)).call 0 [.loc 0] (σW L j)=.ok t (σW L j):=by
 subst hd
 exact zmv (EF n) h hLl
theorem lk (n:Nat) {c:List Nat}{k:Nat}{b:Bool} (h:zbi rest c k=some b):(EF (n+2)).call 2 [.loc 0,.str c,.int k] (σW L j)=.ok (.bool b) (σW L j):=by
 unfold zbi at h
 refine bc fun hN=>?_
 induction q:zbB rest k using Option.casesOn with
 | none=>replace h:=q▸h; exact zaA h
 | some t=>
  refine znt (ziF hd htk q) fun kd tx p a b' ee0=>?_
  subst ee0
  replace h:=q▸h
  have ee:=Option.some.inj h
  clear h
  subst ee
  refine hN ?_
  exact zmw (lo:=EF (n+1)) (pk hd hLl htk n q)
theorem lk0 (n:Nat) {c:List Nat}{b:Bool} (h:zbi rest c 0=some b):(EF (n+2)).call 2 [.loc 0,.str c] (σW L j)=.ok (.bool b) (σW L j):=lk hd hLl htk n (k:=0) h
include hle
theorem tkk (n:Nat) {t:V}{r:List V} (h:zdg rest=some (t,r)):∃ j',(EF (n+2)).call 1 [.loc 0] (σW L j)=.ok t (σW L j')∧L.drop j'=r∧r≠[]∧t∈L:=by
 induction rest using List.casesOn with
 | nil=>exact zaA h
 | cons t0 r0=>
  have q:zbB (t0::r0) 0=some t0:=rfl
  refine znt (ziF hd htk q) fun kd tx p a b' ee0=>?_
  subst ee0
  have m:=zk6 hd (zcY q)
  have run:=zoo (lo:=EF (n+1)) (pk0 hd hLl htk n q)
  have h:(if zan kd zdV then some (tk kd tx p a b',tk kd tx p a b'::r0) else some (tk kd tx p a b',r0))=some (t,r):=h
  induction z:zan kd zdV using Bool.casesOn with
  | true=>
   rw[z] at h run
   cases h
   exact zre j run hd (by exact of_decide_eq_true rfl) m
  | false=>
   rw[z] at h run
   cases h
   refine zre (j+1) run (by rw[← List.tail_drop,hd]; rfl) (fun e=>?_) m
   subst e
   have:=ze9 j hle hd (by exact of_decide_eq_true rfl)
   have this:zan kd zdV=true:=this
   rw[z] at this; exact(Bool.false_ne_true this).elim
include hnl
noncomputable def WmG (L:List V) (j:Nat) (mt:WM) (as:List V):Option (V×List V)→Prop
 | some (v,r)=>plains as=true∧∃ j',(EF 4).call (zjs mt) (.loc 0::as) (σW L j)=.ok v (σW L j')∧L.drop j'=r∧noLoc v=true∧r≠[]
 | none=>plains as=true∧(EF 4).call (zjs mt) (.loc 0::as) (σW L j)=.exc
theorem zke {t:V} (h:t∈L):noLoc t=true:=zeY hnl _ h
theorem zm9 {kd tx:List Nat}{p a b:V} (h:tk kd tx p a b∈L):noLoc p=true:=by
 have:(true&&(true&&(noLoc p&&(noLoc a&&(noLoc b&&true)))))=true:=zeY hnl _ h
 exact(Bool.and_eq_true_iff.mp (Bool.and_eq_true_iff.mp (Bool.and_eq_true_iff.mp this).2).2).1
include hn
theorem zoT:IfO (WmG L j .peek []) (wmV TB.kw .peek rest []):=by
 show IfO _ (match zbB rest 0 with
  | some t=>some (some (t,rest))
  | none=>none)
 induction q:zbB rest 0 using Option.casesOn with
 | none=>exact True.intro
 | some t=>exact⟨rfl,j,pk0 hd hLl htk 3 q,hd,zke hd hle hLl htk hnl (zk6 hd (zcY q)),hn⟩
theorem zq0 (k:Int):IfO (WmG L j .peek [.int k]) (wmV TB.kw .peek rest [.int k]):=by
 show IfO _ (if 0≤k then(match zbB rest k.toNat with
  | some t=>some (some (t,rest))
  | none=>none) else none)
 split
 ·rename_i hk
  induction q:zbB rest k.toNat using Option.casesOn with
  | none=>exact True.intro
  | some t=>
   have:=pk hd hLl htk 3 q
   rw[Int.toNat_of_nonneg hk] at this
   exact⟨rfl,j,this,hd,zke hd hle hLl htk hnl (zk6 hd (zcY q)),hn⟩
 ·exact True.intro
theorem zq1:IfO (WmG L j .take []) (wmV TB.kw .take rest []):=by
 show IfO _ (match zdg rest with
  | some (t,r)=>some (some (t,r))
  | none=>none)
 induction q:zdg rest using Option.casesOn with
 | none=>exact True.intro
 | some p=>
  obtain⟨t,r⟩:=p
  refine zfl (tkk hd hle hLl htk 2 q) fun j' a1 a2 a3 a4=>?_
  exact⟨rfl,j',a1,a2,zke hd hle hLl htk hnl a4,a3⟩
theorem zna (tx:List Nat):IfO (WmG L j .looks [.str tx]) (wmV TB.kw .looks rest [.str tx]):=by
 show IfO _ (match zbi rest tx 0 with
  | some b=>some (some (V.bool b,rest))
  | none=>none)
 induction q:zbi rest tx 0 using Option.casesOn with
 | none=>exact True.intro
 | some b=>exact⟨rfl,j,lk0 hd hLl htk 2 q,hd,rfl,hn⟩
theorem zoU (tx:List Nat) (k:Int):IfO (WmG L j .looks [.str tx,.int k]) (wmV TB.kw .looks rest [.str tx,.int k]):=by
 show IfO _ (if 0≤k then(match zbi rest tx k.toNat with
  | some b=>some (some (V.bool b,rest))
  | none=>none) else none)
 split
 ·rename_i hk
  induction q:zbi rest tx k.toNat using Option.casesOn with
  | none=>exact True.intro
  | some b=>
   have:=lk hd hLl htk 2 q
   rw[Int.toNat_of_nonneg hk] at this
   exact⟨rfl,j,this,hd,rfl,hn⟩
 ·exact True.intro
theorem znb (tx:List Nat):IfO (WmG L j .expect [.str tx]) (wmV TB.kw .expect rest [.str tx]):=by
 have fin:∀ {b:Bool},zbi rest tx 0=some b→evT TB false (EF 3) (.not (.wm (.x 0) .looks (.cons (.x 1) .nil))) [some (.loc 0),some (.str tx)] (σW L j)=.ok (!b) (σW L j):=fun{b} q=>by
  have e0:evT TB false (EF 3) (.wm (.x 0) .looks (.cons (.x 1) .nil)) [some (.loc 0),some (.str tx)] (σW L j)=.ok b (σW L j):=by
   show((EF 3).call 2 [.loc 0,.str tx] (σW L j)).bind zd0=_
   refine(lk0 hd hLl htk 1 q).symm▸?_; rfl
  exact zbH e0
 show IfO _ (match zbi rest tx 0 with
  | some true=>match zdg rest with
   | some (t,r)=>some (some (t,r))
   | none=>none
  | some false=>match zbB rest 0 with
   | some t=>match zfn t,Nat.ble tx.length 1000 with
    | some _,true=>some none
    | _,_=>none
   | none=>none
  | none=>none)
 induction q:zbi rest tx 0 using Option.casesOn with
 | none=>exact True.intro
 | some b=>
  have e2:=zaT (x:=(.cons (.raise (.bin .Add (.x 1) (.c (.str [32,105,115,32,109,105,115,115,105,110,103]))) (.sub (.wm (.x 0) .peek .nil) (.c (.int 2)))) .nil)) (y:=.nil) (fin q)
  induction b using Bool.casesOn with
  | true=>
   show IfO _ (match zdg rest with
    | some (t,r)=>some (some (t,r))
    | none=>none)
   induction q2:zdg rest using Option.casesOn with
   | none=>exact True.intro
   | some p=>
    obtain⟨t,r⟩:=p
    refine zfl (tkk hd hle hLl htk 1 q2) fun j' a1 a2 a3 a4=>?_
    refine⟨rfl,j',?_,a2,zke hd hle hLl htk hnl a4,a3⟩
    refine znt (ziE (List.all_eq_true.mp htk _ a4)) fun kd tx' p a b ee0=>?_
    subst ee0
    show zcC TB false (EF 3) zhd [.loc 0,.str tx] (σW L j)=_
    refine zdd (ρ:=[some (.loc 0),some (.str tx)]) (ρ':=[some (.loc 0),some (.str tx)]) rfl ((zaj (e2.trans rfl)).trans ?_)
    show zf6 _ (((EF 3).call 1 [.loc 0] (σW L j)).bind _)=_
    refine a1.symm▸?_; rfl
  | false=>
   show IfO _ (match zbB rest 0 with
    | some t=>match zfn t,Nat.ble tx.length 1000 with
     | some _,true=>some none
     | _,_=>none
    | none=>none)
   induction q0:zbB rest 0 using Option.casesOn with
   | none=>exact True.intro
   | some t=>
    refine znt (ziF hd htk q0) fun kd tx' p a b ee0=>?_
    subst ee0
    show IfO _ (match some p,Nat.ble tx.length 1000 with
     | some _,true=>some none
     | _,_=>none)
    induction hc:Nat.ble tx.length 1000 using Bool.casesOn with
    | false=>exact True.intro
    | true=>
     refine And.intro rfl ?_
     show zcC TB false (EF 3) zhd [.loc 0,.str tx] (σW L j)=_
     refine zmu (ρ:=[some (.loc 0),some (.str tx)]) rfl (zfh (e2.trans (zfh ?_)))
     have e3:evE TB false (EF 3) (.bin .Add (.x 1) (.c (.str [32,105,115,32,109,105,115,115,105,110,103]))) [some (.loc 0),some (.str tx)] (σW L j)=.ok (.str (tx++[32,105,115,32,109,105,115,115,105,110,103])) (σW L j):=by
      show(if(tx++[32,105,115,32,109,105,115,115,105,110,103]).length≤zaP then _ else _)=_
      rw[if_pos (by rw[List.length_append]; exact Nat.le_trans (Nat.add_le_add_right (Nat.le_of_ble_eq_true hc) _) (by decide))]
     have e4:evE TB false (EF 3) (.sub (.wm (.x 0) .peek .nil) (.c (.int 2))) [some (.loc 0),some (.str tx)] (σW L j)=.ok p (σW L j):=by
      show((EF 3).call 0 [.loc 0] (σW L j)).bind _=_
      refine(pk0 hd hLl htk 2 q0).symm▸?_; rfl
     exact(zbH e3).trans ((zbH e4).trans rfl)
theorem zkf {kd tx:List Nat}{p a b t:V}{r:List V} (q:zbB rest 0=some (tk kd tx p a b)) (hend:zan kd zdV=false) (q2:zdg rest=some (t,r)):L.drop (j+1)=r:=by
 refine bc fun hN=>?_
 induction rest using List.casesOn with
 | nil=>exact zaA q
 | cons t0 r0=>
  have ee:=Option.some.inj q
  clear q
  subst ee
  have q2:(if zan kd zdV then some (tk kd tx p a b,tk kd tx p a b::r0) else some (tk kd tx p a b,r0))=some (t,r):=q2
  replace q2:=hend▸q2
  cases q2
  refine hN ?_
  refine List.tail_drop▸?_; refine hd.symm▸?_; rfl
theorem zq2:IfO (WmG L j .name []) (wmV TB.kw .name rest []):=by
 show IfO _ (match zbB rest 0 with
  | some t=>match kindOf t,zhB t,zfn t with
   | some kd,some tx,some p=>
    if zan kd zcs then
     match zbt tx TB.kw with
     | some true=>some none
     | some false=>match zdg rest with
      | some (_,r)=>some (some (V.tup [.str tx,p],r))
      | none=>none
     | none=>none
    else some none
   | _,_,_=>none
  | none=>none)
 induction q:zbB rest 0 using Option.casesOn with
 | none=>exact True.intro
 | some t=>
  refine znt (ziF hd htk q) fun kd tx p a b ee0=>?_
  subst ee0
  show IfO _ (if zan kd zcs=true then
     match zbt tx TB.kw with
     | some true=>some none
     | some false=>match zdg rest with
      | some (_,r)=>some (some (V.tup [.str tx,p],r))
      | none=>none
     | none=>none
    else some none)
  have nr:∀ {kw},zbt tx TB.kw=some kw→_:=fun hk=>zop (lo:=EF 3) hk (pk0 hd hLl htk 2 q)
  split
  ·rename_i z
   induction z2:zbt tx TB.kw using Option.casesOn with
   | none=>exact True.intro
   | some kw=>
    have nr:=nr z2
    rw[z] at nr
    induction kw using Bool.casesOn with
    | true=>exact⟨rfl,nr⟩
    | false=>
     show IfO _ (match zdg rest with
      | some (_,r)=>some (some (V.tup [.str tx,p],r))
      | none=>none)
     induction q2:zdg rest using Option.casesOn with
     | none=>exact True.intro
     | some w=>
      obtain⟨t',r⟩:=w
      refine zfl (tkk hd hle hLl htk 2 q2) fun j' a1 a2 a3 a4=>?_
      have hend:zan kd zdV=false:=by
       have:=zdF z
       subst this; rfl
      refine⟨rfl,j+1,nr,zkf hd hn hle hLl htk hnl q hend q2,?_,a3⟩
      show(true&&(noLoc p&&true))=true
      rw[zm9 hd hle hLl htk hnl (zk6 hd (zcY q))]; rfl
  ·rename_i z
   obtain⟨kw,hk⟩:∃ kw,zbt tx TB.kw=some kw:=⟨_,rfl⟩
   have nr:=nr hk
   rw[Bool.eq_false_iff.mpr z] at nr
   exact And.intro rfl nr
theorem zoV:IfO (WmG L j .split []) (wmV TB.kw .split rest []):=by
 show IfO _ (match zbB rest 0 with
  | some t=>match kindOf t,zhB t,zfn t with
   | some kd,some tx,some p=>
    if zan kd zbu&&zan tx zno then
     match zdg rest with
     | some (_,r)=>some (some (V.tup [.str zbu,.str zno,p,.none,.none],r))
     | none=>none
    else none
   | _,_,_=>none
  | none=>none)
 induction q:zbB rest 0 using Option.casesOn with
 | none=>exact True.intro
 | some t=>
  refine znt (ziF hd htk q) fun kd tx p a b ee0=>?_
  subst ee0
  show IfO _ (if(zan kd zbu&&zan tx zno)=true then
     match zdg rest with
     | some (_,r)=>some (some (V.tup [.str zbu,.str zno,p,.none,.none],r))
     | none=>none
    else none)
  split
  ·rename_i z
   rw[Bool.and_eq_true] at z
   induction q2:zdg rest using Option.casesOn with
   | none=>exact True.intro
   | some w=>
    obtain⟨t',r⟩:=w
    refine zfl (tkk hd hle hLl htk 2 q2) fun j' a1 a2 a3 a4=>?_
    have hend:zan kd zdV=false:=by
     have:=zdF z.1
     subst this; rfl
    refine⟨rfl,j+1,zmx (lo:=EF 3) z.1 z.2 (pk0 hd hLl htk 2 q),zkf hd hn hle hLl htk hnl q hend q2,?_,a3⟩
    show(true&&(true&&(noLoc p&&(true&&(true&&true)))))=true
    refine(zm9 hd hle hLl htk hnl (zk6 hd (zcY q))).symm▸?_; rfl
  ·exact True.intro
theorem zpw (mt:WM) (as:List V):IfO (WmG L j mt as) (wmV TB.kw mt rest as):=by
 induction mt using Lake.WM.casesOn with
 | peek=>
  match as with
  | []=>exact zoT hd hn hle hLl htk hnl
  | [a]=>
   induction a using V.casesOn with
   | int k=>exact zq0 hd hn hle hLl htk hnl k
   | _=>exact True.intro
  | a::_::_=>induction a using V.casesOn <;> exact True.intro
 | take=>
  induction as using List.casesOn with
  | nil=>exact zq1 hd hn hle hLl htk hnl
  | cons _ _=>exact True.intro
 | looks=>
  match as with
  | []=>exact True.intro
  | [a]=>
   induction a using V.casesOn with
   | str x=>exact zna hd hn hle hLl htk hnl x
   | _=>exact True.intro
  | [a,b]=>
   induction a using V.casesOn with
   | str x=>
    induction b using V.casesOn with
    | int k=>exact zoU hd hn hle hLl htk hnl x k
    | _=>exact True.intro
   | _=>exact True.intro
  | a::b::_::_=>induction a using V.casesOn <;> first | exact True.intro | (induction b using V.casesOn <;> exact True.intro)
 | expect=>
  match as with
  | []=>exact True.intro
  | [a]=>
   induction a using V.casesOn with
   | str x=>exact znb hd hn hle hLl htk hnl x
   | _=>exact True.intro
  | a::_::_=>induction a using V.casesOn <;> exact True.intro
 | name=>
  induction as using List.casesOn with
  | nil=>exact zq2 hd hn hle hLl htk hnl
  | cons _ _=>exact True.intro
 | split=>
  induction as using List.casesOn with
  | nil=>exact zoV hd hn hle hLl htk hnl
  | cons _ _=>exact True.intro
theorem zs8 {mt:WM}{as:List V}{v:V}{r:List V} (h:wmV TB.kw mt rest as=some (some (v,r))):plains as=true∧∃ j',(EF 4).call (zjs mt) (.loc 0::as) (σW L j)=.ok v (σW L j')∧L.drop j'=r∧noLoc v=true∧r≠[]:=
 (zpw hd hn hle hLl htk hnl mt as).out h
theorem zpx {mt:WM}{as:List V} (h:wmV TB.kw mt rest as=some none):plains as=true∧(EF 4).call (zjs mt) (.loc 0::as) (σW L j)=.exc:=
 (zpw hd hn hle hLl htk hnl mt as).out h
end
end
section
open W Calls PyProof.Rows
section
variable {X:Stat}{fs:List PySem.Env}{A:Around}{m:AM}{σ:List C}{s:Shared}
theorem zq3 (F:Facts X) (W:WFacts X) (G:ExcOK X) (hT:X.T=TB) {mt:WM}{fn:Fn}{i:Nat}{val:Value}{vals:List Value}{as rest:List V} (hf:X.T.fns[zjs mt]?=some fn) (r:Rep X.F m s.heap val (.loc i)) (e:σ[i]?=some (.words rest)) (ra:Reps X.F m s.heap vals as)
  (k:Ok X fs m σ s) (l:Lim false A 20) (hfr:A.frames=some fs) (hfine:zbh (zdZ X.T true lo0 mt (.loc i) as σ)) :
  wpAny (model X.prog X.w) A (PySem.call (.ref fn.addr) (val::vals)) (PV X fs m s (zdZ X.T true lo0 mt (.loc i) as σ)) (PX X fs s (zdZ X.T true lo0 mt (.loc i) as σ)) s:=by
 have hw:zdZ X.T true lo0 mt (.loc i) as σ=(match wmV TB.kw mt rest as with
   | some (some (v,r))=>.ok v (σ.set i (.words r))
   | some none=>.exc
   | none=>.stuck):=by
  unfold zdZ
  dsimp only
  refine e.symm▸?_
  refine hT.symm▸?_
  rfl
 rw[hw] at hfine ⊢
 obtain⟨L0,j0,g1,g2,g3,g4,g5,g6⟩:∃ L j,L.drop j=rest∧rest≠[]∧zbC L=true∧L.length≤LIM∧L.all zpD=true∧noLocs L=true:=by
  refine zb8 (k.loc r e) fun p ee0 hpm rst=>?_
  subst ee0
  refine zpB rst ?_
  clear rst
  intro dx rl es n L j xs nn hp2 hne1 hne2 hne3 IW hes hrl hR hd hn hle hLl htk
  exact zu9 L j hd hn hle hLl htk hR.noLoc
 induction hq:wmV TB.kw mt rest as using Option.casesOn with
 | none=>replace hfine:=hq▸hfine; exact zab hfine
 | some o=>
  induction o using Option.casesOn with
  | none=>
   have hp:=(zpx g1 g2 g3 g4 g5 g6 hq).1
   refine zus (zgR F W G hf k r e ra hp l hfr) fun L j h1 h2 h3 h4 h5 h6 h7=>?_
   have hx:=(zpx h1 h2 h3 h4 h5 h6 hq).2
   replace h7:=hT▸h7
   refine wpAny_mono (h7 .exc hx (.inl rfl)) (fun v' s' ww=>zaZ ww fun v j' z ua=>by exact noI R.ctorIdx z rfl) fun v' s' ww=>zaW ww fun ua z=>z
  | some q=>
   obtain⟨v,r'⟩:=q
   have hp:=(zs8 g1 g2 g3 g4 g5 g6 hq).1
   refine zus (zgR F W G hf k r e ra hp l hfr) fun L j h1 h2 h3 h4 h5 h6 h7=>?_
   refine zaW (zs8 h1 h2 h3 h4 h5 h6 hq) fun ua rst=>?_
   refine zfl rst ?_
   clear rst
   intro j' a1 a2 a3 a4
   replace h7:=hT▸h7
   refine wpAny_mono (h7 _ a1 (.inr ⟨v,j',rfl,a3,by refine a2.symm▸?_; exact a4⟩)) (fun v' s' ww=>zaZ ww fun v1 j1 z z2=>?_) fun v' s' ww=>zaW ww fun z ua=>by exact noI R.ctorIdx z rfl
   injection z with z1 z3
   subst z1
   injection z3 with z4 z5
   injection z4 with z6
   have hj:j1=j':=by
    have:V.int (j':Nat)=V.int (j1:Nat):=by
     injection z6 with _ z7
     injection z7 with z8 _
     injection z8
    injection this with this
    omega
   subst hj
   replace z2:=a2▸z2
   exact z2
end
end
section
open W Calls PyProof.Rows
theorem zhv (t:V) (h:zdW t=true):kindOf (zb9 t)=kindOf t:=by
 refine zuq (zeL h) fun k x i a b ee0 ua=>?_
 subst ee0
 rfl
theorem zdU:∀ {vs:List V},vs.all zdW=true→zbC (vs.map zb9)=zbC vs
 | [],_=>rfl
 | [t],h=>by
  rw[List.all_cons,Bool.and_eq_true] at h
  show(match kindOf (zb9 t) with
   | some k=>zan k zdV
   | none=>false)=_
  refine(zhv t h.1).symm▸?_; rfl
 | a::b::vs,h=>by
  rw[List.all_cons,Bool.and_eq_true] at h
  exact zdU (vs:=b::vs) h.2
theorem zk7 {F:Nat→Option Addr}{m:AM}{h:Heap}{x:Value}{t:V} (r:Rep F m h x t) (q:zdW t=true):Rep F m h x (zb9 t):=by
 refine bc fun hN=>?_
 refine zuq (zeL q) fun k tx i a b ee0 ua=>?_
 subst ee0
 refine zdb r.inv fun c n xs ee0 e rs=>?_
 subst ee0
 refine zc0 rs.invc fun x1 xs1 ee0 r1 rs1=>?_
 subst ee0
 refine zc0 rs1.invc fun x2 xs2 ee0 r2 rs2=>?_
 subst ee0
 refine zc0 rs2.invc fun x3 xs3 ee0 r3 rs3=>?_
 subst ee0
 obtain⟨t3,rfl⟩:=r3.inv
 refine hN ?_
 exact .tup e (.cons r1 (.cons r2 (.cons (.any i t3) rs3)))
theorem zjp {F:Nat→Option Addr}{m:AM}{h:Heap}{xs:List Value}{vs:List V} (r:Reps F m h xs vs):vs.all zdW=true→Reps F m h xs (vs.map zb9):=
 r.ind (P:=fun xs vs=>vs.all zdW=true→Reps F m h xs (vs.map zb9)) (fun ua=>.nil) fun a ua b q=>B2 q fun q1 q2=>.cons (zk7 a q1) (b q2)

section
variable {X:Stat}{fs:List PySem.Env}{A:Around}{m:AM}{σ:List C}{s:Shared}
theorem znc {lo:Lo}{vs:List V} (hl:vs.length≤LIM):zcC TB false lo zfC [.loc 0,.loc 1] [.inst [],.list vs]=.ok .none [.inst [(0,.loc 2),(1,.int 0)],.list vs,.list vs]:=by
 have e1:evE TB false lo (.bi .list (.cons (.x 1) .nil)) [some (.loc 0),some (.loc 1)] [.inst [],.list vs]=.ok (.loc 2) [.inst [],.list vs,.list vs]:=by
  show(if vs.length≤LIM then R.ok (V.loc 2) [C.inst [],.list vs,.list vs] else .stuck)=_
  refine(if_pos hl).symm▸?_
  with_reducible rfl
 have e2:evS TB false lo (.setA (.x 0) 0 (.bi .list (.cons (.x 1) .nil))) [some (.loc 0),some (.loc 1)] [.inst [],.list vs]=.ok (.next,[some (.loc 0),some (.loc 1)]) [.inst [(0,.loc 2)],.list vs,.list vs]:=by
  show(evE TB false lo (.bi .list (.cons (.x 1) .nil)) _ _).bind _=_
  refine e1.symm▸?_; rfl
 unfold zcC
 show zpF (evSs TB false lo zfC.body [some (.loc 0),some (.loc 1)] [.inst [],.list vs])=_
 refine(show evSs TB false lo zfC.body [some (.loc 0),some (.loc 1)] [.inst [],.list vs]=.ok (.next,[some (.loc 0),some (.loc 1)]) [.inst [(0,.loc 2),(1,.int 0)],.list vs,.list vs] from(zaj e2).trans rfl).symm▸?_
 rfl
theorem zoW (F:Facts X) (W:WFacts X) (G:ExcOK X) (hT:X.T=TB) {u:V}{val:Value} (r:Rep X.F m s.heap val u) (k:Ok X fs m σ s) (l:Lim false A 20) (hfr:A.frames=some fs) (hfine:zbh (zla true u σ)) :
  wpAny (model X.prog X.w) A (PySem.call (.ref X.WC) [val]) (PV X fs m s (zla true u σ)) (PX X fs s (zla true u σ)) s:=by
 unfold zla at hfine ⊢
 induction hu:za4 σ u using Option.casesOn with
 | none=>rw[hu] at hfine; exact zab hfine
 | some vs=>
  rw[hu] at hfine
  dsimp only at hfine ⊢
  refine zao (zck hu) fun nu ee0 hσ=>?_
  subst ee0
  split at hfine
  case isFalse=>exact zab hfine
  rename_i hc
  rw[if_pos hc]
  simp only[Bool.true_and,Bool.and_eq_true,decide_eq_true_eq] at hc
  obtain⟨⟨htok,hlen⟩,hle⟩:=hc
  obtain⟨hpl,htk⟩:=zeM htok
  obtain⟨p,rfl,hpm,hp2,xs,nn,hlo,hR⟩:=k.loc r hσ
  obtain⟨la,lal⟩:=p
  dsimp only at hp2 hlo
  subst hp2
  refine zb8 W.ini fun fn hfn hini hty=>?_
  have hfn6:fn=zfC:=by
   have:X.T.fns[6]?=some zfC:=by rw[hT]; rfl
   rw[this] at hfn; have ee:=Option.some.inj hfn; clear hfn; subst ee; rfl
  subst hfn6
  have KS:X.K.In s.heap:=F.inK.keeps k.stays
  have hlM:Mut m la:=⟨_,zai hpm,by exact List.mem_cons_self⟩
  obtain⟨hh,g,d,t,os⟩:=s
  dsimp only at hlo hR KS hlM
  let dx:Addr:=hh.objs.size
  let x:Addr:=hh.objs.size+1
  let h1:Heap:=(hh.push emptyDict).push (instObj X.WC dx)
  have hdn:hh.get? dx=none:=zbD hh
  have hxn:hh.get? x=none:=zcJ hh (Nat.le_succ _)
  have st1:hh.StaysIn h1:=fun b o e=>Heap.get?_push_of_some _ (Heap.get?_push_of_some _ e)
  have gx:h1.get? x=some (instObj X.WC dx):=by show((hh.push emptyDict).push (instObj X.WC hh.objs.size)).get? (hh.objs.size+1)=_; heap_get
  have gd:h1.get? dx=some emptyDict:=by show((hh.push emptyDict).push (instObj X.WC hh.objs.size)).get? hh.objs.size=_; heap_get
  have nel:∀ b,hh.get? b=none→la≠b:=fun b e q=>by
   subst q; rw[hlo] at e; exact zhy e
  have bn:∀ b,hh.get? b=none→X.base.get? b=none:=fun b e=>by
   induction q:X.base.get? b using Option.casesOn with
   | none=>rfl
   | some o=>rw[k.stays b o q] at e; exact zhy e
  have nm:∀ b,hh.get? b=none→¬ Mut m b:=fun b e q=>by
   obtain⟨o,ho⟩:=k.sto.live q
   rw[e] at ho; exact zaA ho
  let ms:AM:=[(x,[x,dx]),(la,[la])]
  have mutms:∀ {b},Mut ms b→b=x∨b=dx∨b=la:=fun{b} ww=>zao ww fun q hq hb=>by
   simp only[ms,List.mem_cons,List.not_mem_nil,or_false] at hq
   rcases hq with rfl | rfl
   ·simp only[List.mem_cons,List.not_mem_nil,or_false] at hb
    rcases hb with rfl | rfl
    ·exact .inl rfl
    ·exact .inr (.inl rfl)
   ·simp only[List.mem_cons,List.not_mem_nil,or_false] at hb
    exact .inr (.inr hb)
  have hne:dx≠x:=Nat.ne_of_lt (Nat.lt_succ_self _)
  have own:=k.sto.own _ (zai hpm)
  have S1:Sto X ms h1 [.inst [],.list vs]:=.two (p:=(x,[x,dx])) (q:=(la,[la]))
   ⟨dx,[],0,rfl,hne,⟨gx,gd⟩,trivial,Nat.zero_le _⟩ ⟨rfl,xs,nn,st1 _ _ hlo,(hR.plain hpl).ext List.prefix_rfl (.of_sub st1)⟩
   ⟨List.mem_cons_self ..,fun b hb=>by
    rcases List.mem_cons.mp hb with rfl | hb
    ·exact⟨bn _ hxn,_,gx,zdm _ _⟩
    ·cases List.mem_singleton.mp hb
     exact⟨bn _ hdn,_,gd,zcj [] 0⟩⟩
   ⟨List.mem_cons_self ..,fun b hb=>by
    cases List.mem_singleton.mp hb
    obtain⟨o1,o,o2,o3⟩:=own.2 la (List.mem_cons_self ..)
    exact⟨o1,o,st1 _ _ o2,o3⟩⟩
   fun b h1 h2=>by
    cases List.mem_singleton.mp h2
    rcases List.mem_cons.mp h1 with h1 | h1
    ·exact nel _ hxn h1
    ·exact nel _ hdn (List.mem_singleton.mp h1)
  have k1:Ok X fs ms [.inst [],.list vs] ⟨h1,g,d,t,os⟩:=by
   refine⟨fun b o e=>st1 _ _ (k.stays b o e),k.ff.of_keeps fun b o e ua=>⟨o,st1 b o e,rfl⟩,fun en he L' hL q=>?_,S1⟩
   rcases mutms q with rfl | rfl | rfl
   ·obtain⟨o,ho⟩:=za6 k.ff en he _ hL
    have ho:hh.get? x=some o:=ho
    rw[hxn] at ho; exact zaA ho
   ·obtain⟨o,ho⟩:=za6 k.ff en he _ hL
    have ho:hh.get? dx=some o:=ho
    rw[hdn] at ho; exact zaA ho
   ·exact k.prot en he _ hL hlM
  have LO:=zkK (prim:=false) F W (zgQ X) G 1
  have hrun:(ev X.T false 1).call 6 [.loc 0,.loc 1] [.inst [],.list vs]=.ok .none [.inst [(0,.loc 2),(1,.int 0)],.list vs,.list vs]:=by
   rw[hT]
   exact znc (lo:=ev TB false 0) hlen
  have rs:Reps X.F ms h1 [.ref x,.ref la] [.loc 0,.loc 1]:=.cons (.loc (p:=(x,[x,dx])) rfl) (.cons (.loc (p:=(la,[la])) rfl) .nil)
  have hl':Lim false (A.under (.builtin "type.__call__" ⟨[.ref X.WC,.ref la],[]⟩)) 1:=by
   refine⟨l.hand,?_,?_⟩
   ·have:=l.depth
    show A.depth+1+2*1+slk false≤700
    unfold slk at this ⊢
    dsimp only at this ⊢
    omega
   ·have:=l.units
    have h2:(A.under (.builtin "type.__call__" ⟨[.ref X.WC,.ref la],[]⟩)).units≤A.units+20:=
     Nat.add_le_add_left (show Code.cUnits (.builtin "type.__call__" ⟨[.ref X.WC,.ref la],[]⟩)≤20 from by first | (show(0:Nat)≤20; omega) | (show(1:Nat)≤20; decide) | (show(2:Nat)≤20; omega) | (show(4:Nat)≤20; omega) | (show(5:Nat)≤20; omega)) _
    unfold slk at this ⊢
    dsimp only at this ⊢
    omega
  refine wpAny_call (make_core (makes_of KS W.mks) (looks_findIn KS hini) (fun self=>bind_fn KS self hty) (.inl rfl) ?_)
  refine codeAny_mono (LO.call (fs:=fs) hfn rs k1 hl' hfr (by rw[hrun]; exact zdp _ _)) fun res s' z=>?_
  rw[hrun] at z
  cases res with
  | error e=>obtain⟨z,_⟩:=z; exact noI R.ctorIdx z rfl
  | ok fl=>induction fl using PySem.Flow.casesOn with
   | ret v'=>
    obtain⟨v,σ',z1,ms',ex,k2,y,rv⟩:=z
    refine zaW (R.ok.inj z1) fun ee ff=>?_
    clear z1
    subst ee
    subst ff
    cases rv
    refine⟨rfl,?_⟩
    have q0:ms'[0]?=some (x,[x,dx]):=zcD ex.pre rfl
    have q1:ms'[1]?=some (la,[la]):=zcD ex.pre rfl
    obtain⟨q2p,q2⟩:∃ q,ms'[2]?=some q:=by
     have:2 < ms'.length:=by rw[k2.sto.len]; exact Nat.lt_succ_self 2
     exact⟨_,List.getElem?_eq_getElem this⟩
    refine zo0 (k2.sto.rep 0 _ _ q0 rfl) fun dx' es' n' w1 w2 w3 w4 w5=>?_
    obtain⟨u1,xs1,nn1,u2,u3⟩:=k2.sto.rep 1 _ _ q1 rfl
    obtain⟨v1,xs2,nn2,v2,v3⟩:=k2.sto.rep 2 _ _ q2 rfl
    obtain⟨rl,rll⟩:=q2p
    dsimp only at v1 v2
    subst v1
    have hdx:dx'=dx:=by simpa using w1.symm
    subst hdx
    have mrl:Mut ms' rl:=⟨_,zai q2,by exact List.mem_cons_self⟩
    have rln1:h1.get? rl=none:=by
     rcases ex.fresh rl mrl with q | q
     ·exfalso
      rcases mutms q with e | e | e
      ·exact k2.sto.apart 0 2 _ _ (by decide) q0 q2 rl (by rw[e]; exact List.mem_cons_self) (by exact List.mem_cons_self)
      ·exact k2.sto.apart 0 2 _ _ (by decide) q0 q2 rl (by rw[e]; exact List.mem_cons_of_mem _ (List.mem_cons_self ..)) (by exact List.mem_cons_self)
      ·exact k2.sto.apart 1 2 _ _ (by decide) q1 q2 rl (by rw[e]; exact List.mem_cons_self) (by exact List.mem_cons_self)
     ·exact q
    have rln:hh.get? rl=none:=by
     induction q:hh.get? rl using Option.casesOn with
     | none=>rfl
     | some o=>rw[st1 _ _ q] at rln1; exact zhy rln1
    have n1:rl≠x:=fun q=>by rw[q,gx] at rln1; exact zhy rln1
    have n2:rl≠dx:=fun q=>by rw[q,gd] at rln1; exact zhy rln1
    have keepO:∀ b o,hh.get? b=some o→b ∉ [la]→s'.heap.get? b=some o:=fun b o e hb=>ex.keep b o (st1 _ _ e) fun hb'=>by
     rcases mutms hb' with rfl | rfl | rfl
     ·rw[hxn] at e; exact zaA e
     ·rw[hdn] at e; exact zaA e
     ·exact hb (by exact List.mem_cons_self)
    have hset:σ.set nu (.list vs)=σ:=by
     apply List.ext_getElem?
     intro i
     by_cases q:nu=i
     ·subst q; rw[List.getElem?_set_self (List.getElem?_eq_some_iff.mp hσ).1,hσ]
     ·rw[List.getElem?_set_ne q]
    have So:Sto X m s'.heap σ:=by
     have:=k.sto.put (h':=s'.heap) (c:=.list vs) hpm keepO (fun b hb=>by
      have hb':b=la:=by exact(List.mem_singleton.mp hb)
      subst hb'
      exact((k2.sto.own _ (zai q1)).2 b (by trivial)).2) ⟨rfl,xs1,nn1,u2,u3.plain hpl⟩
     rw[hset] at this
     exact this
    have exo:Ext m m hh s'.heap:=⟨List.prefix_rfl,fun b o e hb=>keepO b o e fun q=>hb (by
     have q':b=la:=by exact(List.mem_singleton.mp q)
     subst q'; exact hlM),fun ua q=>.inl q⟩
    have ko:Ok X fs m σ s':=⟨k2.stays,k2.ff,k.prot,So⟩
    let q:Addr×List Addr:=(x,[x,dx,rl])
    have hqn:∀ b∈q.2,hh.get? b=none∧X.base.get? b=none∧∃ o,s'.heap.get? b=some o∧¬ zaL o:=fun b hb=>by
     have hb:b∈[x,dx,rl]:=hb
     simp only[List.mem_cons,List.not_mem_nil,or_false] at hb
     rcases hb with rfl | rfl | rfl
     ·exact⟨hxn,(k2.sto.own _ (zai q0)).2 _ (by exact List.mem_cons_self)⟩
     ·exact⟨hdn,(k2.sto.own _ (zai q0)).2 _ (by exact List.mem_cons_of_mem _ (List.mem_cons_self ..))⟩
     ·exact⟨rln,(k2.sto.own _ (zai q2)).2 _ (by exact List.mem_cons_self)⟩
    have cr:zf8 X (m++[q]) s'.heap q (.words (vs.map zb9)):=by
     refine⟨dx,rl,_,n',vs.map zb9,0,xs2,nn2,rfl,hne,n1,n2,w3,w4.two q2,v2,zjp (v3.plain hpl) htok,List.drop_zero,?_,by rw[zdU htok]; exact hle,by rw[List.length_map]; exact hlen,htk⟩
     intro q
     induction vs using List.casesOn with
     | nil=>exact(Bool.false_ne_true hle).elim
     | cons _ _=>exact zuo q
    have Sn:=So.adopt (q:=q) (c:=.words (vs.map zb9)) (by exact List.mem_cons_self) (fun b hb=>⟨nm b (hqn b hb).1,(hqn b hb).2⟩) cr
    have ex2:Ext m (m++[q]) hh s'.heap:=⟨List.prefix_append ..,exo.keep,fun b hb=>(Mut.push.mp hb).imp_right fun hb=>(hqn b hb).1⟩
    refine⟨_,_,rfl,m++[q],ex2,⟨ko.stays,ko.ff,fun en he L' hL hM=>?_,Sn⟩,y,?_⟩
    ·rcases Mut.push.mp hM with hM | hM
     ·exact ko.prot en he _ hL hM
     ·obtain⟨o,ho⟩:=za6 k.ff en he _ hL
      have ho:hh.get? L'=some o:=ho
      rw[(hqn L' hM).1] at ho; exact zaA ho
    ·exact .loc (p:=q) (by rw[← k.sto.len]; exact zdy _ _)
   | _=>exact z.elim
theorem zq4 (F:Facts X) (W:WFacts X) (G:ExcOK X) (hT:X.T=TB):PrimOK X true:=
 ⟨fun ua hf r e ra k l hfr hn=>zq3 F W G hT hf r e ra k l hfr hn,fun r k l hfr hn=>zoW F W G hT r k l hfr hn⟩
end
end
section
open W Calls PyProof.Rows
set_option tactic.hygienic true in
theorem ziG {K:Frag}{h:Heap}{a:Addr}{x:Str}{r:Option Value}{mm:Str→Option Value} (e:nsIn K a x=some r) (X:K.In h) (n:h.Ns a mm):mm x=r:=by
 refine zeC n fun o es ep ho hd ua hf=>?_
 refine IfO.out (P:=fun r=>mm x=r) ?_ e
 clear e n
 rw[← hf]
 delta nsIn
 generalize hl:K.lookup a=q
 induction q using Option.casesOn with
 | none=>exact True.intro
 | some ob=>
  have ee:=Option.some.inj ((X _ _ hl).symm.trans ho)
  subst ee
  obtain⟨oc,od,dt,osl⟩:=ob
  have hd:dt=_:=hd
  subst hd
  unfold nsFind findBy
  refine Array.find?_toList▸?_
  dsimp only
  generalize es.toList.find? _=q
  induction q using Option.casesOn with
  | some e=>exact rfl
  | none=>exact zc3 (fun ua=>True.intro) fun ua=>rfl
mutual
noncomputable def ziH (K:Frag) (F:Nat→Option Addr):V→Value→Bool
 | .none,.none=>true
 | .bool a,.bool b=>a == b
 | .int i,.int j _=>decide (i=j)
 | .str l,.str s _=>nm l s
 | .tup vs,.ref a=>match K.lookup a with
  | some ⟨c,none,.seq xs _,sl⟩=>(match c with
   | .type t=>t == "tuple"
   | _=>false)&&sl.isEmpty&&repsOK K F vs xs.toList
  | _=>false
 | .fn n,.ref a=>match F n with
  | some b=>Nat.beq a b
  | none=>false
 | _,_=>false
noncomputable def repsOK (K:Frag) (F:Nat→Option Addr):List V→List Value→Bool
 | [],[]=>true
 | v::vs,x::xs=>ziH K F v x&&repsOK K F vs xs
 | _,_=>false
end
section
variable {K:Frag}{F:Nat→Option Addr}{h:Heap} (X:K.In h)
include X
set_option tactic.hygienic true in
theorem zq5 {vs:List V}{a:Addr} (ih:∀ xs:List Value,repsOK K F vs xs=true→Reps F [] h xs vs):IfT (Rep F [] h (.ref a) (.tup vs)) (ziH K F (.tup vs) (.ref a)):=by
 show IfT _ (match K.lookup a with
  | some ⟨c,none,.seq xs _,sl⟩=>(match c with
   | .type t=>t == "tuple"
   | _=>false)&&sl.isEmpty&&repsOK K F vs xs.toList
  | _=>false)
 generalize hl:K.lookup a=q
 induction q using Option.casesOn with
 | none=>exact True.intro
 | some ob=>
  obtain⟨c,d,dt,sl⟩:=ob
  induction d using Option.casesOn with
  | some _=>exact True.intro
  | none=>
   induction dt using Data.casesOn with
   | seq xs n=>
    induction c using Value.casesOn with
    | type t=>
     refine .mk fun e=>B3 e fun e1 e2 e3=>?_
     have:=eq_of_beq e1
     subst this
     have hsl:sl=#[]:=Array.isEmpty_iff.mp e2
     subst hsl
     exact .tup (n:=n) (xs:=xs.toList) (X _ _ hl) (ih _ e3)
    | _=>exact True.intro
   | _=>exact True.intro
theorem zs9 {n:Nat}{a:Addr}:IfT (Rep F [] h (.ref a) (.fn n)) (ziH K F (.fn n) (.ref a)):=by
 refine .mk fun e=>?_
 have e:(match F n with
  | some b=>Nat.beq a b
  | none=>false)=true:=e
 induction hb:F n using Option.casesOn with
 | none=>replace e:=hb▸e; exact(Bool.false_ne_true e).elim
 | some b=>
  replace e:=hb▸e
  have:=Nat.eq_of_beq_eq_true e
  subst this
  exact .fn hb
mutual
theorem zf0:∀ (v:V) (x:Value),IfT (Rep F [] h x v) (ziH K F v x)
 | .none,x=>by
  induction x using PySem.Value.casesOn with
  | none=>exact .none
  | _=>exact True.intro
 | .bool a,x=>by
  induction x using PySem.Value.casesOn with
  | bool b=>exact .mk fun e=>by refine(eq_of_beq (show(a == b)=true from e)).symm▸?_; exact .bool _
  | _=>exact True.intro
 | .int i,x=>by
  induction x using PySem.Value.casesOn with
  | int j t=>exact .mk fun e=>by refine(of_decide_eq_true (show decide (i=j)=true from e)).symm▸?_; exact .int _ _
  | _=>exact True.intro
 | .str l,x=>by
  induction x using PySem.Value.casesOn with
  | str s t=>exact .mk fun e=>by refine(zdj.mp (show nm l s=true from e)).symm▸?_; exact .str _ _
  | _=>exact True.intro
 | .tup vs,x=>by
  have ih:=repsOK_spec vs
  induction x using PySem.Value.casesOn with
  | ref a=>exact zq5 X ih
  | _=>exact True.intro
 | .fn n,x=>by
  induction x using PySem.Value.casesOn with
  | ref a=>exact zs9 X
  | _=>exact True.intro
 | .any,x=>by induction x using PySem.Value.casesOn <;> exact True.intro
 | .loc _,x=>by induction x using PySem.Value.casesOn <;> exact True.intro
 | .rng _,x=>by induction x using PySem.Value.casesOn <;> exact True.intro
theorem repsOK_spec:∀ (vs:List V) (xs:List Value),repsOK K F vs xs=true→Reps F [] h xs vs
 | [],[],_=>.nil
 | v::vs,x::xs,e=>by
  have e:(ziH K F v x&&repsOK K F vs xs)=true:=e
  refine zaW (Bool.and_eq_true_iff.mp e) fun a b=>?_
  exact .cons ((zf0 v x).out a) (repsOK_spec vs xs b)
 | [],_::_,e=>nomatch e
 | _::_,[],e=>nomatch e
end
theorem zgS {v:V}{x:Value} (e:ziH K F v x=true):Rep F [] h x v:=(zf0 X v x).out e
end
noncomputable def zkg (K:Frag) (F:Nat→Option Addr):List (List Nat×V)→List DictEntry→Bool
 | [],[]=>true
 | p::kvs,e::es=>(match e.key with
  | .str s _=>nm p.1 s
  | _=>false)&&ziH K F p.2 e.val&&zkg K F kvs es
 | _,_=>false
theorem zuk {k:List Nat}{v:Value} (h:(match v with
  | .str s _=>nm k s
  | _=>false)=true):∃ t,v=.str (zaa k) t:=by
 refine IfT.out ?_ h
 clear h
 induction v using Value.casesOn with
 | str s t=>exact .mk fun h=>⟨t,congrArg (Value.str · t) (zdj.mp h)⟩
 | _=>exact True.intro
set_option tactic.hygienic true in
theorem zf1 {X:Stat}{h:Heap} (Y:X.K.In h):∀ {kvs:List (List Nat×V)}{es:List DictEntry},zkg X.K X.F kvs es=true→zlj X [] h es kvs
 | [],[],_=>trivial
 | (k,v)::kvs,e::es,q=>by
  exact B3 q fun q1 q2 q3=>⟨⟨zuk q1,zgS Y q2⟩,zf1 Y q3⟩
 | [],_::_,e=>nomatch e
 | _::_,[],e=>nomatch e

noncomputable def znd (n:Nat):Option Addr:=(TB.fns[n]?).map (·.addr)
noncomputable def ziI (o:Option (Option Value)) (a:Addr):Bool:=match o with
 | some (some (.ref b))=>Nat.beq b a
 | _=>false
noncomputable def zcZ (o:Option (Option Value)):Bool:=match o with
 | some none=>true
 | _=>false
theorem zcf {o:Option (Option Value)}{a:Addr} (h:ziI o a=true):o=some (some (.ref a)):=by
 refine IfT.out ?_ h
 clear h
 induction o using Option.casesOn with
 | none=>exact True.intro
 | some o=>
  induction o using Option.casesOn with
  | none=>exact True.intro
  | some v=>
   induction v using Value.casesOn with
   | ref b=>exact .mk fun h=>congrArg (fun b=>some (some (Value.ref b))) (Nat.eq_of_beq_eq_true h)
   | _=>exact True.intro
theorem zba {o:Option (Option Value)} (h:zcZ o=true):o=some none:=by
 refine IfT.out ?_ h
 clear h
 induction o using Option.casesOn with
 | none=>exact True.intro
 | some o=>
  induction o using Option.casesOn with
  | none=>exact .mk fun ua=>rfl
  | some _=>exact True.intro
noncomputable def zul:List BI:=[.len,.min,.max,.int,.str,.tuple,.list]
noncomputable def zum:List TY:=[.tuple,.str,.int,.bool]

noncomputable def zta (K:Frag):Bool:=TB.fns.all fun f=>zrh TB K f
noncomputable def ztb (K:Frag):Bool:=(TB.fns.drop 7).all fun f=>ziI (nsIn K mainGlobals (zaa f.name)) f.addr
noncomputable def ztc (o:Option (Option Value)):Option Addr:=(o.bind id).bind rfV
theorem zq6 {o:Option (Option Value)}{a:Addr} (h:ztc o=some a):o=some (some (.ref a)):=by
 induction o using Option.casesOn with
 | none=>exact zaA h
 | some v=>induction v using Option.casesOn with
  | none=>exact zaA h
  | some v=>exact congrArg (fun v=>some (some v)) (zrF h)
noncomputable def ztd (K:Frag):Bool:=TB.globs.all fun p=>((nsIn K mainGlobals (zaa p.1)).bind id).any (ziH K znd p.2)
noncomputable def zte (K:Frag) (kvs:List (List Nat×V)):Obj→Bool
 | ⟨.type t,none,.dict es _,_⟩=>(t == "dict")&&zkg K znd kvs es.toList
 | _=>false
theorem zq7 {K:Frag}{kvs:List (List Nat×V)}{o:Obj} (h:zte K kvs o=true):∃ es n sl,o=⟨.type "dict",none,.dict es n,sl⟩∧zkg K znd kvs es.toList=true:=by
 refine IfT.out ?_ h
 clear h
 obtain⟨c,d,dt,sl⟩:=o
 induction c using Value.casesOn with
 | type t=>
  induction d using Option.casesOn with
  | none=>
   induction dt using Data.casesOn with
   | dict es n=>exact .mk fun h=>B2 h fun q1 q2=>⟨es,n,sl,congrArg (fun t=>Obj.mk (.type t) none (.dict es n) sl) (eq_of_beq q1),q2⟩
   | _=>exact True.intro
  | some _=>exact True.intro
 | _=>exact True.intro
noncomputable def ztf (K:Frag):Bool:=TB.dicts.all fun p=>(ztc (nsIn K mainGlobals (zaa p.1))).any fun a=>!Nat.beq a 1&&(K.lookup a).any (zte K p.2)
noncomputable def zq8 (K:Frag):Bool:=(zul.all fun b=>zcZ (nsIn K mainGlobals (zaa (zhF b))))&&(zum.all fun b=>zcZ (nsIn K mainGlobals (zaa (zhG b)))) &&
 zcZ (nsIn K mainGlobals (zaa zb3))&&zcZ (nsIn K mainGlobals (zaa zfq))&&zcZ (nsIn K mainGlobals "Exception")
noncomputable def ztg (K:Frag) (W G:Addr):Bool:=ziI (nsIn K mainGlobals (zaa zgY)) W&&ziI (nsIn K mainGlobals (zaa zpJ)) G

noncomputable def ziJ (prog:Program) (w:World) (K:Frag) (mg mb:Str→Option Value) (base:Heap):Stat:=⟨prog,w,K,prog,[],mg,mb,base,TB,193,57⟩
section
variable {prog:Program}{w:World}{K:Frag}{mg mb:Str→Option Value}{base:Heap}
set_option tactic.hygienic true in
theorem zoX (inK:K.In base) (hg:base.Ns mainGlobals mg) (hb:base.Ns builtinsNs mb) (lim:base.NoLimit) (sysm:base.get? sysModules≠none)
  (bt:∀ x:Str,x ≠ "__name__" → mb x=bootBuiltins x) (h1:zta K=true) (h2:ztb K=true) (h3:ztd K=true) (h4:ztf K=true) (h5:zq8 K=true) (h6:ztg K 193 57=true):Facts (ziJ prog w K mg mb base):=by
 have m0:∀ {x:Str},zcZ (nsIn K mainGlobals x)=true→mg x=none:=fun h=>ziG (zba h) inK hg
 refine B5 h5 fun b1 b2 b3 b4 ua=>B2 h6 fun c1 c2=>?_
 refine⟨inK,hg,hb,lim,sysm,fun n fn e=>List.all_eq_true.mp h1 fn (List.mem_of_getElem? e),fun n fn hn e=>?_,fun n p e=>?_,fun n p e=>?_,fun b=>⟨m0 (List.all_eq_true.mp b1 b ?_),?_⟩,fun t=>⟨m0 (List.all_eq_true.mp b2 t ?_),?_⟩,⟨m0 b3,?_⟩,⟨m0 b4,?_⟩,ziG (zcf c1) inK hg,ziG (zcf c2) inK hg⟩
 ·have hm:fn∈TB.fns.drop 7:=List.mem_of_getElem? (i:=n-7) (by rw[List.getElem?_drop,Nat.add_sub_cancel' hn]; exact e)
  exact ziG (zcf (List.all_eq_true.mp h2 fn hm)) inK hg
 ·refine zao (zf4 (List.all_eq_true.mp h3 p (List.mem_of_getElem? e))) fun v hv h=>⟨v,ziG ?_ inK hg,zgS inK h⟩
  exact zao (Option.bind_eq_some_iff.mp hv) fun a ha hb=>ha.trans (congrArg some hb)
 ·refine zao (zf4 (List.all_eq_true.mp h4 p (List.mem_of_getElem? e))) fun a hv h=>B2 h fun q1 h=>zao (zf4 h) fun o hl h=>zgT (zq7 h) fun es n' sl eo h=>?_
  have ho:=inK _ _ (hl.trans (congrArg some eo))
  exact⟨a,ziG (zq6 hv) inK hg,⟨⟨_,es,n',ho,rfl,rfl,zf1 (X:=ziJ prog w K mg mb base) inK h⟩,beq_eq_false_iff_ne.mpr fun q=>zrm (q▸zpa q1:Nat.beq sysModules 1=false)⟩,_,ho,rfl⟩
 ·induction b using BI.casesOn <;> (repeat first | exact .head _ | refine .tail _ ?_)
 ·refine(bt _ ?_).trans ?_
  ·induction b using BI.casesOn <;> decide +kernel
  ·induction b using BI.casesOn <;> kernel_rfl
 ·induction t using TY.casesOn <;> (repeat first | exact .head _ | refine .tail _ ?_)
 ·refine(bt _ ?_).trans ?_
  ·induction t using TY.casesOn <;> decide +kernel
  ·induction t using TY.casesOn <;> kernel_rfl
 ·exact(bt _ (by decide +kernel)).trans (by kernel_rfl)
 ·exact(bt _ (by decide +kernel)).trans (by kernel_rfl)
end
end
section
open W Calls PyProof.Rows
noncomputable def zaD:List Nat:=[115,99,114,105,112,116]
noncomputable def zcB (K:Frag) (a:Addr) (ns:List (List Nat)):Bool:=match K.lookup a with
 | some ⟨_,_,.func fd,_⟩=>ns.all fun x=>(match fd.scope.names.lookup (zaa x) with
  | some .local=>true
  | _=>false)
 | _=>false
section
variable {X:Stat}{fs:List PySem.Env}{m:AM}{σ:List C}{s:Shared}{A:Around}{R:Result→Shared→Prop}
theorem zpy {fn:Fn}{vals:List Value}{ρ0:Env} (F:Facts X) {f:Nat} (hf:X.T.fns[f]?=some fn) (k:Ok X fs m σ s) (hroom:A.depth < recursionLimit) (hlen:vals.length=fn.params) (hl0:ρ0.length=fn.params)
  (hv0:∀ (i:Nat) (v:V),ρ0[i]?=some (some v)→∃ val,vals[i]?=some val∧Rep X.F m s.heap val v) {ns:List (List Nat)} (hscr:zcB X.K fn.addr ns=true) (hsn:zaD∈ns) (hs0:fn.vars[0]?=some zaD)
  (h:∀ b env s',okSs X.T fn.vars env.scope fn.body b=true→Sit X (env::fs) fn.vars env m s (ρ0++List.replicate (fn.vars.length-fn.params) none) σ m s'→env.frame=some env.locals →
   (∀ x∈ns,env.scope.names.lookup (zaa x)=some .local)→(∃ lm,s'.heap.Ns env.locals lm∧∀ val,vals[0]?=some val→lm (zaa zaD)=some val) →
   wpAny (model X.prog X.w) (A.deeper env) (execs b env) (fun f s'=>R (.ok (.ret (match f with | .ret v=>v | _=>.none))) s')
   (fun e s'=>wpAny (model X.prog X.w) (A.deeper env) (leaving env e) (fun ua s''=>R (.error e) s'') (fun e' s''=>R (.error e') s'') s') s') :
  codeAny (model X.prog X.w) A (.call (.ref fn.addr) ⟨vals,[]⟩) R s:=by
 refine zph F hf k hroom (Nat.le_of_eq hlen) (by rw[hlen,Nat.sub_self]; exact Nat.zero_le _) hl0 (fun dfl ua i v hi=>?_) fun b env s' hok S hfe hx hl=>?_
 ·refine zao (hv0 i v hi) fun val e r=>?_
  refine zc1 val ?_ r
  refine(List.getElem?_append_left (List.getElem?_eq_some_iff.mp e).1).symm▸?_
  exact e
 ·refine bc fun hN=>?_
  refine zc0 hx ?_
  clear hx
  intro o fd h1 h2 h3
  refine zaZ hl ?_
  clear hl
  intro dfl lm h4 h5
  have hsl:∀ x∈ns,env.scope.names.lookup (zaa x)=some .local:=by
   refine h3.symm▸?_
   obtain⟨oc,od,oda,osl⟩:=o
   subst h2
   unfold zcB at hscr
   replace hscr:=h1▸hscr
   dsimp only at hscr
   intro x hx
   have:=List.all_eq_true.mp hscr x hx
   split at this
   ·assumption
   ·exact(Bool.false_ne_true this).elim
  refine hN ?_
  refine h b env s' hok S hfe hsl ⟨lm,h4,fun val hval=>?_⟩
  have hp:=(List.getElem?_eq_some_iff.mp hval).1
  exact h5 0 zaD val (hsl _ hsn) (hlen▸hp) hs0 (by refine(List.getElem?_append_left hp).symm▸?_; exact hval)
end
end
section
open W Calls PyProof.Rows
theorem zdK {T:Tab}{vars:List (List Nat)}{sc:Scope}{st:S}{b:Ss}{pb:List Stmt} (h:okSs T vars sc (.cons st b) pb=true):∃ ps pss,pb=ps::pss∧okS T vars sc st ps=true∧okSs T vars sc b pss=true:=by
 induction pb using List.casesOn with
 | nil=>exact(Bool.false_ne_true h).elim
 | cons ps pss=>
  obtain⟨q1,q2⟩:=Bool.and_eq_true_iff.mp (show(okS T vars sc st ps&&okSs T vars sc b pss)=true from h)
  exact zki ps pss rfl q1 q2
theorem zjq {T:Tab}{vars:List (List Nat)}{sc:Scope}{i:Nat}{e:E}{ps:Stmt} (hok:okS T vars sc (.asg i e) ps=true):∃ x np pe p,ps=.Assign [.Name x np] pe p∧zdl vars sc i x=true∧okE T vars sc e pe=true:=
 let ⟨x,np,pe,p,a,b,c,_⟩:=zpb hok
 ⟨x,np,pe,p,a,b,c⟩
theorem zq9 {T:Tab}{vars:List (List Nat)}{sc:Scope}{pe:Expr} (h:okE T vars sc (.c (.int 0)) pe=true):(∃ n p,pe=.Constant (.int 0) n p)∨∃ j n p q,pe=.UnaryOp .USub (.Constant (.int j) n p) q∧(0:Int) = -j:=by
 rcases zlE h with ⟨c,n,p,rfl,hc⟩ | ⟨i,j,n,p,q,e,rfl,hij⟩
 ·induction c using PySem.Const.casesOn <;> first | (exact(Bool.false_ne_true hc).elim; done) | skip
  have hc:decide (_=_)=true:=hc
  have:=of_decide_eq_true hc
  subst this
  exact .inl ⟨_,_,rfl⟩
 ·cases e
  exact .inr ⟨j,n,p,q,rfl,hij⟩

noncomputable def zgh (env:PySem.Env) (h:Heap) (a:Addr):Prop:=∃ lm,h.Ns env.locals lm∧lm (zaa zaD)=some (.ref a)
theorem zgh.ext {env:PySem.Env}{h h':Heap}{a:Addr} (x:zgh env h a) (k:∀ o,h.get? env.locals=some o→h'.get? env.locals=some o):zgh env h' a:=by
 refine bc fun hN=>?_
 refine zao x ?_
 clear x
 intro lm nn0 e
 refine zgT nn0 ?_
 clear nn0
 intro o es ep g1 g2
 refine hN ?_
 exact zc1 lm (⟨o,es,ep,k _ g1,g2⟩) e
section
variable {X:Stat}{fs:List PySem.Env}{m:AM}{σ:List C}{s:Shared}{A:Around}{env:PySem.Env}{vars:List (List Nat)}{ρ:Env}{m₀:AM}{s₀:Shared}
theorem zhw {a:Addr} (e:EnvOK X vars env ρ m s.heap) (hl:env.scope.names.lookup (zaa zaD)=some .local) (x:zgh env s.heap a) {nx:Str}{p:Pos} (hx:nx=zaa zaD) {M:Model}{E:Value→Shared→Prop}{Q:Value→Shared→Prop} (h:Q (.ref a) s) :
  wpAny M A (eval (.Name nx p) env) Q E s:=by
 subst hx
 refine zao x ?_
 clear x
 intro lm ns hv
 exact wpAny_Name (wpAny_loadName_local e.kind hl ns hv h) (by decide +kernel)
theorem zne {a:Addr} (S:Sit X fs vars env m₀ s₀ ρ σ m s) (x:zgh env s.heap a) {i:Nat}{y:Str} (hx:zdl vars env.scope i y=true) (hk:env.scope.names.lookup y=some .local) (hne:y≠zaa zaD) {val:Value}{v:V} (r:Rep X.F m s.heap val v) {M:Model}{E:Value→Shared→Prop}{Q:Unit→Shared→Prop}
  (hq:∀ s',Sit X fs vars env m₀ s₀ (ρ.set i (some v)) σ m s'→zgh env s'.heap a→Q () s'):wpAny M A (storeName env y val) Q E s:=by
 refine zb8 (zbQ hx) fun l hl ee0 ua=>?_
 subst ee0
 refine zao x ?_
 clear x
 intro lm hns hscr
 exact zhX S hl hk r fun s' S' ua ub hn=>hq s' S' ⟨_,hn lm hns,by refine(if_neg (Ne.symm hne)).symm▸?_; exact hscr⟩
end

structure IsScr (X:Stat) (a:Addr) (xs:Array Value):Prop where
 list:X.base.IsList a xs
 small:xs.size≤100
 first:∀ x,xs[0]?=some x→∃ i t,x=.int i t

section
variable {X:Stat} (F:Facts X) (W:WFacts X) (P:PrimOK X true) (G:ExcOK X) (hT:X.T=TB) {a:Addr}{xs:Array Value} (Z:IsScr X a xs)
include F W P G hT Z
omit F W P G hT Z in
theorem znf {vars:List (List Nat)}{sc:Scope}{i:Nat}{l:List Nat}{x:Str} (h:vars[i]?=some l) (d:((match vars[i]? with
  | some l=>nm l x
  | none=>false)&&zgW sc x&&zc4 x)=true):x=zaa l:=by
 rw[h] at d
 exact zdj.mp (Bool.and_eq_true_iff.mp (Bool.and_eq_true_iff.mp d).1).1
omit F W P G hT Z in
theorem ziK {T:Tab}{vars:List (List Nat)}{sc:Scope}{l:List Stmt} (h:okSs T vars sc .nil l=true):l=[]:=by
 induction l using List.casesOn with
 | nil=>rfl
 | cons _ _=>exact(Bool.false_ne_true h).elim
section
variable {fs:List PySem.Env}{s s3:Shared}{A:Around}{n:Nat}{env:PySem.Env}{Q:Flow→Shared→Prop}{E:Value→Shared→Prop}{r2:List Stmt}
omit W P G hT in
theorem zng {c:Int} (S5:Sit X fs zaq.vars env [] s [none,some (.int 0),some (.int c),none,none] [] [] s3) (x4:zgh env s3.heap a) (hsl:env.scope.names.lookup (zaa zaD)=some .local) {b:List Stmt}
  (q2:okSs X.T zaq.vars env.scope (.cons (.asg 2 (.sub (.x 0) (.x 1))) .nil) b=true) (hlt:0 < xs.size)
  (fin:∀ (cell:Int) (s2:Shared),Sit X fs zaq.vars env [] s [none,some (.int 0),some (.int cell),none,none] [] [] s2→Q .next s2) :
  wpAny (model X.prog X.w) A (execs b env) Q E s3:=by
 have bl:s3.heap.IsList a xs:=by
  refine zao Z.list fun o ho r=>?_
  exact zc1 o (S5.ok.stays _ _ ho) r
 refine zc0 (zdK q2) fun ps3 r3 ee0 o3 o4=>?_
 subst ee0
 obtain rfl:=ziK o4
 refine zld (zjq o3) fun y3 np3 pe3 p3 ee0 v1' v2'=>?_
 subst ee0
 refine zeC (zlI v2') fun vv sl sp ee0 b1 b2 b3=>?_
 subst ee0
 refine zaZ (zf9 b1) fun x3' xp3 ee0 d3=>?_
 subst ee0
 refine zaZ (zf9 b2) fun x4' xp4 ee0 d4=>?_
 subst ee0
 refine zkh (Z.first xs[0] (Array.getElem?_eq_getElem hlt)) fun i0 t0 hi0=>?_
 refine wpAny_execs_cons (wpAny_Assign_Name (Subscript_ (zhw S5.eok hsl x4 (znf (vars:=zaq.vars) (i:=0) rfl d3) (zg2 S5.eok (i:=1) (v:=.int 0) rfl d4 fun v4 r4=>?_))) (zaX rfl))
 refine zaF r4.inv fun t4 ee0=>?_
 subst ee0
 refine tail_any (T:="list") (by refine zb8 bl ?_; clear bl; intro o ho hc _; exact zc1 o ho hc) PySem.F.slot_list_getitem.lookup ?_ (zhN b3 _ _)
 refine wpAny_getItem_list bl (by decide) (by decide) (Array.getElem?_eq_getElem hlt) ?_
 refine hi0.symm▸?_
 exact zbR S5 v1' (.int i0 t0) fun s6 S6 ua ub=>wpAny_execs_nil (fin i0 _ S6)
omit W P G hT in
theorem zra (S3:Sit X fs zaq.vars env [] s [none,some (.int 0),some (.int 0),none,none] [] [] s3) (x3:zgh env s3.heap a) (hsl:env.scope.names.lookup (zaa zaD)=some .local) (l':Lim true A n) {ps2:Stmt}
  (o2:okS X.T zaq.vars env.scope (.ite (.cmp .Lt (.x 1) (.bi .len (.cons (.x 0) .nil))) (.cons (.asg 2 (.sub (.x 0) (.x 1))) .nil) .nil) ps2=true)
  (fin:∀ (cell:Int) (s2:Shared),Sit X fs zaq.vars env [] s [none,some (.int 0),some (.int cell),none,none] [] [] s2→wpAny (model X.prog X.w) A (execs r2 env) Q E s2) :
  wpAny (model X.prog X.w) A (execs (ps2::r2) env) Q E s3:=by
 refine zo1 (zpc o2) fun tt bb oo pp ee0 q1 q2 q3=>?_
 subst ee0
 obtain rfl:=ziK q3
 refine zeC (ziR q1) fun lx rx pc ee0 c1 c2 c3=>?_
 subst ee0
 refine zaZ (zf9 c1) fun x1 xp1 ee0 d1=>?_
 subst ee0
 refine zeC (zo8 c2) fun g args cp ee0 g1 g2 ua=>?_
 subst ee0
 refine ziL (zbX g2) fun ax ar ee0 a1 a2 a3=>?_
 subst ee0
 obtain rfl:=zd2 a3
 refine zaZ (zf9 a1) fun x2' xp2 ee0 d2=>?_
 subst ee0
 have bl:s3.heap.IsList a xs:=by
  refine zao Z.list fun o ho r=>?_
  exact zc1 o (S3.ok.stays _ _ ho) r
 refine wpAny_execs_cons (wpAny_If (wpAny_isTrue_Compare1 (zg2 S3.eok (i:=1) (v:=.int 0) rfl d1 fun v1 r1=>?_) c3))
 refine zbw (zbY g1) (zaY g2) (zcM S3.ok F S3.eok g1 (F.bi .len) ?_)
 refine zau (zjC .len) (spliced_cons (zhw S3.eok hsl x3 (znf (vars:=zaq.vars) (i:=0) rfl d2) (spliced_nil ⟨trivial,?_⟩)))
 refine call_len_list bl (by have:=Z.small; omega) ?_
 have S4:=S3.stay (h':=s3.heap) (fun ua ub e=>e) (s3.toks+1+1)
 refine zeF S4.ok F.sysm (by have:=l'.units; show A.units+100 < 9900; omega) r1 (Rep.int (xs.size:Int) (s3.toks+1)) (r:=decide ((0:Int) < xs.size)) (op:=.Lt) rfl fun tk=>wpAny_truthy_bool ?_
 have S5:=S3.stay (h':=s3.heap) (fun ua ub e=>e) tk
 by_cases hz:(0:Int) < xs.size
 ·rw[decide_eq_true hz,if_pos rfl]
  exact zng F Z S5 x3 hsl q2 (Int.ofNat_lt.mp hz) fin
 ·rw[decide_eq_false hz,if_neg (by decide)]
  exact wpAny_execs_nil (fin 0 _ S5)
omit hT in
theorem znh {lo:Lo} (L0:LoOK X lo true n) (S:Sit X fs zaq.vars env [] s [none,some (.int 0),none,none,none] [] [] s3) (x0:zgh env s3.heap a) (hloc:∀ x∈[zaD,[99,101,108,108]],env.scope.names.lookup (zaa x)=some .local) (l':Lim true A n) (hfr:A.frames=some fs) {ps1 ps2:Stmt}
  (o1:okS X.T zaq.vars env.scope (.asg 2 (.c (.int 0))) ps1=true)
  (o2:okS X.T zaq.vars env.scope (.ite (.cmp .Lt (.x 1) (.bi .len (.cons (.x 0) .nil))) (.cons (.asg 2 (.sub (.x 0) (.x 1))) .nil) .nil) ps2=true)
  (fin:∀ (cell:Int) (s2:Shared),Sit X fs zaq.vars env [] s [none,some (.int 0),some (.int cell),none,none] [] [] s2→wpAny (model X.prog X.w) A (execs r2 env) Q E s2) :
  wpAny (model X.prog X.w) A (execs (ps1::ps2::r2) env) Q E s3:=by
 have hsl:=hloc zaD (List.mem_cons_self ..)
 refine zld (zjq o1) fun y1 np1 pe1 p1 ee0 w1 w2=>?_
 subst ee0
 have hy1:y1=zaa [99,101,108,108]:=by
  refine zb8 (zbQ w1) fun l hl e ua=>?_
  have ee:=Option.some.inj hl
  clear hl
  subst ee
  exact e
 have hk1:env.scope.names.lookup y1=some .local:=by refine hy1.symm▸?_; exact hloc _ (List.mem_cons_of_mem _ (List.mem_cons_self ..))
 have hne1:y1≠zaa zaD:=by refine hy1.symm▸?_; decide
 have hcomp:zdc pe1=false:=by rcases zq9 w2 with ⟨_,_,rfl⟩ | ⟨_,_,_,_,rfl,_⟩ <;> rfl
 refine wpAny_execs_cons (wpAny_Assign_Name (wpAny_mono ((zbM F L0 W P (.c (.int 0))).1 w2 (S.begin l' hfr) (zdp _ _)) (fun v s2 hv=>?_) fun x s2 hx=>nomatch hx.1) (zaX hcomp))
 refine zaZ hv ?_
 clear hv
 intro v' σ' e rst
 refine zfl rst ?_
 clear rst
 intro m' ex k2 y rv
 refine zaW (R.ok.inj e) fun ee ff=>?_
 clear e
 subst ee
 subst ff
 have hm:m'=[]:=List.eq_nil_of_length_eq_zero k2.sto.len
 subst hm
 exact zne (S.on ex k2 y) (x0.ext fun o h=>ex.keep _ o h S.eok.lnm) w1 hk1 hne1 rv fun s3 S3 x3=>zra F Z S3 x3 hsl l' o2 fin
end
theorem zk8 {fs:List PySem.Env}{s:Shared}{A:Around}{n:Nat} (k:Ok X fs [] [] s) (l:Lim true A (n+2)) (hfr:A.frames=some fs) (hscr:zcB X.K 728 [zaD,[99,101,108,108]]=true) (t:Tok) :
  codeAny (model X.prog X.w) A (.call (.ref 728) ⟨[.ref a,.int 0 t],[]⟩) (fun res s'=>∃ c,SC c∧PC X fs [] s (.ok (.loc 0) [c]) res s') s:=by
 have hf:X.T.fns[61]?=some zaq:=by refine hT.symm▸?_; rfl
 have L:=zkK (prim:=true) F W P G (n+1)
 refine zpy (fn:=zaq) (ρ0:=[none,some (.int 0)]) F hf k (zud l) rfl rfl (fun i v h=>?_) hscr (by trivial) rfl fun b env s1 hok S hfe hloc hlm=>?_
 ·induction i using Nat.casesOn with
  | zero=>cases h
  | succ i=>
   induction i using Nat.casesOn with
   | zero=>cases h; exact zc1 _ rfl (.int _ _)
   | succ i=>exact zaA h
 obtain⟨lm,hns,hlm⟩:=hlm
 have hok:okSs X.T zaq.vars env.scope (.cons (.asg 2 (.c (.int 0))) (.cons (.ite (.cmp .Lt (.x 1) (.bi .len (.cons (.x 0) .nil))) (.cons (.asg 2 (.sub (.x 0) (.x 1))) .nil) .nil) zhu)) b=true:=hok
 obtain⟨ps1,r1,rfl,o1,hok⟩:=zdK hok
 obtain⟨ps2,r2,rfl,o2,hok⟩:=zdK hok
 have hfr':(A.deeper env).frames=some (env::fs):=Around.frames_deeper hfr
 refine znh F W P G Z L S ⟨lm,hns,hlm _ rfl⟩ hloc l.deeper hfr' o1 o2 fun cell s2 S2=>?_
 refine zao (zm7 (ev X.T true (n+1)) cell) fun c hc rst=>?_
 refine zaF rst ?_
 clear rst
 intro ρ' hr
 replace hr:=hT.symm▸hr
 refine wpAny_mono (allSs F L W P G zhu hok S2 l.deeper hfr' rfl hfe (by refine hr.symm▸?_; exact fun h=>nomatch h)) (fun fl s3 hps=>?_) fun e s3 hpx=>?_
 ·replace hps:=hr▸hps
  refine Or.elim hps ?_ ?_
  clear hps
  intro nm
  refine zld nm ?_
  clear nm
  intro fl' ρ2 σ2 m2 e1 S3 e2
  rotate_left
  clear hps
  intro nm
  refine zao nm ?_
  clear nm
  intro b e1 _
  rotate_left
  ·cases e1
   obtain⟨val,rfl,rv⟩:=(show ∃ val,fl=.ret val∧_ from e2)
   exact⟨c,hc,_,_,rfl,m2,S3.ext,S3.ok.outer,S3.same,rv⟩
  ·exact noI R.ctorIdx e1 rfl
 ·replace hpx:=hr▸hpx
  cases hpx.1
section
variable {fs:List PySem.Env}{s s1:Shared}{A:Around}{env:PySem.Env}{Q:Flow→Shared→Prop}{E:Value→Shared→Prop}{r1:List Stmt}
theorem zoY (S:Sit X fs zgb.vars env [] s [none,none,none,none] [] [] s1) (x0:zgh env s1.heap a) (hsl:env.scope.names.lookup (zaa zaD)=some .local) (l50:Lim true A 50) (hfr:A.frames=some fs) (hscr:zcB X.K 728 [zaD,[99,101,108,108]]=true) {ps1:Stmt}
  (o1:okS X.T zgb.vars env.scope (.asg 1 (.call 61 (.cons (.x 0) (.cons (.c (.int 0)) .nil)))) ps1=true)
  (fin:∀ (c:C) (m3:AM) (s4:Shared),SC c→Sit X fs zgb.vars env [] s [none,some (.loc 0),none,none] [c] m3 s4→wpAny (model X.prog X.w) A (execs r1 env) Q E s4) :
  wpAny (model X.prog X.w) A (execs (ps1::r1) env) Q E s1:=by
 have L:=zkK (prim:=true) F W P G 50
 refine zld (zjq o1) fun y1 np1 pe1 p1 ee0 w1 w2=>?_
 subst ee0
 refine ztq (zg3 w2) fun g args cp fn ee0 c1 c2 c3 c4 ua=>?_
 subst ee0
 have hfn:fn=zaq:=by
  have:X.T.fns[61]?=some zaq:=by refine hT.symm▸?_; rfl
  exact Option.some.inj (c1.symm.trans this)
 subst hfn
 refine ziL (zbX c4) fun ax ar ee0 a1 a2 a3=>?_
 subst ee0
 refine ziL (zbX a3) fun bx br ee0 b1 b2 b3=>?_
 subst ee0
 obtain rfl:=zd2 b3
 refine zaZ (zf9 a1) fun x1 xp1 ee0 d1=>?_
 subst ee0
 refine wpAny_execs_cons (wpAny_Assign_Name (zbw (zbY c2) (zaY c4) (zcL S.ok F S.eok c2 (F.fnG 61 zaq (by decide) c1) ?_)) (zaX rfl))
 refine zau (keeps_K (zlY F c1)) (spliced_cons (zhw S.eok hsl x0 (znf (vars:=zgb.vars) (i:=0) rfl d1) (spliced_cons ?_)))
 refine wpAny_mono ((zbM F L W P (.c (.int 0))).1 b1 (S.begin l50 hfr) (zdp _ _)) (fun v s2 hv=>?_) fun x s2 hx=>nomatch hx.1
 refine zaZ hv ?_
 clear hv
 intro v' σ' e rst
 refine zfl rst ?_
 clear rst
 intro m' ex k2 y rv
 refine zaW (R.ok.inj e) fun ee ff=>?_
 clear e
 subst ee
 subst ff
 have hm:m'=[]:=List.eq_nil_of_length_eq_zero k2.sto.len
 subst hm
 obtain⟨t,rfl⟩:=rv.inv
 refine spliced_nil ⟨k2.kin F,?_⟩
 have S2:=S.on ex k2 y
 refine wpAny_call (codeAny_mono (zk8 F W P G hT Z k2 (n:=48) l50 hfr hscr _) fun res s3 z=>?_)
 refine zao z ?_
 clear z
 intro c hc z
 induction res using Except.casesOn with
 | error e=>exact nomatch z.1
 | ok fl=>induction fl using PySem.Flow.casesOn with
  | ret v3=>
   refine zaZ z ?_
   clear z
   intro v' σ' e rst
   refine zfl rst ?_
   clear rst
   intro m3 ex3 k3 y3 rv3
   refine zaW (R.ok.inj e) fun ee ff=>?_
   clear e
   subst ee
   subst ff
   exact zbR (S2.on ex3 k3 y3) w1 rv3 fun s4 S4 ua ub=>fin c m3 s4 hc S4
  | _=>exact z.elim
end
theorem zni {fs:List PySem.Env}{s:Shared}{A:Around} (k:Ok X fs [] [] s) (l:Lim true A 52) (hfr:A.frames=some fs) (hscr:zcB X.K 728 [zaD,[99,101,108,108]]=true) (hscr2:zcB X.K 816 [zaD]=true) :
  codeAny (model X.prog X.w) A (.call (.ref 816) ⟨[.ref a],[]⟩) (fun res s'=>res=.ok (.ret (.bool true))∧X.base.StaysIn s'.heap∧zc2 s s') s:=by
 have hf:X.T.fns[75]?=some zgb:=by refine hT.symm▸?_; rfl
 refine zpy (fn:=zgb) (ρ0:=[none]) F hf k (zud l) rfl rfl (fun i v h=>?_) hscr2 (by trivial) rfl fun b env s1 hok S hfe hloc hlm=>?_
 ·induction i using Nat.casesOn with
  | zero=>cases h
  | succ i=>exact zaA h
 refine zao hlm ?_
 clear hlm
 intro lm hns hlm
 have hok:okSs X.T zgb.vars env.scope (.cons (.asg 1 (.call 61 (.cons (.x 0) (.cons (.c (.int 0)) .nil)))) zfZ) b=true:=hok
 refine zc0 (zdK hok) fun ps1 r1 ee0 o1 hok2=>?_
 subst ee0
 have l':Lim true (A.deeper env) 51:=l.deeper
 have l50:Lim true (A.deeper env) 50:=l'.down
 have hfr':(A.deeper env).frames=some (env::fs):=Around.frames_deeper hfr
 refine zoY F W P G hT Z S ⟨lm,hns,hlm _ rfl⟩ (hloc zaD (List.mem_cons_self ..)) l50 hfr' hscr o1 fun c m3 s4 hc S4=>?_
 have hr':evSs X.T true (ev X.T true 50) zfZ [none,some (.loc 0),none,none] [c]=.fin (.bool true):=by refine hT.symm▸?_; exact zoS 0 hc
 refine wpAny_mono (allSs F (zkK (prim:=true) F W P G 50) W P G zfZ hok2 S4 l50 hfr' rfl hfe (by refine hr'.symm▸?_; exact fun h=>nomatch h)) (fun fl s5 hps=>?_) fun e s5 hpx=>?_
 ·replace hps:=hr'▸hps
  refine Or.elim hps ?_ ?_
  clear hps
  intro nm
  refine zro nm ?_
  clear nm
  intro fl' ρ2 σ2 m2 e1 _
  rotate_left
  clear hps
  intro nm
  refine zfl nm ?_
  clear nm
  intro b e1 ee0 hst hsm
  subst ee0
  rotate_left
  ·exact noI R.ctorIdx e1 rfl
  ·cases e1
   exact⟨rfl,hst,hsm⟩
 ·replace hpx:=hr'▸hpx
  cases hpx.1
end
end
section
open W Calls PyProof.Rows
noncomputable def zrb (K:Frag):Bool:=plainGet K 193 (zae 0)&&hasDictIn K 193&&plainOver K 193&&keepIn K (.ref 193)&&makesIn K 193&&keepIn K (.ref 57) &&
 zcZ (findIn K (.ref 193) (zae 0))&&zcZ (findIn K (.ref 193) (zae 1))&&(findIn K (.ref 193) "__setattr__" == some (some (.builtin "object.__setattr__"))) &&
 zcZ (takerIn K 193 (zae 0))&&zcZ (takerIn K 193 (zae 1))
noncomputable def zth (K:Frag):Bool:=[WM.peek,.take,.looks,.expect,.name,.split].all fun mt=>match TB.fns[zjs mt]? with
 | some fn=>ziI (findIn K (.ref 193) (zaa (zdk mt))) fn.addr&&isFn K (.ref fn.addr)&&keepIn K (.ref fn.addr)
 | none=>false
noncomputable def zrc (K:Frag):Bool:=ziI (findIn K (.ref 193) "__init__") 146&&(typeIn K (.ref 146) == some (.type "function"))&&ziI (findIn K (.ref 57) "__init__") 29&&(typeIn K (.ref 29) == some (.type "function")) &&
 zrh TB K (zmn 29)&&zjL K 29&&(findIn K (.ref 57) "__setattr__" == some (some (.builtin "object.__setattr__")))&&zcZ (findIn K (.ref 57) "message")&&zcZ (findIn K (.ref 57) "spot")
noncomputable def zpz (K:Frag):Bool:=zcB K 728 [zaD,[99,101,108,108]]&&zcB K 816 [zaD]

section
variable {prog:Program}{w:World}{K:Frag}{mg mb:Str→Option Value}{base:Heap}
set_option tactic.hygienic true in
theorem znj (h7:zrb K=true) (h8:zth K=true) (h9:zrc K=true):WFacts (ziJ prog w K mg mb base):=by
 refine B11 h7 fun a1 a2 a3 a4 a5 a6 a7 a8 a9 b1 b2=>B9 h9 fun c1 c2 ua ub uc ud ue uf ug=>?_
 have two:∀ {P:Nat→Prop},P 0→P 1→∀ k,k < 2→P k:=fun{P} a b k hk=>by
  induction k using Nat.casesOn with
  | zero=>exact a
  | succ k=>induction k using Nat.casesOn with
   | zero=>exact b
   | succ k=>exact absurd hk (Nat.not_lt_of_le (Nat.le_add_left _ _))
 refine⟨a1,a2,two (zba a7) (zba a8),eq_of_beq a9,a3,two (zba b1) (zba b2),fun mt=>?_,a4,a5,⟨zfC,rfl,zcf c1,eq_of_beq c2⟩⟩
 have e:(match TB.fns[zjs mt]? with
  | some fn=>ziI (findIn K (.ref 193) (zaa (zdk mt))) fn.addr&&isFn K (.ref fn.addr)&&keepIn K (.ref fn.addr)
  | none=>false)=true:=List.all_eq_true.mp h8 mt (by induction mt using WM.casesOn <;> simp)
 show ∃ fn,TB.fns[zjs mt]?=some fn∧_
 induction hfn:TB.fns[zjs mt]? using Option.casesOn with
 | none=>rw[hfn] at e; exact(Bool.false_ne_true e).elim
 | some fn=>rw[hfn] at e; exact B3 e fun e1 e2 e3=>zre fn rfl (zcf e1) e2 e3
theorem znk (inK:K.In base) (hg:base.Ns mainGlobals mg) (bt:∀ x:Str,x ≠ "__name__" → mb x=bootBuiltins x)
  (hcls:zqt K 57)
  (h5:zq8 K=true) (h7:zrb K=true) (h9:zrc K=true):GFacts (ziJ prog w K mg mb base):=
 B11 h7 fun ua ub uc ud ue a6 uf ug uh ui uj=>B9 h9 fun ua ub c3 c4 c5 c6 c7 c8 c9=>B5 h5 fun ua ub uc ud h5=>
  ⟨hcls,⟨29,zcf c3,eq_of_beq c4,c5,c6⟩,eq_of_beq c7,zba c8,zba c9,⟨ziG (zba h5) inK hg,(bt _ (by decide +kernel)).trans (by kernel_rfl)⟩,a6⟩
end

noncomputable def zti:Value→Option String
 | .type t=>some t
 | _=>none
noncomputable def ztj:Value→Option Addr
 | .ref a=>some a
 | _=>none
noncomputable def zu0:Option Value→Option String
 | some (.builtin n)=>some n
 | _=>none
theorem zhx {v:Value}{t:String} (h:(zti v == some t)=true):v=.type t:=by
 refine IfT.out ?_ h
 clear h
 induction v using Value.casesOn with
 | type t'=>exact .mk fun h=>congrArg _ (Option.some.inj (eq_of_beq h))
 | _=>exact True.intro
theorem znl {v:Value} (h:(ztj v).isSome=true):∃ a,v=.ref a∧ztj v=some a:=by
 refine IfT.out ?_ h
 clear h
 induction v using Value.casesOn with
 | ref a=>exact .mk fun ua=>⟨a,rfl,rfl⟩
 | _=>exact True.intro
theorem zrd {v:Option Value}{t:String} (h:(zu0 v == some t)=true):v=some (.builtin t):=by
 refine IfT.out ?_ h
 clear h
 induction v using Option.casesOn with
 | none=>exact True.intro
 | some v=>
  induction v using Value.casesOn with
  | builtin t'=>exact .mk fun h=>congrArg (fun t=>some (Value.builtin t)) (Option.some.inj (eq_of_beq h))
  | _=>exact True.intro
theorem zf2 {α:Type}{l:List α}{n:Nat} (h:Nat.beq l.length (n+1)=true):∃ a r,l=a::r∧Nat.beq r.length n=true:=by
 refine IfT.out ?_ h
 clear h
 induction l using List.casesOn with
 | nil=>exact True.intro
 | cons a r=>exact .mk fun h=>⟨a,r,rfl,h⟩
theorem ztk {α:Type}{l:List α} (h:Nat.beq l.length 0=true):l=[]:=List.length_eq_zero_iff.mp (Nat.eq_of_beq_eq_true h)
noncomputable def ztl (l:List Value):Bool:=Nat.beq l.length 5&&(ztj (l.getD 0 .none) == some 57)&&(ztj (l.getD 1 .none)).isSome&&(zti (l.getD 2 .none) == some "Exception")&&(zti (l.getD 3 .none) == some "BaseException")&&(zti (l.getD 4 .none) == some "object")
theorem zun {l:List Value} (h:ztl l=true):∃ D,l=.ref 57::zer D:=
 B6 h fun h0 h1 h2 h3 h4 h5=>zaZ (zf2 h0) fun a l1 e h0=>zaZ (zf2 h0) fun b l2 e1 h0=>zaZ (zf2 h0) fun c l3 e2 h0=>zaZ (zf2 h0) fun d l4 e3 h0=>zaZ (zf2 h0) fun f l5 e4 h0=>by
  have e5:=ztk h0
  subst e5 e4 e3 e2 e1 e
  have q3:c=_:=zhx h3
  have q4:d=_:=zhx h4
  have q5:f=_:=zhx h5
  subst q3 q4 q5
  have h1:ztj a=some 57:=eq_of_beq h1
  refine zao (znl (v:=a) (by rw[h1]; rfl)) fun a' ea eb=>zao (znl (v:=b) h2) fun D ec ua=>?_
  rw[eb] at h1
  exact⟨D,by rw[ea,ec,Option.some.inj h1]⟩
noncomputable def zu1 (l:List (Option Value)):Bool:=Nat.beq l.length 6&&(zu0 (l.getD 4 none) == some "Exception.__new__")
theorem zvB {l:List (Option Value)} (h:zu1 l=true):∃ k0 k1 k2 k3 k5,l=[k0,k1,k2,k3,some (.builtin "Exception.__new__"),k5]:=
 B2 h fun h0 h1=>zaZ (zf2 h0) fun a l1 e h0=>zaZ (zf2 h0) fun b l2 e1 h0=>zaZ (zf2 h0) fun c l3 e2 h0=>zaZ (zf2 h0) fun d l4 e3 h0=>zaZ (zf2 h0) fun f l5 e4 h0=>zaZ (zf2 h0) fun g l6 e5 h0=>by
  have e6:=ztk h0
  subst e6 e5 e4 e3 e2 e1 e
  exact⟨a,b,c,d,g,by rw[show f=_ from zrd h1]⟩
noncomputable def ztm:Obj→Bool
 | ⟨c,_,.cls cd,sl⟩=>(zti c == some "type")&&ztl cd.mro&&cd.hasDict&&!cd.hasDel&&zu1 sl.toList
 | _=>false
noncomputable def zpA (K:Frag):Bool:=match K.lookup 57 with
 | some o=>ztm o
 | none=>false
set_option tactic.hygienic true in
theorem zjr {K:Frag} (h:zpA K=true):zqt K 57:=by
 have e:(match K.lookup 57 with
  | some o=>ztm o
  | none=>false)=true:=h
 induction hl:K.lookup 57 using Option.casesOn with
 | none=>rw[hl] at e; exact(Bool.false_ne_true e).elim
 | some o=>
  rw[hl] at e
  obtain⟨c,dd,dt,⟨sl⟩⟩:=o
  refine IfT.out ?_ e
  clear e
  induction dt using Data.casesOn with
  | cls cd=>
   refine .mk fun e=>B5 e fun h1 h2 h3 h4 h5=>zaF (zun h2) fun D e2=>znt (zvB h5) fun k0 k1 k2 k3 k5 e5=>?_
   obtain⟨nm,bs,mro,N,q,hdct,sn,sub,ab,col,hdel⟩:=cd
   have q4:hdel=false:=zpa h4
   have e1:=zhx h1
   dsimp only at e2 h3 e5
   subst e1 e2 h3 q4 e5
   exact⟨nm,q,D,N,bs,sn,sub,ab,col,dd,k0,k1,k2,k3,k5,hl⟩
  | _=>exact True.intro
theorem znm {xs:List Value}{ns:List Int} (h:IntsAre xs ns):xs.length=ns.length∧∀ x,xs[0]?=some x→∃ i t,x=.int i t:=by
 refine⟨h.length,fun x hx=>?_⟩
 cases h with
 | nil=>exact zaA hx
 | cons=>have ee:=Option.some.inj hx; clear hx; subst ee; exact zux _ _ rfl

theorem join {prog:Program}{w:World}{K:Frag}{mg mb:Str→Option Value}{s₁:Shared}{a:Addr}{xs:List Value}{ns:List Int} (inK:K.In s₁.heap) (hmg:s₁.heap.Ns mainGlobals mg) (hmb:s₁.heap.Ns builtinsNs mb) (lim:s₁.heap.NoLimit) (sysm:s₁.heap.get? sysModules≠none)
  (bt:∀ x:Str,x ≠ "__name__" → mb x=bootBuiltins x) (h1:zta K=true) (h2:ztb K=true) (h3:ztd K=true) (h4:ztf K=true) (h5:zq8 K=true) (h6:ztg K 193 57=true) (h7:zrb K=true) (h8:zth K=true) (h9:zrc K=true) (h10:zpz K=true)
  (h11:zpA K=true)
  (hl:s₁.heap.IsList a xs.toArray) (hi:IntsAre xs ns) (hn:ns.length≤63) :
  codeAny (model prog w) callerA (.call (.ref 816) ⟨[.ref a],[]⟩) (fun res s'=>res=.ok (.ret (.bool true))∧s₁.heap.StaysIn s'.heap∧s'.gens=s₁.gens∧s'.os=s₁.os) s₁:=by
 let X:Stat:=ziJ prog w K mg mb s₁.heap
 have F:Facts X:=zoX inK hmg hmb lim sysm bt h1 h2 h3 h4 h5 h6
 have W:WFacts X:=znj h7 h8 h9
 have G:ExcOK X:=zsS F (znk inK hmg bt (zjr h11) h5 h7 h9)
 have P:=zq4 F W G rfl
 refine zaW (znm hi) fun f1 f2=>?_
 have Z:IsScr X a xs.toArray:=⟨hl,by refine List.size_toArray.symm▸?_; omega,fun x hx=>f2 x (by simpa using hx)⟩
 simp only[zpz,Bool.and_eq_true] at h10
 have B:=below_caller s₁.heap
 have k0:Ok X [] [] [] s₁:=⟨fun ua ub e=>e,trivial,(fun e he=>absurd he List.not_mem_nil),⟨rfl,(fun n p c e=>by simp at e),(fun p hp=>absurd hp List.not_mem_nil),(fun i j p q ua e=>by simp at e)⟩⟩
 refine codeAny_mono (zni F W P G rfl Z k0 ⟨rfl,by decide,by decide⟩ rfl h10.1 h10.2) fun res s' z=>⟨z.1,z.2.1,z.2.2.1,z.2.2.2.2⟩
end
end Mine.Lake
open PySem PySem.W PyProof.Rows
set_option Elab.async true
namespace Mine.Lake
namespace holds
def tw12932177642048043641:=V
def tw13814485889689186781:=V
def tw14156686847509100336:=V
def tw6805659195949354464:=V
def tw13510359631569738206:=V
def tw7379098533328994187:=V
def tw9448266235508875152:=V
def tw7164724593941634405:=V
def tw8764211507525869969:=V
def tw17834859311336659623:=V
def tw16967865666555712810:=V
def tw8945096355875411023:=V
def tw7637374163787062991:=V
def tw5104162105273404224:=V
def tw6923351235936987847:=V
def tw15254117152329059290:=V
def tw17832078895767549250:=V
def tw3058897155996254777:=V
def tw7771504764706755041:=V
def tw3991174452834116942:=V
def tw1670664914774608200:=V
def tw17148133528836995164:=V
def tw9993867220198808190:=V
def tw15502827944794631537:=V
def tw14846967963058951085:=V
def tw16382504519159426337:=V
def tw1593725670143259171:=V
def tw9443263318500661076:=V
def tw15102559388887273905:=V
def tw1921189885699376072:=V
def tw11773031496881639952:=V
def tw6949410326838533505:=V
def tw4005884094826748974:=V
def tw14624065004235304786:=V
def tw11970009809054323641:=V
def tw4316235523693328476:=V
def tw414343229358257294:=V
def tw10910144734135484236:=V
def tw1685970714893228452:=V
def tw3307497582946834312:=V
def tw15365377830214678979:=V
def tw15964927657274788186:=V
def tw3463655719473968089:=V
def tw10880911119879558648:=V
def tw5642382401883541103:=V
def tw8824310374954179502:=V
def tw12752286059200731221:=V
def tw4937520347636865828:=V
def tw14606661706230281559:=V
def tw12336847929988372183:=V
def tw10769412808207769896:=V
def tw6742534658659048065:=V
def tw70379834794356600:=V
def tw11754390365532059367:=V
def tw8373109885017457261:=V
def tw17338383056406740755:=V
def tw4577077185745597217:=V
def tw3899163238900239371:=V
def tw6043311626363620002:=V
def tw15252573558098983625:=V
def tw13143634272759120836:=V
def tw16889857735828536216:=V
def tw6464769607156963618:=V
def tw7113489174016601032:=V
def tw3336922191781699489:=V
def tw11682215172581914975:=V
def tw8303601106284676853:=V
def tw7963508818609324397:=V
def tw1765832983651355531:=V
def tw9336910065866188588:=V
def tw10597572667259705630:=V
def tw2649236541672319780:=V
def tw18191412036619747357:=V
def tw4088841395031706969:=V
def tw14326695043094350466:=V
def tw13520863472454598686:=V
def tw9628100377169253423:=V
def tw18315877568954927846:=V
def tw15582601475850425285:=V
def tw17585593171377745181:=V
def tw10066880228032353303:=V
def tw18328964720528033974:=V
def tw16451793494023771437:=V
def tw8358402628767465541:=V
def tw6223532446919076457:=V
def tw8250557192559787905:=V
def tw2863161068726293509:=V
def tw1911425522916512438:=V
def tw6883302738288969674:=V
def tw5915102036911074223:=V
def tw6504757200826383572:=V
def tw3779139835825802695:=V
def tw2826192390891173604:=V
def tw5940138549306082408:=V
def tw7296279169627797560:=V
def tw7755570062938097867:=V
def tw14391671150567288571:=V
def tw6127873049448636939:=V
def tw6873290136611328126:=V
def tw16232904663037353233:=V
def tw1397594784449344108:=V
def tw7251597332887044089:=V
def tw13728762242459986131:=V
def tw2471981451640826500:=V
def tw17867566957304262760:=V
def tw11821585656878992468:=V
def tw14439200220649430816:=V
def tw5343083089748593750:=V
def tw643894564119477264:=V
def tw11991176316290910134:=V
def tw476714650080044565:=V
def tw17366270234255685236:=V
def tw2504097658324960685:=V
def tw7402873236844482057:=V
def tw6074969416693020904:=V
def tw17966694639575948732:=V
def tw9007341795883839546:=V
def tw2453375431256243755:=V
def tw11994710694437243072:=V
def tw3062726396069569831:=V
def tw138140578068530432:=V
def tw14852427435125665050:=V
def tw2548429543750867084:=V
def tw8613296598147683642:=V
def tw553024166225432641:=V
def tw18182764651843087468:=V
def tw7882867265593414663:=V
def tw16304082940722494871:=V
def tw10621244465842385126:=V
def tw5719153676093105628:=V
def tw1899177877966721422:=V
def tw15856418493997678203:=V
def tw3252830570329179840:=V
def tw909155090377433414:=V
def tw8302594068470641318:=V
def tw10945207861796040757:=V
def tw5329049723215035740:=V
def tw16339727805866041269:=V
def tw8074045359800626079:=V
def tw658754068000873903:=V
def tw10026658005072295907:=V
def tw6728825049315455647:=V
def tw8303245805676414683:=V
def tw6510673542969499947:=V
def tw3163816104183532649:=V
def tw5745646750682570563:=V
def tw11070544983228126411:=V
def tw4050650108113549682:=V
def tw9772933189704552875:=V
def tw15027280214247640283:=V
def tw14323499504034468960:=V
def tw6038920038780765252:=V
def tw9746038060448496656:=V
def tw12567408143650340919:=V
def tw14502561964814773359:=V
def tw18189106191721738304:=V
def tw14373186667855078052:=V
def tw1382666277386863783:=V
def tw14028590659353061914:=V
def tw18178276336651129518:=V
def tw1966676479893942363:=V
def tw16211064251155088824:=V
def tw17970602314057008281:=V
def tw17503296121454385936:=V
def tw14890340820662320604:=V
def tw1160168342057185330:=V
def tw6631745907579321150:=V
def tw16968566395082208039:=V
def tw2818612652430691602:=V
def tw17974074760168544286:=V
def tw5756382531812534322:=V
def tw3138496224186556518:=V
def tw10887956340845170267:=V
def tw8474146961264916314:=V
def tw10824243797608782441:=V
def tw18058173099822922371:=V
def tw14188904802125450308:=V
def tw367913879564183317:=V
def tw2037950903600229699:=V
def tw14797270799201191018:=V
def tw13073650065303070485:=V
def tw15732876997766212758:=V
def tw9022107966199334162:=V
def tw5081373105064876606:=V
def tw9192468734275472060:=V
def tw16561891445304480024:=V
def tw10997386295568442022:=V
def tw13410811366980886408:=V
def tw10744718490206746105:=V
def tw4310821787760321902:=V
def tw2834343659314510081:=V
def tw3896796516382241699:=V
def tw13388400598871107013:=V
def tw6629067625006046702:=V
def tw1739506499010780908:=V
def tw9745390941482290664:=V
def tw13511440249409734812:=V
def tw2995454223448486740:=V
def tw3544488838671888474:=V
def tw7231914660260052116:=V
def tw23880736095238238:=V
def tw10053284111325616437:=V
def tw16533390057039535785:=V
def tw10164848101218360824:=V
def tw14954652449426828957:=V
def tw10330730605061045466:=V
def tw14074920773902623343:=V
def tw4109881870878914192:=V
def tw3672807007645922001:=V
def tw17498105177696313182:=V
def tw7885862057075177676:=V
def tw12568817243804159687:=V
def tw1576864781542744269:=V
def tw9530957545184165982:=V
def tw2317543087712144851:=V
def tw7579071286386265036:=V
def tw11328737502505849811:=V
def tw12894213927860845220:=V
def tw2215858359467387654:=V
def tw17294810539693483501:=V
def tw5482171613017528729:=V
def tw2880919944666491827:=V
def tw1410696219087941206:=V
def tw3189442696528384889:=V
def tw12093193812967372038:=V
def tw13231877494301713193:=V
def tw5056774539644914039:=V
def tw7372668595927024807:=V
def tw9541685143970807214:=V
def tw17044031025462659771:=V
def tw915005994026947510:=V
def tw12568590157623320070:=V
def tw13777169455798354692:=V
def tw11441744011709491029:=V
def tw16068872900741388004:=V
def tw11159233881898205785:=V
def tw11763742251008893710:=V
def tw16923815928785321246:=V
def tw284825486829653890:=V
def tw6494322680483694280:=V
def tw14982100121862548783:=V
def tw9791849228882926399:=V
def tw16882706527233098114:=V
def tw13865690008842552488:=V
def tw14233958103354910604:=V
def tw4631633174233292865:=V
def tw11899926827961921851:=V
def tw8779187478289740582:=V
def tw15481090674971421643:=V
def tw11185180391252950641:=V
def tw14721692324342388434:=V
def tw8650778493329553409:=V
def tw15314863663054613473:=V
def tw15852330919425407607:=V
def tw10715796456515963280:=V
def tw15837382412680874842:=V
def tw2684317568115077103:=V
def tw18094394060877400342:=V
def tw6067776442959795443:=V
def tw10594145385512233186:=V
def tw1640164449543225651:=V
def tw11025245425101791184:=V
def tw14320501074600372631:=V
def tw14024026813617623755:=V
def tw6208961132284801618:=V
def tw9947107265696396036:=V
def tw12595069830312115583:=V
def tw18425961980346952772:=V
def tw16894496580122336633:=V
def tw5854559615473302578:=V
def tw11866195752031444353:=V
def tw662245762799531953:=V
def tw6070195271752384013:=V
def tw5866196861548004608:=V
def tw1631587561635016396:=V
def tw4842937915252932926:=V
def tw14459764284974652158:=V
def tw65881426183950388:=V
def tw343100752024163732:=V
def tw1492270072407158775:=V
def tw12813580999551643205:=V
def tw16192470011968598884:=V
def tw9874786835393390033:=V
def tw5333133756010719348:=V
def tw6033733362690025493:=V
def tw10706558891740240005:=V
def tw16228001280119028904:=V
def tw1333319119534776417:=V
def tw6780183667893731715:=V
def tw6475246208603812344:=V
def tw7349150772974096140:=V
def tw2059670573772235639:=V
def tw2483569759694308752:=V
def tw1947518166480838313:=V
def tw9248270524849702008:=V
def tw1516559671420823494:=V
def tw11562089167937590349:=V
def tw13224645525270801263:=V
def tw7248650772021784625:=V
def tw4083571073901166618:=V
def tw14179861400654214123:=V
def tw15288290977773357453:=V
def tw854095269401713788:=V
def tw12944385336579805588:=V
def tw2145468826898701339:=V
def tw6313023820485761535:=V
def tw4933539947316220122:=V
def tw2942285183039108338:=V
def tw1010047058532483394:=V
def tw15519797819230431374:=V
def tw18296173465262261675:=V
def tw18317853630671825105:=V
def tw11672163615871686457:=V
def tw3642016000178131554:=V
def tw17695795647759282896:=V
def tw13374922282363167447:=V
def tw4820096727120074828:=V
def tw4788933721732099512:=V
def tw14152681441921409122:=V
def tw10216345695349952613:=V
def tw14135161820655456608:=V
def tw14945232612827674911:=V
def tw16418144527842540665:=V
def tw14842698566902135401:=V
def tw17294659243376920373:=V
def tw7794655945097968527:=V
def tw13623651228494403952:=V
def tw5028696707960246903:=V
def tw8509406906854778630:=V
def tw13095393189890063289:=V
def tw15180722431942329079:=V
def tw10463961413814637075:=V
def tw11953991601834355229:=V
def tw18013660787667422061:=V
def tw18144851624165386553:=V
def tw16650135819504118047:=V
def tw17174372120916740321:=V
def tw497198720302663135:=V
def tw5451119932909609374:=V
def tw9503473597814048778:=V
def tw5224122778421430300:=V
def tw15704774660775812366:=V
def tw8798596696384146985:=V
def tw11875558630524174193:=V
def tw13894661812016511811:=V
def tw47808952813471391:=V
def tw9379832121326571162:=V
def tw14526071122495321721:=V
def tw762874189657507913:=V
def tw17970398330019308502:=V
def tw15954286985291999410:=V
def tw12090606318425690193:=V
def tw14892819581711868472:=V
def tw15466536155560195212:=V
def tw18021412068624870376:=V
def tw4222139297472484822:=V
def tw9379733639568797174:=V
def tw4965209018117427541:=V
def tw15843372776094566502:=V
def tw3418751272424769039:=V
def tw17612944668967100564:=V
def tw5960289521040332237:=V
def tw9877236747824090382:=V
def tw8581080189952492009:=V
def tw11744975566214816647:=V
def tw8285286205450860133:=V
def tw16889617057558433965:=V
def tw13423376896687389434:=V
def tw14322169902408347731:=V
def tw12051409913727208451:=V
def tw14751359325574398983:=V
def tw10069518249582262839:=V
def tw14918724338044360174:=V
def tw3269609226216012200:=V
def tw5198291322986635822:=V
def tw6036367257941118795:=V
def tw18023646410017962352:=V
def tw15179481983648134074:=V
def tw16107432753629632168:=V
def tw6890031970467582893:=V
def tw11464442957745478962:=V
def tw1993257707442380538:=V
def tw14941929147469724032:=V
def tw15632071111569742530:=V
def tw15839126691172742439:=V
def tw14099781017077986411:=V
def tw9997367151627546614:=V
def tw6273827811761762245:=V
def tw2251101863123572076:=V
def tw16945609116613418908:=V
def tw3240126422727157938:=V
def tw2371808394602060464:=V
def tw8004428371439979637:=V
def tw9337398055018841355:=V
def tw450051596345555370:=V
def tw11862247331742842227:=V
def tw16113050544945771998:=V
def tw8094690737893885969:=V
def tw12221334204209214966:=V
def tw15686127421072435374:=V
def tw15865482443568911339:=V
def tw18327494421963846858:=V
def tw16271533322611371232:=V
def tw2522938504635645777:=V
def tw1752388946125233893:=V
def tw13595579953803778579:=V
def tw13885498743149771236:=V
def tw8288787998861557069:=V
def tw1869158924745841304:=V
def tw16849519948847218215:=V
def tw8785665599410868994:=V
def tw2064083339362475976:=V
def tw6682071049481814145:=V
def tw4685744230475735228:=V
def tw13172523869214757928:=V
def tw17808543668412793930:=V
def tw10796917953300622948:=V
def tw17909201115469420208:=V
def tw3083169675538556073:=V
def tw18029310821019805825:=V
def tw15781310860510925614:=V
def tw3330665581494894256:=V
def tw4946414837601396499:=V
def tw16635945822690121496:=V
def tw12968282014837060626:=V
def tw13839982121651961293:=V
def tw3507770006752759381:=V
def tw16702034194135844688:=V
def tw13500034738020989451:=V
def tw9788456364152479056:=V
def tw15152509523865342500:=V
def tw2629259947036797988:=V
def tw2531371619192893504:=V
def tw4522381321116908129:=V
def tw12124456490732546437:=V
def tw4737687102260640396:=V
def tw9893182404320338434:=V
def tw9915958607938957216:=V
def tw2084669075485637796:=V
def tw14829792506168279998:=V
def tw8214600481141095982:=V
def tw16320204809622432550:=V
def tw12363139993599525107:=V
def tw9645266218679443418:=V
def tw6460847810988055119:=V
def tw7622862916302739077:=V
def tw1473429987537778011:=V
def tw3604924366746834528:=V
def tw2394268238239109422:=V
def tw1331333203267049880:=V
def tw12320020060554478098:=V
def tw6982040956011792816:=V
def tw6858914954500378842:=V
def tw2916404475150199754:=V
def tw2209478595936803698:=V
def tw2794569809429657362:=V
def tw490196635678591686:=V
def tw11001925823112314940:=V
def tw9692524336398235805:=V
def tw16536759156234044621:=V
def tw6753971627157788371:=V
def tw1940973225789164282:=V
def tw3950474223121601176:=V
def tw5499110627000083366:=V
def tw11836087696505310965:=V
def tw3687171920106076622:=V
def tw6057554901876327215:=V
def tw12434047990901101063:=V
def tw12032846837545874567:=V
def tw817031356081284540:=V
def tw13444609769543241859:=V
def tw14839262980166195405:=V
def tw13203722555053414051:=V
def tw14809685398231740234:=V
def tw2320050797304923407:=V
def tw13894347638304780385:=V
def tw18414131924906099620:=V
def tw10501394038581496198:=V
def tw7688447286325290961:=V
def tw2445312303599525857:=V
def tw8765680915329038750:=V
def tw1651954166185636983:=V
def tw5471229456697032178:=V
def tw18291832626584703820:=V
def tw10938439521279437941:=V
def tw10439694950082121155:=V
def tw9839690267332649167:=V
def tw13216523561165564153:=V
def tw11808031994472515594:=V
def tw5048234202324845438:=V
def tw35823708907355680:=V
def tw8108595714878036346:=V
def tw5378346535714065628:=V
def tw9536120333963339373:=V
def tw4654517349223777867:=V
def tw17856993066960812822:=V
def tw8867172575883534195:=V
def tw12311671491158902593:=V
def tw5136731045068981619:=V
def tw15915576889088650653:=V
def tw10984534072707453213:=V
def tw11332781702910527369:=V
def tw17320684777053996889:=V
def tw8122923129136983540:=V
def tw8064416443395711497:=V
def tw12557951029569916777:=V
def tw14369416260685537841:=V
def tw16506800724830166659:=V
def tw7387245730430298763:=V
def tw4238974875731189619:=V
def tw9206026430339090849:=V
def tw5995079652132071010:=V
def tw5831309035287290772:=V
def tw17660048611192699510:=V
def tw14761901411860188792:=V
def tw2618610859991149120:=V
def tw18386474289239119026:=V
def tw5330093099779174706:=V
def tw7110609236036064237:=V
def tw5060763765280629643:=V
def tw11659435229347535054:=V
def tw3706043265800874906:=V
def tw6707307551370573626:=V
def tw13067174434461590116:=V
def tw9777658695250483237:=V
def tw6856409519052686471:=V
def tw8320429032209047717:=V
def tw4201353586854540742:=V
def tw6362211495925562304:=V
def tw2440476072529522483:=V
def tw11559601069311472240:=V
def tw8191385405787714241:=V
def tw14968580382114803657:=V
def tw16678979537756040761:=V
def tw12187884065161509020:=V
def tw10148410427059616691:=V
def tw18412785167982639519:=V
def tw1803891346478602172:=V
def tw14305231777667567257:=V
def tw6772686084217426953:=V
def tw4301204668305216010:=V
def tw11012801516656828119:=V
def tw10450114410112474590:=V
def tw2386502290448734558:=V
def tw8650410396763738024:=V
def tw16833346563362028981:=V
def tw15758345185106620456:=V
def tw1695356349292745426:=V
def tw5436677397837076005:=V
def tw9576277766183559243:=V
def tw13334729717893646186:=V
def tw11872605439326847366:=V
def tw1963181222540529350:=V
def tw12349143610110587422:=V
def tw6170058695221750457:=V
def tw9870630145714463486:=V
def tw7636543913709017961:=V
def tw3553942935374717613:=V
def tw6216701462079070064:=V
def tw13117198322633582643:=V
def tw17733728069498813492:=V
def tw3686342894173612707:=V
def tw8655847426402867023:=V
def tw2286864889030296374:=V
def tw16407644659884853690:=V
def tw8843084598208595235:=V
def tw5175483016971432363:=V
def tw7400021904989974324:=V
def tw1620978951394669191:=V
def tw11357772456715915212:=V
def tw6262421341380067126:=V
def tw9509192332557562016:=V
def tw805615706351895724:=V
def tw13626405091870844552:=V
def tw17529611566628090556:=V
def tw3747736265867706758:=V
def tw400550675414980861:=V
def tw11166625292711507519:=V
def tw51809043181184898:=V
def tw9331831999855814361:=V
def tw7136056345995025984:=V
def tw15965297337792995920:=V
def tw10852243404210582099:=V
def tw13738070780513281822:=V
def tw5405363968149139392:=V
def tw3613793834102741622:=V
def tw16179930328044308637:=V
def tw17363768789735983359:=V
def tw17862270109610337926:=V
def tw14669579027151426336:=V
def tw15369521628522323496:=V
def tw7663384510083738033:=V
def tw7090452558703480259:=V
def tw12496049033262676208:=V
def tw6126964896506981730:=V
def tw9322781812774102509:=V
def tw8436696436950996665:=V
def tw10542296789294242991:=V
def tw16793959428437513995:=V
def tw15995668791473093740:=V
def tw7252848740242134254:=V
def tw15197453999089516269:=V
def tw7861898208360397444:=V
def tw4611696986444553867:=V
def tw3626422993166918913:=V
def tw9133980517055651057:=V
def tw18351800163862591626:=V
def tw8101181048044350997:=V
def tw10061335515555276289:=V
def tw16471304579371195526:=V
def tw14660304514948591116:=V
def tw1083360285525260453:=V
def tw15309889579880187178:=V
def tw6963105151884960579:=V
def tw14691500690467805461:=V
def tw7170587687993254401:=V
def tw11558566289209593714:=V
def tw6314382400873109736:=V
def tw11646691570590091795:=V
def tw6131776978068885196:=V
def tw3189432882849629246:=V
def tw5739626257304091655:=V
def tw5471011911039793567:=V
def tw6884508211051877239:=V
def tw8815716590310852347:=V
def tw9836894377136723744:=V
def tw5527741149259228442:=V
def tw17114666954708100220:=V
def tw10867893558227077228:=V
def tw7436011687110043454:=V
def tw3120663206439918794:=V
def tw11006645552462689620:=V
def tw9428860182870468540:=V
def tw18178190827120927752:=V
def tw11932076817112870655:=V
def tw8396461909232926097:=V
def tw8898766204971950604:=V
def tw11554582236619410326:=V
def tw7222398420516295594:=V
def tw832700469862278768:=V
def tw2760318515966826993:=V
def tw14586143590608694324:=V
def tw4144632921554090493:=V
def tw2229126056546979921:=V
def tw3085339402006538341:=V
def tw13234314134201676133:=V
def tw2243000443163479500:=V
def tw8273484016184437311:=V
def tw13290196165449367852:=V
def tw5570358577792283183:=V
def tw10618337838421262539:=V
def tw3699176971337687647:=V
def tw12989978298282223133:=V
def tw1743897589143348292:=V
def tw10458856200072709378:=V
def tw15458735961456279633:=V
def tw4051864155838211689:=V
def tw2261341776860600863:=V
def tw274810702177987608:=V
def tw6875293580574817554:=V
def tw1163673748624412379:=V
def tw8955318298186096055:=V
def tw14291737604417136407:=V
def tw17671968453483966062:=V
def tw13323038334206165355:=V
def tw1756001230545219751:=V
def tw7166702947832758751:=V
def tw6044370119769368934:=V
def tw17770568740495415695:=V
def tw4340613772861450566:=V
def tw16614591053039683910:=V
def tw13635769382559519702:=V
def tw15762162781057210353:=V
def tw17286013677901053553:=V
def tw6497395176356299711:=V
def tw762998312288106953:=V
def tw10036137201920463016:=V
def tw7571570365788894603:=V
def tw2122398745774149337:=V
def tw12490723656177538981:=V
def tw1092917388718943111:=V
def tw18077179747170450796:=V
def tw7845048188272023756:=V
def tw17612117152548743742:=V
def tw8568727281095554103:=V
def tw4635915526845783435:=V
def tw17065871993853290687:=V
def tw2256178405700858702:=V
def tw5349005548516062945:=V
def tw9383133513520438092:=V
def tw17314088757210470319:=V
def tw14359150723418971922:=V
def tw17278166344337887038:=V
def tw3386286349597590760:=V
def tw14041645383351631973:=V
def tw14791847859104595492:=V
def tw1896336733030803751:=V
def tw3360334734406516800:=V
def tw10156152182262947146:=V
def tw5285570646610652647:=V
def tw4241686626436854614:=V
def tw113536491967714348:=V
def tw15181335727600109227:=V
def tw2123843076364225432:=V
def tw12750295729295147873:=V
def tw9842875364766691483:=V
def tw12735016460066734239:=V
def tw326482009816453725:=V
def tw10489052345578121943:=V
def tw18052890345685827722:=V
def tw2690350708878496513:=V
def tw10345359932732324339:=V
def tw14561369616162286562:=V
def tw17214541172595087159:=V
def tw4879696901529102856:=V
def tw16394892156798709169:=V
def tw9192314525350543321:=V
def tw13825164484477386986:=V
def tw480122375686325749:=V
def tw5545608445040210997:=V
def tw4714581391344731724:=V
def tw10362949297737090592:=V
def tw12456812575267002679:=V
def tw8728091515593444459:=V
def tw15803655281545742972:=V
def tw12821849191425261482:=V
def tw3469022204731505390:=V
def tw14586578071946770839:=V
def tw5072494631084527645:=V
def tw5027383211265649229:=V
def tw17338296629331642924:=V
def tw6918071496138335142:=V
def tw2204880508508549191:=V
def tw7113439441017987964:=V
def tw117531494459808486:=V
def tw4945723626070187131:=V
def tw4941230443745177717:=V
def tw10622630919019282855:=V
def tw13028446394707553173:=V
def tw526404436937868068:=V
def tw2076158794271660282:=V
def tw3909232458810535046:=V
def tw5251827456727373647:=V
def tw13624579251818102322:=V
def tw8578795333503842127:=V
def tw12569880762738555684:=V
def tw7015819563187121582:=V
end holds
set_option maxRecDepth 100000 in
set_option maxHeartbeats 0 in
theorem holds : PySem.Challenge.rw_ot0052_01.Holds := by
  (w_on; o_law; k_head; (case hw => w_witness2))
  intro w s₀ s₁ mg mb G Y fa o pm cd doc dV kV ho hd hcd hD hmg hg args vals as hpre hlay hrd hwl hlo
  have KX := kIn_of Y
  refine Ground.open G ?_
  intro T B D TE TW
  clear hd hcd hD ho D TE TW B Y
  wrow_args hpre hlay hrd hwl hlo
  all_goals (
    have hfa : mg (Str.ofString "law") = some (.ref 816) := Lake.ziG (by kernel_rfl) KX T.g
    have hmg' : mg (Str.ofString "law") = some (.ref fa) := hmg
    rw [hfa] at hmg'
    cases hmg'
    refine enter_call ?_
    have J := fun {a : PySem.Addr} {xs : List Value} {ns : List Int} hl hi hn => Lake.join (prog := PySem.Challenge.pw_ot0052_01) (w := w) (a := a) (xs := xs) (ns := ns) KX T.g T.b T.nolimit (by
      obtain ⟨mm, ⟨o, es, ep, e, _⟩, _⟩ := (T.seer (by kernel_rfl)).mods
      rw [e]; exact fun q => nomatch q) T.builtins (by kernel_rfl) (by kernel_rfl) (by kernel_rfl) (by kernel_rfl) (by kernel_rfl) (by kernel_rfl) (by kernel_rfl) (by kernel_rfl) (by kernel_rfl) (by kernel_rfl) (by kernel_rfl) hl hi hn
    refine codeAny_mono (J ‹_› ‹_› (by omega)) fun res s' z => ?_
    obtain ⟨rfl, z2, z3, z4⟩ := z
    refine ⟨.inl ⟨_, .bool true, [], rfl, raisesW_false (by wrow_none_raised), .bool _, ?_, ?_⟩, .of_keep z2, z4, .of_eq (z3.trans hg)⟩
    · exact postW_of (by wrow_shape) (by wtm_val) (by str_meet; first | done | w_fin)
    · exact fun _ => ⟨List.nodup_nil, fun a ha => absurd ha List.not_mem_nil⟩)
end Mine.Lake
theorem PySem.Challenge.cw_ot0052_01_holds : PySem.Challenge.rw_ot0052_01.Holds :=
 Mine.Lake.holds
