import PyProof.Rows.All
import Wide.All
import OpenK.AllK
import Wide.FinOn
import PySem.Challenge.RW_pq0055_04
open PySem PySem.W PySem.Calls PyProof.Rows
set_option Elab.async false
set_option maxRecDepth 100000
set_option linter.all false
set_option compiler.extract_closed false
set_option genSizeOf false
set_option genInjectivity false
namespace Mine
theorem el75 {T0:Sort _}{A B:T0→Prop}{G:Prop}(h:∃ x:T0,A x∧B x)(k:∀ x:T0,A x→B x→G):G:=h.elim fun a h0=>k a h0.1 h0.2
theorem el61 {T0 T1:Sort _}{A B C:T0→T1→Prop}{G:Prop}(h:∃ x:T0,∃ y:T1,A x y∧B x y∧C x y)(k:∀ x:T0,∀ y:T1,A x y→B x y→C x y→G):G:=h.elim fun a h0=>h0.elim fun b h1=>k a b h1.1 h1.2.1 h1.2.2
theorem el70 {T0:Sort _}{A B C:T0→Prop}{G:Prop}(h:∃ x:T0,A x∧B x∧C x)(k:∀ x:T0,A x→B x→C x→G):G:=h.elim fun a h0=>k a h0.1 h0.2.1 h0.2.2
theorem el47 {T0 T1 T2 T3:Sort _}{A B C:T0→T1→T2→T3→Prop}{G:Prop}(h:∃ x:T0,∃ y:T1,∃ z:T2,∃ w:T3,A x y z w∧B x y z w∧C x y z w)(k:∀ x:T0,∀ y:T1,∀ z:T2,∀ w:T3,A x y z w→B x y z w→C x y z w→G):G:=h.elim fun a h0=>h0.elim fun b h1=>h1.elim fun c h2=>h2.elim fun d h3=>k a b c d h3.1 h3.2.1 h3.2.2
theorem el60 {T0 T1:Sort _}{A:T0→T1→Prop}{B:T0→Prop}{G:Prop}(h:∃ x:T0,(∃ y:T1,A x y)∧B x)(k:∀ x:T0,∀ y:T1,A x y→B x→G):G:=h.elim fun a h0=>h0.1.elim fun b h1=>k a b h1 h0.2
theorem el20 {T0 T1 T2 T3:Sort _}{A B C D:T0→T1→T2→T3→Prop}{E:T0→Prop}{G:Prop}(h:∃ x:T0,(∃ y:T1,∃ z:T2,∃ w:T3,A x y z w∧B x y z w∧C x y z w∧D x y z w)∧E x)(k:∀ x:T0,∀ y:T1,∀ z:T2,∀ w:T3,A x y z w→B x y z w→C x y z w→D x y z w→E x→G):G:=h.elim fun a h0=>h0.1.elim fun b h1=>h1.elim fun c h2=>h2.elim fun d h3=>k a b c d h3.1 h3.2.1 h3.2.2.1 h3.2.2.2 h0.2
theorem el68 {T0 T1:Sort _}{A B:T0→T1→Prop}{G:Prop}(h:∃ x:T0,∃ y:T1,A x y∧B x y)(k:∀ x:T0,∀ y:T1,A x y→B x y→G):G:=h.elim fun a h0=>h0.elim fun b h1=>k a b h1.1 h1.2
theorem el29 {T0 T1 T2 T3:Sort _}{A B:T0→T1→T2→T3→Prop}{C:T0→Prop}{G:Prop}(h:∃ x:T0,(∃ y:T1,∃ z:T2,∃ w:T3,A x y z w∧B x y z w)∧C x)(k:∀ x:T0,∀ y:T1,∀ z:T2,∀ w:T3,A x y z w→B x y z w→C x→G):G:=h.elim fun a h0=>h0.1.elim fun b h1=>h1.elim fun c h2=>h2.elim fun d h3=>k a b c d h3.1 h3.2 h0.2
theorem el65 {T0:Sort _}{A B C D:T0→Prop}{G:Prop}(h:∃ x:T0,A x∧B x∧C x∧D x)(k:∀ x:T0,A x→B x→C x→D x→G):G:=h.elim fun a h0=>k a h0.1 h0.2.1 h0.2.2.1 h0.2.2.2
theorem el9 {T0 T1 T2 T3:Sort _}{A B C:T0→T1→Prop}{D:T0→T1→T2→T3→Prop}{E F H:T0→T1→Prop}{G:Prop}(h:∃ x:T0,∃ y:T1,A x y∧B x y∧C x y∧(∃ z:T2,∃ w:T3,D x y z w)∧E x y∧F x y∧H x y)(k:∀ x:T0,∀ y:T1,A x y→B x y→C x y→∀ z:T2,∀ w:T3,D x y z w→E x y→F x y→H x y→G):G:=h.elim fun a h0=>h0.elim fun b h1=>(h1.2.2.2).1.elim fun c h5=>h5.elim fun d h6=>k a b h1.1 h1.2.1 h1.2.2.1 c d h6 h1.2.2.2.2.1 h1.2.2.2.2.2.1 h1.2.2.2.2.2.2
theorem el37 {T0 T1:Sort _}{A B C D E F:T0→T1→Prop}{G:Prop}(h:∃ x:T0,∃ y:T1,A x y∧B x y∧C x y∧D x y∧E x y∧F x y)(k:∀ x:T0,∀ y:T1,A x y→B x y→C x y→D x y→E x y→F x y→G):G:=h.elim fun a h0=>h0.elim fun b h1=>k a b h1.1 h1.2.1 h1.2.2.1 h1.2.2.2.1 h1.2.2.2.2.1 h1.2.2.2.2.2
theorem el55 {T0 T1 T2:Sort _}{A B C:T0→T1→T2→Prop}{G:Prop}(h:∃ x:T0,∃ y:T1,∃ z:T2,A x y z∧B x y z∧C x y z)(k:∀ x:T0,∀ y:T1,∀ z:T2,A x y z→B x y z→C x y z→G):G:=h.elim fun a h0=>h0.elim fun b h1=>h1.elim fun c h2=>k a b c h2.1 h2.2.1 h2.2.2
theorem el73 {T0:Sort _}{A B:Prop}{C:T0→Prop}{G:Prop}(h:A∧B∧∃ x:T0,C x)(k:A→B→∀ x:T0,C x→G):G:=h.2.2.elim fun a h2=>k h.1 h.2.1 a h2
theorem el42 {T0 T1 T2 T3:Sort _}{A B C:T0→T1→Prop}{D:T0→T1→T2→T3→Prop}{G:Prop}(h:∃ x:T0,∃ y:T1,A x y∧B x y∧C x y∧∃ z:T2,∃ w:T3,D x y z w)(k:∀ x:T0,∀ y:T1,A x y→B x y→C x y→∀ z:T2,∀ w:T3,D x y z w→G):G:=h.elim fun a h0=>h0.elim fun b h1=>h1.2.2.2.elim fun c h5=>h5.elim fun d h6=>k a b h1.1 h1.2.1 h1.2.2.1 c d h6
theorem el54 {T0 T1:Sort _}{A B C D:T0→T1→Prop}{G:Prop}(h:∃ x:T0,∃ y:T1,A x y∧B x y∧C x y∧D x y)(k:∀ x:T0,∀ y:T1,A x y→B x y→C x y→D x y→G):G:=h.elim fun a h0=>h0.elim fun b h1=>k a b h1.1 h1.2.1 h1.2.2.1 h1.2.2.2
theorem el53 {T0 T1:Sort _}{A B:Prop}{C D:T0→T1→Prop}{G:Prop}(h:A∧B∧∃ x:T0,∃ y:T1,C x y∧D x y)(k:A→B→∀ x:T0,∀ y:T1,C x y→D x y→G):G:=h.2.2.elim fun a h2=>h2.elim fun b h3=>k h.1 h.2.1 a b h3.1 h3.2
theorem el76 {T0 T1:Sort _}{A:T0→T1→Prop}{G:Prop}(h:∃ x:T0,∃ y:T1,A x y)(k:∀ x:T0,∀ y:T1,A x y→G):G:=h.elim fun a h0=>h0.elim fun b h1=>k a b h1
theorem el50 {T0 T1 T2:Sort _}{A B C D:T0→T1→T2→Prop}{G:Prop}(h:∃ x:T0,∃ y:T1,∃ z:T2,A x y z∧B x y z∧C x y z∧D x y z)(k:∀ x:T0,∀ y:T1,∀ z:T2,A x y z→B x y z→C x y z→D x y z→G):G:=h.elim fun a h0=>h0.elim fun b h1=>h1.elim fun c h2=>k a b c h2.1 h2.2.1 h2.2.2.1 h2.2.2.2
theorem el51 {T0 T1:Sort _}{A B C:T0→Prop}{D:T0→T1→Prop}{G:Prop}(h:∃ x:T0,A x∧B x∧C x∧∃ y:T1,D x y)(k:∀ x:T0,A x→B x→C x→∀ y:T1,D x y→G):G:=h.elim fun a h0=>h0.2.2.2.elim fun b h4=>k a h0.1 h0.2.1 h0.2.2.1 b h4
theorem el24 {T0 T1 T2 T3:Sort _}{A B C:T0→T1→T2→T3→Prop}{D:T0→Prop}{G:Prop}(h:∃ x:T0,(∃ y:T1,∃ z:T2,∃ w:T3,A x y z w∧B x y z w∧C x y z w)∧D x)(k:∀ x:T0,∀ y:T1,∀ z:T2,∀ w:T3,A x y z w→B x y z w→C x y z w→D x→G):G:=h.elim fun a h0=>h0.1.elim fun b h1=>h1.elim fun c h2=>h2.elim fun d h3=>k a b c d h3.1 h3.2.1 h3.2.2 h0.2
theorem el67 {T0 T1:Sort _}{A:Prop}{B:T0→T1→Prop}{G:Prop}(h:A∧∃ x:T0,∃ y:T1,B x y)(k:A→∀ x:T0,∀ y:T1,B x y→G):G:=h.2.elim fun a h1=>h1.elim fun b h2=>k h.1 a b h2
theorem el13 {T0 T1:Sort _}{A B C:Prop}{D E F H I J K L:T0→T1→Prop}{G:Prop}(h:A∧B∧C∧∃ x:T0,∃ y:T1,D x y∧E x y∧F x y∧H x y∧I x y∧J x y∧K x y∧L x y)(k:A→B→C→∀ x:T0,∀ y:T1,D x y→E x y→F x y→H x y→I x y→J x y→K x y→L x y→G):G:=h.2.2.2.elim fun a h3=>h3.elim fun b h4=>k h.1 h.2.1 h.2.2.1 a b h4.1 h4.2.1 h4.2.2.1 h4.2.2.2.1 h4.2.2.2.2.1 h4.2.2.2.2.2.1 h4.2.2.2.2.2.2.1 h4.2.2.2.2.2.2.2
theorem el52 {T0:Sort _}{A B:Prop}{C:T0→Prop}{G:Prop}(h:(A∧B)∧∃ x:T0,C x)(k:A→B→∀ x:T0,C x→G):G:=h.2.elim fun a h2=>k h.1.1 h.1.2 a h2
theorem el17 {T0 T1 T2 T3:Sort _}{A:T0→T1→Prop}{B C D:T0→T1→T2→Prop}{E:T0→T1→T2→T3→Prop}{F:T0→T1→Prop}{G:Prop}(h:∃ x:T0,∃ y:T1,A x y∧(∃ z:T2,B x y z∧C x y z∧D x y z∧∃ w:T3,E x y z w)∧F x y)(k:∀ x:T0,∀ y:T1,A x y→∀ z:T2,B x y z→C x y z→D x y z→∀ w:T3,E x y z w→F x y→G):G:=h.elim fun a h0=>h0.elim fun b h1=>(h1.2).1.elim fun c h3=>h3.2.2.2.elim fun d h7=>k a b h1.1 c h3.1 h3.2.1 h3.2.2.1 d h7 h1.2.2
theorem el74 {T0:Sort _}{A:Prop}{B:T0→Prop}{G:Prop}(h:A∧∃ x:T0,B x)(k:A→∀ x:T0,B x→G):G:=h.2.elim fun a h1=>k h.1 a h1
theorem el32 {T0 T1:Sort _}{A B C D:T0→Prop}{E:T0→T1→Prop}{G:Prop}(h:∃ x:T0,A x∧B x∧(C x∧D x)∧∃ y:T1,E x y)(k:∀ x:T0,A x→B x→C x→D x→∀ y:T1,E x y→G):G:=h.elim fun a h0=>h0.2.2.2.elim fun b h5=>k a h0.1 h0.2.1 (h0.2.2).1.1 (h0.2.2).1.2 b h5
theorem el72 {A B C D:Prop}{G:Prop}(h:A∧B∧C∧D)(k:A→B→C→D→G):G:=k h.1 h.2.1 h.2.2.1 h.2.2.2
theorem el19 {T0 T1 T2 T3:Sort _}{A B C:T0→T1→Prop}{D:T0→T1→T2→T3→Prop}{E:T0→T1→Prop}{G:Prop}(h:∃ x:T0,∃ y:T1,A x y∧B x y∧C x y∧(∃ z:T2,∃ w:T3,D x y z w)∧E x y)(k:∀ x:T0,∀ y:T1,A x y→B x y→C x y→∀ z:T2,∀ w:T3,D x y z w→E x y→G):G:=h.elim fun a h0=>h0.elim fun b h1=>(h1.2.2.2).1.elim fun c h5=>h5.elim fun d h6=>k a b h1.1 h1.2.1 h1.2.2.1 c d h6 h1.2.2.2.2
theorem el27 {T0 T1:Sort _}{A B C D E F H:T0→T1→Prop}{G:Prop}(h:∃ x:T0,∃ y:T1,A x y∧B x y∧C x y∧D x y∧E x y∧F x y∧H x y)(k:∀ x:T0,∀ y:T1,A x y→B x y→C x y→D x y→E x y→F x y→H x y→G):G:=h.elim fun a h0=>h0.elim fun b h1=>k a b h1.1 h1.2.1 h1.2.2.1 h1.2.2.2.1 h1.2.2.2.2.1 h1.2.2.2.2.2.1 h1.2.2.2.2.2.2
theorem el45 {T0 T1 T2:Sort _}{A:Prop}{B C D:T0→T1→T2→Prop}{G:Prop}(h:A∧∃ x:T0,∃ y:T1,∃ z:T2,B x y z∧C x y z∧D x y z)(k:A→∀ x:T0,∀ y:T1,∀ z:T2,B x y z→C x y z→D x y z→G):G:=h.2.elim fun a h1=>h1.elim fun b h2=>h2.elim fun c h3=>k h.1 a b c h3.1 h3.2.1 h3.2.2
theorem el3 {T0 T1 T2 T3:Sort _}{A B C:Prop}{D E F H I J:T0→T1→Prop}{K L:T0→T1→T2→T3→Prop}{M:T0→T1→Prop}{G:Prop}(h:A∧B∧C∧∃ x:T0,∃ y:T1,D x y∧E x y∧F x y∧H x y∧I x y∧J x y∧(∃ z:T2,∃ w:T3,K x y z w∧L x y z w)∧M x y)(k:A→B→C→∀ x:T0,∀ y:T1,D x y→E x y→F x y→H x y→I x y→J x y→∀ z:T2,∀ w:T3,K x y z w→L x y z w→M x y→G):G:=h.2.2.2.elim fun a h3=>h3.elim fun b h4=>(h4.2.2.2.2.2.2).1.elim fun c h11=>h11.elim fun d h12=>k h.1 h.2.1 h.2.2.1 a b h4.1 h4.2.1 h4.2.2.1 h4.2.2.2.1 h4.2.2.2.2.1 h4.2.2.2.2.2.1 c d h12.1 h12.2 h4.2.2.2.2.2.2.2
theorem el36 {T0 T1 T2:Sort _}{A B C D E:T0→T1→T2→Prop}{G:Prop}(h:∃ x:T0,∃ y:T1,∃ z:T2,A x y z∧B x y z∧C x y z∧D x y z∧E x y z)(k:∀ x:T0,∀ y:T1,∀ z:T2,A x y z→B x y z→C x y z→D x y z→E x y z→G):G:=h.elim fun a h0=>h0.elim fun b h1=>h1.elim fun c h2=>k a b c h2.1 h2.2.1 h2.2.2.1 h2.2.2.2.1 h2.2.2.2.2
theorem el25 {T0 T1 T2:Sort _}{A B C:T0→T1→T2→Prop}{D E:T0→T1→Prop}{G:Prop}(h:∃ x:T0,∃ y:T1,(∃ z:T2,A x y z∧B x y z∧C x y z)∧D x y∧E x y)(k:∀ x:T0,∀ y:T1,∀ z:T2,A x y z→B x y z→C x y z→D x y→E x y→G):G:=h.elim fun a h0=>h0.elim fun b h1=>h1.1.elim fun c h2=>k a b c h2.1 h2.2.1 h2.2.2 h1.2.1 h1.2.2
theorem el38 {T0 T1:Sort _}{A B C:T0→T1→Prop}{D:T0→Prop}{G:Prop}(h:∃ x:T0,(∃ y:T1,A x y∧B x y∧C x y)∧D x)(k:∀ x:T0,∀ y:T1,A x y→B x y→C x y→D x→G):G:=h.elim fun a h0=>h0.1.elim fun b h1=>k a b h1.1 h1.2.1 h1.2.2 h0.2
theorem el5 {T0 T1 T2 T3 T4:Sort _}{A B C D E F H I J K:T0→T1→T2→T3→T4→Prop}{G:Prop}(h:∃ x:T0,∃ y:T1,∃ z:T2,∃ w:T3,∃ u:T4,A x y z w u∧B x y z w u∧C x y z w u∧D x y z w u∧E x y z w u∧F x y z w u∧H x y z w u∧I x y z w u∧J x y z w u∧K x y z w u)(k:∀ x:T0,∀ y:T1,∀ z:T2,∀ w:T3,∀ u:T4,A x y z w u→B x y z w u→C x y z w u→D x y z w u→E x y z w u→F x y z w u→H x y z w u→I x y z w u→J x y z w u→K x y z w u→G):G:=h.elim fun a h0=>h0.elim fun b h1=>h1.elim fun c h2=>h2.elim fun d h3=>h3.elim fun e h4=>k a b c d e h4.1 h4.2.1 h4.2.2.1 h4.2.2.2.1 h4.2.2.2.2.1 h4.2.2.2.2.2.1 h4.2.2.2.2.2.2.1 h4.2.2.2.2.2.2.2.1 h4.2.2.2.2.2.2.2.2.1 h4.2.2.2.2.2.2.2.2.2
theorem el69 {T0:Sort _}{A:Prop}{B C:T0→Prop}{G:Prop}(h:A∧∃ x:T0,B x∧C x)(k:A→∀ x:T0,B x→C x→G):G:=h.2.elim fun a h1=>k h.1 a h1.1 h1.2
theorem el77 {A B C:Prop}{G:Prop}(h:A∧B∧C)(k:A→B→C→G):G:=k h.1 h.2.1 h.2.2
theorem el63 {T0:Sort _}{A:Prop}{B C D:T0→Prop}{G:Prop}(h:A∧∃ x:T0,B x∧C x∧D x)(k:A→∀ x:T0,B x→C x→D x→G):G:=h.2.elim fun a h1=>k h.1 a h1.1 h1.2.1 h1.2.2
theorem el2 {T0 T1 T2 T3 T4 T5:Sort _}{A B C D E F H I J K L M N:T0→T1→T2→T3→T4→T5→Prop}{G:Prop}(h:∃ x:T0,∃ y:T1,∃ z:T2,∃ w:T3,∃ u:T4,∃ v:T5,A x y z w u v∧B x y z w u v∧C x y z w u v∧D x y z w u v∧E x y z w u v∧F x y z w u v∧H x y z w u v∧I x y z w u v∧J x y z w u v∧K x y z w u v∧L x y z w u v∧M x y z w u v∧N x y z w u v)(k:∀ x:T0,∀ y:T1,∀ z:T2,∀ w:T3,∀ u:T4,∀ v:T5,A x y z w u v→B x y z w u v→C x y z w u v→D x y z w u v→E x y z w u v→F x y z w u v→H x y z w u v→I x y z w u v→J x y z w u v→K x y z w u v→L x y z w u v→M x y z w u v→N x y z w u v→G):G:=h.elim fun a h0=>h0.elim fun b h1=>h1.elim fun c h2=>h2.elim fun d h3=>h3.elim fun e h4=>h4.elim fun f h5=>k a b c d e f h5.1 h5.2.1 h5.2.2.1 h5.2.2.2.1 h5.2.2.2.2.1 h5.2.2.2.2.2.1 h5.2.2.2.2.2.2.1 h5.2.2.2.2.2.2.2.1 h5.2.2.2.2.2.2.2.2.1 h5.2.2.2.2.2.2.2.2.2.1 h5.2.2.2.2.2.2.2.2.2.2.1 h5.2.2.2.2.2.2.2.2.2.2.2.1 h5.2.2.2.2.2.2.2.2.2.2.2.2
theorem el66 {T0:Sort _}{A B:Prop}{C D:T0→Prop}{G:Prop}(h:A∧B∧∃ x:T0,C x∧D x)(k:A→B→∀ x:T0,C x→D x→G):G:=h.2.2.elim fun a h2=>k h.1 h.2.1 a h2.1 h2.2
theorem el34 {T0 T1 T2:Sort _}{A B:T0→T1→Prop}{C:T0→T1→T2→Prop}{D:T0→Prop}{G:Prop}(h:∃ x:T0,(∃ y:T1,A x y∧B x y∧∃ z:T2,C x y z)∧D x)(k:∀ x:T0,∀ y:T1,A x y→B x y→∀ z:T2,C x y z→D x→G):G:=h.elim fun a h0=>h0.1.elim fun b h1=>h1.2.2.elim fun c h4=>k a b h1.1 h1.2.1 c h4 h0.2
theorem el30 {T0 T1 T2 T3:Sort _}{A B:T0→T1→Prop}{C D E:T0→T1→T2→T3→Prop}{G:Prop}(h:∃ x:T0,∃ y:T1,A x y∧B x y∧∃ z:T2,∃ w:T3,C x y z w∧D x y z w∧E x y z w)(k:∀ x:T0,∀ y:T1,A x y→B x y→∀ z:T2,∀ w:T3,C x y z w→D x y z w→E x y z w→G):G:=h.elim fun a h0=>h0.elim fun b h1=>h1.2.2.elim fun c h4=>h4.elim fun d h5=>k a b h1.1 h1.2.1 c d h5.1 h5.2.1 h5.2.2
theorem el10 {T0 T1 T2 T3 T4 T5:Sort _}{A B:T0→T1→Prop}{C D:T0→T1→T2→T3→Prop}{E F H:T0→T1→T2→T3→T4→T5→Prop}{G:Prop}(h:∃ x:T0,∃ y:T1,A x y∧B x y∧∃ z:T2,∃ w:T3,C x y z w∧D x y z w∧∃ u:T4,∃ v:T5,E x y z w u v∧F x y z w u v∧H x y z w u v)(k:∀ x:T0,∀ y:T1,A x y→B x y→∀ z:T2,∀ w:T3,C x y z w→D x y z w→∀ u:T4,∀ v:T5,E x y z w u v→F x y z w u v→H x y z w u v→G):G:=h.elim fun a h0=>h0.elim fun b h1=>h1.2.2.elim fun c h4=>h4.elim fun d h5=>h5.2.2.elim fun e h8=>h8.elim fun f h9=>k a b h1.1 h1.2.1 c d h5.1 h5.2.1 e f h9.1 h9.2.1 h9.2.2
theorem el62 {T0 T1 T2:Sort _}{A B:T0→T1→T2→Prop}{G:Prop}(h:∃ x:T0,∃ y:T1,∃ z:T2,A x y z∧B x y z)(k:∀ x:T0,∀ y:T1,∀ z:T2,A x y z→B x y z→G):G:=h.elim fun a h0=>h0.elim fun b h1=>h1.elim fun c h2=>k a b c h2.1 h2.2
theorem el64 {T0 T1:Sort _}{A B:T0→Prop}{C:T0→T1→Prop}{G:Prop}(h:∃ x:T0,A x∧B x∧∃ y:T1,C x y)(k:∀ x:T0,A x→B x→∀ y:T1,C x y→G):G:=h.elim fun a h0=>h0.2.2.elim fun b h3=>k a h0.1 h0.2.1 b h3
theorem el12 {T0 T1 T2 T3 T4:Sort _}{A B:T0→T1→Prop}{C:T0→T1→T2→Prop}{D E F:T0→T1→T3→T4→Prop}{G:Prop}(h:∃ x:T0,∃ y:T1,A x y∧(B x y∧∃ z:T2,C x y z)∧∃ w:T3,∃ u:T4,D x y w u∧E x y w u∧F x y w u)(k:∀ x:T0,∀ y:T1,A x y→B x y→∀ z:T2,C x y z→∀ w:T3,∀ u:T4,D x y w u→E x y w u→F x y w u→G):G:=h.elim fun a h0=>h0.elim fun b h1=>(h1.2).1.2.elim fun c h4=>h1.2.2.elim fun d h6=>h6.elim fun e h7=>k a b h1.1 (h1.2).1.1 c h4 d e h7.1 h7.2.1 h7.2.2
theorem el22 {T0 T1 T2:Sort _}{A B C D E F H I:T0→T1→T2→Prop}{G:Prop}(h:∃ x:T0,∃ y:T1,∃ z:T2,A x y z∧B x y z∧C x y z∧D x y z∧E x y z∧F x y z∧H x y z∧I x y z)(k:∀ x:T0,∀ y:T1,∀ z:T2,A x y z→B x y z→C x y z→D x y z→E x y z→F x y z→H x y z→I x y z→G):G:=h.elim fun a h0=>h0.elim fun b h1=>h1.elim fun c h2=>k a b c h2.1 h2.2.1 h2.2.2.1 h2.2.2.2.1 h2.2.2.2.2.1 h2.2.2.2.2.2.1 h2.2.2.2.2.2.2.1 h2.2.2.2.2.2.2.2
theorem el43 {T0 T1 T2:Sort _}{A:Prop}{B C D E:T0→T1→T2→Prop}{G:Prop}(h:A∧∃ x:T0,∃ y:T1,∃ z:T2,B x y z∧C x y z∧D x y z∧E x y z)(k:A→∀ x:T0,∀ y:T1,∀ z:T2,B x y z→C x y z→D x y z→E x y z→G):G:=h.2.elim fun a h1=>h1.elim fun b h2=>h2.elim fun c h3=>k h.1 a b c h3.1 h3.2.1 h3.2.2.1 h3.2.2.2
theorem el16 {T0 T1 T2 T3 T4 T5:Sort _}{A B C D E F:T0→T1→T2→T3→T4→T5→Prop}{G:Prop}(h:∃ x:T0,∃ y:T1,∃ z:T2,∃ w:T3,∃ u:T4,∃ v:T5,A x y z w u v∧B x y z w u v∧C x y z w u v∧D x y z w u v∧E x y z w u v∧F x y z w u v)(k:∀ x:T0,∀ y:T1,∀ z:T2,∀ w:T3,∀ u:T4,∀ v:T5,A x y z w u v→B x y z w u v→C x y z w u v→D x y z w u v→E x y z w u v→F x y z w u v→G):G:=h.elim fun a h0=>h0.elim fun b h1=>h1.elim fun c h2=>h2.elim fun d h3=>h3.elim fun e h4=>h4.elim fun f h5=>k a b c d e f h5.1 h5.2.1 h5.2.2.1 h5.2.2.2.1 h5.2.2.2.2.1 h5.2.2.2.2.2
theorem el59 {T0:Sort _}{A:T0→Prop}{B C:Prop}{G:Prop}(h:(∃ x:T0,A x)∧B∧C)(k:∀ x:T0,A x→B→C→G):G:=h.1.elim fun a h0=>k a h0 h.2.1 h.2.2
theorem el35 {T0 T1 T2:Sort _}{A B:T0→T1→Prop}{C:T0→T1→T2→Prop}{D:T0→T1→Prop}{G:Prop}(h:∃ x:T0,∃ y:T1,A x y∧(B x y∧∃ z:T2,C x y z)∧D x y)(k:∀ x:T0,∀ y:T1,A x y→B x y→∀ z:T2,C x y z→D x y→G):G:=h.elim fun a h0=>h0.elim fun b h1=>(h1.2).1.2.elim fun c h4=>k a b h1.1 (h1.2).1.1 c h4 h1.2.2
theorem el14 {T0 T1 T2 T3 T4:Sort _}{A:T0→T1→T2→T3→Prop}{B C D:T0→T1→T2→T3→T4→Prop}{E:T0→T1→T2→T3→Prop}{G:Prop}(h:∃ x:T0,∃ y:T1,∃ z:T2,∃ w:T3,A x y z w∧(∃ u:T4,B x y z w u∧C x y z w u∧D x y z w u)∧E x y z w)(k:∀ x:T0,∀ y:T1,∀ z:T2,∀ w:T3,A x y z w→∀ u:T4,B x y z w u→C x y z w u→D x y z w u→E x y z w→G):G:=h.elim fun a h0=>h0.elim fun b h1=>h1.elim fun c h2=>h2.elim fun d h3=>(h3.2).1.elim fun e h5=>k a b c d h3.1 e h5.1 h5.2.1 h5.2.2 h3.2.2
theorem el7 {T0 T1 T2 T3 T4:Sort _}{A:T0→T1→T2→T3→Prop}{B C D:T0→T1→T2→T3→T4→Prop}{E F H:T0→T1→T2→T3→Prop}{G:Prop}(h:∃ x:T0,∃ y:T1,∃ z:T2,∃ w:T3,A x y z w∧(∃ u:T4,B x y z w u∧C x y z w u∧D x y z w u)∧E x y z w∧F x y z w∧H x y z w)(k:∀ x:T0,∀ y:T1,∀ z:T2,∀ w:T3,A x y z w→∀ u:T4,B x y z w u→C x y z w u→D x y z w u→E x y z w→F x y z w→H x y z w→G):G:=h.elim fun a h0=>h0.elim fun b h1=>h1.elim fun c h2=>h2.elim fun d h3=>(h3.2).1.elim fun e h5=>k a b c d h3.1 e h5.1 h5.2.1 h5.2.2 h3.2.2.1 h3.2.2.2.1 h3.2.2.2.2
theorem el71 {T0 T1 T2:Sort _}{A:T0→T1→T2→Prop}{G:Prop}(h:∃ x:T0,∃ y:T1,∃ z:T2,A x y z)(k:∀ x:T0,∀ y:T1,∀ z:T2,A x y z→G):G:=h.elim fun a h0=>h0.elim fun b h1=>h1.elim fun c h2=>k a b c h2
theorem el31 {T0 T1 T2 T3:Sort _}{A B C D E:T0→T1→T2→T3→Prop}{G:Prop}(h:∃ x:T0,∃ y:T1,∃ z:T2,∃ w:T3,A x y z w∧B x y z w∧C x y z w∧D x y z w∧E x y z w)(k:∀ x:T0,∀ y:T1,∀ z:T2,∀ w:T3,A x y z w→B x y z w→C x y z w→D x y z w→E x y z w→G):G:=h.elim fun a h0=>h0.elim fun b h1=>h1.elim fun c h2=>h2.elim fun d h3=>k a b c d h3.1 h3.2.1 h3.2.2.1 h3.2.2.2.1 h3.2.2.2.2
theorem el18 {T0 T1 T2:Sort _}{A B C D E F H I J:T0→T1→T2→Prop}{G:Prop}(h:∃ x:T0,∃ y:T1,∃ z:T2,A x y z∧B x y z∧C x y z∧D x y z∧E x y z∧F x y z∧H x y z∧I x y z∧J x y z)(k:∀ x:T0,∀ y:T1,∀ z:T2,A x y z→B x y z→C x y z→D x y z→E x y z→F x y z→H x y z→I x y z→J x y z→G):G:=h.elim fun a h0=>h0.elim fun b h1=>h1.elim fun c h2=>k a b c h2.1 h2.2.1 h2.2.2.1 h2.2.2.2.1 h2.2.2.2.2.1 h2.2.2.2.2.2.1 h2.2.2.2.2.2.2.1 h2.2.2.2.2.2.2.2.1 h2.2.2.2.2.2.2.2.2
theorem el15 {T0 T1 T2 T3 T4:Sort _}{A B C D E F H:T0→T1→T2→T3→T4→Prop}{G:Prop}(h:∃ x:T0,∃ y:T1,∃ z:T2,∃ w:T3,∃ u:T4,A x y z w u∧B x y z w u∧C x y z w u∧D x y z w u∧E x y z w u∧F x y z w u∧H x y z w u)(k:∀ x:T0,∀ y:T1,∀ z:T2,∀ w:T3,∀ u:T4,A x y z w u→B x y z w u→C x y z w u→D x y z w u→E x y z w u→F x y z w u→H x y z w u→G):G:=h.elim fun a h0=>h0.elim fun b h1=>h1.elim fun c h2=>h2.elim fun d h3=>h3.elim fun e h4=>k a b c d e h4.1 h4.2.1 h4.2.2.1 h4.2.2.2.1 h4.2.2.2.2.1 h4.2.2.2.2.2.1 h4.2.2.2.2.2.2
theorem el8 {T0 T1 T2 T3 T4:Sort _}{A B C D E F H I J:T0→T1→T2→T3→T4→Prop}{G:Prop}(h:∃ x:T0,∃ y:T1,∃ z:T2,∃ w:T3,∃ u:T4,A x y z w u∧B x y z w u∧C x y z w u∧D x y z w u∧E x y z w u∧F x y z w u∧H x y z w u∧I x y z w u∧J x y z w u)(k:∀ x:T0,∀ y:T1,∀ z:T2,∀ w:T3,∀ u:T4,A x y z w u→B x y z w u→C x y z w u→D x y z w u→E x y z w u→F x y z w u→H x y z w u→I x y z w u→J x y z w u→G):G:=h.elim fun a h0=>h0.elim fun b h1=>h1.elim fun c h2=>h2.elim fun d h3=>h3.elim fun e h4=>k a b c d e h4.1 h4.2.1 h4.2.2.1 h4.2.2.2.1 h4.2.2.2.2.1 h4.2.2.2.2.2.1 h4.2.2.2.2.2.2.1 h4.2.2.2.2.2.2.2.1 h4.2.2.2.2.2.2.2.2
theorem el46 {T0:Sort _}{A B:T0→Prop}{C D:Prop}{G:Prop}(h:(∃ x:T0,A x∧B x)∧C∧D)(k:∀ x:T0,A x→B x→C→D→G):G:=h.1.elim fun a h0=>k a h0.1 h0.2 h.2.1 h.2.2
theorem el1 {T0 T1 T2 T3 T4 T5 T6:Sort _}{A B C D E F H I J K L M:T0→T1→T2→T3→T4→T5→T6→Prop}{G:Prop}(h:∃ x:T0,∃ y:T1,∃ z:T2,∃ w:T3,∃ u:T4,∃ v:T5,∃ s:T6,A x y z w u v s∧B x y z w u v s∧C x y z w u v s∧D x y z w u v s∧E x y z w u v s∧F x y z w u v s∧H x y z w u v s∧I x y z w u v s∧J x y z w u v s∧K x y z w u v s∧L x y z w u v s∧M x y z w u v s)(k:∀ x:T0,∀ y:T1,∀ z:T2,∀ w:T3,∀ u:T4,∀ v:T5,∀ s:T6,A x y z w u v s→B x y z w u v s→C x y z w u v s→D x y z w u v s→E x y z w u v s→F x y z w u v s→H x y z w u v s→I x y z w u v s→J x y z w u v s→K x y z w u v s→L x y z w u v s→M x y z w u v s→G):G:=h.elim fun a h0=>h0.elim fun b h1=>h1.elim fun c h2=>h2.elim fun d h3=>h3.elim fun e h4=>h4.elim fun f h5=>h5.elim fun i h6=>k a b c d e f i h6.1 h6.2.1 h6.2.2.1 h6.2.2.2.1 h6.2.2.2.2.1 h6.2.2.2.2.2.1 h6.2.2.2.2.2.2.1 h6.2.2.2.2.2.2.2.1 h6.2.2.2.2.2.2.2.2.1 h6.2.2.2.2.2.2.2.2.2.1 h6.2.2.2.2.2.2.2.2.2.2.1 h6.2.2.2.2.2.2.2.2.2.2.2
theorem el6 {T0 T1 T2 T3 T4:Sort _}{A B C:Prop}{D E:T0→T1→Prop}{F H I:T2→T3→T4→Prop}{G:Prop}(h:(A∧B∧C∧∃ x:T0,∃ y:T1,D x y∧E x y)∧∃ z:T2,∃ w:T3,∃ u:T4,F z w u∧H z w u∧I z w u)(k:A→B→C→∀ x:T0,∀ y:T1,D x y→E x y→∀ z:T2,∀ w:T3,∀ u:T4,F z w u→H z w u→I z w u→G):G:=h.1.2.2.2.elim fun a h3=>h3.elim fun b h4=>h.2.elim fun c h7=>h7.elim fun d h8=>h8.elim fun e h9=>k h.1.1 h.1.2.1 h.1.2.2.1 a b h4.1 h4.2 c d e h9.1 h9.2.1 h9.2.2
theorem el4 {T0 T1 T2 T3 T4:Sort _}{A B C D E F H I J K L:T0→T1→T2→T3→T4→Prop}{G:Prop}(h:∃ x:T0,∃ y:T1,∃ z:T2,∃ w:T3,∃ u:T4,A x y z w u∧B x y z w u∧C x y z w u∧D x y z w u∧E x y z w u∧F x y z w u∧H x y z w u∧I x y z w u∧J x y z w u∧K x y z w u∧L x y z w u)(k:∀ x:T0,∀ y:T1,∀ z:T2,∀ w:T3,∀ u:T4,A x y z w u→B x y z w u→C x y z w u→D x y z w u→E x y z w u→F x y z w u→H x y z w u→I x y z w u→J x y z w u→K x y z w u→L x y z w u→G):G:=h.elim fun a h0=>h0.elim fun b h1=>h1.elim fun c h2=>h2.elim fun d h3=>h3.elim fun e h4=>k a b c d e h4.1 h4.2.1 h4.2.2.1 h4.2.2.2.1 h4.2.2.2.2.1 h4.2.2.2.2.2.1 h4.2.2.2.2.2.2.1 h4.2.2.2.2.2.2.2.1 h4.2.2.2.2.2.2.2.2.1 h4.2.2.2.2.2.2.2.2.2.1 h4.2.2.2.2.2.2.2.2.2.2
theorem el23 {T0 T1 T2:Sort _}{A:T0→T1→Prop}{B C D:T0→T1→T2→Prop}{E:T0→T1→Prop}{G:Prop}(h:∃ x:T0,∃ y:T1,A x y∧(∃ z:T2,B x y z∧C x y z∧D x y z)∧E x y)(k:∀ x:T0,∀ y:T1,A x y→∀ z:T2,B x y z→C x y z→D x y z→E x y→G):G:=h.elim fun a h0=>h0.elim fun b h1=>(h1.2).1.elim fun c h3=>k a b h1.1 c h3.1 h3.2.1 h3.2.2 h1.2.2
theorem el40 {T0:Sort _}{A B C D E:T0→Prop}{G:Prop}(h:∃ x:T0,A x∧B x∧(C x∧D x)∧E x)(k:∀ x:T0,A x→B x→C x→D x→E x→G):G:=h.elim fun a h0=>k a h0.1 h0.2.1 (h0.2.2).1.1 (h0.2.2).1.2 h0.2.2.2
theorem el44 {T0 T1 T2 T3:Sort _}{A B C D:T0→T1→T2→T3→Prop}{G:Prop}(h:∃ x:T0,∃ y:T1,∃ z:T2,∃ w:T3,A x y z w∧B x y z w∧C x y z w∧D x y z w)(k:∀ x:T0,∀ y:T1,∀ z:T2,∀ w:T3,A x y z w→B x y z w→C x y z w→D x y z w→G):G:=h.elim fun a h0=>h0.elim fun b h1=>h1.elim fun c h2=>h2.elim fun d h3=>k a b c d h3.1 h3.2.1 h3.2.2.1 h3.2.2.2
theorem el0 {T0 T1 T2 T3 T4 T5 T6 T7:Sort _}{A:T0→T1→Prop}{B C D:T0→T1→T2→T3→Prop}{E:T0→T1→T4→T5→Prop}{F H I:T0→T1→T4→T5→T6→T7→Prop}{J:T0→T1→T4→T5→Prop}{G:Prop}(h:∃ x:T0,∃ y:T1,A x y∧(∃ z:T2,∃ w:T3,B x y z w∧C x y z w∧D x y z w)∧∃ u:T4,∃ v:T5,E x y u v∧(∃ s:T6,∃ t:T7,F x y u v s t∧H x y u v s t∧I x y u v s t)∧J x y u v)(k:∀ x:T0,∀ y:T1,A x y→∀ z:T2,∀ w:T3,B x y z w→C x y z w→D x y z w→∀ u:T4,∀ v:T5,E x y u v→∀ s:T6,∀ t:T7,F x y u v s t→H x y u v s t→I x y u v s t→J x y u v→G):G:=h.elim fun a h0=>h0.elim fun b h1=>(h1.2).1.elim fun c h3=>h3.elim fun d h4=>h1.2.2.elim fun e h8=>h8.elim fun f h9=>(h9.2).1.elim fun i h11=>h11.elim fun j h12=>k a b h1.1 c d h4.1 h4.2.1 h4.2.2 e f h9.1 i j h12.1 h12.2.1 h12.2.2 h9.2.2
theorem el39 {T0 T1 T2:Sort _}{A:T0→T1→Prop}{B:T0→T1→T2→Prop}{C:T0→T1→Prop}{G:Prop}(h:∃ x:T0,∃ y:T1,A x y∧(∃ z:T2,B x y z)∧C x y)(k:∀ x:T0,∀ y:T1,A x y→∀ z:T2,B x y z→C x y→G):G:=h.elim fun a h0=>h0.elim fun b h1=>(h1.2).1.elim fun c h3=>k a b h1.1 c h3 h1.2.2
theorem el11 {T0 T1 T2 T3:Sort _}{A B C D E F:T0→T1→T2→T3→Prop}{H:T0→Prop}{G:Prop}(h:∃ x:T0,(∃ y:T1,∃ z:T2,∃ w:T3,A x y z w∧B x y z w∧C x y z w∧D x y z w∧E x y z w∧F x y z w)∧H x)(k:∀ x:T0,∀ y:T1,∀ z:T2,∀ w:T3,A x y z w→B x y z w→C x y z w→D x y z w→E x y z w→F x y z w→H x→G):G:=h.elim fun a h0=>h0.1.elim fun b h1=>h1.elim fun c h2=>h2.elim fun d h3=>k a b c d h3.1 h3.2.1 h3.2.2.1 h3.2.2.2.1 h3.2.2.2.2.1 h3.2.2.2.2.2 h0.2
theorem el28 {T0 T1 T2:Sort _}{A B:T0→T1→Prop}{C:T0→T1→T2→Prop}{D:T0→T1→Prop}{G:Prop}(h:∃ x:T0,∃ y:T1,A x y∧B x y∧(∃ z:T2,C x y z)∧D x y)(k:∀ x:T0,∀ y:T1,A x y→B x y→∀ z:T2,C x y z→D x y→G):G:=h.elim fun a h0=>h0.elim fun b h1=>(h1.2.2).1.elim fun c h4=>k a b h1.1 h1.2.1 c h4 h1.2.2.2
theorem el21 {T0 T1 T2 T3 T4:Sort _}{A B C D E F:T0→T1→T2→T3→T4→Prop}{G:Prop}(h:∃ x:T0,∃ y:T1,∃ z:T2,∃ w:T3,∃ u:T4,A x y z w u∧B x y z w u∧C x y z w u∧D x y z w u∧E x y z w u∧F x y z w u)(k:∀ x:T0,∀ y:T1,∀ z:T2,∀ w:T3,∀ u:T4,A x y z w u→B x y z w u→C x y z w u→D x y z w u→E x y z w u→F x y z w u→G):G:=h.elim fun a h0=>h0.elim fun b h1=>h1.elim fun c h2=>h2.elim fun d h3=>h3.elim fun e h4=>k a b c d e h4.1 h4.2.1 h4.2.2.1 h4.2.2.2.1 h4.2.2.2.2.1 h4.2.2.2.2.2
theorem el26 {T0 T1 T2 T3 T4:Sort _}{A B C D E:T0→T1→T2→T3→T4→Prop}{G:Prop}(h:∃ x:T0,∃ y:T1,∃ z:T2,∃ w:T3,∃ u:T4,A x y z w u∧B x y z w u∧C x y z w u∧D x y z w u∧E x y z w u)(k:∀ x:T0,∀ y:T1,∀ z:T2,∀ w:T3,∀ u:T4,A x y z w u→B x y z w u→C x y z w u→D x y z w u→E x y z w u→G):G:=h.elim fun a h0=>h0.elim fun b h1=>h1.elim fun c h2=>h2.elim fun d h3=>h3.elim fun e h4=>k a b c d e h4.1 h4.2.1 h4.2.2.1 h4.2.2.2.1 h4.2.2.2.2
theorem el58 {T0 T1:Sort _}{A:Prop}{B C D:T0→T1→Prop}{G:Prop}(h:A∧∃ x:T0,∃ y:T1,B x y∧C x y∧D x y)(k:A→∀ x:T0,∀ y:T1,B x y→C x y→D x y→G):G:=h.2.elim fun a h1=>h1.elim fun b h2=>k h.1 a b h2.1 h2.2.1 h2.2.2
theorem el49 {T0 T1 T2:Sort _}{A:T0→T1→Prop}{B C D:T0→T1→T2→Prop}{G:Prop}(h:∃ x:T0,∃ y:T1,A x y∧∃ z:T2,B x y z∧C x y z∧D x y z)(k:∀ x:T0,∀ y:T1,A x y→∀ z:T2,B x y z→C x y z→D x y z→G):G:=h.elim fun a h0=>h0.elim fun b h1=>h1.2.elim fun c h3=>k a b h1.1 c h3.1 h3.2.1 h3.2.2
theorem el48 {T0 T1:Sort _}{A B C D E:T0→T1→Prop}{G:Prop}(h:∃ x:T0,∃ y:T1,A x y∧B x y∧C x y∧D x y∧E x y)(k:∀ x:T0,∀ y:T1,A x y→B x y→C x y→D x y→E x y→G):G:=h.elim fun a h0=>h0.elim fun b h1=>k a b h1.1 h1.2.1 h1.2.2.1 h1.2.2.2.1 h1.2.2.2.2
theorem el56 {T0:Sort _}{A B C:Prop}{D E:T0→Prop}{G:Prop}(h:A∧B∧C∧∃ x:T0,D x∧E x)(k:A→B→C→∀ x:T0,D x→E x→G):G:=h.2.2.2.elim fun a h3=>k h.1 h.2.1 h.2.2.1 a h3.1 h3.2
theorem nle {a b c:Nat}(h:a≤b)(k:Nat.ble b c=true):a≤c:=Nat.le_trans h (Nat.le_of_ble_eq_true k)
theorem nll {a b c:Nat}(h:a≤b)(k:Nat.ble (b+1) c=true):a<c:=Nat.lt_of_le_of_lt h (Nat.le_of_ble_eq_true k)
theorem nlg {a b c:Nat}(h:a<b)(k:Nat.ble b c=true):a<c:=Nat.lt_of_lt_of_le h (Nat.le_of_ble_eq_true k)
theorem nlh {a b c:Nat}(h:a<b)(k:Nat.ble b c=true):a≤c:=Nat.le_of_lt (Nat.lt_of_lt_of_le h (Nat.le_of_ble_eq_true k))
theorem uq {α:Type _}{x:Option α}{a b:α}(h1:x=some a)(h2:x=some b):a=b:=Option.some.inj (h1.symm.trans h2)
theorem nosn {α:Type _}{x:Option α}{a:α}(h1:x=some a)(h2:x=none):False:=by rw[h1] at h2;cases h2
theorem el41 {T0 T1:Sort _}{A B C:Prop}{D E F:T0→T1→Prop}{G:Prop}(h:A∧B∧C∧∃ x:T0,∃ y:T1,D x y∧E x y∧F x y)(k:A→B→C→∀ x:T0,∀ y:T1,D x y→E x y→F x y→G):G:=h.2.2.2.elim fun a h3=>h3.elim fun b h4=>k h.1 h.2.1 h.2.2.1 a b h4.1 h4.2.1 h4.2.2
theorem el33 {T0 T1 T2:Sort _}{A B C D E F:T0→T1→T2→Prop}{G:Prop}(h:∃ x:T0,∃ y:T1,∃ z:T2,A x y z∧B x y z∧C x y z∧D x y z∧E x y z∧F x y z)(k:∀ x:T0,∀ y:T1,∀ z:T2,A x y z→B x y z→C x y z→D x y z→E x y z→F x y z→G):G:=h.elim fun a h0=>h0.elim fun b h1=>h1.elim fun c h2=>k a b c h2.1 h2.2.1 h2.2.2.1 h2.2.2.2.1 h2.2.2.2.2.1 h2.2.2.2.2.2
theorem el57 {T0 T1 T2 T3:Sort _}{A B:T0→T1→T2→T3→Prop}{G:Prop}(h:∃ x:T0,∃ y:T1,∃ z:T2,∃ w:T3,A x y z w∧B x y z w)(k:∀ x:T0,∀ y:T1,∀ z:T2,∀ w:T3,A x y z w→B x y z w→G):G:=h.elim fun a h0=>h0.elim fun b h1=>h1.elim fun c h2=>h2.elim fun d h3=>k a b c d h3.1 h3.2
theorem el78 {A B:Prop}{G:Prop}(h:A∧B)(k:A→B→G):G:=k h.1 h.2
end Mine
namespace Mine
inductive V where
 | none | bool (b:Bool) | int (i:Int) | str (s:Str) | tup (l:List V) | raw (v:Value)
structure Zip0 where
noncomputable def Fz [Membership Addr Zip0](a:Addr):Prop:=a∈(Zip0.mk)
variable [Membership Addr Zip0]
noncomputable def IsTup (h:Heap)(a:Addr)(xs:Array Value):Prop:=∃ o,h.get? a=some o∧o.cls=.type "tuple"∧(o.dict=none∧¬ Fz a)∧∃ n,o.data=.seq xs n
theorem IsTup.lib {h:Heap}{a:Addr}{xs:Array Value}(t:IsTup h a xs):PyProof.Rows.IsTup h a xs:=el51 (t) fun o e hc _ n hd=>⟨o,e,hc,n,hd⟩
theorem IsTup.typeIs {s:Shared}{a:Addr}{xs:Array Value}(t:IsTup s.heap a xs):s.TypeIs (.ref a) "tuple":=t.lib.typeIs
theorem IsTup.keeps {h h':Heap}{a:Addr}{xs:Array Value}(t:IsTup h a xs)(k:∀ b o,h.get? b=some o→h'.get? b=some o):IsTup h' a xs:=el75 (t) fun o e r=>⟨o,k _ _ e,r⟩
theorem IsTup.new (h:Heap)(xs:Array Value)(nf:¬ Fz h.objs.size):IsTup (h.push { cls:=.type "tuple",data:=.seq xs }) h.objs.size xs:=⟨_,Heap.get?_push_size _ rfl,rfl,⟨rfl,nf⟩,_,rfl⟩
theorem IsTup.push {h:Heap}{a:Addr}{xs:Array Value}(t:IsTup h a xs)(o:Obj):IsTup (h.push o) a xs:=t.keeps fun _ _ e=>Heap.get?_push_of_some _ e
mutual
noncomputable def VR (h:Heap):V→Value→Prop
 | .none,x=>x=.none
 | .bool b,x=>x=.bool b
 | .int i,x=>∃ t,x=.int i t
 | .str s,x=>(s.length≤1000000∧PyData.strOk s=true)∧∃ t,x=.str s t
 | .tup l,x=>∃ a xs,x=.ref a∧IsTup h a xs∧VRs h l xs.toList
 | .raw v,x=>x=v
noncomputable def VRs (h:Heap):List V→List Value→Prop
 | [],xs=>xs=[]
 | v::l,xs=>∃ x r,xs=x::r∧VR h v x∧VRs h l r
end
theorem jt1 (h:Heap):VR h (.none) x=(x=.none):=rfl
theorem jt2 (h:Heap):VR h (.bool b) x=(x=.bool b):=rfl
theorem jt3 (h:Heap):VR h (.int i) x=(∃ t,x=.int i t):=rfl
theorem jt4 (h:Heap):VR h (.str s) x=((s.length≤1000000∧PyData.strOk s=true)∧∃ t,x=.str s t):=rfl
theorem jt5 (h:Heap):VR h (.tup l) x=(∃ a xs,x=.ref a∧IsTup h a xs∧VRs h l xs.toList):=rfl
theorem jt6 (h:Heap):VR h (.raw v) x=(x=v):=rfl
theorem ju1 (h:Heap):VRs h [] xs=(xs=[]):=rfl
theorem ju2 (h:Heap):VRs h (v::l) xs=(∃ x r,xs=x::r∧VR h v x∧VRs h l r):=rfl
noncomputable def Like (o o':Obj):Prop:=o'=o∨(o.cls=.type "frame"∧∃ sl,o'={ o with slots:=sl })
theorem Like.refl (o:Obj):Like o o:=.inl rfl
theorem Like.trans {a b c:Obj}(x:Like a b)(y:Like b c):Like a c:=by
 rcases x with rfl | ⟨h1,sl,rfl⟩
 · exact y
 · rcases y with rfl | ⟨_,sl',rfl⟩
   · exact .inr ⟨h1,sl,rfl⟩
   · exact .inr ⟨h1,sl',rfl⟩
theorem Like.cls {a b:Obj}(x:Like a b):b.cls=a.cls:=by rcases x with rfl | ⟨_,_,rfl⟩ <;> rfl
theorem Like.data {a b:Obj}(x:Like a b):b.data=a.data:=by rcases x with rfl | ⟨_,_,rfl⟩ <;> rfl
theorem Like.eq {a b:Obj}(x:Like a b)(h:a.cls≠.type "frame"):b=a:=by
 rcases x with rfl | ⟨h1,_⟩
 · rfl
 · exact absurd h1 h
structure Ext (B:Addr→Prop) (h h':Heap):Prop where
 keep:∀ a o,¬ B a→h.get? a=some o→∃ o',h'.get? a=some o'∧Like o o'
 size:h.objs.size≤h'.objs.size
theorem Ext.refl {B:Addr→Prop}(h:Heap):Ext B h h:=⟨fun _ o _ e=>⟨o,e,.refl o⟩,Nat.le_refl _⟩
theorem Ext.trans {B B':Addr→Prop}{h h1 h2:Heap}(x:Ext B h h1)(y:Ext B' h1 h2)(hb:∀ a,B' a→B a∨h.objs.size≤a):Ext B h h2:=
 ⟨fun a o ha e=>by
  refine el75 (x.keep a o ha e) ?_;intro o1 e1 l1
  have hlt:=Heap.lt_size e
  have hb':¬ B' a:=fun q=>(hb a q).elim ha fun z=>absurd hlt (Nat.not_lt.mpr z)
  refine el75 (y.keep a o1 hb' e1) ?_;intro o2 e2 l2
  exact⟨o2,e2,l1.trans l2⟩,Nat.le_trans x.size y.size⟩
theorem Ext.mono {B B':Addr→Prop}{h h':Heap}(x:Ext B h h')(hb:∀ a,B a→B' a):Ext B' h h':=⟨fun a o ha e=>x.keep a o (fun q=>ha (hb a q)) e,x.size⟩
theorem Ext.push {B:Addr→Prop}(h:Heap)(o:Obj):Ext B h (h.push o):=⟨fun a o' _ e=>⟨o',Heap.get?_push_of_some _ e,.refl _⟩,by rw[Heap.size_push];exact Nat.le_succ _⟩
theorem Ext.same {B:Addr→Prop}{h h':Heap}{a:Addr}(hs:Heap.SameBut a h h')(ha:B a∨h.objs.size≤a):Ext B h h':=
 ⟨fun b o hb e=>⟨o,(hs.2 b (fun q=>by
  subst q
  rcases ha with ha | ha
  · exact hb ha
  · exact absurd (Heap.lt_size e) (Nat.not_lt.mpr ha))).trans e,.refl _⟩,Nat.le_of_eq hs.1.symm⟩
mutual
theorem VR.mono {h h':Heap}(hk:∀ a xs,IsTup h a xs→IsTup h' a xs):∀ (v:V) (x:Value),VR h v x→VR h' v x
 | .none,_,e=>e
 | .bool _,_,e=>e
 | .int _,_,e=>e
 | .str _,_,e=>e
 | .raw _,_,e=>e
 | .tup l,x,e=>by
  simp only[jt1,jt2,jt3,jt4,jt5,jt6] at e ⊢
  refine el61 e ?_;(try clear e);intro a xs e1 e2 e3
  exact⟨a,xs,e1,hk a xs e2,VRs.mono hk l xs.toList e3⟩
theorem VRs.mono {h h':Heap}(hk:∀ a xs,IsTup h a xs→IsTup h' a xs):∀ (l:List V) (xs:List Value),VRs h l xs→VRs h' l xs
 | [],_,e=>e
 | v::l,xs,e=>by
  simp only[ju1,ju2] at e ⊢
  refine el61 e ?_;(try clear e);intro x r e1 e2 e3
  exact⟨x,r,e1,VR.mono hk v x e2,VRs.mono hk l r e3⟩
end
noncomputable def NoTup (B:Addr→Prop)(h:Heap):Prop:=∀ a xs,B a→¬ IsTup h a xs
theorem IsTup.ext {B:Addr→Prop}{h h':Heap}(n:NoTup B h)(x:Ext B h h'){a:Addr}{xs:Array Value}(t:IsTup h a xs):IsTup h' a xs:=by
 have hb:¬ B a:=fun q=>n a xs q t
 refine el70 t ?_;(try clear t);intro o e hc hd
 refine el75 (x.keep a o hb e) ?_;intro o' e' l
 have:o'=o:=l.eq (by rw[hc];decide)
 subst this
 exact⟨o',e',hc,hd⟩
theorem VR.ext {B:Addr→Prop}{h h':Heap}(n:NoTup B h)(x:Ext B h h'){v:V}{y:Value}(r:VR h v y):VR h' v y:=VR.mono (fun _ _ t=>IsTup.ext n x t) v y r
theorem VRs.ext {B:Addr→Prop}{h h':Heap}(n:NoTup B h)(x:Ext B h h'){v:List V}{y:List Value}(r:VRs h v y):VRs h' v y:=VRs.mono (fun _ _ t=>IsTup.ext n x t) v y r
theorem VRs.length {h:Heap}:∀ {l:List V}{xs:List Value},VRs h l xs→xs.length=l.length
 | [],xs,e=>by simp only[ju1,ju2] at e;subst e;rfl
 | v::l,xs,e=>by
  simp only[ju1,ju2] at e
  refine el61 e ?_;(try clear e);intro x r ze128 _ e3;subst ze128
  simp [VRs.length e3]
theorem VRs.append {h:Heap}:∀ {l l':List V}{xs xs':List Value},VRs h l xs→VRs h l' xs'→VRs h (l++l') (xs++xs')
 | [],l',xs,xs',e,e'=>by simp only[ju1,ju2] at e;subst e;exact e'
 | v::l,l',xs,xs',e,e'=>by
  simp only[ju1,ju2] at e
  refine el61 e ?_;(try clear e);intro x r ze129 e2 e3;subst ze129
  simp only[List.cons_append,ju1,ju2]
  exact⟨x,r++xs',rfl,e2,VRs.append e3 e'⟩
theorem VRs.get {h:Heap}:∀ {l:List V}{xs:List Value}{i:Nat}{v:V},VRs h l xs→l[i]?=some v→∃ x,xs[i]?=some x∧VR h v x
 | [],_,_,_,_,e=>by simp at e
 | w::l,xs,i,v,r,e=>by
  simp only[ju1,ju2] at r
  refine el61 r ?_;(try clear r);intro x r ze130 e2 e3;subst ze130
  cases i with
  | zero=>simp at e;subst e;exact⟨x,rfl,e2⟩
  | succ i=>simp only[List.getElem?_cons_succ] at e ⊢;exact VRs.get e3 e
theorem VRs.none_of {h:Heap}{l:List V}{xs:List Value}{i:Nat}(r:VRs h l xs)(e:l[i]?=none):xs[i]?=none:=by
 rw[List.getElem?_eq_none_iff] at e ⊢
 rw[r.length];exact e
theorem VRs.cons {h:Heap}{v:V}{x:Value}{l:List V}{xs:List Value}(a:VR h v x)(b:VRs h l xs):VRs h (v::l) (x::xs):=by
 simp only[ju1,ju2];exact⟨x,xs,rfl,a,b⟩
theorem VRs.nil {h:Heap}:VRs h [] []:=by simp only[ju1,ju2]
theorem VRs.snoc {h:Heap}{v:V}{x:Value}{l:List V}{xs:List Value}(b:VRs h l xs)(a:VR h v x):VRs h (l++[v]) (xs++[x]):=b.append (.cons a .nil)
inductive MO where
 | list (l:List V)
 | dict (l:List (Str×V))
 | inst (C dx:Addr)
 | ns (l:List (Str×V))
 | exc (C:Addr) (d:Option Addr) (nw:Bool)
 | set (ks:List Str)
 | items (d:Addr)
 | obj (o:Obj)
noncomputable abbrev Sig:=Addr→Option MO
noncomputable abbrev PV:=V→Sig→Prop
noncomputable abbrev VP:=Value→Shared→Prop
noncomputable abbrev UP:=Unit→Shared→Prop
noncomputable abbrev RP:=Result→Shared→Prop
noncomputable def upd (σ:Sig)(a:Addr)(m:MO):Sig:=fun b=>if b=a then some m else σ b
theorem upd_same (σ:Sig)(a:Addr)(m:MO):upd σ a m a=some m:=by simp [upd]
theorem upd_ne (σ:Sig){a b:Addr}(m:MO)(h:b≠a):upd σ a m b=σ b:=by simp [upd,h]
noncomputable def PairsR (h:Heap):List (Str×V)→List (Str×Value)→Prop
 | [],ys=>ys=[]
 | (k,v)::l,ys=>∃ x r,ys=(k,x)::r∧VR h v x∧PairsR h l r
theorem jb1 (h:Heap):PairsR h [] ys=(ys=[]):=rfl
theorem jb2 (h:Heap):PairsR h ((k,v)::l) ys=(∃ x r,ys=(k,x)::r∧VR h v x∧PairsR h l r):=rfl
theorem PairsR.mono {h h':Heap}(hk:∀ a xs,IsTup h a xs→IsTup h' a xs):∀ (l:List (Str×V)) (xs),PairsR h l xs→PairsR h' l xs
 | [],_,e=>e
 | (k,v)::l,xs,e=>by
  simp only[jb1,jb2] at e ⊢
  refine el61 e ?_;(try clear e);intro x r e1 e2 e3
  exact⟨x,r,e1,VR.mono hk v x e2,PairsR.mono hk l r e3⟩
noncomputable def assoc:List (Str×V)→Str→Option V
 | [],_=>none
 | (k,v)::l,x=>if k=x then some v else assoc l x
theorem jv1:assoc [] w1=(none):=rfl
theorem jv2:assoc ((k,v)::l) x=(if k=x then some v else assoc l x):=rfl
noncomputable def EsR (h:Heap):List (Str×V)→List DictEntry→Prop
 | [],es=>es=[]
 | (k,v)::l,es=>∃ hs t x r,es=⟨hs,.str k t,x⟩::r∧VR h v x∧EsR h l r
theorem ja1 (h:Heap):EsR h [] es=(es=[]):=rfl
theorem ja2 (h:Heap):EsR h ((k,v)::l) es=(∃ hs t x r,es=⟨hs,.str k t,x⟩::r∧VR h v x∧EsR h l r):=rfl
theorem EsR.mono {h h':Heap}(hk:∀ a xs,IsTup h a xs→IsTup h' a xs):∀ (l:List (Str×V)) (xs),EsR h l xs→EsR h' l xs
 | [],_,e=>e
 | (k,v)::l,xs,e=>by
  simp only[ja1,ja2] at e ⊢
  refine el47 e ?_;(try clear e);intro hs t x r e1 e2 e3
  exact⟨hs,t,x,r,e1,VR.mono hk v x e2,EsR.mono hk l r e3⟩
noncomputable def SetS (prog:Program)(w:World)(h:Heap)(a:Addr)(es:Array (Int×Value))(led:Bool):Prop:=
 ∃ o ep t,h.get? a=some o∧o.ExactSet∧o.data=.set es ep t∧ElemsOf (strKind prog w) es.toList∧es.size<scanBound∧t.fits es.size=true∧t.led=led∧(es.size≠0→t.plain=false)
noncomputable def KeysAre (es:Array (Int×Value))(ks:List Str):Prop:=∃ ks',StrsAre (es.toList.map (·.2)) ks'∧ks'.Perm ks
noncomputable def byText (w:World):Bool:=w.params.followText "set-order"
section
variable (prog:Program)(w:World)
noncomputable def MR (h:Heap)(a:Addr):MO→Prop
 | .list l=>∃ xs,h.PlainList a xs∧VRs h l xs.toList
 | .dict l=>∃ kvs,h.DictOf (strKind prog w) a kvs∧PairsR h l kvs
 | .inst C dx=>h.get? a=some (instObj C dx)
 | .ns l=>∃ es n,h.get? a=some (W.dictOf es n)∧EsR h l es
 | .exc C d nw=>∃ vs,h.get? a=some ⟨.ref C,d,.fields vs,#[]⟩∧(nw=true→6≤vs.size∧vs[1]?=some .none∧vs[2]?=some .none)
 | .set ks=>∃ es,SetS prog w h a es (!byText w)∧KeysAre es ks
 | .items d=>h.get? a=some { cls:=.type "dict_items",data:=.fields #[.ref d] }
 | .obj o=>h.get? a=some o∧o.cls≠.type "tuple"∧o.cls≠.type "frame"∧∀ v,o.data≠.cell v
theorem MR.there {h:Heap}{a:Addr}{m:MO}(r:MR prog w h a m):∃ o,h.get? a=some o∧o.cls≠.type "tuple"∧o.cls≠.type "frame"∧(∀ v,o.data≠.cell v):=by
 cases m with
 | list l=>refine el60 r ?_;(try clear r);intro xs n e _;exact⟨_,e,(show Value.type "list"≠_ by decide),(show Value.type "list"≠_ by decide),fun v q=>by cases q⟩
 | dict l=>refine el20 r ?_;(try clear r);intro kvs o es ep e hx hd _ _;exact⟨o,e,by rw[hx.1];decide,by rw[hx.1];decide,fun v q=>by rw[hd] at q;cases q⟩
 | inst C dx=>exact⟨_,r,by simp,by simp,fun v q=>by cases q⟩
 | ns l=>refine el68 r ?_;(try clear r);intro es n e _;exact⟨_,e,(show Value.type "dict"≠_ by decide),(show Value.type "dict"≠_ by decide),fun v q=>by cases q⟩
 | exc C d nw=>refine el75 r ?_;(try clear r);intro vs e _;exact⟨_,e,by simp,by simp,fun v q=>by cases q⟩
 | set ks=>refine el20 r ?_;(try clear r);intro es o ep t e hx hd _ _;exact⟨o,e,by rw[hx.1];decide,by rw[hx.1];decide,fun v q=>by rw[hd] at q;cases q⟩
 | items d=>exact⟨_,r,(show Value.type "dict_items"≠_ by decide),(show Value.type "dict_items"≠_ by decide),fun v q=>by cases q⟩
 | obj o=>exact⟨o,r⟩
theorem MR.mono {h h':Heap}{a:Addr}(hk:∀ a xs,IsTup h a xs→IsTup h' a xs)(ho:∀ o,h.get? a=some o→h'.get? a=some o){m:MO}(r:MR prog w h a m):MR prog w h' a m:=by
 cases m with
 | list l=>refine el60 r ?_;(try clear r);intro xs n e r;exact⟨xs,⟨n,ho _ e⟩,VRs.mono hk _ _ r⟩
 | dict l=>refine el29 r ?_;(try clear r);intro kvs o es ep e hx r;exact⟨kvs,⟨o,es,ep,ho _ e,hx⟩,PairsR.mono hk _ _ r⟩
 | inst C dx=>exact ho _ r
 | ns l=>refine el68 r ?_;(try clear r);intro es n e r;exact⟨es,n,ho _ e,EsR.mono hk _ _ r⟩
 | exc C d nw=>refine el75 r ?_;(try clear r);intro vs e r;exact⟨vs,ho _ e,r⟩
 | set ks=>refine el29 r ?_;(try clear r);intro es o ep t e r k;exact⟨es,⟨o,ep,t,ho _ e,r⟩,k⟩
 | items d=>exact ho _ r
 | obj o=>obtain ⟨e,r⟩:=r;exact⟨ho _ e,r⟩
end
end Mine
namespace Mine
variable [Membership Addr Zip0]
structure Cx where
 prog:Program
 w:World
 S:Heap
 K:Frag
 mg:Str→Option Value
 mb:Str→Option Value
 KIn:K.In S
 g:S.Ns mainGlobals mg
 b:S.Ns builtinsNs mb
 blt:∀ x:Str,x≠"__name__"→mb x=bootBuiltins x
 nol:S.NoLimit
 px:Addr→Bool
structure Rel (c:Cx) (σ:Sig) (h:Heap):Prop where
 static:∀ a o,c.S.get? a=some o→h.get? a=some o
 size:c.S.objs.size≤h.objs.size
 fz:∀ a,Fz a→c.S.objs.size≤a∧a+1<h.objs.size
 obj:∀ a m,σ a=some m→c.S.objs.size≤a∧MR c.prog c.w h a m
noncomputable abbrev dom (σ:Sig):Addr→Prop:=fun a=>σ a≠none
noncomputable def Grown (σ:Sig)(h:Heap)(σ':Sig):Prop:=∀ a,σ' a≠none→σ a≠none∨h.objs.size≤a
theorem Grown.refl (σ:Sig)(h:Heap):Grown σ h σ:=fun _ q=>.inl q
theorem Grown.trans {σ σ1 σ2:Sig}{h h1:Heap}(x:Grown σ h σ1)(y:Grown σ1 h1 σ2)(hs:h.objs.size≤h1.objs.size):Grown σ h σ2:=fun a q=>
 (y a q).elim (x a) fun z=>.inr (Nat.le_trans hs z)
section
variable {c:Cx}{σ σ':Sig}{h h':Heap}
theorem Rel.noTup (R:Rel c σ h):NoTup (dom σ) h:=fun a xs q t=>by
 cases e:σ a with
 | none=>exact q e
 | some m=>
  refine el70 (MR.there c.prog c.w (R.obj a m e).2) ?_;intro o ho h1 _
  refine el70 t ?_;(try clear t);intro o' ho' hc _
  obtain rfl:=uq ho ho'
  exact h1 hc
theorem Rel.vr (R:Rel c σ h)(x:Ext (dom σ) h h'){v:V}{y:Value}(r:VR h v y):VR h' v y:=VR.ext R.noTup x r
theorem Rel.vrs (R:Rel c σ h)(x:Ext (dom σ) h h'){v:List V}{y:List Value}(r:VRs h v y):VRs h' v y:=VRs.ext R.noTup x r
theorem Rel.lt (R:Rel c σ h){a:Addr}(q:σ a≠none):a<h.objs.size:=by
 cases e:σ a with
 | none=>exact absurd e q
 | some m=>refine el75 (MR.there c.prog c.w (R.obj a m e).2) ?_;intro o ho _;exact Heap.lt_size ho
theorem Rel.fresh (R:Rel c σ h):σ h.objs.size=none:=by
 cases e:σ h.objs.size with
 | none=>rfl
 | some m=>exact absurd (R.lt (by rw[e];simp)) (Nat.lt_irrefl _)
theorem Rel.nfz (R:Rel c σ h){n:Nat}(hn:h.objs.size≤n+1):¬ Fz n:=fun q=>absurd (R.fz _ q).2 (Nat.not_lt.mpr hn)
theorem Rel.nf (R:Rel c σ h):¬ Fz h.objs.size:=R.nfz (Nat.le_succ _)
theorem oldS {a:Addr}(ha:c.S.objs.size≤a){b:Addr}{o:Obj}(e:c.S.get? b=some o):b≠a:=fun q=>by
 subst q;exact absurd (Heap.lt_size e) (Nat.not_lt.mpr ha)
theorem Rel.grow (R:Rel c σ h)(hk:∀ b o,h.get? b=some o→h'.get? b=some o)(hs:h.objs.size≤h'.objs.size):Rel c σ h':=
 ⟨fun a o e=>hk a o (R.static a o e),Nat.le_trans R.size hs,fun a q=>⟨(R.fz a q).1,Nat.lt_of_lt_of_le (R.fz a q).2 hs⟩,fun a m e=>⟨(R.obj a m e).1,MR.mono c.prog c.w (fun a xs t=>IsTup.keeps t hk) (fun o=>hk a o) (R.obj a m e).2⟩⟩
theorem Rel.push (R:Rel c σ h)(o:Obj):Rel c σ (h.push o):=R.grow (fun _ _ e=>Heap.get?_push_of_some _ e) (by rw[Heap.size_push];exact Nat.le_succ _)
theorem Rel.beside (R:Rel c σ h){B:Addr→Prop}(x:Ext B h h')(n:NoTup B h)(hσ:∀ a,B a→σ a=none)(hS:∀ a,B a→c.S.objs.size≤a)
 (hS':∀ a o,c.S.get? a=some o→h'.get? a=some o):Rel c σ h':=
 ⟨hS',Nat.le_trans R.size x.size,fun a q=>⟨(R.fz a q).1,Nat.lt_of_lt_of_le (R.fz a q).2 x.size⟩,fun a m e=>⟨(R.obj a m e).1,by
  refine MR.mono c.prog c.w (fun a xs t=>IsTup.ext n x t) (fun o ho=>?_) (R.obj a m e).2
  have hb:¬ B a:=fun q=>by rw[hσ a q] at e;cases e
  refine el75 (x.keep a o hb ho) ?_;intro o' e' l
  refine el65 (MR.there c.prog c.w (R.obj a m e).2) ?_;intro o'' ho'' _ hf _
  obtain rfl:=uq ho ho''
  rw[l.eq hf] at e';exact e'⟩⟩
theorem Rel.same (R:Rel c σ h){a:Addr}(hs:Heap.SameBut a h h')(ha:σ a=none)(hS:c.S.objs.size≤a)(ht:∀ xs,¬ IsTup h a xs):Rel c σ h':=
 R.beside (B:=fun b=>b=a) (.same hs (.inl rfl)) (fun b xs q t=>by subst q;exact ht xs t) (fun b q=>by subst q;exact ha) (fun b q=>by subst q;exact hS)
  fun b o e=>(hs.2 b (oldS hS e)).trans (R.static b o e)
theorem Rel.change (R:Rel c σ h){a:Addr}{m m':MO}(e:σ a=some m)(hs:Heap.SameBut a h h')(hm:MR c.prog c.w h' a m'):Rel c (upd σ a m') h':=by
 have x:Ext (dom σ) h h':=.same hs (.inl (by show σ a≠none;rw[e];simp))
 refine⟨fun b o q=>(hs.2 b (oldS (R.obj a m e).1 q)).trans (R.static b o q),Nat.le_trans R.size x.size,fun a q=>⟨(R.fz a q).1,Nat.lt_of_lt_of_le (R.fz a q).2 x.size⟩,fun b mb q=>?_⟩
 by_cases hb:b=a
 · subst hb;rw[upd_same] at q;cases q;exact⟨(R.obj b m e).1,hm⟩
 · rw[upd_ne _ _ hb] at q
   exact⟨(R.obj b mb q).1,MR.mono c.prog c.w (fun a xs t=>IsTup.ext R.noTup x t) (fun o ho=>(hs.2 b hb).trans ho) (R.obj b mb q).2⟩
theorem Rel.add (R:Rel c σ h){a:Addr}{m:MO}(ha:c.S.objs.size≤a)(hm:MR c.prog c.w h a m):Rel c (upd σ a m) h:=
 ⟨R.static,R.size,R.fz,fun b mb q=>by
  by_cases hb:b=a
  · subst hb;rw[upd_same] at q;cases q;exact⟨ha,hm⟩
  · rw[upd_ne _ _ hb] at q;exact R.obj b mb q⟩
noncomputable def Sub (σ' σ:Sig):Prop:=∀ a m,σ' a=some m→σ a=some m
theorem Sub.refl (σ:Sig):Sub σ σ:=fun _ _ e=>e
theorem Sub.upd {a:Addr}{m:MO}(h:σ a=none):Sub σ (upd σ a m):=fun b mb e=>by
 by_cases hb:b=a
 · subst hb;exact (nosn e h).elim
 · rw[upd_ne _ _ hb];exact e
theorem Sub.trans {σ1 σ2 σ3:Sig}(x:Sub σ1 σ2)(y:Sub σ2 σ3):Sub σ1 σ3:=fun a m e=>y a m (x a m e)
theorem Rel.forget (R:Rel c σ h)(x:Sub σ' σ):Rel c σ' h:=⟨R.static,R.size,R.fz,fun a m e=>R.obj a m (x a m e)⟩
theorem Grown.sub {σ1:Sig}(x:Grown σ h σ1)(y:Sub σ' σ1):Grown σ h σ':=fun a q=>x a (by
 cases e:σ' a with
 | none=>exact absurd e q
 | some m=>rw[y a m e];simp)
theorem Grown.upd {a:Addr}{m:MO}(ha:σ a≠none∨h.objs.size≤a):Grown σ h (upd σ a m):=fun b q=>by
 by_cases hb:b=a
 · subst hb;exact ha
 · rw[upd_ne _ _ hb] at q;exact .inl q
end
noncomputable def FrameOk (c:Cx)(σ:Sig)(h:Heap)(e:Env):Prop:=
 ∃ f o,e.frame=some f∧h.get? f=some o∧o.cls=.type "frame"∧(∃ es n,o.data=.dict es n)∧σ f=none∧c.S.objs.size≤f∧e.scope.kind≠.module
structure Lv where
 n:Nat
 hn:Bool
structure AOk (c:Cx) (N:Lv) (A:Around) (σ:Sig) (h:Heap):Prop where
 depth:A.depth+N.n<recursionLimit
 units:A.units+16*N.n<cLine
 han:N.hn=true→A.handled=none
 frames:∃ l,A.frames=some l∧∀ e∈l,FrameOk c σ h e
 guards:A.guards=some []
theorem FrameOk.ext {c:Cx}{σ σ':Sig}{h h':Heap}{e:Env}{B:Addr→Prop}(F:FrameOk c σ h e)(x:Ext B h h')(hB:∀ f,e.frame=some f→¬ B f)(g:Grown σ h σ'):FrameOk c σ' h' e:=by
 refine el9 F ?_;(try clear F);intro f o e1 e2 e3 es n e4 e5 e6 e7
 refine el75 (x.keep f o (hB f e1) e2) ?_;intro o' e' l
 refine⟨f,o',e1,e',l.cls.trans e3,⟨es,n,l.data.trans e4⟩,?_,e6,e7⟩
 cases q:σ' f with
 | none=>rfl
 | some m=>exact ((g f (by rw[q];simp)).elim (fun z=>absurd e5 z) fun z=>absurd (Heap.lt_size e2) (Nat.not_lt.mpr z))
theorem AOk.ext {c:Cx}{N:Lv}{A:Around}{σ σ':Sig}{h h':Heap}(a:AOk c N A σ h)(x:Ext (dom σ) h h')(g:Grown σ h σ'):AOk c N A σ' h':=
 ⟨a.depth,a.units,a.han,let ⟨l,e,f⟩:=a.frames;⟨l,e,fun y hy=>(f y hy).ext x (fun k hk q=>by
  refine el37 (f y hy) ?_;intro f' o e1 _ _ _ e5 _
  obtain rfl:=uq e1 hk
  exact q e5) g⟩,a.guards⟩
noncomputable abbrev Rho:=List (Str×Option V)
noncomputable def VarR (env:Env)(h:Heap)(m:Str→Option Value)(x:Str)(v:V):Prop:=
 (env.kindOf x=some .local∧∃ y,m x=some y∧VR h v y) ∨
 (env.kindOf x=some .cell∧∃ k y,env.cells.lookup x=some k∧h.IsCell k (some y)∧VR h v y)
structure EnvR (c:Cx) (σ:Sig) (env:Env) (ρ:Rho) (h:Heap):Prop where
 kind:env.scope.kind=.function
 glob:env.globals=mainGlobals
 blt:env.builtins=builtinsNs
 loc:σ env.locals=none∧c.S.objs.size≤env.locals
 cells:∀ x k,env.cells.lookup x=some k→σ k=none∧c.S.objs.size≤k∧∃ v,h.IsCell k v
 apart:env.cells.Pairwise fun x y=>x.2≠y.2
 vars:∃ m,h.Ns env.locals m∧∀ x v,(x,some v)∈ρ→VarR env h m x v
 nodup:(ρ.map (·.1)).Nodup
 kinds:∀ x∈ρ.map (·.1),env.kindOf x=some .local∨(env.kindOf x=some .cell∧∃ k,env.cells.lookup x=some k)
 own:env.frame=some env.locals∨∃ o,h.get? env.locals=some o∧o.cls≠.type "frame"
 hand:∃ f o,env.frame=some f∧h.get? f=some o∧o.cls=.type "frame"∧∃ es n,o.data=.dict es n
noncomputable def mine (env:Env):Addr→Prop:=fun a=>a=env.locals∨∃ x,env.cells.lookup x=some a
section
variable {c:Cx}{σ σ':Sig}{h h':Heap}{env:Env}{ρ:Rho}
theorem Ns.like {h h':Heap}{a:Addr}{m:Str→Option Value}{B:Addr→Prop}(n:h.Ns a m)(x:Ext B h h')(hb:¬ B a):h'.Ns a m:=by
 refine el55 n ?_;(try clear n);intro o es ep e1 e2 r
 refine el75 (x.keep a o hb e1) ?_;intro o' e' l
 exact⟨o',es,ep,e',l.data.trans e2,r⟩
theorem IsCell.like {h h':Heap}{a:Addr}{v:Option Value}{B:Addr→Prop}(n:h.IsCell a v)(x:Ext B h h')(hb:¬ B a):h'.IsCell a v:=by
 refine el75 n ?_;(try clear n);intro o e1 e2
 refine el75 (x.keep a o hb e1) ?_;intro o' e' l
 exact⟨o',e',l.data.trans e2⟩
theorem grown_none {a:Addr}(g:Grown σ h σ')(e:σ a=none)(hlt:a<h.objs.size):σ' a=none:=by
 cases q:σ' a with
 | none=>rfl
 | some m=>exact ((g a (by rw[q];simp)).elim (fun z=>absurd e z) fun z=>absurd hlt (Nat.not_lt.mpr z))
theorem EnvR.ext (E:EnvR c σ env ρ h)(R:Rel c σ h)(x:Ext (dom σ) h h')(g:Grown σ h σ'):EnvR c σ' env ρ h':=by
 refine el75 E.vars ?_;intro m hn hv
 have hl:¬ dom σ env.locals:=fun q=>q E.loc.1
 refine⟨E.kind,E.glob,E.blt,⟨grown_none g E.loc.1 hn.lt,E.loc.2⟩,fun y k e=>?_,E.apart,⟨m,Ns.like hn x hl,fun y v hm=>?_⟩,E.nodup,E.kinds,?_,?_⟩
 · refine el73 (E.cells y k e) ?_;intro a1 a2 v a3
   exact⟨grown_none g a1 a3.lt,a2,v,IsCell.like a3 x fun q=>q a1⟩
 · rcases hv y v hm with ⟨k1,z,e1,e2⟩ | ⟨k1,k,z,e1,e2,e3⟩
   · exact .inl ⟨k1,z,e1,R.vr x e2⟩
   · refine el73 (E.cells y k e1) ?_;intro a1 a2 v a3
     exact .inr ⟨k1,k,z,e1,IsCell.like e2 x fun q=>q a1,R.vr x e3⟩
 · refine E.own.imp id fun zu1=>?_
   refine el75 zu1 ?_;(try clear zu1);intro o e1 e2
   refine el75 (x.keep _ o hl e1) ?_;intro o' e' l
   exact⟨o',e',fun q=>e2 (l.cls.symm.trans q)⟩
 · refine el42 E.hand ?_;intro f o e1 e2 e3 es n e4
   by_cases hf:σ f=none
   · refine el75 (x.keep f o (fun q=>q hf) e2) ?_;intro o' e' l
     exact⟨f,o',e1,e',l.cls.trans e3,es,n,l.data.trans e4⟩
   · exfalso
     cases q:σ f with
     | none=>exact hf q
     | some mo=>
      refine el65 (MR.there c.prog c.w (R.obj f mo q).2) ?_;intro o'' ho'' _ h3 _
      obtain rfl:=uq e2 ho'';exact h3 e3
end
noncomputable abbrev both (σ:Sig)(env:Env):Addr→Prop:=fun a=>dom σ a∨mine env a
theorem AOk.ext2 {c:Cx}{N:Lv}{A:Around}{σ σ':Sig}{h h':Heap}{env:Env}{ρ ρ':Rho}(a:AOk c N A σ h)(E:EnvR c σ env ρ h)(x:Ext (both σ env) h h')(g:Grown σ h σ')(E':EnvR c σ' env ρ' h'):AOk c N A σ' h':=
 ⟨a.depth,a.units,a.han,let ⟨l,e,f⟩:=a.frames;⟨l,e,fun y hy=>by
  refine el37 (f y hy) ?_;intro f' o e1 e2 e3 e4 e5 e6
  by_cases hm:mine env f'
  · rcases hm with rfl | ⟨z,hz⟩
    · have hf:env.frame=some env.locals:=E.own.elim id fun ⟨o',q1,q2⟩=>by obtain rfl:=uq e2 q1;exact absurd e3 q2
      refine el54 E'.hand ?_;intro f2 o2 p1 p2 p3 p4
      obtain rfl:=uq hf p1
      exact⟨_,o2,e1,p2,p3,p4,E'.loc.1,e6⟩
    · refine el53 (E.cells z f' hz) ?_;intro _ _ v o' q1 q2
      refine el76 e4 ?_;(try clear e4);intro es n e4
      obtain rfl:=uq e2 q1;rw[e4] at q2;cases q2
  · exact (show FrameOk c σ h y from ⟨f',o,e1,e2,e3,e4,e5,e6⟩).ext x (fun k hk q=>by
     obtain rfl:=uq e1 hk
     exact q.elim (fun z=>z e5) hm) g⟩,a.guards⟩
structure Exn where
 C:Addr
 fs:List (Str×V)
noncomputable abbrev PX:=Exn→Sig→Prop
noncomputable abbrev PE:=Exn→Rho→Sig→Prop
noncomputable def Fly (c:Cx)(σ:Sig)(lo:Nat)(h:Heap)(e:Addr)(ex:Exn):Prop:=
 lo≤e∧c.S.objs.size≤e∧σ e=none∧∃ dx vs,h.get? e=some ⟨.ref ex.C,some dx,.fields vs,#[]⟩∧(6≤vs.size∧(c.px ex.C=true→vs[2]?=some .none))∧lo≤dx∧c.S.objs.size≤dx∧σ dx=none∧dx≠e ∧
  (∃ es n,h.get? dx=some (W.dictOf es n)∧EsR h ex.fs es) ∧
  (vs[1]?=some .none∨∃ tb ot us,vs[1]?=some (.ref tb)∧lo≤tb∧c.S.objs.size≤tb∧σ tb=none∧tb≠e∧tb≠dx∧h.get? tb=some ot∧ot.cls=.type "traceback"∧ot.data=.fields us∧5≤us.size)
end Mine
namespace Mine
variable [Membership Addr Zip0]
open Sem (wp)
theorem putName_cls (name:Str)(hsh:Int)(key v:Value)(o:Obj):(Obj.putName name hsh key v o).cls=o.cls:=by
 rw[Obj.putName_eq];obtain ⟨c,d,dt,sl⟩:=o;cases dt <;> simp only[Obj.putNameByArray]
 split <;> rfl
theorem nsSet_iff {M:Model}{Γ:Ctx}{E:Value→Pos→Shared→Prop}{p:Pos}{s:Shared}{a:Addr}{m}(hn:s.heap.Ns a m)(name:Str)(v:Value) :
 ∃ hsh key,∀ Q:Unit→Pos→Shared→Prop,wp M Γ (nsSet a name v) Q E p s ↔ Q () p { s with heap:=s.heap.update a (Obj.putName name hsh key v),toks:=s.toks+1 }:=by
 refine el50 hn ?_;(try clear hn);intro o es ep ho hd hk hm
 refine⟨(if name.cps.isEmpty then 0 else reduceHash (M.w.params.strHash name.cps)),Value.str name s.toks,fun Q=>?_⟩
 simp only[nsSet,strHash,Sem.wp_bind',Sem.wp_cmd_ask,Sem.wp_pure',Sem.wp_cmd_mkText]
 rw[Sem.wp_loadPart_of M Γ E p { s with toks:=s.toks+1 } (o:=o) _ ho]
 have hany:es.any (·.refKey)=false:=by
  rw[Array.any_eq_false'];intro e he;refine el76 (hk e he) ?_;intro n t h;simp [DictEntry.refKey,h]
 simp only[hd,aRefKeyMayBeTheName_eq,aRefKeyMayBeTheNameByArray,hany,Bool.and_false,Bool.false_eq_true,if_false,Sem.wp_cmd_updatePart]
 exact⟨fun h=>h.2,fun h=>⟨by rw[ho];rfl,h⟩⟩
theorem nsSet_ {M:Model}{A:Around}{E:VP}{s:Shared}{a:Addr}{m}{name:Str}{v:Value}{Q:UP}(hn:s.heap.Ns a m)
 (h:∀ h',h'.Ns a (fun x=>if x=name then some v else m x)→Heap.SameBut a s.heap h'→(∀ o,s.heap.get? a=some o→∃ o',h'.get? a=some o'∧o'.cls=o.cls)→Q () { s with heap:=h',toks:=s.toks+1 }) :
 wpAny M A (nsSet a name v) Q E s:=fun Γ p hΓ=>by
 refine el76 (nsSet_iff (M:=M) (Γ:=Γ) (E:=fun e _ s'=>E e s') (p:=p) hn name v) ?_;intro hsh key hi
 rw[hi]
 have q:=(hi (fun _ _ s'=>s'.heap.Ns a (fun x=>if x=name then some v else m x)∧Heap.SameBut a s.heap s'.heap)).mp (Sem.wp_nsSet M Γ _ p s hn name v _ fun h' a b=>⟨a,b⟩)
 refine h _ q.1 q.2 fun o ho=>?_
 refine el55 q.1 ?_;intro o' _ _ ho' hd' _
 refine⟨o',ho',?_⟩
 refine el55 hn ?_;(try clear hn);intro o₀ es ep ho₀ hd₀ _
 obtain rfl:=uq ho ho₀
 have:(s.heap.update a (Obj.putName name hsh key v)).get? a=some (Obj.putName name hsh key v o):=by
  refine Heap.get?_update_self _ ho ?_
  rw[Obj.putName_eq];obtain ⟨c,d,dt,sl⟩:=o;subst hd₀;simp only[Obj.putNameByArray];split <;> rfl
 have ho'':(s.heap.update a (Obj.putName name hsh key v)).get? a=some o':=ho'
 obtain rfl:=uq this ho''
 exact putName_cls ..
end Mine
namespace Mine
variable [Membership Addr Zip0]
noncomputable abbrev Tk:=Nat×Drawn
noncomputable abbrev tks (s:Shared):Tk:=(s.toks,s.drawn)
noncomputable def at_ (s:Shared)(h:Heap)(tk:Tk):Shared:={ s with heap:=h,toks:=tk.1,drawn:=tk.2 }
inductive Put (x:Str) (v:Option V):Rho→Rho→Prop
 | here {u r}:Put x v ((x,u)::r) ((x,v)::r)
 | there {p r r'}:Put x v r r'→Put x v (p::r) (p::r')
theorem Put.keys {x:Str}{v:Option V}{ρ ρ':Rho}(p:Put x v ρ ρ'):ρ'.map (·.1)=ρ.map (·.1):=by
 induction p with
 | here=>rfl
 | there _ ih=>simp [ih]
theorem Put.mem {x:Str}{v:Option V}{ρ ρ':Rho}(p:Put x v ρ ρ'):x∈ρ.map (·.1):=by
 induction p with
 | here=>simp
 | there _ ih=>simp only[List.map_cons];exact .tail _ ih
theorem Put.cases {x:Str}{v:Option V}{ρ ρ':Rho}(p:Put x v ρ ρ')(n:(ρ.map (·.1)).Nodup){y:Str}{u:Option V}(m:(y,u)∈ρ'):(y=x∧u=v)∨(y≠x∧(y,u)∈ρ):=by
 induction p with
 | @here u' r=>
  rcases List.mem_cons.mp m with e | m'
  · cases e;exact .inl ⟨rfl,rfl⟩
  · refine .inr ⟨?_,.tail _ m'⟩
    rintro rfl
    rw[List.map_cons,List.nodup_cons] at n
    exact n.1 (List.mem_map.mpr ⟨_,m',rfl⟩)
 | @there q r r' p ih=>
  rw[List.map_cons,List.nodup_cons] at n
  rcases List.mem_cons.mp m with e | m
  · subst e
    refine .inr ⟨?_,.head _⟩
    rintro rfl
    exact n.1 p.mem
  · rcases ih n.2 m with h | ⟨h1,h2⟩
    · exact .inl h
    · exact .inr ⟨h1,.tail _ h2⟩
section
variable {c:Cx}{σ:Sig}{env:Env}{ρ ρ':Rho}{M:Model}{A:Around}{E:VP}{s:Shared}
theorem EnvR.mine_noTup {h:Heap}(Ev:EnvR c σ env ρ h):NoTup (mine env) h:=by
 intro a xs q zu2
 refine el51 zu2 ?_;(try clear zu2);intro o ho hc _ n hd
 rcases q with rfl | ⟨x,e⟩
 · refine el24 Ev.vars ?_;intro m o' es ep h1 h2 _ _
   obtain rfl:=uq ho h1
   rw[hd] at h2;cases h2
 · refine el53 (Ev.cells x a e) ?_;intro _ _ v o' h1 h2
   obtain rfl:=uq ho h1
   rw[hd] at h2;cases h2
theorem cells_ne {env:Env}(ap:env.cells.Pairwise fun x y=>x.2≠y.2){x y:Str}{k k':Addr}(h:env.cells.lookup x=some k)(h':env.cells.lookup y=some k')(hxy:y≠x):k'≠k:=fun e=>
 hxy (name_of_addr ap (e ▸ mem_of_lookup h') (mem_of_lookup h))
theorem store_ {x:Str}{v:V}{y:Value}{Q:UP}(R:Rel c σ s.heap)(Ev:EnvR c σ env ρ s.heap)(p:Put x (some v) ρ ρ')(r:VR s.heap v y)
 (h:∀ h' tk,Rel c σ h'→EnvR c σ env ρ' h'→Ext (mine env) s.heap h'→(∀ o,s.heap.get? env.locals=some o→∃ o',h'.get? env.locals=some o'∧o'.cls=o.cls)→Q () (at_ s h' tk)) :
 wpAny M A (storeName env x y) Q E s:=by
 refine el75 Ev.vars ?_;intro m hn hv
 have hp:(env.scope.kind==.class||(env.scope.kind==.module&&env.locals != env.globals))=false:=by rw[Ev.kind];rfl
 have nt:=Ev.mine_noTup
 rcases Ev.kinds x p.mem with hl | ⟨hl,k,hk⟩
 · rw[storeName_local hl hp]
   refine nsSet_ hn fun h' hn' hs hc=>?_
   have X:Ext (mine env) s.heap h':=.same hs (.inl (.inl rfl))
   have R':Rel c σ h':=R.same hs Ev.loc.1 Ev.loc.2 fun xs t=>nt _ _ (.inl rfl) t
   refine h h' (s.toks+1,s.drawn) R' ⟨Ev.kind,Ev.glob,Ev.blt,Ev.loc,fun z k' e=>?_,Ev.apart,⟨_,hn',fun z u hm=>?_⟩,by rw[p.keys];exact Ev.nodup,fun z hz=>Ev.kinds z (by rw[← p.keys];exact hz),Ev.own.imp id fun zu=>el75 zu fun o e1 e2=>(hc o e1).imp fun o' q=>⟨q.1,by rw[q.2];exact e2⟩,?_⟩ X hc
   · refine el73 (Ev.cells z k' e) ?_;intro a1 a2 u a3
     refine⟨a1,a2,u,a3.sameBut hs fun q=>?_⟩
     subst q
     refine el75 a3 ?_;(try clear a3);intro o h1 h2
     refine el55 hn ?_;(try clear hn);intro o' es ep h3 h4 _
     obtain rfl:=uq h1 h3;rw[h2] at h4;cases h4
   · rcases p.cases Ev.nodup hm with ⟨rfl,e⟩ | ⟨hne,hm'⟩
     · cases e
       exact .inl ⟨hl,y,by simp,VR.ext nt X r⟩
     · rcases hv z u hm' with ⟨k1,y1,e1,e2⟩ | ⟨k1,k',y1,e1,e2,e3⟩
       · exact .inl ⟨k1,y1,by simp [hne,e1],VR.ext nt X e2⟩
       · refine .inr ⟨k1,k',y1,e1,e2.sameBut hs fun q=>?_,VR.ext nt X e3⟩
         subst q
         refine el75 e2 ?_;(try clear e2);intro o h1 h2
         refine el55 hn ?_;(try clear hn);intro o' es ep h3 h4 _
         obtain rfl:=uq h1 h3;rw[h2] at h4;cases h4
   · refine el61 Ev.hand ?_;intro f o e1 e2 e3
     by_cases hf:f=env.locals
     · subst hf
       refine el75 (hc o e2) ?_;intro o' e4 e5
       refine el55 hn' ?_;(try clear hn');intro o'' es ep e6 e7 _
       obtain rfl:=uq e4 e6
       exact⟨_,o',e1,e4,e5.trans e3.1,es,ep,e7⟩
     · exact⟨f,o,e1,(hs.2 f hf).trans e2,e3⟩
 · refine el73 (Ev.cells x k hk) ?_;intro a1 a2 u0 a3
   have hkl:k≠env.locals:=fun q=>by
    subst q
    refine el75 a3 ?_;(try clear a3);intro o h1 h2
    refine el55 hn ?_;(try clear hn);intro o' es ep h3 h4 _
    obtain rfl:=uq h1 h3;rw[h2] at h4;cases h4
   refine wpAny_storeName_cell Ev.kind hl hk a3 fun h' hc' hs=>?_
   have X:Ext (mine env) s.heap h':=.same hs (.inl (.inr ⟨x,hk⟩))
   have R':Rel c σ h':=R.same hs a1 a2 fun xs t=>nt _ _ (.inr ⟨x,hk⟩) t
   refine h h' (tks s) R' ⟨Ev.kind,Ev.glob,Ev.blt,Ev.loc,fun z k' e=>?_,Ev.apart,⟨m,hn.sameBut hs hkl.symm,fun z u hm=>?_⟩,by rw[p.keys];exact Ev.nodup,fun z hz=>Ev.kinds z (by rw[← p.keys];exact hz),Ev.own.imp id fun zu=>el75 zu fun o e1 e2=>⟨o,(hs.2 _ hkl.symm).trans e1,e2⟩,?_⟩ X
    fun o ho=>⟨o,(hs.2 _ hkl.symm).trans ho,rfl⟩
   · refine el73 (Ev.cells z k' e) ?_;intro b1 b2 u b3
     by_cases q:k'=k
     · subst q;exact⟨b1,b2,_,hc'⟩
     · exact⟨b1,b2,u,b3.sameBut hs q⟩
   · rcases p.cases Ev.nodup hm with ⟨rfl,e⟩ | ⟨hne,hm'⟩
     · cases e
       exact .inr ⟨hl,k,y,hk,hc',VR.ext nt X r⟩
     · rcases hv z u hm' with ⟨k1,y1,e1,e2⟩ | ⟨k1,k',y1,e1,e2,e3⟩
       · exact .inl ⟨k1,y1,e1,VR.ext nt X e2⟩
       · exact .inr ⟨k1,k',y1,e1,e2.sameBut hs (cells_ne Ev.apart hk e1 hne),VR.ext nt X e3⟩
   · refine el61 Ev.hand ?_;intro f o e1 e2 e3
     refine⟨f,o,e1,(hs.2 f fun q=>?_).trans e2,e3⟩
     subst q
     refine el75 a3 ?_;(try clear a3);intro o' h1 h2
     obtain rfl:=uq e2 h1
     refine el67 e3 ?_;(try clear e3);intro _ es n e4
     rw[e4] at h2;cases h2
end
end Mine
namespace Mine
variable [Membership Addr Zip0]
section
variable (c:Cx){α β:Type}
noncomputable def Post (σ:Sig)(s:Shared)(rel:Heap→β→α→Prop)(Q:β→Sig→Prop)(QQ:α→Shared→Prop):Prop:=
 ∀ b a σ' h' tk',Q b σ'→rel h' b a→Rel c σ' h'→Ext (dom σ) s.heap h'→Grown σ s.heap σ'→QQ a (at_ s h' tk')
noncomputable def XPost (σ:Sig)(s:Shared)(X:PX)(EE:VP):Prop:=
 ∀ e ex σ' h' tk',X ex σ'→Fly c σ' s.heap.objs.size h' e ex→Rel c σ' h'→Ext (dom σ) s.heap h'→Grown σ s.heap σ'→EE (.ref e) (at_ s h' tk')
variable {c}
theorem Fly.lo {σ:Sig}{lo lo':Nat}{h:Heap}{e:Addr}{ex:Exn}(f:Fly c σ lo h e ex)(hl:lo'≤lo):Fly c σ lo' h e ex:=by
 refine el13 f ?_;(try clear f);intro a b c' dx vs d e' f' g i j k l
 refine⟨Nat.le_trans hl a,b,c',dx,vs,d,e',Nat.le_trans hl f',g,i,j,k,l.imp id fun zu=>el55 zu fun tb ot us h1 h2 r=>⟨tb,ot,us,h1,Nat.le_trans hl h2,r⟩⟩
theorem dom_back {σ σ1:Sig}{h:Heap}(g:Grown σ h σ1):∀ a,dom σ1 a→dom σ a∨h.objs.size≤a:=fun a q=>g a q
theorem Post.step {σ σ1:Sig}{s:Shared}{rel:Heap→β→α→Prop}{Q:β→Sig→Prop}{QQ:α→Shared→Prop}(p:Post c σ s rel Q QQ){h1:Heap}{tk1:Tk}(x:Ext (dom σ) s.heap h1)(g:Grown σ s.heap σ1) :
 Post c σ1 (at_ s h1 tk1) rel Q QQ:=fun b a σ' h' tk' q r R x' g'=>p b a σ' h' tk' q r R (x.trans x' (dom_back g)) (g.trans g' x.size)
theorem XPost.step {σ σ1:Sig}{s:Shared}{X:PX}{EE:VP}(p:XPost c σ s X EE){h1:Heap}{tk1:Tk}(x:Ext (dom σ) s.heap h1)(g:Grown σ s.heap σ1) :
 XPost c σ1 (at_ s h1 tk1) X EE:=fun e ex σ' h' tk' q f R x' g'=>p e ex σ' h' tk' q (f.lo x.size) R (x.trans x' (dom_back g)) (g.trans g' x.size)
end
noncomputable def G (c:Cx)(N:Lv)(env:Env)(ρ:Rho)(σ:Sig){α β:Type}(rel:Heap→β→α→Prop)(t:Sem α)(Q:β→Sig→Prop)(X:PX):Prop:=
 ∀ (A:Around) (s:Shared) (QQ:α→Shared→Prop) (EE:VP),AOk c N A σ s.heap→Rel c σ s.heap→EnvR c σ env ρ s.heap→Post c σ s rel Q QQ→XPost c σ s X EE→wpAny (model c.prog c.w) A t QQ EE s
noncomputable abbrev EvG (c:Cx)(N:Lv)(env:Env)(ρ:Rho)(e:PySem.Expr)(σ:Sig)(Q:PV)(X:PX):Prop:=G c N env ρ σ VR (eval e env) Q X
inductive GF where
 | next | ret (v:V)
noncomputable abbrev PF:=GF→Rho→Sig→Prop
noncomputable def FR (h:Heap):GF→Flow→Prop
 | .next,f=>f=.next
 | .ret v,f=>∃ y,f=.ret y∧VR h v y
noncomputable def SPost (c:Cx)(env:Env)(σ:Sig)(s:Shared)(Q:PF)(QQ:Flow→Shared→Prop):Prop:=
 ∀ f fl ρ' σ' h' tk',Q f ρ' σ'→FR h' f fl→Rel c σ' h'→EnvR c σ' env ρ' h'→Ext (both σ env) s.heap h'→Grown σ s.heap σ'→QQ fl (at_ s h' tk')
noncomputable def SXPost (c:Cx)(env:Env)(σ:Sig)(s:Shared)(X:PE)(EE:VP):Prop:=
 ∀ e ex ρ' σ' h' tk',X ex ρ' σ'→Fly c σ' s.heap.objs.size h' e ex→Rel c σ' h'→EnvR c σ' env ρ' h'→Ext (both σ env) s.heap h'→Grown σ s.heap σ'→EE (.ref e) (at_ s h' tk')
noncomputable def OnTop (A:Around)(env:Env):Prop:=∃ e l,A.frames=some (e::l)∧e.frame=env.frame
noncomputable def ExG (c:Cx)(N:Lv)(env:Env)(ρ:Rho)(t:Sem Flow)(σ:Sig)(Q:PF)(X:PE):Prop:=
 ∀ (A:Around) (s:Shared) (QQ:Flow→Shared→Prop) (EE:VP),OnTop A env→AOk c N A σ s.heap→Rel c σ s.heap→EnvR c σ env ρ s.heap→SPost c env σ s Q QQ→SXPost c env σ s X EE→wpAny (model c.prog c.w) A t QQ EE s
section
variable {c:Cx}{N:Lv}{env:Env}{ρ:Rho}{σ:Sig}{Q:PV}{X:PX}{SQ:PF}{SX:PE}
theorem both_back {σ σ1:Sig}{h:Heap}(g:Grown σ h σ1):∀ a,both σ1 env a→both σ env a∨h.objs.size≤a:=fun a q=>
 q.elim (fun z=>(g a z).imp .inl id) fun z=>.inl (.inr z)
theorem SPost.step {σ1:Sig}{s:Shared}{QQ:Flow→Shared→Prop}(p:SPost c env σ s SQ QQ){h1:Heap}{tk1:Tk}(x:Ext (both σ env) s.heap h1)(g:Grown σ s.heap σ1):SPost c env σ1 (at_ s h1 tk1) SQ QQ:=
 fun f fl ρ' σ' h' tk' q r R E x' g'=>p f fl ρ' σ' h' tk' q r R E (x.trans x' (both_back g)) (g.trans g' x.size)
theorem SXPost.step {σ1:Sig}{s:Shared}{EE:VP}(p:SXPost c env σ s SX EE){h1:Heap}{tk1:Tk}(x:Ext (both σ env) s.heap h1)(g:Grown σ s.heap σ1):SXPost c env σ1 (at_ s h1 tk1) SX EE:=
 fun e ex ρ' σ' h' tk' q f R E x' g'=>p e ex ρ' σ' h' tk' q (f.lo x.size) R E (x.trans x' (both_back g)) (g.trans g' x.size)
theorem Ext.both {h h':Heap}(x:Ext (dom σ) h h'):Ext (both σ env) h h':=x.mono fun _ q=>.inl q
theorem EvG.inS {e:PySem.Expr}{A:Around}{s:Shared}{QQ:VP}{EE:VP}(g:EvG c N env ρ e σ Q (fun ex σ'=>SX ex ρ σ'))(a:AOk c N A σ s.heap)(R:Rel c σ s.heap)(E:EnvR c σ env ρ s.heap)
 (xp:SXPost c env σ s SX EE)
 (h:∀ v y σ' h' tk',Q v σ'→VR h' v y→Rel c σ' h'→EnvR c σ' env ρ h'→AOk c N A σ' h'→Ext (dom σ) s.heap h'→Grown σ s.heap σ'→QQ y (at_ s h' tk')):wpAny (model c.prog c.w) A (eval e env) QQ EE s:=
 g A s QQ EE a R E (fun v y σ' h' tk' q r R' x gr=>h v y σ' h' tk' q r R' (E.ext R x gr) (a.ext x gr) x gr) fun e ex σ' h' tk' q f R' x gr=>xp e ex ρ σ' h' tk' q f R' (E.ext R x gr) x.both gr
theorem Post.here {s:Shared}{QQ:VP}(p:Post c σ s VR Q QQ)(R:Rel c σ s.heap){v:V}{y:Value}(q:Q v σ)(r:VR s.heap v y):QQ y s:=p v y σ s.heap (tks s) q r R (.refl _) (.refl _ _)
theorem Post.tok {s:Shared}{QQ:VP}(p:Post c σ s VR Q QQ)(R:Rel c σ s.heap){v:V}{y:Value}{tk:Nat}(q:Q v σ)(r:VR s.heap v y):QQ y { s with toks:=tk }:=p v y σ s.heap (tk,s.drawn) q r R (.refl _) (.refl _ _)
theorem G_mono {e:PySem.Expr}{Q':PV}{X':PX}(g:EvG c N env ρ e σ Q X)(h:∀ v σ',Q v σ'→Q' v σ')(hx:∀ ex σ',X ex σ'→X' ex σ'):EvG c N env ρ e σ Q' X':=
 fun A s QQ EE a R E p xp=>g A s QQ EE a R E (fun b a σ' h' tk' q=>p b a σ' h' tk' (h b σ' q)) fun e ex σ' h' tk' q=>xp e ex σ' h' tk' (hx ex σ' q)
theorem G_int {i k pos}(q:Q (.int i) σ):EvG c N env ρ (.Constant (.int i) k pos) σ Q X:=fun A s QQ EE a R E p xp=>
 wpAny_Constant_int (p.tok R q (by simp only[jt1,jt2,jt3,jt4,jt5,jt6];exact⟨_,rfl⟩))
theorem G_none {k pos}(q:Q .none σ):EvG c N env ρ (.Constant .none k pos) σ Q X:=fun A s QQ EE a R E p xp=>
 (show wpAny _ _ (pure Value.none) _ _ _ from wpAny_pure (p.here R q (by simp only[jt1,jt2,jt3,jt4,jt5,jt6])))
theorem G_bool {b k pos}(q:Q (.bool b) σ):EvG c N env ρ (.Constant (.bool b) k pos) σ Q X:=fun A s QQ EE a R E p xp=>
 (show wpAny _ _ (pure (Value.bool b)) _ _ _ from wpAny_pure (p.here R q (by simp only[jt1,jt2,jt3,jt4,jt5,jt6])))
theorem G_str {x k pos}(q:Q (.str x) σ)(hx:x.length≤1000000∧PyData.strOk x=true:=by decide +kernel):EvG c N env ρ (.Constant (.str x) k pos) σ Q X:=fun A s QQ EE a R E p xp=>
 wpAny_mkText (p.tok R q (by simp only[jt1,jt2,jt3,jt4,jt5,jt6];exact⟨hx,_,rfl⟩))
theorem loadVar {x:Str}{v:V}{A:Around}{s:Shared}{QQ:VP}{EE:VP}{M:Model}(E:EnvR c σ env ρ s.heap)(m:(x,some v)∈ρ)(h:∀ y,VR s.heap v y→QQ y s):wpAny M A (loadName env x) QQ EE s:=by
 refine el75 E.vars ?_;intro mp hn hv
 rcases hv x v m with ⟨k1,y,e1,e2⟩ | ⟨k1,k,y,e1,e2,e3⟩
 · exact wpAny_loadName_local E.kind k1 hn e1 (h y e2)
 · exact wpAny_loadName_cell E.kind k1 e1 e2 (h y e3)
theorem G_var {x pos}{v:V}(m:(x,some v)∈ρ)(q:Q v σ)(hd:(x==("__debug__" : Str))=false:=by decide):EvG c N env ρ (.Name x pos) σ Q X:=fun A s QQ EE a R E p xp=>
 wpAny_Name (loadVar E m fun y r=>p.here R q r) hd
theorem loadName_glob {x:Str}(hk:env.scope.kind=.function)(k:env.kindOf x=some .globalImplicit):loadName env x=loadGlobal env x:=by
 unfold loadName
 simp only[Env.blockKind,hk,k,ScopeKind.isAnnotationScope,Bool.false_and,Bool.false_eq_true,if_false]
theorem loadGlob {x:Str}{v:Value}{A:Around}{s:Shared}{QQ:VP}{EE:VP}{M:Model}(R:Rel c σ s.heap)(E:EnvR c σ env ρ s.heap)(k:env.kindOf x=some .globalImplicit)(e:c.mg x=some v)(h:QQ v s):wpAny M A (loadName env x) QQ EE s:=by
 rw[loadName_glob E.kind k]
 have hn:=c.g.keeps R.static
 rw[← E.glob] at hn
 exact Calls.loadGlobal_global hn e h
end
end Mine
namespace Mine
variable [Membership Addr Zip0]
noncomputable def OpG (c:Cx)(N:Lv)(σ:Sig){α β:Type}(rel:Heap→β→α→Prop)(ins:List V)(t:List Value→Sem α)(Q:β→Sig→Prop)(X:PX):Prop:=
 ∀ (A:Around) (s:Shared) (QQ:α→Shared→Prop) (EE:VP) (xs:List Value),AOk c N A σ s.heap→Rel c σ s.heap→VRs s.heap ins xs→Post c σ s rel Q QQ→XPost c σ s X EE→wpAny (model c.prog c.w) A (t xs) QQ EE s
noncomputable abbrev Op1 (c:Cx)(N:Lv)(σ:Sig)(a:V)(t:Value→Sem Value)(Q:PV)(X:PX):Prop:=
 ∀ (A:Around) (s:Shared) (QQ:VP) (EE:VP) (x:Value),AOk c N A σ s.heap→Rel c σ s.heap→VR s.heap a x→Post c σ s VR Q QQ→XPost c σ s X EE→wpAny (model c.prog c.w) A (t x) QQ EE s
noncomputable abbrev Op2 (c:Cx)(N:Lv)(σ:Sig)(a b:V)(t:Value→Value→Sem Value)(Q:PV)(X:PX):Prop:=
 ∀ (A:Around) (s:Shared) (QQ:VP) (EE:VP) (x y:Value),AOk c N A σ s.heap→Rel c σ s.heap→VR s.heap a x→VR s.heap b y→Post c σ s VR Q QQ→XPost c σ s X EE→wpAny (model c.prog c.w) A (t x y) QQ EE s
section
variable {c:Cx}{N:Lv}{env:Env}{ρ:Rho}{σ:Sig}{Q:PV}{X:PX}{QL:List V→Sig→Prop}
theorem G.run {α β:Type}{rel:Heap→β→α→Prop}{t:Sem α}{Qb:β→Sig→Prop}{A:Around}{s:Shared}{QQ:α→Shared→Prop}{EE:VP}(g:G c N env ρ σ rel t Qb X)(a:AOk c N A σ s.heap)(R:Rel c σ s.heap)(E:EnvR c σ env ρ s.heap)(xp:XPost c σ s X EE)
 (h:∀ b z σ' h' tk',Qb b σ'→rel h' b z→AOk c N A σ' h'→Rel c σ' h'→EnvR c σ' env ρ h'→Ext (dom σ) s.heap h'→Grown σ s.heap σ'→QQ z (at_ s h' tk')):wpAny (model c.prog c.w) A t QQ EE s:=
 g A s QQ EE a R E (fun b z σ' h' tk' q r R' x gr=>h b z σ' h' tk' q r (a.ext x gr) R' (E.ext R x gr) x gr) xp
noncomputable abbrev ArgsG (c:Cx)(N:Lv)(env:Env)(ρ:Rho)(es:List PySem.Expr)(pos:Pos)(σ:Sig)(QL:List V→Sig→Prop)(X:PX):Prop:=G c N env ρ σ VRs (spliced (backTo pos (starEach es env))) QL X
theorem G_args_nil {pos:Pos}(q:QL [] σ):ArgsG c N env ρ [] pos σ QL X:=fun A s QQ EE a R E p xp=>
 spliced_none (p [] [] σ s.heap (tks s) q .nil R (.refl _) (.refl _ _))
theorem G_args_cons {e:PySem.Expr}{es:List PySem.Expr}{pos:Pos}(g:EvG c N env ρ e σ (fun v σ1=>ArgsG c N env ρ es pos σ1 (fun vs σ2=>QL (v::vs) σ2) X) X)
 (he:starEach (e::es) env=(false,eval e env)::starEach es env:=by rfl):ArgsG c N env ρ (e::es) pos σ QL X:=fun A s QQ EE a R E p xp=>
 spliced_more (g.run a R E xp fun v x σ1 h1 tk1 g2 r a1 R1 E1 x1 gr1=>
  g2.run a1 R1 E1 (xp.step x1 gr1) fun vs xs σ2 h2 tk2 q r2 a2 R2 E2 x2 gr2=>
   p (v::vs) (x::xs) σ2 h2 tk2 q (.cons (R1.vr x2 r) r2) R2 (x1.trans x2 (dom_back gr1)) (gr1.trans gr2 x1.size)) he
theorem sizeLine_is:sizeLine=16777216:=by decide
theorem G_tuple {es:List PySem.Expr}{k:Nat}{pos:Pos}(g:ArgsG c N env ρ es pos σ (fun vs σ1=>vs.length≤1000000∧Q (.tup vs) σ1) X):EvG c N env ρ (.Tuple es k pos) σ Q X:=fun A s QQ EE a R E p xp=>
 wpAny_Tuple (g.run a R E xp fun vs xs σ1 h1 tk1 zu3 r a1 R1 E1 x1 gr1=>by
  obtain ⟨hl,q⟩:=zu3
  refine⟨by rw[r.length,sizeLine_is];exact nle (by assumption) (by rfl),?_⟩
  have x2:Ext (dom σ1) h1 (h1.push { cls:=.type "tuple",data:=.seq xs.toArray }):=.push _ _
  refine p (.tup vs) _ σ1 _ tk1 q ?_ (R1.push _) (x1.trans x2 (dom_back gr1)) gr1
  simp only[jt1,jt2,jt3,jt4,jt5,jt6]
  exact⟨_,xs.toArray,rfl,.new _ _ R1.nf,R1.vrs x2 r⟩)
theorem G_list {es:List PySem.Expr}{pos:Pos}(g:ArgsG c N env ρ es pos σ (fun vs σ1=>vs.length≤1000000∧∀ a,σ1 a=none→Q (.raw (.ref a)) (upd σ1 a (.list vs))) X):EvG c N env ρ (.List es pos) σ Q X:=fun A s QQ EE a R E p xp=>
 wpAny_List (g.run a R E xp fun vs xs σ1 h1 tk1 zu4 r a1 R1 E1 x1 gr1=>by
  obtain ⟨hl,q⟩:=zu4
  refine⟨by rw[r.length,sizeLine_is];exact nle (by assumption) (by rfl),?_⟩
  have x2:Ext (dom σ1) h1 (h1.push { cls:=.type "list",data:=.seq xs.toArray }):=.push _ _
  refine p (.raw (.ref h1.objs.size)) _ (upd σ1 h1.objs.size (.list vs)) _ tk1 (q _ R1.fresh) (by simp only[jt1,jt2,jt3,jt4,jt5,jt6];rfl) ?_ (x1.trans x2 (dom_back gr1)) (gr1.trans (.upd (.inr (Nat.le_refl _))) x1.size)
  exact (R1.push _).add R1.size ⟨xs.toArray,⟨_,Heap.get?_push_size _ rfl⟩,R1.vrs x2 r⟩)
theorem G_bin {l r:PySem.Expr}{op:Operator}{pos:Pos}(g:EvG c N env ρ l σ (fun a σ1=>EvG c N env ρ r σ1 (fun b σ2=>Op2 c N σ2 a b (binaryOp op) Q X) X) X):EvG c N env ρ (.BinOp l op r pos) σ Q X:=fun A s QQ EE a R E p xp=>
 wpAny_BinOp (g.run a R E xp fun v x σ1 h1 tk1 g2 r1 a1 R1 E1 x1 gr1=>g2.run a1 R1 E1 (xp.step x1 gr1) fun u y σ2 h2 tk2 q r2 a2 R2 E2 x2 gr2=>
  q A _ QQ EE x y a2 R2 (R1.vr x2 r1) r2 ((p.step x1 gr1).step x2 gr2) ((xp.step x1 gr1).step x2 gr2))
theorem G_cmp {l r:PySem.Expr}{op:CmpOp}{pos:Pos}(g:EvG c N env ρ l σ (fun a σ1=>EvG c N env ρ r σ1 (fun b σ2=>Op2 c N σ2 a b (compareOp op) Q X) X) X)(hm:behindInMarks op r=false:=by with_unfolding_all rfl):EvG c N env ρ (.Compare l [op] [r] pos) σ Q X:=fun A s QQ EE a R E p xp=>
 wpAny_Compare1 (g.run a R E xp fun v x σ1 h1 tk1 g2 r1 a1 R1 E1 x1 gr1=>g2.run a1 R1 E1 (xp.step x1 gr1) fun u y σ2 h2 tk2 q r2 a2 R2 E2 x2 gr2=>
  q A _ QQ EE x y a2 R2 (R1.vr x2 r1) r2 ((p.step x1 gr1).step x2 gr2) ((xp.step x1 gr1).step x2 gr2)) hm
theorem G_glob {x pos}{v:Value}(e:c.mg x=some v)(q:Q (.raw v) σ)(k:env.kindOf x=some .globalImplicit:=by rfl)(hd:(x==("__debug__" : Str))=false:=by decide):EvG c N env ρ (.Name x pos) σ Q X:=fun A s QQ EE a R E p xp=>
 wpAny_Name (loadGlob R E k e (p.here R q (by simp only[jt1,jt2,jt3,jt4,jt5,jt6]))) hd
theorem G_builtin {x pos}{v:Value}(e:c.mg x=none)(e':bootBuiltins x=some v)(q:Q (.raw v) σ)(hn:x≠"__name__":=by decide)(k:env.kindOf x=some .globalImplicit:=by rfl)(hd:(x==("__debug__" : Str))=false:=by decide):EvG c N env ρ (.Name x pos) σ Q X:=fun A s QQ EE a R E p xp=>
 wpAny_Name (by
  rw[loadName_glob E.kind k]
  exact Calls.loadGlobal_builtin (by rw[E.glob];exact c.g.keeps R.static) e (by rw[E.blt];exact c.b.keeps R.static) ((c.blt x hn).trans e') (p.here R q (by simp only[jt1,jt2,jt3,jt4,jt5,jt6]))) hd
end
end Mine
namespace Mine
variable [Membership Addr Zip0]
section
variable {c:Cx}{N:Lv}{env:Env}{ρ:Rho}{σ:Sig}{Q:PV}{X:PX}{SQ:PF}{SX:PE}{BQ:Bool→Sig→Prop}
noncomputable abbrev TG (c:Cx)(N:Lv)(env:Env)(ρ:Rho)(e:PySem.Expr)(σ:Sig)(BQ:Bool→Sig→Prop)(X:PX):Prop:=G c N env ρ σ (fun _ (b:Bool) (b':Bool)=>b'=b) (isTrue e env (eval e env)) BQ X
theorem truthy_b {A:Around}{M:Model}{s:Shared}{b:Bool}{x:Value}{QQ:Bool→Shared→Prop}{EE:VP}(r:VR s.heap (.bool b) x)(h:QQ b s):wpAny M A (truthy x) QQ EE s:=by
 simp only[jt1,jt2,jt3,jt4,jt5,jt6] at r;subst r;exact wpAny_truthy_bool h
theorem T_plain {e:PySem.Expr}(g:EvG c N env ρ e σ (fun v σ1=>∃ b,v=.bool b∧BQ b σ1) X)
 (he:isTrue e env (eval e env)=(do let v ← eval e env;standAt e.pos;holding [v] (truthy v)):=by rfl):TG c N env ρ e σ BQ X:=fun A s QQ EE a R E p xp=>
 isTrue_plain (g.run a R E xp fun v x σ1 h1 tk1 ⟨b,e1,q⟩ r a1 R1 E1 x1 gr1=>by subst e1;exact truthy_b r (p b b σ1 h1 tk1 q rfl R1 x1 gr1)) he
theorem T_cmp {l r:PySem.Expr}{op:CmpOp}{pos:Pos}(g:EvG c N env ρ l σ (fun a σ1=>EvG c N env ρ r σ1 (fun b σ2=>Op2 c N σ2 a b (compareOp op) (fun v σ3=>∃ b,v=.bool b∧BQ b σ3) X) X) X)(hm:behindInMarks op r=false:=by with_unfolding_all rfl):TG c N env ρ (.Compare l [op] [r] pos) σ BQ X:=fun A s QQ EE a R E p xp=>
 wpAny_isTrue_Compare1 (g.run a R E xp fun v x σ1 h1 tk1 g2 r1 a1 R1 E1 x1 gr1=>g2.run a1 R1 E1 (xp.step x1 gr1) fun u y σ2 h2 tk2 q r2 a2 R2 E2 x2 gr2=>
  q A _ _ EE x y a2 R2 (R1.vr x2 r1) r2 (fun v' z σ3 h3 tk3 zu5 r3 R3 x3 gr3=>by
   refine el75 zu5 ?_;(try clear zu5);intro b e3 q3
   subst e3
   exact truthy_b r3 (((p.step x1 gr1).step x2 gr2) b b σ3 h3 tk3 q3 rfl R3 x3 gr3)) ((xp.step x1 gr1).step x2 gr2)) hm
theorem T_not {x:PySem.Expr}{pos:Pos}(g:TG c N env ρ x σ (fun b σ1=>BQ (!b) σ1) X):TG c N env ρ (.UnaryOp .Not x pos) σ BQ X:=fun A s QQ EE a R E p xp=>
 isTrue_not (g.run a R E xp fun b b' σ1 h1 tk1 q r a1 R1 E1 x1 gr1=>p (!b) (!b') σ1 h1 tk1 q (by rw[r]) R1 x1 gr1)
theorem T_and_nil {pos:Pos}(q:BQ true σ):TG c N env ρ (.BoolOp .And [] pos) σ BQ X:=fun A s QQ EE a R E p xp=>isTrue_and_nil (p true true σ s.heap (tks s) q rfl R (.refl _) (.refl _ _))
theorem T_or_nil {pos:Pos}(q:BQ false σ):TG c N env ρ (.BoolOp .Or [] pos) σ BQ X:=fun A s QQ EE a R E p xp=>isTrue_or_nil (p false false σ s.heap (tks s) q rfl R (.refl _) (.refl _ _))
theorem T_and {x:PySem.Expr}{es:List PySem.Expr}{pos:Pos}(g:TG c N env ρ x σ (fun b σ1=>match b with | true=>TG c N env ρ (.BoolOp .And es pos) σ1 BQ X | false=>BQ false σ1) X):TG c N env ρ (.BoolOp .And (x::es) pos) σ BQ X:=fun A s QQ EE a R E p xp=>
 isTrue_and (g.run a R E xp fun b b' σ1 h1 tk1 q r a1 R1 E1 x1 gr1=>by
  subst r
  cases b' with
  | true=>exact q A _ QQ EE a1 R1 E1 (p.step x1 gr1) (xp.step x1 gr1)
  | false=>exact p false false σ1 h1 tk1 q rfl R1 x1 gr1)
theorem T_or {x:PySem.Expr}{es:List PySem.Expr}{pos:Pos}(g:TG c N env ρ x σ (fun b σ1=>match b with | true=>BQ true σ1 | false=>TG c N env ρ (.BoolOp .Or es pos) σ1 BQ X) X):TG c N env ρ (.BoolOp .Or (x::es) pos) σ BQ X:=fun A s QQ EE a R E p xp=>
 isTrue_or (g.run a R E xp fun b b' σ1 h1 tk1 q r a1 R1 E1 x1 gr1=>by
  subst r
  cases b' with
  | false=>exact q A _ QQ EE a1 R1 E1 (p.step x1 gr1) (xp.step x1 gr1)
  | true=>exact p true true σ1 h1 tk1 q rfl R1 x1 gr1)
theorem G_ifexp {t a b:PySem.Expr}{pos:Pos}(g:TG c N env ρ t σ (fun y σ1=>match y with | true=>EvG c N env ρ a σ1 Q X | false=>EvG c N env ρ b σ1 Q X) X):EvG c N env ρ (.IfExp t a b pos) σ Q X:=fun A s QQ EE ak R E p xp=>
 wpAny_IfExp (g.run ak R E xp fun y y' σ1 h1 tk1 q r a1 R1 E1 x1 gr1=>by
  subst r
  cases y' with
  | true=>exact q A _ QQ EE a1 R1 E1 (p.step x1 gr1) (xp.step x1 gr1)
  | false=>exact q A _ QQ EE a1 R1 E1 (p.step x1 gr1) (xp.step x1 gr1))
theorem G_not {x:PySem.Expr}{pos:Pos}(g:EvG c N env ρ x σ (fun v σ1=>∃ b,v=.bool b∧Q (.bool (!b)) σ1) X):EvG c N env ρ (.UnaryOp .Not x pos) σ Q X:=fun A s QQ EE a R E p xp=>
 wpAny_UnaryOp (g.run a R E xp fun v x σ1 h1 tk1 zu6 r a1 R1 E1 x1 gr1=>by
  refine el75 zu6 ?_;(try clear zu6);intro b e1 q
  subst e1
  exact not_of (truthy_b r (p (.bool (!b)) _ σ1 h1 tk1 q (by simp only[jt1,jt2,jt3,jt4,jt5,jt6]) R1 x1 gr1)))
theorem G_and2 {x y:PySem.Expr}{pos:Pos}(g:EvG c N env ρ x σ (fun v σ1=>∃ b,v=.bool b∧match b with | true=>EvG c N env ρ y σ1 Q X | false=>Q (.bool false) σ1) X):EvG c N env ρ (.BoolOp .And [x,y] pos) σ Q X:=fun A s QQ EE a R E p xp=>
 wpAny_And2 (g.run a R E xp fun v x σ1 h1 tk1 zu7 r a1 R1 E1 x1 gr1=>by
  refine el75 zu7 ?_;(try clear zu7);intro b e1 q
  subst e1
  refine truthy_b r ?_
  cases b with
  | true=>exact q A _ QQ EE a1 R1 E1 (p.step x1 gr1) (xp.step x1 gr1)
  | false=>exact p (.bool false) _ σ1 h1 tk1 q r R1 x1 gr1)
noncomputable abbrev StG (c:Cx)(N:Lv)(env:Env)(ρ:Rho)(st:Stmt)(σ:Sig)(SQ:PF)(SX:PE):Prop:=ExG c N env ρ (exec st env) σ SQ SX
noncomputable abbrev SsG (c:Cx)(N:Lv)(env:Env)(ρ:Rho)(st:List Stmt)(σ:Sig)(SQ:PF)(SX:PE):Prop:=ExG c N env ρ (execs st env) σ SQ SX
theorem ExG.run {t:Sem Flow}{A:Around}{s:Shared}{QQ:Flow→Shared→Prop}{EE:VP}(g:ExG c N env ρ t σ SQ SX)(ot:OnTop A env)(a:AOk c N A σ s.heap)(R:Rel c σ s.heap)(E:EnvR c σ env ρ s.heap)(xp:SXPost c env σ s SX EE)
 (h:∀ f fl ρ' σ' h' tk',SQ f ρ' σ'→FR h' f fl→AOk c N A σ' h'→Rel c σ' h'→EnvR c σ' env ρ' h'→Ext (both σ env) s.heap h'→Grown σ s.heap σ'→QQ fl (at_ s h' tk')):wpAny (model c.prog c.w) A t QQ EE s:=
 g A s QQ EE ot a R E (fun f fl ρ' σ' h' tk' q r R' E' x gr=>h f fl ρ' σ' h' tk' q r (a.ext2 E x gr E') R' E' x gr) xp
theorem S_nil (q:SQ .next ρ σ):SsG c N env ρ [] σ SQ SX:=fun A s QQ EE ot a R E p xp=>wpAny_execs_nil (p .next .next ρ σ s.heap (tks s) q rfl R E (.refl _) (.refl _ _))
theorem S_cons {st:Stmt}{rest:List Stmt}(g:StG c N env ρ st σ (fun f ρ' σ'=>match f with | .next=>SsG c N env ρ' rest σ' SQ SX | .ret v=>SQ (.ret v) ρ' σ') SX):SsG c N env ρ (st::rest) σ SQ SX:=fun A s QQ EE ot a R E p xp=>
 wpAny_execs_cons (g.run ot a R E xp fun f fl ρ' σ' h' tk' q r a1 R1 E1 x1 gr1=>by
  cases f with
  | next=>simp only[FR] at r;subst r;exact q A _ QQ EE ot a1 R1 E1 (p.step x1 gr1) (xp.step x1 gr1)
  | ret v=>simp only[FR] at r;refine el75 r ?_;(try clear r);intro y ze133 r;subst ze133;exact p (.ret v) (.ret y) ρ' σ' h' tk' q (by simp only[FR];exact⟨y,rfl,r⟩) R1 E1 x1 gr1)
theorem EvG.runS {e:PySem.Expr}{A:Around}{s:Shared}{QQ:VP}{EE:VP}(g:EvG c N env ρ e σ Q (fun ex σ'=>SX ex ρ σ'))(a:AOk c N A σ s.heap)(R:Rel c σ s.heap)(E:EnvR c σ env ρ s.heap)(xp:SXPost c env σ s SX EE)
 (h:∀ v y σ' h' tk',Q v σ'→VR h' v y→AOk c N A σ' h'→Rel c σ' h'→EnvR c σ' env ρ h'→Ext (dom σ) s.heap h'→Grown σ s.heap σ'→QQ y (at_ s h' tk')):wpAny (model c.prog c.w) A (eval e env) QQ EE s:=
 g.inS a R E xp fun v y σ' h' tk' q r R' E' a' x gr=>h v y σ' h' tk' q r a' R' E' x gr
theorem S_ret {e:PySem.Expr}{pos:Pos}(g:EvG c N env ρ e σ (fun v σ'=>SQ (.ret v) ρ σ') (fun ex σ'=>SX ex ρ σ')):StG c N env ρ (.Return (some e) pos) σ SQ SX:=fun A s QQ EE ot a R E p xp=>
 wpAny_Return_some (EvG.runS g a R E xp fun v y σ' h' tk' q r a1 R1 E1 x1 gr1=>p (.ret v) (.ret y) ρ σ' h' tk' q (by simp only[FR];exact⟨y,rfl,r⟩) R1 E1 x1.both gr1)
theorem S_assign {x:Str}{pos':Pos}{e:PySem.Expr}{pos:Pos}(g:EvG c N env ρ e σ (fun v σ'=>∃ ρ',Put x (some v) ρ ρ'∧SQ .next ρ' σ') (fun ex σ'=>SX ex ρ σ'))
 (hs:swapsWith e (some (.Name x pos')) pos.line env=pure false:=by rfl):StG c N env ρ (.Assign [.Name x pos'] e pos) σ SQ SX:=fun A s QQ EE ot a R E p xp=>
 wpAny_Assign_Name (EvG.runS g a R E xp fun v y σ' h' tk' ⟨ρ',pt,q⟩ r a1 R1 E1 x1 gr1=>
  store_ (s:=at_ s h' tk') R1 E1 pt r fun h2 tk2 R2 E2 x2 _=>p .next .next ρ' σ' h2 tk2 q rfl R2 E2 (x1.both.trans (x2.mono fun _ q=>.inr q) fun a q=>.inl q) gr1) hs
theorem S_if {t:PySem.Expr}{b1 b2:List Stmt}{pos:Pos}(g:TG c N env ρ t σ (fun y σ1=>match y with | true=>SsG c N env ρ b1 σ1 SQ SX | false=>SsG c N env ρ b2 σ1 SQ SX) (fun ex σ'=>SX ex ρ σ')):StG c N env ρ (.If t b1 b2 pos) σ SQ SX:=fun A s QQ EE ot ak R E p xp=>
 wpAny_If (g A s _ _ ak R E (fun y y' σ1 h1 tk1 q r R1 x1 gr1=>by
  subst r
  have a1:=ak.ext x1 gr1
  have E1:=E.ext R x1 gr1
  cases y' with
  | true=>exact q A _ QQ EE ot a1 R1 E1 (p.step x1.both gr1) (xp.step x1.both gr1)
  | false=>exact q A _ QQ EE ot a1 R1 E1 (p.step x1.both gr1) (xp.step x1.both gr1)) fun e ex σ1 h1 tk1 q f R1 x1 gr1=>xp e ex ρ σ1 h1 tk1 q f R1 (E.ext R x1 gr1) x1.both gr1)
theorem S_expr {e:PySem.Expr}{pos:Pos}(g:EvG c N env ρ e σ (fun _ σ'=>SQ .next ρ σ') (fun ex σ'=>SX ex ρ σ'))
 (hi:interactive env=false:=by rfl) (hs:swapsWith e none pos.line env=pure false:=by rfl):StG c N env ρ (.Expr e pos) σ SQ SX:=fun A s QQ EE ot a R E p xp=>
 wpAny_Expr_any (EvG.runS g a R E xp fun v y σ' h' tk' q r a1 R1 E1 x1 gr1=>p .next .next ρ σ' h' tk' q rfl R1 E1 x1.both gr1) hi hs
theorem S_pass {pos:Pos}(q:SQ .next ρ σ):StG c N env ρ (.Pass pos) σ SQ SX:=fun A s QQ EE ot a R E p xp=>wpAny_Pass (p .next .next ρ σ s.heap (tks s) q rfl R E (.refl _) (.refl _ _))
end
end Mine
namespace Mine
variable [Membership Addr Zip0]
mutual
noncomputable def toP:V→PyData
 | .none=>.none
 | .bool b=>.bool b
 | .int i=>.int i
 | .str s=>.str s
 | .tup l=>.tuple (toPs l)
 | .raw _=>.dict []
noncomputable def toPs:List V→List PyData
 | []=>[]
 | v::l=>toP v::toPs l
end
theorem jR1:toP (.none)=(.none):=rfl
theorem jR2:toP (.bool b)=(.bool b):=rfl
theorem jR3:toP (.int i)=(.int i):=rfl
theorem jR4:toP (.str s)=(.str s):=rfl
theorem jR5:toP (.tup l)=(.tuple (toPs l)):=rfl
theorem jR6:toP (.raw w1)=(.dict []):=rfl
theorem jS1:toPs []=([]):=rfl
theorem jS2:toPs (v::l)=(toP v::toPs l):=rfl
mutual
noncomputable def tree:V→Bool
 | .raw _=>false
 | .tup l=>trees l
 | .none=>true
 | .bool _=>true
 | .int _=>true
 | .str _=>true
noncomputable def trees:List V→Bool
 | []=>true
 | v::l=>tree v&&trees l
end
theorem jU1:tree (.raw w1)=(false):=rfl
theorem jU2:tree (.tup l)=(trees l):=rfl
theorem jU3:tree (.none)=(true):=rfl
theorem jU4:tree (.bool w1)=(true):=rfl
theorem jU5:tree (.int w1)=(true):=rfl
theorem jU6:tree (.str w1)=(true):=rfl
theorem jV1:trees []=(true):=rfl
theorem jV2:trees (v::l)=(tree v&&trees l):=rfl
noncomputable def eqV (a b:V):Bool:=PyData.eqv (toP a) (toP b)
mutual
theorem reads_of {h:Heap}:∀ (v:V) (x:Value),VR h v x→tree v=true→(∃ as,Reads h x (toP v) as)∧PyData.canLay0 (toP v)=true
 | .none,x,r,_=>by simp only[jt1,jt2,jt3,jt4,jt5,jt6] at r;subst r;exact⟨⟨_,.none⟩,rfl⟩
 | .bool b,x,r,_=>by simp only[jt1,jt2,jt3,jt4,jt5,jt6] at r;subst r;exact⟨⟨_,.bool b⟩,rfl⟩
 | .int i,x,r,_=>by simp only[jt1,jt2,jt3,jt4,jt5,jt6] at r;obtain ⟨t,rfl⟩:=r;exact⟨⟨_,.int i t⟩,rfl⟩
 | .str s,x,r,_=>by simp only[jt1,jt2,jt3,jt4,jt5,jt6] at r;refine el52 r ?_;(try clear r);intro _ q t ze134;subst ze134;exact⟨⟨_,.str s t⟩,by simp only[jR1,jR2,jR3,jR4,jR5,jR6,PyData.canLay0];exact q⟩
 | .raw v,x,r,ht=>by simp [jU1,jU2,jU3,jU4,jU5,jU6] at ht
 | .tup l,x,r,ht=>by
  simp only[jt1,jt2,jt3,jt4,jt5,jt6] at r
  refine el17 r ?_;(try clear r);intro a xs ze135 o ho hc _ n hd r;subst ze135
  simp only[jU1,jU2,jU3,jU4,jU5,jU6] at ht
  obtain ⟨⟨as,q⟩,q2⟩:=reads_ofs l xs.toList r ht
  refine⟨⟨as,?_⟩,?_⟩
  · simp only[jR1,jR2,jR3,jR4,jR5,jR6];exact .tuple ho hc hd q
  · simp only[jR1,jR2,jR3,jR4,jR5,jR6,PyData.canLay0];exact q2
theorem reads_ofs {h:Heap}:∀ (l:List V) (xs:List Value),VRs h l xs→trees l=true→(∃ as,ReadsAll h xs (toPs l) as)∧PyData.canLayAll0 (toPs l)=true
 | [],xs,r,_=>by simp only[ju1,ju2] at r;subst r;exact⟨⟨_,.nil⟩,rfl⟩
 | v::l,xs,r,ht=>by
  simp only[ju1,ju2] at r
  refine el61 r ?_;(try clear r);intro x r' ze136 r1 r2;subst ze136
  simp only[jV1,jV2,Bool.and_eq_true] at ht
  obtain ⟨⟨as,q⟩,q2⟩:=reads_of v x r1 ht.1
  obtain ⟨⟨bs,p⟩,p2⟩:=reads_ofs l r' r2 ht.2
  exact⟨⟨_,.cons q p⟩,by simp only[jS1,jS2,PyData.canLayAll0,q2,p2,Bool.and_self]⟩
end
section
variable {c:Cx}{N:Lv}{env:Env}{ρ:Rho}{σ:Sig}{Q:PV}{X:PX}
theorem AOk.dep {A:Around}{h:Heap}{d:Nat}(a:AOk c N A σ h)(hd:d≤16*N.n):A.units+d<cLine:=by have:=a.units;lia
theorem O_eq {a b:V}(q:Q (.bool (eqV a b)) σ)(ha:tree a=true)(hb:tree b=true)(hd:min (toP a).depth (toP b).depth≤16*N.n):Op2 c N σ a b (compareOp .Eq) Q X:=fun A s QQ EE x y ak R r1 r2 p xp=>by
 obtain ⟨⟨as,q1⟩,c1⟩:=reads_of a x r1 ha
 obtain ⟨⟨bs,q2⟩,c2⟩:=reads_of b y r2 hb
 exact SeqAt.eqOverData c.prog c.w A EE s x y _ _ as bs QQ q1 q2 c1 c2 (ak.dep hd) (p.here R q (by simp only[jt1,jt2,jt3,jt4,jt5,jt6,eqV]))
theorem neOver:P3.NeOverData:=fun prog w A E s a b da db as bs Q ra rb ha hb hu h=>by
 exact SeqAt.neOverData prog w A E s a b da db as bs Q ra rb ha hb hu h
theorem O_ne {a b:V}(q:Q (.bool (!eqV a b)) σ)(ha:tree a=true)(hb:tree b=true)(hd:min (toP a).depth (toP b).depth≤16*N.n):Op2 c N σ a b (compareOp .NotEq) Q X:=fun A s QQ EE x y ak R r1 r2 p xp=>by
 obtain ⟨⟨as,q1⟩,c1⟩:=reads_of a x r1 ha
 obtain ⟨⟨bs,q2⟩,c2⟩:=reads_of b y r2 hb
 exact neOver c.prog c.w A EE s x y _ _ as bs QQ q1 q2 c1 c2 (ak.dep hd) (p.here R q (by simp only[jt1,jt2,jt3,jt4,jt5,jt6,eqV]))
theorem list_reads {h:Heap}{a:Addr}{l:List V}(m:MR c.prog c.w h a (.list l))(ht:trees l=true):(∃ as,Reads h (.ref a) (.list (toPs l)) as)∧PyData.canLay0 (.list (toPs l))=true:=by
 refine el60 m ?_;(try clear m);intro xs n e r
 obtain ⟨⟨as,q⟩,q2⟩:=reads_ofs l xs.toList r ht
 exact⟨⟨_,.list e rfl rfl q⟩,by simp only[PyData.canLay0];exact q2⟩
noncomputable def eqL (l m:List V):Bool:=PyData.eqvAll (toPs l) (toPs m)
theorem O_eqL {a b:Addr}{l m:List V}(q:Q (.bool (eqL l m)) σ)(ea:σ a=some (.list l))(eb:σ b=some (.list m))(ha:trees l=true)(hb:trees m=true)(hd:min (PyData.depthAll (toPs l)) (PyData.depthAll (toPs m))+1≤16*N.n) :
 Op2 c N σ (.raw (.ref a)) (.raw (.ref b)) (compareOp .Eq) Q X:=fun A s QQ EE x y ak R r1 r2 p xp=>by
 simp only[jt1,jt2,jt3,jt4,jt5,jt6] at r1 r2;subst r1 r2
 obtain ⟨⟨as,q1⟩,c1⟩:=list_reads (R.obj a _ ea).2 ha
 obtain ⟨⟨bs,q2⟩,c2⟩:=list_reads (R.obj b _ eb).2 hb
 exact SeqAt.eqOverData c.prog c.w A EE s _ _ _ _ as bs QQ q1 q2 c1 c2 (ak.dep (by simp only[PyData.depth];lia)) (p.here R q (by simp only[jt1,jt2,jt3,jt4,jt5,jt6,eqL,PyData.eqv]))
theorem O_neL {a b:Addr}{l m:List V}(q:Q (.bool (!eqL l m)) σ)(ea:σ a=some (.list l))(eb:σ b=some (.list m))(ha:trees l=true)(hb:trees m=true)(hd:min (PyData.depthAll (toPs l)) (PyData.depthAll (toPs m))+1≤16*N.n) :
 Op2 c N σ (.raw (.ref a)) (.raw (.ref b)) (compareOp .NotEq) Q X:=fun A s QQ EE x y ak R r1 r2 p xp=>by
 simp only[jt1,jt2,jt3,jt4,jt5,jt6] at r1 r2;subst r1 r2
 obtain ⟨⟨as,q1⟩,c1⟩:=list_reads (R.obj a _ ea).2 ha
 obtain ⟨⟨bs,q2⟩,c2⟩:=list_reads (R.obj b _ eb).2 hb
 exact neOver c.prog c.w A EE s _ _ _ _ as bs QQ q1 q2 c1 c2 (ak.dep (by simp only[PyData.depth];lia)) (p.here R q (by simp only[jt1,jt2,jt3,jt4,jt5,jt6,eqL,PyData.eqv]))
theorem O_add {i j:Int}(q:Q (.int (i+j)) σ):Op2 c N σ (.int i) (.int j) (binaryOp .Add) Q X:=fun A s QQ EE x y ak R r1 r2 p xp=>by
 simp only[jt1,jt2,jt3,jt4,jt5,jt6] at r1 r2;obtain ⟨t,rfl⟩:=r1;obtain ⟨u,rfl⟩:=r2
 exact PyProof.Rows.add_int (p.tok R q (by simp only[jt1,jt2,jt3,jt4,jt5,jt6];exact⟨_,rfl⟩))
theorem O_sub {i j:Int}(q:Q (.int (i-j)) σ):Op2 c N σ (.int i) (.int j) (binaryOp .Sub) Q X:=fun A s QQ EE x y ak R r1 r2 p xp=>by
 simp only[jt1,jt2,jt3,jt4,jt5,jt6] at r1 r2;obtain ⟨t,rfl⟩:=r1;obtain ⟨u,rfl⟩:=r2
 exact PyProof.Rows.sub_int (p.tok R q (by simp only[jt1,jt2,jt3,jt4,jt5,jt6];exact⟨_,rfl⟩))
theorem O_mul {i j:Int}(q:Q (.int (i*j)) σ)(hm:IntMulOk i j):Op2 c N σ (.int i) (.int j) (binaryOp .Mult) Q X:=fun A s QQ EE x y ak R r1 r2 p xp=>by
 simp only[jt1,jt2,jt3,jt4,jt5,jt6] at r1 r2;obtain ⟨t,rfl⟩:=r1;obtain ⟨u,rfl⟩:=r2
 exact PyProof.Rows.mul_int (p.tok R q (by simp only[jt1,jt2,jt3,jt4,jt5,jt6];exact⟨_,rfl⟩)) hm
theorem O_mod {i j:Int}(q:Q (.int (i.fmod j)) σ)(hj:j≠0):Op2 c N σ (.int i) (.int j) (binaryOp .Mod) Q X:=fun A s QQ EE x y ak R r1 r2 p xp=>by
 simp only[jt1,jt2,jt3,jt4,jt5,jt6] at r1 r2;obtain ⟨t,rfl⟩:=r1;obtain ⟨u,rfl⟩:=r2
 exact PyProof.Rows.mod_int hj (p.tok R q (by simp only[jt1,jt2,jt3,jt4,jt5,jt6];exact⟨_,rfl⟩))
theorem O_lt {i j:Int}(q:Q (.bool (decide (i<j))) σ):Op2 c N σ (.int i) (.int j) (compareOp .Lt) Q X:=fun A s QQ EE x y ak R r1 r2 p xp=>by
 simp only[jt1,jt2,jt3,jt4,jt5,jt6] at r1 r2;obtain ⟨t,rfl⟩:=r1;obtain ⟨u,rfl⟩:=r2
 exact PyProof.Rows.lt_int (p.here R q (by simp only[jt1,jt2,jt3,jt4,jt5,jt6]))
theorem O_le {i j:Int}(q:Q (.bool (decide (i≤j))) σ):Op2 c N σ (.int i) (.int j) (compareOp .LtE) Q X:=fun A s QQ EE x y ak R r1 r2 p xp=>by
 simp only[jt1,jt2,jt3,jt4,jt5,jt6] at r1 r2;obtain ⟨t,rfl⟩:=r1;obtain ⟨u,rfl⟩:=r2
 exact PyProof.Rows.le_int (p.here R q (by simp only[jt1,jt2,jt3,jt4,jt5,jt6]))
theorem O_gt {i j:Int}(q:Q (.bool (decide (j<i))) σ):Op2 c N σ (.int i) (.int j) (compareOp .Gt) Q X:=fun A s QQ EE x y ak R r1 r2 p xp=>by
 simp only[jt1,jt2,jt3,jt4,jt5,jt6] at r1 r2;obtain ⟨t,rfl⟩:=r1;obtain ⟨u,rfl⟩:=r2
 exact PyProof.Rows.gt_int (p.here R q (by simp only[jt1,jt2,jt3,jt4,jt5,jt6]))
noncomputable def isNone:V→Bool
 | .none=>true
 | _=>false
theorem O_isNone {a:V}(q:Q (.bool (isNone a)) σ)(hr:∀ v,a≠.raw v):Op2 c N σ a .none (compareOp .Is) Q X:=fun A s QQ EE x y ak R r1 r2 p xp=>by
 have e2:y=.none:=by simpa only[jt1,jt2,jt3,jt4,jt5,jt6] using r2
 subst e2
 have e:(x==Value.none)=isNone a∧plainIs x Value.none=true:=by
  cases a with
  | none=>simp only[jt1,jt2,jt3,jt4,jt5,jt6] at r1;subst r1;exact⟨rfl,rfl⟩
  | bool b=>simp only[jt1,jt2,jt3,jt4,jt5,jt6] at r1;subst r1;exact⟨rfl,rfl⟩
  | int i=>simp only[jt1,jt2,jt3,jt4,jt5,jt6] at r1;obtain ⟨t,rfl⟩:=r1;exact⟨rfl,rfl⟩
  | str i=>simp only[jt1,jt2,jt3,jt4,jt5,jt6] at r1;refine el74 r1 ?_;(try clear r1);intro _ t ze137;subst ze137;exact⟨rfl,rfl⟩
  | tup l=>simp only[jt1,jt2,jt3,jt4,jt5,jt6] at r1;refine el68 r1 ?_;(try clear r1);intro a xs ze138 _;subst ze138;exact⟨rfl,rfl⟩
  | raw v=>exact absurd rfl (hr v)
 exact wpAny_is_plain e.2 (p.here R q (by simp only[jt1,jt2,jt3,jt4,jt5,jt6];rw[e.1]))
theorem O_isNotNone {a:V}(q:Q (.bool (!isNone a)) σ)(hr:∀ v,a=.raw v→∃ k,v=.ref k):Op2 c N σ a .none (compareOp .IsNot) Q X:=fun A s QQ EE x y ak R r1 r2 p xp=>by
 have e2:y=.none:=by simpa only[jt1,jt2,jt3,jt4,jt5,jt6] using r2
 subst e2
 have e:(x==Value.none)=isNone a∧plainIs x Value.none=true:=by
  cases a with
  | none=>simp only[jt1,jt2,jt3,jt4,jt5,jt6] at r1;subst r1;exact⟨rfl,rfl⟩
  | bool b=>simp only[jt1,jt2,jt3,jt4,jt5,jt6] at r1;subst r1;exact⟨rfl,rfl⟩
  | int i=>simp only[jt1,jt2,jt3,jt4,jt5,jt6] at r1;obtain ⟨t,rfl⟩:=r1;exact⟨rfl,rfl⟩
  | str i=>simp only[jt1,jt2,jt3,jt4,jt5,jt6] at r1;refine el74 r1 ?_;(try clear r1);intro _ t ze139;subst ze139;exact⟨rfl,rfl⟩
  | tup l=>simp only[jt1,jt2,jt3,jt4,jt5,jt6] at r1;refine el68 r1 ?_;(try clear r1);intro a xs ze140 _;subst ze140;exact⟨rfl,rfl⟩
  | raw v=>obtain ⟨k,rfl⟩:=hr v rfl;simp only[jt1,jt2,jt3,jt4,jt5,jt6] at r1;subst r1;exact⟨rfl,rfl⟩
 exact wpAny_isNot_plain e.2 (p.here R q (by simp only[jt1,jt2,jt3,jt4,jt5,jt6];rw[e.1]))
end
end Mine
namespace Mine
variable [Membership Addr Zip0]
section
variable {c:Cx}{N:Lv}{env:Env}{ρ:Rho}{σ:Sig}{Q:PV}{X:PX}
theorem newTup {s:Shared}{QQ:VP}(p:Post c σ s VR Q QQ)(R:Rel c σ s.heap){l:List V}{xs:List Value}(q:Q (.tup l) σ)(r:VRs s.heap l xs)(tk:Tk) :
 QQ (.ref s.heap.objs.size) (at_ s (s.heap.push { cls:=.type "tuple",data:=.seq xs.toArray }) tk):=
 p (.tup l) _ σ _ tk q (by simp only[jt1,jt2,jt3,jt4,jt5,jt6];exact⟨_,xs.toArray,rfl,.new _ _ R.nf,R.vrs (.push _ _) r⟩) (R.push _) (.push _ _) (.refl _ _)
theorem newLst {s:Shared}{QQ:VP}(p:Post c σ s VR Q QQ)(R:Rel c σ s.heap){l:List V}{xs:List Value}(q:∀ a,σ a=none→Q (.raw (.ref a)) (upd σ a (.list l)))(r:VRs s.heap l xs)(tk:Tk) :
 QQ (.ref s.heap.objs.size) (at_ s (s.heap.push { cls:=.type "list",data:=.seq xs.toArray }) tk):=
 p (.raw (.ref s.heap.objs.size)) _ (upd σ s.heap.objs.size (.list l)) _ tk (q _ R.fresh) (by simp only[jt1,jt2,jt3,jt4,jt5,jt6]) ((R.push _).add R.size ⟨xs.toArray,⟨_,Heap.get?_push_size _ rfl⟩,R.vrs (.push _ _) r⟩) (.push _ _) (.upd (.inr (Nat.le_refl _)))
theorem O_addT {l m:List V}(q:Q (.tup (l++m)) σ)(hz:l.length+m.length≤1000000):Op2 c N σ (.tup l) (.tup m) (binaryOp .Add) Q X:=fun A s QQ EE x y ak R r1 r2 p xp=>by
 simp only[jt1,jt2,jt3,jt4,jt5,jt6] at r1 r2
 refine el61 r1 ?_;(try clear r1);intro a xs ze141 ht r1;subst ze141
 refine el61 r2 ?_;(try clear r2);intro b ys ze142 hb r2;subst ze142
 have t1:=ht
 have t2:=hb
 obtain ⟨⟨cls,dd,data,sl⟩,ho,hc,_,n,hd⟩:=ht
 obtain ⟨⟨cls2,dd2,data2,sl2⟩,ho2,hc2,_,n2,hd2⟩:=hb
 simp only at hc hd hc2 hd2
 subst hc hd hc2 hd2
 have hz':xs.size+ys.size≤sizeLine:=by rw[← Array.length_toList,← Array.length_toList,r1.length,r2.length,sizeLine_is];exact nle (by assumption) (by rfl)
 by_cases hv:xs.isEmpty=true
 · refine concat_meets ⟨_,ho,rfl⟩ ⟨_,ho2,rfl⟩ noFill_tuple_add seq_tuple_add PySem.F.slot_tuple_add PySem.F.entry_tuple_add (PySem.F.args_tuple_add_2 _ _)
    (tuple_addW0 a b xs ys n n2 dd dd2 sl sl2 hv) ⟨ho,ho2,p.here R q ?_⟩
   have:l=[]:=by
    have h1:=r1.length
    rw[Array.length_toList,Array.isEmpty_iff_size_eq_zero.mp hv] at h1
    exact List.eq_nil_of_length_eq_zero h1.symm
   subst this
   simp only[jt1,jt2,jt3,jt4,jt5,jt6]
   exact⟨_,_,rfl,t2,r2⟩
 · by_cases hw:ys.isEmpty=true
   · refine concat_meets ⟨_,ho,rfl⟩ ⟨_,ho2,rfl⟩ noFill_tuple_add seq_tuple_add PySem.F.slot_tuple_add PySem.F.entry_tuple_add (PySem.F.args_tuple_add_2 _ _)
      (tuple_addW1 a b xs ys n n2 dd dd2 sl sl2 hv hw) ⟨ho,ho2,p.here R q ?_⟩
     have:m=[]:=by
      have h1:=r2.length
      rw[Array.length_toList,Array.isEmpty_iff_size_eq_zero.mp hw] at h1
      exact List.eq_nil_of_length_eq_zero h1.symm
     subst this
     rw[List.append_nil]
     simp only[jt1,jt2,jt3,jt4,jt5,jt6]
     exact⟨_,_,rfl,t1,r1⟩
   · refine concat_meets ⟨_,ho,rfl⟩ ⟨_,ho2,rfl⟩ noFill_tuple_add seq_tuple_add PySem.F.slot_tuple_add PySem.F.entry_tuple_add (PySem.F.args_tuple_add_2 _ _)
      (tuple_addW2 a b xs ys n n2 dd dd2 sl sl2 hv hw hz') ⟨ho,ho2,?_⟩
     have:=newTup p R (xs:=xs.toList++ys.toList) q (r1.append r2) (tks s)
     rw[show (xs.toList++ys.toList).toArray=xs++ys by simp] at this
     exact this
theorem O_addL {a b:Addr}{l m:List V}(q:∀ d,σ d=none→Q (.raw (.ref d)) (upd σ d (.list (l++m))))(ea:σ a=some (.list l))(eb:σ b=some (.list m))(hz:l.length+m.length≤1000000):Op2 c N σ (.raw (.ref a)) (.raw (.ref b)) (binaryOp .Add) Q X:=fun A s QQ EE x y ak R r1 r2 p xp=>by
 simp only[jt1,jt2,jt3,jt4,jt5,jt6] at r1 r2;subst r1 r2
 refine el60 ((R.obj a _ ea).2) ?_;intro xs n ho r1
 refine el60 ((R.obj b _ eb).2) ?_;intro ys n2 ho2 r2
 have hz':xs.size+ys.size≤sizeLine:=by rw[← Array.length_toList,← Array.length_toList,r1.length,r2.length,sizeLine_is];exact nle (by assumption) (by rfl)
 refine concat_meets ⟨_,ho,rfl⟩ ⟨_,ho2,rfl⟩ noFill_list_add seq_list_add PySem.F.slot_list_add PySem.F.entry_list_add (PySem.F.args_list_add_2 _ _) (list_addW a b xs ys n n2 none none #[] #[] hz') ⟨ho,ho2,?_⟩
 have:=newLst p R (xs:=xs.toList++ys.toList) q (r1.append r2) (tks s)
 rw[show (xs.toList++ys.toList).toArray=xs++ys by simp] at this
 exact this
noncomputable abbrev SubOp (c:Cx)(N:Lv)(σ:Sig)(a b:V)(Q:PV)(X:PX):Prop:=
 ∀ (A:Around) (s:Shared) (QQ:VP) (EE:VP) (x y:Value),AOk c N A σ s.heap→Rel c σ s.heap→VR s.heap a x→VR s.heap b y→Post c σ s VR Q QQ→XPost c σ s X EE →
  ∃ T id,s.TypeIs x T∧typeLookup (.type T) "__getitem__"=pure (some (.builtin id))∧wpAny (model c.prog c.w) A (getItem x y) QQ EE s
theorem subscripted_ops (slice:PySem.Expr)(o i:Value):∃ ops,subscripted slice false o i=operate ops (getItem o i):=by
 cases slice with
 | Slice lo hi st p=>
  cases st with
  | none=>exact⟨_,rfl⟩
  | some x=>exact⟨_,rfl⟩
 | _=>exact⟨_,rfl⟩
theorem G_sub {v i:PySem.Expr}{pos:Pos}(g:EvG c N env ρ v σ (fun a σ1=>EvG c N env ρ i σ1 (fun b σ2=>SubOp c N σ2 a b Q X) X) X):EvG c N env ρ (.Subscript v i pos) σ Q X:=fun A s QQ EE a R E p xp=>
 Subscript_ (g.run a R E xp fun v' x σ1 h1 tk1 g2 r1 a1 R1 E1 x1 gr1=>g2.run a1 R1 E1 (xp.step x1 gr1) fun u y σ2 h2 tk2 q r2 a2 R2 E2 x2 gr2=>by
  obtain ⟨T,id,hT,hl,hg⟩:=q A _ QQ EE x y a2 R2 (R1.vr x2 r1) r2 ((p.step x1 gr1).step x2 gr2) ((xp.step x1 gr1).step x2 gr2)
  obtain ⟨ops,ho⟩:=subscripted_ops i x y
  exact tail_any hT hl hg ho)
theorem I_tup {l:List V}{k:Int}{j:Nat}{v:V}(q:Q v σ)(hj:seqIndex? k l.length=some j)(hx:l[j]?=some v)(hk:-(2 ^ 63)≤k∧k<2 ^ 63):SubOp c N σ (.tup l) (.int k) Q X:=fun A s QQ EE x y ak R r1 r2 p xp=>by
 simp only[jt1,jt2,jt3,jt4,jt5,jt6] at r1 r2
 refine el61 r1 ?_;(try clear r1);intro a xs ze143 ht r1;subst ze143
 obtain ⟨t,rfl⟩:=r2
 refine el75 (r1.get hx) ?_;intro z hz rz
 exact⟨_,_,ht.typeIs,slot_tuple_getitem.lookup,getItem_tuple ht.lib hk.1 hk.2 (by rw[← Array.length_toList,r1.length];exact hj) (by simpa using hz) (p.here R q rz)⟩
theorem I_list {d:Addr}{l:List V}{k:Int}{v:V}(q:Q v σ)(ed:σ d=some (.list l))(hx:l[k.toNat]?=some v)(hk:0≤k∧k<2 ^ 63):SubOp c N σ (.raw (.ref d)) (.int k) Q X:=fun A s QQ EE x y ak R r1 r2 p xp=>by
 simp only[jt1,jt2,jt3,jt4,jt5,jt6] at r1 r2
 subst r1
 obtain ⟨t,rfl⟩:=r2
 refine el60 ((R.obj d _ ed).2) ?_;intro xs n ho r1
 have hl:s.heap.IsList d xs:=⟨_,ho,rfl,n,rfl⟩
 refine el75 (r1.get hx) ?_;intro z hz rz
 exact⟨_,_,hl.typeIs,slot_list_getitem.lookup,wpAny_getItem_list hl hk.1 hk.2 (by simpa using hz) (p.here R q rz)⟩
end
end Mine
namespace Mine
variable [Membership Addr Zip0]
section
variable {c:Cx}{N:Lv}{env:Env}{ρ:Rho}{σ:Sig}{Q:PV}{X:PX}
noncomputable abbrev PartG (c:Cx)(N:Lv)(env:Env)(ρ:Rho)(e:Option PySem.Expr)(σ:Sig)(PQ:Option Int→Sig→Prop)(X:PX):Prop:=G c N env ρ σ (fun _ (o:Option Int) (x:Value)=>IsPart x o) (evalPart e env) PQ X
theorem Pt_none {PQ:Option Int→Sig→Prop}(q:PQ none σ):PartG c N env ρ none σ PQ X:=fun A s QQ EE a R E p xp=>
 wpAny_pure (p none .none σ s.heap (tks s) q .none R (.refl _) (.refl _ _))
theorem Pt_some {PQ:Option Int→Sig→Prop}{e:PySem.Expr}(g:EvG c N env ρ e σ (fun v σ1=>∃ i,v=.int i∧PQ (some i) σ1) X):PartG c N env ρ (some e) σ PQ X:=fun A s QQ EE a R E p xp=>by
 rw[evalPart_some]
 exact g.run a R E xp fun v x σ1 h1 tk1 zu8 r a1 R1 E1 x1 gr1=>by
  refine el75 zu8 ?_;(try clear zu8);intro i e1 q
  subst e1
  simp only[jt1,jt2,jt3,jt4,jt5,jt6] at r
  obtain ⟨t,rfl⟩:=r
  exact p (some i) _ σ1 h1 tk1 q (.int i t) R1 x1 gr1
noncomputable abbrev SliceOp (c:Cx)(N:Lv)(σ:Sig)(a:V)(lo hi st:Option Int)(Q:PV)(X:PX):Prop:=
 ∀ (A:Around) (s:Shared) (QQ:VP) (EE:VP) (x:Value) (sl:Addr) (vl vu vs:Value),AOk c N A σ s.heap→Rel c σ s.heap→VR s.heap a x→s.heap.IsSliceOf sl vl vu vs→IsPart vl lo→IsPart vu hi→IsPart vs st →
  Post c σ s VR Q QQ→XPost c σ s X EE→∃ T id,s.TypeIs x T∧typeLookup (.type T) "__getitem__"=pure (some (.builtin id))∧wpAny (model c.prog c.w) A (getItem x (.ref sl)) QQ EE s
theorem G_slice {v:PySem.Expr}{lo hi st:Option PySem.Expr}{p' pos:Pos}(g:EvG c N env ρ v σ (fun a σ1=>PartG c N env ρ lo σ1 (fun l σ2=>PartG c N env ρ hi σ2 (fun u σ3=>PartG c N env ρ st σ3 (fun k σ4=>SliceOp c N σ4 a l u k Q X) X) X) X) X) :
 EvG c N env ρ (.Subscript v (.Slice lo hi st p') pos) σ Q X:=fun A s QQ EE a R E p xp=>
 Subscript_ (g.run a R E xp fun v' x σ1 h1 tk1 g1 r1 a1 R1 E1 x1 gr1=>wpAny_Slice (g1.run a1 R1 E1 (xp.step x1 gr1) fun l vl σ2 h2 tk2 g2 rl a2 R2 E2 x2 gr2=>
  g2.run a2 R2 E2 ((xp.step x1 gr1).step x2 gr2) fun u vu σ3 h3 tk3 g3 ru a3 R3 E3 x3 gr3=>g3.run a3 R3 E3 (((xp.step x1 gr1).step x2 gr2).step x3 gr3) fun k vk σ4 h4 tk4 q rk a4 R4 E4 x4 gr4=>by
   have x5:Ext (dom σ4) h4 (h4.push { cls:=.type "slice",data:=.fields #[vl,vu,vk] }):=.push _ _
   have r4:=R3.vr x4 (R2.vr x3 (R1.vr x2 r1))
   obtain ⟨T,id,hT,hl,hg⟩:=q A (at_ s (h4.push { cls:=.type "slice",data:=.fields #[vl,vu,vk] }) tk4) QQ EE x h4.objs.size vl vu vk (a4.ext x5 (.refl _ _)) (R4.push _) (R4.vr x5 r4) (.new ..) rl ru rk
    ((((p.step x1 gr1).step x2 gr2).step x3 gr3).step (x4.trans x5 (dom_back gr4)) gr4) ((((xp.step x1 gr1).step x2 gr2).step x3 gr3).step (x4.trans x5 (dom_back gr4)) gr4)
   obtain ⟨ops,ho⟩:∃ ops,subscripted (.Slice lo hi st p') false x (.ref h4.objs.size)=operate ops (getItem x (.ref h4.objs.size)):=subscripted_ops _ _ _
   exact tail_any hT hl hg ho))
noncomputable def tslice (l:List V)(lo hi st:Option Int):List V:=
 let k:=st.getD 1
 let b:=Builtin.Slice.sliceAdjust lo hi k l.length
 (List.range (Builtin.Slice.slicePlaces b.1 b.2 k)).filterMap fun (i:Nat)=>l[(b.1+(i:Int)*k).toNat]?
theorem VRs.filterMap {h:Heap}{l:List V}{xs:List Value}(r:VRs h l xs)(f:Nat→Nat):∀ is:List Nat,VRs h (is.filterMap fun i=>l[f i]?) (is.filterMap fun i=>xs[f i]?)
 | []=>.nil
 | i::is=>by
  have ih:=VRs.filterMap r f is
  cases e:l[f i]? with
  | none=>rw[List.filterMap_cons_none (f:=fun i=>l[f i]?) e,List.filterMap_cons_none (f:=fun i=>xs[f i]?) (r.none_of e)];exact ih
  | some v=>
   refine el75 (r.get e) ?_;intro x ex rx
   rw[List.filterMap_cons_some (f:=fun i=>l[f i]?) e,List.filterMap_cons_some (f:=fun i=>xs[f i]?) ex]
   exact .cons rx ih
theorem slicePart_ {M:Model}{A:Around}{E:VP}{s:Shared}{v:Value}{o:Option Int}{QQ:Option Int→Shared→Prop}(hv:IsPart v o)(h:QQ o s):wpAny M A (Builtin.Slice.slicePartIndex v) QQ E s:=by
 cases hv with
 | none=>exact wpAny_pure h
 | int i u=>
  unfold Builtin.Slice.slicePartIndex
  rw[if_neg (show ¬ ((Value.int i u==Value.none)=true) from Bool.false_ne_true)]
  refine wpAny_bind (wpAny_specialOf (T:="int") (typeIs_int s i u) int_index ?_)
  simp only[Option.isNone_some,Bool.false_eq_true,if_false]
  exact wpAny_bind (wpAny_of_eq (a:=i) rfl (wpAny_pure h))
theorem range_pick {α:Type}(xs:List α):(List.range xs.length).filterMap (fun k=>xs[k]?)=xs:=by
 induction xs with
 | nil=>rfl
 | cons x xs ih=>
  rw[List.length_cons,List.range_succ_eq_map,List.filterMap_cons_some (by rfl),List.filterMap_map]
  exact congrArg _ ih
theorem getItem_tslice {A:Around}{s:Shared}{QQ:VP}{EE:VP}{t sl:Addr}{xs:Array Value}{vl vu vs:Value}{lo hi st:Option Int}(ht:IsTup s.heap t xs)(hs:s.heap.IsSliceOf sl vl vu vs)
 (pl:IsPart vl lo) (pu:IsPart vu hi) (pk:IsPart vs st) (h0:st≠some 0) (hz:(Builtin.Slice.slicePlaces (Builtin.Slice.sliceAdjust lo hi (st.getD 1) xs.size).1 (Builtin.Slice.sliceAdjust lo hi (st.getD 1) xs.size).2 (st.getD 1))≤sizeLine)
 (hA:((Builtin.Slice.sliceAdjust lo hi (st.getD 1) xs.size).1==0&&st.getD 1==1&&(Builtin.Slice.slicePlaces (Builtin.Slice.sliceAdjust lo hi (st.getD 1) xs.size).1 (Builtin.Slice.sliceAdjust lo hi (st.getD 1) xs.size).2 (st.getD 1))==xs.size)=true→QQ (.ref t) s)
 (hB:QQ (.ref s.heap.objs.size) { s with heap:=s.heap.push { cls:=.type "tuple",data:=.seq ((List.range (Builtin.Slice.slicePlaces (Builtin.Slice.sliceAdjust lo hi (st.getD 1) xs.size).1 (Builtin.Slice.sliceAdjust lo hi (st.getD 1) xs.size).2 (st.getD 1))).filterMap fun (k:Nat)=>xs[((Builtin.Slice.sliceAdjust lo hi (st.getD 1) xs.size).1+(k:Int)*st.getD 1).toNat]?).toArray } }) :
 wpAny (model c.prog c.w) A (getItem (.ref t) (.ref sl)) QQ EE s:=by
 refine el70 (id hs) ?_;intro os hos hcs hds
 have hTs:s.TypeIs (.ref sl) "slice":=⟨os,hos,hcs⟩
 generalize hL:(Builtin.Slice.sliceAdjust lo hi (st.getD 1) xs.size)=b at *
 generalize hP:(Builtin.Slice.slicePlaces b.1 b.2 (st.getD 1))=n at *
 unfold getItem
 try with_reducible refine wpAny_holding ?_
 first | refine wpAny_bind (wpAny_pure ?_) | skip
 refine wpAny_bind (wpAny_sequenceKey ht.typeIs (by decide) ?_)
 refine wpAny_bind (wpAny_callSpecial?_slot (name:=Str.ofString "__getitem__") ht.typeIs slot_tuple_getitem
  (wpAny_call_entry slot_tuple_getitem ht.typeIs entry_tuple_getitem ?_ (args_tuple_getitem _ _)))
 show wpAny _ _ (Builtin.Tuple.tupleItemsOf (.ref t) >>= _) _ _ s
 refine wpAny_bind (tupleItemsOf_ ht.lib ?_)
 refine wpAny_bind (wpAny_typeOf hTs ?_)
 rw[if_pos (by decide)]
 have hk:¬ ((st.getD 1==0)=true):=by
  cases st with
  | none=>decide
  | some k=>intro e;exact h0 (by rw[show k=0 from by simpa using e])
 refine wpAny_bind ?_
 unfold Builtin.Slice.sliceApplied Builtin.Slice.sliceFields
 refine wpAny_bind (wpAny_bind (wpAny_field hos hds (x:=vl) rfl (wpAny_bind (wpAny_field hos hds (x:=vu) rfl (wpAny_bind (wpAny_field hos hds (x:=vs) rfl (wpAny_pure ?_)))))))
 refine wpAny_bind (slicePart_ pk ?_)
 rw[if_neg hk]
 refine wpAny_bind (slicePart_ pl (wpAny_bind (slicePart_ pu (wpAny_bind (wpAny_pure ?_)))))
 show wpAny _ _ (match Builtin.Slice.sliceAdjust lo hi (st.getD 1) (xs.size:Int) with | (lo,hi)=>pure (lo,st.getD 1,Builtin.Slice.slicePlaces lo hi (st.getD 1))) _ _ s
 rw[hL]
 obtain ⟨b1,b2⟩:=b
 simp only at hP
 show wpAny _ _ (pure (b1,st.getD 1,Builtin.Slice.slicePlaces b1 b2 (st.getD 1))) _ _ s
 rw[hP]
 refine wpAny_pure ?_
 by_cases hc:(b1==0&&st.getD 1==1&&n==xs.size)=true
 · show wpAny _ _ (if (b1==0&&st.getD 1==1&&n==xs.size)=true then _ else _) _ _ s
   rw[if_pos hc]
   have q:=hA hc
   unfold Builtin.Tuple.tupleIsExact
   refine wpAny_bind (wpAny_bind (wpAny_typeOf ht.typeIs (wpAny_pure ?_)))
   rw[if_pos (by decide)]
   exact wpAny_bind (wpAny_rule (wpAny_pure ⟨_,rfl,wpAny_pure q⟩))
 · show wpAny _ _ (if (b1==0&&st.getD 1==1&&n==xs.size)=true then _ else _) _ _ s
   rw[if_neg hc]
   exact wpAny_bind (m:=Builtin.Tuple.tupleExact _) (wpAny_newObj_type (wpAny_pure ⟨_,rfl,wpAny_pure hB⟩) (by
    show ((List.range n).filterMap _).toArray.size≤sizeLine
    rw[List.size_toArray]
    exact Nat.le_trans (List.length_filterMap_le _ _) (by rw[List.length_range];exact hz)))
end
end Mine
namespace Mine
variable [Membership Addr Zip0]
section
variable {c:Cx}{N:Lv}{env:Env}{ρ:Rho}{σ:Sig}{Q:PV}{X:PX}
noncomputable def LR (c:Cx)(σ:Sig)(a:Addr)(l:List V):Prop:=σ a=some (.list l)∨∃ xs,c.S.IsList a xs∧VRs c.S l xs.toList
noncomputable def DR (c:Cx)(σ:Sig)(a:Addr)(l:List (Str×V)):Prop:=σ a=some (.dict l)∨(∃ kvs,c.S.DictOf (strKind c.prog c.w) a kvs∧PairsR c.S l kvs)∧a≠sysModules
theorem IsTup.stat {h:Heap}(R:Rel c σ h):∀ a xs,IsTup c.S a xs→IsTup h a xs:=fun a xs t=>t.keeps R.static
theorem LR.real {a:Addr}{l:List V}{h:Heap}(x:LR c σ a l)(R:Rel c σ h):∃ xs,h.IsList a xs∧VRs h l xs.toList:=by
 rcases x with e | ⟨xs,⟨o,ho,r⟩,rr⟩
 · refine el60 ((R.obj a _ e).2) ?_;intro xs n ho r
   exact⟨xs,⟨_,ho,rfl,n,rfl⟩,r⟩
 · exact⟨xs,⟨o,R.static _ _ ho,r⟩,VRs.mono (IsTup.stat R) _ _ rr⟩
theorem DR.real {a:Addr}{l:List (Str×V)}{h:Heap}(x:DR c σ a l)(R:Rel c σ h):∃ kvs,h.DictOf (strKind c.prog c.w) a kvs∧PairsR h l kvs:=by
 rcases x with e | ⟨⟨kvs,d,r⟩,_⟩
 · exact (R.obj a _ e).2
 · exact⟨kvs,d.keep R.static,PairsR.mono (IsTup.stat R) _ _ r⟩
theorem Rel.notMods {h:Heap}(R:Rel c σ h){a:Addr}{m:MO}(e:σ a=some m):a≠sysModules:=fun q=>by
 have h1:=(R.obj a m e).1
 have h2:=c.g.lt
 rw[q] at h1
 have:mainGlobals<2:=Nat.lt_of_lt_of_le h2 (Nat.le_trans h1 (by decide))
 exact absurd this (by decide)
theorem DR.off {h:Heap}{a:Addr}{l:List (Str×V)}(x:DR c σ a l)(R:Rel c σ h):a≠sysModules:=x.elim (fun e=>R.notMods e) fun e=>e.2
theorem PairsR.at {h:Heap}:∀ {l:List (Str×V)}{kvs:List (Str×Value)} (k:Str),PairsR h l kvs→match assoc l k with
  | some v=>∃ x,valueAt kvs k=some x∧VR h v x
  | none=>valueAt kvs k=none
 | [],kvs,k,r=>by simp only[jb1,jb2] at r;subst r;rfl
 | (k',v)::l,kvs,k,r=>by
  simp only[jb1,jb2] at r
  refine el61 r ?_;(try clear r);intro x r' ze144 r1 r2;subst ze144
  have ih:=PairsR.at k r2
  simp only[jv1,jv2,valueAt,List.find?_cons] at ih ⊢
  by_cases e:k'=k
  · rw[if_pos e,decide_eq_true e];exact⟨x,rfl,r1⟩
  · rw[if_neg e,decide_eq_false e];exact ih
noncomputable def putA:List (Str×V)→Str→V→List (Str×V)
 | [],k,v=>[(k,v)]
 | (x,u)::l,k,v=>if x=k then (k,v)::l else (x,u)::putA l k v
theorem jI1:putA [] k v=([(k,v)]):=rfl
theorem jI2:putA ((x,u)::l) k v=(if x=k then (k,v)::l else (x,u)::putA l k v):=rfl
theorem PairsR.keys {h:Heap}:∀ {l:List (Str×V)}{kvs:List (Str×Value)},PairsR h l kvs→kvs.map (·.1)=l.map (·.1)
 | [],kvs,r=>by simp only[jb1,jb2] at r;subst r;rfl
 | (k',v)::l,kvs,r=>by
  simp only[jb1,jb2] at r
  refine el61 r ?_;(try clear r);intro x r' ze145 r1 r2;subst ze145
  simp [PairsR.keys r2]
theorem PairsR.put {h:Heap}{k:Str}{v:V}{x:Value}(rv:VR h v x):∀ {l:List (Str×V)}{kvs:List (Str×Value)},PairsR h l kvs→(kvs.map (·.1)).Nodup→PairsR h (putA l k v) (stored kvs k x)
 | [],kvs,r,_=>by simp only[jb1,jb2] at r;subst r;simp only[stored,jI1,jI2];exact⟨x,[],rfl,rv,rfl⟩
 | (k',u)::l,kvs,r,hn=>by
  simp only[jb1,jb2] at r
  refine el61 r ?_;(try clear r);intro y r' ze146 r1 r2;subst ze146
  rw[List.map_cons,List.nodup_cons] at hn
  have ih:=PairsR.put (k:=k) rv r2 hn.2
  simp only[stored,jI1,jI2,List.any_cons,List.map_cons] at ih ⊢
  by_cases e:k'=k
  · subst e
    simp only[if_pos rfl,decide_true,Bool.true_or,if_true]
    have:r'.map (fun kv=>if kv.1=k' then (kv.1,x) else kv)=r':=map_store_of_not_mem _ _ _ hn.1
    rw[this]
    exact⟨x,r',rfl,rv,r2⟩
  · simp only[if_neg e,decide_eq_false e,Bool.false_or]
    refine⟨y,stored r' k x,?_,r1,ih⟩
    simp only[stored]
    split <;> simp
theorem PairsR.length {h:Heap}{l:List (Str×V)}{kvs:List (Str×Value)}(r:PairsR h l kvs):kvs.length=l.length:=by
 have:=congrArg List.length r.keys
 simpa using this
theorem Sl_tup {l:List V}{lo hi st:Option Int}(q:Q (.tup (tslice l lo hi st)) σ)(h0:st≠some 0)
 (hz:Builtin.Slice.slicePlaces (Builtin.Slice.sliceAdjust lo hi (st.getD 1) l.length).1 (Builtin.Slice.sliceAdjust lo hi (st.getD 1) l.length).2 (st.getD 1)≤1000000):SliceOp c N σ (.tup l) lo hi st Q X:=fun A s QQ EE x sl vl vu vs ak R r1 hs pl pu pk p xp=>by
 simp only[jt1,jt2,jt3,jt4,jt5,jt6] at r1
 refine el61 r1 ?_;(try clear r1);intro t xs ze147 ht r1;subst ze147
 have hlen:xs.size=l.length:=by rw[← Array.length_toList,r1.length]
 refine⟨_,_,ht.typeIs,slot_tuple_getitem.lookup,getItem_tslice ht hs pl pu pk h0 (by rw[hlen,sizeLine_is];exact nle (by assumption) (by rfl)) (fun hw=>?_) ?_⟩
 · refine p.here R q ?_
   rw[hlen] at hw
   simp only[Bool.and_eq_true,beq_iff_eq] at hw
   obtain ⟨⟨w1,w2⟩,w3⟩:=hw
   have:tslice l lo hi st=l:=by
    simp only[tslice,w2] at w1 w3 ⊢
    rw[w3,w1]
    have e:(fun (i:Nat)=>l[((0:Int)+(i:Int)*1).toNat]?)=fun i=>l[i]?:=by funext i;congr 1;lia
    rw[e];exact range_pick l
   rw[this]
   simp only[jt1,jt2,jt3,jt4,jt5,jt6]
   exact⟨t,xs,rfl,ht,r1⟩
 · rw[hlen]
   have:=newTup p R q (r1.filterMap (fun i=>((Builtin.Slice.sliceAdjust lo hi (st.getD 1) l.length).1+(i:Int)*st.getD 1).toNat) (List.range (Builtin.Slice.slicePlaces (Builtin.Slice.sliceAdjust lo hi (st.getD 1) l.length).1 (Builtin.Slice.sliceAdjust lo hi (st.getD 1) l.length).2 (st.getD 1)))) (tks s)
   simp only[Array.getElem?_toList] at this
   exact this
noncomputable def lslice (l:List V)(lo hi st:Option Int):List V:=(sliceRange (sliceBounds lo hi st l.length).1 (sliceBounds lo hi st l.length).2.1 (sliceBounds lo hi st l.length).2.2).filterMap (l[·]?)
theorem Sl_list {a:Addr}{l:List V}{lo hi st:Option Int}(q:∀ d,σ d=none→Q (.raw (.ref d)) (upd σ d (.list (lslice l lo hi st))))(hl:LR c σ a l)(h0:st≠some 0)(hz:l.length≤1000000):SliceOp c N σ (.raw (.ref a)) lo hi st Q X:=fun A s QQ EE x sl vl vu vs ak R r1 hs pl pu pk p xp=>by
 simp only[jt1,jt2,jt3,jt4,jt5,jt6] at r1;subst r1
 refine el75 (hl.real R) ?_;intro xs hx r
 have hlen:xs.size=l.length:=by rw[← Array.length_toList,r.length]
 refine⟨_,_,hx.typeIs,slot_list_getitem.lookup,wpAny_getItem_list_slice hx hs pl pu pk h0 ?_ (by rw[hlen,sizeLine_is];exact nle (by assumption) (by rfl))⟩
 have:=newLst p R q (r.filterMap (fun i=>i) (sliceRange (sliceBounds lo hi st l.length).1 (sliceBounds lo hi st l.length).2.1 (sliceBounds lo hi st l.length).2.2)) (tks s)
 simp only[Array.getElem?_toList] at this
 unfold slicePick
 rw[hlen]
 exact this
theorem Sl_str {x:Str}{lo hi:Option Int}(q:Q (.str (Txt.slice x lo hi)) σ)(hx:(Txt.slice x lo hi).length≤1000000∧PyData.strOk (Txt.slice x lo hi)=true):SliceOp c N σ (.str x) lo hi none Q X:=fun A s QQ EE y sl vl vu vs ak R r1 hs pl pu pk p xp=>by
 simp only[jt1,jt2,jt3,jt4,jt5,jt6] at r1
 refine el74 r1 ?_;(try clear r1);intro hx1 t ze148;subst ze148
 have e3:vs=.none:=by cases pk;rfl
 subst e3
 obtain ⟨l,hl,hl'⟩:∃ l:Option (Int×Tok),vl=partValue l∧l.map (·.1)=lo:=by
  cases pl with
  | none=>exact⟨none,rfl,rfl⟩
  | int i u=>exact⟨some (i,u),rfl,rfl⟩
 obtain ⟨u,hu,hu'⟩:∃ l:Option (Int×Tok),vu=partValue l∧l.map (·.1)=hi:=by
  cases pu with
  | none=>exact⟨none,rfl,rfl⟩
  | int i u=>exact⟨some (i,u),rfl,rfl⟩
 subst hl hu hl' hu'
 refine⟨_,_,typeIs_str _ _ _,F.slot_str_getitem.lookup,wpAny_getItem_str_slice (st:=none) hs rfl (post_val_or_str (y:=x) ⟨?_,fun t' k=>?_⟩)⟩
 · exact Nat.le_trans hx.1 (by rw[sizeLine_is];exact Nat.le_of_ble_eq_true rfl)
 · exact p.tok R q (by simp only[jt1,jt2,jt3,jt4,jt5,jt6];exact⟨hx,_,rfl⟩)
theorem I_listR {d:Addr}{l:List V}{k:Int}{v:V}(q:Q v σ)(ed:LR c σ d l)(hx:l[k.toNat]?=some v)(hk:0≤k∧k<2 ^ 63):SubOp c N σ (.raw (.ref d)) (.int k) Q X:=fun A s QQ EE x y ak R r1 r2 p xp=>by
 simp only[jt1,jt2,jt3,jt4,jt5,jt6] at r1 r2
 subst r1
 obtain ⟨t,rfl⟩:=r2
 refine el75 (ed.real R) ?_;intro xs hl r1
 refine el75 (r1.get hx) ?_;intro z hz rz
 exact⟨_,_,hl.typeIs,slot_list_getitem.lookup,wpAny_getItem_list hl hk.1 hk.2 (by simpa using hz) (p.here R q rz)⟩
theorem I_dict {d:Addr}{l:List (Str×V)}{k:Str}{v:V}(q:Q v σ)(ed:DR c σ d l)(hx:assoc l k=some v):SubOp c N σ (.raw (.ref d)) (.str k) Q X:=fun A s QQ EE x y ak R r1 r2 p xp=>by
 simp only[jt1,jt2,jt3,jt4,jt5,jt6] at r1 r2
 subst r1
 refine el74 r2 ?_;(try clear r2);intro _ t ze149;subst ze149
 refine el75 (ed.real R) ?_;intro kvs hd r1
 have:=r1.at k
 rw[hx] at this
 refine el75 this ?_;(try clear this);intro z hz rz
 exact⟨_,_,hd.typeIs,slot_dict_getitem.lookup,wpAny_getItem_of (strKind_is c.prog c.w k t) hd.mapOf hz (p.tok R q rz)⟩
theorem I_str {x:Str}{k:Int}(q:Q (.str (Txt.item x k)) σ)(h1:-(x.length:Int)≤k)(h2:k<x.length)(ho:PyData.strOk (Txt.item x k)=true):SubOp c N σ (.str x) (.int k) Q X:=fun A s QQ EE y z ak R r1 r2 p xp=>by
 simp only[jt1,jt2,jt3,jt4,jt5,jt6] at r1 r2
 refine el74 r1 ?_;(try clear r1);intro hx1 t ze150;subst ze150
 obtain ⟨u,rfl⟩:=r2
 obtain ⟨T,id,hl,hT,hg⟩:=SBL.item (prog:=c.prog) (w:=c.w) (A:=A) (E:=EE) (s:=s) (x:=x) (t:=t) (u:=u) (Q:=QQ) h1 h2 (by have:=hx1.1;lia) fun hh=>p.tok R q (by simp only[jt1,jt2,jt3,jt4,jt5,jt6];exact⟨⟨by exact Nat.le_of_ble_eq_true rfl,ho⟩,_,rfl⟩)
 exact⟨T,id,hT,hl,hg⟩
theorem O_in {d:Addr}{l:List (Str×V)}{k:Str}(q:Q (.bool (assoc l k).isSome) σ)(ed:DR c σ d l):Op2 c N σ (.str k) (.raw (.ref d)) (compareOp .In) Q X:=fun A s QQ EE x y ak R r1 r2 p xp=>by
 simp only[jt1,jt2,jt3,jt4,jt5,jt6] at r1 r2
 subst r2
 refine el74 r1 ?_;(try clear r1);intro _ t ze151;subst ze151
 refine el75 (ed.real R) ?_;intro kvs hd r1
 refine wpAny_in_of (strKind_is c.prog c.w k t) (beq_eq_false_iff_ne.mpr (ed.off R)) hd.mapOf (p.tok R q ?_)
 have:=r1.at k
 cases e:assoc l k with
 | none=>rw[e] at this;rw[this];simp only[jt1,jt2,jt3,jt4,jt5,jt6];rfl
 | some v=>rw[e] at this;refine el75 this ?_;(try clear this);intro z hz _;rw[hz];simp only[jt1,jt2,jt3,jt4,jt5,jt6];rfl
theorem O_notIn {d:Addr}{l:List (Str×V)}{k:Str}(q:Q (.bool (!(assoc l k).isSome)) σ)(ed:DR c σ d l):Op2 c N σ (.str k) (.raw (.ref d)) (compareOp .NotIn) Q X:=fun A s QQ EE x y ak R r1 r2 p xp=>by
 simp only[jt1,jt2,jt3,jt4,jt5,jt6] at r1 r2
 subst r2
 refine el74 r1 ?_;(try clear r1);intro _ t ze152;subst ze152
 refine el75 (ed.real R) ?_;intro kvs hd r1
 refine wpAny_notIn_of (strKind_is c.prog c.w k t) (beq_eq_false_iff_ne.mpr (ed.off R)) hd.mapOf (p.tok R q ?_)
 have:=r1.at k
 cases e:assoc l k with
 | none=>rw[e] at this;rw[this];simp only[jt1,jt2,jt3,jt4,jt5,jt6];rfl
 | some v=>rw[e] at this;refine el75 this ?_;(try clear this);intro z hz _;rw[hz];simp only[jt1,jt2,jt3,jt4,jt5,jt6];rfl
end
end Mine
namespace Mine
variable [Membership Addr Zip0]
section
variable {c:Cx}{N:Lv}{env:Env}{ρ:Rho}{σ:Sig}{Q:PV}{X:PX}{SQ:PF}{SX:PE}
noncomputable def CallOp (c:Cx)(N:Lv)(σ:Sig)(f:Value)(args:List V)(Q:PV)(X:PX):Prop:=
 ∀ (A:Around) (s:Shared) (QQ:VP) (EE:VP) (ys:List Value),AOk c N A σ s.heap→Rel c σ s.heap→VRs s.heap args ys→Post c σ s VR Q QQ→XPost c σ s X EE→wpAny (model c.prog c.w) A (call f ys) QQ EE s
noncomputable def Kee (c:Cx)(σ:Sig)(f:Value):Prop:=∀ h,Rel c σ h→∃ k,(k=Keeper.frame∨k=Keeper.machine∨k=Keeper.boundFrame)∧Looks (model c.prog c.w) h (keeperOf f) k
theorem Kee.builtin {id:String}:Kee c σ (.builtin id):=fun h _=>⟨.machine,.inr (.inl rfl),Looks.of_pure rfl⟩
theorem Kee.type {T:String}:Kee c σ (.type T):=fun h _=>⟨.machine,.inr (.inl rfl),Looks.of_pure rfl⟩
theorem Kee.K {f:Value}(hk:keepIn c.K f=true):Kee c σ f:=fun h R=>keeps_K hk h (c.KIn.keeps R.static)
theorem evalArgs_any {M:Model}{A:Around}{E:VP}{s:Shared}{f:Value}{args:List (Bool×Sem Value)}{QQ:Args→Shared→Prop}(hp:args.any (·.1)=false)(h:wpAny M A (spliced args) (fun vs s'=>QQ ⟨vs,[]⟩ s') E s):wpAny M A (evalArgs f true args []) QQ E s:=by
 cases args with
 | nil=>
  unfold evalArgs
  show wpAny M A (spliced [] >>= _) QQ E s
  refine wpAny_bind (wpAny_mono h (fun vs s' h'=>?_) fun _ _ x=>x)
  refine wpAny_holding ?_
  exact wpAny_bind (wpAny_pure (wpAny_bind (wpAny_pure (wpAny_pure h'))))
 | cons a r=>
  obtain ⟨b,x⟩:=a
  cases b with
  | true=>simp at hp
  | false=>exact evalArgs_plain h
theorem call_node {M:Model}{A:Around}{E:VP}{s:Shared}{f:Value}{first:List Value}{es:List PySem.Expr}{pos:Pos}{QQ:VP}{P:Heap→Prop}
 (hk:∀ h,P h→∃ k,(k=Keeper.frame∨k=Keeper.machine∨k=Keeper.boundFrame)∧Looks M h (keeperOf f) k)
 (h:wpAny M A (spliced (backTo pos (starEach es env))) (fun vs s₁=>P s₁.heap∧wpAny M A (call f (first++vs)) QQ E s₁) E s) (hp:(backTo pos (starEach es env)).any (·.1)=false) :
 wpAny M A (callWith pos f first (backTo pos (starEach es env)) []) QQ E s:=
 callWith_of (by rw[hp];rfl) hk (evalArgs_any hp h)
theorem G_call {fe:PySem.Expr}{es:List PySem.Expr}{pos:Pos}(g:EvG c N env ρ fe σ (fun v σ1=>∃ f,v=.raw f∧ArgsG c N env ρ es pos σ1 (fun vs σ2=>Kee c σ2 f∧CallOp c N σ2 f vs Q X) X) X)
 (he:eval (.Call fe es [] pos) env=(do let f ← eval fe env;callWith pos f [] (backTo pos (starEach es env)) []):=by rfl) (hp:(backTo pos (starEach es env)).any (·.1)=false:=by rfl):EvG c N env ρ (.Call fe es [] pos) σ Q X:=fun A s QQ EE a R E p xp=>by
 rw[he]
 exact wpAny_bind (g.run a R E xp fun v x σ1 h1 tk1 zu9 r1 a1 R1 E1 x1 gr1=>by
  refine el75 zu9 ?_;(try clear zu9);intro f e1 g1
  subst e1
  simp only[jt1,jt2,jt3,jt4,jt5,jt6] at r1
  subst r1
  refine call_node (P:=fun h=>∃ k,(k=Keeper.frame∨k=Keeper.machine∨k=Keeper.boundFrame)∧Looks (model c.prog c.w) h (keeperOf x) k) (fun h q=>q) (g1.run a1 R1 E1 (xp.step x1 gr1) fun vs ys σ2 h2 tk2 ⟨k2,q⟩ r2 a2 R2 E2 x2 gr2=>⟨k2 h2 R2,?_⟩) hp
  exact q A _ QQ EE ys a2 R2 r2 ((p.step x1 gr1).step x2 gr2) ((xp.step x1 gr1).step x2 gr2))
noncomputable def MethOp (c:Cx)(N:Lv)(σ:Sig)(a:V)(name:Str)(f:Value):Prop:=
 ∀ (A:Around) (s:Shared) (EE:VP) (x:Value) (pl:Sem Bool) (QQ:Value×List Value→Shared→Prop),AOk c N A σ s.heap→Rel c σ s.heap→VR s.heap a x→QQ (f,[x]) s→wpAny (model c.prog c.w) A (getMethod x name pl) QQ EE s
theorem G_meth {o:PySem.Expr}{name:Str}{apos pos:Pos}{es:List PySem.Expr}{pl:Sem Bool}(g:EvG c N env ρ o σ (fun v σ1=>∃ f,MethOp c N σ1 v name f∧ArgsG c N env ρ es pos σ1 (fun vs σ2=>Kee c σ2 f∧CallOp c N σ2 f (v::vs) Q X) X) X)
 (he:eval (.Call (.Attribute o name apos) es [] pos) env=(do
  let ov ← eval o env
  standAt apos.atName
  let (f,first) ← holding [ov] (getMethod ov name pl)
  callWith pos f first (backTo pos (starEach es env)) []):=by rfl) (hp:(backTo pos (starEach es env)).any (·.1)=false:=by rfl):EvG c N env ρ (.Call (.Attribute o name apos) es [] pos) σ Q X:=fun A s QQ EE a R E p xp=>by
 refine MethodCall_ (pl:=pl) (g.run a R E xp fun v x σ1 h1 tk1 ⟨f,m1,g1⟩ r1 a1 R1 E1 x1 gr1=>m1 A _ EE x pl _ a1 R1 r1 ?_) he
 refine call_node (P:=fun h=>∃ k,(k=Keeper.frame∨k=Keeper.machine∨k=Keeper.boundFrame)∧Looks (model c.prog c.w) h (keeperOf f) k) (fun h q=>q) (g1.run a1 R1 E1 (xp.step x1 gr1) fun vs ys σ2 h2 tk2 ⟨k2,q⟩ r2 a2 R2 E2 x2 gr2=>⟨k2 h2 R2,?_⟩) hp
 exact q A _ QQ EE (x::ys) a2 R2 (.cons (R1.vr x2 r1) r2) ((p.step x1 gr1).step x2 gr2) ((xp.step x1 gr1).step x2 gr2)
end
end Mine
namespace Mine
variable [Membership Addr Zip0]
section
variable {c:Cx}{N:Lv}{env:Env}{ρ:Rho}{σ:Sig}{A:Around}{M:Model}{E:VP}{s:Shared}
noncomputable def RecAt (h:Heap)(a:Addr):Prop:=∃ o,h.get? a=some o∧((∃ us,o.data=.fields us)∨(Fz a∧o.cls=.type "tuple"∧∃ xs n,o.data=.seq xs n))
theorem RecAt.fields {h:Heap}{a:Addr}{o:Obj}{us:Array Value}(e:h.get? a=some o)(hd:o.data=.fields us):RecAt h a:=⟨o,e,.inl ⟨us,hd⟩⟩
theorem RecAt.dict {h:Heap}{a:Addr}{o:Obj}{es:Array DictEntry}{n:Nat}(r:RecAt h a)(e:h.get? a=some o)(hd:o.data=.dict es n):False:=by
 refine el75 r ?_;(try clear r);intro o' e' r
 obtain rfl:=uq e e'
 rcases r with ⟨us,q⟩ | ⟨_,_,xs,k,q⟩ <;> (rw[hd] at q;cases q)
theorem RecAt.cell {h:Heap}{a:Addr}{o:Obj}{v:Option Value}(r:RecAt h a)(e:h.get? a=some o)(hd:o.data=.cell v):False:=by
 refine el75 r ?_;(try clear r);intro o' e' r
 obtain rfl:=uq e e'
 rcases r with ⟨us,q⟩ | ⟨_,_,xs,k,q⟩ <;> (rw[hd] at q;cases q)
theorem RecAt.list {h:Heap}{a:Addr}{o:Obj}{xs:Array Value}{n:Nat}(r:RecAt h a)(e:h.get? a=some o)(hc:o.cls=.type "list")(hd:o.data=.seq xs n):False:=by
 refine el75 r ?_;(try clear r);intro o' e' r
 obtain rfl:=uq e e'
 rcases r with ⟨us,q⟩ | ⟨_,q,_⟩
 · rw[hd] at q;cases q
 · rw[hc] at q;exact absurd q (by decide)
noncomputable def FB (c:Cx)(σ:Sig)(lo:Nat)(h:Heap):Addr→Prop:=fun a=>lo≤a∧c.S.objs.size≤a∧σ a=none∧(h.objs.size≤a∨RecAt h a)
theorem FB.noTup {lo:Nat}{h:Heap}:NoTup (FB c σ lo h) h:=fun a xs q zu10=>by
 refine el32 zu10 ?_;(try clear zu10);intro o e hc _ nf n hd
 refine el72 q ?_;(try clear q);intro _ _ _ q
 rcases q with q | ⟨o',e',⟨us,hd'⟩ | ⟨z,_⟩⟩
 · exact absurd (Heap.lt_size e) (Nat.not_lt.mpr q)
 · obtain rfl:=uq e e';rw[hd] at hd';cases hd'
 · exact nf z
theorem FB.mono {lo lo':Nat}{h:Heap}(hl:lo'≤lo):∀ a,FB c σ lo h a→FB c σ lo' h a:=fun a q=>⟨Nat.le_trans hl q.1,q.2⟩
structure Flew (c:Cx) (σ:Sig) (lo:Nat) (h h':Heap):Prop where
 ext:Ext (FB c σ lo h) h h'
 static:∀ a o,c.S.get? a=some o→h.get? a=some o→h'.get? a=some o
theorem Flew.refl {lo:Nat}{h:Heap}:Flew c σ lo h h:=⟨.refl _,fun _ _ _ e=>e⟩
theorem Flew.trans {lo:Nat}{h h1 h2:Heap}(x:Flew c σ lo h h1)(y:Flew c σ lo h1 h2):Flew c σ lo h h2:=
 ⟨⟨fun a o ha e=>by
  refine el75 (x.ext.keep a o ha e) ?_;intro o1 e1 l1
  have hb:¬ FB c σ lo h1 a:=fun q=>ha ⟨q.1,q.2.1,q.2.2.1,by
   rcases q.2.2.2 with q | ⟨o',e',r⟩
   · exact absurd (Heap.lt_size e1) (Nat.not_lt.mpr q)
   · obtain rfl:=uq e1 e'
     exact .inr ⟨o,e,by rw[← l1.data,← l1.cls];exact r⟩⟩
  refine el75 (y.ext.keep a o1 hb e1) ?_;intro o2 e2 l2
  exact⟨o2,e2,l1.trans l2⟩,Nat.le_trans x.ext.size y.ext.size⟩,fun a o hs e=>y.static a o hs (x.static a o hs e)⟩
theorem Flew.rel {lo:Nat}{h h':Heap}(x:Flew c σ lo h h')(R:Rel c σ h):Rel c σ h':=
 R.beside x.ext FB.noTup (fun a q=>q.2.2.1) (fun a q=>q.2.1) fun a o e=>x.static a o e (R.static a o e)
theorem Flew.envR {lo:Nat}{h h':Heap}(x:Flew c σ lo h h')(Ev:EnvR c σ env ρ h):EnvR c σ env ρ h':=by
 refine el75 Ev.vars ?_;intro m hn hv
 have hnf:∀ {a:Addr}{o:Obj},h.get? a=some o→(RecAt h a→False)→¬ FB c σ lo h a:=fun e hd q=>by
  rcases q.2.2.2 with q | r
  · exact absurd (Heap.lt_size e) (Nat.not_lt.mpr q)
  · exact hd r
 have hl:¬ FB c σ lo h env.locals:=by
  refine el55 hn ?_;(try clear hn);intro o es ep e1 e2 _
  exact hnf e1 fun r=>r.dict e1 e2
 have hc:∀ {k v},h.IsCell k v→¬ FB c σ lo h k:=fun zu=>el75 zu fun o e1 e2=>hnf e1 fun r=>r.cell e1 e2
 refine⟨Ev.kind,Ev.glob,Ev.blt,Ev.loc,fun y k e=>?_,Ev.apart,⟨m,Ns.like hn x.ext hl,fun y v hm=>?_⟩,Ev.nodup,Ev.kinds,?_,?_⟩
 · refine el73 (Ev.cells y k e) ?_;intro a1 a2 v a3
   exact⟨a1,a2,v,IsCell.like a3 x.ext (hc a3)⟩
 · rcases hv y v hm with ⟨k1,z,e1,e2⟩ | ⟨k1,k,z,e1,e2,e3⟩
   · exact .inl ⟨k1,z,e1,VR.ext FB.noTup x.ext e2⟩
   · exact .inr ⟨k1,k,z,e1,IsCell.like e2 x.ext (hc e2),VR.ext FB.noTup x.ext e3⟩
 · refine Ev.own.imp id fun zu11=>?_
   refine el75 zu11 ?_;(try clear zu11);intro o e1 e2
   refine el75 (x.ext.keep _ o hl e1) ?_;intro o' e' l
   exact⟨o',e',fun q=>e2 (l.cls.symm.trans q)⟩
 · refine el42 Ev.hand ?_;intro f o e1 e2 e3 es n e4
   refine el75 (x.ext.keep f o (hnf e2 fun r=>r.dict e2 e4) e2) ?_;intro o' e' l
   exact⟨f,o',e1,e',l.cls.trans e3,es,n,l.data.trans e4⟩
theorem Flew.ok {lo:Nat}{h h':Heap}(x:Flew c σ lo h h')(a:AOk c N A σ h):AOk c N A σ h':=
 ⟨a.depth,a.units,a.han,let ⟨l,e,f⟩:=a.frames;⟨l,e,fun y hy=>(f y hy).ext x.ext (fun k hk q=>by
  refine el19 (f y hy) ?_;intro f' o e1 e2 _ es n e4 _
  obtain rfl:=uq e1 hk
  rcases q.2.2.2 with q | r
  · exact absurd (Heap.lt_size e2) (Nat.not_lt.mpr q)
  · exact r.dict e2 e4) (.refl _ _)⟩,a.guards⟩
theorem Flew.toExt {lo:Nat}{h0 h h':Heap}{B:Addr→Prop}(x:Flew c σ lo h h')(y:Ext B h0 h)(hl:h0.objs.size≤lo):Ext B h0 h':=y.trans x.ext fun a q=>.inr (Nat.le_trans hl q.1)
noncomputable def FlyT (c:Cx)(σ:Sig)(lo:Nat)(h:Heap)(e:Addr)(ex:Exn):Prop:=Fly c σ lo h e ex∧∃ o vs tb,h.get? e=some o∧o.data=.fields vs∧vs[1]?=some (.ref tb)
theorem slots_flew {lo:Nat}{h h':Heap}{l:List Env}(hs:Heap.SlotsOnly (l.filterMap (·.frame)) h h')(hf:∀ e∈l,FrameOk c σ h e):Flew c σ lo h h':=by
 have key:∀ b o,h.get? b=some o→b∈l.filterMap (·.frame)→o.cls=.type "frame"∧c.S.objs.size≤b:=fun b o e hb=>by
  refine el75 (List.mem_filterMap.mp hb) ?_;intro y hy hy'
  refine el27 (hf y hy) ?_;intro f o' e1 e2 e3 _ _ e6 _
  obtain rfl:=uq hy' e1
  obtain rfl:=uq e e2
  exact⟨e3,e6⟩
 refine⟨⟨fun a o _ e=>?_,Nat.le_of_eq hs.1.symm⟩,fun a o hst e=>?_⟩
 · by_cases hm:a∈l.filterMap (·.frame)
   · obtain ⟨sl,e'⟩:=hs.2.2 a o e
     exact⟨_,e',.inr ⟨(key a o e hm).1,sl,rfl⟩⟩
   · exact⟨o,(hs.2.1 a hm).trans e,.refl _⟩
 · by_cases hm:a∈l.filterMap (·.frame)
   · exact absurd (Heap.lt_size hst) (Nat.not_lt.mpr (key a o e hm).2)
   · exact (hs.2.1 a hm).trans e
theorem funFrames {h:Heap}:∀ {l:List Env},(∀ e∈l,FrameOk c σ h e)→h.FunFrames c.S l
 | [],_=>trivial
 | e::l,hf=>by
  refine el9 (hf e (.head _)) ?_;intro f o e1 e2 e3 es n e4 e5 e6 e7
  exact⟨e7,⟨f,o,e1,Heap.get?_none_of_le e6,e2,fun vs q=>by rw[e4] at q;cases q⟩,funFrames fun y hy=>hf y (.tail _ hy)⟩
theorem frameOf_ {lo:Nat}{Q:VP}(ot:OnTop A env)(a:AOk c N A σ s.heap){L:Addr}(hf:env.frame=some L)(h:∀ h',Flew c σ lo s.heap h'→h'.objs.size=s.heap.objs.size→(∀ b o,s.heap.get? b=some o→o.cls≠.type "frame"→h'.get? b=some o)→Q (.ref L) { s with heap:=h' }):wpAny M A (PySem.frameOf env) Q E s:=by
 refine el68 ot ?_;(try clear ot);intro e l e1 e2
 refine el75 a.frames ?_;intro l' e1' f
 obtain rfl:=uq e1 e1'
 unfold PySem.frameOf
 refine wpAny_bind (wpAny_frameEnvs e1 ?_)
 have hdw:((e::l).dropWhile fun x=>x.frame != env.frame)=e::l:=by rw[List.dropWhile_cons_of_neg];rw[e2];simp
 rw[hdw]
 unfold frameObject
 refine wpAny_bind (wpAny_bind (wpAny_readyFrames_fun (funFrames f) fun h₁ hs₁=>wpAny_pure ?_))
 rw[e2,hf]
 refine wpAny_pure (h h₁ (slots_flew hs₁ f) hs₁.1 fun b o hb hc=>?_)
 by_cases hm:b∈(e::l).filterMap (·.frame)
 · refine el75 (List.mem_filterMap.mp hm) ?_;intro y hy hy'
   refine el54 (f y hy) ?_;intro f' o' q1 q2 q3 _
   obtain rfl:=uq hy' q1
   obtain rfl:=uq hb q2
   exact absurd q3 hc
 · exact (hs₁.2.1 b hm).trans hb
theorem set_flew {lo:Nat}{h:Heap}{b:Addr}{o:Obj}{us:Array Value}(f:Array Value→Array Value)(e:h.get? b=some o)(hd:o.data=.fields us)(h1:lo≤b)(h2:c.S.objs.size≤b)(h3:σ b=none) :
 Flew c σ lo h (h.update b (Obj.mapFields f))∧(h.update b (Obj.mapFields f)).get? b=some (o.mapFields f):=by
 have hs:Heap.SameBut b h (h.update b (Obj.mapFields f)):=.update ..
 refine⟨⟨.same hs (.inl ⟨h1,h2,h3,.inr (.fields e hd)⟩),fun a o' hst ho=>(hs.2 a (oldS h2 hst)).trans ho⟩,Heap.get?_update_self _ e (Obj.isFreed_of_fields (Obj.data_mapFields hd f))⟩
theorem Fly.there {lo:Nat}{h:Heap}{e:Addr}{ex:Exn}(F:Fly c σ lo h e ex):∃ dx vs,h.get? e=some ⟨.ref ex.C,some dx,.fields vs,#[]⟩∧6≤vs.size:=el41 (F) fun _ _ _ dx vs d e' _=>⟨dx,vs,d,e'.1⟩
theorem setFlight_ {lo:Nat}{e:Addr}{ex:Exn}{fr:Option Addr}{Q:UP}(F:Fly c σ lo s.heap e ex)
 (h:∀ h',Flew c σ lo s.heap h'→Fly c σ lo h' e ex→(FlyT c σ lo s.heap e ex→FlyT c σ lo h' e ex)→Q () { s with heap:=h' }):wpAny M A (setFlight (.ref e) fr) Q E s:=by
 have F0:=F
 refine el13 F ?_;(try clear F);intro f1 f2 f3 dx vs he hv f4 f5 f6 f7 f8 f9
 unfold setFlight
 rcases f9 with h1 | ⟨tb,ot,us,h1,g1,g2,g3,g4,g5,g6,g7,g8,g9⟩
 · refine wpAny_bind (wpAny_field he rfl h1 ?_)
   rw[if_neg (by decide)]
   exact wpAny_pure (h s.heap .refl F0 id)
 · refine wpAny_bind (wpAny_field he rfl h1 ?_)
   rw[if_pos (show (Value.ref tb != Value.none)=true from by simp)]
   refine wpAny_setField g6 g8 (by exact Nat.le_of_lt (by assumption)) ?_
   obtain ⟨w1,w2⟩:=set_flew (lo:=lo) (σ:=σ) (c:=c) (·.setIfInBounds 3 (fr.elim .none fun f=>rawInt f)) g6 g8 g1 g2 g3
   have hs:Heap.SameBut tb s.heap (s.heap.update tb (Obj.mapFields (·.setIfInBounds 3 (fr.elim .none fun f=>rawInt f)))):=.update ..
   have he':=(hs.2 e g4.symm).trans he
   have F1:Fly c σ lo (s.heap.update tb (Obj.mapFields (·.setIfInBounds 3 (fr.elim .none fun f=>rawInt f)))) e ex:=by
    refine⟨f1,f2,f3,dx,vs,he',hv,f4,f5,f6,f7,?_,.inr ⟨tb,_,_,h1,g1,g2,g3,g4,g5,w2,(Obj.cls_mapFields ..).trans g7,Obj.data_mapFields g8 _,by simpa using g9⟩⟩
    refine el68 f8 ?_;(try clear f8);intro es n q1 q2
    exact⟨es,n,(hs.2 dx g5.symm).trans q1,EsR.mono (fun a xs t=>IsTup.ext FB.noTup w1.ext t) _ _ q2⟩
   exact h _ w1 F1 fun _=>⟨F1,_,vs,tb,he',rfl,h1⟩
theorem field1_none {lo:Nat}{e:Addr}{ex:Exn}{Q:VP}(F:FlyT c σ lo s.heap e ex)(h:∀ tb,Q (.ref tb) s):wpAny M A (field (.ref e) 1) Q E s:=by
 refine el45 F ?_;(try clear F);intro _ o vs tb h1 h2 h3
 exact wpAny_field h1 h2 h3 (h tb)
theorem cameBack_ {lo:Nat}{e:Addr}{ex:Exn}{EE:VP}(F:FlyT c σ lo s.heap e ex)(h:∀ h',Flew c σ lo s.heap h'→FlyT c σ lo h' e ex→EE (.ref e) { s with heap:=h' }):cameBackBy M A env EE (.ref e) s:=by
 unfold cameBackBy
 refine wpAny_bind (field1_none F fun tb=>?_)
 rw[if_neg (show ¬ ((Value.ref tb==Value.none)=true) from Bool.false_ne_true)]
 exact setFlight_ F.1 fun h' x F' t=>h h' x (t F)
theorem fresh_flew {lo:Nat}{h:Heap}(o:Obj)(hl:lo≤h.objs.size):Flew c σ lo h (h.push o):=⟨.push _ _,fun _ _ _ e=>Heap.get?_push_of_some _ e⟩
theorem Flew.mono {lo lo':Nat}{h h':Heap}(x:Flew c σ lo h h')(hl:lo'≤lo):Flew c σ lo' h h':=⟨x.ext.mono (FB.mono hl),x.static⟩
theorem Fly.nf {lo:Nat}{h h':Heap}{e:Addr}{ex:Exn}(F:Fly c σ lo h e ex)(k:∀ b o,h.get? b=some o→o.cls≠.type "frame"→h'.get? b=some o):Fly c σ lo h' e ex:=by
 refine el3 F ?_;(try clear F);intro f1 f2 f3 dx vs he hv f4 f5 f6 f7 es n q1 q2 f9
 have kt:∀ a xs,IsTup h a xs→IsTup h' a xs:=fun a xs zu=>el70 zu fun o e hc r=>⟨o,k a o e (by rw[hc];decide),hc,r⟩
 refine⟨f1,f2,f3,dx,vs,k _ _ he (by simp),hv,f4,f5,f6,f7,⟨es,n,k _ _ q1 (show Value.type "dict"≠_ by decide),EsR.mono kt _ _ q2⟩,f9.imp id fun zu=>el18 zu fun tb ot us h1 g1 g2 g3 g4 g5 g6 g7 r=>⟨tb,ot,us,h1,g1,g2,g3,g4,g5,k _ _ g6 (by rw[g7];decide),g7,r⟩⟩
theorem noteFrame_ {lo:Nat}{e:Addr}{ex:Exn}{L:Addr}{Q:UP}(ot:OnTop A env)(a:AOk c N A σ s.heap)(R:Rel c σ s.heap)(hf:env.frame=some L)(F:Fly c σ lo s.heap e ex)
 (h:∀ h',Flew c σ lo s.heap h'→FlyT c σ lo h' e ex→Q () { s with heap:=h' }):wpAny M A (noteFrame (.ref e) env) Q E s:=by
 have tail:∀ {h1:Heap} (head:Value) (b:Bool),Flew c σ lo s.heap h1→Fly c σ lo h1 e ex →
  wpAny M A (do setField (.ref e) 1 (← EntryCells.newEntry head (← PySem.frameOf env) .none (rawInt L) .none (← entryPlaceOf L b))) Q E { s with heap:=h1 }:=by
  intro h1 head b x1 F1
  have a1:=x1.ok a
  refine wpAny_bind (frameOf_ (s:={ s with heap:=h1 }) (lo:=lo) ot a1 hf fun h2 x2 hs2 k2=>?_)
  refine wpAny_bind (wpAny_entryPlaceOf fun pl hpl=>?_)
  unfold EntryCells.newEntry newFields
  refine wpAny_bind (wpAny_newObj_type ?_ (hpl.sizeOk5 _ _ _ _ _))
  have R2:=(x1.trans x2).rel R
  have F2:=F1.nf k2
  refine el3 F2 ?_;(try clear F2);intro f1 f2 f3 dx vs he hv f4 f5 f6 f7 es n q1 q2 f9
  have hlo:lo≤h2.objs.size:=Nat.le_trans f1 (Nat.le_of_lt (Heap.lt_size he))
  have hS:c.S.objs.size≤h2.objs.size:=R2.size
  generalize hT:({ cls:=.type "traceback",dict:=none,data:=.fields ([head,Value.ref L,.none,rawInt L,.none]++(if pl.isEmpty then List.replicate 6 Value.none else pl)).toArray }:Obj)=T
  have hTc:T.cls=.type "traceback":=by rw[← hT]
  have hTd:T.data=.fields ([head,Value.ref L,.none,rawInt L,.none]++(if pl.isEmpty then List.replicate 6 Value.none else pl)).toArray:=by rw[← hT]
  have hTf:T.isFreed=false:=by rw[← hT];rfl
  have x3:Flew c σ lo h2 (h2.push T):=fresh_flew T hlo
  have he3:=Heap.get?_push_of_some T he
  have hte:h2.objs.size≠e:=Nat.ne_of_gt (Heap.lt_size he)
  have htd:h2.objs.size≠dx:=Nat.ne_of_gt (Heap.lt_size q1)
  refine wpAny_setField he3 rfl (by lia) ?_
  obtain ⟨w1,w2⟩:=set_flew (lo:=lo) (σ:=σ) (c:=c) (·.setIfInBounds 1 (Value.ref h2.objs.size)) he3 rfl f1 f2 f3
  have hs:Heap.SameBut e (h2.push T) ((h2.push T).update e (Obj.mapFields (·.setIfInBounds 1 (Value.ref h2.objs.size)))):=.update ..
  have xx:Flew c σ lo s.heap ((h2.push T).update e (Obj.mapFields (·.setIfInBounds 1 (Value.ref h2.objs.size)))):=((x1.trans x2).trans x3).trans w1
  have hv1:(vs.setIfInBounds 1 (Value.ref h2.objs.size))[1]?=some (Value.ref h2.objs.size):=by rw[Array.getElem?_setIfInBounds_self_of_lt (by lia)]
  refine h _ xx ⟨⟨f1,f2,f3,dx,vs.setIfInBounds 1 (Value.ref h2.objs.size),w2,⟨by simpa using hv.1,fun q=>by rw[Array.getElem?_setIfInBounds_ne (by decide)];exact hv.2 q⟩,f4,f5,f6,f7,⟨es,n,(hs.2 dx f7).trans (Heap.get?_push_of_some _ q1),?_⟩,.inr ⟨h2.objs.size,T,_,hv1,hlo,hS,R2.fresh,hte,htd,(hs.2 _ hte).trans (Heap.get?_push_size _ hTf),hTc,hTd,?_⟩⟩,_,_,_,w2,rfl,hv1⟩
  · exact EsR.mono (fun a xs t=>IsTup.ext FB.noTup (x3.trans w1).ext t) _ _ q2
  · simp only[List.size_toArray,List.length_append,List.length_cons,List.length_nil];exact Nat.le_add_right _ _
 unfold noteFrame
 simp only[hf]
 have F0:=F
 refine el13 F ?_;(try clear F);intro f1 f2 f3 dx vs he hv f4 f5 f6 f7 f8 f9
 rcases f9 with h1 | ⟨tb,ot',us,h1,g1,g2,g3,g4,g5,g6,g7,g8,g9⟩
 · refine wpAny_bind (wpAny_field he rfl h1 ?_)
   rw[if_neg (by decide)]
   exact tail Value.none _ .refl F0
 · refine wpAny_bind (wpAny_field he rfl h1 ?_)
   rw[if_pos (show (Value.ref tb != Value.none)=true from by simp)]
   obtain ⟨z,hz⟩:∃ z,us[3]?=some z:=⟨us[3],Array.getElem?_eq_getElem (by exact Nat.le_of_lt (by assumption))⟩
   refine wpAny_bind (wpAny_field g6 g8 hz ?_)
   by_cases hq:(z==rawInt L)=true
   · rw[if_pos hq]
     exact wpAny_pure (h s.heap .refl ⟨F0,_,vs,tb,he,rfl,h1⟩)
   · rw[if_neg hq]
     refine wpAny_bind (wpAny_setField g6 g8 (by exact Nat.le_of_lt (by assumption)) ?_)
     obtain ⟨w1,w2⟩:=set_flew (lo:=lo) (σ:=σ) (c:=c) (·.setIfInBounds 3 Value.none) g6 g8 g1 g2 g3
     have hs:Heap.SameBut tb s.heap (s.heap.update tb (Obj.mapFields (·.setIfInBounds 3 Value.none))):=.update ..
     have F1:Fly c σ lo (s.heap.update tb (Obj.mapFields (·.setIfInBounds 3 Value.none))) e ex:=by
      refine⟨f1,f2,f3,dx,vs,(hs.2 e g4.symm).trans he,hv,f4,f5,f6,f7,?_,.inr ⟨tb,_,_,h1,g1,g2,g3,g4,g5,w2,(Obj.cls_mapFields ..).trans g7,Obj.data_mapFields g8 _,by simpa using g9⟩⟩
      refine el68 f8 ?_;(try clear f8);intro es n q1 q2
      exact⟨es,n,(hs.2 dx g5.symm).trans q1,EsR.mono (fun a xs t=>IsTup.ext FB.noTup w1.ext t) _ _ q2⟩
     exact tail (Value.ref tb) _ w1 F1
theorem leaving_ {lo:Nat}{e:Addr}{ex:Exn}{L:Addr}{Q:UP}(ot:OnTop A env)(a:AOk c N A σ s.heap)(R:Rel c σ s.heap)(hf:env.frame=some L)(F:Fly c σ lo s.heap e ex)
 (h:∀ h',Flew c σ lo s.heap h'→Fly c σ lo h' e ex→Q () { s with heap:=h' }):wpAny M A (leaving env (.ref e)) Q E s:=by
 unfold leaving
 exact wpAny_bind (noteFrame_ ot a R hf F fun h1 x1 F1=>setFlight_ (s:={ s with heap:=h1 }) F1.1 fun h2 x2 F2 _=>h h2 (x1.trans x2) F2)
end
end Mine
namespace Mine
variable [Membership Addr Zip0]
inductive Binds:List (Str×V)→Rho→Rho→Prop
 | nil {ρ}:Binds [] ρ ρ
 | cons {x v l ρ ρ1 ρ2}:Put x (some v) ρ ρ1→Binds l ρ1 ρ2→Binds ((x,v)::l) ρ ρ2
section
variable {c:Cx}{N:Lv}{env:Env}{ρ:Rho}{σ:Sig}{A:Around}{M:Model}{E:VP}{s:Shared}
theorem bind_loop (f:Str×Value→PUnit→Sem (ForInStep PUnit))(hf:∀ n v u,f (n,v) u=(do storeName env n v;pure (.yield ⟨⟩))) :
 ∀ (xs:List Str) (vs:List V) (ys:List Value) (ρ ρ':Rho) (s:Shared) (Q:PUnit→Shared→Prop),VRs s.heap vs ys→Binds (xs.zip vs) ρ ρ'→Rel c σ s.heap→EnvR c σ env ρ s.heap →
  (∀ h' tk,Rel c σ h'→EnvR c σ env ρ' h'→Ext (mine env) s.heap h'→(∀ o,s.heap.get? env.locals=some o→∃ o',h'.get? env.locals=some o'∧o'.cls=o.cls)→Q ⟨⟩ (at_ s h' tk))→wpAny M A (forIn (xs.zip ys) ⟨⟩ f) Q E s
 | [],vs,ys,ρ,ρ',s,Q,r,b,R,Ev,h=>by
  simp only[List.zip_nil_left] at b ⊢
  cases b
  rw[List.forIn_nil]
  exact wpAny_pure (h s.heap (tks s) R Ev (.refl _) fun o e=>⟨o,e,rfl⟩)
 | x::xs,[],ys,ρ,ρ',s,Q,r,b,R,Ev,h=>by
  simp only[ju1,ju2] at r;subst r
  simp only[List.zip_nil_right] at b ⊢
  cases b
  rw[List.forIn_nil]
  exact wpAny_pure (h s.heap (tks s) R Ev (.refl _) fun o e=>⟨o,e,rfl⟩)
 | x::xs,v::vs,ys,ρ,ρ',s,Q,r,b,R,Ev,h=>by
  simp only[ju1,ju2] at r
  refine el61 r ?_;(try clear r);intro y ys ze153 r1 r2;subst ze153
  simp only[List.zip_cons_cons] at b ⊢
  cases b with
  | cons pt b=>
   rw[List.forIn_cons,hf]
   refine wpAny_bind (wpAny_bind (store_ R Ev pt r1 fun h1 tk1 R1 E1 x1 k1=>wpAny_pure ?_))
   refine bind_loop f hf xs vs ys _ _ (at_ s h1 tk1) Q (VRs.ext Ev.mine_noTup x1 r2) b R1 E1 fun h2 tk2 R2 E2 x2 k2=>h h2 tk2 R2 E2 (x1.trans x2 fun a q=>.inl q) fun o e=>?_
   refine el75 (k1 o e) ?_;intro o1 e1 c1
   refine el75 (k2 o1 e1) ?_;intro o2 e2 c2
   exact⟨o2,e2,c2.trans c1⟩
theorem pushCells_size:∀ (names:List (Str×NameKind)) (h:Heap),h.objs.size≤(pushCells h names).objs.size
 | [],h=>Nat.le_refl _
 | (_,k)::r,h=>by
  unfold pushCells
  split
  · exact Nat.le_trans (by rw[Heap.size_push];exact Nat.le_succ _) (pushCells_size r _)
  · exact pushCells_size r h
theorem enter_ {scope:Scope}{xs:List Str}{vs:List V}{ys:List Value}{qual:Str}{func:Option Addr}{code:Value}{ρ0 ρ1:Rho}{Q:Env→Shared→Prop}(R:Rel c σ s.heap)(r:VRs s.heap vs ys)(hk:scope.kind=.function)
 (hkeys:∀ x∈ρ0.map (·.1),scope.names.lookup x=some .local∨scope.names.lookup x=some .cell) (hnd:(ρ0.map (·.1)).Nodup) (hnone:∀ p∈ρ0,p.2=none) (hb:Binds (xs.zip vs) ρ0 ρ1)
 (h:∀ env h' tk,env=newEnv scope s.heap.objs.size mainGlobals (cellsFrom (s.heap.objs.size+1) scope.names []) qual func code none builtinsNs→Rel c σ h'→EnvR c σ env ρ1 h'→Ext (dom σ) s.heap h'→(∃ o es n,h'.get? s.heap.objs.size=some o∧o.cls=.type "frame"∧o.data=.dict es n)→Q env (at_ s h' tk)) :
 wpAny M A (newFunctionEnv scope mainGlobals [] (xs.zip ys) qual func code none builtinsNs) Q E s:=by
 simp only[newFunctionEnv,Option.isSome_none,Bool.false_eq_true,if_false]
 refine wpAny_bind (wpAny_alloc ?_)
 refine wpAny_bind (wpAny_layCells _ (fun name kind cells=>by cases hkc:kind==NameKind.cell <;> simp [hkc]) _ _ _ _ ?_)
 have ok:=cellsFrom_ok scope.names (s.heap.push { cls:=.type "frame",data:=.dict #[] }) (s.heap.objs.size+1) [] ⟨fun _ _ hm=>(nomatch hm),List.Pairwise.nil⟩ (by rw[Heap.size_push];exact Nat.le_refl _)
 rw[Heap.size_push] at ok
 rw[show ({ s with heap:=s.heap.push { cls:=.type "frame",data:=.dict #[] } }:Shared).heap.objs.size=s.heap.objs.size+1 from Heap.size_push ..]
 have keep:∀ b o,s.heap.get? b=some o→(pushCells (s.heap.push { cls:=.type "frame",data:=.dict #[] }) scope.names).get? b=some o:=fun b o e=>pushCells_keeps _ _ b o (Heap.get?_push_of_some _ e)
 have hsz:s.heap.objs.size+1≤(pushCells (s.heap.push { cls:=.type "frame",data:=.dict #[] }) scope.names).objs.size:=by
  have:=pushCells_size scope.names (s.heap.push { cls:=.type "frame",data:=.dict #[] })
  rw[Heap.size_push] at this;exact this
 have hL:(pushCells (s.heap.push { cls:=.type "frame",data:=.dict #[] }) scope.names).get? s.heap.objs.size=some { cls:=.type "frame",data:=.dict #[] }:=pushCells_keeps _ _ _ _ (Heap.get?_push_size _ rfl)
 generalize hH:pushCells (s.heap.push { cls:=.type "frame",data:=.dict #[] }) scope.names=H at *
 have R1:Rel c σ H:=R.grow keep (Nat.le_trans (Nat.le_succ _) hsz)
 have X1:Ext (dom σ) s.heap H:=⟨fun a o _ e=>⟨o,keep a o e,.refl _⟩,Nat.le_trans (Nat.le_succ _) hsz⟩
 have big:∀ a,s.heap.objs.size≤a→σ a=none:=fun a ha=>by
  cases q:σ a with
  | none=>rfl
  | some m=>exact absurd (R.lt (a:=a) (by rw[q];simp)) (Nat.not_lt.mpr ha)
 have E1:EnvR c σ (newEnv scope s.heap.objs.size mainGlobals (cellsFrom (s.heap.objs.size+1) scope.names []) qual func code none builtinsNs) ρ0 H:=by
  refine⟨hk,rfl,rfl,⟨R.fresh,R.size⟩,fun x k e=>?_,ok.apart,⟨fun _=>none,?_,fun x v hm=>?_⟩,hnd,fun x hx=>?_,.inl rfl,⟨_,_,rfl,hL,rfl,_,_,rfl⟩⟩
  · have:=ok.empty x k (mem_of_lookup e)
    exact⟨big k (Nat.le_trans (Nat.le_succ _) this.2),Nat.le_trans R.size (Nat.le_trans (Nat.le_succ _) this.2),none,this.1⟩
  · exact⟨_,#[],0,hL,rfl,fun e he=>by simp at he,fun _=>rfl⟩
  · have:=hnone _ hm
    cases this
  · rcases hkeys x hx with q | q
    · exact .inl q
    · exact .inr ⟨q,Option.isSome_iff_exists.mp (cellsFrom_some scope.names (s.heap.objs.size+1) [] (.inl q))⟩
 refine wpAny_bind (bind_loop (s:={ s with heap:=H }) (env:=newEnv scope s.heap.objs.size mainGlobals (cellsFrom (s.heap.objs.size+1) scope.names []) qual func code none builtinsNs) _ (fun _ _ _=>rfl) xs vs ys ρ0 ρ1 _ (R.vrs X1 r) hb R1 E1 fun h2 tk2 R2 E2 x2 k2=>wpAny_pure ?_)
 refine h _ h2 tk2 rfl R2 E2 (X1.trans (B':=mine _) x2 fun a q=>?_) ?_
 · rcases q with rfl | ⟨x,e⟩
   · exact .inr (Nat.le_refl _)
   · exact .inr (Nat.le_trans (Nat.le_succ _) (ok.empty x a (mem_of_lookup e)).2)
 · refine el75 (k2 _ hL) ?_;intro o' e' c'
   refine el24 E2.vars ?_;intro m o2 es ep q1 q2 _ _
   have q1':h2.get? s.heap.objs.size=some o2:=q1
   have e'':h2.get? s.heap.objs.size=some o':=e'
   obtain rfl:=uq e'' q1'
   exact⟨o',es,ep,e',c',q2⟩
end
end Mine
namespace Mine
variable [Membership Addr Zip0]
section
variable {c:Cx}{σ:Sig}{Q:PV}{X:PX}
noncomputable def outV:GF→V
 | .next=>.none
 | .ret v=>v
theorem AOk.deeper {n:Nat}{hn:Bool}{A:Around}{h:Heap}{env:Env}(a:AOk c ⟨n+1,hn⟩ A σ h)(F:FrameOk c σ h env):AOk c ⟨n,hn⟩ (A.deeper env) σ h:=by
 refine el75 a.frames ?_;intro l e f
 refine⟨?_,?_,a.han,⟨env::l,Around.frames_deeper e,fun y hy=>?_⟩,a.guards⟩
 · have:=a.depth
   show A.depth+1+n < _
   simp only at this;lia
 · have:=a.units
   show A.units+3+16*n < _
   simp only at this;lia
 · rcases List.mem_cons.mp hy with rfl | hy
   · exact F
   · exact f y hy
noncomputable def CodeOp (c:Cx)(N:Lv)(σ:Sig)(f:Value)(args:List V)(Q:PV)(X:PX):Prop:=
 ∀ (A:Around) (s:Shared) (R':RP) (ys:List Value),AOk c N A σ s.heap→Rel c σ s.heap→VRs s.heap args ys→Post c σ s VR Q (fun v s'=>R' (.ok (.ret v)) s')→XPost c σ s X (fun e s'=>R' (.error e) s')→codeAny (model c.prog c.w) A (.call f ⟨ys,[]⟩) R' s
theorem CodeOp.call {N:Lv}{f:Value}{args:List V}(g:CodeOp c N σ f args Q X):CallOp c N σ f args Q X:=fun A s QQ EE ys a R r p xp=>
 wpAny_call (g A s (fun r s'=>match r with | .ok (.ret v)=>QQ v s' | .ok _=>False | .error e=>EE e s') ys a R r p xp)
theorem K_fn {n:Nat}{hn:Bool}{f:Addr}{fd:FuncData}{body:List Stmt}{params:List Str}{oc:Value}{od:Option Addr}{osl:Array (Option Value)}{ρ0 ρ1:Rho}{args:List V}
 (hK:c.K.lookup f=some ⟨oc,od,.func fd,osl⟩) (hb:fd.body=.stmts body) (hcl:fd.closure=[]) (hg:fd.globals=mainGlobals) (hbl:fd.builtins=builtinsNs) (hcd:codeIn c.K fd.code fd.qualname=true)
 (hk:fd.scope.kind=.function) (hco:fd.scope.isCoroutine=false) (hgen:fd.scope.isGenerator=false) (hbind:∀ ys:List Value,ys.length=args.length→bindArgs fd ⟨ys,[]⟩=pure (params.zip ys))
 (hkeys:∀ x∈ρ0.map (·.1),fd.scope.names.lookup x=some .local∨fd.scope.names.lookup x=some .cell) (hnd:(ρ0.map (·.1)).Nodup) (hnone:∀ p∈ρ0,p.2=none) (hbs:Binds (params.zip args) ρ0 ρ1)
 (g:∀ L,SsG c ⟨n,hn⟩ (callEnvC fd L f) ρ1 body σ (fun fl ρ' σ'=>∃ σ'',Sub σ'' σ'∧Q (outV fl) σ'') (fun ex ρ' σ'=>∃ σ'',Sub σ'' σ'∧X ex σ'')):CodeOp c ⟨n+1,hn⟩ σ (.ref f) args Q X:=fun A s R' ys a R r p xp=>by
 refine (codeAny_call_function (o:=⟨oc,od,.func fd,osl⟩) (fd:=fd) (body:=body) (by have:=a.depth;lia) (R.static _ _ (c.KIn _ _ hK)) rfl hco hgen hb (codeRec_of (c.KIn.keeps R.static) hcd) ?_)
 rw[hbind ys r.length,hcl,hg,hbl]
 refine wpAny_pure (enter_ R r hk hkeys hnd hnone hbs fun env h1 tk1 he R1 E1 x1 hF=>⟨c.nol.keeps R1.static,?_⟩)
 have he':env=callEnvC fd s.heap.objs.size f:=by rw[he];unfold callEnvC;rw[hg,hbl]
 have hfr:env.frame=some s.heap.objs.size:=by rw[he];rfl
 have hloc:env.locals=s.heap.objs.size:=by rw[he];rfl
 have F:FrameOk c σ h1 env:=by
  refine el55 hF ?_;(try clear hF);intro o es m q1 q2 q3
  exact⟨_,o,hfr,q1,q2,⟨es,m,q3⟩,R.fresh,R.size,by rw[E1.kind];decide⟩
 have a1:AOk c ⟨n,hn⟩ (A.deeper env) σ h1:=(a.ext x1 (.refl _ _)).deeper F
 have ot:OnTop (A.deeper env) env:=el75 (a.frames) fun l e _=>⟨env,l,Around.frames_deeper e,rfl⟩
 have old:∀ a,both σ env a→dom σ a∨s.heap.objs.size≤a:=fun a q=>by
  rcases q with q | q | ⟨x,q⟩
  · exact .inl q
  · rw[q,hloc];exact .inr (Nat.le_refl _)
  · refine .inr ?_
    have ok:=cellsFrom_ok fd.scope.names (s.heap.push { cls:=.type "frame",data:=.dict #[] }) (s.heap.objs.size+1) [] ⟨fun _ _ hm=>(nomatch hm),List.Pairwise.nil⟩ (by rw[Heap.size_push];exact Nat.le_refl _)
    rw[Heap.size_push] at ok
    rw[he] at q
    exact Nat.le_trans (Nat.le_succ _) (ok.empty x a (mem_of_lookup q)).2
 refine codeAny_func ?_
 have gg:=g s.heap.objs.size
 rw[← he'] at gg
 refine gg (A.deeper env) (at_ s h1 tk1) _ _ ot a1 R1 E1 (fun fl flv ρ' σ' h2 tk2 ⟨σ'',hs,q⟩ rf R2 E2 x2 gr2=>?_) (fun e ex ρ' σ' h2 tk2 ⟨σ'',hs,q⟩ F2 R2 E2 x2 gr2=>?_)
 · have X2:Ext (dom σ) s.heap h2:=x1.trans x2 old
   have G2:Grown σ s.heap σ'':=((Grown.refl σ s.heap).trans gr2 x1.size).sub hs
   cases fl with
   | next=>simp only[FR] at rf;subst rf;exact p .none .none σ'' h2 tk2 q (by simp only[jt1,jt2,jt3,jt4,jt5,jt6]) (R2.forget hs) X2 G2
   | ret v=>simp only[FR] at rf;refine el75 rf ?_;(try clear rf);intro y ze154 rf;subst ze154;exact p v y σ'' h2 tk2 q rf (R2.forget hs) X2 G2
 · have a2:AOk c ⟨n,hn⟩ (A.deeper env) σ' h2:=a1.ext2 E1 x2 gr2 E2
   refine leaving_ (s:=at_ (at_ s h1 tk1) h2 tk2) ot a2 R2 hfr F2 fun h3 x3 F3=>?_
   have X3:Ext (dom σ) s.heap h3:=(x1.trans x2 old).trans x3.ext fun a q=>.inr (Nat.le_trans x1.size q.1)
   have G3:Grown σ s.heap σ'':=((Grown.refl σ s.heap).trans gr2 x1.size).sub hs
   have F4:Fly c σ'' s.heap.objs.size h3 e ex:=by
    have F3':=F3.lo x1.size
    refine el13 F3' ?_;(try clear F3');intro f1 f2 f3 dx vs d e' f4 f5 f6 f7 f8 f9
    have sn:∀ {a},σ' a=none→σ'' a=none:=fun {a} h0=>by
     cases q0:σ'' a with
     | none=>rfl
     | some m=>rw[hs a m q0] at h0;cases h0
    exact⟨f1,f2,sn f3,dx,vs,d,e',f4,f5,sn f6,f7,f8,f9.imp id fun zu=>el36 zu fun tb ot us h1 g1 g2 g3 r=>⟨tb,ot,us,h1,g1,g2,sn g3,r⟩⟩
   exact xp e ex σ'' h3 tk2 q F4 ((x3.rel R2).forget hs) X3 G3
end
end Mine
namespace Mine
variable [Membership Addr Zip0]
section
variable {c:Cx}{N:Lv}{env:Env}{ρ:Rho}{σ:Sig}{Q:PV}{X:PX}{SQ:PF}{SX:PE}
theorem EsR.norefs {h:Heap}:∀ {l:List (Str×V)}{es:List DictEntry},EsR h l es→es.any (·.refKey)=false
 | [],es,r=>by simp only[ja1,ja2] at r;subst r;rfl
 | (k,v)::l,es,r=>by
  simp only[ja1,ja2] at r
  refine el47 r ?_;(try clear r);intro hs t x r' ze155 r1 r2;subst ze155
  rw[List.any_cons,EsR.norefs r2,Bool.or_false];rfl
theorem EsR.find {h:Heap}(name:Str):∀ {l:List (Str×V)}{es:List DictEntry},EsR h l es→match assoc l name with
  | some v=>∃ e,es.find? (·.key.isStr name)=some e∧VR h v e.val
  | none=>es.find? (·.key.isStr name)=none
 | [],es,r=>by simp only[ja1,ja2] at r;subst r;rfl
 | (k,v)::l,es,r=>by
  simp only[ja1,ja2] at r
  refine el47 r ?_;(try clear r);intro hs t x r' ze156 r1 r2;subst ze156
  have ih:=EsR.find name r2
  simp only[jv1,jv2,List.find?_cons] at ih ⊢
  have hk:(Value.str k t).isStr name=decide (k=name):=by
   show (k==name)=_
   rfl
  by_cases e:k=name
  · rw[if_pos e];simp only[hk,decide_eq_true e];exact⟨_,rfl,r1⟩
  · rw[if_neg e];simp only[hk,decide_eq_false e];exact ih
theorem EsR.getL {h:Heap}{name:Str}{l:List (Str×V)}{es:List DictEntry}(r:EsR h l es):match assoc l name with
  | some v=>∃ x,PySem.W.getL name es=some (some x)∧VR h v x
  | none=>PySem.W.getL name es=some none:=by
 have q:=r.find name
 unfold PySem.W.getL
 cases e:assoc l name with
 | some v=>rw[e] at q;refine el75 q ?_;(try clear q);intro y q1 q2;rw[q1];exact⟨_,rfl,q2⟩
 | none=>rw[e] at q;simp only[q,r.norefs];rfl
theorem EsR.put {h:Heap}{name:Str}{v:V}{x:Value}{hsh:Int}{tk:Tok}(rv:VR h v x):∀ {l:List (Str×V)}{es:List DictEntry},EsR h l es→EsR h (putA l name v) (putL name hsh (.str name tk) x es)
 | [],es,r=>by simp only[ja1,ja2] at r;subst r;simp only[jI1,jI2,putL,ja1,ja2];exact⟨_,_,_,_,rfl,rv,rfl⟩
 | (k,u)::l,es,r=>by
  simp only[ja1,ja2] at r
  refine el47 r ?_;(try clear r);intro hs t y r' ze157 r1 r2;subst ze157
  have hk:(Value.str k t).isStr name=decide (k=name):=by
   show (k==name)=_
   rfl
  simp only[jI1,jI2,putL,hk]
  by_cases e:k=name
  · subst e
    simp only[if_pos,decide_true,ja1,ja2]
    exact⟨_,_,_,_,rfl,rv,r2⟩
  · simp only[if_neg e,decide_eq_false e,ja1,ja2]
    exact⟨_,_,_,_,rfl,r1,EsR.put rv r2⟩
theorem EsR.length {h:Heap}:∀ {l:List (Str×V)}{es:List DictEntry},EsR h l es→es.length=l.length
 | [],es,r=>by simp only[ja1,ja2] at r;subst r;rfl
 | (k,v)::l,es,r=>by
  simp only[ja1,ja2] at r
  refine el47 r ?_;(try clear r);intro hs t x r' ze158 r1 r2;subst ze158
  simp [EsR.length r2]
noncomputable def ObjR (σ:Sig)(a C:Addr)(l:List (Str×V)):Prop:=∃ dx,σ a=some (.inst C dx)∧σ dx=some (.ns l)
theorem ObjR.real {a C:Addr}{l:List (Str×V)}{h:Heap}(o:ObjR σ a C l)(R:Rel c σ h):∃ dx es n,dx≠a∧σ dx=some (.ns l)∧EsR h l es∧h.get? dx=some (W.dictOf es n)∧InstAt h a (instObj C dx) C (some (W.dictOf es n)):=by
 refine el75 o ?_;(try clear o);intro dx e1 e2
 refine el68 ((R.obj dx _ e2).2) ?_;intro es n q1 q2
 refine⟨dx,es,n,fun q=>?_,e2,q2,q1,⟨(R.obj a _ e1).2,rfl,rfl,q1⟩⟩
 subst q;exact absurd (uq e1 e2) (fun q=>by cases q)
noncomputable def handedV:V→Bool
 | .raw v=>handedIn v
 | _=>true
theorem handedV_of {h:Heap}{v:V}{x:Value}(r:VR h v x)(e:handedV v=true):handedIn x=true:=by
 cases v with
 | none=>simp only[jt1,jt2,jt3,jt4,jt5,jt6] at r;subst r;rfl
 | bool b=>simp only[jt1,jt2,jt3,jt4,jt5,jt6] at r;subst r;rfl
 | int i=>simp only[jt1,jt2,jt3,jt4,jt5,jt6] at r;obtain ⟨t,rfl⟩:=r;rfl
 | str i=>simp only[jt1,jt2,jt3,jt4,jt5,jt6] at r;refine el74 r ?_;(try clear r);intro _ t ze159;subst ze159;rfl
 | tup l=>simp only[jt1,jt2,jt3,jt4,jt5,jt6] at r;refine el68 r ?_;(try clear r);intro a xs ze160 _;subst ze160;rfl
 | raw v=>simp only[jt1,jt2,jt3,jt4,jt5,jt6] at r;subst r;exact e
noncomputable abbrev GetOp (c:Cx)(N:Lv)(σ:Sig)(a:V)(name:Str)(Q:PV)(X:PX):Prop:=
 ∀ (A:Around) (s:Shared) (QQ:VP) (EE:VP) (x:Value),AOk c N A σ s.heap→Rel c σ s.heap→VR s.heap a x→Post c σ s VR Q QQ→XPost c σ s X EE→wpAny (model c.prog c.w) A (getAttr x name true) QQ EE s
theorem G_attr {o:PySem.Expr}{name:Str}{pos:Pos}(g:EvG c N env ρ o σ (fun v σ1=>GetOp c N σ1 v name Q X) X)
 (he:eval (.Attribute o name pos) env=(do
  let o' ← eval o env
  standAt pos.atName
  let r ← holding [o'] (getAttr o' name true)
  letTemporaryGo o o' r
  pure r):=by with_unfolding_all rfl):EvG c N env ρ (.Attribute o name pos) σ Q X:=fun A s QQ EE a R E p xp=>
 Attribute_any_ (g.run a R E xp fun v x σ1 h1 tk1 g1 r1 a1 R1 E1 x1 gr1=>g1 A _ QQ EE x a1 R1 r1 (p.step x1 gr1) (xp.step x1 gr1)) he
theorem A_own {a C:Addr}{l:List (Str×V)}{name:Str}{v:V}(q:Q v σ)(ho:ObjR σ a C l)(hl:assoc l name=some v)(hv:handedV v=true)(h1:plainGet c.K C name=true)(h2:hasDictIn c.K C=true)(h3:findIn c.K (.ref C) name=some none) :
 GetOp c N σ (.raw (.ref a)) name Q X:=fun A s QQ EE x ak R r p xp=>by
 simp only[jt1,jt2,jt3,jt4,jt5,jt6] at r;subst r
 refine el36 (ho.real R) ?_;intro dx es n e1 e2 e3 e4 I
 have:=e3.getL (name:=name)
 rw[hl] at this
 refine el75 this ?_;(try clear this);intro z hz rz
 exact get_value (c.KIn.keeps R.static) I (plainGet_of h1).1 (findObj_own h2 h3 rfl hz) (handedV_of rz hv) (p.tok R q rz)
theorem M_own {a C:Addr}{l:List (Str×V)}{name:Str}{f:Addr}(ho:ObjR σ a C l)(hl:assoc l name=none)(h1:plainGet c.K C name=true)(h2:findIn c.K (.ref C) name=some (some (.ref f)))(h3:isFn c.K (.ref f)=true) :
 MethOp c N σ (.raw (.ref a)) name (.ref f):=fun A s EE x pl QQ ak R r q=>by
 simp only[jt1,jt2,jt3,jt4,jt5,jt6] at r;subst r
 refine el36 (ho.real R) ?_;intro dx es n e1 e2 e3 e4 I
 have:=e3.getL (name:=name)
 rw[hl] at this
 exact method_fn (c.KIn.keeps R.static) I (plainGet_of h1).1 (plainGet_of h1).2 h2 (beq_iff_eq.mp h3) (by show (lookIn name (W.dictOf es n)).map _=_;rw[lookIn_dict,this];rfl) q
theorem putL_length (name:Str)(hsh:Int)(key v:Value):∀ es:List DictEntry,(putL name hsh key v es).length≤es.length+1
 | []=>Nat.le_refl _
 | e::r=>by
  have:=putL_length name hsh key v r
  simp only[putL]
  split
  · simp
  · simp only[List.length_cons];exact Nat.succ_le_succ (by assumption)
noncomputable abbrev SetOp (c:Cx)(N:Lv)(σ:Sig)(a:V)(name:Str)(b:V)(Q:Sig→Prop)(X:PX):Prop:=
 ∀ (A:Around) (s:Shared) (QQ:UP) (EE:VP) (x y:Value),AOk c N A σ s.heap→Rel c σ s.heap→VR s.heap a x→VR s.heap b y→Post c σ s (fun _ (_:Unit) (_:Unit)=>True) (fun _=>Q) QQ→XPost c σ s X EE→wpAny (model c.prog c.w) A (setAttr x name y) QQ EE s
theorem A_set {a C dx:Addr}{l:List (Str×V)}{name:Str}{v:V}{Q:Sig→Prop}(e1:σ a=some (.inst C dx))(e2:σ dx=some (.ns l))(q:Q (upd σ dx (.ns (putA l name v))))(hz:l.length≤900)
 (hs:findIn c.K (.ref C) "__setattr__"=some (some (.builtin "object.__setattr__"))) (hp:plainOver c.K C=true) (ht:takerIn c.K C name=some none) (hh:hasDictIn c.K C=true):SetOp c N σ (.raw (.ref a)) name v Q X:=fun A s QQ EE x y ak R r1 r2 p xp=>by
 simp only[jt1,jt2,jt3,jt4,jt5,jt6] at r1;subst r1
 have KX:=c.KIn.keeps R.static
 refine el68 ((R.obj dx _ e2).2) ?_;intro es n q1 q2
 have hx:=(R.obj a _ e1).2
 have I:InstAt s.heap a (instObj C dx) C (some (W.dictOf es n)):=⟨hx,rfl,rfl,q1⟩
 refine set_plain KX I hs (osa_open (s:={ s with toks:=s.toks+1 }) KX I hp ht fun b=>?_)
 refine el75 (any_some hh) ?_;intro cd hc hd'
 refine wpAny_bind (wpAny_pure (wpAny_bind (wpAny_bind (wpAny_loadPart hx (wpAny_bind ((looks_clsIn KX hc) _ _ _ _ (fun _ _ e=>e) ?_))))))
 rw[hd']
 refine wpAny_pure (a:=some dx) (wpAny_bind (wpAny_pure (wpAny_bind ?_)))
 unfold nsSet
 refine wpAny_bind (wpAny_bind (wpAny_askSetting (wpAny_pure (wpAny_bind (wpAny_mkText (wpAny_bind (wpAny_loadPart q1 ?_)))))))
 have cc:(!es.toArray.any (·.key.isStr name)&&es.toArray.any (·.refKey))=false:=by
  rw[← Array.any_toList,← Array.any_toList]
  show (!es.any (·.key.isStr name)&&es.any (·.refKey))=false
  rw[q2.norefs,Bool.and_false]
 dsimp only
 rw[aRefKeyMayBeTheName_at,cc]
 refine wpAny_updatePart q1 ?_
 have hfr:(W.dictOf es n).isFreed=false:=rfl
 have hp2:∀ hsh key,(s.heap.update dx (Obj.putName name hsh key y)).get? dx=some (W.dictOf (putL name hsh key y es) (putN name es n)):=fun hsh key=>by
  rw[← putName_dict]
  exact Heap.get?_update_self _ q1 (by rw[putName_dict];rfl)
 refine wpAny_bind (wpAny_lookBehind (hp2 _ _) (pastItsLine_dict ?_) ?_)
 · rw[List.size_toArray,sizeLine_is]
   refine Nat.le_trans (putL_length ..) ?_
   rw[q2.length];exact nll (by assumption) (by rfl)
 · refine wpAny_pure ?_
   have fin:∀ hsh tk (s':Shared),s'=at_ s (s.heap.update dx (Obj.putName name hsh (.str name tk) y)) (tks s')→QQ () s':=fun hsh tk s' e=>by
    rw[e]
    have hsb:Heap.SameBut dx s.heap (s.heap.update dx (Obj.putName name hsh (.str name tk) y)):=.update ..
    have x:Ext (dom σ) s.heap (s.heap.update dx (Obj.putName name hsh (.str name tk) y)):=.same hsb (.inl (by show σ dx≠none;rw[e2];simp))
    exact p () () _ _ _ q trivial (R.change e2 hsb ⟨_,_,hp2 _ _,EsR.mono (fun _ _ t=>IsTup.ext R.noTup x t) _ _ (EsR.put r2 q2)⟩) x (.upd (.inl (by rw[e2];simp)))
   exact fin _ _ _ rfl
end
end Mine
namespace Mine
variable [Membership Addr Zip0]
section
variable {c:Cx}{N:Lv}{env:Env}{ρ:Rho}{σ:Sig}{Q:PV}{X:PX}{SQ:PF}{SX:PE}
theorem S_setattr {o:PySem.Expr}{name:Str}{pos' pos:Pos}{e:PySem.Expr}(g:EvG c N env ρ e σ (fun v σ1=>EvG c N env ρ o σ1 (fun a σ2=>SetOp c N σ2 a name v (fun σ3=>SQ .next ρ σ3) (fun ex σ'=>SX ex ρ σ')) (fun ex σ'=>SX ex ρ σ')) (fun ex σ'=>SX ex ρ σ'))
 (hs:swapsWith e (some (.Attribute o name pos')) pos.line env=pure false:=by rfl):StG c N env ρ (.Assign [.Attribute o name pos'] e pos) σ SQ SX:=fun A s QQ EE ot a R E p xp=>
 plainObj_wpAny_Assign_Attribute (EvG.runS g a R E xp fun v y σ1 h1 tk1 g1 r1 a1 R1 E1 x1 gr1=>EvG.runS g1 a1 R1 E1 (xp.step x1.both gr1) fun u z σ2 h2 tk2 g2 r2 a2 R2 E2 x2 gr2=>
  g2 A _ _ EE z y a2 R2 r2 (R1.vr x2 r1) (fun _ _ σ3 h3 tk3 q _ R3 x3 gr3=>((p.step x1.both gr1).step x2.both gr2) .next .next ρ σ3 h3 tk3 q rfl R3 (E2.ext R2 x3 gr3) x3.both gr3)
   (fun ex e' σ3 h3 tk3 q f R3 x3 gr3=>((xp.step x1.both gr1).step x2.both gr2) ex e' ρ σ3 h3 tk3 q f R3 (E2.ext R2 x3 gr3) x3.both gr3)) hs
theorem AOk.make {n:Nat}{hn:Bool}{A:Around}{h:Heap}{C:Addr}{rest:List Value}(a:AOk c ⟨n+1,hn⟩ A σ h):AOk c ⟨n,hn⟩ (A.under (.builtin "type.__call__" ⟨.ref C::rest,[]⟩)) σ h:=by
 refine⟨?_,?_,a.han,a.frames,a.guards⟩
 · have:=a.depth
   show A.depth+1+n < _
   simp only at this;lia
 · have:=a.units
   show A.units+1+16*n < _
   simp only at this;lia
theorem C_cls {n:Nat}{hn:Bool}{C fI:Addr}{args:List V}(hm:makesIn c.K C=true)(hi:findIn c.K (.ref C) "__init__"=some (some (.ref fI)))(hf:isFn c.K (.ref fI)=true)
 (g:∀ a dx,σ a=none→σ dx=none→a≠dx→CodeOp c ⟨n,hn⟩ (upd (upd σ dx (.ns [])) a (.inst C dx)) (.ref fI) (.raw (.ref a)::args) (fun v σ'=>v=.none∧Q (.raw (.ref a)) σ') X):CodeOp c ⟨n+1,hn⟩ σ (.ref C) args Q X:=fun A s R' ys a R r p xp=>by
 have KX:=c.KIn.keeps R.static
 refine make_core (makes_of (M:=model c.prog c.w) KX hm) (looks_findIn KX hi) (fun self=>bind_fn KX self (beq_iff_eq.mp hf)) (.inl rfl) ?_
 have hsz:(s.heap.push emptyDict).objs.size=s.heap.objs.size+1:=Heap.size_push ..
 have x1:Ext (dom σ) s.heap ((s.heap.push emptyDict).push (instObj C s.heap.objs.size)):=(Ext.push _ _).trans (B':=dom σ) (.push _ _) fun _ q=>.inl q
 have R1:Rel c σ ((s.heap.push emptyDict).push (instObj C s.heap.objs.size)):=(R.push _).push _
 have f1:σ s.heap.objs.size=none:=R.fresh
 have f2:σ (s.heap.objs.size+1)=none:=by have:=(R.push emptyDict).fresh;rwa [hsz] at this
 have hd:((s.heap.push emptyDict).push (instObj C s.heap.objs.size)).get? s.heap.objs.size=some emptyDict:=Heap.get?_push_of_some _ (Heap.get?_push_size _ rfl)
 have ho:((s.heap.push emptyDict).push (instObj C s.heap.objs.size)).get? (s.heap.objs.size+1)=some (instObj C s.heap.objs.size):=by
  have:=Heap.get?_push_size (o:=instObj C s.heap.objs.size) (s.heap.push emptyDict) rfl
  rwa [hsz] at this
 have R2:=R1.add (m:=.ns []) R.size ⟨[],0,hd,rfl⟩
 have R3:=R2.add (m:=.inst C s.heap.objs.size) (Nat.le_trans R.size (Nat.le_succ _)) ho
 have gr:Grown σ s.heap (upd (upd σ s.heap.objs.size (.ns [])) (s.heap.objs.size+1) (.inst C s.heap.objs.size)):=fun b q=>by
  by_cases h1:b=s.heap.objs.size+1
  · exact .inr (h1 ▸ Nat.le_succ _)
  · rw[upd_ne _ _ h1] at q
    by_cases h2:b=s.heap.objs.size
    · exact .inr (h2 ▸ Nat.le_refl _)
    · rw[upd_ne _ _ h2] at q;exact .inl q
 refine g (s.heap.objs.size+1) s.heap.objs.size f2 f1 (Nat.succ_ne_self _) _ (at_ s _ (tks s)) _ (.ref (s.heap.objs.size+1)::ys) (a.ext x1 gr).make R3 (.cons (by simp only[jt1,jt2,jt3,jt4,jt5,jt6]) (R.vrs x1 r)) ?_ ?_
 · intro v y σ' h' tk' ⟨e,q⟩ ry R' x gr'
   subst e
   simp only[jt1,jt2,jt3,jt4,jt5,jt6] at ry
   refine⟨ry,?_⟩
   exact p _ _ σ' h' tk' q (by simp only[jt1,jt2,jt3,jt4,jt5,jt6]) R' (x1.trans x (dom_back gr)) (gr.trans gr' x1.size)
 · exact fun e ex σ' h' tk' q f R' x gr'=>xp e ex σ' h' tk' q (f.lo x1.size) R' (x1.trans x (dom_back gr)) (gr.trans gr' x1.size)
end
end Mine
namespace Mine
variable [Membership Addr Zip0]
theorem runs_size {M:Model}{Γ:Ctx}{p:Pos}{t:Sem Fin}{fs:List Frame}{s s':Shared}{e:End}(h:Runs M Γ p t fs s e s'):s.heap.objs.size≤s'.heap.objs.size:=by
 induction h <;> (try simp only[Shared.setGen,Heap.size_push,Heap.size_update] at *) <;> lia
theorem wakes_size {M:Model}{Γ:Ctx}{p:Pos}{g:Nat}{r:Resume}{s s':Shared}{res:GenResult}(h:Wakes M Γ p g r s res s'):s.heap.objs.size≤s'.heap.objs.size:=by
 unfold Wakes at h
 have run:∀ {Γ':Ctx}{p':Pos}{t:Sem Fin}{fs:List Frame},(∃ e₁ s₁,Runs M Γ' p' t fs (s.setGen g .running) e₁ s₁∧e₁.quiet=true∧res=e₁.result∧s'=s₁.setGen g e₁.genState)→s.heap.objs.size≤s'.heap.objs.size:=fun h=>by
  refine el54 h ?_;(try clear h);intro e₁ s₁ hr _ _ ze161;subst ze161
  have:=runs_size hr
  exact this
 have same:∀ {q:Prop},q∧s'=s→s.heap.objs.size≤s'.heap.objs.size:=fun h=>by rw[h.2];exact Nat.le_refl _
 cases hg:s.gens[g]? with
 | none=>rw[hg] at h;exact h.elim
 | some st=>
  rw[hg] at h
  cases st with
  | fresh c=>
   cases r with
   | send v=>cases v <;> first | exact run h | exact same h
   | throw x=>rw[h.2];exact Nat.le_refl _
  | suspended k₀ a c₀ p₀ fs b=>exact run h
  | running=>exact same h
  | finished=>exact same h
theorem wp_size {α:Type}(M:Model)(Γ:Ctx)(n:Nat)(t:Sem α):∀ (Q:α→Pos→Shared→Prop) (E:Value→Pos→Shared→Prop) (p:Pos) (s:Shared),n≤s.heap.objs.size→Sem.wp M Γ t Q E p s →
 Sem.wp M Γ t (fun a p' s'=>n≤s'.heap.objs.size∧Q a p' s') (fun e p' s'=>n≤s'.heap.objs.size∧E e p' s') p s:=by
 induction t with
 | pure a=>exact fun Q E p s hn h=>⟨hn,h⟩
 | raise e=>exact fun Q E p s hn h=>⟨hn,h⟩
 | unsupported _=>exact fun Q E p s _ h=>h
 | finish _=>exact fun Q E p s _ h=>h
 | rule _ k ih=>exact fun Q E p s hn h=>ih () Q E p s hn h
 | «at» p' k ih=>exact fun Q E p s hn h=>ih () Q E p' s hn h
 | load a _ k ih=>exact fun Q E p s hn zu=>el75 zu fun o ho h=>⟨o,ho,ih o Q E p s hn h⟩
 | update a _ f k ih=>exact fun Q E p s hn h=>⟨h.1,ih () Q E p _ (by show n≤(s.heap.update a f).objs.size;rw[Heap.size_update];exact hn) h.2⟩
 | loadIfAlive a k ih=>exact fun Q E p s hn h=>ih _ Q E p s hn h
 | point _ k ih=>exact fun Q E p s hn h=>ih () Q E p s hn h
 | register _ _=>exact fun Q E p s _ h=>h
 | alloc o k ih=>exact fun Q E p s hn h=>ih _ Q E p _ (by show n≤(s.heap.push o).objs.size;rw[Heap.size_push];exact Nat.le_succ_of_le hn) h
 | fresh k ih=>exact fun Q E p s hn h=>ih _ Q E p _ hn h
 | ask k ih=>exact fun Q E p s hn h=>ih _ Q E p s hn h
 | choose src m k ih=>exact fun Q E p s hn h=>⟨h.1,ih _ Q E p _ hn h.2⟩
 | os q _ k ih=>exact fun Q E p s hn h=>ih _ Q E p _ hn h
 | call c hd _ _ k ih=>exact fun Q E p s hn zu=>el68 zu fun r s' hr h=>⟨r,s',hr,ih r Q E p s' (Nat.le_trans hn (runs_size hr)) h⟩
 | handled own k ih=>exact fun Q E p s hn h=>ih _ Q E p s hn h
 | genState g k ih=>exact fun Q E p s hn zu=>el75 zu fun st hs h=>⟨st,hs,ih _ Q E p s hn h⟩
 | newGen c k ih=>exact fun Q E p s hn h=>ih _ Q E p _ hn h
 | resume g r _ k ih=>exact fun Q E p s hn zu=>el68 zu fun res s' hw h=>⟨res,s',hw,ih res Q E p s' (Nat.le_trans hn (wakes_size hw)) h⟩
 | yield _ _ _ _=>exact fun Q E p s _ h=>h
 | stack k ih=>exact fun Q E p s hn h=>ih _ Q E p s hn h
 | fork _ _=>exact fun Q E p s _ h=>h
 | thread k ih=>exact fun Q E p s hn h=>ih _ Q E p s hn h
 | await _ _ _ _ _=>exact fun Q E p s _ h=>h
theorem sized {α:Type}{M:Model}{A:Around}{s:Shared}{t:Sem α}{Q:α→Shared→Prop}{E:VP}
 (h:wpAny M A t (fun a s'=>s.heap.objs.size≤s'.heap.objs.size→Q a s') (fun e s'=>s.heap.objs.size≤s'.heap.objs.size→E e s') s):wpAny M A t Q E s:=fun Γ p hΓ=>
 Sem.wp_mono M Γ _ (fun _ _ _ q=>q.2 q.1) (fun _ _ _ q=>q.2 q.1) p s (wp_size M Γ _ t _ _ p s (Nat.le_refl _) (h Γ p hΓ))
section
variable {c:Cx}{N:Lv}{env:Env}{ρ ρ':Rho}{σ:Sig}{Q:PV}{X:PX}{M:Model}{A:Around}{s:Shared}
noncomputable def StoreOk (c:Cx)(σ:Sig)(env:Env)(B:Addr→Prop)(x:Str):Prop:=∀ (ρ ρ':Rho) (v:V) (y:Value) (s:Shared) (M:Model) (A:Around) (Q:UP) (E:VP),Rel c σ s.heap→EnvR c σ env ρ s.heap→Put x (some v) ρ ρ'→VR s.heap v y →
 (∀ h' tk,Rel c σ h'→EnvR c σ env ρ' h'→Ext B s.heap h'→Q () (at_ s h' tk))→wpAny M A (storeName env x y) Q E s
theorem store_ok {x:Str}:StoreOk c σ env (mine env) x:=fun ρ ρ' v y s M A Q E R Ev p r h=>store_ R Ev p r fun h' tk R' E' x' _=>h h' tk R' E' x'
theorem storeL_ok {x:Str}(hl:env.kindOf x=some .local):StoreOk c σ env (fun a=>a=env.locals) x:=fun ρ ρ' v y s M A Q E R Ev p r h=>by
 refine el75 Ev.vars ?_;intro m hn hv
 have hp:(env.scope.kind==.class||(env.scope.kind==.module&&env.locals != env.globals))=false:=by rw[Ev.kind];rfl
 have nt:=Ev.mine_noTup
 rw[storeName_local hl hp]
 refine nsSet_ hn fun h' hn' hs hc=>?_
 have X:Ext (fun a=>a=env.locals) s.heap h':=.same hs (.inl rfl)
 have X':Ext (mine env) s.heap h':=X.mono fun _ q=>.inl q
 have R':Rel c σ h':=R.same hs Ev.loc.1 Ev.loc.2 fun xs t=>nt _ _ (.inl rfl) t
 refine h h' (s.toks+1,s.drawn) R' ⟨Ev.kind,Ev.glob,Ev.blt,Ev.loc,fun z k' e=>?_,Ev.apart,⟨_,hn',fun z u hm=>?_⟩,by rw[p.keys];exact Ev.nodup,fun z hz=>Ev.kinds z (by rw[← p.keys];exact hz),Ev.own.imp id fun zu=>el75 zu fun o e1 e2=>(hc o e1).imp fun o' q=>⟨q.1,by rw[q.2];exact e2⟩,?_⟩ X
 · refine el73 (Ev.cells z k' e) ?_;intro a1 a2 u a3
   refine⟨a1,a2,u,a3.sameBut hs fun q=>?_⟩
   subst q
   refine el75 a3 ?_;(try clear a3);intro o h1 h2
   refine el55 hn ?_;(try clear hn);intro o' es ep h3 h4 _
   obtain rfl:=uq h1 h3;rw[h2] at h4;cases h4
 · rcases p.cases Ev.nodup hm with ⟨rfl,e⟩ | ⟨hne,hm'⟩
   · cases e
     exact .inl ⟨hl,y,by simp,VR.ext nt X' r⟩
   · rcases hv z u hm' with ⟨k1,y1,e1,e2⟩ | ⟨k1,k',y1,e1,e2,e3⟩
     · exact .inl ⟨k1,y1,by simp [hne,e1],VR.ext nt X' e2⟩
     · refine .inr ⟨k1,k',y1,e1,e2.sameBut hs fun q=>?_,VR.ext nt X' e3⟩
       subst q
       refine el75 e2 ?_;(try clear e2);intro o h1 h2
       refine el55 hn ?_;(try clear hn);intro o' es ep h3 h4 _
       obtain rfl:=uq h1 h3;rw[h2] at h4;cases h4
 · refine el61 Ev.hand ?_;intro f o e1 e2 e3
   by_cases hf:f=env.locals
   · subst hf
     refine el75 (hc o e2) ?_;intro o' e4 e5
     refine el55 hn' ?_;(try clear hn');intro o'' es ep e6 e7 _
     obtain rfl:=uq e4 e6
     exact⟨_,o',e1,e4,e5.trans e3.1,es,ep,e7⟩
   · exact⟨f,o,e1,(hs.2 f hf).trans e2,e3⟩
noncomputable def names1:PySem.Expr→List Str
 | .Name x _=>[x]
 | _=>[]
noncomputable def namesL:List PySem.Expr→List Str
 | []=>[]
 | e::es=>names1 e++namesL es
noncomputable def names:PySem.Expr→List Str
 | .Tuple es _ _=>namesL es
 | e=>names1 e
theorem names1_n {x:Str}{p:Pos}:names1 (.Name x p)=[x]:=rfl
theorem names_n {x:Str}{p:Pos}:names (.Name x p)=[x]:=rfl
theorem namesL_c {x:Str}{p:Pos}{es:List PySem.Expr}:namesL (.Name x p::es)=x::namesL es:=rfl
inductive TakesL:List PySem.Expr→List V→Rho→Rho→Prop
 | nil {ρ:Rho}:TakesL [] [] ρ ρ
 | cons {x:Str}{p:Pos}{v:V}{es:List PySem.Expr}{l:List V}{ρ ρ1 ρ2:Rho}:Put x (some v) ρ ρ1→TakesL es l ρ1 ρ2→TakesL (.Name x p::es) (v::l) ρ ρ2
inductive Takes:PySem.Expr→V→Rho→Rho→Prop
 | name {x:Str}{p:Pos}{v:V}{ρ ρ':Rho}:Put x (some v) ρ ρ'→Takes (.Name x p) v ρ ρ'
 | tup {es:List PySem.Expr}{k:Nat}{p:Pos}{l:List V}{ρ ρ':Rho}:TakesL es l ρ ρ'→Takes (.Tuple es k p) (.tup l) ρ ρ'
theorem TakesL.length {es:List PySem.Expr}{l:List V}(t:TakesL es l ρ ρ'):(assignEach es env).length=l.length∧(assignEach es env).findIdx? (·.1)=none:=by
 induction t with
 | nil=>exact⟨rfl,rfl⟩
 | @cons x p v es l ρ ρ1 ρ2 pt t ih=>
  have e:assignEach (.Name x p::es) env=(false,assign (.Name x p) env)::assignEach es env:=rfl
  rw[e,List.findIdx?_cons]
  refine⟨by simp [ih.1],?_⟩
  simp only[Bool.false_eq_true,if_false,ih.2,Option.map_none]
theorem takesL_ {B:Addr→Prop}(hm:∀ a,B a→mine env a){es:List PySem.Expr}{l:List V}{ρ ρ':Rho}(t:TakesL es l ρ ρ'):∀ {ys:List Value}{s:Shared}{Q:UP}{E:VP},(∀ x∈namesL es,StoreOk c σ env B x)→Rel c σ s.heap→EnvR c σ env ρ s.heap→VRs s.heap l ys →
 (∀ h' tk,Rel c σ h'→EnvR c σ env ρ' h'→Ext B s.heap h'→Q () (at_ s h' tk))→wpAny M A (assignInOrder ((assignEach es env).map (·.2)) ys) Q E s:=by
 induction t with
 | nil=>
  intro ys s Q E _ R Ev r h
  exact PyProof.Rows.assignInOrder_nil (h s.heap (tks s) R Ev (.refl _))
 | @cons x p v es l ρ ρ1 ρ2 pt t ih=>
  intro ys s Q E hB R Ev r h
  simp only[ju1,ju2] at r
  refine el61 r ?_;(try clear r);intro y ys ze162 r1 r2;subst ze162
  have e:assignEach (.Name x p::es) env=(false,assign (.Name x p) env)::assignEach es env:=rfl
  rw[e,List.map_cons]
  refine PyProof.Rows.assignInOrder_cons (wpAny_assign_Name (hB x (by rw[namesL_c];exact .head _) ρ ρ1 v y s M A _ E R Ev pt r1 fun h1 tk1 R1 E1 x1=>?_))
  exact ih (s:=at_ s h1 tk1) (fun z hz=>hB z (by rw[namesL_c];exact .tail _ hz)) R1 E1 (VRs.ext (fun a xs q t=>Ev.mine_noTup a xs (hm a q) t) x1 r2) fun h2 tk2 R2 E2 x2=>h h2 tk2 R2 E2 (x1.trans x2 fun a q=>.inl q)
theorem extBut_ext {h h':Heap}{B:Addr→Prop}(x:Heap.ExtBut h.objs.size h h')(hs:h.objs.size≤h'.objs.size):Ext B h h':=
 ⟨fun a o _ e=>⟨o,x a o (Nat.ne_of_lt (Heap.lt_size e)) e,.refl o⟩,hs⟩
theorem takes_ {prog:Program}{w:World}{B:Addr→Prop}(hm:∀ a,B a→mine env a){target:PySem.Expr}{v:V}{y:Value}{Q:UP}{E:VP}(hh:A.handled=none)(t:Takes target v ρ ρ')(hB:∀ x∈names target,StoreOk c σ env B x)(R:Rel c σ s.heap)(Ev:EnvR c σ env ρ s.heap)(r:VR s.heap v y)
 (h:∀ h' tk,Rel c σ h'→EnvR c σ env ρ' h'→Ext B s.heap h'→Q () (at_ s h' tk)):wpAny (model prog w) A (assign target env y) Q E s:=by
 cases t with
 | name pt=>exact wpAny_assign_Name (hB _ (by rw[names_n];exact .head _) ρ ρ' v y s _ A _ E R Ev pt r h)
 | @tup es k p l _ _ t=>
  simp only[jt1,jt2,jt3,jt4,jt5,jt6] at r
  refine el61 r ?_;(try clear r);intro a xs ze163 ht r;subst ze163
  have hl:(assignEach es env).length=xs.size:=by rw[t.length.1,← Array.length_toList,r.length]
  rw[PyProof.Rows.assign_Tuple]
  refine wpAny_bind (wpAny_standAt ?_)
  unfold unpack
  rw[hl,t.length.2]
  refine wpAny_bind (wpAny_holding (sized (unpackItems_tuple hh ht.lib fun h1 x1 hs=>?_)))
  have X:∀ B,Ext B s.heap h1:=fun B=>extBut_ext x1 hs
  have hk:∀ b o,s.heap.get? b=some o→h1.get? b=some o:=fun b o e=>x1 b o (Nat.ne_of_lt (Heap.lt_size e)) e
  exact takesL_ (s:=at_ s h1 (tks s)) hm t hB (R.grow hk hs) (Ev.ext R (X _) (.refl _ _)) (R.vrs (X _) r) fun h2 tk2 R2 E2 x2=>h h2 tk2 R2 E2 ((X B).trans x2 fun a q=>.inl q)
end
end Mine
namespace Mine
variable [Membership Addr Zip0]
structure It (c:Cx) (lo:Nat) (I:Addr) (W:Addr→Prop) (Need:Sig→Prop) (tg:PySem.Expr→Prop) (St:List V→Heap→Prop):Prop where
 ge:∀ a,W a→lo≤a∧c.S.objs.size≤a
 rec_:∀ l h,St l h→∀ a,W a→RecAt h a
 frame:∀ l h h' B,St l h→Ext B h h'→NoTup B h→(∀ a,W a→¬ B a)→St l h'
 self:∀ l A s Q E,St l s.heap→Q (.ref I) s→wpAny (model c.prog c.w) A (pyIter (.ref I)) Q E s
 step:∀ A σ v l target s (QQ:VP) E0 E1,A.handled=none→tg target→Rel c σ s.heap→Need σ→(∀ a,W a→σ a=none)→St (v::l) s.heap →
  (∀ x h' tk,VR h' v x→St l h'→Flew c σ lo s.heap h'→QQ x (at_ s h' tk)) →
  wpAny (model c.prog c.w) A (pyNext (.ref I)) (fun r s1=>∃ x,r=some x∧wpAny (model c.prog c.w) A (letOwnedTupleGo target (.ref I) x) (fun _ s2=>QQ x s2) E1 s1) E0 s
 done:∀ A σ s (QQ:Shared→Prop) E0,A.handled=none→Rel c σ s.heap→Need σ→(∀ a,W a→σ a=none)→St [] s.heap →
  (∀ h' tk,Flew c σ lo s.heap h'→QQ (at_ s h' tk))→wpAny (model c.prog c.w) A (pyNext (.ref I)) (fun r s1=>r=none∧QQ s1) E0 s
section
variable {c:Cx}{σ:Sig}
theorem It.low {lo lo':Nat}{I:Addr}{W:Addr→Prop}{Need:Sig→Prop}{tg:PySem.Expr→Prop}{St:List V→Heap→Prop}(i:It c lo I W Need tg St)(hl:lo'≤lo):It c lo' I W Need tg St:=
 ⟨fun a w=>⟨Nat.le_trans hl (i.ge a w).1,(i.ge a w).2⟩,i.rec_,i.frame,i.self,fun A σ v l target s QQ E0 E1 hh h1 h2 h3 h4 h5 h6=>i.step A σ v l target s QQ E0 E1 hh h1 h2 h3 h4 h5 fun x h' tk a b f=>h6 x h' tk a b (f.mono hl),
  fun A σ s QQ E0 h0 h1 h2 h3 h4 h5=>i.done A σ s QQ E0 h0 h1 h2 h3 h4 fun h' tk f=>h5 h' tk (f.mono hl)⟩
theorem flew_of {lo:Nat}{h h':Heap}{W:Addr→Prop}(hk:∀ b o,¬ W b→h.get? b=some o→h'.get? b=some o)(hs:h.objs.size≤h'.objs.size)(ge:∀ a,W a→lo≤a∧c.S.objs.size≤a)(hn:∀ a,W a→σ a=none)
 (hr:∀ a,W a→RecAt h a):Flew c σ lo h h':=
 ⟨⟨fun a o hb e=>⟨o,hk a o (fun w=>hb ⟨(ge a w).1,(ge a w).2,hn a w,.inr (hr a w)⟩) e,.refl o⟩,hs⟩,fun a o hst e=>hk a o (fun w=>absurd (Heap.lt_size hst) (Nat.not_lt.mpr (ge a w).2)) e⟩
theorem letGo_plain {M:Model}{A:Around}{E:VP}{s:Shared}{target:PySem.Expr}{I:Addr}{v:Value}{T:String}{o:Obj}{Q:UP}(ho:s.heap.get? I=some o)(hc:o.cls=.type T)
 (hT:["enumerate","zip","dict_itemiterator","dict_reverseitemiterator","odict_iterator","itertools.zip_longest","itertools.pairwise"].contains T=false) (h:Q () s):wpAny M A (letOwnedTupleGo target (.ref I) v) Q E s:=by
 unfold letOwnedTupleGo
 have key:∀ r a,wpAny M A (do
  let o ← load r
  match o.cls,o.data with
  | .type n,.fields vs=>if ["enumerate","zip","dict_itemiterator","dict_reverseitemiterator","odict_iterator","itertools.zip_longest","itertools.pairwise"].contains n&&vs[0]?==some (rawInt a) then (do rule "for.unpacks-the-owned-tuple";updateField r 0 .none) else pure ()
  | _,_=>pure ()) Q E s∨r≠I:=fun r a=>by
  by_cases e:r=I
  · subst e
    refine .inl (wpAny_bind (wpAny_load ho ?_))
    rw[hc]
    cases hd:o.data <;> first | (dsimp only;rw[hT,Bool.false_and];exact wpAny_pure h) | exact wpAny_pure h
  · exact .inr e
 cases target <;> first
  | exact wpAny_pure h
  | (cases v <;> first | exact wpAny_pure h | exact (key I _).resolve_right fun q=>q rfl)
noncomputable def StT (I t:Addr)(l:List V)(h:Heap):Prop:=∃ i xs,h.IsTupleIter I t i∧IsTup h t xs∧VRs h l (xs.toList.drop i)
theorem drop_get {α:Type}{xs:List α}{i:Nat}{x:α}{r:List α}(e:xs.drop i=x::r):xs[i]?=some x∧xs.drop (i+1)=r:=by
 have h1:(xs.drop i)[0]?=some x:=by rw[e];rfl
 rw[List.getElem?_drop] at h1
 refine⟨h1,?_⟩
 have:xs.drop (i+1)=(xs.drop i).drop 1:=by rw[List.drop_drop]
 rw[this,e];rfl
theorem isTuple_of {h:Heap}{t:Addr}{xs:Array Value}(x:IsTup h t xs):h.IsTuple t xs:=x.lib
theorem It.tuple {lo:Nat}{I t:Addr}(h1:lo≤I)(h2:c.S.objs.size≤I):It c lo I (fun a=>a=I) (fun _=>True) (fun _=>True) (StT I t) where
 ge:=fun a e=>by subst e;exact⟨h1,h2⟩
 rec_:=fun l h ⟨i,xs,⟨o,ho,_,hd⟩,_⟩ a e=>by subst e;exact .fields ho hd
 frame:=fun l h h' B zu12 x n hb=>by
  refine el25 zu12 ?_;(try clear zu12);intro i xs o ho hc hd ht r
  refine el75 (x.keep I o (hb I rfl) ho) ?_;intro o' e' lk
  have:o'=o:=lk.eq (by rw[hc];decide)
  subst this
  exact⟨i,xs,⟨o',e',hc,hd⟩,IsTup.ext n x ht,VRs.ext n x r⟩
 self:=fun l A s Q E zu13 q=>by
  refine el68 zu13 ?_;(try clear zu13);intro i xs hit _
  refine wpAny_pyIter_slot hit.typeIs F.slot_tuple_iterator_iter (wpAny_call_entry F.slot_tuple_iterator_iter hit.typeIs F.entry_tuple_iterator_iter ?_ (F.args_tuple_iterator_iter_1 _))
  show wpAny _ _ (ret (.ref I)) _ _ s
  exact wpAny_pure ⟨_,rfl,"tuple_iterator",_,hit.typeIs,F.slot_tuple_iterator_next.lookup,q⟩
 step:=fun A σ v l target s QQ E0 E1 _ _ R _ hn zu14 h=>by
  refine el61 zu14 ?_;(try clear zu14);intro i xs hit ht r
  simp only[ju1,ju2] at r
  refine el61 r ?_;(try clear r);intro x r' e r1 r2
  obtain ⟨e1,e2⟩:=drop_get e
  have hne:t≠I:=fun q=>by
   subst q
   refine el70 ht ?_;(try clear ht);intro o ho hc _;refine el70 hit ?_;(try clear hit);intro o' ho' hc' _
   obtain rfl:=uq ho ho';rw[hc] at hc';exact absurd hc' (by decide)
  refine wpAny_pyNext_tuple_item hit (isTuple_of ht) (x:=x) (by rw[← Array.getElem?_toList];exact e1) fun h' hit' hs=>⟨x,rfl,?_⟩
  have X:Ext (fun a=>a=I) s.heap h':=.same hs (.inl rfl)
  have n:NoTup (fun a=>a=I) s.heap:=fun a xs q zu15=>by
   refine el70 zu15 ?_;(try clear zu15);intro o ho hc _
   subst q
   refine el70 hit ?_;(try clear hit);intro o' ho' hc' _
   obtain rfl:=uq ho ho';rw[hc] at hc';exact absurd hc' (by decide)
  have hit0:=hit'
  refine el70 hit' ?_;(try clear hit');intro o' ho' hc' _
  refine letGo_plain (s:={ s with heap:=h' }) ho' hc' (by decide) ?_
  refine h x h' (tks s) (VR.ext n X r1) ⟨i+1,xs,hit0,IsTup.ext n X ht,by rw[e2];exact VRs.ext n X r2⟩ ?_
  refine flew_of (W:=fun a=>a=I) (fun b o hb e=>(hs.2 b hb).trans e) (Nat.le_of_eq hs.1.symm) (fun a e=>by subst e;exact⟨h1,h2⟩) hn fun a e=>?_
  subst e
  refine el70 hit ?_;(try clear hit);intro o ho _ hd
  exact .fields ho hd
 done:=fun A σ s QQ E0 hh R _ hn zu16 h=>by
  refine el61 zu16 ?_;(try clear zu16);intro i xs hit ht r
  simp only[ju1,ju2] at r
  refine sized (wpAny_pyNext_tuple_end hh hit (isTuple_of ht) ?_ fun h' x hs=>⟨rfl,h h' (tks s) ?_⟩)
  · rw[← Array.getElem?_toList]
    exact List.getElem?_eq_none (List.drop_eq_nil_iff.mp r)
  · refine flew_of (W:=fun a=>a=I) (fun b o hb e=>x b o hb e) hs (fun a e=>by subst e;exact⟨h1,h2⟩) hn fun a e=>?_
    subst e
    refine el70 hit ?_;(try clear hit);intro o ho _ hd
    exact .fields ho hd
noncomputable def StL (I a:Addr)(l0:List V)(l:List V)(h:Heap):Prop:=∃ i,h.IsListIter I a i∧l=l0.drop i
theorem It.list {lo:Nat}{I a:Addr}{l0:List V}(h1:lo≤I)(h2:c.S.objs.size≤I):It c lo I (fun a=>a=I) (fun σ=>LR c σ a l0) (fun _=>True) (StL I a l0) where
 ge:=fun a e=>by subst e;exact⟨h1,h2⟩
 rec_:=fun l h ⟨i,⟨o,ho,_,hd⟩,_⟩ a e=>by subst e;exact .fields ho hd
 frame:=fun l h h' B zu17 x n hb=>by
  refine el38 zu17 ?_;(try clear zu17);intro i o ho hc hd e
  refine el75 (x.keep I o (hb I rfl) ho) ?_;intro o' e' lk
  have:o'=o:=lk.eq (by rw[hc];decide)
  subst this
  exact⟨i,⟨o',e',hc,hd⟩,e⟩
 self:=fun l A s Q E zu q=>el75 zu fun i hit _=>wpAny_pyIter_listiter hit q
 step:=fun A σ v l target s QQ E0 E1 _ _ R hl hn zu18 h=>by
  refine el75 zu18 ?_;(try clear zu18);intro i hit e
  refine el75 (hl.real R) ?_;intro xs ha r
  obtain ⟨e1,e2⟩:=drop_get e.symm
  refine el75 (r.get e1) ?_;intro x hx r1
  have hne:a≠I:=fun q=>by
   subst q
   refine el70 ha ?_;(try clear ha);intro o ho hc _;refine el70 hit ?_;(try clear hit);intro o' ho' hc' _
   obtain rfl:=uq ho ho';rw[hc] at hc';exact absurd hc' (by decide)
  refine wpAny_pyNext_list_item hit ha (x:=x) (by rw[← Array.getElem?_toList];exact hx) fun h' hit' hs=>⟨x,rfl,?_⟩
  have X:Ext (fun a=>a=I) s.heap h':=.same hs (.inl rfl)
  have n:NoTup (fun a=>a=I) s.heap:=fun a xs q zu19=>by
   refine el70 zu19 ?_;(try clear zu19);intro o ho hc _
   subst q
   refine el70 hit ?_;(try clear hit);intro o' ho' hc' _
   obtain rfl:=uq ho ho';rw[hc] at hc';exact absurd hc' (by decide)
  have hit0:=hit'
  refine el70 hit' ?_;(try clear hit');intro o' ho' hc' _
  refine letGo_plain (s:={ s with heap:=h' }) ho' hc' (by decide) ?_
  refine h x h' (tks s) (VR.ext n X r1) ⟨i+1,hit0,e2.symm⟩ ?_
  refine flew_of (W:=fun a=>a=I) (fun b o hb e=>(hs.2 b hb).trans e) (Nat.le_of_eq hs.1.symm) (fun a e=>by subst e;exact⟨h1,h2⟩) hn fun a e=>?_
  subst e
  refine el70 hit ?_;(try clear hit);intro o ho _ hd
  exact .fields ho hd
 done:=fun A σ s QQ E0 hh R hl hn zu20 h=>by
  refine el75 zu20 ?_;(try clear zu20);intro i hit e
  refine el75 (hl.real R) ?_;intro xs ha r
  refine sized (wpAny_pyNext_list_end hh hit ha ?_ fun h' x hs=>⟨rfl,h h' (tks s) ?_⟩)
  · rw[← Array.getElem?_toList]
    refine List.getElem?_eq_none ?_
    have:=List.drop_eq_nil_iff.mp e.symm
    rw[r.length];exact this
  · refine flew_of (W:=fun a=>a=I) (fun b o hb e=>x b o hb e) hs (fun a e=>by subst e;exact⟨h1,h2⟩) hn fun a e=>?_
    subst e
    refine el70 hit ?_;(try clear hit);intro o ho _ hd
    exact .fields ho hd
noncomputable def upFrom (x:Int):Nat→List V
 | 0=>[]
 | n+1=>.int x::upFrom (x+1) n
theorem jW1 (x:Int):upFrom x 0=([]):=rfl
theorem jW2 (x:Int):upFrom x (n+1)=(.int x::upFrom (x+1) n):=rfl
noncomputable def StR (I:Addr)(l:List V)(h:Heap):Prop:=∃ (x:Int) (n:Nat),IsRangeIter h I x n 1∧l=upFrom x n
theorem It.range {lo:Nat}{I:Addr}(h1:lo≤I)(h2:c.S.objs.size≤I):It c lo I (fun a=>a=I) (fun _=>True) (fun e=>∃ x p,e=.Name x p) (StR I) where
 ge:=fun a e=>by subst e;exact⟨h1,h2⟩
 rec_:=fun l h ⟨x,n,ho,_⟩ a e=>by subst e;exact .fields ho rfl
 frame:=fun l h h' B zu21 xx nt hb=>by
  refine el68 zu21 ?_;(try clear zu21);intro x n ho e
  refine el75 (xx.keep I _ (hb I rfl) ho) ?_;intro o' e' lk
  have:=lk.eq (show Value.type "range_iterator"≠_ by decide)
  subst this
  exact⟨x,n,e',e⟩
 self:=fun l A s Q E zu22 q=>by
  refine el68 zu22 ?_;(try clear zu22);intro x n ho _
  have hT:s.TypeIs (.ref I) "range_iterator":=⟨_,ho,rfl⟩
  refine wpAny_pyIter_slot hT F.slot_range_iterator_iter (wpAny_call_entry F.slot_range_iterator_iter hT F.entry_range_iterator_iter ?_ (F.args_range_iterator_iter_1 _))
  show wpAny _ _ (ret (.ref I)) _ _ s
  exact wpAny_pure ⟨_,rfl,"range_iterator",_,hT,F.slot_range_iterator_next.lookup,q⟩
 step:=fun A σ v l target s QQ E0 E1 _ zu23 R _ hn zu24 h=>by
  refine el76 zu23 ?_;(try clear zu23);intro y p et
  refine el68 zu24 ?_;(try clear zu24);intro x n ho e
  subst et
  cases n with
  | zero=>cases e
  | succ n=>
   simp only[jW1,jW2] at e
   obtain ⟨rfl,rfl⟩:=List.cons.inj e
   refine wpAny_pyNext_range_item ho (by lia) fun h' hit' hs=>⟨_,rfl,?_⟩
   refine wpAny_pure (a:=()) ?_
   refine h (.int x s.toks) h' (s.toks+1,s.drawn) (by simp only[jt1,jt2,jt3,jt4,jt5,jt6];exact⟨_,rfl⟩) ⟨x+1,n,by rw[show ((n+1:Nat):Int)-1=n by lia] at hit';exact hit',rfl⟩ ?_
   refine flew_of (W:=fun a=>a=I) (fun b o hb e=>(hs.2 b hb).trans e) (Nat.le_of_eq hs.1.symm) (fun a e=>by subst e;exact⟨h1,h2⟩) hn fun a e=>?_
   subst e
   exact .fields ho rfl
 done:=fun A σ s QQ E0 hh R hl hn zu25 h=>by
  refine el68 zu25 ?_;(try clear zu25);intro x n ho e
  cases n with
  | succ n=>cases e
  | zero=>
   refine sized (wpAny_pyNext_range_end hh ho (by simp) fun h' x hs=>⟨rfl,h h' (tks s) ?_⟩)
   refine flew_of (W:=fun a=>a=I) (fun b o hb e=>x b o hb e) hs (fun a e=>by subst e;exact⟨h1,h2⟩) hn fun a e=>?_
   subst e
   exact .fields ho rfl
end
end Mine
namespace Mine
variable [Membership Addr Zip0]
section
variable {c:Cx}{N:Lv}{env:Env}{ρ:Rho}{σ:Sig}{Q:PV}{X:PX}{SQ:PF}{SX:PE}
noncomputable abbrev IK:=List V→(Sig→Prop)→(PySem.Expr→Prop)→Sig→Prop
noncomputable def IterG (c:Cx)(N:Lv)(env:Env)(ρ:Rho)(e:PySem.Expr)(σ:Sig)(K:IK)(X:PX):Prop:=
 ∀ (A:Around) (s:Shared) (QQ:VP) (EE:VP),AOk c N A σ s.heap→Rel c σ s.heap→EnvR c σ env ρ s.heap→XPost c σ s X EE →
  (∀ l Need tg I W St σ' h' tk,K l Need tg σ'→It c s.heap.objs.size I W Need tg St→St l h'→Rel c σ' h'→Ext (dom σ) s.heap h'→Grown σ s.heap σ'→(∀ a,W a→σ' a=none)→QQ (.ref I) (at_ s h' tk)) →
  wpAny (model c.prog c.w) A (eval e env) (fun x s1=>wpAny (model c.prog c.w) A (pyIter x) QQ EE s1) EE s
noncomputable def IterOp (c:Cx)(N:Lv)(σ:Sig)(v:V)(K:IK):Prop:=
 ∀ (A:Around) (s:Shared) (QQ:VP) (EE:VP) (x:Value),AOk c N A σ s.heap→Rel c σ s.heap→VR s.heap v x →
  (∀ l Need tg I W St h' tk,K l Need tg σ→It c s.heap.objs.size I W Need tg St→St l h'→Rel c σ h'→Ext (dom σ) s.heap h'→(∀ a,W a→σ a=none)→QQ (.ref I) (at_ s h' tk))→wpAny (model c.prog c.w) A (pyIter x) QQ EE s
theorem IG_plain {e:PySem.Expr}{K:IK}(g:EvG c N env ρ e σ (fun v σ1=>IterOp c N σ1 v K) X):IterG c N env ρ e σ K X:=fun A s QQ EE a R E xp h=>
 g.run a R E xp fun v x σ1 h1 tk1 g1 r1 a1 R1 E1 x1 gr1=>g1 A _ QQ EE x a1 R1 r1 fun l Need tg I W St h2 tk2 k i st R2 x2 wn=>
  h l Need tg I W St σ1 h2 tk2 k (i.low x1.size) st R2 (x1.trans x2 (dom_back gr1)) gr1 wn
theorem IO_tup {l:List V}{K:IK}(q:K l (fun _=>True) (fun _=>True) σ):IterOp c N σ (.tup l) K:=fun A s QQ EE x a R r h=>by
 simp only[jt1,jt2,jt3,jt4,jt5,jt6] at r
 refine el61 r ?_;(try clear r);intro t xs ze164 ht r;subst ze164
 refine wpAny_pyIter_tuple (isTuple_of ht) (h l _ _ _ _ (StT s.heap.objs.size t) _ (tks s) q (.tuple (Nat.le_refl _) R.size) ⟨0,xs,⟨_,Heap.get?_push_size _ rfl,rfl,rfl⟩,ht.push _,?_⟩ (R.push _) (.push _ _) fun a e=>by subst e;exact R.fresh)
 rw[List.drop_zero]
 exact R.vrs (.push _ _) r
theorem IO_list {l:List V}{d:Addr}{K:IK}(hl:LR c σ d l)(q:K l (fun σ'=>LR c σ' d l) (fun _=>True) σ):IterOp c N σ (.raw (.ref d)) K:=fun A s QQ EE x a R r h=>by
 simp only[jt1,jt2,jt3,jt4,jt5,jt6] at r;subst r
 refine el75 (hl.real R) ?_;intro xs hx _
 exact wpAny_pyIter_list hx (h l _ _ _ _ (StL s.heap.objs.size d l) _ (tks s) q (.list (Nat.le_refl _) R.size) ⟨0,⟨_,Heap.get?_push_size _ rfl,rfl,rfl⟩,rfl⟩ (R.push _) (.push _ _) fun a e=>by subst e;exact R.fresh)
theorem It.step' {lo:Nat}{I:Addr}{W:Addr→Prop}{Need:Sig→Prop}{tg:PySem.Expr→Prop}{St:List V→Heap→Prop}(i:It c lo I W Need tg St){A:Around}{v:V}{l:List V}{target:PySem.Expr}{s:Shared}{P:Option Value→Shared→Prop}{QQ:VP}{E0 E1:VP}
 (hh:A.handled=none) (htg:tg target) (R:Rel c σ s.heap) (nd:Need σ) (wn:∀ a,W a→σ a=none) (st:St (v::l) s.heap) (hP:∀ x s1,wpAny (model c.prog c.w) A (letOwnedTupleGo target (.ref I) x) (fun _ s2=>QQ x s2) E1 s1→P (some x) s1)
 (h:∀ x h' tk,VR h' v x→St l h'→Flew c σ lo s.heap h'→QQ x (at_ s h' tk)):wpAny (model c.prog c.w) A (pyNext (.ref I)) P E0 s:=
 wpAny_mono (i.step A σ v l target s QQ E0 E1 hh htg R nd wn st h) (fun r s1 ⟨x,e,z⟩=>by subst e;exact hP x s1 z) fun _ _ z=>z
theorem It.done' {lo:Nat}{I:Addr}{W:Addr→Prop}{Need:Sig→Prop}{tg:PySem.Expr→Prop}{St:List V→Heap→Prop}(i:It c lo I W Need tg St){A:Around}{s:Shared}{P:Option Value→Shared→Prop}{E0:VP}
 (hh:A.handled=none) (R:Rel c σ s.heap) (nd:Need σ) (wn:∀ a,W a→σ a=none) (st:St [] s.heap)
 (h:∀ h' tk,Flew c σ lo s.heap h'→P none (at_ s h' tk)):wpAny (model c.prog c.w) A (pyNext (.ref I)) P E0 s:=
 wpAny_mono (i.done A σ s (fun s1=>P none s1) E0 hh R nd wn st h) (fun r s1 ⟨e,z⟩=>by subst e;exact z) fun _ _ z=>z
theorem notBoth {h:Heap}{W:Addr→Prop}{I:Addr}{lo:Nat}{Need:Sig→Prop}{tg:PySem.Expr→Prop}{St:List V→Heap→Prop}{l:List V}(i:It c lo I W Need tg St)(st:St l h)(E:EnvR c σ env ρ h)(wn:∀ a,W a→σ a=none):∀ a,W a→¬ both σ env a:=fun a w q=>by
 have r:=i.rec_ l h st a w
 rcases q with q | rfl | ⟨x,e⟩
 · exact q (wn a w)
 · refine el24 E.vars ?_;intro m o' es ep q1 q2 _ _
   exact r.dict q1 q2
 · refine el53 (E.cells x a e) ?_;intro _ _ v o' q1 q2
   exact r.cell q1 q2
theorem both_noTup {h:Heap}(R:Rel c σ h)(E:EnvR c σ env ρ h):NoTup (both σ env) h:=fun a xs q t=>q.elim (fun z=>R.noTup a xs z t) fun z=>E.mine_noTup a xs z t
theorem EnvR.frame_ {h:Heap}(E:EnvR c σ env ρ h):∃ L,env.frame=some L:=el68 (E.hand) fun f _ e _=>⟨f,e⟩
theorem noted_back {A:Around}{EE:VP}{s0 s:Shared}{e:Addr}{ex:Exn}{ρ':Rho}{σ':Sig}(ot:OnTop A env)(a:AOk c N A σ' s.heap)(R:Rel c σ' s.heap)(E:EnvR c σ' env ρ' s.heap)(F:Fly c σ' s0.heap.objs.size s.heap e ex)
 (h:∀ h' ,Flew c σ' s0.heap.objs.size s.heap h'→Fly c σ' s0.heap.objs.size h' e ex→EE (.ref e) { s with heap:=h' }) :
 notedBy (model c.prog c.w) A env (cameBackBy (model c.prog c.w) A env EE) (.ref e) s:=by
 obtain ⟨L,hL⟩:=E.frame_
 unfold notedBy
 exact noteFrame_ ot a R hL F fun h1 x1 F1=>cameBack_ (s:={ s with heap:=h1 }) F1 fun h2 x2 F2=>h h2 (x1.trans x2) F2.1
theorem for_loop {target:PySem.Expr}{body:List Stmt}{A:Around}{s:Shared}{QQ:Flow→Shared→Prop}{EE:VP}{I:Addr}{W:Addr→Prop}{Need:Sig→Prop}{tg:PySem.Expr→Prop}{St:List V→Heap→Prop}(hhn:N.hn=true)(ot:OnTop A env)
 (p:SPost c env σ s SQ QQ) (xp:SXPost c env σ s SX EE) (it:It c s.heap.objs.size I W Need tg St) (htg:tg target) (Inv:List V→Rho→Sig→Prop)
 (qs:∀ v l ρ1 σ1,Inv (v::l) ρ1 σ1→Need σ1∧∃ ρ2,Takes target v ρ1 ρ2∧SsG c N env ρ2 body σ1 (fun f ρ3 σ3=>match f with | .next=>Inv l ρ3 σ3 | .ret v=>SQ (.ret v) ρ3 σ3) SX)
 (qd:∀ ρ1 σ1,Inv [] ρ1 σ1→Need σ1∧SQ .next ρ1 σ1) {l:List V}{ρ1:Rho}{σ1:Sig}{h1:Heap}{tk1:Tk}
 (q0:Inv l ρ1 σ1) (a1:AOk c N A σ1 h1) (R1:Rel c σ1 h1) (E1:EnvR c σ1 env ρ1 h1) (x1:Ext (both σ env) s.heap h1) (gr1:Grown σ s.heap σ1) (st:St l h1) (wn:∀ a,W a→σ1 a=none) :
 codeAny (model c.prog c.w) A (.forLoop target (.ref I) body [] env) (fun r s'=>match r with | .ok f=>QQ f s' | .error e=>cameBackBy (model c.prog c.w) A env EE e s') (at_ s h1 tk1):=by
 refine codeAny_forLoop_any (fun n s'=>∃ l ρ1 σ1 h tk,s'=at_ s h tk∧Inv l ρ1 σ1∧AOk c N A σ1 h∧Rel c σ1 h∧EnvR c σ1 env ρ1 h∧Ext (both σ env) s.heap h∧Grown σ s.heap σ1∧St l h∧(∀ a,W a→σ1 a=none)∧n=l.length) ?_ l.length
  ⟨l,ρ1,σ1,h1,tk1,rfl,q0,a1,R1,E1,x1,gr1,st,wn,rfl⟩
 clear q0 a1 R1 E1 x1 gr1 st wn
 intro n s' zu26
 refine el5 zu26 ?_;(try clear zu26);intro l ρ1 σ1 h tk ze165 qI a1 R1 E1 x1 gr1 st wn ze166;subst ze165;subst ze166
 cases l with
 | nil=>
  obtain ⟨nd,q⟩:=qd ρ1 σ1 qI
  refine it.done' (σ:=σ1) (a1.han hhn) R1 nd wn st fun h2 tk2 f=>wpAny_execs_nil ?_
  exact p .next .next ρ1 σ1 h2 tk2 q rfl (f.rel R1) (f.envR E1) (f.toExt x1 (Nat.le_refl _)) gr1
 | cons v l=>
  refine el69 (qs v l ρ1 σ1 qI) ?_;intro nd ρ2 tk g2
  refine it.step' (σ:=σ1) (a1.han hhn) htg R1 nd wn st (fun x s1 z=>z) fun x h2 tk2 r st2 f=>?_
  have R2:=f.rel R1
  have E2:=f.envR E1
  have a2:=f.ok a1
  refine takes_ (s:=at_ s h2 tk2) (B:=mine env) (fun _ q=>q) (a1.han hhn) tk (fun x _=>store_ok) R2 E2 r fun h3 tk3 R3 E3 x3=>?_
  have x3':Ext (both σ1 env) h2 h3:=x3.mono fun _ q=>.inr q
  have a3:=a2.ext2 E2 x3' (.refl _ _) E3
  have st3:St l h3:=it.frame l h2 h3 _ st2 x3' (both_noTup R2 E2) (notBoth it st2 E2 wn)
  have X3:Ext (both σ env) s.heap h3:=(f.toExt x1 (Nat.le_refl _)).trans x3 fun a q=>.inl (.inr q)
  refine g2 A (at_ s h3 tk3) _ _ ot a3 R3 E3 (fun fl flv ρ4 σ4 h4 tk4 q rf R4 E4 x4 gr4=>?_) (fun e ex ρ4 σ4 h4 tk4 q F4 R4 E4 x4 gr4=>?_)
  · have X4:Ext (both σ env) s.heap h4:=X3.trans x4 (both_back gr1)
    have G4:Grown σ s.heap σ4:=gr1.trans gr4 X3.size
    cases fl with
    | next=>
     simp only[FR] at rf;subst rf
     have wl:∀ a,W a→a<h3.objs.size:=fun a w=>by refine el75 (it.rec_ l h3 st3 a w) ?_;intro o ho _;exact Heap.lt_size ho
     exact⟨l.length,by simp,l,ρ4,σ4,h4,tk4,rfl,q,a3.ext2 E3 x4 gr4 E4,R4,E4,X4,G4,it.frame l h3 h4 _ st3 x4 (both_noTup R3 E3) (notBoth it st3 E3 wn),fun a w=>grown_none gr4 (wn a w) (wl a w),rfl⟩
    | ret v=>
     simp only[FR] at rf;refine el75 rf ?_;(try clear rf);intro y ze167 rf;subst ze167
     exact p (.ret v) (.ret y) ρ4 σ4 h4 tk4 q (by simp only[FR];exact⟨y,rfl,rf⟩) R4 E4 X4 G4
  · have X4:Ext (both σ env) s.heap h4:=X3.trans x4 (both_back gr1)
    have G4:Grown σ s.heap σ4:=gr1.trans gr4 X3.size
    have a4:=a3.ext2 E3 x4 gr4 E4
    exact noted_back (s0:=s) (s:=at_ s h4 tk4) ot a4 R4 E4 (F4.lo X3.size) fun h5 f5 F5=>xp e ex ρ4 σ4 h5 tk4 q F5 (f5.rel R4) (f5.envR E4) (f5.toExt X4 (Nat.le_refl _)) G4
theorem S_for {target iter:PySem.Expr}{body:List Stmt}{pos:Pos}(hhn:N.hn=true)
 (g:IterG c N env ρ iter σ (fun l Need tg σ1=>tg target∧∃ Inv:List V→Rho→Sig→Prop,Inv l ρ σ1 ∧
  (∀ v l ρ1 σ1,Inv (v::l) ρ1 σ1→Need σ1∧∃ ρ2,Takes target v ρ1 ρ2∧SsG c N env ρ2 body σ1 (fun f ρ3 σ3=>match f with | .next=>Inv l ρ3 σ3 | .ret v=>SQ (.ret v) ρ3 σ3) SX) ∧
  (∀ ρ1 σ1,Inv [] ρ1 σ1→Need σ1∧SQ .next ρ1 σ1)) (fun ex σ'=>SX ex ρ σ'))
 (hs:∀ x,foldedSetIterable iter env x=pure x:=by intro _;rfl):StG c N env ρ (.For target iter body [] pos) σ SQ SX:=fun A s QQ EE ot ak R E p xp=>by
 refine wpAny_For (g A s _ EE ak R E (fun e ex σ1 h1 tk1 q f R1 x1 gr1=>xp e ex ρ σ1 h1 tk1 q f R1 (E.ext R x1 gr1) x1.both gr1)
  fun l Need tg I W St σ1 h1 tk1 ⟨htg,Inv,q0,qs,qd⟩ it st R1 x1 gr1 wn=>?_) hs
 exact for_loop hhn ot p xp it htg Inv qs qd q0 (ak.ext x1 gr1) R1 (E.ext R x1 gr1) x1.both gr1 st wn
end
end Mine
namespace Mine
variable [Membership Addr Zip0]
section
variable {prog:Program}{w:World}{A:Around}{E:VP}{R:RP}{s:Shared}
theorem compLoop_any {elt target iter:PySem.Expr}{ifs:List PySem.Expr}{scope:Scope}{pos:Pos}{it acc:Value}{env:Env}(J:Nat→Shared→Prop)
 (turn:∀ n s,J n s→wpAny (model prog w) A (pyNext it) (fun r s₁=>match r with
  | none=>R (.ok .next) s₁
  | some v=>wpAny (model prog w) A (letOwnedTupleGo target it v) (fun _ s₁'=>wpAny (model prog w) A (assign target env v) (fun _ s₂=>
   wpAny (model prog w) A (forIn ifs true fun c r=>if r=true then do let ok ← isTrue c env (eval c env);pure (ForInStep.yield ok) else pure (ForInStep.yield r)) (fun ok s₃=>
    if ok=true then wpAny (model prog w) A (eval elt env) (fun x s₄=>
     wpAny (model prog w) A (call (.builtin "list.append") [acc,x]) (fun _ s₅=>∃ m,m<n∧J m s₅) (notedBy (model prog w) A env fun e s'=>R (.error e) s') s₄) (notedBy (model prog w) A env fun e s'=>R (.error e) s') s₃
    else ∃ m,m<n∧J m s₃) (notedBy (model prog w) A env fun e s'=>R (.error e) s') s₂) (notedBy (model prog w) A env fun e s'=>R (.error e) s') s₁') (notedBy (model prog w) A env fun e s'=>R (.error e) s') s₁) (notedBy (model prog w) A env fun e s'=>R (.error e) s') s)
 (n:Nat) (h:J n s):codeAny (model prog w) A (.compLoop (.ListComp elt [⟨target,iter,ifs,0⟩] scope pos) 0 it acc env) R s:=by
 refine codeAny_loop rfl J (fun n s hI=>?_) n h
 show wpAny _ A ((compTurn (.ListComp elt [⟨target,iter,ifs,0⟩] scope pos) 0 it acc env).onRaise (fun x=>do noteFrame x env;theTreesLotGoes x)) _ _ s
 refine wpAny_noted ?_
 rw[compTurn_list]
 refine wpAny_bind (wpAny_standAt (wpAny_bind (wpAny_mono (turn n s hI) (fun r s₁ h₁=>?_) fun _ _ h'=>h')))
 cases r with
 | none=>exact wpAny_pure h₁
 | some v=>
  refine wpAny_bind (wpAny_mono h₁ (fun _ s₁' h₁'=>wpAny_bind (wpAny_mono h₁' (fun _ s₂ h₂=>wpAny_bind (wpAny_mono h₂ (fun ok s₃ h₃=>?_) fun _ _ h'=>h')) fun _ _ h'=>h')) fun _ _ h'=>h')
  cases ok with
  | false=>exact wpAny_pure ⟨rfl,h₃⟩
  | true=>exact wpAny_bind (wpAny_bind (wpAny_mono h₃ (fun x s₄ h₄=>wpAny_bind (wpAny_mono h₄ (fun _ s₅ h₅=>wpAny_pure (wpAny_pure ⟨rfl,h₅⟩)) fun _ _ h'=>h')) fun _ _ h'=>h'))
end
theorem pushCells_no:∀ (names:List (Str×NameKind)) (h:Heap),(∀ y∈names,y.2≠.cell)→pushCells h names=h
 | [],h,_=>rfl
 | (x,k)::r,h,hn=>by
  have:(k==NameKind.cell)=false:=by simpa using hn (x,k) (.head _)
  unfold pushCells
  simp only[this,Bool.false_eq_true,if_false]
  exact pushCells_no r h fun y hy=>hn y (.tail _ hy)
theorem cellsFrom_no:∀ (names:List (Str×NameKind)) (a:Addr) (cl:List (Str×Addr)),(∀ y∈names,y.2≠.cell)→cellsFrom a names cl=cl
 | [],_,_,_=>rfl
 | (x,k)::r,a,cl,hn=>by
  have:(k==NameKind.cell)=false:=by simpa using hn (x,k) (.head _)
  unfold cellsFrom
  simp only[this,Bool.false_eq_true,if_false]
  exact cellsFrom_no r a cl fun y hy=>hn y (.tail _ hy)
section
variable {c:Cx}{N:Lv}{env:Env}{ρ ρc:Rho}{σ σ':Sig}{Q:PV}{X:PX}{M:Model}{A:Around}{s:Shared}
theorem EnvR.off {h h':Heap}{B:Addr→Prop}(Ev:EnvR c σ env ρ h)(x:Ext B h h')(n:NoTup B h)(hb:∀ a o,B a→h.get? a=some o→(∀ es n,o.data≠.dict es n)∧∀ v,o.data≠.cell v):EnvR c σ env ρ h':=by
 refine el75 Ev.vars ?_;intro m hn hv
 have hl:¬ B env.locals:=by
  refine el55 hn ?_;(try clear hn);intro o es ep e1 e2 _
  exact fun q=>(hb _ o q e1).1 es ep e2
 have hc:∀ {k v},h.IsCell k v→¬ B k:=fun {k v} ⟨o,e1,e2⟩ q=>(hb _ o q e1).2 v e2
 refine⟨Ev.kind,Ev.glob,Ev.blt,Ev.loc,fun y k e=>?_,Ev.apart,⟨m,Ns.like hn x hl,fun y v hm=>?_⟩,Ev.nodup,Ev.kinds,?_,?_⟩
 · refine el73 (Ev.cells y k e) ?_;intro a1 a2 v a3
   exact⟨a1,a2,v,IsCell.like a3 x (hc a3)⟩
 · rcases hv y v hm with ⟨k1,z,e1,e2⟩ | ⟨k1,k,z,e1,e2,e3⟩
   · exact .inl ⟨k1,z,e1,VR.ext n x e2⟩
   · exact .inr ⟨k1,k,z,e1,IsCell.like e2 x (hc e2),VR.ext n x e3⟩
 · refine Ev.own.imp id fun zu27=>?_
   refine el75 zu27 ?_;(try clear zu27);intro o e1 e2
   refine el75 (x.keep _ o hl e1) ?_;intro o' e' l
   exact⟨o',e',fun q=>e2 (l.cls.symm.trans q)⟩
 · refine el42 Ev.hand ?_;intro f o e1 e2 e3 es m' e4
   refine el75 (x.keep f o (fun q=>(hb _ o q e2).1 es m' e4) e2) ?_;intro o' e' l
   exact⟨f,o',e1,e',l.cls.trans e3,es,m',l.data.trans e4⟩
theorem AOk.off {h h':Heap}{B:Addr→Prop}(a:AOk c N A σ h)(x:Ext B h h')(hb:∀ a o,B a→h.get? a=some o→∀ es n,o.data≠.dict es n):AOk c N A σ h':=
 ⟨a.depth,a.units,a.han,let ⟨l,e,f⟩:=a.frames;⟨l,e,fun y hy=>(f y hy).ext x (fun k hk q=>by
  refine el19 (f y hy) ?_;intro f' o e1 e2 _ es n e4 _
  obtain rfl:=uq e1 hk
  exact hb _ o q e2 es n e4) (.refl _ _)⟩,a.guards⟩
theorem EnvR.weak {h:Heap}{ρ':Rho}(Ev:EnvR c σ env ρ h)(hk:ρ'.map (·.1)=ρ.map (·.1))(hm:∀ x v,(x,some v)∈ρ'→(x,some v)∈ρ):EnvR c σ env ρ' h:=
 { Ev with
   vars:=el75 (Ev.vars) fun m hn hv=>⟨m,hn,fun y v q=>hv y v (hm y v q)⟩
   nodup:=by rw[hk];exact Ev.nodup
   kinds:=fun y hy=>Ev.kinds y (by rw[← hk];exact hy) }
theorem Put.other {x:Str}{v:Option V}{ρ ρ':Rho}(p:Put x v ρ ρ'){y:Str}{u:Option V}(m:(y,u)∈ρ)(hy:y≠x):(y,u)∈ρ':=by
 induction p with
 | here=>
  rcases List.mem_cons.mp m with e | m
  · cases e;exact absurd rfl hy
  · exact .tail _ m
 | there p ih=>
  rcases List.mem_cons.mp m with e | m
  · subst e;exact .head _
  · exact .tail _ (ih m)
theorem TakesL.other {es:List PySem.Expr}{l:List V}{ρ ρ':Rho}(t:TakesL es l ρ ρ'){y:Str}{u:Option V}(hy:y ∉ namesL es):((y,u)∈ρ→(y,u)∈ρ')∧ρ'.map (·.1)=ρ.map (·.1):=by
 induction t with
 | nil=>exact⟨id,rfl⟩
 | cons pt t ih=>
  rw[namesL_c,List.mem_cons,not_or] at hy
  exact⟨fun m=>(ih hy.2).1 (pt.other m hy.1),(ih hy.2).2.trans pt.keys⟩
theorem Takes.other {target:PySem.Expr}{v:V}{ρ ρ':Rho}(t:Takes target v ρ ρ'){y:Str}{u:Option V}(hy:y ∉ names target):((y,u)∈ρ→(y,u)∈ρ'):=by
 cases t with
 | name pt=>exact fun m=>pt.other m (by rw[names_n,List.mem_singleton] at hy;exact hy)
 | tup t=>exact (t.other hy).1
theorem TakesL.keys {es:List PySem.Expr}{l:List V}{ρ ρ':Rho}(t:TakesL es l ρ ρ'):ρ'.map (·.1)=ρ.map (·.1):=by
 induction t with
 | nil=>rfl
 | cons pt t ih=>exact ih.trans pt.keys
theorem Takes.keys {target:PySem.Expr}{v:V}{ρ ρ':Rho}(t:Takes target v ρ ρ'):ρ'.map (·.1)=ρ.map (·.1):=by
 cases t with
 | name pt=>exact pt.keys
 | tup t=>exact t.keys
structure CompOk (env:Env) (ρ:Rho) (scope:Scope) (cl:List (Str×Addr)) (ρc:Rho):Prop where
 clos:closureFor scope env=pure cl
 kind:scope.kind=.function
 nocell:∀ y∈scope.names,y.2≠.cell
 locs:∀ x∈scope.names,x.2=.local→scope.names.lookup x.1=some .local
 sub:∀ x k,cl.lookup x=some k→env.cells.lookup x=some k
 apart:cl.Pairwise fun x y=>x.2≠y.2
 nodup:(ρc.map (·.1)).Nodup
 keys:∀ x∈ρc.map (·.1),(relabel scope env).names.lookup x=some .local∨((relabel scope env).names.lookup x=some .cell∧∃ k,cl.lookup x=some k)
 vars:∀ x v,(x,some v)∈ρc→(x,some v)∈ρ∧env.kindOf x=some .cell∧(relabel scope env).names.lookup x=some .cell
theorem compEnter_ {scope:Scope}{cl:List (Str×Addr)}{E:VP}{QQ:Env→Shared→Prop}(R:Rel c σ s.heap)(Ev:EnvR c σ env ρ s.heap)(H:CompOk env ρ scope cl ρc)
 (h:∀ cenv h' tk,{ cenv with scope:=relabel scope env }=compEnvC scope cl s.heap.objs.size env→cenv.locals=s.heap.objs.size→Rel c σ h'→EnvR c σ (compEnvC scope cl s.heap.objs.size env) ρc h'→(∀ b o,s.heap.get? b=some o→h'.get? b=some o)→h'.objs.size=s.heap.objs.size+1→QQ cenv (at_ s h' tk)) :
 wpAny M A (newFunctionEnv scope env.globals cl [] env.qual none .none (some env)) QQ E s:=by
 simp only[newFunctionEnv,Option.isSome_some,if_true]
 refine wpAny_bind (wpAny_alloc ?_)
 refine wpAny_bind (wpAny_layCells _ (fun name kind cells=>by cases hkc:kind==NameKind.cell <;> simp [hkc]) _ _ _ _ ?_)
 rw[pushCells_no _ _ H.nocell,cellsFrom_no _ _ _ H.nocell]
 refine wpAny_bind (wpAny_pure ?_)
 refine wpAny_pure ?_
 have hk:∀ b o,s.heap.get? b=some o→(s.heap.push { cls:=.type "dict",data:=.dict #[] }).get? b=some o:=fun b o e=>Heap.get?_push_of_some _ e
 have hL:(s.heap.push { cls:=.type "dict",data:=.dict #[] }).get? s.heap.objs.size=some { cls:=.type "dict",data:=.dict #[] }:=Heap.get?_push_size _ rfl
 have R1:Rel c σ (s.heap.push { cls:=.type "dict",data:=.dict #[] }):=R.push _
 have E1:=Ev.ext R (Ext.push _ { cls:=.type "dict",data:=.dict #[] }) (.refl _ _)
 refine h _ _ (tks s) rfl rfl R1 ?_ hk (Heap.size_push ..)
 refine el75 E1.vars ?_;intro m hn hv
 refine⟨H.kind,E1.glob,E1.blt,⟨R.fresh,R.size⟩,fun x k e=>E1.cells x k (H.sub x k e),H.apart,⟨fun _=>none,⟨_,#[],0,hL,rfl,fun e he=>by simp at he,fun _=>rfl⟩,fun x v hm=>?_⟩,H.nodup,fun x hx=>H.keys x hx,.inr ⟨_,hL,(show Value.type "dict"≠_ by decide)⟩,E1.hand⟩
 refine el77 (H.vars x v hm) ?_;intro m1 m2 m3
 rcases H.keys x (List.mem_map.mpr ⟨_,hm,rfl⟩) with q | ⟨q,k,hk'⟩
 · exact absurd (uq m3 q) (fun q=>by cases q)
 · rcases hv x v m1 with ⟨k1,_⟩ | ⟨k1,k2,z,e1,e2,e3⟩
   · exact absurd (uq m2 k1) (fun q=>by cases q)
   · have:=H.sub x k hk'
     obtain rfl:=uq this e1
     exact .inr ⟨m3,k,z,hk',e2,e3⟩
end
end Mine
namespace Mine
variable [Membership Addr Zip0]
section
variable {c:Cx}{N:Lv}{env:Env}{ρ ρc:Rho}{σ σ':Sig}{Q:PV}{X:PX}{M:Model}{A:Around}{s:Shared}
noncomputable abbrev NoX:Exn→Sig→Prop:=fun _ _=>False
theorem noX {EE:VP}:XPost c σ s NoX EE:=fun _ _ _ _ _ q=>q.elim
noncomputable def CompT (c:Cx)(N:Lv)(env:Env)(ρ:Rho)(σ:Sig)(K:Bool→Sig→Prop):List PySem.Expr→Prop
 | []=>K true σ
 | [t]=>TG c N env ρ t σ K NoX
 | _=>False
theorem compT_run {ifs:List PySem.Expr}{K:Bool→Sig→Prop}{QQ:Bool→Shared→Prop}{EE:VP}(g:CompT c N env ρ σ K ifs)(a:AOk c N A σ s.heap)(R:Rel c σ s.heap)(E:EnvR c σ env ρ s.heap)
 (h:∀ b σ' h' tk',K b σ'→AOk c N A σ' h'→Rel c σ' h'→EnvR c σ' env ρ h'→Ext (dom σ) s.heap h'→Grown σ s.heap σ'→QQ b (at_ s h' tk')) :
 wpAny (model c.prog c.w) A (forIn ifs true fun c r=>if r=true then do let ok ← isTrue c env (eval c env);pure (ForInStep.yield ok) else pure (ForInStep.yield r)) QQ EE s:=by
 match ifs,g with
 | [],g=>exact wpAny_tests_nil (h true σ s.heap (tks s) g a R E (.refl _) (.refl _ _))
 | [t],g=>exact wpAny_tests_one (G.run g a R E noX fun b b' σ' h' tk' q r a' R' E' x gr=>by subst r;exact h b' σ' h' tk' q a' R' E' x gr)
theorem comp_core {elt target iter:PySem.Expr}{ifs:List PySem.Expr}{scope:Scope}{pos:Pos}{cl:List (Str×Addr)}{F:List V→Sig→Prop}(hhn:N.hn=true)(H:CompOk env ρ scope cl ρc)(hloc:∀ x∈names target,(relabel scope env).names.lookup x=some .local)(hfree:∀ x v,(x,some v)∈ρc→x ∉ names target)
 (g:IterG c N env ρ iter σ (fun l Need tg σ1=>tg target∧∃ Inv:List V→List V→Sig→Prop,Inv l [] σ1 ∧
  (∀ C v l acc σ1,Inv (v::l) acc σ1→Need σ1∧acc.length<1000000∧∃ ρ2,Takes target v ρc ρ2∧CompT c N (compEnvC scope cl C env) ρ2 σ1 (fun b σ2=>match b with | true=>EvG c N (compEnvC scope cl C env) ρ2 elt σ2 (fun u σ3=>Inv l (acc++[u]) σ3) NoX | false=>Inv l acc σ2) ifs) ∧
  (∀ acc σ1,Inv [] acc σ1→Need σ1∧F acc σ1)) X)
 (hs:∀ x,foldedSetIterable iter env x=pure x) {EE:VP}{QQ:VP}{use:Option (Value→Sem Unit)} (ak:AOk c N A σ s.heap) (R:Rel c σ s.heap) (E:EnvR c σ env ρ s.heap) (xp:XPost c σ s X EE)
 (fin:∀ acc σ1 D C h tk,F acc σ1→σ1 D=none→c.S.objs.size≤D→s.heap.objs.size≤D→C≠D→s.heap.objs.size≤C→Rel c σ1 h→AOk c N A σ1 h→EnvR c σ1 (compEnvC scope cl C env) ρc h→Ext (dom σ) s.heap h→Grown σ s.heap σ1→(∃ ys,h.PlainList D ys∧VRs h acc ys.toList)→compPost (model c.prog c.w) A EE use QQ (.ref D) C (.ok .next) (at_ s h tk)) :
 wpAny (model c.prog c.w) A (comprehension (.ListComp elt [⟨target,iter,ifs,0⟩] scope pos) scope env (firstIterPos [⟨target,iter,ifs,0⟩] pos) (newList []) (firstAsync [⟨target,iter,ifs,0⟩]) (firstIter [⟨target,iter,ifs,0⟩] env) use) QQ EE s:=by
 refine wpAny_comprehension_free rfl hs H.clos H.kind H.locs (g A s _ EE ak R E xp fun l Need tg I W St σ0 h0 tk0 zu28 it st R0 x0 gr0 wn=>?_)
 refine el63 zu28 ?_;(try clear zu28);intro htg Inv q0 qs qd
 have E0:=E.ext R x0 gr0
 have a0:=ak.ext x0 gr0
 refine wpAny_newObj_type ?_ (by size_fits)
 generalize hD:(at_ s h0 tk0).heap.objs.size=D
 have hDf:σ0 D=none:=by rw[← hD];exact R0.fresh
 have hDS:c.S.objs.size≤D:=by rw[← hD];exact R0.size
 have hDs:s.heap.objs.size≤D:=by rw[← hD];exact x0.size
 have x1:Ext (dom σ) s.heap (h0.push { cls:=.type "list",data:=.seq ([]:List Value).toArray }):=x0.trans (B':=dom σ) (.push _ _) fun _ q=>.inl q
 have kD:∀ b o,h0.get? b=some o→(h0.push { cls:=.type "list",data:=.seq ([]:List Value).toArray }).get? b=some o:=fun b o e=>Heap.get?_push_of_some _ e
 have hDl:(h0.push { cls:=.type "list",data:=.seq ([]:List Value).toArray }).PlainList D #[]:=⟨_,by rw[← hD];exact Heap.get?_push_size _ rfl⟩
 have R1:Rel c σ0 (h0.push { cls:=.type "list",data:=.seq ([]:List Value).toArray }):=R0.push _
 have px:Ext (dom σ0) h0 (h0.push { cls:=.type "list",data:=.seq ([]:List Value).toArray }):=.push _ _
 have E1:=E0.ext R0 px (.refl _ _)
 have a1:=a0.ext px (.refl _ _)
 have st1:St l (h0.push { cls:=.type "list",data:=.seq ([]:List Value).toArray }):=it.frame l _ _ _ st px R0.noTup fun a w q=>q (wn a w)
 show wpAny _ _ _ _ _ (at_ s (h0.push { cls:=.type "list",data:=.seq ([]:List Value).toArray }) tk0)
 generalize hH:h0.push { cls:=.type "list",data:=.seq ([]:List Value).toArray }=H1 at *
 refine compEnter_ (s:=at_ s H1 tk0) R1 E1 { H with } fun cenv h2 tk2 hce hcl R2 E2 k2 hz2=>?_
 rw[hce,hcl]
 generalize hC:(at_ s H1 tk0).heap.objs.size=C at *
 have hCs:s.heap.objs.size≤C:=by rw[← hC];exact x1.size
 have hCf:σ0 C=none:=E2.loc.1
 have hCD:C≠D:=by
  rw[← hC]
  obtain ⟨n,e⟩:=hDl
  exact Nat.ne_of_gt (Heap.lt_size e)
 have px2:Ext (dom σ0) H1 h2:=⟨fun a o _ e=>⟨o,k2 a o e,.refl o⟩,by rw[hz2];exact Nat.le_trans (Nat.le_of_eq hC) (Nat.le_succ _)⟩
 have x2:Ext (dom σ) s.heap h2:=x1.trans px2 (dom_back gr0)
 have a2:=a1.ext px2 (.refl _ _)
 have st2:St l h2:=it.frame l _ _ _ st1 px2 R1.noTup fun a w q=>q (wn a w)
 have hDl2:h2.PlainList D #[]:=hDl.at fun o e=>k2 _ o e
 have main:∀ s3:Shared,s3=at_ s h2 tk2→codeAny (model c.prog c.w) A (.compLoop (.ListComp elt [⟨target,iter,ifs,0⟩] scope pos) 0 (.ref I) (.ref D) (compEnvC scope cl C env)) (compPost (model c.prog c.w) A EE use QQ (.ref D) C) s3:=by
  rintro s3 rfl
  refine compLoop_any (fun n s'=>∃ l acc σ1 h tk ys,s'=at_ s h tk∧Inv l acc σ1∧AOk c N A σ1 h∧Rel c σ1 h∧EnvR c σ1 (compEnvC scope cl C env) ρc h∧Ext (dom σ) s.heap h∧Grown σ s.heap σ1∧St l h∧(∀ a,W a→σ1 a=none)∧h.PlainList D ys∧VRs h acc ys.toList∧σ1 D=none∧n=l.length) ?_ l.length
   ⟨l,[],σ0,h2,tk2,#[],rfl,q0,a2,R2,E2,x2,gr0,st2,wn,hDl2,.nil,hDf,rfl⟩
  intro n s' zu29
  refine el2 zu29 ?_;(try clear zu29);intro l acc σ1 h tk ys ze168 qI a1 R1 E1 x1 gr1 st wn hl hr hDn ze169;subst ze168;subst ze169
  cases l with
  | nil=>
   obtain ⟨nd,q⟩:=qd acc σ1 qI
   refine it.done' (σ:=σ1) (a1.han hhn) R1 nd wn st fun h3 tk3 f=>?_
   have R3:=f.rel R1
   have E3:=f.envR E1
   have X3:=f.toExt x1 (Nat.le_refl _)
   have hk3:∀ xs,h.PlainList D xs→h3.PlainList D xs:=fun xs zu30=>by
    obtain ⟨n,e⟩:=zu30
    obtain ⟨o',e',lk⟩:=f.ext.keep D _ (fun q=>by
     rcases q.2.2.2 with q | r
     · exact absurd (Heap.lt_size e) (Nat.not_lt.mpr q)
     · exact r.list e rfl rfl) e
    have:=lk.eq (show Value.type "list"≠_ by decide)
    subst this
    exact⟨n,e'⟩
   exact fin acc σ1 D C h3 tk3 q hDn hDS hDs hCD hCs R3 (f.ok a1) E3 X3 gr1 ⟨ys,hk3 ys hl,VRs.ext FB.noTup f.ext hr⟩
  | cons v l=>
   refine el66 (qs C v l acc σ1 qI) ?_;intro nd hal ρ2 tk' g2
   refine it.step' (σ:=σ1) (a1.han hhn) htg R1 nd wn st (fun x s1 z=>z) fun x h3 tk3 r st3 f=>?_
   have R3:=f.rel R1
   have E3:=f.envR E1
   have a3:=f.ok a1
   have X3:=f.toExt x1 (Nat.le_refl _)
   have hk3:h3.PlainList D ys:=by
    obtain ⟨n,e⟩:=hl
    obtain ⟨o',e',lk⟩:=f.ext.keep D _ (fun q=>by
     rcases q.2.2.2 with q | r
     · exact absurd (Heap.lt_size e) (Nat.not_lt.mpr q)
     · exact r.list e rfl rfl) e
    have:=lk.eq (show Value.type "list"≠_ by decide)
    subst this
    exact⟨n,e'⟩
   have hr3:VRs h3 acc ys.toList:=VRs.ext FB.noTup f.ext hr
   refine takes_ (s:=at_ s h3 tk3) (B:=fun a=>a=C) (fun a q=>.inl q) (a3.han hhn) tk' (fun x hx=>storeL_ok (hloc x hx)) R3 E3 r fun h4 tk4 R4 E4 x4=>?_
   have x4':Ext (both σ1 (compEnvC scope cl C env)) h3 h4:=x4.mono fun _ q=>.inr (.inl q)
   have a4:=a3.ext2 E3 x4' (.refl _ _) E4
   have st4:St l h4:=it.frame l h3 h4 _ st3 x4' (both_noTup R3 E3) (notBoth it st3 E3 wn)
   have X4:Ext (dom σ) s.heap h4:=X3.trans x4 fun a q=>.inr (by subst q;exact hCs)
   have plain:∀ {ha hb:Heap}{B:Addr→Prop}{xs},Ext B ha hb→¬ B D→ha.PlainList D xs→hb.PlainList D xs:=fun x hb zu31=>by
    obtain ⟨n,e⟩:=zu31
    refine el75 (x.keep D _ hb e) ?_;intro o' e' lk
    have:=lk.eq (show Value.type "list"≠_ by decide)
    subst this
    exact⟨n,e'⟩
   have hl4:=plain x4 hCD.symm hk3
   have hr4:VRs h4 acc ys.toList:=VRs.ext (fun a xs q t=>by subst q;exact E3.mine_noTup _ xs (.inl rfl) t) x4 hr3
   have wl:∀ {hh},St l hh→∀ a,W a→a<hh.objs.size:=fun st a w=>by refine el75 (it.rec_ l _ st a w) ?_;intro o ho _;exact Heap.lt_size ho
   have back:∀ {σ2:Sig}{hh:Heap},EnvR c σ2 (compEnvC scope cl C env) ρ2 hh→EnvR c σ2 (compEnvC scope cl C env) ρc hh:=fun Ev=>Ev.weak tk'.keys.symm fun x v q=>tk'.other (hfree x v q) q
   refine compT_run (s:=at_ s h4 tk4) g2 a4 R4 E4 fun b σ2 h5 tk5 g3 a5 R5 E5 x5 gr5=>?_
   have st5:St l h5:=it.frame l h4 h5 _ st4 x5 R4.noTup fun a w q=>q (wn a w)
   have X5:Ext (dom σ) s.heap h5:=X4.trans x5 (dom_back gr1)
   have G5:Grown σ s.heap σ2:=gr1.trans gr5 X4.size
   have w5:∀ a,W a→σ2 a=none:=fun a w=>grown_none gr5 (wn a w) (wl st4 a w)
   have hl5:=plain x5 (fun q=>q hDn) hl4
   have hr5:VRs h5 acc ys.toList:=R4.vrs x5 hr4
   have hD5:σ2 D=none:=grown_none gr5 hDn (by obtain ⟨n,e⟩:=hl4;exact Heap.lt_size e)
   cases b with
   | false=>
    rw[if_neg (by decide)]
    exact⟨l.length,by simp,l,acc,σ2,h5,tk5,ys,rfl,g3,a5,R5,back E5,X5,G5,st5,w5,hl5,hr5,hD5,rfl⟩
   | true=>
    rw[if_pos rfl]
    refine G.run (s:=at_ s h5 tk5) g3 a5 R5 E5 noX fun u y σ3 h6 tk6 g4 r6 a6 R6 E6 x6 gr6=>?_
    have st6:St l h6:=it.frame l h5 h6 _ st5 x6 R5.noTup fun a w q=>q (w5 a w)
    have X6:Ext (dom σ) s.heap h6:=X5.trans x6 (dom_back G5)
    have G6:Grown σ s.heap σ3:=G5.trans gr6 X5.size
    have w6:∀ a,W a→σ3 a=none:=fun a w=>grown_none gr6 (w5 a w) (wl st5 a w)
    have hl6:=plain x6 (fun q=>q hD5) hl5
    have hr6:VRs h6 acc ys.toList:=R5.vrs x6 hr5
    have hD6:σ3 D=none:=grown_none gr6 hD5 (by obtain ⟨n,e⟩:=hl5;exact Heap.lt_size e)
    have hlen:ys.size=acc.length:=by rw[← Array.length_toList,hr6.length]
    refine wpAny_list_append_plain (hsz:=by rw[hlen,sizeLine_is];exact nlh (by assumption) (by rfl)) hl6 fun h7 hl7 hs7=>?_
    have x7:Ext (fun a=>a=D) h6 h7:=.same hs7 (.inl rfl)
    have n7:NoTup (fun a=>a=D) h6:=fun a xs q zu32=>by
     refine el70 zu32 ?_;(try clear zu32);intro o e hc _
     subst q;obtain ⟨n,e'⟩:=hl6;obtain rfl:=uq e e';exact absurd hc (show Value.type "list"≠_ by decide)
    have b7:∀ a o,a=D→h6.get? a=some o→(∀ es n,o.data≠.dict es n)∧∀ v,o.data≠.cell v:=fun a o q e=>by
     subst q;obtain ⟨n,e'⟩:=hl6;obtain rfl:=uq e e';exact And.intro (fun es m q=>nomatch q) (fun v q=>nomatch q)
    refine⟨l.length,by simp,l,acc++[u],σ3,h7,tk6,ys.push y,rfl,g4,a6.off x7 fun a o q e=>(b7 a o q e).1,R6.same hs7 hD6 hDS fun xs t=>n7 _ xs rfl t,back (E6.off x7 n7 b7),X6.trans x7 fun a q=>.inr (by subst q;exact hDs),G6,it.frame l h6 h7 _ st6 x7 n7 fun a w q=>?_,w6,hl7,?_,hD6,rfl⟩
    · subst q
      obtain ⟨n,e⟩:=hl6
      exact (it.rec_ l h6 st6 a w).list e rfl rfl
    · rw[Array.toList_push]
      exact (VRs.ext n7 x7 hr6).snoc (VR.ext n7 x7 r6)
 exact codeAny_compStart_list (main _ rfl) (it.self l A _ _ _ st2 (main _ rfl))
theorem G_listcomp {elt target iter:PySem.Expr}{ifs:List PySem.Expr}{scope:Scope}{pos:Pos}{cl:List (Str×Addr)}(hhn:N.hn=true)(H:CompOk env ρ scope cl ρc)(hloc:∀ x∈names target,(relabel scope env).names.lookup x=some .local)(hfree:∀ x v,(x,some v)∈ρc→x ∉ names target)
 (g:IterG c N env ρ iter σ (fun l Need tg σ1=>tg target∧∃ Inv:List V→List V→Sig→Prop,Inv l [] σ1 ∧
  (∀ C v l acc σ1,Inv (v::l) acc σ1→Need σ1∧acc.length<1000000∧∃ ρ2,Takes target v ρc ρ2∧CompT c N (compEnvC scope cl C env) ρ2 σ1 (fun b σ2=>match b with | true=>EvG c N (compEnvC scope cl C env) ρ2 elt σ2 (fun u σ3=>Inv l (acc++[u]) σ3) NoX | false=>Inv l acc σ2) ifs) ∧
  (∀ acc σ1,Inv [] acc σ1→Need σ1∧∀ D,σ1 D=none→Q (.raw (.ref D)) (upd σ1 D (.list acc)))) X)
 (hs:∀ x,foldedSetIterable iter env x=pure x:=by intro _;rfl):EvG c N env ρ (.ListComp elt [⟨target,iter,ifs,0⟩] scope pos) σ Q X:=fun A s QQ EE ak R E p xp=>by
 rw[eval_ListComp]
 refine comp_core hhn H hloc hfree g hs ak R E xp fun acc σ1 D C h3 tk3 q hDn hDS hDs hCD hCs R3 a3 E3 X3 gr1 zu33=>?_
 refine el75 zu33 ?_;(try clear zu33);intro ys hl hr
 refine el75 E3.vars ?_;intro m hns _
 refine⟨m,hns,fun h4 hs4=>?_⟩
 have X4':Ext (fun a=>a=C) h3 h4:=.same hs4 (.inl rfl)
 have R4:Rel c σ1 h4:=R3.same hs4 E3.loc.1 E3.loc.2 fun xs t=>E3.mine_noTup _ xs (.inl rfl) t
 have X4:Ext (dom σ) s.heap h4:=X3.trans X4' fun a q=>.inr (by subst q;exact hCs)
 obtain ⟨n,e⟩:=hl
 have hn4:NoTup (fun a=>a=C) h3:=fun a xs q t=>by subst q;exact E3.mine_noTup _ xs (.inl rfl) t
 exact p (.raw (.ref D)) (.ref D) (upd σ1 D (.list acc)) h4 tk3 (q D hDn) (by simp only[jt1,jt2,jt3,jt4,jt5,jt6]) (R4.add hDS ⟨ys,⟨n,(hs4.2 D hCD.symm).trans e⟩,VRs.ext hn4 X4' hr⟩) X4 (gr1.trans (.upd (.inr hDs)) (Nat.le_refl _))
end
end Mine
namespace Mine
variable [Membership Addr Zip0]
section
variable {c:Cx}{N:Lv}{env:Env}{ρ:Rho}{σ:Sig}{Q:PV}{X:PX}
theorem ext_grow {h h':Heap}{B:Addr→Prop}(hk:∀ b o,h.get? b=some o→h'.get? b=some o)(hs:h.objs.size≤h'.objs.size):Ext B h h':=⟨fun a o _ e=>⟨o,hk a o e,.refl o⟩,hs⟩
theorem Post.grew {s:Shared}{QQ:VP}(p:Post c σ s VR Q QQ)(R:Rel c σ s.heap){v:V}{y:Value}{h':Heap}{tk:Tk}(q:Q v σ)(r:VR h' v y)(hk:∀ b o,s.heap.get? b=some o→h'.get? b=some o)(hs:s.heap.objs.size≤h'.objs.size):QQ y (at_ s h' tk):=
 p v y σ h' tk q r (R.grow hk hs) (ext_grow hk hs) (.refl _ _)
theorem B_len_tup {l:List V}(q:Q (.int l.length) σ)(hz:l.length≤1000000):CallOp c N σ (.builtin "len") [.tup l] Q X:=fun A s QQ EE ys a R r p xp=>by
 simp only[ju1,ju2] at r
 refine el61 r ?_;(try clear r);intro x _ ze170 r ze171;subst ze170;subst ze171
 simp only[jt1,jt2,jt3,jt4,jt5,jt6] at r
 refine el61 r ?_;(try clear r);intro t xs ze172 ht r;subst ze172
 have hl:xs.size=l.length:=by rw[← Array.length_toList,r.length]
 exact len_tuple ht.lib (by rw[hl];lia) (p.tok R q (by simp only[jt1,jt2,jt3,jt4,jt5,jt6];exact⟨_,by rw[hl]⟩))
theorem B_len_list {d:Addr}{l:List V}(q:Q (.int l.length) σ)(hl:LR c σ d l)(hz:l.length≤1000000):CallOp c N σ (.builtin "len") [.raw (.ref d)] Q X:=fun A s QQ EE ys a R r p xp=>by
 simp only[ju1,ju2] at r
 refine el61 r ?_;(try clear r);intro x _ ze173 r ze174;subst ze173;subst ze174
 simp only[jt1,jt2,jt3,jt4,jt5,jt6] at r;subst r
 refine el75 (hl.real R) ?_;intro xs hx r
 have hl:xs.size=l.length:=by rw[← Array.length_toList,r.length]
 exact call_len_list hx (by rw[hl];lia) (p.tok R q (by simp only[jt1,jt2,jt3,jt4,jt5,jt6];exact⟨_,by rw[hl]⟩))
theorem B_tuple_list {d:Addr}{l:List V}(q:Q (.tup l) σ)(hl:LR c σ d l)(hz:l.length≤1000000):CallOp c N σ (.type "tuple") [.raw (.ref d)] Q X:=fun A s QQ EE ys a R r p xp=>by
 simp only[ju1,ju2] at r
 refine el61 r ?_;(try clear r);intro x _ ze175 r ze176;subst ze175;subst ze176
 simp only[jt1,jt2,jt3,jt4,jt5,jt6] at r;subst r
 refine el75 (hl.real R) ?_;intro xs hx r
 have hl:xs.size=l.length:=by rw[← Array.length_toList,r.length]
 refine sized (call_tuple_list hx (fun h' hk hs=>?_) (by rw[hl,sizeLine_is];exact nle (by assumption) (by rfl)))
 have hk':∀ b o,s.heap.get? b=some o→(h'.push { cls:=.type "tuple",data:=.seq xs }).get? b=some o:=fun b o e=>Heap.get?_push_of_some _ (hk b o e)
 exact p.grew (tk:=tks s) R q (by simp only[jt1,jt2,jt3,jt4,jt5,jt6];exact⟨_,xs,rfl,.new _ _ (R.nfz (by have:=hs;rw[Heap.size_push] at this;exact this)),R.vrs (ext_grow hk' hs) r⟩) hk' hs
theorem B_tuple_tup {l:List V}(q:Q (.tup l) σ):CallOp c N σ (.type "tuple") [.tup l] Q X:=fun A s QQ EE ys a R r p xp=>by
 simp only[ju1,ju2] at r
 refine el61 r ?_;(try clear r);intro x _ ze177 r ze178;subst ze177;subst ze178
 have r0:=r
 simp only[jt1,jt2,jt3,jt4,jt5,jt6] at r
 refine el61 r ?_;(try clear r);intro t xs ze179 ht r;subst ze179
 exact call_tuple_tup ht.lib (p.here R q r0)
theorem newList_post {s:Shared}{QQ:VP}(p:Post c σ s VR Q QQ)(R:Rel c σ s.heap){h':Heap}{tk:Tk}{l:List V}{xs:Array Value}{n:Nat}(q:∀ d,σ d=none→Q (.raw (.ref d)) (upd σ d (.list l)))(hk:∀ b o,s.heap.get? b=some o→h'.get? b=some o)(hs:s.heap.objs.size≤h'.objs.size)
 {D:Addr} (hD:s.heap.objs.size≤D) (e:h'.get? D=some { cls:=.type "list",dict:=none,data:=.seq xs n,slots:=#[] }) (r:VRs s.heap l xs.toList):QQ (.ref D) (at_ s h' tk):=by
 have f:σ D=none:=by
  cases e:σ D with
  | none=>rfl
  | some m=>exact absurd (R.lt (a:=D) (by rw[e];simp)) (Nat.not_lt.mpr hD)
 exact p (.raw (.ref D)) _ (upd σ D (.list l)) h' tk (q _ f) (by simp only[jt1,jt2,jt3,jt4,jt5,jt6]) ((R.grow hk hs).add (Nat.le_trans R.size hD) ⟨xs,⟨n,e⟩,R.vrs (ext_grow hk hs) r⟩) (ext_grow hk hs) (.upd (.inr hD))
theorem B_list_list {d:Addr}{l:List V}(q:∀ d,σ d=none→Q (.raw (.ref d)) (upd σ d (.list l)))(hl:LR c σ d l)(hz:l.length≤1000000):CallOp c N σ (.type "list") [.raw (.ref d)] Q X:=fun A s QQ EE ys a R r p xp=>by
 simp only[ju1,ju2] at r
 refine el61 r ?_;(try clear r);intro x _ ze180 r ze181;subst ze180;subst ze181
 simp only[jt1,jt2,jt3,jt4,jt5,jt6] at r;subst r
 refine el34 (hl.real R) ?_;intro xs o ho hc n hd r
 have hl:xs.size=l.length:=by rw[← Array.length_toList,r.length]
 exact sized (call_list_seq d (.inl rfl) ho hc hd (fun h' c' hk e hs=>newList_post (tk:=tks s) p R q hk hs (Nat.le_refl _) e r) (by rw[hl,sizeLine_is];exact nle (by assumption) (by rfl)))
theorem B_list_tup {l:List V}(q:∀ d,σ d=none→Q (.raw (.ref d)) (upd σ d (.list l)))(hz:l.length≤1000000):CallOp c N σ (.type "list") [.tup l] Q X:=fun A s QQ EE ys a R r p xp=>by
 simp only[ju1,ju2] at r
 refine el61 r ?_;(try clear r);intro x _ ze182 r ze183;subst ze182;subst ze183
 simp only[jt1,jt2,jt3,jt4,jt5,jt6] at r
 refine el17 r ?_;(try clear r);intro t xs ze184 o ho hc _ n hd r;subst ze184
 have hl:xs.size=l.length:=by rw[← Array.length_toList,r.length]
 exact sized (call_list_seq t (.inr rfl) ho hc hd (fun h' c' hk e hs=>newList_post (tk:=tks s) p R q hk hs (Nat.le_refl _) e r) (by rw[hl,sizeLine_is];exact nle (by assumption) (by rfl)))
theorem B_int_bool {b:Bool}(q:Q (.int (if b then 1 else 0)) σ):CallOp c N σ (.type "int") [.bool b] Q X:=fun A s QQ EE ys a R r p xp=>by
 simp only[ju1,ju2] at r
 refine el61 r ?_;(try clear r);intro x _ ze187 r ze188;subst ze187;subst ze188
 simp only[jt1,jt2,jt3,jt4,jt5,jt6] at r;subst r
 exact call_int_bool (p.tok R q (by simp only[jt1,jt2,jt3,jt4,jt5,jt6];exact⟨_,rfl⟩))
theorem changed_post {s:Shared}{QQ:VP}(p:Post c σ s VR Q QQ)(R:Rel c σ s.heap){h':Heap}{tk:Tk}{d:Addr}{m m':MO}(e:σ d=some m)(q:Q .none (upd σ d m'))(hs:Heap.SameBut d s.heap h')(hm:MR c.prog c.w h' d m'):QQ .none (at_ s h' tk):=
 p .none .none (upd σ d m') h' tk q (by simp only[jt1,jt2,jt3,jt4,jt5,jt6]) (R.change e hs hm) (.same hs (.inl (by show σ d≠none;rw[e];simp))) (.upd (.inl (by rw[e];simp)))
theorem VRs.same {s:Shared}{h':Heap}{d:Addr}{m:MO}(R:Rel c σ s.heap)(e:σ d=some m)(hs:Heap.SameBut d s.heap h'){l:List V}{xs:List Value}(r:VRs s.heap l xs):VRs h' l xs:=R.vrs (.same hs (.inl (by show σ d≠none;rw[e];simp))) r
theorem B_append {d:Addr}{l:List V}{v:V}(e:σ d=some (.list l))(q:Q .none (upd σ d (.list (l++[v]))))(hz:l.length≤1000000):CallOp c N σ (.builtin "list.append") [.raw (.ref d),v] Q X:=fun A s QQ EE ys a R r p xp=>by
 simp only[ju1,ju2] at r
 refine el30 r ?_;(try clear r);intro x _ ze189 r y _ ze190 ry ze191;subst ze189;subst ze190;subst ze191
 simp only[jt1,jt2,jt3,jt4,jt5,jt6] at r;subst r
 refine el60 ((R.obj d _ e).2) ?_;intro xs n ho r
 have hl:xs.size=l.length:=by rw[← Array.length_toList,r.length]
 refine wpAny_list_append_plain (hsz:=by rw[hl,sizeLine_is];exact nle (by assumption) (by rfl)) ⟨n,ho⟩ fun h' hl' hs=>changed_post (tk:=tks s) p R e q hs ⟨_,hl',?_⟩
 rw[Array.toList_push]
 exact (VRs.same R e hs r).snoc (R.vr (.same hs (.inl (by show σ d≠none;rw[e];simp))) ry)
theorem B_extend {d b:Addr}{l m:List V}(e:σ d=some (.list l))(e2:σ b=some (.list m))(q:Q .none (upd σ d (.list (l++m))))(hz:l.length+m.length≤1000000):CallOp c N σ (.builtin "list.extend") [.raw (.ref d),.raw (.ref b)] Q X:=fun A s QQ EE ys a R r p xp=>by
 simp only[ju1,ju2] at r
 refine el30 r ?_;(try clear r);intro x _ ze192 r y _ ze193 ry ze194;subst ze192;subst ze193;subst ze194
 simp only[jt1,jt2,jt3,jt4,jt5,jt6] at r ry;subst r ry
 refine el60 ((R.obj d _ e).2) ?_;intro xs n ho r
 refine el60 ((R.obj b _ e2).2) ?_;intro zs k hb rz
 have hl:xs.size=l.length:=by rw[← Array.length_toList,r.length]
 have hl2:zs.size=m.length:=by rw[← Array.length_toList,rz.length]
 have hsz:xs.size+zs.size≤sizeLine:=by rw[hl,hl2,sizeLine_is];exact nle (by assumption) (by rfl)
 refine call_meets PySem.F.slot_list_extend ⟨_,ho,rfl⟩ PySem.F.entry_list_extend (PySem.F.args_list_extend_2 _ _) (AutoSeq1.list_extend_list_list_0 d xs n b zs k (extend_door hsz) (Nat.le_trans (Nat.le_add_right _ _) hsz)) ⟨ho,hb,?_⟩
 have hs:Heap.SameBut d s.heap (s.heap.update d (Obj.mapSeq fun x=>x++zs)):=.update ..
 refine changed_post (tk:=tks s) p R e q hs ⟨xs++zs,⟨_,Heap.get?_update_self _ ho (by rw[mapSeq_app];rfl)⟩,?_⟩
 rw[Array.toList_append]
 exact (VRs.same R e hs r).append (VRs.same R e hs rz)
theorem M_list {d:Addr}{l:List V}{name:Str}{id:String}(e:σ d=some (.list l))(sl:Slot "list" name id)(ty:typeOf (.builtin id)=pure (.type "method_descriptor")):MethOp c N σ (.raw (.ref d)) name (.builtin id):=fun A s EE x pl QQ ak R r q=>by
 simp only[jt1,jt2,jt3,jt4,jt5,jt6] at r;subst r
 refine el60 ((R.obj d _ e).2) ?_;intro xs n ho r
 exact getMethod_builtin (T:="list") ⟨_,ho,rfl⟩ PySem.F.plainAttrs_list sl ty (fun a e=>by cases e;exact⟨_,ho,rfl⟩) q
theorem M_dict {d:Addr}{l:List (Str×V)}{name:Str}{id:String}(e:DR c σ d l)(sl:Slot "dict" name id)(ty:typeOf (.builtin id)=pure (.type "method_descriptor")):MethOp c N σ (.raw (.ref d)) name (.builtin id):=fun A s EE x pl QQ ak R r q=>by
 simp only[jt1,jt2,jt3,jt4,jt5,jt6] at r;subst r
 refine el75 (e.real R) ?_;intro kvs hd _
 exact getMethod_builtin (T:="dict") hd.typeIs PySem.F.plainAttrs_dict sl ty hd.mapOf.noDict q
noncomputable def hasV (l:List V)(v:V):Bool:=(toPs l).any fun y=>PyData.eqv y (toP v)
theorem O_notInT {v:V}{l:List V}(q:Q (.bool (!hasV l v)) σ)(hv:tree v=true)(hl:trees l=true)(hd:1+min (PyData.depthAll (toPs l)) (toP v).depth≤16*N.n):Op2 c N σ v (.tup l) (compareOp .NotIn) Q X:=fun A s QQ EE x y ak R r1 r2 p xp=>by
 obtain ⟨⟨as,q1⟩,c1⟩:=reads_of (.tup l) y r2 hl
 obtain ⟨⟨bs,q2⟩,c2⟩:=reads_of v x r1 hv
 simp only[jR1,jR2,jR3,jR4,jR5,jR6] at q1
 simp only[jR1,jR2,jR3,jR4,jR5,jR6,PyData.canLay0] at c1
 exact SeqAt.notIn_tuple_reads q1 q2 c1 c2 (by have:=ak.dep hd;lia) (p.here R q (by simp only[jt1,jt2,jt3,jt4,jt5,jt6,hasV]))
theorem O_notInL {v:V}{d:Addr}{l:List V}(q:Q (.bool (!hasV l v)) σ)(e:σ d=some (.list l))(hv:tree v=true)(hl:trees l=true)(hd:1+min (PyData.depthAll (toPs l)) (toP v).depth≤16*N.n):Op2 c N σ v (.raw (.ref d)) (compareOp .NotIn) Q X:=fun A s QQ EE x y ak R r1 r2 p xp=>by
 simp only[jt1,jt2,jt3,jt4,jt5,jt6] at r2;subst r2
 obtain ⟨⟨as,q1⟩,c1⟩:=list_reads (R.obj d _ e).2 hl
 obtain ⟨⟨bs,q2⟩,c2⟩:=reads_of v x r1 hv
 simp only[PyData.canLay0] at c1
 exact SeqAt.notIn_list_reads q1 q2 c1 c2 (by have:=ak.dep hd;lia) (p.here R q (by simp only[jt1,jt2,jt3,jt4,jt5,jt6,hasV]))
theorem lr_reads {h:Heap}{a:Addr}{l:List V}(R:Rel c σ h)(m:LR c σ a l)(ht:trees l=true):(∃ as,Reads h (.ref a) (.list (toPs l)) as)∧PyData.canLay0 (.list (toPs l))=true:=by
 refine el34 (m.real R) ?_;intro xs o e hc n hd r
 obtain ⟨⟨as,q⟩,q2⟩:=reads_ofs l xs.toList r ht
 exact⟨⟨_,.list e hc hd q⟩,by simp only[PyData.canLay0];exact q2⟩
theorem O_eqLR {a b:Addr}{l m:List V}(q:Q (.bool (eqL l m)) σ)(ea:LR c σ a l)(eb:LR c σ b m)(ha:trees l=true)(hb:trees m=true)(hd:min (PyData.depthAll (toPs l)) (PyData.depthAll (toPs m))+1≤16*N.n) :
 Op2 c N σ (.raw (.ref a)) (.raw (.ref b)) (compareOp .Eq) Q X:=fun A s QQ EE x y ak R r1 r2 p xp=>by
 simp only[jt1,jt2,jt3,jt4,jt5,jt6] at r1 r2;subst r1 r2
 obtain ⟨⟨as,q1⟩,c1⟩:=lr_reads R ea ha
 obtain ⟨⟨bs,q2⟩,c2⟩:=lr_reads R eb hb
 exact SeqAt.eqOverData c.prog c.w A EE s _ _ _ _ as bs QQ q1 q2 c1 c2 (ak.dep (by simp only[PyData.depth];lia)) (p.here R q (by simp only[jt1,jt2,jt3,jt4,jt5,jt6,eqL,PyData.eqv]))
end
end Mine
namespace Mine
variable [Membership Addr Zip0]
section
variable {c:Cx}{N:Lv}{env:Env}{ρ:Rho}{σ:Sig}{Q:PV}{X:PX}{SQ:PF}{SX:PE}
noncomputable def PrR (c:Cx)(h:Heap)(l:List (Str×V))(xs:List (Value×Value)):Prop:=∃ kvs,Carries (strKind c.prog c.w) xs kvs∧PairsR h l kvs
noncomputable abbrev PairsG (c:Cx)(N:Lv)(env:Env)(ρ:Rho)(ks:List (Option PySem.Expr))(vs:List PySem.Expr)(pos:Pos)(σ:Sig)(K:List (Str×V)→Sig→Prop)(X:PX):Prop:=G c N env ρ σ (PrR c) (evalPairs (pairTrees ks vs env pos)) K X
theorem G_pairs_nil {pos:Pos}{K:List (Str×V)→Sig→Prop}(q:K [] σ):PairsG c N env ρ [] [] pos σ K X:=fun A s QQ EE a R E p xp=>
 pairTrees_nil_walk (p [] [] σ s.heap (tks s) q ⟨[],trivial,rfl⟩ R (.refl _) (.refl _ _))
theorem G_pairs_cons {k v:PySem.Expr}{ks:List (Option PySem.Expr)}{vs:List PySem.Expr}{pos:Pos}{K:List (Str×V)→Sig→Prop}
 (g:EvG c N env ρ k σ (fun a σ1=>∃ x,a=.str x∧EvG c N env ρ v σ1 (fun u σ2=>PairsG c N env ρ ks vs pos σ2 (fun l σ3=>K ((x,u)::l) σ3) X) X) X):PairsG c N env ρ (some k::ks) (v::vs) pos σ K X:=fun A s QQ EE a R E p xp=>
 pairTrees_cons_walk (g.run a R E xp fun a' y σ1 h1 tk1 ⟨x,e,g1⟩ r1 a1 R1 E1 x1 gr1=>g1.run a1 R1 E1 (xp.step x1 gr1) fun u z σ2 h2 tk2 g2 r2 a2 R2 E2 x2 gr2=>
  g2.run a2 R2 E2 ((xp.step x1 gr1).step x2 gr2) fun l xs σ3 h3 tk3 q zu34 a3 R3 E3 x3 gr3=>by
   refine el75 zu34 ?_;(try clear zu34);intro kvs hc hr
   subst e
   simp only[jt1,jt2,jt3,jt4,jt5,jt6] at r1
   refine el74 r1 ?_;(try clear r1);intro _ t ze195;subst ze195
   exact ((p.step x1 gr1).step x2 gr2) _ _ σ3 h3 tk3 q ⟨(x,z)::kvs,⟨strKind_is c.prog c.w x t,rfl,hc⟩,⟨z,kvs,rfl,R2.vr x3 r2,hr⟩⟩ R3 x3 gr3)
theorem nodup_of {h:Heap}{l:List (Str×V)}{kvs:List (Str×Value)}(r:PairsR h l kvs)(hn:(l.map (·.1)).Nodup):(kvs.map (·.1)).Nodup:=by rw[r.keys];exact hn
theorem dictOf_keep {h h':Heap}{D:Addr}{kvs:List (Str×Value)}{B:Addr→Prop}{prog:Program}{w:World}(d:h.DictOf (strKind prog w) D kvs)(x:Ext B h h')(hb:¬ B D):h'.DictOf (strKind prog w) D kvs:=by
 refine el55 d ?_;(try clear d);intro o es ep e hx r
 refine el75 (x.keep D o hb e) ?_;intro o' e' l
 have:=l.eq (by rw[hx.1];decide)
 subst this
 exact⟨o',es,ep,e',hx,r⟩
theorem G_dict {ks:List (Option PySem.Expr)}{vs:List PySem.Expr}{pos:Pos}(hall:ks.all (·.isSome)=true)(hl:ks.length=vs.length)(h0:ks≠[])(hlen:ks.length≤15)
 (g:PairsG c N env ρ ks vs pos σ (fun l σ1=>(l.map (·.1)).Nodup∧∀ D,σ1 D=none→Q (.raw (.ref D)) (upd σ1 D (.dict l))) X):EvG c N env ρ (.Dict ks vs pos) σ Q X:=fun A s QQ EE a R E p xp=>by
 have px:Ext (dom σ) s.heap (s.heap.push { cls:=.type "dict",data:=.dict #[] }):=.push _ _
 have R1:=R.push { cls:=.type "dict",data:=.dict #[] }
 have E1:=E.ext R px (.refl _ _)
 have a1:=a.ext px (.refl _ _)
 have d0:(s.heap.push { cls:=.type "dict",data:=.dict #[] }).DictOf (strKind c.prog c.w) s.heap.objs.size []:=Heap.DictOf.new s.heap
 refine wpAny_Dict_walk (knd:=strKind c.prog c.w) hall hl h0 hlen ?_
 refine g.run (s:=at_ s (s.heap.push { cls:=.type "dict",data:=.dict #[] }) (tks s)) a1 R1 E1 (xp.step px (.refl _ _)) fun l xs σ1 h1 tk1 zu35 zu36 a2 R2 E2 x2 gr2=>?_
 obtain ⟨hn,q⟩:=zu35
 refine el75 zu36 ?_;(try clear zu36);intro kvs hc hr
 have hD:σ1 s.heap.objs.size=none:=grown_none gr2 R.fresh (by show _<(s.heap.push _).objs.size;rw[Heap.size_push];exact Nat.lt_succ_self _)
 refine⟨kvs,hc,dictOf_keep d0 x2 fun q=>q R.fresh,fun h' hd hs=>?_⟩
 have hm:merged [] kvs=kvs:=merged_nil_of_nodup kvs (nodup_of hr hn)
 rw[hm] at hd
 have nt:NoTup (fun a=>a=s.heap.objs.size) h1:=fun a xs q zu37=>by
  refine el70 zu37 ?_;(try clear zu37);intro o e hc _
  subst q
  refine el55 (dictOf_keep d0 x2 fun q=>q R.fresh) ?_;intro o' es ep e' hx _
  have e:h1.get? s.heap.objs.size=some o:=e
  have e':h1.get? s.heap.objs.size=some o':=e'
  obtain rfl:=uq e e'
  have:=hx.1;rw[hc] at this;exact absurd this (by decide)
 have x3:Ext (fun a=>a=s.heap.objs.size) h1 h':=.same hs (.inl rfl)
 have R3:Rel c σ1 h':=R2.same hs hD R.size fun xs t=>nt _ xs rfl t
 have X3:Ext (dom σ) s.heap h':=(px.trans x2 fun a q=>.inl q).trans x3 fun a q=>.inr (by subst q;exact Nat.le_refl _)
 exact p (.raw (.ref s.heap.objs.size)) _ (upd σ1 s.heap.objs.size (.dict l)) h' (tk1.1+xs.length,tk1.2) (q _ hD) (by simp only[jt1,jt2,jt3,jt4,jt5,jt6]) (R3.add R.size ⟨kvs,hd,PairsR.mono (fun a xs t=>IsTup.ext nt x3 t) _ _ hr⟩) X3 (((Grown.refl σ s.heap).trans gr2 px.size).trans (.upd (.inr (Nat.le_refl _))) (Nat.le_refl _))
theorem B_dget {d:Addr}{l:List (Str×V)}{k:Str}{v:V}(hd:DR c σ d l)(q:Q ((assoc l k).getD v) σ):CallOp c N σ (.builtin "dict.get") [.raw (.ref d),.str k,v] Q X:=fun A s QQ EE ys a R r p xp=>by
 simp only[ju1,ju2] at r
 refine el10 r ?_;(try clear r);intro x _ ze197 r y _ ze198 ry z _ ze199 rz ze200;subst ze197;subst ze198;subst ze199;subst ze200
 simp only[jt1,jt2,jt3,jt4,jt5,jt6] at r ry;subst r
 refine el74 ry ?_;(try clear ry);intro _ t ze201;subst ze201
 refine el75 (hd.real R) ?_;intro kvs hm hr
 have hlk:=hr.at k
 have key:∀ m:Value,((valueAt kvs k).getD z)=m→VR s.heap ((assoc l k).getD v) m:=fun m e=>by
  subst e
  cases e:assoc l k with
  | none=>rw[e] at hlk;rw[hlk];exact rz
  | some u=>rw[e] at hlk;refine el75 hlk ?_;(try clear hlk);intro m e1 e2;rw[e1];exact e2
 exact call_meetsIn F.slot_dict_get hm.typeIs F.entry_dict_get (F.args_dict_get_3 _ _ _) (meets_dict_get_default (strKind c.prog c.w) d (strKind_is c.prog c.w k t) (beq_eq_false_iff_ne.mpr (hd.off R)) z) ⟨_,hm.mapOf,p.tok R q (key _ rfl)⟩
theorem newDict_post {s:Shared}{QQ:VP}(p:Post c σ s VR Q QQ)(R:Rel c σ s.heap){h':Heap}{tk:Tk}{l:List (Str×V)}{kvs:List (Str×Value)}{D:Addr}(q:∀ d,σ d=none→Q (.raw (.ref d)) (upd σ d (.dict l)))(hk:∀ b o,s.heap.get? b=some o→h'.get? b=some o)(hs:s.heap.objs.size≤h'.objs.size)
 (hD:s.heap.objs.size≤D) (hd:h'.DictOf (strKind c.prog c.w) D kvs) (r:PairsR s.heap l kvs):QQ (.ref D) (at_ s h' tk):=by
 have f:σ D=none:=by
  cases e:σ D with
  | none=>rfl
  | some m=>exact absurd (R.lt (a:=D) (by rw[e];simp)) (Nat.not_lt.mpr hD)
 exact p (.raw (.ref D)) _ (upd σ D (.dict l)) h' tk (q _ f) (by simp only[jt1,jt2,jt3,jt4,jt5,jt6]) ((R.grow hk hs).add (Nat.le_trans R.size hD) ⟨kvs,hd,PairsR.mono (fun a xs t=>t.keeps hk) _ _ r⟩) (ext_grow hk hs) (.upd (.inr hD))
end
section
variable {prog:Program}{w:World}{A:Around}{E:VP}{s:Shared}
theorem keys_list:typeLookup (.type "list") "keys"=pure none:=am_miss_of_fast (by kernel_rfl)
theorem keys_tuple:typeLookup (.type "tuple") "keys"=pure none:=am_miss_of_fast (by kernel_rfl)
theorem noKeys_list {a:Addr}{xs:Array Value}{k:Nat}{sl:Array (Option Value)}{Q:Option Value→Shared→Prop}(hx:s.heap.get? a=some { cls:=.type "list",dict:=none,data:=.seq xs k,slots:=sl })(hA:A.handled=none)
 (h:∀ h' tk,(∀ b o,s.heap.get? b=some o→h'.get? b=some o)→Q none { s with heap:=h',toks:=tk }):wpAny (model prog w) A (getAttr? (.ref a) "keys") Q E s:=by
 obtain ⟨hp,g,d,tk,os⟩:=s
 have hT:∀ tk',(⟨hp,g,d,tk',os⟩:Shared).TypeIs (.ref a) "list":=fun _=>⟨_,hx,rfl⟩
 have f1:=sub_AttributeError
 have f3:=F.slot_list_getattribute.lookup
 have f4:=F.slot_list_getattribute.bind (.ref a)
 have f5:=am_list_getattr_none
 unfold getAttr? getAttrBy? getAttrBy
 repeat (any_goals (first | assumption | exact hT _ | ((with_reducible show wpAny _ _ (call (Value.builtin "list.__getattribute__") _ _) _ _ _);refine call_meets F.slot_list_getattribute (hT _) am_entry_list_getattribute (F.args_list_getattribute_2 _ _) (meets_getattribute_miss_list a xs k sl "keys" _ keys_list (by decide) (by decide)) ⟨hx,hA,fun h' tk' e hx'=>?_⟩) | wp_step))
 refine el76 hx'.there ?_;intro t' u' he
 show wpAny _ _ (getattributeRaised _ _ _ _ _ _ _) _ _ _
 unfold getattributeRaised
 repeat (any_goals (first | assumption | wp_step))
 all_goals first | exact h _ _ hx'.keeps | trace_state
theorem noKeys_tuple {a:Addr}{xs:Array Value}{k:Nat}{sl:Array (Option Value)}{Q:Option Value→Shared→Prop}(hx:s.heap.get? a=some { cls:=.type "tuple",dict:=none,data:=.seq xs k,slots:=sl })(hA:A.handled=none)
 (h:∀ h' tk,(∀ b o,s.heap.get? b=some o→h'.get? b=some o)→Q none { s with heap:=h',toks:=tk }):wpAny (model prog w) A (getAttr? (.ref a) "keys") Q E s:=by
 obtain ⟨hp,g,d,tk,os⟩:=s
 have hT:∀ tk',(⟨hp,g,d,tk',os⟩:Shared).TypeIs (.ref a) "tuple":=fun _=>⟨_,hx,rfl⟩
 have f1:=sub_AttributeError
 have f3:=F.slot_tuple_getattribute.lookup
 have f4:=F.slot_tuple_getattribute.bind (.ref a)
 have f5:=am_tuple_getattr_none
 unfold getAttr? getAttrBy? getAttrBy
 repeat (any_goals (first | assumption | exact hT _ | ((with_reducible show wpAny _ _ (call (Value.builtin "tuple.__getattribute__") _ _) _ _ _);refine call_meets F.slot_tuple_getattribute (hT _) am_entry_tuple_getattribute (F.args_tuple_getattribute_2 _ _) (meets_getattribute_miss_tuple a xs k sl "keys" _ keys_tuple (by decide) (by decide)) ⟨hx,hA,fun h' tk' e hx'=>?_⟩) | wp_step))
 refine el76 hx'.there ?_;intro t' u' he
 show wpAny _ _ (getattributeRaised _ _ _ _ _ _ _) _ _ _
 unfold getattributeRaised
 repeat (any_goals (first | assumption | wp_step))
 all_goals first | exact h _ _ hx'.keeps | trace_state
end
end Mine
namespace Mine
variable [Membership Addr Zip0]
section
variable {prog:Program}{w:World}{A:Around}{E:VP}{s:Shared}
noncomputable def SeqIt (h:Heap)(I a:Addr)(xs:Array Value)(i:Nat):Prop:=(h.IsListIter I a i∧h.IsList a xs)∨(h.IsTupleIter I a i∧h.IsTuple a xs)
theorem seqIt_ne {h:Heap}{I a:Addr}{xs:Array Value}{i:Nat}(x:SeqIt h I a xs i):a≠I:=fun q=>by
 subst q
 rcases x with ⟨⟨o,ho,hc,_⟩,o',ho',hc',_⟩ | ⟨⟨o,ho,hc,_⟩,o',ho',hc',_⟩ <;> (obtain rfl:=uq ho ho';rw[hc] at hc';exact absurd hc' (by decide))
theorem seqIt_keep {h h':Heap}{I a:Addr}{xs:Array Value}{i:Nat}(x:SeqIt h I a xs i)(k:∀ o,h.get? I=some o→h'.get? I=some o)(k2:∀ o,h.get? a=some o→h'.get? a=some o):SeqIt h' I a xs i:=by
 rcases x with ⟨⟨o,ho,r⟩,o',ho',r'⟩ | ⟨⟨o,ho,r⟩,o',ho',r'⟩
 · exact .inl ⟨⟨o,k _ ho,r⟩,o',k2 _ ho',r'⟩
 · exact .inr ⟨⟨o,k _ ho,r⟩,o',k2 _ ho',r'⟩
theorem next_seq {I a:Addr}{i:Nat}{xs:Array Value}{x:Value}{Q:Option Value→Shared→Prop}(it:SeqIt s.heap I a xs i)(hx:xs[i]?=some x)
 (h:∀ h',SeqIt h' I a xs (i+1)→Heap.SameBut I s.heap h'→Q (some x) { s with heap:=h' }):wpAny (model prog w) A (pyNext (.ref I)) Q E s:=by
 have hne:=seqIt_ne it
 rcases it with ⟨hit,hl⟩ | ⟨hit,hl⟩
 · exact wpAny_pyNext_list_item hit hl hx fun h' hit' hs=>h h' (.inl ⟨hit',hl.extBut hs.extBut hne⟩) hs
 · exact wpAny_pyNext_tuple_item hit hl hx fun h' hit' hs=>h h' (.inr ⟨hit',hl.extBut hs.extBut hne⟩) hs
theorem next_seq_end {I a:Addr}{i:Nat}{xs:Array Value}{Q:Option Value→Shared→Prop}(hh:A.handled=none)(it:SeqIt s.heap I a xs i)(hx:xs[i]?=none)
 (h:∀ h',Heap.ExtBut I s.heap h'→Q none { s with heap:=h' }):wpAny (model prog w) A (pyNext (.ref I)) Q E s:=by
 rcases it with ⟨hit,hl⟩ | ⟨hit,hl⟩
 · exact wpAny_pyNext_list_end hh hit hl hx h
 · exact wpAny_pyNext_tuple_end hh hit hl hx h
theorem entry_upd:entryFor table "dict.update.loop"=some Builtin.«dict.update.loop»:=entryFor_of_tree (by kernel_rfl)
noncomputable def PairsAt (h:Heap)(xs:Array Value)(i:Nat)(kvs:List (Str×Value)):Prop:=xs.size=i+kvs.length∧∀ j k v,kvs[j]?=some (k,v)→∃ T t,xs[i+j]?=some (.ref T)∧IsTup h T #[.str k t,v]
theorem upd_loop {D I a:Addr}{xs:Array Value}(hh:A.handled=none)(hDI:D≠I)(hDa:D≠a){R:RP}:∀ (kvs:List (Str×Value)) (i:Nat) (acc:List (Str×Value)) (s:Shared) (k:Int),SeqIt s.heap I a xs i→PairsAt s.heap xs i kvs→s.heap.DictOf (strKind prog w) D acc→acc.length+kvs.length≤1000000 →
 (∀ h' tk,h'.DictOf (strKind prog w) D (merged acc kvs)→(∀ b o,b≠D→b≠I→s.heap.get? b=some o→h'.get? b=some o)→R (.ok (.ret .none)) { s with heap:=h',toks:=tk }) →
 codeAny (model prog w) A (.builtin "dict.update.loop" ⟨[.ref D,.ref I,rawInt k,.none],[]⟩) R s
 | [],i,acc,s,k,it,pa,hd,hz,h=>by
  refine codeAny_builtin entry_upd ?_
  show wpAny _ _ (pyNext (.ref I) >>= _) _ _ s
  refine wpAny_bind (next_seq_end hh it (by have:=pa.1;simp at this;simp [this]) fun h' x=>?_)
  show wpAny _ _ (Builtin.Dict.addKeywords D [] >>= fun _=>ret Value.none) _ _ _
  refine wpAny_bind (wpAny_pure (wpAny_pure ?_))
  refine h h' s.toks ?_ fun b o _ hb e=>x b o hb e
  refine el62 hd ?_;(try clear hd);intro o es ep e r
  exact⟨o,es,ep,x D o hDI e,r⟩
 | (key,v)::kvs,i,acc,s,k,it,pa,hd,hz,h=>by
  refine el68 (pa.2 0 key v rfl) ?_;intro T t hx hT
  have hTI:T≠I:=fun q=>by
   subst q
   refine el70 hT ?_;(try clear hT);intro o e hc _
   rcases it with ⟨⟨o',e',hc',_⟩,_⟩ | ⟨⟨o',e',hc',_⟩,_⟩ <;> (obtain rfl:=uq e e';rw[hc] at hc';exact absurd hc' (by decide))
  have noTD:∀ T' ys,IsTup s.heap T' ys→T'≠D:=fun T' ys zu39 q=>by
   refine el70 zu39 ?_;(try clear zu39);intro o e hc _
   subst q
   refine el55 hd ?_;(try clear hd);intro o' es ep e' hx' _
   obtain rfl:=uq e e';have:=hx'.1;rw[hc] at this;exact absurd this (by decide)
  have noTI:∀ T' ys,IsTup s.heap T' ys→T'≠I:=fun T' ys zu40 q=>by
   refine el70 zu40 ?_;(try clear zu40);intro o e hc _
   subst q
   rcases it with ⟨⟨o',e',hc',_⟩,_⟩ | ⟨⟨o',e',hc',_⟩,_⟩ <;> (obtain rfl:=uq e e';rw[hc] at hc';exact absurd hc' (by decide))
  refine codeAny_builtin entry_upd ?_
  show wpAny _ _ (pyNext (.ref I) >>= _) _ _ s
  refine wpAny_bind (next_seq it (by simpa using hx) fun h1 it1 hs1=>?_)
  have hT1:IsTup h1 T #[.str key t,v]:=el75 (hT) fun o e r=>⟨o,(hs1.2 T hTI).trans e,r⟩
  have hd1:h1.DictOf (strKind prog w) D acc:=el62 (hd) fun o es ep e r=>⟨o,es,ep,(hs1.2 D hDI).trans e,r⟩
  show wpAny _ _ (holding [.ref T] _ >>= _) _ _ _
  refine wpAny_bind (wpAny_holding ?_)
  refine wpAny_bind (wpAny_tryCatch ?_)
  show wpAny _ _ (Builtin.Dict.pairItems (.ref T)) _ _ _
  unfold Builtin.Dict.pairItems
  refine wpAny_bind (wpAny_typeOf (s:={ s with heap:=h1 }) hT1.typeIs ?_)
  rw[if_pos (by decide)]
  refine el51 hT1 ?_;(try clear hT1);intro oT eT _ _ nT dT
  refine wpAny_bind (wpAny_seqItems eT dT (wpAny_pure ?_))
  show wpAny _ _ (holding [.str key t,v] (dictSet D (.str key t) v)) _ _ _
  refine wpAny_holding (wpAny_dictSet_pairs (hsz:=by rw[sizeLine_is];simp at hz;lia) (strKind_is prog w key t) hd1 fun h2 hd2 hs2=>wpAny_pure ⟨plainId_quiet (by decide +kernel) _,?_⟩)
  have kk:∀ b o,b≠D→b≠I→s.heap.get? b=some o→h2.get? b=some o:=fun b o b1 b2 e=>(hs2.2 b b1).trans ((hs1.2 b b2).trans e)
  refine upd_loop hh hDI hDa kvs (i+1) (stored acc key v) _ (k+1) (seqIt_keep it1 (fun o e=>(hs2.2 I hDI.symm).trans e) fun o e=>(hs2.2 a hDa.symm).trans e) ⟨?_,fun j k' v' e=>?_⟩ hd2 ?_ fun h' tk hd' hk=>h h' tk (by simpa [merged] using hd') fun b o b1 b2 e=>hk b o b1 b2 (kk b o b1 b2 e)
  · have:=pa.1;simp at this ⊢;lia
  · obtain ⟨T',t',e1,o,e2,r⟩:=pa.2 (j+1) k' v' (by simpa using e)
    exact⟨T',t',by rw[← e1];congr 1;lia,o,kk T' o (noTD T' _ ⟨o,e2,r⟩) (noTI T' _ ⟨o,e2,r⟩) e2,r⟩
  · have:=stored_length_le acc key v;simp at hz ⊢;lia
end
end Mine
namespace Mine
variable [Membership Addr Zip0]
section
variable {prog:Program}{w:World}{A:Around}{E:VP}{s:Shared}
noncomputable def SeqN (h:Heap)(a:Addr)(xs:Array Value):Prop:=h.PlainList a xs∨IsTup h a xs
theorem call_dict_pairs {a:Addr}{xs:Array Value}{kvs:List (Str×Value)}{Q:VP}(hh:A.handled=none)(ha:SeqN s.heap a xs)(pa:PairsAt s.heap xs 0 kvs)(hz:kvs.length≤1000000)
 (h:∀ h' tk,h'.DictOf (strKind prog w) s.heap.objs.size (merged [] kvs)→(∀ b o,s.heap.get? b=some o→h'.get? b=some o)→Q (.ref s.heap.objs.size) { s with heap:=h',toks:=tk }) :
 wpAny (model prog w) A (call (.type "dict") [.ref a]) Q E s:=by
 refine callType_codes (Q₁:=fun obj s₁=>obj=.ref s.heap.objs.size∧s₁={ s with heap:=s.heap.push { cls:=.type "dict",data:=.dict #[] } }) F.kt_called_dict (F.kt_typeCall_dict_1 _) F.entry_dict_init (kt_code_dict_new _ ⟨rfl,rfl⟩) ?_
 intro obj s₁ zu41
 obtain ⟨rfl,rfl⟩:=zu41
 have hnew:(s.heap.push { cls:=.type "dict",data:=.dict #[] }).DictOf (strKind prog w) s.heap.objs.size []:=Heap.DictOf.new s.heap
 have hk0:∀ b o,s.heap.get? b=some o→(s.heap.push { cls:=.type "dict",data:=.dict #[] }).get? b=some o:=fun b o e=>Heap.get?_push_of_some _ e
 generalize hH:s.heap.push { cls:=.type "dict",data:=.dict #[] }=H at *
 have halt:a<s.heap.objs.size:=by
  rcases ha with ⟨n,e⟩ | ⟨o,e,_⟩ <;> exact Heap.lt_size e
 have hDlt:s.heap.objs.size<H.objs.size:=by rw[← hH,Heap.size_push];exact Nat.lt_succ_self _
 refine⟨hnew.typeIs,F.args_dict_init_2 _ _,?_⟩
 unfold Builtin.«dict.__init__»
 refine wpAny_bind ?_
 unfold Builtin.Dict.selfAndRest
 refine wpAny_bind (wpAny_notOrdered_dict hnew.typeIs ?_)
 show wpAny _ _ (pure (s.heap.objs.size,[Value.ref a])) _ _ _
 refine wpAny_pure ?_
 show wpAny _ _ (Builtin.Dict.updateFrom "dict.__init__" s.heap.objs.size (.ref a) [] .none) _ _ _
 unfold Builtin.Dict.updateFrom
 have fin:∀ (h1:Heap) (tk:Nat),(∀ b o,H.get? b=some o→h1.get? b=some o)→SeqN h1 a xs →
  wpAny (model prog w) A.in1.in1 (do
   rule s!"{"dict.__init__"}.from-pairs"
   return ← again (.builtin "dict.update.loop" ⟨[.ref s.heap.objs.size,← pyIter (.ref a),rawInt 0,.none],[]⟩)) (fun fin s'=>match fin with | .done f=>(wants (fun r s₁=>r=.none∧Q (.ref s.heap.objs.size) s₁) E) (.ok f) s' | .again c'=>c'.quiet=true∧codeAny (model prog w) A.in1 c' (wants (fun r s₁=>r=.none∧Q (.ref s.heap.objs.size) s₁) E) s') (fun e s'=>(wants (fun r s₁=>r=.none∧Q (.ref s.heap.objs.size) s₁) E) (.error e) s') { s with heap:=h1,toks:=tk }:=fun h1 tk hk1 ha1=>by
  have loop:∀ (T:String),SeqIt (h1.push { cls:=.type T,data:=.fields #[.ref a,.int 0 0] }) h1.objs.size a xs 0 →
   codeAny (model prog w) A.in1 (.builtin "dict.update.loop" ⟨[.ref s.heap.objs.size,.ref h1.objs.size,rawInt 0,.none],[]⟩) (wants (fun r s₁=>r=.none∧Q (.ref s.heap.objs.size) s₁) E) { s with heap:=h1.push { cls:=.type T,data:=.fields #[.ref a,.int 0 0] },toks:=tk }:=fun T it=>by
   have hDI:s.heap.objs.size<h1.objs.size:=by
    refine el62 hnew ?_;(try clear hnew);intro o es ep e _
    exact Heap.lt_size (hk1 _ _ e)
   have kk:∀ b o,s.heap.get? b=some o→(h1.push { cls:=.type T,data:=.fields #[.ref a,.int 0 0] }).get? b=some o:=fun b o e=>Heap.get?_push_of_some _ (hk1 b o (hk0 b o e))
   refine upd_loop (A:=A.in1) hh (Nat.ne_of_lt hDI) (Nat.ne_of_gt halt) kvs 0 [] { s with heap:=h1.push { cls:=.type T,data:=.fields #[.ref a,.int 0 0] },toks:=tk } 0 it ⟨pa.1,fun j k v e=>el68 (pa.2 j k v e) fun T' t e1 e2=>⟨T',t,e1,e2.keeps kk⟩⟩ ?_ (by simpa using hz) fun h' tk' hd' hk'=>⟨rfl,?_⟩
   · refine el62 hnew ?_;(try clear hnew);intro o es ep e r
     exact⟨o,es,ep,Heap.get?_push_of_some _ (hk1 _ _ e),r⟩
   · exact h h' tk' hd' fun b o e=>hk' b o (Nat.ne_of_lt (Heap.lt_size e)) (Nat.ne_of_lt (Nat.lt_trans (Heap.lt_size e) hDI)) (kk b o e)
  refine wpAny_bind (wpAny_rule ?_)
  rcases ha1 with ⟨n,e⟩ | t
  · have hl:h1.IsList a xs:=⟨_,e,rfl,n,rfl⟩
    exact wpAny_bind (wpAny_pyIter_list (s:={ s with heap:=h1,toks:=tk }) hl (wpAny_pure ⟨plainId_quiet (by decide +kernel) _,loop _ (.inl ⟨⟨_,Heap.get?_push_size _ rfl,rfl,rfl⟩,_,Heap.get?_push_of_some _ e,rfl,n,rfl⟩)⟩))
  · have hl:h1.IsTuple a xs:=t.lib
    refine el64 hl ?_;(try clear hl);intro o ho hc n hd
    exact wpAny_bind (wpAny_pyIter_tuple (s:={ s with heap:=h1,toks:=tk }) ⟨o,ho,hc,n,hd⟩ (wpAny_pure ⟨plainId_quiet (by decide +kernel) _,loop _ (.inr ⟨⟨_,Heap.get?_push_size _ rfl,rfl,rfl⟩,o,Heap.get?_push_of_some _ ho,hc,n,hd⟩)⟩))
 rcases ha with ⟨n,e⟩ | t
 · refine wpAny_bind (wpAny_typeOf (T:="list") ⟨_,hk0 _ _ e,rfl⟩ ?_)
   rw[if_pos (by decide)]
   refine wpAny_bind (noKeys_list (s:={ s with heap:=H }) (hk0 _ _ e) hh fun h1 tk hk1=>?_)
   rw[if_pos (show (none:Option Value).isNone=true from rfl)]
   exact fin h1 tk hk1 (.inl ⟨n,hk1 _ _ (hk0 _ _ e)⟩)
 · have t0:=t.keeps hk0
   obtain ⟨⟨cls,dd,dt,sl⟩,e,hc,⟨hdd,_⟩,n,hd⟩:=t0
   simp only at hc hdd hd
   subst hc hdd hd
   refine wpAny_bind (wpAny_typeOf (T:="tuple") ⟨_,e,rfl⟩ ?_)
   rw[if_pos (by decide)]
   refine wpAny_bind (noKeys_tuple (s:={ s with heap:=H }) e hh fun h1 tk hk1=>?_)
   rw[if_pos (show (none:Option Value).isNone=true from rfl)]
   exact fin h1 tk hk1 (.inr ((t.keeps hk0).keeps hk1))
end
end Mine
namespace Mine
variable [Membership Addr Zip0]
theorem stored_nodup' (l:List (Str×Value))(k:Str)(v:Value)(hn:(l.map (·.1)).Nodup):((stored l k v).map (·.1)).Nodup:=by
 unfold stored
 split
 · have:(l.map fun kv=>if kv.1=k then (kv.1,v) else kv).map (·.1)=l.map (·.1):=by
    rw[List.map_map]
    refine List.map_congr_left fun a _=>?_
    simp only[Function.comp]
    split <;> rfl
   rw[this];exact hn
 · rename_i h
   rw[List.map_append,List.nodup_append]
   refine⟨hn,by simp,fun a ha b hb e=>?_⟩
   simp at hb
   subst hb e
   refine el75 (List.mem_map.mp ha) ?_;intro p hp e
   exact h (List.any_eq_true.mpr ⟨p,hp,by simpa using e⟩)
section
variable {c:Cx}{N:Lv}{env:Env}{ρ:Rho}{σ:Sig}{Q:PV}{X:PX}
noncomputable def pv (l:List (Str×V)):List V:=l.map fun p=>.tup [.str p.1,p.2]
theorem pairs_of {h:Heap}:∀ {l:List (Str×V)}{xs:List Value},VRs h (pv l) xs→∃ kvs:List (Str×Value),PairsR h l kvs∧kvs.length=xs.length∧∀ (j:Nat) (k:Str) (v:Value),kvs[j]?=some (k,v)→∃ T t,xs[j]?=some (Value.ref T)∧IsTup h T #[.str k t,v]
 | [],xs,r=>by simp only[pv,List.map_nil,ju1,ju2] at r;subst r;exact⟨[],rfl,rfl,fun j k v e=>by simp at e⟩
 | (k,u)::l,xs,r=>by
  simp only[pv,List.map_cons,ju1,ju2] at r
  refine el61 r ?_;(try clear r);intro x r' ze204 r1 r2;subst ze204
  refine el70 (pairs_of (l:=l) r2) ?_;intro kvs p1 p2 p3
  simp only[jt1,jt2,jt3,jt4,jt5,jt6] at r1
  refine el61 r1 ?_;(try clear r1);intro T ys ze205 hT rr;subst ze205
  simp only[ju1,ju2,jt1,jt2,jt3,jt4,jt5,jt6] at rr
  refine el12 rr ?_;(try clear rr);intro y _ e1 _ t ze206 z _ ze207 hz ze208;subst ze206;subst ze207;subst ze208
  have ey:ys=#[.str k t,z]:=Array.toList_inj.mp (by rw[e1])
  subst ey
  refine⟨(k,z)::kvs,⟨z,kvs,rfl,hz,p1⟩,by simp [p2],fun j k' v' e=>?_⟩
  cases j with
  | zero=>simp at e;obtain ⟨rfl,rfl⟩:=e;exact⟨T,t,rfl,hT⟩
  | succ j=>simp only[List.getElem?_cons_succ] at e ⊢;exact p3 j k' v' e
noncomputable def putAll:List (Str×V)→List (Str×V)→List (Str×V)
 | acc,[]=>acc
 | acc,(k,v)::l=>putAll (putA acc k v) l
theorem jK1:putAll acc []=(acc):=rfl
theorem jK2:putAll acc ((k,v)::l)=(putAll (putA acc k v) l):=rfl
theorem PairsR.puts {h:Heap}:∀ {l acc:List (Str×V)}{kvs ac:List (Str×Value)},PairsR h l kvs→PairsR h acc ac→(ac.map (·.1)).Nodup→PairsR h (putAll acc l) (merged ac kvs)
 | [],acc,kvs,ac,r,ra,hn=>by simp only[jb1,jb2] at r;subst r;exact ra
 | (k,v)::l,acc,kvs,ac,r,ra,hn=>by
  simp only[jb1,jb2] at r
  refine el61 r ?_;(try clear r);intro x r' ze209 r1 r2;subst ze209
  have:=PairsR.puts (acc:=putA acc k v) (ac:=stored ac k x) r2 (ra.put r1 hn) (stored_nodup' _ _ _ hn)
  simpa [merged,jK1,jK2] using this
theorem B_dict_pairs {d:Addr}{l:List (Str×V)}(hhn:N.hn=true)(e:σ d=some (.list (pv l)))(q:∀ D,σ D=none→Q (.raw (.ref D)) (upd σ D (.dict (putAll [] l))))(hz:l.length≤1000000):CallOp c N σ (.type "dict") [.raw (.ref d)] Q X:=fun A s QQ EE ys a R r p xp=>by
 simp only[ju1,ju2] at r
 refine el61 r ?_;(try clear r);intro x _ ze210 r ze211;subst ze210;subst ze211
 simp only[jt1,jt2,jt3,jt4,jt5,jt6] at r;subst r
 refine el75 ((R.obj d _ e).2) ?_;intro xs hx r
 refine el70 (pairs_of r) ?_;intro kvs p1 p2 p3
 refine sized (call_dict_pairs (a.han hhn) (.inl hx) ⟨by rw[p2];simp,fun j k v e=>by simpa using p3 j k v e⟩ (by rw[p1.length];exact hz) fun h' tk hd hk hs=>?_)
 exact newDict_post (tk:=(tk,s.drawn)) p R q hk hs (Nat.le_refl _) hd (PairsR.puts p1 rfl .nil)
theorem B_dict_pairsT {l:List (Str×V)}(hhn:N.hn=true)(q:∀ D,σ D=none→Q (.raw (.ref D)) (upd σ D (.dict (putAll [] l))))(hz:l.length≤1000000):CallOp c N σ (.type "dict") [.tup (pv l)] Q X:=fun A s QQ EE ys a R r p xp=>by
 simp only[ju1,ju2] at r
 refine el61 r ?_;(try clear r);intro x _ ze212 r ze213;subst ze212;subst ze213
 simp only[jt1,jt2,jt3,jt4,jt5,jt6] at r
 refine el61 r ?_;(try clear r);intro t xs ze214 ht r;subst ze214
 refine el70 (pairs_of r) ?_;intro kvs p1 p2 p3
 refine sized (call_dict_pairs (a.han hhn) (.inr ht) ⟨by rw[p2];simp,fun j k v e=>by simpa using p3 j k v e⟩ (by rw[p1.length];exact hz) fun h' tk hd hk hs=>?_)
 exact newDict_post (tk:=(tk,s.drawn)) p R q hk hs (Nat.le_refl _) hd (PairsR.puts p1 rfl .nil)
end
end Mine
namespace Mine
variable [Membership Addr Zip0]
theorem layNew_led (t:SetTable)(es:Array (Int×Value))(h:Int)(x:Value):(layNew t es h x).2.1.led=t.led:=by
 have key:∀ (t:SetTable) n,(t.orStandIn n).led=t.led:=fun t n=>by
  unfold SetTable.orStandIn
  split <;> rfl
 unfold layNew
 split
 · rename_i slot wd e
   show ((t.put slot).1.orStandIn _).led=t.led
   rw[key];rfl
 · rfl
theorem laid_led {mask finger moves:Nat}{led plain:Bool}{hashes:Array Int}{t:SetTable}{o:Array Nat}(h:SetTable.laid mask finger moves led plain hashes=some (t,o)):t.led=led∧t.plain=plain:=by
 unfold SetTable.laid at h
 cases e:SetTable.layClean mask hashes with
 | none=>rw[e] at h;cases h
 | some owner=>rw[e] at h;cases h;exact⟨rfl,rfl⟩
theorem relayAll_led (t:SetTable)(es:Array (Int×Value))(n:Nat):(relayAll t es n).2.1.led=t.led∧(t.plain=false→(relayAll t es n).2.1.plain=false):=by
 unfold relayAll
 split
 · rename_i t' order e
   unfold SetTable.relaid at e
   obtain ⟨a,b⟩:=laid_led e
   dsimp only
   split
   · exact⟨a,fun q=>b.trans q⟩
   · exact⟨rfl,fun _=>rfl⟩
 · exact⟨rfl,fun _=>rfl⟩
section
variable {prog:Program}{w:World}{A:Around}{E:VP}{s:Shared}
theorem SetS.keep {h h':Heap}{a:Addr}{es:Array (Int×Value)}{led:Bool}(x:SetS prog w h a es led)(k:∀ o,h.get? a=some o→h'.get? a=some o):SetS prog w h' a es led:=el62 (x) fun o ep t e r=>⟨o,ep,t,k _ e,r⟩
theorem setS_store {h:Heap}{a:Addr}{o:Obj}{es es':Array (Int×Value)}{ep:Nat}{t t':SetTable}{led:Bool}(ho:h.get? a=some o)(hex:o.ExactSet)(hd:o.data=.set es ep t)(hel:ElemsOf (strKind prog w) es'.toList)(hb:es'.size<scanBound)
 (hf:t'.fits es'.size=true) (hl:t'.led=led) (hp:t'.plain=false):(h.update a (Obj.putSet es' t')).get? a=some { o with data:=.set es' (ep+1) t' }∧SetS prog w (h.update a (Obj.putSet es' t')) a es' led:=by
 have e:=putSet_of es' t' hd
 have g:(h.update a (Obj.putSet es' t')).get? a=some { o with data:=.set es' (ep+1) t' }:=by
  rw[← e];exact Heap.get?_update_self _ ho (by rw[e];rfl)
 exact⟨g,_,_,_,g,hex,rfl,hel,hb,hf,hl,fun _=>hp⟩
theorem add_str {a:Addr}{es:Array (Int×Value)}{led:Bool}{k:Str}{tk:Tok}{Q:Bool→Shared→Prop}(hS:SetS prog w s.heap a es led)(hroom:es.size+1<scanBound)
 (h:∀ b h' es',Heap.SameBut a s.heap h'→SetS prog w h' a es' led→(if es.toList.any (fun e=>(strKind prog w).is k e.2) then es'=es else es'.toList.Perm (es.toList++[((strKind prog w).hash k,.str k tk)]))→Q b { s with heap:=h' }) :
 wpAny (model prog w) A (setAddHashed a (.str k tk) ((strKind prog w).hash k)) Q E s:=by
 have hkey:=strKind_is prog w k tk
 have hsc:(Value.str k tk).scannable=true:=rfl
 have hS0:=hS
 refine el22 hS ?_;(try clear hS);intro o ep t ho hex hd hel hb hf hl hp
 unfold setAddHashed setAddHashedIn
 refine wpAny_holding (wpAny_bind (wpAny_setState_of ho hd hf ?_))
 dsimp only
 rw[byScan_of hsc hb hel]
 simp only[↓reduceIte]
 unfold setAddByScan
 refine wpAny_bind ?_
 refine wpAny_bind (wpAny_rule ?_)
 refine wpAny_bind (wpAny_setScan_of hkey ho hd hf hel ?_)
 cases hr:List.findIdx? (fun e=>(strKind prog w).is k e.2) es.toList with
 | some j=>
  dsimp only
  refine el75 (List.findIdx?_eq_some_iff_getElem.mp hr) ?_;intro hj hpj _
  have hany:es.toList.any (fun e=>(strKind prog w).is k e.2)=true:=List.any_eq_true.mpr ⟨_,List.getElem_mem hj,hpj⟩
  refine wpAny_pure (wpAny_pure ?_)
  have:=h false s.heap es (Heap.SameBut.refl ..) hS0
  rw[if_pos hany] at this
  exact this rfl
 | none=>
  dsimp only
  have hany:es.toList.any (fun e=>(strKind prog w).is k e.2)=false:=by
   rw[List.any_eq_false]
   intro e he
   have:=List.findIdx?_eq_none_iff.mp hr e he
   simp [this]
  have hgw:∀ (b:Bool) {s₁:Shared}{Q':UP},Q' () s₁→wpAny (model prog w) A (match b with | true=>rule "set.scan.the-table-gave-way" | false=>pure ()) Q' E s₁:=
   fun b s₁ Q' hq=>by cases b <;> first | exact wpAny_pure hq | exact wpAny_rule hq
  have hperm:=layNew_perm t es ((strKind prog w).hash k) (.str k tk)
  have hfits:=layNew_fits t es ((strKind prog w).hash k) (.str k tk)
  have hled:=layNew_led t es ((strKind prog w).hash k) (.str k tk)
  generalize hL:layNew t es ((strKind prog w).hash k) (.str k tk)=L at hperm hfits hled ⊢
  obtain ⟨es1,t1,wasDummy,gave⟩:=L
  dsimp only at hperm hfits hled ⊢
  rw[Array.toList_push] at hperm
  have hel1:ElemsOf (strKind prog w) es1.toList:=(hel.push hkey hsc).perm hperm
  have hb1':es1.size<scanBound:=by rw[← Array.length_toList,hperm.length_eq,List.length_append,Array.length_toList];simpa using hroom
  refine wpAny_bind (hgw _ ?_)
  have tail:∀ {g:Bool→Sem Unit} (hg:∀ (b:Bool) (s₁:Shared) (Q':UP),Q' () s₁→wpAny (model prog w) A (g b) Q' E s₁) (t2:SetTable),t2.fits es1.size=true→t2.led=led→t2.plain=false→wpAny (model prog w) A (do
   storeSet a es1 t2
   if (!wasDummy&&t2.tooFull)=true then do
    g (relayAll t2 es1 (SetTable.grown es1.size)).2.2
    storeSet a (relayAll t2 es1 (SetTable.grown es1.size)).1 (relayAll t2 es1 (SetTable.grown es1.size)).2.1
    pure (some true)
    else pure (some true)) (fun (r:Option Bool) s'=>wpAny (model prog w) A (match r with | some added=>pure added | none=>setAddHashedIn a (.str k tk) ((strKind prog w).hash k) 99999) Q E s') E s:=fun {g} hg t2 f2 l2 p2=>by
   refine wpAny_bind (wpAny_storeSet_of ho hd ?_ (fits_of_scanBound hb1'))
   obtain ⟨ho1,hS1⟩:=setS_store (prog:=prog) (w:=w) ho hex hd hel1 hb1' f2 l2 p2
   have hsb1:=Heap.SameBut.update s.heap a (Obj.putSet es1 t2)
   split
   · have hp2:=relayAll_perm t2 es1 (SetTable.grown es1.size)
     have hfr:=relayAll_fits t2 es1 (SetTable.grown es1.size)
     obtain ⟨hl2,hpl2⟩:=relayAll_led t2 es1 (SetTable.grown es1.size)
     generalize hRl:relayAll t2 es1 (SetTable.grown es1.size)=Rl at hp2 hfr hl2 hpl2 ⊢
     obtain ⟨es2,t3,gave2⟩:=Rl
     dsimp only at hp2 hfr hl2 hpl2 ⊢
     have hsz:es2.size=es1.size:=by rw[← Array.length_toList,hp2.length_eq,Array.length_toList]
     refine wpAny_bind (hg _ _ _ ?_)
     refine wpAny_bind (wpAny_storeSet_of ho1 rfl ?_ (fits_of_scanBound (by rw[hsz];exact hb1')))
     obtain ⟨_,hS2⟩:=setS_store (prog:=prog) (w:=w) ho1 hex rfl (hel1.perm hp2) (by rw[hsz];exact hb1') hfr (hl2.trans l2) (hpl2 p2)
     refine wpAny_pure (wpAny_pure ?_)
     have:=h true _ es2 (hsb1.trans (Heap.SameBut.update _ a _)) hS2
     rw[hany] at this
     simp only[Bool.false_eq_true,if_false] at this
     exact this (hp2.trans hperm)
   · refine wpAny_pure (wpAny_pure ?_)
     have:=h true _ es1 hsb1 hS1
     rw[hany] at this
     simp only[Bool.false_eq_true,if_false] at this
     exact this hperm
  split
  · refine wpAny_bind ?_
    rw[show hashByValue 8 (.str k tk)=pure false from rfl]
    refine wpAny_pure ?_
    simp only[Bool.false_eq_true,if_false]
    exact tail (fun b s₁ Q' hq=>by cases b <;> first | exact wpAny_pure hq | exact wpAny_rule hq) { t1 with plain:=false } (SetTable.fits_plain_off hfits) (hled.trans hl) rfl
  · rename_i hpl
    refine wpAny_bind (wpAny_pure ?_)
    simp only[↓reduceIte]
    exact tail (fun b s₁ Q' hq=>by cases b <;> first | exact wpAny_pure hq | exact wpAny_rule hq) t1 hfits (hled.trans hl) (by simpa using hpl)
end
end Mine
namespace Mine
variable [Membership Addr Zip0]
noncomputable def dedupS:List Str→List Str→List Str
 | acc,[]=>acc
 | acc,k::r=>dedupS (if acc.contains k then acc else acc++[k]) r
theorem strsAre_append:∀ {a b:List Value}{x y:List Str},StrsAre a x→StrsAre b y→StrsAre (a++b) (x++y)
 | _,_,_,_,.nil,h=>h
 | _,_,_,_,.cons x t r,h=>.cons x t (strsAre_append r h)
theorem strsAre_perm {a b:List Value}(p:a.Perm b):∀ {x:List Str},StrsAre a x→∃ y,StrsAre b y∧y.Perm x:=by
 induction p with
 | nil=>exact fun h=>⟨_,h,.refl _⟩
 | cons v _ ih=>
  intro x h
  cases h with
  | cons k t r=>refine el75 (ih r) ?_;intro y h1 h2;exact⟨_,.cons k t h1,h2.cons k⟩
 | swap u v l=>
  intro x h
  cases h with
  | cons k t r=>cases r with | cons k' t' r=>exact⟨_,.cons k' t' (.cons k t r),.swap ..⟩
 | trans _ _ ih1 ih2=>
  intro x h
  refine el75 (ih1 h) ?_;intro y h1 h2
  refine el75 (ih2 h1) ?_;intro z h3 h4
  exact⟨z,h3,h4.trans h2⟩
theorem strsAre_mem {k:Str}:∀ {a:List Value}{x:List Str},StrsAre a x→(a.any (fun v=>Value.isStrOf k v)=true ↔ k∈x)
 | _,_,.nil=>by simp
 | _,_,.cons x t r=>by
  have ih:=strsAre_mem (k:=k) r
  rw[List.any_cons,Bool.or_eq_true,ih,List.mem_cons]
  refine or_congr ?_ .rfl
  show (Value.isStrOf k (.str x t))=true ↔ _
  constructor
  · intro h
    obtain ⟨u,e⟩:=Value.isStrOf_shape h
    cases e;rfl
  · rintro rfl
    simp [Value.isStrOf]
section
variable {prog:Program}{w:World}{A:Around}{E:VP}{s:Shared}
theorem set_loop {S I a:Addr}{xs:Array Value}{led:Bool}(hh:A.handled=none)(hSI:S≠I)(hSa:S≠a){R:RP}{vs:List Value}{ss:List Str}(r:StrsAre vs ss):∀ (i:Nat) (es:Array (Int×Value)) (ks:List Str) (s:Shared),SeqIt s.heap I a xs i→xs.toList.drop i=vs→SetS prog w s.heap S es led→KeysAre es ks→es.size+ss.length<4000 →
 (∀ h' tk es',SetS prog w h' S es' led→KeysAre es' (dedupS ks ss)→(∀ b o,b≠S→b≠I→s.heap.get? b=some o→h'.get? b=some o)→R (.ok (.ret .none)) { s with heap:=h',toks:=tk }) →
 codeAny (model prog w) A (.builtin "set.update.loop" ⟨[.ref S,.ref I],[]⟩) R s:=by
 induction r with
 | nil=>
  intro i es ks s it e hS hk hz h
  refine codeAny_builtin F.entry_set_update_loop ?_
  show wpAny _ _ (pyNext (.ref I) >>= _) _ _ s
  refine wpAny_bind (next_seq_end hh it (by rw[← Array.getElem?_toList];exact List.getElem?_eq_none (List.drop_eq_nil_iff.mp e)) fun h' x=>wpAny_pure ?_)
  exact h h' s.toks es (hS.keep fun o e=>x S o hSI e) hk fun b o _ hb e=>x b o hb e
 | @cons k t vs ss r ih=>
  intro i es ks s it e hS hk hz h
  obtain ⟨e1,e2⟩:=drop_get e
  refine codeAny_builtin F.entry_set_update_loop ?_
  show wpAny _ _ (pyNext (.ref I) >>= _) _ _ s
  refine wpAny_bind (next_seq it (by rw[← Array.getElem?_toList];exact e1) fun h1 it1 hs1=>?_)
  show wpAny _ _ (holding [.str k t] (setAdd S (.str k t)) >>= _) _ _ _
  refine wpAny_bind (wpAny_holding ?_)
  unfold setAdd
  refine wpAny_holding ?_
  refine wpAny_bind ((strKind prog w).pyHash (k:=k) (strKind_is _ _ _ _) ?_)
  simp only[List.length_cons] at hz
  refine add_str (s:={ s with heap:=h1,toks:=s.toks+1 }) (hS.keep fun o e=>(hs1.2 S hSI).trans e) (by unfold scanBound;lia) fun b h2 es2 hs2 hS2 hes=>?_
  refine wpAny_pure ⟨plainId_quiet F.plain_set_update_loop _,?_⟩
  refine el75 hk ?_;(try clear hk);intro ks' hk1 hk2
  have hany:es.toList.any (fun e=>(strKind prog w).is k e.2)=ks.contains k:=by
   have:=strsAre_mem (k:=k) hk1
   rw[List.any_map] at this
   rw[Bool.eq_iff_iff,List.contains_iff_mem]
   exact this.trans hk2.mem_iff
  have hk':KeysAre es2 (if ks.contains k then ks else ks++[k])∧es2.size≤es.size+1:=by
   rw[hany] at hes
   by_cases q:ks.contains k=true
   · rw[if_pos q] at hes ⊢
     subst hes
     exact⟨⟨ks',hk1,hk2⟩,Nat.le_succ _⟩
   · rw[if_neg q] at hes ⊢
     refine⟨?_,?_⟩
     · have p2:=hes.symm.map (·.2)
       rw[List.map_append] at p2
       refine el75 (strsAre_perm p2 (strsAre_append hk1 (.cons k t .nil))) ?_;intro y y1 y2
       exact⟨y,y1,y2.trans (hk2.append_right _)⟩
     · rw[← Array.length_toList,hes.length_eq,List.length_append,Array.length_toList];simp
  refine ih (i+1) es2 _ _ (seqIt_keep it1 (fun o e=>(hs2.2 I hSI.symm).trans e) fun o e=>(hs2.2 a hSa.symm).trans e) e2 hS2 hk'.1 (by have:=hk'.2;lia) fun h' tk es' a1 a2 a3=>h h' tk es' a1 a2 fun b o b1 b2 e=>a3 b o b1 b2 ((hs2.2 b b1).trans ((hs1.2 b b2).trans e))
theorem code_set_new_led (a:Value){Q₁:VP}
 (h:Q₁ (.ref s.heap.objs.size) { s with heap:=s.heap.push { cls:=.type "set",dict:=none,data:=.set #[] 0 (.fresh 0 0 (!byText w)) } }) :
 codeAny (model prog w) A (.call (.builtin "set.__new__") ⟨[.type "set",a],[]⟩) (wants Q₁ E) s:=by
 refine codeAny_of_tree ?_
 show wpAny _ A.in1 (do checkBuiltinCall "set.__new__" ⟨[.type "set",a],[]⟩;again (.builtin "set.__new__" ⟨[.type "set",a],[]⟩)) _ _ s
 refine wpAny_bind (wpAny_of_eq (F.newCall_set_1 a) (wpAny_pure ⟨plainId_quiet F.plain_set_new _,codeAny_builtin F.entry_set_new ?_⟩))
 rw[Around.under_plainId F.plain_set_new _]
 unfold Builtin.«set.__new__» Builtin.Frozenset.newClass
 have hsub:=sub_set_self
 obtain ⟨hp,g,d,tk,os⟩:=s
 dsimp only
 wp_walk
 refine wpAny_askSetting (wpAny_pure ?_)
 dsimp only
 simp only[newObj]
 refine wpAny_bind (wpAny_alloc (wpAny_pure ?_))
 exact wpAny_pure h
end
end Mine
namespace Mine
variable [Membership Addr Zip0]
section
variable {prog:Program}{w:World}{A:Around}{E:VP}{s:Shared}
set_option maxHeartbeats 3200000 in
theorem call_set_strs {l:Addr}{items:Array Value}{ss:List Str}{Q:VP}
 (hh:A.handled=none) (hl:s.heap.IsList l items) (hi:StrsAre items.toList ss) (hb:ss.length<3000)
 (h:∀ (h':Heap) (tk:Nat) es,SetS prog w h' s.heap.objs.size es (!byText w)→KeysAre es (dedupS [] ss)→(∀ b o,s.heap.get? b=some o→h'.get? b=some o)→Q (.ref s.heap.objs.size) { s with heap:=h',toks:=tk }) :
 wpAny (model prog w) A (call (.type "set") [.ref l]) Q E s:=by
 refine el76 F.called_set.mro ?_;intro c tl hmro
 have hmade:=F.called_set.made
 have hsub:=F.called_set.sub
 refine wpAny_call (codeAny_of_tree ?_)
 show wpAny _ _ (callAny (.type "set") _) _ _ _
 refine wpAny_pure ⟨Code.quiet_builtin _ (by decide +kernel),codeAny_builtin F.entry_type_call ?_⟩
 rw[Around.under_plain (weight_type_call_type "set" [.ref l] []) rfl]
 have h1:=F.called_set.notType
 have h2:=F.called_set.canCreate
 have hct:=F.typeCall_set_1 (.ref l)
 repeat (any_goals (first | assumption | wp_step))
 refine codeAny_mono (code_set_new_led (.ref l) (E:=E) (Q₁:=fun obj s₁=>obj=.ref s.heap.objs.size∧s₁={ s with heap:=s.heap.push { cls:=.type "set",dict:=none,data:=.set #[] 0 (.fresh 0 0 (!byText w)) } }) ⟨rfl,rfl⟩) fun r s₁ hr=>?_
 cases r with
 | error e=>exact hr
 | ok fl=>
  cases fl with
  | ret obj=>
   obtain ⟨rfl,rfl⟩:=hr
   generalize hled:(!byText w)=led at *
   have hS:(s.heap.push { cls:=.type "set",dict:=none,data:=.set #[] 0 (.fresh 0 0 led) }).get? s.heap.objs.size=some { cls:=.type "set",dict:=none,data:=.set #[] 0 (.fresh 0 0 led) }:=Heap.get?_push_size _ rfl
   have hT:Shared.TypeIs { s with heap:=s.heap.push { cls:=.type "set",dict:=none,data:=.set #[] 0 (.fresh 0 0 led) } } (.ref s.heap.objs.size) "set":=⟨_,hS,rfl⟩
   have hli:=F.called_set.init.lookup
   have hbi:=F.called_set.init.bind (.ref s.heap.objs.size)
   repeat (any_goals (first | assumption | wp_step))
   refine codeAny_mono (codeAny_call_builtin (R:=wants (fun r s₂=>r=.none∧∃ h' tk es,s₂={ s with heap:=h',toks:=tk }∧SetS prog w h' s.heap.objs.size es led∧KeysAre es (dedupS [] ss) ∧
    (∀ b o,s.heap.get? b=some o→h'.get? b=some o)) E) F.called_set.init.plain F.entry_set_init (check_set_init_1 hT ?_)) fun r₂ s₂ hr₂=>?_
   · refine el64 hl ?_;(try clear hl);intro ol hol hcl nl hdl
     obtain ⟨ocls,odict,odata,oslots⟩:=ol
     simp only at hcl hdl
     subst hcl;subst hdl
     have hol':(s.heap.push { cls:=.type "set",dict:=none,data:=.set #[] 0 (.fresh 0 0 led) }).get? l=some { cls:=.type "list",dict:=odict,data:=.seq items nl,slots:=oslots }:=Heap.get?_push_of_some _ hol
     have hsls:=F.sub_list_set
     have hslf:=F.sub_list_frozenset
     have hne:(Value.type "list"==Value.type "dict")=false:=by decide
     have hl1:(s.heap.push { cls:=.type "set",dict:=none,data:=.set #[] 0 (.fresh 0 0 led) }).IsList l items:=⟨_,hol',rfl,nl,rfl⟩
     unfold Builtin.«set.__init__» noKeywords Builtin.Frozenset.updateFrom
     generalize hPI:pyIter=PI
     wp_walk
     subst hPI
     refine wpAny_pyIter_list hl1 ?_
     refine wpAny_bind (wpAny_runValue ?_)
     have hlS:l<s.heap.objs.size:=Heap.lt_size hol
     have hh3:A.in1.in1.in1.handled=none:=by simp [hh]
     refine set_loop (A:=A.in1.in1) (I:=(s.heap.push { cls:=.type "set",dict:=none,data:=.set #[] 0 (.fresh 0 0 led) }).objs.size) (a:=l) (xs:=items) (led:=led) hh (by rw[Heap.size_push];exact Nat.ne_of_lt (Nat.lt_succ_self _)) (Nat.ne_of_gt hlS) hi 0 #[] [] _ (by exact .inl ⟨⟨_,Heap.get?_push_size _ rfl,rfl,rfl⟩,hl1.push _⟩) (by simp) ?_ ⟨[],.nil,.nil⟩ (by simp;exact nle (by assumption) (by rfl)) fun h' tk es' a1 a2 a3=>?_
     · exact⟨_,0,_,Heap.get?_push_of_some _ hS,⟨rfl,rfl,rfl⟩,rfl,fun e he=>by simp at he,by decide,rfl,rfl,fun q=>absurd rfl q⟩
     · show wpAny _ _ _ _ _ _
       refine wpAny_pure ?_
       show wpAny _ _ (ret Value.none) _ _ _
       refine wpAny_pure ⟨rfl,h',tk,es',rfl,a1,a2,fun b o e=>a3 b o (Nat.ne_of_lt (Heap.lt_size e)) (by rw[Heap.size_push];exact Nat.ne_of_lt (Nat.lt_succ_of_lt (Heap.lt_size e))) (Heap.get?_push_of_some _ (Heap.get?_push_of_some _ e))⟩
   · cases r₂ with
     | error e=>exact hr₂
     | ok fl₂=>
      cases fl₂ with
      | ret r=>
       refine el43 hr₂ ?_;(try clear hr₂);intro ze215 h' tk es ze216 a1 a2 a3;subst ze215;subst ze216
       repeat (any_goals (first | assumption | wp_step))
       exact h _ _ _ a1 a2 a3
      | _=>exact hr₂.elim
  | _=>exact hr.elim
end
end Mine
namespace Mine
variable [Membership Addr Zip0]
theorem erase_perm {α:Type}:∀ {l:List α}{i:Nat} (h:i<l.length),(l[i]::l.eraseIdx i).Perm l
 | x::l,0,h=>by simp
 | x::l,i+1,h=>by
  simp only[List.getElem_cons_succ,List.eraseIdx_cons_succ]
  exact (List.Perm.swap ..).trans ((erase_perm (l:=l) (i:=i) (by simpa using h)).cons x)
theorem pick_go {α:Type}(f:Nat→Nat):∀ (n k:Nat) (left:List α) (out:Array α),n=left.length→(pickOrder.go f n k left out).toList.Perm (out.toList++left)
 | 0,k,left,out,h=>by
  have:left=[]:=List.eq_nil_of_length_eq_zero h.symm
  subst this
  show out.toList.Perm (out.toList++[])
  rw[List.append_nil]
 | n+1,k,left,out,h=>by
  show (match left[f k % left.length]? with | some x=>pickOrder.go f n (k+1) (left.eraseIdx (f k % left.length)) (out.push x) | none=>out).toList.Perm _
  have hlt:f k % left.length<left.length:=Nat.mod_lt _ (by lia)
  rw[List.getElem?_eq_getElem hlt]
  dsimp only
  refine (pick_go f n (k+1) _ _ (by rw[List.length_eraseIdx_of_lt hlt];lia)).trans ?_
  rw[Array.toList_push,List.append_assoc]
  refine List.Perm.append_left _ ?_
  exact (erase_perm hlt)
theorem pick_perm {α:Type}(f:Nat→Nat)(xs:Array α):(pickOrder f xs).toList.Perm xs.toList:=by
 have:=pick_go f xs.size 0 xs.toList #[] (by simp)
 rw[Array.toList_empty,List.nil_append] at this
 exact this
section
variable {prog:Program}{w:World}{A:Around}{E:VP}{s:Shared}
theorem choose_ {n:Nat}{src:Source}{Q:Nat→Shared→Prop}(hn:n≠0)(h:∀ i dr,i<n→Q i { s with drawn:=dr }):wpAny (model prog w) A (choose src n) Q E s:=fun Γ p hΓ=>⟨hn,h _ _ (Nat.mod_lt _ (Nat.pos_of_ne_zero hn))⟩
theorem draw_order {α:Type}:∀ (xs:List α) (s:Shared) (Q:List α→Shared→Prop),(∀ ys dr,ys.Perm xs→Q ys { s with drawn:=dr })→wpAny (model prog w) A (drawOrder xs.length xs) Q E s
 | [],s,Q,h=>wpAny_pure (h [] s.drawn .nil)
 | x::xs,s,Q,h=>by
  show wpAny _ _ (do
   let i ← choose .order (x::xs).length
   match (x::xs)[i]? with
   | some x'=>return x'::(← drawOrder xs.length ((x::xs).eraseIdx i))
   | none=>unsupported "internal:drawOrder") Q E s
  refine wpAny_bind (choose_ (by simp) fun i dr hi=>?_)
  rw[List.getElem?_eq_getElem hi]
  dsimp only
  have hl:((x::xs).eraseIdx i).length=xs.length:=by rw[List.length_eraseIdx_of_lt hi];simp
  refine wpAny_bind ?_
  rw[← hl]
  exact draw_order ((x::xs).eraseIdx i) { s with drawn:=dr } _ fun ys dr' hp=>wpAny_pure (h _ dr' ((hp.cons _).trans (erase_perm hi)))
 termination_by xs=>xs.length
 decreasing_by rw[List.length_eraseIdx_of_lt hi];simp
theorem setDrawn_eq (a:Addr):setDrawn a=(do let (es,_,t) ← setState a;let b ← setsByText;return !b&&(!t.plain&&es.size>1)):=rfl
theorem setNext_eq (a:Addr)(slot given epochThen:Nat):setNext a slot given epochThen=(do
 let (es,epoch,t) ← setState a
 if ← setsByText then
  if epoch != epochThen then unsupported "set_iterator.__next__:elements-changed"
  return ((← setWalk a)[given]?).map fun e=>(e.2,slot)
 if !t.plain&&es.size>1 then unsupported "set_iterator.__next__:the-table-is-plain-no-more"
 let _ ← (show Sem Unit from if !t.led&&!es.isEmpty then unsupported "set:maker-not-led" else pure ())
 let i:=SetTable.below t.place slot
 return match es[i]?,t.place[i]? with
  | some (_,x),some j=>some (x,j+1)
  | _,_=>none):=rfl
theorem byText_ {Q:Bool→Shared→Prop}(h:Q (byText w) s):wpAny (model prog w) A setsByText Q E s:=by
 unfold setsByText
 exact wpAny_bind (wpAny_askSetting (wpAny_pure h))
theorem setWalk_text {a:Addr}{es:Array (Int×Value)}{ep:Nat}{t:SetTable}{o:Obj}{Q:Array (Int×Value)→Shared→Prop}(hb:byText w=true)(ho:s.heap.get? a=some o)(hd:o.data=.set es ep t)(hf:t.fits es.size=true)
 (h:Q (pickOrder (w.params.setOrder a ep) es) s):wpAny (model prog w) A (setWalk a) Q E s:=by
 unfold setWalk
 refine wpAny_bind (wpAny_setState_of ho hd hf ?_)
 refine wpAny_bind (byText_ ?_)
 rw[hb]
 exact wpAny_bind (wpAny_askSetting (wpAny_pure h))
noncomputable def SIter (w:World)(h:Heap)(I S:Addr)(rest:List Value):Prop:=∃ (o:Obj) (es:Array (Int×Value)) (ep:Nat) (t:SetTable) (first:Value) (i:Nat),h.get? S=some o∧o.cls=.type "set"∧o.data=.set es ep t∧t.fits es.size=true ∧
 h.get? I=some { cls:=.type "set_iterator",data:=.fields #[first,rawInt i,.ref S,rawInt es.size,rawInt ep] } ∧
 ((byText w=true∧(∃ n:Nat,first=rawInt n)∧rest=((pickOrder (w.params.setOrder S ep) es).toList.map (·.2)).drop i) ∨
  (byText w=false∧(t.led=true∨es.size=0)∧((es.size=0∧rest=[]∧first=rawInt (0:Nat))∨(∃ e j,es=#[e]∧t.place=#[j]∧((rest=[e.2]∧first=rawInt (0:Nat))∨(rest=[]∧first=rawInt ((j+1:Nat):Int)))))) ∨
  (∃ (T:Addr) (places:List Nat),first=.ref T∧h.IsTuple T (places.map fun (p:Nat)=>rawInt (p:Int)).toArray∧(∀ p∈places,p<es.size)∧rest=(places.drop i).filterMap fun p=>es[p]?.map (·.2)))
end
end Mine
namespace Mine
variable [Membership Addr Zip0]
section
variable {prog:Program}{w:World}{A:Around}{E:VP}{s:Shared}
theorem entry_set_iter:entryFor table "set.__iter__"=some Builtin.«frozenset.__iter__»:=
 entryFor_alias (id':="frozenset.__iter__") (by kernel_rfl) rfl (by decide +kernel) (by kernel_rfl)
theorem slot_siter_next:Slot "set_iterator" "__next__" "set_iterator.__next__":=
 .of (owner:="set_iterator") (n:="__next__") (by rw[typeLookup_type,builtinLookup_eq_fast];kernel_rfl) (by decide +kernel) (by decide +kernel) (by decide +kernel)
  (by first | exact .inl (by decide +kernel) | exact .inr (by decide +kernel)) (by rw[isSubtype_type];kernel_rfl)
theorem entry_siter_next:entryFor table "set_iterator.__next__"=some Builtin.«set_iterator.__next__»:=entryFor_of_tree (by kernel_rfl)
theorem args_siter_next (a:Value):argsOk "set_iterator.__next__" ⟨[a],[]⟩:=by unfold argsOk;kernel_rfl
theorem args_set_iter (a:Value):argsOk "set.__iter__" ⟨[a],[]⟩:=by unfold argsOk;kernel_rfl
theorem below_one (j k:Nat):SetTable.below #[j] k=if j<k then 1 else 0:=by
 show (if (0:Nat)<1 then (let mid:=(0+1) / 2;if #[j].getD mid k<k then SetTable.below.go #[j] k 0 (mid+1) 1 else SetTable.below.go #[j] k 0 0 mid) else 0)=_
 rw[if_pos Nat.one_pos]
 rfl
theorem perm_filterMap {α β:Type}{a b:List α}(p:a.Perm b)(f:α→Option β):(a.filterMap f).Perm (b.filterMap f):=p.filterMap f
theorem setIter_ {S:Addr}{es:Array (Int×Value)}{Q:VP}(hS:SetS prog w s.heap S es (!byText w))
 (h:∀ I rest h' dr,rest.Perm (es.toList.map (·.2))→SIter w h' I S rest→s.heap.objs.size≤I→(∀ b o,s.heap.get? b=some o→h'.get? b=some o)→Q (.ref I) { s with heap:=h',drawn:=dr }) :
 wpAny (model prog w) A (pyIter (.ref S)) Q E s:=by
 refine el22 hS ?_;(try clear hS);intro o ep t ho hex hd hel hb hf hl hp
 have hT:s.TypeIs (.ref S) "set":=⟨o,ho,hex.1⟩
 refine wpAny_pyIter_slot hT F.slot_set_iter (wpAny_call_entry F.slot_set_iter hT entry_set_iter ?_ (args_set_iter _))
 show wpAny _ _ (do
  let n ← Builtin.Frozenset.sizeOf S
  let first ← if ← setDrawn S then newTuple ((← drawOrder n (List.range n)).map fun (i:Nat)=>rawInt i) else pure (rawInt 0)
  ret (← newFields "set_iterator" [first,rawInt 0,.ref S,rawInt n,rawInt (← setEpoch S)])) _ _ _
 unfold Builtin.Frozenset.sizeOf
 refine wpAny_bind (wpAny_bind (wpAny_setEntries_of ho hd hf (wpAny_pure ?_)))
 rw[setDrawn_eq]
 refine wpAny_bind (wpAny_bind (wpAny_setState_of ho hd hf (wpAny_bind (byText_ (wpAny_pure ?_)))))
 have fin:∀ (first:Value) (h1:Heap) (dr:Drawn) rest,(∀ b o,s.heap.get? b=some o→h1.get? b=some o)→s.heap.objs.size≤h1.objs.size→rest.Perm (es.toList.map (·.2))→(∀ h2,(∀ b o,h1.get? b=some o→h2.get? b=some o)→h2.get? h1.objs.size=some { cls:=.type "set_iterator",data:=.fields #[first,rawInt (0:Nat),.ref S,rawInt es.size,rawInt ep] }→SIter w h2 h1.objs.size S rest) →
  wpAny (model prog w) A.in1 (do ret (← newFields "set_iterator" [first,rawInt 0,.ref S,rawInt es.size,rawInt (← setEpoch S)])) (fun fin s'=>∃ v,fin=.done (.ret v)∧∃ T' r,s'.TypeIs v T'∧typeLookup (.type T') "__next__"=pure (some r)∧Q v s') E { s with heap:=h1,drawn:=dr }:=fun first h1 dr rest hk hs hr hi=>by
  refine wpAny_bind (wpAny_setEpoch_of (s:={ s with heap:=h1,drawn:=dr }) (hk _ _ ho) hd hf ?_)
  refine wpAny_bind (wpAny_newObj_type (wpAny_pure ⟨_,rfl,"set_iterator",_,⟨_,Heap.get?_push_size _ rfl,rfl⟩,slot_siter_next.lookup,?_⟩))
  exact h _ rest _ dr hr (hi _ (fun b o e=>Heap.get?_push_of_some _ e) (Heap.get?_push_size _ rfl)) hs fun b o e=>Heap.get?_push_of_some _ (hk b o e)
 cases hbt:byText w with
 | true=>
  rw[if_neg (by simp)]
  refine wpAny_bind (wpAny_pure ?_)
  exact fin _ s.heap s.drawn ((pickOrder (w.params.setOrder S ep) es).toList.map (·.2)) (fun _ _ e=>e) (Nat.le_refl _) ((pick_perm _ es).map _) fun h2 hk hI=>⟨o,es,ep,t,_,0,hk _ _ ho,hex.1,hd,hf,hI,.inl ⟨hbt,⟨0,rfl⟩,by simp⟩⟩
 | false=>
  rw[hbt] at hl
  by_cases h2:es.size≤1
  · rw[if_neg (by simp;lia)]
    refine wpAny_bind (wpAny_pure ?_)
    refine fin _ s.heap s.drawn (es.toList.map (·.2)) (fun _ _ e=>e) (Nat.le_refl _) (.refl _) fun h2' hk hI=>⟨o,es,ep,t,_,0,hk _ _ ho,hex.1,hd,hf,hI,.inr (.inl ⟨hbt,.inl hl,?_⟩)⟩
    have hps:t.place.size=es.size:=by
     simp only[SetTable.fits,Bool.and_eq_true,beq_iff_eq] at hf;exact hf.1
    rcases Nat.lt_or_ge 0 es.size with h3 | h3
    · have h4:es.size=1:=by lia
      obtain ⟨e,he⟩:∃ e,es=#[e]:=⟨es[0],by apply Array.ext;simp [h4];intro i h1 h2;simp at h2;subst h2;rfl⟩
      obtain ⟨j,hj⟩:∃ j,t.place=#[j]:=⟨t.place[0],by apply Array.ext;simp [hps,h4];intro i h1 h2;simp at h2;subst h2;rfl⟩
      exact .inr ⟨e,j,he,hj,.inl ⟨by rw[he];rfl,rfl⟩⟩
    · have h4:es.size=0:=by lia
      have:es=#[]:=Array.eq_empty_of_size_eq_zero h4
      subst this
      exact .inl ⟨rfl,rfl,rfl⟩
  · have hpl:t.plain=false:=hp (by lia)
    rw[if_pos (by simp [hpl];lia)]
    refine wpAny_bind ?_
    have hrange:(List.range es.size).length=es.size:=by simp
    have dw:wpAny (model prog w) A.in1 (drawOrder es.size (List.range es.size)) (fun ys s'=>∃ dr,s'={ s with drawn:=dr }∧ys.Perm (List.range es.size)) E s:=by
     have:=draw_order (prog:=prog) (w:=w) (A:=A.in1) (E:=E) (List.range es.size) s (fun ys s'=>∃ dr,s'={ s with drawn:=dr }∧ys.Perm (List.range es.size)) fun ys dr hp=>⟨dr,rfl,hp⟩
     rwa [hrange] at this
    refine wpAny_mono dw (fun ys s' zu42=>?_) fun _ _ z=>z
    refine el75 zu42 ?_;(try clear zu42);intro dr e hperm
    subst e
    have hlen:ys.length=es.size:=by rw[hperm.length_eq];simp
    refine wpAny_bind (wpAny_newTuple ?_ (by rw[List.length_map,hlen];exact fits_of_scanBound hb))
    have hy:∀ p∈ys,p<es.size:=fun p hp=>by simpa using hperm.mem_iff.mp hp
    refine fin _ (s.heap.push { cls:=.type "tuple",data:=.seq (ys.map fun (i:Nat)=>rawInt (i:Int)).toArray }) dr (ys.filterMap fun p=>es[p]?.map (·.2)) (fun b o e=>Heap.get?_push_of_some _ e) (by rw[Heap.size_push];exact Nat.le_succ _) ?_ fun h2' hk hI=>⟨o,es,ep,t,_,0,hk _ _ (Heap.get?_push_of_some _ ho),hex.1,hd,hf,hI,.inr (.inr ⟨_,ys,rfl,⟨_,hk _ _ (Heap.get?_push_size _ rfl),rfl,_,rfl⟩,hy,by simp⟩)⟩
    refine (perm_filterMap hperm _).trans ?_
    have:(List.range es.size).filterMap (fun p=>es[p]?.map (·.2))=es.toList.map (·.2):=by
     have h1:=filterMap_getElem?_range es
     rw[← h1,List.map_filterMap]
    rw[this]
end
end Mine
namespace Mine
variable [Membership Addr Zip0]
section
variable {prog:Program}{w:World}{A:Around}{E:VP}{s:Shared}
theorem siter_eq (a:Value):Builtin.«set_iterator.__next__» ⟨[a],[]⟩=(do
 let [first,.int i _,s,.int size _,.int epoch _]:=(← fieldsOf a).toList | unsupported "internal:set_iterator"
 let .ref a':=s | rule "set_iterator.__next__.exhausted-before";raiseNew (← newExc (.type "StopIteration") [])
 if ((← setEntries a').size:Int) != size then
  rule "set_iterator.__next__.size-changed"
  setField a 3 (rawInt (-1))
  raiseError "RuntimeError" "Set changed size during iteration"
 if let .int slot _:=first then
  match ← setNext a' slot.toNat i.toNat epoch.toNat with
  | some (x,next)=>
   setField a 0 (rawInt next)
   setField a 1 (rawInt (i+1))
   ret x
  | none=>setField a 2 .none;raiseNew (← newExc (.type "StopIteration") [])
 else
  let some places ← seqItems? first | unsupported "internal:set_iterator"
  match places[i.toNat]? with
  | some (.int place _)=>
   let x ← setNextDrawn a' place.toNat epoch.toNat
   setField a 1 (rawInt (i+1))
   ret x
  | some _=>unsupported "internal:set_iterator"
  | none=>setField a 0 (rawInt 0);setField a 2 .none;raiseNew (← newExc (.type "StopIteration") [])):=rfl
theorem fieldsOf_ {a:Addr}{o:Obj}{vs:Array Value}{Q:Array Value→Shared→Prop}(ho:s.heap.get? a=some o)(hd:o.data=.fields vs)(h:Q vs s):wpAny (model prog w) A (fieldsOf (.ref a)) Q E s:=by
 unfold fieldsOf
 refine wpAny_bind (wpAny_load ho ?_)
 rw[hd];exact wpAny_pure h
theorem siter_turn {I S:Addr}{x:Value}{rest:List Value}{Q:VP}(it:SIter w s.heap I S (x::rest))(h:∀ h',SIter w h' I S rest→Heap.SameBut I s.heap h'→Q x { s with heap:=h' }) :
 wpAny (model prog w) A (Builtin.«set_iterator.__next__» ⟨[.ref I],[]⟩) (fun fin s'=>∃ v,fin=.done (.ret v)∧Q v s') E s:=by
 refine el16 it ?_;(try clear it);intro o es ep t first i ho hc hd hf hI cs
 have hne:S≠I:=fun q=>by
  subst q;obtain rfl:=uq ho hI;exact absurd hc (show Value.type "set_iterator"≠.type "set" by decide)
 rw[siter_eq]
 refine wpAny_bind (fieldsOf_ hI rfl ?_)
 dsimp only[rawInt]
 refine wpAny_bind (wpAny_setEntries_of ho hd hf ?_)
 rw[if_neg (by simp)]
 have put:∀ (fs:Array Value) (k:Nat) (v:Value) (h1:Heap) (Q':UP),h1.get? I=some { cls:=.type "set_iterator",data:=.fields fs }→k<fs.size→(∀ h2,h2.get? I=some { cls:=.type "set_iterator",data:=.fields (fs.setIfInBounds k v) }→Heap.SameBut I h1 h2→Q' () { s with heap:=h2 }) →
  wpAny (model prog w) A (setField (.ref I) k v) Q' E { s with heap:=h1 }:=fun fs k v h1 Q' e hk hq=>wpAny_setField_rec (s:={ s with heap:=h1 }) e hk hq
 rcases cs with ⟨hb,⟨n,rfl⟩,hr⟩ | ⟨hb,hl,hr⟩ | ⟨T,places,rfl,hT,hp,hr⟩
 · obtain ⟨e1,e2⟩:=drop_get hr.symm
   dsimp only[rawInt]
   rw[setNext_eq]
   refine wpAny_bind (wpAny_bind (wpAny_setState_of ho hd hf ?_))
   dsimp only
   refine wpAny_bind (byText_ ?_)
   rw[if_pos hb,if_neg (by simp)]
   refine wpAny_bind (setWalk_text hb ho hd hf (wpAny_pure ?_))
   have e3:(pickOrder (w.params.setOrder S ep) es)[(i:Int).toNat]?.map (fun e=>(e.2,((n:Int).toNat)))=some (x,n):=by
    rw[List.getElem?_map] at e1
    simp only[Int.toNat_natCast]
    rw[← Array.getElem?_toList]
    cases q:(pickOrder (w.params.setOrder S ep) es).toList[i]? with
    | none=>rw[q] at e1;cases e1
    | some y=>rw[q] at e1;simp at e1;simp [e1]
   rw[e3]
   dsimp only
   refine wpAny_bind (put _ 0 _ s.heap _ hI (by simp) fun h1 g1 s1=>wpAny_bind (put _ 1 _ h1 _ g1 (by simp) fun h2 g2 s2=>wpAny_pure ⟨_,rfl,?_⟩))
   refine h h2 ⟨o,es,ep,t,.int (n:Int) 0,i+1,(s2.2 S hne).trans ((s1.2 S hne).trans ho),hc,hd,hf,?_,.inl ⟨hb,⟨n,rfl⟩,?_⟩⟩ (s1.trans s2)
   · simpa [rawInt] using g2
   · rw[← e2]
 · rcases hr with ⟨_,h1,_⟩ | ⟨e,j,he,hj,⟨hr,hfst⟩ | ⟨hr,_⟩⟩
   · cases h1
   · subst hfst
     obtain ⟨rfl,rfl⟩:=List.cons.inj hr
     have hled:t.led=true:=hl.resolve_right (by rw[he];simp)
     dsimp only[rawInt]
     rw[setNext_eq]
     refine wpAny_bind (wpAny_bind (wpAny_setState_of ho hd hf ?_))
     dsimp only
     refine wpAny_bind (byText_ ?_)
     rw[if_neg (by rw[hb];simp),if_neg (by rw[he];simp)]
     refine wpAny_bind ?_
     show wpAny _ _ (if (!t.led&&!es.isEmpty)=true then unsupported "set:maker-not-led" else pure ()) _ _ _
     rw[if_neg (by simp [hled])]
     refine wpAny_pure (wpAny_pure ?_)
     have hbel:SetTable.below t.place (Int.toNat ((0:Nat):Int))=0:=by rw[hj];rw[below_one];simp
     rw[hbel,he,hj]
     simp only[List.getElem?_toArray,List.getElem?_cons_zero]
     refine wpAny_bind (put _ 0 _ s.heap _ hI (by simp) fun h1 g1 s1=>wpAny_bind (put _ 1 _ h1 _ g1 (by simp) fun h2 g2 s2=>wpAny_pure ⟨_,rfl,?_⟩))
     refine h h2 ⟨o,es,ep,t,.int ((j+1:Nat):Int) 0,i+1,(s2.2 S hne).trans ((s1.2 S hne).trans ho),hc,hd,hf,?_,.inr (.inl ⟨hb,hl,.inr ⟨e,j,he,hj,.inr ⟨rfl,rfl⟩⟩⟩)⟩ (s1.trans s2)
     simpa [rawInt] using g2
   · cases hr
 · refine el64 (id hT) ?_;intro o' ho' hc' n' hd'
   have hTI:T≠I:=fun q=>by
    subst q;obtain rfl:=uq ho' hI;exact absurd hc' (show Value.type "set_iterator"≠.type "tuple" by decide)
   have hi:i<places.length:=by
    rcases Nat.lt_or_ge i places.length with q | q
    · exact q
    · rw[List.drop_eq_nil_of_le q] at hr;cases hr
   have hpl:places[i]<es.size:=hp _ (List.getElem_mem hi)
   have hdrop:places.drop i=places[i]::places.drop (i+1):=List.drop_eq_getElem_cons hi
   rw[hdrop,List.filterMap_cons_some (b:=es[places[i]].2) (by rw[Array.getElem?_eq_getElem hpl];rfl)] at hr
   obtain ⟨hx,hr'⟩:=List.cons.inj hr
   subst hx
   dsimp only
   refine wpAny_bind (wpAny_seqItems ho' hd' ?_)
   dsimp only
   have e3:((places.map fun (p:Nat)=>rawInt (p:Int)).toArray)[(i:Int).toNat]?=some (.int (places[i]:Int) 0):=by
    simp [hi,rawInt]
   rw[e3]
   dsimp only
   have e4:wpAny (model prog w) A (setNextDrawn S (Int.toNat (places[i]:Int)) (Int.toNat (ep:Int))) (fun v s'=>v=es[places[i]].2∧s'=s) E s:=by
    unfold setNextDrawn
    refine wpAny_bind (wpAny_setState_of ho hd hf ?_)
    dsimp only
    rw[if_neg (by simp)]
    simp only[Int.toNat_natCast]
    rw[Array.getElem?_eq_getElem hpl]
    exact wpAny_pure ⟨rfl,rfl⟩
   refine wpAny_bind (wpAny_mono e4 (fun v s' zu43=>?_) fun _ _ z=>z)
   obtain ⟨q1,q2⟩:=zu43
   subst q1 q2
   refine wpAny_bind (put _ 1 _ s'.heap _ hI (by simp) fun h2 g2 s2=>wpAny_pure ⟨_,rfl,?_⟩)
   refine h h2 ⟨o,es,ep,t,.ref T,i+1,(s2.2 S hne).trans ho,hc,hd,hf,?_,.inr (.inr ⟨T,places,rfl,⟨o',(s2.2 T hTI).trans ho',hc',n',hd'⟩,hp,hr'⟩)⟩ s2
   simpa [rawInt] using g2
theorem stop_ {B:Around}(hh:B.handled=none){P:Shared→Prop}(h:∀ h' e,(∀ b o,s.heap.get? b=some o→h'.get? b=some o)→(∃ o,h'.get? e=some o∧o.cls=.type "StopIteration")→P { s with heap:=h' }){Q':PySem.Fin→Shared→Prop}{E':VP}(hE:∀ e s',P s'→(∃ o,s'.heap.get? e=some o∧o.cls=.type "StopIteration")→E' (.ref e) s') :
 wpAny (model prog w) B (do raiseNew (← newExc (.type "StopIteration") [])) Q' E' s:=by
 refine wpAny_bind ?_
 simp only[newExc,newTuple]
 refine wpAny_bind (wpAny_newObj_type ?_ (by size_fits))
 refine wpAny_bind (m:=firstArgMember _ _) (wpAny_of_eq (a:=Value.none) (by first | rfl | (simp only[firstArgMember];rfl)) ?_)
 refine wpAny_newObj_type ?_ (by size_fits)
 delta raiseNew
 dsimp only
 refine wpAny_bind (wpAny_handled ?_)
 rw[hh]
 refine wpAny_bind (wpAny_pure (wpAny_throw ?_))
 exact hE _ _ (h _ _ (fun b o e=>Heap.get?_push_of_some _ (Heap.get?_push_of_some _ e)) ⟨_,Heap.get?_push_size _ rfl,rfl⟩) ⟨_,Heap.get?_push_size _ rfl,rfl⟩
theorem siter_end {I S:Addr}{P:Shared→Prop}{Q':PySem.Fin→Shared→Prop}{E':VP}(hh:A.handled=none)(it:SIter w s.heap I S [])(h:∀ h',Heap.ExtBut I s.heap h'→P { s with heap:=h' })(hE:∀ e s',P s'→(∃ o,s'.heap.get? e=some o∧o.cls=.type "StopIteration")→E' (.ref e) s') :
 wpAny (model prog w) A (Builtin.«set_iterator.__next__» ⟨[.ref I],[]⟩) Q' E' s:=by
 refine el16 it ?_;(try clear it);intro o es ep t first i ho hc hd hf hI cs
 rw[siter_eq]
 refine wpAny_bind (fieldsOf_ hI rfl ?_)
 dsimp only[rawInt]
 refine wpAny_bind (wpAny_setEntries_of ho hd hf ?_)
 rw[if_neg (by simp)]
 have tail:∀ (h1:Heap),Heap.SameBut I s.heap h1→wpAny (model prog w) A (do raiseNew (← newExc (.type "StopIteration") [])) Q' E' { s with heap:=h1 }:=fun h1 s1=>
  stop_ (s:={ s with heap:=h1 }) hh (P:=P) (fun h' e hk _=>h h' fun b o hb e=>hk b o ((s1.2 b hb).trans e)) hE
 rcases cs with ⟨hb,⟨n,rfl⟩,hr⟩ | ⟨hb,hl,hr⟩ | ⟨T,places,rfl,hT,hp,hr⟩
 · dsimp only[rawInt]
   rw[setNext_eq]
   refine wpAny_bind (wpAny_bind (wpAny_setState_of ho hd hf ?_))
   dsimp only
   refine wpAny_bind (byText_ ?_)
   rw[if_pos hb,if_neg (by simp)]
   refine wpAny_bind (setWalk_text hb ho hd hf (wpAny_pure ?_))
   have e3:(pickOrder (w.params.setOrder S ep) es)[(i:Int).toNat]?=none:=by
    simp only[Int.toNat_natCast]
    have h1:=List.drop_eq_nil_iff.mp hr.symm
    rw[List.length_map] at h1
    rw[← Array.getElem?_toList]
    exact List.getElem?_eq_none h1
   rw[e3]
   dsimp only[Option.map_none]
   exact wpAny_bind (wpAny_setField_rec hI (by simp) fun h1 g1 s1=>tail h1 s1)
 · have key:∃ n:Nat,first=rawInt (n:Int)∧es[SetTable.below t.place n]?=none:=by
    rcases hr with ⟨h0,_,hfst⟩ | ⟨e,j,he,hj,⟨hr,_⟩ | ⟨_,hfst⟩⟩
    · refine⟨0,hfst,?_⟩
      have:es=#[]:=Array.eq_empty_of_size_eq_zero h0
      subst this;simp
    · cases hr
    · refine⟨j+1,hfst,?_⟩
      rw[he,hj,below_one,if_pos (Nat.lt_succ_self _)]
      simp
   refine el75 key ?_;(try clear key);intro n ze217 key;subst ze217
   dsimp only[rawInt]
   rw[setNext_eq]
   refine wpAny_bind (wpAny_bind (wpAny_setState_of ho hd hf ?_))
   dsimp only
   refine wpAny_bind (byText_ ?_)
   have hsz:es.size≤1:=by
    rcases hr with ⟨h0,_⟩ | ⟨e,j,he,_⟩
    · lia
    · rw[he];simp
   rw[if_neg (by rw[hb];simp),if_neg (by simp;intro _;assumption)]
   refine wpAny_bind ?_
   show wpAny _ _ (if (!t.led&&!es.isEmpty)=true then unsupported "set:maker-not-led" else pure ()) _ _ _
   rw[if_neg (by
    rcases hl with h1 | h1
    · simp [h1]
    · have:es=#[]:=Array.eq_empty_of_size_eq_zero h1
      simp [this])]
   refine wpAny_pure (wpAny_pure ?_)
   simp only[Int.toNat_natCast]
   rw[key]
   dsimp only
   exact wpAny_bind (wpAny_setField_rec hI (by simp) fun h1 g1 s1=>tail h1 s1)
 · refine el64 (id hT) ?_;intro o' ho' hc' n' hd'
   have hi:places.length≤i:=by
    rcases Nat.lt_or_ge i places.length with q | q
    · exfalso
      have hpl:places[i]<es.size:=hp _ (List.getElem_mem q)
      rw[List.drop_eq_getElem_cons q,List.filterMap_cons_some (b:=es[places[i]].2) (by rw[Array.getElem?_eq_getElem hpl];rfl)] at hr
      cases hr
    · exact q
   dsimp only
   refine wpAny_bind (wpAny_seqItems ho' hd' ?_)
   dsimp only
   have e3:((places.map fun (p:Nat)=>rawInt (p:Int)).toArray)[(i:Int).toNat]?=none:=by simp [hi]
   rw[e3]
   dsimp only
   exact wpAny_bind (wpAny_setField_rec hI (by simp) fun h1 g1 s1=>wpAny_bind (wpAny_setField_rec (s:={ s with heap:=h1 }) g1 (by simp) fun h2 g2 s2=>tail h2 (s1.trans s2)))
theorem siter_next {I S:Addr}{x:Value}{rest:List Value}{Q:Option Value→Shared→Prop}(it:SIter w s.heap I S (x::rest))(h:∀ h',SIter w h' I S rest→Heap.SameBut I s.heap h'→Q (some x) { s with heap:=h' }) :
 wpAny (model prog w) A (pyNext (.ref I)) Q E s:=by
 have it0:=it
 refine el16 it0 ?_;(try clear it0);intro o es ep t first i ho hc hd hf hI cs
 have hT:s.TypeIs (.ref I) "set_iterator":=⟨_,hI,rfl⟩
 unfold pyNext
 exact wpAny_bind (wpAny_attempt (wpAny_callSpecial?_slot (name:=Str.ofString "__next__") hT slot_siter_next
  (wpAny_call_entry slot_siter_next hT entry_siter_next (siter_turn it fun h' a b=>wpAny_pure (h h' a b)) (args_siter_next _))))
theorem siter_stop {I S:Addr}{Q:Option Value→Shared→Prop}(hh:A.handled=none)(it:SIter w s.heap I S [])(h:∀ h',Heap.ExtBut I s.heap h'→Q none { s with heap:=h' }) :
 wpAny (model prog w) A (pyNext (.ref I)) Q E s:=by
 have it0:=it
 refine el16 it0 ?_;(try clear it0);intro o es ep t first i ho hc hd hf hI cs
 have hT:s.TypeIs (.ref I) "set_iterator":=⟨_,hI,rfl⟩
 unfold pyNext
 refine wpAny_bind (wpAny_attempt (wpAny_callSpecial?_slot (name:=Str.ofString "__next__") hT slot_siter_next
  (wpAny_call_entry slot_siter_next hT entry_siter_next (siter_end (P:=fun s'=>Q none s') hh it h fun e s' hq ⟨o,e1,e2⟩=>?_) (args_siter_next _))))
 exact wpAny_bind (wpAny_isInstance (T:="StopIteration") (b:=true) ⟨o,e1,e2⟩ isSubtype_stop (wpAny_pure hq))
end
end Mine
namespace Mine
variable [Membership Addr Zip0]
section
variable {prog:Program}{w:World}{A:Around}{E:VP}{s:Shared}
theorem SIter.keep {h h':Heap}{I S:Addr}{rest:List Value}{S':Addr}(x:SIter w h I S rest)(k:∀ b o,b≠S'→h.get? b=some o→h'.get? b=some o)(hI:I≠S')(hS:S≠S')(hL:∃ xs n,h.get? S'=some { cls:=.type "list",data:=.seq xs n }):SIter w h' I S rest:=by
 refine el16 x ?_;(try clear x);intro o es ep t first i ho hc hd hf hi cs
 refine⟨o,es,ep,t,first,i,k S o hS ho,hc,hd,hf,k I _ hI hi,cs.imp id fun c=>c.imp id fun ⟨T,places,e,⟨o',e',hc',r⟩,r'⟩=>⟨T,places,e,⟨o',k T o' (fun q=>?_) e',hc',r⟩,r'⟩⟩
 subst q
 refine el76 hL ?_;(try clear hL);intro xs n e2
 obtain rfl:=uq e' e2
 exact absurd hc' (show Value.type "list"≠.type "tuple" by decide)
theorem ext_loop {D I S:Addr}{res:Value}(hh:A.handled=none)(hDI:D≠I)(hDS:D≠S){R:RP}:∀ (rest:List Value) (acc:Array Value) (c:Nat) (s:Shared),SIter w s.heap I S rest→s.heap.get? D=some { cls:=.type "list",data:=.seq acc c }→acc.size+rest.length≤4000 →
 (∀ h' acc' c',h'.get? D=some { cls:=.type "list",data:=.seq acc' c' }→acc'.toList=acc.toList++rest→(∀ b o,b≠D→b≠I→s.heap.get? b=some o→h'.get? b=some o)→R (.ok (.ret res)) { s with heap:=h' }) →
 codeAny (model prog w) A (.builtin "list.extend.loop" ⟨[.ref D,.ref I,res],[]⟩) R s
 | [],acc,c,s,it,hD,hz,h=>by
  refine codeAny_builtin F.entry_extend_loop ?_
  rw[Around.under_plainId F.plain_extend_loop _]
  show wpAny _ A.in1 (pyNext (.ref I) >>= _) _ _ s
  refine wpAny_bind (siter_stop hh it fun h' x=>wpAny_pure ?_)
  exact h h' acc c (x D _ hDI hD) (by simp) fun b o _ hb e=>x b o hb e
 | v::rest,acc,c,s,it,hD,hz,h=>by
  simp only[List.length_cons] at hz
  refine codeAny_builtin F.entry_extend_loop ?_
  rw[Around.under_plainId F.plain_extend_loop _]
  show wpAny _ A.in1 (pyNext (.ref I) >>= _) _ _ s
  refine wpAny_bind (siter_next it fun h1 it1 hs1=>?_)
  have hD1:h1.get? D=some { cls:=.type "list",data:=.seq acc c }:=(hs1.2 D hDI).trans hD
  show wpAny _ A.in1 (updateSeq D (·.push v) >>= _) _ _ _
  refine wpAny_bind ?_
  refine wpAny_updateSeq (s:={ s with heap:=h1 }) hD1 rfl (wpAny_pure ⟨plainId_quiet F.plain_extend_loop _,?_⟩) (by rw[sizeLine_is];lia) (by show (acc.push v).size≤_;rw[Array.size_push,sizeLine_is];lia)
  have hs2:Heap.SameBut D h1 (h1.update D (Obj.mapSeq (·.push v))):=.update ..
  refine ext_loop hh hDI hDS rest (acc.push v) _ _ (it1.keep (S':=D) (fun b o hb e=>(hs2.2 b hb).trans e) hDI.symm hDS.symm ⟨_,_,hD1⟩) (Heap.get?_update_self _ hD1 rfl) (by rw[Array.size_push];lia) fun h' acc' c' a1 a2 a3=>h h' acc' c' a1 (by rw[a2];simp) fun b o b1 b2 e=>a3 b o b1 b2 ((hs2.2 b b1).trans ((hs1.2 b b2).trans e))
theorem len_set_lk:typeLookup (.type "set") "__len__"=pure (some (.builtin "set.__len__")):=by rw[typeLookup_type,builtinLookup_eq_fast];kernel_rfl
theorem hint_set {r:Addr}(hT:s.TypeIs (.ref r) "set"){Q:Bool→Shared→Prop}(h:Q false s):wpAny (model prog w) A (Builtin.List.listLengthHint (.ref r)) Q E s:=by
 unfold Builtin.List.listLengthHint
 refine wpAny_bind (wpAny_specialOf hT len_set_lk ?_)
 generalize hid:("set.__len__" : String)=id0
 wp_delta
 rw[show splitId id0=some ("set","__len__") from by subst hid;decide +kernel]
 subst hid
 refine wpAny_bind (wpAny_isInstance (T:="set") (b:=true) hT (by rw[isSubtype_type];kernel_rfl) ?_)
 refine wpAny_ite_split (fun hab=>absurd hab (by decide)) (fun _=>?_)
 refine wpAny_ite_split (fun _=>?_) (fun hab=>absurd (by decide +kernel) hab)
 refine wpAny_bind (wpAny_typeOf hT ?_)
 exact wpAny_pure h
theorem collect_set {S:Addr}{es:Array (Int×Value)}{ks:List Str}{Q:List Value→Shared→Prop}(hh:A.handled=none)(hS:SetS prog w s.heap S es (!byText w))(hk:KeysAre es ks)(hz:ks.length<3000)
 (h:∀ vs ss h' dr,StrsAre vs ss→ss.Perm ks→(∀ b o,s.heap.get? b=some o→h'.get? b=some o)→Q vs { s with heap:=h',drawn:=dr }):wpAny (model prog w) A (collect (.ref S)) Q E s:=by
 have hS0:=hS
 refine el22 hS0 ?_;(try clear hS0);intro o ep t ho hex hd hel hb hf hl hp
 have hslt:S<s.heap.objs.size:=Heap.lt_size ho
 unfold collect
 refine wpAny_bind (wpAny_runValue (codeAny_builtin F.entry_proto_collect ?_))
 rw[Around.under_plainId F.plain_proto_collect _]
 show wpAny _ A.in1 (newList [] >>= fun l=>again (.builtin "list.__iadd__" ⟨[l,.ref S],[]⟩)) _ _ s
 refine wpAny_bind (wpAny_newObj_type ?_ (by size_fits))
 refine wpAny_pure ⟨plainId_quiet F.plain_list_iadd _,codeAny_builtin F.entry_list_iadd ?_⟩
 rw[Around.under_plainId F.plain_list_iadd _]
 have hk1:∀ b o,s.heap.get? b=some o→(s.heap.push { cls:=.type "list",data:=.seq ([]:List Value).toArray }).get? b=some o:=fun b o e=>Heap.get?_push_of_some _ e
 have hS₁:(s.heap.push { cls:=.type "list",data:=.seq ([]:List Value).toArray }).get? s.heap.objs.size=some { cls:=.type "list",data:=.seq ([]:List Value).toArray }:=Heap.get?_push_size _ rfl
 have hSI:s.heap.objs.size≠S:=Nat.ne_of_gt hslt
 show wpAny _ A.in1 (Builtin.List.listExtendWith (.ref s.heap.objs.size) (.ref S) (.ref s.heap.objs.size)) _ _ _
 unfold Builtin.List.listExtendWith
 refine wpAny_bind (wpAny_typeOf (T:="set") ⟨o,hk1 _ _ ho,hex.1⟩ ?_)
 have h1:Builtin.List.listSameRef (.ref s.heap.objs.size) (.ref S)=false:=by simp [Builtin.List.listSameRef,hSI]
 have h2:(Value.type "set"==Value.type "list")=false:=by decide
 have h3:(Value.type "set"==Value.type "tuple")=false:=by decide
 simp only[h1,h2,h3,Bool.or_false,Bool.false_eq_true,if_false]
 refine wpAny_bind (setIter_ (s:={ s with heap:=s.heap.push { cls:=.type "list",data:=.seq ([]:List Value).toArray } }) (hS.keep fun o e=>hk1 _ _ e) fun I rest h2 dr hr it hI hk2=>?_)
 have ho2:=hk2 _ _ (hk1 _ _ ho)
 refine wpAny_bind (wpAny_holding ?_)
 refine hint_set ⟨o,ho2,hex.1⟩ ?_
 show wpAny _ A.in1 (rule "list.extend.makes-room" >>= fun _=>Builtin.List.listTouch (.ref s.heap.objs.size) >>= fun _=>
  again (.builtin "list.extend.loop" ⟨[.ref s.heap.objs.size,.ref I,.ref s.heap.objs.size],[]⟩)) _ _ _
 refine wpAny_bind (wpAny_rule ?_)
 have hD2:=hk2 _ _ hS₁
 refine wpAny_bind ?_
 show wpAny _ A.in1 (updateSeq s.heap.objs.size (·.push .none) >>= fun _=>updateSeq s.heap.objs.size (·.pop)) _ _ _
 refine wpAny_bind (wpAny_updateSeq (s:={ s with heap:=h2,drawn:=dr }) hD2 rfl ?_)
 have hS₂:=Heap.get?_update_self (Obj.mapSeq (·.push Value.none)) hD2 rfl
 refine wpAny_updateSeq (s:={ s with heap:=h2.update s.heap.objs.size (Obj.mapSeq (·.push Value.none)),drawn:=dr }) hS₂ rfl ?_
 have hS₃:=Heap.get?_update_self (Obj.mapSeq (·.pop)) hS₂ rfl
 have hDI:s.heap.objs.size≠I:=by
  have:(s.heap.push { cls:=.type "list",data:=.seq ([]:List Value).toArray }).objs.size=s.heap.objs.size+1:=Heap.size_push ..
  have hI':s.heap.objs.size+1≤I:=by rw[← this];exact hI
  exact Nat.ne_of_lt hI'
 have oth:∀ b o,b≠s.heap.objs.size→h2.get? b=some o→((h2.update s.heap.objs.size (Obj.mapSeq (·.push Value.none))).update s.heap.objs.size (Obj.mapSeq (·.pop))).get? b=some o:=
  fun b o hb e=>(Heap.get?_update_other _ _ (Ne.symm hb)).trans ((Heap.get?_update_other _ _ (Ne.symm hb)).trans e)
 refine el75 hk ?_;(try clear hk);intro ks' k1 k2
 refine el75 (strsAre_perm hr.symm k1) ?_;intro ss s1 s2
 have hrl:rest.length<3000:=by rw[StrsAre.length s1,(s2.trans k2).length_eq];exact hz
 refine wpAny_pure ⟨plainId_quiet F.plain_extend_loop _,ext_loop (A:=A) hh hDI hSI rest #[] _ _ (it.keep (S':=s.heap.objs.size) (fun b o hb e=>oth b o hb e) hDI.symm hSI.symm ⟨_,_,hD2⟩) hS₃ (by simp;exact nlh (by assumption) (by rfl)) fun h' acc' c' a1 a2 a3=>?_⟩
 show wpAny _ A (load s.heap.objs.size >>= _) _ _ _
 refine wpAny_bind (wpAny_load a1 ?_)
 refine wpAny_pure ?_
 have:=h rest ss h' dr s1 (s2.trans k2) fun b o e=>a3 b o (Nat.ne_of_lt (Heap.lt_size e)) (fun q=>by
  subst q
  have:(s.heap.push { cls:=.type "list",data:=.seq ([]:List Value).toArray }).objs.size=s.heap.objs.size+1:=Heap.size_push ..
  have hI':s.heap.objs.size+1≤b:=by rw[← this];exact hI
  exact absurd (Heap.lt_size e) (Nat.not_lt.mpr (Nat.le_of_succ_le hI'))) (oth b o (Nat.ne_of_lt (Heap.lt_size e)) (hk2 _ _ (hk1 _ _ e)))
 rw[show acc'.toList=rest by simpa using a2]
 exact this
end
end Mine
namespace Mine
variable [Membership Addr Zip0]
section
variable {prog:Program}{w:World}{A:Around}{E:VP}{s:Shared}
theorem sortedHeap_at {h:Heap}{a:Addr}{vs:List Value}{n:Nat}(out:Array Value)(ho:h.get? a=some (seqObj "list" vs.toArray n)):(∃ e,(sortedHeap h a vs out).get? a=some (seqObj "list" out e))∧(∀ b o,b≠a→h.get? b=some o→(sortedHeap h a vs out).get? b=some o)∧h.objs.size≤(sortedHeap h a vs out).objs.size:=by
 have ha:a<h.objs.size:=Heap.lt_size ho
 obtain ⟨e1,ho1⟩:∃ e1,(h.update a (Obj.mapSeq fun _=>#[])).get? a=some (seqObj "list" #[] e1):=⟨_,get?_update_seq ho (fun _=>#[])⟩
 have ho6:(((h.update a (Obj.mapSeq fun _=>#[])).push (seqObj "tuple" vs.toArray 0)).push (seqObj "list" #[] 0)).get? a=some (seqObj "list" #[] e1):=Heap.get?_push_of_some _ (Heap.get?_push_of_some _ ho1)
 refine⟨⟨_,get?_update_seq ho6 fun _=>out⟩,fun b o hb e=>?_,?_⟩
 · refine (Heap.get?_update_other _ _ (Ne.symm hb)).trans (Heap.get?_push_of_some _ (Heap.get?_push_of_some _ ((Heap.get?_update_other _ _ (Ne.symm hb)).trans e)))
 · unfold sortedHeap
   rw[Heap.size_update,Heap.size_push,Heap.size_push,Heap.size_update];lia
theorem sort_new {vs:List Value}{ss:List Str}{n:Nat}{a:Addr}{Q:VP}(ho:s.heap.get? a=some (seqObj "list" vs.toArray n))(hS:StrsAre vs ss)(h64:vs.length<64)
 (h:∀ out ss' h' e,StrsAre out.toList ss'→ss'.Perm ss→sortedS ss'=true→h'.get? a=some (seqObj "list" out e)→(∀ b o,b≠a→s.heap.get? b=some o→h'.get? b=some o)→s.heap.objs.size≤h'.objs.size→Q .none { s with heap:=h' }) :
 wpAny (model prog w) A (call (.builtin "list.sort") [.ref a]) Q E s:=by
 refine wpAny_call_entry slot_list_sort ⟨_,ho,rfl⟩ entry_list_sort (list_sort_treeK strKind_oneLt ho hS.keysOf (fun v₁ v₂ rest e=>keyKind_strs (by rw[← e];exact hS)) h64 fun st' hp hs=>⟨_,rfl,?_⟩) (args_list_sort _)
 refine el70 (sorted_out_str hS hp hs) ?_;intro ss' h1 h2 h3
 refine el59 (sortedHeap_at (vs:=vs) ((arrOf st').map (·.2)) ho) ?_;intro e g1 g2 g3
 exact h _ ss' _ e h1 h2 h3 g1 g2 g3
theorem call_sorted_set {S:Addr}{es:Array (Int×Value)}{ks:List Str}{Q:VP}(hh:A.handled=none)(hS:SetS prog w s.heap S es (!byText w))(hk:KeysAre es ks)(hz:ks.length<60)
 (h:∀ D xs ss h' dr e,StrsAre xs.toList ss→ss.Perm ks→sortedS ss=true→s.heap.objs.size≤D→h'.get? D=some (seqObj "list" xs e)→(∀ b o,s.heap.get? b=some o→h'.get? b=some o)→Q (.ref D) { s with heap:=h',drawn:=dr }) :
 wpAny (model prog w) A (call (.builtin "sorted") [.ref S]) Q E s:=by
 refine Calls.call_function_entry kind_sorted plain_sorted entry_sorted (args_sorted1 _) ?_
 unfold Builtin.«sorted»
 refine wpAny_bind (m:=checkCount "sorted" 1 1 _) (wpAny_pure ?_)
 refine wpAny_bind (sized (collect_set (A:=A.in1) hh hS hk (by exact nle (by assumption) (by rfl)) fun vs ss h1 dr s1 s2 hk1 hsz=>?_))
 have hl:vs.length<60:=by rw[StrsAre.length s1,s2.length_eq];exact hz
 refine wpAny_bind (wpAny_newList ?_ (by rw[sizeLine_is];exact nlh (by assumption) (by rfl)))
 have hoL:(h1.push (seqObj "list" vs.toArray 0)).get? h1.objs.size=some (seqObj "list" vs.toArray 0):=Heap.get?_push_size _ rfl
 refine wpAny_bind (wpAny_holding (sort_new (s:={ s with heap:=h1.push (seqObj "list" vs.toArray 0),drawn:=dr }) hoL s1 (by exact nle (by assumption) (by rfl)) fun out ss' h' e a1 a2 a3 a4 a5 a6=>?_))
 refine wpAny_pure ⟨_,rfl,?_⟩
 refine h h1.objs.size out ss' h' dr e a1 (a2.trans s2) a3 hsz a4 fun b o eb=>a5 b o (fun q=>?_) (Heap.get?_push_of_some _ (hk1 b o eb))
 subst q
 exact absurd (Heap.lt_size eb) (Nat.not_lt.mpr hsz)
end
section
variable {c:Cx}{N:Lv}{env:Env}{ρ:Rho}{σ:Sig}{Q:PV}{X:PX}
noncomputable def okS (k:Str):Prop:=k.length≤1000000∧PyData.strOk k=true
theorem strs_of {h:Heap}:∀ {ss:List Str}{xs:List Value},VRs h (ss.map .str) xs→StrsAre xs ss
 | [],xs,r=>by simp only[List.map_nil,ju1,ju2] at r;subst r;exact .nil
 | k::ss,xs,r=>by
  simp only[List.map_cons,ju1,ju2,jt1,jt2,jt3,jt4,jt5,jt6] at r
  refine el35 r ?_;(try clear r);intro x r' ze218 _ t ze219 r2;subst ze218;subst ze219
  exact .cons k t (strs_of r2)
theorem vrs_of_strs {h:Heap}:∀ {xs:List Value}{ss:List Str},StrsAre xs ss→(∀ k∈ss,okS k)→VRs h (ss.map .str) xs
 | _,_,.nil,_=>.nil
 | _,_,.cons k t r,hk=>.cons (by simp only[jt1,jt2,jt3,jt4,jt5,jt6];exact⟨hk k (.head _),t,rfl⟩) (vrs_of_strs r fun x hx=>hk x (.tail _ hx))
theorem fresh_of {h:Heap}(R:Rel c σ h){D:Addr}(hD:h.objs.size≤D):σ D=none:=by
 cases e:σ D with
 | none=>rfl
 | some m=>exact absurd (R.lt (a:=D) (by rw[e];simp)) (Nat.not_lt.mpr hD)
theorem B_set {d:Addr}{ss:List Str}(hhn:N.hn=true)(e:LR c σ d (ss.map .str))(q:∀ D,σ D=none→Q (.raw (.ref D)) (upd σ D (.set (dedupS [] ss))))(hz:ss.length<3000):CallOp c N σ (.type "set") [.raw (.ref d)] Q X:=fun A s QQ EE ys a R r p xp=>by
 simp only[ju1,ju2] at r
 refine el61 r ?_;(try clear r);intro x _ ze220 r ze221;subst ze220;subst ze221
 simp only[jt1,jt2,jt3,jt4,jt5,jt6] at r;subst r
 refine el75 (e.real R) ?_;intro xs hx r
 refine sized (call_set_strs (a.han hhn) hx (strs_of r) hz fun h' tk es a1 a2 hk hs=>?_)
 have f:=fresh_of R (Nat.le_refl _)
 exact p (.raw (.ref s.heap.objs.size)) _ (upd σ s.heap.objs.size (.set (dedupS [] ss))) h' (tk,s.drawn) (q _ f) (by simp only[jt1,jt2,jt3,jt4,jt5,jt6]) ((R.grow hk hs).add R.size ⟨es,a1,a2⟩) (ext_grow hk hs) (.upd (.inr (Nat.le_refl _)))
theorem B_sorted_set {S:Addr}{ks:List Str}(hhn:N.hn=true)(e:σ S=some (.set ks))(hok:∀ k∈ks,okS k)(q:∀ ss,ss.Perm ks→sortedS ss=true→∀ D,σ D=none→Q (.raw (.ref D)) (upd σ D (.list (ss.map .str))))(hz:ks.length<60):CallOp c N σ (.builtin "sorted") [.raw (.ref S)] Q X:=fun A s QQ EE ys a R r p xp=>by
 simp only[ju1,ju2] at r
 refine el61 r ?_;(try clear r);intro x _ ze222 r ze223;subst ze222;subst ze223
 simp only[jt1,jt2,jt3,jt4,jt5,jt6] at r;subst r
 refine el75 ((R.obj S _ e).2) ?_;intro es hS hk
 refine sized (call_sorted_set (a.han hhn) hS hk hz fun D xs ss h' dr e' s1 s2 s3 hD g hk hs=>?_)
 have f:=fresh_of R hD
 exact p (.raw (.ref D)) _ (upd σ D (.list (ss.map .str))) h' (s.toks,dr) (q ss s2 s3 D f) (by simp only[jt1,jt2,jt3,jt4,jt5,jt6]) ((R.grow hk hs).add (Nat.le_trans R.size hD) ⟨xs,⟨_,g⟩,vrs_of_strs s1 fun k hk'=>hok k (s2.mem_iff.mp hk')⟩) (ext_grow hk hs) (.upd (.inr hD))
end
end Mine
namespace Mine
variable [Membership Addr Zip0]
section
variable {c:Cx}{N:Lv}{env:Env}{ρ:Rho}{σ:Sig}{Q:PV}{X:PX}{SQ:PF}{SX:PE}
theorem S_assign_tup {es:List PySem.Expr}{k:Nat}{p' pos:Pos}{e:PySem.Expr}(hhn:N.hn=true)(g:EvG c N env ρ e σ (fun v σ'=>∃ ρ',Takes (.Tuple es k p') v ρ ρ'∧SQ .next ρ' σ') (fun ex σ'=>SX ex ρ σ'))
 (hs:swapsWithSole [.Tuple es k p'] e pos.line env=pure false:=by rfl) (hw:swappedStores [.Tuple es k p'] e env=pure none:=by rfl):StG c N env ρ (.Assign [.Tuple es k p'] e pos) σ SQ SX:=fun A s QQ EE ot a R E p xp=>
 Assign_Tuple (EvG.runS g a R E xp fun v y σ' h' tk' ⟨ρ',pt,q⟩ r a1 R1 E1 x1 gr1=>
  takes_ (s:=at_ s h' tk') (B:=mine env) (fun _ q=>q) (a1.han hhn) pt (fun x _=>store_ok) R1 E1 r fun h2 tk2 R2 E2 x2=>p .next .next ρ' σ' h2 tk2 q rfl R2 E2 (x1.both.trans (x2.mono fun _ q=>.inr q) fun a q=>.inl q) gr1) hs hw
theorem bindsN_ {A:Around}{E:VP}:∀ (xs:List Str) (l:List V) (ys:List Value) (ρ ρ':Rho) (s:Shared) (Q:UP),xs.length=l.length→VRs s.heap l ys→Binds (xs.zip l) ρ ρ'→Rel c σ s.heap→EnvR c σ env ρ s.heap →
 (∀ h' tk,Rel c σ h'→EnvR c σ env ρ' h'→Ext (mine env) s.heap h'→Q () (at_ s h' tk))→wpAny (model c.prog c.w) A (assignInOrder (xs.map fun n=>bindName env n) ys) Q E s
 | [],l,ys,ρ,ρ',s,Q,hl,r,b,R,Ev,h=>by
  simp only[List.zip_nil_left] at b
  cases b
  exact PyProof.Rows.assignInOrder_nil (h s.heap (tks s) R Ev (.refl _))
 | x::xs,[],ys,ρ,ρ',s,Q,hl,r,b,R,Ev,h=>by simp at hl
 | x::xs,v::l,ys,ρ,ρ',s,Q,hl,r,b,R,Ev,h=>by
  simp only[ju1,ju2] at r
  refine el61 r ?_;(try clear r);intro y ys ze224 r1 r2;subst ze224
  simp only[List.zip_cons_cons] at b
  cases b with
  | cons pt b=>
   rw[List.map_cons]
   refine PyProof.Rows.assignInOrder_cons (wpAny_bindName (store_ R Ev pt r1 fun h1 tk1 R1 E1 x1 _=>?_))
   exact bindsN_ xs l ys _ _ (at_ s h1 tk1) _ (by simpa using hl) (VRs.ext Ev.mine_noTup x1 r2) b R1 E1 fun h2 tk2 R2 E2 x2=>h h2 tk2 R2 E2 (x1.trans x2 fun a q=>.inl q)
theorem VRs.rev {h:Heap}:∀ {l:List V}{xs:List Value},VRs h l xs→VRs h l.reverse xs.reverse
 | [],xs,r=>by simp only[ju1,ju2] at r;subst r;simp [ju1,ju2]
 | v::l,xs,r=>by
  simp only[ju1,ju2] at r
  refine el61 r ?_;(try clear r);intro x r' ze225 r1 r2;subst ze225
  simp only[List.reverse_cons]
  exact (VRs.rev r2).snoc r1
theorem S_assign_swap {es:List PySem.Expr}{k:Nat}{p' pos:Pos}{e:PySem.Expr}{names:List Str}(hhn:N.hn=true)(g:EvG c N env ρ e σ (fun v σ'=>∃ l ρ',v=.tup l∧l.length=names.length∧Binds (names.reverse.zip l.reverse) ρ ρ'∧SQ .next ρ' σ') (fun ex σ'=>SX ex ρ σ'))
 (hs:swapsWithSole [.Tuple es k p'] e pos.line env=pure false:=by rfl) (hw:swappedStores [.Tuple es k p'] e env=pure (some names):=by rfl):StG c N env ρ (.Assign [.Tuple es k p'] e pos) σ SQ SX:=fun A s QQ EE ot a R E p xp=>
 Assign_Tuple_swapped (EvG.runS g a R E xp fun v y σ' h' tk' zu44 r a1 R1 E1 x1 gr1=>by
  refine el54 zu44 ?_;(try clear zu44);intro l ρ' e1 hl pt q
  subst e1
  simp only[jt1,jt2,jt3,jt4,jt5,jt6] at r
  refine el61 r ?_;(try clear r);intro t xs ze226 ht r;subst ze226
  have hsz:xs.size=names.length:=by rw[← Array.length_toList,r.length,hl]
  rw[← hsz]
  refine sized (s:=at_ s h' tk') (unpackItems_tuple (a1.han hhn) ht.lib fun h1 x2 hs2=>?_)
  have X:∀ B,Ext B h' h1:=fun B=>extBut_ext x2 hs2
  have hk:∀ b o,h'.get? b=some o→h1.get? b=some o:=fun b o e=>x2 b o (Nat.ne_of_lt (Heap.lt_size e)) e
  refine bindsN_ names.reverse l.reverse xs.toList.reverse ρ ρ' (at_ s h1 tk') _ (by simp [hl]) (VRs.rev (R1.vrs (X _) r)) pt (R1.grow hk hs2) (E1.ext R1 (X _) (.refl _ _)) fun h3 tk3 R3 E3 x3=>?_
  exact p .next .next ρ' σ' h3 tk3 q rfl R3 E3 ((x1.both.trans (X (both σ env)) fun a q=>.inl q).trans (x3.mono fun _ q=>.inr q) fun a q=>.inl q) gr1) hs hw
end
end Mine
namespace Mine
variable [Membership Addr Zip0]
section
variable {c:Cx}{N:Lv}{env:Env}{ρ ρc:Rho}{σ:Sig}{Q:PV}{X:PX}{SQ:PF}{SX:PE}
theorem EnvR.away {h h':Heap}{B:Addr→Prop}(Ev:EnvR c σ env ρ h)(x:Ext B h h')(n:NoTup B h)(hl:¬ B env.locals)(hc:∀ x k,env.cells.lookup x=some k→¬ B k)(hf:∀ f,env.frame=some f→¬ B f):EnvR c σ env ρ h':=by
 refine el75 Ev.vars ?_;intro m hn hv
 refine⟨Ev.kind,Ev.glob,Ev.blt,Ev.loc,fun y k e=>?_,Ev.apart,⟨m,Ns.like hn x hl,fun y v hm=>?_⟩,Ev.nodup,Ev.kinds,?_,?_⟩
 · refine el73 (Ev.cells y k e) ?_;intro a1 a2 v a3
   exact⟨a1,a2,v,IsCell.like a3 x (hc y k e)⟩
 · rcases hv y v hm with ⟨k1,z,e1,e2⟩ | ⟨k1,k,z,e1,e2,e3⟩
   · exact .inl ⟨k1,z,e1,VR.ext n x e2⟩
   · exact .inr ⟨k1,k,z,e1,IsCell.like e2 x (hc y k e1),VR.ext n x e3⟩
 · refine Ev.own.imp id fun zu45=>?_
   refine el75 zu45 ?_;(try clear zu45);intro o e1 e2
   refine el75 (x.keep _ o hl e1) ?_;intro o' e' l
   exact⟨o',e',fun q=>e2 (l.cls.symm.trans q)⟩
 · refine el42 Ev.hand ?_;intro f o e1 e2 e3 es m' e4
   refine el75 (x.keep f o (hf f e1) e2) ?_;intro o' e' l
   exact⟨f,o',e1,e',l.cls.trans e3,es,m',l.data.trans e4⟩
theorem S_assign_comp {x:Str}{pos':Pos}{elt target iter:PySem.Expr}{ifs:List PySem.Expr}{scope:Scope}{p0 pos:Pos}{cl:List (Str×Addr)}(hhn:N.hn=true)(H:CompOk env ρ scope cl ρc)(hloc:∀ x∈names target,(relabel scope env).names.lookup x=some .local)(hfree:∀ x v,(x,some v)∈ρc→x ∉ names target)(hx:env.kindOf x=some .local)
 (g:IterG c N env ρ iter σ (fun l Need tg σ1=>tg target∧∃ Inv:List V→List V→Sig→Prop,Inv l [] σ1 ∧
  (∀ C v l acc σ1,Inv (v::l) acc σ1→Need σ1∧acc.length<1000000∧∃ ρ2,Takes target v ρc ρ2∧CompT c N (compEnvC scope cl C env) ρ2 σ1 (fun b σ2=>match b with | true=>EvG c N (compEnvC scope cl C env) ρ2 elt σ2 (fun u σ3=>Inv l (acc++[u]) σ3) NoX | false=>Inv l acc σ2) ifs) ∧
  (∀ acc σ1,Inv [] acc σ1→Need σ1∧∀ D,σ1 D=none→∃ ρ',Put x (some (.raw (.ref D))) ρ ρ'∧SQ .next ρ' (upd σ1 D (.list acc)))) (fun ex σ'=>SX ex ρ σ'))
 (hs:∀ x,foldedSetIterable iter env x=pure x:=by intro _;rfl) (hsw:swapsWith (.ListComp elt [⟨target,iter,ifs,0⟩] scope p0) (some (.Name x pos')) pos.line env=pure true:=by rfl) :
 StG c N env ρ (.Assign [.Name x pos'] (.ListComp elt [⟨target,iter,ifs,0⟩] scope p0) pos) σ SQ SX:=fun A s QQ EE ot ak R E p xp=>by
 show wpAny _ _ (exec _ env) _ _ _
 rw[exec_Assign_Name_used x pos' _ pos hsw,arm_evalThenUse_ListComp]
 have fin:∀ acc σ1 D C h3 tk3,(∀ D,σ1 D=none→∃ ρ',Put x (some (.raw (.ref D))) ρ ρ'∧SQ .next ρ' (upd σ1 D (.list acc)))→σ1 D=none→c.S.objs.size≤D→s.heap.objs.size≤D→C≠D→s.heap.objs.size≤C→Rel c σ1 h3→AOk c N A σ1 h3→EnvR c σ1 (compEnvC scope cl C env) ρc h3→Ext (dom σ) s.heap h3→Grown σ s.heap σ1→(∃ ys,h3.PlainList D ys∧VRs h3 acc ys.toList) →
  compPost (model c.prog c.w) A EE (some (assign (.Name x pos') env)) (fun _ s''=>QQ .next s'') (.ref D) C (.ok .next) (at_ s h3 tk3):=fun acc σ1 D C h3 tk3 q hDn hDS hDs hCD hCs R3 a3 E3 X3 gr1 zu46=>by
  refine el75 zu46 ?_;(try clear zu46);intro ys hl hr
  refine el75 (q D hDn) ?_;intro ρ' pt q
  have R4:Rel c (upd σ1 D (.list acc)) h3:=R3.add hDS ⟨ys,hl,hr⟩
  have G4:Grown σ s.heap (upd σ1 D (.list acc)):=gr1.trans (.upd (.inr hDs)) (Nat.le_refl _)
  have E4:EnvR c (upd σ1 D (.list acc)) env ρ h3:=E.ext R X3 G4
  refine wpAny_assign_Name (storeL_ok hx ρ ρ' (.raw (.ref D)) (.ref D) (at_ s h3 tk3) _ A _ _ R4 E4 pt (by simp only[jt1,jt2,jt3,jt4,jt5,jt6]) fun h4 tk4 R5 E5 x5=>?_)
  have hlt:env.locals<s.heap.objs.size:=el75 (E.vars) fun m hn _=>hn.lt
  have hCl:C≠env.locals:=Nat.ne_of_gt (Nat.lt_of_lt_of_le hlt hCs)
  refine el75 E3.vars ?_;intro m hns _
  have hns4:h4.Ns C m:=Ns.like hns x5 hCl
  refine⟨m,hns4,fun h5 hs5=>?_⟩
  have x6:Ext (fun a=>a=C) h4 h5:=.same hs5 (.inl rfl)
  have n6:NoTup (fun a=>a=C) h4:=fun a xs q zu47=>by
   refine el51 zu47 ?_;(try clear zu47);intro o e hc _ n hd
   subst q
   refine el55 hns4 ?_;(try clear hns4);intro o' es ep e' hd' _
   obtain rfl:=uq e e';rw[hd] at hd';cases hd'
  have hCn:upd σ1 D (.list acc) C=none:=by rw[upd_ne _ _ hCD];exact E3.loc.1
  have R6:=R5.same hs5 hCn E3.loc.2 fun xs t=>n6 _ xs rfl t
  have E6:=E5.away x6 n6 (fun q=>hCl q.symm) (fun y k e q=>by
   refine el73 (E.cells y k e) ?_;intro _ _ v hc
   subst q
   exact absurd hc.lt (Nat.not_lt.mpr hCs)) (fun f e q=>by
   refine el61 E.hand ?_;intro f' o e1 e2 _
   obtain rfl:=uq e e1
   subst q
   exact absurd (Heap.lt_size e2) (Nat.not_lt.mpr hCs))
  exact p .next .next ρ' _ h5 tk4 q rfl R6 E6 ((X3.both.trans x5 fun a q=>.inl (.inr (.inl q))).trans x6 fun a q=>.inr (by subst q;exact hCs)) G4
 have z:=comp_core (A:=A) (s:=s) (pos:=p0) (QQ:=fun _ s''=>QQ .next s'') (use:=some (assign (.Name x pos') env)) hhn H hloc hfree g hs ak R E (fun e ex σ1 h1 tk1 q f R1 x1 gr1=>xp e ex ρ σ1 h1 tk1 q f R1 (E.ext R x1 gr1) x1.both gr1) fin
 refine wpAny_bind (wpAny_standAt (wpAny_bind ?_))
 first
  | exact wpAny_mono z (fun v s'' hq=>wpAny_pure hq) fun _ _ z=>z
  | exact wpAny_bind (wpAny_mono z (fun v s'' hq=>wpAny_pure (wpAny_pure hq)) fun _ _ z=>z)
end
end Mine
namespace Mine
variable [Membership Addr Zip0]
section
variable {c:Cx}{N:Lv}{env:Env}{ρ:Rho}{σ:Sig}{Q:PV}{X:PX}
theorem B_items {d:Addr}{l:List (Str×V)}(e:DR c σ d l)(q:∀ D,σ D=none→Q (.raw (.ref D)) (upd σ D (.items d))):CallOp c N σ (.builtin "dict.items") [.raw (.ref d)] Q X:=fun A s QQ EE ys a R r p xp=>by
 simp only[ju1,ju2] at r
 refine el61 r ?_;(try clear r);intro x _ ze227 r ze228;subst ze227;subst ze228
 simp only[jt1,jt2,jt3,jt4,jt5,jt6] at r;subst r
 refine el75 (e.real R) ?_;intro kvs hd _
 have lo:(d==sysModules)=false:=beq_false_of_ne (e.off R)
 refine call_meetsIn PySem.F.slot_dict_items hd.typeIs PySem.F.entry_dict_items (PySem.F.args_dict_items_1 _) (meets_dict_items (strKind c.prog c.w) d lo) ⟨⟨kvs,hd⟩,?_⟩
 have hk:∀ b o,s.heap.get? b=some o→(s.heap.push { cls:=.type "dict_items",data:=.fields #[.ref d] }).get? b=some o:=fun b o e=>Heap.get?_push_of_some _ e
 have hs:s.heap.objs.size≤(s.heap.push { cls:=.type "dict_items",data:=.fields #[.ref d] }).objs.size:=by rw[Heap.size_push];exact Nat.le_succ _
 have f:=fresh_of R (Nat.le_refl _)
 exact p (.raw (.ref s.heap.objs.size)) _ (upd σ s.heap.objs.size (.items d)) _ (tks s) (q _ f) (by simp only[jt1,jt2,jt3,jt4,jt5,jt6]) ((R.grow hk hs).add R.size (Heap.get?_push_size _ rfl)) (ext_grow hk hs) (.upd (.inr (Nat.le_refl _)))
end
end Mine
namespace Mine
variable [Membership Addr Zip0]
section
variable {prog:Program}{w:World}{A:Around}{E:VP}{s:Shared}
theorem nextOf_tup_item {it t:Addr}{i:Nat}{items:Array Value}{x:Value}{Q:VP}(hit:s.heap.IsTupleIter it t i)(ht:s.heap.IsTuple t items)(hx:items[i]?=some x)
 (hQ:∀ h',h'.IsTupleIter it t (i+1)→Heap.SameBut it s.heap h'→Q x { s with heap:=h' }):wpAny (model prog w) A (Builtin.SmallTypes.nextOf (.ref it)) Q E s:=by
 refine el70 (id hit) ?_;intro o ho hc hd
 refine el64 ht ?_;(try clear ht);intro ol hol _ nl hdl
 unfold Builtin.SmallTypes.nextOf
 refine wpAny_bind (wpAny_callSpecial?_slot (name:=Str.ofString "__next__") hit.typeIs F.slot_tuple_iterator_next
  (wpAny_call_entry F.slot_tuple_iterator_next hit.typeIs F.entry_tuple_iterator_next ?_ (F.args_tuple_iterator_next_1 _)))
 show wpAny _ _ (field (.ref it) 0 >>= _) _ _ s
 refine wpAny_bind (wpAny_field ho hd (x:=.ref t) rfl ?_)
 show wpAny _ _ (if (Value.ref t==Value.none)=true then _ else _) _ _ s
 rw[if_neg (show ¬ ((Value.ref t==Value.none)=true) from Bool.false_ne_true)]
 show wpAny _ _ (field (.ref it) 1 >>= _) _ _ s
 refine wpAny_bind (wpAny_field ho hd (x:=.int i 0) rfl ?_)
 show wpAny _ _ (seqItems? (.ref t) >>= _) _ _ s
 refine wpAny_bind (m:=seqItems? (.ref t)) (wpAny_seqItems hol hdl ?_)
 simp only[Int.toNat_natCast,hx]
 refine wpAny_bind (wpAny_setField ho hd (by simp) (wpAny_pure ⟨x,rfl,wpAny_pure (hQ _ ?_ (Heap.SameBut.update ..))⟩))
 exact⟨_,Heap.get?_update_self _ ho (Obj.isFreed_of_fields (Obj.data_mapFields hd _)),(Obj.cls_mapFields ..).trans hc,by
  rw[Obj.data_mapFields hd];simp [rawInt]⟩
theorem nextOf_tup_end {it t:Addr}{i:Nat}{items:Array Value}{Q:VP}(hh:A.handled=none)(hit:s.heap.IsTupleIter it t i)(ht:s.heap.IsTuple t items)(hx:items[i]?=none)
 (hE:∀ h' e,Heap.ExtBut it s.heap h'→(∃ o,h'.get? e=some o∧o.cls=.type "StopIteration")→E (.ref e) { s with heap:=h' }):wpAny (model prog w) A (Builtin.SmallTypes.nextOf (.ref it)) Q E s:=by
 refine el70 (id hit) ?_;intro o ho hc hd
 refine el64 ht ?_;(try clear ht);intro ol hol _ nl hdl
 unfold Builtin.SmallTypes.nextOf
 refine wpAny_bind (wpAny_callSpecial?_slot (name:=Str.ofString "__next__") hit.typeIs F.slot_tuple_iterator_next
  (wpAny_call_entry F.slot_tuple_iterator_next hit.typeIs F.entry_tuple_iterator_next ?_ (F.args_tuple_iterator_next_1 _)))
 show wpAny _ _ (field (.ref it) 0 >>= _) _ _ s
 refine wpAny_bind (wpAny_field ho hd (x:=.ref t) rfl ?_)
 show wpAny _ _ (if (Value.ref t==Value.none)=true then _ else _) _ _ s
 rw[if_neg (show ¬ ((Value.ref t==Value.none)=true) from Bool.false_ne_true)]
 show wpAny _ _ (field (.ref it) 1 >>= _) _ _ s
 refine wpAny_bind (wpAny_field ho hd (x:=.int i 0) rfl ?_)
 show wpAny _ _ (seqItems? (.ref t) >>= _) _ _ s
 refine wpAny_bind (m:=seqItems? (.ref t)) (wpAny_seqItems hol hdl ?_)
 simp only[Int.toNat_natCast,hx]
 refine wpAny_bind (wpAny_rule (wpAny_bind (wpAny_setField ho hd (by simp) ?_)))
 show wpAny _ _ (newExc (.type "StopIteration") [] >>= _) _ _ _
 refine wpAny_bind ?_
 simp only[newExc,newTuple]
 refine wpAny_bind (wpAny_newObj_type ?_ (by size_fits))
 refine wpAny_bind (m:=firstArgMember _ _) (wpAny_of_eq (a:=Value.none) (by first | rfl | (simp only[firstArgMember];rfl)) ?_)
 refine wpAny_newObj_type ?_ (by size_fits)
 delta raiseNew
 dsimp only
 refine wpAny_bind (wpAny_handled ?_)
 first | rw[show A.in1.handled=none from hh] | rw[hh]
 refine wpAny_bind (wpAny_pure (wpAny_throw ?_))
 exact hE _ _ (((Heap.SameBut.update ..).extBut.push _).push _) ⟨_,Heap.get?_push_size _ rfl,rfl⟩
theorem draws_tup (hh:A.handled=none)(it t:Addr)(hne:t≠it)(items:Array Value) :
 Draws prog w A it [it,t] items.size (fun i v=>items[i]?=some v) (fun i h=>h.IsTupleIter it t i∧h.IsTuple t items) where
 live:=fun _ _ st=>el75 (st.1) fun o ho _=>⟨o,ho⟩
 frame:=fun _ _ _ st hk=>⟨el75 (st.1) fun o ho r=>⟨o,hk it (by simp) o ho,r⟩,el75 (st.2) fun o ho r=>⟨o,hk t (by simp) o ho,r⟩⟩
 item:=fun i s Q E hi st hQ=>by
  refine nextOf_tup_item st.1 st.2 (x:=items[i]) (by simp [hi]) fun h' hit' hs'=>?_
  exact hQ _ h' s.toks (by simp [hi]) ⟨hit',el75 (st.2) fun o ho r=>⟨o,hs'.extBut t o hne ho,r⟩⟩ hs'
 done:=fun s Q E st hE=>nextOf_tup_end hh st.1 st.2 (by simp) hE
theorem pure_all {α:Type}{M:Model}{A:Around}{E:VP}{s:Shared}{Q:α→Shared→Prop}{v:α}(h:∀ b,Q b s):wpAny M A (pure v) Q E s:=wpAny_pure (h v)
theorem meets_enumerate_newT (l:Addr)(items:Array Value)(n:Nat)(dct:Option Addr)(sl:Array (Option Value)) :
 Meets (Builtin.«enumerate.__new__» ⟨[.type "enumerate",.ref l],[]⟩) (fun _ R s=>s.heap.get? l=some { cls:=.type "tuple",dict:=dct,data:=.seq items n,slots:=sl } ∧
  R (.ok (.ret (.ref (s.heap.push { cls:=.type "tuple_iterator",data:=.fields #[.ref l,.int 0 0] }).objs.size)))
   { s with heap:=(s.heap.push { cls:=.type "tuple_iterator",data:=.fields #[.ref l,.int 0 0] }).push { cls:=.type "enumerate",data:=.fields #[.none,.bool false,.ref s.heap.objs.size,rawInt 0,.none,.none] } }):=
 .of_wp fun prog w A R s h=>by
  obtain ⟨hp,g,d,tk,os⟩:=s;obtain ⟨hl,h⟩:=h
  have hsub:=sub_enumerate
  have hL:Heap.IsTuple (Shared.heap ⟨hp,g,d,tk,os⟩) l items:=⟨_,hl,rfl,n,rfl⟩
  wp_walk using AutoSeq1.wpAny_loadPart' hl
  refine wpAny_stack_any fun st=>pure_all fun b=>?_
  cases b
  · wp_walk using AutoSeq1.wpAny_loadPart' hl,wpAny_pyIter_tuple hL
    exact⟨_,rfl,h⟩
  · wp_walk using AutoSeq1.wpAny_loadPart' hl,wpAny_pyIter_tuple hL
    exact⟨_,rfl,h⟩
theorem call_enumerate_tup {l:Addr}{items:Array Value}{Q:VP}(hL:s.heap.IsTuple l items)
 (h:∀ h',IsEnum h' (s.heap.objs.size+1) s.heap.objs.size 0 .none→h'.IsTupleIter s.heap.objs.size l 0→h'.objs.size=s.heap.objs.size+2 →
  (∀ b o,s.heap.get? b=some o→h'.get? b=some o)→Q (.ref (s.heap.objs.size+1)) { s with heap:=h' }) :
 wpAny (model prog w) A (call (.type "enumerate") [.ref l]) Q E s:=by
 obtain ⟨⟨c,dct,dt,sl⟩,hl,hc,n,hd⟩:=hL
 replace hc:c=.type "tuple":=hc
 replace hd:dt=.seq items n:=hd
 subst hc hd
 refine callType_new F.called_enumerate (by decide) (F.typeCall_enumerate_1 _) (F.newCall_enumerate_1 _) (fun obj=>F.args_object_init_2 obj _) F.entry_enumerate_new
  (meets_enumerate_newT l items n dct sl) ⟨hl,?_⟩
 have hz:(s.heap.push { cls:=.type "tuple_iterator",data:=.fields #[.ref l,.int 0 0] }).objs.size=s.heap.objs.size+1:=Heap.size_push ..
 show _∧_
 rw[hz]
 have he:IsEnum ((s.heap.push { cls:=.type "tuple_iterator",data:=.fields #[.ref l,.int 0 0] }).push
  { cls:=.type "enumerate",data:=.fields #[.none,.bool false,.ref s.heap.objs.size,rawInt 0,.none,.none] }) (s.heap.objs.size+1) s.heap.objs.size 0 .none:=by
  have:=Heap.get?_push_size (s.heap.push { cls:=.type "tuple_iterator",data:=.fields #[.ref l,.int 0 0] })
   (o:={ cls:=.type "enumerate",data:=.fields #[.none,.bool false,.ref s.heap.objs.size,rawInt 0,.none,.none] }) rfl
  rw[hz] at this;exact this
 refine⟨⟨_,he,rfl⟩,h _ he ⟨_,Heap.get?_push_of_some _ (Heap.get?_push_size _ rfl),rfl,rfl⟩ (by rw[Heap.size_push,hz]) fun b o x=>Heap.get?_push_of_some _ (Heap.get?_push_of_some _ x)⟩
end
end Mine
namespace Mine
variable [Membership Addr Zip0]
section
variable {c:Cx}{N:Lv}{env:Env}{ρ:Rho}{σ:Sig}{Q:PV}{X:PX}
noncomputable def enumV:Nat→List V→List V
 | _,[]=>[]
 | i,v::l=>.tup [.int i,v]::enumV (i+1) l
theorem jx1:enumV w1 []=([]):=rfl
theorem jx2:enumV i (v::l)=(.tup [.int i,v]::enumV (i+1) l):=rfl
noncomputable def StE (e it t:Addr)(l:List V)(h:Heap):Prop:=∃ i xs old r,IsEnum h e it ((i:Nat):Int) old∧h.IsTupleIter it t i∧IsTup h t xs∧VRs h r (xs.toList.drop i)∧l=enumV i r
theorem not_tup {h:Heap}{a:Addr}{o:Obj}(e:h.get? a=some o)(hc:o.cls≠.type "tuple")(xs:Array Value):¬ IsTup h a xs:=fun zu48=>by
 refine el70 zu48 ?_;(try clear zu48);intro o' e' hc' _
 obtain rfl:=uq e e';exact hc hc'
theorem It.enum {lo:Nat}{e it t:Addr}(h1:lo≤e)(h2:c.S.objs.size≤e)(k1:lo≤it)(k2:c.S.objs.size≤it)(hne:e≠it):It c lo e (fun a=>a=e∨a=it) (fun _=>True) (fun x=>∃ elts k pos,x=.Tuple elts k pos) (StE e it t) where
 ge:=fun a w=>by rcases w with rfl | rfl;exact⟨h1,h2⟩;exact⟨k1,k2⟩
 rec_:=fun l h zu49 a w=>by
  refine el14 zu49 ?_;(try clear zu49);intro i xs old r he o ho _ hd _
  rcases w with rfl | rfl
  · exact .fields he rfl
  · exact .fields ho hd
 frame:=fun l h h' B zu50 x n hb=>by
  refine el7 zu50 ?_;(try clear zu50);intro i xs old r he o ho hc hd ht rr el
  refine el75 (x.keep it o (hb it (.inr rfl)) ho) ?_;intro o' e' lk
  have:o'=o:=lk.eq (by rw[hc];decide)
  subst this
  refine el75 (x.keep e _ (hb e (.inl rfl)) he) ?_;intro o2 e2 lk2
  have:=lk2.eq (show Value.type "enumerate"≠_ by decide)
  subst this
  exact⟨i,xs,old,r,e2,⟨o',e',hc,hd⟩,IsTup.ext n x ht,VRs.ext n x rr,el⟩
 self:=fun l A s Q E zu q=>el57 zu fun i xs old r he _=>wpAny_pyIter_enum he q
 step:=fun A σ v l target s QQ E0 E1 hh zu51 R _ hn zu52 h=>by
  refine el71 zu51 ?_;(try clear zu51);intro elts k pos et
  refine el31 zu52 ?_;(try clear zu52);intro i xs old r he hit ht rr el
  subst et
  cases r with
  | nil=>cases el
  | cons v0 r=>
   simp only[jx1,jx2] at el
   obtain ⟨rfl,rfl⟩:=List.cons.inj el
   simp only[ju1,ju2] at rr
   refine el61 rr ?_;(try clear rr);intro x0 r' e0 r1 r2
   obtain ⟨e1,e2⟩:=drop_get e0
   have hit1:=hit
   refine el70 hit1 ?_;(try clear hit1);intro oi hoi hci hdi
   have hti:t≠it:=fun q=>not_tup hoi (by rw[hci];decide) xs (q ▸ ht)
   have hte:t≠e:=fun q=>not_tup he (by show Value.type "enumerate"≠_;decide) xs (q ▸ ht)
   have hi:i<xs.size:=(Array.getElem?_eq_some_iff.mp (by rw[← Array.getElem?_toList];exact e1)).1
   have hlt:e<s.heap.objs.size:=Heap.lt_size he
   refine wpAny_pyNext_enum_itemD (draws_tup (show A.in1.handled=none from hh) it t hti xs) he ⟨hit,ht.lib⟩ hi hne (by simp;exact⟨hne,fun q=>hte q.symm⟩) fun x h' tk hP ho hs' hT hsz hk=>⟨_,rfl,?_⟩
   have ex:x=x0:=by
    have e1':xs[i]?=some x0:=by rw[← Array.getElem?_toList];exact e1
    obtain rfl:=uq hP e1';rfl
   subst ex
   refine wpAny_letOwnedTupleGo_enum (s:={ s with heap:=h',toks:=tk+1 }) ho fun h2' he' hs2=>?_
   have hs2:Heap.SameBut e h' h2':=hs2
   have K:∀ b o,b≠e→b≠it→s.heap.get? b=some o→h2'.get? b=some o:=fun b o b1 b2 q=>hs2.extBut b o b1 (hk b o b1 b2 q)
   have S2:s.heap.objs.size≤h2'.objs.size:=by rw[hs2.1,hsz];exact Nat.le_succ _
   have X2:Ext (fun a=>a=e∨a=it) s.heap h2':=⟨fun a o ha q=>⟨o,K a o (fun z=>ha (.inl z)) (fun z=>ha (.inr z)) q,.refl o⟩,S2⟩
   have n2:NoTup (fun a=>a=e∨a=it) s.heap:=fun a ys w=>by
    rcases w with rfl | rfl
    · exact not_tup he (by show Value.type "enumerate"≠_;decide) ys
    · exact not_tup hoi (by rw[hci];decide) ys
   have hne2:s.heap.objs.size≠e:=Nat.ne_of_gt hlt
   refine h _ h2' (tk+1,s.drawn) ?_ ⟨i+1,xs,x,r,by simpa using he',?_,IsTup.ext n2 X2 ht,by rw[e2];exact VRs.ext n2 X2 r2,rfl⟩ ?_
   · simp only[jt1,jt2,jt3,jt4,jt5,jt6]
     exact⟨_,_,rfl,⟨_,hs2.extBut _ _ hne2 hT,rfl,⟨rfl,R.nf⟩,_,rfl⟩,.cons (by simp only[jt1,jt2,jt3,jt4,jt5,jt6];exact⟨_,rfl⟩) (.cons (VR.ext n2 X2 r1) .nil)⟩
   · obtain ⟨⟨o3,ho3,c3,d3⟩,_⟩:=hs'
     exact⟨o3,hs2.extBut _ _ hne.symm ho3,c3,d3⟩
   · refine flew_of (W:=fun a=>a=e∨a=it) (fun b o hb q=>K b o (fun z=>hb (.inl z)) (fun z=>hb (.inr z)) q) S2 (fun a w=>by rcases w with rfl | rfl;exact⟨h1,h2⟩;exact⟨k1,k2⟩) hn fun a w=>?_
     rcases w with rfl | rfl
     · exact .fields he rfl
     · exact .fields hoi hdi
 done:=fun A σ s QQ E0 hh R _ hn zu53 h=>by
  refine el31 zu53 ?_;(try clear zu53);intro i xs old r he hit ht rr el
  cases r with
  | cons v r=>cases el
  | nil=>
   simp only[ju1,ju2] at rr
   have hit1:=hit
   refine el70 hit1 ?_;(try clear hit1);intro oi hoi hci hdi
   have hti:t≠it:=fun q=>not_tup hoi (by rw[hci];decide) xs (q ▸ ht)
   have hi0:xs.size≤i:=by have:=List.drop_eq_nil_iff.mp rr;simpa using this
   have D:Draws c.prog c.w A.in1 it [it,t] i (fun _ _=>False) (fun j h=>j=i∧h.IsTupleIter it t i∧h.IsTuple t xs):=
    { live:=fun _ _ st=>el75 (st.2.1) fun o ho _=>⟨o,ho⟩
      frame:=fun _ _ _ st hk=>⟨st.1,el75 (st.2.1) fun o ho r=>⟨o,hk it (by simp) o ho,r⟩,el75 (st.2.2) fun o ho r=>⟨o,hk t (by simp) o ho,r⟩⟩
      item:=fun j s Q E hj st hQ=>by have:=st.1;lia
      done:=fun s Q E st hE=>nextOf_tup_end (show A.in1.handled=none from hh) st.2.1 st.2.2 (by simp;exact hi0) hE }
   refine sized (wpAny_pyNext_enum_endD D he ⟨rfl,hit,ht.lib⟩ fun h' x hs=>⟨rfl,h h' (tks s) ?_⟩)
   refine flew_of (W:=fun a=>a=e∨a=it) (fun b o hb q=>x b o (fun z=>hb (.inr z)) q) hs (fun a w=>by rcases w with rfl | rfl;exact⟨h1,h2⟩;exact⟨k1,k2⟩) hn fun a w=>?_
   rcases w with rfl | rfl
   · exact .fields he rfl
   · exact .fields hoi hdi
noncomputable def CallIt (c:Cx)(N:Lv)(σ:Sig)(f:Value)(args:List V)(K:IK):Prop:=
 ∀ (A:Around) (s:Shared) (QQ:VP) (EE:VP) (ys:List Value),AOk c N A σ s.heap→Rel c σ s.heap→VRs s.heap args ys →
  (∀ l Need tg I W St h' tk,K l Need tg σ→It c s.heap.objs.size I W Need tg St→St l h'→Rel c σ h'→Ext (dom σ) s.heap h'→(∀ a,W a→σ a=none)→QQ (.ref I) (at_ s h' tk)) →
  wpAny (model c.prog c.w) A (call f ys) (fun x s1=>wpAny (model c.prog c.w) A (pyIter x) QQ EE s1) EE s
theorem IG_call {fe:PySem.Expr}{es:List PySem.Expr}{pos:Pos}{K:IK}(g:EvG c N env ρ fe σ (fun v σ1=>∃ f,v=.raw f∧ArgsG c N env ρ es pos σ1 (fun vs σ2=>Kee c σ2 f∧CallIt c N σ2 f vs K) X) X)
 (he:eval (.Call fe es [] pos) env=(do let f ← eval fe env;callWith pos f [] (backTo pos (starEach es env)) []):=by rfl) (hp:(backTo pos (starEach es env)).any (·.1)=false:=by rfl):IterG c N env ρ (.Call fe es [] pos) σ K X:=fun A s QQ EE a R E xp h=>by
 rw[he]
 exact wpAny_bind (g.run a R E xp fun v x σ1 h1 tk1 zu54 r1 a1 R1 E1 x1 gr1=>by
  refine el75 zu54 ?_;(try clear zu54);intro f e1 g1
  subst e1
  simp only[jt1,jt2,jt3,jt4,jt5,jt6] at r1
  subst r1
  refine call_node (P:=fun h=>∃ k,(k=Keeper.frame∨k=Keeper.machine∨k=Keeper.boundFrame)∧Looks (model c.prog c.w) h (keeperOf x) k) (fun h q=>q) (g1.run a1 R1 E1 (xp.step x1 gr1) fun vs ys σ2 h2 tk2 ⟨k2,q⟩ r2 a2 R2 E2 x2 gr2=>⟨k2 h2 R2,?_⟩) hp
  have gr:=gr1.trans gr2 x1.size
  have xx:=x1.trans x2 (dom_back gr1)
  exact q A _ QQ EE ys a2 R2 r2 fun l Need tg I W St h3 tk3 k i st R3 x3 wn=>h l Need tg I W St σ2 h3 tk3 k (i.low xx.size) st R3 (xx.trans x3 (dom_back gr)) gr wn)
theorem CI_enum {l:List V}{K:IK}(q:K (enumV 0 l) (fun _=>True) (fun x=>∃ elts k pos,x=.Tuple elts k pos) σ):CallIt c N σ (.type "enumerate") [.tup l] K:=fun A s QQ EE ys a R r h=>by
 simp only[ju1,ju2] at r
 refine el61 r ?_;(try clear r);intro x _ ze229 r ze230;subst ze229;subst ze230
 simp only[jt1,jt2,jt3,jt4,jt5,jt6] at r
 refine el61 r ?_;(try clear r);intro t xs ze231 ht r;subst ze231
 refine call_enumerate_tup ht.lib fun h' he hit hs hk=>?_
 refine wpAny_pyIter_enum (s:={ s with heap:=h' }) he ?_
 have S2:s.heap.objs.size≤h'.objs.size:=by lia
 have X2:Ext (dom σ) s.heap h':=ext_grow hk S2
 have f0:=fresh_of R (Nat.le_refl s.heap.objs.size)
 have f1:=fresh_of R (Nat.le_succ s.heap.objs.size)
 refine h (enumV 0 l) _ _ _ _ (StE (s.heap.objs.size+1) s.heap.objs.size t) h' (tks s) q (.enum (Nat.le_succ _) (Nat.le_trans R.size (Nat.le_succ _)) (Nat.le_refl _) R.size (Nat.succ_ne_self _)) ⟨0,xs,.none,l,he,hit,ht.keeps hk,?_,rfl⟩ (R.grow hk S2) X2 fun a w=>by rcases w with rfl | rfl;exact f1;exact f0
 rw[List.drop_zero]
 exact R.vrs X2 r
theorem small_nat {n:Nat}(hn:n≤1000000):Builtin.Range.small 0 (n:Int) 1=true:=by
 have hz:Builtin.Range.rangeSize 0 (n:Int) 1=n:=by unfold Builtin.Range.rangeSize;split <;> simp <;> lia
 unfold Builtin.Range.small
 rw[hz]
 unfold Builtin.Range.rangeFitsLong
 simp
 lia
theorem CI_range {n:Nat}{K:IK}(hn:n≤1000000)(q:K (upFrom 0 n) (fun _=>True) (fun e=>∃ x p,e=.Name x p) σ):CallIt c N σ (.type "range") [.int n] K:=fun A s QQ EE ys a R r h=>by
 simp only[ju1,ju2] at r
 refine el61 r ?_;(try clear r);intro x _ ze232 r ze233;subst ze232;subst ze233
 simp only[jt1,jt2,jt3,jt4,jt5,jt6] at r
 obtain ⟨t,rfl⟩:=r
 refine call_range_1 ?_
 refine wpAny_pyIter_range (Heap.get?_push_size _ rfl) (small_nat hn) ?_
 have hz:Builtin.Range.rangeSize 0 (n:Int) 1=n:=by unfold Builtin.Range.rangeSize;split <;> simp <;> lia
 rw[hz]
 have hk:∀ b o,s.heap.get? b=some o→((s.heap.push { cls:=.type "range",data:=.fields #[.int 0 s.toks,.int n t,.int 1 (s.toks+1)] }).push { cls:=.type "range_iterator",data:=.fields #[rawInt 0,rawInt (n:Int),rawInt 1] }).get? b=some o:=fun b o e=>Heap.get?_push_of_some _ (Heap.get?_push_of_some _ e)
 have hs1:(s.heap.push { cls:=.type "range",data:=.fields #[.int 0 s.toks,.int n t,.int 1 (s.toks+1)] }).objs.size=s.heap.objs.size+1:=Heap.size_push ..
 have S2:s.heap.objs.size≤((s.heap.push { cls:=.type "range",data:=.fields #[.int 0 s.toks,.int n t,.int 1 (s.toks+1)] }).push { cls:=.type "range_iterator",data:=.fields #[rawInt 0,rawInt (n:Int),rawInt 1] }).objs.size:=by rw[Heap.size_push,hs1];lia
 have f1:=fresh_of R (Nat.le_succ s.heap.objs.size)
 rw[hs1]
 refine h (upFrom 0 n) _ _ _ _ (StR (s.heap.objs.size+1)) _ (s.toks+1+1,s.drawn) q (.range (Nat.le_succ _) (Nat.le_trans R.size (Nat.le_succ _))) ⟨0,n,?_,rfl⟩ (R.grow hk S2) (ext_grow hk S2) fun a w=>by subst w;exact f1
 rw[← hs1]
 exact Heap.get?_push_size _ rfl
end
end Mine
namespace Mine
variable [Membership Addr Zip0]
section
variable {M:Model}{A:Around}{E:VP}{s:Shared}
theorem nsDel_ {a:Addr}{m:Str→Option Value}{name:Str}{Q:Bool→Shared→Prop}(hn:s.heap.Ns a m)
 (hQ:∀ h' v,h'.Ns a (fun x=>if x=name then v else m x)→Heap.SameBut a s.heap h'→(∀ o,s.heap.get? a=some o→∃ o',h'.get? a=some o'∧o'.cls=o.cls)→Q (m name).isSome { s with heap:=h' }):wpAny M A (nsDel a name) Q E s:=by
 refine el50 (id hn) ?_;intro o es ep ho hd hk hm
 have hany:es.any (·.refKey)=false:=by
  rw[Array.any_eq_false'];intro e he;refine el76 (hk e he) ?_;intro n t h;simp [DictEntry.refKey,h]
 have hsome:(m name).isSome=es.any (·.key.isStr name):=by
  rw[← hm name];simp only[nsFind,findBy,Option.isSome_map]
  rw[Bool.eq_iff_iff];simp only[Array.find?_isSome,Array.any_eq_true]
  constructor
  · rintro ⟨x,hx,hp⟩;obtain ⟨i,hi,rfl⟩:=Array.mem_iff_getElem.mp hx;exact⟨i,hi,hp⟩
  · rintro ⟨i,hi,hp⟩;exact⟨_,Array.getElem_mem hi,hp⟩
 have hhas:nsHas name o=pure (es.any (·.key.isStr name)):=by
  rw[nsHas_eq];unfold nsHasByArray;rw[hd]
  show (if (es.any fun x=>x.key.isStr name)=true then _ else _)=_
  generalize (es.any fun x=>x.key.isStr name)=b
  cases b <;> simp [hany]
 unfold nsDel
 refine wpAny_bind (wpAny_loadPart ho ?_)
 rw[hhas]
 refine wpAny_bind (wpAny_pure ?_)
 rw[← hsome]
 cases hmn:(m name).isSome
 · have:=hQ s.heap (m name) ⟨o,es,ep,ho,hd,hk,fun x=>by by_cases hx:x=name <;> simp [hx,hm]⟩ (.refl ..) fun o e=>⟨o,e,rfl⟩
   rw[hmn] at this
   exact wpAny_pure this
 · refine wpAny_bind (wpAny_updatePart ho (wpAny_pure ?_))
   have key:∃ v o',(s.heap.update a (Obj.dropName name)).get? a=some o'∧o'.cls=o.cls∧(s.heap.update a (Obj.dropName name)).Ns a (fun x=>if x=name then v else m x):=by
    obtain ⟨cl,d,dt,sl⟩:=o
    subst hd
    cases hi:es.findIdx? (·.key.isStr name) with
    | some i=>
     have hg:(s.heap.update a (Obj.dropName name)).get? a=some (Obj.dropName name ⟨cl,d,.dict es ep,sl⟩):=Heap.get?_update_self _ ho (by simp only[Obj.dropName_eq,Obj.dropNameByArray,hi] <;> rfl)
     refine⟨nsFind (es.eraseIdxIfInBounds i) name,_,hg,by simp only[Obj.dropName_eq,Obj.dropNameByArray,hi],_,_,ep+1,hg,(by simp only[Obj.dropName_eq,Obj.dropNameByArray,hi] <;> rfl),hk.erase i,fun x=>?_⟩
     show nsFind (es.eraseIdxIfInBounds i) x=if x=name then nsFind (es.eraseIdxIfInBounds i) name else m x
     by_cases hx:x=name
     · rw[if_pos hx,hx]
     · rw[if_neg hx,nsFind_erase_other hi hx,hm]
    | none=>
     have hg:(s.heap.update a (Obj.dropName name)).get? a=some (Obj.dropName name ⟨cl,d,.dict es ep,sl⟩):=Heap.get?_update_self _ ho (by simp only[Obj.dropName_eq,Obj.dropNameByArray,hi] <;> rfl)
     exact⟨m name,_,hg,by simp only[Obj.dropName_eq,Obj.dropNameByArray,hi],_,_,ep,hg,(by simp only[Obj.dropName_eq,Obj.dropNameByArray,hi] <;> rfl),hk,fun x=>by by_cases hx:x=name <;> simp [hx,hm]⟩
   refine el61 key ?_;(try clear key);intro v o' hg hc hv
   have:=hQ _ v hv (Heap.SameBut.update ..) fun o2 e2=>by obtain rfl:=uq ho e2;exact⟨o',hg,hc⟩
   rw[hmn] at this
   exact this
end
section
variable {c:Cx}{N:Lv}{env:Env}{ρ:Rho}{σ:Sig}{Q:PV}{X:PX}{SQ:PF}{SX:PE}
theorem nameGoes_ {M:Model}{A:Around}{E:VP}{s:Shared}{ρ':Rho}{n:Str}{pos:Pos}{Q:UP}(hl:env.kindOf n=some .local)(R:Rel c σ s.heap)(Ev:EnvR c σ env ρ s.heap)(p:Put n none ρ ρ')
 (h:∀ h' tk,Rel c σ h'→EnvR c σ env ρ' h'→Ext (mine env) s.heap h'→Q () (at_ s h' tk)):wpAny M A (do bindName env n .none;unbindBehindTheSuite env n pos) Q E s:=by
 have hp:(env.scope.kind==.class||(env.scope.kind==.module&&env.locals != env.globals))=false:=by rw[Ev.kind];rfl
 refine el75 Ev.vars ?_;intro m hn hv
 have nt:=Ev.mine_noTup
 refine wpAny_bind (wpAny_bindName ?_)
 rw[storeName_local hl hp]
 refine nsSet_ hn fun h1 hn1 hs1 hc1=>?_
 unfold unbindBehindTheSuite
 refine wpAny_onRaise ?_
 unfold unbindName
 refine wpAny_bind (wpAny_point (wpAny_bind ?_))
 unfold deleteName
 simp only[hl,hp]
 rw[if_neg (by decide)]
 refine wpAny_bind (nsDel_ hn1 fun h2 v hn2 hs2 hc2=>?_)
 simp only[if_true,Option.isSome_some,Bool.not_true,Bool.false_eq_true,if_false]
 refine wpAny_pure (wpAny_point ?_)
 have hs:Heap.SameBut env.locals s.heap h2:=hs1.trans hs2
 have hc:∀ o,s.heap.get? env.locals=some o→∃ o',h2.get? env.locals=some o'∧o'.cls=o.cls:=fun o e=>by
  refine el75 (hc1 o e) ?_;intro o1 e1 q1
  refine el75 (hc2 o1 e1) ?_;intro o2 e2 q2
  exact⟨o2,e2,q2.trans q1⟩
 have Xt:Ext (mine env) s.heap h2:=.same hs (.inl (.inl rfl))
 have R':Rel c σ h2:=R.same hs Ev.loc.1 Ev.loc.2 fun xs t=>nt _ _ (.inl rfl) t
 refine h h2 (s.toks+1,s.drawn) R' ⟨Ev.kind,Ev.glob,Ev.blt,Ev.loc,fun z k' e=>?_,Ev.apart,⟨_,hn2,fun z u hm=>?_⟩,by rw[p.keys];exact Ev.nodup,fun z hz=>Ev.kinds z (by rw[← p.keys];exact hz),Ev.own.imp id fun zu=>el75 zu fun o e1 e2=>(hc o e1).imp fun o' q=>⟨q.1,by rw[q.2];exact e2⟩,?_⟩ Xt
 · refine el73 (Ev.cells z k' e) ?_;intro a1 a2 u a3
   refine⟨a1,a2,u,a3.sameBut hs fun q=>?_⟩
   subst q
   refine el75 a3 ?_;(try clear a3);intro o h1 h2
   refine el55 hn ?_;(try clear hn);intro o' es ep h3 h4 _
   obtain rfl:=uq h1 h3;rw[h2] at h4;cases h4
 · rcases p.cases Ev.nodup hm with ⟨rfl,e⟩ | ⟨hne,hm'⟩
   · cases e
   · rcases hv z u hm' with ⟨k1,y1,e1,e2⟩ | ⟨k1,k',y1,e1,e2,e3⟩
     · exact .inl ⟨k1,y1,by simp [hne,e1],VR.ext nt Xt e2⟩
     · refine .inr ⟨k1,k',y1,e1,e2.sameBut hs fun q=>?_,VR.ext nt Xt e3⟩
       subst q
       refine el75 e2 ?_;(try clear e2);intro o h1 h2
       refine el55 hn ?_;(try clear hn);intro o' es ep h3 h4 _
       obtain rfl:=uq h1 h3;rw[h2] at h4;cases h4
 · refine el61 Ev.hand ?_;intro f o e1 e2 e3
   by_cases hf:f=env.locals
   · subst hf
     refine el75 (hc o e2) ?_;intro o' e4 e5
     refine el55 hn2 ?_;(try clear hn2);intro o'' es ep e6 e7 _
     obtain rfl:=uq e4 e6
     exact⟨_,o',e1,e4,e5.trans e3.1,es,ep,e7⟩
   · exact⟨f,o,e1,(hs.2 f hf).trans e2,e3⟩
theorem Fly.ext {lo:Nat}{σ':Sig}{h h':Heap}{e:Addr}{ex:Exn}(R:Rel c σ h)(F:Fly c σ lo h e ex)(x:Ext (dom σ) h h')(g:Grown σ h σ'):Fly c σ' lo h' e ex:=by
 refine el3 F ?_;(try clear F);intro f1 f2 f3 dx vs he hv f4 f5 f6 f7 es n q1 q2 f9
 have kp:∀ {b:Addr}{o:Obj},σ b=none→h.get? b=some o→o.cls≠.type "frame"→h'.get? b=some o∧σ' b=none:=fun {b o} hb e hc=>by
  refine el75 (x.keep b o (fun q=>q hb) e) ?_;intro o' e' lk
  have:=lk.eq hc
  subst this
  exact⟨e',grown_none g hb (Heap.lt_size e)⟩
 obtain ⟨a1,a2⟩:=kp f3 he (by simp)
 obtain ⟨b1,b2⟩:=kp f6 q1 (show Value.type "dict"≠_ by decide)
 refine⟨f1,f2,a2,dx,vs,a1,hv,f4,f5,b2,f7,⟨es,n,b1,EsR.mono (fun a xs t=>IsTup.ext R.noTup x t) _ _ q2⟩,f9.imp id fun zu55=>?_⟩
 refine el18 zu55 ?_;(try clear zu55);intro tb ot us h1 g1 g2 g3 g4 g5 g6 g7 r
 obtain ⟨c1,c2⟩:=kp g3 g6 (by rw[g7];decide)
 exact⟨tb,ot,us,h1,g1,g2,c2,g4,g5,c1,g7,r⟩
theorem EnvR.fresh {h0 h:Heap}{σ0:Sig}{ρ0:Rho}{a:Addr}{m:MO}(E0:EnvR c σ0 env ρ0 h0)(Ev:EnvR c σ env ρ h)(ha:h0.objs.size≤a):EnvR c (upd σ a m) env ρ h:=
 { Ev with
   loc:=⟨by
    refine el75 E0.vars ?_;intro m' hn _
    rw[upd_ne _ _ (Nat.ne_of_lt (Nat.lt_of_lt_of_le hn.lt ha))];exact Ev.loc.1,Ev.loc.2⟩
   cells:=fun x k e=>by
    refine el73 (E0.cells x k e) ?_;intro _ _ v a3
    rw[upd_ne _ _ (Nat.ne_of_lt (Nat.lt_of_lt_of_le a3.lt ha))]
    exact Ev.cells x k e }
theorem AOk.fresh {A:Around}{h0 h:Heap}{σ0:Sig}{N0:Lv}{a:Addr}{m:MO}(a0:AOk c N0 A σ0 h0)(a1:AOk c N A σ h)(ha:h0.objs.size≤a):AOk c N A (upd σ a m) h:=
 ⟨a1.depth,a1.units,a1.han,by
  refine el75 a1.frames ?_;intro l e f
  refine el75 a0.frames ?_;intro l' e' f'
  obtain rfl:=uq e e'
  refine⟨l,e,fun y hy=>?_⟩
  refine el27 (f y hy) ?_;intro k o e1 e2 e3 e4 e5 e6 e7
  refine el61 (f' y hy) ?_;intro k' o' d1 d2 _
  obtain rfl:=uq e1 d1
  exact⟨k,o,e1,e2,e3,e4,by rw[upd_ne _ _ (Nat.ne_of_lt (Nat.lt_of_lt_of_le (Heap.lt_size d2) ha))];exact e5,e6,e7⟩,a1.guards⟩
end
end Mine
namespace Mine
variable [Membership Addr Zip0]
section
variable {c:Cx}{N:Lv}{env:Env}{ρ:Rho}{σ:Sig}{Q:PV}{X:PX}{SQ:PF}{SX:PE}
theorem S_try_ok {body:List Stmt}{h0:ExceptHandler}{hs:List ExceptHandler}{pos:Pos}(g:SsG c N env ρ body σ SQ (fun _ _ _=>False)):StG c N env ρ (.Try body (h0::hs) [] [] pos) σ SQ SX:=fun A s QQ EE ot ak R E p xp=>by
 refine wpAny_Try_except (g A s _ _ ot ak R E (fun f fl ρ' σ' h' tk' q r R' E' x gr=>?_) fun e ex ρ' σ' h' tk' q=>q.elim)
 have z:=p f fl ρ' σ' h' tk' q r R' E' x gr
 cases f with
 | next=>simp only[FR] at r;subst r;exact wpAny_execs_nil z
 | ret v=>simp only[FR] at r;refine el75 r ?_;(try clear r);intro y ze234 r;subst ze234;exact z
theorem AOk.marked {A:Around}{h:Heap}{v:Option Value}(a:AOk c N A σ h):AOk c ⟨N.n,false⟩ (A.mark v) σ h:=⟨a.depth,a.units,(fun q=>Bool.noConfusion q),a.frames,a.guards⟩
theorem S_try_as {body:List Stmt}{t:PySem.Expr}{n:Str}{b0:Stmt}{hb:List Stmt}{hpos pos:Pos}{C0:Value}{SX0:PE}(hn:env.kindOf n=some .local)
 (g:SsG c N env ρ body σ SQ SX0)
 (hx:∀ ex ρ' σ',SX0 ex ρ' σ'→exmOne c.K (.ref ex.C) C0=some true∧(∀ σ1,EvG c ⟨N.n,false⟩ env ρ' t σ1 (fun v σ2=>v=.raw C0∧σ2=σ1) (fun _ _=>False)) ∧
  ∀ e dx,σ' e=none→σ' dx=none→e≠dx→∃ ρ2,Put n (some (.raw (.ref e))) ρ' ρ2∧SsG c ⟨N.n,false⟩ env ρ2 (b0::hb) (upd (upd σ' dx (.ns ex.fs)) e (.exc ex.C (some dx) false)) (fun f ρ3 σ3=>∃ ρ4,Put n none ρ3 ρ4∧SQ f ρ4 σ3) (fun _ _ _=>False)) :
 StG c N env ρ (.Try body [.ExceptHandler (some t) (some n) (b0::hb) hpos] [] [] pos) σ SQ SX:=fun A s QQ EE ot ak R E p xp=>by
 refine wpAny_Try_except (g A s _ _ ot ak R E (fun f fl ρ' σ' h' tk' q r R' E' x gr=>?_) fun e ex ρ' σ' h' tk' q F R' E' x gr=>?_)
 · have z:=p f fl ρ' σ' h' tk' q r R' E' x gr
   cases f with
   | next=>simp only[FR] at r;subst r;exact wpAny_execs_nil z
   | ret v=>simp only[FR] at r;refine el75 r ?_;(try clear r);intro y ze235 r;subst ze235;exact z
 obtain ⟨L,hL⟩:=E.frame_
 have a':=ak.ext2 E x gr E'
 refine el77 (hx ex ρ' σ' q) ?_;intro hm gt hs
 refine noteFrame_ (s:=at_ s h' tk') (lo:=s.heap.objs.size) ot a' R' hL F fun h2 x2 F2=>?_
 have R2:=x2.rel R'
 have E2:=x2.envR E'
 have a2:=x2.ok a'
 refine setFlight_ (s:=at_ s h2 tk') (σ:=σ') F2.1 fun h3 x3 F3 _=>?_
 have R3:=x3.rel R2
 have E3:=x3.envR E2
 have a3:=x3.ok a2
 have X3:Ext (both σ env) s.heap h3:=x3.toExt (x2.toExt x (Nat.le_refl _)) (Nat.le_refl _)
 refine wpAny_handleBy_cons (codeAny_handlers_test ?_) (by intro q;cases q)
 refine gt σ' (A.mark (some (.ref e))) (at_ s h3 tk') _ _ a3.marked R3 E3 (fun v y σ4 h4 tk4 zu56 r4 R4 x4 g4=>?_) fun _ _ _ _ _ q=>q.elim
 obtain ⟨q4,e4⟩:=zu56
 subst q4 e4
 simp only[jt1,jt2,jt3,jt4,jt5,jt6] at r4;subst r4
 have E4:=E3.ext R3 x4 g4
 have a4:=a3.ext x4 g4
 have F4:=F3.ext R3 x4 g4
 have X4:Ext (both σ env) s.heap h4:=X3.trans x4 fun a q=>(gr a q).imp .inl id
 have he4:=F4.there
 refine el68 he4 ?_;(try clear he4);intro dx4 vs4 he4 _
 refine (exm_one (M:=model c.prog c.w) (c.KIn.keeps R4.static) ((Looks.ld he4).andThen .now) hm).here ?_
 simp only[if_true]
 refine codeAny_handlers_suite_as ?_
 refine setFlight_ (s:=at_ s h4 tk4) (σ:=σ4) F4 fun h5 x5 F5 _=>?_
 have R5:=x5.rel R4
 have E5:=x5.envR E4
 have a5:=x5.ok a4
 have X5:Ext (both σ env) s.heap h5:=x5.toExt X4 (Nat.le_refl _)
 refine el3 F5 ?_;(try clear F5);intro f1 f2 f3 dx vs he hv f4 f5 f6 f7 es k q1 q2 f9
 refine el75 (hs e dx f3 f6 f7.symm) ?_;intro ρ2 pp gs
 have R6:Rel c (upd (upd σ4 dx (.ns ex.fs)) e (.exc ex.C (some dx) false)) h5:=(R5.add (m:=.ns ex.fs) f5 ⟨es,k,q1,q2⟩).add (m:=.exc ex.C (some dx) false) f2 ⟨vs,he,fun q=>Bool.noConfusion q⟩
 have E6:EnvR c (upd (upd σ4 dx (.ns ex.fs)) e (.exc ex.C (some dx) false)) env ρ' h5:=EnvR.fresh E (EnvR.fresh E E5 f4) f1
 have a6:AOk c N A (upd (upd σ4 dx (.ns ex.fs)) e (.exc ex.C (some dx) false)) h5:=AOk.fresh ak (AOk.fresh ak a5 f4) f1
 have G6:Grown σ s.heap (upd (upd σ4 dx (.ns ex.fs)) e (.exc ex.C (some dx) false)):=fun a q=>by
  by_cases h1:a=e
  · exact .inr (h1 ▸ f1)
  · by_cases h2:a=dx
    · exact .inr (h2 ▸ f4)
    · exact gr a (by rw[upd_ne _ _ h1,upd_ne _ _ h2] at q;exact q)
 refine store_ (s:=at_ s h5 tk4) R6 E6 pp (by simp only[jt1,jt2,jt3,jt4,jt5,jt6]) fun h6 tk6 R7 E7 x6 _=>?_
 have x6':Ext (both (upd (upd σ4 dx (.ns ex.fs)) e (.exc ex.C (some dx) false)) env) h5 h6:=x6.mono fun _ q=>.inr q
 have a7:=a6.ext2 E6 x6' (.refl _ _) E7
 have X6:Ext (both σ env) s.heap h6:=X5.trans x6 fun a q=>.inl (.inr q)
 refine gs (A.mark (some (.ref e))) (at_ s h6 tk6) _ _ ot a7.marked R7 E7 (fun f fl ρ3 σ3 h7 tk7 zu57 r R8 E8 x7 gr7=>?_) fun _ _ _ _ _ _ q=>q.elim
 refine el75 zu57 ?_;(try clear zu57);intro ρ4 p4 q4
 have X7:Ext (both σ env) s.heap h7:=X6.trans x7 (both_back G6)
 have G7:Grown σ s.heap σ3:=G6.trans gr7 X6.size
 refine nameGoes_ (s:=at_ s h7 tk7) hn R8 E8 p4 fun h8 tk8 R9 E9 x8=>?_
 refine p f fl ρ4 σ3 h8 tk8 q4 ?_ R9 E9 (X7.trans x8 fun a q=>.inl (.inr q)) G7
 cases f with
 | next=>exact r
 | ret v=>simp only[FR] at r ⊢;refine el75 r ?_;(try clear r);intro y ze236 r;subst ze236;exact⟨y,rfl,VR.ext E8.mine_noTup x8 r⟩
end
end Mine
namespace Mine
variable [Membership Addr Zip0]
section
variable {M:Model}{A:Around}{E:VP}{h:Heap}{g:Array GenState}{d:Drawn}{t:Nat}{os:OsState}{prog:Program}{w:World}{R:RP}
variable {nm q:Str}{C N:Addr}{bs bm bmB:List Value}{hdct:Bool}{sn:List Str}{sub:List Value}{ab:Bool}{col:Option Bool}{dd:Option Addr}{k0 k1 k2 k3 k5:Option Value}{B newId initId:String}
theorem check_new_own (F:ExcBaseFacts B newId initId bmB)(hB:bm.contains (.type B)=true){rest:List Value}{Q:UP}(hC:h.get? C=some (excClassObj nm q C N bs bm hdct sn sub ab col dd k0 k1 k2 k3 k5 newId))
 (hq:Q () ⟨h,g,d,t,os⟩):wpAny M A (checkBuiltinCall newId ⟨.ref C::rest,[]⟩) Q E ⟨h,g,d,t,os⟩:=by
 have hcont:(Value.ref C::bm).contains (.type B)=true:=by rw[List.contains_cons,hB,Bool.or_true]
 have hstar:=F.noStar
 unfold checkBuiltinCall
 rw[F.newKind,F.newSplit,F.newRow]
 dsimp only
 repeat (first | refine wpAny_loadPart_at hC ?_ | (refine wpAny_isSubtype_exc hC ?_;rw[hcont]) | refine wpAny_staticBase_exc hC ?_ | refine wpAny_madeBy_exc hC ?_ | simp only[bne_self_eq_false,Bool.false_eq_true,if_false] | wp_step)
 exact hq
theorem exc_new_own (F:ExcBaseFacts B newId initId bmB)(hB:bm.contains (.type B)=true)(hA:bm.contains (.type "AttributeError")=false)(hN:bm.contains (.type "NameError")=false){rest:List Value}(hC:h.get? C=some (excClassObj nm q C N bs bm hdct sn sub ab col dd k0 k1 k2 k3 k5 newId))
 (hq:R (.ok (.ret (.ref (h.objs.size+1)))) ⟨(h.push { cls:=.type "tuple",data:=.seq rest.toArray }).push
  { cls:=.ref C,data:=.fields #[.ref h.objs.size,.none,.none,.none,.bool false,.none] },g,d,t,os⟩) (hrest:rest.length≤sizeLine:=by size_fits) :
 codeAny (model prog w) A (.builtin newId ⟨.ref C::rest,[]⟩) R ⟨h,g,d,t,os⟩:=by
 have hends:=F.ends
 have hcB:(Value.ref C::bm).contains (.type B)=true:=by rw[List.contains_cons,hB,Bool.or_true]
 have hcA:(Value.ref C::bm).contains (.type "AttributeError")=false:=by rw[List.contains_cons,hA];rfl
 have hcN:(Value.ref C::bm).contains (.type "NameError")=false:=by rw[List.contains_cons,hN];rfl
 refine codeAny_builtinAt F.entry ?_
 unfold Builtin.«BaseException.__new__»
 refine _root_.PySem.wpAt_bind ?_
 show _root_.PySem.wpAt _ _ _ (stack >>= _) _ _ _
 refine _root_.PySem.wpAt_bind (_root_.PySem.wpAt_stack fun p below=>_root_.PySem.wpAt_of_wpAny ?_)
 wp_walk
 refine _root_.PySem.wpAt_of_wpAny ?_
 rw[F.owner]
 repeat (first | with_reducible refine wpAny_madeHere_exc F.canon hC ?_ | with_reducible refine wpAny_loadPart_at hC ?_ | (with_reducible refine wpAny_isSubtype_exc hC ?_;first | rw[hcB] | rw[hcA] | rw[hcN]) | wp_step)
 show R _ _
 rw[Heap.size_push]
 exact hq
end
section
variable {prog:Program}{w:World}{A:Around}{E:VP}{h:Heap}{g:Array GenState}{d:Drawn}{t:Nat}{os:OsState}
variable {nm q:Str}{C N:Addr}{bs bm bmB:List Value}{hdct:Bool}{sn:List Str}{sub:List Value}{ab:Bool}{col:Option Bool}{dd:Option Addr}{k0 k1 k2 k3 k5:Option Value}{B newId initId:String}
theorem type_call_own (F:ExcBaseFacts B newId initId bmB)(hB:bm.contains (.type B)=true)(hA:bm.contains (.type "AttributeError")=false)(hN:bm.contains (.type "NameError")=false){rest:List Value}{fI:Addr}{oI:Obj}{Q:PySem.Fin→Shared→Prop}
 (hC:h.get? C=some (excClassObj nm q C N bs bm hdct sn sub ab col dd k0 k1 k2 k3 k5 newId)) (hi:Looks (model prog w) h (typeLookup (.ref C) "__init__") (some (.ref fI)))
 (hfI:h.get? fI=some oI) (hfc:oI.cls=.type "function")
 (hq:∀ h' e,Heap.MadeExcOf h h' e (.ref C) rest→h.objs.size≤e→h.objs.size≤h'.objs.size →
  wpAny (model prog w) A (call (.ref fI) (.ref e::rest)) (fun r s'=>r=.none∧Q (.done (.ret (.ref e))) s') E ⟨h',g,d,t,os⟩) (hrest:rest.length≤sizeLine:=by size_fits) :
 wpAny (model prog w) A (Builtin.«type.__call__» ⟨.ref C::rest,[]⟩) Q E ⟨h,g,d,t,os⟩:=by
 repeat (first | with_reducible refine wpAny_loadPart_at hC ?_ | with_reducible refine wpAny_madeBy_exc hC ?_ | wp_step)
 refine codeAny_call_builtin_code (Code.quiet_builtin _ F.quiet) (check_new_own F hB hC ?_)
 refine exc_new_own F hB hA hN hC ?_ hrest
 show wpAny _ _ _ _ _ _
 have kk:∀ b o,h.get? b=some o→((h.push { cls:=.type "tuple",data:=.seq rest.toArray }).push { cls:=.ref C,data:=.fields #[.ref h.objs.size,.none,.none,.none,.bool false,.none] }).get? b=some o:=fun b o e=>Heap.get?_push_of_some _ (Heap.get?_push_of_some _ e)
 have hC₁:=kk _ _ hC
 have hfI₁:=kk _ _ hfI
 have hi₁:=hi.keeps kk
 have hget:((h.push { cls:=.type "tuple",data:=.seq rest.toArray }).push
  { cls:=.ref C,data:=.fields #[.ref h.objs.size,.none,.none,.none,.bool false,.none] }).get? (h.objs.size+1)=some
  { cls:=.ref C,data:=.fields #[.ref h.objs.size,.none,.none,.none,.bool false,.none] }:=by heap_get
 have hcC:(Value.ref C::bm).contains (.ref C)=true:=by simp
 unfold isInstance
 repeat (first | with_reducible refine wpAny_loadPart_at hget ?_ | (with_reducible refine wpAny_isSubtype_exc hC₁ ?_;rw[hcC]) | wp_step)
 show wpAny _ _ (typeLookup (.ref C) _) _ _ _
 refine hi₁.at ?_
 refine wpAny_holding (wpAny_bind ?_)
 unfold bindSpecial
 refine wpAny_bind (wpAny_typeOf (T:="function") ⟨_,hfI₁,hfc⟩ ?_)
 rw[if_pos (by decide)]
 refine wpAny_pure (wpAny_bind (wpAny_mono (hq _ (h.objs.size+1) ⟨fun b o hb=>Heap.get?_push_of_some _ (Heap.get?_push_of_some _ hb),Heap.get?_none_of_le (Nat.le_succ _),h.objs.size,hget,Heap.get?_none_of_le (Nat.le_refl _),?_⟩ (Nat.le_succ _) (by rw[Heap.size_push,Heap.size_push];lia)) (fun r s' hr=>?_) fun _ _ x=>x))
 · exact Heap.get?_push_of_some _ (Heap.get?_push_at rfl rfl)
 · obtain ⟨rfl,hQ⟩:=hr
   wp_walk
   exact hQ
theorem call_exc_own (F:ExcBaseFacts B newId initId bmB)(hB:bm.contains (.type B)=true)(hA:bm.contains (.type "AttributeError")=false)(hN:bm.contains (.type "NameError")=false){rest:List Value}{fI:Addr}{oI:Obj}{R:RP}
 (hC:h.get? C=some (excClassObj nm q C N bs bm hdct sn sub ab col dd k0 k1 k2 k3 k5 newId)) (hi:Looks (model prog w) h (typeLookup (.ref C) "__init__") (some (.ref fI)))
 (hfI:h.get? fI=some oI) (hfc:oI.cls=.type "function")
 (hq:∀ h' e,Heap.MadeExcOf h h' e (.ref C) rest→h.objs.size≤e→h.objs.size≤h'.objs.size →
  wpAny (model prog w) (A.under (.builtin "type.__call__" ⟨.ref C::rest,[]⟩)) (call (.ref fI) (.ref e::rest)) (fun r s'=>r=.none∧R (.ok (.ret (.ref e))) s') (fun e s'=>R (.error e) s') ⟨h',g,d,t,os⟩) (hrest:rest.length≤sizeLine:=by size_fits) :
 codeAny (model prog w) A (.call (.ref C) ⟨rest,[]⟩) R ⟨h,g,d,t,os⟩:=by
 have f1:=tc_lookup
 have f2:=tc_bind (.ref C)
 have hT:(⟨h,g,d,t,os⟩:Shared).TypeIs (.ref C) "type":=⟨_,hC,rfl⟩
 refine codeAny_of_tree ?_
 show wpAny _ _ (callAny (.ref C) _) _ _ _
 repeat (any_goals (first | assumption | with_reducible refine wpAny_loadPart_at hC ?_ | wp_step))
 refine⟨rfl,?_⟩
 refine codeAny_call_builtin_at (Code.quiet_builtin _ (by decide +kernel)) entry_typeCall (wpAny_check_type_call_sub hC (type_call_own (hrest:=hrest) F hB hA hN hC hi hfI hfc fun h' e hm h1 h2=>?_))
 exact hq h' e hm h1 h2
end
end Mine
section
open PySem.Builtin PySem.Builtin.ObjectAttr PySem.Builtin.Getset_descriptor
namespace Mine
variable [Membership Addr Zip0]
inductive ExcMro:List Value→Prop
 | base:ExcMro [.type "Exception",.type "BaseException",.type "object"]
 | own (a:Addr) {r:List Value}:ExcMro r→ExcMro (.ref a::r)
theorem ExcMro.passes (self:Value){l:List Value}(m:ExcMro l):refuseLoop self "__setattr__" l=pure ():=by
 induction m with
 | base=>exact PySem.F.store_Exception.passes self
 | own a _ ih=>rw[refuseLoop_ref];exact ih
theorem ExcMro.has {l:List Value}(m:ExcMro l):l.contains (.type "object")=true:=by
 induction m with
 | base=>decide
 | own a _ ih=>rw[List.contains_cons,ih,Bool.or_true]
theorem ExcMro.ne {l:List Value}(m:ExcMro l):l.isEmpty=false:=by cases m <;> rfl
section
variable {prog:Program}{w:World}{A:Around}{R:RP}{s:Shared}{K:Frag}{x C:Addr}{cd:ClassData}
theorem osaE_open {ox:Obj}{od:Option Obj}{name:Str}{tk:Tok}{v:Value}(X:K.In s.heap)(I:InstAt s.heap x ox C od)(hc:clsIn K C=some cd)(hm:ExcMro cd.mro)(ha:findIn K (.ref C) name=some none)
 (h:wpAny (model prog w) A.in1 (storeInOwnDict (.ref x) (.ref C) (.str name tk) name v false)
  (fun fin s'=>match fin with | .done f=>R (.ok f) s' | .again c'=>c'.quiet=true∧codeAny (model prog w) A c' R s') (fun e s'=>R (.error e) s') s) :
 codeAny (model prog w) A (.call (.builtin "object.__setattr__") ⟨[.ref x,.str name tk,v],[]⟩) R s:=by
 have SF:=PySem.F.store_object
 have sub:Looks (model prog w) s.heap (isInstance (.ref x) (.type "object")) true:=I.type.andThen (looks_mroIn X (by unfold mroIn;rw[hc,Option.bind_some,if_neg (by rw[hm.ne];decide),hm.has]))
 refine codeAny_call_builtin SF.slot.plain SF.entry (@check_slot (model prog w) _ _ s "object.__setattr__" "object" "__setattr__" (.ref x) [.str name tk,v] [] _ SF.kind SF.split sub (SF.args (.ref x) (.str name tk) v) ?_)
 have hmr:Looks (model prog w) s.heap (mroOf (.ref C)) cd.mro:=(looks_clsIn X hc).andThen .now
 have L3:Looks (model prog w) s.heap (storeTaker? none) none:=.now
 rw[osa_eq,refuse_eq]
 refine wpAny_bind (wpAny_bind (I.type.here (wpAny_bind (hmr.here ?_))))
 rw[hm.passes]
 refine wpAny_pure (wpAny_bind (I.type.here (wpAny_bind ((looks_findIn X ha).here (wpAny_bind (L3.here ?_))))))
 exact h
theorem storeIn_ {s:Shared}{dx:Addr}{es:List DictEntry}{n:Nat}{name:Str}{y:Value}{tk:Tok}{P:PySem.Fin→Shared→Prop}{E:VP}(q1:s.heap.get? dx=some (W.dictOf es n))(hr:es.any (·.refKey)=false)(hz:es.length≤900)
 (h:∀ hsh tk (s':Shared),s'=at_ s (s.heap.update dx (Obj.putName name hsh (.str name tk) y)) (tks s')→(s.heap.update dx (Obj.putName name hsh (.str name tk) y)).get? dx=some (W.dictOf (putL name hsh (.str name tk) y es) (putN name es n))→P (.done (.ret .none)) s'):wpAny (model prog w) A (storeInDict dx (.str name tk) name y) P E s:=by
 refine wpAny_bind (wpAny_pure (wpAny_bind ?_))
 unfold nsSet
 refine wpAny_bind (wpAny_bind (wpAny_askSetting (wpAny_pure (wpAny_bind (wpAny_mkText (wpAny_bind (wpAny_loadPart q1 ?_)))))))
 have cc:(!es.toArray.any (·.key.isStr name)&&es.toArray.any (·.refKey))=false:=by
  rw[← Array.any_toList,← Array.any_toList]
  show (!es.any (·.key.isStr name)&&es.any (·.refKey))=false
  rw[hr,Bool.and_false]
 dsimp only
 rw[aRefKeyMayBeTheName_at,cc]
 refine wpAny_updatePart q1 ?_
 have hp2:∀ hsh key,(s.heap.update dx (Obj.putName name hsh key y)).get? dx=some (W.dictOf (putL name hsh key y es) (putN name es n)):=fun hsh key=>by
  rw[← putName_dict]
  exact Heap.get?_update_self _ q1 (by rw[putName_dict];rfl)
 refine wpAny_bind (wpAny_lookBehind (hp2 _ _) (pastItsLine_dict ?_) ?_)
 · rw[List.size_toArray,sizeLine_is]
   refine Nat.le_trans (putL_length ..) ?_
   exact nll (by assumption) (by rfl)
 · refine wpAny_pure ?_
   exact h _ _ _ rfl (hp2 _ _)
end
section
variable {c:Cx}{N:Lv}{env:Env}{ρ:Rho}{σ:Sig}{Q:PV}{X:PX}
theorem A_setE {a C dx:Addr}{nw:Bool}{l:List (Str×V)}{name:Str}{v:V}{cd:ClassData}{Q:Sig→Prop}(e1:σ a=some (.exc C (some dx) nw))(e2:σ dx=some (.ns l))(q:Q (upd σ dx (.ns (putA l name v))))(hz:l.length≤900)
 (hs:findIn c.K (.ref C) "__setattr__"=some (some (.builtin "object.__setattr__"))) (hc:clsIn c.K C=some cd) (hm:ExcMro cd.mro) (ht:findIn c.K (.ref C) name=some none) (hh:cd.hasDict=true):SetOp c N σ (.raw (.ref a)) name v Q X:=fun A s QQ EE x y ak R r1 r2 p xp=>by
 simp only[jt1,jt2,jt3,jt4,jt5,jt6] at r1;subst r1
 have KX:=c.KIn.keeps R.static
 refine el68 ((R.obj dx _ e2).2) ?_;intro es n q1 q2
 refine el75 ((R.obj a _ e1).2) ?_;intro vs hx _
 have I:InstAt s.heap a ⟨.ref C,some dx,.fields vs,#[]⟩ C (some (W.dictOf es n)):=⟨hx,rfl,rfl,q1⟩
 refine set_plain KX I hs (osaE_open (s:={ s with toks:=s.toks+1 }) KX I hc hm ht ?_)
 refine wpAny_bind (wpAny_pure (wpAny_bind (wpAny_bind (wpAny_loadPart hx (wpAny_bind ((looks_clsIn KX hc) _ _ _ _ (fun _ _ e=>e) ?_))))))
 rw[hh]
 refine wpAny_pure (a:=some dx) ?_
 refine storeIn_ (s:={ s with toks:=s.toks+1 }) q1 q2.norefs (by rw[q2.length];exact hz) fun hsh tk s' es' hp2=>?_
 have hsb:Heap.SameBut dx s.heap (s.heap.update dx (Obj.putName name hsh (.str name tk) y)):=.update ..
 have x:Ext (dom σ) s.heap (s.heap.update dx (Obj.putName name hsh (.str name tk) y)):=.same hsb (.inl (by show σ dx≠none;rw[e2];simp))
 rw[es']
 exact p () () _ _ _ q trivial (R.change e2 hsb ⟨_,_,hp2,EsR.mono (fun _ _ t=>IsTup.ext R.noTup x t) _ _ (EsR.put r2 q2)⟩) x (.upd (.inl (by rw[e2];simp)))
theorem upd_upd (σ:Sig)(a:Addr)(m m':MO):upd (upd σ a m) a m'=upd σ a m':=by
 funext b
 by_cases h:b=a
 · subst h;rw[upd_same,upd_same]
 · rw[upd_ne _ _ h,upd_ne _ _ h,upd_ne _ _ h]
theorem A_setE_new {a C:Addr}{nw:Bool}{name:Str}{v:V}{cd:ClassData}{Q:Sig→Prop}(e1:σ a=some (.exc C none nw))(q:∀ dx,σ dx=none→dx≠a→Q (upd (upd σ a (.exc C (some dx) nw)) dx (.ns [(name,v)])))
 (hs:findIn c.K (.ref C) "__setattr__"=some (some (.builtin "object.__setattr__"))) (hc:clsIn c.K C=some cd) (hm:ExcMro cd.mro) (ht:findIn c.K (.ref C) name=some none) (hh:cd.hasDict=true):SetOp c N σ (.raw (.ref a)) name v Q X:=fun A s QQ EE x y ak R r1 r2 p xp=>by
 simp only[jt1,jt2,jt3,jt4,jt5,jt6] at r1;subst r1
 have KX:=c.KIn.keeps R.static
 refine el75 ((R.obj a _ e1).2) ?_;intro vs hx hnw
 have I:InstAt s.heap a ⟨.ref C,none,.fields vs,#[]⟩ C none:=⟨hx,rfl,rfl,trivial⟩
 refine set_plain KX I hs (osaE_open (s:={ s with toks:=s.toks+1 }) KX I hc hm ht ?_)
 refine wpAny_bind (wpAny_pure (wpAny_bind (wpAny_bind (wpAny_loadPart hx (wpAny_bind ((looks_clsIn KX hc) _ _ _ _ (fun _ _ e=>e) ?_))))))
 rw[hh]
 have hx₁:(s.heap.push { cls:=.type "dict",data:=.dict #[] }).get? a=some ⟨.ref C,none,.fields vs,#[]⟩:=Heap.get?_push_of_some _ hx
 have hxs:a≠s.heap.objs.size:=Nat.ne_of_lt (Heap.lt_size hx)
 refine wpAny_bind (wpAny_alloc' ?_)
 refine wpAny_bind (wpAny_update' hx₁ ?_)
 refine wpAny_pure ?_
 have hsb1:Heap.SameBut a (s.heap.push { cls:=.type "dict",data:=.dict #[] }) ((s.heap.push { cls:=.type "dict",data:=.dict #[] }).update a fun o=>{ o with dict:=some s.heap.objs.size }):=.update ..
 have hd1:(s.heap.push { cls:=.type "dict",data:=.dict #[] }).get? s.heap.objs.size=some (W.dictOf [] 0):=Heap.get?_push_size _ rfl
 have hd2:((s.heap.push { cls:=.type "dict",data:=.dict #[] }).update a fun o=>{ o with dict:=some s.heap.objs.size }).get? s.heap.objs.size=some (W.dictOf [] 0):=(hsb1.2 _ hxs.symm).trans hd1
 have ha2:((s.heap.push { cls:=.type "dict",data:=.dict #[] }).update a fun o=>{ o with dict:=some s.heap.objs.size }).get? a=some ⟨.ref C,some s.heap.objs.size,.fields vs,#[]⟩:=Heap.get?_update_self _ hx₁ rfl
 refine storeIn_ (s:={ s with heap:=(s.heap.push { cls:=.type "dict",data:=.dict #[] }).update a fun o=>{ o with dict:=some s.heap.objs.size },toks:=s.toks+1 }) hd2 rfl (by simp) fun hsh tk s' es' hp2=>?_
 rw[es']
 have f:=R.fresh
 have x1:Ext (dom σ) s.heap (s.heap.push { cls:=.type "dict",data:=.dict #[] }):=.push _ _
 have x2:Ext (dom σ) (s.heap.push { cls:=.type "dict",data:=.dict #[] }) ((s.heap.push { cls:=.type "dict",data:=.dict #[] }).update a fun o=>{ o with dict:=some s.heap.objs.size }):=.same hsb1 (.inl (by show σ a≠none;rw[e1];simp))
 have R1:Rel c σ (s.heap.push { cls:=.type "dict",data:=.dict #[] }):=R.push _
 have R2:=R1.change (m':=.exc C (some s.heap.objs.size) nw) e1 hsb1 ⟨vs,ha2,hnw⟩
 have R3:=R2.add (m:=.ns []) R.size ⟨[],0,hd2,rfl⟩
 have hsb3:Heap.SameBut s.heap.objs.size ((s.heap.push { cls:=.type "dict",data:=.dict #[] }).update a fun o=>{ o with dict:=some s.heap.objs.size }) (((s.heap.push { cls:=.type "dict",data:=.dict #[] }).update a fun o=>{ o with dict:=some s.heap.objs.size }).update s.heap.objs.size (Obj.putName name hsh (.str name tk) y)):=.update ..
 have x3:Ext (fun b=>b=s.heap.objs.size) ((s.heap.push { cls:=.type "dict",data:=.dict #[] }).update a fun o=>{ o with dict:=some s.heap.objs.size }) (((s.heap.push { cls:=.type "dict",data:=.dict #[] }).update a fun o=>{ o with dict:=some s.heap.objs.size }).update s.heap.objs.size (Obj.putName name hsh (.str name tk) y)):=.same hsb3 (.inl rfl)
 have xx:Ext (dom σ) s.heap (((s.heap.push { cls:=.type "dict",data:=.dict #[] }).update a fun o=>{ o with dict:=some s.heap.objs.size }).update s.heap.objs.size (Obj.putName name hsh (.str name tk) y)):=(x1.trans x2 fun _ q=>.inl q).trans x3 fun b e=>.inr (by rw[e];exact Nat.le_refl _)
 have R4:=R3.change (m':=.ns [(name,v)]) (upd_same _ _ _) hsb3 ⟨_,_,hp2,(by
  have:=EsR.put (name:=name) (hsh:=hsh) (tk:=tk) (R.vr xx r2) (l:=[]) (es:=[]) rfl
  exact this)⟩
 rw[upd_upd] at R4
 refine p () () _ _ _ (q s.heap.objs.size f hxs.symm) trivial R4 xx fun b hb=>?_
 by_cases h1:b=s.heap.objs.size
 · exact .inr (by rw[h1];exact Nat.le_refl _)
 · rw[upd_ne _ _ h1] at hb
   by_cases h2:b=a
   · subst h2;exact .inl (by rw[e1];simp)
   · rw[upd_ne _ _ h2] at hb;exact .inl hb
end
end Mine
end
namespace Mine
variable [Membership Addr Zip0]
section
variable {M:Model}{A:Around}{E:VP}{s:Shared}{env:Env}
theorem raiseStmt_own {x:Sem Value}{Q:Flow→Shared→Prop}(hh:A.handled=none)
 (h:wpAny M A x (fun v s₁=>∃ e C dx vs oC,v=.ref e∧s₁.heap.get? e=some ⟨.ref C,some dx,.fields vs,#[]⟩∧vs[1]?=some .none∧s₁.heap.get? C=some oC∧oC.cls=.type "type"∧Looks M s₁.heap (isSubtype (.ref C) (.type "BaseException")) true∧E (.ref e) s₁) E s):wpAny M A (raiseStmt env (some x) none) Q E s:=by
 unfold raiseStmt
 refine wpAny_bind (wpAny_mono h (fun v s₁ h₁=>?_) fun _ _ x=>x)
 refine el15 h₁ ?_;(try clear h₁);intro e C dx vs oC ze237 he h1 hC hcC hsub hE;subst ze237
 obtain ⟨hp,g,d,tk,os⟩:=s₁
 repeat (first | with_reducible refine wpAny_field he rfl h1 ?_ | with_reducible refine wpAny_loadPart_at he ?_ | (with_reducible refine wpAny_loadPart_at hC ?_;rw[hcC]) | (with_reducible refine hsub.at ?_) | wp_step)
 exact wpAny_raiseNew_none hh hE
end
section
variable {c:Cx}{N:Lv}{env:Env}{ρ:Rho}{σ:Sig}{Q:PV}{X:PX}{SQ:PF}{SX:PE}
noncomputable def del (σ:Sig)(a:Addr):Sig:=fun b=>if b=a then none else σ b
theorem del_same (σ:Sig)(a:Addr):del σ a a=none:=by simp [del]
theorem del_some {σ:Sig}{a b:Addr}{m:MO}(h:del σ a b=some m):b≠a∧σ b=some m:=by
 unfold del at h
 split at h
 · cases h
 · exact⟨‹_›,h⟩
theorem del_none {σ:Sig}{a b:Addr}(h:σ b=none):del σ a b=none:=by
 unfold del;split <;> first | rfl | exact h
theorem Rel.del {h:Heap}(R:Rel c σ h)(a:Addr):Rel c (del σ a) h:=⟨R.static,R.size,R.fz,fun b m e=>R.obj b m (del_some e).2⟩
theorem EnvR.del {h:Heap}(Ev:EnvR c σ env ρ h)(a:Addr):EnvR c (del σ a) env ρ h:=
 { Ev with
   loc:=⟨del_none Ev.loc.1,Ev.loc.2⟩
   cells:=fun x k e=>el78 (Ev.cells x k e) fun a1 r=>⟨del_none a1,r⟩ }
theorem Grown.del {h:Heap}{σ':Sig}(g:Grown σ h σ')(a:Addr):Grown σ h (del σ' a):=fun b q=>g b fun e=>q (del_none e)
theorem S_raise {e:PySem.Expr}{pos:Pos}(hhn:N.hn=true)
 (g:EvG c N env ρ e σ (fun v σ1=>∃ a C dx fs oC,v=.raw (.ref a)∧σ a=none∧σ dx=none∧σ1 a=some (.exc C (some dx) true)∧σ1 dx=some (.ns fs)∧c.K.lookup C=some oC∧oC.cls=.type "type"∧subIn c.K (.ref C) (.type "BaseException")=some true∧SX ⟨C,fs⟩ ρ (del (del σ1 a) dx)) (fun ex σ'=>SX ex ρ σ')):StG c N env ρ (.Raise (some e) none pos) σ SQ SX:=fun A s QQ EE ot ak R E p xp=>by
 rw[arm_exec_Raise]
 show wpAny _ A (do standAt pos;raiseStmt env (some (do let v ← eval e env;standAt pos;pure v)) none) QQ EE s
 refine wpAny_bind (wpAny_standAt (raiseStmt_own (ak.han hhn) (wpAny_bind (EvG.inS g ak R E xp fun v y σ1 h1 tk1 q r R1 E1 a1 x1 gr1=>wpAny_bind (wpAny_standAt (wpAny_pure ?_))))))
 refine el8 q ?_;(try clear q);intro a C dx fs oC ze238 n1 n2 e1 e2 hC hcC hsub q;subst ze238
 simp only[jt1,jt2,jt3,jt4,jt5,jt6] at r;subst r
 have KX:=c.KIn.keeps R1.static
 refine el75 ((R1.obj a _ e1).2) ?_;intro vs he hnw
 refine el77 (hnw rfl) ?_;intro hz hv1 hv2
 refine el68 ((R1.obj dx _ e2).2) ?_;intro es n hd hr
 have la:s.heap.objs.size≤a:=(gr1 a (by rw[e1];simp)).elim (fun z=>absurd n1 z) id
 have ld:s.heap.objs.size≤dx:=(gr1 dx (by rw[e2];simp)).elim (fun z=>absurd n2 z) id
 have hne:dx≠a:=fun q=>by rw[q,e1] at e2;cases e2
 refine⟨a,C,dx,vs,oC,rfl,he,hv1,KX _ _ hC,hcC,looks_subIn KX hsub,?_⟩
 refine xp a ⟨C,fs⟩ ρ (del (del σ1 a) dx) h1 tk1 q ⟨la,(R1.obj a _ e1).1,del_none (del_same _ _),dx,vs,he,⟨hz,fun _=>hv2⟩,ld,(R1.obj dx _ e2).1,del_same _ _,hne,⟨es,n,hd,hr⟩,.inl hv1⟩ ((R1.del a).del dx) ((E1.del a).del dx) x1.both ((gr1.del a).del dx)
theorem C_exc {n:Nat}{hn:Bool}{C fI:Addr}{args:List V}{nm q:Str}{Nn:Addr}{bs bm bmB:List Value}{hdct:Bool}{sn:List Str}{sub:List Value}{ab:Bool}{col:Option Bool}{dd:Option Addr}{k0 k1 k2 k3 k5:Option Value}{B newId initId:String}
 (F:ExcBaseFacts B newId initId bmB) (hB:bm.contains (.type B)=true) (hA:bm.contains (.type "AttributeError")=false) (hN:bm.contains (.type "NameError")=false)
 (hK:c.K.lookup C=some (excClassObj nm q C Nn bs bm hdct sn sub ab col dd k0 k1 k2 k3 k5 newId))
 (hi:findIn c.K (.ref C) "__init__"=some (some (.ref fI))) (hf:isFn c.K (.ref fI)=true) (hz:args.length≤1000)
 (g:∀ a,σ a=none→CodeOp c ⟨n,hn⟩ (upd σ a (.exc C none true)) (.ref fI) (.raw (.ref a)::args) (fun v σ'=>v=.none∧Q (.raw (.ref a)) σ') X):CodeOp c ⟨n+1,hn⟩ σ (.ref C) args Q X:=fun A s R' ys a R r p xp=>by
 have KX:=c.KIn.keeps R.static
 obtain ⟨oI,hfI,hfc⟩:∃ of,s.heap.get? fI=some of∧of.cls=.type "function":=by
  have ht':(c.K.lookup fI).map (·.cls)=some (.type "function"):=beq_iff_eq.mp hf
  cases z:c.K.lookup fI with
  | none=>rw[z] at ht';cases ht'
  | some of=>rw[z] at ht';exact⟨of,KX _ _ z,Option.some.inj ht'⟩
 have hl:ys.length≤1000:=by rw[r.length];exact hz
 refine call_exc_own F hB hA hN (KX _ _ hK) (looks_findIn KX hi) hfI hfc (fun h' e m h1 h2=>?_) (by rw[sizeLine_is];exact nle (by assumption) (by rfl))
 obtain ⟨kp,nw,t,he,ht,htt⟩:=m
 have x1:Ext (dom σ) s.heap h':=ext_grow kp h2
 have f1:σ e=none:=fresh_of R h1
 have R1:=(R.grow kp h2).add (m:=.exc C none true) (Nat.le_trans R.size h1) ⟨_,he,fun _=>⟨by simp,rfl,rfl⟩⟩
 have gr:Grown σ s.heap (upd σ e (.exc C none true)):=.upd (.inr h1)
 refine (g e f1).call _ (at_ s h' (tks s)) _ _ (.ref e::ys) (a.ext x1 gr).make R1 (.cons (by simp only[jt1,jt2,jt3,jt4,jt5,jt6]) (R.vrs x1 r)) ?_ ?_
 · intro v y σ' h'' tk' ⟨ev,q⟩ ry R'' x gr'
   subst ev
   simp only[jt1,jt2,jt3,jt4,jt5,jt6] at ry
   exact⟨ry,p _ _ σ' h'' tk' q (by simp only[jt1,jt2,jt3,jt4,jt5,jt6]) R'' (x1.trans x (dom_back gr)) (gr.trans gr' x1.size)⟩
 · exact fun e' ex σ' h'' tk' q f R'' x gr'=>xp e' ex σ' h'' tk' q (f.lo x1.size) R'' (x1.trans x (dom_back gr)) (gr.trans gr' x1.size)
end
end Mine
namespace Mine
variable [Membership Addr Zip0]
theorem slot_wd_get:Slot "wrapper_descriptor" "__get__" "wrapper_descriptor.__get__":=.of (owner:="wrapper_descriptor") (n:="__get__") (by rw[typeLookup_type,builtinLookup_eq_fast];kernel_rfl) (by decide +kernel) (by decide +kernel) (by decide +kernel)
 (by first | exact .inl (by decide +kernel) | exact .inr (by decide +kernel)) (by rw[isSubtype_type];kernel_rfl)
theorem entry_wd_get:entryFor table "wrapper_descriptor.__get__"=some Builtin.«wrapper_descriptor.__get__»:=entryFor_of_tree (by kernel_rfl)
theorem args_wd_get (a b c:Value):argsOk "wrapper_descriptor.__get__" ⟨[a,b,c],[]⟩:=by unfold argsOk;kernel_rfl
theorem type_exc_init:typeOf (.builtin "Exception.__init__")=pure (.type "wrapper_descriptor"):=by kernel_rfl
theorem ecut_ : ".".intercalate ("Exception.__init__".cutAt '.').dropLast="Exception":=by kernel_rfl
section
variable {prog:Program}{w:World}{A:Around}{E:VP}{h:Heap}{g:Array GenState}{d:Drawn}{t:Nat}{os:OsState}
set_option maxHeartbeats 2000000 in
theorem super_ga_b {so D x C:Addr}{ox:Obj}{l₀ l:List Value}{K:Frag}{tk:Tok}{Q:PySem.Fin→Shared→Prop}
 (hso:h.get? so=some { cls:=.type "super",dict:=none,data:=.fields #[.ref D,.ref x,.ref C],slots:=#[] }) (hno:Looks (model prog w) h (opaqueClassAbove (.ref C)) none)
 (hC:Looks (model prog w) h (mroOf (.ref C)) l₀) (hl:(l₀.dropWhile (· != .ref D)).drop 1=l) (X:K.In h)
 (hf:alongIn K "__init__" l=some (some (.builtin "Exception.__init__"))) (hx:h.get? x=some ox) (hxc:ox.cls=.ref C) (hsub:Looks (model prog w) h (isSubtype (.ref C) (.type "Exception")) true) (hxC:x≠C)
 (hq:Q (.done (.ret (.ref h.objs.size))) ⟨h.push { cls:=.type "method-wrapper",data:=.fields #[.builtin "Exception.__init__",.ref x] },g,d,t,os⟩) :
 wpAny (model prog w) A (Builtin.«super.__getattribute__» ⟨[.ref so,.str "__init__" tk],[]⟩) Q E ⟨h,g,d,t,os⟩:=by
 have hlk:=slot_wd_get.lookup
 have hne:(Value.ref x==Value.ref C)=false:=by simp [hxC]
 have hn:(("__init__" : Str)==("__class__" : Str))=false:=by decide
 have hty:=type_exc_init
 have hTf:(⟨h,g,d,t,os⟩:Shared).TypeIs (.builtin "Exception.__init__") "wrapper_descriptor":=by exact type_exc_init
 have ecut:=ecut_
 have hdt:({ cls:=.type "super",dict:=none,data:=.fields #[.ref D,.ref x,.ref C],slots:=#[] }:Obj).data=.fields #[.ref D,.ref x,.ref C]:=rfl
 have f0:(#[.ref D,.ref x,.ref C]:Array Value)[0]?=some (.ref D):=rfl
 have f1:(#[.ref D,.ref x,.ref C]:Array Value)[1]?=some (.ref x):=rfl
 have f2:(#[.ref D,.ref x,.ref C]:Array Value)[2]?=some (.ref C):=rfl
 unfold Builtin.«super.__getattribute__»
 repeat (first
  | (with_reducible refine wpAny_field hso hdt f0 ?_) | (with_reducible refine wpAny_field hso hdt f1 ?_) | (with_reducible refine wpAny_field hso hdt f2 ?_)
  | (with_reducible refine ks_wpAny_notOpaque hno ?_)
  | (with_reducible refine Looks.at hC ?_;rw[hl])
  | (refine ks_forIn_along X (fun _ _=>rfl) rfl ?_ hf)
  | (with_reducible refine wpAny_typeOf hTf ?_)
  | (with_reducible refine wpAny_call_entry slot_wd_get hTf entry_wd_get ?_ (args_wd_get _ _ _))
  | (with_reducible refine wpAny_loadPart_at hx ?_;rw[hxc])
  | (with_reducible refine hsub.at ?_)
  | (rw[ecut];with_reducible refine hsub.at ?_)
  | (with_reducible refine⟨_,rfl,?_⟩)
  | (with_reducible refine wpAny_ite_false (by simp [hn];done) ?_)
  | (simp only[hn,hne,Bool.or_false,Bool.false_eq_true,if_false])
  | wp_step
  | dsimp only)
 all_goals exact hq
theorem getMethod_super_b {so D x C:Addr}{ox:Obj}{l₀ l:List Value}{K:Frag}{pl:Sem Bool}{Q:Value×List Value→Shared→Prop}
 (hso:h.get? so=some { cls:=.type "super",dict:=none,data:=.fields #[.ref D,.ref x,.ref C],slots:=#[] }) (hno:Looks (model prog w) h (opaqueClassAbove (.ref C)) none)
 (hC:Looks (model prog w) h (mroOf (.ref C)) l₀) (hl:(l₀.dropWhile (· != .ref D)).drop 1=l) (X:K.In h)
 (hf:alongIn K "__init__" l=some (some (.builtin "Exception.__init__"))) (hx:h.get? x=some ox) (hxc:ox.cls=.ref C) (hsub:Looks (model prog w) h (isSubtype (.ref C) (.type "Exception")) true) (hxC:x≠C)
 (hq:Q (.ref h.objs.size,[]) ⟨h.push { cls:=.type "method-wrapper",data:=.fields #[.builtin "Exception.__init__",.ref x] },g,d,t+1,os⟩) :
 wpAny (model prog w) A (getMethod (.ref so) "__init__" pl) Q E ⟨h,g,d,t,os⟩:=by
 have hlk:=F.ks_slot_super_ga.lookup
 have hcan:=F.ks_canon_super_ga
 have hT:∀ t',(⟨h,g,d,t',os⟩:Shared).TypeIs (.ref so) "super":=fun _=>⟨_,hso,rfl⟩
 unfold getMethod
 refine wpAny_bind (wpAny_specialOf (hT _) hlk ?_)
 show wpAny _ _ (if (Manifest.canonical "super.__getattribute__" != "object.__getattribute__")=true then _ else _) _ _ _
 rw[if_pos hcan]
 unfold getAttr getAttrBy
 refine wpAny_bind (wpAny_bind (wpAny_mkText (wpAny_holding (wpAny_bind (wpAny_typeOf (hT _) (wpAny_bind (wpAny_of_eq hlk ?_)))))))
 show wpAny _ _ (getAttrByItsOwn (.ref so) (.str "__init__" t) (.type "super") (.builtin "super.__getattribute__") true false) _ _ _
 unfold getAttrByItsOwn hookBefore callGetattribute boundAndCalled
 refine wpAny_bind (wpAny_of_eq (show (if onTheHeap (.type "super") then typeLookup (.type "super") "__getattr__" else pure none)=pure none from rfl) ?_)
 refine wpAny_bind (wpAny_attempt (wpAny_holding ?_))
 show wpAny _ _ (bindSpecial (.builtin "super.__getattribute__") (.ref so) >>= _) _ _ _
 refine wpAny_bind (wpAny_of_eq (F.ks_slot_super_ga.bind _) ?_)
 refine wpAny_mono (Q:=fun v s'=>v=.ref h.objs.size∧s'=⟨h.push { cls:=.type "method-wrapper",data:=.fields #[.builtin "Exception.__init__",.ref x] },g,d,t+1,os⟩) (E:=fun _ _=>False)
  (wpAny_call_entry F.ks_slot_super_ga (hT _) F.ks_entry_super_ga (super_ga_b hso hno hC hl X hf hx hxc hsub hxC ⟨_,rfl,rfl,rfl⟩) (F.ks_gaArgs_super _ _)) (fun v s' hv=>?_) fun _ _ z=>z.elim
 obtain ⟨rfl,rfl⟩:=hv
 exact wpAny_pure (wpAny_pure hq)
theorem checkBound_b {M:Model}{x C:Addr}{ox:Obj}{c0:Value}{dd:Option Addr}{cd:ClassData}{sl:Array (Option Value)}{v:Value}{Q:UP}(hx:h.get? x=some ox)(hxc:ox.cls=.ref C)(hC:h.get? C=some { cls:=c0,dict:=dd,data:=.cls cd,slots:=sl })
 (hq:Q () ⟨h,g,d,t,os⟩):wpAny M A (checkBoundCall "Exception.__init__" ⟨[.ref x,v],[]⟩) Q E ⟨h,g,d,t,os⟩:=by
 have F:=PySem.F.excBase_Exception
 unfold checkBoundCall
 rw[F.initRow,F.initKind]
 dsimp only
 rw[if_pos (by decide)]
 repeat (first | (with_reducible refine wpAny_loadPart_at hx ?_;rw[hxc]) | with_reducible refine wpAny_loadPart_at hC ?_ | wp_step)
 exact hq
theorem call_mw {mw x C:Addr}{dO:Option Addr}{vs:Array Value}{v t0:Value}{Q:VP}(hmw:h.get? mw=some { cls:=.type "method-wrapper",data:=.fields #[.builtin "Exception.__init__",.ref x] })
 (hx:h.get? x=some ⟨.ref C,dO,.fields vs,#[]⟩) (h0:vs[0]?=some t0) {c0:Value}{dd:Option Addr}{cd:ClassData}{sl:Array (Option Value)} (hC:h.get? C=some { cls:=c0,dict:=dd,data:=.cls cd,slots:=sl })
 (hq:∀ h' ,(h'.get? x=some ⟨.ref C,dO,.fields (vs.setIfInBounds 0 (.ref h.objs.size)),#[]⟩)→(∀ b o,b≠x→h.get? b=some o→h'.get? b=some o)→h.objs.size≤h'.objs.size→Q .none ⟨h',g,d,t,os⟩) :
 wpAny (model prog w) A (call (.ref mw) [v]) Q E ⟨h,g,d,t,os⟩:=by
 refine wpAny_call (codeAny_of_tree ?_)
 show wpAny _ _ (callAny (.ref mw) _) _ _ _
 unfold callAny
 refine wpAny_bind (wpAny_load hmw ?_)
 refine wpAny_bind (checkBound_b hx rfl hC ?_)
 refine wpAny_pure ⟨Code.quiet_builtin _ (by decide +kernel),codeAny_builtin PySem.F.excBase_Exception.initEntry ?_⟩
 have hx1:(h.push { cls:=.type "tuple",data:=.seq #[v] }).get? x=some ⟨.ref C,dO,.fields vs,#[]⟩:=Heap.get?_push_of_some _ hx
 have hlt:x<h.objs.size:=Heap.lt_size hx
 unfold Builtin.«BaseException.__init__»
 wp_walk
 rw[h0]
 refine wpAny_pure ?_
 have h0':0<vs.size:=(Array.getElem?_eq_some_iff.mp h0).1
 show wpAny _ _ (setField (.ref x) 0 (.ref h.objs.size) >>= _) _ _ _
 refine wpAny_bind (wpAny_setField hx1 rfl h0' ?_)
 have hs:Heap.SameBut x (h.push { cls:=.type "tuple",data:=.seq #[v] }) ((h.push { cls:=.type "tuple",data:=.seq #[v] }).update x (Obj.mapFields (·.setIfInBounds 0 (Value.ref h.objs.size)))):=.update ..
 have fin:Q .none ⟨(h.push { cls:=.type "tuple",data:=.seq #[v] }).update x (Obj.mapFields (·.setIfInBounds 0 (Value.ref h.objs.size))),g,d,t,os⟩:=by
  refine hq _ (Heap.get?_update_self _ hx1 rfl) (fun b o hb e=>(hs.2 b hb).trans (Heap.get?_push_of_some _ e)) ?_
  rw[hs.1,Heap.size_push];exact Nat.le_succ _
 cases t0 <;> first | exact wpAny_pure (wpAny_pure fin) | exact wpAny_letGo (wpAny_pure fin)
end
end Mine
namespace Mine
variable [Membership Addr Zip0]
section
variable {c:Cx}{N:Lv}{env:Env}{ρ:Rho}{σ:Sig}{A:Around}{M:Model}{E:VP}{s:Shared}
noncomputable abbrev bare (env:Env):Env:={ env with cells:=[] }
theorem bare_store {env:Env}{x:Str}{y:Value}(hk:env.scope.kind=.function)(hl:env.kindOf x=some .local):storeName env x y=storeName (bare env) x y:=by
 have hp:(env.scope.kind==.class||(env.scope.kind==.module&&env.locals != env.globals))=false:=by rw[hk];rfl
 rw[storeName_local hl hp,storeName_local (env:=bare env) hl hp]
theorem bind_loopB (f:Str×Value→PUnit→Sem (ForInStep PUnit))(hf:∀ n v u,f (n,v) u=(do storeName env n v;pure (.yield ⟨⟩)))(hk:env.scope.kind=.function) :
 ∀ (xs:List Str) (vs:List V) (ys:List Value) (ρ ρ':Rho) (s:Shared) (Q:PUnit→Shared→Prop),(∀ x∈xs,env.kindOf x=some .local)→VRs s.heap vs ys→Binds (xs.zip vs) ρ ρ'→Rel c σ s.heap→EnvR c σ (bare env) ρ s.heap →
  (∀ h' tk,Rel c σ h'→EnvR c σ (bare env) ρ' h'→Ext (mine (bare env)) s.heap h'→(∀ o,s.heap.get? env.locals=some o→∃ o',h'.get? env.locals=some o'∧o'.cls=o.cls)→Q ⟨⟩ (at_ s h' tk))→wpAny M A (forIn (xs.zip ys) ⟨⟩ f) Q E s
 | [],vs,ys,ρ,ρ',s,Q,hx,r,b,R,Ev,h=>by
  simp only[List.zip_nil_left] at b ⊢
  cases b
  rw[List.forIn_nil]
  exact wpAny_pure (h s.heap (tks s) R Ev (.refl _) fun o e=>⟨o,e,rfl⟩)
 | x::xs,[],ys,ρ,ρ',s,Q,hx,r,b,R,Ev,h=>by
  simp only[ju1,ju2] at r;subst r
  simp only[List.zip_nil_right] at b ⊢
  cases b
  rw[List.forIn_nil]
  exact wpAny_pure (h s.heap (tks s) R Ev (.refl _) fun o e=>⟨o,e,rfl⟩)
 | x::xs,v::vs,ys,ρ,ρ',s,Q,hx,r,b,R,Ev,h=>by
  simp only[ju1,ju2] at r
  refine el61 r ?_;(try clear r);intro y ys ze239 r1 r2;subst ze239
  simp only[List.zip_cons_cons] at b ⊢
  cases b with
  | cons pt b=>
   rw[List.forIn_cons,hf,bare_store hk (hx x (.head _))]
   refine wpAny_bind (wpAny_bind (store_ R Ev pt r1 fun h1 tk1 R1 E1 x1 k1=>wpAny_pure ?_))
   refine bind_loopB f hf hk xs vs ys _ _ (at_ s h1 tk1) Q (fun x hx'=>hx x (.tail _ hx')) (VRs.ext Ev.mine_noTup x1 r2) b R1 E1 fun h2 tk2 R2 E2 x2 k2=>h h2 tk2 R2 E2 (x1.trans x2 fun a q=>.inl q) fun o e=>?_
   refine el75 (k1 o e) ?_;intro o1 e1 c1
   refine el75 (k2 o1 e1) ?_;intro o2 e2 c2
   exact⟨o2,e2,c2.trans c1⟩
theorem cellsFrom_id {n:Nat}:∀ {names:List (Str×NameKind)}{acc:List (Str×Addr)},(∀ x∈names,x.2≠.cell)→cellsFrom n names acc=acc
 | [],acc,_=>rfl
 | (x,k)::r,acc,hc=>by
  have:(k==NameKind.cell)=false:=by
   have:=hc _ (.head _)
   cases k <;> first | rfl | exact absurd rfl this
  unfold cellsFrom
  rw[this]
  exact cellsFrom_id fun y hy=>hc y (.tail _ hy)
theorem pushCells_id {h:Heap}:∀ {names:List (Str×NameKind)},(∀ x∈names,x.2≠.cell)→pushCells h names=h
 | [],_=>rfl
 | (x,k)::r,hc=>by
  have:(k==NameKind.cell)=false:=by
   have:=hc _ (.head _)
   cases k <;> first | rfl | exact absurd rfl this
  unfold pushCells
  rw[this]
  exact pushCells_id fun y hy=>hc y (.tail _ hy)
theorem enterC_ {scope:Scope}{xs:List Str}{vs:List V}{ys:List Value}{qual:Str}{func:Option Addr}{code:Value}{cl:List (Str×Addr)}{ρ0 ρ1:Rho}{Q:Env→Shared→Prop}(R:Rel c σ s.heap)(r:VRs s.heap vs ys)(hk:scope.kind=.function)
 (hcell:∀ x∈scope.names,x.2≠.cell) (hxs:∀ x∈xs,scope.names.lookup x=some .local)
 (hkeys:∀ x∈ρ0.map (·.1),scope.names.lookup x=some .local) (hnd:(ρ0.map (·.1)).Nodup) (hnone:∀ p∈ρ0,p.2=none) (hb:Binds (xs.zip vs) ρ0 ρ1)
 (h:∀ env h' tk,env=newEnv scope s.heap.objs.size mainGlobals cl qual func code none builtinsNs→Rel c σ h'→EnvR c σ (bare env) ρ1 h'→Ext (dom σ) s.heap h'→(∃ o es n,h'.get? s.heap.objs.size=some o∧o.cls=.type "frame"∧o.data=.dict es n)→Q env (at_ s h' tk)) :
 wpAny M A (newFunctionEnv scope mainGlobals cl (xs.zip ys) qual func code none builtinsNs) Q E s:=by
 simp only[newFunctionEnv,Option.isSome_none,Bool.false_eq_true,if_false]
 refine wpAny_bind (wpAny_alloc ?_)
 refine wpAny_bind (wpAny_layCells _ (fun name kind cells=>by cases hkc:kind==NameKind.cell <;> simp [hkc]) _ _ _ _ ?_)
 rw[cellsFrom_id hcell,pushCells_id hcell]
 have hL:(s.heap.push { cls:=.type "frame",data:=.dict #[] }).get? s.heap.objs.size=some { cls:=.type "frame",data:=.dict #[] }:=Heap.get?_push_size _ rfl
 generalize hH:s.heap.push { cls:=.type "frame",data:=.dict #[] }=H at *
 have X1:Ext (dom σ) s.heap H:=by rw[← hH];exact .push _ _
 have R1:Rel c σ H:=by rw[← hH];exact R.push _
 have E1:EnvR c σ (bare (newEnv scope s.heap.objs.size mainGlobals cl qual func code none builtinsNs)) ρ0 H:=by
  refine⟨hk,rfl,rfl,⟨R.fresh,R.size⟩,fun x k e=>?_,List.Pairwise.nil,⟨fun _=>none,?_,fun x v hm=>?_⟩,hnd,fun x hx=>.inl (hkeys x hx),.inl rfl,⟨_,_,rfl,hL,rfl,_,_,rfl⟩⟩
  · cases e
  · exact⟨_,#[],0,hL,rfl,fun e he=>by simp at he,fun _=>rfl⟩
  · have:=hnone _ hm
    cases this
 refine wpAny_bind (bind_loopB (s:={ s with heap:=H }) (env:=newEnv scope s.heap.objs.size mainGlobals cl qual func code none builtinsNs) _ (fun _ _ _=>rfl) hk xs vs ys ρ0 ρ1 _ hxs (R.vrs X1 r) hb R1 E1 fun h2 tk2 R2 E2 x2 k2=>wpAny_pure ?_)
 refine h _ h2 tk2 rfl R2 E2 (X1.trans (B':=mine _) x2 fun a q=>?_) ?_
 · rcases q with rfl | ⟨x,e⟩
   · exact .inr (Nat.le_refl _)
   · cases e
 · refine el75 (k2 _ hL) ?_;intro o' e' c'
   refine el24 E2.vars ?_;intro m o2 es ep q1 q2 _ _
   have q1':h2.get? s.heap.objs.size=some o2:=q1
   have e'':h2.get? s.heap.objs.size=some o':=e'
   obtain rfl:=uq e'' q1'
   exact⟨o',es,ep,e',c',q2⟩
end
end Mine
namespace Mine
variable [Membership Addr Zip0]
section
variable {c:Cx}{N:Lv}{env:Env}{ρ:Rho}{σ:Sig}{Q:PV}{X:PX}
noncomputable def SuperOp (c:Cx)(N:Lv)(σ:Sig)(a C D:Addr)(v:V)(Q:PV)(X:PX):Prop:=
 ∀ (A:Around) (s:Shared) (so:Addr) (pl:Sem Bool) (QQ:VP) (EE:VP) (y:Value),AOk c N A σ s.heap→Rel c σ s.heap→s.heap.get? so=some (ks_superObj D a C)→VR s.heap v y→Post c σ s VR Q QQ→XPost c σ s X EE →
  wpAny (model c.prog c.w) A (getMethod (.ref so) "__init__" pl) (fun fx s1=>(∃ k,(k=Keeper.frame∨k=Keeper.machine∨k=Keeper.boundFrame)∧Looks (model c.prog c.w) s1.heap (keeperOf fx.1) k)∧Ext (dom σ) s.heap s1.heap∧wpAny (model c.prog c.w) A (call fx.1 (fx.2++[y])) QQ EE s1) EE s
theorem Super_b {a C D:Addr}{dO:Option Addr}{v:V}{l:List Value}{cd:ClassData}{c0:Value}{dd:Option Addr}{sl:Array (Option Value)}(e1:σ a=some (.exc C dO true))(q:Q .none σ)
 (ho:nsIn c.K cStatics "thirdparty.any"=some none) (hK:c.K.lookup C=some ⟨c0,dd,.cls cd,sl⟩) (hc:clsIn c.K C=some cd) (hs:ks_superIn c.K C D "__init__"=some (some (.builtin "Exception.__init__"))) (hsub:subIn c.K (.ref C) (.type "Exception")=some true):SuperOp c N σ a C D v Q X:=fun A s so pl QQ EE y ak R hso r p xp=>by
 have KX:=c.KIn.keeps R.static
 refine el75 ((R.obj a _ e1).2) ?_;intro vs hx hnw
 refine el77 (hnw rfl) ?_;intro hz hv1 hv2
 unfold ks_superIn at hs
 rw[hc] at hs
 have hxC:a≠C:=fun q=>by
  have hC:=KX _ _ hK
  rw[← q,hx] at hC;cases hC
 obtain ⟨hp,g,d,t,os⟩:=s
 have hC:=KX _ _ hK
 refine getMethod_super_b hso (looks_opaque KX ho) (l₀:=cd.mro) (fun A Q E s k q=>wpAny_bind ((looks_clsIn KX hc) A _ E s k (wpAny_pure q))) rfl KX hs hx rfl (looks_subIn KX hsub) hxC ?_
 have hmw:(hp.push { cls:=.type "method-wrapper",data:=.fields #[.builtin "Exception.__init__",.ref a] }).get? hp.objs.size=some { cls:=.type "method-wrapper",data:=.fields #[.builtin "Exception.__init__",.ref a] }:=Heap.get?_push_size _ rfl
 refine⟨⟨.machine,.inr (.inl rfl),?_⟩,.push _ _,?_⟩
 · refine (Looks.ld hmw).andThen ?_
   exact .now
 have kp:∀ b o,hp.get? b=some o→(hp.push { cls:=.type "method-wrapper",data:=.fields #[.builtin "Exception.__init__",.ref a] }).get? b=some o:=fun b o e=>Heap.get?_push_of_some _ e
 refine call_mw hmw (kp _ _ hx) (t0:=vs[0]) (Array.getElem?_eq_getElem (by lia)) (kp _ _ hC) fun h' ha hk hs'=>?_
 have keep:∀ b o,b≠a→hp.get? b=some o→h'.get? b=some o:=fun b o hb e=>hk b o hb (kp b o e)
 have hsz:hp.objs.size≤h'.objs.size:=by rw[Heap.size_push] at hs';exact Nat.le_of_lt (by assumption)
 have x:Ext (dom σ) hp h':=⟨fun b o hb e=>⟨o,keep b o (fun q=>by subst q;exact hb (by show σ b≠none;rw[e1];simp)) e,.refl o⟩,hsz⟩
 have tupk:∀ b xs,IsTup hp b xs→IsTup h' b xs:=fun b xs t=>IsTup.ext R.noTup x t
 have R':Rel c σ h':=⟨fun b o hS=>keep b o (fun q=>absurd (Heap.lt_size hS) (Nat.not_lt.mpr (q ▸ (R.obj a _ e1).1))) (R.static b o hS),Nat.le_trans R.size hsz,fun b q=>⟨(R.fz b q).1,Nat.lt_of_lt_of_le (R.fz b q).2 hsz⟩,fun b m e=>⟨(R.obj b m e).1,by
  by_cases hb:b=a
  · subst hb
    obtain rfl:=uq e1 e
    exact⟨_,ha,fun _=>⟨by simpa using hz,by rw[Array.getElem?_setIfInBounds_ne (by decide)];exact hv1,by rw[Array.getElem?_setIfInBounds_ne (by decide)];exact hv2⟩⟩
  · exact MR.mono c.prog c.w tupk (fun o e'=>keep b o hb e') (R.obj b m e).2⟩⟩
 exact p .none .none σ h' (t+1,d) q (by simp only[jt1,jt2,jt3,jt4,jt5,jt6]) R' x (.refl _ _)
theorem Super_fn {a C D f2:Addr}{nw:Bool}{dO:Option Addr}{v:V}{cd:ClassData}{c0:Value}{dd:Option Addr}{sl:Array (Option Value)}(e1:σ a=some (.exc C dO nw))
 (ho:nsIn c.K cStatics "thirdparty.any"=some none) (hK:c.K.lookup C=some ⟨c0,dd,.cls cd,sl⟩) (hc:clsIn c.K C=some cd) (hs:ks_superIn c.K C D "__init__"=some (some (.ref f2))) {od:Option Addr}{fd:FuncData}{osl:Array (Option Value)} (hf:c.K.lookup f2=some ⟨.type "function",od,.func fd,osl⟩)
 (g:CodeOp c N σ (.ref f2) [.raw (.ref a),v] Q X):SuperOp c N σ a C D v Q X:=fun A s so pl QQ EE y ak R hso r p xp=>by
 have KX:=c.KIn.keeps R.static
 refine el75 ((R.obj a _ e1).2) ?_;intro vs hx _
 unfold ks_superIn at hs
 rw[hc] at hs
 have hC:=KX _ _ hK
 have hxC:a≠C:=fun q=>by rw[← q,hx] at hC;cases hC
 have hfI:=KX _ _ hf
 obtain ⟨hp,g',d,t,os⟩:=s
 refine ks_wpAny_getMethod_super hso (looks_opaque KX ho) (l₀:=cd.mro) (fun A Q E s k q=>wpAny_bind ((looks_clsIn KX hc) A _ E s k (wpAny_pure q))) rfl KX hs hfI rfl hxC (by decide) ?_
 have hm:(hp.push { cls:=.type "method",data:=.fields #[.ref f2,.ref a] }).get? hp.objs.size=some { cls:=.type "method",data:=.fields #[.ref f2,.ref a] }:=Heap.get?_push_size _ rfl
 have x1:Ext (dom σ) hp (hp.push { cls:=.type "method",data:=.fields #[.ref f2,.ref a] }):=.push _ _
 refine⟨?_,x1,?_⟩
 · refine⟨.boundFrame,.inr (.inr rfl),?_⟩
   refine (Looks.ld hm).andThen ?_
   exact (Looks.ld (Heap.get?_push_of_some _ hfI)).andThen .now
 refine wpAny_call (ks_codeAny_call_bound hm ?_)
 have p1:=Post.step p (tk1:=(t+1,d)) x1 (.refl _ _)
 have xp1:=XPost.step xp (tk1:=(t+1,d)) x1 (.refl _ _)
 exact g A (at_ ⟨hp,g',d,t,os⟩ _ (t+1,d)) (fun r s'=>match r with | .ok (.ret v)=>QQ v s' | .ok _=>False | .error e=>EE e s') [.ref a,y] (ak.ext x1 (.refl _ _)) (R.push _) (.cons (by simp only[jt1,jt2,jt3,jt4,jt5,jt6]) (.cons (R.vr x1 r) .nil)) p1 xp1
end
end Mine
namespace Mine
variable [Membership Addr Zip0]
section
variable {c:Cx}{N:Lv}{env:Env}{ρ:Rho}{σ:Sig}{Q:PV}{X:PX}
theorem loadB {M:Model}{A:Around}{E:VP}{s:Shared}{x:Str}{y:Value}{m:Str→Option Value}{QQ:VP}(hk:env.scope.kind=.function)(hl:env.kindOf x=some .local)(hn:s.heap.Ns env.locals m)(hm:m x=some y)(h:QQ y s):wpAny M A (loadName env x) QQ E s:=wpAny_loadName_local hk hl hn hm h
theorem varB {h:Heap}(Ev:EnvR c σ (bare env) ρ h):∃ m,h.Ns env.locals m∧∀ x v,(x,some v)∈ρ→env.kindOf x=some .local→∃ y,m x=some y∧VR h v y:=by
 refine el75 Ev.vars ?_;intro m hn hv
 refine⟨m,hn,fun x v hm hl=>?_⟩
 rcases hv x v hm with ⟨_,y,e1,e2⟩ | ⟨k1,_⟩
 · exact⟨y,e1,e2⟩
 · have k1:env.kindOf x=some .cell:=k1
   exact absurd (uq hl k1) (fun q=>by cases q)
theorem super_use {M:Model}{A:Around}{s:Shared}{so:Addr}{pl:Sem Bool}{QQ:VP}{EE:VP}{y:Value}{B:Addr→Prop}{es:List PySem.Expr}{pos:Pos}
 (key:wpAny M A (getMethod (.ref so) "__init__" pl) (fun fx s1=>(∃ k,(k=Keeper.frame∨k=Keeper.machine∨k=Keeper.boundFrame)∧Looks M s1.heap (keeperOf fx.1) k)∧Ext B s.heap s1.heap∧wpAny M A (call fx.1 (fx.2++[y])) QQ EE s1) EE s)
 (hsp:∀ s3 (Q':List Value→Shared→Prop),Ext B s.heap s3.heap→Q' [y] s3→wpAny M A (spliced (backTo pos (starEach es env))) Q' EE s3) (hst:(backTo pos (starEach es env)).any (·.1)=false) :
 wpAny M A (getMethod (.ref so) "__init__" pl) (fun fx s2=>wpAny M A (callWith pos fx.1 fx.2 (backTo pos (starEach es env)) []) QQ EE s2) EE s:=by
 refine wpAny_mono key ?_ fun _ _ z=>z
 intro fx s3 zu58
 refine el46 zu58 ?_;(try clear zu58);intro kk kk1 kk2 x3 hc
 exact call_node (P:=fun h=>h=s3.heap) (fun h q=>by subst q;exact⟨kk,kk1,kk2⟩) (hsp s3 _ x3 ⟨rfl,hc⟩) hst
theorem K_init {n:Nat}{hn:Bool}{f:Addr}{fd:FuncData}{params:List Str}{oc:Value}{od:Option Addr}{osl:Array (Option Value)}{ρ0 ρ1:Rho}{rest:List V}{a C D cc cda:Addr}{dO:Option Addr}{nw:Bool}{wv yv:V}
 {p0 p1 p2 p3 p4 p5 p6 p7 p8 p9:Pos}{w sf y attr:Str}{ar:Arg}{vsC:Array Value}{file:Str}{tf:Tok}{ccl cl:Value}{cdd cld:Option Addr}{ccs csl:Array (Option Value)}{cD0:Value}{dD:Option Addr}{cdD:ClassData}{slD:Array (Option Value)}
 (hK:c.K.lookup f=some ⟨oc,od,.func fd,osl⟩) (hb:fd.body=.stmts [.Expr (.Call (.Attribute (.Call (.Name "super" p0) [] [] p1) "__init__" p2) [.Name w p3] [] p4) p5,.Assign [.Attribute (.Name sf p6) attr p7] (.Name y p8) p9])
 (hcl:fd.closure=[(("__class__" : Str),cc)]) (hg:fd.globals=mainGlobals) (hbl:fd.builtins=builtinsNs) (hcd:codeIn c.K fd.code fd.qualname=true)
 (hk:fd.scope.kind=.function) (hco:fd.scope.isCoroutine=false) (hgen:fd.scope.isGenerator=false) (hbind:∀ ys:List Value,ys.length=(V.raw (.ref a)::rest).length→bindArgs fd ⟨ys,[]⟩=pure (params.zip ys))
 (hcellk:∀ x∈fd.scope.names,x.2≠.cell) (hxs:∀ x∈params,fd.scope.names.lookup x=some .local)
 (hkeys:∀ x∈ρ0.map (·.1),fd.scope.names.lookup x=some .local) (hnd:(ρ0.map (·.1)).Nodup) (hnone:∀ p∈ρ0,p.2=none) (hbs:Binds (params.zip (V.raw (.ref a)::rest)) ρ0 ρ1)
 (hp:(fd.params.posonlyargs++fd.params.args).head?=some ar) (har:ar.arg=sf) (hcode:fd.code=.ref cda) (hcda:c.K.lookup cda=some ⟨ccl,cdd,.fields vsC,ccs⟩) (hvs:vsC[2]?=some (.str file tf)) (hfile:((c.prog.main.file:Str)==file)=true)
 (hcc:c.K.lookup cc=some ⟨cl,cld,.cell (some (.ref D)),csl⟩) (hD:c.K.lookup D=some ⟨cD0,dD,.cls cdD,slD⟩) (hsubD:mroIn c.K C (.ref D)=some true) (hsuper:c.mg "super"=none) (htop:(c.prog.main.scope.names.lookup ("super" : Str)).isSome=false)
 (hks:fd.scope.names.lookup ("super" : Str)=some .globalImplicit) (hkc:fd.scope.names.lookup ("__class__" : Str)=some .free) (hksf:fd.scope.names.lookup sf=some .local) (hkw:fd.scope.names.lookup w=some .local) (hky:fd.scope.names.lookup y=some .local)
 (hms:(sf,some (.raw (.ref a)))∈ρ1) (hmw:(w,some wv)∈ρ1) (hmy:(y,some yv)∈ρ1) (hdw:(w==("__debug__" : Str))=false) (hdy:(y==("__debug__" : Str))=false) (hdsf:(sf==("__debug__" : Str))=false)
 {pl:Env→Sem Bool} (hev:∀ env:Env,eval (.Call (.Attribute (.Call (.Name "super" p0) [] [] p1) "__init__" p2) [.Name w p3] [] p4) env=(do
  let ov ← attributeBase (.Call (.Name "super" p0) [] [] p1) "__init__" env (eval (.Call (.Name "super" p0) [] [] p1) env)
  standAt p2.atName
  let (f,first) ← holding [ov] (getMethod ov "__init__" (pl env))
  callWith p4 f first (backTo p4 (starEach [.Name w p3] env)) [])) (hst:∀ env:Env,(backTo p4 (starEach [.Name w p3] env)).any (·.1)=false)
 (hsw1:∀ env:Env,swapsWith (.Call (.Attribute (.Call (.Name "super" p0) [] [] p1) "__init__" p2) [.Name w p3] [] p4) none p5.line env=pure false) (hsw2:∀ env:Env,swapsWith (.Name y p8) (some (.Attribute (.Name sf p6) attr p7)) p9.line env=pure false)
 (e1:σ a=some (.exc C dO nw))
 (g:SuperOp c ⟨n,hn⟩ σ a C D wv (fun _ σ1=>SetOp c ⟨n,hn⟩ σ1 (.raw (.ref a)) attr yv (fun σ2=>Q .none σ2) (fun _ _=>False)) (fun _ _=>False)):CodeOp c ⟨n+1,hn⟩ σ (.ref f) (.raw (.ref a)::rest) Q X:=fun A s R' ys ak R r p xp=>by
 refine codeAny_call_function (o:=⟨oc,od,.func fd,osl⟩) (fd:=fd) (by have:=ak.depth;simp only at this;lia) (R.static _ _ (c.KIn _ _ hK)) rfl hco hgen hb (codeRec_of (c.KIn.keeps R.static) hcd) ?_
 rw[hbind ys r.length,hcl,hg,hbl]
 refine wpAny_pure (enterC_ R r hk hcellk hxs hkeys hnd hnone hbs fun env h1 tk1 he R1 E1 x1 hF=>⟨c.nol.keeps R1.static,?_⟩)
 have hfr:env.frame=some s.heap.objs.size:=by rw[he];rfl
 have hloc:env.locals=s.heap.objs.size:=by rw[he];rfl
 have F:FrameOk c σ h1 env:=by
  refine el55 hF ?_;(try clear hF);intro o es m q1 q2 q3
  exact⟨_,o,hfr,q1,q2,⟨es,m,q3⟩,R.fresh,R.size,by rw[show env.scope.kind=.function from E1.kind];decide⟩
 have a1:AOk c ⟨n,hn⟩ (A.deeper env) σ h1:=(ak.ext x1 (.refl _ _)).deeper F
 have hke:env.scope.kind=.function:=E1.kind
 have kn:∀ x,env.kindOf x=fd.scope.names.lookup x:=fun x=>by rw[he];rfl
 have hcells:env.cells=[(("__class__" : Str),cc)]:=by rw[he];rfl
 have hfu:env.func=some f:=by rw[he];rfl
 have hcoe:env.code=.ref cda:=by rw[he];exact hcode
 have hgl:env.globals=mainGlobals:=by rw[he];rfl
 have hbu:env.builtins=builtinsNs:=by rw[he];rfl
 have X1:=c.KIn.keeps R1.static
 refine el75 (varB E1) ?_;intro m hns hv
 obtain ⟨z,hz1,hz2⟩:=hv sf _ hms (by rw[kn];exact hksf)
 simp only[jt1,jt2,jt3,jt4,jt5,jt6] at hz2;subst hz2
 refine el75 ((R1.obj a _ e1).2) ?_;intro vs hx _
 refine ks_codeAny_funcAt ?_
 refine ks_wpAt_execs_cons (ks_wpAt_Expr_any (ks_wpAt_MethodCall (pl:=pl env) ?_ (hev env)) (by unfold interactive;rw[hke];rfl) (hsw1 env))
 refine ks_wpAt_super_base (by rw[kn];exact hks) (by rw[kn];exact hkc) (by decide) hfu (X1 _ _ hK) rfl hp hcoe (X1 _ _ hcda) rfl hvs hfile htop ?_
 refine ks_loadName_global hke (by rw[kn];exact hks) (Calls.loadGlobal_builtin (by rw[hgl];exact c.g.keeps R1.static) hsuper (by rw[hbu];exact c.b.keeps R1.static) ((c.blt _ (by decide)).trans (show bootBuiltins "super"=some (.type "super") from by rfl)) ⟨rfl,?_⟩)
 refine wpAny_loadName_free hke (by rw[kn];exact hkc) (by rw[hcells];rfl) ⟨_,X1 _ _ hcc,rfl⟩ ?_
 rw[har]
 refine wpAny_loadName_local hke (by rw[kn];exact hksf) hns hz1 ?_
 refine ks_wpAny_isType_cls (X1 _ _ hD) rfl ⟨rfl,?_⟩
 refine ks_wpAny_call_super (X1 _ _ hD) rfl hx rfl (fun c e=>by cases e) (looks_mroIn X1 hsubD) (fun h2 e k=>?_)
 have lt2:h1.objs.size<h2.objs.size:=Heap.lt_size e
 have x2:Ext (dom σ) h1 h2:=ext_grow k (Nat.le_of_lt lt2)
 have R2:Rel c σ h2:=R1.grow k (Nat.le_of_lt lt2)
 have E2:EnvR c σ (bare env) ρ1 h2:=E1.ext R1 x2 (.refl _ _)
 have a2:AOk c ⟨n,hn⟩ (A.deeper env) σ h2:=a1.ext x2 (.refl _ _)
 refine el75 (varB E2) ?_;intro m2 hns2 hv2
 obtain ⟨yw,hw1,hw2⟩:=hv2 w _ hmw (by rw[kn];exact hkw)
 refine super_use (g (A.deeper env) (at_ s h2 tk1) h1.objs.size (pl env) _ _ yw a2 R2 e hw2 ?post ?xpost) ?sp (hst env)
 case sp=>
  intro s3 Q' x3 hc
  exact spliced_more (wpAny_Name (loadB hke (by rw[kn];exact hkw) (Ns.like hns2 x3 (fun q=>q E2.loc.1)) hw1 (spliced_none hc)) hdw) rfl
 case xpost=>exact fun _ _ _ _ _ q=>q.elim
 case post=>
  intro v0 yv0 σ' h' tk' q rr R3 x3 gr3
  have E3:EnvR c σ' (bare env) ρ1 h':=E2.ext R2 x3 gr3
  have a3:AOk c ⟨n,hn⟩ (A.deeper env) σ' h':=a2.ext x3 gr3
  refine el75 (varB E3) ?_;intro m3 hns3 hv3
  obtain ⟨z3,hz3,hz4⟩:=hv3 sf _ hms (by rw[kn];exact hksf)
  simp only[jt1,jt2,jt3,jt4,jt5,jt6] at hz4;subst hz4
  obtain ⟨yy,hy1,hy2⟩:=hv3 y _ hmy (by rw[kn];exact hky)
  refine _root_.PySem.wpAt_of_wpAny (wpAny_execs_cons (plainObj_wpAny_Assign_Attribute (wpAny_Name (loadB (s:=at_ s h' tk') hke (by rw[kn];exact hky) hns3 hy1 (wpAny_Name (loadB (s:=at_ s h' tk') hke (by rw[kn];exact hksf) hns3 hz3 ?_) hdsf)) hdy) (hsw2 env)))
  refine q (A.deeper env) (at_ s h' tk') _ _ (.ref a) yy a3 R3 (by simp only[jt1,jt2,jt3,jt4,jt5,jt6]) hy2 (fun _ _ σ2 h3 tk3 q3 _ R4 x4 gr4=>wpAny_execs_nil ?_) fun _ _ _ _ _ q=>q.elim
  have gr34:Grown σ h2 σ2:=gr3.trans gr4 x3.size
  have xx:Ext (dom σ) s.heap h3:=(x1.trans x2 fun _ q=>.inl q).trans (x3.trans x4 (dom_back gr3)) fun _ q=>.inl q
  exact p .none .none σ2 h3 tk3 q3 (by simp only[jt1,jt2,jt3,jt4,jt5,jt6]) R4 xx ((Grown.refl σ s.heap).trans gr34 (Nat.le_trans x1.size x2.size))
end
end Mine
namespace Mine
variable [Membership Addr Zip0]
section
variable {prog:Program}{w:World}{A:Around}{E:VP}{s:Shared}{K:Frag}{x C:Addr}{ox:Obj}{od:Option Obj}{name:Str}{expr:Bool}{Q:VP}
theorem kind_bexc_ga:builtinKind "BaseException.__getattribute__"=some .slot:=by kernel_rfl
theorem split_bexc_ga:splitId "BaseException.__getattribute__"=some ("BaseException","__getattribute__"):=by kernel_rfl
theorem getE_call {tk:Tok}{v:Value}{R:RP}(X:K.In s.heap)(I:InstAt s.heap x ox C od)(hsub:subIn K (.ref C) (.type "BaseException")=some true)(hf:findObj K C od name=some (.value v))(h:R (.ok (.ret v)) s) :
 codeAny (model prog w) A (.call (.builtin "BaseException.__getattribute__") ⟨[.ref x,.str name tk],[]⟩) R s:=by
 have sub:Looks (model prog w) s.heap (isInstance (.ref x) (.type "BaseException")) true:=I.type.andThen (looks_subIn X hsub)
 refine codeAny_call_builtin (by decide +kernel) PySem.F.entry_bexc_ga (@check_slot (model prog w) _ _ s "BaseException.__getattribute__" "BaseException" "__getattribute__" (.ref x) [.str name tk] [] _ kind_bexc_ga split_bexc_ga sub (PySem.F.args_bexc_ga (.ref x) (.str name tk)) ?_)
 obtain ⟨hh',g,d,t,os⟩:=s
 have L0:=I.type (M:=model prog w)
 have L1:=looks_find (M:=model prog w) X I hf
 refine wpAny_bind (wpAny_pure (wpAny_bind (wpAny_pure (wpAny_bind (L0.at (wpAny_bind (L1.at ?_)))))))
 exact wpAny_pure h
theorem getE {v:Value}(X:K.In s.heap)(I:InstAt s.heap x ox C od)(hga:findIn K (.ref C) "__getattribute__"=some (some (.builtin "BaseException.__getattribute__")))(hgn:findIn K (.ref C) "__getattr__"=some none)(hsub:subIn K (.ref C) (.type "BaseException")=some true)
 (hf:findObj K C od name=some (.value v)) (hh:handedIn v=true) (h:Q v { s with toks:=s.toks+1 }):wpAny (model prog w) A (getAttr (.ref x) name expr) Q E s:=by
 obtain ⟨hp,g,d,t,os⟩:=s
 have L0:=I.type (M:=model prog w)
 have L1:=looks_findIn (M:=model prog w) X hga
 have L2:=looks_findIn (M:=model prog w) X hgn
 unfold getAttr getAttrBy
 refine wpAny_bind (wpAny_mkText (wpAny_holding (wpAny_bind (L0.at (wpAny_bind (L1.at ?_))))))
 show wpAny _ _ (getAttrByItsOwn (.ref x) (.str name t) (.ref C) (.builtin "BaseException.__getattribute__") true expr) _ _ _
 unfold getAttrByItsOwn
 refine wpAny_bind (m:=hookBefore (.ref C)) (L2.at ?_)
 have hx0:(expr&&onTheHeap (Value.builtin "BaseException.__getattribute__"))=false:=by cases expr <;> rfl
 refine wpAny_bind (wpAny_attempt (wpAny_holding ?_))
 unfold callGetattribute
 rw[hx0]
 simp only[Bool.false_eq_true,if_false]
 unfold boundAndCalled
 refine wpAny_bind (wpAny_of_eq (show bindSpecial (.builtin "BaseException.__getattribute__") (.ref x)=pure (.builtin "BaseException.__getattribute__",[.ref x]) from PySem.F.excAttr_ValueError.ga.bind _) ?_)
 refine wpAny_call (getE_call (s:=⟨hp,g,d,t+1,os⟩) X I hsub hf ?_)
 dsimp only
 rw[handedOut_of hh]
 exact wpAny_pure h
end
section
variable {c:Cx}{N:Lv}{env:Env}{ρ:Rho}{σ:Sig}{Q:PV}{X:PX}
theorem A_ownE {a C dx:Addr}{nw:Bool}{l:List (Str×V)}{name:Str}{v:V}(q:Q v σ)(e1:σ a=some (.exc C (some dx) nw))(e2:σ dx=some (.ns l))(hl:assoc l name=some v)(hv:handedV v=true)
 (hga:findIn c.K (.ref C) "__getattribute__"=some (some (.builtin "BaseException.__getattribute__"))) (hgn:findIn c.K (.ref C) "__getattr__"=some none) (hsub:subIn c.K (.ref C) (.type "BaseException")=some true) (h2:hasDictIn c.K C=true) (h3:findIn c.K (.ref C) name=some none) :
 GetOp c N σ (.raw (.ref a)) name Q X:=fun A s QQ EE x ak R r p xp=>by
 simp only[jt1,jt2,jt3,jt4,jt5,jt6] at r;subst r
 refine el68 ((R.obj dx _ e2).2) ?_;intro es n q1 q2
 refine el75 ((R.obj a _ e1).2) ?_;intro vs hx _
 have I:InstAt s.heap a ⟨.ref C,some dx,.fields vs,#[]⟩ C (some (W.dictOf es n)):=⟨hx,rfl,rfl,q1⟩
 have:=q2.getL (name:=name)
 rw[hl] at this
 refine el75 this ?_;(try clear this);intro z hz rz
 exact getE (c.KIn.keeps R.static) I hga hgn hsub (findObj_own h2 h3 rfl hz) (handedV_of rz hv) (p.tok R q rz)
end
end Mine
namespace Mine
variable [Membership Addr Zip0]
theorem entry_unchain:entryFor table "proto.unchain"=some Builtin.«proto.unchain»:=entryFor_of_tree (by kernel_rfl)
section
variable {prog:Program}{w:World}{A:Around}{E:VP}{s:Shared}{env:Env}
theorem codeAny_bi {R:RP}{id:String}{args:Args}{b:Builtin}(hb:entryFor table id=some b)
 (h:wpAny (model prog w) (A.under (.builtin id args)) (b args) (fun fin s'=>match fin with | .done f=>R (.ok f) s' | .again c'=>c'.quiet=true∧codeAny (model prog w) A c' R s') (fun e s'=>R (.error e) s') s) :
 codeAny (model prog w) A (.builtin id args) R s:=by
 refine codeAny_of_tree ?_
 show wpAny _ _ (match entryFor table id with | some b=>b args | none=>unsupported ((withoutEnding? id "#data").getD id)) _ _ s
 rw[hb];exact h
theorem unchain_none {a e0:Addr}{o:Obj}{vs:Array Value}{Q:VP}(he:s.heap.get? e0=some o)(hd:o.data=.fields vs)(h2:vs[2]?=some .none)(h:Q .none s) :
 wpAny (model prog w) A (runValue (.builtin "proto.unchain" ⟨[.ref a,.ref e0,.ref e0,.bool false],[]⟩)) Q E s:=by
 refine wpAny_runValue (codeAny_bi entry_unchain ?_)
 unfold Builtin.«proto.unchain»
 refine wpAny_bind (wpAny_field he hd h2 ?_)
 rw[if_pos (by rfl)]
 exact wpAny_pure h
theorem raiseNew_own {α:Type}{a e0:Addr}{o o0:Obj}{vs vs0:Array Value}{Q:α→Shared→Prop}(hh:A.handled=some (.ref e0))(hne:e0≠a)(he:s.heap.get? e0=some o0)(hd:o0.data=.fields vs0)(h2:vs0[2]?=some .none)
 (ha:s.heap.get? a=some o) (hda:o.data=.fields vs) (hz:2<vs.size) (h:E (.ref a) { s with heap:=s.heap.update a (Obj.mapFields (·.setIfInBounds 2 (.ref e0))) }):wpAny (model prog w) A (raiseNew (.ref a):Sem α) Q E s:=by
 delta raiseNew
 refine wpAny_bind (wpAny_handled ?_)
 rw[hh]
 simp only
 rw[if_pos (show (Value.ref e0 != Value.ref a)=true by simpa using hne)]
 refine wpAny_bind (wpAny_holding (unchain_none he hd h2 ?_))
 refine wpAny_bind ?_
 delta updateField
 refine wpAny_bind (wpAny_load ha ?_)
 rw[hda]
 simp only
 rw[if_pos hz]
 exact wpAny_update ha (wpAny_throw h)
theorem raiseStmt_ownH {x:Sem Value}{Q:Flow→Shared→Prop}{e0:Addr}(hh:A.handled=some (.ref e0))
 (h:wpAny (model prog w) A x (fun v s₁=>∃ e C dx vs oC o0 vs0,v=.ref e∧s₁.heap.get? e=some ⟨.ref C,some dx,.fields vs,#[]⟩∧vs[1]?=some .none∧2<vs.size∧s₁.heap.get? C=some oC∧oC.cls=.type "type"∧Looks (model prog w) s₁.heap (isSubtype (.ref C) (.type "BaseException")) true ∧
  e0≠e∧s₁.heap.get? e0=some o0∧o0.data=.fields vs0∧vs0[2]?=some .none∧E (.ref e) { s₁ with heap:=s₁.heap.update e (Obj.mapFields (·.setIfInBounds 2 (.ref e0))) }) E s):wpAny (model prog w) A (raiseStmt env (some x) none) Q E s:=by
 unfold raiseStmt
 refine wpAny_bind (wpAny_mono h (fun v s₁ h₁=>?_) fun _ _ x=>x)
 refine el1 h₁ ?_;(try clear h₁);intro e C dx vs oC o0 vs0 ze240 he h1 hz hC hcC hsub hne h0 hd0 h2 hE;subst ze240
 obtain ⟨hp,g,d,tk,os⟩:=s₁
 repeat (first | with_reducible refine wpAny_field he rfl h1 ?_ | with_reducible refine wpAny_loadPart_at he ?_ | (with_reducible refine wpAny_loadPart_at hC ?_;rw[hcC]) | (with_reducible refine hsub.at ?_) | wp_step)
 exact raiseNew_own hh hne h0 hd0 h2 he rfl hz hE
end
section
variable {c:Cx}{N:Lv}{env:Env}{ρ:Rho}{σ:Sig}{Q:PV}{X:PX}{SQ:PF}{SX:PE}
theorem FlyT.ext {lo:Nat}{σ':Sig}{h h':Heap}{e:Addr}{ex:Exn}(R:Rel c σ h)(F:FlyT c σ lo h e ex)(x:Ext (dom σ) h h')(g:Grown σ h σ'):FlyT c σ' lo h' e ex:=by
 refine⟨F.1.ext R x g,?_⟩
 refine el6 F ?_;(try clear F);intro _ _ f3 _ _ he _ o vs tb e1 e2 e3
 refine el75 (x.keep e o (fun q=>q f3) e1) ?_;intro o' e' lk
 obtain rfl:=uq he e1
 have:=lk.eq (by simp)
 subst this
 exact⟨_,vs,tb,e',e2,e3⟩
noncomputable abbrev lainExc (C dx:Addr)(vs:Array Value):Obj:=⟨.ref C,some dx,.fields vs,#[]⟩
theorem grown_more {σ0 σ1:Sig}{h:Heap}{a:Addr}{m:MO}(g:Grown σ0 h σ1)(ha:h.objs.size≤a):Grown σ0 h (upd σ1 a m):=fun b (q:upd σ1 a m b≠none)=>by
 by_cases h1:b=a
 · exact .inr (h1 ▸ ha)
 · exact g b (by rw[upd_ne _ _ h1] at q;exact q)
noncomputable abbrev RaiseQ (c:Cx)(σh:Sig)(e0:Addr)(o0:Obj)(SX:PX)(v:V)(σ1:Sig):Prop:=
 ∃ a C dx fs oC,v=.raw (.ref a)∧σh a=none∧σh dx=none∧σ1 a=some (.exc C (some dx) true)∧σ1 dx=some (.ns fs)∧σ1 e0=some (.obj o0)∧c.px C=false∧c.K.lookup C=some oC∧oC.cls=.type "type"∧subIn c.K (.ref C) (.type "BaseException")=some true∧SX ⟨C,fs⟩ (del (del (del σ1 a) dx) e0)
theorem S_raiseH {e:PySem.Expr}{pos:Pos}{A:Around}{s:Shared}{e0:Addr}{C0 dx0:Addr}{vs0:Array Value}{lo:Nat}{QQ:Flow→Shared→Prop}{EE:VP}(hh:A.handled=some (.ref e0))(hv2:vs0[2]?=some .none)
 (e1:σ e0=some (.obj (lainExc C0 dx0 vs0))) (hlo:lo≤s.heap.objs.size) (hl0:lo≤e0)
 (g:EvG c N env ρ e σ (RaiseQ c σ e0 (lainExc C0 dx0 vs0) X) (fun _ _=>False)) (ak:AOk c N A σ s.heap) (R:Rel c σ s.heap) (E:EnvR c σ env ρ s.heap)
 (xp:∀ a ex σ' h' tk',X ex σ'→Fly c σ' lo h' a ex→Rel c σ' h'→EnvR c σ' env ρ h'→AOk c N A σ' h'→Ext (dom σ) s.heap h'→Grown σ s.heap σ'→EE (.ref a) (at_ s h' tk')) :
 wpAny (model c.prog c.w) A (exec (.Raise (some e) none pos) env) QQ EE s:=by
 rw[arm_exec_Raise]
 show wpAny _ A (do standAt pos;raiseStmt env (some (do let v ← eval e env;standAt pos;pure v)) none) QQ EE s
 refine wpAny_bind (wpAny_standAt (raiseStmt_ownH hh (wpAny_bind (g A s _ _ ak R E (fun v y σ1 h1 tk1 q r R1 x1 gr1=>wpAny_bind (wpAny_standAt (wpAny_pure ?_))) fun _ _ _ _ _ q=>q.elim))))
 refine el4 q ?_;(try clear q);intro a C dx fs oC ze241 n1 n2 m1 m2 m3 hpx hC hcC hsub q;subst ze241
 simp only[jt1,jt2,jt3,jt4,jt5,jt6] at r;subst r
 have KX:=c.KIn.keeps R1.static
 refine el75 ((R1.obj a _ m1).2) ?_;intro vs he hnw
 refine el77 (hnw rfl) ?_;intro hz hv1 _
 refine el68 ((R1.obj dx _ m2).2) ?_;intro es n hd hr
 have la:s.heap.objs.size≤a:=(gr1 a (by rw[m1];simp)).elim (fun z=>absurd n1 z) id
 have ld:s.heap.objs.size≤dx:=(gr1 dx (by rw[m2];simp)).elim (fun z=>absurd n2 z) id
 have hne:dx≠a:=fun q=>by rw[q,m1] at m2;cases m2
 have he0:=(R1.obj e0 _ m3).2.1
 have h0a:e0≠a:=fun q=>by rw[q,m1] at m3;cases m3
 refine⟨a,C,dx,vs,oC,lainExc C0 dx0 vs0,vs0,rfl,he,hv1,by lia,KX _ _ hC,hcC,looks_subIn KX hsub,h0a,he0,rfl,hv2,?_⟩
 have R2:=((R1.del a).del dx).del e0
 have E2:=(((E.ext R x1 gr1).del a).del dx).del e0
 have g2:Grown σ s.heap (del (del (del σ1 a) dx) e0):=((gr1.del a).del dx).del e0
 have sa:del (del (del σ1 a) dx) e0 a=none:=del_none (del_none (del_same _ _))
 have sd:del (del (del σ1 a) dx) e0 dx=none:=del_none (del_same _ _)
 obtain ⟨w1,w2⟩:=set_flew (lo:=lo) (σ:=del (del (del σ1 a) dx) e0) (c:=c) (·.setIfInBounds 2 (.ref e0)) he rfl (Nat.le_trans hlo la) (R1.obj a _ m1).1 sa
 have hs:Heap.SameBut a h1 (h1.update a (Obj.mapFields (·.setIfInBounds 2 (.ref e0)))):=.update ..
 have a2:AOk c N A (del (del (del σ1 a) dx) e0) h1:=ak.ext x1 g2
 refine xp a ⟨C,fs⟩ (del (del (del σ1 a) dx) e0) (h1.update a (Obj.mapFields (·.setIfInBounds 2 (.ref e0)))) tk1 q ?_ (w1.rel R2) (w1.envR E2) (w1.ok a2) ?_ g2
 · refine⟨Nat.le_trans hlo la,(R1.obj a _ m1).1,sa,dx,vs.setIfInBounds 2 (.ref e0),w2,⟨by simpa using hz,fun q=>by rw[hpx] at q;cases q⟩,Nat.le_trans hlo ld,(R1.obj dx _ m2).1,sd,hne,⟨es,n,(hs.2 dx hne).trans hd,EsR.mono (fun a xs t=>IsTup.ext FB.noTup w1.ext t) _ _ hr⟩,.inl ?_⟩
   rw[Array.getElem?_setIfInBounds_ne (by decide)];exact hv1
 · exact x1.trans (Ext.same (B:=fun b=>b=a) hs (.inl rfl)) fun b e=>.inr (by rw[e];exact la)
theorem S_try_raise {body:List Stmt}{t e:PySem.Expr}{hpos pos rpos:Pos}{C0:Value}{SX0:PE}
 (g:SsG c N env ρ body σ SQ SX0)
 (hx:∀ ex ρ' σ',SX0 ex ρ' σ'→(∀ σ1,EvG c ⟨N.n,false⟩ env ρ' t σ1 (fun v σ2=>v=.raw C0∧σ2=σ1) (fun _ _=>False)) ∧
  ((exmOne c.K (.ref ex.C) C0=some false∧SX ex ρ' σ') ∨
   (exmOne c.K (.ref ex.C) C0=some true∧c.px ex.C=true∧∀ e0 o0,σ' e0=none→EvG c ⟨N.n,false⟩ env ρ' e (upd σ' e0 (.obj o0)) (RaiseQ c (upd σ' e0 (.obj o0)) e0 o0 fun ex σ''=>SX ex ρ' σ'') (fun _ _=>False)))) :
 StG c N env ρ (.Try body [.ExceptHandler (some t) none [.Raise (some e) none rpos] hpos] [] [] pos) σ SQ SX:=fun A s QQ EE ot ak R E p xp=>by
 refine wpAny_Try_except (g A s _ _ ot ak R E (fun f fl ρ' σ' h' tk' q r R' E' x gr=>?_) fun e ex ρ' σ' h' tk' q F R' E' x gr=>?_)
 · have z:=p f fl ρ' σ' h' tk' q r R' E' x gr
   cases f with
   | next=>simp only[FR] at r;subst r;exact wpAny_execs_nil z
   | ret v=>simp only[FR] at r;refine el75 r ?_;(try clear r);intro y ze242 r;subst ze242;exact z
 obtain ⟨L,hL⟩:=E.frame_
 have a':=ak.ext2 E x gr E'
 obtain ⟨gt,hcase⟩:=hx ex ρ' σ' q
 refine noteFrame_ (s:=at_ s h' tk') (lo:=s.heap.objs.size) ot a' R' hL F fun h2 x2 F2=>?_
 have R2:=x2.rel R'
 have E2:=x2.envR E'
 have a2:=x2.ok a'
 refine setFlight_ (s:=at_ s h2 tk') (σ:=σ') F2.1 fun h3 x3 F3 t3=>?_
 have T3:=t3 F2
 have R3:=x3.rel R2
 have E3:=x3.envR E2
 have a3:=x3.ok a2
 have X3:Ext (both σ env) s.heap h3:=x3.toExt (x2.toExt x (Nat.le_refl _)) (Nat.le_refl _)
 refine wpAny_handleBy_cons (codeAny_handlers_test ?_) (by intro q;cases q)
 refine gt σ' (A.mark (some (.ref e))) (at_ s h3 tk') _ _ a3.marked R3 E3 (fun v y σ4 h4 tk4 zu59 r4 R4 x4 g4=>?_) fun _ _ _ _ _ q=>q.elim
 obtain ⟨q4,e4⟩:=zu59
 subst q4 e4
 simp only[jt1,jt2,jt3,jt4,jt5,jt6] at r4;subst r4
 have E4:=E3.ext R3 x4 g4
 have a4:=a3.ext x4 g4
 have F4:=F3.ext R3 x4 g4
 have T4:=T3.ext R3 x4 g4
 have X4:Ext (both σ env) s.heap h4:=X3.trans x4 fun a q=>(gr a q).imp .inl id
 have he4:=F4.there
 refine el68 he4 ?_;(try clear he4);intro dx4 vs4 he4 _
 rcases hcase with ⟨hm,q⟩ | ⟨hm,hpx,ge⟩
 · refine (exm_one (M:=model c.prog c.w) (c.KIn.keeps R4.static) ((Looks.ld he4).andThen .now) hm).here ?_
   simp only[Bool.false_eq_true,if_false]
   refine wpAny_handleBy_nil ?_
   unfold PySem.passOn
   refine wpAny_bind (field1_none T4 fun tb=>?_)
   rw[if_neg (show ¬ ((Value.ref tb==Value.none)=true) from Bool.false_ne_true)]
   refine wpAny_bind (setFlight_ (s:=at_ s h4 tk4) (σ:=σ4) F4 fun h5 x5 F5 _=>wpAny_throw ?_)
   exact xp e ex ρ' σ4 h5 tk4 q F5 (x5.rel R4) (x5.envR E4) (x5.toExt X4 (Nat.le_refl _)) gr
 · refine (exm_one (M:=model c.prog c.w) (c.KIn.keeps R4.static) ((Looks.ld he4).andThen .now) hm).here ?_
   simp only[if_true]
   refine codeAny_handlers_suite ?_
   refine setFlight_ (s:=at_ s h4 tk4) (σ:=σ4) F4 fun h5 x5 F5 _=>?_
   have R5:=x5.rel R4
   have E5:=x5.envR E4
   have a5:=x5.ok a4
   have X5:Ext (both σ env) s.heap h5:=x5.toExt X4 (Nat.le_refl _)
   refine el3 F5 ?_;(try clear F5);intro f1 f2 f3 dx vs he hv f4 f5 f6 f7 es k q1 q2 f9
   have R6:Rel c (upd σ4 e (.obj (lainExc ex.C dx vs))) h5:=R5.add (m:=.obj (lainExc ex.C dx vs)) f2 ⟨he,by simp,by simp,fun v q=>by cases q⟩
   have E6:EnvR c (upd σ4 e (.obj (lainExc ex.C dx vs))) env ρ' h5:=EnvR.fresh E E5 f1
   have a6:AOk c N A (upd σ4 e (.obj (lainExc ex.C dx vs))) h5:=AOk.fresh ak a5 f1
   have G6:Grown σ s.heap (upd σ4 e (.obj (lainExc ex.C dx vs))):=grown_more gr f1
   refine wpAny_execs_cons (S_raiseH (A:=A.mark (some (.ref e))) (s:=at_ s h5 tk4) (lo:=s.heap.objs.size) rfl (hv.2 hpx) (upd_same _ _ _) X5.size f1 (ge e (lainExc ex.C dx vs) f3) a6.marked R6 E6 fun a ex' σ' h6 tk6 q F6 R7 E7 a7 x6 g6=>?_)
   refine noteFrame_ (A:=A.mark (some (.ref e))) (s:=at_ s h6 tk6) (lo:=s.heap.objs.size) ot a7 R7 hL F6 fun h7 x7 F7=>?_
   refine cameBack_ (s:=at_ s h7 tk6) (σ:=σ') F7 fun h8 x8 F8=>?_
   have X6:Ext (both σ env) s.heap h6:=X5.trans x6 fun a q=>by
    by_cases h1:a=e
    · exact .inr (h1 ▸ f1)
    · have q':upd σ4 e (MO.obj (lainExc ex.C dx vs)) a≠none:=q
      rw[upd_ne _ _ h1] at q'
      exact (gr a q').imp .inl id
   exact xp a ex' ρ' σ' h8 tk6 q F8.1 (x8.rel (x7.rel R7)) (x8.envR (x7.envR E7)) (x8.toExt (x7.toExt X6 (Nat.le_refl _)) (Nat.le_refl _)) (G6.trans g6 X5.size)
end
end Mine
namespace Mine
variable [Membership Addr Zip0]
section
variable {c:Cx}{N:Lv}{σ:Sig}{Q:PV}{X:PX}
theorem findObj_meth {K:Frag}{C f:Addr}{od:Obj}{name:Str}{g:Value}(hh:hasDictIn K C=true)(ha:findIn K (.ref C) name=some (some (.ref f)))(hg:specialIn K (.ref f) "__get__"=some (some g))(ht:takesIn K (.ref f)=some false)(hc:copiedNames.contains name=false)(hl:lookIn name od=some none) :
 findObj K C (some od) name=some (.bind g (.ref f)):=by
 refine el75 (any_some hh) ?_;intro cd hc' hd
 delta findObj
 have ho:W.ownOf cd (some od) name=some none:=by unfold W.ownOf;rw[if_pos hd];exact hl
 rw[hc',Option.bind_some,ha,Option.bind_some]
 show (specialIn K (.ref f) "__get__").bind _=_
 rw[hg,Option.bind_some]
 show (takesIn K (.ref f)).bind _=_
 rw[ht,Option.bind_some]
 show (W.ownOf cd (some od) name).bind _=_
 rw[ho,Option.bind_some]
 show (if (copiedNames.contains name&&_)=true then none else _)=_
 rw[hc,Bool.false_and]
 rfl
noncomputable abbrev methO (f a:Addr):MO:=.obj { cls:=.type "method",data:=.fields #[.ref f,.ref a] }
theorem A_meth {a C f:Addr}{l:List (Str×V)}{name:Str}(q:∀ m,σ m=none→Q (.raw (.ref m)) (upd σ m (methO f a)))(ho:ObjR σ a C l)(hl:assoc l name=none)(h1:plainGet c.K C name=true)(h2:findIn c.K (.ref C) name=some (some (.ref f)))(h3:isFn c.K (.ref f)=true)
 (hh:hasDictIn c.K C=true) (hgf:specialIn c.K (.ref f) "__get__"=some (some (.builtin "function.__get__"))) (ht:takesIn c.K (.ref f)=some false) (hc:copiedNames.contains name=false):GetOp c N σ (.raw (.ref a)) name Q X:=fun A s QQ EE x ak R r p xp=>by
 simp only[jt1,jt2,jt3,jt4,jt5,jt6] at r;subst r
 refine el36 (ho.real R) ?_;intro dx es n e1 e2 e3 e4 I
 have hg:=e3.getL (name:=name)
 rw[hl] at hg
 have KX:=c.KIn.keeps R.static
 refine get_bind KX I (plainGet_of h1).1 (findObj_meth hh h2 hgf ht hc (by show (lookIn name (W.dictOf es n))=_;rw[lookIn_dict,hg])) (plainGet_of h1).2 ?_
 refine wpAny_call (fn_get (s:={ s with toks:=s.toks+1 }) KX (beq_iff_eq.mp h3) (handed_on rfl ?_))
 have x1:Ext (dom σ) s.heap (s.heap.push { cls:=.type "method",data:=.fields #[.ref f,.ref a] }):=.push _ _
 exact p (.raw (.ref s.heap.objs.size)) _ (upd σ s.heap.objs.size (methO f a)) _ (s.toks+1,s.drawn) (q _ R.fresh) (by simp only[jt1,jt2,jt3,jt4,jt5,jt6]) ((R.push _).add R.size ⟨Heap.get?_push_size _ rfl,(show Value.type "method"≠_ by decide),(show Value.type "method"≠_ by decide),fun v q=>by cases q⟩) x1 (.upd (.inr (Nat.le_refl _)))
theorem C_meth {m f a:Addr}{args:List V}(e:σ m=some (methO f a))(g:CodeOp c N σ (.ref f) (.raw (.ref a)::args) Q X):CodeOp c N σ (.ref m) args Q X:=fun A s R' ys ak R r p xp=>
 method_call (f:=.ref f) (self:=.ref a) (R.obj m _ e).2.1 (g A s R' (.ref a::ys) ak R (.cons (by simp only[jt1,jt2,jt3,jt4,jt5,jt6]) r) p xp)
theorem Kee.meth {m f a:Addr}{o:Obj}{fd:FuncData}(e:σ m=some (methO f a))(hf:c.K.lookup f=some o)(hd:o.data=.func fd):Kee c σ (.ref m):=fun h R=>by
 refine⟨.boundFrame,.inr (.inr rfl),?_⟩
 have h1:=(R.obj m _ e).2.1
 have h2:=(c.KIn.keeps R.static) _ _ hf
 refine (Looks.ld h1).andThen ?_
 refine (Looks.ld h2).andThen ?_
 rw[hd]
 exact .now
end
end Mine
namespace Mine
variable [Membership Addr Zip0]
section
variable {c:Cx}{N:Lv}{env:Env}{ρ:Rho}{σ:Sig}{Q:PV}{X:PX}
noncomputable def StEL (e it a:Addr)(l0:List V)(l:List V)(h:Heap):Prop:=∃ (i:Nat) (old:Value),IsEnum h e it (i:Int) old∧h.IsListIter it a i∧l=enumV i (l0.drop i)
theorem enumV_cons {i:Nat}{v:V}{l r:List V}(h:v::l=enumV i r):∃ u r',r=u::r'∧v=.tup [.int i,u]∧l=enumV (i+1) r':=by
 cases r with
 | nil=>cases h
 | cons u r=>simp only[jx1,jx2] at h;cases h;exact⟨u,r,rfl,rfl,rfl⟩
theorem It.enumL {lo:Nat}{e it a:Addr}{l0:List V}(h1:lo≤e)(h2:c.S.objs.size≤e)(k1:lo≤it)(k2:c.S.objs.size≤it)(hne:e≠it):It c lo e (fun b=>b=e∨b=it) (fun σ=>LR c σ a l0) (fun x=>∃ elts k pos,x=.Tuple elts k pos) (StEL e it a l0) where
 ge:=fun b w=>by rcases w with rfl | rfl;exact⟨h1,h2⟩;exact⟨k1,k2⟩
 rec_:=fun l h zu60 b w=>by
  refine el23 zu60 ?_;(try clear zu60);intro i old he o ho _ hd _
  rcases w with rfl | rfl
  · exact .fields he rfl
  · exact .fields ho hd
 frame:=fun l h h' B zu61 x n hb=>by
  refine el23 zu61 ?_;(try clear zu61);intro i old he o ho hc hd el
  refine el75 (x.keep it o (hb it (.inr rfl)) ho) ?_;intro o' e' lk
  have:o'=o:=lk.eq (by rw[hc];decide)
  subst this
  refine el75 (x.keep e _ (hb e (.inl rfl)) he) ?_;intro o2 e2 lk2
  have:=lk2.eq (show Value.type "enumerate"≠_ by decide)
  subst this
  exact⟨i,old,e2,⟨o',e',hc,hd⟩,el⟩
 self:=fun l A s Q E zu q=>el68 zu fun i old he _=>wpAny_pyIter_enum he q
 step:=fun A σ v l target s QQ E0 E1 hh zu62 R hl hn zu63 h=>by
  refine el71 zu62 ?_;(try clear zu62);intro elts k pos et
  refine el61 zu63 ?_;(try clear zu63);intro i old he hit el
  subst et
  refine el61 (enumV_cons el) ?_;intro u r er ze243 ze244;subst ze243;subst ze244
  refine el75 (hl.real R) ?_;intro xs ha rr
  obtain ⟨e1,e2⟩:=drop_get er
  refine el75 (rr.get e1) ?_;intro x0 hx r1
  have hit1:=hit
  refine el70 hit1 ?_;(try clear hit1);intro oi hoi hci hdi
  have hal:=ha
  refine el70 hal ?_;(try clear hal);intro ol hol hcl _
  have hai:a≠it:=fun q=>by subst q;obtain rfl:=uq hol hoi;rw[hcl] at hci;exact absurd hci (by decide)
  have he9:s.heap.get? e=some _:=he
  have hae:a≠e:=fun q=>by rw[← q,hol] at he9;cases he9;exact absurd hcl (show Value.type "enumerate"≠_ by decide)
  have hi:i<xs.size:=(Array.getElem?_eq_some_iff.mp (by rw[← Array.getElem?_toList];exact hx)).1
  have hlt:e<s.heap.objs.size:=Heap.lt_size he
  have D:Draws c.prog c.w A.in1 it [it,a] xs.size (fun i v=>xs[i]?=some v) (fun i h=>h.IsListIter it a i∧h.IsList a xs):=
   { live:=fun _ _ st=>el75 (st.1) fun o ho _=>⟨o,ho⟩
     frame:=fun _ _ _ st hk=>⟨el75 (st.1) fun o ho r=>⟨o,hk it (by simp) o ho,r⟩,el75 (st.2) fun o ho r=>⟨o,hk a (by simp) o ho,r⟩⟩
     item:=fun i s Q E hi st hQ=>by
      refine wpAny_nextOf_list_item st.1 st.2 (x:=xs[i]) (by simp [hi]) fun h' hit' hs'=>?_
      exact hQ _ h' s.toks (by simp [hi]) ⟨hit',el75 (st.2) fun o ho r=>⟨o,hs'.extBut a o hai ho,r⟩⟩ hs'
     done:=fun s Q E st hE=>wpAny_nextOf_list_end (show A.in1.handled=none from hh) st.1 st.2 (by simp) hE }
  refine wpAny_pyNext_enum_itemD D he ⟨hit,ha⟩ hi hne (by simp;exact⟨hne,fun q=>hae q.symm⟩) fun x h' tk hP ho hs' hT hsz hk=>⟨_,rfl,?_⟩
  have ex:x=x0:=by
   have e1':xs[i]?=some x0:=by rw[← Array.getElem?_toList];exact hx
   obtain rfl:=uq hP e1';rfl
  subst ex
  refine wpAny_letOwnedTupleGo_enum (s:={ s with heap:=h',toks:=tk+1 }) ho fun h2' he' hs2=>?_
  have hs2:Heap.SameBut e h' h2':=hs2
  have K:∀ b o,b≠e→b≠it→s.heap.get? b=some o→h2'.get? b=some o:=fun b o b1 b2 q=>hs2.extBut b o b1 (hk b o b1 b2 q)
  have S2:s.heap.objs.size≤h2'.objs.size:=by rw[hs2.1,hsz];exact Nat.le_succ _
  have X2:Ext (fun b=>b=e∨b=it) s.heap h2':=⟨fun b o hb q=>⟨o,K b o (fun z=>hb (.inl z)) (fun z=>hb (.inr z)) q,.refl o⟩,S2⟩
  have n2:NoTup (fun b=>b=e∨b=it) s.heap:=fun b ys w=>by
   rcases w with rfl | rfl
   · exact not_tup he (by show Value.type "enumerate"≠_;decide) ys
   · exact not_tup hoi (by rw[hci];decide) ys
  have hne2:s.heap.objs.size≠e:=Nat.ne_of_gt hlt
  refine h _ h2' (tk+1,s.drawn) ?_ ⟨i+1,x,by simpa using he',?_,by rw[e2]⟩ ?_
  · simp only[jt1,jt2,jt3,jt4,jt5,jt6]
    exact⟨_,_,rfl,⟨_,hs2.extBut _ _ hne2 hT,rfl,⟨rfl,R.nf⟩,_,rfl⟩,.cons (by simp only[jt1,jt2,jt3,jt4,jt5,jt6];exact⟨_,rfl⟩) (.cons (VR.ext n2 X2 r1) .nil)⟩
  · obtain ⟨⟨o3,ho3,c3,d3⟩,_⟩:=hs'
    exact⟨o3,hs2.extBut _ _ hne.symm ho3,c3,d3⟩
  · refine flew_of (W:=fun b=>b=e∨b=it) (fun b o hb q=>K b o (fun z=>hb (.inl z)) (fun z=>hb (.inr z)) q) S2 (fun b w=>by rcases w with rfl | rfl;exact⟨h1,h2⟩;exact⟨k1,k2⟩) hn fun b w=>?_
    rcases w with rfl | rfl
    · exact .fields he rfl
    · exact .fields hoi hdi
 done:=fun A σ s QQ E0 hh R hl hn zu64 h=>by
  refine el61 zu64 ?_;(try clear zu64);intro i old he hit el
  have hr:l0.drop i=[]:=by
   cases hd:l0.drop i with
   | nil=>rfl
   | cons u r=>rw[hd] at el;cases el
  refine el75 (hl.real R) ?_;intro xs ha rr
  have hit1:=hit
  refine el70 hit1 ?_;(try clear hit1);intro oi hoi hci hdi
  have hi0:xs.size≤i:=by have:=List.drop_eq_nil_iff.mp hr;have:=rr.length;simp only[Array.length_toList] at this;lia
  have D:Draws c.prog c.w A.in1 it [it,a] i (fun _ _=>False) (fun j h=>j=i∧h.IsListIter it a i∧h.IsList a xs):=
   { live:=fun _ _ st=>el75 (st.2.1) fun o ho _=>⟨o,ho⟩
     frame:=fun _ _ _ st hk=>⟨st.1,el75 (st.2.1) fun o ho r=>⟨o,hk it (by simp) o ho,r⟩,el75 (st.2.2) fun o ho r=>⟨o,hk a (by simp) o ho,r⟩⟩
     item:=fun j s Q E hj st hQ=>by have:=st.1;lia
     done:=fun s Q E st hE=>wpAny_nextOf_list_end (show A.in1.handled=none from hh) st.2.1 st.2.2 (by simp;exact hi0) hE }
  refine sized (wpAny_pyNext_enum_endD D he ⟨rfl,hit,ha⟩ fun h' x hs=>⟨rfl,h h' (tks s) ?_⟩)
  refine flew_of (W:=fun b=>b=e∨b=it) (fun b o hb q=>x b o (fun z=>hb (.inr z)) q) hs (fun b w=>by rcases w with rfl | rfl;exact⟨h1,h2⟩;exact⟨k1,k2⟩) hn fun b w=>?_
  rcases w with rfl | rfl
  · exact .fields he rfl
  · exact .fields hoi hdi
theorem CI_enumL {a:Addr}{l:List V}{K:IK}(ea:LR c σ a l)(q:K (enumV 0 l) (fun σ=>LR c σ a l) (fun x=>∃ elts k pos,x=.Tuple elts k pos) σ):CallIt c N σ (.type "enumerate") [.raw (.ref a)] K:=fun A s QQ EE ys ak R r h=>by
 simp only[ju1,ju2] at r
 refine el61 r ?_;(try clear r);intro x _ ze245 r ze246;subst ze245;subst ze246
 simp only[jt1,jt2,jt3,jt4,jt5,jt6] at r
 subst r
 refine el75 (ea.real R) ?_;intro xs ha rr
 refine call_enumerate_list ha fun h' he hit hs hk=>?_
 refine wpAny_pyIter_enum (s:={ s with heap:=h' }) he ?_
 have S2:s.heap.objs.size≤h'.objs.size:=by lia
 have X2:Ext (dom σ) s.heap h':=ext_grow hk S2
 have f0:=fresh_of R (Nat.le_refl s.heap.objs.size)
 have f1:=fresh_of R (Nat.le_succ s.heap.objs.size)
 exact h (enumV 0 l) _ _ _ _ (StEL (s.heap.objs.size+1) s.heap.objs.size a l) h' (tks s) q (.enumL (Nat.le_succ _) (Nat.le_trans R.size (Nat.le_succ _)) (Nat.le_refl _) R.size (Nat.succ_ne_self _)) ⟨0,.none,he,hit,by rw[List.drop_zero]⟩ (R.grow hk S2) X2 fun b w=>by rcases w with rfl | rfl;exact f1;exact f0
end
end Mine
namespace Mine
variable [Membership Addr Zip0]
section
variable {prog:Program}{w:World}{A:Around}{E:VP}{s:Shared}
theorem sameTT {h h':Heap}{a b t:Addr}{k:Nat}(i:h.IsTupleIter b t k)(hs:Heap.SameBut a h h')(hne:b≠a):h'.IsTupleIter b t k:=el75 (i) fun o e r=>⟨o,(hs.2 b hne).trans e,r⟩
theorem sameT {h h':Heap}{a t:Addr}{xs:Array Value}(i:h.IsTuple t xs)(hs:Heap.SameBut a h h')(hne:t≠a):h'.IsTuple t xs:=el75 (i) fun o e r=>⟨o,(hs.2 t hne).trans e,r⟩
theorem zipT_item {z TI TO i1 i2 l1 l2:Addr}{k1 k2:Nat}{xs ys:Array Value}{x y a b:Value}{Q:VP}(D:ZipApart z TI TO i1 i2 l1 l2)
 (hz:IsZip s.heap z TI TO .none) (hTI:IsPair s.heap TI (.ref i1) (.ref i2)) (hTO:IsPair s.heap TO a b)
 (h1:s.heap.IsTupleIter i1 l1 k1) (h2:s.heap.IsTupleIter i2 l2 k2) (hl1:s.heap.IsTuple l1 xs) (hl2:s.heap.IsTuple l2 ys) (hx:xs[k1]?=some x) (hy:ys[k2]?=some y)
 (hQ:∀ h',IsZip h' z TI TO (rawInt s.heap.objs.size)→IsPair h' TO x y→h'.IsTupleIter i1 l1 (k1+1)→h'.IsTupleIter i2 l2 (k2+1)→IsPair h' s.heap.objs.size x y→h'.objs.size=s.heap.objs.size+1 →
  (∀ c o,c≠z→c≠TO→c≠i1→c≠i2→s.heap.get? c=some o→h'.get? c=some o)→Q (.ref s.heap.objs.size) { s with heap:=h' }) :
 wpAny (model prog w) A (Builtin.«zip.__next__» ⟨[.ref z],[]⟩) (fun fin s'=>∃ v,fin=.done (.ret v)∧Q v s') E s:=by
 show wpAny _ _ (field (.ref z) 2 >>= _) _ _ _
 refine wpAny_bind (wpAny_field hz rfl (x:=.bool false) rfl ?_)
 show wpAny _ _ (field (.ref z) 3 >>= _) _ _ _
 refine wpAny_bind (wpAny_field hz rfl (x:=.ref TI) rfl ?_)
 refine wpAny_bind (wpAny_seqItems hTI rfl ?_)
 show wpAny _ _ (Builtin.SmallTypes.ownedTupleIsFree (.ref z) >>= _) _ _ _
 refine wpAny_bind ?_
 unfold Builtin.SmallTypes.ownedTupleIsFree
 refine wpAny_bind (wpAny_field hz rfl (x:=.none) rfl (wpAny_pure ?_))
 simp only[if_true]
 refine wpAny_bind (wpAny_rule ?_)
 refine wpAny_bind (wpAny_field hz rfl (x:=.ref TO) rfl ?_)
 refine wpAny_bind (wpAny_setField_rec hz (by simp) fun g1 hz1 hs1=>?_)
 replace hz1:IsZip g1 z TI TO .ellipsis:=hz1
 refine wpAny_bind ?_
 simp only[List.zipIdx_cons,List.zipIdx_nil,List.forIn_cons,List.forIn_nil]
 refine wpAny_bind (wpAny_bind (wpAny_onRaise ?_))
 show wpAny _ _ (Builtin.SmallTypes.nextOf (.ref i1) >>= _) _ _ _
 refine wpAny_bind (nextOf_tup_item (sameTT h1 hs1 D.i1z) (sameT hl1 hs1 D.l1z) hx fun g2 d2 hs2=>wpAny_pure ?_)
 have hTO2:IsPair g2 TO a b:=hs2.extBut _ _ D.TOi1 (hs1.extBut _ _ D.TOz hTO)
 refine wpAny_bind (wpAny_seqItems hTO2 rfl ?_)
 refine wpAny_bind (wpAny_updateSeq_pair hTO2 fun g3 hTO3 hs3=>?_)
 replace hTO3:IsPair g3 TO x b:=hTO3
 refine wpAny_bind (wpAny_letGo (wpAny_pure ?_))
 refine wpAny_bind (wpAny_bind (wpAny_onRaise ?_))
 show wpAny _ _ (Builtin.SmallTypes.nextOf (.ref i2) >>= _) _ _ _
 refine wpAny_bind (nextOf_tup_item (sameTT (sameTT (sameTT h2 hs1 D.i2z) hs2 D.i12.symm) hs3 D.TOi2.symm) (sameT (sameT (sameT hl2 hs1 D.l2z) hs2 D.l2i1) hs3 D.l2TO) hy fun g4 d4 hs4=>wpAny_pure ?_)
 have hTO4:IsPair g4 TO x b:=hs4.extBut _ _ D.TOi2 hTO3
 refine wpAny_bind (wpAny_seqItems hTO4 rfl ?_)
 refine wpAny_bind (wpAny_updateSeq_pair hTO4 fun g5 hTO5 hs5=>?_)
 replace hTO5:IsPair g5 TO x y:=hTO5
 refine wpAny_bind (wpAny_letGo (wpAny_pure (wpAny_pure ?_)))
 refine wpAny_bind (wpAny_seqItems hTO5 rfl ?_)
 refine wpAny_bind (wpAny_newTuple ?_)
 have hsz:g5.objs.size=s.heap.objs.size:=by rw[hs5.1,hs4.1,hs3.1,hs2.1,hs1.1]
 have hz5:IsZip g5 z TI TO .ellipsis:=hs5.extBut _ _ D.TOz.symm (hs4.extBut _ _ D.i2z.symm (hs3.extBut _ _ D.TOz.symm (hs2.extBut _ _ D.i1z.symm hz1)))
 have hk5:∀ c o,c≠z→c≠TO→c≠i1→c≠i2→s.heap.get? c=some o→g5.get? c=some o:=fun c o c1 c2 c3 c4 e=>
  hs5.extBut _ _ c2 (hs4.extBut _ _ c4 (hs3.extBut _ _ c2 (hs2.extBut _ _ c3 (hs1.extBut _ _ c1 e))))
 have d5:g5.IsTupleIter i1 l1 (k1+1):=sameTT (sameTT (sameTT d2 hs3 D.TOi1.symm) hs4 D.i12) hs5 D.TOi1.symm
 have e5:g5.IsTupleIter i2 l2 (k2+1):=sameTT d4 hs5 D.TOi2.symm
 have hzlt:z<g5.objs.size:=Heap.lt_size hz5
 show wpAny _ _ (Builtin.SmallTypes.ownedTupleHandOut (.ref z) (.ref g5.objs.size) >>= _) _ _ _
 refine wpAny_bind ?_
 unfold Builtin.SmallTypes.ownedTupleHandOut
 have hz6:IsZip (g5.push { cls:=.type "tuple",data:=.seq #[x,y] }) z TI TO .ellipsis:=Heap.get?_push_of_some _ hz5
 refine wpAny_bind (wpAny_setField_rec hz6 (by simp) fun g7 hz7 hs7=>?_)
 replace hz7:IsZip g7 z TI TO (rawInt g5.objs.size):=hz7
 refine wpAny_setField_rec hz7 (by simp) fun g8 hz8 hs8=>?_
 replace hz8:IsZip g8 z TI TO (rawInt g5.objs.size):=hz8
 have up:∀ c o,c≠z→g5.get? c=some o→g8.get? c=some o:=fun c o c1 e=>hs8.extBut _ _ c1 (hs7.extBut _ _ c1 (Heap.get?_push_of_some _ e))
 have hT8:IsPair g8 g5.objs.size x y:=hs8.extBut _ _ (Nat.ne_of_gt hzlt) (hs7.extBut _ _ (Nat.ne_of_gt hzlt) (Heap.get?_push_size _ rfl))
 have z8:g8.objs.size=g5.objs.size+1:=by rw[hs8.1,hs7.1,Heap.size_push]
 rw[hsz] at hz8 hT8 z8
 refine wpAny_pure ⟨_,rfl,?_⟩
 show Q (.ref g5.objs.size) _
 rw[hsz]
 exact hQ g8 hz8 (up _ _ D.TOz hTO5) (el75 (d5) fun o e r=>⟨o,up _ o D.i1z e,r⟩) (el75 (e5) fun o e r=>⟨o,up _ o D.i2z e,r⟩) hT8 z8 fun c o c1 c2 c3 c4 e=>up c o c1 (hk5 c o c1 c2 c3 c4 e)
theorem zipT_end {z TI TO i1 i2 l1 l2:Addr}{k1 k2:Nat}{xs ys:Array Value}{a b:Value}{Q:Fin→Shared→Prop}(hh:A.handled=none)(D:ZipApart z TI TO i1 i2 l1 l2)
 (hz:IsZip s.heap z TI TO .none) (hTI:IsPair s.heap TI (.ref i1) (.ref i2)) (hTO:IsPair s.heap TO a b)
 (h1:s.heap.IsTupleIter i1 l1 k1) (h2:s.heap.IsTupleIter i2 l2 k2) (hl1:s.heap.IsTuple l1 xs) (hl2:s.heap.IsTuple l2 ys) (hend:xs[k1]?=none∨ys[k2]?=none)
 (hE:∀ h' e,(∀ c o,c≠z→c≠TO→c≠i1→c≠i2→s.heap.get? c=some o→h'.get? c=some o)→(∃ o,h'.get? e=some o∧o.cls=.type "StopIteration")→E (.ref e) { s with heap:=h' }) :
 wpAny (model prog w) A (Builtin.«zip.__next__» ⟨[.ref z],[]⟩) Q E s:=by
 show wpAny _ _ (field (.ref z) 2 >>= _) _ _ _
 refine wpAny_bind (wpAny_field hz rfl (x:=.bool false) rfl ?_)
 show wpAny _ _ (field (.ref z) 3 >>= _) _ _ _
 refine wpAny_bind (wpAny_field hz rfl (x:=.ref TI) rfl ?_)
 refine wpAny_bind (wpAny_seqItems hTI rfl ?_)
 show wpAny _ _ (Builtin.SmallTypes.ownedTupleIsFree (.ref z) >>= _) _ _ _
 refine wpAny_bind ?_
 unfold Builtin.SmallTypes.ownedTupleIsFree
 refine wpAny_bind (wpAny_field hz rfl (x:=.none) rfl (wpAny_pure ?_))
 simp only[if_true]
 refine wpAny_bind (wpAny_rule ?_)
 refine wpAny_bind (wpAny_field hz rfl (x:=.ref TO) rfl ?_)
 refine wpAny_bind (wpAny_setField_rec hz (by simp) fun g1 hz1 hs1=>?_)
 replace hz1:IsZip g1 z TI TO .ellipsis:=hz1
 refine wpAny_bind ?_
 simp only[List.zipIdx_cons,List.zipIdx_nil,List.forIn_cons,List.forIn_nil]
 refine wpAny_bind (wpAny_bind (wpAny_onRaise ?_))
 show wpAny _ _ (Builtin.SmallTypes.nextOf (.ref i1) >>= _) _ _ _
 cases hx:xs[k1]? with
 | none=>
  refine wpAny_bind (nextOf_tup_end hh (sameTT h1 hs1 D.i1z) (sameT hl1 hs1 D.l1z) hx fun g2 e hs2 he=>?_)
  refine el75 he ?_;(try clear he);intro oe hoe hce
  have hz2:IsZip g2 z TI TO .ellipsis:=hs2 _ _ D.i1z.symm hz1
  have hez:e≠z:=fun x=>by subst x;obtain rfl:=uq hz2 hoe;simp at hce
  refine wpAny_setField_rec hz2 (by simp) fun g3 _ hs3=>hE g3 e (fun c o c1 _ c3 _ x=>hs3.extBut _ _ c1 (hs2 _ _ c3 (hs1.extBut _ _ c1 x))) ⟨oe,hs3.extBut _ _ hez hoe,hce⟩
 | some x=>
  have hy:ys[k2]?=none:=by rcases hend with h | h;exact (nosn hx h).elim;exact h
  refine wpAny_bind (nextOf_tup_item (sameTT h1 hs1 D.i1z) (sameT hl1 hs1 D.l1z) hx fun g2 d2 hs2=>wpAny_pure ?_)
  have hTO2:IsPair g2 TO a b:=hs2.extBut _ _ D.TOi1 (hs1.extBut _ _ D.TOz hTO)
  refine wpAny_bind (wpAny_seqItems hTO2 rfl ?_)
  refine wpAny_bind (wpAny_updateSeq_pair hTO2 fun g3 hTO3 hs3=>?_)
  refine wpAny_bind (wpAny_letGo (wpAny_pure ?_))
  refine wpAny_bind (wpAny_bind (wpAny_onRaise ?_))
  show wpAny _ _ (Builtin.SmallTypes.nextOf (.ref i2) >>= _) _ _ _
  refine wpAny_bind (nextOf_tup_end hh (sameTT (sameTT (sameTT h2 hs1 D.i2z) hs2 D.i12.symm) hs3 D.TOi2.symm) (sameT (sameT (sameT hl2 hs1 D.l2z) hs2 D.l2i1) hs3 D.l2TO) hy fun g4 e hs4 he=>?_)
  refine el75 he ?_;(try clear he);intro oe hoe hce
  have hz4:IsZip g4 z TI TO .ellipsis:=hs4 _ _ D.i2z.symm (hs3.extBut _ _ D.TOz.symm (hs2.extBut _ _ D.i1z.symm hz1))
  have hez:e≠z:=fun x=>by subst x;obtain rfl:=uq hz4 hoe;simp at hce
  refine wpAny_setField_rec hz4 (by simp) fun g5 _ hs5=>hE g5 e (fun c o c1 c2 c3 c4 x=>hs5.extBut _ _ c1 (hs4 _ _ c4 (hs3.extBut _ _ c2 (hs2.extBut _ _ c3 (hs1.extBut _ _ c1 x))))) ⟨oe,hs5.extBut _ _ hez hoe,hce⟩
end
end Mine
namespace Mine
section
/- from one set of kept-off addresses to another -/
variable (i j:Membership Addr Zip0){h h':Heap}
mutual
theorem VR.two (hk:∀ a xs,@IsTup i h a xs→@IsTup j h' a xs):∀ (v:V) (x:Value),@VR i h v x→@VR j h' v x
 | .none,_,r=>r
 | .bool _,_,r=>r
 | .int _,_,r=>r
 | .str _,_,r=>r
 | .tup l,_,r=>by show ∃ a xs,_=Value.ref a∧@IsTup j h' a xs∧@VRs j h' l xs.toList;refine el61 r ?_;(try clear r);intro a xs e t r;exact⟨a,xs,e,hk a xs t,VRs.two hk l _ r⟩
 | .raw _,_,r=>r
theorem VRs.two (hk:∀ a xs,@IsTup i h a xs→@IsTup j h' a xs):∀ (l:List V) (xs:List Value),@VRs i h l xs→@VRs j h' l xs
 | [],_,r=>r
 | v::l,_,r=>by show ∃ x r,_=x::r∧@VR j h' v x∧@VRs j h' l r;refine el61 r ?_;(try clear r);intro x r' e r1 r2;exact⟨x,r',e,VR.two hk v x r1,VRs.two hk l r' r2⟩
end
theorem PairsR.two (hk:∀ a xs,@IsTup i h a xs→@IsTup j h' a xs):∀ (l:List (Str×V)) (xs),@PairsR i h l xs→@PairsR j h' l xs
 | [],_,r=>r
 | (k,v)::l,_,r=>by show ∃ x r,_=(k,x)::r∧@VR j h' v x∧@PairsR j h' l r;refine el61 r ?_;(try clear r);intro x r' e r1 r2;exact⟨x,r',e,VR.two i j hk v x r1,PairsR.two hk l r' r2⟩
theorem EsR.two (hk:∀ a xs,@IsTup i h a xs→@IsTup j h' a xs):∀ (l:List (Str×V)) (xs),@EsR i h l xs→@EsR j h' l xs
 | [],_,r=>r
 | (k,v)::l,_,r=>by show ∃ hs t x r,_=(⟨hs,.str k t,x⟩:DictEntry)::r∧@VR j h' v x∧@EsR j h' l r;refine el47 r ?_;(try clear r);intro hs t x r' e r1 r2;exact⟨hs,t,x,r',e,VR.two i j hk v x r1,EsR.two hk l r' r2⟩
theorem MR.two {prog:Program}{w:World}{a:Addr}(hk:∀ a xs,@IsTup i h a xs→@IsTup j h' a xs)(ho:∀ o,h.get? a=some o→h'.get? a=some o){m:MO}(r:@MR i prog w h a m):@MR j prog w h' a m:=by
 cases m with
 | list l=>refine el60 r ?_;(try clear r);intro xs n e r;exact⟨xs,⟨n,ho _ e⟩,VRs.two i j hk _ _ r⟩
 | dict l=>refine el29 r ?_;(try clear r);intro kvs o es ep e hx r;exact⟨kvs,⟨o,es,ep,ho _ e,hx⟩,PairsR.two i j hk _ _ r⟩
 | inst C dx=>exact ho _ r
 | ns l=>refine el68 r ?_;(try clear r);intro es n e r;exact⟨es,n,ho _ e,EsR.two i j hk _ _ r⟩
 | exc C d nw=>refine el75 r ?_;(try clear r);intro vs e r;exact⟨vs,ho _ e,r⟩
 | set ks=>refine el29 r ?_;(try clear r);intro es o ep t e r k;exact⟨es,⟨o,ep,t,ho _ e,r⟩,k⟩
 | items d=>exact ho _ r
 | obj o=>obtain ⟨e,r⟩:=r;exact⟨ho _ e,r⟩
variable {c:Cx}{σ:Sig}{env:Env}{ρ:Rho}
theorem Rel.two (R:@Rel i c σ h)(hk:∀ a xs,@IsTup i h a xs→@IsTup j h' a xs)(ho:∀ a o,h.get? a=some o→h'.get? a=some o)(hs:h.objs.size≤h'.objs.size)(fz:∀ a,@Fz j a→c.S.objs.size≤a∧a+1<h'.objs.size):@Rel j c σ h':=
 by
 obtain ⟨r1,r2,_,r4⟩:=R
 exact @Rel.mk j c σ h' (fun a o e=>ho a o (r1 a o e)) (Nat.le_trans r2 hs) fz fun a m e=>⟨(r4 a m e).1,MR.two i j hk (ho a) (r4 a m e).2⟩
theorem EnvR.two (E0:@EnvR i c σ env ρ h)(hk:∀ a xs,@IsTup i h a xs→@IsTup j h' a xs)(ho:∀ a o,h.get? a=some o→h'.get? a=some o):@EnvR j c σ env ρ h':=by
 obtain ⟨e1,e2,e3,e4,e5,e6,⟨m,⟨o,es,ep,q1,r⟩,hv⟩,e8,e9,e10,⟨f,of,q2,q3,q4⟩⟩:=E0
 refine @EnvR.mk j c σ env ρ h' e1 e2 e3 e4 (fun x k e=>el53 (e5 x k e) fun a b v o q r=>⟨a,b,v,o,ho _ _ q,r⟩) e6 ⟨m,⟨o,es,ep,ho _ _ q1,r⟩,fun x v q=>?_⟩ e8 e9 (e10.imp id fun zu=>el75 zu fun o e r=>⟨o,ho _ _ e,r⟩) ⟨f,of,q2,ho _ _ q3,q4⟩
 rcases hv x v q with ⟨k,y,e,r⟩ | ⟨k,kk,y,e,⟨o,q,q2⟩,r⟩
 · exact .inl ⟨k,y,e,VR.two i j hk v y r⟩
 · exact .inr ⟨k,kk,y,e,⟨o,ho _ _ q,q2⟩,VR.two i j hk v y r⟩
theorem Rel.low (R:@Rel i c σ h):∀ a,@Fz i a→c.S.objs.size≤a∧a+1<h.objs.size:=by
 obtain ⟨_,_,r3,_⟩:=R
 exact r3
theorem Fly.two {lo:Nat}{e:Addr}{ex:Exn}(hk:∀ a xs,@IsTup i h a xs→@IsTup j h a xs)(F:@Fly i c σ lo h e ex):@Fly j c σ lo h e ex:=by
 refine el3 F ?_;(try clear F);intro f1 f2 f3 dx vs he hv f4 f5 f6 f7 es n q1 q2 f9
 exact⟨f1,f2,f3,dx,vs,he,hv,f4,f5,f6,f7,⟨es,n,q1,EsR.two i j hk _ _ q2⟩,f9⟩
theorem SPost.two {s:Shared}{SQ:PF}{QQ:Flow→Shared→Prop}(hz:∀ a,@Fz i a→@Fz j a)(p:@SPost i c env σ s SQ QQ):@SPost j c env σ s SQ QQ:=fun f fl ρ' σ' h' tk' q r R E x g=>by
 have hk:∀ a xs,@IsTup j h' a xs→@IsTup i h' a xs:=fun a xs zu=>el40 zu fun o e hc d nf k=>⟨o,e,hc,⟨d,fun z=>nf (hz a z)⟩,k⟩
 refine p f fl ρ' σ' h' tk' q ?_ (Rel.two j i R hk (fun _ _ e=>e) (Nat.le_refl _) fun a z=>Rel.low j R a (hz a z)) (EnvR.two j i E hk fun _ _ e=>e) x g
 cases f with
 | next=>exact r
 | ret v=>refine el75 r ?_;(try clear r);intro y e r;exact⟨y,e,VR.two j i hk v y r⟩
theorem SXPost.two {s:Shared}{SX:PE}{EE:VP}(hz:∀ a,@Fz i a→@Fz j a)(p:@SXPost i c env σ s SX EE):@SXPost j c env σ s SX EE:=fun e ex ρ' σ' h' tk' q F R E x g=>by
 have hk:∀ a xs,@IsTup j h' a xs→@IsTup i h' a xs:=fun a xs zu=>el40 zu fun o e hc d nf k=>⟨o,e,hc,⟨d,fun z=>nf (hz a z)⟩,k⟩
 exact p e ex ρ' σ' h' tk' q (Fly.two j i hk F) (Rel.two j i R hk (fun _ _ e=>e) (Nat.le_refl _) fun a z=>Rel.low j R a (hz a z)) (EnvR.two j i E hk fun _ _ e=>e) x g
end
variable [Membership Addr Zip0]
noncomputable abbrev zH1 (h:Heap)(l1:Addr):Heap:=h.push { cls:=.type "tuple_iterator",data:=.fields #[.ref l1,.int 0 0] }
noncomputable abbrev zH2 (h:Heap)(l1 l2:Addr):Heap:=(zH1 h l1).push { cls:=.type "tuple_iterator",data:=.fields #[.ref l2,.int 0 0] }
noncomputable abbrev zH3 (h:Heap)(l1 l2:Addr):Heap:=(zH2 h l1 l2).push { cls:=.type "tuple",data:=.seq #[.ref h.objs.size,.ref (zH1 h l1).objs.size] }
noncomputable abbrev zH4 (h:Heap)(l1 l2:Addr):Heap:=(zH3 h l1 l2).push { cls:=.type "tuple",data:=.seq #[.none,.none] }
noncomputable abbrev zH5 (h:Heap)(l1 l2:Addr):Heap:=(zH4 h l1 l2).push { cls:=.type "zip",data:=.fields #[.none,.bool false,.bool false,.ref (zH2 h l1 l2).objs.size,.ref (zH3 h l1 l2).objs.size] }
theorem meets_zipT (l1 l2:Addr)(xs ys:Array Value) :
 Meets (Builtin.«zip.__new__» ⟨[.type "zip",.ref l1,.ref l2],[]⟩) (fun _ R s=>s.heap.IsTuple l1 xs∧s.heap.IsTuple l2 ys ∧
  R (.ok (.ret (.ref (zH4 s.heap l1 l2).objs.size))) { s with heap:=zH5 s.heap l1 l2 }):=
 .of_wp fun prog w A R s h=>by
  obtain ⟨hp,g,d,tk,os⟩:=s;refine el77 h ?_;(try clear h);intro hl1 hl2 h
  have hsub:=sub_zip
  have hL1:Heap.IsTuple (Shared.heap ⟨hp,g,d,tk,os⟩) l1 xs:=hl1
  have hL2:Heap.IsTuple (Shared.heap ⟨hp.push { cls:=.type "tuple_iterator",data:=.fields #[.ref l1,.int 0 0] },g,d,tk,os⟩) l2 ys:=let ⟨o,e,r⟩:=hl2;⟨o,Heap.get?_push_of_some _ e,r⟩
  wp_walk using wpAny_pyIter_tuple hL1,wpAny_pyIter_tuple hL2
  exact⟨_,rfl,h⟩
section
variable {prog:Program}{w:World}{A:Around}{E:VP}{s:Shared}
theorem call_zipT {l1 l2:Addr}{xs ys:Array Value}{Q:VP}(hl1:s.heap.IsTuple l1 xs)(hl2:s.heap.IsTuple l2 ys)
 (h:∀ h',IsZip h' (s.heap.objs.size+4) (s.heap.objs.size+2) (s.heap.objs.size+3) .none→IsPair h' (s.heap.objs.size+2) (.ref s.heap.objs.size) (.ref (s.heap.objs.size+1)) →
  IsPair h' (s.heap.objs.size+3) .none .none→h'.IsTupleIter s.heap.objs.size l1 0→h'.IsTupleIter (s.heap.objs.size+1) l2 0→h'.objs.size=s.heap.objs.size+5 →
  (∀ c o,s.heap.get? c=some o→h'.get? c=some o)→Q (.ref (s.heap.objs.size+4)) { s with heap:=h' }) :
 wpAny (model prog w) A (call (.type "zip") [.ref l1,.ref l2]) Q E s:=by
 refine callType_new F.called_zip (by decide) (F.typeCall_zip_2 _ _) (F.newCall_zip_2 _ _) (fun obj=>F.args_object_init_3 obj _ _) F.entry_zip_new
  (meets_zipT l1 l2 xs ys) ⟨hl1,hl2,?_⟩
 have z1:(zH1 s.heap l1).objs.size=s.heap.objs.size+1:=Heap.size_push ..
 have z2:(zH2 s.heap l1 l2).objs.size=s.heap.objs.size+2:=by rw[Heap.size_push,z1]
 have z3:(zH3 s.heap l1 l2).objs.size=s.heap.objs.size+3:=by rw[Heap.size_push,z2]
 have z4:(zH4 s.heap l1 l2).objs.size=s.heap.objs.size+4:=by rw[Heap.size_push,z3]
 have z5:(zH5 s.heap l1 l2).objs.size=s.heap.objs.size+5:=by rw[Heap.size_push,z4]
 have g5:(zH5 s.heap l1 l2).get? (zH4 s.heap l1 l2).objs.size=some _:=Heap.get?_push_size _ rfl
 have g4:(zH5 s.heap l1 l2).get? (zH3 s.heap l1 l2).objs.size=some _:=Heap.get?_push_of_some _ (Heap.get?_push_size _ rfl)
 have g3:(zH5 s.heap l1 l2).get? (zH2 s.heap l1 l2).objs.size=some _:=Heap.get?_push_of_some _ (Heap.get?_push_of_some _ (Heap.get?_push_size _ rfl))
 have g2:(zH5 s.heap l1 l2).get? (zH1 s.heap l1).objs.size=some _:=Heap.get?_push_of_some _ (Heap.get?_push_of_some _ (Heap.get?_push_of_some _ (Heap.get?_push_size _ rfl)))
 have g1:(zH5 s.heap l1 l2).get? s.heap.objs.size=some _:=Heap.get?_push_of_some _ (Heap.get?_push_of_some _ (Heap.get?_push_of_some _ (Heap.get?_push_of_some _ (Heap.get?_push_size _ rfl))))
 show _∧_
 rw[z2,z3,z4] at g5
 rw[z1,z2] at g3
 rw[z3] at g4
 rw[z1] at g2
 rw[z4]
 exact⟨⟨_,g5,rfl⟩,h _ g5 g3 g4 ⟨_,g1,rfl,rfl⟩ ⟨_,g2,rfl,rfl⟩ z5 fun c o x=>
  Heap.get?_push_of_some _ (Heap.get?_push_of_some _ (Heap.get?_push_of_some _ (Heap.get?_push_of_some _ (Heap.get?_push_of_some _ x))))⟩
end
end Mine
namespace Mine
variable [Membership Addr Zip0]
section
variable {prog:Program}{w:World}{A:Around}{E:VP}{s:Shared}
theorem next_zipT_item {z TI TO i1 i2 l1 l2:Addr}{k1 k2:Nat}{xs ys:Array Value}{x y a b:Value}{Q:Option Value→Shared→Prop}(D:ZipApart z TI TO i1 i2 l1 l2)
 (hz:IsZip s.heap z TI TO .none) (hTI:IsPair s.heap TI (.ref i1) (.ref i2)) (hTO:IsPair s.heap TO a b)
 (h1:s.heap.IsTupleIter i1 l1 k1) (h2:s.heap.IsTupleIter i2 l2 k2) (hl1:s.heap.IsTuple l1 xs) (hl2:s.heap.IsTuple l2 ys) (hx:xs[k1]?=some x) (hy:ys[k2]?=some y)
 (hQ:∀ h',IsZip h' z TI TO (rawInt s.heap.objs.size)→IsPair h' TO x y→h'.IsTupleIter i1 l1 (k1+1)→h'.IsTupleIter i2 l2 (k2+1)→IsPair h' s.heap.objs.size x y→h'.objs.size=s.heap.objs.size+1 →
  (∀ c o,c≠z→c≠TO→c≠i1→c≠i2→s.heap.get? c=some o→h'.get? c=some o)→Q (some (.ref s.heap.objs.size)) { s with heap:=h' }) :
 wpAny (model prog w) A (pyNext (.ref z)) Q E s:=by
 have hT:s.TypeIs (.ref z) "zip":=⟨_,hz,rfl⟩
 unfold pyNext
 exact wpAny_bind (wpAny_attempt (wpAny_callSpecial?_slot (name:=Str.ofString "__next__") hT F.slot_zip_next
  (wpAny_call_entry F.slot_zip_next hT F.entry_zip_next
   (zipT_item D hz hTI hTO h1 h2 hl1 hl2 hx hy fun h' a1 a2 a3 a4 a5 a6 a7=>wpAny_pure (hQ h' a1 a2 a3 a4 a5 a6 a7)) (F.args_zip_next_1 _))))
theorem next_zipT_end {z TI TO i1 i2 l1 l2:Addr}{k1 k2:Nat}{xs ys:Array Value}{a b:Value}{Q:Option Value→Shared→Prop}(hh:A.handled=none)(D:ZipApart z TI TO i1 i2 l1 l2)
 (hz:IsZip s.heap z TI TO .none) (hTI:IsPair s.heap TI (.ref i1) (.ref i2)) (hTO:IsPair s.heap TO a b)
 (h1:s.heap.IsTupleIter i1 l1 k1) (h2:s.heap.IsTupleIter i2 l2 k2) (hl1:s.heap.IsTuple l1 xs) (hl2:s.heap.IsTuple l2 ys) (hend:xs[k1]?=none∨ys[k2]?=none)
 (hQ:∀ h',(∀ c o,c≠z→c≠TO→c≠i1→c≠i2→s.heap.get? c=some o→h'.get? c=some o)→Q none { s with heap:=h' }):wpAny (model prog w) A (pyNext (.ref z)) Q E s:=by
 have hT:s.TypeIs (.ref z) "zip":=⟨_,hz,rfl⟩
 unfold pyNext
 refine wpAny_bind (wpAny_attempt (wpAny_callSpecial?_slot (name:=Str.ofString "__next__") hT F.slot_zip_next
  (wpAny_call_entry F.slot_zip_next hT F.entry_zip_next (zipT_end hh D hz hTI hTO h1 h2 hl1 hl2 hend fun h' e hk he=>?_) (F.args_zip_next_1 _))))
 refine el75 he ?_;(try clear he);intro o ho hc
 refine wpAny_bind (wpAny_isInstance (T:="StopIteration") (b:=true) ⟨o,ho,hc⟩ isSubtype_stop ?_)
 exact wpAny_pure (hQ _ hk)
end
section
variable {c:Cx}{N:Lv}{env:Env}{ρ:Rho}{σ:Sig}{Q:PV}{X:PX}
noncomputable def zipV:List V→List V→List V
 | [],_=>[]
 | _::_,[]=>[]
 | a::as,b::bs=>.tup [a,b]::zipV as bs
theorem jz52_1:zipV [] w1=([]):=rfl
theorem jz52_2:zipV (w1::w2) []=([]):=rfl
theorem jz52_3:zipV (a::as) (b::bs)=(.tup [a,b]::zipV as bs):=rfl
theorem zipV_cons {v:V}{l l1 l2:List V}(h:v::l=zipV l1 l2):∃ a as b bs,l1=a::as∧l2=b::bs∧v=.tup [a,b]∧l=zipV as bs:=by
 cases l1 with
 | nil=>cases h
 | cons a as=>
  cases l2 with
  | nil=>cases h
  | cons b bs=>simp only[jz52_1,jz52_2,jz52_3] at h;cases h;exact⟨a,as,b,bs,rfl,rfl,rfl,rfl⟩
structure StZ (z TI TO i1 i2 t1 t2:Addr) (l:List V) (h:Heap):Prop where
 zip:IsZip h z TI TO .none
 ti:IsTup h TI #[.ref i1,.ref i2]
 pi:IsPair h TI (.ref i1) (.ref i2)
 to:∃ a b,IsPair h TO a b
 st:∃ k1 k2 xs ys l1 l2,h.IsTupleIter i1 t1 k1∧h.IsTupleIter i2 t2 k2∧IsTup h t1 xs∧IsTup h t2 ys∧VRs h l1 (xs.toList.drop k1)∧VRs h l2 (ys.toList.drop k2)∧l=zipV l1 l2
noncomputable abbrev ZW (z TO i1 i2:Addr):Addr→Prop:=fun b=>b=z∨b=TO∨b=i1∨b=i2
theorem ZW.noTup {z TI TO i1 i2 t1 t2:Addr}{l:List V}{h:Heap}(hf:Fz TO)(s:StZ z TI TO i1 i2 t1 t2 l h):NoTup (ZW z TO i1 i2) h:=fun b xs w zu65=>by
 refine el40 zu65 ?_;(try clear zu65);intro o e hc _ nf _
 obtain ⟨hz,_,_,_,k1,k2,_,_,_,_,⟨o1,q1,c1,_⟩,⟨o2,q2,c2,_⟩,_⟩:=s
 rcases w with rfl | rfl | rfl | rfl
 · have hz':h.get? b=some _:=hz
   obtain rfl:=uq e hz';exact absurd hc (show Value.type "zip"≠_ by decide)
 · exact nf hf
 · obtain rfl:=uq e q1;rw[hc] at c1;exact absurd c1 (by decide)
 · obtain rfl:=uq e q2;rw[hc] at c2;exact absurd c2 (by decide)
theorem StZ.rec_ {z TI TO i1 i2 t1 t2:Addr}{l:List V}{h:Heap}(hf:Fz TO)(s:StZ z TI TO i1 i2 t1 t2 l h):∀ b,ZW z TO i1 i2 b→RecAt h b:=fun b w=>by
 obtain ⟨hz,_,_,⟨x,y,hto⟩,k1,k2,_,_,_,_,⟨o1,q1,c1,d1⟩,⟨o2,q2,c2,d2⟩,_⟩:=s
 rcases w with rfl | rfl | rfl | rfl
 · exact .fields hz rfl
 · exact⟨_,hto,.inr ⟨hf,rfl,_,_,rfl⟩⟩
 · exact .fields q1 d1
 · exact .fields q2 d2
theorem It.zip {lo:Nat}{z TI TO i1 i2 t1 t2:Addr}(hf:Fz TO)(D:ZipApart z TI TO i1 i2 t1 t2)(ge:∀ b,ZW z TO i1 i2 b→lo≤b∧c.S.objs.size≤b) :
 It c lo z (ZW z TO i1 i2) (fun _=>True) (fun x=>∃ elts k pos,x=.Tuple elts k pos) (StZ z TI TO i1 i2 t1 t2) where
 ge:=ge
 rec_:=fun l h s=>s.rec_ hf
 frame:=fun l h h' B s x n hb=>by
  obtain ⟨hz,hti,hpi,⟨a,b,hto⟩,k1,k2,xs,ys,l1,l2,⟨o1,q1,c1,d1⟩,⟨o2,q2,c2,d2⟩,u1,u2,r1,r2,el⟩:=s
  refine el75 (x.keep z _ (hb z (.inl rfl)) hz) ?_;intro oz ez lz
  have:=lz.eq (show Value.type "zip"≠_ by decide);subst this
  refine el75 (x.keep TO _ (hb TO (.inr (.inl rfl))) hto) ?_;intro ot et lt
  have:=lt.eq (show Value.type "tuple"≠_ by decide);subst this
  refine el75 (x.keep TI _ (fun q=>n TI _ q hti) hpi) ?_;intro oi ei li
  have:=li.eq (show Value.type "tuple"≠_ by decide);subst this
  refine el75 (x.keep i1 o1 (hb i1 (.inr (.inr (.inl rfl)))) q1) ?_;intro p1 f1 m1
  have:=m1.eq (by rw[c1];decide);subst this
  refine el75 (x.keep i2 o2 (hb i2 (.inr (.inr (.inr rfl)))) q2) ?_;intro p2 f2 m2
  have:=m2.eq (by rw[c2];decide);subst this
  exact⟨ez,IsTup.ext n x hti,ei,⟨a,b,et⟩,k1,k2,xs,ys,l1,l2,⟨p1,f1,c1,d1⟩,⟨p2,f2,c2,d2⟩,IsTup.ext n x u1,IsTup.ext n x u2,VRs.ext n x r1,VRs.ext n x r2,el⟩
 self:=fun l A s Q E st q=>wpAny_pyIter_zip st.zip q
 step:=fun A σ v l target s QQ E0 E1 hh zu66 R _ hn st h=>by
  refine el71 zu66 ?_;(try clear zu66);intro elts k pos et
  subst et
  have rc:=st.rec_ hf
  have nt:=ZW.noTup hf st
  obtain ⟨hz,hti,hpi,⟨a,b,hto⟩,k1,k2,xs,ys,l1,l2,j1,j2,u1,u2,r1,r2,el⟩:=st
  refine el44 (zipV_cons el) ?_;intro va as vb bs ze247 ze248 ze249 ze250;subst ze247;subst ze248;subst ze249;subst ze250
  simp only[ju1,ju2] at r1 r2
  refine el61 r1 ?_;(try clear r1);intro x rx ex rv1 rs1
  refine el61 r2 ?_;(try clear r2);intro y ry ey rv2 rs2
  obtain ⟨gx,dx⟩:=drop_get ex
  obtain ⟨gy,dy⟩:=drop_get ey
  have hlt:z<s.heap.objs.size:=Heap.lt_size hz
  refine next_zipT_item D hz hpi hto j1 j2 u1.lib u2.lib (x:=x) (y:=y) (by rw[← Array.getElem?_toList];exact gx) (by rw[← Array.getElem?_toList];exact gy) fun h1 z1 to1 k1' k2' T1 sz1 keep1=>⟨_,rfl,?_⟩
  refine wpAny_letOwnedTupleGo_zip (s:={ s with heap:=h1 }) z1 fun h2 z2 hs2=>?_
  have hs2:Heap.SameBut z h1 h2:=hs2
  have kp:∀ b o,¬ ZW z TO i1 i2 b→s.heap.get? b=some o→h2.get? b=some o:=fun b o w e=>hs2.extBut b o (fun q=>w (.inl q)) (keep1 b o (fun q=>w (.inl q)) (fun q=>w (.inr (.inl q))) (fun q=>w (.inr (.inr (.inl q)))) (fun q=>w (.inr (.inr (.inr q)))) e)
  have S2:s.heap.objs.size≤h2.objs.size:=by rw[hs2.1,sz1];exact Nat.le_succ _
  have X2:Ext (ZW z TO i1 i2) s.heap h2:=⟨fun b o w e=>⟨o,kp b o w e,.refl o⟩,S2⟩
  have hne2:s.heap.objs.size≠z:=Nat.ne_of_gt hlt
  have wTI:¬ ZW z TO i1 i2 TI:=fun w=>nt TI _ w hti
  refine h _ h2 (tks s) ?_ ⟨z2,IsTup.ext nt X2 hti,kp _ _ wTI hpi,⟨x,y,hs2.extBut _ _ D.TOz to1⟩,k1+1,k2+1,xs,ys,as,bs,sameTT k1' hs2 D.i1z,sameTT k2' hs2 D.i2z,IsTup.ext nt X2 u1,IsTup.ext nt X2 u2,by rw[dx];exact VRs.ext nt X2 rs1,by rw[dy];exact VRs.ext nt X2 rs2,rfl⟩ ?_
  · simp only[jt1,jt2,jt3,jt4,jt5,jt6]
    exact⟨_,_,rfl,⟨_,hs2.extBut _ _ hne2 T1,rfl,⟨rfl,R.nf⟩,_,rfl⟩,.cons (VR.ext nt X2 rv1) (.cons (VR.ext nt X2 rv2) .nil)⟩
  · exact flew_of (W:=ZW z TO i1 i2) kp S2 ge hn rc
 done:=fun A σ s QQ E0 hh R _ hn st h=>by
  have rc:=st.rec_ hf
  obtain ⟨hz,hti,hpi,⟨a,b,hto⟩,k1,k2,xs,ys,l1,l2,j1,j2,u1,u2,r1,r2,el⟩:=st
  have hend:xs[k1]?=none∨ys[k2]?=none:=by
   cases l1 with
   | nil=>
    simp only[ju1,ju2] at r1
    exact .inl (by rw[← Array.getElem?_toList];exact List.getElem?_eq_none (List.drop_eq_nil_iff.mp r1))
   | cons va as=>
    cases l2 with
    | nil=>
     simp only[ju1,ju2] at r2
     exact .inr (by rw[← Array.getElem?_toList];exact List.getElem?_eq_none (List.drop_eq_nil_iff.mp r2))
    | cons _ _=>cases el
  refine sized (next_zipT_end hh D hz hpi hto j1 j2 u1.lib u2.lib hend fun h' x hs=>⟨rfl,h h' (tks s) ?_⟩)
  exact flew_of (W:=ZW z TO i1 i2) (fun b o w q=>x b o (fun q=>w (.inl q)) (fun q=>w (.inr (.inl q))) (fun q=>w (.inr (.inr (.inl q)))) (fun q=>w (.inr (.inr (.inr q)))) q) hs ge hn rc
end
end Mine
namespace Mine
theorem zip_apart {n t1 t2:Nat}(h1:t1<n)(h2:t2<n):ZipApart (n+4) (n+2) (n+3) n (n+1) t1 t2:=by constructor <;> (intro q;have q:@Eq Nat _ _:=q;lia)
variable [Membership Addr Zip0]
section
variable {c:Cx}{N:Lv}{env:Env}{ρ:Rho}{σ:Sig}{SQ:PF}{SX:PE}
theorem S_forZ {fe:PySem.Expr}{es elts:List PySem.Expr}{k:Nat}{tp cpos pos:Pos}{body:List Stmt}(hhn:N.hn=true)
 (g:EvG c N env ρ fe σ (fun v σ1=>v=.raw (.type "zip")∧ArgsG c N env ρ es cpos σ1 (fun vs σ2=>∃ l1 l2,vs=[.tup l1,.tup l2]∧∃ Inv:List V→Rho→Sig→Prop,Inv (zipV l1 l2) ρ σ2 ∧
  (∀ j:Membership Addr Zip0,(∀ a,@Fz j a→c.S.objs.size≤a)→∀ v l ρ1 σ1,Inv (v::l) ρ1 σ1→∃ ρ2,Takes (.Tuple elts k tp) v ρ1 ρ2∧@SsG j c N env ρ2 body σ1 (fun f ρ3 σ3=>match f with | .next=>Inv l ρ3 σ3 | .ret v=>SQ (.ret v) ρ3 σ3) SX) ∧
  (∀ ρ1 σ1,Inv [] ρ1 σ1→SQ .next ρ1 σ1)) (fun ex σ'=>SX ex ρ σ')) (fun ex σ'=>SX ex ρ σ'))
 (he:eval (.Call fe es [] cpos) env=(do let f ← eval fe env;callWith cpos f [] (backTo cpos (starEach es env)) []):=by rfl) (hp:(backTo cpos (starEach es env)).any (·.1)=false:=by rfl)
 (hs:∀ x,foldedSetIterable (.Call fe es [] cpos) env x=pure x:=by intro _;rfl):StG c N env ρ (.For (.Tuple elts k tp) (.Call fe es [] cpos) body [] pos) σ SQ SX:=fun A s QQ EE ot ak R E p xp=>by
 have xp':XPost c σ s (fun ex σ'=>SX ex ρ σ') EE:=fun e ex σ1 h1 tk1 q f R1 x1 gr1=>xp e ex ρ σ1 h1 tk1 q f R1 (E.ext R x1 gr1) x1.both gr1
 refine wpAny_For ?_ hs
 rw[he]
 refine wpAny_bind (g.run ak R E xp' fun v x σ1 h1 tk1 zu67 r1 a1 R1 E1 x1 gr1=>?_)
 obtain ⟨e1,g1⟩:=zu67
 subst e1
 simp only[jt1,jt2,jt3,jt4,jt5,jt6] at r1
 subst r1
 refine call_node (P:=fun h=>∃ k,(k=Keeper.frame∨k=Keeper.machine∨k=Keeper.boundFrame)∧Looks (model c.prog c.w) h (keeperOf (.type "zip")) k) (fun h q=>q) (g1.run a1 R1 E1 (xp'.step x1 gr1) fun vs ys σ2 h2 tk2 ⟨l1,l2,e2,Inv,q0,qs,qd⟩ r2 a2 R2 E2 x2 gr2=>⟨Kee.type h2 R2,?_⟩) hp
 subst e2
 simp only[ju1,ju2,jt1,jt2,jt3,jt4,jt5,jt6] at r2
 refine el0 r2 ?_;(try clear r2);intro _ _ ze251 t1 xs ze252 u1 s1 _ _ ze253 t2 zs ze254 u2 s2 ze255;subst ze251;subst ze252;subst ze253;subst ze254;subst ze255
 refine call_zipT u1.lib u2.lib fun h' hz hpi hto j1 j2 hsz hk=>?_
 refine wpAny_pyIter_zip hz ?_
 have hsz:h'.objs.size=h2.objs.size+5:=hsz
 have hk:∀ c o,h2.get? c=some o→h'.get? c=some o:=hk
 have lt1:t1<h2.objs.size:=el75 (u1) fun _ e _=>Heap.lt_size e
 have lt2:t2<h2.objs.size:=el75 (u2) fun _ e _=>Heap.lt_size e
 have gr:=gr1.trans gr2 x1.size
 have xx:=x1.trans x2 (dom_back gr1)
 have S2:h2.objs.size≤h'.objs.size:=by rw[hsz];exact Nat.le_add_right _ _
 have X2:Ext (dom σ2) h2 h':=ext_grow hk S2
 have XX:=xx.trans X2 (dom_back gr)
 have hlo:s.heap.objs.size≤h2.objs.size:=xx.size
 show codeAny _ A (.forLoop (.Tuple elts k tp) (.ref (h2.objs.size+4)) body [] env) _ (at_ s h' tk2)
 have hz:IsZip h' (h2.objs.size+4) (h2.objs.size+2) (h2.objs.size+3) .none:=hz
 have hpi:IsPair h' (h2.objs.size+2) (.ref h2.objs.size) (.ref (h2.objs.size+1)):=hpi
 have hto:IsPair h' (h2.objs.size+3) .none .none:=hto
 have j1:h'.IsTupleIter h2.objs.size t1 0:=j1
 have j2:h'.IsTupleIter (h2.objs.size+1) t2 0:=j2
 generalize hn:h2.objs.size=n at *
 have hF:∀ a,Fz a∨a=n+3→c.S.objs.size≤a∧a+1<h'.objs.size:=fun a q=>by
  rcases q with q | rfl
  · refine⟨(R2.fz a q).1,Nat.lt_of_lt_of_le (R2.fz a q).2 ?_⟩
    show h2.objs.size≤_
    rw[hn];exact S2
  · exact⟨Nat.le_trans (by rw[← hn];exact R2.size) (Nat.le_add_right _ _),by rw[hsz];exact Nat.lt_succ_self _⟩
 have hk2:∀ a xs,IsTup h2 a xs→@IsTup ⟨fun _ a=>Fz a∨a=n+3⟩ h' a xs:=fun a xs ⟨o,e,hc,⟨d,nf⟩,k⟩=>⟨o,hk _ _ e,hc,⟨d,fun q=>q.elim nf fun q=>by
  subst q;have:=Heap.lt_size e;rw[hn] at this;exact absurd this (Nat.not_lt.mpr (Nat.le_add_right n 3))⟩,k⟩
 refine @for_loop ⟨fun _ a=>Fz a∨a=n+3⟩ c N env σ SQ SX (.Tuple elts k tp) body A s QQ EE (n+4) (ZW (n+4) (n+3) n (n+1)) (fun _=>True) (fun x=>∃ elts k pos,x=.Tuple elts k pos) (@StZ ⟨fun _ a=>Fz a∨a=n+3⟩ (n+4) (n+2) (n+3) n (n+1) t1 t2) hhn ot (SPost.two _ _ (fun a q=>.inl q) p) (SXPost.two _ _ (fun a q=>.inl q) xp)
  (@It.zip ⟨fun _ a=>Fz a∨a=n+3⟩ c s.heap.objs.size (n+4) (n+2) (n+3) n (n+1) t1 t2 (.inr rfl) (zip_apart lt1 lt2) fun b w=>?_) ⟨elts,k,tp,rfl⟩ Inv (fun v l ρ1 σ1 q=>⟨trivial,qs ⟨fun _ a=>Fz a∨a=n+3⟩ (fun a q=>(hF a q).1) v l ρ1 σ1 q⟩) (fun ρ1 σ1 q=>⟨trivial,qd ρ1 σ1 q⟩)
  (zipV l1 l2) ρ σ2 h' tk2 q0 (a2.ext X2 (.refl _ _)) (Rel.two _ _ R2 hk2 hk (by rw[hn];exact S2) hF) (EnvR.two _ _ E2 hk2 hk) XX.both gr ?_ ?_
 · have:n≤b:=by rcases w with rfl | rfl | rfl | rfl <;> lia
   exact⟨Nat.le_trans hlo this,Nat.le_trans (by rw[← hn];exact R2.size) this⟩
 · exact @StZ.mk ⟨fun _ a=>Fz a∨a=n+3⟩ _ _ _ _ _ _ _ _ _ hz ⟨_,hpi,rfl,⟨rfl,fun q=>q.elim (R2.nfz (show h2.objs.size≤_ by rw[hn];lia)) fun q=>absurd (show (n+2:Nat)=n+3 from q) (by lia)⟩,_,rfl⟩ hpi ⟨_,_,hto⟩
    ⟨0,0,xs,zs,l1,l2,j1,j2,hk2 _ _ u1,hk2 _ _ u2,by rw[List.drop_zero];exact VRs.two _ _ hk2 _ _ s1,by rw[List.drop_zero];exact VRs.two _ _ hk2 _ _ s2,rfl⟩
 · intro a w
   refine fresh_of R2 ?_
   show h2.objs.size≤a
   rw[hn]
   rcases w with rfl | rfl | rfl | rfl <;> lia
end
end Mine
namespace Mine
variable [Membership Addr Zip0]
section
variable {prog:Program}{w:World}{A:Around}{E:VP}{s:Shared}
theorem setItem_plain {l:Addr}{items:Array Value}{n:Nat}{k:Int}{t:Tok}{v:Value}{Q:UP}(ho:s.heap.get? l=some { cls:=.type "list",data:=.seq items n })(h0:0≤k)(hfit:k<2 ^ 63)(hn:k<items.size)
 (hQ:Q () { s with heap:=s.heap.update l (Obj.mapSeq (·.setIfInBounds k.toNat v)) }):wpAny (model prog w) A (setItem (.ref l) (.int k t) v) Q E s:=by
 have hl:s.TypeIs (.ref l) "list":=⟨_,ho,rfl⟩
 unfold setItem
 try with_reducible refine wpAny_holding ?_
 first | refine wpAny_bind (wpAny_pure ?_) | skip
 refine wpAny_bind (wpAny_sequenceKey hl (by decide) ?_)
 refine wpAny_bind (wpAny_callSpecial?_slot (name:=Str.ofString "__setitem__") hl slot_list_setitem
  (wpAny_call_entry slot_list_setitem hl entry_list_setitem ?_ (args_list_setitem _ _ _)))
 show wpAny _ _ (Builtin.List.listSubscript? (.int k t) >>= _) _ _ s
 refine wpAny_bind (wpAny_listSubscript_int (fitsIndex_of h0 hfit) ?_)
 clear hfit
 obtain ⟨j,rfl⟩:=Int.eq_ofNat_of_zero_le h0
 have hj:j<items.size:=by lia
 have hx':items[j]?=some items[j]:=Array.getElem?_eq_getElem hj
 show wpAny _ _ ((seqItemAt l j >>= fun r=>pure (r.map (j,·))) >>= _) _ _ s
 refine wpAny_bind (wpAny_bind (wpAny_seqItemAt ho rfl (wpAny_pure ?_)))
 rw[hx']
 show wpAny _ _ (setSeqItemAt l j v >>= _) _ _ s
 refine wpAny_bind (wpAny_setSeqItemAt ho rfl ?_)
 first
  | exact wpAny_bind (wpAny_pure (wpAny_pure ⟨.none,rfl,wpAny_pure hQ⟩))
  | exact wpAny_pure ⟨.none,rfl,wpAny_pure hQ⟩
end
section
variable {c:Cx}{N:Lv}{env:Env}{ρ:Rho}{σ:Sig}{Q:PV}{X:PX}
theorem VRs.set {h:Heap}{v:V}{x:Value}:∀ {l:List V}{xs:List Value} (j:Nat),VRs h l xs→VR h v x→VRs h (l.set j v) (xs.set j x)
 | [],xs,j,r,_=>by simp only[ju1,ju2] at r;subst r;simp [ju1,ju2]
 | u::l,xs,0,r,rv=>by
  simp only[ju1,ju2] at r
  refine el61 r ?_;(try clear r);intro y r' ze256 r1 r2;subst ze256
  exact .cons rv r2
 | u::l,xs,j+1,r,rv=>by
  simp only[ju1,ju2] at r
  refine el61 r ?_;(try clear r);intro y r' ze257 r1 r2;subst ze257
  exact .cons r1 (VRs.set j r2 rv)
section
variable {c:Cx}{N:Lv}{env:Env}{ρ:Rho}{σ:Sig}
noncomputable abbrev StoreOp (c:Cx)(N:Lv)(σ:Sig)(o i v:V)(Q:Sig→Prop)(X:PX):Prop:=
 ∀ (A:Around) (s:Shared) (QQ:UP) (EE:VP) (x y z:Value),AOk c N A σ s.heap→Rel c σ s.heap→VR s.heap o x→VR s.heap i y→VR s.heap v z→Post c σ s (fun _ (_:Unit) (_:Unit)=>True) (fun _=>Q) QQ→XPost c σ s X EE→wpAny (model c.prog c.w) A (setItem x y z) QQ EE s
theorem S_store {SQ:PF}{SX:PE}{o i:PySem.Expr}{pos' pos:Pos}{e:PySem.Expr}(g:EvG c N env ρ e σ (fun v σ1=>EvG c N env ρ o σ1 (fun a σ2=>EvG c N env ρ i σ2 (fun k σ3=>StoreOp c N σ3 a k v (fun σ4=>SQ .next ρ σ4) (fun ex σ'=>SX ex ρ σ')) (fun ex σ'=>SX ex ρ σ')) (fun ex σ'=>SX ex ρ σ')) (fun ex σ'=>SX ex ρ σ'))
 (hs:swapsWith e (some (.Subscript o i pos')) pos.line env=pure false):StG c N env ρ (.Assign [.Subscript o i pos'] e pos) σ SQ SX:=fun A s QQ EE ot a R E p xp=>
 wpAny_Assign_Subscript (EvG.runS g a R E xp fun v y σ1 h1 tk1 g1 r1 a1 R1 E1 x1 gr1=>EvG.runS g1 a1 R1 E1 (xp.step x1.both gr1) fun u z σ2 h2 tk2 g2 r2 a2 R2 E2 x2 gr2=>
  EvG.runS g2 a2 R2 E2 ((xp.step x1.both gr1).step x2.both gr2) fun k zk σ3 h3 tk3 g3 rk a3 R3 E3 x3 gr3=>
   g3 A _ _ EE z zk y a3 R3 (R2.vr x3 r2) rk (R2.vr x3 (R1.vr x2 r1))
    (fun _ _ σ4 h4 tk4 q _ R4 x4 gr4=>(((p.step x1.both gr1).step x2.both gr2).step x3.both gr3) .next .next ρ σ4 h4 tk4 q rfl R4 (E3.ext R3 x4 gr4) x4.both gr4)
    (fun ex e' σ4 h4 tk4 q f R4 x4 gr4=>(((xp.step x1.both gr1).step x2.both gr2).step x3.both gr3) ex e' ρ σ4 h4 tk4 q f R4 (E3.ext R3 x4 gr4) x4.both gr4)) hs
theorem St_dict {d:Addr}{l:List (Str×V)}{x:Str}{v:V}{Q:Sig→Prop}{X:PX}(e3:σ d=some (.dict l))(q:Q (upd σ d (.dict (putA l x v))))(hz:l.length≤900):StoreOp c N σ (.raw (.ref d)) (.str x) v Q X:=fun A s QQ EE z zk y a3 R3 r2 rk r1 p xp=>by
 simp only[jt1,jt2,jt3,jt4,jt5,jt6] at r2 rk
 subst r2
 refine el74 rk ?_;(try clear rk);intro _ t ze258;subst ze258
 refine el75 ((R3.obj d _ e3).2) ?_;intro kvs hd hr
 have hlen:kvs.length=l.length:=hr.length
 refine wpAny_setItem_pairs (hsz:=by rw[hlen,sizeLine_is];exact nle (by assumption) (by rfl)) (strKind_is c.prog c.w x t) hd fun h4 hd4 hs=>?_
 have x4:Ext (dom σ) s.heap h4:=.same hs (.inl (by show σ d≠none;rw[e3];simp))
 have hn:(kvs.map (·.1)).Nodup:=el33 (hd) fun _ _ _ _ _ _ _ _ hn=>hn
 have r4:PairsR h4 (putA l x v) (stored kvs x y):=PairsR.mono (fun a xs t=>IsTup.ext R3.noTup x4 t) _ _ (hr.put r1 hn)
 exact p () () _ h4 (s.toks+1,s.drawn) q trivial (R3.change e3 hs (m':=.dict (putA l x v)) ⟨_,hd4,r4⟩) x4 (.upd (.inl (by rw[e3];simp)))
end
theorem St_list {d:Addr}{l:List V}{j:Nat}{v:V}{Q:Sig→Prop}(e:σ d=some (.list l))(q:Q (upd σ d (.list (l.set j v))))(hj:j<l.length)(hz:l.length≤1000000):StoreOp c N σ (.raw (.ref d)) (.int j) v Q X:=fun A s QQ EE z zk y ak R r2 rk r1 p xp=>by
 simp only[jt1,jt2,jt3,jt4,jt5,jt6] at r2 rk
 subst r2
 obtain ⟨t,rfl⟩:=rk
 refine el60 ((R.obj d _ e).2) ?_;intro xs n ho r
 have hl:xs.size=l.length:=by rw[← Array.length_toList,r.length]
 refine setItem_plain ho (Int.natCast_nonneg j) (by lia) (by lia) ?_
 rw[Int.toNat_natCast]
 have hs:Heap.SameBut d s.heap (s.heap.update d (Obj.mapSeq (·.setIfInBounds j y))):=.update ..
 obtain ⟨n',hd'⟩:=Obj.data_mapSeq (o:={ cls:=.type "list",data:=.seq xs n }) rfl (·.setIfInBounds j y)
 have x:Ext (dom σ) s.heap (s.heap.update d (Obj.mapSeq (·.setIfInBounds j y))):=.same hs (.inl (by show σ d≠none;rw[e];simp))
 refine p () () _ _ (tks s) q trivial (R.change e hs (m':=.list (l.set j v)) ⟨xs.setIfInBounds j y,⟨n',?_⟩,?_⟩) x (.upd (.inl (by rw[e];simp)))
 · rw[Heap.get?_update_self _ ho (Obj.isFreed_of_seq hd')]
   have:Obj.mapSeq (·.setIfInBounds j y) { cls:=.type "list",data:=.seq xs n }={ cls:=.type "list",data:=(Obj.mapSeq (·.setIfInBounds j y) { cls:=.type "list",data:=.seq xs n }).data }:=by
    first | rfl | (unfold Obj.mapSeq;rfl)
   rw[this,hd']
 · rw[Array.toList_setIfInBounds]
   exact VRs.set j (VRs.same R e hs r) (R.vr x r1)
theorem B_abs {i:Int}(q:Q (.int (if i<0 then -i else i)) σ):CallOp c N σ (.builtin "abs") [.int i] Q X:=fun A s QQ EE ys a R r p xp=>by
 simp only[ju1,ju2,jt1,jt2,jt3,jt4,jt5,jt6] at r
 refine el39 r ?_;(try clear r);intro x _ ze259 t ze260 ze261;subst ze259;subst ze260;subst ze261
 exact call_abs_int fun u tk=>p.tok R q (by simp only[jt1,jt2,jt3,jt4,jt5,jt6];exact⟨_,rfl⟩)
theorem T_cmp2 {l r1 r2:PySem.Expr}{o1 o2:CmpOp}{pos:Pos}{BQ:Bool→Sig→Prop}(hm:lastMarks [o1,o2] [r1,r2]=false)
 (g:EvG c N env ρ l σ (fun a σ1=>EvG c N env ρ r1 σ1 (fun b σ2=>Op2 c N σ2 a b (compareOp o1) (fun v σ3=>∃ t,v=.bool t∧match t with
  | true=>EvG c N env ρ r2 σ3 (fun d σ4=>Op2 c N σ4 b d (compareOp o2) (fun v σ5=>∃ t,v=.bool t∧BQ t σ5) X) X
  | false=>BQ false σ3) X) X) X):TG c N env ρ (.Compare l [o1,o2] [r1,r2] pos) σ BQ X:=fun A s QQ EE ak R E p xp=>
 isTrue_chain (g.run ak R E xp fun v x σ1 h1 tk1 g1 rv1 a1 R1 E1 x1 gr1=>test_link (g1.run a1 R1 E1 (xp.step x1 gr1) fun u y σ2 h2 tk2 g2 rv2 a2 R2 E2 x2 gr2=>
  g2 A _ _ EE x y a2 R2 (R1.vr x2 rv1) rv2 (fun v' z σ3 h3 tk3 zu68 rv3 R3 x3 gr3=>by
   refine el75 zu68 ?_;(try clear zu68);intro t e3 q3
   subst e3
   have E3:=E2.ext R2 x3 gr3
   have a3:=a2.ext x3 gr3
   refine truthy_b rv3 ?_
   cases t with
   | false=>exact ((p.step x1 gr1).step x2 gr2) false false σ3 h3 tk3 q3 rfl R3 x3 gr3
   | true=>
    refine test_last (G.run q3 a3 R3 E3 (((xp.step x1 gr1).step x2 gr2).step x3 gr3) fun d zz σ4 h4 tk4 g4 rv4 a4 R4 E4 x4 gr4=>?_)
    exact g4 A _ _ EE y zz a4 R4 (R3.vr x4 (R2.vr x3 rv2)) rv4 (fun v5 z5 σ5 h5 tk5 zu69 rv5 R5 x5 gr5=>by
     refine el75 zu69 ?_;(try clear zu69);intro t e5 q5
     subst e5
     exact truthy_b rv5 ((((p.step x1 gr1).step x2 gr2).step x3 gr3).step x4 gr4 t t σ5 h5 tk5 q5 rfl R5 x5 gr5)) ((((xp.step x1 gr1).step x2 gr2).step x3 gr3).step x4 gr4)) ((xp.step x1 gr1).step x2 gr2))) hm
theorem G_dict0 {pos:Pos}(q:∀ D,σ D=none→Q (.raw (.ref D)) (upd σ D (.dict []))):EvG c N env ρ (.Dict [] [] pos) σ Q X:=fun A s QQ EE ak R E p xp=>by
 refine wpAny_Dict_empty ?_
 have x1:Ext (dom σ) s.heap (s.heap.push { cls:=.type "dict",data:=.dict #[] }):=.push _ _
 exact p (.raw (.ref s.heap.objs.size)) _ (upd σ s.heap.objs.size (.dict [])) _ (tks s) (q _ R.fresh) (by simp only[jt1,jt2,jt3,jt4,jt5,jt6]) ((R.push _).add R.size ⟨[],⟨_,#[],0,Heap.get?_push_size _ rfl,⟨rfl,rfl,rfl⟩,rfl,(fun e h=>by simp at h),.nil,List.nodup_nil⟩,rfl⟩) x1 (.upd (.inr (Nat.le_refl _)))
end
end Mine
namespace Mine
variable [Membership Addr Zip0]
section
variable {c:Cx}{N:Lv}{env:Env}{ρ:Rho}{σ:Sig}{Q:PV}{X:PX}
structure DictO (prog:Program) (w:World) (o:Obj) (ks:List Str) (n ep:Nat):Prop where
 at_:∀ h d,h.get? d=some o→∃ kvs:List (Str×Value),Heap.DictAt (strKind prog w) h d kvs ep∧kvs.map (·.1)=ks
 len:ks.length=n
 ok:∀ k∈ks,okS k
noncomputable def StD (I d:Addr)(ks:List Str)(ep:Nat)(l:List V)(h:Heap):Prop:=∃ i,h.IsKeyIter I d i ks.length ep∧l=(ks.drop i).map .str
theorem It.dict {lo:Nat}{I d:Addr}{o:Obj}{ks:List Str}{n ep:Nat}(hne:d≠I)(h1:lo≤I)(h2:c.S.objs.size≤I)(D:DictO c.prog c.w o ks n ep):It c lo I (fun a=>a=I) (fun σ=>σ d=some (.obj o)) (fun _=>True) (StD I d ks ep) where
 ge:=fun a e=>by subst e;exact⟨h1,h2⟩
 rec_:=fun l h ⟨i,⟨o,ho,_,hd⟩,_⟩ a e=>by subst e;exact .fields ho hd
 frame:=fun l h h' B zu70 x n hb=>by
  refine el38 zu70 ?_;(try clear zu70);intro i o ho hc hd e
  refine el75 (x.keep I o (hb I rfl) ho) ?_;intro o' e' lk
  have:o'=o:=lk.eq (by rw[hc];decide)
  subst this
  exact⟨i,⟨o',e',hc,hd⟩,e⟩
 self:=fun l A s Q E zu q=>el75 zu fun i hit _=>wpAny_pyIter_keyiter hit q
 step:=fun A σ v l target s QQ E0 E1 _ _ R hd hn zu71 h=>by
  refine el75 zu71 ?_;(try clear zu71);intro i hit e
  refine el75 (D.at_ s.heap d (R.obj d _ hd).2.1) ?_;intro kvs ha ek
  cases hk:ks.drop i with
  | nil=>rw[hk] at e;cases e
  | cons k r=>
   rw[hk] at e
   simp only[List.map_cons,List.cons.injEq] at e
   obtain ⟨rfl,rfl⟩:=e
   obtain ⟨e1,e2⟩:=drop_get hk
   have hlen:kvs.length=ks.length:=by rw[← ek,List.length_map]
   obtain ⟨u,hx⟩:∃ u,kvs[i]?=some (k,u):=by
    rw[← ek,List.getElem?_map] at e1
    cases q:kvs[i]? with
    | none=>rw[q] at e1;cases e1
    | some p=>rw[q] at e1;cases e1;exact⟨p.2,rfl⟩
   have ok:=D.ok k (by rw[← List.take_append_drop i ks,hk];simp)
   rw[← hlen] at hit
   refine wpAny_pyNext_dict_item hit ha hx fun key h' hkey hit' hs=>⟨key,rfl,?_⟩
   rw[hlen] at hit'
   have hit0:=hit'
   refine el70 hit' ?_;(try clear hit');intro o' ho' hc' _
   obtain ⟨t,rfl⟩:=Value.isStrOf_shape (show Value.isStrOf k key=true from hkey)
   refine letGo_plain (s:={ s with heap:=h' }) ho' hc' (by decide) ?_
   refine h (.str k t) h' (tks s) (by simp only[jt1,jt2,jt3,jt4,jt5,jt6];exact⟨ok,t,rfl⟩) ⟨i+1,hit0,by rw[e2]⟩ ?_
   refine flew_of (W:=fun a=>a=I) (fun b o hb e=>(hs.2 b hb).trans e) (Nat.le_of_eq hs.1.symm) (fun a e=>by subst e;exact⟨h1,h2⟩) hn fun a e=>?_
   subst e
   refine el70 hit ?_;(try clear hit);intro o ho _ hd
   exact .fields ho hd
 done:=fun A σ s QQ E0 hh R hd hn zu72 h=>by
  refine el75 zu72 ?_;(try clear zu72);intro i hit e
  refine el75 (D.at_ s.heap d (R.obj d _ hd).2.1) ?_;intro kvs ha ek
  have hlen:kvs.length=ks.length:=by rw[← ek,List.length_map]
  have hi:ks.length≤i:=by
   have:=congrArg List.length e
   simp only[List.length_nil,List.length_map,List.length_drop] at this
   lia
  rw[← hlen] at hit
  refine sized (wpAny_pyNext_dict_end hh hit ha (List.getElem?_eq_none (by lia)) fun h' x hs=>⟨rfl,h h' (tks s) ?_⟩)
  refine flew_of (W:=fun a=>a=I) (fun b o hb e=>x b o hb e) hs (fun a e=>by subst e;exact⟨h1,h2⟩) hn fun a e=>?_
  subst e
  refine el70 hit ?_;(try clear hit);intro o ho _ hd
  exact .fields ho hd
theorem DictO.of {h:Heap}{d:Addr}{l:List (Str×V)}(m:MR c.prog c.w h d (.dict l))(hok:∀ p∈l,okS p.1):∃ o ep,h.get? d=some o∧o.cls=.type "dict"∧(∃ es,o.data=.dict es ep)∧DictO c.prog c.w o (l.map (·.1)) l.length ep:=by
 refine el11 m ?_;(try clear m);intro kvs o es ep e hx hd hk hp hn r
 have hks:∀ {l:List (Str×V)}{kvs:List (Str×Value)},PairsR h l kvs→kvs.map (·.1)=l.map (·.1):=fun {l}=>by
  induction l with
  | nil=>intro kvs r;simp only[jb1,jb2] at r;subst r;rfl
  | cons p l ih=>
   obtain ⟨k,v⟩:=p
   intro kvs r
   simp only[jb1,jb2] at r
   refine el61 r ?_;(try clear r);intro x r' ze262 _ r2;subst ze262
   simp only[List.map_cons,ih r2]
 refine⟨o,ep,e,hx.1,⟨es,hd⟩,⟨fun h' d' e'=>⟨kvs,⟨o,es,e',hx,hd,hk,hp,hn⟩,hks r⟩,by simp,fun k q=>?_⟩⟩
 refine el75 (List.mem_map.mp q) ?_;intro p hp ze263;subst ze263
 exact hok p hp
theorem IG_dict {e:PySem.Expr}{K:IK}(g:EvG c N env ρ e σ (fun v σ1=>∃ d l,v=.raw (.ref d)∧σ1 d=some (.dict l)∧(∀ p∈l,okS p.1)∧∀ o,K ((l.map (·.1)).map .str) (fun σ'=>σ' d=some (.obj o)) (fun _=>True) (upd σ1 d (.obj o))) X):IterG c N env ρ e σ K X:=fun A s QQ EE a R E xp h=>
 g.run a R E xp fun v x σ1 h1 tk1 zu73 r a1 R1 E1 x1 gr1=>by
  refine el54 zu73 ?_;(try clear zu73);intro d l ev ed hok q
  subst ev
  simp only[jt1,jt2,jt3,jt4,jt5,jt6] at r;subst r
  refine el28 (DictO.of (c:=c) (R1.obj d _ ed).2 hok) ?_;intro o ep e1 hc es hd D
  refine el75 (D.at_ h1 d e1) ?_;intro kvs ha ek
  have hlen:kvs.length=(l.map (·.1)).length:=by rw[← ek,List.length_map]
  have lo:(d==sysModules)=false:=beq_false_of_ne (DR.off (c:=c) (.inl ed) R1)
  refine wpAny_pyIter_dict lo ha ?_
  have x2:Ext (dom σ1) h1 (h1.push { cls:=.type "dict_keyiterator",data:=.fields #[.ref d,.int 0 0,.int kvs.length 0,.int ep 0] }):=.push _ _
  have hlt:d<h1.objs.size:=Heap.lt_size e1
  have ho:MR c.prog c.w (h1.push { cls:=.type "dict_keyiterator",data:=.fields #[.ref d,.int 0 0,.int kvs.length 0,.int ep 0] }) d (.obj o):=⟨Heap.get?_push_of_some _ e1,by rw[hc];decide,by rw[hc];decide,fun v q=>by rw[hd] at q;cases q⟩
  refine h ((l.map (·.1)).map .str) _ _ _ _ (StD h1.objs.size d (l.map (·.1)) ep) (upd σ1 d (.obj o)) _ tk1 (q o) (.dict (o:=o) (Nat.ne_of_lt hlt) x1.size R1.size D) ⟨0,?_,by rw[List.drop_zero]⟩ ((R1.push _).add (R1.obj d _ ed).1 ho) (x1.trans x2 (dom_back gr1)) (gr1.trans (.upd (.inl (by rw[ed];simp))) x1.size) fun a e=>?_
  · rw[← hlen]
    exact⟨_,Heap.get?_push_size _ rfl,rfl,rfl⟩
  · subst e
    show upd σ1 d (.obj o) h1.objs.size=none
    rw[upd_ne _ _ (Nat.ne_of_gt hlt)]
    exact R1.fresh
end
end Mine
namespace Mine
variable [Membership Addr Zip0]
section
variable {prog:Program}{w:World}{A:Around}{E:VP}{s:Shared}
theorem ext_loopD {D I d:Addr}{res:Value}{kvs:List (Str×Value)}{ep:Nat}(hh:A.handled=none)(hDI:D≠I)(hDd:D≠d)(hdI:d≠I){R:RP}:∀ (m i:Nat) (acc:Array Value) (c:Nat) (s:Shared),kvs.length=i+m→s.heap.IsKeyIter I d i kvs.length ep→Heap.DictAt (strKind prog w) s.heap d kvs ep→s.heap.get? D=some { cls:=.type "list",data:=.seq acc c }→acc.size+m≤4000 →
 (∀ h' acc' c' vs,h'.get? D=some { cls:=.type "list",data:=.seq acc' c' }→acc'.toList=acc.toList++vs→StrsAre vs ((kvs.map (·.1)).drop i)→(∀ b o,b≠D→b≠I→s.heap.get? b=some o→h'.get? b=some o)→R (.ok (.ret res)) { s with heap:=h' }) →
 codeAny (model prog w) A (.builtin "list.extend.loop" ⟨[.ref D,.ref I,res],[]⟩) R s
 | 0,i,acc,c,s,hl,it,hd,hD,hz,h=>by
  refine codeAny_builtin F.entry_extend_loop ?_
  rw[Around.under_plainId F.plain_extend_loop _]
  show wpAny _ A.in1 (pyNext (.ref I) >>= _) _ _ s
  refine wpAny_bind (wpAny_pyNext_dict_end hh it hd (List.getElem?_eq_none (by lia)) fun h' x=>wpAny_pure ?_)
  exact h h' acc c [] (x D _ hDI hD) (by simp) (by rw[List.drop_eq_nil_iff.mpr (by rw[List.length_map];lia)];exact .nil) fun b o _ hb e=>x b o hb e
 | m+1,i,acc,c,s,hl,it,hd,hD,hz,h=>by
  refine codeAny_builtin F.entry_extend_loop ?_
  rw[Around.under_plainId F.plain_extend_loop _]
  show wpAny _ A.in1 (pyNext (.ref I) >>= _) _ _ s
  have hi:i<kvs.length:=by lia
  refine wpAny_bind (wpAny_pyNext_dict_item (k:=kvs[i].1) (v:=kvs[i].2) it hd (by rw[List.getElem?_eq_getElem hi]) fun key h1 hkey it1 hs1=>?_)
  obtain ⟨t,rfl⟩:=Value.isStrOf_shape (show Value.isStrOf kvs[i].1 key=true from hkey)
  have hD1:h1.get? D=some { cls:=.type "list",data:=.seq acc c }:=(hs1.2 D hDI).trans hD
  have hd1:=hd.extBut hs1.extBut hdI
  show wpAny _ A.in1 (updateSeq D (·.push (.str kvs[i].1 t)) >>= _) _ _ _
  refine wpAny_bind ?_
  refine wpAny_updateSeq (s:={ s with heap:=h1 }) hD1 rfl (wpAny_pure ⟨plainId_quiet F.plain_extend_loop _,?_⟩) (by rw[sizeLine_is];lia) (by show (acc.push (.str kvs[i].1 t)).size≤_;rw[Array.size_push,sizeLine_is];lia)
  have hs2:Heap.SameBut D h1 (h1.update D (Obj.mapSeq (·.push (.str kvs[i].1 t)))):=.update ..
  refine ext_loopD hh hDI hDd hdI m (i+1) (acc.push (.str kvs[i].1 t)) _ _ (by lia) (it1.extBut hs2.extBut hDI.symm) (hd1.extBut hs2.extBut hDd.symm) (Heap.get?_update_self _ hD1 rfl) (by rw[Array.size_push];lia) fun h' acc' c' vs a1 a2 sa a3=>?_
  refine h h' acc' c' (.str kvs[i].1 t::vs) a1 (by rw[a2];simp) ?_ fun b o b1 b2 e=>a3 b o b1 b2 ((hs2.2 b b1).trans ((hs1.2 b b2).trans e))
  rw[List.drop_eq_getElem_cons (by rw[List.length_map];exact hi),List.getElem_map]
  exact .cons _ t sa
theorem len_dict_lk:typeLookup (.type "dict") "__len__"=pure (some (.builtin "dict.__len__")):=by rw[typeLookup_type,builtinLookup_eq_fast];kernel_rfl
theorem hint_dict {r:Addr}(hT:s.TypeIs (.ref r) "dict"){Q:Bool→Shared→Prop}(h:Q false s):wpAny (model prog w) A (Builtin.List.listLengthHint (.ref r)) Q E s:=by
 unfold Builtin.List.listLengthHint
 refine wpAny_bind (wpAny_specialOf hT len_dict_lk ?_)
 generalize hid:("dict.__len__" : String)=id0
 wp_delta
 rw[show splitId id0=some ("dict","__len__") from by subst hid;decide +kernel]
 subst hid
 refine wpAny_bind (wpAny_isInstance (T:="dict") (b:=true) hT (by rw[isSubtype_type];kernel_rfl) ?_)
 refine wpAny_ite_split (fun hab=>absurd hab (by decide)) (fun _=>?_)
 refine wpAny_ite_split (fun _=>?_) (fun hab=>absurd (by decide +kernel) hab)
 refine wpAny_bind (wpAny_typeOf hT ?_)
 exact wpAny_pure h
theorem collect_dict {d:Addr}{kvs:List (Str×Value)}{ep:Nat}{Q:List Value→Shared→Prop}(hh:A.handled=none)(hm:(d==sysModules)=false)(hd:Heap.DictAt (strKind prog w) s.heap d kvs ep)(hz:kvs.length<3000)
 (h:∀ vs h',StrsAre vs (kvs.map (·.1))→(∀ b o,s.heap.get? b=some o→h'.get? b=some o)→Q vs { s with heap:=h' }):wpAny (model prog w) A (collect (.ref d)) Q E s:=by
 refine el61 (id hd) ?_;intro o es ho hex hdd
 have hslt:d<s.heap.objs.size:=Heap.lt_size ho
 unfold collect
 refine wpAny_bind (wpAny_runValue (codeAny_builtin F.entry_proto_collect ?_))
 rw[Around.under_plainId F.plain_proto_collect _]
 show wpAny _ A.in1 (newList [] >>= fun l=>again (.builtin "list.__iadd__" ⟨[l,.ref d],[]⟩)) _ _ s
 refine wpAny_bind (wpAny_newObj_type ?_ (by size_fits))
 refine wpAny_pure ⟨plainId_quiet F.plain_list_iadd _,codeAny_builtin F.entry_list_iadd ?_⟩
 rw[Around.under_plainId F.plain_list_iadd _]
 have hk1:∀ b o,s.heap.get? b=some o→(s.heap.push { cls:=.type "list",data:=.seq ([]:List Value).toArray }).get? b=some o:=fun b o e=>Heap.get?_push_of_some _ e
 have hS1:(s.heap.push { cls:=.type "list",data:=.seq ([]:List Value).toArray }).get? s.heap.objs.size=some { cls:=.type "list",data:=.seq ([]:List Value).toArray }:=Heap.get?_push_size _ rfl
 have hSI:s.heap.objs.size≠d:=Nat.ne_of_gt hslt
 show wpAny _ A.in1 (Builtin.List.listExtendWith (.ref s.heap.objs.size) (.ref d) (.ref s.heap.objs.size)) _ _ _
 unfold Builtin.List.listExtendWith
 refine wpAny_bind (wpAny_typeOf (T:="dict") ⟨o,hk1 _ _ ho,hex.1⟩ ?_)
 have h1:Builtin.List.listSameRef (.ref s.heap.objs.size) (.ref d)=false:=by simp [Builtin.List.listSameRef,hSI]
 have h2:(Value.type "dict"==Value.type "list")=false:=by decide
 have h3:(Value.type "dict"==Value.type "tuple")=false:=by decide
 simp only[h1,h2,h3,Bool.or_false,Bool.false_eq_true,if_false]
 have hd1:Heap.DictAt (strKind prog w) (s.heap.push { cls:=.type "list",data:=.seq ([]:List Value).toArray }) d kvs ep:=hd.push _
 have z1:(s.heap.push { cls:=.type "list",data:=.seq ([]:List Value).toArray }).objs.size=s.heap.objs.size+1:=Heap.size_push ..
 refine wpAny_bind (wpAny_pyIter_dict (s:={ s with heap:=s.heap.push { cls:=.type "list",data:=.seq ([]:List Value).toArray } }) hm hd1 ?_)
 generalize hH:(s.heap.push { cls:=.type "list",data:=.seq ([]:List Value).toArray }).push { cls:=.type "dict_keyiterator",data:=.fields #[.ref d,.int 0 0,.int kvs.length 0,.int ep 0] }=H2 at *
 have kp:∀ b o,(s.heap.push { cls:=.type "list",data:=.seq ([]:List Value).toArray }).get? b=some o→H2.get? b=some o:=fun b o e=>by rw[← hH];exact Heap.get?_push_of_some _ e
 have it2:H2.IsKeyIter (s.heap.objs.size+1) d 0 kvs.length ep:=⟨_,by rw[← hH,← z1];exact Heap.get?_push_size _ rfl,rfl,rfl⟩
 show wpAny _ A.in1 (holding [.ref (s.heap.push { cls:=.type "list",data:=.seq ([]:List Value).toArray }).objs.size] (Builtin.List.listLengthHint (.ref d)) >>= _) _ _ _
 rw[z1]
 have ho2:=kp _ _ (hk1 _ _ ho)
 refine wpAny_bind (wpAny_holding ?_)
 refine hint_dict (s:={ s with heap:=H2 }) ⟨o,ho2,hex.1⟩ ?_
 show wpAny _ A.in1 (rule "list.extend.makes-room" >>= fun _=>Builtin.List.listTouch (.ref s.heap.objs.size) >>= fun _=>
  again (.builtin "list.extend.loop" ⟨[.ref s.heap.objs.size,.ref (s.heap.objs.size+1),.ref s.heap.objs.size],[]⟩)) _ _ _
 refine wpAny_bind (wpAny_rule ?_)
 have hD2:=kp _ _ hS1
 refine wpAny_bind ?_
 show wpAny _ A.in1 (updateSeq s.heap.objs.size (·.push .none) >>= fun _=>updateSeq s.heap.objs.size (·.pop)) _ _ _
 refine wpAny_bind (wpAny_updateSeq (s:={ s with heap:=H2 }) hD2 rfl ?_)
 have hS2:=Heap.get?_update_self (Obj.mapSeq (·.push Value.none)) hD2 rfl
 refine wpAny_updateSeq (s:={ s with heap:=H2.update s.heap.objs.size (Obj.mapSeq (·.push Value.none)) }) hS2 rfl ?_
 have hS3:=Heap.get?_update_self (Obj.mapSeq (·.pop)) hS2 rfl
 have hDI:s.heap.objs.size≠s.heap.objs.size+1:=Nat.ne_of_lt (Nat.lt_succ_self _)
 have oth:∀ b o,b≠s.heap.objs.size→H2.get? b=some o→((H2.update s.heap.objs.size (Obj.mapSeq (·.push Value.none))).update s.heap.objs.size (Obj.mapSeq (·.pop))).get? b=some o:=
  fun b o hb e=>(Heap.get?_update_other _ _ (Ne.symm hb)).trans ((Heap.get?_update_other _ _ (Ne.symm hb)).trans e)
 refine wpAny_pure ⟨plainId_quiet F.plain_extend_loop _,ext_loopD (A:=A) (ep:=ep) (kvs:=kvs) hh hDI hSI (Nat.ne_of_lt (Nat.lt_succ_of_lt hslt)) kvs.length 0 #[] _ _ (by lia) (el75 (it2) fun o e r=>⟨o,oth _ o hDI.symm e,r⟩) (el68 (hd1) fun o es e r=>⟨o,es,oth _ o hSI.symm (kp _ _ e),r⟩) hS3 (by simp;exact nlh (by assumption) (by rfl)) fun h' acc' c' vs a1 a2 sa a3=>?_⟩
 show wpAny _ A (load s.heap.objs.size >>= _) _ _ _
 refine wpAny_bind (wpAny_load a1 ?_)
 refine wpAny_pure ?_
 have:=h vs h' sa fun b o e=>a3 b o (Nat.ne_of_lt (Heap.lt_size e)) (fun q=>by
  subst q;exact absurd (Heap.lt_size e) (Nat.not_lt.mpr (Nat.le_succ _))) (oth b o (Nat.ne_of_lt (Heap.lt_size e)) (kp b o (hk1 b o e)))
 simp only[List.nil_append,show (#[]:Array Value).toList=[] from rfl] at a2
 rw[a2]
 exact this
theorem call_sorted_dict {d:Addr}{kvs:List (Str×Value)}{ep:Nat}{Q:VP}(hh:A.handled=none)(hm:(d==sysModules)=false)(hd:Heap.DictAt (strKind prog w) s.heap d kvs ep)(hz:kvs.length<60)
 (h:∀ D xs ss h' e,StrsAre xs.toList ss→ss.Perm (kvs.map (·.1))→sortedS ss=true→s.heap.objs.size≤D→h'.get? D=some (seqObj "list" xs e)→(∀ b o,s.heap.get? b=some o→h'.get? b=some o)→Q (.ref D) { s with heap:=h' }) :
 wpAny (model prog w) A (call (.builtin "sorted") [.ref d]) Q E s:=by
 refine Calls.call_function_entry kind_sorted plain_sorted entry_sorted (args_sorted1 _) ?_
 unfold Builtin.«sorted»
 refine wpAny_bind (m:=checkCount "sorted" 1 1 _) (wpAny_pure ?_)
 refine wpAny_bind (sized (collect_dict (A:=A.in1) hh hm hd (by exact nle (by assumption) (by rfl)) fun vs h1 s1 hk1 hsz=>?_))
 have hl:vs.length<60:=by rw[StrsAre.length s1,List.length_map];exact hz
 refine wpAny_bind (wpAny_newList ?_ (by rw[sizeLine_is];exact nlh (by assumption) (by rfl)))
 have hoL:(h1.push (seqObj "list" vs.toArray 0)).get? h1.objs.size=some (seqObj "list" vs.toArray 0):=Heap.get?_push_size _ rfl
 refine wpAny_bind (wpAny_holding (sort_new (s:={ s with heap:=h1.push (seqObj "list" vs.toArray 0) }) hoL s1 (by exact nle (by assumption) (by rfl)) fun out ss' h' e a1 a2 a3 a4 a5 a6=>?_))
 refine wpAny_pure ⟨_,rfl,?_⟩
 refine h h1.objs.size out ss' h' e a1 a2 a3 hsz a4 fun b o eb=>a5 b o (fun q=>?_) (Heap.get?_push_of_some _ (hk1 b o eb))
 subst q
 exact absurd (Heap.lt_size eb) (Nat.not_lt.mpr hsz)
end
section
variable {c:Cx}{N:Lv}{σ:Sig}{Q:PV}{X:PX}
theorem pairs_keys {h:Heap}:∀ {l:List (Str×V)}{kvs:List (Str×Value)},PairsR h l kvs→kvs.map (·.1)=l.map (·.1)
 | [],kvs,r=>by simp only[jb1,jb2] at r;subst r;rfl
 | (k,v)::l,kvs,r=>by
  simp only[jb1,jb2] at r
  refine el61 r ?_;(try clear r);intro x r' ze264 _ r2;subst ze264
  simp only[List.map_cons,pairs_keys r2]
theorem B_sorted_dict {d:Addr}{l:List (Str×V)}(hhn:N.hn=true)(e:DR c σ d l)(hok:∀ p∈l,okS p.1)(q:∀ ss,ss.Perm (l.map (·.1))→sortedS ss=true→∀ D,σ D=none→Q (.raw (.ref D)) (upd σ D (.list (ss.map .str))))(hz:l.length<60):CallOp c N σ (.builtin "sorted") [.raw (.ref d)] Q X:=fun A s QQ EE ys a R r p xp=>by
 simp only[ju1,ju2] at r
 refine el61 r ?_;(try clear r);intro x _ ze265 r ze266;subst ze265;subst ze266
 simp only[jt1,jt2,jt3,jt4,jt5,jt6] at r;subst r
 refine el20 (e.real R) ?_;intro kvs o es ep ho hx hd hk rp
 have hks:=pairs_keys rp
 have hlen:kvs.length=l.length:=by rw[← List.length_map (f:=(·.1)),hks,List.length_map]
 refine sized (call_sorted_dict (a.han hhn) (beq_false_of_ne (e.off R)) ⟨o,es,ho,hx,hd,hk⟩ (by lia) fun D xs ss h' e' s1 s2 s3 hD g hk hs=>?_)
 rw[hks] at s2
 have f:=fresh_of R hD
 exact p (.raw (.ref D)) _ (upd σ D (.list (ss.map .str))) h' (tks s) (q ss s2 s3 D f) (by simp only[jt1,jt2,jt3,jt4,jt5,jt6]) ((R.grow hk hs).add (Nat.le_trans R.size hD) ⟨xs,⟨_,g⟩,vrs_of_strs s1 fun k hk'=>by
  refine el75 (List.mem_map.mp (s2.mem_iff.mp hk')) ?_;intro p hp ze267;subst ze267
  exact hok p hp⟩) (ext_grow hk hs) (.upd (.inr hD))
end
end Mine
namespace Mine
variable [Membership Addr Zip0]
section
variable {c:Cx}{N:Lv}{env:Env}{ρ:Rho}{σ:Sig}{Q:PV}{X:PX}
theorem G_fstr {x:Str}{kk:Nat}{e:PySem.Expr}{p1 p2 pos:Pos}(hx:x.length≤1000)(g:EvG c N env ρ e σ (fun v σ1=>∃ i:Int,v=.int i∧i.natAbs.log2<1920∧(toString i:Str).length≤1000∧∀ t,Q (.raw (.str (Str.empty++x++toString i) t)) σ1) X) :
 EvG c N env ρ (.JoinedStr [.Constant (.str x) kk p1,.FormattedValue e (-1) none p2] pos) σ Q X:=fun A s QQ EE ak R E p xp=>by
 refine JoinedStr_many (joinParts_cons (wpAny_mkText ?_))
 have l1:(Str.empty++x).length≤1000:=by rw[strLen_append];show 0+_≤_;lia
 refine⟨by rw[sizeLine_is];exact nle (by assumption) (by rfl),joinParts_cons (FormattedValue_plain (G.run g (A:=A) (s:={ s with toks:=s.toks+1 }) ak R E xp fun v y σ1 h1 tk1 ⟨i,ev,hi,hl,q⟩ r a1 R1 E1 x1 gr1=>?_))⟩
 subst ev
 simp only[jt1,jt2,jt3,jt4,jt5,jt6] at r
 obtain ⟨t,rfl⟩:=r
 refine formatField_int_small hi ?_
 refine⟨by rw[strLen_append,sizeLine_is];lia,joinParts_nil ?_ (by rw[strLen_append,sizeLine_is];lia)⟩
 exact p _ _ σ1 h1 (tk1.1+1+1+1,tk1.2) (q (tk1.1+1+1)) (by simp only[jt1,jt2,jt3,jt4,jt5,jt6];rfl) R1 x1 gr1
theorem B_repr {d:Addr}{l:List V}(q:Q (.str (PyData.shown (.list (toPs l)))) σ)(ed:LR c σ d l)(ht:trees l=true)(hs:PyData.showable (.list (toPs l))=true)(hn:PyData.hasDict (.list (toPs l))=false)(hd:PyData.depth (.list (toPs l))+1≤16*N.n)
 (hz:(PyData.shown (.list (toPs l))).length≤1000000) (ho:PyData.strOk (PyData.shown (.list (toPs l)))=true):CallOp c N σ (.builtin "repr") [.raw (.ref d)] Q X:=fun A s QQ EE ys ak R r p xp=>by
 simp only[ju1,ju2,jt1,jt2,jt3,jt4,jt5,jt6] at r
 refine el61 r ?_;(try clear r);intro _ _ ze268 ze269 ze270;subst ze268;subst ze269;subst ze270
 obtain ⟨⟨as,q1⟩,c1⟩:=lr_reads R ed ht
 refine sized (repr_of_reads' q1 hs (PyData.noDict_hsm hn) ak.guards (by have:=ak.units;lia) (fun _ _ e=>e) (fun h' u tk hk hs=>?_) (by rw[sizeLine_is];exact nle (by assumption) (by rfl)))
 exact p (.str _) _ σ h' (tk,s.drawn) q (by simp only[jt1,jt2,jt3,jt4,jt5,jt6];exact⟨⟨hz,ho⟩,u,rfl⟩) (R.grow hk hs) (ext_grow hk hs) (.refl _ _)
end
end Mine
namespace Mine
variable [Membership Addr Zip0]
noncomputable abbrev lc2 (elt t0 i0 t1 i1:PySem.Expr)(scope:Scope)(pos:Pos):PySem.Expr:=.ListComp elt [⟨t0,i0,[],0⟩,⟨t1,i1,[],0⟩] scope pos
theorem compTurn_two0 (elt t0 i0 t1 i1:PySem.Expr)(scope:Scope)(pos:Pos)(it acc:Value)(env:Env) :
 compTurn (lc2 elt t0 i0 t1 i1 scope pos) 0 it acc env=(standAt i0.pos >>= fun _=>pyNext it >>= fun r=>match r with
  | none=>pure (.done .next)
  | some v=>letOwnedTupleGo t0 it v >>= fun _=>assign t0 env v >>= fun _=>
   eval i1 env >>= fun x=>standAt i1.pos >>= fun _=>foldedSetIterable i1 env x >>= fun x=>holding [x] (pyIter x) >>= fun j=>
    runOwn (.compStart (lc2 elt t0 i0 t1 i1 scope pos) 1 j acc env) env >>= fun _=>again (.compLoop (lc2 elt t0 i0 t1 i1 scope pos) 0 it acc env)):=by rfl
theorem compTurn_two1 (elt t0 i0 t1 i1:PySem.Expr)(scope:Scope)(pos:Pos)(it acc:Value)(env:Env) :
 compTurn (lc2 elt t0 i0 t1 i1 scope pos) 1 it acc env=(standAt i1.pos >>= fun _=>pyNext it >>= fun r=>match r with
  | none=>pure (.done .next)
  | some v=>letOwnedTupleGo t1 it v >>= fun _=>assign t1 env v >>= fun _=>
   (eval elt env >>= fun x=>call (.builtin "list.append") [acc,x] >>= fun _=>pure ()) >>= fun _=>again (.compLoop (lc2 elt t0 i0 t1 i1 scope pos) 1 it acc env)):=by rfl
section
variable {prog:Program}{w:World}{A:Around}{R:RP}{s:Shared}
theorem compLoop_two0 {elt t0 i0 t1 i1:PySem.Expr}{scope:Scope}{pos:Pos}{it acc:Value}{env:Env}(hs:∀ x,foldedSetIterable i1 env x=pure x)(J:Nat→Shared→Prop)
 (turn:∀ n s,J n s→wpAny (model prog w) A (pyNext it) (fun r s₁=>match r with
  | none=>R (.ok .next) s₁
  | some v=>wpAny (model prog w) A (letOwnedTupleGo t0 it v) (fun _ s₁'=>wpAny (model prog w) A (assign t0 env v) (fun _ s₂=>
   wpAny (model prog w) A (eval i1 env) (fun x s₃=>wpAny (model prog w) A (pyIter x) (fun j s₄=>codeAny (model prog w) A (.compStart (lc2 elt t0 i0 t1 i1 scope pos) 1 j acc env) (fun r s₅=>(∃ f,r=.ok f)∧∃ m,m<n∧J m s₅) s₄)
    (notedBy (model prog w) A env fun e s'=>R (.error e) s') s₃) (notedBy (model prog w) A env fun e s'=>R (.error e) s') s₂) (notedBy (model prog w) A env fun e s'=>R (.error e) s') s₁') (notedBy (model prog w) A env fun e s'=>R (.error e) s') s₁) (notedBy (model prog w) A env fun e s'=>R (.error e) s') s)
 (n:Nat) (h:J n s):codeAny (model prog w) A (.compLoop (lc2 elt t0 i0 t1 i1 scope pos) 0 it acc env) R s:=by
 refine codeAny_loop rfl J (fun n s hI=>?_) n h
 show wpAny _ A ((compTurn (lc2 elt t0 i0 t1 i1 scope pos) 0 it acc env).onRaise (fun x=>do noteFrame x env;theTreesLotGoes x)) _ _ s
 refine wpAny_noted ?_
 rw[compTurn_two0]
 refine wpAny_bind (wpAny_standAt (wpAny_bind (wpAny_mono (turn n s hI) (fun r s₁ h₁=>?_) fun _ _ h'=>h')))
 cases r with
 | none=>exact wpAny_pure h₁
 | some v=>
  refine wpAny_bind (wpAny_mono h₁ (fun _ s₁' h₁'=>wpAny_bind (wpAny_mono h₁' (fun _ s₂ h₂=>wpAny_bind (wpAny_mono h₂ (fun x s₃ h₃=>wpAny_bind (wpAny_standAt (wpAny_bind (wpAny_of_eq (hs x) (wpAny_bind (wpAny_holding (wpAny_mono h₃ (fun j s₄ h₄=>wpAny_bind (wpAny_runOwn ?_)) fun _ _ h'=>h'))))))) fun _ _ h'=>h')) fun _ _ h'=>h')) fun _ _ h'=>h')
  refine codeAny_mono h₄ fun r s₅ h₅=>?_
  obtain ⟨⟨f,rfl⟩,h₅⟩:=h₅
  exact wpAny_pure ⟨rfl,h₅⟩
theorem compLoop_two1 {elt t0 i0 t1 i1:PySem.Expr}{scope:Scope}{pos:Pos}{it acc:Value}{env:Env}(J:Nat→Shared→Prop)
 (turn:∀ n s,J n s→wpAny (model prog w) A (pyNext it) (fun r s₁=>match r with
  | none=>R (.ok .next) s₁
  | some v=>wpAny (model prog w) A (letOwnedTupleGo t1 it v) (fun _ s₁'=>wpAny (model prog w) A (assign t1 env v) (fun _ s₃=>
   wpAny (model prog w) A (eval elt env) (fun x s₄=>
    wpAny (model prog w) A (call (.builtin "list.append") [acc,x]) (fun _ s₅=>∃ m,m<n∧J m s₅) (notedBy (model prog w) A env fun e s'=>R (.error e) s') s₄) (notedBy (model prog w) A env fun e s'=>R (.error e) s') s₃) (notedBy (model prog w) A env fun e s'=>R (.error e) s') s₁') (notedBy (model prog w) A env fun e s'=>R (.error e) s') s₁) (notedBy (model prog w) A env fun e s'=>R (.error e) s') s)
 (n:Nat) (h:J n s):codeAny (model prog w) A (.compLoop (lc2 elt t0 i0 t1 i1 scope pos) 1 it acc env) R s:=by
 refine codeAny_loop rfl J (fun n s hI=>?_) n h
 show wpAny _ A ((compTurn (lc2 elt t0 i0 t1 i1 scope pos) 1 it acc env).onRaise (fun x=>do noteFrame x env;theTreesLotGoes x)) _ _ s
 refine wpAny_noted ?_
 rw[compTurn_two1]
 refine wpAny_bind (wpAny_standAt (wpAny_bind (wpAny_mono (turn n s hI) (fun r s₁ h₁=>?_) fun _ _ h'=>h')))
 cases r with
 | none=>exact wpAny_pure h₁
 | some v=>
  exact wpAny_bind (wpAny_mono h₁ (fun _ s₁' h₁'=>wpAny_bind (wpAny_mono h₁' (fun _ s₃ h₃=>wpAny_bind (wpAny_bind (wpAny_mono h₃ (fun x s₄ h₄=>wpAny_bind (wpAny_mono h₄ (fun _ s₅ h₅=>wpAny_pure (wpAny_pure ⟨rfl,h₅⟩)) fun _ _ h'=>h')) fun _ _ h'=>h'))) fun _ _ h'=>h')) fun _ _ h'=>h')
theorem compStart_two1 {elt t0 i0 t1 i1:PySem.Expr}{scope:Scope}{pos:Pos}{it acc:Value}{env:Env}
 (h0:codeAny (model prog w) A (.compLoop (lc2 elt t0 i0 t1 i1 scope pos) 1 it acc env) R s)
 (h:wpAny (model prog w) A (pyIter it) (fun it' s'=>codeAny (model prog w) A (.compLoop (lc2 elt t0 i0 t1 i1 scope pos) 1 it' acc env) R s') (notedBy (model prog w) A env fun x s'=>R (.error x) s') s) :
 codeAny (model prog w) A (.compStart (lc2 elt t0 i0 t1 i1 scope pos) 1 it acc env) R s:=by
 refine codeAny_of_tree ?_
 show wpAny _ _ ((compStart (lc2 elt t0 i0 t1 i1 scope pos) 1 it acc env).onRaise (fun x=>do noteFrame x env;standAt theWindowsPlace)) _ _ s
 refine wpAny_notedAt ?_
 unfold compStart
 show wpAny _ _ (ask >>= _) _ _ s
 refine wpAny_bind (wpAny_askSetting (wpAny_ite ?_))
 split
 · first
    | exact wpAny_bind (wpAny_pure (wpAny_pure (And.intro rfl h0)))
    | exact wpAny_pure (And.intro rfl h0)
 · first
    | exact wpAny_bind (wpAny_rule (wpAny_bind (wpAny_standAt (wpAny_bind (wpAny_mono h (fun it' s' h'=>wpAny_pure (And.intro rfl h')) fun _ _ x=>x)))))
    | (refine wpAny_bind (wpAny_rule ?_);show wpAny _ _ (standAt i1.pos >>= _) _ _ s;exact wpAny_bind (wpAny_standAt (wpAny_bind (wpAny_mono h (fun it' s' h'=>wpAny_pure (And.intro rfl h')) fun _ _ x=>x))))
end
end Mine
namespace Mine
variable [Membership Addr Zip0]
section
variable {c:Cx}{N:Lv}{env:Env}{ρ ρc:Rho}{σ σ':Sig}{Q:PV}{X:PX}{M:Model}{A:Around}{s:Shared}
structure CSt (c:Cx) (N:Lv) (A:Around) (σ:Sig) (h0:Heap) (D:Addr) (cenv:Env) (ρ:Rho) (acc:List V) (σ1:Sig) (h:Heap):Prop where
 ak:AOk c N A σ1 h
 R:Rel c σ1 h
 E:EnvR c σ1 cenv ρ h
 x:Ext (dom σ) h0 h
 gr:Grown σ h0 σ1
 pl:∃ ys,h.PlainList D ys∧VRs h acc ys.toList
 hD:σ1 D=none
theorem plain_keep {ha hb:Heap}{B:Addr→Prop}{D:Addr}{xs:Array Value}(x:Ext B ha hb)(nb:¬ B D)(p:ha.PlainList D xs):hb.PlainList D xs:=by
 obtain ⟨n,e⟩:=p
 refine el75 (x.keep D _ nb e) ?_;intro o' e' lk
 have:=lk.eq (show Value.type "list"≠_ by decide)
 subst this
 exact⟨n,e'⟩
theorem notFB {lo:Nat}{h:Heap}{D:Addr}{xs:Array Value}(p:h.PlainList D xs):¬ FB c σ lo h D:=fun q=>by
 obtain ⟨n,e⟩:=p
 rcases q.2.2.2 with q | r
 · exact absurd (Heap.lt_size e) (Nat.not_lt.mpr q)
 · exact r.list e rfl rfl
theorem CSt.ev {h0 h h':Heap}{D:Addr}{cenv:Env}{acc:List V}{σ1 σ2:Sig}(k:CSt c N A σ h0 D cenv ρ acc σ1 h)(a:AOk c N A σ2 h')(R:Rel c σ2 h')(E:EnvR c σ2 cenv ρ h')(x:Ext (dom σ1) h h')(g:Grown σ1 h σ2):CSt c N A σ h0 D cenv ρ acc σ2 h':=by
 refine el75 k.pl ?_;intro ys hl hr
 refine⟨a,R,E,k.x.trans x (dom_back k.gr),k.gr.trans g k.x.size,⟨ys,plain_keep x (fun q=>q k.hD) hl,k.R.vrs x hr⟩,grown_none g k.hD ?_⟩
 obtain ⟨n,e⟩:=hl;exact Heap.lt_size e
theorem CSt.flew {h0 h h':Heap}{D:Addr}{cenv:Env}{acc:List V}{σ1:Sig}{lo:Nat}(k:CSt c N A σ h0 D cenv ρ acc σ1 h)(f:Flew c σ1 lo h h')(hl:h0.objs.size≤lo):CSt c N A σ h0 D cenv ρ acc σ1 h':=by
 refine el75 k.pl ?_;intro ys hp hr
 exact⟨f.ok k.ak,f.rel k.R,f.envR k.E,f.toExt k.x hl,k.gr,⟨ys,plain_keep f.ext (notFB hp) hp,VRs.ext FB.noTup f.ext hr⟩,k.hD⟩
theorem CSt.took {h0 h h':Heap}{D C:Addr}{cenv:Env}{acc:List V}{σ1:Sig}{ρ':Rho}(k:CSt c N A σ h0 D cenv ρ acc σ1 h)(R:Rel c σ1 h')(E:EnvR c σ1 cenv ρ' h')(x:Ext (fun a=>a=C) h h')(hC:cenv.locals=C)(hCs:h0.objs.size≤C)(hCD:C≠D):CSt c N A σ h0 D cenv ρ' acc σ1 h':=by
 refine el75 k.pl ?_;intro ys hp hr
 have x':Ext (both σ1 cenv) h h':=x.mono fun _ q=>.inr (.inl (q.trans hC.symm))
 exact⟨k.ak.ext2 k.E x' (.refl _ _) E,R,E,k.x.trans x fun a q=>.inr (by subst q;exact hCs),k.gr,⟨ys,plain_keep x hCD.symm hp,VRs.ext (fun a xs q t=>by subst q;exact k.E.mine_noTup _ xs (.inl hC.symm) t) x hr⟩,k.hD⟩
theorem CSt.weak {h0 h:Heap}{D:Addr}{cenv:Env}{acc:List V}{σ1:Sig}{ρ':Rho}(k:CSt c N A σ h0 D cenv ρ acc σ1 h)(hk:ρ'.map (·.1)=ρ.map (·.1))(hm:∀ x v,(x,some v)∈ρ'→(x,some v)∈ρ):CSt c N A σ h0 D cenv ρ' acc σ1 h:={ k with E:=k.E.weak hk hm }
theorem CSt.push {h0:Heap}{D:Addr}{cenv:Env}{acc:List V}{σ1:Sig}{u:V}{y:Value}{QQ:VP}{EE:VP}(k:CSt c N A σ h0 D cenv ρ acc σ1 s.heap)(r:VR s.heap u y)(hal:acc.length<1000000)(hDS:c.S.objs.size≤D)(hDs:h0.objs.size≤D)
 (q:∀ v h',CSt c N A σ h0 D cenv ρ (acc++[u]) σ1 h'→Ext (fun a=>a=D) s.heap h'→QQ v (at_ s h' (tks s))):wpAny (model c.prog c.w) A (call (.builtin "list.append") [.ref D,y]) QQ EE s:=by
 refine el75 k.pl ?_;intro ys hl6 hr6
 have hlen:ys.size=acc.length:=by rw[← Array.length_toList,hr6.length]
 refine wpAny_list_append_plain (hsz:=by rw[hlen,sizeLine_is];exact nlh (by assumption) (by rfl)) hl6 fun h7 hl7 hs7=>?_
 have x7:Ext (fun a=>a=D) s.heap h7:=.same hs7 (.inl rfl)
 have n7:NoTup (fun a=>a=D) s.heap:=fun a xs q zu74=>by
  refine el70 zu74 ?_;(try clear zu74);intro o e hc _
  subst q;obtain ⟨n,e'⟩:=hl6;obtain rfl:=uq e e';exact absurd hc (show Value.type "list"≠_ by decide)
 have b7:∀ a o,a=D→s.heap.get? a=some o→(∀ es n,o.data≠.dict es n)∧∀ v,o.data≠.cell v:=fun a o q e=>by
  subst q;obtain ⟨n,e'⟩:=hl6;obtain rfl:=uq e e';exact And.intro (fun es m q=>nomatch q) (fun v q=>nomatch q)
 refine q _ h7 ⟨k.ak.off x7 fun a o q e=>(b7 a o q e).1,k.R.same hs7 k.hD hDS fun xs t=>n7 _ xs rfl t,k.E.off x7 n7 b7,k.x.trans x7 fun a q=>.inr (by subst q;exact hDs),k.gr,⟨ys.push y,hl7,?_⟩,k.hD⟩ x7
 rw[Array.toList_push]
 exact (VRs.ext n7 x7 hr6).snoc (VR.ext n7 x7 r)
theorem CSt.noTupD {h0 h:Heap}{D:Addr}{cenv:Env}{acc:List V}{σ1:Sig}(k:CSt c N A σ h0 D cenv ρ acc σ1 h):NoTup (fun a=>a=D) h:=fun a xs q zu75=>by
 refine el70 zu75 ?_;(try clear zu75);intro o e hc _
 refine el60 k.pl ?_;intro ys n e' _
 subst q;obtain rfl:=uq e e';exact absurd hc (show Value.type "list"≠_ by decide)
theorem CSt.noTupC {h0 h:Heap}{D C:Addr}{cenv:Env}{acc:List V}{σ1:Sig}(k:CSt c N A σ h0 D cenv ρ acc σ1 h)(hC:cenv.locals=C):NoTup (fun a=>a=C) h:=fun a xs q t=>by subst q;exact k.E.mine_noTup _ xs (.inl hC.symm) t
structure ISt (c:Cx) (σ1:Sig) (h:Heap) (W:Addr→Prop) (St:List V→Heap→Prop) (l:List V):Prop where
 st:St l h
 wn:∀ a,W a→σ1 a=none
section
variable {lo:Nat}{I:Addr}{W:Addr→Prop}{Need:Sig→Prop}{tg:PySem.Expr→Prop}{St:List V→Heap→Prop}{l:List V}
theorem ISt.lt {h:Heap}{σ1:Sig}(it:It c lo I W Need tg St)(i:ISt c σ1 h W St l){a:Addr}(w:W a):a<h.objs.size:=by
 refine el75 (it.rec_ l _ i.st a w) ?_;intro o ho _;exact Heap.lt_size ho
theorem ISt.ev {h h':Heap}{σ1 σ2:Sig}(it:It c lo I W Need tg St)(i:ISt c σ1 h W St l)(R:Rel c σ1 h)(x:Ext (dom σ1) h h')(g:Grown σ1 h σ2):ISt c σ2 h' W St l:=
 ⟨it.frame l h h' _ i.st x R.noTup fun a w q=>q (i.wn a w),fun a w=>grown_none g (i.wn a w) (i.lt it w)⟩
theorem ISt.took {h h':Heap}{σ1:Sig}{cenv:Env}{C:Addr}{ρ:Rho}(it:It c lo I W Need tg St)(i:ISt c σ1 h W St l)(R:Rel c σ1 h)(E:EnvR c σ1 cenv ρ h)(x:Ext (fun a=>a=C) h h')(hC:cenv.locals=C):ISt c σ1 h' W St l:=
 ⟨it.frame l h h' _ i.st (x.mono fun _ q=>.inr (.inl (q.trans hC.symm))) (both_noTup R E) (notBoth it i.st E i.wn),i.wn⟩
theorem ISt.push {h0 h h':Heap}{σ1:Sig}{cenv:Env}{D:Addr}{acc:List V}{ρ:Rho}(it:It c lo I W Need tg St)(i:ISt c σ1 h W St l)(k:CSt c N A σ h0 D cenv ρ acc σ1 h)(x:Ext (fun a=>a=D) h h'):ISt c σ1 h' W St l:=
 ⟨it.frame l h h' _ i.st x k.noTupD fun a w q=>by
  refine el60 k.pl ?_;intro ys n e _
  subst q
  exact (it.rec_ l h i.st a w).list e rfl rfl,i.wn⟩
theorem ISt.flew {h h':Heap}{σ1:Sig}{lo2:Nat}(it:It c lo I W Need tg St)(i:ISt c σ1 h W St l)(f:Flew c σ1 lo2 h h')(hl:∀ a,W a→a<lo2):ISt c σ1 h' W St l:=
 ⟨it.frame l h h' _ i.st f.ext FB.noTup fun a w q=>absurd (hl a w) (Nat.not_lt.mpr q.1),i.wn⟩
end
end
end Mine
namespace Mine
variable [Membership Addr Zip0]
section
variable {c:Cx}{N:Lv}{env:Env}{ρ ρc:Rho}{σ σ':Sig}{Q:PV}{X:PX}{A:Around}{s:Shared}
noncomputable def Inner (c:Cx)(N:Lv)(cenv:Env)(ρ2:Rho)(t1 elt:PySem.Expr)(acc0:List V)(F:List V→Sig→Prop):IK:=fun l Need tg σ1=>tg t1∧∃ Inv:List V→List V→Sig→Prop,Inv l acc0 σ1 ∧
 (∀ v l acc σ1,Inv (v::l) acc σ1→Need σ1∧acc.length<1000000∧∃ ρ3,Takes t1 v ρ2 ρ3∧EvG c N cenv ρ3 elt σ1 (fun u σ3=>Inv l (acc++[u]) σ3) NoX)∧(∀ acc σ1,Inv [] acc σ1→Need σ1∧F acc σ1)
theorem inner_core {elt t0 i0 t1 i1:PySem.Expr}{scope:Scope}{pos:Pos}{cenv:Env}{C D:Addr}{h0:Heap}{acc0:List V}{F:List V→Sig→Prop}{lo0:Nat}{I0:Addr}{W0:Addr→Prop}{Need0:Sig→Prop}{tg0:PySem.Expr→Prop}{St0:List V→Heap→Prop}{l0:List V}
 {QQ:RP} (hhn:N.hn=true) (hC:cenv.locals=C) (hCs:h0.objs.size≤C) (hCD:C≠D) (hDS:c.S.objs.size≤D) (hDs:h0.objs.size≤D)
 (it0:It c lo0 I0 W0 Need0 tg0 St0) (hst':∀ σ2:Sig,∀ x∈names t1,StoreOk c σ2 cenv (fun a=>a=C) x) (hfree:∀ x v,(x,some v)∈ρ→x ∉ names t1)
 (g:IterG c N cenv ρ i1 σ' (Inner c N cenv ρ t1 elt acc0 F) NoX) (k:CSt c N A σ h0 D cenv ρ acc0 σ' s.heap) (i:ISt c σ' s.heap W0 St0 l0)
 (fin:∀ acc σ2 h2 tk2,F acc σ2→CSt c N A σ h0 D cenv ρ acc σ2 h2→ISt c σ2 h2 W0 St0 l0→QQ (.ok .next) (at_ s h2 tk2)) {EE:VP} :
 wpAny (model c.prog c.w) A (eval i1 cenv) (fun x s₃=>wpAny (model c.prog c.w) A (pyIter x) (fun j s₄=>codeAny (model c.prog c.w) A (.compStart (lc2 elt t0 i0 t1 i1 scope pos) 1 j (.ref D) cenv) QQ s₄) EE s₃) EE s:=by
 refine g A s _ EE k.ak k.R k.E noX fun l Need tg I W St σ1 h1 tk1 zu76 it st R1 x1 gr1 wn=>?_
 refine el63 zu76 ?_;(try clear zu76);intro htg Inv q0 qs qd
 have kk:CSt c N A σ h0 D cenv ρ acc0 σ1 h1:=k.ev (k.ak.ext x1 gr1) R1 (k.E.ext k.R x1 gr1) x1 gr1
 have ii:ISt c σ1 h1 W0 St0 l0:=i.ev it0 k.R x1 gr1
 have hlt:∀ a,W0 a→a<s.heap.objs.size:=fun a w=>i.lt it0 w
 have hsz:h0.objs.size≤s.heap.objs.size:=k.x.size
 have main:∀ s3:Shared,s3=at_ s h1 tk1→codeAny (model c.prog c.w) A (.compLoop (lc2 elt t0 i0 t1 i1 scope pos) 1 (.ref I) (.ref D) cenv) QQ s3:=by
  rintro s3 rfl
  refine compLoop_two1 (fun n s'=>∃ l acc σ1 h tk,s'=at_ s h tk∧Inv l acc σ1∧CSt c N A σ h0 D cenv ρ acc σ1 h∧ISt c σ1 h W0 St0 l0∧ISt c σ1 h W St l∧n=l.length) ?_ l.length ⟨l,acc0,σ1,h1,tk1,rfl,q0,kk,ii,⟨st,wn⟩,rfl⟩
  intro n s' zu77
  refine el21 zu77 ?_;(try clear zu77);intro l acc σ1 h tk ze271 qI k1 i1' i2 ze272;subst ze271;subst ze272
  cases l with
  | nil=>
   obtain ⟨nd,q⟩:=qd acc σ1 qI
   refine it.done' (σ:=σ1) (k1.ak.han hhn) k1.R nd i2.wn i2.st fun h3 tk3 f=>?_
   exact fin acc σ1 h3 tk3 q (k1.flew f hsz) (i1'.flew it0 f hlt)
  | cons v l=>
   refine el66 (qs v l acc σ1 qI) ?_;intro nd hal ρ3 tk' g2
   refine it.step' (σ:=σ1) (k1.ak.han hhn) htg k1.R nd i2.wn i2.st (fun x s1 z=>z) fun x h3 tk3 r st3 f=>?_
   have k3:=k1.flew f hsz
   have i3:=i1'.flew it0 f hlt
   refine takes_ (s:=at_ s h3 tk3) (B:=fun a=>a=C) (fun a q=>.inl (q.trans hC.symm)) (k3.ak.han hhn) tk' (hst' σ1) k3.R k3.E r fun h4 tk4 R4 E4 x4=>?_
   have k4:=k3.took R4 E4 x4 hC hCs hCD
   have i4:=i3.took it0 k3.R k3.E x4 hC
   have j4:=(show ISt c σ1 h3 W St l from ⟨st3,i2.wn⟩).took it k3.R k3.E x4 hC
   refine G.run (s:=at_ s h4 tk4) g2 k4.ak R4 E4 noX fun u y σ5 h5 tk5 g5 r5 a5 R5 E5 x5 gr5=>?_
   have k5:=k4.ev a5 R5 E5 x5 gr5
   have i5:=i4.ev it0 R4 x5 gr5
   have j5:=j4.ev it R4 x5 gr5
   refine (show CSt c N A σ h0 D cenv ρ3 acc σ5 (at_ s h5 tk5).heap from k5).push (s:=at_ s h5 tk5) r5 hal hDS hDs fun v6 h6 k6 x6=>?_
   exact⟨l.length,by simp,l,acc++[u],σ5,h6,_,rfl,g5,k6.weak tk'.keys.symm (fun x v q=>tk'.other (hfree x v q) q),i5.push it0 k5 x6,j5.push it k5 x6,rfl⟩
 exact compStart_two1 (main _ rfl) (it.self l A _ _ _ st (main _ rfl))
theorem G_listcomp2 {elt t0 i0 t1 i1:PySem.Expr}{scope:Scope}{pos:Pos}{cl:List (Str×Addr)}(hhn:N.hn=true)(H:CompOk env ρ scope cl ρc)(hloc:∀ x∈names t0,(relabel scope env).names.lookup x=some .local)(hloc1:∀ x∈names t1,(relabel scope env).names.lookup x=some .local)(hfree:∀ x v,(x,some v)∈ρc→x ∉ names t0)
 (g:IterG c N env ρ i0 σ (fun l Need tg σ1=>tg t0∧∃ Inv:List V→List V→Sig→Prop,Inv l [] σ1 ∧
  (∀ C v l acc σ1,Inv (v::l) acc σ1→Need σ1∧∃ ρ2,Takes t0 v ρc ρ2∧(∀ x u,(x,some u)∈ρ2→x ∉ names t1)∧IterG c N (compEnvC scope cl C env) ρ2 i1 σ1 (Inner c N (compEnvC scope cl C env) ρ2 t1 elt acc (Inv l)) NoX) ∧
  (∀ acc σ1,Inv [] acc σ1→Need σ1∧∀ D,σ1 D=none→Q (.raw (.ref D)) (upd σ1 D (.list acc)))) X)
 (hs:∀ x,foldedSetIterable i0 env x=pure x) (hs1:∀ C x,foldedSetIterable i1 (compEnvC scope cl C env) x=pure x):EvG c N env ρ (lc2 elt t0 i0 t1 i1 scope pos) σ Q X:=fun A s QQ EE ak R E p xp=>by
 rw[eval_ListComp]
 refine wpAny_comprehension_free rfl hs H.clos H.kind H.locs (g A s _ EE ak R E xp fun l Need tg I W St σ0 h0 tk0 zu78 it st R0 x0 gr0 wn=>?_)
 refine el63 zu78 ?_;(try clear zu78);intro htg Inv q0 qs qd
 have E0:=E.ext R x0 gr0
 have a0:=ak.ext x0 gr0
 refine wpAny_newObj_type ?_ (by size_fits)
 generalize hD:(at_ s h0 tk0).heap.objs.size=D
 have hDf:σ0 D=none:=by rw[← hD];exact R0.fresh
 have hDS:c.S.objs.size≤D:=by rw[← hD];exact R0.size
 have hDs:s.heap.objs.size≤D:=by rw[← hD];exact x0.size
 have px:Ext (dom σ0) h0 (h0.push { cls:=.type "list",data:=.seq ([]:List Value).toArray }):=.push _ _
 have hDl:(h0.push { cls:=.type "list",data:=.seq ([]:List Value).toArray }).PlainList D #[]:=⟨_,by rw[← hD];exact Heap.get?_push_size _ rfl⟩
 have R1:Rel c σ0 (h0.push { cls:=.type "list",data:=.seq ([]:List Value).toArray }):=R0.push _
 have E1:=E0.ext R0 px (.refl _ _)
 have a1:=a0.ext px (.refl _ _)
 have x1:Ext (dom σ) s.heap (h0.push { cls:=.type "list",data:=.seq ([]:List Value).toArray }):=x0.trans px (dom_back gr0)
 have j1:ISt c σ0 (h0.push { cls:=.type "list",data:=.seq ([]:List Value).toArray }) W St l:=(ISt.mk st wn:ISt c σ0 h0 W St l).ev it R0 px (.refl _ _)
 show wpAny _ _ _ _ _ (at_ s (h0.push { cls:=.type "list",data:=.seq ([]:List Value).toArray }) tk0)
 generalize h0.push { cls:=.type "list",data:=.seq ([]:List Value).toArray }=H1 at *
 refine compEnter_ (s:=at_ s H1 tk0) R1 E1 { H with } fun cenv h2 tk2 hce hcl R2 E2 k2 hz2=>?_
 rw[hce,hcl]
 generalize hC:(at_ s H1 tk0).heap.objs.size=C at *
 have hCs:s.heap.objs.size≤C:=by rw[← hC];exact x1.size
 have hCD:C≠D:=by
  rw[← hC]
  obtain ⟨n,e⟩:=hDl
  exact Nat.ne_of_gt (Heap.lt_size e)
 have px2:Ext (dom σ0) H1 h2:=⟨fun a o _ e=>⟨o,k2 a o e,.refl o⟩,by rw[hz2];exact Nat.le_trans (Nat.le_of_eq hC) (Nat.le_succ _)⟩
 have j2:ISt c σ0 h2 W St l:=j1.ev it R1 px2 (.refl _ _)
 have kC:CSt c N A σ s.heap D (compEnvC scope cl C env) ρc [] σ0 h2:=⟨a1.ext px2 (.refl _ _),R2,E2,x1.trans px2 (dom_back gr0),gr0,⟨#[],hDl.at fun o e=>k2 _ o e,.nil⟩,hDf⟩
 clear hD
 have main:∀ s3:Shared,s3=at_ s h2 tk2→codeAny (model c.prog c.w) A (.compLoop (lc2 elt t0 i0 t1 i1 scope pos) 0 (.ref I) (.ref D) (compEnvC scope cl C env)) (compPost (model c.prog c.w) A EE none QQ (.ref D) C) s3:=by
  rintro s3 rfl
  refine compLoop_two0 (hs1 C) (fun n s'=>∃ l acc σ1 h tk,s'=at_ s h tk∧Inv l acc σ1∧CSt c N A σ s.heap D (compEnvC scope cl C env) ρc acc σ1 h∧ISt c σ1 h W St l∧n=l.length) ?_ l.length ⟨l,[],σ0,h2,tk2,rfl,q0,kC,j2,rfl⟩
  intro n s' zu79
  refine el26 zu79 ?_;(try clear zu79);intro l acc σ1 h tk ze273 qI k1 j1 ze274;subst ze273;subst ze274
  cases l with
  | nil=>
   obtain ⟨nd,q⟩:=qd acc σ1 qI
   refine it.done' (σ:=σ1) (k1.ak.han hhn) k1.R nd j1.wn j1.st fun h3 tk3 f=>?_
   have k3:=k1.flew f (Nat.le_refl _)
   refine el75 k3.E.vars ?_;intro m hns _
   refine⟨m,hns,fun h4 hs4=>?_⟩
   have X4':Ext (fun a=>a=C) h3 h4:=.same hs4 (.inl rfl)
   have hn4:=k3.noTupC rfl
   have R4:Rel c σ1 h4:=k3.R.same hs4 k3.E.loc.1 k3.E.loc.2 fun xs t=>hn4 _ xs rfl t
   have X4:Ext (dom σ) s.heap h4:=k3.x.trans X4' fun a q=>.inr (by subst q;exact hCs)
   refine el60 k3.pl ?_;intro ys n e hr
   exact p (.raw (.ref D)) (.ref D) (upd σ1 D (.list acc)) h4 tk3 (q D k3.hD) (by simp only[jt1,jt2,jt3,jt4,jt5,jt6]) (R4.add hDS ⟨ys,⟨n,(hs4.2 D hCD.symm).trans e⟩,VRs.ext hn4 X4' hr⟩) X4 (k3.gr.trans (.upd (.inr hDs)) (Nat.le_refl _))
  | cons v l=>
   refine el63 (qs C v l acc σ1 qI) ?_;intro nd ρ2 tk' hf2 g2
   refine it.step' (σ:=σ1) (k1.ak.han hhn) htg k1.R nd j1.wn j1.st (fun x s1 z=>z) fun x h3 tk3 r st3 f=>?_
   have k3:=k1.flew f (Nat.le_refl _)
   refine takes_ (s:=at_ s h3 tk3) (B:=fun a=>a=C) (fun a q=>.inl q) (k3.ak.han hhn) tk' (fun x hx=>storeL_ok (hloc x hx)) k3.R k3.E r fun h4 tk4 R4 E4 x4=>?_
   have k4:=k3.took R4 E4 x4 rfl hCs hCD
   have j4:=(ISt.mk st3 j1.wn:ISt c σ1 h3 W St l).took it k3.R k3.E x4 rfl
   refine inner_core (s:=at_ s h4 tk4) hhn rfl hCs hCD hDS hDs it (fun σ2 x hx=>storeL_ok (show (compEnvC scope cl C env).kindOf x=some .local from hloc1 x hx)) hf2 g2 k4 j4 fun acc' σ5 h5 tk5 q5 k5 j5=>?_
   exact⟨⟨_,rfl⟩,l.length,by simp,l,acc',σ5,h5,tk5,rfl,q5,k5.weak tk'.keys.symm (fun x v q=>tk'.other (hfree x v q) q),j5,rfl⟩
 exact codeAny_compStart_list (main _ rfl) (it.self l A _ _ _ j2.st (main _ rfl))
end
end Mine
namespace Mine
variable [Membership Addr Zip0]
section
variable {c:Cx}{N:Lv}{σ:Sig}{Q:PV}{X:PX}
theorem pv_vrs {h:Heap}:∀ {l:List (Str×V)}{kvs:List (Str×Value)}{as:List Addr},PairsR h l kvs→as.length=kvs.length→(∀ a∈as,¬ Fz a) →
 (∀ (j:Nat) (a:Addr),as[j]?=some a→∃ key k x,kvs[j]?=some (k,x)∧(strKind c.prog c.w).is k key=true∧h.get? a=some { cls:=.type "tuple",data:=.seq #[key,x] })→(∀ p∈l,okS p.1)→VRs h (pv l) (as.map Value.ref)
 | [],kvs,as,r,hl,_,_,_=>by
  simp only[jb1,jb2] at r;subst r
  cases as with
  | nil=>exact .nil
  | cons a as=>cases hl
 | (k,u)::l,kvs,as,r,hl,nf,hp,ok=>by
  simp only[jb1,jb2] at r
  refine el61 r ?_;(try clear r);intro x r' ze275 r1 r2;subst ze275
  cases as with
  | nil=>cases hl
  | cons a as=>
  refine el55 (hp 0 a rfl) ?_;intro key k' x' e1 e2 e3
  simp only[List.getElem?_cons_zero,Option.some.injEq,Prod.mk.injEq] at e1
  obtain ⟨rfl,rfl⟩:=e1
  obtain ⟨t,rfl⟩:=Value.isStrOf_shape e2
  refine .cons ?_ (pv_vrs r2 (Nat.succ.inj hl) (fun a h=>nf a (.tail _ h)) (fun j a e=>hp (j+1) a e) fun p h=>ok p (.tail _ h))
  simp only[jt1,jt2,jt3,jt4,jt5,jt6]
  exact⟨a,_,rfl,⟨_,e3,rfl,⟨rfl,nf a (.head _)⟩,_,rfl⟩,.cons (by simp only[jt1,jt2,jt3,jt4,jt5,jt6];exact⟨ok _ (.head _),t,rfl⟩) (.cons r1 .nil)⟩
theorem B_list_items {S d:Addr}{l:List (Str×V)}(hhn:N.hn=true)(e:σ S=some (.items d))(ed:DR c σ d l)(hok:∀ p∈l,okS p.1)(hz:l.length≤1000000)
 (q:∀ D,σ D=none→Q (.raw (.ref D)) (upd σ D (.list (pv l)))):CallOp c N σ (.type "list") [.raw (.ref S)] Q X:=fun A s QQ EE ys a R r p xp=>by
 simp only[ju1,ju2] at r
 refine el61 r ?_;(try clear r);intro x _ ze276 r ze277;subst ze276;subst ze277
 simp only[jt1,jt2,jt3,jt4,jt5,jt6] at r;subst r
 have hv:=(R.obj S _ e).2
 refine el75 (ed.real R) ?_;intro kvs hd pr
 obtain ⟨ep,hat⟩:=hd.dictAt
 refine sized (kdx_call (knd:=strKind c.prog c.w) (kvs:=kvs) (ep:=ep) (a.han hhn) ⟨_,hv,rfl,rfl⟩ hat (by rw[pr.length,sizeLine_is];exact nle (by assumption) (by rfl)) fun h' tk acc cc as hk hS hl hG hacc hsz=>?_)
 have f:=fresh_of R (Nat.le_refl _)
 exact p (.raw (.ref s.heap.objs.size)) _ (upd σ s.heap.objs.size (.list (pv l))) h' (tk,s.drawn) (q _ f) (by simp only[jt1,jt2,jt3,jt4,jt5,jt6]) ((R.grow hk hsz).add R.size ⟨acc,⟨cc,hS⟩,by
  rw[hacc]
  exact pv_vrs (c:=c) (PairsR.mono (fun a xs t=>t.keeps hk) _ _ pr) hl (fun a ha q=>Nat.lt_irrefl _ (Nat.lt_trans (hG.above a ha) (Nat.lt_of_succ_lt (R.fz a q).2))) hG.pairs hok⟩) (ext_grow hk hsz) (.upd (.inr (Nat.le_refl _)))
end
end Mine
namespace Mine
variable [Membership Addr Zip0]
section
variable {c:Cx}{N:Lv}{σ:Sig}{Q:PV}{X:PX}
theorem eqV_str (x y:Str):eqV (.str x) (.str y)=decide (x=y):=by
 unfold eqV;simp only[jR1,jR2,jR3,jR4,jR5,jR6,PyData.eqv]
 first | rfl | (by_cases h:x=y <;> simp [h])
theorem eqV_int (x y:Int):eqV (.int x) (.int y)=decide (x=y):=by
 unfold eqV;simp only[jR1,jR2,jR3,jR4,jR5,jR6,PyData.eqv]
 first | rfl | (by_cases h:x=y <;> simp [h])
theorem O_eqS {x y:Str}(q:Q (.bool (decide (x=y))) σ):Op2 c N σ (.str x) (.str y) (compareOp .Eq) Q X:=
 O_eq (by rw[eqV_str];exact q) rfl rfl (by simp [jR1,jR2,jR3,jR4,jR5,jR6,PyData.depth])
theorem O_eqI {x y:Int}(q:Q (.bool (decide (x=y))) σ):Op2 c N σ (.int x) (.int y) (compareOp .Eq) Q X:=
 O_eq (by rw[eqV_int];exact q) rfl rfl (by simp [jR1,jR2,jR3,jR4,jR5,jR6,PyData.depth])
end
theorem S_assign_swap2 {c:Cx}{N:Lv}{env:Env}{ρ:Rho}{σ:Sig}{SQ:PF}{SX:PE}{x y:Str}{px py p' pos:Pos}{k:Nat}{e:PySem.Expr}(hhn:N.hn=true)
 (g:EvG c N env ρ e σ (fun v σ'=>∃ u w ρ1 ρ',v=.tup [u,w]∧Put y (some w) ρ ρ1∧Put x (some u) ρ1 ρ'∧SQ .next ρ' σ') (fun ex σ'=>SX ex ρ σ'))
 (hs:swapsWithSole [.Tuple [.Name x px,.Name y py] k p'] e pos.line env=pure false) (hw:swappedStores [.Tuple [.Name x px,.Name y py] k p'] e env=pure (some [x,y])):StG c N env ρ (.Assign [.Tuple [.Name x px,.Name y py] k p'] e pos) σ SQ SX:=
 S_assign_swap (names:=[x,y]) hhn (G_mono g (fun v σ' zu=>el44 zu fun u w ρ1 ρ' h p1 p2 q=>⟨[u,w],ρ',h,rfl,.cons p1 (.cons p2 .nil),q⟩) fun _ _ h=>h) hs hw
theorem G_neg {c:Cx}{N:Lv}{env:Env}{ρ:Rho}{σ:Sig}{Q:PV}{X:PX}{x:PySem.Expr}{pos:Pos}(g:EvG c N env ρ x σ (fun v σ1=>∃ i,v=.int i∧Q (.int (-i)) σ1) X):EvG c N env ρ (.UnaryOp .USub x pos) σ Q X:=fun A s QQ EE a R E p xp=>
 wpAny_UnaryOp (g.run a R E xp fun v x σ1 h1 tk1 zu80 r a1 R1 E1 x1 gr1=>by
  refine el75 zu80 ?_;(try clear zu80);intro b e1 q
  subst e1
  simp only[jt1,jt2,jt3,jt4,jt5,jt6] at r;obtain ⟨t,rfl⟩:=r
  exact PyProof.Rows.neg_int (p (.int (-b)) _ σ1 h1 (tk1.1+1,tk1.2) q (by simp only[jt1,jt2,jt3,jt4,jt5,jt6];exact⟨_,rfl⟩) R1 x1 gr1))
noncomputable def KN (K:PF)(M:Rho→Sig→Prop):Prop:=∀ ρ σ,M ρ σ→K .next ρ σ
noncomputable def KR (K:PF)(M:V→Rho→Sig→Prop):Prop:=∀ v ρ σ,M v ρ σ→K (.ret v) ρ σ
theorem exPut {x:Str}{v:Option V}{ρ ρ':Rho}{P:Rho→Prop}(p:Put x v ρ ρ')(h:P ρ'):∃ ρ',Put x v ρ ρ'∧P ρ':=⟨_,p,h⟩
theorem exTakes {e:PySem.Expr}{v:V}{ρ ρ':Rho}{P:Rho→Prop}(p:Takes e v ρ ρ')(h:P ρ'):∃ ρ',Takes e v ρ ρ'∧P ρ':=⟨_,p,h⟩
theorem upd_keep {σ:Sig}{a b:Addr}{m m':MO}(h:σ b=none)(h':σ a=some m'):upd σ b m a=some m':=by
 rw[upd_ne]
 · exact h'
 · intro q;rw[q,h] at h';cases h'
theorem upd_keepN {σ:Sig}{a b:Addr}{m m':MO}(h:a≠b)(h':σ a=some m'):upd σ b m a=some m':=by
 rw[upd_ne _ _ h];exact h'
theorem small_bits {i:Int}(h0:0≤i)(h:i≤1000000):Builtin.Int.intBits i≤64:=intBits_le_iff.mpr (by lia)
noncomputable abbrev btab:List (Str×Value):=[("len",.builtin "len"),("sorted",.builtin "sorted"),("set",.type "set"),("tuple",.type "tuple"),("list",.type "list"),("dict",.type "dict"),("int",.type "int"),("range",.type "range"),("enumerate",.type "enumerate"),("zip",.type "zip"),("abs",.builtin "abs"),("repr",.builtin "repr")]
theorem bt_ok {x:Str}{v:Value}(h:(x,v)∈btab):bootBuiltins x=some v:=by
 simp only[btab,List.mem_cons,List.not_mem_nil,or_false,Prod.mk.injEq] at h
 rcases h with ⟨rfl,rfl⟩ | ⟨rfl,rfl⟩ | ⟨rfl,rfl⟩ | ⟨rfl,rfl⟩ | ⟨rfl,rfl⟩ | ⟨rfl,rfl⟩ | ⟨rfl,rfl⟩ | ⟨rfl,rfl⟩ | ⟨rfl,rfl⟩ | ⟨rfl,rfl⟩ | ⟨rfl,rfl⟩ | ⟨rfl,rfl⟩ <;> rfl
section
variable {c:Cx}{N:Lv}{σ:Sig}{Q:PV}{X:PX}
theorem O_isN (q:Q (.bool true) σ):Op2 c N σ .none .none (compareOp .Is) Q X:=O_isNone q (fun v h=>by cases h)
theorem O_isNt {l:List V}(q:Q (.bool false) σ):Op2 c N σ (.tup l) .none (compareOp .Is) Q X:=O_isNone q (fun v h=>by cases h)
theorem O_neII {i:Int}(q:Q (.bool false) σ):Op2 c N σ (.int i) (.int i) (compareOp .NotEq) Q X:=
 O_ne (by rw[show eqV (.int i) (.int i)=true by simp [eqV,jR1,jR2,jR3,jR4,jR5,jR6,PyData.eqv]];exact q) rfl rfl (by simp [jR1,jR2,jR3,jR4,jR5,jR6,PyData.depth])
theorem I_t0 {v:V}{l:List V}(q:Q v σ):SubOp c N σ (.tup (v::l)) (.int 0) Q X:=I_tup (j:=0) q (by simp [seqIndex?]) rfl (by decide)
theorem I_t1 {u v:V}{l:List V}(q:Q v σ):SubOp c N σ (.tup (u::v::l)) (.int 1) Q X:=I_tup (j:=1) q (by simp [seqIndex?];lia) rfl (by decide)
theorem I_t2 {u w v:V}{l:List V}(q:Q v σ):SubOp c N σ (.tup (u::w::v::l)) (.int 2) Q X:=I_tup (j:=2) q (by simp [seqIndex?];lia) rfl (by decide)
theorem I_t3 {u w x v:V}{l:List V}(q:Q v σ):SubOp c N σ (.tup (u::w::x::v::l)) (.int 3) Q X:=I_tup (j:=3) q (by simp [seqIndex?];lia) rfl (by decide)
theorem I_t4 {u w x y v:V}{l:List V}(q:Q v σ):SubOp c N σ (.tup (u::w::x::y::v::l)) (.int 4) Q X:=I_tup (j:=4) q (by simp [seqIndex?];lia) rfl (by decide)
theorem range_take {α:Type}(xs:List α):∀ n:Nat,(List.range n).filterMap (fun k=>xs[k]?)=xs.take n
 | 0=>by simp
 | n+1=>by
  rw[List.range_succ,List.filterMap_append,range_take xs n,List.take_succ]
  cases h:xs[n]? <;> simp [h]
theorem tslice_ones {l:List V}{lo hi:Option Int}{a b:Nat}(h:Builtin.Slice.sliceAdjust lo hi 1 l.length=((a:Int),(b:Int))):tslice l lo hi none=(l.drop a).take (b-a)∧Builtin.Slice.slicePlaces (Builtin.Slice.sliceAdjust lo hi 1 l.length).1 (Builtin.Slice.sliceAdjust lo hi 1 l.length).2 1=b-a:=by
 have hp:Builtin.Slice.slicePlaces (a:Int) (b:Int) 1=b-a:=by
  unfold Builtin.Slice.slicePlaces
  simp only[gt_iff_lt,show (0:Int)<1 from by decide,if_true,Int.ediv_one]
  split <;> lia
 refine⟨?_,by rw[h];exact hp⟩
 unfold tslice
 simp only[Option.getD_none,h,hp]
 rw[← range_take]
 congr 1
 funext i
 rw[List.getElem?_drop]
 congr 1
 lia
theorem adj_from {n:Nat}{a:Nat}(h:a≤n):Builtin.Slice.sliceAdjust (some (a:Int)) none 1 n=((a:Int),(n:Int)):=by
 unfold Builtin.Slice.sliceAdjust
 simp only[show ¬ ((1:Int)<0) from by decide,if_false]
 rw[if_neg (by lia),Int.min_eq_left (by lia)]
theorem adj_to {n:Nat}{a:Nat}(h:a≤n):Builtin.Slice.sliceAdjust none (some (a:Int)) 1 n=(((0:Nat):Int),(a:Int)):=by
 unfold Builtin.Slice.sliceAdjust
 simp only[show ¬ ((1:Int)<0) from by decide,if_false]
 rw[if_neg (by lia),Int.min_eq_left (by lia)];rfl
theorem adj_rev (n:Nat):Builtin.Slice.sliceAdjust none none (-1) n=((n:Int)-1,-1):=by
 unfold Builtin.Slice.sliceAdjust
 simp only[show ((-1:Int)<0) from by decide,if_true]
theorem Sl_from {l:List V}{a:Nat}(h:a≤l.length)(hz:l.length≤1000000)(q:Q (.tup (l.drop a)) σ):SliceOp c N σ (.tup l) (some (a:Int)) none none Q X:=by
 have k:=tslice_ones (l:=l) (adj_from h)
 refine Sl_tup ?_ (by simp) ?_
 · rw[k.1,List.take_of_length_le (by simp)];exact q
 · rw[Option.getD_none,k.2];lia
theorem Sl_to {l:List V}{a:Nat}(h:a≤l.length)(hz:l.length≤1000000)(q:Q (.tup (l.take a)) σ):SliceOp c N σ (.tup l) none (some (a:Int)) none Q X:=by
 have k:=tslice_ones (l:=l) (adj_to h)
 refine Sl_tup ?_ (by simp) ?_
 · rw[k.1,List.drop_zero,Nat.sub_zero];exact q
 · rw[Option.getD_none,k.2];(refine Nat.le_trans (by assumption) ?_;assumption)
theorem Sl_from0 {a:Int}(q:Q (.tup []) σ)(ha:0≤a):SliceOp c N σ (.tup []) (some a) none none Q X:=Sl_tup (by
 have:tslice [] (some a) none none=[]:=by unfold tslice;simp
 rw[this];exact q) (by simp) (by
 unfold Builtin.Slice.slicePlaces Builtin.Slice.sliceAdjust
 simp;split <;> lia)
theorem fm_congr {α β:Type}{f g:α→Option β}:∀ {l:List α},(∀ x∈l,f x=g x)→l.filterMap f=l.filterMap g
 | [],_=>rfl
 | x::l,h=>by rw[List.filterMap_cons,List.filterMap_cons,h x (.head _),fm_congr fun y hy=>h y (.tail _ hy)]
theorem Sl_1A {l:List V}(hz:l.length≤1000000)(q:Q (.tup (l.drop 1)) σ):SliceOp c N σ (.tup l) (some 1) none none Q X:=by
 cases l with
 | nil=>exact Sl_from0 q (by decide)
 | cons x l=>exact Sl_from (a:=1) (by simp) hz q
theorem rev_places (n:Nat):Builtin.Slice.slicePlaces ((n:Int)-1) (-1) (-1)=n:=by
 unfold Builtin.Slice.slicePlaces
 simp only[gt_iff_lt,show ¬ ((0:Int) < -1) from by decide,if_false,Int.neg_neg,Int.ediv_one]
 split <;> lia
theorem Sl_rev {l:List V}(hz:l.length≤1000000)(q:Q (.tup l.reverse) σ):SliceOp c N σ (.tup l) none none (some (-1)) Q X:=by
 refine Sl_tup ?_ (by simp) ?_
 · have:tslice l none none (some (-1))=l.reverse:=by
    unfold tslice
    simp only[Option.getD_some,adj_rev,rev_places]
    have h:=range_take l.reverse l.length
    rw[List.take_of_length_le (by simp)] at h
    rw[← h]
    refine fm_congr fun i hi=>?_
    rw[List.mem_range] at hi
    rw[List.getElem?_reverse hi]
    congr 1;lia
   rw[this];exact q
 · rw[Option.getD_some,adj_rev,rev_places];exact hz
end
theorem Sub.none {σ' σ:Sig}(x:Sub σ' σ){a:Addr}(h:σ a=none):σ' a=none:=by
 cases e:σ' a with
 | none=>rfl
 | some m=>rw[x a m e] at h;cases h
theorem Sub.fresh {τ σ:Sig}{D:Addr}{m:MO}(x:Sub τ σ)(h:σ D=Option.none):Sub τ (Mine.upd σ D m):=x.trans (Sub.upd h)
theorem Sub.cong {τ σ:Sig}{D:Addr}{m:MO}(x:Sub τ σ):Sub (Mine.upd τ D m) (Mine.upd σ D m):=fun a m' e=>by
 unfold Mine.upd at e ⊢;split
 · rename_i h;rw[if_pos h] at e;exact e
 · rename_i h;rw[if_neg h] at e;exact x a m' e
section
variable {c:Cx}{N:Lv}{env:Env}{ρ:Rho}{σ σ':Sig}{Q:PV}{X:PX}{SQ:PF}{SX:PE}
theorem G_post {e:PySem.Expr}(g:EvG c N env ρ e σ (fun v σ1=>∃ σ2,Sub σ2 σ1∧Q v σ2) X):EvG c N env ρ e σ Q X:=fun A s QQ EE ak R E p xp=>
 g A s QQ EE ak R E (fun f fl σ1 h1 tk zu r R1 x1 g1=>el75 zu fun σ2 z q=>p f fl σ2 h1 tk q r (R1.forget z) x1 (g1.sub z)) xp
end
section
variable {c:Cx}{N:Lv}{σ:Sig}{P:Value→Prop}{Q:PV}{X:PX}
theorem exM_append {d:Addr}{l:List V}(e:σ d=some (.list l))(h:P (.builtin "list.append")):∃ f,MethOp c N σ (.raw (.ref d)) "append" f∧P f:=⟨_,M_list e slot_list_append PySem.F.type_list_append,h⟩
theorem exM_extend {d:Addr}{l:List V}(e:σ d=some (.list l))(h:P (.builtin "list.extend")):∃ f,MethOp c N σ (.raw (.ref d)) "extend" f∧P f:=⟨_,M_list e PySem.F.slot_list_extend PySem.F.type_list_extend,h⟩
theorem exM_get {d:Addr}{l:List (Str×V)}(e:DR c σ d l)(h:P (.builtin "dict.get")):∃ f,MethOp c N σ (.raw (.ref d)) "get" f∧P f:=⟨_,M_dict e PySem.F.slot_dict_get PySem.F.type_dict_get,h⟩
theorem exM_items {d:Addr}{l:List (Str×V)}(e:DR c σ d l)(h:P (.builtin "dict.items")):∃ f,MethOp c N σ (.raw (.ref d)) "items" f∧P f:=⟨_,M_dict e PySem.F.slot_dict_items PySem.F.type_dict_items,h⟩
theorem Sl_1 {v:V}{l:List V}(hz:l.length<1000000)(q:Q (.tup l) σ):SliceOp c N σ (.tup (v::l)) (some 1) none none Q X:=Sl_from (a:=1) (by simp) (by simp;lia) q
theorem Sl_to1 {v:V}{l:List V}(hz:l.length<1000000)(q:Q (.tup [v]) σ):SliceOp c N σ (.tup (v::l)) none (some 1) none Q X:=Sl_to (a:=1) (by simp) (by simp;lia) (by simpa using q)
end
section
variable {c:Cx}{N:Lv}{env:Env}{σ:Sig}{Q:PV}{X:PX}{P:Rho→Prop}
end
structure Gs (c:Cx) (K:Frag) (tab:List (Str×Option Value)):Prop where
 hc:c.K=K
 mg:∀ {x v},(x,v)∈tab→c.mg x=v
 file:((c.prog.main.file:Str)==("/claim/cut.py" : Str))=true
 top:(c.prog.main.scope.names.lookup ("super" : Str)).isSome=false
 fz:∀ a,Fz a→c.S.objs.size≤a
 px:∀ a,c.px a=Nat.beq a 60
theorem all_dec {α:Type}{P:α→Prop}[DecidablePred P]{l:List α}(h:l.all (fun x=>decide (P x))=true):∀ x∈l,P x:=fun x hx=>of_decide_eq_true (List.all_eq_true.mp h x hx)
theorem len0 {P:List Value→Prop}(h:P [])(ys:List Value)(e:ys.length=0):P ys:=by
 rw[List.eq_nil_of_length_eq_zero e];exact h
theorem lenS {n:Nat}{P:List Value→Prop}(h:∀ a ys,ys.length=n→P (a::ys))(ys:List Value)(e:ys.length=n+1):P ys:=by
 cases ys with
 | nil=>exact absurd e (Nat.succ_ne_zero n).symm
 | cons a ys=>exact h a ys (Nat.succ.inj e)
theorem len1 {P:List Value→Prop}(h:∀ a,P [a]):∀ ys:List Value,ys.length=1→P ys:=lenS fun a=>len0 (P:=fun ys=>P (a::ys)) (h a)
theorem len2 {P:List Value→Prop}(h:∀ a b,P [a,b]):∀ ys:List Value,ys.length=2→P ys:=lenS fun a=>len1 (P:=fun ys=>P (a::ys)) (h a)
theorem len3 {P:List Value→Prop}(h:∀ a b c,P [a,b,c]):∀ ys:List Value,ys.length=3→P ys:=lenS fun a=>len2 (P:=fun ys=>P (a::ys)) (h a)
theorem len4 {P:List Value→Prop}(h:∀ a b c d,P [a,b,c,d]):∀ ys:List Value,ys.length=4→P ys:=lenS fun a=>len3 (P:=fun ys=>P (a::ys)) (h a)
theorem len5 {P:List Value→Prop}(h:∀ a b c d e,P [a,b,c,d,e]):∀ ys:List Value,ys.length=5→P ys:=lenS fun a=>len4 (P:=fun ys=>P (a::ys)) (h a)
noncomputable def keysOk (fd:FuncData)(xs:List Str):Bool:=xs.all fun x=>decide (fd.scope.names.lookup x=some .local)||decide (fd.scope.names.lookup x=some .cell)
noncomputable def frameR:List Str→List V→List Str→Rho
 | p::ps,a::as,ls=>(p,some a)::frameR ps as ls
 | ps,_,ls=>(ps++ls).map fun x=>(x,none)
theorem put_front {x:Str}{v u:Option V}{r:Rho}:∀ pre:Rho,Put x v (pre++(x,u)::r) (pre++(x,v)::r)
 | []=>.here
 | _::pre=>.there (put_front pre)
theorem binds_front {ls:List Str}:∀ (ps:List Str) (as:List V) (pre:Rho),ps.length=as.length→Binds (ps.zip as) (pre++(ps++ls).map fun x=>(x,none)) (pre++frameR ps as ls)
 | [],[],pre,_=>.nil
 | p::ps,a::as,pre,h=>by
  refine .cons (put_front pre) ?_
  have:=binds_front (ls:=ls) ps as (pre++[(p,some a)]) (by simpa using h)
  rw[List.append_assoc,List.append_assoc] at this
  exact this
theorem K_fnK {c:Cx}{K:Frag}{gt:List (Str×Option Value)}{σ:Sig}{X:PX}{Q:PV}{n:Nat}{hn:Bool}{f:Addr}{fd:FuncData}{body:List Stmt}{params locs:List Str}{oc:Value}{od:Option Addr}{osl:Array (Option Value)}{ρ1:Rho}{args:List V}
 (H:Gs c K gt) (hK:K.lookup f=some ⟨oc,od,.func fd,osl⟩) (hb:fd.body=.stmts body) (hcl:fd.closure=[]) (hg:fd.globals=mainGlobals) (hbl:fd.builtins=builtinsNs) (hcd:codeIn K fd.code fd.qualname=true)
 (hk:fd.scope.kind=.function) (hco:fd.scope.isCoroutine=false) (hgen:fd.scope.isGenerator=false) (hbind:∀ ys:List Value,ys.length=args.length→bindArgs fd ⟨ys,[]⟩=pure (params.zip ys))
 (hkeys:keysOk fd (params++locs)=true) (hnd:(params++locs).Nodup) (hl:params.length=args.length) (hρ:frameR params args locs=ρ1)
 (g:∀ L,SsG c ⟨n,hn⟩ (callEnvC fd L f) ρ1 body σ (fun fl ρ' σ'=>∃ σ'',Sub σ'' σ'∧Q (outV fl) σ'') (fun ex ρ' σ'=>∃ σ'',Sub σ'' σ'∧X ex σ'')):CodeOp c ⟨n+1,hn⟩ σ (.ref f) args Q X:=by
 have e:((params++locs).map fun x=>((x,none):Str×Option V)).map (·.1)=params++locs:=by
  rw[List.map_map];exact List.map_id'' (fun _=>rfl) _
 subst hρ
 refine K_fn (ρ0:=(params++locs).map fun x=>(x,none)) (by rw[H.hc];exact hK) hb hcl hg hbl (by rw[H.hc];exact hcd) hk hco hgen hbind ?_ ?_ ?_ ?_ g
 · intro x hx
   rw[e] at hx
   have:=List.all_eq_true.mp hkeys x hx
   simpa using this
 · rw[e];exact hnd
 · intro p hp
   refine el75 (List.mem_map.mp hp) ?_;intro x _ ze278;subst ze278
   rfl
 · exact binds_front params args [] hl
theorem CodeOp.mono {c:Cx}{N:Lv}{σ:Sig}{X X':PX}{f:Value}{args:List V}{Q Q':PV}(g:CodeOp c N σ f args Q X)(h:∀ v σ',Q v σ'→Q' v σ')(hx:∀ e σ',X e σ'→X' e σ'):CodeOp c N σ f args Q' X':=fun A s R' ys a R r p xp=>
 g A s R' ys a R r (fun v y σ' h' tk q=>p v y σ' h' tk (h v σ' q)) (fun e ex σ' h' tk q=>xp e ex σ' h' tk (hx ex σ' q))
end Mine
namespace Mine
variable [Membership Addr Zip0]
theorem all_nil {α:Type}{P:α→Prop}:∀ p∈([]:List α),P p:=fun p h=>nomatch h
theorem all_cons {α:Type}{P:α→Prop}{a:α}{l:List α}(h:P a)(t:∀ p∈l,P p):∀ p∈a::l,P p:=fun p hp=>by
 rcases List.mem_cons.mp hp with rfl | hp
 · exact h
 · exact t p hp
structure CompX (env:Env) (ρ:Rho) (scope:Scope) (cl:List (Str×Addr)) (ρc:Rho) (target:PySem.Expr):Prop where
 H:CompOk env ρ scope cl ρc
 hloc:∀ x∈names target,(relabel scope env).names.lookup x=some .local
 hfree:∀ x v,(x,some v)∈ρc→x ∉ names target
noncomputable def KeyP (env:Env)(ρ:Rho)(scope:Scope)(cl:List (Str×Addr))(target:PySem.Expr)(p:Str×Option V):Prop:=
 (p.2=none∧(relabel scope env).names.lookup p.1=some .local)∨(∃ v,p.2=some v∧(p.1,some v)∈ρ∧env.kindOf p.1=some .cell∧(relabel scope env).names.lookup p.1=some .cell∧(∃ k,cl.lookup p.1=some k)∧p.1 ∉ names target)
theorem KeyP.loc {env:Env}{ρ:Rho}{scope:Scope}{cl:List (Str×Addr)}{target:PySem.Expr}{x:Str}(h:(relabel scope env).names.lookup x=some .local):KeyP env ρ scope cl target (x,none):=.inl ⟨rfl,h⟩
theorem KeyP.cap {env:Env}{ρ:Rho}{scope:Scope}{cl:List (Str×Addr)}{target:PySem.Expr}{x:Str}{v:V}{k:Addr}(m:(x,some v)∈ρ)(h1:env.kindOf x=some .cell)(h2:(relabel scope env).names.lookup x=some .cell)(h3:cl.lookup x=some k)(h4:(names target).contains x=false):KeyP env ρ scope cl target (x,some v):=
 .inr ⟨v,rfl,m,h1,h2,⟨k,h3⟩,fun q=>by rw[List.contains_iff_mem.mpr q] at h4;cases h4⟩
theorem CompX.of {env:Env}{ρ:Rho}{scope:Scope}{cl:List (Str×Addr)}{ρc:Rho}{target:PySem.Expr}(clos:closureFor scope env=pure cl)(kind:scope.kind=.function)
 (b1:scope.names.all (fun y=>y.2 != .cell)=true) (b2:scope.names.all (fun x=>x.2 != .local||scope.names.lookup x.1==some .local)=true) (sub:∀ p∈cl,env.cells.lookup p.1=some p.2)
 (apart:cl.Pairwise fun x y=>x.2≠y.2) (nodup:(ρc.map (·.1)).Nodup) (ks:∀ p∈ρc,KeyP env ρ scope cl target p) (hloc:∀ x∈names target,(relabel scope env).names.lookup x=some .local):CompX env ρ scope cl ρc target where
 H:=⟨clos,kind,fun y hy q=>by have:=List.all_eq_true.mp b1 y hy;rw[q] at this;simp at this,
  fun x hx q=>by have:=List.all_eq_true.mp b2 x hx;rw[q] at this;simpa using this,
  fun x k h=>sub (x,k) (mem_of_lookup h),apart,nodup,fun x hx=>by
   refine el75 (List.mem_map.mp hx) ?_;intro p hp ze279;subst ze279
   rcases ks p hp with ⟨_,h⟩ | ⟨v,_,_,_,h,h',_⟩
   · exact .inl h
   · exact .inr ⟨h,h'⟩,
  fun x v hx=>by
   rcases ks _ hx with ⟨h,_⟩ | ⟨u,h,a,b,d,_⟩
   · cases h
   · simp only[Option.some.injEq] at h;subst h;exact⟨a,b,d⟩⟩
 hloc:=hloc
 hfree:=fun x v hx=>by
  rcases ks _ hx with ⟨h,_⟩ | ⟨u,h,_,_,_,_,k⟩
  · cases h
  · exact k
section
variable {c:Cx}{N:Lv}{env:Env}{ρ ρc:Rho}{σ:Sig}{Q:PV}{X:PX}{SQ:PF}{SX:PE}
noncomputable def CompI (c:Cx)(N:Lv)(env:Env)(ρc:Rho)(scope:Scope)(cl:List (Str×Addr))(target elt:PySem.Expr)(ifs:List PySem.Expr)(F:List V→Sig→Prop):IK:=fun l Need tg σ1=>tg target∧∃ Inv:List V→List V→Sig→Prop,Inv l [] σ1 ∧
 (∀ C v l acc σ1,Inv (v::l) acc σ1→Need σ1∧acc.length<1000000∧∃ ρ2,Takes target v ρc ρ2∧CompT c N (compEnvC scope cl C env) ρ2 σ1 (fun b σ2=>match b with | true=>EvG c N (compEnvC scope cl C env) ρ2 elt σ2 (fun u σ3=>Inv l (acc++[u]) σ3) NoX | false=>Inv l acc σ2) ifs) ∧
 (∀ acc σ1,Inv [] acc σ1→Need σ1∧F acc σ1)
theorem G_lcI {elt target iter:PySem.Expr}{ifs:List PySem.Expr}{scope:Scope}{pos:Pos}{cl:List (Str×Addr)}(hhn:N.hn=true)(CX:CompX env ρ scope cl ρc target)
 (hs:∀ x,foldedSetIterable iter env x=pure x)
 (g:IterG c N env ρ iter σ (CompI c N env ρc scope cl target elt ifs (fun acc σ1=>∀ D,σ1 D=none→Q (.raw (.ref D)) (upd σ1 D (.list acc)))) X):EvG c N env ρ (.ListComp elt [⟨target,iter,ifs,0⟩] scope pos) σ Q X:=
 G_listcomp hhn CX.H CX.hloc CX.hfree g hs
theorem G_lc2I {elt t0 i0 t1 i1:PySem.Expr}{scope:Scope}{pos:Pos}{cl:List (Str×Addr)}(hhn:N.hn=true)(CX:CompX env ρ scope cl ρc t0)(hloc1:∀ x∈names t1,(relabel scope env).names.lookup x=some .local)
 (hs:∀ x,foldedSetIterable i0 env x=pure x) (hs1:∀ C x,foldedSetIterable i1 (compEnvC scope cl C env) x=pure x)
 (g:IterG c N env ρ i0 σ (fun l Need tg σ1=>tg t0∧∃ Inv:List V→List V→Sig→Prop,Inv l [] σ1 ∧
  (∀ C v l acc σ1,Inv (v::l) acc σ1→Need σ1∧∃ ρ2,Takes t0 v ρc ρ2∧(∀ x u,(x,some u)∈ρ2→x ∉ names t1)∧IterG c N (compEnvC scope cl C env) ρ2 i1 σ1 (Inner c N (compEnvC scope cl C env) ρ2 t1 elt acc (Inv l)) NoX) ∧
  (∀ acc σ1,Inv [] acc σ1→Need σ1∧∀ D,σ1 D=none→Q (.raw (.ref D)) (upd σ1 D (.list acc)))) X):EvG c N env ρ (.ListComp elt [⟨t0,i0,[],0⟩,⟨t1,i1,[],0⟩] scope pos) σ Q X:=
 G_listcomp2 hhn CX.H CX.hloc hloc1 CX.hfree g hs hs1
theorem S_lcI {x:Str}{pos':Pos}{elt target iter:PySem.Expr}{ifs:List PySem.Expr}{scope:Scope}{p0 pos:Pos}{cl:List (Str×Addr)}(hhn:N.hn=true)(CX:CompX env ρ scope cl ρc target)(hx:env.kindOf x=some .local)
 (hs:∀ x,foldedSetIterable iter env x=pure x) (hsw:swapsWith (.ListComp elt [⟨target,iter,ifs,0⟩] scope p0) (some (.Name x pos')) pos.line env=pure true)
 (g:IterG c N env ρ iter σ (CompI c N env ρc scope cl target elt ifs (fun acc σ1=>∀ D,σ1 D=none→∃ ρ',Put x (some (.raw (.ref D))) ρ ρ'∧SQ .next ρ' (upd σ1 D (.list acc)))) (fun ex σ'=>SX ex ρ σ')) :
 StG c N env ρ (.Assign [.Name x pos'] (.ListComp elt [⟨target,iter,ifs,0⟩] scope p0) pos) σ SQ SX:=
 S_assign_comp hhn CX.H CX.hloc CX.hfree hx g hs hsw
theorem CompT_nil {K:Bool→Sig→Prop}(h:K true σ):CompT c N env ρ σ K []:=h
theorem CompT_one {K:Bool→Sig→Prop}{t:PySem.Expr}(h:TG c N env ρ t σ K NoX):CompT c N env ρ σ K [t]:=h
theorem Sub.over {τ σ':Sig}{D:Addr}{m0 m:MO}(x:Sub (Mine.upd τ D m0) σ'):Sub (Mine.upd τ D m) (Mine.upd σ' D m):=fun a m' e=>by
 by_cases h:a=D
 · subst h;rw[upd_same] at e ⊢;exact e
 · rw[upd_ne _ _ h] at e ⊢;exact x a m' (by rw[upd_ne _ _ h];exact e)
theorem comp_map {α:Type}{scope:Scope}{cl:List (Str×Addr)}{target elt:PySem.Expr}{ifs:List PySem.Expr}{F:List V→Sig→Prop}{l:List V}{Need:Sig→Prop}{tg:PySem.Expr→Prop}{σ1:Sig}(items:List α)(inV out:α→V)(keep:α→Bool)
 (h1:tg target) (h2:Need σ1) (h3:l=items.map inV) (h4:items.length<1000000)
 (h5:∀ C,∀ a∈items,∃ ρ2,Takes target (inV a) ρc ρ2∧CompT c N (compEnvC scope cl C env) ρ2 σ1 (fun b σ2=>match b with | true=>keep a=true∧EvG c N (compEnvC scope cl C env) ρ2 elt σ2 (fun u σ3=>u=out a∧Sub σ1 σ3) NoX | false=>keep a=false∧Sub σ1 σ2) ifs)
 (h6:F ((items.filter keep).map out) σ1):CompI c N env ρc scope cl target elt ifs F l Need tg σ1:=by
 refine⟨h1,fun l' acc σ2=>σ2=σ1∧∃ done rest,items=done++rest∧l'=rest.map inV∧acc=(done.filter keep).map out,⟨rfl,[],items,rfl,h3,rfl⟩,?_,?_⟩
 · intro C v l acc σ2 zu81
   refine el58 zu81 ?_;(try clear zu81);intro ze280 done rest e1 e2 e3;subst ze280
   cases rest with
   | nil=>simp at e2
   | cons a rest=>
    simp only[List.map_cons,List.cons.injEq] at e2
    obtain ⟨rfl,rfl⟩:=e2
    obtain ⟨ρ2,t,g⟩:=h5 C a (by rw[e1];simp)
    have hd:done++a::rest=(done++[a])++rest:=by simp
    refine⟨h2,?_,ρ2,t,?_⟩
    · rw[e3,List.length_map]
      have:=List.length_filter_le keep done
      have:items.length=done.length+(rest.length+1):=by rw[e1];simp
      lia
    · have fin:∀ (b:Bool) σ3,(match (generalizing:=false) b with | true=>keep a=true∧EvG c N (compEnvC scope cl C env) ρ2 elt σ3 (fun u σ4=>u=out a∧Sub σ2 σ4) NoX | false=>keep a=false∧Sub σ2 σ3) →
       (match (generalizing:=false) b with | true=>EvG c N (compEnvC scope cl C env) ρ2 elt σ3 (fun u σ4=>∃ σ5,Sub σ5 σ4∧σ5=σ2∧∃ done' rest',items=done'++rest'∧rest.map inV=rest'.map inV∧acc++[u]=(done'.filter keep).map out) NoX | false=>∃ σ5,Sub σ5 σ3∧σ5=σ2∧∃ done' rest',items=done'++rest'∧rest.map inV=rest'.map inV∧acc=(done'.filter keep).map out):=by
       intro b σ3 h
       cases b with
       | true=>
        obtain ⟨hk,g⟩:=h
        refine G_mono g (fun u σ4 ⟨hu,hs⟩=>⟨σ2,hs,rfl,done++[a],rest,by rw[e1,hd],rfl,?_⟩) fun _ _ q=>q
        rw[e3,hu];simp [List.filter_append,hk]
       | false=>
        obtain ⟨hk,hs⟩:=h
        exact⟨σ2,hs,rfl,done++[a],rest,by rw[e1,hd],rfl,by rw[e3];simp [List.filter_append,hk]⟩
      revert g
      match ifs with
      | []=>intro g;exact G_post (fin true _ g)
      | [t]=>
       intro g A s QQ EE ak R E p xp
       refine g A s QQ EE ak R E (fun b b' σ3 h' tk' q r R' x' gr=>?_) xp
       have q':=fin b σ3 q
       cases b with
       | true=>exact p true b' σ3 h' tk' (G_post q') r R' x' gr
       | false=>
        refine el70 q' ?_;(try clear q');intro σ5 hs ze281 q';subst ze281
        exact p false b' σ5 h' tk' ⟨rfl,q'⟩ r (R'.forget hs) x' (gr.sub hs)
      | _::_::_=>intro g;exact g
 · intro acc σ2 zu82
   refine el58 zu82 ?_;(try clear zu82);intro ze282 done rest e1 e2 e3;subst ze282
   have:rest=[]:=by
    cases rest with
    | nil=>rfl
    | cons a r=>simp at e2
   subst this
   rw[List.append_nil] at e1
   subst e1;subst e3
   exact⟨h2,h6⟩
end
end Mine
namespace Mine
variable [Membership Addr Zip0]
noncomputable def okB (k:Str):Bool:=decide (k.length≤1000000)&&PyData.strOk k
theorem ns_of {K:Frag}{h:Heap}{a:Addr}{mg:Str→Option Value}{cl:Value}{d:Option Addr}{es:Array DictEntry}{n:Nat}{sl:Array (Option Value)}(X:K.In h)(e:K.lookup a=some ⟨cl,d,.dict es n,sl⟩)(g:h.Ns a mg)(x:Str):mg x=nsFind es x:=by
 refine el50 g ?_;(try clear g);intro o es' ep h1 h2 _ h4
 rw[X _ _ e] at h1;cases h1
 simp only[Data.dict.injEq] at h2
 rw[← h4,h2.1]
theorem ints_vrs {h:Heap}:∀ {vs:List Value}{ns:List Int},IntsAre vs ns→VRs h (ns.map .int) vs
 | _,_,.nil=>.nil
 | _,_,.cons n t r=>.cons (by simp only[jt1,jt2,jt3,jt4,jt5,jt6];exact⟨t,rfl⟩) (ints_vrs r)
noncomputable def noSig:Sig:=fun _=>none
theorem Rel.start {c:Cx}(h0:∀ a,¬ Fz a):Rel c noSig c.S:=⟨fun _ _ e=>e,Nat.le_refl _,fun a q=>absurd q (h0 a),fun a m e=>by cases e⟩
theorem AOk.start {c:Cx}{n:Nat}{hn:Bool}(h1:n≤500):AOk c ⟨n,hn⟩ callerA noSig c.S where
 depth:=by
  show 1+claimMargin+n<recursionLimit;have:1+claimMargin=301:=by decide
  have:recursionLimit=1000:=by decide
  lia
 units:=by
  show 4+16*n<cLine;have:cLine=9900:=by decide
  lia
 han:=fun _=>rfl
 frames:=⟨[],rfl,fun y hy=>by cases hy⟩
 guards:=rfl
section
variable {c:Cx}{σ:Sig}
theorem sT {K:Frag}(hc:c.K=K)(hF:∀ a,Fz a→c.S.objs.size≤a){a:Addr}{xs:Array Value}{n:Nat}{sl:Array (Option Value)}{l:List V}(e:K.lookup a=some ⟨.type "tuple",none,.seq xs n,sl⟩)(r:VRs c.S l xs.toList):VR c.S (.tup l) (.ref a):=by
 subst hc
 simp only[jt1,jt2,jt3,jt4,jt5,jt6]
 exact⟨a,xs,rfl,⟨_,c.KIn _ _ e,rfl,⟨rfl,fun q=>absurd (Heap.lt_size (c.KIn _ _ e)) (Nat.not_lt.mpr (hF _ q))⟩,n,rfl⟩,r⟩
theorem sS {s:Str}{t:Tok}(h:okB s=true):VR c.S (.str s) (.str s t):=by
 simp only[okB,Bool.and_eq_true,decide_eq_true_eq] at h
 simp only[jt1,jt2,jt3,jt4,jt5,jt6]
 exact⟨h,_,rfl⟩
theorem sL {K:Frag}(hc:c.K=K){a:Addr}{xs:Array Value}{n:Nat}{sl:Array (Option Value)}{l:List V}(e:K.lookup a=some ⟨.type "list",none,.seq xs n,sl⟩)(r:VRs c.S l xs.toList):LR c σ a l:=by
 subst hc
 exact .inr ⟨xs,⟨_,c.KIn _ _ e,rfl,n,rfl⟩,r⟩
inductive entriesAre (P:Params):List DictEntry→List (Str×Value)→Prop
 | nil:entriesAre P [] []
 | cons {es:List DictEntry}{kvs:List (Str×Value)}{k:Str}{v:Value}{t:Tok} (h:entriesAre P es kvs):entriesAre P (⟨PyData.keyHash P k,.str k t,v⟩::es) ((k,v)::kvs)
theorem entries_ok {w:World}{prog:Program}{es:List DictEntry}{kvs:List (Str×Value)}(h:entriesAre w.params es kvs):(∀ e∈es,∃ k,(strKind prog w).is k e.key=true∧e.hash=(strKind prog w).hash k)∧Pairs (strKind prog w) es kvs:=by
 induction h with
 | nil=>exact⟨fun e h=>(nomatch h),.nil⟩
 | cons h ih=>
  rename_i k v t
  have hk:(strKind prog w).is k (.str k t)=true:=by show Value.isStrOf k (.str k t)=true;simp [Value.isStrOf]
  exact⟨fun e' h'=>by
   rcases List.mem_cons.mp h' with rfl | h'
   · exact⟨k,hk,rfl⟩
   · exact ih.1 e' h',.cons hk rfl ih.2⟩
theorem statD {P:Params}{K:Frag}(hc:c.K=K)(hP:P=c.w.params){a:Addr}{es:Array DictEntry}{n:Nat}{l:List (Str×V)}{kvs:List (Str×Value)}(e:K.lookup a=some { cls:=.type "dict",data:=.dict es n })(he:entriesAre P es.toList kvs)(hn:(kvs.map (·.1)).Nodup)(hp:PairsR c.S l kvs)(ha:a≠sysModules):DR c σ a l:=by
 subst hP;subst hc
 have k:=entries_ok (prog:=c.prog) he
 exact .inr ⟨⟨kvs,⟨_,es,n,c.KIn _ _ e,⟨rfl,rfl,rfl⟩,rfl,fun e' h'=>k.1 e' (Array.mem_toList_iff.mpr h'),k.2,hn⟩,hp⟩,ha⟩
end
end Mine
namespace Mine
variable [Membership Addr Zip0]
structure Leaf (p:Prop):Prop where
 h:p
structure Br (b:Bool) (P Q:Prop):Prop where
 t:b=true→P
 f:b=false→Q
theorem lf {p:Prop}(h:p):Leaf p:=⟨h⟩
theorem Br.tt {P Q:Prop}(p:P):Br true P Q:=⟨fun _=>p,fun h=>absurd h (by decide)⟩
theorem Br.ff {P Q:Prop}(q:Q):Br false P Q:=⟨fun h=>absurd h (by decide),fun _=>q⟩
noncomputable def eqN:List Nat→List Nat→Bool
 | [],l=>match l with | []=>true | _::_=>false
 | a::as,l=>match l with | []=>false | b::bs=>match Nat.beq a b with | true=>eqN as bs | false=>false
theorem jy1:eqN [] l=(match l with | []=>true | _::_=>false):=rfl
theorem jy2:eqN (a::as) l=(match l with | []=>false | b::bs=>match Nat.beq a b with | true=>eqN as bs | false=>false):=rfl
theorem eqN_eq:∀ {a b:List Nat},eqN a b=true→a=b
 | [],[],_=>rfl
 | [],_::_,h=>by simp [jy1,jy2] at h
 | _::_,[],h=>by simp [jy1,jy2] at h
 | a::as,b::bs,h=>by
  simp only[jy1,jy2] at h
  cases e:Nat.beq a b with
  | true=>rw[e] at h;rw[Nat.eq_of_beq_eq_true e,eqN_eq h]
  | false=>rw[e] at h;cases h
noncomputable def eqS (x y:Str):Bool:=eqN x.cps.toList y.cps.toList
theorem eqS_eq {x y:Str}(h:eqS x y=true):x=y:=by
 obtain ⟨⟨x⟩⟩:=x;obtain ⟨⟨y⟩⟩:=y
 have:=eqN_eq h
 simp only at this
 rw[this]
theorem eqS_refl (x:Str):eqS x x=true:=by
 have:∀ l:List Nat,eqN l l=true:=fun l=>by
  induction l with
  | nil=>rfl
  | cons a l ih=>simp only[jy1,jy2,Nat.beq_refl,ih]
 exact this _
noncomputable def fnd (x:Str)(Q:PV)(σ:Sig)(D:Prop):Rho→Prop
 | []=>D
 | (y,v)::r=>match eqS x y with | true=>(match v with | some v=>Q v σ | none=>False) | false=>fnd x Q σ D r
theorem jB1 (x:Str)(Q:PV)(σ:Sig)(D:Prop):fnd x Q σ D []=(D):=rfl
theorem jB2 (x:Str)(Q:PV)(σ:Sig)(D:Prop):fnd x Q σ D ((y,v)::r)=(match eqS x y with | true=>(match v with | some v=>Q v σ | none=>False) | false=>fnd x Q σ D r):=rfl
theorem fnd_ok {x:Str}{Q:PV}{σ:Sig}{D:Prop}:∀ {ρ:Rho},fnd x Q σ D ρ→(∃ v,(x,some v)∈ρ∧Q v σ)∨D
 | [],h=>.inr h
 | (y,v)::r,h=>by
  rw[jB2] at h
  cases e:eqS x y with
  | true=>
   rw[e] at h
   cases v with
   | none=>cases h
   | some v=>rw[eqS_eq e];exact .inl ⟨v,.head _,h⟩
  | false=>
   rw[e] at h
   rcases fnd_ok h with ⟨v,m,q⟩ | q
   · exact .inl ⟨v,.tail _ m,q⟩
   · exact .inr q
noncomputable def put (x:Str)(v:V):Rho→(Rho→Prop)→Prop
 | [],_=>False
 | (y,u)::r,C=>match eqS x y with | true=>C ((y,some v)::r) | false=>put x v r fun r'=>C ((y,u)::r')
theorem jH1 (x:Str)(v:V):put x v [] w1=(False):=rfl
theorem jH2 (x:Str)(v:V):put x v ((y,u)::r) C=(match eqS x y with | true=>C ((y,some v)::r) | false=>put x v r fun r'=>C ((y,u)::r')):=rfl
theorem put_ok {x:Str}{v:V}:∀ {ρ:Rho}{C:Rho→Prop},put x v ρ C→∃ ρ',Put x (some v) ρ ρ'∧C ρ'
 | [],_,h=>h.elim
 | (y,u)::r,C,h=>by
  rw[jH2] at h
  cases e:eqS x y with
  | true=>rw[e] at h;have:=eqS_eq e;subst this;exact⟨_,.here,h⟩
  | false=>rw[e] at h;refine el75 (put_ok h) ?_;intro r' p q;exact⟨_,.there p,q⟩
noncomputable def lookS {α:Type}(x:Str):List (Str×α)→Option α
 | []=>none
 | (y,v)::r=>match eqS x y with | true=>some v | false=>lookS x r
theorem jC1 {α:Type}(x:Str){y:Str}{v:α}{r:List (Str×α)}:@lookS α x []=(none):=rfl
theorem jC2 {α:Type}(x:Str){y:Str}{v:α}{r:List (Str×α)}:@lookS α x ((y,v)::r)=(match eqS x y with | true=>some v | false=>lookS x r):=rfl
theorem lookS_mem {α:Type}{x:Str}{v:α}:∀ {l:List (Str×α)},lookS x l=some v→(x,v)∈l
 | [],h=>by cases h
 | (y,u)::r,h=>by
  rw[jC2] at h
  cases e:eqS x y with
  | true=>rw[e] at h;cases h;rw[eqS_eq e];exact .head _
  | false=>rw[e] at h;exact .tail _ (lookS_mem h)
theorem lookS_lookup {α:Type}{x:Str}{v:α}:∀ {l:List (Str×α)},lookS x l=some v→l.lookup x=some v
 | [],h=>by cases h
 | (y,u)::r,h=>by
  rw[jC2] at h
  cases e:eqS x y with
  | true=>rw[e] at h;cases h;rw[eqS_eq e];simp
  | false=>
   rw[e] at h
   have ne:(x==y)=false:=by
    cases q:x==y with
    | false=>rfl
    | true=>rw[eq_of_beq q,eqS_refl] at e;cases e
   rw[List.lookup_cons,ne];exact lookS_lookup h
noncomputable def globV (tab:List (Str×Option Value))(kinds:List (Str×NameKind))(x:Str):Option Value:=
 match lookS x kinds with
 | some k=>match k with
  | .globalImplicit=>match lookS x tab with
   | some o=>match o with | some v=>some v | none=>lookS x btab
   | none=>none
  | _=>none
 | none=>none
theorem btab_name {x:Str}{v:Value}(h:(x,v)∈btab):x≠"__name__":=by
 simp only[btab,List.mem_cons,List.not_mem_nil,or_false,Prod.mk.injEq] at h
 rcases h with ⟨rfl,_⟩ | ⟨rfl,_⟩ | ⟨rfl,_⟩ | ⟨rfl,_⟩ | ⟨rfl,_⟩ | ⟨rfl,_⟩ | ⟨rfl,_⟩ | ⟨rfl,_⟩ | ⟨rfl,_⟩ | ⟨rfl,_⟩ | ⟨rfl,_⟩ | ⟨rfl,_⟩ <;> decide
noncomputable def strFine (x:Str):Bool:=Nat.ble x.cps.toList.length 1000&&x.cps.toList.all fun n=>Nat.blt n 0x110000
theorem strFine_ok {x:Str}(h:strFine x=true):x.length≤1000000∧PyData.strOk x=true:=by
 unfold strFine at h
 rw[Bool.and_eq_true] at h
 refine⟨by have:=Nat.le_of_ble_eq_true h.1;simp only[Array.length_toList] at this;exact Nat.le_trans this (by decide),?_⟩
 unfold PyData.strOk
 rw[← Array.all_toList]
 rw[List.all_eq_true] at h ⊢
 intro n hn
 have:=h.2 n hn
 simpa [Nat.blt_eq] using this
noncomputable def isComp (e:PySem.Expr):Bool:=Nat.beq e.ctorIdx 8||(Nat.beq e.ctorIdx 9||Nat.beq e.ctorIdx 10)
theorem swaps_no {e:PySem.Expr}{t:Option PySem.Expr}{l:Nat}{env:Env}(h:isComp e=false):swapsWith e t l env=pure false:=by
 cases e <;> first | rfl | cases h
noncomputable def isStar (e:PySem.Expr):Bool:=Nat.beq e.ctorIdx 22
theorem star_no {e:PySem.Expr}{es:List PySem.Expr}{env:Env}(h:isStar e=false):starEach (e::es) env=(false,eval e env)::starEach es env:=by
 cases e <;> first | rfl | cases h
noncomputable def noStar:List PySem.Expr→Bool
 | []=>true
 | e::es=>match isStar e with | true=>false | false=>noStar es
theorem jD1:noStar []=(true):=rfl
theorem jD2:noStar (e::es)=(match isStar e with | true=>false | false=>noStar es):=rfl
theorem noStar_ok {env:Env}{pos:Pos}:∀ {es:List PySem.Expr},noStar es=true→(backTo pos (starEach es env)).any (·.1)=false
 | [],_=>by first | rfl | simp [backTo,starEach]
 | e::es,h=>by
  rw[jD2] at h
  cases q:isStar e with
  | true=>rw[q] at h;cases h
  | false=>
   rw[q] at h
   have ih:=noStar_ok (env:=env) (pos:=pos) h
   rw[star_no q]
   first
    | (simp only[backTo,List.map_cons,List.any_cons,Bool.false_or] at ih ⊢;exact ih)
    | (simp [backTo] at ih ⊢;exact ih)
noncomputable def isSet (e:PySem.Expr):Bool:=Nat.beq e.ctorIdx 7
theorem marks_no {op:CmpOp}{e:PySem.Expr}(h:isSet e=false):behindInMarks op e=false:=by
 cases e <;> first | rfl | cases h
noncomputable def isTupD (e:PySem.Expr):Bool:=Nat.beq e.ctorIdx 25
noncomputable def isCallE (e:PySem.Expr):Bool:=Nat.beq e.ctorIdx 16
theorem attrBase {o:PySem.Expr}{name:Str}{env:Env}{w:Sem Value}(h:isCallE o=false):attributeBase o name env w=w:=by
 cases o <;> first | rfl | cases h
noncomputable def methFine (args:List PySem.Expr)(apos pos:Pos):Bool:=Nat.blt args.length 30&&Nat.beq apos.endLine pos.line
theorem star_all {env:Env}{pos:Pos}:∀ {es:List PySem.Expr},noStar es=true→(backTo pos (starEach es env)).all (!·.1)=true
 | [],_=>by first | rfl | simp [backTo,starEach]
 | e::es,h=>by
  rw[jD2] at h
  cases q:isStar e with
  | true=>rw[q] at h;cases h
  | false=>
   rw[q] at h
   have ih:=star_all (env:=env) (pos:=pos) h
   rw[star_no q]
   first
    | (simp only[backTo,List.map_cons,List.all_cons,Bool.not_false,Bool.true_and] at ih ⊢;exact ih)
    | (simp [backTo] at ih ⊢;exact ih)
theorem meth_eq {o:PySem.Expr}{name:Str}{env:Env}{apos pos:Pos}{es:List PySem.Expr}(ho:isCallE o=false)(hs:noStar es=true)(hf:methFine es apos pos=true) :
 eval (.Call (.Attribute o name apos) es [] pos) env=(do
  let ov ← eval o env
  standAt apos.atName
  let (f,first) ← holding [ov] (getMethod ov name (do return (← importBound o env).getD true))
  callWith pos f first (backTo pos (starEach es env)) []):=by
 show (do
  let ov ← attributeBase o name env (eval o env)
  standAt apos.atName
  methodCall o name apos pos env ov (es.length+0) (backTo pos (starEach es env)) [])=_
 rw[attrBase ho]
 unfold methFine at hf
 rw[Bool.and_eq_true] at hf
 have hm:methodCallForm (es.length+0) (backTo pos (starEach es env)) []=true:=by
  unfold methodCallForm
  rw[star_all hs]
  have:es.length<30:=by simpa [Nat.blt_eq] using hf.1
  simp [this]
 have hp:methodCallPos true o env apos pos=pure pos:=by
  unfold methodCallPos
  have:(apos.endLine==pos.line)=true:=by rw[Nat.eq_of_beq_eq_true hf.2];exact beq_self_eq_true _
  rw[this];rfl
 congr 1;funext ov;congr 1;funext _
 unfold methodCall
 rw[hm,hp]
 rfl
noncomputable def takeL:List PySem.Expr→List V→Rho→(Rho→Prop)→Prop
 | [],vs,ρ,C=>match vs with | []=>C ρ | _::_=>False
 | e::es,vs,ρ,C=>match vs with | []=>False | v::vs=>match e with | .Name x _=>put x v ρ fun ρ'=>takeL es vs ρ' C | _=>False
theorem takeL_ok:∀ {es:List PySem.Expr}{vs:List V}{ρ:Rho}{C:Rho→Prop},takeL es vs ρ C→∃ ρ',TakesL es vs ρ ρ'∧C ρ'
 | [],[],ρ,C,h=>⟨ρ,.nil,h⟩
 | [],_::_,_,_,h=>h.elim
 | _::_,[],_,_,h=>h.elim
 | e::es,v::vs,ρ,C,h=>by
  cases e with
  | Name x p=>
   refine el75 (put_ok h) ?_;intro ρ1 p1 q
   refine el75 (takeL_ok q) ?_;intro ρ2 p2 q
   exact⟨ρ2,.cons p1 p2,q⟩
  | _=>exact h.elim
noncomputable def take (e:PySem.Expr)(v:V)(ρ:Rho)(C:Rho→Prop):Prop:=
 match e with
 | .Name x _=>put x v ρ C
 | .Tuple es _ _=>match v with
  | .tup vs=>takeL es vs ρ C
  | _=>False
 | _=>False
theorem take_ok {e:PySem.Expr}{v:V}{ρ:Rho}{C:Rho→Prop}(h:take e v ρ C):∃ ρ',Takes e v ρ ρ'∧C ρ':=by
 cases e with
 | Name x p=>refine el75 (put_ok h) ?_;intro ρ' p q;exact⟨ρ',.name p,q⟩
 | Tuple es k p=>
  cases v with
  | tup vs=>refine el75 (takeL_ok h) ?_;intro ρ' p q;exact⟨ρ',.tup p,q⟩
  | _=>exact h.elim
 | _=>exact h.elim
end Mine
namespace Mine
variable [Membership Addr Zip0]
section
variable {c:Cx}{N:Lv}{env:Env}{ρ:Rho}{σ:Sig}
theorem Gm {α β:Type}{rel:Heap→β→α→Prop}{t:Sem α}{Q Q':β→Sig→Prop}{X:PX}(g:G c N env ρ σ rel t Q X)(h:∀ v σ',Q v σ'→Q' v σ'):G c N env ρ σ rel t Q' X:=
 fun A s QQ EE a R E p xp=>g A s QQ EE a R E (fun b a σ' h' tk' q=>p b a σ' h' tk' (h b σ' q)) xp
theorem Op2m {a b:V}{t:Value→Value→Sem Value}{Q Q':PV}{X:PX}(g:Op2 c N σ a b t Q X)(h:∀ v σ',Q v σ'→Q' v σ'):Op2 c N σ a b t Q' X:=
 fun A s QQ EE x y ak R r1 r2 p xp=>g A s QQ EE x y ak R r1 r2 (fun b a σ' h' tk' q=>p b a σ' h' tk' (h b σ' q)) xp
end
noncomputable def keepB (K:Frag)(f:Value):Bool:=Nat.beq f.ctorIdx 8||(Nat.beq f.ctorIdx 9||(Nat.beq f.ctorIdx 10&&keepIn K f))
structure W where
 e:Rho→PySem.Expr→Sig→(V→Sig→Prop)→(Exn→Sig→Prop)→Prop
 a:Rho→List PySem.Expr→Pos→Sig→(List V→Sig→Prop)→(Exn→Sig→Prop)→Prop
 p:Rho→List (Option PySem.Expr)→List PySem.Expr→Pos→Sig→(List (Str×V)→Sig→Prop)→(Exn→Sig→Prop)→Prop
 t:Rho→PySem.Expr→Sig→(Bool→Sig→Prop)→(Exn→Sig→Prop)→Prop
 s:Rho→List Stmt→Sig→(GF→Rho→Sig→Prop)→(Exn→Rho→Sig→Prop)→Prop
section
variable (c:Cx)(N:Lv)(env:Env)(K:Frag)(tab:List (Str×Option Value))(kinds:List (Str×NameKind))
noncomputable def W.zero:W where
 e:=fun ρ e σ Q X=>Leaf (EvG c N env ρ e σ Q X)
 a:=fun ρ es pos σ Q X=>Leaf (ArgsG c N env ρ es pos σ Q X)
 p:=fun ρ ks vs pos σ Q X=>Leaf (PairsG c N env ρ ks vs pos σ Q X)
 t:=fun ρ e σ Q X=>Leaf (TG c N env ρ e σ Q X)
 s:=fun ρ ss σ Q X=>Leaf (SsG c N env ρ ss σ Q X)
structure WS (w:W):Prop where
 e:∀ {ρ e σ Q X},w.e ρ e σ Q X→EvG c N env ρ e σ Q X
 a:∀ {ρ es pos σ Q X},w.a ρ es pos σ Q X→ArgsG c N env ρ es pos σ Q X
 p:∀ {ρ ks vs pos σ Q X},w.p ρ ks vs pos σ Q X→PairsG c N env ρ ks vs pos σ Q X
 t:∀ {ρ e σ Q X},w.t ρ e σ Q X→TG c N env ρ e σ Q X
 s:∀ {ρ ss σ Q X},w.s ρ ss σ Q X→SsG c N env ρ ss σ Q X
theorem WS.zero:WS c N env (W.zero c N env):=⟨fun h=>h.h,fun h=>h.h,fun h=>h.h,fun h=>h.h,fun h=>h.h⟩
noncomputable def callL (N:Lv)(σ:Sig)(f:Value)(vs:List V)(Q:PV)(X:PX):Prop:=
 match keepB K f with
 | true=>Leaf (CallOp c N σ f vs Q X)
 | false=>Leaf (Kee c σ f∧CallOp c N σ f vs Q X)
variable (w:W)
noncomputable def atX (SX:PE)(ρ:Rho):Exn→Sig→Prop:=fun ex σ'=>SX ex ρ σ'
noncomputable def nextQ (SQ:PF)(ρ:Rho):Sig→Prop:=fun σ'=>SQ .next ρ σ'
noncomputable def kPart (PQ:Option Int→Sig→Prop):V→Sig→Prop:=fun v σ1=>match v with | .int i=>PQ (some i) σ1 | _=>False
noncomputable def partK (ρ:Rho)(o:Option PySem.Expr)(σ:Sig)(PQ:Option Int→Sig→Prop)(X:PX):Prop:=
 match o with
 | none=>PQ none σ
 | some e=>w.e ρ e σ (kPart PQ) X
noncomputable def dictFine (ks:List (Option PySem.Expr))(vs:List PySem.Expr):Bool:=
 match ks with
 | []=>false
 | _::_=>ks.all (·.isSome)&&(Nat.beq ks.length vs.length&&Nat.ble ks.length 15)
noncomputable def kCallM (fv:Value)(v:V)(Q:PV)(X:PX):List V→Sig→Prop:=fun vs σ2=>callL c K N σ2 fv (v::vs) Q X
noncomputable def kCallF (fv:Value)(Q:PV)(X:PX):List V→Sig→Prop:=fun vs σ2=>callL c K N σ2 fv vs Q X
noncomputable def kMeth (ρ:Rho)(name:Str)(args:List PySem.Expr)(pos:Pos)(Q:PV)(X:PX):V→Sig→Prop:=fun v σ1=>Leaf (∃ fv,MethOp c N σ1 v name fv∧w.a ρ args pos σ1 (kCallM c N K fv v Q X) X)
noncomputable def kFun (ρ:Rho)(args:List PySem.Expr)(pos:Pos)(Q:PV)(X:PX):V→Sig→Prop:=fun v σ1=>match v with | .raw fv=>w.a ρ args pos σ1 (kCallF c N K fv Q X) X | _=>False
noncomputable def attrForm:PySem.Expr→Option (PySem.Expr×Str×Pos)
 | .Attribute o name p=>some (o,name,p)
 | _=>none
noncomputable def isNameE (e:PySem.Expr):Bool:=Nat.beq e.ctorIdx 23
noncomputable def stepC (ρ:Rho)(f:PySem.Expr)(args:List PySem.Expr)(pos:Pos)(σ:Sig)(Q:PV)(X:PX):Prop:=
 match noStar args with
 | true=>match attrForm f with
  | some p=>match isCallE p.1 with
   | true=>Leaf (EvG c N env ρ (.Call f args [] pos) σ Q X)
   | false=>match methFine args p.2.2 pos with
    | false=>Leaf (EvG c N env ρ (.Call f args [] pos) σ Q X)
    | true=>w.e ρ p.1 σ (kMeth c N K w ρ p.2.1 args pos Q X) X
  | none=>match isNameE f with
   | true=>w.e ρ f σ (kFun c N K w ρ args pos Q X) X
   | false=>Leaf (EvG c N env ρ (.Call f args [] pos) σ Q X)
 | false=>Leaf (EvG c N env ρ (.Call f args [] pos) σ Q X)
noncomputable def stepK (ρ:Rho)(k:Const)(kk:Nat)(pos:Pos)(σ:Sig)(Q:PV)(X:PX):Prop:=
 match k with
 | .int i=>Q (.int i) σ
 | .none=>Q .none σ
 | .bool b=>Q (.bool b) σ
 | .str x=>match strFine x with
  | true=>Q (.str x) σ
  | false=>Leaf (EvG c N env ρ (.Constant k kk pos) σ Q X)
 | _=>Leaf (EvG c N env ρ (.Constant k kk pos) σ Q X)
noncomputable def stepN (ρ:Rho)(x:Str)(pos:Pos)(σ:Sig)(Q:PV)(X:PX):Prop:=
 match eqS x ("__debug__" : Str) with
 | true=>Leaf (EvG c N env ρ (.Name x pos) σ Q X)
 | false=>fnd x Q σ (match globV tab kinds x with | some v=>Q (.raw v) σ | none=>Leaf (EvG c N env ρ (.Name x pos) σ Q X)) ρ
noncomputable def fits (vs:List V)(p:Prop):Prop:=match Nat.ble vs.length 1000 with | true=>p | false=>False
noncomputable def kTup (Q:PV):List V→Sig→Prop:=fun vs σ1=>fits vs (Q (.tup vs) σ1)
noncomputable def kList (Q:PV):List V→Sig→Prop:=fun vs σ1=>fits vs (Leaf (∀ a,σ1 a=none→Q (.raw (.ref a)) (upd σ1 a (.list vs))))
noncomputable def kBin2 (op:Operator)(Q:PV)(X:PX)(a:V):V→Sig→Prop:=fun b σ2=>Leaf (Op2 c N σ2 a b (binaryOp op) Q X)
noncomputable def kBin1 (ρ:Rho)(r:PySem.Expr)(op:Operator)(Q:PV)(X:PX):V→Sig→Prop:=fun a σ1=>w.e ρ r σ1 (kBin2 c N op Q X a) X
noncomputable def cmpForm (ops:List CmpOp)(rs:List PySem.Expr):Option (CmpOp×PySem.Expr):=
 match ops with
 | []=>none
 | op::ops=>match ops with
  | _::_=>none
  | []=>match rs with
   | []=>none
   | r::rs=>match rs with
    | _::_=>none
    | []=>match isSet r with | true=>none | false=>some (op,r)
noncomputable def kCmp2 (op:CmpOp)(Q:PV)(X:PX)(a:V):V→Sig→Prop:=fun b σ2=>Leaf (Op2 c N σ2 a b (compareOp op) Q X)
noncomputable def kCmp1 (ρ:Rho)(r:PySem.Expr)(op:CmpOp)(Q:PV)(X:PX):V→Sig→Prop:=fun a σ1=>w.e ρ r σ1 (kCmp2 c N op Q X a) X
noncomputable def stepCmp (ρ:Rho)(l:PySem.Expr)(ops:List CmpOp)(rs:List PySem.Expr)(pos:Pos)(σ:Sig)(Q:PV)(X:PX):Prop:=
 match cmpForm ops rs with
 | none=>Leaf (EvG c N env ρ (.Compare l ops rs pos) σ Q X)
 | some p=>w.e ρ l σ (kCmp1 c N w ρ p.2 p.1 Q X) X
noncomputable def kAt (name:Str)(Q:PV)(X:PX):V→Sig→Prop:=fun v σ1=>Leaf (GetOp c N σ1 v name Q X)
noncomputable def stepAt (ρ:Rho)(o:PySem.Expr)(name:Str)(pos:Pos)(σ:Sig)(Q:PV)(X:PX):Prop:=
 match isCallE o with
 | true=>Leaf (EvG c N env ρ (.Attribute o name pos) σ Q X)
 | false=>w.e ρ o σ (kAt c N name Q X) X
noncomputable def sliceForm:PySem.Expr→Option (Option PySem.Expr×Option PySem.Expr×Option PySem.Expr)
 | .Slice lo hi st _=>some (lo,hi,st)
 | _=>none
noncomputable def kSl4 (Q:PV)(X:PX)(a:V)(l u:Option Int):Option Int→Sig→Prop:=fun k σ4=>Leaf (SliceOp c N σ4 a l u k Q X)
noncomputable def kSl3 (ρ:Rho)(st:Option PySem.Expr)(Q:PV)(X:PX)(a:V)(l:Option Int):Option Int→Sig→Prop:=fun u σ3=>partK w ρ st σ3 (kSl4 c N Q X a l u) X
noncomputable def kSl2 (ρ:Rho)(hi st:Option PySem.Expr)(Q:PV)(X:PX)(a:V):Option Int→Sig→Prop:=fun l σ2=>partK w ρ hi σ2 (kSl3 c N w ρ st Q X a l) X
noncomputable def kSl1 (ρ:Rho)(lo hi st:Option PySem.Expr)(Q:PV)(X:PX):V→Sig→Prop:=fun a σ1=>partK w ρ lo σ1 (kSl2 c N w ρ hi st Q X a) X
noncomputable def kSub2 (Q:PV)(X:PX)(a:V):V→Sig→Prop:=fun b σ2=>Leaf (SubOp c N σ2 a b Q X)
noncomputable def kSub1 (ρ:Rho)(i:PySem.Expr)(Q:PV)(X:PX):V→Sig→Prop:=fun a σ1=>w.e ρ i σ1 (kSub2 c N Q X a) X
noncomputable def stepSub (ρ:Rho)(v i:PySem.Expr)(σ:Sig)(Q:PV)(X:PX):Prop:=
 match sliceForm i with
 | some p=>w.e ρ v σ (kSl1 c N w ρ p.1 p.2.1 p.2.2 Q X) X
 | none=>w.e ρ v σ (kSub1 c N w ρ i Q X) X
noncomputable def kNot (Q:PV):V→Sig→Prop:=fun v σ1=>match v with | .bool b=>Q (.bool (!b)) σ1 | _=>False
noncomputable def kNeg (Q:PV):V→Sig→Prop:=fun v σ1=>match v with | .int i=>Q (.int (-i)) σ1 | _=>False
noncomputable def stepUn (ρ:Rho)(op:UnaryOp)(x:PySem.Expr)(pos:Pos)(σ:Sig)(Q:PV)(X:PX):Prop:=
 match op with
 | .Not=>w.e ρ x σ (kNot Q) X
 | .USub=>w.e ρ x σ (kNeg Q) X
 | _=>Leaf (EvG c N env ρ (.UnaryOp op x pos) σ Q X)
noncomputable def twoForm (op:BoolOp)(es:List PySem.Expr):Option (PySem.Expr×PySem.Expr):=
 match op with
 | .Or=>none
 | .And=>match es with
  | []=>none
  | x::es=>match es with
   | []=>none
   | y::es=>match es with | _::_=>none | []=>some (x,y)
noncomputable def kAnd2 (ρ:Rho)(y:PySem.Expr)(Q:PV)(X:PX):V→Sig→Prop:=fun v σ1=>match v with | .bool b=>Br b (w.e ρ y σ1 Q X) (Q (.bool false) σ1) | _=>False
noncomputable def stepBo (ρ:Rho)(op:BoolOp)(es:List PySem.Expr)(pos:Pos)(σ:Sig)(Q:PV)(X:PX):Prop:=
 match twoForm op es with
 | none=>Leaf (EvG c N env ρ (.BoolOp op es pos) σ Q X)
 | some p=>w.e ρ p.1 σ (kAnd2 w ρ p.2 Q X) X
noncomputable def kDict (Q:PV):List (Str×V)→Sig→Prop:=fun l σ1=>Leaf ((l.map (·.1)).Nodup∧∀ D,σ1 D=none→Q (.raw (.ref D)) (upd σ1 D (.dict l)))
noncomputable def stepDi (ρ:Rho)(ks:List (Option PySem.Expr))(vs:List PySem.Expr)(pos:Pos)(σ:Sig)(Q:PV)(X:PX):Prop:=
 match dictFine ks vs with
 | true=>w.p ρ ks vs pos σ (kDict Q) X
 | false=>Leaf (EvG c N env ρ (.Dict ks vs pos) σ Q X)
noncomputable def kIfE (ρ:Rho)(a b:PySem.Expr)(Q:PV)(X:PX):Bool→Sig→Prop:=fun y σ1=>Br y (w.e ρ a σ1 Q X) (w.e ρ b σ1 Q X)
noncomputable def stepE (ρ:Rho)(e:PySem.Expr)(σ:Sig)(Q:PV)(X:PX):Prop:=
 match e with
 | .Constant k kk pos=>stepK c N env ρ k kk pos σ Q X
 | .Name x pos=>stepN c N env tab kinds ρ x pos σ Q X
 | .Tuple es _ pos=>w.a ρ es pos σ (kTup Q) X
 | .List es pos=>w.a ρ es pos σ (kList Q) X
 | .BinOp l op r _=>w.e ρ l σ (kBin1 c N w ρ r op Q X) X
 | .Compare l ops rs pos=>stepCmp c N env w ρ l ops rs pos σ Q X
 | .Call f args kws pos=>match kws with
  | []=>stepC c N env K w ρ f args pos σ Q X
  | _::_=>Leaf (EvG c N env ρ e σ Q X)
 | .Attribute o name pos=>stepAt c N env w ρ o name pos σ Q X
 | .Subscript v i _=>stepSub c N w ρ v i σ Q X
 | .IfExp t a b _=>w.t ρ t σ (kIfE w ρ a b Q X) X
 | .UnaryOp op x pos=>stepUn c N env w ρ op x pos σ Q X
 | .BoolOp op es pos=>stepBo c N env w ρ op es pos σ Q X
 | .Dict ks vs pos=>stepDi c N env w ρ ks vs pos σ Q X
 | _=>Leaf (EvG c N env ρ e σ Q X)
noncomputable def kCons (QL:List V→Sig→Prop)(v:V):List V→Sig→Prop:=fun vs σ2=>QL (v::vs) σ2
noncomputable def kArg (ρ:Rho)(es:List PySem.Expr)(pos:Pos)(QL:List V→Sig→Prop)(X:PX):V→Sig→Prop:=fun v σ1=>w.a ρ es pos σ1 (kCons QL v) X
noncomputable def stepA (ρ:Rho)(es:List PySem.Expr)(pos:Pos)(σ:Sig)(QL:List V→Sig→Prop)(X:PX):Prop:=
 match es with
 | []=>QL [] σ
 | e::es'=>match isStar e with
  | true=>Leaf (ArgsG c N env ρ es pos σ QL X)
  | false=>w.e ρ e σ (kArg w ρ es' pos QL X) X
noncomputable def kPair (KQ:List (Str×V)→Sig→Prop)(x:Str)(u:V):List (Str×V)→Sig→Prop:=fun l σ3=>KQ ((x,u)::l) σ3
noncomputable def kVal (ρ:Rho)(ks:List (Option PySem.Expr))(vs:List PySem.Expr)(pos:Pos)(KQ:List (Str×V)→Sig→Prop)(X:PX)(x:Str):V→Sig→Prop:=fun u σ2=>w.p ρ ks vs pos σ2 (kPair KQ x u) X
noncomputable def kKey (ρ:Rho)(v:PySem.Expr)(ks:List (Option PySem.Expr))(vs:List PySem.Expr)(pos:Pos)(KQ:List (Str×V)→Sig→Prop)(X:PX):V→Sig→Prop:=fun a σ1=>match a with | .str x=>w.e ρ v σ1 (kVal w ρ ks vs pos KQ X x) X | _=>False
noncomputable def stepP (ρ:Rho)(ks:List (Option PySem.Expr))(vs:List PySem.Expr)(pos:Pos)(σ:Sig)(KQ:List (Str×V)→Sig→Prop)(X:PX):Prop:=
 match ks with
 | []=>match vs with
  | []=>KQ [] σ
  | _::_=>Leaf (PairsG c N env ρ ks vs pos σ KQ X)
 | k::ks'=>match k with
  | none=>Leaf (PairsG c N env ρ ks vs pos σ KQ X)
  | some k=>match vs with
   | []=>Leaf (PairsG c N env ρ ks vs pos σ KQ X)
   | v::vs'=>w.e ρ k σ (kKey w ρ v ks' vs' pos KQ X) X
noncomputable def plainT (e:PySem.Expr):Bool:=Nat.beq e.ctorIdx 23||(Nat.beq e.ctorIdx 16||(Nat.beq e.ctorIdx 20||Nat.beq e.ctorIdx 21))
noncomputable def kBool (BQ:Bool→Sig→Prop):V→Sig→Prop:=fun v σ3=>match v with | .bool b=>BQ b σ3 | _=>False
noncomputable def kTc2 (op:CmpOp)(BQ:Bool→Sig→Prop)(X:PX)(a:V):V→Sig→Prop:=fun b σ2=>Leaf (Op2 c N σ2 a b (compareOp op) (kBool BQ) X)
noncomputable def kTc1 (ρ:Rho)(r:PySem.Expr)(op:CmpOp)(BQ:Bool→Sig→Prop)(X:PX):V→Sig→Prop:=fun a σ1=>w.e ρ r σ1 (kTc2 c N op BQ X a) X
noncomputable def stepTc (ρ:Rho)(l:PySem.Expr)(ops:List CmpOp)(rs:List PySem.Expr)(pos:Pos)(σ:Sig)(BQ:Bool→Sig→Prop)(X:PX):Prop:=
 match cmpForm ops rs with
 | none=>Leaf (TG c N env ρ (.Compare l ops rs pos) σ BQ X)
 | some p=>w.e ρ l σ (kTc1 c N w ρ p.2 p.1 BQ X) X
noncomputable def kTand (ρ:Rho)(es:List PySem.Expr)(pos:Pos)(BQ:Bool→Sig→Prop)(X:PX):Bool→Sig→Prop:=fun b σ1=>Br b (w.t ρ (.BoolOp .And es pos) σ1 BQ X) (BQ false σ1)
noncomputable def kTor (ρ:Rho)(es:List PySem.Expr)(pos:Pos)(BQ:Bool→Sig→Prop)(X:PX):Bool→Sig→Prop:=fun b σ1=>Br b (BQ true σ1) (w.t ρ (.BoolOp .Or es pos) σ1 BQ X)
noncomputable def stepTb (ρ:Rho)(op:BoolOp)(es:List PySem.Expr)(pos:Pos)(σ:Sig)(BQ:Bool→Sig→Prop)(X:PX):Prop:=
 match es with
 | []=>match op with | .And=>BQ true σ | .Or=>BQ false σ
 | x::es'=>match op with
  | .And=>w.t ρ x σ (kTand w ρ es' pos BQ X) X
  | .Or=>w.t ρ x σ (kTor w ρ es' pos BQ X) X
noncomputable def notForm (op:UnaryOp)(x:PySem.Expr):Option PySem.Expr:=match op with | .Not=>some x | _=>none
noncomputable def kTnot (BQ:Bool→Sig→Prop):Bool→Sig→Prop:=fun b σ1=>BQ (!b) σ1
noncomputable def stepT (ρ:Rho)(e:PySem.Expr)(σ:Sig)(BQ:Bool→Sig→Prop)(X:PX):Prop:=
 match e with
 | .Compare l ops rs pos=>stepTc c N env w ρ l ops rs pos σ BQ X
 | .BoolOp op es pos=>stepTb w ρ op es pos σ BQ X
 | .UnaryOp op x pos=>match notForm op x with
  | some x=>w.t ρ x σ (kTnot BQ) X
  | none=>Leaf (TG c N env ρ e σ BQ X)
 | _=>match plainT e with
  | true=>w.e ρ e σ (kBool BQ) X
  | false=>Leaf (TG c N env ρ e σ BQ X)
noncomputable def kTake (t:PySem.Expr)(ρ:Rho)(SQ:PF):V→Sig→Prop:=fun v σ'=>take t v ρ fun ρ'=>SQ .next ρ' σ'
noncomputable def stepTu (ρ:Rho)(t e:PySem.Expr)(pos:Pos)(σ:Sig)(SQ:PF)(SX:PE):Prop:=
 match isTupD e with
 | true=>Leaf (StG c N env ρ (.Assign [t] e pos) σ SQ SX)
 | false=>match N.hn with
  | true=>w.e ρ e σ (kTake t ρ SQ) (atX SX ρ)
  | false=>Leaf (StG c N env ρ (.Assign [t] e pos) σ SQ SX)
noncomputable def kPut (x:Str)(ρ:Rho)(SQ:PF):V→Sig→Prop:=fun v σ'=>put x v ρ fun ρ'=>SQ .next ρ' σ'
noncomputable def kSet2 (name:Str)(ρ:Rho)(SQ:PF)(SX:PE)(v:V):V→Sig→Prop:=fun a σ2=>Leaf (SetOp c N σ2 a name v (nextQ SQ ρ) (atX SX ρ))
noncomputable def kSet1 (ρ:Rho)(o:PySem.Expr)(name:Str)(SQ:PF)(SX:PE):V→Sig→Prop:=fun v σ1=>w.e ρ o σ1 (kSet2 c N name ρ SQ SX v) (atX SX ρ)
noncomputable def kSto3 (ρ:Rho)(SQ:PF)(SX:PE)(v a:V):V→Sig→Prop:=fun k σ3=>Leaf (StoreOp c N σ3 a k v (nextQ SQ ρ) (atX SX ρ))
noncomputable def kSto2 (ρ:Rho)(i:PySem.Expr)(SQ:PF)(SX:PE)(v:V):V→Sig→Prop:=fun a σ2=>w.e ρ i σ2 (kSto3 c N ρ SQ SX v a) (atX SX ρ)
noncomputable def kSto1 (ρ:Rho)(o i:PySem.Expr)(SQ:PF)(SX:PE):V→Sig→Prop:=fun v σ1=>w.e ρ o σ1 (kSto2 c N w ρ i SQ SX v) (atX SX ρ)
noncomputable def stepAs (ρ:Rho)(t e:PySem.Expr)(pos:Pos)(σ:Sig)(SQ:PF)(SX:PE):Prop:=
 match isComp e with
 | true=>Leaf (StG c N env ρ (.Assign [t] e pos) σ SQ SX)
 | false=>match t with
  | .Name x _=>w.e ρ e σ (kPut x ρ SQ) (atX SX ρ)
  | .Attribute o name _=>w.e ρ e σ (kSet1 c N w ρ o name SQ SX) (atX SX ρ)
  | .Subscript o i _=>w.e ρ e σ (kSto1 c N w ρ o i SQ SX) (atX SX ρ)
  | .Tuple es k p=>stepTu c N env w ρ (.Tuple es k p) e pos σ SQ SX
  | _=>Leaf (StG c N env ρ (.Assign [t] e pos) σ SQ SX)
noncomputable def kRet (ρ:Rho)(SQ:PF):V→Sig→Prop:=fun v σ'=>SQ (.ret v) ρ σ'
noncomputable def kExp (ρ:Rho)(SQ:PF):V→Sig→Prop:=fun _ σ'=>SQ .next ρ σ'
noncomputable def stepRe (ρ:Rho)(eo:Option PySem.Expr)(pos:Pos)(σ:Sig)(SQ:PF)(SX:PE):Prop:=
 match eo with
 | some e=>w.e ρ e σ (kRet ρ SQ) (atX SX ρ)
 | none=>Leaf (StG c N env ρ (.Return eo pos) σ SQ SX)
noncomputable def stepEx (ρ:Rho)(e:PySem.Expr)(pos:Pos)(σ:Sig)(SQ:PF)(SX:PE):Prop:=
 match isComp e with
 | true=>Leaf (StG c N env ρ (.Expr e pos) σ SQ SX)
 | false=>w.e ρ e σ (kExp ρ SQ) (atX SX ρ)
noncomputable def oneForm (ts:List PySem.Expr):Option PySem.Expr:=match ts with | []=>none | t::ts=>match ts with | []=>some t | _::_=>none
noncomputable def stepA1 (ρ:Rho)(ts:List PySem.Expr)(e:PySem.Expr)(pos:Pos)(σ:Sig)(SQ:PF)(SX:PE):Prop:=
 match oneForm ts with
 | some t=>stepAs c N env w ρ t e pos σ SQ SX
 | none=>Leaf (StG c N env ρ (.Assign ts e pos) σ SQ SX)
noncomputable def kIf (ρ:Rho)(b1 b2:List Stmt)(SQ:PF)(SX:PE):Bool→Sig→Prop:=fun y σ1=>Br y (w.s ρ b1 σ1 SQ SX) (w.s ρ b2 σ1 SQ SX)
noncomputable def stepSt (ρ:Rho)(st:Stmt)(σ:Sig)(SQ:PF)(SX:PE):Prop:=
 match st with
 | .Return eo pos=>stepRe c N env w ρ eo pos σ SQ SX
 | .Expr e pos=>stepEx c N env w ρ e pos σ SQ SX
 | .If t b1 b2 _=>w.t ρ t σ (kIf w ρ b1 b2 SQ SX) (atX SX ρ)
 | .Pass _=>SQ .next ρ σ
 | .Assign ts e pos=>stepA1 c N env w ρ ts e pos σ SQ SX
 | _=>Leaf (StG c N env ρ st σ SQ SX)
noncomputable def kSeq (rest:List Stmt)(SQ:PF)(SX:PE):GF→Rho→Sig→Prop:=fun f ρ' σ'=>match f with | .next=>w.s ρ' rest σ' SQ SX | .ret v=>SQ (.ret v) ρ' σ'
noncomputable def stepS (ρ:Rho)(ss:List Stmt)(σ:Sig)(SQ:PF)(SX:PE):Prop:=
 match ss with
 | []=>SQ .next ρ σ
 | st::rest=>stepSt c N env w ρ st σ (kSeq w rest SQ SX) SX
end
noncomputable def vW (c:Cx)(N:Lv)(env:Env)(K:Frag)(tab:List (Str×Option Value))(kinds:List (Str×NameKind)):Nat→W
 | 0=>W.zero c N env
 | k+1=>let w:=vW c N env K tab kinds k;⟨stepE c N env K tab kinds w,stepA c N env w,stepP c N env w,stepT c N env w,stepS c N env w⟩
noncomputable def retQ (Q:PV):GF→Rho→Sig→Prop:=fun fl _ σ'=>Leaf (∃ σ'',Sub σ'' σ'∧Q (outV fl) σ'')
noncomputable def retX (X:PX):Exn→Rho→Sig→Prop:=fun ex _ σ'=>∃ σ'',Sub σ'' σ'∧X ex σ''
noncomputable def kInv (Inv:List V→Rho→Sig→Prop)(l:List V)(SQ:PF):GF→Rho→Sig→Prop:=fun f ρ3 σ3=>match f with | .next=>Leaf (Inv l ρ3 σ3) | .ret v=>SQ (.ret v) ρ3 σ3
end Mine
namespace Mine
variable [Membership Addr Zip0]
section
variable {c:Cx}{N:Lv}{env:Env}{K:Frag}{tab:List (Str×Option Value)}{kinds:List (Str×NameKind)}{w:W}{ρ:Rho}{σ:Sig}{Q:PV}{X:PX}
theorem keepB_ok (hc:c.K=K){f:Value}(h:keepB K f=true):Kee c σ f:=by
 cases f with
 | builtin b=>exact .builtin
 | type t=>exact .type
 | ref a=>exact .K (by rw[hc];exact h)
 | _=>cases h
theorem callL_ok (hc:c.K=K){f:Value}{vs:List V}(h:callL c K N σ f vs Q X):Kee c σ f∧CallOp c N σ f vs Q X:=by
 unfold callL at h
 cases e:keepB K f with
 | true=>rw[e] at h;exact⟨keepB_ok hc e,h.h⟩
 | false=>rw[e] at h;exact h.h
theorem callL_mk {f:Value}{vs:List V}(h:Kee c σ f∧CallOp c N σ f vs Q X):callL c K N σ f vs Q X:=by
 unfold callL
 cases keepB K f with
 | true=>exact⟨h.2⟩
 | false=>exact⟨h⟩
theorem kPart_ok {PQ:Option Int→Sig→Prop}{v:V}{σ1:Sig}(q:kPart PQ v σ1):∃ i,v=.int i∧PQ (some i) σ1:=by
 cases v with
 | int i=>exact⟨i,rfl,q⟩
 | _=>exact q.elim
theorem partK_ok (S:WS c N env w){o:Option PySem.Expr}{PQ:Option Int→Sig→Prop}(h:partK w ρ o σ PQ X):PartG c N env ρ o σ PQ X:=by
 unfold partK at h
 cases o with
 | none=>exact Pt_none h
 | some e=>exact Pt_some (Gm (S.e h) fun v σ' q=>kPart_ok q)
theorem kFun_ok {args:List PySem.Expr}{pos:Pos}{v:V}{σ1:Sig}(q:kFun c N K w ρ args pos Q X v σ1):∃ f,v=.raw f∧w.a ρ args pos σ1 (kCallF c N K f Q X) X:=by
 cases v with
 | raw f=>exact⟨f,rfl,q⟩
 | _=>exact q.elim
theorem noSome {α:Type _}{a:α}(h:Option.none=some a):False:=by cases h
theorem attrForm_ok {f:PySem.Expr}{p:PySem.Expr×Str×Pos}(h:attrForm f=some p):f=.Attribute p.1 p.2.1 p.2.2:=by
 cases f with
 | Attribute o name q=>cases h;rfl
 | _=>exact (noSome h).elim
theorem isNameE_ok {f:PySem.Expr}(h:isNameE f=true):∃ x p,f=.Name x p:=by
 cases f with
 | Name x p=>exact⟨x,p,rfl⟩
 | _=>exact (Bool.false_ne_true h).elim
theorem stepC_ok (S:WS c N env w)(hc:c.K=K){f:PySem.Expr}{args:List PySem.Expr}{pos:Pos}(h:stepC c N env K w ρ f args pos σ Q X):EvG c N env ρ (.Call f args [] pos) σ Q X:=by
 unfold stepC at h
 cases hn:noStar args with
 | false=>rw[hn] at h;exact h.h
 | true=>
  rw[hn] at h
  cases ha:attrForm f with
  | some p=>
   rw[ha] at h
   have e:=attrForm_ok ha
   cases i:isCallE p.1 with
   | true=>simp only[i] at h;exact h.h
   | false=>
    simp only[i] at h
    cases m:methFine args p.2.2 pos with
    | false=>rw[m] at h;exact h.h
    | true=>
     rw[m] at h
     subst e
     exact G_meth (Gm (S.e h) fun v σ' q=>q.h.imp fun fv q=>⟨q.1,Gm (S.a q.2) fun vs σ2 q=>callL_ok hc q⟩) (meth_eq i hn m) (noStar_ok hn)
  | none=>
   rw[ha] at h
   cases i:isNameE f with
   | false=>simp only[i] at h;exact h.h
   | true=>
    simp only[i] at h
    refine el76 (isNameE_ok i) ?_;intro x p e
    subst e
    exact G_call (Gm (S.e h) fun v σ' q=>(kFun_ok q).imp fun fv q=>⟨q.1,Gm (S.a q.2) fun vs σ2 q=>callL_ok hc q⟩) rfl (noStar_ok hn)
theorem stepK_ok {k:Const}{kk:Nat}{pos:Pos}(h:stepK c N env ρ k kk pos σ Q X):EvG c N env ρ (.Constant k kk pos) σ Q X:=by
 unfold stepK at h
 cases k with
 | int i=>exact G_int h
 | none=>exact G_none h
 | bool b=>exact G_bool h
 | str x=>
  cases e:strFine x with
  | true=>simp only[e] at h;exact G_str h (strFine_ok e)
  | false=>simp only[e] at h;exact h.h
 | _=>exact h.h
theorem glob_ok (hmg:∀ {x v},(x,v)∈tab→c.mg x=v)(hk:env.scope.names=kinds){x:Str}{p:Pos}{v:Value}(hd:(x==("__debug__" : Str))=false)(g:globV tab kinds x=some v)(q:Q (.raw v) σ):EvG c N env ρ (.Name x p) σ Q X:=by
 unfold globV at g
 cases l:lookS x kinds with
 | none=>rw[l] at g;cases g
 | some k=>
  rw[l] at g
  cases k with
  | globalImplicit=>
   have hkk:env.kindOf x=some .globalImplicit:=by unfold Env.kindOf;rw[hk];exact lookS_lookup l
   cases t:lookS x tab with
   | none=>simp only[t] at g;cases g
   | some o=>
    simp only[t] at g
    cases o with
    | some u=>cases g;exact G_glob (hmg (lookS_mem t)) q hkk hd
    | none=>exact G_builtin (hmg (lookS_mem t)) (bt_ok (lookS_mem g)) q (btab_name (lookS_mem g)) hkk hd
  | _=>cases g
theorem stepN_ok (hmg:∀ {x v},(x,v)∈tab→c.mg x=v)(hk:env.scope.names=kinds){x:Str}{p:Pos}(h:stepN c N env tab kinds ρ x p σ Q X):EvG c N env ρ (.Name x p) σ Q X:=by
 unfold stepN at h
 cases e:eqS x ("__debug__" : Str) with
 | true=>rw[e] at h;exact h.h
 | false=>
  rw[e] at h
  have hd:(x==("__debug__" : Str))=false:=by
   cases q:x==("__debug__" : Str) with
   | false=>rfl
   | true=>rw[eq_of_beq q,eqS_refl] at e;cases e
  refine (fnd_ok h).elim (fun m=>m.elim fun v m=>G_var m.1 m.2 hd) fun q=>?_
  cases g:globV tab kinds x with
  | none=>rw[g] at q;exact q.h
  | some v=>rw[g] at q;exact glob_ok hmg hk hd g q
theorem fits_ok {vs:List V}{p:Prop}(h:fits vs p):vs.length≤1000000∧p:=by
 unfold fits at h
 cases e:Nat.ble vs.length 1000 with
 | true=>rw[e] at h;exact⟨Nat.le_trans (Nat.le_of_ble_eq_true e) (by decide),h⟩
 | false=>rw[e] at h;exact h.elim
theorem cmpForm_ok {ops:List CmpOp}{rs:List PySem.Expr}{p:CmpOp×PySem.Expr}(h:cmpForm ops rs=some p):ops=[p.1]∧rs=[p.2]∧behindInMarks p.1 p.2=false:=by
 match ops,rs,h with
 | [op],[r],h=>
  simp only[cmpForm] at h
  cases e:isSet r with
  | true=>rw[e] at h;cases h
  | false=>rw[e] at h;cases h;exact⟨rfl,rfl,marks_no e⟩
theorem stepCmp_ok (S:WS c N env w){l:PySem.Expr}{ops:List CmpOp}{rs:List PySem.Expr}{pos:Pos}(h:stepCmp c N env w ρ l ops rs pos σ Q X):EvG c N env ρ (.Compare l ops rs pos) σ Q X:=by
 unfold stepCmp at h
 cases e:cmpForm ops rs with
 | none=>rw[e] at h;exact h.h
 | some p=>
  rw[e] at h
  refine el77 (cmpForm_ok e) ?_;intro ze283 ze284 hm;subst ze283;subst ze284
  exact G_cmp (Gm (S.e h) fun a σ1 q=>Gm (S.e q) fun b σ2 q=>q.h) hm
theorem stepAt_ok (S:WS c N env w){o:PySem.Expr}{name:Str}{pos:Pos}(h:stepAt c N env w ρ o name pos σ Q X):EvG c N env ρ (.Attribute o name pos) σ Q X:=by
 unfold stepAt at h
 cases i:isCallE o with
 | true=>rw[i] at h;exact h.h
 | false=>
  rw[i] at h
  refine G_attr (Gm (S.e h) fun a σ1 q=>q.h) ?_
  show (do
   let o' ← attributeBase o name env (eval o env)
   standAt pos.atName
   let r ← holding [o'] (getAttr o' name true)
   letTemporaryGo o o' r
   pure r)=_
  rw[attrBase i]
theorem sliceForm_ok {i:PySem.Expr}{p:Option PySem.Expr×Option PySem.Expr×Option PySem.Expr}(h:sliceForm i=some p):∃ pos,i=.Slice p.1 p.2.1 p.2.2 pos:=by
 cases i with
 | Slice lo hi st pos=>cases h;exact⟨pos,rfl⟩
 | _=>exact (noSome h).elim
theorem stepSub_ok (S:WS c N env w){v i:PySem.Expr}{pos:Pos}(h:stepSub c N w ρ v i σ Q X):EvG c N env ρ (.Subscript v i pos) σ Q X:=by
 unfold stepSub at h
 cases e:sliceForm i with
 | none=>rw[e] at h;exact G_sub (Gm (S.e h) fun a σ1 q=>Gm (S.e q) fun b σ2 q=>q.h)
 | some p=>
  rw[e] at h
  obtain ⟨p',rfl⟩:=sliceForm_ok e
  exact G_slice (Gm (S.e h) fun a σ1 q=>Gm (partK_ok S q) fun l σ2 q=>Gm (partK_ok S q) fun u σ3 q=>Gm (partK_ok S q) fun k σ4 q=>q.h)
theorem kNot_ok {v:V}{σ1:Sig}(q:kNot Q v σ1):∃ b,v=.bool b∧Q (.bool (!b)) σ1:=by
 cases v with
 | bool b=>exact⟨b,rfl,q⟩
 | _=>exact q.elim
theorem kNeg_ok {v:V}{σ1:Sig}(q:kNeg Q v σ1):∃ i,v=.int i∧Q (.int (-i)) σ1:=by
 cases v with
 | int i=>exact⟨i,rfl,q⟩
 | _=>exact q.elim
theorem stepUn_ok (S:WS c N env w){op:UnaryOp}{x:PySem.Expr}{pos:Pos}(h:stepUn c N env w ρ op x pos σ Q X):EvG c N env ρ (.UnaryOp op x pos) σ Q X:=by
 cases op with
 | Not=>exact G_not (Gm (S.e h) fun v σ1 q=>kNot_ok q)
 | USub=>exact G_neg (Gm (S.e h) fun v σ1 q=>kNeg_ok q)
 | _=>exact h.h
theorem twoForm_ok {op:BoolOp}{es:List PySem.Expr}{p:PySem.Expr×PySem.Expr}(h:twoForm op es=some p):op=.And∧es=[p.1,p.2]:=by
 match op,es,h with
 | .And,[x,y],h=>cases h;exact⟨rfl,rfl⟩
theorem kAnd2_ok {y:PySem.Expr}{v:V}{σ1:Sig}(q:kAnd2 w ρ y Q X v σ1):∃ b,v=.bool b∧Br b (w.e ρ y σ1 Q X) (Q (.bool false) σ1):=by
 cases v with
 | bool b=>exact⟨b,rfl,q⟩
 | _=>exact q.elim
theorem stepBo_ok (S:WS c N env w){op:BoolOp}{es:List PySem.Expr}{pos:Pos}(h:stepBo c N env w ρ op es pos σ Q X):EvG c N env ρ (.BoolOp op es pos) σ Q X:=by
 unfold stepBo at h
 cases e:twoForm op es with
 | none=>rw[e] at h;exact h.h
 | some p=>
  rw[e] at h
  obtain ⟨rfl,rfl⟩:=twoForm_ok e
  exact G_and2 (Gm (S.e h) fun v σ1 q=>(kAnd2_ok q).imp fun b q=>⟨q.1,by
   cases b with
   | true=>exact S.e (q.2.t rfl)
   | false=>exact q.2.f rfl⟩)
theorem stepDi_ok (S:WS c N env w){ks:List (Option PySem.Expr)}{vs:List PySem.Expr}{pos:Pos}(h:stepDi c N env w ρ ks vs pos σ Q X):EvG c N env ρ (.Dict ks vs pos) σ Q X:=by
 unfold stepDi at h
 cases e:dictFine ks vs with
 | false=>rw[e] at h;exact h.h
 | true=>
  rw[e] at h
  cases ks with
  | nil=>cases e
  | cons k ks=>
   unfold dictFine at e
   simp only[Bool.and_eq_true] at e
   exact G_dict e.1 (Nat.eq_of_beq_eq_true e.2.1) (List.cons_ne_nil _ _) (Nat.le_of_ble_eq_true e.2.2) (Gm (S.p h) fun l σ1 q=>q.h)
theorem stepE_ok (S:WS c N env w)(hc:c.K=K)(hmg:∀ {x v},(x,v)∈tab→c.mg x=v)(hk:env.scope.names=kinds):∀ {e:PySem.Expr},stepE c N env K tab kinds w ρ e σ Q X→EvG c N env ρ e σ Q X:=fun {e}=>by
 cases e with
 | Constant k kk pos=>exact stepK_ok
 | Name x p=>exact stepN_ok hmg hk
 | Tuple es k pos=>exact fun h=>G_tuple (Gm (S.a h) fun vs σ1 q=>fits_ok q)
 | List es pos=>exact fun h=>G_list (Gm (S.a h) fun vs σ1 q=>(fits_ok q).imp id fun q=>q.h)
 | BinOp l op r pos=>exact fun h=>G_bin (Gm (S.e h) fun a σ1 q=>Gm (S.e q) fun b σ2 q=>q.h)
 | Compare l ops rs pos=>exact stepCmp_ok S
 | Call f args kws pos=>
  cases kws with
  | nil=>exact stepC_ok S hc
  | cons _ _=>exact Leaf.h
 | Attribute o name pos=>exact stepAt_ok S
 | Subscript v i pos=>exact stepSub_ok S
 | IfExp t a b pos=>exact fun h=>G_ifexp (Gm (S.t h) fun y σ1 q=>by
  cases y with
  | true=>exact S.e (q.t rfl)
  | false=>exact S.e (q.f rfl))
 | UnaryOp op x pos=>exact stepUn_ok S
 | BoolOp op es pos=>exact stepBo_ok S
 | Dict ks vs pos=>exact stepDi_ok S
 | _=>exact Leaf.h
theorem stepA_ok (S:WS c N env w){es:List PySem.Expr}{pos:Pos}{QL:List V→Sig→Prop}(h:stepA c N env w ρ es pos σ QL X):ArgsG c N env ρ es pos σ QL X:=by
 cases es with
 | nil=>exact G_args_nil h
 | cons e es=>
  unfold stepA at h
  cases q:isStar e with
  | true=>simp only[q] at h;exact h.h
  | false=>simp only[q] at h;exact G_args_cons (Gm (S.e h) fun v σ1 q=>S.a q) (star_no q)
theorem kKey_ok {v:PySem.Expr}{ks:List (Option PySem.Expr)}{vs:List PySem.Expr}{pos:Pos}{KQ:List (Str×V)→Sig→Prop}{a:V}{σ1:Sig}(q:kKey w ρ v ks vs pos KQ X a σ1):∃ x,a=.str x∧w.e ρ v σ1 (kVal w ρ ks vs pos KQ X x) X:=by
 cases a with
 | str x=>exact⟨x,rfl,q⟩
 | _=>exact q.elim
theorem stepP_ok (S:WS c N env w){ks:List (Option PySem.Expr)}{vs:List PySem.Expr}{pos:Pos}{KQ:List (Str×V)→Sig→Prop}(h:stepP c N env w ρ ks vs pos σ KQ X):PairsG c N env ρ ks vs pos σ KQ X:=by
 cases ks with
 | nil=>
  cases vs with
  | nil=>exact G_pairs_nil h
  | cons _ _=>exact h.h
 | cons k ks=>
  cases k with
  | none=>exact h.h
  | some k=>
   cases vs with
   | nil=>exact h.h
   | cons v vs=>exact G_pairs_cons (Gm (S.e h) fun a σ1 q=>(kKey_ok q).imp fun x q=>⟨q.1,Gm (S.e q.2) fun u σ2 q=>S.p q⟩)
theorem plainT_ok {e:PySem.Expr}(h:plainT e=true):isTrue e env (eval e env)=(do let v ← eval e env;standAt e.pos;holding [v] (truthy v)):=by
 cases e <;> first | rfl | cases h
theorem kBool_ok {BQ:Bool→Sig→Prop}{v:V}{σ1:Sig}(q:kBool BQ v σ1):∃ b,v=.bool b∧BQ b σ1:=by
 cases v with
 | bool b=>exact⟨b,rfl,q⟩
 | _=>exact q.elim
theorem stepTc_ok (S:WS c N env w){l:PySem.Expr}{ops:List CmpOp}{rs:List PySem.Expr}{pos:Pos}{BQ:Bool→Sig→Prop}(h:stepTc c N env w ρ l ops rs pos σ BQ X):TG c N env ρ (.Compare l ops rs pos) σ BQ X:=by
 unfold stepTc at h
 cases e:cmpForm ops rs with
 | none=>rw[e] at h;exact h.h
 | some p=>
  rw[e] at h
  refine el77 (cmpForm_ok e) ?_;intro ze285 ze286 hm;subst ze285;subst ze286
  exact T_cmp (Gm (S.e h) fun a σ1 q=>Gm (S.e q) fun b σ2 q=>Op2m q.h fun v σ3 q=>kBool_ok q) hm
theorem stepTb_ok (S:WS c N env w){op:BoolOp}{es:List PySem.Expr}{pos:Pos}{BQ:Bool→Sig→Prop}(h:stepTb w ρ op es pos σ BQ X):TG c N env ρ (.BoolOp op es pos) σ BQ X:=by
 cases es with
 | nil=>
  cases op with
  | And=>exact T_and_nil h
  | Or=>exact T_or_nil h
 | cons x xs=>
  cases op with
  | And=>exact T_and (Gm (S.t h) fun b σ1 q=>by
   cases b with
   | true=>exact S.t (q.t rfl)
   | false=>exact q.f rfl)
  | Or=>exact T_or (Gm (S.t h) fun b σ1 q=>by
   cases b with
   | true=>exact q.t rfl
   | false=>exact S.t (q.f rfl))
theorem plain_ok (S:WS c N env w){e:PySem.Expr}(hp:plainT e=true){BQ:Bool→Sig→Prop}(h:w.e ρ e σ (kBool BQ) X):TG c N env ρ e σ BQ X:=T_plain (Gm (S.e h) fun v σ1 q=>kBool_ok q) (plainT_ok hp)
theorem stepT_ok (S:WS c N env w){BQ:Bool→Sig→Prop}:∀ {e:PySem.Expr},stepT c N env w ρ e σ BQ X→TG c N env ρ e σ BQ X:=fun {e}=>by
 cases e with
 | Compare l ops rs pos=>exact stepTc_ok S
 | BoolOp op es pos=>exact stepTb_ok S
 | UnaryOp op x pos=>
  cases op with
  | Not=>exact fun h=>T_not (S.t h)
  | _=>exact Leaf.h
 | Name x p=>exact plain_ok S rfl
 | Call f a k p=>exact plain_ok S rfl
 | Attribute o n p=>exact plain_ok S rfl
 | Subscript o n p=>exact plain_ok S rfl
 | _=>exact Leaf.h
variable {SQ:PF}{SX:PE}
theorem swapped_no {es:List PySem.Expr}{k:Nat}{p:Pos}{e:PySem.Expr}(d:isTupD e=false):swappedStores [.Tuple es k p] e env=pure none:=by
 cases e <;> first | rfl | cases d
theorem stepTu_ok (S:WS c N env w){es:List PySem.Expr}{k:Nat}{p:Pos}{e:PySem.Expr}{pos:Pos}(i:isComp e=false)(h:stepTu c N env w ρ (.Tuple es k p) e pos σ SQ SX):StG c N env ρ (.Assign [.Tuple es k p] e pos) σ SQ SX:=by
 unfold stepTu at h
 cases d:isTupD e with
 | true=>rw[d] at h;exact h.h
 | false=>
  rw[d] at h
  cases n:N.hn with
  | false=>simp only[n] at h;exact h.h
  | true=>
   simp only[n] at h
   exact S_assign_tup n (Gm (S.e h) fun v σ' q=>take_ok q) (show swapsWith e (some (.Tuple es k p)) pos.line env=pure false from swaps_no i) (swapped_no d)
theorem stepAs_ok (S:WS c N env w){t e:PySem.Expr}{pos:Pos}(h:stepAs c N env w ρ t e pos σ SQ SX):StG c N env ρ (.Assign [t] e pos) σ SQ SX:=by
 unfold stepAs at h
 cases i:isComp e with
 | true=>rw[i] at h;exact h.h
 | false=>
  rw[i] at h
  revert h
  cases t with
  | Name x p=>exact fun h=>S_assign (Gm (S.e h) fun v σ' q=>put_ok q) (swaps_no i)
  | Attribute o name p=>exact fun h=>S_setattr (Gm (S.e h) fun v σ1 q=>Gm (S.e q) fun a σ2 q=>q.h) (swaps_no i)
  | Subscript o j p=>exact fun h=>S_store (Gm (S.e h) fun v σ1 q=>Gm (S.e q) fun a σ2 q=>Gm (S.e q) fun k σ3 q=>q.h) (swaps_no i)
  | Tuple es k p=>exact stepTu_ok S i
  | _=>exact Leaf.h
theorem stepRe_ok (S:WS c N env w){eo:Option PySem.Expr}{pos:Pos}(h:stepRe c N env w ρ eo pos σ SQ SX):StG c N env ρ (.Return eo pos) σ SQ SX:=by
 cases eo with
 | some e=>exact S_ret (S.e h)
 | none=>exact h.h
theorem stepEx_ok (S:WS c N env w)(hi:interactive env=false){e:PySem.Expr}{pos:Pos}(h:stepEx c N env w ρ e pos σ SQ SX):StG c N env ρ (.Expr e pos) σ SQ SX:=by
 unfold stepEx at h
 cases i:isComp e with
 | true=>rw[i] at h;exact h.h
 | false=>rw[i] at h;exact S_expr (S.e h) hi (swaps_no i)
theorem stepA1_ok (S:WS c N env w){ts:List PySem.Expr}{e:PySem.Expr}{pos:Pos}(h:stepA1 c N env w ρ ts e pos σ SQ SX):StG c N env ρ (.Assign ts e pos) σ SQ SX:=by
 cases ts with
 | nil=>exact h.h
 | cons t ts=>
  cases ts with
  | nil=>exact stepAs_ok S h
  | cons _ _=>exact h.h
theorem stepSt_ok (S:WS c N env w)(hi:interactive env=false):∀ {st:Stmt},stepSt c N env w ρ st σ SQ SX→StG c N env ρ st σ SQ SX:=fun {st}=>by
 cases st with
 | Return eo pos=>exact stepRe_ok S
 | Expr e pos=>exact stepEx_ok S hi
 | If t b1 b2 pos=>exact fun h=>S_if (Gm (S.t h) fun y σ1 q=>by
  cases y with
  | true=>exact S.s (q.t rfl)
  | false=>exact S.s (q.f rfl))
 | Pass pos=>exact fun h=>S_pass h
 | Assign ts e pos=>exact stepA1_ok S
 | _=>exact Leaf.h
theorem Sm {t:Sem Flow}{SQ':PF}(g:ExG c N env ρ t σ SQ SX)(h:∀ f ρ' σ',SQ f ρ' σ'→SQ' f ρ' σ'):ExG c N env ρ t σ SQ' SX:=
 fun A s QQ EE ot a R E p xp=>g A s QQ EE ot a R E (fun f fl ρ' σ' h' tk' q=>p f fl ρ' σ' h' tk' (h f ρ' σ' q)) xp
theorem stepS_ok (S:WS c N env w)(hi:interactive env=false){ss:List Stmt}(h:stepS c N env w ρ ss σ SQ SX):SsG c N env ρ ss σ SQ SX:=by
 cases ss with
 | nil=>exact S_nil h
 | cons st rest=>
  simp only[stepS] at h
  exact S_cons (Sm (stepSt_ok S hi h) fun f ρ' σ' q=>by
   cases f with
   | next=>exact S.s q
   | ret v=>exact q)
theorem vW_ok (hc:c.K=K)(hmg:∀ {x v},(x,v)∈tab→c.mg x=v)(hk:env.scope.names=kinds)(hi:interactive env=false):∀ k,WS c N env (vW c N env K tab kinds k)
 | 0=>WS.zero c N env
 | k+1=>
  have S:=vW_ok hc hmg hk hi k
  ⟨fun h=>stepE_ok S hc hmg hk h,fun h=>stepA_ok S h,fun h=>stepP_ok S h,fun h=>stepT_ok S h,fun h=>stepS_ok S hi h⟩
end
theorem Vf {c:Cx}{N:Lv}{K:Frag}{gt:List (Str×Option Value)}{fd:FuncData}{L f:Addr}(k:Nat)(H:Gs c K gt)(hk:fd.scope.kind=.function):WS c N (callEnvC fd L f) (vW c N (callEnvC fd L f) K gt fd.scope.names k):=
 vW_ok H.hc H.mg rfl (by show (fd.scope.kind==.module&&_)=false;rw[hk];rfl) k
theorem Vf.e {c:Cx}{N:Lv}{K:Frag}{gt:List (Str×Option Value)}{fd:FuncData}{L f:Addr}{ρ:Rho}{e:PySem.Expr}{σ:Sig}{Q:PV}{X:PX}(k:Nat)(H:Gs c K gt)(hk:fd.scope.kind=.function)(h:(vW c N (callEnvC fd L f) K gt fd.scope.names k).e ρ e σ Q X):EvG c N (callEnvC fd L f) ρ e σ Q X:=(Vf k H hk).e h
theorem Vf.s {c:Cx}{N:Lv}{K:Frag}{gt:List (Str×Option Value)}{fd:FuncData}{L f:Addr}{ρ:Rho}{ss:List Stmt}{σ:Sig}{Q:PF}{X:PE}(k:Nat)(H:Gs c K gt)(hk:fd.scope.kind=.function)(h:(vW c N (callEnvC fd L f) K gt fd.scope.names k).s ρ ss σ Q X):SsG c N (callEnvC fd L f) ρ ss σ Q X:=(Vf k H hk).s h
theorem Vc {c:Cx}{N:Lv}{K:Frag}{gt:List (Str×Option Value)}{fd:FuncData}{L f C:Addr}{scope:Scope}{cl:List (Str×Addr)}(k:Nat)(H:Gs c K gt)(hk:scope.kind=.function):WS c N (compEnvC scope cl C (callEnvC fd L f)) (vW c N (compEnvC scope cl C (callEnvC fd L f)) K gt (relabel scope (callEnvC fd 0 0)).names k):=
 vW_ok H.hc H.mg rfl (by show (scope.kind==.module&&_)=false;rw[hk];rfl) k
theorem Vc.e {c:Cx}{N:Lv}{K:Frag}{gt:List (Str×Option Value)}{fd:FuncData}{L f C:Addr}{scope:Scope}{cl:List (Str×Addr)}{ρ:Rho}{e:PySem.Expr}{σ:Sig}{Q:PV}{X:PX}(k:Nat)(H:Gs c K gt)(hk:scope.kind=.function)
 (h:(vW c N (compEnvC scope cl C (callEnvC fd L f)) K gt (relabel scope (callEnvC fd 0 0)).names k).e ρ e σ Q X):EvG c N (compEnvC scope cl C (callEnvC fd L f)) ρ e σ Q X:=(Vc k H hk).e h
theorem Vc.t {c:Cx}{N:Lv}{K:Frag}{gt:List (Str×Option Value)}{fd:FuncData}{L f C:Addr}{scope:Scope}{cl:List (Str×Addr)}{ρ:Rho}{e:PySem.Expr}{σ:Sig}{BQ:Bool→Sig→Prop}(k:Nat)(H:Gs c K gt)(hk:scope.kind=.function)
 (h:(vW c N (compEnvC scope cl C (callEnvC fd L f)) K gt (relabel scope (callEnvC fd 0 0)).names k).t ρ e σ BQ NoX):CompT c N (compEnvC scope cl C (callEnvC fd L f)) ρ σ BQ [e]:=(Vc k H hk).t h
noncomputable def kIt (c:Cx)(N:Lv)(g:Value)(K:IK):List V→Sig→Prop:=fun vs σ2=>Leaf (Kee c σ2 g∧CallIt c N σ2 g vs K)
noncomputable def kItF (c:Cx)(N:Lv)(w:W)(ρ:Rho)(es:List PySem.Expr)(pos:Pos)(K:IK)(X:PX):V→Sig→Prop:=fun v σ1=>match v with | .raw g=>w.a ρ es pos σ1 (kIt c N g K) X | _=>False
theorem kItF_ok {c:Cx}{N:Lv}{w:W}{ρ:Rho}{es:List PySem.Expr}{pos:Pos}{K:IK}{X:PX}{v:V}{σ1:Sig}(q:kItF c N w ρ es pos K X v σ1):∃ g,v=.raw g∧w.a ρ es pos σ1 (kIt c N g K) X:=by
 cases v with
 | raw g=>exact⟨g,rfl,q⟩
 | _=>exact q.elim
theorem IG_callV {c:Cx}{N:Lv}{Kg:Frag}{gt:List (Str×Option Value)}{fd:FuncData}{L f:Addr}{ρ:Rho}{σ:Sig}{X:PX}{fe:PySem.Expr}{es:List PySem.Expr}{pos:Pos}{K:IK}(k:Nat)(H:Gs c Kg gt)(hk:fd.scope.kind=.function)
 (he:eval (.Call fe es [] pos) (callEnvC fd L f)=(do let f' ← eval fe (callEnvC fd L f);callWith pos f' [] (backTo pos (starEach es (callEnvC fd L f))) [])) (hp:noStar es=true)
 (h:(vW c N (callEnvC fd L f) Kg gt fd.scope.names k).e ρ fe σ (kItF c N (vW c N (callEnvC fd L f) Kg gt fd.scope.names k) ρ es pos K X) X):IterG c N (callEnvC fd L f) ρ (.Call fe es [] pos) σ K X:=
 IG_call (Gm (Vf.e k H hk h) fun v σ' q=>(kItF_ok q).imp fun g q=>⟨q.1,Gm ((Vf k H hk).a q.2) fun vs σ2 q=>q.h⟩) he (noStar_ok hp)
noncomputable def kC3 (c:Cx)(N:Lv)(w:W)(ρ:Rho)(r2:PySem.Expr)(o2:CmpOp)(BQ:Bool→Sig→Prop)(X:PX)(b:V):V→Sig→Prop:=fun v σ3=>match v with | .bool t=>Br t (w.e ρ r2 σ3 (kTc2 c N o2 BQ X b) X) (BQ false σ3) | _=>False
noncomputable def kC2 (c:Cx)(N:Lv)(w:W)(ρ:Rho)(r2:PySem.Expr)(o1 o2:CmpOp)(BQ:Bool→Sig→Prop)(X:PX)(a:V):V→Sig→Prop:=fun b σ2=>Leaf (Op2 c N σ2 a b (compareOp o1) (kC3 c N w ρ r2 o2 BQ X b) X)
noncomputable def kC1 (c:Cx)(N:Lv)(w:W)(ρ:Rho)(r1 r2:PySem.Expr)(o1 o2:CmpOp)(BQ:Bool→Sig→Prop)(X:PX):V→Sig→Prop:=fun a σ1=>w.e ρ r1 σ1 (kC2 c N w ρ r2 o1 o2 BQ X a) X
theorem kC3_ok {c:Cx}{N:Lv}{w:W}{ρ:Rho}{r2:PySem.Expr}{o2:CmpOp}{BQ:Bool→Sig→Prop}{X:PX}{b v:V}{σ3:Sig}(q:kC3 c N w ρ r2 o2 BQ X b v σ3):∃ t,v=.bool t∧Br t (w.e ρ r2 σ3 (kTc2 c N o2 BQ X b) X) (BQ false σ3):=by
 cases v with
 | bool t=>exact⟨t,rfl,q⟩
 | _=>exact q.elim
theorem T_cmp2V {c:Cx}{N:Lv}{Kg:Frag}{gt:List (Str×Option Value)}{fd:FuncData}{L f:Addr}{ρ:Rho}{σ:Sig}{X:PX}{l r1 r2:PySem.Expr}{o1 o2:CmpOp}{pos:Pos}{BQ:Bool→Sig→Prop}(k:Nat)(H:Gs c Kg gt)(hk:fd.scope.kind=.function)(hm:lastMarks [o1,o2] [r1,r2]=false)
 (h:(vW c N (callEnvC fd L f) Kg gt fd.scope.names k).e ρ l σ (kC1 c N (vW c N (callEnvC fd L f) Kg gt fd.scope.names k) ρ r1 r2 o1 o2 BQ X) X):TG c N (callEnvC fd L f) ρ (.Compare l [o1,o2] [r1,r2] pos) σ BQ X:=
 T_cmp2 hm (Gm (Vf.e k H hk h) fun a σ1 q=>Gm (Vf.e k H hk q) fun b σ2 q=>Op2m q.h fun v σ3 q=>(kC3_ok q).imp fun t q=>⟨q.1,by
  cases t with
  | false=>exact q.2.f rfl
  | true=>exact Gm (Vf.e k H hk (q.2.t rfl)) fun d σ4 q=>Op2m q.h fun v σ5 q=>kBool_ok q⟩)
noncomputable def kIter (c:Cx)(N:Lv)(K:IK):V→Sig→Prop:=fun v σ1=>Leaf (IterOp c N σ1 v K)
theorem IG_plainV {c:Cx}{N:Lv}{Kg:Frag}{gt:List (Str×Option Value)}{fd:FuncData}{L f:Addr}{ρ:Rho}{σ:Sig}{X:PX}{e:PySem.Expr}{K:IK}(k:Nat)(H:Gs c Kg gt)(hk:fd.scope.kind=.function)
 (h:(vW c N (callEnvC fd L f) Kg gt fd.scope.names k).e ρ e σ (kIter c N K) X):IterG c N (callEnvC fd L f) ρ e σ K X:=IG_plain (Gm (Vf.e k H hk h) fun v σ' q=>q.h)
theorem IG_plainC {c:Cx}{N:Lv}{K:Frag}{gt:List (Str×Option Value)}{fd:FuncData}{L f C:Addr}{scope:Scope}{cl:List (Str×Addr)}{ρ:Rho}{e:PySem.Expr}{σ:Sig}{X:PX}{K':IK}(k:Nat)(H:Gs c K gt)(hk:scope.kind=.function)
 (h:(vW c N (compEnvC scope cl C (callEnvC fd L f)) K gt (relabel scope (callEnvC fd 0 0)).names k).e ρ e σ (kIter c N K') X):IterG c N (compEnvC scope cl C (callEnvC fd L f)) ρ e σ K' X:=IG_plain (Gm (Vc.e k H hk h) fun v σ' q=>q.h)
noncomputable def DictIt (K:IK)(v:V)(σ1:Sig):Prop:=∃ d l,v=.raw (.ref d)∧σ1 d=some (.dict l)∧(∀ p∈l,okS p.1)∧∀ o,K ((l.map (·.1)).map .str) (fun σ'=>σ' d=some (.obj o)) (fun _=>True) (upd σ1 d (.obj o))
noncomputable def kIterD (K:IK):V→Sig→Prop:=fun v σ1=>Leaf (DictIt K v σ1)
theorem IG_dictV {c:Cx}{N:Lv}{Kg:Frag}{gt:List (Str×Option Value)}{fd:FuncData}{L f:Addr}{ρ:Rho}{σ:Sig}{X:PX}{e:PySem.Expr}{K:IK}(k:Nat)(H:Gs c Kg gt)(hk:fd.scope.kind=.function)
 (h:(vW c N (callEnvC fd L f) Kg gt fd.scope.names k).e ρ e σ (kIterD K) X):IterG c N (callEnvC fd L f) ρ e σ K X:=IG_dict (Gm (Vf.e k H hk h) fun v σ' q=>q.h)
theorem S_forV {c:Cx}{N:Lv}{Kg:Frag}{gt:List (Str×Option Value)}{fd:FuncData}{L f:Addr}{ρ:Rho}{σ:Sig}{SQ:PF}{SX:PE}{target iter:PySem.Expr}{body:List Stmt}{pos:Pos}(k:Nat)(H:Gs c Kg gt)(hk:fd.scope.kind=.function)(hhn:N.hn=true)
 (hs:∀ x,foldedSetIterable iter (callEnvC fd L f) x=pure x)
 (g:IterG c N (callEnvC fd L f) ρ iter σ (fun l Need tg σ1=>tg target∧∃ Inv:List V→Rho→Sig→Prop,Inv l ρ σ1 ∧
  (∀ v l ρ1 σ1,Inv (v::l) ρ1 σ1→Need σ1∧take target v ρ1 fun ρ2=>(vW c N (callEnvC fd L f) Kg gt fd.scope.names k).s ρ2 body σ1 (kInv Inv l SQ) SX) ∧
  (∀ ρ1 σ1,Inv [] ρ1 σ1→Need σ1∧SQ .next ρ1 σ1)) (atX SX ρ)):StG c N (callEnvC fd L f) ρ (.For target iter body [] pos) σ SQ SX:=by
 refine S_for hhn (fun A s QQ EE a R E xp h=>g A s QQ EE a R E xp fun l Need tg I W St σ' h' tk ⟨htg,Inv,q0,qs,qd⟩=>h l Need tg I W St σ' h' tk ⟨htg,Inv,q0,fun v l ρ1 σ1 q=>⟨(qs v l ρ1 σ1 q).1,?_⟩,qd⟩) hs
 refine el75 (take_ok (qs v l ρ1 σ1 q).2) ?_;intro ρ2 t q2
 exact⟨ρ2,t,Sm (Vf.s k H hk q2) fun f ρ3 σ3 q=>by
  cases f with
  | next=>exact q.h
  | ret v=>exact q⟩
theorem Gs.two {i:Membership Addr Zip0}{c:Cx}{K:Frag}{gt:List (Str×Option Value)}(H:@Gs i c K gt)(j:Membership Addr Zip0)(hj:∀ a,@Fz j a→c.S.objs.size≤a):@Gs j c K gt:=@Gs.mk j c K gt (@Gs.hc i c K gt H) (@Gs.mg i c K gt H) (@Gs.file i c K gt H) (@Gs.top i c K gt H) hj (@Gs.px i c K gt H)
noncomputable def kZip (c:Cx)(N:Lv)(env:Env)(K:Frag)(gt:List (Str×Option Value))(kinds:List (Str×NameKind))(k:Nat)(ρ:Rho)(target:PySem.Expr)(body:List Stmt)(SQ:PF)(SX:PE):List V→Sig→Prop:=fun vs σ2=>Leaf (∃ l1 l2,vs=[.tup l1,.tup l2]∧∃ Inv:List V→Rho→Sig→Prop,Inv (zipV l1 l2) ρ σ2 ∧
 (∀ j:Membership Addr Zip0,(∀ a,@Fz j a→c.S.objs.size≤a)→∀ v l ρ1 σ1,Inv (v::l) ρ1 σ1→take target v ρ1 fun ρ2=>(@vW j c N env K gt kinds k).s ρ2 body σ1 (kInv Inv l SQ) SX)∧(∀ ρ1 σ1,Inv [] ρ1 σ1→SQ .next ρ1 σ1))
noncomputable def kZipF (c:Cx)(N:Lv)(env:Env)(K:Frag)(gt:List (Str×Option Value))(kinds:List (Str×NameKind))(k:Nat)(ρ:Rho)(es:List PySem.Expr)(pos:Pos)(target:PySem.Expr)(body:List Stmt)(SQ:PF)(SX:PE):V→Sig→Prop:=fun v σ1=>match v with
 | .raw f=>f=.type "zip"∧(vW c N env K gt kinds k).a ρ es pos σ1 (kZip c N env K gt kinds k ρ target body SQ SX) (atX SX ρ)
 | _=>False
theorem kZipF_ok {c:Cx}{N:Lv}{env:Env}{K:Frag}{gt:List (Str×Option Value)}{kinds:List (Str×NameKind)}{k:Nat}{ρ:Rho}{es:List PySem.Expr}{pos:Pos}{target:PySem.Expr}{body:List Stmt}{SQ:PF}{SX:PE}{v:V}{σ1:Sig}(q:kZipF c N env K gt kinds k ρ es pos target body SQ SX v σ1) :
 v=.raw (.type "zip")∧(vW c N env K gt kinds k).a ρ es pos σ1 (kZip c N env K gt kinds k ρ target body SQ SX) (atX SX ρ):=by
 cases v with
 | raw f=>exact⟨by rw[q.1],q.2⟩
 | _=>exact q.elim
theorem S_forZV {c:Cx}{N:Lv}{Kg:Frag}{gt:List (Str×Option Value)}{fd:FuncData}{L f:Addr}{ρ:Rho}{σ:Sig}{SQ:PF}{SX:PE}{fe:PySem.Expr}{es elts:List PySem.Expr}{kk:Nat}{tp cpos pos:Pos}{body:List Stmt}(k:Nat)(H:Gs c Kg gt)(hk:fd.scope.kind=.function)(hhn:N.hn=true)
 (he:eval (.Call fe es [] cpos) (callEnvC fd L f)=(do let f' ← eval fe (callEnvC fd L f);callWith cpos f' [] (backTo cpos (starEach es (callEnvC fd L f))) [])) (hp:noStar es=true) (hs:∀ x,foldedSetIterable (.Call fe es [] cpos) (callEnvC fd L f) x=pure x)
 (g:(vW c N (callEnvC fd L f) Kg gt fd.scope.names k).e ρ fe σ (kZipF c N (callEnvC fd L f) Kg gt fd.scope.names k ρ es cpos (.Tuple elts kk tp) body SQ SX) (atX SX ρ)) :
 StG c N (callEnvC fd L f) ρ (.For (.Tuple elts kk tp) (.Call fe es [] cpos) body [] pos) σ SQ SX:=
 S_forZ hhn (Gm (Vf.e k H hk g) fun v σ1 q=>(kZipF_ok q).imp id fun q=>Gm ((Vf k H hk).a q) fun vs σ2 q=>by
  refine el49 q.h ?_;intro l1 l2 e Inv q0 qs qd
  refine⟨l1,l2,e,Inv,q0,fun j hj v l ρ1 σ1 i=>?_,qd⟩
  refine el75 (take_ok (qs j hj v l ρ1 σ1 i)) ?_;intro ρ2 t q2
  refine⟨ρ2,t,@Sm j _ _ _ _ _ _ _ _ _ (@Vf.s j _ _ _ _ _ _ _ _ _ _ _ _ k (H.two j hj) hk q2) fun f ρ3 σ3 q=>?_⟩
  cases f with
  | next=>exact q.h
  | ret v=>exact q) he (noStar_ok hp) hs
noncomputable def kSwap (x y:Str)(ρ:Rho)(SQ:PF):V→Sig→Prop:=fun v σ'=>match v with
 | .tup l=>match l with
  | []=>False
  | u::l=>match l with
   | []=>False
   | w::l=>match l with | []=>put y w ρ fun ρ1=>put x u ρ1 fun ρ'=>SQ .next ρ' σ' | _::_=>False
 | _=>False
theorem kSwap_ok {x y:Str}{ρ:Rho}{SQ:PF}{v:V}{σ':Sig}(h:kSwap x y ρ SQ v σ'):∃ u w,v=.tup [u,w]∧put y w ρ fun ρ1=>put x u ρ1 fun ρ'=>SQ .next ρ' σ':=by
 cases v with
 | tup l=>match l,h with
  | [u,w],h=>exact⟨u,w,rfl,h⟩
 | _=>exact h.elim
theorem S_swapV {c:Cx}{N:Lv}{K:Frag}{gt:List (Str×Option Value)}{fd:FuncData}{L f:Addr}{ρ:Rho}{σ:Sig}{SQ:PF}{SX:PE}{x y:Str}{px py p' pos:Pos}{kk:Nat}{e:PySem.Expr}(k:Nat)(H:Gs c K gt)(hk:fd.scope.kind=.function)(hhn:N.hn=true)
 (hs:swapsWithSole [.Tuple [.Name x px,.Name y py] kk p'] e pos.line (callEnvC fd L f)=pure false) (hw:swappedStores [.Tuple [.Name x px,.Name y py] kk p'] e (callEnvC fd L f)=pure (some [x,y]))
 (h:(vW c N (callEnvC fd L f) K gt fd.scope.names k).e ρ e σ (kSwap x y ρ SQ) (atX SX ρ)):StG c N (callEnvC fd L f) ρ (.Assign [.Tuple [.Name x px,.Name y py] kk p'] e pos) σ SQ SX:=
 S_assign_swap2 hhn (Gm (Vf.e k H hk h) fun v σ' q=>el68 (kSwap_ok q) fun u w e q=>let ⟨ρ1,p1,q⟩:=put_ok q;let ⟨ρ',p2,q⟩:=put_ok q;⟨u,w,ρ1,ρ',e,p1,p2,q⟩) hs hw
theorem K_fnV {c:Cx}{K:Frag}{gt:List (Str×Option Value)}{σ:Sig}{X:PX}{Q:PV}{n:Nat}{hn:Bool}{f:Addr}{fd:FuncData}{body:List Stmt}{params locs:List Str}{oc:Value}{od:Option Addr}{osl:Array (Option Value)}{ρ1:Rho}{args:List V}(k:Nat)
 (H:Gs c K gt) (hK:K.lookup f=some ⟨oc,od,.func fd,osl⟩) (hb:fd.body=.stmts body) (hcl:fd.closure=[]) (hg:fd.globals=mainGlobals) (hbl:fd.builtins=builtinsNs) (hcd:codeIn K fd.code fd.qualname=true)
 (hk:fd.scope.kind=.function) (hco:fd.scope.isCoroutine=false) (hgen:fd.scope.isGenerator=false) (hbind:∀ ys:List Value,ys.length=args.length→bindArgs fd ⟨ys,[]⟩=pure (params.zip ys))
 (hkeys:keysOk fd (params++locs)=true) (hnd:(params++locs).Nodup) (hl:params.length=args.length) (hρ:frameR params args locs=ρ1)
 (g:∀ L,(vW c ⟨n,hn⟩ (callEnvC fd L f) K gt fd.scope.names k).s ρ1 body σ (retQ Q) (retX X)):CodeOp c ⟨n+1,hn⟩ σ (.ref f) args Q X:=
 K_fnK H hK hb hcl hg hbl hcd hk hco hgen hbind hkeys hnd hl hρ fun L=>Sm ((vW_ok H.hc H.mg rfl (by show (fd.scope.kind==.module&&_)=false;rw[hk];rfl) k).s (g L)) fun _ _ _ q=>q.h
end Mine
namespace Mine
noncomputable def stAt (i:Nat):Stmt:=PySem.Challenge.pw_pq0055_04.main.body[i]?.getD (.Pass default)
noncomputable def stIn (i j:Nat):Stmt:=match stAt i with | .ClassDef _ _ _ body _ _ _ _ _ _ _=>body[j]?.getD (.Pass default) | _=>.Pass default
noncomputable def fnArgs:Stmt→PySem.Arguments | .FunctionDef _ a _ _ _ _ _ _ _ _=>a | _=>default
noncomputable def fnBody:Stmt→List Stmt | .FunctionDef _ _ b _ _ _ _ _ _ _=>b | _=>[]
noncomputable def fnScope:Stmt→PySem.Scope | .FunctionDef _ _ _ _ _ _ s _ _ _=>s | _=>default
noncomputable abbrev de (P:Params)(s:Str)(n:Nat)(v:Value):DictEntry:=⟨PyData.keyHash P s,.str s n,v⟩
noncomputable abbrev fo (nm q:Str)(s:Stmt)(md:Str)(t:Nat)(cd:Addr)(cl:List (Str×Addr):=[]):FuncData:={ name:=nm,qualname:=q,params:=fnArgs s,body:=.stmts (fnBody s),scope:=fnScope s,globals:=3,closure:=cl,defaults:=.none,kwdefaults:=.none,pyModule:=.str md t,code:=.ref cd }
noncomputable abbrev ob (s:String)(d:Data):Obj:={ cls:=.type s,data:=d }
noncomputable def KK (P:Params):Frag:=[
(2,{ cls:=.none,data:=.dict #[de P "type.__subclasses__.Exception.0" 230 (.int 47 0),de P "type.__subclasses__.Exception.n" 231 (.int 1 0)] 2 }),
(3,ob "dict" (.dict #[de P "__name__" 165 (.str "law_pq0055_04" 610),de P "__doc__" 166 .none,de P "__package__" 167 .none,de P "__loader__" 168 (.builtin "__main__.__loader__#opaque"),de P "__spec__" 169 .none,de P "__annotations__" 170 (.ref 6),de P "__builtins__" 171 (.ref 4),de P "__file__" 173 (.str "/claim/cut.py" 172),de P "__cached__" 174 .none,de P "_wall" 193 (.ref 21),de P "HeapError" 233 (.ref 47),de P "TermFault" 249 (.ref 60),de P "RuleFault" 265 (.ref 72),de P "PaperFault" 300 (.ref 100),de P "is_variable" 309 (.ref 109),de P "variables" 315 (.ref 114),de P "placed" 321 (.ref 119),de P "parts" 327 (.ref 124),de P "part_at" 336 (.ref 131),de P "replaced" 346 (.ref 138),de P "parts_of" 355 (.ref 145),de P "is_plain_term" 364 (.ref 152),de P "are_places" 370 (.ref 157),de P "has_form" 379 (.ref 164),de P "in_order" 385 (.ref 169),de P "want_form" 393 (.ref 176),de P "turned" 400 (.ref 183),de P "joined" 408 (.ref 190),de P "under" 414 (.ref 195),de P "Judge" 480 (.ref 241),de P "within" 486 (.ref 250),de P "Steps" 570 (.ref 302),de P "Rule" 609 (.ref 328),de P "_law_told" 621 (.ref 333),de P "_law_rows" 627 (.ref 347),de P "_law_names" 638 (.ref 348),de P "_law_pick" 647 (.ref 358),de P "_law_grown" 656 (.ref 365),de P "_law_spots" 662 (.ref 370),de P "_law_there" 671 (.ref 377),de P "_law_instead" 680 (.ref 384),de P "_law_filled" 686 (.ref 389),de P "_law_fits" 697 (.ref 396),de P "_law_done" 703 (.ref 401),de P "_law_able" 709 (.ref 406),de P "_law_bent" 715 (.ref 411),de P "_law_heard" 725 (.ref 418),de P "law" 731 (.ref 423)] 48)),
(15,ob "tuple" (.seq #[])),
(17,ob "tuple" (.seq #[.str "k" 190])),
(18,ob "tuple" (.seq #[])),
(20,ob "code" (.fields #[.str "_wall" 187,.str "_wall" 188,.str "/claim/cut.py" 189,.int 1 0,.int 1 0,.int 0 0,.int 0 0,.int 3 0,.ref 15,.bool true,.int 181 0,.ref 16,.none,.ref 17,.ref 18,.ref 19,.int 191 0,.int 1 0,.str "/claim/cut.py" 192])),
(21,ob "function" (.func (fo "_wall" "_wall" (stAt 0) "__main__" 164 20))),
(22,ob "tuple" (.seq #[.type "Exception"])),
(25,ob "cell" (.cell (some (.ref 47)))),
(30,ob "tuple" (.seq #[.ref 25])),
(31,ob "tuple" (.seq #[.str "__class__" 211])),
(33,ob "tuple" (.seq #[.str "self" 212,.str "what" 213])),
(34,ob "tuple" (.seq #[])),
(36,ob "code" (.fields #[.str "__init__" 208,.str "HeapError.__init__" 209,.str "/claim/cut.py" 210,.int 7 0,.int 2 0,.int 0 0,.int 0 0,.int 3 0,.ref 31,.bool true,.int 181 0,.ref 32,.none,.ref 33,.ref 34,.ref 35,.int 214 0,.int 7 0,.str "/claim/cut.py" 215])),
(37,ob "function" (.func { name:="__init__",qualname:="HeapError.__init__",params:=fnArgs (stIn 2 0),body:=.stmts (fnBody (stIn 2 0)),scope:=fnScope (stIn 2 0),globals:=3,closure:=[("__class__",25)],defaults:=.none,kwdefaults:=.none,pyModule:=.str "alikeheap.errors" 194,code:=.ref 36,closureTuple:=.ref 30 })),
(38,ob "tuple" (.seq #[])),
(40,ob "tuple" (.seq #[.str "self" 220])),
(41,ob "tuple" (.seq #[])),
(43,ob "code" (.fields #[.str "told" 217,.str "HeapError.told" 218,.str "/claim/cut.py" 219,.int 11 0,.int 1 0,.int 0 0,.int 0 0,.int 3 0,.ref 38,.bool true,.int 181 0,.ref 39,.none,.ref 40,.ref 41,.ref 42,.int 221 0,.int 11 0,.str "/claim/cut.py" 222])),
(44,ob "function" (.func (fo "told" "HeapError.told" (stIn 2 1) "alikeheap.errors" 194 43))),
(45,ob "tuple" (.seq #[.str "what" 224])),
(46,ob "dict" (.dict #[de P "__module__" 203 (.str "alikeheap.errors" 194),de P "__firstlineno__" 207 (.int 5 206),de P "__init__" 216 (.ref 37),de P "told" 223 (.ref 44),de P "__static_attributes__" 225 (.ref 45),de P "__weakref__" 228 (.ref 48),de P "__doc__" 229 .none] 4)),
(47,{ cls:=.type "type",data:=.cls { name:="HeapError",bases:=[.type "Exception"],mro:=[.ref 47,.type "Exception",.type "BaseException",.type "object"],ns:=46,qualname:="HeapError",subclasses:=[.ref 60,.ref 72,.ref 100] },slots:=#[some (.ref 22),none,some (.str "HeapError" 196),some (.str "HeapError" 204),some (.builtin "Exception.__new__"),some (.bool true)] }),
(48,ob "getset_descriptor" (.fields #[.str "__weakref__" 227,.ref 47,.builtin "ExceptionGroup.__weakref__",.none])),
(51,ob "tuple" (.seq #[.ref 47])),
(58,ob "tuple" (.seq #[])),
(59,ob "dict" (.dict #[de P "__module__" 241 (.str "alikeheap.errors" 194),de P "__firstlineno__" 245 (.int 13 244),de P "__static_attributes__" 246 (.ref 58),de P "__doc__" 247 .none] 2)),
(60,{ cls:=.type "type",data:=.cls { name:="TermFault",bases:=[.ref 47],mro:=[.ref 60,.ref 47,.type "Exception",.type "BaseException",.type "object"],ns:=59,qualname:="TermFault" },slots:=#[some (.ref 51),none,some (.str "TermFault" 234),some (.str "TermFault" 242),some (.builtin "Exception.__new__"),some (.bool true)] }),
(63,ob "tuple" (.seq #[.ref 47])),
(70,ob "tuple" (.seq #[])),
(71,ob "dict" (.dict #[de P "__module__" 257 (.str "alikeheap.errors" 194),de P "__firstlineno__" 261 (.int 15 260),de P "__static_attributes__" 262 (.ref 70),de P "__doc__" 263 .none] 2)),
(72,{ cls:=.type "type",data:=.cls { name:="RuleFault",bases:=[.ref 47],mro:=[.ref 72,.ref 47,.type "Exception",.type "BaseException",.type "object"],ns:=71,qualname:="RuleFault" },slots:=#[some (.ref 63),none,some (.str "RuleFault" 250),some (.str "RuleFault" 258),some (.builtin "Exception.__new__"),some (.bool true)] }),
(75,ob "tuple" (.seq #[.ref 47])),
(78,ob "cell" (.cell (some (.ref 100)))),
(83,ob "tuple" (.seq #[.ref 78])),
(84,ob "tuple" (.seq #[.str "__class__" 281])),
(86,ob "tuple" (.seq #[.str "self" 282,.str "what" 283,.str "place" 284])),
(87,ob "tuple" (.seq #[])),
(89,ob "code" (.fields #[.str "__init__" 278,.str "PaperFault.__init__" 279,.str "/claim/cut.py" 280,.int 19 0,.int 3 0,.int 0 0,.int 0 0,.int 3 0,.ref 84,.bool true,.int 181 0,.ref 85,.none,.ref 86,.ref 87,.ref 88,.int 285 0,.int 19 0,.str "/claim/cut.py" 286])),
(90,ob "function" (.func { name:="__init__",qualname:="PaperFault.__init__",params:=fnArgs (stIn 5 0),body:=.stmts (fnBody (stIn 5 0)),scope:=fnScope (stIn 5 0),globals:=3,closure:=[("__class__",78)],defaults:=.none,kwdefaults:=.none,pyModule:=.str "alikeheap.errors" 194,code:=.ref 89,closureTuple:=.ref 83 })),
(91,ob "tuple" (.seq #[])),
(93,ob "tuple" (.seq #[.str "self" 291])),
(94,ob "tuple" (.seq #[])),
(96,ob "code" (.fields #[.str "told" 288,.str "PaperFault.told" 289,.str "/claim/cut.py" 290,.int 23 0,.int 1 0,.int 0 0,.int 0 0,.int 3 0,.ref 91,.bool true,.int 181 0,.ref 92,.none,.ref 93,.ref 94,.ref 95,.int 292 0,.int 23 0,.str "/claim/cut.py" 293])),
(97,ob "function" (.func (fo "told" "PaperFault.told" (stIn 5 1) "alikeheap.errors" 194 96))),
(98,ob "tuple" (.seq #[.str "place" 295])),
(99,ob "dict" (.dict #[de P "__module__" 273 (.str "alikeheap.errors" 194),de P "__firstlineno__" 277 (.int 17 276),de P "__init__" 287 (.ref 90),de P "told" 294 (.ref 97),de P "__static_attributes__" 296 (.ref 98),de P "__doc__" 298 .none] 3)),
(100,{ cls:=.type "type",data:=.cls { name:="PaperFault",bases:=[.ref 47],mro:=[.ref 100,.ref 47,.type "Exception",.type "BaseException",.type "object"],ns:=99,qualname:="PaperFault" },slots:=#[some (.ref 75),none,some (.str "PaperFault" 266),some (.str "PaperFault" 274),some (.builtin "Exception.__new__"),some (.bool true)] }),
(103,ob "tuple" (.seq #[])),
(105,ob "tuple" (.seq #[.str "t" 306])),
(106,ob "tuple" (.seq #[])),
(108,ob "code" (.fields #[.str "is_variable" 303,.str "is_variable" 304,.str "/claim/cut.py" 305,.int 26 0,.int 1 0,.int 0 0,.int 0 0,.int 3 0,.ref 103,.bool true,.int 181 0,.ref 104,.none,.ref 105,.ref 106,.ref 107,.int 307 0,.int 26 0,.str "/claim/cut.py" 308])),
(109,ob "function" (.func (fo "is_variable" "is_variable" (stAt 7) "alikeheap.terms" 301 108))),
(110,ob "tuple" (.seq #[])),
(113,ob "code" (.fields #[.str "variables" 310,.str "variables" 311,.str "/claim/cut.py" 312,.int 28 0,.int 1 0,.int 0 0,.int 0 0,.int 3 0,.ref 110,.bool true,.int 181 0,.ref 111,.none,.none,.none,.ref 112,.int 313 0,.int 28 0,.str "/claim/cut.py" 314])),
(114,ob "function" (.func (fo "variables" "variables" (stAt 8) "alikeheap.terms" 301 113))),
(115,ob "tuple" (.seq #[])),
(118,ob "code" (.fields #[.str "placed" 316,.str "placed" 317,.str "/claim/cut.py" 318,.int 30 0,.int 2 0,.int 0 0,.int 0 0,.int 3 0,.ref 115,.bool true,.int 181 0,.ref 116,.none,.none,.none,.ref 117,.int 319 0,.int 30 0,.str "/claim/cut.py" 320])),
(119,ob "function" (.func (fo "placed" "placed" (stAt 9) "alikeheap.terms" 301 118))),
(120,ob "tuple" (.seq #[])),
(123,ob "code" (.fields #[.str "parts" 322,.str "parts" 323,.str "/claim/cut.py" 324,.int 36 0,.int 1 0,.int 0 0,.int 0 0,.int 3 0,.ref 120,.bool true,.int 181 0,.ref 121,.none,.none,.none,.ref 122,.int 325 0,.int 36 0,.str "/claim/cut.py" 326])),
(124,ob "function" (.func (fo "parts" "parts" (stAt 10) "alikeheap.terms" 301 123))),
(125,ob "tuple" (.seq #[])),
(127,ob "tuple" (.seq #[.str "t" 331,.str "path" 332,.str "k" 333])),
(128,ob "tuple" (.seq #[])),
(130,ob "code" (.fields #[.str "part_at" 328,.str "part_at" 329,.str "/claim/cut.py" 330,.int 41 0,.int 2 0,.int 0 0,.int 0 0,.int 3 0,.ref 125,.bool true,.int 181 0,.ref 126,.none,.ref 127,.ref 128,.ref 129,.int 334 0,.int 41 0,.str "/claim/cut.py" 335])),
(131,ob "function" (.func (fo "part_at" "part_at" (stAt 11) "alikeheap.terms" 301 130))),
(132,ob "tuple" (.seq #[])),
(134,ob "tuple" (.seq #[.str "t" 340,.str "path" 341,.str "u" 342,.str "kid" 343])),
(135,ob "tuple" (.seq #[])),
(137,ob "code" (.fields #[.str "replaced" 337,.str "replaced" 338,.str "/claim/cut.py" 339,.int 47 0,.int 3 0,.int 0 0,.int 0 0,.int 3 0,.ref 132,.bool true,.int 181 0,.ref 133,.none,.ref 134,.ref 135,.ref 136,.int 344 0,.int 47 0,.str "/claim/cut.py" 345])),
(138,ob "function" (.func (fo "replaced" "replaced" (stAt 12) "alikeheap.terms" 301 137))),
(139,ob "tuple" (.seq #[])),
(141,ob "tuple" (.seq #[.str "paper" 352])),
(142,ob "tuple" (.seq #[])),
(144,ob "code" (.fields #[.str "parts_of" 349,.str "parts_of" 350,.str "/claim/cut.py" 351,.int 53 0,.int 1 0,.int 0 0,.int 0 0,.int 3 0,.ref 139,.bool true,.int 181 0,.ref 140,.none,.ref 141,.ref 142,.ref 143,.int 353 0,.int 53 0,.str "/claim/cut.py" 354])),
(145,ob "function" (.func (fo "parts_of" "parts_of" (stAt 14) "alikeheap.papers" 347 144))),
(146,ob "tuple" (.seq #[])),
(148,ob "tuple" (.seq #[.str "thing" 359,.str "waiting" 360,.str "one" 361])),
(149,ob "tuple" (.seq #[])),
(151,ob "code" (.fields #[.str "is_plain_term" 356,.str "is_plain_term" 357,.str "/claim/cut.py" 358,.int 57 0,.int 1 0,.int 0 0,.int 0 0,.int 3 0,.ref 146,.bool true,.int 181 0,.ref 147,.none,.ref 148,.ref 149,.ref 150,.int 362 0,.int 57 0,.str "/claim/cut.py" 363])),
(152,ob "function" (.func (fo "is_plain_term" "is_plain_term" (stAt 15) "alikeheap.papers" 347 151))),
(153,ob "tuple" (.seq #[])),
(156,ob "code" (.fields #[.str "are_places" 365,.str "are_places" 366,.str "/claim/cut.py" 367,.int 65 0,.int 1 0,.int 0 0,.int 0 0,.int 3 0,.ref 153,.bool true,.int 181 0,.ref 154,.none,.none,.none,.ref 155,.int 368 0,.int 65 0,.str "/claim/cut.py" 369])),
(157,ob "function" (.func (fo "are_places" "are_places" (stAt 16) "alikeheap.papers" 347 156))),
(158,ob "tuple" (.seq #[])),
(160,ob "tuple" (.seq #[.str "thing" 374,.str "kind" 375,.str "many" 376])),
(161,ob "tuple" (.seq #[])),
(163,ob "code" (.fields #[.str "has_form" 371,.str "has_form" 372,.str "/claim/cut.py" 373,.int 72 0,.int 1 0,.int 0 0,.int 0 0,.int 3 0,.ref 158,.bool true,.int 181 0,.ref 159,.none,.ref 160,.ref 161,.ref 162,.int 377 0,.int 72 0,.str "/claim/cut.py" 378])),
(164,ob "function" (.func (fo "has_form" "has_form" (stAt 17) "alikeheap.papers" 347 163))),
(165,ob "tuple" (.seq #[])),
(168,ob "code" (.fields #[.str "in_order" 380,.str "in_order" 381,.str "/claim/cut.py" 382,.int 85 0,.int 1 0,.int 0 0,.int 0 0,.int 3 0,.ref 165,.bool true,.int 181 0,.ref 166,.none,.none,.none,.ref 167,.int 383 0,.int 85 0,.str "/claim/cut.py" 384])),
(169,ob "function" (.func (fo "in_order" "in_order" (stAt 18) "alikeheap.papers" 347 168))),
(170,ob "tuple" (.seq #[])),
(172,ob "tuple" (.seq #[.str "paper" 389,.str "path" 390])),
(173,ob "tuple" (.seq #[])),
(175,ob "code" (.fields #[.str "want_form" 386,.str "want_form" 387,.str "/claim/cut.py" 388,.int 94 0,.int 2 0,.int 0 0,.int 0 0,.int 3 0,.ref 170,.bool true,.int 181 0,.ref 171,.none,.ref 172,.ref 173,.ref 174,.int 391 0,.int 94 0,.str "/claim/cut.py" 392])),
(176,ob "function" (.func (fo "want_form" "want_form" (stAt 19) "alikeheap.papers" 347 175))),
(177,ob "tuple" (.seq #[])),
(179,ob "tuple" (.seq #[.str "paper" 397])),
(180,ob "tuple" (.seq #[])),
(182,ob "code" (.fields #[.str "turned" 394,.str "turned" 395,.str "/claim/cut.py" 396,.int 97 0,.int 1 0,.int 0 0,.int 0 0,.int 3 0,.ref 177,.bool true,.int 181 0,.ref 178,.none,.ref 179,.ref 180,.ref 181,.int 398 0,.int 97 0,.str "/claim/cut.py" 399])),
(183,ob "function" (.func (fo "turned" "turned" (stAt 20) "alikeheap.papers" 347 182))),
(184,ob "tuple" (.seq #[])),
(186,ob "tuple" (.seq #[.str "one" 404,.str "other" 405])),
(187,ob "tuple" (.seq #[])),
(189,ob "code" (.fields #[.str "joined" 401,.str "joined" 402,.str "/claim/cut.py" 403,.int 101 0,.int 2 0,.int 0 0,.int 0 0,.int 3 0,.ref 184,.bool true,.int 181 0,.ref 185,.none,.ref 186,.ref 187,.ref 188,.int 406 0,.int 101 0,.str "/claim/cut.py" 407])),
(190,ob "function" (.func (fo "joined" "joined" (stAt 21) "alikeheap.papers" 347 189))),
(191,ob "tuple" (.seq #[])),
(194,ob "code" (.fields #[.str "under" 409,.str "under" 410,.str "/claim/cut.py" 411,.int 105 0,.int 2 0,.int 0 0,.int 0 0,.int 3 0,.ref 191,.bool true,.int 181 0,.ref 192,.none,.none,.none,.ref 193,.int 412 0,.int 105 0,.str "/claim/cut.py" 413])),
(195,ob "function" (.func (fo "under" "under" (stAt 22) "alikeheap.papers" 347 194))),
(203,ob "tuple" (.seq #[])),
(205,ob "tuple" (.seq #[.str "self" 430,.str "rules" 431,.str "told" 432])),
(206,ob "tuple" (.seq #[])),
(208,ob "code" (.fields #[.str "__init__" 427,.str "Judge.__init__" 428,.str "/claim/cut.py" 429,.int 111 0,.int 3 0,.int 0 0,.int 0 0,.int 3 0,.ref 203,.bool true,.int 181 0,.ref 204,.none,.ref 205,.ref 206,.ref 207,.int 433 0,.int 111 0,.str "/claim/cut.py" 434])),
(209,ob "function" (.func (fo "__init__" "Judge.__init__" (stIn 23 0) "alikeheap.papers" 347 208))),
(210,ob "tuple" (.seq #[])),
(212,ob "tuple" (.seq #[.str "self" 439,.str "label" 440,.str "place" 441])),
(213,ob "tuple" (.seq #[])),
(215,ob "code" (.fields #[.str "told_sides" 436,.str "Judge.told_sides" 437,.str "/claim/cut.py" 438,.int 115 0,.int 3 0,.int 0 0,.int 0 0,.int 3 0,.ref 210,.bool true,.int 181 0,.ref 211,.none,.ref 212,.ref 213,.ref 214,.int 442 0,.int 115 0,.str "/claim/cut.py" 443])),
(216,ob "function" (.func (fo "told_sides" "Judge.told_sides" (stIn 23 1) "alikeheap.papers" 347 215))),
(217,ob "tuple" (.seq #[])),
(220,ob "code" (.fields #[.str "rule_sides" 445,.str "Judge.rule_sides" 446,.str "/claim/cut.py" 447,.int 120 0,.int 4 0,.int 0 0,.int 0 0,.int 3 0,.ref 217,.bool true,.int 181 0,.ref 218,.none,.none,.none,.ref 219,.int 448 0,.int 120 0,.str "/claim/cut.py" 449])),
(221,ob "function" (.func (fo "rule_sides" "Judge.rule_sides" (stIn 23 2) "alikeheap.papers" 347 220))),
(222,ob "tuple" (.seq #[])),
(225,ob "code" (.fields #[.str "sides_of" 451,.str "Judge.sides_of" 452,.str "/claim/cut.py" 453,.int 131 0,.int 4 0,.int 0 0,.int 0 0,.int 3 0,.ref 222,.bool true,.int 181 0,.ref 223,.none,.none,.none,.ref 224,.int 454 0,.int 131 0,.str "/claim/cut.py" 455])),
(226,ob "function" (.func (fo "sides_of" "Judge.sides_of" (stIn 23 3) "alikeheap.papers" 347 225))),
(227,ob "tuple" (.seq #[])),
(230,ob "code" (.fields #[.str "sides" 457,.str "Judge.sides" 458,.str "/claim/cut.py" 459,.int 147 0,.int 2 0,.int 0 0,.int 0 0,.int 3 0,.ref 227,.bool true,.int 181 0,.ref 228,.none,.none,.none,.ref 229,.int 460 0,.int 147 0,.str "/claim/cut.py" 461])),
(231,ob "function" (.func (fo "sides" "Judge.sides" (stIn 23 4) "alikeheap.papers" 347 230))),
(232,ob "tuple" (.seq #[])),
(234,ob "tuple" (.seq #[.str "self" 466,.str "paper" 467])),
(235,ob "tuple" (.seq #[])),
(237,ob "code" (.fields #[.str "count" 463,.str "Judge.count" 464,.str "/claim/cut.py" 465,.int 154 0,.int 2 0,.int 0 0,.int 0 0,.int 3 0,.ref 232,.bool true,.int 181 0,.ref 233,.none,.ref 234,.ref 235,.ref 236,.int 468 0,.int 154 0,.str "/claim/cut.py" 469])),
(238,ob "function" (.func (fo "count" "Judge.count" (stIn 23 5) "alikeheap.papers" 347 237))),
(239,ob "tuple" (.seq #[.str "rules" 471,.str "told" 472])),
(240,ob "dict" (.dict #[de P "__module__" 422 (.str "alikeheap.papers" 347),de P "__firstlineno__" 426 (.int 109 425),de P "__init__" 435 (.ref 209),de P "told_sides" 444 (.ref 216),de P "rule_sides" 450 (.ref 221),de P "sides_of" 456 (.ref 226),de P "sides" 462 (.ref 231),de P "count" 470 (.ref 238),de P "__static_attributes__" 473 (.ref 239),de P "__dict__" 475 (.ref 242),de P "__weakref__" 477 (.ref 243),de P "__doc__" 478 .none] 4)),
(241,{ cls:=.type "type",data:=.cls { name:="Judge",bases:=[.type "object"],mro:=[.ref 241,.type "object"],ns:=240,qualname:="Judge" },slots:=#[none,none,some (.str "Judge" 415),some (.str "Judge" 423),some (.builtin "object.__new__"),some (.bool true)] }),
(242,ob "getset_descriptor" (.fields #[.str "__dict__" 474,.ref 241,.builtin "function.__dict__",.builtin "function.__dict__#set"])),
(243,ob "getset_descriptor" (.fields #[.str "__weakref__" 476,.ref 241,.builtin "ExceptionGroup.__weakref__",.none])),
(246,ob "tuple" (.seq #[])),
(249,ob "code" (.fields #[.str "within" 481,.str "within" 482,.str "/claim/cut.py" 483,.int 156 0,.int 3 0,.int 0 0,.int 0 0,.int 3 0,.ref 246,.bool true,.int 181 0,.ref 247,.none,.none,.none,.ref 248,.int 484 0,.int 156 0,.str "/claim/cut.py" 485])),
(250,ob "function" (.func (fo "within" "within" (stAt 24) "alikeheap.papers" 347 249))),
(258,ob "tuple" (.seq #[])),
(260,ob "tuple" (.seq #[.str "self" 502,.str "judge" 503])),
(261,ob "tuple" (.seq #[])),
(263,ob "code" (.fields #[.str "__init__" 499,.str "Steps.__init__" 500,.str "/claim/cut.py" 501,.int 164 0,.int 2 0,.int 0 0,.int 0 0,.int 3 0,.ref 258,.bool true,.int 181 0,.ref 259,.none,.ref 260,.ref 261,.ref 262,.int 504 0,.int 164 0,.str "/claim/cut.py" 505])),
(264,ob "function" (.func (fo "__init__" "Steps.__init__" (stIn 25 0) "alikeheap.papers" 347 263))),
(265,ob "tuple" (.seq #[])),
(267,ob "tuple" (.seq #[.str "self" 510,.str "paper" 511])),
(268,ob "tuple" (.seq #[])),
(270,ob "code" (.fields #[.str "of_paper" 507,.str "Steps.of_paper" 508,.str "/claim/cut.py" 509,.int 167 0,.int 2 0,.int 0 0,.int 0 0,.int 3 0,.ref 265,.bool true,.int 181 0,.ref 266,.none,.ref 267,.ref 268,.ref 269,.int 512 0,.int 167 0,.str "/claim/cut.py" 513])),
(271,ob "function" (.func (fo "of_paper" "Steps.of_paper" (stIn 25 1) "alikeheap.papers" 347 270))),
(272,ob "tuple" (.seq #[])),
(274,ob "tuple" (.seq #[.str "self" 518,.str "step" 519,.str "number" 520,.str "found" 521])),
(275,ob "tuple" (.seq #[])),
(277,ob "code" (.fields #[.str "sides" 515,.str "Steps.sides" 516,.str "/claim/cut.py" 517,.int 170 0,.int 3 0,.int 0 0,.int 0 0,.int 3 0,.ref 272,.bool true,.int 181 0,.ref 273,.none,.ref 274,.ref 275,.ref 276,.int 522 0,.int 170 0,.str "/claim/cut.py" 523])),
(278,ob "function" (.func (fo "sides" "Steps.sides" (stIn 25 2) "alikeheap.papers" 347 277))),
(279,ob "tuple" (.seq #[])),
(281,ob "tuple" (.seq #[.str "self" 528,.str "term" 529,.str "step" 530,.str "number" 531,.str "left" 532,.str "right" 533])),
(282,ob "tuple" (.seq #[])),
(284,ob "code" (.fields #[.str "stepped" 525,.str "Steps.stepped" 526,.str "/claim/cut.py" 527,.int 179 0,.int 4 0,.int 0 0,.int 0 0,.int 3 0,.ref 279,.bool true,.int 181 0,.ref 280,.none,.ref 281,.ref 282,.ref 283,.int 534 0,.int 179 0,.str "/claim/cut.py" 535])),
(285,ob "function" (.func (fo "stepped" "Steps.stepped" (stIn 25 3) "alikeheap.papers" 347 284))),
(286,ob "tuple" (.seq #[])),
(288,ob "tuple" (.seq #[.str "self" 540,.str "term" 541,.str "steps" 542,.str "found" 543,.str "number" 544,.str "step" 545])),
(289,ob "tuple" (.seq #[])),
(291,ob "code" (.fields #[.str "walk" 537,.str "Steps.walk" 538,.str "/claim/cut.py" 539,.int 188 0,.int 3 0,.int 0 0,.int 0 0,.int 3 0,.ref 286,.bool true,.int 181 0,.ref 287,.none,.ref 288,.ref 289,.ref 290,.int 546 0,.int 188 0,.str "/claim/cut.py" 547])),
(292,ob "function" (.func (fo "walk" "Steps.walk" (stIn 25 4) "alikeheap.papers" 347 291))),
(293,ob "tuple" (.seq #[])),
(295,ob "tuple" (.seq #[.str "self" 552,.str "term" 553,.str "steps" 554,.str "paper" 555,.str "here" 556,.str "step" 557,.str "plain" 558])),
(296,ob "tuple" (.seq #[])),
(298,ob "code" (.fields #[.str "paper_of" 549,.str "Steps.paper_of" 550,.str "/claim/cut.py" 551,.int 194 0,.int 3 0,.int 0 0,.int 0 0,.int 3 0,.ref 293,.bool true,.int 181 0,.ref 294,.none,.ref 295,.ref 296,.ref 297,.int 559 0,.int 194 0,.str "/claim/cut.py" 560])),
(299,ob "function" (.func (fo "paper_of" "Steps.paper_of" (stIn 25 5) "alikeheap.papers" 347 298))),
(300,ob "tuple" (.seq #[.str "judge" 562])),
(301,ob "dict" (.dict #[de P "__module__" 494 (.str "alikeheap.papers" 347),de P "__firstlineno__" 498 (.int 162 497),de P "__init__" 506 (.ref 264),de P "of_paper" 514 (.ref 271),de P "sides" 524 (.ref 278),de P "stepped" 536 (.ref 285),de P "walk" 548 (.ref 292),de P "paper_of" 561 (.ref 299),de P "__static_attributes__" 563 (.ref 300),de P "__dict__" 565 (.ref 303),de P "__weakref__" 567 (.ref 304),de P "__doc__" 568 .none] 4)),
(302,{ cls:=.type "type",data:=.cls { name:="Steps",bases:=[.type "object"],mro:=[.ref 302,.type "object"],ns:=301,qualname:="Steps" },slots:=#[none,none,some (.str "Steps" 487),some (.str "Steps" 495),some (.builtin "object.__new__"),some (.bool true)] }),
(303,ob "getset_descriptor" (.fields #[.str "__dict__" 564,.ref 302,.builtin "function.__dict__",.builtin "function.__dict__#set"])),
(304,ob "getset_descriptor" (.fields #[.str "__weakref__" 566,.ref 302,.builtin "ExceptionGroup.__weakref__",.none])),
(314,ob "tuple" (.seq #[])),
(317,ob "code" (.fields #[.str "__init__" 585,.str "Rule.__init__" 586,.str "/claim/cut.py" 587,.int 203 0,.int 5 0,.int 0 0,.int 0 0,.int 3 0,.ref 314,.bool true,.int 181 0,.ref 315,.none,.none,.none,.ref 316,.int 588 0,.int 203 0,.str "/claim/cut.py" 589])),
(318,ob "function" (.func (fo "__init__" "Rule.__init__" (stIn 27 0) "alikeheap.rules" 571 317))),
(319,ob "tuple" (.seq #[])),
(321,ob "tuple" (.seq #[.str "self" 594])),
(322,ob "tuple" (.seq #[])),
(324,ob "code" (.fields #[.str "turned" 591,.str "Rule.turned" 592,.str "/claim/cut.py" 593,.int 219 0,.int 1 0,.int 0 0,.int 0 0,.int 3 0,.ref 319,.bool true,.int 181 0,.ref 320,.none,.ref 321,.ref 322,.ref 323,.int 595 0,.int 219 0,.str "/claim/cut.py" 596])),
(325,ob "function" (.func (fo "turned" "Rule.turned" (stIn 27 1) "alikeheap.rules" 571 324))),
(326,ob "tuple" (.seq #[.str "left" 598,.str "name" 599,.str "needs" 600,.str "right" 601])),
(327,ob "dict" (.dict #[de P "__module__" 580 (.str "alikeheap.rules" 571),de P "__firstlineno__" 584 (.int 201 583),de P "__init__" 590 (.ref 318),de P "turned" 597 (.ref 325),de P "__static_attributes__" 602 (.ref 326),de P "__dict__" 604 (.ref 329),de P "__weakref__" 606 (.ref 330),de P "__doc__" 607 .none] 4)),
(328,{ cls:=.type "type",data:=.cls { name:="Rule",bases:=[.type "object"],mro:=[.ref 328,.type "object"],ns:=327,qualname:="Rule" },slots:=#[none,none,some (.str "Rule" 573),some (.str "Rule" 581),some (.builtin "object.__new__"),some (.bool true)] }),
(329,ob "getset_descriptor" (.fields #[.str "__dict__" 603,.ref 328,.builtin "function.__dict__",.builtin "function.__dict__#set"])),
(330,ob "getset_descriptor" (.fields #[.str "__weakref__" 605,.ref 328,.builtin "ExceptionGroup.__weakref__",.none])),
(333,ob "dict" (.dict #[de P "t1" 612 (.ref 336),de P "t2" 615 (.ref 340)] 2)),
(334,ob "tuple" (.seq #[.str "a" 613])),
(335,ob "tuple" (.seq #[.str "b" 614])),
(336,ob "tuple" (.seq #[.ref 334,.ref 335])),
(337,ob "tuple" (.seq #[.str "b" 617])),
(338,ob "tuple" (.seq #[.str "f" 616,.ref 337])),
(339,ob "tuple" (.seq #[.str "c" 618])),
(340,ob "tuple" (.seq #[.ref 338,.ref 339])),
(341,ob "tuple" (.seq #[])),
(343,ob "tuple" (.seq #[])),
(344,ob "tuple" (.seq #[])),
(346,ob "code" (.fields #[.str "_law_rows" 622,.str "_law_rows" 623,.str "/claim/cut.py" 624,.int 223 0,.int 0 0,.int 0 0,.int 0 0,.int 3 0,.ref 341,.bool true,.int 181 0,.ref 342,.none,.ref 343,.ref 344,.ref 345,.int 625 0,.int 223 0,.str "/claim/cut.py" 626])),
(347,ob "function" (.func (fo "_law_rows" "_law_rows" (stAt 30) "law_pq0055_04" 610 346))),
(348,ob "dict" (.dict #[de P "swap" 628 (.ref 349),de P "twin" 631 (.ref 350),de P "turn" 633 (.ref 351)] 3)),
(349,ob "list" (.seq #[.str "?x" 629,.str "?y" 630])),
(350,ob "list" (.seq #[.str "?x" 632])),
(351,ob "list" (.seq #[.str "?x" 634])),
(352,ob "tuple" (.seq #[])),
(354,ob "tuple" (.seq #[.str "bag" 642,.str "many" 643,.str "at" 644])),
(355,ob "tuple" (.seq #[])),
(357,ob "code" (.fields #[.str "_law_pick" 639,.str "_law_pick" 640,.str "/claim/cut.py" 641,.int 226 0,.int 2 0,.int 0 0,.int 0 0,.int 3 0,.ref 352,.bool true,.int 181 0,.ref 353,.none,.ref 354,.ref 355,.ref 356,.int 645 0,.int 226 0,.str "/claim/cut.py" 646])),
(358,ob "function" (.func (fo "_law_pick" "_law_pick" (stAt 32) "law_pq0055_04" 610 357))),
(359,ob "tuple" (.seq #[])),
(361,ob "tuple" (.seq #[.str "bag" 651,.str "deep" 652,.str "way" 653])),
(362,ob "tuple" (.seq #[])),
(364,ob "code" (.fields #[.str "_law_grown" 648,.str "_law_grown" 649,.str "/claim/cut.py" 650,.int 230 0,.int 2 0,.int 0 0,.int 0 0,.int 3 0,.ref 359,.bool true,.int 181 0,.ref 360,.none,.ref 361,.ref 362,.ref 363,.int 654 0,.int 230 0,.str "/claim/cut.py" 655])),
(365,ob "function" (.func (fo "_law_grown" "_law_grown" (stAt 33) "law_pq0055_04" 610 364))),
(366,ob "tuple" (.seq #[])),
(369,ob "code" (.fields #[.str "_law_spots" 657,.str "_law_spots" 658,.str "/claim/cut.py" 659,.int 235 0,.int 1 0,.int 0 0,.int 0 0,.int 3 0,.ref 366,.bool true,.int 181 0,.ref 367,.none,.none,.none,.ref 368,.int 660 0,.int 235 0,.str "/claim/cut.py" 661])),
(370,ob "function" (.func (fo "_law_spots" "_law_spots" (stAt 34) "law_pq0055_04" 610 369))),
(371,ob "tuple" (.seq #[])),
(373,ob "tuple" (.seq #[.str "t" 666,.str "path" 667,.str "k" 668])),
(374,ob "tuple" (.seq #[])),
(376,ob "code" (.fields #[.str "_law_there" 663,.str "_law_there" 664,.str "/claim/cut.py" 665,.int 237 0,.int 2 0,.int 0 0,.int 0 0,.int 3 0,.ref 371,.bool true,.int 181 0,.ref 372,.none,.ref 373,.ref 374,.ref 375,.int 669 0,.int 237 0,.str "/claim/cut.py" 670])),
(377,ob "function" (.func (fo "_law_there" "_law_there" (stAt 35) "law_pq0055_04" 610 376))),
(378,ob "tuple" (.seq #[])),
(380,ob "tuple" (.seq #[.str "t" 675,.str "path" 676,.str "late" 677])),
(381,ob "tuple" (.seq #[])),
(383,ob "code" (.fields #[.str "_law_instead" 672,.str "_law_instead" 673,.str "/claim/cut.py" 674,.int 243 0,.int 3 0,.int 0 0,.int 0 0,.int 3 0,.ref 378,.bool true,.int 181 0,.ref 379,.none,.ref 380,.ref 381,.ref 382,.int 678 0,.int 243 0,.str "/claim/cut.py" 679])),
(384,ob "function" (.func (fo "_law_instead" "_law_instead" (stAt 36) "law_pq0055_04" 610 383))),
(385,ob "tuple" (.seq #[])),
(388,ob "code" (.fields #[.str "_law_filled" 681,.str "_law_filled" 682,.str "/claim/cut.py" 683,.int 247 0,.int 2 0,.int 0 0,.int 0 0,.int 3 0,.ref 385,.bool true,.int 181 0,.ref 386,.none,.none,.none,.ref 387,.int 684 0,.int 247 0,.str "/claim/cut.py" 685])),
(389,ob "function" (.func (fo "_law_filled" "_law_filled" (stAt 37) "law_pq0055_04" 610 388))),
(390,ob "tuple" (.seq #[])),
(392,ob "tuple" (.seq #[.str "pattern" 690,.str "t" 691,.str "table" 692,.str "part" 693,.str "kid" 694])),
(393,ob "tuple" (.seq #[])),
(395,ob "code" (.fields #[.str "_law_fits" 687,.str "_law_fits" 688,.str "/claim/cut.py" 689,.int 251 0,.int 3 0,.int 0 0,.int 0 0,.int 3 0,.ref 390,.bool true,.int 181 0,.ref 391,.none,.ref 392,.ref 393,.ref 394,.int 695 0,.int 251 0,.str "/claim/cut.py" 696])),
(396,ob "function" (.func (fo "_law_fits" "_law_fits" (stAt 38) "law_pq0055_04" 610 395))),
(397,ob "tuple" (.seq #[])),
(400,ob "code" (.fields #[.str "_law_done" 698,.str "_law_done" 699,.str "/claim/cut.py" 700,.int 259 0,.int 2 0,.int 0 0,.int 0 0,.int 3 0,.ref 397,.bool true,.int 181 0,.ref 398,.none,.none,.none,.ref 399,.int 701 0,.int 259 0,.str "/claim/cut.py" 702])),
(401,ob "function" (.func (fo "_law_done" "_law_done" (stAt 39) "law_pq0055_04" 610 400))),
(402,ob "tuple" (.seq #[])),
(405,ob "code" (.fields #[.str "_law_able" 704,.str "_law_able" 705,.str "/claim/cut.py" 706,.int 268 0,.int 1 0,.int 0 0,.int 0 0,.int 3 0,.ref 402,.bool true,.int 181 0,.ref 403,.none,.none,.none,.ref 404,.int 707 0,.int 268 0,.str "/claim/cut.py" 708])),
(406,ob "function" (.func (fo "_law_able" "_law_able" (stAt 40) "law_pq0055_04" 610 405))),
(407,ob "tuple" (.seq #[])),
(410,ob "code" (.fields #[.str "_law_bent" 710,.str "_law_bent" 711,.str "/claim/cut.py" 712,.int 280 0,.int 2 0,.int 0 0,.int 0 0,.int 3 0,.ref 407,.bool true,.int 181 0,.ref 408,.none,.none,.none,.ref 409,.int 713 0,.int 280 0,.str "/claim/cut.py" 714])),
(411,ob "function" (.func (fo "_law_bent" "_law_bent" (stAt 41) "law_pq0055_04" 610 410))),
(412,ob "tuple" (.seq #[])),
(414,ob "tuple" (.seq #[.str "ask" 719,.str "term" 720,.str "steps" 721,.str "fault" 722])),
(415,ob "tuple" (.seq #[])),
(417,ob "code" (.fields #[.str "_law_heard" 716,.str "_law_heard" 717,.str "/claim/cut.py" 718,.int 300 0,.int 3 0,.int 0 0,.int 0 0,.int 3 0,.ref 412,.bool true,.int 181 0,.ref 413,.none,.ref 414,.ref 415,.ref 416,.int 723 0,.int 300 0,.str "/claim/cut.py" 724])),
(418,ob "function" (.func (fo "_law_heard" "_law_heard" (stAt 42) "law_pq0055_04" 610 417))),
(419,ob "tuple" (.seq #[])),
(422,ob "code" (.fields #[.str "law" 726,.str "law" 727,.str "/claim/cut.py" 728,.int 305 0,.int 1 0,.int 0 0,.int 0 0,.int 3 0,.ref 419,.bool true,.int 181 0,.ref 420,.none,.none,.none,.ref 421,.int 729 0,.int 305 0,.str "/claim/cut.py" 730])),
(423,ob "function" (.func (fo "law" "law" (stAt 43) "law_pq0055_04" 610 422)))]
end Mine
open Mine
set_option maxHeartbeats 2000000
namespace Mine
variable [Membership Addr Zip0]
noncomputable abbrev gtab:List (Str×Option Value):=[(("len" : Str),none),(("sorted" : Str),none),(("set" : Str),none),(("tuple" : Str),none),(("list" : Str),none),(("dict" : Str),none),(("int" : Str),none),(("range" : Str),none),(("enumerate" : Str),none),(("zip" : Str),none),(("abs" : Str),none),(("repr" : Str),none),(("super" : Str),none),(("is_variable" : Str),some (Value.ref 109)),(("variables" : Str),some (Value.ref 114)),(("placed" : Str),some (Value.ref 119)),(("parts" : Str),some (Value.ref 124)),(("part_at" : Str),some (Value.ref 131)),(("replaced" : Str),some (Value.ref 138)),(("PaperFault" : Str),some (Value.ref 100)),(("TermFault" : Str),some (Value.ref 60)),(("RuleFault" : Str),some (Value.ref 72)),(("Judge" : Str),some (Value.ref 241)),(("Steps" : Str),some (Value.ref 302)),(("Rule" : Str),some (Value.ref 328)),(("_law_told" : Str),some (Value.ref 333)),(("_law_rows" : Str),some (Value.ref 347)),(("_law_names" : Str),some (Value.ref 348)),(("_law_pick" : Str),some (Value.ref 358)),(("_law_grown" : Str),some (Value.ref 365)),(("_law_spots" : Str),some (Value.ref 370)),(("_law_there" : Str),some (Value.ref 377)),(("_law_instead" : Str),some (Value.ref 384)),(("_law_filled" : Str),some (Value.ref 389)),(("_law_fits" : Str),some (Value.ref 396)),(("_law_done" : Str),some (Value.ref 401)),(("_law_able" : Str),some (Value.ref 406)),(("_law_bent" : Str),some (Value.ref 411)),(("_law_heard" : Str),some (Value.ref 418))]
noncomputable abbrev tm (s:Str)(l:List V):V:=.tup (.str s::l)
inductive Tm where
 | mk (s:Str) (ks:List Tm)
mutual
noncomputable def Tm.v:Tm→V
 | .mk s ks=>.tup (.str s::Tm.vs ks)
noncomputable def Tm.vs:List Tm→List V
 | []=>[]
 | t::ts=>t.v::Tm.vs ts
end
theorem jr1:Tm.v (.mk s ks)=(.tup (.str s::Tm.vs ks)):=rfl
theorem js1:Tm.vs []=([]):=rfl
theorem js2:Tm.vs (t::ts)=(t.v::Tm.vs ts):=rfl
mutual
noncomputable def Tm.sz:Tm→Nat
 | .mk _ ks=>1+Tm.szs ks
noncomputable def Tm.szs:List Tm→Nat
 | []=>0
 | t::ts=>t.sz+Tm.szs ts
end
theorem jp1:Tm.sz (.mk w1 ks)=(1+Tm.szs ks):=rfl
theorem jq1:Tm.szs []=(0):=rfl
theorem jq2:Tm.szs (t::ts)=(t.sz+Tm.szs ts):=rfl
mutual
noncomputable def Tm.ht:Tm→Nat
 | .mk _ ks=>1+Tm.hts ks
noncomputable def Tm.hts:List Tm→Nat
 | []=>0
 | t::ts=>max t.ht (Tm.hts ts)
end
theorem jj1:Tm.ht (.mk w1 ks)=(1+Tm.hts ks):=rfl
theorem jk1:Tm.hts []=(0):=rfl
theorem jk2:Tm.hts (t::ts)=(max t.ht (Tm.hts ts)):=rfl
noncomputable def nameOk (s:Str):Prop:=okS s∧okS (Txt.slice s none (some 1))
mutual
noncomputable def Tm.ok:Tm→Prop
 | .mk s ks=>nameOk s∧Tm.oks ks
noncomputable def Tm.oks:List Tm→Prop
 | []=>True
 | t::ts=>t.ok∧Tm.oks ts
end
theorem jl1:Tm.ok (.mk s ks)=(nameOk s∧Tm.oks ks):=rfl
theorem jo1:Tm.oks []=(True):=rfl
theorem jo2:Tm.oks (t::ts)=(t.ok∧Tm.oks ts):=rfl
noncomputable def Tm.hd:Tm→Str
 | .mk s _=>s
noncomputable def Tm.kids:Tm→List Tm
 | .mk _ ks=>ks
noncomputable def qm (s:Str):Bool:=decide (Txt.slice s none (some 1)="?")
noncomputable def Tm.isVar:Tm→Bool
 | .mk s ks=>decide (ks.length=0)&&qm s
mutual
noncomputable def partsT:Tm→List (List Nat×Tm)
 | .mk s ks=>([],.mk s ks)::partsTs 0 ks
noncomputable def partsTs:Nat→List Tm→List (List Nat×Tm)
 | _,[]=>[]
 | k,t::ts=>(partsT t).map (fun p=>(k::p.1,p.2))++partsTs (k+1) ts
end
theorem jF1:partsT (.mk s ks)=(([],.mk s ks)::partsTs 0 ks):=rfl
theorem jG1:partsTs w1 []=([]):=rfl
theorem jG2:partsTs k (t::ts)=((partsT t).map (fun p=>(k::p.1,p.2))++partsTs (k+1) ts):=rfl
theorem Tm.vs_length:∀ l:List Tm,(Tm.vs l).length=l.length
 | []=>rfl
 | t::ts=>by simp [js1,js2,Tm.vs_length ts]
theorem Tm.vs_map:∀ l:List Tm,Tm.vs l=l.map Tm.v
 | []=>rfl
 | t::ts=>by simp [js1,js2,Tm.vs_map ts]
noncomputable abbrev pathV (p:List Nat):V:=.tup (p.map fun (k:Nat)=>.int k)
noncomputable abbrev ppV (p:List Nat×Tm):V:=.tup [pathV p.1,p.2.v]
mutual
theorem partsT_length:∀ t:Tm,(partsT t).length=t.sz
 | .mk s ks=>by simp only[jF1,jp1,List.length_cons,partsTs_length 0 ks];lia
theorem partsTs_length:∀ (k:Nat) (l:List Tm),(partsTs k l).length=Tm.szs l
 | _,[]=>rfl
 | k,t::ts=>by simp only[jG1,jG2,jq1,jq2,List.length_append,List.length_map,partsT_length t,partsTs_length (k+1) ts]
end
theorem szs_ge:∀ l:List Tm,l.length≤Tm.szs l
 | []=>Nat.le_refl _
 | .mk s ks::ts=>by have:=szs_ge ts;simp only[List.length_cons,jq1,jq2,jp1];lia
section
variable {c:Cx}{P:Params}{n:Nat}{hn:Bool}{σ:Sig}{X:PX}{Q:PV}
theorem C_isvar (H:Gs c (KK P) gtab){t:Tm}(ht:t.sz≤1000)(hs:nameOk t.hd)(q:Q (.bool t.isVar) σ):CodeOp c ⟨n+1,hn⟩ σ (.ref 109) [t.v] Q X:=by
 obtain ⟨s,ks⟩:=t
 have hz:(Tm.vs ks).length≤1000:=by have:=szs_ge ks;rw[Tm.vs_length];simp only[jp1] at ht;lia
 refine K_fnV 60 H (f:=109) (params:=["t"]) (locs:=[]) (ρ1:=[("t",some (.tup (.str s::Tm.vs ks)))]) rfl rfl rfl rfl rfl rfl rfl rfl rfl (len1 fun _=>rfl) rfl (by decide) rfl rfl ?_
 intro L
 apply lf;(with_reducible refine B_len_tup ?a1 ?z2);(case z2=>(simp;exact nle (by assumption) (by rfl)));apply lf;(with_reducible refine O_eqI ?_)
 refine Br.mk (fun h1=>?_) (fun h1=>?_)
 · apply lf;(with_reducible refine I_t0 ?_);apply lf
   refine Sl_str ?_ hs.2
   apply lf;(with_reducible refine O_eqS ?_);apply lf
   refine⟨_,.refl _,?_⟩
   simp only[List.length_cons,Tm.vs_length,decide_eq_true_eq] at h1
   have:ks.length=0:=by lia
   show Q (.bool _) σ
   simpa only[Tm.isVar,this,qm,decide_true,Bool.true_and] using q
 · apply lf
   refine⟨_,.refl _,?_⟩
   simp only[List.length_cons,Tm.vs_length,decide_eq_false_iff_not] at h1
   have:ks.length≠0:=by lia
   show Q (.bool _) σ
   simpa only[Tm.isVar,this,qm,decide_false,Bool.false_and] using q
theorem sz_pos:∀ t:Tm,0<t.sz
 | .mk s ks=>by simp only[jp1];exact Nat.le_add_right _ _
theorem szs_append:∀ a b:List Tm,Tm.szs (a++b)=Tm.szs a+Tm.szs b
 | [],b=>by simp [jq1,jq2]
 | t::a,b=>by simp only[List.cons_append,jq1,jq2,szs_append a b];lia
theorem hts_append:∀ a b:List Tm,Tm.hts (a++b)=max (Tm.hts a) (Tm.hts b)
 | [],b=>by simp [jk1,jk2]
 | t::a,b=>by simp only[List.cons_append,jk1,jk2,hts_append a b];exact (Nat.max_assoc ..).symm
theorem partsTs_append:∀ (k:Nat) (a b:List Tm),partsTs k (a++b)=partsTs k a++partsTs (k+a.length) b
 | k,[],b=>by simp [jG1,jG2]
 | k,t::a,b=>by simp only[List.cons_append,jG1,jG2,partsTs_append (k+1) a b,List.length_cons,List.append_assoc];congr 3;lia
mutual
theorem partsT_path:∀ (t:Tm) (a:List Nat×Tm),a∈partsT t→a.1.length<t.sz
 | .mk s ks,a,h=>by
  simp only[jF1,List.mem_cons,jp1] at h ⊢
  rcases h with rfl | h
  · simp;exact Nat.le_add_right _ _
  · have:=partsTs_path 0 ks a h;lia
theorem partsTs_path:∀ (k:Nat) (l:List Tm) (a:List Nat×Tm),a∈partsTs k l→a.1.length≤Tm.szs l
 | _,[],a,h=>by simp [jG1,jG2] at h
 | k,t::ts,a,h=>by
  simp only[jG1,jG2,List.mem_append,List.mem_map,jq1,jq2] at h ⊢
  rcases h with ⟨p,hp,rfl⟩ | h
  · have:=partsT_path t p hp;simp only[List.length_cons];lia
  · have:=partsTs_path (k+1) ts a h;lia
end
theorem filt_true {α:Type}(l:List α):l.filter (fun _=>true)=l:=by simp
inductive partsI (s:Str) (ks:List Tm) (σ:Sig) (D:Addr) (l:List V) (ρ1:Rho) (σ1:Sig):Prop
 | mk (done rest:List Tm) (u w:Option V) (h1:ks=done++rest) (h2:l=enumV done.length (Tm.vs rest)) (h3:ρ1=([("t",some (.tup (.str s::Tm.vs ks))),("found",some (.raw (.ref D))),("k",u),("kid",w)]:Rho)) (h4:Sub (upd σ D (.list ((([],.mk s ks)::partsTs 0 done).map ppV))) σ1):partsI s ks σ D l ρ1 σ1
theorem C_parts (H:Gs c (KK P) gtab):∀ (m n:Nat) (σ:Sig) (Q:PV) (X:PX) (t:Tm),t.ht≤m→t.sz≤1000→(∀ D,σ D=none→Q (.raw (.ref D)) (upd σ D (.list ((partsT t).map ppV))))→CodeOp c ⟨n+m,true⟩ σ (.ref 124) [t.v] Q X:=by
 intro m
 induction m with
 | zero=>intro n σ Q X t h1;obtain ⟨s,ks⟩:=t;simp only[jj1] at h1;lia
 | succ m ih=>
 intro n σ Q X t h1 h2 q
 obtain ⟨s,ks⟩:=t
 have hz:(Tm.vs ks).length≤1000:=by have:=szs_ge ks;rw[Tm.vs_length];simp only[jp1] at h2;lia
 refine K_fnV 60 H (f:=124) (params:=["t"]) (locs:=["found","k","kid"]) (ρ1:=[("t",some (.tup (.str s::Tm.vs ks))),("found",none),("k",none),("kid",none)]) rfl rfl rfl rfl rfl rfl rfl rfl rfl (len1 fun _=>rfl) rfl (by decide) rfl rfl ?_
 intro L
 apply lf
 intro D hD
 apply lf
 refine S_forV 60 H rfl rfl (fun _=>rfl) ?_
 refine IG_callV 60 (by assumption) rfl rfl rfl ?_
 apply lf;(with_reducible refine Sl_1 ?z3 ?a4);(case z3=>exact nll (by assumption) (by rfl));apply lf;refine⟨Kee.type,?_⟩
 refine CI_enum ?_
 refine⟨⟨_,_,_,rfl⟩,partsI s ks σ D,⟨[],ks,none,none,rfl,rfl,rfl,.refl _⟩,?_,?_⟩
 · intro v l ρ1 σ1 zu83
   obtain ⟨done,rest,u,w,e1,e2,rfl,hs⟩:=zu83
   have hD1:=hs _ _ (upd_same _ _ _)
   cases rest with
   | nil=>simp [js1,js2,jx1,jx2] at e2
   | cons kid rest=>
    simp only[js1,js2,jx1,jx2,List.cons.injEq] at e2
    obtain ⟨rfl,rfl⟩:=e2
    have hk:kid.ht≤m∧kid.sz+Tm.szs done≤999:=by
     simp only[jj1,jp1,e1,szs_append,hts_append,jq1,jq2,jk1,jk2] at h1 h2;lia
    refine⟨trivial,?_⟩
    apply lf;(with_reducible refine' exM_extend ?s5 ?a6);(case s5=>assumption);apply lf
    refine G_lcI (cl:=[("k",L+1)]) (ρc:=[("k",some (.int (done.length:Nat))),("path",none),("part",none)]) rfl (by (refine CompX.of ?k1 ?k2 ?k3 ?k4 ?k5 ?k6 ?k7 ?k8 ?k9;(case k1=>rfl);(case k2=>rfl);(case k3=>rfl);(case k4=>rfl);(case k5=>repeat (first | with_reducible exact all_nil | ((with_reducible refine all_cons ?_ ?_);rfl)));(case k6=>simp);(case k7=>exact of_decide_eq_true rfl);(case k8=>repeat (first | with_reducible exact all_nil | ((with_reducible refine all_cons ?_ ?_);first | exact KeyP.loc rfl | (refine KeyP.cap ?_ rfl rfl rfl rfl;repeat (first | exact List.mem_cons_self | refine List.mem_cons_of_mem _ ?_)))));(case k9=>repeat (first | exact all_nil | (refine all_cons ?_ ?_;rfl))))) (fun _=>rfl) ?_
    refine IG_plainV 60 (by assumption) rfl ?_
    apply lf
    refine (ih n _ _ _ kid hk.1 (by lia) fun D2 hD2=>?_).call
    apply lf
    refine IO_list (l:=(partsT kid).map ppV) (.inl (upd_same _ _ _)) ?_
    have hp:(partsT kid).length≤1000:=by rw[partsT_length];lia
    refine comp_map (partsT kid) ppV (fun p=>ppV (done.length::p.1,p.2)) (fun _=>true) trivial (.inl (upd_same _ _ _)) rfl (by exact nll (by assumption) (by rfl)) ?_ ?_
    · intro C a ha
      have hl:a.1.length≤1000:=by have:=partsT_path kid a ha;lia
      (with_reducible refine' exTakes ?p7 ?a8);(case p7=>with_reducible (repeat (first | exact Put.here | apply Put.there | exact TakesL.nil | apply Takes.name | apply Takes.tup | apply TakesL.cons)));(with_reducible refine CompT_nil ?_)
      refine⟨rfl,?_⟩
      refine Vc.e 60 (by assumption) rfl ?_
      apply lf;(with_reducible refine O_addT ?a9 ?z10);(case z10=>(simp;lia))
      exact⟨rfl,.refl _⟩
    · intro D3 hD3
      apply lf
      refine B_extend (by (refine upd_keep (by assumption) ?_;refine upd_keep (by assumption) ?_;assumption)) (by exact upd_same _ _ _) ?_ ?_
      · apply lf
        refine⟨done++[kid],rest,_,_,by rw[e1];simp,by simp,rfl,?_⟩
        have e:(([],Tm.mk s ks)::partsTs 0 (done++[kid])).map ppV=(([],Tm.mk s ks)::partsTs 0 done).map ppV++((partsT kid).filter fun _=>true).map fun p=>ppV (done.length::p.1,p.2):=by
         rw[filt_true];simp [partsTs_append,jG1,jG2]
        rw[e]
        exact Sub.over (hs.trans (Sub.fresh (Sub.fresh (.refl _) hD2) hD3))
      · simp only[List.length_map,List.length_cons,partsTs_length,filt_true,partsT_length];lia
 · intro ρ1 σ1 zu84
   obtain ⟨done,rest,u,w,e1,e2,rfl,hs⟩:=zu84
   have:rest=[]:=by
    cases rest with
    | nil=>rfl
    | cons a r=>simp [js1,js2,jx1,jx2] at e2
   subst this
   rw[List.append_nil] at e1;subst e1
   refine⟨trivial,?_⟩
   apply lf
   exact⟨_,hs,q D hD⟩
end
end Mine
namespace Mine
variable [Membership Addr Zip0]
noncomputable def varsL (t:Tm):List Str:=((partsT t).filter (fun p=>p.2.isVar)).map (fun p=>p.2.hd)
mutual
theorem parts_ok:∀ (t:Tm),t.ok→∀ a∈partsT t,a.2.ok∧a.2.sz≤t.sz
 | .mk s ks,h,a,ha=>by
  simp only[jF1,List.mem_cons] at ha
  rcases ha with rfl | ha
  · exact⟨h,Nat.le_refl _⟩
  · simp only[jl1] at h
    have:=partss_ok 0 ks h.2 a ha
    exact⟨this.1,by simp only[jp1];lia⟩
theorem partss_ok:∀ (k:Nat) (l:List Tm),Tm.oks l→∀ a∈partsTs k l,a.2.ok∧a.2.sz≤Tm.szs l
 | _,[],_,a,ha=>by simp [jG1,jG2] at ha
 | k,t::ts,h,a,ha=>by
  simp only[jG1,jG2,List.mem_append,List.mem_map] at ha
  simp only[jo1,jo2] at h
  rcases ha with ⟨p,hp,rfl⟩ | ha
  · have:=parts_ok t h.1 p hp
    exact⟨this.1,by simp only[jq1,jq2];lia⟩
  · have:=partss_ok (k+1) ts h.2 a ha
    exact⟨this.1,by simp only[jq1,jq2];lia⟩
end
theorem hd_ok:∀ {t:Tm},t.ok→nameOk t.hd
 | .mk s ks,h=>by simp only[jl1] at h;exact h.1
theorem ht_sz:∀ t:Tm,t.ht≤t.sz
 | .mk s ks=>by
  simp only[jj1,jp1]
  have:=hts_szs ks;lia
where hts_szs:∀ l:List Tm,Tm.hts l≤Tm.szs l
 | []=>Nat.le_refl _
 | t::ts=>by
  simp only[jk1,jk2,jq1,jq2]
  have:=hts_szs ts;have:=ht_sz t;lia
theorem mem_dedupS {k:Str}:∀ {l acc:List Str},k∈dedupS acc l→k∈acc∨k∈l
 | [],acc,h=>.inl h
 | x::l,acc,h=>by
  rcases mem_dedupS (l:=l) h with h | h
  · split at h
    · exact .inl h
    · rcases List.mem_append.mp h with h | h
      · exact .inl h
      · exact .inr (by simp at h;simp [h])
  · exact .inr (.tail _ h)
theorem dedupS_length:∀ {l acc:List Str},(dedupS acc l).length≤acc.length+l.length
 | [],acc=>Nat.le_refl _
 | x::l,acc=>by
  refine Nat.le_trans (dedupS_length (l:=l)) ?_
  split <;> simp <;> lia
section
variable {c:Cx}{P:Params}{n:Nat}{hn:Bool}{σ:Sig}{X:PX}{Q:PV}
theorem C_vars (H:Gs c (KK P) gtab){t:Tm}(hk:t.ok)(hs:t.sz<60)(q:∀ ss,ss.Perm (dedupS [] (varsL t))→sortedS ss=true→∀ D,σ D=none→Q (.raw (.ref D)) (upd σ D (.list (ss.map .str)))):CodeOp c ⟨n+61,true⟩ σ (.ref 114) [t.v] Q X:=by
 have hl:(varsL t).length<60:=by
  unfold varsL
  have:=List.length_filter_le (fun p=>p.2.isVar) (partsT t)
  rw[partsT_length] at this
  rw[List.length_map];(refine Nat.lt_of_le_of_lt (by assumption) ?_;assumption)
 refine K_fnV 60 H (f:=114) (params:=["t"]) (locs:=[]) (ρ1:=[("t",some (t.v))]) rfl rfl rfl rfl rfl rfl rfl rfl rfl (len1 fun _=>rfl) rfl (by decide) rfl rfl ?_
 intro L
 apply lf
 refine G_lcI (cl:=[]) (ρc:=[("path",none),("part",none)]) rfl (by (refine CompX.of ?k1 ?k2 ?k3 ?k4 ?k5 ?k6 ?k7 ?k8 ?k9;(case k1=>rfl);(case k2=>rfl);(case k3=>rfl);(case k4=>rfl);(case k5=>repeat (first | with_reducible exact all_nil | ((with_reducible refine all_cons ?_ ?_);rfl)));(case k6=>simp);(case k7=>exact of_decide_eq_true rfl);(case k8=>repeat (first | with_reducible exact all_nil | ((with_reducible refine all_cons ?_ ?_);first | exact KeyP.loc rfl | (refine KeyP.cap ?_ rfl rfl rfl rfl;repeat (first | exact List.mem_cons_self | refine List.mem_cons_of_mem _ ?_)))));(case k9=>repeat (first | exact all_nil | (refine all_cons ?_ ?_;rfl))))) (fun _=>rfl) ?_
 refine IG_plainV 60 (by assumption) rfl ?_
 apply lf
 refine (C_parts H 60 n _ _ _ t (by have:=ht_sz t;lia) (by exact nlh (by assumption) (by rfl)) fun D2 hD2=>?_).call
 apply lf
 refine IO_list (l:=(partsT t).map ppV) (.inl (upd_same _ _ _)) ?_
 have hp:(partsT t).length≤1000:=by rw[partsT_length];exact nlh (by assumption) (by rfl)
 refine comp_map (partsT t) ppV (fun p=>.str p.2.hd) (fun p=>p.2.isVar) trivial (.inl (upd_same _ _ _)) rfl (by exact nll (by assumption) (by rfl)) ?_ ?_
 · intro C zu85 ha
   obtain ⟨p,⟨s,ks⟩⟩:=zu85
   have hok:=parts_ok t hk _ ha
   (with_reducible refine' exTakes ?p11 ?a12);(case p11=>with_reducible (repeat (first | exact Put.here | apply Put.there | exact TakesL.nil | apply Takes.name | apply Takes.tup | apply TakesL.cons)));(with_reducible refine CompT_one ?_)
   refine Vc.t 60 (by assumption) rfl ?_
   apply lf
   refine (C_isvar H (t:=.mk s ks) (by have:=hok.2;simp only at this;lia) (hd_ok hok.1) ?_).call
   cases h1:(Tm.mk s ks).isVar with
   | true=>
    refine And.intro rfl ?_
    refine Vc.e 60 (by assumption) rfl ?_
    apply lf
    refine I_t0 (l:=Tm.vs ks) ?_
    exact⟨rfl,.refl _⟩
   | false=>exact And.intro rfl (.refl _)
 · intro D3 hD3
   apply lf
   have e1:(List.filter (fun p=>p.2.isVar) (partsT t)).map (fun p=>V.str p.2.hd)=(varsL t).map .str:=by simp [varsL]
   rw[e1]
   refine B_set rfl (ss:=varsL t) (.inl (upd_same _ _ _)) (fun D4 hD4=>?_) (by exact nle (by assumption) (by rfl))
   apply lf
   refine B_sorted_set rfl (upd_same _ _ _) ?_ (fun ss p1 p2 D5 hD5=>?_) (by have:=dedupS_length (l:=varsL t) (acc:=[]);simp at this;(refine Nat.lt_of_le_of_lt (by assumption) ?_;assumption))
   · intro k hk'
     rcases mem_dedupS hk' with h | h
     · simp at h
     · unfold varsL at h
       refine el75 (List.mem_map.mp h) ?_;intro a ha ze287;subst ze287
       exact (hd_ok (parts_ok t hk a (List.mem_filter.mp ha).1).1).1
   · apply lf
     exact⟨_,Sub.cong (Sub.fresh (Sub.fresh (Sub.fresh (.refl _) hD2) hD3) hD4),q ss p1 p2 D5 ((Sub.fresh (Sub.fresh (Sub.fresh (.refl _) hD2) hD3) hD4).none hD5)⟩
end
end Mine
namespace Mine
variable [Membership Addr Zip0]
mutual
noncomputable def fillT (tbl:List (Str×V)):Tm→V
 | .mk s ks=>if (Tm.mk s ks).isVar then (assoc tbl s).getD .none else .tup (.str s::fillTs tbl ks)
noncomputable def fillTs (tbl:List (Str×V)):List Tm→List V
 | []=>[]
 | t::ts=>fillT tbl t::fillTs tbl ts
end
theorem jz1 (tbl:List (Str×V)):fillT tbl (.mk s ks)=(if (Tm.mk s ks).isVar then (assoc tbl s).getD .none else .tup (.str s::fillTs tbl ks)):=rfl
theorem jA1 (tbl:List (Str×V)):fillTs tbl []=([]):=rfl
theorem jA2 (tbl:List (Str×V)):fillTs tbl (t::ts)=(fillT tbl t::fillTs tbl ts):=rfl
mutual
noncomputable def Tm.cov (tbl:List (Str×V)):Tm→Prop
 | .mk s ks=>((Tm.mk s ks).isVar=true→(assoc tbl s).isSome=true)∧Tm.covs tbl ks
noncomputable def Tm.covs (tbl:List (Str×V)):List Tm→Prop
 | []=>True
 | t::ts=>t.cov tbl∧Tm.covs tbl ts
end
theorem jd1 (tbl:List (Str×V)):Tm.cov tbl (.mk s ks)=(((Tm.mk s ks).isVar=true→(assoc tbl s).isSome=true)∧Tm.covs tbl ks):=rfl
theorem jg1 (tbl:List (Str×V)):Tm.covs tbl []=(True):=rfl
theorem jg2 (tbl:List (Str×V)):Tm.covs tbl (t::ts)=(t.cov tbl∧Tm.covs tbl ts):=rfl
mutual
noncomputable def putT (tbl:List (Str×V)):Tm→V
 | .mk s ks=>match assoc tbl s with
  | some v=>v
  | none=>.tup (.str s::putTs tbl ks)
noncomputable def putTs (tbl:List (Str×V)):List Tm→List V
 | []=>[]
 | t::ts=>putT tbl t::putTs tbl ts
end
theorem jM1 (tbl:List (Str×V)):putT tbl (.mk s ks)=(match assoc tbl s with
  | some v=>v
  | none=>.tup (.str s::putTs tbl ks)):=rfl
theorem jN1 (tbl:List (Str×V)):putTs tbl []=([]):=rfl
theorem jN2 (tbl:List (Str×V)):putTs tbl (t::ts)=(putT tbl t::putTs tbl ts):=rfl
theorem fillTs_map (tbl:List (Str×V)):∀ l,fillTs tbl l=l.map (fillT tbl)
 | []=>rfl
 | t::ts=>by simp [jA1,jA2,fillTs_map tbl ts]
theorem putTs_map (tbl:List (Str×V)):∀ l,putTs tbl l=l.map (putT tbl)
 | []=>rfl
 | t::ts=>by simp [jN1,jN2,putTs_map tbl ts]
theorem hts_mem:∀ {l:List Tm}{t:Tm},t∈l→t.ht≤Tm.hts l∧t.sz≤Tm.szs l
 | a::l,t,h=>by
  simp only[jk1,jk2,jq1,jq2]
  rcases List.mem_cons.mp h with rfl | h
  · lia
  · have:=hts_mem h;lia
theorem covs_mem {tbl:List (Str×V)}:∀ {l:List Tm}{t:Tm},Tm.covs tbl l→t∈l→t.cov tbl
 | a::l,t,hc,h=>by
  simp only[jg1,jg2] at hc
  rcases List.mem_cons.mp h with rfl | h
  · exact hc.1
  · exact covs_mem hc.2 h
theorem oks_mem:∀ {l:List Tm}{t:Tm},Tm.oks l→t∈l→t.ok
 | a::l,t,hc,h=>by
  simp only[jo1,jo2] at hc
  rcases List.mem_cons.mp h with rfl | h
  · exact hc.1
  · exact oks_mem hc.2 h
section
variable {c:Cx}{P:Params}{n:Nat}{hn:Bool}{σ:Sig}{X:PX}{Q:PV}
theorem C_placed (H:Gs c (KK P) gtab){d:Addr}{tbl:List (Str×V)}:∀ (m n:Nat) (σ:Sig) (Q:PV) (X:PX) (t:Tm),t.ht≤m→t.sz≤1000→t.ok→t.cov tbl→DR c σ d tbl→Q (fillT tbl t) σ→CodeOp c ⟨n+m+1,true⟩ σ (.ref 119) [t.v,.raw (.ref d)] Q X:=by
 intro m
 induction m with
 | zero=>intro n σ Q X t h1;obtain ⟨s,ks⟩:=t;simp only[jj1] at h1;lia
 | succ m ih=>
 intro n σ Q X t h1 h2 h3 h4 hd q
 obtain ⟨s,ks⟩:=t
 have hz:(Tm.vs ks).length≤1000:=by have:=szs_ge ks;rw[Tm.vs_length];simp only[jp1] at h2;lia
 refine K_fnV 60 H (f:=119) (params:=["pattern","table"]) (locs:=[]) (ρ1:=[("pattern",some (.tup (.str s::Tm.vs ks))),("table",some (.raw (.ref d)))]) rfl rfl rfl rfl rfl rfl rfl rfl rfl (len2 fun _ _=>rfl) rfl (by decide) rfl rfl ?_
 intro L
 apply lf
 refine (C_isvar H (t:=.mk s ks) h2 (hd_ok h3) ?_).call
 cases hv:(Tm.mk s ks).isVar with
 | false=>
  refine Br.tt ?_;apply lf;(with_reducible refine I_t0 ?_);apply lf
  refine G_lcI (cl:=[("table",L+1)]) (ρc:=[("table",some (.raw (.ref d))),("kid",none)]) rfl (by (refine CompX.of ?k1 ?k2 ?k3 ?k4 ?k5 ?k6 ?k7 ?k8 ?k9;(case k1=>rfl);(case k2=>rfl);(case k3=>rfl);(case k4=>rfl);(case k5=>repeat (first | with_reducible exact all_nil | ((with_reducible refine all_cons ?_ ?_);rfl)));(case k6=>simp);(case k7=>exact of_decide_eq_true rfl);(case k8=>repeat (first | with_reducible exact all_nil | ((with_reducible refine all_cons ?_ ?_);first | exact KeyP.loc rfl | (refine KeyP.cap ?_ rfl rfl rfl rfl;repeat (first | exact List.mem_cons_self | refine List.mem_cons_of_mem _ ?_)))));(case k9=>repeat (first | exact all_nil | (refine all_cons ?_ ?_;rfl))))) (fun _=>rfl) ?_
  refine IG_plainV 60 (by assumption) rfl ?_
  apply lf;(with_reducible refine Sl_1 ?z13 ?a14);(case z13=>exact nll (by assumption) (by rfl));apply lf
  refine IO_tup ?_
  refine comp_map ks Tm.v (fillT tbl) (fun _=>true) trivial trivial (Tm.vs_map ks) (by rw[← Tm.vs_length];exact nll (by assumption) (by rfl)) ?_ ?_
  · intro C a ha
    have hm:=hts_mem ha
    simp only[jj1,jp1,jd1,jl1] at h1 h2 h3 h4
    (with_reducible refine' exTakes ?p15 ?a16);(case p15=>with_reducible (repeat (first | exact Put.here | apply Put.there | exact TakesL.nil | apply Takes.name | apply Takes.tup | apply TakesL.cons)));(with_reducible refine CompT_nil ?_)
    refine⟨rfl,?_⟩
    refine Vc.e 60 (by assumption) rfl ?_
    apply lf
    exact (ih n _ _ _ a (by lia) (by lia) (oks_mem h3.2 ha) (covs_mem h4.2 ha) hd ⟨rfl,.refl _⟩).call
  · intro D hD
    have hz2:(fillTs tbl ks).length≤1000:=by rw[fillTs_map,List.length_map,← Tm.vs_length];assumption
    apply lf
    refine B_tuple_list (l:=fillTs tbl ks) ?_ (.inl ?_) ?_
    · apply lf;(with_reducible refine O_addT ?a17 ?z18);(case z18=>(simp;lia));apply lf
      refine⟨_,Sub.fresh (.refl _) hD,?_⟩
      simp only[jz1,hv] at q
      exact q
    · rw[fillTs_map,filt_true,upd_same]
    · rw[fillTs_map,List.length_map,← Tm.vs_length];exact nle (by assumption) (by rfl)
 | true=>
  simp only[jd1] at h4
  have h5:=h4.1 hv
  cases ha:assoc tbl s with
  | none=>rw[ha] at h5;cases h5
  | some v=>
   refine Br.ff ?_;apply lf;(with_reducible refine I_t0 ?_);apply lf;(with_reducible refine' O_notIn ?a19 ?s20);(case s20=>assumption)
   simp only[ha,Option.isSome_some,Bool.not_true]
   refine Br.ff ?_;apply lf;(with_reducible refine I_t0 ?_);apply lf
   refine I_dict ?_ hd ha
   apply lf
   refine⟨_,.refl _,?_⟩
   simp only[jz1,hv,ha] at q
   exact q
theorem C_filled (H:Gs c (KK P) gtab){d:Addr}{tbl:List (Str×V)}:∀ (m n:Nat) (σ:Sig) (Q:PV) (X:PX) (t:Tm),t.ht≤m→t.sz≤1000→DR c σ d tbl→Q (putT tbl t) σ→CodeOp c ⟨n+m,true⟩ σ (.ref 389) [t.v,.raw (.ref d)] Q X:=by
 intro m
 induction m with
 | zero=>intro n σ Q X t h1;obtain ⟨s,ks⟩:=t;simp only[jj1] at h1;lia
 | succ m ih=>
 intro n σ Q X t h1 h2 hd q
 obtain ⟨s,ks⟩:=t
 have hz:(Tm.vs ks).length≤1000:=by have:=szs_ge ks;rw[Tm.vs_length];simp only[jp1] at h2;lia
 refine K_fnV 60 H (f:=389) (params:=["pattern","table"]) (locs:=[]) (ρ1:=[("pattern",some (.tup (.str s::Tm.vs ks))),("table",some (.raw (.ref d)))]) rfl rfl rfl rfl rfl rfl rfl rfl rfl (len2 fun _ _=>rfl) rfl (by decide) rfl rfl ?_
 intro L
 apply lf;(with_reducible refine I_t0 ?_);apply lf;(with_reducible refine' O_in ?a21 ?s22);(case s22=>assumption)
 cases ha:assoc tbl s with
 | none=>
  simp only[Option.isSome_none]
  refine Br.ff ?_;apply lf;(with_reducible refine Sl_to1 ?z23 ?a24);(case z23=>exact nll (by assumption) (by rfl));apply lf
  refine G_lcI (cl:=[("table",L+1)]) (ρc:=[("table",some (.raw (.ref d))),("kid",none)]) rfl (by (refine CompX.of ?k1 ?k2 ?k3 ?k4 ?k5 ?k6 ?k7 ?k8 ?k9;(case k1=>rfl);(case k2=>rfl);(case k3=>rfl);(case k4=>rfl);(case k5=>repeat (first | with_reducible exact all_nil | ((with_reducible refine all_cons ?_ ?_);rfl)));(case k6=>simp);(case k7=>exact of_decide_eq_true rfl);(case k8=>repeat (first | with_reducible exact all_nil | ((with_reducible refine all_cons ?_ ?_);first | exact KeyP.loc rfl | (refine KeyP.cap ?_ rfl rfl rfl rfl;repeat (first | exact List.mem_cons_self | refine List.mem_cons_of_mem _ ?_)))));(case k9=>repeat (first | exact all_nil | (refine all_cons ?_ ?_;rfl))))) (fun _=>rfl) ?_
  refine IG_plainV 60 (by assumption) rfl ?_
  apply lf;(with_reducible refine Sl_1 ?z25 ?a26);(case z25=>exact nll (by assumption) (by rfl));apply lf
  refine IO_tup ?_
  refine comp_map ks Tm.v (putT tbl) (fun _=>true) trivial trivial (Tm.vs_map ks) (by rw[← Tm.vs_length];exact nll (by assumption) (by rfl)) ?_ ?_
  · intro C a ha
    have hm:=hts_mem ha
    simp only[jj1,jp1] at h1 h2
    (with_reducible refine' exTakes ?p27 ?a28);(case p27=>with_reducible (repeat (first | exact Put.here | apply Put.there | exact TakesL.nil | apply Takes.name | apply Takes.tup | apply TakesL.cons)));(with_reducible refine CompT_nil ?_)
    refine⟨rfl,?_⟩
    refine Vc.e 60 (by assumption) rfl ?_
    apply lf
    exact (ih n _ _ _ a (by lia) (by lia) hd ⟨rfl,.refl _⟩).call
  · intro D hD
    have hz2:(putTs tbl ks).length≤1000:=by rw[putTs_map,List.length_map,← Tm.vs_length];assumption
    apply lf
    refine B_tuple_list (l:=putTs tbl ks) ?_ (.inl ?_) ?_
    · apply lf;(with_reducible refine O_addT ?a29 ?z30);(case z30=>(simp;lia));apply lf
      refine⟨_,Sub.fresh (.refl _) hD,?_⟩
      simp only[jM1,ha] at q
      exact q
    · rw[putTs_map,filt_true,upd_same]
    · rw[putTs_map,List.length_map,← Tm.vs_length];exact nle (by assumption) (by rfl)
 | some v=>
  simp only[Option.isSome_some]
  refine Br.tt ?_;apply lf;(with_reducible refine I_t0 ?_);apply lf
  refine I_dict ?_ hd ha
  apply lf
  refine⟨_,.refl _,?_⟩
  simp only[jM1,ha] at q
  exact q
end
end Mine
namespace Mine
variable [Membership Addr Zip0]
section
variable {c:Cx}{P:Params}{n:Nat}{hn:Bool}{σ:Sig}{X:PX}{Q:PV}
theorem C_heapInit {a:Addr}{what:V}(H:Gs c (KK P) gtab)(e1:σ a=some (.exc 100 none true)) :
 CodeOp c ⟨n+1,hn⟩ σ (.ref 37) [.raw (.ref a),what] (fun v σ'=>v=.none∧∃ dx,σ dx=none∧dx≠a∧σ'=upd (upd σ a (.exc 100 (some dx) true)) dx (.ns [(("what" : Str),what)])) X:=by
 refine K_init (f:=37) (a:=a) (C:=100) (D:=47) (cc:=25) (cda:=36) (dO:=none) (nw:=true) (w:=("what" : Str)) (sf:=("self" : Str)) (y:=("what" : Str)) (wv:=what) (yv:=what) (rest:=[what]) (params:=[("self" : Str),("what" : Str)]) (ρ0:=[(("self" : Str),none),(("what" : Str),none)]) (ρ1:=[(("self" : Str),some (.raw (.ref a))),(("what" : Str),some what)])
  (by rw[H.hc];rfl) rfl rfl rfl rfl (by rw[H.hc];rfl) rfl rfl rfl ?bind ?cell ?xs ?keys ?nd ?none ?bs rfl rfl rfl (by rw[H.hc];rfl) rfl H.file (by rw[H.hc];rfl) (by rw[H.hc];rfl) (by rw[H.hc];rfl) (H.mg (by repeat (first | exact List.mem_cons_self | refine List.mem_cons_of_mem _ ?_))) H.top rfl rfl rfl rfl rfl ?ms ?mw ?my (by decide) (by decide) (by decide) (fun _=>rfl) (fun _=>rfl) (fun _=>rfl) (fun _=>rfl) e1 ?g
 case bind=>exact len2 fun _ _=>rfl
 case cell=>decide
 case xs=>exact all_dec rfl
 case keys=>exact all_dec rfl
 case nd=>decide
 case none=>repeat (first | exact all_nil | (refine all_cons ?_ ?_;rfl))
 case bs=>exact .cons .here (.cons (.there .here) .nil)
 case ms=>exact .head _
 case mw=>exact .tail _ (.head _)
 case my=>exact .tail _ (.head _)
 case g=>
  refine Super_b (l:=[]) e1 ?_ (by rw[H.hc];rfl) (by rw[H.hc];rfl) (by rw[H.hc];rfl) (by rw[H.hc];rfl) (by rw[H.hc];rfl)
  refine A_setE_new e1 (fun dx h1 h2=>⟨rfl,dx,h1,h2,rfl⟩) (by rw[H.hc];rfl) (by rw[H.hc];rfl) ?_ (by rw[H.hc];rfl) rfl
  exact .own _ (.own _ .base)
theorem C_heapInitT {a:Addr}{what:V}(H:Gs c (KK P) gtab)(e1:σ a=some (.exc 60 none true)) :
 CodeOp c ⟨n+1,hn⟩ σ (.ref 37) [.raw (.ref a),what] (fun v σ'=>v=.none∧∃ dx,σ dx=none∧dx≠a∧σ'=upd (upd σ a (.exc 60 (some dx) true)) dx (.ns [(("what" : Str),what)])) X:=by
 refine K_init (f:=37) (a:=a) (C:=60) (D:=47) (cc:=25) (cda:=36) (dO:=none) (nw:=true) (w:=("what" : Str)) (sf:=("self" : Str)) (y:=("what" : Str)) (wv:=what) (yv:=what) (rest:=[what]) (params:=[("self" : Str),("what" : Str)]) (ρ0:=[(("self" : Str),none),(("what" : Str),none)]) (ρ1:=[(("self" : Str),some (.raw (.ref a))),(("what" : Str),some what)])
  (by rw[H.hc];rfl) rfl rfl rfl rfl (by rw[H.hc];rfl) rfl rfl rfl ?bind ?cell ?xs ?keys ?nd ?none ?bs rfl rfl rfl (by rw[H.hc];rfl) rfl H.file (by rw[H.hc];rfl) (by rw[H.hc];rfl) (by rw[H.hc];rfl) (H.mg (by repeat (first | exact List.mem_cons_self | refine List.mem_cons_of_mem _ ?_))) H.top rfl rfl rfl rfl rfl ?ms ?mw ?my (by decide) (by decide) (by decide) (fun _=>rfl) (fun _=>rfl) (fun _=>rfl) (fun _=>rfl) e1 ?g
 case bind=>exact len2 fun _ _=>rfl
 case cell=>decide
 case xs=>exact all_dec rfl
 case keys=>exact all_dec rfl
 case nd=>decide
 case none=>repeat (first | exact all_nil | (refine all_cons ?_ ?_;rfl))
 case bs=>exact .cons .here (.cons (.there .here) .nil)
 case ms=>exact .head _
 case mw=>exact .tail _ (.head _)
 case my=>exact .tail _ (.head _)
 case g=>
  refine Super_b (l:=[]) e1 ?_ (by rw[H.hc];rfl) (by rw[H.hc];rfl) (by rw[H.hc];rfl) (by rw[H.hc];rfl) (by rw[H.hc];rfl)
  refine A_setE_new e1 (fun dx h1 h2=>⟨rfl,dx,h1,h2,rfl⟩) (by rw[H.hc];rfl) (by rw[H.hc];rfl) ?_ (by rw[H.hc];rfl) rfl
  exact .own _ (.own _ .base)
theorem C_paperInit {a:Addr}{what place:V}(H:Gs c (KK P) gtab)(e1:σ a=some (.exc 100 none true)) :
 CodeOp c ⟨n+1+1,hn⟩ σ (.ref 90) [.raw (.ref a),what,place] (fun v σ'=>v=.none∧∃ dx,σ dx=none∧dx≠a∧σ'=upd (upd σ a (.exc 100 (some dx) true)) dx (.ns [(("what" : Str),what),(("place" : Str),place)])) X:=by
 refine K_init (f:=90) (a:=a) (C:=100) (D:=100) (cc:=78) (cda:=89) (dO:=none) (nw:=true) (w:=("what" : Str)) (sf:=("self" : Str)) (y:=("place" : Str)) (wv:=what) (yv:=place) (rest:=[what,place]) (params:=[("self" : Str),("what" : Str),("place" : Str)]) (ρ0:=[(("self" : Str),none),(("what" : Str),none),(("place" : Str),none)]) (ρ1:=[(("self" : Str),some (.raw (.ref a))),(("what" : Str),some what),(("place" : Str),some place)])
  (by rw[H.hc];rfl) rfl rfl rfl rfl (by rw[H.hc];rfl) rfl rfl rfl ?bind ?cell ?xs ?keys ?nd ?none ?bs rfl rfl rfl (by rw[H.hc];rfl) rfl H.file (by rw[H.hc];rfl) (by rw[H.hc];rfl) (by rw[H.hc];rfl) (H.mg (by repeat (first | exact List.mem_cons_self | refine List.mem_cons_of_mem _ ?_))) H.top rfl rfl rfl rfl rfl ?ms ?mw ?my (by decide) (by decide) (by decide) (fun _=>rfl) (fun _=>rfl) (fun _=>rfl) (fun _=>rfl) e1 ?g
 case bind=>exact len3 fun _ _ _=>rfl
 case cell=>decide
 case xs=>exact all_dec rfl
 case keys=>exact all_dec rfl
 case nd=>decide
 case none=>repeat (first | exact all_nil | (refine all_cons ?_ ?_;rfl))
 case bs=>exact .cons .here (.cons (.there .here) (.cons (.there (.there .here)) .nil))
 case ms=>exact .head _
 case mw=>exact .tail _ (.head _)
 case my=>exact .tail _ (.tail _ (.head _))
 case g=>
  refine Super_fn (f2:=37) e1 ?_ (by rw[H.hc];rfl) (by rw[H.hc];rfl) (by rw[H.hc];rfl) (by rw[H.hc];rfl) ?_
  · rw[H.hc];rfl
  refine (C_heapInit H e1).mono ?_ fun _ _ q=>q
  intro v σ' zu86
  refine el63 zu86 ?_;(try clear zu86);intro _ dx h1 h2 ze288;subst ze288
  refine A_setE (dx:=dx) (by rw[upd_ne _ _ h2.symm,upd_same]) (upd_same _ _ _) ?_ (by simp) (by rw[H.hc];rfl) (by rw[H.hc];rfl) (.own _ (.own _ .base)) (by rw[H.hc];rfl) rfl
  refine⟨rfl,dx,h1,h2,?_⟩
  rw[upd_upd]
  rfl
theorem C_paper {what place:V}(H:Gs c (KK P) gtab) :
 CodeOp c ⟨n+1+1+1,hn⟩ σ (.ref 100) [what,place] (fun v σ'=>∃ a dx,v=.raw (.ref a)∧σ a=none∧σ dx=none∧dx≠a∧σ'=upd (upd σ a (.exc 100 (some dx) true)) dx (.ns [(("what" : Str),what),(("place" : Str),place)])) X:=by
 refine C_exc (bm:=[.ref 47,.type "Exception",.type "BaseException",.type "object"]) PySem.F.excBase_Exception (by decide) (by decide) (by decide) (by rw[H.hc];rfl) (by rw[H.hc];rfl) (by rw[H.hc];rfl) (by simp) fun a ha=>?_
 refine (C_paperInit H (upd_same _ _ _)).mono ?_ fun _ _ q=>q
 intro v σ' zu87
 refine el63 zu87 ?_;(try clear zu87);intro ze289 dx h1 h2 ze290;subst ze289;subst ze290
 refine⟨rfl,a,dx,rfl,ha,?_,h2,?_⟩
 · rwa [upd_ne _ _ h2] at h1
 · rw[upd_upd]
theorem C_term {what:V}(H:Gs c (KK P) gtab) :
 CodeOp c ⟨n+1+1,hn⟩ σ (.ref 60) [what] (fun v σ'=>∃ a dx,v=.raw (.ref a)∧σ a=none∧σ dx=none∧dx≠a∧σ'=upd (upd σ a (.exc 60 (some dx) true)) dx (.ns [(("what" : Str),what)])) X:=by
 refine C_exc (bm:=[.ref 47,.type "Exception",.type "BaseException",.type "object"]) PySem.F.excBase_Exception (by decide) (by decide) (by decide) (by rw[H.hc];rfl) (by rw[H.hc];rfl) (by rw[H.hc];rfl) (by simp) fun a ha=>?_
 refine (C_heapInitT H (upd_same _ _ _)).mono ?_ fun _ _ q=>q
 intro v σ' zu88
 refine el63 zu88 ?_;(try clear zu88);intro ze291 dx h1 h2 ze292;subst ze291;subst ze292
 refine⟨rfl,a,dx,rfl,ha,?_,h2,?_⟩
 · rwa [upd_ne _ _ h2] at h1
 · rw[upd_upd]
theorem sub_del {σ:Sig}{a dx:Addr}{m m':MO}(h1:σ a=none)(h2:σ dx=none):Sub σ (del (del (upd (upd σ a m) dx m') a) dx):=fun b mb e=>by
 have ha:b≠a:=fun q=>by rw[q,h1] at e;cases e
 have hd:b≠dx:=fun q=>by rw[q,h2] at e;cases e
 unfold del
 rw[if_neg hd,if_neg ha,upd_ne _ _ hd,upd_ne _ _ ha];exact e
theorem R_paper (H:Gs c (KK P) gtab){σ0:Sig}{what:Str}{place:V}{ρ:Rho}{X:PX}(hs:Sub σ0 σ)(q:∀ ex,ex.C=100→assoc ex.fs "place"=some place→X ex σ0) :
 CallOp c ⟨n+3,hn⟩ σ (.ref 100) [.str what,place] (fun v σ1=>∃ a C dx fs oC,v=.raw (.ref a)∧σ a=none∧σ dx=none∧σ1 a=some (.exc C (some dx) true)∧σ1 dx=some (.ns fs)∧c.K.lookup C=some oC∧oC.cls=.type "type"∧subIn c.K (.ref C) (.type "BaseException")=some true∧retX X ⟨C,fs⟩ ρ (del (del σ1 a) dx)) (atX (retX X) ρ):=by
 refine ((C_paper H).mono ?_ fun _ _ q=>q).call
 intro v σ' zu89
 refine el48 zu89 ?_;(try clear zu89);intro b dy ze293 h1 h2 h3 ze294;subst ze293;subst ze294
 exact⟨b,100,dy,_,_,rfl,h1,h2,by rw[upd_ne _ _ h3.symm,upd_same],upd_same _ _ _,(by rw[H.hc];rfl),rfl,(by rw[H.hc];rfl),σ0,hs.trans (sub_del h1 h2),q _ rfl rfl⟩
theorem R_term (H:Gs c (KK P) gtab){σ0:Sig}{what:V}{ρ:Rho}{X:PX}(hs:Sub σ0 σ)(q:∀ ex,ex.C=60→X ex σ0) :
 CallOp c ⟨n+2,hn⟩ σ (.ref 60) [what] (fun v σ1=>∃ a C dx fs oC,v=.raw (.ref a)∧σ a=none∧σ dx=none∧σ1 a=some (.exc C (some dx) true)∧σ1 dx=some (.ns fs)∧c.K.lookup C=some oC∧oC.cls=.type "type"∧subIn c.K (.ref C) (.type "BaseException")=some true∧retX X ⟨C,fs⟩ ρ (del (del σ1 a) dx)) (atX (retX X) ρ):=by
 refine ((C_term H).mono ?_ fun _ _ q=>q).call
 intro v σ' zu90
 refine el48 zu90 ?_;(try clear zu90);intro b dy ze295 h1 h2 h3 ze296;subst ze295;subst ze296
 exact⟨b,60,dy,_,_,rfl,h1,h2,by rw[upd_ne _ _ h3.symm,upd_same],upd_same _ _ _,(by rw[H.hc];rfl),rfl,(by rw[H.hc];rfl),σ0,hs.trans (sub_del h1 h2),q _ rfl⟩
theorem R_paperH (H:Gs c (KK P) gtab){e0:Addr}{o0:Obj}{what:Str}{place:V}{SX X:PX}(h0:σ e0=none)(q:∀ ex σ2,ex.C=100→assoc ex.fs "place"=some place→Sub σ σ2→SX ex σ2) :
 CallOp c ⟨n+3,hn⟩ (upd σ e0 (.obj o0)) (.ref 100) [.str what,place] (RaiseQ c (upd σ e0 (.obj o0)) e0 o0 SX) X:=by
 refine ((C_paper H).mono ?_ fun _ _ q=>q).call
 intro v σ' zu91
 refine el48 zu91 ?_;(try clear zu91);intro b dy ze297 h1 h2 h3 ze298;subst ze297;subst ze298
 have n1:e0≠b:=fun q=>by rw[q,upd_same] at h1;cases h1
 have n2:e0≠dy:=fun q=>by rw[q,upd_same] at h2;cases h2
 refine⟨b,100,dy,_,_,rfl,h1,h2,by rw[upd_ne _ _ h3.symm,upd_same],upd_same _ _ _,by rw[upd_ne _ _ n2,upd_ne _ _ n1,upd_same],by rw[H.px];rfl,(by rw[H.hc];rfl),rfl,(by rw[H.hc];rfl),q _ _ rfl rfl ?_⟩
 refine fun x mx e=>?_
 have hx:x≠e0:=fun q=>by rw[q,h0] at e;cases e
 have:=(Sub.upd h0).trans (sub_del (m:=.exc 100 (some dy) true) (m':=.ns [(("what" : Str),.str what),(("place" : Str),place)]) h1 h2) x mx e
 show del _ e0 x=_
 unfold del at this ⊢
 rw[if_neg hx];exact this
end
end Mine
namespace Mine
variable [Membership Addr Zip0]
noncomputable def kidAt (t:Tm)(k:Int):Option Tm:=if k<0 then none else t.kids[k.toNat]?
noncomputable def partAt:List Int→Tm→Option Tm
 | [],t=>some t
 | k::p,t=>match kidAt t k with
  | some u=>partAt p u
  | none=>none
theorem jE1:partAt [] t=(some t):=rfl
theorem jE2:partAt (k::p) t=(match kidAt t k with
  | some u=>partAt p u
  | none=>none):=rfl
noncomputable def replT:List Int→Tm→Tm→Tm
 | [],_,u=>u
 | k::p,t,u=>.mk t.hd (t.kids.set k.toNat (match kidAt t k with | some v=>replT p v u | none=>u))
theorem jO1:replT [] w1 u=(u):=rfl
theorem jO2:replT (k::p) t u=(.mk t.hd (t.kids.set k.toNat (match kidAt t k with | some v=>replT p v u | none=>u))):=rfl
noncomputable def kOk (k:Int):Prop:=-1≤k∧k≤12
theorem kOk.fin {k:Int}(h:kOk k):∃ j:Fin 14,k=(j.val:Int)-1:=⟨⟨(k+1).toNat,by have:=h.1;have:=h.2;lia⟩,by have:=h.1;simp only;lia⟩
theorem kOk.str {k:Int}(h:kOk k):k.natAbs.log2<1920∧(toString k:Str).length≤1000:=by
 obtain ⟨j,e⟩:=h.fin
 have all:∀ j:Fin 14,((j.val:Int)-1).natAbs.log2<1920∧(toString ((j.val:Int)-1):Str).length≤1000:=by decide +kernel
 rw[e];exact all j
theorem kidAt_none {t:Tm}{k:Int}(h:kidAt t k=none):¬ (0≤k∧k<(t.kids.length:Int)):=fun zu92=>by
 obtain ⟨h1,h2⟩:=zu92
 unfold kidAt at h
 rw[if_neg (by lia),List.getElem?_eq_none_iff] at h
 lia
theorem kidAt_some {t:Tm}{k:Int}{u:Tm}(h:kidAt t k=some u):(0≤k∧k<(t.kids.length:Int))∧(Tm.vs t.kids)[k.toNat]?=some u.v∧u∈t.kids:=by
 unfold kidAt at h
 split at h
 · cases h
 · rename_i h0
   have hl:=(List.getElem?_eq_some_iff.mp h).1
   refine⟨⟨by lia,by lia⟩,?_,List.mem_of_getElem? h⟩
   rw[Tm.vs_map,List.getElem?_map,h];rfl
theorem kids_sz (t:Tm):t.kids.length<t.sz:=by
 obtain ⟨s,ks⟩:=t
 have:=szs_ge ks
 simp only[jp1,Tm.kids];lia
theorem kid_sz {t u:Tm}{k:Int}(h:kidAt t k=some u):u.sz<t.sz∧u.ht<t.ht:=by
 obtain ⟨s,ks⟩:=t
 have:=hts_mem (kidAt_some h).2.2
 simp only[jp1,jj1,Tm.kids] at this ⊢;lia
theorem part_sz:∀ {p:List Int}{t u:Tm},partAt p t=some u→u.sz+p.length≤t.sz
 | [],t,u,h=>by simp only[jE1,jE2,Option.some.injEq] at h;subst h;exact Nat.le_refl _
 | k::p,t,u,h=>by
  simp only[jE1,jE2] at h
  cases e:kidAt t k with
  | none=>rw[e] at h;cases h
  | some v=>rw[e] at h;have:=part_sz h;have:=kid_sz e;simp only[List.length_cons];lia
section
variable {c:Cx}{P:Params}{N:Lv}{n:Nat}{hn:Bool}{σ:Sig}{X:PX}{Q:PV}
theorem B_len_tm {t:Tm}(hz:t.sz≤1000)(q:Q (.int ((t.kids.length:Int)+1)) σ):CallOp c N σ (.builtin "len") [t.v] Q X:=by
 have:=kids_sz t
 obtain ⟨s,ks⟩:=t
 refine B_len_tup (l:=.str s::Tm.vs ks) ?_ (by simp only[List.length_cons,Tm.vs_length,Tm.kids] at this ⊢;lia)
 simp only[List.length_cons,Tm.vs_length];exact q
theorem I_kid {t u:Tm}{k:Int}(h:kidAt t k=some u)(hz:t.sz≤1000)(q:Q u.v σ):SubOp c N σ t.v (.int (k+1)) Q X:=by
 have hl:=kids_sz t
 obtain ⟨s,ks⟩:=t
 refine el77 (kidAt_some h) ?_;intro h1 h2 _
 simp only[Tm.kids] at h1 h2 hl
 show SubOp c N σ (.tup (.str s::Tm.vs ks)) _ _ _
 refine I_tup (j:=k.toNat+1) q ?_ (by simpa using h2) ⟨by lia,by lia⟩
 have e1:¬ (k+1<0):=by lia
 have e2:k+1<((V.str s::Tm.vs ks).length:Nat):=by simp only[List.length_cons,Tm.vs_length];lia
 simp only[seqIndex?,e1,if_false,show (0:Int)≤k+1 from by lia,e2,decide_true,Bool.and_self,if_true]
 congr 1;lia
theorem Sl_fromI {l:List V}{i:Int}(h0:0≤i)(h:i≤l.length)(hz:l.length≤1000000)(q:Q (.tup (l.drop i.toNat)) σ):SliceOp c N σ (.tup l) (some i) none none Q X:=by
 have e:i=(i.toNat:Int):=by exact (Int.toNat_of_nonneg (by assumption)).symm
 rw[e];exact Sl_from (by lia) hz q
theorem Sl_toI {l:List V}{i:Int}(h0:0≤i)(h:i≤l.length)(hz:l.length≤1000000)(q:Q (.tup (l.take i.toNat)) σ):SliceOp c N σ (.tup l) none (some i) none Q X:=by
 have e:i=(i.toNat:Int):=by exact (Int.toNat_of_nonneg (by assumption)).symm
 rw[e];exact Sl_to (by lia) hz q
noncomputable abbrev pathI (p:List Int):V:=.tup (p.map .int)
inductive partI (t0:Tm) (p0:List Int) (σ:Sig) (l:List V) (ρ1:Rho) (σ1:Sig):Prop
 | mk (t:Tm) (p:List Int) (u:Option V) (h1:partAt p t=partAt p0 t0) (h2:t.sz≤1000) (h3:(∀ k∈p,kOk k)) (h4:l=p.map .int) (h5:ρ1=([("t",some t.v),("path",some (pathI p0)),("k",u)]:Rho)) (h6:Sub σ σ1):partI t0 p0 σ l ρ1 σ1
theorem C_part_at (H:Gs c (KK P) gtab){t0:Tm}{p0:List Int}(hz:t0.sz≤1000)(hp:∀ k∈p0,kOk k)(q:∀ u,partAt p0 t0=some u→Q u.v σ)(qx:partAt p0 t0=none→∀ ex,ex.C=60→X ex σ):CodeOp c ⟨n+3,true⟩ σ (.ref 131) [t0.v,pathI p0] Q X:=by
 refine K_fnV 60 H (f:=131) (params:=["t","path"]) (locs:=["k"]) (ρ1:=[("t",some (t0.v)),("path",some (pathI p0)),("k",none)]) rfl rfl rfl rfl rfl rfl rfl rfl rfl (len2 fun _ _=>rfl) rfl (by decide) rfl rfl ?_
 intro L
 apply lf
 refine S_forV 60 H rfl rfl (fun _=>rfl) ?_
 refine IG_plainV 60 (by assumption) rfl ?_
 apply lf
 refine IO_tup ?_
 refine⟨trivial,partI t0 p0 σ,⟨t0,p0,none,rfl,hz,hp,rfl,rfl,.refl _⟩,?_,?_⟩
 · intro v l ρ1 σ1 zu93
   obtain ⟨t,p,u,e1,hz,hp,e2,rfl,hs⟩:=zu93
   cases p with
   | nil=>cases e2
   | cons k p=>
   simp only[List.map_cons,List.cons.injEq] at e2
   obtain ⟨rfl,rfl⟩:=e2
   refine⟨trivial,?_⟩
   apply lf
   have hko:=(hp k (.head _)).str
   refine T_cmp2V 60 H rfl rfl ?_
   apply lf;(with_reducible refine O_le ?_)
   cases hd:decide ((0:Int)≤k) with
   | false=>
    have hn:partAt p0 t0=none:=by
     rw[← e1];rw[jE2]
     have:kidAt t k=none:=by unfold kidAt;rw[if_pos (by have:=of_decide_eq_false hd;lia)]
     rw[this]
    refine Br.ff ?_;refine Br.tt ?_;apply lf
    refine S_raise rfl ?_
    refine Vf.e 60 (by assumption) rfl ?_
    apply lf
    refine G_fstr (by decide) ?_
    refine Vf.e 60 (by assumption) rfl ?_
    refine⟨_,rfl,hko.1,hko.2,fun tk=>?_⟩
    apply lf
    exact R_term H (hs) (qx hn)
   | true=>
    have h0:=of_decide_eq_true hd
    refine Br.tt ?_;apply lf
    refine B_len_tm hz ?_
    apply lf;(with_reducible refine O_sub ?_);apply lf;(with_reducible refine O_lt ?_)
    cases hk:kidAt t k with
    | none=>
     have hn:partAt p0 t0=none:=by rw[← e1];rw[jE2];rw[hk]
     have:decide (k<(t.kids.length:Int)+1-1)=false:=decide_eq_false fun h=>kidAt_none hk ⟨h0,by lia⟩
     rw[this]
     refine Br.tt ?_;apply lf
     refine S_raise rfl ?_
     refine Vf.e 60 (by assumption) rfl ?_
     apply lf
     refine G_fstr (by decide) ?_
     refine Vf.e 60 (by assumption) rfl ?_
     refine⟨_,rfl,hko.1,hko.2,fun tk=>?_⟩
     apply lf
     exact R_term H (hs) (qx hn)
    | some u'=>
     have hks:=kidAt_some hk
     have:decide (k<(t.kids.length:Int)+1-1)=true:=decide_eq_true (by lia)
     rw[this]
     refine Br.ff ?_;apply lf;(with_reducible refine O_add ?_);apply lf
     refine I_kid hk hz ?_
     apply lf
     have h2:=kid_sz hk
     refine⟨u',p,_,?_,by lia,fun k hk=>hp k (.tail _ hk),rfl,rfl,hs⟩
     rw[← e1];simp only[jE1,jE2,hk]
 · intro ρ1 σ1 zu94
   obtain ⟨t,p,u,e1,hz,hp,e2,rfl,hs⟩:=zu94
   have:p=[]:=by
    cases p with
    | nil=>rfl
    | cons a r=>cases e2
   subst this
   refine⟨trivial,?_⟩
   apply lf
   exact⟨_,hs,q t e1.symm⟩
end
end Mine
namespace Mine
variable [Membership Addr Zip0]
theorem eqV_nil:∀ l:List V,eqV (.tup l) (.tup [])=decide (l=[])
 | []=>by simp [eqV,jR1,jR2,jR3,jR4,jR5,jR6,jS1,jS2,PyData.eqv,PyData.eqvAll]
 | x::l=>by simp [eqV,jR1,jR2,jR3,jR4,jR5,jR6,jS1,jS2,PyData.eqv,PyData.eqvAll]
theorem depth_nil:(toP (.tup [])).depth≤1:=by simp [jR1,jR2,jR3,jR4,jR5,jR6,jS1,jS2,PyData.depth,PyData.depthAll]
theorem trees_ints:∀ p:List Int,trees (p.map .int)=true
 | []=>rfl
 | x::p=>by simp [jV1,jV2,jU1,jU2,jU3,jU4,jU5,jU6,trees_ints p]
theorem Tm.v_eq (t:Tm):t.v=.tup (.str t.hd::Tm.vs t.kids):=by cases t;rfl
theorem tm_set {s:Str}{ks:List Tm}{k:Nat}{y:Tm}(h:k<ks.length):(V.str s::Tm.vs ks).take (k+1)++[y.v]++(V.str s::Tm.vs ks).drop (k+2)=.str s::Tm.vs (ks.set k y):=by
 simp only[List.take_succ_cons,List.drop_succ_cons,Tm.vs_map,List.map_set,List.cons_append,List.append_assoc,List.nil_append]
 rw[List.set_eq_take_append_cons_drop,if_pos (by simpa using h)]
section
variable {c:Cx}{P:Params}{N:Lv}{n:Nat}{hn:Bool}{σ:Sig}{X:PX}{Q:PV}
theorem O_eqNil {l:List V}(ht:trees l=true)(hN:0<N.n)(q:Q (.bool (decide (l=[]))) σ):Op2 c N σ (.tup l) (.tup []) (compareOp .Eq) Q X:=
 O_eq (by rw[eqV_nil];exact q) ht rfl (Nat.le_trans (Nat.min_le_right _ _) (Nat.le_trans depth_nil (by lia)))
theorem Sl_tmTo {t:Tm}{k:Int}{u:Tm}(hk:kidAt t k=some u)(hz:t.sz≤1000)(q:Q (.tup ((V.str t.hd::Tm.vs t.kids).take (k.toNat+1))) σ):SliceOp c N σ t.v none (some (k+1)) none Q X:=by
 have h1:=(kidAt_some hk).1
 have h2:=kids_sz t
 rw[Tm.v_eq]
 refine Sl_toI (by lia) (by simp only[List.length_cons,Tm.vs_length];lia) (by simp only[List.length_cons,Tm.vs_length];lia) ?_
 rw[show (k+1).toNat=k.toNat+1 from by lia];exact q
theorem Sl_tmFrom {t:Tm}{k:Int}{u:Tm}(hk:kidAt t k=some u)(hz:t.sz≤1000)(q:Q (.tup ((V.str t.hd::Tm.vs t.kids).drop (k.toNat+2))) σ):SliceOp c N σ t.v (some (k+2)) none none Q X:=by
 have h1:=(kidAt_some hk).1
 have h2:=kids_sz t
 rw[Tm.v_eq]
 refine Sl_fromI (by lia) (by simp only[List.length_cons,Tm.vs_length];lia) (by simp only[List.length_cons,Tm.vs_length];lia) ?_
 rw[show (k+2).toNat=k.toNat+2 from by lia];exact q
theorem O_tmSet {t:Tm}{k:Int}{u y:Tm}(hk:kidAt t k=some u)(hz:t.sz≤1000)(q:Q (Tm.mk t.hd (t.kids.set k.toNat y)).v σ):Op2 c N σ (.tup ((V.str t.hd::Tm.vs t.kids).take (k.toNat+1)++[y.v])) (.tup ((V.str t.hd::Tm.vs t.kids).drop (k.toNat+2))) (binaryOp .Add) Q X:=by
 have h1:=(kidAt_some hk).1
 have h2:=kids_sz t
 have hl:(V.str t.hd::Tm.vs t.kids).length≤1000:=by rw[List.length_cons,Tm.vs_length];(refine Nat.le_trans (by assumption) ?_;assumption)
 have e1:=List.length_take_le' (k.toNat+1) (V.str t.hd::Tm.vs t.kids)
 have e2:((V.str t.hd::Tm.vs t.kids).drop (k.toNat+2)).length≤(V.str t.hd::Tm.vs t.kids).length:=by rw[List.length_drop];exact Nat.sub_le _ _
 refine O_addT ?_ (by rw[List.length_append,List.length_singleton];clear h1 h2 hk hz;lia)
 rw[tm_set (by lia)];exact q
theorem O_tmOne {t:Tm}{k:Int}{u:Tm}{y:V}(hk:kidAt t k=some u)(hz:t.sz≤1000)(q:Q (.tup ((V.str t.hd::Tm.vs t.kids).take (k.toNat+1)++[y])) σ):Op2 c N σ (.tup ((V.str t.hd::Tm.vs t.kids).take (k.toNat+1))) (.tup [y]) (binaryOp .Add) Q X:=by
 have h2:=kids_sz t
 have hl:(V.str t.hd::Tm.vs t.kids).length≤1000:=by rw[List.length_cons,Tm.vs_length];(refine Nat.le_trans (by assumption) ?_;assumption)
 have e1:=List.length_take_le' (k.toNat+1) (V.str t.hd::Tm.vs t.kids)
 exact O_addT q (by rw[List.length_singleton];clear h2 hk hz;lia)
theorem part_cons {k:Int}{p:List Int}{t u:Tm}(h:partAt (k::p) t=some u):∃ v,kidAt t k=some v∧partAt p v=some u:=by
 simp only[jE1,jE2] at h
 cases e:kidAt t k with
 | none=>rw[e] at h;cases h
 | some v=>rw[e] at h;exact⟨v,rfl,h⟩
theorem repl_cons {k:Int}{p:List Int}{t u v:Tm}(h:kidAt t k=some v):replT (k::p) t u=.mk t.hd (t.kids.set k.toNat (replT p v u)):=by
 simp only[jO1,jO2,h]
theorem C_replaced (H:Gs c (KK P) gtab){u:Tm}:∀ (p:List Int) (n:Nat) (σ:Sig) (Q:PV) (X:PX) (t v:Tm),partAt p t=some v→t.sz≤1000→(∀ k∈p,kOk k)→Q (replT p t u).v σ→CodeOp c ⟨n+p.length+4,true⟩ σ (.ref 138) [t.v,pathI p,u.v] Q X:=by
 intro p
 induction p with
 | nil=>
  intro n σ Q X t v h1 h2 h3 q
  refine K_fnV 60 H (f:=138) (params:=["t","path","u"]) (locs:=["kid"]) (ρ1:=[("t",some (t.v)),("path",some (.tup [])),("u",some (u.v)),("kid",none)]) rfl rfl rfl rfl rfl rfl rfl rfl rfl (len3 fun _ _ _=>rfl) rfl (by decide) rfl rfl ?_
  intro L
  apply lf
  refine O_eqNil rfl (Nat.succ_pos _) ?_
  refine Br.tt ?_;apply lf
  exact⟨_,.refl _,q⟩
 | cons k p ih=>
  intro n σ Q X t v h1 h2 h3 q
  refine el75 (part_cons h1) ?_;intro w hk hw
  rw[repl_cons hk] at q
  have hp:=part_sz h1
  simp only[List.length_cons] at hp
  refine K_fnV 60 H (f:=138) (params:=["t","path","u"]) (locs:=["kid"]) (ρ1:=[("t",some (t.v)),("path",some (.tup (.int k::p.map .int))),("u",some (u.v)),("kid",none)]) rfl rfl rfl rfl rfl rfl rfl rfl rfl (len3 fun _ _ _=>rfl) rfl (by decide) rfl rfl ?_
  intro L
  apply lf
  refine O_eqNil (trees_ints (k::p)) (Nat.succ_pos _) ?_
  refine Br.ff ?_;apply lf;(with_reducible refine Sl_to1 ?z31 ?a32);(case z31=>(simp;lia));apply lf
  refine (C_part_at (p0:=[k]) (n:=n+p.length+1) H h2 (fun x hx=>h3 x (by simp only[List.mem_cons,List.not_mem_nil,or_false] at hx;rw[hx];exact .head _)) (fun u hu=>?_) fun e=>?_).call
  · have:u=w:=by simp only[jE1,jE2,hk,Option.some.injEq] at hu;exact hu.symm
    subst this
    apply lf;(with_reducible refine I_t0 ?_);apply lf;(with_reducible refine O_add ?_);apply lf
    refine Sl_tmTo hk h2 ?_
    apply lf;(with_reducible refine Sl_1 ?z33 ?a34);(case z33=>(simp;lia));apply lf
    refine (ih n _ _ _ u v hw (by have:=kid_sz hk;lia) (fun x hx=>h3 x (.tail _ hx)) ?_).call
    apply lf
    refine O_tmOne hk h2 ?_
    apply lf;(with_reducible refine I_t0 ?_);apply lf;(with_reducible refine O_add ?_);apply lf
    refine Sl_tmFrom hk h2 ?_
    apply lf
    refine O_tmSet hk h2 ?_
    apply lf
    exact⟨_,.refl _,q⟩
  · simp only[jE1,jE2,hk] at e;cases e
theorem C_instead (H:Gs c (KK P) gtab){u:Tm}:∀ (p:List Int) (n:Nat) (σ:Sig) (Q:PV) (X:PX) (t v:Tm),partAt p t=some v→t.sz≤1000→Q (replT p t u).v σ→CodeOp c ⟨n+p.length+2,true⟩ σ (.ref 384) [t.v,pathI p,u.v] Q X:=by
 intro p
 induction p with
 | nil=>
  intro n σ Q X t v h1 h2 q
  refine K_fnV 60 H (f:=384) (params:=["t","path","late"]) (locs:=[]) (ρ1:=[("t",some (t.v)),("path",some (.tup [])),("late",some (u.v))]) rfl rfl rfl rfl rfl rfl rfl rfl rfl (len3 fun _ _ _=>rfl) rfl (by decide) rfl rfl ?_
  intro L
  apply lf
  refine O_eqNil rfl (Nat.succ_pos _) ?_
  refine Br.tt ?_;apply lf
  exact⟨_,.refl _,q⟩
 | cons k p ih=>
  intro n σ Q X t v h1 h2 q
  refine el75 (part_cons h1) ?_;intro w hk hw
  rw[repl_cons hk] at q
  have hp:=part_sz h1
  simp only[List.length_cons] at hp
  refine K_fnV 60 H (f:=384) (params:=["t","path","late"]) (locs:=[]) (ρ1:=[("t",some (t.v)),("path",some (.tup (.int k::p.map .int))),("late",some (u.v))]) rfl rfl rfl rfl rfl rfl rfl rfl rfl (len3 fun _ _ _=>rfl) rfl (by decide) rfl rfl ?_
  intro L
  apply lf
  refine O_eqNil (trees_ints (k::p)) (Nat.succ_pos _) ?_
  refine Br.ff ?_;apply lf;(with_reducible refine I_t0 ?_);apply lf;(with_reducible refine O_add ?_);apply lf
  refine Sl_tmTo hk h2 ?_
  apply lf;(with_reducible refine I_t0 ?_);apply lf;(with_reducible refine O_add ?_);apply lf
  refine I_kid hk h2 ?_
  apply lf;(with_reducible refine Sl_1 ?z35 ?a36);(case z35=>(simp;lia));apply lf
  refine (ih n _ _ _ w v hw (by have:=kid_sz hk;lia) ?_).call
  apply lf
  refine O_tmOne hk h2 ?_
  apply lf;(with_reducible refine I_t0 ?_);apply lf;(with_reducible refine O_add ?_);apply lf
  refine Sl_tmFrom hk h2 ?_
  apply lf
  refine O_tmSet hk h2 ?_
  apply lf
  exact⟨_,.refl _,q⟩
theorem O_ge {i j:Int}(q:Q (.bool (decide (j≤i))) σ):Op2 c N σ (.int i) (.int j) (compareOp .GtE) Q X:=fun A s QQ EE x y ak R r1 r2 p xp=>by
 simp only[jt1,jt2,jt3,jt4,jt5,jt6] at r1 r2;obtain ⟨t,rfl⟩:=r1;obtain ⟨u,rfl⟩:=r2
 exact PyProof.Rows.ge_int (p.here R q (by simp only[jt1,jt2,jt3,jt4,jt5,jt6]))
noncomputable def Tm.ov:Option Tm→V
 | some u=>u.v
 | none=>.none
inductive thereI (t0:Tm) (p0:List Int) (σ:Sig) (l:List V) (ρ1:Rho) (σ1:Sig):Prop
 | mk (t:Tm) (p:List Int) (u:Option V) (h1:partAt p t=partAt p0 t0) (h2:t.sz≤1000) (h3:l=p.map .int) (h4:ρ1=([("t",some t.v),("path",some (pathI p0)),("k",u)]:Rho)) (h5:Sub σ σ1):thereI t0 p0 σ l ρ1 σ1
theorem C_there (H:Gs c (KK P) gtab){t0:Tm}{p0:List Int}(hz:t0.sz≤1000)(q:Q (Tm.ov (partAt p0 t0)) σ):CodeOp c ⟨n+1,true⟩ σ (.ref 377) [t0.v,pathI p0] Q X:=by
 refine K_fnV 60 H (f:=377) (params:=["t","path"]) (locs:=["k"]) (ρ1:=[("t",some (t0.v)),("path",some (pathI p0)),("k",none)]) rfl rfl rfl rfl rfl rfl rfl rfl rfl (len2 fun _ _=>rfl) rfl (by decide) rfl rfl ?_
 intro L
 apply lf
 refine S_forV 60 H rfl rfl (fun _=>rfl) ?_
 refine IG_plainV 60 (by assumption) rfl ?_
 apply lf
 refine IO_tup ?_
 refine⟨trivial,thereI t0 p0 σ,⟨t0,p0,none,rfl,hz,rfl,rfl,.refl _⟩,?_,?_⟩
 · intro v l ρ1 σ1 zu95
   obtain ⟨t,p,u,e1,hz,e2,rfl,hs⟩:=zu95
   cases p with
   | nil=>cases e2
   | cons k p=>
   simp only[List.map_cons,List.cons.injEq] at e2
   obtain ⟨rfl,rfl⟩:=e2
   refine⟨trivial,?_⟩
   apply lf;(with_reducible refine O_lt ?_)
   refine Br.mk (fun hd=>?_) (fun hd=>?_)
   · have hn:partAt p0 t0=none:=by
      rw[← e1];rw[jE2]
      have:kidAt t k=none:=by unfold kidAt;rw[if_pos (of_decide_eq_true hd)]
      rw[this]
     rw[hn] at q
     refine Br.tt ?_;apply lf
     exact⟨_,hs,q⟩
   · have h0:=of_decide_eq_false hd
     apply lf;(with_reducible refine O_add ?_);apply lf
     refine B_len_tm hz ?_
     apply lf
     refine O_ge ?_
     refine Br.mk (fun hd=>?_) (fun hd=>?_)
     · have hn:partAt p0 t0=none:=by
        rw[← e1];rw[jE2]
        have:kidAt t k=none:=by
         cases e:kidAt t k with
         | none=>rfl
         | some u=>have:=(kidAt_some e).1;have:=of_decide_eq_true hd;lia
        rw[this]
       rw[hn] at q
       refine Br.tt ?_;apply lf
       exact⟨_,hs,q⟩
     · have h1:=of_decide_eq_false hd
       cases hk:kidAt t k with
       | none=>exact absurd ⟨by lia,by lia⟩ (kidAt_none hk)
       | some u'=>
        refine Br.ff ?_;apply lf;(with_reducible refine O_add ?_);apply lf
        refine I_kid hk hz ?_
        apply lf
        have h2:=kid_sz hk
        refine⟨u',p,_,?_,by lia,rfl,rfl,hs⟩
        rw[← e1];simp only[jE1,jE2,hk]
 · intro ρ1 σ1 zu96
   obtain ⟨t,p,u,e1,hz,e2,rfl,hs⟩:=zu96
   have:p=[]:=by
    cases p with
    | nil=>rfl
    | cons a r=>cases e2
   subst this
   refine⟨trivial,?_⟩
   apply lf
   rw[← e1] at q
   exact⟨_,hs,q⟩
end
end Mine
namespace Mine
variable [Membership Addr Zip0]
section
variable {c:Cx}{P:Params}{n:Nat}{hn:Bool}{σ:Sig}{X:PX}{Q:PV}
theorem C_told (H:Gs c (KK P) gtab){a dx d:Addr}{fs:List (Str×V)}{l:List (Str×V)}{label:Str}{place:V}
 (e1:σ a=some (.inst 241 dx)) (e2:σ dx=some (.ns fs)) (e3:assoc fs "told"=some (.raw (.ref d))) (e4:DR c σ d l)
 (q:∀ v,assoc l label=some v→Q v σ) (qx:assoc l label=none→∀ ex,ex.C=100→assoc ex.fs "place"=some place→X ex σ) :
 CodeOp c ⟨n+4,true⟩ σ (.ref 216) [.raw (.ref a),.str label,place] Q X:=by
 refine K_fnV 60 H (f:=216) (params:=["self","label","place"]) (locs:=[]) (ρ1:=[("self",some (.raw (.ref a))),("label",some (.str label)),("place",some (place))]) rfl rfl rfl rfl rfl rfl rfl rfl rfl (len3 fun _ _ _=>rfl) rfl (by decide) rfl rfl ?_
 intro L
 have tells:∀ {N:Lv}{Q:PV}{X:PX},Q (.raw (.ref d)) σ→GetOp c N σ (.raw (.ref a)) "told" Q X:=fun q=>A_own q ⟨dx,e1,e2⟩ e3 (by rfl) (by rw[H.hc];rfl) (by rw[H.hc];rfl) (by rw[H.hc];rfl)
 apply lf
 refine tells ?_
 apply lf;(with_reducible refine' O_notIn ?a37 ?s38);(case s38=>assumption)
 cases hl:assoc l label with
 | none=>
  simp only[Option.isSome_none,Bool.not_false]
  refine Br.tt ?_;apply lf
  refine S_raise rfl ?_
  refine Vf.e 60 (by assumption) rfl ?_
  apply lf
  exact R_paper H (.refl _) (qx hl)
 | some v=>
  simp only[Option.isSome_some,Bool.not_true]
  refine Br.ff ?_;apply lf
  refine tells ?_
  apply lf
  refine I_dict ?_ e4 hl
  apply lf
  exact⟨_,.refl _,q v hl⟩
theorem C_stepsInit (H:Gs c (KK P) gtab){a dx:Addr}{j:V}(e1:σ a=some (.inst 302 dx))(e2:σ dx=some (.ns []))(q:Q .none (upd σ dx (.ns [(("judge" : Str),j)]))) :
 CodeOp c ⟨n+1,true⟩ σ (.ref 264) [.raw (.ref a),j] Q X:=by
 refine K_fnV 60 H (f:=264) (params:=["self","judge"]) (locs:=[]) (ρ1:=[("self",some (.raw (.ref a))),("judge",some (j))]) rfl rfl rfl rfl rfl rfl rfl rfl rfl (len2 fun _ _=>rfl) rfl (by decide) rfl rfl ?_
 intro L
 apply lf
 refine A_set e1 e2 ?_ (by simp) (by rw[H.hc];rfl) (by rw[H.hc];rfl) (by rw[H.hc];rfl) (by rw[H.hc];rfl)
 apply lf
 exact⟨_,.refl _,q⟩
theorem C_judgeInit (H:Gs c (KK P) gtab){a dx:Addr}{r t:V}(e1:σ a=some (.inst 241 dx))(e2:σ dx=some (.ns []))(q:Q .none (upd σ dx (.ns [(("rules" : Str),r),(("told" : Str),t)]))) :
 CodeOp c ⟨n+1,true⟩ σ (.ref 209) [.raw (.ref a),r,t] Q X:=by
 refine K_fnV 60 H (f:=209) (params:=["self","rules","told"]) (locs:=[]) (ρ1:=[("self",some (.raw (.ref a))),("rules",some (r)),("told",some (t))]) rfl rfl rfl rfl rfl rfl rfl rfl rfl (len3 fun _ _ _=>rfl) rfl (by decide) rfl rfl ?_
 intro L
 have hne:a≠dx:=fun q=>by rw[q,e2] at e1;cases e1
 apply lf
 refine A_set e1 e2 ?_ (by simp) (by rw[H.hc];rfl) (by rw[H.hc];rfl) (by rw[H.hc];rfl) (by rw[H.hc];rfl)
 apply lf
 refine A_set (by rw[upd_ne _ _ hne];exact e1) (upd_same _ _ _) ?_ (by simp [jI1,jI2]) (by rw[H.hc];rfl) (by rw[H.hc];rfl) (by rw[H.hc];rfl) (by rw[H.hc];rfl)
 apply lf
 rw[upd_upd]
 exact⟨_,.refl _,q⟩
theorem C_steps (H:Gs c (KK P) gtab){j:V}(q:∀ a dx,σ a=none→σ dx=none→a≠dx→Q (.raw (.ref a)) (upd (upd (upd σ dx (.ns [])) a (.inst 302 dx)) dx (.ns [(("judge" : Str),j)]))):CodeOp c ⟨n+2,true⟩ σ (.ref 302) [j] Q X:=by
 refine C_cls (fI:=264) (by rw[H.hc];rfl) (by rw[H.hc];rfl) (by rw[H.hc];rfl) fun a dx h1 h2 h3=>?_
 exact C_stepsInit H (upd_same _ _ _) (by rw[upd_ne _ _ h3.symm,upd_same]) ⟨rfl,q a dx h1 h2 h3⟩
theorem C_judge (H:Gs c (KK P) gtab){r t:V}(q:∀ a dx,σ a=none→σ dx=none→a≠dx→Q (.raw (.ref a)) (upd (upd (upd σ dx (.ns [])) a (.inst 241 dx)) dx (.ns [(("rules" : Str),r),(("told" : Str),t)]))):CodeOp c ⟨n+2,true⟩ σ (.ref 241) [r,t] Q X:=by
 refine C_cls (fI:=209) (by rw[H.hc];rfl) (by rw[H.hc];rfl) (by rw[H.hc];rfl) fun a dx h1 h2 h3=>?_
 exact C_judgeInit H (upd_same _ _ _) (by rw[upd_ne _ _ h3.symm,upd_same]) ⟨rfl,q a dx h1 h2 h3⟩
end
end Mine
namespace Mine
variable [Membership Addr Zip0]
theorem handed_v (t:Tm):handedV t.v=true:=by cases t;rfl
theorem toPs_strs:∀ l:List Str,toPs (l.map .str)=l.map .str
 | []=>rfl
 | x::l=>by simp [jS1,jS2,jR1,jR2,jR3,jR4,jR5,jR6,toPs_strs l]
theorem trees_strs:∀ l:List Str,trees (l.map .str)=true
 | []=>rfl
 | x::l=>by simp [jV1,jV2,jU1,jU2,jU3,jU4,jU5,jU6,trees_strs l]
theorem depth_strs:∀ l:List Str,PyData.depthAll (l.map .str)=0
 | []=>rfl
 | x::l=>by simp [PyData.depthAll,PyData.depth,depth_strs l]
theorem eqL_strs:∀ l m:List Str,eqL (l.map .str) (m.map .str)=decide (l=m):=by
 intro l m
 unfold eqL
 rw[toPs_strs,toPs_strs]
 induction l generalizing m with
 | nil=>cases m <;> simp [PyData.eqvAll]
 | cons x l ih=>
  cases m with
  | nil=>simp [PyData.eqvAll]
  | cons y m=>
   simp only[List.map_cons,PyData.eqvAll,ih,List.cons.injEq]
   have h:=eqV_str x y
   unfold eqV at h;simp only[jR1,jR2,jR3,jR4,jR5,jR6] at h
   rw[h];simp
structure RuleD where
 L:Tm
 R:Tm
 vs:List Str
structure RuleD.Ok (r:RuleD):Prop where
 lok:r.L.ok
 rok:r.R.ok
 lsz:r.L.sz<60
 rsz:r.R.sz<60
 vars:∀ ss,ss.Perm (dedupS [] (varsL r.L))→sortedS ss=true→ss=r.vs
 cov:∀ pairs:List (Str×V),pairs.map (·.1)=r.vs→r.L.cov (putAll [] pairs)∧r.R.cov (putAll [] pairs)
inductive RuleO (σ:Sig) (a:Addr) (r:RuleD):Prop
 | mk (dx:Addr) (nm nd:V) (h1:σ a=some (.inst 328 dx)) (h2:σ dx=some (.ns [("name",nm),("left",r.L.v),("right",r.R.v),("needs",nd)])):RuleO σ a r
theorem RuleO.sub {σ σ':Sig}{a:Addr}{r:RuleD}(h:RuleO σ a r)(x:Sub σ σ'):RuleO σ' a r:=let ⟨dx,nm,nd,e1,e2⟩:=h;⟨dx,nm,nd,x _ _ e1,x _ _ e2⟩
noncomputable def RulesO (σ:Sig)(l:List (Str×V))(rule:Str→Option RuleD):Prop:=∀ name,match rule name with
 | none=>assoc l name=none
 | some r=>∃ a,assoc l name=some (.raw (.ref a))∧RuleO σ a r
section
variable {c:Cx}{P:Params}{n:Nat}{hn:Bool}{σ:Sig}{X:PX}{Q:PV}
theorem A_left (H:Gs c (KK P) gtab){N:Lv}{a:Addr}{r:RuleD}(h:RuleO σ a r)(q:Q r.L.v σ):GetOp c N σ (.raw (.ref a)) "left" Q X:=
 let ⟨dx,nm,nd,e1,e2⟩:=h
 A_own q ⟨dx,e1,e2⟩ rfl (handed_v _) (by rw[H.hc];rfl) (by rw[H.hc];rfl) (by rw[H.hc];rfl)
theorem A_right (H:Gs c (KK P) gtab){N:Lv}{a:Addr}{r:RuleD}(h:RuleO σ a r)(q:Q r.R.v σ):GetOp c N σ (.raw (.ref a)) "right" Q X:=
 let ⟨dx,nm,nd,e1,e2⟩:=h
 A_own q ⟨dx,e1,e2⟩ rfl (handed_v _) (by rw[H.hc];rfl) (by rw[H.hc];rfl) (by rw[H.hc];rfl)
theorem C_rule_sides (H:Gs c (KK P) gtab){a dx d:Addr}{fs l pairs:List (Str×V)}{name:Str}{place:V}{rule:Str→Option RuleD}
 (e1:σ a=some (.inst 241 dx)) (e2:σ dx=some (.ns fs)) (e3:assoc fs "rules"=some (.raw (.ref d))) (e4:σ d=some (.dict l)) (hr:RulesO σ l rule) (hok:∀ r,rule name=some r→r.Ok) (hp:pairs.length≤1000)
 (q:∀ r,rule name=some r→pairs.map (·.1)=r.vs→Q (.tup [fillT (putAll [] pairs) r.L,fillT (putAll [] pairs) r.R]) σ)
 (qx:(∀ r,rule name=some r→pairs.map (·.1)≠r.vs)→∀ ex,ex.C=100→assoc ex.fs "place"=some place→X ex σ) :
 CodeOp c ⟨n+70,true⟩ σ (.ref 221) [.raw (.ref a),.str name,.tup (pv pairs),place] Q X:=by
 refine K_fnV 60 H (f:=221) (params:=["self","name","places","place"]) (locs:=["rule"]) (ρ1:=[("self",some (.raw (.ref a))),("name",some (.str name)),("places",some (.tup (pv pairs))),("place",some (place)),("rule",none)]) rfl rfl rfl rfl rfl rfl rfl rfl rfl (len4 fun _ _ _ _=>rfl) rfl (by decide) rfl rfl ?_
 intro L
 have tells:∀ {N:Lv}{Q:PV}{X:PX},Q (.raw (.ref d)) σ→GetOp c N σ (.raw (.ref a)) "rules" Q X:=fun q=>A_own q ⟨dx,e1,e2⟩ e3 (by rfl) (by rw[H.hc];rfl) (by rw[H.hc];rfl) (by rw[H.hc];rfl)
 have hrn:=hr name
 apply lf
 refine tells ?_
 apply lf;(with_reducible refine' O_notIn ?a39 ?s40);(case s40=>(refine Or.inl ?_;assumption))
 cases hl:rule name with
 | none=>
  rw[hl] at hrn
  simp only at hrn
  simp only[hrn,Option.isSome_none,Bool.not_false]
  refine Br.tt ?_;apply lf
  refine S_raise rfl ?_
  refine Vf.e 60 (by assumption) rfl ?_
  apply lf
  exact R_paper H (.refl _) (qx fun r h=>by exact (nosn h hl).elim)
 | some r=>
  rw[hl] at hrn
  refine el75 hrn ?_;(try clear hrn);intro b hb ho
  simp only[hb,Option.isSome_some,Bool.not_true]
  refine Br.ff ?_;apply lf
  refine tells ?_
  apply lf
  refine I_dict ?_ (.inl e4) hb
  apply lf
  have rok:=hok r hl
  refine G_lcI (cl:=[]) (ρc:=[("variable",none),("term",none)]) rfl (by (refine CompX.of ?k1 ?k2 ?k3 ?k4 ?k5 ?k6 ?k7 ?k8 ?k9;(case k1=>rfl);(case k2=>rfl);(case k3=>rfl);(case k4=>rfl);(case k5=>repeat (first | with_reducible exact all_nil | ((with_reducible refine all_cons ?_ ?_);rfl)));(case k6=>simp);(case k7=>exact of_decide_eq_true rfl);(case k8=>repeat (first | with_reducible exact all_nil | ((with_reducible refine all_cons ?_ ?_);first | exact KeyP.loc rfl | (refine KeyP.cap ?_ rfl rfl rfl rfl;repeat (first | exact List.mem_cons_self | refine List.mem_cons_of_mem _ ?_)))));(case k9=>repeat (first | exact all_nil | (refine all_cons ?_ ?_;rfl))))) (fun _=>rfl) ?_
  refine IG_plainV 60 (by assumption) rfl ?_
  apply lf
  refine IO_tup ?_
  refine comp_map pairs (fun p=>.tup [.str p.1,p.2]) (fun p=>.str p.1) (fun _=>true) trivial trivial rfl (by exact nll (by assumption) (by rfl)) ?_ ?_
  · intro C p hp
    (with_reducible refine' exTakes ?p41 ?a42);(case p41=>with_reducible (repeat (first | exact Put.here | apply Put.there | exact TakesL.nil | apply Takes.name | apply Takes.tup | apply TakesL.cons)));(with_reducible refine CompT_nil ?_)
    refine⟨rfl,?_⟩
    refine Vc.e 60 (by assumption) rfl ?_
    exact⟨rfl,.refl _⟩
  · intro D1 hD1
    apply lf
    refine A_left H (ho.sub (Sub.fresh (.refl _) hD1)) ?_
    apply lf
    refine (C_vars H rok.lok rok.lsz fun ss p1 p2 D2 hD2=>?_).call
    have hss:=rok.vars ss p1 p2
    subst hss
    apply lf
    refine O_neL (l:=(pairs.map (·.1)).map .str) ?_ (by rw[upd_keep hD2 (upd_same _ _ _),filt_true,List.map_map];rfl) (upd_same _ _ _) (trees_strs _) (trees_strs _) (by rw[toPs_strs,toPs_strs,depth_strs,depth_strs];show _≤16*(n+69);exact Nat.le_of_ble_eq_true rfl)
    rw[eqL_strs]
    by_cases hv:pairs.map (·.1)=r.vs
    · simp only[hv,decide_true,Bool.not_true]
      refine Br.ff ?_;apply lf
      refine S_try_ok ?_
      have cv:=rok.cov pairs hv
      refine Vf.s 60 (by assumption) rfl ?_
      apply lf
      refine A_left H (ho.sub (Sub.fresh (Sub.fresh (.refl _) hD1) hD2)) ?_
      apply lf
      refine B_dict_pairsT rfl (fun D3 hD3=>?_) (by exact nle (by assumption) (by rfl))
      apply lf
      refine (C_placed H 60 (n+8) _ _ _ r.L (by have:=ht_sz r.L;have:=rok.lsz;lia) (by have:=rok.lsz;exact nlh (by assumption) (by rfl)) rok.lok cv.1 (.inl (upd_same _ _ _)) ?_).call
      apply lf
      refine A_right H (ho.sub (Sub.fresh (Sub.fresh (Sub.fresh (.refl _) hD1) hD2) hD3)) ?_
      apply lf
      refine B_dict_pairsT rfl (fun D4 hD4=>?_) (by exact nle (by assumption) (by rfl))
      apply lf
      refine (C_placed H 60 (n+8) _ _ _ r.R (by have:=ht_sz r.R;have:=rok.rsz;lia) (by have:=rok.rsz;exact nlh (by assumption) (by rfl)) rok.rok cv.2 (.inl (upd_same _ _ _)) ?_).call
      apply lf
      exact⟨σ,Sub.fresh (Sub.fresh (Sub.fresh (Sub.fresh (.refl _) hD1) hD2) hD3) hD4,q r hl hv⟩
    · simp only[hv,decide_false,Bool.not_false]
      refine Br.tt ?_;apply lf
      refine S_raise rfl ?_
      refine Vf.e 60 (by assumption) rfl ?_
      apply lf
      exact R_paper H (Sub.fresh (Sub.fresh (.refl σ) hD1) hD2) (qx fun r' h=>by obtain rfl:=uq hl h;exact hv)
end
end Mine
namespace Mine
variable [Membership Addr Zip0]
theorem Br.and {b b2:Bool}{P R:Prop}(F:(b&&b2)=false→R)(G:b=true→(b2=false→R)→P):Br b P R:=⟨fun e=>G e fun e2=>F (by rw[e2,Bool.and_false]),fun e=>F (by rw[e,Bool.false_and])⟩
noncomputable def assocT {α:Type}:List (Str×α)→Str→Option α
 | [],_=>none
 | (k,v)::l,x=>if k=x then some v else assocT l x
theorem jw1 {α:Type}{k x w1:Str}{v:α}{l:List (Str×α)}:@assocT α [] w1=(none):=rfl
theorem jw2 {α:Type}{k x w1:Str}{v:α}{l:List (Str×α)}:@assocT α ((k,v)::l) x=(if k=x then some v else assocT l x):=rfl
noncomputable abbrev Td:=List (Str×(Tm×Tm))
noncomputable def tdV (td:Td):List (Str×V):=td.map fun x=>(x.1,.tup [x.2.1.v,x.2.2.v])
theorem assoc_map {α:Type}(f:α→V):∀ (l:List (Str×α)) (k:Str),assoc (l.map fun x=>(x.1,f x.2)) k=(assocT l k).map f
 | [],_=>rfl
 | (a,v)::l,k=>by
  simp only[List.map_cons,jv1,jv2,jw1,jw2]
  split
  · rfl
  · exact assoc_map f l k
theorem assoc_td (td:Td)(k:Str):assoc (tdV td) k=(assocT td k).map fun x=>.tup [x.1.v,x.2.v]:=assoc_map (fun x:Tm×Tm=>.tup [x.1.v,x.2.v]) td k
noncomputable abbrev pT (l:List (Str×Tm)):List (Str×V):=l.map fun x=>(x.1,x.2.v)
mutual
noncomputable def subT (tb:List (Str×Tm)):Tm→Tm
 | .mk s ks=>match assocT tb s with
  | some u=>u
  | none=>.mk s (subTs tb ks)
noncomputable def subTs (tb:List (Str×Tm)):List Tm→List Tm
 | []=>[]
 | t::ts=>subT tb t::subTs tb ts
end
structure Sp where
 p:List Int
 kind:Str
 name:Str
 pairs:List (Str×Tm)
 back:Bool
noncomputable abbrev Sp.v (s:Sp):V:=.tup [pathI s.p,.str s.kind,.str s.name,.tup (pv (pT s.pairs)),.bool s.back]
noncomputable def sidesT (rule:Str→Option RuleD)(td:Td)(s:Sp):Option (Tm×Tm):=
 if s.kind="told"∧s.pairs=[] then assocT td s.name
 else if s.kind="rule" then (match rule s.name with
  | some r=>if s.pairs.map (·.1)=r.vs then some (subT s.pairs r.L,subT s.pairs r.R) else none
  | none=>none)
 else none
structure RuleD.Tr (r:RuleD):Prop where
 ok:r.Ok
 fill:∀ pairs:List (Str×Tm),pairs.map (·.1)=r.vs→fillT (putAll [] (pT pairs)) r.L=(subT pairs r.L).v∧fillT (putAll [] (pT pairs)) r.R=(subT pairs r.R).v
 put:∀ pairs:List (Str×Tm),pairs.map (·.1)=r.vs→putT (putAll [] (pT pairs)) r.L=(subT pairs r.L).v∧putT (putAll [] (pT pairs)) r.R=(subT pairs r.R).v
inductive Made (c:Cx) (σ:Sig) (s:Addr) (rule:Str→Option RuleD) (td:Td):Prop
 | mk (ds j dj rd kd:Addr) (l:List (Str×V)) (h1:σ s=some (.inst 302 ds)) (h2:σ ds=some (.ns [("judge",.raw (.ref j))])) (h3:σ j=some (.inst 241 dj)) (h4:σ dj=some (.ns [("rules",.raw (.ref rd)),("told",.raw (.ref kd))])) (h5:σ rd=some (.dict l)) (h6:RulesO σ l rule) (h7:DR c σ kd (tdV td)):Made c σ s rule td
theorem DR.sub {c:Cx}{σ σ':Sig}{d:Addr}{l:List (Str×V)}(h:DR c σ d l)(x:Sub σ σ'):DR c σ' d l:=h.imp (x _ _) id
theorem Made.sub {c:Cx}{σ σ':Sig}{s:Addr}{rule:Str→Option RuleD}{td:Td}(h:Made c σ s rule td)(x:Sub σ σ'):Made c σ' s rule td:=by
 obtain ⟨ds,j,dj,rd,kd,l,h1,h2,h3,h4,h5,h6,h7⟩:=h
 refine⟨ds,j,dj,rd,kd,l,x _ _ h1,x _ _ h2,x _ _ h3,x _ _ h4,x _ _ h5,fun name=>?_,h7.sub x⟩
 have:=h6 name
 split at this
 · exact this
 · refine el75 this ?_;(try clear this);intro a e1 e2;exact⟨a,e1,e2.sub x⟩
mutual
theorem tree_tm:∀ t:Tm,tree t.v=true
 | .mk s ks=>by simp only[jr1,jU1,jU2,jU3,jU4,jU5,jU6,jV1,jV2,trees_tm ks,Bool.and_self]
theorem trees_tm:∀ l:List Tm,trees (Tm.vs l)=true
 | []=>rfl
 | t::ts=>by simp only[js1,js2,jV1,jV2,tree_tm t,trees_tm ts,Bool.and_self]
end
theorem trees_pairs:∀ l:List (Str×Tm),trees (pv (pT l))=true
 | []=>rfl
 | (k,t)::l=>by
  have:=trees_pairs l
  simp only[pT,pv,List.map_cons,jV1,jV2,jU1,jU2,jU3,jU4,jU5,jU6,tree_tm t,Bool.and_self,Bool.true_and] at this ⊢;exact this
section
variable {c:Cx}{P:Params}{n:Nat}{hn:Bool}{σ:Sig}{X:PX}{Q:PV}
noncomputable abbrev sideV (b:Bool)(l r:Tm):V:=.tup [(cond b r l).v,(cond b l r).v]
theorem C_sides (H:Gs c (KK P) gtab){s:Addr}{rule:Str→Option RuleD}{td:Td}{st:Sp}{place:V}(M:Made c σ s rule td)(hok:∀ nm r,rule nm=some r→r.Tr)(hp:st.pairs.length≤1000)
 (q:∀ u w,sidesT rule td st=some (u,w)→Q (sideV st.back u w) σ)
 (qx:sidesT rule td st=none→∀ ex,ex.C=100→assoc ex.fs "place"=some place→X ex σ) :
 CodeOp c ⟨n+71,true⟩ σ (.ref 278) [.raw (.ref s),st.v,place] Q X:=by
 obtain ⟨ds,j,dj,rd,kd,l,h1,h2,h3,h4,h5,h6,h7⟩:=M
 obtain ⟨path,word,name,pairs,back⟩:=st
 refine K_fnV 60 H (f:=278) (params:=["self","step","number"]) (locs:=["found"]) (ρ1:=[("self",some (.raw (.ref s))),("step",some (.tup [pathI path,.str word,.str name,.tup (pv (pT pairs)),.bool back])),("number",some (place)),("found",none)]) rfl rfl rfl rfl rfl rfl rfl rfl rfl (len3 fun _ _ _=>rfl) rfl (by decide) rfl rfl ?_
 intro L
 have own:∀ {N:Lv}{Q:PV}{X:PX},Q (.raw (.ref j)) σ→GetOp c N σ (.raw (.ref s)) "judge" Q X:=fun q=>A_own q ⟨ds,h1,h2⟩ rfl (by rfl) (by rw[H.hc];rfl) (by rw[H.hc];rfl) (by rw[H.hc];rfl)
 apply lf;(with_reducible refine I_t1 ?_);apply lf;(with_reducible refine O_eqS ?_)
 refine Br.and (b2:=decide (pv (pT pairs)=[])) (fun hf=>?_) fun hw hf=>?_
 · have hno:¬ (word="told"∧pairs=[]):=fun ⟨a,b⟩=>by subst a b;cases hf
   refine Br.ff ?_;apply lf;(with_reducible refine I_t1 ?_);apply lf;(with_reducible refine O_eqS ?_)
   refine Br.mk (fun hr=>?_) (fun hr=>?_)
   · have hr:=of_decide_eq_true hr
     apply lf
     refine own ?_
     apply lf
     refine⟨_,M_own (f:=221) ⟨dj,h3,h4⟩ rfl (by rw[H.hc];rfl) (by rw[H.hc];rfl) (by rw[H.hc];rfl),?_⟩
     apply lf;(with_reducible refine I_t2 ?_);apply lf;(with_reducible refine I_t3 ?_);apply lf
     refine (C_rule_sides H h3 h4 rfl h5 h6 (fun r e=>(hok name r e).ok) (by rw[List.length_map];exact hp) (fun r e1 e2=>?_) (fun e1=>?_)).call
     · rw[List.map_map] at e2
       replace e2:pairs.map (fun x=>x.1)=r.vs:=e2
       have ef:=(hok name r e1).fill pairs e2
       have hs:sidesT rule td ⟨path,word,name,pairs,back⟩=some (subT pairs r.L,subT pairs r.R):=by
        unfold sidesT;rw[if_neg hno,if_pos hr];simp only[e1];rw[if_pos e2]
       have q:=q _ _ hs
       rw[ef.1,ef.2]
       apply lf;(with_reducible refine I_t4 ?_)
       cases back with
       | true=>(refine Br.tt ?_;apply lf;(with_reducible refine I_t1 ?_);apply lf;(with_reducible refine I_t0 ?_);apply lf);exact⟨_,.refl _,q⟩
       | false=>(refine Br.ff ?_;apply lf);exact⟨_,.refl _,q⟩
     · have hs:sidesT rule td ⟨path,word,name,pairs,back⟩=none:=by
        unfold sidesT;rw[if_neg hno,if_pos hr]
        cases e:rule name with
        | none=>rfl
        | some r=>simp only;rw[if_neg (fun h=>e1 r e (by rw[List.map_map];exact (h:pairs.map (fun x=>x.1)=r.vs)))]
       exact fun ex e2 e3=>⟨σ,.refl _,qx hs ex e2 e3⟩
   · have hr:=of_decide_eq_false hr
     apply lf
     refine S_raise rfl ?_
     refine Vf.e 60 (by assumption) rfl ?_
     apply lf
     exact R_paper H (.refl _) (qx (by unfold sidesT;rw[if_neg hno,if_neg hr]))
 · have hw:=of_decide_eq_true hw
   apply lf;(with_reducible refine I_t3 ?_);apply lf
   refine O_eqNil (trees_pairs pairs) (Nat.succ_pos _) ?_
   refine Br.mk (fun hn=>?_) hf
   have hn:pairs=[]:=by
    have:=of_decide_eq_true hn
    cases pairs with
    | nil=>rfl
    | cons a r=>cases this
   refine Br.tt ?_;apply lf
   refine own ?_
   apply lf
   refine⟨_,M_own (f:=216) ⟨dj,h3,h4⟩ rfl (by rw[H.hc];rfl) (by rw[H.hc];rfl) (by rw[H.hc];rfl),?_⟩
   apply lf;(with_reducible refine I_t2 ?_);apply lf
   have hs:sidesT rule td ⟨path,word,name,pairs,back⟩=assocT td name:=by unfold sidesT;rw[if_pos ⟨hw,hn⟩]
   refine (C_told H (n:=n+66) h3 h4 rfl h7 (fun v e1=>?_) (fun e1=>?_)).call
   · rw[assoc_td] at e1
     cases e:assocT td name with
     | none=>rw[e] at e1;cases e1
     | some x=>
      obtain ⟨u,w⟩:=x
      rw[e] at e1 hs
      simp only[Option.map_some,Option.some.injEq] at e1
      subst e1
      have q:=q _ _ hs
      apply lf;(with_reducible refine I_t4 ?_)
      cases back with
      | true=>(refine Br.tt ?_;apply lf;(with_reducible refine I_t1 ?_);apply lf;(with_reducible refine I_t0 ?_);apply lf);exact⟨_,.refl _,q⟩
      | false=>(refine Br.ff ?_;apply lf);exact⟨_,.refl _,q⟩
   · rw[assoc_td] at e1
     have e2:assocT td name=none:=by
      cases e:assocT td name with
      | none=>rfl
      | some x=>rw[e] at e1;cases e1
     rw[e2] at hs
     exact fun ex e2 e3=>⟨σ,.refl _,qx hs ex e2 e3⟩
end
end Mine
namespace Mine
variable [Membership Addr Zip0]
theorem hasV_strs (k:Str):∀ l:List Str,hasV (l.map .str) (.str k)=l.contains k:=by
 intro l
 unfold hasV
 rw[toPs_strs]
 induction l with
 | nil=>rfl
 | cons x l ih=>
  simp only[List.map_cons,List.any_cons,ih,List.contains_cons]
  have h:=eqV_str x k
  unfold eqV at h;simp only[jR1,jR2,jR3,jR4,jR5,jR6] at h ⊢
  rw[h]
  by_cases e:x=k
  · simp [e]
  · have:¬ k=x:=fun q=>e q.symm
    simp [e,this]
theorem varsL_lt (t:Tm)(h:t.sz<60):(varsL t).length<60:=by
 unfold varsL
 have:=List.length_filter_le (fun p=>p.2.isVar) (partsT t)
 rw[partsT_length] at this
 rw[List.length_map];(refine Nat.lt_of_le_of_lt (by assumption) ?_;assumption)
structure RuleD.Mk (r:RuleD):Prop where
 ok:r.Ok
 nov:r.L.isVar=false
 sub:∀ k∈varsL r.R,k∈r.vs
section
variable {c:Cx}{P:Params}{n:Nat}{hn:Bool}{σ:Sig}{X:PX}{Q:PV}
inductive ruleI (σ4:Sig) (a D1 D4:Addr) (name:Str) (r:RuleD) (l:List V) (ρ1:Rho) (σ1:Sig):Prop
 | mk (h1:Sub σ4 σ1) (v1 v2 v3 v4:Option V) (h2:ρ1=([("self",some (.raw (.ref a))),("name",some (.str name)),("left",some r.L.v),("right",some r.R.v),("needs",some (.tup [])),("known",some (.raw (.ref D1))),("asked",some (.raw (.ref D4))),("kind",v1),("one",v2),("other",v3),("lost",v4)]:Rho)) (h3:(l=[.tup [.str "alike",r.R.v,r.R.v]]∨l=[])):ruleI σ4 a D1 D4 name r l ρ1 σ1
theorem C_ruleInit (H:Gs c (KK P) gtab){a dx:Addr}{r:RuleD}{name:Str}(hr:r.Mk)(e1:σ a=some (.inst 328 dx))(e2:σ dx=some (.ns []))(q:Q .none (upd σ dx (.ns [("name",.str name),("left",r.L.v),("right",r.R.v),("needs",.tup [])]))) :
 CodeOp c ⟨n+70,true⟩ σ (.ref 318) [.raw (.ref a),.str name,r.L.v,r.R.v,.tup []] Q X:=by
 refine K_fnV 60 H (f:=318) (params:=["self","name","left","right","needs"]) (locs:=["known","asked","kind","one","other","lost"]) (ρ1:=[("self",some (.raw (.ref a))),("name",some (.str name)),("left",some (r.L.v)),("right",some (r.R.v)),("needs",some (.tup [])),("known",none),("asked",none),("kind",none),("one",none),("other",none),("lost",none)]) rfl rfl rfl rfl rfl rfl rfl rfl rfl (len5 fun _ _ _ _ _=>rfl) rfl (by decide) rfl rfl ?_
 intro L
 have hne:a≠dx:=fun q=>by rw[q,e2] at e1;cases e1
 apply lf
 refine (C_isvar H (by have:=hr.ok.lsz;exact nlh (by assumption) (by rfl)) (hd_ok hr.ok.lok) ?_).call
 rw[hr.nov]
 refine Br.ff ?_;apply lf
 refine (C_vars H (n:=n+8) hr.ok.lok hr.ok.lsz fun ss p1 p2 D1 hD1=>?_).call
 have hss:=hr.ok.vars ss p1 p2
 subst hss
 apply lf
 intro D2 hD2
 apply lf
 refine B_list_tup (fun D3 hD3=>?_) (by simp)
 apply lf
 refine O_addL (fun D4 hD4=>?_) (by (refine upd_keep (by assumption) ?_;exact upd_same _ _ _)) (by exact upd_same _ _ _) (by simp)
 apply lf
 refine S_forV 60 H rfl rfl (fun _=>rfl) ?_
 refine IG_plainV 60 (by assumption) rfl ?_
 apply lf
 refine IO_list (l:=[.tup [.str "alike",r.R.v,r.R.v]]) (.inl (upd_same _ _ _)) ?_
 generalize hσ4:(upd (upd (upd (upd σ D1 _) D2 _) D3 _) D4 _)=σ4
 have sb:Sub σ σ4:=by rw[← hσ4];exact Sub.fresh (Sub.fresh (Sub.fresh (Sub.fresh (.refl _) hD1) hD2) hD3) hD4
 have k1:σ4 D1=some (.list (r.vs.map .str)):=by rw[← hσ4];exact upd_keep hD4 (upd_keep hD3 (upd_keep hD2 (upd_same _ _ _)))
 have k4:σ4 D4=some (.list [.tup [.str "alike",r.R.v,r.R.v]]):=by rw[← hσ4];exact upd_same _ _ _
 clear hσ4
 refine⟨trivial,ruleI σ4 a D1 D4 name r,⟨.refl _,_,_,_,_,rfl,.inl rfl⟩,?_,?_⟩
 · rintro v l ρ1 σ1 ⟨sb1,v1,v2,v3,v4,rfl,hl | hl⟩
   · simp only[List.cons.injEq] at hl
     obtain ⟨rfl,rfl⟩:=hl
     refine⟨.inl (sb1 _ _ k4),?_⟩
     apply lf
     refine O_notInT ?_ rfl rfl (by show _≤16*(n+69);simp [jR1,jR2,jR3,jR4,jR5,jR6,jS1,jS2,PyData.depth,PyData.depthAll];exact Nat.le_of_ble_eq_true rfl)
     have:hasV [.str "alike",.str "unlike"] (.str "alike")=true:=hasV_strs "alike" ["alike","unlike"] |>.trans (by decide)
     rw[this]
     refine Br.ff ?_;apply lf
     refine S_lcI (cl:=[("known",L+1)]) (ρc:=[("known",some (.raw (.ref D1))),("late",none)]) rfl (by (refine CompX.of ?k1 ?k2 ?k3 ?k4 ?k5 ?k6 ?k7 ?k8 ?k9;(case k1=>rfl);(case k2=>rfl);(case k3=>rfl);(case k4=>rfl);(case k5=>repeat (first | with_reducible exact all_nil | ((with_reducible refine all_cons ?_ ?_);rfl)));(case k6=>simp);(case k7=>exact of_decide_eq_true rfl);(case k8=>repeat (first | with_reducible exact all_nil | ((with_reducible refine all_cons ?_ ?_);first | exact KeyP.loc rfl | (refine KeyP.cap ?_ rfl rfl rfl rfl;repeat (first | exact List.mem_cons_self | refine List.mem_cons_of_mem _ ?_)))));(case k9=>repeat (first | exact all_nil | (refine all_cons ?_ ?_;rfl))))) rfl (fun _=>rfl) rfl ?_
     refine IG_plainV 60 (by assumption) rfl ?_
     apply lf
     refine (C_vars H (n:=n+8) hr.ok.rok hr.ok.rsz fun s1 q1 _ D5 hD5=>?_).call
     apply lf
     refine (C_vars H (n:=n+8) hr.ok.rok hr.ok.rsz fun s2 q2 _ D6 hD6=>?_).call
     have hl1:s1.length<60:=by
      have:=q1.length_eq
      have h2:=dedupS_length (l:=varsL r.R) (acc:=[])
      have h3:=varsL_lt r.R hr.ok.rsz
      simp only[List.length_nil] at h2;lia
     have hl2:s2.length<60:=by
      have:=q2.length_eq
      have h2:=dedupS_length (l:=varsL r.R) (acc:=[])
      have h3:=varsL_lt r.R hr.ok.rsz
      simp only[List.length_nil] at h2;lia
     apply lf
     refine O_addL (fun D7 hD7=>?_) (by (refine upd_keep (by assumption) ?_;exact upd_same _ _ _)) (by exact upd_same _ _ _) (by simp only[List.length_map];lia)
     apply lf
     refine IO_list (l:=(s1++s2).map .str) (.inl (by rw[List.map_append,upd_same])) ?_
     have sb2:Sub σ1 _:=Sub.fresh (m:=.list ((s1.map V.str)++s2.map V.str)) (Sub.fresh (m:=.list (s2.map V.str)) (Sub.fresh (m:=.list (s1.map V.str)) (.refl σ1) hD5) hD6) hD7
     refine comp_map (s1++s2) V.str V.str (fun k=>!(r.vs.contains k)) trivial (.inl (by rw[List.map_append,upd_same])) rfl (by rw[List.length_append];lia) ?_ ?_
     · intro C k hk
       (with_reducible refine' exTakes ?p43 ?a44);(case p43=>with_reducible (repeat (first | exact Put.here | apply Put.there | exact TakesL.nil | apply Takes.name | apply Takes.tup | apply TakesL.cons)));(with_reducible refine CompT_one ?_)
       refine Vc.t 60 (by assumption) rfl ?_
       apply lf
       refine O_notInL ?_ (sb2 _ _ (sb1 _ _ k1)) rfl (trees_strs _) (by rw[toPs_strs,depth_strs];show _≤16*(n+69);exact Nat.le_of_ble_eq_true rfl)
       rw[hasV_strs]
       cases hc:r.vs.contains k with
       | true=>exact And.intro rfl (.refl _)
       | false=>
        refine And.intro rfl ?_
        refine Vc.e 60 (by assumption) rfl ?_
        exact⟨rfl,.refl _⟩
     · intro D8 hD8
       have he:List.filter (fun k=>!(r.vs.contains k)) (s1++s2)=[]:=by
        refine List.filter_eq_nil_iff.mpr fun k hk=>?_
        have hm:k∈varsL r.R:=by
         rcases List.mem_append.mp hk with h | h
         · rcases mem_dedupS (q1.mem_iff.mp h) with h | h
           · simp at h
           · exact h
         · rcases mem_dedupS (q2.mem_iff.mp h) with h | h
           · simp at h
           · exact h
        simp [hr.sub k hm]
       rw[he]
       refine exPut (by repeat (first | exact Put.here | apply Put.there)) ?_
       apply lf
       intro D9 hD9
       apply lf
       refine O_neL (l:=[]) (m:=[]) ?_ (upd_keep hD9 (upd_same _ _ _)) (upd_same _ _ _) rfl rfl (by show _≤16*(n+69);simp [jS1,jS2,PyData.depthAll];exact Nat.le_of_ble_eq_true rfl)
       have:eqL [] []=true:=eqL_strs [] []
       rw[this]
       refine Br.ff ?_;apply lf
       exact⟨sb1.trans (Sub.fresh (Sub.fresh (Sub.fresh (Sub.fresh (Sub.fresh (.refl σ1) hD5) hD6) hD7) hD8) hD9),_,_,_,_,rfl,.inr (by trivial)⟩
   · cases hl
 · intro ρ1 σ1 zu97
   obtain ⟨sb1,v1,v2,v3,v4,rfl,hl⟩:=zu97
   refine⟨.inl (sb1 _ _ k4),?_⟩
   have sb:=sb.trans sb1
   have e1:=sb _ _ e1
   have e2:=sb _ _ e2
   apply lf
   refine A_set e1 e2 ?_ (by exact Nat.le_of_ble_eq_true rfl) (by rw[H.hc];rfl) (by rw[H.hc];rfl) (by rw[H.hc];rfl) (by rw[H.hc];rfl)
   apply lf
   refine A_set (by (refine upd_keepN (by assumption) ?_;assumption)) (upd_same _ _ _) ?_ (by exact Nat.le_of_ble_eq_true rfl) (by rw[H.hc];rfl) (by rw[H.hc];rfl) (by rw[H.hc];rfl) (by rw[H.hc];rfl)
   rw[upd_upd]
   apply lf
   refine A_set (by (refine upd_keepN (by assumption) ?_;assumption)) (upd_same _ _ _) ?_ (by exact Nat.le_of_ble_eq_true rfl) (by rw[H.hc];rfl) (by rw[H.hc];rfl) (by rw[H.hc];rfl) (by rw[H.hc];rfl)
   rw[upd_upd]
   apply lf;(with_reducible refine B_tuple_tup ?_);apply lf
   refine A_set (by (refine upd_keepN (by assumption) ?_;assumption)) (upd_same _ _ _) ?_ (by exact Nat.le_of_ble_eq_true rfl) (by rw[H.hc];rfl) (by rw[H.hc];rfl) (by rw[H.hc];rfl) (by rw[H.hc];rfl)
   rw[upd_upd]
   apply lf
   exact⟨_,Sub.cong sb,q⟩
theorem C_rule (H:Gs c (KK P) gtab){r:RuleD}{name:Str}(hr:r.Mk)(q:∀ a σ',σ a=none→Sub σ σ'→RuleO σ' a r→Q (.raw (.ref a)) σ'):CodeOp c ⟨n+71,true⟩ σ (.ref 328) [.str name,r.L.v,r.R.v,.tup []] Q X:=by
 refine C_cls (fI:=318) (by rw[H.hc];rfl) (by rw[H.hc];rfl) (by rw[H.hc];rfl) fun a dx h1 h2 h3=>?_
 refine C_ruleInit H hr (upd_same _ _ _) (by rw[upd_ne _ _ h3.symm,upd_same]) ⟨rfl,q a _ h1 ?_ ⟨dx,_,_,?_,upd_same _ _ _⟩⟩
 · intro b m e
   have hb:b≠a:=fun q=>by rw[q,h1] at e;cases e
   have hd:b≠dx:=fun q=>by rw[q,h2] at e;cases e
   rw[upd_ne _ _ hd,upd_ne _ _ hb,upd_ne _ _ hd];exact e
 · rw[upd_ne _ _ h3,upd_same]
end
end Mine
namespace Mine
variable [Membership Addr Zip0]
theorem I_listLast {c:Cx}{N:Lv}{σ:Sig}{Q:PV}{X:PX}{d:Addr}{l:List V}{v:V}(ed:LR c σ d (l++[v]))(q:Q v σ):SubOp c N σ (.raw (.ref d)) (.int (-1)) Q X:=fun A s QQ EE x y ak R r1 r2 p xp=>by
 simp only[jt1,jt2,jt3,jt4,jt5,jt6] at r1 r2
 subst r1
 obtain ⟨t,rfl⟩:=r2
 refine el75 (ed.real R) ?_;intro xs hl r1
 have hlen:=r1.length
 rw[List.length_append,List.length_singleton] at hlen
 obtain ⟨z,hz,rz⟩:=r1.get (v:=v) (show (l++[v])[l.length]?=some v by simp)
 have hsz:xs.size=l.length+1:=by rw[← Array.length_toList];exact hlen
 exact⟨_,_,hl.typeIs,slot_list_getitem.lookup,wpAny_getItem_list_neg hl (by decide) (by rw[hsz];lia) (by decide) (by rw[show ((-1:Int)+(xs.size:Int)).toNat=l.length by rw[hsz];lia];simpa using hz) (p.here R q rz)⟩
mutual
theorem depth_tm:∀ t:Tm,(toP t.v).depth≤t.ht
 | .mk s ks=>by
  simp only[jr1,jR1,jR2,jR3,jR4,jR5,jR6,jS1,jS2,PyData.depth,PyData.depthAll,jj1]
  rw[Nat.add_comm];exact Nat.add_le_add_left (Nat.max_le.mpr ⟨Nat.zero_le _,depth_tms ks⟩) 1
theorem depth_tms:∀ l:List Tm,PyData.depthAll (toPs (Tm.vs l))≤Tm.hts l
 | []=>Nat.le_refl _
 | t::ts=>by
  simp only[js1,js2,jS1,jS2,PyData.depthAll,jk1,jk2]
  exact Nat.max_le.mpr ⟨Nat.le_trans (depth_tm t) (Nat.le_max_left _ _),Nat.le_trans (depth_tms ts) (Nat.le_max_right _ _)⟩
end
noncomputable def doneT (rule:Str→Option RuleD)(td:Td)(t:Tm)(s:Sp):Option Tm:=
 match sidesT rule td s with
 | none=>none
 | some (l,r)=>match partAt s.p t with
  | none=>none
  | some u=>if eqV u.v (cond s.back r l).v then some (replT s.p t (cond s.back l r)) else none
theorem done_none1 {rule:Str→Option RuleD}{td:Td}{t:Tm}{s:Sp}(h:sidesT rule td s=none):doneT rule td t s=none:=by unfold doneT;rw[h]
theorem done_none2 {rule:Str→Option RuleD}{td:Td}{t l r:Tm}{s:Sp}(h:sidesT rule td s=some (l,r))(h2:partAt s.p t=none):doneT rule td t s=none:=by unfold doneT;rw[h];simp only[h2]
theorem done_eq {rule:Str→Option RuleD}{td:Td}{t l r u:Tm}{s:Sp}(h:sidesT rule td s=some (l,r))(h2:partAt s.p t=some u):doneT rule td t s=if eqV u.v (cond s.back r l).v then some (replT s.p t (cond s.back l r)) else none:=by unfold doneT;rw[h];simp only[h2]
structure Sp.Ok (s:Sp):Prop where
 p:s.p.length≤30
 k:∀ k∈s.p,kOk k
 n:s.pairs.length≤100
section
variable {c:Cx}{P:Params}{n:Nat}{hn:Bool}{σ:Sig}{X:PX}{Q:PV}
theorem R_paperS (H:Gs c (KK P) gtab){what:Str}{place:V}{ρ:Rho}{SX:PE}{X':PX}(q:∀ ex σ2,ex.C=100→assoc ex.fs "place"=some place→Sub σ σ2→SX ex ρ σ2) :
 CallOp c ⟨n+3,hn⟩ σ (.ref 100) [.str what,place] (fun v σ1=>∃ a C dx fs oC,v=.raw (.ref a)∧σ a=none∧σ dx=none∧σ1 a=some (.exc C (some dx) true)∧σ1 dx=some (.ns fs)∧c.K.lookup C=some oC∧oC.cls=.type "type"∧subIn c.K (.ref C) (.type "BaseException")=some true∧SX ⟨C,fs⟩ ρ (del (del σ1 a) dx)) X':=by
 refine ((C_paper H).mono ?_ fun _ _ q=>q).call
 intro v σ' zu98
 refine el48 zu98 ?_;(try clear zu98);intro b dy ze299 h1 h2 h3 ze300;subst ze299;subst ze300
 exact⟨b,100,dy,_,_,rfl,h1,h2,by rw[upd_ne _ _ h3.symm,upd_same],upd_same _ _ _,(by rw[H.hc];rfl),rfl,(by rw[H.hc];rfl),q _ _ rfl rfl (sub_del h1 h2)⟩
theorem C_replacedM (H:Gs c (KK P) gtab){m:Nat}{p:List Int}{t u v:Tm}(hm:p.length+4≤m)(h1:partAt p t=some v)(h2:t.sz≤1000)(h3:∀ k∈p,kOk k)(q:Q (replT p t u).v σ):CodeOp c ⟨m,true⟩ σ (.ref 138) [t.v,pathI p,u.v] Q X:=by
 obtain ⟨k,rfl⟩:=Nat.exists_eq_add_of_le' hm
 exact C_replaced H p k σ Q X t v h1 h2 h3 q
noncomputable def TryX (σ:Sig)(ρ:Rho)(place:V)(b:Prop):Exn→Rho→Sig→Prop:=fun ex ρ' σ'=>ρ'=ρ∧Sub σ σ'∧b∧(ex.C=100∧assoc ex.fs "place"=some place∨ex.C=60)
theorem C_stepped (H:Gs c (KK P) gtab){s:Addr}{rule:Str→Option RuleD}{td:Td}{st:Sp}{t:Tm}{i:Int}(M:Made c σ s rule td)(hok:∀ nm r,rule nm=some r→r.Tr)(hp:st.Ok)(hz:t.sz≤1000)
 (q:∀ t',doneT rule td t st=some t'→Q t'.v σ)
 (qx:doneT rule td t st=none→∀ ex,ex.C=100→assoc ex.fs "place"=some (.int i)→X ex σ) :
 CodeOp c ⟨n+120,true⟩ σ (.ref 285) [.raw (.ref s),t.v,st.v,.int i] Q X:=by
 have M0:=M
 obtain ⟨ds,j,dj,rd,kd,l0,h1,h2,h3,h4,h5,h6,h7⟩:=M
 refine K_fnV 60 H (f:=285) (params:=["self","term","step","number"]) (locs:=["left","right"]) (ρ1:=[("self",some (.raw (.ref s))),("term",some (t.v)),("step",some (st.v)),("number",some (.int i)),("left",none),("right",none)]) rfl rfl rfl rfl rfl rfl rfl rfl rfl (len4 fun _ _ _ _=>rfl) rfl (by decide) rfl rfl ?_
 intro L
 apply lf
 refine⟨_,M_own (f:=278) ⟨ds,h1,h2⟩ rfl (by rw[H.hc];rfl) (by rw[H.hc];rfl) (by rw[H.hc];rfl),?_⟩
 apply lf
 refine (C_sides H (n:=n+48) M0 hok (Nat.le_trans hp.n (by decide)) (fun l r hs=>?_) fun hs=>?_).call
 · apply lf
   refine S_try_raise (C0:=.ref 60) (SX0:=TryX σ [("self",some (.raw (.ref s))),("term",some t.v),("step",some st.v),("number",some (.int i)),("left",some (cond st.back r l).v),("right",some (cond st.back l r).v)] (.int i) (doneT rule td t st=none)) ?_ ?_
   · refine Vf.s 60 (by assumption) rfl ?_
     apply lf;(with_reducible refine I_t0 ?_);apply lf
     refine (C_part_at H (n:=n+116) hz hp.k (fun u hu=>?_) fun hu ex hC=>?_).call
     · have e:=done_eq hs hu
       apply lf
       have hu2:=part_sz hu
       refine O_ne ?_ (tree_tm _) (tree_tm _) (Nat.le_trans (Nat.min_le_left _ _) (Nat.le_trans (depth_tm u) (by have:=ht_sz u;show _≤16*(n+119);lia)))
       cases he:eqV u.v (cond st.back r l).v with
       | false=>
        rw[he] at e
        refine Br.tt ?_;apply lf
        refine S_raise rfl ?_
        refine Vf.e 60 (by assumption) rfl ?_
        apply lf
        exact R_paperS H fun ex σ2 a b x=>⟨rfl,x,e,.inl ⟨a,b⟩⟩
       | true=>
        rw[he] at e
        refine Br.ff ?_;apply lf;(with_reducible refine I_t0 ?_);apply lf
        refine (C_replacedM H (by have:=hp.p;lia) hu hz hp.k ?_).call
        apply lf
        exact⟨_,.refl _,q _ e⟩
     · exact⟨rfl,.refl _,done_none2 hs hu,.inr hC⟩
   · intro ex ρ' σ' zu99
     refine el72 zu99 ?_;(try clear zu99);intro ze301 x e hC;subst ze301
     refine⟨fun σ1=>?_,?_⟩
     · refine Vf.e 60 (by assumption) rfl ?_
       exact⟨rfl,rfl⟩
     rcases hC with ⟨hC,hp⟩ | hC
     · refine .inl ⟨by rw[hC];rw[H.hc];rfl,σ,x,qx e ex hC hp⟩
     · refine .inr ⟨by rw[hC];rw[H.hc];rfl,by rw[H.px,hC];rfl,fun e0 o0 h0=>?_⟩
       refine Vf.e 60 (by assumption) rfl ?_
       apply lf
       exact R_paperH H h0 fun ex2 σ2 a b x2=>⟨σ,x.trans x2,qx e ex2 a b⟩
 · exact fun ex e2 e3=>⟨σ,.refl _,qx (done_none1 hs) ex e2 e3⟩
end
end Mine
namespace Mine
variable [Membership Addr Zip0]
noncomputable def walkR (rule:Str→Option RuleD)(td:Td):Tm→List Sp→Nat→List Tm×Option Nat
 | _,[],_=>([],none)
 | t,s::ss,k=>match doneT rule td t s with
  | none=>([],some k)
  | some t'=>(t'::(walkR rule td t' ss (k+1)).1,(walkR rule td t' ss (k+1)).2)
theorem jZ1 (rule:Str→Option RuleD)(td:Td):walkR rule td w1 [] w2=(([],none)):=rfl
theorem jZ2 (rule:Str→Option RuleD)(td:Td):walkR rule td t (s::ss) k=(match doneT rule td t s with
  | none=>([],some k)
  | some t'=>(t'::(walkR rule td t' ss (k+1)).1,(walkR rule td t' ss (k+1)).2)):=rfl
theorem walkR_len {rule:Str→Option RuleD}{td:Td}:∀ (ss:List Sp) (t:Tm) (k:Nat),(walkR rule td t ss k).1.length≤ss.length
 | [],_,_=>Nat.le_refl _
 | s::ss,t,k=>by
  rw[jZ2]
  cases doneT rule td t s with
  | none=>exact Nat.zero_le _
  | some t'=>exact Nat.succ_le_succ (walkR_len ss t' (k+1))
theorem vs_append (a b:List Tm):Tm.vs (a++b)=Tm.vs a++Tm.vs b:=by rw[Tm.vs_map,Tm.vs_map,Tm.vs_map,List.map_append]
theorem lr_sub {c:Cx}{σ σ':Sig}{d:Addr}{l:List V}(h:LR c σ d l)(x:Sub σ σ'):LR c σ' d l:=h.imp (x _ _) id
section
variable {c:Cx}{P:Params}{n:Nat}{hn:Bool}{σ:Sig}{X:PX}{Q:PV}
inductive walkI (rule:Str→Option RuleD) (td:Td) (s b D:Addr) (t0:Tm) (ss:List Sp) (σ:Sig) (l:List V) (ρ1:Rho) (σ1:Sig):Prop
 | mk (pre:List Tm) (last:Tm) (rest:List Sp) (i:Nat) (u w:Option V) (h1:t0::(walkR rule td t0 ss 0).1=pre++[last]++(walkR rule td last rest i).1) (h2:(walkR rule td t0 ss 0).2=(walkR rule td last rest i).2) (h3:(∀ x∈rest,x∈ss)) (h4:l=enumV i (rest.map Sp.v)) (h5:ρ1=([("self",some (.raw (.ref s))),("term",some t0.v),("steps",some (.raw (.ref b))),("found",some (.raw (.ref D))),("number",u),("step",w)]:Rho)) (h6:Sub (upd σ D (.list (Tm.vs (pre++[last])))) σ1):walkI rule td s b D t0 ss σ l ρ1 σ1
theorem C_walk (H:Gs c (KK P) gtab){s b:Addr}{rule:Str→Option RuleD}{td:Td}{ss:List Sp}{t0:Tm}(M:Made c σ s rule td)(hok:∀ nm r,rule nm=some r→r.Tr)(hb:LR c σ b (ss.map Sp.v))(hl:ss.length≤1000)(hp:∀ x∈ss,x.Ok)(hz:∀ u∈t0::(walkR rule td t0 ss 0).1,u.sz≤1000)
 (q:(walkR rule td t0 ss 0).2=none→∀ D,σ D=none→Q (.raw (.ref D)) (upd σ D (.list (Tm.vs (t0::(walkR rule td t0 ss 0).1)))))
 (qx:∀ k,(walkR rule td t0 ss 0).2=some k→∀ ex,ex.C=100→assoc ex.fs "place"=some (.int (k:Nat))→X ex σ) :
 CodeOp c ⟨n+121,true⟩ σ (.ref 292) [.raw (.ref s),t0.v,.raw (.ref b)] Q X:=by
 refine K_fnV 60 H (f:=292) (params:=["self","term","steps"]) (locs:=["found","number","step"]) (ρ1:=[("self",some (.raw (.ref s))),("term",some (t0.v)),("steps",some (.raw (.ref b))),("found",none),("number",none),("step",none)]) rfl rfl rfl rfl rfl rfl rfl rfl rfl (len3 fun _ _ _=>rfl) rfl (by decide) rfl rfl ?_
 intro L
 apply lf
 intro D hD
 apply lf
 refine S_forV 60 H rfl rfl (fun _=>rfl) ?_
 refine IG_callV 60 (by assumption) rfl rfl rfl ?_
 apply lf;refine⟨Kee.type,?_⟩
 refine CI_enumL (l:=ss.map Sp.v) (lr_sub hb (Sub.upd hD)) ?_
 refine⟨⟨_,_,_,rfl⟩,walkI rule td s b D t0 ss σ,⟨[],t0,ss,0,none,none,rfl,rfl,fun _ h=>h,rfl,rfl,.refl _⟩,?_,?_⟩
 · intro v l ρ1 σ1 zu100
   obtain ⟨pre,last,rest,i,u,w,e1,e2,e3,e4,rfl,hs⟩:=zu100
   cases rest with
   | nil=>cases e4
   | cons x rest=>
   simp only[List.map_cons,jx1,jx2,List.cons.injEq] at e4
   obtain ⟨rfl,rfl⟩:=e4
   have hlast:last.sz≤1000:=hz last (by rw[e1];simp)
   have hsm:Sub σ σ1:=(Sub.upd hD).trans hs
   have M1:=M.sub hsm
   have M2:=M1
   obtain ⟨ds,j,dj,rd,kd,l0,h1,h2,h3,h4,h5,h6,h7⟩:=M1
   have hD1:σ1 D=some (.list (Tm.vs pre++[last.v])):=by rw[hs _ _ (upd_same _ _ _),vs_append];rfl
   refine⟨lr_sub hb hsm,?_⟩
   apply lf;(with_reducible refine' exM_append ?s45 ?a46);(case s45=>assumption);apply lf
   refine⟨_,M_own (f:=285) ⟨ds,h1,h2⟩ rfl (by rw[H.hc];rfl) (by rw[H.hc];rfl) (by rw[H.hc];rfl),?_⟩
   apply lf
   refine I_listLast (.inl hD1) ?_
   apply lf
   refine (C_stepped H M2 hok (hp x (e3 x (.head _))) hlast (fun t' ht=>?_) fun hn ex a b=>?_).call
   · have ew:walkR rule td last (x::rest) i=(t'::(walkR rule td t' rest (i+1)).1,(walkR rule td t' rest (i+1)).2):=by conv=>lhs;rw[jZ2];rw[ht]
     rw[ew] at e1 e2
     have hlen:pre.length+1≤1001:=by
      have:=congrArg List.length e1
      have h2:=walkR_len (rule:=rule) (td:=td) ss t0 0
      simp only[List.length_cons,List.length_append,List.length_nil] at this;lia
     apply lf
     refine B_append hD1 ?_ ?_
     · apply lf
       refine⟨pre++[last],t',rest,i+1,_,_,by rw[e1];simp,e2,fun y hy=>e3 y (.tail _ hy),rfl,rfl,?_⟩
       rw[vs_append (pre++[last])]
       have e:Tm.vs (pre++[last])++Tm.vs [t']=Tm.vs pre++[last.v]++[t'.v]:=by rw[vs_append];rfl
       rw[e]
       exact Sub.over hs
     · simp only[List.length_append,Tm.vs_length,List.length_cons,List.length_nil];exact nle (by assumption) (by rfl)
   · have ew:walkR rule td last (x::rest) i=([],some i):=by conv=>lhs;rw[jZ2];rw[hn]
     rw[ew] at e2
     exact⟨σ,hsm,qx i e2 ex a b⟩
 · intro ρ1 σ1 zu101
   obtain ⟨pre,last,rest,i,u,w,e1,e2,e3,e4,rfl,hs⟩:=zu101
   have:rest=[]:=by
    cases rest with
    | nil=>rfl
    | cons a r=>cases e4
   subst this
   have e1':t0::(walkR rule td t0 ss 0).1=pre++[last]:=by rw[e1];exact List.append_nil _
   refine⟨lr_sub hb ((Sub.upd hD).trans hs),?_⟩
   apply lf
   refine⟨_,hs,?_⟩
   rw[← e1']
   exact q e2 D hD
theorem C_paper_of (H:Gs c (KK P) gtab){s b:Addr}{rule:Str→Option RuleD}{td:Td}{ss:List Sp}{t0:Tm}{k:Nat}(M:Made c σ s rule td)(hok:∀ nm r,rule nm=some r→r.Tr)(hb:LR c σ b (ss.map Sp.v))(hl:ss.length≤1000)(hp:∀ x∈ss,x.Ok)(hz:∀ u∈t0::(walkR rule td t0 ss 0).1,u.sz≤1000)
 (hk:(walkR rule td t0 ss 0).2=some k) (qx:∀ ex,ex.C=100→assoc ex.fs "place"=some (.int (k:Nat))→X ex σ) :
 CodeOp c ⟨n+122,true⟩ σ (.ref 299) [.raw (.ref s),t0.v,.raw (.ref b)] Q X:=by
 refine K_fnV 60 H (f:=299) (params:=["self","term","steps"]) (locs:=["paper","here","step","plain"]) (ρ1:=[("self",some (.raw (.ref s))),("term",some (t0.v)),("steps",some (.raw (.ref b))),("paper",none),("here",none),("step",none),("plain",none)]) rfl rfl rfl rfl rfl rfl rfl rfl rfl (len3 fun _ _ _=>rfl) rfl (by decide) rfl rfl ?_
 intro L
 have M2:=M
 obtain ⟨ds,j,dj,rd,kd,l0,h1,h2,h3,h4,h5,h6,h7⟩:=M
 apply lf
 refine S_forV 60 H rfl rfl (fun _=>rfl) ?_
 refine IG_callV 60 (by assumption) rfl rfl rfl ?_
 apply lf
 refine⟨_,M_own (f:=292) ⟨ds,h1,h2⟩ rfl (by rw[H.hc];rfl) (by rw[H.hc];rfl) (by rw[H.hc];rfl),?_⟩
 apply lf
 refine (C_walk H M2 hok hb hl hp hz (fun e=>by exact (nosn hk e).elim) fun k' e ex a b=>?_).call
 obtain rfl:=uq hk e
 exact⟨σ,.refl _,qx ex a b⟩
noncomputable def HX (σ:Sig)(Q:PV):Exn→Sig→Prop:=fun ex σ'=>Sub σ σ'∧ex.C=100∧∃ i:Int,assoc ex.fs "place"=some (.int i)∧Q (.int i) σ
theorem C_heard (H:Gs c (KK P) gtab){m:Addr}{tv sv:V}(hk:Kee c σ (.ref m))(g:∀ Q' X',(∀ v σ',Q v σ'→Q' v σ')→(∀ ex σ',HX σ Q ex σ'→X' ex σ')→CodeOp c ⟨n,true⟩ σ (.ref m) [tv,sv] Q' X'):CodeOp c ⟨n+1,true⟩ σ (.ref 418) [.raw (.ref m),tv,sv] Q X:=by
 refine K_fnV 60 H (f:=418) (params:=["ask","term","steps"]) (locs:=["fault"]) (ρ1:=[("ask",some (.raw (.ref m))),("term",some (tv)),("steps",some (sv)),("fault",none)]) rfl rfl rfl rfl rfl rfl rfl rfl rfl (len3 fun _ _ _=>rfl) rfl (by decide) rfl rfl ?_
 intro L
 apply lf
 refine S_try_as (C0:=.ref 100) (SX0:=fun ex ρ' σ'=>ρ'=[(("ask" : Str),some (.raw (.ref m))),(("term" : Str),some tv),(("steps" : Str),some sv),(("fault" : Str),none)]∧HX σ Q ex σ') rfl ?_ ?_
 · refine Vf.s 60 (by assumption) rfl ?_
   refine callL_mk ⟨hk,(g _ _ (fun v σ' q=>?_) fun ex σ' q=>?_).call⟩
   · apply lf
     exact⟨_,.refl _,q⟩
   · exact⟨rfl,q⟩
 · intro zu102 ρ' σ' zu103
   obtain ⟨C,fs⟩:=zu102
   refine el56 zu103 ?_;(try clear zu103);intro ze302 x e1 i e2 q;subst ze302
   simp only at e1 e2
   subst e1
   refine⟨by rw[H.hc];rfl,fun σ1=>?_,fun e dx he hdx hne=>?_⟩
   · refine Vf.e 60 (by assumption) rfl ?_
     exact⟨rfl,rfl⟩
   · refine exPut (by repeat (first | exact Put.here | apply Put.there)) ?_
     refine Vf.s 60 (by assumption) rfl ?_
     apply lf
     refine A_ownE ?_ (upd_same _ _ _) (upd_keepN hne.symm (upd_same _ _ _)) e2 rfl (by rw[H.hc];rfl) (by rw[H.hc];rfl) (by rw[H.hc];rfl) (by rw[H.hc];rfl) (by rw[H.hc];rfl)
     refine exPut (by repeat (first | exact Put.here | apply Put.there)) ?_
     apply lf
     exact⟨_,x.trans (Sub.fresh (Sub.fresh (.refl _) hdx) (by rw[upd_ne _ _ hne];exact he)),q⟩
end
end Mine
namespace Mine
variable [Membership Addr Zip0]
mutual
noncomputable def spotsT:Tm→List (List Int)
 | .mk _ ks=>[]::spotsTs 0 ks
noncomputable def spotsTs:Nat→List Tm→List (List Int)
 | _,[]=>[]
 | k,t::ts=>(spotsT t).map (fun p=>((k:Nat):Int)::p)++spotsTs (k+1) ts
end
theorem jP1:spotsT (.mk w1 ks)=([]::spotsTs 0 ks):=rfl
theorem jQ1:spotsTs w1 []=([]):=rfl
theorem jQ2:spotsTs k (t::ts)=((spotsT t).map (fun p=>((k:Nat):Int)::p)++spotsTs (k+1) ts):=rfl
mutual
theorem spotsT_length:∀ t:Tm,(spotsT t).length=t.sz
 | .mk s ks=>by simp only[jP1,jp1,List.length_cons,spotsTs_length 0 ks];lia
theorem spotsTs_length:∀ (k:Nat) (l:List Tm),(spotsTs k l).length=Tm.szs l
 | _,[]=>rfl
 | k,t::ts=>by simp only[jQ1,jQ2,jq1,jq2,List.length_append,List.length_map,spotsT_length t,spotsTs_length (k+1) ts]
end
theorem spotsTs_append:∀ (k:Nat) (a b:List Tm),spotsTs k (a++b)=spotsTs k a++spotsTs (k+a.length) b
 | k,[],b=>by simp [jQ1,jQ2]
 | k,t::a,b=>by simp only[List.cons_append,jQ1,jQ2,spotsTs_append (k+1) a b,List.length_cons,List.append_assoc];congr 3;lia
mutual
theorem spots_part:∀ (t:Tm) (p:List Int),p∈spotsT t→∃ u,partAt p t=some u
 | .mk s ks,p,h=>by
  simp only[jP1,List.mem_cons] at h
  rcases h with rfl | h
  · exact⟨_,rfl⟩
  · refine el44 (spotsTs_part 0 ks p h) ?_;intro k q u v ze303 h1 h2 h3;subst ze303
    refine⟨u,?_⟩
    have hk:kidAt (.mk s ks) (k:Nat)=some v:=by
     unfold kidAt;rw[if_neg (by lia)];simp only[Tm.kids,Int.toNat_natCast];simpa using h2
    simp only[jE1,jE2,hk];exact h3
theorem spotsTs_part:∀ (k:Nat) (l:List Tm) (p:List Int),p∈spotsTs k l→∃ (j:Nat) (q:List Int) (u v:Tm),p=((j:Nat):Int)::q∧k≤j∧l[j-k]?=some v∧partAt q v=some u
 | _,[],p,h=>by simp [jQ1,jQ2] at h
 | k,t::ts,p,h=>by
  simp only[jQ1,jQ2,List.mem_append,List.mem_map] at h
  rcases h with ⟨q,hq,rfl⟩ | h
  · obtain ⟨u,hu⟩:=spots_part t q hq
    exact⟨k,q,u,t,rfl,Nat.le_refl _,by simp,hu⟩
  · refine el44 (spotsTs_part (k+1) ts p h) ?_;intro j q u v ze304 h1 h2 h3;subst ze304
    refine⟨j,q,u,v,rfl,by exact Nat.le_of_lt (by assumption),?_,h3⟩
    rw[show j-k=(j-(k+1))+1 by lia];simpa using h2
end
section
variable {c:Cx}{P:Params}{n:Nat}{hn:Bool}{σ:Sig}{X:PX}{Q:PV}
theorem upFrom_cons {i:Int}{n:Nat}:upFrom i (n+1)=.int i::upFrom (i+1) n:=rfl
inductive spotsI (ks:List Tm) (σ:Sig) (l:List V) (acc:List V) (σ1:Sig):Prop
 | mk (done rest:List Tm) (h1:ks=done++rest) (h2:l=upFrom (done.length:Nat) rest.length) (h3:acc=(spotsTs 0 done).map pathI) (h4:Sub σ σ1):spotsI ks σ l acc σ1
inductive spotsJ (ks:List Tm) (σ:Sig) (done:List Tm) (kid:Tm) (D2:Addr) (l:List V) (acc:List V) (σ1:Sig):Prop
 | mk (d2 r2:List (List Int)) (h1:spotsT kid=d2++r2) (h2:l=r2.map pathI) (h3:acc=(spotsTs 0 done++d2.map (fun p=>((done.length:Nat):Int)::p)).map pathI) (h4:Sub (upd σ D2 (.list ((spotsT kid).map pathI))) σ1):spotsJ ks σ done kid D2 l acc σ1
theorem C_spots (H:Gs c (KK P) gtab):∀ (m n:Nat) (σ:Sig) (Q:PV) (X:PX) (t:Tm),t.ht≤m→t.sz≤1000→(∀ D,σ D=none→Q (.raw (.ref D)) (upd σ D (.list ((spotsT t).map pathI))))→CodeOp c ⟨n+m,true⟩ σ (.ref 370) [t.v] Q X:=by
 intro m
 induction m with
 | zero=>intro n σ Q X t h1;obtain ⟨s,ks⟩:=t;simp only[jj1] at h1;lia
 | succ m ih=>
 intro n σ Q X t h1 h2 q
 obtain ⟨s,ks⟩:=t
 have hz:=szs_ge ks
 simp only[jj1,jp1] at h1 h2
 refine K_fnV 60 H (f:=370) (params:=["t"]) (locs:=[]) (ρ1:=[("t",some ((Tm.mk s ks).v))]) rfl rfl rfl rfl rfl rfl rfl rfl rfl (len1 fun _=>rfl) rfl (by decide) rfl rfl ?_
 intro L
 apply lf
 intro D hD
 apply lf
 refine G_lc2I (cl:=[("t",L+1)]) (ρc:=[("t",some (Tm.mk s ks).v),("k",none),("path",none)]) rfl (by (refine CompX.of ?k1 ?k2 ?k3 ?k4 ?k5 ?k6 ?k7 ?k8 ?k9;(case k1=>rfl);(case k2=>rfl);(case k3=>rfl);(case k4=>rfl);(case k5=>repeat (first | with_reducible exact all_nil | ((with_reducible refine all_cons ?_ ?_);rfl)));(case k6=>simp);(case k7=>exact of_decide_eq_true rfl);(case k8=>repeat (first | with_reducible exact all_nil | ((with_reducible refine all_cons ?_ ?_);first | exact KeyP.loc rfl | (refine KeyP.cap ?_ rfl rfl rfl rfl;repeat (first | exact List.mem_cons_self | refine List.mem_cons_of_mem _ ?_)))));(case k9=>repeat (first | exact all_nil | (refine all_cons ?_ ?_;rfl))))) ?loc1 (fun _=>rfl) (fun _ _=>rfl) ?_
 case loc1=>repeat (first | exact all_nil | (refine all_cons ?_ ?_;rfl))
 refine IG_callV 60 (by assumption) rfl rfl rfl ?_
 apply lf
 refine B_len_tm (t:=.mk s ks) (by simp only[jp1];assumption) ?_
 apply lf;(with_reducible refine O_sub ?_);apply lf;refine⟨Kee.type,?_⟩
 rw[show ((Tm.mk s ks).kids.length:Int)+1-1=((ks.length:Nat):Int) from by simp only[Tm.kids];lia]
 refine CI_range (by lia) ?_
 generalize hτ:upd σ D _=τ
 have sτ:Sub σ τ:=by rw[← hτ];exact Sub.upd hD
 have hDτ:τ D=some (.list [.tup []]):=by rw[← hτ];exact upd_same _ _ _
 clear hτ
 refine⟨⟨_,_,rfl⟩,spotsI ks τ,⟨[],ks,rfl,rfl,rfl,.refl _⟩,?_,?_⟩
 · intro C v l acc σ1 zu104
   obtain ⟨done,rest,e1,e2,rfl,hs⟩:=zu104
   cases rest with
   | nil=>cases e2
   | cons kid rest=>
   rw[List.length_cons,upFrom_cons] at e2
   simp only[List.cons.injEq] at e2
   obtain ⟨rfl,rfl⟩:=e2
   have hm:=hts_mem (t:=kid) (l:=ks) (by rw[e1];simp)
   have hk:kidAt (.mk s ks) ((done.length:Nat):Int)=some kid:=by
    unfold kidAt;rw[if_neg (by lia)];simp only[Tm.kids,Int.toNat_natCast,e1];simp
   refine⟨trivial,exTakes (by (with_reducible (repeat (first | exact Put.here | apply Put.there | exact TakesL.nil | apply Takes.name | apply Takes.tup | apply TakesL.cons)))) ⟨?_,?_⟩⟩
   · intro x u h
     simp only[List.mem_cons,Prod.mk.injEq,List.not_mem_nil,or_false] at h
     rcases h with ⟨rfl,_⟩ | ⟨rfl,_⟩ | ⟨rfl,h⟩
     · exact (by decide)
     · exact (by decide)
     · cases h
   refine IG_plainC 60 (by assumption) rfl ?_
   apply lf;(with_reducible refine O_add ?_);apply lf
   refine I_kid hk (by simp only[jp1];assumption) ?_
   apply lf
   refine (ih n _ _ _ kid (by lia) (by lia) fun D2 hD2=>?_).call
   apply lf
   refine IO_list (l:=(spotsT kid).map pathI) (.inl (upd_same _ _ _)) ?_
   have hl:(spotsTs 0 done).length+(spotsT kid).length≤1000:=by
    rw[spotsTs_length,spotsT_length]
    have:Tm.szs ks=Tm.szs done+(kid.sz+Tm.szs rest):=by rw[e1,szs_append];rfl
    lia
   refine⟨trivial,spotsJ ks σ1 done kid D2,⟨[],spotsT kid,rfl,rfl,by simp,.refl _⟩,?_,?_⟩
   · intro v l acc σ2 zu105
     obtain ⟨d2,r2,f1,f2,rfl,hs2⟩:=zu105
     cases r2 with
     | nil=>cases f2
     | cons p r2=>
     simp only[List.map_cons,List.cons.injEq] at f2
     obtain ⟨rfl,rfl⟩:=f2
     refine⟨.inl (hs2 _ _ (upd_same _ _ _)),?_,exTakes (by (with_reducible (repeat (first | exact Put.here | apply Put.there | exact TakesL.nil | apply Takes.name | apply Takes.tup | apply TakesL.cons)))) ?_⟩
     · simp only[List.length_map,List.length_append]
       have:(spotsT kid).length=d2.length+(r2.length+1):=by rw[f1];simp
       lia
     have hp:p.length<kid.sz:=by
      obtain ⟨u,hu⟩:=spots_part kid p (by rw[f1];simp)
      have:=part_sz hu;have:=sz_pos u;lia
     refine Vc.e 60 (by assumption) rfl ?_
     apply lf;(with_reducible refine O_addT ?a47 ?z48);(case z48=>(simp;lia))
     exact⟨d2++[p],r2,by rw[f1];simp,rfl,by simp<;>rfl,hs2⟩
   · intro acc σ2 zu106
     obtain ⟨d2,r2,f1,f2,rfl,hs2⟩:=zu106
     have:r2=[]:=by
      cases r2 with
      | nil=>rfl
      | cons a r=>cases f2
     subst this
     rw[List.append_nil] at f1
     refine⟨.inl (hs2 _ _ (upd_same _ _ _)),done++[kid],rest,by rw[e1];simp,by simp,?_,hs.trans ((Sub.upd hD2).trans hs2)⟩
     rw[spotsTs_append]
     simp [jQ1,jQ2,f1]
 · intro acc σ1 zu107
   obtain ⟨done,rest,e1,e2,rfl,hs⟩:=zu107
   have:rest=[]:=by
    cases rest with
    | nil=>rfl
    | cons a r=>cases e2
   subst this
   rw[List.append_nil] at e1;subst e1
   refine⟨trivial,fun D2 hD2=>?_⟩
   apply lf
   refine O_addL (fun D3 hD3=>?_) (upd_keep hD2 (hs _ _ hDτ)) (upd_same _ _ _) (by simp only[List.length_map,List.length_cons,List.length_nil,spotsTs_length];exact nle (by assumption) (by rfl))
   apply lf
   have hn3:σ D3=none:=(sτ.trans (hs.trans (Sub.upd hD2))).none hD3
   refine⟨_,Sub.cong (sτ.trans (hs.trans (Sub.upd hD2))),?_⟩
   exact q D3 hn3
end
end Mine
namespace Mine
variable [Membership Addr Zip0]
noncomputable def feedL (cl:Addr)(k:Nat):List (Str×V):=[("cells",.raw (.ref cl)),("at",.int k)]
noncomputable def FeedOk (σ:Sig)(f cl:Addr)(m:Nat):Prop:=∃ (cells:List Int) (k:Nat),σ f=some (.dict (feedL cl k))∧σ cl=some (.list (cells.map .int))∧k≤m∧cells.length≤63
noncomputable def Kp (f:Addr)(σ σ':Sig):Prop:=∀ a m,a≠f→σ a=some m→σ' a=some m
theorem Kp.trans {f:Addr}{σ σ1 σ2:Sig}(x:Kp f σ σ1)(y:Kp f σ1 σ2):Kp f σ σ2:=fun a m h e=>y a m h (x a m h e)
theorem Kp.sub {f:Addr}{σ σ':Sig}(x:Sub σ σ'):Kp f σ σ':=fun a m _ e=>x a m e
theorem FeedOk.sub {σ σ':Sig}{f cl:Addr}{m:Nat}(F:FeedOk σ f cl m)(x:Sub σ σ'):FeedOk σ' f cl m:=el54 (F) fun cells k a b d e=>⟨cells,k,x _ _ a,x _ _ b,d,e⟩
theorem FeedOk.le {σ:Sig}{f cl:Addr}{m m':Nat}(F:FeedOk σ f cl m)(h:m≤m'):FeedOk σ f cl m':=el54 (F) fun cells k a b d e=>⟨cells,k,a,b,Nat.le_trans d h,e⟩
section
variable {c:Cx}{P:Params}{n:Nat}{hn:Bool}{σ:Sig}{X:PX}{Q:PV}
theorem C_pick (H:Gs c (KK P) gtab){f cl:Addr}{m:Nat}{wide:Int}(F:FeedOk σ f cl m)(hm:m≤100000)(hw:0<wide)
 (q:∀ d σ',0≤d→d<wide→FeedOk σ' f cl (m+1)→Kp f σ σ'→Q (.int d) σ'):CodeOp c ⟨n+1,true⟩ σ (.ref 358) [.raw (.ref f),.int wide] Q X:=by
 refine el54 F ?_;(try clear F);intro cells k hf hcl hk hl
 have hne:cl≠f:=by rintro rfl;exact absurd (uq hf hcl) (fun q=>by cases q)
 have F':FeedOk (upd σ f (.dict (putA (feedL cl k) "at" (.int ((k:Int)+1))))) f cl (m+1):=⟨cells,k+1,upd_same _ _ _,by rw[upd_ne _ _ hne];exact hcl,by exact Nat.succ_le_succ (by assumption),hl⟩
 have K':Kp f σ (upd σ f (.dict (putA (feedL cl k) "at" (.int ((k:Int)+1))))):=fun a m ha e=>by rw[upd_ne _ _ ha];exact e
 refine K_fnV 60 H (f:=358) (params:=["bag","many"]) (locs:=["at"]) (ρ1:=[("bag",some (.raw (.ref f))),("many",some (.int wide)),("at",none)]) rfl rfl rfl rfl rfl rfl rfl rfl rfl (len2 fun _ _=>rfl) rfl (by decide) rfl rfl ?_
 intro L
 apply lf;(with_reducible refine' I_dict ?a49 ?d50 ?x51);(case d50=>(refine Or.inl ?_;assumption));(case x51=>rfl);apply lf;(with_reducible refine O_add ?_);apply lf;(with_reducible refine' St_dict ?s52 ?a53 ?z54);(case s52=>assumption);(case z54=>exact Nat.le_of_ble_eq_true rfl);apply lf;(with_reducible refine' I_dict ?a55 ?d56 ?x57);(case d56=>(refine Or.inl ?_;exact upd_same _ _ _));(case x57=>rfl);apply lf;(with_reducible refine' B_len_list ?a58 ?s59 ?z60);(case s59=>(refine Or.inl ?_;refine upd_keepN (by assumption) ?_;assumption));(case z60=>(simp;exact nle (by assumption) (by rfl)));apply lf;(with_reducible refine O_lt ?_)
 refine Br.mk (fun hb=>?_) (fun hb=>?_)
 · apply lf;(with_reducible refine' I_dict ?a61 ?d62 ?x63);(case d62=>(refine Or.inl ?_;exact upd_same _ _ _));(case x63=>rfl);apply lf
   simp only[List.length_map,decide_eq_true_eq] at hb
   have hk':k<cells.length:=by lia
   refine I_list (v:=.int (cells[k])) ?_ (by (refine upd_keepN (by assumption) ?_;assumption)) (by simp [hk']) ⟨by lia,by lia⟩
   apply lf;(with_reducible refine O_mod ?a64 ?b65);(case b65=>lia);apply lf
   exact⟨_,.refl _,q _ _ (Int.fmod_nonneg_of_pos _ hw) (Int.fmod_lt_of_pos _ hw) F' K'⟩
 · apply lf;(with_reducible refine O_mul ?a66 ?b67);(case b67=>exact IntMulOk.of_left (by decide));apply lf;(with_reducible refine O_mul ?a68 ?b69);(case b69=>exact IntMulOk.of_left (small_bits (by lia) (by lia)));apply lf;(with_reducible refine O_mul ?a70 ?b71);(case b71=>exact IntMulOk.of_left (by decide));apply lf;(with_reducible refine O_add ?_);apply lf;(with_reducible refine O_add ?_);apply lf;(with_reducible refine O_mod ?a72 ?b73);(case b73=>lia);apply lf
   exact⟨_,.refl _,q _ _ (Int.fmod_nonneg_of_pos _ hw) (Int.fmod_lt_of_pos _ hw) F' K'⟩
end
end Mine
namespace Mine
variable [Membership Addr Zip0]
noncomputable def gnm:List Str:=["a","b","c","f","g"]
mutual
noncomputable def Tm.g:Tm→Bool
 | .mk s ks=>gnm.contains s&&Tm.gs ks
noncomputable def Tm.gs:List Tm→Bool
 | []=>true
 | t::ts=>t.g&&Tm.gs ts
end
theorem jh1:Tm.g (.mk s ks)=(gnm.contains s&&Tm.gs ks):=rfl
theorem ji1:Tm.gs []=(true):=rfl
theorem ji2:Tm.gs (t::ts)=(t.g&&Tm.gs ts):=rfl
theorem item_abc:Txt.item "abc" 0="a"∧Txt.item "abc" 1="b"∧Txt.item "abc" 2="c":=by decide +kernel
noncomputable def gz:Nat→Nat
 | 0=>2
 | d+1=>gz d+gz d
theorem gz_pos:∀ d,2≤gz d
 | 0=>Nat.le_refl _
 | d+1=>Nat.le_trans (gz_pos d) (Nat.le_add_left _ _)
section
variable {c:Cx}{P:Params}{N:Lv}{n:Nat}{hn:Bool}{σ:Sig}{X:PX}{Q:PV}
theorem I_abc {k:Int}(h0:0≤k)(h3:k<3)(q:∀ x,gnm.contains x=true→Q (.str x) σ):SubOp c N σ (.str "abc") (.int k) Q X:=by
 have:k=0∨k=1∨k=2:=by lia
 rcases this with rfl | rfl | rfl
 · exact I_str (by rw[item_abc.1];exact q _ (by decide)) (by decide) (by decide) (by decide +kernel)
 · exact I_str (by rw[item_abc.2.1];exact q _ (by decide)) (by decide) (by decide) (by decide +kernel)
 · exact I_str (by rw[item_abc.2.2];exact q _ (by decide)) (by decide) (by decide) (by decide +kernel)
theorem C_grown (H:Gs c (KK P) gtab){f cl:Addr}:∀ (d n m:Nat) (σ:Sig) (Q:PV) (X:PX),FeedOk σ f cl m→m+gz d≤1000→(∀ (t:Tm) σ',t.g=true→t.sz+1≤gz d→FeedOk σ' f cl (m+gz d-1)→Kp f σ σ'→Q t.v σ')→CodeOp c ⟨n+d+2,true⟩ σ (.ref 365) [.raw (.ref f),.int (d:Nat)] Q X:=by
 intro d
 induction d with
 | zero=>
  intro n m σ Q X F hm q
  have hz:gz 0=2:=rfl
  refine K_fnV 60 H (f:=365) (params:=["bag","deep"]) (locs:=["way"]) (ρ1:=[("bag",some (.raw (.ref f))),("deep",some (.int ((0:Nat):Int))),("way",none)]) rfl rfl rfl rfl rfl rfl rfl rfl rfl (len2 fun _ _=>rfl) rfl (by decide) rfl rfl ?_
  intro L
  apply lf;(with_reducible refine O_gt ?_);refine Br.ff ?_;apply lf
  refine (C_pick H F (by lia) (by decide) fun w σ1 h0 h3 F1 K1=>?_).call
  apply lf;(with_reducible refine O_lt ?_)
  rw[decide_eq_true h3]
  refine Br.tt ?_;apply lf
  refine I_abc h0 h3 fun x hx=>?_
  apply lf
  exact⟨_,.refl _,q (.mk x []) σ1 (by simp only[jh1,hx,ji1,ji2,Bool.and_self]) (Nat.le_refl 2) (F1.le (by exact Nat.le_refl _)) K1⟩
 | succ d ih=>
  intro n m σ Q X F hm q
  have hp:gz (d+1)=gz d+gz d:=rfl
  have hpos:=gz_pos d
  have hd:((d+1:Nat):Int)-1=((d:Nat):Int):=by lia
  refine K_fnV 60 H (f:=365) (params:=["bag","deep"]) (locs:=["way"]) (ρ1:=[("bag",some (.raw (.ref f))),("deep",some (.int ((d+1:Nat):Int))),("way",none)]) rfl rfl rfl rfl rfl rfl rfl rfl rfl (len2 fun _ _=>rfl) rfl (by decide) rfl rfl ?_
  intro L
  apply lf;(with_reducible refine O_gt ?_)
  rw[decide_eq_true (show (0:Int)<((d+1:Nat):Int) by lia)]
  refine Br.tt ?_;apply lf
  refine (C_pick H F (by lia) (by decide) fun w σ1 h0 h5 F1 K1=>?_).call
  apply lf;(with_reducible refine O_lt ?_)
  refine Br.mk (fun h3=>?_) (fun h3=>?_)
  · have h3:=of_decide_eq_true h3
    apply lf
    refine I_abc h0 h3 fun x hx=>?_
    apply lf
    exact⟨_,.refl _,q (.mk x []) σ1 (by simp only[jh1,hx,ji1,ji2,Bool.and_self]) (by show 2≤_;lia) (F1.le (by lia)) K1⟩
  · apply lf;(with_reducible refine O_eqI ?_)
    refine Br.mk (fun h4=>?_) (fun h4=>?_)
    · apply lf;(with_reducible refine O_sub ?_);apply lf
      rw[hd]
      refine (ih n (m+1) σ1 _ _ F1 (by lia) fun t σ2 g1 z1 F2 K2=>?_).call
      apply lf
      exact⟨_,.refl _,q (.mk "f" [t]) σ2 (by simp only[jh1,ji1,ji2,g1];decide) (by simp only[jp1,jq1,jq2];lia) (F2.le (by lia)) (K1.trans K2)⟩
    · apply lf;(with_reducible refine O_sub ?_);apply lf
      rw[hd]
      refine (ih n (m+1) σ1 _ _ F1 (by lia) fun t σ2 g1 z1 F2 K2=>?_).call
      apply lf;(with_reducible refine O_sub ?_);apply lf
      rw[hd]
      refine (ih n (m+1+gz d-1) σ2 _ _ F2 (by lia) fun t2 σ3 g2 z2 F3 K3=>?_).call
      apply lf
      exact⟨_,.refl _,q (.mk "g" [t,t2]) σ3 (by simp only[jh1,ji1,ji2,g1,g2];decide) (by simp only[jp1,jq1,jq2];lia) (F3.le (by lia)) ((K1.trans K2).trans K3)⟩
end
end Mine
namespace Mine
variable [Membership Addr Zip0]
noncomputable def rowsT:Td:=[("swap",(.mk "g" [.mk "?x" [],.mk "?y" []],.mk "g" [.mk "?y" [],.mk "?x" []])),("twin",(.mk "f" [.mk "?x" []],.mk "g" [.mk "?x" [],.mk "?x" []])),("turn",(.mk "g" [.mk "c" [],.mk "?x" []],.mk "f" [.mk "?x" []]))]
noncomputable def toldT:Td:=[("t1",(.mk "a" [],.mk "b" [])),("t2",(.mk "f" [.mk "b" []],.mk "c" []))]
noncomputable def namesD:List (Str×V):=[("swap",.raw (.ref 349)),("twin",.raw (.ref 350)),("turn",.raw (.ref 351))]
section
variable {c:Cx}{P:Params}{N:Lv}{n:Nat}{hn:Bool}{σ:Sig}{X:PX}{Q:PV}
theorem C_rows (H:Gs c (KK P) gtab)(q:∀ D,σ D=none→Q (.raw (.ref D)) (upd σ D (.dict (tdV rowsT)))):CodeOp c ⟨n+1,hn⟩ σ (.ref 347) [] Q X:=by
 refine K_fnV 60 H (f:=347) (params:=[]) (locs:=[]) (ρ1:=[]) rfl rfl rfl rfl rfl rfl rfl rfl rfl (len0 rfl) rfl (by decide) rfl rfl ?_
 intro L
 apply lf
 refine⟨by decide,fun D hD=>?_⟩
 apply lf
 exact⟨_,.refl _,q D hD⟩
theorem leafT (H:Gs c (KK P) gtab){s:Str}{t:Tok}{a n:Nat}{sl:Array (Option Value)}(e:(KK P).lookup a=some ⟨.type "tuple",none,.seq #[.str s t] n,sl⟩)(h:okB s=true):VR c.S (Tm.mk s []).v (.ref a):=
 sT H.hc H.fz e (.cons (sS h) .nil)
theorem told_at (H:Gs c (KK P) gtab)(hP:P=c.w.params):DR c σ 333 (tdV toldT):=
 statD H.hc hP (kvs:=[("t1",.ref _),("t2",.ref _)]) rfl (.cons (.cons .nil)) (by decide)
  ⟨_,_,rfl,sT H.hc H.fz rfl (.cons (leafT H rfl (by decide +kernel)) (.cons (leafT H rfl (by decide +kernel)) .nil)),_,_,rfl,sT H.hc H.fz rfl (.cons (sT H.hc H.fz rfl (.cons (sS (by decide +kernel)) (.cons (leafT H rfl (by decide +kernel)) .nil))) (.cons (leafT H rfl (by decide +kernel)) .nil)),rfl⟩ (by decide)
theorem names_at (H:Gs c (KK P) gtab)(hP:P=c.w.params):DR c σ 348 namesD:=
 statD H.hc hP (kvs:=[("swap",.ref 349),("twin",.ref 350),("turn",.ref 351)]) rfl (.cons (.cons (.cons .nil))) (by decide)
  ⟨_,_,rfl,rfl,_,_,rfl,rfl,_,_,rfl,rfl,rfl⟩ (by decide)
theorem n_swap (H:Gs c (KK P) gtab):LR c σ 349 ((["?x","?y"]:List Str).map .str):=sL H.hc rfl (.cons (sS (by decide +kernel)) (.cons (sS (by decide +kernel)) .nil))
theorem n_twin (H:Gs c (KK P) gtab):LR c σ 350 ((["?x"]:List Str).map .str):=sL H.hc rfl (.cons (sS (by decide +kernel)) .nil)
theorem n_turn (H:Gs c (KK P) gtab):LR c σ 351 ((["?x"]:List Str).map .str):=sL H.hc rfl (.cons (sS (by decide +kernel)) .nil)
end
end Mine
namespace Mine
variable [Membership Addr Zip0]
mutual
noncomputable def varsQ:Tm→List Str
 | .mk s ks=>if qm s then [s] else varsQs ks
noncomputable def varsQs:List Tm→List Str
 | []=>[]
 | t::ts=>varsQ t++varsQs ts
end
theorem jX1:varsQ (.mk s ks)=(if qm s then [s] else varsQs ks):=rfl
theorem jY1:varsQs []=([]):=rfl
theorem jY2:varsQs (t::ts)=(varsQ t++varsQs ts):=rfl
theorem varsQs_append:∀ a b:List Tm,varsQs (a++b)=varsQs a++varsQs b
 | [],b=>rfl
 | t::a,b=>by simp only[List.cons_append,jY1,jY2,varsQs_append a b,List.append_assoc]
noncomputable def putAT:List (Str×Tm)→Str→Tm→List (Str×Tm)
 | [],k,v=>[(k,v)]
 | (x,u)::l,k,v=>if x=k then (k,v)::l else (x,u)::putAT l k v
theorem jJ1:putAT [] k v=([(k,v)]):=rfl
theorem jJ2:putAT ((x,u)::l) k v=(if x=k then (k,v)::l else (x,u)::putAT l k v):=rfl
noncomputable def putAllT:List (Str×Tm)→List (Str×Tm)→List (Str×Tm)
 | acc,[]=>acc
 | acc,(k,v)::l=>putAllT (putAT acc k v) l
theorem jL1:putAllT acc []=(acc):=rfl
theorem jL2:putAllT acc ((k,v)::l)=(putAllT (putAT acc k v) l):=rfl
theorem putA_pT {k:Str}{v:Tm}:∀ l:List (Str×Tm),putA (pT l) k v.v=pT (putAT l k v)
 | []=>rfl
 | (x,u)::l=>by
  simp only[pT,List.map_cons,jI1,jI2,jJ1,jJ2]
  split
  · rfl
  · simp only[List.map_cons];congr 1;exact putA_pT l
theorem putAll_pT:∀ (l acc:List (Str×Tm)),putAll (pT acc) (pT l)=pT (putAllT acc l)
 | [],acc=>rfl
 | (k,v)::l,acc=>by
  show putAll (putA (pT acc) k v.v) (pT l)=_
  rw[putA_pT,putAll_pT l];rfl
theorem putAT_mem {k:Str}{v:Tm}{x:Str×Tm}:∀ {l:List (Str×Tm)},x∈putAT l k v→x∈l∨x=(k,v)
 | [],h=>.inr (by simpa [jJ1,jJ2] using h)
 | (y,u)::l,h=>by
  simp only[jJ1,jJ2] at h
  split at h
  · rcases List.mem_cons.mp h with rfl | h
    · exact .inr rfl
    · exact .inl (.tail _ h)
  · rcases List.mem_cons.mp h with rfl | h
    · exact .inl (.head _)
    · exact (putAT_mem h).imp (.tail _) id
theorem putAT_len {k:Str}{v:Tm}:∀ l:List (Str×Tm),(putAT l k v).length≤l.length+1
 | []=>Nat.le_refl _
 | (y,u)::l=>by
  simp only[jJ1,jJ2]
  split
  · simp
  · simp only[List.length_cons];have:=putAT_len (k:=k) (v:=v) l;exact Nat.succ_le_succ (by assumption)
theorem putAT_has {k j:Str}{v:Tm}:∀ l:List (Str×Tm),(assocT l j).isSome=true∨j=k→(assocT (putAT l k v) j).isSome=true
 | [],h=>by
  rcases h with h | rfl
  · cases h
  · simp [jJ1,jJ2,jw1,jw2]
 | (y,u)::l,h=>by
  simp only[jJ1,jJ2]
  by_cases e:y=k
  · rw[if_pos e];subst e
    simp only[jw1,jw2] at h ⊢
    by_cases e2:y=j
    · rw[if_pos e2];rfl
    · rw[if_neg e2] at h ⊢
      rcases h with h | h
      · exact h
      · exact absurd h.symm e2
  · rw[if_neg e]
    simp only[jw1,jw2] at h ⊢
    by_cases e2:y=j
    · rw[if_pos e2];rfl
    · rw[if_neg e2] at h ⊢
      exact putAT_has l h
theorem putAllT_mem {x:Str×Tm}:∀ {l acc:List (Str×Tm)},x∈putAllT acc l→x∈acc∨x∈l
 | [],acc,h=>.inl h
 | (k,v)::l,acc,h=>by
  rcases putAllT_mem (l:=l) h with h | h
  · exact (putAT_mem h).imp id fun h=>by rw[h];exact .head _
  · exact .inr (.tail _ h)
theorem putAllT_len:∀ l acc:List (Str×Tm),(putAllT acc l).length≤acc.length+l.length
 | [],acc=>Nat.le_refl _
 | (k,v)::l,acc=>by
  have:=putAllT_len l (putAT acc k v);have:=putAT_len (k:=k) (v:=v) acc
  simp only[jL1,jL2,List.length_cons];lia
theorem putAllT_has {j:Str}:∀ (l acc:List (Str×Tm)),(assocT acc j).isSome=true∨(assocT l j).isSome=true→(assocT (putAllT acc l) j).isSome=true
 | [],acc,h=>h.elim id fun h=>by cases h
 | (k,v)::l,acc,h=>by
  refine putAllT_has l _ ?_
  simp only[jw1,jw2] at h
  by_cases e:k=j
  · exact .inl (putAT_has acc (.inr e.symm))
  · rw[if_neg e] at h
    exact h.imp (fun h=>putAT_has acc (.inl h)) id
theorem assocT_append {j:Str}:∀ {l m:List (Str×Tm)},(assocT l j).isSome=true∨(assocT m j).isSome=true→(assocT (l++m) j).isSome=true
 | [],m,h=>h.elim (fun h=>by cases h) id
 | (k,v)::l,m,h=>by
  simp only[List.cons_append,jw1,jw2] at h ⊢
  by_cases e:k=j
  · rw[if_pos e];rfl
  · rw[if_neg e] at h ⊢;exact assocT_append h
structure TbOk (n:Nat) (tb:List (Str×Tm)):Prop where
 len:tb.length≤n
 ok:∀ x∈tb,okS x.1∧x.2.sz≤60∧x.2.g=true
theorem TbOk.put {n:Nat}{tb:List (Str×Tm)}(h:TbOk n tb){s:Str}{t:Tm}(hs:okS s)(ht:t.sz≤60)(hg:t.g=true):TbOk (n+1) (putAllT [] (tb++[(s,t)])) where
 len:=Nat.le_trans (putAllT_len _ _) (by simp only[List.length_nil,List.length_append,List.length_singleton];have:=h.len;lia)
 ok:=fun x hx=>by
  rcases putAllT_mem hx with hx | hx
  · cases hx
  · rcases List.mem_append.mp hx with hx | hx
    · exact h.ok x hx
    · rw[List.mem_singleton.mp hx];exact⟨hs,ht,hg⟩
theorem assocT_mem {α:Type}{k:Str}{v:α}:∀ {l:List (Str×α)},assocT l k=some v→(k,v)∈l
 | (x,u)::l,h=>by
  simp only[jw1,jw2] at h
  split at h
  · rename_i e;cases h;subst e;exact .head _
  · exact .tail _ (assocT_mem h)
section
variable {c:Cx}{P:Params}{N:Lv}{n:Nat}{hn:Bool}{σ:Sig}{X:PX}{Q:PV}
theorem O_neS {x y:Str}(q:Q (.bool (!decide (x=y))) σ):Op2 c N σ (.str x) (.str y) (compareOp .NotEq) Q X:=
 O_ne (by rw[eqV_str];exact q) rfl rfl (by simp [jR1,jR2,jR3,jR4,jR5,jR6,PyData.depth])
theorem O_neI {x y:Int}(q:Q (.bool (!decide (x=y))) σ):Op2 c N σ (.int x) (.int y) (compareOp .NotEq) Q X:=
 O_ne (by rw[eqV_int];exact q) rfl rfl (by simp [jR1,jR2,jR3,jR4,jR5,jR6,PyData.depth])
theorem O_notN (q:Q (.bool false) σ):Op2 c N σ .none .none (compareOp .IsNot) Q X:=O_isNotNone q (fun v h=>by cases h)
theorem O_notR {d:Addr}(q:Q (.bool true) σ):Op2 c N σ (.raw (.ref d)) .none (compareOp .IsNot) Q X:=O_isNotNone q (fun v h=>by cases h;exact⟨d,rfl⟩)
theorem I_hd {t:Tm}(q:Q (.str t.hd) σ):SubOp c N σ t.v (.int 0) Q X:=by
 rw[Tm.v_eq];exact I_t0 q
theorem Sl_kids {t:Tm}(hz:t.sz≤1000)(q:Q (.tup (Tm.vs t.kids)) σ):SliceOp c N σ t.v (some 1) none none Q X:=by
 rw[Tm.v_eq];exact Sl_1 (by have:=kids_sz t;rw[Tm.vs_length];lia) q
end
end Mine
namespace Mine
variable [Membership Addr Zip0]
theorem depth60 {n:Nat}(h:4≤n){t:Tm}(ht:t.sz≤60):(toP t.v).depth≤16*n:=by have:=depth_tm t;have:=ht_sz t;lia
noncomputable def FitQ (σ:Sig)(Q:PV)(n:Nat)(R:Str→Prop):Prop:=(∀ σ',Sub σ σ'→Q .none σ')∧∀ d' tb' σ',Sub σ σ'→σ' d'=some (.dict (pT tb'))→TbOk n tb'→(∀ k,R k→(assocT tb' k).isSome=true)→Q (.raw (.ref d')) σ'
inductive fitsI (P0:List (Str×Option V)) (ks tks:List Tm) (tb:List (Str×Tm)) (σ:Sig) (n:Nat) (l:List V) (ρ1:Rho) (σ1:Sig):Prop
 | mk (done r1 r2:List Tm) (v:V) (u w:Option V) (h1:ks=done++r1) (h2:(∀ x∈r2,x∈tks)) (h3:l=zipV (Tm.vs r1) (Tm.vs r2)) (h4:Sub σ σ1) (h5:(v=.none∨∃ d' tb',v=.raw (.ref d')∧σ1 d'=some (.dict (pT tb'))∧TbOk (n+Tm.szs done) tb'∧(r1.length=r2.length)∧∀ k,(assocT tb k).isSome=true∨k∈varsQs done→(assocT tb' k).isSome=true)) (h6:ρ1=P0++([("table",some v),("part",u),("kid",w)]:Rho)):fitsI P0 ks tks tb σ n l ρ1 σ1
theorem gs_mem {l:List Tm}(h:Tm.gs l=true){t:Tm}(m:t∈l):t.g=true:=by
 induction l with
 | nil=>cases m
 | cons a l ih=>
  simp only[ji1,ji2,Bool.and_eq_true] at h
  rcases List.mem_cons.mp m with rfl | m
  · exact h.1
  · exact ih h.2 m
omit [Membership Addr Zip0] in
theorem C_fits {c:Cx}{P:Params}:∀ (m:Nat) (j:Membership Addr Zip0) (H:Gs c (KK P) gtab) (n nt:Nat) (σ:Sig) (Q:PV) (X:PX) (p t:Tm) (tb:List (Str×Tm)) (d:Addr),p.ht≤m→p.sz≤60→p.ok→t.sz≤60→t.g=true→σ d=some (.dict (pT tb))→TbOk nt tb→nt+p.sz≤500 →
 FitQ σ Q (nt+p.sz) (fun k=>(assocT tb k).isSome=true∨k∈varsQ p)→CodeOp c ⟨n+m+4,true⟩ σ (.ref 396) [p.v,t.v,.raw (.ref d)] Q X:=by
 intro m
 induction m with
 | zero=>intro j H n nt σ Q X p t tb d h1;obtain ⟨s,ks⟩:=p;simp only[jj1] at h1;lia
 | succ m ih=>
 intro j H n nt σ Q X p t tb d h1 h2 h3 h4 h5 hd hT hnt q
 have hs:=hd_ok h3
 refine K_fnV 60 H (f:=396) (params:=["pattern","t","table"]) (locs:=["part","kid"]) (ρ1:=[("pattern",some (p.v)),("t",some (t.v)),("table",some (.raw (.ref d))),("part",none),("kid",none)]) rfl rfl rfl rfl rfl rfl rfl rfl rfl (len3 fun _ _ _=>rfl) rfl (by decide) rfl rfl ?_
 intro L
 apply lf
 refine I_hd ?_
 apply lf
 refine Sl_str ?_ hs.2
 apply lf;(with_reducible refine O_eqS ?_)
 refine Br.mk (fun hq=>?_) (fun hq=>?_)
 · have hqm:qm p.hd=true:=hq
   apply lf;(with_reducible refine' exM_get ?s74 ?a75);(case s74=>(refine Or.inl ?_;assumption));apply lf
   refine I_hd ?_
   apply lf
   have eg:(assoc (pT tb) p.hd).getD t.v=((assocT tb p.hd).getD t).v:=by rw[assoc_map Tm.v];cases assocT tb p.hd <;> rfl
   refine B_dget (.inl hd) ?_
   rw[eg]
   apply lf
   refine O_eq ?_ (tree_tm _) (tree_tm _) (Nat.le_trans (Nat.min_le_right _ _) (depth60 (by show 4≤n+(m+1)+3;exact Nat.le_of_ble_eq_true rfl) h4))
   refine Br.mk (fun _=>?_) (fun _=>?_)
   · apply lf;(with_reducible refine' exM_items ?s76 ?a77);(case s76=>(refine Or.inl ?_;assumption));apply lf
     refine B_items (.inl hd) fun D1 hD1=>?_
     apply lf
     have hlen:(pT tb).length≤500:=by rw[List.length_map];have:=hT.len;lia
     refine B_list_items rfl (upd_same _ _ _) (.inl (upd_keep hD1 hd)) (fun x hx=>?_) (by exact nle (by assumption) (by rfl)) fun D2 hD2=>?_
     · refine el75 (List.mem_map.mp hx) ?_;intro y hy ze305;subst ze305
       exact (hT.ok y hy).1
     apply lf
     refine I_hd ?_
     apply lf
     intro D3 hD3
     apply lf
     have hpv:(pv (pT tb)).length≤500:=by unfold pv;rw[List.length_map];exact hlen
     refine O_addL (fun D4 hD4=>?_) (upd_keep hD3 (upd_same _ _ _)) (upd_same _ _ _) (by simp only[List.length_cons,List.length_nil];exact nll (by assumption) (by rfl))
     apply lf
     have e:pv (pT tb)++[V.tup [.str p.hd,t.v]]=pv (pT (tb++[(p.hd,t)])):=by simp [pv]
     rw[e]
     refine B_dict_pairs rfl (upd_same _ _ _) (fun D5 hD5=>?_) (by rw[List.length_map,List.length_append,List.length_singleton];have:=hT.len;lia)
     rw[show putAll [] (pT (tb++[(p.hd,t)]))=pT (putAllT [] (tb++[(p.hd,t)])) from putAll_pT _ []]
     apply lf
     refine⟨_,.refl _,q.2 D5 _ _ (Sub.fresh (Sub.fresh (Sub.fresh (Sub.fresh (Sub.fresh (.refl _) hD1) hD2) hD3) hD4) hD5) (upd_same _ _ _) ?_ ?_⟩
     · have:=hT.put hs.1 h4 h5
       exact⟨Nat.le_trans this.len (by have:=sz_pos p;lia),this.ok⟩
     · intro k hk
       refine putAllT_has _ _ (.inr (assocT_append ?_))
       rcases hk with hk | hk
       · exact .inl hk
       · refine .inr ?_
         have:k=p.hd:=by obtain ⟨s,ks⟩:=p;simp only[jX1,Tm.hd] at hk hqm ⊢;rw[if_pos hqm] at hk;exact List.mem_singleton.mp hk
         subst this;simp [jw1,jw2]
   · apply lf
     exact⟨_,.refl _,q.1 _ (.refl _)⟩
 · have hqm:qm p.hd=false:=hq
   apply lf
   refine I_hd ?_
   apply lf
   refine I_hd ?_
   apply lf
   refine O_neS ?_
   refine Br.mk (fun _=>?_) (fun _=>?_)
   · refine Br.tt ?_;apply lf
     exact⟨_,.refl _,q.1 _ (.refl _)⟩
   apply lf
   refine B_len_tm (by exact nle (by assumption) (by rfl)) ?_
   apply lf
   refine B_len_tm (by exact nle (by assumption) (by rfl)) ?_
   apply lf
   refine O_neI ?_
   refine Br.mk (fun _=>?_) (fun hl=>?_)
   · refine Br.tt ?_;apply lf
     exact⟨_,.refl _,q.1 _ (.refl _)⟩
   have hl:p.kids.length=t.kids.length:=by
    rw[Bool.not_eq_false',decide_eq_true_eq] at hl;lia
   refine Br.ff ?_;apply lf
   refine S_forZV 60 H rfl rfl rfl rfl (fun _=>rfl) ?_
   refine⟨rfl,?_⟩
   apply lf
   refine Sl_kids (by exact nle (by assumption) (by rfl)) ?_
   apply lf
   refine Sl_kids (by exact nle (by assumption) (by rfl)) ?_
   apply lf
   have hsz:∀ x∈p.kids,x.ht≤m∧x.ok:=fun x hx=>by
    obtain ⟨s,ks⟩:=p
    have:=hts_mem hx
    simp only[jj1,jl1,Tm.kids] at h1 h3 this
    exact⟨by lia,oks_mem h3.2 hx⟩
   have hszk:1+Tm.szs p.kids=p.sz:=by obtain ⟨s,ks⟩:=p;rfl
   have htk:∀ x∈t.kids,x.sz≤60∧x.g=true:=fun x hx=>by
    obtain ⟨s,ks⟩:=t
    have:=hts_mem hx
    simp only[jp1,jh1,Tm.kids,Bool.and_eq_true] at h4 h5 this
    exact⟨by lia,gs_mem h5.2 hx⟩
   refine⟨_,_,rfl,fitsI [("pattern",some p.v),("t",some t.v)] p.kids t.kids tb σ nt,⟨[],p.kids,t.kids,_,none,none,rfl,fun _ h=>h,rfl,.refl _,.inr ⟨d,tb,rfl,hd,hT,hl,fun k hk=>hk.elim id fun h=>by cases h⟩,rfl⟩,?_,?_⟩
   · intro j' hj' v l ρ1 σ1 zu108
     obtain ⟨done,r1,r2,v0,u,w,e1,e2,e3,hs1,hv,rfl⟩:=zu108
     have H':=H.two j' hj'
     cases r1 with
     | nil=>cases e3
     | cons x r1=>
     cases r2 with
     | nil=>cases e3
     | cons y r2=>
     simp only[js1,js2,jz52_1,jz52_2,jz52_3,List.cons.injEq] at e3
     obtain ⟨rfl,rfl⟩:=e3
     have hx:=hsz x (by rw[e1];simp)
     have hy:=htk y (e2 y (.head _))
     have hsum:Tm.szs p.kids=Tm.szs done+(x.sz+Tm.szs r1):=by rw[e1,szs_append];rfl
     have e1':p.kids=(done++[x])++r1:=by rw[e1];simp
     have e2':∀ z∈r2,z∈t.kids:=fun z hz=>e2 z (.tail _ hz)
     apply lf
     rcases hv with rfl | ⟨d',tb',rfl,hd',hT',hlr,hk'⟩
     · refine O_notN ?_
       refine Br.ff ?_;apply lf
       exact⟨done++[x],r1,r2,.none,_,_,e1',e2',rfl,hs1,.inl rfl,rfl⟩
     · refine O_notR ?_
       refine Br.tt ?_;apply lf
       refine (ih j' H' n (nt+Tm.szs done) σ1 _ _ x y tb' d' hx.1 (by lia) hx.2 hy.1 hy.2 hd' hT' (by lia) ⟨fun σ2 hs2=>?_,fun d2 tb2 σ2 hs2 hd2 hT2 hk2=>?_⟩).call
       · apply lf
         exact⟨done++[x],r1,r2,.none,_,_,e1',e2',rfl,hs1.trans hs2,.inl rfl,rfl⟩
       · apply lf
         refine⟨done++[x],r1,r2,_,_,_,e1',e2',rfl,hs1.trans hs2,.inr ⟨d2,tb2,rfl,hd2,⟨Nat.le_trans hT2.len (by rw[szs_append];simp only[jq1,jq2];lia),hT2.ok⟩,by simpa using hlr,fun k hk=>hk2 k ?_⟩,rfl⟩
         rw[varsQs_append] at hk
         rcases hk with hk | hk
         · exact .inl (hk' k (.inl hk))
         · rcases List.mem_append.mp hk with hk | hk
           · exact .inl (hk' k (.inr hk))
           · exact .inr (by simpa [jY1,jY2] using hk)
   · intro ρ1 σ1 zu109
     obtain ⟨done,r1,r2,v0,u,w,e1,e2,e3,hs1,hv,rfl⟩:=zu109
     apply lf
     rcases hv with rfl | ⟨d',tb',rfl,hd',hT',hlr,hk'⟩
     · exact⟨_,.refl _,q.1 _ hs1⟩
     · have:r1=[]:=by
        cases r1 with
        | nil=>rfl
        | cons x r1=>
         cases r2 with
         | nil=>cases hlr
         | cons y r2=>cases e3
       subst this
       rw[List.append_nil] at e1
       refine⟨_,.refl _,q.2 _ tb' _ hs1 hd' ⟨Nat.le_trans hT'.len (by rw[← e1];lia),hT'.ok⟩ fun k hk=>hk' k ?_⟩
       rcases hk with hk | hk
       · exact .inl hk
       · refine .inr ?_
         obtain ⟨s,ks⟩:=p
         simp only[jX1,Tm.hd,Tm.kids] at hk hqm e1
         rw[if_neg (by rw[hqm];decide)] at hk
         rw[← e1];exact hk
end Mine
namespace Mine
variable [Membership Addr Zip0]
noncomputable def rSwap:RuleD:=⟨.mk "g" [.mk "?x" [],.mk "?y" []],.mk "g" [.mk "?y" [],.mk "?x" []],["?x","?y"]⟩
noncomputable def rTwin:RuleD:=⟨.mk "f" [.mk "?x" []],.mk "g" [.mk "?x" [],.mk "?x" []],["?x"]⟩
noncomputable def rTurn:RuleD:=⟨.mk "g" [.mk "c" [],.mk "?x" []],.mk "f" [.mk "?x" []],["?x"]⟩
noncomputable def ruleF (name:Str):Option RuleD:=if name="swap" then some rSwap else if name="twin" then some rTwin else if name="turn" then some rTurn else none
theorem perm2 {a b:Str}{ss:List Str}(h:ss.Perm [a,b]):ss=[a,b]∨ss=[b,a]:=by
 match ss,h.length_eq with
 | [x,y],_=>
  have hx:x∈[a,b]:=h.mem_iff.mp (by simp)
  simp only[List.mem_cons,List.not_mem_nil,or_false] at hx
  rcases hx with rfl | rfl
  · have:=(List.perm_cons x).mp h
    have:=List.perm_singleton.mp this
    simp at this;subst this;exact .inl rfl
  · have h2:=h.trans (List.Perm.swap x a [])
    have:=(List.perm_cons x).mp h2
    have:=List.perm_singleton.mp this
    simp at this;subst this;exact .inr rfl
theorem pairs2 {α:Type}{x y:Str}:∀ {pairs:List (Str×α)},pairs.map (·.1)=[x,y]→∃ u w,pairs=[(x,u),(y,w)]
 | [(a,u),(b,w)],h=>by simp at h;obtain ⟨rfl,rfl⟩:=h;exact⟨u,w,rfl⟩
 | [],h=>by simp at h
 | [_],h=>by simp at h
 | _::_::_::_,h=>by simp at h
theorem pairs1 {α:Type}{x:Str}:∀ {pairs:List (Str×α)},pairs.map (·.1)=[x]→∃ u,pairs=[(x,u)]
 | [(a,u)],h=>by simp at h;subst h;exact⟨u,rfl⟩
 | [],h=>by simp at h
 | _::_::_,h=>by simp at h
theorem nm_ok {k:Str}(h:(okB k&&okB (Txt.slice k none (some 1)))=true):nameOk k:=by
 simp only[okB,Bool.and_eq_true,decide_eq_true_eq] at h;exact h
mutual
noncomputable def Tm.covB (tbl:List (Str×V)):Tm→Bool
 | .mk s ks=>(!(Tm.mk s ks).isVar||(assoc tbl s).isSome)&&Tm.covBs tbl ks
noncomputable def Tm.covBs (tbl:List (Str×V)):List Tm→Bool
 | []=>true
 | t::ts=>t.covB tbl&&Tm.covBs tbl ts
end
theorem je1 (tbl:List (Str×V)):Tm.covB tbl (.mk s ks)=((!(Tm.mk s ks).isVar||(assoc tbl s).isSome)&&Tm.covBs tbl ks):=rfl
theorem jf1 (tbl:List (Str×V)):Tm.covBs tbl []=(true):=rfl
theorem jf2 (tbl:List (Str×V)):Tm.covBs tbl (t::ts)=(t.covB tbl&&Tm.covBs tbl ts):=rfl
mutual
theorem cov_of {tbl:List (Str×V)}:∀ {t:Tm},t.covB tbl=true→t.cov tbl
 | .mk s ks,h=>by
  simp only[je1,Bool.and_eq_true,Bool.or_eq_true,Bool.not_eq_true'] at h
  exact⟨fun q=>h.1.elim (fun z=>by rw[q] at z;cases z) id,covs_of h.2⟩
theorem covs_of {tbl:List (Str×V)}:∀ {l:List Tm},Tm.covBs tbl l=true→Tm.covs tbl l
 | [],_=>trivial
 | t::ts,h=>by
  simp only[jf1,jf2,Bool.and_eq_true] at h
  exact⟨cov_of h.1,covs_of h.2⟩
end
mutual
noncomputable def Tm.okT:Tm→Bool
 | .mk s ks=>(okB s&&okB (Txt.slice s none (some 1)))&&Tm.okTs ks
noncomputable def Tm.okTs:List Tm→Bool
 | []=>true
 | t::ts=>t.okT&&Tm.okTs ts
end
theorem jm1:Tm.okT (.mk s ks)=((okB s&&okB (Txt.slice s none (some 1)))&&Tm.okTs ks):=rfl
theorem jn1:Tm.okTs []=(true):=rfl
theorem jn2:Tm.okTs (t::ts)=(t.okT&&Tm.okTs ts):=rfl
mutual
theorem ok_of:∀ {t:Tm},t.okT=true→t.ok
 | .mk s ks,h=>by
  simp only[jm1] at h
  rw[Bool.and_eq_true] at h
  exact⟨nm_ok h.1,oks_of h.2⟩
theorem oks_of:∀ {l:List Tm},Tm.okTs l=true→Tm.oks l
 | [],_=>trivial
 | t::ts,h=>by
  simp only[jn1,jn2,Bool.and_eq_true] at h
  exact⟨ok_of h.1,oks_of h.2⟩
end
theorem vars2 {L:Tm}{a b:Str}(e:dedupS [] (varsL L)=[a,b])(s':sortedS [b,a]=false):∀ ss,ss.Perm (dedupS [] (varsL L))→sortedS ss=true→ss=[a,b]:=fun ss p s=>by
 rw[e] at p
 rcases perm2 p with rfl | rfl
 · rfl
 · rw[s'] at s;cases s
theorem vars1 {L:Tm}{a:Str}(e:dedupS [] (varsL L)=[a]):∀ ss,ss.Perm (dedupS [] (varsL L))→sortedS ss=true→ss=[a]:=fun ss p s=>by
 rw[e] at p;exact List.perm_singleton.mp p
theorem sub_of {vs ws:List Str}(h:ws.all (fun k=>vs.contains k)=true):∀ k∈ws,k∈vs:=fun k hk=>by
 have:=List.all_eq_true.mp h k hk;simpa using this
theorem swap_ok:rSwap.Mk:=
 ⟨⟨ok_of (by decide +kernel),ok_of (by decide +kernel),by decide,by decide,vars2 (by kernel_rfl) (by decide +kernel),fun pairs h=>by
  refine el76 (pairs2 h) ?_;intro u w ze306;subst ze306
  exact⟨cov_of (by kernel_rfl),cov_of (by kernel_rfl)⟩⟩,by decide +kernel,sub_of (by decide +kernel)⟩
theorem twin_ok:rTwin.Mk:=
 ⟨⟨ok_of (by decide +kernel),ok_of (by decide +kernel),by decide,by decide,vars1 (by kernel_rfl),fun pairs h=>by
  obtain ⟨u,rfl⟩:=pairs1 h
  exact⟨cov_of (by kernel_rfl),cov_of (by kernel_rfl)⟩⟩,by decide +kernel,sub_of (by decide +kernel)⟩
theorem turn_ok:rTurn.Mk:=
 ⟨⟨ok_of (by decide +kernel),ok_of (by decide +kernel),by decide,by decide,vars1 (by kernel_rfl),fun pairs h=>by
  obtain ⟨u,rfl⟩:=pairs1 h
  exact⟨cov_of (by kernel_rfl),cov_of (by kernel_rfl)⟩⟩,by decide +kernel,sub_of (by decide +kernel)⟩
theorem swap_tr:rSwap.Tr:=⟨swap_ok.ok,fun pairs h=>by refine el76 (pairs2 h) ?_;intro u w ze308;subst ze308;exact⟨by kernel_rfl,by kernel_rfl⟩,fun pairs h=>by refine el76 (pairs2 h) ?_;intro u w ze307;subst ze307;exact⟨by kernel_rfl,by kernel_rfl⟩⟩
theorem twin_tr:rTwin.Tr:=⟨twin_ok.ok,fun pairs h=>by obtain ⟨u,rfl⟩:=pairs1 h;exact⟨by kernel_rfl,by kernel_rfl⟩,fun pairs h=>by obtain ⟨u,rfl⟩:=pairs1 h;exact⟨by kernel_rfl,by kernel_rfl⟩⟩
theorem turn_tr:rTurn.Tr:=⟨turn_ok.ok,fun pairs h=>by obtain ⟨u,rfl⟩:=pairs1 h;exact⟨by kernel_rfl,by kernel_rfl⟩,fun pairs h=>by obtain ⟨u,rfl⟩:=pairs1 h;exact⟨by kernel_rfl,by kernel_rfl⟩⟩
noncomputable def kindL:List Str:=["told","rule","like"]
noncomputable def nameL:List Str:=["t1","t2","swap","twin","turn","none"]
noncomputable def varL:List Str:=["?x","?y","?z"]
structure RuleAt (c:Cx) (name:Str) (r:RuleD) (w:Addr):Prop where
 f:ruleF name=some r
 g:assocT rowsT name=some (r.L,r.R)
 aw:assoc namesD name=some (.raw (.ref w))
 l:∀ σ,LR c σ w (r.vs.map .str)
 rmk:r.Mk
 tr:r.Tr
 vq:∀ k∈r.vs,k∈varsQ r.L∧k∈varsQ r.R
 vz:r.vs.length≤2∧∀ k∈r.vs,varL.contains k=true∧okS k
 nm:nameL.contains name=true
 sz:∀ pairs:List (Str×Tm),pairs.map (·.1)=r.vs→(∀ x∈pairs,x.2.sz≤60∧x.2.g=true)→((subT pairs r.L).sz≤121∧(subT pairs r.L).g=true)∧((subT pairs r.R).sz≤121∧(subT pairs r.R).g=true)
theorem vq_of {vs a b:List Str}(h:vs.all (fun k=>a.contains k&&b.contains k)=true):∀ k∈vs,k∈a∧k∈b:=fun k hk=>by
 have:=List.all_eq_true.mp h k hk;simpa using this
theorem vz_of {vs:List Str}(h:vs.all (fun k=>varL.contains k&&okB k)=true):∀ k∈vs,varL.contains k=true∧okS k:=fun k hk=>by
 have:=List.all_eq_true.mp h k hk
 simp only[okB,Bool.and_eq_true,decide_eq_true_eq] at this;exact this
theorem gok {s:Str}{ks:List Tm}(h1:gnm.contains s=true)(h2:Tm.gs ks=true):(Tm.mk s ks).g=true:=by simp only[jh1,h1,h2,Bool.and_self]
theorem gk1 {t:Tm}(h:t.g=true):Tm.gs [t]=true:=by simp only[ji1,ji2,h,Bool.and_self]
theorem gk2 {t u:Tm}(h:t.g=true)(h2:u.g=true):Tm.gs [t,u]=true:=by simp only[ji1,ji2,h,h2,Bool.and_self]
theorem sk1 {s:Str}{t:Tm}(h:t.sz≤60):(Tm.mk s [t]).sz≤121:=by simp only[jp1,jq1,jq2];lia
theorem sk2 {s:Str}{t u:Tm}(h:t.sz≤60)(h2:u.sz≤60):(Tm.mk s [t,u]).sz≤121:=by simp only[jp1,jq1,jq2];lia
theorem sub_swap {u w:Tm}:subT [("?x",u),("?y",w)] rSwap.L=.mk "g" [u,w]∧subT [("?x",u),("?y",w)] rSwap.R=.mk "g" [w,u]:=⟨by kernel_rfl,by kernel_rfl⟩
theorem sub_twin {u:Tm}:subT [("?x",u)] rTwin.L=.mk "f" [u]∧subT [("?x",u)] rTwin.R=.mk "g" [u,u]:=⟨by kernel_rfl,by kernel_rfl⟩
theorem sub_turn {u:Tm}:subT [("?x",u)] rTurn.L=.mk "g" [.mk "c" [],u]∧subT [("?x",u)] rTurn.R=.mk "f" [u]:=⟨by kernel_rfl,by kernel_rfl⟩
section
variable {c:Cx}{P:Params}{n:Nat}{hn:Bool}{σ:Sig}{X:PX}{Q:PV}
theorem rule_cases (H:Gs c (KK P) gtab)(name:Str):(ruleF name=none∧assocT rowsT name=none)∨∃ r w,RuleAt c name r w:=by
 by_cases h1:name="swap"
 · subst h1
   exact .inr ⟨rSwap,349,by kernel_rfl,by kernel_rfl,by kernel_rfl,fun σ=>n_swap H,swap_ok,swap_tr,vq_of (by decide +kernel),⟨by decide,vz_of (by decide +kernel)⟩,by decide +kernel,fun pairs h hx=>by
    refine el76 (pairs2 h) ?_;intro u w ze309;subst ze309
    have hu:=hx _ (.head _);have hw:=hx _ (.tail _ (.head _))
    rw[sub_swap.1,sub_swap.2]
    exact⟨⟨sk2 hu.1 hw.1,gok (by decide) (gk2 hu.2 hw.2)⟩,⟨sk2 hw.1 hu.1,gok (by decide) (gk2 hw.2 hu.2)⟩⟩⟩
 by_cases h2:name="twin"
 · subst h2
   exact .inr ⟨rTwin,350,by kernel_rfl,by kernel_rfl,by kernel_rfl,fun σ=>n_twin H,twin_ok,twin_tr,vq_of (by decide +kernel),⟨by decide,vz_of (by decide +kernel)⟩,by decide +kernel,fun pairs h hx=>by
    obtain ⟨u,rfl⟩:=pairs1 h
    have hu:=hx _ (.head _)
    rw[sub_twin.1,sub_twin.2]
    exact⟨⟨sk1 hu.1,gok (by decide) (gk1 hu.2)⟩,⟨sk2 hu.1 hu.1,gok (by decide) (gk2 hu.2 hu.2)⟩⟩⟩
 by_cases h3:name="turn"
 · subst h3
   exact .inr ⟨rTurn,351,by kernel_rfl,by kernel_rfl,by kernel_rfl,fun σ=>n_turn H,turn_ok,turn_tr,vq_of (by decide +kernel),⟨by decide,vz_of (by decide +kernel)⟩,by decide +kernel,fun pairs h hx=>by
    obtain ⟨u,rfl⟩:=pairs1 h
    have hu:=hx _ (.head _)
    rw[sub_turn.1,sub_turn.2]
    exact⟨⟨sk2 (by decide) hu.1,gok (by decide) (gk2 (by decide) hu.2)⟩,⟨sk1 hu.1,gok (by decide) (gk1 hu.2)⟩⟩⟩
 refine .inl ⟨?_,?_⟩
 · unfold ruleF;rw[if_neg h1,if_neg h2,if_neg h3]
 · unfold rowsT
   simp only[jw1,jw2]
   rw[if_neg (Ne.symm h1),if_neg (Ne.symm h2),if_neg (Ne.symm h3)]
theorem ruleF_tr (H:Gs c (KK P) gtab)(nm:Str)(r:RuleD)(h:ruleF nm=some r):r.Tr:=by
 rcases rule_cases H nm with ⟨hf,_⟩ | ⟨r',x,ra⟩
 · exact (nosn h hf).elim
 · rw[ra.f] at h;cases h;exact ra.tr
end
end Mine
namespace Mine
variable [Membership Addr Zip0]
theorem eqV_none_tm (t:Tm):eqV .none t.v=false:=by
 obtain ⟨s,ks⟩:=t
 unfold eqV;simp only[jr1,jR1,jR2,jR3,jR4,jR5,jR6,PyData.eqv]
theorem tree_ov:∀ o:Option Tm,tree (Tm.ov o)=true
 | none=>rfl
 | some t=>tree_tm t
theorem depth_ov {o:Option Tm}{B:Nat}(h:∀ u,o=some u→u.sz≤B):(toP (Tm.ov o)).depth≤B:=by
 cases o with
 | none=>simp only[Tm.ov,jR1,jR2,jR3,jR4,jR5,jR6,PyData.depth];exact Nat.le_of_ble_eq_true rfl
 | some u=>have:=h u rfl;have:=depth_tm u;have:=ht_sz u;simp only[Tm.ov];lia
section
variable {c:Cx}{P:Params}{N:Lv}{n:Nat}{hn:Bool}{σ:Sig}{X:PX}{Q:PV}
theorem C_insteadM (H:Gs c (KK P) gtab){m:Nat}{p:List Int}{t u v:Tm}(hm:p.length+2≤m)(h1:partAt p t=some v)(h2:t.sz≤1000)(q:Q (replT p t u).v σ):CodeOp c ⟨m,true⟩ σ (.ref 384) [t.v,pathI p,u.v] Q X:=by
 obtain ⟨k,rfl⟩:=Nat.exists_eq_add_of_le' hm
 exact C_instead H p k σ Q X t v h1 h2 q
theorem C_done (H:Gs c (KK P) gtab)(hP:P=c.w.params){t:Tm}{s:Sp}(hs:s.Ok)(ht:t.sz≤1000)(q:Q (Tm.ov (doneT ruleF toldT t s)) σ):CodeOp c ⟨n+80,true⟩ σ (.ref 401) [t.v,s.v] Q X:=by
 obtain ⟨path,word,name,pairs,back⟩:=s
 have hpl:=hs.p
 have hnp:=hs.n
 simp only at hpl hnp
 refine K_fnV 60 H (f:=401) (params:=["t","step"]) (locs:=["path","kind","name","places","is_back","sides"]) (ρ1:=[("t",some (t.v)),("step",some (.tup [pathI path,.str word,.str name,.tup (pv (pT pairs)),.bool back])),("path",none),("kind",none),("name",none),("places",none),("is_back",none),("sides",none)]) rfl rfl rfl rfl rfl rfl rfl rfl rfl (len2 fun _ _=>rfl) rfl (by decide) rfl rfl ?_
 intro L
 apply lf;(with_reducible refine O_eqS ?_)
 refine Br.and (b2:=decide (pv (pT pairs)=[])&&(assoc (tdV toldT) name).isSome) (fun hf=>?_) fun hw hf=>?_
 · have hno:word="told"∧pairs=[]→assocT toldT name=none:=fun zu110=>by
    obtain ⟨a,b⟩:=zu110
    subst a b
    rw[assoc_td] at hf
    cases e:assocT toldT name with
    | none=>rfl
    | some x=>rw[e] at hf;cases hf
   refine Br.ff ?_;apply lf;(with_reducible refine O_eqS ?_)
   refine Br.mk (fun hr=>?_) (fun hr=>?_)
   · have hr:=of_decide_eq_true hr
     have hnt:¬ (word="told"∧pairs=[]):=fun ⟨a,_⟩=>by rw[hr] at a;exact absurd a (by decide)
     apply lf
     refine (C_rows H fun D1 hD1=>?_).call
     apply lf;(with_reducible refine' O_in ?a78 ?s79);(case s79=>(refine Or.inl ?_;exact upd_same _ _ _))
     rw[assoc_td]
     rcases rule_cases H name with ⟨f1,f2⟩ | ⟨r,w,ra⟩
     · rw[f2]
       simp only[Option.map_none,Option.isSome_none]
       refine Br.ff ?_;refine Br.ff ?_;apply lf
       refine⟨_,Sub.upd hD1,?_⟩
       rw[done_none1 (by unfold sidesT;rw[if_neg hnt,if_pos hr];simp only[f1])] at q
       exact q
     rw[ra.g]
     simp only[Option.map_some,Option.isSome_some]
     refine Br.tt ?_;apply lf
     refine G_lcI (cl:=[]) (ρc:=[("one",none),("late",none)]) rfl (by (refine CompX.of ?k1 ?k2 ?k3 ?k4 ?k5 ?k6 ?k7 ?k8 ?k9;(case k1=>rfl);(case k2=>rfl);(case k3=>rfl);(case k4=>rfl);(case k5=>repeat (first | with_reducible exact all_nil | ((with_reducible refine all_cons ?_ ?_);rfl)));(case k6=>simp);(case k7=>exact of_decide_eq_true rfl);(case k8=>repeat (first | with_reducible exact all_nil | ((with_reducible refine all_cons ?_ ?_);first | exact KeyP.loc rfl | (refine KeyP.cap ?_ rfl rfl rfl rfl;repeat (first | exact List.mem_cons_self | refine List.mem_cons_of_mem _ ?_)))));(case k9=>repeat (first | exact all_nil | (refine all_cons ?_ ?_;rfl))))) (fun _=>rfl) ?_
     refine IG_plainV 60 (by assumption) rfl ?_
     apply lf
     refine IO_tup ?_
     refine comp_map (pT pairs) (fun p=>.tup [.str p.1,p.2]) (fun p=>.str p.1) (fun _=>true) trivial trivial rfl (by rw[List.length_map];exact nll (by assumption) (by rfl)) ?_ ?_
     · intro C p hp
       (with_reducible refine' exTakes ?p80 ?a81);(case p80=>with_reducible (repeat (first | exact Put.here | apply Put.there | exact TakesL.nil | apply Takes.name | apply Takes.tup | apply TakesL.cons)));(with_reducible refine CompT_nil ?_)
       refine⟨rfl,?_⟩
       refine Vc.e 60 (by assumption) rfl ?_
       exact⟨rfl,.refl _⟩
     intro D2 hD2
     apply lf
     refine I_dict ?_ (names_at H hP) ra.aw
     apply lf
     have e2:(List.filter (fun _=>true) (pT pairs)).map (fun p=>V.str p.1)=(pairs.map (·.1)).map .str:=by rw[filt_true,List.map_map,List.map_map];rfl
     rw[e2]
     refine O_eqLR ?_ (.inl (upd_same _ _ _)) (ra.l _) (trees_strs _) (trees_strs _) (by rw[toPs_strs,toPs_strs,depth_strs,depth_strs];show _≤16*(n+79);exact Nat.le_of_ble_eq_true rfl)
     rw[eqL_strs]
     refine Br.mk (fun hv=>?_) (fun hv=>?_)
     · have hv:=of_decide_eq_true hv
       have hsd:sidesT ruleF toldT ⟨path,word,name,pairs,back⟩=some (subT pairs r.L,subT pairs r.R):=by
        unfold sidesT;rw[if_neg hnt,if_pos hr];simp only[ra.f];rw[if_pos hv]
       have hput:=ra.tr.put pairs hv
       refine Br.tt ?_;apply lf
       refine S_lcI (cl:=[("places",L+1)]) (ρc:=[("places",some (.tup (pv (pT pairs)))),("side",none)]) rfl (by (refine CompX.of ?k1 ?k2 ?k3 ?k4 ?k5 ?k6 ?k7 ?k8 ?k9;(case k1=>rfl);(case k2=>rfl);(case k3=>rfl);(case k4=>rfl);(case k5=>repeat (first | with_reducible exact all_nil | ((with_reducible refine all_cons ?_ ?_);rfl)));(case k6=>simp);(case k7=>exact of_decide_eq_true rfl);(case k8=>repeat (first | with_reducible exact all_nil | ((with_reducible refine all_cons ?_ ?_);first | exact KeyP.loc rfl | (refine KeyP.cap ?_ rfl rfl rfl rfl;repeat (first | exact List.mem_cons_self | refine List.mem_cons_of_mem _ ?_)))));(case k9=>repeat (first | exact all_nil | (refine all_cons ?_ ?_;rfl))))) rfl (fun _=>rfl) rfl ?_
       refine IG_plainV 60 (by assumption) rfl ?_
       apply lf
       refine (C_rows H fun D3 hD3=>?_).call
       apply lf
       refine I_dict (v:=.tup [r.L.v,r.R.v]) ?_ (.inl (upd_same _ _ _)) (by rw[assoc_td,ra.g];rfl)
       apply lf
       refine IO_tup ?_
       refine comp_map [r.L,r.R] Tm.v (fun a=>(subT pairs a).v) (fun _=>true) trivial trivial rfl (show 2<1000000 by decide) ?_ ?_
       · intro C a ha
         (with_reducible refine' exTakes ?p82 ?a83);(case p82=>with_reducible (repeat (first | exact Put.here | apply Put.there | exact TakesL.nil | apply Takes.name | apply Takes.tup | apply TakesL.cons)));(with_reducible refine CompT_nil ?_)
         refine⟨rfl,?_⟩
         refine Vc.e 60 (by assumption) rfl ?_
         apply lf
         refine B_dict_pairsT rfl (fun D4 hD4=>?_) (by rw[List.length_map];exact nle (by assumption) (by rfl))
         apply lf
         have hra:a.sz<60∧putT (putAll [] (pT pairs)) a=(subT pairs a).v:=by
          simp only[List.mem_cons,List.not_mem_nil,or_false] at ha
          rcases ha with rfl | rfl
          · exact⟨ra.rmk.ok.lsz,hput.1⟩
          · exact⟨ra.rmk.ok.rsz,hput.2⟩
         refine (C_filled H 60 (n+19) _ _ _ a (by have:=ht_sz a;lia) (by lia) (.inl (upd_same _ _ _)) ?_).call
         exact⟨hra.2,Sub.fresh (.refl _) hD4⟩
       · intro D4 hD4
         refine exPut (by repeat (first | exact Put.here | apply Put.there)) ?_
         apply lf
         generalize hτ:upd (upd (upd (upd σ D1 _) D2 _) D3 _) D4 _=τ
         have sb:Sub σ τ:=by rw[← hτ];exact Sub.fresh (Sub.fresh (Sub.fresh (Sub.fresh (.refl _) hD1) hD2) hD3) hD4
         have k4:τ D4=some (.list [(subT pairs r.L).v,(subT pairs r.R).v]):=by rw[← hτ];exact upd_same _ _ _
         have rd:∀ {N:Lv}{Q:PV}{X:PX} (b:Bool),Q (cond b (subT pairs r.R) (subT pairs r.L)).v τ→SubOp c N τ (.raw (.ref D4)) (.int (if b then 1 else 0)) Q X:=fun {N Q X} b q=>by
          cases b with
          | false=>exact I_list q k4 rfl (by decide)
          | true=>exact I_list q k4 rfl (by decide)
         refine (C_there H (n:=n+78) ht ?_).call
         apply lf;(with_reducible refine B_int_bool ?_);apply lf
         refine rd back ?_
         apply lf
         have hd:∀ u,partAt path t=some u→u.sz≤1000:=fun u hu=>by have:=part_sz hu;lia
         refine O_eq ?_ (tree_ov _) (tree_tm _) (Nat.le_trans (Nat.min_le_left _ _) (Nat.le_trans (depth_ov hd) (by show _≤16*(n+79);exact Nat.le_of_ble_eq_true rfl)))
         cases hp:partAt path t with
         | none=>
          rw[done_none2 hsd hp] at q
          simp only[Tm.ov,eqV_none_tm]
          refine Br.ff ?_;apply lf
          exact⟨_,sb,q⟩
         | some u=>
          rw[done_eq hsd hp] at q
          simp only[Tm.ov]
          cases he:eqV u.v (cond back (subT pairs r.R) (subT pairs r.L)).v with
          | false=>
           rw[he] at q
           refine Br.ff ?_;apply lf
           exact⟨_,sb,q⟩
          | true=>
           rw[he] at q
           refine Br.tt ?_;apply lf;(with_reducible refine B_int_bool ?_);apply lf;(with_reducible refine O_sub ?_);apply lf
           have e1:(1:Int)-(if back then 1 else 0)=(if (!back) then 1 else 0):=by cases back <;> rfl
           rw[e1]
           refine rd (!back) ?_
           have e3:cond (!back) (subT pairs r.R) (subT pairs r.L)=cond back (subT pairs r.L) (subT pairs r.R):=by cases back <;> rfl
           rw[e3]
           apply lf
           refine (C_insteadM H (by show path.length+2≤n+79;lia) hp ht ?_).call
           apply lf
           exact⟨_,sb,q⟩
     · have hv:=of_decide_eq_false hv
       refine Br.ff ?_;apply lf
       refine⟨_,Sub.fresh (Sub.fresh (.refl _) hD1) hD2,?_⟩
       rw[done_none1 (by unfold sidesT;rw[if_neg hnt,if_pos hr];simp only[ra.f];rw[if_neg hv])] at q
       exact q
   · have hr:=of_decide_eq_false hr
     refine Br.ff ?_;apply lf
     refine⟨_,.refl _,?_⟩
     rw[done_none1 (by
      unfold sidesT
      by_cases h:word="told"∧pairs=[]
      · rw[if_pos h];exact hno h
      · rw[if_neg h,if_neg hr])] at q
     exact q
 · have hw:=of_decide_eq_true hw
   apply lf
   refine O_eqNil (trees_pairs pairs) (Nat.succ_pos _) ?_
   refine Br.and hf fun hn hf2=>?_
   have hn:pairs=[]:=by
    have:=of_decide_eq_true hn
    cases pairs with
    | nil=>rfl
    | cons a r=>cases this
   apply lf
   refine O_in ?_ (told_at H hP)
   refine Br.mk (fun hi=>?_) hf2
   rw[assoc_td] at hi
   cases e:assocT toldT name with
   | none=>rw[e] at hi;cases hi
   | some x=>
   obtain ⟨l,r⟩:=x
   have hsd:sidesT ruleF toldT ⟨path,word,name,pairs,back⟩=some (l,r):=by unfold sidesT;rw[if_pos ⟨hw,hn⟩,e]
   refine Br.tt ?_;apply lf
   refine I_dict (v:=.tup [l.v,r.v]) ?_ (told_at H hP) (by rw[assoc_td,e];rfl)
   apply lf
   have rd:∀ {N:Lv}{Q:PV}{X:PX} (b:Bool),Q (cond b r l).v σ→SubOp c N σ (.tup [l.v,r.v]) (.int (if b then 1 else 0)) Q X:=fun {N Q X} b q=>by
    cases b with
    | false=>exact I_t0 q
    | true=>exact I_t1 q
   refine (C_there H (n:=n+78) ht ?_).call
   apply lf;(with_reducible refine B_int_bool ?_);apply lf
   refine rd back ?_
   apply lf
   have hd:∀ u,partAt path t=some u→u.sz≤1000:=fun u hu=>by have:=part_sz hu;lia
   refine O_eq ?_ (tree_ov _) (tree_tm _) (Nat.le_trans (Nat.min_le_left _ _) (Nat.le_trans (depth_ov hd) (by show _≤16*(n+79);exact Nat.le_of_ble_eq_true rfl)))
   cases hp:partAt path t with
   | none=>
    rw[done_none2 hsd hp] at q
    simp only[Tm.ov,eqV_none_tm]
    refine Br.ff ?_;apply lf
    exact⟨_,.refl _,q⟩
   | some u=>
    rw[done_eq hsd hp] at q
    simp only[Tm.ov]
    cases he:eqV u.v (cond back r l).v with
    | false=>
     rw[he] at q
     refine Br.ff ?_;apply lf
     exact⟨_,.refl _,q⟩
    | true=>
     rw[he] at q
     refine Br.tt ?_;apply lf;(with_reducible refine B_int_bool ?_);apply lf;(with_reducible refine O_sub ?_);apply lf
     have e1:(1:Int)-(if back then 1 else 0)=(if (!back) then 1 else 0):=by cases back <;> rfl
     rw[e1]
     refine rd (!back) ?_
     have e3:cond (!back) r l=cond back l r:=by cases back <;> rfl
     rw[e3]
     apply lf
     refine (C_insteadM H (by show path.length+2≤n+79;lia) hp ht ?_).call
     apply lf
     exact⟨_,.refl _,q⟩
end
end Mine
namespace Mine
variable [Membership Addr Zip0]
theorem szs_set:∀ {l:List Tm}{k:Nat}{v w:Tm},l[k]?=some v→Tm.szs (l.set k w)+v.sz=Tm.szs l+w.sz
 | [],k,v,w,h=>by simp at h
 | t::ts,0,v,w,h=>by
  simp only[List.getElem?_cons_zero,Option.some.injEq] at h;subst h
  simp only[List.set_cons_zero,jq1,jq2];lia
 | t::ts,k+1,v,w,h=>by
  have:=szs_set (l:=ts) (k:=k) (v:=v) (w:=w) (by simpa using h)
  simp only[List.set_cons_succ,jq1,jq2];lia
theorem gs_set:∀ {l:List Tm}{k:Nat}{w:Tm},Tm.gs l=true→w.g=true→Tm.gs (l.set k w)=true
 | [],k,w,h,_=>h
 | t::ts,0,w,h,hw=>by
  simp only[ji1,ji2,Bool.and_eq_true] at h
  simp only[List.set_cons_zero,ji1,ji2,hw,h.2,Bool.and_self]
 | t::ts,k+1,w,h,hw=>by
  simp only[ji1,ji2,Bool.and_eq_true] at h
  simp only[List.set_cons_succ,ji1,ji2,h.1,gs_set h.2 hw,Bool.and_self]
theorem kid_at {t v:Tm}{k:Int}(h:kidAt t k=some v):t.kids[k.toNat]?=some v:=by
 unfold kidAt at h
 split at h
 · cases h
 · exact h
theorem repl_sz {u:Tm}:∀ {p:List Int}{t v:Tm},partAt p t=some v→(replT p t u).sz≤t.sz+u.sz
 | [],t,v,h=>Nat.le_add_left _ _
 | k::p,t,v,h=>by
  refine el75 (part_cons h) ?_;intro w hk hw
  have ih:=repl_sz (u:=u) hw
  have e:=szs_set (w:=replT p w u) (kid_at hk)
  rw[repl_cons hk]
  have et:t.sz=1+Tm.szs t.kids:=by obtain ⟨s,ks⟩:=t;rfl
  simp only[jp1];lia
theorem repl_g {u:Tm}(hu:u.g=true):∀ {p:List Int}{t v:Tm},partAt p t=some v→t.g=true→(replT p t u).g=true
 | [],t,v,h,_=>hu
 | k::p,t,v,h,ht=>by
  refine el75 (part_cons h) ?_;intro w hk hw
  rw[repl_cons hk]
  obtain ⟨s,ks⟩:=t
  simp only[jh1,Bool.and_eq_true] at ht
  exact gok ht.1 (gs_set ht.2 (repl_g hu hw (gs_mem ht.2 (kidAt_some hk).2.2)))
theorem part_g:∀ {p:List Int}{t v:Tm},partAt p t=some v→t.g=true→v.g=true
 | [],t,v,h,ht=>by simp only[jE1,jE2,Option.some.injEq] at h;subst h;exact ht
 | k::p,t,v,h,ht=>by
  refine el75 (part_cons h) ?_;intro w hk hw
  obtain ⟨s,ks⟩:=t
  simp only[jh1,Bool.and_eq_true] at ht
  exact part_g hw (gs_mem ht.2 (kidAt_some hk).2.2)
mutual
theorem spots_k:∀ (t:Tm) (p:List Int),p∈spotsT t→∀ k∈p,0≤k∧k<(t.sz:Int)
 | .mk s ks,p,h=>by
  simp only[jP1,List.mem_cons] at h
  rcases h with rfl | h
  · intro k hk;cases hk
  · intro k hk
    have:=spotsTs_k 0 ks p h k hk
    simp only[jp1];lia
theorem spotsTs_k:∀ (j:Nat) (l:List Tm) (p:List Int),p∈spotsTs j l→∀ k∈p,0≤k∧k<(j+Tm.szs l:Int)
 | _,[],p,h=>by simp [jQ1,jQ2] at h
 | j,t::ts,p,h=>by
  simp only[jQ1,jQ2,List.mem_append,List.mem_map] at h
  have hp:=sz_pos t
  simp only[jq1,jq2]
  rcases h with ⟨q,hq,rfl⟩ | h
  · intro k hk
    rcases List.mem_cons.mp hk with rfl | hk
    · lia
    · have:=spots_k t q hq k hk;lia
  · intro k hk
    have:=spotsTs_k (j+1) ts p h k hk;lia
end
structure Sp.Gd (m:Nat) (s:Sp):Prop where
 p:s.p.length≤12+m
 k:∀ k∈s.p,kOk k
 kd:kindL.contains s.kind=true
 nm:nameL.contains s.name=true
 n:s.pairs.length≤2+m
 pr:∀ x∈s.pairs,varL.contains x.1=true∧x.2.sz≤60∧x.2.g=true
theorem Sp.Gd.ok {m:Nat}{s:Sp}(h:s.Gd m)(hm:m≤10):s.Ok:=⟨by have:=h.p;lia,h.k,by have:=h.n;lia⟩
theorem Sp.Gd.le {m m':Nat}{s:Sp}(h:s.Gd m)(hm:m≤m'):s.Gd m':=⟨by have:=h.p;lia,h.k,h.kd,h.nm,by have:=h.n;lia,h.pr⟩
theorem told_sz {name:Str}{l r:Tm}(h:assocT toldT name=some (l,r)):(l.sz≤121∧l.g=true)∧r.sz≤121∧r.g=true:=by
 have m:=assocT_mem h
 have all:∀ x∈toldT,(x.2.1.sz≤121∧x.2.1.g=true)∧x.2.2.sz≤121∧x.2.2.g=true:=by decide +kernel
 exact all _ m
section
variable {c:Cx}{P:Params}
theorem sides_sz (H:Gs c (KK P) gtab){s:Sp}{m:Nat}(hs:s.Gd m){l r:Tm}(h:sidesT ruleF toldT s=some (l,r)):(l.sz≤121∧l.g=true)∧r.sz≤121∧r.g=true:=by
 unfold sidesT at h
 split at h
 · exact told_sz h
 split at h
 · rcases rule_cases H s.name with ⟨hf,_⟩ | ⟨r',x,ra⟩
   · rw[hf] at h;cases h
   · rw[ra.f] at h
     simp only at h
     split at h
     · rename_i hv
       cases h
       exact ra.sz _ hv fun x hx=>(hs.pr x hx).2
     · cases h
 · cases h
theorem done_ok (H:Gs c (KK P) gtab){s:Sp}{m:Nat}(hs:s.Gd m){t u:Tm}(ht:t.g=true)(h:doneT ruleF toldT t s=some u):u.sz≤t.sz+121∧u.g=true:=by
 cases hsd:sidesT ruleF toldT s with
 | none=>rw[done_none1 hsd] at h;cases h
 | some x=>
  obtain ⟨l,r⟩:=x
  have hz:=sides_sz H hs hsd
  cases hp:partAt s.p t with
  | none=>rw[done_none2 hsd hp] at h;cases h
  | some v=>
   rw[done_eq hsd hp] at h
   split at h
   · cases h
     have:=repl_sz (u:=cond s.back l r) hp
     refine⟨?_,repl_g ?_ hp ht⟩
     · cases hb:s.back <;> rw[hb] at this <;> simp only[cond_true,cond_false] at this ⊢ <;> lia
     · cases s.back
       · exact hz.2.2
       · exact hz.1.2
   · cases h
end
end Mine
namespace Mine
variable [Membership Addr Zip0]
noncomputable abbrev ableR (t:Tm)(F:Addr)(v1 v2 v3 v4:Option V):Rho:=[("t",some t.v),("found",some (.raw (.ref F))),("path",v1),("is_back",v2),("name",v3),("table",v4),("late",none)]
structure FS (σ:Sig) (F D1:Addr) (t:Tm) (fs:List Sp) (σ1:Sig):Prop where
 sub:Sub σ σ1
 f:σ1 F=some (.list (fs.map Sp.v))
 d:σ1 D1=some (.list ((spotsT t).map pathI))
 gd:∀ s∈fs,s.Gd 0
theorem FS.to {σ σ1 σ2:Sig}{F D1:Addr}{t:Tm}{fs:List Sp}(h:FS σ F D1 t fs σ1)(x:Sub σ1 σ2):FS σ F D1 t fs σ2:=⟨h.sub.trans x,x _ _ h.f,x _ _ h.d,h.gd⟩
theorem Sub.off {σ σ1:Sig}{F:Addr}{m:MO}(x:Sub σ σ1)(h:σ F=Option.none):Sub σ (Mine.upd σ1 F m):=fun a ma e=>by
 have:a≠F:=fun q=>by rw[q,h] at e;cases e
 rw[upd_ne _ _ this];exact x a ma e
theorem FS.push {σ σ1:Sig}{F D1:Addr}{t:Tm}{fs:List Sp}{s:Sp}(h:FS σ F D1 t fs σ1)(hF:σ F=none)(hne:D1≠F)(hs:s.Gd 0):FS σ F D1 t (fs++[s]) (upd σ1 F (.list (fs.map Sp.v++[s.v]))):=
 ⟨h.sub.off hF,by rw[upd_same,List.map_append];rfl,by rw[upd_ne _ _ hne];exact h.d,fun x hx=>by
  rcases List.mem_append.mp hx with hx | hx
  · exact h.gd x hx
  · rw[List.mem_singleton.mp hx];exact hs⟩
theorem ne_of {σ:Sig}{a b:Addr}{m:MO}(h1:σ a=none)(h2:σ b=some m):a≠b:=by rintro rfl;exact (nosn h2 h1).elim
theorem okK_of {l:List (Str×V)}(h:l.all (fun p=>okB p.1)=true):∀ p∈l,okS p.1:=fun p hp=>by
 have:=List.all_eq_true.mp h p hp
 simp only[okB,Bool.and_eq_true,decide_eq_true_eq] at this;exact this
theorem gd_told {p:List Int}{x:Str}{b:Bool}(h1:p.length≤12)(h2:∀ k∈p,kOk k)(h3:nameL.contains x=true):(Sp.mk p "told" x [] b).Gd 0:=⟨h1,h2,(by decide:kindL.contains "told"=true),h3,Nat.zero_le _,fun _ h=>by cases h⟩
inductive ableI1 (t:Tm) (F D1:Addr) (σ:Sig) (l:List V) (ρ1:Rho) (σ1:Sig):Prop
 | mk (rest:List (List Int)) (fs:List Sp) (v1 v2 v3 v4:Option V) (h1:(∀ p∈rest,p∈spotsT t)) (h2:l=rest.map pathI) (h3:fs.length+10*rest.length≤10*t.sz) (h4:ρ1=ableR t F v1 v2 v3 v4) (h5:FS σ F D1 t fs σ1):ableI1 t F D1 σ l ρ1 σ1
inductive ableI2 (t:Tm) (F D1:Addr) (σ:Sig) (p:List Int) (m:Nat) (l:List V) (ρ1:Rho) (σ1:Sig):Prop
 | mk (bs:List Bool) (fs:List Sp) (v2 v3 v4:Option V) (h1:l=bs.map .bool) (h2:fs.length+5*bs.length+m≤10*t.sz) (h3:ρ1=ableR t F (some (pathI p)) v2 v3 v4) (h4:FS σ F D1 t fs σ1):ableI2 t F D1 σ p m l ρ1 σ1
inductive ableI3 (t:Tm) (F D1:Addr) (σ:Sig) (p:List Int) (b:Bool) (m:Nat) (D3:Addr) (l0:List V) (ok:List Str) (l:List V) (ρ1:Rho) (σ1:Sig):Prop
 | mk (ns:List Str) (fs:List Sp) (v3 v4:Option V) (h1:l=ns.map .str) (h2:(∀ x∈ns,x∈ok)) (h3:fs.length+ns.length+m≤10*t.sz) (h4:ρ1=ableR t F (some (pathI p)) (some (.bool b)) v3 v4) (h5:FS σ F D1 t fs σ1) (h6:σ1 D3=some (.list l0)):ableI3 t F D1 σ p b m D3 l0 ok l ρ1 σ1
section
variable {c:Cx}{P:Params}{N:Lv}{n:Nat}{hn:Bool}{σ:Sig}{X:PX}{Q:PV}
theorem O_notT {l:List V}(q:Q (.bool true) σ):Op2 c N σ (.tup l) .none (compareOp .IsNot) Q X:=O_isNotNone q (fun v h=>by cases h)
theorem O_notTm {t:Tm}(q:Q (.bool true) σ):Op2 c N σ t.v .none (compareOp .IsNot) Q X:=by rw[Tm.v_eq];exact O_notT q
theorem I_sideT {l r:Tm}{b:Bool}(q:Q (cond b r l).v σ):SubOp c N σ (.tup [l.v,r.v]) (.int (if b then 1 else 0)) Q X:=by
 cases b with
 | false=>exact I_t0 q
 | true=>exact I_t1 q
noncomputable def stays (t:Tm)(s:Sp):Bool:=match doneT ruleF toldT t s with
 | none=>false
 | some u=>decide (u.sz≤12)
theorem C_able (H:Gs c (KK P) gtab)(hP:P=c.w.params){t:Tm}(hg:t.g=true)(hz:t.sz≤12)(q:∀ ss:List Sp,(∀ s∈ss,s.Gd 0∧∃ u,doneT ruleF toldT t s=some u∧u.sz≤12)→ss.length≤130→∀ D,σ D=none→Q (.raw (.ref D)) (upd σ D (.list (ss.map Sp.v)))):CodeOp c ⟨n+160,true⟩ σ (.ref 406) [t.v] Q X:=by
 refine K_fnV 60 H (f:=406) (params:=["t"]) (locs:=["found","path","is_back","name","table","late"]) (ρ1:=[("t",some (t.v)),("found",none),("path",none),("is_back",none),("name",none),("table",none),("late",none)]) rfl rfl rfl rfl rfl rfl rfl rfl rfl (len1 fun _=>rfl) rfl (by decide) rfl rfl ?_
 intro L
 apply lf
 intro F hF
 apply lf
 refine S_forV 60 H rfl rfl (fun _=>rfl) ?_
 refine IG_plainV 60 (by assumption) rfl ?_
 apply lf
 refine (C_spots H 12 (n+147) _ _ _ t (by have:=ht_sz t;(refine Nat.le_trans (by assumption) ?_;assumption)) (by exact nle (by assumption) (by rfl)) fun D1 hD1=>?_).call
 apply lf
 have hne:D1≠F:=ne_of hD1 (upd_same _ _ _)
 have hns:∀ k:Nat,t.sz≤12→k≤10*t.sz→k≤120:=fun k h1 h2=>by lia
 refine IO_list (l:=(spotsT t).map pathI) (.inl (upd_same _ _ _)) ?_
 refine⟨trivial,ableI1 t F D1 σ,⟨spotsT t,[],none,none,none,none,fun _ h=>h,rfl,by rw[spotsT_length];simp,rfl,⟨(Sub.upd hF).trans (Sub.upd hD1),upd_keep hD1 (upd_same _ _ _),upd_same _ _ _,fun s h=>by cases h⟩⟩,?_,?_⟩
 · intro v l ρ1 σ1 zu111
   obtain ⟨rest,fs,v1,v2,v3,v4,hr,e1,hl,rfl,hfs⟩:=zu111
   cases rest with
   | nil=>cases e1
   | cons p rest=>
   simp only[List.map_cons,List.cons.injEq] at e1
   obtain ⟨rfl,rfl⟩:=e1
   simp only[List.length_cons] at hl
   have hpm:=hr p (.head _)
   obtain ⟨u,hu⟩:=spots_part t p hpm
   have hpk:∀ k∈p,kOk k:=fun k hk=>by have:=spots_k t p hpm k hk;exact⟨by lia,by lia⟩
   have hpl:p.length≤12:=by have:=part_sz hu;lia
   have hug:=part_g hu hg
   have husz:u.sz≤12:=by have:=part_sz hu;lia
   refine⟨.inl hfs.d,?_⟩
   apply lf
   refine S_forV 60 H rfl rfl (fun _=>rfl) ?_
   refine IG_plainV 60 (by assumption) rfl ?_
   apply lf
   refine IO_tup ?_
   refine⟨trivial,ableI2 t F D1 σ p (10*rest.length),⟨[false,true],fs,v2,v3,v4,rfl,by simp only[List.length_cons,List.length_nil];lia,rfl,hfs⟩,?_,?_⟩
   · intro v l ρ1 σ1 zu112
     obtain ⟨bs,fs,v2,v3,v4,e1,hl,rfl,hfs⟩:=zu112
     cases bs with
     | nil=>cases e1
     | cons b bs=>
     simp only[List.map_cons,List.cons.injEq] at e1
     obtain ⟨rfl,rfl⟩:=e1
     simp only[List.length_cons] at hl
     refine⟨trivial,?_⟩
     apply lf
     refine S_forV 60 H rfl rfl (fun _=>rfl) ?_
     refine IG_plainV 60 (by assumption) rfl ?_
     apply lf
     refine B_sorted_dict rfl (told_at H hP) (okK_of (by decide +kernel)) (fun ss p1 p2 D3 hD3=>?_) (by decide)
     apply lf
     have hne3:D3≠F:=ne_of hD3 hfs.f
     have hsl:ss.length=2:=p1.length_eq
     refine IO_list (l:=ss.map .str) (.inl (upd_same _ _ _)) ?_
     refine⟨trivial,ableI3 t F D1 σ p b (3+5*bs.length+10*rest.length) D3 (ss.map .str) ["t1","t2"],⟨ss,fs,v3,v4,rfl,fun x hx=>p1.mem_iff.mp hx,by lia,rfl,hfs.to (Sub.upd hD3),upd_same _ _ _⟩,?_,?_⟩
     · intro v l ρ1 σ1 zu113
       obtain ⟨ns,fs,v3,v4,e1,hn,hl,rfl,hfs,h3⟩:=zu113
       cases ns with
       | nil=>cases e1
       | cons x ns=>
       simp only[List.map_cons,List.cons.injEq] at e1
       obtain ⟨rfl,rfl⟩:=e1
       simp only[List.length_cons] at hl
       have hfd:=hfs.f
       have hlen:(fs.map Sp.v).length≤120:=by rw[List.length_map];lia
       have hxn:nameL.contains x=true:=by
        have:=hn x (.head _)
        simp only[List.mem_cons,List.not_mem_nil,or_false] at this
        rcases this with rfl | rfl <;> decide
       refine⟨.inl h3,?_⟩
       apply lf;(with_reducible refine' exM_append ?s84 ?a85);(case s84=>assumption);apply lf;(with_reducible refine' B_append ?s86 ?a87 ?z88);(case s86=>assumption);(case z88=>exact nle (by assumption) (by rfl));apply lf
       exact⟨ns,fs++[⟨p,"told",x,[],b⟩],_,_,rfl,fun y hy=>hn y (.tail _ hy),by simp only[List.length_append,List.length_cons,List.length_nil];lia,rfl,hfs.push hF hne (gd_told hpl hpk hxn),by rw[upd_ne _ _ hne3];exact h3⟩
     · intro ρ1 σ1 zu114
       obtain ⟨ns,fs,v3,v4,e1,hn,hl,rfl,hfs,h3⟩:=zu114
       refine⟨.inl h3,?_⟩
       apply lf
       refine S_forV 60 H rfl rfl (fun _=>rfl) ?_
       refine IG_plainV 60 (by assumption) rfl ?_
       apply lf
       refine (C_rows H fun D4 hD4=>?_).call
       apply lf
       refine B_sorted_dict rfl (.inl (upd_same _ _ _)) (okK_of (by decide +kernel)) (fun ss p1 p2 D5 hD5=>?_) (by decide)
       apply lf
       have hne5:D5≠F:=ne_of hD5 (upd_keep hD4 hfs.f)
       have hsl:ss.length=3:=p1.length_eq
       refine IO_list (l:=ss.map .str) (.inl (upd_same _ _ _)) ?_
       refine⟨trivial,ableI3 t F D1 σ p b (5*bs.length+10*rest.length) D5 (ss.map .str) ["swap","twin","turn"],⟨ss,fs,v3,v4,rfl,fun x hx=>p1.mem_iff.mp hx,by lia,rfl,(hfs.to (Sub.upd hD4)).to (Sub.upd hD5),upd_same _ _ _⟩,?_,?_⟩
       · intro v l ρ1 σ1 zu115
         obtain ⟨ns,fs,v3,v4,e1,hn,hl,rfl,hfs,h3⟩:=zu115
         cases ns with
         | nil=>cases e1
         | cons x ns=>
         simp only[List.map_cons,List.cons.injEq] at e1
         obtain ⟨rfl,rfl⟩:=e1
         simp only[List.length_cons] at hl
         have hxm:=hn x (.head _)
         have hlen:(fs.map Sp.v).length≤120:=by rw[List.length_map];lia
         obtain ⟨r,w,ra⟩:∃ r w,RuleAt c x r w:=by
          rcases rule_cases H x with ⟨_,f2⟩ | h
          · simp only[List.mem_cons,List.not_mem_nil,or_false] at hxm
            rcases hxm with rfl | rfl | rfl <;> cases f2
          · exact h
         refine⟨.inl h3,?_⟩
         apply lf
         refine (C_rows H fun D6 hD6=>?_).call
         apply lf
         refine I_dict (v:=.tup [r.L.v,r.R.v]) ?_ (.inl (upd_same _ _ _)) (by rw[assoc_td,ra.g];rfl)
         apply lf;(with_reducible refine B_int_bool ?_);apply lf
         refine I_sideT ?_
         apply lf
         refine (C_there H (n:=n+158) (by exact nle (by assumption) (by rfl)) ?_).call
         rw[hu]
         apply lf
         refine G_dict0 fun D7 hD7=>?_
         apply lf
         have hpat:(cond b r.R r.L).sz<60∧(cond b r.R r.L).ok∧∀ k∈r.vs,k∈varsQ (cond b r.R r.L):=by
          cases b with
          | false=>exact⟨ra.rmk.ok.lsz,ra.rmk.ok.lok,fun k hk=>(ra.vq k hk).1⟩
          | true=>exact⟨ra.rmk.ok.rsz,ra.rmk.ok.rok,fun k hk=>(ra.vq k hk).2⟩
         have hpht:=ht_sz (cond b r.R r.L)
         refine (C_fits 60 _ H (n+95) 0 _ _ _ (cond b r.R r.L) u [] D7 (by lia) (by lia) hpat.2.1 (by exact nle (by assumption) (by rfl)) hug (upd_same _ _ _) ⟨Nat.le_refl _,fun x h=>by cases h⟩ (by lia) ⟨fun σ2 hs2=>?_,fun d' tb' σ2 hs2 hd2 hT2 hk2=>?_⟩).call
         · have sb:=(Sub.fresh (Sub.fresh (.refl σ1) hD6) hD7).trans hs2
           apply lf
           refine O_notN ?_
           refine Br.ff ?_;apply lf
           exact⟨ns,fs,_,_,rfl,fun y hy=>hn y (.tail _ hy),by lia,rfl,hfs.to sb,sb _ _ h3⟩
         · have sb:=(Sub.fresh (Sub.fresh (.refl σ1) hD6) hD7).trans hs2
           have hfs2:=hfs.to sb
           have h32:=sb _ _ h3
           have hfd:=hfs2.f
           apply lf
           refine O_notR ?_
           refine Br.tt ?_;apply lf;(with_reducible refine' exM_append ?s89 ?a90);(case s89=>assumption);apply lf
           refine G_lcI (cl:=[("table",L+2)]) (ρc:=[("table",some (.raw (.ref d'))),("one",none)]) rfl (by (refine CompX.of ?k1 ?k2 ?k3 ?k4 ?k5 ?k6 ?k7 ?k8 ?k9;(case k1=>rfl);(case k2=>rfl);(case k3=>rfl);(case k4=>rfl);(case k5=>repeat (first | with_reducible exact all_nil | ((with_reducible refine all_cons ?_ ?_);rfl)));(case k6=>simp);(case k7=>exact of_decide_eq_true rfl);(case k8=>repeat (first | with_reducible exact all_nil | ((with_reducible refine all_cons ?_ ?_);first | exact KeyP.loc rfl | (refine KeyP.cap ?_ rfl rfl rfl rfl;repeat (first | exact List.mem_cons_self | refine List.mem_cons_of_mem _ ?_)))));(case k9=>repeat (first | exact all_nil | (refine all_cons ?_ ?_;rfl))))) (fun _=>rfl) ?_
           refine IG_plainV 60 (by assumption) rfl ?_
           apply lf
           refine I_dict ?_ (names_at H hP) ra.aw
           apply lf
           refine IO_list (ra.l _) ?_
           have hget:∀ k∈r.vs,∃ v,assocT tb' k=some v:=fun k hk=>Option.isSome_iff_exists.mp (hk2 k (.inr (hpat.2.2 k hk)))
           have hz2:=ra.vz.1
           refine comp_map r.vs .str (fun k=>.tup [.str k,((assocT tb' k).getD u).v]) (fun _=>true) trivial (ra.l _) rfl (by exact nll (by assumption) (by rfl)) ?_ ?_
           · intro C k hk
             obtain ⟨v,hv⟩:=hget k hk
             (with_reducible refine' exTakes ?p91 ?a92);(case p91=>with_reducible (repeat (first | exact Put.here | apply Put.there | exact TakesL.nil | apply Takes.name | apply Takes.tup | apply TakesL.cons)));(with_reducible refine CompT_nil ?_)
             refine⟨rfl,?_⟩
             refine Vc.e 60 (by assumption) rfl ?_
             apply lf
             refine I_dict (v:=v.v) ?_ (.inl hd2) (by rw[assoc_map Tm.v,hv];rfl)
             exact⟨by rw[hv];rfl,.refl _⟩
           · intro D8 hD8
             apply lf
             rw[filt_true]
             have hne8:D8≠F:=ne_of hD8 hfd
             refine B_tuple_list ?_ (.inl (upd_same _ _ _)) (by rw[List.length_map];exact nle (by assumption) (by rfl))
             apply lf;(with_reducible refine' B_append ?s93 ?a94 ?z95);(case s93=>(refine upd_keep (by assumption) ?_;assumption));(case z95=>exact nle (by assumption) (by rfl));apply lf
             have e:(r.vs.map fun k=>V.tup [.str k,((assocT tb' k).getD u).v])=pv (pT (r.vs.map fun k=>(k,(assocT tb' k).getD u))):=by simp [pv,pT]
             rw[e]
             refine⟨ns,fs++[⟨p,"rule",x,r.vs.map fun k=>(k,(assocT tb' k).getD u),b⟩],_,_,rfl,fun y hy=>hn y (.tail _ hy),by simp only[List.length_append,List.length_cons,List.length_nil];lia,rfl,(hfs2.to (Sub.upd hD8)).push hF hne ⟨hpl,hpk,(by decide:kindL.contains "rule"=true),ra.nm,(by rw[List.length_map];exact hz2),fun y hy=>?_⟩,by rw[upd_ne _ _ hne5];exact upd_keep hD8 h32⟩
             refine el75 (List.mem_map.mp hy) ?_;intro k hk ze310;subst ze310
             obtain ⟨v,hv⟩:=hget k hk
             have:=hT2.ok _ (assocT_mem hv)
             simp only[hv,Option.getD_some]
             exact⟨(ra.vz.2 k hk).1,this.2⟩
       · intro ρ1 σ1 zu116
         obtain ⟨ns,fs,v3,v4,e1,hn,hl,rfl,hfs,h3⟩:=zu116
         refine⟨.inl h3,?_⟩
         apply lf
         exact⟨bs,fs,_,v3,v4,rfl,by lia,rfl,hfs⟩
   · intro ρ1 σ1 zu117
     obtain ⟨bs,fs,v2,v3,v4,e1,hl,rfl,hfs⟩:=zu117
     refine⟨trivial,?_⟩
     apply lf
     exact⟨rest,fs,_,v2,v3,v4,fun y hy=>hr y (.tail _ hy),rfl,by lia,rfl,hfs⟩
 · intro ρ1 σ1 zu118
   obtain ⟨rest,fs,v1,v2,v3,v4,hr,e1,hl,rfl,hfs⟩:=zu118
   refine⟨.inl hfs.d,?_⟩
   have hfl:fs.length≤120:=by lia
   apply lf
   refine S_lcI (cl:=[("t",L+1)]) (ρc:=[("t",some t.v),("step",none)]) rfl (by (refine CompX.of ?k1 ?k2 ?k3 ?k4 ?k5 ?k6 ?k7 ?k8 ?k9;(case k1=>rfl);(case k2=>rfl);(case k3=>rfl);(case k4=>rfl);(case k5=>repeat (first | with_reducible exact all_nil | ((with_reducible refine all_cons ?_ ?_);rfl)));(case k6=>simp);(case k7=>exact of_decide_eq_true rfl);(case k8=>repeat (first | with_reducible exact all_nil | ((with_reducible refine all_cons ?_ ?_);first | exact KeyP.loc rfl | (refine KeyP.cap ?_ rfl rfl rfl rfl;repeat (first | exact List.mem_cons_self | refine List.mem_cons_of_mem _ ?_)))));(case k9=>repeat (first | exact all_nil | (refine all_cons ?_ ?_;rfl))))) rfl (fun _=>rfl) rfl ?_
   refine IG_plainV 60 (by assumption) rfl ?_
   apply lf
   refine IO_list (.inl hfs.f) ?_
   refine comp_map fs Sp.v (fun s=>.tup [s.v,Tm.ov (doneT ruleF toldT t s)]) (fun _=>true) trivial (.inl hfs.f) rfl (by exact nll (by assumption) (by rfl)) ?_ ?_
   · intro C s hs
     (with_reducible refine' exTakes ?p96 ?a97);(case p96=>with_reducible (repeat (first | exact Put.here | apply Put.there | exact TakesL.nil | apply Takes.name | apply Takes.tup | apply TakesL.cons)));(with_reducible refine CompT_nil ?_)
     refine⟨rfl,?_⟩
     refine Vc.e 60 (by assumption) rfl ?_
     apply lf
     refine (C_done H hP (n:=n+79) ((hfs.gd s hs).ok (by decide)) (by exact nle (by assumption) (by rfl)) ?_).call
     exact⟨rfl,.refl _⟩
   intro D9 hD9
   rw[filt_true]
   refine exPut (by repeat (first | exact Put.here | apply Put.there)) ?_
   apply lf
   refine G_lcI (cl:=[]) (ρc:=[("step",none),("made",none)]) rfl (by (refine CompX.of ?k1 ?k2 ?k3 ?k4 ?k5 ?k6 ?k7 ?k8 ?k9;(case k1=>rfl);(case k2=>rfl);(case k3=>rfl);(case k4=>rfl);(case k5=>repeat (first | with_reducible exact all_nil | ((with_reducible refine all_cons ?_ ?_);rfl)));(case k6=>simp);(case k7=>exact of_decide_eq_true rfl);(case k8=>repeat (first | with_reducible exact all_nil | ((with_reducible refine all_cons ?_ ?_);first | exact KeyP.loc rfl | (refine KeyP.cap ?_ rfl rfl rfl rfl;repeat (first | exact List.mem_cons_self | refine List.mem_cons_of_mem _ ?_)))));(case k9=>repeat (first | exact all_nil | (refine all_cons ?_ ?_;rfl))))) (fun _=>rfl) ?_
   refine IG_plainV 60 (by assumption) rfl ?_
   apply lf
   refine IO_list (.inl (upd_same _ _ _)) ?_
   refine comp_map fs (fun s=>.tup [s.v,Tm.ov (doneT ruleF toldT t s)]) Sp.v (stays t) trivial (.inl (upd_same _ _ _)) rfl (by exact nll (by assumption) (by rfl)) ?_ ?_
   · intro C s hs
     (with_reducible refine' exTakes ?p98 ?a99);(case p98=>with_reducible (repeat (first | exact Put.here | apply Put.there | exact TakesL.nil | apply Takes.name | apply Takes.tup | apply TakesL.cons)));(with_reducible refine CompT_one ?_)
     refine Vc.t 60 (by assumption) rfl ?_
     apply lf
     cases hd:doneT ruleF toldT t s with
     | none=>
      refine O_notN ?_
      refine Br.ff ?_
      exact⟨by unfold stays;rw[hd],Sub.refl _⟩
     | some w=>
      have hw:=(done_ok H (hfs.gd s hs) hg hd).1
      have hwh:=ht_sz w
      refine O_notTm (t:=w) ?_
      refine Br.tt ?_;apply lf
      refine (C_spots H 140 (n+19) _ _ _ w (by lia) (by lia) fun D10 hD10=>?_).call
      apply lf
      refine B_len_list ?_ (.inl (upd_same _ _ _)) (by rw[List.length_map,spotsT_length];lia)
      apply lf;(with_reducible refine O_le ?_)
      rw[List.length_map,spotsT_length]
      by_cases h12:w.sz≤12
      · rw[decide_eq_true (show ((w.sz:Nat):Int)≤12 by lia)]
        refine Br.tt ?_
        refine⟨by unfold stays;rw[hd];exact decide_eq_true h12,?_⟩
        refine Vc.e 60 (by assumption) rfl ?_
        exact⟨rfl,Sub.upd hD10⟩
      · rw[decide_eq_false (show ¬ ((w.sz:Nat):Int)≤12 by lia)]
        refine Br.ff ?_
        exact⟨by unfold stays;rw[hd];exact decide_eq_false h12,Sub.upd hD10⟩
   · intro D11 hD11
     apply lf
     refine⟨_,Sub.cong (hfs.sub.trans (Sub.upd hD9)),q (fs.filter (stays t)) (fun s hs=>?_) (Nat.le_trans (List.length_filter_le _ _) (by exact nle (by assumption) (by rfl))) D11 ((hfs.sub.trans (Sub.upd hD9)).none hD11)⟩
     obtain ⟨h1,h2⟩:=List.mem_filter.mp hs
     refine⟨hfs.gd s h1,?_⟩
     unfold stays at h2
     cases hd:doneT ruleF toldT t s with
     | none=>rw[hd] at h2;cases h2
     | some w=>rw[hd] at h2;exact⟨w,rfl,of_decide_eq_true h2⟩
end
end Mine
namespace Mine
variable [Membership Addr Zip0]
noncomputable def toC (x:Str×Tm):Str×Tm:=(x.1,.mk "c" [])
section
variable {c:Cx}{P:Params}{N:Lv}{n:Nat}{hn:Bool}{σ:Sig}{X:PX}{Q:PV}
theorem I_anyL {d:Addr}{l:List V}{k:Int}(ed:σ d=some (.list l))(h0:0≤k)(h1:k<l.length)(hz:l.length≤1000)(q:∀ v,v∈l→Q v σ):SubOp c N σ (.raw (.ref d)) (.int k) Q X:=by
 have hk:k.toNat<l.length:=by lia
 exact I_list (q _ (List.getElem_mem hk)) ed (List.getElem?_eq_getElem hk) ⟨h0,by lia⟩
theorem pv_drop {l:List (Str×Tm)}{k:Nat}:(pv (pT l)).drop k=pv (pT (l.drop k)):=by simp [pv]
theorem pv_rev {l:List (Str×Tm)}:(pv (pT l)).reverse=pv (pT l.reverse):=by simp [pv]
theorem pv_snoc {l:List (Str×Tm)}{k:Str}{t:Tm}:pv (pT l)++[.tup [.str k,t.v]]=pv (pT (l++[(k,t)])):=by simp [pv]
theorem C_bent (H:Gs c (KK P) gtab){f cl:Addr}{m k:Nat}{s:Sp}(F:FeedOk σ f cl m)(hm:m≤90000)(hs:s.Gd k)(hk:k≤10)(q:∀ (s':Sp) σ',s'.Gd (k+1)→FeedOk σ' f cl (m+2)→Kp f σ σ'→Q s'.v σ'):CodeOp c ⟨n+2,true⟩ σ (.ref 411) [.raw (.ref f),s.v] Q X:=by
 obtain ⟨path,word,name,pairs,back⟩:=s
 obtain ⟨hp,hpk,hkd,hnm,hn',hpr⟩:=hs
 simp only at hp hpk hkd hnm hn' hpr
 have hz:(pv (pT pairs)).length≤12:=by unfold pv;rw[List.length_map,List.length_map];lia
 refine K_fnV 60 H (f:=411) (params:=["bag","step"]) (locs:=["path","kind","name","places","is_back","way"]) (ρ1:=[("bag",some (.raw (.ref f))),("step",some (.tup [pathI path,.str word,.str name,.tup (pv (pT pairs)),.bool back])),("path",none),("kind",none),("name",none),("places",none),("is_back",none),("way",none)]) rfl rfl rfl rfl rfl rfl rfl rfl rfl (len2 fun _ _=>rfl) rfl (by decide) rfl rfl ?_
 intro L
 apply lf
 refine (C_pick H F (by exact nle (by assumption) (by rfl)) (by decide) fun w σ1 h0 h9 F1 K1=>?_).call
 have F1':=F1.le (show m+1≤m+2 by exact Nat.le_succ _)
 apply lf;(with_reducible refine O_eqI ?_)
 refine Br.mk (fun _=>?_) (fun _=>?_)
 · apply lf
   refine (C_pick H F1 (by exact nll (by assumption) (by rfl)) (by decide) fun d σ2 g0 g3 F2 K2=>?_).call
   apply lf;(with_reducible refine O_addT ?a100 ?z101);(case z101=>(simp;lia));apply lf
   have hq:=q ⟨path++[d],word,name,pairs,back⟩ σ2 ⟨by simp;exact Nat.succ_le_succ (by assumption),fun x hx=>by
    rcases List.mem_append.mp hx with hx | hx
    · exact hpk x hx
    · rw[List.mem_singleton.mp hx];exact⟨by lia,by lia⟩,hkd,hnm,by simp only;lia,hpr⟩ F2 (K1.trans K2)
   simp only[Sp.v,pathI,List.map_append] at hq
   exact⟨_,.refl _,hq⟩
 apply lf;(with_reducible refine O_eqI ?_)
 refine Br.mk (fun _=>?_) (fun _=>?_)
 · apply lf;(with_reducible refine O_addT ?a102 ?z103);(case z103=>(simp;lia));apply lf
   exact⟨_,.refl _,q ⟨(-1)::path,word,name,pairs,back⟩ σ1 ⟨by simp only[List.length_cons];exact Nat.succ_le_succ (by assumption),fun x hx=>by
    rcases List.mem_cons.mp hx with rfl | hx
    · exact⟨by decide,by decide⟩
    · exact hpk x hx,hkd,hnm,by simp only;lia,hpr⟩ F1' K1⟩
 apply lf;(with_reducible refine O_eqI ?_)
 refine Br.mk (fun _=>?_) (fun _=>?_)
 · apply lf
   intro D hD
   apply lf
   refine (C_pick H (F1.sub (Sub.upd hD)) (by exact nll (by assumption) (by rfl)) (by decide) fun d σ2 g0 g3 F2 K2=>?_).call
   apply lf
   have hne:D≠f:=by refine el68 F1 ?_;(try clear F1);intro cells j e _;exact ne_of hD e
   refine I_anyL (K2 _ _ hne (upd_same _ _ _)) g0 (by simpa using g3) (by simp) fun v hv=>?_
   obtain ⟨x,rfl,hx⟩:∃ x,v=.str x∧kindL.contains x=true:=by
    simp only[List.mem_cons,List.not_mem_nil,or_false] at hv
    rcases hv with rfl | rfl | rfl <;> exact⟨_,rfl,by decide⟩
   apply lf
   exact⟨_,.refl _,q ⟨path,x,name,pairs,back⟩ σ2 ⟨by simp only;lia,hpk,hx,hnm,by simp only;lia,hpr⟩ F2 ((K1.trans (Kp.sub (Sub.upd hD))).trans K2)⟩
 apply lf;(with_reducible refine O_eqI ?_)
 refine Br.mk (fun _=>?_) (fun _=>?_)
 · apply lf
   exact⟨_,.refl _,q ⟨path,word,name,pairs,!back⟩ σ1 ⟨by simp only;lia,hpk,hkd,hnm,by simp only;lia,hpr⟩ F1' K1⟩
 apply lf;(with_reducible refine O_eqI ?_)
 refine Br.mk (fun _=>?_) (fun _=>?_)
 · apply lf
   intro D hD
   apply lf
   refine (C_pick H (F1.sub (Sub.upd hD)) (by exact nll (by assumption) (by rfl)) (by decide) fun d σ2 g0 g3 F2 K2=>?_).call
   apply lf
   have hne:D≠f:=by refine el68 F1 ?_;(try clear F1);intro cells j e _;exact ne_of hD e
   refine I_anyL (K2 _ _ hne (upd_same _ _ _)) g0 (by simpa using g3) (by simp) fun v hv=>?_
   obtain ⟨x,rfl,hx⟩:∃ x,v=.str x∧nameL.contains x=true:=by
    simp only[List.mem_cons,List.not_mem_nil,or_false] at hv
    rcases hv with rfl | rfl | rfl | rfl | rfl <;> exact⟨_,rfl,by decide⟩
   apply lf
   exact⟨_,.refl _,q ⟨path,word,x,pairs,back⟩ σ2 ⟨by simp only;lia,hpk,hkd,hx,by simp only;lia,hpr⟩ F2 ((K1.trans (Kp.sub (Sub.upd hD))).trans K2)⟩
 apply lf;(with_reducible refine O_eqI ?_)
 refine Br.mk (fun _=>?_) (fun _=>?_)
 · apply lf;(with_reducible refine Sl_1A ?z104 ?a105);(case z104=>exact nle (by assumption) (by rfl));apply lf
   rw[pv_drop]
   exact⟨_,.refl _,q ⟨path,word,name,pairs.drop 1,back⟩ σ1 ⟨by simp only;lia,hpk,hkd,hnm,by simp;lia,fun x hx=>hpr x (List.mem_of_mem_drop hx)⟩ F1' K1⟩
 apply lf;(with_reducible refine O_eqI ?_)
 refine Br.mk (fun _=>?_) (fun _=>?_)
 · apply lf;(with_reducible refine O_addT ?a106 ?z107);(case z107=>(simp;exact nle (by assumption) (by rfl)));apply lf
   rw[show (pv (pT pairs)++[V.tup [.str "?z",.tup [.str "a"]]])=pv (pT (pairs++[(("?z" : Str),Tm.mk "a" [])])) from pv_snoc (t:=.mk "a" [])]
   exact⟨_,.refl _,q ⟨path,word,name,pairs++[(("?z" : Str),Tm.mk "a" [])],back⟩ σ1 ⟨by simp only;lia,hpk,hkd,hnm,by simp;exact Nat.succ_le_succ (by assumption),fun x hx=>by
    rcases List.mem_append.mp hx with hx | hx
    · exact hpr x hx
    · rw[List.mem_singleton.mp hx];exact⟨by decide,by decide,by decide⟩⟩ F1' K1⟩
 apply lf;(with_reducible refine O_eqI ?_)
 refine Br.mk (fun _=>?_) (fun _=>?_)
 · apply lf;(with_reducible refine Sl_rev ?z108 ?a109);(case z108=>exact nle (by assumption) (by rfl));apply lf
   rw[pv_rev]
   exact⟨_,.refl _,q ⟨path,word,name,pairs.reverse,back⟩ σ1 ⟨by simp only;lia,hpk,hkd,hnm,by simp;lia,fun x hx=>hpr x (List.mem_reverse.mp hx)⟩ F1' K1⟩
 apply lf
 refine G_lcI (cl:=[]) (ρc:=[("one",none),("late",none)]) rfl (by (refine CompX.of ?k1 ?k2 ?k3 ?k4 ?k5 ?k6 ?k7 ?k8 ?k9;(case k1=>rfl);(case k2=>rfl);(case k3=>rfl);(case k4=>rfl);(case k5=>repeat (first | with_reducible exact all_nil | ((with_reducible refine all_cons ?_ ?_);rfl)));(case k6=>simp);(case k7=>exact of_decide_eq_true rfl);(case k8=>repeat (first | with_reducible exact all_nil | ((with_reducible refine all_cons ?_ ?_);first | exact KeyP.loc rfl | (refine KeyP.cap ?_ rfl rfl rfl rfl;repeat (first | exact List.mem_cons_self | refine List.mem_cons_of_mem _ ?_)))));(case k9=>repeat (first | exact all_nil | (refine all_cons ?_ ?_;rfl))))) (fun _=>rfl) ?_
 refine IG_plainV 60 (by assumption) rfl ?_
 apply lf
 refine IO_tup ?_
 refine comp_map (pT pairs) (fun p=>.tup [.str p.1,p.2]) (fun p=>.tup [.str p.1,.tup [.str "c"]]) (fun _=>true) trivial trivial rfl (by rw[List.length_map];lia) ?_ ?_
 · intro C p hp
   (with_reducible refine' exTakes ?p110 ?a111);(case p110=>with_reducible (repeat (first | exact Put.here | apply Put.there | exact TakesL.nil | apply Takes.name | apply Takes.tup | apply TakesL.cons)));(with_reducible refine CompT_nil ?_)
   refine⟨rfl,?_⟩
   refine Vc.e 60 (by assumption) rfl ?_
   exact⟨rfl,.refl _⟩
 intro D2 hD2
 apply lf
 rw[filt_true]
 refine B_tuple_list ?_ (.inl (upd_same _ _ _)) (by rw[List.length_map,List.length_map];lia)
 apply lf
 have e:((pT pairs).map fun p=>V.tup [.str p.1,.tup [.str "c"]])=pv (pT (pairs.map toC)):=by simp [pv,jr1,js1,js2,toC]
 rw[e]
 exact⟨_,.refl _,q ⟨path,word,name,pairs.map toC,back⟩ _ ⟨by simp only;lia,hpk,hkd,hnm,by simp;lia,fun x hx=>by
  refine el75 (List.mem_map.mp hx) ?_;intro y hy ze311;subst ze311
  exact⟨(hpr y hy).1,(by decide:(Tm.mk "c" []).sz≤60),(by decide:(Tm.mk "c" []).g=true)⟩⟩ (F1'.sub (Sub.upd hD2)) (K1.trans (Kp.sub (Sub.upd hD2)))⟩
end
end Mine
namespace Mine
variable [Membership Addr Zip0]
noncomputable def KpL (M:List Addr)(σ σ':Sig):Prop:=∀ a m,a ∉ M→σ a=some m→σ' a=some m
theorem KpL.sub {M:List Addr}{σ σ':Sig}(x:Sub σ σ'):KpL M σ σ':=fun a m _ e=>x a m e
theorem KpL.kp {M:List Addr}{f:Addr}{σ σ':Sig}(x:Kp f σ σ')(h:f∈M):KpL M σ σ':=fun a m ha e=>x a m (fun q=>ha (q ▸ h)) e
theorem KpL.upd {M:List Addr}{σ:Sig}{a:Addr}{m:MO}(h:a∈M):KpL M σ (Mine.upd σ a m):=fun b mb hb e=>by rw[upd_ne _ _ (fun q:b=a=>hb (by rw[q];exact h))];exact e
noncomputable def dels (M:List Addr)(σ:Sig):Sig:=fun a=>if a∈M then none else σ a
theorem dels_some {M:List Addr}{σ:Sig}{a:Addr}{m:MO}(h:dels M σ a=some m):a ∉ M∧σ a=some m:=by
 unfold dels at h
 split at h
 · cases h
 · exact⟨‹_›,h⟩
theorem dels_mk {M:List Addr}{σ:Sig}{a:Addr}{m:MO}(h:a ∉ M)(e:σ a=some m):dels M σ a=some m:=by unfold dels;rw[if_neg h];exact e
noncomputable def MadeL (c:Cx)(M:List Addr)(σ:Sig)(s:Addr):Prop:=Made c (dels M σ) s ruleF toldT
theorem MadeL.kp {c:Cx}{M:List Addr}{σ σ':Sig}{s:Addr}(h:MadeL c M σ s)(k:KpL M σ σ'):MadeL c M σ' s:=
 Made.sub h fun a m e=>el78 (dels_some e) fun h1 h2=>dels_mk h1 (k a m h1 h2)
theorem MadeL.made {c:Cx}{M:List Addr}{σ:Sig}{s:Addr}(h:MadeL c M σ s):Made c σ s ruleF toldT:=Made.sub h fun _ _ e=>(dels_some e).2
theorem MadeL.add {c:Cx}{M:List Addr}{σ:Sig}{s B:Addr}(h:MadeL c M σ s)(hB:σ B=none):MadeL c (B::M) σ s:=
 Made.sub h fun a m e=>let ⟨h1,h2⟩:=dels_some e;dels_mk (fun q=>by
  rcases List.mem_cons.mp q with rfl | q
  · exact (nosn h2 hB).elim
  · exact h1 q) h2
theorem MadeL.less {c:Cx}{M M':List Addr}{σ:Sig}{s:Addr}(h:MadeL c M σ s)(hM:∀ a∈M',a∈M):MadeL c M' σ s:=
 Made.sub h fun a m e=>el78 (dels_some e) fun h1 h2=>dels_mk (fun q=>h1 (hM a q)) h2
theorem FeedOk.kp {M:List Addr}{σ σ':Sig}{f cl:Addr}{m:Nat}(F:FeedOk σ f cl m)(k:KpL M σ σ')(h1:f ∉ M)(h2:cl ∉ M):FeedOk σ' f cl m:=el54 (F) fun cells i a b d e=>⟨cells,i,k _ _ h1 a,k _ _ h2 b,d,e⟩
noncomputable abbrev wR (t:Tm)(ss:List Sp):=walkR ruleF toldT t ss 0
theorem walkR_snoc {rule:Str→Option RuleD}{td:Td}{s:Sp}{last:Tm}:∀ {ss:List Sp}{t:Tm}{k:Nat}{pre:List Tm},t::(walkR rule td t ss k).1=pre++[last]→(walkR rule td t ss k).2=none →
 (doneT rule td last s=none→walkR rule td t (ss++[s]) k=((walkR rule td t ss k).1,some (k+ss.length)))∧∀ u,doneT rule td last s=some u→walkR rule td t (ss++[s]) k=((walkR rule td t ss k).1++[u],none)
 | [],t,k,pre,h,_=>by
  have e:t=last:=by
   have:=congrArg List.length h
   cases pre with
   | nil=>simpa [jZ1,jZ2] using h
   | cons a r=>simp [jZ1,jZ2] at this
  subst e
  refine⟨fun hd=>?_,fun u hd=>?_⟩
  · simp [jZ1,jZ2,hd]
  · simp [jZ1,jZ2,hd]
 | x::ss,t,k,pre,h,hn=>by
  cases hx:doneT rule td t x with
  | none=>simp only[jZ1,jZ2,hx] at hn;cases hn
  | some t'=>
   simp only[jZ1,jZ2,hx] at h hn
   cases pre with
   | nil=>simp at h
   | cons a pre=>
    simp only[List.cons_append,List.cons.injEq] at h
    have ih:=walkR_snoc (s:=s) h.2 hn
    refine⟨fun hd=>?_,fun u hd=>?_⟩
    · have e:=ih.1 hd
      simp only[List.cons_append,jZ1,jZ2,hx,e,List.length_cons]
      rw[show k+1+ss.length=k+(ss.length+1) from by lia]
    · have e:=ih.2 u hd
      simp only[List.cons_append,jZ1,jZ2,hx,e]
theorem walkR_stop {rule:Str→Option RuleD}{td:Td}{r:List Sp}:∀ {ss:List Sp}{t:Tm}{k j:Nat},(walkR rule td t ss k).2=some j→walkR rule td t (ss++r) k=walkR rule td t ss k
 | [],t,k,j,h=>by simp [jZ1,jZ2] at h
 | x::ss,t,k,j,h=>by
  cases hx:doneT rule td t x with
  | none=>simp only[List.cons_append,jZ1,jZ2,hx]
  | some t'=>
   simp only[jZ1,jZ2,hx] at h
   simp only[List.cons_append,jZ1,jZ2,hx,walkR_stop h]
theorem walkR_sz {c:Cx}{P:Params}(H:Gs c (KK P) gtab){m:Nat}:∀ {ss:List Sp}{t:Tm}{k:Nat},t.g=true→(∀ s∈ss,s.Gd m)→∀ u∈t::(walkR ruleF toldT t ss k).1,u.g=true∧u.sz≤t.sz+121*ss.length
 | [],t,k,hg,_,u,hu=>by
  simp only[jZ1,jZ2,List.mem_singleton] at hu;subst hu
  exact⟨hg,Nat.le_add_right _ _⟩
 | x::ss,t,k,hg,hs,u,hu=>by
  rcases List.mem_cons.mp hu with rfl | hu
  · exact⟨hg,Nat.le_add_right _ _⟩
  cases hx:doneT ruleF toldT t x with
  | none=>simp only[jZ1,jZ2,hx] at hu;cases hu
  | some t'=>
   simp only[jZ1,jZ2,hx] at hu
   have h1:=done_ok H (hs x (.head _)) hg hx
   have h2:=walkR_sz H (k:=k+1) h1.2 (fun s h=>hs s (.tail _ h)) u hu
   exact⟨h2.1,by simp only[List.length_cons];lia⟩
theorem ends {α:Type}(a:α)(l:List α):∃ pre last,a::l=pre++[last]:=⟨(a::l).dropLast,(a::l).getLast (List.cons_ne_nil _ _),(List.dropLast_concat_getLast _).symm⟩
structure StA (c:Cx) (s f cl S T:Addr) (t0:Tm) (M:List Addr) (τ:Sig) (m:Nat) (ss:List Sp):Prop where
 md:MadeL c M τ s
 fd:FeedOk τ f cl m
 hS:τ S=some (.list (ss.map Sp.v))
 hT:τ T=some (.list (Tm.vs (t0::(wR t0 ss).1)))
 wn:(wR t0 ss).2=none
 gd:∀ x∈ss,x.Gd 0
 tg:∀ t∈t0::(wR t0 ss).1,t.g=true∧t.sz≤12
 ne:S≠T∧cl≠S∧cl≠T
section
variable {c:Cx}{s f cl S T:Addr}{t0:Tm}{M:List Addr}{τ τ':Sig}{m m':Nat}{ss:List Sp}
theorem FeedOk.dict (F:FeedOk τ f cl m):∃ l,τ f=some (.dict l):=el68 (F) fun _ _ a _=>⟨_,a⟩
theorem FeedOk.cells (F:FeedOk τ f cl m):∃ l,τ cl=some (.list l):=el61 (F) fun _ _ _ a _=>⟨_,a⟩
theorem FeedOk.ne (F:FeedOk τ f cl m){a:Addr}{l:List V}(h:τ a=some (.list l)):a≠f:=by
 obtain ⟨l',e⟩:=F.dict
 rintro rfl;exact absurd (uq e h) (fun q=>by cases q)
theorem StA.fS (h:StA c s f cl S T t0 M τ m ss):S≠f:=h.fd.ne h.hS
theorem StA.fT (h:StA c s f cl S T t0 M τ m ss):T≠f:=h.fd.ne h.hT
theorem StA.le (h:StA c s f cl S T t0 M τ m ss)(hm:m≤m'):StA c s f cl S T t0 M τ m' ss:={ h with fd:=h.fd.le hm }
theorem StA.kp (h:StA c s f cl S T t0 M τ m ss)(k:Kp f τ τ')(F:FeedOk τ' f cl m')(hf:f∈M):StA c s f cl S T t0 M τ' m' ss:=
 { h with md:=h.md.kp (.kp k hf),fd:=F,hS:=k _ _ h.fS h.hS,hT:=k _ _ h.fT h.hT }
theorem StA.sub (h:StA c s f cl S T t0 M τ m ss)(k:Sub τ τ'):StA c s f cl S T t0 M τ' m ss:=
 { h with md:=h.md.kp (.sub k),fd:=h.fd.sub k,hS:=k _ _ h.hS,hT:=k _ _ h.hT }
theorem StA.at (h:StA c s f cl S T t0 M τ m ss){B:Addr}{mo:MO}(hB:B∈M)(n1:f≠B)(n2:cl≠B)(n3:S≠B)(n4:T≠B):StA c s f cl S T t0 M (upd τ B mo) m ss:=
 { h with
   md:=h.md.kp (.upd hB)
   fd:=h.fd.kp (M:=[B]) (.upd (.head _)) (by simpa using n1) (by simpa using n2)
   hS:=by rw[upd_ne _ _ n3];exact h.hS
   hT:=by rw[upd_ne _ _ n4];exact h.hT }
theorem StA.new (h:StA c s f cl S T t0 M τ m ss){B:Addr}{mo:MO}(hB:τ B=none):StA c s f cl S T t0 (B::M) (upd τ B mo) m ss∧f≠B∧cl≠B∧S≠B∧T≠B:=by
 obtain ⟨l1,e1⟩:=h.fd.dict
 obtain ⟨l2,e2⟩:=h.fd.cells
 have h':StA c s f cl S T t0 (B::M) τ m ss:={ h with md:=h.md.add hB }
 have n1:=(ne_of hB e1).symm
 have n2:=(ne_of hB e2).symm
 have n3:=(ne_of hB h.hS).symm
 have n4:=(ne_of hB h.hT).symm
 exact⟨h'.at (.head _) n1 n2 n3 n4,n1,n2,n3,n4⟩
theorem StA.less (h:StA c s f cl S T t0 M τ m ss){M':List Addr}(hM:∀ a∈M',a∈M):StA c s f cl S T t0 M' τ m ss:={ h with md:=h.md.less hM }
theorem StA.push (h:StA c s f cl S T t0 M τ m ss){x:Sp}{u last:Tm}{pre:List Tm}(hM:S∈M∧T∈M)(he:t0::(wR t0 ss).1=pre++[last])(hx:x.Gd 0)(hd:doneT ruleF toldT last x=some u)(hu:u.sz≤12)(hg:u.g=true) :
 StA c s f cl S T t0 M (upd (upd τ S (.list (ss.map Sp.v++[x.v]))) T (.list (Tm.vs (t0::(wR t0 ss).1)++[u.v]))) m (ss++[x]):=by
 have e:=(walkR_snoc (s:=x) he h.wn).2 u hd
 have e1:(wR t0 (ss++[x])).1=(wR t0 ss).1++[u]:=by show (walkR _ _ _ _ _).1=_;rw[e]
 have e2:(wR t0 (ss++[x])).2=none:=by show (walkR _ _ _ _ _).2=_;rw[e]
 refine⟨(h.md.kp (.upd hM.1)).kp (.upd hM.2),(h.fd.kp (M:=[S]) (.upd (.head _)) (by simpa using h.fS.symm) (by simpa using h.ne.2.1)).kp (M:=[T]) (.upd (.head _)) (by simpa using h.fT.symm) (by simpa using h.ne.2.2),?_,?_,e2,?_,?_,h.ne⟩
 · rw[upd_ne _ _ h.ne.1,upd_same,List.map_append];rfl
 · rw[upd_same,e1,← List.cons_append,vs_append];rfl
 · intro y hy
   rcases List.mem_append.mp hy with hy | hy
   · exact h.gd y hy
   · rw[List.mem_singleton.mp hy];exact hx
 · rw[e1]
   intro y hy
   rw[← List.cons_append] at hy
   rcases List.mem_append.mp hy with hy | hy
   · exact h.tg y hy
   · rw[List.mem_singleton.mp hy];exact⟨hg,hu⟩
end
end Mine
namespace Mine
variable [Membership Addr Zip0]
noncomputable def lawFd:FuncData:={ name:="law",qualname:="law",params:=fnArgs (stAt 43),body:=.stmts (fnBody (stAt 43)),scope:=fnScope (stAt 43),globals:=3,closure:=[],defaults:=.none,kwdefaults:=.none,pyModule:=.str "law_pq0055_04" 610,code:=.ref 422 }
noncomputable def lawSt (i:Nat):Stmt:=(fnBody (stAt 43))[i]?.getD (.Pass default)
noncomputable def forBody:Stmt→List Stmt | .For _ _ b _ _=>b | _=>[]
noncomputable def lapSt (i:Nat):Stmt:=(forBody (lawSt 7))[i]?.getD (.Pass default)
noncomputable abbrev lawR (sc f r s:Addr)(t0:Tm)(S T:Addr)(v1 v2 v3 v4 v5 v6 v7 v8 v9 v10:Option V):Rho:=[("script",some (.raw (.ref sc))),("bag",some (.raw (.ref f))),("rules",some (.raw (.ref r))),("keeper",some (.raw (.ref s))),("term",some t0.v),("steps",some (.raw (.ref S))),("terms",some (.raw (.ref T))),("lap",v1),("able",v2),("bent",v3),("turn",v4),("k",v5),("due",v6),("stop",v7),("late",v8),("before",v9),("told",v10)]
theorem trees_sps:∀ l:List Sp,trees (l.map Sp.v)=true
 | []=>rfl
 | s::l=>by
  have h1:=trees_ints s.p
  have h2:=trees_pairs s.pairs
  simp only[List.map_cons,jV1,jV2,jU1,jU2,jU3,jU4,jU5,jU6,trees_sps l,Sp.v,h1,h2,Bool.and_self]
theorem eqL_nil:∀ l:List V,eqL l []=decide (l=[])
 | []=>by simp [eqL,jS1,jS2,PyData.eqvAll]
 | x::l=>by simp [eqL,jS1,jS2,PyData.eqvAll]
section
variable {c:Cx}{P:Params}{N:Lv}{n:Nat}{hn:Bool}{σ:Sig}{X:PX}{Q:PV}
theorem I_anyM {α:Type}{d:Addr}{as:List α}{g:α→V}{k:Int}(h0:0≤k)(h1:k<(as.map g).length)(hz:as.length≤1000)(ed:LR c σ d (as.map g))(q:∀ a∈as,as[k.toNat]?=some a→Q (g a) σ):SubOp c N σ (.raw (.ref d)) (.int k) Q X:=by
 rw[List.length_map] at h1
 have hk:k.toNat<as.length:=by lia
 exact I_listR (q _ (List.getElem_mem hk) (List.getElem?_eq_getElem hk)) ed (by rw[List.getElem?_map,List.getElem?_eq_getElem hk];rfl) ⟨h0,by lia⟩
theorem O_neNil {a b:Addr}{l:List V}(q:Q (.bool (!decide (l=[]))) σ)(ea:σ a=some (.list l))(eb:σ b=some (.list []))(ht:trees l=true)(hN:0<N.n):Op2 c N σ (.raw (.ref a)) (.raw (.ref b)) (compareOp .NotEq) Q X:=
 O_neL (m:=[]) (by rw[eqL_nil];exact q) ea eb ht rfl (by have:min (PyData.depthAll (toPs l)) (PyData.depthAll (toPs []))≤0:=Nat.min_le_right _ _;lia)
inductive growI (c:Cx) (s f cl S T:Addr) (t0:Tm) (sc r:Addr) (m:Nat) (v3 v4 v5 v6 v7 v8 v9 v10:Option V) (l:List V) (ρ1:Rho) (τ:Sig):Prop
 | mk (x:Int) (k:Nat) (ss:List Sp) (m':Nat) (w1 w2:Option V) (h1:l=upFrom x k) (h2:ss.length+k≤5) (h3:m'+k≤m+6) (h4:ρ1=lawR sc f r s t0 S T w1 w2 v3 v4 v5 v6 v7 v8 v9 v10) (h5:StA c s f cl S T t0 [f,S,T] τ m' ss):growI c s f cl S T t0 sc r m v3 v4 v5 v6 v7 v8 v9 v10 l ρ1 τ
theorem L_grow (H:Gs c (KK P) gtab)(hP:P=c.w.params){L sc f cl r s S T:Addr}{t0:Tm}{m:Nat}{v1 v2 v3 v4 v5 v6 v7 v8 v9 v10:Option V}{SQ:PF}{SX:PE}
 (h:StA c s f cl S T t0 [f,S,T] σ m []) (hm:m≤100)
 (q:∀ ss τ m' w1 w2,StA c s f cl S T t0 [f,S,T] τ m' ss→ss.length≤5→m'≤m+6→SQ .next (lawR sc f r s t0 S T w1 w2 v3 v4 v5 v6 v7 v8 v9 v10) τ) :
 StG c ⟨n+199,true⟩ (callEnvC lawFd L 423) (lawR sc f r s t0 S T v1 v2 v3 v4 v5 v6 v7 v8 v9 v10) (lawSt 5) σ SQ SX:=by
 refine S_forV 60 H rfl rfl (fun _=>rfl) ?_
 refine IG_callV 60 (by assumption) rfl rfl rfl ?_
 apply lf
 refine (C_pick H h.fd (by exact nle (by assumption) (by rfl)) (by decide) fun d σ1 g0 g1 F1 K1=>?_).call
 obtain ⟨k,rfl⟩:∃ k:Nat,d=k:=⟨d.toNat,by exact (Int.toNat_of_nonneg (by assumption)).symm⟩
 apply lf;(with_reducible refine O_add ?_);apply lf;refine⟨Kee.type,?_⟩
 rw[show (2:Int)+(k:Int)=((2+k:Nat):Int) by rfl]
 refine CI_range (by lia) ?_
 refine⟨⟨_,_,rfl⟩,growI c s f cl S T t0 sc r m v3 v4 v5 v6 v7 v8 v9 v10,⟨0,2+k,[],m+1,_,_,rfl,by simp only[List.length_nil];lia,by lia,rfl,h.kp K1 F1 (.head _)⟩,?_,?_⟩
 · intro v l ρ1 τ zu119
   obtain ⟨x,j,ss,m',w1,w2,e,hl,hm',rfl,h⟩:=zu119
   cases j with
   | zero=>simp [jW1,jW2] at e
   | succ j=>
   rw[upFrom_cons] at e
   simp only[List.cons.injEq] at e
   obtain ⟨rfl,rfl⟩:=e
   refine el76 (ends t0 (wR t0 ss).1) ?_;intro pre last he
   have hlast:=h.tg last (by rw[he];simp)
   have hT:=h.hT
   have hS:=h.hS
   have htl:Tm.vs (t0::(wR t0 ss).1)=Tm.vs pre++[last.v]:=by rw[he,vs_append];rfl
   have hz:(Tm.vs (t0::(wR t0 ss).1)).length≤100:=by rw[Tm.vs_length,List.length_cons];have:(wR t0 ss).1.length≤ss.length:=walkR_len ss t0 0;lia
   refine⟨trivial,?_⟩
   apply lf
   refine I_listLast (l:=Tm.vs pre) (v:=last.v) (.inl (by rw[← htl];exact hT)) ?_
   apply lf
   refine (C_able (n:=n+39) H hP hlast.1 hlast.2 fun as ha hal D hD=>?_).call
   apply lf
   intro D1 hD1
   apply lf
   refine O_neNil ?_ (upd_keep hD1 (upd_same _ _ _)) (upd_same _ _ _) (trees_sps as) (Nat.succ_pos _)
   have sb:Sub τ (upd (upd τ D (.list (as.map Sp.v))) D1 (.list [])):=Sub.fresh (Sub.fresh (.refl _) hD) hD1
   refine Br.mk (fun hne=>?_) (fun _=>?_)
   · have hlen:(0:Int)<((as.map Sp.v).length:Nat):=by
      cases as with
      | nil=>cases hne
      | cons a as=>simp only[List.map_cons,List.length_cons];lia
     apply lf;(with_reducible refine' exM_append ?s112 ?a113);(case s112=>(refine upd_keep (by assumption) ?_;refine upd_keep (by assumption) ?_;assumption));apply lf;(with_reducible refine' B_len_list ?a114 ?s115 ?z116);(case s115=>(refine Or.inl ?_;refine upd_keep (by assumption) ?_;exact upd_same _ _ _));(case z116=>(simp;exact nle (by assumption) (by rfl)));apply lf
     have h2:=h.sub sb
     refine (C_pick H h2.fd (by lia) hlen fun d σ2 g0 g1 F2 K2=>?_).call
     have h3:=h2.kp K2 F2 (.head _)
     have hS3:=h3.hS
     have hD3:σ2 D=some (.list (as.map Sp.v)):=K2 _ _ (h2.fd.ne (upd_keep hD1 (upd_same _ _ _))) (upd_keep hD1 (upd_same _ _ _))
     apply lf
     refine I_anyM g0 g1 (by exact nle (by assumption) (by rfl)) (.inl hD3) fun a haa _=>?_
     have hT3:upd σ2 S (.list (ss.map Sp.v++[a.v])) T=some (.list (Tm.vs (t0::(wR t0 ss).1))):=by rw[upd_ne _ _ h.ne.1.symm];exact h3.hT
     have hsz:(ss.map Sp.v).length≤100:=by rw[List.length_map];lia
     apply lf;(with_reducible refine' B_append ?s117 ?a118 ?z119);(case s117=>assumption);(case z119=>exact nle (by assumption) (by rfl));apply lf;(with_reducible refine' exM_append ?s120 ?a121);(case s120=>assumption);apply lf
     refine I_listLast (l:=Tm.vs pre) (v:=last.v) (.inl (by rw[← htl];exact hT3)) ?_
     apply lf
     refine I_listLast (.inl (upd_same _ _ _)) ?_
     apply lf
     refine el69 (ha a haa) ?_;intro hgd u hu h12
     refine (C_done (n:=n+119) H hP (hgd.ok (by decide)) (by lia) ?_).call
     rw[hu]
     apply lf;(with_reducible refine' B_append ?s122 ?a123 ?z124);(case s122=>assumption);(case z124=>exact nle (by assumption) (by rfl));apply lf
     exact⟨_,j,ss++[a],m'+1,_,_,rfl,by simp only[List.length_append,List.length_cons,List.length_nil];lia,by lia,rfl,h3.push ⟨.tail _ (.head _),.tail _ (.tail _ (.head _))⟩ he hgd hu h12 (done_ok H hgd hlast.1 hu).2⟩
   · apply lf
     exact⟨_,j,ss,m',_,_,rfl,by exact Nat.le_of_lt (by assumption),by exact Nat.le_of_lt (by assumption),rfl,h.sub sb⟩
 · intro ρ1 τ zu120
   obtain ⟨x,j,ss,m',w1,w2,e,hl,hm',rfl,h⟩:=zu120
   refine⟨trivial,?_⟩
   exact q ss τ m' w1 w2 h (by lia) (by lia)
end
end Mine
namespace Mine
variable [Membership Addr Zip0]
theorem strOk_app {x y:Str}(hx:PyData.strOk x=true)(hy:PyData.strOk y=true):PyData.strOk (x++y)=true:=by
 unfold PyData.strOk at *
 show (x.cps++y.cps).all _=true
 rw[Array.all_append,hx,hy];rfl
noncomputable def tot:List Str→Nat
 | []=>0
 | x::l=>x.length+2+tot l
theorem jT1:tot []=(0):=rfl
theorem jT2:tot (x::l)=(x.length+2+tot l):=rfl
theorem join_ok:∀ {ts:List Str},(∀ x∈ts,PyData.strOk x=true)→PyData.strOk (Str.join ", " ts)=true∧(Str.join ", " ts).length≤tot ts
 | [],_=>⟨by decide +kernel,Nat.zero_le _⟩
 | [x],h=>⟨h x (.head _),by show x.length≤_;simp only[jT1,jT2];exact Nat.le_add_right _ _⟩
 | x::y::r,h=>by
  have ih:=join_ok (ts:=y::r) (fun z hz=>h z (.tail _ hz))
  have e2:((", " : String):Str).length=2:=rfl
  refine⟨strOk_app (strOk_app (h x (.head _)) (by decide +kernel)) ih.1,?_⟩
  show (x++", "++Str.join ", " (y::r)).length≤_
  rw[strLen_append,strLen_append,e2]
  have:=ih.2
  simp only[jT1,jT2] at this ⊢;lia
theorem tuple_ok {ts:List Str}(h:∀ x∈ts,PyData.strOk x=true):PyData.strOk (tupleText ts)=true∧(tupleText ts).length≤tot ts+3:=by
 have j:=join_ok h
 have e1:((if ts.length==1 then ",)" else ")" : String):Str).length≤2∧PyData.strOk ((if ts.length==1 then ",)" else ")" : String):Str)=true:=by split <;> exact⟨by decide +kernel,by decide +kernel⟩
 refine⟨strOk_app (strOk_app (by decide +kernel) j.1) e1.2,?_⟩
 unfold tupleText
 rw[strLen_append,strLen_append]
 have:=e1.1
 have e3:((("(" : String):Str)).length=1:=rfl
 lia
theorem text_ok:∀ {ts:List Str}{k:Nat}{acc:Str},PyData.strOk acc=true→(∀ x∈ts,PyData.strOk x=true)→PyData.strOk (textFrom k acc ts)=true∧(textFrom k acc ts).length≤acc.length+tot ts
 | [],k,acc,ha,_=>⟨ha,Nat.le_refl _⟩
 | t::r,k,acc,ha,h=>by
  have e1:((if k>0 then ", " else "" : String):Str).length≤2∧PyData.strOk ((if k>0 then ", " else "" : String):Str)=true:=by split <;> exact⟨by decide +kernel,by decide +kernel⟩
  have ih:=text_ok (ts:=r) (k:=k+1) (acc:=acc++(if k>0 then ", " else "" : String)++t) (strOk_app (strOk_app ha e1.2) (h t (.head _))) (fun z hz=>h z (.tail _ hz))
  refine⟨ih.1,?_⟩
  have:=ih.2
  rw[strLen_append,strLen_append] at this
  have:=e1.1
  show (textFrom (k+1) _ r).length≤_
  simp only[jT1,jT2];lia
theorem list_ok {ts:List Str}(h:∀ x∈ts,PyData.strOk x=true):PyData.strOk (listText ts)=true∧(listText ts).length≤tot ts+2:=by
 have j:=text_ok (ts:=ts) (k:=0) (acc:="[") (by decide +kernel) h
 refine⟨strOk_app j.1 (by decide +kernel),?_⟩
 unfold listText
 rw[strLen_append]
 have:=j.2
 have e3:((("]" : String):Str)).length=1:=rfl
 have e4:((("[" : String):Str)).length=1:=rfl
 lia
structure Sho (n k:Nat) (v:V):Prop where
 o:PyData.strOk (PyData.shown (toP v))=true
 z:(PyData.shown (toP v)).length+2≤n
 s:PyData.showable (toP v)=true
 d:PyData.hasDict (toP v)=false
 k:PyData.depth (toP v)≤k
structure ShoL (n k:Nat) (l:List V):Prop where
 o:∀ x∈PyData.shownAll (toPs l),PyData.strOk x=true
 z:tot (PyData.shownAll (toPs l))≤n
 s:PyData.showableAll (toPs l)=true
 d:PyData.hasDictAll (toPs l)=false
 k:PyData.depthAll (toPs l)≤k
theorem Sho.le {n n' k k':Nat}{v:V}(h:Sho n k v)(hn:n≤n')(hk:k≤k'):Sho n' k' v:=⟨h.o,Nat.le_trans h.z hn,h.s,h.d,Nat.le_trans h.k hk⟩
theorem ShoL.le {n n' k k':Nat}{l:List V}(h:ShoL n k l)(hn:n≤n')(hk:k≤k'):ShoL n' k' l:=⟨h.o,Nat.le_trans h.z hn,h.s,h.d,Nat.le_trans h.k hk⟩
theorem ShoL.nil {k:Nat}:ShoL 0 k []:=⟨fun _ h=>(by cases h),Nat.le_refl _,rfl,rfl,Nat.zero_le _⟩
theorem ShoL.cons {n m k:Nat}{v:V}{l:List V}(h:Sho n k v)(g:ShoL m k l):ShoL (n+m) k (v::l) where
 o:=fun x hx=>by
  rcases List.mem_cons.mp (show x∈PyData.shown (toP v)::PyData.shownAll (toPs l) from hx) with rfl | hx
  · exact h.o
  · exact g.o x hx
 z:=by have:=h.z;have:=g.z;simp only[jS1,jS2,PyData.shownAll,jT1,jT2];lia
 s:=by simp only[jS1,jS2,PyData.showableAll,h.s,g.s,Bool.and_self]
 d:=by simp only[jS1,jS2,PyData.hasDictAll,h.d,g.d,Bool.or_self]
 k:=by simp only[jS1,jS2,PyData.depthAll];exact Nat.max_le.mpr ⟨h.k,g.k⟩
theorem Sho.tup {n k:Nat}{l:List V}(h:ShoL n k l):Sho (n+5) (k+1) (.tup l) where
 o:=by simp only[jR1,jR2,jR3,jR4,jR5,jR6,PyData.shown];exact (tuple_ok h.o).1
 z:=by simp only[jR1,jR2,jR3,jR4,jR5,jR6,PyData.shown];have:=(tuple_ok h.o).2;have:=h.z;lia
 s:=by simp only[jR1,jR2,jR3,jR4,jR5,jR6,PyData.showable];exact h.s
 d:=by simp only[jR1,jR2,jR3,jR4,jR5,jR6,PyData.hasDict];exact h.d
 k:=by simp only[jR1,jR2,jR3,jR4,jR5,jR6,PyData.depth];have:=h.k;exact Nat.succ_le_succ (by assumption)
theorem ShoL.map {α:Type}{n k:Nat}{g:α→V}:∀ {as:List α},(∀ a∈as,Sho n k (g a))→ShoL (n*as.length) k (as.map g)
 | [],_=>.nil
 | a::as,h=>(ShoL.cons (h a (.head _)) (ShoL.map fun b hb=>h b (.tail _ hb))).le (by simp only[List.length_cons,Nat.mul_add];lia) (Nat.le_refl _)
noncomputable def shS (x:Str):Bool:=PyData.strOk (reprText x)&&decide ((reprText x).length≤6)
theorem Sho.str {x:Str}(h:shS x=true):Sho 8 0 (.str x):=by
 unfold shS at h
 rw[Bool.and_eq_true,decide_eq_true_eq] at h
 exact⟨by simp only[jR1,jR2,jR3,jR4,jR5,jR6,PyData.shown];exact h.1,by simp only[jR1,jR2,jR3,jR4,jR5,jR6,PyData.shown];have:=h.2;lia,rfl,rfl,Nat.zero_le _⟩
theorem Sho.of {l:List Str}(hl:l.all shS=true){x:Str}(h:l.contains x=true):Sho 8 0 (.str x):=.str (List.all_eq_true.mp hl x (by simpa using h))
theorem Sho.bool {b:Bool}:Sho 7 0 (.bool b):=by
 cases b
 · exact⟨by decide +kernel,by decide +kernel,rfl,rfl,Nat.zero_le _⟩
 · exact⟨by decide +kernel,by decide +kernel,rfl,rfl,Nat.zero_le _⟩
theorem Sho.int {i:Int}(h:kOk i):Sho 5 0 (.int i):=by
 obtain ⟨j,e⟩:=h.fin
 have all:∀ j:Fin 14,(PyData.strOk (toString ((j.val:Int)-1):Str)=true∧(toString ((j.val:Int)-1):Str).length+2≤5)∧((j.val:Int)-1).natAbs.log2<1920:=by decide +kernel
 have:=all j
 rw[← e] at this
 exact⟨by simp only[jR1,jR2,jR3,jR4,jR5,jR6,PyData.shown];exact this.1.1,by simp only[jR1,jR2,jR3,jR4,jR5,jR6,PyData.shown];exact this.1.2,by simp only[jR1,jR2,jR3,jR4,jR5,jR6,PyData.showable,this.2,decide_true],rfl,Nat.zero_le _⟩
theorem sh_g:gnm.all shS=true:=by decide +kernel
theorem sh_kind:kindL.all shS=true:=by decide +kernel
theorem sh_name:nameL.all shS=true:=by decide +kernel
theorem sh_var:varL.all shS=true:=by decide +kernel
mutual
theorem sho_tm:∀ {t:Tm},t.g=true→Sho (13*t.sz) t.sz t.v
 | .mk s ks,h=>by
  simp only[jh1,Bool.and_eq_true] at h
  have:=ShoL.cons ((Sho.of sh_g h.1).le (Nat.le_refl _) (Nat.zero_le _)) (sho_tms h.2)
  simp only[jr1,jp1]
  exact (Sho.tup this).le (by lia) (by lia)
theorem sho_tms:∀ {l:List Tm},Tm.gs l=true→ShoL (13*Tm.szs l) (Tm.szs l) (Tm.vs l)
 | [],_=>.nil
 | t::ts,h=>by
  simp only[ji1,ji2,Bool.and_eq_true] at h
  simp only[js1,js2,jq1,jq2]
  exact (ShoL.cons ((sho_tm h.1).le (Nat.le_refl _) (Nat.le_add_right _ (Tm.szs ts))) ((sho_tms h.2).le (Nat.le_refl _) (Nat.le_add_left _ t.sz))).le (by lia) (Nat.le_refl _)
end
theorem sho_sp {m:Nat}{s:Sp}(h:s.Gd m)(hm:m≤4):Sho 6000 64 s.v:=by
 have hp:=h.p
 have hn:=h.n
 have a1:ShoL (5*16) 60 (s.p.map .int):=(ShoL.map (n:=5) (k:=0) fun k hk=>Sho.int (h.k k hk)).le (Nat.mul_le_mul_left _ (by lia)) (by exact Nat.le_of_ble_eq_true rfl)
 have a2:ShoL (813*6) 62 (pv (pT s.pairs)):=by
  have:ShoL (813*(pT s.pairs).length) 62 (pv (pT s.pairs)):=ShoL.map fun x hx=>by
   refine el75 (List.mem_map.mp hx) ?_;intro y hy ze312;subst ze312
   have hy:=h.pr y hy
   have t1:=ShoL.cons ((sho_tm hy.2.2).le (Nat.le_refl _) hy.2.1) (ShoL.nil (k:=60))
   have t2:=ShoL.cons ((Sho.of sh_var hy.1).le (Nat.le_refl _) (Nat.zero_le _)) t1
   exact (Sho.tup t2).le (by lia) (by exact Nat.le_of_ble_eq_true rfl)
  exact this.le (Nat.mul_le_mul_left _ (by rw[List.length_map];lia)) (Nat.le_refl _)
 have b5:=ShoL.cons ((Sho.bool (b:=s.back)).le (Nat.le_refl _) (Nat.zero_le 63)) ShoL.nil
 have b4:=ShoL.cons ((Sho.tup a2).le (Nat.le_refl _) (by exact Nat.le_of_ble_eq_true rfl)) b5
 have b3:=ShoL.cons ((Sho.of sh_name h.nm).le (Nat.le_refl _) (Nat.zero_le _)) b4
 have b2:=ShoL.cons ((Sho.of sh_kind h.kd).le (Nat.le_refl _) (Nat.zero_le _)) b3
 have b1:=ShoL.cons ((Sho.tup a1).le (Nat.le_refl _) (by exact Nat.le_of_ble_eq_true rfl)) b2
 exact (Sho.tup b1).le (by exact Nat.le_of_ble_eq_true rfl) (by exact Nat.le_of_ble_eq_true rfl)
section
variable {c:Cx}{P:Params}{N:Lv}{n:Nat}{hn:Bool}{σ:Sig}{X:PX}{Q:PV}
noncomputable abbrev reprS (bs:List Sp):Str:=PyData.shown (.list (toPs (bs.map Sp.v)))
theorem B_reprS {d:Addr}{bs:List Sp}{m:Nat}(ed:σ d=some (.list (bs.map Sp.v)))(hg:∀ s∈bs,s.Gd m)(hm:m≤4)(hl:bs.length≤10)(hN:10≤N.n)(q:Q (.str (reprS bs)) σ):CallOp c N σ (.builtin "repr") [.raw (.ref d)] Q X:=by
 have hL:ShoL 60000 64 (bs.map Sp.v):=(ShoL.map fun s hs=>sho_sp (hg s hs) hm).le (by lia) (Nat.le_refl _)
 have lo:=list_ok hL.o
 refine B_repr q (.inl ed) (trees_sps bs) ?_ ?_ ?_ ?_ ?_
 · simp only[PyData.showable];exact hL.s
 · simp only[PyData.hasDict];exact hL.d
 · simp only[PyData.depth];have:=hL.k;lia
 · simp only[PyData.shown];have:=lo.2;have:=hL.z;lia
 · simp only[PyData.shown];exact lo.1
end
end Mine
namespace Mine
variable [Membership Addr Zip0]
section
variable {c:Cx}{P:Params}{N:Lv}{n:Nat}{hn:Bool}{σ:Sig}{X:PX}{Q:PV}
noncomputable def forTarget:Stmt→PySem.Expr | .For t _ _ _ _=>t | _=>.Constant .none 0 default
inductive bendI (c:Cx) (s f cl S T:Addr) (t0:Tm) (sc r B:Addr) (ss:List Sp) (m:Nat) (v1 v2 v6 v7 v8 v9 v10:Option V) (l:List V) (ρ1:Rho) (τ:Sig):Prop
 | mk (x:Int) (j g:Nat) (bs:List Sp) (m':Nat) (w4 w5:Option V) (h1:l=upFrom x j) (h2:j+g≤2) (h3:m'+3*j≤m+7) (h4:ρ1=lawR sc f r s t0 S T v1 v2 (some (.raw (.ref B))) w4 w5 v6 v7 v8 v9 v10) (h5:StA c s f cl S T t0 [B,f] τ m' ss) (h6:τ B=some (.list (bs.map Sp.v))) (h7:bs.length=ss.length) (h8:(∀ x∈bs,x.Gd g)) (h9:(0<ss.length∨j=0)):bendI c s f cl S T t0 sc r B ss m v1 v2 v6 v7 v8 v9 v10 l ρ1 τ
theorem L_bendT (H:Gs c (KK P) gtab)(hP:P=c.w.params){L sc f cl r s S T B:Addr}{t0:Tm}{m:Nat}{ss:List Sp}{v1 v2 v6 v7 v8 v9 v10:Option V}{SQ:PF}{SX:PE}{l:List V}{v:V}{ρ1:Rho}
 (hm:m≤100) (hl5:ss.length≤5) (hne:f≠B∧cl≠B∧S≠B∧T≠B) (hI:bendI c s f cl S T t0 sc r B ss m v1 v2 v6 v7 v8 v9 v10 (v::l) ρ1 σ) :
 take (forTarget (lapSt 1)) v ρ1 fun ρ2=>(vW c ⟨n+199,true⟩ (callEnvC lawFd L 423) (KK P) gtab lawFd.scope.names 60).s ρ2 (forBody (lapSt 1)) σ (kInv (bendI c s f cl S T t0 sc r B ss m v1 v2 v6 v7 v8 v9 v10) l SQ) SX:=by
 obtain ⟨x,j,g,bs,m',w4,w5,e,hg,hm',rfl,h,hB,hlen,hgd,hpos⟩:=hI
 cases j with
 | zero=>simp [jW1,jW2] at e
 | succ j=>
 rw[upFrom_cons] at e
 simp only[List.cons.injEq] at e
 obtain ⟨rfl,rfl⟩:=e
 have hp:0<ss.length:=hpos.elim id fun h=>by lia
 have hS:=h.hS
 have hz:(ss.map Sp.v).length≤5:=by rw[List.length_map];exact hl5
 apply lf;(with_reducible refine' B_len_list ?a125 ?s126 ?z127);(case s126=>(refine Or.inl ?_;assumption));(case z127=>exact nle (by assumption) (by rfl));apply lf
 refine (C_pick H h.fd (by lia) (by rw[List.length_map];exact Int.ofNat_lt.mpr (by assumption)) fun d σ1 g0 g1 F1 K1=>?_).call
 obtain ⟨k,rfl⟩:∃ k:Nat,d=k:=⟨d.toNat,by exact (Int.toNat_of_nonneg (by assumption)).symm⟩
 rw[List.length_map] at g1
 have h1:=h.kp K1 F1 (.tail _ (.head _))
 have hB1:=K1 _ _ hne.1.symm hB
 apply lf
 refine I_anyM (as:=bs) g0 (by rw[List.length_map];lia) (by lia) (.inl hB1) fun a haa _=>?_
 apply lf
 refine (C_bent (n:=n+197) H h1.fd (by lia) (hgd a haa) (by lia) fun a' σ2 ha' F2 K2=>?_).call
 have h2:=h1.kp K2 F2 (.tail _ (.head _))
 have hB2:=K2 _ _ hne.1.symm hB1
 apply lf
 refine St_list (j:=k) hB2 ?_ (by rw[List.length_map];lia) (by rw[List.length_map];lia)
 rw[show (bs.map Sp.v).set k a'.v=(bs.set k a').map Sp.v from List.map_set.symm]
 apply lf
 refine⟨_,j,g+1,bs.set k a',m'+3,_,_,rfl,by lia,by lia,rfl,(h2.at (.head _) hne.1 hne.2.1 hne.2.2.1 hne.2.2.2).le (by exact Nat.le_refl _),upd_same _ _ _,by rw[List.length_set];exact hlen,fun y hy=>?_,.inl hp⟩
 rcases List.mem_or_eq_of_mem_set hy with hy | rfl
 · exact (hgd y hy).le (Nat.le_succ _)
 · exact ha'
theorem L_bend (H:Gs c (KK P) gtab)(hP:P=c.w.params){L sc f cl r s S T B:Addr}{t0:Tm}{m:Nat}{ss:List Sp}{v1 v2 v4 v5 v6 v7 v8 v9 v10:Option V}{SQ:PF}{SX:PE}
 (hm:m≤100) (hl5:ss.length≤5) (hne:f≠B∧cl≠B∧S≠B∧T≠B) (h:StA c s f cl S T t0 [B,f] σ m ss) (hB:σ B=some (.list (ss.map Sp.v)))
 (q:∀ (bs:List Sp) τ m' w4 w5,StA c s f cl S T t0 [B,f] τ m' ss→τ B=some (.list (bs.map Sp.v))→bs.length=ss.length→(∀ x∈bs,x.Gd 2)→m'≤m+7→SQ .next (lawR sc f r s t0 S T v1 v2 (some (.raw (.ref B))) w4 w5 v6 v7 v8 v9 v10) τ) :
 StG c ⟨n+199,true⟩ (callEnvC lawFd L 423) (lawR sc f r s t0 S T v1 v2 (some (.raw (.ref B))) v4 v5 v6 v7 v8 v9 v10) (lapSt 1) σ SQ SX:=by
 have done:∀ ρ1 σ1,bendI c s f cl S T t0 sc r B ss m v1 v2 v6 v7 v8 v9 v10 [] ρ1 σ1→True∧SQ .next ρ1 σ1:=by
  intro ρ1 τ zu121
  obtain ⟨x,j,g,bs,m',w4,w5,e,hg,hm',rfl,h,hB,hlen,hgd,hpos⟩:=zu121
  exact⟨trivial,q bs τ m' w4 w5 h hB hlen (fun y hy=>(hgd y hy).le (by lia)) (by lia)⟩
 have hS:=h.hS
 refine S_forV 60 H rfl rfl (fun _=>rfl) ?_
 refine IG_callV 60 (by assumption) rfl rfl rfl ?_
 apply lf
 intro D1 hD1
 apply lf
 refine O_neNil ?_ (upd_keep hD1 hS) (upd_same _ _ _) (trees_sps ss) (Nat.succ_pos _)
 have h1:StA c s f cl S T t0 [B,f] (upd σ D1 (.list [])) m ss:=h.sub (Sub.upd hD1)
 refine Br.mk (fun hz=>?_) (fun _=>?_)
 · have hpos:0<ss.length:=by
    cases ss with
    | nil=>cases hz
    | cons a as=>exact Nat.succ_pos _
   apply lf
   refine (C_pick H h1.fd (by exact nle (by assumption) (by rfl)) (by decide) fun d σ1 g0 g1 F1 K1=>?_).call
   obtain ⟨k,rfl⟩:∃ k:Nat,d=k:=⟨d.toNat,by exact (Int.toNat_of_nonneg (by assumption)).symm⟩
   apply lf;(with_reducible refine O_add ?_);apply lf;refine⟨Kee.type,?_⟩
   rw[show (1:Int)+(k:Int)=((1+k:Nat):Int) by rfl]
   refine CI_range (by lia) ?_
   refine⟨⟨_,_,rfl⟩,bendI c s f cl S T t0 sc r B ss m v1 v2 v6 v7 v8 v9 v10,⟨0,1+k,0,ss,m+1,_,_,rfl,by lia,by lia,rfl,h1.kp K1 F1 (.tail _ (.head _)),K1 _ _ hne.1.symm (upd_keep hD1 hB),rfl,h.gd,.inl hpos⟩,?_,done⟩
   intro v l ρ1 τ hI
   exact⟨trivial,L_bendT H hP hm hl5 hne hI⟩
 · apply lf;refine⟨Kee.type,?_⟩
   refine CI_range (n:=0) (by exact Nat.le_of_ble_eq_true rfl) ?_
   refine⟨⟨_,_,rfl⟩,bendI c s f cl S T t0 sc r B ss m v1 v2 v6 v7 v8 v9 v10,⟨0,0,0,ss,m,_,_,rfl,by exact Nat.le_of_ble_eq_true rfl,by exact Nat.le_add_right _ _,rfl,h1,upd_keep hD1 hB,rfl,h.gd,.inr rfl⟩,?_,done⟩
   intro v l ρ1 τ hI
   exact⟨trivial,L_bendT H hP hm hl5 hne hI⟩
end
end Mine
namespace Mine
variable [Membership Addr Zip0]
noncomputable def stV:Option Nat→V
 | none=>.none
 | some j=>.int (j:Nat)
section
variable {c:Cx}{P:Params}{N:Lv}{n:Nat}{hn:Bool}{σ:Sig}{X:PX}{Q:PV}
theorem O_isNi {i:Int}(q:Q (.bool false) σ):Op2 c N σ (.int i) .none (compareOp .Is) Q X:=O_isNone q (fun v h=>by cases h)
theorem O_isNTm {t:Tm}(q:Q (.bool false) σ):Op2 c N σ t.v .none (compareOp .Is) Q X:=by rw[Tm.v_eq];exact O_isNt q
inductive dueI (c:Cx) (s f cl S T:Addr) (t0:Tm) (sc r B U:Addr) (ss bs:List Sp) (m:Nat) (v1 v2 v4 v9 v10:Option V) (l:List V) (ρ1:Rho) (τ:Sig):Prop
 | mk (done rest:List Sp) (sv:V) (w5 w8:Option V) (h1:bs=done++rest) (h2:l=upFrom (done.length:Nat) rest.length) (h3:sv=stV (wR t0 done).2) (h4:ρ1=lawR sc f r s t0 S T v1 v2 (some (.raw (.ref B))) v4 w5 (some (.raw (.ref U))) (some sv) w8 v9 v10) (h5:StA c s f cl S T t0 [U,B,f] τ m ss) (h6:τ B=some (.list (bs.map Sp.v))) (h7:τ U=some (.list (Tm.vs (t0::(wR t0 done).1)))):dueI c s f cl S T t0 sc r B U ss bs m v1 v2 v4 v9 v10 l ρ1 τ
theorem L_due (H:Gs c (KK P) gtab)(hP:P=c.w.params){L sc f cl r s S T B U:Addr}{t0:Tm}{m:Nat}{ss bs:List Sp}{v1 v2 v4 v5 v8 v9 v10:Option V}{SQ:PF}{SX:PE}
 (hl5:bs.length≤5) (hUB:U≠B) (hneU:f≠U∧cl≠U∧S≠U∧T≠U) (hg:∀ x∈bs,x.Gd 2) (h:StA c s f cl S T t0 [U,B,f] σ m ss) (hB:σ B=some (.list (bs.map Sp.v))) (hU:σ U=some (.list [t0.v]))
 (q:∀ τ w5 w8,StA c s f cl S T t0 [U,B,f] τ m ss→τ B=some (.list (bs.map Sp.v))→τ U=some (.list (Tm.vs (t0::(wR t0 bs).1)))→SQ .next (lawR sc f r s t0 S T v1 v2 (some (.raw (.ref B))) v4 w5 (some (.raw (.ref U))) (some (stV (wR t0 bs).2)) w8 v9 v10) τ) :
 StG c ⟨n+199,true⟩ (callEnvC lawFd L 423) (lawR sc f r s t0 S T v1 v2 (some (.raw (.ref B))) v4 v5 (some (.raw (.ref U))) (some .none) v8 v9 v10) (lapSt 3) σ SQ SX:=by
 have ht0:=h.tg t0 (.head _)
 refine S_forV 60 H rfl rfl (fun _=>rfl) ?_
 refine IG_callV 60 (by assumption) rfl rfl rfl ?_
 apply lf;(with_reducible refine' B_len_list ?a128 ?s129 ?z130);(case s129=>(refine Or.inl ?_;assumption));(case z130=>(simp;exact nle (by assumption) (by rfl)));apply lf;refine⟨Kee.type,?_⟩
 rw[List.length_map]
 refine CI_range (by exact nle (by assumption) (by rfl)) ?_
 refine⟨⟨_,_,rfl⟩,dueI c s f cl S T t0 sc r B U ss bs m v1 v2 v4 v9 v10,⟨[],bs,_,_,_,rfl,rfl,rfl,rfl,h,hB,hU⟩,?_,?_⟩
 · intro v l ρ1 τ zu122
   obtain ⟨done,rest,sv,w5,w8,e1,e2,hsv,rfl,h,hB,hU⟩:=zu122
   cases rest with
   | nil=>cases e2
   | cons x rest=>
   rw[List.length_cons,upFrom_cons] at e2
   simp only[List.cons.injEq] at e2
   obtain ⟨rfl,rfl⟩:=e2
   have hlen:=congrArg List.length e1
   simp only[List.length_append,List.length_cons] at hlen
   have e1':bs=(done++[x])++rest:=by rw[e1];simp
   have el:upFrom (((done.length:Nat):Int)+1) rest.length=upFrom (((done++[x]).length:Nat):Int) rest.length:=by
    rw[List.length_append,List.length_singleton];rfl
   have hxg:=hg x (by rw[e1];simp)
   refine⟨trivial,?_⟩
   apply lf
   cases hst:(wR t0 done).2 with
   | some j=>
    have:sv=.int (j:Nat):=by rw[hsv,hst];rfl
    subst this
    have ew:wR t0 (done++[x])=wR t0 done:=walkR_stop hst
    refine O_isNi ?_
    refine Br.ff ?_;apply lf;(with_reducible refine O_isN ?_);refine Br.tt ?_;apply lf
    refine O_isNi ?_
    refine Br.ff ?_;apply lf
    exact⟨done++[x],rest,_,_,_,e1',el,by rw[ew,hst];rfl,rfl,h,hB,by rw[ew];exact hU⟩
   | none=>
    have:sv=.none:=by rw[hsv,hst];rfl
    subst this
    refine el76 (ends t0 (wR t0 done).1) ?_;intro pre last he
    have htl:Tm.vs (t0::(wR t0 done).1)=Tm.vs pre++[last.v]:=by rw[he,vs_append];rfl
    have hlast:=walkR_sz H (m:=2) (ss:=done) (k:=0) ht0.1 (fun y hy=>hg y (by rw[e1];simp [hy])) last (by show last∈t0::(wR t0 done).1;rw[he];simp)
    have hsn:=walkR_snoc (s:=x) he hst
    have hz:(Tm.vs (t0::(wR t0 done).1)).length≤100:=by rw[Tm.vs_length,List.length_cons];have:(wR t0 done).1.length≤done.length:=walkR_len done t0 0;lia
    (with_reducible refine O_isN ?_);refine Br.tt ?_;apply lf
    refine I_listLast (l:=Tm.vs pre) (v:=last.v) (.inl (by rw[← htl];exact hU)) ?_
    apply lf
    refine I_list (v:=x.v) ?_ hB (by rw[e1];simp) ⟨by lia,by lia⟩
    apply lf
    refine (C_done (n:=n+119) H hP (hxg.ok (by decide)) (by lia) ?_).call
    cases hd:doneT ruleF toldT last x with
    | none=>
     have ew:wR t0 (done++[x])=((wR t0 done).1,some (0+done.length)):=hsn.1 hd
     simp only[Tm.ov]
     apply lf;(with_reducible refine O_isN ?_);refine Br.tt ?_;apply lf;(with_reducible refine O_isN ?_);refine Br.tt ?_;apply lf
     exact⟨done++[x],rest,_,_,_,e1',el,by rw[ew];simp only[stV,Nat.zero_add],rfl,h,hB,by rw[ew];exact hU⟩
    | some u=>
     have ew:wR t0 (done++[x])=((wR t0 done).1++[u],none):=hsn.2 u hd
     simp only[Tm.ov]
     apply lf
     refine O_isNTm ?_
     refine Br.ff ?_;apply lf;(with_reducible refine' exM_append ?s131 ?a132);(case s131=>assumption);apply lf;(with_reducible refine' B_append ?s133 ?a134 ?z135);(case s133=>assumption);(case z135=>exact nle (by assumption) (by rfl));apply lf
     refine⟨done++[x],rest,_,_,_,e1',el,by rw[ew];rfl,rfl,h.at (.head _) hneU.1 hneU.2.1 hneU.2.2.1 hneU.2.2.2,by rw[upd_ne _ _ hUB.symm];exact hB,?_⟩
     rw[upd_same,ew,← List.cons_append,vs_append];rfl
 · intro ρ1 τ zu123
   obtain ⟨done,rest,sv,w5,w8,e1,e2,hsv,rfl,h,hB,hU⟩:=zu123
   have:rest=[]:=by
    cases rest with
    | nil=>rfl
    | cons a r=>cases e2
   subst this
   rw[List.append_nil] at e1;subst e1;subst hsv
   exact⟨trivial,q τ w5 w8 h hB hU⟩
end
end Mine
namespace Mine
variable [Membership Addr Zip0]
mutual
theorem eqP_refl:∀ v:V,tree v=true→PyData.eqv (toP v) (toP v)=true
 | .none,_=>rfl
 | .bool b,_=>by simp [jR1,jR2,jR3,jR4,jR5,jR6,PyData.eqv]
 | .int i,_=>by simp [jR1,jR2,jR3,jR4,jR5,jR6,PyData.eqv]
 | .str s,_=>by simp [jR1,jR2,jR3,jR4,jR5,jR6,PyData.eqv]
 | .tup l,h=>by simp only[jU1,jU2,jU3,jU4,jU5,jU6] at h;simp only[jR1,jR2,jR3,jR4,jR5,jR6,PyData.eqv];exact eqPs_refl l h
 | .raw v,h=>by simp [jU1,jU2,jU3,jU4,jU5,jU6] at h
theorem eqPs_refl:∀ l:List V,trees l=true→PyData.eqvAll (toPs l) (toPs l)=true
 | [],_=>rfl
 | v::l,h=>by
  simp only[jV1,jV2,Bool.and_eq_true] at h
  simp only[jS1,jS2,PyData.eqvAll,eqP_refl v h.1,eqPs_refl l h.2,Bool.and_self]
end
theorem depth_tml {B:Nat}:∀ {l:List Tm},(∀ t∈l,t.sz≤B)→PyData.depthAll (toPs (Tm.vs l))≤B
 | [],_=>Nat.zero_le _
 | t::ts,h=>by
  simp only[js1,js2,jS1,jS2,PyData.depthAll]
  have h1:=depth_tm t
  have h2:=ht_sz t
  have h3:=h t (.head _)
  exact Nat.max_le.mpr ⟨by lia,depth_tml fun u hu=>h u (.tail _ hu)⟩
section
variable {c:Cx}{P:Params}{N:Lv}{n:Nat}{hn:Bool}{σ:Sig}{X:PX}{Q:PV}
theorem O_neTms {a b:Addr}{l:List Tm}(ea:σ a=some (.list (Tm.vs l)))(eb:σ b=some (.list (Tm.vs l)))(hz:∀ t∈l,t.sz≤1000)(hN:100≤N.n)(q:Q (.bool false) σ):Op2 c N σ (.raw (.ref a)) (.raw (.ref b)) (compareOp .NotEq) Q X:=
 O_neL (by rw[show eqL (Tm.vs l) (Tm.vs l)=true from eqPs_refl _ (trees_tm l)];exact q) ea eb (trees_tm l) (trees_tm l) (by have:=depth_tml hz;rw[Nat.min_self];lia)
theorem O_eqTms {a b:Addr}{l:List Tm}(ea:σ a=some (.list (Tm.vs l)))(eb:σ b=some (.list (Tm.vs l)))(hz:∀ t∈l,t.sz≤1000)(hN:100≤N.n)(q:Q (.bool true) σ):Op2 c N σ (.raw (.ref a)) (.raw (.ref b)) (compareOp .Eq) Q X:=
 O_eqL (by rw[show eqL (Tm.vs l) (Tm.vs l)=true from eqPs_refl _ (trees_tm l)];exact q) ea eb (trees_tm l) (trees_tm l) (by have:=depth_tml hz;rw[Nat.min_self];lia)
theorem O_neSS {x:Str}(q:Q (.bool false) σ):Op2 c N σ (.str x) (.str x) (compareOp .NotEq) Q X:=O_neS (by rw[decide_eq_true (rfl:x=x)];exact q)
theorem O_notI {i:Int}(q:Q (.bool true) σ):Op2 c N σ (.int i) .none (compareOp .IsNot) Q X:=O_isNotNone q (fun v h=>by cases h)
inductive lapI (c:Cx) (s f cl S T:Addr) (t0:Tm) (sc r:Addr) (ss:List Sp) (m:Nat) (v2:Option V) (l:List V) (ρ1:Rho) (τ:Sig):Prop
 | mk (x:Int) (j m':Nat) (w1 w3 w4 w5 w6 w7 w8 w9 w10:Option V) (h1:l=upFrom x j) (h2:m'+7*j≤m+14) (h3:ρ1=lawR sc f r s t0 S T w1 v2 w3 w4 w5 w6 w7 w8 w9 w10) (h4:StA c s f cl S T t0 [f] τ m' ss):lapI c s f cl S T t0 sc r ss m v2 l ρ1 τ
theorem L_lap (H:Gs c (KK P) gtab)(hP:P=c.w.params){L sc f cl r s S T:Addr}{t0:Tm}{m:Nat}{ss:List Sp}{v1 v2 v3 v4 v5 v6 v7 v8 v9 v10:Option V}{SQ:PF}{SX:PE}
 (hm:m≤50) (hl5:ss.length≤5) (h:StA c s f cl S T t0 [f] σ m ss)
 (q:∀ τ m' w1 w3 w4 w5 w6 w7 w8 w9 w10,StA c s f cl S T t0 [f] τ m' ss→SQ .next (lawR sc f r s t0 S T w1 v2 w3 w4 w5 w6 w7 w8 w9 w10) τ) :
 StG c ⟨n+199,true⟩ (callEnvC lawFd L 423) (lawR sc f r s t0 S T v1 v2 v3 v4 v5 v6 v7 v8 v9 v10) (lawSt 7) σ SQ SX:=by
 refine S_forV 60 H rfl rfl (fun _=>rfl) ?_
 refine IG_callV 60 (by assumption) rfl rfl rfl ?_
 apply lf;refine⟨Kee.type,?_⟩
 refine CI_range (n:=2) (by exact Nat.le_of_ble_eq_true rfl) ?_
 refine⟨⟨_,_,rfl⟩,lapI c s f cl S T t0 sc r ss m v2,⟨0,2,m,_,_,_,_,_,_,_,_,_,rfl,Nat.le_refl _,rfl,h⟩,?_,?_⟩
 · intro v l ρ1 τ zu124
   obtain ⟨x,j,m',w1,w3,w4,w5,w6,w7,w8,w9,w10,e,hm',rfl,h⟩:=zu124
   cases j with
   | zero=>simp [jW1,jW2] at e
   | succ j=>
   rw[upFrom_cons] at e
   simp only[List.cons.injEq] at e
   obtain ⟨rfl,rfl⟩:=e
   have hS:=h.hS
   have hz:(ss.map Sp.v).length≤5:=by rw[List.length_map];exact hl5
   refine⟨trivial,?_⟩
   apply lf;(with_reducible refine' B_list_list ?a136 ?s137 ?z138);(case s137=>(refine Or.inl ?_;assumption));(case z138=>exact nle (by assumption) (by rfl))
   intro B hB
   obtain ⟨h1,nB⟩:=h.new (mo:=.list (ss.map Sp.v)) hB
   apply lf
   refine L_bend H hP (m:=m') (by lia) hl5 nB h1 (upd_same _ _ _) fun bs τ2 m2 y4 y5 h2 hB2 hlen hgd hm2=>?_
   apply lf;(with_reducible refine S_swapV 40 (by assumption) ?_ ?_ ?_ ?_ ?_);rfl;rfl;rfl;rfl;apply lf
   intro U hU
   obtain ⟨h3,nU⟩:=h2.new (mo:=.list [t0.v]) hU
   have hUB:U≠B:=ne_of hU hB2
   apply lf
   refine L_due (bs:=bs) H hP (by lia) hUB nU hgd h3 (upd_keep hU hB2) (upd_same _ _ _) fun τ3 z5 z8 h4 hB4 hU4=>?_
   have hgs:∀ u∈t0::(wR t0 bs).1,u.sz≤1000:=fun u hu=>by
    have h5:=h4.tg t0 (.head _)
    have:=(walkR_sz H (m:=2) (ss:=bs) (k:=0) h5.1 hgd u hu).2;lia
   have hok:∀ x∈bs,x.Ok:=fun x hx=>(hgd x hx).ok (by decide)
   have fin:∀ {τ':Sig}{x':Int}{y1 y3 y4 y5 y6 y7 y8 y9 y10:Option V},Sub τ3 τ'→lapI c s f cl S T t0 sc r ss m v2 (upFrom x' j) (lawR sc f r s t0 S T y1 v2 y3 y4 y5 y6 y7 y8 y9 y10) τ':=fun {τ' x' y1 y3 y4 y5 y6 y7 y8 y9 y10} sb=>⟨x',j,m2,y1,y3,y4,y5,y6,y7,y8,y9,y10,rfl,by lia,rfl,(h4.sub sb).less fun a ha=>by rw[List.mem_singleton.mp ha];exact .tail _ (.tail _ (.head _))⟩
   apply lf
   refine B_reprS hB4 hgd (by decide) (by lia) (show 10≤n+199 by exact Nat.le_of_ble_eq_true rfl) ?_
   apply lf
   have md:=h4.md.made
   have md':=md
   obtain ⟨ds,dj,jd,rd,kd,l0,k1,k2,_⟩:=md'
   refine A_meth (f:=292) (C:=302) (fun mm hmm=>?_) ⟨ds,k1,k2⟩ rfl (by rw[H.hc];rfl) (by rw[H.hc];rfl) (by rw[H.hc];rfl) (by rw[H.hc];rfl) (by rw[H.hc];rfl) (by rw[H.hc];rfl) rfl
   apply lf
   have hBm:=upd_keep (m:=methO 292 s) hmm hB4
   refine (C_heard H (n:=n+198) (Kee.meth (upd_same _ _ _) (by rw[H.hc];rfl) rfl) fun Q' X' hq hx=>C_meth (upd_same _ _ _) (C_walk H (n:=n+77) (md.sub (Sub.upd hmm)) (ruleF_tr H) (.inl hBm) (by lia) hok hgs (fun hn D hD=>hq _ _ ?_) fun k hk ex a b=>hx _ _ ⟨.refl _,a,k,b,?_⟩)).call
   · have hsv:stV (wR t0 bs).2=.none:=by rw[hn];rfl
     have sb:Sub τ3 (upd (upd τ3 mm (methO 292 s)) D (.list (Tm.vs (t0::(wR t0 bs).1)))):=Sub.fresh (Sub.fresh (.refl _) hmm) hD
     rw[hsv]
     apply lf;(with_reducible refine O_isN ?_);refine Br.tt ?_;apply lf
     refine O_neTms (upd_same _ _ _) (sb _ _ hU4) hgs (show 100≤n+199 by exact Nat.le_of_ble_eq_true rfl) ?_
     refine Br.ff ?_;apply lf
     refine B_reprS (sb _ _ hB4) hgd (by decide) (by lia) (show 10≤n+199 by exact Nat.le_of_ble_eq_true rfl) ?_
     apply lf
     refine O_neSS ?_
     refine Br.ff ?_;refine Br.ff ?_;apply lf
     refine O_notN ?_
     refine Br.ff ?_;refine Br.ff ?_;apply lf
     exact fin sb
   · have hsv:stV (wR t0 bs).2=.int (k:Nat):=by rw[hk];rfl
     have sb:Sub τ3 (upd τ3 mm (methO 292 s)):=Sub.upd hmm
     rw[hsv]
     apply lf
     refine O_isNi ?_
     refine Br.ff ?_;apply lf;(with_reducible refine O_neII ?_);refine Br.ff ?_;apply lf
     refine B_reprS (sb _ _ hB4) hgd (by decide) (by lia) (show 10≤n+199 by exact Nat.le_of_ble_eq_true rfl) ?_
     apply lf
     refine O_neSS ?_
     refine Br.ff ?_;refine Br.ff ?_;apply lf
     refine O_notI ?_
     refine Br.tt ?_;apply lf
     refine A_meth (f:=299) (C:=302) (fun m2 hm2=>?_) ⟨ds,sb _ _ k1,sb _ _ k2⟩ rfl (by rw[H.hc];rfl) (by rw[H.hc];rfl) (by rw[H.hc];rfl) (by rw[H.hc];rfl) (by rw[H.hc];rfl) (by rw[H.hc];rfl) rfl
     apply lf
     have sb2:=Sub.fresh (m:=methO 299 s) sb hm2
     refine (C_heard H (n:=n+198) (Kee.meth (upd_same _ _ _) (by rw[H.hc];rfl) rfl) fun Q' X' hq hx=>C_meth (upd_same _ _ _) (C_paper_of H (n:=n+76) (md.sub sb2) (ruleF_tr H) (.inl (sb2 _ _ hB4)) (by lia) hok hgs hk fun ex a b=>hx _ _ ⟨.refl _,a,k,b,?_⟩)).call
     apply lf;(with_reducible refine O_neII ?_);refine Br.ff ?_;refine Br.ff ?_;apply lf
     exact fin sb2
 · intro ρ1 τ zu125
   obtain ⟨x,j,m',w1,w3,w4,w5,w6,w7,w8,w9,w10,e,hm',rfl,h⟩:=zu125
   exact⟨trivial,q τ m' w1 w3 w4 w5 w6 w7 w8 w9 w10 h⟩
end
end Mine
namespace Mine
variable [Membership Addr Zip0]
noncomputable def ruleItems:List (Str×RuleD):=[("swap",rSwap),("twin",rTwin),("turn",rTurn)]
noncomputable def RAcc (τ:Sig):List (Str×RuleD)→List (Str×V)→Prop
 | [],vs=>vs=[]
 | (n,r)::ds,vs=>∃ a rest,vs=(n,.raw (.ref a))::rest∧RuleO τ a r∧RAcc τ ds rest
theorem jc1 (τ:Sig):RAcc τ [] vs=(vs=[]):=rfl
theorem jc2 (τ:Sig):RAcc τ ((n,r)::ds) vs=(∃ a rest,vs=(n,.raw (.ref a))::rest∧RuleO τ a r∧RAcc τ ds rest):=rfl
theorem RAcc.sub {τ τ':Sig}(x:Sub τ τ'):∀ {ds:List (Str×RuleD)}{vs:List (Str×V)},RAcc τ ds vs→RAcc τ' ds vs
 | [],_,h=>h
 | (n,r)::ds,vs,⟨a,rest,h1,h3,h4⟩=>⟨a,rest,h1,h3.sub x,RAcc.sub x h4⟩
theorem RAcc.snoc {τ:Sig}{a:Addr}{n:Str}{r:RuleD}(hr:RuleO τ a r):∀ {ds:List (Str×RuleD)}{vs:List (Str×V)},RAcc τ ds vs→RAcc τ (ds++[(n,r)]) (vs++[(n,.raw (.ref a))])
 | [],vs,h=>by simp only[jc1,jc2] at h;subst h;exact⟨a,[],rfl,hr,rfl⟩
 | (n',r')::ds,vs,⟨b,rest,h1,h3,h4⟩=>by subst h1;exact⟨b,rest++_,rfl,h3,RAcc.snoc hr h4⟩
theorem RAcc.len {τ:Sig}:∀ {ds:List (Str×RuleD)}{vs:List (Str×V)},RAcc τ ds vs→vs.length=ds.length
 | [],vs,h=>by simp only[jc1,jc2] at h;subst h;rfl
 | (n',r')::ds,vs,⟨b,rest,h1,h3,h4⟩=>by subst h1;simp [RAcc.len h4]
theorem RuleO.dels {τ:Sig}{f a:Addr}{r:RuleD}{l:List (Str×V)}(hf:τ f=some (.dict l))(h:RuleO τ a r):RuleO (dels [f] τ) a r:=by
 obtain ⟨dx,nm,nd,e1,e2⟩:=h
 have h1:a≠f:=by rintro rfl;exact absurd (uq hf e1) (fun q=>by cases q)
 have h2:dx≠f:=by rintro rfl;exact absurd (uq hf e2) (fun q=>by cases q)
 exact⟨dx,nm,nd,dels_mk (by simpa using h1) e1,dels_mk (by simpa using h2) e2⟩
theorem RAcc.rules {τ:Sig}{f:Addr}{l:List (Str×V)}{vs:List (Str×V)}(hf:τ f=some (.dict l))(h:RAcc τ ruleItems vs):putAll [] vs=vs∧RulesO (dels [f] τ) vs ruleF:=by
 refine el10 h ?_;(try clear h);intro a1 _ ze313 r1 a2 _ ze314 r2 a3 _ ze315 r3 ze316;subst ze313;subst ze314;subst ze315;subst ze316
 refine⟨by kernel_rfl,fun name=>?_⟩
 by_cases h1:name="swap"
 · subst h1
   exact⟨a1,by kernel_rfl,r1.dels hf⟩
 by_cases h2:name="twin"
 · subst h2
   exact⟨a2,by kernel_rfl,r2.dels hf⟩
 by_cases h3:name="turn"
 · subst h3
   exact⟨a3,by kernel_rfl,r3.dels hf⟩
 have e:ruleF name=none:=by unfold ruleF;rw[if_neg h1,if_neg h2,if_neg h3]
 rw[e]
 simp only[jv1,jv2]
 rw[if_neg (Ne.symm h1),if_neg (Ne.symm h2),if_neg (Ne.symm h3)]
theorem RulesO.sub {σ σ':Sig}{l:List (Str×V)}{rule:Str→Option RuleD}(x:Sub σ σ')(h:RulesO σ l rule):RulesO σ' l rule:=fun name=>by
 have:=h name
 split at this
 · exact this
 · refine el75 this ?_;(try clear this);intro a e1 e2;exact⟨a,e1,e2.sub x⟩
theorem sub_mk {σ:Sig}{a dx:Addr}{m1 m2 m3:MO}(h1:σ a=none)(h2:σ dx=none):Sub σ (upd (upd (upd σ dx m1) a m2) dx m3):=fun b m e=>by
 have hb:b≠a:=fun q=>by rw[q,h1] at e;cases e
 have hd:b≠dx:=fun q=>by rw[q,h2] at e;cases e
 rw[upd_ne _ _ hd,upd_ne _ _ hb,upd_ne _ _ hd];exact e
theorem lslice_to {l:List V}{k:Nat}:lslice l none (some (k:Int)) none=l.take k:=by
 unfold lslice sliceBounds sliceRange
 simp only[Option.getD_none,show (1:Int)>0 from by decide,if_true]
 rw[if_neg (show ¬ ((k:Int)<0) by lia)]
 have e:max (0:Int) (min (k:Int) (l.length:Int))=((min k l.length:Nat):Int):=by lia
 rw[e,List.filterMap_map]
 have e2:(if (0:Int)<((min k l.length:Nat):Int) then (((min k l.length:Nat):Int)-0+1-1) / 1 else 0).toNat=min k l.length:=by
  split
  · rw[Int.ediv_one];lia
  · lia
 rw[e2]
 have e3:((fun (x:Nat)=>l[x]?) ∘ fun (i:Nat)=>((0:Int)+1*(i:Int)).toNat)=fun (x:Nat)=>l[x]?:=by
  funext i;simp
 rw[e3,range_take]
 exact List.take_eq_take_min.symm
noncomputable def cellI (i:Int):Int:=(if i<0 then -i else i).fmod 1000003
theorem okK_td:∀ p∈tdV rowsT,okS p.1:=okK_of (by decide +kernel)
theorem items_mk {p:Str×RuleD}(h:p∈ruleItems):ruleF p.1=some p.2:=by
 simp only[ruleItems,List.mem_cons,List.not_mem_nil,or_false] at h
 rcases h with rfl | rfl | rfl <;> kernel_rfl
section
variable {c:Cx}{P:Params}{N:Lv}{n:Nat}{hn:Bool}{σ:Sig}{X:PX}{Q:PV}
theorem C_law (H:Gs c (KK P) gtab)(hP:P=c.w.params){sc:Addr}{cells:List Int}(hs:LR c σ sc (cells.map .int))(hl:cells.length≤63):CodeOp c ⟨n+200,true⟩ σ (.ref 423) [.raw (.ref sc)] (fun v _=>v=.bool true) X:=by
 refine K_fnV 60 H (f:=423) (fd:=lawFd) (params:=["script"]) (locs:=["bag","rules","keeper","term","steps","terms","lap","able","bent","turn","k","due","stop","late","before","told"]) (ρ1:=[("script",some (.raw (.ref sc))),("bag",none),("rules",none),("keeper",none),("term",none),("steps",none),("terms",none),("lap",none),("able",none),("bent",none),("turn",none),("k",none),("due",none),("stop",none),("late",none),("before",none),("told",none)]) rfl rfl rfl rfl rfl rfl rfl rfl rfl (len1 fun _=>rfl) rfl (by decide) rfl rfl ?_
 intro L
 apply lf
 refine G_lcI (cl:=[]) (ρc:=[("cell",none)]) rfl (by (refine CompX.of ?k1 ?k2 ?k3 ?k4 ?k5 ?k6 ?k7 ?k8 ?k9;(case k1=>rfl);(case k2=>rfl);(case k3=>rfl);(case k4=>rfl);(case k5=>repeat (first | with_reducible exact all_nil | ((with_reducible refine all_cons ?_ ?_);rfl)));(case k6=>simp);(case k7=>exact of_decide_eq_true rfl);(case k8=>repeat (first | with_reducible exact all_nil | ((with_reducible refine all_cons ?_ ?_);first | exact KeyP.loc rfl | (refine KeyP.cap ?_ rfl rfl rfl rfl;repeat (first | exact List.mem_cons_self | refine List.mem_cons_of_mem _ ?_)))));(case k9=>repeat (first | exact all_nil | (refine all_cons ?_ ?_;rfl))))) (fun _=>rfl) ?_
 refine IG_plainV 60 (by assumption) rfl ?_
 apply lf
 refine Sl_list (fun D1 hD1=>?_) hs (by simp) (by simp;exact nle (by assumption) (by rfl))
 rw[show (63:Int)=((63:Nat):Int) from rfl,lslice_to,← List.map_take]
 apply lf
 refine IO_list (.inl (upd_same _ _ _)) ?_
 have hlt:(cells.take 63).length≤63:=by simp;lia
 refine comp_map (cells.take 63) .int (fun i=>.int (cellI i)) (fun _=>true) trivial (.inl (upd_same _ _ _)) rfl (by exact nll (by assumption) (by rfl)) ?_ ?_
 · intro C i hi
   (with_reducible refine' exTakes ?p139 ?a140);(case p139=>with_reducible (repeat (first | exact Put.here | apply Put.there | exact TakesL.nil | apply Takes.name | apply Takes.tup | apply TakesL.cons)));(with_reducible refine CompT_nil ?_)
   refine⟨rfl,?_⟩
   refine Vc.e 60 (by assumption) rfl ?_
   apply lf
   refine B_abs ?_
   apply lf;(with_reducible refine O_mod ?a141 ?b142);(case b142=>decide)
   exact⟨rfl,.refl _⟩
 intro cl hcl
 apply lf
 refine⟨of_decide_eq_true rfl,fun f hf=>?_⟩
 apply lf
 generalize hτ:(upd (upd (upd σ D1 _) cl _) f _)=τ
 have F0:FeedOk τ f cl 0:=⟨(cells.take 63).map cellI,0,by rw[← hτ];exact upd_same _ _ _,by rw[← hτ];refine (upd_keep hf (upd_same _ _ _)).trans ?_;rw[filt_true,List.map_map];rfl,Nat.le_refl _,by rw[List.length_map];exact hlt⟩
 clear hτ
 refine G_lcI (cl:=[]) (ρc:=[("name",none)]) rfl (by (refine CompX.of ?k1 ?k2 ?k3 ?k4 ?k5 ?k6 ?k7 ?k8 ?k9;(case k1=>rfl);(case k2=>rfl);(case k3=>rfl);(case k4=>rfl);(case k5=>repeat (first | with_reducible exact all_nil | ((with_reducible refine all_cons ?_ ?_);rfl)));(case k6=>simp);(case k7=>exact of_decide_eq_true rfl);(case k8=>repeat (first | with_reducible exact all_nil | ((with_reducible refine all_cons ?_ ?_);first | exact KeyP.loc rfl | (refine KeyP.cap ?_ rfl rfl rfl rfl;repeat (first | exact List.mem_cons_self | refine List.mem_cons_of_mem _ ?_)))));(case k9=>repeat (first | exact all_nil | (refine all_cons ?_ ?_;rfl))))) (fun _=>rfl) ?_
 refine IG_dictV 60 H rfl ?_
 apply lf
 refine (C_rows H fun D2 hD2=>?_).call
 apply lf
 refine⟨D2,_,rfl,upd_same _ _ _,okK_td,fun o=>?_⟩
 rw[upd_upd]
 generalize hτ4:upd τ D2 _=τ4
 have s4:Sub τ τ4:=by rw[← hτ4];exact Sub.upd hD2
 have k4:τ4 D2=some (.obj o):=by rw[← hτ4];exact upd_same _ _ _
 clear hτ4
 refine⟨trivial,fun l acc τ'=>∃ (done rest:List (Str×RuleD)) (racc:List (Str×V)),ruleItems=done++rest∧l=rest.map (fun p=>V.str p.1)∧acc=pv racc∧RAcc τ' done racc∧Sub τ4 τ',⟨[],ruleItems,[],rfl,rfl,rfl,rfl,.refl _⟩,?_,?_⟩
 · intro C v l acc τ' zu126
   refine el36 zu126 ?_;(try clear zu126);intro done rest racc e1 e2 ze317 hr hs;subst ze317
   cases rest with
   | nil=>simp at e2
   | cons p rest=>
   obtain ⟨nm,r⟩:=p
   simp only[List.map_cons,List.cons.injEq] at e2
   obtain ⟨rfl,rfl⟩:=e2
   have hrf:=items_mk (p:=(nm,r)) (by rw[e1];simp)
   obtain ⟨r',w,ra⟩:∃ r w,RuleAt c nm r w:=by
    rcases rule_cases H nm with ⟨h,_⟩ | h
    · exact (nosn hrf h).elim
    · exact h
   have:r'=r:=by have:=ra.f;rw[hrf] at this;exact (Option.some.inj this).symm
   subst this
   have hn4:done.length≤3:=by have:=congrArg List.length e1;simp [ruleItems] at this;lia
   refine⟨hs _ _ k4,by have:=hr.len;simp only[pv,List.length_map];lia,?_⟩
   (with_reducible refine' exTakes ?p143 ?a144);(case p143=>with_reducible (repeat (first | exact Put.here | apply Put.there | exact TakesL.nil | apply Takes.name | apply Takes.tup | apply TakesL.cons)));(with_reducible refine CompT_nil ?_)
   refine Vc.e 60 (by assumption) rfl ?_
   apply lf
   refine (C_rows H fun D3 hD3=>?_).call
   apply lf
   refine I_dict (v:=.tup [r'.L.v,r'.R.v]) ?_ (.inl (upd_same _ _ _)) (by rw[assoc_td,ra.g];rfl)
   apply lf;(with_reducible refine I_t0 ?_);apply lf
   refine (C_rows H fun D4 hD4=>?_).call
   apply lf
   refine I_dict (v:=.tup [r'.L.v,r'.R.v]) ?_ (.inl (upd_same _ _ _)) (by rw[assoc_td,ra.g];rfl)
   apply lf;(with_reducible refine I_t1 ?_);apply lf
   refine (C_rule H (n:=n+128) ra.rmk fun a τ2 h1 h2 h3=>?_).call
   have sb:Sub τ' τ2:=(Sub.fresh (Sub.fresh (.refl _) hD3) hD4).trans h2
   exact⟨done++[(nm,r')],rest,racc++[(nm,.raw (.ref a))],by rw[e1];simp,rfl,by simp [pv],(hr.sub sb).snoc h3,hs.trans sb⟩
 intro acc τ' zu127
 refine el36 zu127 ?_;(try clear zu127);intro done rest racc e1 e2 ze318 hr hs;subst ze318
 have hrest:rest=[]:=by
  cases rest with
  | nil=>rfl
  | cons a r=>simp at e2
 subst hrest
 rw[List.append_nil] at e1
 subst e1
 refine⟨hs _ _ k4,fun D5 hD5=>?_⟩
 have F1:=F0.sub (s4.trans hs)
 obtain ⟨fl,hfd⟩:=F1.dict
 obtain ⟨ep,hR⟩:=hr.rules hfd
 apply lf
 refine B_dict_pairs rfl (upd_same _ _ _) (fun D6 hD6=>?_) (by have:=hr.len;simp [ruleItems] at this;lia)
 rw[ep]
 generalize h8:(upd (upd τ' D5 _) D6 _)=σ8
 have s8:Sub τ' σ8:=by rw[← h8];exact Sub.fresh (Sub.fresh (.refl _) hD5) hD6
 have r8:σ8 D6=some (.dict racc):=by rw[← h8];exact upd_same _ _ _
 have n6:D6≠f:=ne_of hD6 (upd_keep hD5 hfd)
 clear h8
 apply lf
 refine (C_judge H (n:=n+197) fun j dj hj hdj hjd=>?_).call
 generalize hJ:(upd (upd (upd σ8 dj _) j _) dj _)=σJ
 have sJ:Sub σ8 σJ:=by rw[← hJ];exact sub_mk hj hdj
 have jJ:σJ j=some (.inst 241 dj):=by rw[← hJ];exact upd_keepN hjd (upd_same _ _ _)
 have dJ:σJ dj=some (.ns [("rules",.raw (.ref D6)),("told",.raw (.ref 333))]):=by rw[← hJ];exact upd_same _ _ _
 clear hJ
 apply lf
 refine (C_steps H (n:=n+197) fun s ds hsn hds hsd=>?_).call
 generalize hS:(upd (upd (upd σJ ds _) s _) ds _)=σS
 have sS:Sub σJ σS:=by rw[← hS];exact sub_mk hsn hds
 have jS:σS s=some (.inst 302 ds):=by rw[← hS];exact upd_keepN hsd (upd_same _ _ _)
 have dS:σS ds=some (.ns [("judge",.raw (.ref j))]):=by rw[← hS];exact upd_same _ _ _
 clear hS
 have stS:Sub τ' σS:=s8.trans (sJ.trans sS)
 have FS:=F1.sub stS
 have hfS:=stS _ _ hfd
 have kne:∀ {a:Addr}{m:MO},σS a=some m→(∀ l,m≠.dict l)→dels [f] σS a=some m:=fun {a m} e hm=>dels_mk (by
  rw[List.mem_singleton];rintro rfl;obtain rfl:=uq hfS e;exact hm _ rfl) e
 have MS:MadeL c [f] σS s:=by
  refine⟨ds,j,dj,D6,333,racc,kne jS (fun l h=>by cases h),kne dS (fun l h=>by cases h),kne (sS _ _ jJ) (fun l h=>by cases h),kne (sS _ _ dJ) (fun l h=>by cases h),dels_mk (by rw[List.mem_singleton];exact n6) (sS _ _ (sJ _ _ r8)),RulesO.sub ?_ hR,told_at H hP⟩
  exact fun a m e=>el78 (dels_some e) fun h1 h2=>dels_mk h1 (stS _ _ h2)
 apply lf;(with_reducible refine S_swapV 40 (by assumption) ?_ ?_ ?_ ?_ ?_);rfl;rfl;rfl;rfl;apply lf
 refine (C_grown H 2 (n+195) 0 σS _ _ FS (by decide) fun t0 σg hg0 hz0 Fg Kg=>?_).call
 apply lf
 intro S hS
 apply lf
 intro T hT
 have Mg:=MS.kp (.kp Kg (.head _))
 obtain ⟨_,ecl⟩:=Fg.cells
 have h0:StA c s f cl S T t0 [f,S,T] (upd (upd σg S (.list [])) T (.list [t0.v])) 7 []:=by
  refine⟨((((Mg.add hS).kp (.upd (.head _))).add hT).kp (.upd (.head _))).less (fun a ha=>by simp only[List.mem_cons,List.not_mem_nil,or_false] at ha;rcases ha with rfl | rfl | rfl <;> simp),(Fg.sub ((Sub.upd hS).trans (Sub.upd hT))).le (by decide),upd_keep hT (upd_same _ _ _),upd_same _ _ _,rfl,fun x h=>(by cases h),fun t ht=>?_,(ne_of hT (upd_same _ _ _)).symm,(ne_of hS ecl).symm,(ne_of hT (upd_keep hS ecl)).symm⟩
  have:t=t0:=by simpa [wR,jZ1,jZ2] using ht
  subst this
  exact⟨hg0,by have:t.sz+1≤8:=hz0;exact nlh (by assumption) (by rfl)⟩
 clear hR MS kne stS
 apply lf
 refine L_grow H hP h0 (by exact Nat.le_of_ble_eq_true rfl) fun ss τ1 m1 w1 w2 h1 hl1 hm1=>?_
 have hS1:=h1.hS
 have hsz:(ss.map Sp.v).length≤5:=by rw[List.length_map];exact hl1
 apply lf
 have md:=h1.md.made
 have md':=md
 obtain ⟨ds',dj',jd',rd',kd',l0',k1,k2,_⟩:=md'
 refine⟨_,M_own (f:=292) ⟨ds',k1,k2⟩ rfl (by rw[H.hc];rfl) (by rw[H.hc];rfl) (by rw[H.hc];rfl),?_⟩
 apply lf;(with_reducible refine' B_list_list ?a145 ?s146 ?z147);(case s146=>(refine Or.inl ?_;assumption));(case z147=>exact nle (by assumption) (by rfl))
 intro D7 hD7
 have hgs:∀ u∈t0::(wR t0 ss).1,u.sz≤1000:=fun u hu=>by have:=(h1.tg u hu).2;exact nle (by assumption) (by rfl)
 apply lf
 refine (C_walk H (n:=n+78) (md.sub (Sub.upd hD7)) (ruleF_tr H) (.inl (upd_same _ _ _)) (by exact nle (by assumption) (by rfl)) (fun x hx=>(h1.gd x hx).ok (by decide)) hgs (fun hn D8 hD8=>?_) fun k hk ex a b=>?_).call
 rotate_left
 · have hw:=h1.wn
   rw[show (walkR ruleF toldT t0 ss 0).2=none from hw] at hk;cases hk
 have sb:Sub τ1 (upd (upd τ1 D7 (.list (ss.map Sp.v))) D8 (.list (Tm.vs (t0::(wR t0 ss).1)))):=Sub.fresh (Sub.fresh (.refl _) hD7) hD8
 apply lf
 refine O_neTms (upd_same _ _ _) (sb _ _ h1.hT) hgs (show 100≤n+199 by exact Nat.le_of_ble_eq_true rfl) ?_
 refine Br.ff ?_;apply lf
 refine L_lap H hP (m:=m1) (by exact nle (by assumption) (by rfl)) hl1 ((h1.sub sb).less fun a ha=>by rw[List.mem_singleton.mp ha];exact .head _) fun τ2 m2 y1 y3 y4 y5 y6 y7 y8 y9 y10 h2=>?_
 apply lf
 have me:=h2.md.made
 have me':=me
 obtain ⟨ds2,dj2,jd2,rd2,kd2,l02,q1,q2,_⟩:=me'
 refine⟨_,M_own (f:=292) ⟨ds2,q1,q2⟩ rfl (by rw[H.hc];rfl) (by rw[H.hc];rfl) (by rw[H.hc];rfl),?_⟩
 apply lf
 intro D9 hD9
 have hg1:∀ u∈t0::(wR t0 []).1,u.sz≤1000:=fun u hu=>by
  have:u=t0:=by simpa [wR,jZ1,jZ2] using hu
  have:=(h2.tg t0 (.head _)).2
  subst u;exact nle (by assumption) (by rfl)
 apply lf
 refine (C_walk H (n:=n+78) (ss:=[]) (me.sub (Sub.upd hD9)) (ruleF_tr H) (.inl (upd_same _ _ _)) (by decide) (fun x hx=>by cases hx) hg1 (fun hn D10 hD10=>?_) fun k hk ex a b=>?_).call
 rotate_left
 · cases hk
 apply lf
 intro D11 hD11
 apply lf
 refine O_eqTms (l:=[t0]) (upd_keep hD11 (upd_same _ _ _)) (upd_same _ _ _) hg1 (show 100≤n+199 by exact Nat.le_of_ble_eq_true rfl) ?_
 apply lf
 exact⟨_,.refl _,rfl⟩
end
end Mine
namespace Mine
variable [Membership Addr Zip0]
theorem mg_at {P:Params}{h:Heap}{mg:Str→Option Value}(X:(KK P).In h)(g:h.Ns mainGlobals mg):∀ {x v},(x,v)∈gtab→mg x=v:=by
 have key:=ns_of X (a:=mainGlobals) rfl g
 have all:∀ p∈gtab,mg p.1=p.2:=by
  (repeat (refine all_cons ((key _).trans (by rfl)) ?_))
  exact all_nil
 intro x v hx
 exact all (x,v) hx
omit [Membership Addr Zip0] in
theorem law_run {prog:Program}{w:World}{mg mb:Str→Option Value}{s:Shared}{sc:Addr}{xs:List Value}{ns:List Int}{R:RP}(KX:(KK w.params).In s.heap)(g:s.heap.Ns mainGlobals mg)(b:s.heap.Ns builtinsNs mb)
 (blt:∀ x:Str,x≠"__name__"→mb x=bootBuiltins x) (nol:s.heap.NoLimit) (hfile:((prog.main.file:Str)==("/claim/cut.py" : Str))=true) (htop:(prog.main.scope.names.lookup ("super" : Str)).isSome=false)
 (hL:s.heap.IsList sc xs.toArray) (hI:IntsAre xs ns) (hn:ns.length≤63) (h:∀ h' tk,(∀ a o,s.heap.get? a=some o→h'.get? a=some o)→R (.ok (.ret (.bool true))) (at_ s h' tk)) :
 codeAny (model prog w) callerA (.call (.ref 423) ⟨[.ref sc],[]⟩) R s:=by
 let z:Membership Addr Zip0:=⟨fun _ _=>False⟩
 let c:Cx:=⟨prog,w,s.heap,KK w.params,mg,mb,KX,g,b,blt,nol,fun a=>Nat.beq a 60⟩
 have z0:∀ a,¬ Fz a:=fun a q=>q
 have H:Gs c (KK w.params) gtab:=⟨rfl,mg_at KX g,hfile,htop,fun a q=>absurd q (z0 a),fun _=>rfl⟩
 have k:=C_law (c:=c) (P:=w.params) (n:=0) (σ:=noSig) (X:=fun _ _=>False) (sc:=sc) (cells:=ns) H rfl (.inr ⟨_,hL,by simpa using ints_vrs hI⟩) hn
 refine k callerA s R [.ref sc] (AOk.start (c:=c) (by decide)) (Rel.start (c:=c) z0) ⟨_,_,rfl,rfl,rfl⟩ (fun v a σ' h' tk' q r R' _ _=>?_) (fun e ex σ' h' tk' q=>q.elim)
 subst q
 simp only[jt1,jt2,jt3,jt4,jt5,jt6] at r
 subst r
 exact h h' tk' R'.static
end Mine
set_option Elab.async true
namespace Mine.kb
theorem tw7934746084307856046:True:=⟨⟩
theorem tw11579272299566851084:True:=⟨⟩
theorem tw16437988471938787214:True:=⟨⟩
theorem tw658728221281458112:True:=⟨⟩
theorem tw5434657368845240331:True:=⟨⟩
theorem tw18259931658084710374:True:=⟨⟩
theorem tw4954690913143438737:True:=⟨⟩
theorem tw7554342919840345889:True:=⟨⟩
theorem tw8808353271899788041:True:=⟨⟩
theorem tw14511063232824069798:True:=⟨⟩
theorem tw11823244150441420741:True:=⟨⟩
theorem tw11422502314398687237:True:=⟨⟩
theorem tw9752091031006929435:True:=⟨⟩
theorem tw11516011752366053432:True:=⟨⟩
theorem tw312934989594898859:True:=⟨⟩
theorem tw1335549508189337491:True:=⟨⟩
theorem tw7633887611155059438:True:=⟨⟩
theorem tw14859244789995320029:True:=⟨⟩
theorem tw15033838417695515312:True:=⟨⟩
theorem tw15935745839702625817:True:=⟨⟩
theorem tw15858879462308549356:True:=⟨⟩
theorem tw3942163031702818507:True:=⟨⟩
theorem tw2280601034280232546:True:=⟨⟩
theorem tw12923786914246623724:True:=⟨⟩
theorem tw13278202707567255912:True:=⟨⟩
theorem tw12464832620271185877:True:=⟨⟩
theorem tw10955533282500899865:True:=⟨⟩
theorem tw4027162730139419147:True:=⟨⟩
theorem tw5329574219099580108:True:=⟨⟩
theorem tw6334739584968184382:True:=⟨⟩
theorem tw7364961295739479378:True:=⟨⟩
theorem tw10071557297711876431:True:=⟨⟩
theorem tw2928775917618948077:True:=⟨⟩
theorem tw3280347257840546895:True:=⟨⟩
theorem tw7720084793881968481:True:=⟨⟩
theorem tw18055562933725364439:True:=⟨⟩
theorem tw3281719986735758579:True:=⟨⟩
theorem tw8150274925413853512:True:=⟨⟩
theorem tw13423136190318433781:True:=⟨⟩
theorem tw4355501415219078072:True:=⟨⟩
theorem tw390118299812625222:True:=⟨⟩
theorem tw1635632264319827173:True:=⟨⟩
theorem tw1018451747657396120:True:=⟨⟩
theorem tw1079840654459247167:True:=⟨⟩
theorem tw15922237977069213670:True:=⟨⟩
theorem tw4547478966680500779:True:=⟨⟩
theorem tw7339184783728767387:True:=⟨⟩
theorem tw2891275482179047491:True:=⟨⟩
theorem tw17569539169243276450:True:=⟨⟩
theorem tw15236102518959399284:True:=⟨⟩
theorem tw11093398943913859704:True:=⟨⟩
theorem tw7321070113536661768:True:=⟨⟩
theorem tw11581460802531599501:True:=⟨⟩
theorem tw18443301773248161143:True:=⟨⟩
theorem tw3152757772206119502:True:=⟨⟩
theorem tw10804243930975264215:True:=⟨⟩
theorem tw8049422489990463806:True:=⟨⟩
theorem tw10364355937851891311:True:=⟨⟩
theorem tw14021835780789442923:True:=⟨⟩
theorem tw10303293174447120429:True:=⟨⟩
theorem tw10751736111199266691:True:=⟨⟩
theorem tw2732849248218940167:True:=⟨⟩
theorem tw12434350747104289849:True:=⟨⟩
theorem tw13414128006205222308:True:=⟨⟩
theorem tw18347650762468445896:True:=⟨⟩
theorem tw11102843818996272389:True:=⟨⟩
theorem tw15062836645054608804:True:=⟨⟩
theorem tw2959806283914746622:True:=⟨⟩
theorem tw5470164045666333948:True:=⟨⟩
theorem tw14629824150468172100:True:=⟨⟩
theorem tw5168063639596353807:True:=⟨⟩
theorem tw7936894613672195273:True:=⟨⟩
theorem tw12604143650492484417:True:=⟨⟩
theorem tw10574297332560171761:True:=⟨⟩
theorem tw6497460692212740474:True:=⟨⟩
theorem tw4479353201214519793:True:=⟨⟩
theorem tw16125372486221510567:True:=⟨⟩
theorem tw11477697961888950773:True:=⟨⟩
theorem tw945253061895528954:True:=⟨⟩
theorem tw6124774841604177146:True:=⟨⟩
theorem tw1761264926457586361:True:=⟨⟩
theorem tw17745340973362691624:True:=⟨⟩
theorem tw16320702912010719363:True:=⟨⟩
theorem tw15224875331435851106:True:=⟨⟩
theorem tw15907153189514861430:True:=⟨⟩
theorem tw9069217744806077467:True:=⟨⟩
theorem tw16131042452791714422:True:=⟨⟩
theorem tw7714761150914235483:True:=⟨⟩
theorem tw2236620311105871267:True:=⟨⟩
theorem tw8652647178456195289:True:=⟨⟩
theorem tw9877381234100899253:True:=⟨⟩
theorem tw647433021431067924:True:=⟨⟩
theorem tw16936276552312181210:True:=⟨⟩
theorem tw4878126723502370078:True:=⟨⟩
theorem tw3217000893506736935:True:=⟨⟩
theorem tw10403019736897671552:True:=⟨⟩
theorem tw13398927982497450480:True:=⟨⟩
theorem tw6240935456333170556:True:=⟨⟩
theorem tw6286845579048706519:True:=⟨⟩
theorem tw13796395012304857904:True:=⟨⟩
theorem tw7616572194681455683:True:=⟨⟩
theorem tw12564745484513217336:True:=⟨⟩
theorem tw9521681340839067964:True:=⟨⟩
theorem tw18409239802735240787:True:=⟨⟩
theorem tw16020966074344322134:True:=⟨⟩
theorem tw6211796048589704575:True:=⟨⟩
theorem tw15031256105537673218:True:=⟨⟩
theorem tw8973809060463645041:True:=⟨⟩
theorem tw10751436159530259485:True:=⟨⟩
theorem tw16486922024951634866:True:=⟨⟩
theorem tw1574815171187235409:True:=⟨⟩
theorem tw13584592342445266561:True:=⟨⟩
theorem tw4601103506966871326:True:=⟨⟩
theorem tw3901220702884764730:True:=⟨⟩
theorem tw5773847702825931414:True:=⟨⟩
theorem tw11487609548865990285:True:=⟨⟩
theorem tw9630852676652071782:True:=⟨⟩
theorem tw2484969029919990698:True:=⟨⟩
theorem tw8861157315398191889:True:=⟨⟩
theorem tw13498779489982824173:True:=⟨⟩
theorem tw5153935274144659297:True:=⟨⟩
theorem tw13277002338912186787:True:=⟨⟩
theorem tw11884926336838737925:True:=⟨⟩
theorem tw1593007773225369152:True:=⟨⟩
theorem tw13763634896891906150:True:=⟨⟩
theorem tw15350948612355962119:True:=⟨⟩
theorem tw14727275714267243623:True:=⟨⟩
theorem tw2563775304493718252:True:=⟨⟩
theorem tw12224513030791722881:True:=⟨⟩
theorem tw18347388910054862188:True:=⟨⟩
theorem tw12949579558524943495:True:=⟨⟩
theorem tw17421425514646677810:True:=⟨⟩
theorem tw3571627216598100630:True:=⟨⟩
theorem tw12037820085828285573:True:=⟨⟩
theorem tw6098100232112832629:True:=⟨⟩
theorem tw15230169815298732007:True:=⟨⟩
theorem tw9933727792914084859:True:=⟨⟩
theorem tw9576726472201758384:True:=⟨⟩
theorem tw6697121060805592724:True:=⟨⟩
theorem tw1670538118389503750:True:=⟨⟩
theorem tw18059014708497936584:True:=⟨⟩
theorem tw12976899095837327506:True:=⟨⟩
theorem tw16802555457800388934:True:=⟨⟩
theorem tw12383210695589734496:True:=⟨⟩
theorem tw5767444263231738171:True:=⟨⟩
theorem tw62509642182745874:True:=⟨⟩
theorem tw9421942436609213489:True:=⟨⟩
theorem tw12665548696430467532:True:=⟨⟩
theorem tw9243219599891227794:True:=⟨⟩
theorem tw16793251342877676037:True:=⟨⟩
theorem tw17116632709175068685:True:=⟨⟩
theorem tw3034999230402650000:True:=⟨⟩
theorem tw5737989990928420494:True:=⟨⟩
theorem tw15090011256092603140:True:=⟨⟩
theorem tw15325453847643949196:True:=⟨⟩
theorem tw6775719963086124697:True:=⟨⟩
theorem tw11326225105046149536:True:=⟨⟩
theorem tw14873183284933590498:True:=⟨⟩
theorem tw16473702347607069814:True:=⟨⟩
theorem tw1423208391028317574:True:=⟨⟩
theorem tw11652407963599446015:True:=⟨⟩
theorem tw15013349782378359369:True:=⟨⟩
theorem tw8119225035538492905:True:=⟨⟩
theorem tw2789250163223204518:True:=⟨⟩
theorem tw9806437732004965028:True:=⟨⟩
theorem tw3398870236483179473:True:=⟨⟩
theorem tw13246191595948216684:True:=⟨⟩
theorem tw8536655695381100347:True:=⟨⟩
theorem tw16285723748904454080:True:=⟨⟩
theorem tw9857417822305240941:True:=⟨⟩
theorem tw11849872737573883596:True:=⟨⟩
theorem tw14576476748897955616:True:=⟨⟩
theorem tw10629571159721189092:True:=⟨⟩
theorem tw3564492546283189913:True:=⟨⟩
theorem tw12198646399443752194:True:=⟨⟩
theorem tw13201902658951427682:True:=⟨⟩
theorem tw14649803557399250074:True:=⟨⟩
theorem tw7190436889556441559:True:=⟨⟩
theorem tw8975367926336346873:True:=⟨⟩
theorem tw1957505057337969998:True:=⟨⟩
theorem tw18194395762038820078:True:=⟨⟩
theorem tw5654143968358587531:True:=⟨⟩
theorem tw13464159835432983783:True:=⟨⟩
theorem tw15458970705931338726:True:=⟨⟩
theorem tw10030598135053260164:True:=⟨⟩
theorem tw8737314805454077010:True:=⟨⟩
theorem tw7601220379632504569:True:=⟨⟩
theorem tw4110521175017896241:True:=⟨⟩
theorem tw5745947842518454022:True:=⟨⟩
theorem tw1959648553331821412:True:=⟨⟩
theorem tw12474923434719591:True:=⟨⟩
theorem tw5963686096769924084:True:=⟨⟩
theorem tw11917994882786224945:True:=⟨⟩
theorem tw8103698925589650337:True:=⟨⟩
theorem tw17371526096704732236:True:=⟨⟩
theorem tw6561116680413938169:True:=⟨⟩
theorem tw12765502151133014600:True:=⟨⟩
theorem tw14138387752353514257:True:=⟨⟩
theorem tw13758402873136322260:True:=⟨⟩
theorem tw17219783718520402098:True:=⟨⟩
theorem tw14042821815648979802:True:=⟨⟩
theorem tw11717207498153804537:True:=⟨⟩
theorem tw7333333847982792889:True:=⟨⟩
theorem tw5478380614279673965:True:=⟨⟩
theorem tw10294134748618710401:True:=⟨⟩
theorem tw7821182911151685722:True:=⟨⟩
theorem tw16368298125698134088:True:=⟨⟩
theorem tw15154026026249696362:True:=⟨⟩
theorem tw4382840965400725123:True:=⟨⟩
theorem tw10497706577295416704:True:=⟨⟩
theorem tw16327131294014138232:True:=⟨⟩
theorem tw2579870585174742906:True:=⟨⟩
theorem tw17483925006946637429:True:=⟨⟩
theorem tw7920028715413263525:True:=⟨⟩
theorem tw14141173996913951347:True:=⟨⟩
theorem tw17113452347863474022:True:=⟨⟩
theorem tw4965889908794344630:True:=⟨⟩
theorem tw14900387702336273405:True:=⟨⟩
theorem tw14936815259366633340:True:=⟨⟩
theorem tw16775724616348598078:True:=⟨⟩
theorem tw15696114934995269393:True:=⟨⟩
theorem tw15420034880487082686:True:=⟨⟩
theorem tw4220192886448041493:True:=⟨⟩
theorem tw7409037879033214956:True:=⟨⟩
theorem tw2302122022434263774:True:=⟨⟩
theorem tw612689088218463549:True:=⟨⟩
theorem tw6949520738022959374:True:=⟨⟩
theorem tw2232962127557384783:True:=⟨⟩
theorem tw5743714667191439700:True:=⟨⟩
theorem tw8188214314029019998:True:=⟨⟩
theorem tw14196968616304974671:True:=⟨⟩
theorem tw8405244163517462665:True:=⟨⟩
theorem tw8809952904829415141:True:=⟨⟩
theorem tw3582792833773351064:True:=⟨⟩
theorem tw14803534381314726899:True:=⟨⟩
theorem tw15694989321121396876:True:=⟨⟩
theorem tw16483035897090817318:True:=⟨⟩
theorem tw11396972973933752285:True:=⟨⟩
theorem tw839288949893313478:True:=⟨⟩
theorem tw10000470500276281642:True:=⟨⟩
theorem tw1731694363141731264:True:=⟨⟩
theorem tw892666296123389920:True:=⟨⟩
theorem tw12903874214177943416:True:=⟨⟩
theorem tw13890755483136488158:True:=⟨⟩
theorem tw14876479339171561306:True:=⟨⟩
theorem tw4488890966036503107:True:=⟨⟩
theorem tw16409048265560647552:True:=⟨⟩
theorem tw15215214568435772017:True:=⟨⟩
theorem tw11326922506117543424:True:=⟨⟩
theorem tw2564245015970481568:True:=⟨⟩
theorem tw840540713489650739:True:=⟨⟩
theorem tw2579807207878257194:True:=⟨⟩
theorem tw547402736130330116:True:=⟨⟩
theorem tw9786671031864482915:True:=⟨⟩
theorem tw4071575080655420235:True:=⟨⟩
theorem tw2389253798473143707:True:=⟨⟩
theorem tw15514292212630911179:True:=⟨⟩
theorem tw14857361955800415605:True:=⟨⟩
theorem tw8492717193579612468:True:=⟨⟩
theorem tw18226577991010299615:True:=⟨⟩
theorem tw17312632627404421304:True:=⟨⟩
theorem tw10028973615334429973:True:=⟨⟩
theorem tw12988608018066398944:True:=⟨⟩
theorem tw12117001189038509833:True:=⟨⟩
theorem tw2367056710425799477:True:=⟨⟩
theorem tw11696193935149401479:True:=⟨⟩
theorem tw13754498040835027467:True:=⟨⟩
theorem tw426472158331528820:True:=⟨⟩
theorem tw637179547295861536:True:=⟨⟩
theorem tw5718862774599927449:True:=⟨⟩
theorem tw2276896541114967985:True:=⟨⟩
theorem tw10613961094945818620:True:=⟨⟩
theorem tw3808361115367888966:True:=⟨⟩
theorem tw715146739601655761:True:=⟨⟩
theorem tw7992151847853977558:True:=⟨⟩
theorem tw7680224341149199990:True:=⟨⟩
theorem tw141375926621860164:True:=⟨⟩
theorem tw13196296882270844673:True:=⟨⟩
theorem tw2899589775815888052:True:=⟨⟩
theorem tw3122963962365262127:True:=⟨⟩
theorem tw16096573670954575093:True:=⟨⟩
theorem tw7454115300896790639:True:=⟨⟩
theorem tw11907919673326169565:True:=⟨⟩
theorem tw18211316187377735699:True:=⟨⟩
theorem tw11295177819019640459:True:=⟨⟩
theorem tw16286437401177539591:True:=⟨⟩
theorem tw7992281070632345741:True:=⟨⟩
theorem tw5640598077505469015:True:=⟨⟩
theorem tw17693242272540438867:True:=⟨⟩
theorem tw16220684567677233865:True:=⟨⟩
theorem tw15060766526851906498:True:=⟨⟩
theorem tw2876278413253687300:True:=⟨⟩
theorem tw3819689124496432199:True:=⟨⟩
theorem tw13406164855362615494:True:=⟨⟩
theorem tw1519666033584790591:True:=⟨⟩
theorem tw5890061249729483800:True:=⟨⟩
theorem tw13796826983390935994:True:=⟨⟩
theorem tw4507759775078570439:True:=⟨⟩
theorem tw9144605922801400759:True:=⟨⟩
theorem tw2906312917529623035:True:=⟨⟩
theorem tw12328403241457666168:True:=⟨⟩
theorem tw9506371506815041821:True:=⟨⟩
theorem tw13215476211171690939:True:=⟨⟩
theorem tw3703344430303562177:True:=⟨⟩
theorem tw9913029618503915868:True:=⟨⟩
theorem tw1467058942617789934:True:=⟨⟩
theorem tw15954454380278107591:True:=⟨⟩
theorem tw8620164731257020192:True:=⟨⟩
theorem tw17108954567554000147:True:=⟨⟩
theorem tw5073235668326840467:True:=⟨⟩
theorem tw11593288670631679673:True:=⟨⟩
theorem tw16570326596030114299:True:=⟨⟩
theorem tw16164844812782128880:True:=⟨⟩
theorem tw533473964738310981:True:=⟨⟩
theorem tw3348642076462062302:True:=⟨⟩
theorem tw3232570386108752420:True:=⟨⟩
theorem tw17759421076161167919:True:=⟨⟩
theorem tw15421386509202967554:True:=⟨⟩
theorem tw2704420120435135166:True:=⟨⟩
theorem tw15197958407026016392:True:=⟨⟩
theorem tw3123514778256652184:True:=⟨⟩
theorem tw2963373200453374400:True:=⟨⟩
theorem tw4539397615561859568:True:=⟨⟩
theorem tw10510787847910364836:True:=⟨⟩
theorem tw14015363566302703341:True:=⟨⟩
theorem tw8374766910589979677:True:=⟨⟩
theorem tw16046742815658153939:True:=⟨⟩
theorem tw4965459300112743134:True:=⟨⟩
theorem tw13428815060040711324:True:=⟨⟩
theorem tw5485006540770178627:True:=⟨⟩
theorem tw3362065350547912542:True:=⟨⟩
theorem tw14916065435028318188:True:=⟨⟩
theorem tw814564361066773208:True:=⟨⟩
theorem tw76473209208780872:True:=⟨⟩
theorem tw202266701762444676:True:=⟨⟩
theorem tw2378919950640352624:True:=⟨⟩
theorem tw9673688568717084342:True:=⟨⟩
theorem tw12532907534873179085:True:=⟨⟩
theorem tw7187380709604024596:True:=⟨⟩
theorem tw17110259181873720396:True:=⟨⟩
theorem tw17247017842571854549:True:=⟨⟩
theorem tw9747936189440714239:True:=⟨⟩
theorem tw11582394662149575838:True:=⟨⟩
theorem tw11998758437745184980:True:=⟨⟩
theorem tw13774831617014631613:True:=⟨⟩
theorem tw10690780501015709221:True:=⟨⟩
theorem tw1436076390219131522:True:=⟨⟩
theorem tw13619236588225455144:True:=⟨⟩
theorem tw3991593039083605211:True:=⟨⟩
theorem tw4777335621761261866:True:=⟨⟩
theorem tw14955557727956649854:True:=⟨⟩
theorem tw14555165061183188247:True:=⟨⟩
theorem tw10327085655607549008:True:=⟨⟩
theorem tw10749933519451709468:True:=⟨⟩
theorem tw2467516798682360810:True:=⟨⟩
theorem tw3430692652862937422:True:=⟨⟩
theorem tw13740310900466829828:True:=⟨⟩
theorem tw2994148763134353056:True:=⟨⟩
theorem tw11060278661557036778:True:=⟨⟩
theorem tw9124316102634544450:True:=⟨⟩
theorem tw10643792127066637362:True:=⟨⟩
theorem tw14339984331432947270:True:=⟨⟩
theorem tw18218610059719299188:True:=⟨⟩
theorem tw11635813717505214115:True:=⟨⟩
theorem tw17925763153409329173:True:=⟨⟩
theorem tw10029036958624077758:True:=⟨⟩
theorem tw135272187518083687:True:=⟨⟩
theorem tw18208658379179080839:True:=⟨⟩
theorem tw7920426456412155087:True:=⟨⟩
theorem tw17299558059887269067:True:=⟨⟩
theorem tw9497892380880354938:True:=⟨⟩
theorem tw12161343534973681308:True:=⟨⟩
theorem tw6328775436547265927:True:=⟨⟩
theorem tw14108883917071628804:True:=⟨⟩
theorem tw7025410060167656203:True:=⟨⟩
theorem tw9074571270413435200:True:=⟨⟩
theorem tw4376951283377094754:True:=⟨⟩
theorem tw10409918187203951997:True:=⟨⟩
theorem tw18179955040081415803:True:=⟨⟩
theorem tw16929582914407588643:True:=⟨⟩
theorem tw12670415133159643162:True:=⟨⟩
theorem tw14118062435983666110:True:=⟨⟩
theorem tw14199522932478661184:True:=⟨⟩
theorem tw1271282279855845573:True:=⟨⟩
theorem tw13242649767754828107:True:=⟨⟩
theorem tw10164859498316857641:True:=⟨⟩
theorem tw6867131451053461383:True:=⟨⟩
theorem tw4332357743595090249:True:=⟨⟩
theorem tw18057204807134257366:True:=⟨⟩
theorem tw3142257725953188335:True:=⟨⟩
theorem tw12198182760177286447:True:=⟨⟩
theorem tw11122663126954069058:True:=⟨⟩
theorem tw2834051735446901330:True:=⟨⟩
theorem tw2000647732911665513:True:=⟨⟩
theorem tw4825551841367607205:True:=⟨⟩
theorem tw6783193658239459221:True:=⟨⟩
theorem tw7586766114058714964:True:=⟨⟩
theorem tw8983104726326725943:True:=⟨⟩
theorem tw8666441498843189133:True:=⟨⟩
end Mine.kb
namespace Mine
set_option maxHeartbeats 8000000 in
theorem kb:PySem.Challenge.rw_pq0055_04.Holds:=by
 (w_on;o_law;k_head;(case hw=>w_witness2))
 k_fill
 intro w s₀ s₁ mg mb G Y fa o pm cd doc dV kV ho hd hcd hD hmg hg args vals as hpre hlay hrd hwl hlo
 have KX0:=kIn_of Y
 have KX:(KK w.params).In s₁.heap:=KX0
 refine Ground.open G ?_
 intro T B D TE TW
 wrow_args hpre hlay hrd hwl hlo
 all_goals (
  first | refine callC_kw (enter_call ?_) | refine enter_call ?_ | refine callC_kw (enter_callW ?_) | refine enter_callW ?_ | w_how
  have z:Membership Addr Zip0:=⟨fun _ _=>False⟩
  have hfa:mg "law"=some (.ref 423):=ns_of KX (a:=mainGlobals) rfl T.g "law"
  have hfa':fa=423:=by
   have:=hmg.symm.trans hfa
   simpa using this
  subst hfa'
  refine law_run KX T.g T.b T.builtins T.nolimit (by rfl) (by rfl) (by assumption) (by assumption) (by omega) fun h' tk hk=>?_
  refine GoodW.toG ⟨.inl ⟨_,.bool true,[],rfl,fun cls=>rfl,.bool true,postW_of (X:=true==true) rfl (w_eq_bool (w_res rfl) w_lit) rfl,fun q=>⟨List.nodup_nil,fun a ha=>nomatch ha⟩⟩,hk,rfl,hg⟩)
end Mine
theorem PySem.Challenge.cw_pq0055_04_holds : PySem.Challenge.rw_pq0055_04.Holds :=
  Mine.kb
