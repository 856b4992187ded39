import PyProof.Rows.All
import Wide.All
import OpenK.AllK
import Wide.FinOn
import PySem.Challenge.RW_ot0022_01
set_option Elab.async false
set_option maxRecDepth 100000
set_option maxHeartbeats 8000000
set_option linter.all false
set_option genSizeOf false
set_option genInjectivity false
namespace Mine
open PySem PySem.Calls PyProof.Rows PySem.W
section
variable {Z:Prop}{A B C D E F G H J K L M N O P Q U:Type}{u:U}{Y:U→Prop}{p0 p1 p2 p3 p4 p5:Prop}{px0 px1 px2 px3 px4 px5:A→Prop}{py0 py1 py2 py3 py4 py5 py6:A→B→Prop}{pz0 pz1 pz2 pz3 pz4 pz5:A→B→C→Prop}{pu0 pu1 pu2 pu3 pu4 pu5 pu6 pu7:A→B→C→D→Prop}{pv0 pv1 pv2 pv3 pv4 pv5 pv6 pv7 pv8:A→B→C→D→E→Prop}{pw0 pw1 pw2 pw3 pw4 pw5 pw6 pw7 pw8 pw9 pw10 pw11:A→B→C→D→E→F→Prop}{pk0 pk1:A→B→C→D→E→F→G→H→J→K→L→M→N→O→P→Q→Prop}
theorem Za(h:p0∧p1)(k:p0→p1→Z):Z:=k h.1 h.2
theorem Ze(h:∃ a,px0 a)(k:∀ a,px0 a→Z):Z:=h.elim fun a h0=>k a h0
theorem Zaa(h:p0∧p1∧p2)(k:p0→p1→p2→Z):Z:=k h.1 h.2.1 h.2.2
theorem Zae(h:p0∧∃ a,px0 a)(k:p0→∀ a,px0 a→Z):Z:=h.2.elim fun a h0=>k h.1 a h0
theorem Zea(h:∃ a,px0 a∧px1 a)(k:∀ a,px0 a→px1 a→Z):Z:=h.elim fun a h0=>k a h0.1 h0.2
theorem Zee(h:∃ a,∃ b,py0 a b)(k:∀ a,∀ b,py0 a b→Z):Z:=h.elim fun a h0=>h0.elim fun b h1=>k a b h1
theorem Zaaa(h:p0∧p1∧p2∧p3)(k:p0→p1→p2→p3→Z):Z:=k h.1 h.2.1 h.2.2.1 h.2.2.2
theorem Zaae(h:p0∧p1∧∃ a,px0 a)(k:p0→p1→∀ a,px0 a→Z):Z:=h.2.2.elim fun a h0=>k h.1 h.2.1 a h0
theorem Zaea(h:p0∧∃ a,px0 a∧px1 a)(k:p0→∀ a,px0 a→px1 a→Z):Z:=h.2.elim fun a h0=>k h.1 a h0.1 h0.2
theorem Zeaa(h:∃ a,px0 a∧px1 a∧px2 a)(k:∀ a,px0 a→px1 a→px2 a→Z):Z:=h.elim fun a h0=>k a h0.1 h0.2.1 h0.2.2
theorem Zeea(h:∃ a,∃ b,py0 a b∧py1 a b)(k:∀ a,∀ b,py0 a b→py1 a b→Z):Z:=h.elim fun a h0=>h0.elim fun b h1=>k a b h1.1 h1.2
theorem Zeee(h:∃ a,∃ b,∃ c,pz0 a b c)(k:∀ a,∀ b,∀ c,pz0 a b c→Z):Z:=h.elim fun a h0=>h0.elim fun b h1=>h1.elim fun c h2=>k a b c h2
theorem Zaaaa(h:p0∧p1∧p2∧p3∧p4)(k:p0→p1→p2→p3→p4→Z):Z:=k h.1 h.2.1 h.2.2.1 h.2.2.2.1 h.2.2.2.2
theorem Zaaae(h:p0∧p1∧p2∧∃ a,px0 a)(k:p0→p1→p2→∀ a,px0 a→Z):Z:=h.2.2.2.elim fun a h0=>k h.1 h.2.1 h.2.2.1 a h0
theorem Zeaaa(h:∃ a,px0 a∧px1 a∧px2 a∧px3 a)(k:∀ a,px0 a→px1 a→px2 a→px3 a→Z):Z:=h.elim fun a h0=>k a h0.1 h0.2.1 h0.2.2.1 h0.2.2.2
theorem Zeaae(h:∃ a,px0 a∧px1 a∧∃ b,py0 a b)(k:∀ a,px0 a→px1 a→∀ b,py0 a b→Z):Z:=h.elim fun a h0=>h0.2.2.elim fun b h1=>k a h0.1 h0.2.1 b h1
theorem Zeeaa(h:∃ a,∃ b,py0 a b∧py1 a b∧py2 a b)(k:∀ a,∀ b,py0 a b→py1 a b→py2 a b→Z):Z:=h.elim fun a h0=>h0.elim fun b h1=>k a b h1.1 h1.2.1 h1.2.2
theorem Zeeea(h:∃ a,∃ b,∃ c,pz0 a b c∧pz1 a b c)(k:∀ a,∀ b,∀ c,pz0 a b c→pz1 a b c→Z):Z:=h.elim fun a h0=>h0.elim fun b h1=>h1.elim fun c h2=>k a b c h2.1 h2.2
theorem Zaaaaa(h:p0∧p1∧p2∧p3∧p4∧p5)(k:p0→p1→p2→p3→p4→p5→Z):Z:=k h.1 h.2.1 h.2.2.1 h.2.2.2.1 h.2.2.2.2.1 h.2.2.2.2.2
theorem Zaeeaa(h:p0∧∃ a,∃ b,py0 a b∧py1 a b∧py2 a b)(k:p0→∀ a,∀ b,py0 a b→py1 a b→py2 a b→Z):Z:=h.2.elim fun a h0=>h0.elim fun b h1=>k h.1 a b h1.1 h1.2.1 h1.2.2
theorem Zeaaaa(h:∃ a,px0 a∧px1 a∧px2 a∧px3 a∧px4 a)(k:∀ a,px0 a→px1 a→px2 a→px3 a→px4 a→Z):Z:=h.elim fun a h0=>k a h0.1 h0.2.1 h0.2.2.1 h0.2.2.2.1 h0.2.2.2.2
theorem Zeeaaa(h:∃ a,∃ b,py0 a b∧py1 a b∧py2 a b∧py3 a b)(k:∀ a,∀ b,py0 a b→py1 a b→py2 a b→py3 a b→Z):Z:=h.elim fun a h0=>h0.elim fun b h1=>k a b h1.1 h1.2.1 h1.2.2.1 h1.2.2.2
theorem Zeeeaa(h:∃ a,∃ b,∃ c,pz0 a b c∧pz1 a b c∧pz2 a b c)(k:∀ a,∀ b,∀ c,pz0 a b c→pz1 a b c→pz2 a b c→Z):Z:=h.elim fun a h0=>h0.elim fun b h1=>h1.elim fun c h2=>k a b c h2.1 h2.2.1 h2.2.2
theorem Zeeeea(h:∃ a,∃ b,∃ c,∃ d,pu0 a b c d∧pu1 a b c d)(k:∀ a,∀ b,∀ c,∀ d,pu0 a b c d→pu1 a b c d→Z):Z:=h.elim fun a h0=>h0.elim fun b h1=>h1.elim fun c h2=>h2.elim fun d h3=>k a b c d h3.1 h3.2
theorem Zaeeaaa(h:p0∧∃ a,∃ b,py0 a b∧py1 a b∧py2 a b∧py3 a b)(k:p0→∀ a,∀ b,py0 a b→py1 a b→py2 a b→py3 a b→Z):Z:=h.2.elim fun a h0=>h0.elim fun b h1=>k h.1 a b h1.1 h1.2.1 h1.2.2.1 h1.2.2.2
theorem Zeeaaaa(h:∃ a,∃ b,py0 a b∧py1 a b∧py2 a b∧py3 a b∧py4 a b)(k:∀ a,∀ b,py0 a b→py1 a b→py2 a b→py3 a b→py4 a b→Z):Z:=h.elim fun a h0=>h0.elim fun b h1=>k a b h1.1 h1.2.1 h1.2.2.1 h1.2.2.2.1 h1.2.2.2.2
theorem Zeeeaaa(h:∃ a,∃ b,∃ c,pz0 a b c∧pz1 a b c∧pz2 a b c∧pz3 a b c)(k:∀ a,∀ b,∀ c,pz0 a b c→pz1 a b c→pz2 a b c→pz3 a b c→Z):Z:=h.elim fun a h0=>h0.elim fun b h1=>h1.elim fun c h2=>k a b c h2.1 h2.2.1 h2.2.2.1 h2.2.2.2
theorem Zeeeeaa(h:∃ a,∃ b,∃ c,∃ d,pu0 a b c d∧pu1 a b c d∧pu2 a b c d)(k:∀ a,∀ b,∀ c,∀ d,pu0 a b c d→pu1 a b c d→pu2 a b c d→Z):Z:=h.elim fun a h0=>h0.elim fun b h1=>h1.elim fun c h2=>h2.elim fun d h3=>k a b c d h3.1 h3.2.1 h3.2.2
theorem Zeeaaaaa(h:∃ a,∃ b,py0 a b∧py1 a b∧py2 a b∧py3 a b∧py4 a b∧py5 a b)(k:∀ a,∀ b,py0 a b→py1 a b→py2 a b→py3 a b→py4 a b→py5 a b→Z):Z:=h.elim fun a h0=>h0.elim fun b h1=>k a b h1.1 h1.2.1 h1.2.2.1 h1.2.2.2.1 h1.2.2.2.2.1 h1.2.2.2.2.2
theorem Zeeeaaaa(h:∃ a,∃ b,∃ c,pz0 a b c∧pz1 a b c∧pz2 a b c∧pz3 a b c∧pz4 a b c)(k:∀ a,∀ b,∀ c,pz0 a b c→pz1 a b c→pz2 a b c→pz3 a b c→pz4 a b c→Z):Z:=h.elim fun a h0=>h0.elim fun b h1=>h1.elim fun c h2=>k a b c h2.1 h2.2.1 h2.2.2.1 h2.2.2.2.1 h2.2.2.2.2
theorem Zeeeaaea(h:∃ a,∃ b,∃ c,pz0 a b c∧pz1 a b c∧∃ d,pu0 a b c d∧pu1 a b c d)(k:∀ a,∀ b,∀ c,pz0 a b c→pz1 a b c→∀ d,pu0 a b c d→pu1 a b c d→Z):Z:=h.elim fun a h0=>h0.elim fun b h1=>h1.elim fun c h2=>h2.2.2.elim fun d h3=>k a b c h2.1 h2.2.1 d h3.1 h3.2
theorem Zeeeeaaa(h:∃ a,∃ b,∃ c,∃ d,pu0 a b c d∧pu1 a b c d∧pu2 a b c d∧pu3 a b c d)(k:∀ a,∀ b,∀ c,∀ d,pu0 a b c d→pu1 a b c d→pu2 a b c d→pu3 a b c d→Z):Z:=h.elim fun a h0=>h0.elim fun b h1=>h1.elim fun c h2=>h2.elim fun d h3=>k a b c d h3.1 h3.2.1 h3.2.2.1 h3.2.2.2
theorem Zeeaaaaaa(h:∃ a,∃ b,py0 a b∧py1 a b∧py2 a b∧py3 a b∧py4 a b∧py5 a b∧py6 a b)(k:∀ a,∀ b,py0 a b→py1 a b→py2 a b→py3 a b→py4 a b→py5 a b→py6 a b→Z):Z:=h.elim fun a h0=>h0.elim fun b h1=>k a b h1.1 h1.2.1 h1.2.2.1 h1.2.2.2.1 h1.2.2.2.2.1 h1.2.2.2.2.2.1 h1.2.2.2.2.2.2
theorem Zeeeaaaaa(h:∃ a,∃ b,∃ c,pz0 a b c∧pz1 a b c∧pz2 a b c∧pz3 a b c∧pz4 a b c∧pz5 a b c)(k:∀ a,∀ b,∀ c,pz0 a b c→pz1 a b c→pz2 a b c→pz3 a b c→pz4 a b c→pz5 a b c→Z):Z:=h.elim fun a h0=>h0.elim fun b h1=>h1.elim fun c h2=>k a b c h2.1 h2.2.1 h2.2.2.1 h2.2.2.2.1 h2.2.2.2.2.1 h2.2.2.2.2.2
theorem Zeeeeaaaa(h:∃ a,∃ b,∃ c,∃ d,pu0 a b c d∧pu1 a b c d∧pu2 a b c d∧pu3 a b c d∧pu4 a b c d)(k:∀ a,∀ b,∀ c,∀ d,pu0 a b c d→pu1 a b c d→pu2 a b c d→pu3 a b c d→pu4 a b c d→Z):Z:=h.elim fun a h0=>h0.elim fun b h1=>h1.elim fun c h2=>h2.elim fun d h3=>k a b c d h3.1 h3.2.1 h3.2.2.1 h3.2.2.2.1 h3.2.2.2.2
theorem Zeeeeeaaa(h:∃ a,∃ b,∃ c,∃ d,∃ e,pv0 a b c d e∧pv1 a b c d e∧pv2 a b c d e∧pv3 a b c d e)(k:∀ a,∀ b,∀ c,∀ d,∀ e,pv0 a b c d e→pv1 a b c d e→pv2 a b c d e→pv3 a b c d e→Z):Z:=h.elim fun a h0=>h0.elim fun b h1=>h1.elim fun c h2=>h2.elim fun d h3=>h3.elim fun e h4=>k a b c d e h4.1 h4.2.1 h4.2.2.1 h4.2.2.2
theorem Zeeeeaaaaa(h:∃ a,∃ b,∃ c,∃ d,pu0 a b c d∧pu1 a b c d∧pu2 a b c d∧pu3 a b c d∧pu4 a b c d∧pu5 a b c d)(k:∀ a,∀ b,∀ c,∀ d,pu0 a b c d→pu1 a b c d→pu2 a b c d→pu3 a b c d→pu4 a b c d→pu5 a b c d→Z):Z:=h.elim fun a h0=>h0.elim fun b h1=>h1.elim fun c h2=>h2.elim fun d h3=>k a b c d h3.1 h3.2.1 h3.2.2.1 h3.2.2.2.1 h3.2.2.2.2.1 h3.2.2.2.2.2
theorem Zeeeaaaeaaa(h:∃ a,∃ b,∃ c,pz0 a b c∧pz1 a b c∧pz2 a b c∧∃ d,pu0 a b c d∧pu1 a b c d∧pu2 a b c d∧pu3 a b c d)(k:∀ a,∀ b,∀ c,pz0 a b c→pz1 a b c→pz2 a b c→∀ d,pu0 a b c d→pu1 a b c d→pu2 a b c d→pu3 a b c d→Z):Z:=h.elim fun a h0=>h0.elim fun b h1=>h1.elim fun c h2=>h2.2.2.2.elim fun d h3=>k a b c h2.1 h2.2.1 h2.2.2.1 d h3.1 h3.2.1 h3.2.2.1 h3.2.2.2
theorem Zeeeeaaaaaa(h:∃ a,∃ b,∃ c,∃ d,pu0 a b c d∧pu1 a b c d∧pu2 a b c d∧pu3 a b c d∧pu4 a b c d∧pu5 a b c d∧pu6 a b c d)(k:∀ a,∀ b,∀ c,∀ d,pu0 a b c d→pu1 a b c d→pu2 a b c d→pu3 a b c d→pu4 a b c d→pu5 a b c d→pu6 a b c d→Z):Z:=h.elim fun a h0=>h0.elim fun b h1=>h1.elim fun c h2=>h2.elim fun d h3=>k a b c d h3.1 h3.2.1 h3.2.2.1 h3.2.2.2.1 h3.2.2.2.2.1 h3.2.2.2.2.2.1 h3.2.2.2.2.2.2
theorem Zeeeeaaaaaaa(h:∃ a,∃ b,∃ c,∃ d,pu0 a b c d∧pu1 a b c d∧pu2 a b c d∧pu3 a b c d∧pu4 a b c d∧pu5 a b c d∧pu6 a b c d∧pu7 a b c d)(k:∀ a,∀ b,∀ c,∀ d,pu0 a b c d→pu1 a b c d→pu2 a b c d→pu3 a b c d→pu4 a b c d→pu5 a b c d→pu6 a b c d→pu7 a b c d→Z):Z:=h.elim fun a h0=>h0.elim fun b h1=>h1.elim fun c h2=>h2.elim fun d h3=>k a b c d h3.1 h3.2.1 h3.2.2.1 h3.2.2.2.1 h3.2.2.2.2.1 h3.2.2.2.2.2.1 h3.2.2.2.2.2.2.1 h3.2.2.2.2.2.2.2
theorem Zeeeeeeeeeeeeeeeea(h:∃ a,∃ b,∃ c,∃ d,∃ e,∃ g,∃ i,∃ j,∃ l,∃ m,∃ n,∃ o,∃ q,∃ r,∃ s,∃ t,pk0 a b c d e g i j l m n o q r s t∧pk1 a b c d e g i j l m n o q r s t)(k:∀ a,∀ b,∀ c,∀ d,∀ e,∀ g,∀ i,∀ j,∀ l,∀ m,∀ n,∀ o,∀ q,∀ r,∀ s,∀ t,pk0 a b c d e g i j l m n o q r s t→pk1 a b c d e g i j l m n o q r s t→Z):Z:=h.elim fun a h0=>h0.elim fun b h1=>h1.elim fun c h2=>h2.elim fun d h3=>h3.elim fun e h4=>h4.elim fun g h5=>h5.elim fun i h6=>h6.elim fun j h7=>h7.elim fun l h8=>h8.elim fun m h9=>h9.elim fun n h10=>h10.elim fun o h11=>h11.elim fun q h12=>h12.elim fun r h13=>h13.elim fun s h14=>h14.elim fun t h15=>k a b c d e g i j l m n o q r s t h15.1 h15.2
theorem Iaa(h0:p0)(h1:p1)(h2:p2):p0∧p1∧p2:=⟨h0,h1,h2⟩
theorem Iae(h0:p0)(a)(h1:px0 a):p0∧∃ a,px0 a:=⟨h0,a,h1⟩
theorem Iea(a)(h0:px0 a)(h1:px1 a):∃ a,px0 a∧px1 a:=⟨a,h0,h1⟩
theorem Iee(a)(b)(h0:py0 a b):∃ a,∃ b,py0 a b:=⟨a,b,h0⟩
theorem Iaaa(h0:p0)(h1:p1)(h2:p2)(h3:p3):p0∧p1∧p2∧p3:=⟨h0,h1,h2,h3⟩
theorem Iaae(h0:p0)(h1:p1)(a)(h2:px0 a):p0∧p1∧∃ a,px0 a:=⟨h0,h1,a,h2⟩
theorem Ieaa(a)(h0:px0 a)(h1:px1 a)(h2:px2 a):∃ a,px0 a∧px1 a∧px2 a:=⟨a,h0,h1,h2⟩
theorem Ieea(a)(b)(h0:py0 a b)(h1:py1 a b):∃ a,∃ b,py0 a b∧py1 a b:=⟨a,b,h0,h1⟩
theorem Iaaae(h0:p0)(h1:p1)(h2:p2)(a)(h3:px0 a):p0∧p1∧p2∧∃ a,px0 a:=⟨h0,h1,h2,a,h3⟩
theorem Ieaaa(a)(h0:px0 a)(h1:px1 a)(h2:px2 a)(h3:px3 a):∃ a,px0 a∧px1 a∧px2 a∧px3 a:=⟨a,h0,h1,h2,h3⟩
theorem Ieaae(a)(h0:px0 a)(h1:px1 a)(b)(h2:py0 a b):∃ a,px0 a∧px1 a∧∃ b,py0 a b:=⟨a,h0,h1,b,h2⟩
theorem Ieeaa(a)(b)(h0:py0 a b)(h1:py1 a b)(h2:py2 a b):∃ a,∃ b,py0 a b∧py1 a b∧py2 a b:=⟨a,b,h0,h1,h2⟩
theorem Ieeea(a)(b)(c)(h0:pz0 a b c)(h1:pz1 a b c):∃ a,∃ b,∃ c,pz0 a b c∧pz1 a b c:=⟨a,b,c,h0,h1⟩
theorem Iaeaae(h0:p0)(a)(h1:px0 a)(h2:px1 a)(b)(h3:py0 a b):p0∧∃ a,px0 a∧px1 a∧∃ b,py0 a b:=⟨h0,a,h1,h2,b,h3⟩
theorem Iaeeaa(h0:p0)(a)(b)(h1:py0 a b)(h2:py1 a b)(h3:py2 a b):p0∧∃ a,∃ b,py0 a b∧py1 a b∧py2 a b:=⟨h0,a,b,h1,h2,h3⟩
theorem Ieaaaa(a)(h0:px0 a)(h1:px1 a)(h2:px2 a)(h3:px3 a)(h4:px4 a):∃ a,px0 a∧px1 a∧px2 a∧px3 a∧px4 a:=⟨a,h0,h1,h2,h3,h4⟩
theorem Ieeaaa(a)(b)(h0:py0 a b)(h1:py1 a b)(h2:py2 a b)(h3:py3 a b):∃ a,∃ b,py0 a b∧py1 a b∧py2 a b∧py3 a b:=⟨a,b,h0,h1,h2,h3⟩
theorem Ieeeaa(a)(b)(c)(h0:pz0 a b c)(h1:pz1 a b c)(h2:pz2 a b c):∃ a,∃ b,∃ c,pz0 a b c∧pz1 a b c∧pz2 a b c:=⟨a,b,c,h0,h1,h2⟩
theorem Iaeeaaa(h0:p0)(a)(b)(h1:py0 a b)(h2:py1 a b)(h3:py2 a b)(h4:py3 a b):p0∧∃ a,∃ b,py0 a b∧py1 a b∧py2 a b∧py3 a b:=⟨h0,a,b,h1,h2,h3,h4⟩
theorem Ieaaaaa(a)(h0:px0 a)(h1:px1 a)(h2:px2 a)(h3:px3 a)(h4:px4 a)(h5:px5 a):∃ a,px0 a∧px1 a∧px2 a∧px3 a∧px4 a∧px5 a:=⟨a,h0,h1,h2,h3,h4,h5⟩
theorem Ieeeaaa(a)(b)(c)(h0:pz0 a b c)(h1:pz1 a b c)(h2:pz2 a b c)(h3:pz3 a b c):∃ a,∃ b,∃ c,pz0 a b c∧pz1 a b c∧pz2 a b c∧pz3 a b c:=⟨a,b,c,h0,h1,h2,h3⟩
theorem Ieeeeaa(a)(b)(c)(d)(h0:pu0 a b c d)(h1:pu1 a b c d)(h2:pu2 a b c d):∃ a,∃ b,∃ c,∃ d,pu0 a b c d∧pu1 a b c d∧pu2 a b c d:=⟨a,b,c,d,h0,h1,h2⟩
theorem Ieeaaaaa(a)(b)(h0:py0 a b)(h1:py1 a b)(h2:py2 a b)(h3:py3 a b)(h4:py4 a b)(h5:py5 a b):∃ a,∃ b,py0 a b∧py1 a b∧py2 a b∧py3 a b∧py4 a b∧py5 a b:=⟨a,b,h0,h1,h2,h3,h4,h5⟩
theorem Ieeeaaaa(a)(b)(c)(h0:pz0 a b c)(h1:pz1 a b c)(h2:pz2 a b c)(h3:pz3 a b c)(h4:pz4 a b c):∃ a,∃ b,∃ c,pz0 a b c∧pz1 a b c∧pz2 a b c∧pz3 a b c∧pz4 a b c:=⟨a,b,c,h0,h1,h2,h3,h4⟩
theorem Ieeeeaaa(a)(b)(c)(d)(h0:pu0 a b c d)(h1:pu1 a b c d)(h2:pu2 a b c d)(h3:pu3 a b c d):∃ a,∃ b,∃ c,∃ d,pu0 a b c d∧pu1 a b c d∧pu2 a b c d∧pu3 a b c d:=⟨a,b,c,d,h0,h1,h2,h3⟩
theorem Ieeaaaaaa(a)(b)(h0:py0 a b)(h1:py1 a b)(h2:py2 a b)(h3:py3 a b)(h4:py4 a b)(h5:py5 a b)(h6:py6 a b):∃ a,∃ b,py0 a b∧py1 a b∧py2 a b∧py3 a b∧py4 a b∧py5 a b∧py6 a b:=⟨a,b,h0,h1,h2,h3,h4,h5,h6⟩
theorem Ieeeeaaaa(a)(b)(c)(d)(h0:pu0 a b c d)(h1:pu1 a b c d)(h2:pu2 a b c d)(h3:pu3 a b c d)(h4:pu4 a b c d):∃ a,∃ b,∃ c,∃ d,pu0 a b c d∧pu1 a b c d∧pu2 a b c d∧pu3 a b c d∧pu4 a b c d:=⟨a,b,c,d,h0,h1,h2,h3,h4⟩
theorem Ieeeeeaaa(a)(b)(c)(d)(e)(h0:pv0 a b c d e)(h1:pv1 a b c d e)(h2:pv2 a b c d e)(h3:pv3 a b c d e):∃ a,∃ b,∃ c,∃ d,∃ e,pv0 a b c d e∧pv1 a b c d e∧pv2 a b c d e∧pv3 a b c d e:=⟨a,b,c,d,e,h0,h1,h2,h3⟩
theorem Ieeeeaaaaa(a)(b)(c)(d)(h0:pu0 a b c d)(h1:pu1 a b c d)(h2:pu2 a b c d)(h3:pu3 a b c d)(h4:pu4 a b c d)(h5:pu5 a b c d):∃ a,∃ b,∃ c,∃ d,pu0 a b c d∧pu1 a b c d∧pu2 a b c d∧pu3 a b c d∧pu4 a b c d∧pu5 a b c d:=⟨a,b,c,d,h0,h1,h2,h3,h4,h5⟩
theorem Ieeeaaaeaaa(a)(b)(c)(h0:pz0 a b c)(h1:pz1 a b c)(h2:pz2 a b c)(d)(h3:pu0 a b c d)(h4:pu1 a b c d)(h5:pu2 a b c d)(h6:pu3 a b c d):∃ a,∃ b,∃ c,pz0 a b c∧pz1 a b c∧pz2 a b c∧∃ d,pu0 a b c d∧pu1 a b c d∧pu2 a b c d∧pu3 a b c d:=⟨a,b,c,h0,h1,h2,d,h3,h4,h5,h6⟩
theorem Ieeeeaaaaaa(a)(b)(c)(d)(h0:pu0 a b c d)(h1:pu1 a b c d)(h2:pu2 a b c d)(h3:pu3 a b c d)(h4:pu4 a b c d)(h5:pu5 a b c d)(h6:pu6 a b c d):∃ a,∃ b,∃ c,∃ d,pu0 a b c d∧pu1 a b c d∧pu2 a b c d∧pu3 a b c d∧pu4 a b c d∧pu5 a b c d∧pu6 a b c d:=⟨a,b,c,d,h0,h1,h2,h3,h4,h5,h6⟩
theorem Ieeeeeaaaaaaaa(a)(b)(c)(d)(e)(h0:pv0 a b c d e)(h1:pv1 a b c d e)(h2:pv2 a b c d e)(h3:pv3 a b c d e)(h4:pv4 a b c d e)(h5:pv5 a b c d e)(h6:pv6 a b c d e)(h7:pv7 a b c d e)(h8:pv8 a b c d e):∃ a,∃ b,∃ c,∃ d,∃ e,pv0 a b c d e∧pv1 a b c d e∧pv2 a b c d e∧pv3 a b c d e∧pv4 a b c d e∧pv5 a b c d e∧pv6 a b c d e∧pv7 a b c d e∧pv8 a b c d e:=⟨a,b,c,d,e,h0,h1,h2,h3,h4,h5,h6,h7,h8⟩
theorem Ieaeeeeeaaaaaaaaaaa(a)(h0:px0 a)(b)(c)(d)(e)(g)(h1:pw0 a b c d e g)(h2:pw1 a b c d e g)(h3:pw2 a b c d e g)(h4:pw3 a b c d e g)(h5:pw4 a b c d e g)(h6:pw5 a b c d e g)(h7:pw6 a b c d e g)(h8:pw7 a b c d e g)(h9:pw8 a b c d e g)(h10:pw9 a b c d e g)(h11:pw10 a b c d e g)(h12:pw11 a b c d e g):∃ a,px0 a∧∃ b,∃ c,∃ d,∃ e,∃ g,pw0 a b c d e g∧pw1 a b c d e g∧pw2 a b c d e g∧pw3 a b c d e g∧pw4 a b c d e g∧pw5 a b c d e g∧pw6 a b c d e g∧pw7 a b c d e g∧pw8 a b c d e g∧pw9 a b c d e g∧pw10 a b c d e g∧pw11 a b c d e g:=⟨a,h0,b,c,d,e,g,h1,h2,h3,h4,h5,h6,h7,h8,h9,h10,h11,h12⟩
theorem RLa0{f:U}(h:u=f∧p0)(k:p0→Y (f)):Y u:=Eq.subst (motive:=Y) (h.1.symm) (k h.2)
theorem RLe1{f:A→U}(h:∃ a,u=f a)(k:∀ a,Y (f a)):Y u:=h.elim fun a h0=>Eq.subst (motive:=Y) (h0.symm) (k a)
theorem RLea1{f:A→U}(h:∃ a,u=f a∧px0 a)(k:∀ a,px0 a→Y (f a)):Y u:=h.elim fun a h0=>Eq.subst (motive:=Y) (h0.1.symm) (k a h0.2)
theorem RMea2{f:A→U}(h:∃ a,px0 a∧f a=u)(k:∀ a,px0 a→Y (f a)):Y u:=h.elim fun a h0=>Eq.subst (motive:=Y) (h0.2) (k a h0.1)
theorem RLeeaa2{f:A→B→U}(h:∃ a,∃ b,u=f a b∧py0 a b∧py1 a b)(k:∀ a,∀ b,py0 a b→py1 a b→Y (f a b)):Y u:=h.elim fun a h0=>h0.elim fun b h1=>Eq.subst (motive:=Y) (h1.1.symm) (k a b h1.2.1 h1.2.2)
theorem RLeeaaa2{f:A→B→U}(h:∃ a,∃ b,u=f a b∧py0 a b∧py1 a b∧py2 a b)(k:∀ a,∀ b,py0 a b→py1 a b→py2 a b→Y (f a b)):Y u:=h.elim fun a h0=>h0.elim fun b h1=>Eq.subst (motive:=Y) (h1.1.symm) (k a b h1.2.1 h1.2.2.1 h1.2.2.2)
theorem RLeeeeaaaa4{f:A→B→C→D→U}(h:∃ a,∃ b,∃ c,∃ d,u=f a b c d∧pu0 a b c d∧pu1 a b c d∧pu2 a b c d∧pu3 a b c d)(k:∀ a,∀ b,∀ c,∀ d,pu0 a b c d→pu1 a b c d→pu2 a b c d→pu3 a b c d→Y (f a b c d)):Y u:=h.elim fun a h0=>h0.elim fun b h1=>h1.elim fun c h2=>h2.elim fun d h3=>Eq.subst (motive:=Y) (h3.1.symm) (k a b c d h3.2.1 h3.2.2.1 h3.2.2.2.1 h3.2.2.2.2)
theorem RLeeeeaaaaa4{f:A→B→C→D→U}(h:∃ a,∃ b,∃ c,∃ d,u=f a b c d∧pu0 a b c d∧pu1 a b c d∧pu2 a b c d∧pu3 a b c d∧pu4 a b c d)(k:∀ a,∀ b,∀ c,∀ d,pu0 a b c d→pu1 a b c d→pu2 a b c d→pu3 a b c d→pu4 a b c d→Y (f a b c d)):Y u:=h.elim fun a h0=>h0.elim fun b h1=>h1.elim fun c h2=>h2.elim fun d h3=>Eq.subst (motive:=Y) (h3.1.symm) (k a b c d h3.2.1 h3.2.2.1 h3.2.2.2.1 h3.2.2.2.2.1 h3.2.2.2.2.2)
theorem RLeeeeaaaaaa4{f:A→B→C→D→U}(h:∃ a,∃ b,∃ c,∃ d,u=f a b c d∧pu0 a b c d∧pu1 a b c d∧pu2 a b c d∧pu3 a b c d∧pu4 a b c d∧pu5 a b c d)(k:∀ a,∀ b,∀ c,∀ d,pu0 a b c d→pu1 a b c d→pu2 a b c d→pu3 a b c d→pu4 a b c d→pu5 a b c d→Y (f a b c d)):Y u:=h.elim fun a h0=>h0.elim fun b h1=>h1.elim fun c h2=>h2.elim fun d h3=>Eq.subst (motive:=Y) (h3.1.symm) (k a b c d h3.2.1 h3.2.2.1 h3.2.2.2.1 h3.2.2.2.2.1 h3.2.2.2.2.2.1 h3.2.2.2.2.2.2)
theorem RLeeeeeeaaaa6{f:A→B→C→D→E→F→U}(h:∃ a,∃ b,∃ c,∃ d,∃ e,∃ g,u=f a b c d e g∧pw0 a b c d e g∧pw1 a b c d e g∧pw2 a b c d e g∧pw3 a b c d e g)(k:∀ a,∀ b,∀ c,∀ d,∀ e,∀ g,pw0 a b c d e g→pw1 a b c d e g→pw2 a b c d e g→pw3 a b c d e g→Y (f a b c d e g)):Y u:=h.elim fun a h0=>h0.elim fun b h1=>h1.elim fun c h2=>h2.elim fun d h3=>h3.elim fun e h4=>h4.elim fun g h5=>Eq.subst (motive:=Y) (h5.1.symm) (k a b c d e g h5.2.1 h5.2.2.1 h5.2.2.2.1 h5.2.2.2.2)
end
theorem oA {k c D:Nat} (h:c≤D) (hk:k≤c):D - k+k≤D:=by rw [Nat.sub_add_cancel (Nat.le_trans hk h)];exact Nat.le_refl _
theorem oB {a k c D:Nat} (h:c≤D) (h':a+k≤c):a≤D - k:=Nat.le_sub_of_add_le (Nat.le_trans h' h)
theorem oS {a D:Nat} (h:a+1≤D):a≤D - 1:=Nat.le_sub_of_add_le h
theorem oP {a p c D:Nat} (h1:a+1≤p) (h2:c+p≤D):c+a≤D - 1:=Nat.le_sub_of_add_le (Nat.le_trans (Nat.add_le_add_left h1 c) h2)
theorem oL {a b c D:Nat} (h:c+(max a b+1)≤D):c+a≤D - 1:=oP (Nat.succ_le_succ (Nat.le_max_left ..)) h
theorem oR {a b c D:Nat} (h:c+(max a b+1)≤D):c+b≤D - 1:=oP (Nat.succ_le_succ (Nat.le_max_right ..)) h
theorem oU {c u e b D k:Nat} (h:u≤e) (hD:b≤D) (hb:c+e+k≤b):c+u≤D - k:=oB hD (Nat.le_trans (Nat.add_le_add_right (Nat.add_le_add_left h c) k) hb)
theorem oV {c u e b D:Nat} (h:u≤e) (hD:b≤D) (hb:c+e≤b):c+u≤D:=Nat.le_trans (Nat.add_le_add_left h c) (Nat.le_trans hb hD)
theorem oX {a b c:Nat} (h:max a b+1≤c):a≤c:=Nat.le_trans (Nat.le_max_left a b) (Nat.le_of_succ_le h)
theorem oY {a b c:Nat} (h:max a b+1≤c):b≤c:=Nat.le_trans (Nat.le_max_right a b) (Nat.le_of_succ_le h)
theorem oT {a t n:Nat} (h:t < n+1) (h':a < t):a < n:=Nat.lt_of_lt_of_le h' (Nat.le_of_lt_succ h)
theorem oQ {a c n:Nat} (h:a+(n+1)≤c):a+1+n≤c:=by rw [Nat.add_assoc,Nat.add_comm 1 n];exact h
theorem oC {a b D k:Nat} (h:k+b≤D) (hk:a+1≤k):a+b≤D - 1:=oB h (by rw [Nat.add_right_comm];exact Nat.add_le_add_right hk b)
theorem oJ {a b c:Nat} (h:a+b≤c):a≤c:=Nat.le_trans (Nat.le_add_right ..) h
theorem oK {a b c:Nat} (h:a+b≤c):b≤c:=Nat.le_trans (Nat.le_add_left ..) h
section
open Lean
set_option compiler.extract_closed false
 def sN (k:String) (a:List Syntax):Syntax:=.node .none k.toName a.toArray
 def sT (k:String) (a:List Syntax):Syntax:=sN ("Lean.Parser.Tactic."++k) a
 def sM (k:String) (a:List Syntax):Syntax:=sN ("Lean.Parser.Term."++k) a
 def sA (s:String):Syntax:=.atom .none s
 def sI (n:String):Syntax:=.ident .none n.toRawSubstring n.toName []
 def sS (a:List Syntax):Syntax:=sT "tacticSeq" [sT "tacticSeq1Indented" [sN "null" a]]
 def sB (t:Syntax):Syntax:=sM "byTactic" [sA "by",sS [t]]
 def sP (a b:Syntax):Syntax:=sT "paren" [sA "(",sS [a,sA ";",b],sA ")"]
 def sD (a:List Syntax):Syntax:=sT "decide" [sA "decide",sT "optConfig" [sN "null" a]]
 def sK:Syntax:=sD [sT "configItem" [sT "posConfigItem" [sA "+",sI "kernel"]]]
 def sR:Syntax:=sT "tacticRfl" [sA "rfl"]
 def sH:Syntax:=sM "hole" [sA "_"]
 def sU (n:String) (a:List Syntax):Syntax:=if a.isEmpty then sI n else sM "app" [sI n,sN "null" a]
 def sC (k:String) (t:Syntax):Syntax:=sT k [sA k,t]
 def sF (a:List Syntax):Syntax:=sT "first" [sA "first",sN "null" (a.map fun t=>sN "group" [sA "|",sS [t]])]
 def sJ (n:Nat):Syntax:=sC "intro" (sN "null" (List.replicate n sH))
 def sO (o:String) (x a:Syntax):Syntax:=.node .none (.mkSimple ("term_"++o++"_")) #[x,sA o,a]
 def sE (o:String) (a:Syntax):Syntax:=sC "show" (sO o sH a)
 def mArg (c:Char):Syntax:=
 let a:=sB (sT "assumption" [sA "assumption"])
 let r:=sB sR
 let l:=fun (x:Syntax)=>sC "exact" x
 if c == '0' then r else if c == '1' then sB sK else if c == '2' then a else if c == '3' then sB (sD []) else if c == '4' then sB (sF [l (sU "Or.inl" [r]),l (sU "Or.inr" [sU "Or.inl" [r]]),l (sU "Or.inr" [sU "Or.inr" [r]])])
 else if c == '5' then sU "Nat.le_of_ble_eq_true" [r] else if c == '6' then sU "Nat.le_of_ble_eq_true" [sI "rfl"] else if c == '7' then sM "syntheticHole" [sA "?",sA "_"] else if c == '8' then sU "Nat.le_of_lt" [a] else if c == '9' then sU "Nat.le_of_eq" [a] else if c == 'r' then sI "rfl" else if c == '!' then sB (sN "PyProof.Rows.tacticKernel_rfl!" [sA "kernel_rfl!"]) else if c == '+' then sU "Nat.le_add_right" [sH,sH] else sH
 def mTm (n k:String):Syntax:=sU n (k.toList.map mArg)
 def mAlt (s:String):Syntax:=
 let p:=s.splitOn " "
 let t:=mTm (p.getD 1 "") (p.getD 2 "")
 let k:=p.getD 0 ""
 if k == "e" then sC "exact" t else if k == "c" then sC "refine" t else if k == "a" then sC "apply" t else if k == "n" then sP (sC "refine" t) (sF [sC "exact" (mTm "Nat.le_of_ble_eq_true" "r"),sC "exact" (mTm "Nat.le_trans" "6+")])
 else if k == "i" then sP (sC "apply" t) (sJ 1) else if k == "j" then sP (sJ 4) (sC "exact" t) else if k == "k" then sT "assumption" [sA "assumption"] else if k == "o" then sT "omega" [sA "omega",sT "optConfig" [sN "null" []]]
 else if k == "w" then sN "PyProof.Rows.tacticWalk_at_" [sA "walk_at",Syntax.mkStrLit (p.getD 1 "")]
 else if k == "l" then sP (sT "withReducible" [sA "with_reducible",sS [sC "show" (sO "=" (sU "locB" [sH,sH]) (sI "true"))]]) sK else if k == "=" then sP (sE "=" sH) sR else if k == "d" then sP (sE "≠" sH) sK else if k == "1" then sP (sJ 1) sR else sP (sJ 2) sR
 def mF (s:String):Syntax:=sF ((s.splitOn "|").map mAlt)
 def mW (s:String):Syntax:=sF ((s.splitOn ";").map fun g=>
 let p:=g.splitOn ":"
 if p.length == 3 then sP (sC "show" (mTm (p.getD 0 "") (p.getD 1 ""))) (mF (p.getD 2 "")) else mF g)
 def mOs:Syntax:=mF "k|n Nat.le_trans 72|n oA 27|n oB 27|e oS 2|e oP 22|e oL 2|e oR 2|e oC 26|e oD 26|e oU 226|e oV 226|e oX 2|e oY 2|e oT 22|e oQ 2|e Nat.le_trans 82|e Nat.le_trans 92|e oZ 226|e oJ 2|e oK 2|o"
 def mGs:Syntax:=mW "JE:________:w wJE;JM:___________:a JM.seq ;Op2:________:e op_item 00330;JT:________:w wJT;J1:_______:w wJ1;JS:_______:w wJS;CompJ0:__________:w wCompJ0;CompJ1:___________:w wCompJ1;CompJ2:____________:e CompJ2.nil ;LoopJ:_________:w wLoopJ;BI:_______:w wBI;CallR:______:k;JL:________:w wJL;SeqK:______:w wSeqK;IfK:_________:w wIfK;IfEK:__________:w wIfEK;AndK:_________:w wAndK;OrK:_________:w wOrK;CK:_____________:w wCK;LK:________:w wLK;l;ZArg:____:w wZArg;=;e Nat.le_of_ble_eq_true 0;e Or.inl 0|e Or.inr 0;e ScopeOk.of 1;d;j swapped_of 000000_222;1;2"
end
local macro_rules | `(tactic| walk_at "o")=>return mOs
local macro_rules | `(tactic| walk_at "mW")=>return mGs
local macro_rules | `(tactic| walk_at "wJE")=>return mF "e JE.clc r!|e JE.name 0400|e JE.cInt |e JE.cStr 1|a JE.sub |a JE.tuple |a JE.cmp |a JE.ife |a JE.list |e JE.cNone |e JE.cBool |a JE.bin |a JE.comp0 |a JE.comp1 "
local macro_rules | `(tactic| walk_at "wJT")=>return mF "e JT.clcF r!|e JT.clcT r!|c JT.cmpP rr!7|a JT.cmp |a JT.and |a JT.or |e JT.andNil |e JT.orNil |a JT.not |a JT.val "
local macro_rules | `(tactic| walk_at "wJ1")=>return mF "a J1.ife |a J1.retE |a J1.comp0 |a J1.assign |a J1.assign2 |a J1.forN |a J1.expr |e J1.retN "
local macro_rules | `(tactic| walk_at "wJS")=>return mF "c JS.adv r!7|e JS.nil |a JS.ret |a JS.if |a JS.seq "
local macro_rules | `(tactic| walk_at "wCompJ0")=>return mF "e CompJ0.nil |a CompJ0.cons 0"
local macro_rules | `(tactic| walk_at "wCompJ1")=>return mF "e CompJ1.nil |a CompJ1.step 0"
local macro_rules | `(tactic| walk_at "wLoopJ")=>return mF "e LoopJ.nil |a LoopJ.step 0"
local macro_rules | `(tactic| walk_at "wBI")=>return mF "e bi_tupleL 005|e bi_tupleT |e bi_len 05|e bi_list 05|e bi_int |e bi_intB |e bi_isStr |e bi_max |e bi_min "
local macro_rules | `(tactic| walk_at "wJL")=>return mF "e JL.clc r!|e JL.nil |a JL.cons "
local macro_rules | `(tactic| walk_at "wSeqK")=>return mF "e SeqK.rt |a SeqK.nx |e SeqK.ex "
local macro_rules | `(tactic| walk_at "wIfK")=>return mF "a IfK.f |a IfK.t "
local macro_rules | `(tactic| walk_at "wIfEK")=>return mF "a IfEK.f |a IfEK.t "
local macro_rules | `(tactic| walk_at "wAndK")=>return mF "e AndK.f |i AndK.t "
local macro_rules | `(tactic| walk_at "wOrK")=>return mF "e OrK.t |i OrK.f "
local macro_rules | `(tactic| walk_at "wCK")=>return mF "a CK.t |a CK.f "
local macro_rules | `(tactic| walk_at "wLK")=>return mF "a LK.nx |e LK.rt |e LK.ex "
local macro_rules | `(tactic| walk_at "wZArg")=>return mF "e ZArg.t |e ZArg.l "

theorem nn {α:Type} {a:α} {Z:Prop} (h:none=some a):Z:=nomatch h
theorem nb {Z:Prop} (h:false=true):Z:=nomatch h
structure Tmpl where
 name:Str
 qual:Str
 params:Arguments
 body:FuncBody
 scope:Scope
noncomputable abbrev Tmpl.fd (T:Tmpl) (cl:List (Str × Addr)) (doc pm cdv ct:Value):FuncData:=
 { name:=T.name,qualname:=T.qual,params:=T.params,body:=T.body,scope:=T.scope,globals:=mainGlobals,closure:=cl,defaults:=.none,kwdefaults:=.none,doc:=doc,pyModule:=pm,annotations:=none,code:=cdv,closureTuple:=ct,builtins:=builtinsNs }
inductive AV where
 | p (x:PyData)
 | lst (l:List AV)
 | dct (l:List (Str × AV))
 | ins (c:Addr) (l:List (Str × AV))
 | val (v:Value)
 | loc (i:Nat)
 | clo (T:Tmpl) (l:List (Str × AV))
inductive AO where
 | lst (l:List AV)
 | dct (l:List (Str × AV))
 | att (l:List (Str × AV))
 | ins (c:Addr) (d:Nat)
 | exc (c:Addr) (d:Option Nat)
noncomputable abbrev Mp:=List (Str × AV)
structure Cx where
 prog:Program
 w:World
 H0:Heap
 tabs:List (Addr × Addr)
 tq:Addr→Str
 K:Frag
 mg:Str→Option Value
 mb:Str→Option Value
noncomputable def Cx.tabP (C:Cx) (a:Addr):Prop:=a∈C.tabs.map (·.2)
structure Cx.Ok (C:Cx):Prop where
 g:C.H0.Ns mainGlobals C.mg
 b:C.H0.Ns builtinsNs C.mb
 nolimit:C.H0.NoLimit
 bi:∀ x:Str,x≠"__name__"→C.mb x=bootBuiltins x
 X:C.K.In C.H0
 bat:∃ (bm:Addr) (ob:Obj),C.mg "__builtins__"=some (.ref bm)∧bm≠builtinsNs∧C.H0.get? bm=some ob∧ob.cls=.type "module"∧ob.dict=some builtinsNs∧ob.data=.plain
 code:∀ q∈C.tabs,CodeHd C.H0 q.1 q.2
 tab:∀ q∈C.tabs,C.H0.get? q.2=none
structure St where
 s:Shared
 F:Addr→Prop
 r:List Addr
 fs:List Addr
noncomputable abbrev St.h (G:St):Heap:=G.s.heap
noncomputable def St.sz (G:St):Nat:=G.h.objs.size
mutual
inductive PR (h:Heap) (F:Addr→Prop):Value→PyData→Prop
 | none:PR h F .none .none
 | bool (b):PR h F (.bool b) (.bool b)
 | int (i t):PR h F (.int i t) (.int i)
 | str (x t):PR h F (.str x t) (.str x)
 | list {a o vs n xs}:F a→h.get? a=some o→(o.cls=.type "list"∧o.dict=none)→o.data=.seq vs n→PRs h F vs.toList xs→PR h F (.ref a) (.list xs)
 | tuple {a o vs n xs}:F a→h.get? a=some o→o.cls=.type "tuple"→o.data=.seq vs n→PRs h F vs.toList xs→PR h F (.ref a) (.tuple xs)
inductive PRs (h:Heap) (F:Addr→Prop):List Value→List PyData→Prop
 | nil:PRs h F [] []
 | cons {v vs x xs}:PR h F v x→PRs h F vs xs→PRs h F (v::vs) (x::xs)
end
noncomputable def KeyHash (w:World) (es:Array DictEntry):Prop:=∀ e∈es,∃ k,Value.isStrOf k e.key=true∧e.hash=hashStr w k
noncomputable def findEs (es:Array DictEntry) (k:Str):Option Value:=(es.toList.find? fun e=>Value.isStrOf k e.key).map (·.val)
noncomputable def CodeAtV (h:Heap) (F:Addr→Prop) (v:Value) (q:Str):Prop:=∃ c o vs t,v=.ref c∧F c∧h.get? c=some o∧o.data=.fields vs∧vs[1]?=some (.str q t)
mutual
inductive VR (C:Cx) (G:St):Value→AV→Prop
 | p {v x}:PR G.h G.F v x→x.canLay0=true→VR C G v (.p x)
 | lst {a o vs n l}:G.F a→G.h.get? a=some o→(o.cls=.type "list"∧o.dict=none)→o.data=.seq vs n→VRs C G vs.toList l→VR C G (.ref a) (.lst l)
 | dct {a o es n l} (g:Str→Value):G.F a→G.h.get? a=some o→o.ExactDict→o.data=.dict es n→KeyHash C.w es→(∀ k x,l.lookup k=some x→findEs es k=some (g k))→(∀ k x,l.lookup k=some x→VR C G (g k) x)→(∀ k,l.lookup k=none→findEs es k=none)→(a == sysModules)=false→VR C G (.ref a) (.dct l)
 | ins {x d c es n sl l}:G.F x→G.F d→G.h.get? x=some ⟨.ref c,some d,.plain,sl⟩→G.h.get? d=some (dictOf es n)→VRd C G es l→VR C G (.ref x) (.ins c l)
 | val (v):VR C G v (.val v)
 | loc {i a}:G.r[i]?=some a→VR C G (.ref a) (.loc i)
 | clo {T:Tmpl} {a oc od sl cl doc pm cdv ct l}:G.F a→G.h.get? a=some ⟨oc,od,.func (T.fd cl doc pm cdv ct),sl⟩ →
   CodeAtV G.h G.F cdv T.qual→VRc C G cl l→(∀ x c,cl.lookup x=some c→(l.lookup x).isSome=true)→VR C G (.ref a) (.clo T l)
inductive VRs (C:Cx) (G:St):List Value→List AV→Prop
 | nil:VRs C G [] []
 | cons {v vs x xs}:VR C G v x→VRs C G vs xs→VRs C G (v::vs) (x::xs)
inductive VRd (C:Cx) (G:St):List DictEntry→Mp→Prop
 | nil:VRd C G [] []
 | cons {e es k x l}:Value.isStrOf k e.key=true→VR C G e.val x→VRd C G es l→VRd C G (e::es) ((k,x)::l)
inductive VRc (C:Cx) (G:St):List (Str × Addr)→Mp→Prop
 | nil {cl}:VRc C G cl []
 | cons {cl c o v k x l}:cl.lookup k=some c→G.F c→G.h.get? c=some o→o.data=.cell (some v)→VR C G v x→VRc C G cl l→VRc C G cl ((k,x)::l)
end
section mono
variable {C:Cx} {G G':St}
theorem PR.mono {h h':Heap} {F F':Addr→Prop} (hF:∀ a,F a→F' a) (hk:∀ a o,F a→h.get? a=some o→h'.get? a=some o) {v:Value} {x:PyData} (H:PR h F v x):PR h' F' v x:=
 PR.rec (motive_1:=fun v x _=>PR h' F' v x) (motive_2:=fun v x _=>PRs h' F' v x) .none PR.bool PR.int PR.str (fun a b c d _ i=>.list (hF _ a) (hk _ _ a b) c d i) (fun a b c d _ i=>.tuple (hF _ a) (hk _ _ a b) c d i) .nil (fun _ _ i j=>.cons i j) H
theorem PRs.mono {h h':Heap} {F F':Addr→Prop} (hF:∀ a,F a→F' a) (hk:∀ a o,F a→h.get? a=some o→h'.get? a=some o) {v:List Value} {x:List PyData} (H:PRs h F v x):PRs h' F' v x:=
 PRs.rec (motive_1:=fun v x _=>PR h' F' v x) (motive_2:=fun v x _=>PRs h' F' v x) .none PR.bool PR.int PR.str (fun a b c d _ i=>.list (hF _ a) (hk _ _ a b) c d i) (fun a b c d _ i=>.tuple (hF _ a) (hk _ _ a b) c d i) .nil (fun _ _ i j=>.cons i j) H
theorem CodeAtV.mono {h h':Heap} {F F':Addr→Prop} {v:Value} {q:Str} (hF:∀ a,F a→F' a) (hk:∀ a o,F a→h.get? a=some o→h'.get? a=some o):CodeAtV h F v q→CodeAtV h' F' v q:=
 fun H=>Zeeeeaaa H fun c o vs t e f g r=>(Ieeeeaaa c o vs t e (hF _ f) (hk _ _ f g) r)
theorem VR.mono (hF:∀ a,G.F a→G'.F a) (hk:∀ a o,G.F a→G.h.get? a=some o→G'.h.get? a=some o) (hr:∀ (i:Nat) (a:Addr),G.r[i]?=some a→G'.r[i]?=some a) {v:Value} {x:AV} (H:VR C G v x):VR C G' v x:=
 VR.rec (motive_1:=fun v x _=>VR C G' v x) (motive_2:=fun v x _=>VRs C G' v x) (motive_3:=fun v x _=>VRd C G' v x) (motive_4:=fun v x _=>VRc C G' v x) (fun a b=>.p (PR.mono hF hk a) b) (fun a b c d _ i=>.lst (hF _ a) (hk _ _ a b) c d i) (fun g a b c d e f _ f3 z i=>.dct g (hF _ a) (hk _ _ a b) c d e f i f3 z) (fun a b c d _ i=>.ins (hF _ a) (hF _ b) (hk _ _ a c) (hk _ _ b d) i) VR.val (fun a=>.loc (hr _ _ a)) (fun a b c _ e i=>.clo (hF _ a) (hk _ _ a b) (c.mono hF hk) i e) .nil (fun _ _ i j=>.cons i j) .nil (fun a _ _ i j=>.cons a i j) .nil (fun a b c d _ _ i j=>.cons a (hF _ b) (hk _ _ b c) d i j) H
theorem VRs.mono (hF:∀ a,G.F a→G'.F a) (hk:∀ a o,G.F a→G.h.get? a=some o→G'.h.get? a=some o) (hr:∀ (i:Nat) (a:Addr),G.r[i]?=some a→G'.r[i]?=some a) {v:List Value} {x:List AV} (H:VRs C G v x):VRs C G' v x:=
 VRs.rec (motive_1:=fun v x _=>VR C G' v x) (motive_2:=fun v x _=>VRs C G' v x) (motive_3:=fun v x _=>VRd C G' v x) (motive_4:=fun v x _=>VRc C G' v x) (fun a b=>.p (PR.mono hF hk a) b) (fun a b c d _ i=>.lst (hF _ a) (hk _ _ a b) c d i) (fun g a b c d e f _ f3 z i=>.dct g (hF _ a) (hk _ _ a b) c d e f i f3 z) (fun a b c d _ i=>.ins (hF _ a) (hF _ b) (hk _ _ a c) (hk _ _ b d) i) VR.val (fun a=>.loc (hr _ _ a)) (fun a b c _ e i=>.clo (hF _ a) (hk _ _ a b) (c.mono hF hk) i e) .nil (fun _ _ i j=>.cons i j) .nil (fun a _ _ i j=>.cons a i j) .nil (fun a b c d _ _ i j=>.cons a (hF _ b) (hk _ _ b c) d i j) H
theorem VRd.mono (hF:∀ a,G.F a→G'.F a) (hk:∀ a o,G.F a→G.h.get? a=some o→G'.h.get? a=some o) (hr:∀ (i:Nat) (a:Addr),G.r[i]?=some a→G'.r[i]?=some a) {v:List DictEntry} {x:Mp} (H:VRd C G v x):VRd C G' v x:=
 VRd.rec (motive_1:=fun v x _=>VR C G' v x) (motive_2:=fun v x _=>VRs C G' v x) (motive_3:=fun v x _=>VRd C G' v x) (motive_4:=fun v x _=>VRc C G' v x) (fun a b=>.p (PR.mono hF hk a) b) (fun a b c d _ i=>.lst (hF _ a) (hk _ _ a b) c d i) (fun g a b c d e f _ f3 z i=>.dct g (hF _ a) (hk _ _ a b) c d e f i f3 z) (fun a b c d _ i=>.ins (hF _ a) (hF _ b) (hk _ _ a c) (hk _ _ b d) i) VR.val (fun a=>.loc (hr _ _ a)) (fun a b c _ e i=>.clo (hF _ a) (hk _ _ a b) (c.mono hF hk) i e) .nil (fun _ _ i j=>.cons i j) .nil (fun a _ _ i j=>.cons a i j) .nil (fun a b c d _ _ i j=>.cons a (hF _ b) (hk _ _ b c) d i j) H
@[elab_as_elim] theorem VRd.ind {mo:List DictEntry→Mp→Prop} (hn:mo [] []) (hc:∀ {e es k x l},Value.isStrOf k e.key=true→VR C G e.val x→VRd C G es l→mo es l→mo (e::es) ((k,x)::l)) {es:List DictEntry} {l:Mp} (H:VRd C G es l):mo es l:=
 VRd.rec (motive_1:=fun _ _ _=>True) (motive_2:=fun _ _ _=>True) (motive_3:=fun a b _=>mo a b) (motive_4:=fun _ _ _=>True) (fun _ _=>trivial) (fun _ _ _ _ _ _=>trivial) (fun _ _ _ _ _ _ _ _ _ _ _=>trivial) (fun _ _ _ _ _ _=>trivial) (fun _=>trivial) (fun _=>trivial) (fun _ _ _ _ _ _=>trivial) trivial (fun _ _ _ _=>trivial) hn (fun a b c _ i=>hc a b c i) trivial (fun _ _ _ _ _ _ _ _=>trivial) H
@[elab_as_elim] theorem VRc.ind {mo:List (Str × Addr)→Mp→Prop} (hn:∀ {cl},mo cl []) (hc:∀ {cl c o v k x l},cl.lookup k=some c→G.F c→G.h.get? c=some o→o.data=.cell (some v)→VR C G v x→VRc C G cl l→mo cl l→mo cl ((k,x)::l)) {cl:List (Str × Addr)} {l:Mp} (H:VRc C G cl l):mo cl l:=
 VRc.rec (motive_1:=fun _ _ _=>True) (motive_2:=fun _ _ _=>True) (motive_3:=fun _ _ _=>True) (motive_4:=fun a b _=>mo a b) (fun _ _=>trivial) (fun _ _ _ _ _ _=>trivial) (fun _ _ _ _ _ _ _ _ _ _ _=>trivial) (fun _ _ _ _ _ _=>trivial) (fun _=>trivial) (fun _=>trivial) (fun _ _ _ _ _ _=>trivial) trivial (fun _ _ _ _=>trivial) trivial (fun _ _ _ _ _=>trivial) hn (fun a b c d e f _ i=>hc a b c d e f i) H
end mono
noncomputable def TrO (C:Cx) (G:St) (a:Addr):AO→Prop
 | .lst l=>∃ o vs n,G.h.get? a=some o∧(o.cls=.type "list"∧o.dict=none)∧o.data=.seq vs n∧VRs C G vs.toList l
 | .dct l=>∃ o es n,G.h.get? a=some o∧o.ExactDict∧o.data=.dict es n∧∃ kvs,(KeysOf (strKind C.prog C.w) es∧Pairs (strKind C.prog C.w) es.toList kvs∧(kvs.map (·.1)).Nodup)∧kvs.length≤l.length∧((∀ k x,l.lookup k=some x→∃ u,valueAt kvs k=some u∧VR C G u x)∧∀ k,l.lookup k=none→valueAt kvs k=none)∧(a == sysModules)=false
 | .att l=>∃ es n,G.h.get? a=some (dictOf es n)∧VRd C G es l∧(l.map (·.1)).Nodup
 | .ins c d=>∃ da sl,G.r[d]?=some da∧G.h.get? a=some ⟨.ref c,some da,.plain,sl⟩
 | .exc c d=>∃ o vs a0,G.h.get? a=some o∧(o.cls=.ref c∧o.data=.fields vs∧vs[0]?=some a0∧vs[1]?=some .none)∧match d with
  | none=>o.dict=none
  | some k=>∃ da,G.r[k]?=some da∧o.dict=some da
noncomputable abbrev Sto:=List AO
noncomputable def TabInv (C:Cx) (G:St):Prop:=∀ q∈C.tabs,∃ ps,G.h.get? q.2=some (tabObj ps)∧TriplesOk ps.toList∧∀ pos v,codeAmong pos ps.toList=some v→CodeAtV G.h G.F v (C.tq q.2)
structure Inv (C:Cx) (G:St) (σ:Sto):Prop where
 base:∀ a o,C.H0.get? a=some o→G.F a∧G.h.get? a=some o
 fz:∀ a,G.F a→(∃ o,G.h.get? a=some o)∧a ∉ G.r∧¬ C.tabP a∧a ∉ G.fs
 len:G.r.length=σ.length
 trk:∀ (i:Nat) (a:Addr) (o:AO),G.r[i]?=some a→σ[i]?=some o→TrO C G a o
 nd:G.r.Nodup
 rtab:∀ a∈G.r,¬ C.tabP a∧a ∉ G.fs
 ftab:∀ a∈G.fs,¬ C.tabP a∧∃ o,G.h.get? a=some o
 tab:TabInv C G
structure Step (C:Cx) (X:Addr→Prop) (G G':St):Prop where
 keep:∀ a o,G.h.get? a=some o→¬ X a→¬ C.tabP a→a ∉ G.fs→G'.h.get? a=some o
 keepF:∀ a o,G.h.get? a=some o→¬ X a→a∈G.fs→∃ sl,G'.h.get? a=some { o with slots:=sl }
 alive:∀ a o,G.h.get? a=some o→∃ o',G'.h.get? a=some o'
 fz:∀ a,G.F a→G'.F a
 new:∀ a,G'.F a→G.F a∨G.h.get? a=none
 rr:∃ r,G'.r=G.r++r∧∀ a∈r,G.h.get? a=none
 fs:G'.fs=G.fs
 gens:G'.s.gens=G.s.gens
 drawn:G'.s.drawn=G.s.drawn
 os:G'.s.os=G.s.os
section
variable {C:Cx} {G G' G'':St} {X Y:Addr→Prop} {σ:Sto}
theorem Step.refl:Step C X G G:=⟨fun _ _ e _ _ _=>e,fun _ o e _ _=>⟨o.slots,e⟩,fun _ o e=>⟨o,e⟩,fun _ h=>h,fun _ h=>.inl h,(Iea ([]) ((List.append_nil _).symm) (fun _ h=>nomatch h)),rfl,rfl,rfl,rfl⟩
theorem Step.dead (a:Step C X G G') {x:Addr} (h:G'.h.get? x=none):G.h.get? x=none:=by
 cases q:G.h.get? x with
 | none=>rfl
 | some o=>refine Ze (a.alive x o q) fun o' e=>?_;rw [h] at e;cases e
theorem Step.trans (a:Step C X G G') (b:Step C Y G' G'') (hY:∀ x,Y x→X x∨G.h.get? x=none):Step C X G G'' where
 keep x o e hx ht hf:=b.keep x o (a.keep x o e hx ht hf) (fun hy=>(hY x hy).elim hx fun z=>by rw [e] at z;cases z) ht (a.fs▸hf)
 keepF x o e hx hf:=by
  refine Ze (a.keepF x o e hx hf) fun sl e1=>?_
  refine Ze (b.keepF x _ e1 (fun hy=>(hY x hy).elim hx fun z=>by rw [e] at z;cases z) (a.fs▸hf)) fun sl2 e2=>?_
  exact ⟨sl2,e2⟩
 alive x o e:=let ⟨o',e'⟩:=a.alive x o e;b.alive x o' e'
 fz x h:=b.fz x (a.fz x h)
 new x h:=by
  rcases b.new x h with h | h
  ·exact a.new x h
  ·exact .inr (a.dead h)
 rr:=by
  refine Zea a.rr fun r e k=>?_
  refine Zea b.rr fun r' e' k'=>?_
  refine (Iea (r++r') (by rw [e',e,List.append_assoc]) (fun x hx=>?_))
  rcases List.mem_append.mp hx with hx | hx
  ·exact k x hx
  ·exact a.dead (k' x hx)
 fs:=b.fs.trans a.fs
 gens:=b.gens.trans a.gens
 drawn:=b.drawn.trans a.drawn
 os:=b.os.trans a.os
theorem Step.weaken (a:Step C X G G') (h:∀ x,X x→Y x∨G.h.get? x=none):Step C Y G G' where
 keep x o e hx ht hf:=a.keep x o e (fun q=>(h x q).elim hx fun z=>by rw [e] at z;cases z) ht hf
 keepF x o e hx hf:=a.keepF x o e (fun q=>(h x q).elim hx fun z=>by rw [e] at z;cases z) hf
 alive:=a.alive
 fz:=a.fz
 new:=a.new
 rr:=a.rr
 fs:=a.fs
 gens:=a.gens
 drawn:=a.drawn
 os:=a.os
theorem Step.rget (a:Step C X G G') {i:Nat} {x:Addr} (h:G.r[i]?=some x):G'.r[i]?=some x:=by
 refine Zea a.rr fun r e _=>?_
 rw [e,List.getElem?_append_left (List.getElem?_eq_some_iff.mp h).1];exact h
theorem Step.rold (a:Step C X G G') {x:Addr} (h:x∈G'.r):x∈G.r∨G.h.get? x=none:=by
 refine Zea a.rr fun r e k=>?_
 rw [e] at h
 exact (List.mem_append.mp h).imp id (k x)
theorem Inv.stay (I:Inv C G σ) (a:Step C X G G') (hX:∀ x,X x→¬ G.F x) {x:Addr} {o:Obj} (hf:G.F x) (e:G.h.get? x=some o):G'.h.get? x=some o:=by
 refine Zaaa (I.fz x hf) fun _ _ h3 h4=>?_
 exact a.keep x o e (fun q=>hX x q hf) h3 h4
theorem VR.step {v:Value} {x:AV} (k:VR C G v x) (I:Inv C G σ) (a:Step C X G G') (hX:∀ x,X x→¬ G.F x):VR C G' v x:=
 k.mono a.fz (fun _ _ hf e=>I.stay a hX hf e) fun _ _=>a.rget
theorem VRs.step {v:List Value} {x:List AV} (k:VRs C G v x) (I:Inv C G σ) (a:Step C X G G') (hX:∀ x,X x→¬ G.F x):VRs C G' v x:=
 k.mono a.fz (fun _ _ hf e=>I.stay a hX hf e) fun _ _=>a.rget
theorem VRd.step {v:List DictEntry} {x:Mp} (k:VRd C G v x) (I:Inv C G σ) (a:Step C X G G') (hX:∀ x,X x→¬ G.F x):VRd C G' v x:=
 k.mono a.fz (fun _ _ hf e=>I.stay a hX hf e) fun _ _=>a.rget
theorem Inv.trkF (I:Inv C G σ) {x:Addr} (h:x∈G.r):¬ G.F x:=fun q=>(I.fz x q).2.1 h
noncomputable abbrev St.tr (G:St):Addr→Prop:=fun a=>a∈G.r
theorem Inv.hX (I:Inv C G σ):∀ x,G.tr x→¬ G.F x:=fun _ h=>I.trkF h
theorem TrO.step {a:Addr} {o:AO} (k:TrO C G a o) (I:Inv C G σ) (b:Step C X G G') (hX:∀ x,X x→¬ G.F x) (e:∀ oo,G.h.get? a=some oo→G'.h.get? a=some oo):TrO C G' a o:=by
 cases o with
 | lst l=>refine Zeeeaaa k fun o vs n h1 h2 h3 h4=>?_;exact (Ieeeaaa o vs n (e _ h1) h2 h3 (h4.step I b hX))
 | dct l=>refine Zeeeaaaeaaa k fun o es n h1 h2 h3 kvs h4 hz h5 h6=>?_;exact (Ieeeaaaeaaa o es n (e _ h1) h2 h3 kvs h4 hz ⟨fun k x h=>let ⟨u,p,q⟩:=h5.1 k x h;(Iea u p (q.step I b hX)),h5.2⟩ h6)
 | att l=>refine Zeeaa k fun es n h1 h2 h3=>?_;exact (Ieeaa es n (e _ h1) (h2.step I b hX) h3)
 | ins c d=>refine Zeea k fun da sl h1 h2=>?_;exact (Ieea da sl (b.rget h1) (e _ h2))
 | exc c d=>
  refine Zeeeaa k fun o vs a0 h1 h2 h3=>?_
  refine (Ieeeaa o vs a0 (e _ h1) h2 ?_)
  cases d with
  | none=>exact h3
  | some k=>refine Zea h3 fun da h4 h5=>?_;exact (Iea da (b.rget h4) h5)
theorem TrO.there {a:Addr} {o:AO} (k:TrO C G a o):∃ oo,G.h.get? a=some oo:=by
 cases o with
 | lst l=>refine Zeeea k fun o vs n h1 _=>?_;exact ⟨_,h1⟩
 | dct l=>refine Zeeea k fun o es n h1 _=>?_;exact ⟨_,h1⟩
 | att l=>refine Zeea k fun es n h1 _=>?_;exact ⟨_,h1⟩
 | ins c d=>refine Zeea k fun da sl h1 h2=>?_;exact ⟨_,h2⟩
 | exc c d=>refine Zeeea k fun o vs a0 h1 _=>?_;exact ⟨_,h1⟩
theorem Inv.thereT (I:Inv C G σ) {a:Addr} (h:a∈G.r):∃ oo,G.h.get? a=some oo:=by
 refine Ze (List.mem_iff_getElem?.mp h) fun i hi=>?_
 have hl:=(List.getElem?_eq_some_iff.mp hi).1
 rw [I.len] at hl
 exact (I.trk i a _ hi (List.getElem?_eq_getElem hl)).there
noncomputable def St.grow (G:St) (h':Heap) (tk:Nat) (P:Addr→Prop):St:=⟨{ G.s with heap:=h',toks:=tk },fun a=>G.F a∨P a,G.r,G.fs⟩
theorem grow_step {h':Heap} {tk:Nat} {P:Addr→Prop} (hk:∀ b o,G.h.get? b=some o→h'.get? b=some o) (hP:∀ a,P a→G.h.get? a=none):Step C X G (G.grow h' tk P) where
 keep a o e _ _ _:=hk a o e
 keepF a o e _ _:=⟨o.slots,hk a o e⟩
 alive a o e:=⟨o,hk a o e⟩
 fz _ h:=.inl h
 new _ h:=h.imp id (hP _)
 rr:=(Iea ([]) ((List.append_nil _).symm) (fun _ h=>nomatch h))
 fs:=rfl
 gens:=rfl
 drawn:=rfl
 os:=rfl
theorem grow_inv (I:Inv C G σ) {h':Heap} {tk:Nat} {P:Addr→Prop} (hk:∀ b o,G.h.get? b=some o→h'.get? b=some o) (hP:∀ a,P a→G.h.get? a=none∧∃ o,h'.get? a=some o):Inv C (G.grow h' tk P) σ where
 base a o e:=⟨.inl (I.base a o e).1,hk _ _ (I.base a o e).2⟩
 fz a h:=by
  rcases h with h | h
  ·refine Za (I.fz a h) fun z18 r=>?_
   refine Ze z18 fun o e=>?_
   exact ⟨⟨o,hk _ _ e⟩,r⟩
  ·refine Zae (hP a h) fun e o e'=>?_
   refine (Iaaa ⟨o,e'⟩ (fun q=>?_) (fun q=>?_) (fun q=>?_))
   ·refine Ze (I.thereT q) fun oo e2=>?_;rw [e] at e2;cases e2
   ·refine Zea (List.mem_map.mp q) fun t ht z17=>?_
    obtain rfl:=z17
    refine Zea (I.tab t ht) fun ps e2 _=>?_;rw [e] at e2;cases e2
   ·refine Zae (I.ftab a q) fun _ oo e2=>?_;rw [e] at e2;cases e2
 len:=I.len
 trk i a o h1 h2:=(I.trk i a o h1 h2).step (X:=fun _=>False) I (grow_step hk fun a h=>(hP a h).1) (fun _ h=>h.elim) fun _ e=>hk _ _ e
 nd:=I.nd
 rtab:=I.rtab
 ftab a h:=⟨(I.ftab a h).1,let ⟨o,e⟩:=(I.ftab a h).2;⟨o,hk _ _ e⟩⟩
 tab q hq:=by
  refine Zeaa (I.tab q hq) fun ps e t k=>?_
  exact (Ieaa ps (hk _ _ e) t (fun pos v h=>(k pos v h).mono (fun _ h=>.inl h) fun _ _ _ e=>hk _ _ e))
end

noncomputable def AOk (A:Around) (D:Nat):Prop:=A.handled=none∧A.depth+D < recursionLimit∧A.units+8 * D+128 < cLine
theorem AOk.le {A:Around} {D D':Nat} (h:AOk A D) (k:D'≤D):AOk A D':=(Iaa h.1 (by have:=h.2.1;omega) (by have:=h.2.2;omega))
noncomputable def StackOk (A:Around) (G:St):Prop:=∃ l,A.frames=some l∧∀ en∈l,en.scope.kind=.function∧∃ L o,en.frame=some L∧L∈G.fs∧G.h.get? L=some o∧∀ vs,o.data≠.fields vs
noncomputable def InfOk (env:Env) (sc:Scope) (m:Mp):Prop:=sc.names.lookup ("<env>":Str)=none→∀ c q,m.lookup ("<env>":Str)=some (.ins c [(q,.val .none)])→env.code=.ref c∧env.qual=q
theorem InfOk.store {env:Env} {sc:Scope} {m:Mp} (h:InfOk env sc m) {x:Str} {v:AV} (hk:sc.names.lookup x≠none):InfOk env sc ((x,v)::m):=fun hn c q e=>by
 refine h hn c q ?_
 rw [List.lookup_cons] at e
 have hx:(("<env>":Str) == x)=false:=by
  rw [beq_eq_false_iff_ne]
  intro q;rw [← q] at hk;exact hk hn
 rw [hx] at e;exact e
structure EnvOk (C:Cx) (A:Around) (G:St) (env:Env) (sc:Scope) (m:Mp):Prop where
 scE:env.scope=sc
 kind:sc.kind=.function
 glob:env.globals=mainGlobals
 bi:env.builtins=builtinsNs
 ns:∃ ml,G.h.Ns env.locals ml∧∀ x v,m.lookup x=some v→sc.names.lookup x=some .local→∃ u,ml x=some u∧VR C G u v
 cell:∀ x,(sc.names.lookup x=some .cell∨sc.names.lookup x=some .free)→∃ c,env.cells.lookup x=some c∧(∃ u,G.h.IsCell c u)∧(∀ v,m.lookup x=some v→∃ u,G.h.IsCell c (some u)∧VR C G u v)∧c ∉ G.r∧¬ C.tabP c∧c ∉ G.fs
 off:env.locals ∉ G.r∧¬ C.tabP env.locals∧¬ G.F env.locals
 stk:StackOk A G
 live:∀ x c,env.cells.lookup x=some c→∃ o,G.h.get? c=some o
 inf:InfOk env sc m
theorem Ns.stepG {C:Cx} {G G':St} {X:Addr→Prop} (b:Step C X G G') {a:Addr} {ml:Str→Option Value} (h:G.h.Ns a ml) (h1:¬ X a) (h2:¬ C.tabP a):G'.h.Ns a ml:=by
 refine Zeeeaa h fun o es ep e hd r=>?_
 by_cases hf:a∈G.fs
 ·refine Ze (b.keepF a o e h1 hf) fun sl e'=>?_
  exact (Ieeeaa _ es ep e' hd r)
 ·exact (Ieeeaa o es ep (b.keep a o e h1 h2 hf) hd r)
theorem IsCell.stepG {C:Cx} {G G':St} {X:Addr→Prop} (b:Step C X G G') {a:Addr} {v:Option Value} (h:G.h.IsCell a v) (h1:¬ X a) (h2:¬ C.tabP a):G'.h.IsCell a v:=by
 refine Zea h fun o e hd=>?_
 by_cases hf:a∈G.fs
 ·refine Ze (b.keepF a o e h1 hf) fun sl e'=>?_
  exact (Iea _ e' hd)
 ·exact (Iea o (b.keep a o e h1 h2 hf) hd)
theorem StackOk.step {C:Cx} {A:Around} {G G':St} {X:Addr→Prop} (h:StackOk A G) (b:Step C X G G') (hX:∀ a∈G.fs,¬ X a):StackOk A G':=by
 refine Zea h fun l e k=>?_
 refine (Iea l e (fun en hen=>?_))
 refine Zaeeaaa (k en hen) fun k1 L o h1 h2 h3 h4=>?_
 refine Ze (b.keepF L o h3 (hX L h2) h2) fun sl e'=>?_
 exact (Iaeeaaa k1 L _ h1 (b.fs▸h2) e' h4)
theorem Inv.fsX {C:Cx} {G:St} {σ:Sto} (I:Inv C G σ):∀ a∈G.fs,¬ G.tr a:=fun a h q=>(I.rtab a q).2 h
theorem EnvOk.step {C:Cx} {A:Around} {G G':St} {env:Env} {sc:Scope} {m:Mp} {σ:Sto} (h:EnvOk C A G env sc m) (I:Inv C G σ) (b:Step C G.tr G G'):EnvOk C A G' env sc m where
 scE:=h.scE
 kind:=h.kind
 glob:=h.glob
 bi:=h.bi
 ns:=by
  refine Zea h.ns fun ml hn k=>?_
  exact (Iea ml (Ns.stepG b hn h.off.1 h.off.2.1) (fun x v e1 e2=>let ⟨u,a,c⟩:=k x v e1 e2;(Iea u a (c.step I b I.hX))))
 cell x e2:=by
  refine Zeaaaa (h.cell x e2) fun c h1 z10 h3 h4 h5=>?_
  refine Ze z10 fun u0 h2=>?_
  refine (Ieaaaaa c h1 ⟨u0,IsCell.stepG b h2 h4 h5.1⟩ (fun v e1=>?_) (fun q=>?_) h5.1 (b.fs▸h5.2))
  ·refine Zea (h3 v e1) fun u h6 h7=>?_
   exact (Iea u (IsCell.stepG b h6 h4 h5.1) (h7.step I b I.hX))
  ·rcases b.rold q with q | q
   ·exact h4 q
   ·refine Zea h2 fun o e _=>?_;rw [q] at e;cases e
 off:=by
  have there:G.h.get? env.locals≠none:=by refine Zea h.ns fun ml z9 _=>?_;refine Zeeea z9 fun o es ep e _=>?_;rw [e];intro q;cases q
  refine (Iaa (fun q=>?_) h.off.2.1 (fun q=>?_))
  ·rcases b.rold q with q | q
   ·exact h.off.1 q
   ·exact there q
  ·rcases b.new _ q with q | q
   ·exact h.off.2.2 q
   ·exact there q
 stk:=h.stk.step b I.fsX
 live x c e:=let ⟨o,e'⟩:=h.live x c e;b.alive c o e'
 inf:=h.inf
noncomputable def GlOk (C:Cx) (gl:Str→Option AV):Prop:=∀ x v,gl x=some v→∃ u,C.mg x=some u∧∀ G σ,Inv C G σ→VR C G u v
section
variable (C:Cx) (D:Nat)
noncomputable abbrev W {α:Type} (A:Around) (t:Sem α) (Q:α→Shared→Prop) (E:Value→Shared→Prop) (s:Shared):Prop:=wpAny (model C.prog C.w) A t Q E s
noncomputable def Gives (A:Around) (G:St) (t:Sem Value) (v:AV) (σ':Sto):Prop:=∀ (Q E),(∀ u G',Step C G.tr G G'→Inv C G' σ'→VR C G' u v→Q u G'.s)→W C A t Q E G.s
noncomputable def GivesL (A:Around) (G:St) (t:Sem (List Value)) (v:List AV) (σ':Sto):Prop:=∀ (Q E),(∀ u G',Step C G.tr G G'→Inv C G' σ'→VRs C G' u v→Q u G'.s)→W C A t Q E G.s
noncomputable def GivesB (A:Around) (G:St) (t:Sem Bool) (b:Bool) (σ':Sto):Prop:=∀ (Q E),(∀ G',Step C G.tr G G'→Inv C G' σ'→Q b G'.s)→W C A t Q E G.s
noncomputable def EvE (sc:Scope) (m:Mp) (σ:Sto) (e:Expr) (v:AV) (σ':Sto):Prop:=∀ A G env,AOk A D→Inv C G σ→EnvOk C A G env sc m→Gives C A G (eval e env) v σ'
noncomputable def EvL (sc:Scope) (m:Mp) (σ:Sto) (es:List Expr) (v:List AV) (σ':Sto):Prop:=∀ A G env pos,AOk A D→Inv C G σ→EnvOk C A G env sc m→GivesL C A G (spliced (backTo pos (starEach es env))) v σ'
noncomputable def EvT (sc:Scope) (m:Mp) (σ:Sto) (e:Expr) (b:Bool) (σ':Sto):Prop:=∀ A G env,AOk A D→Inv C G σ→EnvOk C A G env sc m→GivesB C A G (isTrue e env (eval e env)) b σ'
end
section
variable {C:Cx} {D:Nat} {sc:Scope} {m:Mp} {σ σ' σ'':Sto} {e:Expr} {v:AV} {G G':St}
theorem Step.trr {G'':St} (I:Inv C G σ) (a:Step C G.tr G G') (b:Step C G'.tr G' G''):Step C G.tr G G'':=a.trans b fun _ h=>a.rold h
theorem toks_step (tk:Nat):Step C G.tr G (G.grow G.h tk fun _=>False):=grow_step (fun _ _ e=>e) fun _ h=>h.elim
theorem toks_inv (I:Inv C G σ) (tk:Nat):Inv C (G.grow G.h tk fun _=>False) σ:=grow_inv I (fun _ _ e=>e) fun _ h=>h.elim
theorem VR.pr {G:St} {u:Value} {x:PyData} (h:VR C G u (.p x)):PR G.h G.F u x∧x.canLay0=true:=by cases h with | p a b=>exact ⟨a,b⟩
@[elab_as_elim] theorem VR.val_elim {u w:Value} {Z:Value→Prop} (V:VR C G u (.val w)) (k:Z w):Z u:=by
 cases V;exact k
@[elab_as_elim] theorem VR.loc_elim {u:Value} {i:Nat} {Z:Value→Prop} (V:VR C G u (.loc i)) (k:∀ a,G.r[i]?=some a→Z (.ref a)):Z u:=by
 cases V with | loc h=>exact k _ h
@[elab_as_elim] theorem VR.lst_elim {u:Value} {l:List AV} {Z:Value→Prop} (V:VR C G u (.lst l)) (k:∀ a o vs n,G.F a→G.h.get? a=some o→(o.cls=.type "list"∧o.dict=none)→o.data=.seq vs n→VRs C G vs.toList l→Z (.ref a)):Z u:=by
 cases V with | lst a b c d e=>exact k _ _ _ _ a b c d e
@[elab_as_elim] theorem VR.ins_elim {u:Value} {c:Addr} {l:Mp} {Z:Value→Prop} (V:VR C G u (.ins c l)) (k:∀ x d es n sl,G.h.get? x=some ⟨.ref c,some d,.plain,sl⟩→G.h.get? d=some (dictOf es n)→VRd C G es l→Z (.ref x)):Z u:=by
 cases V with | ins a b c d e=>exact k _ _ _ _ _ c d e
theorem vr_int {G:St} (i:Int) (t:Tok):VR C G (.int i t) (.p (.int i)):=.p (.int i t) rfl
theorem vr_bool {G:St} (b:Bool):VR C G (.bool b) (.p (.bool b)):=.p (.bool b) rfl
theorem vr_none {G:St}:VR C G .none (.p .none):=.p .none rfl
theorem vr_str {G:St} {x:Str} (t:Tok) (h:PyData.strOk x=true):VR C G (.str x t) (.p (.str x)):=.p (.str x t) h
theorem EvE.cNone {k pos}:EvE C D sc m σ (.Constant .none k pos) (.p .none) σ:=fun _ _ _ _ I _ _ _ h=>wpAny_Constant_none (h _ _ .refl I vr_none)
theorem EvE.cBool {b k pos}:EvE C D sc m σ (.Constant (.bool b) k pos) (.p (.bool b)) σ:=fun _ _ _ _ I _ _ _ h=>wpAny_Constant_bool (h _ _ .refl I (vr_bool b))
theorem EvE.cInt {i k pos}:EvE C D sc m σ (.Constant (.int i) k pos) (.p (.int i)) σ:=fun _ G _ _ I _ _ _ h=>wpAny_Constant_int (h _ (G.grow G.h _ _) (toks_step _) (toks_inv I _) (vr_int i _))
theorem EvE.cStr {x k pos} (hx:PyData.strOk x=true):EvE C D sc m σ (.Constant (.str x) k pos) (.p (.str x)) σ:=fun _ G _ _ I _ _ _ h=>wpAny_Constant_str (h _ (G.grow G.h _ _) (toks_step _) (toks_inv I _) (vr_str _ hx))
theorem EnvOk.kindOf {A:Around} {env:Env} (h:EnvOk C A G env sc m) (x:Str):env.kindOf x=sc.names.lookup x:=by refine (?_:env.scope.names.lookup x=_);rw [h.scE]
theorem EvE.name {x pos} (h:m.lookup x=some v) (hk:sc.names.lookup x=some .local∨sc.names.lookup x=some .cell∨sc.names.lookup x=some .free) (hd:(x == ("__debug__":Str))=false) (hc:(x == ("__classdict__":Str))=false):EvE C D sc m σ (.Name x pos) v σ:=by
 intro A G env hA I K Q E hQ
 have hkf:env.scope.kind=.function:=by rw [K.scE];exact K.kind
 rcases hk with hk | hk | hk
 ·refine Zea K.ns fun ml hn k=>?_
  refine Zea (k x v h hk) fun u hu hv=>?_
  exact wpAny_Name (wpAny_loadName_local hkf ((K.kindOf x).trans hk) hn hu (hQ u G .refl I hv)) hd
 ·refine Zeaaa (K.cell x (.inl hk)) fun c h1 _ h0 _=>?_
  refine Zea (h0 v h) fun u h2 h3=>?_
  exact wpAny_Name (wpAny_loadName_cell hkf ((K.kindOf x).trans hk) h1 h2 (hQ u G .refl I h3)) hd
 ·refine Zeaaa (K.cell x (.inr hk)) fun c h1 _ h0 _=>?_
  refine Zea (h0 v h) fun u h2 h3=>?_
  exact wpAny_Name (wpAny_loadName_free hkf ((K.kindOf x).trans hk) h1 h2 (hQ u G .refl I h3) hc) hd
theorem Inv.keeps0 (I:Inv C G σ):∀ b o,C.H0.get? b=some o→G.h.get? b=some o:=fun b o e=>(I.base b o e).2
theorem EvE.glob {gl:Str→Option AV} (ok:C.Ok) (gk:GlOk C gl) {x pos} (h:gl x=some v) (hk:sc.names.lookup x=some .globalImplicit) (hd:(x == ("__debug__":Str))=false):EvE C D sc m σ (.Name x pos) v σ:=by
 intro A G env hA I K Q E hQ
 refine Zea (gk x v h) fun u hm hv=>?_
 refine Calls.Name_function_global (by rw [K.scE];exact K.kind) ((K.kindOf x).trans hk) (Calls.loadGlobal_global (by rw [K.glob];exact ok.g.keeps I.keeps0) hm (hQ u G .refl I (hv G σ I))) hd
theorem EvE.builtin (ok:C.Ok) {x pos} {u:Value} (hm:C.mg x=none) (hb:bootBuiltins x=some u) (hn:x≠"__name__") (hk:sc.names.lookup x=some .globalImplicit) (hd:(x == ("__debug__":Str))=false):EvE C D sc m σ (.Name x pos) (.val u) σ:=by
 intro A G env hA I K Q E hQ
 exact Calls.Name_function_global (by rw [K.scE];exact K.kind) ((K.kindOf x).trans hk) (Calls.loadGlobal_builtin (by rw [K.glob];exact ok.g.keeps I.keeps0) hm (by rw [K.bi];exact ok.b.keeps I.keeps0) ((ok.bi x hn).trans hb) (hQ u G .refl I (.val u))) hd
theorem EvL.nil:EvL C D sc m σ [] [] σ:=fun _ _ _ _ _ I _ _ _ h=>wpAny_items_nil (h _ _ .refl I .nil)
noncomputable def noStar:Expr→Bool
 | .Starred ..=>false
 | _=>true
theorem starEach_cons {e:Expr} {es:List Expr} {env:Env} (h:noStar e=true):starEach (e::es) env=(false,eval e env)::starEach es env:=by
 cases e<;>first | rfl | cases h
theorem EvL.cons {es:List Expr} {vs:List AV} (hs:noStar e=true) (h1:EvE C D sc m σ e v σ') (h2:EvL C D sc m σ' es vs σ''):EvL C D sc m σ (e::es) (v::vs) σ'':=by
 intro A G env pos hA I K Q E hQ
 rw [starEach_cons hs]
 refine (?_:W C A (spliced ((false,eval e env)::backTo pos (starEach es env))) Q E G.s)
 refine Calls.spliced_cons (h1 A G env hA I K _ _ fun u G' st I' V=>?_)
 refine h2 A G' env pos hA I' (K.step I st) _ _ fun us G'' st' I'' VS=>?_
 exact hQ (u::us) G'' (st.trr I st') I'' (.cons (V.step I' st' I'.hX) VS)
noncomputable def allP:List AV→Option (List PyData)
 | []=>some []
 | .p x::l=>(allP l).map (x::·)
 | _::_=>none
theorem VRs.prs {us:List Value}:∀ {vs:List AV} {xs:List PyData},VRs C G us vs→allP vs=some xs→PRs G.h G.F us xs∧PyData.canLayAll0 xs=true:=by
 induction us with
 | nil=>intro vs xs h e;cases h;cases e;exact ⟨.nil,rfl⟩
 | cons u us ih=>
  intro vs xs h e
  cases h with
  | cons a b=>
   cases a with
   | p c d=>
    simp only [allP,Option.map_eq_some_iff] at e
    apply RMea2 e
    intro l e1
    refine Za (ih b e1) fun p q=>?_
    exact ⟨.cons c p,by simp [PyData.canLayAll0,d,q]⟩
   | _=>cases e
theorem VRs.length {us:List Value}:∀ {vs:List AV},VRs C G us vs→us.length=vs.length:=by
 induction us with
 | nil=>intro vs h;cases h;rfl
 | cons u us ih=>intro vs h;cases h with | cons a b=>simp [ih b]
theorem PRs.length {h:Heap} {F:Addr→Prop} {us:List Value}:∀ {vs:List PyData},PRs h F us vs→us.length=vs.length:=by
 induction us with
 | nil=>intro vs h;cases h;rfl
 | cons u us ih=>intro vs h;cases h with | cons a b=>simp [ih b]
theorem VRs.get {us:List Value}:∀ {vs:List AV} {i:Nat} {x:AV},VRs C G us vs→vs[i]?=some x→∃ u,us[i]?=some u∧VR C G u x:=by
 induction us with
 | nil=>intro vs i x h e;cases h;cases e
 | cons u us ih=>
  intro vs i x h e
  cases h with
  | cons a b=>
   cases i with
   | zero=>cases e;exact (Iea u rfl a)
   | succ i=>exact ih b e
noncomputable def St.one (G:St) (o:Obj):St:=G.grow (G.h.push o) G.s.toks (·=G.sz)
theorem sz_none:G.h.get? G.sz=none:=by
 cases q:G.h.get? G.sz with
 | none=>rfl
 | some o=>exact absurd (Heap.lt_size q) (Nat.lt_irrefl _)
theorem one_step (o:Obj):Step C G.tr G (G.one o):=grow_step (fun _ _ e=>Heap.get?_push_of_some _ e) fun a h=>by rw [h];exact sz_none
theorem one_get {o:Obj} (hf:o.isFreed=false:=by rfl):(G.one o).h.get? G.sz=some o:=Heap.get?_push_size _ hf
theorem one_inv (I:Inv C G σ) (o:Obj) (hf:o.isFreed=false:=by rfl):Inv C (G.one o) σ:=grow_inv I (fun _ _ e=>Heap.get?_push_of_some _ e) fun a h=>by rw [h];exact (Iae sz_none o (one_get hf))
theorem PRs.step {us:List Value} {xs:List PyData} (h:PRs G.h G.F us xs) (I:Inv C G σ) (st:Step C G.tr G G'):PRs G'.h G'.F us xs:=h.mono st.fz fun _ _ hf e=>I.stay st I.hX hf e
theorem EvE.tuple {es:List Expr} {vs:List AV} {xs:List PyData} {k pos} (h:EvL C D sc m σ es vs σ') (hp:allP vs=some xs) (hn:xs.length≤1000):EvE C D sc m σ (.Tuple es k pos) (.p (.tuple xs)) σ':=by
 intro A G env hA I K Q E hQ
 refine PyProof.Rows.Tuple_ (h A G env pos hA I K _ _ fun us G' st I' VS=>?_)
 refine Za (VS.prs hp) fun PS cl=>?_
 have hl:us.length≤1000:=by rw [PS.length];exact hn
 refine wpAny_newTuple ?_ (Nat.le_trans hl (by decide))
 exact hQ (.ref G'.sz) (G'.one _) (st.trr I (one_step _)) (one_inv I' _) (.p (.tuple (.inr rfl) one_get rfl rfl (PS.step I' (one_step (C:=C) _))) (by simpa [PyData.canLay0] using cl))
noncomputable def mkL (vs:List AV):AV:=match allP vs with
 | some xs=>.p (.list xs)
 | none=>.lst vs
theorem vr_list {a:Addr} {o:Obj} {us:List Value} {n:Nat} {vs:List AV} (hF:G.F a) (e:G.h.get? a=some o) (hc:o.cls=.type "list"∧o.dict=none) (hd:o.data=.seq us.toArray n) (VS:VRs C G us vs):VR C G (.ref a) (mkL vs):=by
 unfold mkL
 cases hp:allP vs with
 | some xs=>
  refine Za (VS.prs hp) fun PS cl=>?_
  exact .p (.list hF e hc hd (by simpa using PS)) (by simpa [PyData.canLay0] using cl)
 | none=>exact .lst hF e hc hd (by simpa using VS)
theorem EvE.list {es:List Expr} {vs:List AV} {pos} (h:EvL C D sc m σ es vs σ') (hn:vs.length≤1000):EvE C D sc m σ (.List es pos) (mkL vs) σ':=by
 intro A G env hA I K Q E hQ
 refine PyProof.Rows.List_ (h A G env pos hA I K _ _ fun us G' st I' VS=>?_)
 have hl:us.length≤1000:=by rw [VS.length];exact hn
 refine wpAny_newList ?_ (Nat.le_trans hl (by decide))
 exact hQ (.ref G'.sz) (G'.one _) (st.trr I (one_step _)) (one_inv I' _) (vr_list (.inr rfl) one_get ⟨rfl,rfl⟩ rfl (VS.step I' (one_step _) I'.hX))
noncomputable def St.more (G:St) (h':Heap) (tk:Nat) (r:List Addr):St:=⟨{ G.s with heap:=h',toks:=tk },G.F,G.r++r,G.fs⟩
theorem more_step {X:Addr→Prop} {h':Heap} {tk:Nat} {r:List Addr} (hk:∀ b o,G.h.get? b=some o→h'.get? b=some o) (hr:∀ a∈r,G.h.get? a=none):Step C X G (G.more h' tk r) where
 keep a o e _ _ _:=hk a o e
 keepF a o e _ _:=⟨o.slots,hk a o e⟩
 alive a o e:=⟨o,hk a o e⟩
 fz _ h:=h
 new _ h:=.inl h
 rr:=(Iea r rfl hr)
 fs:=rfl
 gens:=rfl
 drawn:=rfl
 os:=rfl
theorem more_inv (I:Inv C G σ) {h':Heap} {tk:Nat} {a:Addr} {o:AO} (hk:∀ b o,G.h.get? b=some o→h'.get? b=some o) (ha:G.h.get? a=none) (ht:TrO C (G.more h' tk [a]) a o):Inv C (G.more h' tk [a]) (σ++[o]) where
 base x ob e:=⟨(I.base x ob e).1,hk _ _ (I.base x ob e).2⟩
 fz x h:=by
  refine Zaaa (I.fz x h) fun z7 h2 h3 h4=>?_
  refine Ze z7 fun ob e=>?_
  refine (Iaaa ⟨ob,hk _ _ e⟩ (fun q=>?_) h3 h4)
  rcases List.mem_append.mp q with q | q
  ·exact h2 q
  ·rw [List.mem_singleton.mp q,ha] at e;cases e
 len:=by simp [St.more,I.len]
 trk i x ob h1 h2:=by
  have h1':(G.r++[a])[i]?=some x:=h1
  by_cases hi:i < G.r.length
  ·rw [List.getElem?_append_left hi] at h1'
   rw [List.getElem?_append_left (by rw [← I.len];exact hi)] at h2
   exact (I.trk i x ob h1' h2).step (X:=fun _=>False) I (more_step hk fun b hb=>by rw [List.mem_singleton.mp hb];exact ha) (fun _ h=>h.elim) fun _ e=>hk _ _ e
  ·rw [List.getElem?_append_right (Nat.le_of_not_lt hi)] at h1'
   rw [List.getElem?_append_right (by rw [← I.len];exact Nat.le_of_not_lt hi),← I.len] at h2
   cases hj:i - G.r.length with
   | zero=>
    rw [hj] at h1' h2
    cases h1';cases h2;exact ht
   | succ j=>rw [hj] at h1';simp at h1'
 nd:=by
  refine List.nodup_append.mpr (Iaa I.nd (by simp) (fun x hx y hy e=>?_))
  refine Ze (I.thereT hx) fun oo e2=>?_
  rw [e,List.mem_singleton.mp hy,ha] at e2;cases e2
 rtab x hx:=by
  rcases List.mem_append.mp hx with hx | hx
  ·exact I.rtab x hx
  ·rw [List.mem_singleton.mp hx]
   refine ⟨fun q=>?_,fun q=>?_⟩
   ·refine Zea (List.mem_map.mp q) fun q2 hq2 z6=>?_
    obtain rfl:=z6
    refine Zea (I.tab q2 hq2) fun ps e2 _=>?_;rw [ha] at e2;cases e2
   ·refine Zae (I.ftab a q) fun _ oo e2=>?_;rw [ha] at e2;cases e2
 ftab x h:=⟨(I.ftab x h).1,let ⟨ob,e⟩:=(I.ftab x h).2;⟨ob,hk _ _ e⟩⟩
 tab q hq:=by
  refine Zeaa (I.tab q hq) fun ps e t k=>?_
  exact (Ieaa ps (hk _ _ e) t (fun pos v h=>(k pos v h).mono (fun _ h=>h) fun _ _ _ e=>hk _ _ e))
end

section
variable {C:Cx} {D:Nat} {sc:Scope} {m:Mp} {σ σ' σ'':Sto} {e:Expr} {v:AV} {G G':St}
theorem PR.reads {h:Heap} {F:Addr→Prop} {v:Value} {x:PyData} (H:PR h F v x):∃ as,Reads h v x as:=
 PR.rec (motive_1:=fun v x _=>∃ as,Reads h v x as) (motive_2:=fun v x _=>∃ as,ReadsAll h v x as) ⟨_,.none⟩ (fun b=>⟨_,.bool b⟩) (fun i t=>⟨_,.int i t⟩) (fun i t=>⟨_,.str i t⟩) (fun _ b c d _ i=>i.elim fun _ q=>⟨_,.list b c.1 d q⟩) (fun _ b c d _ i=>i.elim fun _ q=>⟨_,.tuple b c d q⟩) ⟨_,.nil⟩ (fun _ _ i j=>i.elim fun _ p=>j.elim fun _ q=>⟨_,.cons p q⟩) H
theorem VRd.find {k:Str} {es:List DictEntry} {l:Mp} (H:VRd C G es l):(∀ v,(es.find? fun e=>Value.isStrOf k e.key).map (·.val)=some v→∃ x,l.lookup k=some x∧VR C G v x)∧((es.find? fun e=>Value.isStrOf k e.key).map (·.val)=none→l.lookup k=none):=by
 refine VRd.ind ?_ ?_ H
 ·exact ⟨fun _ h=>by simp at h,fun _=>rfl⟩
 intro e es k' x l a b c ih
 refine Za ih fun i1 i2=>?_
 by_cases hk:k=k'
 ·subst hk
  simp only [List.find?_cons,a,List.lookup_cons,beq_self_eq_true]
  exact ⟨fun v h=>(Iea _ rfl (by cases h;exact b)),fun h=>by cases h⟩
 ·have h1:Value.isStrOf k e.key=false:=by
   cases q:Value.isStrOf k e.key with
   | false=>rfl
   | true=>exact absurd (Value.isStrOf_inj _ _ _ q a) hk
  have h2:(k == k')=false:=by simpa using hk
  simp only [List.find?_cons,h1,List.lookup_cons,h2]
  exact ⟨i1,i2⟩
theorem mapOf_of {a:Addr} {o:Obj} {es:Array DictEntry} {n:Nat} (e:G.h.get? a=some o) (hx:o.ExactDict) (hd:o.data=.dict es n) (hk:KeyHash C.w es):G.h.MapOf (strKind C.prog C.w) a (findEs es):=
 (Ieeeaaaa o es n e hx hd (fun e he=>let ⟨k,h1,h2⟩:=hk e he;(Iea k h1 h2)) (fun k=>by unfold findBy findEs;rw [← Array.find?_toList];rfl))
noncomputable def asP:AV→Option PyData
 | .p x=>some x
 | _=>none
noncomputable def lstO:AV→Option (List AV)
 | .lst l=>some l
 | _=>none
noncomputable def dctO:AV→Option (Mp)
 | .dct l=>some l
 | _=>none
noncomputable def locO:AV→Option Nat
 | .loc i=>some i
 | _=>none
noncomputable def dO:AO→Option (Mp)
 | .dct l=>some l
 | _=>none
noncomputable def lO:AO→Option (List AV)
 | .lst l=>some l
 | _=>none
noncomputable def intOf:PyData→Option Int
 | .int i=>some i
 | _=>none
noncomputable def nilL:PyData→Bool
 | .list l=>l.isEmpty
 | _=>false
noncomputable def strOf:PyData→Option Str
 | .str k=>some k
 | _=>none
noncomputable def itemsOf:PyData→Option (List PyData)
 | .list l=>some l
 | .tuple l=>some l
 | _=>none
noncomputable def isNn:PyData→Bool
 | .none=>true
 | _=>false
noncomputable def noneIs1:PyData→Option Bool
 | .none=>some true
 | .str _=>some false
 | _=>none
theorem itemsOf_eq {x:PyData} {l:List PyData} (h:itemsOf x=some l):x=.list l∨x=.tuple l:=by
 cases x with
 | list=>exact .inl (congrArg _ (Option.some.inj h))
 | tuple=>exact .inr (congrArg _ (Option.some.inj h))
 | _=>cases h
theorem strOf_eq {x:PyData} {k:Str} (h:strOf x=some k):x=.str k:=by
 cases x with
 | str=>exact congrArg _ (Option.some.inj h)
 | _=>cases h
theorem intOf_eq {x:PyData} {k:Int} (h:intOf x=some k):x=.int k:=by
 cases x with
 | int=>exact congrArg _ (Option.some.inj h)
 | _=>cases h
theorem nilL_eq {x:PyData} (h:nilL x=true):x=.list []:=by
 cases x with
 | list l=>exact congrArg _ (List.isEmpty_iff.mp h)
 | _=>cases h
theorem isNn_eq {x:PyData} (h:isNn x=true):x=.none:=by
 cases x with
 | none=>rfl
 | _=>cases h
theorem noneIs1_eq {x:PyData} {r:Bool} (h:noneIs1 x=some r):(x=.none∧r=true)∨∃ k,x=.str k∧r=false:=by
 cases x with
 | none=>exact .inl ⟨rfl,(Option.some.inj h).symm⟩
 | str k=>exact .inr (Iea k rfl (Option.some.inj h).symm)
 | _=>cases h
theorem PR.int_inv {h:Heap} {F:Addr→Prop} {u:Value} {i:Int} (p:PR h F u (.int i)):∃ t,u=.int i t:=by cases p;exact ⟨_,rfl⟩
theorem PR.str_inv {h:Heap} {F:Addr→Prop} {u:Value} {i:Str} (p:PR h F u (.str i)):∃ t,u=.str i t:=by cases p;exact ⟨_,rfl⟩
theorem PR.none_inv {h:Heap} {F:Addr→Prop} {u:Value} (p:PR h F u .none):u=.none:=by cases p;rfl
theorem PR.list_inv {h:Heap} {F:Addr→Prop} {u:Value} {l:List PyData} (p:PR h F u (.list l)):∃ a o vs n,u=.ref a∧F a∧h.get? a=some o∧(o.cls=.type "list"∧o.dict=Option.none)∧o.data=.seq vs n∧PRs h F vs.toList l:=by
 cases p with | list a b c d e=>exact (Ieeeeaaaaa _ _ _ _ rfl a b c d e)
theorem asP_eq {a:AV} {x:PyData} (h:asP a=some x):a=.p x:=by
 cases a with
 | p=>exact congrArg _ (Option.some.inj h)
 | _=>cases h
theorem lstO_eq {a:AV} {x:List AV} (h:lstO a=some x):a=.lst x:=by
 cases a with
 | lst=>exact congrArg _ (Option.some.inj h)
 | _=>cases h
theorem dctO_eq {a:AV} {x:Mp} (h:dctO a=some x):a=.dct x:=by
 cases a with
 | dct=>exact congrArg _ (Option.some.inj h)
 | _=>cases h
theorem locO_eq {a:AV} {x:Nat} (h:locO a=some x):a=.loc x:=by
 cases a with
 | loc=>exact congrArg _ (Option.some.inj h)
 | _=>cases h
theorem dO_eq {a:AO} {x:Mp} (h:dO a=some x):a=.dct x:=by
 cases a with
 | dct=>exact congrArg _ (Option.some.inj h)
 | _=>cases h
theorem lO_eq {a:AO} {x:List AV} (h:lO a=some x):a=.lst x:=by
 cases a with
 | lst=>exact congrArg _ (Option.some.inj h)
 | _=>cases h
noncomputable def lenD (a b:AV):Option Bool:=(lstO a).bind fun l=>(asP b).bind fun x=>if (nilL x&&!l.isEmpty)=true then some false else none
noncomputable def asInt (a:AV):Option Int:=(asP a).bind intOf
noncomputable def trkO (σ:Sto) (a:AV):Option AO:=(locO a).bind fun i=>σ[i]?
noncomputable def asD (σ:Sto) (a:AV):Option (Mp):=(dctO a).or ((trkO σ a).bind dO)
noncomputable def noneIs (x y:PyData):Option Bool:=if isNn y=true then noneIs1 x else none
noncomputable def bothP (f:PyData→PyData→Option Bool) (a b:AV):Option Bool:=(asP a).bind fun x=>(asP b).bind (f x)
noncomputable def eqV (a b:AV):Option Bool:=(bothP (fun x y=>if min x.depth y.depth≤100 then some (x.eqv y) else none) a b).or (lenD a b)
noncomputable def inV (σ:Sto) (a b:AV):Option Bool:=
 (bothP (fun x y=>(itemsOf y).bind fun ys=>if x.depth≤100 then some (ys.any fun y=>y.eqv x) else none) a b).or ((asP a).bind fun x=>(strOf x).bind fun k=>(asD σ b).map fun l=>(l.lookup k).isSome)
noncomputable def intsV (f:Int→Int→Bool) (a b:AV):Option Bool:=(asInt a).bind fun x=>(asInt b).map (f x)
noncomputable def cmpV (op:CmpOp) (a b:AV) (σ:Sto):Option Bool:=match op with
 | .Eq=>eqV a b
 | .NotEq=>(eqV a b).map (!·)
 | .In=>inV σ a b
 | .NotIn=>(inV σ a b).map (!·)
 | .Is=>bothP noneIs a b
 | .IsNot=>(bothP noneIs a b).map (!·)
 | .Lt=>intsV (fun x y=>decide (x < y)) a b
 | .Gt=>intsV (fun x y=>decide (y < x)) a b
 | .GtE=>intsV (fun x y=>decide (y≤x)) a b
 | .LtE=>none
theorem Inv.tget {i:Nat} {a:Addr} {o:AO} (I:Inv C G σ) (h:G.r[i]?=some a) (e:σ[i]?=some o):TrO C G a o:=I.trk i a o h e
noncomputable def FRel (C:Cx) (G:St) (f:Str→Option Value) (l:Mp):Prop:=(∀ k x,l.lookup k=some x→∃ u,f k=some u∧VR C G u x)∧∀ k,l.lookup k=none→f k=none
theorem isSome_find {f:Str→Option Value} {l:Mp} {k:Str} (h:FRel C G f l):(f k).isSome=(l.lookup k).isSome:=by
 cases q:l.lookup k with
 | none=>rw [h.2 k q];rfl
 | some v=>refine Zea (h.1 k v q) fun x e _=>?_;rw [e];rfl
theorem VR.loc_inv {u:Value} {i:Nat} (V:VR C G u (.loc i)):∃ x,u=.ref x∧G.r[i]?=some x:=by
 exact V.loc_elim fun a h=>(Iea a rfl h)
theorem trkO_vr {u:Value} {a:AV} {o:AO} (I:Inv C G σ) (V:VR C G u a) (h:trkO σ a=some o):∃ x,u=.ref x∧TrO C G x o:=by
 refine Zea (Option.bind_eq_some_iff.mp h) fun i e1 e2=>?_
 obtain rfl:=locO_eq e1
 refine Zea V.loc_inv fun x e3 e4=>?_
 exact (Iea x e3 (I.tget e4 e2))
theorem asD_vr {u:Value} {a:AV} {l:Mp} (I:Inv C G σ) (V:VR C G u a) (h:asD σ a=some l):∃ x f,u=.ref x∧G.h.MapOf (strKind C.prog C.w) x f∧FRel C G f l∧(x == sysModules)=false:=by
 rcases Option.or_eq_some_iff.mp h with h | ⟨_,h⟩
 ·obtain rfl:=dctO_eq h
  cases V with | dct g h1 h2 h3 h4 h5 h6 h7 h8 h9=>exact (Ieeaaa _ _ rfl (mapOf_of (C:=C) h2 h3 h4 h5) ⟨fun k x h=>(Iea (g k) (h6 k x h) (h7 k x h)),h8⟩ h9)
 ·refine Zea (Option.bind_eq_some_iff.mp h) fun o' e1 e2=>?_
  obtain rfl:=dO_eq e2
  refine Zea (trkO_vr I V e1) fun x e3 q=>?_
  refine Zeeeaaaeaaa q fun o es n h1 h2 h3 kvs h4 hz h5 h7=>?_
  exact (Ieeaaa x _ e3 (Heap.DictOf.mapOf (Ieeeaaa o es n h1 h2 h3 h4)) h5 h7)
theorem strKind_self (x:Str) (t:Tok):(strKind C.prog C.w).is x (.str x t)=true:=by refine (?_:Value.isStrOf x (.str x t)=true);simp [Value.isStrOf]
theorem asP_vr {u:Value} {a:AV} {x:PyData} (V:VR C G u a) (h:asP a=some x):PR G.h G.F u x∧x.canLay0=true:=by
 cases a with
 | p y=>cases h;exact V.pr
 | _=>cases h
theorem asInt_vr {u:Value} {a:AV} {i:Int} (V:VR C G u a) (h:asInt a=some i):∃ t,u=.int i t:=by
 refine Zea (Option.bind_eq_some_iff.mp h) fun x e1 h=>?_
 refine Za (asP_vr V e1) fun p _=>?_
 obtain rfl:=intOf_eq h
 exact p.int_inv
theorem bothP_vr {f:PyData→PyData→Option Bool} {a b:AV} {u1 u2:Value} {r:Bool} (V1:VR C G u1 a) (V2:VR C G u2 b) (h:bothP f a b=some r):∃ x y,f x y=some r∧(PR G.h G.F u1 x∧x.canLay0=true)∧PR G.h G.F u2 y∧y.canLay0=true:=by
 refine Zea (Option.bind_eq_some_iff.mp h) fun x e1 h=>?_
 refine Zea (Option.bind_eq_some_iff.mp h) fun y e2 h=>?_
 exact (Ieeaa x y h (asP_vr V1 e1) (asP_vr V2 e2))
theorem of_ite {p:Prop} [Decidable p] {x r:Bool} (h:(if p then some x else none)=some r):p∧x=r:=by
 by_cases q:p
 ·rw [if_pos q] at h;exact ⟨q,Option.some.inj h⟩
 ·rw [if_neg q] at h;cases h
theorem lens_vr {a b:AV} {u1 u2:Value} {r:Bool} (h:lenD a b=some r) (V1:VR C G u1 a) (V2:VR C G u2 b):r=false∧∃ l1 l2 x1 x2,u1=.ref l1∧u2=.ref l2∧G.h.IsList l1 x1∧G.h.IsList l2 x2∧(x1.size != x2.size)=true:=by
 refine Zea (Option.bind_eq_some_iff.mp h) fun l0 e1 h=>?_
 refine Zea (Option.bind_eq_some_iff.mp h) fun x e2 h=>?_
 refine Za (of_ite h) fun hh e=>?_
 refine ⟨e.symm,?_⟩
 obtain rfl:=lstO_eq e1
 refine Za (Bool.and_eq_true_iff.mp hh) fun h1 h2=>?_
 obtain rfl:=nilL_eq h1
 refine Za (asP_vr V2 e2) fun p2 _=>?_
 refine Zeeeeaaaaa p2.list_inv fun a2 o2 vs2 n2 z2 f2 g2 c2 d2 l2=>?_
 refine V1.lst_elim fun a o vs n f1 g1 c1 d1 l1=>?_
 refine (Ieeeeaaaa a a2 vs vs2 rfl z2 (Ieaae _ g1 c1.1 _ d1) (Ieaae _ g2 c2.1 _ d2) ?_)
 have l1:=l1.length
 have l2:=l2.length
 rw [Array.length_toList] at l1 l2
 rw [l1,l2]
 cases l0 with
 | nil=>cases h2
 | cons y ys=>rfl
theorem eqV_vr {a b:AV} {u1 u2:Value} {r:Bool} (V1:VR C G u1 a) (V2:VR C G u2 b) (h:eqV a b=some r) :
  (∃ x y as bs,Reads G.h u1 x as∧Reads G.h u2 y bs∧x.canLay0=true∧y.canLay0=true∧min x.depth y.depth≤100∧x.eqv y=r)∨(r=false∧∃ l1 l2 x1 x2,u1=.ref l1∧u2=.ref l2∧G.h.IsList l1 x1∧G.h.IsList l2 x2∧(x1.size != x2.size)=true):=by
 rcases Option.or_eq_some_iff.mp h with h | ⟨_,h⟩
 ·refine Zeeaaa (bothP_vr V1 V2 h) fun x y h z57 p2 c2=>?_
  refine Za z57 fun p1 c1=>?_
  refine Ze p1.reads fun as r1=>?_
  refine Ze p2.reads fun bs r2=>?_
  exact .inl (Ieeeeaaaa x y as bs r1 r2 c1 c2 (of_ite h))
 ·exact .inr (lens_vr h V1 V2)
theorem inV_vr {a b:AV} {u1 u2:Value} {r:Bool} (I:Inv C G σ) (V1:VR C G u1 a) (V2:VR C G u2 b) (h:inV σ a b=some r) :
  (∃ x ys as bs,(Reads G.h u2 (.list ys) bs∨Reads G.h u2 (.tuple ys) bs)∧Reads G.h u1 x as∧PyData.canLayAll0 ys=true∧x.canLay0=true∧x.depth≤100∧(ys.any fun y=>y.eqv x)=r) ∨
   ∃ k t d f,u1=.str k t∧u2=.ref d∧G.h.MapOf (strKind C.prog C.w) d f∧(d == sysModules)=false∧(f k).isSome=r:=by
 rcases Option.or_eq_some_iff.mp h with h | ⟨_,h⟩
 ·refine Zeeaaa (bothP_vr V1 V2 h) fun x y h z56 p2 c2=>?_
  refine Za z56 fun p1 c1=>?_
  refine Ze p1.reads fun as r1=>?_
  refine Ze p2.reads fun bs r2=>?_
  refine Zea (Option.bind_eq_some_iff.mp h) fun ys e h=>?_
  refine Za (of_ite h) fun h1 h2=>?_
  refine .inl (Ieeeeaaaaa x ys as bs ((itemsOf_eq e).imp (fun q=>by rw [← q];exact r2) fun q=>by rw [← q];exact r2) r1 ?_ c1 h1 h2)
  exact (itemsOf_eq e).elim (fun q=>by rw [q] at c2;exact c2) fun q=>by rw [q] at c2;exact c2
 ·refine Zea (Option.bind_eq_some_iff.mp h) fun x e1 h=>?_
  refine Zea (Option.bind_eq_some_iff.mp h) fun k e2 h=>?_
  refine Zea (Option.map_eq_some_iff.mp h) fun l hl h'=>?_
  refine Za (asP_vr V1 e1) fun p1 _=>?_
  refine Zeeaaa (asD_vr I V2 hl) fun d f e3 hm hf hs=>?_
  obtain rfl:=strOf_eq e2
  refine Ze p1.str_inv fun t e4=>?_
  exact .inr (Ieeeeaaaa k t d f e4 e3 hm hs ((isSome_find hf).trans h'))
theorem noneIs_vr {a b:AV} {u1 u2:Value} {r:Bool} (V1:VR C G u1 a) (V2:VR C G u2 b) (h:bothP noneIs a b=some r):u2=.none∧(u1=.none∧r=true∨(∃ x t,u1=.str x t)∧r=false):=by
 refine Zeeaaa (bothP_vr V1 V2 h) fun x y h z55 p2 _=>?_
 refine Za z55 fun p1 _=>?_
 by_cases q:isNn y=true
 ·rw [noneIs,if_pos q] at h
  obtain rfl:=isNn_eq q
  refine ⟨p2.none_inv,(noneIs1_eq h).imp (fun e=>?_) fun e=>?_⟩
  ·refine Za e fun e1 e2=>?_
   rw [e1] at p1;exact ⟨p1.none_inv,e2⟩
  ·refine Zea e fun k e1 e2=>?_
   rw [e1] at p1
   exact ⟨⟨k,p1.str_inv⟩,e2⟩
 ·rw [noneIs,if_neg q] at h;cases h
theorem intsV_vr {f:Int→Int→Bool} {a b:AV} {u1 u2:Value} {r:Bool} (V1:VR C G u1 a) (V2:VR C G u2 b) (h:intsV f a b=some r):∃ x s y t,u1=.int x s∧u2=.int y t∧f x y=r:=by
 refine Zea (Option.bind_eq_some_iff.mp h) fun x e1 h=>?_
 refine Zea (Option.map_eq_some_iff.mp h) fun y e2 h=>?_
 refine Ze (asInt_vr V1 e1) fun s e3=>?_
 refine Ze (asInt_vr V2 e2) fun t e4=>?_
 exact (Ieeeeaa x s y t e3 e4 h)
theorem cmp_ok {op:CmpOp} {a b:AV} {u1 u2:Value} {r:Bool} {A:Around} (h:cmpV op a b σ=some r) (hA:AOk A D) (I:Inv C G σ) (V1:VR C G u1 a) (V2:VR C G u2 b) {Q:Value→Shared→Prop} {E}
  (hQ:∀ tk,Q (.bool r) { G.s with toks:=tk }):W C A (compareOp op u1 u2) Q E G.s:=by
 have hu:A.units+1+100 < cLine:=by have:=hA.2.2;omega
 have hQ0:Q (.bool r) G.s:=hQ G.s.toks
 cases op with
 | Eq=>
  rcases eqV_vr V1 V2 h with ⟨x,y,as,bs,r1,r2,c1,c2,hd,rfl⟩ | ⟨rfl,l1,l2,x1,x2,rfl,rfl,h1,h2,h3⟩
  ·exact SeqAt.compareEq_reads r1 r2 c1 c2 (by walk_at "o") hQ0
  ·exact SeqAt.eq_list_lengthsAt h1 h2 h3 (by walk_at "o") hQ0
 | NotEq=>
  refine Zea (Option.map_eq_some_iff.mp h) fun r' h' z54=>?_
  obtain rfl:=z54
  rcases eqV_vr V1 V2 h' with ⟨x,y,as,bs,r1,r2,c1,c2,hd,rfl⟩ | ⟨rfl,l1,l2,x1,x2,rfl,rfl,h1,h2,h3⟩
  ·exact SeqAt.compareNe_reads r1 r2 c1 c2 (by walk_at "o") hQ0
  ·exact SeqAt.RcNeAt.lists_lengths h1 h2 h3 (by walk_at "o") C.prog C.w E Q hQ0
 | In=>
  rcases inV_vr I V1 V2 h with ⟨x,ys,as,bs,r2 | r2,r1,c2,c1,hd,rfl⟩ | ⟨k,t,d,f,rfl,rfl,hm,hs,rfl⟩
  ·exact SeqAt.in_list_reads r2 r1 c2 c1 (by walk_at "o") hQ0
  ·exact SeqAt.in_tuple_reads r2 r1 c2 c1 (by walk_at "o") hQ0
  ·exact wpAny_in_of (knd:=strKind C.prog C.w) (strKind_self _ _) hs hm (hQ _)
 | NotIn=>
  refine Zea (Option.map_eq_some_iff.mp h) fun r' h' z53=>?_
  obtain rfl:=z53
  rcases inV_vr I V1 V2 h' with ⟨x,ys,as,bs,r2 | r2,r1,c2,c1,hd,rfl⟩ | ⟨k,t,d,f,rfl,rfl,hm,hs,rfl⟩
  ·exact SeqAt.notIn_list_reads r2 r1 c2 c1 (by walk_at "o") hQ0
  ·exact SeqAt.notIn_tuple_reads r2 r1 c2 c1 (by walk_at "o") hQ0
  ·exact wpAny_notIn_of (knd:=strKind C.prog C.w) (strKind_self _ _) hs hm (hQ _)
 | Is=>
  obtain ⟨rfl,⟨rfl,rfl⟩ | ⟨⟨x,t,rfl⟩,rfl⟩⟩:=noneIs_vr V1 V2 h<;>exact is_none hQ0
 | IsNot=>
  refine Zea (Option.map_eq_some_iff.mp h) fun r' h' z50=>?_
  obtain rfl:=z50
  obtain ⟨rfl,⟨rfl,rfl⟩ | ⟨⟨x,t,rfl⟩,rfl⟩⟩:=noneIs_vr V1 V2 h'<;>exact isNot_none hQ0
 | Lt=>refine Zeeeeaa (intsV_vr V1 V2 h) fun x s y t z45 z46 z47=>?_;obtain rfl:=z45;obtain rfl:=z46;obtain rfl:=z47;exact PyProof.Rows.lt_int hQ0
 | Gt=>refine Zeeeeaa (intsV_vr V1 V2 h) fun x s y t z42 z43 z44=>?_;obtain rfl:=z42;obtain rfl:=z43;obtain rfl:=z44;exact PyProof.Rows.gt_int hQ0
 | GtE=>refine Zeeeeaa (intsV_vr V1 V2 h) fun x s y t z39 z40 z41=>?_;obtain rfl:=z39;obtain rfl:=z40;obtain rfl:=z41;exact PyProof.Rows.ge_int hQ0
 | LtE=>cases h
theorem EvE.compare {l r:Expr} {op:CmpOp} {pos} {a b:AV} {c:Bool} (h1:EvE C D sc m σ l a σ') (h2:EvE C D sc m σ' r b σ'') (h:cmpV op a b σ''=some c) (hm:behindInMarks op r=false) :
  EvE C D sc m σ (.Compare l [op] [r] pos) (.p (.bool c)) σ'':=by
 intro A G env hA I K Q E hQ
 refine wpAny_Compare1 (h1 A G env hA I K _ _ fun u1 G1 s1 I1 V1=>h2 A G1 env hA I1 (K.step I s1) _ _ fun u2 G2 s2 I2 V2=>?_) hm
 refine cmp_ok h hA I2 (V1.step I1 s2 I1.hX) V2 fun tk=>?_
 exact hQ _ (G2.grow G2.h tk _) (((s1.trr I s2)).trr I (toks_step tk)) (toks_inv I2 tk) (vr_bool c)
theorem EvT.compare {l r:Expr} {op:CmpOp} {pos} {a b:AV} {c:Bool} (h1:EvE C D sc m σ l a σ') (h2:EvE C D sc m σ' r b σ'') (h:cmpV op a b σ''=some c) (hm:behindInMarks op r=false) :
  EvT C D sc m σ (.Compare l [op] [r] pos) c σ'':=by
 intro A G env hA I K Q E hQ
 refine wpAny_isTrue_Compare1 (h1 A G env hA I K _ _ fun u1 G1 s1 I1 V1=>h2 A G1 env hA I1 (K.step I s1) _ _ fun u2 G2 s2 I2 V2=>?_) hm
 refine cmp_ok h hA I2 (V1.step I1 s2 I1.hX) V2 fun tk=>wpAny_truthy_bool ?_
 exact hQ (G2.grow G2.h tk _) (((s1.trr I s2)).trr I (toks_step tk)) (toks_inv I2 tk)
theorem EvT.not {x:Expr} {pos} {c:Bool} (h:EvT C D sc m σ x c σ'):EvT C D sc m σ (.UnaryOp .Not x pos) (!c) σ':=fun A G env hA I K _ _ hQ=>isTrue_not (h A G env hA I K _ _ fun G' st I'=>hQ G' st I')
theorem EvT.andNil {pos}:EvT C D sc m σ (.BoolOp .And [] pos) true σ:=fun A G env hA I K _ _ hQ=>isTrue_and_nil (hQ G .refl I)
theorem EvT.orNil {pos}:EvT C D sc m σ (.BoolOp .Or [] pos) false σ:=fun A G env hA I K _ _ hQ=>isTrue_or_nil (hQ G .refl I)
theorem EvT.andF {x:Expr} {r:List Expr} {pos} (h:EvT C D sc m σ x false σ'):EvT C D sc m σ (.BoolOp .And (x::r) pos) false σ':=fun A G env hA I K _ _ hQ=>isTrue_and (h A G env hA I K _ _ fun G' st I'=>hQ G' st I')
theorem EvT.andT {x:Expr} {r:List Expr} {pos} {c:Bool} (h:EvT C D sc m σ x true σ') (h2:EvT C D sc m σ' (.BoolOp .And r pos) c σ''):EvT C D sc m σ (.BoolOp .And (x::r) pos) c σ'':=
 fun A G env hA I K _ _ hQ=>isTrue_and (h A G env hA I K _ _ fun G' st I'=>h2 A G' env hA I' (K.step I st) _ _ fun G'' st' I''=>hQ G'' (st.trr I st') I'')
theorem EvT.orT {x:Expr} {r:List Expr} {pos} (h:EvT C D sc m σ x true σ'):EvT C D sc m σ (.BoolOp .Or (x::r) pos) true σ':=fun A G env hA I K _ _ hQ=>isTrue_or (h A G env hA I K _ _ fun G' st I'=>hQ G' st I')
theorem EvT.orF {x:Expr} {r:List Expr} {pos} {c:Bool} (h:EvT C D sc m σ x false σ') (h2:EvT C D sc m σ' (.BoolOp .Or r pos) c σ''):EvT C D sc m σ (.BoolOp .Or (x::r) pos) c σ'':=
 fun A G env hA I K _ _ hQ=>isTrue_or (h A G env hA I K _ _ fun G' st I'=>h2 A G' env hA I' (K.step I st) _ _ fun G'' st' I''=>hQ G'' (st.trr I st') I'')
theorem EvT.plain {x:Expr} {c:Bool} (h:EvE C D sc m σ x (.p (.bool c)) σ') (he:∀ env whole,isTrue x env whole=(do let v ← whole;standAt x.pos;holding [v] (truthy v))):EvT C D sc m σ x c σ':=
 fun A G env hA I K _ _ hQ=>isTrue_plain (h A G env hA I K _ _ fun u G' st I' V=>by
  refine Za V.pr fun p _=>?_
  cases p
  exact wpAny_truthy_bool (hQ G' st I')) (he env _)
theorem EvE.ifT {t b o:Expr} {pos} (h:EvT C D sc m σ t true σ') (h2:EvE C D sc m σ' b v σ''):EvE C D sc m σ (.IfExp t b o pos) v σ'':=
 fun A G env hA I K _ _ hQ=>IfExp_ (h A G env hA I K _ _ fun G' st I'=>h2 A G' env hA I' (K.step I st) _ _ fun u G'' st' I'' V=>hQ u G'' (st.trr I st') I'' V)
theorem EvE.ifF {t b o:Expr} {pos} (h:EvT C D sc m σ t false σ') (h2:EvE C D sc m σ' o v σ''):EvE C D sc m σ (.IfExp t b o pos) v σ'':=
 fun A G env hA I K _ _ hQ=>IfExp_ (h A G env hA I K _ _ fun G' st I'=>h2 A G' env hA I' (K.step I st) _ _ fun u G'' st' I'' V=>hQ u G'' (st.trr I st') I'' V)
end

noncomputable def Op2 (C:Cx) (D:Nat) (t:Value→Value→Sem Value) (a b:AV) (σ:Sto) (v:AV) (σ':Sto):Prop:=∀ A G u1 u2,AOk A D→Inv C G σ→VR C G u1 a→VR C G u2 b→Gives C A G (t u1 u2) v σ'
noncomputable def Op1 (C:Cx) (D:Nat) (t:Value→Sem Value) (a:AV) (σ:Sto) (v:AV) (σ':Sto):Prop:=∀ A G u1,AOk A D→Inv C G σ→VR C G u1 a→Gives C A G (t u1) v σ'
section
variable {C:Cx} {D:Nat} {sc:Scope} {m:Mp} {σ σ' σ'':Sto} {e:Expr} {v:AV} {G G':St}
theorem EvE.bin {l r:Expr} {op:Operator} {pos} {a b:AV} (h1:EvE C D sc m σ l a σ') (h2:EvE C D sc m σ' r b σ'') (h:Op2 C D (binaryOp op) a b σ'' v σ'') :
  EvE C D sc m σ (.BinOp l op r pos) v σ'':=fun A G env hA I K Q E hQ=>
 wpAny_BinOp (h1 A G env hA I K _ _ fun u1 G1 s1 I1 V1=>h2 A G1 env hA I1 (K.step I s1) _ _ fun u2 G2 s2 I2 V2=>
  h A G2 u1 u2 hA I2 (V1.step I1 s2 I1.hX) V2 _ _ fun u G3 s3 I3 V3=>hQ u G3 ((s1.trr I s2).trr I s3) I3 V3)
theorem EvE.un {x:Expr} {op:UnaryOp} {pos} {a:AV} (h1:EvE C D sc m σ x a σ') (h:Op1 C D (unaryOp op) a σ' v σ'):EvE C D sc m σ (.UnaryOp op x pos) v σ':=fun A G env hA I K Q E hQ=>
 wpAny_UnaryOp (h1 A G env hA I K _ _ fun u1 G1 s1 I1 V1=>h A G1 u1 hA I1 V1 _ _ fun u G3 s3 I3 V3=>hQ u G3 (s1.trr I s3) I3 V3)
theorem VR.int_shape {u:Value} {i:Int} (V:VR C G u (.p (.int i))):∃ t,u=.int i t:=by refine Za V.pr fun p _=>?_;cases p with | int i t=>exact ⟨t,rfl⟩
theorem VR.bool_shape {u:Value} {i:Bool} (V:VR C G u (.p (.bool i))):u=.bool i:=by refine Za V.pr fun p _=>?_;cases p;rfl
theorem VR.str_shape {u:Value} {i:Str} (V:VR C G u (.p (.str i))):(∃ t,u=.str i t)∧PyData.strOk i=true:=by refine Za V.pr fun p c=>?_;cases p with | str i t=>exact ⟨⟨t,rfl⟩,c⟩
theorem VR.tup_shape {u:Value} {l:List PyData} (V:VR C G u (.p (.tuple l))):∃ a o vs n,u=.ref a∧G.F a∧G.h.get? a=some o∧o.cls=.type "tuple"∧o.data=.seq vs n∧PRs G.h G.F vs.toList l∧PyData.canLayAll0 l=true:=by
 refine Za V.pr fun p c=>?_;cases p with | tuple a b c d e=>exact (Ieeeeaaaaaa _ _ _ _ rfl a b c d e (by simpa [PyData.canLay0] using ‹_›))
theorem VR.list_shape {u:Value} {l:List PyData} (V:VR C G u (.p (.list l))):∃ a o vs n,u=.ref a∧G.F a∧G.h.get? a=some o∧(o.cls=.type "list"∧o.dict=none)∧o.data=.seq vs n∧PRs G.h G.F vs.toList l∧PyData.canLayAll0 l=true:=by
 refine Za V.pr fun p c=>?_;cases p with | list a b c d e=>exact (Ieeeeaaaaaa _ _ _ _ rfl a b c d e (by simpa [PyData.canLay0] using ‹_›))
theorem PRs.vrs {us:List Value}:∀ {xs:List PyData},PRs G.h G.F us xs→PyData.canLayAll0 xs=true→VRs C G us (xs.map .p):=by
 induction us with
 | nil=>intro xs h _;cases h;exact .nil
 | cons u us ih=>
  intro xs h c
  cases h with
  | cons a b=>
   simp only [PyData.canLayAll0,Bool.and_eq_true] at c
   exact .cons (.p a c.1) (ih b c.2)
theorem canAll {x:PyData}:∀ {xs:List PyData},PyData.canLayAll0 xs=true→x∈xs→x.canLay0=true
 | [],_,h=>nomatch h
 | y::ys,c,h=>by
  simp only [PyData.canLayAll0,Bool.and_eq_true] at c
  rcases List.mem_cons.mp h with rfl | h
  ·exact c.1
  ·exact canAll c.2 h
theorem canAll_of:∀ {xs:List PyData},(∀ x∈xs,x.canLay0=true)→PyData.canLayAll0 xs=true
 | [],_=>rfl
 | y::ys,c=>by
  simp only [PyData.canLayAll0,Bool.and_eq_true]
  exact ⟨c _ (List.mem_cons_self ..),canAll_of fun x h=>c x (List.mem_cons_of_mem _ h)⟩
theorem gives_toks {A:Around} {t:Sem Value} (I:Inv C G σ) (h:∀ (Q:Value→Shared→Prop) E,(∀ u tk,VR C (G.grow G.h tk fun _=>False) u v→Q u { G.s with toks:=tk })→W C A t Q E G.s):Gives C A G t v σ:=
 fun Q E hQ=>h Q E fun u tk V=>hQ u (G.grow G.h tk fun _=>False) (toks_step tk) (toks_inv I tk) V
theorem op_add {i j:Int}:Op2 C D (binaryOp .Add) (.p (.int i)) (.p (.int j)) σ (.p (.int (i+j))) σ:=fun A G u1 u2 hA I V1 V2=>by
 apply RLe1 V1.int_shape
 intro t
 apply RLe1 V2.int_shape;intro t';exact gives_toks I fun Q E h=>PyProof.Rows.add_int (h _ _ (vr_int _ _))
theorem op_sub {i j:Int}:Op2 C D (binaryOp .Sub) (.p (.int i)) (.p (.int j)) σ (.p (.int (i - j))) σ:=fun A G u1 u2 hA I V1 V2=>by
 apply RLe1 V1.int_shape
 intro t
 apply RLe1 V2.int_shape;intro t';exact gives_toks I fun Q E h=>PyProof.Rows.sub_int (h _ _ (vr_int _ _))
theorem op_mul {i j:Int} (hm:IntMulOk i j):Op2 C D (binaryOp .Mult) (.p (.int i)) (.p (.int j)) σ (.p (.int (i * j))) σ:=fun A G u1 u2 hA I V1 V2=>by
 apply RLe1 V1.int_shape
 intro t
 apply RLe1 V2.int_shape;intro t';exact gives_toks I fun Q E h=>PyProof.Rows.mul_int (h _ _ (vr_int _ _)) hm
theorem op_mod {i j:Int} (hj:j≠0):Op2 C D (binaryOp .Mod) (.p (.int i)) (.p (.int j)) σ (.p (.int (i.fmod j))) σ:=fun A G u1 u2 hA I V1 V2=>by
 apply RLe1 V1.int_shape
 intro t
 apply RLe1 V2.int_shape;intro t';exact gives_toks I fun Q E h=>PyProof.Rows.mod_int hj (h _ _ (vr_int _ _))
theorem op_div {i j:Int} (hj:j≠0) (hs:j.natAbs < 1073741824):Op2 C D (binaryOp .FloorDiv) (.p (.int i)) (.p (.int j)) σ (.p (.int (i.fdiv j))) σ:=fun A G u1 u2 hA I V1 V2=>by
 apply RLe1 V1.int_shape
 intro t
 apply RLe1 V2.int_shape;intro t';exact gives_toks I fun Q E h=>PyProof.Rows.floordiv_int hj (h _ _ (vr_int _ _)) (.inl (PyProof.noPylong_small hs))
theorem op_pow {i j:Int} (h0:0≤j) (h1:j≤1000000) (ha:i.natAbs < 2 ^ 64):Op2 C D (binaryOp .Pow) (.p (.int i)) (.p (.int j)) σ (.p (.int (i ^ j.toNat))) σ:=fun A G u1 u2 hA I V1 V2=>by
 apply RLe1 V1.int_shape
 intro t
 apply RLe1 V2.int_shape;intro t';exact gives_toks I fun Q E h=>PyProof.Rows.pow_int_small h0 h1 ha (h _ _ (vr_int _ _))
theorem op_neg {i:Int}:Op1 C D (unaryOp .USub) (.p (.int i)) σ (.p (.int (-i))) σ:=fun A G u1 hA I V1=>by
 apply RLe1 V1.int_shape
 intro t
 exact gives_toks I fun Q E h=>PyProof.Rows.neg_int (h _ _ (vr_int _ _))
theorem strOk_append {x y:Str} (hx:PyData.strOk x=true) (hy:PyData.strOk y=true):PyData.strOk (x++y)=true:=by
 have e:(x++y).cps=x.cps++y.cps:=rfl
 unfold PyData.strOk at *
 rw [e,Array.all_append,hx,hy];rfl
theorem op_adds {x y:Str} (hz:x.length+y.length≤sizeLine) (hx:PyData.strOk (x++y)=true):Op2 C D (binaryOp .Add) (.p (.str x)) (.p (.str y)) σ (.p (.str (x++y))) σ:=fun A G u1 u2 hA I V1 V2=>by
 refine Za V1.str_shape fun z75 c1=>?_
 apply RLe1 z75
 intro t
 refine Za V2.str_shape fun z74 c2=>?_;refine Ze z74 fun t' z194=>?_;obtain rfl:=z194
 exact gives_toks I fun Q E h=>PyProof.Rows.add_str (fun t' tk=>h _ _ (vr_str _ hx)) hz
end

section
variable {C:Cx} {D:Nat} {sc:Scope} {m:Mp} {σ σ' σ'':Sto} {e:Expr} {v:AV} {G G':St}
noncomputable def listOf:PyData→Option (List PyData)
 | .list l=>some l
 | _=>none
noncomputable def isLst:AV→Bool
 | .p (.list _)=>true
 | .lst _=>true
 | _=>false
noncomputable def asL (a:AV):Option (List AV):=(lstO a).or (((asP a).bind listOf).map (·.map .p))
noncomputable def asF (a:AV):Option (List AV):=(lstO a).or (((asP a).bind itemsOf).map (·.map .p))
noncomputable def asSeq (σ:Sto) (a:AV):Option (List AV):=(asF a).or ((trkO σ a).bind lO)
theorem listOf_eq {x:PyData} {l:List PyData} (h:listOf x=some l):x=.list l:=by
 cases x with
 | list=>exact congrArg _ (Option.some.inj h)
 | _=>cases h
theorem VR.lst_inv {u:Value} {l:List AV} (V:VR C G u (.lst l)):∃ x o vs n,u=.ref x∧G.F x∧G.h.get? x=some o∧(o.cls=.type "list"∧o.dict=none)∧o.data=.seq vs n∧VRs C G vs.toList l:=by
 exact V.lst_elim fun _ _ _ _ h1 h2 h3 h4 h5=>(Ieeeeaaaaa _ _ _ _ rfl h1 h2 h3 h4 h5)
theorem asL_vrF {u:Value} {a:AV} {l:List AV} (V:VR C G u a) (h:asL a=some l):∃ x o vs n,u=.ref x∧G.F x∧G.h.get? x=some o∧(o.cls=.type "list"∧o.dict=none)∧o.data=.seq vs n∧VRs C G vs.toList l:=by
 rcases Option.or_eq_some_iff.mp h with h | ⟨_,h⟩
 ·obtain rfl:=lstO_eq h
  exact V.lst_inv
 ·refine Zea (Option.map_eq_some_iff.mp h) fun ys h e=>?_
  refine Zea (Option.bind_eq_some_iff.mp h) fun x e1 e2=>?_
  obtain rfl:=asP_eq e1
  obtain rfl:=listOf_eq e2
  obtain rfl:=e
  refine Zeeeeaaaaaa V.list_shape fun a o vs n z h1 h2 h3 h4 h5 h6=>?_
  exact (Ieeeeaaaaa a o vs n z h1 h2 h3 h4 (h5.vrs h6))
theorem asL_vr {u:Value} {a:AV} {l:List AV} (V:VR C G u a) (h:asL a=some l):∃ x o vs n,u=.ref x∧G.h.get? x=some o∧o.cls=.type "list"∧o.data=.seq vs n∧VRs C G vs.toList l:=by
 refine Zeeeeaaaaa (asL_vrF V h) fun x o vs n e f g c d r=>?_
 exact (Ieeeeaaaa x o vs n e g c.1 d r)
theorem asF_vr {u:Value} {a:AV} {l:List AV} (V:VR C G u a) (h:asF a=some l):∃ x o vs n,u=.ref x∧G.F x∧G.h.get? x=some o∧(o.cls=.type "list"∨(isLst a=false∧o.cls=.type "tuple"))∧o.data=.seq vs n∧VRs C G vs.toList l:=by
 rcases Option.or_eq_some_iff.mp h with h | ⟨_,h⟩
 ·obtain rfl:=lstO_eq h
  refine Zeeeeaaaaa V.lst_inv fun x o vs n e f g c d r=>?_
  exact (Ieeeeaaaaa x o vs n e f g (.inl c.1) d r)
 ·refine Zea (Option.map_eq_some_iff.mp h) fun ys h e=>?_
  refine Zea (Option.bind_eq_some_iff.mp h) fun x e1 e2=>?_
  obtain rfl:=asP_eq e1
  obtain rfl:=e
  rcases itemsOf_eq e2 with rfl | rfl
  ·refine Zeeeeaaaaaa V.list_shape fun a o vs n z h1 h2 h3 h4 h5 h6=>?_
   exact (Ieeeeaaaaa a o vs n z h1 h2 (.inl h3.1) h4 (h5.vrs h6))
  ·refine Zeeeeaaaaaa V.tup_shape fun a o vs n z h1 h2 h3 h4 h5 h6=>?_
   exact (Ieeeeaaaaa a o vs n z h1 h2 (.inr ⟨rfl,h3⟩) h4 (h5.vrs h6))
theorem asSeq_vr {u:Value} {a:AV} {l:List AV} (I:Inv C G σ) (V:VR C G u a) (h:asSeq σ a=some l):∃ x o vs n,u=.ref x∧G.h.get? x=some o∧(o.cls=.type "list"∨o.cls=.type "tuple")∧o.data=.seq vs n∧VRs C G vs.toList l:=by
 rcases Option.or_eq_some_iff.mp h with h | ⟨_,h⟩
 ·refine Zeeeeaaaaa (asF_vr V h) fun x o vs n e f g c d r=>?_
  exact (Ieeeeaaaa x o vs n e g (c.imp id (·.2)) d r)
 ·refine Zea (Option.bind_eq_some_iff.mp h) fun o' e1 e2=>?_
  obtain rfl:=lO_eq e2
  refine Zea (trkO_vr I V e1) fun x e3 q=>?_
  refine Zeeeaaa q fun o vs n h1 h2 h3 h4=>?_
  exact (Ieeeeaaaa x o vs n e3 h1 (.inl h2.1) h3 h4)
theorem VRs.append {us vs:List Value}:∀ {as bs:List AV},VRs C G us as→VRs C G vs bs→VRs C G (us++vs) (as++bs):=by
 induction us with
 | nil=>intro as bs h k;cases h;exact k
 | cons u us ih=>intro as bs h k;cases h with | cons a b=>exact .cons a (ih b k)
theorem gives_one {A:Around} {t:Sem Value} {o:Obj} (I:Inv C G σ) (h:∀ (Q:Value→Shared→Prop) E,Q (.ref G.sz) (G.one o).s→W C A t Q E G.s) (hv:VR C (G.one o) (.ref G.sz) v) (hf:o.isFreed=false:=by rfl):Gives C A G t v σ:=
 fun Q E hQ=>h Q E (hQ _ (G.one o) (one_step o) (one_inv I o hf) hv)
theorem op_addl {a b:AV} {l l':List AV} (h1:asL a=some l) (h2:asL b=some l') (hz:l.length+l'.length≤sizeLine):Op2 C D (binaryOp .Add) a b σ (mkL (l++l')) σ:=fun A G u1 u2 hA I V1 V2=>by
 refine Zeeeeaaaa (asL_vr V1 h1) fun x z34 vs n z35 e1 c1 d1 r1=>?_
 obtain ⟨cls,dd,data,sl⟩:=z34
 obtain rfl:=z35
 refine Zeeeeaaaa (asL_vr V2 h2) fun y z32 ws n' z33 e2 c2 d2 r2=>?_
 obtain ⟨cls',dd',data',sl'⟩:=z32
 obtain rfl:=z33
 simp only at c1 d1 c2 d2
 subst c1 d1 c2 d2
 have hsz:vs.size+ws.size≤sizeLine:=by
  have:=r1.length;have:=r2.length;simp at *;omega
 refine gives_one (o:={ cls:=.type "list",data:=.seq (vs.toList++ws.toList).toArray }) I (fun Q E h=>?_) (vr_list (.inr rfl) one_get ⟨rfl,rfl⟩ rfl ((r1.append r2).step I (one_step _) I.hX))
 refine concat_meets (Iea _ e1 rfl) (Iea _ e2 rfl) noFill_list_add seq_list_add PySem.F.slot_list_add PySem.F.entry_list_add (PySem.F.args_list_add_2 _ _) (list_addW x y vs ws n n' dd dd' sl sl' hsz) (Iaa e1 e2 ?_)
 have e:vs++ws=(vs.toList++ws.toList).toArray:=by simp
 rw [e];exact h
theorem PRs.append {h:Heap} {F:Addr→Prop} {us vs:List Value}:∀ {as bs:List PyData},PRs h F us as→PRs h F vs bs→PRs h F (us++vs) (as++bs):=by
 induction us with
 | nil=>intro as bs h k;cases h;exact k
 | cons u us ih=>intro as bs h k;cases h with | cons a b=>exact .cons a (ih b k)
theorem can_append {a b:List PyData} (h:PyData.canLayAll0 a=true) (k:PyData.canLayAll0 b=true):PyData.canLayAll0 (a++b)=true:=
 canAll_of fun x hx=>(List.mem_append.mp hx).elim (canAll h) (canAll k)
theorem op_addt {a b:List PyData} (hz:a.length+b.length≤sizeLine):Op2 C D (binaryOp .Add) (.p (.tuple a)) (.p (.tuple b)) σ (.p (.tuple (a++b))) σ:=fun A G u1 u2 hA I V1 V2=>by
 refine Zeeeeaaaaaa V1.tup_shape fun x z30 vs n z31 f1 e1 c1 d1 r1 k1=>?_
 obtain ⟨cls,dd,data,sl⟩:=z30
 obtain rfl:=z31
 refine Zeeeeaaaaaa V2.tup_shape fun y z28 ws n' z29 f2 e2 c2 d2 r2 k2=>?_
 obtain ⟨cls',dd',data',sl'⟩:=z28
 obtain rfl:=z29
 simp only at c1 d1 c2 d2
 subst c1 d1 c2 d2
 have l1:=r1.length
 have l2:=r2.length
 simp only [Array.length_toList] at l1 l2
 by_cases hv:a=[]
 ·subst hv
  have:vs=#[]:=by simpa using l1
  subst this
  intro Q E hQ
  exact concat_meets (Iea _ e1 rfl) (Iea _ e2 rfl) noFill_tuple_add seq_tuple_add PySem.F.slot_tuple_add PySem.F.entry_tuple_add (PySem.F.args_tuple_add_2 _ _)
   (tuple_addW0 x y #[] ws n n' dd dd' sl sl' (by simp)) (Iaa e1 e2 (hQ _ G .refl I (by simpa using V2)))
 ·have hv':vs≠#[]:=by rintro rfl;exact hv (List.length_eq_zero_iff.mp l1.symm)
  by_cases hw:b=[]
  ·subst hw
   have:ws=#[]:=by simpa using l2
   subst this
   intro Q E hQ
   exact concat_meets (Iea _ e1 rfl) (Iea _ e2 rfl) noFill_tuple_add seq_tuple_add PySem.F.slot_tuple_add PySem.F.entry_tuple_add (PySem.F.args_tuple_add_2 _ _)
    (tuple_addW1 x y vs #[] n n' dd dd' sl sl' (by simpa using hv') (by simp)) (Iaa e1 e2 (hQ _ G .refl I (by simpa using V1)))
  ·have hw':ws≠#[]:=by rintro rfl;exact hw (List.length_eq_zero_iff.mp l2.symm)
   refine gives_one (o:={ cls:=.type "tuple",data:=.seq (vs.toList++ws.toList).toArray }) I (fun Q E h=>?_)
    (.p (.tuple (.inr rfl) one_get rfl rfl (by simpa using (r1.append r2).step I (one_step (C:=C) _))) (by simpa [PyData.canLay0] using can_append k1 k2))
   refine concat_meets (Iea _ e1 rfl) (Iea _ e2 rfl) noFill_tuple_add seq_tuple_add PySem.F.slot_tuple_add PySem.F.entry_tuple_add (PySem.F.args_tuple_add_2 _ _)
    (tuple_addW2 x y vs ws n n' dd dd' sl sl' (by simpa using hv') (by simpa using hw') (by walk_at "o")) (Iaa e1 e2 ?_)
   have e:vs++ws=(vs.toList++ws.toList).toArray:=by simp
   rw [e];exact h
theorem EvE.sub {x i:Expr} {pos} {a b:AV} (h1:EvE C D sc m σ x a σ') (h2:EvE C D sc m σ' i b σ'') (h:Op2 C D (subscriptTail x i) a b σ'' v σ'') :
  EvE C D sc m σ (.Subscript x i pos) v σ'':=fun A G env hA I K Q E hQ=>
 Subscript_ (h1 A G env hA I K _ _ fun u1 G1 s1 I1 V1=>h2 A G1 env hA I1 (K.step I s1) _ _ fun u2 G2 s2 I2 V2=>
  h A G2 u1 u2 hA I2 (V1.step I1 s2 I1.hX) V2 _ _ fun u G3 s3 I3 V3=>hQ u G3 ((s1.trr I s2).trr I s3) I3 V3)
noncomputable def noSlice:Expr→Bool
 | .Slice ..=>false
 | _=>true
theorem subscripted_of {i:Expr} (h:noSlice i=true) (o k:Value):subscripted i false o k=operate [o,k] (getItem o k):=by cases i<;>first | rfl | cases h
theorem op_item {x i:Expr} {a:AV} {k:Int} {l:List AV} (hn:noSlice i=true) (ha:asSeq σ a=some l) (h0:0≤k) (hk:k < 2 ^ 63) (hv:l[k.toNat]?=some v):Op2 C D (subscriptTail x i) a (.p (.int k)) σ v σ:=fun A G u1 u2 hA I V1 V2=>by
 apply RLeeeeaaaa4 (asSeq_vr I V1 ha)
 intro a o vs n e1 c1 d1 r1
 apply RLe1 V2.int_shape
 intro t
 intro Q E hQ
 refine Zea (r1.get hv) fun u hu VU=>?_
 rcases c1 with c1 | c1
 ·have hl:G.h.IsList a vs:=(Ieaae o e1 c1 n d1)
  exact tail_any hl.typeIs slot_list_getitem.lookup (wpAny_getItem_list hl h0 hk (by simpa using hu) (hQ u G .refl I VU)) (subscripted_of hn _ _)
 ·have hl:IsTup G.h a vs:=(Ieaae o e1 c1 n d1)
  have hlt:k.toNat < vs.size:=by have:=(List.getElem?_eq_some_iff.mp hu).1;simpa using this
  exact tail_any hl.typeIs slot_tuple_getitem.lookup (PyProof.Rows.getItem_tuple hl (by walk_at "o") hk (seqIndex_of h0 (by walk_at "o")) (by simpa using hu) (hQ u G .refl I VU)) (subscripted_of hn _ _)
theorem op_key {x i:Expr} {a:AV} {k:Str} {l:Mp} (hn:noSlice i=true) (ha:asD σ a=some l) (hv:l.lookup k=some v):Op2 C D (subscriptTail x i) a (.p (.str k)) σ v σ:=fun A G u1 u2 hA I V1 V2=>by
 apply RLeeaaa2 (asD_vr I V1 ha)
 intro a f M r1 z1
 refine Za V2.str_shape fun z24 c2=>?_
 apply RLe1 z24
 intro t
 refine Zea (r1.1 k v hv) fun u q V=>?_
 exact gives_toks I fun Q E h=>tail_any M.typeIs slot_dict_getitem.lookup (wpAny_getItem_of (strKind_self k t) M q (h u _ (V.step I (toks_step _) I.hX))) (subscripted_of hn _ _)
theorem PRs.drop {h:Heap} {F:Addr→Prop}:∀ {us:List Value} {xs:List PyData} (a:Nat),PRs h F us xs→PRs h F (us.drop a) (xs.drop a)
 | _,_,0,r=>r
 | _,_,_+1,.nil=>.nil
 | _,_,a+1,.cons _ q=>q.drop a
theorem EvE.tupFrom {x lo:Expr} {p pos} {l:List PyData} {a:Nat} (h1:EvE C D sc m σ x (.p (.tuple l)) σ') (h2:EvE C D sc m σ' lo (.p (.int a)) σ'') (h0:1≤a) (ha:a≤l.length) (hl:l.length≤sizeLine) (hx:∀ o r,letTemporaryGo x o r=pure ()) :
  EvE C D sc m σ (.Subscript x (.Slice (some lo) none none p) pos) (.p (.tuple (l.drop a))) σ'':=fun A G env hA I K Q E hQ=>by
 refine wpAny_Subscript_Slice (T:="tuple") slot_tuple_getitem.lookup (h1 A G env hA I K _ _ fun u1 G1 s1 I1 V1=>?_) hx
 refine wpAny_Slice ?_
 rw [evalPart_some]
 refine h2 A G1 env hA I1 (K.step I s1) _ _ fun u2 G2 s2 I2 V2=>?_
 rw [evalPart_none]
 refine wpAny_pure ?_
 refine wpAny_pure ?_
 apply RLe1 V2.int_shape
 intro t
 apply RLeeeeaaaaaa4 ((V1.step I1 s2 I1.hX).tup_shape)
 intro y o vs n f1 e1 c1 d1 r1 k1
 have I3:=one_inv I2 { cls:=.type "slice",data:=.fields #[.int a t,.none,.none] }
 have s3:Step C G2.tr G2 (G2.one { cls:=.type "slice",data:=.fields #[.int a t,.none,.none] }):=one_step _
 have ht:IsTup G2.h y vs:=(Ieaae o e1 c1 n d1)
 have ht':IsTup (G2.h.push { cls:=.type "slice",data:=.fields #[.int a t,.none,.none] }) y vs:=ht.keeps fun _ _ e=>Heap.get?_push_of_some _ e
 have ll:=r1.length
 simp only [Array.length_toList] at ll
 refine ⟨ht'.typeIs,getItem_tuple_from ht' (Heap.IsSliceOf.new ..) h0 (by walk_at "o") ?_ (by walk_at "o")⟩
 refine hQ _ ((G2.one { cls:=.type "slice",data:=.fields #[.int a t,.none,.none] }).one _) (((s1.trr I s2).trr I s3).trr I (one_step _)) (one_inv I3 _) ?_
 refine .p (.tuple (.inr rfl) one_get rfl rfl ?_) (by simpa [PyData.canLay0] using canAll_of fun z hz=>canAll k1 (List.mem_of_mem_drop hz))
 have r2:PRs G2.h G2.F (vs.toList.drop a) (l.drop a):=by
  exact r1.drop a
 exact (r2.step I2 s3).step I3 (one_step (C:=C) { cls:=.type "tuple",data:=.seq (vs.toList.drop a).toArray })
theorem VRs.take {us:List Value}:∀ {vs:List AV} (k:Nat),VRs C G us vs→VRs C G (us.take k) (vs.take k):=by
 induction us with
 | nil=>intro vs k h;cases h;simp;exact .nil
 | cons u us ih=>intro vs k h;cases h with | cons a b=>cases k with
  | zero=>exact .nil
  | succ k=>exact .cons a (ih k b)
theorem EvE.listTo {x up:Expr} {p pos} {b:AV} {l:List AV} {y:Nat} (h1:EvE C D sc m σ x b σ') (hb:asL b=some l) (h2:EvE C D sc m σ' up (.p (.int y)) σ'') (h0:y≤l.length) (hl:l.length≤sizeLine) (hx:∀ o r,letTemporaryGo x o r=pure ()) :
  EvE C D sc m σ (.Subscript x (.Slice none (some up) none p) pos) (mkL (l.take y)) σ'':=fun A G env hA I K Q E hQ=>by
 refine wpAny_Subscript_list_slice (h1 A G env hA I K _ _ fun u1 G1 s1 I1 V1=>?_) hx
 rw [evalPart_none,evalPart_some]
 refine wpAny_pure ?_
 refine h2 A G1 env hA I1 (K.step I s1) _ _ fun u2 G2 s2 I2 V2=>?_
 apply RLe1 V2.int_shape
 intro t
 apply RLeeeeaaaa4 (asL_vr (V1.step I1 s2 I1.hX) hb)
 intro a o vs n e1 c1 d1 r1
 have ll:=r1.length
 simp only [Array.length_toList] at ll
 refine (Ieeeeaaaaa a vs none (some y) rfl (Ieaae o e1 c1 n d1) (by walk_at "o") .none (.int _ _) ?_)
 have I3:=one_inv I2 { cls:=.type "slice",data:=.fields #[.none,.int y t,.none] }
 have s3:Step C G2.tr G2 (G2.one { cls:=.type "slice",data:=.fields #[.none,.int y t,.none] }):=one_step _
 have hz:(G2.one { cls:=.type "slice",data:=.fields #[.none,.int y t,.none] }).sz=G2.s.heap.objs.size+1:=Heap.size_push ..
 rw [slicePick_upto vs y (by walk_at "o"),← hz]
 refine hQ _ ((G2.one { cls:=.type "slice",data:=.fields #[.none,.int y t,.none] }).one _) (((s1.trr I s2).trr I s3).trr I (one_step _)) (one_inv I3 _) ?_
 exact vr_list (.inr rfl) one_get ⟨rfl,rfl⟩ rfl (((r1.take y).step I2 s3 I2.hX).step I3 (one_step _) I3.hX)
structure ClsOk (C:Cx) (c:Addr) (name:Str):Prop where
 g:plainGet C.K c name=true
 h:hasDictIn C.K c=true
 f:∃ attr,findIn C.K (.ref c) name=some attr∧noGet C.K attr=true
noncomputable def insO:AV→Option (Addr × Mp)
 | .ins c l=>some (c,l)
 | _=>none
noncomputable def insA:AO→Option (Addr × Nat)
 | .ins c d=>some (c,d)
 | _=>none
noncomputable def attO:AO→Option (Mp)
 | .att l=>some l
 | _=>none
theorem insO_eq {a:AV} {p:Addr × Mp} (h:insO a=some p):a=.ins p.1 p.2:=by
 cases a with
 | ins=>exact Option.some.inj h▸rfl
 | _=>cases h
theorem insA_eq {a:AO} {p:Addr × Nat} (h:insA a=some p):a=.ins p.1 p.2:=by
 cases a with
 | ins=>exact Option.some.inj h▸rfl
 | _=>cases h
theorem attO_eq {a:AO} {l:Mp} (h:attO a=some l):a=.att l:=by
 cases a with
 | att=>exact congrArg _ (Option.some.inj h)
 | _=>cases h
noncomputable def insT (σ:Sto) (a:AV):Option (Addr × Mp):=((trkO σ a).bind insA).bind fun p=>((σ[p.2]?).bind attO).map fun l=>(p.1,l)
noncomputable def attrOf (σ:Sto) (name:Str) (a:AV):Option (Addr × AV):=((insO a).or (insT σ a)).bind fun p=>(p.2.lookup name).map fun v=>(p.1,v)
noncomputable def notVal:AV→Bool
 | .val _=>false
 | _=>true
theorem VR.handed {u:Value} (V:VR C G u v) (h:notVal v=true):handedIn u=true:=by
 cases V with
 | p a b=>cases a<;>rfl
 | val=>cases h
 | _=>rfl
theorem isStr_isStrOf {k:Str} {u:Value}:u.isStr k=Value.isStrOf k u:=by cases u<;>rfl
theorem VRd.noRef {es:List DictEntry} {l:Mp} (H:VRd C G es l):es.any (·.refKey)=false:=by
 refine VRd.ind ?_ ?_ H
 ·rfl
 intro e es k x l a b c ih
 refine Ze (Value.isStrOf_shape a) fun t h=>?_
 rw [List.any_cons,ih,DictEntry.refKey,h];rfl
theorem VRd.getL {k:Str} {es:List DictEntry} {l:Mp} (h:VRd C G es l) (e:l.lookup k=some v):∃ u,PySem.W.getL k es=some (some u)∧VR C G u v:=by
 refine Za (h.find (k:=k)) fun h1 h2=>?_
 unfold PySem.W.getL
 simp only [isStr_isStrOf]
 cases q:es.find? fun e=>Value.isStrOf k e.key with
 | none=>rw [h2 (by rw [q];rfl)] at e;cases e
 | some en=>
  refine Zea (h1 en.val (by rw [q];rfl)) fun x e' V=>?_
  rw [e'] at e;cases e
  exact (Iea _ rfl V)
theorem ins_vr {u:Value} {a:AV} {p:Addr × Mp} (I:Inv C G σ) (V:VR C G u a) (h:(insO a).or (insT σ a)=some p):∃ x d es n sl,u=.ref x∧G.h.get? x=some ⟨.ref p.1,some d,.plain,sl⟩∧G.h.get? d=some (dictOf es n)∧VRd C G es p.2:=by
 rcases Option.or_eq_some_iff.mp h with h | ⟨_,h⟩
 ·obtain rfl:=insO_eq h
  exact V.ins_elim fun x d es n sl a b c=>(Ieeeeeaaa x d es n sl rfl a b c)
 ·refine Zea (Option.bind_eq_some_iff.mp h) fun q e1 e2=>?_
  refine Zea (Option.bind_eq_some_iff.mp e1) fun o1 e3 e4=>?_
  refine Zea (Option.map_eq_some_iff.mp e2) fun l e5 e6=>?_
  refine Zea (Option.bind_eq_some_iff.mp e5) fun o2 e7 e8=>?_
  obtain rfl:=insA_eq e4
  obtain rfl:=attO_eq e8
  obtain rfl:=e6
  refine Zea (trkO_vr I V e3) fun x f1 q1=>?_
  refine Zeea q1 fun da sl h1 h2=>?_
  refine Zeeaa (I.tget h1 e7) fun es n h3 h4 h5=>?_
  exact (Ieeeeeaaa x da es n sl f1 h2 h3 h4)
theorem attr_vr {u:Value} {a:AV} {name:Str} {c:Addr} (I:Inv C G σ) (V:VR C G u a) (h:attrOf σ name a=some (c,v)):∃ x d es n sl w,u=.ref x∧G.h.get? x=some ⟨.ref c,some d,.plain,sl⟩∧G.h.get? d=some (dictOf es n)∧PySem.W.getL name es=some (some w)∧VR C G w v:=by
 refine Zea (Option.bind_eq_some_iff.mp h) fun p e1 h=>?_
 refine Zea (Option.map_eq_some_iff.mp h) fun x e e2=>?_
 cases e2
 refine Zeeeeeaaa (ins_vr I V e1) fun y d es n sl f1 f2 f3 f4=>?_
 refine Zea (f4.getL e) fun w e1 e2=>?_
 exact ⟨y,d,es,n,sl,w,f1,f2,f3,e1,e2⟩
theorem op_attr (ok:C.Ok) {a:AV} {name:Str} {c:Addr} (h:attrOf σ name a=some (c,v)) (hc:ClsOk C c name) (hv:notVal v=true):Op1 C D (fun u=>getAttr u name true) a σ v σ:=fun A G u hA I V=>by
 apply RLeeeeeeaaaa6 (attr_vr I V h)
 intro x d es n sl w h1 h2 h3 h4
 refine Zea hc.f fun attr f1 f2=>?_
 refine gives_toks I fun Q E hQ=>?_
 exact get_value (ok.X.keeps I.keeps0) (ox:=⟨.ref c,some d,.plain,sl⟩) ⟨h1,rfl,rfl,h2⟩ (plainGet_of hc.g).1 (findObj_own hc.h f1 f2 ((lookIn_dict name es n).trans h3)) (h4.handed hv) (hQ w _ (h4.step I (toks_step _) I.hX))
noncomputable def notCall:Expr→Bool
 | .Call ..=>false
 | _=>true
theorem attributeBase_of {x:Expr} (h:notCall x=true) {attr:Str} {env:Env} {whole:Sem Value}:attributeBase x attr env whole=whole:=by cases x<;>first | rfl | cases h
theorem EvE.attr {x:Expr} {name:Str} {pos} {a:AV} (h1:EvE C D sc m σ x a σ') (hx:notCall x=true) (h:Op1 C D (fun u=>getAttr u name true) a σ' v σ'):EvE C D sc m σ (.Attribute x name pos) v σ':=fun A G env hA I K Q E hQ=>by
 rw [arm_eval_Attribute,attributeBase_of hx]
 refine wpAny_bind (h1 A G env hA I K _ _ fun u1 G1 s1 I1 V1=>wpAny_bind (wpAny_standAt (wpAny_bind (wpAny_holding (h A G1 u1 hA I1 V1 _ _ fun u G2 s2 I2 V2=>?_)))))
 exact wpAny_bind (wpAny_letTemporaryGo (wpAny_pure (hQ u G2 (s1.trr I s2) I2 V2)))
end

inductive Out where
 | next (m:Mp) (σ:Sto)
 | ret (v:AV) (σ:Sto)
 | exc (c:Addr) (σ:Sto)
inductive ExcSt where
 | fresh
 | flying
 | held (L:Addr)
structure Off (C:Cx) (G:St) (a:Addr):Prop where
 f:¬ G.F a
 r:a ∉ G.r
 t:¬ C.tabP a
 s:a ∉ G.fs
structure Exc (C:Cx) (G:St) (c:Addr) (st:ExcSt) (e T:Addr):Prop where
 oe:Off C G e
 oT:Off C G T
 ne:T≠e
 at_:∃ oe vs a0,G.h.get? e=some oe∧oe.cls=.ref c∧oe.data=.fields vs∧vs[0]?=some a0∧(match st with
  | .fresh=>vs[1]?=some .none∧True
  | .flying=>vs[1]?=some (.ref T)∧∃ oT ts,G.h.get? T=some oT∧oT.data=.fields ts∧ts[3]?=some .none
  | .held L=>vs[1]?=some (.ref T)∧∃ oT ts,G.h.get? T=some oT∧oT.data=.fields ts∧ts[3]?=some (rawInt L))
noncomputable def Xs (G:St) (env:Env) (sc:Scope):Addr→Prop:=fun a=>a∈G.r∨a=env.locals∨∃ x,sc.names.lookup x=some .cell∧env.cells.lookup x=some a
noncomputable def Post (C:Cx) (A:Around) (G:St) (env:Env) (sc:Scope) (o:Out) (Q:Flow→Shared→Prop) (E:Value→Shared→Prop):Prop:=match o with
 | .next m σ=>∀ G',Step C (Xs G env sc) G G'→Inv C G' σ→EnvOk C A G' env sc m→Q .next G'.s
 | .ret v σ=>∀ u G',Step C (Xs G env sc) G G'→Inv C G' σ→StackOk A G'→VR C G' u v→Q (.ret u) G'.s
 | .exc c σ=>∀ st e T G',Step C (Xs G env sc) G G'→Inv C G' σ→StackOk A G'→G.h.get? e=none→G.h.get? T=none→Exc C G' c st e T→(∀ L,st=.held L→env.frame=some L)→E (.ref e) G'.s
structure OwnOk (C:Cx) (G:St) (env:Env) (sc:Scope):Prop where
 own:∀ x c,sc.names.lookup x=some .cell→env.cells.lookup x=some c→¬ G.F c∧c ∉ G.fs∧c≠env.locals∧∀ y,(sc.names.lookup y=some .cell∨sc.names.lookup y=some .free)→env.cells.lookup y=some c→y=x
noncomputable def TopOk (A:Around) (env:Env):Prop:=∃ l L,A.frames=some (env::l)∧env.frame=some L
noncomputable def ExS (C:Cx) (D:Nat) (sc:Scope) (m:Mp) (σ:Sto) (ss:List Stmt) (o:Out):Prop:=
 ∀ A G env,AOk A D→Inv C G σ→EnvOk C A G env sc m→OwnOk C G env sc→TopOk A env→∀ Q E,Post C A G env sc o Q E→W C A (execs ss env) Q E G.s
noncomputable def Ex1 (C:Cx) (D:Nat) (sc:Scope) (m:Mp) (σ:Sto) (s:Stmt) (o:Out):Prop:=
 ∀ A G env,AOk A D→Inv C G σ→EnvOk C A G env sc m→OwnOk C G env sc→TopOk A env→∀ Q E,Post C A G env sc o Q E→W C A (exec s env) Q E G.s
section
variable {C:Cx} {D:Nat} {sc:Scope} {m m':Mp} {σ σ' σ'':Sto} {e:Expr} {v:AV} {G G' G'':St} {A:Around} {env:Env} {o:Out}
theorem EnvOk.there (K:EnvOk C A G env sc m):∃ o,G.h.get? env.locals=some o:=by refine Zea K.ns fun ml z16 _=>?_;refine Zeeea z16 fun o es ep e _=>?_;exact ⟨o,e⟩
theorem EnvOk.thereC (K:EnvOk C A G env sc m) {x:Str} {a:Addr} (h:sc.names.lookup x=some .cell) (h':env.cells.lookup x=some a):∃ o,G.h.get? a=some o:=by
 refine Zeaa (K.cell x (.inl h)) fun c e z15 _=>?_
 refine Zeea z15 fun u o e2 _=>?_
 rw [h'] at e;cases e;exact ⟨o,e2⟩
theorem Xs.old (a:Step C (Xs G env sc) G G') {x:Addr} (h:Xs G' env sc x):Xs G env sc x∨G.h.get? x=none:=by
 rcases h with h | h
 ·exact (a.rold h).imp .inl id
 ·exact .inl (.inr h)
theorem Step.trs (a:Step C (Xs G env sc) G G') (b:Step C (Xs G' env sc) G' G''):Step C (Xs G env sc) G G'':=a.trans b fun _ h=>Xs.old a h
theorem Step.toX (a:Step C G.tr G G'):Step C (Xs G env sc) G G':=a.weaken fun _ h=>.inl (.inl h)
theorem OwnOk.step {X:Addr→Prop} (h:OwnOk C G env sc) (K:EnvOk C A G env sc m) (b:Step C X G G'):OwnOk C G' env sc where
 own x c e1 e2:=by
  refine Zaaa (h.own x c e1 e2) fun h1 hf h2 h3=>?_
  refine (Iaaa (fun q=>(b.new _ q).elim h1 fun z=>?_) (b.fs▸hf) h2 h3)
  refine Ze (K.thereC e1 e2) fun o e=>?_
  rw [z] at e;cases e
theorem Post.pre {Q:Flow→Shared→Prop} {E:Value→Shared→Prop} (s:Step C (Xs G env sc) G G') (h:Post C A G env sc o Q E):Post C A G' env sc o Q E:=by
 cases o with
 | next m σ=>exact fun G2 s2=>h G2 (s.trs s2)
 | ret v σ=>exact fun u G2 s2=>h u G2 (s.trs s2)
 | exc c σ=>exact fun st e T G2 s2 I2 k2 h1 h2=>h st e T G2 (s.trs s2) I2 k2 (s.dead h1) (s.dead h2)
theorem ExS.nil:ExS C D sc m σ [] (.next m σ):=fun A G env hA I K O TT Q E h=>wpAny_execs_nil (h G .refl I K)
theorem ExS.cons {s:Stmt} {ss:List Stmt} (h1:Ex1 C D sc m σ s (.next m' σ')) (h2:ExS C D sc m' σ' ss o):ExS C D sc m σ (s::ss) o:=fun A G env hA I K O TT Q E h=>
 wpAny_execs_cons (h1 A G env hA I K O TT _ _ fun G' st I' K'=>h2 A G' env hA I' K' (O.step K st) TT Q E (Post.pre st h))
theorem ExS.ret {s:Stmt} {ss:List Stmt} (h1:Ex1 C D sc m σ s (.ret v σ')):ExS C D sc m σ (s::ss) (.ret v σ'):=fun A G env hA I K O TT Q E h=>
 wpAny_execs_cons (h1 A G env hA I K O TT _ _ fun u G' st I' k V=>h u G' st I' k V)
theorem ExS.exc {s:Stmt} {ss:List Stmt} {c:Addr} (h1:Ex1 C D sc m σ s (.exc c σ')):ExS C D sc m σ (s::ss) (.exc c σ'):=fun A G env hA I K O TT Q E h=>
 wpAny_execs_cons (h1 A G env hA I K O TT _ _ h)
theorem Ex1.ifT {t:Expr} {b e:List Stmt} {pos} (h:EvT C D sc m σ t true σ') (h2:ExS C D sc m σ' b o):Ex1 C D sc m σ (.If t b e pos) o:=fun A G env hA I K O TT Q E hQ=>
 wpAny_If (h A G env hA I K _ _ fun G' st I'=>h2 A G' env hA I' (K.step I st) (O.step K st) TT Q E (Post.pre st.toX hQ))
theorem Ex1.ifF {t:Expr} {b e:List Stmt} {pos} (h:EvT C D sc m σ t false σ') (h2:ExS C D sc m σ' e o):Ex1 C D sc m σ (.If t b e pos) o:=fun A G env hA I K O TT Q E hQ=>
 wpAny_If (h A G env hA I K _ _ fun G' st I'=>h2 A G' env hA I' (K.step I st) (O.step K st) TT Q E (Post.pre st.toX hQ))
theorem Ex1.retE {x:Expr} {pos} (h:EvE C D sc m σ x v σ'):Ex1 C D sc m σ (.Return (some x) pos) (.ret v σ'):=fun A G env hA I K O TT Q E hQ=>
 wpAny_Return_some (h A G env hA I K _ _ fun u G' st I' V=>hQ u G' st.toX I' (K.step I st).stk V)
theorem Ex1.retN {pos}:Ex1 C D sc m σ (.Return none pos) (.ret (.p .none) σ):=fun A G env hA I K O TT Q E hQ=>
 wpAny_Return_none (hQ .none G .refl I K.stk vr_none)
noncomputable def X1 (env:Env) (sc:Scope) (x:Str):Addr→Prop:=fun a=>(sc.names.lookup x=some .local∧a=env.locals)∨(sc.names.lookup x=some .cell∧env.cells.lookup x=some a)
theorem X1.xs {x:Str} {a:Addr} (h:X1 env sc x a):Xs G env sc a:=by
 rcases h with ⟨_,h⟩ | ⟨h,h'⟩
 ·exact .inr (.inl h)
 ·exact .inr (.inr (Iea x h h'))
theorem store_core {A2:Around} {x:Str} {u:Value} (I:Inv C G σ) (K:EnvOk C A G env sc m)
  (hO:sc.names.lookup x=some .cell→∀ c,env.cells.lookup x=some c→¬ G.F c∧c ∉ G.fs∧c≠env.locals∧∀ y,(sc.names.lookup y=some .cell∨sc.names.lookup y=some .free)→env.cells.lookup y=some c→y=x)
  (V:VR C G u v) (hk:sc.names.lookup x=some .local∨sc.names.lookup x=some .cell) {Q:Unit→Shared→Prop} {E}
  (hQ:∀ G',Step C (X1 env sc x) G G'→Inv C G' σ→EnvOk C A G' env sc ((x,v)::m)→Q () G'.s):W C A2 (storeName env x u) Q E G.s:=by
 have hkf:env.scope.kind=.function:=by rw [K.scE];exact K.kind
 have main:∀ (a:Addr) (h':Heap) (tk:Nat),(X1 env sc x a)→a ∉ G.r→¬ C.tabP a→¬ G.F a→Heap.SameBut a G.h h'→(∀ oo,G.h.get? a=some oo→∃ o',h'.get? a=some o'∧(a∈G.fs→∀ vs,o'.data≠.fields vs)) →
   Step C (X1 env sc x) G ⟨{ G.s with heap:=h',toks:=tk },G.F,G.r,G.fs⟩∧Inv C ⟨{ G.s with heap:=h',toks:=tk },G.F,G.r,G.fs⟩ σ∧StackOk A ⟨{ G.s with heap:=h',toks:=tk },G.F,G.r,G.fs⟩:=by
  intro a h' tk hX hr ht hF hs hal
  have get:∀ b o,G.h.get? b=some o→b≠a→h'.get? b=some o:=fun b o e hb=>(hs.2 b hb).trans e
  have stp:Step C (·=a) G ⟨{ G.s with heap:=h',toks:=tk },G.F,G.r,G.fs⟩:=
   ⟨fun b o e hb _ _=>get b o e hb,fun b o e hb _=>⟨o.slots,get b o e hb⟩,fun b o e=>by
    by_cases hb:b=a
    ·subst hb;refine Zea (hal o e) fun o' e' _=>?_;exact ⟨o',e'⟩
    ·exact ⟨o,get b o e hb⟩,fun _ h=>h,fun _ h=>.inl h,(Iea ([]) ((List.append_nil _).symm) (fun _ h=>nomatch h)),rfl,rfl,rfl,rfl⟩
  refine (Iaa (stp.weaken fun b hb=>.inl (by subst hb;exact hX)) ?_ ?_)
  ·refine ⟨fun b o e=>⟨(I.base b o e).1,get b o (I.base b o e).2 fun q=>hF (q▸(I.base b o e).1)⟩,fun b hb=>?_,I.len,fun i b oo h1 h2=>?_,I.nd,I.rtab,fun b hb=>⟨(I.ftab b hb).1,?_⟩,fun q hq=>?_⟩
   ·refine Za (I.fz b hb) fun z14 r=>?_
    refine Ze z14 fun o e=>?_
    exact ⟨⟨o,get b o e fun q=>hF (q▸hb)⟩,r⟩
   ·exact (I.trk i b oo h1 h2).step I stp (fun x hx=>by subst hx;exact hF) fun o e=>get b o e fun q=>hr (q▸List.mem_of_getElem? h1)
   ·refine Ze ((I.ftab b hb).2) fun o e=>?_
    by_cases q:b=a
    ·subst q;refine Zea (hal o e) fun o' e' _=>?_;exact ⟨o',e'⟩
    ·exact ⟨o,get b o e q⟩
   ·refine Zeaa (I.tab q hq) fun ps e t k=>?_
    refine (Ieaa ps (get _ _ e fun z=>ht (z▸List.mem_map.mpr (Iea q hq rfl))) t (fun pos w hw=>(k pos w hw).mono (fun _ h=>h) fun b o hf e=>get b o e fun z=>hF (z▸hf)))
  ·refine Zea K.stk fun l e k=>?_
   refine (Iea l e (fun en hen=>?_))
   refine Zaeeaaa (k en hen) fun k1 L o h1 h2 h3 h4=>?_
   by_cases q:L=a
   ·subst q
    refine Zea (hal o h3) fun o' e' h6=>?_
    exact (Iaeeaaa k1 L o' h1 h2 e' (h6 h2))
   ·exact (Iaeeaaa k1 L o h1 h2 (get L o h3 q) h4)
 rcases hk with hk | hk
 ·refine Zea K.ns fun ml hn k=>?_
  refine wpAny_storeName_local ((K.kindOf x).trans hk) hn (fun h' hn' hs'=>?_) (by rw [hkf];rfl)
  have nsd:∀ (tk:Nat) oo,G.h.get? env.locals=some oo→∃ o',h'.get? env.locals=some o'∧(env.locals∈G.fs→∀ vs,o'.data≠.fields vs):=fun tk oo e=>by
   refine Zeeeaa hn' fun o' es ep e' hd _=>?_
   exact (Iea o' e' (fun _ vs q=>by rw [hd] at q;cases q))
  refine Zaa (main env.locals h' (G.s.toks+1) (.inl ⟨hk,rfl⟩) K.off.1 K.off.2.1 K.off.2.2 hs' (nsd 0)) fun s1 I1 k1=>?_
  have VS:∀ {u v},VR C G u v→VR C ⟨{ G.s with heap:=h',toks:=G.s.toks+1 },G.F,G.r,G.fs⟩ u v:=fun V=>VR.mono (G:=G) (G':=⟨{ G.s with heap:=h',toks:=G.s.toks+1 },G.F,G.r,G.fs⟩) (fun _ h=>h) (fun b o hf e=>(hs'.2 b fun z=>K.off.2.2 (z▸hf)).trans e) (fun _ _ h=>h) V
  refine hQ ⟨{ G.s with heap:=h',toks:=G.s.toks+1 },G.F,G.r,G.fs⟩ s1 I1 ⟨K.scE,K.kind,K.glob,K.bi,(Iea _ hn' (fun y w e1 e2=>?_)),fun y hy=>?_,K.off,k1,fun x c e=>let ⟨o,e'⟩:=K.live x c e;s1.alive c o e',K.inf.store (by rw [hk];exact fun q=>nomatch q)⟩
  ·rw [List.lookup_cons] at e1
   by_cases hyx:y=x
   ·subst hyx
    simp at e1;subst e1
    exact (Iea u (by simp) (VS V))
   ·have:(y == x)=false:=by simpa using hyx
    rw [this] at e1
    refine Zea (k y w e1 e2) fun u2 h1 h2=>?_
    exact (Iea u2 (by simp [hyx,h1]) (VS h2))
  ·refine Zeaaaa (K.cell y hy) fun c h1 z13 h3 h4 h5=>?_
   refine Ze z13 fun u0 h2=>?_
   have hyx:y≠x:=by rintro rfl;rw [hk] at hy;rcases hy with hy | hy<;>cases hy
   have hcl:c≠env.locals:=by
    rintro rfl
    refine Zea h2 fun o1 e1 d1=>?_
    refine Zeeeaa hn fun o2 es ep e2 d2 _=>?_
    rw [e1] at e2;cases e2;rw [d1] at d2;cases d2
   have hc:∀ {w},G.h.IsCell c w→h'.IsCell c w:=fun ⟨o,e,d⟩=>(Iea o ((hs'.2 c hcl).trans e) d)
   refine (Ieaaaa c h1 ⟨u0,hc h2⟩ (fun w e1=>?_) h4 h5)
   rw [List.lookup_cons,show (y == x)=false by simpa using hyx] at e1
   refine Zea (h3 w e1) fun u2 h6 h7=>?_
   exact (Iea u2 (hc h6) (VS h7))
 ·refine Zeaaaa (K.cell x (.inl hk)) fun c h1 z12 h3 h4 h5=>?_
  refine Ze z12 fun u0 h2=>?_
  refine Zaaa (hO hk c h1) fun w1 hfs w2 w3=>?_
  refine wpAny_storeName_cell hkf ((K.kindOf x).trans hk) h1 h2 fun h' hc' hs'=>?_
  refine Zaa (main c h' G.s.toks (.inr ⟨hk,h1⟩) h4 h5.1 w1 hs' (fun oo e=>by
   refine Zea hc' fun o' e' hd=>?_
   exact (Iea o' e' (fun q=>absurd q hfs)))) fun s1 I1 k1=>?_
  have VS:∀ {u v},VR C G u v→VR C ⟨{ G.s with heap:=h',toks:=G.s.toks },G.F,G.r,G.fs⟩ u v:=fun V=>VR.mono (G:=G) (G':=⟨{ G.s with heap:=h',toks:=G.s.toks },G.F,G.r,G.fs⟩) (fun _ h=>h) (fun b o hf e=>(hs'.2 b fun z=>w1 (z▸hf)).trans e) (fun _ _ h=>h) V
  refine hQ ⟨{ G.s with heap:=h',toks:=G.s.toks },G.F,G.r,G.fs⟩ s1 I1 ⟨K.scE,K.kind,K.glob,K.bi,?_,fun y hy=>?_,K.off,k1,fun x c e=>let ⟨o,e'⟩:=K.live x c e;s1.alive c o e',K.inf.store (by rw [hk];exact fun q=>nomatch q)⟩
  ·refine Zea K.ns fun ml hn k=>?_
   refine (Iea ml (hn.sameBut hs' (Ne.symm w2)) (fun y w e1 e2=>?_))
   have hyx:y≠x:=by rintro rfl;rw [hk] at e2;cases e2
   rw [List.lookup_cons,show (y == x)=false by simpa using hyx] at e1
   refine Zea (k y w e1 e2) fun u2 q1 q2=>?_
   exact (Iea u2 q1 (VS q2))
  ·refine Zeaaaa (K.cell y hy) fun c2 q1 z11 q3 q4 q5=>?_
   refine Ze z11 fun u2 q2=>?_
   by_cases hyx:y=x
   ·subst hyx
    rw [h1] at q1;cases q1
    refine (Ieaaaa c h1 ⟨_,hc'⟩ (fun w e1=>?_) h4 h5)
    rw [List.lookup_cons] at e1;simp at e1;subst e1
    exact (Iea u hc' (VS V))
   ·have hcc:c2≠c:=by rintro rfl;exact hyx (w3 y hy q1)
    have hc:∀ {w},G.h.IsCell c2 w→h'.IsCell c2 w:=fun ⟨o,e,d⟩=>(Iea o ((hs'.2 c2 hcc).trans e) d)
    refine (Ieaaaa c2 q1 ⟨u2,hc q2⟩ (fun w e1=>?_) q4 q5)
    rw [List.lookup_cons,show (y == x)=false by simpa using hyx] at e1
    refine Zea (q3 w e1) fun u3 h6 h7=>?_
    exact (Iea u3 (hc h6) (VS h7))
theorem store_ok {A2:Around} {x:Str} {u:Value} (I:Inv C G σ) (K:EnvOk C A G env sc m) (O:OwnOk C G env sc) (V:VR C G u v) (hk:sc.names.lookup x=some .local∨sc.names.lookup x=some .cell) {Q:Unit→Shared→Prop} {E}
  (hQ:∀ G',Step C (Xs G env sc) G G'→Inv C G' σ→EnvOk C A G' env sc ((x,v)::m)→Q () G'.s):W C A2 (storeName env x u) Q E G.s:=
 store_core I K (fun h c hc=>O.own x c h hc) V hk fun G' s1=>hQ G' (s1.weaken fun _ h=>.inl h.xs)
theorem Ex1.assign {x:Str} {xp pos} {val:Expr} (h:EvE C D sc m σ val v σ') (hk:sc.names.lookup x=some .local∨sc.names.lookup x=some .cell) (hs:∀ env,swapsWith val (some (.Name x xp)) pos.line env=pure false) :
  Ex1 C D sc m σ (.Assign [.Name x xp] val pos) (.next ((x,v)::m) σ'):=fun A G env hA I K O TT Q E hQ=>
 wpAny_Assign_Name (h A G env hA I K _ _ fun u G' st I' V=>store_ok I' (K.step I st) (O.step K st) V hk fun G2 s2 I2 K2=>hQ G2 (st.toX.trs s2) I2 K2) (hs env)
theorem Ex1.expr {x:Expr} {pos} (h:EvE C D sc m σ x v σ') (hs:∀ env,swapsWith x none pos.line env=pure false):Ex1 C D sc m σ (.Expr x pos) (.next m σ'):=fun A G env hA I K O TT Q E hQ=>
 wpAny_Expr_any (h A G env hA I K _ _ fun u G' st I' V=>hQ G' st.toX I' (K.step I st)) (by unfold interactive;rw [K.scE];first | (simp [K.kind];done) | (have:=K.kind;simp_all)) (hs env)
end
section
variable {C:Cx} {D n:Nat} {sc sc0 scope:Scope} {m m' mB mC:Mp} {σ σ' σ'' σ1 σ2 σ3:Sto} {v:AV} {o:Out} {A A2:Around} {G G' G'' R:St} {env:Env} {c e T:Addr} {X Y Z:Addr→Prop}
noncomputable def BindsAre (C:Cx) (G:St):List (Str × Value)→Mp→Prop
 | [],[]=>True
 | (x,u)::r,(y,v)::l=>x=y∧VR C G u v∧BindsAre C G r l
 | _,_=>False
structure CloOk (C:Cx) (G:St) (sc:Scope) (cl:List (Str × Addr)) (mC:Mp):Prop where
 cell:∀ x,sc.names.lookup x=some .free→∃ c,cl.lookup x=some c∧(∃ u,G.h.IsCell c u)∧(∀ v,mC.lookup x=some v→∃ u,G.h.IsCell c (some u)∧VR C G u v)∧c ∉ G.r∧¬ C.tabP c∧c ∉ G.fs
 live:∀ x c,cl.lookup x=some c→∃ o,G.h.get? c=some o
section
variable {e:Expr}
theorem BindsAre.step:∀ {b:List (Str × Value)} {l:Mp},BindsAre C G b l→Inv C G σ→(X:Addr→Prop)→Step C X G G'→(∀ x,X x→¬ G.F x)→BindsAre C G' b l:=by
 intro b
 induction b with
 | nil=>intro l h _ _ _ _;cases l with
  | nil=>trivial
  | cons=>exact h.elim
 | cons p r ih=>intro l h I X s hX;cases l with
  | nil=>exact h.elim
  | cons q l=>exact (Iaa h.1 (h.2.1.step I s hX) (ih h.2.2 I X s hX))
theorem cellsFrom_append:∀ (names:List (Str × NameKind)) (n:Nat) (acc:List (Str × Addr)),cellsFrom n names acc=cellsFrom n names []++acc
 | [],_,_=>rfl
 | (x,k)::r,n,acc=>by
  unfold cellsFrom
  split
  ·rw [cellsFrom_append r (n+1) ((x,n)::acc),cellsFrom_append r (n+1) [(x,n)],List.append_assoc];rfl
  ·exact cellsFrom_append r n acc
theorem cellsFrom_mem:∀ (names:List (Str × NameKind)) (n:Nat) {x:Str} {c:Addr},(x,c)∈cellsFrom n names []→(x,NameKind.cell)∈names
 | [],_,_,_,h=>nomatch h
 | (y,k)::r,n,x,c,h=>by
  unfold cellsFrom at h
  split at h
  ·rename_i hk
   rw [cellsFrom_append] at h
   rcases List.mem_append.mp h with h | h
   ·exact List.mem_cons_of_mem _ (cellsFrom_mem r _ h)
   ·cases List.mem_singleton.mp h
    cases (by simpa using hk:k=.cell)
    exact List.mem_cons_self ..
  ·exact List.mem_cons_of_mem _ (cellsFrom_mem r _ h)
theorem cellsFrom_has:∀ (names:List (Str × NameKind)) (n:Nat) {x:Str},(x,NameKind.cell)∈names→∃ c,(x,c)∈cellsFrom n names []
 | (y,k)::r,n,x,h=>by
  unfold cellsFrom
  rcases List.mem_cons.mp h with h | h
  ·cases h
   rw [if_pos (by rfl),cellsFrom_append]
   exact ⟨n,List.mem_append_right _ (List.mem_singleton.mpr rfl)⟩
  ·split
   ·refine Ze (cellsFrom_has r (n+1) h) fun c hc=>?_
    exact ⟨c,by rw [cellsFrom_append];exact List.mem_append_left _ hc⟩
   ·exact cellsFrom_has r n h
theorem lookup_of_mem {α:Type}:∀ {l:List (Str × α)} {x:Str} {c:α},(x,c)∈l→∃ c',l.lookup x=some c'
 | (y,d)::r,x,c,h=>by
  rw [List.lookup_cons]
  cases hb:x == y with
  | true=>exact ⟨d,rfl⟩
  | false=>
   rcases List.mem_cons.mp h with h | h
   ·cases h;simp at hb
   ·exact lookup_of_mem h
theorem lookup_append_left {α:Type} {l l':List (Str × α)} {x:Str} {c:α} (h:l.lookup x=some c):(l++l').lookup x=some c:=by
 rw [List.lookup_append,h];rfl
theorem lookup_append_right {α:Type} {l l':List (Str × α)} {x:Str} (h:l.lookup x=none):(l++l').lookup x=l'.lookup x:=by
 rw [List.lookup_append,h];rfl
theorem lookup_nodup {α:Type}:∀ {l:List (Str × α)} {x:Str} {c:α},(l.map (·.1)).Nodup→(x,c)∈l→l.lookup x=some c
 | (y,d)::r,x,c,hn,h=>by
  rw [List.lookup_cons]
  simp only [List.map_cons,List.nodup_cons] at hn
  rcases List.mem_cons.mp h with h | h'
  ·cases h;simp
  ·have:(x == y)=false:=by
    simp only [beq_eq_false_iff_ne]
    intro exy
    exact hn.1 (List.mem_map.mpr (Iea (x,c) h' exy))
   rw [this];exact lookup_nodup hn.2 h'
theorem Xs.nF (I:Inv C G σ) (K:EnvOk C A G env sc m) (O:OwnOk C G env sc):∀ x,Xs G env sc x→¬ G.F x:=fun x h=>by
 rcases h with h | rfl | ⟨y,h1,h2⟩
 ·exact I.trkF h
 ·exact K.off.2.2
 ·exact (O.own y x h1 h2).1
noncomputable def frameHeap (h:Heap) (cls:String) (sc:Scope):Heap:=pushCells (h.push { cls:=.type cls,data:=.dict #[] }) sc.names
theorem binds_ok {A2:Around} (f:Str × Value→PUnit→Sem (ForInStep PUnit)) (hf:∀ n u w,f (n,u) w=(do storeName env n u;pure (.yield ⟨⟩))) {E} :
  ∀ {b:List (Str × Value)} {l m:Mp} {G:St},BindsAre C G b l→(∀ p∈l,sc.names.lookup p.1=some .local∨sc.names.lookup p.1=some .cell)→Inv C G σ→EnvOk C A G env sc m→OwnOk C G env sc→{Q:PUnit→Shared→Prop} →
   (∀ G',Step C (Xs G env sc) G G'→Inv C G' σ→EnvOk C A G' env sc (l.reverse++m)→OwnOk C G' env sc→Q ⟨⟩ G'.s)→W C A2 (forIn b ⟨⟩ f) Q E G.s:=by
 intro b
 induction b with
 | nil=>intro l m G hb _ I K O Q h;cases l with
  | nil=>rw [List.forIn_nil];exact wpAny_pure (h G .refl I K O)
  | cons=>exact hb.elim
 | cons p r ih=>intro l m G hb hk I K O Q h;cases l with
  | nil=>exact hb.elim
  | cons q l=>
  cases p with | mk n u=>
  cases q with | mk y v=>
  cases hb.1
  rw [List.forIn_cons,hf]
  refine wpAny_bind (wpAny_bind (store_ok I K O hb.2.1 (hk _ (List.mem_cons_self ..)) fun G1 s1 I1 K1=>wpAny_pure ?_))
  refine ih (hb.2.2.step I _ s1 (Xs.nF I K O)) (fun p hp=>hk p (List.mem_cons_of_mem _ hp)) I1 K1 (O.step K s1) fun G2 s2 I2 K2 O2=>h G2 (s1.trs s2) I2 ?_ O2
  rw [List.reverse_cons,List.append_assoc];exact K2
theorem frame_keeps {h:Heap} {cls:String} {b:Addr} {o:Obj} (e:h.get? b=some o):(frameHeap h cls sc).get? b=some o:=pushCells_keeps _ _ b o (Heap.get?_push_of_some _ e)
theorem dead_ge {h:Heap} {a:Addr} (ha:h.objs.size≤a):h.get? a=none:=by
 cases q:h.get? a with
 | none=>rfl
 | some o=>exact absurd (Heap.lt_size q) (Nat.not_lt.mpr ha)
theorem no_lt {a b:Nat} (h:a < b) (h':b+1≤a):False:=by walk_at "o"
theorem frame_ok (I:Inv C G σ) {cls:String} {cl:List (Str × Addr)} {mC:Mp} (hk:sc.kind=.function) (hnd:(sc.names.map (·.1)).Nodup) (hcl:CloOk C G sc cl mC) (hmC:∀ x v,mC.lookup x=some v→sc.names.lookup x=some .free∨sc.names.lookup x=none)
  {isF:Bool} {fs':List Addr} (hfs:fs'=if isF then G.sz::G.fs else G.fs) {env:Env} (e1:env.scope=sc) (e2:env.globals=mainGlobals) (e3:env.builtins=builtinsNs) (e4:env.locals=G.sz) (e5:env.cells=cellsFrom (G.sz+1) sc.names cl) (hinf:InfOk env sc mC)
  (hA:StackOk A ⟨{ G.s with heap:=frameHeap G.h cls sc },G.F,G.r,fs'⟩) :
  Inv C ⟨{ G.s with heap:=frameHeap G.h cls sc },G.F,G.r,fs'⟩ σ∧EnvOk C A ⟨{ G.s with heap:=frameHeap G.h cls sc },G.F,G.r,fs'⟩ env sc mC∧OwnOk C ⟨{ G.s with heap:=frameHeap G.h cls sc },G.F,G.r,fs'⟩ env sc:=by
 have keep:∀ b o,G.h.get? b=some o→(frameHeap G.h cls sc).get? b=some o:=fun b o e=>frame_keeps e
 have ok:=cellsFrom_ok sc.names (G.h.push { cls:=.type cls,data:=.dict #[] }) (G.sz+1) [] ⟨fun _ _ hm=>(nomatch hm),List.Pairwise.nil⟩ (by rw [Heap.size_push];exact Nat.le_refl _)
 rw [Heap.size_push] at ok
 have hnsL:(frameHeap G.h cls sc).Ns G.sz (fun _=>none):=(Heap.Ns.new G.h (.type cls)).keeps (pushCells_keeps _ _)
 have deadT:∀ a,C.tabP a→a < G.sz:=fun a ha=>by
  apply RMea2 (List.mem_map.mp ha)
  intro t ht
  refine Zea (I.tab t ht) fun ps e _=>?_
  exact Heap.lt_size e
 have deadF:∀ a,G.F a→a < G.sz:=fun a ha=>let ⟨⟨o,e⟩,_⟩:=I.fz a ha;Heap.lt_size e
 have deadR:∀ a,a∈G.r→a < G.sz:=fun a ha=>let ⟨o,e⟩:=I.thereT ha;Heap.lt_size e
 have deadS:∀ a,a∈G.fs→a < G.sz:=fun a ha=>let ⟨_,o,e⟩:=I.ftab a ha;Heap.lt_size e
 have mono:∀ {u v},VR C G u v→VR C ⟨{ G.s with heap:=frameHeap G.h cls sc },G.F,G.r,fs'⟩ u v:=fun V=>VR.mono (G:=G) (G':=⟨{ G.s with heap:=frameHeap G.h cls sc },G.F,G.r,fs'⟩) (fun _ h=>h) (fun b o _ e=>keep b o e) (fun _ _ h=>h) V
 have Ig:=grow_inv (P:=fun _=>False) (h':=frameHeap G.h cls sc) (tk:=G.s.toks) I keep fun _ h=>h.elim
 have hmem:∀ a,a∈fs'→a=G.sz∨a∈G.fs:=fun a ha=>by
  rw [hfs] at ha
  cases isF with
  | true=>exact List.mem_cons.mp ha
  | false=>exact .inr ha
 have I1:Inv C ⟨{ G.s with heap:=frameHeap G.h cls sc },G.F,G.r,fs'⟩ σ:=by
  refine ⟨fun a o e=>⟨(I.base a o e).1,keep _ _ (I.base a o e).2⟩,fun a ha=>?_,I.len,fun i a o h1 h2=>?_,I.nd,fun a ha=>⟨(I.rtab a ha).1,fun q=>?_⟩,fun a ha=>?_,fun q hq=>?_⟩
  ·refine Zaaa (I.fz a ha) fun z4 h2 h3 h4=>?_
   refine Ze z4 fun o e=>?_
   refine (Iaaa ⟨o,keep _ _ e⟩ h2 h3 (fun q=>?_))
   rcases hmem a q with rfl | q
   ·exact Nat.lt_irrefl _ (deadF _ ha)
   ·exact h4 q
  ·have:=I.trk i a o h1 h2
   cases o with
   | lst l=>refine Zeeeaaa this fun o vs n p1 p2 p3 p4=>?_;exact (Ieeeaaa o vs n (keep _ _ p1) p2 p3 (VRs.mono (G:=G) (G':=⟨{ G.s with heap:=frameHeap G.h cls sc },G.F,G.r,fs'⟩) (fun _ h=>h) (fun b o _ e=>keep b o e) (fun _ _ h=>h) p4))
   | dct l=>refine Zeeeaaaeaaa this fun o es n p1 p2 p3 kvs p4 pz p5 p6=>?_;exact (Ieeeaaaeaaa o es n (keep _ _ p1) p2 p3 kvs p4 pz ⟨fun k x h=>let ⟨u,p,q⟩:=p5.1 k x h;(Iea u p (mono q)),p5.2⟩ p6)
   | att l=>refine Zeeaa this fun es n p1 p2 p3=>?_;exact (Ieeaa es n (keep _ _ p1) (VRd.mono (G:=G) (G':=⟨{ G.s with heap:=frameHeap G.h cls sc },G.F,G.r,fs'⟩) (fun _ h=>h) (fun b o _ e=>keep b o e) (fun _ _ h=>h) p2) p3)
   | ins c d=>refine Zeea this fun da sl p1 p2=>?_;exact (Ieea da sl p1 (keep _ _ p2))
   | exc c d=>refine Zeeea this fun o vs a0 p1 p2=>?_;exact (Ieeea o vs a0 (keep _ _ p1) p2)
  ·rcases hmem a q with rfl | q
   ·exact Nat.lt_irrefl _ (deadR _ ha)
   ·exact (I.rtab a ha).2 q
  ·rcases hmem a ha with rfl | q
   ·refine ⟨fun q=>Nat.lt_irrefl _ (deadT _ q),?_⟩
    refine Zeeea hnsL fun o es ep e _=>?_
    exact ⟨o,e⟩
   ·exact ⟨(I.ftab a q).1,let ⟨o,e⟩:=(I.ftab a q).2;⟨o,keep _ _ e⟩⟩
  ·refine Zeaa (I.tab q hq) fun ps e t k=>?_
   exact (Ieaa ps (keep _ _ e) t (fun pos w hw=>(k pos w hw).mono (fun _ h=>h) fun b o _ e=>keep b o e))
 have cellOwn:∀ x,sc.names.lookup x=some .cell→∃ c,(cellsFrom (G.sz+1) sc.names cl).lookup x=some c∧(x,c)∈cellsFrom (G.sz+1) sc.names []:=fun x hx=>by
  refine Ze (cellsFrom_has sc.names (G.sz+1) (mem_of_lookup hx)) fun c hc=>?_
  refine Ze (lookup_of_mem hc) fun c' hc'=>?_
  exact (Iea c' (by rw [cellsFrom_append];exact lookup_append_left hc') (mem_of_lookup hc'))
 have notOwn:∀ x,sc.names.lookup x≠some .cell→(cellsFrom (G.sz+1) sc.names []).lookup x=none:=fun x hx=>by
  cases q:(cellsFrom (G.sz+1) sc.names []).lookup x with
  | none=>rfl
  | some c=>exact absurd (lookup_nodup hnd (cellsFrom_mem _ _ (mem_of_lookup q))) hx
 refine (Iaa I1 ⟨e1,hk,e2,e3,(Iea (fun _=>none) (by rw [e4];exact hnsL) (fun x v h1 h2=>?_)),fun x hx=>?_,?_,hA,fun x c hc=>?_,hinf⟩ ⟨fun x c hx hc=>?_⟩)
 ·rcases hmC x v h1 with q | q<;>(rw [q] at h2;cases h2)
 ·rcases hx with hx | hx
  ·refine Zea (cellOwn x hx) fun c h1 h2=>?_
   refine Za (ok.empty x c h2) fun h3 h4=>?_
   refine (Ieaaaaa c (by rw [e5];exact h1) ⟨none,h3⟩ (fun v hv=>?_) (fun q=>?_) (fun q=>?_) (fun q=>?_))
   ·rcases hmC x v hv with q | q<;>(rw [q] at hx;cases hx)
   ·exact no_lt (deadR _ q) h4
   ·exact no_lt (deadT _ q) h4
   ·rcases hmem c q with rfl | q
    ·exact absurd h4 (Nat.not_succ_le_self _)
    ·exact no_lt (deadS _ q) h4
  ·refine Zeaaaa (hcl.cell x hx) fun c h1 z3 h3 h4 h5=>?_
   refine Ze z3 fun u h2=>?_
   refine (Ieaaaaa c ?_ ⟨u,h2.keeps keep⟩ (fun v hv=>?_) h4 h5.1 (fun q=>?_))
   ·rw [e5,cellsFrom_append,lookup_append_right (notOwn x (by rw [hx];intro q;cases q))];exact h1
   ·refine Zea (h3 v hv) fun u2 q1 q2=>?_
    exact (Iea u2 (q1.keeps keep) (mono q2))
   ·rcases hmem c q with rfl | q
    ·refine Zea h2 fun o e _=>?_;exact absurd (Heap.lt_size e) (Nat.lt_irrefl _)
    ·exact h5.2 q
 ·rw [e4]
  exact (Iaa (fun q=>Nat.lt_irrefl _ (deadR _ q)) (fun q=>Nat.lt_irrefl _ (deadT _ q)) (fun q=>Nat.lt_irrefl _ (deadF _ q)))
 ·rw [e5,cellsFrom_append] at hc
  cases q:(cellsFrom (G.sz+1) sc.names []).lookup x with
  | none=>
   rw [lookup_append_right q] at hc
   refine Ze (hcl.live x c hc) fun o e=>?_
   exact ⟨o,keep _ _ e⟩
  | some c'=>
   rw [lookup_append_left q] at hc
   cases hc
   refine Za (ok.empty x c (mem_of_lookup q)) fun z2 _=>?_
   refine Zea z2 fun o e _=>?_
   exact ⟨o,e⟩
 ·refine Zea (cellOwn x hx) fun c' h1 h2=>?_
  rw [e5,h1] at hc
  cases hc
  refine Za (ok.empty x c h2) fun h3 h4=>?_
  refine (Iaaa (fun q=>?_) (fun q=>?_) (fun q=>?_) (fun y hy hyc=>?_))
  ·exact no_lt (deadF _ q) h4
  ·rcases hmem c q with rfl | q
   ·exact absurd h4 (Nat.not_succ_le_self _)
   ·exact no_lt (deadS _ q) h4
  ·rw [e4] at q;rw [q] at h4;exact absurd h4 (Nat.not_succ_le_self _)
  ·rw [e5] at hyc
   by_cases hyo:sc.names.lookup y=some .cell
   ·refine Zea (cellOwn y hyo) fun c2 g1 g2=>?_
    rw [g1] at hyc;cases hyc
    exact name_of_addr ok.apart g2 h2
   ·rcases hy with hy | hy
    ·exact absurd hy hyo
    ·rw [cellsFrom_append,lookup_append_right (notOwn y hyo)] at hyc
     refine Zeaa (hcl.cell y hy) fun c2 g1 z1 _=>?_
     refine Zeea z1 fun u oo g2 _=>?_
     rw [g1] at hyc;cases hyc
     exact (no_lt (Heap.lt_size g2) h4).elim
end

section
variable {st:ExcSt}
theorem TrO.mono {a:Addr} {o:AO} (hF:∀ a,G.F a→G'.F a) (hk:∀ a o,G.F a→G.h.get? a=some o→G'.h.get? a=some o) (hr:∀ (i:Nat) (a:Addr),G.r[i]?=some a→G'.r[i]?=some a) (e:∀ oo,G.h.get? a=some oo→G'.h.get? a=some oo) (k:TrO C G a o):TrO C G' a o:=by
 cases o with
 | lst l=>refine Zeeeaaa k fun o vs n h1 h2 h3 h4=>?_;exact (Ieeeaaa o vs n (e _ h1) h2 h3 (VRs.mono hF hk hr h4))
 | dct l=>refine Zeeeaaaeaaa k fun o es n h1 h2 h3 kvs h4 hz h5 h6=>?_;exact (Ieeeaaaeaaa o es n (e _ h1) h2 h3 kvs h4 hz ⟨fun k x h=>let ⟨u,p,q⟩:=h5.1 k x h;(Iea u p (VR.mono hF hk hr q)),h5.2⟩ h6)
 | att l=>refine Zeeaa k fun es n h1 h2 h3=>?_;exact (Ieeaa es n (e _ h1) (VRd.mono hF hk hr h2) h3)
 | ins c d=>refine Zeea k fun da sl h1 h2=>?_;exact (Ieea da sl (hr _ _ h1) (e _ h2))
 | exc c d=>
  refine Zeeeaa k fun o vs a0 h1 h2 h3=>?_
  refine (Ieeeaa o vs a0 (e _ h1) h2 ?_)
  cases d with
  | none=>exact h3
  | some k=>refine Zea h3 fun da h4 h5=>?_;exact (Iea da (hr _ _ h4) h5)
theorem moved_ok {R:St} {X:Addr→Prop} {l:List Env} {e T:Addr} (S0:Step C X R G) (de:R.h.get? e=none) (dT:R.h.get? T=none) (I:Inv C G σ) (SK:∀ en∈l,en.scope.kind=.function∧∃ L o,en.frame=some L∧L∈G.fs∧G.h.get? L=some o∧∀ vs,o.data≠.fields vs)
  (he:Off C G e) (hT:Off C G T) (h':Heap) (hs:(hideAll G.h (l.filterMap (·.frame)++[e,T])).StaysIn h')
  (hu:∀ b o,G.h.get? b=some o→(∀ vs,o.data≠.fields vs)→∃ sl,h'.get? b=some { o with slots:=sl }) :
  Step C X R ⟨{ G.s with heap:=h' },G.F,G.r,G.fs⟩∧Inv C ⟨{ G.s with heap:=h' },G.F,G.r,G.fs⟩ σ:=by
 have fr:∀ a,a∈l.filterMap (·.frame)→a∈G.fs∧∃ o,G.h.get? a=some o∧∀ vs,o.data≠.fields vs:=fun a ha=>by
  refine Zea (List.mem_filterMap.mp ha) fun en h1 h2=>?_
  refine Zaeeaaa (SK en h1) fun _ L o h3 h4 h5 h6=>?_
  rw [h3] at h2;cases h2
  exact ⟨h4,o,h5,h6⟩
 have get:∀ a o,G.h.get? a=some o→a≠e→a≠T→a ∉ l.filterMap (·.frame)→h'.get? a=some o:=fun a o ea n1 n2 n3=>
  hs a o (hideAll_get _ ea fun q=>(List.mem_append.mp q).elim n3 fun q=>(List.mem_cons.mp q).elim n1 fun q=>n2 (List.mem_singleton.mp q))
 have getS:∀ a o,G.h.get? a=some o→a ∉ G.fs→a≠e→a≠T→h'.get? a=some o:=fun a o ea h1 n1 n2=>get a o ea n1 n2 fun q=>h1 (fr a q).1
 have getF:∀ a o,G.h.get? a=some o→a≠e→a≠T→∃ sl,h'.get? a=some { o with slots:=sl }:=fun a o ea n1 n2=>by
  by_cases q:a∈l.filterMap (·.frame)
  ·refine Zaea (fr a q) fun _ o' h1 h2=>?_
   rw [ea] at h1;cases h1
   exact hu a o ea h2
  ·exact ⟨o.slots,get a o ea n1 n2 q⟩
 have old:∀ a o,R.h.get? a=some o→a≠e∧a≠T:=fun a o ea=>⟨fun q=>(by rw [q,de] at ea;cases ea),fun q=>(by rw [q,dT] at ea;cases ea)⟩
 refine ⟨⟨fun a o ea hx ht hf=>getS a o (S0.keep a o ea hx ht hf) (S0.fs▸hf) (old a o ea).1 (old a o ea).2,fun a o ea hx hf=>?_,fun a o ea=>?_,S0.fz,S0.new,S0.rr,S0.fs,S0.gens,S0.drawn,S0.os⟩,⟨fun a o ea=>?_,fun a ha=>?_,I.len,fun i a o h1 h2=>?_,I.nd,I.rtab,fun a ha=>⟨(I.ftab a ha).1,?_⟩,fun q hq=>?_⟩⟩
 ·refine Ze (S0.keepF a o ea hx hf) fun sl e1=>?_
  refine Ze (getF a _ e1 (old a o ea).1 (old a o ea).2) fun sl2 e2=>?_
  exact ⟨sl2,e2⟩
 ·refine Ze (S0.alive a o ea) fun o1 e1=>?_
  refine Ze (getF a _ e1 (old a o ea).1 (old a o ea).2) fun sl2 e2=>?_
  exact ⟨_,e2⟩
 ·refine Za (I.base a o ea) fun h1 h2=>?_
  exact ⟨h1,getS a o h2 (I.fz a h1).2.2.2 (fun q=>he.f (q▸h1)) fun q=>hT.f (q▸h1)⟩
 ·refine Za (I.fz a ha) fun z3 r=>?_
  refine Ze z3 fun o h1=>?_
  exact ⟨⟨o,getS a o h1 r.2.2 (fun q=>he.f (q▸ha)) fun q=>hT.f (q▸ha)⟩,r⟩
 ·have ha:=List.mem_of_getElem? h1
  exact TrO.mono (G:=G) (G':=⟨{ G.s with heap:=h' },G.F,G.r,G.fs⟩) (fun _ h=>h) (fun a o hf ea=>getS a o ea (I.fz a hf).2.2.2 (fun z=>he.f (z▸hf)) fun z=>hT.f (z▸hf)) (fun _ _ h=>h) (fun oo eo=>getS a oo eo (I.rtab a ha).2 (fun q=>he.r (q▸ha)) fun q=>hT.r (q▸ha)) (I.trk i a o h1 h2)
 ·refine Ze ((I.ftab a ha).2) fun o eo=>?_
  refine Ze (getF a o eo (fun q=>he.s (q▸ha)) fun q=>hT.s (q▸ha)) fun sl e2=>?_
  exact ⟨_,e2⟩
 ·refine Zeaa (I.tab q hq) fun ps ep t k=>?_
  have hq':C.tabP q.2:=List.mem_map.mpr (Iea q hq rfl)
  refine (Ieaa ps (getS _ _ ep (fun z=>(I.ftab _ z).1 hq') (fun z=>he.t (z▸hq')) fun z=>hT.t (z▸hq')) t (fun pos w hw=>(k pos w hw).mono (fun _ h=>h) fun a o hf ea=>?_))
  exact getS a o ea (I.fz a hf).2.2.2 (fun z=>he.f (z▸hf)) fun z=>hT.f (z▸hf)
theorem sk_funFrames {l:List Env} {h:Heap} {as:List Addr}:∀ {l:List Env},(∀ en∈l,en.scope.kind=.function∧∃ L o,en.frame=some L∧L∈G.fs∧h.get? L=some o∧∀ vs,o.data≠.fields vs)→(∀ a∈l.filterMap (·.frame),a∈as)→h.FunFrames (hideAll h as) l
 | [],_,_=>trivial
 | en::l,k,ha=>by
  refine Zaeeaaa (k en (List.mem_cons_self ..)) fun k1 L o h1 h2 h3 h4=>?_
  refine (Iaa (by rw [k1];decide) (Ieeaaa L o h1 (hideAll_none _ (ha L (List.mem_filterMap.mpr (Iea en (List.mem_cons_self ..) h1)))) h3 h4) (sk_funFrames (l:=[]) (fun q hq=>k q (List.mem_cons_of_mem _ hq)) fun a h=>ha a ?_))
  refine Zea (List.mem_filterMap.mp h) fun x h5 h6=>?_
  exact List.mem_filterMap.mpr (Iea x (List.mem_cons_of_mem _ h5) h6)
theorem exc_new (I:Inv C G σ) (X:Exc C G c st e T) {T':Addr} {h':Heap} {as:List Addr} (hd:(hideAll G.h (as++[e,T])).get? T'=none) (hfr:∀ a∈as,∃ o,h'.get? a=some o∧∀ vs,o.data≠.fields vs) {oT:Obj} {ts:Array Value} (h1:h'.get? T'=some oT) (h2:oT.data=.fields ts) (hne:T'≠e) :
  T'=T∨G.h.get? T'=none:=by
 by_cases q:T'=T
 ·exact .inl q
 ·right
  cases z:G.h.get? T' with
  | none=>rfl
  | some o=>
   have:=hideAll_get (as++[e,T]) z fun hm=>by
    rcases List.mem_append.mp hm with hm | hm
    ·refine Zea (hfr _ hm) fun o' h3 h4=>?_
     rw [h1] at h3;cases h3;exact h4 _ h2
    ·rcases List.mem_cons.mp hm with hm | hm
     ·exact hne hm
     ·exact q (List.mem_singleton.mp hm)
   rw [hd] at this;cases this
theorem Off.of_dead (I:Inv C G σ) {a:Addr} (h:G.h.get? a=none):Off C G a where
 f q:=by refine Za (I.fz a q) fun z2 _=>?_;refine Ze z2 fun o e=>?_;rw [h] at e;cases e
 r q:=by refine Ze (I.thereT q) fun o e=>?_;rw [h] at e;cases e
 t q:=by
  refine Zea (List.mem_map.mp q) fun t ht z1=>?_
  obtain rfl:=z1
  refine Zea (I.tab t ht) fun ps e _=>?_;rw [h] at e;cases e
 s q:=by refine Zae (I.ftab a q) fun _ o e=>?_;rw [h] at e;cases e
theorem move_ok {R:St} {Y:Addr→Prop} {L:Addr} {l:List Env} (S0:Step C Y R G) (de:R.h.get? e=none) (dT:R.h.get? T=none) (I:Inv C G σ) (hfr:A.frames=some (env::l)) (hf:env.frame=some L)
  (SK:∀ en∈env::l,en.scope.kind=.function∧∃ L o,en.frame=some L∧L∈G.fs∧G.h.get? L=some o∧∀ vs,o.data≠.fields vs)
  (X:Exc C G c st e T) (hL:∀ L',st=.held L'→env.frame=some L') {Q:Unit→Shared→Prop} {E} :
  ((∀ T' G',Step C Y R G'→Inv C G' σ→G'.fs=G.fs→StackOk A G'→R.h.get? T'=none→Exc C G' c .flying e T'→Q () G'.s)→W C A (leaving env (.ref e)) Q E G.s) ∧
  ((∀ T' G',Step C Y R G'→Inv C G' σ→G'.fs=G.fs→StackOk A G'→R.h.get? T'=none→Exc C G' c (.held L) e T'→Q () G'.s)→W C A (noteFrame (.ref e) env) Q E G.s):=by
 obtain ⟨oe,ot,hne,ob,vs,a0,h1,h2,h3,h4,h5⟩:=X
 have X':Exc C G c st e T:=⟨oe,ot,hne,ob,vs,a0,h1,h2,h3,h4,h5⟩
 have hFF:G.h.FunFrames (hideAll G.h ((env::l).filterMap (·.frame)++[e,T])) (env::l):=sk_funFrames (G:=G) (l:=[]) SK fun a ha=>List.mem_append_left _ ha
 have hst:(hideAll G.h ((env::l).filterMap (·.frame)++[e,T])).StaysIn G.h:=fun b o q=>of_hideAll _ q
 have hne':(hideAll G.h ((env::l).filterMap (·.frame)++[e,T])).get? e=none:=hideAll_none _ (List.mem_append_right _ (List.mem_cons_self ..))
 have hnT:(hideAll G.h ((env::l).filterMap (·.frame)++[e,T])).get? T=none:=hideAll_none _ (List.mem_append_right _ (List.mem_cons_of_mem _ (List.mem_singleton.mpr rfl)))
 have fin:∀ (fl:Value) (st':ExcSt) (h':Heap),(hideAll G.h ((env::l).filterMap (·.frame)++[e,T])).StaysIn h'→h'.FunFrames (hideAll G.h ((env::l).filterMap (·.frame)++[e,T])) (env::l) →
   h'.TracedAtW (hideAll G.h ((env::l).filterMap (·.frame)++[e,T])) e ob.cls a0 fl→(∀ b o,G.h.get? b=some o→(∀ vs,o.data≠.fields vs)→∃ sl,h'.get? b=some { o with slots:=sl }) →
   ((st'=.flying∧fl=.none)∨(st'=.held L∧fl=rawInt L))→∃ T' G',{ G.s with heap:=h' }=G'.s∧Step C Y R G'∧Inv C G' σ∧G'.fs=G.fs∧StackOk A G'∧R.h.get? T'=none∧Exc C G' c st' e T':=by
  rintro fl st' h' k1 k2 ⟨oe',vs',T',oT,ts,g1,⟨g2,g3⟩,g4,g5,g6,g7,g8,g9,g10⟩ k4 hcase
  refine Za (moved_ok S0 de dT I SK oe ot h' k1 k4) fun stp I'=>?_
  have hT':=exc_new I X' g6 (fun a ha=>(k2.mem ha).2) g8 g9 g7
  have fields:∀ {a:Addr},Off C G a→Off C ⟨{ G.s with heap:=h' },G.F,G.r,G.fs⟩ a:=fun x=>⟨x.f,x.r,x.t,x.s⟩
  refine (Ieeaaaaaa T' _ rfl stp I' rfl (Iea (env::l) hfr (fun en hen=>?_)) ?_ ⟨fields oe,?_,g7,oe',vs',a0,g1,g2.trans h2,g4,g3,?_⟩)
  ·refine Zaeeaaa (SK en hen) fun q1 L0 o0 q2 q3 q4 q5=>?_
   refine Zaea (k2.mem (b:=L0) (List.mem_filterMap.mpr (Iea en hen q2))) fun _ o1 q6 q7=>?_
   exact (Iaeeaaa q1 L0 o1 q2 q3 q6 q7)
  ·rcases hT' with rfl | hd
   ·exact dT
   ·exact S0.dead hd
  ·rcases hT' with rfl | hd
   ·exact fields ot
   ·exact fields (Off.of_dead I hd)
  ·rcases hcase with ⟨rfl,rfl⟩ | ⟨rfl,rfl⟩
   ·exact (Iaeeaa g5 oT ts g8 g9 g10)
   ·exact (Iaeeaa g5 oT ts g8 g9 g10)
 have finL:∀ {Q:Unit→Shared→Prop},(∀ T' G',Step C Y R G'→Inv C G' σ→G'.fs=G.fs→StackOk A G'→R.h.get? T'=none→Exc C G' c .flying e T'→Q () G'.s)→∀ h',Heap.LeftW (hideAll G.h ((env::l).filterMap (·.frame)++[e,T])) (env::l) e ob.cls a0 G.h h'→Q () { G.s with heap:=h' }:=by
  rintro Q hQ h' ⟨k1,k2,k3,k4⟩
  refine Zeeaaaaaa (fin .none .flying h' k1 k2 k3 k4 (.inl ⟨rfl,rfl⟩)) fun T' G' es x1 x2 x3 x6 x4 x5=>?_
  rw [es];exact hQ T' G' x1 x2 x3 x6 x4 x5
 have finN:∀ {Q:Unit→Shared→Prop},(∀ T' G',Step C Y R G'→Inv C G' σ→G'.fs=G.fs→StackOk A G'→R.h.get? T'=none→Exc C G' c (.held L) e T'→Q () G'.s)→∀ h',Heap.NotedW (hideAll G.h ((env::l).filterMap (·.frame)++[e,T])) (env::l) e ob.cls a0 (rawInt L) G.h h'→Q () { G.s with heap:=h' }:=by
  rintro Q hQ h' ⟨k1,k2,k3,k4⟩
  refine Zeeaaaaaa (fin (rawInt L) (.held L) h' k1 k2 k3 k4 (.inr ⟨rfl,rfl⟩)) fun T' G' es x1 x2 x3 x6 x4 x5=>?_
  rw [es];exact hQ T' G' x1 x2 x3 x6 x4 x5
 cases st with
 | fresh=>
  refine ⟨fun hQ=>wpAny_leaving_firstW hfr hFF hf h1 hst hne' h3 h5.1 h4 fun h' hL=>finL hQ h' hL,fun hQ=>?_⟩
  unfold noteFrame
  simp only [hf]
  refine wpAny_bind (wpAny_field h1 h3 h5.1 ?_)
  rw [if_neg (by decide)]
  exact wpAny_entryW hfr hFF hf h1 hst hne' h3 (Array.getElem?_eq_some_iff.mp h5.1).1 h4 fun h' hL=>finN hQ h' hL
 | flying=>
  refine Zaeeaa h5 fun h5 oT ts h6 h7 h8=>?_
  refine ⟨fun hQ=>wpAny_leaving_nextW hfr hFF hf (Ieeeeeaaaaaaaa ob vs T oT ts h1 ⟨rfl,h4⟩ h3 h5 hnT hne h6 h7 h8) hst hne' fun h' hL=>finL hQ h' hL,fun hQ=>?_⟩
  exact wpAny_noteFrame_onW hfr hFF hf (Ieeeeeaaaaaaaa ob vs T oT ts h1 ⟨rfl,h4⟩ h3 h5 hnT hne h6 h7 h8) hst hne' fun h' hL=>finN hQ h' hL
 | held L'=>
  have hL':=hL L' rfl
  rw [hf] at hL';cases hL'
  refine Zaeeaa h5 fun h5 oT ts h6 h7 h8=>?_
  refine ⟨fun hQ=>?_,fun hQ=>?_⟩
  ·unfold leaving
   refine wpAny_bind (wpAny_noteFrame_againW hf (Ieeeeeaaaaaaaa ob vs T oT ts h1 ⟨rfl,h4⟩ h3 h5 hnT hne h6 h7 h8) ?_)
   refine wpAny_landsW (l:=env::l) (cls:=ob.cls) (a0:=a0) (L:=L) ⟨hst,hne',hFF,ob,vs,T,oT,ts,h1,⟨rfl,h4⟩,h3,h5,hnT,hne,h6,h7,h8⟩ fun h' hfl hu=>?_
   refine Zaaa hfl fun k1 k2 k3 k4=>?_
   exact finL hQ h' (Iaaa k1 k3 k4 hu)
  ·refine wpAny_noteFrame_againW hf (Ieeeeeaaaaaaaa ob vs T oT ts h1 ⟨rfl,h4⟩ h3 h5 hnT hne h6 h7 h8) (hQ T G S0 I rfl (Iea (env::l) hfr SK) dT ⟨oe,ot,hne,ob,vs,a0,h1,h2,h3,h4,h5,oT,ts,h6,h7,h8⟩)
end
end
structure FnAt (C:Cx) (G:St) (f:Addr) (fd:FuncData) (body:List Stmt) (sc:Scope):Prop where
 at_:∃ o,G.h.get? f=some o∧o.data=.func fd
 code:G.h.CodeRec fd.code fd.qualname
 body:fd.body=.stmts body
 scE:fd.scope=sc
 glob:fd.globals=mainGlobals
 bi:fd.builtins=builtinsNs
 kind:sc.kind=.function
 co:sc.isCoroutine=false
 gen:sc.isGenerator=false
 nd:(sc.names.map (·.1)).Nodup
noncomputable def PostC (C:Cx) (G:St) (o:Out) (Q:Value→Shared→Prop) (E:Value→Shared→Prop):Prop:=match o with
 | .next _ σ=>∀ G',Step C G.tr G G'→Inv C G' σ→Q .none G'.s
 | .ret v σ=>∀ u G',Step C G.tr G G'→Inv C G' σ→VR C G' u v→Q u G'.s
 | .exc c σ=>∀ e T G',Step C G.tr G G'→Inv C G' σ→G.h.get? e=none→G.h.get? T=none→Exc C G' c .flying e T→E (.ref e) G'.s
noncomputable abbrev resOf (Q:Value→Shared→Prop) (E:Value→Shared→Prop):Result→Shared→Prop:=fun r s'=>match r with | .ok (.ret v)=>Q v s' | .ok _=>False | .error e=>E e s'
section
variable {C:Cx} {D n:Nat} {sc sc0 scope:Scope} {m m' mB mC:Mp} {σ σ' σ'' σ1 σ2 σ3:Sto} {v:AV} {o:Out} {A A2:Around} {G G' G'' R:St} {env:Env} {c e T:Addr} {X Y Z:Addr→Prop}
section
variable {st:ExcSt}
noncomputable def St.back (Gb G:St):St:=⟨Gb.s,Gb.F,Gb.r,G.fs⟩
theorem VR.back {u:Value} (V:VR C G' u v):VR C (G'.back G) u v:=VR.mono (G:=G') (G':=G'.back G) (fun _ h=>h) (fun _ _ _ e=>e) (fun _ _ h=>h) V
theorem exit_ok {cls:String} {fs':List Addr} {isF:Bool} (I:Inv C G σ) (hfs:fs'=if isF then G.sz::G.fs else G.fs) (e4:env.locals=G.sz)
  (hc:∀ x a,sc.names.lookup x=some .cell→env.cells.lookup x=some a→G.h.get? a=none)
  (S:Step C (Xs ⟨{ G.s with heap:=frameHeap G.h cls sc },G.F,G.r,fs'⟩ env sc) ⟨{ G.s with heap:=frameHeap G.h cls sc },G.F,G.r,fs'⟩ G') (I':Inv C G' σ') :
  Step C G.tr G (G'.back G)∧Inv C (G'.back G) σ':=by
 have dead:G.h.get? G.sz=none:=sz_none
 have sub:∀ a,a∈G.fs→a∈fs':=fun a ha=>by
  rw [hfs];cases isF with
  | true=>exact List.mem_cons_of_mem _ ha
  | false=>exact ha
 have notX:∀ a oo,G.h.get? a=some oo→a ∉ G.r→¬ Xs ⟨{ G.s with heap:=frameHeap G.h cls sc },G.F,G.r,fs'⟩ env sc a:=fun a oo ea hr q=>by
  rcases q with q | q | ⟨x,h1,h2⟩
  ·exact hr q
  ·rw [e4] at q;rw [q,dead] at ea;cases ea
  ·rw [hc x a h1 h2] at ea;cases ea
 have nfs:∀ a oo,G.h.get? a=some oo→a ∉ G.fs→a ∉ fs':=fun a oo ea hf q=>by
  rw [hfs] at q
  cases isF with
  | true=>
   rcases List.mem_cons.mp q with q | q
   ·rw [q,dead] at ea;cases ea
   ·exact hf q
  | false=>exact hf q
 have kp:∀ {a oo},G.h.get? a=some oo→(frameHeap G.h cls sc).get? a=some oo:=fun e=>frame_keeps e
 have deadF:∀ a,(frameHeap G.h cls sc).get? a=none→G.h.get? a=none:=fun a h=>by
  cases q:G.h.get? a with
  | none=>rfl
  | some oo=>rw [kp q] at h;cases h
 refine ⟨⟨fun a oo ea hx ht hf=>S.keep a oo (kp ea) (notX a oo ea hx) ht (nfs a oo ea hf),fun a oo ea hx hf=>S.keepF a oo (kp ea) (notX a oo ea hx) (sub a hf),fun a oo ea=>S.alive a oo (kp ea),S.fz,fun a ha=>(S.new a ha).imp id (deadF a),?_,rfl,S.gens,S.drawn,S.os⟩,
  ⟨I'.base,fun a ha=>let ⟨h1,h2,h3,h4⟩:=I'.fz a ha;(Iaaa h1 h2 h3 (fun q=>h4 (by rw [S.fs];exact sub a q))),I'.len,fun i a oo h1 h2=>?_,I'.nd,fun a ha=>⟨(I'.rtab a ha).1,fun q=>(I'.rtab a ha).2 (by rw [S.fs];exact sub a q)⟩,fun a ha=>?_,I'.tab⟩⟩
 ·refine Zea S.rr fun r h1 h2=>?_
  exact (Iea r h1 (fun a ha=>deadF a (h2 a ha)))
 ·exact TrO.mono (G:=G') (G':=G'.back G) (fun _ h=>h) (fun _ _ _ e=>e) (fun _ _ h=>h) (fun _ e=>e) (I'.trk i a oo h1 h2)
 ·exact I'.ftab a (by rw [S.fs];exact sub a ha)
theorem fn_code {f:Addr} {fd:FuncData} {body:List Stmt} {us:List Value} {binds:List (Str × Value)} {kw:List (Str × Value)} (ok:C.Ok) (F:FnAt C G f fd body sc) (hA:AOk A (D+1)) (I:Inv C G σ) (SK:StackOk A G)
  (hb:∀ (Q:List (Str × Value)→Shared→Prop) E,Q binds G.s→W C A.in1 (bindArgs fd ⟨us,kw⟩) Q E G.s)
  (hB:BindsAre C G binds mB) (hloc:∀ p∈mB,sc.names.lookup p.1=some .local∨sc.names.lookup p.1=some .cell) (hcl:CloOk C G sc fd.closure mC) (hmC:∀ x v,mC.lookup x=some v→sc.names.lookup x=some .free∨sc.names.lookup x=none) (hinf:∀ env:Env,env.code=fd.code→env.qual=fd.qualname++".<locals>."→InfOk env sc mC)
  (hS:ExS C D sc (mB.reverse++mC) σ body o) {Q:Value→Shared→Prop} {E:Value→Shared→Prop} (hP:PostC C G o Q E):codeAny (model C.prog C.w) A (.call (.ref f) ⟨us,kw⟩) (resOf Q E) G.s:=by
 refine Zea F.at_ fun oo ho hd=>?_
 have hsc:=F.scE
 subst hsc
 refine codeAny_call_function (by have:=hA.2.1;omega) ho hd F.co F.gen F.body F.code (hb _ _ ?_)
 simp only [newFunctionEnv,Option.isSome_none,Bool.false_eq_true,if_false]
 refine wpAny_bind (wpAny_alloc ?_)
 refine wpAny_bind (wpAny_layCells _ (fun name kind cells=>by cases hkc:kind == NameKind.cell<;>simp [hkc]) _ _ _ _ ?_)
 have hz:({ G.s with heap:=G.s.heap.push { cls:=.type "frame",data:=.dict #[] } }:Shared).heap.objs.size=G.sz+1:=Heap.size_push ..
 rw [hz]
 generalize henv:({ scope:=fd.scope,locals:=G.s.heap.objs.size,globals:=fd.globals,cells:=cellsFrom (G.sz+1) fd.scope.names fd.closure,qual:=fd.qualname++".<locals>.",func:=some f,code:=fd.code,frame:=some G.s.heap.objs.size,builtins:=fd.builtins }:Env)=env
 have e1:env.scope=fd.scope:=by rw [← henv]
 have e2:env.globals=mainGlobals:=by rw [← henv];exact F.glob
 have e3:env.builtins=builtinsNs:=by rw [← henv];exact F.bi
 have e4:env.locals=G.sz:=by rw [← henv];rfl
 have e5:env.cells=cellsFrom (G.sz+1) fd.scope.names fd.closure:=by rw [← henv]
 have e6:env.frame=some G.sz:=by rw [← henv];rfl
 have hSK:StackOk (A.deeper env) ⟨{ G.s with heap:=frameHeap G.h "frame" fd.scope },G.F,G.r,G.sz::G.fs⟩:=by
  refine Zea SK fun l h1 h2=>?_
  refine (Iea (env::l) (by refine (?_:A.frames.map _=_);rw [h1];rfl) (fun en hen=>?_))
  rcases List.mem_cons.mp hen with rfl | hen
  ·refine Zeeeaa (((Heap.Ns.new G.h (.type "frame")).keeps (pushCells_keeps fd.scope.names _):(frameHeap G.h "frame" fd.scope).Ns G.sz (fun _=>none))) fun ob es ep h3 h4 _=>?_
   exact (Iaeeaaa (by rw [e1];exact F.kind) G.sz ob e6 (List.mem_cons_self ..) h3 (fun vs q=>by rw [h4] at q;cases q))
  ·refine Zaeeaaa (h2 en hen) fun k1 L ob k2 k3 k4 k5=>?_
   exact (Iaeeaaa k1 L ob k2 (List.mem_cons_of_mem _ k3) (frame_keeps k4) k5)
 refine Zaa (frame_ok (isF:=true) (cls:="frame") (A:=A.deeper env) I F.kind F.nd hcl hmC rfl e1 e2 e3 e4 e5 (hinf env (by rw [← henv]) (by rw [← henv])) hSK) fun I0 K0 O0=>?_
 have hc:∀ x a,fd.scope.names.lookup x=some .cell→env.cells.lookup x=some a→G.h.get? a=none:=fun x a h1 h2=>by
  rw [e5,cellsFrom_append] at h2
  have ok:=cellsFrom_ok fd.scope.names (G.h.push { cls:=.type "frame",data:=.dict #[] }) (G.sz+1) [] ⟨fun _ _ hm=>(nomatch hm),List.Pairwise.nil⟩ (by rw [Heap.size_push];exact Nat.le_refl _)
  rw [Heap.size_push] at ok
  refine Ze (cellsFrom_has fd.scope.names (G.sz+1) (mem_of_lookup h1)) fun c0 hc0=>?_
  refine Ze (lookup_of_mem hc0) fun c1 hc1=>?_
  rw [lookup_append_left hc1] at h2
  have h3:=Option.some.inj h2
  have h4:=(ok.empty x c1 (mem_of_lookup hc1)).2
  rw [h3] at h4
  exact dead_ge (Nat.le_of_succ_le h4)
 have hB0:BindsAre C ⟨{ G.s with heap:=frameHeap G.h "frame" fd.scope },G.F,G.r,G.sz::G.fs⟩ binds mB:=by
  clear hb hloc hS
  induction binds generalizing mB with
  | nil=>cases mB with
   | nil=>trivial
   | cons=>exact hB.elim
  | cons p r ih=>cases mB with
   | nil=>exact hB.elim
   | cons q l=>
    obtain ⟨p1,p2⟩:=p;obtain ⟨q1,q2⟩:=q
    refine Zaa hB fun h1 h2 h3=>?_
    exact (Iaa h1 (VR.mono (G:=G) (G':=⟨{ G.s with heap:=frameHeap G.h "frame" fd.scope },G.F,G.r,G.sz::G.fs⟩) (fun _ h=>h) (fun b o _ e=>frame_keeps e) (fun _ _ h=>h) h2) (ih h3))
 refine wpAny_bind ?_
 refine binds_ok (A:=A.deeper env) (sc:=fd.scope) (G:=⟨{ G.s with heap:=frameHeap G.h "frame" fd.scope },G.F,G.r,G.sz::G.fs⟩) _ (fun _ _ _=>rfl) hB0 hloc I0 K0 O0 fun G1 s1 I1 K1 O1=>?_
 refine wpAny_pure ⟨ok.nolimit.keeps I1.keeps0,codeAny_func ?_⟩
 have hTop:TopOk (A.deeper env) env:=by
  refine Zea SK fun l h1 _=>?_
  exact (Ieea l G.sz (by refine (?_:A.frames.map _=_);rw [h1];rfl) e6)
 refine hS (A.deeper env) G1 env (Iaa hA.1 (by refine (?_:A.depth+1+D < _);have:=hA.2.1;omega) (by refine (?_:A.units+3+_+_ < _);have:=hA.2.2;omega)) I1 K1 O1 hTop _ _ ?_
 cases o with
 | next m1 σ1=>
  intro G2 s2 I2 K2
  refine Za (exit_ok (isF:=true) I rfl e4 hc (s1.trs s2) I2) fun s3 I3=>?_
  exact hP (G2.back G) s3 I3
 | ret v1 σ1=>
  intro u G2 s2 I2 K2 V
  refine Za (exit_ok (isF:=true) I rfl e4 hc (s1.trs s2) I2) fun s3 I3=>?_
  exact hP u (G2.back G) s3 I3 V.back
 | exc c σ1=>
  intro st e T G2 s2 I2 K2 de dT X hL
  refine Zea K2 fun l h1 h2=>?_
  have h1':A.frames.map (env::·)=some l:=h1
  refine Zea (Option.map_eq_some_iff.mp h1') fun l0 h3 z61=>?_
  obtain rfl:=z61
  have stp:=s1.trs s2
  refine (move_ok (L:=G.sz) stp ?_ ?_ I2 h1 e6 h2 X hL).1 fun T' G3 s3 I3 hfs _ dT' X'=>?_
  ·exact s1.dead de
  ·exact s1.dead dT
  refine Za (exit_ok (isF:=true) I rfl e4 hc s3 I3) fun s4 I4=>?_
  have deadB:∀ a,(frameHeap G.h "frame" fd.scope).get? a=none→G.h.get? a=none:=fun a h=>by
   cases q:G.h.get? a with
   | none=>rfl
   | some oo=>rw [frame_keeps q] at h;cases h
  refine hP e T' (G3.back G) s4 I4 (deadB e (s1.dead de)) (deadB T' dT') ⟨⟨X'.oe.f,X'.oe.r,X'.oe.t,fun q=>X'.oe.s ?_⟩,⟨X'.oT.f,X'.oT.r,X'.oT.t,fun q=>X'.oT.s ?_⟩,X'.ne,X'.at_⟩
  ·rw [hfs,stp.fs];exact List.mem_cons_of_mem _ q
  ·rw [hfs,stp.fs];exact List.mem_cons_of_mem _ q
theorem fn_ok {f:Addr} {fd:FuncData} {body:List Stmt} {us:List Value} {binds:List (Str × Value)} {kw:List (Str × Value)} (ok:C.Ok) (F:FnAt C G f fd body sc) (hA:AOk A (D+1)) (I:Inv C G σ) (SK:StackOk A G)
  (hb:∀ (Q:List (Str × Value)→Shared→Prop) E,Q binds G.s→W C A.in1 (bindArgs fd ⟨us,kw⟩) Q E G.s)
  (hB:BindsAre C G binds mB) (hloc:∀ p∈mB,sc.names.lookup p.1=some .local∨sc.names.lookup p.1=some .cell) (hcl:CloOk C G sc fd.closure mC) (hmC:∀ x v,mC.lookup x=some v→sc.names.lookup x=some .free∨sc.names.lookup x=none) (hinf:∀ env:Env,env.code=fd.code→env.qual=fd.qualname++".<locals>."→InfOk env sc mC)
  (hS:ExS C D sc (mB.reverse++mC) σ body o) {Q:Value→Shared→Prop} {E:Value→Shared→Prop} (hP:PostC C G o Q E):W C A (call (.ref f) us kw) Q E G.s:=
 wpAny_call (fn_code ok F hA I SK hb hB hloc hcl hmC hinf hS hP)
end
end
noncomputable def CallR (C:Cx) (D:Nat) (f:Addr) (vs:List AV) (σ:Sto) (o:Out):Prop:=∀ A G us,AOk A D→Inv C G σ→StackOk A G→VRs C G us vs→∀ Q E,PostC C G o Q E→W C A (call (.ref f) us) Q E G.s
noncomputable def EvX (C:Cx) (D:Nat) (sc:Scope) (m:Mp) (σ:Sto) (e:Expr) (c:Addr) (σ':Sto):Prop:=∀ A G env,AOk A D→Inv C G σ→EnvOk C A G env sc m→∀ Q E,(∀ x T G',Step C G.tr G G'→Inv C G' σ'→G.h.get? x=none→G.h.get? T=none→Exc C G' c .flying x T→E (.ref x) G'.s)→W C A (eval e env) Q E G.s
structure FunOk (C:Cx) (x:Str) (f:Addr) (ps:List Str) (body:List Stmt) (sc:Scope):Prop where
 name:C.mg x=some (.ref f)
 fn:∃ fd oc od sl,C.H0.get? f=some ⟨oc,od,.func fd,sl⟩∧C.H0.CodeRec fd.code fd.qualname∧fd.body=.stmts body∧fd.scope=sc∧fd.globals=mainGlobals∧fd.builtins=builtinsNs∧fd.closure=[]∧∀ us:List Value,us.length=ps.length→bindArgs fd ⟨us,[]⟩=pure (ps.zip us)
 kind:sc.kind=.function
 co:sc.isCoroutine=false
 gen:sc.isGenerator=false
 nd:(sc.names.map (·.1)).Nodup
 nofree:∀ x∈sc.names,x.2≠.free
 loc:∀ p∈ps,sc.names.lookup p=some .local∨sc.names.lookup p=some .cell
 keep:keepIn C.K (.ref f)=true
section
variable {C:Cx} {D n:Nat} {sc sc0 scope:Scope} {m m' mB mC:Mp} {σ σ' σ'' σ1 σ2 σ3:Sto} {v:AV} {o:Out} {A A2:Around} {G G' G'' R:St} {env:Env} {c e T:Addr} {X Y Z:Addr→Prop}
section
variable {st:ExcSt}
theorem binds_zip:∀ {ps:List Str} {us:List Value} {vs:List AV},VRs C G us vs→BindsAre C G (ps.zip us) (ps.zip vs)
 | [],_,_,_=>trivial
 | _::_,_,_,.nil=>trivial
 | p::ps,_,_,.cons a b=>(Iaa rfl a (binds_zip b))
theorem codeRec_keeps {h h':Heap} {v:Value} {q:Str} (k:∀ b o,h.get? b=some o→h'.get? b=some o) (x:h.CodeRec v q):h'.CodeRec v q:=by
 refine Zeeeeaa x fun c oc vs tq hc hoc r=>?_
 exact (Ieeeeaa c oc vs tq hc (k _ _ hoc) r)
theorem FunOk.fnAt {x:Str} {f:Addr} {ps:List Str} {body:List Stmt} (F:FunOk C x f ps body sc) (I:Inv C G σ):∃ fd,FnAt C G f fd body sc∧fd.closure=[]∧∀ us:List Value,us.length=ps.length→bindArgs fd ⟨us,[]⟩=pure (ps.zip us):=by
 refine Zeeeeaaaaaaa F.fn fun fd oc od sl h1 h2 h3 h4 h5 h6 h7 h8=>?_
 exact (Ieaa fd ⟨(Iea _ (I.keeps0 _ _ h1) rfl),codeRec_keeps I.keeps0 h2,h3,h4,h5,h6,F.kind,F.co,F.gen,F.nd⟩ h7 h8)
theorem FunOk.call (ok:C.Ok) {x:Str} {f:Addr} {ps:List Str} {body:List Stmt} {vs:List AV} (F:FunOk C x f ps body sc) (hl:vs.length=ps.length) (hS:ExS C D sc (ps.zip vs).reverse σ body o):CallR C (D+1) f vs σ o:=by
 intro A G us hA I SK VS Q E hP
 refine Zeaa (F.fnAt I) fun fd FA hcl hb=>?_
 refine fn_ok (mC:=[]) ok FA hA I SK (fun Q' E' hQ'=>by rw [hb us (by rw [VS.length,hl])];exact wpAny_pure hQ') (binds_zip VS) (fun p hp=>F.loc p.1 ?_) ⟨fun y hy=>absurd (mem_of_lookup hy) fun q=>F.nofree _ q rfl,fun y c hy=>by rw [hcl] at hy;cases hy⟩ (fun _ _ h=>by cases h) (fun _ _ _ _ _ _ h=>by cases h) (by rw [List.append_nil];exact hS) hP
 exact (List.of_mem_zip (a:=p.1) (b:=p.2) hp).1
theorem eval_Call_Name {x:Str} {np pos:Pos} {args:List Expr} {env:Env}:eval (.Call (.Name x np) args [] pos) env=(do callWith pos (← eval (.Name x np) env) [] (backTo pos (starEach args env)) []):=rfl
noncomputable def noStars (es:List Expr):Bool:=es.all noStar
theorem backTo_noStars:∀ {es:List Expr} {pos:Pos} {env:Env},noStars es=true→(backTo pos (starEach es env)).any (·.1)=false
 | [],_,_,_=>rfl
 | [e],pos,env,h=>by
  have he:noStar e=true:=by simpa [noStars] using h
  rw [starEach_cons he];rfl
 | e::e2::es,pos,env,h=>by
  have he:noStar e=true:=by simp [noStars] at h;exact h.1
  have hr:noStars (e2::es)=true:=by simp [noStars] at h ⊢;exact h.2
  have ih:=backTo_noStars (pos:=pos) (env:=env) hr
  rw [starEach_cons he]
  refine (?_:(false||(backTo pos (starEach (e2::es) env)).any (·.1))=false)
  rw [ih];rfl
noncomputable def Keeps1 (C:Cx) (G:St) (f:Value):Prop:=∃ k,(k=Keeper.frame∨k=Keeper.machine∨k=Keeper.boundFrame)∧Looks (model C.prog C.w) G.h (keeperOf f) k
theorem args_ok {f:Value} {a:Expr} {args:List Expr} {vs:List AV} {pos:Pos} (hs:noStars (a::args)=true) (ha:EvL C D sc m σ (a::args) vs σ') (hA:AOk A D) (I:Inv C G σ) (K:EnvOk C A G env sc m)
  (hk:∀ G',Step C G.tr G G'→Inv C G' σ'→Keeps1 C G' f) {Q E}
  (h:∀ us G',Step C G.tr G G'→Inv C G' σ'→EnvOk C A G' env sc m→VRs C G' us vs→W C A (call f us) Q E G'.s):W C A (callWith pos f [] (backTo pos (starEach (a::args) env)) []) Q E G.s:=by
 refine callWith_of (P:=fun h=>∃ k,(k=Keeper.frame∨k=Keeper.machine∨k=Keeper.boundFrame)∧Looks (model C.prog C.w) h (keeperOf f) k) (by rw [backTo_noStars hs];rfl) (fun _ h=>h) ?_
 rw [starEach_cons (by simp [noStars] at hs;exact hs.1)]
 refine evalArgs_plain ?_
 have:=ha A G env pos hA I K
 rw [starEach_cons (by simp [noStars] at hs;exact hs.1)] at this
 exact this _ _ fun us G' st I' V=>⟨hk G' st I',h us G' st I' (K.step I st) V⟩
theorem args0_ok {f:Value} {pos:Pos} (hk:Keeps1 C G f) {Q E} (h:W C A (call f []) Q E G.s):W C A (callWith pos f [] (backTo pos (starEach [] env)) []) Q E G.s:=
 callWith_of (P:=fun h=>∃ k,(k=Keeper.frame∨k=Keeper.machine∨k=Keeper.boundFrame)∧Looks (model C.prog C.w) h (keeperOf f) k) rfl (fun _ h=>h) (evalArgs_nil3 ⟨hk,h⟩)
theorem keeps1_K (ok:C.Ok) {f:Value} (hk:keepIn C.K f=true) (I:Inv C G σ):Keeps1 C G f:=keeps_K hk _ (ok.X.keeps I.keeps0)
theorem EvE.callG {x:Str} {np pos} {a:Expr} {args:List Expr} {fv:AV} {vs:List AV} (hf:EvE C D sc m σ (.Name x np) fv σ) (hs:noStars (a::args)=true) (ha:EvL C D sc m σ (a::args) vs σ')
  (hk:∀ G u,Inv C G σ'→VR C G u fv→Keeps1 C G u) (hv:∀ G u,Inv C G σ→VR C G u fv→∀ G',Step C G.tr G G'→VR C G' u fv)
  (h:∀ A G u us,AOk A D→Inv C G σ'→StackOk A G→VR C G u fv→VRs C G us vs→Gives C A G (call u us) v σ''):EvE C D sc m σ (.Call (.Name x np) (a::args) [] pos) v σ'':=fun A G env hA I K Q E hQ=>by
 rw [eval_Call_Name]
 refine wpAny_bind (hf A G env hA I K _ _ fun u G1 s1 I1 V1=>?_)
 refine args_ok hs ha hA I1 (K.step I s1) (fun G2 s2 I2=>hk G2 u I2 (hv G1 u I1 V1 G2 s2)) fun us G2 s2 I2 K2 VS=>?_
 exact h A G2 u us hA I2 K2.stk (hv G1 u I1 V1 G2 s2) VS _ _ fun r G3 s3 I3 V3=>hQ r G3 ((s1.trr I s2).trr I s3) I3 V3
theorem EvE.call (ok:C.Ok) {x:Str} {np pos} {a:Expr} {args:List Expr} {f:Addr} {vs:List AV} (hf:EvE C D sc m σ (.Name x np) (.val (.ref f)) σ) (hk:keepIn C.K (.ref f)=true) (hs:noStars (a::args)=true) (ha:EvL C D sc m σ (a::args) vs σ')
  (h:CallR C D f vs σ' (.ret v σ'')):EvE C D sc m σ (.Call (.Name x np) (a::args) [] pos) v σ'':=
 EvE.callG hf hs ha (fun G u I V=>V.val_elim (keeps1_K ok hk I)) (fun _ _ _ V _ _=>V.val_elim (.val _)) fun A G u us hA I SK V VS Q E hQ=>V.val_elim (h A G us hA I SK VS Q E hQ)
theorem EvE.callB {x:Str} {np pos} {a:Expr} {args:List Expr} {b:Value} {vs:List AV} (hf:EvE C D sc m σ (.Name x np) (.val b) σ) (hk:∀ G,Keeps1 C G b) (hs:noStars (a::args)=true) (ha:EvL C D sc m σ (a::args) vs σ')
  (h:∀ A G us,AOk A D→Inv C G σ'→VRs C G us vs→Gives C A G (PySem.call b us) v σ''):EvE C D sc m σ (.Call (.Name x np) (a::args) [] pos) v σ'':=
 EvE.callG hf hs ha (fun G u I V=>V.val_elim (hk G)) (fun _ _ _ V _ _=>V.val_elim (.val _)) fun A G u us hA I SK V VS=>V.val_elim (h A G us hA I VS)
theorem EvX.call (ok:C.Ok) {x:Str} {np pos} {a:Expr} {args:List Expr} {f:Addr} {vs:List AV} (hf:EvE C D sc m σ (.Name x np) (.val (.ref f)) σ) (hk:keepIn C.K (.ref f)=true) (hs:noStars (a::args)=true) (ha:EvL C D sc m σ (a::args) vs σ')
  (h:CallR C D f vs σ' (.exc c σ'')):EvX C D sc m σ (.Call (.Name x np) (a::args) [] pos) c σ'':=fun A G env hA I K Q E hQ=>by
 rw [eval_Call_Name]
 refine wpAny_bind (hf A G env hA I K _ _ fun u G1 s1 I1 V1=>?_)
 refine V1.val_elim ?_
 refine args_ok hs ha hA I1 (K.step I s1) (fun G2 s2 I2=>keeps1_K ok hk I2) fun us G2 s2 I2 K2 VS=>?_
 have s12:=s1.trr I s2
 exact h A G2 us hA I2 K2.stk VS _ _ fun e T G3 s3 I3 de dT X=>hQ e T G3 (s12.trr I s3) I3 (s12.dead de) (s12.dead dT) X
theorem Ex1.exprX {x:Expr} {pos} (h:EvX C D sc m σ x c σ') (hs:∀ env,swapsWith x none pos.line env=pure false):Ex1 C D sc m σ (.Expr x pos) (.exc c σ'):=fun A G env hA I K O TT Q E hQ=>
 wpAny_Expr_any (h A G env hA I K _ _ fun e T G' st I' de dT X=>hQ .flying e T G' st.toX I' (K.step I st).stk de dT X (fun _ h=>by cases h)) (by unfold interactive;rw [K.scE];first | (simp [K.kind];done) | (have:=K.kind;simp_all)) (hs env)
theorem CallR.le {D':Nat} {f:Addr} {vs:List AV} (h:CallR C D f vs σ o) (hd:D≤D'):CallR C D' f vs σ o:=fun A G us hA=>h A G us (hA.le hd)
end

section
theorem side_ok {W:List Addr} (I:Inv C G σ) (h':Heap) (tk:Nat) (hk:∀ b o,b ∉ W→G.h.get? b=some o→h'.get? b=some o) (hW:∀ b∈W,Off C G b∧∃ o,h'.get? b=some o) :
  Step C (·∈W) G ⟨{ G.s with heap:=h',toks:=tk },G.F,G.r,G.fs⟩∧Inv C ⟨{ G.s with heap:=h',toks:=tk },G.F,G.r,G.fs⟩ σ:=by
 have stp:Step C (·∈W) G ⟨{ G.s with heap:=h',toks:=tk },G.F,G.r,G.fs⟩:=
  ⟨fun b o e hb _ _=>hk b o hb e,fun b o e hb _=>⟨o.slots,hk b o hb e⟩,fun b o e=>by
   by_cases hb:b∈W
   ·exact (hW b hb).2
   ·exact ⟨o,hk b o hb e⟩,fun _ h=>h,fun _ h=>.inl h,(Iea ([]) ((List.append_nil _).symm) (fun _ h=>nomatch h)),rfl,rfl,rfl,rfl⟩
 have nF:∀ a,G.F a→a ∉ W:=fun a h q=>(hW a q).1.f h
 refine ⟨stp,⟨fun b o e=>⟨(I.base b o e).1,hk b o (nF b (I.base b o e).1) (I.base b o e).2⟩,fun b hb=>?_,I.len,fun i b oo h1 h2=>?_,I.nd,I.rtab,fun b hb=>⟨(I.ftab b hb).1,?_⟩,fun q hq=>?_⟩⟩
 ·refine Za (I.fz b hb) fun z29 r=>?_
  refine Ze z29 fun o e=>?_
  exact ⟨⟨o,hk b o (nF b hb) e⟩,r⟩
 ·exact TrO.mono (G:=G) (G':=⟨{ G.s with heap:=h',toks:=tk },G.F,G.r,G.fs⟩) (fun _ h=>h) (fun b o hf e=>hk b o (nF b hf) e) (fun _ _ h=>h) (fun o e=>hk b o (fun q=>(hW b q).1.r (List.mem_of_getElem? h1)) e) (I.trk i b oo h1 h2)
 ·refine Ze ((I.ftab b hb).2) fun o e=>?_
  exact ⟨o,hk b o (fun q=>(hW b q).1.s hb) e⟩
 ·refine Zeaa (I.tab q hq) fun ps e t k=>?_
  refine (Ieaa ps (hk _ _ (fun z=>(hW _ z).1.t (List.mem_map.mpr (Iea q hq rfl))) e) t (fun pos w hw=>(k pos w hw).mono (fun _ h=>h) fun b o hf e=>hk b o (nF b hf) e))
theorem EnvOk.stepX (K:EnvOk C A G env sc m) (I:Inv C G σ) (b:Step C X G G') (hF:∀ x,X x→¬ G.F x) (hL:¬ X env.locals) (hC:∀ x c,env.cells.lookup x=some c→¬ X c) (hS:∀ a∈G.fs,¬ X a):EnvOk C A G' env sc m where
 scE:=K.scE
 kind:=K.kind
 glob:=K.glob
 bi:=K.bi
 ns:=by
  refine Zea K.ns fun ml hn k=>?_
  exact (Iea ml (Ns.stepG b hn hL K.off.2.1) (fun x v e1 e2=>let ⟨u,a,c⟩:=k x v e1 e2;(Iea u a (c.step I b hF))))
 cell x e2:=by
  refine Zeaaaa (K.cell x e2) fun c h1 z28 h3 h4 h5=>?_
  refine Ze z28 fun u0 h2=>?_
  refine (Ieaaaaa c h1 ⟨u0,IsCell.stepG b h2 (hC x c h1) h5.1⟩ (fun v e1=>?_) (fun q=>?_) h5.1 (b.fs▸h5.2))
  ·refine Zea (h3 v e1) fun u h6 h7=>?_
   exact (Iea u (IsCell.stepG b h6 (hC x c h1) h5.1) (h7.step I b hF))
  ·rcases b.rold q with q | q
   ·exact h4 q
   ·refine Zea h2 fun o e _=>?_;rw [q] at e;cases e
 off:=by
  refine (Iaa (fun q=>?_) K.off.2.1 (fun q=>?_))
  ·rcases b.rold q with q | q
   ·exact K.off.1 q
   ·refine Ze K.there fun o e=>?_;rw [q] at e;cases e
  ·rcases b.new _ q with q | q
   ·exact K.off.2.2 q
   ·refine Ze K.there fun o e=>?_;rw [q] at e;cases e
 stk:=K.stk.step b hS
 live x c e:=let ⟨o,e'⟩:=K.live x c e;b.alive c o e'
 inf:=K.inf
structure Pv (C:Cx) (R G:St) (env:Env) (p:Addr):Prop where
 off:Off C G p
 loc:p≠env.locals
 cel:∀ x,env.cells.lookup x≠some p
 dead:R.h.get? p=none
 live:∃ o,G.h.get? p=some o
theorem Off.step {p:Addr} (h:Off C G p) (l:∃ o,G.h.get? p=some o) (b:Step C X G G'):Off C G' p:=by
 refine Ze l fun o e=>?_
 refine ⟨fun q=>?_,fun q=>?_,h.t,b.fs▸h.s⟩
 ·rcases b.new _ q with q | q
  ·exact h.f q
  ·rw [q] at e;cases e
 ·rcases b.rold q with q | q
  ·exact h.r q
  ·rw [q] at e;cases e
theorem Pv.step {p:Addr} (h:Pv C R G env p) (b:Step C X G G'):Pv C R G' env p:=
 ⟨h.off.step h.live b,h.loc,h.cel,h.dead,let ⟨o,e⟩:=h.live;b.alive p o e⟩
noncomputable def Xe (env:Env) (sc:Scope):Addr→Prop:=fun a=>a=env.locals∨∃ x,sc.names.lookup x=some .cell∧env.cells.lookup x=some a
theorem names_ok (hY:∀ a,Xe env sc0 a→Y a∨R.h.get? a=none) {E}:∀ {ns:List Str} {poss:List Pos} {us:List Value} {vs:List AV} {G:St} {m:Mp},ns.length=us.length→(∀ n∈ns,sc.names.lookup n=some .local∧sc0.names.lookup n=some .local)→poss.length=ns.length→Step C Y R G→Inv C G σ→EnvOk C A G env sc m→VRs C G us vs→{Q:Unit→Shared→Prop} →
  (∀ G',Step C (fun a=>a=env.locals) G G'→Step C Y R G'→Inv C G' σ→EnvOk C A G' env sc ((ns.zip vs).reverse++m)→Q () G'.s) →
  W C A2 (assignInOrder ((ns.zip poss).map fun p=>assign (.Name p.1 p.2) env) us) Q E G.s:=by
 intro ns
 induction ns with
 | nil=>
  intro _ _ _ G m _ _ _ S0 I K _ Q h
  exact assignInOrder_nil (h G .refl S0 I K)
 | cons n ns ih=>
  intro poss us vs G m hl hn hp S0 I K VS Q h
  cases poss with
  | nil=>exact absurd hp.symm (Nat.succ_ne_zero _)
  | cons p ps=>
  cases VS with
  | nil=>exact absurd hl (Nat.succ_ne_zero _)
  | cons V VS=>
   refine assignInOrder_cons (wpAny_assign_Name (store_core I K (fun hc=>by rw [(hn n (List.mem_cons_self ..)).1] at hc;cases hc) V (.inl (hn n (List.mem_cons_self ..)).1) fun G1 s1 I1 K1=>?_))
   have x1:∀ a,X1 env sc n a→a=env.locals:=fun a ha=>by
    rcases ha with ha | ha
    ·exact ha.2
    ·rw [(hn n (List.mem_cons_self ..)).1] at ha;cases ha.1
   have s1':Step C (fun a=>a=env.locals) G G1:=s1.weaken fun a ha=>.inl (x1 a ha)
   have S1:Step C Y R G1:=S0.trans s1 fun a ha=>hY a (.inl (x1 a ha))
   refine ih (Nat.succ.inj hl) (fun k hk=>hn k (List.mem_cons_of_mem _ hk)) (Nat.succ.inj hp) S1 I1 K1 (VS.step I s1 fun a ha=>by rw [x1 a ha];exact K.off.2.2) fun G2 s2 S2 I2 K2=>h G2 (s1'.trans s2 fun _ h=>.inl h) S2 I2 ?_
   simpa using K2
noncomputable def bindName1 (n:Str):AV→Option (Mp):=fun x=>some [(n,x)]
noncomputable def bindNames (ns:List Str):AV→Option (Mp)
 | .p (.tuple xs)=>if xs.length=ns.length then some (ns.zip (xs.map .p)).reverse else none
 | _=>none
structure IterOk (C:Cx) (A:Around) (R:St) (Y:Addr→Prop) (env:Env) (sc0 sc:Scope) (target:Expr) (it:Value) (bt:AV→Option (Mp)) (fp:Addr→Prop) (J:List AV→St→Prop):Prop where
 nxt:∀ {x xs b m σ G},bt x=some b→J (x::xs) G→Inv C G σ→EnvOk C A G env sc m→Step C Y R G→∀ {Q:Shared→Prop} {E},(∀ G',Step C Y R G'→Step C (fun a=>fp a∨Xe env sc0 a) G G'→Inv C G' σ→EnvOk C A G' env sc (b++m)→J xs G'→Q G'.s) →
   W C A (pyNext it) (fun r s₁=>match r with | none=>False | some v=>W C A (letOwnedTupleGo target it v) (fun _ s₂=>W C A (assign target env v) (fun _ s₃=>Q s₃) E s₂) E s₁) E G.s
 fin:∀ {σ G},J [] G→Inv C G σ→∀ {Q:Shared→Prop} {E},(∀ h' tk,(∀ b o,¬ fp b→G.h.get? b=some o→h'.get? b=some o)→Q { G.s with heap:=h',toks:=tk }) →
   W C A (pyNext it) (fun r s₁=>match r with | none=>Q s₁ | some _=>False) E G.s
 keep:∀ {xs G G' σ X},J xs G→Inv C G σ→Step C X G G'→(∀ a,X a→¬ fp a)→(∀ a,X a→¬ G.F a)→J xs G'
 pv:∀ {xs G p},J xs G→fp p→Pv C R G env p
noncomputable def JSeq (C:Cx) (R:St) (env:Env) (I ax:Addr) (l:List AV):List AV→St→Prop:=fun xs G=>∃ (i:Nat) (vs:Array Value),xs=l.drop i∧i≤l.length∧Pv C R G env I∧G.F ax∧VRs C G vs.toList l ∧
 ((G.h.IsListIter I ax i∧G.h.IsList ax vs)∨(G.h.IsTupleIter I ax i∧G.h.IsTuple ax vs))
theorem jseq_keep {I ax:Addr} {l xs:List AV} (j:JSeq C R env I ax l xs G) (IV:Inv C G σ) (b:Step C X G G') (h1:∀ a,X a→¬ a=I) (h2:∀ a,X a→¬ G.F a):JSeq C R env I ax l xs G':=by
 refine Zeeaaaaa j fun i vs e hi pv hf VS h=>?_
 have kI:∀ o,G.h.get? I=some o→G'.h.get? I=some o:=fun o eo=>b.keep I o eo (fun q=>h1 I q rfl) pv.off.t pv.off.s
 have kA:∀ o,G.h.get? ax=some o→G'.h.get? ax=some o:=fun o eo=>IV.stay b h2 hf eo
 refine (Ieeaaaaa i vs e hi (pv.step b) (b.fz _ hf) (VS.step IV b h2) (h.imp (fun p=>⟨p.1.at kI,p.2.at kA⟩) fun p=>⟨p.1.at kI,p.2.at kA⟩))
theorem jseq_next {I ax:Addr} {l xs:List AV} {x:AV} (hA:A.handled=none) (j:JSeq C R env I ax l (x::xs) G) (IV:Inv C G σ) (K:EnvOk C A G env sc m) (S0:Step C Y R G) {Q:Option Value→Shared→Prop} {E}
  (hQ:∀ u G',Step C Y R G'→Step C (fun a=>a=I) G G'→Inv C G' σ→EnvOk C A G' env sc m→VR C G' u x→JSeq C R env I ax l xs G'→((∃ k,G.h.IsListIter I ax k)→∃ k,G'.h.IsListIter I ax k)→Q (some u) G'.s):W C A (pyNext (.ref I)) Q E G.s:=by
 refine Zeeaaaaa j fun i vs e hi pv hf VS h=>?_
 have hlt:i < l.length:=by
  rcases Nat.lt_or_ge i l.length with h | h
  ·exact h
  ·rw [List.drop_eq_nil_of_le h] at e;cases e
 rw [List.drop_eq_getElem_cons hlt] at e
 injection e with e1 e2
 refine Zea (VS.get (i:=i) (x:=x) (by rw [e1];exact List.getElem?_eq_getElem hlt)) fun u hu VU=>?_
 have hsz:i < vs.size:=by have:=VS.length;simp at this;omega
 have hne:ax≠I:=fun q=>pv.off.f (q▸hf)
 have fin:∀ h' tk,(∀ b o,b ∉ [I]→G.h.get? b=some o→h'.get? b=some o)→(∃ o,h'.get? I=some o)→((h'.IsListIter I ax (i+1)∧h'.IsList ax vs)∨(h'.IsTupleIter I ax (i+1)∧h'.IsTuple ax vs))→((∃ k,G.h.IsListIter I ax k)→∃ k,h'.IsListIter I ax k)→Q (some u) { G.s with heap:=h',toks:=tk }:=by
  intro h' tk hk hal hst hL
  refine Za (side_ok (W:=[I]) IV h' tk hk fun b hb=>by rw [List.mem_singleton.mp hb];exact ⟨pv.off,hal⟩) fun s1 I1=>?_
  have s1':Step C (fun a=>a=I) G ⟨{ G.s with heap:=h',toks:=tk },G.F,G.r,G.fs⟩:=s1.weaken fun a ha=>.inl (List.mem_singleton.mp ha)
  have nF:∀ a,a=I→¬ G.F a:=fun a ha=>by rw [ha];exact pv.off.f
  refine hQ u _ (S0.trans s1' fun a ha=>.inr (by rw [ha];exact pv.dead)) s1' I1 (K.stepX IV s1' nF (fun q=>pv.loc q.symm) (fun y c hc q=>pv.cel y (q▸hc)) fun a ha q=>pv.off.s (q▸ha)) (VU.step IV s1' nF)
   (Ieeaaaaa (i+1) vs (by rw [e2]) hlt (pv.step s1') hf (VS.step IV s1' nF) hst) hL
 rcases h with ⟨h1,h2⟩ | ⟨h1,h2⟩
 ·refine (Walks.list (prog:=C.prog) (w:=C.w) (A:=A) hA I ax hne vs).item i G.s Q E hsz ⟨h1,h2⟩ fun w h' tk hw hst hk=>?_
  have hw':w=u:=by rw [Array.getElem?_toList] at hu;rw [hu] at hw;exact (Option.some.inj hw).symm
  subst hw'
  exact fin h' tk hk (let ⟨o,e,_⟩:=hst.1;⟨o,e⟩) (.inl hst) fun _=>⟨_,hst.1⟩
 ·refine (Walks.tuple (prog:=C.prog) (w:=C.w) (A:=A) hA I ax hne vs).item i G.s Q E hsz ⟨h1,h2⟩ fun w h' tk hw hst hk=>?_
  have hw':w=u:=by rw [Array.getElem?_toList] at hu;rw [hu] at hw;exact (Option.some.inj hw).symm
  subst hw'
  exact fin h' tk hk (let ⟨o,e,_⟩:=hst.1;⟨o,e⟩) (.inr hst) fun ⟨k,o,e0,c0,d0⟩=>by
   refine Zeaa h1 fun o' e' c' _=>?_
   rw [e0] at e';cases e';rw [c0] at c'
   exact absurd (Value.type.inj c') (by decide)
theorem jseq_fin {I ax:Addr} {l:List AV} (hA:A.handled=none) (j:JSeq C R env I ax l [] G) (IV:Inv C G σ) {Q:Shared→Prop} {E}
  (hQ:∀ h' tk,(∀ b o,¬ b=I→G.h.get? b=some o→h'.get? b=some o)→Q { G.s with heap:=h',toks:=tk }):W C A (pyNext (.ref I)) (fun r s₁=>match r with | none=>Q s₁ | some _=>False) E G.s:=by
 refine Zeeaaaaa j fun i vs e hi pv hf VS h=>?_
 have hge:i=l.length:=by
  have:=congrArg List.length e
  simp at this;omega
 have hsz:i=vs.size:=by have:=VS.length;simp at this;omega
 have hne:ax≠I:=fun q=>pv.off.f (q▸hf)
 have fin:∀ h' tk,(∀ b o,b ∉ [I]→G.h.get? b=some o→h'.get? b=some o)→Q { G.s with heap:=h',toks:=tk }:=fun h' tk hk=>hQ h' tk fun b o hb=>hk b o (by simpa using hb)
 rcases h with ⟨h1,h2⟩ | ⟨h1,h2⟩
 ·exact (Walks.list (prog:=C.prog) (w:=C.w) (A:=A) hA I ax hne vs).done G.s _ E (hsz▸⟨h1,h2⟩) fun h' tk hk=>fin h' tk hk
 ·exact (Walks.tuple (prog:=C.prog) (w:=C.w) (A:=A) hA I ax hne vs).done G.s _ E (hsz▸⟨h1,h2⟩) fun h' tk hk=>fin h' tk hk
theorem side_ref {fp:Addr→Prop} (S0:Step C Y R G) (IV:Inv C G σ) (K:EnvOk C A G env sc m) (hfp:∀ b,fp b→Pv C R G env b) {h':Heap} {tk:Nat} (hk:∀ b o,¬ fp b→G.h.get? b=some o→h'.get? b=some o) :
  Step C Y R ⟨{ G.s with heap:=h',toks:=tk },G.F,G.r,G.fs⟩∧Inv C ⟨{ G.s with heap:=h',toks:=tk },G.F,G.r,G.fs⟩ σ∧EnvOk C A ⟨{ G.s with heap:=h',toks:=tk },G.F,G.r,G.fs⟩ env sc m:=by
 have nF:∀ a,G.F a→¬ fp a:=fun a h q=>(hfp a q).off.f h
 have old:∀ a o,R.h.get? a=some o→¬ fp a:=fun a o e q=>by rw [(hfp a q).dead] at e;cases e
 have VS:∀ {u v},VR C G u v→VR C ⟨{ G.s with heap:=h',toks:=tk },G.F,G.r,G.fs⟩ u v:=fun V=>VR.mono (G:=G) (G':=⟨{ G.s with heap:=h',toks:=tk },G.F,G.r,G.fs⟩) (fun _ h=>h) (fun b o hf e=>hk b o (nF b hf) e) (fun _ _ h=>h) V
 have nC:∀ x c,env.cells.lookup x=some c→¬ fp c:=fun x c e q=>(hfp c q).cel x e
 have cellK:∀ x c w,env.cells.lookup x=some c→G.h.IsCell c w→h'.IsCell c w:=fun x c w e ⟨o,e1,d⟩=>(Iea o (hk c o (nC x c e) e1) d)
 refine (Iaa ⟨fun a o e hx ht hf=>hk a o (old a o e) (S0.keep a o e hx ht hf),fun a o e hx hf=>?_,fun a o e=>?_,S0.fz,S0.new,S0.rr,S0.fs,S0.gens,S0.drawn,S0.os⟩ ⟨fun b o e=>⟨(IV.base b o e).1,hk b o (nF b (IV.base b o e).1) (IV.base b o e).2⟩,fun b hb=>?_,IV.len,fun i b oo h1 h2=>?_,IV.nd,IV.rtab,fun b hb=>⟨(IV.ftab b hb).1,?_⟩,fun q hq=>?_⟩ ⟨K.scE,K.kind,K.glob,K.bi,?_,fun x hx=>?_,K.off,?_,fun x c e=>let ⟨o,e'⟩:=K.live x c e;⟨o,hk c o (nC x c e) e'⟩,K.inf⟩)
 ·refine Ze (S0.keepF a o e hx hf) fun sl e1=>?_
  exact ⟨sl,hk a _ (old a o e) e1⟩
 ·refine Ze (S0.alive a o e) fun o1 e1=>?_
  exact ⟨o1,hk a _ (old a o e) e1⟩
 ·refine Za (IV.fz b hb) fun z27 r=>?_
  refine Ze z27 fun o e=>?_
  exact ⟨⟨o,hk b o (nF b hb) e⟩,r⟩
 ·exact TrO.mono (G:=G) (G':=⟨{ G.s with heap:=h',toks:=tk },G.F,G.r,G.fs⟩) (fun _ h=>h) (fun b o hf e=>hk b o (nF b hf) e) (fun _ _ h=>h) (fun o e=>hk b o (fun q=>(hfp b q).off.r (List.mem_of_getElem? h1)) e) (IV.trk i b oo h1 h2)
 ·refine Ze ((IV.ftab b hb).2) fun o e=>?_
  exact ⟨o,hk b o (fun q=>(hfp b q).off.s hb) e⟩
 ·refine Zeaa (IV.tab q hq) fun ps e t k=>?_
  refine (Ieaa ps (hk _ _ (fun z=>(hfp _ z).off.t (List.mem_map.mpr (Iea q hq rfl))) e) t (fun pos w hw=>(k pos w hw).mono (fun _ h=>h) fun b o hf e=>hk b o (nF b hf) e))
 ·refine Zea K.ns fun ml z26 k=>?_
  refine Zeeea z26 fun o es ep e r=>?_
  exact (Iea ml (Ieeea o es ep (hk _ _ (fun q=>(hfp _ q).loc rfl) e) r) (fun x v e1 e2=>let ⟨u,a,c⟩:=k x v e1 e2;(Iea u a (VS c))))
 ·refine Zeaaaa (K.cell x hx) fun c h1 z25 h3 h4 h5=>?_
  refine Ze z25 fun u0 h2=>?_
  exact (Ieaaaa c h1 ⟨u0,cellK x c _ h1 h2⟩ (fun v e1=>let ⟨u,h6,h7⟩:=h3 v e1;(Iea u (cellK x c _ h1 h6) (VS h7))) h4 h5)
 ·refine Zea K.stk fun l e k=>?_
  refine (Iea l e (fun en hen=>?_))
  refine Zaeeaaa (k en hen) fun k1 L o h1 h2 h3 h4=>?_
  exact (Iaeeaaa k1 L o h1 h2 (hk L o (fun q=>(hfp L q).off.s h2) h3) h4)
theorem iter_name {I ax:Addr} {l:List AV} {n:Str} {np:Pos} (hA:A.handled=none) (hn:sc.names.lookup n=some .local) (hn0:sc0.names.lookup n=some .local) (hY:∀ a,Xe env sc0 a→Y a∨R.h.get? a=none) :
  IterOk C A R Y env sc0 sc (.Name n np) (.ref I) (bindName1 n) (fun a=>a=I) (JSeq C R env I ax l) where
 nxt:=fun {x xs b m σ G} hb j IV K S0 {Q E} hQ=>by
  cases hb
  refine jseq_next hA j IV K S0 fun u G1 S1 s1 I1 K1 V1 j1 _=>?_
  refine wpAny_pure ?_
  refine wpAny_assign_Name (store_core I1 K1 (fun hc=>by rw [hn] at hc;cases hc) V1 (.inl hn) fun G2 s2 I2 K2=>?_)
  have x1:∀ a,X1 env sc n a→a=env.locals:=fun a ha=>by
   rcases ha with ha | ha
   ·exact ha.2
   ·rw [hn] at ha;cases ha.1
  refine Zeeaaa (id j1) fun _ _ _ _ pv1 _=>?_
  refine hQ G2 (S1.trans s2 fun a ha=>hY a (.inl (x1 a ha))) ((s1.weaken (Y:=fun a=>a=I∨Xe env sc0 a) fun a ha=>.inl (.inl ha)).trans s2 fun a ha=>.inl (.inr (.inl (x1 a ha)))) I2 K2 ?_
  exact jseq_keep j1 I1 s2 (fun a ha q=>pv1.loc (q▸x1 a ha)) fun a ha=>by rw [x1 a ha];exact K1.off.2.2
 fin:=fun {σ G} j IV {Q E} hQ=>jseq_fin hA j IV hQ
 keep:=fun {xs G G' σ X} j IV b h1 h2=>jseq_keep j IV b h1 h2
 pv:=fun {xs G p} j hp=>by refine Zeeaaa j fun _ _ _ _ pv _=>?_;rw [hp];exact pv
theorem assignEach_names:∀ {ns:List Str} {poss:List Pos} {env:Env},assignEach ((ns.zip poss).map fun p=>Expr.Name p.1 p.2) env=(ns.zip poss).map fun p=>(false,assign (.Name p.1 p.2) env)
 | [],_,_=>rfl
 | _::_,[],_=>rfl
 | n::ns,p::ps,env=>by
  refine (?_:(false,assign (.Name n p) env)::assignEach ((ns.zip ps).map fun p=>Expr.Name p.1 p.2) env=_)
  rw [assignEach_names];rfl
theorem tuple_ok {ns:List Str} {poss:List Pos} {k pos} {u:Value} {xs:List PyData} (hA:A.handled=none) (hn:∀ n∈ns,sc.names.lookup n=some .local∧sc0.names.lookup n=some .local) (hp:poss.length=ns.length) (hY:∀ a,Xe env sc0 a→Y a∨R.h.get? a=none)
  (IV:Inv C G σ) (K:EnvOk C A G env sc m) (S0:Step C Y R G) (V:VR C G u (.p (.tuple xs))) (hl:xs.length=ns.length) {Q:Unit→Shared→Prop} {E}
  (hQ:∀ G',Step C (fun a=>a=env.locals) G G'→Step C Y R G'→Inv C G' σ→EnvOk C A G' env sc ((ns.zip (xs.map .p)).reverse++m)→Q () G'.s) :
  W C A (assign (.Tuple ((ns.zip poss).map fun p=>Expr.Name p.1 p.2) k pos) env u) Q E G.s:=by
 apply RLeeeeaaaaaa4 V.tup_shape
 intro t ob vs n f e c d r cl
 have ht:G.h.IsTuple t vs:=(Ieaae ob e c n d)
 have hlen:vs.size=xs.length:=by have:=r.length;simpa using this
 refine wpAny_assign_Tuple hA ht (by rw [assignEach_names];simp [hp,hl,hlen]) (by rw [assignEach_names];simp [List.findIdx?_eq_none_iff]) fun h' hx=>?_
 have hk:∀ b o,G.h.get? b=some o→h'.get? b=some o:=fun b o eb=>hx b o (Nat.ne_of_lt (Heap.lt_size eb)) eb
 have s1:Step C G.tr G (G.grow h' G.s.toks fun _=>False):=grow_step hk fun _ h=>h.elim
 have I1:=grow_inv (P:=fun _=>False) (tk:=G.s.toks) IV hk fun _ h=>h.elim
 rw [assignEach_names]
 have e1:((ns.zip poss).map fun p=>(false,assign (.Name p.1 p.2) env)).map (·.2)=(ns.zip poss).map fun p=>assign (.Name p.1 p.2) env:=by simp [List.map_map,Function.comp_def]
 rw [e1]
 refine names_ok (G:=G.grow h' G.s.toks fun _=>False) hY (by simp [← hl,hlen]) hn hp (S0.trans (Y:=fun _=>False) (grow_step hk fun _ h=>h.elim) fun _ h=>h.elim) I1 (K.step IV s1) ((r.vrs cl).step IV s1 IV.hX) fun G2 s2 S2 I2 K2=>hQ G2 (Step.trans (Y:=fun a=>a=env.locals) (grow_step hk fun _ h=>h.elim) s2 fun _ h=>.inl h) S2 I2 K2
noncomputable def JLst (C:Cx) (R:St) (env:Env) (I ax:Addr) (l:List AV):List AV→St→Prop:=fun xs G=>JSeq C R env I ax l xs G∧∃ k,G.h.IsListIter I ax k
theorem iter_names {I ax:Addr} {l:List AV} {ns:List Str} {poss:List Pos} {k pos} (hA:A.handled=none) (hn:∀ n∈ns,sc.names.lookup n=some .local∧sc0.names.lookup n=some .local) (hp:poss.length=ns.length) (hY:∀ a,Xe env sc0 a→Y a∨R.h.get? a=none) (hYR:∀ a,a∈R.r→Y a) :
  IterOk C A R Y env sc0 sc (.Tuple ((ns.zip poss).map fun p=>Expr.Name p.1 p.2) k pos) (.ref I) (bindNames ns) (fun a=>a=I) (JLst C R env I ax l) where
 nxt:=fun {x xs b m σ G} hb j IV K S0 {Q E} hQ=>by
  refine Zae j fun j k0 hk0=>?_
  refine jseq_next hA j IV K S0 fun u G1 S1 s1 I1 K1 V1 j1 hit=>?_
  cases x with
  | p x=>
   cases x with
   | tuple ys=>
    simp only [bindNames] at hb
    split at hb
    ·rename_i hl
     cases hb
     refine Ze (hit ⟨k0,hk0⟩) fun k1 hk1=>?_
     refine Zeeeea (id V1.tup_shape) fun t ob vs n z23 _=>?_
     obtain rfl:=z23
     refine wpAny_letOwnedTupleGo_listiter hk1 ?_
     refine tuple_ok hA hn hp hY I1 K1 S1 V1 hl fun G2 s2 S2 I2 K2=>?_
     refine Zeeaaa (id j1) fun _ _ _ _ pv1 _=>?_
     refine hQ G2 S2 ((s1.weaken (Y:=fun a=>a=I∨Xe env sc0 a) fun a ha=>.inl (.inl ha)).trans s2 fun a ha=>.inl (.inr (.inl ha))) I2 K2 (Iae (jseq_keep j1 I1 s2 (fun a ha q=>pv1.loc (q▸ha)) fun a ha=>by rw [ha];exact K1.off.2.2) k1 ?_)
     exact hk1.at fun o e=>s2.keep I o e (fun q=>pv1.loc q) pv1.off.t pv1.off.s
    ·cases hb
   | _=>cases hb
  | _=>cases hb
 fin:=fun {σ G} j IV {Q E} hQ=>jseq_fin hA j.1 IV hQ
 keep:=fun {xs G G' σ X} j IV b h1 h2=>⟨jseq_keep j.1 IV b h1 h2,by
  refine Zae j fun j k hk=>?_
  refine Zeeaaa (id j) fun _ _ _ _ pv _=>?_
  exact ⟨k,hk.at fun o e=>b.keep I o e (fun q=>h1 I q rfl) pv.off.t pv.off.s⟩⟩
 pv:=fun {xs G p} j hp=>by refine Za j fun z22 _=>?_;refine Zeeaaa z22 fun _ _ _ _ pv _=>?_;rw [hp];exact pv
end
end
inductive LoopS (C:Cx) (D:Nat) (sc:Scope) (bt:AV→Option (Mp)) (body:List Stmt):List AV→Mp→Sto→Out→Prop
 | nil {m σ}:LoopS C D sc bt body [] m σ (.next m σ)
 | next {x xs b m σ m' σ' o}:bt x=some b→ExS C D sc (b++m) σ body (.next m' σ')→LoopS C D sc bt body xs m' σ' o→LoopS C D sc bt body (x::xs) m σ o
 | ret {x xs b m σ v σ'}:bt x=some b→ExS C D sc (b++m) σ body (.ret v σ')→LoopS C D sc bt body (x::xs) m σ (.ret v σ')
 | exc {x xs b m σ c σ'}:bt x=some b→ExS C D sc (b++m) σ body (.exc c σ')→LoopS C D sc bt body (x::xs) m σ (.exc c σ')
section
variable {C:Cx} {D n:Nat} {sc sc0 scope:Scope} {m m' mB mC:Mp} {σ σ' σ'' σ1 σ2 σ3:Sto} {v:AV} {o:Out} {A A2:Around} {G G' G'' R:St} {env:Env} {c e T:Addr} {X Y Z:Addr→Prop}
section
theorem cameBack_ok {L:Addr} (S0:Step C Y R G) (dT:R.h.get? T=none) (I:Inv C G σ) (hf:env.frame=some L) (X:Exc C G c (.held L) e T) (SK:StackOk A G) {E:Value→Shared→Prop}
  (hE:∀ G',Step C Y R G'→Inv C G' σ→StackOk A G'→Exc C G' c (.held L) e T→E (.ref e) G'.s):cameBackBy (model C.prog C.w) A env E (.ref e) G.s:=by
 obtain ⟨oe,ot,hne,ob,vs,a0,h1,h2,h3,h4,h5,oT,ts,h6,h7,h8⟩:=X
 unfold cameBackBy
 refine wpAny_bind (wpAny_field h1 h3 h5 ?_)
 rw [if_neg (by simp)]
 unfold setFlight
 refine wpAny_bind (wpAny_field h1 h3 h5 ?_)
 rw [if_pos (show (Value.ref T != Value.none)=true from by simp)]
 refine wpAny_setField h6 h7 (Array.getElem?_eq_some_iff.mp h8).1 ?_
 rw [hf]
 have hsz:3 < ts.size:=(Array.getElem?_eq_some_iff.mp h8).1
 have eT:=Heap.get?_update_self (Obj.mapFields (·.setIfInBounds 3 ((some L).elim Value.none fun f=>rawInt f))) h6 (Obj.isFreed_of_fields (Obj.data_mapFields h7 _))
 have other:∀ b,b≠T→(G.s.heap.update T (Obj.mapFields (·.setIfInBounds 3 ((some L).elim Value.none fun f=>rawInt f)))).get? b=G.s.heap.get? b:=fun b hb=>Heap.get?_update_other _ _ (Ne.symm hb)
 refine Za (side_ok (W:=[T]) I (G.s.heap.update T (Obj.mapFields (·.setIfInBounds 3 ((some L).elim Value.none fun f=>rawInt f)))) G.s.toks (fun b o hb eb=>(other b (by simpa using hb)).trans eb) fun b hb=>by rw [List.mem_singleton.mp hb];exact (Iae ot _ eT)) fun s1 I1=>?_
 refine hE _ (S0.trans s1 fun a ha=>.inr (by rw [List.mem_singleton.mp ha];exact dT)) I1 (SK.step s1 fun a ha q=>ot.s (by rw [← List.mem_singleton.mp q];exact ha)) ⟨⟨oe.f,oe.r,oe.t,oe.s⟩,⟨ot.f,ot.r,ot.t,ot.s⟩,hne,ob,vs,a0,(other e (Ne.symm hne)).trans h1,h2,h3,h4,h5,_,_,eT,Obj.data_mapFields h7 _,?_⟩
 simp [hsz]
theorem loop_ok {bt:AV→Option (Mp)} {body:List Stmt} {target:Expr} {it:Value} {fp:Addr→Prop} {J:List AV→St→Prop} {xs:List AV} (L0:LoopS C D sc bt body xs m σ o) (IT:IterOk C A R (Xs R env sc) env sc sc target it bt fp J)
  (j:J xs G) (S0:Step C (Xs R env sc) R G) (hA:AOk A D) (I:Inv C G σ) (K:EnvOk C A G env sc m) (O:OwnOk C G env sc) (TT:TopOk A env) {Q:Flow→Shared→Prop} {E:Value→Shared→Prop} (hP:Post C A R env sc o Q E) :
  codeAny (model C.prog C.w) A (.forLoop target it body [] env) (fun r s'=>match r with | .ok f=>Q f s' | .error e=>cameBackBy (model C.prog C.w) A env E e s') G.s:=by
 refine codeAny_forLoop_any (fun n s=>∃ (xs:List AV) (m:Mp) (σ:Sto) (G:St),n=xs.length∧s=G.s∧LoopS C D sc bt body xs m σ o∧J xs G∧Step C (Xs R env sc) R G∧Inv C G σ∧EnvOk C A G env sc m∧OwnOk C G env sc) ?_ xs.length ⟨xs,m,σ,G,rfl,rfl,L0,j,S0,I,K,O⟩
 rintro n s ⟨xs,m,σ,G,rfl,rfl,L0,j,S0,I,K,O⟩
 have hsub:∀ {G1:St},Step C (Xs R env sc) R G1→∀ a,Xs G1 env sc a→Xs R env sc a∨R.h.get? a=none:=fun S a h=>Xs.old S h
 have nfp:∀ {G1:St} {ys:List AV},J ys G1→∀ a,Xs G1 env sc a→¬ fp a:=fun j1 a h q=>by
  have pv:=IT.pv j1 q
  rcases h with h | h | ⟨x,_,h⟩
  ·exact pv.off.r h
  ·exact pv.loc h
  ·exact pv.cel x h
 induction L0 using LoopS.casesOn with
 | nil=>
  refine wpAny_mono (IT.fin (Q:=fun s₁=>Q .next s₁) j I fun h' tk hk=>?_) (fun r s₁ h=>?_) fun _ _ h=>h
  ·refine Zaa (side_ref (fp:=fp) (tk:=tk) S0 I K (fun b hb=>IT.pv j hb) hk) fun S1 I1 K1=>?_
   exact hP _ S1 I1 K1
  ·cases r with
   | none=>exact wpAny_execs_nil h
   | some v=>exact h.elim
 | @next x xs b m σ m1 σ1 o hb hS hL=>
  refine wpAny_mono (IT.nxt (Q:=fun s₃=>W C A (execs body env) (fun f s₃=>match f with
     | .next | .cont=>∃ m,m < (x::xs).length∧∃ (xs:List AV) (m0:Mp) (σ:Sto) (G:St),m=xs.length∧s₃=G.s∧LoopS C D sc bt body xs m0 σ o∧J xs G∧Step C (Xs R env sc) R G∧Inv C G σ∧EnvOk C A G env sc m0∧OwnOk C G env sc
     | .brk=>Q .next s₃
     | .ret v=>Q (.ret v) s₃) (notedBy (model C.prog C.w) A env fun e s'=>cameBackBy (model C.prog C.w) A env E e s') s₃) hb j I K S0 fun G1 S1 s1 I1 K1 j1=>?_) (fun r s₁ h=>?_) fun _ _ h=>h
  ·have O1:OwnOk C G1 env sc:=O.step K s1
   refine hS A G1 env hA I1 K1 O1 TT _ _ fun G2 s2 I2 K2=>?_
   exact ⟨xs.length,Nat.lt_succ_self _,xs,m1,σ1,G2,rfl,rfl,hL,IT.keep j1 I1 s2 (nfp j1) (Xs.nF I1 K1 O1),S1.trans s2 (hsub S1),I2,K2,O1.step K1 s2⟩
  ·cases r with
   | none=>exact h.elim
   | some v=>exact h
 | @ret x xs b m σ v σ1 hb hS=>
  refine wpAny_mono (IT.nxt (Q:=fun s₃=>W C A (execs body env) (fun f s₃=>match f with
     | .next | .cont=>∃ m,m < (x::xs).length∧∃ (xs:List AV) (m0:Mp) (σ:Sto) (G:St),m=xs.length∧s₃=G.s∧LoopS C D sc bt body xs m0 σ (.ret v σ1)∧J xs G∧Step C (Xs R env sc) R G∧Inv C G σ∧EnvOk C A G env sc m0∧OwnOk C G env sc
     | .brk=>Q .next s₃
     | .ret v=>Q (.ret v) s₃) (notedBy (model C.prog C.w) A env fun e s'=>cameBackBy (model C.prog C.w) A env E e s') s₃) hb j I K S0 fun G1 S1 s1 I1 K1 j1=>?_) (fun r s₁ h=>?_) fun _ _ h=>h
  ·refine hS A G1 env hA I1 K1 (O.step K s1) TT _ _ fun u G2 s2 I2 SK2 V2=>?_
   exact hP u G2 (S1.trans s2 (hsub S1)) I2 SK2 V2
  ·cases r with
   | none=>exact h.elim
   | some v=>exact h
 | @exc x xs b m σ c σ1 hb hS=>
  refine wpAny_mono (IT.nxt (Q:=fun s₃=>W C A (execs body env) (fun f s₃=>match f with
     | .next | .cont=>∃ m,m < (x::xs).length∧∃ (xs:List AV) (m0:Mp) (σ:Sto) (G:St),m=xs.length∧s₃=G.s∧LoopS C D sc bt body xs m0 σ (.exc c σ1)∧J xs G∧Step C (Xs R env sc) R G∧Inv C G σ∧EnvOk C A G env sc m0∧OwnOk C G env sc
     | .brk=>Q .next s₃
     | .ret v=>Q (.ret v) s₃) (notedBy (model C.prog C.w) A env fun e s'=>cameBackBy (model C.prog C.w) A env E e s') s₃) hb j I K S0 fun G1 S1 s1 I1 K1 j1=>?_) (fun r s₁ h=>?_) fun _ _ h=>h
  ·refine hS A G1 env hA I1 K1 (O.step K s1) TT _ _ fun st e T G2 s2 I2 SK2 de dT X hL=>?_
   refine Zeea TT fun l L ht1 ht2=>?_
   refine Zea SK2 fun l' h1 h2=>?_
   rw [ht1] at h1;cases h1
   refine (move_ok (L:=L) (S1.trans s2 (hsub S1)) (S1.dead de) (S1.dead dT) I2 ht1 ht2 h2 X hL).2 fun T' G3 S3 I3 hfs SK3 dT' X'=>?_
   refine cameBack_ok S3 dT' I3 ht2 X' SK3 fun G4 S4 I4 SK4 X4=>?_
   exact hP (.held L) e T' G4 S4 I4 SK4 (S1.dead de) dT' X4 fun L' h=>by cases h;exact ht2
  ·cases r with
   | none=>exact h.elim
   | some v=>exact h
end

section
noncomputable def St.priv (G:St) (o:Obj) (tk:Nat):St:=⟨{ G.s with heap:=G.h.push o,toks:=tk },G.F,G.r,G.fs⟩
theorem priv_ok (I:Inv C G σ) (o:Obj) (tk:Nat):Step C X G (G.priv o tk)∧Inv C (G.priv o tk) σ:=by
 refine Za (side_ok (W:=[]) I (G.h.push o) tk (fun b ob _ e=>Heap.get?_push_of_some _ e) (fun b hb=>nomatch hb)) fun s1 I1=>?_
 exact ⟨s1.weaken (fun a ha=>nomatch ha),I1⟩
theorem Xe.xs {a:Addr} (h:Xe env sc a):Xs G env sc a:=.inr h
end
end
mutual
noncomputable def bel (n:Nat):AV→Bool
 | .p _=>true
 | .val _=>true
 | .loc i=>decide (i < n)
 | .lst l=>belL n l
 | .dct l=>belD n l
 | .ins _ l=>belD n l
 | .clo _ l=>belD n l
noncomputable def belL (n:Nat):List AV→Bool
 | []=>true
 | x::l=>bel n x&&belL n l
noncomputable def belD (n:Nat):Mp→Bool
 | []=>true
 | x::l=>bel n x.2&&belD n l
end
noncomputable def belO (n:Nat):AO→Bool
 | .lst l=>belL n l
 | .dct l=>belD n l
 | .att l=>belD n l
 | .ins _ d=>decide (d < n)
 | .exc _ d=>match d with
  | none=>true
  | some k=>decide (k < n)
noncomputable def St.cut (G:St) (n:Nat):St:=⟨G.s,G.F,G.r.take n,G.fs⟩
section
variable {C:Cx} {D n:Nat} {sc sc0 scope:Scope} {m m' mB mC:Mp} {σ σ' σ'' σ1 σ2 σ3:Sto} {v:AV} {o:Out} {A A2:Around} {G G' G'' R:St} {env:Env} {c e T:Addr} {X Y Z:Addr→Prop}
section
variable {ex:Expr}
theorem belD_lookup {k:Str}:∀ {l:Mp},belD n l=true→l.lookup k=some v→bel n v=true
 | (y,x)::l,h,e=>by
  simp only [belD,Bool.and_eq_true] at h
  rw [List.lookup_cons] at e
  split at e
  ·cases e;exact h.1
  ·exact belD_lookup h.2 e
theorem bel_loc {i:Nat} (h:bel n (.loc i)=true):i < n:=of_decide_eq_true h
theorem cut_get {i:Nat} {a:Addr} (a1:G.r[i]?=some a) (h:bel n (.loc i)=true):(G.cut n).r[i]?=some a:=by
 show (G.r.take n)[_]?=_
 rw [List.getElem?_take,if_pos (bel_loc h)];exact a1
theorem VR.cut {u:Value} {v:AV} (H:VR C G u v):bel n v=true→VR C (G.cut n) u v:=
 VR.rec (G:=G) (motive_1:=fun u v _=>bel n v=true→VR C (G.cut n) u v) (motive_2:=fun u v _=>belL n v=true→VRs C (G.cut n) u v) (motive_3:=fun u v _=>belD n v=true→VRd C (G.cut n) u v) (motive_4:=fun u v _=>belD n v=true→VRc C (G.cut n) u v) (fun a b _=>.p a b) (fun a b c d _ i h=>.lst a b c d (i h)) (fun g a b c d e f _ f3 z i h=>.dct g a b c d e f (fun k x hx=>i k x hx (belD_lookup h hx)) f3 z) (fun a b c d _ i h=>.ins a b c d (i h)) (fun v _=>.val v) (fun a h=>.loc (cut_get a h)) (fun a b c _ e i h=>.clo a b c (i h) e) (fun _=>.nil) (fun _ _ i j h=>.cons (i (Bool.and_eq_true_iff.mp h).1) (j (Bool.and_eq_true_iff.mp h).2)) (fun _=>.nil) (fun a _ _ i j h=>.cons a (i (Bool.and_eq_true_iff.mp h).1) (j (Bool.and_eq_true_iff.mp h).2)) (fun _=>.nil) (fun a b c d _ _ i j h=>.cons a b c d (i (Bool.and_eq_true_iff.mp h).1) (j (Bool.and_eq_true_iff.mp h).2)) H
theorem VRs.cut {u:List Value} {v:List AV} (H:VRs C G u v):belL n v=true→VRs C (G.cut n) u v:=
 VRs.rec (G:=G) (motive_1:=fun u v _=>bel n v=true→VR C (G.cut n) u v) (motive_2:=fun u v _=>belL n v=true→VRs C (G.cut n) u v) (motive_3:=fun u v _=>belD n v=true→VRd C (G.cut n) u v) (motive_4:=fun u v _=>belD n v=true→VRc C (G.cut n) u v) (fun a b _=>.p a b) (fun a b c d _ i h=>.lst a b c d (i h)) (fun g a b c d e f _ f3 z i h=>.dct g a b c d e f (fun k x hx=>i k x hx (belD_lookup h hx)) f3 z) (fun a b c d _ i h=>.ins a b c d (i h)) (fun v _=>.val v) (fun a h=>.loc (cut_get a h)) (fun a b c _ e i h=>.clo a b c (i h) e) (fun _=>.nil) (fun _ _ i j h=>.cons (i (Bool.and_eq_true_iff.mp h).1) (j (Bool.and_eq_true_iff.mp h).2)) (fun _=>.nil) (fun a _ _ i j h=>.cons a (i (Bool.and_eq_true_iff.mp h).1) (j (Bool.and_eq_true_iff.mp h).2)) (fun _=>.nil) (fun a b c d _ _ i j h=>.cons a b c d (i (Bool.and_eq_true_iff.mp h).1) (j (Bool.and_eq_true_iff.mp h).2)) H
theorem VRd.cut {u:List DictEntry} {v:Mp} (H:VRd C G u v):belD n v=true→VRd C (G.cut n) u v:=
 VRd.rec (G:=G) (motive_1:=fun u v _=>bel n v=true→VR C (G.cut n) u v) (motive_2:=fun u v _=>belL n v=true→VRs C (G.cut n) u v) (motive_3:=fun u v _=>belD n v=true→VRd C (G.cut n) u v) (motive_4:=fun u v _=>belD n v=true→VRc C (G.cut n) u v) (fun a b _=>.p a b) (fun a b c d _ i h=>.lst a b c d (i h)) (fun g a b c d e f _ f3 z i h=>.dct g a b c d e f (fun k x hx=>i k x hx (belD_lookup h hx)) f3 z) (fun a b c d _ i h=>.ins a b c d (i h)) (fun v _=>.val v) (fun a h=>.loc (cut_get a h)) (fun a b c _ e i h=>.clo a b c (i h) e) (fun _=>.nil) (fun _ _ i j h=>.cons (i (Bool.and_eq_true_iff.mp h).1) (j (Bool.and_eq_true_iff.mp h).2)) (fun _=>.nil) (fun a _ _ i j h=>.cons a (i (Bool.and_eq_true_iff.mp h).1) (j (Bool.and_eq_true_iff.mp h).2)) (fun _=>.nil) (fun a b c d _ _ i j h=>.cons a b c d (i (Bool.and_eq_true_iff.mp h).1) (j (Bool.and_eq_true_iff.mp h).2)) H
theorem TrO.cut {a:Addr} {o:AO} (V:TrO C G a o) (h:belO n o=true):TrO C (G.cut n) a o:=by
 cases o with
 | lst l=>refine Zeeeaaa V fun o vs k h1 h2 h3 h4=>?_;exact (Ieeeaaa o vs k h1 h2 h3 (h4.cut h))
 | dct l=>refine Zeeeaaaeaaa V fun o es k h1 h2 h3 kvs h4 hz h5 h6=>?_;exact (Ieeeaaaeaaa o es k h1 h2 h3 kvs h4 hz ⟨fun k x hx=>let ⟨u,p,q⟩:=h5.1 k x hx;(Iea u p (q.cut (belD_lookup h hx))),h5.2⟩ h6)
 | att l=>refine Zeeaa V fun es k h1 h2 h3=>?_;exact (Ieeaa es k h1 (h2.cut h) h3)
 | ins c d=>
  refine Zeea V fun da sl h1 h2=>?_
  refine (Ieea da sl ?_ h2)
  refine (?_:(G.r.take n)[d]?=_)
  rw [List.getElem?_take,if_pos (of_decide_eq_true h)];exact h1
 | exc c d=>
  refine Zeeeaa V fun o vs a0 h1 h2 h3=>?_
  refine (Ieeeaa o vs a0 h1 h2 ?_)
  cases d with
  | none=>exact h3
  | some k=>
   refine Zea h3 fun da h4 h5=>?_
   refine (Iea da ?_ h5)
   refine (?_:(G.r.take n)[k]?=_)
   rw [List.getElem?_take,if_pos (of_decide_eq_true h)];exact h4
theorem cut_inv (I:Inv C G σ) (hb:∀ o∈σ.take n,belO n o=true):Inv C (G.cut n) (σ.take n) where
 base:=I.base
 fz a h:=let ⟨h1,h2,h3⟩:=I.fz a h;(Iaa h1 (fun q=>h2 (List.mem_of_mem_take q)) h3)
 len:=by refine (?_:(G.r.take n).length=_);rw [List.length_take,List.length_take,I.len]
 trk i a o h1 h2:=by
  have h1':(G.r.take n)[i]?=some a:=h1
  rw [List.getElem?_take] at h1'
  have h2':=h2
  rw [List.getElem?_take] at h2'
  split at h1'
  ·rename_i hi
   rw [if_pos hi] at h2'
   exact (I.trk i a o h1' h2').cut (hb o (List.mem_of_getElem? h2))
  ·cases h1'
 nd:=I.nd.sublist (List.take_sublist ..)
 rtab a h:=I.rtab a (List.mem_of_mem_take h)
 ftab:=I.ftab
 tab:=I.tab
theorem cut_step (S:Step C X G G') (hn:G.r.length≤n):Step C X G (G'.cut n) where
 keep:=S.keep
 keepF:=S.keepF
 alive:=S.alive
 fz:=S.fz
 new:=S.new
 rr:=by
  refine Zea S.rr fun r e k=>?_
  refine (Iea (r.take (n - G.r.length)) ?_ (fun a h=>k a (List.mem_of_mem_take h)))
  refine (?_:G'.r.take n=_)
  rw [e,List.take_append,List.take_of_length_le hn]
 fs:=S.fs
 gens:=S.gens
 drawn:=S.drawn
 os:=S.os
theorem EvT.cut {b:Bool} (h:EvT C D sc m σ ex b σ') (hn:σ.length≤n) (hb:∀ o∈σ'.take n,belO n o=true):EvT C D sc m σ ex b (σ'.take n):=fun A G env hA I K Q E hQ=>
 h A G env hA I K Q E fun G' st I'=>hQ (G'.cut n) (cut_step st (by rw [I.len];exact hn)) (cut_inv I' hb)
theorem EnvOk.cut (K:EnvOk C A G env sc m) (hb:belD n m=true):EnvOk C A (G.cut n) env sc m where
 scE:=K.scE
 kind:=K.kind
 glob:=K.glob
 bi:=K.bi
 ns:=let ⟨ml,hn,k⟩:=K.ns;(Iea ml hn (fun x v e1 e2=>let ⟨u,a,c⟩:=k x v e1 e2;(Iea u a (c.cut (belD_lookup hb e1)))))
 cell x hx:=let ⟨c,h1,h2,h3,h4,h5⟩:=K.cell x hx;(Ieaaaa c h1 h2 (fun v e1=>let ⟨u,a,d⟩:=h3 v e1;(Iea u a (d.cut (belD_lookup hb e1)))) (fun q=>h4 (List.mem_of_mem_take q)) h5)
 off:=⟨fun q=>K.off.1 (List.mem_of_mem_take q),K.off.2⟩
 stk:=K.stk
 live:=K.live
 inf:=K.inf
theorem EnvOk.weak (K:EnvOk C A G env sc m) (h:∀ x v,m'.lookup x=some v→m.lookup x=some v):EnvOk C A G env sc m' where
 scE:=K.scE
 kind:=K.kind
 glob:=K.glob
 bi:=K.bi
 ns:=let ⟨ml,hn,k⟩:=K.ns;(Iea ml hn (fun x v e1 e2=>k x v (h x v e1) e2))
 cell x hx:=let ⟨c,h1,h2,h3,h4⟩:=K.cell x hx;(Ieaaa c h1 h2 (fun v e1=>h3 v (h x v e1)) h4)
 off:=K.off
 stk:=K.stk
 live:=K.live
 inf hn c q e:=K.inf hn c q (h _ _ e)
noncomputable def Out.cut (n:Nat):Out→Out
 | .next m σ=>.next m (σ.take n)
 | .ret v σ=>.ret v (σ.take n)
 | .exc c σ=>.exc c (σ.take n)
noncomputable def Out.okCut (n:Nat):Out→Prop
 | .next m σ=>belD n m=true∧∀ o∈σ.take n,belO n o=true
 | .ret v σ=>bel n v=true∧∀ o∈σ.take n,belO n o=true
 | .exc c σ=>∀ o∈σ.take n,belO n o=true
theorem Exc.cut {st:ExcSt} (X:Exc C G c st e T):Exc C (G.cut n) c st e T:=⟨⟨X.oe.f,fun q=>X.oe.r (List.mem_of_mem_take q),X.oe.t,X.oe.s⟩,⟨X.oT.f,fun q=>X.oT.r (List.mem_of_mem_take q),X.oT.t,X.oT.s⟩,X.ne,X.at_⟩
theorem ExS.cut {ss:List Stmt} (h:ExS C D sc m σ ss o) (hn:σ.length≤n) (ho:o.okCut n):ExS C D sc m σ ss (o.cut n):=fun A G env hA I K O TT Q E hQ=>
 h A G env hA I K O TT Q E (by
  have hl:G.r.length≤n:=by rw [I.len];exact hn
  cases o with
  | next m1 σ1=>exact fun G' st I' K'=>hQ (G'.cut n) (cut_step st hl) (cut_inv I' ho.2) (K'.cut ho.1)
  | ret v1 σ1=>exact fun u G' st I' SK V=>hQ u (G'.cut n) (cut_step st hl) (cut_inv I' ho.2) SK (V.cut ho.1)
  | exc c σ1=>exact fun st e T G' s I' SK de dT X hL=>hQ st e T (G'.cut n) (cut_step s hl) (cut_inv I' ho) SK de dT X.cut hL)
theorem ExS.nextWeak {ss:List Stmt} (h:ExS C D sc m σ ss (.next m' σ')) (hm:∀ x v,mB.lookup x=some v→m'.lookup x=some v):ExS C D sc m σ ss (.next mB σ'):=fun A G env hA I K O TT Q E hQ=>h A G env hA I K O TT Q E fun G' st I' K'=>hQ G' st I' (K'.weak hm)
end
end
inductive TestsS (C:Cx) (D:Nat) (sc:Scope) (m:Mp):Sto→List Expr→Bool→Sto→Prop
 | nil {σ}:TestsS C D sc m σ [] true σ
 | one {σ e b σ'}:EvT C D sc m σ e b σ'→TestsS C D sc m σ [e] b σ'
inductive CompS (C:Cx) (D:Nat) (sc:Scope) (bt:AV→Option (Mp)) (ifs:List Expr) (elt:Expr) (m:Mp):List AV→Sto→List AV→Sto→Prop
 | nil {σ}:CompS C D sc bt ifs elt m [] σ [] σ
 | keep {x xs b σ σ1 v σ2 vs σ'}:bt x=some b→TestsS C D sc (b++m) σ ifs true σ1→EvE C D sc (b++m) σ1 elt v σ2→CompS C D sc bt ifs elt m xs σ2 vs σ'→CompS C D sc bt ifs elt m (x::xs) σ (v::vs) σ'
 | skip {x xs b σ σ1 vs σ'}:bt x=some b→TestsS C D sc (b++m) σ ifs false σ1→CompS C D sc bt ifs elt m xs σ1 vs σ'→CompS C D sc bt ifs elt m (x::xs) σ vs σ'
section
variable {C:Cx} {D n:Nat} {sc sc0 scope:Scope} {m m' mB mC:Mp} {σ σ' σ'' σ1 σ2 σ3:Sto} {v:AV} {o:Out} {A A2:Around} {G G' G'' R:St} {env:Env} {c e T:Addr} {X Y Z:Addr→Prop}
section
noncomputable def compDo (elt target iter:Expr) (gens:List Comprehension) (k:Nat) (ifs:List Expr) (scope:Scope) (pos:Pos) (it acc:Value) (env:Env):Sem Fin:=
 (do
   standAt iter.pos
   match ← pyNext it with
   | none=>pure (.done .next)
   | some v=>
    letOwnedTupleGo target it v
    assign target env v
    let mut ok:=true
    for c in ifs do
     if ok then ok ← isTrue c env (eval c env)
    if ok then
     (do let _ ← call (.builtin "list.append") [acc,← eval elt env])
    again (.compLoop (.ListComp elt gens scope pos) k it acc env))
theorem comp_turns {prog:Program} {w:World} {A:Around} {R:Result→Shared→Prop} {s:Shared} {elt target iter:Expr} {gens:List Comprehension} {k:Nat} {ifs:List Expr} {scope:Scope} {pos:Pos} {it acc:Value} {env:Env} (hT:compTurn (.ListComp elt gens scope pos) k it acc env=compDo elt target iter gens k ifs scope pos it acc env) (I:Nat→Shared→Prop)
  (turn:∀ n s,I n s→wpAny (model prog w) A (pyNext it) (fun r s₁=>match r with
   | none=>R (.ok .next) s₁
   | some v=>wpAny (model prog w) A (letOwnedTupleGo target it v) (fun _ s₁'=>wpAny (model prog w) A (assign target env v) (fun _ s₂=>
     wpAny (model prog w) A (forIn ifs true fun c r=>if r=true then do let ok ← isTrue c env (eval c env);pure (ForInStep.yield ok) else pure (ForInStep.yield r)) (fun ok s₃=>
      if ok=true then wpAny (model prog w) A (eval elt env) (fun x s₄=>
       wpAny (model prog w) A (call (.builtin "list.append") [acc,x]) (fun _ s₅=>∃ m,m < n∧I m s₅) (notedBy (model prog w) A env fun e s'=>R (.error e) s') s₄) (notedBy (model prog w) A env fun e s'=>R (.error e) s') s₃
      else ∃ m,m < n∧I m s₃) (notedBy (model prog w) A env fun e s'=>R (.error e) s') s₂) (notedBy (model prog w) A env fun e s'=>R (.error e) s') s₁') (notedBy (model prog w) A env fun e s'=>R (.error e) s') s₁) (notedBy (model prog w) A env fun e s'=>R (.error e) s') s)
  (n:Nat) (h:I n s) :
  codeAny (model prog w) A (.compLoop (.ListComp elt gens scope pos) k it acc env) R s:=by
 refine codeAny_loop rfl I (fun n s hI=>?_) n h
 refine (?_:wpAny _ A ((compTurn (.ListComp elt gens scope pos) k it acc env).onRaise (fun x=>do noteFrame x env;theTreesLotGoes x)) _ _ s)
 refine wpAny_noted ?_
 rw [hT]
 refine wpAny_bind (wpAny_standAt (wpAny_bind (wpAny_mono (turn n s hI) (fun r s₁ h₁=>?_) fun _ _ h'=>h')))
 cases r with
 | none=>exact wpAny_pure h₁
 | some v=>
  refine wpAny_bind (wpAny_mono h₁ (fun _ s₁' h₁'=>?_) fun _ _ h'=>h')
  refine wpAny_bind (wpAny_mono h₁' (fun _ s₂ h₂=>wpAny_bind (wpAny_mono h₂ (fun ok s₃ h₃=>?_) fun _ _ h'=>h')) fun _ _ h'=>h')
  cases ok with
  | false=>exact wpAny_pure ⟨rfl,h₃⟩
  | true=>
   exact wpAny_bind (wpAny_bind (wpAny_mono h₃ (fun x s₄ h₄=>wpAny_bind (wpAny_mono h₄ (fun _ s₅ h₅=>wpAny_pure (wpAny_pure ⟨rfl,h₅⟩)) fun _ _ h'=>h')) fun _ _ h'=>h'))
theorem tests_ok {ifs:List Expr} {b:Bool} (h:TestsS C D sc m σ ifs b σ') (hA:AOk A D) (I:Inv C G σ) (K:EnvOk C A G env sc m) {Q:Bool→Shared→Prop} {E}
  (hQ:∀ G',Step C G.tr G G'→Inv C G' σ'→Q b G'.s):W C A (forIn ifs true fun c r=>if r=true then do let ok ← isTrue c env (eval c env);pure (ForInStep.yield ok) else pure (ForInStep.yield r)) Q E G.s:=by
 cases h with
 | nil=>exact wpAny_tests_nil (hQ G .refl I)
 | one h=>exact wpAny_tests_one (h A G env hA I K Q E hQ)
structure Acc (C:Cx) (R G:St) (env:Env) (Dl:Addr) (vs:List AV):Prop where
 pv:Pv C R G env Dl
 lst:∃ ys,PlainL G.h Dl ys∧VRs C G ys.toList vs
theorem Acc.step {Dl:Addr} {vs:List AV} (a:Acc C R G env Dl vs) (I:Inv C G σ) (b:Step C X G G') (h1:¬ X Dl) (h2:∀ a,X a→¬ G.F a):Acc C R G' env Dl vs:=by
 refine Zea a.lst fun ys z73 VS=>?_
 refine Zeea z73 fun o n e r=>?_
 exact ⟨a.pv.step b,ys,(Ieea o n (b.keep Dl o e h1 a.pv.off.t a.pv.off.s) r),VS.step I b h2⟩
theorem Pv.nXe (h:Pv C R G env e):¬ Xe env sc0 e:=fun q=>by
 rcases q with q | ⟨x,_,q⟩
 ·exact h.loc q
 ·exact h.cel x q
theorem OwnOk.stepL (h:OwnOk C G env sc0) (K:EnvOk C A G env sc m) (b:Step C X G G'):OwnOk C G' env sc0 where
 own x c e1 e2:=by
  refine Zaaa (h.own x c e1 e2) fun h1 hf h2 h3=>?_
  refine (Iaaa (fun q=>(b.new _ q).elim h1 fun z=>?_) (b.fs▸hf) h2 h3)
  refine Ze (K.live x c e2) fun o e=>?_
  rw [z] at e;cases e
theorem Xe.nF (K:EnvOk C A G env sc m) (O:OwnOk C G env sc0):∀ a,Xe env sc0 a→¬ G.F a:=fun a h=>by
 rcases h with rfl | ⟨x,h1,h2⟩
 ·exact K.off.2.2
 ·exact (O.own x a h1 h2).1
theorem VRs.snoc {us:List Value} {vs:List AV} {u:Value} (h:VRs C G us vs) (V:VR C G u v):VRs C G (us++[u]) (vs++[v]):=h.append (.cons V .nil)
noncomputable def CompBody (C:Cx) (A:Around) (env:Env) (ifs:List Expr) (elt:Expr) (acc:Value) (RR:Result→Shared→Prop) (KK:Shared→Prop) (s₂:Shared):Prop:=
 wpAny (model C.prog C.w) A (forIn ifs true fun c r=>if r=true then do let ok ← isTrue c env (eval c env);pure (ForInStep.yield ok) else pure (ForInStep.yield r)) (fun ok s₃=>
  if ok=true then wpAny (model C.prog C.w) A (eval elt env) (fun x s₄=>
   wpAny (model C.prog C.w) A (call (.builtin "list.append") [acc,x]) (fun _ s₅=>KK s₅) (notedBy (model C.prog C.w) A env fun e s'=>RR (.error e) s') s₄) (notedBy (model C.prog C.w) A env fun e s'=>RR (.error e) s') s₃
  else KK s₃) (notedBy (model C.prog C.w) A env fun e s'=>RR (.error e) s') s₂
noncomputable def CompInv (C:Cx) (D:Nat) (A:Around) (R:St) (env:Env) (sc0 sc:Scope) (bt:AV→Option (Mp)) (ifs:List Expr) (elt:Expr) (mC:Mp) (fp:Addr→Prop) (J:List AV→St→Prop) (J0:St→Prop) (Dl:Addr) (σ':Sto) (Q:Result→Shared→Prop) (n:Nat) (s:Shared):Prop:=
 ∃ (xs vs0 tot1:List AV) (σ:Sto) (G:St),n=xs.length∧s=G.s∧CompS C D sc bt ifs elt mC xs σ tot1 σ'∧J xs G∧J0 G∧Step C R.tr R G∧Inv C G σ∧EnvOk C A G env sc mC∧OwnOk C G env sc0∧Acc C R G env Dl vs0∧vs0.length+tot1.length≤sizeLine ∧
  (∀ G1 h' tk,Step C R.tr R G1→Inv C G1 σ'→EnvOk C A G1 env sc mC→Acc C R G1 env Dl (vs0++tot1)→J [] G1→J0 G1→OwnOk C G1 env sc0→(∀ b o,¬ fp b→G1.h.get? b=some o→h'.get? b=some o)→Q (.ok .next) { G1.s with heap:=h',toks:=tk })
theorem comp_loopG {bt:AV→Option (Mp)} {ifs:List Expr} {elt target iter:Expr} {gens:List Comprehension} {k:Nat} {fp0:Addr→Prop} {J0:St→Prop} {scope:Scope} {pos:Pos} {it:Value} {fp:Addr→Prop} {J:List AV→St→Prop} {Dl:Addr} {xs vs0 tot:List AV}
  (hT:∀ acc,compTurn (.ListComp elt gens scope pos) k it acc env=compDo elt target iter gens k ifs scope pos it acc env) (hCS:CompS C D sc bt ifs elt mC xs σ tot σ') (IT:IterOk C A R R.tr env sc0 sc target it bt fp J) (hbt:∀ x b,bt x=some b→∀ y v,mC.lookup y=some v→(b++mC).lookup y=some v)
  (O:OwnOk C G env sc0) (j0:J0 G) (keep0:∀ {G G1 σ} {X:Addr→Prop},J0 G→Inv C G σ→Step C X G G1→(∀ a,X a→¬ fp0 a)→(∀ a,X a→¬ G.F a)→J0 G1) (pv0:∀ {G p},J0 G→fp0 p→Pv C R G env p) (dis:∀ p,fp p→¬ fp0 p) (hD0:¬ fp0 Dl)
  (hD:¬ fp Dl) (j:J xs G) (S0:Step C R.tr R G) (hA:AOk A D) (I:Inv C G σ) (K:EnvOk C A G env sc mC) (AC:Acc C R G env Dl vs0) (hz:vs0.length+tot.length≤sizeLine) {Q:Result→Shared→Prop}
  (hQ:∀ G1 h' tk,Step C R.tr R G1→Inv C G1 σ'→EnvOk C A G1 env sc mC→Acc C R G1 env Dl (vs0++tot)→J [] G1→J0 G1→OwnOk C G1 env sc0→(∀ b o,¬ fp b→G1.h.get? b=some o→h'.get? b=some o)→Q (.ok .next) { G1.s with heap:=h',toks:=tk }) :
  codeAny (model C.prog C.w) A (.compLoop (.ListComp elt gens scope pos) k it (.ref Dl) env) Q G.s:=by
 refine comp_turns (hT _) (CompInv C D A R env sc0 sc bt ifs elt mC fp J J0 Dl σ' Q) ?_ xs.length ⟨xs,vs0,tot,σ,G,rfl,rfl,hCS,j,j0,S0,I,K,O,AC,hz,hQ⟩
 rintro n s ⟨xs,vs0,tot,σ,G,rfl,rfl,hCS,j,j0,S0,I,K,O,AC,hz,hQ⟩
 have nfp:∀ {G1:St} {ys:List AV},J ys G1→∀ a,G1.tr a→¬ fp a:=fun j1 a h q=>(IT.pv j1 q).off.r h
 have after:∀ {G1:St} {b:Mp} {ys:List AV},Step C (fun a=>fp a∨Xe env sc0 a) G G1→Acc C R G1 env Dl vs0:=fun s1=>
  AC.step I s1 (fun q=>q.elim hD AC.pv.nXe) fun a ha=>ha.elim (fun q=>(IT.pv j q).off.f) fun q=>Xe.nF K O a q
 induction hCS using CompS.casesOn with
 | nil=>
  refine wpAny_mono (IT.fin (Q:=fun s₁=>Q (.ok .next) s₁) j I fun h' tk hk=>?_) (fun r s₁ h=>?_) fun _ _ h=>h
  ·exact hQ G h' tk S0 I K (by simpa using AC) j j0 O hk
  ·cases r with
   | none=>exact h
   | some v=>exact h.elim
 | @keep x xs b σ σ1 v σ2 vs σ' hb hT hE hL=>
  refine wpAny_mono (IT.nxt (Q:=CompBody C A env ifs elt (.ref Dl) Q fun s₅=>∃ m,m < (x::xs).length∧CompInv C D A R env sc0 sc bt ifs elt mC fp J J0 Dl σ' Q m s₅) hb j I K S0 fun G1 S1 s1 I1 K1 j1=>?_) (fun r s₁ h=>?_) fun _ _ h=>h
  rotate_left
  ·cases r with
   | none=>exact h.elim
   | some v=>exact h
  have AC1:=after (b:=b) (ys:=xs) s1
  have O1:=O.stepL K s1
  have j01:=keep0 j0 I s1 (fun a ha q=>ha.elim (fun h=>dis a h q) fun h=>(pv0 j0 q).nXe h) (fun a ha=>ha.elim (fun q=>(IT.pv j q).off.f) fun q=>Xe.nF K O a q)
  refine tests_ok hT hA I1 K1 fun G2 s2 I2=>?_
  rw [if_pos rfl]
  have K2:=K1.step I1 s2
  have AC2:=AC1.step I1 s2 (fun q=>AC1.pv.off.r q) I1.hX
  have j2:=IT.keep j1 I1 s2 (nfp j1) I1.hX
  have j02:=keep0 j01 I1 s2 (fun a h q=>(pv0 j01 q).off.r h) I1.hX
  refine hE A G2 env hA I2 K2 _ _ fun u G3 s3 I3 V3=>?_
  have K3:=K2.step I2 s3
  have AC3:=AC2.step I2 s3 (fun q=>AC2.pv.off.r q) I2.hX
  have j3:=IT.keep j2 I2 s3 (nfp j2) I2.hX
  have j03:=keep0 j02 I2 s3 (fun a h q=>(pv0 j02 q).off.r h) I2.hX
  have S3:=(S1.trans s2 fun a h=>S1.rold h).trans s3 fun a h=>(S1.trans s2 fun a h=>S1.rold h).rold h
  refine Zea AC3.lst fun ys hl VS=>?_
  have hlen:=VS.length
  simp only [Array.length_toList] at hlen
  simp only [List.length_cons] at hz
  refine list_append_plainL hl (fun h' hl' hs'=>?_) (by walk_at "o")
  refine Za (side_ok (W:=[Dl]) I3 h' G3.s.toks (fun b o hb e=>hs'.extBut b o (by simpa using hb) e) fun b hb=>by
   rw [List.mem_singleton.mp hb]
   refine Zeea hl' fun o _ e _=>?_
   exact (Iae AC3.pv.off o e)) fun s4 I4=>?_
  have x4:∀ a,a∈[Dl]→a=Dl:=fun a h=>List.mem_singleton.mp h
  have nF4:∀ a,a∈[Dl]→¬ G3.F a:=fun a h=>by rw [x4 a h];exact AC3.pv.off.f
  have K4:=K3.stepX I3 s4 nF4 (fun q=>AC3.pv.loc (x4 _ q).symm) (fun y c hc q=>AC3.pv.cel y (by rw [← x4 _ q];exact hc)) fun a ha q=>AC3.pv.off.s (by rw [← x4 _ q];exact ha)
  refine (Ieaeeeeeaaaaaaaaaaa xs.length (Nat.lt_succ_self _) xs (vs0++[v]) vs σ2 _ rfl rfl hL (IT.keep j3 I3 s4 (fun a h q=>hD (by rw [← x4 a h];exact q)) nF4) (keep0 j03 I3 s4 (fun a h q=>hD0 (by rw [← x4 a h];exact q)) nF4) (S3.trans s4 fun a h=>.inr (by rw [x4 a h];exact AC3.pv.dead)) I4 (K4.weak (hbt x b hb)) (((O1.stepL K1 s2).stepL K2 s3).stepL K3 s4) ?_ (by simp;omega) ?_)
  ·refine ⟨AC3.pv.step s4,ys.push u,hl',?_⟩
   rw [Array.toList_push]
   exact (VS.snoc V3).step I3 s4 nF4
  ·intro Gx hx tkx q1 q2 q3 q4 q5 q6 q7 q8
   exact hQ Gx hx tkx q1 q2 q3 (by simpa using q4) q5 q6 q7 q8
 | @skip x xs b σ σ1 tot σ' hb hT hL=>
  refine wpAny_mono (IT.nxt (Q:=CompBody C A env ifs elt (.ref Dl) Q fun s₅=>∃ m,m < (x::xs).length∧CompInv C D A R env sc0 sc bt ifs elt mC fp J J0 Dl σ' Q m s₅) hb j I K S0 fun G1 S1 s1 I1 K1 j1=>?_) (fun r s₁ h=>?_) fun _ _ h=>h
  rotate_left
  ·cases r with
   | none=>exact h.elim
   | some v=>exact h
  have AC1:=after (b:=b) (ys:=xs) s1
  have O1:=O.stepL K s1
  have j01:=keep0 j0 I s1 (fun a ha q=>ha.elim (fun h=>dis a h q) fun h=>(pv0 j0 q).nXe h) (fun a ha=>ha.elim (fun q=>(IT.pv j q).off.f) fun q=>Xe.nF K O a q)
  refine tests_ok hT hA I1 K1 fun G2 s2 I2=>?_
  rw [if_neg (by decide)]
  exact (Ieaeeeeeaaaaaaaaaaa xs.length (Nat.lt_succ_self _) xs vs0 tot σ1 G2 rfl rfl hL (IT.keep j1 I1 s2 (nfp j1) I1.hX) (keep0 j01 I1 s2 (fun a h q=>(pv0 j01 q).off.r h) I1.hX) (S1.trans s2 (fun a h=>S1.rold h)) I2 ((K1.step I1 s2).weak (hbt x b hb)) (O1.stepL K1 s2) (AC1.step I1 s2 (fun q=>AC1.pv.off.r q) I1.hX) hz hQ)
theorem comp_loop {bt:AV→Option (Mp)} {ifs:List Expr} {elt target iter:Expr} {scope:Scope} {pos:Pos} {it:Value} {fp:Addr→Prop} {J:List AV→St→Prop} {Dl:Addr} {xs vs0 tot:List AV}
  (hCS:CompS C D sc bt ifs elt mC xs σ tot σ') (IT:IterOk C A R R.tr env sc0 sc target it bt fp J) (hbt:∀ x b,bt x=some b→∀ y v,mC.lookup y=some v→(b++mC).lookup y=some v)
  (O:OwnOk C G env sc0)
  (hD:¬ fp Dl) (j:J xs G) (S0:Step C R.tr R G) (hA:AOk A D) (I:Inv C G σ) (K:EnvOk C A G env sc mC) (AC:Acc C R G env Dl vs0) (hz:vs0.length+tot.length≤sizeLine) {Q:Result→Shared→Prop}
  (hQ:∀ G1 h' tk,Step C R.tr R G1→Inv C G1 σ'→EnvOk C A G1 env sc mC→Acc C R G1 env Dl (vs0++tot)→J [] G1→(∀ b o,¬ fp b→G1.h.get? b=some o→h'.get? b=some o)→Q (.ok .next) { G1.s with heap:=h',toks:=tk }) :
  codeAny (model C.prog C.w) A (.compLoop (.ListComp elt [⟨target,iter,ifs,0⟩] scope pos) 0 it (.ref Dl) env) Q G.s:=
 comp_loopG (fp0:=fun _=>False) (J0:=fun _=>True) (fun _=>compTurn_list ..) hCS IT hbt O trivial (fun _ _ _ _ _=>trivial) (fun _ h=>h.elim) (fun _ _ h=>h) (fun h=>h) hD j S0 hA I K AC hz (fun G1 h' tk a b c d e _ _ f=>hQ G1 h' tk a b c d e f)
end

noncomputable def St.fz1 (G:St) (a:Addr):St:=⟨G.s,fun x=>G.F x∨x=a,G.r,G.fs⟩
noncomputable def St.at (G:St) (h:Heap) (tk:Nat):St:=⟨{ G.s with heap:=h,toks:=tk },G.F,G.r,G.fs⟩
noncomputable def relabelS (scope sc:Scope):Scope:=
 { scope with names:=scope.names.map fun (n,k)=>if (k == .free&&sc.kind == .function&&sc.names.lookup n == some .cell) then (n,.cell) else (n,k) }
noncomputable def mKeep (scope:Scope) (x:Str):Bool:=scope.names.lookup x == some .free||(x == "<env>"&&(scope.names.lookup x).isNone)
theorem mKeep_of {scope:Scope} {x:Str} (h:mKeep scope x=true):scope.names.lookup x=some .free∨scope.names.lookup x=none:=by
 simp only [mKeep,Bool.or_eq_true,beq_iff_eq,Bool.and_eq_true,Option.isNone_iff_eq_none] at h
 exact h.imp id (·.2)
noncomputable def mCof (scope:Scope) (m:Mp):Mp:=m.filter fun p=>mKeep scope p.1
section
theorem side_ref0 {fp:Addr→Prop} (S0:Step C Y R G) (IV:Inv C G σ) (hfp:∀ b,fp b→Off C G b∧R.h.get? b=none) {h':Heap} {tk:Nat} (hk:∀ b o,¬ fp b→G.h.get? b=some o→h'.get? b=some o) :
  Step C Y R (G.at h' tk)∧Inv C (G.at h' tk) σ:=by
 have nF:∀ a,G.F a→¬ fp a:=fun a h q=>(hfp a q).1.f h
 have old:∀ a o,R.h.get? a=some o→¬ fp a:=fun a o e q=>by rw [(hfp a q).2] at e;cases e
 refine ⟨⟨fun a o e hx ht hf=>hk a o (old a o e) (S0.keep a o e hx ht hf),fun a o e hx hf=>?_,fun a o e=>?_,S0.fz,S0.new,S0.rr,S0.fs,S0.gens,S0.drawn,S0.os⟩,⟨fun b o e=>⟨(IV.base b o e).1,hk b o (nF b (IV.base b o e).1) (IV.base b o e).2⟩,fun b hb=>?_,IV.len,fun i b oo h1 h2=>?_,IV.nd,IV.rtab,fun b hb=>⟨(IV.ftab b hb).1,?_⟩,fun q hq=>?_⟩⟩
 ·refine Ze (S0.keepF a o e hx hf) fun sl e1=>?_
  exact ⟨sl,hk a _ (old a o e) e1⟩
 ·refine Ze (S0.alive a o e) fun o1 e1=>?_
  exact ⟨o1,hk a _ (old a o e) e1⟩
 ·refine Za (IV.fz b hb) fun z89 r=>?_
  refine Ze z89 fun o e=>?_
  exact ⟨⟨o,hk b o (nF b hb) e⟩,r⟩
 ·exact TrO.mono (G:=G) (G':=G.at h' tk) (fun _ h=>h) (fun b o hf e=>hk b o (nF b hf) e) (fun _ _ h=>h) (fun o e=>hk b o (fun q=>(hfp b q).1.r (List.mem_of_getElem? h1)) e) (IV.trk i b oo h1 h2)
 ·refine Ze ((IV.ftab b hb).2) fun o e=>?_
  exact ⟨o,hk b o (fun q=>(hfp b q).1.s hb) e⟩
 ·refine Zeaa (IV.tab q hq) fun ps e t k=>?_
  refine (Ieaa ps (hk _ _ (fun z=>(hfp _ z).1.t (List.mem_map.mpr (Iea q hq rfl))) e) t (fun pos w hw=>(k pos w hw).mono (fun _ h=>h) fun b o hf e=>hk b o (nF b hf) e))
theorem VRs.at {fp:Addr→Prop} {u:List Value} {vs:List AV} (V:VRs C G u vs) (hfp:∀ b,fp b→¬ G.F b) {h':Heap} {tk:Nat} (hk:∀ b o,¬ fp b→G.h.get? b=some o→h'.get? b=some o):VRs C (G.at h' tk) u vs:=
 VRs.mono (G:=G) (G':=G.at h' tk) (fun _ h=>h) (fun b o hf e=>hk b o (fun q=>hfp b q hf) e) (fun _ _ h=>h) V
theorem freeze1 {a:Addr} (S0:Step C Y R G) (I:Inv C G σ) (off:Off C G a) (dead:R.h.get? a=none) (al:∃ o,G.h.get? a=some o):Step C Y R (G.fz1 a)∧Inv C (G.fz1 a) σ:=by
 refine ⟨⟨S0.keep,S0.keepF,S0.alive,fun b h=>.inl (S0.fz b h),fun b h=>?_,S0.rr,S0.fs,S0.gens,S0.drawn,S0.os⟩,⟨fun b o e=>⟨.inl (I.base b o e).1,(I.base b o e).2⟩,fun b h=>?_,I.len,fun i b oo h1 h2=>?_,I.nd,I.rtab,I.ftab,fun q hq=>?_⟩⟩
 ·rcases h with h | h
  ·exact S0.new b h
  ·exact .inr (h▸dead)
 ·rcases h with h | h
  ·exact I.fz b h
  ·rw [h];exact (Iaaa al off.r off.t off.s)
 ·exact TrO.mono (G:=G) (G':=G.fz1 a) (fun _ h=>.inl h) (fun _ _ _ e=>e) (fun _ _ h=>h) (fun _ e=>e) (I.trk i b oo h1 h2)
 ·refine Zeaa (I.tab q hq) fun ps e t k=>?_
  exact (Ieaa ps e t (fun pos w hw=>(k pos w hw).mono (fun _ h=>.inl h) fun _ _ _ e=>e))
theorem VRs.fz1 {a:Addr} {u:List Value} {vs:List AV} (V:VRs C G u vs):VRs C (G.fz1 a) u vs:=VRs.mono (G:=G) (G':=G.fz1 a) (fun _ h=>.inl h) (fun _ _ _ e=>e) (fun _ _ h=>h) V
theorem EnvOk.fz1 {a:Addr} (K:EnvOk C A G env sc m) (h:a≠env.locals):EnvOk C A (G.fz1 a) env sc m where
 scE:=K.scE
 kind:=K.kind
 glob:=K.glob
 bi:=K.bi
 ns:=let ⟨ml,hn,k⟩:=K.ns;(Iea ml hn (fun x v e1 e2=>let ⟨u,a,c⟩:=k x v e1 e2;(Iea u a (VR.mono (G:=G) (G':=G.fz1 _) (fun _ h=>.inl h) (fun _ _ _ e=>e) (fun _ _ h=>h) c))))
 cell x hx:=let ⟨c,h1,h2,h3,h4⟩:=K.cell x hx;(Ieaaa c h1 h2 (fun v e1=>let ⟨u,a,d⟩:=h3 v e1;(Iea u a (VR.mono (G:=G) (G':=G.fz1 _) (fun _ h=>.inl h) (fun _ _ _ e=>e) (fun _ _ h=>h) d))) h4)
 off:=(Iaa K.off.1 K.off.2.1 (fun q=>q.elim K.off.2.2 fun q=>h q.symm))
 stk:=K.stk
 live:=K.live
 inf:=K.inf
theorem closure_fold (env:Env) (f:Str × NameKind→List (Str × Addr)→Sem (ForInStep (List (Str × Addr)))) (hf:∀ x k r,f (x,k) r=if k == NameKind.free then (do let c ← cellOf env x;pure (ForInStep.yield ((x,c)::r))) else pure (ForInStep.yield r)) :
  ∀ (names:List (Str × NameKind)) (acc:List (Str × Addr)),(∀ x,(x,NameKind.free)∈names→∃ c,env.cells.lookup x=some c) →
  ∃ cl,(forIn names acc f:Sem (List (Str × Addr)))=pure (cl++acc)∧(∀ p∈cl,env.cells.lookup p.1=some p.2∧(p.1,NameKind.free)∈names)∧(∀ x,(x,NameKind.free)∈names→∃ c,(x,c)∈cl):=by
 intro names
 induction names with
 | nil=>exact fun acc _=>(Ieaa ([]) (by rw [List.forIn_nil];rfl) (fun _ h=>nomatch h) (fun _ h=>nomatch h))
 | cons p r ih=>
  intro acc h
  cases p with | mk x k=>?_
  rw [List.forIn_cons,hf]
  by_cases hk:(k == NameKind.free)=true
  ·have hk':k=NameKind.free:=by simpa using hk
   subst hk'
   refine Ze (h x (List.mem_cons_self ..)) fun c hc=>?_
   refine Zeaa (ih ((x,c)::acc) fun y hy=>h y (List.mem_cons_of_mem _ hy)) fun cl e h1 h2=>?_
   refine (Ieaa (cl++[(x,c)]) ?_ (fun p hp=>?_) (fun y hy=>?_))
   ·have ec:cellOf env x=pure c:=by unfold cellOf;rw [hc]
    rw [if_pos hk,ec]
    refine (?_:(forIn r ((x,c)::acc) f:Sem (List (Str × Addr)))=_)
    rw [e,List.append_assoc];rfl
   ·rcases List.mem_append.mp hp with hp | hp
    ·exact ⟨(h1 p hp).1,List.mem_cons_of_mem _ (h1 p hp).2⟩
    ·rw [List.mem_singleton.mp hp];exact ⟨hc,List.mem_cons_self ..⟩
   ·rcases List.mem_cons.mp hy with hy | hy
    ·cases hy;exact ⟨c,List.mem_append_right _ (List.mem_singleton.mpr rfl)⟩
    ·refine Ze (h2 y hy) fun c' hc'=>?_
     exact ⟨c',List.mem_append_left _ hc'⟩
  ·refine Zeaa (ih acc fun y hy=>h y (List.mem_cons_of_mem _ hy)) fun cl e h1 h2=>?_
   refine (Ieaa cl ?_ (fun p hp=>⟨(h1 p hp).1,List.mem_cons_of_mem _ (h1 p hp).2⟩) (fun y hy=>?_))
   ·rw [if_neg hk]
    exact e
   ·rcases List.mem_cons.mp hy with hy | hy
    ·cases hy;exact absurd (by rfl) hk
    ·exact h2 y hy
theorem closureFor_ok (h:∀ x,(x,NameKind.free)∈scope.names→∃ c,env.cells.lookup x=some c):∃ cl,closureFor scope env=pure cl∧(∀ p∈cl,env.cells.lookup p.1=some p.2)∧(∀ x,(x,NameKind.free)∈scope.names→∃ c,cl.lookup x=some c∧env.cells.lookup x=some c)∧(∀ p∈cl,(p.1,NameKind.free)∈scope.names):=by
 refine Zeaa (closure_fold env (fun x r=>if x.2 == NameKind.free then (do let c ← cellOf env x.1;pure (ForInStep.yield ((x.1,c)::r))) else pure (ForInStep.yield r)) (fun _ _ _=>rfl) scope.names [] h) fun cl e h1 h2=>?_
 refine (Ieaaa cl ?_ (fun p hp=>(h1 p hp).1) (fun x hx=>?_) (fun p hp=>(h1 p hp).2))
 ·unfold closureFor
  rw [List.append_nil] at e
  exact Eq.trans (congrArg (fun t:Sem (List (Str × Addr))=>t >>= fun r=>pure r) e) rfl
 ·refine Ze (h2 x hx) fun c hc=>?_
  refine Ze (lookup_of_mem hc) fun c' hc'=>?_
  exact (Iea c' hc' ((h1 (x,c') (mem_of_lookup hc')).1))
theorem lookup_relabelS:∀ (l:List (Str × NameKind)) (x:Str),(l.map fun (n,k)=>if (k == NameKind.free&&sc.kind == .function&&sc.names.lookup n == some .cell) then (n,NameKind.cell) else (n,k)).lookup x =
  (l.lookup x).map fun k=>if (k == NameKind.free&&sc.kind == .function&&sc.names.lookup x == some .cell) then .cell else k:=by
 intro l x
 induction l with
 | nil=>rfl
 | cons p r ih=>
  cases p with | mk n k=>?_
  have e:(if (k == NameKind.free&&sc.kind == .function&&sc.names.lookup n == some .cell)=true then (n,NameKind.cell) else (n,k))=(n,if (k == NameKind.free&&sc.kind == .function&&sc.names.lookup n == some .cell)=true then NameKind.cell else k):=by split<;>rfl
  refine (?_:List.lookup x ((if (k == NameKind.free&&sc.kind == .function&&sc.names.lookup n == some .cell)=true then (n,NameKind.cell) else (n,k))::_)=_)
  rw [e,List.lookup_cons,List.lookup_cons]
  by_cases hx:x=n
  ·subst hx
   simp
  ·have hb:(x == n)=false:=by simpa using hx
   simp only [hb];exact ih
theorem relabelS_local {x:Str}:(relabelS scope sc).names.lookup x=some .local↔scope.names.lookup x=some .local:=by
 refine (?_:(scope.names.map _).lookup x=_↔_)
 rw [lookup_relabelS]
 cases scope.names.lookup x with
 | none=>simp
 | some k=>cases k<;>simp<;>split<;>simp
theorem relabelS_cell {x:Str} (h:(relabelS scope sc).names.lookup x=some .cell∨(relabelS scope sc).names.lookup x=some .free):scope.names.lookup x=some .cell∨scope.names.lookup x=some .free:=by
 have e:(relabelS scope sc).names.lookup x=_:=lookup_relabelS scope.names x
 rw [e] at h
 cases q:scope.names.lookup x with
 | none=>rw [q] at h;simp at h
 | some k=>
  rw [q] at h
  cases k<;>simp at h ⊢
theorem lookup_none_relabelS {x:Str}:(relabelS scope sc).names.lookup x=none↔scope.names.lookup x=none:=by
 refine (?_:(scope.names.map _).lookup x=_↔_)
 rw [lookup_relabelS]
 cases scope.names.lookup x<;>simp
theorem relabel_eq (K:EnvOk C A G env sc m):relabel scope env=relabelS scope sc:=by
 have:relabel scope env=relabelS scope env.scope:=rfl
 rw [this,K.scE]
theorem EnvOk.relabel (K:EnvOk C A G env scope m):EnvOk C A G { env with scope:=relabelS scope sc } (relabelS scope sc) m where
 scE:=rfl
 kind:=K.kind
 glob:=K.glob
 bi:=K.bi
 ns:=let ⟨ml,hn,k⟩:=K.ns;(Iea ml hn (fun x v e1 e2=>k x v e1 (relabelS_local.mp e2)))
 cell x hx:=K.cell x (relabelS_cell hx)
 off:=K.off
 stk:=K.stk
 live:=K.live
 inf hn c q e:=K.inf ((lookup_none_relabelS).mp hn) c q e
theorem lookup_mCof:∀ {m:Mp} {x:Str} {v:AV},(mCof scope m).lookup x=some v→m.lookup x=some v∧mKeep scope x=true
 | (y,w)::r,x,v,h=>by
  unfold mCof at h
  rw [List.filter_cons] at h
  split at h
  ·rename_i hy
   rw [List.lookup_cons] at h ⊢
   by_cases hx:x=y
   ·subst hx
    simp at h ⊢
    exact ⟨h,hy⟩
   ·have hb:(x == y)=false:=by simpa using hx
    rw [hb] at h ⊢
    exact lookup_mCof h
  ·rename_i hy
   have ih:=lookup_mCof (m:=r) h
   rw [List.lookup_cons]
   by_cases hx:x=y
   ·subst hx
    exact absurd ih.2 hy
   ·have hb:(x == y)=false:=by simpa using hx
    rw [hb];exact ih
theorem InfOk.relabel {cenv env:Env} (h:InfOk env sc m) (hn:sc.names.lookup ("<env>":Str)=none) (h1:cenv.code=env.code) (h2:cenv.qual=env.qual):InfOk cenv scope (mCof scope m):=fun _ c q e=>by
 rw [h1,h2];exact h hn c q (lookup_mCof e).1
end

section
structure ScopeOk (scope sc:Scope):Prop where
 kind:scope.kind=.function
 nd:(scope.names.map (·.1)).Nodup
 ne:sc.names.lookup ("<env>":Str)=none
 free:∀ x∈scope.names,x.2=.free→sc.names.lookup x.1=some .cell∨sc.names.lookup x.1=some .free
theorem ScopeOk.local (h:ScopeOk scope sc):∀ x∈scope.names,x.2=.local→scope.names.lookup x.1=some .local:=fun x hx hl=>by
 obtain ⟨n,k⟩:=x
 cases hl
 exact lookup_nodup h.nd hx
noncomputable def LoopG (C:Cx) (A:Around) (R:St) (sc scope:Scope) (m:Mp) (fp:Addr→Prop) (J:Env→List AV→St→Prop) (l:List AV) (σ σ':Sto) (tot:List AV) (e:Expr) (it:Addr):Prop:=
 ∀ (ce:Env) (Dl:Addr) (G4:St),(∀ a,Xe ce scope a→R.h.get? a=none)→OwnOk C G4 ce scope→¬ fp Dl→J ce l G4→Step C R.tr R G4→Inv C G4 σ→EnvOk C A G4 ce (relabelS scope sc) (mCof scope m)→Acc C R G4 ce Dl []→∀ {Q:Result→Shared→Prop},
  (∀ G1 h' tk,Step C R.tr R G1→Inv C G1 σ'→EnvOk C A G1 ce (relabelS scope sc) (mCof scope m)→Acc C R G1 ce Dl tot→(∀ p,fp p→Pv C R G1 ce p)→(∀ b o,¬ fp b→G1.h.get? b=some o→h'.get? b=some o)→Q (.ok .next) { G1.s with heap:=h',toks:=tk }) →
  codeAny (model C.prog C.w) A (.compLoop e 0 (.ref it) (.ref Dl) ce) Q G4.s
theorem LoopG.one {bt:AV→Option (Mp)} {ifs:List Expr} {elt target iter:Expr} {pos:Pos} {it:Addr} {fp:Addr→Prop} {J:Env→List AV→St→Prop} {l tot:List AV} (hCS:CompS C D (relabelS scope sc) bt ifs elt (mCof scope m) l σ tot σ') (hA:AOk A D)
  (hbt:∀ x b,bt x=some b→∀ p∈b,scope.names.lookup p.1=some .local∨scope.names.lookup p.1=some .cell) (hz:tot.length≤sizeLine)
  (hIT:∀ cenv,(∀ a,Xe cenv scope a→R.h.get? a=none)→IterOk C A R R.tr cenv scope (relabelS scope sc) target (.ref it) bt fp (J cenv)):LoopG C A R sc scope m fp J l σ σ' tot (.ListComp elt [⟨target,iter,ifs,0⟩] scope pos) it:=by
 intro ce Dl G4 deadE O5 hD0 j4 S4 I4 K5 AC Q hQ
 refine comp_loop (sc0:=scope) hCS (hIT ce deadE) (fun x b hb y v hy=>?_) O5 hD0 j4 S4 hA I4 K5 AC (by simpa using hz) fun G1 h' tk S1 I1 K1 AC1 j1 hk=>hQ G1 h' tk S1 I1 K1 (by simpa using AC1) (fun p hp=>(hIT ce deadE).pv j1 hp) hk
 have hyf:=(lookup_mCof hy).2
 rw [lookup_append_right]
 ·exact hy
 ·cases q:b.lookup y with
  | none=>rfl
  | some w=>
   have:=hbt x b hb (y,w) (mem_of_lookup q)
   rcases mKeep_of hyf with q | q<;>rcases this with this | this<;>(rw [q] at this;cases this)
theorem comp_core {ifs:List Expr} {rest:List Comprehension} {elt target iter:Expr} {pos:Pos} {it:Addr} {fp:Addr→Prop} {J:Env→List AV→St→Prop} {l tot:List AV} {cl:List (Str × Addr)}
  (so:ScopeOk scope sc) (hc1:∀ p∈cl,env.cells.lookup p.1=some p.2) (hc2:∀ x,(x,NameKind.free)∈scope.names→∃ c,cl.lookup x=some c∧env.cells.lookup x=some c)
  (IR:Inv C R σ'') (KR:EnvOk C A R env sc m) (S:Step C R.tr R G) (I:Inv C G σ) (K:EnvOk C A G env sc m) (hL:LoopG C A R sc scope m fp J l σ σ' tot (.ListComp elt (⟨target,iter,ifs,0⟩::rest) scope pos) it)
  (hfp:∀ p,fp p→Off C G p∧R.h.get? p=none∧∃ o,G.h.get? p=some o)
  (hJ:∀ G4 cenv,Step C (fun _=>False) G G4→OwnOk C G4 cenv scope→(∀ x c,cenv.cells.lookup x=some c→∃ o,G4.h.get? c=some o)→(∀ p,fp p→p≠cenv.locals∧∀ x,cenv.cells.lookup x≠some p)→J cenv l G4)
  (hself:∀ cenv xs G,J cenv xs G→∀ Q E,Q (.ref it) G.s→W C A (pyIter (.ref it)) Q E G.s)
  {RR:Value→Addr→Result→Shared→Prop} {E:Value→Shared→Prop}
  (hRR:∀ G1 Dl cenv h' tk,Step C R.tr R G1→Inv C G1 σ'→Acc C R G1 cenv Dl tot→(∀ p,fp p→Off C G1 p∧R.h.get? p=none)→¬ fp Dl→¬ fp cenv.locals→R.h.get? cenv.locals=none→Off C G1 cenv.locals→(∃ mm,G1.h.Ns cenv.locals mm) →
   (∀ b o,¬ fp b→G1.h.get? b=some o→h'.get? b=some o)→RR (.ref Dl) cenv.locals (.ok .next) { G1.s with heap:=h',toks:=tk }) :
  W C A (newList []) (fun acc s₃=>W C A (newFunctionEnv scope env.globals cl [] env.qual none .none (some env)) (fun cenv s₄=>
   codeAny (model C.prog C.w) A (.compStart (.ListComp elt (⟨target,iter,ifs,0⟩::rest) scope pos) 0 (.ref it) acc { cenv with scope:=relabel scope env }) (RR acc cenv.locals) s₄) E s₃) E G.s:=by
 refine wpAny_newList ?_ (Nat.zero_le _)
 refine Za (priv_ok (X:=fun _=>False) I { cls:=.type "list",data:=.seq ([]:List Value).toArray } G.s.toks) fun s3 I3=>?_
 generalize hG3:G.priv { cls:=.type "list",data:=.seq ([]:List Value).toArray } G.s.toks=G3 at s3 I3
 have eG3:G3.s={ G.s with heap:=G.s.heap.push { cls:=.type "list",data:=.seq ([]:List Value).toArray } }:=by rw [← hG3];rfl
 rw [show ({ G.s with heap:=G.s.heap.push { cls:=.type "list",data:=.seq ([]:List Value).toArray } }:Shared)=G3.s from eG3.symm]
 have hz3:G3.sz=G.sz+1:=by refine (?_:G3.s.heap.objs.size=_);rw [eG3];exact Heap.size_push ..
 have K3:EnvOk C A G3 env sc m:=K.step I (s3.weaken fun _ h=>h.elim)
 simp only [newFunctionEnv,Option.isSome_some,if_true]
 refine wpAny_bind (wpAny_alloc ?_)
 refine wpAny_bind (wpAny_layCells _ (fun name kind cells=>by cases hkc:kind == NameKind.cell<;>simp [hkc]) _ _ _ _ ?_)
 have hsz:({ G3.s with heap:=G3.s.heap.push { cls:=.type "dict",data:=.dict #[] } }:Shared).heap.objs.size=G3.sz+1:=Heap.size_push ..
 rw [hsz]
 refine wpAny_bind ?_
 rw [List.forIn_nil]
 refine wpAny_pure (wpAny_pure ?_)
 generalize henv:({ scope:=scope,locals:=G3.s.heap.objs.size,globals:=env.globals,cells:=cellsFrom (G3.sz+1) scope.names cl,qual:=env.qual,func:=none,code:=env.code,frame:=env.frame,builtins:=env.builtins }:Env)=cenv
 have e1:cenv.scope=scope:=by rw [← henv]
 have e2:cenv.globals=mainGlobals:=by rw [← henv];exact K.glob
 have e3:cenv.builtins=builtinsNs:=by rw [← henv];exact K.bi
 have e4:cenv.locals=G3.sz:=by rw [← henv];rfl
 have e5:cenv.cells=cellsFrom (G3.sz+1) scope.names cl:=by rw [← henv]
 have hCl:CloOk C G3 scope cl (mCof scope m):=by
  refine ⟨fun x hx=>?_,fun x c hc=>K3.live x c ?_⟩
  ·refine Zea (hc2 x (mem_of_lookup hx)) fun c h1 h2=>?_
   refine Zeaaa (K3.cell x (so.free (x,.free) (mem_of_lookup hx) rfl)) fun c' h3 h4 h5 h6=>?_
   rw [h2] at h3;cases h3
   exact (Ieaaa c h1 h4 (fun v hv=>h5 v (lookup_mCof hv).1) h6)
  ·exact hc1 (x,c) (mem_of_lookup hc)
 have keep4:∀ b ob,G3.h.get? b=some ob→(frameHeap G3.h "dict" scope).get? b=some ob:=fun b ob e=>frame_keeps e
 refine Za (side_ok (W:=[]) I3 (frameHeap G3.h "dict" scope) G3.s.toks (fun b ob _ e=>keep4 b ob e) (fun b hb=>nomatch hb)) fun s4 I4'=>?_
 have hSK:StackOk A ⟨{ G3.s with heap:=frameHeap G3.h "dict" scope },G3.F,G3.r,G3.fs⟩:=K3.stk.step s4 (fun a _ q=>nomatch q)
 refine Zaa (frame_ok (isF:=false) (cls:="dict") (A:=A) I3 so.kind so.nd hCl (fun x v h=>mKeep_of (lookup_mCof h).2) rfl e1 e2 e3 e4 e5 (K.inf.relabel so.ne (by rw [← henv]) (by rw [← henv])) hSK) fun I4 K4 O4=>?_
 refine (?_:codeAny _ A (.compStart _ 0 (.ref it) (.ref G.sz) { cenv with scope:=relabel scope env }) (RR (.ref G.sz) cenv.locals) { G3.s with heap:=frameHeap G3.h "dict" scope })
 have s34:Step C (fun _=>False) G ⟨{ G3.s with heap:=frameHeap G3.h "dict" scope },G3.F,G3.r,G3.fs⟩:=s3.trans s4 fun a h=>nomatch h
 have S4:Step C R.tr R ⟨{ G3.s with heap:=frameHeap G3.h "dict" scope },G3.F,G3.r,G3.fs⟩:=S.trans s34 fun _ h=>h.elim
 have K5:=K4.relabel (sc:=sc)
 rw [relabel_eq K]
 have eF:G3.F=G.F∧G3.r=G.r∧G3.fs=G.fs:=by rw [← hG3];exact (Iaa rfl rfl rfl)
 have deadC:R.h.get? cenv.locals=none:=by
  rw [e4,hz3]
  exact S.dead (dead_ge (Nat.le_succ _))
 have cellsNew:∀ x a,cenv.cells.lookup x=some a→(a > G3.sz)∨env.cells.lookup x=some a:=fun x a h=>by
  rw [e5,cellsFrom_append] at h
  have ok:=cellsFrom_ok scope.names (G3.h.push { cls:=.type "dict",data:=.dict #[] }) (G3.sz+1) [] ⟨fun _ _ hm=>(nomatch hm),List.Pairwise.nil⟩ (by rw [Heap.size_push];exact Nat.le_refl _)
  rw [Heap.size_push] at ok
  cases q:(cellsFrom (G3.sz+1) scope.names []).lookup x with
  | none=>
   rw [lookup_append_right q] at h
   exact .inr (hc1 (x,a) (mem_of_lookup h))
  | some c1=>
   rw [lookup_append_left q] at h
   have h3:=Option.some.inj h
   have h4:=(ok.empty x c1 (mem_of_lookup q)).2
   rw [h3] at h4
   exact .inl h4
 have liveOld:∀ p,(∃ o,G.h.get? p=some o)→R.h.get? p=none→p≠cenv.locals∧∀ x,cenv.cells.lookup x≠some p:=fun p hp hd=>by
  refine Ze hp fun ob eo=>?_
  have hlt:p < G.sz:=Heap.lt_size eo
  refine ⟨fun q=>?_,fun x q=>?_⟩
  ·rw [e4,hz3] at q;rw [q] at hlt;exact absurd hlt (Nat.not_lt.mpr (Nat.le_succ _))
  ·rcases cellsNew x p q with h | h
   ·rw [hz3] at h;exact absurd (Nat.lt_trans hlt (Nat.lt_of_le_of_lt (Nat.le_succ _) h)) (Nat.lt_irrefl _)
   ·refine Ze (KR.live x p h) fun ob2 e2=>?_
    rw [hd] at e2;cases e2
 generalize hce:({ cenv with scope:=relabelS scope sc }:Env)=ce at K5
 have cl1:ce.locals=cenv.locals:=by rw [← hce]
 have cl2:ce.cells=cenv.cells:=by rw [← hce]
 have deadE:∀ a,Xe ce scope a→R.h.get? a=none:=fun a h=>by
  rcases h with h | ⟨x,h1,h2⟩
  ·rw [h,cl1];exact deadC
  ·rw [cl2] at h2
   refine Za (O4.own x a h1 h2) fun q1 _=>?_
   rcases cellsNew x a h2 with h | h
   ·refine S.dead (dead_ge ?_)
    rw [hz3] at h
    exact Nat.le_of_lt (Nat.lt_of_le_of_lt (Nat.le_succ _) h)
   ·exfalso
    rw [e5,cellsFrom_append] at h2
    refine Ze (cellsFrom_has scope.names (G3.sz+1) (mem_of_lookup h1)) fun c0 hc0=>?_
    refine Ze (lookup_of_mem hc0) fun c1 hc1'=>?_
    rw [lookup_append_left hc1'] at h2
    have ok:=cellsFrom_ok scope.names (G3.h.push { cls:=.type "dict",data:=.dict #[] }) (G3.sz+1) [] ⟨fun _ _ hm=>(nomatch hm),List.Pairwise.nil⟩ (by rw [Heap.size_push];exact Nat.le_refl _)
    rw [Heap.size_push] at ok
    have h3:=Option.some.inj h2
    have h4:=(ok.empty x c1 (mem_of_lookup hc1')).2
    rw [h3] at h4
    refine Ze (K3.live x a h) fun ob2 e2=>?_
    exact no_lt (Heap.lt_size e2) h4
 have O5:OwnOk C ⟨{ G3.s with heap:=frameHeap G3.h "dict" scope },G3.F,G3.r,G3.fs⟩ ce scope:=⟨fun x c h1 h2=>by
  rw [cl2] at h2
  refine Zaaa (O4.own x c h1 h2) fun q1 q2 q3 q4=>?_
  exact (Iaaa q1 q2 (by rw [cl1];exact q3) (fun y hy hc=>q4 y hy (by rw [← cl2];exact hc)))⟩
 have offD:=Off.of_dead I (sz_none (G:=G))
 have AC:Acc C R ⟨{ G3.s with heap:=frameHeap G3.h "dict" scope },G3.F,G3.r,G3.fs⟩ ce G.sz []:=by
  have hD:(frameHeap G3.h "dict" scope).get? G.sz=some { cls:=.type "list",data:=.seq ([]:List Value).toArray }:=keep4 _ _ (by rw [← hG3];exact Heap.get?_push_size _ rfl)
  refine ⟨⟨⟨eF.1▸offD.f,eF.2.1▸offD.r,offD.t,eF.2.2▸offD.s⟩,fun q=>?_,fun x q=>?_,S.dead sz_none,_,hD⟩,#[],(Ieeaaa _ 0 hD rfl rfl rfl),.nil⟩
  ·rw [cl1,e4,hz3] at q;exact absurd q (Nat.ne_of_lt (Nat.lt_succ_self _))
  ·rw [cl2] at q
   rcases cellsNew x _ q with h | h
   ·rw [hz3] at h;exact absurd h (Nat.not_lt.mpr (Nat.le_succ _))
   ·refine Ze (K.live x _ h) fun ob2 e2=>?_
    rw [sz_none] at e2;cases e2
 have hD0:¬ fp G.sz:=fun q=>by
  refine Zaae (hfp _ q) fun _ _ ob e=>?_
  rw [sz_none] at e;cases e
 have hC0:¬ fp cenv.locals:=fun q=>by
  refine Zaa (hfp _ q) fun _ _ hal=>?_
  exact (liveOld _ hal (hfp _ q).2.1).1 rfl
 have j4:J ce l ⟨{ G3.s with heap:=frameHeap G3.h "dict" scope },G3.F,G3.r,G3.fs⟩:=hJ _ ce s34 O5 K5.live fun p hp=>by
  rw [cl1,cl2];exact liveOld p (hfp p hp).2.2 (hfp p hp).2.1
 have loop:codeAny (model C.prog C.w) A (.compLoop (.ListComp elt (⟨target,iter,ifs,0⟩::rest) scope pos) 0 (.ref it) (.ref G.sz) ce) (RR (.ref G.sz) cenv.locals) { G3.s with heap:=frameHeap G3.h "dict" scope }:=by
  refine hL ce G.sz ⟨{ G3.s with heap:=frameHeap G3.h "dict" scope },G3.F,G3.r,G3.fs⟩ deadE O5 hD0 j4 S4 I4 K5 AC fun G1 h' tk S1 I1 K1 AC1 pv1 hk=>?_
  ·have pvs:∀ p,fp p→Off C G1 p∧R.h.get? p=none:=fun p hp=>by
    have:=pv1 p hp
    exact ⟨this.off,this.dead⟩
   have offC:Off C G1 cenv.locals:=⟨by rw [← cl1];exact K1.off.2.2,by rw [← cl1];exact K1.off.1,by rw [← cl1];exact K1.off.2.1,fun q=>?_⟩
   ·refine hRR G1 G.sz cenv h' tk S1 I1 ?_ pvs hD0 hC0 deadC offC ?_ hk
    ·exact ⟨⟨AC1.pv.off,by rw [← cl1];exact AC1.pv.loc,fun x=>by rw [← cl2];exact AC1.pv.cel x,AC1.pv.dead,AC1.pv.live⟩,by simpa using AC1.lst⟩
    ·refine Zea K1.ns fun ml hn _=>?_
     exact ⟨ml,by rw [← cl1];exact hn⟩
   ·rw [S1.fs] at q
    obtain ⟨_,ob2,e2⟩:¬ C.tabP cenv.locals∧∃ o,R.h.get? cenv.locals=some o:=IR.ftab _ q
    rw [deadC] at e2;cases e2
 refine codeAny_compStart_list ?_ ?_
 ·exact loop
 ·exact hself ce l ⟨{ G3.s with heap:=frameHeap G3.h "dict" scope },G3.F,G3.r,G3.fs⟩ j4 _ _ loop
theorem fin_comp {fp:Addr→Prop} {Dl L:Addr} {vs:List AV} {h':Heap} {tk:Nat} (S:Step C Y R G) (I:Inv C G σ) (AC:Acc C R G env Dl vs) (hp:∀ p,fp p→Off C G p∧R.h.get? p=none) (hD:¬ fp Dl) (hDL:Dl≠L) (hL:Off C G L) (dL:R.h.get? L=none)
  (hk:∀ b o,¬ (fp b∨b=L)→G.h.get? b=some o→h'.get? b=some o) :
  Step C Y R ((G.at h' tk).fz1 Dl)∧Inv C ((G.at h' tk).fz1 Dl) σ∧VR C ((G.at h' tk).fz1 Dl) (.ref Dl) (mkL vs):=by
 have hp':∀ p,(fp p∨p=L)→Off C G p∧R.h.get? p=none:=fun p h=>h.elim (hp p) fun h=>by rw [h];exact ⟨hL,dL⟩
 have nD:¬ (fp Dl∨Dl=L):=fun h=>h.elim hD hDL
 refine Za (side_ref0 (tk:=tk) S I hp' hk) fun s1 I1=>?_
 refine Zea AC.lst fun ys z91 VS=>?_
 refine Zeeaaa z91 fun ob n eo hc hdi hd=>?_
 have eo':h'.get? Dl=some ob:=hk Dl ob nD eo
 refine Za (freeze1 (a:=Dl) s1 I1 ⟨AC.pv.off.f,AC.pv.off.r,AC.pv.off.t,AC.pv.off.s⟩ AC.pv.dead ⟨ob,eo'⟩) fun s2 I2=>?_
 refine (Iaa s2 I2 (vr_list (us:=ys.toList) (n:=n) (.inr rfl) eo' ⟨hc,hdi⟩ (by rw [hd]) ?_))
 exact (VS.at (fun b hb=>(hp' b hb).1.f) hk).fz1
theorem jseq_self {I ax:Addr} {l xs:List AV} (j:JSeq C R env I ax l xs G) {Q:Value→Shared→Prop} {E} (h:Q (.ref I) G.s):W C A (pyIter (.ref I)) Q E G.s:=by
 obtain ⟨i,vs,e,hi,pv,hf,VS,h1 | h1⟩:=j
 ·exact wpAny_pyIter_listiter h1.1 h
 ·exact wpAny_pyIter_tupleiter h1.1 h
theorem comp_post {fp:Addr→Prop} {Dl L:Addr} {vs:List AV} {h':Heap} {tk:Nat} {Q:Value→Shared→Prop} {E:Value→Shared→Prop} (S:Step C R.tr R G) (I:Inv C G σ) (AC:Acc C R G env Dl vs) (hL0:env.locals=L) (hp:∀ p,fp p→Off C G p∧R.h.get? p=none) (hD:¬ fp Dl) (hLf:¬ fp L) (dL:R.h.get? L=none) (hL:Off C G L) (hn:∃ mm,G.h.Ns L mm)
  (hk:∀ b o,¬ fp b→G.h.get? b=some o→h'.get? b=some o) (hQ:∀ u G',Step C R.tr R G'→Inv C G' σ→VR C G' u (mkL vs)→Q u G'.s) :
  compPost (model C.prog C.w) A E none Q (.ref Dl) L (.ok .next) { G.s with heap:=h',toks:=tk }:=by
 refine Ze hn fun mm hn=>?_
 refine (Iea mm (hn.at' fun o e=>hk L o hLf e) (fun h'' hs''=>?_))
 refine Zaa (fin_comp (fp:=fp) (L:=L) (h':=h'') (tk:=tk) S I AC hp hD (hL0▸AC.pv.loc) hL dL fun b o hb e=>hs''.extBut b o (fun q=>hb (.inr q)) (hk b o (fun q=>hb (.inl q)) e)) fun s1 I1 V1=>?_
 exact hQ _ _ s1 I1 V1
theorem hY_of {ce:Env} (h:∀ a,Xe ce scope a→R.h.get? a=none):∀ a,Xe ce scope a→R.tr a∨R.h.get? a=none:=fun a q=>.inr (h a q)
end

section
theorem comp_postA {fp:Addr→Prop} {Dl L:Addr} {vs:List AV} {h':Heap} {tk:Nat} {y:Str} {py:Pos} {ce:Env} {Q:Value→Shared→Prop} {E:Value→Shared→Prop} (IR:Inv C R σ'') (KR:EnvOk C A R env sc m) (hy:sc.names.lookup y=some .local)
  (S:Step C R.tr R G) (I:Inv C G σ) (AC:Acc C R G ce Dl vs) (hL0:ce.locals=L) (hp:∀ p,fp p→Off C G p∧R.h.get? p=none) (hD:¬ fp Dl) (hLf:¬ fp L) (dL:R.h.get? L=none) (hL:Off C G L) (hn:∃ mm,G.h.Ns L mm)
  (hk:∀ b o,¬ fp b→G.h.get? b=some o→h'.get? b=some o) (hQ:∀ G',Step C (Xs R env sc) R G'→Inv C G' σ→EnvOk C A G' env sc ((y,mkL vs)::m)→Q .none G'.s) :
  compPost (model C.prog C.w) A E (some (PySem.assign (.Name y py) env)) Q (.ref Dl) L (.ok .next) { G.s with heap:=h',toks:=tk }:=by
 refine Ze hn fun mm hn=>?_
 refine Zaa (fin_comp (fp:=fp) (L:=L) (h':=h') (tk:=tk) S I AC hp hD (hL0▸AC.pv.loc) hL dL fun b o hb e=>hk b o (fun q=>hb (.inl q)) e) fun s1 I1 V1=>?_
 have K1:=KR.step IR s1
 refine (?_:W C A (assign (.Name y py) env (.ref Dl)) _ E ((G.at h' tk).fz1 Dl).s)
 refine wpAny_assign_Name (store_core I1 K1 (fun hc=>by rw [hy] at hc;cases hc) V1 (.inl hy) fun G2 s2 I2 K2=>?_)
 have x1:∀ a,X1 env sc y a→a=env.locals:=fun a ha=>by
  rcases ha with ha | ha
  ·exact ha.2
  ·rw [hy] at ha;cases ha.1
 have hLl:L≠env.locals:=fun q=>by
  refine Ze KR.there fun ob eo=>?_
  rw [← q,dL] at eo;cases eo
 have nsL:h'.Ns L mm:=hn.at' fun o e=>hk L o hLf e
 have offL1:Off C ((G.at h' tk).fz1 Dl) L:=⟨fun q=>q.elim hL.f fun q=>AC.pv.loc (by rw [hL0];exact q.symm),hL.r,hL.t,hL.s⟩
 refine Zeeeaa (id nsL) fun oL es ep eL dd rr=>?_
 have eL2:G2.h.get? L=some oL:=s2.keep L oL eL (fun q=>hLl (x1 L q)) offL1.t offL1.s
 refine (Iea mm (Ieeeaa oL es ep eL2 dd rr) (fun h'' hs''=>?_))
 have pvL:Pv C R G2 env L:=⟨offL1.step ⟨oL,eL⟩ s2,hLl,(fun x q=>by
  refine Ze (KR.live x L q) fun ob eo=>?_
  rw [dL] at eo;cases eo),dL,oL,eL2⟩
 have S2:Step C (Xs R env sc) R G2:=(s1.toX).trans s2 fun a ha=>.inl (.inr (.inl (x1 a ha)))
 refine Zaa (side_ref (fp:=fun a=>a=L) (h':=h'') (tk:=G2.s.toks) S2 I2 K2 (fun b hb=>by rw [hb];exact pvL) fun b o hb e=>hs''.extBut b o hb e) fun S3 I3 K3=>?_
 exact hQ _ S3 I3 K3
end

noncomputable def BI (C:Cx) (D:Nat) (b:Value) (vs:List AV) (σ:Sto) (v:AV) (σ':Sto):Prop:=∀ A G us,AOk A D→Inv C G σ→VRs C G us vs→Gives C A G (PySem.call b us) v σ'
noncomputable def nonRef:Value→Bool
 | .ref _=>false
 | _=>true
section
theorem keeps1_nonRef {b:Value} (h:nonRef b=true):Keeps1 C G b:=(Iea .machine (.inr (.inl rfl)) (by cases b<;>first | (cases h;done) | exact Looks.now))
theorem EvE.bi {x:Str} {np pos} {a:Expr} {args:List Expr} {b:Value} {vs:List AV} (hf:EvE C D sc m σ (.Name x np) (.val b) σ) (hk:nonRef b=true) (hs:noStars (a::args)=true) (ha:EvL C D sc m σ (a::args) vs σ')
  (h:BI C D b vs σ' v σ''):EvE C D sc m σ (.Call (.Name x np) (a::args) [] pos) v σ'':=EvE.callB hf (fun G=>keeps1_nonRef hk) hs ha h
theorem vrs1 {us:List Value} {a:AV} (h:VRs C G us [a]):∃ u,us=[u]∧VR C G u a:=by cases h with | cons p q=>cases q;exact (Iea _ rfl p)
theorem vrs2 {us:List Value} {a b:AV} (h:VRs C G us [a,b]):∃ u w,us=[u,w]∧VR C G u a∧VR C G w b:=by
 cases h with | cons p q=>cases q with | cons q r=>cases r;exact (Ieeaa _ _ rfl p q)
theorem bi_len {a:AV} {l:List AV} (ha:asSeq σ a=some l) (hz:l.length≤sizeLine):BI C D (.builtin "len") [a] σ (.p (.int l.length)) σ:=fun A G us hA I VS=>by
 apply RLea1 (vrs1 VS)
 intro u V
 apply RLeeeeaaaa4 (asSeq_vr I V ha)
 intro x o vs n e1 c1 d1 r1
 have hl:=r1.length
 simp only [Array.length_toList] at hl
 have hf:(vs.size:Int) < 2 ^ 63:=by
  have:sizeLine < 2 ^ 63:=by decide
  omega
 refine gives_toks I fun Q E h=>?_
 rcases c1 with c1 | c1
 ·refine Calls.call_len_list (Ieaae o e1 c1 n d1) hf ?_
  rw [hl];exact h _ _ (vr_int _ _)
 ·refine PyProof.Rows.len_tuple (Ieaae o e1 c1 n d1) hf ?_
  rw [hl];exact h _ _ (vr_int _ _)
theorem bi_int {i:Int}:BI C D (.type "int") [.p (.int i)] σ (.p (.int i)) σ:=fun A G us hA I VS=>by
 apply RLea1 (vrs1 VS)
 intro u V
 apply RLe1 V.int_shape
 intro t
 exact gives_toks I fun Q E h=>call_int_int (h _ G.s.toks (vr_int _ _))
theorem bi_intB {b:Bool}:BI C D (.type "int") [.p (.bool b)] σ (.p (.int (if b then 1 else 0))) σ:=fun A G us hA I VS=>by
 apply RLea1 (vrs1 VS)
 intro u V
 have:=V.bool_shape;subst this
 exact gives_toks I fun Q E h=>call_int_bool (h _ _ (vr_int _ _))
theorem bi_str {i:Int} (hi:i.natAbs.log2 < 1920) (hs:PyData.strOk (Str.ofString (toString i))=true):BI C D (.type "str") [.p (.int i)] σ (.p (.str (Str.ofString (toString i)))) σ:=fun A G us hA I VS=>by
 apply RLea1 (vrs1 VS)
 intro u V
 apply RLe1 V.int_shape
 intro t
 exact gives_toks I fun Q E h=>PySem.P.str_of_int hi (h _ _ (vr_str _ hs))
theorem bi_max {i j:Int}:BI C D (.builtin "max") [.p (.int i),.p (.int j)] σ (.p (.int (if j > i then j else i))) σ:=fun A G us hA I VS=>by
 apply RLeeaa2 (vrs2 VS)
 intro u w V V'
 apply RLe1 V.int_shape
 intro t
 apply RLe1 V'.int_shape
 intro t'
 intro Q E hQ
 refine max_two_ints hA.1 fun h' tk hk=>?_
 have s1:Step C G.tr G (G.grow h' tk fun _=>False):=grow_step hk fun _ h=>h.elim
 have I1:=grow_inv (P:=fun _=>False) (tk:=tk) I hk fun _ h=>h.elim
 by_cases hc:j > i
 ·rw [if_pos hc] at hQ ⊢;exact hQ _ _ s1 I1 (vr_int _ _)
 ·rw [if_neg hc] at hQ ⊢;exact hQ _ _ s1 I1 (vr_int _ _)
theorem bi_min {i j:Int}:BI C D (.builtin "min") [.p (.int i),.p (.int j)] σ (.p (.int (if j < i then j else i))) σ:=fun A G us hA I VS=>by
 apply RLeeaa2 (vrs2 VS)
 intro u w V V'
 apply RLe1 V.int_shape
 intro t
 apply RLe1 V'.int_shape
 intro t'
 intro Q E hQ
 refine min_two_ints hA.1 fun h' tk hk=>?_
 have s1:Step C G.tr G (G.grow h' tk fun _=>False):=grow_step hk fun _ h=>h.elim
 have I1:=grow_inv (P:=fun _=>False) (tk:=tk) I hk fun _ h=>h.elim
 by_cases hc:j < i
 ·rw [if_pos hc] at hQ ⊢;exact hQ _ _ s1 I1 (vr_int _ _)
 ·rw [if_neg hc] at hQ ⊢;exact hQ _ _ s1 I1 (vr_int _ _)
theorem bi_isStr {x:Str}:BI C D (.builtin "isinstance") [.p (.str x),.val (.type "str")] σ (.p (.bool true)) σ:=fun A G us hA I VS=>by
 apply RLeeaa2 (vrs2 VS)
 intro u w V V'
 refine Za V.str_shape fun z98 _=>?_
 apply RLe1 z98
 intro t
 cases V'
 exact gives_toks I fun Q E h=>call_isinstance_yes (Tx:="str") (typeIs_str _ _ _) (by kernel_rfl) (by rw [isSubtype_type];kernel_rfl) (h _ G.s.toks (vr_bool _))
theorem gives_new {t:Sem Value} (I:Inv C G σ) {ob:Obj} (hf:ob.isFreed=false) (hv:∀ (h':Heap) (tk:Nat),(∀ b o,G.h.get? b=some o→h'.get? b=some o)→VR C (G.grow (h'.push ob) tk (·=h'.objs.size)) (.ref h'.objs.size) v)
  (h:∀ (Q:Value→Shared→Prop) E,(∀ (h':Heap) (tk:Nat),(∀ b o,G.h.get? b=some o→h'.get? b=some o)→Q (.ref h'.objs.size) { G.s with heap:=h'.push ob,toks:=tk })→W C A t Q E G.s):Gives C A G t v σ:=fun Q E hQ=>
 h Q E fun h' tk hk=>by
  have hd:G.h.get? h'.objs.size=none:=by
   cases q:G.h.get? h'.objs.size with
   | none=>rfl
   | some o=>exact absurd (Heap.lt_size (hk _ _ q)) (Nat.lt_irrefl _)
  have hk2:∀ b o,G.h.get? b=some o→(h'.push ob).get? b=some o:=fun b o e=>Heap.get?_push_of_some _ (hk b o e)
  exact hQ _ (G.grow (h'.push ob) tk (·=h'.objs.size)) (grow_step hk2 fun a h=>by rw [h];exact hd) (grow_inv I hk2 fun a h=>by rw [h];exact (Iae hd ob (Heap.get?_push_size _ hf))) (hv h' tk hk)
theorem bi_tupleL {a:AV} {l:List AV} {xs:List PyData} (ha:asL a=some l) (hp:allP l=some xs) (hz:xs.length≤sizeLine):BI C D (.type "tuple") [a] σ (.p (.tuple xs)) σ:=fun A G us hA I VS=>by
 apply RLea1 (vrs1 VS)
 intro u V
 apply RLeeeeaaaa4 (asL_vr V ha)
 intro x o vs n e1 c1 d1 r1
 refine Za (r1.prs hp) fun ps cl=>?_
 have hl:=ps.length
 simp only [Array.length_toList] at hl
 refine gives_new (ob:={ cls:=.type "tuple",data:=.seq vs }) I rfl (fun h' tk hk=>?_) fun Q E h=>call_tuple_list (Ieaae o e1 c1 n d1) (fun h' hk=>h h' G.s.toks hk) (by walk_at "o")
 refine .p (.tuple (.inr rfl) (Heap.get?_push_size _ rfl) rfl rfl (ps.mono (fun _ h=>.inl h) fun b o _ e=>Heap.get?_push_of_some _ (hk b o e))) (by simpa [PyData.canLay0] using cl)
theorem bi_list {a:AV} {l:List AV} (ha:asSeq σ a=some l) (hz:l.length≤sizeLine):BI C D (.type "list") [a] σ (mkL l) σ:=fun A G us hA I VS=>by
 apply RLea1 (vrs1 VS)
 intro u V
 apply RLeeeeaaaa4 (asSeq_vr I V ha)
 intro x o vs n e1 c1 d1 r1
 have hl:=r1.length
 simp only [Array.length_toList] at hl
 intro Q E hQ
 refine call_list_seq (T:=if o.cls=.type "list" then "list" else "tuple") x (by split<;>simp) e1 ?_ d1 (fun h' c' hk hn=>?_) (by walk_at "o")
 ·rcases c1 with c1 | c1
  ·rw [if_pos c1];exact c1
  ·rw [if_neg (by rw [c1];intro q;exact absurd (Value.type.inj q) (by decide))];exact c1
 have hP:∀ a,a=G.sz→G.h.get? a=none∧∃ o,h'.get? a=some o:=fun a h=>by rw [h];exact (Iae sz_none _ hn)
 have s1:Step C G.tr G (G.grow h' G.s.toks (·=G.sz)):=grow_step hk fun a h=>(hP a h).1
 exact hQ _ (G.grow h' G.s.toks (·=G.sz)) s1 (grow_inv I hk hP) (vr_list (us:=vs.toList) (n:=c') (.inr rfl) hn ⟨rfl,rfl⟩ (by simp) (r1.step I s1 I.hX))
end

section
theorem upd_ok {i:Nat} {a:Addr} {o':AO} (I:Inv C G σ) (hr:G.r[i]?=some a) (h':Heap) (tk:Nat) (hk:∀ b ob,b≠a→G.h.get? b=some ob→h'.get? b=some ob) (al:∃ ob,h'.get? a=some ob) (ht:TrO C (G.at h' tk) a o') :
  Step C G.tr G (G.at h' tk)∧Inv C (G.at h' tk) (σ.set i o'):=by
 have ha:=List.mem_of_getElem? hr
 have nF:∀ b,G.F b→b≠a:=fun b hb q=>I.trkF ha (q▸hb)
 refine ⟨⟨fun b ob e hx _ _=>hk b ob (fun q=>hx (q▸ha)) e,fun b ob e hx _=>⟨ob.slots,hk b ob (fun q=>hx (q▸ha)) e⟩,fun b ob e=>?_,fun _ h=>h,fun _ h=>.inl h,(Iea ([]) ((List.append_nil _).symm) (fun _ h=>nomatch h)),rfl,rfl,rfl,rfl⟩,
  ⟨fun b ob e=>⟨(I.base b ob e).1,hk b ob (nF b (I.base b ob e).1) (I.base b ob e).2⟩,fun b hb=>?_,by rw [List.length_set];exact I.len,fun j b ob h1 h2=>?_,I.nd,I.rtab,fun b hb=>⟨(I.ftab b hb).1,?_⟩,fun q hq=>?_⟩⟩
 ·by_cases hb:b=a
  ·subst hb;exact al
  ·exact ⟨ob,hk b ob hb e⟩
 ·refine Za (I.fz b hb) fun z117 r=>?_
  refine Ze z117 fun ob e=>?_
  exact ⟨⟨ob,hk b ob (nF b hb) e⟩,r⟩
 ·have h1':G.r[j]?=some b:=h1
  by_cases hj:j=i
  ·subst hj
   rw [hr] at h1';cases h1'
   have hlt:j < σ.length:=by rw [← I.len];exact (List.getElem?_eq_some_iff.mp hr).1
   rw [List.getElem?_set_self hlt] at h2;cases h2
   exact ht
  ·rw [List.getElem?_set_ne (Ne.symm hj)] at h2
   have hba:b≠a:=by
    rintro rfl
    have hi:=List.getElem?_eq_some_iff.mp hr
    have hj2:=List.getElem?_eq_some_iff.mp h1'
    obtain ⟨p1,q1⟩:=hi
    obtain ⟨p2,q2⟩:=hj2
    exact hj ((List.getElem_inj I.nd).mp (q2.trans q1.symm))
   exact TrO.mono (G:=G) (G':=G.at h' tk) (fun _ h=>h) (fun b ob hf e=>hk b ob (nF b hf) e) (fun _ _ h=>h) (fun ob e=>hk b ob hba e) (I.trk j b ob h1' h2)
 ·refine Ze ((I.ftab b hb).2) fun ob e=>?_
  exact ⟨ob,hk b ob (fun q=>(I.rtab a ha).2 (q▸hb)) e⟩
 ·refine Zeaa (I.tab q hq) fun ps e t k=>?_
  exact (Ieaa ps (hk _ _ (fun z=>(I.rtab a ha).1 (z▸List.mem_map.mpr (Iea q hq rfl))) e) t (fun pos w hw=>(k pos w hw).mono (fun _ h=>h) fun b ob hf e=>hk b ob (nF b hf) e))
theorem VR.atK {a:Addr} {u:Value} (V:VR C G u v) (hF:¬ G.F a) {h':Heap} {tk:Nat} (hk:∀ b ob,b≠a→G.h.get? b=some ob→h'.get? b=some ob):VR C (G.at h' tk) u v:=
 VR.mono (G:=G) (G':=G.at h' tk) (fun _ h=>h) (fun b ob hf e=>hk b ob (fun q=>hF (q▸hf)) e) (fun _ _ h=>h) V
theorem dict_low (ok:C.Ok) (I:Inv C G σ):(G.sz == sysModules)=false:=by
 have h:sysModules < G.sz:=modules_low (ok.nolimit.keeps I.keeps0)
 exact beq_eq_false_iff_ne.mpr (Nat.ne_of_gt h)
theorem EvE.dict0 (ok:C.Ok) {pos}:EvE C D sc m σ (.Dict [] [] pos) (.loc σ.length) (σ++[.dct []]):=fun A G env hA I K Q E hQ=>by
 refine wpAny_Dict_empty ?_
 have hk:∀ b ob,G.h.get? b=some ob→(G.h.push { cls:=.type "dict",data:=.dict #[] }).get? b=some ob:=fun b ob e=>Heap.get?_push_of_some _ e
 have hr:(G.r++[G.sz])[σ.length]?=some G.sz:=by rw [← I.len];simp
 refine Zeeeaaa (Heap.DictOf.new (knd:=strKind C.prog C.w) G.s.heap) fun ob es n h1 h2 h3 h4=>?_
 refine hQ (.ref G.sz) (G.more (G.h.push { cls:=.type "dict",data:=.dict #[] }) G.s.toks [G.sz]) (more_step hk fun a ha=>by rw [List.mem_singleton.mp ha];exact sz_none) (more_inv I hk sz_none ?_) (.loc hr)
 exact (Ieeeaaaeaaa ob es n h1 h2 h3 ([]) h4 (Nat.le_refl _) ⟨fun k x h=>by simp at h,fun k _=>rfl⟩ (dict_low ok I))
theorem EvE.dict0F (ok:C.Ok) {pos}:EvE C D sc m σ (.Dict [] [] pos) (.dct []) σ:=fun A G env hA I K Q E hQ=>by
 refine wpAny_Dict_empty ?_
 refine hQ (.ref G.sz) (G.one { cls:=.type "dict",data:=.dict #[] }) (one_step _) (one_inv I _) ?_
 exact .dct (fun _=>.none) (.inr rfl) one_get (Iaa rfl rfl rfl) rfl (fun e he=>by simp at he) (fun k x h=>by simp at h) (fun k x h=>by simp at h) (fun k _=>rfl) (dict_low ok I)
theorem arg1 {e:Expr} {pos:Pos} (h:noStar e=true):backTo pos (starEach [e] env)=[(false,eval e env)]:=by rw [starEach_cons h];rfl
theorem arg2 {e f:Expr} {pos:Pos} (h:noStar e=true) (h':noStar f=true):backTo pos (starEach [e,f] env)=[(false,eval e env),(false,eval f env)]:=by rw [starEach_cons h,starEach_cons h'];rfl
theorem EvE.get {ob e1 e2:Expr} {apos pos:Pos} {a d:AV} {k:Str} {l l':Mp} (h0:EvE C D sc m σ ob a σ1) (h1:EvE C D sc m σ1 e1 (.p (.str k)) σ2) (h2:EvE C D sc m σ2 e2 d σ3) (ha1:asD σ1 a=some l') (ha:asD σ3 a=some l) (hb:notCall ob=true) (n1:noStar e1=true) (n2:noStar e2=true) (hline:(apos.endLine == pos.line)=true) :
  EvE C D sc m σ (.Call (.Attribute ob "get" apos) [e1,e2] [] pos) ((l.lookup k).getD d) σ3:=fun A G env hA I K Q E hQ=>by
 refine wpAny_Call_method2_late (attributeBase_of hb) hline (arg2 n1 n2) ?_
 refine h0 A G env hA I K _ _ fun u G1 s1 I1 V1=>?_
 refine Zeeaaa (asD_vr I1 V1 ha1) fun x f1 z116 hm1 _ hs=>?_
 obtain rfl:=z116
 refine (Ieeaaaaa ("dict") ("dict.get") F.plainAttrs_dict F.slot_dict_get F.type_dict_get hm1.typeIs hm1.noDict ?_)
 refine wpAny_dict_get2 (knd:=strKind C.prog C.w) hs ?_
 have K1:=K.step I s1
 refine h1 A G1 env hA I1 K1 _ _ fun u1 G2 s2 I2 V2=>?_
 refine h2 A G2 env hA I2 (K1.step I1 s2) _ _ fun u2 G3 s3 I3 V3=>?_
 have s13:=s2.trr I1 s3
 refine Zeeaaa (asD_vr I3 (V1.step I1 s13 I1.hX) ha) fun x' f ex hm hf _=>?_
 cases ex
 refine Za V2.str_shape fun z115 _=>?_
 refine Ze z115 fun t z198=>?_
 obtain rfl:=z198
 refine (Ieeaa k f (strKind_self k t) hm ?_)
 refine hQ _ (G3.grow G3.h (G3.s.toks+1) fun _=>False) ((s1.trr I s13).trr I (toks_step _)) (toks_inv I3 _) ?_
 cases q:l.lookup k with
 | none=>rw [hf.2 k q];exact V3.step I3 (toks_step _) I3.hX
 | some y=>
  refine Zea (hf.1 k y q) fun w ew Vw=>?_
  rw [ew];exact Vw.step I3 (toks_step _) I3.hX
theorem valueAt_cons (y:Str) (w:Value) (r:List (Str × Value)) (x:Str):valueAt ((y,w)::r) x=if y=x then some w else valueAt r x:=by
 unfold valueAt
 rw [List.find?_cons]
 by_cases h:y=x<;>simp [h]
theorem valueAt_map_ne {k x:Str} {u:Value} (hx:¬ x=k):∀ (kvs:List (Str × Value)),valueAt (kvs.map fun kv=>if kv.1=k then (kv.1,u) else kv) x=valueAt kvs x
 | []=>rfl
 | (y,w)::r=>by
  rw [List.map_cons]
  by_cases h:y=k
  ·rw [if_pos h,valueAt_cons,valueAt_cons,valueAt_map_ne hx r]
   have:¬ y=x:=fun q=>hx (q.symm.trans h)
   rw [if_neg this,if_neg this]
  ·rw [if_neg h,valueAt_cons,valueAt_cons,valueAt_map_ne hx r]
theorem valueAt_map_self {k:Str} {u:Value}:∀ (kvs:List (Str × Value)),(kvs.any fun kv=>kv.1=k)=true→valueAt (kvs.map fun kv=>if kv.1=k then (kv.1,u) else kv) k=some u
 | (y,w)::r,h=>by
  rw [List.map_cons]
  by_cases hy:y=k
  ·rw [if_pos hy,valueAt_cons,if_pos hy]
  ·rw [if_neg hy,valueAt_cons,if_neg hy]
   exact valueAt_map_self r (by simpa [List.any_cons,hy] using h)
theorem valueAt_append {x:Str}:∀ (kvs r:List (Str × Value)),valueAt (kvs++r) x=(valueAt kvs x).or (valueAt r x)
 | [],r=>by simp [valueAt]
 | (y,w)::t,r=>by
  rw [List.cons_append,valueAt_cons,valueAt_cons,valueAt_append t r]
  by_cases h:y=x<;>simp [h]
theorem valueAt_stored (kvs:List (Str × Value)) (k:Str) (u:Value) (x:Str):valueAt (stored kvs k u) x=if x=k then some u else valueAt kvs x:=by
 unfold stored
 by_cases ha:(kvs.any fun kv=>kv.1=k)=true
 ·rw [if_pos ha]
  by_cases hx:x=k
  ·subst hx;rw [if_pos rfl];exact valueAt_map_self kvs ha
  ·rw [if_neg hx];exact valueAt_map_ne hx kvs
 ·rw [if_neg ha,valueAt_append]
  have e:valueAt [(k,u)] x=if x=k then some u else none:=by
   rw [valueAt_cons]
   by_cases hx:x=k
   ·rw [if_pos hx,if_pos hx.symm]
   ·rw [if_neg hx,if_neg (fun q=>hx q.symm)];rfl
  rw [e]
  by_cases hx:x=k
  ·subst hx
   have:valueAt kvs x=none:=by
    cases q:valueAt kvs x with
    | none=>rfl
    | some w=>
     unfold valueAt at q
     rw [Option.map_eq_some_iff] at q
     refine Zea q fun kv h1 _=>?_
     have h2:=List.find?_some h1
     exact absurd (List.any_eq_true.mpr (Iea kv (List.mem_of_find?_eq_some h1) h2)) ha
   rw [this];simp
  ·rw [if_neg hx,if_neg hx];simp
theorem lookup_cons_self {k:Str} {l:Mp}:((k,v)::l).lookup k=some v:=by simp
theorem dct_put {a:Addr} {l:Mp} {kvs:List (Str × Value)} {k:Str} {u:Value} {h':Heap} {tk:Nat} (hl:kvs.length≤l.length) (hf:FRel C G (valueAt kvs) l) (V:VR C G u v) (hF:¬ G.F a)
  (hd:h'.DictOf (strKind C.prog C.w) a (stored kvs k u)) (hk:∀ b ob,b≠a→G.h.get? b=some ob→h'.get? b=some ob) (hs:(a == sysModules)=false):TrO C (G.at h' tk) a (.dct ((k,v)::l)):=by
 refine Zeeeaaa hd fun ob es n h1 h2 h3 h4=>?_
 refine (Ieeeaaaeaaa ob es n h1 h2 h3 _ h4 ?_ ⟨fun y x hy=>?_,fun y hy=>?_⟩ hs)
 ·have:=stored_length_le kvs k u
  simp;omega
 ·rw [valueAt_stored]
  by_cases hyk:y=k
  ·subst hyk
   rw [lookup_cons_self] at hy;cases hy
   exact (Iea u (by simp) (V.atK hF hk))
  ·rw [List.lookup_cons,show (y == k)=false by simpa using hyk] at hy
   refine Zea (hf.1 y x hy) fun w e1 e2=>?_
   exact (Iea w (by simp [hyk,e1]) (e2.atK hF hk))
 ·rw [valueAt_stored]
  by_cases hyk:y=k
  ·subst hyk;rw [lookup_cons_self] at hy;cases hy
  ·rw [List.lookup_cons,show (y == k)=false by simpa using hyk] at hy
   simp [hyk,hf.2 y hy]
theorem setdef_pairs {d:Addr} {kvs:List (Str × Value)} {k:Str} {key dflt:Value} {s:Shared} {Q:Value→Shared→Prop} {E} (hkey:(strKind C.prog C.w).is k key=true) (hm:s.heap.DictOf (strKind C.prog C.w) d kvs)
  (h1:∀ u,valueAt kvs k=some u→Q u { s with toks:=s.toks+1 }) (h2:valueAt kvs k=none→∀ h',h'.DictOf (strKind C.prog C.w) d (stored kvs k dflt)→Heap.SameBut d s.heap h'→Q dflt { s with heap:=h',toks:=s.toks+1 }) (hsz:kvs.length≤sizeLine) :
  wpAny (model C.prog C.w) A (dictSetDefault d key dflt) Q E s:=by
 have hmap:=hm.mapOf
 refine Zeeeaaaaa hm fun o es ep ho hc hd hk hp hn=>?_
 have hes:es.size≤sizeLine:=by
  have e1:=hp.length
  have e2:es.toList.length=es.size:=by simp
  omega
 unfold dictSetDefault
 try with_reducible refine wpAny_holding ?_
 refine wpAny_bind ((strKind C.prog C.w).pyHash hkey ?_)
 refine wpAny_bind (wpAny_dictFind_of (s:={ s with toks:=s.toks+1 }) hkey ho hd hk ?_)
 have hf:∀ x,findBy (strKind C.prog C.w).is es x=valueAt kvs x:=fun x=>by
  refine Zeeeaaaa hmap fun o' es' ep' ho' _ hd' _ hf'=>?_
  rw [ho] at ho';cases ho';rw [hd] at hd';cases hd'
  exact hf' x
 have hidx:(es.findIdx? fun e=>(strKind C.prog C.w).is k e.key)=kvs.findIdx? fun kv=>decide (kv.1=k):=by
  rw [← hp.findIdx k];obtain ⟨l⟩:=es;simp
 cases hi:es.findIdx? fun e=>(strKind C.prog C.w).is k e.key with
 | some i=>
  have hfk:valueAt kvs k=(es[i]?).map (·.val):=by rw [← hf k,findBy_of_findIdx?,hi]
  refine wpAny_bind (wpAny_dictEntries (s:={ s with toks:=s.toks+1 }) ho hd ?_)
  cases he:es[i]? with
  | none=>
   exfalso
   have hlt:i < es.size:=(Array.findIdx?_eq_some_iff_findIdx_eq.mp hi).1
   rw [Array.getElem?_eq_getElem hlt] at he
   exact nomatch he
  | some e=>
   rw [he] at hfk
   exact wpAny_bind (wpAny_rule (wpAny_pure (h1 e.val hfk)))
 | none=>
  have hfk:valueAt kvs k=none:=by rw [← hf k,findBy_of_findIdx?,hi]
  have hany:(kvs.any fun kv=>decide (kv.1=k))=false:=by
   cases q:kvs.any fun kv=>decide (kv.1=k) with
   | false=>rfl
   | true=>
    rw [List.any_eq_true] at q
    refine Zea q fun kv hkv he=>?_
    have:=List.findIdx?_eq_none_iff.mp (hidx▸hi) kv hkv
    rw [he] at this;cases this
  have hst:stored kvs k dflt=kvs++[(k,dflt)]:=by unfold stored;rw [hany];rfl
  refine wpAny_bind (wpAny_rule (wpAny_bind (wpAny_updateDictKeys (hz:=hes) (s:={ s with toks:=s.toks+1 }) ho hd (wpAny_pure (h2 hfk _ ⟨_,_,ep+1,Heap.get?_update_self _ ho (Obj.isFreed_of_dict (Obj.data_mapDictKeys hd _)),hc.mapDictKeys _,Obj.data_mapDictKeys hd _,hk.push hkey _,?_,?_⟩ (Heap.SameBut.update ..))))))
  ·rw [hst]
   have:=hp.append hkey ((strKind C.prog C.w).hash k) dflt
   obtain ⟨l⟩:=es
   simpa using this
  ·rw [hst,List.map_append,List.nodup_append]
   refine (Iaa hn (by simp) (fun x hx y hy e=>?_))
   simp at hy
   refine Zea (List.mem_map.mp hx) fun kv hkv z114=>?_
   obtain rfl:=z114
   rw [List.any_eq_false] at hany
   exact hany kv hkv (by simp [e,hy])
end

section
theorem meets_setdef {d:Addr} {k:Str} {key dflt:Value} (hkey:(strKind C.prog C.w).is k key=true) (hs:(d == sysModules)=false) :
  MeetsIn C.prog C.w (Builtin.«dict.setdefault» ⟨[.ref d,key,dflt],[]⟩) (fun _ R s=>∃ kvs,s.heap.DictOf (strKind C.prog C.w) d kvs∧kvs.length≤sizeLine ∧
   (∀ u,valueAt kvs k=some u→R (.ok (.ret u)) { s with toks:=s.toks+1 }) ∧
   (valueAt kvs k=none→∀ h',h'.DictOf (strKind C.prog C.w) d (stored kvs k dflt)→Heap.SameBut d s.heap h'→R (.ok (.ret dflt)) { s with heap:=h',toks:=s.toks+1 })):=
 .of_wp fun A R s ⟨kvs,hm,hz,h1,h2⟩=>by
  unfold Builtin.«dict.setdefault»
  refine wpAny_bind ?_
  unfold Builtin.Dict.keyAndDefault
  refine wpAny_bind (wpAny_notOrdered_dict hm.typeIs ?_)
  refine (?_:wpAny _ _ (pure (d,key,some dflt)) _ _ s)
  refine wpAny_pure ?_
  refine (?_:wpAny _ _ (if (d == sysModules)=true then _ else (dictSetDefault d key dflt >>= _)) _ _ s)
  rw [if_neg (by rw [hs];exact Bool.false_ne_true)]
  exact wpAny_bind (setdef_pairs hkey hm (fun v hv=>wpAny_pure (Iea v rfl (h1 v hv))) (fun hn h' hm' hs'=>wpAny_pure (Iea dflt rfl (h2 hn h' hm' hs'))) hz)
theorem EvE.setdef {ob e1 e2:Expr} {apos pos:Pos} {d:AV} {k:Str} {i:Nat} {l l':Mp} (h0:EvE C D sc m σ ob (.loc i) σ1) (h1:EvE C D sc m σ1 e1 (.p (.str k)) σ2) (h2:EvE C D sc m σ2 e2 d σ3) (ha1:σ1[i]?=some (.dct l')) (ha:σ3[i]?=some (.dct l)) (hb:notCall ob=true) (n1:noStar e1=true) (n2:noStar e2=true) (hline:(apos.endLine == pos.line)=true) (hz:l.length≤sizeLine) :
  EvE C D sc m σ (.Call (.Attribute ob "setdefault" apos) [e1,e2] [] pos) ((l.lookup k).getD d) (if (l.lookup k).isSome then σ3 else σ3.set i (.dct ((k,d)::l))):=fun A G env hA I K Q E hQ=>by
 refine wpAny_Call_method2_late (attributeBase_of hb) hline (arg2 n1 n2) ?_
 refine h0 A G env hA I K _ _ fun u G1 s1 I1 V1=>?_
 refine V1.loc_elim fun a hr1=>?_
 refine Zeeeaaaeaaa (I1.tget hr1 ha1) fun o1 es1 n1' g1 g2 g3 kvs1 g4 g5 g6 hs=>?_
 have hm1:G1.h.DictOf (strKind C.prog C.w) a kvs1:=(Ieeeaaa o1 es1 n1' g1 g2 g3 g4)
 refine (Ieeaaaaa ("dict") ("dict.setdefault") F.plainAttrs_dict F.slot_dict_setdefault F.type_dict_setdefault hm1.typeIs hm1.mapOf.noDict ?_)
 refine method2_meetsIn F.slot_dict_setdefault F.entry_dict_setdefault ?_
 have K1:=K.step I s1
 refine h1 A G1 env hA I1 K1 _ _ fun u1 G2 s2 I2 V2=>?_
 refine h2 A G2 env hA I2 (K1.step I1 s2) _ _ fun u2 G3 s3 I3 V3=>?_
 have s13:=s2.trr I1 s3
 have hr3:=s13.rget hr1
 refine Zeeeaaaeaaa (I3.tget hr3 ha) fun o3 es3 n3 g1 g2 g3 kvs g4 g5 g6 hs=>?_
 have hm:G3.h.DictOf (strKind C.prog C.w) a kvs:=(Ieeeaaa o3 es3 n3 g1 g2 g3 g4)
 refine Za V2.str_shape fun z129 _=>?_
 apply RLe1 z129
 intro t
 have fin1:∀ w,valueAt kvs k=some w→Q w { G3.s with toks:=G3.s.toks+1 }:=fun w hw=>by
  cases q:l.lookup k with
  | none=>rw [g6.2 k q] at hw;cases hw
  | some y=>
   refine Zea (g6.1 k y q) fun w' ew Vw=>?_
   rw [hw] at ew;cases ew
   rw [q] at hQ
   exact hQ w (G3.grow G3.h (G3.s.toks+1) fun _=>False) ((s1.trr I s13).trr I (toks_step _)) (toks_inv I3 _) (Vw.step I3 (toks_step _) I3.hX)
 have fin2:valueAt kvs k=none→∀ h',h'.DictOf (strKind C.prog C.w) a (stored kvs k u2)→Heap.SameBut a G3.s.heap h'→Q u2 { G3.s with heap:=h',toks:=G3.s.toks+1 }:=fun hn h' hd' hs'=>by
  cases q:l.lookup k with
  | some y=>
   refine Zea (g6.1 k y q) fun w' ew Vw=>?_
   rw [hn] at ew;cases ew
  | none=>
   rw [q] at hQ
   have hk:∀ b ob,b≠a→G3.h.get? b=some ob→h'.get? b=some ob:=fun b ob hb e=>hs'.extBut b ob hb e
   have nFa:¬ G3.F a:=I3.trkF (List.mem_of_getElem? hr3)
   refine Zeeea (id hd') fun o' es' n' e' _=>?_
   refine Za (upd_ok (o':=.dct ((k,d)::l)) I3 hr3 h' (G3.s.toks+1) hk ⟨o',e'⟩ (dct_put g5 g6 V3 nFa hd' hk hs)) fun s4 I4=>?_
   exact hQ u2 (G3.at h' (G3.s.toks+1)) ((s1.trr I s13).trr I s4) I4 (V3.atK nFa hk)
 exact ⟨hm.typeIs,F.args_dict_setdefault_3 _ _ _,_,meets_setdef (strKind_self k t) hs,kvs,hm,Nat.le_trans g5 hz,fin1,fin2⟩
theorem Ex1.setItem {ob ix val:Expr} {tp pos:Pos} {k:Str} {i:Nat} {l:Mp} (h0:EvE C D sc m σ val v σ1) (h1:EvE C D sc m σ1 ob (.loc i) σ2) (h2:EvE C D sc m σ2 ix (.p (.str k)) σ3) (ha:σ3[i]?=some (.dct l)) (hz:l.length≤sizeLine) (hs:∀ env,swapsWith val (some (.Subscript ob ix tp)) pos.line env=pure false) :
  Ex1 C D sc m σ (.Assign [.Subscript ob ix tp] val pos) (.next m (σ3.set i (.dct ((k,v)::l)))):=fun A G env hA I K O TT Q E hQ=>by
 refine wpAny_Assign_Subscript ?_ (hs env)
 refine h0 A G env hA I K _ _ fun u0 G1 s1 I1 V1=>?_
 have K1:=K.step I s1
 refine h1 A G1 env hA I1 K1 _ _ fun u1 G2 s2 I2 V2=>?_
 refine h2 A G2 env hA I2 (K1.step I1 s2) _ _ fun u2 G3 s3 I3 V3=>?_
 have s13:=s2.trr I1 s3
 refine Za V3.str_shape fun z128 _=>?_
 apply RLe1 z128
 intro t
 refine V2.loc_elim fun a hr2=>?_
 have hr3:=s3.rget hr2
 have V1':=V1.step I1 s13 I1.hX
 refine Zeeeaaaeaaa (I3.tget hr3 ha) fun o3 es3 n3 g1 g2 g3 kvs g4 g5 g6 hs=>?_
 have hm:G3.h.DictOf (strKind C.prog C.w) a kvs:=(Ieeeaaa o3 es3 n3 g1 g2 g3 g4)
 have hz':kvs.length≤sizeLine:=Nat.le_trans g5 hz
 have fin:∀ h',h'.DictOf (strKind C.prog C.w) a (stored kvs k u0)→Heap.SameBut a G3.s.heap h'→Q .next { G3.s with heap:=h',toks:=G3.s.toks+1 }:=fun h' hd' hs'=>by
  have hk:∀ b ob,b≠a→G3.h.get? b=some ob→h'.get? b=some ob:=fun b ob hb e=>hs'.extBut b ob hb e
  have nFa:¬ G3.F a:=I3.trkF (List.mem_of_getElem? hr3)
  refine Zeeea (id hd') fun o' es' n' e' _=>?_
  refine Za (upd_ok (o':=.dct ((k,v)::l)) I3 hr3 h' (G3.s.toks+1) hk ⟨o',e'⟩ (dct_put g5 g6 V1' nFa hd' hk hs)) fun s4 I4=>?_
  have S:=(s1.trr I s13).trr I s4
  exact hQ (G3.at h' (G3.s.toks+1)) S.toX I4 (K.step I S)
 exact wpAny_setItem_pairs (Q:=fun _=>Q .next) (strKind_self k t) hm fin hz'
theorem EvE.append {ob e1:Expr} {apos pos:Pos} {i:Nat} {l l':List AV} (h0:EvE C D sc m σ ob (.loc i) σ1) (h1:EvE C D sc m σ1 e1 v σ2) (ha1:σ1[i]?=some (.lst l')) (ha:σ2[i]?=some (.lst l)) (hb:notCall ob=true) (n1:noStar e1=true) (hline:(apos.endLine == pos.line)=true) (hz:l.length≤sizeLine) :
  EvE C D sc m σ (.Call (.Attribute ob "append" apos) [e1] [] pos) (.p .none) (σ2.set i (.lst (l++[v]))):=fun A G env hA I K Q E hQ=>by
 refine wpAny_Call_method1_late (attributeBase_of hb) hline (arg1 n1) ?_
 refine h0 A G env hA I K _ _ fun u G1 s1 I1 V1=>?_
 refine V1.loc_elim fun a hr1=>?_
 refine Zeeeaaa (I1.tget hr1 ha1) fun o1 vs1 n1' g1 g2 g3 g4=>?_
 refine (Ieeaaaaa ("list") ("list.append") F.plainAttrs_list slot_list_append type_list_append (Iea o1 g1 g2.1) (fun b hb=>by cases hb;exact (Iea o1 g1 g2.2)) ?_)
 refine Calls.callWith_builtin rfl (Calls.evalArgs_plain (Calls.spliced_cons ?_))
 have K1:=K.step I s1
 refine h1 A G1 env hA I1 K1 _ _ fun u1 G2 s2 I2 V2=>Calls.spliced_nil ?_
 have hr2:=s2.rget hr1
 refine Zeeeaaa (I2.tget hr2 ha) fun o2 vs n2 g1 g2 g3 g4=>?_
 have hlen:=g4.length
 simp only [Array.length_toList] at hlen
 refine list_append_plainL (l:=a) (its:=vs) (Ieeaaa o2 n2 g1 g2.1 g2.2 g3) (fun h' hp hs'=>?_) (by walk_at "o")
 have hk:∀ b ob,b≠a→G2.h.get? b=some ob→h'.get? b=some ob:=fun b ob hb e=>hs'.extBut b ob hb e
 have nFa:¬ G2.F a:=I2.trkF (List.mem_of_getElem? hr2)
 refine Zeeaaa (id hp) fun o' n' e' c' d' dd'=>?_
 have VS:VRs C (G2.at h' G2.s.toks) vs.toList l:=VRs.mono (G:=G2) (G':=G2.at h' G2.s.toks) (fun _ h=>h) (fun b ob hf e=>hk b ob (fun q=>nFa (q▸hf)) e) (fun _ _ h=>h) g4
 refine Za (upd_ok (o':=.lst (l++[v])) I2 hr2 h' G2.s.toks hk ⟨o',e'⟩ (Ieeeaaa o' (vs.push u1) n' e' ⟨c',d'⟩ dd' (by rw [Array.toList_push];exact VS.snoc (V2.atK nFa hk)))) fun s4 I4=>?_
 exact hQ .none _ ((s1.trr I s2).trr I s4) I4 vr_none
theorem list_extendW (l b:Addr) (items:Array Value) (n:Nat) (items2:Array Value) (n2:Nat) (dd dd2:Option Addr) (sl sl2:Array (Option Value)) (hc0:¬(!items.isEmpty&&Builtin.List.listTooLong (items.size+items2.size))=true) (hc1:items.size≤sizeLine) (hs2:items.size+items2.size≤sizeLine+1) :
  Meets (Builtin.«list.extend» ⟨[.ref l,.ref b],[]⟩) (fun _ R s=>s.heap.get? l=some { cls:=.type "list",dict:=dd,data:=.seq items n,slots:=sl }∧s.heap.get? b=some { cls:=.type "list",dict:=dd2,data:=.seq items2 n2,slots:=sl2 }∧R (.ok (.ret Value.none)) { s with heap:=s.heap.update l (Obj.mapSeq fun xs=>xs++items2),toks:=s.toks }):=
 .of_wp fun prog w A R s h=>by
  obtain ⟨hp,g,d,tk,os⟩:=s;refine Zaa h fun hl hb h=>?_;have f1:=AutoSeq1.idx_int;have f2:=AutoSeq1.sub_tuple_tuple;have f3:=AutoSeq1.sub_list_list;have f4:=AutoSeq1.sub_tuple_list;have f5:=AutoSeq1.sub_list_tuple
  have hz':(items++items2).size≤sizeLine+1:=by rw [Array.size_append];exact hs2
  wp_walk using (wpAny_updateSeq hl rfl (hz:=hc1) (_hz':=hz')),wpAny_loadPart' hl,wpAny_loadPart' hb;exact (Iea _ rfl h)
end
end
structure JS (C:Cx) (D:Nat) (sc:Scope) (m:Mp) (σ:Sto) (ss:List Stmt) (o:Out):Prop where
 mk ::
 h:ExS C D sc m σ ss o
structure J1 (C:Cx) (D:Nat) (sc:Scope) (m:Mp) (σ:Sto) (s:Stmt) (o:Out):Prop where
 mk ::
 h:Ex1 C D sc m σ s o
structure JE (C:Cx) (D:Nat) (sc:Scope) (m:Mp) (σ:Sto) (e:Expr) (v:AV) (σ':Sto):Prop where
 mk ::
 h:EvE C D sc m σ e v σ'
structure JT (C:Cx) (D:Nat) (sc:Scope) (m:Mp) (σ:Sto) (e:Expr) (v:Bool) (σ':Sto):Prop where
 mk ::
 h:EvT C D sc m σ e v σ'
structure JL (C:Cx) (D:Nat) (sc:Scope) (m:Mp) (σ:Sto) (e:List Expr) (v:List AV) (σ':Sto):Prop where
 mk ::
 h:EvL C D sc m σ e v σ'
inductive SeqK (C:Cx) (D:Nat) (sc:Scope):Out→List Stmt→Out→Prop
 | nx {m σ ss o}:JS C D sc m σ ss o→SeqK C D sc (.next m σ) ss o
 | rt {v σ ss}:SeqK C D sc (.ret v σ) ss (.ret v σ)
 | ex {c σ ss}:SeqK C D sc (.exc c σ) ss (.exc c σ)
inductive IfK (C:Cx) (D:Nat) (sc:Scope) (m:Mp) (σ:Sto):Bool→List Stmt→List Stmt→Out→Prop
 | t {b e o}:JS C D sc m σ b o→IfK C D sc m σ true b e o
 | f {b e o}:JS C D sc m σ e o→IfK C D sc m σ false b e o
inductive IfEK (C:Cx) (D:Nat) (sc:Scope) (m:Mp) (σ:Sto):Bool→Expr→Expr→AV→Sto→Prop
 | t {b e v σ'}:JE C D sc m σ b v σ'→IfEK C D sc m σ true b e v σ'
 | f {b e v σ'}:JE C D sc m σ e v σ'→IfEK C D sc m σ false b e v σ'
inductive AndK (C:Cx) (D:Nat) (sc:Scope) (m:Mp) (σ:Sto):Bool→List Expr→Bool→Sto→Prop
 | t {r b σ'}:(∀ pos,JT C D sc m σ (.BoolOp .And r pos) b σ')→AndK C D sc m σ true r b σ'
 | f {r}:AndK C D sc m σ false r false σ
inductive OrK (C:Cx) (D:Nat) (sc:Scope) (m:Mp) (σ:Sto):Bool→List Expr→Bool→Sto→Prop
 | f {r b σ'}:(∀ pos,JT C D sc m σ (.BoolOp .Or r pos) b σ')→OrK C D sc m σ false r b σ'
 | t {r}:OrK C D sc m σ true r true σ
section
variable {C:Cx} {D n:Nat} {sc sc0 scope:Scope} {m m' mB mC:Mp} {σ σ' σ'' σ1 σ2 σ3:Sto} {v:AV} {o:Out} {A A2:Around} {G G' G'' R:St} {env:Env} {c e T:Addr} {X Y Z:Addr→Prop}
section
variable {o':Out} {c b:Bool} {x:Str}
theorem JS.nil:JS C D sc m σ [] (.next m σ):=⟨ExS.nil⟩
theorem JS.seq {s:Stmt} {ss:List Stmt} (h:J1 C D sc m σ s o') (h2:SeqK C D sc o' ss o):JS C D sc m σ (s::ss) o:=by
 cases h2 with
 | nx h2=>exact ⟨ExS.cons h.h h2.h⟩
 | rt=>exact ⟨ExS.ret h.h⟩
 | ex=>exact ⟨ExS.exc h.h⟩
theorem J1.ife {t:Expr} {bb e:List Stmt} {pos} (h:JT C D sc m σ t c σ') (h2:IfK C D sc m σ' c bb e o):J1 C D sc m σ (.If t bb e pos) o:=by
 cases h2 with
 | t h2=>exact ⟨Ex1.ifT h.h h2.h⟩
 | f h2=>exact ⟨Ex1.ifF h.h h2.h⟩
theorem JE.ife {t bb e:Expr} {pos} (h:JT C D sc m σ t c σ') (h2:IfEK C D sc m σ' c bb e v σ''):JE C D sc m σ (.IfExp t bb e pos) v σ'':=by
 cases h2 with
 | t h2=>exact ⟨EvE.ifT h.h h2.h⟩
 | f h2=>exact ⟨EvE.ifF h.h h2.h⟩
theorem JT.and {e:Expr} {r:List Expr} {pos} (h:JT C D sc m σ e c σ') (h2:AndK C D sc m σ' c r b σ''):JT C D sc m σ (.BoolOp .And (e::r) pos) b σ'':=by
 cases h2 with
 | t h2=>exact ⟨EvT.andT h.h (h2 _).h⟩
 | f=>exact ⟨EvT.andF h.h⟩
theorem JT.or {e:Expr} {r:List Expr} {pos} (h:JT C D sc m σ e c σ') (h2:OrK C D sc m σ' c r b σ''):JT C D sc m σ (.BoolOp .Or (e::r) pos) b σ'':=by
 cases h2 with
 | t=>exact ⟨EvT.orT h.h⟩
 | f h2=>exact ⟨EvT.orF h.h (h2 _).h⟩
theorem JT.andNil {pos}:JT C D sc m σ (.BoolOp .And [] pos) true σ:=⟨EvT.andNil⟩
theorem JT.orNil {pos}:JT C D sc m σ (.BoolOp .Or [] pos) false σ:=⟨EvT.orNil⟩
theorem JT.not {x:Expr} {pos} (h:JT C D sc m σ x c σ'):JT C D sc m σ (.UnaryOp .Not x pos) (!c) σ':=⟨EvT.not h.h⟩
theorem JT.cmp {l r:Expr} {op:CmpOp} {pos} {a b:AV} {c:Bool} (h1:JE C D sc m σ l a σ') (h2:JE C D sc m σ' r b σ'') (h:cmpV op a b σ''=some c) (hm:behindInMarks op r=false):JT C D sc m σ (.Compare l [op] [r] pos) c σ'':=⟨EvT.compare h1.h h2.h h hm⟩
theorem JE.cmp {l r:Expr} {op:CmpOp} {pos} {a b:AV} {c:Bool} (h1:JE C D sc m σ l a σ') (h2:JE C D sc m σ' r b σ'') (h:cmpV op a b σ''=some c) (hm:behindInMarks op r=false):JE C D sc m σ (.Compare l [op] [r] pos) (.p (.bool c)) σ'':=⟨EvE.compare h1.h h2.h h hm⟩
theorem JE.name {x pos} (h:m.lookup x=some v) (hk:sc.names.lookup x=some .local∨sc.names.lookup x=some .cell∨sc.names.lookup x=some .free) (hd:(x == ("__debug__":Str))=false) (hc:(x == ("__classdict__":Str))=false):JE C D sc m σ (.Name x pos) v σ:=⟨EvE.name h hk hd hc⟩
theorem JE.cInt {i k pos}:JE C D sc m σ (.Constant (.int i) k pos) (.p (.int i)) σ:=⟨EvE.cInt⟩
theorem JE.cNone {k pos}:JE C D sc m σ (.Constant .none k pos) (.p .none) σ:=⟨EvE.cNone⟩
theorem JE.cBool {b k pos}:JE C D sc m σ (.Constant (.bool b) k pos) (.p (.bool b)) σ:=⟨EvE.cBool⟩
theorem JE.cStr {x k pos} (hx:PyData.strOk x=true):JE C D sc m σ (.Constant (.str x) k pos) (.p (.str x)) σ:=⟨EvE.cStr hx⟩
theorem JE.sub {x i:Expr} {pos} {a b:AV} (h1:JE C D sc m σ x a σ') (h2:JE C D sc m σ' i b σ'') (h:Op2 C D (subscriptTail x i) a b σ'' v σ''):JE C D sc m σ (.Subscript x i pos) v σ'':=⟨EvE.sub h1.h h2.h h⟩
theorem JE.bin {l r:Expr} {op:Operator} {pos} {a b:AV} (h1:JE C D sc m σ l a σ') (h2:JE C D sc m σ' r b σ'') (h:Op2 C D (binaryOp op) a b σ'' v σ''):JE C D sc m σ (.BinOp l op r pos) v σ'':=⟨EvE.bin h1.h h2.h h⟩
theorem JE.un {x:Expr} {op:UnaryOp} {pos} {a:AV} (h1:JE C D sc m σ x a σ') (h:Op1 C D (unaryOp op) a σ' v σ'):JE C D sc m σ (.UnaryOp op x pos) v σ':=⟨EvE.un h1.h h⟩
theorem JE.attr {x:Expr} {name:Str} {pos} {a:AV} (h1:JE C D sc m σ x a σ') (hx:notCall x=true) (h:Op1 C D (fun u=>getAttr u name true) a σ' v σ'):JE C D sc m σ (.Attribute x name pos) v σ':=⟨EvE.attr h1.h hx h⟩
theorem JE.tuple {es:List Expr} {vs:List AV} {xs:List PyData} {k pos} (h:JL C D sc m σ es vs σ') (hp:allP vs=some xs) (hn:xs.length≤1000):JE C D sc m σ (.Tuple es k pos) (.p (.tuple xs)) σ':=⟨EvE.tuple h.h hp hn⟩
theorem JE.list {es:List Expr} {vs:List AV} {xs:List PyData} {pos} (h:JL C D sc m σ es vs σ') (hp:allP vs=some xs) (hn:vs.length≤1000):JE C D sc m σ (.List es pos) (.p (.list xs)) σ':=⟨by have:=EvE.list (pos:=pos) h.h hn;unfold mkL at this;rw [hp] at this;exact this⟩
theorem JL.nil:JL C D sc m σ [] [] σ:=⟨EvL.nil⟩
theorem JL.cons {e:Expr} {es:List Expr} {vs:List AV} (hs:noStar e=true) (h1:JE C D sc m σ e v σ') (h2:JL C D sc m σ' es vs σ''):JL C D sc m σ (e::es) (v::vs) σ'':=⟨EvL.cons hs h1.h h2.h⟩
theorem J1.assign {x:Str} {xp pos} {val:Expr} (h:JE C D sc m σ val v σ') (hk:sc.names.lookup x=some .local∨sc.names.lookup x=some .cell) (hs:∀ env,swapsWith val (some (.Name x xp)) pos.line env=pure false):J1 C D sc m σ (.Assign [.Name x xp] val pos) (.next ((x,v)::m) σ'):=⟨Ex1.assign h.h hk hs⟩
theorem J1.retE {x:Expr} {pos} (h:JE C D sc m σ x v σ'):J1 C D sc m σ (.Return (some x) pos) (.ret v σ'):=⟨Ex1.retE h.h⟩
theorem J1.retN {pos}:J1 C D sc m σ (.Return none pos) (.ret (.p .none) σ):=⟨Ex1.retN⟩
theorem J1.expr {x:Expr} {pos} (h:JE C D sc m σ x v σ') (hs:∀ env,swapsWith x none pos.line env=pure false):J1 C D sc m σ (.Expr x pos) (.next m σ'):=⟨Ex1.expr h.h hs⟩
noncomputable def plainTest:Expr→Bool
 | .Call ..=>true
 | .Subscript ..=>true
 | .Name ..=>true
 | _=>false
theorem JT.val {e:Expr} (h:JE C D sc m σ e (.p (.bool c)) σ') (hp:plainTest e=true):JT C D sc m σ e c σ':=⟨EvT.plain h.h fun env whole=>by
 cases e<;>first | (cases hp;done) | rfl⟩
theorem EvE.fn (ok:C.Ok) {f:Addr} {ps:List Str} {body:List Stmt} {scf:Scope} {pos} (F:FunOk C x f ps body scf) (hk:sc.names.lookup x=some .globalImplicit) (hd:(x == ("__debug__":Str))=false):EvE C D sc m σ (.Name x pos) (.val (.ref f)) σ:=
 EvE.glob (gl:=fun y=>if y=x then some (.val (.ref f)) else none) ok (fun y v h=>by
  by_cases hy:y=x
  ·subst hy;simp at h;subst h;exact (Iea _ F.name (fun _ _ _=>.val _))
  ·simp [hy] at h) (by simp) hk hd
theorem EvE.str (ok:C.Ok) {s:Str} {pos} (h:∃ t,C.mg x=some (.str s t)) (hs:PyData.strOk s=true) (hk:sc.names.lookup x=some .globalImplicit) (hd:(x == ("__debug__":Str))=false):EvE C D sc m σ (.Name x pos) (.p (.str s)) σ:=by
 refine Ze h fun t h=>?_
 exact EvE.glob (gl:=fun y=>if y=x then some (.p (.str s)) else none) ok (fun y v hy=>by
  by_cases hyx:y=x
  ·subst hyx;simp at hy;subst hy;exact (Iea _ h (fun _ _ _=>vr_str t hs))
  ·simp [hyx] at hy) (by simp) hk hd
theorem JE.fn (ok:C.Ok) {f:Addr} {ps:List Str} {body:List Stmt} {scf:Scope} {pos} (F:FunOk C x f ps body scf) (hk:sc.names.lookup x=some .globalImplicit) (hd:(x == ("__debug__":Str))=false):JE C D sc m σ (.Name x pos) (.val (.ref f)) σ:=⟨EvE.fn ok F hk hd⟩
theorem JE.gstr (ok:C.Ok) {s:Str} {pos} (h:∃ t,C.mg x=some (.str s t)) (hs:PyData.strOk s=true) (hk:sc.names.lookup x=some .globalImplicit) (hd:(x == ("__debug__":Str))=false):JE C D sc m σ (.Name x pos) (.p (.str s)) σ:=⟨EvE.str ok h hs hk hd⟩
theorem JE.callFn (ok:C.Ok) {f:Addr} {ps:List Str} {body:List Stmt} {scf:Scope} {np pos} {a:Expr} {args:List Expr} {vs:List AV} (F:FunOk C x f ps body scf) (hk:sc.names.lookup x=some .globalImplicit) (hd:(x == ("__debug__":Str))=false) (hs:noStars (a::args)=true) (ha:JL C D sc m σ (a::args) vs σ')
  (h:CallR C D f vs σ' (.ret v σ'')):JE C D sc m σ (.Call (.Name x np) (a::args) [] pos) v σ'':=⟨EvE.call ok (EvE.fn ok F hk hd) F.keep hs ha.h h⟩
theorem JE.callBi (ok:C.Ok) {u:Value} {np pos} {a:Expr} {args:List Expr} {vs:List AV} (hm:C.mg x=none) (hb:bootBuiltins x=some u) (hn:x≠"__name__") (hk:sc.names.lookup x=some .globalImplicit) (hd:(x == ("__debug__":Str))=false) (hr:nonRef u=true) (hs:noStars (a::args)=true) (ha:JL C D sc m σ (a::args) vs σ')
  (h:BI C D u vs σ' v σ''):JE C D sc m σ (.Call (.Name x np) (a::args) [] pos) v σ'':=⟨EvE.bi (EvE.builtin ok hm hb hn hk hd) hr hs ha.h h⟩
end

section
variable {v1 v2:AV}
theorem pair_ok {es:List Expr} {k:Nat} {pos:Pos} (h:EvL C D sc m σ es [v1,v2] σ') (hA:AOk A D) (I:Inv C G σ) (K:EnvOk C A G env sc m) {Q:Value→Shared→Prop} {E}
  (hQ:∀ t u1 u2 G',Step C G.tr G G'→Inv C G' σ'→VR C G' u1 v1→VR C G' u2 v2→G'.h.IsTuple t #[u1,u2]→Q (.ref t) G'.s):W C A (eval (.Tuple es k pos) env) Q E G.s:=by
 refine PyProof.Rows.Tuple_ (h A G env pos hA I K _ _ fun us G' st I' VS=>?_)
 apply RLeeaa2 (vrs2 VS)
 intro u1 u2 V1 V2
 refine wpAny_newTuple ?_ (show 2≤sizeLine by decide)
 refine Za (priv_ok (X:=G'.tr) I' { cls:=.type "tuple",data:=.seq ([u1,u2]:List Value).toArray } G'.s.toks) fun s1 I1=>?_
 exact hQ G'.sz u1 u2 (G'.priv { cls:=.type "tuple",data:=.seq ([u1,u2]:List Value).toArray } G'.s.toks) (st.trr I s1) I1 (V1.step I' s1 I'.hX) (V2.step I' s1 I'.hX) (Ieaae _ (Heap.get?_push_size _ rfl) rfl 0 rfl)
theorem grow_ok {h':Heap} {tk:Nat} (I:Inv C G σ) (hk:∀ b ob,G.h.get? b=some ob→h'.get? b=some ob):Step C (fun _=>False) G (G.at h' tk)∧Inv C (G.at h' tk) σ:=by
 refine Za (side_ok (W:=[]) I h' tk (fun b ob _ e=>hk b ob e) (fun b hb=>nomatch hb)) fun s1 I1=>?_
 exact ⟨s1.weaken (fun a ha=>nomatch ha),I1⟩
theorem Ex1.assign2 {x y:Str} {xp yp tp pos vp:Pos} {k k':Nat} {es:List Expr} (h:EvL C D sc m σ es [v1,v2] σ') (hx:sc.names.lookup x=some .local) (hy:sc.names.lookup y=some .local) (hs:∀ env,env.scope.kind=.function→env.kindOf x=some .local→env.kindOf y=some .local→swappedStores [.Tuple [.Name x xp,.Name y yp] k tp] (.Tuple es k' vp) env=pure (some [x,y])) :
  Ex1 C D sc m σ (.Assign [.Tuple [.Name x xp,.Name y yp] k tp] (.Tuple es k' vp) pos) (.next ((x,v1)::(y,v2)::m) σ'):=fun A G env hA I K O TT Q E hQ=>by
 refine Assign_Tuple_swapped (names:=[x,y]) (pair_ok h hA I K fun t u1 u2 G1 s1 I1 V1 V2 ht=>?_) rfl (hs env (by rw [K.scE];exact K.kind) ((K.kindOf x).trans hx) ((K.kindOf y).trans hy))
 have K1:=K.step I s1
 refine wpAny_unpackItems_tuple (items:=#[u1,u2]) hA.1 ht fun h' hx'=>?_
 have hk:∀ b ob,G1.h.get? b=some ob→h'.get? b=some ob:=fun b ob e=>hx' b ob (Nat.ne_of_lt (Heap.lt_size e)) e
 refine Za (grow_ok (tk:=G1.s.toks) I1 hk) fun s2 I2=>?_
 have K2:=K1.step I1 (s2.weaken fun _ h=>h.elim)
 have O2:=(O.step K s1).step K1 s2
 refine assignInOrder_cons (bindName_ (store_ok I2 K2 O2 (V2.step I1 s2 fun _ h=>h.elim) (.inl hy) fun G3 s3 I3 K3=>?_))
 have O3:=O2.step K2 s3
 refine assignInOrder_cons (bindName_ (store_ok I3 K3 O3 ((V1.step I1 s2 fun _ h=>h.elim).step I2 s3 (Xs.nF I2 K2 O2)) (.inl hx) fun G4 s4 I4 K4=>assignInOrder_nil ?_))
 exact hQ G4 ((s1.toX.trs (s2.weaken fun _ h=>h.elim)).trs (s3.trs s4)) I4 K4
theorem Ex1.assign2n {x y:Str} {xp yp tp pos vp:Pos} {k k':Nat} {es:List Expr} (h:EvL C D sc m σ es [v1,v2] σ') (hx:sc.names.lookup x=some .local∨sc.names.lookup x=some .cell) (hy:sc.names.lookup y=some .local∨sc.names.lookup y=some .cell) (hs:∀ env,env.scope=sc→swappedStores [.Tuple [.Name x xp,.Name y yp] k tp] (.Tuple es k' vp) env=pure none) :
  Ex1 C D sc m σ (.Assign [.Tuple [.Name x xp,.Name y yp] k tp] (.Tuple es k' vp) pos) (.next ((y,v2)::(x,v1)::m) σ'):=fun A G env hA I K O TT Q E hQ=>by
 refine PyProof.Rows.Assign_Tuple (pair_ok h hA I K fun t u1 u2 G1 s1 I1 V1 V2 ht=>?_) rfl (hs env K.scE)
 have K1:=K.step I s1
 refine wpAny_assign_Tuple (items:=#[u1,u2]) hA.1 ht rfl rfl fun h' hx'=>?_
 have hk:∀ b ob,G1.h.get? b=some ob→h'.get? b=some ob:=fun b ob e=>hx' b ob (Nat.ne_of_lt (Heap.lt_size e)) e
 refine Za (grow_ok (tk:=G1.s.toks) I1 hk) fun s2 I2=>?_
 have K2:=K1.step I1 (s2.weaken fun _ h=>h.elim)
 have O2:=(O.step K s1).step K1 s2
 refine assignInOrder_cons (wpAny_assign_Name (store_ok I2 K2 O2 (V1.step I1 s2 fun _ h=>h.elim) hx fun G3 s3 I3 K3=>?_))
 have O3:=O2.step K2 s3
 refine assignInOrder_cons (wpAny_assign_Name (store_ok I3 K3 O3 ((V2.step I1 s2 fun _ h=>h.elim).step I2 s3 (Xs.nF I2 K2 O2)) hy fun G4 s4 I4 K4=>assignInOrder_nil ?_))
 exact hQ G4 ((s1.toX.trs (s2.weaken fun _ h=>h.elim)).trs (s3.trs s4)) I4 K4
theorem J1.assign2 {x y:Str} {xp yp tp pos vp:Pos} {k k':Nat} {es:List Expr} (h:JL C D sc m σ es [v1,v2] σ') (hx:sc.names.lookup x=some .local) (hy:sc.names.lookup y=some .local) (hs:∀ env,env.scope.kind=.function→env.kindOf x=some .local→env.kindOf y=some .local→swappedStores [.Tuple [.Name x xp,.Name y yp] k tp] (.Tuple es k' vp) env=pure (some [x,y])) :
  J1 C D sc m σ (.Assign [.Tuple [.Name x xp,.Name y yp] k tp] (.Tuple es k' vp) pos) (.next ((x,v1)::(y,v2)::m) σ'):=⟨Ex1.assign2 h.h hx hy hs⟩
theorem J1.assign2n {x y:Str} {xp yp tp pos vp:Pos} {k k':Nat} {es:List Expr} (h:JL C D sc m σ es [v1,v2] σ') (hx:sc.names.lookup x=some .local∨sc.names.lookup x=some .cell) (hy:sc.names.lookup y=some .local∨sc.names.lookup y=some .cell) (hs:∀ env,env.scope=sc→swappedStores [.Tuple [.Name x xp,.Name y yp] k tp] (.Tuple es k' vp) env=pure none) :
  J1 C D sc m σ (.Assign [.Tuple [.Name x xp,.Name y yp] k tp] (.Tuple es k' vp) pos) (.next ((y,v2)::(x,v1)::m) σ'):=⟨Ex1.assign2n h.h hx hy hs⟩
noncomputable def swF (env:Env) (l:Nat):Expr→Option Str
 | .Name id pos=>if env.kindOf id == some .local&&pos.line == l then some id else none
 | _=>none
theorem swapped_eq {x y:Str} {xp yp tp vp:Pos} {k k':Nat} {es:List Expr} {env:Env}:swappedStores [.Tuple [.Name x xp,.Name y yp] k tp] (.Tuple es k' vp) env=(if (!((2:Nat) == 2||(2:Nat) == 3)||es.length != 2||env.blockKind != .function)=true then (pure none:Sem (Option (List Str))) else if (es.any fun | .Starred ..=>true | _=>false)=true then pure none else
  if ((([Expr.Name x xp,.Name y yp].filterMap (swF env xp.line)).length != 2)||(([Expr.Name x xp,.Name y yp].filterMap (swF env xp.line)).eraseDups.length != ([Expr.Name x xp,.Name y yp].filterMap (swF env xp.line)).length))=true then pure none else if es.all (foldedForSure 8)=true then pure none else if es.all (constantsAlone 8)=true then ((unsupported "assign.tuple-of-constant-expressions:order-of-the-stores":Sem PUnit) >>= fun _=>pure (some ([Expr.Name x xp,.Name y yp].filterMap (swF env xp.line)))) else pure (some ([Expr.Name x xp,.Name y yp].filterMap (swF env xp.line)))):=rfl
theorem ite4 {α:Type} {a b c d:Bool} {p q:α} (h:c=true∨d=true):(if a=true then p else if b=true then p else if c=true then p else if d=true then p else q)=p:=by
 rcases h with rfl | rfl<;>cases a<;>cases b<;>first | rfl | (cases c<;>rfl)
theorem swapped_cell {x y:Str} {xp yp tp vp:Pos} {k k':Nat} {es:List Expr} {env:Env} (hx:env.kindOf x=some .cell):swappedStores [.Tuple [.Name x xp,.Name y yp] k tp] (.Tuple es k' vp) env=pure none:=by
 have f1:swF env xp.line (.Name x xp)=none:=by
  refine (?_:(if (env.kindOf x == some .local&&xp.line == xp.line)=true then some x else none)=none)
  rw [hx];rfl
 rw [swapped_eq,List.filterMap_cons_none f1]
 refine ite4 (.inl ?_)
 cases q:swF env xp.line (.Name y yp) with
 | none=>rw [List.filterMap_cons_none q];rfl
 | some z=>rw [List.filterMap_cons_some q];rfl
theorem swapped_of {x y:Str} {xp yp tp vp:Pos} {k k':Nat} {es:List Expr} (hl:es.length=2) (hst:(es.any fun | .Starred ..=>true | _=>false)=false) (hp:(xp.line == yp.line)=true) (hxy:(x == y)=false) (hf:es.all (foldedForSure 8)=false) (hc:es.all (constantsAlone 8)=false) :
  ∀ env:Env,env.scope.kind=.function→env.kindOf x=some .local→env.kindOf y=some .local→swappedStores [.Tuple [.Name x xp,.Name y yp] k tp] (.Tuple es k' vp) env=pure (some [x,y]):=fun env hk hx hy=>by
 have hb:(env.blockKind != .function)=false:=by
  unfold Env.blockKind
  rw [hk];rfl
 have f1:swF env xp.line (.Name x xp)=some x:=by
  refine (?_:(if (env.kindOf x == some .local&&xp.line == xp.line)=true then some x else none)=_)
  rw [hx,beq_self_eq_true xp.line];rfl
 have f2:swF env xp.line (.Name y yp)=some y:=by
  refine (?_:(if (env.kindOf y == some .local&&yp.line == xp.line)=true then some y else none)=_)
  rw [hy,BEq.comm (a:=yp.line),hp];rfl
 have hn:[Expr.Name x xp,.Name y yp].filterMap (swF env xp.line)=[x,y]:=by
  rw [List.filterMap_cons_some f1,List.filterMap_cons_some f2];rfl
 have hyx:(!y == x)=true:=by rw [BEq.comm,hxy];rfl
 have he:[x,y].eraseDups=[x,y]:=by
  rw [List.eraseDups_cons,List.filter_cons,if_pos hyx];rfl
 rw [swapped_eq,hn,he,hl,hb,hst,hf,hc]
 rfl
end
end
inductive CompJ0 (C:Cx) (D:Nat) (sc:Scope) (bt:AV→Option (Mp)) (elt:Expr) (m:Mp):List AV→Sto→List AV→Sto→Prop
 | nil {σ}:CompJ0 C D sc bt elt m [] σ [] σ
 | cons {x xs b σ v σ2 vs σ'}:bt x=some b→JE C D sc (b++m) σ elt v σ2→CompJ0 C D sc bt elt m xs σ2 vs σ'→CompJ0 C D sc bt elt m (x::xs) σ (v::vs) σ'
inductive CompJ1 (C:Cx) (D:Nat) (sc:Scope) (bt:AV→Option (Mp)) (c elt:Expr) (m:Mp):List AV→Sto→List AV→Sto→Prop
 | nil {σ}:CompJ1 C D sc bt c elt m [] σ [] σ
 | keep {x xs b σ σ1 v σ2 vs σ'}:bt x=some b→JT C D sc (b++m) σ c true σ1→JE C D sc (b++m) σ1 elt v σ2→CompJ1 C D sc bt c elt m xs σ2 vs σ'→CompJ1 C D sc bt c elt m (x::xs) σ (v::vs) σ'
 | skip {x xs b σ σ1 vs σ'}:bt x=some b→JT C D sc (b++m) σ c false σ1→CompJ1 C D sc bt c elt m xs σ1 vs σ'→CompJ1 C D sc bt c elt m (x::xs) σ vs σ'
inductive CK (C:Cx) (D:Nat) (sc:Scope) (bt:AV→Option (Mp)) (c elt:Expr) (m b:Mp) (xs:List AV):Bool→Sto→List AV→Sto→Prop
 | t {σ1 v σ2 vs σ'}:JE C D sc (b++m) σ1 elt v σ2→CompJ1 C D sc bt c elt m xs σ2 vs σ'→CK C D sc bt c elt m b xs true σ1 (v::vs) σ'
 | f {σ1 vs σ'}:CompJ1 C D sc bt c elt m xs σ1 vs σ'→CK C D sc bt c elt m b xs false σ1 vs σ'
inductive LoopJ (C:Cx) (D:Nat) (sc:Scope) (bt:AV→Option (Mp)) (body:List Stmt):List AV→Mp→Sto→Out→Prop
 | nil {m σ}:LoopJ C D sc bt body [] m σ (.next m σ)
 | next {x xs b m σ m' σ' o}:bt x=some b→JS C D sc (b++m) σ body (.next m' σ')→LoopJ C D sc bt body xs m' σ' o→LoopJ C D sc bt body (x::xs) m σ o
 | ret {x xs b m σ v σ'}:bt x=some b→JS C D sc (b++m) σ body (.ret v σ')→LoopJ C D sc bt body (x::xs) m σ (.ret v σ')
 | exc {x xs b m σ c σ'}:bt x=some b→JS C D sc (b++m) σ body (.exc c σ')→LoopJ C D sc bt body (x::xs) m σ (.exc c σ')
inductive LK (C:Cx) (D:Nat) (sc:Scope) (bt:AV→Option (Mp)) (body:List Stmt) (xs:List AV):Out→Out→Prop
 | nx {m σ o}:LoopJ C D sc bt body xs m σ o→LK C D sc bt body xs (.next m σ) o
 | rt {v σ}:LK C D sc bt body xs (.ret v σ) (.ret v σ)
 | ex {c σ}:LK C D sc bt body xs (.exc c σ) (.exc c σ)
section
variable {C:Cx} {D n:Nat} {sc sc0 scope:Scope} {m m' mB mC:Mp} {σ σ' σ'' σ1 σ2 σ3:Sto} {v:AV} {o:Out} {A A2:Around} {G G' G'' R:St} {env:Env} {c e T:Addr} {X Y Z:Addr→Prop}
section
variable {b:Mp} {v1 v2 a:AV} {o':Out} {bt:AV→Option (Mp)} {elt cnd iter:Expr} {l xs vs tot:List AV} {x:AV} {cb:Bool}
theorem CompJ0.toS {l:List AV} {tot:List AV} (H:CompJ0 C D sc bt elt m l σ tot σ'):CompS C D sc bt [] elt m l σ tot σ':=by
 induction H with
 | nil=>exact .nil
 | cons a b _ i=>exact .keep a .nil b.h i
theorem CompJ1.toS {l:List AV} {tot:List AV} (H:CompJ1 C D sc bt cnd elt m l σ tot σ'):CompS C D sc bt [cnd] elt m l σ tot σ':=by
 induction H with
 | nil=>exact .nil
 | keep a b c _ i=>exact .keep a (.one b.h) c.h i
 | skip a b _ i=>exact .skip a (.one b.h) i
theorem LoopJ.toS {body:List Stmt} {l:List AV} (H:LoopJ C D sc bt body l m σ o):LoopS C D sc bt body l m σ o:=by
 induction H with
 | nil=>exact .nil
 | next a b _ i=>exact .next a b.h i
 | ret a b=>exact .ret a b.h
 | exc a b=>exact .exc a b.h
theorem CompJ1.step (h:bt x=some b) (h1:JT C D sc (b++m) σ cnd cb σ1) (h2:CK C D sc bt cnd elt m b xs cb σ1 tot σ'):CompJ1 C D sc bt cnd elt m (x::xs) σ tot σ':=by
 cases h2 with
 | t h2 h3=>exact .keep h h1 h2 h3
 | f h2=>exact .skip h h1 h2
theorem LoopJ.step {body:List Stmt} (h:bt x=some b) (h1:JS C D sc (b++m) σ body o') (h2:LK C D sc bt body xs o' o):LoopJ C D sc bt body (x::xs) m σ o:=by
 cases h2 with
 | nx h2=>exact .next h h1 h2
 | rt=>exact .ret h h1
 | ex=>exact .exc h h1
noncomputable def scopeOkB (scope sc:Scope):Bool:=(scope.kind == .function)&&(sc.names.lookup ("<env>":Str)).isNone&&decide (scope.names.map (·.1)).Nodup&&scope.names.all fun x=>x.2 != .free||(sc.names.lookup x.1 == some .cell||sc.names.lookup x.1 == some .free)
theorem ScopeOk.of (h:scopeOkB scope sc=true):ScopeOk scope sc:=by
 simp only [scopeOkB,Bool.and_eq_true,List.all_eq_true,decide_eq_true_eq] at h
 refine Za h fun z113 h3=>?_
 refine Za z113 fun z199 h2=>?_
 refine Za z199 fun h1 h0=>?_
 refine ⟨by simpa using h1,h2,by simpa using h0,fun x hx hf=>?_⟩
 have:=h3 x hx
 rw [hf] at this
 simp at this
 exact this
theorem JT.cut {e:Expr} {n:Nat} (h:JT C D sc m σ e cb σ') (hn:σ.length≤n) (hb:∀ o∈σ'.take n,belO n o=true):JT C D sc m σ e cb (σ'.take n):=⟨h.h.cut hn hb⟩
theorem FunOk.callJ (ok:C.Ok) {x:Str} {f:Addr} {ps:List Str} {body:List Stmt} {vs:List AV} (F:FunOk C x f ps body sc) (hl:vs.length=ps.length) (hS:JS C D sc (ps.zip vs).reverse σ body o):CallR C (D+1) f vs σ o:=F.call ok hl hS.h
end
section
variable {b:Mp} {v1 v2 a d:AV} {o':Out} {ob e1 e2:Expr} {x:AV} {cb:Bool} {apos pos:Pos} {k:Str}
theorem JE.get {l l':Mp} (h0:JE C D sc m σ ob a σ1) (h1:JE C D sc m σ1 e1 (.p (.str k)) σ2) (h2:JE C D sc m σ2 e2 d σ3) (ha1:asD σ1 a=some l') (ha:asD σ3 a=some l) (hb:notCall ob=true) (n1:noStar e1=true) (n2:noStar e2=true) (hline:(apos.endLine == pos.line)=true) :
  JE C D sc m σ (.Call (.Attribute ob "get" apos) [e1,e2] [] pos) ((l.lookup k).getD d) σ3:=⟨EvE.get h0.h h1.h h2.h ha1 ha hb n1 n2 hline⟩
theorem JE.get' {l l':Mp} (h0:JE C D sc m σ ob a σ1) (h1:JE C D sc m σ1 e1 (.p (.str k)) σ2) (h2:JE C D sc m σ2 e2 d σ3) (ha1:asD σ1 a=some l') (ha:asD σ3 a=some l) (hv:(l.lookup k).getD d=v) (hb:notCall ob=true) (n1:noStar e1=true) (n2:noStar e2=true) (hline:(apos.endLine == pos.line)=true) :
  JE C D sc m σ (.Call (.Attribute ob "get" apos) [e1,e2] [] pos) v σ3:=hv▸JE.get h0 h1 h2 ha1 ha hb n1 n2 hline
theorem JE.setdef {i:Nat} {l l':Mp} (h0:JE C D sc m σ ob (.loc i) σ1) (h1:JE C D sc m σ1 e1 (.p (.str k)) σ2) (h2:JE C D sc m σ2 e2 d σ3) (ha1:σ1[i]?=some (.dct l')) (ha:σ3[i]?=some (.dct l)) (hv:(l.lookup k).getD d=v) (hσ:(if (l.lookup k).isSome then σ3 else σ3.set i (.dct ((k,d)::l)))=σ') (hz:l.length≤sizeLine) (hb:notCall ob=true) (n1:noStar e1=true) (n2:noStar e2=true) (hline:(apos.endLine == pos.line)=true) :
  JE C D sc m σ (.Call (.Attribute ob "setdefault" apos) [e1,e2] [] pos) v σ':=by
 subst hv hσ
 exact ⟨EvE.setdef h0.h h1.h h2.h ha1 ha hb n1 n2 hline hz⟩
theorem JE.append {i:Nat} {l l':List AV} (h0:JE C D sc m σ ob (.loc i) σ1) (h1:JE C D sc m σ1 e1 v σ2) (ha1:σ1[i]?=some (.lst l')) (ha:σ2[i]?=some (.lst l)) (hz:l.length≤sizeLine) (hb:notCall ob=true) (n1:noStar e1=true) (hline:(apos.endLine == pos.line)=true) :
  JE C D sc m σ (.Call (.Attribute ob "append" apos) [e1] [] pos) (.p .none) (σ2.set i (.lst (l++[v]))):=⟨EvE.append h0.h h1.h ha1 ha hb n1 hline hz⟩
theorem J1.setItem {ix val:Expr} {tp:Pos} {i:Nat} {l:Mp} (h0:JE C D sc m σ val v σ1) (h1:JE C D sc m σ1 ob (.loc i) σ2) (h2:JE C D sc m σ2 ix (.p (.str k)) σ3) (ha:σ3[i]?=some (.dct l)) (hz:l.length≤sizeLine) (hs:∀ env,swapsWith val (some (.Subscript ob ix tp)) pos.line env=pure false) :
  J1 C D sc m σ (.Assign [.Subscript ob ix tp] val pos) (.next m (σ3.set i (.dct ((k,v)::l)))):=⟨Ex1.setItem h0.h h1.h h2.h ha hz hs⟩
theorem JE.dict0 (ok:C.Ok):JE C D sc m σ (.Dict [] [] pos) (.loc σ.length) (σ++[.dct []]):=⟨EvE.dict0 ok⟩
theorem JE.dict0F (ok:C.Ok):JE C D sc m σ (.Dict [] [] pos) (.dct []) σ:=⟨EvE.dict0F ok⟩
end

noncomputable def SIt (h:Heap) (i l:Addr) (k:Nat) (xs:Array Value):Prop:=(h.IsListIter i l k∧h.IsList l xs)∨(h.IsTupleIter i l k∧h.IsTuple l xs)
theorem SIt.at {h h':Heap} {i l:Addr} {k:Nat} {xs:Array Value} (x:SIt h i l k xs) (e1:∀ o,h.get? i=some o→h'.get? i=some o) (e2:∀ o,h.get? l=some o→h'.get? l=some o):SIt h' i l k xs:=
 x.imp (fun p=>⟨p.1.at e1,p.2.at e2⟩) fun p=>⟨p.1.at e1,p.2.at e2⟩
theorem SIt.ext {h h':Heap} {i l b:Addr} {k:Nat} {xs:Array Value} (x:SIt h i l k xs) (hs:Heap.ExtBut b h h') (h1:i≠b) (h2:l≠b):SIt h' i l k xs:=x.at (fun o e=>hs i o h1 e) fun o e=>hs l o h2 e
theorem SIt.there {h:Heap} {i l:Addr} {k:Nat} {xs:Array Value} (x:SIt h i l k xs):∃ o,h.get? i=some o:=by
 rcases x with ⟨⟨o,e,_⟩,_⟩ | ⟨⟨o,e,_⟩,_⟩<;>exact ⟨o,e⟩
section
variable {prog:Program} {w:World} {E:Value→Shared→Prop} {s:Shared}
theorem nextOf_tuple_item {it l:Addr} {i:Nat} {items:Array Value} {x:Value} {Q:Value→Shared→Prop} (hit:s.heap.IsTupleIter it l i) (hl:s.heap.IsTuple l items) (hx:items[i]?=some x)
  (hQ:∀ h',h'.IsTupleIter it l (i+1)→Heap.SameBut it s.heap h'→Q x { s with heap:=h' }):wpAny (model prog w) A (Builtin.SmallTypes.nextOf (.ref it)) Q E s:=by
 refine Zeaa (id hit) fun o ho hc hd=>?_
 refine Zeaae hl fun ol hol _ nl hdl=>?_
 unfold Builtin.SmallTypes.nextOf
 refine wpAny_bind (wpAny_callSpecial?_slot (name:=Str.ofString "__next__") hit.typeIs F.slot_tuple_iterator_next
  (wpAny_call_entry F.slot_tuple_iterator_next hit.typeIs F.entry_tuple_iterator_next ?_ (F.args_tuple_iterator_next_1 _)))
 refine (?_:wpAny _ _ (field (.ref it) 0 >>= _) _ _ s)
 refine wpAny_bind (wpAny_field ho hd (x:=.ref l) rfl ?_)
 refine (?_:wpAny _ _ (if (Value.ref l == Value.none)=true then _ else _) _ _ s)
 rw [if_neg (show ¬ ((Value.ref l == Value.none)=true) from Bool.false_ne_true)]
 refine (?_:wpAny _ _ (field (.ref it) 1 >>= _) _ _ s)
 refine wpAny_bind (wpAny_field ho hd (x:=.int i 0) rfl ?_)
 refine (?_:wpAny _ _ (seqItems? (.ref l) >>= _) _ _ s)
 refine wpAny_bind (wpAny_seqItems hol hdl ?_)
 simp only [Int.toNat_natCast,hx]
 refine wpAny_bind (wpAny_setField ho hd (by simp) (wpAny_pure (Iea x rfl (wpAny_pure (hQ _ ?_ (Heap.SameBut.update ..))))))
 exact ⟨_,Heap.get?_update_self _ ho (Obj.isFreed_of_fields (Obj.data_mapFields hd _)),(Obj.cls_mapFields ..).trans hc,by
  rw [Obj.data_mapFields hd];simp [rawInt]⟩
theorem nextOf_tuple_end {it l:Addr} {i:Nat} {items:Array Value} {Q:Value→Shared→Prop} (hh:A.handled=none) (hit:s.heap.IsTupleIter it l i) (hl:s.heap.IsTuple l items) (hx:items[i]?=none)
  (hE:∀ h' e,Heap.ExtBut it s.heap h'→(∃ o,h'.get? e=some o∧o.cls=.type "StopIteration")→E (.ref e) { s with heap:=h' }):wpAny (model prog w) A (Builtin.SmallTypes.nextOf (.ref it)) Q E s:=by
 refine Zeaa (id hit) fun o ho hc hd=>?_
 refine Zeaae hl fun ol hol _ nl hdl=>?_
 unfold Builtin.SmallTypes.nextOf
 refine wpAny_bind (wpAny_callSpecial?_slot (name:=Str.ofString "__next__") hit.typeIs F.slot_tuple_iterator_next
  (wpAny_call_entry F.slot_tuple_iterator_next hit.typeIs F.entry_tuple_iterator_next ?_ (F.args_tuple_iterator_next_1 _)))
 refine (?_:wpAny _ _ (field (.ref it) 0 >>= _) _ _ s)
 refine wpAny_bind (wpAny_field ho hd (x:=.ref l) rfl ?_)
 refine (?_:wpAny _ _ (if (Value.ref l == Value.none)=true then _ else _) _ _ s)
 rw [if_neg (show ¬ ((Value.ref l == Value.none)=true) from Bool.false_ne_true)]
 refine (?_:wpAny _ _ (field (.ref it) 1 >>= _) _ _ s)
 refine wpAny_bind (wpAny_field ho hd (x:=.int i 0) rfl ?_)
 refine (?_:wpAny _ _ (seqItems? (.ref l) >>= _) _ _ s)
 refine wpAny_bind (wpAny_seqItems hol hdl ?_)
 simp only [Int.toNat_natCast,hx]
 refine wpAny_bind (wpAny_rule (wpAny_bind (wpAny_setField ho hd (by simp) ?_)))
 refine (?_:wpAny _ _ (newExc (.type "StopIteration") [] >>= _) _ _ _)
 refine wpAny_bind ?_
 simp only [newExc,newTuple]
 refine wpAny_bind (wpAny_newObj_type ?_ (by size_fits))
 refine wpAny_bind (m:=firstArgMember _ _) (wpAny_of_eq (a:=Value.none) (by first | rfl | (simp only [firstArgMember];rfl)) ?_)
 refine wpAny_newObj_type ?_ (by size_fits)
 simp only [raiseNew]
 refine wpAny_bind (wpAny_handled ?_)
 first | rw [show A.in1.handled=none from hh] | rw [hh]
 refine wpAny_bind (wpAny_pure (wpAny_throw ?_))
 exact hE _ _ (((Heap.SameBut.update ..).extBut.push _).push _) (Iea _ (Heap.get?_push_size _ rfl) rfl)
theorem sit_item {it l:Addr} {i:Nat} {items:Array Value} {x:Value} {Q:Value→Shared→Prop} (h:SIt s.heap it l i items) (hne:l≠it) (hx:items[i]?=some x)
  (hQ:∀ h',SIt h' it l (i+1) items→Heap.SameBut it s.heap h'→Q x { s with heap:=h' }):wpAny (model prog w) A (Builtin.SmallTypes.nextOf (.ref it)) Q E s:=by
 rcases h with ⟨h1,h2⟩ | ⟨h1,h2⟩
 ·exact wpAny_nextOf_list_item h1 h2 hx fun h' a b=>hQ h' (.inl ⟨a,h2.extBut b.extBut hne⟩) b
 ·exact nextOf_tuple_item h1 h2 hx fun h' a b=>hQ h' (.inr ⟨a,h2.extBut b.extBut hne⟩) b
theorem sit_end {it l:Addr} {i:Nat} {items:Array Value} {Q:Value→Shared→Prop} (hh:A.handled=none) (h:SIt s.heap it l i items) (hx:items[i]?=none)
  (hE:∀ h' e,Heap.ExtBut it s.heap h'→(∃ o,h'.get? e=some o∧o.cls=.type "StopIteration")→E (.ref e) { s with heap:=h' }):wpAny (model prog w) A (Builtin.SmallTypes.nextOf (.ref it)) Q E s:=by
 rcases h with ⟨h1,h2⟩ | ⟨h1,h2⟩
 ·exact wpAny_nextOf_list_end hh h1 h2 hx hE
 ·exact nextOf_tuple_end hh h1 h2 hx hE
structure ZSt (h:Heap) (z TI TO i1 i2 l1 l2:Addr) (k:Nat) (xs ys:Array Value):Prop where
 z:IsZip h z TI TO .none
 ti:IsPair h TI (.ref i1) (.ref i2)
 to:∃ a b,IsPair h TO a b
 s1:SIt h i1 l1 k xs
 s2:SIt h i2 l2 k ys
theorem zipn_item {z TI TO i1 i2 l1 l2:Addr} {k:Nat} {xs ys:Array Value} {x y:Value} {Q:Option Value→Shared→Prop} (D:ZipApart z TI TO i1 i2 l1 l2) (Z:ZSt s.heap z TI TO i1 i2 l1 l2 k xs ys) (hx:xs[k]?=some x) (hy:ys[k]?=some y)
  (hQ:∀ h',IsZip h' z TI TO (rawInt s.heap.objs.size)→IsPair h' TI (.ref i1) (.ref i2)→IsPair h' TO x y→SIt h' i1 l1 (k+1) xs→SIt h' i2 l2 (k+1) ys→IsPair h' s.heap.objs.size x y →
   (∀ c o,c≠z→c≠TO→c≠i1→c≠i2→s.heap.get? c=some o→h'.get? c=some o)→Q (some (.ref s.heap.objs.size)) { s with heap:=h' }):wpAny (model prog w) A (pyNext (.ref z)) Q E s:=by
 obtain ⟨hz,hTI,⟨a,b,hTO⟩,h1,h2⟩:=Z
 have hT:s.TypeIs (.ref z) "zip":=(Iea _ hz rfl)
 unfold pyNext
 refine wpAny_bind (wpAny_attempt (wpAny_callSpecial?_slot (name:=Str.ofString "__next__") hT F.slot_zip_next
  (wpAny_call_entry F.slot_zip_next hT F.entry_zip_next (Q:=fun v s'=>wpAny (model prog w) A (pure (some v)) Q E s') ?_ (F.args_zip_next_1 _))))
 refine (?_:wpAny _ _ (field (.ref z) 2 >>= _) _ _ _)
 refine wpAny_bind (wpAny_field hz rfl (x:=.bool false) rfl ?_)
 refine (?_:wpAny _ _ (field (.ref z) 3 >>= _) _ _ _)
 refine wpAny_bind (wpAny_field hz rfl (x:=.ref TI) rfl ?_)
 refine wpAny_bind (wpAny_seqItems hTI rfl ?_)
 refine (?_:wpAny _ _ (Builtin.SmallTypes.ownedTupleIsFree (.ref z) >>= _) _ _ _)
 refine wpAny_bind ?_
 unfold Builtin.SmallTypes.ownedTupleIsFree
 refine wpAny_bind (wpAny_field hz rfl (x:=.none) rfl (wpAny_pure ?_))
 simp only [if_true]
 refine wpAny_bind (wpAny_rule ?_)
 refine wpAny_bind (wpAny_field hz rfl (x:=.ref TO) rfl ?_)
 refine wpAny_bind (wpAny_setField_rec hz (by simp) fun h₁ hz₁ hs₁=>?_)
 replace hz₁:IsZip h₁ z TI TO .ellipsis:=hz₁
 refine wpAny_bind ?_
 simp only [List.zipIdx_cons,List.zipIdx_nil,List.forIn_cons,List.forIn_nil]
 refine wpAny_bind (wpAny_bind (wpAny_onRaise ?_))
 refine (?_:wpAny _ _ (Builtin.SmallTypes.nextOf (.ref i1) >>= _) _ _ _)
 refine wpAny_bind (sit_item (h1.ext hs₁.extBut D.i1z D.l1z) D.l1i1 hx fun h₂ h1₂ hs₂=>wpAny_pure ?_)
 have hTO₂:IsPair h₂ TO a b:=hs₂.extBut _ _ D.TOi1 (hs₁.extBut _ _ D.TOz hTO)
 refine wpAny_bind (wpAny_seqItems hTO₂ rfl ?_)
 refine wpAny_bind (wpAny_updateSeq_pair hTO₂ fun h₃ hTO₃ hs₃=>?_)
 replace hTO₃:IsPair h₃ TO x b:=hTO₃
 refine wpAny_bind (wpAny_letGo (wpAny_pure ?_))
 refine wpAny_bind (wpAny_bind (wpAny_onRaise ?_))
 refine (?_:wpAny _ _ (Builtin.SmallTypes.nextOf (.ref i2) >>= _) _ _ _)
 refine wpAny_bind (sit_item (((h2.ext hs₁.extBut D.i2z D.l2z).ext hs₂.extBut D.i12.symm D.l2i1).ext hs₃.extBut D.TOi2.symm D.l2TO) D.l2i2 hy fun h₄ h2₄ hs₄=>wpAny_pure ?_)
 have hTO₄:IsPair h₄ TO x b:=hs₄.extBut _ _ D.TOi2 hTO₃
 refine wpAny_bind (wpAny_seqItems hTO₄ rfl ?_)
 refine wpAny_bind (wpAny_updateSeq_pair hTO₄ fun h₅ hTO₅ hs₅=>?_)
 replace hTO₅:IsPair h₅ TO x y:=hTO₅
 refine wpAny_bind (wpAny_letGo (wpAny_pure (wpAny_pure ?_)))
 refine wpAny_bind (wpAny_seqItems hTO₅ rfl ?_)
 refine wpAny_bind (wpAny_newTuple ?_)
 have hsz:h₅.objs.size=s.heap.objs.size:=by rw [hs₅.1,hs₄.1,hs₃.1,hs₂.1,hs₁.1]
 have hz₅:IsZip h₅ z TI TO .ellipsis:=hs₅.extBut _ _ D.TOz.symm (hs₄.extBut _ _ D.i2z.symm (hs₃.extBut _ _ D.TOz.symm (hs₂.extBut _ _ D.i1z.symm hz₁)))
 have hk₅:∀ c o,c≠z→c≠TO→c≠i1→c≠i2→s.heap.get? c=some o→h₅.get? c=some o:=fun c o c1 c2 c3 c4 e=>
  hs₅.extBut _ _ c2 (hs₄.extBut _ _ c4 (hs₃.extBut _ _ c2 (hs₂.extBut _ _ c3 (hs₁.extBut _ _ c1 e))))
 have h1₅:SIt h₅ i1 l1 (k+1) xs:=((h1₂.ext hs₃.extBut D.TOi1.symm D.l1TO).ext hs₄.extBut D.i12 D.l1i2).ext hs₅.extBut D.TOi1.symm D.l1TO
 have h2₅:SIt h₅ i2 l2 (k+1) ys:=h2₄.ext hs₅.extBut D.TOi2.symm D.l2TO
 have hTI₅:IsPair h₅ TI (.ref i1) (.ref i2):=hk₅ _ _ D.TIz D.TITO D.TIi1 D.TIi2 hTI
 have hzlt:z < h₅.objs.size:=Heap.lt_size hz₅
 refine (?_:wpAny _ _ (Builtin.SmallTypes.ownedTupleHandOut (.ref z) (.ref h₅.objs.size) >>= _) _ _ _)
 refine wpAny_bind ?_
 unfold Builtin.SmallTypes.ownedTupleHandOut
 have hz₆:IsZip (h₅.push { cls:=.type "tuple",data:=.seq #[x,y] }) z TI TO .ellipsis:=Heap.get?_push_of_some _ hz₅
 refine wpAny_bind (wpAny_setField_rec hz₆ (by simp) fun h₇ hz₇ hs₇=>?_)
 replace hz₇:IsZip h₇ z TI TO (rawInt h₅.objs.size):=hz₇
 refine wpAny_setField_rec hz₇ (by simp) fun h₈ hz₈ hs₈=>?_
 replace hz₈:IsZip h₈ z TI TO (rawInt h₅.objs.size):=hz₈
 have up:∀ c o,c≠z→h₅.get? c=some o→h₈.get? c=some o:=fun c o c1 e=>hs₈.extBut _ _ c1 (hs₇.extBut _ _ c1 (Heap.get?_push_of_some _ e))
 have hT₈:IsPair h₈ h₅.objs.size x y:=hs₈.extBut _ _ (Nat.ne_of_gt hzlt) (hs₇.extBut _ _ (Nat.ne_of_gt hzlt) (Heap.get?_push_size _ rfl))
 rw [hsz] at hz₈ hT₈
 refine wpAny_pure (Iea _ rfl (wpAny_pure ?_))
 refine (?_:Q (some (.ref h₅.objs.size)) _)
 rw [hsz]
 exact hQ h₈ hz₈ (up _ _ D.TIz hTI₅) (up _ _ D.TOz hTO₅) (h1₅.at (fun o e=>up _ o D.i1z e) fun o e=>up _ o D.l1z e) (h2₅.at (fun o e=>up _ o D.i2z e) fun o e=>up _ o D.l2z e) hT₈ fun c o c1 c2 c3 c4 e=>up c o c1 (hk₅ c o c1 c2 c3 c4 e)
end
end
mutual
noncomputable def nc:AV→Bool
 | .p _=>true
 | .val _=>true
 | .loc _=>true
 | .lst l=>ncL l
 | .dct l=>ncD l
 | .ins _ l=>ncD l
 | .clo _ _=>false
noncomputable def ncL:List AV→Bool
 | []=>true
 | x::l=>nc x&&ncL l
noncomputable def ncD:Mp→Bool
 | []=>true
 | x::l=>nc x.2&&ncD l
end
noncomputable def ncO:AO→Bool
 | .lst l=>ncL l
 | .dct l=>ncD l
 | .att l=>ncD l
 | .ins _ _=>true
 | .exc _ _=>true
section
variable {C:Cx} {D n:Nat} {sc sc0 scope:Scope} {m m' mB mC:Mp} {σ σ' σ'' σ1 σ2 σ3:Sto} {v:AV} {o:Out} {A A2:Around} {G G' G'' R:St} {env:Env} {c e T:Addr} {X Y Z:Addr→Prop}
section
theorem ncD_lookup {k:Str}:∀ {l:Mp},ncD l=true→l.lookup k=some v→nc v=true
 | (y,x)::l,h,e=>by
  simp only [ncD,Bool.and_eq_true] at h
  rw [List.lookup_cons] at e
  split at e
  ·cases e;exact h.1
  ·exact ncD_lookup h.2 e
noncomputable def NoCell (h:Heap) (F F':Addr→Prop):Prop:=∀ a o,F a→h.get? a=some o→(∀ w,o.data≠.cell w)→F' a
theorem seq_nc {o:Obj} {vs:Array Value} {n:Nat} (d:o.data=.seq vs n):∀ w,o.data≠.cell w:=fun w q=>nomatch d.symm.trans q
theorem plain_nc:∀ w,Data.plain≠.cell w:=fun _ h=>by cases h
theorem dict_nc {es:Array DictEntry} {n:Nat}:∀ w,Data.dict es n≠.cell w:=fun _ h=>by cases h
theorem PR.thaw {h:Heap} {F F':Addr→Prop} (k:NoCell h F F') {v:Value} {x:PyData} (H:PR h F v x):PR h F' v x:=
 PR.rec (motive_1:=fun v x _=>PR h F' v x) (motive_2:=fun v x _=>PRs h F' v x) .none PR.bool PR.int PR.str (fun a b c d _ i=>.list (k _ _ a b (seq_nc d)) b c d i) (fun a b c d _ i=>.tuple (k _ _ a b (seq_nc d)) b c d i) .nil (fun _ _ i j=>.cons i j) H
theorem VR.thaw {F':Addr→Prop} (k:NoCell G.h G.F F') {u:Value} {v:AV} (H:VR C G u v):nc v=true→VR C ⟨G.s,F',G.r,G.fs⟩ u v:=
 VR.rec (G:=G) (motive_1:=fun u v _=>nc v=true→VR C ⟨G.s,F',G.r,G.fs⟩ u v) (motive_2:=fun u v _=>ncL v=true→VRs C ⟨G.s,F',G.r,G.fs⟩ u v) (motive_3:=fun u v _=>ncD v=true→VRd C ⟨G.s,F',G.r,G.fs⟩ u v) (motive_4:=fun _ _ _=>True) (fun a b _=>.p (PR.thaw k a) b) (fun a b c d _ i h=>.lst (k _ _ a b (seq_nc d)) b c d (i h)) (fun g a b c d e f _ f3 z i h=>.dct g (k _ _ a b fun w q=>nomatch d.symm.trans q) b c d e f (fun y x hx=>i y x hx (ncD_lookup h hx)) f3 z) (fun a b c d _ i h=>.ins (k _ _ a c plain_nc) (k _ _ b d dict_nc) c d (i h)) (fun v _=>.val v) (fun a _=>.loc a) (fun _ _ _ _ _ _ h=>nb h) (fun _=>.nil) (fun _ _ i j h=>.cons (i (Bool.and_eq_true_iff.mp h).1) (j (Bool.and_eq_true_iff.mp h).2)) (fun _=>.nil) (fun a _ _ i j h=>.cons a (i (Bool.and_eq_true_iff.mp h).1) (j (Bool.and_eq_true_iff.mp h).2)) trivial (fun _ _ _ _ _ _ _ _=>trivial) H
theorem VRs.thaw {F':Addr→Prop} (k:NoCell G.h G.F F') {u:List Value} {v:List AV} (H:VRs C G u v):ncL v=true→VRs C ⟨G.s,F',G.r,G.fs⟩ u v:=
 VRs.rec (G:=G) (motive_1:=fun u v _=>nc v=true→VR C ⟨G.s,F',G.r,G.fs⟩ u v) (motive_2:=fun u v _=>ncL v=true→VRs C ⟨G.s,F',G.r,G.fs⟩ u v) (motive_3:=fun u v _=>ncD v=true→VRd C ⟨G.s,F',G.r,G.fs⟩ u v) (motive_4:=fun _ _ _=>True) (fun a b _=>.p (PR.thaw k a) b) (fun a b c d _ i h=>.lst (k _ _ a b (seq_nc d)) b c d (i h)) (fun g a b c d e f _ f3 z i h=>.dct g (k _ _ a b fun w q=>nomatch d.symm.trans q) b c d e f (fun y x hx=>i y x hx (ncD_lookup h hx)) f3 z) (fun a b c d _ i h=>.ins (k _ _ a c plain_nc) (k _ _ b d dict_nc) c d (i h)) (fun v _=>.val v) (fun a _=>.loc a) (fun _ _ _ _ _ _ h=>nb h) (fun _=>.nil) (fun _ _ i j h=>.cons (i (Bool.and_eq_true_iff.mp h).1) (j (Bool.and_eq_true_iff.mp h).2)) (fun _=>.nil) (fun a _ _ i j h=>.cons a (i (Bool.and_eq_true_iff.mp h).1) (j (Bool.and_eq_true_iff.mp h).2)) trivial (fun _ _ _ _ _ _ _ _=>trivial) H
theorem VRd.thaw {F':Addr→Prop} (k:NoCell G.h G.F F') {u:List DictEntry} {v:Mp} (H:VRd C G u v):ncD v=true→VRd C ⟨G.s,F',G.r,G.fs⟩ u v:=
 VRd.rec (G:=G) (motive_1:=fun u v _=>nc v=true→VR C ⟨G.s,F',G.r,G.fs⟩ u v) (motive_2:=fun u v _=>ncL v=true→VRs C ⟨G.s,F',G.r,G.fs⟩ u v) (motive_3:=fun u v _=>ncD v=true→VRd C ⟨G.s,F',G.r,G.fs⟩ u v) (motive_4:=fun _ _ _=>True) (fun a b _=>.p (PR.thaw k a) b) (fun a b c d _ i h=>.lst (k _ _ a b (seq_nc d)) b c d (i h)) (fun g a b c d e f _ f3 z i h=>.dct g (k _ _ a b fun w q=>nomatch d.symm.trans q) b c d e f (fun y x hx=>i y x hx (ncD_lookup h hx)) f3 z) (fun a b c d _ i h=>.ins (k _ _ a c plain_nc) (k _ _ b d dict_nc) c d (i h)) (fun v _=>.val v) (fun a _=>.loc a) (fun _ _ _ _ _ _ h=>nb h) (fun _=>.nil) (fun _ _ i j h=>.cons (i (Bool.and_eq_true_iff.mp h).1) (j (Bool.and_eq_true_iff.mp h).2)) (fun _=>.nil) (fun a _ _ i j h=>.cons a (i (Bool.and_eq_true_iff.mp h).1) (j (Bool.and_eq_true_iff.mp h).2)) trivial (fun _ _ _ _ _ _ _ _=>trivial) H
theorem TrO.thaw {F':Addr→Prop} {a:Addr} {o:AO} (k:NoCell G.h G.F F') (V:TrO C G a o) (h:ncO o=true):TrO C ⟨G.s,F',G.r,G.fs⟩ a o:=by
 cases o with
 | lst l=>refine Zeeeaaa V fun o vs n h1 h2 h3 h4=>?_;exact (Ieeeaaa o vs n h1 h2 h3 (h4.thaw k h))
 | dct l=>refine Zeeeaaaeaaa V fun o es n h1 h2 h3 kvs h4 hz h5 h6=>?_;exact (Ieeeaaaeaaa o es n h1 h2 h3 kvs h4 hz ⟨fun y x hx=>let ⟨u,p,q⟩:=h5.1 y x hx;(Iea u p (q.thaw k (ncD_lookup h hx))),h5.2⟩ h6)
 | att l=>refine Zeeaa V fun es n h1 h2 h3=>?_;exact (Ieeaa es n h1 (h2.thaw k h) h3)
 | ins c d=>exact V
 | exc c d=>exact V
noncomputable def St.fzZ (G:St) (Z:Addr→Prop):St:=⟨G.s,fun a=>G.F a∨Z a,G.r,G.fs⟩
structure ZOk (C:Cx) (G:St) (Z:Addr→Prop):Prop where
 cell:∀ a,Z a→∃ o w,G.h.get? a=some o∧o.data=.cell w
 off:∀ a,Z a→a ∉ G.r∧¬ C.tabP a∧a ∉ G.fs
theorem VR.fzZ {u:Value} (V:VR C G u v):VR C (G.fzZ Z) u v:=VR.mono (G:=G) (G':=G.fzZ Z) (fun _ h=>.inl h) (fun _ _ _ e=>e) (fun _ _ h=>h) V
theorem fzZ_inv (I:Inv C G σ) (z:ZOk C G Z):Inv C (G.fzZ Z) σ where
 base a o e:=⟨.inl (I.base a o e).1,(I.base a o e).2⟩
 fz a h:=by
  rcases h with h | h
  ·exact I.fz a h
  ·refine Zeea (z.cell a h) fun o w e _=>?_
   exact ⟨⟨o,e⟩,z.off a h⟩
 len:=I.len
 trk i a o h1 h2:=TrO.mono (G:=G) (G':=G.fzZ Z) (fun _ h=>.inl h) (fun _ _ _ e=>e) (fun _ _ h=>h) (fun _ e=>e) (I.trk i a o h1 h2)
 nd:=I.nd
 rtab:=I.rtab
 ftab:=I.ftab
 tab q hq:=by
  refine Zeaa (I.tab q hq) fun ps e t k=>?_
  exact (Ieaa ps e t (fun pos w hw=>(k pos w hw).mono (fun _ h=>.inl h) fun _ _ _ e=>e))
theorem EnvOk.fzZ (K:EnvOk C A G env sc m) (h:¬ Z env.locals):EnvOk C A (G.fzZ Z) env sc m where
 scE:=K.scE
 kind:=K.kind
 glob:=K.glob
 bi:=K.bi
 ns:=let ⟨ml,hn,k⟩:=K.ns;(Iea ml hn (fun x v e1 e2=>let ⟨u,a,c⟩:=k x v e1 e2;(Iea u a c.fzZ)))
 cell x hx:=let ⟨c,h1,h2,h3,h4⟩:=K.cell x hx;(Ieaaa c h1 h2 (fun v e1=>let ⟨u,a,d⟩:=h3 v e1;(Iea u a d.fzZ)) h4)
 off:=(Iaa K.off.1 K.off.2.1 (fun q=>q.elim K.off.2.2 h))
 stk:=K.stk
 live:=K.live
 inf:=K.inf
noncomputable def St.thaw (G G1:St) (Z:Addr→Prop):St:=⟨G.s,fun a=>G.F a∧(Z a→G1.F a),G.r,G.fs⟩
theorem thaw_ok {G1 G3:St} (I1:Inv C G1 σ) (z:ZOk C G1 Z) (S:Step C X (G1.fzZ Z) G3) (hX:∀ a,X a→¬ G1.F a∧¬ Z a) (I3:Inv C G3 σ') (hn:∀ o∈σ',ncO o=true) :
  Step C X G1 (G3.thaw G1 Z)∧Inv C (G3.thaw G1 Z) σ'∧∀ u v,VR C G3 u v→nc v=true→VR C (G3.thaw G1 Z) u v:=by
 have hX':∀ a,X a→¬ (G1.fzZ Z).F a:=fun a h q=>q.elim (hX a h).1 (hX a h).2
 have stay:∀ {a o},(G1.F a∨Z a)→G1.h.get? a=some o→G3.h.get? a=some o:=fun hf e=>(fzZ_inv I1 z).stay S hX' hf e
 have k:NoCell G3.h G3.F (G3.thaw G1 Z).F:=fun a o h e hc=>⟨h,fun hz=>by
  refine Zeea (z.cell a hz) fun o1 w e1 d1=>?_
  have:=stay (.inr hz) e1
  rw [e] at this;cases this
  exact absurd d1 (hc w)⟩
 refine (Iaa ⟨S.keep,S.keepF,S.alive,fun a h=>⟨S.fz a (.inl h),fun _=>h⟩,fun a h=>?_,S.rr,S.fs,S.gens,S.drawn,S.os⟩ ⟨fun a o e=>⟨⟨(I3.base a o e).1,fun _=>(I1.base a o e).1⟩,(I3.base a o e).2⟩,fun a h=>I3.fz a h.1,I3.len,fun i a o h1 h2=>?_,I3.nd,I3.rtab,I3.ftab,fun q hq=>?_⟩ (fun u v V hv=>V.thaw k hv))
 ·rcases S.new a h.1 with q | q
  ·rcases q with q | q
   ·exact .inl q
   ·exact .inl (h.2 q)
  ·exact .inr q
 ·exact (I3.trk i a o h1 h2).thaw k (hn o (List.mem_of_getElem? h2))
 ·refine Zeaa (I3.tab q hq) fun ps e t kk=>?_
  refine (Ieaa ps e t (fun pos w hw=>?_))
  refine Zeeeeaaaa (kk pos w hw) fun c o vs tt e1 f1 g1 d1 r1=>?_
  exact (Ieeeeaaaa c o vs tt e1 (k c o f1 g1 fun w q=>by rw [d1] at q;cases q) g1 d1 r1)
end

section
variable {P:Addr}
theorem codeAmong_snoc2 {pos:Pos} {a b:Int} {c v:Value} (l:List Value) (h:TriplesOk l) (hn:codeAmong pos (l++[rawInt a,rawInt b,c])=some v):codeAmong pos l=some v∨v=c:=by
 fun_induction TriplesOk l with
 | case1=>
  simp only [List.nil_append,codeAmong,rawInt] at hn
  split at hn
  ·cases hn;exact .inr rfl
  ·cases hn
 | case2 a' t b' u x rest ih=>
  simp only [List.cons_append,codeAmong] at hn ⊢
  split at hn
  ·rename_i hc;rw [if_pos hc];exact .inl hn
  ·rename_i hc;rw [if_neg hc];exact ih h hn
 | case3 l h1 h2=>exact h.elim
theorem made_ok (ok:C.Ok) (I:Inv C G σ) {q:Addr × Addr} (hq:q∈C.tabs) {h':Heap} {tk:Nat} {c':Addr} {ps:Array Value} {a b:Int} {ob:Obj} (hP:G.h.get? q.2=some (tabObj ps)) (ht:TriplesOk ps.toList) (hx:Heap.ExtBut q.2 G.h h') (hge:G.h.objs.size≤c') (hlt:c' < h'.objs.size)
  (hrec:h'.CodeRec (.ref c') (C.tq q.2)) (htb:h'.get? q.2=some (tabObj (ps++#[rawInt a,rawInt b,.ref c']))) (hf:ob.isFreed=false) :
  Step C X G ⟨{ G.s with heap:=h'.push ob,toks:=tk },fun x=>G.F x∨x=c'∨x=h'.objs.size,G.r,G.fs⟩∧Inv C ⟨{ G.s with heap:=h'.push ob,toks:=tk },fun x=>G.F x∨x=c'∨x=h'.objs.size,G.r,G.fs⟩ σ:=by
 have dc:G.h.get? c'=none:=dead_ge hge
 have df:G.h.get? h'.objs.size=none:=dead_ge (Nat.le_trans hge (Nat.le_of_lt hlt))
 have tq:C.tabP q.2:=List.mem_map.mpr (Iea q hq rfl)
 have hk:∀ x o,x≠q.2→G.h.get? x=some o→(h'.push ob).get? x=some o:=fun x o hne e=>Heap.get?_push_of_some _ (hx x o hne e)
 have ne:∀ x,¬ C.tabP x→x≠q.2:=fun x h e=>h (e▸tq)
 have neF:∀ x,G.F x→x≠q.2:=fun x h=>ne x (I.fz x h).2.2.1
 refine Zeeeeaaa hrec fun c2 oc vs t e2 hoc hd hv=>?_
 cases e2
 have dead:∀ x,x=c'∨x=h'.objs.size→G.h.get? x=none:=fun x h=>h.elim (fun h=>h▸dc) fun h=>h▸df
 refine ⟨⟨fun x o e _ h2 _=>hk x o (ne x h2) e,fun x o e _ h3=>⟨o.slots,hk x o (ne x (I.ftab x h3).1) e⟩,fun x o e=>?_,fun _ h=>.inl h,fun x h=>h.imp id (dead x),(Iea ([]) ((List.append_nil _).symm) (fun _ h=>nomatch h)),rfl,rfl,rfl,rfl⟩,
  ⟨fun x o e=>⟨.inl (I.base x o e).1,hk x o (neF x (I.base x o e).1) (I.base x o e).2⟩,fun x h=>?_,I.len,fun i x o h1 h2=>?_,I.nd,I.rtab,fun x h=>⟨(I.ftab x h).1,let ⟨o,e⟩:=(I.ftab x h).2;⟨o,hk x o (ne x (I.ftab x h).1) e⟩⟩,fun p hp=>?_⟩⟩
 ·by_cases h:x=q.2
  ·subst h;exact ⟨_,Heap.get?_push_of_some _ htb⟩
  ·exact ⟨o,hk x o h e⟩
 ·rcases h with h | h
  ·refine Za (I.fz x h) fun z124 r=>?_
   refine Ze z124 fun o e=>?_
   exact ⟨⟨o,hk x o (neF x h) e⟩,r⟩
  ·have d:=dead x h
   refine (Iaaa ?_ (fun z=>?_) (fun z=>?_) (fun z=>?_))
   ·rcases h with h | h
    ·subst h;exact ⟨oc,Heap.get?_push_of_some _ hoc⟩
    ·subst h;exact ⟨ob,Heap.get?_push_size _ hf⟩
   ·refine Ze (I.thereT z) fun o e=>?_;rw [d] at e;cases e
   ·refine Zea (List.mem_map.mp z) fun p hp z123=>?_
    obtain rfl:=z123
    refine Zea (I.tab p hp) fun ps' e _=>?_;rw [d] at e;cases e
   ·refine Zae (I.ftab x z) fun _ o e=>?_;rw [d] at e;cases e
 ·refine TrO.mono (G:=G) (G':=⟨{ G.s with heap:=h'.push ob,toks:=tk },fun x=>G.F x∨x=c'∨x=h'.objs.size,G.r,G.fs⟩) (fun _ h=>.inl h) (fun x o hf e=>hk x o (neF x hf) e) (fun _ _ h=>h) (fun o e=>hk x o (ne x (I.rtab x (List.mem_of_getElem? h1)).1) e) (I.trk i x o h1 h2)
 ·have up:∀ v,CodeAtV G.h G.F v (C.tq p.2)→CodeAtV (h'.push ob) (fun x=>G.F x∨x=c'∨x=h'.objs.size) v (C.tq p.2):=fun v z=>z.mono (fun _ h=>.inl h) fun x o hf e=>hk x o (neF x hf) e
  by_cases hpq:p.2=q.2
  ·refine (Ieaa (ps++#[rawInt a,rawInt b,.ref c']) (by rw [hpq];exact Heap.get?_push_of_some _ htb) (by simpa using TriplesOk_snoc a b (.ref c') ps.toList ht) (fun pos w hw=>?_))
   refine Zeaa (I.tab p hp) fun ps0 e0 _ k0=>?_
   rw [hpq,hP] at e0
   have ee:ps=ps0:=by injection e0 with e0;injection e0 with _ _ e0;injection e0
   subst ee
   rcases codeAmong_snoc2 ps.toList ht (by simpa using hw) with w1 | w1
   ·exact up w (k0 pos w w1)
   ·exact (Ieeeeaaaa c' oc vs t w1 (.inr (.inl rfl)) (Heap.get?_push_of_some _ hoc) hd (by rw [hpq];exact hv))
  ·refine Zeaa (I.tab p hp) fun ps0 e0 t0 k0=>?_
   exact (Ieaa ps0 (hk _ _ hpq e0) t0 (fun pos w hw=>up w (k0 pos w hw)))
theorem hit_ok (I:Inv C G σ) {h':Heap} {tk:Nat} {ob:Obj} (hk:∀ b o,G.h.get? b=some o→h'.get? b=some o) (hsz:G.h.objs.size≤h'.objs.size) (hf:ob.isFreed=false) :
  Step C X G ⟨{ G.s with heap:=h'.push ob,toks:=tk },fun x=>G.F x∨x=h'.objs.size,G.r,G.fs⟩∧Inv C ⟨{ G.s with heap:=h'.push ob,toks:=tk },fun x=>G.F x∨x=h'.objs.size,G.r,G.fs⟩ σ:=by
 have hk2:∀ b o,G.h.get? b=some o→(h'.push ob).get? b=some o:=fun b o e=>Heap.get?_push_of_some _ (hk b o e)
 have d:G.h.get? h'.objs.size=none:=dead_ge hsz
 exact ⟨grow_step (P:=fun x=>x=h'.objs.size) hk2 fun x h=>by rw [h];exact d,grow_inv I hk2 fun x h=>by rw [h];exact (Iae d ob (Heap.get?_push_size _ hf))⟩
structure Capt (m:Mp) (scope sc:Scope) (l:Mp):Prop where
 free:∀ x∈scope.names,x.2=.free→sc.names.lookup x.1=some .cell∨sc.names.lookup x.1=some .free
 all:∀ x∈scope.names,x.2=.free→(l.lookup x.1).isSome=true
 has:∀ p∈l,m.lookup p.1=some p.2∧scope.names.lookup p.1=some .free
structure Place (C:Cx) (sc:Scope) (m:Mp) (q:Str) (nm:Str):Prop where
 inf:∃ p,p∈C.tabs∧m.lookup ("<env>":Str)=some (.ins p.1 [(q,.val .none)])∧C.tq p.2=q++nm
 ne:sc.names.lookup ("<env>":Str)=none
theorem bat_at (ok:C.Ok) (I:Inv C G σ) {p:Addr × Addr} (hp:p∈C.tabs):G.h.BuiltinsAt C.mg p.2:=by
 refine Zeeaaaaa ok.bat fun bm ob b1 b2 b3 b4 b5 b6=>?_
 refine Zea (I.tab p hp) fun ps e _=>?_
 have hb:=I.keeps0 _ _ b3
 refine ⟨bm,ob,b1,b2,fun q=>?_,fun q=>?_,hb,b4,b5,b6⟩
 ·refine Zeeeaa ok.g fun o es ep e' hd _=>?_
  rw [q,e'] at b3;cases b3;rw [hd] at b6;cases b6
 ·have:=ok.tab p hp;rw [← q,b3] at this;cases this
theorem mainNe (ok:C.Ok) {p:Addr × Addr} (hp:p∈C.tabs):mainGlobals≠p.2:=fun q=>by
 refine Zeeeaa ok.g fun o es ep e' hd _=>?_
 have:=ok.tab p hp;rw [← q,e'] at this;cases this
noncomputable def ZOf (cl:List (Str × Addr)):Addr→Prop:=fun a=>∃ x,cl.lookup x=some a
theorem vrc_of {cl:List (Str × Addr)} (K:EnvOk C A G env sc m) (h2:∀ x,(x,NameKind.free)∈scope.names→∃ c,cl.lookup x=some c∧env.cells.lookup x=some c) {l:Mp} (cp:Capt m scope sc l):VRc C (G.fzZ (ZOf cl)) cl l:=by
 obtain ⟨hfree,hall,hl⟩:=cp
 clear hall
 induction l with
 | nil=>exact .nil
 | cons p l ih=>
  obtain ⟨y,x⟩:=p
  refine Za (hl (y,x) (List.mem_cons_self ..)) fun e1 e2=>?_
  have e3:=mem_of_lookup e2
  refine Zea (h2 y e3) fun c h3 h4=>?_
  refine Zeaaa (K.cell y (hfree _ e3 rfl)) fun c' h5 _ h6 _=>?_
  rw [h4] at h5;cases h5
  refine Zea (h6 x e1) fun u z122 h9=>?_
  refine Zea z122 fun oc h7 h8=>?_
  exact .cons h3 (.inr ⟨y,h3⟩) h7 h8 h9.fzZ (ih fun p hp=>hl p (List.mem_cons_of_mem _ hp))
theorem zok_of {cl:List (Str × Addr)} (K:EnvOk C A G env sc m) (h1:∀ p∈cl,env.cells.lookup p.1=some p.2) (hn:∀ p∈cl,sc.names.lookup p.1=some .cell∨sc.names.lookup p.1=some .free):ZOk C G (ZOf cl):=by
 have key:∀ a,ZOf cl a→∃ x u,env.cells.lookup x=some a∧G.h.IsCell a u∧a ∉ G.r∧¬ C.tabP a∧a ∉ G.fs:=fun a ⟨x,h⟩=>by
  have e:=h1 (x,a) (mem_of_lookup h)
  refine Zeaaa (K.cell x (hn (x,a) (mem_of_lookup h))) fun c h2 z121 _ h4=>?_
  refine Ze z121 fun u h3=>?_
  rw [e] at h2;cases h2
  exact (Ieeaa x u e h3 h4)
 refine ⟨fun a h=>?_,fun a h=>?_⟩
 ·refine Zeeaa (key a h) fun x u _ z120 _=>?_
  refine Zea z120 fun o e d=>?_
  exact (Ieea o u e d)
 ·refine Zeeaaaa (key a h) fun x u _ z119 h3 h4 h5=>?_
  refine Zea z119 fun o e d=>?_
  exact (Iaa h3 h4 h5)
theorem mkfun_ok (ok:C.Ok) {nm q:Str} {params:Arguments} {body:FuncBody} {pos:Pos} {fl:Nat} {l:Mp} (pl:Place C sc m q nm) (cp:Capt m scope sc l) (I:Inv C G σ) (K:EnvOk C A G env sc m) {Q:Value→Shared→Prop} {E}
  (hQ:∀ u G' cl,Step C (fun _=>False) G G'→Inv C G' σ→EnvOk C A G' env sc m→ZOk C G' (ZOf cl)→(∀ a,ZOf cl a→∃ x,env.cells.lookup x=some a∧(x,NameKind.free)∈scope.names)→(∀ a,G.F a→G'.F a)→VR C (G'.fzZ (ZOf cl)) u (.clo ⟨nm,q++nm,params,body,scope⟩ l)→Q u G'.s) :
  W C A2 (makeFunction nm (env.qual++nm) params body scope env [] [] [] pos fl) Q E G.s:=by
 obtain ⟨⟨p,hp,he,htq⟩,hne⟩:=pl
 refine Za (K.inf hne _ _ he) fun hcode hqual=>?_
 refine Zeaaa (closureFor_ok (scope:=scope) (env:=env) fun x hx=>by
  refine Zea (K.cell x (cp.free (x,.free) hx rfl)) fun c h1 _=>?_
  exact ⟨c,h1⟩) fun cl hcl hc1 hc2 hc3=>?_
 refine Zeaa (I.tab p hp) fun ps hP ht hk=>?_
 have hg:=ok.g.keeps I.keeps0
 have hCH:=(ok.code p hp).keeps I.keeps0
 have hb:=bat_at ok I hp
 have hmem:∀ p∈cl,sc.names.lookup p.1=some .cell∨sc.names.lookup p.1=some .free:=fun p hp=>cp.free _ (hc3 p hp) rfl
 have fin:∀ (cdv ct doc:Value) (h':Heap) (tk:Tok) (F':Addr→Prop),Step C (fun _=>False) G ⟨{ G.s with heap:=h'.push { cls:=.type "function",data:=.func (Tmpl.fd ⟨nm,q++nm,params,body,scope⟩ cl doc ((C.mg "__name__").getD .none) cdv ct) },toks:=tk },F',G.r,G.fs⟩ →
   Inv C ⟨{ G.s with heap:=h'.push { cls:=.type "function",data:=.func (Tmpl.fd ⟨nm,q++nm,params,body,scope⟩ cl doc ((C.mg "__name__").getD .none) cdv ct) },toks:=tk },F',G.r,G.fs⟩ σ→F' h'.objs.size→CodeAtV (h'.push { cls:=.type "function",data:=.func (Tmpl.fd ⟨nm,q++nm,params,body,scope⟩ cl doc ((C.mg "__name__").getD .none) cdv ct) }) F' cdv (q++nm) →
   Q (.ref h'.objs.size) { G.s with heap:=h'.push { cls:=.type "function",data:=.func (Tmpl.fd ⟨nm,q++nm,params,body,scope⟩ cl doc ((C.mg "__name__").getD .none) cdv ct) },toks:=tk }:=fun cdv ct doc h' tk F' S1 I1 hF hcd=>by
  have K1:=K.step I (S1.weaken fun _ h=>h.elim)
  refine hQ _ _ cl S1 I1 K1 (zok_of K1 hc1 hmem) (fun a ⟨x,h⟩=>(Iea x (hc1 (x,a) (mem_of_lookup h)) (hc3 (x,a) (mem_of_lookup h)))) S1.fz (.clo (.inl hF) (Heap.get?_push_size _ rfl) (hcd.mono (fun _ h=>.inl h) fun _ _ _ e=>e) (vrc_of K1 hc2 cp) fun x c h=>cp.all _ (hc3 (x,c) (mem_of_lookup h)) rfl)
 rw [hqual,makeFunction_eq]
 simp only [List.zip_nil_right,List.filterMap_nil,List.isEmpty_nil,if_true,pure_bind]
 cases hc:codeAmong pos ps.toList with
 | none=>
  refine kdv_makeTail (dV:=.none) (mg:=C.mg) hcl K.glob hg hcode hCH hP ht hc (mainNe ok hp) hb fun c' ctv doc h' tk hx hge hlt hrec htb=>?_
  refine Za (made_ok (X:=fun _=>False) (tk:=tk) (ob:={ cls:=.type "function",data:=.func (Tmpl.fd ⟨nm,q++nm,params,body,scope⟩ cl doc ((C.mg "__name__").getD .none) (.ref c') ctv) }) ok I hp hP ht hx hge hlt (by rw [htq];exact hrec) htb rfl) fun S1 I1=>?_
  refine fin (.ref c') ctv doc h' tk _ S1 I1 (.inr (.inr rfl)) ?_
  refine Zeeeeaaa hrec fun c2 oc vs t e2 hoc hd hv=>?_
  cases e2
  exact (Ieeeeaaaa c' oc vs t rfl (.inr (.inl rfl)) (Heap.get?_push_of_some _ hoc) hd hv)
 | some cv=>
  refine kdv_makeTailHit (dV:=.none) (mg:=C.mg) hcl K.glob hg hcode hCH hP ht hc hb fun ctv doc h' tk hk2 hsz=>?_
  refine Za (hit_ok (X:=fun _=>False) (tk:=tk) (ob:={ cls:=.type "function",data:=.func (Tmpl.fd ⟨nm,q++nm,params,body,scope⟩ cl doc ((C.mg "__name__").getD .none) cv ctv) }) I hk2 hsz rfl) fun S1 I1=>?_
  refine fin cv ctv doc h' tk _ S1 I1 (.inr rfl) ?_
  have:=hk pos cv hc
  rw [htq] at this
  exact this.mono (fun _ h=>.inl h) fun b o _ e=>Heap.get?_push_of_some _ (hk2 b o e)
end

noncomputable def PostE (C:Cx) (G:St) (o:Out) (Q:Value→Shared→Prop) (E:Value→Shared→Prop):Prop:=match o with
 | .next _ σ=>False
 | .ret v σ=>∀ u G',Step C G.tr G G'→Inv C G' σ→VR C G' u v→Q u G'.s
 | .exc c σ=>∀ e T G',Step C G.tr G G'→Inv C G' σ→G.h.get? e=none→G.h.get? T=none→Exc C G' c .flying e T→E (.ref e) G'.s
noncomputable def EvO (C:Cx) (D:Nat) (sc:Scope) (m:Mp) (σ:Sto) (e:Expr) (o:Out):Prop:=∀ A G env,AOk A D→Inv C G σ→EnvOk C A G env sc m→∀ Q E,PostE C G o Q E→W C A (eval e env) Q E G.s
noncomputable def CallV (C:Cx) (D:Nat) (fv:AV) (vs:List AV) (σ:Sto) (o:Out):Prop:=∀ A G u us,AOk A D→Inv C G σ→StackOk A G→VR C G u fv→VRs C G us vs→∀ Q E,PostC C G o Q E→W C A (call u us) Q E G.s
noncomputable def KeepV (C:Cx):AV→Prop
 | .val (.ref f)=>keepIn C.K (.ref f)=true
 | .clo _ _=>True
 | _=>False
section
variable {fv:AV} {P:Addr} {ex:Expr}
theorem EvE.evO (h:EvE C D sc m σ ex v σ'):EvO C D sc m σ ex (.ret v σ'):=fun A G env hA I K Q E hQ=>h A G env hA I K Q E hQ
theorem EvX.evO (h:EvX C D sc m σ ex c σ'):EvO C D sc m σ ex (.exc c σ'):=fun A G env hA I K Q E hQ=>h A G env hA I K Q E hQ
theorem CallR.toV {f:Addr} {vs:List AV} (h:CallR C D f vs σ o):CallV C D (.val (.ref f)) vs σ o:=fun A G u us hA I SK V VS Q E hQ=>V.val_elim (h A G us hA I SK VS Q E hQ)
theorem CallV.toR {f:Addr} {vs:List AV} (h:CallV C D (.val (.ref f)) vs σ o):CallR C D f vs σ o:=fun A G us hA I SK VS Q E hQ=>h A G (.ref f) us hA I SK (.val _) VS Q E hQ
theorem keepsV (ok:C.Ok) {u:Value} (hk:KeepV C fv) (I:Inv C G σ) (V:VR C G u fv):Keeps1 C G u:=by
 cases V with
 | val=>cases u<;>first | exact hk.elim | exact keeps1_K ok hk I
 | clo a b c d e=>exact (Iea .frame (.inl rfl) ((Looks.ld (part:=none) b).andThen .now))
 | _=>exact hk.elim
theorem fnE_ok {f:Addr} {fd:FuncData} {body:Expr} {us:List Value} {binds:List (Str × Value)} {kw:List (Str × Value)} (ok:C.Ok)
  (hat:∃ o,G.h.get? f=some o∧o.data=.func fd) (hcode:G.h.CodeRec fd.code fd.qualname) (hbody:fd.body=.expr body) (hsc:fd.scope=sc) (hglob:fd.globals=mainGlobals) (hbi:fd.builtins=builtinsNs)
  (hkind:sc.kind=.function) (hco:sc.isCoroutine=false) (hgen:sc.isGenerator=false) (hnd:(sc.names.map (·.1)).Nodup)
  (hA:AOk A (D+1)) (I:Inv C G σ) (SK:StackOk A G)
  (hb:∀ (Q:List (Str × Value)→Shared→Prop) E,Q binds G.s→W C A.in1 (bindArgs fd ⟨us,kw⟩) Q E G.s)
  (hB:BindsAre C G binds mB) (hloc:∀ p∈mB,sc.names.lookup p.1=some .local∨sc.names.lookup p.1=some .cell) (hcl:CloOk C G sc fd.closure mC) (hmC:∀ x v,mC.lookup x=some v→sc.names.lookup x=some .free∨sc.names.lookup x=none) (hinf:∀ env:Env,env.code=fd.code→env.qual=fd.qualname++".<locals>."→InfOk env sc mC)
  (hS:EvO C D sc (mB.reverse++mC) σ body o) (hno:∀ m σ,o≠.next m σ) {Q:Value→Shared→Prop} {E:Value→Shared→Prop} (hP:PostC C G o Q E):W C A (call (.ref f) us kw) Q E G.s:=by
 refine Zea hat fun oo ho hd=>?_
 subst hsc
 refine wpAny_call (kla_callFunE (by have:=hA.2.1;omega) ho hd hco hgen hbody hcode (hb _ _ ?_))
 simp only [newFunctionEnv,Option.isSome_none,Bool.false_eq_true,if_false]
 refine wpAny_bind (wpAny_alloc ?_)
 refine wpAny_bind (wpAny_layCells _ (fun name kind cells=>by cases hkc:kind == NameKind.cell<;>simp [hkc]) _ _ _ _ ?_)
 have hz:({ G.s with heap:=G.s.heap.push { cls:=.type "frame",data:=.dict #[] } }:Shared).heap.objs.size=G.sz+1:=Heap.size_push ..
 rw [hz]
 generalize henv:({ scope:=fd.scope,locals:=G.s.heap.objs.size,globals:=fd.globals,cells:=cellsFrom (G.sz+1) fd.scope.names fd.closure,qual:=fd.qualname++".<locals>.",func:=some f,code:=fd.code,frame:=some G.s.heap.objs.size,builtins:=fd.builtins }:Env)=env
 have e1:env.scope=fd.scope:=by rw [← henv]
 have e2:env.globals=mainGlobals:=by rw [← henv];exact hglob
 have e3:env.builtins=builtinsNs:=by rw [← henv];exact hbi
 have e4:env.locals=G.sz:=by rw [← henv];rfl
 have e5:env.cells=cellsFrom (G.sz+1) fd.scope.names fd.closure:=by rw [← henv]
 have e6:env.frame=some G.sz:=by rw [← henv];rfl
 have hSK:StackOk (A.deeper env) ⟨{ G.s with heap:=frameHeap G.h "frame" fd.scope },G.F,G.r,G.sz::G.fs⟩:=by
  refine Zea SK fun l h1 h2=>?_
  refine (Iea (env::l) (by refine (?_:A.frames.map _=_);rw [h1];rfl) (fun en hen=>?_))
  rcases List.mem_cons.mp hen with rfl | hen
  ·refine Zeeeaa (((Heap.Ns.new G.h (.type "frame")).keeps (pushCells_keeps fd.scope.names _):(frameHeap G.h "frame" fd.scope).Ns G.sz (fun _=>none))) fun ob es ep h3 h4 _=>?_
   exact (Iaeeaaa (by rw [e1];exact hkind) G.sz ob e6 (List.mem_cons_self ..) h3 (fun vs q=>by rw [h4] at q;cases q))
  ·refine Zaeeaaa (h2 en hen) fun k1 L ob k2 k3 k4 k5=>?_
   exact (Iaeeaaa k1 L ob k2 (List.mem_cons_of_mem _ k3) (frame_keeps k4) k5)
 refine Zaa (frame_ok (isF:=true) (cls:="frame") (A:=A.deeper env) I hkind hnd hcl hmC rfl e1 e2 e3 e4 e5 (hinf env (by rw [← henv]) (by rw [← henv])) hSK) fun I0 K0 O0=>?_
 have hc:∀ x a,fd.scope.names.lookup x=some .cell→env.cells.lookup x=some a→G.h.get? a=none:=fun x a h1 h2=>by
  rw [e5,cellsFrom_append] at h2
  have ok:=cellsFrom_ok fd.scope.names (G.h.push { cls:=.type "frame",data:=.dict #[] }) (G.sz+1) [] ⟨fun _ _ hm=>(nomatch hm),List.Pairwise.nil⟩ (by rw [Heap.size_push];exact Nat.le_refl _)
  rw [Heap.size_push] at ok
  refine Ze (cellsFrom_has fd.scope.names (G.sz+1) (mem_of_lookup h1)) fun c0 hc0=>?_
  refine Ze (lookup_of_mem hc0) fun c1 hc1=>?_
  rw [lookup_append_left hc1] at h2
  have h3:=Option.some.inj h2
  have h4:=(ok.empty x c1 (mem_of_lookup hc1)).2
  rw [h3] at h4
  exact dead_ge (Nat.le_of_succ_le h4)
 have hB0:BindsAre C ⟨{ G.s with heap:=frameHeap G.h "frame" fd.scope },G.F,G.r,G.sz::G.fs⟩ binds mB:=by
  clear hb hloc hS
  induction binds generalizing mB with
  | nil=>cases mB with
   | nil=>trivial
   | cons=>exact hB.elim
  | cons p r ih=>cases mB with
   | nil=>exact hB.elim
   | cons q l=>
    obtain ⟨p1,p2⟩:=p;obtain ⟨q1,q2⟩:=q
    refine Zaa hB fun h1 h2 h3=>?_
    exact (Iaa h1 (VR.mono (G:=G) (G':=⟨{ G.s with heap:=frameHeap G.h "frame" fd.scope },G.F,G.r,G.sz::G.fs⟩) (fun _ h=>h) (fun b o _ e=>frame_keeps e) (fun _ _ h=>h) h2) (ih h3))
 refine wpAny_bind ?_
 refine binds_ok (A:=A.deeper env) (sc:=fd.scope) (G:=⟨{ G.s with heap:=frameHeap G.h "frame" fd.scope },G.F,G.r,G.sz::G.fs⟩) _ (fun _ _ _=>rfl) hB0 hloc I0 K0 O0 fun G1 s1 I1 K1 O1=>?_
 refine wpAny_pure ⟨ok.nolimit.keeps I1.keeps0,kla_codeExpr ?_⟩
 refine hS (A.deeper env) G1 env (Iaa hA.1 (by refine (?_:A.depth+1+D < _);have:=hA.2.1;omega) (by refine (?_:A.units+3+_+_ < _);have:=hA.2.2;omega)) I1 K1 _ _ ?_
 cases o with
 | next m1 σ1=>exact absurd rfl (hno m1 σ1)
 | ret v1 σ1=>
  intro u G2 s2 I2 V
  refine Za (exit_ok (isF:=true) I rfl e4 hc (s1.trs s2.toX) I2) fun s3 I3=>?_
  exact hP u (G2.back G) s3 I3 V.back
 | exc c σ1=>
  intro e T G2 s2 I2 de dT X
  have K2:=(K1.step I1 s2).stk
  refine Zea K2 fun l h1 h2=>?_
  have h1':A.frames.map (env::·)=some l:=h1
  refine Zea (Option.map_eq_some_iff.mp h1') fun l0 h3 z127=>?_
  obtain rfl:=z127
  have stp:=s1.trs (s2.toX)
  refine (move_ok (L:=G.sz) stp ?_ ?_ I2 h1 e6 h2 X (fun _ h=>by cases h)).1 fun T' G3 s3 I3 hfs _ dT' X'=>?_
  ·exact s1.dead de
  ·exact s1.dead dT
  refine Za (exit_ok (isF:=true) I rfl e4 hc s3 I3) fun s4 I4=>?_
  have deadB:∀ a,(frameHeap G.h "frame" fd.scope).get? a=none→G.h.get? a=none:=fun a h=>by
   cases q:G.h.get? a with
   | none=>rfl
   | some oo=>rw [frame_keeps q] at h;cases h
  refine hP e T' (G3.back G) s4 I4 (deadB e (s1.dead de)) (deadB T' dT') ⟨⟨X'.oe.f,X'.oe.r,X'.oe.t,fun q=>X'.oe.s ?_⟩,⟨X'.oT.f,X'.oT.r,X'.oT.t,fun q=>X'.oT.s ?_⟩,X'.ne,X'.at_⟩
  ·rw [hfs,stp.fs];exact List.mem_cons_of_mem _ q
  ·rw [hfs,stp.fs];exact List.mem_cons_of_mem _ q
theorem VRc.find {cl:List (Str × Addr)} {l:Mp} {x:Str} (H:VRc C G cl l):l.lookup x=some v→∃ c o u,cl.lookup x=some c∧G.F c∧G.h.get? c=some o∧o.data=.cell (some u)∧VR C G u v:=by
 refine VRc.ind ?_ ?_ H
 ·intro _;exact nofun
 intro _ _ _ _ _ _ _ a b c d e f ih
 intro h
 rw [List.lookup_cons] at h
 split at h
 ·rename_i hb
  obtain rfl:=eq_of_beq hb
  cases h
  exact (Ieeeaaaa _ _ _ a b c d e)
 ·exact ih h
structure TmOk (T:Tmpl) (l:Mp) (ps:List Str):Prop where
 kind:T.scope.kind=.function
 co:T.scope.isCoroutine=false
 gen:T.scope.isGenerator=false
 nd:(T.scope.names.map (·.1)).Nodup
 bind:∀ (cl:List (Str × Addr)) (doc pm cdv ct:Value) (us:List Value),us.length=ps.length→bindArgs (T.fd cl doc pm cdv ct) ⟨us,[]⟩=pure (ps.zip us)
 loc:∀ p∈ps,T.scope.names.lookup p=some .local∨T.scope.names.lookup p=some .cell
 all:∀ x,T.scope.names.lookup x=some .free→(l.lookup x).isSome=true
 has:∀ x v,l.lookup x=some v→T.scope.names.lookup x=some .free
theorem clo_cl {T:Tmpl} {l:Mp} {ps:List Str} {cl:List (Str × Addr)} (I:Inv C G σ) (t:TmOk T l ps) (h:VRc C G cl l) (h2:∀ x c,cl.lookup x=some c→(l.lookup x).isSome=true):CloOk C G T.scope cl l:=by
 refine ⟨fun x hx=>?_,fun x c hc=>?_⟩
 ·refine Ze (Option.isSome_iff_exists.mp (t.all x hx)) fun v hv=>?_
  refine Zeeeaaaa (h.find hv) fun c o u e1 e2 e3 e4 e5=>?_
  refine Zaaa (I.fz c e2) fun _ f2 f3 f4=>?_
  exact (Ieaaaaa c e1 (Ieea (some u) o e3 e4) (fun w hw=>by rw [hv] at hw;cases hw;exact (Iea u (Iea o e3 e4) e5)) f2 f3 f4)
 ·refine Ze (Option.isSome_iff_exists.mp (h2 x c hc)) fun v hv=>?_
  refine Zeeeaaaa (h.find hv) fun c' o u e1 e2 e3 e4 e5=>?_
  rw [hc] at e1;cases e1
  exact ⟨o,e3⟩
theorem inf_free {T:Tmpl} {l:Mp} {ps:List Str} (t:TmOk T l ps) (env:Env):InfOk env T.scope l:=fun hn c q e=>by
 have:=t.has _ _ e
 rw [hn] at this;cases this
theorem clo_stmts (ok:C.Ok) {T:Tmpl} {l:Mp} {ps:List Str} {body:List Stmt} {vs:List AV} (t:TmOk T l ps) (hb:T.body=.stmts body) (hl:vs.length=ps.length) (hS:ExS C D T.scope ((ps.zip vs).reverse++l) σ body o):CallV C (D+1) (.clo T l) vs σ o:=fun A G u us hA I SK V VS Q E hP=>by
 cases V with
 | @clo _ a oc od sl cl doc pm cdv ct _ h1 h2 h3 h4 h5=>
  refine Zeeeeaaaa h3 fun c oo ws tt e1 e2 e3 e4 e5=>?_
  exact fn_ok (mC:=l) ok ⟨(Iea _ h2 rfl),(Ieeeeaaa c oo ws tt e1 e3 e4 e5),hb,rfl,rfl,rfl,t.kind,t.co,t.gen,t.nd⟩ hA I SK (fun Q' E' hQ'=>by rw [t.bind _ _ _ _ _ us (by rw [VS.length,hl])];exact wpAny_pure hQ') (binds_zip VS) (fun p hp=>t.loc p.1 (List.of_mem_zip (a:=p.1) (b:=p.2) hp).1) (clo_cl I t h4 h5) (fun x v h=>.inl (t.has x v h)) (fun env _ _=>inf_free t env) hS hP
theorem clo_expr (ok:C.Ok) {T:Tmpl} {l:Mp} {ps:List Str} {body:Expr} {vs:List AV} (t:TmOk T l ps) (hb:T.body=.expr body) (hl:vs.length=ps.length) (hS:EvO C D T.scope ((ps.zip vs).reverse++l) σ body o) (hno:∀ m σ,o≠.next m σ):CallV C (D+1) (.clo T l) vs σ o:=fun A G u us hA I SK V VS Q E hP=>by
 cases V with
 | @clo _ a oc od sl cl doc pm cdv ct _ h1 h2 h3 h4 h5=>
  refine Zeeeeaaaa h3 fun c oo ws tt e1 e2 e3 e4 e5=>?_
  exact fnE_ok (mC:=l) ok (Iea _ h2 rfl) (Ieeeeaaa c oo ws tt e1 e3 e4 e5) hb rfl rfl rfl t.kind t.co t.gen t.nd hA I SK (fun Q' E' hQ'=>by rw [t.bind _ _ _ _ _ us (by rw [VS.length,hl])];exact wpAny_pure hQ') (binds_zip VS) (fun p hp=>t.loc p.1 (List.of_mem_zip (a:=p.1) (b:=p.2) hp).1) (clo_cl I t h4 h5) (fun x v h=>.inl (t.has x v h)) (fun env _ _=>inf_free t env) hS hno hP
theorem CallV.le {D':Nat} {vs:List AV} (h:CallV C D fv vs σ o) (hd:D≤D'):CallV C D' fv vs σ o:=fun A G u us hA=>h A G u us (hA.le hd)
theorem EvE.callL (ok:C.Ok) {x:Str} {np pos} {a:Expr} {args:List Expr} {vs:List AV} (hf:EvE C D sc m σ (.Name x np) fv σ) (hk:KeepV C fv) (hs:noStars (a::args)=true) (ha:EvL C D sc m σ (a::args) vs σ')
  (h:CallV C D fv vs σ' (.ret v σ'')):EvE C D sc m σ (.Call (.Name x np) (a::args) [] pos) v σ'':=
 EvE.callG hf hs ha (fun G u I V=>keepsV ok hk I V) (fun G u I V G' st=>V.step I st I.hX) fun A G u us hA I SK V VS Q E hQ=>h A G u us hA I SK V VS Q E hQ
theorem EvE.callL0 (ok:C.Ok) {x:Str} {np pos} (hf:EvE C D sc m σ (.Name x np) fv σ) (hk:KeepV C fv) (h:CallV C D fv [] σ (.ret v σ'')):EvE C D sc m σ (.Call (.Name x np) [] [] pos) v σ'':=fun A G env hA I K Q E hQ=>by
 rw [eval_Call_Name]
 refine wpAny_bind (hf A G env hA I K _ _ fun u G1 s1 I1 V1=>?_)
 refine args0_ok (keepsV ok hk I1 V1) (h A G1 u [] hA I1 (K.step I s1).stk V1 .nil _ _ fun r G2 s2 I2 V2=>?_)
 exact hQ r G2 (s1.trr I s2) I2 V2
theorem EvX.callL0 (ok:C.Ok) {x:Str} {np pos} (hf:EvE C D sc m σ (.Name x np) fv σ) (hk:KeepV C fv) (h:CallV C D fv [] σ (.exc c σ'')):EvX C D sc m σ (.Call (.Name x np) [] [] pos) c σ'':=fun A G env hA I K Q E hQ=>by
 rw [eval_Call_Name]
 refine wpAny_bind (hf A G env hA I K _ _ fun u G1 s1 I1 V1=>?_)
 refine args0_ok (keepsV ok hk I1 V1) (h A G1 u [] hA I1 (K.step I s1).stk V1 .nil _ _ fun e T G2 s2 I2 de dT X=>?_)
 exact hQ e T G2 (s1.trr I s2) I2 (s1.dead de) (s1.dead dT) X
theorem EvE.callLam (ok:C.Ok) {x:Str} {np pos lpos:Pos} {f:Addr} {params:Arguments} {body:Expr} {q:Str} {l:Mp} (hf:EvE C D sc m σ (.Name x np) (.val (.ref f)) σ) (hk:keepIn C.K (.ref f)=true)
  (pl:Place C sc m q "<lambda>") (cp:Capt m scope sc l) (hdef:∀ env,defaultsOf params env=([],[])) (h:CallR C D f [.clo ⟨"<lambda>",q++"<lambda>",params,.expr body,scope⟩ l] σ (.ret v σ')) (hn:∀ o∈σ',ncO o=true) (hv:nc v=true) :
  EvE C D sc m σ (.Call (.Name x np) [.Lambda params body scope lpos] [] pos) v σ':=fun A G env hA I K Q E hQ=>by
 rw [eval_Call_Name]
 refine wpAny_bind (hf A G env hA I K _ _ fun u G1 s1 I1 V1=>?_)
 refine V1.val_elim ?_
 have K1:=K.step I s1
 refine callWith_of (P:=fun h=>∃ k,(k=Keeper.frame∨k=Keeper.machine∨k=Keeper.boundFrame)∧Looks (model C.prog C.w) h (keeperOf (.ref f)) k) (by rfl) (fun _ h=>h) ?_
 refine evalArgs_plain (Calls.spliced_cons (kla_eval (hdef env) (mkfun_ok ok pl cp I1 K1 fun u G2 cl s2 I2 K2 z hz hF V2=>Calls.spliced_nil ?_)))
 refine ⟨keeps1_K ok hk I2,?_⟩
 have I2':=fzZ_inv I2 z
 refine h A (G2.fzZ (ZOf cl)) [u] hA I2' ?_ (.cons V2 .nil) _ _ fun r G3 s3 I3 V3=>?_
 ·refine Zea K2.stk fun ll e k=>?_
  exact (Iea ll e k)
 ·refine Zaa (thaw_ok I2 z s3 (fun a ha=>⟨I2.trkF ha,fun q=>(z.off a q).1 ha⟩) I3 hn) fun S4 I4 V4=>?_
  exact hQ r (G3.thaw G2 (ZOf cl)) ((s1.trr I (s2.weaken fun _ h=>h.elim)).trr I S4) I4 (V4 r v V3 hv)
theorem ExS.defRet (ok:C.Ok) {nm q:Str} {params:Arguments} {body:List Stmt} {dpos rpos:Pos} {ex:Expr} {l:Mp} (pl:Place C sc m q nm) (cp:Capt m scope sc l) (hnm:sc.names.lookup nm=some .local∨sc.names.lookup nm=some .cell) (hsf:(nm,NameKind.free) ∉ scope.names) (hd0:params.defaults=[]) (hk0:params.kw_defaults=[]) (ha:∀ env,annTrees params none env=[])
  (h:EvE C D sc ((nm,.clo ⟨nm,q++nm,params,.stmts body,scope⟩ l)::m) σ ex v σ') (hn:∀ o∈σ',ncO o=true) (hv:nc v=true) :
  ExS C D sc m σ [.FunctionDef nm params body [] none [] scope none nm dpos,.Return (some ex) rpos] (.ret v σ'):=fun A G env hA I K O TT Q E hQ=>by
 refine wpAny_execs_cons (nestDef_K hd0 hk0 (ha env) ?_)
 have hq:qualnameIn env nm nm=env.qual++nm:=by
  unfold qualnameIn
  rw [K.kindOf]
  rcases hnm with hnm | hnm<;>rw [hnm]<;>rfl
 rw [hq]
 refine mkfun_ok ok pl cp I K fun u G2 cl s2 I2 K2 z hz hF V2=>?_
 have hZL:¬ ZOf cl env.locals:=fun hq=>by
  refine Zeea (z.cell _ hq) fun o w e d=>?_
  refine Zea K2.ns fun ml z126 _=>?_
  refine Zeeeaa z126 fun o' es ep e' d' _=>?_
  rw [e] at e';cases e';rw [d] at d';cases d'
 have O2:=O.step K s2
 have hZn:∀ c,sc.names.lookup nm=some .cell→env.cells.lookup nm=some c→¬ ZOf cl c:=fun c h1 h2 h3=>by
  refine Zea (hz c h3) fun y hy hf=>?_
  have:=(O2.own nm c h1 h2).2.2.2 y (cp.free _ hf rfl) hy
  rw [this] at hf
  exact hsf hf
 refine store_core (G:=G2.fzZ (ZOf cl)) (fzZ_inv I2 z) (K2.fzZ hZL) (fun h1 c h2=>⟨fun q=>q.elim (O2.own nm c h1 h2).1 (hZn c h1 h2),(O2.own nm c h1 h2).2⟩) V2 hnm fun G3 s3 I3 K3=>?_
 refine wpAny_execs_cons (wpAny_Return_some (h A G3 env hA I3 K3 _ _ fun r G4 s4 I4 V4=>?_))
 have s34:Step C (fun a=>a∈G2.r∨X1 env sc nm a) (G2.fzZ (ZOf cl)) G4:=(s3.weaken fun a ha=>.inl (.inr ha)).trans s4 fun a ha=>(s3.rold ha).imp .inl id
 have hX:∀ a,(a∈G2.r∨X1 env sc nm a)→¬ G2.F a∧¬ ZOf cl a:=fun a ha=>by
  rcases ha with ha | ha | ha
  ·exact ⟨I2.trkF ha,fun q=>(z.off a q).1 ha⟩
  ·rw [ha.2];exact ⟨K2.off.2.2,hZL⟩
  ·exact ⟨(O2.own nm a ha.1 ha.2).1,hZn a ha.1 ha.2⟩
 refine Zaa (thaw_ok I2 z s34 hX I4 hn) fun S5 I5 V5=>?_
 ·have stk:StackOk A (G4.thaw G2 (ZOf cl)):=let ⟨ll,e,k⟩:=(K3.step I3 s4).stk;(Iea ll e k)
  refine hQ r (G4.thaw G2 (ZOf cl)) ((s2.weaken fun _ h=>h.elim).trans S5 fun a ha=>?_) I5 stk (V5 r v V4 hv)
  rcases ha with ha | ha
  ·exact (s2.rold ha).imp .inl id
  ·exact .inl ha.xs
end
end
mutual
inductive Fz (σ:Sto) (n:Nat):AV→AV→Prop
 | p (x):Fz σ n (.p x) (.p x)
 | val (v):Fz σ n (.val v) (.val v)
 | low {i}:i < n→Fz σ n (.loc i) (.loc i)
 | llst {i l l'}:n≤i→σ[i]?=some (.lst l)→FzL σ n l l'→Fz σ n (.loc i) (.lst l')
 | ldct {i l l'}:n≤i→σ[i]?=some (.dct l)→FzD σ n l l'→Fz σ n (.loc i) (.dct l')
 | lins {i c d l l'}:n≤i→n≤d→σ[i]?=some (.ins c d)→σ[d]?=some (.att l)→FzD σ n l l'→Fz σ n (.loc i) (.ins c l')
 | lst {l l'}:FzL σ n l l'→Fz σ n (.lst l) (.lst l')
 | dct {l l'}:FzD σ n l l'→Fz σ n (.dct l) (.dct l')
 | ins {c l l'}:FzD σ n l l'→Fz σ n (.ins c l) (.ins c l')
 | clo {T l l'}:FzD σ n l l'→Fz σ n (.clo T l) (.clo T l')
inductive FzL (σ:Sto) (n:Nat):List AV→List AV→Prop
 | nil:FzL σ n [] []
 | cons {x y l l'}:Fz σ n x y→FzL σ n l l'→FzL σ n (x::l) (y::l')
inductive FzD (σ:Sto) (n:Nat):Mp→Mp→Prop
 | nil:FzD σ n [] []
 | cons {k x y l l'}:Fz σ n x y→FzD σ n l l'→FzD σ n ((k,x)::l) ((k,y)::l')
end
noncomputable def St.frz (G:St) (n:Nat):St:=⟨G.s,fun a=>G.F a∨a∈G.r.drop n,G.r.take n,G.fs⟩
section
variable {C:Cx} {D n:Nat} {sc sc0 scope:Scope} {m m' mB mC:Mp} {σ σ' σ'' σ1 σ2 σ3:Sto} {v:AV} {o:Out} {A A2:Around} {G G' G'' R:St} {env:Env} {c e T:Addr} {X Y Z:Addr→Prop}
section
variable {v' fv fv':AV} {P:Addr} {ex:Expr}
theorem mem_drop_of {l:List Addr} {i:Nat} {a:Addr} (h:l[i]?=some a) (hn:n≤i):a∈l.drop n:=by
 refine List.mem_iff_getElem?.mpr ⟨i - n,?_⟩
 rw [List.getElem?_drop,show n+(i - n)=i by walk_at "o"];exact h
theorem dct_of_tr {a:Addr} {l:Mp} (h:TrO C G a (.dct l)):∃ (o:Obj) (es:Array DictEntry) (k:Nat) (g:Str→Value),G.h.get? a=some o∧o.ExactDict∧o.data=.dict es k∧KeyHash C.w es∧(∀ y x,l.lookup y=some x→findEs es y=some (g y)∧VR C G (g y) x)∧(∀ y,l.lookup y=.none→findEs es y=.none)∧(a == sysModules)=false:=by
 refine Zeeeaaaeaaa h fun o es k h1 h2 h3 kvs h4 h5 h6 h7=>?_
 have hm:=(show G.h.DictOf (strKind C.prog C.w) a kvs from (Ieeeaaa o es k h1 h2 h3 h4)).mapOf
 refine Zeeeaaaa hm fun o' es' k' h1' _ h3' h8 h9=>?_
 rw [h1] at h1';cases h1';rw [h3] at h3';cases h3'
 have hf:∀ y,findEs es y=valueAt kvs y:=fun y=>by
  rw [← h9 y];unfold findBy findEs;rw [← Array.find?_toList];rfl
 refine (Ieeeeaaaaaa o es k (fun y=>(valueAt kvs y).getD .none) h1 h2 h3 (fun e he=>?_) (fun y x hx=>?_) (fun y hy=>?_) h7)
 ·refine Zea (h4.1 e he) fun y e1 e2=>?_
  exact (Iea y e1 e2)
 ·refine Zea (h6.1 y x hx) fun u e1 e2=>?_
  have e3:(fun y=>(valueAt kvs y).getD Value.none) y=u:=by refine (?_:(valueAt kvs y).getD Value.none=u);rw [e1];rfl
  rw [hf,e1,e3];exact ⟨rfl,e2⟩
 ·rw [hf];exact h6.2 y hy
noncomputable def FzV (C:Cx) (G:St) (n:Nat) (v v':AV):Prop:=∀ u,VR C G u v→VR C (G.frz n) u v'
structure FzDs (C:Cx) (G:St) (n:Nat) (l l':Mp):Prop where
 d:∀ u,VRd C G u l→VRd C (G.frz n) u l'
 c:∀ u,VRc C G u l→VRc C (G.frz n) u l'
 look:∀ k x',l'.lookup k=some x'→∃ x,l.lookup k=some x∧FzV C G n x x'
 none:∀ k,(l.lookup k=.none↔l'.lookup k=.none)∧((l.lookup k).isSome=true↔(l'.lookup k).isSome=true)
noncomputable abbrev FzLs (C:Cx) (G:St) (n:Nat) (l l':List AV):Prop:=∀ u,VRs C G u l→VRs C (G.frz n) u l'
theorem fz_p (x):FzV C G n (.p x) (.p x):=fun _ V=>match V with | .p a b=>.p (PR.mono (fun _ h=>.inl h) (fun _ _ _ e=>e) a) b
theorem fz_val (x):FzV C G n (.val x) (.val x):=fun _ V=>V.val_elim (.val _)
theorem fz_low {i:Nat} (h:i < n):FzV C G n (.loc i) (.loc i):=fun _ V=>V.loc_elim fun _ a=>.loc (by show (G.r.take n)[_]?=_;rw [List.getElem?_take,if_pos h];exact a)
theorem fz_llst (I:Inv C G σ) {i:Nat} {l l':List AV} (hi:n≤i) (he:σ[i]?=some (.lst l)) (hl:FzLs C G n l l'):FzV C G n (.loc i) (.lst l'):=fun _ V=>V.loc_elim fun _ a=>by
  refine Zeeeaaa (I.tget a he) fun o vs k h1 h2 h3 h4=>?_
  exact .lst (.inr (mem_drop_of a hi)) h1 h2 h3 (hl _ h4)
theorem fz_ldct (I:Inv C G σ) {i:Nat} {l l':Mp} (hi:n≤i) (he:σ[i]?=some (.dct l)) (hl:FzDs C G n l l'):FzV C G n (.loc i) (.dct l'):=fun _ V=>V.loc_elim fun _ a=>by
  refine Zeeeeaaaaaa (dct_of_tr (I.tget a he)) fun o es k g h1 h2 h3 h4 h5 h6 h7=>?_
  refine .dct g (.inr (mem_drop_of a hi)) h1 h2 h3 h4 (fun y x' hx=>?_) (fun y x' hx=>?_) (fun y hy=>h6 y ((hl.none y).1.mpr hy)) h7
  ·refine Zea (hl.look _ _ hx) fun x e1 e2=>?_
   exact (h5 y x e1).1
  ·refine Zea (hl.look _ _ hx) fun x e1 e2=>?_
   exact e2 _ (h5 y x e1).2
theorem fz_lins (I:Inv C G σ) {i c d:Nat} {l l':Mp} (hi:n≤i) (hd:n≤d) (he:σ[i]?=some (.ins c d)) (he2:σ[d]?=some (.att l)) (hl:FzDs C G n l l'):FzV C G n (.loc i) (.ins c l'):=fun _ V=>V.loc_elim fun _ a=>by
  refine Zeea (I.tget a he) fun da sl h1 h2=>?_
  refine Zeeaa (I.tget h1 he2) fun es k h3 h4 h5=>?_
  exact .ins (.inr (mem_drop_of a hi)) (.inr (mem_drop_of h1 hd)) h2 h3 (hl.d _ h4)
theorem fz_lst {l l':List AV} (hl:FzLs C G n l l'):FzV C G n (.lst l) (.lst l'):=fun _ V=>V.lst_elim fun _ _ _ _ a b c d e=>.lst (.inl a) b c d (hl _ e)
theorem fz_dct {l l':Mp} (hl:FzDs C G n l l'):FzV C G n (.dct l) (.dct l'):=fun _ V=>match V with
 | .dct g a b c d e f1 f2 f3 z=>.dct g (.inl a) b c d e (fun y x' hx=>let ⟨x,e1,_⟩:=hl.look _ _ hx;f1 y x e1) (fun y x' hx=>let ⟨x,e1,e2⟩:=hl.look _ _ hx;e2 _ (f2 y x e1)) (fun y hy=>f3 y ((hl.none y).1.mpr hy)) z
theorem fz_ins {c:Addr} {l l':Mp} (hl:FzDs C G n l l'):FzV C G n (.ins c l) (.ins c l'):=fun _ V=>match V with | .ins a b c d e=>.ins (.inl a) (.inl b) c d (hl.d _ e)
theorem fz_clo {T:Tmpl} {l l':Mp} (hl:FzDs C G n l l'):FzV C G n (.clo T l) (.clo T l'):=fun _ V=>match V with
 | .clo a b c d e=>.clo (.inl a) b (c.mono (fun _ h=>.inl h) fun _ _ _ e=>e) (hl.c _ d) fun x c h=>(hl.none _).2.mp (e x c h)
theorem fz_nil:FzLs C G n [] []:=fun _ V=>match V with | .nil=>.nil
theorem fz_cons {x y:AV} {l l':List AV} (a:FzV C G n x y) (b:FzLs C G n l l'):FzLs C G n (x::l) (y::l'):=fun _ V=>match V with | .cons c d=>.cons (a _ c) (b _ d)
theorem fz_nild:FzDs C G n [] []:=⟨fun _ V=>(match V with | .nil=>.nil),fun _ V=>(match V with | .nil=>.nil),fun _ _ h=>(nomatch h),fun _=>⟨Iff.rfl,Iff.rfl⟩⟩
theorem fz_consd {k:Str} {x y:AV} {l l':Mp} (a:FzV C G n x y) (b:FzDs C G n l l'):FzDs C G n ((k,x)::l) ((k,y)::l'):=
 ⟨fun _ V=>(match V with | .cons z c d=>.cons z (a _ c) (b.d _ d)),fun _ V=>(match V with | .cons z c d f g h=>.cons z (.inl c) d f (a _ g) (b.c _ h)),fun q x' h=>by
  rw [List.lookup_cons] at h ⊢
  split at h
  ·cases h
   exact (Iea x rfl a)
  ·exact b.look _ _ h,fun q=>by
  rw [List.lookup_cons,List.lookup_cons]
  split
  ·exact ⟨⟨nofun,nofun⟩,⟨fun _=>rfl,fun _=>rfl⟩⟩
  ·exact b.none q⟩
theorem VR.frz (I:Inv C G σ) {v v':AV} (h:Fz σ n v v') {u:Value} (V:VR C G u v):VR C (G.frz n) u v':=
 Fz.rec (motive_1:=fun v v' _=>FzV C G n v v') (motive_2:=fun l l' _=>FzLs C G n l l') (motive_3:=fun l l' _=>FzDs C G n l l') fz_p fz_val fz_low (fun h e _ i=>fz_llst I h e i) (fun h e _ i=>fz_ldct I h e i) (fun h d e e2 _ i=>fz_lins I h d e e2 i) (fun _=>fz_lst) (fun _=>fz_dct) (fun _=>fz_ins) (fun _=>fz_clo) fz_nil (fun _ _=>fz_cons) fz_nild (fun _ _=>fz_consd) h u V
theorem VRs.frz (I:Inv C G σ) {l l':List AV} (h:FzL σ n l l') {u:List Value} (V:VRs C G u l):VRs C (G.frz n) u l':=
 FzL.rec (motive_1:=fun v v' _=>FzV C G n v v') (motive_2:=fun l l' _=>FzLs C G n l l') (motive_3:=fun l l' _=>FzDs C G n l l') fz_p fz_val fz_low (fun h e _ i=>fz_llst I h e i) (fun h e _ i=>fz_ldct I h e i) (fun h d e e2 _ i=>fz_lins I h d e e2 i) (fun _=>fz_lst) (fun _=>fz_dct) (fun _=>fz_ins) (fun _=>fz_clo) fz_nil (fun _ _=>fz_cons) fz_nild (fun _ _=>fz_consd) h u V
theorem FzD.look (I:Inv C G σ) {l l':Mp} {k:Str} {x':AV} (h:FzD σ n l l') (e:l'.lookup k=some x'):∃ x,l.lookup k=some x∧∀ u,VR C G u x→VR C (G.frz n) u x':=
 (FzD.rec (motive_1:=fun v v' _=>FzV C G n v v') (motive_2:=fun l l' _=>FzLs C G n l l') (motive_3:=fun l l' _=>FzDs C G n l l') fz_p fz_val fz_low (fun h e _ i=>fz_llst I h e i) (fun h e _ i=>fz_ldct I h e i) (fun h d e e2 _ i=>fz_lins I h d e e2 i) (fun _=>fz_lst) (fun _=>fz_dct) (fun _=>fz_ins) (fun _=>fz_clo) fz_nil (fun _ _=>fz_cons) fz_nild (fun _ _=>fz_consd) h:FzDs C G n l l').look k x' e
theorem frz_inv (I:Inv C G σ) (hb:∀ o∈σ.take n,belO n o=true):Inv C (G.frz n) (σ.take n) where
 base a o e:=⟨.inl (I.base a o e).1,(I.base a o e).2⟩
 fz a h:=by
  rcases h with h | h
  ·refine Zaa (I.fz a h) fun h1 h2 h3=>?_
   exact (Iaa h1 (fun q=>h2 (List.mem_of_mem_take q)) h3)
  ·have hr:=List.mem_of_mem_drop h
   refine (Iaa (I.thereT hr) (fun q=>?_) (I.rtab a hr))
   have hnd:=I.nd
   rw [← List.take_append_drop n G.r] at hnd
   exact (List.nodup_append.mp hnd).2.2 a q a h rfl
 len:=by refine (?_:(G.r.take n).length=_);rw [List.length_take,List.length_take,I.len]
 trk i a o h1 h2:=TrO.mono (G:=G.cut n) (G':=G.frz n) (fun _ h=>.inl h) (fun _ _ _ e=>e) (fun _ _ h=>h) (fun _ e=>e) ((cut_inv I hb).trk i a o h1 h2)
 nd:=I.nd.sublist (List.take_sublist ..)
 rtab a h:=I.rtab a (List.mem_of_mem_take h)
 ftab:=I.ftab
 tab q hq:=by
  refine Zeaa (I.tab q hq) fun ps e t k=>?_
  exact (Ieaa ps e t (fun pos w hw=>(k pos w hw).mono (fun _ h=>.inl h) fun _ _ _ e=>e))
theorem frz_step (S:Step C X G G') (hn:G.r.length≤n):Step C X G (G'.frz n) where
 keep:=S.keep
 keepF:=S.keepF
 alive:=S.alive
 fz a h:=.inl (S.fz a h)
 new a h:=by
  rcases h with h | h
  ·exact S.new a h
  ·refine Zea S.rr fun r e k=>?_
   rw [e,List.drop_append,List.drop_eq_nil_of_le hn,List.nil_append] at h
   exact .inr (k a (List.mem_of_mem_drop h))
 rr:=by
  refine Zea S.rr fun r e k=>?_
  refine (Iea (r.take (n - G.r.length)) ?_ (fun a h=>k a (List.mem_of_mem_take h)))
  refine (?_:G'.r.take n=_)
  rw [e,List.take_append,List.take_of_length_le hn]
 fs:=S.fs
 gens:=S.gens
 drawn:=S.drawn
 os:=S.os
theorem CallR.freeze {f:Addr} {vs:List AV} (h:CallR C D f vs σ (.ret v σ')) (hn:σ.length≤n) (hb:∀ o∈σ'.take n,belO n o=true) (hz:Fz σ' n v v'):CallR C D f vs σ (.ret v' (σ'.take n)):=fun A G us hA I SK VS Q E hQ=>
 h A G us hA I SK VS Q E fun u G' st I' V=>hQ u (G'.frz n) (frz_step st (by rw [I.len];exact hn)) (frz_inv I' hb) (V.frz I' hz)
theorem CallV.under {vs vs':List AV} {b:Bool} (h:CallV C D fv' vs' [] (.ret (.p (.bool b)) σ3)) (h1:Fz σ 0 fv fv') (h2:FzL σ 0 vs vs'):CallV C D fv vs σ (.ret (.p (.bool b)) σ):=fun A G u us hA I SK V VS Q E hQ=>by
 have I0:Inv C (G.frz 0) []:=by have:=frz_inv (n:=0) I (by simp);simpa using this
 refine h A (G.frz 0) u us hA I0 SK (V.frz I h1) (VS.frz I h2) Q E fun r G3 s3 I3 V3=>?_
 have V3':=V3.bool_shape
 subst V3'
 have hr0:∀ a,¬ (G.frz 0).tr a:=fun a h=>by
  have:a∈G.r.take 0:=h
  simp at this
 have keep:∀ a o,G.h.get? a=some o→¬ C.tabP a→a ∉ G.fs→G3.h.get? a=some o:=fun a o e h1 h2=>s3.keep a o e (hr0 a) h1 h2
 have nF:∀ a,G.F a→a ∉ G.r:=fun a h q=>I.trkF q h
 refine hQ _ ⟨G3.s,fun a=>G3.F a∧a ∉ G.r,G.r,G3.fs⟩ ⟨fun a o e _ h1 h2=>keep a o e h1 h2,fun a o e _ hf=>s3.keepF a o e (hr0 a) hf,s3.alive,fun a h=>⟨s3.fz a (.inl h),nF a h⟩,fun a h=>?_,(Iea ([]) ((List.append_nil _).symm) (fun _ h=>nomatch h)),s3.fs,s3.gens,s3.drawn,s3.os⟩
  ⟨fun a o e=>⟨⟨(I3.base a o e).1,nF a (I.base a o e).1⟩,(I3.base a o e).2⟩,fun a h=>?_,I.len,fun i a o h1 h2=>?_,I.nd,fun a h=>⟨(I.rtab a h).1,by refine (?_:a ∉ G3.fs);rw [s3.fs];exact (I.rtab a h).2⟩,I3.ftab,fun q hq=>?_⟩ (vr_bool b)
 ·rcases s3.new a h.1 with q | q
  ·rcases q with q | q
   ·exact .inl q
   ·exact absurd (List.mem_of_mem_drop q) h.2
  ·exact .inr q
 ·refine Zaa (I3.fz a h.1) fun h1 _ h3=>?_
  exact (Iaa h1 h.2 h3)
 ·have hr:=List.mem_of_getElem? h1
  refine TrO.mono (G:=G) (G':=⟨G3.s,fun a=>G3.F a∧a ∉ G.r,G.r,G3.fs⟩) (fun a h=>⟨s3.fz a (.inl h),nF a h⟩) (fun a o hf e=>keep a o e (I.fz a hf).2.2.1 (I.fz a hf).2.2.2) (fun _ _ h=>h) (fun o e=>keep a o e (I.rtab a hr).1 (I.rtab a hr).2) (I.trk i a o h1 h2)
 ·refine Zeaa (I3.tab q hq) fun ps e t k=>?_
  refine (Ieaa ps e t (fun pos w hw=>?_))
  refine Zeeeeaaaa (k pos w hw) fun c o vs tt e1 e2 e3 e4 e5=>?_
  refine (Ieeeeaaaa c o vs tt e1 ⟨e2,fun hc=>?_⟩ e3 e4 e5)
  refine Ze (List.mem_iff_getElem?.mp hc) fun i hi=>?_
  have hl:=(List.getElem?_eq_some_iff.mp hi).1
  rw [I.len] at hl
  have T:=I.trk i c _ hi (List.getElem?_eq_getElem hl)
  refine Ze T.there fun oo ho=>?_
  have:=keep c oo ho (I.rtab c hc).1 (I.rtab c hc).2
  rw [e3] at this;cases this
  generalize σ[i]=ob at T
  cases ob with
  | lst l=>refine Zeeeaaa T fun o' vs' k' p1 p2 p3 _=>?_;rw [ho] at p1;cases p1;rw [e4] at p3;cases p3
  | dct l=>refine Zeeeaaa T fun o' vs' k' p1 p2 p3 _=>?_;rw [ho] at p1;cases p1;rw [e4] at p3;cases p3
  | att l=>refine Zeea T fun es k' p1 _=>?_;rw [ho] at p1;cases p1;cases e4
  | ins c d=>refine Zeea T fun da sl p1 p2=>?_;rw [ho] at p2;cases p2;cases e4
  | exc c d=>refine Zeeeaa T fun o' vs' k' p1 z125 _=>?_;refine Zaaa z125 fun _ p2 _ p3=>?_;rw [ho] at p1;cases p1;rw [e4] at p2;cases p2;rw [e5] at p3;cases p3
end
end
noncomputable def putA (name:Str) (v:AV):Mp→Mp
 | []=>[(name,v)]
 | (k,x)::r=>if k=name then (k,v)::r else (k,x)::putA name v r
structure ClsMk (C:Cx) (x:Str) (c f:Addr):Prop where
 name:C.mg x=some (.ref c)
 makes:makesIn C.K c=true
 init:findIn C.K (.ref c) "__init__"=some (some (.ref f))
 fn:typeIn C.K (.ref f)=some (.type "function")
 keep:keepIn C.K (.ref c)=true
structure ClsSet (C:Cx) (c:Addr) (name:Str):Prop where
 s:findIn C.K (.ref c) "__setattr__"=some (some (.builtin "object.__setattr__"))
 p:plainOver C.K c=true
 t:takerIn C.K c name=some none
 h:hasDictIn C.K c=true
structure DefOk (C:Cx) (f:Addr) (ps:List Str) (dv:List Value) (ds:List AV) (body:List Stmt) (sc:Scope):Prop where
 fn:∃ fd oc od sl,C.H0.get? f=some ⟨oc,od,.func fd,sl⟩∧C.H0.CodeRec fd.code fd.qualname∧fd.body=.stmts body∧fd.scope=sc∧fd.globals=mainGlobals∧fd.builtins=builtinsNs∧fd.closure=[] ∧
  ∀ (us:List Value) (s:Shared),us.length+dv.length=ps.length→(∀ b o,C.H0.get? b=some o→s.heap.get? b=some o)→BindsTo s fd ⟨us,[]⟩ (ps.zip (us++dv))
 dvr:∀ G σ,Inv C G σ→VRs C G dv ds
 kind:sc.kind=.function
 co:sc.isCoroutine=false
 gen:sc.isGenerator=false
 nd:(sc.names.map (·.1)).Nodup
 nofree:∀ x∈sc.names,x.2≠.free
 loc:∀ p∈ps,sc.names.lookup p=some .local∨sc.names.lookup p=some .cell
noncomputable def CallK (C:Cx) (D:Nat) (f:Addr) (vs:List AV) (σ:Sto) (o:Out):Prop:=∀ A G us,AOk A D→Inv C G σ→StackOk A G→VRs C G us vs→∀ Q E,PostC C G o Q E→codeAny (model C.prog C.w) A (.call (.ref f) ⟨us,[]⟩) (resOf Q E) G.s
section
variable {C:Cx} {D n:Nat} {sc sc0 scope:Scope} {m m' mB mC:Mp} {σ σ' σ'' σ1 σ2 σ3:Sto} {v:AV} {o:Out} {A A2:Around} {G G' G'' R:St} {env:Env} {c e T:Addr} {X Y Z:Addr→Prop}
section
variable {v' fv fv':AV} {P f:Addr} {ex:Expr} {x:Str}
theorem VRd.put {name:Str} {h:Int} {t:Tok} {u:Value} (V:VR C G u v) {es:List DictEntry} {l:Mp} (H:VRd C G es l):VRd C G (putL name h (.str name t) u es) (putA name v l):=by
 refine VRd.ind ?_ ?_ H
 ·exact .cons (by simp [Value.isStrOf]) V .nil
 intro e es k x l a b r ih
 unfold putL putA
 rw [isStr_isStrOf]
 by_cases hk:k=name
 ·subst hk
  rw [a,if_pos rfl,if_pos rfl]
  exact .cons a V r
 ·have hf:Value.isStrOf name e.key=false:=by
   cases q:Value.isStrOf name e.key with
   | false=>rfl
   | true=>exact absurd (Value.isStrOf_inj _ _ _ a q) hk
  rw [hf,if_neg Bool.false_ne_true,if_neg hk]
  exact .cons a b ih
theorem VRd.len {es:List DictEntry} {l:Mp} (H:VRd C G es l):es.length=l.length:=by
 refine VRd.ind ?_ ?_ H
 ·rfl
 intro _ _ _ _ _ _ _ _ ih
 exact congrArg Nat.succ ih
theorem putL_len {name:Str} {h:Int} {key u:Value}:∀ es:List DictEntry,(putL name h key u es).length≤es.length+1
 | []=>Nat.le_refl _
 | e::r=>by
  unfold putL
  split
  ·simp
  ·have:=putL_len (name:=name) (h:=h) (key:=key) (u:=u) r
   simp;omega
theorem putA_keys {name:Str}:∀ l:Mp,(∀ k,k∈(putA name v l).map (·.1)→k=name∨k∈l.map (·.1))
 | [],k,h=>by simp [putA] at h;exact .inl h
 | (y,z)::r,k,h=>by
  unfold putA at h
  split at h
  ·exact .inr h
  ·rcases List.mem_cons.mp h with h | h
   ·exact .inr (List.mem_cons.mpr (.inl h))
   ·exact (putA_keys r k h).imp id fun q=>List.mem_cons_of_mem _ q
theorem putA_nodup {name:Str}:∀ l:Mp,(l.map (·.1)).Nodup→((putA name v l).map (·.1)).Nodup
 | [],_=>by simp [putA]
 | (y,z)::r,h=>by
  simp only [List.map_cons,List.nodup_cons] at h
  unfold putA
  split
  ·simp only [List.map_cons,List.nodup_cons];exact h
  ·rename_i hne
   simp only [List.map_cons,List.nodup_cons]
   refine ⟨fun q=>?_,putA_nodup r h.2⟩
   rcases putA_keys r y q with q | q
   ·exact hne q
   ·exact h.1 q
theorem VRd.hasL {k:Str} {es:List DictEntry} {l:Mp} (h:VRd C G es l):(PySem.W.getL k es).isSome=true:=by
 refine Za (h.find (k:=k)) fun h1 h2=>?_
 unfold PySem.W.getL
 simp only [isStr_isStrOf]
 cases q:es.find? fun e=>Value.isStrOf k e.key with
 | none=>rw [h.noRef];rfl
 | some en=>rfl
theorem setAttr_ok (ok:C.Ok) {name:Str} {i d:Nat} {l:Mp} {u w:Value} (cs:ClsSet C c name) (hi:σ[i]?=some (.ins c d)) (hd:σ[d]?=some (.att l)) (hl:l.length < 1000) (hA:AOk A D) (I:Inv C G σ) (V1:VR C G u (.loc i)) (V2:VR C G w v) {Q:Unit→Shared→Prop} {E}
  (hQ:∀ G',Step C G.tr G G'→Inv C G' (σ.set d (.att (putA name v l)))→Q () G'.s):W C A (setAttr u name w) Q E G.s:=by
 refine V1.loc_elim fun x hr=>?_
 refine Zeea (I.tget hr hi) fun dx sl h1 h2=>?_
 refine Zeeaa (I.tget h1 hd) fun es k h3 h4 h5=>?_
 have X:=ok.X.keeps I.keeps0
 have IA:PySem.W.InstAt G.s.heap x ⟨.ref c,some dx,.plain,sl⟩ c (some (dictOf es k)):=⟨h2,rfl,rfl,h3⟩
 have IA':PySem.W.InstAt ({ G.s with toks:=G.s.toks+1 }:Shared).heap x ⟨.ref c,some dx,.plain,sl⟩ c (some (dictOf es k)):=IA
 refine set_plain X IA cs.s ?_
 refine osa_open (s:={ G.s with toks:=G.s.toks+1 }) X IA' cs.p cs.t fun b=>?_
 refine Zea (any_some cs.h) fun cd hc hd'=>?_
 have elen:=h4.len
 have e:Obj.putName name (PyData.keyHash C.w.params name) (.str name (G.s.toks+1)) w (dictOf es k)=dictOf (putL name (PyData.keyHash C.w.params name) (.str name (G.s.toks+1)) w es) (putN name es k):=putName_dict ..
 have up:(G.s.heap.update dx (Obj.putName name (PyData.keyHash C.w.params name) (.str name (G.s.toks+1)) w)).get? dx=some (dictOf (putL name (PyData.keyHash C.w.params name) (.str name (G.s.toks+1)) w es) (putN name es k)):=by
  rw [Heap.get?_update_self _ h3 (by rw [e];rfl),e]
 have other:∀ b o,b≠dx→G.h.get? b=some o→(G.s.heap.update dx (Obj.putName name (PyData.keyHash C.w.params name) (.str name (G.s.toks+1)) w)).get? b=some o:=fun b o hb eb=>(Heap.get?_update_other _ _ (Ne.symm hb)).trans eb
 have nF:¬ G.F dx:=I.trkF (List.mem_of_getElem? h1)
 have hlk:(PySem.W.getL name es).isSome=true:=h4.hasL
 refine wpAny_bind (wpAny_pure (wpAny_bind (wpAny_bind (wpAny_loadPart h2 (wpAny_bind (looks_clsIn X hc _ _ _ _ (fun _ _ e=>e) ?_))))))
 rw [hd']
 refine wpAny_pure (a:=some dx) (wpAny_bind (wpAny_pure (wpAny_bind ?_)))
 unfold nsSet
 refine wpAny_bind (wpAny_bind (wpAny_askSetting (wpAny_pure (wpAny_bind (wpAny_mkText (wpAny_bind (wpAny_loadPart h3 ?_)))))))
 have cc:(!es.toArray.any (·.key.isStr name)&&es.toArray.any (·.refKey))=false:=by
  rw [List.any_toArray,List.any_toArray,h4.noRef,Bool.and_false]
 dsimp only [dictOf]
 rw [aRefKeyMayBeTheName_at,cc]
 refine wpAny_updatePart h3 ?_
 refine wpAny_bind (wpAny_lookBehind up (pastItsLine_dict (by rw [List.size_toArray,sizeLine_eq];have:=putL_len (name:=name) (h:=PyData.keyHash C.w.params name) (key:=.str name (G.s.toks+1)) (u:=w) es;omega)) ?_)
 have ht:TrO C (G.at (G.s.heap.update dx (Obj.putName name (PyData.keyHash C.w.params name) (.str name (G.s.toks+1)) w)) (G.s.toks+2)) dx (.att (putA name v l)):=by
  refine (Ieeaa _ _ up (VRd.put (V2.atK nF other) ?_) (putA_nodup l h5))
  exact VRd.mono (G:=G) (G':=G.at (G.s.heap.update dx (Obj.putName name (PyData.keyHash C.w.params name) (.str name (G.s.toks+1)) w)) (G.s.toks+2)) (fun _ h=>h) (fun b o hf e=>other b o (fun q=>nF (q▸hf)) e) (fun _ _ h=>h) h4
 refine Za (upd_ok (o':=.att (putA name v l)) I h1 _ (G.s.toks+2) other ⟨_,up⟩ ht) fun S1 I1=>?_
 exact wpAny_pure (hQ _ S1 I1)
theorem Ex1.setAttr (ok:C.Ok) {ob val:Expr} {name:Str} {ap pos:Pos} {i d:Nat} {l:Mp} (h0:EvE C D sc m σ val v σ1) (h1:EvE C D sc m σ1 ob (.loc i) σ2) (cs:ClsSet C c name) (hi:σ2[i]?=some (.ins c d)) (hd:σ2[d]?=some (.att l)) (hl:l.length < 1000) (hs:∀ env,swapsWith val (some (.Attribute ob name ap)) pos.line env=pure false) :
  Ex1 C D sc m σ (.Assign [.Attribute ob name ap] val pos) (.next m (σ2.set d (.att (putA name v l)))):=fun A G env hA I K O TT Q E hQ=>by
 refine plainObj_wpAny_Assign_Attribute ?_ (hs env)
 refine h0 A G env hA I K _ _ fun u0 G1 s1 I1 V1=>?_
 have K1:=K.step I s1
 refine h1 A G1 env hA I1 K1 _ _ fun u1 G2 s2 I2 V2=>?_
 refine setAttr_ok ok cs hi hd hl hA I2 V2 (V1.step I1 s2 I1.hX) fun G3 s3 I3=>?_
 have S:=(s1.trr I s2).trr I s3
 exact hQ G3 S.toX I3 (K.step I S)
end
section
variable {v' fv fv':AV} {P f:Addr} {ex:Expr} {x:Str}
theorem VRs.app {us ws:List Value} {a b:List AV} (h:VRs C G us a) (k:VRs C G ws b):VRs C G (us++ws) (a++b):=h.append k
theorem DefOk.callK (ok:C.Ok) {ps:List Str} {dv:List Value} {ds:List AV} {body:List Stmt} {vs:List AV} (F:DefOk C f ps dv ds body sc) (hl:vs.length+dv.length=ps.length) (hS:ExS C D sc (ps.zip (vs++ds)).reverse σ body o):CallK C (D+1) f vs σ o:=by
 intro A G us hA I SK VS Q E hP
 refine Zeeeeaaaaaaa F.fn fun fd oc od sl h1 h2 h3 h4 h5 h6 h7 h8=>?_
 refine fn_code (mC:=[]) ok ⟨(Iea _ (I.keeps0 _ _ h1) rfl),codeRec_keeps I.keeps0 h2,h3,h4,h5,h6,F.kind,F.co,F.gen,F.nd⟩ hA I SK (fun Q' E' hQ'=>h8 us G.s (by rw [VS.length,hl]) I.keeps0 _ _ _ _ hQ') (binds_zip (VS.app (F.dvr G σ I))) (fun p hp=>F.loc p.1 ?_) ⟨fun y hy=>absurd (mem_of_lookup hy) fun q=>F.nofree _ q rfl,fun y c hy=>by rw [h7] at hy;cases hy⟩ (fun _ _ h=>by cases h) (fun _ _ _ _ _ _ h=>by cases h) (by rw [List.append_nil];exact hS) hP
 exact (List.of_mem_zip (a:=p.1) (b:=p.2) hp).1
theorem tc_weight {us:List Value}:(Code.builtin "type.__call__" ⟨.ref c::us,[]⟩).weight=1:=by kernel_rfl
theorem tc_frames {us:List Value}:(Code.builtin "type.__call__" ⟨.ref c::us,[]⟩).frames=0:=by kernel_rfl
theorem tc_envs {us:List Value}:(Code.builtin "type.__call__" ⟨.ref c::us,[]⟩).envs=[]:=by kernel_rfl
theorem tc_aok {us:List Value} (h:AOk A (D+1)):AOk (A.under (.builtin "type.__call__" ⟨.ref c::us,[]⟩)) D:=by
 refine Zaa h fun h1 h2 h3=>?_
 refine (Iaa h1 ?_ ?_)
 ·refine (?_:A.depth+_+D < _)
  rw [tc_weight];omega
 ·refine (?_:A.units+(1+3 * _)+_+_ < _)
  rw [tc_frames];omega
theorem tc_stk {us:List Value} (h:StackOk A G):StackOk (A.under (.builtin "type.__call__" ⟨.ref c::us,[]⟩)) G:=by
 refine Zea h fun l e k=>?_
 refine (Iea l ?_ k)
 have h:(A.under (.builtin "type.__call__" ⟨.ref c::us,[]⟩)).frames=pushEnvs (Code.builtin "type.__call__" ⟨.ref c::us,[]⟩).envs A.frames:=rfl
 rw [h,tc_envs];exact e
theorem ClsMk.call (ok:C.Ok) {vs:List AV} (M:ClsMk C x c f) (h:CallK C D f (.loc (σ.length+1)::vs) (σ++[.att [],.ins c σ.length]) (.next m σ')):CallV C (D+1) (.val (.ref c)) vs σ (.ret (.loc (σ.length+1)) σ'):=fun A G u us hA I SK V VS Q E hP=>by
 refine V.val_elim ?_
 refine wpAny_call ?_
 refine (?_:codeAny _ _ _ _ ⟨G.s.heap,G.s.gens,G.s.drawn,G.s.toks,G.s.os⟩)
 have X:=ok.X.keeps I.keeps0
 refine make_core (makes_of X M.makes) (looks_findIn X M.init) (fun self=>bind_fn X self M.fn) (.inl rfl) ?_
 have hr:∀ {h':Heap} {tk:Nat},(G.more h' tk [G.sz]).r[σ.length]?=some G.sz:=fun {h' tk}=>by refine (?_:(G.r++[G.sz])[σ.length]?=_);rw [← I.len];simp
 have I1:Inv C (G.more (G.h.push emptyDict) G.s.toks [G.sz]) (σ++[.att []]):=more_inv I (fun b o e=>Heap.get?_push_of_some _ e) sz_none (Ieeaa ([]) 0 (Heap.get?_push_size _ rfl) .nil (by simp))
 have s1:Step C G.tr G (G.more (G.h.push emptyDict) G.s.toks [G.sz]):=more_step (fun b o e=>Heap.get?_push_of_some _ e) fun a ha=>by rw [List.mem_singleton.mp ha];exact sz_none
 have hz:(G.more (G.h.push emptyDict) G.s.toks [G.sz]).sz=G.sz+1:=Heap.size_push ..
 have I2:Inv C ((G.more (G.h.push emptyDict) G.s.toks [G.sz]).more ((G.h.push emptyDict).push (instObj c G.sz)) G.s.toks [G.sz+1]) (σ++[.att []]++[.ins c σ.length]):=by
  refine more_inv I1 (fun b o e=>Heap.get?_push_of_some _ e) (by rw [← hz];exact sz_none) (Ieea G.sz (#[]) ?_ ?_)
  ·refine (?_:((G.r++[G.sz])++[G.sz+1])[σ.length]?=some G.sz)
   rw [← I.len];simp
  ·have:=Heap.get?_push_size (o:=instObj c G.sz) (G.h.push emptyDict) rfl
   rw [Heap.size_push] at this
   exact this
 have s2:Step C (G.more (G.h.push emptyDict) G.s.toks [G.sz]).tr (G.more (G.h.push emptyDict) G.s.toks [G.sz]) ((G.more (G.h.push emptyDict) G.s.toks [G.sz]).more ((G.h.push emptyDict).push (instObj c G.sz)) G.s.toks [G.sz+1]):=
  more_step (fun b o e=>Heap.get?_push_of_some _ e) fun a ha=>by rw [List.mem_singleton.mp ha,← hz];exact sz_none
 have s12:=s1.trr I s2
 have hσ:σ++[AO.att []]++[.ins c σ.length]=σ++[.att [],.ins c σ.length]:=by simp
 rw [hσ] at I2
 have hrx:((G.more (G.h.push emptyDict) G.s.toks [G.sz]).more ((G.h.push emptyDict).push (instObj c G.sz)) G.s.toks [G.sz+1]).r[σ.length+1]?=some (G.sz+1):=by
  refine (?_:((G.r++[G.sz])++[G.sz+1])[σ.length+1]?=some (G.sz+1))
  rw [← I.len];simp
 refine codeAny_mono (h (A.under _) _ (.ref (G.sz+1)::us) (tc_aok hA) I2 ?_ (.cons (.loc hrx) (VS.step I s12 I.hX)) (fun v s'=>v=.none∧resOf Q E (.ok (.ret (.ref (G.sz+1)))) s') (fun e s'=>resOf Q E (.error e) s') ?_) fun r s' z=>?_
 ·exact (tc_stk SK).step s12 I.fsX
 ·intro G3 s3 I3
  refine ⟨rfl,hP _ G3 (s12.trr I s3) I3 (.loc (s3.rget hrx))⟩
 ·rcases r with e | (v | _ | _ | _)<;>first | exact z | exact z.elim
theorem EvE.cls (ok:C.Ok) {pos} (M:ClsMk C x c f) (hk:sc.names.lookup x=some .globalImplicit) (hd:(x == ("__debug__":Str))=false):EvE C D sc m σ (.Name x pos) (.val (.ref c)) σ:=
 EvE.glob (gl:=fun y=>if y=x then some (.val (.ref c)) else none) ok (fun y v h=>by
  by_cases hy:y=x
  ·subst hy;simp at h;subst h;exact (Iea _ M.name (fun _ _ _=>.val _))
  ·simp [hy] at h) (by simp) hk hd
theorem FunOk.callI (ok:C.Ok) {ps:List Str} {body:List Stmt} {vs:List AV} {p:Addr × Addr} {q:Str} (F:FunOk C x f ps body sc) (hl:vs.length=ps.length) (hne:sc.names.lookup ("<env>":Str)=none)
  (hcd:∀ fd oc od sl,C.H0.get? f=some ⟨oc,od,.func fd,sl⟩→fd.code=.ref p.1∧fd.qualname++".<locals>."=q)
  (hS:ExS C D sc ((ps.zip vs).reverse++[(("<env>":Str),AV.ins p.1 [(q,.val .none)])]) σ body o):CallR C (D+1) f vs σ o:=by
 intro A G us hA I SK VS Q E hP
 refine Zeeeeaaaaaaa F.fn fun fd oc od sl h1 h2 h3 h4 h5 h6 h7 h8=>?_
 refine Za (hcd fd oc od sl h1) fun c1 c2=>?_
 refine fn_ok (mC:=[(("<env>":Str),AV.ins p.1 [(q,.val .none)])]) ok ⟨(Iea _ (I.keeps0 _ _ h1) rfl),codeRec_keeps I.keeps0 h2,h3,h4,h5,h6,F.kind,F.co,F.gen,F.nd⟩ hA I SK (fun Q' E' hQ'=>by rw [h8 us (by rw [VS.length,hl])];exact wpAny_pure hQ') (binds_zip VS) (fun p hp=>F.loc p.1 ?_) ⟨fun y hy=>absurd (mem_of_lookup hy) fun q=>F.nofree _ q rfl,fun y c hy=>by rw [h7] at hy;cases hy⟩ (fun y w h=>?_) (fun env e1 e2 hn cc qq h=>?_) hS hP
 ·exact (List.of_mem_zip (a:=p.1) (b:=p.2) hp).1
 ·rw [List.lookup_cons] at h
  split at h
  ·rename_i hb
   have:y=("<env>":Str):=by simpa using hb
   subst this
   exact .inr hne
  ·cases h
 ·cases h
  exact ⟨e1.trans c1,e2.trans c2⟩
end
end
structure ExcLine (bm:List Value):Prop where
 base:bm.contains (.type "BaseException")=true
 b:bm.contains (.type "Exception")=true
 a:bm.contains (.type "AttributeError")=false
 n:bm.contains (.type "NameError")=false
structure ExcCls (C:Cx) (x:Str) (c f:Addr):Prop where
 name:C.mg x=some (.ref c)
 obj:∃ nm q N bs bm hdct sn sub ab col dd k0 k1 k2 k3 k5,C.H0.get? c=some (excClassObj nm q c N bs bm hdct sn sub ab col dd k0 k1 k2 k3 k5 "Exception.__new__")∧ExcLine bm
 init:findIn C.K (.ref c) "__init__"=some (some (.ref f))
 fn:typeIn C.K (.ref f)=some (.type "function")
 keep:keepIn C.K (.ref c)=true
 base:mroIn C.K c (.type "BaseException")=some true
 typ:typeIn C.K (.ref c)=some (.type "type")
section
variable {C:Cx} {D n:Nat} {sc sc0 scope:Scope} {m m' mB mC:Mp} {σ σ' σ'' σ1 σ2 σ3:Sto} {v:AV} {o:Out} {A A2:Around} {G G' G'' R:St} {env:Env} {c e T:Addr} {X Y Z:Addr→Prop}
section
variable {M:Model} {E:Value→Shared→Prop} {h:Heap} {g:Array GenState} {d:Drawn} {t:Nat} {os:OsState} {prog:Program} {w:World} {R:Result→Shared→Prop} {K:Frag}
variable {nm q:Str} {N fI:Addr} {bs bm:List Value} {hdct:Bool} {sn:List Str} {sub:List Value} {ab:Bool} {col:Option Bool} {dd:Option Addr} {k0 k1 k2 k3 k5:Option Value}
theorem exc_check_new (L:ExcLine bm) {rest:List Value} {Q:Unit→Shared→Prop} (hC:h.get? c=some (excClassObj nm q c N bs bm hdct sn sub ab col dd k0 k1 k2 k3 k5 "Exception.__new__"))
  (hq:Q () ⟨h,g,d,t,os⟩):wpAny M A (checkBuiltinCall "Exception.__new__" ⟨.ref c::rest,[]⟩) Q E ⟨h,g,d,t,os⟩:=by
 have Fn:=PySem.F.excBase_Exception
 have hcont:(Value.ref c::bm).contains (.type "Exception")=true:=by rw [List.contains_cons,L.b,Bool.or_true]
 have hstar:=Fn.noStar
 simp only [checkBuiltinCall,Fn.newKind,Fn.newSplit,Fn.newRow]
 repeat (first | refine wpAny_loadPart_at hC ?_ | (refine wpAny_isSubtype_exc hC ?_;rw [hcont]) | refine wpAny_staticBase_exc hC ?_ | refine wpAny_madeBy_exc hC ?_ | simp only [bne_self_eq_false,Bool.false_eq_true,if_false] | wp_step)
 exact hq
theorem exc_newO (L:ExcLine bm) {rest:List Value} (hC:h.get? c=some (excClassObj nm q c N bs bm hdct sn sub ab col dd k0 k1 k2 k3 k5 "Exception.__new__"))
  (hq:R (.ok (.ret (.ref (h.objs.size+1)))) ⟨(h.push { cls:=.type "tuple",data:=.seq rest.toArray }).push
   { cls:=.ref c,data:=.fields #[.ref h.objs.size,.none,.none,.none,.bool false,.none] },g,d,t,os⟩) (hrest:rest.length≤sizeLine) :
  codeAny (model prog w) A (.builtin "Exception.__new__" ⟨.ref c::rest,[]⟩) R ⟨h,g,d,t,os⟩:=by
 have Fn:=PySem.F.excBase_Exception
 have hends:=Fn.ends
 have hcB:(Value.ref c::bm).contains (.type "Exception")=true:=by rw [List.contains_cons,L.b,Bool.or_true]
 have hcA:(Value.ref c::bm).contains (.type "AttributeError")=false:=by rw [List.contains_cons,L.a];rfl
 have hcN:(Value.ref c::bm).contains (.type "NameError")=false:=by rw [List.contains_cons,L.n];rfl
 refine codeAny_builtinAt Fn.entry ?_
 unfold Builtin.«BaseException.__new__»
 refine _root_.PySem.wpAt_bind ?_
 refine (?_:_root_.PySem.wpAt _ _ _ (stack >>= _) _ _ _)
 refine _root_.PySem.wpAt_bind (_root_.PySem.wpAt_stack fun p below=>_root_.PySem.wpAt_of_wpAny ?_)
 wp_walk
 refine _root_.PySem.wpAt_of_wpAny ?_
 rw [Fn.owner]
 repeat (first | with_reducible refine wpAny_madeHere_exc Fn.canon hC ?_ | with_reducible refine wpAny_loadPart_at hC ?_ | (with_reducible refine wpAny_isSubtype_exc hC ?_;first | rw [hcB] | rw [hcA] | rw [hcN]) | wp_step)
 refine (?_:R _ _)
 rw [Heap.size_push]
 exact hq
theorem exc_type_call (L:ExcLine bm) {rest:List Value} {Q:Fin→Shared→Prop}
  (hC:h.get? c=some (excClassObj nm q c N bs bm hdct sn sub ab col dd k0 k1 k2 k3 k5 "Exception.__new__")) (X:K.In h) (hi:findIn K (.ref c) "__init__"=some (some (.ref fI))) (hf:typeIn K (.ref fI)=some (.type "function"))
  (hq:wpAny (model prog w) A (call (.ref fI) (.ref (h.objs.size+1)::rest)) (fun r s'=>r=.none∧Q (.done (.ret (.ref (h.objs.size+1)))) s') E ⟨(h.push { cls:=.type "tuple",data:=.seq rest.toArray }).push
   { cls:=.ref c,data:=.fields #[.ref h.objs.size,.none,.none,.none,.bool false,.none] },g,d,t,os⟩) (hrest:rest.length≤sizeLine) :
  wpAny (model prog w) A (Builtin.«type.__call__» ⟨.ref c::rest,[]⟩) Q E ⟨h,g,d,t,os⟩:=by
 have Fn:=PySem.F.excBase_Exception
 repeat (first | with_reducible refine wpAny_loadPart_at hC ?_ | with_reducible refine wpAny_madeBy_exc hC ?_ | wp_step)
 refine codeAny_call_builtin_code (Code.quiet_builtin _ Fn.quiet) (exc_check_new L hC ?_)
 refine exc_newO L hC ?_ hrest
 refine (?_:wpAny _ _ _ _ _ _)
 have hC₁:=Heap.get?_push_of_some { cls:=.ref c,data:=.fields #[.ref h.objs.size,.none,.none,.none,.bool false,.none] }
  (Heap.get?_push_of_some { cls:=.type "tuple",data:=.seq rest.toArray } hC)
 have X₁:K.In ((h.push { cls:=.type "tuple",data:=.seq rest.toArray }).push { cls:=.ref c,data:=.fields #[.ref h.objs.size,.none,.none,.none,.bool false,.none] }):=X.keeps fun b o e=>Heap.get?_push_of_some _ (Heap.get?_push_of_some _ e)
 have hget:((h.push { cls:=.type "tuple",data:=.seq rest.toArray }).push
   { cls:=.ref c,data:=.fields #[.ref h.objs.size,.none,.none,.none,.bool false,.none] }).get? (h.objs.size+1)=some
   { cls:=.ref c,data:=.fields #[.ref h.objs.size,.none,.none,.none,.bool false,.none] }:=by heap_get
 have hcC:(Value.ref c::bm).contains (.ref c)=true:=by simp
 unfold isInstance
 repeat (first | with_reducible refine wpAny_loadPart_at hget ?_ | (with_reducible refine wpAny_isSubtype_exc hC₁ ?_;rw [hcC]) | wp_step)
 refine (?_:wpAny _ _ (typeLookup (.ref c) _) _ _ _)
 refine (looks_findIn X₁ hi) _ _ _ _ (fun _ _ e=>e) ?_
 refine wpAny_holding (wpAny_bind ?_)
 refine (bind_fn X₁ _ hf) _ _ _ _ (fun _ _ e=>e) ?_
 refine wpAny_bind (wpAny_mono hq (fun r s' hr=>?_) fun _ _ x=>x)
 apply RLa0 hr
 intro hQ
 wp_walk
 exact hQ
theorem exc_call (L:ExcLine bm) {rest:List Value} {Q:Value→Shared→Prop}
  (hC:h.get? c=some (excClassObj nm q c N bs bm hdct sn sub ab col dd k0 k1 k2 k3 k5 "Exception.__new__")) (X:K.In h) (hi:findIn K (.ref c) "__init__"=some (some (.ref fI))) (hf:typeIn K (.ref fI)=some (.type "function"))
  (hq:wpAny (model prog w) (A.under (.builtin "type.__call__" ⟨.ref c::rest,[]⟩)) (call (.ref fI) (.ref (h.objs.size+1)::rest)) (fun r s'=>r=.none∧Q (.ref (h.objs.size+1)) s') E ⟨(h.push { cls:=.type "tuple",data:=.seq rest.toArray }).push
   { cls:=.ref c,data:=.fields #[.ref h.objs.size,.none,.none,.none,.bool false,.none] },g,d,t,os⟩) (hrest:rest.length≤sizeLine) :
  wpAny (model prog w) A (call (.ref c) rest) Q E ⟨h,g,d,t,os⟩:=by
 have f1:=tc_lookup
 have f2:=PySem.tc_bind (.ref c)
 have hT:(⟨h,g,d,t,os⟩:Shared).TypeIs (.ref c) "type":=(Iea _ hC rfl)
 refine wpAny_call (codeAny_of_tree ?_)
 refine (?_:wpAny _ _ (callAny (.ref c) _) _ _ _)
 repeat (any_goals (first | assumption | with_reducible refine wpAny_loadPart_at hC ?_ | wp_step))
 refine ⟨rfl,?_⟩
 exact codeAny_call_builtin_at (Code.quiet_builtin _ (by decide +kernel)) entry_typeCall (wpAny_check_type_call_sub hC (exc_type_call L hC X hi hf hq hrest))
end

section
variable {M:Model} {E:Value→Shared→Prop} {h:Heap} {g:Array GenState} {d:Drawn} {t:Nat} {os:OsState} {prog:Program} {w:World} {R:Result→Shared→Prop} {K:Frag}
variable {nm q:Str} {N fI:Addr} {bs bm:List Value} {hdct:Bool} {sn:List Str} {sub:List Value} {ab:Bool} {col:Option Bool} {dd:Option Addr} {k0 k1 k2 k3 k5:Option Value}
theorem exc_check_init (L:ExcLine bm) {oe:Obj} {rest:List Value} {Q:Unit→Shared→Prop}
  (hC:h.get? c=some (excClassObj nm q c N bs bm hdct sn sub ab col dd k0 k1 k2 k3 k5 "Exception.__new__")) (he:h.get? e=some oe) (hcls:oe.cls=.ref c) (hq:Q () ⟨h,g,d,t,os⟩) :
  wpAny M A (checkBuiltinCall "Exception.__init__" ⟨.ref e::rest,[]⟩) Q E ⟨h,g,d,t,os⟩:=by
 have F:=PySem.F.excBase_Exception
 have hcB:(Value.ref c::bm).contains (.type "Exception")=true:=by rw [List.contains_cons,L.b,Bool.or_true]
 have hshort:=F.noStar
 simp only [checkBuiltinCall,F.initKind,F.initSplit,F.initRow]
 repeat (first | (with_reducible refine wpAny_loadPart_at he ?_;rw [hcls]) | with_reducible refine wpAny_loadPart_at hC ?_ | (with_reducible refine wpAny_isSubtype_exc hC ?_;rw [hcB]) | wp_step)
 refine wpAny_onRaise ?_
 rw [show ∀ (a b:String) (n:Nat),Bind.check ⟨.positional,"*","Exception",.self,[⟨"args",.varPos,false⟩]⟩ a b n (List.map (fun x=>x.fst) ({ pos:=Value.ref e::rest }:Args).kw)=pure () from
  fun a b n=>check_star_args _ _ _ _ _ _]
 exact wpAny_pure hq
theorem exc_init (L:ExcLine bm) {oe:Obj} {vs:Array Value} {v a0:Value} {Q:Value→Shared→Prop}
  (hC:h.get? c=some (excClassObj nm q c N bs bm hdct sn sub ab col dd k0 k1 k2 k3 k5 "Exception.__new__")) (he:h.get? e=some oe) (hcls:oe.cls=.ref c) (hd:oe.data=.fields vs) (h0:vs[0]?=some a0)
  (hq:Q .none ⟨(h.push { cls:=.type "tuple",data:=.seq #[v] }).update e (Obj.mapFields (·.setIfInBounds 0 (.ref h.objs.size))),g,d,t,os⟩) :
  wpAny (model prog w) A (call (.builtin "Exception.__init__") [.ref e,v]) Q E ⟨h,g,d,t,os⟩:=by
 have F:=PySem.F.excBase_Exception
 refine wpAny_call (codeAny_call_builtin F.init.plain F.initEntry (exc_check_init L hC he hcls ?_))
 have he':(h.push { cls:=.type "tuple",data:=.seq #[v] }).get? e=some oe:=Heap.get?_push_of_some _ he
 wp_walk
 rw [hd]
 refine wpAny_pure ?_
 rw [h0]
 refine wpAny_pure ?_
 have hsz:0 < vs.size:=(Array.getElem?_eq_some_iff.mp h0).1
 refine wpAny_bind (wpAny_setField he' hd hsz ?_)
 have fin:wpAny (model prog w) A.in1 (ret Value.none) (fun fin s'=>match fin with
   | Fin.done f=>(match (Except.ok f:Result) with | Except.ok (Flow.ret v)=>Q v s' | Except.ok a=>False | Except.error e=>E e s')
   | Fin.again c'=>c'.quiet=true∧codeAny (model prog w) A c' (fun r s'=>match r with | Except.ok (Flow.ret v)=>Q v s' | Except.ok a=>False | Except.error e=>E e s') s') (fun e s'=>E e s')
   ⟨(h.push { cls:=.type "tuple",data:=.seq #[v] }).update e (Obj.mapFields (·.setIfInBounds 0 (.ref h.objs.size))),g,d,t,os⟩:=wpAny_pure hq
 cases a0<;>first | exact wpAny_pure fin | exact wpAny_letGo fin
end
end
structure ExcSet (C:Cx) (c:Addr) (name:Str):Prop where
 s:findIn C.K (.ref c) "__setattr__"=some (some (.builtin "object.__setattr__"))
 m:∃ cd b,clsIn C.K c=some cd∧cd.mro=[.ref c,.ref b,.type "Exception",.type "BaseException",.type "object"]∧cd.hasDict=true
 o:mroIn C.K c (.type "object")=some true
 t:takerIn C.K c name=some none
section
open Builtin Builtin.ObjectAttr Builtin.Getset_descriptor
variable {C:Cx} {D n:Nat} {sc sc0 scope:Scope} {m m' mB mC:Mp} {σ σ' σ'' σ1 σ2 σ3:Sto} {v:AV} {o:Out} {A A2:Around} {G G' G'' R:St} {env:Env} {c e T:Addr} {X Y Z:Addr→Prop}
section
variable {v' fv fv':AV} {P f:Addr} {ex:Expr} {x:Str}
theorem osaE_open {prog:Program} {w:World} {s:Shared} {K:Frag} {x b:Addr} {RR:Result→Shared→Prop} {cd:ClassData} {ox:Obj} {od:Option Obj} {name:Str} {tk:Tok} {v:Value} (X:K.In s.heap) (I:PySem.W.InstAt s.heap x ox c od) (hc:clsIn K c=some cd) (hm:cd.mro=[.ref c,.ref b,.type "Exception",.type "BaseException",.type "object"]) (hob:mroIn K c (.type "object")=some true) (ht:takerIn K c name=some none)
  (h:∀ b,wpAny (model prog w) A.in1 (Builtin.ObjectAttr.storeInOwnDict (.ref x) (.ref c) (.str name tk) name v b)
   (fun fin s'=>match fin with | .done f=>RR (.ok f) s' | .again c'=>c'.quiet=true∧codeAny (model prog w) A c' RR s') (fun e s'=>RR (.error e) s') s) :
  codeAny (model prog w) A (.call (.builtin "object.__setattr__") ⟨[.ref x,.str name tk,v],[]⟩) RR s:=by
 have SF:=PySem.F.store_object
 have sub:Looks (model prog w) s.heap (isInstance (.ref x) (.type "object")) true:=I.type.andThen (looks_mroIn X hob)
 refine codeAny_call_builtin SF.slot.plain SF.entry (@check_slot (model prog w) _ _ s "object.__setattr__" "object" "__setattr__" (.ref x) [.str name tk,v] [] _ SF.kind SF.split sub (SF.args (.ref x) (.str name tk) v) ?_)
 refine Zea (Option.bind_eq_some_iff.mp ht) fun attr ha hr=>?_
 have hmro:Looks (model prog w) s.heap (mroOf (.ref c)) cd.mro:=(looks_clsIn X hc).andThen .now
 have L3:Looks (model prog w) s.heap (storeTaker? attr) none:=by
  cases attr with
  | none=>exact .now
  | some a=>
   refine Zea (Option.map_eq_some_iff.mp hr) fun b hb hq=>?_
   cases b with
   | true=>cases hq
   | false=>exact (looks_takesIn X hb).andThen .now
 rw [osa_eq,refuse_eq]
 refine wpAny_bind (wpAny_bind (I.type.here (wpAny_bind (hmro.here ?_))))
 rw [hm,refuseLoop_ref,refuseLoop_ref,PySem.F.store_Exception.passes]
 refine wpAny_pure (wpAny_bind (I.type.here (wpAny_bind ((looks_findIn X ha).here (wpAny_bind (L3.here ?_))))))
 exact h _
theorem nsSet_ok {A2:Around} {name:Str} {d:Nat} {da:Addr} {l:Mp} {w:Value} (hr:G.r[d]?=some da) (hd:σ[d]?=some (.att l)) (hl:l.length < 1000) (I:Inv C G σ) (V2:VR C G w v) {Q:PySem.Fin→Shared→Prop} {E} {tk:Tok}
  (hQ:∀ G',Step C G.tr G G'→Inv C G' (σ.set d (.att (putA name v l)))→Q (.done (.ret .none)) G'.s):W C A2 (Builtin.ObjectAttr.storeInDict da (.str name tk) name w) Q E G.s:=by
 refine Zeeaa (I.tget hr hd) fun es k h3 h4 h5=>?_
 have elen:=h4.len
 have e:Obj.putName name (PyData.keyHash C.w.params name) (.str name (G.s.toks)) w (dictOf es k)=dictOf (putL name (PyData.keyHash C.w.params name) (.str name (G.s.toks)) w es) (putN name es k):=putName_dict ..
 have up:(G.s.heap.update da (Obj.putName name (PyData.keyHash C.w.params name) (.str name (G.s.toks)) w)).get? da=some (dictOf (putL name (PyData.keyHash C.w.params name) (.str name (G.s.toks)) w es) (putN name es k)):=by
  rw [Heap.get?_update_self _ h3 (by rw [e];rfl),e]
 have other:∀ b o,b≠da→G.h.get? b=some o→(G.s.heap.update da (Obj.putName name (PyData.keyHash C.w.params name) (.str name (G.s.toks)) w)).get? b=some o:=fun b o hb eb=>(Heap.get?_update_other _ _ (Ne.symm hb)).trans eb
 have nF:¬ G.F da:=I.trkF (List.mem_of_getElem? hr)
 have ht:TrO C (G.at (G.s.heap.update da (Obj.putName name (PyData.keyHash C.w.params name) (.str name (G.s.toks)) w)) (G.s.toks+1)) da (.att (putA name v l)):=by
  refine (Ieeaa _ _ up (VRd.put (V2.atK nF other) ?_) (putA_nodup l h5))
  exact VRd.mono (G:=G) (G':=G.at (G.s.heap.update da (Obj.putName name (PyData.keyHash C.w.params name) (.str name (G.s.toks)) w)) (G.s.toks+1)) (fun _ h=>h) (fun b o hf e=>other b o (fun q=>nF (q▸hf)) e) (fun _ _ h=>h) h4
 refine Za (upd_ok (o':=.att (putA name v l)) I hr _ (G.s.toks+1) other ⟨_,up⟩ ht) fun S1 I1=>?_
 unfold Builtin.ObjectAttr.storeInDict Builtin.ObjectAttr.newKeyGuard
 refine wpAny_bind (wpAny_pure (wpAny_bind ?_))
 unfold nsSet
 refine wpAny_bind (wpAny_bind (wpAny_askSetting (wpAny_pure (wpAny_bind (wpAny_mkText (wpAny_bind (wpAny_loadPart h3 ?_)))))))
 have cc:(!es.toArray.any (·.key.isStr name)&&es.toArray.any (·.refKey))=false:=by
  rw [List.any_toArray,List.any_toArray,h4.noRef,Bool.and_false]
 dsimp only [dictOf]
 rw [aRefKeyMayBeTheName_at,cc]
 refine wpAny_updatePart h3 ?_
 refine wpAny_bind (wpAny_lookBehind up (pastItsLine_dict (by rw [List.size_toArray,sizeLine_eq];have:=putL_len (name:=name) (h:=PyData.keyHash C.w.params name) (key:=.str name (G.s.toks)) (u:=w) es;omega)) ?_)
 exact wpAny_pure (hQ _ S1 I1)
theorem setExc0_ok (ok:C.Ok) {name:Str} {i:Nat} {u w:Value} (cs:ExcSet C c name) (hi:σ[i]?=some (.exc c none)) (hA:AOk A D) (I:Inv C G σ) (V1:VR C G u (.loc i)) (V2:VR C G w v) {Q:Unit→Shared→Prop} {E}
  (hQ:∀ G',Step C G.tr G G'→Inv C G' (((σ++[AO.att []]).set i (.exc c (some σ.length))).set σ.length (.att (putA name v [])))→Q () G'.s):W C A (setAttr u name w) Q E G.s:=by
 refine V1.loc_elim fun x hr=>?_
 refine Zeeeaa (I.tget hr hi) fun ox vs a0 h1 z131 h6=>?_
 refine Zaaa z131 fun h2 h3 h4 h5=>?_
 have h6:ox.dict=none:=h6
 have X:=ok.X.keeps I.keeps0
 have IA:PySem.W.InstAt G.s.heap x ox c none:=⟨h1,h2,by unfold notCls;rw [h3],by rw [h6];trivial⟩
 have IA':PySem.W.InstAt ({ G.s with toks:=G.s.toks+1 }:Shared).heap x ox c none:=IA
 refine Zeeaa cs.m fun cd b hc hm hd'=>?_
 refine set_plain X IA cs.s ?_
 refine osaE_open (s:={ G.s with toks:=G.s.toks+1 }) X IA' hc hm cs.o cs.t fun b=>?_
 have kp:∀ b ob,G.h.get? b=some ob→(G.h.push emptyDict).get? b=some ob:=fun b ob e=>Heap.get?_push_of_some _ e
 have hz:G.r.length=σ.length:=I.len
 have I1:Inv C (G.more (G.h.push emptyDict) (G.s.toks+1) [G.sz]) (σ++[.att []]):=more_inv I kp sz_none (Ieeaa ([]) 0 (Heap.get?_push_size _ rfl) .nil (by simp))
 have s1:Step C G.tr G (G.more (G.h.push emptyDict) (G.s.toks+1) [G.sz]):=more_step kp fun a ha=>by rw [List.mem_singleton.mp ha];exact sz_none
 have hx1:(G.h.push emptyDict).get? x=some ox:=kp _ _ h1
 have fr:({ ox with dict:=some G.sz }:Obj).isFreed=false:=by unfold Obj.isFreed;rw [h3]
 have up:((G.h.push emptyDict).update x fun o=>{ cls:=o.cls,dict:=some G.sz,data:=o.data,slots:=o.slots }).get? x=some { ox with dict:=some G.sz }:=Heap.get?_update_self _ hx1 fr
 have other:∀ b ob,b≠x→(G.more (G.h.push emptyDict) (G.s.toks+1) [G.sz]).h.get? b=some ob→((G.h.push emptyDict).update x fun o=>{ cls:=o.cls,dict:=some G.sz,data:=o.data,slots:=o.slots }).get? b=some ob:=fun b ob hb eb=>(Heap.get?_update_other _ _ (Ne.symm hb)).trans eb
 have hr1:(G.more (G.h.push emptyDict) (G.s.toks+1) [G.sz]).r[i]?=some x:=s1.rget hr
 have hrd:(G.more (G.h.push emptyDict) (G.s.toks+1) [G.sz]).r[σ.length]?=some G.sz:=by
  refine (?_:(G.r++[G.sz])[σ.length]?=_)
  rw [← I.len];simp
 have hlt:i < σ.length:=by rw [← I.len];exact (List.getElem?_eq_some_iff.mp hr).1
 refine Za (upd_ok (o':=.exc c (some σ.length)) I1 hr1 ((G.h.push emptyDict).update x fun o=>{ cls:=o.cls,dict:=some G.sz,data:=o.data,slots:=o.slots }) (G.s.toks+1) other ⟨_,up⟩
  ⟨_,vs,a0,up,Iaaa h2 h3 h4 h5,G.sz,hrd,rfl⟩) fun s2 I2=>?_
 have V2':=(V2.step I s1 I.hX).step I1 s2 I1.hX
 have hd:((σ++[AO.att []]).set i (.exc c (some σ.length)))[σ.length]?=some (.att []):=by
  rw [List.getElem?_set_ne (Nat.ne_of_lt hlt)];simp
 have hrd2:=s2.rget hrd
 unfold Builtin.ObjectAttr.storeInOwnDict
 refine wpAny_bind (wpAny_pure (wpAny_bind (wpAny_bind (wpAny_loadPart h1 ?_))))
 rw [h2]
 refine wpAny_bind (looks_clsIn X hc _ _ _ _ (fun _ _ e=>e) ?_)
 rw [hd',h6]
 have hth:typeHasDict (.ref c)=true:=rfl
 simp only [h3,hth,Bool.not_true,Bool.or_false,Bool.false_eq_true,if_false,Bool.false_or]
 refine wpAny_bind (wpAny_alloc' ?_)
 refine wpAny_bind (wpAny_update' (o:=ox) hx1 ?_)
 refine wpAny_pure ?_
 exact nsSet_ok (G:=(G.more (G.h.push emptyDict) (G.s.toks+1) [G.sz]).at ((G.h.push emptyDict).update x fun o=>{ cls:=o.cls,dict:=some G.sz,data:=o.data,slots:=o.slots }) (G.s.toks+1)) hrd2 hd (by simp) I2 V2' fun G3 s3 I3=>hQ G3 ((s1.trr I s2).trr I s3) I3
theorem setExc_ok (ok:C.Ok) {name:Str} {i d:Nat} {l:Mp} {u w:Value} (cs:ExcSet C c name) (hi:σ[i]?=some (.exc c (some d))) (hd:σ[d]?=some (.att l)) (hl:l.length < 1000) (hA:AOk A D) (I:Inv C G σ) (V1:VR C G u (.loc i)) (V2:VR C G w v) {Q:Unit→Shared→Prop} {E}
  (hQ:∀ G',Step C G.tr G G'→Inv C G' (σ.set d (.att (putA name v l)))→Q () G'.s):W C A (setAttr u name w) Q E G.s:=by
 refine V1.loc_elim fun x hr=>?_
 refine Zeeeaaea (I.tget hr hi) fun ox vs a0 h1 z130 da h6 h7=>?_
 refine Zaaa z130 fun h2 h3 h4 h5=>?_
 refine Zeeaa (I.tget h6 hd) fun es k g1 _ _=>?_
 have X:=ok.X.keeps I.keeps0
 have IA:PySem.W.InstAt G.s.heap x ox c (some (dictOf es k)):=⟨h1,h2,by unfold notCls;rw [h3],by rw [h7];exact g1⟩
 have IA':PySem.W.InstAt ({ G.s with toks:=G.s.toks+1 }:Shared).heap x ox c (some (dictOf es k)):=IA
 refine Zeeaa cs.m fun cd b hc hm hd'=>?_
 refine set_plain X IA cs.s ?_
 refine osaE_open (s:={ G.s with toks:=G.s.toks+1 }) X IA' hc hm cs.o cs.t fun b=>?_
 unfold Builtin.ObjectAttr.storeInOwnDict
 refine wpAny_bind (wpAny_pure (wpAny_bind (wpAny_bind (wpAny_loadPart h1 ?_))))
 rw [h2]
 refine wpAny_bind (looks_clsIn X hc _ _ _ _ (fun _ _ e=>e) ?_)
 rw [hd',h7]
 refine wpAny_pure ?_
 have st:=toks_step (C:=C) (G:=G) (G.s.toks+1)
 exact nsSet_ok (G:=G.grow G.h (G.s.toks+1) fun _=>False) h6 hd hl (toks_inv I _) (V2.step I st I.hX) fun G3 s3 I3=>hQ G3 (st.trr I s3) I3
end
end
section
variable {C:Cx} {D n:Nat} {sc sc0 scope:Scope} {m m' mB mC:Mp} {σ σ' σ'' σ1 σ2 σ3:Sto} {v:AV} {o:Out} {A A2:Around} {G G' G'' R:St} {env:Env} {c e T:Addr} {X Y Z:Addr→Prop}

section
variable {v' fv fv':AV} {P f:Addr} {ex:Expr} {x:Str} {st:ExcSt}
theorem Ex1.setExc0 (ok:C.Ok) {ob val:Expr} {name:Str} {ap pos:Pos} {i:Nat} (h0:EvE C D sc m σ val v σ1) (h1:EvE C D sc m σ1 ob (.loc i) σ2) (cs:ExcSet C c name) (hi:σ2[i]?=some (.exc c none)) (hs:∀ env,swapsWith val (some (.Attribute ob name ap)) pos.line env=pure false) :
  Ex1 C D sc m σ (.Assign [.Attribute ob name ap] val pos) (.next m (((σ2++[AO.att []]).set i (.exc c (some σ2.length))).set σ2.length (.att (putA name v [])))):=fun A G env hA I K O TT Q E hQ=>by
 refine plainObj_wpAny_Assign_Attribute ?_ (hs env)
 refine h0 A G env hA I K _ _ fun u0 G1 s1 I1 V1=>?_
 have K1:=K.step I s1
 refine h1 A G1 env hA I1 K1 _ _ fun u1 G2 s2 I2 V2=>?_
 refine setExc0_ok ok cs hi hA I2 V2 (V1.step I1 s2 I1.hX) fun G3 s3 I3=>?_
 have S:=(s1.trr I s2).trr I s3
 exact hQ G3 S.toX I3 (K.step I S)
theorem Ex1.setExc (ok:C.Ok) {ob val:Expr} {name:Str} {ap pos:Pos} {i d:Nat} {l:Mp} (h0:EvE C D sc m σ val v σ1) (h1:EvE C D sc m σ1 ob (.loc i) σ2) (cs:ExcSet C c name) (hi:σ2[i]?=some (.exc c (some d))) (hd:σ2[d]?=some (.att l)) (hl:l.length < 1000) (hs:∀ env,swapsWith val (some (.Attribute ob name ap)) pos.line env=pure false) :
  Ex1 C D sc m σ (.Assign [.Attribute ob name ap] val pos) (.next m (σ2.set d (.att (putA name v l)))):=fun A G env hA I K O TT Q E hQ=>by
 refine plainObj_wpAny_Assign_Attribute ?_ (hs env)
 refine h0 A G env hA I K _ _ fun u0 G1 s1 I1 V1=>?_
 have K1:=K.step I s1
 refine h1 A G1 env hA I1 K1 _ _ fun u1 G2 s2 I2 V2=>?_
 refine setExc_ok ok cs hi hd hl hA I2 V2 (V1.step I1 s2 I1.hX) fun G3 s3 I3=>?_
 have S:=(s1.trr I s2).trr I s3
 exact hQ G3 S.toX I3 (K.step I S)
theorem CallK.toR {vs:List AV} (h:CallK C D f vs σ o):CallR C D f vs σ o:=fun A G us hA I SK VS Q E hP=>wpAny_call (h A G us hA I SK VS Q E hP)
theorem ExcCls.call (ok:C.Ok) {m:Mp} (M:ExcCls C x c f) (h:CallR C D f [.loc σ.length,v] (σ++[.exc c none]) (.next m σ')):CallV C (D+1) (.val (.ref c)) [v] σ (.ret (.loc σ.length) σ'):=fun A G u us hA I SK V VS Q E hP=>by
 refine V.val_elim ?_
 apply RLea1 (vrs1 VS)
 intro w V
 refine Zeeeeeeeeeeeeeeeea M.obj fun nm q N bs bm hdct sn sub ab col dd k0 k1 k2 k3 k5 hC L=>?_
 refine (?_:W C A _ _ _ ⟨G.s.heap,G.s.gens,G.s.drawn,G.s.toks,G.s.os⟩)
 have X:=ok.X.keeps I.keeps0
 have kp:∀ (o1 o2:Obj) b ob,G.h.get? b=some ob→((G.h.push o1).push o2).get? b=some ob:=fun o1 o2 b ob e=>Heap.get?_push_of_some _ (Heap.get?_push_of_some _ e)
 refine exc_call L (I.keeps0 _ _ hC) X M.init M.fn ?_ (by refine (?_:1≤sizeLine);decide)
 have dx:G.h.get? (G.sz+1)=none:=dead_ge (Nat.le_succ _)
 have hx:((G.h.push { cls:=.type "tuple",data:=.seq [w].toArray }).push { cls:=.ref c,data:=.fields #[.ref G.sz,.none,.none,.none,.bool false,.none] }).get? (G.sz+1)=some { cls:=.ref c,data:=.fields #[.ref G.sz,.none,.none,.none,.bool false,.none] }:=by
  have:=Heap.get?_push_size (o:={ cls:=.ref c,data:=.fields #[.ref G.sz,.none,.none,.none,.bool false,.none] }) (G.h.push { cls:=.type "tuple",data:=.seq [w].toArray }) rfl
  rw [Heap.size_push] at this
  exact this
 have I1:Inv C (G.more ((G.h.push { cls:=.type "tuple",data:=.seq [w].toArray }).push { cls:=.ref c,data:=.fields #[.ref G.sz,.none,.none,.none,.bool false,.none] }) G.s.toks [G.sz+1]) (σ++[.exc c none]):=
  more_inv I (kp _ _) dx (Ieeeaa _ _ _ hx (Iaaa rfl rfl rfl rfl) rfl)
 have s1:Step C G.tr G (G.more ((G.h.push { cls:=.type "tuple",data:=.seq [w].toArray }).push { cls:=.ref c,data:=.fields #[.ref G.sz,.none,.none,.none,.bool false,.none] }) G.s.toks [G.sz+1]):=more_step (kp _ _) fun a ha=>by rw [List.mem_singleton.mp ha];exact dx
 have hr:(G.more ((G.h.push { cls:=.type "tuple",data:=.seq [w].toArray }).push { cls:=.ref c,data:=.fields #[.ref G.sz,.none,.none,.none,.bool false,.none] }) G.s.toks [G.sz+1]).r[σ.length]?=some (G.sz+1):=by
  refine (?_:(G.r++[G.sz+1])[σ.length]?=_)
  rw [← I.len];simp
 refine h (A.under _) _ [.ref (G.sz+1),w] (tc_aok hA) I1 ((tc_stk SK).step s1 I.fsX) (.cons (.loc hr) (.cons (V.step I s1 I.hX) .nil)) _ _ ?_
 intro G3 s3 I3
 exact ⟨rfl,hP _ G3 (s1.trr I s3) I3 (.loc (s3.rget hr))⟩
theorem EvE.excInit (ok:C.Ok) (M:ExcCls C x c f) {e1 e2:Expr} {np apos pos:Pos} {i:Nat} {d:Option Nat} (hm:C.mg "Exception"=none) (hb:bootBuiltins "Exception"=some (.type "Exception")) (hk:sc.names.lookup ("Exception":Str)=some .globalImplicit)
  (hfc:findCls C.K (.type "Exception") (.type "type") "__init__"=some (.val (.builtin "Exception.__init__"))) (ha:EvL C D sc m σ [e1,e2] [.loc i,v] σ') (hs:noStars [e1,e2]=true) (hi:σ'[i]?=some (.exc c d)) (hline:(apos.endLine == pos.line)=true) :
  EvE C D sc m σ (.Call (.Attribute (.Name "Exception" np) "__init__" apos) [e1,e2] [] pos) (.p .none) σ':=fun A G env hA I K Q E hQ=>by
 have hn:=(EvE.builtin (C:=C) (D:=D) (sc:=sc) (m:=m) (σ:=σ) (pos:=np) ok hm hb (by decide +kernel) hk (by rfl)) A G env hA I K
 rw [arm_eval_Call]
 refine wpAny_bind (hn _ _ fun u G1 s1 I1 V1=>wpAny_bind (wpAny_standAt ?_))
 refine V1.val_elim ?_
 have X:=ok.X.keeps I1.keeps0
 unfold methodCall
 refine wpAny_bind (wpAny_holding ?_)
 have few:methodCallForm ([e1,e2].length+([]:List Keyword).length) (backTo pos (starEach [e1,e2] env)) (backToKw pos (keywordEach [] env))=true:=by
  unfold methodCallForm
  have:=backTo_noStars (pos:=pos) (env:=env) hs
  simp only [Bool.and_eq_true]
  refine ⟨⟨?_,rfl⟩,rfl⟩
  rw [List.all_eq_true]
  intro p hp
  cases hb:p.1 with
  | false=>rfl
  | true=>exact absurd (List.any_eq_true.mpr (Iea p hp hb)) (by rw [this];exact Bool.false_ne_true)
 rw [few]
 have L0:Looks (model C.prog C.w) G1.s.heap (typeOf (.type "Exception")) (.type "type"):=Looks.of_pure (by kernel_rfl)
 have hg:findIn C.K (.type "type") "__getattribute__"=some (some (.builtin "type.__getattribute__")):=type_tga
 have hga:W C A (getMethod (.type "Exception") "__init__" (do return (← importBound (.Name "Exception" np) env).getD true)) (fun fx s'=>fx=(.builtin "Exception.__init__",[])∧s'={ G1.s with toks:=G1.s.toks+1 }) E G1.s:=by
  unfold getMethod specialOf
  refine wpAny_bind (wpAny_bind (L0.here ((looks_findIn X hg).here ?_)))
  dsimp only
  rw [if_pos canon_tga]
  refine wpAny_bind (wpAny_mono (Q:=fun v s'=>v=.builtin "Exception.__init__"∧s'={ G1.s with toks:=G1.s.toks+1 }) (E:=E) ?_ (fun v s' z=>wpAny_pure (by refine Za z fun z39 z40=>?_;obtain rfl:=z39;obtain rfl:=z40;exact ⟨rfl,rfl⟩)) fun _ _ z=>z)
  have LO:Looks (model C.prog C.w) G1.s.heap (opaqueClassAbove (.type "Exception")) none:=Looks.of_pure (by kernel_rfl)
  refine cls_open X LO L0 hg (looks_hook X (r:=none) (by rfl)) (by refine (?_:subIn C.K _ _=_);rfl) hfc
   (wpAny_pure (by refine (?_:wpAny _ _ (handedOut _) _ _ _);rw [handedOut_of (by rfl)];exact wpAny_pure ⟨rfl,rfl⟩))
 refine wpAny_mono hga (fun fx s' z=>?_) fun _ _ z=>z
 refine Za z fun z37 z38=>?_
 obtain rfl:=z37
 obtain rfl:=z38
 unfold methodCallPos
 rw [hline]
 simp only [Bool.not_true,Bool.or_true,Bool.false_or,if_true]
 refine wpAny_bind (wpAny_pure ?_)
 have s2:=toks_step (C:=C) (G:=G1) (G1.s.toks+1)
 have I2:=toks_inv I1 (G1.s.toks+1)
 have K2:=(K.step I s1).step I1 s2
 have hne1:noStar e1=true:=by simp [noStars] at hs;exact hs.1
 refine callWith_of (P:=fun h=>∃ k,(k=Keeper.frame∨k=Keeper.machine∨k=Keeper.boundFrame)∧Looks (model C.prog C.w) h (keeperOf (.builtin "Exception.__init__")) k) (by rw [backTo_noStars hs];rfl) (fun _ h=>h) ?_
 rw [starEach_cons hne1]
 refine evalArgs_plain ?_
 have ha':=ha A (G1.grow G1.h (G1.s.toks+1) fun _=>False) env pos hA I2 K2
 rw [starEach_cons hne1] at ha'
 refine ha' _ _ fun us G3 s3 I3 VS=>?_
 refine ⟨(Iea .machine (.inr (.inl rfl)) Looks.now),?_⟩
 apply RLeeaa2 (vrs2 VS)
 intro u1 u2 V1 V2
 refine V1.loc_elim fun xa hr=>?_
 refine Zeeeaa (I3.tget hr hi) fun ox vs a0 h1 z35 h6=>?_
 refine Zaaa z35 fun h2 h3 h4 h5=>?_
 refine Zeeeeeeeeeeeeeeeea M.obj fun nm q N bs bm hdct sn sub ab col dd k0 k1 k2 k3 k5 hC L=>?_
 refine (?_:W C A (PySem.call (.builtin "Exception.__init__") [.ref xa,u2]) _ _ ⟨G3.s.heap,G3.s.gens,G3.s.drawn,G3.s.toks,G3.s.os⟩)
 refine exc_init L (I3.keeps0 _ _ hC) h1 h2 h3 h4 ?_
 have hk1:(G3.h.push { cls:=.type "tuple",data:=.seq #[u2] }).get? xa=some ox:=Heap.get?_push_of_some _ h1
 have hsz:0 < vs.size:=(Array.getElem?_eq_some_iff.mp h4).1
 have hd1:=Obj.data_mapFields h3 (·.setIfInBounds 0 (Value.ref G3.h.objs.size))
 have up:=Heap.get?_update_self (Obj.mapFields (·.setIfInBounds 0 (.ref G3.s.heap.objs.size))) hk1 (Obj.isFreed_of_fields hd1)
 have other:∀ b ob,b≠xa→G3.h.get? b=some ob→((G3.h.push { cls:=.type "tuple",data:=.seq #[u2] }).update xa (Obj.mapFields (·.setIfInBounds 0 (.ref G3.s.heap.objs.size)))).get? b=some ob:=fun b ob hb eb=>(Heap.get?_update_other _ _ (Ne.symm hb)).trans (Heap.get?_push_of_some _ eb)
 have ht:TrO C (G3.at ((G3.h.push { cls:=.type "tuple",data:=.seq #[u2] }).update xa (Obj.mapFields (·.setIfInBounds 0 (.ref G3.s.heap.objs.size)))) G3.s.toks) xa (.exc c d):=by
  refine (Ieeeaa _ _ (.ref G3.s.heap.objs.size) up (Iaaa ((Obj.cls_mapFields ..).trans h2) hd1 (by simp [hsz]) ?_) ?_)
  ·rw [Array.getElem?_setIfInBounds_ne (by decide)];exact h5
  ·have hdict:(Obj.mapFields (·.setIfInBounds 0 (.ref G3.s.heap.objs.size)) ox).dict=ox.dict:=by unfold Obj.mapFields;split<;>rfl
   rw [hdict];cases d<;>exact h6
 refine Za (upd_ok (o':=.exc c d) I3 hr _ G3.s.toks other ⟨_,up⟩ ht) fun S4 I4=>?_
 have hset:σ'.set i (.exc c d)=σ':=by
  obtain ⟨hlt,he⟩:=List.getElem?_eq_some_iff.mp hi
  rw [← he];exact List.set_getElem_self hlt
 rw [hset] at I4
 exact hQ .none _ ((s1.trr I s2).trr I (s3.trr I2 S4)) I4 vr_none
theorem Ex1.raise (ok:C.Ok) (M:ExcCls C x c f) {pos:Pos} {i:Nat} {d:Option Nat} (h:EvE C D sc m σ ex (.loc i) σ') (hi:σ'[i]?=some (.exc c d)) (hn:σ.length≤n) (hni:n≤i) (hb:∀ o∈σ'.take n,belO n o=true) :
  Ex1 C D sc m σ (.Raise (some ex) none pos) (.exc c (σ'.take n)):=fun A G env hA I K O TT Q E hQ=>by
 rw [arm_exec_Raise]
 refine wpAny_bind (wpAny_standAt ?_)
 unfold raiseStmt
 refine wpAny_bind (wpAny_bind (h A G env hA I K _ _ fun u G1 s1 I1 V1=>wpAny_bind (wpAny_standAt (wpAny_pure ?_))))
 refine V1.loc_elim fun e hr=>?_
 refine Zeeeaa (I1.tget hr hi) fun ox vs a0 h1 z34 h6=>?_
 refine Zaaa z34 fun h2 h3 h4 h5=>?_
 have X:=ok.X.keeps I1.keeps0
 have t1:Looks (model C.prog C.w) G1.s.heap (typeOf (.ref e)) (.ref c):=by
  obtain ⟨oc,od,oda,osl⟩:=ox
  have h2:oc=.ref c:=h2
  subst h2
  exact (Looks.ld h1).andThen .now
 have isT:Looks (model C.prog C.w) G1.s.heap (isType (.ref e)) false:=by
  obtain ⟨oc,od,oda,osl⟩:=ox
  have h3:oda=.fields vs:=h3
  subst h3
  exact (Looks.ld h1).andThen .now
 have isI:Looks (model C.prog C.w) G1.s.heap (isInstance (.ref e) (.type "BaseException")) true:=t1.andThen (looks_mroIn X M.base)
 have tt:Looks (model C.prog C.w) G1.s.heap (typeOf (.ref c)) (.type "type"):=looks_typeIn X M.typ
 refine wpAny_bind (wpAny_pure (wpAny_bind (wpAny_holding ?_)))
 unfold excFromValue isExcClass
 refine wpAny_bind (wpAny_bind (isT.here ?_))
 rw [if_neg Bool.false_ne_true]
 refine wpAny_pure ?_
 rw [if_neg Bool.false_ne_true]
 refine wpAny_bind (isI.here ?_)
 rw [if_pos rfl]
 refine wpAny_pure ?_
 dsimp only
 refine wpAny_bind (isT.here ?_)
 have rI:Looks (model C.prog C.w) G1.s.heap (raisedInstance (.ref e)) (.ref e):=by
  unfold raisedInstance
  exact t1.andThen (tt.andThen .now)
 refine wpAny_bind (rI.here ?_)
 refine wpAny_bind ?_
 unfold setFlight
 refine wpAny_bind (wpAny_field h1 h3 h5 ?_)
 rw [if_neg (by simp)]
 refine wpAny_pure (wpAny_raiseNew_none hA.1 ?_)
 have hlen:G.r.length≤n:=by rw [I.len];exact hn
 have S:Step C G.tr G (G1.cut n):=cut_step s1 hlen
 have dead:G.h.get? e=none:=by
  refine Zea s1.rr fun r e1 k=>?_
  rw [e1,List.getElem?_append_right (Nat.le_trans hlen hni)] at hr
  exact k e (List.mem_of_getElem? hr)
 have deadT:G1.h.get? G1.sz=none:=sz_none
 have I2:=cut_inv I1 hb
 have he:=List.mem_of_getElem? hr
 have off:Off C (G1.cut n) e:=⟨I1.trkF he,fun q=>by
  have q':e∈G1.r.take n:=q
  have hnd:=I1.nd
  rw [← List.take_append_drop n G1.r] at hnd
  exact (List.nodup_append.mp hnd).2.2 e q' e (mem_drop_of hr hni) rfl,(I1.rtab e he).1,(I1.rtab e he).2⟩
 refine hQ .fresh e G1.sz (G1.cut n) S.toX I2 ?_ dead (s1.dead deadT) ⟨off,Off.of_dead (G:=G1.cut n) I2 deadT,(fun q=>by rw [q,h1] at deadT;cases deadT),ox,vs,a0,h1,h2,h3,h4,h5,trivial⟩ fun L h=>by cases h
 exact (K.step I S).stk
theorem flight_ok {A2:Around} (S0:Step C Y R G) (dT:R.h.get? T=none) (I:Inv C G σ) (SK:StackOk A G) (ne:T≠e) (oe:Off C G e) (ot:Off C G T) {ob:Obj} {vs:Array Value} {a0:Value} (h1:G.h.get? e=some ob) (h2:ob.cls=.ref c) (h3:ob.data=.fields vs) (h4:vs[0]?=some a0) (h5:vs[1]?=some (.ref T))
  {oT:Obj} {ts:Array Value} {x3:Value} (h6:G.h.get? T=some oT) (h7:oT.data=.fields ts) (h8:ts[3]?=some x3) {Q:Unit→Shared→Prop} {E}
  (hQ:∀ G',Step C Y R G'→Inv C G' σ→StackOk A G'→Exc C G' c .flying e T→Q () G'.s):W C A2 (setFlight (.ref e) none) Q E G.s:=by
 have hsz:3 < ts.size:=(Array.getElem?_eq_some_iff.mp h8).1
 refine wpAny_setFlight_none h1 h3 h5 h6 h7 hsz ?_
 have eT:=Heap.get?_update_self (Obj.mapFields (·.setIfInBounds 3 .none)) h6 (Obj.isFreed_of_fields (Obj.data_mapFields h7 _))
 have other:∀ b,b≠T→(G.s.heap.update T (Obj.mapFields (·.setIfInBounds 3 .none))).get? b=G.s.heap.get? b:=fun b hb=>Heap.get?_update_other _ _ (Ne.symm hb)
 refine Za (side_ok (W:=[T]) I (G.s.heap.update T (Obj.mapFields (·.setIfInBounds 3 .none))) G.s.toks (fun b o hb eb=>(other b (by simpa using hb)).trans eb) fun b hb=>by rw [List.mem_singleton.mp hb];exact (Iae ot _ eT)) fun s1 I1=>?_
 refine hQ _ (S0.trans s1 fun a ha=>.inr (by rw [List.mem_singleton.mp ha];exact dT)) I1 (SK.step s1 fun a ha q=>ot.s (by rw [← List.mem_singleton.mp q];exact ha)) ⟨⟨oe.f,oe.r,oe.t,oe.s⟩,⟨ot.f,ot.r,ot.t,ot.s⟩,ne,ob,vs,a0,(other e (Ne.symm ne)).trans h1,h2,h3,h4,h5,_,_,eT,Obj.data_mapFields h7 _,?_⟩
 simp [hsz]
theorem Ex1.tryNext {body:List Stmt} {h₀:ExceptHandler} {pos:Pos} (h:ExS C D sc m σ body (.next m' σ')):Ex1 C D sc m σ (.Try body [h₀] [] [] pos) (.next m' σ'):=fun A G env hA I K O TT Q E hQ=>by
 refine wpAny_Try_except ?_
 refine h A G env hA I K O TT _ _ ?_
 intro G' S' I' K'
 exact wpAny_execs_nil (hQ G' S' I' K')
theorem Ex1.tryExc (ok:C.Ok) (M:ExcCls C x c f) {body:List Stmt} {b:Bool} {np p1 p2 hpos pos:Pos} {k:Nat} (hk:sc.names.lookup x=some .globalImplicit) (hd:(x == ("__debug__":Str))=false) (h:ExS C D sc m σ body (.exc c σ')) :
  Ex1 C D sc m σ (.Try body [.ExceptHandler (some (.Name x np)) none [.Return (some (.Constant (.bool b) k p1)) p2] hpos] [] [] pos) (.ret (.p (.bool b)) σ'):=fun A G env hA I K O TT Q E hQ=>by
 refine wpAny_Try_except ?_
 refine h A G env hA I K O TT _ _ ?_
 intro st e T G1 s1 I1 SK1 de dT Xx hL
 refine Zeea TT fun l L hfr hf=>?_
 refine Zea SK1 fun l' e1 sk=>?_
 rw [hfr] at e1;cases e1
 refine (move_ok (L:=L) s1 de dT I1 hfr hf sk Xx hL).2 fun T' G2 s2 I2 hfs SK2 dT' X2=>?_
 obtain ⟨oe,ot,ne,ob,vs,a0,h1,h2,h3,h4,h5,oT,ts,h6,h7,h8⟩:=X2
 refine flight_ok s2 dT' I2 SK2 ne oe ot h1 h2 h3 h4 h5 h6 h7 h8 fun G3 s3 I3 SK3 X3=>?_
 obtain ⟨oe3,ot3,ne3,ob3,vs3,a3,g1,g2,g3,g4,g5,oT3,ts3,g6,g7,g8⟩:=X3
 refine Zeeeeeeeeeeeeeeeea M.obj fun nm q N bs bm hdct sn sub ab col dd k0 k1 k2 k3 k5 hC L0=>?_
 refine wpAny_handleBy_cons (codeAny_handlers_test ?_) (by intro q;cases q)
 refine Calls.Name_function_global (by rw [K.scE];exact K.kind) ((K.kindOf x).trans hk) (Calls.loadGlobal_global (by rw [K.glob];exact ok.g.keeps I3.keeps0) M.name ?_) hd
 refine (?_:W C _ _ _ _ ⟨G3.s.heap,G3.s.gens,G3.s.drawn,G3.s.toks,G3.s.os⟩)
 refine wpAny_excMatches_sub_self (I3.keeps0 _ _ hC) g1 g2 L0.base (codeAny_handlers_suite ?_)
 refine flight_ok s3 dT' I3 SK3 ne3 oe3 ot3 g1 g2 g3 g4 g5 g6 g7 g8 fun G4 s4 I4 SK4 X4=>?_
 exact wpAny_execs_cons (wpAny_Return_some (wpAny_Constant_bool (hQ (.bool b) G4 s4 I4 SK4 (vr_bool b))))
end
end
structure Src (C:Cx) (A:Around) (G1 G2:St) (target:Expr) (it:Addr) (bt:AV→Option (Mp)) (l:List AV) (ns:List Str) (fp:Addr→Prop) (J:Env→List AV→St→Prop):Prop where
 fp_ok:∀ p,fp p→Off C G2 p∧G1.h.get? p=none∧∃ o,G2.h.get? p=some o
 start:∀ G4 cenv,Step C (fun _=>False) G2 G4→(∀ p,fp p→p≠cenv.locals∧∀ x,cenv.cells.lookup x≠some p)→J cenv l G4
 iter:∀ cenv sc0 sc Y,(∀ n∈ns,sc.names.lookup n=some .local∧sc0.names.lookup n=some .local)→(∀ a,Xe cenv sc0 a→Y a∨G1.h.get? a=none)→(∀ a,a∈G1.r→Y a)→IterOk C A G1 Y cenv sc0 sc target (.ref it) bt fp (J cenv)
 self:∀ cenv xs G,J cenv xs G→∀ Q E,Q (.ref it) G.s→W C A (pyIter (.ref it)) Q E G.s
noncomputable def MkIt (C:Cx) (D:Nat) (sc:Scope) (m:Mp) (σ:Sto) (iter target:Expr) (bt:AV→Option (Mp)) (l:List AV) (ns:List Str) (σ':Sto):Prop:=
 ∀ A G env,AOk A D→Inv C G σ→EnvOk C A G env sc m→∀ (Q:Value→Shared→Prop) E,
  (∀ (u:Value) (G1 G1':St),Step C G.tr G G1→Inv C G1 σ'→(∀ (Q2:Value→Shared→Prop) E2,(∀ it fp J G2,Step C (fun _=>False) G1 G2→Inv C G2 σ'→Src C A G1 G2 target it bt l ns fp J→Q2 (.ref it) G2.s)→W C A (pyIter u) Q2 E2 G1'.s)→Q u G1'.s)→W C A (eval iter env) Q E G.s
section
variable {C:Cx} {D n:Nat} {sc sc0 scope:Scope} {m m' mB mC:Mp} {σ σ' σ'' σ1 σ2 σ3:Sto} {v:AV} {o:Out} {A A2:Around} {G G' G'' R:St} {env:Env} {c e T:Addr} {X Y Z:Addr→Prop}
section
variable {v' fv fv' a:AV} {P f:Addr} {ex iter target elt:Expr} {x:Str} {st:ExcSt} {bt:AV→Option (Mp)} {l tot:List AV} {ns:List Str}
theorem Ex1.forG {body:List Stmt} {pos:Pos} (h:MkIt C D sc m σ iter target bt l ns σ') (hn:∀ n∈ns,sc.names.lookup n=some .local) (L:LoopS C D sc bt body l m σ' o) (hs:∀ env x,foldedSetIterable iter env x=pure x) :
  Ex1 C D sc m σ (.For target iter body [] pos) o:=fun A G env hA I K O TT Q E hQ=>by
 refine wpAny_For (h A G env hA I K _ _ fun u G1 G1' s1 I1 mk=>?_) (hs env)
 have K1:=K.step I s1
 refine mk _ _ fun it fp J G2 s2 I2 S=>?_
 have K2:=K1.step I1 (s2.weaken fun _ h=>h.elim)
 have O2:=(O.step K s1).step K1 s2
 have hp:∀ p,fp p→p≠env.locals∧∀ x,env.cells.lookup x≠some p:=fun p hp=>by
  refine Zaa (S.fp_ok p hp) fun _ hd _=>?_
  refine ⟨fun q=>?_,fun x q=>?_⟩
  ·refine Ze K1.there fun o e=>?_
   rw [← q,hd] at e;cases e
  ·refine Ze (K1.live x p q) fun o e=>?_
   rw [hd] at e;cases e
 exact loop_ok (R:=G1) L (S.iter env sc sc (Xs G1 env sc) (fun n hm=>⟨hn n hm,hn n hm⟩) (fun a ha=>.inl ha.xs) fun a ha=>.inl ha) (S.start G2 env .refl hp) (s2.weaken fun _ h=>h.elim) hA I2 K2 O2 TT (Post.pre s1.toX hQ)
theorem EvE.compG {ifs:List Expr} {pos:Pos} (so:ScopeOk scope sc) (h:MkIt C D sc m σ iter target bt l ns σ') (hn:∀ n∈ns,scope.names.lookup n=some .local) (hbt:∀ x b,bt x=some b→∀ p∈b,p.1∈ns)
  (hCS:CompS C D (relabelS scope sc) bt ifs elt (mCof scope m) l σ' tot σ'') (hz:tot.length≤sizeLine) (hs:∀ env x,foldedSetIterable iter env x=pure x) :
  EvE C D sc m σ (.ListComp elt [⟨target,iter,ifs,0⟩] scope pos) (mkL tot) σ'':=fun A G env hA I K Q E hQ=>by
 refine Zeaaa (closureFor_ok (scope:=scope) (env:=env) fun x hx=>by
  refine Zea (K.cell x (so.free (x,.free) hx rfl)) fun c h1 _=>?_
  exact ⟨c,h1⟩) fun cl hcl hc1 hc2 _=>?_
 rw [eval_ListComp]
 refine wpAny_comprehension_free (use:=none) rfl (hs env) hcl so.kind so.local (h A G env hA I K _ _ fun u R R' s1 I1 mk=>?_)
 have KR:=K.step I s1
 refine mk _ _ fun it fp J G2 s2 I2 S=>?_
 have K2:=KR.step I1 (s2.weaken fun _ h=>h.elim)
 refine comp_core (R:=R) (G:=G2) (fp:=fp) (J:=J) so hc1 hc2 I1 KR (s2.weaken fun _ h=>h.elim) I2 K2 (LoopG.one hCS hA (fun x b hb p hp=>.inl (hn p.1 (hbt x b hb p hp))) hz fun ce hce=>S.iter ce scope (relabelS scope sc) R.tr (fun n hm=>⟨relabelS_local.mpr (hn n hm),hn n hm⟩) (hY_of hce) fun a ha=>ha) S.fp_ok
  (fun G4 ce s4 _ _ hce=>S.start G4 ce s4 hce) S.self ?_
 intro G1 Dl cenv h' tk S1 I1' AC hp hD hL dL offL hNs hk'
 exact comp_post S1 I1' AC rfl hp hD hL dL offL hNs hk' fun u G' s3 I3 V3=>hQ u G' (s1.trr I s3) I3 V3
theorem Ex1.assignCompG {y:Str} {py spos pos:Pos} {ifs:List Expr} (so:ScopeOk scope sc) (h:MkIt C D sc m σ iter target bt l ns σ') (hn:∀ n∈ns,scope.names.lookup n=some .local) (hbt:∀ x b,bt x=some b→∀ p∈b,p.1∈ns)
  (hCS:CompS C D (relabelS scope sc) bt ifs elt (mCof scope m) l σ' tot σ'') (hz:tot.length≤sizeLine) (hs:∀ env x,foldedSetIterable iter env x=pure x) (hy:sc.names.lookup y=some .local)
  (hsw:(py.line == pos.line&&!(scope.names.any fun (n,k)=>n == y&&(k == .local||k == .cell)))=true) :
  Ex1 C D sc m σ (.Assign [.Name y py] (.ListComp elt [⟨target,iter,ifs,0⟩] scope pos) spos) (.next ((y,mkL tot)::m) σ''):=fun A G env hA I K O TT Q E hQ=>by
 refine Zeaaa (closureFor_ok (scope:=scope) (env:=env) fun x hx=>by
  refine Zea (K.cell x (so.free (x,.free) hx rfl)) fun c h1 _=>?_
  exact ⟨c,h1⟩) fun cl hcl hc1 hc2 _=>?_
 have hsw':swapsWith (.ListComp elt [⟨target,iter,ifs,0⟩] scope pos) (some (.Name y py)) spos.line env=pure true:=by
  have hb:env.blockKind == .function:=by
   unfold Env.blockKind
   rw [K.scE]
   simp [K.kind,ScopeKind.isAnnotationScope]
  have hkd:(env.kindOf y == some .local)=true:=by rw [K.kindOf,hy];rfl
  refine (?_:(pure (env.blockKind == .function&&env.kindOf y == some .local&&py.line == pos.line&&!(scope.names.any fun (n,k)=>n == y&&(k == .local||k == .cell))):Sem Bool)=pure true)
  rw [hb,hkd,Bool.true_and,Bool.true_and,hsw]
 rw [exec_Assign_Name_used _ _ _ _ hsw']
 refine wpAny_bind (wpAny_standAt (wpAny_bind ?_))
 have key:W C A (comprehension (.ListComp elt [⟨target,iter,ifs,0⟩] scope pos) scope env (firstIterPos [⟨target,iter,ifs,0⟩] pos) (newList []) false (eval iter env) (some (PySem.assign (.Name y py) env))) (fun _ s'=>Q .next s') E G.s:=?_
 ·exact wpAny_bind (wpAny_mono key (fun _ s' hq=>wpAny_pure (wpAny_pure hq)) fun _ _ e=>e)
 refine wpAny_comprehension_free (use:=some (PySem.assign (.Name y py) env)) (Q:=fun _ s'=>Q .next s') (e:=.ListComp elt [⟨target,iter,ifs,0⟩] scope pos) (g:=⟨target,iter,ifs,0⟩) (gs:=[]) rfl (hs env) hcl so.kind so.local ?_
 refine h A G env hA I K _ _ fun u R R' s1 I1 mk=>?_
 have KR:=K.step I s1
 refine mk _ _ fun it fp J G2 s2 I2 S=>?_
 have K2:=KR.step I1 (s2.weaken fun _ h=>h.elim)
 refine comp_core (R:=R) (G:=G2) (fp:=fp) (J:=J) so hc1 hc2 I1 KR (s2.weaken fun _ h=>h.elim) I2 K2 (LoopG.one hCS hA (fun x b hb p hp=>.inl (hn p.1 (hbt x b hb p hp))) hz fun ce hce=>S.iter ce scope (relabelS scope sc) R.tr (fun n hm=>⟨relabelS_local.mpr (hn n hm),hn n hm⟩) (hY_of hce) fun a ha=>ha) S.fp_ok
  (fun G4 ce s4 _ _ hce=>S.start G4 ce s4 hce) S.self ?_
 intro G1 Dl cenv h' tk S1 I1' AC hp hD hL dL offL hNs hk'
 exact comp_postA I1 KR hy S1 I1' AC rfl hp hD hL dL offL hNs hk' fun G' s3 I3 K3=>hQ G' (s1.toX.trs s3) I3 K3
end

section
variable {v' fv fv' a:AV} {G1 G2:St} {P f:Addr} {ex iter target elt:Expr} {x:Str} {st:ExcSt} {bt:AV→Option (Mp)} {l tot:List AV} {ns:List Str}
theorem mk_seq0 {u:Value} (I:Inv C G σ) (V:VR C G u a) (h:asF a=some l) {Q:Value→Shared→Prop} {E}
  (hQ:∀ ax G',Step C (fun _=>False) G G'→Inv C G' σ→(∃ vs:Array Value,G'.F ax∧VRs C G' vs.toList l∧((G'.h.IsListIter G.sz ax 0∧G'.h.IsList ax vs)∨(G'.h.IsTupleIter G.sz ax 0∧G'.h.IsTuple ax vs)))→Off C G' G.sz→(isLst a=true→∃ k,G'.h.IsListIter G.sz ax k)→Q (.ref G.sz) G'.s):W C A2 (pyIter u) Q E G.s:=by
 apply RLeeeeaaaaa4 (asF_vr V h)
 intro x ob vs n hf e hc hd VS
 have off:=Off.of_dead I (sz_none (G:=G))
 rcases hc with hc | ⟨hne,hc⟩
 ·have hl:G.h.IsList x vs:=(Ieaae ob e hc n hd)
  refine wpAny_pyIter_list hl ?_
  refine Za (priv_ok (X:=fun _=>False) I { cls:=.type "list_iterator",data:=.fields #[.ref x,.int 0 0] } G.s.toks) fun s1 I1=>?_
  have hit:(G.priv { cls:=.type "list_iterator",data:=.fields #[.ref x,.int 0 0] } G.s.toks).h.IsListIter G.sz x 0:=(Ieaa _ (Heap.get?_push_size _ rfl) rfl rfl)
  exact hQ x _ s1 I1 (Ieaa vs hf (VS.step I s1 (fun _ h=>h.elim)) (.inl ⟨hit,hl.push _⟩)) ⟨off.f,off.r,off.t,off.s⟩ fun _=>⟨0,hit⟩
 ·have hl:G.h.IsTuple x vs:=(Ieaae ob e hc n hd)
  refine wpAny_pyIter_tuple hl ?_
  refine Za (priv_ok (X:=fun _=>False) I { cls:=.type "tuple_iterator",data:=.fields #[.ref x,.int 0 0] } G.s.toks) fun s1 I1=>?_
  have hit:(G.priv { cls:=.type "tuple_iterator",data:=.fields #[.ref x,.int 0 0] } G.s.toks).h.IsTupleIter G.sz x 0:=(Ieaa _ (Heap.get?_push_size _ rfl) rfl rfl)
  exact hQ x _ s1 I1 (Ieaa vs hf (VS.step I s1 (fun _ h=>h.elim)) (.inr (Iaeaae hit ob (Heap.get?_push_of_some _ e) hc n hd))) ⟨off.f,off.r,off.t,off.s⟩ fun q=>by rw [hne] at q;cases q
theorem jseq_start {I ax:Addr} {vs:Array Value} (off:Off C G I) (dead:R.h.get? I=none) (hF:G.F ax) (VS:VRs C G vs.toList l) (h:(G.h.IsListIter I ax 0∧G.h.IsList ax vs)∨(G.h.IsTupleIter I ax 0∧G.h.IsTuple ax vs)) (IV:Inv C G σ) (b:Step C (fun _=>False) G G') (h1:I≠env.locals) (h2:∀ x,env.cells.lookup x≠some I):JSeq C R env I ax l l G':=by
 have live:∃ o,G.h.get? I=some o:=by rcases h with ⟨⟨o,e,_⟩,_⟩ | ⟨⟨o,e,_⟩,_⟩<;>exact ⟨o,e⟩
 have j:JSeq C R env I ax l l G:=(Ieeaaaaa 0 vs rfl (Nat.zero_le _) ⟨off,h1,h2,dead,live⟩ hF VS h)
 exact jseq_keep j IV b (fun _ h=>h.elim) fun _ h=>h.elim
theorem MkIt.seq {nm:Str} {np:Pos} (h:EvE C D sc m σ iter a σ') (ha:asF a=some l):MkIt C D sc m σ iter (.Name nm np) (bindName1 nm) l [nm] σ':=fun A G env hA I K Q E hQ=>by
 refine h A G env hA I K _ _ fun u G1 s1 I1 V1=>hQ u G1 G1 s1 I1 fun Q2 E2 k=>?_
 refine mk_seq0 I1 V1 ha fun ax G2 s2 I2 ⟨vs,hF,VS,hit⟩ off hk=>?_
 have live:∃ o,G2.h.get? G1.sz=some o:=by rcases hit with ⟨⟨o,e,_⟩,_⟩ | ⟨⟨o,e,_⟩,_⟩<;>exact ⟨o,e⟩
 refine k G1.sz (fun a=>a=G1.sz) (fun ce xs G=>JSeq C G1 ce G1.sz ax l xs G) G2 s2 I2 ⟨fun p hp=>by rw [hp];exact (Iaa off sz_none live),fun G4 ce s4 hce=>jseq_start off sz_none hF VS hit I2 s4 (hce _ rfl).1 (hce _ rfl).2,fun ce sc0 sc' Y hn hY _=>iter_name hA.1 (hn nm (List.mem_singleton.mpr rfl)).1 (hn nm (List.mem_singleton.mpr rfl)).2 hY,fun ce xs G j Q E h=>jseq_self j h⟩
theorem MkIt.names {poss:List Pos} {es:List Expr} {k:Nat} {tp:Pos} (h:EvE C D sc m σ iter a σ') (ha:asF a=some l) (hl:isLst a=true) (he:es=(ns.zip poss).map fun p=>Expr.Name p.1 p.2) (hp:poss.length=ns.length):MkIt C D sc m σ iter (.Tuple es k tp) (bindNames ns) l ns σ':=fun A G env hA I K Q E hQ=>by
 subst he
 refine h A G env hA I K _ _ fun u G1 s1 I1 V1=>hQ u G1 G1 s1 I1 fun Q2 E2 k=>?_
 refine mk_seq0 I1 V1 ha fun ax G2 s2 I2 ⟨vs,hF,VS,hit⟩ off hk=>?_
 have live:∃ o,G2.h.get? G1.sz=some o:=by rcases hit with ⟨⟨o,e,_⟩,_⟩ | ⟨⟨o,e,_⟩,_⟩<;>exact ⟨o,e⟩
 refine Ze (hk hl) fun k0 hk0=>?_
 refine k G1.sz (fun a=>a=G1.sz) (fun ce xs G=>JLst C G1 ce G1.sz ax l xs G) G2 s2 I2 ⟨fun p hp=>by rw [hp];exact (Iaa off sz_none live),fun G4 ce s4 hce=>(Iae (jseq_start off sz_none hF VS hit I2 s4 (hce _ rfl).1 (hce _ rfl).2) k0 (hk0.at fun o e=>s4.keep _ o e (fun h=>h) off.t off.s)),fun ce sc0 sc' Y hn hY hYR=>iter_names hA.1 hn hp hY hYR,fun ce xs G j Q E h=>jseq_self j.1 h⟩
theorem bindNames_mem:∀ x b,bindNames ns x=some b→∀ p∈b,p.1∈ns:=fun x b hb p hp=>by
 unfold bindNames at hb
 split at hb
 ·split at hb
  ·cases hb
   exact (List.of_mem_zip (List.mem_reverse.mp hp)).1
  ·cases hb
 ·cases hb
theorem bindName1_mem:∀ y b,bindName1 x y=some b→∀ p∈b,p.1∈[x]:=fun y b hb p hp=>by
 cases hb;rw [List.mem_singleton.mp hp];exact List.mem_singleton.mpr rfl
noncomputable def rangeL (n:Nat):List AV:=(List.range n).map fun (i:Nat)=>AV.p (.int (i:Int))
theorem rangeL_len:(rangeL n).length=n:=by simp [rangeL]
noncomputable def JRng (C:Cx) (R:St) (env:Env) (I:Addr) (n:Nat):List AV→St→Prop:=fun xs G=>∃ i,xs=(rangeL n).drop i∧i≤n∧Pv C R G env I∧IsRangeIter G.h I (i:Int) ((n:Int) - (i:Int)) 1
theorem jrng_keep {I:Addr} {xs:List AV} (j:JRng C R env I n xs G) (b:Step C X G G') (h1:∀ a,X a→¬ a=I):JRng C R env I n xs G':=by
 refine Zeaaa j fun i e hi pv hit=>?_
 exact (Ieaaa i e hi (pv.step b) (b.keep I _ hit (fun q=>h1 I q rfl) pv.off.t pv.off.s))
theorem iter_range {I:Addr} {nm:Str} {np:Pos} (hA:A.handled=none) (hn:sc.names.lookup nm=some .local) (hn0:sc0.names.lookup nm=some .local) (hY:∀ a,Xe env sc0 a→Y a∨R.h.get? a=none) :
  IterOk C A R Y env sc0 sc (.Name nm np) (.ref I) (bindName1 nm) (fun a=>a=I) (JRng C R env I n) where
 nxt:=fun {x xs b m σ G} hb j IV K S0 {Q E} hQ=>by
  cases hb
  refine Zeaaa j fun i e hi pv hit=>?_
  have hlt:i < n:=by
   rcases Nat.lt_or_ge i n with h | h
   ·exact h
   ·rw [List.drop_eq_nil_of_le (by rw [rangeL_len];exact h)] at e;cases e
  rw [List.drop_eq_getElem_cons (by rw [rangeL_len];exact hlt)] at e
  injection e with e1 e2
  have ex:x=.p (.int (i:Int)):=by rw [e1];simp [rangeL]
  refine wpAny_pyNext_range_item hit (by walk_at "o") fun h' hit' hs'=>?_
  refine Za (side_ok (W:=[I]) IV h' (G.s.toks+1) (fun b o hb e=>hs'.extBut b o (by simpa using hb) e) fun b hb=>by rw [List.mem_singleton.mp hb];exact (Iae pv.off _ hit')) fun s1 I1=>?_
  have s1':Step C (fun a=>a=I) G ⟨{ G.s with heap:=h',toks:=G.s.toks+1 },G.F,G.r,G.fs⟩:=s1.weaken fun a ha=>.inl (List.mem_singleton.mp ha)
  have nF:∀ a,a=I→¬ G.F a:=fun a ha=>by rw [ha];exact pv.off.f
  have K1:=K.stepX IV s1' nF (fun q=>pv.loc q.symm) (fun y c hc q=>pv.cel y (q▸hc)) fun a ha q=>pv.off.s (q▸ha)
  have S1:=S0.trans s1' fun a ha=>.inr (by rw [ha];exact pv.dead)
  have j1:JRng C R env I n xs ⟨{ G.s with heap:=h',toks:=G.s.toks+1 },G.F,G.r,G.fs⟩:=⟨i+1,e2,hlt,pv.step s1',by
   have e3:((i+1:Nat):Int)=(i:Int)+1:=by walk_at "o"
   have e4:((n:Int) - ((i:Int)+1))=(n:Int) - (i:Int) - 1:=by walk_at "o"
   rw [e3,e4];exact hit'⟩
  refine wpAny_pure ?_
  refine wpAny_assign_Name (store_core (v:=x) I1 K1 (fun hc=>by rw [hn] at hc;cases hc) (by rw [ex];exact vr_int _ _) (.inl hn) fun G2 s2 I2 K2=>?_)
  have x1:∀ a,X1 env sc nm a→a=env.locals:=fun a ha=>by
   rcases ha with ha | ha
   ·exact ha.2
   ·rw [hn] at ha;cases ha.1
  refine hQ G2 (S1.trans s2 fun a ha=>hY a (.inl (x1 a ha))) ((s1'.weaken (Y:=fun a=>a=I∨Xe env sc0 a) fun a ha=>.inl (.inl ha)).trans s2 fun a ha=>.inl (.inr (.inl (x1 a ha)))) I2 K2 ?_
  exact jrng_keep j1 s2 fun a ha q=>pv.loc (q▸x1 a ha)
 fin:=fun {σ G} j IV {Q E} hQ=>by
  refine Zeaaa j fun i e hi pv hit=>?_
  have hge:i=n:=by
   have:=congrArg List.length e
   simp [rangeL_len] at this;omega
  exact wpAny_pyNext_range_end hA hit (by walk_at "o") fun h' hs'=>hQ h' G.s.toks fun b o hb eb=>hs' b o hb eb
 keep:=fun {xs G G' σ X} j IV b h1 h2=>jrng_keep j b h1
 pv:=fun {xs G p} j hp=>by refine Zeaaa j fun _ _ _ pv _=>?_;rw [hp];exact pv
theorem MkIt.range {nm:Str} {np rp pos:Pos} {e:Expr} {i:Int} (ok:C.Ok) (hm:C.mg "range"=none) (hb:bootBuiltins "range"=some (.type "range")) (hk:sc.names.lookup ("range":Str)=some .globalImplicit) (hs:noStar e=true) (h:EvE C D sc m σ e (.p (.int i)) σ') (hi:i=(n:Int)) (hn:n < 1000000) :
  MkIt C D sc m σ (.Call (.Name "range" rp) [e] [] pos) (.Name nm np) (bindName1 nm) (rangeL n) [nm] σ':=fun A G env hA I K Q E hQ=>by
 rw [eval_Call_Name]
 have hn':=(EvE.builtin (C:=C) (D:=D) (sc:=sc) (m:=m) (σ:=σ) (pos:=rp) ok hm hb (by decide +kernel) hk (by rfl)) A G env hA I K
 refine wpAny_bind (hn' _ _ fun u G1 s1 I1 V1=>?_)
 refine V1.val_elim ?_
 have K1:=K.step I s1
 refine args_ok (by simp [noStars,hs]) (EvL.cons hs h EvL.nil) hA I1 K1 (fun _ _ _=>keeps1_nonRef rfl) fun us G2 s2 I2 K2 VS=>?_
 apply RLea1 (vrs1 VS)
 intro u V
 apply RLe1 V.int_shape
 intro t
 refine call_range_1 ?_
 refine Za (priv_ok (X:=G2.tr) I2 { cls:=.type "range",data:=.fields #[.int 0 G2.s.toks,.int i t,.int 1 (G2.s.toks+1)] } (G2.s.toks+1+1)) fun s3 I3=>?_
 have s13:=(s1.trr I s2).trr I s3
 refine hQ _ (G2.priv { cls:=.type "range",data:=.fields #[.int 0 G2.s.toks,.int i t,.int 1 (G2.s.toks+1)] } (G2.s.toks+1+1)) (G2.priv { cls:=.type "range",data:=.fields #[.int 0 G2.s.toks,.int i t,.int 1 (G2.s.toks+1)] } (G2.s.toks+1+1)) s13 I3 fun Q2 E2 k=>?_
 refine wpAny_pyIter_range (IsRange.new ..) (small_one (by walk_at "o") (by walk_at "o") (by walk_at "o") (by walk_at "o")) ?_
 refine Za (priv_ok (X:=fun _=>False) I3 { cls:=.type "range_iterator",data:=.fields #[rawInt 0,rawInt (Builtin.Range.rangeSize 0 i 1),rawInt 1] } (G2.s.toks+1+1)) fun s4 I4=>?_
 have off:=Off.of_dead I3 (sz_none (G:=G2.priv { cls:=.type "range",data:=.fields #[.int 0 G2.s.toks,.int i t,.int 1 (G2.s.toks+1)] } (G2.s.toks+1+1)))
 have hit:IsRangeIter ((G2.priv { cls:=.type "range",data:=.fields #[.int 0 G2.s.toks,.int i t,.int 1 (G2.s.toks+1)] } (G2.s.toks+1+1)).priv { cls:=.type "range_iterator",data:=.fields #[rawInt 0,rawInt (Builtin.Range.rangeSize 0 i 1),rawInt 1] } (G2.s.toks+1+1)).h (G2.priv { cls:=.type "range",data:=.fields #[.int 0 G2.s.toks,.int i t,.int 1 (G2.s.toks+1)] } (G2.s.toks+1+1)).sz ((0:Nat):Int) ((n:Int) - ((0:Nat):Int)) 1:=by
  have e1:Builtin.Range.rangeSize 0 i 1=(n:Int) - ((0:Nat):Int):=by rw [rangeSize_nat,hi];omega
  rw [← e1];exact Heap.get?_push_size _ rfl
 refine k _ (fun a=>a=(G2.priv { cls:=.type "range",data:=.fields #[.int 0 G2.s.toks,.int i t,.int 1 (G2.s.toks+1)] } (G2.s.toks+1+1)).sz) (fun ce xs G=>JRng C _ ce _ n xs G) _ s4 I4 ⟨fun p hp=>by rw [hp];exact (Iaae ⟨off.f,off.r,off.t,off.s⟩ sz_none _ hit),fun G4 ce s5 hce=>?_,fun ce sc0 sc' Y hn hY _=>iter_range hA.1 (hn nm (List.mem_singleton.mpr rfl)).1 (hn nm (List.mem_singleton.mpr rfl)).2 hY,fun ce xs G j Q E h=>?_⟩
 ·have j:JRng C (G2.priv { cls:=.type "range",data:=.fields #[.int 0 G2.s.toks,.int i t,.int 1 (G2.s.toks+1)] } (G2.s.toks+1+1)) ce _ n (rangeL n) ((G2.priv { cls:=.type "range",data:=.fields #[.int 0 G2.s.toks,.int i t,.int 1 (G2.s.toks+1)] } (G2.s.toks+1+1)).priv { cls:=.type "range_iterator",data:=.fields #[rawInt 0,rawInt (Builtin.Range.rangeSize 0 i 1),rawInt 1] } (G2.s.toks+1+1)):=(Ieaaa 0 rfl (Nat.zero_le _) ⟨⟨off.f,off.r,off.t,off.s⟩,(hce _ rfl).1,(hce _ rfl).2,sz_none,_,hit⟩ hit)
  exact jrng_keep j s5 fun _ h=>h.elim
 ·refine Zeaaa j fun i _ _ _ hit=>?_
  refine (Walks.range (prog:=C.prog) (w:=C.w) (A:=A) hA.1 _ 0 1 n).self i G.s Q E ?_ h
  refine (?_:IsRangeIter _ _ _ _ _)
  have e1:(0+(i:Int) * 1)=(i:Int):=by walk_at "o"
  rw [e1];exact hit
end

section
variable {prog:Program} {w:World} {E:Value→Shared→Prop} {s:Shared}
theorem zipn_end {z TI TO i1 i2 l1 l2:Addr} {k:Nat} {xs ys:Array Value} {Q:Option Value→Shared→Prop} (hh:A.handled=none) (D:ZipApart z TI TO i1 i2 l1 l2) (Z:ZSt s.heap z TI TO i1 i2 l1 l2 k xs ys) (hx:xs[k]?=none)
  (hQ:∀ h',(∀ c o,c≠z→c≠TO→c≠i1→c≠i2→s.heap.get? c=some o→h'.get? c=some o)→Q none { s with heap:=h' }):wpAny (model prog w) A (pyNext (.ref z)) Q E s:=by
 obtain ⟨hz,hTI,⟨a,b,hTO⟩,h1,h2⟩:=Z
 have hT:s.TypeIs (.ref z) "zip":=(Iea _ hz rfl)
 have body:wpAny (model prog w) A.in1 (Builtin.«zip.__next__» ⟨[.ref z],[]⟩) (fun fin s'=>False) (fun e s'=>(∃ o,s'.heap.get? (match e with | .ref a=>a | _=>0)=some o∧o.cls=.type "StopIteration")∧(∃ a,e=.ref a)∧Q none s') s:=?_
 ·unfold pyNext
  refine wpAny_bind (wpAny_attempt (wpAny_callSpecial?_slot (name:=Str.ofString "__next__") hT F.slot_zip_next
   (wpAny_call_entry F.slot_zip_next hT F.entry_zip_next (wpAny_mono body (fun _ _ h=>h.elim) fun e s' h=>?_) (F.args_zip_next_1 _))))
  refine Zaa h fun z178 z179 q=>?_
  refine Zea z178 fun o ho hc=>?_
  refine Ze z179 fun x z208=>?_
  obtain rfl:=z208
  refine wpAny_bind (wpAny_isInstance (T:="StopIteration") (b:=true) (Iea o ho hc) isSubtype_stop ?_)
  exact wpAny_pure q
 ·refine (?_:wpAny _ _ (field (.ref z) 2 >>= _) _ _ _)
  refine wpAny_bind (wpAny_field hz rfl (x:=.bool false) rfl ?_)
  refine (?_:wpAny _ _ (field (.ref z) 3 >>= _) _ _ _)
  refine wpAny_bind (wpAny_field hz rfl (x:=.ref TI) rfl ?_)
  refine wpAny_bind (wpAny_seqItems hTI rfl ?_)
  refine (?_:wpAny _ _ (Builtin.SmallTypes.ownedTupleIsFree (.ref z) >>= _) _ _ _)
  refine wpAny_bind ?_
  unfold Builtin.SmallTypes.ownedTupleIsFree
  refine wpAny_bind (wpAny_field hz rfl (x:=.none) rfl (wpAny_pure ?_))
  simp only [if_true]
  refine wpAny_bind (wpAny_rule ?_)
  refine wpAny_bind (wpAny_field hz rfl (x:=.ref TO) rfl ?_)
  refine wpAny_bind (wpAny_setField_rec hz (by simp) fun h₁ hz₁ hs₁=>?_)
  replace hz₁:IsZip h₁ z TI TO .ellipsis:=hz₁
  refine wpAny_bind ?_
  simp only [List.zipIdx_cons,List.zipIdx_nil,List.forIn_cons,List.forIn_nil]
  refine wpAny_bind (wpAny_bind (wpAny_onRaise ?_))
  refine (?_:wpAny _ _ (Builtin.SmallTypes.nextOf (.ref i1) >>= _) _ _ _)
  refine wpAny_bind (sit_end hh (h1.ext hs₁.extBut D.i1z D.l1z) hx fun h₂ e hs₂ he=>?_)
  refine Zea he fun oe hoe hce=>?_
  have hz₂:IsZip h₂ z TI TO .ellipsis:=hs₂ _ _ D.i1z.symm hz₁
  have hez:e≠z:=fun x=>by subst x;rw [hz₂] at hoe;cases hoe;simp at hce
  refine wpAny_setField_rec hz₂ (by simp) fun h₃ _ hs₃=>?_
  exact (Iaa (Iea oe (hs₃.extBut _ _ hez hoe) hce) ⟨_,rfl⟩ (hQ _ fun c o c1 _ c3 _ x=>hs₃.extBut _ _ c1 (hs₂ _ _ c3 (hs₁.extBut _ _ c1 x))))
noncomputable abbrev tH1 (h:Heap) (l1:Addr):Heap:=h.push { cls:=.type "tuple_iterator",data:=.fields #[.ref l1,.int 0 0] }
noncomputable abbrev tH2 (h:Heap) (l1 l2:Addr):Heap:=(tH1 h l1).push { cls:=.type "tuple_iterator",data:=.fields #[.ref l2,.int 0 0] }
noncomputable abbrev tH3 (h:Heap) (l1 l2:Addr):Heap:=(tH2 h l1 l2).push { cls:=.type "tuple",data:=.seq #[.ref h.objs.size,.ref (tH1 h l1).objs.size] }
noncomputable abbrev tH4 (h:Heap) (l1 l2:Addr):Heap:=(tH3 h l1 l2).push { cls:=.type "tuple",data:=.seq #[.none,.none] }
noncomputable abbrev tH5 (h:Heap) (l1 l2:Addr):Heap:=(tH4 h l1 l2).push { cls:=.type "zip",data:=.fields #[.none,.bool false,.bool false,.ref (tH2 h l1 l2).objs.size,.ref (tH3 h l1 l2).objs.size] }
theorem meets_zip_tt (l1 l2:Addr) (xs ys:Array Value) :
  Meets (Builtin.«zip.__new__» ⟨[.type "zip",.ref l1,.ref l2],[]⟩) (fun _ R s=>s.heap.IsTuple l1 xs∧s.heap.IsTuple l2 ys ∧
   R (.ok (.ret (.ref (tH4 s.heap l1 l2).objs.size))) { s with heap:=tH5 s.heap l1 l2 }):=
 .of_wp fun prog w A R s h=>by
  obtain ⟨hp,g,d,tk,os⟩:=s;refine Zaa h fun hl1 hl2 h=>?_
  have hsub:=sub_zip
  have hL1:Heap.IsTuple (Shared.heap ⟨hp,g,d,tk,os⟩) l1 xs:=hl1
  have hL2:Heap.IsTuple (Shared.heap ⟨hp.push { cls:=.type "tuple_iterator",data:=.fields #[.ref l1,.int 0 0] },g,d,tk,os⟩) l2 ys:=by
   refine Zea hl2 fun o e r=>?_;exact (Iea o (Heap.get?_push_of_some _ e) r)
  wp_walk using wpAny_pyIter_tuple hL1,wpAny_pyIter_tuple hL2
  exact (Iea _ rfl h)
theorem call_zip_tt {l1 l2:Addr} {xs ys:Array Value} {Q:Value→Shared→Prop} (hl1:s.heap.IsTuple l1 xs) (hl2:s.heap.IsTuple l2 ys)
  (h:∀ h',IsZip h' (s.heap.objs.size+4) (s.heap.objs.size+2) (s.heap.objs.size+3) .none→IsPair h' (s.heap.objs.size+2) (.ref s.heap.objs.size) (.ref (s.heap.objs.size+1)) →
   IsPair h' (s.heap.objs.size+3) .none .none→h'.IsTupleIter s.heap.objs.size l1 0→h'.IsTupleIter (s.heap.objs.size+1) l2 0 →
   (∀ c o,s.heap.get? c=some o→h'.get? c=some o)→Q (.ref (s.heap.objs.size+4)) { s with heap:=h' }) :
  wpAny (model prog w) A (call (.type "zip") [.ref l1,.ref l2]) Q E s:=by
 refine callType_new F.called_zip (by decide) (F.typeCall_zip_2 _ _) (F.newCall_zip_2 _ _) (fun obj=>F.args_object_init_3 obj _ _) F.entry_zip_new
  (meets_zip_tt l1 l2 xs ys) (Iaa hl1 hl2 ?_)
 have z1:(tH1 s.heap l1).objs.size=s.heap.objs.size+1:=Heap.size_push ..
 have z2:(tH2 s.heap l1 l2).objs.size=s.heap.objs.size+2:=by rw [Heap.size_push,z1]
 have z3:(tH3 s.heap l1 l2).objs.size=s.heap.objs.size+3:=by rw [Heap.size_push,z2]
 have z4:(tH4 s.heap l1 l2).objs.size=s.heap.objs.size+4:=by rw [Heap.size_push,z3]
 have g5:(tH5 s.heap l1 l2).get? (tH4 s.heap l1 l2).objs.size=some _:=Heap.get?_push_size _ rfl
 have g4:(tH5 s.heap l1 l2).get? (tH3 s.heap l1 l2).objs.size=some _:=Heap.get?_push_of_some _ (Heap.get?_push_size _ rfl)
 have g3:(tH5 s.heap l1 l2).get? (tH2 s.heap l1 l2).objs.size=some _:=Heap.get?_push_of_some _ (Heap.get?_push_of_some _ (Heap.get?_push_size _ rfl))
 have g2:(tH5 s.heap l1 l2).get? (tH1 s.heap l1).objs.size=some _:=Heap.get?_push_of_some _ (Heap.get?_push_of_some _ (Heap.get?_push_of_some _ (Heap.get?_push_size _ rfl)))
 have g1:(tH5 s.heap l1 l2).get? s.heap.objs.size=some _:=Heap.get?_push_of_some _ (Heap.get?_push_of_some _ (Heap.get?_push_of_some _ (Heap.get?_push_of_some _ (Heap.get?_push_size _ rfl))))
 refine (?_:_∧_)
 rw [z2,z3,z4] at g5
 rw [z1,z2] at g3
 rw [z3] at g4
 rw [z1] at g2
 rw [z4]
 refine ⟨(Iea _ g5 rfl),h _ g5 g3 g4 (Ieaa _ g1 rfl rfl) (Ieaa _ g2 rfl rfl) fun c o e=>?_⟩
 exact Heap.get?_push_of_some _ (Heap.get?_push_of_some _ (Heap.get?_push_of_some _ (Heap.get?_push_of_some _ (Heap.get?_push_of_some _ e))))
end
end
noncomputable def zipL (xs ys:List PyData):List AV:=(xs.zip ys).map fun p=>.p (.tuple [p.1,p.2])
structure ZAd where
 z:Addr
 TI:Addr
 TO:Addr
 i1:Addr
 i2:Addr
 l1:Addr
 l2:Addr
noncomputable def ZAd.fp (q:ZAd):Addr→Prop:=fun p=>p=q.z∨p=q.TI∨p=q.TO∨p=q.i1∨p=q.i2
section
variable {C:Cx} {D n:Nat} {sc sc0 scope:Scope} {m m' mB mC:Mp} {σ σ' σ'' σ1 σ2 σ3:Sto} {v:AV} {o:Out} {A A2:Around} {G G' G'' R:St} {env:Env} {c e T:Addr} {X Y Z:Addr→Prop}
section
variable {v' fv fv' a1 a2:AV} {G1 G2:St} {P f:Addr} {ex iter target elt:Expr} {x:Str} {st:ExcSt} {bt:AV→Option (Mp)} {l tot:List AV} {ns:List Str} {xs ys:List PyData} {q:ZAd}
structure ZB (C:Cx) (G:St) (q:ZAd) (xs ys:List PyData) (k:Nat):Prop where
 st:∃ vs ws,ZSt G.h q.z q.TI q.TO q.i1 q.i2 q.l1 q.l2 k vs ws∧VRs C G vs.toList (xs.map .p)∧VRs C G ws.toList (ys.map .p)
 F1:G.F q.l1
 F2:G.F q.l2
 D:ZipApart q.z q.TI q.TO q.i1 q.i2 q.l1 q.l2
noncomputable def JZip (C:Cx) (R:St) (env:Env) (q:ZAd) (xs ys:List PyData):List AV→St→Prop:=fun rest G=>∃ k,rest=(zipL xs ys).drop k∧k≤(zipL xs ys).length∧(∀ p,q.fp p→Pv C R G env p)∧ZB C G q xs ys k
theorem ZB.keep {k:Nat} (z:ZB C G q xs ys k) (I:Inv C G σ) (b:Step C X G G') (h1:∀ p,q.fp p→Off C G p∧¬ X p) (h2:∀ a,X a→¬ G.F a):ZB C G' q xs ys k:=by
 obtain ⟨⟨vs,ws,⟨z1,z2,⟨a,b',z3⟩,z4,z5⟩,V1,V2⟩,F1,F2,D⟩:=z
 have kp:∀ {p o},q.fp p→G.h.get? p=some o→G'.h.get? p=some o:=fun hp e=>b.keep _ _ e (h1 _ hp).2 (h1 _ hp).1.t (h1 _ hp).1.s
 have kF:∀ {p o},G.F p→G.h.get? p=some o→G'.h.get? p=some o:=fun hF e=>I.stay b h2 hF e
 exact ⟨(Ieeaa vs ws ⟨kp (.inl rfl) z1,kp (.inr (.inl rfl)) z2,(Iee a b' (kp (.inr (.inr (.inl rfl))) z3)),z4.at (fun o e=>kp (.inr (.inr (.inr (.inl rfl)))) e) (fun o e=>kF F1 e),z5.at (fun o e=>kp (.inr (.inr (.inr (.inr rfl)))) e) (fun o e=>kF F2 e)⟩ (V1.step I b h2) (V2.step I b h2)),b.fz _ F1,b.fz _ F2,D⟩
theorem jzip_keep {rest:List AV} (j:JZip C R env q xs ys rest G) (I:Inv C G σ) (b:Step C X G G') (h1:∀ a,X a→¬ q.fp a) (h2:∀ a,X a→¬ G.F a):JZip C R env q xs ys rest G':=by
 refine Zeaaa j fun k e hk pv z=>?_
 exact (Ieaaa k e hk (fun p hp=>(pv p hp).step b) (z.keep I b (fun p hp=>⟨(pv p hp).off,fun hx=>h1 p hx hp⟩) h2))
theorem zipL_get {k:Nat} (h:k < (zipL xs ys).length):∃ x y,xs[k]?=some x∧ys[k]?=some y∧(zipL xs ys)[k]=.p (.tuple [x,y]):=by
 have hl:(zipL xs ys).length=min xs.length ys.length:=by simp [zipL]
 have h1:k < xs.length:=by walk_at "o"
 have h2:k < ys.length:=by walk_at "o"
 exact (Ieeaa (xs[k]) (ys[k]) (List.getElem?_eq_getElem h1) (List.getElem?_eq_getElem h2) (by simp [zipL]))
theorem iter_zip {n1 n2:Str} {p1 p2 tp:Pos} {kk:Nat} (hA:A.handled=none) (hlen:xs.length=ys.length) (hn:∀ n∈[n1,n2],sc.names.lookup n=some .local∧sc0.names.lookup n=some .local) (hY:∀ a,Xe env sc0 a→Y a∨R.h.get? a=none) :
  IterOk C A R Y env sc0 sc (.Tuple [.Name n1 p1,.Name n2 p2] kk tp) (.ref q.z) (bindNames [n1,n2]) q.fp (JZip C R env q xs ys) where
 nxt:=fun {x rest b m σ G} hb j IV K S0 {Q E} hQ=>by
  refine Zeaaa j fun k e hk pv z21=>?_
  obtain ⟨⟨vs,ws,Z,V1,V2⟩,F1,F2,D⟩:=z21
  have hlt:k < (zipL xs ys).length:=by
   rcases Nat.lt_or_ge k (zipL xs ys).length with h | h
   ·exact h
   ·rw [List.drop_eq_nil_of_le h] at e;cases e
  rw [List.drop_eq_getElem_cons hlt] at e
  injection e with e1 e2
  refine Zeeaa (zipL_get hlt) fun x1 y1 hx1 hy1 hxy=>?_
  rw [hxy] at e1
  subst e1
  have hb':b=[(n2,.p y1),(n1,.p x1)]:=by
   simp only [bindNames] at hb
   rw [if_pos (by rfl)] at hb
   cases hb;rfl
  refine Zea (V1.get (i:=k) (x:=.p x1) (by rw [List.getElem?_map,hx1];rfl)) fun u1 hu1 VU1=>?_
  refine Zea (V2.get (i:=k) (x:=.p y1) (by rw [List.getElem?_map,hy1];rfl)) fun u2 hu2 VU2=>?_
  rw [Array.getElem?_toList] at hu1 hu2
  refine zipn_item D Z hu1 hu2 fun h' a1 a2 a3 a4 a5 a6 a7=>?_
  have W:∀ c,c∈[q.z,q.TO,q.i1,q.i2]→q.fp c:=fun c hc=>by
   simp only [List.mem_cons,List.not_mem_nil,or_false] at hc
   rcases hc with h | h | h | h
   ·exact .inl h
   ·exact .inr (.inr (.inl h))
   ·exact .inr (.inr (.inr (.inl h)))
   ·exact .inr (.inr (.inr (.inr h)))
  have nW:∀ c,c ∉ [q.z,q.TO,q.i1,q.i2]→c≠q.z∧c≠q.TO∧c≠q.i1∧c≠q.i2:=fun c hc=>by simpa using hc
  refine Za (side_ok (W:=[q.z,q.TO,q.i1,q.i2]) IV h' G.s.toks (fun b o hb e=>a7 b o (nW b hb).1 (nW b hb).2.1 (nW b hb).2.2.1 (nW b hb).2.2.2 e) fun c hc=>by
   refine ⟨(pv c (W c hc)).off,?_⟩
   simp only [List.mem_cons,List.not_mem_nil,or_false] at hc
   rcases hc with h | h | h | h
   ·rw [h];exact ⟨_,a1⟩
   ·rw [h];exact ⟨_,a3⟩
   ·rw [h];exact a4.there
   ·rw [h];exact a5.there) fun s1 I1=>?_
  have s1':Step C q.fp G ⟨{ G.s with heap:=h',toks:=G.s.toks },G.F,G.r,G.fs⟩:=s1.weaken fun a ha=>.inl (W a ha)
  have nF:∀ a,q.fp a→¬ G.F a:=fun a ha=>(pv a ha).off.f
  have K1:=K.stepX IV s1' nF (fun h=>(pv _ h).loc rfl) (fun y c hc h=>(pv _ h).cel y hc) fun a ha h=>(pv _ h).off.s ha
  have hoff:Off C G G.s.heap.objs.size:=Off.of_dead IV (sz_none (G:=G))
  have dT:G.h.get? G.s.heap.objs.size=none:=sz_none (G:=G)
  refine Za (freeze1 (a:=G.s.heap.objs.size) s1' I1 ⟨hoff.f,hoff.r,hoff.t,hoff.s⟩ dT ⟨_,a6⟩) fun s2 I2=>?_
  generalize hG1:(⟨{ G.s with heap:=h',toks:=G.s.toks },G.F,G.r,G.fs⟩:St)=G1 at s1' I1 K1 s2 I2
  have es:({ G.s with heap:=h' }:Shared)=(G1.fz1 G.s.heap.objs.size).s:=by rw [← hG1];rfl
  have hne:G.s.heap.objs.size≠env.locals:=fun h=>by
   refine Ze K.there fun o e=>?_
   rw [← h,dT] at e;cases e
  have K2:EnvOk C A (G1.fz1 G.s.heap.objs.size) env sc m:=K1.fz1 hne
  have eF:G1.F=G.F:=by rw [← hG1]
  have eh:G1.h=h':=by rw [← hG1]
  have VU1':=VR.step VU1 IV s2 nF
  have VU2':=VR.step VU2 IV s2 nF
  have VT:VR C (G1.fz1 G.s.heap.objs.size) (.ref G.s.heap.objs.size) (.p (.tuple [x1,y1])):=by
   refine Za VU1'.pr fun p1' c1'=>?_
   refine Za VU2'.pr fun p2' c2'=>?_
   refine .p (.tuple (.inr rfl) (by refine (?_:G1.h.get? _=_);rw [eh];exact a6) rfl rfl (.cons p1' (.cons p2' .nil))) ?_
   simp [PyData.canLay0,PyData.canLayAll0,c1',c2']
  have S2:Step C Y R (G1.fz1 G.s.heap.objs.size):=S0.trans s2 fun a ha=>.inr (pv a ha).dead
  have z2:IsZip (G1.fz1 G.s.heap.objs.size).s.heap q.z q.TI q.TO (rawInt G.s.heap.objs.size):=by refine (?_:G1.h.get? _=_);rw [eh];exact a1
  rw [es]
  refine wpAny_letOwnedTupleGo_zip z2 fun h3 z3 hs3=>?_
  have pvz:∀ p,q.fp p→Pv C R (G1.fz1 G.s.heap.objs.size) env p:=fun p hp=>(pv p hp).step s2
  refine Za (side_ok (W:=[q.z]) I2 h3 (G1.fz1 G.s.heap.objs.size).s.toks (fun b o hb e=>hs3.extBut b o (by simpa using hb) e) fun c hc=>by rw [List.mem_singleton.mp hc];exact (Iae ((pvz _ (.inl rfl)).off) _ z3)) fun s3 I3=>?_
  have s3':Step C q.fp (G1.fz1 G.s.heap.objs.size) _:=s3.weaken fun a ha=>.inl (by rw [List.mem_singleton.mp ha];exact .inl rfl)
  have nF2:∀ a,q.fp a→¬ (G1.fz1 G.s.heap.objs.size).F a:=fun a ha=>(pvz a ha).off.f
  have K3:=K2.stepX I2 s3' nF2 (fun h=>(pvz _ h).loc rfl) (fun y c hc h=>(pvz _ h).cel y hc) fun a ha h=>(pvz _ h).off.s ha
  have S3:=S2.trans s3' fun a ha=>.inr (pv a ha).dead
  have V1'':=(V1.step IV s2 nF).step I2 s3' nF2
  have V2'':=(V2.step IV s2 nF).step I2 s3' nF2
  have keep3:∀ {p o},p≠q.z→G1.h.get? p=some o→h3.get? p=some o:=fun hp e=>hs3.extBut _ _ hp e
  have j3:JZip C R env q xs ys rest ⟨{ (G1.fz1 G.s.heap.objs.size).s with heap:=h3,toks:=(G1.fz1 G.s.heap.objs.size).s.toks },(G1.fz1 G.s.heap.objs.size).F,(G1.fz1 G.s.heap.objs.size).r,(G1.fz1 G.s.heap.objs.size).fs⟩:=by
   refine (Ieaaa (k+1) e2 hlt (fun p hp=>(pvz p hp).step s3') ⟨(Ieeaa vs ws ⟨z3,keep3 D.TIz (by rw [eh];exact a2),(Iee u1 u2 (keep3 D.TOz (by rw [eh];exact a3))),?_,?_⟩ V1'' V2''),.inl (by rw [eF];exact F1),.inl (by rw [eF];exact F2),D⟩)
   ·exact a4.at (fun o e=>keep3 D.i1z (by rw [eh];exact e)) fun o e=>keep3 D.l1z (by rw [eh];exact e)
   ·exact a5.at (fun o e=>keep3 D.i2z (by rw [eh];exact e)) fun o e=>keep3 D.l2z (by rw [eh];exact e)
  refine tuple_ok (ns:=[n1,n2]) (poss:=[p1,p2]) hA hn rfl hY I3 K3 S3 (VT.step I2 s3' nF2) rfl fun G4 s4 S4 I4 K4=>?_
  have s23:=s2.trans s3' fun a ha=>.inl ha
  refine hQ G4 S4 ((s23.weaken (Y:=fun a=>q.fp a∨Xe env sc0 a) fun a ha=>.inl (.inl ha)).trans s4 fun a ha=>.inl (.inr (.inl ha))) I4 (by rw [hb'];exact K4) ?_
  refine jzip_keep j3 I3 s4 (fun a ha hp=>(pv a hp).loc ha) fun a ha=>by rw [ha];exact K3.off.2.2
 fin:=fun {σ G} j IV {Q E} hQ=>by
  refine Zeaaa j fun k e hk pv z20=>?_
  obtain ⟨⟨vs,ws,Z,V1,V2⟩,F1,F2,D⟩:=z20
  have hge:k=(zipL xs ys).length:=by
   have:=congrArg List.length e
   simp at this;omega
  have hl:(zipL xs ys).length=xs.length:=by simp [zipL];omega
  have hv:=V1.length
  simp only [Array.length_toList,List.length_map] at hv
  exact zipn_end hA D Z (by rw [Array.getElem?_eq_none_iff];omega) fun h' hk'=>hQ h' G.s.toks fun b o hb eb=>hk' b o (fun h=>hb (.inl h)) (fun h=>hb (.inr (.inr (.inl h)))) (fun h=>hb (.inr (.inr (.inr (.inl h))))) (fun h=>hb (.inr (.inr (.inr (.inr h))))) eb
 keep:=fun {xs G G' σ X} j IV b h1 h2=>jzip_keep j IV b h1 h2
 pv:=fun {xs G p} j hp=>by refine Zeaaa j fun _ _ _ pv _=>?_;exact pv p hp
theorem zap (N x1 x2:Nat) (h1:x1 < N) (h2:x2 < N):ZipApart (N+4) (N+2) (N+3) N (N+1) x1 x2:=by
 constructor<;>(show (_:Nat)≠(_:Nat))<;>omega
inductive ZArg:AV→AV→List PyData→List PyData→Prop
 | t {xs ys:List PyData}:ZArg (.p (.tuple xs)) (.p (.tuple ys)) xs ys
 | l {xs ys:List PyData}:ZArg (.p (.list xs)) (.p (.list ys)) xs ys
theorem zip_made {us:List Value} (I:Inv C G σ) (VS:VRs C G us [a1,a2]) (hz:ZArg a1 a2 xs ys) {Q:Value→Shared→Prop} {E}
  (hQ:∀ (q:ZAd) G',Step C (fun _=>False) G G'→Inv C G' σ→(∀ p,q.fp p→Off C G' p∧G.h.get? p=none∧∃ o,G'.h.get? p=some o)→ZB C G' q xs ys 0→Q (.ref q.z) G'.s):W C A (PySem.call (.type "zip") us) Q E G.s:=by
 apply RLeeaa2 (vrs2 VS)
 intro u1 u2 V1 V2
 have fin:∀ (x1 x2:Addr) (vs ws:Array Value) (h':Heap),G.F x1→G.F x2→VRs C G vs.toList (xs.map .p)→VRs C G ws.toList (ys.map .p)→IsZip h' (G.s.heap.objs.size+4) (G.s.heap.objs.size+2) (G.s.heap.objs.size+3) .none→IsPair h' (G.s.heap.objs.size+2) (.ref G.s.heap.objs.size) (.ref (G.s.heap.objs.size+1)) →
   IsPair h' (G.s.heap.objs.size+3) .none .none→SIt h' G.s.heap.objs.size x1 0 vs→SIt h' (G.s.heap.objs.size+1) x2 0 ws→(∀ c o,G.s.heap.get? c=some o→h'.get? c=some o)→Q (.ref (G.s.heap.objs.size+4)) { G.s with heap:=h' }:=by
  intro x1 x2 vs ws h' f1 f2 v1 v2 b1 b2 b3 b4 b5 hk
  refine Za (grow_ok (tk:=G.s.toks) I hk) fun s1 I1=>?_
  have dead:∀ k,G.h.get? (G.s.heap.objs.size+k)=none:=fun k=>dead_ge (Nat.le_add_right _ _)
  have off:∀ k,Off C (G.at h' G.s.toks) (G.s.heap.objs.size+k):=fun k=>let o:=Off.of_dead I (dead k);⟨o.f,o.r,o.t,o.s⟩
  have lt:∀ x,G.F x→x < G.s.heap.objs.size:=fun x hx=>by refine Za (I.fz x hx) fun z18 _=>?_;refine Ze z18 fun o e=>?_;exact Heap.lt_size e
  have l1:=lt x1 f1
  have l2:=lt x2 f2
  have nF:∀ a,(fun _=>False) a→¬ G.F a:=fun _ h=>h.elim
  refine hQ ⟨G.s.heap.objs.size+4,G.s.heap.objs.size+2,G.s.heap.objs.size+3,G.s.heap.objs.size,G.s.heap.objs.size+1,x1,x2⟩ (G.at h' G.s.toks) s1 I1 (fun p hp=>?_) ⟨(Ieeaa vs ws ⟨b1,b2,(Iee _ _ b3),b4,b5⟩ (v1.step I s1 nF) (v2.step I s1 nF)),f1,f2,?_⟩
  ·have h0:=dead 0
   have o0:=off 0
   rw [Nat.add_zero] at h0 o0
   rcases hp with h | h | h | h | h
   ·rw [h];exact (Iaae (off 4) (dead 4) _ b1)
   ·rw [h];exact (Iaae (off 2) (dead 2) _ b2)
   ·rw [h];exact (Iaae (off 3) (dead 3) _ b3)
   ·rw [h];exact (Iaa o0 h0 b4.there)
   ·rw [h];exact (Iaa (off 1) (dead 1) b5.there)
  ·exact zap _ _ _ l1 l2
 cases hz with
 | t=>
  refine Zeeeeaaaaaa V1.tup_shape fun x1 z16 vs n1 z17 f1 e1 c1 d1 r1 k1=>?_
  obtain ⟨oc,od,oda,osl⟩:=z16
  obtain rfl:=z17
  refine Zeeeeaaaaaa V2.tup_shape fun x2 z14 ws n2 z15 f2 e2 c2 d2 r2 k2=>?_
  obtain ⟨oc2,od2,oda2,osl2⟩:=z14
  obtain rfl:=z15
  exact call_zip_tt (Ieaae _ e1 c1 n1 d1) (Ieaae _ e2 c2 n2 d2) fun h' b1 b2 b3 b4 b5 hk=>fin x1 x2 vs ws h' f1 f2 (r1.vrs k1) (r2.vrs k2) b1 b2 b3 (.inr ⟨b4,(Ieaae _ (hk _ _ e1) c1 n1 d1)⟩) (.inr ⟨b5,(Ieaae _ (hk _ _ e2) c2 n2 d2)⟩) hk
 | l=>
  refine Zeeeeaaaaaa V1.list_shape fun x1 z12 vs n1 z13 f1 e1 c1 d1 r1 k1=>?_
  obtain ⟨oc,od,oda,osl⟩:=z12
  obtain rfl:=z13
  refine Zeeeeaaaaaa V2.list_shape fun x2 z10 ws n2 z11 f2 e2 c2 d2 r2 k2=>?_
  obtain ⟨oc2,od2,oda2,osl2⟩:=z10
  obtain rfl:=z11
  exact call_zip_2 (Ieaae _ e1 c1.1 n1 d1) (Ieaae _ e2 c2.1 n2 d2) fun h' b1 b2 b3 b4 b5 _ hk=>fin x1 x2 vs ws h' f1 f2 (r1.vrs k1) (r2.vrs k2) b1 b2 b3 (.inl ⟨b4,(Ieaae _ (hk _ _ e1) c1.1 n1 d1)⟩) (.inl ⟨b5,(Ieaae _ (hk _ _ e2) c2.1 n2 d2)⟩) hk
theorem MkIt.zip {n1 n2:Str} {p1 p2 tp zp pos:Pos} {kk:Nat} {e1 e2:Expr} (ok:C.Ok) (hm:C.mg "zip"=none) (hb:bootBuiltins "zip"=some (.type "zip")) (hk:sc.names.lookup ("zip":Str)=some .globalImplicit) (hs:noStars [e1,e2]=true) (h:EvL C D sc m σ [e1,e2] [a1,a2] σ') (hz:ZArg a1 a2 xs ys) (hlen:xs.length=ys.length) :
  MkIt C D sc m σ (.Call (.Name "zip" zp) [e1,e2] [] pos) (.Tuple [.Name n1 p1,.Name n2 p2] kk tp) (bindNames [n1,n2]) (zipL xs ys) [n1,n2] σ':=fun A G env hA I K Q E hQ=>by
 rw [eval_Call_Name]
 have hn':=(EvE.builtin (C:=C) (D:=D) (sc:=sc) (m:=m) (σ:=σ) (pos:=zp) ok hm hb (by decide +kernel) hk (by rfl)) A G env hA I K
 refine wpAny_bind (hn' _ _ fun u G1 s1 I1 V1=>?_)
 refine V1.val_elim ?_
 have K1:=K.step I s1
 refine args_ok hs h hA I1 K1 (fun _ _ _=>keeps1_nonRef rfl) fun us G2 s2 I2 K2 VS=>?_
 refine zip_made I2 VS hz fun q G3 s3 I3 hfp z=>?_
 refine hQ (.ref q.z) G2 G3 (s1.trr I s2) I2 fun Q2 E2 k=>?_
 obtain ⟨⟨vs,ws,Z,_⟩,_⟩:=id z
 refine wpAny_pyIter_zip Z.z ?_
 refine k q.z q.fp (fun ce rest G=>JZip C G2 ce q xs ys rest G) G3 s3 I3 ⟨hfp,fun G4 ce s4 hce=>?_,fun ce sc0 sc' Y hn hY _=>iter_zip hA.1 hlen hn hY,fun ce rest G j Q E h=>?_⟩
 ·have j:JZip C G2 ce q xs ys (zipL xs ys) G3:=(Ieaaa 0 rfl (Nat.zero_le _) (fun p hp=>⟨(hfp p hp).1,(hce p hp).1,(hce p hp).2,(hfp p hp).2.1,(hfp p hp).2.2⟩) z)
  exact jzip_keep j I3 s4 (fun _ h=>h.elim) fun _ h=>h.elim
 ·refine Zeaaa j fun _ _ _ _ z9=>?_
  obtain ⟨⟨vs,ws,Z,_⟩,_⟩:=z9
  exact wpAny_pyIter_zip Z.z h
end

theorem list_no_keys:typeLookup (.type "list") "keys"=pure none:=by rw [typeLookup_type,builtinLookup_eq_fast];kernel_rfl
theorem zip_no_keys:typeLookup (.type "zip") "keys"=pure none:=by rw [typeLookup_type,builtinLookup_eq_fast];kernel_rfl
theorem zip_no_getattr:typeLookup (.type "zip") "__getattr__"=pure none:=by rw [typeLookup_type,builtinLookup_eq_fast];kernel_rfl
theorem zip_entry_getattribute:entryFor table "zip.__getattribute__"=some Builtin.«object.__getattribute__»:=
 entryFor_alias (id':="object.__getattribute__") (by kernel_rfl) (by decide +kernel) (by decide +kernel) (by kernel_rfl)
section
variable {prog:Program} {w:World} {E:Value→Shared→Prop} {s:Shared}
theorem zip_miss (a:Addr) (vs:Array Value) (sl:Array (Option Value)) (u:Tok) :
  Meets (Builtin.«object.__getattribute__» ⟨[.ref a,.str "keys" u],[]⟩) (fun A R s=>s.heap.get? a=some { cls:=.type "zip",dict:=none,data:=.fields vs,slots:=sl }∧raisesAttr (.ref a) "keys" A R s):=
 Meets.of_wp fun prog w A R s hs=>by
  obtain ⟨hp,g,d,tk,os⟩:=s
  refine Za hs fun hx hs=>?_
  have hT:(⟨hp,g,d,tk,os⟩:Shared).TypeIs (.ref a) "zip":=(Iea _ hx rfl)
  have f1:=zip_no_keys
  have hname:(["__module__","__name__","__qualname__","__doc__","__annotations__"]:List Str).contains "keys"=false:=by decide +kernel
  unfold Builtin.«object.__getattribute__»
  repeat (any_goals (first | assumption | wp_step))
  exact wpAny_raiseAttrError hs.1 hs.2 (attrMsg_fits (by decide +kernel) (by decide +kernel))
theorem noKeys_list {a:Addr} {o:Obj} {xs:Array Value} {k:Nat} {Q:Option Value→Shared→Prop} (hx:s.heap.get? a=some o) (hc:o.cls=.type "list") (hdat:o.data=.seq xs k) (hd:o.dict=none) (hA:A.handled=none)
  (h:∀ h' tk,(∀ b ob,s.heap.get? b=some ob→h'.get? b=some ob)→Q none { s with heap:=h',toks:=tk }):wpAny (model prog w) A (getAttr? (.ref a) "keys") Q E s:=by
 obtain ⟨c,dct,dat,sl⟩:=o
 simp only at hc hdat hd
 subst hc hdat hd
 obtain ⟨hp,g,d,tk,os⟩:=s
 have hT:∀ tk',(⟨hp,g,d,tk',os⟩:Shared).TypeIs (.ref a) "list":=fun _=>(Iea _ hx rfl)
 have f1:=sub_AttributeError
 have f3:=F.slot_list_getattribute.lookup
 have f4:=F.slot_list_getattribute.bind (.ref a)
 have f5:=am_list_getattr_none
 have hname:(["__module__","__name__","__qualname__","__doc__","__annotations__"]:List Str).contains "keys"=false:=by decide +kernel
 unfold getAttr? getAttrBy? getAttrBy
 repeat (any_goals (first | assumption | exact hT _ | ((with_reducible show wpAny _ _ (call (Value.builtin "list.__getattribute__") _ _) _ _ _);refine call_meets F.slot_list_getattribute (hT _) am_entry_list_getattribute (F.args_list_getattribute_2 _ _) (meets_getattribute_miss_list a xs k sl "keys" _ list_no_keys hname (by decide +kernel)) (Iaa hx hA (fun h' tk' e hx'=>?_))) | wp_step))
 refine Zee hx'.there fun t' u' he=>?_
 refine (?_:wpAny _ _ (getattributeRaised _ _ _ _ _ _ _) _ _ _)
 unfold getattributeRaised
 repeat (any_goals (first | assumption | wp_step))
 exact h _ _ hx'.keeps
theorem noKeys_zip {z:Addr} {vs:Array Value} {sl:Array (Option Value)} {Q:Option Value→Shared→Prop} (hx:s.heap.get? z=some { cls:=.type "zip",dict:=none,data:=.fields vs,slots:=sl }) (hA:A.handled=none)
  (h:∀ h' tk,(∀ b ob,s.heap.get? b=some ob→h'.get? b=some ob)→Q none { s with heap:=h',toks:=tk }):wpAny (model prog w) A (getAttr? (.ref z) "keys") Q E s:=by
 obtain ⟨hp,g,d,tk,os⟩:=s
 have hT:∀ tk',(⟨hp,g,d,tk',os⟩:Shared).TypeIs (.ref z) "zip":=fun _=>(Iea _ hx rfl)
 have f1:=sub_AttributeError
 have f3:=F.slot_zip_getattribute.lookup
 have f4:=F.slot_zip_getattribute.bind (.ref z)
 have f5:=zip_no_getattr
 unfold getAttr? getAttrBy? getAttrBy
 repeat (any_goals (first | assumption | exact hT _ | ((with_reducible show wpAny _ _ (call (Value.builtin "zip.__getattribute__") _ _) _ _ _);refine call_meets F.slot_zip_getattribute (hT _) zip_entry_getattribute (F.args_zip_getattribute_2 _ _) (zip_miss z vs sl _) (Iaa hx hA (fun h' tk' e hx'=>?_))) | wp_step))
 refine Zee hx'.there fun t' u' he=>?_
 refine (?_:wpAny _ _ (getattributeRaised _ _ _ _ _ _ _) _ _ _)
 unfold getattributeRaised
 repeat (any_goals (first | assumption | wp_step))
 exact h _ _ hx'.keeps
end
end
noncomputable abbrev IsZipB (h:Heap) (z TI TO T:Addr) (b:Bool):Prop:=
 h.get? z=some { cls:=.type "zip",dict:=none,data:=.fields #[rawInt T,.bool b,.bool false,.ref TI,.ref TO],slots:=#[] }
structure ZStB (h:Heap) (z TI TO i1 i2 l1 l2 T:Addr) (b:Bool) (k:Nat) (xs ys:Array Value):Prop where
 zz:IsZipB h z TI TO T b
 ti:IsPair h TI (.ref i1) (.ref i2)
 t:T≠z∧T≠i1∧T≠i2∧∃ o,h.get? T=some o
 s1:SIt h i1 l1 k xs
 s2:SIt h i2 l2 k ys
section
variable {C:Cx} {D n:Nat} {sc sc0 scope:Scope} {m m' mB mC:Mp} {σ σ' σ'' σ1 σ2 σ3:Sto} {v:AV} {o:Out} {A A2:Around} {G G' G'' R:St} {env:Env} {c e T:Addr} {X Y Z:Addr→Prop}
section
variable {prog:Program} {w:World} {E:Value→Shared→Prop} {s:Shared}
theorem wpAny_loadIfAlive {a:Addr} {Q:Option Obj→Shared→Prop} (h:Q (s.heap.get? a) s):wpAny (model prog w) A (loadIfAlive a) Q E s:=fun Γ p hΓ=>by
 unfold loadIfAlive
 rw [Sem.wp_loadIfAlive]
 exact wpAny_pure h Γ p hΓ
theorem busy_ok {z TI TO T:Addr} {b:Bool} {Q:Bool→Shared→Prop} (hz:IsZipB s.heap z TI TO T b) (hT:∃ o,s.heap.get? T=some o)
  (h:∀ h',IsZipB h' z TI TO T true→Heap.SameBut z s.heap h'→Q false { s with heap:=h' }):wpAny (model prog w) A (Builtin.SmallTypes.ownedTupleIsFree (.ref z)) Q E s:=by
 refine Ze hT fun o ho=>?_
 unfold Builtin.SmallTypes.ownedTupleIsFree
 refine wpAny_bind (wpAny_field hz rfl (x:=rawInt T) rfl ?_)
 refine (?_:wpAny _ _ (loadIfAlive (Int.toNat (Int.ofNat T)) >>= _) _ _ _)
 refine wpAny_bind (wpAny_loadIfAlive ?_)
 rw [show Int.toNat (Int.ofNat T)=T from rfl,ho]
 simp only [Option.isNone_some,Bool.false_eq_true,if_false]
 refine wpAny_bind (wpAny_field hz rfl (x:=.bool b) rfl ?_)
 cases b with
 | true=>
  refine (?_:wpAny _ _ (pure false) _ _ _)
  exact wpAny_pure (h s.heap hz ⟨rfl,fun _ _=>rfl⟩)
 | false=>
  refine (?_:wpAny _ _ (setField (.ref z) 1 (.bool true) >>= _) _ _ _)
  exact wpAny_bind (wpAny_setField_rec hz (by simp) fun h₁ hz₁ hs₁=>wpAny_pure (h h₁ hz₁ hs₁))
theorem zipb_item {z TI TO i1 i2 l1 l2 T:Addr} {b:Bool} {k:Nat} {xs ys:Array Value} {x y:Value} {Q:Option Value→Shared→Prop} (D:ZipApart z TI TO i1 i2 l1 l2) (Z:ZStB s.heap z TI TO i1 i2 l1 l2 T b k xs ys) (hx:xs[k]?=some x) (hy:ys[k]?=some y)
  (hQ:∀ h',ZStB h' z TI TO i1 i2 l1 l2 T true (k+1) xs ys→IsPair h' s.heap.objs.size x y →
   (∀ c o,c≠z→c≠i1→c≠i2→s.heap.get? c=some o→h'.get? c=some o)→Q (some (.ref s.heap.objs.size)) { s with heap:=h' }):wpAny (model prog w) A (pyNext (.ref z)) Q E s:=by
 obtain ⟨hz,hTI,hTo,h1,h2⟩:=Z
 have hT:s.TypeIs (.ref z) "zip":=(Iea _ hz rfl)
 unfold pyNext
 refine wpAny_bind (wpAny_attempt (wpAny_callSpecial?_slot (name:=Str.ofString "__next__") hT F.slot_zip_next
  (wpAny_call_entry F.slot_zip_next hT F.entry_zip_next (Q:=fun v s'=>wpAny (model prog w) A (pure (some v)) Q E s') ?_ (F.args_zip_next_1 _))))
 refine (?_:wpAny _ _ (field (.ref z) 2 >>= _) _ _ _)
 refine wpAny_bind (wpAny_field hz rfl (x:=.bool false) rfl ?_)
 refine (?_:wpAny _ _ (field (.ref z) 3 >>= _) _ _ _)
 refine wpAny_bind (wpAny_field hz rfl (x:=.ref TI) rfl ?_)
 refine wpAny_bind (wpAny_seqItems hTI rfl ?_)
 refine (?_:wpAny _ _ (Builtin.SmallTypes.ownedTupleIsFree (.ref z) >>= _) _ _ _)
 refine wpAny_bind (busy_ok hz hTo.2.2.2 fun h₁ hz₁ hs₁=>?_)
 simp only [Bool.false_eq_true,if_false]
 simp only [List.forIn_toArray,List.forIn_cons,List.forIn_nil]
 refine wpAny_bind ?_
 refine wpAny_bind (wpAny_bind (wpAny_holding ?_))
 refine (?_:wpAny _ _ (Builtin.SmallTypes.nextOf (.ref i1) >>= _) _ _ _)
 refine wpAny_bind (sit_item (h1.ext hs₁.extBut D.i1z D.l1z) D.l1i1 hx fun h₂ h1₂ hs₂=>wpAny_pure ?_)
 refine wpAny_pure ?_
 refine wpAny_bind (wpAny_bind (wpAny_holding ?_))
 refine (?_:wpAny _ _ (Builtin.SmallTypes.nextOf (.ref i2) >>= _) _ _ _)
 refine wpAny_bind (sit_item ((h2.ext hs₁.extBut D.i2z D.l2z).ext hs₂.extBut D.i12.symm D.l2i1) D.l2i2 hy fun h₃ h2₃ hs₃=>wpAny_pure ?_)
 refine wpAny_pure (wpAny_pure ?_)
 refine (?_:wpAny _ _ (newTuple [x,y] >>= _) _ _ _)
 refine wpAny_bind (wpAny_newTuple ?_)
 have hsz:h₃.objs.size=s.heap.objs.size:=by rw [hs₃.1,hs₂.1,hs₁.1]
 have hk:∀ c o,c≠z→c≠i1→c≠i2→s.heap.get? c=some o→h₃.get? c=some o:=fun c o c1 c2 c3 e=>hs₃.extBut _ _ c3 (hs₂.extBut _ _ c2 (hs₁.extBut _ _ c1 e))
 have pu:∀ c o,h₃.get? c=some o→(h₃.push { cls:=.type "tuple",data:=.seq #[x,y] }).get? c=some o:=fun c o e=>Heap.get?_push_of_some _ e
 refine wpAny_pure (Iea _ rfl (wpAny_pure ?_))
 refine (?_:Q (some (.ref h₃.objs.size)) _)
 rw [hsz]
 refine Zaaae hTo fun t1 t2 t3 oT eT=>?_
 refine hQ _ ⟨pu _ _ (hs₃.extBut _ _ D.i2z.symm (hs₂.extBut _ _ D.i1z.symm hz₁)),pu _ _ (hk _ _ D.TIz D.TIi1 D.TIi2 hTI),?_,?_,?_⟩ ?_ fun c o c1 c2 c3 e=>pu _ _ (hk c o c1 c2 c3 e)
 ·exact (Iaaae t1 t2 t3 oT (pu _ _ (hk _ _ t1 t2 t3 eT)))
 ·exact (h1₂.ext hs₃.extBut D.i12 D.l1i2).at (fun o e=>pu _ o e) fun o e=>pu _ o e
 ·exact h2₃.at (fun o e=>pu _ o e) fun o e=>pu _ o e
 ·rw [← hsz];exact Heap.get?_push_size _ rfl
theorem zipb_end {z TI TO i1 i2 l1 l2 T:Addr} {b:Bool} {k:Nat} {xs ys:Array Value} {Q:Option Value→Shared→Prop} (hh:A.handled=none) (D:ZipApart z TI TO i1 i2 l1 l2) (Z:ZStB s.heap z TI TO i1 i2 l1 l2 T b k xs ys) (hx:xs[k]?=none)
  (hQ:∀ h',(∀ c o,c≠z→c≠i1→c≠i2→s.heap.get? c=some o→h'.get? c=some o)→Q none { s with heap:=h' }):wpAny (model prog w) A (pyNext (.ref z)) Q E s:=by
 obtain ⟨hz,hTI,hTo,h1,h2⟩:=Z
 have hT:s.TypeIs (.ref z) "zip":=(Iea _ hz rfl)
 have body:wpAny (model prog w) A.in1 (Builtin.«zip.__next__» ⟨[.ref z],[]⟩) (fun fin s'=>False) (fun e s'=>(∃ o,s'.heap.get? (match e with | .ref a=>a | _=>0)=some o∧o.cls=.type "StopIteration")∧(∃ a,e=.ref a)∧Q none s') s:=?_
 ·unfold pyNext
  refine wpAny_bind (wpAny_attempt (wpAny_callSpecial?_slot (name:=Str.ofString "__next__") hT F.slot_zip_next
   (wpAny_call_entry F.slot_zip_next hT F.entry_zip_next (wpAny_mono body (fun _ _ h=>h.elim) fun e s' h=>?_) (F.args_zip_next_1 _))))
  refine Zaa h fun z150 z151 q=>?_
  refine Zea z150 fun o ho hc=>?_
  refine Ze z151 fun x z202=>?_
  obtain rfl:=z202
  refine wpAny_bind (wpAny_isInstance (T:="StopIteration") (b:=true) (Iea o ho hc) isSubtype_stop ?_)
  exact wpAny_pure q
 ·refine (?_:wpAny _ _ (field (.ref z) 2 >>= _) _ _ _)
  refine wpAny_bind (wpAny_field hz rfl (x:=.bool false) rfl ?_)
  refine (?_:wpAny _ _ (field (.ref z) 3 >>= _) _ _ _)
  refine wpAny_bind (wpAny_field hz rfl (x:=.ref TI) rfl ?_)
  refine wpAny_bind (wpAny_seqItems hTI rfl ?_)
  refine (?_:wpAny _ _ (Builtin.SmallTypes.ownedTupleIsFree (.ref z) >>= _) _ _ _)
  refine wpAny_bind (busy_ok hz hTo.2.2.2 fun h₁ hz₁ hs₁=>?_)
  simp only [Bool.false_eq_true,if_false]
  simp only [List.forIn_toArray,List.forIn_cons,List.forIn_nil]
  refine wpAny_bind ?_
  refine wpAny_bind (wpAny_bind (wpAny_holding ?_))
  refine (?_:wpAny _ _ (Builtin.SmallTypes.nextOf (.ref i1) >>= _) _ _ _)
  refine wpAny_bind (sit_end hh (h1.ext hs₁.extBut D.i1z D.l1z) hx fun h₂ e hs₂ he=>?_)
  refine Zea he fun oe hoe hce=>?_
  exact (Iaa (Iea oe hoe hce) ⟨_,rfl⟩ (hQ _ fun c o c1 c2 c3 x=>hs₂ _ _ c2 (hs₁.extBut _ _ c1 x)))
end
end
noncomputable abbrev pairAV (p:Str × PyData):AV:=.p (.tuple [.str p.1,p.2])
noncomputable def putAll:List (Str × PyData)→Mp→Mp
 | [],acc=>acc
 | (k,v)::r,acc=>putAll r ((k,.p v)::acc)
structure DB (C:Cx) (G:St) (d:Addr) (acc:Mp):Prop where
 off:Off C G d
 tr:TrO C G d (.dct acc)
structure PairIt (C:Cx) (it:Addr) (fp:Addr→Prop) (J:List (Str × PyData)→St→Prop):Prop where
 nxt:∀ {A:Around} {k v rest σ G},A.handled=none→J ((k,v)::rest) G→Inv C G σ→∀ (Q:Option Value→Shared→Prop) E,(∀ u G',Step C fp G G'→Inv C G' σ→J rest G'→VR C G' u (pairAV (k,v))→Q (some u) G'.s)→W C A (pyNext (.ref it)) Q E G.s
 fin:∀ {A:Around} {σ G},A.handled=none→J [] G→Inv C G σ→∀ (Q:Option Value→Shared→Prop) E,(∀ h' tk,(∀ b ob,¬ fp b→G.h.get? b=some ob→h'.get? b=some ob)→Q none { G.s with heap:=h',toks:=tk })→W C A (pyNext (.ref it)) Q E G.s
 keep:∀ {rest σ G G'} {X:Addr→Prop},J rest G→Inv C G σ→Step C X G G'→(∀ a,X a→¬ fp a)→(∀ a,X a→¬ G.F a)→J rest G'
 off:∀ {rest G},J rest G→∀ p,fp p→Off C G p
section
variable {C:Cx} {D n:Nat} {sc sc0 scope:Scope} {m m' mB mC:Mp} {σ σ' σ'' σ1 σ2 σ3:Sto} {v:AV} {o:Out} {A A2:Around} {G G' G'' R:St} {env:Env} {c e T:Addr} {X Y Z:Addr→Prop}
section
variable {acc:Mp} {v' fv fv' a1 a2:AV} {G1 G2:St} {P f it d:Addr} {ex iter target elt:Expr} {x:Str} {fp:Addr→Prop} {J:List (Str × PyData)→St→Prop}
theorem dul_entry:entryFor table "dict.update.loop"=some Builtin.«dict.update.loop»:=entryFor_of_tree (by kernel_rfl)
theorem DB.keep (b:DB C G d acc) (I:Inv C G σ) (s:Step C X G G') (h1:¬ X d) (h2:∀ a,X a→¬ G.F a):DB C G' d acc:=
 ⟨b.off.step b.tr.there s,b.tr.step I s h2 fun oo e=>s.keep d oo e h1 b.off.t b.off.s⟩
theorem DB.at {h':Heap} {tk:Nat} (b:DB C G d acc) (hF:∀ b,fp b→¬ G.F b) (hdf:¬ fp d) (hk:∀ b ob,¬ fp b→G.h.get? b=some ob→h'.get? b=some ob):DB C (G.at h' tk) d acc:=
 ⟨⟨b.off.f,b.off.r,b.off.t,b.off.s⟩,TrO.mono (G:=G) (G':=G.at h' tk) (fun _ h=>h) (fun a ob hf e=>hk a ob (fun q=>hF a q hf) e) (fun _ _ h=>h) (fun ob e=>hk d ob hdf e) b.tr⟩
theorem DB.stand (b:DB C G d acc) (S:Step C Y R G) (I:Inv C G σ) (hd:R.h.get? d=none):Step C Y R (G.fz1 d)∧Inv C (G.fz1 d) σ∧VR C (G.fz1 d) (.ref d) (.dct acc):=by
 refine Za (freeze1 S I b.off hd b.tr.there) fun s1 I1=>?_
 refine Zeeeeaaaaaa (dct_of_tr b.tr) fun o es k g h1 h2 h3 h4 h5 h6 h7=>?_
 exact (Iaa s1 I1 (.dct g (.inr rfl) h1 h2 h3 h4 (fun y x hx=>(h5 y x hx).1) (fun y x hx=>VR.mono (G:=G) (G':=G.fz1 d) (fun _ h=>.inl h) (fun _ _ _ e=>e) (fun _ _ h=>h) (h5 y x hx).2) h6 h7))
theorem DB.put {k:Str} {t:Tok} {u:Value} {Q:Unit→Shared→Prop} {E} (b:DB C G d acc) (I:Inv C G σ) (V:VR C G u v) (hz:acc.length≤sizeLine)
  (hQ:∀ G',Step C (·=d) G G'→Inv C G' σ→DB C G' d ((k,v)::acc)→Q () G'.s):W C A (dictSet d (.str k t) u) Q E G.s:=by
 refine Zeeeaaaeaaa b.tr fun o3 es3 n3 g1 g2 g3 kvs g4 g5 g6 hs=>?_
 have hm:G.h.DictOf (strKind C.prog C.w) d kvs:=(Ieeeaaa o3 es3 n3 g1 g2 g3 g4)
 refine wpAny_dictSet_pairs (strKind_self k t) hm (fun h' hd' hs'=>?_) (by walk_at "o")
 have hk:∀ b ob,b≠d→G.h.get? b=some ob→h'.get? b=some ob:=fun b ob hb e=>hs'.extBut b ob hb e
 refine Zeeea (id hd') fun o' es' n' e' _=>?_
 refine Za (side_ok (W:=[d]) I h' (G.s.toks+1) (fun c ob hc e=>hk c ob (by simpa using hc) e) fun c hc=>by rw [List.mem_singleton.mp hc];exact (Iae b.off o' e')) fun s4 I4=>?_
 refine hQ (G.at h' (G.s.toks+1)) (s4.weaken fun a ha=>.inl (List.mem_singleton.mp ha)) I4 ⟨⟨b.off.f,b.off.r,b.off.t,b.off.s⟩,dct_put g5 g6 V b.off.f hd' hk hs⟩
theorem dict_loop (S:PairIt C it fp J) (hR:∀ p,fp p→R.h.get? p=none) (hd:R.h.get? d=none) (hdf:¬ fp d) (hA:A.handled=none):∀ (rest:List (Str × PyData)) (acc:Mp) (i:Int) (G:St),Inv C G σ→DB C G d acc→J rest G→Step C Y R G→acc.length+rest.length≤sizeLine →
  ∀ (Q:Value→Shared→Prop) E,(∀ G',Step C Y R G'→Inv C G' σ→VR C G' (.ref d) (.dct (putAll rest acc))→Q .none G'.s)→codeAny (model C.prog C.w) A (.builtin "dict.update.loop" ⟨[.ref d,.ref it,.int i 0,.none],[]⟩) (wants Q E) G.s:=by
 intro rest
 induction rest with
 | nil=>
  intro acc i G I db j S0 hz Q E hQ
  refine codeAny_builtin dul_entry ?_
  refine wpAny_bind (S.fin (A:=A.under (.builtin "dict.update.loop" ⟨[.ref d,.ref it,.int i 0,.none],[]⟩)) hA j I _ _ fun h' tk hk=>?_)
  refine wpAny_bind (wpAny_pure (wpAny_pure ?_))
  refine Za (side_ref0 (tk:=tk) S0 I (fun b hb=>⟨S.off j b hb,hR b hb⟩) hk) fun S1 I1=>?_
  refine Zaa ((db.at (fun b hb=>(S.off j b hb).f) hdf hk).stand S1 I1 hd) fun S2 I2 V2=>?_
  exact hQ ((G.at h' tk).fz1 d) S2 I2 V2
 | cons p rest ih=>
  intro acc i G I db j S0 hz Q E hQ
  cases p with | mk k v=>?_
  refine codeAny_builtin dul_entry ?_
  refine wpAny_bind (S.nxt (A:=A.under (.builtin "dict.update.loop" ⟨[.ref d,.ref it,.int i 0,.none],[]⟩)) hA j I _ _ fun u G1 s1 I1 j1 V1=>?_)
  have S1:Step C Y R G1:=S0.trans s1 fun a ha=>.inr (hR a ha)
  have db1:=db.keep I s1 hdf fun a ha=>(S.off j a ha).f
  apply RLeeeeaaaaaa4 V1.tup_shape
  intro x o vs m f1 ex c1 d1 r1 cl
  cases vs with | mk vs=>?_
  refine Zeeaa (vrs2 (C:=C) (us:=vs) (PRs.vrs (xs:=[.str k,v]) r1 cl)) fun x1 x2 e V2 V3=>?_
  subst e
  refine Za V2.str_shape fun z7 _=>?_
  refine Ze z7 fun t z42=>?_
  obtain rfl:=z42
  refine wpAny_bind (wpAny_holding ?_)
  refine wpAny_bind (wpAny_tryCatch ?_)
  have hT:G1.s.TypeIs (.ref x) "tuple":=(Iea o ex c1)
  unfold Builtin.Dict.pairItems
  refine wpAny_bind (wpAny_typeOf hT ?_)
  rw [if_pos (by decide +kernel)]
  refine wpAny_bind (wpAny_seqItems ex d1 (wpAny_pure ?_))
  refine (?_:wpAny _ _ (holding [.str k t,x2] (dictSet d (.str k t) x2)) _ _ _)
  refine wpAny_holding (db1.put I1 V3 (by simp at hz;omega) fun G4 s4 I4 db4=>?_)
  have S4:=S1.trans s4 fun a ha=>by rw [ha];exact .inr hd
  have j4:=S.keep j1 I1 s4 (fun a ha hp=>hdf (ha▸hp)) fun a ha=>ha▸db1.off.f
  refine wpAny_pure ⟨Code.quiet_builtin _ (by decide +kernel),?_⟩
  exact ih ((k,.p v)::acc) (i+1) G4 I4 db4 j4 S4 (by simp at hz ⊢;omega) Q E hQ
end

section
variable {acc:Mp} {v' fv fv' a1 a2:AV} {G1 G2:St} {P f it d u:Addr} {ex iter target elt:Expr} {x:Str} {fp:Addr→Prop} {J:List (Str × PyData)→St→Prop} {l:List (Str × PyData)}
noncomputable def SrcD (C:Cx) (R G:St) (σ:Sto) (u:Addr) (T:String) (l:List (Str × PyData)):Prop:=∀ (A:Around) G1,A.handled=none→Step C (fun _=>False) G G1→Inv C G1 σ→G1.s.TypeIs (.ref u) T ∧
 ∀ (Q:Option Value→Shared→Prop) E,(∀ G2,Step C (fun _=>False) G1 G2→Inv C G2 σ→(∀ (Q:Value→Shared→Prop) E,(∀ it fp J G3,Step C (fun _=>False) G2 G3→Inv C G3 σ→PairIt C it fp J→J l G3→(∀ p,fp p→R.h.get? p=none∧(G.h.get? p≠none∨G2.h.get? p=none))→Q (.ref it) G3.s)→W C A (pyIter (.ref u)) Q E G2.s)→Q none G2.s)→W C A (getAttr? (.ref u) "keys") Q E G1.s
theorem dict_call {Tn:String} {Q:Value→Shared→Prop} {E} (ok:C.Ok) (S0:Step C Y R G) (I:Inv C G σ) (hA:A.handled=none) (src:SrcD C R G σ u Tn l) (hT:(Value.type Tn != .type "dict")=true) (hz:l.length≤sizeLine)
  (hQ:∀ d G',Step C Y R G'→Inv C G' σ→VR C G' (.ref d) (.dct (putAll l []))→Q (.ref d) G'.s):W C A (PySem.call (.type "dict") [.ref u]) Q E G.s:=by
 refine callType_codes (Q₁:=fun obj s₁=>obj=.ref G.sz∧s₁=(G.priv { cls:=.type "dict",data:=.dict #[] } G.s.toks).s) F.kt_called_dict (F.kt_typeCall_dict_1 _) F.entry_dict_init (kt_code_dict_new _ ⟨rfl,rfl⟩) ?_
 rintro obj s₁ ⟨rfl,rfl⟩
 refine Za (priv_ok (X:=fun _=>False) I { cls:=.type "dict",data:=.dict #[] } G.s.toks) fun s1 I1=>?_
 generalize hG1:G.priv { cls:=.type "dict",data:=.dict #[] } G.s.toks=G1 at s1 I1
 have hnew:G1.h.DictOf (strKind C.prog C.w) G.sz []:=by rw [← hG1];exact Heap.DictOf.new _
 have offd:Off C G1 G.sz:=by rw [← hG1];have off:=Off.of_dead I (sz_none (G:=G));exact ⟨off.f,off.r,off.t,off.s⟩
 have db:DB C G1 G.sz []:=by
  refine Zeeeaaa hnew fun ob es n h1 h2 h3 h4=>?_
  exact ⟨offd,ob,es,n,h1,h2,h3,[],h4,Nat.le_refl _,⟨fun k x h=>by simp at h,fun k _=>rfl⟩,dict_low ok I⟩
 refine (Iaa hnew.typeIs (F.args_dict_init_2 _ _) ?_)
 unfold Builtin.«dict.__init__»
 refine wpAny_bind ?_
 unfold Builtin.Dict.selfAndRest
 refine wpAny_bind (wpAny_notOrdered_dict hnew.typeIs ?_)
 refine (?_:wpAny _ _ (pure (G.sz,[Value.ref u])) _ _ _)
 refine wpAny_pure ?_
 refine (?_:wpAny _ _ (Builtin.Dict.updateFrom "dict.__init__" G.sz (.ref u) [] .none) _ _ _)
 unfold Builtin.Dict.updateFrom
 refine Za (src A.in1.in1 G1 hA s1 I1) fun ty hk=>?_
 refine wpAny_bind (wpAny_typeOf ty ?_)
 rw [if_pos hT]
 refine wpAny_bind (hk _ _ fun G2 s2 I2 hi=>?_)
 simp only [Option.isNone_none,if_true]
 refine wpAny_bind (wpAny_rule ?_)
 refine wpAny_bind (hi _ _ fun it fp J G3 s3 I3 S j hfp=>?_)
 have S3:Step C Y R G3:=((S0.trans s1 fun _ h=>h.elim).trans s2 fun _ h=>h.elim).trans s3 fun _ h=>h.elim
 have db3:=(db.keep I1 s2 (fun h=>h) fun _ h=>h.elim).keep I2 s3 (fun h=>h) fun _ h=>h.elim
 have hdR:R.h.get? G.sz=none:=by
  cases q:R.h.get? G.sz with
  | none=>rfl
  | some ob=>
   refine Ze (S0.alive _ _ q) fun ob' e=>?_
   have:=sz_none (G:=G)
   rw [this] at e;cases e
 have hdf:¬ fp G.sz:=fun h=>by
  rcases (hfp _ h).2 with q | q
  ·exact q sz_none
  ·refine Ze ((db.keep I1 s2 (fun h=>h) fun _ h=>h.elim).tr.there) fun oo e=>?_
   rw [q] at e;cases e
 refine wpAny_pure ⟨Code.quiet_builtin _ (by decide +kernel),?_⟩
 exact dict_loop (A:=A.in1) S (fun p hp=>(hfp p hp).1) hdR hdf hA l [] 0 G3 I3 db3 j S3 (by simpa using hz) _ _ fun G4 S4 I4 V4=>⟨rfl,hQ _ G4 S4 I4 V4⟩
noncomputable def JPL (C:Cx) (ia ax:Addr) (tot:List (Str × PyData)):List (Str × PyData)→St→Prop:=fun rest G=>∃ (k:Nat) (vs:Array Value),rest=tot.drop k∧k≤tot.length∧Off C G ia∧G.h.IsListIter ia ax k∧G.h.IsList ax vs∧G.F ax∧VRs C G vs.toList (tot.map pairAV)
theorem pairIt_list {ia ax:Addr} {tot:List (Str × PyData)}:PairIt C ia (·=ia) (JPL C ia ax tot) where
 nxt:=fun {A k v rest σ G} hA j I Q E hQ=>by
  refine Zeeaaaaaa j fun i vs e hk off hit hl hF VS=>?_
  have hlt:i < tot.length:=by
   rcases Nat.lt_or_ge i tot.length with h | h
   ·exact h
   ·rw [List.drop_eq_nil_of_le h] at e;cases e
  rw [List.drop_eq_getElem_cons hlt] at e
  injection e with e1 e2
  refine Zea (VS.get (i:=i) (x:=pairAV (k,v)) (by rw [List.getElem?_map,List.getElem?_eq_getElem hlt,← e1];rfl)) fun u hu VU=>?_
  rw [Array.getElem?_toList] at hu
  refine wpAny_pyNext_list_item hit hl hu fun h' hit' hs'=>?_
  refine Za (side_ok (W:=[ia]) I h' G.s.toks (fun b o hb e=>hs'.extBut b o (by simpa using hb) e) fun b hb=>by rw [List.mem_singleton.mp hb];exact ⟨off,let ⟨o,e,_⟩:=hit';⟨o,e⟩⟩) fun s1 I1=>?_
  have s1':Step C (·=ia) G ⟨{ G.s with heap:=h',toks:=G.s.toks },G.F,G.r,G.fs⟩:=s1.weaken fun a ha=>.inl (List.mem_singleton.mp ha)
  have nF:∀ a,(·=ia) a→¬ G.F a:=fun a ha=>by rw [show a=ia from ha];exact off.f
  have hlive:∃ o,G.h.get? ia=some o:=let ⟨o,e,_⟩:=hit;⟨o,e⟩
  have hne:ax≠ia:=fun h=>off.f (h▸hF)
  exact hQ u _ s1' I1 (Ieeaaaaaa (i+1) vs e2 hlt (off.step hlive s1') hit' (hl.extBut hs'.extBut hne) hF (VS.step I s1' nF)) (VU.step I s1' nF)
 fin:=fun {A σ G} hA j I Q E hQ=>by
  refine Zeeaaaaaa j fun i vs e hk off hit hl hF VS=>?_
  have hge:i=tot.length:=by
   have:=congrArg List.length e
   simp at this;omega
  have hv:=VS.length
  simp only [Array.length_toList,List.length_map] at hv
  refine wpAny_pyNext_list_end hA hit hl (by rw [Array.getElem?_eq_none_iff];omega) fun h' hs'=>hQ h' G.s.toks fun b ob hb e=>hs' b ob hb e
 keep:=fun {rest σ G G' X} j I b h1 h2=>by
  refine Zeeaaaaaa j fun i vs e hk off hit hl hF VS=>?_
  have hlive:∃ o,G.h.get? ia=some o:=let ⟨o,e,_⟩:=hit;⟨o,e⟩
  refine (Ieeaaaaaa i vs e hk (off.step hlive b) (hit.at fun o e=>b.keep _ o e (fun q=>h1 _ q rfl) off.t off.s) ?_ (b.fz _ hF) (VS.step I b h2))
  refine Zea hl fun o e r=>?_
  exact (Iea o (I.stay b h2 hF e) r)
 off:=fun {rest G} j p hp=>by
  refine Zeeaaaaaa j fun i vs e hk off hit hl hF VS=>?_
  rw [hp];exact off
end

section
variable {acc:Mp} {v' fv fv' a1 a2:AV} {G1 G2:St} {P f it d u:Addr} {ex iter target elt:Expr} {x:Str} {fp:Addr→Prop} {J:List (Str × PyData)→St→Prop} {l:List (Str × PyData)} {q:ZAd}
theorem dead_of_step (s:Step C X G G') {a:Addr} (hd:G'.h.get? a=none):G.h.get? a=none:=by
 cases q:G.h.get? a with
 | none=>rfl
 | some ob=>refine Ze (s.alive _ _ q) fun ob' e=>?_;rw [hd] at e;cases e
theorem srcD_list (I:Inv C G σ) (S0:Step C Y R G) (V:VR C G (.ref u) (.p (.list (l.map fun p=>.tuple [.str p.1,p.2])))):SrcD C R G σ u "list" l:=fun A G1 hA s1 I1=>by
 have V1:=V.step I s1 fun _ h=>h.elim
 refine Zeeeeaaaaaa V1.list_shape fun x o vs n ex f1 e1 z154 hd r1 cl=>?_
 refine Za z154 fun c1 d1=>?_
 cases ex
 have VS:VRs C G1 vs.toList (l.map pairAV):=by have:=PRs.vrs (C:=C) (G:=G1) r1 cl;simpa [List.map_map,Function.comp_def] using this
 refine ⟨(Iea o e1 c1),fun Q E h=>noKeys_list e1 c1 hd d1 hA fun h' tk hk=>?_⟩
 refine Za (grow_ok (tk:=tk) I1 hk) fun s2 I2=>?_
 refine h (G1.at h' tk) s2 I2 fun Q2 E2 h2=>?_
 have hl:(G1.at h' tk).h.IsList u vs:=(Ieaae o (hk _ _ e1) c1 n hd)
 refine wpAny_pyIter_list hl ?_
 refine Za (priv_ok (X:=fun _=>False) I2 { cls:=.type "list_iterator",data:=.fields #[.ref u,.int 0 0] } (G1.at h' tk).s.toks) fun s3 I3=>?_
 have off:=Off.of_dead I2 (sz_none (G:=G1.at h' tk))
 have hit:((G1.at h' tk).priv { cls:=.type "list_iterator",data:=.fields #[.ref u,.int 0 0] } (G1.at h' tk).s.toks).h.IsListIter (G1.at h' tk).sz u 0:=(Ieaa _ (Heap.get?_push_size _ rfl) rfl rfl)
 refine h2 (G1.at h' tk).sz (·=(G1.at h' tk).sz) (JPL C (G1.at h' tk).sz u l) _ s3 I3 pairIt_list (Ieeaaaaaa 0 vs rfl (Nat.zero_le _) ⟨off.f,off.r,off.t,off.s⟩ hit (hl.push _) f1 ((VS.step I1 s2 fun _ h=>h.elim).step I2 s3 fun _ h=>h.elim)) fun p hp=>?_
 rw [show p=(G1.at h' tk).sz from hp]
 exact ⟨dead_of_step S0 (dead_of_step s1 (dead_of_step s2 sz_none)),.inr sz_none⟩
structure ZBB (C:Cx) (G:St) (q:ZAd) (xs ys:List PyData) (k:Nat):Prop where
 st:∃ T b vs ws,ZStB G.h q.z q.TI q.TO q.i1 q.i2 q.l1 q.l2 T b k vs ws∧G.F T∧VRs C G vs.toList (xs.map .p)∧VRs C G ws.toList (ys.map .p)
 F1:G.F q.l1
 F2:G.F q.l2
 D:ZipApart q.z q.TI q.TO q.i1 q.i2 q.l1 q.l2
noncomputable def JPZ (C:Cx) (q:ZAd) (tot:List (Str × PyData)):List (Str × PyData)→St→Prop:=fun rest G=>∃ (k:Nat),rest=tot.drop k∧k≤tot.length∧(∀ p,q.fp p→Off C G p∧∃ o,G.h.get? p=some o)∧((k=0∧ZB C G q (tot.map fun p=>.str p.1) (tot.map (·.2)) 0)∨ZBB C G q (tot.map fun p=>.str p.1) (tot.map (·.2)) k)
theorem ZBB.keep {xs ys:List PyData} {k:Nat} (z:ZBB C G q xs ys k) (I:Inv C G σ) (b:Step C X G G') (h1:∀ p,q.fp p→Off C G p∧¬ X p) (h2:∀ a,X a→¬ G.F a):ZBB C G' q xs ys k:=by
 obtain ⟨⟨T,bb,vs,ws,⟨z1,z2,⟨t1,t2,t3,oT,eT⟩,z4,z5⟩,FT,V1,V2⟩,F1,F2,D⟩:=z
 have kp:∀ {p o},q.fp p→G.h.get? p=some o→G'.h.get? p=some o:=fun hp e=>b.keep _ _ e (h1 _ hp).2 (h1 _ hp).1.t (h1 _ hp).1.s
 have kF:∀ {p o},G.F p→G.h.get? p=some o→G'.h.get? p=some o:=fun hF e=>I.stay b h2 hF e
 exact ⟨(Ieeeeaaa T bb vs ws ⟨kp (.inl rfl) z1,kp (.inr (.inl rfl)) z2,(Iaaae t1 t2 t3 oT (kF FT eT)),z4.at (fun o e=>kp (.inr (.inr (.inr (.inl rfl)))) e) (fun o e=>kF F1 e),z5.at (fun o e=>kp (.inr (.inr (.inr (.inr rfl)))) e) (fun o e=>kF F2 e)⟩ (b.fz _ FT) (V1.step I b h2) (V2.step I b h2)),b.fz _ F1,b.fz _ F2,D⟩
theorem pairIt_zip {tot:List (Str × PyData)}:PairIt C q.z q.fp (JPZ C q tot) where
 nxt:=fun {A k v rest σ G} hA j I Q E hQ=>by
  refine Zeaaa j fun i e hk off st=>?_
  have hlt:i < tot.length:=by
   rcases Nat.lt_or_ge i tot.length with h | h
   ·exact h
   ·rw [List.drop_eq_nil_of_le h] at e;cases e
  rw [List.drop_eq_getElem_cons hlt] at e
  injection e with e1 e2
  have hx1:((tot.map fun p=>PyData.str p.1).map AV.p)[i]?=some (.p (.str k)):=by rw [List.getElem?_map,List.getElem?_map,List.getElem?_eq_getElem hlt,← e1];rfl
  have hy1:((tot.map (·.2)).map AV.p)[i]?=some (.p v):=by rw [List.getElem?_map,List.getElem?_map,List.getElem?_eq_getElem hlt,← e1];rfl
  have nF:∀ a,q.fp a→¬ G.F a:=fun a ha=>(off a ha).1.f
  have hT0:G.h.get? G.s.heap.objs.size=none:=sz_none (G:=G)
  have fin:∀ (h':Heap) (u1 u2:Value) (vs ws:Array Value) (b:Bool),VR C G u1 (.p (.str k))→VR C G u2 (.p v)→VRs C G vs.toList ((tot.map fun p=>PyData.str p.1).map AV.p)→VRs C G ws.toList ((tot.map (·.2)).map AV.p)→G.F q.l1→G.F q.l2→ZipApart q.z q.TI q.TO q.i1 q.i2 q.l1 q.l2 →
    (∃ T,(T=G.s.heap.objs.size∨(G.F T∧G.h.get? T≠none))∧ZStB h' q.z q.TI q.TO q.i1 q.i2 q.l1 q.l2 T b (i+1) vs ws)→IsPair h' G.s.heap.objs.size u1 u2→(∀ c o,¬ q.fp c→G.h.get? c=some o→h'.get? c=some o)→(∀ c,q.fp c→∃ o,h'.get? c=some o)→Q (some (.ref G.s.heap.objs.size)) { G.s with heap:=h' }:=by
   intro h' u1 u2 vs ws b VU1 VU2 V1 V2 F1 F2 D' ⟨T,hTT,Z⟩ hp hk' hal
   refine Za (side_ok (W:=[q.z,q.TI,q.TO,q.i1,q.i2]) I h' G.s.toks (fun c o hc ec=>hk' c o (fun hq=>hc (by simpa [ZAd.fp] using hq)) ec) fun c hc=>by
    have:q.fp c:=by
     simp only [List.mem_cons,List.not_mem_nil,or_false] at hc
     exact hc
    exact ⟨(off c this).1,hal c this⟩) fun s0 I0=>?_
   have s1:Step C q.fp G ⟨{ G.s with heap:=h',toks:=G.s.toks },G.F,G.r,G.fs⟩:=s0.weaken fun a ha=>.inl (by simp only [List.mem_cons,List.not_mem_nil,or_false] at ha;exact ha)
   have hoff:Off C G G.s.heap.objs.size:=Off.of_dead I hT0
   refine Za (freeze1 (a:=G.s.heap.objs.size) s1 I0 ⟨hoff.f,hoff.r,hoff.t,hoff.s⟩ hT0 ⟨_,hp⟩) fun s2 I2=>?_
   have VU1':=VU1.step I s2 nF
   have VU2':=VU2.step I s2 nF
   have VT:VR C (St.fz1 ⟨{ G.s with heap:=h',toks:=G.s.toks },G.F,G.r,G.fs⟩ G.s.heap.objs.size) (.ref G.s.heap.objs.size) (pairAV (k,v)):=by
    refine Za VU1'.pr fun p1' c1'=>?_
    refine Za VU2'.pr fun p2' c2'=>?_
    refine .p (.tuple (.inr rfl) hp rfl rfl (.cons p1' (.cons p2' .nil))) ?_
    have c1'':PyData.strOk k=true:=by simpa [PyData.canLay0] using c1'
    simp [PyData.canLay0,PyData.canLayAll0,c1'',c2']
   refine hQ (.ref G.s.heap.objs.size) (St.fz1 ⟨{ G.s with heap:=h',toks:=G.s.toks },G.F,G.r,G.fs⟩ G.s.heap.objs.size) s2 I2 (Ieaaa (i+1) e2 hlt (fun p hp=>⟨(off p hp).1.step (off p hp).2 s2,hal p hp⟩) (.inr ⟨(Ieeeeaaa T b vs ws Z ?_ (V1.step I s2 nF) (V2.step I s2 nF)),.inl F1,.inl F2,D'⟩)) VT
   rcases hTT with h | h
   ·exact .inr h
   ·exact .inl h.1
  rcases st with ⟨rfl,⟨vs,ws,Z,V1,V2⟩,F1,F2,D'⟩ | ⟨⟨T,b,vs,ws,Z,FT,V1,V2⟩,F1,F2,D'⟩
  ·refine Zea (V1.get hx1) fun u1 hu1 VU1=>?_
   refine Zea (V2.get hy1) fun u2 hu2 VU2=>?_
   rw [Array.getElem?_toList] at hu1 hu2
   refine zipn_item D' Z hu1 hu2 fun h' a1 a2 a3 a4 a5 a6 a7=>?_
   have dz:∀ p,q.fp p→G.s.heap.objs.size≠p:=fun p hp h=>by
    refine Ze ((off p hp).2) fun oo eo=>?_
    rw [← h,hT0] at eo;cases eo
   refine fin h' u1 u2 vs ws false VU1 VU2 V1 V2 F1 F2 D' (Iea _ (.inl rfl) ⟨a1,a2,(Iaaae (dz _ (.inl rfl)) (dz _ (.inr (.inr (.inr (.inl rfl))))) (dz _ (.inr (.inr (.inr (.inr rfl))))) _ a6),a4,a5⟩) a6 (fun c o hc ec=>a7 c o (fun h=>hc (.inl h)) (fun h=>hc (.inr (.inr (.inl h)))) (fun h=>hc (.inr (.inr (.inr (.inl h))))) (fun h=>hc (.inr (.inr (.inr (.inr h))))) ec) fun c hc=>?_
   rcases hc with h | h | h | h | h
   ·rw [h];exact ⟨_,a1⟩
   ·rw [h];exact ⟨_,a2⟩
   ·rw [h];exact ⟨_,a3⟩
   ·rw [h];exact a4.there
   ·rw [h];exact a5.there
  ·refine Zea (V1.get hx1) fun u1 hu1 VU1=>?_
   refine Zea (V2.get hy1) fun u2 hu2 VU2=>?_
   rw [Array.getElem?_toList] at hu1 hu2
   refine Ze ((off q.TO (.inr (.inr (.inl rfl)))).2) fun oTO eTO=>?_
   refine Ze ((off q.TI (.inr (.inl rfl))).2) fun oTI eTI=>?_
   have hT':=Z.t.2.2.2
   refine zipb_item D' Z hu1 hu2 fun h' a1 a6 a7=>?_
   refine fin h' u1 u2 vs ws true VU1 VU2 V1 V2 F1 F2 D' (Iea T (.inr ⟨FT,by refine Ze hT' fun oo eo=>?_;rw [show G.h.get? T=_ from eo];exact Option.some_ne_none _⟩) a1) a6 (fun c o hc ec=>a7 c o (fun h=>hc (.inl h)) (fun h=>hc (.inr (.inr (.inr (.inl h))))) (fun h=>hc (.inr (.inr (.inr (.inr h))))) ec) fun c hc=>?_
   rcases hc with h | h | h | h | h
   ·rw [h];exact ⟨_,a1.zz⟩
   ·rw [h];exact ⟨_,a1.ti⟩
   ·rw [h];exact ⟨oTO,a7 _ _ D'.TOz D'.TOi1 D'.TOi2 eTO⟩
   ·rw [h];exact a1.s1.there
   ·rw [h];exact a1.s2.there
 fin:=fun {A σ G} hA j I Q E hQ=>by
  refine Zeaaa j fun i e hk off st=>?_
  have hge:i=tot.length:=by
   have:=congrArg List.length e
   simp at this;omega
  rcases st with ⟨rfl,⟨vs,ws,Z,V1,V2⟩,F1,F2,D'⟩ | ⟨⟨T,b,vs,ws,Z,FT,V1,V2⟩,F1,F2,D'⟩
  ·have hv:=V1.length
   simp only [Array.length_toList,List.length_map] at hv
   exact zipn_end hA D' Z (by rw [Array.getElem?_eq_none_iff];omega) fun h' hk'=>hQ h' G.s.toks fun b o hb eb=>hk' b o (fun h=>hb (.inl h)) (fun h=>hb (.inr (.inr (.inl h)))) (fun h=>hb (.inr (.inr (.inr (.inl h))))) (fun h=>hb (.inr (.inr (.inr (.inr h))))) eb
  ·have hv:=V1.length
   simp only [Array.length_toList,List.length_map] at hv
   exact zipb_end hA D' Z (by rw [Array.getElem?_eq_none_iff];omega) fun h' hk'=>hQ h' G.s.toks fun b o hb eb=>hk' b o (fun h=>hb (.inl h)) (fun h=>hb (.inr (.inr (.inr (.inl h))))) (fun h=>hb (.inr (.inr (.inr (.inr h))))) eb
 keep:=fun {rest σ G G' X} j I b h1 h2=>by
  refine Zeaaa j fun i e hk off st=>?_
  refine (Ieaaa i e hk (fun p hp=>⟨(off p hp).1.step (off p hp).2 b,let ⟨o,e⟩:=(off p hp).2;b.alive _ _ e⟩) ?_)
  rcases st with ⟨h0,st⟩ | st
  ·exact .inl ⟨h0,st.keep I b (fun p hp=>⟨(off p hp).1,fun hx=>h1 p hx hp⟩) h2⟩
  ·exact .inr (st.keep I b (fun p hp=>⟨(off p hp).1,fun hx=>h1 p hx hp⟩) h2)
 off:=fun {rest G} j p hp=>by
  refine Zeaaa j fun i e hk off st=>?_
  exact (off p hp).1
end

section
variable {acc:Mp} {v' v1 v2 fv fv' a1 a2:AV} {G1 G2:St} {P f it d u:Addr} {ex iter target elt e1 e2:Expr} {x:Str} {fp:Addr→Prop} {J:List (Str × PyData)→St→Prop} {l:List (Str × PyData)} {q:ZAd}
theorem bi_dict (ok:C.Ok) (hz:l.length≤sizeLine):BI C D (.type "dict") [.p (.list (l.map fun p=>.tuple [.str p.1,p.2]))] σ (.dct (putAll l [])) σ:=fun A G us hA I VS=>by
 apply RLea1 (vrs1 VS)
 intro u V
 refine Zeeeea (id V.list_shape) fun x o vs n z32 _=>?_
 obtain rfl:=z32
 intro Q E hQ
 exact dict_call ok (R:=G) (Y:=G.tr) .refl I hA.1 (srcD_list I (Y:=G.tr) .refl V) (by decide +kernel) hz fun d G' S I' V'=>hQ _ G' S I' V'
theorem bi_dict' (ok:C.Ok) {a:List PyData} (ha:a=l.map fun p=>.tuple [.str p.1,p.2]) (hz:l.length≤sizeLine):BI C D (.type "dict") [.p (.list a)] σ (.dct (putAll l [])) σ:=ha▸bi_dict ok hz
theorem srcD_zip (S0:Step C (fun _=>False) R G) (I:Inv C G σ) (hq:∀ p,q.fp p→Off C G p∧R.h.get? p=none∧∃ o,G.h.get? p=some o) (z:ZB C G q (l.map fun p=>.str p.1) (l.map (·.2)) 0):SrcD C R G σ q.z "zip" l:=fun A G1 hA s1 I1=>by
 have z1:ZB C G1 q (l.map fun p=>.str p.1) (l.map (·.2)) 0:=z.keep I s1 (fun p hp=>⟨(hq p hp).1,fun h=>h⟩) fun _ h=>h.elim
 obtain ⟨⟨vs,ws,Z,_⟩,_⟩:=id z1
 refine ⟨(Iea _ Z.z rfl),fun Q E h=>noKeys_zip Z.z hA fun h' tk hk=>?_⟩
 refine Za (grow_ok (tk:=tk) I1 hk) fun s2 I2=>?_
 refine h (G1.at h' tk) s2 I2 fun Q2 E2 h2=>?_
 have q1:∀ p,q.fp p→Off C G1 p∧∃ o,G1.h.get? p=some o:=fun p hp=>⟨(hq p hp).1.step (hq p hp).2.2 s1,let ⟨o,e⟩:=(hq p hp).2.2;s1.alive _ _ e⟩
 have z2:=z1.keep I1 s2 (fun p hp=>⟨(q1 p hp).1,fun h=>h⟩) fun _ h=>h.elim
 obtain ⟨⟨vs2,ws2,Z2,_⟩,_⟩:=id z2
 refine wpAny_pyIter_zip Z2.z ?_
 refine h2 q.z q.fp (JPZ C q l) (G1.at h' tk) .refl I2 pairIt_zip (Ieaaa 0 rfl (Nat.zero_le _) (fun p hp=>⟨(q1 p hp).1.step (q1 p hp).2 s2,let ⟨o,e⟩:=(q1 p hp).2;s2.alive _ _ e⟩) (.inl ⟨rfl,z2⟩)) fun p hp=>⟨(hq p hp).2.1,.inl ?_⟩
 refine Ze ((hq p hp).2.2) fun o e=>?_
 rw [e];exact Option.some_ne_none _
theorem EvE.dictZip {dp zp pos pos':Pos} (ok:C.Ok) (hm:C.mg "zip"=none) (hb:bootBuiltins "zip"=some (.type "zip")) (hk:sc.names.lookup ("zip":Str)=some .globalImplicit) (hm':C.mg "dict"=none) (hb':bootBuiltins "dict"=some (.type "dict")) (hk':sc.names.lookup ("dict":Str)=some .globalImplicit) (hs:noStars [e1,e2]=true) (h:EvL C D sc m σ [e1,e2] [a1,a2] σ') (hz:ZArg a1 a2 (l.map fun p=>.str p.1) (l.map (·.2))) (hl:l.length≤sizeLine) :
  EvE C D sc m σ (.Call (.Name "dict" dp) [.Call (.Name "zip" zp) [e1,e2] [] pos'] [] pos) (.dct (putAll l [])) σ':=fun A G env hA I K Q E hQ=>by
 rw [eval_Call_Name]
 have hd':=(EvE.builtin (C:=C) (D:=D) (sc:=sc) (m:=m) (σ:=σ) (pos:=dp) ok hm' hb' (by decide +kernel) hk' (by rfl)) A G env hA I K
 refine wpAny_bind (hd' _ _ fun u G0 s0 I0 V0=>?_)
 refine V0.val_elim ?_
 have K0:=K.step I s0
 refine callWith_of (P:=fun h=>∃ k,(k=Keeper.frame∨k=Keeper.machine∨k=Keeper.boundFrame)∧Looks (model C.prog C.w) h (keeperOf (.type "dict")) k) (by rw [backTo_noStars (by rfl)];rfl) (fun _ h=>h) ?_
 rw [starEach_cons (by rfl)]
 refine evalArgs_plain ?_
 refine spliced_cons ?_
 rw [eval_Call_Name]
 have hn':=(EvE.builtin (C:=C) (D:=D) (sc:=sc) (m:=m) (σ:=σ) (pos:=zp) ok hm hb (by decide +kernel) hk (by rfl)) A G0 env hA I0 K0
 refine wpAny_bind (hn' _ _ fun u G1 s1 I1 V1=>?_)
 refine V1.val_elim ?_
 have K1:=K0.step I0 s1
 refine args_ok hs h hA I1 K1 (fun _ _ _=>keeps1_nonRef rfl) fun us G2 s2 I2 K2 VS=>?_
 refine zip_made I2 VS hz fun q G3 s3 I3 hfp z=>?_
 refine spliced_nil ⟨keeps1_nonRef (C:=C) (G:=G3) rfl,?_⟩
 refine dict_call ok (R:=G2) (Y:=G2.tr) (s3.weaken fun _ h=>h.elim) I3 hA.1 (srcD_zip s3 I3 (fun p hp=>(Iaa ((hfp p hp).1) ((hfp p hp).2.1) ((hfp p hp).2.2))) z) (by decide +kernel) hl fun d G' S I' V'=>hQ _ G' (((s0.trr I s1).trr I s2).trr I S) I' V'
theorem EvE.dict2 {k1 k2:Str} {kd1 kd2:Nat} {p1 p2 pos:Pos} (ok:C.Ok) (hk1:PyData.strOk k1=true) (hk2:PyData.strOk k2=true) (hne:k1≠k2) (h1:EvE C D sc m σ e1 v1 σ1) (h2:EvE C D sc m σ1 e2 v2 σ2) :
  EvE C D sc m σ (.Dict [some (.Constant (.str k1) kd1 p1),some (.Constant (.str k2) kd2 p2)] [e1,e2] pos) (.dct [(k2,v2),(k1,v1)]) σ2:=fun A G env hA I K Q E hQ=>by
 refine wpAny_Dict_walk (knd:=strKind C.prog C.w) rfl rfl (by simp) (by simp) ?_
 refine Za (priv_ok (X:=fun _=>False) I { cls:=.type "dict",data:=.dict #[] } G.s.toks) fun s1 I1=>?_
 generalize hG1:G.priv { cls:=.type "dict",data:=.dict #[] } G.s.toks=G1 at s1 I1
 have hnew:G1.h.DictOf (strKind C.prog C.w) G.sz []:=by rw [← hG1];exact Heap.DictOf.new _
 have offd:Off C G1 G.sz:=by rw [← hG1];have off:=Off.of_dead I (sz_none (G:=G));exact ⟨off.f,off.r,off.t,off.s⟩
 have db:DB C G1 G.sz []:=by
  refine Zeeeaaa hnew fun ob es n h1 h2 h3 h4=>?_
  exact ⟨offd,ob,es,n,h1,h2,h3,[],h4,Nat.le_refl _,⟨fun k x h=>by simp at h,fun k _=>rfl⟩,dict_low ok I⟩
 have K1:=K.step I (s1.weaken fun _ h=>h.elim)
 have es:({ G.s with heap:=G.s.heap.push { cls:=.type "dict",data:=.dict #[] } }:Shared)=G1.s:=by rw [← hG1];rfl
 rw [es]
 refine pairTrees_cons_walk ((EvE.cStr (D:=D) hk1) A G1 env hA I1 K1 _ _ fun u1 G2 s2 I2 V2=>?_)
 have K2:=K1.step I1 s2
 refine h1 A G2 env hA I2 K2 _ _ fun w1 G3 s3 I3 V3=>?_
 have K3:=K2.step I2 s3
 refine pairTrees_cons_walk ((EvE.cStr (D:=D) hk2) A G3 env hA I3 K3 _ _ fun u2 G4 s4 I4 V4=>?_)
 have K4:=K3.step I3 s4
 refine h2 A G4 env hA I4 K4 _ _ fun w2 G5 s5 I5 V5=>pairTrees_nil_walk ?_
 refine Za V2.str_shape fun z31 _=>?_
 apply RLe1 z31
 intro t1
 refine Za V4.str_shape fun z30 _=>?_
 apply RLe1 z30
 intro t2
 have kd:∀ {G G':St} {σ:Sto},DB C G (G.sz) []→True:=fun _=>trivial
 have db2:=db.keep I1 s2 offd.r I1.hX
 have db3:=db2.keep I2 s3 db2.off.r I2.hX
 have db4:=db3.keep I3 s4 db3.off.r I3.hX
 have db5:=db4.keep I4 s5 db4.off.r I4.hX
 have V3':=(V3.step I3 s4 I3.hX).step I4 s5 I4.hX
 refine Zeeeaaaeaaa db5.tr fun ob eb nb hb1 hb2 hb3 kvs hb4 hb5 hb6 hb7=>?_
 have:kvs=[]:=List.length_eq_zero_iff.mp (Nat.le_zero.mp hb5)
 subst this
 refine (Ieaa ([(k1,w1),(k2,w2)]) ⟨strKind_self k1 t1,rfl,strKind_self k2 t2,rfl,trivial⟩ (Ieeeaaa ob eb nb hb1 hb2 hb3 hb4) (fun h' hd' hs'=>?_))
 have hk:∀ b ob,b≠G.sz→G5.h.get? b=some ob→h'.get? b=some ob:=fun b ob hb e=>hs'.extBut b ob hb e
 refine Zeeeaaa (id hd') fun o' es' n' e' d1 d2 d3=>?_
 refine Za (side_ok (W:=[G.sz]) I5 h' (G5.s.toks+2) (fun c ob hc e=>hk c ob (by simpa using hc) e) fun c hc=>by rw [List.mem_singleton.mp hc];exact (Iae db5.off o' e')) fun s6 I6=>?_
 have nF:∀ a,a∈[G.sz]→¬ G5.F a:=fun a ha=>by rw [List.mem_singleton.mp ha];exact db5.off.f
 have va:∀ y,valueAt (merged [] [(k1,w1),(k2,w2)]) y=if y=k2 then some w2 else if y=k1 then some w1 else none:=fun y=>by
  refine (?_:valueAt (stored (stored [] k1 w1) k2 w2) y=_)
  rw [valueAt_stored,valueAt_stored];rfl
 have db6:DB C (G5.at h' (G5.s.toks+2)) G.sz [(k2,v2),(k1,v1)]:=by
  refine ⟨⟨db5.off.f,db5.off.r,db5.off.t,db5.off.s⟩,o',es',n',e',d1,d2,_,d3,?_,⟨fun y x hy=>?_,fun y hy=>?_⟩,hb7⟩
  ·have a1:=stored_length_le ([]:List (Str × Value)) k1 w1
   have a2:=stored_length_le (stored ([]:List (Str × Value)) k1 w1) k2 w2
   refine (?_:(stored (stored ([]:List (Str × Value)) k1 w1) k2 w2).length≤2)
   simp at a1;omega
  ·rw [va]
   rw [List.lookup_cons] at hy
   by_cases hy2:y=k2
   ·subst hy2
    simp at hy;subst hy
    exact (Iea w2 (by simp) (V5.step I5 s6 nF))
   ·rw [show (y == k2)=false by simpa using hy2] at hy
    rw [if_neg hy2]
    by_cases hy1:y=k1
    ·subst hy1
     simp at hy;subst hy
     exact (Iea w1 (by simp) (V3'.step I5 s6 nF))
    ·simp [List.lookup_cons,show (y == k1)=false by simpa using hy1] at hy
  ·rw [va]
   rw [List.lookup_cons] at hy
   by_cases hy2:y=k2
   ·subst hy2;simp at hy
   ·rw [show (y == k2)=false by simpa using hy2] at hy
    rw [if_neg hy2]
    by_cases hy1:y=k1
    ·subst hy1;simp at hy
    ·rw [if_neg hy1]
 have S5:Step C G.tr G G5:=((((s1.weaken fun _ h=>h.elim).trr I s2).trr I s3).trr I s4).trr I s5
 have S6:Step C G.tr G (G5.at h' (G5.s.toks+2)):=S5.trans s6 fun a ha=>by rw [List.mem_singleton.mp ha];exact .inr sz_none
 refine Zaa (db6.stand S6 I6 sz_none) fun S7 I7 V7=>?_
 exact hQ (.ref G.sz) ((G5.at h' (G5.s.toks+2)).fz1 G.sz) S7 I7 V7
end
section
variable {b:Mp} {v1 v2 a a1 a2 d fv:AV} {o':Out} {ob e1 e2:Expr} {x:AV} {cb:Bool} {apos pos:Pos} {k:Str}
theorem JE.callL (ok:C.Ok) {x:Str} {np pos} {a:Expr} {args:List Expr} {vs:List AV} (hf:JE C D sc m σ (.Name x np) fv σ) (hk:KeepV C fv) (hs:noStars (a::args)=true) (ha:JL C D sc m σ (a::args) vs σ')
  (h:CallV C D fv vs σ' (.ret v σ'')):JE C D sc m σ (.Call (.Name x np) (a::args) [] pos) v σ'':=⟨EvE.callL ok hf.h hk hs ha.h h⟩
theorem JE.dictZip {l:List (Str × PyData)} {dp zp pos pos':Pos} (ok:C.Ok) (hm:C.mg "zip"=none) (hb:bootBuiltins "zip"=some (.type "zip")) (hk:sc.names.lookup ("zip":Str)=some .globalImplicit) (hm':C.mg "dict"=none) (hb':bootBuiltins "dict"=some (.type "dict")) (hk':sc.names.lookup ("dict":Str)=some .globalImplicit) (hs:noStars [e1,e2]=true) (h:JL C D sc m σ [e1,e2] [a1,a2] σ') (hz:ZArg a1 a2 (l.map fun p=>.str p.1) (l.map (·.2))) (hl:l.length≤sizeLine) :
  JE C D sc m σ (.Call (.Name "dict" dp) [.Call (.Name "zip" zp) [e1,e2] [] pos'] [] pos) (.dct (putAll l [])) σ':=⟨EvE.dictZip ok hm hb hk hm' hb' hk' hs h.h hz hl⟩
theorem JE.dict2 {k1 k2:Str} {kd1 kd2:Nat} {p1 p2 pos:Pos} (ok:C.Ok) (hk1:PyData.strOk k1=true) (hk2:PyData.strOk k2=true) (hne:k1≠k2) (h1:JE C D sc m σ e1 v1 σ1) (h2:JE C D sc m σ1 e2 v2 σ2) :
  JE C D sc m σ (.Dict [some (.Constant (.str k1) kd1 p1),some (.Constant (.str k2) kd2 p2)] [e1,e2] pos) (.dct [(k2,v2),(k1,v1)]) σ2:=⟨EvE.dict2 ok hk1 hk2 hne h1.h h2.h⟩
end
end
structure JM (C:Cx) (D:Nat) (sc:Scope) (m:Mp) (σ:Sto) (iter target:Expr) (bt:AV→Option (Mp)) (l:List AV) (ns:List Str) (σ':Sto):Prop where
 mk ::
 h:MkIt C D sc m σ iter target bt l ns σ'
 b:∀ x b,bt x=some b→∀ p∈b,p.1∈ns
noncomputable def locB (ns:List Str) (sc:Scope):Bool:=ns.all fun n=>sc.names.lookup n == some .local
theorem locB_all {ns:List Str} {sc:Scope} (h:locB ns sc=true):∀ n∈ns,sc.names.lookup n=some .local:=fun n hn=>by
 have:=List.all_eq_true.mp h n hn
 simpa using this
section
variable {C:Cx} {D n:Nat} {sc sc0 scope:Scope} {m m' mB mC:Mp} {σ σ' σ'' σ1 σ2 σ3:Sto} {v:AV} {o:Out} {A A2:Around} {G G' G'' R:St} {env:Env} {c e T:Addr} {X Y Z:Addr→Prop}
section
variable {b:Mp} {v1 v2 a a1 a2 d fv:AV} {o':Out} {ob e e1 e2 iter target elt cnd:Expr} {cb:Bool} {apos pos:Pos} {bt:AV→Option (Mp)} {l tot:List AV} {ns:List Str} {xs ys:List PyData}
theorem JM.seq {nm:Str} {np:Pos} (h:JE C D sc m σ iter a σ') (ha:asF a=some l):JM C D sc m σ iter (.Name nm np) (bindName1 nm) l [nm] σ':=⟨MkIt.seq h.h ha,bindName1_mem⟩
theorem JM.names {poss:List Pos} {es:List Expr} {k:Nat} {tp:Pos} (h:JE C D sc m σ iter a σ') (ha:asF a=some l) (hl:isLst a=true) (he:es=(ns.zip poss).map fun p=>Expr.Name p.1 p.2) (hp:poss.length=ns.length):JM C D sc m σ iter (.Tuple es k tp) (bindNames ns) l ns σ':=⟨MkIt.names h.h ha hl he hp,bindNames_mem⟩
theorem JM.names2 {n1 n2:Str} {p1 p2:Pos} {k:Nat} {tp:Pos} (h:JE C D sc m σ iter a σ') (ha:asF a=some l) (hl:isLst a=true):JM C D sc m σ iter (.Tuple [.Name n1 p1,.Name n2 p2] k tp) (bindNames [n1,n2]) l [n1,n2] σ':=JM.names (poss:=[p1,p2]) h ha hl rfl rfl
theorem JM.range {nm:Str} {np rp pos:Pos} {i:Int} (ok:C.Ok) (hm:C.mg "range"=none) (hb:bootBuiltins "range"=some (.type "range")) (hk:sc.names.lookup ("range":Str)=some .globalImplicit) (hs:noStar e=true) (h:JE C D sc m σ e (.p (.int i)) σ') (hi:i=(n:Int)) (hn:n < 1000000) :
  JM C D sc m σ (.Call (.Name "range" rp) [e] [] pos) (.Name nm np) (bindName1 nm) (rangeL n) [nm] σ':=⟨MkIt.range ok hm hb hk hs h.h hi hn,bindName1_mem⟩
theorem JM.zip {n1 n2:Str} {p1 p2 tp zp pos:Pos} {kk:Nat} (ok:C.Ok) (hm:C.mg "zip"=none) (hb:bootBuiltins "zip"=some (.type "zip")) (hk:sc.names.lookup ("zip":Str)=some .globalImplicit) (hs:noStars [e1,e2]=true) (h:JL C D sc m σ [e1,e2] [a1,a2] σ') (hz:ZArg a1 a2 xs ys) (hlen:xs.length=ys.length) :
  JM C D sc m σ (.Call (.Name "zip" zp) [e1,e2] [] pos) (.Tuple [.Name n1 p1,.Name n2 p2] kk tp) (bindNames [n1,n2]) (zipL xs ys) [n1,n2] σ':=⟨MkIt.zip ok hm hb hk hs h.h hz hlen,bindNames_mem⟩
theorem J1.forM {body:List Stmt} {pos:Pos} (h:JM C D sc m σ iter target bt l ns σ') (hn:locB ns sc=true) (L:LoopJ C D sc bt body l m σ' o) (hs:∀ env x,foldedSetIterable iter env x=pure x):J1 C D sc m σ (.For target iter body [] pos) o:=⟨Ex1.forG h.h (locB_all hn) L.toS hs⟩
theorem JE.compM0 {pos:Pos} (h:JM C D sc m σ iter target bt l ns σ') (so:ScopeOk scope sc) (hn:locB ns scope=true) (hC:CompJ0 C D (relabelS scope sc) bt elt (mCof scope m) l σ' tot σ'') (hz:tot.length≤sizeLine) (hs:∀ env x,foldedSetIterable iter env x=pure x) :
  JE C D sc m σ (.ListComp elt [⟨target,iter,[],0⟩] scope pos) (mkL tot) σ'':=⟨EvE.compG so h.h (locB_all hn) h.b hC.toS hz hs⟩
theorem JE.compM1 {pos:Pos} (h:JM C D sc m σ iter target bt l ns σ') (so:ScopeOk scope sc) (hn:locB ns scope=true) (hC:CompJ1 C D (relabelS scope sc) bt cnd elt (mCof scope m) l σ' tot σ'') (hz:tot.length≤sizeLine) (hs:∀ env x,foldedSetIterable iter env x=pure x) :
  JE C D sc m σ (.ListComp elt [⟨target,iter,[cnd],0⟩] scope pos) (mkL tot) σ'':=⟨EvE.compG so h.h (locB_all hn) h.b hC.toS hz hs⟩
theorem J1.compM0 {y:Str} {py spos:Pos} (h:JM C D sc m σ iter target bt l ns σ') (so:ScopeOk scope sc) (hn:locB ns scope=true) (hC:CompJ0 C D (relabelS scope sc) bt elt (mCof scope m) l σ' tot σ'') (hz:tot.length≤sizeLine) (hs:∀ env x,foldedSetIterable iter env x=pure x) (hy:sc.names.lookup y=some .local)
  (hsw:(py.line == pos.line&&!(scope.names.any fun (n,k)=>n == y&&(k == .local||k == .cell)))=true) :
  J1 C D sc m σ (.Assign [.Name y py] (.ListComp elt [⟨target,iter,[],0⟩] scope pos) spos) (.next ((y,mkL tot)::m) σ''):=⟨Ex1.assignCompG so h.h (locB_all hn) h.b hC.toS hz hs hy hsw⟩
theorem J1.compM1 {y:Str} {py spos:Pos} (h:JM C D sc m σ iter target bt l ns σ') (so:ScopeOk scope sc) (hn:locB ns scope=true) (hC:CompJ1 C D (relabelS scope sc) bt cnd elt (mCof scope m) l σ' tot σ'') (hz:tot.length≤sizeLine) (hs:∀ env x,foldedSetIterable iter env x=pure x) (hy:sc.names.lookup y=some .local)
  (hsw:(py.line == pos.line&&!(scope.names.any fun (n,k)=>n == y&&(k == .local||k == .cell)))=true) :
  J1 C D sc m σ (.Assign [.Name y py] (.ListComp elt [⟨target,iter,[cnd],0⟩] scope pos) spos) (.next ((y,mkL tot)::m) σ''):=⟨Ex1.assignCompG so h.h (locB_all hn) h.b hC.toS hz hs hy hsw⟩
theorem JE.comp0 {n:Str} {np pos:Pos} (h:JE C D sc m σ iter a σ') (ha:asF a=some l) (so:ScopeOk scope sc) (hn:scope.names.lookup n=some .local) (hC:CompJ0 C D (relabelS scope sc) (bindName1 n) elt (mCof scope m) l σ' tot σ'') (hz:tot.length≤sizeLine) (hs:∀ env x,foldedSetIterable iter env x=pure x) :
  JE C D sc m σ (.ListComp elt [⟨.Name n np,iter,[],0⟩] scope pos) (mkL tot) σ'':=JE.compM0 (.seq h ha) so (by simp [locB,hn]) hC hz hs
theorem J1.comp0 {n y:Str} {np pos py spos:Pos} (h:JE C D sc m σ iter a σ') (ha:asF a=some l) (so:ScopeOk scope sc) (hn:scope.names.lookup n=some .local) (hC:CompJ0 C D (relabelS scope sc) (bindName1 n) elt (mCof scope m) l σ' tot σ'') (hz:tot.length≤sizeLine) (hs:∀ env x,foldedSetIterable iter env x=pure x) (hy:sc.names.lookup y=some .local)
  (hsw:(py.line == pos.line&&!(scope.names.any fun (n,k)=>n == y&&(k == .local||k == .cell)))=true) :
  J1 C D sc m σ (.Assign [.Name y py] (.ListComp elt [⟨.Name n np,iter,[],0⟩] scope pos) spos) (.next ((y,mkL tot)::m) σ''):=J1.compM0 (.seq h ha) so (by simp [locB,hn]) hC hz hs hy hsw
theorem J1.forN {n:Str} {np pos} {body:List Stmt} (h:JE C D sc m σ iter a σ') (ha:asF a=some l) (hn:sc.names.lookup n=some .local) (L:LoopJ C D sc (bindName1 n) body l m σ' o) (hs:∀ env x,foldedSetIterable iter env x=pure x) :
  J1 C D sc m σ (.For (.Name n np) iter body [] pos) o:=J1.forM (.seq h ha) (by simp [locB,hn]) L hs
theorem JE.comp1 {n:Str} {np pos:Pos} (h:JE C D sc m σ iter a σ') (ha:asF a=some l) (so:ScopeOk scope sc) (hn:scope.names.lookup n=some .local) (hC:CompJ1 C D (relabelS scope sc) (bindName1 n) cnd elt (mCof scope m) l σ' tot σ'') (hz:tot.length≤sizeLine) (hs:∀ env x,foldedSetIterable iter env x=pure x) :
  JE C D sc m σ (.ListComp elt [⟨.Name n np,iter,[cnd],0⟩] scope pos) (mkL tot) σ'':=JE.compM1 (.seq h ha) so (by simp [locB,hn]) hC hz hs
theorem op_eq {op:CmpOp} {x y:PyData} {b:Bool} (h:min x.depth y.depth≤100) (hb:x.eqv y=b) (ho:op=.Eq):cmpV op (.p x) (.p y) σ=some b:=by subst ho;show Option.or (if _ then _ else _) _=_;rw [if_pos h,hb];rfl
theorem op_ne {op:CmpOp} {x y:PyData} {b:Bool} (h:min x.depth y.depth≤100) (hb:x.eqv y=b) (ho:op=.NotEq):cmpV op (.p x) (.p y) σ=some (!b):=by subst ho;show Option.map _ (Option.or (if _ then _ else _) _)=_;rw [if_pos h,hb];rfl
theorem op_inK {n:Str} {i:Nat} {l:Mp} {b:Bool} (had:asD σ (.loc i)=some l) (hb:(l.lookup n).isSome=b):cmpV .In (.p (.str n)) (.loc i) σ=some b:=by
 refine (?_:Option.map (fun l:Mp=>(l.lookup n).isSome) (asD σ (.loc i))=_)
 rw [had,← hb];rfl
end
section
variable {m1:Mp} {ss:List Stmt}
mutual
theorem Fz.same:∀ {v:AV},bel n v=true→Fz σ n v v
 | .p x,_=>.p x
 | .val x,_=>.val x
 | .loc i,h=>.low (of_decide_eq_true h)
 | .lst l,h=>.lst (FzL.same h)
 | .dct l,h=>.dct (FzD.same h)
 | .ins c l,h=>.ins (FzD.same h)
 | .clo T l,h=>.clo (FzD.same h)
theorem FzL.same:∀ {v:List AV},belL n v=true→FzL σ n v v
 | [],_=>.nil
 | x::l,h=>.cons (Fz.same (Bool.and_eq_true_iff.mp h).1) (FzL.same (Bool.and_eq_true_iff.mp h).2)
theorem FzD.same:∀ {v:Mp},belD n v=true→FzD σ n v v
 | [],_=>.nil
 | (k,x)::l,h=>.cons (Fz.same (Bool.and_eq_true_iff.mp h).1) (FzD.same (Bool.and_eq_true_iff.mp h).2)
end
theorem CallR.under {f:Addr} {vs vs':List AV} {b:Bool} (h:CallR C D f vs' [] (.ret (.p (.bool b)) σ3)) (h2:FzL σ 0 vs vs'):CallR C D f vs σ (.ret (.p (.bool b)) σ):=(CallV.under h.toV (.val _) h2).toR
theorem CallR.under' {f:Addr} {vs:List AV} {b:Bool} (h:CallR C D f vs [] (.ret (.p (.bool b)) σ3)) (h2:belL 0 vs=true):CallR C D f vs σ (.ret (.p (.bool b)) σ):=h.under (FzL.same h2)
noncomputable def Shut (σ:Sto):Prop:=∀ o∈σ,belO σ.length o=true
theorem shut_nil:Shut []:=fun _ h=>nomatch h
theorem JS.back (h:JS C D sc m' σ ss (.next m1 σ1)) (hs:σ1.take σ.length=σ) (hσ:Shut σ) (hb:belD σ.length m=true) (hw:∀ x v,m.lookup x=some v→m1.lookup x=some v):JS C D sc m' σ ss (.next m σ):=by
 have:=(h.h.nextWeak hw).cut (n:=σ.length) (Nat.le_refl _) ⟨hb,by rw [hs];exact hσ⟩
 simp only [Out.cut,hs] at this
 exact ⟨this⟩
theorem JS.backR (h:JS C D sc m' σ ss (.ret v σ1)) (hs:σ1.take σ.length=σ) (hσ:Shut σ) (hb:bel σ.length v=true):JS C D sc m' σ ss (.ret v σ):=by
 have:=h.h.cut (n:=σ.length) (Nat.le_refl _) ⟨hb,by rw [hs];exact hσ⟩
 simp only [Out.cut,hs] at this
 exact ⟨this⟩
theorem weak_cons {k:Str} {u:AV} {m m1:Mp} (hk:m.lookup k=none) (h:∀ x v,m.lookup x=some v→m1.lookup x=some v):∀ x v,m.lookup x=some v→((k,u)::m1).lookup x=some v:=fun x v e=>by
 rw [List.lookup_cons]
 cases q:x == k with
 | true=>rw [eq_of_beq q,hk] at e;cases e
 | false=>exact h x v e
theorem weak_refl {m:Mp}:∀ x v,m.lookup x=some v→m.lookup x=some v:=fun _ _ h=>h
theorem eq_nil {op:CmpOp} {xs:List PyData} (ho:op=.Eq):cmpV op (.p (.list xs)) (.p (.list [])) σ=some xs.isEmpty:=by
 refine op_eq ?_ ?_ ho
 ·exact Nat.le_trans (Nat.min_le_right _ _) (by decide)
 ·cases xs<;>rfl
theorem ne_nil {op:CmpOp} {xs:List PyData} (ho:op=.NotEq):cmpV op (.p (.list xs)) (.p (.list [])) σ=some (!xs.isEmpty):=by
 refine op_ne ?_ ?_ ho
 ·exact Nat.le_trans (Nat.min_le_right _ _) (by decide)
 ·cases xs<;>rfl
theorem belD_cons {k:Str} {l:Mp} (h:bel n v=true) (h2:belD n l=true):belD n ((k,v)::l)=true:=by refine (?_:(bel n v&&belD n l)=true);rw [h,h2];rfl
theorem JS.back0 (h:JS C D sc m' [] ss (.next m1 σ1)) (hb:belD 0 m=true) (hw:∀ x v,m.lookup x=some v→m1.lookup x=some v):JS C D sc m' [] ss (.next m []):=h.back rfl shut_nil hb hw
theorem JS.backR0 {x:PyData} (h:JS C D sc m' [] ss (.ret (.p x) σ1)):JS C D sc m' [] ss (.ret (.p x) []):=h.backR rfl shut_nil rfl
theorem LoopJ.until {α:Type} {bt:AV→Option (Mp)} {body:List Stmt} {g:α→AV} {f:α→Bool} {l:List α} (h:∀ a∈l,∃ b,bt (g a)=some b∧JS C D sc (b++m) σ body (if f a=true then .ret v σ else .next m σ)) :
  LoopJ C D sc bt body (l.map g) m σ (if l.any f=true then .ret v σ else .next m σ):=by
 induction l with
 | nil=>exact LoopJ.nil
 | cons a l ih=>
  refine Zea (h a (List.mem_cons_self ..)) fun b h1 h2=>?_
  have ih:=ih fun x hx=>h x (List.mem_cons_of_mem _ hx)
  cases hf:f a with
  | true=>
   rw [hf,if_pos rfl] at h2
   simp only [List.any_cons,hf,Bool.true_or,if_true]
   exact .ret h1 h2
  | false=>
   rw [hf,if_neg (by simp)] at h2
   simp only [List.any_cons,hf,Bool.false_or]
   exact .next h1 h2 ih
end
section
variable {m1:Mp} {ss:List Stmt}
theorem op_not {b:Bool}:Op1 C D (unaryOp .Not) (.p (.bool b)) σ (.p (.bool (!b))) σ:=fun A G u1 hA I V1=>by
 cases V1.bool_shape
 intro Q E hQ
 exact PyProof.Rows.not_of (wpAny_truthy_bool (hQ _ G .refl I (vr_bool _)))
theorem JE.not {x:Expr} {pos:Pos} {b:Bool} (h:JE C D sc m σ x (.p (.bool b)) σ'):JE C D sc m σ (.UnaryOp .Not x pos) (.p (.bool (!b))) σ':=JE.un h op_not
end
section
variable {m1:Mp} {ss:List Stmt}
theorem EvE.list0 {pos}:EvE C D sc m σ (.List [] pos) (.loc σ.length) (σ++[.lst []]):=fun A G env hA I K Q E hQ=>by
 refine PyProof.Rows.List_ (Calls.spliced_nil (wpAny_newList ?_ (by simp)))
 have hk:∀ b ob,G.h.get? b=some ob→(G.h.push { cls:=.type "list",data:=.seq ([]:List Value).toArray }).get? b=some ob:=fun b ob e=>Heap.get?_push_of_some _ e
 have hr:(G.r++[G.sz])[σ.length]?=some G.sz:=by rw [← I.len];simp
 refine hQ (.ref G.sz) (G.more (G.h.push { cls:=.type "list",data:=.seq ([]:List Value).toArray }) G.s.toks [G.sz]) (more_step hk fun a ha=>by rw [List.mem_singleton.mp ha];exact sz_none) (more_inv I hk sz_none ?_) (.loc hr)
 exact (Ieeeaaa _ _ _ (Heap.get?_push_size _ rfl) ⟨rfl,rfl⟩ rfl .nil)
theorem lst_put {i:Nat} {a:Addr} {ob:Obj} {vs:Array Value} {k tk:Nat} {l':List AV} (I:Inv C G σ) (hr:G.r[i]?=some a) (g1:G.h.get? a=some ob) (g2:ob.cls=.type "list"∧ob.dict=none) (g3:ob.data=.seq vs k) (f:Array Value→Array Value) (VS:VRs C G (f vs).toList l') :
  Step C G.tr G (G.at (G.h.update a (Obj.mapSeq f)) tk)∧Inv C (G.at (G.h.update a (Obj.mapSeq f)) tk) (σ.set i (.lst l')):=by
 refine Ze (Obj.data_mapSeq g3 f) fun n' hd'=>?_
 have e':(G.h.update a (Obj.mapSeq f)).get? a=some (ob.mapSeq f):=Heap.get?_update_self _ g1 (Obj.isFreed_of_seq hd')
 have hk:∀ b o,b≠a→G.h.get? b=some o→(G.h.update a (Obj.mapSeq f)).get? b=some o:=fun b o hb e=>(Heap.get?_update_other _ _ (Ne.symm hb)).trans e
 have nFa:¬ G.F a:=I.trkF (List.mem_of_getElem? hr)
 have hdict:(ob.mapSeq f).dict=none:=by
  obtain ⟨c,d,dt,sl⟩:=ob
  subst g3
  exact g2.2
 exact upd_ok I hr _ tk hk ⟨_,e'⟩ (Ieeeaaa _ _ n' e' ⟨(Obj.cls_mapSeq ..).trans g2.1,hdict⟩ hd' (VRs.mono (G:=G) (G':=G.at _ tk) (fun _ h=>h) (fun b o hf e=>hk b o (fun q=>nFa (q▸hf)) e) (fun _ _ h=>h) VS))
theorem set_at {prog:Program} {w:World} {A:Around} {E:Value→Shared→Prop} {s:Shared} {l:Addr} {ob:Obj} {items:Array Value} {n:Nat} {k:Int} {t:Tok} {u:Value} {Q:Unit→Shared→Prop} (ho:s.heap.get? l=some ob) (hc:ob.cls=.type "list") (hd:ob.data=.seq items n) (h0:0≤k) (hfit:k < 2 ^ 63) (hn:k < items.size)
  (hQ:Q () { s with heap:=s.heap.update l (Obj.mapSeq (·.setIfInBounds k.toNat u)) }):wpAny (model prog w) A (setItem (.ref l) (.int k t) u) Q E s:=by
 have hl:s.heap.IsList l items:=(Ieaae ob ho hc n hd)
 unfold setItem
 try with_reducible refine wpAny_holding ?_
 first | refine wpAny_bind (wpAny_pure ?_) | skip
 refine wpAny_bind (wpAny_sequenceKey hl.typeIs (by decide) ?_)
 refine wpAny_bind (wpAny_callSpecial?_slot (name:=Str.ofString "__setitem__") hl.typeIs F.slot_list_setitem
  (wpAny_call_entry F.slot_list_setitem hl.typeIs F.entry_list_setitem ?_ (F.args_list_setitem_3 _ _ _)))
 refine (?_:wpAny _ _ (Builtin.List.listSubscript? (.int k t) >>= _) _ _ s)
 refine wpAny_bind (wpAny_listSubscript_int (fitsIndex_of h0 hfit) ?_)
 clear hfit
 refine Ze (Int.eq_ofNat_of_zero_le h0) fun j z168=>?_
 obtain rfl:=z168
 have hj:j < items.size:=by walk_at "o"
 have hx':items[j]?=some items[j]:=Array.getElem?_eq_getElem hj
 refine (?_:wpAny _ _ ((seqItemAt l j >>= fun r=>pure (r.map (j,·))) >>= _) _ _ s)
 refine wpAny_bind (wpAny_bind (wpAny_seqItemAt ho hd (wpAny_pure ?_)))
 rw [hx']
 refine (?_:wpAny _ _ (setSeqItemAt l j u >>= _) _ _ s)
 refine wpAny_bind (wpAny_setSeqItemAt ho hd ?_)
 first
  | exact wpAny_bind (wpAny_pure (wpAny_pure (Iea .none rfl (wpAny_pure hQ))))
  | exact wpAny_pure ⟨.none,rfl,wpAny_pure hQ⟩
theorem VRs.setAt {u:Value} (V:VR C G u v):∀ {us:List Value} {l:List AV} (j:Nat),VRs C G us l→VRs C G (us.set j u) (l.set j v)
 | _,_,_,.nil=>.nil
 | _,_,0,.cons a b=>.cons V b
 | _,_,j+1,.cons a b=>.cons a (VRs.setAt V j b)
theorem Ex1.setIx {ob ix val:Expr} {tp pos:Pos} {j i:Nat} {l:List AV} (h0:EvE C D sc m σ val v σ1) (h1:EvE C D sc m σ1 ob (.loc i) σ2) (h2:EvE C D sc m σ2 ix (.p (.int (j:Int))) σ3) (ha:σ3[i]?=some (.lst l)) (hj:j < l.length) (hz:l.length≤sizeLine) (hs:∀ env,swapsWith val (some (.Subscript ob ix tp)) pos.line env=pure false) :
  Ex1 C D sc m σ (.Assign [.Subscript ob ix tp] val pos) (.next m (σ3.set i (.lst (l.set j v)))):=fun A G env hA I K O TT Q E hQ=>by
 refine wpAny_Assign_Subscript ?_ (hs env)
 refine h0 A G env hA I K _ _ fun u0 G1 s1 I1 V1=>?_
 have K1:=K.step I s1
 refine h1 A G1 env hA I1 K1 _ _ fun u1 G2 s2 I2 V2=>?_
 refine h2 A G2 env hA I2 (K1.step I1 s2) _ _ fun u2 G3 s3 I3 V3=>?_
 have s13:=s2.trr I1 s3
 apply RLe1 V3.int_shape
 intro t
 refine V2.loc_elim fun a hr2=>?_
 have hr3:=s3.rget hr2
 have V1':=V1.step I1 s13 I1.hX
 refine Zeeeaaa (I3.tget hr3 ha) fun o3 vs n3 g1 g2 g3 g4=>?_
 have hlen:=g4.length
 simp only [Array.length_toList] at hlen
 have hf:((j:Int):Int) < 2 ^ 63:=by
  have:(sizeLine:Int) < 2 ^ 63:=by decide
  omega
 refine set_at (k:=(j:Int)) (Q:=fun _=>Q .next) g1 g2.1 g3 (Int.natCast_nonneg j) hf (by omega) ?_
 refine Za (lst_put (tk:=G3.s.toks) I3 hr3 g1 g2 g3 (·.setIfInBounds j u0) (l':=l.set j v) (by rw [Array.toList_setIfInBounds];exact VRs.setAt V1' j g4)) fun s4 I4=>?_
 have S:=(s1.trr I s13).trr I s4
 exact hQ (G3.at _ G3.s.toks) S.toX I4 (K.step I S)
end
section
variable {m1:Mp} {ss:List Stmt}
theorem EvE.extend {ob e1:Expr} {apos pos:Pos} {i:Nat} {b:AV} {l l' bl:List AV} (h0:EvE C D sc m σ ob (.loc i) σ1) (h1:EvE C D sc m σ1 e1 b σ2) (hbl:asL b=some bl) (ha1:σ1[i]?=some (.lst l')) (ha:σ2[i]?=some (.lst l)) (hb:notCall ob=true) (n1:noStar e1=true) (hline:(apos.endLine == pos.line)=true) (hz:l.length+bl.length≤10000) :
  EvE C D sc m σ (.Call (.Attribute ob "extend" apos) [e1] [] pos) (.p .none) (σ2.set i (.lst (l++bl))):=fun A G env hA I K Q E hQ=>by
 refine wpAny_Call_method1_late (attributeBase_of hb) hline (arg1 n1) ?_
 refine h0 A G env hA I K _ _ fun u G1 s1 I1 V1=>?_
 refine V1.loc_elim fun a hr1=>?_
 refine Zeeeaaa (I1.tget hr1 ha1) fun o1 vs1 n1' g1 g2 g3 g4=>?_
 refine (Ieeaaaaa ("list") ("list.extend") F.plainAttrs_list F.slot_list_extend F.type_list_extend (Iea o1 g1 g2.1) (fun b hb=>by cases hb;exact (Iea o1 g1 g2.2)) ?_)
 refine Calls.callWith_builtin rfl (Calls.evalArgs_plain (Calls.spliced_cons ?_))
 have K1:=K.step I s1
 refine h1 A G1 env hA I1 K1 _ _ fun u1 G2 s2 I2 V2=>Calls.spliced_nil ?_
 have hr2:=s2.rget hr1
 refine Zeeeaaa (I2.tget hr2 ha) fun o2 vs n2 g1 g2 g3 g4=>?_
 apply RLeeeeaaaaa4 (asL_vrF V2 hbl)
 intro x o3 ws n3 f1 f2 f3 f4 f5
 have hl1:=g4.length
 have hl2:=f5.length
 simp only [Array.length_toList] at hl1 hl2
 have hbig:10000 < sizeLine:=by decide
 obtain ⟨c2,d2,dt2,sl2⟩:=o2
 obtain ⟨c3,d3,dt3,sl3⟩:=o3
 simp only at g2 g3 f3 f4
 refine Za g2 fun z174 z175=>?_
 obtain rfl:=z174
 obtain rfl:=z175
 refine Za f3 fun z172 z173=>?_
 obtain rfl:=z172
 obtain rfl:=z173
 subst g3 f4
 have hc0:¬(!vs.isEmpty&&Builtin.List.listTooLong (vs.size+ws.size))=true:=by
  unfold Builtin.List.listTooLong
  have:¬ (vs.size+ws.size > sizeLine):=by walk_at "o"
  simp [this]
 refine call_meets F.slot_list_extend (Iea _ g1 rfl) F.entry_list_extend (F.args_list_extend_2 _ _) (list_extendW a x vs n2 ws n3 none none sl2 sl3 hc0 (by walk_at "o") (by walk_at "o")) (Iaa g1 f2 ?_)
 refine Za (lst_put (tk:=G2.s.toks) I2 hr2 g1 ⟨rfl,rfl⟩ rfl (fun xs=>xs++ws) (l':=l++bl) (by rw [Array.toList_append];exact g4.append f5)) fun s4 I4=>?_
 exact hQ .none (G2.at _ G2.s.toks) ((s1.trr I s2).trr I s4) I4 vr_none
theorem PRs.texts {h:Heap} {F:Addr→Prop}:∀ {us:List Value} {ts:List Str},PRs h F us (ts.map .str)→∃ l:List (Str × Tok),us=strValues l∧l.map (·.1)=ts
 | _,[],.nil=>(Iea ([]) rfl rfl)
 | _,t::ts,.cons a b=>by
  refine Zea b.texts fun l e1 e2=>?_
  cases a with
  | str x k=>exact (Iea ((t,k)::l) (by rw [e1];rfl) (by rw [List.map_cons,e2]))
theorem EvE.join {e1:Expr} {cp apos pos:Pos} {k:Nat} {x:Str} {ts:List Str} (hx:PyData.strOk x=true) (h1:EvE C D sc m σ e1 (.p (.list (ts.map .str))) σ1) (n1:noStar e1=true) (hline:(apos.endLine == pos.line)=true) (hok:JoinOk x ts=true) (hj:PyData.strOk (Txt.join x ts)=true) :
  EvE C D sc m σ (.Call (.Attribute (.Constant (.str x) k cp) "join" apos) [e1] [] pos) (.p (.str (Txt.join x ts))) σ1:=fun A G env hA I K Q E hQ=>by
 refine wpAny_Call_method1_late (attributeBase_of rfl) hline (arg1 n1) ?_
 refine (EvE.cStr (C:=C) (D:=D) (sc:=sc) (m:=m) (σ:=σ) (k:=k) (pos:=cp) hx) A G env hA I K _ _ fun u G1 s1 I1 V1=>?_
 refine Za V1.str_shape fun z171 _=>?_
 apply RLe1 z171
 intro t
 refine (Ieeaaaaa ("str") ("str.join") F.plainAttrs_str F.slot_str_join F.type_str_join (typeIs_str _ _ _) (fun b hb=>nomatch hb) ?_)
 refine Calls.callWith_builtin rfl (Calls.evalArgs_plain (Calls.spliced_cons ?_))
 refine h1 A G1 env hA I1 (K.step I s1) _ _ fun u1 G2 s2 I2 V2=>Calls.spliced_nil ?_
 apply RLeeeeaaaaaa4 V2.list_shape
 intro a o vs n g1 g2 g3 g4 g5 g6
 refine Zea g5.texts fun l e1 e2=>?_
 refine SC.join (D:=a) (l:=l) (texts:=ts) (Ieaae o g2 g3.1 n (by rw [g4,← e1])) e2 hok fun t' k'=>?_
 exact hQ (.str (Txt.join x ts) t') (G2.grow G2.h k' _) ((s1.trr I s2).trr I (toks_step _)) (toks_inv I2 _) (vr_str _ hj)
theorem JE.list0 {pos}:JE C D sc m σ (.List [] pos) (.loc σ.length) (σ++[.lst []]):=⟨EvE.list0⟩
theorem J1.setIx {ob ix val:Expr} {tp pos:Pos} {j:Int} {i:Nat} {l:List AV} (h0:JE C D sc m σ val v σ1) (h1:JE C D sc m σ1 ob (.loc i) σ2) (h2:JE C D sc m σ2 ix (.p (.int j)) σ3) (hj0:0≤j) (ha:σ3[i]?=some (.lst l)) (hj:j.toNat < l.length) (hz:l.length≤sizeLine) (hs:∀ env,swapsWith val (some (.Subscript ob ix tp)) pos.line env=pure false) :
  J1 C D sc m σ (.Assign [.Subscript ob ix tp] val pos) (.next m (σ3.set i (.lst (l.set j.toNat v)))):=by
 refine Ze (Int.eq_ofNat_of_zero_le hj0) fun k z169=>?_
 obtain rfl:=z169
 exact ⟨Ex1.setIx h0.h h1.h h2.h ha hj hz hs⟩
theorem JE.extend {ob e1:Expr} {apos pos:Pos} {i:Nat} {b:AV} {l l' bl:List AV} (h0:JE C D sc m σ ob (.loc i) σ1) (h1:JE C D sc m σ1 e1 b σ2) (hbl:asL b=some bl) (ha1:σ1[i]?=some (.lst l')) (ha:σ2[i]?=some (.lst l)) (hb:notCall ob=true) (n1:noStar e1=true) (hline:(apos.endLine == pos.line)=true) (hz:l.length+bl.length≤10000) :
  JE C D sc m σ (.Call (.Attribute ob "extend" apos) [e1] [] pos) (.p .none) (σ2.set i (.lst (l++bl))):=⟨EvE.extend h0.h h1.h hbl ha1 ha hb n1 hline hz⟩
theorem JE.join {e1:Expr} {cp apos pos:Pos} {k:Nat} {x:Str} {ts:List Str} {xs:List PyData} (hx:PyData.strOk x=true) (h1:JE C D sc m σ e1 (.p (.list xs)) σ1) (hxs:xs=ts.map .str) (n1:noStar e1=true) (hline:(apos.endLine == pos.line)=true) (hok:JoinOk x ts=true) (hj:PyData.strOk (Txt.join x ts)=true) :
  JE C D sc m σ (.Call (.Attribute (.Constant (.str x) k cp) "join" apos) [e1] [] pos) (.p (.str (Txt.join x ts))) σ1:=by
 subst hxs
 exact ⟨EvE.join hx h1.h n1 hline hok hj⟩
end
section
variable {m1:Mp} {ss:List Stmt} {bt:AV→Option (Mp)} {elt cnd:Expr} {f:Addr}
theorem CompJ0.each {α:Type} {g f:α→AV} {l:List α} (h:∀ a∈l,∃ b,bt (g a)=some b∧JE C D sc (b++m) σ elt (f a) σ):CompJ0 C D sc bt elt m (l.map g) σ (l.map f) σ:=by
 induction l with
 | nil=>exact .nil
 | cons a l ih=>
  refine Zea (h a (List.mem_cons_self ..)) fun b h1 h2=>?_
  exact .cons h1 h2 (ih fun x hx=>h x (List.mem_cons_of_mem _ hx))
theorem CompJ1.each {α:Type} {g f:α→AV} {q:α→Bool} {l:List α} (h:∀ a∈l,∃ b,bt (g a)=some b∧JT C D sc (b++m) σ cnd (q a) σ∧(q a=true→JE C D sc (b++m) σ elt (f a) σ)):CompJ1 C D sc bt cnd elt m (l.map g) σ ((l.filter q).map f) σ:=by
 induction l with
 | nil=>exact .nil
 | cons a l ih=>
  refine Zeaa (h a (List.mem_cons_self ..)) fun b h1 h2 h3=>?_
  have ih:=ih fun x hx=>h x (List.mem_cons_of_mem _ hx)
  cases hq:q a with
  | true=>
   rw [List.filter_cons_of_pos hq]
   rw [hq] at h2
   exact .keep h1 h2 (h3 hq) ih
  | false=>
   rw [List.filter_cons_of_neg (by simp [hq])]
   rw [hq] at h2
   exact .skip h1 h2 ih
theorem allP_map {α:Type} (f:α→PyData):∀ l:List α,allP (l.map fun a=>.p (f a))=some (l.map f)
 | []=>rfl
 | a::l=>by rw [List.map_cons,allP,allP_map f l];rfl
theorem mkL_map {α:Type} (f:α→PyData) (l:List α):mkL (l.map fun a=>.p (f a))=.p (.list (l.map f)):=by unfold mkL;rw [allP_map]
theorem JS.defRet (ok:C.Ok) {nm q:Str} {params:Arguments} {body:List Stmt} {dpos rpos:Pos} {ex:Expr} {l:Mp} (pl:Place C sc m q nm) (cp:Capt m scope sc l) (hnm:sc.names.lookup nm=some .local∨sc.names.lookup nm=some .cell) (hsf:(nm,NameKind.free) ∉ scope.names) (hd0:params.defaults=[]) (hk0:params.kw_defaults=[]) (ha:∀ env,annTrees params none env=[])
  (h:JE C D sc ((nm,.clo ⟨nm,q++nm,params,.stmts body,scope⟩ l)::m) σ ex v σ') (hn:∀ o∈σ',ncO o=true) (hv:nc v=true) :
  JS C D sc m σ [.FunctionDef nm params body [] none [] scope none nm dpos,.Return (some ex) rpos] (.ret v σ'):=⟨ExS.defRet ok pl cp hnm hsf hd0 hk0 ha h.h hn hv⟩
theorem JE.callLam (ok:C.Ok) {x:Str} {np pos lpos:Pos} {f:Addr} {params:Arguments} {body:Expr} {q:Str} {l:Mp} (hf:JE C D sc m σ (.Name x np) (.val (.ref f)) σ) (hk:keepIn C.K (.ref f)=true)
  (pl:Place C sc m q "<lambda>") (cp:Capt m scope sc l) (hdef:∀ env,defaultsOf params env=([],[])) (h:CallR C D f [.clo ⟨"<lambda>",q++"<lambda>",params,.expr body,scope⟩ l] σ (.ret v σ')) (hn:∀ o∈σ',ncO o=true) (hv:nc v=true) :
  JE C D sc m σ (.Call (.Name x np) [.Lambda params body scope lpos] [] pos) v σ':=⟨EvE.callLam ok hf.h hk pl cp hdef h hn hv⟩
theorem J1.raise (ok:C.Ok) {x:Str} (M:ExcCls C x c f) {ex:Expr} {pos:Pos} {i:Nat} {d:Option Nat} (h:JE C D sc m σ ex (.loc i) σ') (hi:σ'[i]?=some (.exc c d)) (hn:σ.length≤n) (hni:n≤i) (hb:∀ o∈σ'.take n,belO n o=true) :
  J1 C D sc m σ (.Raise (some ex) none pos) (.exc c (σ'.take n)):=⟨Ex1.raise ok M h.h hi hn hni hb⟩
theorem J1.setAttr (ok:C.Ok) {ob val:Expr} {name:Str} {ap pos:Pos} {i d:Nat} {l:Mp} (h0:JE C D sc m σ val v σ1) (h1:JE C D sc m σ1 ob (.loc i) σ2) (cs:ClsSet C c name) (hi:σ2[i]?=some (.ins c d)) (hd:σ2[d]?=some (.att l)) (hl:l.length < 1000) (hs:∀ env,swapsWith val (some (.Attribute ob name ap)) pos.line env=pure false) :
  J1 C D sc m σ (.Assign [.Attribute ob name ap] val pos) (.next m (σ2.set d (.att (putA name v l)))):=⟨Ex1.setAttr ok h0.h h1.h cs hi hd hl hs⟩
theorem J1.setExc0 (ok:C.Ok) {ob val:Expr} {name:Str} {ap pos:Pos} {i:Nat} (h0:JE C D sc m σ val v σ1) (h1:JE C D sc m σ1 ob (.loc i) σ2) (cs:ExcSet C c name) (hi:σ2[i]?=some (.exc c none)) (hs:∀ env,swapsWith val (some (.Attribute ob name ap)) pos.line env=pure false) :
  J1 C D sc m σ (.Assign [.Attribute ob name ap] val pos) (.next m (((σ2++[AO.att []]).set i (.exc c (some σ2.length))).set σ2.length (.att (putA name v [])))):=⟨Ex1.setExc0 ok h0.h h1.h cs hi hs⟩
theorem J1.setExc (ok:C.Ok) {ob val:Expr} {name:Str} {ap pos:Pos} {i d:Nat} {l:Mp} (h0:JE C D sc m σ val v σ1) (h1:JE C D sc m σ1 ob (.loc i) σ2) (cs:ExcSet C c name) (hi:σ2[i]?=some (.exc c (some d))) (hd:σ2[d]?=some (.att l)) (hl:l.length < 1000) (hs:∀ env,swapsWith val (some (.Attribute ob name ap)) pos.line env=pure false) :
  J1 C D sc m σ (.Assign [.Attribute ob name ap] val pos) (.next m (σ2.set d (.att (putA name v l)))):=⟨Ex1.setExc ok h0.h h1.h cs hi hd hl hs⟩
theorem JE.excInit (ok:C.Ok) {x:Str} (M:ExcCls C x c f) {e1 e2:Expr} {np apos pos:Pos} {i:Nat} {d:Option Nat} (hm:C.mg "Exception"=none) (hb:bootBuiltins "Exception"=some (.type "Exception")) (hk:sc.names.lookup ("Exception":Str)=some .globalImplicit)
  (hfc:findCls C.K (.type "Exception") (.type "type") "__init__"=some (.val (.builtin "Exception.__init__"))) (ha:JL C D sc m σ [e1,e2] [.loc i,v] σ') (hs:noStars [e1,e2]=true) (hi:σ'[i]?=some (.exc c d)) (hline:(apos.endLine == pos.line)=true) :
  JE C D sc m σ (.Call (.Attribute (.Name "Exception" np) "__init__" apos) [e1,e2] [] pos) (.p .none) σ':=⟨EvE.excInit ok M hm hb hk hfc ha.h hs hi hline⟩
theorem CallR.nn {vs:List AV} (h:CallR C D f vs σ (.next m σ')):CallR C D f vs σ (.ret (.p .none) σ'):=fun A G us hA I SK VS Q E hQ=>h A G us hA I SK VS Q E fun G' st I'=>hQ .none G' st I' vr_none
theorem JE.callCls (ok:C.Ok) {x:Str} {np pos:Pos} {a:Expr} {args:List Expr} {vs:List AV} (hx:C.mg x=some (.ref c)) (hkp:keepIn C.K (.ref c)=true) (hk:sc.names.lookup x=some .globalImplicit) (hd:(x == ("__debug__":Str))=false) (hs:noStars (a::args)=true) (ha:JL C D sc m σ (a::args) vs σ')
  (h:CallV C D (.val (.ref c)) vs σ' (.ret v σ2)):JE C D sc m σ (.Call (.Name x np) (a::args) [] pos) v σ2:=
 ⟨EvE.callL (fv:=.val (.ref c)) ok (EvE.glob (gl:=fun y=>if y=x then some (.val (.ref c)) else none) ok (fun y v h=>by
  by_cases hy:y=x
  ·subst hy;simp at h;subst h;exact (Iea _ hx (fun _ _ _=>.val _))
  ·simp [hy] at h) (by simp) hk hd) hkp hs ha.h h⟩
end
noncomputable def captB (ks:List Str) (scope sc:Scope):Bool:=(scope.names.all fun x=>x.2 != .free||((sc.names.lookup x.1 == some .cell||sc.names.lookup x.1 == some .free)&&ks.any fun k=>k == x.1))&&ks.all fun k=>scope.names.lookup k == some .free
theorem lookup_some_any {k:Str}:∀ {l:Mp},(l.map (·.1)).any (fun y=>y == k)=true→(l.lookup k).isSome=true
 | [],h=>nomatch h
 | (a,v)::l,h=>by
  rw [List.lookup_cons]
  cases q:k == a with
  | true=>rfl
  | false=>
   simp only [List.map_cons,List.any_cons] at h
   have:(a == k)=false:=by rw [beq_eq_false_iff_ne] at q ⊢;exact fun e=>q e.symm
   rw [this] at h
   exact lookup_some_any (by simpa using h)
theorem Capt.of {m:Mp} {scope sc:Scope} {l:Mp} (h:captB (l.map (·.1)) scope sc=true) (h2:∀ p∈l,m.lookup p.1=some p.2):Capt m scope sc l:=by
 simp only [captB,Bool.and_eq_true,List.all_eq_true] at h
 refine Za h fun h1 h3=>?_
 refine ⟨fun x hx hf=>?_,fun x hx hf=>?_,fun p hp=>⟨h2 p hp,?_⟩⟩
 ·have h5:((sc.names.lookup x.1 == some .cell||sc.names.lookup x.1 == some .free)&&(l.map (·.1)).any fun k=>k == x.1)=true:=by have:=h1 x hx;rw [hf] at this;exact this
  have h4:=(Bool.and_eq_true_iff.mp h5).1
  rcases Bool.or_eq_true_iff.mp h4 with h4 | h4
  ·exact .inl (eq_of_beq h4)
  ·exact .inr (eq_of_beq h4)
 ·have h5:((sc.names.lookup x.1 == some .cell||sc.names.lookup x.1 == some .free)&&(l.map (·.1)).any fun k=>k == x.1)=true:=by have:=h1 x hx;rw [hf] at this;exact this
  exact lookup_some_any (Bool.and_eq_true_iff.mp h5).2
 ·exact eq_of_beq (h3 p.1 (List.mem_map_of_mem hp))
noncomputable def defT (q:Str):Stmt→Tmpl
 | .FunctionDef nm params body _ _ _ scope _ _ _=>⟨nm,q,params,.stmts body,scope⟩
 | _=>⟨q,q,{ posonlyargs:=[],args:=[],vararg:=none,kwonlyargs:=[],kw_defaults:=[],kwarg:=none,defaults:=[] },.stmts [],{ kind:=.module,names:=[],isGenerator:=false,isCoroutine:=false,more:=[] }⟩
section
variable {m1:Mp} {bt:AV→Option (Mp)} {elt cnd iter target:Expr} {l tot:List AV} {ns:List Str}
theorem JE.compM0v {pos:Pos} (h:JM C D sc m σ iter target bt l ns σ') (so:ScopeOk scope sc) (hn:locB ns scope=true) (hC:CompJ0 C D (relabelS scope sc) bt elt (mCof scope m) l σ' tot σ'') (hz:tot.length≤sizeLine) (ht:mkL tot=v) (hs:∀ env x,foldedSetIterable iter env x=pure x) :
  JE C D sc m σ (.ListComp elt [⟨target,iter,[],0⟩] scope pos) v σ'':=ht▸JE.compM0 h so hn hC hz hs
theorem JE.compM1v {pos:Pos} (h:JM C D sc m σ iter target bt l ns σ') (so:ScopeOk scope sc) (hn:locB ns scope=true) (hC:CompJ1 C D (relabelS scope sc) bt cnd elt (mCof scope m) l σ' tot σ'') (hz:tot.length≤sizeLine) (ht:mkL tot=v) (hs:∀ env x,foldedSetIterable iter env x=pure x) :
  JE C D sc m σ (.ListComp elt [⟨target,iter,[cnd],0⟩] scope pos) v σ'':=ht▸JE.compM1 h so hn hC hz hs
theorem J1.compM0v {y:Str} {py pos spos:Pos} (h:JM C D sc m σ iter target bt l ns σ') (so:ScopeOk scope sc) (hn:locB ns scope=true) (hC:CompJ0 C D (relabelS scope sc) bt elt (mCof scope m) l σ' tot σ'') (hz:tot.length≤sizeLine) (ht:mkL tot=v) (hs:∀ env x,foldedSetIterable iter env x=pure x) (hy:sc.names.lookup y=some .local)
  (hsw:(py.line == pos.line&&!(scope.names.any fun (n,k)=>n == y&&(k == .local||k == .cell)))=true) :
  J1 C D sc m σ (.Assign [.Name y py] (.ListComp elt [⟨target,iter,[],0⟩] scope pos) spos) (.next ((y,v)::m) σ''):=ht▸J1.compM0 h so hn hC hz hs hy hsw
theorem J1.compM1v {y:Str} {py pos spos:Pos} (h:JM C D sc m σ iter target bt l ns σ') (so:ScopeOk scope sc) (hn:locB ns scope=true) (hC:CompJ1 C D (relabelS scope sc) bt cnd elt (mCof scope m) l σ' tot σ'') (hz:tot.length≤sizeLine) (ht:mkL tot=v) (hs:∀ env x,foldedSetIterable iter env x=pure x) (hy:sc.names.lookup y=some .local)
  (hsw:(py.line == pos.line&&!(scope.names.any fun (n,k)=>n == y&&(k == .local||k == .cell)))=true) :
  J1 C D sc m σ (.Assign [.Name y py] (.ListComp elt [⟨target,iter,[cnd],0⟩] scope pos) spos) (.next ((y,v)::m) σ''):=ht▸J1.compM1 h so hn hC hz hs hy hsw
end
section
variable {m1:Mp} {bt:AV→Option (Mp)} {elt cnd iter target:Expr} {l tot:List AV} {ns:List Str} {ss:List Stmt}
theorem LoopJ.untilX {α:Type} {body:List Stmt} {g:α→AV} {f:α→Bool} {l:List α} (h:∀ a∈l,∃ b,bt (g a)=some b∧JS C D sc (b++m) σ body (if f a=true then .exc c σ else .next m σ)) :
  LoopJ C D sc bt body (l.map g) m σ (if l.any f=true then .exc c σ else .next m σ):=by
 induction l with
 | nil=>exact LoopJ.nil
 | cons a l ih=>
  refine Zea (h a (List.mem_cons_self ..)) fun b h1 h2=>?_
  have ih:=ih fun x hx=>h x (List.mem_cons_of_mem _ hx)
  cases hf:f a with
  | true=>
   rw [hf,if_pos rfl] at h2
   simp only [List.any_cons,hf,Bool.true_or,if_true]
   exact .exc h1 h2
  | false=>
   rw [hf,if_neg (by simp)] at h2
   simp only [List.any_cons,hf,Bool.false_or]
   exact .next h1 h2 ih
theorem JS.nw (h:JS C D sc m' σ ss (.next m1 σ')) (hw:∀ x v,m.lookup x=some v→m1.lookup x=some v):JS C D sc m' σ ss (.next m σ'):=⟨h.h.nextWeak hw⟩
theorem J1.callX (ok:C.Ok) {x:Str} {f:Addr} {ps:List Str} {body:List Stmt} {scf:Scope} {np pos epos:Pos} {a:Expr} {args:List Expr} {vs:List AV} (F:FunOk C x f ps body scf) (hk:sc.names.lookup x=some .globalImplicit) (hd:(x == ("__debug__":Str))=false) (hs:noStars (a::args)=true) (ha:JL C D sc m σ (a::args) vs σ')
  (h:CallR C D f vs σ' (.exc c σ'')) (hw:∀ env,swapsWith (.Call (.Name x np) (a::args) [] pos) none epos.line env=pure false):J1 C D sc m σ (.Expr (.Call (.Name x np) (a::args) [] pos) epos) (.exc c σ''):=⟨Ex1.exprX (EvX.call ok (EvE.fn ok F hk hd) F.keep hs ha.h h) hw⟩
end
end
inductive CompS2 (C:Cx) (D:Nat) (sc:Scope) (bt1 bt2:AV→Option (Mp)) (iter2 elt:Expr) (m:Mp):List AV→Sto→List AV→Sto→Prop
 | nil {σ}:CompS2 C D sc bt1 bt2 iter2 elt m [] σ [] σ
 | cons {x xs b a l2 σ σ1 vs1 σ2 vs σ'}:bt1 x=some b→EvE C D sc (b++m) σ iter2 a σ1→asF a=some l2→isLst a=true→CompS C D sc bt2 [] elt (b++m) l2 σ1 vs1 σ2→CompS2 C D sc bt1 bt2 iter2 elt m xs σ2 vs σ'→CompS2 C D sc bt1 bt2 iter2 elt m (x::xs) σ (vs1++vs) σ'
section
variable {C:Cx} {D n:Nat} {sc sc0 scope:Scope} {m m' mB mC:Mp} {σ σ' σ'' σ1 σ2 σ3:Sto} {v:AV} {o:Out} {A A2:Around} {G G' G'' R:St} {env:Env} {c e T:Addr} {X Y Z:Addr→Prop}
section
theorem compTurn_listI (elt target iter:Expr) (g1:Comprehension) (ifs:List Expr) (scope:Scope) (pos:Pos) (it acc:Value) (env:Env) :
  compTurn (.ListComp elt [g1,⟨target,iter,ifs,0⟩] scope pos) 1 it acc env=(do
   standAt iter.pos
   match ← pyNext it with
   | none=>pure (.done .next)
   | some v=>
    letOwnedTupleGo target it v
    assign target env v
    let mut ok:=true
    for c in ifs do
     if ok then ok ← isTrue c env (eval c env)
    if ok then
     (do let _ ← call (.builtin "list.append") [acc,← eval elt env])
    again (.compLoop (.ListComp elt [g1,⟨target,iter,ifs,0⟩] scope pos) 1 it acc env)):=by rfl
theorem compTurn_listO (elt t1 i1 t2 i2:Expr) (ifs2:List Expr) (scope:Scope) (pos:Pos) (it acc:Value) (env:Env) :
  compTurn (.ListComp elt [⟨t1,i1,[],0⟩,⟨t2,i2,ifs2,0⟩] scope pos) 0 it acc env=(do
   standAt i1.pos
   match ← pyNext it with
   | none=>pure (.done .next)
   | some v=>
    letOwnedTupleGo t1 it v
    assign t1 env v
    let x ← eval i2 env
    standAt i2.pos
    let x ← foldedSetIterable i2 env x
    let _ ← runOwn (.compStart (.ListComp elt [⟨t1,i1,[],0⟩,⟨t2,i2,ifs2,0⟩] scope pos) 1 (← holding [x] (pyIter x)) acc env) env
    again (.compLoop (.ListComp elt [⟨t1,i1,[],0⟩,⟨t2,i2,ifs2,0⟩] scope pos) 0 it acc env)):=by rfl
end
section
theorem codeAny_compStart_listI {prog:Program} {w:World} {A:Around} {R:Result→Shared→Prop} {s:Shared} {elt target iter:Expr} {g1:Comprehension} {ifs:List Expr} {scope:Scope} {pos:Pos} {it acc:Value} {env:Env}
  (h0:codeAny (model prog w) A (.compLoop (.ListComp elt [g1,⟨target,iter,ifs,0⟩] scope pos) 1 it acc env) R s)
  (h:wpAny (model prog w) A (pyIter it) (fun it' s'=>codeAny (model prog w) A (.compLoop (.ListComp elt [g1,⟨target,iter,ifs,0⟩] scope pos) 1 it' acc env) R s')
   (notedBy (model prog w) A env fun x s'=>R (.error x) s') s) :
  codeAny (model prog w) A (.compStart (.ListComp elt [g1,⟨target,iter,ifs,0⟩] scope pos) 1 it acc env) R s:=by
 refine codeAny_of_tree ?_
 refine (?_:wpAny _ _ ((compStart (.ListComp elt [g1,⟨target,iter,ifs,0⟩] scope pos) 1 it acc env).onRaise (fun x=>do noteFrame x env;standAt theWindowsPlace)) _ _ s)
 refine wpAny_notedAt ?_
 unfold compStart
 refine (?_:wpAny _ _ (ask >>= _) _ _ s)
 refine wpAny_bind (wpAny_askSetting (wpAny_ite ?_))
 split
 ·exact wpAny_pure (And.intro rfl h0)
 ·refine wpAny_bind (wpAny_rule ?_)
  refine (?_:wpAny _ _ (standAt iter.pos >>= _) _ _ s)
  exact wpAny_bind (wpAny_standAt (wpAny_bind (wpAny_mono h (fun it' s' h'=>wpAny_pure (And.intro rfl h')) fun _ _ x=>x)))
theorem comp_loopI {bt:AV→Option (Mp)} {ifs:List Expr} {elt target iter:Expr} {g1:Comprehension} {fp0:Addr→Prop} {J0:St→Prop} {scope:Scope} {pos:Pos} {it:Value} {fp:Addr→Prop} {J:List AV→St→Prop} {Dl:Addr} {xs vs0 tot:List AV}
  (hCS:CompS C D sc bt ifs elt mC xs σ tot σ') (IT:IterOk C A R R.tr env sc0 sc target it bt fp J) (hbt:∀ x b,bt x=some b→∀ y v,mC.lookup y=some v→(b++mC).lookup y=some v)
  (O:OwnOk C G env sc0) (j0:J0 G) (keep0:∀ {G G1 σ} {X:Addr→Prop},J0 G→Inv C G σ→Step C X G G1→(∀ a,X a→¬ fp0 a)→(∀ a,X a→¬ G.F a)→J0 G1) (pv0:∀ {G p},J0 G→fp0 p→Pv C R G env p) (dis:∀ p,fp p→¬ fp0 p) (hD0:¬ fp0 Dl)
  (hD:¬ fp Dl) (j:J xs G) (S0:Step C R.tr R G) (hA:AOk A D) (I:Inv C G σ) (K:EnvOk C A G env sc mC) (AC:Acc C R G env Dl vs0) (hz:vs0.length+tot.length≤sizeLine) {Q:Result→Shared→Prop}
  (hQ:∀ G1 h' tk,Step C R.tr R G1→Inv C G1 σ'→EnvOk C A G1 env sc mC→Acc C R G1 env Dl (vs0++tot)→J [] G1→J0 G1→OwnOk C G1 env sc0→(∀ b o,¬ fp b→G1.h.get? b=some o→h'.get? b=some o)→Q (.ok .next) { G1.s with heap:=h',toks:=tk }) :
  codeAny (model C.prog C.w) A (.compLoop (.ListComp elt [g1,⟨target,iter,ifs,0⟩] scope pos) 1 it (.ref Dl) env) Q G.s:=
 comp_loopG (fun _=>compTurn_listI ..) hCS IT hbt O j0 keep0 pv0 dis hD0 hD j S0 hA I K AC hz hQ
end
section
theorem comp_turnsO {prog:Program} {w:World} {A:Around} {R:Result→Shared→Prop} {s:Shared} {elt t1 i1 t2 i2:Expr} {ifs2:List Expr} {scope:Scope} {pos:Pos} {it acc:Value} {env:Env} (hs:∀ x,foldedSetIterable i2 env x=pure x) (I:Nat→Shared→Prop)
  (turn:∀ n s,I n s→wpAny (model prog w) A (pyNext it) (fun r s₁=>match r with
   | none=>R (.ok .next) s₁
   | some v=>wpAny (model prog w) A (letOwnedTupleGo t1 it v) (fun _ s₁'=>wpAny (model prog w) A (assign t1 env v) (fun _ s₂=>
     wpAny (model prog w) A (eval i2 env) (fun x s₃=>wpAny (model prog w) A (pyIter x) (fun it2 s₄=>
      codeAny (model prog w) A (.compStart (.ListComp elt [⟨t1,i1,[],0⟩,⟨t2,i2,ifs2,0⟩] scope pos) 1 it2 acc env) (fun r s'=>match r with
       | .ok _=>∃ m,m < n∧I m s'
       | .error e=>cameBackBy (model prog w) A env (notedBy (model prog w) A env fun e s'=>R (.error e) s') e s') s₄) (notedBy (model prog w) A env fun e s'=>R (.error e) s') s₃) (notedBy (model prog w) A env fun e s'=>R (.error e) s') s₂) (notedBy (model prog w) A env fun e s'=>R (.error e) s') s₁') (notedBy (model prog w) A env fun e s'=>R (.error e) s') s₁) (notedBy (model prog w) A env fun e s'=>R (.error e) s') s)
  (n:Nat) (h:I n s) :
  codeAny (model prog w) A (.compLoop (.ListComp elt [⟨t1,i1,[],0⟩,⟨t2,i2,ifs2,0⟩] scope pos) 0 it acc env) R s:=by
 refine codeAny_loop rfl I (fun n s hI=>?_) n h
 refine (?_:wpAny _ A ((compTurn (.ListComp elt [⟨t1,i1,[],0⟩,⟨t2,i2,ifs2,0⟩] scope pos) 0 it acc env).onRaise (fun x=>do noteFrame x env;theTreesLotGoes x)) _ _ s)
 refine wpAny_noted ?_
 rw [compTurn_listO]
 refine wpAny_bind (wpAny_standAt (wpAny_bind (wpAny_mono (turn n s hI) (fun r s₁ h₁=>?_) fun _ _ h'=>h')))
 cases r with
 | none=>exact wpAny_pure h₁
 | some v=>
  refine wpAny_bind (wpAny_mono h₁ (fun _ s₁' h₁'=>?_) fun _ _ h'=>h')
  refine wpAny_bind (wpAny_mono h₁' (fun _ s₂ h₂=>wpAny_bind (wpAny_mono h₂ (fun x s₃ h₃=>?_) fun _ _ h'=>h')) fun _ _ h'=>h')
  refine wpAny_bind (wpAny_standAt ?_)
  rw [hs x]
  refine wpAny_bind (wpAny_pure ?_)
  refine wpAny_bind (wpAny_holding (wpAny_mono h₃ (fun it2 s₄ h₄=>?_) fun _ _ h'=>h'))
  refine wpAny_bind (wpAny_runOwn (codeAny_mono h₄ fun r s' hr=>?_))
  cases r with
  | ok f=>exact wpAny_pure ⟨rfl,hr⟩
  | error e=>exact hr
theorem Acc.at {fp:Addr→Prop} {Dl:Addr} {vs:List AV} (a:Acc C R G env Dl vs) (hfp:∀ b,fp b→¬ G.F b) (hD:¬ fp Dl) {h':Heap} {tk:Nat} (hk:∀ b o,¬ fp b→G.h.get? b=some o→h'.get? b=some o):Acc C R (G.at h' tk) env Dl vs:=by
 refine Zea a.lst fun ys z181 VS=>?_
 refine Zeea z181 fun o n e r=>?_
 refine Ze a.pv.live fun o' e'=>?_
 exact ⟨⟨⟨a.pv.off.f,a.pv.off.r,a.pv.off.t,a.pv.off.s⟩,a.pv.loc,a.pv.cel,a.pv.dead,o',hk _ _ hD e'⟩,ys,(Ieea o n (hk _ _ hD e) r),VS.at hfp hk⟩
theorem JLst.at {fp:Addr→Prop} {I ax:Addr} {l xs:List AV} (j:JLst C R env I ax l xs G) (hfp:∀ b,fp b→¬ G.F b) (hI:¬ fp I) {h':Heap} {tk:Nat} (hk:∀ b o,¬ fp b→G.h.get? b=some o→h'.get? b=some o):JLst C R env I ax l xs (G.at h' tk):=by
 refine Zae j fun z180 k hk0=>?_
 refine Zeeaaaaa z180 fun i vs e hi pv hf VS h=>?_
 have kI:∀ o,G.h.get? I=some o→h'.get? I=some o:=fun o eo=>hk I o hI eo
 have kA:∀ o,G.h.get? ax=some o→h'.get? ax=some o:=fun o eo=>hk ax o (fun q=>hfp _ q hf) eo
 refine Ze pv.live fun o' e'=>?_
 exact (Iae (Ieeaaaaa i vs e hi ⟨⟨pv.off.f,pv.off.r,pv.off.t,pv.off.s⟩,pv.loc,pv.cel,pv.dead,o',kI _ e'⟩ hf (VS.at hfp hk) (h.imp (fun p=>⟨p.1.at kI,p.2.at kA⟩) fun p=>⟨p.1.at kI,p.2.at kA⟩)) k (hk0.at kI))
noncomputable def CompInv2 (C:Cx) (D:Nat) (A:Around) (R:St) (env:Env) (sc0 sc:Scope) (bt1 bt2:AV→Option (Mp)) (i2 elt:Expr) (mC:Mp) (J:List AV→St→Prop) (I1:Addr) (Dl:Addr) (σ':Sto) (Q:Result→Shared→Prop) (n:Nat) (s:Shared):Prop:=
 ∃ (xs vs0 tot1:List AV) (σ:Sto) (G:St),n=xs.length∧s=G.s∧CompS2 C D sc bt1 bt2 i2 elt mC xs σ tot1 σ'∧J xs G∧Step C R.tr R G∧Inv C G σ∧EnvOk C A G env sc mC∧OwnOk C G env sc0∧Acc C R G env Dl vs0∧vs0.length+tot1.length≤sizeLine ∧
  (∀ G1 h' tk,Step C R.tr R G1→Inv C G1 σ'→EnvOk C A G1 env sc mC→Acc C R G1 env Dl (vs0++tot1)→J [] G1→(∀ b o,¬ b=I1→G1.h.get? b=some o→h'.get? b=some o)→Q (.ok .next) { G1.s with heap:=h',toks:=tk })
theorem comp_loop2 {ns1 ns2:List Str} {poss1 poss2:List Pos} {k1 k2:Nat} {p1 p2:Pos} {elt i1 i2:Expr} {scope:Scope} {pos:Pos} {I1 ax1 Dl:Addr} {l1 xs vs0 tot:List AV}
  (hCS:CompS2 C D sc (bindNames ns1) (bindNames ns2) i2 elt mC xs σ tot σ')
  (hn1:∀ n∈ns1,sc.names.lookup n=some .local∧sc0.names.lookup n=some .local) (hp1:poss1.length=ns1.length) (hn2:∀ n∈ns2,sc.names.lookup n=some .local∧sc0.names.lookup n=some .local) (hp2:poss2.length=ns2.length)
  (hY:∀ a,Xe env sc0 a→R.tr a∨R.h.get? a=none)
  (hbt:∀ x b,bindNames ns1 x=some b→∀ y v,mC.lookup y=some v→(b++mC).lookup y=some v)
  (hbt2:∀ x b x2 b2,bindNames ns1 x=some b→bindNames ns2 x2=some b2→∀ y v,(b++mC).lookup y=some v→(b2++(b++mC)).lookup y=some v)
  (hs:∀ x,foldedSetIterable i2 env x=pure x)
  (O:OwnOk C G env sc0)
  (hD:¬ Dl=I1) (j:JLst C R env I1 ax1 l1 xs G) (S0:Step C R.tr R G) (hA:AOk A D) (I:Inv C G σ) (K:EnvOk C A G env sc mC) (AC:Acc C R G env Dl vs0) (hz:vs0.length+tot.length≤sizeLine) {Q:Result→Shared→Prop}
  (hQ:∀ G1 h' tk,Step C R.tr R G1→Inv C G1 σ'→EnvOk C A G1 env sc mC→Acc C R G1 env Dl (vs0++tot)→JLst C R env I1 ax1 l1 [] G1→(∀ b o,¬ b=I1→G1.h.get? b=some o→h'.get? b=some o)→Q (.ok .next) { G1.s with heap:=h',toks:=tk }) :
  codeAny (model C.prog C.w) A (.compLoop (.ListComp elt [⟨.Tuple ((ns1.zip poss1).map fun p=>Expr.Name p.1 p.2) k1 p1,i1,[],0⟩,⟨.Tuple ((ns2.zip poss2).map fun p=>Expr.Name p.1 p.2) k2 p2,i2,[],0⟩] scope pos) 0 (.ref I1) (.ref Dl) env) Q G.s:=by
 have IT:IterOk C A R R.tr env sc0 sc (.Tuple ((ns1.zip poss1).map fun p=>Expr.Name p.1 p.2) k1 p1) (.ref I1) (bindNames ns1) (fun a=>a=I1) (JLst C R env I1 ax1 l1):=iter_names hA.1 hn1 hp1 hY fun a ha=>ha
 refine comp_turnsO hs (CompInv2 C D A R env sc0 sc (bindNames ns1) (bindNames ns2) i2 elt mC (JLst C R env I1 ax1 l1) I1 Dl σ' Q) ?_ xs.length ⟨xs,vs0,tot,σ,G,rfl,rfl,hCS,j,S0,I,K,O,AC,hz,hQ⟩
 clear hz hQ AC K I S0 j O hCS
 rintro n s ⟨xs,vs0,tot,σ,G,rfl,rfl,hCS,j,S0,I,K,O,AC,hz,hQ⟩
 have nfp:∀ {G1:St} {ys:List AV},JLst C R env I1 ax1 l1 ys G1→∀ a,G1.tr a→¬ a=I1:=fun j1 a h q=>(IT.pv j1 q).off.r h
 induction hCS using CompS2.casesOn with
 | nil=>
  refine wpAny_mono (IT.fin (Q:=fun s₁=>Q (.ok .next) s₁) j I fun h' tk hk=>?_) (fun r s₁ h=>?_) fun _ _ h=>h
  ·exact hQ G h' tk S0 I K (by simpa using AC) j hk
  ·cases r with
   | none=>exact h
   | some v=>exact h.elim
 | @cons x xs b a l2 σ σ1 vs1 σ2 vs σ' hb hE ha hl hC hL=>
  refine wpAny_mono (IT.nxt (Q:=fun s₂=>wpAny (model C.prog C.w) A (eval i2 env) (fun x2 s₃=>wpAny (model C.prog C.w) A (pyIter x2) (fun it2 s₄=>
      codeAny (model C.prog C.w) A (.compStart (.ListComp elt [⟨.Tuple ((ns1.zip poss1).map fun p=>Expr.Name p.1 p.2) k1 p1,i1,[],0⟩,⟨.Tuple ((ns2.zip poss2).map fun p=>Expr.Name p.1 p.2) k2 p2,i2,[],0⟩] scope pos) 1 it2 (.ref Dl) env) (fun r s'=>match r with
       | .ok _=>∃ m,m < (x::xs).length∧CompInv2 C D A R env sc0 sc (bindNames ns1) (bindNames ns2) i2 elt mC (JLst C R env I1 ax1 l1) I1 Dl σ' Q m s'
       | .error e=>cameBackBy (model C.prog C.w) A env (notedBy (model C.prog C.w) A env fun e s'=>Q (.error e) s') e s') s₄) (notedBy (model C.prog C.w) A env fun e s'=>Q (.error e) s') s₃) (notedBy (model C.prog C.w) A env fun e s'=>Q (.error e) s') s₂) hb j I K S0 fun G1 S1 s1 I1' K1 j1=>?_) (fun r s₁ h=>?_) fun _ _ h=>h
  rotate_left
  ·cases r with
   | none=>exact h.elim
   | some v=>exact h
  have AC1:Acc C R G1 env Dl vs0:=AC.step I s1 (fun q=>q.elim hD AC.pv.nXe) fun a ha=>ha.elim (fun q=>(IT.pv j q).off.f) fun q=>Xe.nF K O a q
  have O1:=O.stepL K s1
  refine hE A G1 env hA I1' K1 _ _ fun u G2 s2 I2 V2=>?_
  have K2:=K1.step I1' s2
  have AC2:=AC1.step I1' s2 (fun q=>AC1.pv.off.r q) I1'.hX
  have j2:=IT.keep j1 I1' s2 (nfp j1) I1'.hX
  have O2:=O1.stepL K1 s2
  have S2:=S1.trans s2 fun a h=>S1.rold h
  refine mk_seq0 I2 V2 ha fun ax G3 s3 I3 hst off hkk=>?_
  refine Zeaa hst fun vs hF VS hit=>?_
  have K3:=K2.step I2 (s3.weaken fun _ h=>h.elim)
  have AC3:=AC2.step I2 s3 (fun q=>q) fun _ h=>h.elim
  have j3:=IT.keep j2 I2 s3 (fun _ h=>h.elim) fun _ h=>h.elim
  have O3:=O2.stepL K2 s3
  have S3:Step C R.tr R G3:=S2.trans s3 fun a h=>h.elim
  have ne:∀ p,(∃ o,G2.h.get? p=some o)→p≠G2.sz:=fun p ⟨o,e⟩ q=>by rw [q,sz_none] at e;cases e
  have e1:G2.sz≠env.locals:=fun q=>ne _ K2.there q.symm
  have e2:∀ x,env.cells.lookup x≠some G2.sz:=fun x q=>ne _ (K2.live x _ q) rfl
  have jn:JLst C R env G2.sz ax l2 l2 G3:=⟨jseq_start off (S2.dead sz_none) hF VS hit I3 .refl e1 e2,hkk hl⟩
  have IT2:IterOk C A R R.tr env sc0 sc (.Tuple ((ns2.zip poss2).map fun p=>Expr.Name p.1 p.2) k2 p2) (.ref G2.sz) (bindNames ns2) (fun a=>a=G2.sz) (JLst C R env G2.sz ax l2):=iter_names hA.1 hn2 hp2 hY fun a ha=>ha
  have hne1:I1≠G2.sz:=ne _ (IT.pv j2 rfl).live
  have hneD:Dl≠G2.sz:=ne _ AC2.pv.live
  rw [List.length_append] at hz
  have loop:codeAny (model C.prog C.w) A (.compLoop (.ListComp elt [⟨.Tuple ((ns1.zip poss1).map fun p=>Expr.Name p.1 p.2) k1 p1,i1,[],0⟩,⟨.Tuple ((ns2.zip poss2).map fun p=>Expr.Name p.1 p.2) k2 p2,i2,[],0⟩] scope pos) 1 (.ref G2.sz) (.ref Dl) env) (fun r s'=>match r with
       | .ok _=>∃ m,m < (x::xs).length∧CompInv2 C D A R env sc0 sc (bindNames ns1) (bindNames ns2) i2 elt mC (JLst C R env I1 ax1 l1) I1 Dl σ' Q m s'
       | .error e=>cameBackBy (model C.prog C.w) A env (notedBy (model C.prog C.w) A env fun e s'=>Q (.error e) s') e s') G3.s:=by
   refine comp_loopI (fp0:=fun a=>a=I1) (J0:=JLst C R env I1 ax1 l1 xs) hC IT2 (fun x2 b2 h2=>hbt2 x b x2 b2 hb h2) O3 j3 (fun j IV b h1 h2=>IT.keep j IV b h1 h2) (fun j h=>IT.pv j h) (fun p h q=>hne1 (q.symm.trans h)) hD hneD jn S3 hA I3 K3 AC3 (by walk_at "o") fun G4 h' tk S4 I4 K4 AC4 jj j04 O4 hk=>?_
   have pv4:∀ p,p=G2.sz→Pv C R G4 env p:=fun p hp=>IT2.pv jj hp
   refine Zaa (side_ref (fp:=fun a=>a=G2.sz) (tk:=tk) S4 I4 K4 pv4 hk) fun S5 I5 K5=>?_
   have nF:∀ b,b=G2.sz→¬ G4.F b:=fun b hb=>(pv4 b hb).off.f
   refine ⟨xs.length,Nat.lt_succ_self _,xs,vs0++vs1,_,σ2,G4.at h' tk,rfl,rfl,hL,j04.at nF hne1 hk,S5,I5,K5.weak (hbt x b hb),⟨O4.own⟩,AC4.at nF hneD hk,by rw [List.length_append];omega,?_⟩
   intro Gx hx tkx q1 q2 q3 q4 q5 q6
   exact hQ Gx hx tkx q1 q2 q3 (by simpa using q4) q5 q6
  exact codeAny_compStart_listI loop (jseq_self jn.1 loop)
end
theorem compfree2 {C:Cx} {A:Around} {E} {s:Shared} {env:Env} {elt:Expr} {scope:Scope} {pos pp:Pos} {newAcc first:Sem Value} {t1 i1:Expr} {g2:Comprehension} {cl:List (Str × Addr)} {use:Option (Value→Sem Unit)}
  {Q:Value→Shared→Prop}
  (hs:∀ x,foldedSetIterable i1 env x=pure x) (hclos:closureFor scope env=pure cl)
  (hkind:scope.kind=.function) (hnames:∀ x∈scope.names,x.2=.local→scope.names.lookup x.1=some .local)
  (h:W C A first (fun x s₁=>W C A (pyIter x) (fun it s₂=>W C A newAcc (fun acc s₃=>
   W C A (newFunctionEnv scope env.globals cl [] env.qual none .none (some env)) (fun cenv s₄=>
    codeAny (model C.prog C.w) A (.compStart (.ListComp elt [⟨t1,i1,[],0⟩,g2] scope pos) 0 it acc { cenv with scope:=relabel scope env }) (compPost (model C.prog C.w) A E use Q acc cenv.locals) s₄) E s₃) E s₂) E s₁) E s) :
  W C A (comprehension (.ListComp elt [⟨t1,i1,[],0⟩,g2] scope pos) scope env pp newAcc false first use) Q E s:=
 wpAny_comprehension_free (g:=⟨t1,i1,[],0⟩) (gs:=[g2]) rfl hs hclos hkind hnames h
section
variable {elt iter:Expr} {l tot:List AV}
theorem LoopG.two {ns1 ns2:List Str} {poss1 poss2:List Pos} {k1 k2:Nat} {p1 p2:Pos} {i2:Expr} {pos:Pos} {it ax:Addr} (hCS:CompS2 C D (relabelS scope sc) (bindNames ns1) (bindNames ns2) i2 elt (mCof scope m) l σ tot σ') (hs2:∀ env x,foldedSetIterable i2 env x=pure x) (hA:AOk A D)
  (hn1:∀ n∈ns1,scope.names.lookup n=some .local) (hn2:∀ n∈ns2,scope.names.lookup n=some .local) (hp1:poss1.length=ns1.length) (hp2:poss2.length=ns2.length) (hdis:∀ n∈ns2,n ∉ ns1) (hz:tot.length≤sizeLine) :
  LoopG C A R sc scope m (fun a=>a=it) (fun ce=>JLst C R ce it ax l) l σ σ' tot (.ListComp elt [⟨.Tuple ((ns1.zip poss1).map fun p=>Expr.Name p.1 p.2) k1 p1,iter,[],0⟩,⟨.Tuple ((ns2.zip poss2).map fun p=>Expr.Name p.1 p.2) k2 p2,i2,[],0⟩] scope pos) it:=by
 intro ce Dl G4 deadE O5 hD0 j4 S4 I4 K5 AC Q hQ
 have hbt:∀ x b,bindNames ns1 x=some b→∀ p∈b,scope.names.lookup p.1=some .local:=fun x b hb p hp=>hn1 p.1 (bindNames_mem x b hb p hp)
 have hY:=hY_of (scope:=scope) deadE
 have hl1:∀ n∈ns1,(relabelS scope sc).names.lookup n=some .local∧scope.names.lookup n=some .local:=fun n hm=>⟨relabelS_local.mpr (hn1 n hm),hn1 n hm⟩
 have hl2:∀ n∈ns2,(relabelS scope sc).names.lookup n=some .local∧scope.names.lookup n=some .local:=fun n hm=>⟨relabelS_local.mpr (hn2 n hm),hn2 n hm⟩
 have IT:IterOk C A R R.tr ce scope (relabelS scope sc) (.Tuple ((ns1.zip poss1).map fun p=>Expr.Name p.1 p.2) k1 p1) (.ref it) (bindNames ns1) (fun a=>a=it) (JLst C R ce it ax l):=iter_names hA.1 hl1 hp1 hY fun a ha=>ha
 refine comp_loop2 (sc0:=scope) hCS hl1 hp1 hl2 hp2 hY (fun x b hb y v hy=>?_) (fun x b x2 b2 hb hb2 y v hy=>?_) (fun x=>hs2 ce x) O5 hD0 j4 S4 hA I4 K5 AC (by simpa using hz) fun G1 h' tk S1 I1 K1 AC1 j1 hk=>hQ G1 h' tk S1 I1 K1 (by simpa using AC1) (fun p hp=>IT.pv j1 hp) hk
 ·have hyf:=(lookup_mCof hy).2
  rw [lookup_append_right]
  ·exact hy
  ·cases q:b.lookup y with
   | none=>rfl
   | some w=>
    have:=hbt x b hb (y,w) (mem_of_lookup q)
    rcases mKeep_of hyf with q | q<;>(rw [q] at this;cases this)
 ·rw [lookup_append_right]
  ·exact hy
  ·cases q:b2.lookup y with
   | none=>rfl
   | some w=>
    have h2:=bindNames_mem x2 b2 hb2 (y,w) (mem_of_lookup q)
    cases q1:b.lookup y with
    | some w1=>exact absurd (bindNames_mem x b hb (y,w1) (mem_of_lookup q1)) (hdis y h2)
    | none=>
     rw [lookup_append_right q1] at hy
     have hyf:=(lookup_mCof hy).2
     have:=hn2 y h2
     rcases mKeep_of hyf with q | q<;>(rw [q] at this;cases this)
theorem Ex1.assignComp2 {y:Str} {py spos pos:Pos} {i2:Expr} {a:AV} {ns1 ns2:List Str} {poss1 poss2:List Pos} {es1 es2:List Expr} {k1 k2:Nat} {p1 p2:Pos} (so:ScopeOk scope sc) (h:EvE C D sc m σ iter a σ') (ha:asF a=some l) (hl:isLst a=true) (he1:es1=(ns1.zip poss1).map fun p=>Expr.Name p.1 p.2) (he2:es2=(ns2.zip poss2).map fun p=>Expr.Name p.1 p.2) (hp1:poss1.length=ns1.length) (hp2:poss2.length=ns2.length) (hn1:∀ n∈ns1,scope.names.lookup n=some .local) (hn2:∀ n∈ns2,scope.names.lookup n=some .local) (hdis:∀ n∈ns2,n ∉ ns1)
  (hCS:CompS2 C D (relabelS scope sc) (bindNames ns1) (bindNames ns2) i2 elt (mCof scope m) l σ' tot σ'') (hz:tot.length≤sizeLine) (hs:∀ env x,foldedSetIterable iter env x=pure x) (hs2:∀ env x,foldedSetIterable i2 env x=pure x) (hy:sc.names.lookup y=some .local)
  (hsw:(py.line == pos.line&&!(scope.names.any fun (n,k)=>n == y&&(k == .local||k == .cell)))=true) :
  Ex1 C D sc m σ (.Assign [.Name y py] (.ListComp elt [⟨.Tuple es1 k1 p1,iter,[],0⟩,⟨.Tuple es2 k2 p2,i2,[],0⟩] scope pos) spos) (.next ((y,mkL tot)::m) σ''):=fun A G env hA I K O TT Q E hQ=>by
 subst he1 he2
 refine Zeaaa (closureFor_ok (scope:=scope) (env:=env) fun x hx=>by
  refine Zea (K.cell x (so.free (x,.free) hx rfl)) fun c h1 _=>?_
  exact ⟨c,h1⟩) fun cl hcl hc1 hc2 _=>?_
 have hsw':swapsWith (.ListComp elt [⟨.Tuple ((ns1.zip poss1).map fun p=>Expr.Name p.1 p.2) k1 p1,iter,[],0⟩,⟨.Tuple ((ns2.zip poss2).map fun p=>Expr.Name p.1 p.2) k2 p2,i2,[],0⟩] scope pos) (some (.Name y py)) spos.line env=pure true:=by
  have hb:env.blockKind == .function:=by
   unfold Env.blockKind
   rw [K.scE]
   simp [K.kind,ScopeKind.isAnnotationScope]
  have hkd:(env.kindOf y == some .local)=true:=by rw [K.kindOf,hy];rfl
  refine (?_:(pure (env.blockKind == .function&&env.kindOf y == some .local&&py.line == pos.line&&!(scope.names.any fun (n,k)=>n == y&&(k == .local||k == .cell))):Sem Bool)=pure true)
  rw [hb,hkd,Bool.true_and,Bool.true_and,hsw]
 rw [exec_Assign_Name_used _ _ _ _ hsw']
 refine wpAny_bind (wpAny_standAt (wpAny_bind ?_))
 have key:W C A (comprehension (.ListComp elt [⟨.Tuple ((ns1.zip poss1).map fun p=>Expr.Name p.1 p.2) k1 p1,iter,[],0⟩,⟨.Tuple ((ns2.zip poss2).map fun p=>Expr.Name p.1 p.2) k2 p2,i2,[],0⟩] scope pos) scope env (firstIterPos [⟨.Tuple ((ns1.zip poss1).map fun p=>Expr.Name p.1 p.2) k1 p1,iter,[],0⟩,⟨.Tuple ((ns2.zip poss2).map fun p=>Expr.Name p.1 p.2) k2 p2,i2,[],0⟩] pos) (newList []) false (eval iter env) (some (PySem.assign (.Name y py) env))) (fun _ s'=>Q .next s') E G.s:=?_
 ·exact wpAny_bind (wpAny_mono key (fun _ s' hq=>wpAny_pure (wpAny_pure hq)) fun _ _ e=>e)
 refine compfree2 (use:=some (PySem.assign (.Name y py) env)) (Q:=fun _ s'=>Q .next s') (hs env) hcl so.kind so.local ?_
 refine h A G env hA I K _ _ fun u R s1 I1 V1=>?_
 have KR:=K.step I s1
 refine mk_seq0 I1 V1 ha fun ax G2 s2 I2 hst off hkk=>?_
 refine Zeaa hst fun vs hF VS hit=>?_
 have K2:=KR.step I1 (s2.weaken fun _ h=>h.elim)
 have live:∃ o,G2.h.get? R.sz=some o:=by rcases hit with ⟨⟨o,e,_⟩,_⟩ | ⟨⟨o,e,_⟩,_⟩<;>exact ⟨o,e⟩
 refine Ze (hkk hl) fun k0 hk0=>?_
 refine comp_core (R:=R) (G:=G2) (fp:=fun a=>a=R.sz) (J:=fun ce=>JLst C R ce R.sz ax l) (l:=l) so hc1 hc2 I1 KR (s2.weaken fun _ h=>h.elim) I2 K2 (LoopG.two hCS hs2 hA hn1 hn2 hp1 hp2 hdis hz) (fun p hp=>by rw [hp];exact (Iaa off sz_none live))
  (fun G4 ce s4 _ _ hce=>(Iae (jseq_start off sz_none hF VS hit I2 s4 (hce _ rfl).1 (hce _ rfl).2) k0 (hk0.at fun o e=>s4.keep _ o e (fun h=>h) off.t off.s))) (fun ce xs G j Q E h=>jseq_self j.1 h) ?_
 intro G1 Dl cenv h' tk S1 I1' AC hp hD hL dL offL hNs hk'
 exact comp_postA I1 KR hy S1 I1' AC rfl hp hD hL dL offL hNs hk' fun G' s3 I3 K3=>hQ G' (s1.toX.trs s3) I3 K3
end
end
inductive CompJ2 (C:Cx) (D:Nat) (sc:Scope) (bt1 bt2:AV→Option (Mp)) (iter2 elt:Expr) (m:Mp):List AV→Sto→List AV→Sto→Prop
 | nil {σ}:CompJ2 C D sc bt1 bt2 iter2 elt m [] σ [] σ
 | cons {x xs b a l2 σ σ1 vs1 σ2 vs σ'}:bt1 x=some b→JE C D sc (b++m) σ iter2 a σ1→asF a=some l2→isLst a=true→CompJ0 C D sc bt2 elt (b++m) l2 σ1 vs1 σ2→CompJ2 C D sc bt1 bt2 iter2 elt m xs σ2 vs σ'→CompJ2 C D sc bt1 bt2 iter2 elt m (x::xs) σ (vs1++vs) σ'
section
variable {C:Cx} {D n:Nat} {sc sc0 scope:Scope} {m m' mB mC:Mp} {σ σ' σ'' σ1 σ2 σ3:Sto} {v:AV} {o:Out} {A A2:Around} {G G' G'' R:St} {env:Env} {c e T:Addr} {X Y Z:Addr→Prop}
section
variable {m1:Mp} {a:AV} {bt1 bt2:AV→Option (Mp)} {elt iter i2:Expr} {l tot:List AV} {ns1 ns2:List Str}
theorem CompJ2.toS {l:List AV} {tot:List AV} (H:CompJ2 C D sc bt1 bt2 i2 elt m l σ tot σ'):CompS2 C D sc bt1 bt2 i2 elt m l σ tot σ':=by
 induction H with
 | nil=>exact .nil
 | cons a b c d e _ i=>exact .cons a b.h c d e.toS i
theorem CompJ2.each {α:Type} {g:α→AV} {f:α→List AV} {l:List α} (h:∀ a∈l,∃ b v l2,bt1 (g a)=some b∧JE C D sc (b++m) σ i2 v σ∧asF v=some l2∧isLst v=true∧CompJ0 C D sc bt2 elt (b++m) l2 σ (f a) σ):CompJ2 C D sc bt1 bt2 i2 elt m (l.map g) σ (l.flatMap f) σ:=by
 induction l with
 | nil=>exact .nil
 | cons a l ih=>
  refine Zeeeaaaa (h a (List.mem_cons_self ..)) fun b v l2 h1 h2 h3 h4 h5=>?_
  exact .cons h1 h2 h3 h4 h5 (ih fun x hx=>h x (List.mem_cons_of_mem _ hx))
theorem J1.comp2v {y:Str} {py pos spos p1 p2:Pos} {es1 es2:List Expr} {poss1 poss2:List Pos} {k1 k2:Nat} (so:ScopeOk scope sc) (h:JE C D sc m σ iter a σ') (ha:asF a=some l) (hl:isLst a=true) (he1:es1=(ns1.zip poss1).map fun p=>Expr.Name p.1 p.2) (he2:es2=(ns2.zip poss2).map fun p=>Expr.Name p.1 p.2) (hp1:poss1.length=ns1.length) (hp2:poss2.length=ns2.length)
  (hn1:locB ns1 scope=true) (hn2:locB ns2 scope=true) (hdis:∀ n∈ns2,n ∉ ns1)
  (hC:CompJ2 C D (relabelS scope sc) (bindNames ns1) (bindNames ns2) i2 elt (mCof scope m) l σ' tot σ'') (hz:tot.length≤sizeLine) (ht:mkL tot=v) (hs:∀ env x,foldedSetIterable iter env x=pure x) (hs2:∀ env x,foldedSetIterable i2 env x=pure x) (hy:sc.names.lookup y=some .local)
  (hsw:(py.line == pos.line&&!(scope.names.any fun (n,k)=>n == y&&(k == .local||k == .cell)))=true) :
  J1 C D sc m σ (.Assign [.Name y py] (.ListComp elt [⟨.Tuple es1 k1 p1,iter,[],0⟩,⟨.Tuple es2 k2 p2,i2,[],0⟩] scope pos) spos) (.next ((y,v)::m) σ''):=
 ht▸⟨Ex1.assignComp2 so h.h ha hl he1 he2 hp1 hp2 (locB_all hn1) (locB_all hn2) hdis hC.toS hz hs hs2 hy hsw⟩
end
section
variable {m1 m2:Mp} {v' a:AV} {ex:Expr} {ss s2:List Stmt}
theorem EnvOk.frz (I:Inv C G σ) (K:EnvOk C A G env sc m) (hz:FzD σ n m m2) (he:m2.lookup ("<env>":Str)=m.lookup ("<env>":Str)):EnvOk C A (G.frz n) env sc m2 where
 scE:=K.scE
 kind:=K.kind
 glob:=K.glob
 bi:=K.bi
 ns:=let ⟨ml,hn,k⟩:=K.ns;⟨ml,hn,fun x v e1 e2=>by
  refine Zea (FzD.look I hz e1) fun y f1 f2=>?_
  refine Zea (k x y f1 e2) fun u a c=>?_
  exact (Iea u a (f2 u c))⟩
 cell x hx:=let ⟨c,h1,h2,h3,h4,h5⟩:=K.cell x hx;⟨c,h1,h2,fun v e1=>by
  refine Zea (FzD.look I hz e1) fun y f1 f2=>?_
  refine Zea (h3 y f1) fun u a d=>?_
  exact (Iea u a (f2 u d)),fun q=>h4 (List.mem_of_mem_take q),h5⟩
 off:=(Iaa (fun q=>K.off.1 (List.mem_of_mem_take q)) K.off.2.1 (fun q=>q.elim K.off.2.2 fun q=>K.off.1 (List.mem_of_mem_drop q)))
 stk:=let ⟨l,e,k⟩:=K.stk;(Iea l e k)
 live:=K.live
 inf hn c q e:=K.inf hn c q (he▸e)
theorem ExS.frz (h:ExS C D sc m σ ss (.next m1 σ1)) (hn:σ.length≤n) (hb:∀ o∈σ1.take n,belO n o=true) (hz:FzD σ1 n m1 m2) (he:m2.lookup ("<env>":Str)=m1.lookup ("<env>":Str)):ExS C D sc m σ ss (.next m2 (σ1.take n)):=fun A G env hA I K O TT Q E hQ=>
 h A G env hA I K O TT Q E fun G' st I' K'=>hQ (G'.frz n) (frz_step st (by rw [I.len];exact hn)) (frz_inv I' hb) (K'.frz I' hz he)
theorem JS.frz (h:JS C D sc m σ ss (.next m1 σ1)) (hn:σ.length≤n) (hb:∀ o∈σ1.take n,belO n o=true) (hz:FzD σ1 n m1 m2) (he:m2.lookup ("<env>":Str)=m1.lookup ("<env>":Str)) (ht:σ1.take n=σ2):JS C D sc m σ ss (.next m2 σ2):=ht▸⟨h.h.frz hn hb hz he⟩
theorem execs_append (b:List Stmt) (env:Env):∀ a:List Stmt,execs (a++b) env=(execs a env >>= fun f=>match f with | .next=>execs b env | f=>pure f)
 | []=>by refine (?_:execs b env=(pure Flow.next >>= _));rw [pure_bind]
 | s::a=>by
  rw [List.cons_append,execs_cons,execs_cons,bind_assoc]
  congr 1;funext f
  cases f with
  | next=>exact execs_append b env a
  | _=>rw [pure_bind]
theorem ExS.app (h:ExS C D sc m σ ss (.next m1 σ1)) (h2:ExS C D sc m1 σ1 s2 o):ExS C D sc m σ (ss++s2) o:=fun A G env hA I K O TT Q E hQ=>by
 rw [execs_append]
 refine wpAny_bind (h A G env hA I K O TT _ _ fun G' st I' K'=>?_)
 exact h2 A G' env hA I' K' (O.step K st) TT _ _ (Post.pre st hQ)
theorem JS.app (h:JS C D sc m σ ss (.next m1 σ1)) (h2:JS C D sc m1 σ1 s2 o):JS C D sc m σ (ss++s2) o:=⟨h.h.app h2.h⟩
theorem JS.blk (k:Nat) (h:JS C D sc m σ (ss.take k) (.next m1 σ1)) (h2:JS C D sc m1 σ1 (ss.drop k) o):JS C D sc m σ ss o:=by
 have:=h.app h2
 rwa [List.take_append_drop] at this
end
section
variable {m1 m2:Mp} {v' a:AV} {ex iter:Expr} {l:List AV}
theorem names_okC (hY:∀ a,Xe env sc a→Y a∨R.h.get? a=none) {E}:∀ {ns:List Str} {poss:List Pos} {us:List Value} {vs:List AV} {G:St} {m:Mp},ns.length=us.length→(∀ n∈ns,sc.names.lookup n=some .local∨sc.names.lookup n=some .cell)→poss.length=ns.length→Step C Y R G→Inv C G σ→EnvOk C A G env sc m→OwnOk C G env sc→VRs C G us vs→{Q:Unit→Shared→Prop} →
  (∀ G',Step C (Xe env sc) G G'→Step C Y R G'→Inv C G' σ→EnvOk C A G' env sc ((ns.zip vs).reverse++m)→OwnOk C G' env sc→Q () G'.s) →
  W C A2 (assignInOrder ((ns.zip poss).map fun p=>assign (.Name p.1 p.2) env) us) Q E G.s:=by
 intro ns
 induction ns with
 | nil=>
  intro _ _ _ G m _ _ _ S0 I K O _ Q h
  exact assignInOrder_nil (h G .refl S0 I K O)
 | cons n ns ih=>
  intro poss us vs G m hl hn hp S0 I K O VS Q h
  cases poss with
  | nil=>exact absurd hp.symm (Nat.succ_ne_zero _)
  | cons p ps=>
  cases VS with
  | nil=>exact absurd hl (Nat.succ_ne_zero _)
  | cons V VS=>
   refine assignInOrder_cons (wpAny_assign_Name (store_core I K (fun hc c hcl=>O.own n c hc hcl) V (hn n (List.mem_cons_self ..)) fun G1 s1 I1 K1=>?_))
   have x1:∀ a,X1 env sc n a→Xe env sc a:=fun a ha=>by
    rcases ha with ha | ha
    ·exact .inl ha.2
    ·exact .inr (Iea n ha.1 ha.2)
   have s1':Step C (Xe env sc) G G1:=s1.weaken fun a ha=>.inl (x1 a ha)
   have S1:Step C Y R G1:=S0.trans s1 fun a ha=>hY a (x1 a ha)
   refine ih (Nat.succ.inj hl) (fun k hk=>hn k (List.mem_cons_of_mem _ hk)) (Nat.succ.inj hp) S1 I1 K1 (O.stepL K s1) (VS.step I s1 fun a ha=>Xe.nF K O a (x1 a ha)) fun G2 s2 S2 I2 K2 O2=>h G2 (s1'.trans s2 fun _ h=>.inl h) S2 I2 ?_ O2
   simpa using K2
theorem tuple_okC {ns:List Str} {poss:List Pos} {k pos} {u:Value} {xs:List PyData} (hA:A.handled=none) (hn:∀ n∈ns,sc.names.lookup n=some .local∨sc.names.lookup n=some .cell) (hp:poss.length=ns.length) (hY:∀ a,Xe env sc a→Y a∨R.h.get? a=none)
  (IV:Inv C G σ) (K:EnvOk C A G env sc m) (O:OwnOk C G env sc) (S0:Step C Y R G) (V:VR C G u (.p (.tuple xs))) (hl:xs.length=ns.length) {Q:Unit→Shared→Prop} {E}
  (hQ:∀ G',Step C (Xe env sc) G G'→Step C Y R G'→Inv C G' σ→EnvOk C A G' env sc ((ns.zip (xs.map .p)).reverse++m)→OwnOk C G' env sc→Q () G'.s) :
  W C A (assign (.Tuple ((ns.zip poss).map fun p=>Expr.Name p.1 p.2) k pos) env u) Q E G.s:=by
 apply RLeeeeaaaaaa4 V.tup_shape
 intro t ob vs n f e c d r cl
 have ht:G.h.IsTuple t vs:=(Ieaae ob e c n d)
 have hlen:vs.size=xs.length:=by have:=r.length;simpa using this
 refine wpAny_assign_Tuple hA ht (by rw [assignEach_names];simp [hp,hl,hlen]) (by rw [assignEach_names];simp [List.findIdx?_eq_none_iff]) fun h' hx=>?_
 have hk:∀ b o,G.h.get? b=some o→h'.get? b=some o:=fun b o eb=>hx b o (Nat.ne_of_lt (Heap.lt_size eb)) eb
 have s1:Step C G.tr G (G.grow h' G.s.toks fun _=>False):=grow_step hk fun _ h=>h.elim
 have I1:=grow_inv (P:=fun _=>False) (tk:=G.s.toks) IV hk fun _ h=>h.elim
 rw [assignEach_names]
 have e1:((ns.zip poss).map fun p=>(false,assign (.Name p.1 p.2) env)).map (·.2)=(ns.zip poss).map fun p=>assign (.Name p.1 p.2) env:=by simp [List.map_map,Function.comp_def]
 rw [e1]
 refine names_okC (G:=G.grow h' G.s.toks fun _=>False) hY (by simp [← hl,hlen]) hn hp (S0.trans (Y:=fun _=>False) (grow_step hk fun _ h=>h.elim) fun _ h=>h.elim) I1 (K.step IV s1) (O.stepL K s1) ((r.vrs cl).step IV s1 IV.hX) fun G2 s2 S2 I2 K2 O2=>hQ G2 (Step.trans (Y:=Xe env sc) (grow_step hk fun _ h=>h.elim) s2 fun _ h=>.inl h) S2 I2 K2 O2
noncomputable def JC (C:Cx) (R:St) (env:Env) (sc:Scope) (I ax:Addr) (l:List AV):List AV→St→Prop:=fun xs G=>JLst C R env I ax l xs G∧OwnOk C G env sc∧∀ x c,env.cells.lookup x=some c→∃ o,G.h.get? c=some o
theorem JC.own {I ax:Addr} {xs:List AV} (j:JC C R env sc I ax l xs G) (b:Step C X G G'):OwnOk C G' env sc∧∀ x c,env.cells.lookup x=some c→∃ o,G'.h.get? c=some o:=by
 refine Zaa j fun _ O al=>?_
 refine ⟨⟨fun x c e1 e2=>?_⟩,fun x c e=>let ⟨o,e'⟩:=al x c e;b.alive c o e'⟩
 refine Zaaa (O.own x c e1 e2) fun h1 hf h2 h3=>?_
 refine (Iaaa (fun q=>(b.new _ q).elim h1 fun z=>?_) (b.fs▸hf) h2 h3)
 refine Ze (al x c e2) fun o e=>?_
 rw [z] at e;cases e
theorem iter_namesC {I ax:Addr} {ns:List Str} {poss:List Pos} {k pos} (hA:A.handled=none) (hn:∀ n∈ns,sc.names.lookup n=some .local∨sc.names.lookup n=some .cell) (hp:poss.length=ns.length) (hY:∀ a,Xe env sc a→Y a∨R.h.get? a=none) :
  IterOk C A R Y env sc sc (.Tuple ((ns.zip poss).map fun p=>Expr.Name p.1 p.2) k pos) (.ref I) (bindNames ns) (fun a=>a=I) (JC C R env sc I ax l) where
 nxt:=fun {x xs b m σ G} hb j IV K S0 {Q E} hQ=>by
  have jj:=j
  refine Zaa j fun z185 O al=>?_
  refine Zae z185 fun j k0 hk0=>?_
  refine jseq_next hA j IV K S0 fun u G1 S1 s1 I1 K1 V1 j1 hit=>?_
  have O1:=O.stepL K s1
  cases x with
  | p x=>
   cases x with
   | tuple ys=>
    simp only [bindNames] at hb
    split at hb
    ·rename_i hl
     cases hb
     refine Ze (hit ⟨k0,hk0⟩) fun k1 hk1=>?_
     refine Zeeeea (id V1.tup_shape) fun t ob vs n z184 _=>?_
     obtain rfl:=z184
     refine wpAny_letOwnedTupleGo_listiter hk1 ?_
     refine tuple_okC hA hn hp hY I1 K1 O1 S1 V1 hl fun G2 s2 S2 I2 K2 O2=>?_
     refine Zeeaaa (id j1) fun _ _ _ _ pv1 _=>?_
     have nx:∀ a,Xe env sc a→¬ a=I:=fun a ha q=>pv1.nXe (q▸ha)
     refine hQ G2 S2 ((s1.weaken (Y:=fun a=>a=I∨Xe env sc a) fun a ha=>.inl (.inl ha)).trans s2 fun a ha=>.inl (.inr ha)) I2 K2 (Iaa (Iae (jseq_keep j1 I1 s2 nx (Xe.nF K1 O1)) k1 ?_) O2 K2.live)
     exact hk1.at fun o e=>s2.keep I o e (fun q=>nx I q rfl) pv1.off.t pv1.off.s
    ·cases hb
   | _=>cases hb
  | _=>cases hb
 fin:=fun {σ G} j IV {Q E} hQ=>jseq_fin hA j.1.1 IV hQ
 keep:=fun {xs G G' σ X} j IV b h1 h2=>by
  refine Za (j.own b) fun O' al'=>?_
  refine Zaa j fun z183 O al=>?_
  refine Zae z183 fun j k hk=>?_
  refine Zeeaaa (id j) fun _ _ _ _ pv _=>?_
  exact (Iaa (Iae (jseq_keep j IV b h1 h2) k (hk.at fun o e=>b.keep I o e (fun q=>h1 I q rfl) pv.off.t pv.off.s)) O' al')
 pv:=fun {xs G p} j hp=>by refine Za j fun z182 _=>?_;refine Za z182 fun z207 _=>?_;refine Zeeaaa z207 fun _ _ _ _ pv _=>?_;rw [hp];exact pv
theorem Ex1.forC {ns:List Str} {poss:List Pos} {k:Nat} {tp pos:Pos} {body:List Stmt} (h:EvE C D sc m σ iter a σ') (ha:asF a=some l) (hl:isLst a=true) (hp:poss.length=ns.length) (hn:∀ n∈ns,sc.names.lookup n=some .local∨sc.names.lookup n=some .cell) (L:LoopS C D sc (bindNames ns) body l m σ' o) (hs:∀ env x,foldedSetIterable iter env x=pure x) :
  Ex1 C D sc m σ (.For (.Tuple ((ns.zip poss).map fun p=>Expr.Name p.1 p.2) k tp) iter body [] pos) o:=fun A G env hA I K O TT Q E hQ=>by
 refine wpAny_For (h A G env hA I K _ _ fun u G1 s1 I1 V1=>?_) (hs env)
 have K1:=K.step I s1
 have O1:=O.step K s1
 refine mk_seq0 I1 V1 ha fun ax G2 s2 I2 hst off hkk=>?_
 refine Zeaa hst fun vs hF VS hit=>?_
 have K2:=K1.step I1 (s2.weaken fun _ h=>h.elim)
 have O2:=O1.step K1 s2
 have ne:∀ p,(∃ o,G1.h.get? p=some o)→p≠G1.sz:=fun p ⟨o,e⟩ q=>by rw [q,sz_none] at e;cases e
 have e1:G1.sz≠env.locals:=fun q=>ne _ K1.there q.symm
 have e2:∀ x,env.cells.lookup x≠some G1.sz:=fun x q=>ne _ (K1.live x _ q) rfl
 have jn:JC C G1 env sc G1.sz ax l l G2:=(Iaa ⟨jseq_start off sz_none hF VS hit I2 .refl e1 e2,hkk hl⟩ O2 K2.live)
 exact loop_ok (R:=G1) L (iter_namesC hA.1 hn hp fun a ha=>.inl ha.xs) jn (s2.weaken fun _ h=>h.elim) hA I2 K2 O2 TT (Post.pre s1.toX hQ)
theorem J1.forC2 {n1 n2:Str} {p1 p2:Pos} {k:Nat} {tp pos:Pos} {body:List Stmt} (h:JE C D sc m σ iter a σ') (ha:asF a=some l) (hl:isLst a=true) (h1:sc.names.lookup n1=some .local∨sc.names.lookup n1=some .cell) (h2:sc.names.lookup n2=some .local∨sc.names.lookup n2=some .cell) (L:LoopJ C D sc (bindNames [n1,n2]) body l m σ' o) (hs:∀ env x,foldedSetIterable iter env x=pure x) :
  J1 C D sc m σ (.For (.Tuple [.Name n1 p1,.Name n2 p2] k tp) iter body [] pos) o:=
 ⟨Ex1.forC (ns:=[n1,n2]) (poss:=[p1,p2]) h.h ha hl rfl (fun n hn=>by
  rcases List.mem_cons.mp hn with rfl | hn
  ·exact h1
  ·rw [List.mem_singleton.mp hn];exact h2) L.toS hs⟩
end
section
variable {m1 m2:Mp} {v' v1 v2 a b:AV} {ex iter:Expr} {ss:List Stmt}
theorem VR.lstP {u:Value} {l:List AV} {xs:List PyData} (h:VR C G u (.lst l)) (e:allP l=some xs):VR C G u (.p (.list xs)):=by
 cases h with
 | lst f h1 h2 h3 h4=>
  refine Za (h4.prs e) fun p q=>?_
  exact .p (.list f h1 h2 h3 p) (by simpa [PyData.canLay0] using q)
theorem EnvOk.imp (K:EnvOk C A G env sc m) (h:∀ x v',m2.lookup x=some v'→∃ v,m.lookup x=some v∧∀ u,VR C G u v→VR C G u v') (he:m2.lookup ("<env>":Str)=m.lookup ("<env>":Str)):EnvOk C A G env sc m2 where
 scE:=K.scE
 kind:=K.kind
 glob:=K.glob
 bi:=K.bi
 ns:=let ⟨ml,hn,k⟩:=K.ns;⟨ml,hn,fun x v e1 e2=>by
  refine Zea (h x v e1) fun y f1 f2=>?_
  refine Zea (k x y f1 e2) fun u a c=>?_
  exact (Iea u a (f2 u c))⟩
 cell x hx:=let ⟨c,h1,h2,h3,h4,h5⟩:=K.cell x hx;⟨c,h1,h2,fun v e1=>by
  refine Zea (h x v e1) fun y f1 f2=>?_
  refine Zea (h3 y f1) fun u a d=>?_
  exact (Iea u a (f2 u d)),h4,h5⟩
 off:=K.off
 stk:=K.stk
 live:=K.live
 inf hn c q e:=K.inf hn c q (he▸e)
theorem JS.imp (h:JS C D sc m σ ss (.next m1 σ1)) (hi:∀ x v',m2.lookup x=some v'→∃ v,m1.lookup x=some v∧∀ G u,VR C G u v→VR C G u v') (he:m2.lookup ("<env>":Str)=m1.lookup ("<env>":Str)):JS C D sc m σ ss (.next m2 σ1):=⟨fun A G env hA I K O TT Q E hQ=>
 h.h A G env hA I K O TT Q E fun G' st I' K'=>hQ G' st I' (K'.imp (fun x v' e=>let ⟨v,e1,e2⟩:=hi x v' e;(Iea v e1 (e2 G'))) he)⟩
theorem imp_head {k:Str} {l:List AV} {xs:List PyData} {r:Mp} (e:allP l=some xs):∀ x v',((k,AV.p (.list xs))::r).lookup x=some v'→∃ v,((k,AV.lst l)::r).lookup x=some v∧∀ G u,VR C G u v→VR C G u v':=fun x v' hx=>by
 rw [List.lookup_cons] at hx ⊢
 cases q:x == k with
 | true=>rw [q] at hx;cases hx;exact (Iea _ rfl (fun G u V=>V.lstP e))
 | false=>rw [q] at hx;exact (Iea _ hx (fun G u V=>V))
theorem JE.listTo {x up:Expr} {p pos:Pos} {l:List AV} {y:Int} {k:Nat} (h1:JE C D sc m σ x b σ') (hb:asL b=some l) (h2:JE C D sc m σ' up (.p (.int y)) σ'') (hy:y=(k:Int)) (h0:k≤l.length) (hl:l.length≤sizeLine) (hm:mkL (l.take k)=v) (hx:∀ o r,letTemporaryGo x o r=pure ()) :
  JE C D sc m σ (.Subscript x (.Slice none (some up) none p) pos) v σ'':=by subst hy hm;exact ⟨EvE.listTo h1.h hb h2.h h0 hl hx⟩
theorem J1.assign2k {x y:Str} {xp yp tp pos vp:Pos} {k k':Nat} {es:List Expr} (h:JL C D sc m σ es [v1,v2] σ') (hx:sc.names.lookup x=some .local) (hy:sc.names.lookup y=some .local) (hst:(es.any fun | .Starred ..=>true | _=>false)=false) (hf:es.all (foldedForSure 8)=true) :
  J1 C D sc m σ (.Assign [.Tuple [.Name x xp,.Name y yp] k tp] (.Tuple es k' vp) pos) (.next ((y,v2)::(x,v1)::m) σ'):=
 J1.assign2n h (.inl hx) (.inl hy) fun env he=>by
  rw [swapped_eq]
  exact ite4 (.inr hf)
end
section
variable {elt iter:Expr} {l tot:List AV}
noncomputable def JN (C:Cx) (R:St) (env:Env) (sc0:Scope) (I ax:Addr) (l:List AV):List AV→St→Prop:=fun xs G=>JSeq C R env I ax l xs G∧OwnOk C G env sc0∧∀ x c,env.cells.lookup x=some c→∃ o,G.h.get? c=some o
theorem JN.own {I ax:Addr} {xs:List AV} (j:JN C R env sc0 I ax l xs G) (b:Step C X G G'):OwnOk C G' env sc0∧∀ x c,env.cells.lookup x=some c→∃ o,G'.h.get? c=some o:=by
 refine Zaa j fun _ O al=>?_
 refine ⟨⟨fun x c e1 e2=>?_⟩,fun x c e=>let ⟨o,e'⟩:=al x c e;b.alive c o e'⟩
 refine Zaaa (O.own x c e1 e2) fun h1 hf h2 h3=>?_
 refine (Iaaa (fun q=>(b.new _ q).elim h1 fun z=>?_) (b.fs▸hf) h2 h3)
 refine Ze (al x c e2) fun o e=>?_
 rw [z] at e;cases e
theorem iter_nameC {I ax:Addr} {n:Str} {np:Pos} (hA:A.handled=none) (hn:scope.names.lookup n=some .cell) (hr:(relabelS scope sc).names.lookup n=some .cell) (hY:∀ a,Xe env scope a→Y a∨R.h.get? a=none) :
  IterOk C A R Y env scope (relabelS scope sc) (.Name n np) (.ref I) (bindName1 n) (fun a=>a=I) (JN C R env scope I ax l) where
 nxt:=fun {x xs b m σ G} hb j IV K S0 {Q E} hQ=>by
  cases hb
  refine Zaa j fun j O al=>?_
  refine jseq_next hA j IV K S0 fun u G1 S1 s1 I1 K1 V1 j1 _=>?_
  have O1:=O.stepL K s1
  refine wpAny_pure ?_
  have own:∀ c,env.cells.lookup n=some c→¬ G1.F c∧c ∉ G1.fs∧c≠env.locals∧∀ y,((relabelS scope sc).names.lookup y=some .cell∨(relabelS scope sc).names.lookup y=some .free)→env.cells.lookup y=some c→y=n:=fun c hc=>by
   refine Zaaa (O1.own n c hn hc) fun h1 h2 h3 h4=>?_
   exact (Iaaa h1 h2 h3 (fun y hy=>h4 y (relabelS_cell hy)))
  refine wpAny_assign_Name (store_core I1 K1 (fun _ c hc=>own c hc) V1 (.inr hr) fun G2 s2 I2 K2=>?_)
  have x1:∀ a,X1 env (relabelS scope sc) n a→Xe env scope a:=fun a ha=>by
   rcases ha with ha | ha
   ·rw [hr] at ha;cases ha.1
   ·exact .inr (Iea n hn ha.2)
  refine Zeeaaa (id j1) fun _ _ _ _ pv1 _=>?_
  refine hQ G2 (S1.trans s2 fun a ha=>hY a (x1 a ha)) ((s1.weaken (Y:=fun a=>a=I∨Xe env scope a) fun a ha=>.inl (.inl ha)).trans s2 fun a ha=>.inl (.inr (x1 a ha))) I2 K2 (Iaa ?_ (O1.stepL K1 s2) K2.live)
  exact jseq_keep j1 I1 s2 (fun a ha q=>pv1.nXe (q▸x1 a ha)) fun a ha=>Xe.nF K1 O1 a (x1 a ha)
 fin:=fun {σ G} j IV {Q E} hQ=>jseq_fin hA j.1 IV hQ
 keep:=fun {xs G G' σ X} j IV b h1 h2=>let ⟨O',al'⟩:=j.own b;(Iaa (jseq_keep j.1 IV b h1 h2) O' al')
 pv:=fun {xs G p} j hp=>by refine Za j fun z187 _=>?_;refine Zeeaaa z187 fun _ _ _ _ pv _=>?_;rw [hp];exact pv
theorem relabelS_cellOf {x:Str} (h:scope.names.lookup x=some .cell):(relabelS scope sc).names.lookup x=some .cell:=by
 refine (?_:(scope.names.map _).lookup x=_)
 rw [lookup_relabelS,h]
 rfl
theorem EvE.compC {n:Str} {np:Pos} {ifs:List Expr} {pos:Pos} {a:AV} (so:ScopeOk scope sc) (h:EvE C D sc m σ iter a σ') (ha:asF a=some l) (hn:scope.names.lookup n=some .cell)
  (hCS:CompS C D (relabelS scope sc) (bindName1 n) ifs elt (mCof scope m) l σ' tot σ'') (hz:tot.length≤sizeLine) (hs:∀ env x,foldedSetIterable iter env x=pure x) :
  EvE C D sc m σ (.ListComp elt [⟨.Name n np,iter,ifs,0⟩] scope pos) (mkL tot) σ'':=fun A G env hA I K Q E hQ=>by
 refine Zeaaa (closureFor_ok (scope:=scope) (env:=env) fun x hx=>by
  refine Zea (K.cell x (so.free (x,.free) hx rfl)) fun c h1 _=>?_
  exact ⟨c,h1⟩) fun cl hcl hc1 hc2 _=>?_
 rw [eval_ListComp]
 refine wpAny_comprehension_free (use:=none) rfl (hs env) hcl so.kind so.local (h A G env hA I K _ _ fun u R s1 I1 V1=>?_)
 have KR:=K.step I s1
 refine mk_seq0 I1 V1 ha fun ax G2 s2 I2 hst off hkk=>?_
 refine Zeaa hst fun vs hF VS hit=>?_
 have K2:=KR.step I1 (s2.weaken fun _ h=>h.elim)
 have live:∃ o,G2.h.get? R.sz=some o:=by rcases hit with ⟨⟨o,e,_⟩,_⟩ | ⟨⟨o,e,_⟩,_⟩<;>exact ⟨o,e⟩
 refine comp_core (R:=R) (G:=G2) (fp:=fun a=>a=R.sz) (J:=fun ce xs G=>JN C R ce scope R.sz ax l xs G) so hc1 hc2 I1 KR (s2.weaken fun _ h=>h.elim) I2 K2 (LoopG.one hCS hA (fun x b hb p hp=>by cases hb;rw [List.mem_singleton.mp hp];exact .inr hn) hz fun ce hce=>iter_nameC hA.1 hn (relabelS_cellOf hn) (hY_of hce)) (fun p hp=>by rw [hp];exact (Iaa off sz_none live))
  (fun G4 ce s4 O4 al hce=>(Iaa (jseq_start off sz_none hF VS hit I2 s4 (hce _ rfl).1 (hce _ rfl).2) O4 al)) (fun ce xs G j Q E h=>jseq_self j.1 h) ?_
 intro G1 Dl cenv h' tk S1 I1' AC hp hD hL dL offL hNs hk'
 exact comp_post S1 I1' AC rfl hp hD hL dL offL hNs hk' fun u G' s3 I3 V3=>hQ u G' (s1.trr I s3) I3 V3
theorem JE.compC0v {n:Str} {np pos:Pos} {a:AV} (so:ScopeOk scope sc) (h:JE C D sc m σ iter a σ') (ha:asF a=some l) (hn:scope.names.lookup n=some .cell)
  (hC:CompJ0 C D (relabelS scope sc) (bindName1 n) elt (mCof scope m) l σ' tot σ'') (hz:tot.length≤sizeLine) (ht:mkL tot=v) (hs:∀ env x,foldedSetIterable iter env x=pure x) :
  JE C D sc m σ (.ListComp elt [⟨.Name n np,iter,[],0⟩] scope pos) v σ'':=ht▸⟨EvE.compC so h.h ha hn hC.toS hz hs⟩
end
end
noncomputable def pvL (f:Expr→Option AV):List Expr→Option (List AV)
 | []=>some []
 | e::es=>(f e).bind fun v=>(pvL f es).bind fun vs=>some (v::vs)
noncomputable def allQ:List AV→Option (List PyData)
 | []=>some []
 | a::l=>match a with
  | .p x=>(allQ l).bind fun xs=>some (x::xs)
  | _=>none
noncomputable def cOf:Const→Option PyData
 | .int i=>some (.int i)
 | .str s=>some (.str s)
 | .none=>some .none
 | .bool b=>some (.bool b)
 | _=>none
noncomputable def cOk:PyData→Bool
 | .str s=>PyData.strOk s
 | _=>true
noncomputable def itOf (σ:Sto) (a:AV):AV→Option AV
 | .p (.int (.ofNat n))=>bif Nat.ble n 0x7fffffffffffffff then (asSeq σ a).bind (·[n]?) else none
 | .p (.str s)=>(asD σ a).bind (·.lookup s)
 | _=>none
noncomputable def boolOf:AV→Option Bool
 | .p (.bool b)=>some b
 | _=>none
noncomputable def one1:List α→Option α
 | [a]=>some a
 | _=>none
noncomputable def orL (f:Expr→Option Bool):List Expr→Option Bool
 | []=>some false
 | e::es=>(f e).bind fun c=>bif c then some true else orL f es
noncomputable def andL (f:Expr→Option Bool):List Expr→Option Bool
 | []=>some true
 | e::es=>(f e).bind fun c=>bif c then andL f es else some false
noncomputable def cmpP (f:Expr→Option AV) (σ:Sto) (l:Expr) (ops:List CmpOp) (rs:List Expr):Option Bool:=
 (one1 ops).bind fun op=>(one1 rs).bind fun r=>(f l).bind fun a=>(f r).bind fun b=>cmpV op a b σ
noncomputable def px (σ:Sto) (m:Mp):Nat→(Expr→Option AV) × (Expr→Option Bool)
 | 0=>(fun _=>none,fun _=>none)
 | n+1=>(fun e=>match e with
  | .Name x _=>m.lookup x
  | .Constant c _ _=>(cOf c).bind fun c=>some (.p c)
  | .Tuple es _ _=>(pvL (px σ m n).1 es).bind fun vs=>(allQ vs).bind fun xs=>some (.p (.tuple xs))
  | .List (e::es) _=>(pvL (px σ m n).1 (e::es)).bind fun vs=>(allQ vs).bind fun xs=>some (.p (.list xs))
  | .Subscript x i _=>((px σ m n).1 x).bind fun a=>((px σ m n).1 i).bind (itOf σ a)
  | .Compare l ops rs _=>(cmpP (px σ m n).1 σ l ops rs).bind fun c=>bif c then some (.p (.bool true)) else some (.p (.bool false))
  | .IfExp t a b _=>((px σ m n).2 t).bind fun c=>(px σ m n).1 (bif c then a else b)
  | _=>none,
  fun e=>match e with
  | .Compare l ops rs _=>cmpP (px σ m n).1 σ l ops rs
  | .BoolOp .Or es _=>orL (px σ m n).2 es
  | .BoolOp .And es _=>andL (px σ m n).2 es
  | .UnaryOp .Not x _=>((px σ m n).2 x).bind fun c=>some (!c)
  | .Name ..=>((px σ m n).1 e).bind boolOf
  | .Subscript ..=>((px σ m n).1 e).bind boolOf
  | _=>none)
noncomputable def nmOk (sc:Scope) (x:Str):Bool:=((sc.names.lookup x == some .local||(sc.names.lookup x == some .cell||sc.names.lookup x == some .free))&&!(x == ("__debug__":Str)))&&!(x == ("__classdict__":Str))
noncomputable def pk (sc:Scope):Nat→(Expr→Bool) × (Expr→Bool)
 | 0=>(fun _=>false,fun _=>false)
 | n+1=>(fun e=>match e with
  | .Name x _=>nmOk sc x
  | .Constant c _ _=>(cOf c).any cOk
  | .Tuple es _ _=>Nat.ble es.length 1000&&es.all (pk sc n).1
  | .List es _=>Nat.ble es.length 1000&&es.all (pk sc n).1
  | .Subscript x i _=>(pk sc n).1 x&&(pk sc n).1 i
  | .Compare l ops rs _=>(pk sc n).1 l&&rs.all (pk sc n).1
  | .IfExp t a b _=>(pk sc n).2 t&&((pk sc n).1 a&&(pk sc n).1 b)
  | _=>false,
  fun e=>match e with
  | .Compare l ops rs _=>(pk sc n).1 l&&rs.all (pk sc n).1
  | .BoolOp .Or es _=>es.all (pk sc n).2
  | .BoolOp .And es _=>es.all (pk sc n).2
  | .UnaryOp .Not x _=>(pk sc n).2 x
  | .Name ..=>(pk sc n).1 e
  | .Subscript ..=>(pk sc n).1 e
  | _=>false)
theorem tt2 {a b:Bool} (h:(a&&b)=true):a=true∧b=true:=Bool.and_eq_true_iff.mp h
theorem nmOk_of {sc:Scope} {x:Str} (h:nmOk sc x=true):(sc.names.lookup x=some .local∨sc.names.lookup x=some .cell∨sc.names.lookup x=some .free)∧(x == ("__debug__":Str))=false∧(x == ("__classdict__":Str))=false:=
 ⟨(Bool.or_eq_true_iff.mp (tt2 (tt2 h).1).1).imp eq_of_beq fun h=>(Bool.or_eq_true_iff.mp h).imp eq_of_beq eq_of_beq,(Bool.not_eq_true' _).mp (tt2 (tt2 h).1).2,(Bool.not_eq_true' _).mp (tt2 h).2⟩
theorem pk_elim {sc:Scope} {P:Expr→Prop} (h1:∀ x p,P (.Name x p)) (h2:∀ c i p,P (.Constant c i p)) (h3:∀ l i p,P (.Tuple l i p)) (h4:∀ l p,P (.List l p)) (h5:∀ x i p,P (.Subscript x i p)) (h6:∀ l o r p,P (.Compare l o r p)) (h7:∀ t a b p,P (.IfExp t a b p)):∀ {n:Nat} {e:Expr},(pk sc n).1 e=true→P e
 | 0,_,h=>nb h
 | n+1,e,h=>by
  cases e with
  | Name=>exact h1 _ _
  | Constant=>exact h2 _ _ _
  | Tuple=>exact h3 _ _ _
  | List=>exact h4 _ _
  | Subscript=>exact h5 _ _ _
  | Compare=>exact h6 _ _ _ _
  | IfExp=>exact h7 _ _ _ _
  | _=>exact nb h
theorem marks_of {op:CmpOp} {sc:Scope} {n:Nat} {e:Expr} (h:(pk sc n).1 e=true):behindInMarks op e=false:=
 pk_elim (P:=fun e=>behindInMarks op e=false) (fun _ _=>rfl) (fun _ _ _=>rfl) (fun _ _ _=>rfl) (fun _ _=>rfl) (fun _ _ _=>rfl) (fun _ _ _ _=>rfl) (fun _ _ _ _=>rfl) h
theorem noStar_of {sc:Scope} {n:Nat} {e:Expr} (h:(pk sc n).1 e=true):noStar e=true:=
 pk_elim (P:=fun e=>noStar e=true) (fun _ _=>rfl) (fun _ _ _=>rfl) (fun _ _ _=>rfl) (fun _ _=>rfl) (fun _ _ _=>rfl) (fun _ _ _ _=>rfl) (fun _ _ _ _=>rfl) h
theorem noSlice_of {sc:Scope} {n:Nat} {e:Expr} (h:(pk sc n).1 e=true):noSlice e=true:=
 pk_elim (P:=fun e=>noSlice e=true) (fun _ _=>rfl) (fun _ _ _=>rfl) (fun _ _ _=>rfl) (fun _ _=>rfl) (fun _ _ _=>rfl) (fun _ _ _ _=>rfl) (fun _ _ _ _=>rfl) h
theorem swaps_of {sc:Scope} {n:Nat} {e:Expr} {t:Option Expr} {l:Nat} {env:Env} (h:(pk sc n).1 e=true):swapsWith e t l env=pure false:=
 pk_elim (P:=fun e=>swapsWith e t l env=pure false) (fun _ _=>rfl) (fun _ _ _=>rfl) (fun _ _ _=>rfl) (fun _ _=>rfl) (fun _ _ _=>rfl) (fun _ _ _ _=>rfl) (fun _ _ _ _=>rfl) h
theorem pvL_len {f:Expr→Option AV}:∀ {es:List Expr} {vs:List AV},pvL f es=some vs→vs.length=es.length:=by
 intro es
 induction es with
 | nil=>intro vs h;cases h;rfl
 | cons e es ih=>
  intro vs h
  refine Zea (Option.bind_eq_some_iff.mp h) fun v h1 h2=>?_
  refine Zea (Option.bind_eq_some_iff.mp h2) fun vs h2 h3=>?_
  exact Option.some.inj h3▸congrArg (·+1) (ih h2)
theorem allQ_ok:∀ {vs:List AV} {xs:List PyData},allQ vs=some xs→allP vs=some xs∧xs.length=vs.length:=by
 intro vs
 induction vs with
 | nil=>intro xs h;cases h;exact ⟨rfl,rfl⟩
 | cons v vs ih=>
  intro xs h
  cases v with
  | p x=>
   refine Zea (Option.bind_eq_some_iff.mp h) fun xs h2 h3=>?_
   cases h3
   exact ⟨congrArg (Option.map (x::·)) (ih h2).1,congrArg (·+1) (ih h2).2⟩
  | _=>exact nn h
theorem one1_of {α:Type} {l:List α} {a:α} (h:one1 l=some a):l=[a]:=by
 cases l with
 | nil=>exact nn h
 | cons b l=>cases l with
  | nil=>cases h;rfl
  | cons=>exact nn h
theorem boolOf_of {a:AV} {b:Bool} (h:boolOf a=some b):a=.p (.bool b):=by
 cases a with
 | p x=>cases x with
  | bool=>cases h;rfl
  | _=>exact nn h
 | _=>exact nn h
section
variable {C:Cx} {D n:Nat} {sc:Scope} {m:Mp} {σ:Sto} {v:AV} {c:Bool} {e:Expr}
noncomputable abbrev PE (C:Cx) (D:Nat) (sc:Scope) (m:Mp) (σ:Sto) (n:Nat):Prop:=∀ e v,(pk sc n).1 e=true→(px σ m n).1 e=some v→JE C D sc m σ e v σ
noncomputable abbrev PT (C:Cx) (D:Nat) (sc:Scope) (m:Mp) (σ:Sto) (n:Nat):Prop:=∀ e c,(pk sc n).2 e=true→(px σ m n).2 e=some c→JT C D sc m σ e c σ
theorem PE.l (H:PE C D sc m σ n):∀ {es:List Expr} {vs:List AV},es.all (pk sc n).1=true→pvL (px σ m n).1 es=some vs→JL C D sc m σ es vs σ:=by
 intro es
 induction es with
 | nil=>intro vs _ h;cases h;exact .nil
 | cons e es ih=>
  intro vs k h
  refine Zea (Option.bind_eq_some_iff.mp h) fun v h1 h2=>?_
  refine Zea (Option.bind_eq_some_iff.mp h2) fun vs h2 h3=>?_
  have k:=Bool.and_eq_true_iff.mp k
  exact Option.some.inj h3▸.cons (noStar_of k.1) (H e v k.1 h1) (ih k.2 h2)
theorem PE.cmp (H:PE C D sc m σ n) {l:Expr} {ops:List CmpOp} {rs:List Expr} {pos:Pos} (k:((pk sc n).1 l&&rs.all (pk sc n).1)=true) (h:cmpP (px σ m n).1 σ l ops rs=some c):JT C D sc m σ (.Compare l ops rs pos) c σ∧JE C D sc m σ (.Compare l ops rs pos) (.p (.bool c)) σ:=by
 refine Zea (Option.bind_eq_some_iff.mp h) fun op h1 h2=>?_
 refine Zea (Option.bind_eq_some_iff.mp h2) fun r h3 h2=>?_
 refine Zea (Option.bind_eq_some_iff.mp h2) fun a h4 h2=>?_
 refine Zea (Option.bind_eq_some_iff.mp h2) fun b h5 h6=>?_
 cases one1_of h1
 cases one1_of h3
 have k:=Bool.and_eq_true_iff.mp k
 have k2:=(Bool.and_eq_true_iff.mp k.2).1
 have R:=H r b k2 h5
 exact ⟨.cmp (H l a k.1 h4) R h6 (marks_of k2),.cmp (H l a k.1 h4) R h6 (marks_of k2)⟩
theorem PT.or (H:PT C D sc m σ n):∀ {es:List Expr} (pos:Pos),es.all (pk sc n).2=true→orL (px σ m n).2 es=some c→JT C D sc m σ (.BoolOp .Or es pos) c σ:=by
 intro es
 induction es with
 | nil=>intro _ _ h;cases h;exact .orNil
 | cons e es ih=>
  intro _ k h
  refine Zea (Option.bind_eq_some_iff.mp h) fun b h1 h2=>?_
  have k:=Bool.and_eq_true_iff.mp k
  refine .or (H e b k.1 h1) ?_
  cases b with
  | true=>cases h2;exact .t
  | false=>exact .f fun p=>ih p k.2 h2
theorem PT.and (H:PT C D sc m σ n):∀ {es:List Expr} (pos:Pos),es.all (pk sc n).2=true→andL (px σ m n).2 es=some c→JT C D sc m σ (.BoolOp .And es pos) c σ:=by
 intro es
 induction es with
 | nil=>intro _ _ h;cases h;exact .andNil
 | cons e es ih=>
  intro _ k h
  refine Zea (Option.bind_eq_some_iff.mp h) fun b h1 h2=>?_
  have k:=Bool.and_eq_true_iff.mp k
  refine .and (H e b k.1 h1) ?_
  cases b with
  | false=>cases h2;exact .f
  | true=>exact .t fun p=>ih p k.2 h2
theorem PE.bool (H:PE C D sc m σ n) (hp:plainTest e=true) (k:(pk sc n).1 e=true) (h:((px σ m n).1 e).bind boolOf=some c):JT C D sc m σ e c σ:=
 Zea (Option.bind_eq_some_iff.mp h) fun _ h1 h2=>.val (H e _ k (boolOf_of h2▸h1)) hp
theorem JE.itN {x i:Expr} {pos:Pos} {a:AV} {k:Nat} (h1:JE C D sc m σ x a σ) (h2:JE C D sc m σ i (.p (.int (.ofNat k))) σ) (hn:noSlice i=true) (hk:Nat.ble k 0x7fffffffffffffff=true) (h:(asSeq σ a).bind (·[k]?)=some v):JE C D sc m σ (.Subscript x i pos) v σ:=
 Zea (Option.bind_eq_some_iff.mp h) fun _ h3 h4=>.sub h1 h2 (op_item hn h3 (Int.natCast_nonneg k) (Int.ofNat_lt.mpr (Nat.lt_succ_of_le (Nat.le_of_ble_eq_true hk))) h4)
theorem bifN {α:Type} {b:Bool} {x:Option α} {y:α} (h:(bif b then x else none)=some y):b=true∧x=some y:=by
 cases b with
 | true=>exact ⟨rfl,h⟩
 | false=>exact nn h
theorem JE.item {x i:Expr} {pos:Pos} {a b:AV} (h1:JE C D sc m σ x a σ) (h2:JE C D sc m σ i b σ) (hn:noSlice i=true) (h:itOf σ a b=some v):JE C D sc m σ (.Subscript x i pos) v σ:=by
 cases b with
 | p y=>cases y with
  | str s=>exact Zea (Option.bind_eq_some_iff.mp h) fun _ h3 h4=>.sub h1 h2 (op_key hn h3 h4)
  | int k=>cases k with
   | ofNat k=>exact .itN h1 h2 hn (bifN h).1 (bifN h).2
   | negSucc=>exact nn h
  | _=>exact nn h
 | _=>exact nn h
theorem PE.con {c:Const} {i:Nat} {p:Pos} (k:(cOf c).any cOk=true) (h:((cOf c).bind fun c=>some (AV.p c))=some v):JE C D sc m σ (.Constant c i p) v σ:=by
 cases c with
 | int=>cases h;exact .cInt
 | str=>cases h;exact .cStr k
 | none=>cases h;exact .cNone
 | bool=>cases h;exact .cBool
 | _=>exact nn h
theorem pt_elim {P:Expr→Prop} (h1:∀ l o r p,P (.Compare l o r p)) (h2:∀ o l p,P (.BoolOp o l p)) (h3:∀ o x p,P (.UnaryOp o x p)) (h4:∀ x p,P (.Name x p)) (h5:∀ x i p,P (.Subscript x i p)):∀ {e:Expr},(pk sc (n+1)).2 e=true→P e
 | e,h=>by
  cases e with
  | Compare=>exact h1 _ _ _ _
  | BoolOp=>exact h2 _ _ _
  | UnaryOp=>exact h3 _ _ _
  | Name=>exact h4 _ _
  | Subscript=>exact h5 _ _ _
  | _=>exact nb h
theorem px_ok (n:Nat):PE C D sc m σ n∧PT C D sc m σ n:=by
 induction n with
 | zero=>exact ⟨fun _ _ h=>nb h,fun _ _ h=>nb h⟩
 | succ n ih=>
  refine ⟨fun e v k=>pk_elim (P:=fun e=>(pk sc (n+1)).1 e=true→(px σ m (n+1)).1 e=some v→JE C D sc m σ e v σ) ?_ ?_ ?_ ?_ ?_ ?_ ?_ k k,fun e c k=>pt_elim (P:=fun e=>(pk sc (n+1)).2 e=true→(px σ m (n+1)).2 e=some c→JT C D sc m σ e c σ) ?_ ?_ ?_ ?_ ?_ k k⟩
  ·exact fun x p k h=>.name h (nmOk_of k).1 (nmOk_of k).2.1 (nmOk_of k).2.2
  ·exact fun c i p k h=>PE.con k h
  ·intro es i p k h
   refine Zea (Option.bind_eq_some_iff.mp h) fun vs h1 h2=>?_
   refine Zea (Option.bind_eq_some_iff.mp h2) fun xs h2 h3=>?_
   exact Option.some.inj h3▸.tuple (ih.1.l (tt2 k).2 h1) (allQ_ok h2).1 ((allQ_ok h2).2.trans (pvL_len h1)▸Nat.le_of_ble_eq_true (tt2 k).1)
  ·intro es p k h
   cases es with
   | nil=>exact nn h
   | cons e es=>?_
   refine Zea (Option.bind_eq_some_iff.mp h) fun vs h1 h2=>?_
   refine Zea (Option.bind_eq_some_iff.mp h2) fun xs h2 h3=>?_
   exact Option.some.inj h3▸.list (ih.1.l (tt2 k).2 h1) (allQ_ok h2).1 (pvL_len h1▸Nat.le_of_ble_eq_true (tt2 k).1)
  ·intro x i p k h
   refine Zea (Option.bind_eq_some_iff.mp h) fun a h1 h2=>?_
   refine Zea (Option.bind_eq_some_iff.mp h2) fun b h3 h4=>?_
   exact .item (ih.1 x a (tt2 k).1 h1) (ih.1 i b (tt2 k).2 h3) (noSlice_of (tt2 k).2) h4
  ·intro l ops rs p k h
   refine Zea (Option.bind_eq_some_iff.mp h) fun c h1 h2=>?_
   cases c<;>cases h2<;>exact (ih.1.cmp k h1).2
  ·intro t a b p k h
   refine Zea (Option.bind_eq_some_iff.mp h) fun c h1 h2=>?_
   refine .ife (ih.2 t c (tt2 k).1 h1) ?_
   cases c with
   | true=>exact .t (ih.1 a v (tt2 (tt2 k).2).1 h2)
   | false=>exact .f (ih.1 b v (tt2 (tt2 k).2).2 h2)
  ·exact fun l o r p k h=>(ih.1.cmp k h).1
  ·intro op es p k h
   cases op with
   | Or=>exact ih.2.or p k h
   | And=>exact ih.2.and p k h
  ·intro op x p k h
   cases op with
   | Not=>
    refine Zea (Option.bind_eq_some_iff.mp h) fun b h1 h2=>?_
    exact Option.some.inj h2▸.not (ih.2 x b k h1)
   | _=>exact nb k
  ·exact fun x p k h=>ih.1.bool rfl k h
  ·exact fun x i p k h=>ih.1.bool rfl k h
theorem JE.clc (h:some v=(px σ m 9).1 e) (k:true=(pk sc 9).1 e):JE C D sc m σ e v σ:=(px_ok 9).1 e v k.symm h.symm
theorem JT.clcF (h:some false=(px σ m 9).2 e) (k:true=(pk sc 9).2 e):JT C D sc m σ e false σ:=(px_ok 9).2 e false k.symm h.symm
theorem JT.clcT (h:some true=(px σ m 9).2 e) (k:true=(pk sc 9).2 e):JT C D sc m σ e true σ:=(px_ok 9).2 e true k.symm h.symm
theorem JL.clc {es:List Expr} {vs:List AV} (h:some vs=pvL (px σ m 9).1 es) (k:true=es.all (pk sc 9).1):JL C D sc m σ es vs σ:=(px_ok 9).1.l k.symm h.symm
theorem JT.cmpP {l r:Expr} {op:CmpOp} {pos:Pos} {a b:AV} (h1:some a=(px σ m 9).1 l) (h2:some b=(px σ m 9).1 r) (k:true=[l,r].all (pk sc 9).1) (h:cmpV op a b σ=some c):JT C D sc m σ (.Compare l [op] [r] pos) c σ:=by
 have k:=Bool.and_eq_true_iff.mp k.symm
 have k2:=(Bool.and_eq_true_iff.mp k.2).1
 exact .cmp ((px_ok 9).1 l _ k.1 h1.symm) ((px_ok 9).1 r _ k2 h2.symm) h (marks_of k2)
noncomputable def step (σ:Sto) (m:Mp) (ss:List Stmt):Stmt→Option (Mp × List Stmt)
 | .Assign ts val _=>(one1 ts).bind fun t=>match t with
  | .Name x _=>((px σ m 9).1 val).bind fun v=>some ((x,v)::m,ss)
  | _=>none
 | .If t b e _=>((px σ m 9).2 t).bind fun c=>some (m,(bif c then b else e)++ss)
 | _=>none
noncomputable def adv (σ:Sto):Nat→Mp→List Stmt→Mp × List Stmt
 | 0,m,ss=>(m,ss)
 | _+1,m,[]=>(m,[])
 | n+1,m,s::ss=>match step σ m ss s with
  | some (m',ss')=>adv σ n m' ss'
  | none=>(m,s::ss)
noncomputable def adv1 (σ:Sto) (m:Mp):List Stmt→Option (Mp × List Stmt)
 | []=>none
 | s::ss=>match step σ m ss s with
  | some (m',ss')=>some (adv σ 20 m' ss')
  | none=>none
noncomputable def stepK (sc:Scope):Stmt→Bool
 | .Assign ts val _=>(one1 ts).any fun t=>(pk sc 9).1 t&&match t with
  | .Name x _=>(sc.names.lookup x == some .local||sc.names.lookup x == some .cell)&&(pk sc 9).1 val
  | _=>false
 | .If t b e _=>(pk sc 9).2 t
 | _=>false
noncomputable def advK (sc:Scope) (σ:Sto):Nat→Mp→List Stmt→Option (Mp × List Stmt)
 | 0,m,ss=>some (m,ss)
 | _+1,m,[]=>some (m,[])
 | n+1,m,s::ss=>((step σ m ss s).elim (some (m,s::ss))) fun q=>bif stepK sc s then advK sc σ n q.1 q.2 else none
theorem execs_if {t:Expr} {b e ss:List Stmt} {pos:Pos} {env:Env}:execs (.If t b e pos::ss) env=(do standAt pos;let c ← isTrue t env (eval t env);execs ((bif c then b else e)++ss) env):=by
 rw [execs_cons,arm_exec_If,bind_assoc]
 congr 1;funext _
 rw [bind_assoc]
 congr 1;funext c
 rw [execs_append]
 cases c<;>rfl
theorem ExS.if {t:Expr} {b e ss:List Stmt} {pos:Pos} {σ':Sto} {o:Out} (h:EvT C D sc m σ t c σ') (h2:ExS C D sc m σ' ((bif c then b else e)++ss) o):ExS C D sc m σ (.If t b e pos::ss) o:=fun A G env hA I K O TT Q E hQ=>by
 rw [execs_if]
 exact wpAny_bind (wpAny_standAt (wpAny_bind (h A G env hA I K _ _ fun G' st I'=>h2 A G' env hA I' (K.step I st) (O.step K st) TT Q E (Post.pre st.toX hQ))))
theorem stepK_elim {P:Stmt→Prop} (h1:∀ t v p,P (.Assign t v p)) (h2:∀ t b e p,P (.If t b e p)) {s:Stmt} (h:stepK sc s=true):P s:=by
 cases s with
 | Assign=>exact h1 _ _ _
 | If=>exact h2 _ _ _ _
 | _=>exact nb h
theorem step_asg {t val:Expr} {pos:Pos} {ss ss':List Stmt} {m':Mp} {o:Out} (h:step σ m ss (.Assign [t] val pos)=some (m',ss')) (k:stepK sc (.Assign [t] val pos)=true) (hS:JS C D sc m' σ ss' o):JS C D sc m σ (.Assign [t] val pos::ss) o:=by
 refine pk_elim (P:=fun t=>step σ m ss (.Assign [t] val pos)=some (m',ss')→stepK sc (.Assign [t] val pos)=true→JS C D sc m σ (.Assign [t] val pos::ss) o) ?_ ?_ ?_ ?_ ?_ ?_ ?_ (tt2 k).1 h k
 ·intro x p h k
  refine Zea (Option.bind_eq_some_iff.mp h) fun v hv h3=>?_
  cases h3
  exact .seq (.assign ((px_ok 9).1 val v (tt2 (tt2 k).2).2 hv) ((Bool.or_eq_true_iff.mp (tt2 (tt2 k).2).1).imp eq_of_beq eq_of_beq) fun env=>swaps_of (tt2 (tt2 k).2).2) (.nx hS)
 ·exact fun _ _ _ h=>nn h
 ·exact fun _ _ _ h=>nn h
 ·exact fun _ _ h=>nn h
 ·exact fun _ _ _ h=>nn h
 ·exact fun _ _ _ _ h=>nn h
 ·exact fun _ _ _ _ h=>nn h
theorem step_ok {s:Stmt} {ss ss':List Stmt} {m':Mp} {o:Out} (h:step σ m ss s=some (m',ss')) (k:stepK sc s=true) (hS:JS C D sc m' σ ss' o):JS C D sc m σ (s::ss) o:=by
 refine stepK_elim (P:=fun s=>step σ m ss s=some (m',ss')→stepK sc s=true→JS C D sc m σ (s::ss) o) ?_ ?_ k h k
 ·intro ts val pos h k
  refine Zea (Option.bind_eq_some_iff.mp h) fun t h1 h2=>?_
  cases one1_of h1
  exact step_asg h k hS
 ·intro t b e pos h k
  refine Zea (Option.bind_eq_some_iff.mp h) fun c h1 h2=>?_
  cases h2
  exact ⟨ExS.if ((px_ok 9).2 t c k h1).h hS.h⟩
theorem advK_ok {o:Out} {m':Mp} {ss':List Stmt} (hS:JS C D sc m' σ ss' o):∀ (n:Nat) (m:Mp) (ss:List Stmt),advK sc σ n m ss=some (m',ss')→JS C D sc m σ ss o:=by
 intro n
 induction n with
 | zero=>intro m ss h;cases h;exact hS
 | succ n ih=>
  intro m ss h
  cases ss with
  | nil=>cases h;exact hS
  | cons s ss=>
   refine (?_:∀ r,step σ m ss s=r→r.elim (some (m,s::ss)) (fun q=>bif stepK sc s then advK sc σ n q.1 q.2 else none)=some (m',ss')→JS C D sc m σ (s::ss) o) _ rfl h
   intro r e h
   cases r with
   | none=>cases h;exact hS
   | some q=>exact step_ok e (bifN h).1 (ih _ _ (bifN h).2)
theorem JS.adv {o:Out} {m':Mp} {ss ss':List Stmt} (h:some (m',ss')=adv1 σ m ss) (k:some (m',ss')=advK sc σ 21 m ss) (hS:JS C D sc m' σ ss' o):JS C D sc m σ ss o:=advK_ok hS _ _ _ k.symm
theorem JS.if {t:Expr} {b e ss:List Stmt} {pos:Pos} {σ':Sto} {o:Out} (h:JT C D sc m σ t c σ') (h2:JS C D sc m σ' ((bif c then b else e)++ss) o):JS C D sc m σ (.If t b e pos::ss) o:=⟨.if h.h h2.h⟩
theorem JS.ret {x:Expr} {ss:List Stmt} {pos:Pos} {σ':Sto} {o:Out} (h:JE C D sc m σ x v σ') (e:.ret v σ'=o):JS C D sc m σ (.Return (some x) pos::ss) o:=e▸.seq (.retE h) .rt
end

noncomputable def fnBody:Stmt→List Stmt
 | .FunctionDef _ _ b _ _ _ _ _ _ _=>b
 | _=>[]
noncomputable def fnScope:Stmt→Scope
 | .FunctionDef _ _ _ _ _ _ s _ _ _=>s
 | _=>{ kind:=.module,names:=[],isGenerator:=false,isCoroutine:=false,more:=[] }
noncomputable def topAt (n:Nat):Stmt:=(PySem.Challenge.pw_ot0022_01.main.body[n]?).getD (.Pass ⟨0,0,0,0⟩)
noncomputable def bodyAt (n:Nat):List Stmt:=fnBody (topAt n)
noncomputable def scopeAt (n:Nat):Scope:=fnScope (topAt n)
noncomputable def clsBody:Stmt→List Stmt
 | .ClassDef _ _ _ b _ _ _ _ _ _ _=>b
 | _=>[]
noncomputable def clsAt (n k:Nat):Stmt:=((clsBody (topAt n))[k]?).getD (.Pass ⟨0,0,0,0⟩)
noncomputable def forBody:Stmt→List Stmt
 | .For _ _ b _ _=>b
 | _=>[]
noncomputable def stAt (n k:Nat):Stmt:=((bodyAt n)[k]?).getD (.Pass ⟨0,0,0,0⟩)
structure Fns where
 parts_of:Addr
 rebuilt:Addr
 substituted:Addr
 with_regions:Addr
 no_region:Addr
 erased:Addr
 region_text:Addr
 type_text:Addr
 matched:Addr
 impl_bounds:Addr
 is_copy:Addr
 field_rows:Addr
 fields_of:Addr
 has_drop:Addr
 held_types:Addr
 look_copy:Addr
 check_copies:Addr
 law_pool:Addr
 law_take:Addr
 law_one:Addr
 law_type:Addr
 law_world:Addr
 law_parts:Addr
 law_named:Addr
 law_shape:Addr
 law_fits:Addr
 law_plain:Addr
 law_put:Addr
 law_copied:Addr
 law_is_bad:Addr
 law_refused:Addr
 Adt:Addr
 ImplRow:Addr
 World:Addr
 TraitFault:Addr
 initE:Addr
 initA:Addr
 initR:Addr
 initW:Addr
 law:Addr
structure Pg (C:Cx) (N:Fns):Prop where
 ok:C.Ok
 parts_of:FunOk C "parts_of" N.parts_of ["told"] (bodyAt 7) (scopeAt 7)
 rebuilt:FunOk C "rebuilt" N.rebuilt ["told","parts"] (bodyAt 8) (scopeAt 8)
 substituted:FunOk C "substituted" N.substituted ["told","table"] (bodyAt 9) (scopeAt 9)
 with_regions:FunOk C "with_regions" N.with_regions ["told","change"] (bodyAt 10) (scopeAt 10)
 no_region:FunOk C "no_region" N.no_region ["region"] (bodyAt 11) (scopeAt 11)
 erased:FunOk C "erased" N.erased ["told"] (bodyAt 12) (scopeAt 12)
 region_text:FunOk C "region_text" N.region_text ["region"] (bodyAt 13) (scopeAt 13)
 type_text:FunOk C "type_text" N.type_text ["told"] (bodyAt 14) (scopeAt 14)
 matched:FunOk C "matched" N.matched ["pattern","told","table"] (bodyAt 15) (scopeAt 15)
 impl_bounds:FunOk C "impl_bounds" N.impl_bounds ["row","table","world","bounds"] (bodyAt 16) (scopeAt 16)
 is_copy:FunOk C "is_copy" N.is_copy ["told","world","bounds"] (bodyAt 17) (scopeAt 17)
 field_rows:FunOk C "field_rows" N.field_rows ["told","variant","world"] (bodyAt 18) (scopeAt 18)
 fields_of:FunOk C "fields_of" N.fields_of ["told","variant","world"] (bodyAt 19) (scopeAt 19)
 has_drop:FunOk C "has_drop" N.has_drop ["told","world"] (bodyAt 20) (scopeAt 20)
 held_types:FunOk C "held_types" N.held_types ["told","world"] (bodyAt 22) (scopeAt 22)
 look_copy:FunOk C "look_copy" N.look_copy ["row","world"] (bodyAt 23) (scopeAt 23)
 check_copies:FunOk C "check_copies" N.check_copies ["world"] (bodyAt 24) (scopeAt 24)
 law_pool:FunOk C "_law_pool" N.law_pool ["script","k"] (bodyAt 30) (scopeAt 30)
 law_take:FunOk C "_law_take" N.law_take ["source","top"] (bodyAt 31) (scopeAt 31)
 law_one:FunOk C "_law_one" N.law_one ["source","things"] (bodyAt 32) (scopeAt 32)
 law_type:FunOk C "_law_type" N.law_type ["source","deep","names"] (bodyAt 34) (scopeAt 34)
 law_world:FunOk C "_law_world" N.law_world ["source"] (bodyAt 35) (scopeAt 35)
 law_parts:FunOk C "_law_parts" N.law_parts ["T"] (bodyAt 36) (scopeAt 36)
 law_named:FunOk C "_law_named" N.law_named ["T"] (bodyAt 37) (scopeAt 37)
 law_shape:FunOk C "_law_shape" N.law_shape ["T"] (bodyAt 38) (scopeAt 38)
 law_fits:FunOk C "_law_fits" N.law_fits ["pattern","T","known"] (bodyAt 39) (scopeAt 39)
 law_plain:FunOk C "_law_plain" N.law_plain ["T"] (bodyAt 40) (scopeAt 40)
 law_put:FunOk C "_law_put" N.law_put ["T","table"] (bodyAt 41) (scopeAt 41)
 law_copied:FunOk C "_law_copied" N.law_copied ["rows","T","bounds"] (bodyAt 42) (scopeAt 42)
 law_is_bad:FunOk C "_law_is_bad" N.law_is_bad ["world","row"] (bodyAt 43) (scopeAt 43)
 law_refused:FunOk C "_law_refused" N.law_refused ["call"] (bodyAt 44) (scopeAt 44)
 b_len:C.mg "len"=none
 b_tuple:C.mg "tuple"=none
 b_list:C.mg "list"=none
 b_int:C.mg "int"=none
 b_str:C.mg "str"=none
 b_max:C.mg "max"=none
 b_min:C.mg "min"=none
 b_isinstance:C.mg "isinstance"=none
 b_zip:C.mg "zip"=none
 b_dict:C.mg "dict"=none
 b_range:C.mg "range"=none
 b_enumerate:C.mg "enumerate"=none
 a_world:∀ nm∈[("adts":Str),"impls"],ClsOk C N.World nm
 a_row:∀ nm∈[("params":Str),"trait","self_type"],ClsOk C N.ImplRow nm
 a_adt:∀ nm∈[("regions":Str),"params","variants"],ClsOk C N.Adt nm
 lnum:∃ u,C.mg "_law_num"=some u∧∀ G σ,Inv C G σ→VR C G u (.p (.tuple [.str "int",.str "u8"]))
 tf:ExcCls C "TraitFault" N.TraitFault N.initE
 tf_set:∀ nm∈[("message":Str),"spot"],ExcSet C N.TraitFault nm
 b_exc:C.mg "Exception"=none
 b_init:findCls C.K (.type "Exception") (.type "type") "__init__"=some (.val (.builtin "Exception.__init__"))
 initE:∃ dv,dv.length=1∧DefOk C N.initE ["self","message","spot"] dv [.p (.int 0)] (fnBody (clsAt 2 0)) (fnScope (clsAt 2 0))
 c_adt:ClsMk C "Adt" N.Adt N.initA
 c_row:ClsMk C "ImplRow" N.ImplRow N.initR
 c_world:ClsMk C "World" N.World N.initW
 s_adt:∀ nm∈[("path":Str),"module","regions","params","variants","publics","is_enum"],ClsSet C N.Adt nm
 s_row:∀ nm∈[("number":Str),"regions","params","trait","trait_args","self_type","methods","spot"],ClsSet C N.ImplRow nm
 s_world:∀ nm∈[("modules":Str),"adts","variants","sigs","traits","impls","consts","bodies"],ClsSet C N.World nm
 initA:∃ dv,dv.length=2∧DefOk C N.initA ["self","path","regions","params","variants","is_enum","module","publics"] dv [.p (.str ""),.p (.tuple [])] (fnBody (clsAt 26 0)) (fnScope (clsAt 26 0))
 initR:∃ dv,dv.length=1∧DefOk C N.initR ["self","number","regions","params","trait","trait_args","self_type","methods","spot"] dv [.p (.int 0)] (fnBody (clsAt 27 0)) (fnScope (clsAt 27 0))
 initW:∃ dv,dv.length=1∧DefOk C N.initW ["self","modules"] dv [.p .none] (fnBody (clsAt 28 0)) (fnScope (clsAt 28 0))
 tabF:∃ p,p∈C.tabs∧(∀ fd oc od sl,C.H0.get? N.fields_of=some ⟨oc,od,.func fd,sl⟩→fd.code=.ref p.1∧fd.qualname++".<locals>."="fields_of.<locals>.")∧C.tq p.2="fields_of.<locals>.put_in"
 tabL:∃ p,p∈C.tabs∧(∀ fd oc od sl,C.H0.get? N.law=some ⟨oc,od,.func fd,sl⟩→fd.code=.ref p.1∧fd.qualname++".<locals>."="law.<locals>.")∧C.tq p.2="law.<locals>.<lambda>"
 copy:∃ t,C.mg "COPY"=some (.str "Copy" t)
 drop:∃ t,C.mg "DROP"=some (.str "Drop" t)
theorem boots:True∧bootBuiltins "len"=some (.builtin "len")∧bootBuiltins "tuple"=some (.type "tuple")∧bootBuiltins "list"=some (.type "list")∧bootBuiltins "int"=some (.type "int")∧bootBuiltins "str"=some (.type "str")∧bootBuiltins "max"=some (.builtin "max")∧bootBuiltins "min"=some (.builtin "min")∧bootBuiltins "isinstance"=some (.builtin "isinstance")∧bootBuiltins "zip"=some (.type "zip")∧bootBuiltins "dict"=some (.type "dict")∧bootBuiltins "range"=some (.type "range")∧bootBuiltins "enumerate"=some (.type "enumerate"):=by
 refine ⟨trivial,?_,?_,?_,?_,?_,?_,?_,?_,?_,?_,?_,?_⟩<;>kernel_rfl
theorem boot_len:bootBuiltins "len"=some (.builtin "len"):=by kernel_rfl
theorem boot_tuple:bootBuiltins "tuple"=some (.type "tuple"):=by kernel_rfl
theorem boot_list:bootBuiltins "list"=some (.type "list"):=by kernel_rfl
theorem boot_int:bootBuiltins "int"=some (.type "int"):=by kernel_rfl
theorem boot_str:bootBuiltins "str"=some (.type "str"):=by kernel_rfl
theorem boot_max:bootBuiltins "max"=some (.builtin "max"):=by kernel_rfl
theorem boot_min:bootBuiltins "min"=some (.builtin "min"):=by kernel_rfl
theorem boot_isinstance:bootBuiltins "isinstance"=some (.builtin "isinstance"):=by kernel_rfl
theorem boot_zip:bootBuiltins "zip"=some (.type "zip"):=by kernel_rfl
theorem boot_dict:bootBuiltins "dict"=some (.type "dict"):=by kernel_rfl
theorem boot_range:bootBuiltins "range"=some (.type "range"):=by kernel_rfl
noncomputable def fnName:Stmt→Str
 | .FunctionDef n _ _ _ _ _ _ _ _ _=>n
 | _=>""
noncomputable def kF (st:Stmt) (q:Str) (dv:Value) (m:Str) (t c:Nat):Obj:=match st with
 | .FunctionDef n ps b _ _ _ s _ _ _=>{ cls:=.type "function",data:=.func { name:=n,qualname:=q,params:=ps,body:=.stmts b,scope:=s,globals:=3,closure:=[],defaults:=dv,kwdefaults:=.none,pyModule:=.str m t,code:=.ref c } }
 | _=>{ cls:=.none,data:=.seq #[] 0 }
noncomputable def kT (l:List Value):Obj:={ cls:=.type "tuple",data:=.seq l.toArray 0 }
noncomputable def kE (x:Str) (t:Nat) (v:Value):Str × Nat × Value:=(x,t,v)
noncomputable def kD (P:Params) (c:Value) (n:Nat) (l:List (Str × Nat × Value)):Obj:={ cls:=c,data:=.dict (l.map fun x=>{ hash:=PyData.keyHash P x.1,key:=.str x.1 x.2.1,val:=x.2.2 }).toArray n }
noncomputable def kC (n q:Str) (t l c f a z b:Nat) (x y w:Value) (e u:Nat):Obj:={ cls:=.type "code",data:=.fields #[.str n t,.str q (t+1),.str "/claim/cut.py" (t+2),.int l 0,.int c 0,.int 0 0,.int 0 0,.int f 0,.ref a,.bool true,.int z 0,.ref b,x,y,w,.ref e,.int u 0,.int l 0,.str "/claim/cut.py" (u+1)] }
noncomputable def kO (n:Str) (b m:List Value) (s:Nat) (sub:List Value) (sl:List (Option Value)):Obj:={ cls:=.type "type",data:=.cls { name:=n,bases:=b,mro:=m,ns:=s,qualname:=n,subclasses:=sub },slots:=sl.toArray }
noncomputable def KK (P:Params):Frag:=[(2,kD P (.none) 2 [kE "type.__subclasses__.Exception.0" 224 (.int 39 0),kE "type.__subclasses__.Exception.n" 225 (.int 1 0)]),
 (3,kD P (.type "dict") 50 [kE "__name__" 165 (.str "law_ot0022_01" 523),kE "__doc__" 166 .none,kE "__package__" 167 .none,kE "__loader__" 168 (.builtin "__main__.__loader__#opaque"),kE "__spec__" 169 .none,kE "__annotations__" 170 (.ref 6),kE "__builtins__" 171 (.ref 4),kE "__file__" 173 (.str "/claim/cut.py" 172),kE "__cached__" 174 .none,kE "_wall" 193 (.ref 21),kE "LendError" 227 (.ref 39),kE "TraitFault" 243 (.ref 52),kE "COPY" 247 (.str "Copy" 246),kE "DROP" 249 (.str "Drop" 248),kE "parts_of" 257 (.ref 61),kE "rebuilt" 266 (.ref 68),kE "substituted" 272 (.ref 73),kE "with_regions" 278 (.ref 78),kE "no_region" 285 (.ref 85),kE "erased" 292 (.ref 92),kE "region_text" 299 (.ref 99),kE "type_text" 305 (.ref 104),kE "matched" 318 (.ref 111),kE "impl_bounds" 330 (.ref 118),kE "is_copy" 336 (.ref 123),kE "field_rows" 345 (.ref 130),kE "fields_of" 351 (.ref 135),kE "has_drop" 360 (.ref 142),kE "held_types" 368 (.ref 147),kE "look_copy" 379 (.ref 154),kE "check_copies" 387 (.ref 161),kE "Adt" 431 (.ref 180),kE "ImplRow" 475 (.ref 202),kE "World" 522 (.ref 231),kE "_law_pool" 535 (.ref 242),kE "_law_take" 544 (.ref 249),kE "_law_one" 552 (.ref 256),kE "_law_num" 555 (.ref 257),kE "_law_type" 566 (.ref 264),kE "_law_world" 572 (.ref 269),kE "_law_parts" 579 (.ref 276),kE "_law_named" 585 (.ref 281),kE "_law_shape" 592 (.ref 288),kE "_law_fits" 598 (.ref 293),kE "_law_plain" 604 (.ref 298),kE "_law_put" 610 (.ref 303),kE "_law_copied" 616 (.ref 308),kE "_law_is_bad" 622 (.ref 313),kE "_law_refused" 629 (.ref 320),kE "law" 635 (.ref 325)]),
 (20,kC "_wall" "_wall" 187 1 1 3 15 181 16 .none (.ref 17) (.ref 18) 19 191),
 (21,kF (topAt 0) "_wall" .none "__main__" 164 20),
 (22,kT [.type "Exception"]),
 (29,kT [.int 0 208]),
 (30,kT []),
 (33,kT []),
 (35,kC "__init__" "LendError.__init__" 209 7 3 3 30 181 31 .none (.ref 32) (.ref 33) 34 215),
 (36,kF (clsAt 2 0) "LendError.__init__" (.ref 29) "lendcore.errors" 194 35),
 (38,kD P (.type "dict") 3 [kE "__module__" 203 (.str "lendcore.errors" 194),kE "__firstlineno__" 207 (.int 5 206),kE "__init__" 217 (.ref 36),kE "__static_attributes__" 220 (.ref 37),kE "__weakref__" 222 (.ref 40),kE "__doc__" 223 .none]),
 (39,kO "LendError" [.type "Exception"] [.ref 39,.type "Exception",.type "BaseException",.type "object"] 38 [.ref 52] [some (.ref 22),none,some (.str "LendError" 196),some (.str "LendError" 204),some (.builtin "Exception.__new__"),some (.bool true)]),
 (43,kT [.ref 39]),
 (51,kD P (.type "dict") 2 [kE "__module__" 235 (.str "lendcore.errors" 194),kE "__firstlineno__" 239 (.int 11 238),kE "__static_attributes__" 240 (.ref 50),kE "__doc__" 241 .none]),
 (52,kO "TraitFault" [.ref 39] [.ref 52,.ref 39,.type "Exception",.type "BaseException",.type "object"] 51 [] [some (.ref 43),none,some (.str "TraitFault" 228),some (.str "TraitFault" 236),some (.builtin "Exception.__new__"),some (.bool true)]),
 (60,kC "parts_of" "parts_of" 250 16 1 3 55 181 56 .none (.ref 57) (.ref 58) 59 255),
 (61,kF (topAt 7) "parts_of" .none "lendcore.types" 244 60),
 (67,kC "rebuilt" "rebuilt" 258 25 2 3 62 181 63 .none (.ref 64) (.ref 65) 66 264),
 (68,kF (topAt 8) "rebuilt" .none "lendcore.types" 244 67),
 (72,kC "substituted" "substituted" 267 36 2 3 69 181 70 .none .none .none 71 270),
 (73,kF (topAt 9) "substituted" .none "lendcore.types" 244 72),
 (77,kC "with_regions" "with_regions" 273 40 2 3 74 181 75 .none .none .none 76 276),
 (78,kF (topAt 10) "with_regions" .none "lendcore.types" 244 77),
 (84,kC "no_region" "no_region" 279 46 1 3 79 181 80 .none (.ref 81) (.ref 82) 83 283),
 (85,kF (topAt 11) "no_region" .none "lendcore.types" 244 84),
 (91,kC "erased" "erased" 286 48 1 3 86 181 87 .none (.ref 88) (.ref 89) 90 290),
 (92,kF (topAt 12) "erased" .none "lendcore.types" 244 91),
 (98,kC "region_text" "region_text" 293 50 1 3 93 181 94 .none (.ref 95) (.ref 96) 97 297),
 (99,kF (topAt 13) "region_text" .none "lendcore.types" 244 98),
 (103,kC "type_text" "type_text" 300 54 1 3 100 181 101 .none .none .none 102 303),
 (104,kF (topAt 14) "type_text" .none "lendcore.types" 244 103),
 (110,kC "matched" "matched" 306 76 3 3 105 181 106 .none (.ref 107) (.ref 108) 109 316),
 (111,kF (topAt 15) "matched" .none "lendcore.types" 244 110),
 (117,kC "impl_bounds" "impl_bounds" 319 95 4 3 112 181 113 .none (.ref 114) (.ref 115) 116 328),
 (118,kF (topAt 16) "impl_bounds" .none "lendcore.types" 244 117),
 (122,kC "is_copy" "is_copy" 331 100 3 3 119 181 120 .none .none .none 121 334),
 (123,kF (topAt 17) "is_copy" .none "lendcore.types" 244 122),
 (129,kC "field_rows" "field_rows" 337 118 3 3 124 181 125 .none (.ref 126) (.ref 127) 128 343),
 (130,kF (topAt 18) "field_rows" .none "lendcore.types" 244 129),
 (134,kC "fields_of" "fields_of" 346 120 3 3 131 181 132 .none .none .none 133 349),
 (135,kF (topAt 19) "fields_of" .none "lendcore.types" 244 134),
 (141,kC "has_drop" "has_drop" 352 132 2 3 136 181 137 .none (.ref 138) (.ref 139) 140 358),
 (142,kF (topAt 20) "has_drop" .none "lendcore.types" 244 141),
 (146,kC "held_types" "held_types" 363 138 2 3 143 181 144 .none .none .none 145 366),
 (147,kF (topAt 22) "held_types" .none "lendcore.copy_rules" 361 146),
 (153,kC "look_copy" "look_copy" 369 143 2 3 148 181 149 .none (.ref 150) (.ref 151) 152 377),
 (154,kF (topAt 23) "look_copy" .none "lendcore.copy_rules" 361 153),
 (160,kC "check_copies" "check_copies" 380 154 1 3 155 181 156 .none (.ref 157) (.ref 158) 159 385),
 (161,kF (topAt 24) "check_copies" .none "lendcore.copy_rules" 361 160),
 (169,kT []),
 (170,kT [.str "" 402,.ref 169]),
 (176,kC "__init__" "Adt.__init__" 403 161 8 3 171 181 172 .none (.ref 173) (.ref 174) 175 414),
 (177,kF (clsAt 26 0) "Adt.__init__" (.ref 170) "lendcore.world" 388 176),
 (179,kD P (.type "dict") 4 [kE "__module__" 397 (.str "lendcore.world" 388),kE "__firstlineno__" 401 (.int 159 400),kE "__init__" 416 (.ref 177),kE "__static_attributes__" 424 (.ref 178),kE "__dict__" 426 (.ref 181),kE "__weakref__" 428 (.ref 182),kE "__doc__" 429 .none]),
 (180,kO "Adt" [.type "object"] [.ref 180,.type "object"] 179 [] [none,none,some (.str "Adt" 390),some (.str "Adt" 398),some (.builtin "object.__new__"),some (.bool true)]),
 (192,kT [.int 0 444]),
 (198,kC "__init__" "ImplRow.__init__" 445 171 9 3 193 181 194 .none (.ref 195) (.ref 196) 197 457),
 (199,kF (clsAt 27 0) "ImplRow.__init__" (.ref 192) "lendcore.world" 388 198),
 (201,kD P (.type "dict") 4 [kE "__module__" 439 (.str "lendcore.world" 388),kE "__firstlineno__" 443 (.int 169 442),kE "__init__" 459 (.ref 199),kE "__static_attributes__" 468 (.ref 200),kE "__dict__" 470 (.ref 203),kE "__weakref__" 472 (.ref 204),kE "__doc__" 473 .none]),
 (202,kO "ImplRow" [.type "object"] [.ref 202,.type "object"] 201 [] [none,none,some (.str "ImplRow" 432),some (.str "ImplRow" 440),some (.builtin "object.__new__"),some (.bool true)]),
 (214,kT [.none]),
 (220,kC "__init__" "World.__init__" 488 182 2 3 215 181 216 .none (.ref 217) (.ref 218) 219 493),
 (221,kF (clsAt 28 0) "World.__init__" (.ref 214) "lendcore.world" 388 220),
 (227,kC "is_field_seen" "World.is_field_seen" 496 192 5 3 222 181 223 .none (.ref 224) (.ref 225) 226 504),
 (228,kF (clsAt 28 1) "World.is_field_seen" .none "lendcore.world" 388 227),
 (230,kD P (.type "dict") 4 [kE "__module__" 483 (.str "lendcore.world" 388),kE "__firstlineno__" 487 (.int 180 486),kE "__init__" 495 (.ref 221),kE "is_field_seen" 506 (.ref 228),kE "__static_attributes__" 515 (.ref 229),kE "__dict__" 517 (.ref 232),kE "__weakref__" 519 (.ref 233),kE "__doc__" 520 .none]),
 (231,kO "World" [.type "object"] [.ref 231,.type "object"] 230 [] [none,none,some (.str "World" 476),some (.str "World" 484),some (.builtin "object.__new__"),some (.bool true)]),
 (241,kC "_law_pool" "_law_pool" 525 195 2 3 236 181 237 .none (.ref 238) (.ref 239) 240 533),
 (242,kF (topAt 30) "_law_pool" .none "law_ot0022_01" 523 241),
 (248,kC "_law_take" "_law_take" 536 202 2 3 243 181 244 .none (.ref 245) (.ref 246) 247 542),
 (249,kF (topAt 31) "_law_take" .none "law_ot0022_01" 523 248),
 (255,kC "_law_one" "_law_one" 545 209 2 3 250 181 251 .none (.ref 252) (.ref 253) 254 550),
 (256,kF (topAt 32) "_law_one" .none "law_ot0022_01" 523 255),
 (257,kT [.str "int" 553,.str "u8" 554]),
 (263,kC "_law_type" "_law_type" 556 212 3 3 258 181 259 .none (.ref 260) (.ref 261) 262 564),
 (264,kF (topAt 34) "_law_type" .none "law_ot0022_01" 523 263),
 (268,kC "_law_world" "_law_world" 567 226 1 3 265 181 266 .none .none .none 267 570),
 (269,kF (topAt 35) "_law_world" .none "law_ot0022_01" 523 268),
 (275,kC "_law_parts" "_law_parts" 573 245 1 3 270 181 271 .none (.ref 272) (.ref 273) 274 577),
 (276,kF (topAt 36) "_law_parts" .none "law_ot0022_01" 523 275),
 (280,kC "_law_named" "_law_named" 580 251 1 3 277 181 278 .none .none .none 279 583),
 (281,kF (topAt 37) "_law_named" .none "law_ot0022_01" 523 280),
 (287,kC "_law_shape" "_law_shape" 586 256 1 3 282 181 283 .none (.ref 284) (.ref 285) 286 590),
 (288,kF (topAt 38) "_law_shape" .none "law_ot0022_01" 523 287),
 (292,kC "_law_fits" "_law_fits" 593 262 3 3 289 181 290 .none .none .none 291 596),
 (293,kF (topAt 39) "_law_fits" .none "law_ot0022_01" 523 292),
 (297,kC "_law_plain" "_law_plain" 599 268 1 3 294 181 295 .none .none .none 296 602),
 (298,kF (topAt 40) "_law_plain" .none "law_ot0022_01" 523 297),
 (302,kC "_law_put" "_law_put" 605 270 2 3 299 181 300 .none .none .none 301 608),
 (303,kF (topAt 41) "_law_put" .none "law_ot0022_01" 523 302),
 (307,kC "_law_copied" "_law_copied" 611 279 3 3 304 181 305 .none .none .none 306 614),
 (308,kF (topAt 42) "_law_copied" .none "law_ot0022_01" 523 307),
 (312,kC "_law_is_bad" "_law_is_bad" 617 295 2 3 309 181 310 .none .none .none 311 620),
 (313,kF (topAt 43) "_law_is_bad" .none "law_ot0022_01" 523 312),
 (319,kC "_law_refused" "_law_refused" 623 307 1 3 314 181 315 .none (.ref 316) (.ref 317) 318 627),
 (320,kF (topAt 44) "_law_refused" .none "law_ot0022_01" 523 319),
 (324,kC "law" "law" 630 313 1 3 321 181 322 .none .none .none 323 633),
 (325,kF (topAt 45) "law" .none "law_ot0022_01" 523 324)]
noncomputable def KA:List Addr:=[2,3,20,21,22,29,30,33,35,36,38,39,43,51,52,60,61,67,68,72,73,77,78,84,85,91,92,98,99,103,104,110,111,117,118,122,123,129,130,134,135,141,142,146,147,153,154,160,161,169,170,176,177,179,180,192,198,199,201,202,214,220,221,227,228,230,231,241,242,248,249,255,256,257,263,264,268,269,275,276,280,281,287,288,292,293,297,298,302,303,307,308,312,313,319,320,324,325]
theorem said:PySem.Challenge.rw_ot0022_01.wellSaid=true:=
 (congrFun PySem.W.Fast.te9446332074065402090 PySem.Challenge.rw_ot0022_01).trans (by kernel_rfl)
noncomputable def VW:Program:=view PySem.Challenge.pw_ot0022_01 [0,2,3,5,6,7,8,9,10,11,12,13,14,15,16,17,18,19,20,22,23,24,26,27,28,30,31,32,33,34,35,36,37,38,39,40,41,42,43,44,45]
noncomputable abbrev HH:Hook:=kmHook KK KA (fun _=>by kernel_rfl) [132,322]
theorem leftD {p q:Program} {loose:List Str} {Xt:Shared→Bool} {α:Type} {Yf:Shared→α} {Ya:World→α} {N:Nat}
  (open_:∀ w:World,(fencedOpening treeTable p w N).map (fun s=>(s.heap,s.gens,s.drawn,s.toks))=some (boot_heap w.params,Array.mk [],boot_drawn,boot_toks))
  (run:∀ (w:World) (os:OsState),(topFrom treeTable p w N ⟨boot_heap w.params,Array.mk [],boot_drawn,boot_toks,os⟩).map (fun s=>(openSeen q loose (importedModules p.main.body) Xt true s,Yf s))=some (openGood q loose,Ya w)):LeftO p q loose Xt Yf Ya N:=fun w=>by
 obtain ⟨⟨h,gs,d,k,os⟩,e,e'⟩:=Option.map_eq_some_iff.mp (open_ w)
 injection e' with e1 e2
 injection e2 with e2 e3
 injection e3 with e3 e4
 cases e1;cases e2;cases e3;cases e4
 unfold openEnds
 rw [e]
 exact run w os
theorem left0:LeftO PySem.Challenge.pw_ot0022_01 VW ["LendError","Adt"] (fun s=>xlAt VW [] s&&recOk [] s) HH.obs HH.val 4546:=leftD (boot_open (by kernel_rfl) rfl (fun s=>by kernel_rfl)) (by
 intro w os
 unfold topFrom
 rw [PySem.W.Fast.te14082659384304107361,PySem.W.Fast.te4187177175401517315,PySem.W.Fast.te14364793385576792824]
 kernel_rfl)
theorem head (h:WalkO VW ["LendError","Adt"] (XL VW []) HH.says PySem.Challenge.rw_ot0022_01.row.toRowW ((defOf VW "law").get (by kernel_rfl)).1 [] fun f vs=>PySem.call f vs):PySem.Challenge.rw_ot0022_01.Holds:=
 holds_law said fun k1=>PySem.W.holds_open left0 HH.of HH.keeps (fun s e=>xl_of s (Bool.and_eq_true_iff.mp e).1) XL.keeps (by kernel_rfl) (by kernel_rfl) (by kernel_rfl) (fun s e=>recFacts_of (Bool.and_eq_true_iff.mp e).2) (by rfl) k1 (by decide +kernel) ⟨rfl,rfl,rfl,rfl,rfl,by decide +kernel⟩ (by w_witness2) h

 set_option genInjectivity true in
inductive Ty where
 | num
 | bool
 | par (n:Str)
 | ref (r:Option Str) (m:Bool) (t:Ty)
 | box (t:Ty)
 | arr (t:Ty)
 | tup (a b:Ty)
 | c0
 | c1 (a:Ty)
 | c2 (a b:Ty)
 deriving DecidableEq
namespace Ty
noncomputable def reg:Option Str→PyData
 | none=>.none
 | some s=>.str s
noncomputable def av:Ty→PyData
 | num=>.tuple [.str "int",.str "u8"]
 | bool=>.tuple [.str "bool"]
 | par n=>.tuple [.str "param",.str n]
 | ref r m t=>.tuple [.str "ref",reg r,.bool m,t.av]
 | box t=>.tuple [.str "box",t.av]
 | arr t=>.tuple [.str "array",t.av,.int 2]
 | tup a b=>.tuple [.str "tuple",.tuple [a.av,b.av]]
 | c0=>.tuple [.str "adt",.str "C",.tuple [],.tuple []]
 | c1 a=>.tuple [.str "adt",.str "A",.tuple [],.tuple [a.av]]
 | c2 a b=>.tuple [.str "adt",.str "B",.tuple [],.tuple [a.av,b.av]]
noncomputable def parts:Ty→List Ty
 | ref _ _ t=>[t]
 | box t=>[t]
 | arr t=>[t]
 | tup a b=>[a,b]
 | c1 a=>[a]
 | c2 a b=>[a,b]
 | num=>[]
 | bool=>[]
 | par _=>[]
 | c0=>[]
noncomputable def ht:Ty→Nat
 | ref _ _ t=>t.ht+1
 | box t=>t.ht+1
 | arr t=>t.ht+1
 | tup a b=>max a.ht b.ht+1
 | c1 a=>a.ht+1
 | c2 a b=>max a.ht b.ht+1
 | num=>0
 | bool=>0
 | par _=>0
 | c0=>0
noncomputable def subst (f:Str→Option Ty):Ty→Ty
 | par n=>(f n).getD (par n)
 | ref r m t=>ref r m (t.subst f)
 | box t=>box (t.subst f)
 | arr t=>arr (t.subst f)
 | tup a b=>tup (a.subst f) (b.subst f)
 | c1 a=>c1 (a.subst f)
 | c2 a b=>c2 (a.subst f) (b.subst f)
 | num=>num
 | bool=>bool
 | c0=>c0
end Ty
noncomputable def tbl (tb:List (Str × Ty)):Mp:=tb.map fun p=>(p.1,.p p.2.av)
theorem tbl_lookup (tb:List (Str × Ty)) (n:Str):(tbl tb).lookup n=(tb.lookup n).map fun t=>.p t.av:=by
 induction tb with
 | nil=>rfl
 | cons p r ih=>
  obtain ⟨k,t⟩:=p
  refine (?_:List.lookup n ((k,_)::tbl r)=_)
  rw [List.lookup_cons,List.lookup_cons]
  cases h:n == k with
  | true=>rfl
  | false=>exact ih
section
variable {C:Cx} {N:Fns} {D:Nat} {σ:Sto} (P:Pg C N)
include P
theorem c_parts_of (t:Ty):∀ D,1≤D→CallR C D N.parts_of [.p t.av] σ (.ret (.p (.tuple (t.parts.map Ty.av))) σ):=fun D hD=>by
 refine CallR.le (D:=D - 1+1) (P.parts_of.callJ P.ok rfl ?_) (by walk_at "o")
 cases t
 all_goals (repeat' (first
  | walk_at "mW"))
theorem c_rebuilt (t:Ty) (f:Ty→Ty):∀ D,1≤D→CallR C D N.rebuilt [.p t.av,.p (.list ((t.parts.map f).map Ty.av))] σ (.ret (.p (match t with | .ref r m t=>Ty.ref r m (f t) | .box t=>.box (f t) | .arr t=>.arr (f t) | .tup a b=>.tup (f a) (f b) | .c1 a=>.c1 (f a) | .c2 a b=>.c2 (f a) (f b) | t=>t).av) σ):=fun D hD=>by
 refine CallR.le (D:=D - 1+1) (P.rebuilt.callJ P.ok rfl ?_) (by walk_at "o")
 cases t
 all_goals (repeat' (first
  | (show JE _ _ _ _ _ _ _ _;apply JE.callBi P.ok P.b_tuple boots.2.2.1)
  | walk_at "mW"))
end
noncomputable abbrev Tab:=List (Str × Ty)
namespace Ty
noncomputable def kind:Ty→Str
 | num=>"int"
 | bool=>"bool"
 | par _=>"param"
 | ref _ _ _=>"ref"
 | box _=>"box"
 | arr _=>"array"
 | tup _ _=>"tuple"
 | c0=>"adt"
 | c1 _=>"adt"
 | c2 _ _=>"adt"
theorem depth_le (t:Ty):t.av.depth≤2 * t.ht+2:=by
 have le0:∀ n,0≤n:=Nat.zero_le
 have mx:∀ {a b c:Nat},a≤c→b≤c→max a b≤c:=fun h1 h2=>Nat.max_le.mpr ⟨h1,h2⟩
 have hr:∀ r,(reg r).depth≤0:=fun r=>by cases r<;>exact Nat.le_refl 0
 have one:∀ {a k:Nat},a≤2 * k+2→a+1≤2 * (k+1)+1:=fun h=>Nat.succ_le_succ h
 have up:∀ {a k l:Nat},a≤2 * k+2→k≤l→a≤2 * l+2:=fun h e=>Nat.le_trans h (Nat.add_le_add_right (Nat.mul_le_mul_left 2 e) 2)
 have st:∀ {a k:Nat},a≤2 * k+2→a≤2 * (k+1)+1:=fun h=>Nat.le_trans h (Nat.le_succ _)
 have l1:∀ {k:Nat},1≤k+1:=fun {k}=>Nat.succ_le_succ (Nat.zero_le k)
 induction t with
 | num=>exact Nat.le_of_ble_eq_true rfl
 | bool=>exact Nat.le_of_ble_eq_true rfl
 | par n=>exact Nat.le_of_ble_eq_true rfl
 | c0=>exact Nat.le_of_ble_eq_true rfl
 | ref r m t ih=>exact Nat.succ_le_succ (mx (le0 _) (mx (Nat.le_trans (hr r) (le0 _)) (mx (le0 _) (mx (st ih) (le0 _)))))
 | box t ih=>exact Nat.succ_le_succ (mx (le0 _) (mx (st ih) (le0 _)))
 | arr t ih=>exact Nat.succ_le_succ (mx (le0 _) (mx (st ih) (mx (le0 _) (le0 _))))
 | tup a b i j=>exact Nat.succ_le_succ (mx (le0 _) (mx (one (mx (up i (Nat.le_max_left ..)) (mx (up j (Nat.le_max_right ..)) (le0 _)))) (le0 _)))
 | c1 t ih=>exact Nat.succ_le_succ (mx (le0 _) (mx (le0 _) (mx l1 (mx (one (mx ih (le0 _))) (le0 _)))))
 | c2 a b i j=>exact Nat.succ_le_succ (mx (le0 _) (mx (le0 _) (mx l1 (mx (one (mx (up i (Nat.le_max_left ..)) (mx (up j (Nat.le_max_right ..)) (le0 _)))) (le0 _)))))
theorem reg_eqv (r r':Option Str):(reg r).eqv (reg r')=decide (r=r'):=by
 cases r<;>cases r'
 ·rfl
 ·rfl
 ·rfl
 ·rename_i a b
  refine (?_:(a == b)=decide (some a=some b))
  rw [Bool.eq_iff_iff];simp
theorem eqv_av (t:Ty):∀ s:Ty,t.av.eqv s.av=decide (t=s):=by
 induction t with
 | num=>intro s;cases s<;>rfl
 | bool=>intro s;cases s<;>rfl
 | c0=>intro s;cases s<;>rfl
 | par n=>
  intro s;cases s<;>first | rfl | skip
  rename_i k
  refine (?_:(true&&((n == k)&&true))=_)
  rw [Bool.eq_iff_iff];simp
 | ref r m t ih=>
  intro s;cases s<;>first | rfl | skip
  rename_i r' m' t'
  refine (?_:(true&&((reg r).eqv (reg r')&&((m == m')&&(t.av.eqv t'.av&&true))))=_)
  rw [ih,reg_eqv,Bool.eq_iff_iff];simp
 | box t ih=>
  intro s;cases s<;>first | rfl | skip
  rename_i t'
  refine (?_:(true&&(t.av.eqv t'.av&&true))=_)
  rw [ih];simp
 | arr t ih=>
  intro s;cases s<;>first | rfl | skip
  rename_i t'
  refine (?_:(true&&(t.av.eqv t'.av&&(true&&true)))=_)
  rw [ih];simp
 | tup a b i j=>
  intro s;cases s<;>first | rfl | skip
  rename_i a' b'
  refine (?_:(true&&((a.av.eqv a'.av&&(b.av.eqv b'.av&&true))&&true))=_)
  rw [i,j];simp
 | c1 a i=>
  intro s;cases s<;>first | rfl | skip
  rename_i a'
  refine (?_:(true&&(true&&(true&&((a.av.eqv a'.av&&true)&&true))))=_)
  rw [i];simp
 | c2 a b i j=>
  intro s;cases s<;>first | rfl | skip
  rename_i a' b'
  refine (?_:(true&&(true&&(true&&((a.av.eqv a'.av&&(b.av.eqv b'.av&&true))&&true))))=_)
  rw [i,j];simp
noncomputable def name:Ty→Str
 | c0=>"C"
 | c1 _=>"A"
 | c2 _ _=>"B"
 | _=>""
noncomputable def isMut:Ty→Bool
 | ref _ m _=>m
 | _=>false
noncomputable def hEq (p t:Ty):Bool:=p.kind == t.kind&&(p.name == t.name&&p.isMut == t.isMut)
theorem hEq_iff {p t:Ty}:hEq p t=true↔p.kind=t.kind∧p.name=t.name∧p.isMut=t.isMut:=by
 simp only [hEq,Bool.and_eq_true,beq_iff_eq]
noncomputable def fold {F:Type} (f:Str→F) (g:Ty→List F→F):Ty→F
 | par n=>f n
 | ref r m t=>g (ref r m t) [t.fold f g]
 | box t=>g (box t) [t.fold f g]
 | arr t=>g (arr t) [t.fold f g]
 | tup a b=>g (tup a b) [a.fold f g,b.fold f g]
 | c1 a=>g (c1 a) [a.fold f g]
 | c2 a b=>g (c2 a b) [a.fold f g,b.fold f g]
 | t=>g t []
theorem fold_parts {F:Type} {f:Str→F} {g:Ty→List F→F} {p:Ty} (hp:p.kind≠"param"):p.fold f g=g p (p.parts.map (fold f g)):=by
 cases p<;>first | rfl | exact absurd rfl hp
noncomputable def mtF:List (Ty→Tab→Bool × Tab)→List Ty→Tab→Bool × Tab
 | p::ps,t::ts,tb=>if (p t tb).1=true then mtF ps ts (p t tb).2 else (false,(p t tb).2)
 | _,_,tb=>(true,tb)
noncomputable def mt:Ty→Ty→Tab→Bool × Tab:=fold (fun n t tb=>match tb.lookup n with
  | some u=>(decide (u=t),tb)
  | none=>(true,(n,t)::tb)) fun p fs t tb=>bif hEq p t then mtF fs t.parts tb else (false,tb)
noncomputable def mtL (ps ts:List Ty) (tb:Tab):Bool × Tab:=mtF (ps.map mt) ts tb
theorem mt_par (n:Str) (t:Ty) (tb:Tab):(par n).mt t tb=match tb.lookup n with
  | some u=>(decide (u=t),tb)
  | none=>(true,(n,t)::tb):=rfl
theorem mtL_cons {p t:Ty} {ps ts:List Ty} {tb:Tab}:mtL (p::ps) (t::ts) tb=if (p.mt t tb).1=true then mtL ps ts (p.mt t tb).2 else (false,(p.mt t tb).2):=rfl
theorem mt_hd {p t:Ty} {tb:Tab} (hp:p.kind≠"param"):p.mt t tb=bif hEq p t then mtL p.parts t.parts tb else (false,tb):=congrFun (congrFun (show p.mt=_ from fold_parts hp) t) tb
theorem len_parts {p t:Ty} (h:p.kind=t.kind) (hn:p.name=t.name):p.parts.length=t.parts.length:=by
 have e:∀ p:Ty,p.parts.length=bif p.kind == "ref"||(p.kind == "box"||(p.kind == "array"||p.name == "A")) then 1 else bif p.kind == "tuple"||p.name == "B" then 2 else 0:=fun p=>by cases p<;>kernel_rfl
 rw [e p,e t,h,hn]
theorem head_eq (p t:Ty) (tb:Tab) (h:p.kind=t.kind) (hp:p.kind≠"param") (hn:p.name=t.name) (hm:p.isMut=t.isMut):p.mt t tb=mtL p.parts t.parts tb∧p.parts.length=t.parts.length:=by
 rw [mt_hd hp,hEq_iff.mpr ⟨h,hn,hm⟩]
 exact ⟨rfl,len_parts h hn⟩
theorem head_ne (p t:Ty) (tb:Tab) (hp:p.kind≠"param") (hn:p.kind≠t.kind∨p.name≠t.name∨p.isMut≠t.isMut):p.mt t tb=(false,tb):=by
 rw [mt_hd hp]
 cases h:hEq p t with
 | false=>rfl
 | true=>
  refine Zaa (hEq_iff.mp h) fun h1 h2 h3=>?_
  rcases hn with q | q | q
  ·exact absurd h1 q
  ·exact absurd h2 q
  ·exact absurd h3 q
theorem ht_parts {t s:Ty} (h:s∈t.parts):s.ht+1≤t.ht:=by
 cases t<;>simp [parts] at h<;>(first | (subst h;simp [ht]) | (rcases h with rfl | rfl<;>simp only [ht]<;>omega))
theorem num_of {p:Ty} (h:p.kind="int"):p=num:=by cases p<;>first | rfl | (exfalso;revert h;simp only [kind];decide +kernel)
theorem name_of {p:Ty} (h:p.kind≠"adt"):p.name="":=by cases p<;>first | rfl | exact absurd rfl h
theorem isMut_of {p:Ty} (h:p.kind≠"ref"):p.isMut=false:=by cases p<;>first | rfl | exact absurd rfl h
end Ty
theorem Ty.byParts {P:Ty→Prop} (h:∀ t,(∀ s∈t.parts,P s)→P t):∀ t,P t:=fun t=>by
 induction t with
 | num=>exact h _ (fun s hs=>nomatch hs)
 | bool=>exact h _ (fun s hs=>nomatch hs)
 | par n=>exact h _ (fun s hs=>nomatch hs)
 | ref r m t ih=>exact h _ (fun s hs=>by cases List.mem_singleton.mp hs;exact ih)
 | box t ih=>exact h _ (fun s hs=>by cases List.mem_singleton.mp hs;exact ih)
 | arr t ih=>exact h _ (fun s hs=>by cases List.mem_singleton.mp hs;exact ih)
 | tup a b i j=>exact h _ (fun s hs=>by rcases List.mem_cons.mp hs with rfl | hs;exact i;cases List.mem_singleton.mp hs;exact j)
 | c0=>exact h _ (fun s hs=>nomatch hs)
 | c1 t ih=>exact h _ (fun s hs=>by cases List.mem_singleton.mp hs;exact ih)
 | c2 a b i j=>exact h _ (fun s hs=>by rcases List.mem_cons.mp hs with rfl | hs;exact i;cases List.mem_singleton.mp hs;exact j)
namespace Ty
noncomputable def wr (g:Option Str→Option Str):Ty→Ty
 | ref r m t=>ref (g r) m (t.wr g)
 | box t=>box (t.wr g)
 | arr t=>arr (t.wr g)
 | tup a b=>tup (a.wr g) (b.wr g)
 | c1 a=>c1 (a.wr g)
 | c2 a b=>c2 (a.wr g) (b.wr g)
 | num=>num
 | bool=>bool
 | par n=>par n
 | c0=>c0
noncomputable def wr1 (g:Option Str→Option Str):Ty→Ty
 | ref r m t=>ref (g r) m t
 | t=>t
noncomputable def regs:Ty→List (Option Str)
 | ref r _ t=>r::t.regs
 | box t=>t.regs
 | arr t=>t.regs
 | tup a b=>a.regs++b.regs
 | c1 a=>a.regs
 | c2 a b=>a.regs++b.regs
 | num=>[]
 | bool=>[]
 | par _=>[]
 | c0=>[]
theorem regs_parts {t s:Ty} (h:s∈t.parts) {r:Option Str} (hr:r∈s.regs):r∈t.regs:=by
 cases t with
 | ref _ _ t=>cases List.mem_singleton.mp h;exact List.mem_cons_of_mem _ hr
 | box t=>cases List.mem_singleton.mp h;exact hr
 | arr t=>cases List.mem_singleton.mp h;exact hr
 | c1 t=>cases List.mem_singleton.mp h;exact hr
 | tup a b=>exact (List.mem_cons.mp h).elim (fun e=>List.mem_append_left _ (e▸hr)) fun e=>List.mem_append_right _ (List.mem_singleton.mp e▸hr)
 | c2 a b=>exact (List.mem_cons.mp h).elim (fun e=>List.mem_append_left _ (e▸hr)) fun e=>List.mem_append_right _ (List.mem_singleton.mp e▸hr)
 | _=>exact nomatch h
noncomputable abbrev erase (t:Ty):Ty:=t.wr fun _=>none
end Ty
section
variable {C:Cx} {N:Fns} {D:Nat} {σ:Sto} (P:Pg C N)
include P
theorem c_subst (tb:List (Str × Ty)) (ta:AV) (hta:asD σ ta=some (tbl tb)) (t:Ty):∀ D,3+t.ht≤D→CallR C D N.substituted [.p t.av,ta] σ (.ret (.p (t.subst (fun n=>tb.lookup n)).av) σ):=by
 induction t using Ty.byParts with
 | h t ih=>
  intro D hD
  refine CallR.le (D:=D - 1+1) (P.substituted.callJ P.ok rfl ?_) (by walk_at "o")
  have hv:∀ n,((tbl tb).lookup n).getD (.p (Ty.par n).av)=.p ((Ty.par n).subst (fun n=>tb.lookup n)).av:=fun n=>by
   rw [tbl_lookup];simp only [Ty.subst];cases tb.lookup n<;>rfl
  cases t
  all_goals simp only [Ty.ht] at hD
  all_goals (repeat' (first
  | (show JE _ _ _ _ _ _ _ _;first | apply JE.get' | apply JE.callFn P.ok P.parts_of | apply JE.callFn P.ok P.rebuilt | apply JE.callFn P.ok P.substituted)
  | (show CallR _ _ _ _ _ _;first | exact c_parts_of P _ _ (by walk_at "o") | exact c_rebuilt P _ (fun t=>t.subst (fun n=>tb.lookup n)) _ (by walk_at "o") | exact ih _ (by simp [Ty.parts]) _ (by walk_at "o")) | exact hv _ | exact hta
  | walk_at "mW"))
theorem c_with_regions (chg:AV) (g:Option Str→Option Str) (hk:KeepV C chg) (t:Ty):(∀ r∈t.regs,∀ D,1≤D→CallV C D chg [.p (Ty.reg r)] σ (.ret (.p (Ty.reg (g r))) σ))→∀ D,3+t.ht≤D→CallR C D N.with_regions [.p t.av,chg] σ (.ret (.p (t.wr g).av) σ):=by
 induction t using Ty.byParts with
 | h t ih=>
  intro hc D hD
  refine CallR.le (D:=D - 1+1) (P.with_regions.callJ P.ok rfl ?_) (by walk_at "o")
  have hp:=c_parts_of P (σ:=σ) (Ty.wr1 g t)
  have hr:=c_rebuilt P (σ:=σ) (Ty.wr1 g t) (Ty.wr g)
  cases t
  all_goals simp only [Ty.ht] at hD
  all_goals (repeat' (first
  | (show JE _ _ _ _ _ _ _ _;first | apply JE.callFn P.ok P.parts_of | apply JE.callFn P.ok P.rebuilt | apply JE.callFn P.ok P.with_regions | apply JE.callBi P.ok P.b_tuple boots.2.2.1 | apply JE.callL P.ok)
  | (show CallR _ _ _ _ _ _;first | exact hp _ (by walk_at "o") | exact hr _ (by walk_at "o") | exact ih _ (by simp [Ty.parts]) (fun r hr=>hc r (Ty.regs_parts (by simp [Ty.parts]) hr)) _ (by walk_at "o")) | exact hc _ (List.mem_cons_self ..) _ (by walk_at "o") | exact hk
  | walk_at "mW"))
theorem c_no_region (r:Option Str):∀ D,1≤D→CallR C D N.no_region [.p (Ty.reg r)] σ (.ret (.p (Ty.reg none)) σ):=fun D hD=>by
 refine CallR.le (D:=D - 1+1) (P.no_region.callJ P.ok rfl ?_) (by walk_at "o")
 repeat' (first
  | walk_at "mW")
theorem c_erased (t:Ty):∀ D,4+t.ht≤D→CallR C D N.erased [.p t.av] σ (.ret (.p t.erase.av) σ):=fun D hD=>by
 refine CallR.le (D:=D - 1+1) (P.erased.callJ P.ok rfl ?_) (by walk_at "o")
 repeat' (first
  | (show JE _ _ _ _ _ _ _ _;first | exact JE.fn P.ok P.no_region (by rfl) (by rfl) | apply JE.callFn P.ok P.with_regions)
  | (show CallR _ _ _ _ _ _;exact c_with_regions P (.val (.ref N.no_region)) (fun _=>none) P.no_region.keep _ (fun r _ D hD=>(c_no_region P r D hD).toV) _ (by walk_at "o"))
  | walk_at "mW")
end
namespace Ty
noncomputable def size:Ty→Nat
 | ref _ _ t=>t.size
 | box t=>t.size
 | arr t=>t.size
 | tup a b=>a.size+b.size
 | c1 a=>a.size
 | c2 a b=>a.size+b.size
 | par _=>1
 | num=>0
 | bool=>0
 | c0=>0
noncomputable def sizes:List Ty→Nat
 | []=>0
 | a::r=>a.size+sizes r
theorem size_parts (p:Ty) (h:p.kind≠"param"):sizes p.parts=p.size:=by cases p<;>first | rfl | exact absurd rfl h
theorem parts_le (p:Ty):p.parts.length≤2:=by cases p<;>simp [parts]
theorem mtL_len {ps:List Ty} (ih:∀ a∈ps,∀ (t:Ty) tb,(a.mt t tb).2.length≤tb.length+a.size):∀ (ts:List Ty) (tb:Tab),(mtL ps ts tb).2.length≤tb.length+sizes ps:=by
 induction ps with
 | nil=>intro ts tb;exact Nat.le_add_right ..
 | cons p ps ihl=>
  intro ts tb
  cases ts with
  | nil=>exact Nat.le_add_right ..
  | cons t ts=>
   have h1:=ih p (List.mem_cons_self ..) t tb
   have h2:=ihl (fun a ha=>ih a (List.mem_cons_of_mem _ ha)) ts (p.mt t tb).2
   rw [mtL_cons]
   refine (?_:_≤tb.length+(p.size+sizes ps))
   rw [← Nat.add_assoc]
   cases (p.mt t tb).1 with
   | true=>exact Nat.le_trans h2 (Nat.add_le_add_right h1 _)
   | false=>exact Nat.le_trans h1 (Nat.le_add_right ..)
theorem mt_len (p:Ty):∀ (t:Ty) (tb:Tab),(p.mt t tb).2.length≤tb.length+p.size:=by
 induction p using byParts with
 | h p ih=>
  intro t tb
  by_cases hp:p.kind="param"
  ·cases p<;>first | (exfalso;revert hp;simp only [kind];decide +kernel) | skip
   rename_i n
   refine (?_:(match tb.lookup n with | some u=>(decide (u=t),tb) | none=>(true,(n,t)::tb):Bool × Tab).2.length≤_)
   cases tb.lookup n with
   | none=>exact Nat.le_refl _
   | some u=>exact Nat.le_add_right ..
  ·rw [mt_hd hp,← size_parts p hp]
   cases hEq p t with
   | false=>exact Nat.le_add_right ..
   | true=>exact mtL_len ih t.parts tb
end Ty
theorem set_same {σ:Sto} {i:Nat} {o:AO} (h:σ[i]?=some o):σ.set i o=σ:=by
 apply List.ext_getElem?
 intro j
 rw [List.getElem?_set]
 split
 ·subst_vars
  rw [List.getElem?_eq_some_iff] at h
  obtain ⟨h1,h2⟩:=h
  rw [if_pos h1,List.getElem?_eq_getElem h1,h2]
 ·rfl
theorem get_set {σ:Sto} {i:Nat} {o o':AO} (h:σ[i]?=some o):(σ.set i o')[i]?=some o':=by
 rw [List.getElem?_set,if_pos rfl,if_pos (List.getElem?_eq_some_iff.mp h).1]
theorem asD_loc {σ:Sto} {i:Nat} {l:Mp} (h:σ[i]?=some (.dct l)):asD σ (.loc i)=some l:=by refine (?_:(σ[i]?).bind dO=_);rw [h];rfl
section
variable {C:Cx} {N:Fns} {D:Nat} {σ:Sto} (P:Pg C N)
theorem op_kind {x i:Expr} (hn:noSlice i=true) (t:Ty):Op2 C D (subscriptTail x i) (.p t.av) (.p (.int 0)) σ (.p (.str t.kind)) σ:=by
 cases t<;>exact op_item hn rfl (by decide) (by decide) rfl
theorem ne_kind {p t:Ty} (h:p.kind≠t.kind):cmpV .NotEq (.p (.str p.kind)) (.p (.str t.kind)) σ=some true:=op_ne (b:=false) (by simp [PyData.depth]) (by refine (?_:(p.kind == t.kind)=false);simpa using h) rfl
theorem eq_kindF {p:Ty} {s:Str} (h:p.kind≠s):cmpV .Eq (.p (.str p.kind)) (.p (.str s)) σ=some false:=op_eq (by simp [PyData.depth]) (by refine (?_:(p.kind == s)=false);simpa using h) rfl
theorem kEq {p:Ty} {s:Str} {b:Bool} (h:(p.kind == s)=b):cmpV .Eq (.p (.str p.kind)) (.p (.str s)) σ=some b:=op_eq (by simp [PyData.depth]) h rfl
theorem kIn {p:Ty} {s1 s2:Str} (h1:(s1 == p.kind)=false) (h2:(s2 == p.kind)=false):cmpV .In (.p (.str p.kind)) (.p (.tuple [.str s1,.str s2])) σ=some false:=by
 have e1:(PyData.str s1).eqv (.str p.kind)=false:=h1
 have e2:(PyData.str s2).eqv (.str p.kind)=false:=h2
 refine (?_:some ((PyData.str s1).eqv (.str p.kind)||((PyData.str s2).eqv (.str p.kind)||false))=_)
 rw [e1,e2]
 rfl
theorem op_name {x i:Expr} (hn:noSlice i=true) {t:Ty} (h:t.kind="adt"):Op2 C D (subscriptTail x i) (.p t.av) (.p (.int 1)) σ (.p (.str t.name)) σ:=by
 cases t<;>first | (exfalso;revert h;simp only [Ty.kind];decide +kernel) | exact op_item hn rfl (by decide) (by decide) rfl
theorem eq_name {p t:Ty} {b:Bool} (h:(p.name == t.name)=b):cmpV .NotEq (.p (.str p.name)) (.p (.str t.name)) σ=some (!b):=op_ne (by simp [PyData.depth]) h rfl
theorem op_mut {x i:Expr} (hn:noSlice i=true) {t:Ty} (h:t.kind="ref"):Op2 C D (subscriptTail x i) (.p t.av) (.p (.int 2)) σ (.p (.bool t.isMut)) σ:=by
 cases t<;>first | (exfalso;revert h;simp only [Ty.kind];decide +kernel) | exact op_item hn rfl (by decide) (by decide) rfl
theorem eq_mut {p t:Ty} {b:Bool} (h:(p.isMut == t.isMut)=b):cmpV .NotEq (.p (.bool p.isMut)) (.p (.bool t.isMut)) σ=some (!b):=op_ne (by simp [PyData.depth]) h rfl
theorem op_two {x i:Expr} (hn:noSlice i=true) {t:Ty} (h:t.kind="array"):Op2 C D (subscriptTail x i) (.p t.av) (.p (.int 2)) σ (.p (.int 2)) σ:=by
 cases t<;>first | (exfalso;revert h;simp only [Ty.kind];decide +kernel) | exact op_item hn rfl (by decide) (by decide) rfl
theorem kNoVar (p:Ty):cmpV .In (.p (.str p.kind)) (.p (.tuple [.str "var",.str "intvar"])) σ=some false:=by
 refine kIn ?_ ?_<;>(cases p<;>simp only [Ty.kind]<;>decide +kernel)
theorem bne_of {a b:Str} (h:a≠b):(a == b)=false:=by simpa using h
include P
theorem tail_loop (i:Nat):∀ (ps ts:List Ty) (tb:Tab) (m:Mp) (σ:Sto),ps.length=ts.length→m.lookup ("table":Str)=some (.loc i)→σ[i]?=some (.dct (tbl tb))→tb.length+Ty.sizes ps≤1000 →
  (∀ a∈ps,∀ b∈ts,∀ tb' (σ:Sto),σ[i]?=some (.dct (tbl tb'))→tb'.length+a.size≤1000→CallR C D N.matched [.p a.av,.p b.av,.loc i] σ (.ret (.p (.bool (a.mt b tb').1)) (σ.set i (.dct (tbl (a.mt b tb').2))))) →
  ∃ m',LoopJ C D (scopeAt 15) (bindNames ["one","other"]) (forBody (stAt 15 6)) (zipL (ps.map Ty.av) (ts.map Ty.av)) m σ (if (Ty.mtL ps ts tb).1=true then .next m' (σ.set i (.dct (tbl (Ty.mtL ps ts tb).2))) else .ret (.p (.bool false)) (σ.set i (.dct (tbl (Ty.mtL ps ts tb).2)))):=by
 intro ps
 induction ps with
 | nil=>intro ts tb m σ hl hm hi _ _;cases ts with
  | cons=>exact nomatch hl
  | nil=>
  refine ⟨m,?_⟩
  refine (?_:LoopJ _ _ _ _ _ _ _ _ (.next m (σ.set i (.dct (tbl tb)))))
  rw [set_same hi]
  exact LoopJ.nil
 | cons a ps ih=>intro ts tb m σ hl hm hi hz hc;cases ts with
  | nil=>exact nomatch hl
  | cons b ts=>
  have c1:=hc a (List.mem_cons_self ..) b (List.mem_cons_self ..) tb σ hi (by simp only [Ty.sizes] at hz;walk_at "o")
  have hmb:(([("other",AV.p b.av),("one",AV.p a.av)]:Mp)++m).lookup ("table":Str)=some (.loc i):=hm
  have hlen:=a.mt_len b tb
  rcases hr:a.mt b tb with ⟨c,tb1⟩
  rw [hr] at c1 hlen
  cases c
  ·refine ⟨m,?_⟩
   rw [Ty.mtL_cons,hr]
   refine LoopJ.step (b:=[("other",AV.p b.av),("one",AV.p a.av)]) (o':=.ret (.p (.bool false)) (σ.set i (.dct (tbl tb1)))) rfl ?_ LK.rt
   repeat' (first
  | (show JE _ _ _ _ _ _ _ _;first | apply JE.callFn P.ok P.matched | exact JE.name (v:=.loc i) hmb (by first | exact .inl (by rfl) | exact .inr (.inl (by rfl))) (by rfl) (by rfl))
  | (show CallR _ _ _ _ _ _;exact c1)
  | walk_at "mW")
  ·refine Ze (ih ts tb1 (([("other",AV.p b.av),("one",AV.p a.av)]:Mp)++m) (σ.set i (.dct (tbl tb1))) (by simpa using hl) hmb (get_set hi) (by simp only [Ty.sizes] at hz;simp only at hlen;walk_at "o") (fun a' ha b' hb=>hc a' (List.mem_cons_of_mem _ ha) b' (List.mem_cons_of_mem _ hb))) fun m' L=>?_
   refine ⟨m',?_⟩
   rw [Ty.mtL_cons,hr]
   refine (?_:LoopJ _ _ _ _ _ _ _ _ (if (Ty.mtL ps ts tb1).1=true then .next m' (σ.set i (.dct (tbl (Ty.mtL ps ts tb1).2))) else .ret _ (σ.set i (.dct (tbl (Ty.mtL ps ts tb1).2)))))
   rw [List.set_set] at L
   refine LoopJ.step (b:=[("other",AV.p b.av),("one",AV.p a.av)]) (o':=.next (([("other",AV.p b.av),("one",AV.p a.av)]:Mp)++m) (σ.set i (.dct (tbl tb1)))) rfl ?_ (LK.nx L)
   repeat' (first
  | (show JE _ _ _ _ _ _ _ _;first | apply JE.callFn P.ok P.matched | exact JE.name (v:=.loc i) hmb (by first | exact .inl (by rfl) | exact .inr (.inl (by rfl))) (by rfl) (by rfl))
  | (show CallR _ _ _ _ _ _;exact c1)
  | walk_at "mW")
theorem c_matched (i:Nat) (p:Ty):∀ (t:Ty) (tb:Tab) (σ:Sto),σ[i]?=some (.dct (tbl tb))→t.ht≤40→tb.length+p.size≤1000→∀ D,3+p.ht≤D→CallR C D N.matched [.p p.av,.p t.av,.loc i] σ (.ret (.p (.bool (p.mt t tb).1)) (σ.set i (.dct (tbl (p.mt t tb).2)))):=by
 induction p using Ty.byParts with
 | h p ih=>
  intro t tb σ hi ht hl D hD
  have had:=asD_loc hi
  have htl:(tbl tb).length≤sizeLine:=by simp only [tbl,List.length_map];exact Nat.le_trans (by walk_at "o") (show 1000≤sizeLine by decide)
  refine CallR.le (D:=D - 1+1) (P.matched.callJ P.ok rfl ?_) (by walk_at "o")
  by_cases hp:p.kind="param"
  ·cases p<;>first | (exfalso;revert hp;simp only [Ty.kind];decide +kernel) | skip
   rename_i n
   cases hk:tb.lookup n with
   | none=>
    have hlk:(tbl tb).lookup n=none:=by rw [tbl_lookup,hk];rfl
    have hin:cmpV .In (.p (.str n)) (.loc i) σ=some false:=op_inK had (by rw [hlk];rfl)
    have hm:(Ty.par n).mt t tb=(true,(n,t)::tb):=by rw [Ty.mt_par,hk]
    rw [hm]
    repeat' (first
  | (show J1 _ _ _ _ _ _ _;apply J1.setItem) | exact hin | exact hi | exact htl
  | walk_at "mW")
   | some u=>
    have hlk:(tbl tb).lookup n=some (.p u.av):=by rw [tbl_lookup,hk];rfl
    have hin:cmpV .In (.p (.str n)) (.loc i) σ=some true:=op_inK had (by rw [hlk];rfl)
    have hm:(Ty.par n).mt t tb=(decide (u=t),tb):=by rw [Ty.mt_par,hk]
    have hcm:cmpV .Eq (.p u.av) (.p t.av) σ=some (decide (u=t)):=op_eq (by have:=t.depth_le;walk_at "o") (u.eqv_av t) rfl
    rw [hm,set_same hi]
    repeat' (first
  | (show Op2 _ _ _ _ _ _ _ _;exact op_key (by rfl) had hlk) | exact hin | exact hcm
  | walk_at "mW")
  ·have h1:=eq_kindF (σ:=σ) hp
   have hv:=kNoVar (σ:=σ) p
   by_cases hk:p.kind=t.kind
   ·have hke:cmpV .NotEq (.p (.str p.kind)) (.p (.str t.kind)) σ=some false:=op_ne (b:=true) (by simp [PyData.depth]) (by refine (?_:(p.kind == t.kind)=true);simpa using hk) rfl
    have tail:p.name=t.name→p.isMut=t.isMut→JS C (D - 1) (scopeAt 15) [("table",.loc i),("told",.p t.av),("pattern",.p p.av)] σ ((bodyAt 15).drop 4) (.ret (.p (.bool (p.mt t tb).1)) (σ.set i (.dct (tbl (p.mt t tb).2)))):=by
     intro hn hm
     refine Za (p.head_eq t tb hk hp hn hm) fun e1 e2=>?_
     refine Ze (tail_loop (D:=D - 1) P i p.parts t.parts tb [("some",.p (.tuple (p.parts.map Ty.av))),("others",.p (.tuple (t.parts.map Ty.av))),("table",.loc i),("told",.p t.av),("pattern",.p p.av)] σ e2 rfl hi (by rw [p.size_parts hp];exact hl) (fun a ha b hb tb' σ' hi' hl'=>ih a ha b tb' σ' hi' (Nat.le_trans (Nat.le_of_succ_le (Ty.ht_parts hb)) ht) hl' _ (by have:=Ty.ht_parts ha;walk_at "o"))) fun m' L=>?_
     have hlen:∀ x y:Nat,x=y→cmpV .NotEq (.p (.int x)) (.p (.int y)) σ=some false:=fun x y h=>op_ne (b:=true) (by simp [PyData.depth]) (by subst h;refine (?_:((x:Int) == x)=true);simp) rfl
     have l2:∀ u:Ty,((u.parts.map Ty.av).map AV.p).length≤sizeLine:=fun u=>by simp only [List.length_map];exact Nat.le_trans u.parts_le (by decide)
     rcases hr:Ty.mtL p.parts t.parts tb with ⟨c,tb1⟩
     rw [hr] at L
     rw [e1,hr]
     cases c<;>simp only [Bool.false_eq_true,if_false,if_true] at L
     all_goals (repeat' (first
  | (show JE _ _ _ _ _ _ _ _;first | apply JE.callFn P.ok P.parts_of | apply JE.callBi P.ok P.b_len boot_len)
  | (show JM _ _ _ _ _ _ _ _ _ _ _;apply JM.zip P.ok P.b_zip boot_zip)
  | (show J1 _ _ _ _ _ _ _;apply J1.forM)
  | (show LoopJ _ _ _ _ _ _ _ _ _;exact L)
  | (show BI _ _ _ _ _ _ _;exact bi_len (by rfl) (l2 _))
  | (show CallR _ _ _ _ _ _;exact c_parts_of P _ _ (by walk_at "o")) | exact hlen _ _ (by simp only [List.length_map];exact e2) | (simp only [List.length_map];exact e2)
  | walk_at "mW"))
    have fk:∀ s:Str,∀ b,(p.kind == s)=b→cmpV .Eq (.p (.str p.kind)) (.p (.str s)) σ=some b:=fun s b h=>kEq h
    by_cases ki:p.kind="int"
    ·have hn:p.name=t.name:=(Ty.name_of (by rw [ki];decide +kernel)).trans (Ty.name_of (by rw [← hk,ki];decide +kernel)).symm
     have hm:p.isMut=t.isMut:=(Ty.isMut_of (by rw [ki];decide +kernel)).trans (Ty.isMut_of (by rw [← hk];rw [ki];decide +kernel)).symm
     have fn:cmpV .NotEq (.p p.av) (.p t.av) σ=some false:=op_ne (b:=true) (by have:=t.depth_le;walk_at "o") (by rw [p.eqv_av];cases Ty.num_of ki;cases Ty.num_of (hk▸ki);rfl) rfl
     have f_int:=fk "int" true (by rw [ki];rfl)
     have f_ref:=fk "ref" false (by rw [ki];rfl)
     have f_arr:=fk "array" false (by rw [ki];rfl)
     have f_adt:=fk "adt" false (by rw [ki];rfl)
     repeat' (first
  | (show Op2 _ _ _ _ _ _ _ _;first | exact op_kind (by rfl) _ | exact op_mut (by rfl) kp | exact op_mut (by rfl) kt | exact op_name (by rfl) kp | exact op_name (by rfl) kt | exact op_two (by rfl) kp | exact op_two (by rfl) kt)
  | (show JS _ _ _ _ _ _ _;exact tail hn hm) | exact h1 | exact hke | exact hv | exact f_int | exact f_ref | exact f_arr | exact f_adt | exact fm | exact fn
  | walk_at "mW")
    have f_int:=fk "int" false (bne_of ki)
    by_cases kp:p.kind="ref"
    ·have kt:=hk▸kp
     have hn:p.name=t.name:=(Ty.name_of (by rw [kp];decide +kernel)).trans (Ty.name_of (by rw [← hk,kp];decide +kernel)).symm
     have f_ref:=fk "ref" true (by rw [kp];rfl)
     have f_arr:=fk "array" false (by rw [kp];rfl)
     have f_adt:=fk "adt" false (by rw [kp];rfl)
     by_cases hm:p.isMut=t.isMut
     ·have fm:=eq_mut (σ:=σ) (p:=p) (t:=t) (b:=true) (by simpa using hm)
      repeat' (first
  | (show Op2 _ _ _ _ _ _ _ _;first | exact op_kind (by rfl) _ | exact op_mut (by rfl) kp | exact op_mut (by rfl) kt | exact op_name (by rfl) kp | exact op_name (by rfl) kt | exact op_two (by rfl) kp | exact op_two (by rfl) kt)
  | (show JS _ _ _ _ _ _ _;exact tail hn hm) | exact h1 | exact hke | exact hv | exact f_int | exact f_ref | exact f_arr | exact f_adt | exact fm | exact fn
  | walk_at "mW")
     ·have fm:=eq_mut (σ:=σ) (p:=p) (t:=t) (b:=false) (by simpa using hm)
      rw [Ty.head_ne p t tb hp (.inr (.inr hm)),set_same hi]
      repeat' (first
  | (show Op2 _ _ _ _ _ _ _ _;first | exact op_kind (by rfl) _ | exact op_mut (by rfl) kp | exact op_mut (by rfl) kt | exact op_name (by rfl) kp | exact op_name (by rfl) kt | exact op_two (by rfl) kp | exact op_two (by rfl) kt)
  | (show JS _ _ _ _ _ _ _;exact tail hn hm) | exact h1 | exact hke | exact hv | exact f_int | exact f_ref | exact f_arr | exact f_adt | exact fm | exact fn
  | walk_at "mW")
    have hm:p.isMut=t.isMut:=(Ty.isMut_of kp).trans (Ty.isMut_of (by rw [← hk];exact kp)).symm
    have f_ref:=fk "ref" false (bne_of kp)
    by_cases kp:p.kind="array"
    ·have kt:=hk▸kp
     have hn:p.name=t.name:=(Ty.name_of (by rw [kp];decide +kernel)).trans (Ty.name_of (by rw [← hk,kp];decide +kernel)).symm
     have f_arr:=fk "array" true (by rw [kp];rfl)
     have f_adt:=fk "adt" false (by rw [kp];rfl)
     repeat' (first
  | (show Op2 _ _ _ _ _ _ _ _;first | exact op_kind (by rfl) _ | exact op_mut (by rfl) kp | exact op_mut (by rfl) kt | exact op_name (by rfl) kp | exact op_name (by rfl) kt | exact op_two (by rfl) kp | exact op_two (by rfl) kt)
  | (show JS _ _ _ _ _ _ _;exact tail hn hm) | exact h1 | exact hke | exact hv | exact f_int | exact f_ref | exact f_arr | exact f_adt | exact fm | exact fn
  | walk_at "mW")
    have f_arr:=fk "array" false (bne_of kp)
    by_cases kp:p.kind="adt"
    ·have kt:=hk▸kp
     have f_adt:=fk "adt" true (by rw [kp];rfl)
     by_cases hn:p.name=t.name
     ·have fn:=eq_name (σ:=σ) (p:=p) (t:=t) (b:=true) (by simpa using hn)
      repeat' (first
  | (show Op2 _ _ _ _ _ _ _ _;first | exact op_kind (by rfl) _ | exact op_mut (by rfl) kp | exact op_mut (by rfl) kt | exact op_name (by rfl) kp | exact op_name (by rfl) kt | exact op_two (by rfl) kp | exact op_two (by rfl) kt)
  | (show JS _ _ _ _ _ _ _;exact tail hn hm) | exact h1 | exact hke | exact hv | exact f_int | exact f_ref | exact f_arr | exact f_adt | exact fm | exact fn
  | walk_at "mW")
     ·have fn:=eq_name (σ:=σ) (p:=p) (t:=t) (b:=false) (by simpa using hn)
      rw [Ty.head_ne p t tb hp (.inr (.inl hn)),set_same hi]
      repeat' (first
  | (show Op2 _ _ _ _ _ _ _ _;first | exact op_kind (by rfl) _ | exact op_mut (by rfl) kp | exact op_mut (by rfl) kt | exact op_name (by rfl) kp | exact op_name (by rfl) kt | exact op_two (by rfl) kp | exact op_two (by rfl) kt)
  | (show JS _ _ _ _ _ _ _;exact tail hn hm) | exact h1 | exact hke | exact hv | exact f_int | exact f_ref | exact f_arr | exact f_adt | exact fm | exact fn
  | walk_at "mW")
    ·have f_adt:=fk "adt" false (bne_of kp)
     have hn:p.name=t.name:=(Ty.name_of kp).trans (Ty.name_of (by rw [← hk];exact kp)).symm
     repeat' (first
  | (show Op2 _ _ _ _ _ _ _ _;first | exact op_kind (by rfl) _ | exact op_mut (by rfl) kp | exact op_mut (by rfl) kt | exact op_name (by rfl) kp | exact op_name (by rfl) kt | exact op_two (by rfl) kp | exact op_two (by rfl) kt)
  | (show JS _ _ _ _ _ _ _;exact tail hn hm) | exact h1 | exact hke | exact hv | exact f_int | exact f_ref | exact f_arr | exact f_adt | exact fm | exact fn
  | walk_at "mW")
   ·have h2:=ne_kind (σ:=σ) hk
    rw [Ty.head_ne p t tb hp (.inl hk),set_same hi]
    repeat' (first
  | (show Op2 _ _ _ _ _ _ _ _;exact op_kind (by rfl) _) | exact h1 | exact h2
  | walk_at "mW")
end
structure Row where
 num:Nat
 params:List (Str × List Str)
 trait:Str
 self:Ty
structure AdtD where
 name:Str
 params:List Str
 variants:List (Str × List (Str × Ty))
 many:Bool
structure Wd where
 adts:List (Str × AdtD)
 rows:List Row
noncomputable abbrev Bds:=List (Str × List Str)
noncomputable def strL (l:List Str):PyData:=.tuple (l.map .str)
noncomputable def bdv (l:Bds):Mp:=l.map fun p=>(p.1,.p (strL p.2))
noncomputable def prs (l:Bds):PyData:=.list (l.map fun p=>.tuple [.str p.1,strL p.2])
noncomputable def flds (l:List (Str × Ty)):PyData:=.list (l.map fun p=>.tuple [.str p.1,p.2.av])
noncomputable def vars (l:List (Str × List (Str × Ty))):PyData:=.list (l.map fun p=>.tuple [.str p.1,.str "tuple",flds p.2])
noncomputable def Row.av (N:Fns) (r:Row):AV:=.ins N.ImplRow [("number",.p (.int r.num)),("regions",.p (.tuple [])),("params",.p (prs r.params)),("trait",.p (.str r.trait)),("trait_args",.p (.tuple [])),("self_type",.p r.self.av),("methods",.dct []),("spot",.p (.int 0))]
noncomputable def AdtD.av (N:Fns) (a:AdtD):AV:=.ins N.Adt [("path",.p (.str a.name)),("module",.p (.str "")),("regions",.p (.tuple [])),("params",.p (strL a.params)),("variants",.p (vars a.variants)),("publics",.p (.tuple [])),("is_enum",.p (.bool a.many))]
noncomputable def Wd.av (N:Fns) (w:Wd):AV:=.ins N.World [("modules",.p .none),("adts",.dct (w.adts.map fun p=>(p.1,p.2.av N))),("variants",.dct []),("sigs",.dct []),("traits",.dct []),("impls",.lst (w.rows.map (Row.av N))),("consts",.dct []),("bodies",.dct [])]
theorem Row.bel (N:Fns) (r:Row):Mine.bel 0 (r.av N)=true:=rfl
theorem rows_bel (N:Fns):∀ l:List Row,belL 0 (l.map (Row.av N))=true
 | []=>rfl
 | _::l=>rows_bel N l
theorem bdv_bel:∀ l:Bds,belD 0 (bdv l)=true
 | []=>rfl
 | _::l=>bdv_bel l
theorem tbl_bel:∀ l:Tab,belD 0 (tbl l)=true
 | []=>rfl
 | _::l=>tbl_bel l
theorem adts_bel (N:Fns):∀ l:List (Str × AdtD),belD 0 (l.map fun p=>(p.1,p.2.av N))=true
 | []=>rfl
 | _::l=>adts_bel N l
theorem Wd.bel (N:Fns) (w:Wd):Mine.bel 0 (w.av N)=true:=by
 refine (?_:(true&&(belD 0 (w.adts.map fun p=>(p.1,p.2.av N))&&(true&&(true&&(true&&(belL 0 (w.rows.map (Row.av N))&&(true&&(true&&true))))))))=true)
 rw [adts_bel,rows_bel];rfl
noncomputable def hasC (l:List Str):Bool:=(l.map PyData.str).any fun y=>y.eqv (.str "Copy")
noncomputable def implB (f:Ty→Bool) (l:Bds) (tb:Tab):Bool:=!l.any fun p=>hasC p.2&&!f ((tb.lookup p.1).getD (.par p.1))
noncomputable def isC (s:Str):Bool:=s == ("Copy":Str)
noncomputable def isD (s:Str):Bool:=s == ("Drop":Str)
noncomputable def cpF (rows:List Row) (bd:Bds):Nat→Ty→Bool
 | 0,_=>false
 | n+1,t=>match t with
  | .num=>true
  | .bool=>true
  | .ref _ m _=>!m
  | .tup a b=>cpF rows bd n a&&cpF rows bd n b
  | .arr a=>cpF rows bd n a
  | .par x=>hasC ((bd.lookup x).getD [])
  | .box _=>false
  | t=>rows.any fun r=>isC r.trait&&((r.self.erase.mt t.erase []).1&&implB (cpF rows bd n) r.params (r.self.erase.mt t.erase []).2)
section
variable {C:Cx} {N:Fns} {D:Nat} {σ:Sto} (P:Pg C N)
theorem cmp_str {op:CmpOp} {x y:Str} {b:Bool} (h:(x == y)=b) (ho:op=.Eq):cmpV op (.p (.str x)) (.p (.str y)) σ=some b:=op_eq (by simp [PyData.depth]) h ho
theorem cmp_hasC {l:List Str}:cmpV .In (.p (.str "Copy")) (.p (strL l)) σ=some (hasC l):=rfl
include P
theorem c_impl_bounds (r:Row) (tb:Tab) (w:Wd) (bd:Bds) (f:Ty→Bool) (D:Nat) (hf:∀ p∈r.params,hasC p.2=true→CallR C D N.is_copy [.p ((tb.lookup p.1).getD (.par p.1)).av,w.av N,.dct (bdv bd)] [] (.ret (.p (.bool (f ((tb.lookup p.1).getD (.par p.1))))) [])) :
  CallR C (D+1) N.impl_bounds [r.av N,.dct (tbl tb),w.av N,.dct (bdv bd)] [] (.ret (.p (.bool (implB f r.params tb))) []):=by
 refine P.impl_bounds.callJ P.ok rfl ?_
 have hb:belD 0 [(("bounds":Str),.dct (bdv bd)),("world",w.av N),("table",.dct (tbl tb)),("row",r.av N)]=true:=belD_cons (bdv_bel bd) (belD_cons (Wd.bel N w) (belD_cons (tbl_bel tb) rfl))
 have L:=LoopJ.until (C:=C) (D:=D) (sc:=scopeAt 16) (bt:=bindNames ["name","traits"]) (body:=forBody (stAt 16 0)) (m:=[("bounds",.dct (bdv bd)),("world",w.av N),("table",.dct (tbl tb)),("row",r.av N)]) (σ:=[]) (v:=.p (.bool false)) (g:=fun p=>.p (.tuple [.str p.1,strL p.2])) (f:=fun p=>hasC p.2&&!f ((tb.lookup p.1).getD (.par p.1))) (l:=r.params) (fun p hp=>by
  refine ⟨[("traits",.p (strL p.2)),("name",.p (.str p.1))],rfl,?_⟩
  have hin:=cmp_hasC (σ:=[]) (l:=p.2)
  cases hc:hasC p.2 with
  | false=>
   rw [hc] at hin
   refine JS.back0 (σ1:=[]) (m1:=("traits",.p (strL p.2))::("name",.p (.str p.1))::_) ?_ hb (weak_cons rfl (weak_cons rfl weak_refl))
   repeat' (first
  | (show JE _ _ _ _ _ _ _ _;exact JE.gstr P.ok P.copy (by decide +kernel) (by rfl) (by rfl)) | exact hin
  | walk_at "mW")
  | true=>
   rw [hc] at hin
   have hv:((tbl tb).lookup p.1).getD (.p (.tuple [.str "param",.str p.1]))=.p ((tb.lookup p.1).getD (.par p.1)).av:=by rw [tbl_lookup];cases tb.lookup p.1<;>rfl
   have c:=hf p hp hc
   cases hfp:f ((tb.lookup p.1).getD (.par p.1)) with
   | false=>
    rw [hfp] at c
    repeat' (first
  | (show JE _ _ _ _ _ _ _ _;first | exact JE.gstr P.ok P.copy (by decide +kernel) (by rfl) (by rfl) | apply JE.callFn P.ok P.is_copy | apply JE.get')
  | (show CallR _ _ _ _ _ _;exact c) | exact hin | exact hv
  | walk_at "mW")
   | true=>
    rw [hfp] at c
    refine JS.back0 (σ1:=[]) (m1:=("traits",.p (strL p.2))::("name",.p (.str p.1))::_) ?_ hb (weak_cons rfl (weak_cons rfl weak_refl))
    repeat' (first
  | (show JE _ _ _ _ _ _ _ _;first | exact JE.gstr P.ok P.copy (by decide +kernel) (by rfl) (by rfl) | apply JE.callFn P.ok P.is_copy | apply JE.get')
  | (show CallR _ _ _ _ _ _;exact c) | exact hin | exact hv
  | walk_at "mW"))
 unfold implB
 cases hA:r.params.any fun p=>hasC p.2&&!f ((tb.lookup p.1).getD (.par p.1))<;>rw [hA] at L<;>simp only [Bool.false_eq_true,if_false,if_true] at L
 all_goals (repeat' (first
  | (show JE _ _ _ _ _ _ _ _;apply JE.attr)
  | (show JM _ _ _ _ _ _ _ _ _ _ _;apply JM.names2)
  | (show J1 _ _ _ _ _ _ _;apply J1.forM)
  | (show LoopJ _ _ _ _ _ _ _ _ _;exact L) | (show asF _=_;exact congrArg some (List.map_map ..)) | (show Op1 _ _ _ _ _ _ _;exact op_attr P.ok (by rfl) (P.a_row _ (by decide +kernel)) (by rfl))
  | walk_at "mW"))
end
namespace Ty
noncomputable def names:Ty→List Str
 | par n=>[n]
 | ref _ _ t=>t.names
 | box t=>t.names
 | arr t=>t.names
 | tup a b=>a.names++b.names
 | c1 a=>a.names
 | c2 a b=>a.names++b.names
 | num=>[]
 | bool=>[]
 | c0=>[]
theorem names_parts {p:Ty} (h:p.kind≠"param") {x:Str} (hx:x∈p.names):∃ a∈p.parts,x∈a.names:=by
 cases p with
 | par n=>exact absurd rfl h
 | num=>exact nomatch hx
 | bool=>exact nomatch hx
 | c0=>exact nomatch hx
 | ref r m t=>exact ⟨t,List.mem_singleton.mpr rfl,hx⟩
 | box t=>exact ⟨t,List.mem_singleton.mpr rfl,hx⟩
 | arr t=>exact ⟨t,List.mem_singleton.mpr rfl,hx⟩
 | c1 t=>exact ⟨t,List.mem_singleton.mpr rfl,hx⟩
 | tup a b=>exact (List.mem_append.mp hx).elim (fun h=>⟨a,List.mem_cons_self ..,h⟩) fun h=>⟨b,List.mem_cons_of_mem _ (List.mem_singleton.mpr rfl),h⟩
 | c2 a b=>exact (List.mem_append.mp hx).elim (fun h=>⟨a,List.mem_cons_self ..,h⟩) fun h=>⟨b,List.mem_cons_of_mem _ (List.mem_singleton.mpr rfl),h⟩
structure Fit (p:List Str) (k:Nat) (tb tb':Tab):Prop where
 old:∀ x u,tb.lookup x=some u→tb'.lookup x=some u
 new:∀ x u,tb'.lookup x=some u→tb.lookup x=some u∨u.ht≤k
 has:∀ x∈p,∃ u,tb'.lookup x=some u
theorem fit_list (ih:∀ a∈ps,∀ (t:Ty) tb,(a.mt t tb).1=true→Fit a.names t.ht tb (a.mt t tb).2):∀ (ts:List Ty) (tb:Tab) (k:Nat),ps.length=ts.length→(mtL ps ts tb).1=true→(∀ t∈ts,t.ht≤k)→Fit (ps.flatMap names) k tb (mtL ps ts tb).2:=by
 induction ps with
 | nil=>intro ts tb k hl h hk;cases ts with
  | nil=>exact ⟨fun _ _ h=>h,fun _ _ h=>.inl h,fun _ h=>nomatch h⟩
  | cons _ _=>cases hl
 | cons p ps ihl=>
  intro ts tb k hl h hk
  cases ts with
  | nil=>cases hl
  | cons t ts=>
   rw [mtL_cons] at h ⊢
   cases hb:(p.mt t tb).1 with
   | false=>rw [hb] at h;simp at h
   | true=>
    rw [hb] at h
    simp only [if_true] at h ⊢
    have f1:=ih p (List.mem_cons_self ..) t tb hb
    have f2:=ihl (fun a ha=>ih a (List.mem_cons_of_mem _ ha)) ts _ k (by simpa using hl) h fun t ht=>hk t (List.mem_cons_of_mem _ ht)
    refine ⟨fun x u e=>f2.old x u (f1.old x u e),fun x u e=>?_,fun x hx=>?_⟩
    ·rcases f2.new x u e with e | e
     ·rcases f1.new x u e with e | e
      ·exact .inl e
      ·exact .inr (Nat.le_trans e (hk t (List.mem_cons_self ..)))
     ·exact .inr e
    ·rw [List.flatMap_cons] at hx
     rcases List.mem_append.mp hx with hx | hx
     ·refine Ze (f1.has x hx) fun u e=>?_
      exact ⟨u,f2.old x u e⟩
     ·exact f2.has x hx
theorem heads {p t:Ty} {tb:Tab} (hp:p.kind≠"param") (h:(p.mt t tb).1=true):p.kind=t.kind∧p.name=t.name∧p.isMut=t.isMut:=by
 refine ⟨?_,?_,?_⟩
 ·exact Decidable.byContradiction fun q=>by rw [head_ne p t tb hp (.inl q)] at h;cases h
 ·exact Decidable.byContradiction fun q=>by rw [head_ne p t tb hp (.inr (.inl q))] at h;cases h
 ·exact Decidable.byContradiction fun q=>by rw [head_ne p t tb hp (.inr (.inr q))] at h;cases h
theorem fit (p:Ty):∀ (t:Ty) tb,(p.mt t tb).1=true→Fit p.names t.ht tb (p.mt t tb).2:=by
 induction p using byParts with
 | h p ih=>
  intro t tb h
  by_cases hp:p.kind="param"
  ·cases p<;>first | (exfalso;revert hp;simp only [kind];decide +kernel) | skip
   rename_i n
   rw [mt_par] at h ⊢
   cases hk:tb.lookup n with
   | some u=>
    rw [hk] at h
    exact ⟨fun _ _ h=>h,fun _ _ h=>.inl h,fun x hx=>by rw [List.mem_singleton.mp hx];exact ⟨u,hk⟩⟩
   | none=>
    refine ⟨fun x u e=>?_,fun x u e=>?_,fun x hx=>?_⟩
    ·refine (?_:List.lookup x ((n,t)::tb)=_)
     rw [List.lookup_cons]
     cases q:x == n with
     | true=>rw [eq_of_beq q,hk] at e;cases e
     | false=>exact e
    ·have e':List.lookup x ((n,t)::tb)=some u:=e
     rw [List.lookup_cons] at e'
     cases q:x == n with
     | true=>rw [q] at e';cases e';exact .inr (Nat.le_refl _)
     | false=>rw [q] at e';exact .inl e'
    ·rw [List.mem_singleton.mp hx]
     exact ⟨t,by refine (?_:List.lookup n ((n,t)::tb)=_);rw [List.lookup_cons,beq_self_eq_true]⟩
  ·refine Zaa (heads hp h) fun h1 h2 h3=>?_
   refine Za (p.head_eq t tb h1 hp h2 h3) fun e l=>?_
   rw [e] at h ⊢
   have f:=fit_list ih t.parts tb t.ht l h fun s hs=>Nat.le_of_succ_le (ht_parts hs)
   exact ⟨f.old,f.new,fun x hx=>by
    refine Zea (names_parts hp hx) fun a ha hxa=>?_
    exact f.has x (List.mem_flatMap.mpr ⟨a,ha,hxa⟩)⟩
theorem fit_lt {p t:Ty} (hp:p.kind≠"param") (h:(p.mt t []).1=true) {x:Str} (hx:x∈p.names):∃ u,(p.mt t []).2.lookup x=some u∧u.ht < t.ht:=by
 refine Zaa (heads hp h) fun h1 h2 h3=>?_
 refine Za (p.head_eq t [] h1 hp h2 h3) fun e l=>?_
 rw [e] at h ⊢
 refine Zea (names_parts hp hx) fun a ha hxa=>?_
 have hpos:0 < t.ht:=by
  cases hts:t.parts with
  | nil=>rw [hts] at l;rw [List.length_eq_zero_iff.mp l] at ha;exact nomatch ha
  | cons s _=>have:=ht_parts (t:=t) (s:=s) (by rw [hts];exact List.mem_cons_self ..);walk_at "o"
 have f:=fit_list (fun a _=>fit a) t.parts [] (t.ht - 1) l h fun s hs=>by have:=ht_parts hs;walk_at "o"
 refine Ze (f.has x (List.mem_flatMap.mpr ⟨a,ha,hxa⟩)) fun u hu=>?_
 refine ⟨u,hu,?_⟩
 rcases f.new x u hu with q | q
 ·exact nomatch q
 ·omega
theorem wr_ht (g:Option Str→Option Str) (t:Ty):(t.wr g).ht=t.ht:=by
 induction t with
 | ref r m t ih=>exact congrArg (·+1) ih
 | box t ih=>exact congrArg (·+1) ih
 | arr t ih=>exact congrArg (·+1) ih
 | c1 t ih=>exact congrArg (·+1) ih
 | tup a b i j=>refine (?_:max (a.wr g).ht (b.wr g).ht+1=_);rw [i,j];rfl
 | c2 a b i j=>refine (?_:max (a.wr g).ht (b.wr g).ht+1=_);rw [i,j];rfl
 | _=>rfl
theorem wr_names (g:Option Str→Option Str) (t:Ty):(t.wr g).names=t.names:=by
 induction t with
 | ref r m t ih=>exact ih
 | box t ih=>exact ih
 | arr t ih=>exact ih
 | c1 t ih=>exact ih
 | tup a b i j=>refine (?_:(a.wr g).names++(b.wr g).names=_);rw [i,j];rfl
 | c2 a b i j=>refine (?_:(a.wr g).names++(b.wr g).names=_);rw [i,j];rfl
 | _=>rfl
theorem wr_size (g:Option Str→Option Str) (t:Ty):(t.wr g).size=t.size:=by
 induction t with
 | ref r m t ih=>exact ih
 | box t ih=>exact ih
 | arr t ih=>exact ih
 | c1 t ih=>exact ih
 | tup a b i j=>refine (?_:(a.wr g).size+(b.wr g).size=_);rw [i,j];rfl
 | c2 a b i j=>refine (?_:(a.wr g).size+(b.wr g).size=_);rw [i,j];rfl
 | _=>rfl
theorem wr_kind (g:Option Str→Option Str) (t:Ty):(t.wr g).kind=t.kind:=by cases t<;>rfl
end Ty
structure RowOk (r:Row):Prop where
 ht:r.self.ht≤10
 size:r.self.size≤1000
 prm:∀ p∈r.params,hasC p.2=true→p.1∈r.self.names∧r.self.kind≠"param"
 all:∀ p∈r.params,p.1∈r.self.names
theorem RowOk.look {r:Row} (h:RowOk r) {t:Ty} (hm:(r.self.erase.mt t.erase []).1=true) {p:Str × List Str} (hp:p∈r.params) (hc:hasC p.2=true):∃ u,(r.self.erase.mt t.erase []).2.lookup p.1=some u∧u.ht < t.ht:=by
 refine Za (h.prm p hp hc) fun h1 h2=>?_
 have:=Ty.fit_lt (p:=r.self.erase) (t:=t.erase) (by rw [Ty.wr_kind];exact h2) hm (x:=p.1) (by rw [Ty.wr_names];exact h1)
 rwa [Ty.wr_ht] at this
theorem cpF_adt {rows:List Row} {bd:Bds} {n:Nat} {t:Ty} (h:t.kind="adt"):cpF rows bd (n+1) t=rows.any fun r=>isC r.trait&&((r.self.erase.mt t.erase []).1&&implB (cpF rows bd n) r.params (r.self.erase.mt t.erase []).2):=by
 cases t<;>first | (exfalso;revert h;simp only [Ty.kind];decide +kernel) | rfl
theorem bdv_lookup (l:Bds) (n:Str):(bdv l).lookup n=(l.lookup n).map fun t=>.p (strL t):=by
 induction l with
 | nil=>rfl
 | cons p r ih=>
  obtain ⟨k,t⟩:=p
  refine (?_:List.lookup n ((k,_)::bdv r)=_)
  rw [List.lookup_cons,List.lookup_cons]
  cases h:n == k with
  | true=>rfl
  | false=>exact ih
section
variable {C:Cx} {N:Fns} {D:Nat} {σ:Sto} (P:Pg C N)
theorem op_kindS {x i:Expr} (hn:noSlice i=true) {t:Ty} {s:Str} (h:t.kind=s):Op2 C D (subscriptTail x i) (.p t.av) (.p (.int 0)) σ (.p (.str s)) σ:=h▸op_kind hn t
include P
theorem copy_row (w:Wd) (bd:Bds) (r:Row) (t:Ty) (f:Ty→Bool) (hr:RowOk r) (ht:t.ht≤40) (hD:39+2 * t.ht≤D) (hadt:t.kind="adt")
  (hf:(r.self.erase.mt t.erase []).1=true→∀ p∈r.params,hasC p.2=true→∀ D',38+2 * t.ht≤D'→CallR C D' N.is_copy [.p (((r.self.erase.mt t.erase []).2.lookup p.1).getD (.par p.1)).av,w.av N,.dct (bdv bd)] [] (.ret (.p (.bool (f (((r.self.erase.mt t.erase []).2.lookup p.1).getD (.par p.1))))) [])) :
  JS C D (scopeAt 17) [(("row":Str),r.av N),("kind",.p (.str "adt")),("bounds",.dct (bdv bd)),("world",w.av N),("told",.p t.av)] [] (forBody (stAt 17 6)) (if (isC r.trait&&((r.self.erase.mt t.erase []).1&&implB f r.params (r.self.erase.mt t.erase []).2))=true then .ret (.p (.bool true)) [] else .next [("kind",.p (.str "adt")),("bounds",.dct (bdv bd)),("world",w.av N),("told",.p t.av)] []):=by
 have hh:=hr.ht
 have hb:belD 0 [(("kind":Str),.p (.str "adt")),("bounds",.dct (bdv bd)),("world",w.av N),("told",.p t.av)]=true:=belD_cons rfl (belD_cons (bdv_bel bd) (belD_cons (Wd.bel N w) rfl))
 have hw:∀ u,∀ x v,List.lookup x [(("kind":Str),AV.p (.str "adt")),("bounds",.dct (bdv bd)),("world",w.av N),("told",.p t.av)]=some v→List.lookup x (("table",u)::("row",r.av N)::[(("kind":Str),AV.p (.str "adt")),("bounds",.dct (bdv bd)),("world",w.av N),("told",.p t.av)])=some v:=fun u=>weak_cons rfl (weak_cons rfl weak_refl)
 have hC:cmpV .Eq (.p (.str r.trait)) (.p (.str "Copy")) [.dct []]=some (isC r.trait):=cmp_str rfl rfl
 have cm:=c_matched P 0 r.self.erase t.erase [] [.dct []] rfl (by rw [Ty.wr_ht];exact ht) (by rw [Ty.wr_size];simpa using hr.size) (D - 1+1) (by rw [Ty.wr_ht];walk_at "o")
 rcases hm:r.self.erase.mt t.erase [] with ⟨b,tb⟩
 rw [hm] at cm hf
 cases hc:isC r.trait with
 | false=>
  rw [hc] at hC
  refine JS.back0 (σ1:=[.dct []]) (m1:=("table",.loc 0)::("row",r.av N)::_) ?_ hb (hw _)
  repeat' (first
  | (show JE _ _ _ _ _ _ _ _;first | exact JE.gstr P.ok P.copy (by decide +kernel) (by rfl) (by rfl) | exact JE.dict0 P.ok | apply JE.attr) | exact hC | (show Op1 _ _ _ _ _ _ _;exact op_attr P.ok (by rfl) (P.a_row _ (by decide +kernel)) (by rfl))
  | walk_at "mW")
 | true=>
  rw [hc] at hC
  cases b with
  | false=>
   refine JS.back0 (σ1:=[.dct (tbl tb)]) (m1:=("table",.loc 0)::("row",r.av N)::_) ?_ hb (hw _)
   repeat' (first
  | (show JE _ _ _ _ _ _ _ _;first | exact JE.gstr P.ok P.copy (by decide +kernel) (by rfl) (by rfl) | exact JE.dict0 P.ok | apply JE.callFn P.ok P.matched | apply JE.callFn P.ok P.erased | apply JE.attr)
  | (show CallR _ _ _ _ _ _;first | exact c_erased P _ _ (by walk_at "o") | exact cm.le (by walk_at "o")) | exact hC | (show Op1 _ _ _ _ _ _ _;exact op_attr P.ok (by rfl) (P.a_row _ (by decide +kernel)) (by rfl))
  | walk_at "mW")
  | true=>
   have ci:=(c_impl_bounds P r tb w bd f (D - 1) fun p hp hcp=>hf rfl p hp hcp _ (by walk_at "o")).under (σ:=[.dct (tbl tb)]) (vs:=[r.av N,.loc 0,w.av N,.dct (bdv bd)]) (.cons (Fz.same (Row.bel N r)) (.cons (.ldct (Nat.zero_le _) rfl (FzD.same (tbl_bel tb))) (.cons (Fz.same (Wd.bel N w)) (.cons (Fz.same (v:=.dct (bdv bd)) (bdv_bel bd)) .nil))))
   cases hi:implB f r.params tb with
   | false=>
    rw [hi] at ci
    refine JS.back0 (σ1:=[.dct (tbl tb)]) (m1:=("table",.loc 0)::("row",r.av N)::_) ?_ hb (hw _)
    repeat' (first
  | (show JE _ _ _ _ _ _ _ _;first | exact JE.gstr P.ok P.copy (by decide +kernel) (by rfl) (by rfl) | exact JE.dict0 P.ok | apply JE.callFn P.ok P.matched | apply JE.callFn P.ok P.erased | apply JE.callFn P.ok P.impl_bounds | apply JE.attr)
  | (show CallR _ _ _ _ _ _;first | exact ci.le (by walk_at "o") | exact c_erased P _ _ (by walk_at "o") | exact cm.le (by walk_at "o")) | exact hC | (show Op1 _ _ _ _ _ _ _;exact op_attr P.ok (by rfl) (P.a_row _ (by decide +kernel)) (by rfl))
  | walk_at "mW")
   | true=>
    rw [hi] at ci
    refine JS.backR0 (σ1:=[.dct (tbl tb)]) ?_
    repeat' (first
  | (show JE _ _ _ _ _ _ _ _;first | exact JE.gstr P.ok P.copy (by decide +kernel) (by rfl) (by rfl) | exact JE.dict0 P.ok | apply JE.callFn P.ok P.matched | apply JE.callFn P.ok P.erased | apply JE.callFn P.ok P.impl_bounds | apply JE.attr)
  | (show CallR _ _ _ _ _ _;first | exact ci.le (by walk_at "o") | exact c_erased P _ _ (by walk_at "o") | exact cm.le (by walk_at "o")) | exact hC | (show Op1 _ _ _ _ _ _ _;exact op_attr P.ok (by rfl) (P.a_row _ (by decide +kernel)) (by rfl))
  | walk_at "mW")
theorem c_is_copy (w:Wd) (bd:Bds) (hw:∀ r∈w.rows,RowOk r):∀ n t,t.ht < n→t.ht≤40→∀ D,40+2 * t.ht≤D→CallR C D N.is_copy [.p t.av,w.av N,.dct (bdv bd)] [] (.ret (.p (.bool (cpF w.rows bd n t))) []):=by
 intro n
 induction n with
 | zero=>intro t h;exact absurd h (Nat.not_lt_zero _)
 | succ n ih=>
  intro t hn ht D hD
  refine CallR.le (D:=D - 1+1) (P.is_copy.callJ P.ok rfl ?_) (by walk_at "o")
  by_cases hadt:t.kind="adt"
  ·rw [cpF_adt hadt]
   have L:=LoopJ.until (C:=C) (D:=D - 1) (sc:=scopeAt 17) (bt:=bindName1 "row") (body:=forBody (stAt 17 6)) (m:=[("kind",.p (.str "adt")),("bounds",.dct (bdv bd)),("world",w.av N),("told",.p t.av)]) (σ:=[]) (v:=.p (.bool true)) (g:=Row.av N) (f:=fun r=>isC r.trait&&((r.self.erase.mt t.erase []).1&&implB (cpF w.rows bd n) r.params (r.self.erase.mt t.erase []).2)) (l:=w.rows) (fun r hr=>⟨_,rfl,copy_row P w bd r t (cpF w.rows bd n) (hw r hr) ht (by walk_at "o") hadt fun hm p hp hcp D' hD'=>by
    refine Zea ((hw r hr).look hm hp hcp) fun u hu hl=>?_
    rw [hu]
    exact ih u (by walk_at "o") (by walk_at "o") D' (by walk_at "o")⟩)
   cases hA:w.rows.any fun r=>isC r.trait&&((r.self.erase.mt t.erase []).1&&implB (cpF w.rows bd n) r.params (r.self.erase.mt t.erase []).2)<;>rw [hA] at L<;>simp only [Bool.false_eq_true,if_false,if_true] at L
   all_goals (repeat' (first
  | (show JE _ _ _ _ _ _ _ _;apply JE.attr)
  | (show Op2 _ _ _ _ _ _ _ _;exact op_kindS (by rfl) hadt)
  | (show J1 _ _ _ _ _ _ _;apply J1.forM)
  | (show LoopJ _ _ _ _ _ _ _ _ _;exact L) | (show Op1 _ _ _ _ _ _ _;exact op_attr P.ok (by rfl) (P.a_world _ (by decide +kernel)) (by rfl))
  | walk_at "mW"))
  ·have hv:∀ x,((bdv bd).lookup x).getD (.p (.tuple []))=.p (strL ((bd.lookup x).getD [])):=fun x=>by rw [bdv_lookup];cases bd.lookup x<;>rfl
   have hi:∀ a:Ty,a.ht+1≤t.ht→CallR C (D - 1) N.is_copy [.p a.av,w.av N,.dct (bdv bd)] [] (.ret (.p (.bool (cpF w.rows bd n a))) []):=fun a ha=>ih a (by walk_at "o") (by walk_at "o") _ (by walk_at "o")
   cases t with
   | c0=>exact absurd rfl hadt
   | c1 a=>exact absurd rfl hadt
   | c2 a b=>exact absurd rfl hadt
   | num=>repeat' (first
  | walk_at "mW")
   | bool=>repeat' (first
  | walk_at "mW")
   | box a=>repeat' (first
  | walk_at "mW")
   | ref r m a=>repeat' (first
  | (show JE _ _ _ _ _ _ _ _;apply JE.not)
  | walk_at "mW")
   | par x=>repeat' (first
  | (show JE _ _ _ _ _ _ _ _;first | apply JE.callFn P.ok P.parts_of | apply JE.callFn P.ok P.is_copy | exact JE.gstr P.ok P.copy (by decide +kernel) (by rfl) (by rfl) | apply JE.get')
  | (show CallR _ _ _ _ _ _;first | exact c_parts_of P _ _ (by walk_at "o") | exact ia | exact ib) | exact eq_nil rfl | exact cmp_hasC | exact hv _
  | walk_at "mW")
   | arr a=>
    have ia:=hi a (by simp [Ty.ht])
    refine (?_:JS _ _ _ _ _ _ (.ret (.p (.bool (cpF w.rows bd n a))) []))
    cases ha:cpF w.rows bd n a<;>rw [ha] at ia
    all_goals (repeat' (first
  | (show JE _ _ _ _ _ _ _ _;first | apply JE.callFn P.ok P.parts_of | apply JE.callFn P.ok P.is_copy | exact JE.gstr P.ok P.copy (by decide +kernel) (by rfl) (by rfl) | apply JE.get')
  | (show CallR _ _ _ _ _ _;first | exact c_parts_of P _ _ (by walk_at "o") | exact ia | exact ib) | exact eq_nil rfl | exact cmp_hasC | exact hv _
  | walk_at "mW"))
   | tup a b=>
    have ia:=hi a (by simp only [Ty.ht];walk_at "o")
    have ib:=hi b (by simp only [Ty.ht];walk_at "o")
    refine (?_:JS _ _ _ _ _ _ (.ret (.p (.bool (cpF w.rows bd n a&&cpF w.rows bd n b))) []))
    cases ha:cpF w.rows bd n a<;>cases hb:cpF w.rows bd n b<;>rw [ha] at ia<;>rw [hb] at ib
    all_goals (repeat' (first
  | (show JE _ _ _ _ _ _ _ _;first | apply JE.callFn P.ok P.parts_of | apply JE.callFn P.ok P.is_copy | exact JE.gstr P.ok P.copy (by decide +kernel) (by rfl) (by rfl) | apply JE.get')
  | (show CallR _ _ _ _ _ _;first | exact c_parts_of P _ _ (by walk_at "o") | exact ia | exact ib) | exact eq_nil rfl | exact cmp_hasC | exact hv _
  | walk_at "mW"))
end
noncomputable def hdF (rows:List Row) (t:Ty):Bool:=rows.any fun r=>isD r.trait&&(r.self.erase.mt t.erase []).1
section
variable {C:Cx} {N:Fns} {D:Nat} {σ:Sto} (P:Pg C N)
theorem op_parts {x i:Expr} (hn:noSlice i=true) {t:Ty} (h:t.kind="adt"):Op2 C D (subscriptTail x i) (.p t.av) (.p (.int 3)) σ (.p (.tuple (t.parts.map Ty.av))) σ:=by
 cases t<;>first | (exfalso;revert h;simp only [Ty.kind];decide +kernel) | exact op_item hn rfl (by decide) (by decide) rfl
theorem op_regs {x i:Expr} (hn:noSlice i=true) {t:Ty} (h:t.kind="adt"):Op2 C D (subscriptTail x i) (.p t.av) (.p (.int 2)) σ (.p (.tuple [])) σ:=by
 cases t<;>first | (exfalso;revert h;simp only [Ty.kind];decide +kernel) | exact op_item hn rfl (by decide) (by decide) rfl
include P
theorem drop_row (r:Row) (t:Ty) (hr:RowOk r) (ht:t.ht≤40) (hD:60≤D) (w:Wd) :
  JS C D (scopeAt 20) [(("row":Str),r.av N),("world",w.av N),("told",.p t.av)] [] (forBody (stAt 20 0)) (if (isD r.trait&&(r.self.erase.mt t.erase []).1)=true then .ret (.p (.bool true)) [] else .next [("world",w.av N),("told",.p t.av)] []):=by
 have hh:=hr.ht
 have hb:belD 0 [(("world":Str),w.av N),("told",.p t.av)]=true:=belD_cons (Wd.bel N w) rfl
 have hw:∀ x v,List.lookup x [(("world":Str),w.av N),("told",AV.p t.av)]=some v→List.lookup x (("row",r.av N)::[(("world":Str),w.av N),("told",AV.p t.av)])=some v:=weak_cons rfl weak_refl
 have hC:cmpV .Eq (.p (.str r.trait)) (.p (.str "Drop")) []=some (isD r.trait):=cmp_str rfl rfl
 have cm:=c_matched P 0 r.self.erase t.erase [] [.dct []] rfl (by rw [Ty.wr_ht];exact ht) (by rw [Ty.wr_size];simpa using hr.size) D (by rw [Ty.wr_ht];walk_at "o")
 rcases hm:r.self.erase.mt t.erase [] with ⟨b,tb⟩
 rw [hm] at cm
 cases hc:isD r.trait with
 | false=>
  rw [hc] at hC
  refine JS.back0 (σ1:=[]) (m1:=("row",r.av N)::_) ?_ hb hw
  repeat' (first
  | (show JE _ _ _ _ _ _ _ _;first | exact JE.gstr P.ok P.drop (by decide +kernel) (by rfl) (by rfl) | apply JE.attr) | exact hC | (show Op1 _ _ _ _ _ _ _;exact op_attr P.ok (by rfl) (P.a_row _ (by decide +kernel)) (by rfl))
  | walk_at "mW")
 | true=>
  rw [hc] at hC
  cases b with
  | false=>
   refine JS.back0 (σ1:=[.dct (tbl tb)]) (m1:=("row",r.av N)::_) ?_ hb hw
   repeat' (first
  | (show JE _ _ _ _ _ _ _ _;first | exact JE.gstr P.ok P.drop (by decide +kernel) (by rfl) (by rfl) | exact JE.dict0 P.ok | apply JE.callFn P.ok P.matched | apply JE.callFn P.ok P.erased | apply JE.attr)
  | (show CallR _ _ _ _ _ _;first | exact c_erased P _ _ (by walk_at "o") | exact cm) | exact hC | (show Op1 _ _ _ _ _ _ _;exact op_attr P.ok (by rfl) (P.a_row _ (by decide +kernel)) (by rfl))
  | walk_at "mW")
  | true=>
   refine JS.backR0 (σ1:=[.dct (tbl tb)]) ?_
   repeat' (first
  | (show JE _ _ _ _ _ _ _ _;first | exact JE.gstr P.ok P.drop (by decide +kernel) (by rfl) (by rfl) | exact JE.dict0 P.ok | apply JE.callFn P.ok P.matched | apply JE.callFn P.ok P.erased | apply JE.attr)
  | (show CallR _ _ _ _ _ _;first | exact c_erased P _ _ (by walk_at "o") | exact cm) | exact hC | (show Op1 _ _ _ _ _ _ _;exact op_attr P.ok (by rfl) (P.a_row _ (by decide +kernel)) (by rfl))
  | walk_at "mW")
theorem c_has_drop (w:Wd) (t:Ty) (hw:∀ r∈w.rows,RowOk r) (ht:t.ht≤40) (D:Nat) (hD:61≤D):CallR C D N.has_drop [.p t.av,w.av N] [] (.ret (.p (.bool (hdF w.rows t))) []):=by
 refine CallR.le (D:=D - 1+1) (P.has_drop.callJ P.ok rfl ?_) (by walk_at "o")
 have L:=LoopJ.until (C:=C) (D:=D - 1) (sc:=scopeAt 20) (bt:=bindName1 "row") (body:=forBody (stAt 20 0)) (m:=[("world",w.av N),("told",.p t.av)]) (σ:=[]) (v:=.p (.bool true)) (g:=Row.av N) (f:=fun r=>isD r.trait&&(r.self.erase.mt t.erase []).1) (l:=w.rows) (fun r hr=>⟨_,rfl,drop_row P r t (hw r hr) ht (by walk_at "o") w⟩)
 unfold hdF
 cases hA:w.rows.any fun r=>isD r.trait&&(r.self.erase.mt t.erase []).1<;>rw [hA] at L<;>simp only [Bool.false_eq_true,if_false,if_true] at L
 all_goals (repeat' (first
  | (show JE _ _ _ _ _ _ _ _;apply JE.attr)
  | (show J1 _ _ _ _ _ _ _;apply J1.forM)
  | (show LoopJ _ _ _ _ _ _ _ _ _;exact L) | (show Op1 _ _ _ _ _ _ _;exact op_attr P.ok (by rfl) (P.a_world _ (by decide +kernel)) (by rfl))
  | walk_at "mW"))
theorem adts_lookup (n:Str):∀ l:List (Str × AdtD),(l.map fun p=>(p.1,p.2.av N)).lookup n=(l.lookup n).map fun a=>a.av N
 | []=>rfl
 | (k,a)::l=>by
  refine (?_:List.lookup n ((k,_)::_)=_)
  rw [List.lookup_cons,List.lookup_cons]
  cases h:n == k with
  | true=>rfl
  | false=>exact adts_lookup n l
theorem c_field_rows (w:Wd) (t:Ty) (a:AdtD) (vn:Str) (fs:List (Str × Ty)) (k:Nat) (ht:t.kind="adt") (ha:w.adts.lookup t.name=some a) (hk:a.variants[k]?=some (vn,fs)) (h63:k < 1000) (D:Nat) (hD:1≤D):CallR C D N.field_rows [.p t.av,.p (.int k),w.av N] σ (.ret (.p (flds fs)) σ):=by
 refine CallR.le (D:=D - 1+1) (P.field_rows.callJ P.ok rfl ?_) (by walk_at "o")
 have h1:(w.adts.map fun p=>(p.1,p.2.av N)).lookup t.name=some (a.av N):=by rw [adts_lookup P,ha];rfl
 have h2:((a.variants.map fun p=>PyData.tuple [.str p.1,.str "tuple",flds p.2]).map AV.p)[(k:Int).toNat]?=some (.p (.tuple [.str vn,.str "tuple",flds fs])):=by
  refine (?_:((a.variants.map _).map _)[k]?=_)
  rw [List.getElem?_map,List.getElem?_map,hk];rfl
 repeat' (first
  | (show JE _ _ _ _ _ _ _ _;apply JE.attr)
  | (show Op2 _ _ _ _ _ _ _ _;first | exact op_name (by rfl) ht | exact op_key (by rfl) (by rfl) h1 | exact op_item (by rfl) (by rfl) (Int.natCast_nonneg k) (by walk_at "o") h2) | (show Op1 _ _ _ _ _ _ _;first | exact op_attr P.ok (by rfl) (P.a_world _ (by decide +kernel)) (by rfl) | exact op_attr P.ok (by rfl) (P.a_adt _ (by decide +kernel)) (by rfl))
  | walk_at "mW")
end
noncomputable def tabOf (ns:List Str) (ts:List Ty):Tab:=(ns.zip ts).reverse
theorem putAll_tbl:∀ (l:List (Str × Ty)) (acc:Tab),putAll (l.map fun p=>(p.1,p.2.av)) (tbl acc)=tbl (l.reverse++acc)
 | [],acc=>rfl
 | (k,t)::l,acc=>by
  refine (?_:putAll (l.map fun p=>(p.1,p.2.av)) (tbl ((k,t)::acc))=_)
  rw [putAll_tbl l,List.reverse_cons,List.append_assoc];rfl
theorem zip_av:∀ (ns:List Str) (ts:List Ty),ns.zip (ts.map Ty.av)=(ns.zip ts).map fun p=>(p.1,p.2.av)
 | [],_=>by simp
 | _::_,[]=>rfl
 | n::ns,t::ts=>by
  refine (?_:(n,t.av)::ns.zip (ts.map Ty.av)=_)
  rw [zip_av ns ts];rfl
theorem zarg_of {ns:List Str} {ts:List Ty} (h:ns.length=ts.length):ZArg (.p (strL ns)) (.p (.tuple (ts.map Ty.av))) ((ns.zip (ts.map Ty.av)).map fun p=>.str p.1) ((ns.zip (ts.map Ty.av)).map (·.2)):=by
 have e1:(ns.zip (ts.map Ty.av)).map (fun p=>PyData.str p.1)=ns.map .str:=by
  have:=List.map_fst_zip (l₁:=ns) (l₂:=ts.map Ty.av) (by simp [h])
  conv=>rhs;rw [← this,List.map_map]
  rfl
 have e2:(ns.zip (ts.map Ty.av)).map (·.2)=ts.map Ty.av:=List.map_snd_zip (by simp [h])
 rw [e1,e2]
 exact ZArg.t
noncomputable def putF (a:AdtD) (t:Ty) (fs:List (Str × Ty)):List (Str × Ty):=fs.map fun p=>(p.1,p.2.subst fun n=>(tabOf a.params t.parts).lookup n)
noncomputable abbrev stat:Option Str:=some "'static"
theorem Ty.wr_id (t:Ty):t.wr (fun r=>r)=t:=by
 induction t with
 | ref r m t ih=>exact congrArg (Ty.ref r m) ih
 | box t ih=>exact congrArg Ty.box ih
 | arr t ih=>exact congrArg Ty.arr ih
 | c1 t ih=>exact congrArg Ty.c1 ih
 | tup a b i j=>refine (?_:Ty.tup (a.wr _) (b.wr _)=_);rw [i,j]
 | c2 a b i j=>refine (?_:Ty.c2 (a.wr _) (b.wr _)=_);rw [i,j]
 | _=>rfl
section
variable {C:Cx} {N:Fns} {D:Nat} {σ:Sto} (P:Pg C N)
noncomputable def putT:Tmpl:=defT "fields_of.<locals>.put_in" (stAt 19 5)
theorem putT_ok:TmOk putT [("regions",.dct [])] ["region"] where
 kind:=by rfl
 co:=by rfl
 gen:=by rfl
 nd:=by decide +kernel
 bind cl doc pm cdv ct us h:=by obtain ⟨u,rfl⟩:=List.length_eq_one_iff.mp h;rfl
 loc p hp:=by cases List.mem_singleton.mp hp;exact .inl (by rfl)
 all x h:=by
  have e:putT.scope.names.all (fun p=>p.2 != .free||(p.1 == ("regions":Str)))=true:=by decide +kernel
  have:=List.all_eq_true.mp e _ (mem_of_lookup h)
  have:(x == ("regions":Str))=true:=this
  rw [List.lookup_cons,this];rfl
 has x v h:=by
  rw [List.lookup_cons] at h
  cases q:x == ("regions":Str) with
  | true=>rw [eq_of_beq q];decide +kernel
  | false=>rw [q] at h;cases h
include P
theorem c_put_in (D:Nat) (hD:1≤D):CallV C D (.clo putT [("regions",.dct [])]) [.p (Ty.reg stat)] σ (.ret (.p (Ty.reg stat)) σ):=by
 refine CallV.le (D:=D - 1+1) (clo_stmts P.ok putT_ok rfl rfl (JS.h ?_)) (by walk_at "o")
 have hv:(([]:Mp).lookup ("'static":Str)).getD (.p (.str "'static"))=.p (Ty.reg stat):=rfl
 repeat' (first
  | (show JE _ _ _ _ _ _ _ _;apply JE.get') | exact hv
  | walk_at "mW")
theorem c_fields_of (w:Wd) (t:Ty) (a:AdtD) (vn:Str) (fs:List (Str × Ty)) (k:Nat) (ht:t.kind="adt") (ha:w.adts.lookup t.name=some a) (hk:a.variants[k]?=some (vn,fs)) (h63:k < 1000) (hp:a.params.length=t.parts.length) (hf:∀ f∈fs,f.2.ht≤40∧∀ r∈f.2.regs,r=stat) (hl:fs.length≤1000) (hσ:∀ o∈σ,ncO o=true) (D:Nat) (hD:60≤D):CallR C D N.fields_of [.p t.av,.p (.int k),w.av N] σ (.ret (.p (flds (putF a t fs))) σ):=by
 refine Zeaa P.tabF fun p hp1 hp2 hp3=>?_
 refine CallR.le (D:=D - 1+1) (P.fields_of.callI P.ok rfl (by rfl) hp2 (JS.h ?_)) (by walk_at "o")
 have h1:(w.adts.map fun p=>(p.1,p.2.av N)).lookup t.name=some (a.av N):=by rw [adts_lookup P,ha];rfl
 have hz1:=zarg_of hp
 have hz0:ZArg (.p (.tuple [])) (.p (.tuple [])) (([]:List (Str × PyData)).map fun p=>.str p.1) (([]:List (Str × PyData)).map (·.2)):=ZArg.t
 have hzl:(a.params.zip (t.parts.map Ty.av)).length≤sizeLine:=by
  rw [List.length_zip,List.length_map]
  exact Nat.le_trans (Nat.min_le_right _ _) (Nat.le_trans t.parts_le (by decide))
 have htb:asD σ (.dct (putAll (a.params.zip (t.parts.map Ty.av)) []))=some (tbl (tabOf a.params t.parts)):=by
  rw [zip_av]
  refine (?_:some (putAll _ (tbl []))=_)
  rw [putAll_tbl,List.append_nil];rfl
 have hF:asF (.p (flds fs))=some (fs.map fun p=>.p (.tuple [.str p.1,p.2.av])):=congrArg some (List.map_map ..)
 have hmk:mkL (fs.map fun p=>.p (.tuple [.str p.1,(p.2.subst fun n=>(tabOf a.params t.parts).lookup n).av]))=.p (flds (putF a t fs)):=by
  rw [mkL_map]
  unfold flds putF
  rw [List.map_map];rfl
 have pl:Place C (scopeAt 19) ((("regions":Str),AV.dct [])::("types",.dct (putAll (a.params.zip (t.parts.map Ty.av)) []))::("adt",a.av N)::("world",w.av N)::("variant",.p (.int k))::("told",.p t.av)::[(("<env>":Str),AV.ins p.1 [("fields_of.<locals>.",.val .none)])]) "fields_of.<locals>." "put_in":=⟨⟨p,hp1,rfl,hp3⟩,by rfl⟩
 have cp:Capt ((("regions":Str),AV.dct [])::("types",.dct (putAll (a.params.zip (t.parts.map Ty.av)) []))::("adt",a.av N)::("world",w.av N)::("variant",.p (.int k))::("told",.p t.av)::[(("<env>":Str),AV.ins p.1 [("fields_of.<locals>.",.val .none)])]) putT.scope (scopeAt 19) [("regions",.dct [])]:=Capt.of (by decide +kernel) fun p hp=>by cases List.mem_singleton.mp hp;rfl
 have cw:∀ f∈fs,CallR C (D - 1) N.with_regions [.p f.2.av,.clo putT [("regions",.dct [])]] σ (.ret (.p f.2.av) σ):=fun f hf'=>by
  have:=c_with_regions P (σ:=σ) (.clo putT [("regions",.dct [])]) (fun r=>r) trivial f.2 (fun r hr D hD=>by cases (hf f hf').2 r hr;exact c_put_in P D hD) (D - 1) (by have:=(hf f hf').1;walk_at "o")
  rwa [Ty.wr_id] at this
 have cs:∀ f∈fs,CallR C (D - 1) N.substituted [.p f.2.av,.dct (putAll (a.params.zip (t.parts.map Ty.av)) [])] σ (.ret (.p (f.2.subst fun n=>(tabOf a.params t.parts).lookup n).av) σ):=fun f hf'=>c_subst P _ _ htb f.2 _ (by have:=(hf f hf').1;walk_at "o")
 repeat' (first
  | (show JE _ _ _ _ _ _ _ _;first | apply JE.callFn P.ok P.field_rows | apply JE.callFn P.ok P.substituted | apply JE.callFn P.ok P.with_regions | apply JE.attr | apply JE.dictZip P.ok P.b_zip boot_zip | apply JE.compM0v)
  | (show JM _ _ _ _ _ _ _ _ _ _ _;apply JM.names2)
  | (show Op2 _ _ _ _ _ _ _ _;first | exact op_kindS (by rfl) ht | exact op_name (by rfl) ht | exact op_parts (by rfl) ht | exact op_regs (by rfl) ht | exact op_key (by rfl) (by rfl) h1)
  | (show JS _ _ _ _ _ _ _;apply JS.defRet P.ok pl cp (.inr (by rfl)) (by decide +kernel))
  | (show CompJ0 _ _ _ _ _ _ _ _ _ _;refine CompJ0.each (g:=fun (p:Str × Ty)=>.p (.tuple [.str p.1,p.2.av])) (f:=fun p=>.p (.tuple [.str p.1,(p.2.subst fun n=>(tabOf a.params t.parts).lookup n).av])) (l:=fs) (fun p hp'=>⟨_,rfl,?_⟩))
  | (show CallR _ _ _ _ _ _;first | exact c_field_rows P w t a vn fs k ht ha hk h63 _ (by walk_at "o") | exact cw _ (by assumption) | exact cs _ (by assumption)) | with_reducible exact P.b_dict | with_reducible exact boot_dict | exact hz1 | exact hz0 | exact hzl | exact hF | exact hmk | (rw [List.length_map];exact Nat.le_trans hl (by decide)) | exact hσ | (show Op1 _ _ _ _ _ _ _;first | exact op_attr P.ok (by rfl) (P.a_world _ (by decide +kernel)) (by rfl) | exact op_attr P.ok (by rfl) (P.a_adt _ (by decide +kernel)) (by rfl))
  | walk_at "mW")
end
structure Sm (n:Nat) (s:Str):Prop where
 ok:PyData.strOk s=true
 len:s.length≤n
theorem Sm.app {n k:Nat} {x y:Str} (h:Sm n x) (h2:Sm k y):Sm (n+k) (x++y):=⟨strOk_append h.ok h2.ok,by rw [Str.length_append];exact Nat.add_le_add h.len h2.len⟩
theorem Sm.le {n k:Nat} {x:Str} (h:Sm n x) (hk:n≤k):Sm k x:=⟨h.ok,Nat.le_trans h.len hk⟩
theorem joinOk2 {a b:Str} {n:Nat} (ha:a.length≤n) (hb:b.length≤n) (hn:n≤4000000):JoinOk ", " [a,b]=true:=by
 have e:(", ":Str).length=2:=rfl
 have h:¬ (0+a.length+(", ":Str).length+b.length+(", ":Str).length > sizeLine):=by
  have:sizeLine=16777216:=by decide
  walk_at "o"
 refine (?_:(!decide (0+a.length+(", ":Str).length+b.length+(", ":Str).length > sizeLine))=true)
 simp only [h,decide_false,Bool.not_false]
theorem joinOk1 {a:Str} {n:Nat} (ha:a.length≤n) (hn:n≤4000000):JoinOk ", " [a]=true:=by
 have e:(", ":Str).length=2:=rfl
 have h:¬ (0+a.length+(", ":Str).length > sizeLine):=by
  have:sizeLine=16777216:=by decide
  walk_at "o"
 refine (?_:(!decide (0+a.length+(", ":Str).length > sizeLine))=true)
 simp only [h,decide_false,Bool.not_false]
section
variable {C:Cx} {N:Fns} {D:Nat} {σ:Sto} (P:Pg C N)
theorem op_sm {n k:Nat} {x y:Str} (h:Sm n x) (h2:Sm k y) (hz:n+k≤8000000):Op2 C D (binaryOp .Add) (.p (.str x)) (.p (.str y)) σ (.p (.str (x++y))) σ:=
 op_adds (Nat.le_trans (Nat.add_le_add h.len h2.len) (Nat.le_trans hz (by decide))) (strOk_append h.ok h2.ok)
noncomputable def regT (r:Option Str):Str:=r.getD ""
noncomputable def refT (r:Option Str) (m:Bool):Str:=("&":Str)++(if r=none then ("":Str) else regT r++(" ":Str))++(if m=true then ("mut ":Str) else ("":Str))
include P
theorem c_region_text (r:Option Str) (h:r=none∨r=stat):∀ D,1≤D→CallR C D N.region_text [.p (Ty.reg r)] σ (.ret (.p (.str (regT r))) σ):=fun D hD=>by
 refine CallR.le (D:=D - 1+1) (P.region_text.callJ P.ok rfl ?_) (by walk_at "o")
 rcases h with rfl | rfl
 all_goals (repeat' (first
  | (show JE _ _ _ _ _ _ _ _;first | apply JE.callBi P.ok P.b_isinstance boot_isinstance | exact ⟨EvE.builtin P.ok P.b_str boot_str (by decide +kernel) (by rfl) (by rfl)⟩)
  | walk_at "mW"))
theorem refT_sm (r:Option Str) (m:Bool) (h:r=none∨r=stat):Sm 20 (refT r m):=by
 rcases h with rfl | rfl<;>cases m<;>exact ⟨by decide +kernel,by decide +kernel⟩
theorem c_type_text (t:Ty):(∀ r∈t.regs,r=none∨r=stat)→(∀ x∈t.names,Sm 16 x)→t.ht≤8→∃ s:Str,Sm (16 * 4 ^ t.ht) s∧∀ D,2+t.ht≤D→CallR C D N.type_text [.p t.av] σ (.ret (.p (.str s)) σ):=by
 have hpow:∀ n:Nat,n≤8→16 * 4 ^ n≤1048576:=fun n h=>Nat.mul_le_mul_left 16 (Nat.pow_le_pow_right (n:=4) (by decide) h)
 have hone:∀ n:Nat,1≤4 ^ n:=fun n=>Nat.one_le_pow _ _ (by decide)
 have hmax:∀ a b:Nat,4 ^ a≤4 ^ max a b∧4 ^ b≤4 ^ max a b:=fun a b=>⟨Nat.pow_le_pow_right (by decide) (Nat.le_max_left ..),Nat.pow_le_pow_right (by decide) (Nat.le_max_right ..)⟩
 have lit:∀ s:Str,(PyData.strOk s&&decide (s.length≤8))=true→Sm 8 s:=fun s h=>⟨(Bool.and_eq_true_iff.mp h).1,of_decide_eq_true (Bool.and_eq_true_iff.mp h).2⟩
 have a1:=lit "&" (by decide +kernel)
 have a2:=lit "" (by decide +kernel)
 have a3:=lit " " (by decide +kernel)
 have a4:=lit "mut " (by decide +kernel)
 have a5:=lit "'static" (by decide +kernel)
 have a6:=lit "Box<" (by decide +kernel)
 have a7:=lit ">" (by decide +kernel)
 have a8:=lit "[" (by decide +kernel)
 have a9:=lit "; " (by decide +kernel)
 have b1:=lit "]" (by decide +kernel)
 have b2:=lit (Str.ofString (toString (2:Int))) (by decide +kernel)
 have b3:=lit "(" (by decide +kernel)
 have b4:=lit ")" (by decide +kernel)
 have b5:=lit "<" (by decide +kernel)
 have b6:=lit "A" (by decide +kernel)
 have b7:=lit "B" (by decide +kernel)
 have b8:=lit "C" (by decide +kernel)
 have b9:=lit ", " (by decide +kernel)
 induction t with
 | num=>exact fun _ _ _=>⟨"u8",⟨by decide +kernel,by decide +kernel⟩,fun D hD=>by
   refine CallR.le (D:=D - 1+1) (P.type_text.callJ P.ok rfl ?_) (by walk_at "o")
   repeat' (first
  | walk_at "mW")⟩
 | bool=>exact fun _ _ _=>⟨"bool",⟨by decide +kernel,by decide +kernel⟩,fun D hD=>by
   refine CallR.le (D:=D - 1+1) (P.type_text.callJ P.ok rfl ?_) (by walk_at "o")
   repeat' (first
  | walk_at "mW")⟩
 | par n=>exact fun _ hn _=>⟨n,⟨(hn n (List.mem_singleton.mpr rfl)).ok,(hn n (List.mem_singleton.mpr rfl)).len⟩,fun D hD=>by
   refine CallR.le (D:=D - 1+1) (P.type_text.callJ P.ok rfl ?_) (by walk_at "o")
   repeat' (first
  | walk_at "mW")⟩
 | c0=>
  refine fun _ _ _=>⟨"C"++"",(b8.app a2).le (by decide),fun D hD=>?_⟩
  refine CallR.le (D:=D - 1+1) (P.type_text.callJ P.ok rfl ?_) (by walk_at "o")
  repeat' (first
  | (show JE _ _ _ _ _ _ _ _;first | apply JE.callFn P.ok P.parts_of | apply JE.callFn P.ok P.type_text | apply JE.callFn P.ok P.region_text | apply JE.callBi P.ok P.b_len boot_len | apply JE.callBi P.ok P.b_str boot_str | apply JE.join)
  | (show Op2 _ _ _ _ _ _ _ _;first | apply op_sm | exact op_addl (by rfl) (by rfl) (Nat.le_of_ble_eq_true (by rfl)))
  | (show BI _ _ _ _ _ _ _;exact bi_str (by decide +kernel) (by decide +kernel))
  | (show CallR _ _ _ _ _ _;exact c_parts_of P Ty.c0 _ (by walk_at "o")) | exact b9.ok | exact hjl | exact hjo | exact hjk | (show Sm _ _;first | assumption | apply Sm.app) | (show _≤8000000;walk_at "o")
  | walk_at "mW")
 | ref r m t ih=>
  intro hr hn ht
  refine Zea (ih (fun r hr'=>hr r (List.mem_cons_of_mem _ hr')) hn (Nat.le_of_succ_le ht)) fun s hs c=>?_
  have hb:=hpow t.ht (Nat.le_of_succ_le ht)
  have h1:=hr r (List.mem_cons_self ..)
  refine ⟨refT r m++s,((refT_sm P r m h1).app hs).le (by refine (?_:_≤16 * 4 ^ (t.ht+1));rw [Nat.pow_succ];have:=hone t.ht;walk_at "o"),fun D hD=>?_⟩
  simp only [Ty.ht] at hD
  refine CallR.le (D:=D - 1+1) (P.type_text.callJ P.ok rfl ?_) (by walk_at "o")
  have hct:=c (D - 1) (by walk_at "o")
  have cp:=c_parts_of P (Ty.ref r m t) (σ:=σ) (D - 1) (by walk_at "o")
  have cr:=c_region_text P r h1 (σ:=σ) (D - 1) (by walk_at "o")
  rcases h1 with rfl | rfl<;>cases m
  all_goals (repeat' (first
  | (show JE _ _ _ _ _ _ _ _;first | apply JE.callFn P.ok P.parts_of | apply JE.callFn P.ok P.type_text | apply JE.callFn P.ok P.region_text | apply JE.callBi P.ok P.b_len boot_len | apply JE.callBi P.ok P.b_str boot_str | apply JE.join)
  | (show Op2 _ _ _ _ _ _ _ _;apply op_sm)
  | (show BI _ _ _ _ _ _ _;exact bi_str (by decide +kernel) (by decide +kernel))
  | (show CallR _ _ _ _ _ _;first | exact cp | exact hct | exact cr) | exact b9.ok | exact hjl | exact hjo | exact hjk | (show Sm _ _;first | assumption | apply Sm.app) | (show _≤8000000;walk_at "o")
  | walk_at "mW"))
 | box t ih=>
  intro hr hn ht
  refine Zea (ih hr hn (Nat.le_of_succ_le ht)) fun s hs c=>?_
  have hb:=hpow t.ht (Nat.le_of_succ_le ht)
  refine ⟨"Box<"++s++">",((a6.app hs).app a7).le (by refine (?_:_≤16 * 4 ^ (t.ht+1));rw [Nat.pow_succ];have:=hone t.ht;walk_at "o"),fun D hD=>?_⟩
  simp only [Ty.ht] at hD
  refine CallR.le (D:=D - 1+1) (P.type_text.callJ P.ok rfl ?_) (by walk_at "o")
  have hct:=c (D - 1) (by walk_at "o")
  have cp:=c_parts_of P (Ty.box t) (σ:=σ) (D - 1) (by walk_at "o")
  repeat' (first
  | (show JE _ _ _ _ _ _ _ _;first | apply JE.callFn P.ok P.parts_of | apply JE.callFn P.ok P.type_text | apply JE.callFn P.ok P.region_text | apply JE.callBi P.ok P.b_len boot_len | apply JE.callBi P.ok P.b_str boot_str | apply JE.join)
  | (show Op2 _ _ _ _ _ _ _ _;apply op_sm)
  | (show BI _ _ _ _ _ _ _;exact bi_str (by decide +kernel) (by decide +kernel))
  | (show CallR _ _ _ _ _ _;first | exact cp | exact hct) | exact b9.ok | exact hjl | exact hjo | exact hjk | (show Sm _ _;first | assumption | apply Sm.app) | (show _≤8000000;walk_at "o")
  | walk_at "mW")
 | arr t ih=>
  intro hr hn ht
  refine Zea (ih hr hn (Nat.le_of_succ_le ht)) fun s hs c=>?_
  have hb:=hpow t.ht (Nat.le_of_succ_le ht)
  refine ⟨"["++s++"; "++Str.ofString (toString (2:Int))++"]",((((a8.app hs).app a9).app b2).app b1).le (by refine (?_:_≤16 * 4 ^ (t.ht+1));rw [Nat.pow_succ];have:=hone t.ht;walk_at "o"),fun D hD=>?_⟩
  simp only [Ty.ht] at hD
  refine CallR.le (D:=D - 1+1) (P.type_text.callJ P.ok rfl ?_) (by walk_at "o")
  have hct:=c (D - 1) (by walk_at "o")
  have cp:=c_parts_of P (Ty.arr t) (σ:=σ) (D - 1) (by walk_at "o")
  repeat' (first
  | (show JE _ _ _ _ _ _ _ _;first | apply JE.callFn P.ok P.parts_of | apply JE.callFn P.ok P.type_text | apply JE.callFn P.ok P.region_text | apply JE.callBi P.ok P.b_len boot_len | apply JE.callBi P.ok P.b_str boot_str | apply JE.join)
  | (show Op2 _ _ _ _ _ _ _ _;apply op_sm)
  | (show BI _ _ _ _ _ _ _;exact bi_str (by decide +kernel) (by decide +kernel))
  | (show CallR _ _ _ _ _ _;first | exact cp | exact hct) | exact b9.ok | exact hjl | exact hjo | exact hjk | (show Sm _ _;first | assumption | apply Sm.app) | (show _≤8000000;walk_at "o")
  | walk_at "mW")
 | c1 t ih=>
  intro hr hn ht
  refine Zea (ih hr hn (Nat.le_of_succ_le ht)) fun s hs c=>?_
  have hb:=hpow t.ht (Nat.le_of_succ_le ht)
  have hjl:[PyData.str s]=[s].map .str:=rfl
  have hjo:JoinOk ", " [s]=true:=joinOk1 hs.len (by walk_at "o")
  have hjk:PyData.strOk (Txt.join ", " [s])=true:=hs.ok
  have hs':Sm (16 * 4 ^ t.ht) (Txt.join ", " [s]):=hs
  refine ⟨"A"++("<"++s++">"),(b6.app ((b5.app hs).app a7)).le (by refine (?_:_≤16 * 4 ^ (t.ht+1));rw [Nat.pow_succ];have:=hone t.ht;walk_at "o"),fun D hD=>?_⟩
  simp only [Ty.ht] at hD
  refine CallR.le (D:=D - 1+1) (P.type_text.callJ P.ok rfl ?_) (by walk_at "o")
  have hct:=c (D - 1) (by walk_at "o")
  have cp:=c_parts_of P (Ty.c1 t) (σ:=σ) (D - 1) (by walk_at "o")
  repeat' (first
  | (show JE _ _ _ _ _ _ _ _;first | apply JE.callFn P.ok P.parts_of | apply JE.callFn P.ok P.type_text | apply JE.callFn P.ok P.region_text | apply JE.callBi P.ok P.b_len boot_len | apply JE.callBi P.ok P.b_str boot_str | apply JE.join)
  | (show Op2 _ _ _ _ _ _ _ _;first | apply op_sm | exact op_addl (by rfl) (by rfl) (Nat.le_of_ble_eq_true (by rfl)))
  | (show BI _ _ _ _ _ _ _;exact bi_str (by decide +kernel) (by decide +kernel))
  | (show CallR _ _ _ _ _ _;first | exact cp | exact hct) | exact b9.ok | exact hjl | exact hjo | exact hjk | (show Sm _ _;first | assumption | apply Sm.app) | (show _≤8000000;walk_at "o") | exact ne_nil rfl
  | walk_at "mW")
 | tup a b i j=>
  intro hr hn ht
  simp only [Ty.ht] at ht
  refine Zea (i (fun r h=>hr r (List.mem_append_left _ h)) (fun r h=>hn r (List.mem_append_left _ h)) (by walk_at "o")) fun s hs c=>?_
  refine Zea (j (fun r h=>hr r (List.mem_append_right _ h)) (fun r h=>hn r (List.mem_append_right _ h)) (by walk_at "o")) fun u hu c2=>?_
  refine Za (hmax a.ht b.ht) fun h1 h2=>?_
  have hb:=hpow (max a.ht b.ht) (by walk_at "o")
  have hs:=hs.le (Nat.mul_le_mul_left 16 h1)
  have hu:=hu.le (Nat.mul_le_mul_left 16 h2)
  have hjl:[PyData.str s,.str u]=[s,u].map .str:=rfl
  have hjo:JoinOk ", " [s,u]=true:=joinOk2 hs.len hu.len (by walk_at "o")
  have hj:Sm (16 * 4 ^ max a.ht b.ht+8+16 * 4 ^ max a.ht b.ht) (Txt.join ", " [s,u]):=(hs.app b9).app hu
  have hjk:=hj.ok
  refine ⟨"("++Txt.join ", " [s,u]++")",((b3.app hj).app b4).le (by refine (?_:_≤16 * 4 ^ (max a.ht b.ht+1));rw [Nat.pow_succ];have:=hone (max a.ht b.ht);walk_at "o"),fun D hD=>?_⟩
  simp only [Ty.ht] at hD
  refine CallR.le (D:=D - 1+1) (P.type_text.callJ P.ok rfl ?_) (by walk_at "o")
  have hct:=c (D - 1) (by walk_at "o")
  have hcu:=c2 (D - 1) (by walk_at "o")
  have cp:=c_parts_of P (Ty.tup a b) (σ:=σ) (D - 1) (by walk_at "o")
  repeat' (first
  | (show JE _ _ _ _ _ _ _ _;first | apply JE.callFn P.ok P.parts_of | apply JE.callFn P.ok P.type_text | apply JE.callFn P.ok P.region_text | apply JE.callBi P.ok P.b_len boot_len | apply JE.callBi P.ok P.b_str boot_str | apply JE.join)
  | (show Op2 _ _ _ _ _ _ _ _;apply op_sm)
  | (show BI _ _ _ _ _ _ _;exact bi_str (by decide +kernel) (by decide +kernel))
  | (show CallR _ _ _ _ _ _;first | exact cp | exact hct | exact hcu) | exact b9.ok | exact hjl | exact hjo | exact hjk | (show Sm _ _;first | assumption | apply Sm.app) | (show _≤8000000;walk_at "o")
  | walk_at "mW")
 | c2 a b i j=>
  intro hr hn ht
  simp only [Ty.ht] at ht
  refine Zea (i (fun r h=>hr r (List.mem_append_left _ h)) (fun r h=>hn r (List.mem_append_left _ h)) (by walk_at "o")) fun s hs c=>?_
  refine Zea (j (fun r h=>hr r (List.mem_append_right _ h)) (fun r h=>hn r (List.mem_append_right _ h)) (by walk_at "o")) fun u hu c2=>?_
  refine Za (hmax a.ht b.ht) fun h1 h2=>?_
  have hb:=hpow (max a.ht b.ht) (by walk_at "o")
  have hs:=hs.le (Nat.mul_le_mul_left 16 h1)
  have hu:=hu.le (Nat.mul_le_mul_left 16 h2)
  have hjl:[PyData.str s,.str u]=[s,u].map .str:=rfl
  have hjo:JoinOk ", " [s,u]=true:=joinOk2 hs.len hu.len (by walk_at "o")
  have hj:Sm (16 * 4 ^ max a.ht b.ht+8+16 * 4 ^ max a.ht b.ht) (Txt.join ", " [s,u]):=(hs.app b9).app hu
  have hjk:=hj.ok
  refine ⟨"B"++("<"++Txt.join ", " [s,u]++">"),(b7.app ((b5.app hj).app a7)).le (by refine (?_:_≤16 * 4 ^ (max a.ht b.ht+1));rw [Nat.pow_succ];have:=hone (max a.ht b.ht);walk_at "o"),fun D hD=>?_⟩
  simp only [Ty.ht] at hD
  refine CallR.le (D:=D - 1+1) (P.type_text.callJ P.ok rfl ?_) (by walk_at "o")
  have hct:=c (D - 1) (by walk_at "o")
  have hcu:=c2 (D - 1) (by walk_at "o")
  have cp:=c_parts_of P (Ty.c2 a b) (σ:=σ) (D - 1) (by walk_at "o")
  repeat' (first
  | (show JE _ _ _ _ _ _ _ _;first | apply JE.callFn P.ok P.parts_of | apply JE.callFn P.ok P.type_text | apply JE.callFn P.ok P.region_text | apply JE.callBi P.ok P.b_len boot_len | apply JE.callBi P.ok P.b_str boot_str | apply JE.join)
  | (show Op2 _ _ _ _ _ _ _ _;first | apply op_sm | exact op_addl (by rfl) (by rfl) (Nat.le_of_ble_eq_true (by rfl)))
  | (show BI _ _ _ _ _ _ _;exact bi_str (by decide +kernel) (by decide +kernel))
  | (show CallR _ _ _ _ _ _;first | exact cp | exact hct | exact hcu) | exact b9.ok | exact hjl | exact hjo | exact hjk | (show Sm _ _;first | assumption | apply Sm.app) | (show _≤8000000;walk_at "o") | exact ne_nil rfl
  | walk_at "mW")
end
noncomputable def heldV (a:AdtD) (t:Ty) (vs:List (Str × List (Str × Ty))):List Ty:=vs.flatMap fun v=>(putF a t v.2).map (·.2)
noncomputable def avs (l:List Ty):List AV:=l.map fun t=>.p t.av
structure AdtOk (a:AdtD) (t:Ty):Prop where
 len:a.params.length=t.parts.length
 vars:a.variants.length≤10
 flds:∀ v∈a.variants,v.2.length≤10∧∀ f∈v.2,f.2.ht≤40∧∀ r∈f.2.regs,r=stat
structure TxtOk (t:Ty):Prop where
 regs:∀ r∈t.regs,r=none∨r=stat
 names:∀ x∈t.names,Sm 16 x
 ht:t.ht≤8
theorem nc_avs:∀ l:List Ty,ncL (avs l)=true
 | []=>rfl
 | _::l=>nc_avs l
theorem avs_bel:∀ l:List Ty,belL 0 (avs l)=true
 | []=>rfl
 | _::l=>avs_bel l
section
variable {C:Cx} {N:Fns} {D:Nat} {σ:Sto} (P:Pg C N)
include P
theorem c_held (w:Wd) (t:Ty) (a:AdtD) (ht:t.kind="adt") (ha:w.adts.lookup t.name=some a) (ok:AdtOk a t) (D:Nat) (hD:61≤D):CallR C D N.held_types [.p t.av,w.av N] [] (.ret (.lst (avs (heldV a t a.variants))) []):=by
 have h1:(w.adts.map fun p=>(p.1,p.2.av N)).lookup t.name=some (a.av N):=by rw [adts_lookup P,ha];rfl
 have L:∀ (suf pre:List (Str × List (Str × Ty))),a.variants=pre++suf→(avs (heldV a t pre)).length≤10 * pre.length →
   LoopJ C (D - 1) (scopeAt 22) (bindName1 "variant") (forBody (stAt 22 1)) ((List.range' pre.length suf.length).map fun (i:Nat)=>AV.p (.int (i:Int))) [("found",.loc 0),("world",w.av N),("told",.p t.av)] [.lst (avs (heldV a t pre))] (.next [("found",.loc 0),("world",w.av N),("told",.p t.av)] [.lst (avs (heldV a t (pre++suf)))]):=by
  intro suf
  induction suf with
  | nil=>intro pre _ _;rw [List.append_nil];exact LoopJ.nil
  | cons v suf ih=>
   intro pre hv hl
   have hmem:v∈a.variants:=by rw [hv];exact List.mem_append_right _ (List.mem_cons_self ..)
   have hlen:pre.length+(suf.length+1)≤10:=by have:=ok.vars;rw [hv,List.length_append,List.length_cons] at this;exact this
   have hk:a.variants[pre.length]?=some (v.1,v.2):=by rw [hv,List.getElem?_append_right (Nat.le_refl _),Nat.sub_self];rfl
   have e:avs (heldV a t (pre++[v]))=avs (heldV a t pre)++avs ((putF a t v.2).map (·.2)):=by
    simp only [avs,heldV,List.flatMap_append,List.map_append,List.flatMap_cons,List.flatMap_nil,List.append_nil]
   have hvl:(avs ((putF a t v.2).map (·.2))).length≤10:=by
    simp only [avs,putF,List.length_map];exact (ok.flds v hmem).1
   have ih:=ih (pre++[v]) (by rw [hv];simp) (by rw [e];simp only [List.length_append,List.length_cons,List.length_nil];walk_at "o")
   rw [List.length_append,List.append_assoc] at ih
   rw [List.length_cons,List.range'_succ,List.map_cons]
   refine .next rfl ?_ ih
   refine JS.nw (m1:=("variant",.p (.int (pre.length:Int)))::_) ?_ (weak_cons rfl weak_refl)
   rw [e]
   have cf:=c_fields_of P w t a v.1 v.2 pre.length ht ha hk (by walk_at "o") ok.len (ok.flds v hmem).2 (Nat.le_trans (ok.flds v hmem).1 (by decide)) (σ:=[.lst (avs (heldV a t pre))]) (fun o ho=>by rw [List.mem_singleton.mp ho];refine (?_:ncL (avs _)=true);exact nc_avs _) (D - 1) (by walk_at "o")
   have hF:asF (.p (flds (putF a t v.2)))=some ((putF a t v.2).map fun p=>.p (.tuple [.str p.1,p.2.av])):=congrArg some (List.map_map ..)
   have hmk:mkL ((putF a t v.2).map fun p=>.p p.2.av)=.p (.list ((putF a t v.2).map fun p=>p.2.av)):=mkL_map _ _
   have hbl:asL (.p (.list ((putF a t v.2).map fun p=>p.2.av)))=some (avs ((putF a t v.2).map (·.2))):=by
    refine (?_:some (((putF a t v.2).map fun p=>p.2.av).map AV.p)=some (((putF a t v.2).map (·.2)).map fun t=>AV.p t.av))
    rw [List.map_map,List.map_map];rfl
   have hz:(avs (heldV a t pre)).length+(avs ((putF a t v.2).map (·.2))).length≤10000:=by walk_at "o"
   have hz2:((putF a t v.2).map fun p=>AV.p p.2.av).length≤sizeLine:=by
    rw [List.length_map];simp only [avs,List.length_map] at hvl;exact Nat.le_trans hvl (by decide)
   repeat' (first
  | (show JE _ _ _ _ _ _ _ _;first | apply JE.extend | apply JE.callFn P.ok P.fields_of | apply JE.compM0v)
  | (show JM _ _ _ _ _ _ _ _ _ _ _;apply JM.names2)
  | (show CompJ0 _ _ _ _ _ _ _ _ _ _;refine CompJ0.each (g:=fun (p:Str × Ty)=>.p (.tuple [.str p.1,p.2.av])) (f:=fun p=>.p p.2.av) (l:=putF a t v.2) (fun p hp'=>⟨_,rfl,?_⟩))
  | (show CallR _ _ _ _ _ _;exact cf) | exact hF | exact hmk | exact hbl | exact hz | exact hz2
  | walk_at "mW")
 have L:=L a.variants [] rfl (Nat.zero_le _)
 have hlen:((a.variants.map fun p=>PyData.tuple [.str p.1,.str "tuple",flds p.2]).map AV.p).length=a.variants.length:=by rw [List.length_map,List.length_map]
 have hR:CallR C (D - 1+1) N.held_types [.p t.av,w.av N] [] (.ret (.loc 0) [.lst (avs (heldV a t a.variants))]):=by
  refine P.held_types.callJ P.ok rfl ?_
  have hL:LoopJ C (D - 1) (scopeAt 22) (bindName1 "variant") (forBody (stAt 22 1)) (rangeL a.variants.length) [("found",.loc 0),("world",w.av N),("told",.p t.av)] [.lst []] (.next [("found",.loc 0),("world",w.av N),("told",.p t.av)] [.lst (avs (heldV a t a.variants))]):=by
   unfold rangeL
   rw [List.range_eq_range']
   exact L
  repeat' (first
  | (show JE _ _ _ _ _ _ _ _;first | apply JE.list0 | apply JE.callBi P.ok P.b_len boot_len | apply JE.attr)
  | (show JM _ _ _ _ _ _ _ _ _ _ _;apply JM.range (n:=a.variants.length) P.ok P.b_range boot_range)
  | (show Op2 _ _ _ _ _ _ _ _;first | exact op_name (by rfl) ht | exact op_key (by rfl) (by rfl) h1)
  | (show J1 _ _ _ _ _ _ _;apply J1.forM)
  | (show LoopJ _ _ _ _ _ _ _ _ _;exact hL)
  | (show BI _ _ _ _ _ _ _;exact bi_len (by rfl) (by rw [hlen];exact Nat.le_trans ok.vars (by decide))) | exact congrArg _ hlen | exact Nat.lt_of_le_of_lt ok.vars (by decide) | (show Op1 _ _ _ _ _ _ _;first | exact op_attr P.ok (by rfl) (P.a_world _ (by decide +kernel)) (by rfl) | exact op_attr P.ok (by rfl) (P.a_adt _ (by decide +kernel)) (by rfl))
  | walk_at "mW")
 have:=hR.freeze (n:=0) (Nat.le_refl _) (fun o ho=>by simp at ho) (v':=.lst (avs (heldV a t a.variants))) (.llst (Nat.zero_le _) rfl (FzL.same (avs_bel _)))
 exact CallR.le this (by walk_at "o")
end
noncomputable def boundsOf (r:Row):Bds:=r.params.reverse
theorem putAll_bdv:∀ (l:Bds) (acc:Bds),putAll (l.map fun p=>(p.1,strL p.2)) (bdv acc)=bdv (l.reverse++acc)
 | [],acc=>rfl
 | (k,t)::l,acc=>by
  refine (?_:putAll (l.map fun p=>(p.1,strL p.2)) (bdv ((k,t)::acc))=_)
  rw [putAll_bdv l,List.reverse_cons,List.append_assoc];rfl
noncomputable def adtOf (w:Wd) (t:Ty):AdtD:=(w.adts.lookup t.name).getD ⟨"",[],[],false⟩
noncomputable def heldOf (w:Wd) (t:Ty):List Ty:=heldV (adtOf w t) t (adtOf w t).variants
noncomputable def badF (w:Wd) (n:Nat) (r:Row):Bool:=
 if r.self.kind="int"∨r.self.kind="bool" then false
 else if r.self.kind="adt" then hdF w.rows r.self||(heldOf w r.self).any fun p=>!cpF w.rows (boundsOf r) n p
 else true
structure WdOk (w:Wd) (n:Nat):Prop where
 rows:∀ r∈w.rows,RowOk r
 txt:∀ r∈w.rows,TxtOk r.self
 adt:∀ r∈w.rows,r.self.kind="adt"→∃ a,w.adts.lookup r.self.name=some a∧AdtOk a r.self
 held:∀ r∈w.rows,r.self.kind="adt"→∀ p∈heldOf w r.self,TxtOk p∧p.ht < n
 rlen:∀ r∈w.rows,r.params.length≤10
section
variable {C:Cx} {N:Fns} {D:Nat} {σ:Sto} (P:Pg C N)
theorem bi_dictB (ok:C.Ok) {l:Bds} (hz:l.length≤sizeLine):BI C D (.type "dict") [.p (prs l)] σ (.dct (bdv l.reverse)) σ:=by
 have e:putAll (l.map fun p=>(p.1,strL p.2)) []=bdv l.reverse:=by
  have:=putAll_bdv l []
  rw [List.append_nil] at this
  exact this
 have h:=bi_dict' (C:=C) (D:=D) (σ:=σ) ok (l:=l.map fun p=>(p.1,strL p.2)) (a:=l.map fun p=>.tuple [.str p.1,strL p.2]) (by rw [List.map_map];rfl) (by rw [List.length_map];exact hz)
 rw [e] at h
 exact h
include P
theorem c_fault (s:Str) (D:Nat) (hD:3≤D):CallV C D (.val (.ref N.TraitFault)) [.p (.str s)] [] (.ret (.loc 0) [.exc N.TraitFault (some 1),.att [("message",.p (.str s)),("spot",.p (.int 0))]]):=by
 refine Zea P.initE fun dv hdv F=>?_
 have hS:JS C (D - 2) (fnScope (clsAt 2 0)) ((["self","message","spot"]:List Str).zip ([.loc 0,.p (.str s)]++[.p (.int 0)])).reverse [.exc N.TraitFault none] (fnBody (clsAt 2 0)) (.next [("spot",.p (.int 0)),("message",.p (.str s)),("self",.loc 0)] [.exc N.TraitFault (some 1),.att [("message",.p (.str s)),("spot",.p (.int 0))]]):=by
  repeat' (first
  | (show JE _ _ _ _ _ _ _ _;apply JE.excInit P.ok P.tf P.b_exc (by kernel_rfl))
  | (show J1 _ _ _ _ _ _ _;first | apply J1.setExc0 (name:="message") P.ok | apply J1.setExc (name:="spot") P.ok) | exact P.b_init | exact P.tf_set _ (by decide +kernel) | exact Nat.lt_of_le_of_lt (Nat.le_refl 1) (by decide)
  | walk_at "mW")
 have h:=(F.callK P.ok (vs:=[.loc 0,.p (.str s)]) (by rw [hdv];rfl) hS.h).toR
 exact CallV.le (P.tf.call P.ok (σ:=[]) h) (by walk_at "o")
theorem look_part (w:Wd) (n:Nat) (hw:WdOk w n) (r:Row) (hr:r∈w.rows) (p:Ty) (hp:TxtOk p∧p.ht < n) (D:Nat) (hD:100≤D) :
  JS C D (scopeAt 23) [(("part":Str),.p p.av),("told",.p r.self.av),("bounds",.dct (bdv (boundsOf r))),("world",w.av N),("row",r.av N)] [] (forBody (stAt 23 4)) (if (!cpF w.rows (boundsOf r) n p)=true then .exc N.TraitFault [] else .next [("told",.p r.self.av),("bounds",.dct (bdv (boundsOf r))),("world",w.av N),("row",r.av N)] []):=by
 have hb:belD 0 [(("told":Str),.p r.self.av),("bounds",.dct (bdv (boundsOf r))),("world",w.av N),("row",r.av N)]=true:=belD_cons rfl (belD_cons (bdv_bel _) (belD_cons (Wd.bel N w) rfl))
 have ci:=c_is_copy P w (boundsOf r) hw.rows n p hp.2 (Nat.le_trans hp.1.ht (by decide)) D (by have:=hp.1.ht;walk_at "o")
 cases hc:cpF w.rows (boundsOf r) n p with
 | true=>
  rw [hc] at ci
  refine JS.back0 (σ1:=[]) (m1:=("part",.p p.av)::_) ?_ hb (weak_cons rfl weak_refl)
  repeat' (first
  | (show JE _ _ _ _ _ _ _ _;apply JE.callFn P.ok P.is_copy)
  | (show CallR _ _ _ _ _ _;exact ci)
  | walk_at "mW")
 | false=>
  rw [hc] at ci
  have ht:=hw.txt r hr
  refine Zea (c_type_text P (σ:=[]) r.self ht.regs ht.names ht.ht) fun s hs ct=>?_
  refine Zea (c_type_text P (σ:=[]) p hp.1.regs hp.1.names hp.1.ht) fun s2 hs2 ct2=>?_
  have ct:=ct D (by have:=ht.ht;walk_at "o")
  have ct2:=ct2 D (by have:=hp.1.ht;walk_at "o")
  have hpow:∀ n:Nat,n≤8→16 * 4 ^ n≤1048576:=fun n h=>Nat.mul_le_mul_left 16 (Nat.pow_le_pow_right (n:=4) (by decide) h)
  have hs:=hs.le (hpow _ ht.ht)
  have hs2:=hs2.le (hpow _ hp.1.ht)
  have l1:Sm 100 (" holds what is not Copy: ":Str):=⟨by decide +kernel,by decide +kernel⟩
  have o1:Op2 C D (binaryOp .Add) (.p (.str s)) (.p (.str " holds what is not Copy: ")) [] (.p (.str (s++(" holds what is not Copy: ":Str)))) []:=op_sm hs l1 (by decide)
  have o2:Op2 C D (binaryOp .Add) (.p (.str (s++(" holds what is not Copy: ":Str)))) (.p (.str s2)) [] (.p (.str (s++(" holds what is not Copy: ":Str)++s2))) []:=op_sm (hs.app l1) hs2 (by decide)
  repeat' (first
  | (show JE _ _ _ _ _ _ _ _;first | apply JE.callFn P.ok P.is_copy | apply JE.callCls P.ok P.tf.name P.tf.keep | apply JE.callFn P.ok P.type_text)
  | (show Op2 _ _ _ _ _ _ _ _;first | with_reducible exact o1 | with_reducible exact o2)
  | (show J1 _ _ _ _ _ _ _;apply J1.raise (n:=0) P.ok P.tf)
  | (show CallR _ _ _ _ _ _;first | exact ci | with_reducible exact ct | with_reducible exact ct2) | exact c_fault P _ _ (by walk_at "o") | exact fun _ h=>(List.not_mem_nil h).elim
  | walk_at "mW")
theorem c_look (w:Wd) (n:Nat) (hw:WdOk w n) (r:Row) (hr:r∈w.rows) (D:Nat) (hD:120≤D):CallR C D N.look_copy [r.av N,w.av N] [] (if badF w n r=true then .exc N.TraitFault [] else .ret (.p .none) []):=by
 refine CallR.le (D:=D - 1+1) ?_ (by walk_at "o")
 have hlr:r.params.length≤sizeLine:=Nat.le_trans (hw.rlen r hr) (by decide)
 have ht:=hw.txt r hr
 refine Zea (c_type_text P (σ:=[]) r.self ht.regs ht.names ht.ht) fun s hs ct=>?_
 have ct:=ct (D - 1) (by have:=ht.ht;walk_at "o")
 have hpow:∀ n:Nat,n≤8→16 * 4 ^ n≤1048576:=fun n h=>Nat.mul_le_mul_left 16 (Nat.pow_le_pow_right (n:=4) (by decide) h)
 have hs:=hs.le (hpow _ ht.ht)
 unfold badF
 by_cases h1:r.self.kind="int"∨r.self.kind="bool"
 ·rw [if_pos h1]
  refine P.look_copy.callJ P.ok rfl ?_
  rcases h1 with hk | hk
  all_goals (repeat' (first
  | (show JE _ _ _ _ _ _ _ _;first | apply JE.callBi P.ok P.b_dict boot_dict | apply JE.attr)
  | (show Op2 _ _ _ _ _ _ _ _;exact op_kindS (by rfl) hk)
  | (show J1 _ _ _ _ _ _ _;apply J1.assign2)
  | (show BI _ _ _ _ _ _ _;exact bi_dictB P.ok hlr) | (show Op1 _ _ _ _ _ _ _;exact op_attr P.ok (by rfl) (P.a_row _ (by decide +kernel)) (by rfl))
  | walk_at "mW"))
 ·rw [if_neg h1]
  have hin:cmpV .In (.p (.str r.self.kind)) (.p (.tuple [.str "int",.str "bool"])) []=some false:=kIn (bne_of fun q=>h1 (.inl q.symm)) (bne_of fun q=>h1 (.inr q.symm))
  by_cases h2:r.self.kind="adt"
  ·rw [if_pos h2]
   refine Zea (hw.adt r hr h2) fun a ha hok=>?_
   have cd:=c_has_drop P w r.self hw.rows (Nat.le_trans ht.ht (by decide)) (D - 1) (by walk_at "o")
   have hAdt:cmpV .NotEq (.p (.str r.self.kind)) (.p (.str "adt")) []=some false:=op_ne (b:=true) (by simp [PyData.depth]) (by refine (?_:(r.self.kind == ("adt":Str))=true);rw [h2];rfl) rfl
   cases hd:hdF w.rows r.self with
   | true=>
    rw [hd] at cd
    have l1:Sm 100 ("what is dropped by itself is not Copy: ":Str):=⟨by decide +kernel,by decide +kernel⟩
    have o1:Op2 C (D - 1) (binaryOp .Add) (.p (.str "what is dropped by itself is not Copy: ")) (.p (.str s)) [] (.p (.str (("what is dropped by itself is not Copy: ":Str)++s))) []:=op_sm l1 hs (by decide)
    refine P.look_copy.callJ P.ok rfl ?_
    repeat' (first
  | (show JE _ _ _ _ _ _ _ _;first | apply JE.callFn P.ok P.has_drop | apply JE.callBi P.ok P.b_dict boot_dict | apply JE.attr | apply JE.callCls P.ok P.tf.name P.tf.keep | apply JE.callFn P.ok P.type_text)
  | (show Op2 _ _ _ _ _ _ _ _;first | exact op_kind (by rfl) _ | with_reducible exact o1)
  | (show J1 _ _ _ _ _ _ _;first | apply J1.assign2 | apply J1.raise (n:=0) P.ok P.tf)
  | (show BI _ _ _ _ _ _ _;exact bi_dictB P.ok hlr)
  | (show CallR _ _ _ _ _ _;first | exact cd | with_reducible exact ct) | exact hin | exact hAdt | exact c_fault P _ _ (by walk_at "o") | exact fun _ h=>(List.not_mem_nil h).elim | (show Op1 _ _ _ _ _ _ _;exact op_attr P.ok (by rfl) (P.a_row _ (by decide +kernel)) (by rfl))
  | walk_at "mW")
   | false=>
    rw [hd] at cd
    have ch:=c_held P w r.self a h2 ha hok (D - 1) (by walk_at "o")
    have hadt:adtOf w r.self=a:=by unfold adtOf;rw [ha];rfl
    have L:=LoopJ.untilX (C:=C) (D:=D - 1) (sc:=scopeAt 23) (bt:=bindName1 "part") (body:=forBody (stAt 23 4)) (m:=[("told",.p r.self.av),("bounds",.dct (bdv (boundsOf r))),("world",w.av N),("row",r.av N)]) (σ:=[]) (c:=N.TraitFault) (g:=fun p=>.p p.av) (f:=fun p=>!cpF w.rows (boundsOf r) n p) (l:=heldOf w r.self) (fun p hp=>⟨_,rfl,look_part P w n hw r hr p (hw.held r hr h2 p hp) _ (by walk_at "o")⟩)
    have hH:heldV a r.self a.variants=heldOf w r.self:=by unfold heldOf;rw [hadt]
    rw [hH] at ch
    rw [Bool.false_or]
    cases hA:(heldOf w r.self).any fun p=>!cpF w.rows (boundsOf r) n p<;>rw [hA] at L<;>simp only [Bool.false_eq_true,if_false,if_true] at L
    ·refine CallR.nn (m:=[("told",.p r.self.av),("bounds",.dct (bdv (boundsOf r))),("world",w.av N),("row",r.av N)]) (P.look_copy.callJ P.ok rfl ?_)
     repeat' (first
  | (show JE _ _ _ _ _ _ _ _;first | apply JE.callFn P.ok P.has_drop | apply JE.callFn P.ok P.held_types | apply JE.callBi P.ok P.b_dict boot_dict | apply JE.attr)
  | (show Op2 _ _ _ _ _ _ _ _;exact op_kind (by rfl) _)
  | (show J1 _ _ _ _ _ _ _;first | apply J1.forM | apply J1.assign2)
  | (show LoopJ _ _ _ _ _ _ _ _ _;exact L)
  | (show BI _ _ _ _ _ _ _;exact bi_dictB P.ok hlr)
  | (show CallR _ _ _ _ _ _;first | exact cd | exact ch) | exact hin | exact hAdt | (show Op1 _ _ _ _ _ _ _;exact op_attr P.ok (by rfl) (P.a_row _ (by decide +kernel)) (by rfl))
  | walk_at "mW")
    ·refine P.look_copy.callJ P.ok rfl ?_
     repeat' (first
  | (show JE _ _ _ _ _ _ _ _;first | apply JE.callFn P.ok P.has_drop | apply JE.callFn P.ok P.held_types | apply JE.callBi P.ok P.b_dict boot_dict | apply JE.attr)
  | (show Op2 _ _ _ _ _ _ _ _;exact op_kind (by rfl) _)
  | (show J1 _ _ _ _ _ _ _;first | apply J1.forM | apply J1.assign2)
  | (show LoopJ _ _ _ _ _ _ _ _ _;exact L)
  | (show BI _ _ _ _ _ _ _;exact bi_dictB P.ok hlr)
  | (show CallR _ _ _ _ _ _;first | exact cd | exact ch) | exact hin | exact hAdt | (show Op1 _ _ _ _ _ _ _;exact op_attr P.ok (by rfl) (P.a_row _ (by decide +kernel)) (by rfl))
  | walk_at "mW")
  ·rw [if_neg h2]
   have hAdt:cmpV .NotEq (.p (.str r.self.kind)) (.p (.str "adt")) []=some true:=op_ne (b:=false) (by simp [PyData.depth]) (bne_of h2) rfl
   have l1:Sm 100 ("Copy is told of structs and enums alone, not of ":Str):=⟨by decide +kernel,by decide +kernel⟩
   have o1:Op2 C (D - 1) (binaryOp .Add) (.p (.str "Copy is told of structs and enums alone, not of ")) (.p (.str s)) [] (.p (.str (("Copy is told of structs and enums alone, not of ":Str)++s))) []:=op_sm l1 hs (by decide)
   refine P.look_copy.callJ P.ok rfl ?_
   repeat' (first
  | (show JE _ _ _ _ _ _ _ _;first | apply JE.callBi P.ok P.b_dict boot_dict | apply JE.attr | apply JE.callCls P.ok P.tf.name P.tf.keep | apply JE.callFn P.ok P.type_text)
  | (show Op2 _ _ _ _ _ _ _ _;first | exact op_kind (by rfl) _ | with_reducible exact o1)
  | (show J1 _ _ _ _ _ _ _;first | apply J1.assign2 | apply J1.raise (n:=0) P.ok P.tf)
  | (show BI _ _ _ _ _ _ _;exact bi_dictB P.ok hlr)
  | (show CallR _ _ _ _ _ _;with_reducible exact ct) | exact hin | exact hAdt | exact c_fault P _ _ (by walk_at "o") | exact fun _ h=>(List.not_mem_nil h).elim | (show Op1 _ _ _ _ _ _ _;exact op_attr P.ok (by rfl) (P.a_row _ (by decide +kernel)) (by rfl))
  | walk_at "mW")
theorem c_check (w:Wd) (n:Nat) (hw:WdOk w n) (D:Nat) (hD:121≤D):CallR C D N.check_copies [w.av N] [] (if (w.rows.any fun r=>isC r.trait&&badF w n r)=true then .exc N.TraitFault [] else .ret (.p .none) []):=by
 refine CallR.le (D:=D - 1+1) ?_ (by walk_at "o")
 have hb:belD 0 [(("world":Str),w.av N)]=true:=belD_cons (Wd.bel N w) rfl
 have L:=LoopJ.untilX (C:=C) (D:=D - 1) (sc:=scopeAt 24) (bt:=bindName1 "row") (body:=forBody (stAt 24 0)) (m:=[("world",w.av N)]) (σ:=[]) (c:=N.TraitFault) (g:=Row.av N) (f:=fun r=>isC r.trait&&badF w n r) (l:=w.rows) (fun r hr=>⟨_,rfl,by
  have hC:cmpV .Eq (.p (.str r.trait)) (.p (.str "Copy")) []=some (isC r.trait):=cmp_str rfl rfl
  have cl:=c_look P w n hw r hr (D - 1) (by walk_at "o")
  cases hc:isC r.trait with
  | false=>
   rw [hc] at hC
   refine JS.back0 (σ1:=[]) (m1:=("row",r.av N)::_) ?_ hb (weak_cons rfl weak_refl)
   repeat' (first
  | (show JE _ _ _ _ _ _ _ _;first | exact JE.gstr P.ok P.copy (by decide +kernel) (by rfl) (by rfl) | apply JE.attr) | exact hC | (show Op1 _ _ _ _ _ _ _;exact op_attr P.ok (by rfl) (P.a_row _ (by decide +kernel)) (by rfl))
  | walk_at "mW")
  | true=>
   rw [hc] at hC
   cases hd:badF w n r with
   | false=>
    rw [hd] at cl
    refine JS.back0 (σ1:=[]) (m1:=("row",r.av N)::_) ?_ hb (weak_cons rfl weak_refl)
    repeat' (first
  | (show JE _ _ _ _ _ _ _ _;first | exact JE.gstr P.ok P.copy (by decide +kernel) (by rfl) (by rfl) | apply JE.callFn P.ok P.look_copy | apply JE.attr)
  | (show CallR _ _ _ _ _ _;exact cl) | exact hC | (show Op1 _ _ _ _ _ _ _;exact op_attr P.ok (by rfl) (P.a_row _ (by decide +kernel)) (by rfl))
  | walk_at "mW")
   | true=>
    rw [hd] at cl
    repeat' (first
  | (show JE _ _ _ _ _ _ _ _;first | exact JE.gstr P.ok P.copy (by decide +kernel) (by rfl) (by rfl) | apply JE.attr)
  | (show J1 _ _ _ _ _ _ _;apply J1.callX P.ok P.look_copy)
  | (show CallR _ _ _ _ _ _;exact cl) | exact hC | (show Op1 _ _ _ _ _ _ _;exact op_attr P.ok (by rfl) (P.a_row _ (by decide +kernel)) (by rfl))
  | walk_at "mW")⟩)
 cases hA:w.rows.any fun r=>isC r.trait&&badF w n r<;>rw [hA] at L<;>simp only [Bool.false_eq_true,if_false,if_true] at L ⊢
 ·refine CallR.nn (m:=[("world",w.av N)]) (P.check_copies.callJ P.ok rfl ?_)
  repeat' (first
  | (show JE _ _ _ _ _ _ _ _;apply JE.attr)
  | (show J1 _ _ _ _ _ _ _;apply J1.forM)
  | (show LoopJ _ _ _ _ _ _ _ _ _;exact L) | (show Op1 _ _ _ _ _ _ _;exact op_attr P.ok (by rfl) (P.a_world _ (by decide +kernel)) (by rfl))
  | walk_at "mW")
 ·refine P.check_copies.callJ P.ok rfl ?_
  repeat' (first
  | (show JE _ _ _ _ _ _ _ _;apply JE.attr)
  | (show J1 _ _ _ _ _ _ _;apply J1.forM)
  | (show LoopJ _ _ _ _ _ _ _ _ _;exact L) | (show Op1 _ _ _ _ _ _ _;exact op_attr P.ok (by rfl) (P.a_world _ (by decide +kernel)) (by rfl))
  | walk_at "mW")
end
namespace Ty
noncomputable def sh:Ty→PyData
 | ref _ m _=>.tuple [.str "ref",.bool m]
 | box _=>.tuple [.str "box",.int 1,.int 0]
 | arr _=>.tuple [.str "array",.int 1,.int 2]
 | tup _ _=>.tuple [.str "tuple",.int 2,.int 0]
 | c1 _=>.tuple [.str "adt",.int 1,.str "A"]
 | c2 _ _=>.tuple [.str "adt",.int 2,.str "B"]
 | num=>av num
 | bool=>av bool
 | par n=>av (par n)
 | c0=>av c0
noncomputable def pl:Ty→PyData
 | ref r m t=>.list [sh (ref r m t),t.pl]
 | box t=>.list [sh (box t),t.pl]
 | arr t=>.list [sh (arr t),t.pl]
 | tup a b=>.list [sh (tup a b),a.pl,b.pl]
 | c1 t=>.list [sh (c1 t),t.pl]
 | c2 a b=>.list [sh (c2 a b),a.pl,b.pl]
 | num=>.list [sh num]
 | bool=>.list [sh bool]
 | par n=>.list [sh (par n)]
 | c0=>.list [sh c0]
end Ty
section
variable {C:Cx} {N:Fns} {D:Nat} {σ:Sto} (P:Pg C N)
include P
theorem c_law_parts (t:Ty):∀ D,1≤D→CallR C D N.law_parts [.p t.av] σ (.ret (.p (.list (t.parts.map Ty.av))) σ):=fun D hD=>by
 refine CallR.le (D:=D - 1+1) (P.law_parts.callJ P.ok rfl ?_) (by walk_at "o")
 cases t
 all_goals (repeat' (first
  | (show JE _ _ _ _ _ _ _ _;apply JE.callBi P.ok P.b_list boot_list)
  | walk_at "mW"))
theorem c_law_shape (t:Ty):∀ D,2≤D→CallR C D N.law_shape [.p t.av] σ (.ret (.p t.sh) σ):=fun D hD=>by
 refine CallR.le (D:=D - 1+1) (P.law_shape.callJ P.ok rfl ?_) (by walk_at "o")
 have cp:=c_law_parts P t (σ:=σ) (D - 1) (by walk_at "o")
 cases t
 all_goals (repeat' (first
  | (show JE _ _ _ _ _ _ _ _;first | apply JE.callFn P.ok P.law_parts | apply JE.callBi P.ok P.b_len boot_len)
  | (show CallR _ _ _ _ _ _;exact cp) | exact eq_nil rfl
  | walk_at "mW"))
end
section
variable {C:Cx} {N:Fns} {D:Nat} {σ:Sto} {sc:Scope} {m:Mp} (P:Pg C N)
theorem JE.tupFrom {σ' σ'':Sto} {x lo:Expr} {p pos:Pos} {l:List PyData} {a:Nat} {i:Int} (h1:JE C D sc m σ x (.p (.tuple l)) σ') (h2:JE C D sc m σ' lo (.p (.int i)) σ'') (hi:i=(a:Int)) (h0:1≤a) (ha:a≤l.length) (hl:l.length≤sizeLine) (hx:∀ o r,letTemporaryGo x o r=pure ()) :
  JE C D sc m σ (.Subscript x (.Slice (some lo) none none p) pos) (.p (.tuple (l.drop a))) σ'':=by subst hi;exact ⟨EvE.tupFrom h1.h h2.h h0 ha hl hx⟩
include P
theorem c_law_plain (t:Ty):∀ D,3+t.ht≤D→CallR C D N.law_plain [.p t.av] σ (.ret (.p t.pl) σ):=by
 induction t using Ty.byParts with
 | h t ih=>
  intro D hD
  refine CallR.le (D:=D - 1+1) (P.law_plain.callJ P.ok rfl ?_) (by walk_at "o")
  have cp:=c_law_parts P t (σ:=σ) (D - 1) (by walk_at "o")
  have cs:=c_law_shape P t (σ:=σ) (D - 1) (by walk_at "o")
  cases t
  all_goals simp only [Ty.ht] at hD
  all_goals (repeat' (first
  | (show JE _ _ _ _ _ _ _ _;first | apply JE.callFn P.ok P.law_parts | apply JE.callFn P.ok P.law_shape | apply JE.callFn P.ok P.law_plain)
  | (show Op2 _ _ _ _ _ _ _ _;exact op_addl (by rfl) (by rfl) (Nat.le_of_ble_eq_true (by rfl)))
  | (show CallR _ _ _ _ _ _;first | exact cp | exact cs | exact ih _ (by simp [Ty.parts]) _ (by walk_at "o"))
  | walk_at "mW"))
theorem c_law_put (tb:Tab) (ta:AV) (hta:asD σ ta=some (tbl tb)) (t:Ty) (hreg:∀ r∈t.regs,r=stat):∀ D,3+t.ht≤D→CallR C D N.law_put [.p t.av,ta] σ (.ret (.p (t.subst (fun n=>tb.lookup n)).av) σ):=by
 revert hreg
 induction t using Ty.byParts with
 | h t ih=>
  intro hreg D hD
  refine CallR.le (D:=D - 1+1) (P.law_put.callJ P.ok rfl ?_) (by walk_at "o")
  have cp:=c_law_parts P t (σ:=σ) (D - 1) (by walk_at "o")
  have hv:∀ n,((tbl tb).lookup n).getD (.p (Ty.par n).av)=.p ((Ty.par n).subst (fun n=>tb.lookup n)).av:=fun n=>by
   rw [tbl_lookup];simp only [Ty.subst];cases tb.lookup n<;>rfl
  have ih:=fun s hs=>ih s hs fun r hr=>hreg r (Ty.regs_parts hs hr)
  cases t
  all_goals simp only [Ty.ht] at hD
  all_goals (repeat' (first
  | (show JE _ _ _ _ _ _ _ _;first | apply JE.get' | apply JE.callFn P.ok P.law_parts | apply JE.callFn P.ok P.law_put | apply JE.tupFrom | apply JE.callBi P.ok P.b_tuple boot_tuple)
  | (show Op2 _ _ _ _ _ _ _ _;exact op_addt (Nat.le_of_ble_eq_true (by rfl)))
  | (show CallR _ _ _ _ _ _;first | exact cp | exact ih _ (by simp [Ty.parts]) _ (by walk_at "o")) | exact hta | exact hv _
  | walk_at "mW"))
end
namespace Ty
theorem sh_depth (t:Ty):t.sh.depth≤2:=by cases t<;>exact Nat.le_of_ble_eq_true rfl
theorem pl_depth (t:Ty):t.pl.depth≤t.ht+3:=by
 have s:∀ t:Ty,∀ k,t.sh.depth≤k+3:=fun t k=>Nat.le_trans t.sh_depth (Nat.le_trans (Nat.le_succ 2) (Nat.le_add_left ..))
 have mx:∀ {a b c:Nat},a≤c→b≤c→max a b≤c:=fun h1 h2=>Nat.max_le.mpr ⟨h1,h2⟩
 have one:∀ {a b k:Nat},a≤k+3→b≤k+3→max a (max b 0)+1≤k+1+3:=fun {a b k} h1 h2=>by
  rw [Nat.succ_add];exact Nat.succ_le_succ (mx h1 (mx h2 (Nat.zero_le _)))
 have up:∀ {a k l:Nat},a≤k+3→k≤l→a≤l+3:=fun h e=>Nat.le_trans h (Nat.add_le_add_right e 3)
 have two:∀ {a b c k l:Nat},a≤max k l+3→b≤k+3→c≤l+3→max a (max b (max c 0))+1≤max k l+1+3:=fun {a b c k l} h1 h2 h3=>by
  rw [Nat.succ_add];exact Nat.succ_le_succ (mx h1 (mx (up h2 (Nat.le_max_left ..)) (mx (up h3 (Nat.le_max_right ..)) (Nat.zero_le _))))
 induction t with
 | num=>exact Nat.le_of_ble_eq_true rfl
 | bool=>exact Nat.le_of_ble_eq_true rfl
 | par n=>exact Nat.le_of_ble_eq_true rfl
 | c0=>exact Nat.le_of_ble_eq_true rfl
 | ref r m t ih=>exact one (s _ _) ih
 | box t ih=>exact one (s _ _) ih
 | arr t ih=>exact one (s _ _) ih
 | c1 t ih=>exact one (s _ _) ih
 | tup a b i j=>exact two (s _ _) i j
 | c2 a b i j=>exact two (s _ _) i j
theorem sh_eqv (p t:Ty) (hp:p.kind≠"param"):p.sh.eqv t.sh=hEq p t:=by
 cases p with
 | par n=>exact absurd rfl hp
 | ref r m a=>
  cases t with
  | ref r' m' a'=>refine (?_:(true&&((m == m')&&true))=(true&&(true&&(m == m'))));simp
  | _=>rfl
 | _=>cases t<;>rfl
theorem pl_eqv (t:Ty):∀ s:Ty,t.pl.eqv s.pl=decide (t.erase=s.erase):=by
 induction t with
 | num=>intro s;cases s<;>rfl
 | bool=>intro s;cases s<;>rfl
 | c0=>intro s;cases s<;>rfl
 | par n=>
  intro s;cases s<;>first | rfl | skip
  rename_i k
  refine (?_:((true&&((n == k)&&true))&&true)=decide (par n=par k))
  rw [Bool.eq_iff_iff];simp
 | ref r m t ih=>
  intro s;cases s<;>first | rfl | skip
  rename_i r' m' t'
  refine (?_:((true&&((m == m')&&true))&&(t.pl.eqv t'.pl&&true))=decide (ref none m t.erase=ref none m' t'.erase))
  rw [ih,Bool.eq_iff_iff];simp
 | box t ih=>
  intro s;cases s<;>first | rfl | skip
  rename_i t'
  refine (?_:(true&&(t.pl.eqv t'.pl&&true))=decide (box t.erase=box t'.erase))
  rw [ih,Bool.eq_iff_iff];simp
 | arr t ih=>
  intro s;cases s<;>first | rfl | skip
  rename_i t'
  refine (?_:(true&&(t.pl.eqv t'.pl&&true))=decide (arr t.erase=arr t'.erase))
  rw [ih,Bool.eq_iff_iff];simp
 | c1 t ih=>
  intro s;cases s<;>first | rfl | skip
  rename_i t'
  refine (?_:(true&&(t.pl.eqv t'.pl&&true))=decide (c1 t.erase=c1 t'.erase))
  rw [ih,Bool.eq_iff_iff];simp
 | tup a b i j=>
  intro s;cases s<;>first | rfl | skip
  rename_i a' b'
  refine (?_:(true&&(a.pl.eqv a'.pl&&(b.pl.eqv b'.pl&&true)))=decide (tup a.erase b.erase=tup a'.erase b'.erase))
  rw [i,j,Bool.eq_iff_iff];simp
 | c2 a b i j=>
  intro s;cases s<;>first | rfl | skip
  rename_i a' b'
  refine (?_:(true&&(a.pl.eqv a'.pl&&(b.pl.eqv b'.pl&&true)))=decide (c2 a.erase b.erase=c2 a'.erase b'.erase))
  rw [i,j,Bool.eq_iff_iff];simp
noncomputable def ftF:List (Ty→Tab→Bool × Tab)→List Ty→Tab→Bool × Tab
 | p::ps,t::ts,tb=>((p t tb).1&&(ftF ps ts (p t tb).2).1,(ftF ps ts (p t tb).2).2)
 | _,_,tb=>(true,tb)
noncomputable def ft:Ty→Ty→Tab→Bool × Tab:=fold (fun n t tb=>match tb.lookup n with
  | some u=>(decide (u.erase=t.erase),tb)
  | none=>(true,(n,t)::tb)) fun p fs t tb=>bif hEq p t then ftF fs t.parts tb else (false,tb)
noncomputable def ftL (ps ts:List Ty) (tb:Tab):Bool × Tab:=ftF (ps.map ft) ts tb
theorem ftL_cons {p t:Ty} {ps ts:List Ty} {tb:Tab}:ftL (p::ps) (t::ts) tb=((p.ft t tb).1&&(ftL ps ts (p.ft t tb).2).1,(ftL ps ts (p.ft t tb).2).2):=rfl
theorem ft_par (n:Str) (t:Ty) (tb:Tab):(par n).ft t tb=match tb.lookup n with
  | some u=>(decide (u.erase=t.erase),tb)
  | none=>(true,(n,t)::tb):=rfl
theorem ft_hd {p t:Ty} {tb:Tab} (hp:p.kind≠"param"):p.ft t tb=bif hEq p t then ftL p.parts t.parts tb else (false,tb):=congrFun (congrFun (show p.ft=_ from fold_parts hp) t) tb
theorem fhead_eq (p t:Ty) (tb:Tab) (h:p.kind=t.kind) (hp:p.kind≠"param") (hn:p.name=t.name) (hm:p.isMut=t.isMut):p.ft t tb=ftL p.parts t.parts tb:=by
 rw [ft_hd hp,hEq_iff.mpr ⟨h,hn,hm⟩];rfl
theorem fhead_false {p t:Ty} (tb:Tab) (hp:p.kind≠"param") (h:hEq p t=false):p.ft t tb=(false,tb):=by
 rw [ft_hd hp,h];rfl
theorem ftL_len {ps:List Ty} (ih:∀ a∈ps,∀ (t:Ty) tb,(a.ft t tb).2.length≤tb.length+a.size):∀ (ts:List Ty) (tb:Tab),(ftL ps ts tb).2.length≤tb.length+sizes ps:=by
 induction ps with
 | nil=>intro ts tb;exact Nat.le_add_right ..
 | cons p ps ihl=>
  intro ts tb
  cases ts with
  | nil=>exact Nat.le_add_right ..
  | cons t ts=>
   have h1:=ih p (List.mem_cons_self ..) t tb
   have h2:=ihl (fun a ha=>ih a (List.mem_cons_of_mem _ ha)) ts (p.ft t tb).2
   refine (?_:_≤tb.length+(p.size+sizes ps))
   rw [← Nat.add_assoc]
   exact Nat.le_trans h2 (Nat.add_le_add_right h1 _)
theorem ft_len (p:Ty):∀ (t:Ty) (tb:Tab),(p.ft t tb).2.length≤tb.length+p.size:=by
 induction p using byParts with
 | h p ih=>
  intro t tb
  by_cases hp:p.kind="param"
  ·cases p<;>first | (exfalso;revert hp;simp only [kind];decide +kernel) | skip
   rename_i n
   rw [ft_par]
   cases tb.lookup n with
   | none=>exact Nat.le_refl _
   | some u=>exact Nat.le_add_right ..
  ·cases hh:hEq p t with
   | false=>rw [fhead_false tb hp hh];exact Nat.le_add_right ..
   | true=>
    refine Zaa (hEq_iff.mp hh) fun h1 h2 h3=>?_
    rw [fhead_eq p t tb h1 hp h2 h3,← size_parts p hp]
    exact ftL_len ih t.parts tb
theorem ftL_hts {ps:List Ty} (k:Nat) (ih:∀ a∈ps,∀ (t:Ty) tb,t.ht≤k→(∀ x u,List.lookup x tb=some u→u.ht≤k)→∀ x u,(a.ft t tb).2.lookup x=some u→u.ht≤k):∀ (ts:List Ty) (tb:Tab),(∀ t∈ts,t.ht≤k)→(∀ x u,tb.lookup x=some u→u.ht≤k)→∀ x u,(ftL ps ts tb).2.lookup x=some u→u.ht≤k:=by
 induction ps with
 | nil=>intro ts tb _ h;exact h
 | cons p ps ihl=>
  intro ts tb h1 h2
  cases ts with
  | nil=>exact h2
  | cons t ts=>exact ihl (fun a ha=>ih a (List.mem_cons_of_mem _ ha)) ts _ (fun s hs=>h1 s (List.mem_cons_of_mem _ hs)) (ih p (List.mem_cons_self ..) t tb (h1 t (List.mem_cons_self ..)) h2)
theorem ft_hts (p:Ty):∀ (t:Ty) (tb:Tab) (k:Nat),t.ht≤k→(∀ x u,tb.lookup x=some u→u.ht≤k)→∀ x u,(p.ft t tb).2.lookup x=some u→u.ht≤k:=by
 induction p using byParts with
 | h p ih=>
  intro t tb k ht hu
  by_cases hp:p.kind="param"
  ·cases p<;>first | (exfalso;revert hp;simp only [kind];decide +kernel) | skip
   rename_i n
   rw [ft_par]
   cases tb.lookup n with
   | some u=>exact hu
   | none=>
    intro x u e
    have e':List.lookup x ((n,t)::tb)=some u:=e
    rw [List.lookup_cons] at e'
    cases q:x == n with
    | true=>rw [q] at e';cases e';exact ht
    | false=>rw [q] at e';exact hu x u e'
  ·cases hh:hEq p t with
   | false=>rw [fhead_false tb hp hh];exact hu
   | true=>
    refine Zaa (hEq_iff.mp hh) fun h1 h2 h3=>?_
    rw [fhead_eq p t tb h1 hp h2 h3]
    exact ftL_hts k (fun a ha t tb=>ih a ha t tb k) t.parts tb (fun s hs=>Nat.le_trans (Nat.le_of_succ_le (ht_parts hs)) ht) hu
end Ty
noncomputable def noE:Expr:=.Constant .none 0 ⟨0,0,0,0⟩
noncomputable def cpElt:Expr→Expr
 | .ListComp e _ _ _=>e
 | _=>noE
noncomputable def cpGen:Expr→List Comprehension
 | .ListComp _ g _ _=>g
 | _=>[]
noncomputable def cpCnd (e:Expr):Expr:=match cpGen e with
 | ⟨_,_,[c],_⟩::_=>c
 | _=>noE
noncomputable def cpScope:Expr→Scope
 | .ListComp _ _ s _=>s
 | _=>{ kind:=.module,names:=[],isGenerator:=false,isCoroutine:=false,more:=[] }
noncomputable def retCmpL:Stmt→Expr
 | .Return (some (.Compare l _ _ _)) _=>l
 | _=>noE
section
variable {C:Cx} {N:Fns} {D:Nat} {σ:Sto} {sc:Scope} {m:Mp} (P:Pg C N)
include P
noncomputable def fitsC:Expr:=retCmpL (stAt 39 2)
theorem fits_comp (i:Nat):∀ (ps ts:List Ty) (tb:Tab) (σ:Sto),ps.length=ts.length→σ[i]?=some (.dct (tbl tb))→(∀ x u,tb.lookup x=some u→u.ht≤40)→(∀ b∈ts,b.ht≤40)→tb.length+Ty.sizes ps≤1000 →
  (∀ a∈ps,∀ b∈ts,∀ tb' (σ:Sto),σ[i]?=some (.dct (tbl tb'))→(∀ x u,tb'.lookup x=some u→u.ht≤40)→tb'.length+a.size≤1000→CallR C D N.law_fits [.p a.av,.p b.av,.loc i] σ (.ret (.p (.bool (a.ft b tb').1)) (σ.set i (.dct (tbl (a.ft b tb').2))))) →
  ∃ k:Nat,(k == 0)=(Ty.ftL ps ts tb).1∧k≤ps.length∧CompJ1 C D (relabelS (cpScope fitsC) (scopeAt 39)) (bindNames ["a","b"]) (cpCnd fitsC) (cpElt fitsC) [("known",.loc i)] (zipL (ps.map Ty.av) (ts.map Ty.av)) σ (List.replicate k (.p (.int 1))) (σ.set i (.dct (tbl (Ty.ftL ps ts tb).2))):=by
 intro ps
 induction ps with
 | nil=>intro ts tb σ hl hi _ _ _ _;cases ts with
  | cons=>exact nomatch hl
  | nil=>
  refine ⟨0,rfl,Nat.le_refl _,?_⟩
  refine (?_:CompJ1 _ _ _ _ _ _ _ _ _ _ (σ.set i (.dct (tbl tb))))
  rw [set_same hi]
  exact .nil
 | cons a ps ih=>intro ts tb σ hl hi hu hb40 hz hc;cases ts with
  | nil=>exact nomatch hl
  | cons b ts=>
  have c1:=hc a (List.mem_cons_self ..) b (List.mem_cons_self ..) tb σ hi hu (by simp only [Ty.sizes] at hz;walk_at "o")
  have hlen:=a.ft_len b tb
  refine Zeaa (ih ts (a.ft b tb).2 (σ.set i (.dct (tbl (a.ft b tb).2))) (by simpa using hl) (get_set hi) (Ty.ft_hts a b tb 40 (hb40 b (List.mem_cons_self ..)) hu) (fun b' hb'=>hb40 b' (List.mem_cons_of_mem _ hb')) (by simp only [Ty.sizes] at hz;walk_at "o") (fun a' ha b' hb=>hc a' (List.mem_cons_of_mem _ ha) b' (List.mem_cons_of_mem _ hb))) fun k hk hkl L=>?_
  rw [List.set_set] at L
  cases hr:(a.ft b tb).1 with
  | false=>
   rw [hr] at c1
   refine ⟨k+1,by rw [Ty.ftL_cons,hr];rfl,Nat.succ_le_succ hkl,?_⟩
   rw [List.replicate_succ]
   refine .keep (b:=[("b",.p b.av),("a",.p a.av)]) (σ1:=σ.set i (.dct (tbl (a.ft b tb).2))) (σ2:=σ.set i (.dct (tbl (a.ft b tb).2))) rfl ?_ ?_ L
   ·refine (?_:JT _ _ _ _ _ _ (!false) _)
    repeat' (first
  | (show JE _ _ _ _ _ _ _ _;apply JE.callFn P.ok P.law_fits)
  | (show CallR _ _ _ _ _ _;exact c1)
  | walk_at "mW")
   ·repeat' (first
  | walk_at "mW")
  | true=>
   rw [hr] at c1
   refine ⟨k,by rw [Ty.ftL_cons,hr,hk];rfl,Nat.le_succ_of_le hkl,?_⟩
   refine .skip (b:=[("b",.p b.av),("a",.p a.av)]) (σ1:=σ.set i (.dct (tbl (a.ft b tb).2))) rfl ?_ L
   refine (?_:JT _ _ _ _ _ _ (!true) _)
   repeat' (first
  | (show JE _ _ _ _ _ _ _ _;apply JE.callFn P.ok P.law_fits)
  | (show CallR _ _ _ _ _ _;exact c1)
  | walk_at "mW")
theorem c_law_fits (i:Nat) (p:Ty):∀ (t:Ty) (tb:Tab) (σ:Sto),σ[i]?=some (.dct (tbl tb))→t.ht≤40→(∀ x u,tb.lookup x=some u→u.ht≤40)→tb.length+p.size≤1000→∀ D,50+p.ht≤D→CallR C D N.law_fits [.p p.av,.p t.av,.loc i] σ (.ret (.p (.bool (p.ft t tb).1)) (σ.set i (.dct (tbl (p.ft t tb).2)))):=by
 induction p using Ty.byParts with
 | h p ih=>
  intro t tb σ hi ht hu hl D hD
  have had:=asD_loc hi
  have htl:(tbl tb).length≤sizeLine:=by simp only [tbl,List.length_map];exact Nat.le_trans (by walk_at "o") (show 1000≤sizeLine by decide)
  refine CallR.le (D:=D - 1+1) (P.law_fits.callJ P.ok rfl ?_) (by walk_at "o")
  by_cases hp:p.kind="param"
  ·cases p<;>first | (exfalso;revert hp;simp only [Ty.kind];decide +kernel) | skip
   rename_i n
   cases hk:tb.lookup n with
   | none=>
    have hlk:(tbl tb).lookup n=none:=by rw [tbl_lookup,hk];rfl
    have hv:((tbl tb).lookup n).getD (.p t.av)=.p t.av:=by rw [hlk];rfl
    have hσ:(if ((tbl tb).lookup n).isSome then σ else σ.set i (.dct ((n,.p t.av)::tbl tb)))=σ.set i (.dct ((n,.p t.av)::tbl tb)):=by rw [hlk];rfl
    have hm:(Ty.par n).ft t tb=(true,(n,t)::tb):=by rw [Ty.ft_par,hk]
    have hcm:cmpV .Eq (.p t.pl) (.p t.pl) (σ.set i (.dct ((n,.p t.av)::tbl tb)))=some true:=op_eq (by have:=t.pl_depth;walk_at "o") (by rw [t.pl_eqv];simp) rfl
    rw [hm]
    repeat' (first
  | (show JE _ _ _ _ _ _ _ _;first | apply JE.setdef | apply JE.callFn P.ok P.law_plain)
  | (show CallR _ _ _ _ _ _;exact c_law_plain P t _ (by walk_at "o")) | exact hv | exact hσ | exact hcm | exact hi | exact htl
  | walk_at "mW")
   | some u=>
    have hlk:(tbl tb).lookup n=some (.p u.av):=by rw [tbl_lookup,hk];rfl
    have hv:((tbl tb).lookup n).getD (.p t.av)=.p u.av:=by rw [hlk];rfl
    have hσ:(if ((tbl tb).lookup n).isSome then σ else σ.set i (.dct ((n,.p t.av)::tbl tb)))=σ:=by rw [hlk];rfl
    have hm:(Ty.par n).ft t tb=(decide (u.erase=t.erase),tb):=by rw [Ty.ft_par,hk]
    have cpt:=c_law_plain P t (σ:=σ) (D - 1) (by walk_at "o")
    have cpu:=c_law_plain P u (σ:=σ) (D - 1) (by have:=hu n u hk;walk_at "o")
    have hcm:cmpV .Eq (.p u.pl) (.p t.pl) σ=some (decide (u.erase=t.erase)):=op_eq (by have:=t.pl_depth;walk_at "o") (u.pl_eqv t) rfl
    rw [hm,set_same hi]
    repeat' (first
  | (show JE _ _ _ _ _ _ _ _;first | apply JE.setdef | apply JE.callFn P.ok P.law_plain)
  | (show CallR _ _ _ _ _ _;first | exact cpu | exact cpt) | exact hv | exact hσ | exact hcm | exact hi | exact htl
  | walk_at "mW")
  ·have h1:=eq_kindF (σ:=σ) hp
   have hs:cmpV .NotEq (.p p.sh) (.p t.sh) σ=some (!Ty.hEq p t):=op_ne (by have:=t.sh_depth;walk_at "o") (Ty.sh_eqv p t hp) rfl
   have csp:=c_law_shape P p (σ:=σ) (D - 1) (by walk_at "o")
   have cst:=c_law_shape P t (σ:=σ) (D - 1) (by walk_at "o")
   cases hh:Ty.hEq p t with
   | false=>
    rw [hh] at hs
    rw [Ty.fhead_false tb hp hh,set_same hi]
    repeat' (first
  | (show JE _ _ _ _ _ _ _ _;apply JE.callFn P.ok P.law_shape)
  | (show Op2 _ _ _ _ _ _ _ _;exact op_kind (by rfl) _)
  | (show CallR _ _ _ _ _ _;first | exact csp | exact cst) | exact h1 | exact hs
  | walk_at "mW")
   | true=>
    rw [hh] at hs
    refine Zaa (Ty.hEq_iff.mp hh) fun k1 k2 k3=>?_
    have e2:=(p.head_eq t tb k1 hp k2 k3).2
    rw [Ty.fhead_eq p t tb k1 hp k2 k3]
    refine Zeaa (fits_comp (D:=D - 1) P i p.parts t.parts tb σ e2 hi hu (fun b hb=>Nat.le_trans (Nat.le_of_succ_le (Ty.ht_parts hb)) ht) (by rw [p.size_parts hp];exact hl) (fun a ha b hb tb' σ' hi' hu' hl'=>ih a ha b tb' σ' hi' (Nat.le_trans (Nat.le_of_succ_le (Ty.ht_parts hb)) ht) hu' hl' _ (by have:=Ty.ht_parts ha;walk_at "o"))) fun k hk hkl L=>?_
    have hmk:mkL (List.replicate k (.p (.int 1)))=.p (.list (List.replicate k (.int 1))):=by
     have:=mkL_map (fun _:Nat=>PyData.int 1) (List.range k)
     simpa [List.map_const'] using this
    have hz:(List.replicate k (AV.p (.int 1))).length≤sizeLine:=by rw [List.length_replicate];exact Nat.le_trans hkl (Nat.le_trans p.parts_le (by decide))
    have hcm:cmpV .Eq (.p (.list (List.replicate k (.int 1)))) (.p (.list [])) (σ.set i (.dct (tbl (Ty.ftL p.parts t.parts tb).2)))=some (Ty.ftL p.parts t.parts tb).1:=by
     rw [eq_nil rfl,← hk];cases k<;>rfl
    have cpp:=c_law_parts P p (σ:=σ) (D - 1) (by walk_at "o")
    have cpt:=c_law_parts P t (σ:=σ) (D - 1) (by walk_at "o")
    repeat' (first
  | (show JE _ _ _ _ _ _ _ _;first | apply JE.callFn P.ok P.law_shape | apply JE.callFn P.ok P.law_parts | apply JE.compM1v)
  | (show JM _ _ _ _ _ _ _ _ _ _ _;apply JM.zip P.ok P.b_zip boot_zip)
  | (show Op2 _ _ _ _ _ _ _ _;exact op_kind (by rfl) _)
  | (show CompJ1 _ _ _ _ _ _ _ _ _ _ _;exact L)
  | (show CallR _ _ _ _ _ _;first | exact csp | exact cst | exact cpp | exact cpt) | exact h1 | exact hs | exact hz | exact hmk | exact hcm | (simp only [List.length_map];exact e2)
  | walk_at "mW")
end
noncomputable def askT (tb:Tab) (p:Str × List Str):Ty:=(tb.lookup p.1).getD (.par p.1)
noncomputable def asked (l:Bds) (tb:Tab):List Ty:=(l.filter fun p=>hasC p.2).map (askT tb)
noncomputable def lcF (rows:List Row) (bd:Bds):Nat→Ty→Bool
 | 0,_=>false
 | n+1,t=>match t with
  | .num=>true
  | .bool=>true
  | .ref _ m _=>!m
  | .tup a b=>lcF rows bd n a&&lcF rows bd n b
  | .arr a=>lcF rows bd n a
  | .par x=>hasC ((bd.lookup x).getD [])
  | .box _=>false
  | t=>rows.any fun r=>isC r.trait&&((r.self.ft t []).1&&(asked r.params (r.self.ft t []).2).all (lcF rows bd n))
theorem lcF_adt {rows:List Row} {bd:Bds} {n:Nat} {t:Ty} (h:t.kind="adt"):lcF rows bd (n+1) t=rows.any fun r=>isC r.trait&&((r.self.ft t []).1&&(asked r.params (r.self.ft t []).2).all (lcF rows bd n)):=by
 cases t<;>first | (exfalso;revert h;simp only [Ty.kind];decide +kernel) | rfl
noncomputable def rowsAv (N:Fns) (rows:List Row):AV:=.lst (rows.map (Row.av N))
theorem rowsAv_bel (N:Fns) (rows:List Row):bel 0 (rowsAv N rows)=true:=rows_bel N rows
theorem filter_all {α:Type} (f:α→Bool) (g:α→PyData):∀ l:List α,((l.filter fun a=>!f a).map g).isEmpty=l.all f
 | []=>rfl
 | a::l=>by
  cases h:f a with
  | true=>rw [List.filter_cons_of_neg (by simp [h]),filter_all f g l,List.all_cons,h];rfl
  | false=>rw [List.filter_cons_of_pos (by simp [h]),List.all_cons,h];rfl
section
variable {C:Cx} {N:Fns} {D:Nat} {σ:Sto} {sc:Scope} {m:Mp} (P:Pg C N)
include P
theorem lcopy_row (rows:List Row) (bd:Bds) (r:Row) (t:Ty) (f:Ty→Bool) (hr:RowOk r) (hl:r.params.length≤10) (ht:t.ht≤40) (hD:101+t.ht≤D) (hadt:t.kind="adt")
  (hlk:(r.self.ft t []).1=true→∀ p∈r.params,hasC p.2=true→∃ u,(r.self.ft t []).2.lookup p.1=some u)
  (hf:(r.self.ft t []).1=true→∀ u∈asked r.params (r.self.ft t []).2,∀ D',101+t.ht≤D'→CallR C D' N.law_copied [rowsAv N rows,.p u.av,.dct (bdv bd)] [] (.ret (.p (.bool (f u))) [])) :
  JS C D (scopeAt 42) [(("row":Str),r.av N),("bounds",.dct (bdv bd)),("T",.p t.av),("rows",rowsAv N rows)] [] (forBody (stAt 42 4)) (if (isC r.trait&&((r.self.ft t []).1&&(asked r.params (r.self.ft t []).2).all f))=true then .ret (.p (.bool true)) [] else .next [("bounds",.dct (bdv bd)),("T",.p t.av),("rows",rowsAv N rows)] []):=by
 have hh:=hr.ht
 have hb:belD 0 [(("bounds":Str),.dct (bdv bd)),("T",.p t.av),("rows",rowsAv N rows)]=true:=belD_cons (bdv_bel bd) (belD_cons rfl (belD_cons (rowsAv_bel N rows) rfl))
 have hw:∀ u,∀ x v,List.lookup x [(("bounds":Str),AV.dct (bdv bd)),("T",.p t.av),("rows",rowsAv N rows)]=some v→List.lookup x (("known",u)::("row",r.av N)::[(("bounds":Str),AV.dct (bdv bd)),("T",.p t.av),("rows",rowsAv N rows)])=some v:=fun u=>weak_cons rfl (weak_cons rfl weak_refl)
 have hw2:∀ u u',∀ x v,List.lookup x [(("bounds":Str),AV.dct (bdv bd)),("T",.p t.av),("rows",rowsAv N rows)]=some v→List.lookup x (("asked",u')::("known",u)::("row",r.av N)::[(("bounds":Str),AV.dct (bdv bd)),("T",.p t.av),("rows",rowsAv N rows)])=some v:=fun u u'=>weak_cons rfl (hw u)
 have hC:cmpV .Eq (.p (.str r.trait)) (.p (.str "Copy")) [.dct []]=some (isC r.trait):=cmp_str rfl rfl
 have cm:=c_law_fits P 0 r.self t [] [.dct []] rfl ht (fun _ _ h=>nomatch h) (by simpa using hr.size) D (by walk_at "o")
 rcases hm:r.self.ft t [] with ⟨b,tb⟩
 rw [hm] at cm hf hlk
 cases hc:isC r.trait with
 | false=>
  rw [hc] at hC
  refine JS.back0 (σ1:=[.dct []]) (m1:=("known",.loc 0)::("row",r.av N)::_) ?_ hb (hw _)
  repeat' (first
  | (show JE _ _ _ _ _ _ _ _;first | exact JE.dict0 P.ok | apply JE.attr) | exact hC | (show Op1 _ _ _ _ _ _ _;exact op_attr P.ok (by rfl) (P.a_row _ (by decide +kernel)) (by rfl))
  | walk_at "mW")
 | true=>
  rw [hc] at hC
  cases b with
  | false=>
   refine JS.back0 (σ1:=[.dct (tbl tb)]) (m1:=("known",.loc 0)::("row",r.av N)::_) ?_ hb (hw _)
   repeat' (first
  | (show JE _ _ _ _ _ _ _ _;first | exact JE.dict0 P.ok | apply JE.callFn P.ok P.law_fits | apply JE.attr)
  | (show CallR _ _ _ _ _ _;exact cm) | exact hC | (show Op1 _ _ _ _ _ _ _;exact op_attr P.ok (by rfl) (P.a_row _ (by decide +kernel)) (by rfl))
  | walk_at "mW")
  | true=>
   have hask:∀ p∈r.params,hasC p.2=true→(tbl tb).lookup p.1=some (.p (askT tb p).av):=fun p hp hq=>by
    refine Ze (hlk rfl p hp hq) fun u hu=>?_
    have hu':List.lookup p.1 tb=some u:=hu
    rw [tbl_lookup,hu'];unfold askT;rw [hu'];rfl
   have cc:∀ u∈asked r.params tb,CallR C D N.law_copied [rowsAv N rows,.p u.av,.dct (bdv bd)] [.dct (tbl tb)] (.ret (.p (.bool (f u))) [.dct (tbl tb)]):=fun u hu=>(hf rfl u hu D (by walk_at "o")).under' (by refine (?_:(bel 0 (rowsAv N rows)&&(true&&(belD 0 (bdv bd)&&true)))=true);rw [rowsAv_bel,bdv_bel];rfl)
   have hasF:asF (.p (prs r.params))=some (r.params.map fun p=>.p (.tuple [.str p.1,strL p.2])):=congrArg some (List.map_map ..)
   have hmk:mkL ((r.params.filter fun p=>hasC p.2).map fun p=>.p (askT tb p).av)=.p (.list ((asked r.params tb).map Ty.av)):=by
    rw [mkL_map];unfold asked;rw [List.map_map];rfl
   have hz:((r.params.filter fun p=>hasC p.2).map fun p=>AV.p (askT tb p).av).length≤sizeLine:=by
    rw [List.length_map];exact Nat.le_trans (List.length_filter_le ..) (Nat.le_trans hl (by decide))
   have hasF2:asF (.p (.list ((asked r.params tb).map Ty.av)))=some ((asked r.params tb).map fun u=>.p u.av):=congrArg some (List.map_map ..)
   have hmk2:mkL (((asked r.params tb).filter fun u=>!f u).map fun u=>.p u.av)=.p (.list (((asked r.params tb).filter fun u=>!f u).map Ty.av)):=mkL_map _ _
   have hz2:(((asked r.params tb).filter fun u=>!f u).map fun u=>AV.p u.av).length≤sizeLine:=by
    rw [List.length_map]
    refine Nat.le_trans (List.length_filter_le ..) ?_
    unfold asked
    rw [List.length_map]
    exact Nat.le_trans (List.length_filter_le ..) (Nat.le_trans hl (by decide))
   have hcm:cmpV .Eq (.p (.list (((asked r.params tb).filter fun u=>!f u).map Ty.av))) (.p (.list [])) [.dct (tbl tb)]=some ((asked r.params tb).all f):=by rw [eq_nil rfl,filter_all]
   cases hi:(asked r.params tb).all f with
   | false=>
    rw [hi] at hcm
    refine JS.back0 (σ1:=[.dct (tbl tb)]) (m1:=("asked",.p (.list ((asked r.params tb).map Ty.av)))::("known",.loc 0)::("row",r.av N)::_) ?_ hb (hw2 _ _)
    repeat' (first
  | (show JE _ _ _ _ _ _ _ _;first | exact JE.dict0 P.ok | apply JE.callFn P.ok P.law_fits | apply JE.callFn P.ok P.law_copied | apply JE.attr | apply JE.compM1v)
  | (show JM _ _ _ _ _ _ _ _ _ _ _;apply JM.names2)
  | (show Op2 _ _ _ _ _ _ _ _;exact op_key (by rfl) (by rfl) (hask _ (by assumption) (by assumption)))
  | (show J1 _ _ _ _ _ _ _;apply J1.compM1v)
  | (show CompJ1 _ _ _ _ _ _ _ _ _ _ _;first | refine CompJ1.each (g:=fun (p:Str × List Str)=>.p (.tuple [.str p.1,strL p.2])) (q:=fun p=>hasC p.2) (f:=fun p=>.p (askT tb p).av) (l:=r.params) (fun p hp'=>⟨_,rfl,?_,fun hq=>?_⟩) | refine CompJ1.each (g:=fun (u:Ty)=>.p u.av) (q:=fun u=>!f u) (f:=fun u=>.p u.av) (l:=asked r.params tb) (fun u hu'=>⟨_,rfl,?_,fun hq=>?_⟩))
  | (show CallR _ _ _ _ _ _;first | exact cm | exact cc _ (by assumption)) | exact hC | exact hasF | exact hasF2 | exact hmk | exact hmk2 | exact hz | exact hz2 | exact hcm | exact cmp_hasC | (show Op1 _ _ _ _ _ _ _;exact op_attr P.ok (by rfl) (P.a_row _ (by decide +kernel)) (by rfl))
  | walk_at "mW")
   | true=>
    rw [hi] at hcm
    refine JS.backR0 (σ1:=[.dct (tbl tb)]) ?_
    repeat' (first
  | (show JE _ _ _ _ _ _ _ _;first | exact JE.dict0 P.ok | apply JE.callFn P.ok P.law_fits | apply JE.callFn P.ok P.law_copied | apply JE.attr | apply JE.compM1v)
  | (show JM _ _ _ _ _ _ _ _ _ _ _;apply JM.names2)
  | (show Op2 _ _ _ _ _ _ _ _;exact op_key (by rfl) (by rfl) (hask _ (by assumption) (by assumption)))
  | (show J1 _ _ _ _ _ _ _;apply J1.compM1v)
  | (show CompJ1 _ _ _ _ _ _ _ _ _ _ _;first | refine CompJ1.each (g:=fun (p:Str × List Str)=>.p (.tuple [.str p.1,strL p.2])) (q:=fun p=>hasC p.2) (f:=fun p=>.p (askT tb p).av) (l:=r.params) (fun p hp'=>⟨_,rfl,?_,fun hq=>?_⟩) | refine CompJ1.each (g:=fun (u:Ty)=>.p u.av) (q:=fun u=>!f u) (f:=fun u=>.p u.av) (l:=asked r.params tb) (fun u hu'=>⟨_,rfl,?_,fun hq=>?_⟩))
  | (show CallR _ _ _ _ _ _;first | exact cm | exact cc _ (by assumption)) | exact hC | exact hasF | exact hasF2 | exact hmk | exact hmk2 | exact hz | exact hz2 | exact hcm | exact cmp_hasC | (show Op1 _ _ _ _ _ _ _;exact op_attr P.ok (by rfl) (P.a_row _ (by decide +kernel)) (by rfl))
  | walk_at "mW")
theorem c_law_copied (rows:List Row) (bd:Bds) (hw:∀ r∈rows,RowOk r) (hlen:∀ r∈rows,r.params.length≤10) (hlk:∀ r∈rows,∀ t:Ty,(r.self.ft t []).1=true→∀ p∈r.params,hasC p.2=true→∃ u,(r.self.ft t []).2.lookup p.1=some u∧u.ht < t.ht):∀ n t,t.ht < n→t.ht≤40→∀ D,102+t.ht≤D→CallR C D N.law_copied [rowsAv N rows,.p t.av,.dct (bdv bd)] [] (.ret (.p (.bool (lcF rows bd n t))) []):=by
 intro n
 induction n with
 | zero=>intro t h;exact absurd h (Nat.not_lt_zero _)
 | succ n ih=>
  intro t hn ht D hD
  refine CallR.le (D:=D - 1+1) (P.law_copied.callJ P.ok rfl ?_) (by walk_at "o")
  by_cases hadt:t.kind="adt"
  ·rw [lcF_adt hadt]
   have L:=LoopJ.until (C:=C) (D:=D - 1) (sc:=scopeAt 42) (bt:=bindName1 "row") (body:=forBody (stAt 42 4)) (m:=[("bounds",.dct (bdv bd)),("T",.p t.av),("rows",rowsAv N rows)]) (σ:=[]) (v:=.p (.bool true)) (g:=Row.av N) (f:=fun r=>isC r.trait&&((r.self.ft t []).1&&(asked r.params (r.self.ft t []).2).all (lcF rows bd n))) (l:=rows) (fun r hr=>⟨_,rfl,lcopy_row P rows bd r t (lcF rows bd n) (hw r hr) (hlen r hr) ht (by walk_at "o") hadt (fun hm p hp hq=>let ⟨u,h1,_⟩:=hlk r hr t hm p hp hq;⟨u,h1⟩) fun hm u hu D' hD'=>by
    unfold asked at hu
    refine Zea (List.mem_map.mp hu) fun p hp z10=>?_
    obtain rfl:=z10
    refine Za (List.mem_filter.mp hp) fun hp hq=>?_
    refine Zea (hlk r hr t hm p hp hq) fun u h1 h2=>?_
    unfold askT
    rw [h1]
    exact ih u (by walk_at "o") (by walk_at "o") D' (by walk_at "o")⟩)
   cases hA:rows.any fun r=>isC r.trait&&((r.self.ft t []).1&&(asked r.params (r.self.ft t []).2).all (lcF rows bd n))<;>rw [hA] at L<;>simp only [Bool.false_eq_true,if_false,if_true] at L
   all_goals (repeat' (first
  | (show Op2 _ _ _ _ _ _ _ _;exact op_kindS (by rfl) hadt)
  | (show J1 _ _ _ _ _ _ _;apply J1.forM)
  | (show LoopJ _ _ _ _ _ _ _ _ _;exact L)
  | walk_at "mW"))
  ·have hv:∀ x,((bdv bd).lookup x).getD (.p (.tuple []))=.p (strL ((bd.lookup x).getD [])):=fun x=>by rw [bdv_lookup];cases bd.lookup x<;>rfl
   have hi:∀ a:Ty,a.ht+1≤t.ht→CallR C (D - 1) N.law_copied [rowsAv N rows,.p a.av,.dct (bdv bd)] [] (.ret (.p (.bool (lcF rows bd n a))) []):=fun a ha=>ih a (by walk_at "o") (by walk_at "o") _ (by walk_at "o")
   have cp:=c_law_parts P t (σ:=[]) (D - 1) (by walk_at "o")
   cases t with
   | c0=>exact absurd rfl hadt
   | c1 a=>exact absurd rfl hadt
   | c2 a b=>exact absurd rfl hadt
   | num=>repeat' (first
  | walk_at "mW")
   | bool=>repeat' (first
  | walk_at "mW")
   | box a=>repeat' (first
  | walk_at "mW")
   | ref r m a=>cases m<;>(repeat' (first
  | walk_at "mW"))
   | par x=>repeat' (first
  | (show JE _ _ _ _ _ _ _ _;first | apply JE.callFn P.ok P.law_parts | apply JE.callFn P.ok P.law_copied | apply JE.get')
  | (show CallR _ _ _ _ _ _;first | exact cp | exact ia | exact ib) | exact eq_nil rfl | exact cmp_hasC | exact hv _
  | walk_at "mW")
   | arr a=>
    have ia:=hi a (by simp [Ty.ht])
    refine (?_:JS _ _ _ _ _ _ (.ret (.p (.bool (lcF rows bd n a))) []))
    cases ha:lcF rows bd n a<;>rw [ha] at ia
    all_goals (repeat' (first
  | (show JE _ _ _ _ _ _ _ _;first | apply JE.callFn P.ok P.law_parts | apply JE.callFn P.ok P.law_copied | apply JE.get')
  | (show CallR _ _ _ _ _ _;first | exact cp | exact ia | exact ib) | exact eq_nil rfl | exact cmp_hasC | exact hv _
  | walk_at "mW"))
   | tup a b=>
    have ia:=hi a (by simp only [Ty.ht];walk_at "o")
    have ib:=hi b (by simp only [Ty.ht];walk_at "o")
    refine (?_:JS _ _ _ _ _ _ (.ret (.p (.bool (lcF rows bd n a&&lcF rows bd n b))) []))
    cases ha:lcF rows bd n a<;>cases hb:lcF rows bd n b<;>rw [ha] at ia<;>rw [hb] at ib
    all_goals (repeat' (first
  | (show JE _ _ _ _ _ _ _ _;first | apply JE.callFn P.ok P.law_parts | apply JE.callFn P.ok P.law_copied | apply JE.get')
  | (show CallR _ _ _ _ _ _;first | exact cp | exact ia | exact ib) | exact eq_nil rfl | exact cmp_hasC | exact hv _
  | walk_at "mW"))
end
noncomputable def nIn (f:List Str) (n:Str):Bool:=(f.map PyData.str).any fun y=>y.eqv (.str n)
noncomputable def nadd (f l:List Str):List Str:=f++l.filter fun n=>!nIn f n
noncomputable def Ty.named:Ty→List Str
 | par n=>[n]
 | ref _ _ t=>nadd [] t.named
 | box t=>nadd [] t.named
 | arr t=>nadd [] t.named
 | c1 t=>nadd [] t.named
 | tup a b=>nadd (nadd [] a.named) b.named
 | c2 a b=>nadd (nadd [] a.named) b.named
 | _=>[]
theorem nadd_len (f l:List Str):(nadd f l).length≤f.length+l.length:=by
 unfold nadd;rw [List.length_append];exact Nat.add_le_add_left (List.length_filter_le ..) _
theorem Ty.named_len (t:Ty):t.named.length≤t.size:=by
 have one:∀ {l:List Str} {k:Nat},l.length≤k→(nadd [] l).length≤k:=fun h=>Nat.le_trans (nadd_len ..) (by simpa using h)
 have two:∀ {l l':List Str} {k k':Nat},l.length≤k→l'.length≤k'→(nadd (nadd [] l) l').length≤k+k':=fun h h'=>Nat.le_trans (nadd_len ..) (Nat.add_le_add (one h) h')
 induction t with
 | par n=>exact Nat.le_refl _
 | ref r m t ih=>exact one ih
 | box t ih=>exact one ih
 | arr t ih=>exact one ih
 | c1 t ih=>exact one ih
 | tup a b i j=>exact two i j
 | c2 a b i j=>exact two i j
 | num=>exact Nat.le_refl _
 | bool=>exact Nat.le_refl _
 | c0=>exact Nat.le_refl _
section
variable {C:Cx} {N:Fns} {D:Nat} {σ:Sto} {sc:Scope} {m:Mp} (P:Pg C N)
theorem mkL_p (xs:List PyData):mkL (xs.map .p)=.p (.list xs):=by have:=mkL_map (fun x:PyData=>x) xs;simpa using this
theorem op_addP {a b:List PyData} (hz:a.length+b.length≤sizeLine):Op2 C D (binaryOp .Add) (.p (.list a)) (.p (.list b)) σ (.p (.list (a++b))) σ:=by
 have h:=op_addl (C:=C) (D:=D) (σ:=σ) (a:=.p (.list a)) (b:=.p (.list b)) (l:=a.map .p) (l':=b.map .p) rfl rfl (by simpa using hz)
 rwa [← List.map_append,mkL_p] at h
theorem op_nadd (f l:List Str) (hz:f.length+l.length≤1000):Op2 C D (binaryOp .Add) (.p (.list (f.map .str))) (.p (.list ((l.filter fun n=>!nIn f n).map .str))) σ (.p (.list ((nadd f l).map .str))) σ:=by
 have h:=op_addP (C:=C) (D:=D) (σ:=σ) (a:=f.map .str) (b:=(l.filter fun n=>!nIn f n).map .str) (by
  rw [List.length_map,List.length_map]
  exact Nat.le_trans (Nat.add_le_add_left (List.length_filter_le ..) _) (Nat.le_trans hz (by decide)))
 rwa [← List.map_append] at h
theorem not_nIn {f:List Str} {n:Str}:cmpV .NotIn (.p (.str n)) (.p (.list (f.map .str))) σ=some (!nIn f n):=rfl
include P
theorem c_law_named (t:Ty) (hz:t.size≤1000):∀ D,3+t.ht≤D→CallR C D N.law_named [.p t.av] σ (.ret (.p (.list (t.named.map .str))) σ):=by
 revert hz
 induction t using Ty.byParts with
 | h t ih=>
  intro hz D hD
  refine CallR.le (D:=D - 1+1) (P.law_named.callJ P.ok rfl ?_) (by walk_at "o")
  have cp:=c_law_parts P t (σ:=σ) (D - 1) (by walk_at "o")
  have hF:∀ l:List Str,asF (.p (.list (l.map .str)))=some (l.map fun n=>.p (.str n)):=fun l=>congrArg some (List.map_map ..)
  have hmk:∀ l:List Str,mkL (l.map fun n=>.p (.str n))=.p (.list (l.map .str)):=fun l=>mkL_map _ _
  have hz1:∀ (l:List Str) (q:Str→Bool),l.length≤1000→((l.filter q).map fun n=>AV.p (.str n)).length≤sizeLine:=fun l q h=>by
   rw [List.length_map];exact Nat.le_trans (List.length_filter_le ..) (Nat.le_trans h (by decide))
  have one:∀ a:Ty,(nadd [] a.named).length≤a.named.length:=fun a=>Nat.le_trans (nadd_len ..) (by simp)
  cases t
  all_goals simp only [Ty.ht] at hD
  all_goals simp only [Ty.size] at hz
  case num=>repeat' (first
  | (show JE _ _ _ _ _ _ _ _;apply JE.callFn P.ok P.law_parts)
  | (show CallR _ _ _ _ _ _;exact cp)
  | walk_at "mW")
  case bool=>repeat' (first
  | (show JE _ _ _ _ _ _ _ _;apply JE.callFn P.ok P.law_parts)
  | (show CallR _ _ _ _ _ _;exact cp)
  | walk_at "mW")
  case c0=>repeat' (first
  | (show JE _ _ _ _ _ _ _ _;apply JE.callFn P.ok P.law_parts)
  | (show CallR _ _ _ _ _ _;exact cp)
  | walk_at "mW")
  case par=>repeat' (first
  | (show JE _ _ _ _ _ _ _ _;apply JE.callFn P.ok P.law_parts)
  | (show CallR _ _ _ _ _ _;exact cp)
  | walk_at "mW")
  case tup a b=>
   have la:=a.named_len
   have lb:=b.named_len
   have o1:Op2 C (D - 1) (binaryOp .Add) (.p (.list [])) (.p (.list ((a.named.filter fun n=>!nIn [] n).map .str))) σ (.p (.list ((nadd [] a.named).map .str))) σ:=op_nadd (C:=C) (D:=D - 1) (σ:=σ) [] a.named (by simp only [List.length_nil];walk_at "o")
   have o2:=op_nadd (C:=C) (D:=D - 1) (σ:=σ) (nadd [] a.named) b.named (by have:=one a;walk_at "o")
   have ca:=ih a (by simp [Ty.parts]) (by walk_at "o") (D - 1) (by walk_at "o")
   have cb:=ih b (by simp [Ty.parts]) (by walk_at "o") (D - 1) (by walk_at "o")
   repeat' (first
  | (show JE _ _ _ _ _ _ _ _;first | apply JE.callFn P.ok P.law_parts | apply JE.callFn P.ok P.law_named | apply JE.compM1v)
  | (show JM _ _ _ _ _ _ _ _ _ _ _;apply JM.seq)
  | (show Op2 _ _ _ _ _ _ _ _;first | with_reducible exact o1 | with_reducible exact o2)
  | (show CompJ1 _ _ _ _ _ _ _ _ _ _ _;first | with_reducible refine CompJ1.each (g:=fun (n:Str)=>.p (.str n)) (q:=fun n=>!nIn [] n) (f:=fun n=>.p (.str n)) (l:=a.named) (fun n hn'=>⟨_,rfl,?_,fun hq=>?_⟩) | with_reducible refine CompJ1.each (g:=fun (n:Str)=>.p (.str n)) (q:=fun n=>!nIn (nadd [] a.named) n) (f:=fun n=>.p (.str n)) (l:=b.named) (fun n hn'=>⟨_,rfl,?_,fun hq=>?_⟩))
  | (show CallR _ _ _ _ _ _;first | exact cp | with_reducible exact ca | with_reducible exact cb) | exact hF _ | exact hmk _ | exact hz1 _ _ (by walk_at "o") | exact not_nIn (f:=[]) | exact not_nIn (f:=nadd [] a.named)
  | walk_at "mW")
  case c2 a b=>
   have la:=a.named_len
   have lb:=b.named_len
   have o1:Op2 C (D - 1) (binaryOp .Add) (.p (.list [])) (.p (.list ((a.named.filter fun n=>!nIn [] n).map .str))) σ (.p (.list ((nadd [] a.named).map .str))) σ:=op_nadd (C:=C) (D:=D - 1) (σ:=σ) [] a.named (by simp only [List.length_nil];walk_at "o")
   have o2:=op_nadd (C:=C) (D:=D - 1) (σ:=σ) (nadd [] a.named) b.named (by have:=one a;walk_at "o")
   have ca:=ih a (by simp [Ty.parts]) (by walk_at "o") (D - 1) (by walk_at "o")
   have cb:=ih b (by simp [Ty.parts]) (by walk_at "o") (D - 1) (by walk_at "o")
   repeat' (first
  | (show JE _ _ _ _ _ _ _ _;first | apply JE.callFn P.ok P.law_parts | apply JE.callFn P.ok P.law_named | apply JE.compM1v)
  | (show JM _ _ _ _ _ _ _ _ _ _ _;apply JM.seq)
  | (show Op2 _ _ _ _ _ _ _ _;first | with_reducible exact o1 | with_reducible exact o2)
  | (show CompJ1 _ _ _ _ _ _ _ _ _ _ _;first | with_reducible refine CompJ1.each (g:=fun (n:Str)=>.p (.str n)) (q:=fun n=>!nIn [] n) (f:=fun n=>.p (.str n)) (l:=a.named) (fun n hn'=>⟨_,rfl,?_,fun hq=>?_⟩) | with_reducible refine CompJ1.each (g:=fun (n:Str)=>.p (.str n)) (q:=fun n=>!nIn (nadd [] a.named) n) (f:=fun n=>.p (.str n)) (l:=b.named) (fun n hn'=>⟨_,rfl,?_,fun hq=>?_⟩))
  | (show CallR _ _ _ _ _ _;first | exact cp | with_reducible exact ca | with_reducible exact cb) | exact hF _ | exact hmk _ | exact hz1 _ _ (by walk_at "o") | exact not_nIn (f:=[]) | exact not_nIn (f:=nadd [] a.named)
  | walk_at "mW")
  all_goals
   rename_i a
   have la:=a.named_len
   have o1:Op2 C (D - 1) (binaryOp .Add) (.p (.list [])) (.p (.list ((a.named.filter fun n=>!nIn [] n).map .str))) σ (.p (.list ((nadd [] a.named).map .str))) σ:=op_nadd (C:=C) (D:=D - 1) (σ:=σ) [] a.named (by simp only [List.length_nil];walk_at "o")
   have ca:=ih a (by simp [Ty.parts]) (by walk_at "o") (D - 1) (by walk_at "o")
   (repeat' (first
  | (show JE _ _ _ _ _ _ _ _;first | apply JE.callFn P.ok P.law_parts | apply JE.callFn P.ok P.law_named | apply JE.compM1v)
  | (show JM _ _ _ _ _ _ _ _ _ _ _;apply JM.seq)
  | (show Op2 _ _ _ _ _ _ _ _;exact o1)
  | (show CompJ1 _ _ _ _ _ _ _ _ _ _ _;refine CompJ1.each (g:=fun (n:Str)=>.p (.str n)) (q:=fun n=>!nIn [] n) (f:=fun n=>.p (.str n)) (l:=a.named) (fun n hn'=>⟨_,rfl,?_,fun hq=>?_⟩))
  | (show CallR _ _ _ _ _ _;first | exact cp | exact ca) | exact hF _ | exact hmk _ | exact hz1 _ _ (by walk_at "o") | exact not_nIn (f:=[])
  | walk_at "mW"))
end
section
variable {C:Cx} {D n:Nat} {sc scope:Scope} {m m' m1:Mp} {σ σ' σ'':Sto} {v a:AV} {elt iter i2:Expr} {l tot:List AV}
theorem J1.comp32 {y n1 n2 n3 m1 m2:Str} {q1 q2 q3 r1 r2 py pos spos p1 p2:Pos} {k1 k2:Nat} (so:ScopeOk scope sc) (h:JE C D sc m σ iter a σ') (ha:asF a=some l) (hl:isLst a=true)
  (hn1:locB [n1,n2,n3] scope=true) (hn2:locB [m1,m2] scope=true) (hdis:[m1,m2].all (fun n=>[n1,n2,n3].all fun x=>n != x)=true)
  (hC:CompJ2 C D (relabelS scope sc) (bindNames [n1,n2,n3]) (bindNames [m1,m2]) i2 elt (mCof scope m) l σ' tot σ'') (hz:tot.length≤sizeLine) (ht:mkL tot=v) (hs:∀ env x,foldedSetIterable iter env x=pure x) (hs2:∀ env x,foldedSetIterable i2 env x=pure x) (hy:sc.names.lookup y=some .local)
  (hsw:(py.line == pos.line&&!(scope.names.any fun (n,k)=>n == y&&(k == .local||k == .cell)))=true) :
  J1 C D sc m σ (.Assign [.Name y py] (.ListComp elt [⟨.Tuple [.Name n1 q1,.Name n2 q2,.Name n3 q3] k1 p1,iter,[],0⟩,⟨.Tuple [.Name m1 r1,.Name m2 r2] k2 p2,i2,[],0⟩] scope pos) spos) (.next ((y,v)::m) σ''):=
 J1.comp2v (ns1:=[n1,n2,n3]) (ns2:=[m1,m2]) (poss1:=[q1,q2,q3]) (poss2:=[r1,r2]) so h ha hl rfl rfl rfl rfl hn1 hn2 (fun n hn hx=>by
  have h1:=List.all_eq_true.mp hdis n hn
  have h2:=List.all_eq_true.mp h1 n hx
  simp at h2) hC hz ht hs hs2 hy hsw
theorem JT.cut0 {e:Expr} {cb:Bool} (h:JT C D sc m [] e cb σ'):JT C D sc m [] e cb []:=by
 have:=h.cut (n:=0) (Nat.le_refl _) (fun o ho=>by simp at ho)
 simpa using this
theorem J1.assign2c {v1 v2:AV} {x y:Str} {xp yp tp pos vp:Pos} {k k':Nat} {es:List Expr} (h:JL C D sc m σ es [v1,v2] σ') (hx:sc.names.lookup x=some .cell) (hy:sc.names.lookup y=some .cell) (hst:(es.any fun | .Starred ..=>true | _=>false)=false) :
  J1 C D sc m σ (.Assign [.Tuple [.Name x xp,.Name y yp] k tp] (.Tuple es k' vp) pos) (.next ((y,v2)::(x,v1)::m) σ'):=
 J1.assign2n h (.inr hx) (.inr hy) fun env he=>by
  have ex:env.kindOf x=some .cell:=by refine (?_:env.scope.names.lookup x=_);rw [he,hx]
  exact swapped_cell ex
end
noncomputable def lhd (rows:List Row) (t:Ty):Bool:=rows.any fun r=>isD r.trait&&(r.self.ft t []).1
noncomputable def lbadF (w:Wd) (n:Nat) (r:Row):Bool:=
 if r.self.kind="int"∨r.self.kind="bool" then false
 else if r.self.kind="adt" then lhd w.rows r.self||(heldOf w r.self).any fun p=>!lcF w.rows (boundsOf r) n p
 else true
noncomputable def ifCmpL:Stmt→Expr
 | .If (.Compare l _ _ _) _ _ _=>l
 | _=>noE
structure LwOk (w:Wd):Prop where
 len:w.rows.length≤10
 lk:∀ r∈w.rows,∀ t:Ty,(r.self.ft t []).1=true→∀ p∈r.params,hasC p.2=true→∃ u,(r.self.ft t []).2.lookup p.1=some u∧u.ht < t.ht
theorem mk_rows (N:Fns) (rows:List Row) (q:Row→Bool) (σ:Sto):cmpV .NotEq (mkL ((rows.filter q).map (Row.av N))) (.p (.list [])) σ=some (rows.any q):=by
 cases h:rows.filter q with
 | nil=>
  have:rows.any q=false:=by
   rw [List.any_eq_false]
   intro x hx hq
   have:=List.mem_filter.mpr ⟨hx,hq⟩
   rw [h] at this;exact nomatch this
  rw [this];rfl
 | cons r l=>
  have hr:r∈rows.filter q:=by rw [h];exact List.mem_cons_self ..
  have:rows.any q=true:=List.any_eq_true.mpr ⟨r,(List.mem_filter.mp hr).1,(List.mem_filter.mp hr).2⟩
  rw [this];rfl
theorem heldV_len (a:AdtD) (t:Ty):∀ vs:List (Str × List (Str × Ty)),(∀ v∈vs,v.2.length≤10)→(heldV a t vs).length≤10 * vs.length
 | [],_=>Nat.le_refl _
 | v::vs,h=>by
  have ih:=heldV_len a t vs fun x hx=>h x (List.mem_cons_of_mem _ hx)
  have:=h v (List.mem_cons_self ..)
  simp only [heldV,putF] at ih
  simp only [heldV,putF,List.flatMap_cons,List.length_append,List.length_map,List.length_cons] at ih ⊢
  walk_at "o"
theorem kInL {σ:Sto} {p:Ty} {s1 s2:Str} (h1:(s1 == p.kind)=false) (h2:(s2 == p.kind)=false):cmpV .In (.p (.str p.kind)) (.p (.list [.str s1,.str s2])) σ=some false:=by
 have e1:(PyData.str s1).eqv (.str p.kind)=false:=h1
 have e2:(PyData.str s2).eqv (.str p.kind)=false:=h2
 refine (?_:some ((PyData.str s1).eqv (.str p.kind)||((PyData.str s2).eqv (.str p.kind)||false))=_)
 rw [e1,e2]
 rfl
theorem filter_any {α:Type} (f:α→Bool) (g:α→PyData) (l:List α):(!((l.filter fun a=>!f a).map g).isEmpty)=l.any fun a=>!f a:=by
 rw [filter_all]
 induction l with
 | nil=>rfl
 | cons a l ih=>
  rw [List.all_cons,List.any_cons,← ih]
  cases f a<;>simp
section
variable {C:Cx} {N:Fns} {D:Nat} {σ:Sto} {sc:Scope} {m:Mp} (P:Pg C N)
include P
theorem c_is_bad (w:Wd) (n:Nat) (hw:WdOk w n) (hl:LwOk w) (r:Row) (hr:r∈w.rows) (D:Nat) (hD:160≤D):CallR C D N.law_is_bad [w.av N,r.av N] [] (.ret (.p (.bool (lbadF w n r))) []):=by
 refine CallR.le (D:=D - 1+1) (P.law_is_bad.callJ P.ok rfl ?_) (by walk_at "o")
 have hlr:r.params.length≤sizeLine:=Nat.le_trans (hw.rlen r hr) (by decide)
 have ht:=hw.txt r hr
 unfold lbadF
 by_cases h1:r.self.kind="int"∨r.self.kind="bool"
 ·rw [if_pos h1]
  have hin:cmpV .In (.p (.str r.self.kind)) (.p (.list [.str "int",.str "bool"])) []=some true:=by
   rcases h1 with h1 | h1<;>(rw [h1];rfl)
  repeat' (first
  | (show JE _ _ _ _ _ _ _ _;first | apply JE.callBi P.ok P.b_dict boot_dict | apply JE.attr)
  | (show Op2 _ _ _ _ _ _ _ _;exact op_kind (by rfl) _)
  | (show J1 _ _ _ _ _ _ _;apply J1.assign2c)
  | (show BI _ _ _ _ _ _ _;exact bi_dictB P.ok hlr) | exact hin | (show Op1 _ _ _ _ _ _ _;exact op_attr P.ok (by rfl) (P.a_row _ (by decide +kernel)) (by rfl))
  | walk_at "mW")
 ·rw [if_neg h1]
  have hin:cmpV .In (.p (.str r.self.kind)) (.p (.list [.str "int",.str "bool"])) []=some false:=kInL (bne_of fun q=>h1 (.inl q.symm)) (bne_of fun q=>h1 (.inr q.symm))
  by_cases h2:r.self.kind="adt"
  ·rw [if_pos h2]
   refine Zea (hw.adt r hr h2) fun a ha hok=>?_
   have hAdt:cmpV .NotEq (.p (.str r.self.kind)) (.p (.str "adt")) []=some false:=op_ne (b:=true) (by simp [PyData.depth]) (by refine (?_:(r.self.kind == ("adt":Str))=true);rw [h2];rfl) rfl
   have hadt:adtOf w r.self=a:=by unfold adtOf;rw [ha];rfl
   have hH:heldOf w r.self=heldV a r.self a.variants:=by unfold heldOf;rw [hadt]
   have hz1:((w.rows.filter fun one=>isD one.trait&&(one.self.ft r.self []).1).map (Row.av N)).length≤sizeLine:=by
    rw [List.length_map];exact Nat.le_trans (List.length_filter_le ..) (Nat.le_trans hl.len (by decide))
   have hcm:=mk_rows N w.rows (fun one=>isD one.trait&&(one.self.ft r.self []).1) []
   have tests:∀ one∈w.rows,∀ mm:Mp,mm.lookup ("T":Str)=some (.p r.self.av)→JT C (D - 1) (relabelS (cpScope (ifCmpL (stAt 43 3))) (scopeAt 43)) (("one",one.av N)::mm) [] (cpCnd (ifCmpL (stAt 43 3))) (isD one.trait&&(one.self.ft r.self []).1) []:=by
    intro one ho mm hT
    have hh:=(hw.rows one ho).ht
    have hC:cmpV .Eq (.p (.str one.trait)) (.p (.str "Drop")) []=some (isD one.trait):=cmp_str rfl rfl
    have cm:=c_law_fits P 0 one.self r.self [] [.dct []] rfl (Nat.le_trans ht.ht (by decide)) (fun _ _ h=>nomatch h) (by simpa using (hw.rows one ho).size) (D - 1) (by walk_at "o")
    rcases hm:one.self.ft r.self [] with ⟨b,tb⟩
    rw [hm] at cm
    cases hc:isD one.trait with
    | false=>
     rw [hc] at hC
     repeat' (first
  | (show JE _ _ _ _ _ _ _ _;apply JE.attr) | exact hC | (show Op1 _ _ _ _ _ _ _;exact op_attr P.ok (by rfl) (P.a_row _ (by decide +kernel)) (by rfl))
  | walk_at "mW")
    | true=>
     rw [hc] at hC
     refine JT.cut0 (σ':=[.dct (tbl tb)]) ?_
     refine (?_:JT _ _ _ _ _ _ b _)
     cases b
     all_goals (repeat' (first
  | (show JE _ _ _ _ _ _ _ _;first | apply JE.attr | exact JE.dict0 P.ok | apply JE.callFn P.ok P.law_fits | exact JE.name (v:=.p r.self.av) hT (by first | exact .inl (by rfl) | exact .inr (.inl (by rfl)) | exact .inr (.inr (by rfl))) (by rfl) (by rfl))
  | (show CallR _ _ _ _ _ _;exact cm) | exact hC | (show Op1 _ _ _ _ _ _ _;exact op_attr P.ok (by rfl) (P.a_row _ (by decide +kernel)) (by rfl))
  | walk_at "mW"))
   change cmpV .NotEq _ _ _=some (lhd w.rows r.self) at hcm
   cases hd:lhd w.rows r.self with
   | true=>
    rw [hd] at hcm
    repeat' (first
  | (show JE _ _ _ _ _ _ _ _;first | apply JE.callBi P.ok P.b_dict boot_dict | apply JE.attr | apply JE.compM1v)
  | (show JM _ _ _ _ _ _ _ _ _ _ _;apply JM.seq)
  | (show Op2 _ _ _ _ _ _ _ _;exact op_kind (by rfl) _)
  | (show JT _ _ _ _ _ _ _ _;exact tests _ (by assumption) _ (by rfl))
  | (show J1 _ _ _ _ _ _ _;apply J1.assign2c)
  | (show CompJ1 _ _ _ _ _ _ _ _ _ _ _;refine CompJ1.each (g:=Row.av N) (q:=fun one=>isD one.trait&&(one.self.ft r.self []).1) (f:=Row.av N) (l:=w.rows) (fun one ho=>⟨_,rfl,?_,fun hq=>?_⟩))
  | (show BI _ _ _ _ _ _ _;exact bi_dictB P.ok hlr) | exact hin | exact hAdt | exact hcm | exact hz1 | (show Op1 _ _ _ _ _ _ _;first | exact op_attr P.ok (by rfl) (P.a_row _ (by decide +kernel)) (by rfl) | exact op_attr P.ok (by rfl) (P.a_world _ (by decide +kernel)) (by rfl))
  | walk_at "mW")
   | false=>
    rw [hd] at hcm
    rw [Bool.false_or]
    have h1a:(w.adts.map fun p=>(p.1,p.2.av N)).lookup r.self.name=some (a.av N):=by rw [adts_lookup P,ha];rfl
    have hza:=zarg_of hok.len
    have hzl:(a.params.zip (r.self.parts.map Ty.av)).length≤sizeLine:=by
     rw [List.length_zip,List.length_map]
     exact Nat.le_trans (Nat.min_le_right _ _) (Nat.le_trans r.self.parts_le (by decide))
    have htb:∀ σ,asD σ (.dct (putAll (a.params.zip (r.self.parts.map Ty.av)) []))=some (tbl (tabOf a.params r.self.parts)):=fun σ=>by
     rw [zip_av]
     refine (?_:some (putAll _ (tbl []))=_)
     rw [putAll_tbl,List.append_nil];rfl
    have hFV:asF (.p (vars a.variants))=some (a.variants.map fun v=>.p (.tuple [.str v.1,.str "tuple",flds v.2])):=congrArg some (List.map_map ..)
    have hFl:∀ v:Str × List (Str × Ty),asF (.p (flds v.2))=some (v.2.map fun p=>.p (.tuple [.str p.1,p.2.av])):=fun v=>congrArg some (List.map_map ..)
    have hmk:mkL (a.variants.flatMap fun v=>v.2.map fun p=>.p (p.2.subst fun n=>(tabOf a.params r.self.parts).lookup n).av)=.p (.list ((heldOf w r.self).map Ty.av)):=by
     rw [hH,← mkL_map]
     congr 1
     simp only [heldV,putF,List.map_flatMap,List.map_map]
     rfl
    have hlen:=heldV_len a r.self a.variants fun v hv=>(hok.flds v hv).1
    have hvl:=hok.vars
    have hzt:(a.variants.flatMap fun v=>v.2.map fun p=>AV.p (p.2.subst fun n=>(tabOf a.params r.self.parts).lookup n).av).length≤sizeLine:=by
     have e:(a.variants.flatMap fun v=>v.2.map fun p=>AV.p (p.2.subst fun n=>(tabOf a.params r.self.parts).lookup n).av)=(heldV a r.self a.variants).map fun t=>AV.p t.av:=by
      simp only [heldV,putF,List.map_flatMap,List.map_map]
      rfl
     rw [e,List.length_map]
     exact Nat.le_trans (Nat.le_trans hlen (Nat.mul_le_mul_left 10 hvl)) (by decide)
    have cput:∀ v∈a.variants,∀ p∈v.2,CallR C (D - 1) N.law_put [.p p.2.av,.dct (putAll (a.params.zip (r.self.parts.map Ty.av)) [])] [] (.ret (.p (p.2.subst fun n=>(tabOf a.params r.self.parts).lookup n).av) []):=fun v hv p hp=>c_law_put P _ _ (htb _) p.2 ((hok.flds v hv).2 p hp).2 _ (by have:=((hok.flds v hv).2 p hp).1;walk_at "o")
    have hF2:asF (.p (.list ((heldOf w r.self).map Ty.av)))=some ((heldOf w r.self).map fun u=>.p u.av):=congrArg some (List.map_map ..)
    have hmk2:mkL (((heldOf w r.self).filter fun u=>!lcF w.rows (boundsOf r) n u).map fun u=>.p u.av)=.p (.list (((heldOf w r.self).filter fun u=>!lcF w.rows (boundsOf r) n u).map Ty.av)):=mkL_map _ _
    have hz2:(((heldOf w r.self).filter fun u=>!lcF w.rows (boundsOf r) n u).map fun u=>AV.p u.av).length≤sizeLine:=by
     rw [List.length_map,hH]
     exact Nat.le_trans (List.length_filter_le ..) (Nat.le_trans (Nat.le_trans hlen (Nat.mul_le_mul_left 10 hvl)) (by decide))
    have hcm2:cmpV .NotEq (.p (.list (((heldOf w r.self).filter fun u=>!lcF w.rows (boundsOf r) n u).map Ty.av))) (.p (.list [])) []=some ((heldOf w r.self).any fun u=>!lcF w.rows (boundsOf r) n u):=by rw [ne_nil rfl,filter_any]
    have ccp:∀ u∈heldOf w r.self,CallR C (D - 1) N.law_copied [.lst (w.rows.map (Row.av N)),.p u.av,.dct (bdv r.params.reverse)] [] (.ret (.p (.bool (lcF w.rows (boundsOf r) n u))) []):=fun u hu=>by
     have:=hw.held r hr h2 u hu
     exact c_law_copied P w.rows (boundsOf r) hw.rows hw.rlen hl.lk n u this.2 (Nat.le_trans this.1.ht (by decide)) _ (by have:=this.1.ht;walk_at "o")
    repeat' (first
  | (show JE _ _ _ _ _ _ _ _;first | apply JE.dictZip P.ok P.b_zip boot_zip | apply JE.callBi P.ok P.b_dict boot_dict | apply JE.attr | apply JE.callFn P.ok P.law_put | apply JE.callFn P.ok P.law_copied | apply JE.compM1v)
  | (show JM _ _ _ _ _ _ _ _ _ _ _;apply JM.seq)
  | (show Op2 _ _ _ _ _ _ _ _;first | exact op_kind (by rfl) _ | exact op_name (by rfl) h2 | exact op_parts (by rfl) h2 | exact op_key (by rfl) (by rfl) h1a)
  | (show JT _ _ _ _ _ _ _ _;exact tests _ (by assumption) _ (by rfl))
  | (show J1 _ _ _ _ _ _ _;first | apply J1.assign2c | apply J1.comp32)
  | (show CompJ0 _ _ _ _ _ _ _ _ _ _;refine CompJ0.each (g:=fun (p:Str × Ty)=>.p (.tuple [.str p.1,p.2.av])) (f:=fun p=>.p (p.2.subst fun n=>(tabOf a.params r.self.parts).lookup n).av) (fun p hp'=>⟨_,rfl,?_⟩))
  | (show CompJ1 _ _ _ _ _ _ _ _ _ _ _;first | refine CompJ1.each (g:=Row.av N) (q:=fun one=>isD one.trait&&(one.self.ft r.self []).1) (f:=Row.av N) (l:=w.rows) (fun one ho=>⟨_,rfl,?_,fun hq=>?_⟩) | refine CompJ1.each (g:=fun (u:Ty)=>.p u.av) (q:=fun u=>!lcF w.rows (boundsOf r) n u) (f:=fun u=>.p u.av) (l:=heldOf w r.self) (fun u hu'=>⟨_,rfl,?_,fun hq=>?_⟩))
  | (show CompJ2 _ _ _ _ _ _ _ _ _ _ _ _;refine CompJ2.each (g:=fun (v:Str × List (Str × Ty))=>.p (.tuple [.str v.1,.str "tuple",flds v.2])) (f:=fun v=>v.2.map fun p=>.p (p.2.subst fun n=>(tabOf a.params r.self.parts).lookup n).av) (l:=a.variants) (fun v hv'=>⟨_,.p (flds v.2),_,rfl,?_,hFl v,rfl,?_⟩))
  | (show BI _ _ _ _ _ _ _;exact bi_dictB P.ok hlr)
  | (show CallR _ _ _ _ _ _;first | with_reducible exact cput _ (by assumption) _ (by assumption) | with_reducible exact ccp _ (by assumption)) | with_reducible exact hin | with_reducible exact hAdt | with_reducible exact hcm | with_reducible exact hcm2 | with_reducible exact P.b_dict | with_reducible exact boot_dict | with_reducible exact hza | with_reducible exact hzl | with_reducible exact hz1 | with_reducible exact hz2 | with_reducible exact hzt | with_reducible exact hF2 | with_reducible exact hFV | with_reducible exact hmk | with_reducible exact hmk2 | (with_reducible show List.all _ _=true;decide +kernel) | (show Op1 _ _ _ _ _ _ _;first | exact op_attr P.ok (by rfl) (P.a_row _ (by decide +kernel)) (by rfl) | exact op_attr P.ok (by rfl) (P.a_world _ (by decide +kernel)) (by rfl) | exact op_attr P.ok (by rfl) (P.a_adt _ (by decide +kernel)) (by rfl))
  | walk_at "mW")
  ·rw [if_neg h2]
   have hAdt:cmpV .NotEq (.p (.str r.self.kind)) (.p (.str "adt")) []=some true:=op_ne (b:=false) (by simp [PyData.depth]) (bne_of h2) rfl
   repeat' (first
  | (show JE _ _ _ _ _ _ _ _;first | apply JE.callBi P.ok P.b_dict boot_dict | apply JE.attr)
  | (show Op2 _ _ _ _ _ _ _ _;exact op_kind (by rfl) _)
  | (show J1 _ _ _ _ _ _ _;apply J1.assign2c)
  | (show BI _ _ _ _ _ _ _;exact bi_dictB P.ok hlr) | exact hin | exact hAdt | (show Op1 _ _ _ _ _ _ _;exact op_attr P.ok (by rfl) (P.a_row _ (by decide +kernel)) (by rfl))
  | walk_at "mW")
end
section
variable {C:Cx} {D n:Nat} {sc scope:Scope} {m m' m1:Mp} {σ σ' σ'':Sto} {v a fv:AV} {c f:Addr}
theorem JE.callL0 (ok:C.Ok) {x:Str} {np pos} (hf:JE C D sc m σ (.Name x np) fv σ) (hk:KeepV C fv) (h:CallV C D fv [] σ (.ret v σ'')):JE C D sc m σ (.Call (.Name x np) [] [] pos) v σ'':=⟨EvE.callL0 ok hf.h hk h⟩
theorem J1.callL0X (ok:C.Ok) {x:Str} {np pos epos} (hf:JE C D sc m σ (.Name x np) fv σ) (hk:KeepV C fv) (h:CallV C D fv [] σ (.exc c σ'')) (hs:∀ env,swapsWith (.Call (.Name x np) [] [] pos) none epos.line env=pure false):J1 C D sc m σ (.Expr (.Call (.Name x np) [] [] pos) epos) (.exc c σ''):=⟨Ex1.exprX (EvX.callL0 ok hf.h hk h) hs⟩
theorem J1.tryNext {body:List Stmt} {h₀:ExceptHandler} {pos:Pos} (h:JS C D sc m σ body (.next m' σ')):J1 C D sc m σ (.Try body [h₀] [] [] pos) (.next m' σ'):=⟨Ex1.tryNext h.h⟩
theorem J1.tryExc (ok:C.Ok) {x:Str} (M:ExcCls C x c f) {body:List Stmt} {b:Bool} {np p1 p2 hpos pos:Pos} {k:Nat} (hk:sc.names.lookup x=some .globalImplicit) (hd:(x == ("__debug__":Str))=false) (h:JS C D sc m σ body (.exc c σ')) :
  J1 C D sc m σ (.Try body [.ExceptHandler (some (.Name x np)) none [.Return (some (.Constant (.bool b) k p1)) p2] hpos] [] [] pos) (.ret (.p (.bool b)) σ'):=⟨Ex1.tryExc ok M hk hd h.h⟩
end
section
variable {C:Cx} {N:Fns} {D:Nat} {σ:Sto} {sc:Scope} {m:Mp} (P:Pg C N)
include P
theorem c_refused_t (fv:AV) (hk:KeepV C fv) (σ':Sto) (h:CallV C D fv [] σ (.exc N.TraitFault σ')):CallR C (D+1) N.law_refused [fv] σ (.ret (.p (.bool true)) σ'):=by
 refine P.law_refused.callJ P.ok rfl ?_
 repeat' (first
  | (show J1 _ _ _ _ _ _ _;first | apply J1.tryExc P.ok P.tf | apply J1.callL0X P.ok) | exact h | exact hk
  | walk_at "mW")
theorem c_refused_f (fv v:AV) (hk:KeepV C fv) (σ':Sto) (h:CallV C D fv [] σ (.ret v σ')):CallR C (D+1) N.law_refused [fv] σ (.ret (.p (.bool false)) σ'):=by
 refine P.law_refused.callJ P.ok rfl ?_
 repeat' (first
  | (show JE _ _ _ _ _ _ _ _;apply JE.callL0 P.ok)
  | (show J1 _ _ _ _ _ _ _;apply J1.tryNext) | exact h | exact hk
  | walk_at "mW")
end
section
variable {C:Cx} {D n:Nat} {sc scope:Scope} {m m' m1:Mp} {σ σ' σ'':Sto} {v a fv:AV} {c f:Addr}
theorem EvE.listT {es:List Expr} {vs:List AV} {pos} (h:EvL C D sc m σ es vs σ') (hn:vs.length≤1000):EvE C D sc m σ (.List es pos) (.loc σ'.length) (σ'++[.lst vs]):=by
 intro A G env hA I K Q E hQ
 refine PyProof.Rows.List_ (h A G env pos hA I K _ _ fun us G' st I' VS=>?_)
 have hl:us.length≤1000:=by rw [VS.length];exact hn
 refine wpAny_newList ?_ (Nat.le_trans hl (by decide))
 have hk:∀ b ob,G'.h.get? b=some ob→(G'.h.push { cls:=.type "list",data:=.seq us.toArray }).get? b=some ob:=fun b ob e=>Heap.get?_push_of_some _ e
 have hr:(G'.r++[G'.sz])[σ'.length]?=some G'.sz:=by rw [← I'.len];simp
 have st2:Step C G'.tr G' (G'.more (G'.h.push { cls:=.type "list",data:=.seq us.toArray }) G'.s.toks [G'.sz]):=more_step hk fun a ha=>by rw [List.mem_singleton.mp ha];exact sz_none
 refine hQ (.ref G'.sz) (G'.more (G'.h.push { cls:=.type "list",data:=.seq us.toArray }) G'.s.toks [G'.sz]) (st.trr I st2) (more_inv I' hk sz_none ?_) (.loc hr)
 exact ⟨_,_,_,Heap.get?_push_size _ rfl,⟨rfl,rfl⟩,rfl,VS.step I' st2 I'.hX⟩
theorem JE.listT {es:List Expr} {vs:List AV} {pos} (h:JL C D sc m σ es vs σ') (hn:vs.length≤1000):JE C D sc m σ (.List es pos) (.loc σ'.length) (σ'++[.lst vs]):=⟨EvE.listT h.h hn⟩
theorem JE.neg {x:Expr} {pos} {i:Int} (h:JE C D sc m σ x (.p (.int i)) σ'):JE C D sc m σ (.UnaryOp .USub x pos) (.p (.int (-i))) σ':=JE.un h op_neg
end
theorem bits_le {b:Int} (h:b.natAbs < 2 ^ 64):Builtin.Int.intBits b≤64:=by
 unfold Builtin.Int.intBits
 split
 ·exact Nat.zero_le _
 ·rename_i hb
  have hb':b.natAbs≠0:=by simpa using hb
  have:=(Nat.log2_lt hb').mpr h
  walk_at "o"
theorem mul_ok {a b:Int} (h:b.natAbs < 2 ^ 64):IntMulOk a b:=IntMulOk.of_right (bits_le h)
theorem mul01 {a:Int} (c:Bool):IntMulOk a (if c=true then 1 else 0):=mul_ok (by cases c<;>decide)
noncomputable abbrev Src2:=Int × Int
noncomputable def srcO (s:Src2):AO:=.lst [.p (.int s.1),.p (.int s.2)]
structure SrcOk (s:Src2):Prop where
 a:0≤s.1
 b:0≤s.2
 c:s.2 < 2147483647
noncomputable def cellAt2 (ns:List Int) (k:Nat):Int:=if k < ns.length then ns.getD k 0 else 0
noncomputable def bigOf (c:Int):Int:=if -1 - c > c then -1 - c else c
theorem bigOf_nonneg (c:Int):0≤bigOf c:=by unfold bigOf;split<;>omega
noncomputable def poolS (ns:List Int) (k:Nat):Src2:=
 (bigOf (cellAt2 ns k) * (if decide ((10:Int) ^ 18≤bigOf (cellAt2 ns k)) then 1 else 0),
  (((bigOf (cellAt2 ns k)).fmod 2147483629+7919 * k * k+31 * k+17) * 48271).fmod 2147483647)
theorem poolS_ok (ns:List Int) (k:Nat):SrcOk (poolS ns k):=by
 refine ⟨?_,Int.fmod_nonneg_of_pos _ (by decide),Int.fmod_lt_of_pos _ (by decide)⟩
 have:=bigOf_nonneg (cellAt2 ns k)
 refine (?_:0≤bigOf _ * _)
 split
 ·rw [Int.mul_one];exact this
 ·rw [Int.mul_zero];exact Int.le_refl _
section
variable {C:Cx} {N:Fns} {D:Nat} {σ:Sto} {sc:Scope} {m:Mp} (P:Pg C N)
theorem bi_lenP {xs:List PyData} (h:xs.length≤sizeLine):BI C D (.builtin "len") [.p (.list xs)] σ (.p (.int xs.length)) σ:=by
 have:=bi_len (C:=C) (D:=D) (σ:=σ) (a:=.p (.list xs)) (l:=xs.map .p) rfl (by rw [List.length_map];exact h)
 rwa [List.length_map] at this
include P
theorem c_pool (ns:List Int) (k:Nat) (hk:k≤10) (hz:ns.length≤100) (D:Nat) (hD:1≤D):CallR C D N.law_pool [.p (.list (ns.map .int)),.p (.int k)] σ (.ret (.loc σ.length) (σ++[srcO (poolS ns k)])):=by
 refine CallR.le (D:=D - 1+1) (P.law_pool.callJ P.ok rfl ?_) (by walk_at "o")
 have hl:=bi_lenP (C:=C) (D:=D - 1) (σ:=σ) (xs:=ns.map .int) (by rw [List.length_map];exact Nat.le_trans hz (by decide))
 rw [List.length_map] at hl
 have hlt:cmpV .Lt (.p (.int (k:Int))) (.p (.int (ns.length:Int))) σ=some (decide (k < ns.length)):=by
  refine (?_:some (decide ((k:Int) < (ns.length:Int)))=_)
  congr 1;simp
 have hge:∀ b:Int,cmpV .GtE (.p (.int b)) (.p (.int ((10:Int) ^ (18:Int).toNat))) σ=some (decide ((10:Int) ^ 18≤b)):=fun b=>rfl
 have hkk:(k:Int).natAbs < 2 ^ 64:=by walk_at "o"
 have b1:∀ b:Int,BI C (D - 1) (.type "int") [.p (.int b)] σ (.p (.int b)) σ:=fun b=>bi_int
 unfold poolS cellAt2
 by_cases h:k < ns.length
 ·rw [decide_eq_true h] at hlt
  rw [if_pos h]
  have hit:((ns.map PyData.int).map AV.p)[((k:Int)).toNat]?=some (.p (.int (ns.getD k 0))):=by
   refine (?_:((ns.map PyData.int).map AV.p)[k]?=_)
   rw [List.getElem?_map,List.getElem?_map,List.getD,List.getElem?_eq_getElem h];rfl
  repeat' (first
  | (show JE _ _ _ _ _ _ _ _;first | apply JE.callBi P.ok P.b_len boot_len | apply JE.callBi P.ok P.b_max boot_max | apply JE.callBi P.ok P.b_int boot_int | apply JE.neg | apply JE.listT)
  | (show Op2 _ _ _ _ _ _ _ _;first | exact op_item (by rfl) (by rfl) (Int.natCast_nonneg k) (by walk_at "o") hit | with_reducible exact op_add | with_reducible exact op_sub | with_reducible exact op_mul (mul_ok hkk) | with_reducible exact op_mul (mul_ok (by decide)) | with_reducible exact op_mul (mul01 _) | with_reducible exact op_mod (by decide) | with_reducible exact op_pow (by decide) (by decide) (by decide))
  | (show BI _ _ _ _ _ _ _;exact hl) | exact hlt | exact hge _
  | walk_at "mW")
 ·rw [decide_eq_false h] at hlt
  rw [if_neg h]
  repeat' (first
  | (show JE _ _ _ _ _ _ _ _;first | apply JE.callBi P.ok P.b_len boot_len | apply JE.callBi P.ok P.b_max boot_max | apply JE.callBi P.ok P.b_int boot_int | apply JE.neg | apply JE.listT)
  | (show Op2 _ _ _ _ _ _ _ _;first | with_reducible exact op_add | with_reducible exact op_sub | with_reducible exact op_mul (mul_ok hkk) | with_reducible exact op_mul (mul_ok (by decide)) | with_reducible exact op_mul (mul01 _) | with_reducible exact op_mod (by decide) | with_reducible exact op_pow (by decide) (by decide) (by decide))
  | (show BI _ _ _ _ _ _ _;exact hl) | exact hlt | exact hge _
  | walk_at "mW")
end
noncomputable def drawN (s:Src2) (n:Nat):Int × Src2:=
 if 0 < s.1 then (s.1.fmod n,(s.1.fdiv n,s.2))
 else
  let b:=(s.2 * 39373+7).fmod 2147483647
  ((((b * b).fmod 2147483629).fdiv 32).fmod n,(s.1,b))
theorem drawN_ok {s:Src2} (h:SrcOk s) {n:Nat} (hn:0 < n):0≤(drawN s n).1∧(drawN s n).1 < n∧SrcOk (drawN s n).2:=by
 have hn':(0:Int) < n:=by walk_at "o"
 unfold drawN
 by_cases h0:0 < s.1
 ·rw [if_pos h0]
  refine ⟨Int.fmod_nonneg_of_pos _ hn',Int.fmod_lt_of_pos _ hn',⟨?_,h.b,h.c⟩⟩
  exact Int.fdiv_nonneg (Int.le_of_lt h0) (Int.le_of_lt hn')
 ·rw [if_neg h0]
  exact ⟨Int.fmod_nonneg_of_pos _ hn',Int.fmod_lt_of_pos _ hn',⟨h.a,Int.fmod_nonneg_of_pos _ (by decide),Int.fmod_lt_of_pos _ (by decide)⟩⟩
section
variable {C:Cx} {N:Fns} {D:Nat} {σ:Sto} {sc:Scope} {m:Mp} (P:Pg C N)
theorem eqInt {n:Int} {k:Int}:cmpV .Eq (.p (.int n)) (.p (.int k)) σ=some (n == k):=op_eq (by simp [PyData.depth]) rfl rfl
include P
theorem c_take (s:Src2) (h:SrcOk s) (n:Nat) (hn:0 < n) (hn2:n≤1000) (i:Nat) (hi:σ[i]?=some (srcO s)) (D:Nat) (hD:1≤D):CallR C D N.law_take [.loc i,.p (.int n)] σ (.ret (.p (.int (drawN s n).1)) (σ.set i (srcO (drawN s n).2))):=by
 refine CallR.le (D:=D - 1+1) (P.law_take.callJ P.ok rfl ?_) (by walk_at "o")
 have hseq:asSeq σ (.loc i)=some [.p (.int s.1),.p (.int s.2)]:=by refine (?_:(σ[i]?).bind lO=_);rw [hi];rfl
 have hgt:cmpV .Gt (.p (.int s.1)) (.p (.int 0)) σ=some (decide (0 < s.1)):=rfl
 have hn0:(n:Int)≠0:=by walk_at "o"
 have hnb:(n:Int).natAbs < 1073741824:=by walk_at "o"
 unfold drawN
 by_cases h0:0 < s.1
 ·rw [decide_eq_true h0] at hgt
  rw [if_pos h0]
  repeat' (first
  | (show JE _ _ _ _ _ _ _ _;apply JE.callBi P.ok P.b_int boot_int)
  | (show Op2 _ _ _ _ _ _ _ _;first | exact op_item (by rfl) hseq (by decide) (by decide) (by rfl) | with_reducible exact op_mod hn0 | with_reducible exact op_div hn0 hnb)
  | (show J1 _ _ _ _ _ _ _;apply J1.setIx) | exact hgt | exact hi | decide
  | walk_at "mW")
 ·rw [decide_eq_false h0] at hgt
  rw [if_neg h0]
  have hb1:0≤(s.2 * 39373+7).fmod 2147483647:=Int.fmod_nonneg_of_pos _ (by decide)
  have hb2:(s.2 * 39373+7).fmod 2147483647 < 2147483647:=Int.fmod_lt_of_pos _ (by decide)
  have hset:(σ.set i (.lst [.p (.int s.1),.p (.int ((s.2 * 39373+7).fmod 2147483647))]))=(σ.set i (srcO (s.1,(s.2 * 39373+7).fmod 2147483647))):=rfl
  have hseq2:asSeq (σ.set i (.lst [.p (.int s.1),.p (.int ((s.2 * 39373+7).fmod 2147483647))])) (.loc i)=some [.p (.int s.1),.p (.int ((s.2 * 39373+7).fmod 2147483647))]:=by
   refine (?_:Option.bind ((σ.set i _)[i]?) lO=_)
   rw [get_set hi];rfl
  repeat' (first
  | (show JE _ _ _ _ _ _ _ _;apply JE.callBi P.ok P.b_int boot_int)
  | (show Op2 _ _ _ _ _ _ _ _;first | exact op_item (by rfl) hseq (by decide) (by decide) (by rfl) | exact op_item (by rfl) hseq2 (by decide) (by decide) (by rfl) | with_reducible exact op_mod hn0 | with_reducible exact op_mod (by decide) | with_reducible exact op_add | with_reducible exact op_mul (mul_ok (by decide)) | with_reducible exact op_mul (mul_ok (by walk_at "o")) | with_reducible exact op_div (by decide) (by decide))
  | (show J1 _ _ _ _ _ _ _;apply J1.setIx) | exact hgt | exact hi | decide
  | walk_at "mW")
end
theorem draw_at {α:Type} (s:Src2) (hs:SrcOk s) (l:List α) (h:0 < l.length):∃ x∈l,l[(drawN s l.length).1.toNat]?=some x:=by
 refine Zaa (drawN_ok hs h) fun h0 h1 _=>?_
 have hlt:(drawN s l.length).1.toNat < l.length:=by walk_at "o"
 exact ⟨_,List.getElem_mem hlt,List.getElem?_eq_getElem hlt⟩
structure DrawT (d:Nat) (names:List Str) (t:Ty):Prop where
 ht:t.ht≤d
 regs:∀ r∈t.regs,r=stat
 names:∀ x∈t.names,x∈names
section
variable {C:Cx} {N:Fns} {D:Nat} {σ:Sto} {sc:Scope} {m:Mp} (P:Pg C N)
theorem op_pred {d:Nat}:Op2 C D (binaryOp .Sub) (.p (.int ((d+1:Nat):Int))) (.p (.int 1)) σ (.p (.int (d:Int))) σ:=by
 have h:=op_sub (C:=C) (D:=D) (σ:=σ) (i:=((d+1:Nat):Int)) (j:=1)
 have e:((d+1:Nat):Int) - 1=(d:Int):=by walk_at "o"
 rwa [e] at h
theorem ltInt {x y:Int}:cmpV .Lt (.p (.int x)) (.p (.int y)) σ=some (decide (x < y)):=rfl
theorem gtInt {x y:Int}:cmpV .Gt (.p (.int x)) (.p (.int y)) σ=some (decide (y < x)):=rfl
include P
theorem JE.lnum {pos} (hk:sc.names.lookup ("_law_num":Str)=some .globalImplicit):JE C D sc m σ (.Name "_law_num" pos) (.p Ty.num.av) σ:=by
 refine Zea P.lnum fun u h1 h2=>?_
 exact ⟨EvE.glob (gl:=fun y=>if y="_law_num" then some (.p Ty.num.av) else none) P.ok (fun y v h=>by
  by_cases hy:y="_law_num"
  ·subst hy;simp at h;subst h;exact ⟨u,h1,h2⟩
  ·simp [hy] at h) (by simp) hk (by rfl)⟩
theorem c_one (s:Src2) (h:SrcOk s) (things:AV) (l:List AV) (hl:∀ σ,asSeq σ things=some l) (h1:0 < l.length) (h2:l.length≤1000) (x:AV) (hx:l[(drawN s l.length).1.toNat]?=some x) (i:Nat) (hi:σ[i]?=some (srcO s)) (D:Nat) (hD:2≤D):CallR C D N.law_one [.loc i,things] σ (.ret x (σ.set i (srcO (drawN s l.length).2))):=by
 refine CallR.le (D:=D - 1+1) (P.law_one.callJ P.ok rfl ?_) (by walk_at "o")
 have ct:=c_take P (σ:=σ) s h l.length h1 h2 i hi (D - 1) (by walk_at "o")
 have bl:=bi_len (C:=C) (D:=D - 1) (hl σ) (Nat.le_trans h2 (by decide))
 refine Zaa (drawN_ok h h1) fun k0 k1 _=>?_
 repeat' (first
  | (show JE _ _ _ _ _ _ _ _;first | apply JE.callBi P.ok P.b_len boot_len | apply JE.callFn P.ok P.law_take)
  | (show Op2 _ _ _ _ _ _ _ _;exact op_item (by rfl) (hl _) k0 (by walk_at "o") hx)
  | (show BI _ _ _ _ _ _ _;exact bl)
  | (show CallR _ _ _ _ _ _;exact ct)
  | walk_at "mW")
theorem ty_skip (m:Mp) (n:Int) (names:List Str) (hw:m.lookup ("way":Str)=some (.p (.int n))) (hm:m.lookup ("names":Str)=some (.p (.list (names.map .str)))) (hA:¬ (n < 3∧names≠[])):J1 C D (scopeAt 34) m σ (stAt 34 1) (.next m σ):=by
 have h3:=ltInt (σ:=σ) (x:=n) (y:=3)
 by_cases h:n < 3
 ·have hn:names=[]:=Decidable.byContradiction fun q=>hA ⟨h,q⟩
  subst hn
  rw [decide_eq_true h] at h3
  repeat' (first
  | (show JE _ _ _ _ _ _ _ _;first | exact JE.name (v:=.p (.int n)) hw (by first | exact .inl (by rfl) | exact .inr (.inl (by rfl)) | exact .inr (.inr (by rfl))) (by rfl) (by rfl) | exact JE.name (v:=.p (.list [])) hm (by first | exact .inl (by rfl) | exact .inr (.inl (by rfl)) | exact .inr (.inr (by rfl))) (by rfl) (by rfl)) | exact h3
  | walk_at "mW")
 ·rw [decide_eq_false h] at h3
  repeat' (first
  | (show JE _ _ _ _ _ _ _ _;exact JE.name (v:=.p (.int n)) hw (by first | exact .inl (by rfl) | exact .inr (.inl (by rfl)) | exact .inr (.inr (by rfl))) (by rfl) (by rfl)) | exact h3
  | walk_at "mW")
noncomputable def TypeC (C:Cx) (N:Fns) (names:List Str) (d:Nat):Prop:=∀ s,SrcOk s→∃ t s',DrawT d names t∧SrcOk s'∧∀ (σ:Sto) i,σ[i]?=some (srcO s)→∀ D,3+d≤D→CallR C D N.law_type [.loc i,.p (.int (d:Int)),.p (.list (names.map .str))] σ (.ret (.p t.av) (σ.set i (srcO s')))
noncomputable def waysOf (d:Nat):Nat:=if 0 < d then 10 else 4
theorem type_par (names:List Str) (hz:names.length≤10) (d:Nat) (s:Src2) (h:SrcOk s) (hA:(drawN s (waysOf d)).1 < 3∧names≠[]):∃ t s',DrawT d names t∧SrcOk s'∧∀ (σ:Sto) i,σ[i]?=some (srcO s)→∀ D,3+d≤D→CallR C D N.law_type [.loc i,.p (.int (d:Int)),.p (.list (names.map .str))] σ (.ret (.p t.av) (σ.set i (srcO s'))):=by
 have hwp:0 < waysOf d:=by unfold waysOf;split<;>decide
 have hwl:waysOf d≤1000:=by unfold waysOf;split<;>decide
 have ok1:=(drawN_ok h hwp).2.2
 have hnp:0 < (names.map fun n=>AV.p (.str n)).length:=by rw [List.length_map];exact List.length_pos_iff.mpr hA.2
 refine Zea (draw_at _ ok1 _ hnp) fun x hx hget=>?_
 refine Zea (List.mem_map.mp hx) fun nm hnm z7=>?_
 obtain rfl:=z7
 refine ⟨.par nm,_,⟨Nat.zero_le _,(fun r hr=>nomatch hr),fun y hy=>by rw [List.mem_singleton.mp hy];exact hnm⟩,(drawN_ok ok1 hnp).2.2,fun σ i hi D hD=>?_⟩
 refine CallR.le (D:=D - 1+1) (P.law_type.callJ P.ok rfl ?_) (by walk_at "o")
 have ct:=c_take P (σ:=σ) s h (waysOf d) hwp hwl i hi (D - 1) (by walk_at "o")
 have hl:∀ σ,asSeq σ (.p (.list (names.map .str)))=some (names.map fun n=>.p (.str n)):=fun σ=>congrArg some (List.map_map ..)
 have co:=c_one P (σ:=σ.set i (srcO (drawN s (waysOf d)).2)) _ ok1 _ _ hl hnp (by rw [List.length_map];walk_at "o") _ hget i (get_set hi) (D - 1) (by walk_at "o")
 rw [List.set_set] at co
 have h3:=ltInt (σ:=σ.set i (srcO (drawN s (waysOf d)).2)) (x:=(drawN s (waysOf d)).1) (y:=3)
 rw [decide_eq_true hA.1] at h3
 have hne:cmpV .NotEq (.p (.list (names.map .str))) (.p (.list [])) (σ.set i (srcO (drawN s (waysOf d)).2))=some true:=by
  rw [ne_nil rfl]
  cases names with
  | nil=>exact absurd rfl hA.2
  | cons _ _=>rfl
 cases d with
 | zero=>
  have g:cmpV .Gt (.p (.int ((0:Nat):Int))) (.p (.int 0)) σ=some false:=rfl
  have ct:CallR C (D - 1) N.law_take [.loc i,.p (.int 4)] σ _:=ct
  repeat' (first
  | (show JE _ _ _ _ _ _ _ _;first | apply JE.callFn P.ok P.law_take | apply JE.callFn P.ok P.law_one | apply JE.callFn P.ok P.law_type | exact JE.lnum P (by rfl))
  | (show CallR _ _ _ _ _ _;first | exact ct | exact co) | exact g | exact h3 | exact hne
  | walk_at "mW")
 | succ d=>
  have g:cmpV .Gt (.p (.int ((d+1:Nat):Int))) (.p (.int 0)) σ=some true:=by rw [gtInt];congr 1;exact decide_eq_true (by walk_at "o")
  have ct:CallR C (D - 1) N.law_take [.loc i,.p (.int 10)] σ _:=ct
  repeat' (first
  | (show JE _ _ _ _ _ _ _ _;first | apply JE.callFn P.ok P.law_take | apply JE.callFn P.ok P.law_one | apply JE.callFn P.ok P.law_type | exact JE.lnum P (by rfl))
  | (show CallR _ _ _ _ _ _;first | exact ct | exact co) | exact g | exact h3 | exact hne
  | walk_at "mW")
noncomputable def leaves:List Ty:=[.num,.bool,.c0]
theorem type_leaf (names:List Str) (d:Nat) (s:Src2) (h:SrcOk s) (hA:¬ ((drawN s (waysOf d)).1 < 3∧names≠[])) (h4:(drawN s (waysOf d)).1 < 4):∃ t s',DrawT d names t∧SrcOk s'∧∀ (σ:Sto) i,σ[i]?=some (srcO s)→∀ D,3+d≤D→CallR C D N.law_type [.loc i,.p (.int (d:Int)),.p (.list (names.map .str))] σ (.ret (.p t.av) (σ.set i (srcO s'))):=by
 have hwp:0 < waysOf d:=by unfold waysOf;split<;>decide
 have hwl:waysOf d≤1000:=by unfold waysOf;split<;>decide
 have ok1:=(drawN_ok h hwp).2.2
 have hnp:0 < (leaves.map fun t=>AV.p t.av).length:=by decide
 refine Zea (draw_at _ ok1 _ hnp) fun x hx hget=>?_
 refine Zea (List.mem_map.mp hx) fun t ht z6=>?_
 obtain rfl:=z6
 have hleaf:t.ht=0∧t.regs=[]∧t.names=[]:=by
  simp only [leaves,List.mem_cons,List.not_mem_nil,or_false] at ht
  rcases ht with rfl | rfl | rfl<;>exact ⟨rfl,rfl,rfl⟩
 refine ⟨t,_,⟨by rw [hleaf.1];exact Nat.zero_le _,(fun r hr=>by rw [hleaf.2.1] at hr;exact nomatch hr),(fun y hy=>by rw [hleaf.2.2] at hy;exact nomatch hy)⟩,(drawN_ok ok1 hnp).2.2,fun σ i hi D hD=>?_⟩
 refine CallR.le (D:=D - 1+1) (P.law_type.callJ P.ok rfl ?_) (by walk_at "o")
 have ct:=c_take P (σ:=σ) s h (waysOf d) hwp hwl i hi (D - 1) (by walk_at "o")
 have co:=c_one P (σ:=σ.set i (srcO (drawN s (waysOf d)).2)) _ ok1 (.p (.list (leaves.map Ty.av))) _ (fun _=>rfl) hnp (by decide) _ hget i (get_set hi) (D - 1) (by walk_at "o")
 rw [List.set_set] at co
 have co:CallR C (D - 1) N.law_one [.loc i,.p (.list [Ty.num.av,.tuple [.str "bool"],.tuple [.str "adt",.str "C",.tuple [],.tuple []]])] _ _:=co
 have h4:=(ltInt (σ:=σ.set i (srcO (drawN s (waysOf d)).2)) (x:=(drawN s (waysOf d)).1) (y:=4)).trans (congrArg some (decide_eq_true h4))
 have sk:=fun m hw hm=>ty_skip (D:=D - 1) P (σ:=σ.set i (srcO (drawN s (waysOf d)).2)) m (drawN s (waysOf d)).1 names hw hm hA
 cases d with
 | zero=>
  have g:cmpV .Gt (.p (.int ((0:Nat):Int))) (.p (.int 0)) σ=some false:=rfl
  have ct:CallR C (D - 1) N.law_take [.loc i,.p (.int 4)] σ _:=ct
  repeat' (first
  | (show JE _ _ _ _ _ _ _ _;first | apply JE.callFn P.ok P.law_take | apply JE.callFn P.ok P.law_one | apply JE.callFn P.ok P.law_type | exact JE.lnum P (by rfl))
  | (show J1 _ _ _ _ _ _ _;exact sk _ (by rfl) (by rfl))
  | (show JS _ _ _ _ _ _ _;apply JS.seq)
  | (show CallR _ _ _ _ _ _;first | exact ct | exact co) | exact g | exact h4
  | walk_at "mW")
 | succ d=>
  have g:cmpV .Gt (.p (.int ((d+1:Nat):Int))) (.p (.int 0)) σ=some true:=by rw [gtInt];congr 1;exact decide_eq_true (by walk_at "o")
  have ct:CallR C (D - 1) N.law_take [.loc i,.p (.int 10)] σ _:=ct
  repeat' (first
  | (show JE _ _ _ _ _ _ _ _;first | apply JE.callFn P.ok P.law_take | apply JE.callFn P.ok P.law_one | apply JE.callFn P.ok P.law_type | exact JE.lnum P (by rfl))
  | (show J1 _ _ _ _ _ _ _;exact sk _ (by rfl) (by rfl))
  | (show JS _ _ _ _ _ _ _;apply JS.seq)
  | (show CallR _ _ _ _ _ _;first | exact ct | exact co) | exact g | exact h4
  | walk_at "mW")
end
section
variable {C:Cx} {N:Fns} {D:Nat} {σ:Sto} {sc:Scope} {m:Mp} (P:Pg C N)
theorem eqInt' {x y:Int} {b:Bool} (h:(x == y)=b):cmpV .Eq (.p (.int x)) (.p (.int y)) σ=some b:=by rw [eqInt,h]
include P
theorem c_type (names:List Str) (hz:names.length≤10):∀ d,TypeC C N names d:=by
 intro d
 induction d with
 | zero=>
  intro s h
  by_cases hA:(drawN s (waysOf 0)).1 < 3∧names≠[]
  ·exact type_par P names hz 0 s h hA
  ·exact type_leaf P names 0 s h hA (drawN_ok h (n:=4) (by decide)).2.1
 | succ d ih=>
  intro s h
  by_cases hA:(drawN s 10).1 < 3∧names≠[]
  ·exact type_par P names hz (d+1) s h hA
  by_cases h4:(drawN s 10).1 < 4
  ·exact type_leaf P names (d+1) s h hA h4
  have ok1:=(drawN_ok h (n:=10) (by decide)).2.2
  refine Zeeaa (ih _ ok1) fun t s2 ht ok2 ci=>?_
  have pre:∀ (σ:Sto) i,σ[i]?=some (srcO s)→∀ D,3+(d+1)≤D →
    cmpV .Gt (.p (.int ((d+1:Nat):Int))) (.p (.int 0)) σ=some true ∧
    cmpV .Lt (.p (.int (drawN s 10).1)) (.p (.int 4)) (σ.set i (srcO (drawN s 10).2))=some false ∧
    CallR C (D - 1) N.law_take [.loc i,.p (.int 10)] σ (.ret (.p (.int (drawN s 10).1)) (σ.set i (srcO (drawN s 10).2))) ∧
    CallR C (D - 1) N.law_type [.loc i,.p (.int (d:Int)),.p (.list (names.map .str))] (σ.set i (srcO (drawN s 10).2)) (.ret (.p t.av) (σ.set i (srcO s2))) ∧
    (∀ m:Mp,m.lookup ("way":Str)=some (.p (.int (drawN s 10).1))→m.lookup ("names":Str)=some (.p (.list (names.map .str)))→J1 C (D - 1) (scopeAt 34) m (σ.set i (srcO (drawN s 10).2)) (stAt 34 1) (.next m (σ.set i (srcO (drawN s 10).2)))):=by
   intro σ i hi D hD
   have cin:=ci (σ.set i (srcO (drawN s 10).2)) i (get_set hi) (D - 1) (by walk_at "o")
   rw [List.set_set] at cin
   exact ⟨by rw [gtInt];congr 1;exact decide_eq_true (by walk_at "o"),(ltInt ..).trans (congrArg some (decide_eq_false h4)),c_take P (σ:=σ) s h 10 (by decide) (by decide) i hi (D - 1) (by walk_at "o"),cin,fun m hw hm=>ty_skip P m _ names hw hm hA⟩
  by_cases e4:(drawN s 10).1=4
  ·refine ⟨.ref stat ((drawN s2 2).1 == 0) t,(drawN s2 2).2,⟨Nat.succ_le_succ ht.ht,(fun r hr=>(List.mem_cons.mp hr).elim id (ht.regs r)),ht.names⟩,(drawN_ok ok2 (n:=2) (by decide)).2.2,fun σ i hi D hD=>?_⟩
   refine Zaaaa (pre σ i hi D hD) fun g h4 ct cin sk=>?_
   refine CallR.le (D:=D - 1+1) (P.law_type.callJ P.ok rfl ?_) (by walk_at "o")
   have q4:cmpV .Eq (.p (.int (drawN s 10).1)) (.p (.int 4)) (σ.set i (srcO s2))=some true:=eqInt' (by rw [e4];rfl)
   have ck:=c_take P (σ:=σ.set i (srcO s2)) s2 ok2 2 (by decide) (by decide) i (get_set hi) (D - 1) (by walk_at "o")
   rw [List.set_set] at ck
   have ck:CallR C (D - 1) N.law_take [.loc i,.p (.int 2)] _ _:=ck
   have qe:=eqInt (σ:=σ.set i (srcO (drawN s2 2).2)) (n:=(drawN s2 2).1) (k:=0)
   repeat' (first
  | (show JE _ _ _ _ _ _ _ _;first | apply JE.callFn P.ok P.law_take | apply JE.callFn P.ok P.law_one | apply JE.callFn P.ok P.law_type | exact JE.lnum P (by rfl))
  | (show Op2 _ _ _ _ _ _ _ _;with_reducible exact op_pred)
  | (show J1 _ _ _ _ _ _ _;exact sk _ (by rfl) (by rfl))
  | (show JS _ _ _ _ _ _ _;apply JS.seq)
  | (show CallR _ _ _ _ _ _;first | exact ct | exact cin | exact ck) | exact g | exact h4 | exact q4 | exact qe
  | walk_at "mW")
  by_cases e5:(drawN s 10).1=5
  ·have hnp:0 < ([Ty.box t,Ty.arr t].map fun t=>AV.p t.av).length:=by simp
   refine Zea (draw_at _ ok2 _ hnp) fun x hx hget=>?_
   refine Zea (List.mem_map.mp hx) fun u hu z8=>?_
   obtain rfl:=z8
   have hu':DrawT (d+1) names u:=by
    simp only [List.mem_cons,List.not_mem_nil,or_false] at hu
    rcases hu with rfl | rfl<;>exact ⟨Nat.succ_le_succ ht.ht,ht.regs,ht.names⟩
   refine ⟨u,_,hu',(drawN_ok ok2 hnp).2.2,fun σ i hi D hD=>?_⟩
   refine Zaaaa (pre σ i hi D hD) fun g h4 ct cin sk=>?_
   refine CallR.le (D:=D - 1+1) (P.law_type.callJ P.ok rfl ?_) (by walk_at "o")
   have q4:cmpV .Eq (.p (.int (drawN s 10).1)) (.p (.int 4)) (σ.set i (srcO s2))=some false:=eqInt' (by simpa using e4)
   have q5:cmpV .Eq (.p (.int (drawN s 10).1)) (.p (.int 5)) (σ.set i (srcO s2))=some true:=eqInt' (by rw [e5];rfl)
   have co:=c_one P (σ:=σ.set i (srcO s2)) s2 ok2 (.p (.list [(Ty.box t).av,(Ty.arr t).av])) _ (fun _=>rfl) hnp (by simp) _ hget i (get_set hi) (D - 1) (by walk_at "o")
   rw [List.set_set] at co
   repeat' (first
  | (show JE _ _ _ _ _ _ _ _;first | apply JE.callFn P.ok P.law_take | apply JE.callFn P.ok P.law_one | apply JE.callFn P.ok P.law_type | exact JE.lnum P (by rfl))
  | (show Op2 _ _ _ _ _ _ _ _;with_reducible exact op_pred)
  | (show J1 _ _ _ _ _ _ _;exact sk _ (by rfl) (by rfl))
  | (show JS _ _ _ _ _ _ _;apply JS.seq)
  | (show CallR _ _ _ _ _ _;first | exact ct | exact cin | exact co) | exact g | exact h4 | exact q4 | exact q5
  | walk_at "mW")
  by_cases e6:(drawN s 10).1=6
  ·refine ⟨.tup .num t,s2,⟨by have:=ht.ht;simp only [Ty.ht];walk_at "o",ht.regs,ht.names⟩,ok2,fun σ i hi D hD=>?_⟩
   refine Zaaaa (pre σ i hi D hD) fun g h4 ct cin sk=>?_
   refine CallR.le (D:=D - 1+1) (P.law_type.callJ P.ok rfl ?_) (by walk_at "o")
   have q4:cmpV .Eq (.p (.int (drawN s 10).1)) (.p (.int 4)) (σ.set i (srcO s2))=some false:=eqInt' (by simpa using e4)
   have q5:cmpV .Eq (.p (.int (drawN s 10).1)) (.p (.int 5)) (σ.set i (srcO s2))=some false:=eqInt' (by simpa using e5)
   have q6:cmpV .Eq (.p (.int (drawN s 10).1)) (.p (.int 6)) (σ.set i (srcO s2))=some true:=eqInt' (by rw [e6];rfl)
   repeat' (first
  | (show JE _ _ _ _ _ _ _ _;first | apply JE.callFn P.ok P.law_take | apply JE.callFn P.ok P.law_one | apply JE.callFn P.ok P.law_type | exact JE.lnum P (by rfl))
  | (show Op2 _ _ _ _ _ _ _ _;with_reducible exact op_pred)
  | (show J1 _ _ _ _ _ _ _;exact sk _ (by rfl) (by rfl))
  | (show JS _ _ _ _ _ _ _;apply JS.seq)
  | (show CallR _ _ _ _ _ _;first | exact ct | exact cin) | exact g | exact h4 | exact q4 | exact q5 | exact q6
  | walk_at "mW")
  by_cases e9:(drawN s 10).1 < 9
  ·refine ⟨.c1 t,s2,⟨Nat.succ_le_succ ht.ht,ht.regs,ht.names⟩,ok2,fun σ i hi D hD=>?_⟩
   refine Zaaaa (pre σ i hi D hD) fun g h4 ct cin sk=>?_
   refine CallR.le (D:=D - 1+1) (P.law_type.callJ P.ok rfl ?_) (by walk_at "o")
   have q4:cmpV .Eq (.p (.int (drawN s 10).1)) (.p (.int 4)) (σ.set i (srcO s2))=some false:=eqInt' (by simpa using e4)
   have q5:cmpV .Eq (.p (.int (drawN s 10).1)) (.p (.int 5)) (σ.set i (srcO s2))=some false:=eqInt' (by simpa using e5)
   have q6:cmpV .Eq (.p (.int (drawN s 10).1)) (.p (.int 6)) (σ.set i (srcO s2))=some false:=eqInt' (by simpa using e6)
   have q9:cmpV .Lt (.p (.int (drawN s 10).1)) (.p (.int 9)) (σ.set i (srcO s2))=some true:=(ltInt ..).trans (congrArg some (decide_eq_true e9))
   repeat' (first
  | (show JE _ _ _ _ _ _ _ _;first | apply JE.callFn P.ok P.law_take | apply JE.callFn P.ok P.law_one | apply JE.callFn P.ok P.law_type | exact JE.lnum P (by rfl))
  | (show Op2 _ _ _ _ _ _ _ _;with_reducible exact op_pred)
  | (show J1 _ _ _ _ _ _ _;exact sk _ (by rfl) (by rfl))
  | (show JS _ _ _ _ _ _ _;apply JS.seq)
  | (show CallR _ _ _ _ _ _;first | exact ct | exact cin) | exact g | exact h4 | exact q4 | exact q5 | exact q6 | exact q9
  | walk_at "mW")
  ·refine ⟨.c2 t .num,s2,⟨by have:=ht.ht;simp only [Ty.ht];walk_at "o",(fun r hr=>(List.mem_append.mp hr).elim (ht.regs r) fun q=>nomatch q),(fun x hx=>(List.mem_append.mp hx).elim (ht.names x) fun q=>nomatch q)⟩,ok2,fun σ i hi D hD=>?_⟩
   refine Zaaaa (pre σ i hi D hD) fun g h4 ct cin sk=>?_
   refine CallR.le (D:=D - 1+1) (P.law_type.callJ P.ok rfl ?_) (by walk_at "o")
   have q4:cmpV .Eq (.p (.int (drawN s 10).1)) (.p (.int 4)) (σ.set i (srcO s2))=some false:=eqInt' (by simpa using e4)
   have q5:cmpV .Eq (.p (.int (drawN s 10).1)) (.p (.int 5)) (σ.set i (srcO s2))=some false:=eqInt' (by simpa using e5)
   have q6:cmpV .Eq (.p (.int (drawN s 10).1)) (.p (.int 6)) (σ.set i (srcO s2))=some false:=eqInt' (by simpa using e6)
   have q9:cmpV .Lt (.p (.int (drawN s 10).1)) (.p (.int 9)) (σ.set i (srcO s2))=some false:=(ltInt ..).trans (congrArg some (decide_eq_false e9))
   repeat' (first
  | (show JE _ _ _ _ _ _ _ _;first | apply JE.callFn P.ok P.law_take | apply JE.callFn P.ok P.law_one | apply JE.callFn P.ok P.law_type | exact JE.lnum P (by rfl))
  | (show Op2 _ _ _ _ _ _ _ _;with_reducible exact op_pred)
  | (show J1 _ _ _ _ _ _ _;exact sk _ (by rfl) (by rfl))
  | (show JS _ _ _ _ _ _ _;apply JS.seq)
  | (show CallR _ _ _ _ _ _;first | exact ct | exact cin) | exact g | exact h4 | exact q4 | exact q5 | exact q6 | exact q9
  | walk_at "mW")
end
section
variable {C:Cx} {D n:Nat} {sc scope:Scope} {m m' m1 m2:Mp} {σ σ' σ'' σ1 σ2:Sto} {v v' a fv:AV} {c:Addr}
theorem CallV.frz {vs:List AV} (h:CallV C D fv vs σ (.ret v σ')) (hn:σ.length≤n) (hb:∀ o∈σ'.take n,belO n o=true) (hz:Fz σ' n v v') (he:σ'.take n=σ''):CallV C D fv vs σ (.ret v' σ''):=he▸fun A G u us hA I SK V VS Q E hQ=>
 h A G u us hA I SK V VS Q E fun r G' st I' V'=>hQ r (G'.frz n) (frz_step st (by rw [I.len];exact hn)) (frz_inv I' hb) (V'.frz I' hz)
theorem J1.setAttrE (ok:C.Ok) {ob val:Expr} {name:Str} {ap pos:Pos} {l:Mp} (h0:JE C D sc m σ1 val v σ2) (h1:JE C D sc m σ2 ob (.loc (σ.length+1)) (σ++[.att l,.ins c σ.length])) (cs:ClsSet C c name) (hl:l.length < 1000) (hs:∀ env,swapsWith val (some (.Attribute ob name ap)) pos.line env=pure false) :
  J1 C D sc m σ1 (.Assign [.Attribute ob name ap] val pos) (.next m (σ++[.att (putA name v l),.ins c σ.length])):=by
 have h:=J1.setAttr ok h0 h1 cs (i:=σ.length+1) (d:=σ.length) (l:=l) (by simp) (by simp) hl hs
 have e:(σ++[AO.att l,AO.ins c σ.length]).set σ.length (.att (putA name v l))=σ++[.att (putA name v l),.ins c σ.length]:=by
  rw [List.set_append_right _ _ (Nat.le_refl _),Nat.sub_self];rfl
 rwa [e] at h
theorem CallV.newF {l l':Mp} {vs:List AV} (h:CallV C D fv vs σ (.ret (.loc (σ.length+1)) (σ++[.att l,.ins c σ.length]))) (hσ:Shut σ) (hz:FzD (σ++[.att l,.ins c σ.length]) σ.length l l'):CallV C D fv vs σ (.ret (.ins c l') σ):=
 h.frz (n:=σ.length) (Nat.le_refl _) (fun o ho=>hσ o (by simpa using ho)) (.lins (Nat.le_succ _) (Nat.le_refl _) (by simp) (by simp) hz) (by simp)
end
section
variable {C:Cx} {N:Fns} {D:Nat} {σ:Sto} {sc:Scope} {m:Mp} (P:Pg C N)
include P
theorem c_adt_new (a:AdtD) (hσ:Shut σ) (D:Nat) (hD:3≤D):CallV C D (.val (.ref N.Adt)) [.p (.str a.name),.p (.tuple []),.p (strL a.params),.p (vars a.variants),.p (.bool a.many)] σ (.ret (a.av N) σ):=by
 refine Zea P.initA fun dv hdv F=>?_
 have hS:JS C (D - 2) (fnScope (clsAt 26 0)) ((["self","path","regions","params","variants","is_enum","module","publics"]:List Str).zip ([.loc (σ.length+1),.p (.str a.name),.p (.tuple []),.p (strL a.params),.p (vars a.variants),.p (.bool a.many)]++[.p (.str ""),.p (.tuple [])])).reverse (σ++[.att [],.ins N.Adt σ.length]) (fnBody (clsAt 26 0)) (.next ((["self","path","regions","params","variants","is_enum","module","publics"]:List Str).zip ([.loc (σ.length+1),.p (.str a.name),.p (.tuple []),.p (strL a.params),.p (vars a.variants),.p (.bool a.many)]++[.p (.str ""),.p (.tuple [])])).reverse (σ++[.att [("path",.p (.str a.name)),("module",.p (.str "")),("regions",.p (.tuple [])),("params",.p (strL a.params)),("variants",.p (vars a.variants)),("publics",.p (.tuple [])),("is_enum",.p (.bool a.many))],.ins N.Adt σ.length])):=by
  repeat' (first
  | (show J1 _ _ _ _ _ _ _;apply J1.setAttrE P.ok) | exact P.s_adt _ (by decide +kernel) | exact Nat.lt_of_le_of_lt (Nat.le_of_ble_eq_true (by rfl):_≤100) (by decide)
  | walk_at "mW")
 have h:=F.callK P.ok (vs:=[.loc (σ.length+1),.p (.str a.name),.p (.tuple []),.p (strL a.params),.p (vars a.variants),.p (.bool a.many)]) (by rw [hdv];rfl) hS.h
 exact (CallV.le (P.c_adt.call P.ok h) (by walk_at "o")).newF hσ (FzD.same rfl)
theorem c_row_new (r:Row) (hσ:Shut σ) (D:Nat) (hD:3≤D):CallV C D (.val (.ref N.ImplRow)) [.p (.int r.num),.p (.tuple []),.p (prs r.params),.p (.str r.trait),.p (.tuple []),.p r.self.av,.dct []] σ (.ret (r.av N) σ):=by
 refine Zea P.initR fun dv hdv F=>?_
 have hS:JS C (D - 2) (fnScope (clsAt 27 0)) ((["self","number","regions","params","trait","trait_args","self_type","methods","spot"]:List Str).zip ([.loc (σ.length+1),.p (.int r.num),.p (.tuple []),.p (prs r.params),.p (.str r.trait),.p (.tuple []),.p r.self.av,.dct []]++[.p (.int 0)])).reverse (σ++[.att [],.ins N.ImplRow σ.length]) (fnBody (clsAt 27 0)) (.next ((["self","number","regions","params","trait","trait_args","self_type","methods","spot"]:List Str).zip ([.loc (σ.length+1),.p (.int r.num),.p (.tuple []),.p (prs r.params),.p (.str r.trait),.p (.tuple []),.p r.self.av,.dct []]++[.p (.int 0)])).reverse (σ++[.att [("number",.p (.int r.num)),("regions",.p (.tuple [])),("params",.p (prs r.params)),("trait",.p (.str r.trait)),("trait_args",.p (.tuple [])),("self_type",.p r.self.av),("methods",.dct []),("spot",.p (.int 0))],.ins N.ImplRow σ.length])):=by
  repeat' (first
  | (show J1 _ _ _ _ _ _ _;apply J1.setAttrE P.ok) | exact P.s_row _ (by decide +kernel) | exact Nat.lt_of_le_of_lt (Nat.le_of_ble_eq_true (by rfl):_≤100) (by decide)
  | walk_at "mW")
 have h:=F.callK P.ok (vs:=[.loc (σ.length+1),.p (.int r.num),.p (.tuple []),.p (prs r.params),.p (.str r.trait),.p (.tuple []),.p r.self.av,.dct []]) (by rw [hdv];rfl) hS.h
 exact (CallV.le (P.c_row.call P.ok h) (by walk_at "o")).newF hσ (FzD.same rfl)
end
noncomputable def watt (i j:Nat):AO:=.att [("modules",.p .none),("adts",.loc i),("variants",.dct []),("sigs",.dct []),("traits",.dct []),("impls",.loc j),("consts",.dct []),("bodies",.dct [])]
section
variable {C:Cx} {N:Fns} {D:Nat} {σ:Sto} {sc:Scope} {m:Mp} (P:Pg C N)
include P
theorem c_world_new1 (o:AO) (D:Nat) (hD:3≤D):CallV C D (.val (.ref N.World)) [] [o] (.ret (.loc 2) [o,watt 3 4,.ins N.World 1,.dct [],.lst []]):=by
 refine Zea P.initW fun dv hdv F=>?_
 have hS:JS C (D - 2) (fnScope (clsAt 28 0)) ((["self","modules"]:List Str).zip ([.loc 2]++[.p .none])).reverse [o,.att [],.ins N.World 1] (fnBody (clsAt 28 0)) (.next ((["self","modules"]:List Str).zip ([.loc 2]++[.p .none])).reverse [o,watt 3 4,.ins N.World 1,.dct [],.lst []]):=by
  repeat' (first
  | (show JE _ _ _ _ _ _ _ _;exact JE.dict0F P.ok)
  | (show J1 _ _ _ _ _ _ _;first | apply J1.setAttr (name:="adts") P.ok (JE.dict0 P.ok) | apply J1.setAttr (name:="impls") P.ok JE.list0 | apply J1.setAttr P.ok) | exact P.s_world _ (by decide +kernel) | exact Nat.lt_of_le_of_lt (Nat.le_of_ble_eq_true (by rfl):_≤100) (by decide)
  | walk_at "mW")
 have h:=F.callK P.ok (vs:=[.loc 2]) (by rw [hdv];rfl) hS.h
 exact CallV.le (P.c_world.call P.ok (σ:=[o]) h) (by walk_at "o")
theorem c_world_new0 (D:Nat) (hD:3≤D):CallV C D (.val (.ref N.World)) [] [] (.ret (.loc 1) [watt 2 3,.ins N.World 0,.dct [],.lst []]):=by
 refine Zea P.initW fun dv hdv F=>?_
 have hS:JS C (D - 2) (fnScope (clsAt 28 0)) ((["self","modules"]:List Str).zip ([.loc 1]++[.p .none])).reverse [.att [],.ins N.World 0] (fnBody (clsAt 28 0)) (.next ((["self","modules"]:List Str).zip ([.loc 1]++[.p .none])).reverse [watt 2 3,.ins N.World 0,.dct [],.lst []]):=by
  repeat' (first
  | (show JE _ _ _ _ _ _ _ _;exact JE.dict0F P.ok)
  | (show J1 _ _ _ _ _ _ _;first | apply J1.setAttr (name:="adts") P.ok (JE.dict0 P.ok) | apply J1.setAttr (name:="impls") P.ok JE.list0 | apply J1.setAttr P.ok) | exact P.s_world _ (by decide +kernel) | exact Nat.lt_of_le_of_lt (Nat.le_of_ble_eq_true (by rfl):_≤100) (by decide)
  | walk_at "mW")
 have h:=F.callK P.ok (vs:=[.loc 1]) (by rw [hdv];rfl) hS.h
 exact CallV.le (P.c_world.call P.ok (σ:=[]) h) (by walk_at "o")
end
noncomputable def asgVal:Stmt→Expr
 | .Assign _ v _=>v
 | _=>noE
noncomputable def fldC:Expr:=asgVal ((forBody ((forBody (stAt 35 1))[1]?.getD (.Pass ⟨0,0,0,0⟩)))[0]?.getD (.Pass ⟨0,0,0,0⟩))
noncomputable def kStr (k:Nat):Str:=Str.ofString (toString (k:Int))
theorem kStr_ok:∀ k,k≤10→PyData.strOk (kStr k)=true∧(k:Int).natAbs.log2 < 1920:=by
 decide +kernel
section
variable {C:Cx} {N:Fns} {D:Nat} {σ:Sto} {sc:Scope} {m:Mp} (P:Pg C N)
include P
theorem fields_comp (names:List Str) (hz:names.length≤10) (D:Nat) (hD:10≤D) (i:Nat) (mm:Mp) (h1:mm.lookup ("source":Str)=some (.loc i)) (h2:mm.lookup ("names":Str)=some (.p (.list (names.map .str)))) :
  ∀ (n k0:Nat) (s:Src2),SrcOk s→k0+n≤10→∃ (fs:List (Str × Ty)) (s':Src2),fs.length=n∧(∀ f∈fs,DrawT 2 names f.2)∧SrcOk s'∧∀ σ:Sto,σ[i]?=some (srcO s) →
   CompJ0 C D (relabelS (cpScope fldC) (scopeAt 35)) (bindName1 "k") (cpElt fldC) mm ((List.range' k0 n).map fun (i:Nat)=>AV.p (.int (i:Int))) σ (fs.map fun p=>.p (.tuple [.str p.1,p.2.av])) (σ.set i (srcO s')):=by
 intro n
 induction n with
 | zero=>exact fun k0 s h _=>⟨[],s,rfl,(fun f hf=>nomatch hf),h,fun σ hi=>by rw [set_same hi];exact .nil⟩
 | succ n ih=>
  intro k0 s h hk
  refine Zeeaa (c_type P names hz 2 s h) fun t s1 ht ok1 ct=>?_
  refine Zeeaaa (ih (k0+1) s1 ok1 (by walk_at "o")) fun fs s2 hl hf ok2 cc=>?_
  refine ⟨(kStr k0,t)::fs,s2,by rw [List.length_cons,hl],fun f hf'=>?_,ok2,fun σ hi=>?_⟩
  ·rcases List.mem_cons.mp hf' with rfl | hf'
   ·exact ht
   ·exact hf f hf'
  ·rw [List.range'_succ,List.map_cons,List.map_cons]
   have ct:=ct σ i hi D (by walk_at "o")
   have cc:=cc (σ.set i (srcO s1)) (get_set hi)
   rw [List.set_set] at cc
   have ks:=kStr_ok k0 (by walk_at "o")
   have bs:BI C D (.type "str") [.p (.int (k0:Int))] σ (.p (.str (kStr k0))) σ:=bi_str ks.2 ks.1
   refine .cons (b:=[("k",.p (.int (k0:Int)))]) (σ2:=σ.set i (srcO s1)) rfl ?_ cc
   have q1:(([("k",AV.p (.int (k0:Int)))]:Mp)++mm).lookup ("source":Str)=some (.loc i):=h1
   have q2:(([("k",AV.p (.int (k0:Int)))]:Mp)++mm).lookup ("names":Str)=some (.p (.list (names.map .str))):=h2
   repeat' (first
  | (show JE _ _ _ _ _ _ _ _;first | apply JE.callBi P.ok P.b_str boot_str | apply JE.callFn P.ok P.law_type | exact JE.name (v:=.loc i) q1 (by first | exact .inl (by rfl) | exact .inr (.inl (by rfl)) | exact .inr (.inr (by rfl))) (by rfl) (by rfl) | exact JE.name (v:=.p (.list (names.map .str))) q2 (by first | exact .inl (by rfl) | exact .inr (.inl (by rfl)) | exact .inr (.inr (by rfl))) (by rfl) (by rfl))
  | (show BI _ _ _ _ _ _ _;exact bs)
  | (show CallR _ _ _ _ _ _;exact ct)
  | walk_at "mW")
end
noncomputable def varS:Stmt:=(forBody (stAt 35 1))[1]?.getD (.Pass ⟨0,0,0,0⟩)
theorem vStr_ok:∀ k,k≤10→PyData.strOk (("v":Str)++kStr k)=true∧(("v":Str).length+(kStr k).length≤sizeLine):=by
 decide +kernel
noncomputable def varAV (v:Str × List (Str × Ty)):AV:=.p (.tuple [.str v.1,.str "tuple",flds v.2])
noncomputable def varM (b:Bool) (names:List Str) (nm:Str):Mp:=[("has_many",.p (.bool b)),("variants",.loc 5),("names",.p (.list (names.map .str))),("name",.p (.str nm)),("found",.loc 2),("source",.loc 0)]
structure VarG (names:List Str) (v:Str × List (Str × Ty)):Prop where
 len:v.2.length≤2
 f:∀ f∈v.2,DrawT 2 names f.2
section
variable {C:Cx} {N:Fns} {D:Nat} {σ:Sto} {sc:Scope} {m:Mp} (P:Pg C N)
include P
theorem var_loop (names:List Str) (hz:names.length≤10) (D:Nat) (hD:10≤D) (b:Bool) (nm:Str) :
  ∀ (n k0:Nat) (s:Src2),SrcOk s→k0+n≤10→∃ (vs:List (Str × List (Str × Ty))) (s':Src2),vs.length=n∧(∀ v∈vs,VarG names v)∧SrcOk s'∧∀ (o1 o2 o3 o4:AO) (V:List AV),V.length≤k0 →
   LoopJ C D (scopeAt 35) (bindName1 "number") (forBody varS) ((List.range' k0 n).map fun (i:Nat)=>AV.p (.int (i:Int))) (varM b names nm) [srcO s,o1,o2,o3,o4,.lst V] (.next (varM b names nm) [srcO s',o1,o2,o3,o4,.lst (V++vs.map varAV)]):=by
 intro n
 induction n with
 | zero=>exact fun k0 s h _=>⟨[],s,rfl,(fun f hf=>nomatch hf),h,fun o1 o2 o3 o4 V _=>by rw [List.map_nil,List.append_nil];exact LoopJ.nil⟩
 | succ n ih=>
  intro k0 s h hk
  refine Zaa (drawN_ok h (n:=3) (by decide)) fun d0 d1 ok1=>?_
  have hkf:(drawN s 3).1=((drawN s 3).1.toNat:Int):=(Int.toNat_of_nonneg d0).symm
  refine Zeeaaa (fields_comp P names hz D hD 0 (mCof (cpScope fldC) (("number",.p (.int (k0:Int)))::varM b names nm)) rfl rfl (drawN s 3).1.toNat 0 _ ok1 (by walk_at "o")) fun fs s2 hl hf ok2 cc=>?_
  refine Zeeaaa (ih (k0+1) s2 ok2 (by walk_at "o")) fun vs s3 hvl hv ok3 L=>?_
  refine ⟨(("v":Str)++kStr k0,fs)::vs,s3,by rw [List.length_cons,hvl],fun v hv'=>?_,ok3,fun o1 o2 o3 o4 V hV=>?_⟩
  ·rcases List.mem_cons.mp hv' with rfl | hv'
   ·exact ⟨by rw [hl];walk_at "o",hf⟩
   ·exact hv v hv'
  ·rw [List.range'_succ,List.map_cons]
   have L:=L o1 o2 o3 o4 (V++[varAV (("v":Str)++kStr k0,fs)]) (by rw [List.length_append];exact Nat.succ_le_succ hV)
   rw [List.append_assoc] at L
   refine .next (m':=varM b names nm) (σ':=[srcO s2,o1,o2,o3,o4,.lst (V++[varAV (("v":Str)++kStr k0,fs)])]) rfl ?_ L
   refine JS.nw (m1:=("fields",.p (flds fs))::("number",.p (.int (k0:Int)))::varM b names nm) ?_ (weak_cons rfl (weak_cons rfl weak_refl))
   have ct:=c_take P (σ:=[srcO s,o1,o2,o3,o4,.lst V]) s h 3 (by decide) (by decide) 0 rfl D (by walk_at "o")
   have ct:CallR C D N.law_take [.loc 0,.p (.int 3)] [srcO s,o1,o2,o3,o4,.lst V] (.ret (.p (.int (drawN s 3).1)) [srcO (drawN s 3).2,o1,o2,o3,o4,.lst V]):=ct
   have cc:=cc [srcO (drawN s 3).2,o1,o2,o3,o4,.lst V] rfl
   have cc:CompJ0 C D (relabelS (cpScope fldC) (scopeAt 35)) (bindName1 "k") (cpElt fldC) (mCof (cpScope fldC) (("number",.p (.int (k0:Int)))::varM b names nm)) (rangeL (drawN s 3).1.toNat) [srcO (drawN s 3).2,o1,o2,o3,o4,.lst V] (fs.map fun p=>.p (.tuple [.str p.1,p.2.av])) [srcO s2,o1,o2,o3,o4,.lst V]:=by
    unfold rangeL;rw [List.range_eq_range'];exact cc
   have ks:=kStr_ok k0 (by walk_at "o")
   have vk:=vStr_ok k0 (by walk_at "o")
   have bs:BI C D (.type "str") [.p (.int (k0:Int))] [srcO s2,o1,o2,o3,o4,.lst V] (.p (.str (kStr k0))) [srcO s2,o1,o2,o3,o4,.lst V]:=bi_str ks.2 ks.1
   have hmk:mkL (fs.map fun p=>.p (.tuple [.str p.1,p.2.av]))=.p (flds fs):=mkL_map _ _
   have hzf:(fs.map fun p=>AV.p (.tuple [.str p.1,p.2.av])).length≤sizeLine:=by rw [List.length_map,hl];exact Nat.le_trans (by omega:_≤10) (by decide)
   have hzV:V.length≤sizeLine:=Nat.le_trans (by omega:_≤10) (by decide)
   repeat' (first
  | (show JE _ _ _ _ _ _ _ _;first | apply JE.callBi P.ok P.b_str boot_str | apply JE.callFn P.ok P.law_take | apply JE.append)
  | (show JM _ _ _ _ _ _ _ _ _ _ _;apply JM.range P.ok P.b_range boot_range)
  | (show Op2 _ _ _ _ _ _ _ _;with_reducible exact op_adds vk.2 vk.1)
  | (show J1 _ _ _ _ _ _ _;apply J1.compM0v)
  | (show CompJ0 _ _ _ _ _ _ _ _ _ _;exact cc)
  | (show BI _ _ _ _ _ _ _;exact bs)
  | (show CallR _ _ _ _ _ _;exact ct) | exact hkf | exact hmk | exact hzf | exact hzV | omega
  | walk_at "mW")
end
theorem imp_cons {C:Cx} {k:Str} {w:AV} {r r':Mp} (h:∀ x v',r'.lookup x=some v'→∃ v,r.lookup x=some v∧∀ G u,VR C G u v→VR C G u v'):∀ x v',((k,w)::r').lookup x=some v'→∃ v,((k,w)::r).lookup x=some v∧∀ G u,VR C G u v→VR C G u v':=fun x v' hx=>by
 rw [List.lookup_cons] at hx ⊢
 cases q:x == k with
 | true=>rw [q] at hx;cases hx;exact ⟨_,rfl,fun G u V=>V⟩
 | false=>rw [q] at hx;exact h x v' hx
theorem adts_beln (N:Fns) (n:Nat):∀ l:List (Str × AdtD),belD n (l.map fun p=>(p.1,p.2.av N))=true
 | []=>rfl
 | _::l=>adts_beln N n l
theorem rows_beln (N:Fns) (n:Nat):∀ l:List Row,belL n (l.map (Row.av N))=true
 | []=>rfl
 | _::l=>rows_beln N n l
theorem vars_beln (n:Nat):∀ l:List (Str × List (Str × Ty)),belL n (l.map varAV)=true
 | []=>rfl
 | _::l=>vars_beln n l
noncomputable def adtsAV (N:Fns) (l:List (Str × AdtD)):AO:=.dct (l.map fun p=>(p.1,p.2.av N))
noncomputable def wSt (N:Fns) (s:Src2) (l:List (Str × AdtD)) (R:List Row):Sto:=[srcO s,watt 3 4,.ins N.World 1,adtsAV N l,.lst (R.map (Row.av N))]
theorem wSt_bel (N:Fns) (s:Src2) (l:List (Str × AdtD)) (R:List Row):∀ o∈wSt N s l R,belO 5 o=true:=by
 intro o ho
 simp only [wSt,List.mem_cons,List.not_mem_nil,or_false] at ho
 rcases ho with rfl | rfl | rfl | rfl | rfl
 ·rfl
 ·rfl
 ·rfl
 ·exact adts_beln N 5 l
 ·exact rows_beln N 5 R
structure AdtG (names:List Str) (a:AdtD):Prop where
 params:a.params=names
 len:a.variants.length≤2
 v:∀ v∈a.variants,VarG names v
section
variable {C:Cx} {N:Fns} {D:Nat} {σ:Sto} {sc:Scope} {m:Mp} (P:Pg C N)
theorem allP_vars (vs:List (Str × List (Str × Ty))):allP (vs.map varAV)=some (vs.map fun v=>.tuple [.str v.1,.str "tuple",flds v.2]):=allP_map _ _
noncomputable def baseM:Mp:=[("found",.loc 2),("source",.loc 0)]
include P
theorem adt_turn (names:List Str) (hz:names.length≤10) (nm:Str) (D:Nat) (hD:12≤D) (s:Src2) (h:SrcOk s):∃ (a:AdtD) (s':Src2),AdtG names a∧SrcOk s'∧∀ (l:List (Str × AdtD)) (R:List Row),l.length≤10 →
  JS C D (scopeAt 35) (("names",.p (.list (names.map .str)))::("name",.p (.str nm))::baseM) (wSt N s l R) (forBody (stAt 35 1)) (.next baseM (wSt N s' ((nm,a)::l) R)):=by
 refine Zaa (drawN_ok h (n:=2) (by decide)) fun d0 d1 ok1=>?_
 generalize hb:((drawN s 2).1 == 0)=b
 refine Zeeaaa (var_loop P names hz D (by walk_at "o") b nm (if b then 2 else 1) 0 _ ok1 (by cases b<;>decide)) fun vs s2 hvl hv ok2 L=>?_
 refine ⟨⟨nm,names,vs,b⟩,s2,⟨rfl,by refine (?_:vs.length≤2);rw [hvl];cases b<;>decide,hv⟩,ok2,fun l R hl=>?_⟩
 have ct:CallR C D N.law_take [.loc 0,.p (.int 2)] (wSt N s l R) (.ret (.p (.int (drawN s 2).1)) (wSt N (drawN s 2).2 l R)):=c_take P (σ:=wSt N s l R) s h 2 (by decide) (by decide) 0 rfl D (by walk_at "o")
 have qe:=eqInt (σ:=wSt N (drawN s 2).2 l R) (n:=(drawN s 2).1) (k:=0)
 rw [hb] at qe
 have L:=L (watt 3 4) (.ins N.World 1) (adtsAV N l) (.lst (R.map (Row.av N))) [] (Nat.zero_le _)
 rw [List.nil_append] at L
 refine JS.blk 2 (m1:=("has_many",.p (.bool b))::("variants",.p (vars vs))::("names",.p (.list (names.map .str)))::("name",.p (.str nm))::baseM) (σ1:=wSt N s2 l R) ?_ ?_
 ·refine JS.imp (m1:=("has_many",.p (.bool b))::("variants",.lst (vs.map varAV))::("names",.p (.list (names.map .str)))::("name",.p (.str nm))::baseM) ?_ (imp_cons (imp_head (allP_vars vs))) rfl
  refine JS.frz (n:=5) (m1:=varM b names nm) (σ1:=[srcO s2,watt 3 4,.ins N.World 1,adtsAV N l,.lst (R.map (Row.av N)),.lst (vs.map varAV)]) ?_ (Nat.le_refl 5) (wSt_bel N s2 l R) ?_ rfl rfl
  ·have L:LoopJ C D (scopeAt 35) (bindName1 "number") (forBody varS) (rangeL (if b then 2 else 1)) (varM b names nm) (wSt N (drawN s 2).2 l R++[.lst []]) (.next (varM b names nm) [srcO s2,watt 3 4,.ins N.World 1,adtsAV N l,.lst (R.map (Row.av N)),.lst (vs.map varAV)]):=by
    unfold rangeL;rw [List.range_eq_range'];exact L
   cases b
   all_goals (repeat' (first
  | (show JE _ _ _ _ _ _ _ _;first | exact JE.list0 | apply JE.callBi P.ok P.b_int boot_int | apply JE.callFn P.ok P.law_take)
  | (show JM _ _ _ _ _ _ _ _ _ _ _;apply JM.range P.ok P.b_range boot_range)
  | (show Op2 _ _ _ _ _ _ _ _;with_reducible exact op_add)
  | (show J1 _ _ _ _ _ _ _;apply J1.forM)
  | (show LoopJ _ _ _ _ _ _ _ _ _;exact L)
  | (show CallR _ _ _ _ _ _;exact ct) | exact qe | decide
  | walk_at "mW"))
  ·exact .cons (.p _) (.cons (.llst (by decide) rfl (FzL.same (vars_beln 5 vs))) (FzD.same rfl))
 ·have cn:CallV C D (.val (.ref N.Adt)) [.p (.str nm),.p (.tuple []),.p (strL names),.p (vars vs),.p (.bool b)] (wSt N s2 l R) (.ret (AdtD.av N ⟨nm,names,vs,b⟩) (wSt N s2 l R)):=c_adt_new P ⟨nm,names,vs,b⟩ (wSt_bel N s2 l R) D (by walk_at "o")
  have hzl:(l.map fun p=>(p.1,p.2.av N)).length≤sizeLine:=by rw [List.length_map];exact Nat.le_trans hl (by decide)
  have btn:BI C D (.type "tuple") [.p (.list (names.map .str))] (wSt N s2 l R) (.p (strL names)) (wSt N s2 l R):=bi_tupleL (l:=names.map fun n=>.p (.str n)) (congrArg some (List.map_map ..)) (allP_map _ _) (by rw [List.length_map];exact Nat.le_trans hz (by decide))
  refine JS.nw (m1:=("has_many",.p (.bool b))::("variants",.p (vars vs))::("names",.p (.list (names.map .str)))::("name",.p (.str nm))::baseM) ?_ (weak_cons rfl (weak_cons rfl (weak_cons rfl (weak_cons rfl weak_refl))))
  repeat' (first
  | (show JE _ _ _ _ _ _ _ _;first | apply JE.callCls P.ok P.c_adt.name P.c_adt.keep | apply JE.callBi P.ok P.b_tuple boot_tuple | apply JE.attr)
  | (show J1 _ _ _ _ _ _ _;apply J1.setItem)
  | (show BI _ _ _ _ _ _ _;exact btn) | exact cn | exact hzl | (show Op1 _ _ _ _ _ _ _;exact op_attr P.ok (by rfl) (P.a_world _ (by decide +kernel)) (by rfl))
  | walk_at "mW")
end
noncomputable def pT:Ty:=.par "T"
noncomputable def pU:Ty:=.par "U"
noncomputable def heads11:List Ty:=[.c1 pT,.c2 pT pU,.c0,.c1 .num,.c2 pU pU,.num,.bool,.tup pT pT,.box pT,pT,.ref none false pT]
noncomputable def asksOf (t:Ty):List (List Str):=if t=pT then [[]] else [["Copy"],[],["Clone","Copy"]]
noncomputable def traits5:List Str:=["Copy","Copy","Drop","Clone","Copy"]
structure RowG (r:Row):Prop where
 self:r.self∈heads11
 names:r.params.map (·.1)=r.self.named
 asks:∀ p∈r.params,p.2∈asksOf r.self
 trait:r.trait∈traits5
theorem asks_len (t:Ty):0 < (asksOf t).length∧(asksOf t).length≤3:=by unfold asksOf;split<;>decide
noncomputable def rowC:Expr:=asgVal ((forBody (stAt 35 6))[2]?.getD (.Pass ⟨0,0,0,0⟩))
section
variable {C:Cx} {N:Fns} {D:Nat} {σ:Sto} {sc:Scope} {m:Mp} (P:Pg C N)
include P
theorem rows_comp (t:Ty) (D:Nat) (hD:10≤D):∀ (ns:List Str) (s:Src2),SrcOk s→∃ (ps:List (Str × List Str)) (s':Src2),ps.map (·.1)=ns∧(∀ p∈ps,p.2∈asksOf t)∧SrcOk s'∧∀ (σ:Sto) (i:Nat) (mm:Mp),σ[i]?=some (srcO s)→mm.lookup ("source":Str)=some (.loc i)→mm.lookup ("asks":Str)=some (.p (.list ((asksOf t).map strL))) →
   CompJ0 C D (relabelS (cpScope rowC) (scopeAt 35)) (bindName1 "name") (cpElt rowC) mm (ns.map fun n=>.p (.str n)) σ (ps.map fun p=>.p (.tuple [.str p.1,strL p.2])) (σ.set i (srcO s')):=by
 intro ns
 induction ns with
 | nil=>exact fun s h=>⟨[],s,rfl,(fun f hf=>nomatch hf),h,fun σ i mm hi _ _=>by rw [set_same hi];exact .nil⟩
 | cons nm ns ih=>
  intro s h
  have hnp:0 < ((asksOf t).map fun l=>AV.p (strL l)).length:=by rw [List.length_map];exact (asks_len t).1
  refine Zea (draw_at s h _ hnp) fun x hx hget=>?_
  refine Zea (List.mem_map.mp hx) fun ask hask z9=>?_
  obtain rfl:=z9
  have ok1:=(drawN_ok h hnp).2.2
  refine Zeeaaa (ih _ ok1) fun ps s2 hps hpa ok2 cc=>?_
  refine ⟨(nm,ask)::ps,s2,by rw [List.map_cons,hps],fun p hp=>?_,ok2,fun σ i mm hi h1 h2=>?_⟩
  ·rcases List.mem_cons.mp hp with rfl | hp
   ·exact hask
   ·exact hpa p hp
  ·have cc:=cc (σ.set i (srcO (drawN s ((asksOf t).map fun l=>AV.p (strL l)).length).2)) i mm (get_set hi) h1 h2
   rw [List.set_set] at cc
   rw [List.map_cons,List.map_cons]
   have co:=c_one P (σ:=σ) s h (.p (.list ((asksOf t).map strL))) ((asksOf t).map fun l=>AV.p (strL l)) (fun _=>congrArg some (List.map_map ..)) hnp (by rw [List.length_map];exact Nat.le_trans (asks_len t).2 (by decide)) _ hget i hi D (by walk_at "o")
   refine .cons (b:=[("name",.p (.str nm))]) rfl ?_ cc
   have q1:(([("name",AV.p (.str nm))]:Mp)++mm).lookup ("source":Str)=some (.loc i):=h1
   have q2:(([("name",AV.p (.str nm))]:Mp)++mm).lookup ("asks":Str)=some (.p (.list ((asksOf t).map strL))):=h2
   repeat' (first
  | (show JE _ _ _ _ _ _ _ _;first | apply JE.callFn P.ok P.law_one | exact JE.name (v:=.loc i) q1 (by first | exact .inl (by rfl) | exact .inr (.inl (by rfl)) | exact .inr (.inr (by rfl))) (by rfl) (by rfl) | exact JE.name (v:=.p (.list ((asksOf t).map strL))) q2 (by first | exact .inl (by rfl) | exact .inr (.inl (by rfl)) | exact .inr (.inr (by rfl))) (by rfl) (by rfl))
  | (show CallR _ _ _ _ _ _;exact co)
  | walk_at "mW")
end
noncomputable def headM:Mp:=[("heads",.p (.list (heads11.map Ty.av))),("U",.p pU.av),("T",.p pT.av),("found",.loc 2),("source",.loc 0)]
theorem heads_ht:∀ t∈heads11,t.ht≤1:=by decide
theorem heads_size:∀ t∈heads11,t.size≤2:=by decide
section
variable {C:Cx} {N:Fns} {D:Nat} {σ:Sto} {sc:Scope} {m:Mp} (P:Pg C N)
include P
theorem impl_turn (D:Nat) (hD:20≤D) (k0:Nat) (s:Src2) (h:SrcOk s):∃ (r:Row) (s':Src2),RowG r∧SrcOk s'∧∀ (l:List (Str × AdtD)) (R:List Row),R.length≤10 →
  JS C D (scopeAt 35) (("number",.p (.int (k0:Int)))::headM) (wSt N s l R) (forBody (stAt 35 6)) (.next headM (wSt N s' l (R++[r]))):=by
 have n1:0 < ([5,5,7,11].map fun (k:Nat)=>AV.p (.int (k:Int))).length:=by simp
 refine Zea (draw_at s h _ n1) fun x hx hget1=>?_
 refine Zea (List.mem_map.mp hx) fun k hk z14=>?_
 obtain rfl:=z14
 have hkr:0 < k∧k≤11:=by
  simp only [List.mem_cons,List.not_mem_nil,or_false] at hk
  walk_at "o"
 have ok1:=(drawN_ok h n1).2.2
 have n2:0 < ((heads11.take k).map fun t=>AV.p t.av).length:=by
  rw [List.length_map,List.length_take];refine (?_:0 < min k 11);walk_at "o"
 refine Zea (draw_at _ ok1 _ n2) fun x hx hget2=>?_
 refine Zea (List.mem_map.mp hx) fun head hhead z13=>?_
 obtain rfl:=z13
 have hmem:head∈heads11:=List.mem_of_mem_take hhead
 have ok2:=(drawN_ok ok1 n2).2.2
 refine Zeeaaa (rows_comp P head D (by walk_at "o") head.named _ ok2) fun ps s3 hps hpa ok3 cc=>?_
 have n3:0 < (traits5.map fun t=>AV.p (.str t)).length:=by decide
 refine Zea (draw_at _ ok3 _ n3) fun x hx hget3=>?_
 refine Zea (List.mem_map.mp hx) fun tr htr z12=>?_
 obtain rfl:=z12
 have ok4:=(drawN_ok ok3 n3).2.2
 refine ⟨⟨k0,ps,tr,head⟩,_,⟨hmem,hps,hpa,htr⟩,ok4,fun l R hR=>?_⟩
 have co1:CallR C D N.law_one [.loc 0,.p (.list [.int 5,.int 5,.int 7,.int 11])] (wSt N s l R) (.ret (.p (.int (k:Int))) (wSt N _ l R)):=c_one P (σ:=wSt N s l R) s h (.p (.list [.int 5,.int 5,.int 7,.int 11])) ([5,5,7,11].map fun (k:Nat)=>AV.p (.int (k:Int))) (fun _=>rfl) n1 (by simp) _ hget1 0 rfl D (by walk_at "o")
 generalize hs1:(drawN s ([5,5,7,11].map fun (k:Nat)=>AV.p (.int (k:Int))).length).2=s1 at co1 ok1 hget2 cc ok2
 have co2:CallR C D N.law_one [.loc 0,.p (.list ((heads11.take k).map Ty.av))] (wSt N s1 l R) (.ret (.p head.av) (wSt N _ l R)):=c_one P (σ:=wSt N s1 l R) s1 ok1 (.p (.list ((heads11.take k).map Ty.av))) ((heads11.take k).map fun t=>AV.p t.av) (fun _=>congrArg some (List.map_map ..)) n2 (by rw [List.length_map,List.length_take];refine (?_:min k 11≤1000);walk_at "o") _ hget2 0 rfl D (by walk_at "o")
 generalize hs2:(drawN s1 ((heads11.take k).map fun t=>AV.p t.av).length).2=s2 at co2 ok2 cc
 have co3:CallR C D N.law_one [.loc 0,.p (.list (traits5.map .str))] (wSt N s3 l R) (.ret (.p (.str tr)) (wSt N _ l R)):=c_one P (σ:=wSt N s3 l R) s3 ok3 (.p (.list (traits5.map .str))) (traits5.map fun t=>AV.p (.str t)) (fun _=>rfl) n3 (by decide) _ hget3 0 rfl D (by walk_at "o")
 generalize hs4:(drawN s3 (traits5.map fun t=>AV.p (.str t)).length).2=s4 at co3 ok4
 have cn:=c_law_named P (σ:=wSt N s2 l R) head (Nat.le_trans (heads_size _ hmem) (by decide)) D (by have:=heads_ht _ hmem;walk_at "o")
 have hnl:head.named.length≤2:=Nat.le_trans head.named_len (heads_size _ hmem)
 have hF:asF (.p (.list (head.named.map .str)))=some (head.named.map fun n=>.p (.str n)):=congrArg some (List.map_map ..)
 have hmk:mkL (ps.map fun p=>.p (.tuple [.str p.1,strL p.2]))=.p (prs ps):=mkL_map _ _
 have hz1:(ps.map fun p=>AV.p (.tuple [.str p.1,strL p.2])).length≤sizeLine:=by
  have:=congrArg List.length hps
  rw [List.length_map] at this
  rw [List.length_map,this];exact Nat.le_trans hnl (by decide)
 have hzR:(R.map (Row.av N)).length≤sizeLine:=by rw [List.length_map];exact Nat.le_trans hR (by decide)
 have cr:CallV C D (.val (.ref N.ImplRow)) [.p (.int (k0:Int)),.p (.tuple []),.p (prs ps),.p (.str tr),.p (.tuple []),.p head.av,.dct []] (wSt N s4 l R) (.ret (Row.av N ⟨k0,ps,tr,head⟩) (wSt N s4 l R)):=c_row_new P ⟨k0,ps,tr,head⟩ (wSt_bel N s4 l R) D (by walk_at "o")
 have hm:mkL (((heads11.map Ty.av).map AV.p).take k)=.p (.list ((heads11.take k).map Ty.av)):=by
  rw [← List.map_take,← List.map_take];exact mkL_p _
 have hkl:k≤((heads11.map Ty.av).map AV.p).length:=hkr.2
 have hend:wSt N s4 l (R++[⟨k0,ps,tr,head⟩])=[srcO s4,watt 3 4,.ins N.World 1,adtsAV N l,.lst (R.map (Row.av N)++[Row.av N ⟨k0,ps,tr,head⟩])]:=by
  unfold wSt;rw [List.map_append];rfl
 rw [hend]
 by_cases hT:head=pT
 ·have hne:cmpV .NotEq (.p head.av) (.p pT.av) (wSt N s2 l R)=some false:=op_ne (b:=true) (Nat.le_trans (Nat.min_le_right ..) (by decide)) (by rw [Ty.eqv_av];exact decide_eq_true hT) rfl
  have ha:asksOf head=([[]]:List (List Str)):=if_pos hT
  have cc:=cc (wSt N s2 l R) 0 (mCof (cpScope rowC) (("asks",.p (.list ((asksOf head).map strL)))::("head",.p head.av)::("number",.p (.int (k0:Int)))::headM)) rfl rfl rfl
  rw [ha] at cc
  refine JS.nw (m1:=("trait",.p (.str tr))::("rows",.p (prs ps))::("asks",.p (.list ([[]].map strL)))::("head",.p head.av)::("number",.p (.int (k0:Int)))::headM) ?_ (weak_cons rfl (weak_cons rfl (weak_cons rfl (weak_cons rfl (weak_cons rfl weak_refl)))))
  repeat' (first
  | (show JE _ _ _ _ _ _ _ _;first | apply JE.callFn P.ok P.law_one | apply JE.callFn P.ok P.law_named | apply JE.callCls P.ok P.c_row.name P.c_row.keep | exact JE.dict0F P.ok | apply JE.listTo | apply JE.append | apply JE.attr)
  | (show JM _ _ _ _ _ _ _ _ _ _ _;apply JM.seq)
  | (show J1 _ _ _ _ _ _ _;apply J1.compM0v)
  | (show CompJ0 _ _ _ _ _ _ _ _ _ _;exact cc)
  | (show CallR _ _ _ _ _ _;first | with_reducible exact co1 | with_reducible exact co2 | with_reducible exact cn | exact co1 | exact co3) | exact cr | with_reducible exact hm | exact hkl | with_reducible exact hne | exact hF | exact hmk | exact hz1 | exact hzR | (show Op1 _ _ _ _ _ _ _;exact op_attr P.ok (by rfl) (P.a_world _ (by decide +kernel)) (by rfl))
  | walk_at "mW")
 ·have hne:cmpV .NotEq (.p head.av) (.p pT.av) (wSt N s2 l R)=some true:=op_ne (b:=false) (Nat.le_trans (Nat.min_le_right ..) (by decide)) (by rw [Ty.eqv_av];exact decide_eq_false hT) rfl
  have ha:asksOf head=([["Copy"],[],["Clone","Copy"]]:List (List Str)):=if_neg hT
  have cc:=cc (wSt N s2 l R) 0 (mCof (cpScope rowC) (("asks",.p (.list ((asksOf head).map strL)))::("head",.p head.av)::("number",.p (.int (k0:Int)))::headM)) rfl rfl rfl
  rw [ha] at cc
  refine JS.nw (m1:=("trait",.p (.str tr))::("rows",.p (prs ps))::("asks",.p (.list (([["Copy"],[],["Clone","Copy"]]:List (List Str)).map strL)))::("head",.p head.av)::("number",.p (.int (k0:Int)))::headM) ?_ (weak_cons rfl (weak_cons rfl (weak_cons rfl (weak_cons rfl (weak_cons rfl weak_refl)))))
  repeat' (first
  | (show JE _ _ _ _ _ _ _ _;first | apply JE.callFn P.ok P.law_one | apply JE.callFn P.ok P.law_named | apply JE.callCls P.ok P.c_row.name P.c_row.keep | exact JE.dict0F P.ok | apply JE.listTo | apply JE.append | apply JE.attr)
  | (show JM _ _ _ _ _ _ _ _ _ _ _;apply JM.seq)
  | (show J1 _ _ _ _ _ _ _;apply J1.compM0v)
  | (show CompJ0 _ _ _ _ _ _ _ _ _ _;exact cc)
  | (show CallR _ _ _ _ _ _;first | with_reducible exact co1 | with_reducible exact co2 | with_reducible exact cn | exact co1 | exact co3) | exact cr | with_reducible exact hm | exact hkl | with_reducible exact hne | exact hF | exact hmk | exact hz1 | exact hzR | (show Op1 _ _ _ _ _ _ _;exact op_attr P.ok (by rfl) (P.a_world _ (by decide +kernel)) (by rfl))
  | walk_at "mW")
end
structure WdG (w:Wd):Prop where
 adts:∃ a b c,w.adts=([("C",c),("B",b),("A",a)]:List (Str × AdtD))∧AdtG ["T"] a∧AdtG ["T","U"] b∧AdtG [] c
 rows:∀ r∈w.rows,RowG r
 len:w.rows.length≤5
section
variable {C:Cx} {N:Fns} {D:Nat} {σ:Sto} {sc:Scope} {m:Mp} (P:Pg C N)
theorem weak_dup {k:Str} {u u1:AV} {m m1:Mp} (h:∀ x v,((k,u)::m).lookup x=some v→((k,u)::m1).lookup x=some v):∀ x v,((k,u)::m).lookup x=some v→((k,u)::(k,u1)::m1).lookup x=some v:=fun x v e=>by
 have e2:=h x v e
 rw [List.lookup_cons] at e2 ⊢
 cases q:x == k with
 | true=>rw [q] at e2;exact e2
 | false=>
  rw [q] at e2
  refine (?_:List.lookup x ((k,u1)::m1)=some v)
  rw [List.lookup_cons,q];exact e2
include P
theorem impl_loop (D:Nat) (hD:20≤D):∀ (n k0:Nat) (s:Src2),SrcOk s→k0+n≤10→∃ (rows:List Row) (s':Src2),rows.length=n∧(∀ r∈rows,RowG r)∧SrcOk s'∧∀ (l:List (Str × AdtD)) (R:List Row),R.length≤k0 →
  LoopJ C D (scopeAt 35) (bindName1 "number") (forBody (stAt 35 6)) ((List.range' k0 n).map fun (i:Nat)=>AV.p (.int (i:Int))) headM (wSt N s l R) (.next headM (wSt N s' l (R++rows))):=by
 intro n
 induction n with
 | zero=>exact fun k0 s h _=>⟨[],s,rfl,(fun f hf=>nomatch hf),h,fun l R _=>by rw [List.append_nil];exact LoopJ.nil⟩
 | succ n ih=>
  intro k0 s h hk
  refine Zeeaa (impl_turn P D hD k0 s h) fun r s1 hr ok1 tn=>?_
  refine Zeeaaa (ih (k0+1) s1 ok1 (by walk_at "o")) fun rows s2 hl hrs ok2 L=>?_
  refine ⟨r::rows,s2,by rw [List.length_cons,hl],fun x hx=>?_,ok2,fun l R hR=>?_⟩
  ·rcases List.mem_cons.mp hx with rfl | hx
   ·exact hr
   ·exact hrs x hx
  ·rw [List.range'_succ,List.map_cons]
   have L:=L l (R++[r]) (by rw [List.length_append];exact Nat.succ_le_succ hR)
   rw [List.append_assoc] at L
   exact .next rfl (tn l R (by walk_at "o")) L
theorem c_law_world (D:Nat) (hD:30≤D) (s:Src2) (h:SrcOk s):∃ (w:Wd) (s':Src2),WdG w∧SrcOk s'∧CallR C D N.law_world [.loc 0] [srcO s] (.ret (w.av N) [srcO s']):=by
 refine Zeeaa (adt_turn P ["T"] (by decide) "A" (D - 1) (by walk_at "o") s h) fun a s1 ga ok1 ta=>?_
 refine Zeeaa (adt_turn P ["T","U"] (by decide) "B" (D - 1) (by walk_at "o") s1 ok1) fun b s2 gb ok2 tb=>?_
 refine Zeeaa (adt_turn P [] (by decide) "C" (D - 1) (by walk_at "o") s2 ok2) fun c s3 gc ok3 tc=>?_
 refine Zaa (drawN_ok ok3 (n:=5) (by decide)) fun d0 d1 ok4=>?_
 have hn:1+(drawN s3 5).1=((1+(drawN s3 5).1.toNat:Nat):Int):=by walk_at "o"
 refine Zeeaaa (impl_loop P (D - 1) (by walk_at "o") (1+(drawN s3 5).1.toNat) 0 _ ok4 (by walk_at "o")) fun rows s5 hrl hrg ok5 L=>?_
 refine ⟨⟨[("C",c),("B",b),("A",a)],rows⟩,s5,⟨⟨a,b,c,rfl,ga,gb,gc⟩,hrg,by refine (?_:rows.length≤5);walk_at "o"⟩,ok5,?_⟩
 have L:=L [("C",c),("B",b),("A",a)] [] (Nat.zero_le _)
 rw [List.nil_append] at L
 have L:LoopJ C (D - 1) (scopeAt 35) (bindName1 "number") (forBody (stAt 35 6)) (rangeL (1+(drawN s3 5).1.toNat)) headM (wSt N (drawN s3 5).2 [("C",c),("B",b),("A",a)] []) (.next headM (wSt N s5 [("C",c),("B",b),("A",a)] rows)):=by
  unfold rangeL;rw [List.range_eq_range'];exact L
 have LA:LoopJ C (D - 1) (scopeAt 35) (bindNames ["name","names"]) (forBody (stAt 35 1)) [.p (.tuple [.str "A",.list [.str "T"]]),.p (.tuple [.str "B",.list [.str "T",.str "U"]]),.p (.tuple [.str "C",.list []])] baseM (wSt N s [] []) (.next baseM (wSt N s3 [("C",c),("B",b),("A",a)] [])):=
  .next rfl (ta [] [] (by decide)) (.next rfl (tb _ [] (by simp)) (.next rfl (tc _ [] (by simp)) .nil))
 have ct:CallR C (D - 1) N.law_take [.loc 0,.p (.int 5)] (wSt N s3 [("C",c),("B",b),("A",a)] []) (.ret (.p (.int (drawN s3 5).1)) (wSt N (drawN s3 5).2 [("C",c),("B",b),("A",a)] [])):=c_take P (σ:=wSt N s3 [("C",c),("B",b),("A",a)] []) s3 ok3 5 (by decide) (by decide) 0 rfl (D - 1) (by walk_at "o")
 have hz:1+(drawN s3 5).1.toNat < 1000000:=by walk_at "o"
 have hS:JS C (D - 1) (scopeAt 35) [("source",.loc 0)] [srcO s] (bodyAt 35) (.ret (.loc 2) (wSt N s5 [("C",c),("B",b),("A",a)] rows)):=by
  refine JS.blk 6 (m1:=headM) (σ1:=wSt N s3 [("C",c),("B",b),("A",a)] []) ?_ ?_
  ·refine JS.nw (m1:=("heads",.p (.list (heads11.map Ty.av)))::("heads",.p (.list ((heads11.take 7).map Ty.av)))::("heads",.p (.list ((heads11.take 4).map Ty.av)))::("U",.p pU.av)::("T",.p pT.av)::baseM) ?_ (weak_dup (weak_dup weak_refl))
   repeat' (first
  | (show JE _ _ _ _ _ _ _ _;first | exact JE.callL0 P.ok ⟨EvE.cls P.ok P.c_world (by rfl) (by rfl)⟩ P.c_world.keep (c_world_new1 P (srcO s) _ (by walk_at "o")) | exact JE.lnum P (by rfl))
  | (show Op2 _ _ _ _ _ _ _ _;exact op_addP (Nat.le_of_ble_eq_true (by rfl)))
  | (show J1 _ _ _ _ _ _ _;first | apply J1.forC2 | apply J1.assign2k)
  | (show LoopJ _ _ _ _ _ _ _ _ _;exact LA)
  | walk_at "mW")
  ·repeat' (first
  | (show JE _ _ _ _ _ _ _ _;apply JE.callFn P.ok P.law_take)
  | (show JM _ _ _ _ _ _ _ _ _ _ _;apply JM.range P.ok P.b_range boot_range)
  | (show Op2 _ _ _ _ _ _ _ _;with_reducible exact op_add)
  | (show J1 _ _ _ _ _ _ _;apply J1.forM)
  | (show LoopJ _ _ _ _ _ _ _ _ _;exact L)
  | (show CallR _ _ _ _ _ _;exact ct) | exact hn | exact hz
  | walk_at "mW")
 have hR:CallR C (D - 1+1) N.law_world [.loc 0] [srcO s] (.ret (.loc 2) (wSt N s5 [("C",c),("B",b),("A",a)] rows)):=P.law_world.callJ P.ok rfl hS
 have hF:=hR.freeze (n:=1) (v':=Wd.av N ⟨[("C",c),("B",b),("A",a)],rows⟩) (Nat.le_refl 1) (fun o ho=>by rw [List.mem_singleton.mp (show o∈[srcO s5] from ho)];rfl)
  (.lins (by decide) (by decide) rfl rfl (.cons (.p _) (.cons (.ldct (by decide) rfl (FzD.same (adts_beln N 1 _))) (.cons (Fz.same rfl) (.cons (Fz.same rfl) (.cons (Fz.same rfl) (.cons (.llst (by decide) rfl (FzL.same (rows_beln N 1 _))) (.cons (Fz.same rfl) (.cons (Fz.same rfl) .nil)))))))))
 exact CallR.le hF (by walk_at "o")
end
noncomputable def erT (tb:Tab):Tab:=tb.map fun p=>(p.1,p.2.erase)
theorem erT_lookup (n:Str):∀ tb:Tab,(erT tb).lookup n=(tb.lookup n).map Ty.erase
 | []=>rfl
 | (k,t)::tb=>by
  refine (?_:List.lookup n ((k,t.erase)::erT tb)=(List.lookup n ((k,t)::tb)).map _)
  rw [List.lookup_cons,List.lookup_cons]
  cases h:n == k with
  | true=>rfl
  | false=>exact erT_lookup n tb
namespace Ty
theorem erase2 (t:Ty):t.erase.erase=t.erase:=by
 induction t with
 | ref r m t ih=>exact congrArg (ref none m) ih
 | box t ih=>exact congrArg box ih
 | arr t ih=>exact congrArg arr ih
 | c1 t ih=>exact congrArg c1 ih
 | tup a b i j=>refine (?_:tup a.erase.erase b.erase.erase=tup a.erase b.erase);rw [i,j]
 | c2 a b i j=>refine (?_:c2 a.erase.erase b.erase.erase=c2 a.erase b.erase);rw [i,j]
 | _=>rfl
theorem erase_kind (t:Ty):t.erase.kind=t.kind:=wr_kind _ t
theorem erase_parts (t:Ty):t.erase.parts=t.parts.map erase:=by cases t<;>rfl
theorem erase_hEq (p t:Ty):hEq p.erase t.erase=hEq p t:=by
 have e:∀ t:Ty,t.erase.name=t.name∧t.erase.isMut=t.isMut:=fun t=>by cases t<;>exact ⟨rfl,rfl⟩
 unfold hEq
 rw [erase_kind,erase_kind,(e p).1,(e p).2,(e t).1,(e t).2]
noncomputable def Agree (f g:Bool × Tab):Prop:=f.1=g.1∧(f.1=true→g.2=erT f.2)
theorem ftL_mtL {ps:List Ty} (ih:∀ a∈ps,∀ (t:Ty) (tb:Tab),Agree (a.ft t tb) (a.erase.mt t.erase (erT tb))):∀ (ts:List Ty) (tb:Tab),Agree (ftL ps ts tb) (mtL (ps.map erase) (ts.map erase) (erT tb)):=by
 induction ps with
 | nil=>intro ts tb;exact ⟨rfl,fun _=>rfl⟩
 | cons p ps ihl=>
  intro ts tb
  cases ts with
  | nil=>exact ⟨rfl,fun _=>rfl⟩
  | cons t ts=>
   refine Za (ih p (List.mem_cons_self ..) t tb) fun h1 h2=>?_
   have h3:=ihl (fun a ha=>ih a (List.mem_cons_of_mem _ ha)) ts (p.ft t tb).2
   refine (?_:Agree ((p.ft t tb).1&&(ftL ps ts (p.ft t tb).2).1,(ftL ps ts (p.ft t tb).2).2) (mtL (p.erase::ps.map erase) (t.erase::ts.map erase) (erT tb)))
   rw [mtL_cons,← h1]
   cases hf:(p.ft t tb).1 with
   | false=>exact ⟨rfl,fun h=>nomatch h⟩
   | true=>
    rw [h2 hf,Bool.true_and]
    exact h3
theorem ft_mt (p:Ty):∀ (t:Ty) (tb:Tab),Agree (p.ft t tb) (p.erase.mt t.erase (erT tb)):=by
 induction p using byParts with
 | h p ih=>
  intro t tb
  by_cases hp:p.kind="param"
  ·cases p<;>first | (exfalso;revert hp;simp only [kind];decide +kernel) | skip
   rename_i n
   rw [ft_par]
   refine (?_:Agree _ ((par n).mt t.erase (erT tb)))
   rw [mt_par,erT_lookup]
   cases tb.lookup n with
   | none=>exact ⟨rfl,fun _=>rfl⟩
   | some u=>exact ⟨rfl,fun _=>rfl⟩
  ·rw [ft_hd hp,mt_hd (by rw [erase_kind];exact hp),erase_hEq,erase_parts,erase_parts]
   cases hEq p t with
   | false=>exact ⟨rfl,fun h=>nomatch h⟩
   | true=>exact ftL_mtL ih t.parts tb
end Ty
theorem cpF_erase (rows:List Row) (bd:Bds):∀ (n:Nat) (t:Ty),cpF rows bd n t.erase=cpF rows bd n t
 | 0,_=>rfl
 | n+1,t=>by
  by_cases h:t.kind="adt"
  ·rw [cpF_adt h,cpF_adt ((Ty.erase_kind t).trans h)]
   simp only [Ty.erase2]
  ·have ih:=cpF_erase rows bd n
   cases t with
   | c0=>exact absurd rfl h
   | c1 a=>exact absurd rfl h
   | c2 a b=>exact absurd rfl h
   | tup a b=>refine (?_:(cpF rows bd n a.erase&&cpF rows bd n b.erase)=(cpF rows bd n a&&cpF rows bd n b));rw [ih,ih]
   | arr a=>exact ih a
   | num=>rfl
   | bool=>rfl
   | par x=>rfl
   | box a=>rfl
   | ref r m a=>rfl
theorem any_congr' {α:Type} {f g:α→Bool} {l:List α} (h:∀ a∈l,f a=g a):l.any f=l.any g:=by
 induction l with
 | nil=>rfl
 | cons a l ih=>rw [List.any_cons,List.any_cons,h a (List.mem_cons_self ..),ih fun x hx=>h x (List.mem_cons_of_mem _ hx)]
theorem implB_asked (f g:Ty→Bool) (tb:Tab) (h1:∀ u,f u.erase=g u) (h2:∀ x,f (.par x)=g (.par x)):∀ l:Bds,implB f l (erT tb)=(asked l tb).all g
 | []=>rfl
 | p::l=>by
  have ih:=implB_asked f g tb h1 h2 l
  have e:f (((erT tb).lookup p.1).getD (.par p.1))=g (askT tb p):=by
   rw [erT_lookup]
   unfold askT
   cases tb.lookup p.1 with
   | none=>exact h2 _
   | some u=>exact h1 u
  refine (?_:(!((hasC p.2&&!f (((erT tb).lookup p.1).getD (.par p.1)))||l.any fun p=>hasC p.2&&!f (((erT tb).lookup p.1).getD (.par p.1))))=_)
  have ih':(!l.any fun p=>hasC p.2&&!f (((erT tb).lookup p.1).getD (.par p.1)))=(asked l tb).all g:=ih
  rw [Bool.not_or,ih',e]
  unfold asked
  cases hc:hasC p.2 with
  | true=>
   rw [List.filter_cons_of_pos (p:=fun p:Str × List Str=>hasC p.2) hc,List.map_cons,List.all_cons]
   simp
  | false=>
   rw [List.filter_cons_of_neg (p:=fun p:Str × List Str=>hasC p.2) (by simp [hc])]
   simp
theorem cp_lc (rows:List Row) (bd:Bds):∀ (n:Nat) (t:Ty),cpF rows bd n t=lcF rows bd n t
 | 0,_=>rfl
 | n+1,t=>by
  have ih:=cp_lc rows bd n
  by_cases h:t.kind="adt"
  ·rw [cpF_adt h,lcF_adt h]
   refine any_congr' fun r _=>?_
   congr 1
   refine Za (r.self.ft_mt t []) fun h1 h2=>?_
   have h1:_=(r.self.erase.mt t.erase []).1:=h1
   have h2:_→(r.self.erase.mt t.erase []).2=_:=h2
   rw [← h1]
   cases hf:(r.self.ft t []).1 with
   | false=>rfl
   | true=>
    rw [Bool.true_and,Bool.true_and,h2 hf]
    exact implB_asked _ _ _ (fun u=>(cpF_erase rows bd n u).trans (ih u)) (fun x=>ih _) _
  ·cases t with
   | c0=>exact absurd rfl h
   | c1 a=>exact absurd rfl h
   | c2 a b=>exact absurd rfl h
   | tup a b=>refine (?_:(cpF rows bd n a&&cpF rows bd n b)=(lcF rows bd n a&&lcF rows bd n b));rw [ih,ih]
   | arr a=>exact ih a
   | num=>rfl
   | bool=>rfl
   | par x=>rfl
   | box a=>rfl
   | ref r m a=>rfl
theorem hd_lhd (rows:List Row) (t:Ty):hdF rows t=lhd rows t:=
 any_congr' fun r _=>congrArg (isD r.trait&&·) (r.self.ft_mt t []).1.symm
theorem bad_lbad (w:Wd) (n:Nat) (r:Row):badF w n r=lbadF w n r:=by
 unfold badF lbadF
 rw [hd_lhd]
 have e:(fun p=>!cpF w.rows (boundsOf r) n p)=fun p=>!lcF w.rows (boundsOf r) n p:=funext fun p=>by rw [cp_lc]
 rw [e]
namespace Ty
theorem subst_ht (f:Str→Option Ty) (k:Nat) (hf:∀ x u,f x=some u→u.ht≤k) (t:Ty):(t.subst f).ht≤t.ht+k:=by
 induction t with
 | par n=>
  refine (?_:((f n).getD (par n)).ht≤0+k)
  cases h:f n with
  | none=>exact Nat.zero_le _
  | some u=>rw [Nat.zero_add];exact hf n u h
 | ref r m t ih=>refine (?_:(t.subst f).ht+1≤t.ht+1+k);walk_at "o"
 | box t ih=>refine (?_:(t.subst f).ht+1≤t.ht+1+k);walk_at "o"
 | arr t ih=>refine (?_:(t.subst f).ht+1≤t.ht+1+k);walk_at "o"
 | c1 t ih=>refine (?_:(t.subst f).ht+1≤t.ht+1+k);walk_at "o"
 | tup a b i j=>refine (?_:max (a.subst f).ht (b.subst f).ht+1≤max a.ht b.ht+1+k);walk_at "o"
 | c2 a b i j=>refine (?_:max (a.subst f).ht (b.subst f).ht+1≤max a.ht b.ht+1+k);walk_at "o"
 | num=>exact Nat.zero_le _
 | bool=>exact Nat.zero_le _
 | c0=>exact Nat.zero_le _
theorem subst_regs (f:Str→Option Ty) (Pd:Option Str→Prop) (hf:∀ x u,f x=some u→∀ r∈u.regs,Pd r) (t:Ty):(∀ r∈t.regs,Pd r)→∀ r∈(t.subst f).regs,Pd r:=by
 induction t with
 | par n=>
  intro _ r hr
  have hr:r∈((f n).getD (par n)).regs:=hr
  cases h:f n with
  | none=>rw [h] at hr;exact nomatch hr
  | some u=>rw [h] at hr;exact hf n u h r hr
 | ref r m t ih=>intro h q hq;exact (List.mem_cons.mp hq).elim (fun e=>h q (by rw [e];exact List.mem_cons_self ..)) (ih (fun r hr=>h r (List.mem_cons_of_mem _ hr)) q)
 | box t ih=>exact ih
 | arr t ih=>exact ih
 | c1 t ih=>exact ih
 | tup a b i j=>intro h q hq;exact (List.mem_append.mp hq).elim (i (fun r hr=>h r (List.mem_append_left _ hr)) q) (j (fun r hr=>h r (List.mem_append_right _ hr)) q)
 | c2 a b i j=>intro h q hq;exact (List.mem_append.mp hq).elim (i (fun r hr=>h r (List.mem_append_left _ hr)) q) (j (fun r hr=>h r (List.mem_append_right _ hr)) q)
 | num=>exact fun h=>h
 | bool=>exact fun h=>h
 | c0=>exact fun h=>h
theorem subst_names (f:Str→Option Ty) (Pd:Str→Prop) (hf:∀ x u,f x=some u→∀ r∈u.names,Pd r) (t:Ty):(∀ r∈t.names,Pd r)→∀ r∈(t.subst f).names,Pd r:=by
 induction t with
 | par n=>
  intro h0 r hr
  have hr:r∈((f n).getD (par n)).names:=hr
  cases h:f n with
  | none=>rw [h] at hr;exact h0 r hr
  | some u=>rw [h] at hr;exact hf n u h r hr
 | ref r m t ih=>exact ih
 | box t ih=>exact ih
 | arr t ih=>exact ih
 | c1 t ih=>exact ih
 | tup a b i j=>intro h q hq;exact (List.mem_append.mp hq).elim (i (fun r hr=>h r (List.mem_append_left _ hr)) q) (j (fun r hr=>h r (List.mem_append_right _ hr)) q)
 | c2 a b i j=>intro h q hq;exact (List.mem_append.mp hq).elim (i (fun r hr=>h r (List.mem_append_left _ hr)) q) (j (fun r hr=>h r (List.mem_append_right _ hr)) q)
 | num=>exact fun h=>h
 | bool=>exact fun h=>h
 | c0=>exact fun h=>h
end Ty
noncomputable def TU (x:Str):Prop:=x="T"∨x="U"
theorem TU.sm {x:Str} (h:TU x):Sm 16 x:=by
 rcases h with rfl | rfl<;>exact ⟨by decide +kernel,by decide +kernel⟩
theorem heads_named:∀ t∈heads11,(∀ x∈t.named,x∈t.names)∧(∀ r∈t.regs,r=none)∧t.named.length≤2∧t.ht≤1∧t.size≤2∧(t=pT∨t.kind≠"param"):=by decide +kernel
theorem heads_TU:∀ t∈heads11,∀ x∈t.names,TU x:=by
 intro t ht
 simp only [heads11,List.mem_cons,List.not_mem_nil,or_false] at ht
 rcases ht with rfl | rfl | rfl | rfl | rfl | rfl | rfl | rfl | rfl | rfl | rfl<;>intro x hx<;>simp only [pT,pU,Ty.names,List.mem_cons,List.mem_append,List.not_mem_nil,or_false,or_self] at hx<;>first | exact .inl hx | exact .inr hx | exact hx
theorem heads_adt:∀ t∈heads11,t.kind="adt"→(t.name="A"∧t.parts.length=1∨t.name="B"∧t.parts.length=2∨t.name="C"∧t.parts.length=0)∧∀ u∈t.parts,u.ht=0∧u.regs=[]:=by decide +kernel
theorem RowG.ok {r:Row} (h:RowG r):RowOk r:=by
 refine Zaaaaa (heads_named r.self h.self) fun h1 h2 h3 h4 h5 h6=>?_
 have hp:∀ p∈r.params,p.1∈r.self.names:=fun p hp=>h1 p.1 (by rw [← h.names];exact List.mem_map_of_mem hp)
 refine ⟨Nat.le_trans h4 (by decide),Nat.le_trans h5 (by decide),fun p hp' hc=>⟨hp p hp',?_⟩,hp⟩
 rcases h6 with h6 | h6
 ·have:=h.asks p hp'
  rw [h6] at this
  have e:asksOf pT=([[]]:List (List Str)):=if_pos rfl
  rw [e] at this
  rw [List.mem_singleton.mp this] at hc
  cases hc
 ·exact h6
theorem RowG.txt {r:Row} (h:RowG r):TxtOk r.self:=by
 refine Zaaaaa (heads_named r.self h.self) fun h1 h2 h3 h4 h5 h6=>?_
 exact ⟨fun q hq=>.inl (h2 q hq),fun x hx=>(heads_TU _ h.self x hx).sm,Nat.le_trans h4 (by decide)⟩
theorem RowG.len {r:Row} (h:RowG r):r.params.length≤2:=by
 have:=congrArg List.length h.names
 rw [List.length_map] at this
 rw [this];exact (heads_named r.self h.self).2.2.1
theorem AdtG.ok {names:List Str} {a:AdtD} (h:AdtG names a) (t:Ty) (hl:names.length=t.parts.length):AdtOk a t:=by
 refine ⟨by rw [h.params];exact hl,Nat.le_trans h.len (by decide),fun v hv=>⟨Nat.le_trans (h.v v hv).len (by decide),fun f hf=>⟨Nat.le_trans ((h.v v hv).f f hf).ht (by decide),((h.v v hv).f f hf).regs⟩⟩⟩
theorem AdtG.held {names:List Str} {a:AdtD} (h:AdtG names a) (hn:∀ x∈names,TU x) {t:Ty} (ht:∀ u∈t.parts,u.ht=0∧u.regs=[]) (htn:∀ x∈t.names,TU x) (hp:t.kind≠"param"):∀ p∈heldV a t a.variants,TxtOk p∧p.ht < 10:=by
 intro p hp'
 refine Zea (List.mem_flatMap.mp hp') fun v hv hp'=>?_
 refine Zea (List.mem_map.mp hp') fun q hq z3=>?_
 obtain rfl:=z3
 refine Zea (List.mem_map.mp hq) fun f hf z2=>?_
 obtain rfl:=z2
 have g:=(h.v v hv).f f hf
 have hlk:∀ x u,(tabOf a.params t.parts).lookup x=some u→u∈t.parts:=fun x u e=>by
  have:=mem_of_lookup e
  exact (List.of_mem_zip (List.mem_reverse.mp this)).2
 have hnp:∀ u∈t.parts,∀ x∈u.names,TU x:=fun u hu x hx=>htn x (by
  cases t<;>simp only [Ty.parts,List.mem_cons,List.not_mem_nil,or_false] at hu<;>first | (subst hu;exact hx) | (rcases hu with rfl | rfl<;>first | exact List.mem_append_left _ hx | exact List.mem_append_right _ hx))
 have e1:=Ty.subst_ht (fun n=>(tabOf a.params t.parts).lookup n) 0 (fun x u e=>Nat.le_of_eq (ht u (hlk x u e)).1) f.2
 have g1:=g.ht
 refine ⟨⟨?_,?_,by refine (?_:(f.2.subst _).ht≤8);walk_at "o"⟩,by refine (?_:(f.2.subst _).ht < 10);walk_at "o"⟩
 ·exact Ty.subst_regs _ (fun r=>r=none∨r=stat) (fun x u e r hr=>by rw [(ht u (hlk x u e)).2] at hr;exact nomatch hr) f.2 fun r hr=>.inr (g.regs r hr)
 ·exact fun x hx=>(Ty.subst_names _ TU (fun x u e r hr=>hnp u (hlk x u e) r hr) f.2 (fun r hr=>hn r (g.names r hr)) x hx).sm
theorem WdG.adt {w:Wd} (h:WdG w) {t:Ty} (hm:t∈heads11) (hk:t.kind="adt"):∃ a names,w.adts.lookup t.name=some a∧AdtG names a∧names.length=t.parts.length∧∀ x∈names,TU x:=by
 refine Zeeeaaa h.adts fun a b c e ga gb gc=>?_
 refine Za (heads_adt t hm hk) fun h1 _=>?_
 rw [e]
 rcases h1 with ⟨h1,h2⟩ | ⟨h1,h2⟩ | ⟨h1,h2⟩
 ·exact ⟨a,_,by rw [h1];rfl,ga,h2.symm,fun x hx=>.inl (List.mem_singleton.mp hx)⟩
 ·exact ⟨b,_,by rw [h1];rfl,gb,h2.symm,fun x hx=>(List.mem_cons.mp hx).elim .inl fun hx=>.inr (List.mem_singleton.mp hx)⟩
 ·exact ⟨c,_,by rw [h1];rfl,gc,h2.symm,fun x hx=>nomatch hx⟩
theorem WdG.ok {w:Wd} (h:WdG w):WdOk w 10 where
 rows r hr:=(h.rows r hr).ok
 txt r hr:=(h.rows r hr).txt
 adt r hr hk:=by
  refine Zeeaaa (h.adt (h.rows r hr).self hk) fun a names h1 h2 h3 _=>?_
  exact ⟨a,h1,h2.ok _ h3⟩
 held r hr hk p hp:=by
  refine Zeeaaa (h.adt (h.rows r hr).self hk) fun a names h1 h2 h3 h4=>?_
  have e:adtOf w r.self=a:=by unfold adtOf;rw [h1];rfl
  have hp:p∈heldV (adtOf w r.self) r.self (adtOf w r.self).variants:=hp
  rw [e] at hp
  exact h2.held h4 (heads_adt _ (h.rows r hr).self hk).2 (heads_TU _ (h.rows r hr).self) (by rw [hk];decide +kernel) p hp
 rlen r hr:=Nat.le_trans (h.rows r hr).len (by decide)
theorem LwOk.of {w:Wd} (hl:w.rows.length≤10) (h:∀ r∈w.rows,RowOk r):LwOk w where
 len:=hl
 lk r hr t hf p hp hc:=by
  refine Za (r.self.ft_mt t []) fun h1 h2=>?_
  have h1:_=(r.self.erase.mt t.erase []).1:=h1
  have h2:_→(r.self.erase.mt t.erase []).2=_:=h2
  refine Zea ((h r hr).look (t:=t) (by rw [← h1];exact hf) hp hc) fun u e hu=>?_
  rw [h2 hf,erT_lookup] at e
  refine Zea (Option.map_eq_some_iff.mp e) fun u' e' z1=>?_
  obtain rfl:=z1
  rw [Ty.wr_ht] at hu
  exact ⟨u',e',hu⟩
noncomputable def callArg:Expr→Expr
 | .Call _ (a::_) _ _=>a
 | _=>noE
noncomputable def lamT (q:Str):Expr→Tmpl
 | .Lambda params body scope _=>⟨"<lambda>",q,params,.expr body,scope⟩
 | _=>⟨q,q,{ posonlyargs:=[],args:=[],vararg:=none,kwonlyargs:=[],kw_defaults:=[],kwarg:=none,defaults:=[] },.expr noE,{ kind:=.module,names:=[],isGenerator:=false,isCoroutine:=false,more:=[] }⟩
noncomputable def lawTurn (k:Nat):Stmt:=(forBody (stAt 45 0))[k]?.getD (.Pass ⟨0,0,0,0⟩)
noncomputable def refC:Expr:=ifCmpL (lawTurn 4)
noncomputable def lam1:Tmpl:=lamT "law.<locals>.<lambda>" (callArg (cpElt refC))
noncomputable def lam2:Tmpl:=lamT "law.<locals>.<lambda>" (callArg (ifCmpL (lawTurn 5)))
noncomputable def ifE:Stmt→Expr
 | .If t _ _ _=>t
 | .Return (some e) _=>e
 | _=>noE
noncomputable def lam3:Tmpl:=lamT "law.<locals>.<lambda>" (callArg (ifE (stAt 45 4)))
noncomputable def lam4:Tmpl:=lamT "law.<locals>.<lambda>" (callArg (ifE (stAt 45 6)))
noncomputable def qLaw:Str:="law.<locals>."
section
variable {C:Cx} {N:Fns} {D:Nat} {σ:Sto} {sc:Scope} {m:Mp} (P:Pg C N)
theorem tmOk {T:Tmpl} {l:Mp} (h1:T.scope.kind=.function) (h2:T.scope.isCoroutine=false) (h3:T.scope.isGenerator=false) (h4:(T.scope.names.map (·.1)).Nodup)
  (h5:∀ (cl:List (Str × Addr)) (doc pm cdv ct:Value),bindArgs (T.fd cl doc pm cdv ct) ⟨[],[]⟩=pure [])
  (h6:(T.scope.names.all fun p=>p.2 != .free||(l.map (·.1)).any fun k=>k == p.1)=true) (h7:((l.map (·.1)).all fun k=>T.scope.names.lookup k == some .free)=true):TmOk T l [] where
 kind:=h1
 co:=h2
 gen:=h3
 nd:=h4
 bind cl doc pm cdv ct us h:=by cases us with
  | nil=>exact h5 cl doc pm cdv ct
  | cons=>cases h
 loc p hp:=nomatch hp
 all x h:=by
  have:=List.all_eq_true.mp h6 _ (mem_of_lookup h)
  exact lookup_some_any this
 has x v h:=by
  have:=List.all_eq_true.mp h7 x (List.mem_map_of_mem (f:=Prod.fst) (mem_of_lookup h))
  exact eq_of_beq this
theorem lam1_ok (a b:AV):TmOk lam1 [("row",a),("world",b)] []:=tmOk (by rfl) (by rfl) (by rfl) (by decide +kernel) (fun _ _ _ _ _=>rfl) (by refine (?_:(List.all _ fun p=>_||(["row","world"]:List Str).any _)=true);decide +kernel) (by refine (?_:((["row","world"]:List Str).all _)=true);decide +kernel)
theorem lam2_ok (b:AV):TmOk lam2 [("world",b)] []:=tmOk (by rfl) (by rfl) (by rfl) (by decide +kernel) (fun _ _ _ _ _=>rfl) (by refine (?_:(List.all _ fun p=>_||(["world"]:List Str).any _)=true);decide +kernel) (by refine (?_:((["world"]:List Str).all _)=true);decide +kernel)
theorem lam3_ok (b:AV):TmOk lam3 [("world",b)] []:=tmOk (by rfl) (by rfl) (by rfl) (by decide +kernel) (fun _ _ _ _ _=>rfl) (by refine (?_:(List.all _ fun p=>_||(["world"]:List Str).any _)=true);decide +kernel) (by refine (?_:((["world"]:List Str).all _)=true);decide +kernel)
theorem lam4_ok (b:AV):TmOk lam4 [("world",b)] []:=tmOk (by rfl) (by rfl) (by rfl) (by decide +kernel) (fun _ _ _ _ _=>rfl) (by refine (?_:(List.all _ fun p=>_||(["world"]:List Str).any _)=true);decide +kernel) (by refine (?_:((["world"]:List Str).all _)=true);decide +kernel)
include P
theorem c_lam1 (w:Wd) (n:Nat) (hw:WdOk w n) (r:Row) (hr:r∈w.rows) (D:Nat) (hD:130≤D):CallV C D (.clo lam1 [("row",r.av N),("world",w.av N)]) [] [] (if badF w n r=true then .exc N.TraitFault [] else .ret (.p .none) []):=by
 have cl:=c_look P w n hw r hr (D - 1) (by walk_at "o")
 refine CallV.le (D:=D - 1+1) ?_ (by walk_at "o")
 cases hb:badF w n r with
 | true=>
  rw [hb] at cl
  refine clo_expr P.ok (lam1_ok _ _) rfl rfl (EvX.evO (EvX.call P.ok (EvE.fn P.ok P.look_copy (by rfl) (by rfl)) P.look_copy.keep (by rfl) (JL.h (v:=[r.av N,w.av N]) ?_) cl)) (fun m σ q=>by cases q)
  repeat' (first
  | walk_at "mW")
 | false=>
  rw [hb] at cl
  refine clo_expr P.ok (lam1_ok _ _) rfl rfl (EvE.evO (JE.h (JE.callFn P.ok P.look_copy (by rfl) (by rfl) (by rfl) (vs:=[r.av N,w.av N]) ?_ cl))) (fun m σ q=>by cases q)
  repeat' (first
  | walk_at "mW")
theorem c_lam2 (w:Wd) (n:Nat) (hw:WdOk w n) (D:Nat) (hD:130≤D):CallV C D (.clo lam2 [("world",w.av N)]) [] [] (if (w.rows.any fun r=>isC r.trait&&badF w n r)=true then .exc N.TraitFault [] else .ret (.p .none) []):=by
 have cl:=c_check P w n hw (D - 1) (by walk_at "o")
 refine CallV.le (D:=D - 1+1) ?_ (by walk_at "o")
 cases hb:w.rows.any fun r=>isC r.trait&&badF w n r with
 | true=>
  rw [hb] at cl
  refine clo_expr P.ok (lam2_ok _) rfl rfl (EvX.evO (EvX.call P.ok (EvE.fn P.ok P.check_copies (by rfl) (by rfl)) P.check_copies.keep (by rfl) (JL.h (v:=[w.av N]) ?_) cl)) (fun m σ q=>by cases q)
  repeat' (first
  | walk_at "mW")
 | false=>
  rw [hb] at cl
  refine clo_expr P.ok (lam2_ok _) rfl rfl (EvE.evO (JE.h (JE.callFn P.ok P.check_copies (by rfl) (by rfl) (by rfl) (vs:=[w.av N]) ?_ cl))) (fun m σ q=>by cases q)
  repeat' (first
  | walk_at "mW")
theorem c_ref1 (w:Wd) (n:Nat) (hw:WdOk w n) (r:Row) (hr:r∈w.rows) (D:Nat) (hD:131≤D):CallR C D N.law_refused [.clo lam1 [("row",r.av N),("world",w.av N)]] [] (.ret (.p (.bool (badF w n r))) []):=by
 have cl:=c_lam1 P w n hw r hr (D - 1) (by walk_at "o")
 refine CallR.le (D:=D - 1+1) ?_ (by walk_at "o")
 cases hb:badF w n r with
 | true=>rw [hb] at cl;exact c_refused_t P (.clo lam1 _) trivial [] cl
 | false=>rw [hb] at cl;exact c_refused_f P (.clo lam1 _) _ trivial [] cl
theorem c_ref2 (w:Wd) (n:Nat) (hw:WdOk w n) (D:Nat) (hD:131≤D):CallR C D N.law_refused [.clo lam2 [("world",w.av N)]] [] (.ret (.p (.bool (w.rows.any fun r=>isC r.trait&&badF w n r))) []):=by
 have cl:=c_lam2 P w n hw (D - 1) (by walk_at "o")
 refine CallR.le (D:=D - 1+1) ?_ (by walk_at "o")
 cases hb:w.rows.any fun r=>isC r.trait&&badF w n r with
 | true=>rw [hb] at cl;exact c_refused_t P (.clo lam2 _) trivial [] cl
 | false=>rw [hb] at cl;exact c_refused_f P (.clo lam2 _) _ trivial [] cl
theorem c_lam3 (w:Wd) (n:Nat) (hw:WdOk w n) (D:Nat) (hD:130≤D):CallV C D (.clo lam3 [("world",w.av N)]) [] [] (if (w.rows.any fun r=>isC r.trait&&badF w n r)=true then .exc N.TraitFault [] else .ret (.p .none) []):=by
 have cl:=c_check P w n hw (D - 1) (by walk_at "o")
 refine CallV.le (D:=D - 1+1) ?_ (by walk_at "o")
 cases hb:w.rows.any fun r=>isC r.trait&&badF w n r with
 | true=>
  rw [hb] at cl
  refine clo_expr P.ok (lam3_ok _) rfl rfl (EvX.evO (EvX.call P.ok (EvE.fn P.ok P.check_copies (by rfl) (by rfl)) P.check_copies.keep (by rfl) (JL.h (v:=[w.av N]) ?_) cl)) (fun m σ q=>by cases q)
  repeat' (first
  | walk_at "mW")
 | false=>
  rw [hb] at cl
  refine clo_expr P.ok (lam3_ok _) rfl rfl (EvE.evO (JE.h (JE.callFn P.ok P.check_copies (by rfl) (by rfl) (by rfl) (vs:=[w.av N]) ?_ cl))) (fun m σ q=>by cases q)
  repeat' (first
  | walk_at "mW")
theorem c_lam4 (w:Wd) (n:Nat) (hw:WdOk w n) (D:Nat) (hD:130≤D):CallV C D (.clo lam4 [("world",w.av N)]) [] [] (if (w.rows.any fun r=>isC r.trait&&badF w n r)=true then .exc N.TraitFault [] else .ret (.p .none) []):=by
 have cl:=c_check P w n hw (D - 1) (by walk_at "o")
 refine CallV.le (D:=D - 1+1) ?_ (by walk_at "o")
 cases hb:w.rows.any fun r=>isC r.trait&&badF w n r with
 | true=>
  rw [hb] at cl
  refine clo_expr P.ok (lam4_ok _) rfl rfl (EvX.evO (EvX.call P.ok (EvE.fn P.ok P.check_copies (by rfl) (by rfl)) P.check_copies.keep (by rfl) (JL.h (v:=[w.av N]) ?_) cl)) (fun m σ q=>by cases q)
  repeat' (first
  | walk_at "mW")
 | false=>
  rw [hb] at cl
  refine clo_expr P.ok (lam4_ok _) rfl rfl (EvE.evO (JE.h (JE.callFn P.ok P.check_copies (by rfl) (by rfl) (by rfl) (vs:=[w.av N]) ?_ cl))) (fun m σ q=>by cases q)
  repeat' (first
  | walk_at "mW")
theorem c_ref3 (w:Wd) (n:Nat) (hw:WdOk w n) (D:Nat) (hD:131≤D):CallR C D N.law_refused [.clo lam3 [("world",w.av N)]] [] (.ret (.p (.bool (w.rows.any fun r=>isC r.trait&&badF w n r))) []):=by
 have cl:=c_lam3 P w n hw (D - 1) (by walk_at "o")
 refine CallR.le (D:=D - 1+1) ?_ (by walk_at "o")
 cases hb:w.rows.any fun r=>isC r.trait&&badF w n r with
 | true=>rw [hb] at cl;exact c_refused_t P (.clo lam3 _) trivial [] cl
 | false=>rw [hb] at cl;exact c_refused_f P (.clo lam3 _) _ trivial [] cl
theorem c_ref4 (w:Wd) (n:Nat) (hw:WdOk w n) (D:Nat) (hD:131≤D):CallR C D N.law_refused [.clo lam4 [("world",w.av N)]] [] (.ret (.p (.bool (w.rows.any fun r=>isC r.trait&&badF w n r))) []):=by
 have cl:=c_lam4 P w n hw (D - 1) (by walk_at "o")
 refine CallR.le (D:=D - 1+1) ?_ (by walk_at "o")
 cases hb:w.rows.any fun r=>isC r.trait&&badF w n r with
 | true=>rw [hb] at cl;exact c_refused_t P (.clo lam4 _) trivial [] cl
 | false=>rw [hb] at cl;exact c_refused_f P (.clo lam4 _) _ trivial [] cl
end
theorem asF_mkL (l:List AV):asF (mkL l)=some l:=by
 unfold mkL
 cases h:allP l with
 | none=>rfl
 | some xs=>
  refine (?_:some (xs.map AV.p)=some l)
  congr 1
  induction l generalizing xs with
  | nil=>cases h;rfl
  | cons x l ih=>
   cases x with
   | p y=>
    simp only [allP,Option.map_eq_some_iff] at h
    refine Zea h fun ys e z11=>?_
    obtain rfl:=z11
    rw [List.map_cons,ih ys e]
   | _=>cases h
theorem bools_eqv:∀ l:List Bool,PyData.eqvAll (l.map .bool) (l.map .bool)=true
 | []=>rfl
 | b::l=>by
  refine (?_:((b == b)&&PyData.eqvAll (l.map .bool) (l.map .bool))=true)
  rw [bools_eqv l];simp
theorem bools_depth:∀ l:List Bool,PyData.depthAll (l.map .bool)=0
 | []=>rfl
 | b::l=>by
  refine (?_:max 0 (PyData.depthAll (l.map .bool))=0)
  rw [bools_depth l];rfl
theorem bools_any:∀ l:List Bool,((l.map PyData.bool).any fun y=>y.eqv (.bool true))=l.any id
 | []=>rfl
 | b::l=>by
  refine (?_:((b == true)||((l.map PyData.bool).any fun y=>y.eqv (.bool true)))=(id b||l.any id))
  rw [bools_any l];cases b<;>rfl
section
variable {C:Cx} {N:Fns} {D:Nat} {σ:Sto} {sc:Scope} {m:Mp} (P:Pg C N)
theorem bools_ne {l:List Bool}:cmpV .NotEq (.p (.list (l.map .bool))) (.p (.list (l.map .bool))) σ=some false:=
 op_ne (b:=true) (Nat.le_trans (Nat.min_le_left ..) (by simp only [PyData.depth];rw [bools_depth];decide)) (bools_eqv l) rfl
theorem bool_ne {b:Bool}:cmpV .NotEq (.p (.bool b)) (.p (.bool b)) σ=some false:=op_ne (b:=true) (by simp [PyData.depth]) (by refine (?_:(b == b)=true);simp) rfl
include P
theorem elt1 (w:Wd) (n:Nat) (hw:WdOk w n) (r:Row) (hr:r∈w.rows) (p:Addr × Addr) (hp:p∈C.tabs) (hq:C.tq p.2="law.<locals>.<lambda>") (mm:Mp) (h1:mm.lookup ("world":Str)=some (w.av N)) (h2:mm.lookup ("<env>":Str)=some (.ins p.1 [(qLaw,.val .none)])) (hσ:∀ o∈σ,ncO o=true) (D:Nat) (hD:140≤D) :
  JE C D (relabelS (cpScope refC) (scopeAt 45)) (("row",r.av N)::mm) σ (cpElt refC) (.p (.bool (badF w n r))) σ:=by
 have pl:Place C (relabelS (cpScope refC) (scopeAt 45)) (("row",r.av N)::mm) qLaw "<lambda>":=⟨⟨p,hp,h2,hq⟩,by rfl⟩
 have cp:Capt (("row",r.av N)::mm) lam1.scope (relabelS (cpScope refC) (scopeAt 45)) [("row",r.av N),("world",w.av N)]:=Capt.of (by refine (?_:captB ["row","world"] _ _=true);decide +kernel) fun q hq=>by
  rcases List.mem_cons.mp hq with rfl | hq
  ·rfl
  ·rw [List.mem_singleton.mp hq];exact h1
 have h:=(c_ref1 P w n hw r hr D (by walk_at "o")).under' (σ:=σ) (by refine (?_:(belD 0 [(("row":Str),r.av N),("world",w.av N)]&&true)=true);rw [belD_cons (Row.bel N r) (belD_cons (Wd.bel N w) rfl)];rfl)
 exact JE.callLam P.ok (JE.fn P.ok P.law_refused (by rfl) (by rfl)) P.law_refused.keep pl cp (fun _=>rfl) h hσ rfl
theorem elt2 (w:Wd) (n:Nat) (hw:WdOk w n) (p:Addr × Addr) (hp:p∈C.tabs) (hq:C.tq p.2="law.<locals>.<lambda>") (mm:Mp) (h1:mm.lookup ("world":Str)=some (w.av N)) (h2:mm.lookup ("<env>":Str)=some (.ins p.1 [(qLaw,.val .none)])) (hσ:∀ o∈σ,ncO o=true) (D:Nat) (hD:140≤D) :
  JE C D (scopeAt 45) mm σ (ifCmpL (lawTurn 5)) (.p (.bool (w.rows.any fun r=>isC r.trait&&badF w n r))) σ:=by
 have pl:Place C (scopeAt 45) mm qLaw "<lambda>":=⟨⟨p,hp,h2,hq⟩,by rfl⟩
 have cp:Capt mm lam2.scope (scopeAt 45) [("world",w.av N)]:=Capt.of (by refine (?_:captB ["world"] _ _=true);decide +kernel) fun q hq=>by
  rw [List.mem_singleton.mp hq];exact h1
 have h:=(c_ref2 P w n hw D (by walk_at "o")).under' (σ:=σ) (by refine (?_:(belD 0 [(("world":Str),w.av N)]&&true)=true);rw [belD_cons (Wd.bel N w) rfl];rfl)
 exact JE.callLam P.ok (JE.fn P.ok P.law_refused (by rfl) (by rfl)) P.law_refused.keep pl cp (fun _=>rfl) h hσ rfl
theorem type_turn (w:Wd) (hw:WdG w) (x:List Str) (D:Nat) (hD:140≤D) (s:Src2) (h:SrcOk s):∃ s',SrcOk s'∧∀ (i:Int) (m:Mp) (h1:m.lookup ("source":Str)=some (.loc 0)) (h2:m.lookup ("world":Str)=some (w.av N)) (h3:m.lookup ("bounds":Str)=some (.dct (bdv [("U",["Clone"]),("T",x)]))) (h4:m.lookup ("T":Str)=none) (h5:m.lookup ("turn":Str)=none),
  JS C D (scopeAt 45) (("turn",.p (.int i))::m) [srcO s] (forBody (lawTurn 7)) (.next m [srcO s']):=by
 refine Zeeaa (c_type P ["T","U"] (by decide) 2 s h) fun t s' ht ok' ct=>?_
 refine ⟨s',ok',fun i m h1 h2 h3 h4 h5=>?_⟩
 have ct:CallR C D N.law_type [.loc 0,.p (.int 2),.p (.list [.str "T",.str "U"])] [srcO s] (.ret (.p t.av) [srcO s']):=ct [srcO s] 0 rfl D (by walk_at "o")
 have hht:=ht.ht
 have e1:=(c_is_copy P w [("U",["Clone"]),("T",x)] hw.ok.rows 10 t (by walk_at "o") (by walk_at "o") D (by walk_at "o")).under' (σ:=[srcO s']) (by refine (?_:(true&&(bel 0 (w.av N)&&(belD 0 (bdv _)&&true)))=true);rw [Wd.bel,bdv_bel];rfl)
 have e2:=(c_law_copied P w.rows [("U",["Clone"]),("T",x)] hw.ok.rows hw.ok.rlen (LwOk.of (Nat.le_trans hw.len (by decide)) hw.ok.rows).lk 10 t (by walk_at "o") (by walk_at "o") D (by walk_at "o")).under' (σ:=[srcO s']) (by refine (?_:(bel 0 (rowsAv N w.rows)&&(true&&(belD 0 (bdv _)&&true)))=true);rw [rowsAv_bel,bdv_bel];rfl)
 rw [← cp_lc] at e2
 have hne:=bool_ne (σ:=[srcO s']) (b:=cpF w.rows [("U",["Clone"]),("T",x)] 10 t)
 refine JS.nw (m1:=("T",.p t.av)::("turn",.p (.int i))::m) ?_ (weak_cons h4 (weak_cons h5 weak_refl))
 have w1:∀ y v,m.lookup y=some v→(y == ("turn":Str))=false→((("turn":Str),AV.p (.int i))::m).lookup y=some v:=fun y v e q=>by rw [List.lookup_cons,q];exact e
 have w2:∀ y v,m.lookup y=some v→(y == ("turn":Str))=false→(y == ("T":Str))=false→((("T":Str),AV.p t.av)::(("turn":Str),AV.p (.int i))::m).lookup y=some v:=fun y v e q q2=>by rw [List.lookup_cons,q2];exact w1 y v e q
 have a1:=w1 _ _ h1 (by decide +kernel)
 have b2:=w2 _ _ h2 (by decide +kernel) (by decide +kernel)
 have b3:=w2 _ _ h3 (by decide +kernel) (by decide +kernel)
 repeat' (first
  | (show JE _ _ _ _ _ _ _ _;first | exact JE.name (v:=.loc 0) a1 (by first | exact .inl (by rfl) | exact .inr (.inl (by rfl)) | exact .inr (.inr (by rfl))) (by rfl) (by rfl) | exact JE.name (v:=w.av N) b2 (by first | exact .inl (by rfl) | exact .inr (.inl (by rfl)) | exact .inr (.inr (by rfl))) (by rfl) (by rfl) | exact JE.name (v:=.dct (bdv [("U",["Clone"]),("T",x)])) b3 (by first | exact .inl (by rfl) | exact .inr (.inl (by rfl)) | exact .inr (.inr (by rfl))) (by rfl) (by rfl) | apply JE.callFn P.ok P.law_type | apply JE.callFn P.ok P.is_copy | apply JE.callFn P.ok P.law_copied | apply JE.attr)
  | (show CallR _ _ _ _ _ _;first | exact ct | exact e1 | exact e2) | exact hne | (show Op1 _ _ _ _ _ _ _;exact op_attr P.ok (by rfl) (P.a_world _ (by decide +kernel)) (by rfl))
  | walk_at "mW")
theorem type_loop (w:Wd) (hw:WdG w) (x:List Str) (D:Nat) (hD:140≤D):∀ (n k0:Nat) (s:Src2),SrcOk s→∃ s',SrcOk s'∧∀ (m:Mp) (h1:m.lookup ("source":Str)=some (.loc 0)) (h2:m.lookup ("world":Str)=some (w.av N)) (h3:m.lookup ("bounds":Str)=some (.dct (bdv [("U",["Clone"]),("T",x)]))) (h4:m.lookup ("T":Str)=none) (h5:m.lookup ("turn":Str)=none),
  LoopJ C D (scopeAt 45) (bindName1 "turn") (forBody (lawTurn 7)) ((List.range' k0 n).map fun (i:Nat)=>AV.p (.int (i:Int))) m [srcO s] (.next m [srcO s'])
 | 0,k0,s,h=>⟨s,h,fun m _ _ _ _ _=>LoopJ.nil⟩
 | n+1,k0,s,h=>by
  refine Zea (type_turn P w hw x D hD s h) fun s1 ok1 tn=>?_
  refine Zea (type_loop w hw x D hD n (k0+1) s1 ok1) fun s2 ok2 L=>?_
  refine ⟨s2,ok2,fun m h1 h2 h3 h4 h5=>?_⟩
  rw [List.range'_succ,List.map_cons]
  exact .next rfl (tn _ m h1 h2 h3 h4 h5) (L m h1 h2 h3 h4 h5)
end
noncomputable def lawM (p:Addr × Addr) (ns:List Int):Mp:=[("script",.p (.list (ns.map .int))),("<env>",.ins p.1 [(qLaw,.val .none)])]
noncomputable def asks2:List (List Str):=[[],["Copy"]]
theorem any_filter' {α:Type} (f g:α→Bool):∀ l:List α,((l.filter f).map g).any id=l.any fun a=>f a&&g a
 | []=>rfl
 | a::l=>by
  have ih:=any_filter' f g l
  cases h:f a with
  | true=>rw [List.filter_cons_of_pos h,List.map_cons,List.any_cons,List.any_cons,ih,h];rfl
  | false=>rw [List.filter_cons_of_neg (by simp [h]),List.any_cons,ih,h];rfl
section
variable {C:Cx} {N:Fns} {D:Nat} {σ:Sto} {sc:Scope} {m:Mp} (P:Pg C N)
include P
theorem law_turn (ns:List Int) (hz:ns.length≤63) (k:Nat) (hk:k≤1) (p:Addr × Addr) (hp:p∈C.tabs) (hq:C.tq p.2="law.<locals>.<lambda>") (D:Nat) (hD:200≤D) :
  JS C D (scopeAt 45) (("k",.p (.int (k:Int)))::lawM p ns) [] (forBody (stAt 45 0)) (.next (lawM p ns) []):=by
 have cpool:CallR C D N.law_pool [.p (.list (ns.map .int)),.p (.int (k:Int))] [] (.ret (.loc 0) [srcO (poolS ns k)]):=c_pool P ns k (by walk_at "o") (by walk_at "o") D (by walk_at "o")
 refine Zeeaa (c_law_world P D (by walk_at "o") (poolS ns k) (poolS_ok ns k)) fun w s1 hw ok1 cw=>?_
 have n1:0 < (asks2.map fun l=>AV.p (strL l)).length:=by decide
 refine Zea (draw_at s1 ok1 _ n1) fun x hx hget=>?_
 refine Zea (List.mem_map.mp hx) fun x hxm z15=>?_
 obtain rfl:=z15
 have ok2:=(drawN_ok ok1 n1).2.2
 have co:CallR C D N.law_one [.loc 0,.p (.list [.tuple [],.tuple [.str "Copy"]])] [srcO s1] (.ret (.p (strL x)) [srcO _]):=c_one P (σ:=[srcO s1]) s1 ok1 (.p (.list [.tuple [],.tuple [.str "Copy"]])) (asks2.map fun l=>AV.p (strL l)) (fun _=>rfl) n1 (by decide) _ hget 0 rfl D (by walk_at "o")
 generalize hs2:(drawN s1 (asks2.map fun l=>AV.p (strL l)).length).2=s2 at co ok2
 refine Zea (type_loop P w hw x D (by walk_at "o") 4 0 s2 ok2) fun s3 ok3 L=>?_
 have hσ:∀ s,∀ o∈[srcO s],ncO o=true:=fun s o ho=>by rw [List.mem_singleton.mp ho];rfl
 have hlw:=LwOk.of (Nat.le_trans hw.len (by decide)) hw.ok.rows
 have cbad:∀ r∈w.rows,CallR C D N.law_is_bad [w.av N,r.av N] [srcO s1] (.ret (.p (.bool (badF w 10 r))) [srcO s1]):=fun r hr=>by
  rw [bad_lbad]
  exact (c_is_bad P w 10 hw.ok hlw r hr D (by walk_at "o")).under' (by refine (?_:(bel 0 (w.av N)&&(bel 0 (r.av N)&&true))=true);rw [Wd.bel,Row.bel];rfl)
 have mem:∀ {r},r∈w.rows.filter (fun r=>isC r.trait)→r∈w.rows:=fun h=>(List.mem_filter.mp h).1
 have hl1:((w.rows.filter fun r=>isC r.trait).map (Row.av N)).length≤sizeLine:=by
  rw [List.length_map];exact Nat.le_trans (List.length_filter_le ..) (Nat.le_trans hw.len (by decide))
 have hl2:((w.rows.filter fun r=>isC r.trait).map fun r=>AV.p (.bool (badF w 10 r))).length≤sizeLine:=by
  rw [List.length_map];exact Nat.le_trans (List.length_filter_le ..) (Nat.le_trans hw.len (by decide))
 have hmk:mkL ((w.rows.filter fun r=>isC r.trait).map fun r=>.p (.bool (badF w 10 r)))=.p (.list (((w.rows.filter fun r=>isC r.trait).map (badF w 10)).map .bool)):=by
  rw [mkL_map,List.map_map];rfl
 have hin:cmpV .In (.p (.bool true)) (.p (.list (((w.rows.filter fun r=>isC r.trait).map (badF w 10)).map .bool))) [srcO s1]=some (w.rows.any fun r=>isC r.trait&&badF w 10 r):=by
  refine (?_:some ((((w.rows.filter fun r=>isC r.trait).map (badF w 10)).map PyData.bool).any fun y=>y.eqv (.bool true))=_)
  rw [bools_any,any_filter']
 have L:LoopJ C D (scopeAt 45) (bindName1 "turn") (forBody (lawTurn 7)) (rangeL 4) (("bounds",.dct (bdv [("U",["Clone"]),("T",x)]))::("due",.p (.list (((w.rows.filter fun r=>isC r.trait).map (badF w 10)).map .bool)))::("rows",mkL ((w.rows.filter fun r=>isC r.trait).map (Row.av N)))::("world",w.av N)::("source",.loc 0)::("k",.p (.int (k:Int)))::lawM p ns) [srcO s2] _:=L _ rfl rfl rfl rfl rfl
 refine JS.back0 (σ1:=[srcO s3]) (m1:=("bounds",.dct (bdv [("U",["Clone"]),("T",x)]))::("due",.p (.list (((w.rows.filter fun r=>isC r.trait).map (badF w 10)).map .bool)))::("rows",mkL ((w.rows.filter fun r=>isC r.trait).map (Row.av N)))::("world",w.av N)::("source",.loc 0)::("k",.p (.int (k:Int)))::lawM p ns) ?_ rfl (weak_cons rfl (weak_cons rfl (weak_cons rfl (weak_cons rfl (weak_cons rfl (weak_cons rfl weak_refl))))))
 repeat' (first
  | (show JE _ _ _ _ _ _ _ _;first | apply JE.callFn P.ok P.law_pool | apply JE.callFn P.ok P.law_world | apply JE.callFn P.ok P.law_is_bad | apply JE.callFn P.ok P.law_one | exact elt1 P w 10 hw.ok _ (mem (by assumption)) p hp hq _ (by rfl) (by rfl) (hσ _) _ (by walk_at "o") | exact elt2 P w 10 hw.ok p hp hq _ (by rfl) (by rfl) (hσ _) _ (by walk_at "o") | apply JE.compC0v | apply JE.dict2 P.ok | apply JE.attr)
  | (show JM _ _ _ _ _ _ _ _ _ _ _;first | apply JM.range (n:=4) P.ok P.b_range boot_range | apply JM.seq | apply JM.range (n:=4) P.ok P.b_range boot_range)
  | (show J1 _ _ _ _ _ _ _;first | apply J1.compM1v | apply J1.compM0v | apply J1.forM)
  | (show CompJ0 _ _ _ _ _ _ _ _ _ _;refine CompJ0.each (g:=Row.av N) (f:=fun r=>.p (.bool (badF w 10 r))) (l:=w.rows.filter fun r=>isC r.trait) (fun r hr=>⟨_,rfl,?_⟩))
  | (show CompJ1 _ _ _ _ _ _ _ _ _ _ _;refine CompJ1.each (g:=Row.av N) (q:=fun r=>isC r.trait) (f:=Row.av N) (l:=w.rows) (fun one ho=>⟨_,rfl,?_,fun hq=>?_⟩))
  | (show LoopJ _ _ _ _ _ _ _ _ _;exact L)
  | (show CallR _ _ _ _ _ _;first | exact cpool | exact cw | exact cbad _ (mem (by assumption)) | exact co) | exact cmp_str rfl rfl | exact bools_ne | exact hin | exact bool_ne | exact asF_mkL _ | exact hmk | exact hl1 | exact hl2 | decide +kernel | (show Op1 _ _ _ _ _ _ _;first | exact op_attr P.ok (by rfl) (P.a_world _ (by decide +kernel)) (by rfl) | exact op_attr P.ok (by rfl) (P.a_row _ (by decide +kernel)) (by rfl))
  | walk_at "mW")
end
section
variable {C:Cx} {D n:Nat} {sc scope:Scope} {m m' m1:Mp} {σ σ' σ'':Sto} {v a fv:AV} {c f:Addr}
theorem J1.assign2m {v1 v2:AV} {x y:Str} {xp yp tp pos vp:Pos} {k k':Nat} {es:List Expr} (h:JL C D sc m σ es [v1,v2] σ') (hx:sc.names.lookup x=some .cell) (hy:sc.names.lookup y=some .local) :
  J1 C D sc m σ (.Assign [.Tuple [.Name x xp,.Name y yp] k tp] (.Tuple es k' vp) pos) (.next ((y,v2)::(x,v1)::m) σ'):=
 J1.assign2n h (.inr hx) (.inl hy) fun env he=>by
  have ex:env.kindOf x=some .cell:=by refine (?_:env.scope.names.lookup x=_);rw [he,hx]
  exact swapped_cell ex
theorem JE.listCall {g:Expr} {as:List Expr} {ks:List Keyword} {p pos:Pos} (h:JE C D sc m σ (.Call g as ks p) v σ'):JE C D sc m σ (.List [.Call g as ks p] pos) (.loc σ'.length) (σ'++[.lst [v]]):=JE.listT (JL.cons rfl h JL.nil) (by simp)
end
noncomputable def aC:AdtD:=⟨"C",[],[("C",[("0",.num)])],false⟩
noncomputable def r0:Row:=⟨0,[],"Copy",.c0⟩
noncomputable def r1:Row:=⟨1,[],"Drop",.c0⟩
noncomputable def wC (l:List Row):Wd:=⟨[("C",aC)],l⟩
theorem wC_ok (l:List Row) (hl:∀ r∈l,r=r0∨r=r1):WdOk (wC l) 10 where
 rows r hr:=by rcases hl r hr with rfl | rfl<;>exact ⟨by decide,by decide,(fun p hp=>nomatch hp),(fun p hp=>nomatch hp)⟩
 txt r hr:=by rcases hl r hr with rfl | rfl<;>exact ⟨(fun p hp=>nomatch hp),(fun p hp=>nomatch hp),by decide⟩
 adt r hr _:=by
  have ok:AdtOk aC .c0:=⟨rfl,by decide,fun v hv=>by
   rw [List.mem_singleton.mp hv]
   exact ⟨by decide,fun f hf=>by rw [List.mem_singleton.mp hf];exact ⟨by decide,fun r hr=>nomatch hr⟩⟩⟩
  rcases hl r hr with rfl | rfl<;>exact ⟨aC,rfl,ok⟩
 held r hr _ p hp:=by
  have hp:p∈[Ty.num]:=by rcases hl r hr with rfl | rfl<;>exact hp
  rw [List.mem_singleton.mp hp]
  exact ⟨⟨(fun p hp=>nomatch hp),(fun p hp=>nomatch hp),by decide⟩,by decide⟩
 rlen r hr:=by rcases hl r hr with rfl | rfl<;>decide
theorem wC_any1:((wC [r0]).rows.any fun r=>isC r.trait&&badF (wC [r0]) 10 r)=false:=by decide +kernel
theorem wC_any2:((wC [r0,r1]).rows.any fun r=>isC r.trait&&badF (wC [r0,r1]) 10 r)=true:=by decide +kernel
noncomputable def cSt (N:Fns) (l:List Row):Sto:=[watt 2 4,.ins N.World 0,.dct [("C",aC.av N)],.lst [],.lst (l.map (Row.av N))]
theorem cSt_fz (N:Fns) (l:List Row):Fz (cSt N l) 0 (.loc 1) ((wC l).av N):=
 .lins (by decide) (by decide) rfl rfl (.cons (.p _) (.cons (.ldct (by decide) rfl (FzD.same rfl)) (.cons (Fz.same rfl) (.cons (Fz.same rfl) (.cons (Fz.same rfl) (.cons (.llst (by decide) rfl (FzL.same (rows_beln N 0 _))) (.cons (Fz.same rfl) (.cons (Fz.same rfl) .nil))))))))
theorem rows_nc (N:Fns):∀ l:List Row,ncL (l.map (Row.av N))=true
 | []=>rfl
 | _::l=>rows_nc N l
theorem cSt_nc (N:Fns) (l:List Row):∀ o∈cSt N l,ncO o=true:=by
 intro o ho
 simp only [cSt,List.mem_cons,List.not_mem_nil,or_false] at ho
 rcases ho with rfl | rfl | rfl | rfl | rfl
 ·rfl
 ·rfl
 ·rfl
 ·rfl
 ·exact rows_nc N l
section
variable {C:Cx} {N:Fns} {D:Nat} {σ:Sto} {sc:Scope} {m:Mp} (P:Pg C N)
include P
theorem elt3 (l:List Row) (hl:∀ r∈l,r=r0∨r=r1) (b:Bool) (hb:((wC l).rows.any fun r=>isC r.trait&&badF (wC l) 10 r)=b) (p:Addr × Addr) (hp:p∈C.tabs) (hq:C.tq p.2="law.<locals>.<lambda>") (mm:Mp) (h1:mm.lookup ("world":Str)=some (.loc 1)) (h2:mm.lookup ("<env>":Str)=some (.ins p.1 [(qLaw,.val .none)])) (D:Nat) (hD:140≤D) :
  JE C D (scopeAt 45) mm (cSt N l) (ifE (stAt 45 4)) (.p (.bool b)) (cSt N l):=by
 have pl:Place C (scopeAt 45) mm qLaw "<lambda>":=⟨⟨p,hp,h2,hq⟩,by rfl⟩
 have cp:Capt mm lam3.scope (scopeAt 45) [("world",.loc 1)]:=Capt.of (by refine (?_:captB ["world"] _ _=true);decide +kernel) fun q hq=>by
  rw [List.mem_singleton.mp hq];exact h1
 have h:=(c_ref3 P (wC l) 10 (wC_ok l hl) D (by walk_at "o")).under (σ:=cSt N l) (vs:=[.clo lam3 [("world",.loc 1)]]) (.cons (.clo (.cons (cSt_fz N l) .nil)) .nil)
 rw [hb] at h
 exact JE.callLam P.ok (JE.fn P.ok P.law_refused (by rfl) (by rfl)) P.law_refused.keep pl cp (fun _=>rfl) h (cSt_nc N l) rfl
theorem elt4 (l:List Row) (hl:∀ r∈l,r=r0∨r=r1) (b:Bool) (hb:((wC l).rows.any fun r=>isC r.trait&&badF (wC l) 10 r)=b) (p:Addr × Addr) (hp:p∈C.tabs) (hq:C.tq p.2="law.<locals>.<lambda>") (mm:Mp) (h1:mm.lookup ("world":Str)=some (.loc 1)) (h2:mm.lookup ("<env>":Str)=some (.ins p.1 [(qLaw,.val .none)])) (D:Nat) (hD:140≤D) :
  JE C D (scopeAt 45) mm (cSt N l) (ifE (stAt 45 6)) (.p (.bool b)) (cSt N l):=by
 have pl:Place C (scopeAt 45) mm qLaw "<lambda>":=⟨⟨p,hp,h2,hq⟩,by rfl⟩
 have cp:Capt mm lam4.scope (scopeAt 45) [("world",.loc 1)]:=Capt.of (by refine (?_:captB ["world"] _ _=true);decide +kernel) fun q hq=>by
  rw [List.mem_singleton.mp hq];exact h1
 have h:=(c_ref4 P (wC l) 10 (wC_ok l hl) D (by walk_at "o")).under (σ:=cSt N l) (vs:=[.clo lam4 [("world",.loc 1)]]) (.cons (.clo (.cons (cSt_fz N l) .nil)) .nil)
 rw [hb] at h
 exact JE.callLam P.ok (JE.fn P.ok P.law_refused (by rfl) (by rfl)) P.law_refused.keep pl cp (fun _=>rfl) h (cSt_nc N l) rfl
theorem law_end (ns:List Int) (p:Addr × Addr) (hp:p∈C.tabs) (hq:C.tq p.2="law.<locals>.<lambda>") (D:Nat) (hD:200≤D) :
  JS C D (scopeAt 45) (lawM p ns) [] ((bodyAt 45).drop 1) (.ret (.p (.bool true)) (cSt N [r0,r1])):=by
 have shut0:Shut [watt 2 3,.ins N.World 0,.dct [],.lst []]:=by
  intro o ho
  simp only [List.mem_cons,List.not_mem_nil,or_false] at ho
  rcases ho with rfl | rfl | rfl | rfl<;>rfl
 have shut1:Shut [watt 2 3,.ins N.World 0,.dct [("C",aC.av N)],.lst []]:=by
  intro o ho
  simp only [List.mem_cons,List.not_mem_nil,or_false] at ho
  rcases ho with rfl | rfl | rfl | rfl<;>rfl
 have shut2:Shut (cSt N [r0]):=by
  intro o ho
  simp only [cSt,List.mem_cons,List.not_mem_nil,or_false] at ho
  rcases ho with rfl | rfl | rfl | rfl | rfl<;>rfl
 have ca:=c_adt_new P aC shut0 D (by walk_at "o")
 have cr0:=c_row_new P r0 shut1 D (by walk_at "o")
 have cr1:=c_row_new P r1 shut2 D (by walk_at "o")
 have e3:=fun mm h1 h2=>elt3 P [r0] (fun r hr=>.inl (List.mem_singleton.mp hr)) false wC_any1 p hp hq mm h1 h2 D (by walk_at "o")
 have e4:=fun mm h1 h2=>elt4 P [r0,r1] (fun r hr=>(List.mem_cons.mp hr).imp id List.mem_singleton.mp) true wC_any2 p hp hq mm h1 h2 D (by walk_at "o")
 repeat' (first
  | (show JE _ _ _ _ _ _ _ _;first | exact JE.callL0 P.ok ⟨EvE.cls P.ok P.c_world (by rfl) (by rfl)⟩ P.c_world.keep (c_world_new0 P _ (by walk_at "o")) | exact e3 _ (by rfl) (by rfl) | exact e4 _ (by rfl) (by rfl) | apply JE.callCls P.ok P.c_adt.name P.c_adt.keep | apply JE.callCls P.ok P.c_row.name P.c_row.keep | exact JE.dict0F P.ok | exact JE.lnum P (by rfl) | apply JE.listCall | apply JE.append | apply JE.attr)
  | (show J1 _ _ _ _ _ _ _;first | apply J1.assign2m | apply J1.setItem | apply J1.setAttr P.ok) | exact ca | exact cr0 | exact cr1 | exact P.s_world _ (by decide +kernel) | exact Nat.lt_of_le_of_lt (Nat.le_of_ble_eq_true (by rfl):_≤100) (by decide) | (show Op1 _ _ _ _ _ _ _;exact op_attr P.ok (by rfl) (P.a_world _ (by decide +kernel)) (by rfl))
  | walk_at "mW")
end
section
variable {C:Cx} {N:Fns} {D:Nat} {σ:Sto} {sc:Scope} {m:Mp} (P:Pg C N)
include P
theorem law_loop (ns:List Int) (hz:ns.length≤63) (p:Addr × Addr) (hp:p∈C.tabs) (hq:C.tq p.2="law.<locals>.<lambda>") (D:Nat) (hD:200≤D):∀ (n k0:Nat),k0+n≤2 →
  LoopJ C D (scopeAt 45) (bindName1 "k") (forBody (stAt 45 0)) ((List.range' k0 n).map fun (i:Nat)=>AV.p (.int (i:Int))) (lawM p ns) [] (.next (lawM p ns) [])
 | 0,k0,_=>LoopJ.nil
 | n+1,k0,h=>by
  rw [List.range'_succ,List.map_cons]
  exact .next rfl (law_turn P ns hz k0 (by walk_at "o") p hp hq D hD) (law_loop ns hz p hp hq D hD n (k0+1) (by walk_at "o"))
theorem law_all (ns:List Int) (hz:ns.length≤63) (p:Addr × Addr) (hp:p∈C.tabs) (hq:C.tq p.2="law.<locals>.<lambda>") (D:Nat) (hD:200≤D):JS C D (scopeAt 45) (lawM p ns) [] (bodyAt 45) (.ret (.p (.bool true)) (cSt N [r0,r1])):=by
 refine JS.blk 1 (m1:=lawM p ns) (σ1:=[]) ?_ (law_end P ns p hp hq D hD)
 have bl:=bi_lenP (C:=C) (D:=D) (σ:=[]) (xs:=ns.map .int) (by rw [List.length_map];exact Nat.le_trans hz (by decide))
 rw [List.length_map] at bl
 obtain ⟨n,hn,hn2⟩:∃ n:Nat,(if (if (ns.length:Int) < 2 then (ns.length:Int) else 2) > 1 then (if (ns.length:Int) < 2 then (ns.length:Int) else 2) else 1)=(n:Int)∧n≤2:=by
  by_cases h:ns.length < 2
  ·refine ⟨1,?_,by decide⟩
   rw [if_pos (show (ns.length:Int) < 2 by walk_at "o"),if_neg (by walk_at "o")];rfl
  ·exact ⟨2,by rw [if_neg (show ¬ (ns.length:Int) < 2 by walk_at "o")];rfl,by decide⟩
 have L:LoopJ C D (scopeAt 45) (bindName1 "k") (forBody (stAt 45 0)) (rangeL n) (lawM p ns) [] (.next (lawM p ns) []):=by
  unfold rangeL;rw [List.range_eq_range']
  exact law_loop P ns hz p hp hq D hD n 0 (by walk_at "o")
 have h6:n < 1000000:=by walk_at "o"
 repeat' (first
  | (show JE _ _ _ _ _ _ _ _;first | apply JE.callBi P.ok P.b_len boot_len | apply JE.callBi P.ok P.b_max boot_max | apply JE.callBi P.ok P.b_min boot_min)
  | (show JM _ _ _ _ _ _ _ _ _ _ _;apply JM.range P.ok P.b_range boot_range)
  | (show J1 _ _ _ _ _ _ _;apply J1.forM)
  | (show LoopJ _ _ _ _ _ _ _ _ _;exact L)
  | (show BI _ _ _ _ _ _ _;exact bl) | exact hn | exact h6
  | walk_at "mW")
end
noncomputable def fdIn (K:Frag) (a:Addr):Option FuncData:=match K.lookup a with
 | some ⟨_,_,.func fd,_⟩=>some fd
 | _=>none
theorem fdIn_get {K:Frag} {h:Heap} {a:Addr} {fd:FuncData} (X:K.In h) (e:fdIn K a=some fd):∃ oc od sl,h.get? a=some ⟨oc,od,.func fd,sl⟩:=by
 unfold fdIn at e
 split at e
 ·rename_i oc od f sl he
  cases e
  exact ⟨oc,od,sl,X _ _ he⟩
 ·cases e
noncomputable def codeIn (K:Frag):Value→Option Str
 | .ref c=>match K.lookup c with
  | some ⟨_,_,.fields vs,_⟩=>match (vs[1]?:Option Value) with
   | some (.str q _)=>some q
   | _=>none
  | _=>none
 | _=>none
theorem codeIn_rec {K:Frag} {h:Heap} {v:Value} {q:Str} (X:K.In h) (e:codeIn K v=some q):∃ c o vs t,v=.ref c∧h.get? c=some o∧o.data=.fields vs∧vs[1]?=some (.str q t):=by
 unfold codeIn at e
 split at e
 ·rename_i c
  split at e
  ·rename_i oc od vs sl he
   split at e
   ·rename_i q' t hv
    cases e
    exact ⟨c,_,vs,t,rfl,X _ _ he,rfl,hv⟩
   ·cases e
  ·cases e
 ·cases e
theorem as_range {us:List Value} {n:Nat} (h:us.length=n):us=(List.range n).map fun i=>us.getD i .none:=
 List.ext_getElem (by simp [h]) fun i h1 h2=>by simp [List.getD,h1]
theorem FunOk.of {C:Cx} {K:Frag} {x:Str} {f:Addr} {ps:List Str} {body:List Stmt} {sc:Scope} (hK:C.K=K) (X:K.In C.H0) (g:C.H0.Ns mainGlobals C.mg) (hn:nsIn K mainGlobals x=some (some (.ref f)):=by kernel_rfl) (hs:(fdIn K f).isSome=true:=by kernel_rfl)
  (hc:codeIn K ((fdIn K f).get hs).code=some ((fdIn K f).get hs).qualname:=by kernel_rfl) (hb:((fdIn K f).get hs).body=.stmts body:=by kernel_rfl) (hsc:((fdIn K f).get hs).scope=sc:=by kernel_rfl) (hg:((fdIn K f).get hs).globals=mainGlobals:=by kernel_rfl) (hbi:((fdIn K f).get hs).builtins=builtinsNs:=by kernel_rfl) (hcl:((fdIn K f).get hs).closure=[]:=by kernel_rfl)
  (hbd:∀ us:Nat→Value,bindArgs ((fdIn K f).get hs) ⟨(List.range ps.length).map us,[]⟩=pure (ps.zip ((List.range ps.length).map us)):=by intro us;kernel_rfl) (kind:sc.kind=.function:=by kernel_rfl) (co:sc.isCoroutine=false:=by kernel_rfl) (gen:sc.isGenerator=false:=by kernel_rfl) (nd:(sc.names.map (·.1)).Nodup:=by decide +kernel) (nofree:(sc.names.all fun x=>x.2 != .free)=true:=by kernel_rfl)
  (loc:(ps.all fun p=>sc.names.lookup p == some .local||sc.names.lookup p == some .cell)=true:=by kernel_rfl) (keep:keepIn K (.ref f)=true:=by kernel_rfl):FunOk C x f ps body sc where
 name:=mg_of X g hn
 fn:=by
  obtain ⟨oc,od,sl,e⟩:=fdIn_get X (Option.some_get hs).symm
  exact ⟨_,oc,od,sl,e,codeIn_rec X hc,hb,hsc,hg,hbi,hcl,fun us h=>by rw [as_range h];exact hbd _⟩
 kind:=kind
 co:=co
 gen:=gen
 nd:=nd
 nofree x hx:=by have:=List.all_eq_true.mp nofree x hx;simpa using this
 loc p hp:=by
  have:=List.all_eq_true.mp loc p hp
  rcases Bool.or_eq_true_iff.mp this with h | h
  ·exact .inl (eq_of_beq h)
  ·exact .inr (eq_of_beq h)
 keep:=by rw [hK];exact keep
section
variable {C:Cx} {P:Params} (hK:C.K=KK P) (X:(KK P).In C.H0) (g:C.H0.Ns mainGlobals C.mg)
include hK X g
theorem f_parts_of:FunOk C "parts_of" 61 ["told"] (bodyAt 7) (scopeAt 7):=.of hK X g
theorem f_rebuilt:FunOk C "rebuilt" 68 ["told","parts"] (bodyAt 8) (scopeAt 8):=.of hK X g
theorem f_substituted:FunOk C "substituted" 73 ["told","table"] (bodyAt 9) (scopeAt 9):=.of hK X g
theorem f_with_regions:FunOk C "with_regions" 78 ["told","change"] (bodyAt 10) (scopeAt 10):=.of hK X g
theorem f_no_region:FunOk C "no_region" 85 ["region"] (bodyAt 11) (scopeAt 11):=.of hK X g
theorem f_erased:FunOk C "erased" 92 ["told"] (bodyAt 12) (scopeAt 12):=.of hK X g
theorem f_region_text:FunOk C "region_text" 99 ["region"] (bodyAt 13) (scopeAt 13):=.of hK X g
theorem f_type_text:FunOk C "type_text" 104 ["told"] (bodyAt 14) (scopeAt 14):=.of hK X g
theorem f_matched:FunOk C "matched" 111 ["pattern","told","table"] (bodyAt 15) (scopeAt 15):=.of hK X g
theorem f_impl_bounds:FunOk C "impl_bounds" 118 ["row","table","world","bounds"] (bodyAt 16) (scopeAt 16):=.of hK X g
theorem f_is_copy:FunOk C "is_copy" 123 ["told","world","bounds"] (bodyAt 17) (scopeAt 17):=.of hK X g
theorem f_field_rows:FunOk C "field_rows" 130 ["told","variant","world"] (bodyAt 18) (scopeAt 18):=.of hK X g
theorem f_fields_of:FunOk C "fields_of" 135 ["told","variant","world"] (bodyAt 19) (scopeAt 19):=.of hK X g
theorem f_has_drop:FunOk C "has_drop" 142 ["told","world"] (bodyAt 20) (scopeAt 20):=.of hK X g
theorem f_held_types:FunOk C "held_types" 147 ["told","world"] (bodyAt 22) (scopeAt 22):=.of hK X g
theorem f_look_copy:FunOk C "look_copy" 154 ["row","world"] (bodyAt 23) (scopeAt 23):=.of hK X g
theorem f_check_copies:FunOk C "check_copies" 161 ["world"] (bodyAt 24) (scopeAt 24):=.of hK X g
theorem f_law_pool:FunOk C "_law_pool" 242 ["script","k"] (bodyAt 30) (scopeAt 30):=.of hK X g
theorem f_law_take:FunOk C "_law_take" 249 ["source","top"] (bodyAt 31) (scopeAt 31):=.of hK X g
theorem f_law_one:FunOk C "_law_one" 256 ["source","things"] (bodyAt 32) (scopeAt 32):=.of hK X g
theorem f_law_type:FunOk C "_law_type" 264 ["source","deep","names"] (bodyAt 34) (scopeAt 34):=.of hK X g
theorem f_law_world:FunOk C "_law_world" 269 ["source"] (bodyAt 35) (scopeAt 35):=.of hK X g
theorem f_law_parts:FunOk C "_law_parts" 276 ["T"] (bodyAt 36) (scopeAt 36):=.of hK X g
theorem f_law_named:FunOk C "_law_named" 281 ["T"] (bodyAt 37) (scopeAt 37):=.of hK X g
theorem f_law_shape:FunOk C "_law_shape" 288 ["T"] (bodyAt 38) (scopeAt 38):=.of hK X g
theorem f_law_fits:FunOk C "_law_fits" 293 ["pattern","T","known"] (bodyAt 39) (scopeAt 39):=.of hK X g
theorem f_law_plain:FunOk C "_law_plain" 298 ["T"] (bodyAt 40) (scopeAt 40):=.of hK X g
theorem f_law_put:FunOk C "_law_put" 303 ["T","table"] (bodyAt 41) (scopeAt 41):=.of hK X g
theorem f_law_copied:FunOk C "_law_copied" 308 ["rows","T","bounds"] (bodyAt 42) (scopeAt 42):=.of hK X g
theorem f_law_is_bad:FunOk C "_law_is_bad" 313 ["world","row"] (bodyAt 43) (scopeAt 43):=.of hK X g
theorem f_law_refused:FunOk C "_law_refused" 320 ["call"] (bodyAt 44) (scopeAt 44):=.of hK X g
theorem f_law:FunOk C "law" 325 ["script"] (bodyAt 45) (scopeAt 45):=.of hK X g
end
section
variable {C:Cx} {P:Params} (hK:C.K=KK P) (X:(KK P).In C.H0) (g:C.H0.Ns mainGlobals C.mg)
theorem pr_tuple {G:St} {σ:Sto} (I:Inv C G σ) {a:Addr} {vs:Array Value} {n:Nat} {sl:Array (Option Value)} {xs:List PyData} {d:Option Addr} (e:C.H0.get? a=some { cls:=.type "tuple",dict:=d,data:=.seq vs n,slots:=sl }) (h:PRs G.h G.F vs.toList xs):PR G.h G.F (.ref a) (.tuple xs):=
 .tuple (I.base a _ e).1 (I.base a _ e).2 rfl rfl h
theorem defOk_of {K:Frag} {f:Addr} {ps:List Str} {dv:List Value} {ds:List AV} {body:List Stmt} {sc:Scope} (X:K.In C.H0) (hs:(fdIn K f).isSome=true)
  (hc:codeIn K ((fdIn K f).get hs).code=some ((fdIn K f).get hs).qualname) (hb:((fdIn K f).get hs).body=.stmts body) (hsc:((fdIn K f).get hs).scope=sc) (hg:((fdIn K f).get hs).globals=mainGlobals) (hbi:((fdIn K f).get hs).builtins=builtinsNs) (hcl:((fdIn K f).get hs).closure=[])
  (hbd:∀ (us:Nat→Value) (s:Shared),(∀ b o,C.H0.get? b=some o→s.heap.get? b=some o)→BindsTo s ((fdIn K f).get hs) ⟨(List.range (ps.length - dv.length)).map us,[]⟩ (ps.zip ((List.range (ps.length - dv.length)).map us++dv))) (dvr:∀ G σ,Inv C G σ→VRs C G dv ds) (kind:sc.kind=.function) (co:sc.isCoroutine=false) (gen:sc.isGenerator=false) (nd:(sc.names.map (·.1)).Nodup) (nofree:(sc.names.all fun x=>x.2 != .free)=true)
  (loc:(ps.all fun p=>sc.names.lookup p == some .local||sc.names.lookup p == some .cell)=true):DefOk C f ps dv ds body sc where
 fn:=by
  refine Zeee (fdIn_get X (Option.some_get hs).symm) fun oc od sl e=>?_
  exact ⟨_,oc,od,sl,e,codeIn_rec X hc,hb,hsc,hg,hbi,hcl,fun us s h hk=>by rw [as_range (Nat.eq_sub_of_add_eq h)];exact hbd _ s hk⟩
 dvr:=dvr
 kind:=kind
 co:=co
 gen:=gen
 nd:=nd
 nofree x hx:=by have:=List.all_eq_true.mp nofree x hx;simpa using this
 loc p hp:=by
  have:=List.all_eq_true.mp loc p hp
  rcases Bool.or_eq_true_iff.mp this with h | h
  ·exact .inl (eq_of_beq h)
  ·exact .inr (eq_of_beq h)
include hK X g
theorem g_a_world:∀ nm∈[("adts":Str),"impls"],ClsOk C 231 nm:=by
 intro nm h
 simp only [List.mem_cons,List.not_mem_nil,or_false] at h
 rcases h with rfl | rfl<;>exact ⟨by rw [hK];kernel_rfl,by rw [hK];kernel_rfl,none,by rw [hK];kernel_rfl,by rw [hK];kernel_rfl⟩
theorem g_a_row:∀ nm∈[("params":Str),"trait","self_type"],ClsOk C 202 nm:=by
 intro nm h
 simp only [List.mem_cons,List.not_mem_nil,or_false] at h
 rcases h with rfl | rfl | rfl<;>exact ⟨by rw [hK];kernel_rfl,by rw [hK];kernel_rfl,none,by rw [hK];kernel_rfl,by rw [hK];kernel_rfl⟩
theorem g_a_adt:∀ nm∈[("regions":Str),"params","variants"],ClsOk C 180 nm:=by
 intro nm h
 simp only [List.mem_cons,List.not_mem_nil,or_false] at h
 rcases h with rfl | rfl | rfl<;>exact ⟨by rw [hK];kernel_rfl,by rw [hK];kernel_rfl,none,by rw [hK];kernel_rfl,by rw [hK];kernel_rfl⟩
theorem g_lnum:∃ u,C.mg "_law_num"=some u∧∀ G σ,Inv C G σ→VR C G u (.p (.tuple [.str "int",.str "u8"])):=
 ⟨.ref 257,mg_of X g (by kernel_rfl),fun G σ I=>.p (pr_tuple I (X 257 _ (by rfl)) (.cons (.str ..) (.cons (.str ..) .nil))) (by decide +kernel)⟩
theorem g_tf:ExcCls C "TraitFault" 52 36 where
 name:=mg_of X g (by kernel_rfl)
 obj:=⟨_,_,_,_,[.ref 39,.type "Exception",.type "BaseException",.type "object"],_,_,_,_,_,_,_,_,_,_,_,X 52 _ (by rfl),⟨by rfl,by rfl,by rfl,by rfl⟩⟩
 init:=by rw [hK];kernel_rfl
 fn:=by rw [hK];kernel_rfl
 keep:=by rw [hK];kernel_rfl
 base:=by rw [hK];kernel_rfl
 typ:=by rw [hK];kernel_rfl
theorem g_tf_set:∀ nm∈[("message":Str),"spot"],ExcSet C 52 nm:=by
 intro nm h
 simp only [List.mem_cons,List.not_mem_nil,or_false] at h
 rcases h with rfl | rfl<;>exact ⟨by rw [hK];kernel_rfl,⟨_,39,by rw [hK];rfl,by rfl,by rfl⟩,by rw [hK];kernel_rfl,by rw [hK];kernel_rfl⟩
theorem g_mk (x:Str) (c f:Addr) (h:(x="Adt"∧c=180∧f=177)∨(x="ImplRow"∧c=202∧f=199)∨(x="World"∧c=231∧f=221)):ClsMk C x c f:=by
 rcases h with ⟨rfl,rfl,rfl⟩ | ⟨rfl,rfl,rfl⟩ | ⟨rfl,rfl,rfl⟩<;>exact ⟨mg_of X g (by kernel_rfl),by rw [hK];kernel_rfl,by rw [hK];kernel_rfl,by rw [hK];kernel_rfl,by rw [hK];kernel_rfl⟩
theorem g_s_adt:∀ nm∈[("path":Str),"module","regions","params","variants","publics","is_enum"],ClsSet C 180 nm:=by
 intro nm h
 simp only [List.mem_cons,List.not_mem_nil,or_false] at h
 rcases h with rfl | rfl | rfl | rfl | rfl | rfl | rfl<;>exact ⟨by rw [hK];kernel_rfl,by rw [hK];kernel_rfl,by rw [hK];kernel_rfl,by rw [hK];kernel_rfl⟩
theorem g_s_row:∀ nm∈[("number":Str),"regions","params","trait","trait_args","self_type","methods","spot"],ClsSet C 202 nm:=by
 intro nm h
 simp only [List.mem_cons,List.not_mem_nil,or_false] at h
 rcases h with rfl | rfl | rfl | rfl | rfl | rfl | rfl | rfl<;>exact ⟨by rw [hK];kernel_rfl,by rw [hK];kernel_rfl,by rw [hK];kernel_rfl,by rw [hK];kernel_rfl⟩
theorem g_s_world:∀ nm∈[("modules":Str),"adts","variants","sigs","traits","impls","consts","bodies"],ClsSet C 231 nm:=by
 intro nm h
 simp only [List.mem_cons,List.not_mem_nil,or_false] at h
 rcases h with rfl | rfl | rfl | rfl | rfl | rfl | rfl | rfl<;>exact ⟨by rw [hK];kernel_rfl,by rw [hK];kernel_rfl,by rw [hK];kernel_rfl,by rw [hK];kernel_rfl⟩
end
noncomputable def bindK (fd:FuncData) (us:List Value):{ k:Option (Array Value)→Sem (List (Str × Value)) // bindArgs fd ⟨us,[]⟩=seqItems? fd.defaults >>= k }:=⟨_,rfl⟩
theorem binds_of {fd:FuncData} {us:List Value} {s:Shared} {T:Addr} {d:Option Addr} {items:Array Value} {n:Nat} {sl:Array (Option Value)} {binds:List (Str × Value)} (hd:fd.defaults=.ref T) (ho:s.heap.get? T=some { cls:=.type "tuple",dict:=d,data:=.seq items n,slots:=sl }) (h:(bindK fd us).1 (some items)=pure binds):BindsTo s fd ⟨us,[]⟩ binds:=
 BindsTo.of_defaults hd ho rfl (bindK fd us).2 h
section
variable {C:Cx} {P:Params} (hK:C.K=KK P) (X:(KK P).In C.H0) (g:C.H0.Ns mainGlobals C.mg)
include hK X g
theorem g_initE:DefOk C 36 ["self","message","spot"] [.int 0 208] [.p (.int 0)] (fnBody (clsAt 2 0)) (fnScope (clsAt 2 0)):=by
 refine defOk_of X (by kernel_rfl) (by kernel_rfl) (by kernel_rfl) (by kernel_rfl) (by kernel_rfl) (by kernel_rfl) (by kernel_rfl) (fun us s hk=>binds_of (T:=29) (by kernel_rfl) (hk 29 _ (X 29 _ (by rfl))) (by kernel_rfl)) (fun G σ I=>.cons (.p (.int 0 208) rfl) .nil) (by kernel_rfl) (by kernel_rfl) (by kernel_rfl) (by decide +kernel) (by kernel_rfl) (by kernel_rfl)
theorem g_initA:DefOk C 177 ["self","path","regions","params","variants","is_enum","module","publics"] [.str "" 402,.ref 169] [.p (.str ""),.p (.tuple [])] (fnBody (clsAt 26 0)) (fnScope (clsAt 26 0)):=by
 refine defOk_of X (by kernel_rfl) (by kernel_rfl) (by kernel_rfl) (by kernel_rfl) (by kernel_rfl) (by kernel_rfl) (by kernel_rfl) (fun us s hk=>binds_of (T:=170) (by kernel_rfl) (hk 170 _ (X 170 _ (by rfl))) (by kernel_rfl)) (fun G σ I=>.cons (.p (.str "" 402) (by decide +kernel)) (.cons (.p (pr_tuple I (X 169 _ (by rfl)) .nil) rfl) .nil)) (by kernel_rfl) (by kernel_rfl) (by kernel_rfl) (by decide +kernel) (by kernel_rfl) (by kernel_rfl)
theorem g_initR:DefOk C 199 ["self","number","regions","params","trait","trait_args","self_type","methods","spot"] [.int 0 444] [.p (.int 0)] (fnBody (clsAt 27 0)) (fnScope (clsAt 27 0)):=by
 refine defOk_of X (by kernel_rfl) (by kernel_rfl) (by kernel_rfl) (by kernel_rfl) (by kernel_rfl) (by kernel_rfl) (by kernel_rfl) (fun us s hk=>binds_of (T:=192) (by kernel_rfl) (hk 192 _ (X 192 _ (by rfl))) (by kernel_rfl)) (fun G σ I=>.cons (.p (.int 0 444) rfl) .nil) (by kernel_rfl) (by kernel_rfl) (by kernel_rfl) (by decide +kernel) (by kernel_rfl) (by kernel_rfl)
theorem g_initW:DefOk C 221 ["self","modules"] [.none] [.p .none] (fnBody (clsAt 28 0)) (fnScope (clsAt 28 0)):=by
 refine defOk_of X (by kernel_rfl) (by kernel_rfl) (by kernel_rfl) (by kernel_rfl) (by kernel_rfl) (by kernel_rfl) (by kernel_rfl) (fun us s hk=>binds_of (T:=214) (by kernel_rfl) (hk 214 _ (X 214 _ (by rfl))) (by kernel_rfl)) (fun G σ I=>.cons (.p .none rfl) .nil) (by kernel_rfl) (by kernel_rfl) (by kernel_rfl) (by decide +kernel) (by kernel_rfl) (by kernel_rfl)
theorem g_code (f c:Addr) (q:Str) (hs:(fdIn (KK P) f).isSome=true) (h1:((fdIn (KK P) f).get hs).code=.ref c) (h2:((fdIn (KK P) f).get hs).qualname++".<locals>."=q):∀ fd oc od sl,C.H0.get? f=some ⟨oc,od,.func fd,sl⟩→fd.code=.ref c∧fd.qualname++".<locals>."=q:=by
 intro fd oc od sl e
 refine Zeee (fdIn_get X (Option.some_get hs).symm) fun oc' od' sl' e'=>?_
 rw [e] at e'
 injection e' with e'
 injection e' with _ _ e' _
 injection e' with e'
 rw [e']
 exact ⟨h1,h2⟩
theorem g_none:∀ x∈[("len":Str),"tuple","list","int","str","max","min","isinstance","zip","dict","range","enumerate","Exception"],C.mg x=none:=by
 intro x h
 simp only [List.mem_cons,List.not_mem_nil,or_false] at h
 rcases h with rfl | rfl | rfl | rfl | rfl | rfl | rfl | rfl | rfl | rfl | rfl | rfl | rfl<;>exact mg_none_of X g (by kernel_rfl)
theorem g_copy:C.mg "COPY"=some (.str "Copy" 246)∧C.mg "DROP"=some (.str "Drop" 248):=⟨mg_of X g (by kernel_rfl),mg_of X g (by kernel_rfl)⟩
theorem g_excinit:findCls C.K (.type "Exception") (.type "type") "__init__"=some (.val (.builtin "Exception.__init__")):=by rw [hK];kernel_rfl
end
noncomputable def tabs2:List (Addr × Addr):=[(134,132),(324,322)]
noncomputable def tq2 (a:Addr):Str:=if a=132 then "fields_of.<locals>.put_in" else "law.<locals>.<lambda>"
noncomputable def CC (w:World) (H0:Heap) (mg mb:Str→Option Value):Cx:={ prog:=PySem.Challenge.rw_ot0022_01.row.prog,w:=w,H0:=H0,tabs:=tabs2,tq:=tq2,K:=KK w.params,mg:=mg,mb:=mb }
noncomputable def NN:Fns where
 parts_of:=61
 rebuilt:=68
 substituted:=73
 with_regions:=78
 no_region:=85
 erased:=92
 region_text:=99
 type_text:=104
 matched:=111
 impl_bounds:=118
 is_copy:=123
 field_rows:=130
 fields_of:=135
 has_drop:=142
 held_types:=147
 look_copy:=154
 check_copies:=161
 law_pool:=242
 law_take:=249
 law_one:=256
 law_type:=264
 law_world:=269
 law_parts:=276
 law_named:=281
 law_shape:=288
 law_fits:=293
 law_plain:=298
 law_put:=303
 law_copied:=308
 law_is_bad:=313
 law_refused:=320
 Adt:=180
 ImplRow:=202
 World:=231
 TraitFault:=52
 initE:=36
 initA:=177
 initR:=199
 initW:=221
 law:=325
section
variable {w:World} {h₁:Heap} {mg mb:Str→Option Value} {p:Program} {loose:List Str} {mean:ExcName→Option Value}
theorem cc_ok (hT:TabsAt tabs2 h₁) (T:Top p loose mean mg mb h₁) (KX:(KK w.params).In h₁):(CC w (ghostOf h₁ tabs2) mg mb).Ok where
 g:=(ghost_top hT T).g
 b:=(ghost_top hT T).b
 nolimit:=(ghost_top hT T).nolimit
 bi:=(ghost_top hT T).builtins
 X:=ghost_K hT KX (by kernel_rfl)
 bat:=(ghost_top hT T).bmain
 code q hq:=by
  refine Zaa (ghost_code hT) fun c1 c2 _=>?_
  have hq:q∈tabs2:=hq
  simp only [tabs2,List.mem_cons,List.not_mem_nil,or_false] at hq
  rcases hq with rfl | rfl
  ·exact c1
  ·exact c2
 tab q hq:=hideAll_none _ (List.mem_map_of_mem hq)
theorem pg {H0:Heap} (ok:(CC w H0 mg mb).Ok):Pg (CC w H0 mg mb) NN:=by
 have hK:(CC w H0 mg mb).K=KK w.params:=rfl
 have X:(KK w.params).In (CC w H0 mg mb).H0:=ok.X
 have g:(CC w H0 mg mb).H0.Ns mainGlobals (CC w H0 mg mb).mg:=ok.g
 have gn:=g_none hK X g
 exact {
  ok:=ok
  parts_of:=f_parts_of hK X g
  rebuilt:=f_rebuilt hK X g
  substituted:=f_substituted hK X g
  with_regions:=f_with_regions hK X g
  no_region:=f_no_region hK X g
  erased:=f_erased hK X g
  region_text:=f_region_text hK X g
  type_text:=f_type_text hK X g
  matched:=f_matched hK X g
  impl_bounds:=f_impl_bounds hK X g
  is_copy:=f_is_copy hK X g
  field_rows:=f_field_rows hK X g
  fields_of:=f_fields_of hK X g
  has_drop:=f_has_drop hK X g
  held_types:=f_held_types hK X g
  look_copy:=f_look_copy hK X g
  check_copies:=f_check_copies hK X g
  law_pool:=f_law_pool hK X g
  law_take:=f_law_take hK X g
  law_one:=f_law_one hK X g
  law_type:=f_law_type hK X g
  law_world:=f_law_world hK X g
  law_parts:=f_law_parts hK X g
  law_named:=f_law_named hK X g
  law_shape:=f_law_shape hK X g
  law_fits:=f_law_fits hK X g
  law_plain:=f_law_plain hK X g
  law_put:=f_law_put hK X g
  law_copied:=f_law_copied hK X g
  law_is_bad:=f_law_is_bad hK X g
  law_refused:=f_law_refused hK X g
  b_len:=gn _ (by decide +kernel)
  b_tuple:=gn _ (by decide +kernel)
  b_list:=gn _ (by decide +kernel)
  b_int:=gn _ (by decide +kernel)
  b_str:=gn _ (by decide +kernel)
  b_max:=gn _ (by decide +kernel)
  b_min:=gn _ (by decide +kernel)
  b_isinstance:=gn _ (by decide +kernel)
  b_zip:=gn _ (by decide +kernel)
  b_dict:=gn _ (by decide +kernel)
  b_range:=gn _ (by decide +kernel)
  b_enumerate:=gn _ (by decide +kernel)
  a_world:=g_a_world hK X g
  a_row:=g_a_row hK X g
  a_adt:=g_a_adt hK X g
  lnum:=g_lnum hK X g
  tf:=g_tf hK X g
  tf_set:=g_tf_set hK X g
  b_exc:=gn _ (by decide +kernel)
  b_init:=g_excinit hK X g
  initE:=⟨_,rfl,g_initE hK X g⟩
  c_adt:=g_mk hK X g _ _ _ (.inl ⟨rfl,rfl,rfl⟩)
  c_row:=g_mk hK X g _ _ _ (.inr (.inl ⟨rfl,rfl,rfl⟩))
  c_world:=g_mk hK X g _ _ _ (.inr (.inr ⟨rfl,rfl,rfl⟩))
  s_adt:=g_s_adt hK X g
  s_row:=g_s_row hK X g
  s_world:=g_s_world hK X g
  initA:=⟨_,rfl,g_initA hK X g⟩
  initR:=⟨_,rfl,g_initR hK X g⟩
  initW:=⟨_,rfl,g_initW hK X g⟩
  tabF:=⟨(134,132),by (show ((134,132):Addr × Addr)∈tabs2;decide),g_code hK X g 135 134 _ (by kernel_rfl) (by kernel_rfl) (by kernel_rfl),by (show tq2 132=_;decide +kernel)⟩
  tabL:=⟨(324,322),by (show ((324,322):Addr × Addr)∈tabs2;decide),g_code hK X g 325 324 _ (by kernel_rfl) (by kernel_rfl) (by kernel_rfl),by (show tq2 322=_;decide +kernel)⟩
  copy:=⟨_,(g_copy hK X g).1⟩
  drop:=⟨_,(g_copy hK X g).2⟩ }
end
theorem FunOk.codeI {C:Cx} {D:Nat} {f:Addr} {x:Str} {sc:Scope} {σ:Sto} {o:Out} (ok:C.Ok) {ps:List Str} {body:List Stmt} {vs:List AV} {p:Addr × Addr} {q:Str} (F:FunOk C x f ps body sc) (hl:vs.length=ps.length) (hne:sc.names.lookup ("<env>":Str)=none)
  (hcd:∀ fd oc od sl,C.H0.get? f=some ⟨oc,od,.func fd,sl⟩→fd.code=.ref p.1∧fd.qualname++".<locals>."=q)
  (hS:ExS C D sc ((ps.zip vs).reverse++[(("<env>":Str),AV.ins p.1 [(q,.val .none)])]) σ body o) {A:Around} {G:St} {us:List Value} (hA:AOk A (D+1)) (I:Inv C G σ) (SK:StackOk A G) (VS:VRs C G us vs) {Q:Value→Shared→Prop} {E:Value→Shared→Prop} (hP:PostC C G o Q E):codeAny (model C.prog C.w) A (.call (.ref f) ⟨us,[]⟩) (resOf Q E) G.s:=by
 refine Zeeeeaaaaaaa F.fn fun fd oc od sl h1 h2 h3 h4 h5 h6 h7 h8=>?_
 refine Za (hcd fd oc od sl h1) fun c1 c2=>?_
 refine fn_code (mC:=[(("<env>":Str),AV.ins p.1 [(q,.val .none)])]) ok ⟨⟨_,I.keeps0 _ _ h1,rfl⟩,codeRec_keeps I.keeps0 h2,h3,h4,h5,h6,F.kind,F.co,F.gen,F.nd⟩ hA I SK (fun Q' E' hQ'=>by rw [h8 us (by rw [VS.length,hl])];exact wpAny_pure hQ') (binds_zip VS) (fun p hp=>F.loc p.1 ?_) ⟨fun y hy=>absurd (mem_of_lookup hy) fun q=>F.nofree _ q rfl,fun y c hy=>by rw [h7] at hy;cases hy⟩ (fun y w h=>?_) (fun env e1 e2 hn cc qq h=>?_) hS hP
 ·exact (List.of_mem_zip (a:=p.1) (b:=p.2) hp).1
 ·rw [List.lookup_cons] at h
  split at h
  ·rename_i hb
   have:y=("<env>":Str):=by simpa using hb
   subst this
   exact .inr hne
  ·cases h
 ·cases h
  exact ⟨e1.trans c1,e2.trans c2⟩
noncomputable def G0 (s₁:Shared):St:=⟨s₁,fun a=>∃ o,(ghostOf s₁.heap tabs2).get? a=some o,[],[]⟩
section
variable {w:World} {s₁:Shared} {mg mb:Str→Option Value}
theorem inv0 (hT:TabsAt tabs2 s₁.heap):Inv (CC w (ghostOf s₁.heap tabs2) mg mb) (G0 s₁) [] where
 base a o e:=⟨⟨o,e⟩,of_hideAll _ e⟩
 fz a h:=by
  refine Ze h fun o e=>?_
  refine ⟨⟨o,of_hideAll _ e⟩,(fun q=>nomatch q),fun q=>?_,(fun q=>nomatch q)⟩
  have:(ghostOf s₁.heap tabs2).get? a=none:=hideAll_none _ q
  rw [this] at e;cases e
 len:=rfl
 trk i a o h:=by cases h
 nd:=List.nodup_nil
 rtab a h:=nomatch h
 ftab a h:=nomatch h
 tab q hq:=⟨#[],(hT q hq).2,trivial,fun pos v h=>by cases h⟩
theorem ints_prs {h:Heap} {F:Addr→Prop}:∀ {us:List Value} {ns:List Int},IntsAre us ns→PRs h F us (ns.map .int)
 | _,_,.nil=>.nil
 | _,_,.cons n t r=>.cons (.int n t) (ints_prs r)
theorem ints_can:∀ ns:List Int,PyData.canLayAll0 (ns.map .int)=true
 | []=>rfl
 | n::ns=>by
  show (true&&PyData.canLayAll0 (ns.map .int))=true
  rw [ints_can ns];rfl
theorem well_list {P:Params} {h:Heap} {l:Addr} {xs:List PyData} {vs:List Value} (W:Well P h (.ref l) (ofPy (.list xs))) (L:h.IsList l vs.toArray):h.get? l=some { cls:=.type "list",data:=.seq vs.toArray }:=by
 refine Zeaae L fun o e hc n hd=>?_
 cases W with
 | list e2 _=>
  rw [e2] at e
  injection e with e
  subst e
  injection hd with h1 h2
  rw [← h1];exact e2
theorem arg_vr (hT:TabsAt tabs2 s₁.heap) {l:Addr} {vs:List Value} {ns:List Int} (e:s₁.heap.get? l=some { cls:=.type "list",data:=.seq vs.toArray }) (h:IntsAre vs ns):VRs (CC w (ghostOf s₁.heap tabs2) mg mb) (G0 s₁) [.ref l] [.p (.list (ns.map .int))]:=
 .cons (.p (.list ⟨_,ghost_get hT e (fun q=>by injection q with q1 _;cases q1)⟩ e ⟨rfl,rfl⟩ rfl (ints_prs h)) (ints_can ns)) .nil
theorem law_code0 (hT:TabsAt tabs2 s₁.heap) (ok:(CC w (ghostOf s₁.heap tabs2) mg mb).Ok) {l:Addr} {vs:List Value} {ns:List Int} (hz:ns.length≤63) (e:s₁.heap.get? l=some { cls:=.type "list",data:=.seq vs.toArray }) (h:IntsAre vs ns) {RR:Result→Shared→Prop}
  (hR:∀ s',(∀ b o,(ghostOf s₁.heap tabs2).get? b=some o→s'.heap.get? b=some o)→s'.os=s₁.os→s'.gens=s₁.gens→GrownAll tabs2 s'.heap→RR (.ok (.ret (.bool true))) s'):codeAny (model PySem.Challenge.rw_ot0022_01.row.prog w) callerA (.call (.ref 325) ⟨[.ref l],[]⟩) RR s₁:=by
 have P:=pg ok
 have hK:(CC w (ghostOf s₁.heap tabs2) mg mb).K=KK w.params:=rfl
 have F:FunOk (CC w (ghostOf s₁.heap tabs2) mg mb) "law" 325 ["script"] (bodyAt 45) (scopeAt 45):=f_law hK ok.X ok.g
 refine Zeaa P.tabL fun p hp hcd hq=>?_
 have I:=inv0 (w:=w) (mg:=mg) (mb:=mb) hT
 have SK:StackOk callerA (G0 s₁):=⟨[],rfl,fun en hen=>nomatch hen⟩
 have hA:AOk callerA (200+1):=⟨rfl,by decide,by decide⟩
 have hS:=(law_all P ns hz p hp hq 200 (Nat.le_refl _)).h
 have hc:=F.codeI ok (vs:=[.p (.list (ns.map .int))]) rfl (by rfl) hcd hS hA I SK (arg_vr hT e h) (Q:=fun v s'=>RR (.ok (.ret v)) s') (E:=fun _ _=>False) (fun u G' st I' V=>by
  obtain rfl:=V.bool_shape
  refine hR _ (fun b o eb=>(I'.base b o eb).2) st.os st.gens ?_
  have t1:=I'.tab (134,132) (by show ((134,132):Addr × Addr)∈tabs2;decide)
  have t2:=I'.tab (324,322) (by show ((324,322):Addr × Addr)∈tabs2;decide)
  refine Zea t1 fun ps1 e1 _=>?_
  refine Zea t2 fun ps2 e2 _=>?_
  exact ⟨⟨ps1,e1⟩,⟨ps2,e2⟩,trivial⟩)
 refine codeAny_mono hc fun r s' hr=>?_
 cases r with
 | ok f=>cases f with
  | ret v=>exact hr
  | _=>exact hr.elim
 | error x=>exact hr.elim
end
end Mine
open PySem PySem.W PyProof.Rows
theorem PySem.Challenge.cw_ot0022_01_holds : PySem.Challenge.rw_ot0022_01.Holds := by
  refine Mine.head ?_
  intro w s₀ s₁ mg mb G Y fa o pm cd doc dV kV ho hd hcd hD hmg hg args vals as hpre hlay hrd hwl hlo
  have KX := km_in_of Y
  have hT9 : TabsAt Mine.tabs2 _ := List.forall_mem_cons.mpr ⟨⟨codeHd_of_K (c := 134) (P := 132) KX (by kernel_rfl), km_tabs_of Y 132 (by decide)⟩, List.forall_mem_cons.mpr ⟨⟨codeHd_of_K (c := 324) (P := 322) KX (by kernel_rfl), km_tabs_of Y 322 (by decide)⟩, fun _ h => nomatch h⟩⟩
  refine Ground.open G ?_
  intro T B D TE TW
  have hfa : fa = 325 := by
    have e := mg_of KX T.g (n := "law") (v := .ref 325) (by kernel_rfl)
    have e2 : mg "law" = some (.ref fa) := hmg
    rw [e] at e2
    injection e2 with e2
    injection e2 with e2
    exact e2.symm
  have ok := Mine.cc_ok (w := w) hT9 T KX
  clear hmg hd hcd hD
  wrow_args hpre hlay hrd hwl hlo
  all_goals (
    first | refine callC_kw (enter_call ?_) | refine enter_call ?_
    kn_posts
    rename_i ns hs h0 hL hr1 hl2 a4 a3 l vs a0 hIs hra hW hrd hI hr2 hc1 hc2
    subst hfa
    refine Mine.law_code0 hT9 ok (ns := ns) (by omega) (Mine.well_list hW hIs) hI (fun s' h1 h2 h3 h4 => ⟨⟨.inl ⟨.bool true, .bool true, [], rfl, fun _ => rfl, .bool true, ?_, fun _ => ⟨List.nodup_nil, fun a h => nomatch h⟩⟩, h1, h2, h3.trans hg⟩, h4⟩)
    exact postW_of (by wrow_shape) (by wtm_val) (by first | rfl | (str_meet; first | done | w_fin)))
