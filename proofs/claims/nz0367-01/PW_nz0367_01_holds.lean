import PyProof.Rows.All
import Wide.All
import OpenK.AllK
import Wide.FinOn
import KE.KDictSum
import KE.KDictOf
import KE.BytesMake
import Lean
import PySem.Challenge.RW_nz0367_01
open PySem PySem.W PySem.Calls PyProof.Rows
set_option Elab.async false
set_option linter.unusedVariables false
set_option linter.unusedSimpArgs false
set_option maxRecDepth 100000
set_option maxHeartbeats 4000000
set_option compiler.extract_closed false
set_option tactic.hygienic false
set_option genInjectivity false
set_option genSizeOf false
namespace RK
theorem c0_2{P0 P1:Prop}{G:Prop}(h:P0∧P1)(k:P0→P1→G):G:=k h.1 h.2
theorem c0_3{P0 P1 P2:Prop}{G:Prop}(h:P0∧P1∧P2)(k:P0→P1→P2→G):G:=c0_2 h fun a b=>c0_2 b (k a)
theorem c0_4{P0 P1 P2 P3:Prop}{G:Prop}(h:P0∧P1∧P2∧P3)(k:P0→P1→P2→P3→G):G:=c0_2 h fun a b=>c0_3 b (k a)
theorem c0_5{P0 P1 P2 P3 P4:Prop}{G:Prop}(h:P0∧P1∧P2∧P3∧P4)(k:P0→P1→P2→P3→P4→G):G:=c0_2 h fun a b=>c0_4 b (k a)
theorem c0_6{P0 P1 P2 P3 P4 P5:Prop}{G:Prop}(h:P0∧P1∧P2∧P3∧P4∧P5)(k:P0→P1→P2→P3→P4→P5→G):G:=c0_2 h fun a b=>c0_5 b (k a)
theorem c0_7{P0 P1 P2 P3 P4 P5 P6:Prop}{G:Prop}(h:P0∧P1∧P2∧P3∧P4∧P5∧P6)(k:P0→P1→P2→P3→P4→P5→P6→G):G:=c0_2 h fun a b=>c0_6 b (k a)
theorem c0_8{P0 P1 P2 P3 P4 P5 P6 P7:Prop}{G:Prop}(h:P0∧P1∧P2∧P3∧P4∧P5∧P6∧P7)(k:P0→P1→P2→P3→P4→P5→P6→P7→G):G:=c0_2 h fun a b=>c0_7 b (k a)
theorem c1_1.{u} {α:Sort u} {P0:α→Prop} {G:Prop} (h:∃ x0,P0 x0) (k:∀ x0,P0 x0→G):G:=h.elim k
theorem c1_2.{u} {α:Sort u} {P0 P1:α→Prop} {G:Prop} (h:∃ x0,P0 x0∧P1 x0) (k:∀ x0,P0 x0→P1 x0→G):G:=h.elim fun x h=>c0_2 h (k x)
theorem c1_3.{u} {α:Sort u} {P0 P1 P2:α→Prop} {G:Prop} (h:∃ x0,P0 x0∧P1 x0∧P2 x0) (k:∀ x0,P0 x0→P1 x0→P2 x0→G):G:=h.elim fun x h=>c0_3 h (k x)
theorem c1_4.{u} {α:Sort u} {P0 P1 P2 P3:α→Prop} {G:Prop} (h:∃ x0,P0 x0∧P1 x0∧P2 x0∧P3 x0) (k:∀ x0,P0 x0→P1 x0→P2 x0→P3 x0→G):G:=h.elim fun x h=>c0_4 h (k x)
theorem c1_5.{u} {α:Sort u} {P0 P1 P2 P3 P4:α→Prop} {G:Prop} (h:∃ x0,P0 x0∧P1 x0∧P2 x0∧P3 x0∧P4 x0) (k:∀ x0,P0 x0→P1 x0→P2 x0→P3 x0→P4 x0→G):G:=h.elim fun x h=>c0_5 h (k x)
theorem c1_6.{u} {α:Sort u} {P0 P1 P2 P3 P4 P5:α→Prop} {G:Prop} (h:∃ x0,P0 x0∧P1 x0∧P2 x0∧P3 x0∧P4 x0∧P5 x0) (k:∀ x0,P0 x0→P1 x0→P2 x0→P3 x0→P4 x0→P5 x0→G):G:=h.elim fun x h=>c0_6 h (k x)
theorem c2_1.{u,v} {α:Sort u} {β:Sort v} {P0:α→β→Prop} {G:Prop} (h:∃ x0 x1,P0 x0 x1) (k:∀ x0 x1,P0 x0 x1→G):G:=h.elim fun x h=>c1_1 h (k x)
theorem c2_2.{u,v} {α:Sort u} {β:Sort v} {P0 P1:α→β→Prop} {G:Prop} (h:∃ x0 x1,P0 x0 x1∧P1 x0 x1) (k:∀ x0 x1,P0 x0 x1→P1 x0 x1→G):G:=h.elim fun x h=>c1_2 h (k x)
theorem c2_3.{u,v} {α:Sort u} {β:Sort v} {P0 P1 P2:α→β→Prop} {G:Prop} (h:∃ x0 x1,P0 x0 x1∧P1 x0 x1∧P2 x0 x1) (k:∀ x0 x1,P0 x0 x1→P1 x0 x1→P2 x0 x1→G):G:=h.elim fun x h=>c1_3 h (k x)
theorem c2_4.{u,v} {α:Sort u} {β:Sort v} {P0 P1 P2 P3:α→β→Prop} {G:Prop} (h:∃ x0 x1,P0 x0 x1∧P1 x0 x1∧P2 x0 x1∧P3 x0 x1) (k:∀ x0 x1,P0 x0 x1→P1 x0 x1→P2 x0 x1→P3 x0 x1→G):G:=h.elim fun x h=>c1_4 h (k x)
theorem c2_5.{u,v} {α:Sort u} {β:Sort v} {P0 P1 P2 P3 P4:α→β→Prop} {G:Prop} (h:∃ x0 x1,P0 x0 x1∧P1 x0 x1∧P2 x0 x1∧P3 x0 x1∧P4 x0 x1) (k:∀ x0 x1,P0 x0 x1→P1 x0 x1→P2 x0 x1→P3 x0 x1→P4 x0 x1→G):G:=h.elim fun x h=>c1_5 h (k x)
theorem c2_6.{u,v} {α:Sort u} {β:Sort v} {P0 P1 P2 P3 P4 P5:α→β→Prop} {G:Prop} (h:∃ x0 x1,P0 x0 x1∧P1 x0 x1∧P2 x0 x1∧P3 x0 x1∧P4 x0 x1∧P5 x0 x1) (k:∀ x0 x1,P0 x0 x1→P1 x0 x1→P2 x0 x1→P3 x0 x1→P4 x0 x1→P5 x0 x1→G):G:=h.elim fun x h=>c1_6 h (k x)
theorem c3_1.{u,v,w} {α:Sort u} {β:Sort v} {γ:Sort w} {P0:α→β→γ→Prop} {G:Prop} (h:∃ x0 x1 x2,P0 x0 x1 x2) (k:∀ x0 x1 x2,P0 x0 x1 x2→G):G:=h.elim fun x h=>c2_1 h (k x)
theorem c3_2.{u,v,w} {α:Sort u} {β:Sort v} {γ:Sort w} {P0 P1:α→β→γ→Prop} {G:Prop} (h:∃ x0 x1 x2,P0 x0 x1 x2∧P1 x0 x1 x2) (k:∀ x0 x1 x2,P0 x0 x1 x2→P1 x0 x1 x2→G):G:=h.elim fun x h=>c2_2 h (k x)
theorem c3_3.{u,v,w} {α:Sort u} {β:Sort v} {γ:Sort w} {P0 P1 P2:α→β→γ→Prop} {G:Prop} (h:∃ x0 x1 x2,P0 x0 x1 x2∧P1 x0 x1 x2∧P2 x0 x1 x2) (k:∀ x0 x1 x2,P0 x0 x1 x2→P1 x0 x1 x2→P2 x0 x1 x2→G):G:=h.elim fun x h=>c2_3 h (k x)
theorem c3_4.{u,v,w} {α:Sort u} {β:Sort v} {γ:Sort w} {P0 P1 P2 P3:α→β→γ→Prop} {G:Prop} (h:∃ x0 x1 x2,P0 x0 x1 x2∧P1 x0 x1 x2∧P2 x0 x1 x2∧P3 x0 x1 x2) (k:∀ x0 x1 x2,P0 x0 x1 x2→P1 x0 x1 x2→P2 x0 x1 x2→P3 x0 x1 x2→G):G:=h.elim fun x h=>c2_4 h (k x)
theorem c3_5.{u,v,w} {α:Sort u} {β:Sort v} {γ:Sort w} {P0 P1 P2 P3 P4:α→β→γ→Prop} {G:Prop} (h:∃ x0 x1 x2,P0 x0 x1 x2∧P1 x0 x1 x2∧P2 x0 x1 x2∧P3 x0 x1 x2∧P4 x0 x1 x2) (k:∀ x0 x1 x2,P0 x0 x1 x2→P1 x0 x1 x2→P2 x0 x1 x2→P3 x0 x1 x2→P4 x0 x1 x2→G):G:=h.elim fun x h=>c2_5 h (k x)
theorem c3_6.{u,v,w} {α:Sort u} {β:Sort v} {γ:Sort w} {P0 P1 P2 P3 P4 P5:α→β→γ→Prop} {G:Prop} (h:∃ x0 x1 x2,P0 x0 x1 x2∧P1 x0 x1 x2∧P2 x0 x1 x2∧P3 x0 x1 x2∧P4 x0 x1 x2∧P5 x0 x1 x2) (k:∀ x0 x1 x2,P0 x0 x1 x2→P1 x0 x1 x2→P2 x0 x1 x2→P3 x0 x1 x2→P4 x0 x1 x2→P5 x0 x1 x2→G):G:=h.elim fun x h=>c2_6 h (k x)
theorem c4_1.{u,v,w,z} {α:Sort u} {β:Sort v} {γ:Sort w} {δ:Sort z} {P0:α→β→γ→δ→Prop} {G:Prop} (h:∃ x0 x1 x2 x3,P0 x0 x1 x2 x3) (k:∀ x0 x1 x2 x3,P0 x0 x1 x2 x3→G):G:=h.elim fun x h=>c3_1 h (k x)
theorem c4_3.{u,v,w,z} {α:Sort u} {β:Sort v} {γ:Sort w} {δ:Sort z} {P0 P1 P2:α→β→γ→δ→Prop} {G:Prop} (h:∃ x0 x1 x2 x3,P0 x0 x1 x2 x3∧P1 x0 x1 x2 x3∧P2 x0 x1 x2 x3) (k:∀ x0 x1 x2 x3,P0 x0 x1 x2 x3→P1 x0 x1 x2 x3→P2 x0 x1 x2 x3→G):G:=h.elim fun x h=>c3_3 h (k x)
theorem c4_4.{u,v,w,z} {α:Sort u} {β:Sort v} {γ:Sort w} {δ:Sort z} {P0 P1 P2 P3:α→β→γ→δ→Prop} {G:Prop} (h:∃ x0 x1 x2 x3,P0 x0 x1 x2 x3∧P1 x0 x1 x2 x3∧P2 x0 x1 x2 x3∧P3 x0 x1 x2 x3) (k:∀ x0 x1 x2 x3,P0 x0 x1 x2 x3→P1 x0 x1 x2 x3→P2 x0 x1 x2 x3→P3 x0 x1 x2 x3→G):G:=h.elim fun x h=>c3_4 h (k x)
theorem c4_5.{u,v,w,z} {α:Sort u} {β:Sort v} {γ:Sort w} {δ:Sort z} {P0 P1 P2 P3 P4:α→β→γ→δ→Prop} {G:Prop} (h:∃ x0 x1 x2 x3,P0 x0 x1 x2 x3∧P1 x0 x1 x2 x3∧P2 x0 x1 x2 x3∧P3 x0 x1 x2 x3∧P4 x0 x1 x2 x3) (k:∀ x0 x1 x2 x3,P0 x0 x1 x2 x3→P1 x0 x1 x2 x3→P2 x0 x1 x2 x3→P3 x0 x1 x2 x3→P4 x0 x1 x2 x3→G):G:=h.elim fun x h=>c3_5 h (k x)
theorem f0_2{P0 P1:Prop}{G:Prop}(k:P0→P1→G)(h:P0∧P1):G:=c0_2 h k
theorem f0_3{P0 P1 P2:Prop}{G:Prop}(k:P0→P1→P2→G)(h:P0∧P1∧P2):G:=c0_3 h k
theorem f0_4{P0 P1 P2 P3:Prop}{G:Prop}(k:P0→P1→P2→P3→G)(h:P0∧P1∧P2∧P3):G:=c0_4 h k
theorem f0_5{P0 P1 P2 P3 P4:Prop}{G:Prop}(k:P0→P1→P2→P3→P4→G)(h:P0∧P1∧P2∧P3∧P4):G:=c0_5 h k
theorem f0_6{P0 P1 P2 P3 P4 P5:Prop}{G:Prop}(k:P0→P1→P2→P3→P4→P5→G)(h:P0∧P1∧P2∧P3∧P4∧P5):G:=c0_6 h k
theorem f0_7{P0 P1 P2 P3 P4 P5 P6:Prop}{G:Prop}(k:P0→P1→P2→P3→P4→P5→P6→G)(h:P0∧P1∧P2∧P3∧P4∧P5∧P6):G:=c0_7 h k
theorem f0_8{P0 P1 P2 P3 P4 P5 P6 P7:Prop}{G:Prop}(k:P0→P1→P2→P3→P4→P5→P6→P7→G)(h:P0∧P1∧P2∧P3∧P4∧P5∧P6∧P7):G:=c0_8 h k
theorem f1_1.{u} {α:Sort u} {P0:α→Prop} {G:Prop} (k:∀ x0,P0 x0→G) (h:∃ x0,P0 x0):G:=c1_1 h k
theorem f1_2.{u} {α:Sort u} {P0 P1:α→Prop} {G:Prop} (k:∀ x0,P0 x0→P1 x0→G) (h:∃ x0,P0 x0∧P1 x0):G:=c1_2 h k
theorem f1_3.{u} {α:Sort u} {P0 P1 P2:α→Prop} {G:Prop} (k:∀ x0,P0 x0→P1 x0→P2 x0→G) (h:∃ x0,P0 x0∧P1 x0∧P2 x0):G:=c1_3 h k
theorem f1_4.{u} {α:Sort u} {P0 P1 P2 P3:α→Prop} {G:Prop} (k:∀ x0,P0 x0→P1 x0→P2 x0→P3 x0→G) (h:∃ x0,P0 x0∧P1 x0∧P2 x0∧P3 x0):G:=c1_4 h k
theorem f2_5.{u,v} {α:Sort u} {β:Sort v} {P0 P1 P2 P3 P4:α→β→Prop} {G:Prop} (k:∀ x0 x1,P0 x0 x1→P1 x0 x1→P2 x0 x1→P3 x0 x1→P4 x0 x1→G) (h:∃ x0 x1,P0 x0 x1∧P1 x0 x1∧P2 x0 x1∧P3 x0 x1∧P4 x0 x1):G:=c2_5 h k
theorem f3_4.{u,v,w} {α:Sort u} {β:Sort v} {γ:Sort w} {P0 P1 P2 P3:α→β→γ→Prop} {G:Prop} (k:∀ x0 x1 x2,P0 x0 x1 x2→P1 x0 x1 x2→P2 x0 x1 x2→P3 x0 x1 x2→G) (h:∃ x0 x1 x2,P0 x0 x1 x2∧P1 x0 x1 x2∧P2 x0 x1 x2∧P3 x0 x1 x2):G:=c3_4 h k
theorem f3_5.{u,v,w} {α:Sort u} {β:Sort v} {γ:Sort w} {P0 P1 P2 P3 P4:α→β→γ→Prop} {G:Prop} (k:∀ x0 x1 x2,P0 x0 x1 x2→P1 x0 x1 x2→P2 x0 x1 x2→P3 x0 x1 x2→P4 x0 x1 x2→G) (h:∃ x0 x1 x2,P0 x0 x1 x2∧P1 x0 x1 x2∧P2 x0 x1 x2∧P3 x0 x1 x2∧P4 x0 x1 x2):G:=c3_5 h k
theorem f3_6.{u,v,w} {α:Sort u} {β:Sort v} {γ:Sort w} {P0 P1 P2 P3 P4 P5:α→β→γ→Prop} {G:Prop} (k:∀ x0 x1 x2,P0 x0 x1 x2→P1 x0 x1 x2→P2 x0 x1 x2→P3 x0 x1 x2→P4 x0 x1 x2→P5 x0 x1 x2→G) (h:∃ x0 x1 x2,P0 x0 x1 x2∧P1 x0 x1 x2∧P2 x0 x1 x2∧P3 x0 x1 x2∧P4 x0 x1 x2∧P5 x0 x1 x2):G:=c3_6 h k
theorem f4_5.{u,v,w,z} {α:Sort u} {β:Sort v} {γ:Sort w} {δ:Sort z} {P0 P1 P2 P3 P4:α→β→γ→δ→Prop} {G:Prop} (k:∀ x0 x1 x2 x3,P0 x0 x1 x2 x3→P1 x0 x1 x2 x3→P2 x0 x1 x2 x3→P3 x0 x1 x2 x3→P4 x0 x1 x2 x3→G) (h:∃ x0 x1 x2 x3,P0 x0 x1 x2 x3∧P1 x0 x1 x2 x3∧P2 x0 x1 x2 x3∧P3 x0 x1 x2 x3∧P4 x0 x1 x2 x3):G:=c4_5 h k
theorem hide{P:Prop}(h:∀ G:Prop,(P→G)→G):P:=h P id
theorem e2.{u,v} {α:Sort u} {β:Sort v} {a V:α} {b W:β} {G:α→β→Prop} (h:V=a∧W=b) (k:G a b):G V W:=h.1▸h.2▸k
@[elab_as_elim] theorem rwl.{u} {α:Sort u} {a b:α} {P:α→Prop} (h:a=b) (k:P b):P a:=h▸k
@[elab_as_elim] theorem rwr.{u} {α:Sort u} {a b:α} {P:α→Prop} (h:a=b) (k:P a):P b:=h▸k
theorem tru:true=true:=rfl
theorem fls:false=false:=rfl
theorem nle{m n:Nat}(h:Nat.ble m n=true):m≤n:=Nat.le_of_ble_eq_true h
theorem lb{x a b:Nat}(h:x≤a)(e:Nat.ble a b=true):x≤b:=Nat.le_trans h (nle e)
theorem ano{a b P Q:Prop}(h:¬ a)(k:b→Q):(a→P)∧(b→Q):=⟨fun z=>absurd z h,k⟩
theorem aye{a b P Q:Prop}(h:¬ b)(k:a→P):(a→P)∧(b→Q):=⟨k,fun z=>absurd z h⟩
section
open Sem (wp)
noncomputable def holdIds:List String:=["bytearray.__contains__","bytearray.__mod__","bytearray.__rmod__","_struct.pack_into.held","bytearray.find.held"]++Builtin.Bytes.decodersThatHold
noncomputable def cleanC:Code→Bool
 | .builtin id _=>!holdIds.contains id
 | _=>true
noncomputable def CleanL(l:List (Code×Pos)):Prop:=∀ x∈l,cleanC x.1=true
noncomputable def Clean(Γ:Ctx):Prop:=cleanC Γ.code=true∧CleanL Γ.below
theorem Clean.enter{Γ:Ctx}(h:Clean Γ)(c:Code)(hd:Option Value)(p:Pos):CleanL (Γ.enter c hd p).below:=fun x hx=>by
 rcases List.mem_cons.mp hx with rfl | hx
 ·exact h.1
 ·exact h.2 x hx
noncomputable def wpN{α:Type}(c:Bool)(M:Model)(A:Around)(t:Sem α)(Q:α→Shared→Prop)(E:Value→Shared→Prop)(s:Shared):Prop :=
 ∀ Γ p,Γ.In A→(c=true→Clean Γ)→wp M Γ t (fun a _ s'=>Q a s') (fun e _ s'=>E e s') p s
noncomputable def codeN(c:Bool)(M:Model)(A:Around)(cd:Code)(R:Result→Shared→Prop)(s:Shared):Prop :=
 ∀ Γ p,Γ.code=cd→Γ.Below A→(c=true→CleanL Γ.below)→wpCode M Γ R p s
section
variable{α β:Type}{c:Bool}{M:Model}{A:Around}{E:Value→Shared→Prop}{s:Shared}
theorem N.up{t:Sem α}{Q:α→Shared→Prop}(h:wpAny M A t Q E s):wpN c M A t Q E s:=fun Γ p hΓ _=>h Γ p hΓ
theorem N.any{t:Sem α}{Q:α→Shared→Prop}(h:wpN false M A t Q E s):wpAny M A t Q E s:=fun Γ p hΓ=>h Γ p hΓ fun z=>nomatch z
theorem N.code{cd:Code}{R:Result→Shared→Prop}(h:codeAny M A cd R s):codeN c M A cd R s:=fun Γ p hc hΓ _=>h Γ p hc hΓ
theorem N.codeAny{cd:Code}{R:Result→Shared→Prop}(h:codeN false M A cd R s):codeAny M A cd R s:=fun Γ p hc hΓ=>h Γ p hc hΓ fun z=>nomatch z
theorem N.pure{a:α}{Q:α→Shared→Prop}(h:Q a s):wpN c M A (pure a) Q E s:=fun _ _ _ _=>h
theorem N.mono{t:Sem α}{Q Q':α→Shared→Prop}{E':Value→Shared→Prop}(h:wpN c M A t Q E s)(hQ:∀ a s,Q a s→Q' a s)(hE:∀ e s,E e s→E' e s):wpN c M A t Q' E' s :=
 fun Γ p hΓ hC=>Sem.wp_mono M Γ t (fun a _ s=>hQ a s) (fun e _ s=>hE e s) p s (h Γ p hΓ hC)
theorem N.bind{m:Sem α}{f:α→Sem β}{Q:β→Shared→Prop}(h:wpN c M A m (fun a s'=>wpN c M A (f a) Q E s') E s):wpN c M A (m >>= f) Q E s:=fun Γ p hΓ hC=>by
 rw [Sem.wp_bind']
 exact Sem.wp_mono M Γ m (fun a p' s' h'=>h' Γ p' hΓ hC) (fun _ _ _ h'=>h') p s (h Γ p hΓ hC)
theorem N.first{m:Sem α}{f:α→Sem β}{Q:β→Shared→Prop}(h:wpAny M A m (fun a s'=>wpN c M A (f a) Q E s') E s):wpN c M A (m >>= f) Q E s:=N.bind (N.up h)
end
theorem clean_caller:Clean ⟨.builtin "claim.caller" {},none,none,[],none⟩:=⟨by decide +kernel,fun _ h=>nomatch h⟩
theorem caller_run{prog:Program}{w:World}{t:Sem Fin}{s:Shared}{R:Result→Shared→Prop}(hreg:s.asleep)
  (h:wpN true (model prog w) callerA t (fun fin s'=>∃ f,fin=.done f∧R (.ok f) s'∧AllBare s'.gens) (fun e s'=>R (.error e) s'∧AllBare s'.gens) s) :
  ∃ n r s' s'',runN (denote table) prog w n s ⟨t,.builtin "claim.caller" {},default,[]⟩=.halted (outcomeOf r) s' ∧
   schedN (denote table) prog w n (.single s ⟨t,.builtin "claim.caller" {},default,[]⟩)=.halted (outcomeOf r) s'∧s'.forget=s''.forget∧R r s'':=by
 have hwp:wp (model prog w) ⟨.builtin "claim.caller" {},none,none,[],none⟩ t (Sem.finPost (model prog w) ⟨.builtin "claim.caller" {},none,none,[],none⟩ fun r s'=>R r s'∧leftWithCleanup s'.gens=false)
   (fun e _ s'=>R (.error e) s'∧leftWithCleanup s'.gens=false) default s:=by
  refine Sem.wp_mono _ _ t (fun fin p' s' h'=>?_) (fun e p' s' h'=>⟨h'.1,leftWithCleanup_false_of_bare h'.2⟩) default s (h _ default caller_in fun _=>clean_caller)
  obtain ⟨f,rfl,h1,h2⟩:=h'
  exact ⟨h1,leftWithCleanup_false_of_bare h2⟩
 obtain ⟨n,r,s₁,s₂,a1,a2,a3,a4⟩:=wp_halts_full (M:=model prog w) (R:=R) hreg hwp
 exact ⟨n,r,s₂,s₁,a2,a1,a3,a4⟩
noncomputable abbrev WalkC(q:Program)(loose:List Str)(XP:(Str→Option Value)→Heap→Prop)(YP:World→Heap→Prop)(r:RowW)(d:DefRec)(kwd:List (Str×Expr)):Prop :=
 ∀ (w:World) (s₀ s₁:Shared) (mg mb:Str→Option Value),Ground q loose r.records XP w s₀ mg mb s₁.heap→YP w s₁.heap→∀ (a:Addr) (o:Obj) (pm cd doc dV kV:Value),s₁.heap.get? a=some o →
  o.data=.func { docDef d.name d.params d.body d.scope pm cd doc with defaults:=dV,kwdefaults:=kV }→s₁.heap.CodeRec cd d.name→Dflts mg s₁.heap d.params kwd dV kV→mg d.name=some (.ref a)→s₁.gens=#[] →
  ∀ (args:List WData) (vals:List Value) (as:List Addr),r.claim.pre args=true→WData.layableAll args=true→ReadsAllW r.records (classAt s₀.heap) s₁.heap vals args as→WellAll w.params s₁.heap vals args→(∀ a∈as,(a==sysModules)=false) →
   codeN true (model r.prog w) callerA (.call (.ref a) ⟨vals,[]⟩) (GoodWG r.claim (classAt s₀.heap) (ExcName.means s₀.heap) args s₁) s₁
theorem good_ret{c:ClaimW}{cl:Str→Option Addr}{mean:ExcName→Option Value}{args:List WData}{s₁ s':Shared}{f:Flow}(h:GoodWG c cl mean args s₁ (.ok f) s'):∃ v,f=.ret v:=by
 obtain ⟨⟨v,_,_,e,_⟩ | ⟨_,_,_,e,_⟩,_⟩:=h
 ·cases e;exact ⟨v,rfl⟩
 ·cases e
theorem PySem.W.holds_open {r : OpenRow} {q : Program} {loose : List Str} {Xt : Shared → Bool} {XP : (Str → Option Value) → Heap → Prop} {α : Type} {Yf : Shared → α} {Ya : World → α} {YP : World → Heap → Prop} {d : DefRec} {kwd : List (Str × Expr)} {N : Nat}
  (left:LeftO r.prog q loose Xt Yf Ya N) (hY:∀ w s,Yf s=Ya w→YP w s.heap) (hYk:∀ w h h',YP w h→(∀ b o,h.get? b=some o→h'.get? b=some o)→YP w h')
  (hX:∀ s,Xt s=true→XP (s.heap.nsMap mainGlobals) s.heap) (hXk:∀ mg h h',XP mg h→(∀ b o,h.get? b=some o→h'.get? b=some o)→XP mg h')
  (hdef:defOf q r.name=some (d,kwd)) (hp:r.prog.theDef r.name=some (d.params,d.body,d.scope)) (hk:kwWritten? d.params.kwonlyargs d.params.kw_defaults=some kwd) (hRf:∀ s,Xt s=true→RecFacts r.records s.heap) (hwr:(!r.writes || r.records.isEmpty)=true)
  (k1:r.wellSaid=true) (ok:(chainsOk q && opensWell r.prog && (frees r.toRowW && r.within.isEmpty))=true) (hb:r.prog.bare) (hw:r.toRowW.promised)
  (walk:WalkC q loose XP YP r.toRowW d kwd):r.Holds:=by
 refine hide fun goal hG=>?_
 refine c0_2 (Bool.and_eq_true_iff.mp ok) fun ok ok'=>?_
 refine c0_2 (Bool.and_eq_true_iff.mp ok) fun hch ho=>?_
 refine c0_2 (Bool.and_eq_true_iff.mp ok') fun hfr hwi=>?_
 refine c0_5 (frees_parts hfr) fun hsame hu ha hap hm=>?_
 have hwi':r.toRowW.claim.within=[]:=List.isEmpty_iff.mp hwi
 have hid:=ident_freeW hu ha hap
 refine hG ⟨k1,hw,⟨hb,ho,by show r.toRowW.makers.map _=[];rw [hm];rfl⟩,hw.witness,fun w=>?_⟩
 clear hG goal
 refine hide fun goal hG=>?_
 have zz:=left.behind (XP:=fun mg h=>XP mg h∧RecFacts r.records h) (fun s hs=>⟨hX s hs,hRf s hs⟩) hch w
 refine hG ⟨zz.1,fun s' hs'=>?_⟩
 clear hG goal
 refine hide fun goal hG=>?_
 refine c1_3 (zz.2 s' hs') fun s₀ hf hg0 zz=>?_
 refine c1_6 zz fun s hT hz hgs hg G' y=>?_
 have G₀:Ground q loose [] XP w s (s.heap.nsMap mainGlobals) (s.heap.nsMap builtinsNs) s.heap:={ T:=G'.T,B:=G'.B,D:=G'.D,TE:=G'.TE,TD:=G'.TD,W:=G'.W,X:=G'.X.1,cls:=G'.cls,has:=G'.has,apart:=G'.apart,once:=G'.once,K:=G'.K }
 have RF:=G'.X.2
 have G:Ground q loose r.records XP w s _ _ s.heap:=RF.ground G₀
 have hgens:s.gens=#[]:=Array.eq_empty_of_size_eq_zero (beq_iff_eq.mp hgs)
 refine hG ⟨s₀,hf,hg0,s,hT,fun n hn=>?_,RF.1,RF.2.1,?_⟩ <;> clear hG goal
 ·have:n=r.name:=by split at hn <;> simp_all
  subst this
  exact pinned_of_view hg G₀ hdef hp hk
 intro args hpre hlay ord hord
 refine hide fun goal hG=>?_
 refine c1_1 (Option.isSome_iff_exists.mp (layAllW_isSome (P:=w.params) (ord:=ord) G.has args r.args s (pre_splitW hpre).1)) fun vs1 hlaid=>?_
 cases vs1 with | mk vs s₁ =>
 have keeps:=layAllW_keeps _ _ _ hlaid
 have hrest:=layAllW_rest _ _ _ hlaid
 refine c1_3 (reads_layAllW hord _ _ _ hlaid hlay s₁.heap fun _ _ e=>e) fun as hrd hin hold=>?_
 have L:PySem.W.Laid r.records w s s₁ args vs as:={ laid:=⟨ord,hord,hlaid⟩,reads:=hrd,within:=hin,old:=hold,keeps:=keeps,gens:=hrest.1.trans hgens,os:=hrest.2.2.1 }
 have G₁:=G.keeps hXk keeps
 refine c4_1 (G₁.fn hdef) fun a o pm cd zz=>?_
 refine c3_5 zz fun doc dV kV h1 h2 h3 h4 h5=>?_
 have hrun:=walk w s s₁ _ _ G₁ (hYk _ _ _ (hY w s y) keeps) a o pm cd doc dV kV h2 h3 h4 h5 (defOf_name hdef▸h1) L.gens args vs as hpre hlay L.reads L.well (L.low G.low)
 have good:∀ {res:Result} {s':Shared},GoodWG r.toRowW.claim (classAt s.heap) (ExcName.means s.heap) args s₁ res s' →
   (r.toRowW.claim.Ends s args vs s₁ res s'∧s'.os=s.os∧(r.writes=true→namesKept r.toRowW.claim.prog r.keeps s.heap s'.heap∧∀ x∈r.toRowW.claim.records,∀ a,classAt s.heap x.1=some a→recordClass s'.heap a x.1 (x.2.map (·.1))=true))∧AllBare s'.gens:=fun g=>by
  have z:=g.laid (c:=r.toRowW.claim) hsame hwi' hid L
  exact ⟨⟨z.1,z.2.1,fun q=>⟨namesKept_of hT hg r.keeps keeps g.2.1.old,noTable hwr q⟩⟩,z.2.2⟩
 refine c4_4 (caller_run (prog:=r.prog) (w:=w) (s:=s₁) (t:=do
   match ← nsGet mainNs r.name with
   | some f=>do ret (← PySem.call f vs)
   | none=>unsupported "claim.caller:no-such-global")
  (R:=fun res s'=>r.toRowW.claim.Ends s args vs s₁ res s'∧s'.os=s.os∧(r.writes=true→namesKept r.toRowW.claim.prog r.keeps s.heap s'.heap∧∀ x∈r.toRowW.claim.records,∀ a,classAt s.heap x.1=some a→recordClass s'.heap a x.1 (x.2.map (·.1))=true))
  (Shared.asleep_of_life hrest.2.2.2 hz) (RK.N.first (wpAny_nsGet G₁.T.g (by
   rw [h1]
   refine RK.N.bind (fun Γ p hΓ hC=>?_)
   show wp _ Γ (runValue _) _ _ p s₁
   rw [Sem.wp_runValue]
   refine wpCode_mono (fun res s' hg=>?_) (hrun _ p rfl (hΓ.enter _ none p (by intro x;cases x)) fun z=>(hC z).enter _ none p)
   rcases res with e | f
   ·exact good hg
   ·refine c1_1 (good_ret hg) fun v ev=>?_
    subst ev
    exact RK.N.pure ⟨_,rfl,good hg⟩)))) fun k res s2 s3 hr hsch hfo zz=>?_
 refine c0_3 zz fun hends hos hkp=>?_
 have eh:=(Shared.forget_eq hfo).1
 have hends:=hends.congr eh
 have hlife:s2.heap.life=s.heap.life:=(runN_life _ _ _ hr).trans hrest.2.2.2
 refine hG ⟨vs,s₁,hlaid,k,_,s2,hsch,?_,(fun _ i x hx=>by rw [hgens] at hx;simp at hx),?_,by rw [hlife],Shared.rest_eq ((Shared.forget_eq hfo).2.2.2.1.trans hos)⟩
 ·rcases hends with ⟨v,rfl,d1,d2,d3,d4,d5⟩ | ⟨e,ob,cls,rfl,d1,d2,d3,d4,d5⟩
  ·exact .inl ⟨v,rfl,d1,d2,d3,fun b o y _=>d4 b o y,d5⟩
  ·exact .inr ⟨e,ob,cls,rfl,d1,d2,d3,d4,fun b o y _=>d5 b o y⟩
 ·rw [eh];exact hkp
end
noncomputable abbrev prog:Program:=PySem.Challenge.pw_nz0367_01
noncomputable def atTop(i:Nat):Stmt:=(prog.main.body[i]?).getD (.Pass default)
noncomputable def inCls(i j:Nat):Stmt:=match atTop i with
 | .ClassDef _ _ _ body _ _ _ _ _ _ _=>(body[j]?).getD (.Pass default)
 | _=>.Pass default
noncomputable def fdName:Stmt→Str
 | .FunctionDef n _ _ _ _ _ _ _ _ _=>n
 | _=>Str.ofString ""
noncomputable def fdParams:Stmt→Arguments
 | .FunctionDef _ a _ _ _ _ _ _ _ _=>a
 | _=>⟨[],[],none,[],[],none,[]⟩
noncomputable def fdBody:Stmt→List Stmt
 | .FunctionDef _ _ b _ _ _ _ _ _ _=>b
 | _=>[]
noncomputable def fdPos:Stmt→Pos
 | .FunctionDef _ _ _ _ _ _ _ _ _ p=>p
 | _=>default
noncomputable def fdScope:Stmt→Scope
 | .FunctionDef _ _ _ _ _ _ s _ _ _=>s
 | _=>default
noncomputable abbrev fnObj(st:Stmt)(q:String)(cd:Addr)(pm:Value):Obj:=⟨.type "function",none,.func (fnOf (fdName st) (Str.ofString q) (fdParams st) (fdBody st) (fdScope st) .none .none .none pm none (.ref cd) .none),#[]⟩
noncomputable def en(P:Params)(r:String×Nat×Value):DictEntry:=⟨PyData.keyHash P (Str.ofString r.1),.str (Str.ofString r.1) r.2.1,r.2.2⟩
noncomputable def nsO(P:Params)(c:Value)(l:List (String×Nat×Value))(k:Nat):Obj:=⟨c,none,.dict (l.map (en P)).toArray k,#[]⟩
noncomputable def clO(n:String)(b m:List Value)(a:Addr)(s:List Value)(d:Option Value)(t u:Nat)(w:String):Obj:=⟨.type "type",none,.cls { name:=Str.ofString n,bases:=b,mro:=m,ns:=a,qualname:=Str.ofString n,subclasses:=s },#[d,none,some (.str (Str.ofString n) t),some (.str (Str.ofString n) u),some (.builtin w),some (.bool true)]⟩
noncomputable def pyF:Str:=Str.ofString "/claim/cut.py"
structure FnR where
 m:Value
 a:Addr
 s:Stmt
 q:String
 t:Nat
 l:Nat
 c:Nat
 e:Nat
noncomputable def cdO(r:FnR):Obj:=⟨.type "code",none,.fields #[.str (fdName r.s) r.t,.str (Str.ofString r.q) (r.t+1),.str pyF (r.t+2),.int r.l 0,.int r.c 0,.int 0 0,.int 0 0,.int 3 0,.ref (r.a - 6),.bool true,.int 181 0,.ref (r.a - 5),.none,.ref (r.a - 4),.ref (r.a - 3),.ref (r.a - 2),.int r.e 0,.int r.l 0,.str pyF (r.e+1)],#[]⟩
noncomputable def pmF:Value:=.str (Str.ofString "raftkeep.files") 321
noncomputable def pmL:Value:=.str (Str.ofString "law_nz0367_01") 865
noncomputable def Kns(P:Params):Frag:=[
 (2,nsO P (.none) [("type.__subclasses__.Exception.0",205,.int 24 0),("type.__subclasses__.Exception.n",206,.int 1 0)] 2),
 (3,nsO P (.type "dict") [("__name__",165,pmL),("__doc__",166,.none),("__package__",167,.none),("__loader__",168,.builtin "__main__.__loader__#opaque"),("__spec__",169,.none),("__annotations__",170,.ref 6),("__builtins__",171,.ref 4),("__file__",173,.str (Str.ofString "/claim/cut.py") 172),("__cached__",174,.none),("KeepError",208,.ref 24),("StoreError",224,.ref 37),("BadOption",240,.ref 49),("DiskError",256,.ref 61),("NoSuchFile",272,.ref 73),("FileThere",288,.ref 85),("DiskDead",304,.ref 97),("BadHandle",320,.ref 109),("STEP_CREATE",324,.int 1 323),("STEP_REMOVE",326,.int 2 325),("STEP_RENAME",328,.int 3 327),("Node",375,.ref 142),("DirStep",419,.ref 170),("File",491,.ref 226),("Disk",704,.ref 387),("SubDisk",864,.ref 522),("_law_names",872,.ref 533),("_law_kinds",878,.ref 540),("_law_draw",886,.ref 547),("_law_does",899,.ref 554),("_law_length",906,.ref 561),("_law_alike",917,.ref 568),("_law_dead",924,.ref 575),("law",930,.ref 580)] 33),
 (23,nsO P (.type "dict") [("__module__",196,.str (Str.ofString "raftkeep.errors") 187),("__firstlineno__",200,.int 2 199),("__static_attributes__",201,.ref 22),("__weakref__",203,.ref 25),("__doc__",204,.none)] 3),
 (36,nsO P (.type "dict") [("__module__",216,.str (Str.ofString "raftkeep.errors") 187),("__firstlineno__",220,.int 4 219),("__static_attributes__",221,.ref 35),("__doc__",222,.none)] 2),
 (48,nsO P (.type "dict") [("__module__",232,.str (Str.ofString "raftkeep.errors") 187),("__firstlineno__",236,.int 6 235),("__static_attributes__",237,.ref 47),("__doc__",238,.none)] 2),
 (60,nsO P (.type "dict") [("__module__",248,.str (Str.ofString "raftkeep.errors") 187),("__firstlineno__",252,.int 8 251),("__static_attributes__",253,.ref 59),("__doc__",254,.none)] 2),
 (72,nsO P (.type "dict") [("__module__",264,.str (Str.ofString "raftkeep.errors") 187),("__firstlineno__",268,.int 10 267),("__static_attributes__",269,.ref 71),("__doc__",270,.none)] 2),
 (84,nsO P (.type "dict") [("__module__",280,.str (Str.ofString "raftkeep.errors") 187),("__firstlineno__",284,.int 12 283),("__static_attributes__",285,.ref 83),("__doc__",286,.none)] 2),
 (96,nsO P (.type "dict") [("__module__",296,.str (Str.ofString "raftkeep.errors") 187),("__firstlineno__",300,.int 14 299),("__static_attributes__",301,.ref 95),("__doc__",302,.none)] 2),
 (108,nsO P (.type "dict") [("__module__",312,.str (Str.ofString "raftkeep.errors") 187),("__firstlineno__",316,.int 16 315),("__static_attributes__",317,.ref 107),("__doc__",318,.none)] 2),
 (141,nsO P (.type "dict") [("__module__",336,pmF),("__firstlineno__",340,.int 22 339),("__init__",350,.ref 125),("unsynced",357,.ref 132),("copy",364,.ref 139),("__static_attributes__",368,.ref 140),("__dict__",370,.ref 143),("__weakref__",372,.ref 144),("__doc__",373,.none)] 4),
 (169,nsO P (.type "dict") [("__module__",383,pmF),("__firstlineno__",387,.int 34 386),("__init__",398,.ref 160),("happen",407,.ref 167),("__static_attributes__",412,.ref 168),("__dict__",414,.ref 171),("__weakref__",416,.ref 172),("__doc__",417,.none)] 4),
 (225,nsO P (.type "dict") [("__module__",427,pmF),("__firstlineno__",431,.int 51 430),("__init__",441,.ref 188),("ready",448,.ref 195),("append",458,.ref 202),("sync",465,.ref 209),("close",472,.ref 216),("length",479,.ref 223),("__static_attributes__",484,.ref 224),("__dict__",486,.ref 227),("__weakref__",488,.ref 228),("__doc__",489,.none)] 4),
 (386,nsO P (.type "dict") [("__module__",499,pmF),("__firstlineno__",503,.int 86 502),("__init__",511,.ref 244),("set_budget",519,.ref 251),("check_alive",526,.ref 258),("take_steps",535,.ref 265),("one_step",543,.ref 272),("node_of",551,.ref 279),("dir_step",559,.ref 286),("keep_creation",570,.ref 293),("create",578,.ref 300),("create_over",587,.ref 307),("append_to",595,.ref 314),("remove",603,.ref 321),("rename",612,.ref 328),("sync_dir",622,.ref 335),("read",630,.ref 342),("size",638,.ref 349),("has",646,.ref 356),("names",653,.ref 363),("power_cut",670,.ref 370),("copy",679,.ref 377),("row",688,.ref 384),("__static_attributes__",697,.ref 385),("__dict__",699,.ref 388),("__weakref__",701,.ref 389),("__doc__",702,.none)] 4),
 (521,nsO P (.type "dict") [("__module__",712,pmF),("__firstlineno__",716,.int 234 715),("__init__",725,.ref 405),("alive",733,.ref 413),("spent",741,.ref 421),("set_budget",749,.ref 428),("create",757,.ref 435),("create_over",765,.ref 442),("append_to",773,.ref 449),("remove",781,.ref 456),("rename",790,.ref 463),("sync_dir",797,.ref 470),("read",805,.ref 477),("size",813,.ref 484),("has",821,.ref 491),("names",830,.ref 498),("power_cut",838,.ref 505),("copy",845,.ref 512),("row",854,.ref 519),("__static_attributes__",857,.ref 520),("__dict__",859,.ref 523),("__weakref__",861,.ref 524),("__doc__",862,.none)] 4)]
noncomputable def Kcl:Frag:=[
 (24,clO "KeepError" [.type "Exception"] [.ref 24,.type "Exception",.type "BaseException",.type "object"] 23 [.ref 37,.ref 61] (some (.ref 15)) 189 197 "Exception.__new__"),
 (37,clO "StoreError" [.ref 24] [.ref 37,.ref 24,.type "Exception",.type "BaseException",.type "object"] 36 [.ref 49] (some (.ref 28)) 209 217 "Exception.__new__"),
 (49,clO "BadOption" [.ref 37] [.ref 49,.ref 37,.ref 24,.type "Exception",.type "BaseException",.type "object"] 48 [] (some (.ref 40)) 225 233 "Exception.__new__"),
 (61,clO "DiskError" [.ref 24] [.ref 61,.ref 24,.type "Exception",.type "BaseException",.type "object"] 60 [.ref 73,.ref 85,.ref 97,.ref 109] (some (.ref 52)) 241 249 "Exception.__new__"),
 (73,clO "NoSuchFile" [.ref 61] [.ref 73,.ref 61,.ref 24,.type "Exception",.type "BaseException",.type "object"] 72 [] (some (.ref 64)) 257 265 "Exception.__new__"),
 (85,clO "FileThere" [.ref 61] [.ref 85,.ref 61,.ref 24,.type "Exception",.type "BaseException",.type "object"] 84 [] (some (.ref 76)) 273 281 "Exception.__new__"),
 (97,clO "DiskDead" [.ref 61] [.ref 97,.ref 61,.ref 24,.type "Exception",.type "BaseException",.type "object"] 96 [] (some (.ref 88)) 289 297 "Exception.__new__"),
 (109,clO "BadHandle" [.ref 61] [.ref 109,.ref 61,.ref 24,.type "Exception",.type "BaseException",.type "object"] 108 [] (some (.ref 100)) 305 313 "Exception.__new__"),
 (142,clO "Node" [.type "object"] [.ref 142,.type "object"] 141 [] (none) 329 337 "object.__new__"),
 (170,clO "DirStep" [.type "object"] [.ref 170,.type "object"] 169 [] (none) 376 384 "object.__new__"),
 (226,clO "File" [.type "object"] [.ref 226,.type "object"] 225 [] (none) 420 428 "object.__new__"),
 (387,clO "Disk" [.type "object"] [.ref 387,.type "object"] 386 [] (none) 492 500 "object.__new__"),
 (522,clO "SubDisk" [.type "object"] [.ref 522,.type "object"] 521 [] (none) 705 713 "object.__new__"),
 (413,⟨.type "property",none,.fields #[.ref 412,.none,.none,.none,.str (Str.ofString "alive") 733,.bool false],#[]⟩),
 (421,⟨.type "property",none,.fields #[.ref 420,.none,.none,.none,.str (Str.ofString "spent") 741,.bool false],#[]⟩)]
noncomputable def fnR:List FnR:=[
 ⟨pmF,125,inCls 13 0,"Node.__init__",341,24,4,348⟩,
 ⟨pmF,132,inCls 13 1,"Node.unsynced",351,29,1,355⟩,
 ⟨pmF,139,inCls 13 2,"Node.copy",358,32,1,362⟩,
 ⟨pmF,160,inCls 14 0,"DirStep.__init__",388,36,5,396⟩,
 ⟨pmF,167,inCls 14 1,"DirStep.happen",399,42,2,405⟩,
 ⟨pmF,188,inCls 15 0,"File.__init__",432,53,4,439⟩,
 ⟨pmF,195,inCls 15 1,"File.ready",442,59,1,446⟩,
 ⟨pmF,202,inCls 15 2,"File.append",449,64,2,456⟩,
 ⟨pmF,209,inCls 15 3,"File.sync",459,73,1,463⟩,
 ⟨pmF,216,inCls 15 4,"File.close",466,79,1,470⟩,
 ⟨pmF,223,inCls 15 5,"File.length",473,83,1,477⟩,
 ⟨pmF,244,inCls 16 0,"Disk.__init__",504,88,2,509⟩,
 ⟨pmF,251,inCls 16 1,"Disk.set_budget",512,100,2,517⟩,
 ⟨pmF,258,inCls 16 2,"Disk.check_alive",520,106,1,524⟩,
 ⟨pmF,265,inCls 16 3,"Disk.take_steps",527,110,2,533⟩,
 ⟨pmF,272,inCls 16 4,"Disk.one_step",536,121,2,541⟩,
 ⟨pmF,279,inCls 16 5,"Disk.node_of",544,125,2,549⟩,
 ⟨pmF,286,inCls 16 6,"Disk.dir_step",552,131,2,557⟩,
 ⟨pmF,293,inCls 16 7,"Disk.keep_creation",560,135,2,568⟩,
 ⟨pmF,300,inCls 16 8,"Disk.create",571,145,2,576⟩,
 ⟨pmF,307,inCls 16 9,"Disk.create_over",579,151,2,585⟩,
 ⟨pmF,314,inCls 16 10,"Disk.append_to",588,159,2,593⟩,
 ⟨pmF,321,inCls 16 11,"Disk.remove",596,162,2,601⟩,
 ⟨pmF,328,inCls 16 12,"Disk.rename",604,167,3,610⟩,
 ⟨pmF,335,inCls 16 13,"Disk.sync_dir",613,172,1,620⟩,
 ⟨pmF,342,inCls 16 14,"Disk.read",623,182,2,628⟩,
 ⟨pmF,349,inCls 16 15,"Disk.size",631,185,2,636⟩,
 ⟨pmF,356,inCls 16 16,"Disk.has",639,188,2,644⟩,
 ⟨pmF,363,inCls 16 17,"Disk.names",647,192,1,651⟩,
 ⟨pmF,370,inCls 16 18,"Disk.power_cut",654,196,2,668⟩,
 ⟨pmF,377,inCls 16 19,"Disk.copy",671,216,1,677⟩,
 ⟨pmF,384,inCls 16 20,"Disk.row",680,229,1,686⟩,
 ⟨pmF,405,inCls 17 0,"SubDisk.__init__",717,236,3,723⟩,
 ⟨pmF,412,inCls 17 1,"SubDisk.alive",726,240,1,730⟩,
 ⟨pmF,420,inCls 17 2,"SubDisk.spent",734,244,1,738⟩,
 ⟨pmF,428,inCls 17 3,"SubDisk.set_budget",742,248,2,747⟩,
 ⟨pmF,435,inCls 17 4,"SubDisk.create",750,251,2,755⟩,
 ⟨pmF,442,inCls 17 5,"SubDisk.create_over",758,254,2,763⟩,
 ⟨pmF,449,inCls 17 6,"SubDisk.append_to",766,257,2,771⟩,
 ⟨pmF,456,inCls 17 7,"SubDisk.remove",774,260,2,779⟩,
 ⟨pmF,463,inCls 17 8,"SubDisk.rename",782,263,3,788⟩,
 ⟨pmF,470,inCls 17 9,"SubDisk.sync_dir",791,266,1,795⟩,
 ⟨pmF,477,inCls 17 10,"SubDisk.read",798,269,2,803⟩,
 ⟨pmF,484,inCls 17 11,"SubDisk.size",806,272,2,811⟩,
 ⟨pmF,491,inCls 17 12,"SubDisk.has",814,275,2,819⟩,
 ⟨pmF,498,inCls 17 13,"SubDisk.names",822,278,1,828⟩,
 ⟨pmF,505,inCls 17 14,"SubDisk.power_cut",831,285,2,836⟩,
 ⟨pmF,512,inCls 17 15,"SubDisk.copy",839,288,1,843⟩,
 ⟨pmF,519,inCls 17 16,"SubDisk.row",846,291,1,852⟩,
 ⟨pmL,533,atTop 19,"_law_names",867,298,0,870⟩,
 ⟨pmL,540,atTop 20,"_law_kinds",873,300,0,876⟩,
 ⟨pmL,547,atTop 21,"_law_draw",879,302,2,884⟩,
 ⟨pmL,554,atTop 22,"_law_does",887,304,6,897⟩,
 ⟨pmL,561,atTop 23,"_law_length",900,332,1,904⟩,
 ⟨pmL,568,atTop 24,"_law_alike",907,337,3,915⟩,
 ⟨pmL,575,atTop 25,"_law_dead",918,349,1,922⟩]
noncomputable def Kfn:Frag:=fnR.flatMap (fun r=>[(r.a,fnObj r.s r.q (r.a - 1) r.m),(r.a - 1,cdO r)])++[(580,fnObj (atTop 26) "law" 579 pmL),(579,⟨.type "code",none,.fields #[.str (Str.ofString "law") 925,.str (Str.ofString "law") 926,.str pyF 927,.int 355 0,.int 1 0,.int 0 0,.int 0 0,.int 3 0,.ref 576,.bool true,.int 181 0,.ref 577,.none,.none,.none,.ref 578,.int 928 0,.int 355 0,.str pyF 929],#[]⟩)]
noncomputable def Kf(P:Params):Frag:=Kns P++(Kcl++Kfn)
noncomputable def topR(thr ok:Thread→Bool)(st:SharedT→Thread→Option (SharedT×Thread)):Nat→SharedT→Thread→Option SharedT
 | 0,_,_=>none
 | n+1,s,t=>match thr t with
  | true=>some s
  | false=>match ok t with
   | false=>none
   | true=>match st s t with
    | some (s',t')=>topR thr ok st n s' t'
    | none=>none
theorem topR_run{tb:String→Option Builtin}{p:Program}{w:World}{n₀:Nat}{ann:Option Value}{n:Nat}{s s':SharedT}{t:Thread}(h:topR through (stepOk n₀ ann) (stepT (denote tb) p w) n s t=some s'):topRun tb p w n₀ ann n s.abs t=some s'.abs:=by
 induction n generalizing s t with
 | zero=>cases h
 | succ n ih =>
  unfold topR at h
  unfold topRun
  cases he:through t with
  | true=>rw [he] at h;cases h;rfl
  | false =>
   rw [he] at h
   cases hk:stepOk n₀ ann t with
   | false=>rw [hk] at h;cases h
   | true =>
    rw [hk] at h
    cases hs:stepT (denote tb) p w s t with
    | none=>rw [hs] at h;cases h
    | some r=>rw [hs] at h;rw [stepT_spec (s':=r.1) (t':=r.2) hs];exact ih h
noncomputable def plant:Nat→List Obj→BT→BT
 | _,[],T=>T
 | i,o::r,T=>plant (i+1) r (T.ins i o)
noncomputable def bootS(P:Params)(os:OsState):SharedT:=⟨plant 0 (boot_heap P).objs.toList .nil,(boot_heap P).objs.size,(boot_heap P).life,#[],boot_drawn,boot_toks,os⟩
theorem bootS_abs(P:Params)(os:OsState):(bootS P os).abs=⟨boot_heap P,#[],boot_drawn,boot_toks,os⟩:=by kernel_rfl
noncomputable def keptS:List Nat:=[1,2,3,4,5,6,7,8,10,11,12,13,14,15,16,17,19,20,21,22,23,24,25,26]
noncomputable abbrev progV:Program:=view prog keptS
noncomputable abbrev looseV:List Str:=[Str.ofString "SubDisk"]
noncomputable def kAs:List Addr:=[2,3,23,36,48,60,72,84,96,108,141,169,225,386,521]++(Kcl++Kfn).map (·.1)
theorem kAs_eq(P:Params):kAs=(Kf P).map (·.1):=by kernel_rfl
noncomputable abbrev stepQ:=PySem.W.Fast.tw10156331382660048174
noncomputable abbrev denQ:=PySem.W.Fast.tw11892475500146522536
noncomputable abbrev okQ:=PySem.W.Fast.tw6613529449190102663
noncomputable abbrev tabQ:=PySem.W.Fast.tw14364793385576792824
noncomputable abbrev seenQ:=PySem.W.Fast.tw4187177175401517315
noncomputable abbrev impQ:=PySem.W.Fast.tw5923862056798008813
noncomputable def annE:Option Value:=some (.ref 6)
theorem boot_size(w:World):((boot_heap w.params).isNs mainGlobals && (#[]:Array GenState).size==0,(boot_heap w.params).objs.size,(boot_heap w.params).nsMap mainGlobals "__annotations__")=(true,11,annE):=by kernel_rfl
theorem top_sees(w:World):(fun os=>(topR through (okQ 11 annE) (stepQ (denQ tabQ) prog w) 9000 (bootS w.params os) (topStub prog)).map (fun S=>((staticsOk (impQ prog.main.body) (boot_heap w.params) S.abs.heap && namesBound prog S.abs.heap && gensDone S.abs && laidKept (boot_heap w.params) S.abs.heap),seenQ progV looseV (impQ prog.main.body) (fun s=>xlAt progV [] s) true S.abs,kAs.map S.abs.heap.get?)))=fun _=>some (true,openGood progV looseV,(Kf w.params).map fun p=>some p.2):=by kernel_rfl
theorem top_raw(w:World)(os:OsState):(topR through (stepOk 11 annE) (stepT (denote treeTable) prog w) 9000 (bootS w.params os) (topStub prog)).map (fun S=>((staticsOk (importedModules prog.main.body) (boot_heap w.params) S.abs.heap && namesBound prog S.abs.heap && gensDone S.abs && laidKept (boot_heap w.params) S.abs.heap),openSeen progV looseV (importedModules prog.main.body) (fun s=>xlAt progV [] s) true S.abs,kAs.map S.abs.heap.get?))=some (true,openGood progV looseV,(Kf w.params).map fun p=>some p.2):=by
 rw [PySem.W.Fast.te10156331382660048174,PySem.W.Fast.te11892475500146522536,PySem.W.Fast.te6613529449190102663,PySem.W.Fast.te14364793385576792824,PySem.W.Fast.te4187177175401517315,PySem.W.Fast.te5923862056798008813]
 exact congrFun (top_sees w) os
theorem map3{α β γ δ:Type}{o:Option α}{f:α→β}{g:α→γ}{h:α→δ}{b:β}{c:γ}{d:δ}(e:o.map (fun x=>(f x,g x,h x))=some (b,c,d)):∃ x,o=some x∧f x=b∧g x=c∧h x=d:=by
 obtain ⟨x,hx,e⟩:=Option.map_eq_some_iff.mp e
 obtain ⟨e1,e2⟩:=Prod.mk.inj e
 obtain ⟨e2,e3⟩:=Prod.mk.inj e2
 exact ⟨x,hx,e1,e2,e3⟩
theorem left_of{p q:Program}{loose:List Str}{Xt:Shared→Bool}{α:Type}{Yf:Shared→α}{Ya:World→α}{N m:Nat}{ann:Option Value}{H:Params→Heap}{d₀:Drawn}{k₀:Nat}{S₀:Params→OsState→SharedT}
  (o:∀ w:World,(fencedOpening treeTable p w N).map (fun s=>(s.heap,s.gens,s.drawn,s.toks))=some (H w.params,#[],d₀,k₀))
  (z:∀ w:World,((H w.params).isNs mainGlobals && (#[]:Array GenState).size==0,(H w.params).objs.size,(H w.params).nsMap mainGlobals "__annotations__")=(true,m,ann))
  (b:∀ P os,(S₀ P os).abs=⟨H P,#[],d₀,k₀,os⟩)
  (r:∀ (w:World) os,(topR through (stepOk m ann) (stepT (denote treeTable) p w) N (S₀ w.params os) (topStub p)).map (fun S=>((staticsOk (importedModules p.main.body) (H w.params) S.abs.heap && namesBound p S.abs.heap && gensDone S.abs && laidKept (H w.params) S.abs.heap),openSeen q loose (importedModules p.main.body) Xt true S.abs,Yf S.abs))=some (true,openGood q loose,Ya w)):LeftO p q loose Xt Yf Ya N:=fun w=>by
 obtain ⟨⟨h,gs,d,k,os⟩,e,e'⟩:=Option.map_eq_some_iff.mp (o w)
 obtain ⟨rfl,rfl,rfl,rfl⟩:h=H w.params∧gs=#[]∧d=d₀∧k=k₀:=by simpa using e'
 obtain ⟨z1,z2,z3⟩:_∧_∧_:=by simpa only [Prod.mk.injEq] using z w
 obtain ⟨S,hS,l1,l2,l3⟩:=map3 (r w os)
 have r:=topR_run hS
 rw [b] at r
 have t:topFrom treeTable p w N ⟨H w.params,#[],d,k,os⟩=some S.abs:=by
  unfold topFrom
  dsimp only
  rw [z1,z2,z3,r]
  dsimp only [Option.bind_some]
  rw [l1]
 unfold openEnds
 rw [e]
 show (topFrom treeTable p w N _).map _=_
 rw [t]
 exact congrArg some (Prod.ext l2 l3)
theorem open1:opening prog=plainProg prog.main.scope.names:=by kernel_rfl
theorem open2(s:Shared):fenceModules? prog s=some s:=by kernel_rfl
theorem left:LeftO prog progV looseV (fun s=>xlAt progV [] s) (fun s=>kAs.map s.heap.get?) (fun w=>(Kf w.params).map fun p=>some p.2) 9000:=left_of (boot_open open1 rfl open2) boot_size bootS_abs top_raw
theorem law_saidQ:PySem.W.Fast.tw9446332074065402090 PySem.Challenge.rw_nz0367_01=true:=by kernel_rfl
theorem law_said:PySem.Challenge.rw_nz0367_01.wellSaid=true:=by
 rw [PySem.W.Fast.te9446332074065402090];exact law_saidQ
noncomputable abbrev rwR:OpenRow:=PySem.Challenge.rw_nz0367_01.row
noncomputable def lawD:DefRec:={ name:=Str.ofString "law",params:=fdParams (atTop 26),body:=fdBody (atTop 26),scope:=fdScope (atTop 26),pos:=fdPos (atTop 26) }
theorem law_def:defOf progV rwR.name=some (lawD,[]):=by kernel_rfl
theorem law_the:rwR.prog.theDef rwR.name=some (lawD.params,lawD.body,lawD.scope):=by kernel_rfl
theorem law_ok:(chainsOk progV && opensWell rwR.prog && (frees rwR.toRowW && rwR.within.isEmpty))=true:=by kernel_rfl
theorem hd(walk:WalkC progV looseV (XL progV []) (InK Kf) rwR.toRowW lawD []):PySem.Challenge.rw_nz0367_01.Holds :=
 holds_law law_said fun said=>PySem.W.holds_open left (InK.of kAs_eq) InK.keeps (fun s e=>xl_of s e) XL.keeps law_def law_the rfl (fun _ _=>recFacts_nil rfl) rfl said law_ok ⟨rfl,rfl,rfl,rfl,rfl,by decide +kernel⟩ (by w_witness2) walk
def kd(k:String):Lean.Name:=match k.toList with
 | 'T'::r=>.str `Lean.Parser.Tactic (.ofList r)
 | 't'::r=>.str `Lean.Parser.Term (.ofList r)
 | _=>k.toName
def step(xs st:List Lean.Syntax)(w:String):List Lean.Syntax:=match w.toList with
 | '"' :: r => .atom .none (.ofList r) :: st
  | '%' :: r => xs.getD (String.ofList r).toNat! .missing :: st
  | '$' :: r => Lean.mkIdent (String.ofList r).toName :: st
  | _ =>
    let p := w.splitOn "/"
    let n := (p.getD 1 "0").toNat!
    .node .none (kd (p.headD "")) (st.take n).reverse.toArray :: st.drop n
def syn (s : String) (xs : List Lean.Syntax) : Lean.Syntax := ((s.splitOn " ").foldl (step xs) []).headD .missing
def sq (l : List String) : String := " \"; ".intercalate l++" null/"++toString (2*l.length - 1)++" TtacticSeq1Indented/1 TtacticSeq/1"
def s1(t:String):String:=sq [t]
def exa(n:String):String:="\"exact $"++n++" Texact/2"
def red(t:String):String:="\"with_reducible "++s1 t++" TwithReducible/2"
def par(l:List String):String:="\"( "++sq l++" \") Tparen/3"
def brs:List String→String
 | []=>""
 | t::r=>" \"| "++s1 t++" group/2"++brs r
def fst(l:List String):String:="\"first"++brs l++" null/"++toString l.length++" Tfirst/2"
def rws(i:Nat):List Lean.Syntax→List String
 | []=>["\"try "++s1 (red "\"rfl TtacticRfl/1")++" TtacticTry_/2"]
 | b::r=>fst ["\"refine $rw"++(if b[0].isNone then "l" else "r")++" %"++toString (i+1)++" \"? \"_ tsyntheticHole/2 null/2 tapp/2 Trefine/2","\"rewrite null/0 ToptConfig/1 \"[ %"++toString i++" null/1 \"] TrwRuleSeq/3 null/0 TrewriteSeq/4"]::rws (i+2) r
def two:List Lean.Syntax→List Lean.Syntax
 | []=>[]
 | r::l=>r::r[1]::two l
def rwm(l:List Lean.Syntax):Lean.Syntax:=syn (par (rws 0 l)) (two l)
def lim:Lean.Syntax:=syn (red (fst ["\"exact $nle $rfl null/1 tapp/2 Texact/2","\"exact $Int.natCast_nonneg \"_ thole/1 null/1 tapp/2 Texact/2","\"exact $lb \"by "++s1 "\"assumption Tassumption/1"++" tbyTactic/2 $rfl null/2 tapp/2 Texact/2"])) []
local macro_rules
 | `(tactic| rw $r:rwRuleSeq)=>return rwm (r.raw[1].getSepArgs.toList)
 | `(tactic| lia)=>return lim
section
open Sem (wp)
section
variable{α β:Type}{c:Bool}{M:Model}{A:Around}{E:Value→Shared→Prop}{s:Shared}
theorem n_up{t:Sem α}{Q:α→Shared→Prop}(h:wpAny M A t Q E s):wpN c M A t Q E s:=N.up h
theorem n_any{t:Sem α}{Q:α→Shared→Prop}(h:wpN false M A t Q E s):wpAny M A t Q E s:=N.any h
theorem n_code{cd:Code}{R:Result→Shared→Prop}(h:codeAny M A cd R s):codeN c M A cd R s:=N.code h
theorem n_codeAny{cd:Code}{R:Result→Shared→Prop}(h:codeN false M A cd R s):codeAny M A cd R s:=N.codeAny h
theorem n_pure{a:α}{Q:α→Shared→Prop}(h:Q a s):wpN c M A (pure a) Q E s:=N.pure h
theorem n_mono{t:Sem α}{Q Q':α→Shared→Prop}{E':Value→Shared→Prop}(h:wpN c M A t Q E s)(hQ:∀ a s,Q a s→Q' a s)(hE:∀ e s,E e s→E' e s):wpN c M A t Q' E' s:=N.mono h hQ hE
theorem n_bind{m:Sem α}{f:α→Sem β}{Q:β→Shared→Prop}(h:wpN c M A m (fun a s'=>wpN c M A (f a) Q E s') E s):wpN c M A (m >>= f) Q E s:=N.bind h
theorem n_first{m:Sem α}{f:α→Sem β}{Q:β→Shared→Prop}(h:wpAny M A m (fun a s'=>wpN c M A (f a) Q E s') E s):wpN c M A (m >>= f) Q E s:=N.first h
theorem n_pos{p:Prop}{d:Decidable p}{a b:Sem α}{Q:α→Shared→Prop}(hp:p)(h:wpN c M A a Q E s):wpN c M A (@ite _ p d a b) Q E s:=by rw [if_pos hp];exact h
theorem n_neg{p:Prop}{d:Decidable p}{a b:Sem α}{Q:α→Shared→Prop}(hp:¬ p)(h:wpN c M A b Q E s):wpN c M A (@ite _ p d a b) Q E s:=by rw [if_neg hp];exact h
theorem n_onRaise{m:Sem α}{k:Value→Sem Unit}{Q:α→Shared→Prop}(h:wpN c M A m Q (fun e s'=>wpN c M A (k e) (fun _ s''=>E e s'') E s') s):wpN c M A (m.onRaise k) Q E s:=fun Γ p hΓ hC=>by
 rw [Sem.wp_onRaise]
 exact Sem.wp_mono M Γ m (fun _ _ _ h'=>h') (fun e p' s' h'=>h' Γ p' hΓ hC) p s (h Γ p hΓ hC)
theorem n_attempt{m:Sem α}{Q:Except Value α→Shared→Prop}(h:wpN c M A m (fun a=>Q (.ok a)) (fun e=>Q (.error e)) s):wpN c M A m.attempt Q E s:=fun Γ p hΓ hC=>by rw [Sem.wp_attempt];exact h Γ p hΓ hC
theorem n_holding{vs:List Value}{m:Sem α}{Q:α→Shared→Prop}(h:wpN c M A m Q E s):wpN c M A (holding vs m) Q E s:=fun Γ p hΓ hC=>by rw [Sem.wp_holding];exact h Γ p hΓ hC
theorem n_keep{vs:List Value}{m:Sem α}{Q:α→Shared→Prop}(h:wpN c M A m Q E s):wpN c M A (m.keep vs) Q E s:=fun Γ p hΓ hC=>by rw [Sem.wp_keep];exact h Γ p hΓ hC
theorem n_operate{vs:List Value}{m:Sem Value}{Q:Value→Shared→Prop}(h:wpN c M A m Q E s):wpN c M A (operate vs m) Q E s:=fun Γ p hΓ hC=>by rw [Sem.wp_operate];exact h Γ p hΓ hC
theorem n_standAt{pos:Pos}{Q:Unit→Shared→Prop}(h:Q () s):wpN c M A (standAt pos) Q E s:=fun _ _ _ _=>h
theorem n_step{t:Sem α}{a:α}{f:α→Sem β}{Q:β→Shared→Prop}(e:t=Pure.pure a)(h:wpN c M A (f a) Q E s):wpN c M A (t >>= f) Q E s:=by
 rw [e];exact n_bind (n_pure h)
theorem n_run{cd:Code}{h:Option Value}{Q:Flow→Shared→Prop}(hc:codeN c M (A.mark h) cd (fun r s'=>match r with | .ok f=>Q f s' | .error e=>E e s') s)(hnb:h≠some byPass:=by intro x;cases x):wpN c M A (run cd h) Q E s :=
 fun Γ p hΓ hC=>by rw [Sem.wp_run];exact hc _ p rfl (hΓ.enter cd h p hnb) fun z=>(hC z).enter cd h p
theorem n_runValue{cd:Code}{Q:Value→Shared→Prop}(hc:codeN c M A cd (fun r s'=>match r with | .ok (.ret v)=>Q v s' | .ok _=>False | .error e=>E e s') s):wpN c M A (runValue cd) Q E s:=fun Γ p hΓ hC=>by
 rw [Sem.wp_runValue];exact hc _ p rfl (hΓ.enter cd none p (by intro x;cases x)) fun z=>(hC z).enter cd none p
theorem n_call{f:Value}{pos:List Value}{kw:List (Str×Value)}{Q:Value→Shared→Prop}(hc:codeN c M A (.call f ⟨pos,kw⟩) (fun r s'=>match r with | .ok (.ret v)=>Q v s' | .ok _=>False | .error e=>E e s') s):wpN c M A (call f pos kw) Q E s:=n_runValue hc
theorem codeN_mono{cd:Code}{R R':Result→Shared→Prop}(h:codeN c M A cd R s)(hR:∀ r s,R r s→R' r s):codeN c M A cd R' s:=fun Γ p hc hΓ hC=>wpCode_mono hR (h Γ p hc hΓ hC)
theorem codeN_of_tree{cd:Code}{R:Result→Shared→Prop}(hcl:cleanC cd=true)
  (h:wpN c M (A.under cd) (M.den cd) (fun fin s'=>match fin with | .done f=>R (.ok f) s' | .again c'=>c'.quiet=true∧codeN c M A c' R s') (fun e s'=>R (.error e) s') s):codeN c M A cd R s:=fun Γ p hc hΓ hC=>by
 rw [wpCode_iff_wp,hc]
 refine Sem.wp_mono M Γ _ (fun fin p' s' h'=>?_) (fun _ _ _ h'=>h') p s (h Γ p (hc▸hΓ.in) fun z=>⟨hc▸hcl,hC z⟩)
 cases fin with
 | done f=>exact h'
 | again c'=>exact ⟨h'.1,h'.2 (Γ.goto c') p' rfl (hΓ.goto c') hC⟩
theorem codeN_loop{cd:Code}{R:Result→Shared→Prop}(hcl:cleanC cd=true)(hq:cd.quiet=true)(I:Nat→Shared→Prop)
  (turn:∀ n s,I n s→wpN c M (A.under cd) (M.den cd) (fun fin s'=>match fin with
    | .done f=>R (.ok f) s'
    | .again c'=>(c'=cd∧∃ m,m<n∧I m s')∨(c'.quiet=true∧codeN c M A c' R s')) (fun e s'=>R (.error e) s') s)
  (n:Nat) (h:I n s):codeN c M A cd R s:=by
 induction n using Nat.strongRecOn generalizing s with
 | ind n ih =>
  refine codeN_of_tree hcl (n_mono (turn n s h) (fun fin s' hf=>?_) fun _ _ h'=>h')
  cases fin with
  | done f=>exact hf
  | again c' =>
   rcases hf with ⟨rfl,m,hm,hI⟩ | hf
   ·exact ⟨hq,ih m hm hI⟩
   ·exact hf
theorem n_stack{Q:List (Code×Pos)→Shared→Prop}(h:∀ st,CleanL st→Q st s):wpN true M A stack Q E s:=fun Γ p hΓ hC'=>by
 have hC:=hC' rfl
 show Q ((Γ.code,p)::Γ.below) s
 exact h _ fun x hx=>by
  rcases List.mem_cons.mp hx with rfl | hx
  ·exact hC.1
  ·exact hC.2 x hx
theorem clean_ne{cd:Code}{id:String}{args:Args}(hc:cleanC (.builtin id args)=true):(∀ y∈holdIds,id≠y)∧Builtin.Bytes.decodersThatHold.contains id=false:=by
 have hid:holdIds.contains id=false:=Bool.not_inj (y:=false) hc
 have hn:∀ y∈holdIds,id≠y:=fun y hy e=>by
  subst e
  rw [List.contains_eq_mem,decide_eq_true hy] at hid
  cases hid
 refine ⟨hn,?_⟩
 rw [List.contains_eq_mem]
 exact decide_eq_false fun hm=>hn id (List.mem_append_right _ hm) rfl
theorem dif5{α:Type}{a b c d e:Prop}[Decidable a][Decidable b][Decidable c][Decidable d][Decidable e]{ta:a→α}{tb:b→α}{tc:c→α}{td:d→α}{te:e→α}{r:α}(h1:¬a)(h2:¬b)(h3:¬c)(h4:¬d)(h5:¬e) :
  (if h:a then ta h else if h:b then tb h else if h:c then tc h else if h:d then td h else if h:e then te h else r)=r:=by
 rw [dif_neg h1,dif_neg h2,dif_neg h3,dif_neg h4,dif_neg h5]
theorem n_exported{self:Value}{Q:Bool→Shared→Prop}(h:Q false s):wpN true M A (Builtin.Bytes.exported self) Q E s:=by
 unfold Builtin.Bytes.exported
 refine n_bind (n_stack fun st hst=>?_)
 refine n_pure ?_
 have e:∀ b,b=false→Q b s:=fun b hb=>by rw [hb];exact h
 refine e _ (List.any_eq_false.mpr fun x hx=>?_)
 have hc:=hst x hx
 obtain ⟨c,p⟩:=x
 cases c with
 | builtin id args =>
  refine c0_2 (clean_ne (cd:=.builtin id args) hc) fun hn hd=>?_
  have h1:=hn "bytearray.__contains__" (List.Mem.head _)
  have h2:=hn "bytearray.__mod__" (List.Mem.tail _ (List.Mem.head _))
  have h3:=hn "bytearray.__rmod__" (List.Mem.tail _ (List.Mem.tail _ (List.Mem.head _)))
  have h4:=hn "_struct.pack_into.held" (List.Mem.tail _ (List.Mem.tail _ (List.Mem.tail _ (List.Mem.head _))))
  have h5:=hn "bytearray.find.held" (List.Mem.tail _ (List.Mem.tail _ (List.Mem.tail _ (List.Mem.tail _ (List.Mem.head _)))))
  obtain ⟨pos,kw⟩:=args
  delta Builtin.Bytes.exported.match_1 Builtin.Bytes.exported._sparseCasesOn_1
  intro z
  replace z:=(dif5 h1 h2 h3 h4 h5).symm.trans z
  cases pos with
  | nil=>exact Bool.false_ne_true z
  | cons v r =>
   replace z:(Builtin.Bytes.sameRef v self && Builtin.Bytes.decodersThatHold.contains id)=true:=z
   rw [hd,Bool.and_false] at z
   exact Bool.false_ne_true z
 | _=>exact Bool.false_ne_true
end
end
section
open Sem (wp)
section
variable{α β:Type}{c:Bool}{prog:Program}{w:World}{M:Model}{A:Around}{E:Value→Shared→Prop}{s:Shared}{env:Env}
theorem n_then{m:Sem α}{f:α→Sem β}{Q:β→Shared→Prop}{P:α→Shared→Prop}(h:wpN c M A m P E s)(hf:∀ a s',P a s'→wpN c M A (f a) Q E s'):wpN c M A (m >>= f) Q E s:=n_bind (n_mono h hf fun _ _ x=>x)
theorem n_stand{f:Unit→Sem β}{pos:Pos}{Q:β→Shared→Prop}(h:wpN c M A (f ()) Q E s):wpN c M A (standAt pos >>= f) Q E s:=n_bind (n_standAt h)
theorem n_release{vs rs:List Value}{Q:Unit→Shared→Prop}(h:Q () s):wpN c M A (release vs rs) Q E s:=fun Γ p _ _=>by rw [Sem.wp_release];exact h
theorem n_bindName{x:Str}{v:Value}{Q:Unit→Shared→Prop}(h:wpN c M A (storeName env x v) Q E s):wpN c M A (bindName env x v) Q E s:=fun Γ p hΓ hC=>by rw [Sem.wp_bindName];exact h Γ p hΓ hC
theorem n_execs_nil{Q:Flow→Shared→Prop}(h:Q .next s):wpN c M A (execs [] env) Q E s:=n_up (wpAny_execs_nil h)
theorem n_execs_cons{st:Stmt}{rest:List Stmt}{Q:Flow→Shared→Prop}(h:wpN c M A (exec st env) (fun f s'=>match f with | .next=>wpN c M A (execs rest env) Q E s' | f=>Q f s') E s):wpN c M A (execs (st::rest) env) Q E s:=by
 rw [PySem.execs_cons]
 refine n_then h fun f s' h'=>?_
 cases f <;> first | exact h' | exact n_pure h'
theorem n_ret{e:Expr}{pos:Pos}{Q:Flow→Shared→Prop}(h:wpN c M A (eval e env) (fun v=>Q (.ret v)) E s):wpN c M A (exec (.Return (some e) pos) env) Q E s:=by
 rw [exec_Return_some]
 exact n_stand (n_then h fun _ _ h'=>n_pure h')
theorem n_ifte{test:Expr}{body orelse:List Stmt}{pos:Pos}{Q:Flow→Shared→Prop}(h:wpN c M A (isTrue test env (eval test env)) (fun b s'=>if b then wpN c M A (execs body env) Q E s' else wpN c M A (execs orelse env) Q E s') E s) :
  wpN c M A (exec (.If test body orelse pos) env) Q E s:=by
 rw [exec_If]
 refine n_stand (n_then h fun b s' h'=>?_)
 cases b <;> exact h'
theorem n_cmp{op:CmpOp}{l r:Expr}{pos:Pos}{Q:Value→Shared→Prop}(h:wpN c M A (eval l env) (fun a s₁=>wpN c M A (eval r env) (fun b s₂=>wpN c M A (compareOp op a b) Q E s₂) E s₁) E s)(hm:behindInMarks op r=false) :
  wpN c M A (eval (.Compare l [op] [r] pos) env) Q E s:=by
 rw [eval_Compare1,markedBehindIn_of_false hm]
 exact n_then h fun a s₁ h₁=>n_then (n_holding h₁) fun b s₂ h₂=>n_stand (n_operate h₂)
theorem n_testCmp{op:CmpOp}{l r:Expr}{pos:Pos}{whole:Sem Value}{Q:Bool→Shared→Prop}(h:wpN c M A (eval l env) (fun a s₁=>wpN c M A (eval r env) (fun b s₂=>wpN c M A (compareOp op a b) (fun d s₃=>wpN c M A (truthy d) Q E s₃) E s₂) E s₁) E s)
  (hm:behindInMarks op r=false):wpN c M A (isTrue (.Compare l [op] [r] pos) env whole) Q E s:=by
 rw [isTrue_Compare1,markedBehindIn_of_false hm]
 exact n_then h fun a s₁ h₁=>n_then (n_holding h₁) fun b s₂ h₂=>n_stand (n_then (n_operate h₂) fun d s₃ h₃=>n_holding h₃)
theorem n_testNot{x:Expr}{pos:Pos}{whole:Sem Value}{Q:Bool→Shared→Prop}(h:wpN c M A (isTrue x env (eval x env)) (fun d s'=>Q (!d) s') E s):wpN c M A (isTrue (.UnaryOp .Not x pos) env whole) Q E s:=by
 show wpN c M A (do return !(← isTrue x env (eval x env))) Q E s
 exact n_then h fun d s' h'=>n_pure h'
theorem n_bin{op:Operator}{l r:Expr}{pos:Pos}{Q:Value→Shared→Prop}(h:wpN c M A (eval l env) (fun a s₁=>wpN c M A (eval r env) (fun b s₂=>wpN c M A (binaryOp op a b) Q E s₂) E s₁) E s) :
  wpN c M A (eval (.BinOp l op r pos) env) Q E s:=by
 rw [eval_BinOp]
 exact n_then h fun a s₁ h₁=>n_then (n_holding h₁) fun b s₂ h₂=>n_stand (n_operate h₂)
theorem n_assign{x:Str}{pos' pos:Pos}{value:Expr}{Q:Flow→Shared→Prop}(h:wpN c M A (eval value env) (fun v s₁=>wpN c M A (storeName env x v) (fun _=>Q .next) E s₁) E s)
  (hs:swapsWith value (some (.Name x pos')) pos.line env=Pure.pure false):wpN c M A (exec (.Assign [.Name x pos'] value pos) env) Q E s:=by
 rw [exec_Assign_Name env x pos' value pos hs]
 exact n_stand (n_then h fun v s₁ h₁=>n_stand (n_then (n_bindName h₁) fun _ s₂ h₂=>n_pure h₂))
theorem n_assignAttr{o value:Expr}{attr:Str}{pos' pos:Pos}{Q:Flow→Shared→Prop}(h:wpN c M A (eval value env) (fun v s₁=>wpN c M A (eval o env) (fun ov s₂=>wpN c M A (setAttr ov attr v) (fun _=>Q .next) E s₂) E s₁) E s)
  (hs:swapsWith value (some (.Attribute o attr pos')) pos.line env=Pure.pure false):wpN c M A (exec (.Assign [.Attribute o attr pos'] value pos) env) Q E s:=by
 rw [plainObj_exec_Assign_Attribute o attr pos' value pos hs]
 refine n_stand (n_then h fun v s₁ h₁=>?_)
 rw [assign_Attribute]
 refine n_bind ?_
 refine n_then (n_holding h₁) fun ov s₂ h₂=>?_
 refine n_stand (n_then (n_holding h₂) fun _ s₃ h₃=>?_)
 exact n_release (n_pure h₃)
theorem n_assignSub{o i value:Expr}{pos' pos:Pos}{Q:Flow→Shared→Prop}
  (h:wpN c M A (eval value env) (fun v s₁=>wpN c M A (eval o env) (fun ov s₂=>wpN c M A (eval i env) (fun iv s₃=>wpN c M A (setItem ov iv v) (fun _=>Q .next) E s₃) E s₂) E s₁) E s)
  (hs:swapsWith value (some (.Subscript o i pos')) pos.line env=Pure.pure false):wpN c M A (exec (.Assign [.Subscript o i pos'] value pos) env) Q E s:=by
 rw [exec_Assign_Subscript o i pos' value pos hs]
 refine n_stand (n_then h fun v s₁ h₁=>?_)
 rw [assign_Subscript]
 refine n_bind ?_
 refine n_then (n_holding h₁) fun ov s₂ h₂=>n_then (n_holding h₂) fun iv s₃ h₃=>n_stand (n_then (n_holding h₃) fun _ s₄ h₄=>?_)
 exact n_release (n_pure h₄)
theorem n_assignTup{elts:List Expr}{k:Nat}{tpos pos:Pos}{value:Expr}{Q:Flow→Shared→Prop}(h:wpN c M A (eval value env) (fun v s₁=>wpN c M A (assign (.Tuple elts k tpos) env v) (fun _=>Q .next) E s₁) E s)
  (hs:swapsWithSole [.Tuple elts k tpos] value pos.line env=Pure.pure false) (hw:swappedStores [.Tuple elts k tpos] value env=Pure.pure none):wpN c M A (exec (.Assign [.Tuple elts k tpos] value pos) env) Q E s:=by
 rw [PyProof.Rows.exec_Assign]
 refine n_stand (n_step hs ?_)
 rw [if_neg (by decide)]
 refine n_then h fun v s₁ h₁=>?_
 refine n_step hw ?_
 show wpN c M A (do assignAll v [assign (.Tuple elts k tpos) env];pure .next) Q E s₁
 exact n_then h₁ fun _ _ x=>n_pure x
theorem n_expr{e:Expr}{pos:Pos}{Q:Flow→Shared→Prop}(h:wpN c (model prog w) A (eval e env) (fun _=>Q .next) E s)(hi:interactive env=false)(hs:swapsWith e none pos.line env=Pure.pure false) :
  wpN c (model prog w) A (exec (.Expr e pos) env) Q E s:=by
 rw [exec_Expr env e pos hi hs]
 exact n_stand (n_then h fun v s' h'=>n_up (wpAny_dropValue h'))
theorem n_augName{x:Str}{pos' pos:Pos}{op:Operator}{value:Expr}{Q:Flow→Shared→Prop}(h:wpN c M A (loadName env x) (fun old s₁=>wpN c M A (eval value env) (fun v s₂=>wpN c M A (inplaceOp op old v) (fun r s₃=>wpN c M A (storeName env x r) (fun _=>Q .next) E s₃) E s₂) E s₁) E s) :
  wpN c M A (exec (.AugAssign (.Name x pos') op value pos) env) Q E s:=by
 rw [exec_AugAssign_Name]
 exact n_stand (n_then h fun old s₁ h₁=>n_then (n_holding h₁) fun v s₂ h₂=>n_stand (n_then (n_operate h₂) fun r s₃ h₃=>n_stand (n_then (n_bindName h₃) fun _ _ x=>n_pure x)))
theorem n_augAttr{o value:Expr}{attr:Str}{tpos pos:Pos}{op:Operator}{Q:Flow→Shared→Prop}
  (h:wpN c M A (eval o env) (fun ov s₁=>wpN c M A (getAttr ov attr true) (fun old s₂=>wpN c M A (eval value env) (fun v s₃=>wpN c M A (inplaceOp op old v) (fun new s₄=>wpN c M A (setAttr ov attr new) (fun _=>Q .next) E s₄) E s₃) E s₂) E s₁) E s) :
  wpN c M A (exec (.AugAssign (.Attribute o attr tpos) op value pos) env) Q E s:=by
 have e:exec (.AugAssign (.Attribute o attr tpos) op value pos) env=(do
   standAt pos
   let ov ← eval o env
   let new ← holding [ov] do
    standAt tpos.atName
    let old ← getAttr ov attr true
    let v ← holding [old] (eval value env)
    standAt pos
    operate [old,v] (inplaceOp op old v)
   standAt tpos.atName
   holding [new,ov] (setAttr ov attr new)
   release [new,ov] []
   Pure.pure .next):=rfl
 rw [e]
 refine n_stand (n_then h fun ov s₁ h₁=>n_bind ?_)
 refine n_holding (n_stand (n_then h₁ fun old s₂ h₂=>n_then (n_holding h₂) fun v s₃ h₃=>n_stand (n_operate (n_mono h₃ (fun new s₄ h₄=>?_) fun _ _ x=>x))))
 refine n_stand (n_then (n_holding h₄) fun _ s₅ h₅=>?_)
 exact n_bind (n_release (n_pure h₅))
theorem n_attr{value:Expr}{attr:Str}{pos:Pos}{Q:Value→Shared→Prop}(h:wpN c (model prog w) A (eval value env) (fun o s₁=>wpN c (model prog w) A (getAttr o attr true) Q E s₁) E s)
  (he:eval (.Attribute value attr pos) env=(do let o ← eval value env;standAt pos.atName;let r ← holding [o] (getAttr o attr true);letTemporaryGo value o r;Pure.pure r)):wpN c (model prog w) A (eval (.Attribute value attr pos) env) Q E s:=by
 rw [he]
 exact n_then h fun o s₁ h₁=>n_stand (n_then (n_holding h₁) fun r s₂ h₂=>n_first (wpAny_letTemporaryGo (n_pure h₂)))
theorem n_sub{value slice:Expr}{pos:Pos}{Q:Value→Shared→Prop}(h:wpN c M A (eval value env) (fun o s₁=>wpN c M A (eval slice env) (fun i s₂=>wpN c M A (subscriptTail value slice o i) Q E s₂) E s₁) E s) :
  wpN c M A (eval (.Subscript value slice pos) env) Q E s:=by
 rw [eval_Subscript]
 exact n_then h fun o s₁ h₁=>n_then (n_holding h₁) fun i s₂ h₂=>n_stand h₂
theorem n_slice{lower upper step:Option Expr}{p:Pos}{Q:Value→Shared→Prop} (h:wpN c M A (evalPart lower env) (fun l s₁=>wpN c M A (evalPart upper env) (fun u s₂=>wpN c M A (evalPart step env) (fun st s₃ =>
   Q (.ref s₃.heap.objs.size) { s₃ with heap:=s₃.heap.push { cls:=.type "slice",data:=.fields #[l,u,st] } }) E s₂) E s₁) E s):wpN c M A (eval (.Slice lower upper step p) env) Q E s:=by
 rw [arm_eval_Slice]
 exact n_then h fun l s₁ h₁=>n_then (n_holding h₁) fun u s₂ h₂=>n_then (n_holding h₂) fun st s₃ h₃=>n_up (wpAny_newObj_type h₃)
theorem n_list{elts:List Expr}{pos:Pos}{Q:Value→Shared→Prop}(h:wpN c M A (spliced (backTo pos (starEach elts env))) (fun vs s₁=>vs.length≤sizeLine∧Q (.ref s₁.heap.objs.size) { s₁ with heap:=s₁.heap.push { cls:=.type "list",data:=.seq vs.toArray } }) E s) :
  wpN c M A (eval (.List elts pos) env) Q E s:=by
 rw [arm_eval_List]
 exact n_stand (n_then h fun vs s₁ h₁=>n_up (wpAny_newList h₁.2 h₁.1))
theorem n_tuple{elts:List Expr}{k:Nat}{pos:Pos}{Q:Value→Shared→Prop}(h:wpN c M A (spliced (backTo pos (starEach elts env))) (fun vs s₁=>vs.length≤sizeLine∧Q (.ref s₁.heap.objs.size) { s₁ with heap:=s₁.heap.push { cls:=.type "tuple",data:=.seq vs.toArray } }) E s) :
  wpN c M A (eval (.Tuple elts k pos) env) Q E s:=by
 rw [arm_eval_Tuple]
 exact n_stand (n_then h fun vs s₁ h₁=>n_up (wpAny_newTuple h₁.2 h₁.1))
theorem n_spliced_cons{x:Sem Value}{rest:List (Bool×Sem Value)}{Q:List Value→Shared→Prop}(h:wpN c M A x (fun v s₁=>wpN c M A (spliced rest) (fun vs s₂=>Q (v::vs) s₂) E s₁) E s):wpN c M A (spliced ((false,x)::rest)) Q E s:=by
 rw [spliced]
 refine n_then h fun v s₁ h₁=>?_
 simp only [Bool.false_eq_true,if_false]
 exact n_bind (n_pure (n_bind (n_holding (n_mono h₁ (fun vs s₂ h₂=>n_pure h₂) fun _ _ x=>x))))
theorem n_evalArgs_plain{f:Value}{x:Sem Value}{rest:List (Bool×Sem Value)}{Q:Args→Shared→Prop}(h:wpN c M A (spliced ((false,x)::rest)) (fun vs s'=>Q ⟨vs,[]⟩ s') E s):wpN c M A (evalArgs f true ((false,x)::rest) []) Q E s:=by
 unfold evalArgs
 show wpN c M A (spliced ((false,x)::rest) >>= _) Q E s
 exact n_then h fun vs s' h'=>n_holding (n_bind (n_pure (n_bind (n_pure (n_pure h')))))
theorem n_evalArgs_none{f:Value}{Q:Args→Shared→Prop}(h:wpN c M A (spliced []) (fun vs s'=>Q ⟨vs,[]⟩ s') E s):wpN c M A (evalArgs f true [] []) Q E s:=by
 unfold evalArgs
 show wpN c M A (spliced [] >>= _) Q E s
 exact n_then h fun vs s' h'=>n_holding (n_bind (n_pure (n_bind (n_pure (n_pure h')))))
theorem n_callWith{pos:Pos}{f:Value}{first:List Value}{P:Heap→Prop}{args:List (Bool×Sem Value)}{Q:Value→Shared→Prop}(hplain:args.any (·.1)=false)
  (hk:∀ h,P h→∃ k,(k=Keeper.frame∨k=Keeper.machine∨k=Keeper.boundFrame)∧Looks M h (keeperOf f) k)
  (h:wpN c M A (evalArgs f true args []) (fun a s₁=>P s₁.heap∧wpN c M A (call f (first++a.pos) a.kw) Q E s₁) E s):wpN c M A (callWith pos f first args []) Q E s:=by
 unfold callWith
 refine n_then (n_holding h) fun a s₁ h₁=>n_stand ?_
 refine c1_2 (hk _ h₁.1) fun k hk' L=>?_
 rw [show (args.any (·.1) || ([]:List (Option Str×Sem Value)).any (·.1.isNone))=false by rw [hplain];rfl]
 refine n_first (L.here ?_)
 have tail:∀ {t:Sem Value},wpN c M A t Q E s₁→wpN c M A (t >>= fun r=>holding [r] point >>= fun _=>Pure.pure r) Q E s₁ :=
  fun ht=>n_then ht fun r s₂ hr=>n_first (wpAny_holding (wpAny_point (n_pure hr)))
 have marked (mk:Value):wpN c M A (callMarked mk f (first++a.pos) a.kw) Q E s₁:=by unfold callMarked;exact n_keep h₁.2
 rcases hk' with rfl | rfl | rfl <;> dsimp only <;> first | exact tail h₁.2 | (split <;> first | exact tail h₁.2 | exact tail (marked _))
theorem n_callName{id:Str}{p pos:Pos}{args:List Expr}{Q:Value→Shared→Prop}(h:wpN c M A (eval (.Name id p) env) (fun f s₁=>wpN c M A (callWith pos f [] (backTo pos (starEach args env)) []) Q E s₁) E s) :
  wpN c M A (eval (.Call (.Name id p) args [] pos) env) Q E s:=by
 rw [arm_eval_Call_Name']
 exact n_bind h
theorem n_func{body:List Stmt}{R:Result→Shared→Prop} (h:wpN c (model prog w) (A.deeper env) (execs body env) (fun f s'=>R (.ok (.ret (match f with | .ret v=>v | _=>.none))) s')
   (fun e s'=>wpN c (model prog w) (A.deeper env) (leaving env e) (fun _ s''=>R (.error e) s'') (fun e' s''=>R (.error e') s'') s') s):codeN c (model prog w) A (.func body env) R s:=by
 refine codeN_of_tree rfl ?_
 show wpN c _ (A.deeper env) (do point;match ← (execs body env).onRaise (leaving env) with | .ret v=>ret v | _=>ret .none) _ _ s
 refine n_first (wpAny_point (n_bind (n_onRaise (n_mono h (fun f s' h'=>?_) fun _ _ h'=>h'))))
 cases f <;> exact n_pure h'
theorem n_callFunction{a:Addr}{args:Args}{o:Obj}{fd:FuncData}{body:List Stmt}{R:Result→Shared→Prop}(hroom:A.depth<recursionLimit)(ho:s.heap.get? a=some o)
  (hd':o.data=.func fd) (hco:fd.scope.isCoroutine=false) (hgen:fd.scope.isGenerator=false) (hbody:fd.body=.stmts body) (hcd:s.heap.CodeRec fd.code fd.qualname)
  (h:wpAny (model prog w) A.in1 (bindArgs fd args) (fun binds s₁ =>
   wpAny (model prog w) A.in1 (newFunctionEnv fd.scope fd.globals fd.closure binds (fd.qualname++".<locals>.") (some a) fd.code none fd.builtins)
    (fun env s₂=>s₂.heap.NoLimit∧codeN c (model prog w) A (.func body env) R s₂) (fun e s'=>R (.error e) s') s₁) (fun e s'=>R (.error e) s') s) :
  codeN c (model prog w) A (.call (.ref a) args) R s:=by
 refine codeN_of_tree rfl ?_
 show wpN c _ A.in1 (callAny (.ref a) args) _ _ s
 unfold callAny
 refine n_first (m:=load a) (wpAny_load ho ?_)
 refine c4_4 hcd fun cc oc vs tq hc hoc hdc hq=>?_
 rw [hd']
 show wpN c _ A.in1 (callFunction a fd args) _ _ s
 unfold callFunction
 rw [hco,hgen,hbody,hc]
 rw [hc] at h
 refine n_first (m:=field (.ref cc) 1) (wpAny_field hoc hdc hq ?_)
 refine n_bind (n_pure (n_up ?_))
 exact wpAny_bind (wpAny_mono h (fun binds s₁ h₁=>wpAny_bind (wpAny_mono h₁ (fun env s₂ h₂=>wpAny_bind (wpAny_enterFrame h₂.1 hroom (wpAny_pure (And.intro rfl h₂.2)))) fun _ _ h'=>h')) fun _ _ h'=>h')
theorem n_callDef{R:Result→Shared→Prop}{a:Addr}{o:Obj}{fd:FuncData}{body:List Stmt}{args:Args}{binds:List (Str×Value)}
  (hroom:A.depth<recursionLimit) (ho:s.heap.get? a=some o) (hdata:o.data=.func fd) (hlim:s.heap.NoLimit) (hcd:s.heap.CodeRec fd.code fd.qualname)
  (hbody:fd.body=.stmts body) (hbind:BindsTo s fd args binds)
  (hcell:∀ x∈fd.scope.names,x.2≠.cell) (hloc:∀ x∈binds,fd.scope.names.lookup x.1=some .local)
  (h:∀ h₀,h₀.Ns s.heap.objs.size (fun x=>binds.reverse.lookup x)→(∀ b o,s.heap.get? b=some o→h₀.get? b=some o) →
   wpN c (model prog w) (A.deeper (callEnv fd s.heap.objs.size a)) (execs body (callEnv fd s.heap.objs.size a)) (fun f s'=>R (.ok (.ret (match f with | .ret v=>v | _=>.none))) s')
    (fun e s'=>wpN c (model prog w) (A.deeper (callEnv fd s.heap.objs.size a)) (leaving (callEnv fd s.heap.objs.size a) e) (fun _ s''=>R (.error e) s'') (fun e' s''=>R (.error e') s'') s')
    { s with heap:=h₀,toks:=s.toks+binds.length })
  (hco:fd.scope.isCoroutine=false) (hgen:fd.scope.isGenerator=false) (hk:fd.scope.kind=.function):codeN c (model prog w) A (.call (.ref a) args) R s:=by
 refine n_callFunction hroom ho hdata hco hgen hbody hcd (hbind _ _ _ _ ?_)
 refine wpAny_newFunctionEnv hcell hloc (fun h₀ hns₀ hsb₀=>⟨hlim.fresh _ hsb₀,n_func (h h₀ hns₀ fun b o e=>?_)⟩) hk
 exact hsb₀.extBut b o (Nat.ne_of_lt (Heap.lt_size e)) (Heap.get?_push_of_some _ e)
end
end
section
noncomputable abbrev Fg(w:World):Frag:=Kf w.params
inductive DA where
 | disk | nm (g:Nat) | kn (g:Nat) | pr (g:Nat) | jr (g:Nat) | node (k:Nat) | nbuf (k:Nat) | file (k:Nat)
inductive MA where
 | d (i:Nat) (a:DA) | x (k:Nat) | l (k:Nat)
inductive MV where
 | none | bool (b:Bool) | int (i:Int) | str (s:Str) | bytes (b:Array UInt8) | ref (a:MA) | top (v:Value)
inductive MO where
 | inst (C:Addr) (fs:List (String×MV))
 | list (vs:List MV) | tup (vs:List MV)
 | dictS (kvs:List (Str×MV)) | dictI (kvs:List (Int×MV))
 | barr (b:Array UInt8)
 | range (n:Int)
 | dead
noncomputable abbrev Hp:=MA→Option MO
noncomputable abbrev Mu:=MA→Option (Addr×Addr)
noncomputable abbrev Loc:=List (String×MV)
theorem nos{α:Type}{a:α}{P:Prop}(h:none=some a):P:=by cases h
theorem sno{α:Type}{a:α}{P:Prop}(h:some a=none):P:=by cases h
open Classical in
noncomputable def upd(σ:Hp)(a:MA)(o:MO):Hp:=fun b=>if b=a then some o else σ b
open Classical in
noncomputable def updμ(μ:Mu)(a:MA)(p:Addr×Addr):Mu:=fun b=>if b=a then some p else μ b
theorem upd_self(σ:Hp)(a:MA)(o:MO):upd σ a o a=some o:=if_pos rfl
theorem upd_ne(σ:Hp){a b:MA}(o:MO)(h:b≠a):upd σ a o b=σ b:=if_neg h
theorem updμ_self(μ:Mu)(a:MA)(p):updμ μ a p a=some p:=if_pos rfl
theorem updμ_ne(μ:Mu){a b:MA}(p)(h:b≠a):updμ μ a p b=μ b:=if_neg h
theorem upd_all{σ:Hp}{a:MA}{o:MO}{P:MA→MO→Prop}(h1:P a o)(h2:∀ b p,b≠a→σ b=some p→P b p)(b:MA)(p:MO)(e:upd σ a o b=some p):P b p:=by
 by_cases h:b=a
 ·rw [h,upd_self] at e;rw [h,← Option.some.inj e];exact h1
 ·exact h2 b p h ((upd_ne σ o h).symm.trans e)
theorem updμ_all{μ:Mu}{a:MA}{x d:Addr}{P:MA→Addr→Addr→Prop}(h1:P a x d)(h2:∀ b y e,b≠a→μ b=some (y,e)→P b y e)(b:MA)(y e:Addr)(q:updμ μ a (x,d) b=some (y,e)):P b y e:=by
 by_cases h:b=a
 ·rw [h,updμ_self] at q;cases q;rw [h];exact h1
 ·exact h2 b y e h ((updμ_ne μ _ h).symm.trans q)
noncomputable def Ext(μ μ':Mu):Prop:=∀ a p,μ a=some p→μ' a=some p
theorem Ext.refl(μ:Mu):Ext μ μ:=fun _ _ h=>h
theorem Ext.trans{μ μ' μ'':Mu}(x:Ext μ μ')(y:Ext μ' μ''):Ext μ μ'':=fun a p h=>y a p (x a p h)
theorem Ext.upd{μ:Mu}{a:MA}{p}(h:μ a=none):Ext μ (updμ μ a p):=fun b q e=>by
 by_cases hb:b=a
 ·subst hb;rw [h] at e;cases e
 ·rw [updμ_ne _ _ hb];exact e
noncomputable def VR(μ:Mu):MV→Value→Prop
 | .none,v=>v=.none
 | .bool b,v=>v=.bool b
 | .int i,v=>∃ t,v=.int i t
 | .str s,v=>∃ t,v=.str s t
 | .bytes b,v=>∃ t,v=.bytes b t
 | .ref a,v=>∃ x d,μ a=some (x,d)∧v=.ref x
 | .top u,v=>v=u
theorem VR.mono{μ μ':Mu}(e:Ext μ μ'){v:MV}{V:Value}(h:VR μ v V):VR μ' v V:=by
 cases v <;> first | exact h | (obtain ⟨x,d,h1,h2⟩:=h;exact ⟨x,d,e _ _ h1,h2⟩)
section
variable{α β:Type}
noncomputable def All2(P:α→β→Prop):List α→List β→Prop
 | [],[]=>True
 | a::as,b::bs=>P a b∧All2 P as bs
 | _,_=>False
variable{P:α→β→Prop}{as as':List α}{bs bs':List β}
theorem All2.ind{M:List α→List β→Prop}(h:All2 P as bs)(h0:M [] [])(h1:∀ {a b as bs},P a b→All2 P as bs→M as bs→M (a::as) (b::bs)):M as bs:=by
 induction as generalizing bs with
 | nil=>cases bs with
  | nil=>exact h0
  | cons=>exact h.elim
 | cons a as ih=>cases bs with
  | nil=>exact h.elim
  | cons b bs=>exact h1 h.1 h.2 (ih h.2)
theorem All2.imp{Q:α→β→Prop}(f:∀ a b,P a b→Q a b)(h:All2 P as bs):All2 Q as bs:=h.ind (M:=All2 Q) trivial fun r _ i=>⟨f _ _ r,i⟩
theorem All2.length(h:All2 P as bs):bs.length=as.length:=h.ind (M:=fun as bs=>bs.length=as.length) rfl fun _ _ i=>congrArg (·+ 1) i
theorem All2.append(h:All2 P as bs)(h':All2 P as' bs'):All2 P (as++as') (bs++bs'):=h.ind (M:=fun as bs=>All2 P (as++as') (bs++bs')) h' fun r _ i=>⟨r,i⟩
theorem All2.get(h:All2 P as bs){i:Nat}{a:α}(e:as[i]?=some a):∃ b,bs[i]?=some b∧P a b:=by
 refine h.ind (M:=fun as bs=>∀ i:Nat,as[i]?=some a→∃ b,bs[i]?=some b∧P a b) nofun (fun r _ ih i e=>?_) i e
 cases i with
 | zero=>exact ⟨_,rfl,Option.some.inj e▸r⟩
 | succ i=>exact ih i e
theorem All2.flip(h:All2 P as bs):All2 (fun b a=>P a b) bs as:=h.ind (M:=fun as bs=>All2 (fun b a=>P a b) bs as) trivial fun r _ i=>⟨r,i⟩
theorem All2.take(h:All2 P as bs)(i:Nat):All2 P (as.take i) (bs.take i):=by
 refine h.ind (M:=fun as bs=>∀ i:Nat,All2 P (as.take i) (bs.take i)) (fun i=>?_) (fun r _ ih i=>?_) i
 ·cases i <;> exact trivial
 ·cases i with
  | zero=>exact trivial
  | succ i=>exact ⟨r,ih i⟩
theorem All2.drop(h:All2 P as bs)(i:Nat):All2 P (as.drop i) (bs.drop i):=by
 refine h.ind (M:=fun as bs=>∀ i:Nat,All2 P (as.drop i) (bs.drop i)) (fun i=>?_) (fun r k ih i=>?_) i
 ·cases i <;> exact trivial
 ·cases i with
  | zero=>exact ⟨r,k⟩
  | succ i=>exact ih i
theorem All2.set(h:All2 P as bs)(i:Nat){a:α}{b:β}(r':P a b):All2 P (as.set i a) (bs.set i b):=by
 refine h.ind (M:=fun as bs=>∀ i:Nat,All2 P (as.set i a) (bs.set i b)) (fun i=>?_) (fun r k ih i=>?_) i
 ·exact trivial
 ·cases i with
  | zero=>exact ⟨r',k⟩
  | succ i=>exact ⟨r,ih i⟩
theorem All2.map{γ δ:Type}{Q:γ→δ→Prop}{f:α→γ}{g:β→δ}(hf:∀ a b,P a b→Q (f a) (g b))(h:All2 P as bs):All2 Q (as.map f) (bs.map g):=h.ind (M:=fun as bs=>All2 Q (as.map f) (bs.map g)) trivial fun r _ i=>⟨hf _ _ r,i⟩
theorem All2.eq{γ:Type}{f:α→γ}{g:β→γ}(hf:∀ a b,P a b→f a=g b)(h:All2 P as bs):bs.map g=as.map f:=h.ind (M:=fun as bs=>bs.map g=as.map f) rfl fun r _ i=>congr (congrArg List.cons (hf _ _ r).symm) i
theorem All2.any{f:α→Bool}{g:β→Bool}(hf:∀ a b,P a b→f a=g b)(h:All2 P as bs):bs.any g=as.any f:=h.ind (M:=fun as bs=>bs.any g=as.any f) rfl fun {a b as bs} r _ i=>by
 show (g b || bs.any g)=(f a || as.any f);rw [i,hf _ _ r]
theorem All2.find{f:α→Bool}{g:β→Bool}(hf:∀ a b,P a b→f a=g b)(h:All2 P as bs){a:α}:as.find? f=some a→∃ b,bs.find? g=some b∧P a b:=h.ind (M:=fun as bs=>as.find? f=some a→∃ b,bs.find? g=some b∧P a b) nofun fun {x y as bs} r _ ih e=>by
 rw [List.find?_cons] at e ⊢;rw [← hf _ _ r]
 cases q:f x with
 | true=>rw [q] at e;exact ⟨y,rfl,Option.some.inj e▸r⟩
 | false=>rw [q] at e;exact ih e
theorem All2.filter{f:α→Bool}{g:β→Bool}(hf:∀ a b,P a b→f a=g b)(h:All2 P as bs):All2 P (as.filter f) (bs.filter g):=h.ind (M:=fun as bs=>All2 P (as.filter f) (bs.filter g)) trivial fun {x y as bs} r _ ih=>by
 rw [List.filter_cons,List.filter_cons,← hf _ _ r]
 cases f x with
 | true=>exact ⟨r,ih⟩
 | false=>exact ih
end
noncomputable def VRs(μ:Mu):List MV→List Value→Prop:=All2 (VR μ)
theorem VRs.mono{μ μ':Mu}(e:Ext μ μ'){vs:List MV}{Vs:List Value}(h:VRs μ vs Vs):VRs μ' vs Vs:=All2.imp (fun _ _ r=>r.mono e) h
theorem VRs.inv{μ:Mu}{v:MV}{vs:List MV}{Vs:List Value}(h:VRs μ (v::vs) Vs):∃ V Ws,Vs=V::Ws∧VR μ v V∧VRs μ vs Ws:=by
 cases Vs with
 | nil=>exact h.elim
 | cons V Ws=>exact ⟨V,Ws,rfl,h.1,h.2⟩
theorem VRs.none{μ:Mu}{Vs:List Value}(h:VRs μ [] Vs):Vs=[]:=by
 cases Vs with
 | nil=>rfl
 | cons V Ws=>exact h.elim
theorem VRs.one{μ:Mu}{v:MV}{Vs:List Value}(h:VRs μ [v] Vs):∃ V,Vs=[V]∧VR μ v V:=by
 obtain ⟨V,Ws,rfl,a,b⟩:=VRs.inv h
 exact ⟨V,by rw [VRs.none b],a⟩
theorem VRs.two{μ:Mu}{v u:MV}{Vs:List Value}(h:VRs μ [v,u] Vs):∃ V U,Vs=[V,U]∧VR μ v V∧VR μ u U:=by
 obtain ⟨V,Ws,rfl,a,b⟩:=VRs.inv h
 obtain ⟨U,rfl,hu⟩:=VRs.one b
 exact ⟨V,U,rfl,a,hu⟩
theorem VRs.get'{μ:Mu}{vs:List MV}{Vs:List Value}(h:VRs μ vs Vs){i:Nat}{V:Value}(e:Vs[i]?=some V):∃ v,vs[i]?=some v∧VR μ v V:=All2.get (All2.flip h) e
noncomputable def KVR{K:Type}(μ:Mu):List (K×MV)→List (K×Value)→Prop:=All2 fun p q=>p.1=q.1∧VR μ p.2 q.2
theorem KVR.mono{K:Type}{μ μ':Mu}(e:Ext μ μ'){vs:List (K×MV)}{Vs:List (K×Value)}(h:KVR μ vs Vs):KVR μ' vs Vs:=All2.imp (fun _ _ r=>⟨r.1,r.2.mono e⟩) h
theorem KVR.keys{K:Type}{μ:Mu}{vs:List (K×MV)}{Vs:List (K×Value)}(h:KVR μ vs Vs):Vs.map (·.1)=vs.map (·.1):=All2.eq (fun _ _ r=>r.1) h
noncomputable def FR(μ:Mu):List (String×MV)→List DictEntry→Prop:=All2 fun p e=>(∃ t,e.key=.str (Str.ofString p.1) t)∧VR μ p.2 e.val
theorem FR.mono{μ μ':Mu}(e:Ext μ μ'){fs:List (String×MV)}{es:List DictEntry}(h:FR μ fs es):FR μ' fs es:=All2.imp (fun _ _ r=>⟨r.1,r.2.mono e⟩) h
structure Cx where
 w:World
 base:Heap
 mg:Str→Option Value
 mb:Str→Option Value
 os:OsState
structure Cx.Ok(X:Cx):Prop where
 inK:(Fg X.w).In X.base
 top:TopRead progV looseV X.mg X.mb X.base
noncomputable abbrev listO(Vs:List Value)(n:Nat):Obj:={ cls:=.type "list",data:=.seq Vs.toArray n }
noncomputable abbrev tupO(Vs:List Value)(n:Nat):Obj:={ cls:=.type "tuple",data:=.seq Vs.toArray n }
noncomputable abbrev barrObj(b:Array UInt8):Obj:={ cls:=.type "bytearray",data:=.bytearray b }
noncomputable def ORep(X:Cx)(μ:Mu)(o:MO)(x d:Addr)(h:Heap):Prop :=
 match o with
 | .inst C fs=>∃ es n,h.get? x=some (instObj C d)∧h.get? d=some (dictOf es n)∧FR μ fs es
 | .list vs=>∃ Vs n,h.get? x=some (listO Vs n)∧VRs μ vs Vs
 | .tup vs=>∃ Vs n,h.get? x=some (tupO Vs n)∧VRs μ vs Vs
 | .dictS kvs=>∃ KVs,h.DictOf (strKind prog X.w) x KVs∧KVR μ kvs KVs
 | .dictI kvs=>∃ KVs,h.DictOf (intKind prog X.w) x KVs∧KVR μ kvs KVs
 | .barr b=>h.get? x=some (barrObj b)
 | .range n=>∃ t u v,h.get? x=some { cls:=.type "range",data:=.fields #[.int 0 t,.int n u,.int 1 v] }
 | .dead=>True
theorem dictOf_keep{prog:Program}{w:World}{K:Type}[DecidableEq K]{knd:KeyKind prog w K}{h h':Heap}{a:Addr}{kvs:List (K×Value)}(hk:∀ o,h.get? a=some o→h'.get? a=some o)(x:h.DictOf knd a kvs):h'.DictOf knd a kvs :=
 c3_2 x fun o es ep ho r=>⟨o,es,ep,hk _ ho,r⟩
theorem ORep.mono{X:Cx}{μ μ':Mu}{o:MO}{x d:Addr}{h h':Heap}(e:Ext μ μ')(hx:∀ o,h.get? x=some o→h'.get? x=some o)(hd:∀ o,h.get? d=some o→h'.get? d=some o)
  (r:ORep X μ o x d h):ORep X μ' o x d h':=by
 cases o with
 | inst C fs=>obtain ⟨es,n,a,b,c⟩:=r;exact ⟨es,n,hx _ a,hd _ b,c.mono e⟩
 | list vs=>obtain ⟨Vs,n,a,b⟩:=r;exact ⟨Vs,n,hx _ a,b.mono e⟩
 | tup vs=>obtain ⟨Vs,n,a,b⟩:=r;exact ⟨Vs,n,hx _ a,b.mono e⟩
 | dictS kvs=>obtain ⟨KVs,a,b⟩:=r;exact ⟨KVs,dictOf_keep hx a,b.mono e⟩
 | dictI kvs=>obtain ⟨KVs,a,b⟩:=r;exact ⟨KVs,dictOf_keep hx a,b.mono e⟩
 | barr b=>exact hx _ r
 | range n=>obtain ⟨t,u,v,r⟩:=r;exact ⟨t,u,v,hx _ r⟩
 | dead=>trivial
noncomputable abbrev FrRec:=Addr×Array DictEntry×Nat
noncomputable def FrAt(h:Heap)(p:FrRec):Prop:=∃ o,h.get? p.1=some o∧o.data=.dict p.2.1 p.2.2
theorem FrAt.keep{h h':Heap}{p:FrRec}(hk:∀ o,h.get? p.1=some o→h'.get? p.1=some o)(x:FrAt h p):FrAt h' p:=let ⟨o,a,b⟩:=x;⟨o,hk _ a,b⟩
structure HSt(X:Cx)(μ:Mu)(σ:Hp)(it:List (Addr×Obj))(fr:List FrRec)(s:Shared):Prop where
 ok:X.Ok
 stays:∀ b o,X.base.get? b=some o→s.heap.get? b=some o
 gens:s.gens=#[]
 os:s.os=X.os
 its:∀ p∈it,s.heap.get? p.1=some p.2∧X.base.get? p.1=none
 frs:∀ p∈fr,FrAt s.heap p∧X.base.get? p.1=none
 nd:(it.map (·.1)++fr.map (·.1)).Nodup
 dom:∀ a o,σ a=some o→∃ x d,μ a=some (x,d)∧ORep X μ o x d s.heap
 mud:∀ a,σ a=none→μ a=none
 inj:∀ a b x d y e,μ a=some (x,d)→μ b=some (y,e)→a≠b→x≠y∧x≠e∧d≠y∧d≠e
 mub:∀ a x d,μ a=some (x,d)→X.base.get? x=none∧X.base.get? d=none∧(∃ o,s.heap.get? x=some o)∧∃ o,s.heap.get? d=some o
 sep:∀ a x d,μ a=some (x,d)→∀ b∈it.map (·.1)++fr.map (·.1),b≠x∧b≠d
 big:∀ a x d,μ a=some (x,d)→Nat.lt 3 x∧Nat.lt 3 d
section
variable{X:Cx}{μ μ':Mu}{σ σ':Hp}{it:List (Addr×Obj)}{fr:List FrRec}{s s':Shared}
theorem HSt.grow(H:HSt X μ σ it fr s)(hk:∀ b o,s.heap.get? b=some o→s'.heap.get? b=some o)(hg:s'.gens=s.gens)(ho:s'.os=s.os):HSt X μ σ it fr s' where
 ok:=H.ok
 stays b o e:=hk _ _ (H.stays b o e)
 gens:=hg.trans H.gens
 os:=ho.trans H.os
 its p hp:=⟨hk _ _ (H.its p hp).1,(H.its p hp).2⟩
 frs p hp:=⟨(H.frs p hp).1.keep (fun o=>hk _ o),(H.frs p hp).2⟩
 nd:=H.nd
 dom a o e:=let ⟨x,d,h1,h2⟩:=H.dom a o e;⟨x,d,h1,h2.mono (.refl _) (fun o=>hk _ o) fun o=>hk _ o⟩
 mud:=H.mud
 inj:=H.inj
 mub a x d e:=let ⟨h1,h2,⟨o,h3⟩,⟨o',h4⟩⟩:=H.mub a x d e;⟨h1,h2,⟨o,hk _ _ h3⟩,⟨o',hk _ _ h4⟩⟩
 sep:=H.sep
 big:=H.big
theorem HSt.toks(H:HSt X μ σ it fr s){t:Nat}:HSt X μ σ it fr { s with toks:=t }:=H.grow (fun _ _ e=>e) rfl rfl
theorem nodup_mid{l l':List Addr}{a:Addr}:(l++a::l').Nodup↔(a::(l++l')).Nodup:=List.perm_middle.nodup_iff
theorem HSt.alloc'(H:HSt X μ σ it fr s){a:MA}{o:MO}{x d:Addr}(ha:σ a=none)(hk:∀ b o,s.heap.get? b=some o→s'.heap.get? b=some o)
  (hg:s'.gens=s.gens) (ho:s'.os=s.os) (hx:s.heap.get? x=none) (hd:s.heap.get? d=none) (hx3:Nat.lt 3 x) (hd3:Nat.lt 3 d) (hx':∃ o,s'.heap.get? x=some o) (hd':∃ o,s'.heap.get? d=some o)
  (r:ORep X (updμ μ a (x,d)) o x d s'.heap):HSt X (updμ μ a (x,d)) (upd σ a o) it fr s':=by
 have hμ:μ a=none:=H.mud a ha
 have ex:Ext μ (updμ μ a (x,d)):=.upd hμ
 have G:=H.grow hk hg ho
 have fresh:∀ y,s.heap.get? y=none→X.base.get? y=none:=fun y hy=>by
  cases e:X.base.get? y with
  | none=>rfl
  | some o=>rw [H.stays _ _ e] at hy;cases hy
 have ne:∀ {y z:Addr},(∃ o,s.heap.get? y=some o)→s.heap.get? z=none→z≠y:=fun ⟨o,e⟩ hz h=>by subst h;rw [e] at hz;cases hz
 have low:∀ b∈it.map (·.1)++fr.map (·.1),∃ o,s.heap.get? b=some o:=fun b hb=>by
  rcases List.mem_append.mp hb with hb | hb
  ·obtain ⟨p,hp,rfl⟩:=List.mem_map.mp hb;exact ⟨_,(H.its p hp).1⟩
  ·obtain ⟨p,hp,rfl⟩:=List.mem_map.mp hb;obtain ⟨⟨o,e,_⟩,_⟩:=H.frs p hp;exact ⟨o,e⟩
 refine ⟨H.ok,G.stays,G.gens,G.os,G.its,G.frs,G.nd,?_,?_,?_,?_,?_,?_⟩
 ·exact upd_all ⟨x,d,updμ_self ..,r⟩ fun b ob hb e=>c2_2 (G.dom b ob e) fun y e h1 h2=>⟨y,e,ex _ _ h1,h2.mono ex (fun _ h=>h) fun _ h=>h⟩
 ·intro b hb
  by_cases hba:b=a
  ·rw [hba,upd_self] at hb;exact sno hb
  ·rw [updμ_ne _ _ hba];exact H.mud b ((upd_ne σ o hba).symm.trans hb)
 ·intro b c y e z f hb hc
  refine updμ_all (P:=fun b y e=>∀ c z f,updμ μ a (x,d) c=some (z,f)→b≠c→y≠z∧y≠f∧e≠z∧e≠f) ?_ (fun b y e hba hb=>?_) b y e hb c z f hc
  ·intro c z f hc hne
   have l:=H.mub c z f ((updμ_ne μ _ hne.symm).symm.trans hc)
   exact ⟨ne l.2.2.1 hx,ne l.2.2.2 hx,ne l.2.2.1 hd,ne l.2.2.2 hd⟩
  ·have l:=H.mub b y e hb
   exact updμ_all (fun _=>⟨(ne l.2.2.1 hx).symm,(ne l.2.2.1 hd).symm,(ne l.2.2.2 hx).symm,(ne l.2.2.2 hd).symm⟩) fun c z f _ hc hne=>H.inj b c y e z f hb hc hne
 ·exact updμ_all ⟨fresh _ hx,fresh _ hd,hx',hd'⟩ fun b y e _ hb=>G.mub b y e hb
 ·exact updμ_all (fun c hc=>⟨(ne (low c hc) hx).symm,(ne (low c hc) hd).symm⟩) fun b y e _ hb=>H.sep b y e hb
 ·exact updμ_all ⟨hx3,hd3⟩ fun b y e _ hb=>H.big b y e hb
theorem HSt.three(H:HSt X μ σ it fr s):Nat.lt 3 s.heap.objs.size:=by
 obtain ⟨og,_,_,hg3,_⟩:=H.ok.top.g
 exact Heap.lt_size (H.stays _ _ hg3)
theorem none_of_le{h:Heap}{x:Addr}(hx:h.objs.size≤x):h.get? x=none:=by
 cases e:h.get? x with
 | none=>rfl
 | some o=>exact absurd (Heap.lt_size e) (Nat.not_lt.mpr hx)
theorem HSt.alloc(H:HSt X μ σ it fr s){a:MA}{o:MO}{x d:Addr}(ha:σ a=none)(hk:∀ b o,s.heap.get? b=some o→s'.heap.get? b=some o)
  (hg:s'.gens=s.gens) (ho:s'.os=s.os) (hx:s.heap.objs.size≤x) (hd:s.heap.objs.size≤d) (hx':∃ o,s'.heap.get? x=some o) (hd':∃ o,s'.heap.get? d=some o)
  (r:ORep X (updμ μ a (x,d)) o x d s'.heap):HSt X (updμ μ a (x,d)) (upd σ a o) it fr s' :=
 H.alloc' ha hk hg ho (none_of_le hx) (none_of_le hd) (Nat.lt_of_lt_of_le H.three hx) (Nat.lt_of_lt_of_le H.three hd) hx' hd' r
theorem HSt.change(H:HSt X μ σ it fr s){a:MA}{o o':MO}{x d:Addr}(_ha:σ a=some o)(hm:μ a=some (x,d))(hk:∀ b o,b≠x→b≠d→s.heap.get? b=some o→s'.heap.get? b=some o)
  (hg:s'.gens=s.gens) (ho:s'.os=s.os) (r:ORep X μ o' x d s'.heap) (hx:∃ o,s'.heap.get? x=some o) (hd:∃ o,s'.heap.get? d=some o):HSt X μ (upd σ a o') it fr s':=by
 have nb:=H.mub a x d hm
 have kb:∀ b o,X.base.get? b=some o→s'.heap.get? b=some o:=fun b o e=>hk b o (fun z=>nos (nb.1.symm.trans ((congrArg X.base.get? z).symm.trans e))) (fun z=>nos (nb.2.1.symm.trans ((congrArg X.base.get? z).symm.trans e))) (H.stays b o e)
 have ks:∀ b∈it.map (·.1)++fr.map (·.1),∀ o,s.heap.get? b=some o→s'.heap.get? b=some o:=fun b hb o e=>hk b o (H.sep a x d hm b hb).1 (H.sep a x d hm b hb).2 e
 refine ⟨H.ok,kb,hg.trans H.gens,ho.trans H.os,fun p hp=>⟨ks _ (List.mem_append_left _ (List.mem_map_of_mem hp)) _ (H.its p hp).1,(H.its p hp).2⟩,fun p hp=>⟨(H.frs p hp).1.keep (ks _ (List.mem_append_right _ (List.mem_map_of_mem hp))),(H.frs p hp).2⟩,H.nd,?_,?_,H.inj,?_,H.sep,H.big⟩
 ·exact upd_all ⟨x,d,hm,r⟩ fun b ob hba hb=>c2_2 (H.dom b ob hb) fun y e h1 h2=>by
   have n:=H.inj a b x d y e hm h1 (Ne.symm hba)
   exact ⟨y,e,h1,h2.mono (.refl _) (fun o=>hk y o n.1.symm n.2.2.1.symm) fun o=>hk e o n.2.1.symm n.2.2.2.symm⟩
 ·intro b hb
  by_cases hba:b=a
  ·rw [hba,upd_self] at hb;exact sno hb
  ·exact H.mud b ((upd_ne σ o' hba).symm.trans hb)
 ·intro b y e hb
  have l:=H.mub b y e hb
  have kx:∀ z o,s.heap.get? z=some o→∃ o,s'.heap.get? z=some o:=fun z o e=>by
   by_cases q1:z=x
   ·rw [q1];exact hx
   ·by_cases q2:z=d
    ·rw [q2];exact hd
    ·exact ⟨o,hk z o q1 q2 e⟩
  exact ⟨l.1,l.2.1,l.2.2.1.elim (kx _),l.2.2.2.elim (kx _)⟩
theorem HSt.weaken(H:HSt X μ σ it fr s)(h1:∀ a o,σ' a=some o→o=.dead∨σ a=some o)(h2:∀ a,σ' a=none→σ a=none)(h3:∀ a,σ' a≠none→σ a≠none):HSt X μ σ' it fr s where
 ok:=H.ok
 stays:=H.stays
 gens:=H.gens
 os:=H.os
 its:=H.its
 frs:=H.frs
 nd:=H.nd
 dom a o e:=by
  cases q:σ a with
  | none=>exact absurd q (h3 a (by rw [e];exact fun z=>by cases z))
  | some o' =>
   obtain ⟨x,d,m,r⟩:=H.dom a o' q
   rcases h1 a o e with rfl | h1
   ·exact ⟨x,d,m,trivial⟩
   ·rw [h1] at q;cases q;exact ⟨x,d,m,r⟩
 mud a e:=H.mud a (h2 a e)
 inj:=H.inj
 mub:=H.mub
 sep:=H.sep
 big:=H.big
theorem HSt.low(H:HSt X μ σ it fr s):∀ b∈it.map (·.1)++fr.map (·.1),b<s.heap.objs.size:=fun b hb=>by
 rcases List.mem_append.mp hb with hb | hb
 ·obtain ⟨p,hp,rfl⟩:=List.mem_map.mp hb;exact Heap.lt_size (H.its p hp).1
 ·obtain ⟨p,hp,rfl⟩:=List.mem_map.mp hb;obtain ⟨⟨o,e,_⟩,_⟩:=H.frs p hp;exact Heap.lt_size e
theorem HSt.fresh(H:HSt X μ σ it fr s){y:Addr}(hy:s.heap.objs.size≤y):X.base.get? y=none:=by
 cases e:X.base.get? y with
 | none=>rfl
 | some o=>exact absurd (Heap.lt_size (H.stays _ _ e)) (Nat.not_lt.mpr hy)
theorem HSt.frame(H:HSt X μ σ it fr s){p:FrRec}(hk:∀ b o,s.heap.get? b=some o→s'.heap.get? b=some o)(hg:s'.gens=s.gens)(ho:s'.os=s.os)
  (hp:s.heap.objs.size≤p.1) (hf:FrAt s'.heap p):HSt X μ σ it (p::fr) s':=by
 have G:=H.grow hk hg ho
 have ln:∀ b∈it.map (·.1)++fr.map (·.1),b≠p.1:=fun b hb=>Nat.ne_of_lt (Nat.lt_of_lt_of_le (H.low b hb) hp)
 refine ⟨G.ok,G.stays,G.gens,G.os,G.its,fun q hq=>?_,?_,G.dom,G.mud,G.inj,G.mub,fun a x d m b hb=>?_,G.big⟩
 ·rcases List.mem_cons.mp hq with rfl | hq
  ·exact ⟨hf,H.fresh hp⟩
  ·exact G.frs q hq
 ·rw [List.map_cons]
  refine nodup_mid.mpr (List.nodup_cons.mpr ⟨fun hm=>ln _ hm rfl,H.nd⟩)
 ·rw [List.map_cons] at hb
  rcases List.mem_cons.mp (List.perm_middle.mem_iff.mp hb) with hb | hb
  ·rw [hb]
   have l:=H.mub a x d m
   exact ⟨Nat.ne_of_gt (Nat.lt_of_lt_of_le (l.2.2.1.elim fun _=>Heap.lt_size) hp),Nat.ne_of_gt (Nat.lt_of_lt_of_le (l.2.2.2.elim fun _=>Heap.lt_size) hp)⟩
  ·exact H.sep a x d m b hb
theorem HSt.unframe{p:FrRec}(H:HSt X μ σ it (p::fr) s):HSt X μ σ it fr s where
 ok:=H.ok
 stays:=H.stays
 gens:=H.gens
 os:=H.os
 its:=H.its
 frs q hq:=H.frs q (.tail _ hq)
 nd:=by have:=H.nd;rw [List.map_cons] at this;exact (List.nodup_cons.mp (nodup_mid.mp this)).2
 dom:=H.dom
 mud:=H.mud
 inj:=H.inj
 mub:=H.mub
 sep a x d m b hb:=H.sep a x d m b (List.perm_middle.mem_iff.mpr (.tail _ hb))
 big:=H.big
theorem HSt.item(H:HSt X μ σ it fr s){p:Addr×Obj}(hk:∀ b o,s.heap.get? b=some o→s'.heap.get? b=some o)(hg:s'.gens=s.gens)(ho:s'.os=s.os)
  (hp:s.heap.objs.size≤p.1) (hf:s'.heap.get? p.1=some p.2):HSt X μ σ (p::it) fr s':=by
 have G:=H.grow hk hg ho
 have ln:∀ b∈it.map (·.1)++fr.map (·.1),b≠p.1:=fun b hb=>Nat.ne_of_lt (Nat.lt_of_lt_of_le (H.low b hb) hp)
 refine ⟨G.ok,G.stays,G.gens,G.os,fun q hq=>?_,G.frs,?_,G.dom,G.mud,G.inj,G.mub,fun a x d m b hb=>?_,G.big⟩
 ·rcases List.mem_cons.mp hq with rfl | hq
  ·exact ⟨hf,H.fresh hp⟩
  ·exact G.its q hq
 ·rw [List.map_cons]
  exact List.nodup_cons.mpr ⟨fun hm=>ln _ hm rfl,H.nd⟩
 ·rw [List.map_cons,List.cons_append] at hb
  rcases List.mem_cons.mp hb with rfl | hb
  ·obtain ⟨_,_,⟨_,l1⟩,⟨_,l2⟩⟩:=H.mub a x d m
   replace l1:=Heap.lt_size l1
   replace l2:=Heap.lt_size l2
   exact ⟨Nat.ne_of_gt (Nat.lt_of_lt_of_le l1 hp),Nat.ne_of_gt (Nat.lt_of_lt_of_le l2 hp)⟩
  ·exact H.sep a x d m b hb
theorem HSt.unitem{p:Addr×Obj}(H:HSt X μ σ (p::it) fr s):HSt X μ σ it fr s where
 ok:=H.ok
 stays:=H.stays
 gens:=H.gens
 os:=H.os
 its q hq:=H.its q (.tail _ hq)
 frs:=H.frs
 nd:=by have:=H.nd;rw [List.map_cons,List.cons_append] at this;exact (List.nodup_cons.mp this).2
 dom:=H.dom
 mud:=H.mud
 inj:=H.inj
 mub:=H.mub
 sep a x d m b hb:=H.sep a x d m b (.tail _ hb)
 big:=H.big
theorem HSt.reitem{p p':Addr×Obj}(H:HSt X μ σ (p::it) fr s)(hp:p'.1=p.1)(hk:∀ b o,b≠p.1→s.heap.get? b=some o→s'.heap.get? b=some o)(hg:s'.gens=s.gens)(ho:s'.os=s.os)
  (hf:s'.heap.get? p.1=some p'.2):HSt X μ σ (p'::it) fr s':=by
 have nd:=H.nd
 rw [List.map_cons,List.cons_append] at nd
 have ln:∀ b∈it.map (·.1)++fr.map (·.1),b≠p.1:=fun b hb e=>(List.nodup_cons.mp nd).1 (e▸hb)
 have kb:∀ b o,X.base.get? b=some o→s'.heap.get? b=some o:=fun b o e=>hk b o (by rintro rfl;rw [(H.its p (.head _)).2] at e;cases e) (H.stays b o e)
 have km:∀ a x d,μ a=some (x,d)→x≠p.1∧d≠p.1:=fun a x d m=>let h:=H.sep a x d m p.1 (.head _);⟨h.1.symm,h.2.symm⟩
 refine ⟨H.ok,kb,hg.trans H.gens,ho.trans H.os,fun q hq=>?_,fun q hq=>⟨(H.frs q hq).1.keep fun o=>hk _ o (ln _ (List.mem_append_right _ (List.mem_map_of_mem hq))),(H.frs q hq).2⟩,?_,fun a o e=>?_,H.mud,H.inj,fun a x d m=>?_,fun a x d m b hb=>?_,H.big⟩
 ·rcases List.mem_cons.mp hq with rfl | hq
  ·rw [hp];exact ⟨hf,(H.its p (.head _)).2⟩
  ·exact ⟨hk _ _ (ln _ (List.mem_append_left _ (List.mem_map_of_mem hq))) (H.its q (.tail _ hq)).1,(H.its q (.tail _ hq)).2⟩
 ·rw [List.map_cons,List.cons_append,hp];exact nd
 ·obtain ⟨x,d,m,r⟩:=H.dom a o e
  exact ⟨x,d,m,r.mono (.refl _) (fun o=>hk _ o (km a x d m).1) fun o=>hk _ o (km a x d m).2⟩
 ·obtain ⟨h1,h2,⟨o1,h3⟩,⟨o2,h4⟩⟩:=H.mub a x d m
  exact ⟨h1,h2,⟨o1,hk _ _ (km a x d m).1 h3⟩,⟨o2,hk _ _ (km a x d m).2 h4⟩⟩
 ·refine H.sep a x d m b ?_
  rw [List.map_cons] at hb ⊢
  rw [← hp];exact hb
theorem HSt.reframe{p p':FrRec}(H:HSt X μ σ it (p::fr) s)(hp:p'.1=p.1)(hk:∀ b o,b≠p.1→s.heap.get? b=some o→s'.heap.get? b=some o)(hg:s'.gens=s.gens)(ho:s'.os=s.os)
  (hf:FrAt s'.heap p'):HSt X μ σ it (p'::fr) s':=by
 have nd:=H.nd
 rw [List.map_cons] at nd
 have nd':=List.nodup_cons.mp (nodup_mid.mp nd)
 have ln:∀ b∈it.map (·.1)++fr.map (·.1),b≠p.1:=fun b hb e=>nd'.1 (e▸hb)
 have pin:p.1∈it.map (·.1)++(p::fr).map (·.1):=List.mem_append_right _ (by rw [List.map_cons];exact .head _)
 have kb:∀ b o,X.base.get? b=some o→s'.heap.get? b=some o:=fun b o e=>hk b o (by rintro rfl;rw [(H.frs p (.head _)).2] at e;cases e) (H.stays b o e)
 have km:∀ a x d,μ a=some (x,d)→x≠p.1∧d≠p.1:=fun a x d m=>let h:=H.sep a x d m p.1 pin;⟨h.1.symm,h.2.symm⟩
 refine ⟨H.ok,kb,hg.trans H.gens,ho.trans H.os,fun q hq=>⟨hk _ _ (ln _ (List.mem_append_left _ (List.mem_map_of_mem hq))) (H.its q hq).1,(H.its q hq).2⟩,fun q hq=>?_,?_,fun a o e=>?_,H.mud,H.inj,fun a x d m=>?_,fun a x d m b hb=>?_,H.big⟩
 ·rcases List.mem_cons.mp hq with rfl | hq
  ·exact ⟨hf,hp▸(H.frs p (.head _)).2⟩
  ·exact ⟨(H.frs q (.tail _ hq)).1.keep fun o=>hk _ o (ln _ (List.mem_append_right _ (List.mem_map_of_mem hq))),(H.frs q (.tail _ hq)).2⟩
 ·rw [List.map_cons,hp];exact nd
 ·obtain ⟨x,d,m,r⟩:=H.dom a o e
  exact ⟨x,d,m,r.mono (.refl _) (fun o=>hk _ o (km a x d m).1) fun o=>hk _ o (km a x d m).2⟩
 ·obtain ⟨h1,h2,⟨o1,h3⟩,⟨o2,h4⟩⟩:=H.mub a x d m
  exact ⟨h1,h2,⟨o1,hk _ _ (km a x d m).1 h3⟩,⟨o2,hk _ _ (km a x d m).2 h4⟩⟩
 ·refine H.sep a x d m b ?_
  rw [List.map_cons] at hb ⊢
  rw [← hp];exact hb
end
end
structure Solid(X:Cx)(μ:Mu)(σ:Hp)(it:List (Addr×Obj))(B:Heap):Prop where
 stays:∀ b o,X.base.get? b=some o→B.get? b=some o
 its:∀ p∈it,B.get? p.1=some p.2
 dom:∀ a o,σ a=some o→∃ x d,μ a=some (x,d)∧ORep X μ o x d B
 mub:∀ a x d,μ a=some (x,d)→(∃ o,B.get? x=some o)∧∃ o,B.get? d=some o
section
variable{X:Cx}{μ μ':Mu}{σ σ':Hp}{it:List (Addr×Obj)}{fr:List FrRec}{s s':Shared}
theorem HSt.solid(H:HSt X μ σ it fr s){as:List Addr}(ha:∀ b∈as,b∈fr.map (·.1)):Solid X μ σ it (hideAll s.heap as):=by
 have nb:∀ b o,X.base.get? b=some o→b∉as:=fun b o e hm=>by
  refine c1_2 (List.mem_map.mp (ha b hm)) ?_;rintro p hp rfl;rw [(H.frs p hp).2] at e;cases e
 have ni:∀ p∈it,p.1∉as:=fun p hp hm=>by
  have:=H.nd
  exact (List.nodup_append.mp this).2.2 p.1 (List.mem_map_of_mem hp) p.1 (ha _ hm) rfl
 have nx:∀ a x d,μ a=some (x,d)→x∉as∧d∉as:=fun a x d m =>
  ⟨fun hm=>(H.sep a x d m x (List.mem_append_right _ (ha _ hm))).1 rfl,fun hm=>(H.sep a x d m d (List.mem_append_right _ (ha _ hm))).2 rfl⟩
 refine ⟨fun b o e=>hideAll_get _ (H.stays b o e) (nb b o e),fun p hp=>hideAll_get _ (H.its p hp).1 (ni p hp),fun a o e=>?_,fun a x d m=>?_⟩
 ·refine c2_2 (H.dom a o e) fun x d m r=>?_
  exact ⟨x,d,m,r.mono (.refl _) (fun o q=>hideAll_get _ q (nx a x d m).1) fun o q=>hideAll_get _ q (nx a x d m).2⟩
 ·obtain ⟨_,_,⟨o1,h1⟩,⟨o2,h2⟩⟩:=H.mub a x d m
  exact ⟨⟨o1,hideAll_get _ h1 (nx a x d m).1⟩,⟨o2,hideAll_get _ h2 (nx a x d m).2⟩⟩
theorem HSt.after(H:HSt X μ σ it fr s){B:Heap}(S:Solid X μ σ it B)(hB:B.StaysIn s'.heap)(hU:s.heap.UpToSlots s'.heap)(hg:s'.gens=s.gens)(ho:s'.os=s.os):HSt X μ σ it fr s' where
 ok:=H.ok
 stays b o e:=hB _ _ (S.stays b o e)
 gens:=hg.trans H.gens
 os:=ho.trans H.os
 its p hp:=⟨hB _ _ (S.its p hp),(H.its p hp).2⟩
 frs p hp:=⟨by
  obtain ⟨⟨o,e,d⟩,_⟩:=H.frs p hp
  refine c1_1 (hU _ _ e (fun vs q=>by rw [d] at q;cases q)) fun sl e'=>?_
  exact ⟨_,e',d⟩,(H.frs p hp).2⟩
 nd:=H.nd
 dom a o e:=let ⟨x,d,m,r⟩:=S.dom a o e;⟨x,d,m,r.mono (.refl _) (fun o=>hB _ o) fun o=>hB _ o⟩
 mud:=H.mud
 inj:=H.inj
 mub a x d m:=let ⟨⟨o1,h1⟩,⟨o2,h2⟩⟩:=S.mub a x d m;⟨(H.mub a x d m).1,(H.mub a x d m).2.1,⟨o1,hB _ _ h1⟩,⟨o2,hB _ _ h2⟩⟩
 sep:=H.sep
 big:=H.big
inductive Flies(X:Cx)(μ:Mu)(σ:Hp)(it:List (Addr×Obj))(fr:List FrRec)(frs:List Env)(c:Addr)(e:Addr)(s:Shared):Prop
 | mk (B:Heap) (a0:Value) (h:Heap.FlyingW B frs e (.ref c) a0 s.heap) (H:HSt X μ σ it fr s) (S:Solid X μ σ it B)
inductive ESt(X:Cx)(μ:Mu)(σ:Hp)(it:List (Addr×Obj))(fr:List FrRec)(frs:List Env)(c:Addr):Value→Shared→Prop
 | made {s:Shared} (e:Addr) (h:Heap) (args:List Value) (H:HSt X μ σ it fr { s with heap:=h }) (m:Heap.MadeExcOf h s.heap e (.ref c) args):ESt X μ σ it fr frs c (.ref e) s
 | flies {s:Shared} (e:Addr) (f:Flies X μ σ it fr frs c e s):ESt X μ σ it fr frs c (.ref e) s
noncomputable def OutOk(frs:List Env)(addrs:List Addr):Prop:=∀ e∈frs,e.scope.kind≠.module∧∃ L∈addrs,e.frame=some L
theorem funFrames_hidden{h B:Heap}{frs:List Env}{fr:List FrRec}(ho:OutOk frs (fr.map (·.1)))(hf:∀ p∈fr,FrAt h p)(hb:∀ p∈fr,(∃ e∈frs,e.frame=some p.1)→B.get? p.1=none):h.FunFrames B frs:=by
 induction frs with
 | nil=>trivial
 | cons env rest ih =>
  refine c0_2 (ho env (.head _)) fun hk hL=>c1_2 hL fun L hL hfr=>?_
  refine c1_2 (List.mem_map.mp hL) fun p hp e1=>?_
  rw [← e1] at hfr
  refine c1_2 (hf p hp) fun o e d=>?_
  exact ⟨hk,⟨p.1,o,hfr,hb p hp ⟨env,.head _,hfr⟩,e,fun vs q=>by rw [d] at q;cases q⟩,ih (fun e he=>ho e (.tail _ he)) fun p hp h=>hb p hp (c1_2 h fun e he q=>⟨e,.tail _ he,q⟩)⟩
variable{M:Model}{A:Around}{E:Value→Shared→Prop}
theorem ESt.leave{p:FrRec}{env:Env}{outer:List Env}{c:Addr}{ev:Value}{Q:Unit→Shared→Prop}(hA:A.frames=some (env::outer))(hf:env.frame=some p.1)(hO:OutOk (env::outer) ((p::fr).map (·.1)))
  (R:ESt X μ σ it (p::fr) (env::outer) c ev s) (hQ:∀ e s',ev=.ref e→Flies X μ σ it fr outer c e s'→Q () s'):wpAny M A (leaving env ev) Q E s:=by
 rcases R with ⟨e,h,args,H,hx⟩ | ⟨e,B,a0,hfl,H,S⟩
 ·let as:=(env::outer).filterMap (·.frame)
  have has:∀ b∈as,b∈(p::fr).map (·.1):=fun b hb=>by
   refine c1_2 (List.mem_filterMap.mp hb) fun e he hf=>?_
   obtain ⟨_,L,hL,hf'⟩:=hO e he
   rw [hf] at hf';cases hf';exact hL
  have S:=H.solid has
  have F:h.FunFrames (hideAll h as) (env::outer):=funFrames_hidden hO (fun q hq=>(H.frs q hq).1) fun q _ ⟨e,he,hf⟩=>hideAll_none _ (List.mem_filterMap.mpr ⟨e,he,hf⟩)
  refine wpAny_leaves_madeW hA hf (fun b o q=>of_hideAll _ q) F hx fun h' t x1 x2 x3 x4=>hQ e _ rfl ⟨_,_,x1,HSt.unframe (p:=p) ?_,S⟩
  exact HSt.after (s:={ s with heap:=h }) H S x1.1 ((Heap.UpToSlots.of_keeps hx.keeps).trans x4) rfl rfl
 ·exact wpAny_leaves_onW hA hf hfl fun h' x1 x2=>hQ e _ rfl ⟨B,a0,x1,HSt.unframe (p:=p) (H.after S x1.1 x2 rfl rfl),S⟩
end
noncomputable def lget(x:String):Loc→Option MV
 | []=>none
 | (y,v)::r=>if x=y then some v else lget x r
noncomputable def lset(x:String)(v:MV):Loc→Loc
 | []=>[(x,v)]
 | (y,u)::r=>if x=y then (x,v)::r else (y,u)::lset x v r
theorem lget_lset(x y:String)(v:MV)(ρ:Loc):lget y (lset x v ρ)=if y=x then some v else lget y ρ:=by
 induction ρ with
 | nil=>rfl
 | cons p r ih =>
  by_cases h:x=p.1
  ·rw [show lset x v (p::r)=(x,v)::r from if_pos h]
   by_cases hy:y=x
   ·exact (if_pos hy).trans (if_pos hy).symm
   ·exact (if_neg hy).trans ((if_neg fun e=>hy (e.trans h.symm)).symm.trans (if_neg hy).symm)
  ·rw [show lset x v (p::r)=p::lset x v r from if_neg h]
   by_cases hz:y=p.1
   ·exact (if_pos hz).trans ((if_pos hz).symm.trans (if_neg fun e=>h (e.symm.trans hz)).symm)
   ·rw [show lget y (p::lset x v r)=lget y (lset x v r) from if_neg hz,show lget y (p::r)=lget y r from if_neg hz];exact ih
theorem ofString_inj{a b:String}(h:Str.ofString a=Str.ofString b):a=b:=by
 have h':a.toList.map (·.toNat)=b.toList.map (·.toNat):=by
  have:=congrArg (fun s:Str=>s.cps.toList) h
  simpa [Str.ofString_eq_toList] using this
 have inj:∀ (l l':List Char),l.map (·.toNat)=l'.map (·.toNat)→l=l':=by
  intro l
  induction l with
  | nil=>intro l' h;cases l' <;> simp_all
  | cons c l ih =>
   intro l' h
   cases l' with
   | nil=>simp at h
   | cons c' l' =>
    simp only [List.map_cons,List.cons.injEq] at h
    rw [ih l' h.2,Char.toNat_inj.mp h.1]
 exact String.toList_inj.mp (inj _ _ h')
structure Sc where
 scope:Scope
 locs:List String
 cels:List String
 frees:List String
 glbs:List String
 plain:Bool:=true
structure Sc.Ok(S:Sc):Prop where
 fn:S.scope.kind=.function
 locs:∀ x∈S.locs,S.scope.names.lookup (Str.ofString x)=some .local
 cels:∀ x∈S.cels,S.scope.names.lookup (Str.ofString x)=some .cell
 frees:∀ x∈S.frees,S.scope.names.lookup (Str.ofString x)=some .free
 glbs:∀ x∈S.glbs,S.scope.names.lookup (Str.ofString x)=some .globalImplicit
 dbg:∀ x∈S.locs++S.cels++S.frees++S.glbs,(Str.ofString x==("__debug__":Str))=false
theorem inL{l:List String}{x:String}(h:l.contains x=true):x∈l:=List.contains_iff_mem.mp h
section
variable{S:Sc}{x:String}(h:S.Ok)
include h
theorem Sc.Ok.dL(hx:S.locs.contains x=true):(Str.ofString x==("__debug__":Str))=false:=h.dbg x (List.mem_append_left _ (List.mem_append_left _ (List.mem_append_left _ (inL hx))))
theorem Sc.Ok.dC(hx:S.cels.contains x=true):(Str.ofString x==("__debug__":Str))=false:=h.dbg x (List.mem_append_left _ (List.mem_append_left _ (List.mem_append_right _ (inL hx))))
theorem Sc.Ok.dF(hx:S.frees.contains x=true):(Str.ofString x==("__debug__":Str))=false:=h.dbg x (List.mem_append_left _ (List.mem_append_right _ (inL hx)))
theorem Sc.Ok.dG(hx:S.glbs.contains x=true):(Str.ofString x==("__debug__":Str))=false:=h.dbg x (List.mem_append_right _ (inL hx))
end
structure Gm where
 n:Nat
 b:Bool
 S:Sc
 c:Bool
structure AOk(n:Nat)(b:Bool)(A:Around)(frs:List Env)(addrs:List Addr):Prop where
 frames:A.frames=some frs
 out:OutOk frs addrs
 depth:A.depth+4*n≤900
 units:A.units+16*n≤9000
 han:b=true→A.handled=none
structure EnvOk(G:Gm)(env:Env)(frs:List Env):Prop where
 sc:env.scope=G.S.scope
 glob:env.globals=mainGlobals
 blt:env.builtins=builtinsNs
 ok:G.S.Ok
 here:G.S.plain=true→env.frame=some env.locals∧∃ outer,frs=env::outer
 cel:∀ x∈G.S.cels,∃ a,env.cells.lookup (Str.ofString x)=some a
noncomputable def ownAddrs(env:Env):List Addr:=if env.frame=some env.locals then env.cells.map (·.2) else []
noncomputable def OwnOk(env:Env)(own:List (Addr×Obj)):Prop:=own.map (·.1)=ownAddrs env∧∀ p∈own,∃ u,p.2.data=.cell u
inductive RdAt(μ:Mu)(env:Env)(es:Array DictEntry)(all:List (Addr×Obj))(n:Str)(v:MV):Prop
 | loc (k:env.kindOf n=some .local) (V:Value) (h:nsFind es n=some V) (r:VR μ v V)
 | cel (k:env.kindOf n=some .cell∨env.kindOf n=some .free) (a:Addr) (o:Obj) (V:Value) (h:env.cells.lookup n=some a) (m:(a,o)∈all) (d:o.data=.cell (some V)) (r:VR μ v V)
noncomputable def Reads(μ:Mu)(env:Env)(ρ:Loc)(es:Array DictEntry)(all:List (Addr×Obj)):Prop :=
 ∀ x v,lget x ρ=some v→RdAt μ env es all (Str.ofString x) v
theorem RdAt.shift{μ:Mu}{env:Env}{es:Array DictEntry}{all all':List (Addr×Obj)}{n:Str}{v:MV}(h:RdAt μ env es all n v)(hm:∀ a o u,o.data=.cell u→(a,o)∈all→(a,o)∈all'):RdAt μ env es all' n v:=by
 cases h with
 | loc k V h r=>exact .loc k V h r
 | cel k a o V h m d r=>exact .cel k a o V h (hm a o _ d m) d r
theorem Reads.mono{μ μ':Mu}{env:Env}{ρ:Loc}{es:Array DictEntry}{all:List (Addr×Obj)}(e:Ext μ μ')(r:Reads μ env ρ es all):Reads μ' env ρ es all:=fun x v h=>by
 rcases r x v h with ⟨a,V,b,c⟩ | ⟨a,y,o,V,b,c,d,f⟩
 ·exact .loc a V b (c.mono e)
 ·exact .cel a y o V b c d (f.mono e)
inductive FSt(X:Cx)(μ:Mu)(σ:Hp)(env:Env)(ρ:Loc)(it:List (Addr×Obj))(fr:List FrRec)(s:Shared):Prop
 | mk (es:Array DictEntry) (ep:Nat) (own:List (Addr×Obj)) (H:HSt X μ σ (own++it) ((env.locals,es,ep)::fr) s) (k:StrKeys es) (r:Reads μ env ρ es (own++it)) (o:OwnOk env own)
theorem FSt.lift{X:Cx}{μ μ':Mu}{σ σ':Hp}{env:Env}{ρ:Loc}{it:List (Addr×Obj)}{fr:List FrRec}{s s':Shared}(F:FSt X μ σ env ρ it fr s)(e:Ext μ μ')
  (h:∀ it' fr',HSt X μ σ it' fr' s→HSt X μ' σ' it' fr' s'):FSt X μ' σ' env ρ it fr s' :=
 let ⟨es,ep,own,H,k,r,o⟩:=F;⟨es,ep,own,h _ _ H,k,r.mono e,o⟩
theorem FSt.heap{X:Cx}{μ:Mu}{σ:Hp}{env:Env}{ρ:Loc}{it:List (Addr×Obj)}{fr:List FrRec}{s:Shared}(F:FSt X μ σ env ρ it fr s) :
  ∃ it' fr',HSt X μ σ it' fr' s:=let ⟨_,_,_,H,_,_,_⟩:=F;⟨_,_,H⟩
theorem FSt.grow{X:Cx}{μ:Mu}{σ:Hp}{env:Env}{ρ:Loc}{it:List (Addr×Obj)}{fr:List FrRec}{s s':Shared}(F:FSt X μ σ env ρ it fr s)(hk:∀ b o,s.heap.get? b=some o→s'.heap.get? b=some o)
  (hg:s'.gens=s.gens:=by rfl) (ho:s'.os=s.os:=by rfl):FSt X μ σ env ρ it fr s':=F.lift (.refl _) fun _ _ H=>H.grow hk hg ho
theorem FSt.toks{X:Cx}{μ:Mu}{σ:Hp}{env:Env}{ρ:Loc}{it:List (Addr×Obj)}{fr:List FrRec}{s:Shared}{t:Nat}(F:FSt X μ σ env ρ it fr s):FSt X μ σ env ρ it fr { s with toks:=t }:=F.grow fun _ _ e=>e
inductive FES(X:Cx)(μ:Mu)(σ:Hp)(env:Env)(ρ:Loc)(it:List (Addr×Obj))(fr:List FrRec)(frs:List Env)(c:Addr)(ev:Value)(s:Shared):Prop
 | mk (es:Array DictEntry) (ep:Nat) (own:List (Addr×Obj)) (R:ESt X μ σ (own++it) ((env.locals,es,ep)::fr) frs c ev s) (k:StrKeys es) (r:Reads μ env ρ es (own++it)) (o:OwnOk env own)
inductive GPost{α β:Type}(X:Cx)(μ:Mu)(env:Env)(it:List (Addr×Obj))(fr:List FrRec)(R:Mu→β→α→Prop)(Q:β→Hp→Loc→Prop)(a:α)(s':Shared):Prop
 | mk (μ':Mu) (b:β) (σ':Hp) (ρ':Loc) (e:Ext μ μ') (r:R μ' b a) (F:FSt X μ' σ' env ρ' it fr s') (q:Q b σ' ρ')
inductive EPost(X:Cx)(μ:Mu)(env:Env)(it:List (Addr×Obj))(fr:List FrRec)(frs:List Env)(E:Addr→Hp→Loc→Prop)(ev:Value)(s':Shared):Prop
 | mk (μ':Mu) (c:Addr) (σ':Hp) (ρ':Loc) (e:Ext μ μ') (F:FES X μ' σ' env ρ' it fr frs c ev s') (q:E c σ' ρ')
theorem GPost.ext{α β:Type}{X:Cx}{μ μ':Mu}{env:Env}{it:List (Addr×Obj)}{fr:List FrRec}{R:Mu→β→α→Prop}{Q:β→Hp→Loc→Prop}{a:α}{s':Shared}(e:Ext μ μ')(h:GPost X μ' env it fr R Q a s'):GPost X μ env it fr R Q a s' :=
 let ⟨μ₂,b,σ',ρ',e',r,F,q⟩:=h;⟨μ₂,b,σ',ρ',e.trans e',r,F,q⟩
theorem EPost.ext{X:Cx}{μ μ':Mu}{env:Env}{it:List (Addr×Obj)}{fr:List FrRec}{frs:List Env}{E:Addr→Hp→Loc→Prop}{ev:Value}{s':Shared}(e:Ext μ μ')(h:EPost X μ' env it fr frs E ev s'):EPost X μ env it fr frs E ev s' :=
 let ⟨μ₂,b,σ',ρ',e',F,q⟩:=h;⟨μ₂,b,σ',ρ',e.trans e',F,q⟩
noncomputable def J{α β:Type}(X:Cx)(G:Gm)(R:Mu→β→α→Prop)(t:Env→Sem α)(σ:Hp)(ρ:Loc)(Q:β→Hp→Loc→Prop)(E:Addr→Hp→Loc→Prop):Prop :=
 ∀ A env frs μ it fr s,EnvOk G env frs→AOk G.n G.b A frs (env.locals::fr.map (·.1))→FSt X μ σ env ρ it fr s →
  wpN G.c (model prog X.w) A (t env) (GPost X μ env it fr R Q) (EPost X μ env it fr frs E) s
inductive MF where | next | ret (v:MV)
noncomputable def FlR(μ:Mu):MF→Flow→Prop
 | .next,f=>f=.next
 | .ret v,f=>∃ V,f=.ret V∧VR μ v V
noncomputable def BR(_:Mu)(b:Bool)(B:Bool):Prop:=b=B
noncomputable abbrev EvE(X:Cx)(G:Gm)(e:Expr):=J X G VR (fun env=>eval e env)
noncomputable abbrev EvT(X:Cx)(G:Gm)(e:Expr):=J X G BR (fun env=>isTrue e env (eval e env))
noncomputable abbrev ExS(X:Cx)(G:Gm)(st:Stmt):=J X G FlR (fun env=>exec st env)
noncomputable abbrev ExSs(X:Cx)(G:Gm)(sts:List Stmt):=J X G FlR (fun env=>execs sts env)
section
variable{X:Cx}{G:Gm}{σ:Hp}{ρ:Loc}{Q:MV→Hp→Loc→Prop}{E:Addr→Hp→Loc→Prop}
theorem J.mono{α β:Type}{R:Mu→β→α→Prop}{t:Env→Sem α}{Q Q':β→Hp→Loc→Prop}(h:J X G R t σ ρ Q E)(hQ:∀ b σ ρ,Q b σ ρ→Q' b σ ρ):J X G R t σ ρ Q' E :=
 fun A env frs μ it fr s he ha hs=>n_mono (h A env frs μ it fr s he ha hs) (fun _ _ ⟨μ',b,σ',ρ',a,c,d,e⟩=>⟨μ',b,σ',ρ',a,c,d,hQ _ _ _ e⟩) fun _ _ x=>x
theorem J.forget{α β:Type}{R:Mu→β→α→Prop}{t:Env→Sem α}{Q:β→Hp→Loc→Prop}{σ':Hp}(h:J X G R t σ' ρ Q E)(h1:∀ a o,σ' a=some o→o=.dead∨σ a=some o)(h2:∀ a,σ' a=none→σ a=none)(h3:∀ a,σ' a≠none→σ a≠none):J X G R t σ ρ Q E :=
 fun A env frs μ it fr s he ha hs=>h A env frs μ it fr s he ha (hs.lift (.refl _) fun _ _ H=>H.weaken h1 h2 h3)
theorem J.up{α β:Type}{R:Mu→β→α→Prop}{t:Env→Sem α}{Q:β→Hp→Loc→Prop}(h:J X ⟨G.n,G.b,G.S,false⟩ R t σ ρ Q E):J X G R t σ ρ Q E :=
 fun A env frs μ it fr s he ha hs=>n_up (n_any (h A env frs μ it fr s ⟨he.sc,he.glob,he.blt,he.ok,he.here,he.cel⟩ ha hs))
theorem kindOf_eq{env:Env}{frs:List Env}(he:EnvOk G env frs)(n:Str):env.kindOf n=G.S.scope.names.lookup n:=by unfold Env.kindOf;rw [he.sc]
theorem fn_of{env:Env}{frs:List Env}(he:EnvOk G env frs):env.scope.kind=.function:=by rw [he.sc];exact he.ok.fn
theorem EvE.name{x:String}{pos:Pos}{v:MV}(hx:G.S.locs.contains x=true)(hv:lget x ρ=some v)(h:Q v σ ρ):EvE X G (.Name (Str.ofString x) pos) σ ρ Q E:=fun A env frs μ it fr s he ha hs=>by
 obtain ⟨es,ep,own,H,k,r,o⟩:=id hs
 have hk:=he.ok.locs x (inL hx)
 rw [← kindOf_eq he] at hk
 rcases r x v hv with ⟨_,V,h1,h2⟩ | ⟨h1,_⟩
 ·refine c1_2 ((H.frs _ (.head _)).1) fun ob ho hd=>?_
  exact n_up <| wpAny_Name (wpAny_loadName_local (fn_of he) hk ⟨ob,es,ep,ho,hd,k,fun _=>rfl⟩ h1 ⟨μ,v,σ,ρ,.refl _,h2,hs,h⟩) (he.ok.dL hx)
 ·rw [hk] at h1;simp at h1
theorem cell_read{x:String}{v:MV}{env:Env}{μ:Mu}{it:List (Addr×Obj)}{fr:List FrRec}{s:Shared}{M:Model}{A:Around}{Q:Value→Shared→Prop}{E:Value→Shared→Prop}(hs:FSt X μ σ env ρ it fr s)
  (hk:env.kindOf (Str.ofString x)=some .cell∨env.kindOf (Str.ofString x)=some .free) (hfn:env.scope.kind=.function) (hv:lget x ρ=some v) (hd:(Str.ofString x==("__classdict__":Str))=false)
  (h:∀ V,VR μ v V→Q V s):wpAny M A (loadName env (Str.ofString x)) Q E s:=by
 obtain ⟨es,ep,own,H,k,r,o⟩:=hs
 rcases r x v hv with ⟨h1,_⟩ | ⟨_,a,ob,V,h2,h3,h4,h5⟩
 ·exact (hk.elim (fun e=>nomatch e.symm.trans h1) fun e=>nomatch e.symm.trans h1 :)
 ·have hc:s.heap.IsCell a (some V):=⟨ob,(H.its _ h3).1,h4⟩
  exact hk.elim (fun e=>wpAny_loadName_cell hfn e h2 hc (h V h5)) fun e=>wpAny_loadName_free hfn e h2 hc (h V h5) hd
theorem EvE.cell{x:String}{pos:Pos}{v:MV}(hx:G.S.cels.contains x=true)(hv:lget x ρ=some v)(h:Q v σ ρ)(hd:(Str.ofString x==("__classdict__":Str))=false:=by decide +kernel):EvE X G (.Name (Str.ofString x) pos) σ ρ Q E:=fun A env frs μ it fr s he ha hs=>by
 have hk:=he.ok.cels x (inL hx)
 rw [← kindOf_eq he] at hk
 exact n_up <| wpAny_Name (cell_read hs (.inl hk) (fn_of he) hv hd fun V hV=>⟨μ,v,σ,ρ,.refl _,hV,hs,h⟩) (he.ok.dC hx)
theorem EvE.free{x:String}{pos:Pos}{v:MV}(hx:G.S.frees.contains x=true)(hv:lget x ρ=some v)(h:Q v σ ρ)(hd:(Str.ofString x==("__classdict__":Str))=false:=by decide +kernel):EvE X G (.Name (Str.ofString x) pos) σ ρ Q E:=fun A env frs μ it fr s he ha hs=>by
 have hk:=he.ok.frees x (inL hx)
 rw [← kindOf_eq he] at hk
 exact n_up <| wpAny_Name (cell_read hs (.inr hk) (fn_of he) hv hd fun V hV=>⟨μ,v,σ,ρ,.refl _,hV,hs,h⟩) (he.ok.dF hx)
theorem FSt.base{μ:Mu}{env:Env}{it:List (Addr×Obj)}{fr:List FrRec}{s:Shared}(F:FSt X μ σ env ρ it fr s):∀ b o,X.base.get? b=some o→s.heap.get? b=some o:=let ⟨_,_,_,H,_,_,_⟩:=F;H.stays
theorem FSt.cx{μ:Mu}{env:Env}{it:List (Addr×Obj)}{fr:List FrRec}{s:Shared}(F:FSt X μ σ env ρ it fr s):X.Ok:=let ⟨_,_,_,H,_,_,_⟩:=F;H.ok
theorem EvE.glob{x:String}{pos:Pos}{v:Value}(hx:G.S.glbs.contains x=true)(hv:nsIn (Fg X.w) mainGlobals (Str.ofString x)=some (some v))(h:Q (.top v) σ ρ):EvE X G (.Name (Str.ofString x) pos) σ ρ Q E:=fun A env frs μ it fr s he ha hs=>by
 have hk:=he.ok.glbs x (inL hx)
 rw [← kindOf_eq he] at hk
 have g:=hs.cx.top.g
 refine n_up <| Name_function_global (fn_of he) hk (loadGlobal_global (mg:=X.mg) ?_ (mg_of hs.cx.inK g hv) ⟨μ,.top v,σ,ρ,.refl _,rfl,hs,h⟩) (he.ok.dG hx)
 rw [he.glob];exact g.keeps hs.base
theorem EvE.bltin{x:String}{pos:Pos}{v:Value}(hx:G.S.glbs.contains x=true)(hv:nsIn (Fg X.w) mainGlobals (Str.ofString x)=some none)(hb:bootBuiltins (Str.ofString x)=some v)(hn:Str.ofString x≠"__name__")(h:Q (.top v) σ ρ):EvE X G (.Name (Str.ofString x) pos) σ ρ Q E:=fun A env frs μ it fr s he ha hs=>by
 have hk:=he.ok.glbs x (inL hx)
 rw [← kindOf_eq he] at hk
 have T:=hs.cx.top
 refine n_up <| Name_function_global (fn_of he) hk (loadGlobal_builtin (mg:=X.mg) (mb:=X.mb) ?_ (mg_none_of hs.cx.inK T.g hv) ?_ ((T.builtins _ hn).trans hb) ⟨μ,.top v,σ,ρ,.refl _,rfl,hs,h⟩) (he.ok.dG hx)
 ·rw [he.glob];exact T.g.keeps hs.base
 ·rw [he.blt];exact T.b.keeps hs.base
theorem EvE.cInt{i:Int}{k}{pos:Pos}(h:Q (.int i) σ ρ):EvE X G (.Constant (.int i) k pos) σ ρ Q E:=fun A env frs μ it fr s he ha hs =>
 n_up <| wpAny_Constant_int ⟨μ,.int i,σ,ρ,.refl _,⟨_,rfl⟩,hs.toks,h⟩
theorem EvE.cStr{x:Str}{k}{pos:Pos}(h:Q (.str x) σ ρ):EvE X G (.Constant (.str x) k pos) σ ρ Q E:=fun A env frs μ it fr s he ha hs=>by
 refine n_up ?_;show wpAny _ _ (eval _ _) _ _ _;rw [eval_Constant];exact wpAny_mkText ⟨μ,.str x,σ,ρ,.refl _,⟨_,rfl⟩,hs.toks,h⟩
theorem EvE.cNone{k}{pos:Pos}(h:Q .none σ ρ):EvE X G (.Constant .none k pos) σ ρ Q E:=fun A env frs μ it fr s he ha hs=>by
 refine n_up ?_;show wpAny _ _ (eval _ _) _ _ _;rw [eval_Constant];exact wpAny_pure ⟨μ,.none,σ,ρ,.refl _,rfl,hs,h⟩
theorem EvE.cBool{b:Bool}{k}{pos:Pos}(h:Q (.bool b) σ ρ):EvE X G (.Constant (.bool b) k pos) σ ρ Q E:=fun A env frs μ it fr s he ha hs=>by
 refine n_up ?_;show wpAny _ _ (eval _ _) _ _ _;rw [eval_Constant];exact wpAny_pure ⟨μ,.bool b,σ,ρ,.refl _,rfl,hs,h⟩
variable{R:MF→Hp→Loc→Prop}
noncomputable def Go(K:MF→Hp→Loc→Prop)(f:MF)(σ:Hp)(ρ:Loc):Prop:=K f σ ρ
structure Kn(X:Cx)(G:Gm)(rest:List Stmt)(R:MF→Hp→Loc→Prop)(E:Addr→Hp→Loc→Prop)(K:MF→Hp→Loc→Prop):Prop where
 nx:∀ {σ ρ},ExSs X G rest σ ρ R E→Go K .next σ ρ
 rt:∀ {v σ ρ},R (.ret v) σ ρ→Go K (.ret v) σ ρ
structure Fn(Q:MV→Hp→Prop)(K:MF→Hp→Loc→Prop):Prop where
 rt:∀ {v σ ρ},Q v σ→Go K (.ret v) σ ρ
 nx:∀ {σ ρ},Q .none σ→Go K .next σ ρ
structure Lp(I:Nat→Hp→Loc→Prop)(i:Nat)(R:MF→Hp→Loc→Prop)(K:MF→Hp→Loc→Prop):Prop where
 rt:∀ {v σ ρ},R (.ret v) σ ρ→Go K (.ret v) σ ρ
 nx:∀ {σ ρ},I (i+1) σ ρ→Go K .next σ ρ
@[reducible] def kRet(R:MF→Hp→Loc→Prop)(v:MV)(σ:Hp)(ρ:Loc):Prop:=R (.ret v) σ ρ
@[reducible] def kIf(X:Cx)(G:Gm)(body orelse:List Stmt)(R:MF→Hp→Loc→Prop)(E:Addr→Hp→Loc→Prop)(b:Bool)(σ:Hp)(ρ:Loc):Prop:=(b=true→ExSs X G body σ ρ R E)∧(b=false→ExSs X G orelse σ ρ R E)
theorem kIf.no{body orelse:List Stmt}{b:Bool}(e:b=false)(h:ExSs X G orelse σ ρ R E):kIf X G body orelse R E b σ ρ:=⟨fun z=>(Bool.noConfusion (e.symm.trans z)),fun _=>h⟩
theorem kIf.yes{body orelse:List Stmt}{b:Bool}(e:b=true)(h:ExSs X G body σ ρ R E):kIf X G body orelse R E b σ ρ:=⟨fun _=>h,fun z=>(Bool.noConfusion (e.symm.trans z))⟩
theorem ExSs.nil(h:R .next σ ρ):ExSs X G [] σ ρ R E:=fun A env frs μ it fr s he ha hs=>n_up <| wpAny_execs_nil ⟨μ,.next,σ,ρ,.refl _,rfl,hs,h⟩
theorem ExSs.cons{st:Stmt}{rest:List Stmt}(h:ExS X G st σ ρ (fun f σ₁ ρ₁=>match f with | .next=>ExSs X G rest σ₁ ρ₁ R E | .ret v=>R (.ret v) σ₁ ρ₁) E):ExSs X G (st::rest) σ ρ R E:=fun A env frs μ it fr s he ha hs=>by
 refine n_execs_cons (n_mono (h A env frs μ it fr s he ha hs) ?_ fun _ _ x=>x)
 rintro f s₁ ⟨μ₁,mf,σ₁,ρ₁,e₁,r₁,hs₁,hq⟩
 cases mf with
 | next =>
  cases r₁
  exact n_mono (hq A env frs μ₁ it fr s₁ he ha hs₁) (fun _ _=>.ext e₁) fun _ _=>.ext e₁
 | ret v=>refine c1_2 r₁ ?_;rintro V rfl hV;exact ⟨μ₁,.ret v,σ₁,ρ₁,e₁,⟨V,rfl,hV⟩,hs₁,hq⟩
theorem ExSs.consK{st:Stmt}{rest:List Stmt}(h:∀ K,Kn X G rest R E K→ExS X G st σ ρ (Go K) E):ExSs X G (st::rest) σ ρ R E :=
 ExSs.cons (h _ ⟨fun z=>z,fun z=>z⟩)
theorem ExS.ret{e:Expr}{pos:Pos}(h:EvE X G e σ ρ (kRet R) E):ExS X G (.Return (some e) pos) σ ρ R E:=fun A env frs μ it fr s he ha hs =>
 n_ret (n_mono (h A env frs μ it fr s he ha hs) (fun V s₁ ⟨μ₁,v,σ₁,ρ₁,e₁,r₁,hs₁,hq⟩=>⟨μ₁,.ret v,σ₁,ρ₁,e₁,⟨V,rfl,r₁⟩,hs₁,hq⟩) fun _ _ x=>x)
theorem ExS.ifte{test:Expr}{body orelse:List Stmt}{pos:Pos}(h:EvT X G test σ ρ (kIf X G body orelse R E) E):ExS X G (.If test body orelse pos) σ ρ R E:=fun A env frs μ it fr s he ha hs=>by
 refine n_ifte (n_mono (h A env frs μ it fr s he ha hs) ?_ fun _ _ x=>x)
 rintro b s₁ ⟨μ₁,b',σ₁,ρ₁,e₁,rfl,hs₁,hq⟩
 cases b' with
 | true=>exact n_mono (hq.1 rfl A env frs μ₁ it fr s₁ he ha hs₁) (fun _ _=>.ext e₁) fun _ _=>.ext e₁
 | false=>exact n_mono (hq.2 rfl A env frs μ₁ it fr s₁ he ha hs₁) (fun _ _=>.ext e₁) fun _ _=>.ext e₁
theorem store_local{x:String}{v:MV}{V:Value}{env:Env}{frs:List Env}{μ:Mu}{it:List (Addr×Obj)}{fr:List FrRec}{s:Shared}{M:Model}{A:Around}{Q:Unit→Shared→Prop}{E:Value→Shared→Prop}(he:EnvOk G env frs)
  (hs:FSt X μ σ env ρ it fr s) (hx:x∈G.S.locs) (hV:VR μ v V) (h:∀ s',FSt X μ σ env (lset x v ρ) it fr s'→Q () s'):wpAny M A (storeName env (Str.ofString x) V) Q E s:=by
 have hk:=he.ok.locs x hx
 rw [← kindOf_eq he] at hk
 obtain ⟨es,ep,own,H,k,r,o⟩:=hs
 refine c1_2 ((H.frs _ (.head _)).1) fun ob ho hd=>?_
 refine wpAny_storeName_local hk ⟨ob,es,ep,ho,hd,k,fun _=>rfl⟩ (fun h' hns hsb=>h _ ?_) (by rw [fn_of he];rfl)
 refine c3_4 hns fun ob' es' ep' ho' hd' k' hf'=>?_
 refine ⟨es',ep',own,H.reframe (p':=(env.locals,es',ep')) rfl (fun b o hb e=>(hsb.2 b hb).trans e) rfl rfl ⟨ob',ho',hd'⟩,k',fun y u hy=>?_,o⟩
 rw [lget_lset] at hy
 by_cases hyx:y=x
 ·subst hyx
  rw [if_pos rfl] at hy
  cases hy
  exact .loc hk V ((hf' _).trans (if_pos rfl)) hV
 ·rw [if_neg hyx] at hy
  rcases r y u hy with ⟨a,W,b,c⟩ | ⟨q,a,o,V,b,c,d,f⟩
  ·exact .loc a W ((hf' _).trans ((if_neg fun z=>hyx (ofString_inj z)).trans b)) c
  ·exact .cel q a o V b c d f
end
section
structure FnAt(w:World)(f:Addr)(st:Stmt)(q:String):Prop where
 ex:∃ pm cd,(Fg w).lookup f=some (fnObj st q cd pm)∧codeIn (Fg w) (.ref cd) (Str.ofString q)=true
theorem lookup_nat{l:Frag}{k:Addr}{v:Obj}(hn:(l.map (·.1)).Nodup)(h:(k,v)∈l):l.lookup k=some v:=by
 induction l with
 | nil=>cases h
 | cons p l ih =>
  rw [List.map_cons,List.nodup_cons] at hn
  obtain ⟨k',v'⟩:=p
  rw [List.lookup_cons]
  rcases List.mem_cons.mp h with e | hm
  ·cases e;simp
  ·rw [beq_eq_false_iff_ne.mpr (by rintro rfl;exact hn.1 (List.mem_map.mpr ⟨_,hm,rfl⟩))];exact ih hn.2 hm
theorem kAs_nd:kAs.Nodup:=by decide +kernel
theorem kf_at(w:World){a:Addr}{o:Obj}(h:(a,o)∈Kfn):(Fg w).lookup a=some o :=
 lookup_nat (by rw [← kAs_eq];exact kAs_nd) (List.mem_append_right _ (List.mem_append_right _ h))
theorem fnAt(w:World)(i:Nat){r:FnR}(h:fnR[i]?=some r):FnAt w r.a r.s r.q:=by
 have hm:=List.mem_of_getElem? h
 have h1:=kf_at w (List.mem_append_left _ (List.mem_flatMap.mpr ⟨r,hm,List.Mem.head _⟩))
 have h2:=kf_at w (List.mem_append_left _ (List.mem_flatMap.mpr ⟨r,hm,List.Mem.tail _ (List.Mem.head _)⟩))
 refine ⟨_,_,h1,?_⟩
 unfold codeIn
 dsimp only
 rw [h2]
 exact beq_self_eq_true _
structure ClsOk(w:World)(C:Addr):Prop where
 ga:plainGet (Fg w) C (Str.ofString "")=true
 hd:hasDictIn (Fg w) C=true
 sa:findIn (Fg w) (.ref C) "__setattr__"=some (some (.builtin "object.__setattr__"))
 po:plainOver (Fg w) C=true
 make:makesIn (Fg w) C=true
structure MethOk(w:World)(C:Addr)(m:String)(f:Addr):Prop where
 cls:ClsOk w C
 find:findIn (Fg w) (.ref C) (Str.ofString m)=some (some (.ref f))
 fn:isFn (Fg w) (.ref f)=true
 keep:keepIn (Fg w) (.ref f)=true
noncomputable def noRef:Value→Bool
 | .ref _=>false
 | _=>true
noncomputable def clsB(K:Frag)(C:Addr):Bool:=plainGet K C (Str.ofString "") && (hasDictIn K C && (findIn K (.ref C) "__setattr__"==some (some (.builtin "object.__setattr__")) && (plainOver K C && makesIn K C)))
theorem clsB_ok{w:World}{C:Addr}(h:clsB (Fg w) C=true):ClsOk w C:=by
 unfold clsB at h
 simp only [Bool.and_eq_true,beq_iff_eq] at h
 exact ⟨h.1,h.2.1,h.2.2.1,h.2.2.2.1,h.2.2.2.2⟩
noncomputable def fieldR:List (Addr×String):=[(142,"number"),(142,"data"),(142,"kept"),(170,"kind"),(170,"name"),(170,"other"),(170,"number"),(226,"disk"),(226,"name"),(226,"node"),(226,"closed"),(387,"left"),(387,"spent"),(387,"alive"),(387,"nodes"),(387,"made"),(387,"kept_names"),(387,"present"),(387,"journal"),(522,"disk"),(522,"prefix")]
noncomputable def methR:List (Addr×String×Addr):=[(142,"__init__",125),(142,"unsynced",132),(142,"copy",139),(170,"__init__",160),(170,"happen",167),(226,"__init__",188),(226,"ready",195),(226,"append",202),(226,"sync",209),(226,"close",216),(226,"length",223),(387,"__init__",244),(387,"set_budget",251),(387,"check_alive",258),(387,"take_steps",265),(387,"one_step",272),(387,"node_of",279),(387,"dir_step",286),(387,"keep_creation",293),(387,"create",300),(387,"create_over",307),(387,"append_to",314),(387,"remove",321),(387,"rename",328),(387,"sync_dir",335),(387,"read",342),(387,"size",349),(387,"has",356),(387,"names",363),(387,"power_cut",370),(387,"copy",377),(387,"row",384),(522,"__init__",405),(522,"set_budget",428),(522,"create",435),(522,"create_over",442),(522,"append_to",449),(522,"remove",456),(522,"rename",463),(522,"sync_dir",470),(522,"read",477),(522,"size",484),(522,"has",491),(522,"names",498),(522,"power_cut",505),(522,"copy",512),(522,"row",519)]
noncomputable def glR:List (String×Addr):=[("_law_names",533),("_law_kinds",540),("_law_draw",547),("_law_does",554),("_law_length",561),("_law_alike",568),("_law_dead",575),("Node",142),("DirStep",170),("File",226),("Disk",387),("SubDisk",522),("KeepError",24),("StoreError",37),("BadOption",49),("DiskError",61),("NoSuchFile",73),("FileThere",85),("DiskDead",97),("BadHandle",109)]
noncomputable def blR:List (String×Value):=[("len",.builtin "len"),("range",.type "range"),("sorted",.builtin "sorted"),("max",.builtin "max"),("bytes",.type "bytes"),("bytearray",.type "bytearray"),("dict",.type "dict"),("list",.type "list"),("tuple",.type "tuple")]
noncomputable def excR:List Addr:=[73,85,97,109]
theorem field_tab(w:World):fieldR.all (fun r=>clsB (Fg w) r.1 && findIn (Fg w) (.ref r.1) (Str.ofString r.2)==some none)=true:=by kernel_rfl
theorem meth_tab(w:World):methR.all (fun r=>clsB (Fg w) r.1 && (findIn (Fg w) (.ref r.1) (Str.ofString r.2.1)==some (some (.ref r.2.2)) && (isFn (Fg w) (.ref r.2.2) && keepIn (Fg w) (.ref r.2.2))))=true:=by kernel_rfl
theorem gl_tab(w:World):glR.all (fun r=>nsIn (Fg w) mainGlobals (Str.ofString r.1)==some (some (.ref r.2)) && keepIn (Fg w) (.ref r.2))=true:=by kernel_rfl
theorem bl_tab(w:World):blR.all (fun r=>nsIn (Fg w) mainGlobals (Str.ofString r.1)==some none && (bootBuiltins (Str.ofString r.1)==some r.2 && noRef r.2))=true:=by kernel_rfl
theorem exc_tab(w:World):excR.all (fun c=>excIn (Fg w) c [.type "Exception",.type "BaseException",.type "object"] "Exception.__new__" && ((clsIn (Fg w) c).isSome && (subIn (Fg w) (.ref c) (.type "BaseException")==some true && (instIn (Fg w) (.ref c) (.type "tuple")==some false && excR.all fun d=>subIn (Fg w) (.ref c) (.ref d)==some (decide (c=d))))))=true:=by kernel_rfl
noncomputable def isField(C:Addr)(f:String):Bool:=fieldR.any fun r=>r.1==C && r.2==f
theorem field_ok(w:World){C:Addr}{f:String}(h:isField C f=true):ClsOk w C∧findIn (Fg w) (.ref C) (Str.ofString f)=some none:=by
 refine c1_2 (List.any_eq_true.mp h) fun r hr e=>?_
 have t:=List.all_eq_true.mp (field_tab w) r hr
 simp only [Bool.and_eq_true,beq_iff_eq] at e t
 refine c0_2 e ?_;rintro rfl rfl
 exact ⟨clsB_ok t.1,t.2⟩
noncomputable def methIn(C:Addr)(m:String)(l:List (Addr×String×Addr)):Option Addr:=(l.find? fun p=>p.1==C && p.2.1==m).map (·.2.2)
theorem methIn_mem{C:Addr}{m:String}{f:Addr}{l:List (Addr×String×Addr)}(h:methIn C m l=some f):(C,m,f)∈l:=by
 refine c1_2 (Option.map_eq_some_iff.mp h) fun p hp hf=>?_
 refine c0_2 (Bool.and_eq_true_iff.mp (List.find?_some (p:=fun p:Addr×String×Addr=>p.1==C && p.2.1==m) hp)) fun e1 e2=>?_
 rw [← eq_of_beq e1,← eq_of_beq e2,← hf]
 exact List.mem_of_find?_eq_some hp
noncomputable def methTab(C:Addr)(m:String):Option Addr:=methIn C m methR
theorem meth_ok(w:World){C:Addr}{m:String}{f:Addr}(h:methTab C m=some f):MethOk w C m f:=by
 have t:=List.all_eq_true.mp (meth_tab w) _ (methIn_mem h)
 simp only [Bool.and_eq_true,beq_iff_eq] at t
 exact ⟨clsB_ok t.1,t.2.1,t.2.2.1,t.2.2.2⟩
noncomputable def keyIn{α:Type}(x:String)(l:List (String×α)):Option α:=(l.find? fun p=>p.1==x).map (·.2)
theorem keyIn_mem{α:Type}{x:String}{a:α}{l:List (String×α)}(h:keyIn x l=some a):(x,a)∈l:=by
 refine c1_2 (Option.map_eq_some_iff.mp h) fun p hp hf=>?_
 rw [← eq_of_beq (List.find?_some (p:=fun p:String×α=>p.1==x) hp),← hf]
 exact List.mem_of_find?_eq_some hp
noncomputable def glTab(x:String):Option Addr:=keyIn x glR
theorem gl_ok(w:World){x:String}{a:Addr}(h:glTab x=some a):nsIn (Fg w) mainGlobals (Str.ofString x)=some (some (.ref a))∧keepIn (Fg w) (.ref a)=true:=by
 have t:=List.all_eq_true.mp (gl_tab w) _ (keyIn_mem h)
 simp only [Bool.and_eq_true,beq_iff_eq] at t
 exact t
noncomputable def blTab(x:String):Option Value:=keyIn x blR
theorem bl_ok(w:World){x:String}{f:Value}(h:blTab x=some f):nsIn (Fg w) mainGlobals (Str.ofString x)=some none∧bootBuiltins (Str.ofString x)=some f∧noRef f=true:=by
 have t:=List.all_eq_true.mp (bl_tab w) _ (keyIn_mem h)
 simp only [Bool.and_eq_true,beq_iff_eq] at t
 exact t
noncomputable def stepR:List (String×Int):=[("STEP_CREATE",1),("STEP_REMOVE",2),("STEP_RENAME",3)]
theorem step_tab(w:World):stepR.all (fun r=>nsIn (Fg w) mainGlobals (Str.ofString r.1)==some (some (.int r.2 (2*r.2+321).toNat)))=true:=by kernel_rfl
noncomputable def stepK(x:String):Option Int:=keyIn x stepR
noncomputable def excOk(c:Addr):Bool:=excR.contains c
structure ExcOk(w:World)(c:Addr):Prop where
 exc:excIn (Fg w) c [.type "Exception",.type "BaseException",.type "object"] "Exception.__new__"=true
 cls:(clsIn (Fg w) c).isSome=true
 look:subIn (Fg w) (.ref c) (.type "BaseException")=some true∧instIn (Fg w) (.ref c) (.type "tuple")=some false
 sub:∀ d,excOk d=true→subIn (Fg w) (.ref c) (.ref d)=some (decide (c=d))
theorem exc_ok(w:World){c:Addr}(h:excOk c=true):ExcOk w c:=by
 have t:=List.all_eq_true.mp (exc_tab w) c (List.contains_iff_mem.mp h)
 simp only [Bool.and_eq_true,beq_iff_eq,List.all_eq_true] at t
 exact ⟨t.1,t.2.1,⟨t.2.2.1,t.2.2.2.1⟩,fun d hd=>t.2.2.2.2 d (List.contains_iff_mem.mp hd)⟩
variable(w:World)
theorem fn_Node_init:FnAt w 125 (inCls 13 0) "Node.__init__":=fnAt w 0 rfl
theorem fn_Node_unsynced:FnAt w 132 (inCls 13 1) "Node.unsynced":=fnAt w 1 rfl
theorem fn_Node_copy:FnAt w 139 (inCls 13 2) "Node.copy":=fnAt w 2 rfl
theorem fn_DirStep_init:FnAt w 160 (inCls 14 0) "DirStep.__init__":=fnAt w 3 rfl
theorem fn_DirStep_happen:FnAt w 167 (inCls 14 1) "DirStep.happen":=fnAt w 4 rfl
theorem fn_File_init:FnAt w 188 (inCls 15 0) "File.__init__":=fnAt w 5 rfl
theorem fn_File_ready:FnAt w 195 (inCls 15 1) "File.ready":=fnAt w 6 rfl
theorem fn_File_append:FnAt w 202 (inCls 15 2) "File.append":=fnAt w 7 rfl
theorem fn_File_sync:FnAt w 209 (inCls 15 3) "File.sync":=fnAt w 8 rfl
theorem fn_File_close:FnAt w 216 (inCls 15 4) "File.close":=fnAt w 9 rfl
theorem fn_File_length:FnAt w 223 (inCls 15 5) "File.length":=fnAt w 10 rfl
theorem fn_Disk_init:FnAt w 244 (inCls 16 0) "Disk.__init__":=fnAt w 11 rfl
theorem fn_Disk_set_budget:FnAt w 251 (inCls 16 1) "Disk.set_budget":=fnAt w 12 rfl
theorem fn_Disk_check_alive:FnAt w 258 (inCls 16 2) "Disk.check_alive":=fnAt w 13 rfl
theorem fn_Disk_take_steps:FnAt w 265 (inCls 16 3) "Disk.take_steps":=fnAt w 14 rfl
theorem fn_Disk_one_step:FnAt w 272 (inCls 16 4) "Disk.one_step":=fnAt w 15 rfl
theorem fn_Disk_node_of:FnAt w 279 (inCls 16 5) "Disk.node_of":=fnAt w 16 rfl
theorem fn_Disk_dir_step:FnAt w 286 (inCls 16 6) "Disk.dir_step":=fnAt w 17 rfl
theorem fn_Disk_keep_creation:FnAt w 293 (inCls 16 7) "Disk.keep_creation":=fnAt w 18 rfl
theorem fn_Disk_create:FnAt w 300 (inCls 16 8) "Disk.create":=fnAt w 19 rfl
theorem fn_Disk_create_over:FnAt w 307 (inCls 16 9) "Disk.create_over":=fnAt w 20 rfl
theorem fn_Disk_append_to:FnAt w 314 (inCls 16 10) "Disk.append_to":=fnAt w 21 rfl
theorem fn_Disk_remove:FnAt w 321 (inCls 16 11) "Disk.remove":=fnAt w 22 rfl
theorem fn_Disk_rename:FnAt w 328 (inCls 16 12) "Disk.rename":=fnAt w 23 rfl
theorem fn_Disk_sync_dir:FnAt w 335 (inCls 16 13) "Disk.sync_dir":=fnAt w 24 rfl
theorem fn_Disk_read:FnAt w 342 (inCls 16 14) "Disk.read":=fnAt w 25 rfl
theorem fn_Disk_size:FnAt w 349 (inCls 16 15) "Disk.size":=fnAt w 26 rfl
theorem fn_Disk_has:FnAt w 356 (inCls 16 16) "Disk.has":=fnAt w 27 rfl
theorem fn_Disk_names:FnAt w 363 (inCls 16 17) "Disk.names":=fnAt w 28 rfl
theorem fn_Disk_power_cut:FnAt w 370 (inCls 16 18) "Disk.power_cut":=fnAt w 29 rfl
theorem fn_Disk_copy:FnAt w 377 (inCls 16 19) "Disk.copy":=fnAt w 30 rfl
theorem fn_Disk_row:FnAt w 384 (inCls 16 20) "Disk.row":=fnAt w 31 rfl
theorem fn_SubDisk_init:FnAt w 405 (inCls 17 0) "SubDisk.__init__":=fnAt w 32 rfl
theorem fn_SubDisk_alive:FnAt w 412 (inCls 17 1) "SubDisk.alive":=fnAt w 33 rfl
theorem fn_SubDisk_spent:FnAt w 420 (inCls 17 2) "SubDisk.spent":=fnAt w 34 rfl
theorem fn_SubDisk_set_budget:FnAt w 428 (inCls 17 3) "SubDisk.set_budget":=fnAt w 35 rfl
theorem fn_SubDisk_create:FnAt w 435 (inCls 17 4) "SubDisk.create":=fnAt w 36 rfl
theorem fn_SubDisk_create_over:FnAt w 442 (inCls 17 5) "SubDisk.create_over":=fnAt w 37 rfl
theorem fn_SubDisk_append_to:FnAt w 449 (inCls 17 6) "SubDisk.append_to":=fnAt w 38 rfl
theorem fn_SubDisk_remove:FnAt w 456 (inCls 17 7) "SubDisk.remove":=fnAt w 39 rfl
theorem fn_SubDisk_rename:FnAt w 463 (inCls 17 8) "SubDisk.rename":=fnAt w 40 rfl
theorem fn_SubDisk_sync_dir:FnAt w 470 (inCls 17 9) "SubDisk.sync_dir":=fnAt w 41 rfl
theorem fn_SubDisk_read:FnAt w 477 (inCls 17 10) "SubDisk.read":=fnAt w 42 rfl
theorem fn_SubDisk_size:FnAt w 484 (inCls 17 11) "SubDisk.size":=fnAt w 43 rfl
theorem fn_SubDisk_has:FnAt w 491 (inCls 17 12) "SubDisk.has":=fnAt w 44 rfl
theorem fn_SubDisk_names:FnAt w 498 (inCls 17 13) "SubDisk.names":=fnAt w 45 rfl
theorem fn_SubDisk_power_cut:FnAt w 505 (inCls 17 14) "SubDisk.power_cut":=fnAt w 46 rfl
theorem fn_SubDisk_copy:FnAt w 512 (inCls 17 15) "SubDisk.copy":=fnAt w 47 rfl
theorem fn_SubDisk_row:FnAt w 519 (inCls 17 16) "SubDisk.row":=fnAt w 48 rfl
theorem fn_law_names:FnAt w 533 (atTop 19) "_law_names":=fnAt w 49 rfl
theorem fn_law_kinds:FnAt w 540 (atTop 20) "_law_kinds":=fnAt w 50 rfl
theorem fn_law_draw:FnAt w 547 (atTop 21) "_law_draw":=fnAt w 51 rfl
theorem fn_law_does:FnAt w 554 (atTop 22) "_law_does":=fnAt w 52 rfl
theorem fn_law_length:FnAt w 561 (atTop 23) "_law_length":=fnAt w 53 rfl
theorem fn_law_alike:FnAt w 568 (atTop 24) "_law_alike":=fnAt w 54 rfl
theorem fn_law_dead:FnAt w 575 (atTop 25) "_law_dead":=fnAt w 55 rfl
theorem fn_law:FnAt w 580 (atTop 26) "law":=⟨pmL,579,by kernel_rfl,by kernel_rfl⟩
theorem cls_SubDisk:ClsOk w 522:=clsB_ok (by kernel_rfl)
theorem pr_alive:findIn (Fg w) (.ref 522) (Str.ofString "alive")=some (some (.ref 413)):=by kernel_rfl
theorem pg_alive:specialIn (Fg w) (.ref 413) "__get__"=some (some (.builtin "property.__get__")):=by kernel_rfl
theorem pt_alive:takesIn (Fg w) (.ref 413)=some true:=by kernel_rfl
theorem pc_alive:∃ rest,recIn (Fg w) 413 "property"=some (.ref 412::rest):=⟨[.none,.none,.none,.str (Str.ofString "alive") 733,.bool false],by kernel_rfl⟩
theorem pr_spent:findIn (Fg w) (.ref 522) (Str.ofString "spent")=some (some (.ref 421)):=by kernel_rfl
theorem pg_spent:specialIn (Fg w) (.ref 421) "__get__"=some (some (.builtin "property.__get__")):=by kernel_rfl
theorem pt_spent:takesIn (Fg w) (.ref 421)=some true:=by kernel_rfl
theorem pc_spent:∃ rest,recIn (Fg w) 421 "property"=some (.ref 420::rest):=⟨[.none,.none,.none,.str (Str.ofString "spent") 741,.bool false],by kernel_rfl⟩
theorem stepK_ok{x:String}{i:Int}(h:stepK x=some i):∃ t,nsIn (Fg w) mainGlobals (Str.ofString x)=some (some (.int i t)):=by
 have t:=List.all_eq_true.mp (step_tab w) _ (keyIn_mem h)
 exact ⟨_,eq_of_beq t⟩
end
theorem isStr_key{x y:String}{t:Tok}:(Value.str (Str.ofString x) t).isStr (Str.ofString y)=decide (y=x):=by
 show (Str.ofString x==Str.ofString y)=_
 by_cases h:y=x
 ·subst h;simp
 ·have:¬ Str.ofString x=Str.ofString y:=fun e=>h (ofString_inj e).symm
  simp [h,this]
theorem FR.look{μ:Mu}{x:String}{fs:List (String×MV)}{es:List DictEntry}(h:FR μ fs es):lget x fs=none∧es.find? (·.key.isStr (Str.ofString x))=none∨∃ v e,lget x fs=some v∧es.find? (·.key.isStr (Str.ofString x))=some e∧VR μ v e.val:=by
 refine All2.ind (M:=fun fs es=>lget x fs=none∧es.find? (·.key.isStr (Str.ofString x))=none∨∃ v e,lget x fs=some v∧es.find? (·.key.isStr (Str.ofString x))=some e∧VR μ v e.val) h (.inl ⟨rfl,rfl⟩) fun {p e ps es} r _ ih=>?_
 have hk:e.key.isStr (Str.ofString x)=decide (x=p.1):=r.1.elim fun t hk=>by rw [hk];exact isStr_key
 rw [List.find?_cons]
 by_cases hxy:x=p.1
 ·rw [hk,decide_eq_true hxy];exact .inr ⟨p.2,e,if_pos hxy,rfl,r.2⟩
 ·rw [hk,decide_eq_false hxy,show lget x (p::ps)=lget x ps from if_neg hxy];exact ih
theorem FR.get{μ:Mu}{x:String}{v:MV}{fs:List (String×MV)}{es:List DictEntry}(h:FR μ fs es)(hv:lget x fs=some v):∃ V,getL (Str.ofString x) es=some (some V)∧VR μ v V:=by
 rcases FR.look (x:=x) h with z | z
 ·exact nos (z.1.symm.trans hv)
 ·refine c2_3 z fun u e h1 h2 h3=>⟨e.val,?_,Option.some.inj (h1.symm.trans hv)▸h3⟩
  unfold getL;rw [h2]
theorem FR.noRef{μ:Mu}{fs:List (String×MV)}{es:List DictEntry}(h:FR μ fs es):es.any (·.refKey)=false :=
 All2.ind (M:=fun _ es=>es.any (·.refKey)=false) h rfl fun {p e ps es} r _ ih=>by
  rw [List.any_cons,ih,Bool.or_false]
  unfold DictEntry.refKey;exact r.1.elim fun t hk=>by rw [hk]
theorem FR.miss{μ:Mu}{x:String}{fs:List (String×MV)}{es:List DictEntry}(hf:FR μ fs es)(h:lget x fs=none):getL (Str.ofString x) es=some none:=by
 rcases FR.look (x:=x) hf with z | z
 ·unfold getL;rw [z.2];dsimp only;rw [hf.noRef];rfl
 ·refine c2_3 z fun u e h1 _ _=>nos (h.symm.trans h1)
theorem FR.put{μ:Mu}{x:String}{v:MV}{V:Value}{hsh:Int}{t:Tok}(hv:VR μ v V){fs:List (String×MV)}{es:List DictEntry}(h:FR μ fs es):FR μ (lset x v fs) (putL (Str.ofString x) hsh (.str (Str.ofString x) t) V es):=by
 refine All2.ind (M:=fun fs es=>FR μ (lset x v fs) (putL (Str.ofString x) hsh (.str (Str.ofString x) t) V es)) h ⟨⟨⟨t,rfl⟩,hv⟩,trivial⟩ fun {p e ps es} r k ih=>?_
 have hk:e.key.isStr (Str.ofString x)=decide (x=p.1):=r.1.elim fun t hk=>by rw [hk];exact isStr_key
 unfold putL
 by_cases hxy:x=p.1
 ·rw [hk,decide_eq_true hxy,show lset x v (p::ps)=(x,v)::ps from if_pos hxy];exact ⟨⟨by rw [hxy];exact r.1,hv⟩,k⟩
 ·rw [hk,decide_eq_false hxy,show lset x v (p::ps)=p::lset x v ps from if_neg hxy];exact ⟨r,ih⟩
theorem lset_length(x:String)(v:MV):∀ fs:Loc,(lset x v fs).length≤fs.length+1
 | []=>Nat.le_refl _
 | (y,u)::r=>by
  unfold lset
  split
  ·exact Nat.le_succ _
  ·exact Nat.succ_le_succ (lset_length x v r)
section
variable{X:Cx}{μ:Mu}{σ:Hp}{it:List (Addr×Obj)}{fr:List FrRec}{s:Shared}{A:Around}{E:Value→Shared→Prop}
theorem HSt.inK(H:HSt X μ σ it fr s):(Fg X.w).In s.heap:=fun a o e=>H.stays _ _ (H.ok.inK a o e)
theorem handed_of{μ:Mu}{v:MV}{V:Value}(h:VR μ v V)(hn:∀ u,v≠.top u):handedIn V=true:=by
 cases v with
 | none=>rw [show V=.none from h];rfl
 | bool b=>rw [show V=.bool b from h];rfl
 | int i=>refine c1_1 h ?_;rintro t rfl;rfl
 | str i=>refine c1_1 h ?_;rintro t rfl;rfl
 | bytes i=>refine c1_1 h ?_;rintro t rfl;rfl
 | ref a=>refine c2_2 h ?_;rintro x d _ rfl;rfl
 | top u=>exact absurd rfl (hn u)
noncomputable def MV.plain:MV→Bool | .top _=>false | _=>true
theorem MV.plain_ne{v:MV}(h:v.plain=true):∀ u,v≠.top u:=fun u e=>by subst e;cases h
theorem inst_at{a:MA}{C x d:Addr}{fs:List (String×MV)}(H:HSt X μ σ it fr s)(ha:σ a=some (.inst C fs))(hm:μ a=some (x,d)):∃ es n,s.heap.get? x=some (instObj C d)∧s.heap.get? d=some (dictOf es n)∧FR μ fs es∧PySem.W.InstAt s.heap x (instObj C d) C (some (dictOf es n)):=by
 obtain ⟨x',d',m',es,n,h1,h2,h3⟩:=H.dom a _ ha
 rw [hm] at m';cases m'
 exact ⟨es,n,h1,h2,h3,h1,rfl,rfl,h2⟩
theorem getAttr_field{a:MA}{C:Addr}{fs:List (String×MV)}{f:String}{v:MV}{V:Value}{b:Bool}{Q:Value→Shared→Prop}(H:HSt X μ σ it fr s)(ha:σ a=some (.inst C fs))(hV:VR μ (.ref a) V)(hf:isField C f=true)
  (hv:lget f fs=some v) (hp:v.plain=true) (h:∀ U t,VR μ v U→Q U { s with toks:=t }):wpAny (model prog X.w) A (getAttr V (Str.ofString f) b) Q E s:=by
 refine c2_2 hV ?_;rintro x d hm rfl
 refine c2_4 (inst_at H ha hm) fun es n h1 h2 h3 I=>?_
 refine c0_2 (field_ok X.w hf) fun co hn=>?_
 refine c1_2 (h3.get hv) fun U g1 g2=>?_
 refine get_value H.inK I (plainGet_of (name:=Str.ofString "") co.ga).1 (findObj_own co.hd hn rfl ?_) (handed_of g2 (MV.plain_ne hp)) (h U _ g2)
 rw [lookIn_dict,g1]
theorem getMethod_inst{a:MA}{C f:Addr}{fs:List (String×MV)}{m:String}{V:Value}{pl:Sem Bool}{Q:Value×List Value→Shared→Prop}(H:HSt X μ σ it fr s)(ha:σ a=some (.inst C fs))(hV:VR μ (.ref a) V)(M:MethOk X.w C m f)
  (hv:lget m fs=none) (h:Q (.ref f,[V]) s):wpAny (model prog X.w) A (getMethod V (Str.ofString m) pl) Q E s:=by
 rcases hV with ⟨x,d,hm,rfl⟩
 refine c2_4 (inst_at H ha hm) fun es n h1 h2 h3 I=>?_
 have g:=plainGet_of (name:=Str.ofString "") M.cls.ga
 exact method_fn H.inK I g.1 g.2 M.find (beq_iff_eq.mp M.fn) (by show (lookIn _ (dictOf es n)).map _=_;rw [lookIn_dict,h3.miss hv];rfl) h
theorem osa_inst{a:MA}{C x d:Addr}{fs:List (String×MV)}{f:String}{v:MV}{U:Value}{tk:Tok}{R:Result→Shared→Prop}(H:HSt X μ σ it fr s)(ha:σ a=some (.inst C fs))(hm:μ a=some (x,d))(hU:VR μ v U)(hf:isField C f=true)(hl:fs.length≤100)
  (h:∀ s',(∀ it fr,HSt X μ σ it fr s→HSt X μ (upd σ a (.inst C (lset f v fs))) it fr s')→R (.ok (.ret .none)) s'):codeAny (model prog X.w) A (.call (.builtin "object.__setattr__") ⟨[.ref x,.str (Str.ofString f) tk,U],[]⟩) R s:=by
 refine c2_4 (inst_at H ha hm) fun es n h1 h2 h3 I=>?_
 refine c0_2 (field_ok X.w hf) fun co hn=>?_
 have K:=H.inK
 have ht:takerIn (Fg X.w) C (Str.ofString f)=some none:=by unfold takerIn;rw [hn];rfl
 refine osa_open K I co.po ht fun b=>?_
 refine c1_2 (any_some co.hd) fun cd hc hd'=>?_
 refine wpAny_bind (wpAny_pure (wpAny_bind (wpAny_bind (wpAny_loadPart h1 (wpAny_bind ((looks_clsIn K hc).here ?_))))))
 rw [hd']
 refine wpAny_pure (a:=some d) (wpAny_bind (wpAny_pure (wpAny_bind ?_)))
 unfold nsSet
 refine wpAny_bind (wpAny_bind (wpAny_askSetting (wpAny_pure (wpAny_bind (wpAny_mkText (wpAny_bind (wpAny_loadPart h2 ?_)))))))
 have c:(!es.toArray.any (·.key.isStr (Str.ofString f)) && es.toArray.any (·.refKey))=false:=by
  rw [← Array.any_toList,← Array.any_toList]
  show (!es.any _ && es.any _)=false
  rw [h3.noRef,Bool.and_false]
 dsimp only
 rw [aRefKeyMayBeTheName_at,c]
 let hsh:=PyData.keyHash X.w.params (Str.ofString f)
 have eo:Obj.putName (Str.ofString f) hsh (.str (Str.ofString f) s.toks) U (dictOf es n)=dictOf (putL (Str.ofString f) hsh (.str (Str.ofString f) s.toks) U es) (putN (Str.ofString f) es n):=putName_dict ..
 have hgd:((s.heap.update d (Obj.putName (Str.ofString f) hsh (.str (Str.ofString f) s.toks) U))).get? d=some (dictOf (putL (Str.ofString f) hsh (.str (Str.ofString f) s.toks) U es) (putN (Str.ofString f) es n)):=by
  rw [← eo];exact Heap.get?_update_self _ h2 (by rw [eo];rfl)
 have hsb:Heap.SameBut d s.heap (s.heap.update d (Obj.putName (Str.ofString f) hsh (.str (Str.ofString f) s.toks) U)):=Heap.SameBut.update ..
 refine wpAny_updatePart h2 ?_
 have hF:=FR.put (x:=f) (hsh:=hsh) (t:=s.toks) hU h3
 have hxd:x≠d:=fun e=>by subst e;rw [h1] at h2;cases h2
 refine wpAny_bind (wpAny_lookBehind hgd (pastItsLine_dict ?_) ?_)
 ·rw [List.size_toArray,sizeLine_eq,hF.length]
  have:=lset_length f v fs
  lia
 ·refine wpAny_pure (h _ fun it fr H=>?_)
  exact H.change ha hm (fun b o hb hb' e=>(hsb.2 b hb').trans e) rfl rfl ⟨_,_,(hsb.2 x hxd).trans h1,hgd,hF⟩ ⟨_,(hsb.2 x hxd).trans h1⟩ ⟨_,hgd⟩
theorem setAttr_field{a:MA}{C:Addr}{fs:List (String×MV)}{f:String}{v:MV}{V U:Value}{Q:Unit→Shared→Prop}(H:HSt X μ σ it fr s)(ha:σ a=some (.inst C fs))(hV:VR μ (.ref a) V)(hU:VR μ v U)(hf:isField C f=true)(hl:fs.length≤100)
  (h:∀ s',(∀ it fr,HSt X μ σ it fr s→HSt X μ (upd σ a (.inst C (lset f v fs))) it fr s')→Q () s'):wpAny (model prog X.w) A (setAttr V (Str.ofString f) U) Q E s:=by
 refine c2_2 hV ?_;rintro x d hm rfl
 refine c2_4 (inst_at H ha hm) fun es n h1 h2 h3 I=>?_
 exact set_plain H.inK I (field_ok X.w hf).1.sa (osa_inst H.toks ha hm hU hf hl fun s' h'=>h s' fun it fr H=>h' it fr H.toks)
end
abbrev noSuper(e:Expr):Prop:=attributeBase e=fun _ _ w=>w
theorem attributeBase_plain{o:Expr}{attr:Str}{env:Env}{whole:Sem Value}(h:noSuper o):attributeBase o attr env whole=whole:=congrFun (congrFun (congrFun h attr) env) whole
inductive CPost(X:Cx)(μ:Mu)(it:List (Addr×Obj))(fr:List FrRec)(frs:List Env)(Q:MV→Hp→Prop)(E:Addr→Hp→Prop):Result→Shared→Prop
 | ret {V:Value} {s':Shared} (μ':Mu) (v:MV) (σ':Hp) (e:Ext μ μ') (r:VR μ' v V) (H:HSt X μ' σ' it fr s') (q:Q v σ'):CPost X μ it fr frs Q E (.ok (.ret V)) s'
 | err {e:Addr} {s':Shared} (μ':Mu) (c:Addr) (σ':Hp) (x:Ext μ μ') (f:Flies X μ' σ' it fr frs c e s') (q:E c σ'):CPost X μ it fr frs Q E (.error (.ref e)) s'
noncomputable def CallJ(X:Cx)(c:Bool)(n:Nat)(b:Bool)(f:Value)(args:List MV)(σ:Hp)(Q:MV→Hp→Prop)(E:Addr→Hp→Prop):Prop :=
 ∀ A frs μ it fr s Vs,AOk n b A frs (fr.map (·.1))→HSt X μ σ it fr s→VRs μ args Vs →
  codeN c (model prog X.w) A (.call f ⟨Vs,[]⟩) (CPost X μ it fr frs Q E) s
@[reducible] def At{β:Type}(ρ:Loc)(Q:β→Hp→Loc→Prop)(v:β)(σ:Hp):Prop:=Q v σ ρ
section
variable{X:Cx}{G:Gm}{σ:Hp}{ρ:Loc}{Q:MV→Hp→Loc→Prop}{E:Addr→Hp→Loc→Prop}
theorem CallJ.mono{n:Nat}{b c:Bool}{f:Value}{args:List MV}{Q Q':MV→Hp→Prop}{E E':Addr→Hp→Prop}(h:CallJ X c n b f args σ Q E)(hQ:∀ v σ,Q v σ→Q' v σ)(hE:∀ c σ,E c σ→E' c σ):CallJ X c n b f args σ Q' E' :=
 fun A frs μ it fr s Vs ha hs hv=>codeN_mono (h A frs μ it fr s Vs ha hs hv) fun r s' z=>by
  induction z with
  | ret μ' v σ' a b c d=>exact .ret μ' v σ' a b c (hQ _ _ d)
  | err μ' c σ' a b d=>exact .err μ' c σ' a b (hE _ _ d)
theorem CallJ.up{n:Nat}{b c:Bool}{f:Value}{args:List MV}{Q:MV→Hp→Prop}{E:Addr→Hp→Prop}(h:CallJ X false n b f args σ Q E):CallJ X c n b f args σ Q E :=
 fun A frs μ it fr s Vs ha hs hv=>n_code (n_codeAny (h A frs μ it fr s Vs ha hs hv))
theorem CallJ.le{n n':Nat}{b c:Bool}{f:Value}{args:List MV}{Q:MV→Hp→Prop}{E:Addr→Hp→Prop}(h:CallJ X c n b f args σ Q E)(hn:n≤n'):CallJ X c n' b f args σ Q E :=
 fun A frs μ it fr s Vs ha hs hv=>h A frs μ it fr s Vs ⟨ha.frames,ha.out,by have:=ha.depth;lia,by have:=ha.units;lia,ha.han⟩ hs hv
theorem CallJ.forget{n:Nat}{b c:Bool}{f:Value}{args:List MV}{Q:MV→Hp→Prop}{E:Addr→Hp→Prop}{σ':Hp}(h:CallJ X c n b f args σ' Q E)(h1:∀ a o,σ' a=some o→o=.dead∨σ a=some o)(h2:∀ a,σ' a=none→σ a=none)(h3:∀ a,σ' a≠none→σ a≠none):CallJ X c n b f args σ Q E :=
 fun A frs μ it fr s Vs ha hs hv=>h A frs μ it fr s Vs ha (hs.weaken h1 h2 h3) hv
theorem call_frame{n:Nat}{b c:Bool}{f:Value}{args:List MV}{Vs:List Value}{QC:MV→Hp→Prop}{EC:Addr→Hp→Prop}{A:Around}{env:Env}{frs:List Env}{μ:Mu}{it:List (Addr×Obj)}{fr:List FrRec}{s:Shared}
  (h:CallJ X c n b f args σ QC EC) (ha:AOk n b A frs (env.locals::fr.map (·.1))) (hs:FSt X μ σ env ρ it fr s) (hv:VRs μ args Vs)
  (hQ:∀ v σ',QC v σ'→Q v σ' ρ) (hE:∀ c σ',EC c σ'→E c σ' ρ):wpN c (model prog X.w) A (call f Vs []) (GPost X μ env it fr VR Q) (EPost X μ env it fr frs E) s:=by
 obtain ⟨es,ep,own,H,k,r,o⟩:=hs
 refine n_call (codeN_mono (h A frs μ (own++it) ((env.locals,es,ep)::fr) s Vs ha H hv) fun res s' z=>?_)
 induction z with
 | err μ' c σ' h1 h2 h3=>exact ⟨μ',c,σ',ρ,h1,⟨es,ep,own,.flies _ h2,k,r.mono h1,o⟩,hE _ _ h3⟩
 | ret μ' v σ' h1 h2 h3 h4=>exact ⟨μ',v,σ',ρ,h1,h2,⟨es,ep,own,h3,k,r.mono h1,o⟩,hQ _ _ h4⟩
noncomputable def noStar(e:Expr):Bool:=!(Nat.beq e.ctorIdx 22)
theorem starEach_cons{e:Expr}{rest:List Expr}{env:Env}(h:noStar e=true):starEach (e::rest) env=(false,eval e env)::starEach rest env:=by
 cases e <;> first | rfl | cases h
noncomputable abbrev EvArgs(X:Cx)(G:Gm)(pos:Pos)(args:List Expr):=J X G VRs (fun env=>spliced (backTo pos (starEach args env)))
theorem EvArgs.nil{pos:Pos}{Q:List MV→Hp→Loc→Prop}(h:Q [] σ ρ):EvArgs X G pos [] σ ρ Q E:=fun A env frs μ it fr s he ha hs=>n_up <| spliced_nil ⟨μ,[],σ,ρ,.refl _,trivial,hs,h⟩
def kCons(v:MV)(Q:List MV→Hp→Loc→Prop)(vs:List MV)(σ:Hp)(ρ:Loc):Prop:=Q (v::vs) σ ρ
theorem kCons.go{v:MV}{Q:List MV→Hp→Loc→Prop}{vs:List MV}{σ:Hp}{ρ:Loc}(h:Q (v::vs) σ ρ):kCons v Q vs σ ρ:=h
@[reducible] def kRest(X:Cx)(G:Gm)(pos:Pos)(rest:List Expr)(Q:List MV→Hp→Loc→Prop)(E:Addr→Hp→Loc→Prop)(v:MV)(σ:Hp)(ρ:Loc):Prop:=EvArgs X G pos rest σ ρ (kCons v Q) E
theorem EvArgs.cons{pos:Pos}{e:Expr}{rest:List Expr}{Q:List MV→Hp→Loc→Prop}(h:EvE X G e σ ρ (kRest X G pos rest Q E) E)(hn:noStar e=true:=by rfl):EvArgs X G pos (e::rest) σ ρ Q E:=fun A env frs μ it fr s he ha hs=>by
 show wpN _ _ _ (spliced (backTo pos (starEach (e::rest) env))) _ _ _
 rw [starEach_cons hn]
 refine n_spliced_cons (n_mono (h A env frs μ it fr s he ha hs) ?_ fun _ _ x=>x)
 rintro V s₁ ⟨μ₁,v,σ₁,ρ₁,e₁,r₁,hs₁,hq⟩
 refine n_mono (hq A env frs μ₁ it fr s₁ he ha hs₁) ?_ fun _ _=>.ext e₁
 rintro Vs s₂ ⟨μ₂,vs,σ₂,ρ₂,e₂,r₂,hs₂,hq₂⟩
 exact ⟨μ₂,v::vs,σ₂,ρ₂,e₁.trans e₂,⟨r₁.mono e₂,r₂⟩,hs₂,hq₂⟩
noncomputable def allPlain:List Expr→Bool
 | []=>true
 | e::r=>noStar e && allPlain r
theorem plain_any{pos:Pos}{env:Env}:∀ {args:List Expr},allPlain args=true→(backTo pos (starEach args env)).any (·.1)=false
 | [],_=>rfl
 | e::r,h=>by
  unfold allPlain at h
  refine c0_2 (Bool.and_eq_true_iff.mp h) fun h1 h2=>?_
  rw [starEach_cons h1]
  show (false || (backTo pos (starEach r env)).any (·.1))=false
  rw [plain_any h2];rfl
theorem plain_all{pos:Pos}{env:Env}{args:List Expr}(h:allPlain args=true):(backTo pos (starEach args env)).all (fun x=>!x.1)=true:=by
 have:=plain_any (pos:=pos) (env:=env) h
 rw [List.all_eq_not_any_not]
 simp only [Bool.not_not]
 rw [this];rfl
theorem FSt.inK{μ:Mu}{env:Env}{it:List (Addr×Obj)}{fr:List FrRec}{s:Shared}(F:FSt X μ σ env ρ it fr s):(Fg X.w).In s.heap:=let ⟨_,_,_,H,_,_,_⟩:=F;H.inK
@[reducible] def kCall(X:Cx)(G:Gm)(f:Value)(Q:MV→Hp→Loc→Prop)(E:Addr→Hp→Loc→Prop)(vs:List MV)(σ:Hp)(ρ:Loc):Prop:=CallJ X G.c G.n G.b f vs σ (At ρ Q) (At ρ E)
@[reducible] def kMeth(X:Cx)(G:Gm)(f:Addr)(a:MA)(Q:MV→Hp→Loc→Prop)(E:Addr→Hp→Loc→Prop)(vs:List MV)(σ:Hp)(ρ:Loc):Prop:=CallJ X G.c G.n G.b (.ref f) (.ref a::vs) σ (At ρ Q) (At ρ E)
theorem callWith_args{cpos apos:Pos}{f:Value}{first:List MV}{fV:List Value}{args:List Expr}{A:Around}{env:Env}{frs:List Env}{μ:Mu}{it:List (Addr×Obj)}{fr:List FrRec}{s:Shared}
  (hk:keepIn (Fg X.w) f=true) (hp:allPlain args=true) (he:EnvOk G env frs) (ha:AOk G.n G.b A frs (env.locals::fr.map (·.1))) (hs:FSt X μ σ env ρ it fr s) (hf:VRs μ first fV)
  (h:EvArgs X G apos args σ ρ (fun vs σ₁ ρ₁=>CallJ X G.c G.n G.b f (first++vs) σ₁ (fun v σ₂=>Q v σ₂ ρ₁) (fun c σ₂=>E c σ₂ ρ₁)) E) :
  wpN G.c (model prog X.w) A (callWith cpos f fV (backTo apos (starEach args env)) []) (GPost X μ env it fr VR Q) (EPost X μ env it fr frs E) s:=by
 have fin:∀ Vs s₁,GPost X μ env it fr VRs (fun vs σ₁ ρ₁=>CallJ X G.c G.n G.b f (first++vs) σ₁ (fun v σ₂=>Q v σ₂ ρ₁) (fun c σ₂=>E c σ₂ ρ₁)) Vs s₁ →
   (Fg X.w).In s₁.heap∧wpN G.c (model prog X.w) A (call f (fV++Vs) []) (GPost X μ env it fr VR Q) (EPost X μ env it fr frs E) s₁:=by
  rintro Vs s₁ ⟨μ₁,vs,σ₁,ρ₁,e₁,r₁,hs₁,hq⟩
  exact ⟨hs₁.inK,n_mono (call_frame (Q:=Q) (E:=E) hq ha hs₁ ((hf.mono e₁).append r₁) (fun _ _ h=>h) fun _ _ h=>h) (fun _ _=>.ext e₁) fun _ _=>.ext e₁⟩
 refine n_callWith (P:=(Fg X.w).In) (plain_any hp) (keeps_K hk) ?_
 have hh:=h A env frs μ it fr s he ha hs
 cases args with
 | nil=>exact n_evalArgs_none (n_mono hh fin fun _ _ x=>x)
 | cons e rest =>
  have hn:noStar e=true:=(Bool.and_eq_true_iff.mp hp).1
  have hh':wpN G.c (model prog X.w) A (spliced (backTo apos (starEach (e::rest) env))) _ _ s:=hh
  rw [starEach_cons hn] at hh' ⊢
  exact n_evalArgs_plain (n_mono hh' fin fun _ _ x=>x)
theorem EvE.callG{x:String}{np pos:Pos}{args:List Expr}{f:Value}(hx:G.S.glbs.contains x=true)(hv:nsIn (Fg X.w) mainGlobals (Str.ofString x)=some (some f))(hk:keepIn (Fg X.w) f=true)
  (h:EvArgs X G pos args σ ρ (kCall X G f Q E) E) (hp:allPlain args=true:=by rfl):EvE X G (.Call (.Name (Str.ofString x) np) args [] pos) σ ρ Q E:=fun A env frs μ it fr s he ha hs=>by
 refine n_callName ?_
 have n:EvE X G (.Name (Str.ofString x) np) σ ρ (fun v σ₁ ρ₁=>v=.top f∧σ₁=σ∧ρ₁=ρ) E:=EvE.glob hx hv ⟨rfl,rfl,rfl⟩
 refine n_mono (n A env frs μ it fr s he ha hs) ?_ fun _ _ x=>x
 rintro V s₁ ⟨μ₁,v,σ₁,ρ₁,e₁,r₁,hs₁,rfl,rfl,rfl⟩
 cases (show V=f from r₁)
 exact n_mono (callWith_args (first:=[]) (fV:=[]) hk hp he ha hs₁ trivial h) (fun _ _=>.ext e₁) fun _ _=>.ext e₁
inductive MethP(X:Cx)(G:Gm)(m:String)(pos:Pos)(args:List Expr)(Q:MV→Hp→Loc→Prop)(E:Addr→Hp→Loc→Prop)(ov:MV)(σ:Hp)(ρ:Loc):Prop
 | mk (a:MA) (C f:Addr) (fs:List (String×MV)) (e:ov=.ref a) (h:σ a=some (.inst C fs)) (M:MethOk X.w C m f) (n:lget m fs=none) (k:EvArgs X G pos args σ ρ (kMeth X G f a Q E) E)
theorem EvE.meth{o:Expr}{m:String}{apos pos:Pos}{args:List Expr}
  (h:EvE X G o σ ρ (MethP X G m pos args Q E) E)
  (hns:noSuper o:=by rfl) (hp:allPlain args=true:=by rfl) (hl:(apos.endLine==pos.line)=true:=by rfl) (hn:decide (args.length<30)=true:=by rfl) :
  EvE X G (.Call (.Attribute o (Str.ofString m) apos) args [] pos) σ ρ Q E:=fun A env frs μ it fr s he ha hs=>by
 show wpN _ _ _ (eval (.Call (.Attribute o (Str.ofString m) apos) args [] pos) env) _ _ _
 rw [arm_eval_Call,attributeBase_plain hns]
 refine n_bind (n_mono (h A env frs μ it fr s he ha hs) ?_ fun _ _ x=>x)
 rintro V s₁ ⟨μ₁,v,σ₁,ρ₁,e₁,r₁,hs₁,a,C,f,fs,rfl,hσ,M,hm,hq⟩
 have hform:methodCallForm (args.length+([]:List Keyword).length) (backTo pos (starEach args env)) (backToKw pos (keywordEach [] env))=true:=by
  unfold methodCallForm
  rw [plain_all hp]
  have:=of_decide_eq_true hn
  exact decide_eq_true (by show args.length+0+0<30;lia)
 refine n_stand ?_
 unfold methodCall
 rw [hform]
 obtain ⟨es,ep,own,H,_⟩:=id hs₁
 refine n_bind (n_holding (n_up ?_))
 show wpAny _ _ (getMethod V (Str.ofString m) _) _ _ _
 refine getMethod_inst H hσ r₁ M hm ?_
 dsimp only
 unfold methodCallPos
 refine n_bind (n_pos hl (n_pure ?_))
 exact n_mono (callWith_args (first:=[.ref a]) (fV:=[V]) M.keep hp he ha hs₁ ⟨r₁,trivial⟩ hq) (fun _ _=>.ext e₁) fun _ _=>.ext e₁
inductive AttrP(f:String)(Q:MV→Hp→Loc→Prop)(ov:MV)(σ:Hp)(ρ:Loc):Prop
 | mk (a:MA) (C:Addr) (fs:List (String×MV)) (v:MV) (e:ov=.ref a) (h:σ a=some (.inst C fs)) (i:isField C f=true) (g:lget f fs=some v) (p:v.plain=true) (q:Q v σ ρ)
theorem EvE.attr{e:Expr}{f:String}{pos:Pos}(h:EvE X G e σ ρ (AttrP f Q) E)
  (hns:noSuper e:=by rfl):EvE X G (.Attribute e (Str.ofString f) pos) σ ρ Q E:=fun A env frs μ it fr s he ha hs=>by
 refine n_attr (n_mono (h A env frs μ it fr s he ha hs) ?_ fun _ _ x=>x) ?_
 ·rintro V s₁ ⟨μ₁,ov,σ₁,ρ₁,e₁,r₁,hs₁,a,C,fs,v,rfl,hσ,hf,hv,hp,hq⟩
  obtain ⟨es,ep,own,H,_⟩:=id hs₁
  exact n_up <| getAttr_field H hσ r₁ hf hv hp fun U t hU=>⟨μ₁,v,σ₁,ρ₁,e₁,hU,hs₁.toks,hq⟩
 ·show (do let o ← attributeBase e _ env (eval e env);standAt pos.atName;let r ← holding [o] (getAttr o (Str.ofString f) true);letTemporaryGo e o r;pure r)=_
  rw [attributeBase_plain hns]
inductive SetP(f:String)(R:MF→Hp→Loc→Prop)(v ov:MV)(σ:Hp)(ρ:Loc):Prop
 | mk (a:MA) (C:Addr) (fs:List (String×MV)) (e:ov=.ref a) (h:σ a=some (.inst C fs)) (i:isField C f=true) (n:fs.length≤100) (q:R .next (upd σ a (.inst C (lset f v fs))) ρ)
@[reducible] def kSet(X:Cx)(G:Gm)(o:Expr)(f:String)(R:MF→Hp→Loc→Prop)(E:Addr→Hp→Loc→Prop)(v:MV)(σ:Hp)(ρ:Loc):Prop:=EvE X G o σ ρ (SetP f R v) E
theorem ExS.setattr{o value:Expr}{f:String}{tpos pos:Pos}{R:MF→Hp→Loc→Prop}
  (h:EvE X G value σ ρ (kSet X G o f R E) E)
  (hsw:∀ env,swapsWith value (some (.Attribute o (Str.ofString f) tpos)) pos.line env=pure false:=by intro _;rfl):ExS X G (.Assign [.Attribute o (Str.ofString f) tpos] value pos) σ ρ R E:=fun A env frs μ it fr s he ha hs=>by
 refine n_assignAttr (n_mono (h A env frs μ it fr s he ha hs) ?_ fun _ _ x=>x) (hsw env)
 rintro V s₁ ⟨μ₁,v,σ₁,ρ₁,e₁,r₁,hs₁,hq⟩
 refine n_mono (hq A env frs μ₁ it fr s₁ he ha hs₁) ?_ fun _ _=>.ext e₁
 rintro W s₂ ⟨μ₂,ov,σ₂,ρ₂,e₂,r₂,hs₂,a,C,fs,rfl,hσ,hf,hl,hq₂⟩
 obtain ⟨es,ep,own,H,_⟩:=id hs₂
 exact n_up <| setAttr_field H hσ r₂ (r₁.mono e₂) hf hl fun s' hs'=>⟨μ₂,.next,_,ρ₂,e₁.trans e₂,rfl,hs₂.lift (.refl _) (fun it fr H=>hs' it fr H),hq₂⟩
structure FnSide(st:Stmt)(names:List String)(S:Sc):Prop where
 sc:S.scope=fdScope st
 ok:S.Ok
 bind:∀ q cd pm (Vs:List Value),Vs.length=names.length→bindArgs (fnOf (fdName st) (Str.ofString q) (fdParams st) (fdBody st) (fdScope st) .none .none .none pm none (.ref cd) .none) ⟨Vs,[]⟩=pure ((names.map Str.ofString).zip Vs)
 sub:∀ x∈names,x∈S.locs
 nd:names.Nodup
 cell:∀ x∈(fdScope st).names,x.2≠.cell
 co:(fdScope st).isCoroutine=false
 gen:(fdScope st).isGenerator=false
theorem mem_of_lookup_eq{β:Type}{l:List (Str×β)}{n:Str}{b:β}(hl:l.lookup n=some b):(n,b)∈l:=by
 induction l with
 | nil=>cases hl
 | cons p l ih =>
  obtain ⟨n',b'⟩:=p
  rw [List.lookup_cons] at hl
  by_cases e:(n==n')=true
  ·rw [e] at hl;cases hl;rw [eq_of_beq e];exact .head _
  ·rw [Bool.eq_false_iff.mpr e] at hl;exact .tail _ (ih hl)
theorem lookup_of_mem{l:List (Str×Value)}{k:Str}{v:Value}(hn:(l.map (·.1)).Nodup)(h:(k,v)∈l):l.lookup k=some v:=by
 induction l with
 | nil=>cases h
 | cons p l ih =>
  rw [List.map_cons,List.nodup_cons] at hn
  obtain ⟨k',v'⟩:=p
  rw [List.lookup_cons]
  rcases List.mem_cons.mp h with e | hm
  ·cases e;simp
  ·have:(k==k')=false:=by
    rw [beq_eq_false_iff_ne]
    rintro rfl
    exact hn.1 (List.mem_map.mpr ⟨_,hm,rfl⟩)
   rw [this];exact ih hn.2 hm
theorem lget_zip{μ:Mu}{x:String}{v:MV}{names:List String}{args:List MV}{Vs:List Value}(hv:VRs μ args Vs)(h:lget x (names.zip args)=some v):∃ V,(Str.ofString x,V)∈(names.map Str.ofString).zip Vs∧VR μ v V:=by
 refine All2.ind (M:=fun args Vs=>∀ names:List String,lget x (names.zip args)=some v→∃ V,(Str.ofString x,V)∈(names.map Str.ofString).zip Vs∧VR μ v V) hv (fun names h=>?_) (fun {a V as Vs} r _ ih names h=>?_) names h
 ·rw [List.zip_nil_right] at h;exact nos h
 ·cases names with
  | nil=>exact nos h
  | cons n ns =>
   by_cases e:x=n
   ·exact ⟨V,by rw [e];exact .head _,Option.some.inj ((if_pos e).symm.trans h)▸r⟩
   ·exact c1_2 (ih ns ((if_neg e).symm.trans h)) fun W h1 h2=>⟨W,.tail _ h1,h2⟩
theorem depth_ok{A:Around}{n b frs as}(h:AOk (n+1) b A frs as):A.depth<recursionLimit:=by
 have:=h.depth
 show A.depth<1000
 lia
noncomputable def retOf:MF→MV
 | .next=>.none
 | .ret v=>v
@[reducible] def kEnd(Q:MV→Hp→Prop)(mf:MF)(σ:Hp)(_:Loc):Prop:=Q (retOf mf) σ
@[reducible] def kErr(E:Addr→Hp→Prop)(c:Addr)(σ:Hp)(_:Loc):Prop:=E c σ
theorem CallJ.fn{n:Nat}{b c:Bool}{f:Addr}{st:Stmt}{q:String}{names:List String}{S:Sc}{args:List MV}{QC:MV→Hp→Prop}{EC:Addr→Hp→Prop}(F:FnAt X.w f st q)(D:FnSide st names S)(hlen:args.length=names.length)
  (h:∀ K,Fn QC K→ExSs X ⟨n,b,S,c⟩ (fdBody st) σ (names.zip args) (Go K) (kErr EC)):CallJ X c (n+1) b (.ref f) args σ QC EC:=fun A frs μ it fr s Vs ha hs hv=>by
 replace h:=h (kEnd QC) ⟨fun z=>z,fun z=>z⟩
 refine c2_2 F.ex fun pm cd ho hcd=>?_
 have K:=hs.inK
 have hlenV:Vs.length=names.length:=hv.length.trans hlen
 have hz:(((names.map Str.ofString).zip Vs).map (·.1))=names.map Str.ofString:=by
  rw [List.map_fst_zip]
  simp [hlenV]
 have hnd:(((names.map Str.ofString).zip Vs).map (·.1)).Nodup:=by
  rw [hz]
  exact List.Pairwise.map _ (fun a b hab e=>hab (ofString_inj e)) D.nd
 refine n_callDef (fd:=fnOf (fdName st) (Str.ofString q) (fdParams st) (fdBody st) (fdScope st) .none .none .none pm none (.ref cd) .none) (body:=fdBody st) (binds:=(names.map Str.ofString).zip Vs) (depth_ok ha) (K _ _ ho) rfl (hs.ok.top.nolimit.keeps hs.stays) (codeRec_of K hcd) rfl (.of_eq (D.bind _ _ _ _ hlenV)) D.cell ?_ ?_ D.co D.gen (D.sc▸D.ok.fn)
 ·intro x hx
  have:x.1∈names.map Str.ofString:=hz▸List.mem_map_of_mem hx
  refine c1_2 (List.mem_map.mp this) fun y hy e=>?_
  show (fdScope st).names.lookup x.1=_
  rw [← D.sc,← e];exact D.ok.locs y (D.sub y hy)
 ·intro h₀ hns hk
  generalize henv:callEnv (fnOf (fdName st) (Str.ofString q) (fdParams st) (fdBody st) (fdScope st) .none .none .none pm none (.ref cd) .none) s.heap.objs.size f=env
  have e1:env.scope=S.scope:=by rw [← henv,D.sc];rfl
  have e2:env.locals=s.heap.objs.size:=by rw [← henv];rfl
  have e3:env.frame=some env.locals:=by rw [← henv];rfl
  have e4:env.cells=[]:=by rw [← henv];rfl
  refine c3_4 hns fun oL es ep hoL hdL hkL hfL=>?_
  have H':HSt X μ σ it ((env.locals,es,ep)::fr) { s with heap:=h₀,toks:=s.toks+((names.map Str.ofString).zip Vs).length } :=
   hs.frame (p:=(env.locals,es,ep)) hk rfl rfl (by rw [e2];exact Nat.le_refl _) ⟨oL,by rw [e2];exact hoL,hdL⟩
  have hkind:∀ x,env.kindOf x=(fdScope st).names.lookup x:=fun x=>by unfold Env.kindOf;rw [e1,D.sc]
  have FS:FSt X μ σ env (names.zip args) it fr { s with heap:=h₀,toks:=s.toks+((names.map Str.ofString).zip Vs).length }:=by
   refine ⟨es,ep,[],H',hkL,fun x v hx=>?_,?_⟩
   ·refine c1_2 (lget_zip hv hx) fun V hV hr=>?_
    have:Str.ofString x∈names.map Str.ofString:=hz▸List.mem_map_of_mem hV
    refine c1_2 (List.mem_map.mp this) fun y hy e=>?_
    exact .loc (by rw [hkind,← D.sc,← e];exact D.ok.locs y (D.sub y hy)) V ((hfL _).trans (lookup_of_mem (by rw [List.map_reverse];exact (List.reverse_perm _).nodup_iff.mpr hnd) (List.mem_reverse.mpr hV))) hr
   ·exact ⟨by unfold ownAddrs;rw [if_pos e3,e4];rfl,fun _ h=>nomatch h⟩
  have EO:EnvOk ⟨n,b,S,c⟩ env (env::frs):=⟨e1,by rw [← henv];rfl,by rw [← henv];rfl,D.ok,fun _=>⟨e3,_,rfl⟩,fun x hx=>absurd (D.ok.cels x hx) fun z=>by
    have hm:=mem_of_lookup_eq z
    rw [D.sc] at hm
    exact D.cell _ hm rfl⟩
  have OO:OutOk (env::frs) (env.locals::fr.map (·.1)):=fun e he=>by
   rcases List.mem_cons.mp he with z | he
   ·rw [z];exact ⟨by rw [e1,D.ok.fn];exact (fun z=>ScopeKind.noConfusion z),_,List.Mem.head _,e3⟩
   ·obtain ⟨h1,L,h2,h3⟩:=ha.out e he;exact ⟨h1,L,.tail _ h2,h3⟩
  have AO:AOk n b (A.deeper env) (env::frs) (env.locals::fr.map (·.1)):=⟨by show A.frames.map (env::·)=_;rw [ha.frames];rfl,OO,by have:=ha.depth;show A.depth+1+4*n≤900;lia,by have:=ha.units;show A.units+3+16*n≤9000;lia,ha.han⟩
  refine n_mono (h (A.deeper env) env (env::frs) μ it fr _ EO AO FS) ?_ ?_
  ·rintro fl s' ⟨μ',mf,σ',ρ',e',r',⟨es',ep',own',H'',_,_,ho'⟩,hq⟩
   have:own'=[]:=by
    have ho':=ho'.1;unfold ownAddrs at ho';rw [if_pos e3,e4] at ho';exact List.map_eq_nil_iff.mp ho'
   subst this
   cases mf with
   | next=>cases r';exact .ret μ' .none σ' e' rfl H''.unframe hq
   | ret v=>refine c1_2 r' ?_;rintro V rfl hV;exact .ret μ' v σ' e' hV H''.unframe hq
  ·rintro ev s' ⟨μ',c,σ',ρ',e',⟨es',ep',own',R,_,_,ho'⟩,hq⟩
   have:own'=[]:=by
    have ho':=ho'.1;unfold ownAddrs at ho';rw [if_pos e3,e4] at ho';exact List.map_eq_nil_iff.mp ho'
   subst this
   exact n_up <| R.leave (p:=(env.locals,es',ep')) AO.frames e3 OO fun e s'' he hf=>he▸.err μ' c σ' e' hf hq
end
noncomputable def onInts(a b:MV)(f:Int→Int→Prop):Prop:=match a with
 | .int i=>match b with
  | .int j=>f i j
  | _=>False
 | _=>False
theorem onInts_of{a b:MV}{f:Int→Int→Prop}(h:onInts a b f):∃ i j,a=.int i∧b=.int j∧f i j:=by
 cases a with
 | int i=>cases b with
  | int j=>exact ⟨i,j,rfl,rfl,h⟩
  | _=>exact h.elim
 | _=>exact h.elim
noncomputable def onStrs(a b:MV)(f:Str→Str→Prop):Prop:=match a with
 | .str i=>match b with
  | .str j=>f i j
  | _=>False
 | _=>False
inductive BinP:Operator→MV→MV→MV→Prop
 | add (i j:Int):BinP .Add (.int i) (.int j) (.int (i+j))
 | sub (i j:Int):BinP .Sub (.int i) (.int j) (.int (i - j))
 | mul (i j:Int) (h1:i.natAbs<2 ^ 30) (h2:j.natAbs<2 ^ 30):BinP .Mult (.int i) (.int j) (.int (i*j))
 | fdiv (i j:Int) (h1:j≠0) (h2:j.natAbs<1073741824):BinP .FloorDiv (.int i) (.int j) (.int (i.fdiv j))
 | mod (i j:Int) (h1:j≠0):BinP .Mod (.int i) (.int j) (.int (i.fmod j))
 | cat (x y:Str) (h1:x.length≤1000) (h2:y.length≤1000):BinP .Add (.str x) (.str y) (.str (x++y))
inductive BinR(op:Operator)(a:MV)(Q:MV→Hp→Loc→Prop)(b:MV)(σ:Hp)(ρ:Loc):Prop
 | mk (v:MV) (h:BinP op a b v) (q:Q v σ ρ)
noncomputable def hasKey{K:Type}[DecidableEq K](k:K)(kvs:List (K×MV)):Bool:=(kvs.find? fun kv=>kv.1=k).isSome
noncomputable def RowsAt(σ:Hp)(a:MA)(rows:List (Str×Array UInt8)):Prop :=
 ∃ as:List MA,σ a=some (.tup (as.map .ref))∧as.length=rows.length∧∀ (j:Nat) (m:MA) (r:Str×Array UInt8),as[j]?=some m→rows[j]?=some r→σ m=some (.tup [.str r.1,.bytes r.2])
noncomputable def cmpR(op:CmpOp)(a b:MV)(σ:Hp)(k:Bool→Prop):Prop:=match op with
 | .Lt=>onInts a b fun i j=>k (decide (i<j))
 | .LtE=>onInts a b fun i j=>k (decide (i≤j))
 | .Gt=>onInts a b fun i j=>k (decide (i>j))
 | .GtE=>onInts a b fun i j=>k (decide (i ≥ j))
 | .Eq=>match a with
  | .str i=>match b with
   | .str j=>k (i==j)
   | _=>False
  | _=>onInts a b fun i j=>k (i==j)
 | .NotEq=>match a with
  | .int i=>match b with
   | .int j=>k (i != j)
   | _=>False
  | .str i=>match b with
   | .str j=>k (i != j)
   | _=>False
  | .bool i=>match b with
   | .bool j=>k (i != j)
   | _=>False
  | .bytes i=>match b with
   | .bytes j=>k (i != j)
   | _=>False
  | .ref a=>match b with
   | .ref b=>(∃ xs ys:List Str,σ a=some (.list (xs.map .str))∧σ b=some (.list (ys.map .str))∧k (xs != ys))∨(∃ xs ys,RowsAt σ a xs∧RowsAt σ b ys∧k (xs != ys))
   | _=>False
  | _=>False
 | .In=>match a with
  | .str s=>match b with
   | .ref d=>∃ kvs,σ d=some (.dictS kvs)∧k (hasKey s kvs)
   | _=>False
  | _=>False
 | .NotIn=>match a with
  | .str s=>match b with
   | .ref d=>∃ kvs,σ d=some (.dictS kvs)∧k (!hasKey s kvs)
   | _=>False
  | _=>False
 | _=>False
section
variable{X:Cx}{G:Gm}{σ:Hp}{ρ:Loc}{Q:MV→Hp→Loc→Prop}{E:Addr→Hp→Loc→Prop}
theorem mulOk_small{i j:Int}(hi:i.natAbs<2 ^ 30)(hj:j.natAbs<2 ^ 30):IntMulOk i j:=by
 have hb:∀ x:Int,x.natAbs<2 ^ 30→Builtin.Int.intBits x≤64:=fun x h=>by
  refine intBits_le_64 ?_ ?_ <;> lia
 unfold IntMulOk
 have h1:=hb i hi
 have:decide (Builtin.Int.intBits i>PySem.shortFactorBits)=false:=decide_eq_false (by
  have:(64:Nat)≤PySem.shortFactorBits:=by decide +kernel
  lia)
 rw [this];simp
theorem str_nil_left{x y:Str}(h:x.length=0):x++y=y:=by
 have:x.cps=#[]:=Array.eq_empty_of_size_eq_zero h
 cases x;cases y;simp only at this;subst this
 show Str.mk (#[]++_)=_
 simp
theorem str_nil_right{x y:Str}(h:y.length=0):x++y=x:=by
 have:y.cps=#[]:=Array.eq_empty_of_size_eq_zero h
 cases x;cases y;simp only at this;subst this
 show Str.mk (_++#[])=_
 simp
set_option tactic.hygienic true in
theorem binP_ok{op:Operator}{a b v:MV}{V W:Value}{A:Around}{μ:Mu}{s:Shared}{Qv:Value→Shared→Prop}{Ev:Value→Shared→Prop}(h:BinP op a b v)(ha:VR μ a V)(hb:VR μ b W)(hA:A.handled=none)
  (hQ:∀ U t,VR μ v U→Qv U { s with toks:=t }):wpAny (model prog X.w) A (binaryOp op V W) Qv Ev s:=by
 induction h with
 | add i j=>refine c1_1 ha ?_;rintro t rfl;refine c1_1 hb ?_;rintro u rfl;exact PySem.P.add_int (hQ _ _ ⟨_,rfl⟩)
 | sub i j=>refine c1_1 ha ?_;rintro t rfl;refine c1_1 hb ?_;rintro u rfl;exact PySem.P.sub_int (hQ _ _ ⟨_,rfl⟩)
 | mul i j h1 h2=>refine c1_1 ha ?_;rintro t rfl;refine c1_1 hb ?_;rintro u rfl;exact PySem.P.mul_int (hQ _ _ ⟨_,rfl⟩) (mulOk_small h1 h2)
 | fdiv i j h1 h2=>refine c1_1 ha ?_;rintro t rfl;refine c1_1 hb ?_;rintro u rfl;exact floordiv_int_or hA (fun z=>absurd z h1) (fun _=>hQ _ _ ⟨_,rfl⟩) (fun _=>.inl (PyProof.noPylong_small h2))
 | mod i j h1=>refine c1_1 ha ?_;rintro t rfl;refine c1_1 hb ?_;rintro u rfl;exact mod_int_or hA (fun z=>absurd z h1) (fun _=>hQ _ _ ⟨_,rfl⟩)
 | cat x y h1 h2 =>
  refine c1_1 ha ?_;rintro t rfl;refine c1_1 hb ?_;rintro u rfl
  refine PySem.P.add_str ?_
  split
  ·rename_i q
   exact hQ _ _ ⟨u,by rw [str_nil_left (by simpa using q)]⟩
  ·split
   ·rename_i q
    exact hQ _ _ ⟨t,by rw [str_nil_right (by simpa using q)]⟩
   ·refine ⟨?_,hQ _ _ ⟨_,rfl⟩⟩
    rw [Str.length_append,sizeLine_eq]
    lia
theorem key_isSome{μ:Mu}{K:Type}[DecidableEq K]{k:K}{kvs:List (K×MV)}{KVs:List (K×Value)}(h:KVR μ kvs KVs):(valueAt KVs k).isSome=hasKey k kvs:=by
 unfold valueAt
 rw [Option.isSome_map]
 refine All2.ind (M:=fun as bs=>(bs.find? fun kv=>decide (kv.1=k)).isSome=hasKey k as) h rfl fun {a b as bs} r _ ih=>?_
 unfold hasKey at ih ⊢
 rw [List.find?_cons,List.find?_cons,← r.1]
 cases decide (a.1=k) with
 | true=>rfl
 | false=>exact ih
theorem bytes_rc{A:Around}{s:Shared}(b b':Array UInt8)(t u:Tok):SeqAt.RcAt A s (.bytes b t) (.bytes b' u) (b.toList==b'.toList):=fun prog w E Q h=>eq_bytes h
theorem all_range_eq{α:Type}[DecidableEq α]{xs ys:List α}{e:Nat→Bool}(he:∀ j x y,xs[j]?=some x→ys[j]?=some y→e j=decide (x=y)):(List.range (min xs.length ys.length)).all e=true∧xs.length=ys.length↔xs=ys:=by
 constructor
 ·refine f0_2 fun h1 h2=>?_
  rw [h2,Nat.min_self,List.all_eq_true] at h1
  refine List.ext_getElem? fun j=>?_
  by_cases hj:j<ys.length
  ·have hx:xs[j]?=some xs[j]:=List.getElem?_eq_getElem (by lia)
   have hy:ys[j]?=some ys[j]:=List.getElem?_eq_getElem hj
   have:=he j _ _ hx hy
   rw [h1 j (List.mem_range.mpr hj)] at this
   rw [hx,hy,of_decide_eq_true this.symm]
  ·rw [List.getElem?_eq_none (by lia),List.getElem?_eq_none (by lia)]
 ·rintro rfl
  refine ⟨List.all_eq_true.mpr fun j hj=>?_,rfl⟩
  rw [Nat.min_self] at hj
  have hx:xs[j]?=some (xs[j]'(List.mem_range.mp hj)):=List.getElem?_eq_getElem _
  rw [he j _ _ hx hx];exact decide_eq_true rfl
theorem strs_ne{A:Around}{μ:Mu}{s:Shared}{x y:Addr}{xs ys:List Str}{Vs Ws:List Value}{n k:Nat}(h1:s.heap.get? x=some (listO Vs n))(h2:VRs μ (xs.map .str) Vs)(h3:s.heap.get? y=some (listO Ws k))(h4:VRs μ (ys.map .str) Ws)
  (hu:A.units<cLine):SeqAt.RcNeAt A s (.ref x) (.ref y) (xs != ys):=by
 have l1:Vs.length=xs.length:=by rw [h2.length,List.length_map]
 have l2:Ws.length=ys.length:=by rw [h4.length,List.length_map]
 have i1:s.heap.IsList x Vs.toArray:=⟨_,h1,rfl,n,rfl⟩
 have i2:s.heap.IsList y Ws.toArray:=⟨_,h3,rfl,k,rfl⟩
 by_cases hl:xs.length=ys.length
 ·have:=SeqAt.RcNeAt.lists (A:=A) (e:=fun j=>decide (xs[j]?=ys[j]?)) i1 i2 (by simp [l1,l2,hl]) hu fun j g1 g2=>?_
  ·have e:(!(List.range Vs.toArray.size).all fun j=>decide (xs[j]?=ys[j]?))=(xs != ys):=by
    have q:=all_range_eq (xs:=xs) (ys:=ys) (e:=fun j=>decide (xs[j]?=ys[j]?)) (fun j a b ha hb=>by rw [ha,hb];simp)
    rw [show Vs.toArray.size=min xs.length ys.length by simp [l1,hl]]
    by_cases hxy:xs=ys
    ·rw [(q.mpr hxy).1];simp [hxy]
    ·have:¬ (List.range (min xs.length ys.length)).all (fun j=>decide (xs[j]?=ys[j]?))=true:=fun z=>hxy (q.mp ⟨z,hl⟩)
     rw [Bool.eq_false_iff.mpr this];simp [hxy]
   rw [e] at this;exact this
  ·have j1:Vs[j]?=some Vs.toArray[j]:=by simpa using List.getElem?_eq_getElem (l:=Vs) (by simpa using g1)
   have j2:Ws[j]?=some Ws.toArray[j]:=by simpa using List.getElem?_eq_getElem (l:=Ws) (by simpa using g2)
   refine c1_2 (h2.get' j1) fun v e1 r1=>?_
   refine c1_2 (h4.get' j2) fun w e2 r2=>?_
   rw [List.getElem?_map] at e1 e2
   refine c1_2 (Option.map_eq_some_iff.mp e1) ?_;rintro a ha rfl
   refine c1_2 (Option.map_eq_some_iff.mp e2) ?_;rintro b hb rfl
   refine c1_1 r1 fun t r1=>?_
   refine c1_1 r2 fun u r2=>?_
   rw [r1,r2]
   have:=SeqAt.EqAt.str_str (A:=A.in1) (s:=s) a t b u
   rw [show decide (xs[j]?=ys[j]?)=(a==b) by rw [ha,hb];by_cases hab:a=b <;> simp [hab]]
   exact this
 ·have:=SeqAt.RcNeAt.lists_lengths (A:=A) i1 i2 (by simp [l1,l2,hl]) hu
  have e:(xs != ys)=true:=by rw [bne_iff_ne];rintro rfl;exact hl rfl
  rw [e];exact this
theorem bytes_eqAt{A:Around}{s:Shared}(b b':Array UInt8)(t u:Tok):SeqAt.EqAt A s (.bytes b t) (.bytes b' u) (b==b'):=fun prog w E Q h=>by
 unfold eqBool
 refine wpAny_holding ?_
 refine wpAny_ite_split (fun hab=>?_) (fun _=>?_)
 ·have e:b=b':=by have:=eq_of_beq hab;injection this
  subst e
  exact wpAny_bind (wpAny_rule (wpAny_pure (by simpa using h)))
 ·refine wpAny_bind (bytes_rc b b' t u prog w E _ (wpAny_truthy_bool ?_))
  rw [show (b.toList==b'.toList)=(b==b') from by rw [Bool.eq_iff_iff];simp [Array.toList_inj]]
  exact h
theorem tup_at{x:Addr}{h:Heap}{Vs:List Value}{n:Nat}(e:h.get? x=some (tupO Vs n)):h.IsTuple x Vs.toArray:=⟨_,e,rfl,n,rfl⟩
theorem pair_eqAt{A:Around}{s:Shared}{μ:Mu}{it:List (Addr×Obj)}{fr:List FrRec}(H:HSt X μ σ it fr s){a b:MA}{p q:Str×Array UInt8}{V W:Value}(ha:VR μ (.ref a) V)(hb:VR μ (.ref b) W)
  (h1:σ a=some (.tup [.str p.1,.bytes p.2])) (h2:σ b=some (.tup [.str q.1,.bytes q.2])) (hu:A.units+1<cLine):SeqAt.EqAt A s V W (decide (p=q)):=by
 refine c2_2 ha ?_;rintro x d m rfl
 refine c2_2 hb ?_;rintro y e m' rfl
 obtain ⟨_,_,mm,Vs,n,g1,r1⟩:=H.dom a _ h1
 rw [m] at mm;cases mm
 obtain ⟨_,_,mm',Ws,k,g2,r2⟩:=H.dom b _ h2
 rw [m'] at mm';cases mm'
 obtain ⟨v1,v2,rfl,⟨t1,rfl⟩,t2,rfl⟩:=r1.two
 obtain ⟨w1,w2,rfl,⟨u1,rfl⟩,u2,rfl⟩:=r2.two
 by_cases hxy:x=y
 ·subst hxy
  have:a=b:=by
   by_cases hab:a=b
   ·exact hab
   ·exact absurd rfl (H.inj a b _ _ _ _ m m' hab).1
  subst this
  rw [h1] at h2
  have e1:p=q:=by
   injection h2 with h2;injection h2 with h2;injection h2 with a h2;injection h2 with b _;injection a with a;injection b with b;exact Prod.ext a b
  subst e1
  rw [decide_eq_true rfl]
  exact SeqAt.EqAt.same _
 ·refine SeqAt.EqAt.of_refs hxy ?_
  have:=SeqAt.RcAt.tuples (A:=A) (e:=fun j=>if j=0 then p.1==q.1 else p.2==q.2) (tup_at g1) (tup_at g2) (by lia) fun j h1 h2=>?_
  ·have e:((List.range (min ([Value.str p.1 t1,Value.bytes p.2 t2].toArray.size) ([Value.str q.1 u1,Value.bytes q.2 u2].toArray.size))).all (fun j=>if j=0 then p.1==q.1 else p.2==q.2) && [Value.str p.1 t1,Value.bytes p.2 t2].toArray.size==[Value.str q.1 u1,Value.bytes q.2 u2].toArray.size)=decide (p=q):=by
    show ((List.range 2).all (fun j=>if j=0 then p.1==q.1 else p.2==q.2) && true)=_
    obtain ⟨p1,p2⟩:=p;obtain ⟨q1,q2⟩:=q
    rw [Bool.eq_iff_iff]
    simp [List.range_succ]
   rw [e] at this;exact this
  ·match j,h1,h2 with
   | 0,_,_=>exact SeqAt.EqAt.str_str p.1 t1 q.1 u1
   | 1,_,_=>exact bytes_eqAt p.2 q.2 t2 u2
   | j+2,h1,_=>exact absurd h1 (by simp)
theorem rows_ne{A:Around}{s:Shared}{μ:Mu}{it:List (Addr×Obj)}{fr:List FrRec}(H:HSt X μ σ it fr s){a b:MA}{xs ys:List (Str×Array UInt8)}{V W:Value}(ha:VR μ (.ref a) V)(hb:VR μ (.ref b) W)
  (h1:RowsAt σ a xs) (h2:RowsAt σ b ys) (hu:A.units+2<cLine):SeqAt.RcNeAt A s V W (xs != ys):=by
 refine c1_3 h1 fun as s1 l1 r1=>?_
 refine c1_3 h2 fun bs s2 l2 r2=>?_
 refine c2_2 ha ?_;rintro x d m rfl
 refine c2_2 hb ?_;rintro y e m' rfl
 obtain ⟨_,_,mm,Vs,n,g1,q1⟩:=H.dom a _ s1
 rw [m] at mm;cases mm
 obtain ⟨_,_,mm',Ws,k,g2,q2⟩:=H.dom b _ s2
 rw [m'] at mm';cases mm'
 have L1:Vs.length=xs.length:=by rw [q1.length,List.length_map,l1]
 have L2:Ws.length=ys.length:=by rw [q2.length,List.length_map,l2]
 have:=SeqAt.RcNeAt.tuples (A:=A) (e:=fun j=>decide (xs[j]?=ys[j]?)) (tup_at g1) (tup_at g2) (by lia) fun j i1 i2=>?_
 ·have e:(!((List.range (min Vs.toArray.size Ws.toArray.size)).all (fun j=>decide (xs[j]?=ys[j]?)) && Vs.toArray.size==Ws.toArray.size))=(xs != ys):=by
   have q:=all_range_eq (xs:=xs) (ys:=ys) (e:=fun j=>decide (xs[j]?=ys[j]?)) (fun j a b ha hb=>by rw [ha,hb];simp)
   rw [show min Vs.toArray.size Ws.toArray.size=min xs.length ys.length by simp [L1,L2],show (Vs.toArray.size==Ws.toArray.size)=decide (xs.length=ys.length) by rw [Bool.eq_iff_iff];simp [L1,L2]]
   by_cases hxy:xs=ys
   ·rw [(q.mpr hxy).1,decide_eq_true (q.mpr hxy).2];simp [hxy]
   ·have:((List.range (min xs.length ys.length)).all (fun j=>decide (xs[j]?=ys[j]?)) && decide (xs.length=ys.length))=false:=Bool.eq_false_iff.mpr fun z=>hxy (q.mp (by simpa using z))
    rw [this];simp [hxy]
  rw [e] at this;exact this
 ·have j1:Vs[j]?=some Vs.toArray[j]:=by simpa using List.getElem?_eq_getElem (l:=Vs) (by simpa using i1)
  have j2:Ws[j]?=some Ws.toArray[j]:=by simpa using List.getElem?_eq_getElem (l:=Ws) (by simpa using i2)
  refine c1_2 (q1.get' j1) fun v e1 v1=>?_
  refine c1_2 (q2.get' j2) fun w e2 v2=>?_
  rw [List.getElem?_map] at e1 e2
  refine c1_2 (Option.map_eq_some_iff.mp e1) ?_;rintro ma hma rfl
  refine c1_2 (Option.map_eq_some_iff.mp e2) ?_;rintro mb hmb rfl
  have hx:xs[j]?=some (xs[j]'(by simpa [L1] using i1)):=List.getElem?_eq_getElem _
  have hy:ys[j]?=some (ys[j]'(by simpa [L2] using i2)):=List.getElem?_eq_getElem _
  rw [hx,hy]
  have:=pair_eqAt (A:=A.in1) H v1 v2 (r1 j _ _ hma hx) (r2 j _ _ hmb hy) (by show A.units+1+1<cLine;lia)
  have e3:decide (some (xs[j]'(by simpa [L1] using i1))=some (ys[j]'(by simpa [L2] using i2)))=decide (xs[j]'(by simpa [L1] using i1)=ys[j]'(by simpa [L2] using i2)):=decide_eq_decide.mpr (by simp)
  rw [e3]
  exact this
theorem in_ok{x:Str}{d:MA}{W:Value}{kvs:List (Str×MV)}{μ:Mu}{s:Shared}{it:List (Addr×Obj)}{fr:List FrRec}(H:HSt X μ σ it fr s)(hσ:σ d=some (.dictS kvs))(hb:VR μ (.ref d) W) :
  ∃ y KVs,W=.ref y∧(y==sysModules)=false∧s.heap.DictOf (strKind prog X.w) y KVs∧(valueAt KVs x).isSome=hasKey x kvs:=by
 refine c2_2 hb ?_;rintro y e hm rfl
 obtain ⟨y',e',hm',KVs,hd,hr⟩:=H.dom d _ hσ
 rw [hm] at hm';cases hm'
 exact ⟨y,KVs,rfl,beq_eq_false_iff_ne.mpr fun z=>by have:=(H.big _ _ _ hm).1;rw [z] at this;exact absurd this (by show ¬ (3<1);lia),hd,key_isSome hr⟩
theorem cmpR_ok{op:CmpOp}{a b:MV}{V W:Value}{k:Bool→Prop}{A:Around}{μ:Mu}{s:Shared}{it:List (Addr×Obj)}{fr:List FrRec}{Qv:Value→Shared→Prop}{Ev:Value→Shared→Prop}(H:HSt X μ σ it fr s)(ha:VR μ a V)(hb:VR μ b W)(h:cmpR op a b σ k)(hu:A.units≤9000)
  (hQ:∀ c t,k c→Qv (.bool c) { s with toks:=t }):wpAny (model prog X.w) A (compareOp op V W) Qv Ev s:=by
 cases op with
 | Lt=>refine c2_3 (onInts_of h) ?_;rintro i j rfl rfl h;refine c1_1 ha ?_;rintro t rfl;refine c1_1 hb ?_;rintro u rfl;exact PySem.P.lt_int (hQ _ _ h)
 | LtE=>refine c2_3 (onInts_of h) ?_;rintro i j rfl rfl h;refine c1_1 ha ?_;rintro t rfl;refine c1_1 hb ?_;rintro u rfl;exact PySem.P.le_int (hQ _ _ h)
 | Gt=>refine c2_3 (onInts_of h) ?_;rintro i j rfl rfl h;refine c1_1 ha ?_;rintro t rfl;refine c1_1 hb ?_;rintro u rfl;exact PySem.P.gt_int (hQ _ _ h)
 | GtE=>refine c2_3 (onInts_of h) ?_;rintro i j rfl rfl h;refine c1_1 ha ?_;rintro t rfl;refine c1_1 hb ?_;rintro u rfl;exact PySem.P.ge_int (hQ _ _ h)
 | Eq =>
  cases a with
  | str x =>
   cases b with
   | str y=>refine c1_1 ha ?_;rintro t rfl;refine c1_1 hb ?_;rintro u rfl;exact PyProof.Rows.eq_str (hQ _ _ h)
   | _=>exact h.elim
  | int i =>
   cases b with
   | int j=>refine c1_1 ha ?_;rintro t rfl;refine c1_1 hb ?_;rintro u rfl;exact PySem.P.eq_int (hQ _ _ h)
   | _=>exact h.elim
  | _=>exact h.elim
 | NotEq =>
  cases a with
  | int i =>
   cases b with
   | int j=>refine c1_1 ha ?_;rintro t rfl;refine c1_1 hb ?_;rintro u rfl;exact PySem.P.ne_int (hQ _ _ h)
   | _=>exact h.elim
  | str x =>
   cases b with
   | str y=>refine c1_1 ha ?_;rintro t rfl;refine c1_1 hb ?_;rintro u rfl;exact PyProof.Rows.ne_str (hQ _ _ h)
   | _=>exact h.elim
  | bool x =>
   cases b with
   | bool y=>cases ha;cases hb;exact PyProof.Rows.ne_bool (hQ _ _ h)
   | _=>exact h.elim
  | bytes i =>
   cases b with
   | bytes j=>refine c1_1 ha ?_;rintro t rfl;refine c1_1 hb ?_;rintro u rfl;refine ne_bytes (hQ _ _ ?_);exact (show (i != j)=(i.toList != j.toList) from by rw [Bool.eq_iff_iff];simp [bne_iff_ne,Array.toList_inj])▸h
   | _=>exact h.elim
  | ref a =>
   cases b with
   | ref b =>
    have hc:(9100:Nat)<cLine:=by decide
    rcases h with ⟨xs,ys,h1,h2,hk⟩ | ⟨xs,ys,h1,h2,hk⟩
    ·refine c2_2 ha ?_;rintro x d m rfl
     refine c2_2 hb ?_;rintro y e m' rfl
     obtain ⟨_,_,mm,Vs,n,g1,q1⟩:=H.dom _ _ h1
     rw [m] at mm;cases mm
     obtain ⟨_,_,mm',Ws,k',g2,q2⟩:=H.dom _ _ h2
     rw [m'] at mm';cases mm'
     exact EqBoolInt.of_rcne (strs_ne g1 q1 g2 q2 (by lia)) (hQ _ _ hk)
    ·exact EqBoolInt.of_rcne (rows_ne H ha hb h1 h2 (by lia)) (hQ _ _ hk)
   | _=>exact h.elim
  | _=>exact h.elim
 | In =>
  cases a with
  | str x =>
   cases b with
   | ref d =>
    refine c1_1 ha ?_;rintro t rfl
    refine c1_2 h fun kvs hσ hk=>?_
    refine c2_4 (in_ok (x:=x) H hσ hb) ?_;rintro y KVs rfl h1 hd he
    refine wpAny_in_of (knd:=strKind prog X.w) (k:=x) (by exact decide_eq_true rfl) h1 hd.mapOf ?_
    rw [he];exact hQ _ _ hk
   | _=>exact h.elim
  | _=>exact h.elim
 | NotIn =>
  cases a with
  | str x =>
   cases b with
   | ref d =>
    refine c1_1 ha ?_;rintro t rfl
    refine c1_2 h fun kvs hσ hk=>?_
    refine c2_4 (in_ok (x:=x) H hσ hb) ?_;rintro y KVs rfl h1 hd he
    refine wpAny_notIn_of (knd:=strKind prog X.w) (k:=x) (by exact decide_eq_true rfl) h1 hd.mapOf ?_
    rw [he];exact hQ _ _ hk
   | _=>exact h.elim
  | _=>exact h.elim
 | _=>exact h.elim
@[reducible] def kBin(X:Cx)(G:Gm)(op:Operator)(r:Expr)(Q:MV→Hp→Loc→Prop)(E:Addr→Hp→Loc→Prop)(a:MV)(σ:Hp)(ρ:Loc):Prop:=EvE X G r σ ρ (BinR op a Q) E
theorem EvE.bin{op:Operator}{l r:Expr}{pos:Pos}(hG:G.b=true)(h:EvE X G l σ ρ (kBin X G op r Q E) E):EvE X G (.BinOp l op r pos) σ ρ Q E:=fun A env frs μ it fr s he ha hs=>by
 refine n_bin (n_mono (h A env frs μ it fr s he ha hs) ?_ fun _ _ x=>x)
 rintro V s₁ ⟨μ₁,v,σ₁,ρ₁,e₁,r₁,hs₁,hq⟩
 refine n_mono (hq A env frs μ₁ it fr s₁ he ha hs₁) ?_ fun _ _=>.ext e₁
 rintro W s₂ ⟨μ₂,w,σ₂,ρ₂,e₂,r₂,hs₂,u,hb,hk⟩
 exact n_up <| binP_ok hb (r₁.mono e₂) r₂ (ha.han hG) fun U t hU=>⟨μ₂,u,σ₂,ρ₂,e₁.trans e₂,hU,hs₂.toks,hk⟩
@[reducible] def kBool(Q:MV→Hp→Loc→Prop)(v:Bool)(σ:Hp)(ρ:Loc):Prop:=Q (.bool v) σ ρ
@[reducible] def kFor{β:Type}(Q:β→Hp→Loc→Prop)(σ:Hp)(ρ:Loc)(v:β):Prop:=Q v σ ρ
@[reducible] def kCmpR(op:CmpOp)(a:MV)(QB:Bool→Hp→Loc→Prop)(b:MV)(σ:Hp)(ρ:Loc):Prop:=cmpR op a b σ (kFor QB σ ρ)
@[reducible] def kCmp(X:Cx)(G:Gm)(op:CmpOp)(r:Expr)(QB:Bool→Hp→Loc→Prop)(E:Addr→Hp→Loc→Prop)(a:MV)(σ:Hp)(ρ:Loc):Prop:=EvE X G r σ ρ (kCmpR op a QB) E
theorem EvE.cmp{op:CmpOp}{l r:Expr}{pos:Pos}(h:EvE X G l σ ρ (kCmp X G op r (kBool Q) E) E)(hm:behindInMarks op r=false:=by rfl):EvE X G (.Compare l [op] [r] pos) σ ρ Q E:=fun A env frs μ it fr s he ha hs=>by
 refine n_cmp (n_mono (h A env frs μ it fr s he ha hs) ?_ fun _ _ x=>x) hm
 rintro V s₁ ⟨μ₁,v,σ₁,ρ₁,e₁,r₁,hs₁,hq⟩
 refine n_mono (hq A env frs μ₁ it fr s₁ he ha hs₁) ?_ fun _ _=>.ext e₁
 rintro W s₂ ⟨μ₂,w,σ₂,ρ₂,e₂,r₂,hs₂,hq₂⟩
 refine c2_1 hs₂.heap fun it' fr' H=>?_
 exact n_up <| cmpR_ok H (r₁.mono e₂) r₂ hq₂ (by have:=ha.units;lia) fun c t hk=>⟨μ₂,.bool c,σ₂,ρ₂,e₁.trans e₂,rfl,hs₂.toks,hk⟩
theorem EvT.cmp{op:CmpOp}{l r:Expr}{pos:Pos}{QB:Bool→Hp→Loc→Prop}(h:EvE X G l σ ρ (kCmp X G op r QB E) E)(hm:behindInMarks op r=false:=by rfl):EvT X G (.Compare l [op] [r] pos) σ ρ QB E:=fun A env frs μ it fr s he ha hs=>by
 refine n_testCmp (n_mono (h A env frs μ it fr s he ha hs) ?_ fun _ _ x=>x) hm
 rintro V s₁ ⟨μ₁,v,σ₁,ρ₁,e₁,r₁,hs₁,hq⟩
 refine n_mono (hq A env frs μ₁ it fr s₁ he ha hs₁) ?_ fun _ _=>.ext e₁
 rintro W s₂ ⟨μ₂,w,σ₂,ρ₂,e₂,r₂,hs₂,hq₂⟩
 refine c2_1 hs₂.heap fun it' fr' H=>?_
 exact n_up <| cmpR_ok H (r₁.mono e₂) r₂ hq₂ (by have:=ha.units;lia) fun c t hk=>n_up <| wpAny_truthy_bool ⟨μ₂,c,σ₂,ρ₂,e₁.trans e₂,rfl,hs₂.toks,hk⟩
noncomputable def PlainT(e:Expr):Prop:=∀ env whole,isTrue e env whole=(do let v ← whole;standAt e.pos;holding [v] (truthy v))
inductive BoolP(QB:Bool→Hp→Loc→Prop)(v:MV)(σ:Hp)(ρ:Loc):Prop
 | mk (b:Bool) (e:v=.bool b) (q:QB b σ ρ)
theorem EvT.val{e:Expr}{QB:Bool→Hp→Loc→Prop}(h:EvE X G e σ ρ (BoolP QB) E)(hp:PlainT e:=by exact fun _ _=>rfl):EvT X G e σ ρ QB E:=fun A env frs μ it fr s he ha hs=>by
 show wpN _ _ _ (isTrue e env (eval e env)) _ _ _
 rw [hp]
 refine n_bind (n_mono (h A env frs μ it fr s he ha hs) ?_ fun _ _ x=>x)
 rintro V s₁ ⟨μ₁,v,σ₁,ρ₁,e₁,r₁,hs₁,b,rfl,hq⟩
 cases r₁
 exact n_stand (n_holding (n_up <| wpAny_truthy_bool ⟨μ₁,b,σ₁,ρ₁,e₁,rfl,hs₁,hq⟩))
@[reducible] def kNot(QB:Bool→Hp→Loc→Prop)(b:Bool)(σ:Hp)(ρ:Loc):Prop:=QB (!b) σ ρ
theorem EvT.not{e:Expr}{pos:Pos}{QB:Bool→Hp→Loc→Prop}(h:EvT X G e σ ρ (kNot QB) E):EvT X G (.UnaryOp .Not e pos) σ ρ QB E:=fun A env frs μ it fr s he ha hs =>
 n_testNot (n_mono (h A env frs μ it fr s he ha hs) (fun b s₁ ⟨μ₁,b',σ₁,ρ₁,e₁,r₁,hs₁,hq⟩=>⟨μ₁,!b',σ₁,ρ₁,e₁,by cases r₁;rfl,hs₁,hq⟩) fun _ _ x=>x)
noncomputable abbrev EvTs(X:Cx)(G:Gm)(op:BoolOp)(es:List Expr):=J X G BR (fun env=>allTrue op es env)
theorem EvTs.nil{op:BoolOp}{QB:Bool→Hp→Loc→Prop}(h:QB (op==.And) σ ρ):EvTs X G op [] σ ρ QB E:=fun A env frs μ it fr s he ha hs=>by
 show wpN _ _ _ (pure _) _ _ _
 exact n_pure ⟨μ,_,σ,ρ,.refl _,rfl,hs,h⟩
@[reducible] def kTs(X:Cx)(G:Gm)(op:BoolOp)(es:List Expr)(QB:Bool→Hp→Loc→Prop)(E:Addr→Hp→Loc→Prop)(b:Bool)(σ:Hp)(ρ:Loc):Prop:=(b=(op != .And)→QB b σ ρ)∧(b=(op==.And)→EvTs X G op es σ ρ QB E)
theorem EvTs.cons{op:BoolOp}{e:Expr}{es:List Expr}{QB:Bool→Hp→Loc→Prop}(h:EvT X G e σ ρ (kTs X G op es QB E) E):EvTs X G op (e::es) σ ρ QB E:=fun A env frs μ it fr s he ha hs=>by
 show wpN _ _ _ (isTrue e env (eval e env) >>= _) _ _ _
 refine n_bind (n_mono (h A env frs μ it fr s he ha hs) ?_ fun _ _ x=>x)
 rintro B s₁ ⟨μ₁,b,σ₁,ρ₁,e₁,r₁,hs₁,hq⟩
 cases r₁
 cases op <;> cases B
 ·exact n_pure ⟨μ₁,_,σ₁,ρ₁,e₁,rfl,hs₁,hq.1 rfl⟩
 ·exact n_mono (hq.2 rfl A env frs μ₁ it fr s₁ he ha hs₁) (fun _ _=>.ext e₁) fun _ _=>.ext e₁
 ·exact n_mono (hq.2 rfl A env frs μ₁ it fr s₁ he ha hs₁) (fun _ _=>.ext e₁) fun _ _=>.ext e₁
 ·exact n_pure ⟨μ₁,_,σ₁,ρ₁,e₁,rfl,hs₁,hq.1 rfl⟩
theorem EvT.bool{op:BoolOp}{es:List Expr}{pos:Pos}{QB:Bool→Hp→Loc→Prop}(h:EvTs X G op es σ ρ QB E):EvT X G (.BoolOp op es pos) σ ρ QB E:=fun A env frs μ it fr s he ha hs=>h A env frs μ it fr s he ha hs
theorem EvE.not{e:Expr}{pos:Pos}(h:EvE X G e σ ρ (BoolP (kNot (kBool Q))) E):EvE X G (.UnaryOp .Not e pos) σ ρ Q E:=fun A env frs μ it fr s he ha hs=>by
 show wpN _ _ _ (do let v ← eval e env;standAt pos;holding [v] (unaryOp .Not v)) _ _ _
 refine n_bind (n_mono (h A env frs μ it fr s he ha hs) ?_ fun _ _ x=>x)
 rintro V s₁ ⟨μ₁,v,σ₁,ρ₁,e₁,r₁,hs₁,b,rfl,hq⟩
 cases r₁
 exact n_stand (n_holding (n_up <| not_of (wpAny_truthy_bool ⟨μ₁,.bool _,σ₁,ρ₁,e₁,rfl,hs₁,hq⟩)))
inductive NegP(Q:MV→Hp→Loc→Prop)(v:MV)(σ:Hp)(ρ:Loc):Prop
 | mk (i:Int) (e:v=.int i) (q:Q (.int (-i)) σ ρ)
theorem EvE.neg{e:Expr}{pos:Pos}(h:EvE X G e σ ρ (NegP Q) E):EvE X G (.UnaryOp .USub e pos) σ ρ Q E:=fun A env frs μ it fr s he ha hs=>by
 show wpN _ _ _ (do let v ← eval e env;standAt pos;holding [v] (unaryOp .USub v)) _ _ _
 refine n_bind (n_mono (h A env frs μ it fr s he ha hs) ?_ fun _ _ x=>x)
 rintro V s₁ ⟨μ₁,v,σ₁,ρ₁,e₁,r₁,hs₁,i,rfl,hq⟩
 refine c1_1 r₁ ?_;rintro t rfl
 exact n_stand (n_holding (n_up <| PySem.P.neg_int ⟨μ₁,.int _,σ₁,ρ₁,e₁,⟨_,rfl⟩,hs₁.toks,hq⟩))
end
noncomputable def noComp(e:Expr):Bool:=Nat.ble e.ctorIdx 7 || Nat.ble 11 e.ctorIdx
theorem swaps_plain{e:Expr}{t:Option Expr}{l:Nat}{env:Env}(h:noComp e=true):swapsWith e t l env=pure false:=by
 cases e <;> first | rfl | cases h
section
variable{X:Cx}{G:Gm}{σ:Hp}{ρ:Loc}{Q:MV→Hp→Loc→Prop}{E:Addr→Hp→Loc→Prop}{R:MF→Hp→Loc→Prop}
@[reducible] def kAssign(x:String)(R:MF→Hp→Loc→Prop)(v:MV)(σ:Hp)(ρ:Loc):Prop:=R .next σ (lset x v ρ)
@[reducible] def kNext(R:MF→Hp→Loc→Prop)(_:MV)(σ:Hp)(ρ:Loc):Prop:=R .next σ ρ
theorem ExS.assign{x:String}{value:Expr}{np pos:Pos}(hx:G.S.locs.contains x=true)(h:EvE X G value σ ρ (kAssign x R) E)(hc:noComp value=true:=by rfl):ExS X G (.Assign [.Name (Str.ofString x) np] value pos) σ ρ R E:=fun A env frs μ it fr s he ha hs=>by
 refine n_assign (n_mono (h A env frs μ it fr s he ha hs) ?_ fun _ _ x=>x) (swaps_plain hc)
 rintro V s₁ ⟨μ₁,v,σ₁,ρ₁,e₁,r₁,hs₁,hq⟩
 exact n_up <| store_local he hs₁ (inL hx) r₁ fun s' hs'=>⟨μ₁,.next,σ₁,_,e₁,rfl,hs',hq⟩
theorem interactive_no{env:Env}{frs:List Env}(he:EnvOk G env frs):interactive env=false:=by
 unfold interactive;rw [fn_of he];rfl
theorem ExS.expr{e:Expr}{pos:Pos}(h:EvE X G e σ ρ (kNext R) E)(hc:noComp e=true:=by rfl):ExS X G (.Expr e pos) σ ρ R E:=fun A env frs μ it fr s he ha hs =>
 n_expr (n_mono (h A env frs μ it fr s he ha hs) (fun V s₁ ⟨μ₁,v,σ₁,ρ₁,e₁,r₁,hs₁,hq⟩=>⟨μ₁,.next,σ₁,ρ₁,e₁,rfl,hs₁,hq⟩) fun _ _ x=>x) (interactive_no he) (swaps_plain hc)
noncomputable def augR(op:Operator)(i j:Int):Option Int:=match op with
 | .Add=>some (i+j)
 | .Sub=>some (i - j)
 | _=>none
theorem aug_ok{op:Operator}{i j r:Int}{V W:Value}{A:Around}{μ:Mu}{s:Shared}{Qv:Value→Shared→Prop}{Ev:Value→Shared→Prop}(ha:VR μ (.int i) V)(hb:VR μ (.int j) W)(h:augR op i j=some r)
  (hQ:∀ U t,VR μ (.int r) U→Qv U { s with toks:=t }):wpAny (model prog X.w) A (inplaceOp op V W) Qv Ev s:=by
 refine c1_1 ha ?_;rintro t rfl;refine c1_1 hb ?_;rintro u rfl
 unfold augR at h
 split at h
 ·cases h;exact PySem.P.iadd_int (hQ _ _ ⟨_,rfl⟩)
 ·cases h;exact PySem.P.isub_int (hQ _ _ ⟨_,rfl⟩)
 ·cases h
inductive AugP(x:String)(op:Operator)(i:Int)(R:MF→Hp→Loc→Prop)(v:MV)(σ:Hp)(ρ:Loc):Prop
 | mk (j r:Int) (e:v=.int j) (a:augR op i j=some r) (q:R .next σ (lset x (.int r) ρ))
theorem ExS.aug{x:String}{op:Operator}{value:Expr}{np pos:Pos}{i:Int}(hx:G.S.locs.contains x=true)(hv:lget x ρ=some (.int i))
  (h:EvE X G value σ ρ (AugP x op i R) E):ExS X G (.AugAssign (.Name (Str.ofString x) np) op value pos) σ ρ R E:=fun A env frs μ it fr s he ha hs=>by
 have hk:=he.ok.locs x (inL hx)
 rw [← kindOf_eq he] at hk
 obtain ⟨es,ep,own,H,k,r,o⟩:=id hs
 rcases r x _ hv with ⟨_,V,h1,h2⟩ | ⟨h1,_⟩
 ·refine c1_2 ((H.frs _ (.head _)).1) fun ob ho hd=>?_
  refine n_augName (n_up <| wpAny_loadName_local (fn_of he) hk ⟨ob,es,ep,ho,hd,k,fun _=>rfl⟩ h1 (n_mono (h A env frs μ it fr s he ha hs) ?_ fun _ _ x=>x))
  rintro W s₁ ⟨μ₁,v,σ₁,ρ₁,e₁,r₁,hs₁,j,rr,rfl,hr,hq⟩
  exact n_up <| aug_ok (X:=X) (VR.mono e₁ h2) r₁ hr fun U t hU=>n_up <| store_local he hs₁.toks (inL hx) hU fun s' hs'=>⟨μ₁,.next,σ₁,_,e₁,rfl,hs',hq⟩
 ·rw [hk] at h1;simp at h1
inductive AugF(f:String)(op:Operator)(a:MA)(C:Addr)(fs:List (String×MV))(i:Int)(R:MF→Hp→Loc→Prop)(v:MV)(σ:Hp)(ρ:Loc):Prop
 | mk (j r:Int) (e:v=.int j) (g:augR op i j=some r) (h:σ a=some (.inst C fs)) (q:R .next (upd σ a (.inst C (lset f (.int r) fs))) ρ)
inductive AugO(X:Cx)(G:Gm)(f:String)(op:Operator)(value:Expr)(R:MF→Hp→Loc→Prop)(E:Addr→Hp→Loc→Prop)(ov:MV)(σ:Hp)(ρ:Loc):Prop
 | mk (a:MA) (C:Addr) (fs:List (String×MV)) (i:Int) (e:ov=.ref a) (h:σ a=some (.inst C fs)) (f':isField C f=true) (g:lget f fs=some (.int i)) (n:fs.length≤100) (k:EvE X G value σ ρ (AugF f op a C fs i R) E)
theorem ExS.augAttr{o value:Expr}{f:String}{op:Operator}{tpos pos:Pos}
  (h:EvE X G o σ ρ (AugO X G f op value R E) E):ExS X G (.AugAssign (.Attribute o (Str.ofString f) tpos) op value pos) σ ρ R E:=fun A env frs μ it fr s he ha hs=>by
 refine n_augAttr (n_mono (h A env frs μ it fr s he ha hs) ?_ fun _ _ x=>x)
 rintro V s₁ ⟨μ₁,ov,σ₁,ρ₁,e₁,r₁,hs₁,a,C,fs,i,rfl,hσ,hf,hv,hl,hq⟩
 obtain ⟨es,ep,own,H,_,_,_⟩:=id hs₁
 refine n_up <| getAttr_field H hσ r₁ hf hv rfl fun U t hU=>?_
 refine n_mono (hq A env frs μ₁ it fr _ he ha hs₁.toks) ?_ fun _ _=>.ext e₁
 rintro W s₂ ⟨μ₂,v,σ₂,ρ₂,e₂,r₂,hs₂,j,rr,rfl,hr,hσ₂,hq₂⟩
 refine n_up <| aug_ok (X:=X) (hU.mono e₂) r₂ hr fun U' t' hU'=>?_
 obtain ⟨es',ep',own',H',_⟩:=id hs₂
 exact n_up <| setAttr_field (H'.toks (t:=t')) hσ₂ (r₁.mono e₂) hU' hf hl fun s' hs'=>⟨μ₂,.next,_,ρ₂,e₁.trans e₂,rfl,hs₂.lift (.refl _) (fun it fr H=>hs' it fr H.toks),hq₂⟩
theorem CallJ.cls{n:Nat}{b c:Bool}{C fI:Addr}{args:List MV}{QC:MV→Hp→Prop}{EC:Addr→Hp→Prop}(M:MethOk X.w C "__init__" fI)(a:MA)(ha:σ a=none)
  (h:CallJ X false n b (.ref fI) (.ref a::args) (upd σ a (.inst C [])) (fun v σ'=>v=.none∧QC (.ref a) σ') EC):CallJ X c (n+1) b (.ref C) args σ QC EC:=fun A frs μ it fr s Vs hA hs hv=>by
 refine n_code ?_
 obtain ⟨hh,g,d,t,os⟩:=s
 have K:=hs.inK
 refine make_core (makes_of K M.cls.make) (looks_findIn K M.find) (fun self=>bind_fn K self (beq_iff_eq.mp M.fn)) (.inl rfl) ?_
 have hsz:((hh.push emptyDict).objs.size)=hh.objs.size+1:=Heap.size_push ..
 have k1:∀ b o,hh.get? b=some o→((hh.push emptyDict).push (instObj C hh.objs.size)).get? b=some o:=fun b o e=>Heap.get?_push_of_some _ (Heap.get?_push_of_some _ e)
 have gd:((hh.push emptyDict).push (instObj C hh.objs.size)).get? hh.objs.size=some emptyDict:=Heap.get?_push_of_some _ (Heap.get?_push_size _ rfl)
 have gx:((hh.push emptyDict).push (instObj C hh.objs.size)).get? (hh.objs.size+1)=some (instObj C hh.objs.size):=by
  have:=Heap.get?_push_size (hh.push emptyDict) (o:=instObj C hh.objs.size) rfl
  rwa [hsz] at this
 have H':HSt X (updμ μ a (hh.objs.size+1,hh.objs.size)) (upd σ a (.inst C [])) it fr ⟨(hh.push emptyDict).push (instObj C hh.objs.size),g,d,t,os⟩ :=
  hs.alloc ha k1 rfl rfl (Nat.le_succ _) (Nat.le_refl _) ⟨_,gx⟩ ⟨_,gd⟩ ⟨[],0,gx,gd,trivial⟩
 have ex:Ext μ (updμ μ a (hh.objs.size+1,hh.objs.size)):=.upd (hs.mud a ha)
 have hA':AOk n b (A.under (.builtin "type.__call__" ⟨.ref C::Vs,[]⟩)) frs (fr.map (·.1)):=by
  refine ⟨hA.frames,hA.out,?_,?_,hA.han⟩
  ·have:=hA.depth;show A.depth+1+4*n≤900;lia
  ·have:=hA.units;show A.units+_+16*n≤9000
   have:(Code.builtin "type.__call__" ⟨.ref C::Vs,[]⟩).cUnits≤8:=Nat.le_of_ble_eq_true rfl
   lia
 refine codeAny_mono (n_codeAny (h _ frs _ it fr _ (.ref (hh.objs.size+1)::Vs) hA' H' ⟨⟨_,_,updμ_self ..,rfl⟩,hv.mono ex⟩)) fun r s' z=>?_
 induction z with
 | err μ' c σ' h1 h2 h3=>exact .err μ' c σ' (ex.trans h1) h2 h3
 | ret μ' v σ' h1 h2 h3 h4 =>
  rcases h4 with ⟨rfl,h5⟩
  exact ⟨h2,.ret μ' (.ref a) σ' (ex.trans h1) ⟨_,_,h1 _ _ (updμ_self ..),rfl⟩ h3 h5⟩
theorem raise_name{x:String}{np:Pos}{c:Addr}{A:Around}{env:Env}{frs:List Env}{μ:Mu}{it:List (Addr×Obj)}{fr:List FrRec}{s:Shared}{Qv:Value→Shared→Prop}{Ev:Value→Shared→Prop}(he:EnvOk G env frs)(hs:FSt X μ σ env ρ it fr s)(hx:G.S.glbs.contains x=true)
  (hv:nsIn (Fg X.w) mainGlobals (Str.ofString x)=some (some (.ref c))) (h:Qv (.ref c) s):wpAny (model prog X.w) A (eval (.Name (Str.ofString x) np) env) Qv Ev s:=by
 have hk:=he.ok.glbs x (inL hx)
 rw [← kindOf_eq he] at hk
 have g:=hs.cx.top.g
 refine Name_function_global (fn_of he) hk (loadGlobal_global (mg:=X.mg) ?_ (mg_of hs.cx.inK g hv) h) (he.ok.dG hx)
 rw [he.glob];exact g.keeps hs.base
theorem ExS.raise{x:String}{np cpos pos:Pos}{arg:Expr}{c:Addr}(hG:G.b=true)(hx:G.S.glbs.contains x=true)(hv:nsIn (Fg X.w) mainGlobals (Str.ofString x)=some (some (.ref c)))(hc:excOk c=true)
  (h:EvArgs X ⟨G.n,G.b,G.S,false⟩ cpos [arg] σ ρ (fun vs σ₁ ρ₁=>vs.length≤5∧E c σ₁ ρ₁) E) (hp:noStar arg=true:=by rfl):ExS X G (.Raise (some (.Call (.Name (Str.ofString x) np) [arg] [] cpos)) none pos) σ ρ R E:=fun A env frs μ it fr s he ha hs=>by
 have K:=hs.cx.inK
 have O:=own_of_in K hs.cx.top hv (exc_ok X.w hc).exc
 obtain ⟨tl,N,nm,q,bs,hdct,sn,sub,ab,col,dd,k0,k1,k2,k3,k5,mN,hC,hN,hni,T⟩:=O.obj
 have FB:=PySem.F.excBase_Exception
 have hpl:allPlain [arg]=true:=by unfold allPlain;rw [hp];rfl
 refine n_up <| wpAny_Raise_call_subT (C:=c) (nm:=nm) (q:=q) (N:=N) (bs:=bs) (bm:=tl) (hdct:=hdct) (sn:=sn) (sub:=sub) (ab:=ab) (col:=col) (dd:=dd) (k0:=k0) (k1:=k1) (k2:=k2) (k3:=k3) (k5:=k5)
  FB (mN:=mN) (T.hasType FB.hasBase) (ha.han hG) (plain_any hpl) hni (raise_name he hs hx hv ⟨rfl,?_⟩)
 have hh:=n_any (h A env frs μ it fr s ⟨he.sc,he.glob,he.blt,he.ok,he.here,he.cel⟩ ha hs)
 have hh':wpAny (model prog X.w) A (spliced (backTo cpos (starEach [arg] env))) _ _ s:=hh
 rw [starEach_cons hp] at hh' ⊢
 refine evalArgs_plain (wpAny_mono hh' ?_ fun _ _ x=>x)
 rintro Vs s₁ ⟨μ₁,vs,σ₁,ρ₁,e₁,r₁,hs₁,hl,hq⟩
 obtain ⟨es,ep,own,H₁,k₁,rd₁,o₁⟩:=hs₁
 refine ⟨rfl,?_,H₁.stays _ _ hC,hN.keeps H₁.stays,T.keeps H₁.stays,fun h' e he'=>?_⟩
 ·rw [r₁.length,sizeLine_eq];lia
 ·exact ⟨μ₁,c,σ₁,ρ₁,e₁,⟨es,ep,own,.made e s₁.heap Vs H₁ he',k₁,rd₁,o₁⟩,hq⟩
end
theorem n_tryStmt{c:Bool}{M:Model}{A:Around}{E:Value→Shared→Prop}{s:Shared}{env:Env}{body orelse:Sem Flow}{h₀:ExceptHandler}{hs:List ExceptHandler}{Q:Flow→Shared→Prop}
  (h:wpN c M A body (fun f s₁=>match f with | .next=>wpN c M A orelse Q E s₁ | f=>Q f s₁)
   (fun e s₁=>wpN c M A (leaving env e) (fun _ s₃=>wpN c M A (handleBy e env (h₀::hs)) Q E s₃) E s₁) s) :
  wpN c M A (tryStmt false body (h₀::hs) orelse [] env) Q E s:=by
 unfold tryStmt
 refine n_pos rfl (n_bind (n_attempt (n_mono h (fun f s₁ h₁=>?_) fun e s₁ h₁=>?_)))
 ·cases f <;> first | exact h₁ | exact n_pure h₁
 ·refine rwl (P:=fun m=>wpN c M A m _ E s₁) (b:=leaving env e >>= fun _=>handleBy e env (h₀::hs)) ?_ (n_bind h₁)
  unfold leaving;rw [bind_assoc]
  exact congrArg (noteFrame e env >>= ·) (funext fun _=>(if_neg nofun).trans (congrArg (setFlight e none >>= ·) (funext fun _=>(if_neg nofun).trans (if_neg nofun))))
theorem n_try{c:Bool}{prog:Program}{w:World}{A:Around}{E:Value→Shared→Prop}{s:Shared}{env:Env}{body orelse:List Stmt}{h₀:ExceptHandler}{hs:List ExceptHandler}{pos:Pos}{Q:Flow→Shared→Prop}
  (h:wpN c (model prog w) A (execs body env) (fun f s₁=>match f with | .next=>wpN c (model prog w) A (execs orelse env) Q E s₁ | f=>Q f s₁)
   (fun e s₁=>wpN c (model prog w) A (leaving env e) (fun _ s₃=>wpN c (model prog w) A (handleBy e env (h₀::hs)) Q E s₃) E s₁) s) :
  wpN c (model prog w) A (exec (.Try body (h₀::hs) orelse [] pos) env) Q E s:=by
 rw [arm_exec_Try]
 exact n_stand (n_tryStmt h)
section
variable{X:Cx}{μ μ':Mu}{σ σ':Hp}{it:List (Addr×Obj)}{fr:List FrRec}{s s':Shared}{M:Model}{A:Around}{E:Value→Shared→Prop}
theorem ESt.note{p:FrRec}{env:Env}{outer:List Env}{c:Addr}{ev:Value}{Q:Unit→Shared→Prop}(hA:A.frames=some (env::outer))(hf:env.frame=some p.1)(hO:OutOk (env::outer) ((p::fr).map (·.1)))
  (R:ESt X μ σ it (p::fr) (env::outer) c ev s) (hQ:∀ e s',ev=.ref e→Flies X μ σ it (p::fr) outer c e s'→Q () s'):wpAny M A (leaving env ev) Q E s:=by
 rcases R with ⟨e,h,args,H,hx⟩ | ⟨e,B,a0,hfl,H,S⟩
 ·let as:=(env::outer).filterMap (·.frame)
  have has:∀ b∈as,b∈(p::fr).map (·.1):=fun b hb=>by
   refine c1_2 (List.mem_filterMap.mp hb) fun e he hf=>?_
   obtain ⟨_,L,hL,hf'⟩:=hO e he
   rw [hf] at hf';cases hf';exact hL
  have S:=H.solid has
  have F:h.FunFrames (hideAll h as) (env::outer):=funFrames_hidden hO (fun q hq=>(H.frs q hq).1) fun q _ ⟨e,he,hf⟩=>hideAll_none _ (List.mem_filterMap.mpr ⟨e,he,hf⟩)
  refine wpAny_leaves_madeW hA hf (fun b o q=>of_hideAll _ q) F hx fun h' t x1 x2 x3 x4=>hQ e _ rfl ⟨_,_,x1,?_,S⟩
  exact HSt.after (s:={ s with heap:=h }) H S x1.1 ((Heap.UpToSlots.of_keeps hx.keeps).trans x4) rfl rfl
 ·exact wpAny_leaves_onW hA hf hfl fun h' x1 x2=>hQ e _ rfl ⟨B,a0,x1,H.after S x1.1 x2 rfl rfl,S⟩
theorem Looks.isType_cls{K:Frag}{h:Heap}(X:K.In h){C:Addr}{cd:ClassData}(e:clsIn K C=some cd):Looks M h (isType (.ref C)) true:=by
 cases q:K.lookup C with
 | none=>unfold clsIn at e;rw [q] at e;exact nos e
 | some ob =>
  have q':=X _ _ q
  unfold clsIn at e;rw [q] at e
  obtain ⟨o,od,d,sl⟩:=ob
  cases d with
  | cls cd'=>exact (Looks.ld q').andThen .now
  | _=>exact nos e
theorem exc_cls(w:World){c:Addr}(h:excOk c=true):∃ cd,clsIn (Fg w) c=some cd:=Option.isSome_iff_exists.mp (exc_ok w h).cls
theorem excMatches_own{w:World}{h:Heap}(K:(Fg w).In h){e c d:Addr}{ob:Obj}(he:h.get? e=some ob)(hob:ob.cls=.ref c)(hc:excOk c=true)(hd:excOk d=true):Looks M h (excMatches (.ref e) (.ref d)) (decide (c=d)):=by
 refine c1_1 (exc_cls w hd) fun cd hcd=>?_
 refine c0_2 ((exc_ok w hd).look) fun s1 s2=>?_
 have s3:=(exc_ok w hc).sub d hd
 have ty:Looks M h (typeOf (.ref e)) (.ref c):=hob▸(Looks.ld he).andThen .now
 have tup:Looks M h (isInstance (.ref d) (.type "tuple")) false:=looks_instIn K s2
 have exc:Looks M h (isExcClass (.ref d)) true:=(Looks.isType_cls K hcd).andThen (looks_subIn K s1)
 unfold excMatches
 refine tup.andThen ?_
 refine Looks.now.andThen ?_
 intro A Q E s k q
 refine wpAny_bind ?_
 rw [List.forIn_cons]
 refine wpAny_bind (wpAny_bind (exc A _ E s k (wpAny_pure ?_)))
 dsimp only
 rw [List.forIn_nil]
 refine wpAny_pure (wpAny_bind (ty A _ E s k ?_))
 refine wpAny_bind ?_
 rw [List.forIn_cons]
 refine wpAny_bind (wpAny_bind (looks_subIn K s3 A _ E s k ?_))
 by_cases hcd:c=d
 ·rw [decide_eq_true hcd] at q ⊢;exact wpAny_pure (wpAny_pure (wpAny_pure q))
 ·rw [decide_eq_false hcd] at q ⊢;exact wpAny_pure (by dsimp only;rw [List.forIn_nil];exact wpAny_pure (wpAny_pure q))
end
section
variable{X:Cx}{G:Gm}{σ:Hp}{ρ:Loc}{E:Addr→Hp→Loc→Prop}{R:MF→Hp→Loc→Prop}
inductive HandJ(X:Cx)(G:Gm)(c:Addr)(σ:Hp)(ρ:Loc)(R:MF→Hp→Loc→Prop):List ExceptHandler→Prop
 | mk {n:String} {d:Addr} {np pos:Pos} {b₀:Stmt} {suite:List Stmt} {rest:List ExceptHandler} (hn:G.S.glbs.contains n=true) (hv:nsIn (Fg X.w) mainGlobals (Str.ofString n)=some (some (.ref d))) (hd:excOk d=true)
  (h1:c=d→ExSs X ⟨G.n,false,G.S,false⟩ (b₀::suite) σ ρ R fun _ _ _=>False) (h2:c≠d→HandJ X G c σ ρ R rest):HandJ X G c σ ρ R (.ExceptHandler (some (.Name (Str.ofString n) np)) none (b₀::suite) pos::rest)
theorem handle_ok{c e:Addr}{A:Around}{env:Env}{frs outer:List Env}{μ:Mu}{it own:List (Addr×Obj)}{fr:List FrRec}{es:Array DictEntry}{ep:Nat}{Ev:Value→Shared→Prop}(he:EnvOk G env frs)(ha:AOk G.n G.b A frs (env.locals::fr.map (·.1)))(hc:excOk c=true)
  (k:StrKeys es) (rd:Reads μ env ρ es (own++it)) (o:OwnOk env own) {hs:List ExceptHandler} (h:HandJ X G c σ ρ R hs):∀ s,Flies X μ σ (own++it) ((env.locals,es,ep)::fr) outer c e s →
   wpAny (model prog X.w) A (handleBy (.ref e) env hs) (GPost X μ env it fr FlR R) Ev s:=by
 induction h with
 | @mk n d np pos b₀ suite rest hn hv hd h1 h2 ih =>
  intro s fl
  obtain ⟨B,a0,hfl,H,S⟩:=fl
  have hs:FSt X μ σ env ρ it fr s:=⟨es,ep,own,H,k,rd,o⟩
  refine c1_2 hfl.2.2.2.at.there fun ob hob hobc=>?_
  refine wpAny_handleBy_cons (codeAny_handlers_test (raise_name he hs hn hv ?_)) (by intro q;cases q)
  have L:=excMatches_own (M:=model prog X.w) H.inK hob hobc hc hd
  refine L _ _ _ s (fun _ _ e=>e) ?_
  by_cases hcd:c=d
  ·rw [decide_eq_true hcd]
   refine codeAny_handlers_suite (lands_againW hfl fun h' x1 x2=>?_)
   have H':HSt X μ σ (own++it) ((env.locals,es,ep)::fr) { s with heap:=h' }:=H.after S x1.1 x2 rfl rfl
   have ha':AOk G.n false (A.mark (some (.ref e))) frs (env.locals::fr.map (·.1)):=⟨ha.frames,ha.out,ha.depth,ha.units,fun z=>by cases z⟩
   have he':EnvOk ⟨G.n,false,G.S,false⟩ env frs:=⟨he.sc,he.glob,he.blt,he.ok,he.here,he.cel⟩
   refine wpAny_mono (n_any (h1 hcd _ env frs μ it fr _ he' ha' ⟨es,ep,own,H',k,rd,o⟩)) (fun _ _ x=>x) ?_
   rintro ev s₁ ⟨_,_,_,_,_,_,z⟩
   exact z.elim
  ·rw [decide_eq_false hcd]
   exact ih hcd s ⟨B,a0,hfl,H,S⟩
theorem ExS.try{body:List Stmt}{h₀:ExceptHandler}{hs:List ExceptHandler}{pos:Pos}(hpl:G.S.plain=true)
  (h:ExSs X G body σ ρ R (fun c σ₁ ρ₁=>excOk c=true∧HandJ X G c σ₁ ρ₁ R (h₀::hs))):ExS X G (.Try body (h₀::hs) [] [] pos) σ ρ R E:=fun A env frs μ it fr s he ha hs'=>by
 obtain ⟨hfr,outer,rfl⟩:=he.here hpl
 refine n_try (n_mono (h A env (env::outer) μ it fr s he ha hs') ?_ ?_)
 ·rintro f s₁ ⟨μ₁,mf,σ₁,ρ₁,e₁,r₁,hs₁,hq⟩
  cases mf with
  | next=>cases r₁;exact n_execs_nil ⟨μ₁,.next,σ₁,ρ₁,e₁,rfl,hs₁,hq⟩
  | ret v=>refine c1_2 r₁ ?_;rintro V rfl hV;exact ⟨μ₁,.ret v,σ₁,ρ₁,e₁,⟨V,rfl,hV⟩,hs₁,hq⟩
 ·rintro ev s₁ ⟨μ₁,c,σ₁,ρ₁,e₁,⟨es,ep,own,Rr,k,rd,o⟩,hc,hq⟩
  refine n_up <| Rr.note (p:=(env.locals,es,ep)) ha.frames hfr ha.out fun e s₂ hev hfl=>?_
  subst hev
  exact n_up <| wpAny_mono (handle_ok (R:=R) (Ev:=fun _ _=>False) he ha hc k rd o hq s₂ hfl) (fun _ _=>.ext e₁) fun _ _ z=>z.elim
end
noncomputable def scB(S:Sc):Bool:=decide (S.scope.kind=.function) && (S.locs.all (fun x=>decide (S.scope.names.lookup (Str.ofString x)=some .local)) && (S.cels.all (fun x=>decide (S.scope.names.lookup (Str.ofString x)=some .cell)) && (S.frees.all (fun x=>decide (S.scope.names.lookup (Str.ofString x)=some .free)) &&
 (S.glbs.all (fun x=>decide (S.scope.names.lookup (Str.ofString x)=some .globalImplicit)) && (S.locs++S.cels++S.frees++S.glbs).all fun x=>!(Str.ofString x==("__debug__":Str))))))
theorem Sc.ok_of{S:Sc}(h:scB S=true):S.Ok:=by
 unfold scB at h
 simp only [Bool.and_eq_true,List.all_eq_true,decide_eq_true_eq,Bool.not_eq_true'] at h
 exact ⟨h.1,h.2.1,h.2.2.1,h.2.2.2.1,h.2.2.2.2.1,h.2.2.2.2.2⟩
noncomputable def sideB(sc:Scope)(ns:List String)(S:Sc):Bool:=scB S && (ns.all S.locs.contains && (decide ns.Nodup && (sc.names.all (fun x=>decide (x.2≠.cell)) && (!sc.isCoroutine && !sc.isGenerator))))
noncomputable abbrev binds(st:Stmt)(ns:List String)(Vs:List Value):Prop:=∀ q cd pm,bindArgs (fnOf (fdName st) (Str.ofString q) (fdParams st) (fdBody st) (fdScope st) .none .none .none pm none (.ref cd) .none) ⟨Vs,[]⟩=pure ((ns.map Str.ofString).zip Vs)
theorem FnSide.of{st:Stmt}{ns:List String}{S:Sc}(hs:S.scope=fdScope st)(h:sideB (fdScope st) ns S=true)(hb:∀ Vs:List Value,Vs.length=ns.length→binds st ns Vs):FnSide st ns S:=by
 unfold sideB at h
 simp only [Bool.and_eq_true,List.all_eq_true,decide_eq_true_eq,Bool.not_eq_true',List.contains_iff_mem] at h
 exact ⟨hs,Sc.ok_of h.1,fun q cd pm Vs e=>hb Vs e q cd pm,h.2.1,h.2.2.1,h.2.2.2.1,h.2.2.2.2.1,h.2.2.2.2.2⟩
theorem len0{P:List Value→Prop}(h:P []):∀ Vs:List Value,Vs.length=0→P Vs:=fun Vs e=>(List.eq_nil_of_length_eq_zero e).symm▸h
theorem len1{n:Nat}{P:List Value→Prop}(h:∀ a,∀ Vs:List Value,Vs.length=n→P (a::Vs)):∀ Vs:List Value,Vs.length=n+1→P Vs
 | a::Vs,e=>h a Vs (Nat.succ.inj e)
noncomputable def S_Node_init:Sc:=⟨fdScope (inCls 13 0),["self","number","data","kept"],[],[],[],true⟩
theorem D_Node_init:FnSide (inCls 13 0) ["self","number","data","kept"] S_Node_init:=.of rfl (by kernel_rfl) (len1 fun _=>len1 fun _=>len1 fun _=>len1 fun _=>len0 fun _ _ _=>by kernel_rfl)
noncomputable def S_Node_unsynced:Sc:=⟨fdScope (inCls 13 1),["self"],[],[],["len"],true⟩
theorem D_Node_unsynced:FnSide (inCls 13 1) ["self"] S_Node_unsynced:=.of rfl (by kernel_rfl) (len1 fun _=>len0 fun _ _ _=>by kernel_rfl)
noncomputable def S_Node_copy:Sc:=⟨fdScope (inCls 13 2),["self"],[],[],["Node","bytearray"],true⟩
theorem D_Node_copy:FnSide (inCls 13 2) ["self"] S_Node_copy:=.of rfl (by kernel_rfl) (len1 fun _=>len0 fun _ _ _=>by kernel_rfl)
noncomputable def S_DirStep_init:Sc:=⟨fdScope (inCls 14 0),["self","kind","name","other","number"],[],[],[],true⟩
theorem D_DirStep_init:FnSide (inCls 14 0) ["self","kind","name","other","number"] S_DirStep_init:=.of rfl (by kernel_rfl) (len1 fun _=>len1 fun _=>len1 fun _=>len1 fun _=>len1 fun _=>len0 fun _ _ _=>by kernel_rfl)
noncomputable def S_DirStep_happen:Sc:=⟨fdScope (inCls 14 1),["self","directory","number"],[],[],["STEP_CREATE","STEP_REMOVE"],true⟩
theorem D_DirStep_happen:FnSide (inCls 14 1) ["self","directory"] S_DirStep_happen:=.of rfl (by kernel_rfl) (len1 fun _=>len1 fun _=>len0 fun _ _ _=>by kernel_rfl)
noncomputable def S_File_init:Sc:=⟨fdScope (inCls 15 0),["self","disk","name","node"],[],[],[],true⟩
theorem D_File_init:FnSide (inCls 15 0) ["self","disk","name","node"] S_File_init:=.of rfl (by kernel_rfl) (len1 fun _=>len1 fun _=>len1 fun _=>len1 fun _=>len0 fun _ _ _=>by kernel_rfl)
noncomputable def S_File_ready:Sc:=⟨fdScope (inCls 15 1),["self"],[],[],["BadHandle"],true⟩
theorem D_File_ready:FnSide (inCls 15 1) ["self"] S_File_ready:=.of rfl (by kernel_rfl) (len1 fun _=>len0 fun _ _ _=>by kernel_rfl)
noncomputable def S_File_append:Sc:=⟨fdScope (inCls 15 2),["self","octets","got","wanted"],[],[],["len","DiskDead"],true⟩
theorem D_File_append:FnSide (inCls 15 2) ["self","octets"] S_File_append:=.of rfl (by kernel_rfl) (len1 fun _=>len1 fun _=>len0 fun _ _ _=>by kernel_rfl)
noncomputable def S_File_sync:Sc:=⟨fdScope (inCls 15 3),["self"],[],[],["len"],true⟩
theorem D_File_sync:FnSide (inCls 15 3) ["self"] S_File_sync:=.of rfl (by kernel_rfl) (len1 fun _=>len0 fun _ _ _=>by kernel_rfl)
noncomputable def S_File_close:Sc:=⟨fdScope (inCls 15 4),["self"],[],[],[],true⟩
theorem D_File_close:FnSide (inCls 15 4) ["self"] S_File_close:=.of rfl (by kernel_rfl) (len1 fun _=>len0 fun _ _ _=>by kernel_rfl)
noncomputable def S_File_length:Sc:=⟨fdScope (inCls 15 5),["self"],[],[],["len"],true⟩
theorem D_File_length:FnSide (inCls 15 5) ["self"] S_File_length:=.of rfl (by kernel_rfl) (len1 fun _=>len0 fun _ _ _=>by kernel_rfl)
noncomputable def S_Disk_init:Sc:=⟨fdScope (inCls 16 0),["self","budget"],[],[],["BadOption"],true⟩
theorem D_Disk_init:FnSide (inCls 16 0) ["self","budget"] S_Disk_init:=.of rfl (by kernel_rfl) (len1 fun _=>len1 fun _=>len0 fun _ _ _=>by kernel_rfl)
noncomputable def S_Disk_set_budget:Sc:=⟨fdScope (inCls 16 1),["self","budget"],[],[],["BadOption"],true⟩
theorem D_Disk_set_budget:FnSide (inCls 16 1) ["self","budget"] S_Disk_set_budget:=.of rfl (by kernel_rfl) (len1 fun _=>len1 fun _=>len0 fun _ _ _=>by kernel_rfl)
noncomputable def S_Disk_check_alive:Sc:=⟨fdScope (inCls 16 2),["self"],[],[],["DiskDead"],true⟩
theorem D_Disk_check_alive:FnSide (inCls 16 2) ["self"] S_Disk_check_alive:=.of rfl (by kernel_rfl) (len1 fun _=>len0 fun _ _ _=>by kernel_rfl)
noncomputable def S_Disk_take_steps:Sc:=⟨fdScope (inCls 16 3),["self","wanted","got"],[],[],[],true⟩
theorem D_Disk_take_steps:FnSide (inCls 16 3) ["self","wanted"] S_Disk_take_steps:=.of rfl (by kernel_rfl) (len1 fun _=>len1 fun _=>len0 fun _ _ _=>by kernel_rfl)
noncomputable def S_Disk_one_step:Sc:=⟨fdScope (inCls 16 4),["self","what"],[],[],["DiskDead"],true⟩
theorem D_Disk_one_step:FnSide (inCls 16 4) ["self","what"] S_Disk_one_step:=.of rfl (by kernel_rfl) (len1 fun _=>len1 fun _=>len0 fun _ _ _=>by kernel_rfl)
noncomputable def S_Disk_node_of:Sc:=⟨fdScope (inCls 16 5),["self","name"],[],[],["NoSuchFile"],true⟩
theorem D_Disk_node_of:FnSide (inCls 16 5) ["self","name"] S_Disk_node_of:=.of rfl (by kernel_rfl) (len1 fun _=>len1 fun _=>len0 fun _ _ _=>by kernel_rfl)
noncomputable def S_Disk_dir_step:Sc:=⟨fdScope (inCls 16 6),["self","step"],[],[],[],true⟩
theorem D_Disk_dir_step:FnSide (inCls 16 6) ["self","step"] S_Disk_dir_step:=.of rfl (by kernel_rfl) (len1 fun _=>len1 fun _=>len0 fun _ _ _=>by kernel_rfl)
noncomputable def S_Disk_keep_creation:Sc:=⟨fdScope (inCls 16 7),["self","number","at","step","upto"],[],[],["range","len","STEP_CREATE"],true⟩
theorem D_Disk_keep_creation:FnSide (inCls 16 7) ["self","number"] S_Disk_keep_creation:=.of rfl (by kernel_rfl) (len1 fun _=>len1 fun _=>len0 fun _ _ _=>by kernel_rfl)
noncomputable def S_Disk_create:Sc:=⟨fdScope (inCls 16 8),["self","name"],[],[],["FileThere"],true⟩
theorem D_Disk_create:FnSide (inCls 16 8) ["self","name"] S_Disk_create:=.of rfl (by kernel_rfl) (len1 fun _=>len1 fun _=>len0 fun _ _ _=>by kernel_rfl)
noncomputable def S_Disk_create_over:Sc:=⟨fdScope (inCls 16 9),["self","name","node"],[],[],["Node","bytearray","DirStep","STEP_CREATE","File"],true⟩
theorem D_Disk_create_over:FnSide (inCls 16 9) ["self","name"] S_Disk_create_over:=.of rfl (by kernel_rfl) (len1 fun _=>len1 fun _=>len0 fun _ _ _=>by kernel_rfl)
noncomputable def S_Disk_append_to:Sc:=⟨fdScope (inCls 16 10),["self","name"],[],[],["File"],true⟩
theorem D_Disk_append_to:FnSide (inCls 16 10) ["self","name"] S_Disk_append_to:=.of rfl (by kernel_rfl) (len1 fun _=>len1 fun _=>len0 fun _ _ _=>by kernel_rfl)
noncomputable def S_Disk_remove:Sc:=⟨fdScope (inCls 16 11),["self","name"],[],[],["DirStep","STEP_REMOVE"],true⟩
theorem D_Disk_remove:FnSide (inCls 16 11) ["self","name"] S_Disk_remove:=.of rfl (by kernel_rfl) (len1 fun _=>len1 fun _=>len0 fun _ _ _=>by kernel_rfl)
noncomputable def S_Disk_rename:Sc:=⟨fdScope (inCls 16 12),["self","old","new"],[],[],["DirStep","STEP_RENAME"],true⟩
theorem D_Disk_rename:FnSide (inCls 16 12) ["self","old","new"] S_Disk_rename:=.of rfl (by kernel_rfl) (len1 fun _=>len1 fun _=>len1 fun _=>len0 fun _ _ _=>by kernel_rfl)
noncomputable def S_Disk_sync_dir:Sc:=⟨fdScope (inCls 16 13),["self","living","name","number"],[],[],["dict","sorted"],true⟩
theorem D_Disk_sync_dir:FnSide (inCls 16 13) ["self"] S_Disk_sync_dir:=.of rfl (by kernel_rfl) (len1 fun _=>len0 fun _ _ _=>by kernel_rfl)
noncomputable def S_Disk_read:Sc:=⟨fdScope (inCls 16 14),["self","name"],[],[],["bytes"],true⟩
theorem D_Disk_read:FnSide (inCls 16 14) ["self","name"] S_Disk_read:=.of rfl (by kernel_rfl) (len1 fun _=>len1 fun _=>len0 fun _ _ _=>by kernel_rfl)
noncomputable def S_Disk_size:Sc:=⟨fdScope (inCls 16 15),["self","name"],[],[],["len"],true⟩
theorem D_Disk_size:FnSide (inCls 16 15) ["self","name"] S_Disk_size:=.of rfl (by kernel_rfl) (len1 fun _=>len1 fun _=>len0 fun _ _ _=>by kernel_rfl)
noncomputable def S_Disk_has:Sc:=⟨fdScope (inCls 16 16),["self","name"],[],[],[],true⟩
theorem D_Disk_has:FnSide (inCls 16 16) ["self","name"] S_Disk_has:=.of rfl (by kernel_rfl) (len1 fun _=>len1 fun _=>len0 fun _ _ _=>by kernel_rfl)
noncomputable def S_Disk_names:Sc:=⟨fdScope (inCls 16 17),["self"],[],[],["sorted"],true⟩
theorem D_Disk_names:FnSide (inCls 16 17) ["self"] S_Disk_names:=.of rfl (by kernel_rfl) (len1 fun _=>len0 fun _ _ _=>by kernel_rfl)
noncomputable def S_Disk_power_cut:Sc:=⟨fdScope (inCls 16 18),["self","picks","after","directory","happened","length","name","node","place","row","step"],[],[],["len","dict","Disk","sorted","Node","bytearray"],true⟩
theorem D_Disk_power_cut:FnSide (inCls 16 18) ["self","picks"] S_Disk_power_cut:=.of rfl (by kernel_rfl) (len1 fun _=>len1 fun _=>len0 fun _ _ _=>by kernel_rfl)
noncomputable def S_Disk_copy:Sc:=⟨fdScope (inCls 16 19),["self","number","other"],[],[],["Disk","sorted","dict","list"],true⟩
theorem D_Disk_copy:FnSide (inCls 16 19) ["self"] S_Disk_copy:=.of rfl (by kernel_rfl) (len1 fun _=>len0 fun _ _ _=>by kernel_rfl)
noncomputable def S_Disk_row:Sc:=⟨fdScope (inCls 16 20),["self","name","rows"],[],[],["sorted","bytes","tuple"],true⟩
theorem D_Disk_row:FnSide (inCls 16 20) ["self"] S_Disk_row:=.of rfl (by kernel_rfl) (len1 fun _=>len0 fun _ _ _=>by kernel_rfl)
noncomputable def S_SubDisk_init:Sc:=⟨fdScope (inCls 17 0),["self","disk","prefix"],[],[],[],true⟩
theorem D_SubDisk_init:FnSide (inCls 17 0) ["self","disk","prefix"] S_SubDisk_init:=.of rfl (by kernel_rfl) (len1 fun _=>len1 fun _=>len1 fun _=>len0 fun _ _ _=>by kernel_rfl)
noncomputable def S_SubDisk_alive:Sc:=⟨fdScope (inCls 17 1),["self"],[],[],[],true⟩
theorem D_SubDisk_alive:FnSide (inCls 17 1) ["self"] S_SubDisk_alive:=.of rfl (by kernel_rfl) (len1 fun _=>len0 fun _ _ _=>by kernel_rfl)
noncomputable def S_SubDisk_spent:Sc:=⟨fdScope (inCls 17 2),["self"],[],[],[],true⟩
theorem D_SubDisk_spent:FnSide (inCls 17 2) ["self"] S_SubDisk_spent:=.of rfl (by kernel_rfl) (len1 fun _=>len0 fun _ _ _=>by kernel_rfl)
noncomputable def S_SubDisk_set_budget:Sc:=⟨fdScope (inCls 17 3),["self","budget"],[],[],[],true⟩
theorem D_SubDisk_set_budget:FnSide (inCls 17 3) ["self","budget"] S_SubDisk_set_budget:=.of rfl (by kernel_rfl) (len1 fun _=>len1 fun _=>len0 fun _ _ _=>by kernel_rfl)
noncomputable def S_SubDisk_create:Sc:=⟨fdScope (inCls 17 4),["self","name"],[],[],[],true⟩
theorem D_SubDisk_create:FnSide (inCls 17 4) ["self","name"] S_SubDisk_create:=.of rfl (by kernel_rfl) (len1 fun _=>len1 fun _=>len0 fun _ _ _=>by kernel_rfl)
noncomputable def S_SubDisk_create_over:Sc:=⟨fdScope (inCls 17 5),["self","name"],[],[],[],true⟩
theorem D_SubDisk_create_over:FnSide (inCls 17 5) ["self","name"] S_SubDisk_create_over:=.of rfl (by kernel_rfl) (len1 fun _=>len1 fun _=>len0 fun _ _ _=>by kernel_rfl)
noncomputable def S_SubDisk_append_to:Sc:=⟨fdScope (inCls 17 6),["self","name"],[],[],[],true⟩
theorem D_SubDisk_append_to:FnSide (inCls 17 6) ["self","name"] S_SubDisk_append_to:=.of rfl (by kernel_rfl) (len1 fun _=>len1 fun _=>len0 fun _ _ _=>by kernel_rfl)
noncomputable def S_SubDisk_remove:Sc:=⟨fdScope (inCls 17 7),["self","name"],[],[],[],true⟩
theorem D_SubDisk_remove:FnSide (inCls 17 7) ["self","name"] S_SubDisk_remove:=.of rfl (by kernel_rfl) (len1 fun _=>len1 fun _=>len0 fun _ _ _=>by kernel_rfl)
noncomputable def S_SubDisk_rename:Sc:=⟨fdScope (inCls 17 8),["self","old","new"],[],[],[],true⟩
theorem D_SubDisk_rename:FnSide (inCls 17 8) ["self","old","new"] S_SubDisk_rename:=.of rfl (by kernel_rfl) (len1 fun _=>len1 fun _=>len1 fun _=>len0 fun _ _ _=>by kernel_rfl)
noncomputable def S_SubDisk_sync_dir:Sc:=⟨fdScope (inCls 17 9),["self"],[],[],[],true⟩
theorem D_SubDisk_sync_dir:FnSide (inCls 17 9) ["self"] S_SubDisk_sync_dir:=.of rfl (by kernel_rfl) (len1 fun _=>len0 fun _ _ _=>by kernel_rfl)
noncomputable def S_SubDisk_read:Sc:=⟨fdScope (inCls 17 10),["self","name"],[],[],[],true⟩
theorem D_SubDisk_read:FnSide (inCls 17 10) ["self","name"] S_SubDisk_read:=.of rfl (by kernel_rfl) (len1 fun _=>len1 fun _=>len0 fun _ _ _=>by kernel_rfl)
noncomputable def S_SubDisk_size:Sc:=⟨fdScope (inCls 17 11),["self","name"],[],[],[],true⟩
theorem D_SubDisk_size:FnSide (inCls 17 11) ["self","name"] S_SubDisk_size:=.of rfl (by kernel_rfl) (len1 fun _=>len1 fun _=>len0 fun _ _ _=>by kernel_rfl)
noncomputable def S_SubDisk_has:Sc:=⟨fdScope (inCls 17 12),["self","name"],[],[],[],true⟩
theorem D_SubDisk_has:FnSide (inCls 17 12) ["self","name"] S_SubDisk_has:=.of rfl (by kernel_rfl) (len1 fun _=>len1 fun _=>len0 fun _ _ _=>by kernel_rfl)
noncomputable def S_SubDisk_names:Sc:=⟨fdScope (inCls 17 13),["self","found","name"],[],[],["len"],true⟩
theorem D_SubDisk_names:FnSide (inCls 17 13) ["self"] S_SubDisk_names:=.of rfl (by kernel_rfl) (len1 fun _=>len0 fun _ _ _=>by kernel_rfl)
noncomputable def S_SubDisk_power_cut:Sc:=⟨fdScope (inCls 17 14),["self","picks"],[],[],["SubDisk"],true⟩
theorem D_SubDisk_power_cut:FnSide (inCls 17 14) ["self","picks"] S_SubDisk_power_cut:=.of rfl (by kernel_rfl) (len1 fun _=>len1 fun _=>len0 fun _ _ _=>by kernel_rfl)
noncomputable def S_SubDisk_copy:Sc:=⟨fdScope (inCls 17 15),["self"],[],[],["SubDisk"],true⟩
theorem D_SubDisk_copy:FnSide (inCls 17 15) ["self"] S_SubDisk_copy:=.of rfl (by kernel_rfl) (len1 fun _=>len0 fun _ _ _=>by kernel_rfl)
noncomputable def S_SubDisk_row:Sc:=⟨fdScope (inCls 17 16),["self","pair","rows"],[],[],["len","tuple"],true⟩
theorem D_SubDisk_row:FnSide (inCls 17 16) ["self"] S_SubDisk_row:=.of rfl (by kernel_rfl) (len1 fun _=>len0 fun _ _ _=>by kernel_rfl)
noncomputable def S_law_names:Sc:=⟨fdScope (atTop 19),[],[],[],[],true⟩
theorem D_law_names:FnSide (atTop 19) [] S_law_names:=.of rfl (by kernel_rfl) (len0 fun _ _ _=>by kernel_rfl)
noncomputable def S_law_kinds:Sc:=⟨fdScope (atTop 20),[],[],[],[],true⟩
theorem D_law_kinds:FnSide (atTop 20) [] S_law_kinds:=.of rfl (by kernel_rfl) (len0 fun _ _ _=>by kernel_rfl)
noncomputable def S_law_draw:Sc:=⟨fdScope (atTop 21),["nums","i"],[],[],["len"],true⟩
theorem D_law_draw:FnSide (atTop 21) ["nums","i"] S_law_draw:=.of rfl (by kernel_rfl) (len1 fun _=>len1 fun _=>len0 fun _ _ _=>by kernel_rfl)
noncomputable def S_law_does:Sc:=⟨fdScope (atTop 22),["place","file","kind","one","two","octets","made"],[],[],["NoSuchFile","FileThere","BadHandle"],true⟩
theorem D_law_does:FnSide (atTop 22) ["place","file","kind","one","two","octets"] S_law_does:=.of rfl (by kernel_rfl) (len1 fun _=>len1 fun _=>len1 fun _=>len1 fun _=>len1 fun _=>len1 fun _=>len0 fun _ _ _=>by kernel_rfl)
noncomputable def S_law_length:Sc:=⟨fdScope (atTop 23),["file"],[],[],["BadHandle"],true⟩
theorem D_law_length:FnSide (atTop 23) ["file"] S_law_length:=.of rfl (by kernel_rfl) (len1 fun _=>len0 fun _ _ _=>by kernel_rfl)
noncomputable def S_law_alike:Sc:=⟨fdScope (atTop 24),["sub","own","files","name","pair"],[],[],["_law_names","_law_length"],true⟩
theorem D_law_alike:FnSide (atTop 24) ["sub","own","files"] S_law_alike:=.of rfl (by kernel_rfl) (len1 fun _=>len1 fun _=>len1 fun _=>len0 fun _ _ _=>by kernel_rfl)
noncomputable def S_law_dead:Sc:=⟨fdScope (atTop 25),["sub"],[],[],["DiskDead"],true⟩
theorem D_law_dead:FnSide (atTop 25) ["sub"] S_law_dead:=.of rfl (by kernel_rfl) (len1 fun _=>len0 fun _ _ _=>by kernel_rfl)
noncomputable def S_law:Sc:=⟨fdScope (atTop 26),["script","a","again","budget","code","dead","disk","ends","files","first","i","j","kept","kind","left","made","mine","octets","old","one","other","owners","owns","pair","picks","place","rest","safe","second","spent","steps","still","sub","subs","there","twins","two","under","w","y","z"],["nums","p"],[],["len","_law_draw","Disk","SubDisk","range","_law_kinds","_law_names","bytes","_law_does","max","_law_alike","DiskDead","tuple","_law_dead"],true⟩
theorem O_law:S_law.Ok:=Sc.ok_of (by kernel_rfl)
inductive BPost(X:Cx)(μ:Mu)(it:List (Addr×Obj))(fr:List FrRec)(Q:MV→Hp→Prop)(V:Value)(s':Shared):Prop
 | mk (μ':Mu) (v:MV) (σ':Hp) (e:Ext μ μ') (r:VR μ' v V) (H:HSt X μ' σ' it fr s') (q:Q v σ')
noncomputable def BCall(X:Cx)(c:Bool)(f:Value)(args:List MV)(σ:Hp)(Q:MV→Hp→Prop):Prop :=
 ∀ A μ it fr s Vs E,A.handled=none→HSt X μ σ it fr s→VRs μ args Vs→wpN c (model prog X.w) A (call f Vs []) (BPost X μ it fr Q) E s
section
variable{X:Cx}{G:Gm}{σ:Hp}{ρ:Loc}{Q:MV→Hp→Loc→Prop}{E:Addr→Hp→Loc→Prop}
theorem FSt.call{c:Bool}{P:MV→Hp→Prop}{f:Value}{args:List MV}{A:Around}{env:Env}{μ:Mu}{it:List (Addr×Obj)}{fr:List FrRec}{s:Shared}{Vs:List Value}{Ev:Value→Shared→Prop}(F:FSt X μ σ env ρ it fr s)(hA:A.handled=none)
  (h:BCall X c f args σ P) (hv:VRs μ args Vs) (hQ:∀ v σ',P v σ'→Q v σ' ρ):wpN c (model prog X.w) A (call f Vs []) (GPost X μ env it fr VR Q) Ev s:=by
 obtain ⟨es,ep,own,H,k,r,o⟩:=F
 refine n_mono (h A μ _ _ s Vs Ev hA H hv) ?_ fun _ _ x=>x
 rintro V s' ⟨μ',v,σ',e,hv',H',hq⟩
 exact ⟨μ',v,σ',ρ,e,hv',⟨es,ep,own,H',k,r.mono e,o⟩,hQ _ _ hq⟩
theorem keeps_noRef{M:Model}{f:Value}(hk:noRef f=true)(h:Heap):∃ k,(k=Keeper.frame∨k=Keeper.machine∨k=Keeper.boundFrame)∧Looks M h (keeperOf f) k:=by
 refine ⟨.machine,.inr (.inl rfl),?_⟩
 cases f <;> first | exact Looks.of_pure rfl | cases hk
theorem callWith_b{cpos apos:Pos}{f:Value}{first:List MV}{fV:List Value}{args:List Expr}{A:Around}{env:Env}{frs:List Env}{μ:Mu}{it:List (Addr×Obj)}{fr:List FrRec}{s:Shared}
  (hk:noRef f=true) (hp:allPlain args=true) (he:EnvOk G env frs) (ha:AOk G.n G.b A frs (env.locals::fr.map (·.1))) (hG:G.b=true) (hs:FSt X μ σ env ρ it fr s) (hf:VRs μ first fV)
  (h:EvArgs X G apos args σ ρ (fun vs σ₁ ρ₁=>BCall X G.c f (first++vs) σ₁ (fun v σ₂=>Q v σ₂ ρ₁)) E) :
  wpN G.c (model prog X.w) A (callWith cpos f fV (backTo apos (starEach args env)) []) (GPost X μ env it fr VR Q) (EPost X μ env it fr frs E) s:=by
 have fin:∀ Vs s₁,GPost X μ env it fr VRs (fun vs σ₁ ρ₁=>BCall X G.c f (first++vs) σ₁ (fun v σ₂=>Q v σ₂ ρ₁)) Vs s₁ →
   True∧wpN G.c (model prog X.w) A (call f (fV++Vs) []) (GPost X μ env it fr VR Q) (EPost X μ env it fr frs E) s₁:=by
  rintro Vs s₁ ⟨μ₁,vs,σ₁,ρ₁,e₁,r₁,hs₁,hq⟩
  exact ⟨trivial,n_mono (hs₁.call (Q:=Q) (ha.han hG) hq ((hf.mono e₁).append r₁) fun _ _ h=>h) (fun _ _=>.ext e₁) fun _ _ x=>x⟩
 refine n_callWith (P:=fun _=>True) (plain_any hp) (fun h _=>keeps_noRef hk h) ?_
 have hh:=h A env frs μ it fr s he ha hs
 cases args with
 | nil=>exact n_evalArgs_none (n_mono hh fin fun _ _ x=>x)
 | cons e rest =>
  have hn:noStar e=true:=(Bool.and_eq_true_iff.mp hp).1
  have hh':wpN G.c (model prog X.w) A (spliced (backTo apos (starEach (e::rest) env))) _ _ s:=hh
  rw [starEach_cons hn] at hh' ⊢
  exact n_evalArgs_plain (n_mono hh' fin fun _ _ x=>x)
@[reducible] def kB(X:Cx)(G:Gm)(f:Value)(Q:MV→Hp→Loc→Prop)(vs:List MV)(σ:Hp)(ρ:Loc):Prop:=BCall X G.c f vs σ (At ρ Q)
@[reducible] def kBM(X:Cx)(G:Gm)(f:Value)(ov:MV)(Q:MV→Hp→Loc→Prop)(vs:List MV)(σ:Hp)(ρ:Loc):Prop:=BCall X G.c f (ov::vs) σ (At ρ Q)
theorem EvE.callB{x:String}{np pos:Pos}{args:List Expr}{f:Value}(hG:G.b=true)(hx:G.S.glbs.contains x=true)(hv:nsIn (Fg X.w) mainGlobals (Str.ofString x)=some none)(hb:bootBuiltins (Str.ofString x)=some f)
  (h:EvArgs X G pos args σ ρ (kB X G f Q) E) (hn:Str.ofString x≠"__name__":=by decide +kernel) (hk:noRef f=true:=by rfl) (hp:allPlain args=true:=by rfl) :
  EvE X G (.Call (.Name (Str.ofString x) np) args [] pos) σ ρ Q E:=fun A env frs μ it fr s he ha hs=>by
 refine n_callName ?_
 have n:EvE X G (.Name (Str.ofString x) np) σ ρ (fun v σ₁ ρ₁=>v=.top f∧σ₁=σ∧ρ₁=ρ) E:=EvE.bltin hx hv hb hn ⟨rfl,rfl,rfl⟩
 refine n_mono (n A env frs μ it fr s he ha hs) ?_ fun _ _ x=>x
 rintro V s₁ ⟨μ₁,v,σ₁,ρ₁,e₁,r₁,hs₁,rfl,rfl,rfl⟩
 cases (show V=f from r₁)
 exact n_mono (callWith_b (first:=[]) (fV:=[]) hk hp he ha hG hs₁ trivial h) (fun _ _=>.ext e₁) fun _ _=>.ext e₁
noncomputable def BMeth(X:Cx)(σ:Hp)(v:MV)(m:String)(f:Value):Prop :=
 noRef f=true∧∀ A μ it fr s V pl Q E,HSt X μ σ it fr s→VR μ v V→Q (f,[V]) s→wpAny (model prog X.w) A (getMethod V (Str.ofString m) pl) Q E s
inductive BMethP(X:Cx)(G:Gm)(m:String)(pos:Pos)(args:List Expr)(Q:MV→Hp→Loc→Prop)(E:Addr→Hp→Loc→Prop)(ov:MV)(σ:Hp)(ρ:Loc):Prop
 | mk (f:Value) (b:BMeth X σ ov m f) (k:EvArgs X G pos args σ ρ (kBM X G f ov Q) E)
theorem EvE.bmeth{o:Expr}{m:String}{apos pos:Pos}{args:List Expr}(hG:G.b=true)
  (h:EvE X G o σ ρ (BMethP X G m pos args Q E) E)
  (hns:noSuper o:=by rfl) (hp:allPlain args=true:=by rfl) (hl:(apos.endLine==pos.line)=true:=by rfl) (hn:decide (args.length<30)=true:=by rfl) :
  EvE X G (.Call (.Attribute o (Str.ofString m) apos) args [] pos) σ ρ Q E:=fun A env frs μ it fr s he ha hs=>by
 show wpN _ _ _ (eval (.Call (.Attribute o (Str.ofString m) apos) args [] pos) env) _ _ _
 rw [arm_eval_Call,attributeBase_plain hns]
 refine n_bind (n_mono (h A env frs μ it fr s he ha hs) ?_ fun _ _ x=>x)
 rintro V s₁ ⟨μ₁,v,σ₁,ρ₁,e₁,r₁,hs₁,f,M,hq⟩
 have hform:methodCallForm (args.length+([]:List Keyword).length) (backTo pos (starEach args env)) (backToKw pos (keywordEach [] env))=true:=by
  unfold methodCallForm
  rw [plain_all hp]
  have:=of_decide_eq_true hn
  exact decide_eq_true (by show args.length+0+0<30;lia)
 refine n_stand ?_
 unfold methodCall
 rw [hform]
 obtain ⟨es,ep,own,H,_,_,_⟩:=id hs₁
 refine n_bind (n_holding (n_up ?_))
 show wpAny _ _ (getMethod V (Str.ofString m) _) _ _ _
 refine M.2 _ _ _ _ _ _ _ _ _ H r₁ ?_
 dsimp only
 unfold methodCallPos
 refine n_bind (n_pos hl (n_pure ?_))
 exact n_mono (callWith_b (first:=[v]) (fV:=[V]) M.1 hp he ha hG hs₁ ⟨r₁,trivial⟩ hq) (fun _ _=>.ext e₁) fun _ _=>.ext e₁
end
section
variable{X:Cx}{c:Bool}{μ:Mu}{σ:Hp}{it:List (Addr×Obj)}{fr:List FrRec}{s s':Shared}
theorem HSt.at_(H:HSt X μ σ it fr s){a:MA}{o:MO}{V:Value}(hσ:σ a=some o)(hV:VR μ (.ref a) V):∃ x d,V=.ref x∧μ a=some (x,d)∧ORep X μ o x d s.heap:=by
 refine c2_2 hV ?_;rintro x d m rfl
 refine c2_2 (H.dom a o hσ) fun x' d' m' r=>?_
 rw [m] at m';cases m'
 exact ⟨x,d,rfl,m,r⟩
theorem HSt.make(H:HSt X μ σ it fr s){a:MA}{o:MO}{x:Addr}(ha:σ a=none)(hk:∀ b o,s.heap.get? b=some o→s'.heap.get? b=some o)(hx:s.heap.objs.size≤x)(hx':∃ o,s'.heap.get? x=some o)
  (r:ORep X (updμ μ a (x,x)) o x x s'.heap) (hg:s'.gens=s.gens:=by rfl) (ho:s'.os=s.os:=by rfl):HSt X (updμ μ a (x,x)) (upd σ a o) it fr s' :=
 H.alloc ha hk hg ho hx hx hx' hx' r
theorem BPost.made{Q:MV→Hp→Prop}(H:HSt X μ σ it fr s){a:MA}{o:MO}{x:Addr}(ha:σ a=none)(hk:∀ b o,s.heap.get? b=some o→s'.heap.get? b=some o)(hx:s.heap.objs.size≤x)(hx':∃ o,s'.heap.get? x=some o)
  (r:ORep X (updμ μ a (x,x)) o x x s'.heap) (q:Q (.ref a) (upd σ a o)) (hg:s'.gens=s.gens:=by rfl) (ho:s'.os=s.os:=by rfl):BPost X μ it fr Q (.ref x) s' :=
 ⟨updμ μ a (x,x),.ref a,_,.upd (H.mud a ha),⟨x,x,updμ_self ..,rfl⟩,H.make ha hk hx hx' r hg ho,q⟩
theorem fit63{n:Nat}(h:n≤1000):(n:Int)<2 ^ 63:=by lia
theorem line1000{n:Nat}(h:n≤1000):n≤sizeLine:=by rw [sizeLine_eq];lia
theorem B.len_list{a:MA}{vs:List MV}{Q:MV→Hp→Prop}(hσ:σ a=some (.list vs))(hn:vs.length≤1000)(h:Q (.int vs.length) σ):BCall X c (.builtin "len") [.ref a] σ Q:=fun A μ it fr s Vs E hA H hv=>by
 refine n_up ?_
 refine c1_2 (VRs.one hv) ?_;rintro V rfl hV
 obtain ⟨x,d,rfl,m,Ws,n,h1,h2⟩:=H.at_ hσ hV
 have hl:s.heap.IsList x Ws.toArray:=⟨_,h1,rfl,n,rfl⟩
 have e:Ws.toArray.size=vs.length:=by simp [h2.length]
 refine PyProof.Rows.len_list hl (by rw [e];exact fit63 hn) ?_
 rw [e]
 exact ⟨μ,.int vs.length,σ,.refl _,⟨_,rfl⟩,H.toks,h⟩
theorem B.len_tup{a:MA}{vs:List MV}{Q:MV→Hp→Prop}(hσ:σ a=some (.tup vs))(hn:vs.length≤1000)(h:Q (.int vs.length) σ):BCall X c (.builtin "len") [.ref a] σ Q:=fun A μ it fr s Vs E hA H hv=>by
 refine n_up ?_
 refine c1_2 (VRs.one hv) ?_;rintro V rfl hV
 obtain ⟨x,d,rfl,m,Ws,n,h1,h2⟩:=H.at_ hσ hV
 have hl:IsTup s.heap x Ws.toArray:=⟨_,h1,rfl,n,rfl⟩
 have e:Ws.toArray.size=vs.length:=by simp [h2.length]
 refine PyProof.Rows.len_tuple hl (by rw [e];exact fit63 hn) ?_
 rw [e]
 exact ⟨μ,.int vs.length,σ,.refl _,⟨_,rfl⟩,H.toks,h⟩
theorem B.len_str{x:Str}{Q:MV→Hp→Prop}(hn:x.length≤1000)(h:Q (.int x.length) σ):BCall X c (.builtin "len") [.str x] σ Q:=fun A μ it fr s Vs E hA H hv=>by
 refine n_up ?_
 obtain ⟨V,rfl,t,rfl⟩:=VRs.one hv
 exact PyProof.Rows.len_str (by have:=fit63 hn;lia) ⟨μ,.int x.length,σ,.refl _,⟨_,rfl⟩,H.toks,h⟩
theorem B.len_bytes{b:Array UInt8}{Q:MV→Hp→Prop}(hn:b.size≤1000)(h:Q (.int b.size) σ):BCall X c (.builtin "len") [.bytes b] σ Q:=fun A μ it fr s Vs E hA H hv=>by
 refine n_up ?_
 obtain ⟨V,rfl,t,rfl⟩:=VRs.one hv
 exact PySem.W.len_bytes (by lia) ⟨μ,.int b.size,σ,.refl _,⟨_,rfl⟩,H.toks,h⟩
theorem B.max{i j:Int}{Q:MV→Hp→Prop}(h:Q (.int (if j>i then j else i)) σ):BCall X c (.builtin "max") [.int i,.int j] σ Q:=fun A μ it fr s Vs E hA H hv=>by
 refine n_up ?_
 obtain ⟨V,W,rfl,⟨t,rfl⟩,u,rfl⟩:=VRs.two hv
 refine max_two_ints hA fun h' tk hk=>?_
 refine ⟨μ,.int (if j>i then j else i),σ,.refl _,?_,H.grow (s':={ s with heap:=h',toks:=tk }) hk rfl rfl,h⟩
 split
 ·exact ⟨_,rfl⟩
 ·exact ⟨_,rfl⟩
theorem B.list_list{a b:MA}{vs:List MV}{Q:MV→Hp→Prop}(hb:σ b=none)(hσ:σ a=some (.list vs))(hn:vs.length≤1000)(h:Q (.ref b) (upd σ b (.list vs))):BCall X c (.type "list") [.ref a] σ Q:=fun A μ it fr s Vs E hA H hv=>by
 refine n_up ?_
 refine c1_2 (VRs.one hv) ?_;rintro V rfl hV
 obtain ⟨x,d,rfl,m,Ws,n,h1,h2⟩:=H.at_ hσ hV
 have e:Ws.toArray.size=vs.length:=by simp [h2.length]
 refine call_list_seq x (.inl rfl) h1 rfl rfl (fun h' c' hk hnew=>?_) (by rw [e];exact line1000 hn)
 exact .made (o:=.list vs) (s':={ s with heap:=h' }) H hb hk (Nat.le_refl _) ⟨_,hnew⟩ ⟨Ws,c',hnew,h2.mono (.upd (H.mud b hb))⟩ h
theorem B.tuple_list{a b:MA}{vs:List MV}{Q:MV→Hp→Prop}(hb:σ b=none)(hσ:σ a=some (.list vs))(hn:vs.length≤1000)(h:Q (.ref b) (upd σ b (.tup vs))):BCall X c (.type "tuple") [.ref a] σ Q:=fun A μ it fr s Vs E hA H hv=>by
 refine n_up ?_
 refine c1_2 (VRs.one hv) ?_;rintro V rfl hV
 obtain ⟨x,d,rfl,m,Ws,n,h1,h2⟩:=H.at_ hσ hV
 have hl:s.heap.IsList x Ws.toArray:=⟨_,h1,rfl,n,rfl⟩
 have e:Ws.toArray.size=vs.length:=by simp [h2.length]
 refine call_tuple_list hl (fun h' hk=>?_) (by rw [e];exact line1000 hn)
 have hx:s.heap.get? h'.objs.size=none:=by
  cases e':s.heap.get? h'.objs.size with
  | none=>rfl
  | some o=>exact absurd (Heap.lt_size (hk _ _ e')) (Nat.lt_irrefl _)
 have h3:Nat.lt 3 h'.objs.size:=by
  refine c3_2 H.ok.top.g fun og _ _ hg3 _=>?_
  exact Heap.lt_size (hk _ _ (H.stays _ _ hg3))
 have hnew:(h'.push (tupO Ws 0)).get? h'.objs.size=some (tupO Ws 0):=Heap.get?_push_size _ rfl
 exact ⟨updμ μ b (h'.objs.size,h'.objs.size),.ref b,_,.upd (H.mud b hb),⟨_,_,updμ_self ..,rfl⟩,
  H.alloc' hb (o:=.tup vs) (s':={ s with heap:=h'.push (tupO Ws 0) }) (fun b o e=>Heap.get?_push_of_some _ (hk b o e)) rfl rfl hx hx h3 h3 ⟨_,hnew⟩ ⟨_,hnew⟩ ⟨Ws,0,hnew,h2.mono (.upd (H.mud b hb))⟩,h⟩
theorem B.dict_dict{a b:MA}{kvs:List (Str×MV)}{Q:MV→Hp→Prop}(hb:σ b=none)(hσ:σ a=some (.dictS kvs))(hn:kvs.length≤1000)(h:Q (.ref b) (upd σ b (.dictS kvs))):BCall X c (.type "dict") [.ref a] σ Q:=fun A μ it fr s Vs E hA H hv=>by
 refine n_up ?_
 refine c1_2 (VRs.one hv) ?_;rintro V rfl hV
 obtain ⟨x,d,rfl,m,KVs,h1,h2⟩:=H.at_ hσ hV
 have hS:(x==sysModules)=false:=beq_eq_false_iff_ne.mpr fun z=>by have:=(H.big _ _ _ m).1;rw [z] at this;exact absurd this (by show ¬ (3<1);lia)
 refine kt_call_dict hS h1 (by rw [h2.length];exact line1000 hn) fun h' hd hsb=>?_
 have hk:∀ b o,s.heap.get? b=some o→h'.get? b=some o:=fun b o e=>(hsb.2 b (Nat.ne_of_lt (Heap.lt_size e))).trans (Heap.get?_push_of_some _ e)
 have hnew:∃ o,h'.get? s.heap.objs.size=some o:=let ⟨o,_,_,e,_⟩:=hd;⟨o,e⟩
 exact .made (o:=.dictS kvs) (s':={ s with heap:=h' }) H hb hk (Nat.le_refl _) hnew ⟨KVs,hd,h2.mono (.upd (H.mud b hb))⟩ h
theorem B.range{b:MA}{i:Int}{Q:MV→Hp→Prop}(hb:σ b=none)(h:Q (.ref b) (upd σ b (.range i))):BCall X c (.type "range") [.int i] σ Q:=fun A μ it fr s Vs E hA H hv=>by
 refine n_up ?_
 obtain ⟨V,rfl,t,rfl⟩:=VRs.one hv
 refine call_range_1 ?_
 have hnew:(s.heap.push { cls:=.type "range",data:=.fields #[.int 0 s.toks,.int i t,.int 1 (s.toks+1)] }).get? s.heap.objs.size=some { cls:=.type "range",data:=.fields #[.int 0 s.toks,.int i t,.int 1 (s.toks+1)] }:=Heap.get?_push_size _ rfl
 exact .made (o:=.range i) (s':={ s with heap:=s.heap.push _,toks:=_ }) H hb (fun b o e=>Heap.get?_push_of_some _ e) (Nat.le_refl _) ⟨_,hnew⟩ ⟨_,_,_,hnew⟩ h
end
theorem strsAre_of:∀ {vs:List Value} {ks:List Str},vs.length=ks.length→(∀ (j:Nat) (v:Value) (k:Str),vs[j]?=some v→ks[j]?=some k→∃ t,v=Value.str k t)→StrsAre vs ks
 | [],[],_,_=>.nil
 | v::vs,k::ks,hl,h=>by
  refine c1_1 (h 0 v k rfl rfl) ?_;rintro t rfl
  exact .cons k t (strsAre_of (by simpa using hl) fun j v' k' h1 h2=>h (j+1) v' k' (by simpa using h1) (by simpa using h2))
 | [],_::_,hl,_=>by simp at hl
 | _::_,[],hl,_=>by simp at hl
theorem intsAre_of:∀ {vs:List Value} {ks:List Int},vs.length=ks.length→(∀ (j:Nat) (v:Value) (k:Int),vs[j]?=some v→ks[j]?=some k→∃ t,v=Value.int k t)→IntsAre vs ks
 | [],[],_,_=>.nil
 | v::vs,k::ks,hl,h=>by
  refine c1_1 (h 0 v k rfl rfl) ?_;rintro t rfl
  exact .cons k t (intsAre_of (by simpa using hl) fun j v' k' h1 h2=>h (j+1) v' k' (by simpa using h1) (by simpa using h2))
 | [],_::_,hl,_=>by simp at hl
 | _::_,[],hl,_=>by simp at hl
theorem vrs_strs{μ:Mu}{vs:List Value}{ks:List Str}(h:StrsAre vs ks):VRs μ (ks.map MV.str) vs:=by
 induction h with
 | nil=>trivial
 | cons k t _ ih=>exact ⟨⟨t,rfl⟩,ih⟩
theorem vrs_ints{μ:Mu}{vs:List Value}{ks:List Int}(h:IntsAre vs ks):VRs μ (ks.map MV.int) vs:=by
 induction h with
 | nil=>trivial
 | cons k t _ ih=>exact ⟨⟨t,rfl⟩,ih⟩
section
variable{X:Cx}{c:Bool}{μ:Mu}{σ:Hp}{it:List (Addr×Obj)}{fr:List FrRec}{s s':Shared}
theorem sorted_dict{prog:Program}{w:World}{A:Around}{E:Value→Shared→Prop}{K:Type}[DecidableEq K]{knd:KeyKind prog w K}{d:Addr}{kvs:List (K×Value)}{Q:Value→Shared→Prop}
  (lo:(d==sysModules)=false) (hh:A.handled=none) (hd:s.heap.DictOf knd d kvs) (hn:kvs.length≤1000)
  (h:∀ (h':Heap) (tk:Nat) (acc:List Value),(∀ b o,s.heap.get? b=some o→h'.get? b=some o)→acc.length=kvs.length→(∀ (j:Nat) (v:Value),acc[j]?=some v→∃ k x,kvs[j]?=some (k,x)∧knd.is k v=true) →
   wpAny (model prog w) A.in1 (call (.builtin "list.sort") [.ref h'.objs.size]) (fun _ s'=>Q (.ref h'.objs.size) s') E { s with heap:=h'.push (seqObj "list" acc.toArray 0),toks:=tk }) :
  wpAny (model prog w) A (call (.builtin "sorted") [.ref d]) Q E s:=by
 refine c1_1 hd.dictAt fun ep hat=>?_
 refine call_function_entry kind_sorted plain_sorted entry_sorted (args_sorted1 _) ?_
 unfold Builtin.«sorted»
 refine wpAny_bind (m:=checkCount "sorted" 1 1 _) (wpAny_pure ?_)
 refine wpAny_bind (kdu_collect (A:=A.in1) (kdl_dict (knd:=knd) (kvs:=kvs) (ep:=ep) lo) hh hat (line1000 hn) fun h' tk acc hk hacc=>?_)
 have hl:acc.toList.length=kvs.length:=by rw [Array.length_toList];exact hacc.1
 refine wpAny_bind (wpAny_newList ?_ (by rw [hl];exact line1000 hn))
 have hg:=h h' tk acc.toList hk hl (fun j v e=>hacc.2 j v (by rw [← Array.getElem?_toList];exact e))
 refine wpAny_bind (wpAny_holding (wpAny_mono hg (fun _ s' x=>?_) fun _ _ e=>e))
 exact wpAny_pure ⟨_,rfl,x⟩
theorem listO_seq(out:Array Value)(e:Nat):listO out.toList e=seqObj "list" out e:=by show Obj.mk _ _ (.seq out.toList.toArray e) _=_;rw [Array.toArray_toList]
theorem notSys(H:HSt X μ σ it fr s){a:MA}{x d:Addr}(m:μ a=some (x,d)):(x==sysModules)=false:=beq_eq_false_iff_ne.mpr fun z=>by have:=(H.big _ _ _ m).1;rw [z] at this;exact absurd this (by show ¬ (3<1);lia)
theorem kvr_at{K:Type}{μ:Mu}{kvs:List (K×MV)}{KVs:List (K×Value)}(h:KVR μ kvs KVs){j:Nat}{k:K}{x:Value}(e:KVs[j]?=some (k,x)):(kvs.map (·.1))[j]?=some k:=by rw [← KVR.keys h,List.getElem?_map,e];rfl
theorem sorted_keep{h':Heap}{acc:List Value}{out:Array Value}(b:Addr)(o:Obj)(e:h'.get? b=some o):(sortedHeap (h'.push (seqObj "list" acc.toArray 0)) h'.objs.size acc out).get? b=some o:=by
 have hlt:=Heap.lt_size e
 rw [sortedHeap_old (Nat.ne_of_lt hlt) (by rw [size_push'];exact Nat.lt_succ_of_lt hlt)]
 exact Heap.get?_push_of_some _ e
theorem B.sorted_dictS{a b:MA}{kvs:List (Str×MV)}{Q:MV→Hp→Prop}(hb:σ b=none)(hσ:σ a=some (.dictS kvs))(hn:kvs.length<64)
  (h:∀ ks:List Str,ks.Perm (kvs.map (·.1))→sortedS ks=true→Q (.ref b) (upd σ b (.list (ks.map MV.str)))):BCall X c (.builtin "sorted") [.ref a] σ Q:=fun A μ it fr s Vs E hA H hv=>by
 refine n_up ?_
 refine c1_2 (VRs.one hv) ?_;rintro V rfl hV
 obtain ⟨x,d,rfl,m,KVs,h1,h2⟩:=H.at_ hσ hV
 refine sorted_dict (notSys H m) hA h1 (by rw [h2.length];lia) fun h' tk acc hk hl hacc=>?_
 have hS:StrsAre acc (kvs.map (·.1)):=strsAre_of (by rw [hl,h2.length,List.length_map]) fun j v k hj hk'=>by
  refine c2_2 (hacc j v hj) fun k' y e1 e2=>?_
  have e3:=kvr_at h2 e1
  rw [hk'] at e3;cases e3
  exact Value.isStrOf_shape e2
 have ho:(h'.push (seqObj "list" acc.toArray 0)).get? h'.objs.size=some (seqObj "list" acc.toArray 0):=Heap.get?_push_size _ rfl
 refine wpAny_call_entry slot_list_sort ⟨_,ho,rfl⟩ entry_list_sort (list_sort_treeK strKind_oneLt ho hS.keysOf (fun v₁ v₂ rest e=>keyKind_strs (by rw [← e];exact hS)) (by rw [hl,h2.length];exact hn) fun st' hp hs=>⟨_,rfl,?_⟩) (args_list_sort _)
 refine c1_3 (sorted_out_str hS hp hs) fun ks g1 g2 g3=>?_
 refine c1_1 (sortedHeap_at (out:=(arrOf st').map (·.2)) ho) fun e ge=>?_
 have hx:s.heap.get? h'.objs.size=none:=by
  cases e':s.heap.get? h'.objs.size with
  | none=>rfl
  | some o=>exact absurd (Heap.lt_size (hk _ _ e')) (Nat.lt_irrefl _)
 have h3:Nat.lt 3 h'.objs.size:=by
  refine c3_2 H.ok.top.g fun og _ _ hg3 _=>?_
  exact Heap.lt_size (hk _ _ (H.stays _ _ hg3))
 exact ⟨updμ μ b (h'.objs.size,h'.objs.size),.ref b,_,.upd (H.mud b hb),⟨_,_,updμ_self ..,rfl⟩,
  H.alloc' hb (o:=.list (ks.map MV.str)) (s':={ s with heap:=sortedHeap (h'.push (seqObj "list" acc.toArray 0)) h'.objs.size acc ((arrOf st').map (·.2)),toks:=tk }) (fun b o e=>sorted_keep b o (hk b o e)) rfl rfl hx hx h3 h3 ⟨_,ge⟩ ⟨_,ge⟩
   ⟨((arrOf st').map (·.2)).toList,e,by rw [listO_seq];exact ge,vrs_strs g1⟩,h ks g2 g3⟩
theorem B.sorted_dictI{a b:MA}{kvs:List (Int×MV)}{Q:MV→Hp→Prop}(hb:σ b=none)(hσ:σ a=some (.dictI kvs))(hn:kvs.length<64)
  (h:∀ ks:List Int,ks.Perm (kvs.map (·.1))→ks.Pairwise (·≤ ·)→Q (.ref b) (upd σ b (.list (ks.map MV.int)))):BCall X c (.builtin "sorted") [.ref a] σ Q:=fun A μ it fr s Vs E hA H hv=>by
 refine n_up ?_
 refine c1_2 (VRs.one hv) ?_;rintro V rfl hV
 obtain ⟨x,d,rfl,m,KVs,h1,h2⟩:=H.at_ hσ hV
 refine sorted_dict (notSys H m) hA h1 (by rw [h2.length];lia) fun h' tk acc hk hl hacc=>?_
 have hS:IntsAre acc (kvs.map (·.1)):=intsAre_of (by rw [hl,h2.length,List.length_map]) fun j v k hj hk'=>by
  refine c2_2 (hacc j v hj) fun k' y e1 e2=>?_
  have e3:=kvr_at h2 e1
  rw [hk'] at e3;cases e3
  exact Value.isInt_shape e2
 have ho:(h'.push (seqObj "list" acc.toArray 0)).get? h'.objs.size=some (seqObj "list" acc.toArray 0):=Heap.get?_push_size _ rfl
 refine wpAny_call_entry slot_list_sort ⟨_,ho,rfl⟩ entry_list_sort (list_sort_tree ho hS (by rw [hl,h2.length];exact hn) fun out ks g1 g2 g3=>⟨_,rfl,?_⟩) (args_list_sort _)
 refine c1_1 (sortedHeap_at (out:=out) ho) fun e ge=>?_
 have hx:s.heap.get? h'.objs.size=none:=by
  cases e':s.heap.get? h'.objs.size with
  | none=>rfl
  | some o=>exact absurd (Heap.lt_size (hk _ _ e')) (Nat.lt_irrefl _)
 have h3:Nat.lt 3 h'.objs.size:=by
  refine c3_2 H.ok.top.g fun og _ _ hg3 _=>?_
  exact Heap.lt_size (hk _ _ (H.stays _ _ hg3))
 exact ⟨updμ μ b (h'.objs.size,h'.objs.size),.ref b,_,.upd (H.mud b hb),⟨_,_,updμ_self ..,rfl⟩,
  H.alloc' hb (o:=.list (ks.map MV.int)) (s':={ s with heap:=sortedHeap (h'.push (seqObj "list" acc.toArray 0)) h'.objs.size acc out,toks:=tk }) (fun b o e=>sorted_keep b o (hk b o e)) rfl rfl hx hx h3 h3 ⟨_,ge⟩ ⟨_,ge⟩
   ⟨out.toList,e,by rw [listO_seq];exact ge,vrs_ints g1⟩,h ks g2 g3⟩
theorem B.bytes_ints{a:MA}{ns:List Int}{Q:MV→Hp→Prop}(hσ:σ a=some (.list (ns.map MV.int)))(hn:ns.length≤1000)(hr:∀ n∈ns,0≤n∧n<256)(h:Q (.bytes (byteArr ns)) σ):BCall X c (.type "bytes") [.ref a] σ Q:=fun A μ it fr s Vs E hA H hv=>by
 refine n_up ?_
 refine c1_2 (VRs.one hv) ?_;rintro V rfl hV
 obtain ⟨x,d,rfl,m,Ws,n,h1,h2⟩:=H.at_ hσ hV
 have hl:s.heap.IsList x Ws.toArray:=⟨_,h1,rfl,n,rfl⟩
 have hi:IntsAre Ws ns:=intsAre_of (by rw [h2.length,List.length_map]) fun j v k hj hk'=>by
  refine c1_2 (h2.get' hj) fun v' e1 e2=>?_
  rw [List.getElem?_map,hk'] at e1
  cases e1
  exact e2
 refine call_bytes_ints hl hi hr (by rw [h2.length,List.length_map];exact line1000 hn) hA fun h' t k hk=>?_
 exact ⟨μ,.bytes (byteArr ns),σ,.refl _,⟨_,rfl⟩,H.grow (s':={ s with heap:=h',toks:=k }) hk rfl rfl,h⟩
end
section
open Builtin
namespace BA
theorem slot_len:Slot "bytearray" "__len__" "bytearray.__len__" :=
 .of (owner:="bytearray") (n:="__len__") (by rw [typeLookup_type,builtinLookup_eq_fast];kernel_rfl) (by decide +kernel) (by decide +kernel) (by decide +kernel)
  (by first | exact .inl (by decide +kernel) | exact .inr (by decide +kernel)) (by rw [isSubtype_type];kernel_rfl)
theorem slot_getitem:Slot "bytearray" "__getitem__" "bytearray.__getitem__" :=
 .of (owner:="bytearray") (n:="__getitem__") (by rw [typeLookup_type,builtinLookup_eq_fast];kernel_rfl) (by decide +kernel) (by decide +kernel) (by decide +kernel)
  (by first | exact .inl (by decide +kernel) | exact .inr (by decide +kernel)) (by rw [isSubtype_type];kernel_rfl)
theorem slot_extend:Slot "bytearray" "extend" "bytearray.extend" :=
 .of (owner:="bytearray") (n:="extend") (by rw [typeLookup_type,builtinLookup_eq_fast];kernel_rfl) (by decide +kernel) (by decide +kernel) (by decide +kernel)
  (by first | exact .inl (by decide +kernel) | exact .inr (by decide +kernel)) (by rw [isSubtype_type];kernel_rfl)
theorem slot_init:Slot "bytearray" "__init__" "bytearray.__init__" :=
 .of (owner:="bytearray") (n:="__init__") (by rw [typeLookup_type,builtinLookup_eq_fast];kernel_rfl) (by decide +kernel) (by decide +kernel) (by decide +kernel)
  (by first | exact .inl (by decide +kernel) | exact .inr (by decide +kernel)) (by rw [isSubtype_type];kernel_rfl)
theorem entry_len:entryFor table "bytearray.__len__"=some «bytearray.__len__»:=entryFor_of_tree (by kernel_rfl)
theorem entry_getitem:entryFor table "bytearray.__getitem__"=some «bytearray.__getitem__»:=entryFor_of_tree (by kernel_rfl)
theorem entry_extend:entryFor table "bytearray.extend"=some «bytearray.extend»:=entryFor_of_tree (by kernel_rfl)
theorem entry_init:entryFor table "bytearray.__init__"=some «bytearray.__init__»:=entryFor_of_tree (by kernel_rfl)
theorem args_len(a:Value):argsOk "bytearray.__len__" ⟨[a],[]⟩:=by unfold argsOk;kernel_rfl
theorem args_getitem(a b:Value):argsOk "bytearray.__getitem__" ⟨[a,b],[]⟩:=by unfold argsOk;kernel_rfl
theorem args_extend(a b:Value):argsOk "bytearray.extend" ⟨[a,b],[]⟩:=by unfold argsOk;kernel_rfl
theorem args_init0(a:Value):argsOk "bytearray.__init__" ⟨[a],[]⟩:=by unfold argsOk;kernel_rfl
theorem args_init1(a b:Value):argsOk "bytearray.__init__" ⟨[a,b],[]⟩:=by unfold argsOk;kernel_rfl
theorem type_extend:typeOf (.builtin "bytearray.extend")=pure (.type "method_descriptor"):=by show builtinType _=_;rw [builtinType_eq_fast];kernel_rfl
theorem attrs:PlainAttrs "bytearray" :=
 ⟨⟨"bytearray.__getattribute__",by rw [typeLookup_type,builtinLookup_eq_fast];kernel_rfl,by decide +kernel⟩,by rw [typeLookup_type,builtinLookup_eq_fast];kernel_rfl⟩
theorem buffer:typeLookup (.type "bytearray") "__buffer__"=pure (some (.builtin "bytearray.__buffer__")):=by rw [typeLookup_type,builtinLookup_eq_fast];kernel_rfl
theorem release:typeLookup (.type "bytearray") "__release_buffer__"=pure (some (.builtin "bytearray.__release_buffer__")):=by rw [typeLookup_type,builtinLookup_eq_fast];kernel_rfl
theorem bytes_none:typeLookup (.type "bytearray") "__bytes__"=pure none:=by rw [typeLookup_type,builtinLookup_eq_fast];kernel_rfl
theorem idx_none:typeLookup (.type "bytearray") "__index__"=pure none:=by rw [typeLookup_type,builtinLookup_eq_fast];kernel_rfl
theorem sub:isSubtype (.type "bytearray") (.type "bytearray")=pure true:=by rw [isSubtype_type];kernel_rfl
theorem mro:mroOf (.type "bytearray")=pure [.type "bytearray",.type "object"]:=by rw [mroOf_type];kernel_rfl
theorem lookup_new:typeLookup (.type "bytearray") "__new__"=pure (some (.builtin "bytearray.__new__")):=by rw [typeLookup_type,builtinLookup_eq_fast];kernel_rfl
theorem called:TypeCalled "bytearray" "bytearray.__new__" "bytearray.__init__" :=
 ⟨by decide +kernel,by decide +kernel,⟨_,_,mro⟩,madeBy_type mro lookup_new (by decide +kernel),by decide +kernel,sub,slot_init⟩
theorem typeCall0:checkTypeCall "bytearray" ⟨[],[]⟩=pure ():=by kernel_rfl
theorem typeCall1(a:Value):checkTypeCall "bytearray" ⟨[a],[]⟩=pure ():=by kernel_rfl
theorem newCall0:checkBuiltinCall "bytearray.__new__" ⟨[.type "bytearray"],[]⟩=pure ():=by kernel_rfl
theorem newCall1(a:Value):checkBuiltinCall "bytearray.__new__" ⟨[.type "bytearray",a],[]⟩=pure ():=by kernel_rfl
theorem plain_new:plainId "bytearray.__new__"=true:=by decide +kernel
theorem entry_new:entryFor table "bytearray.__new__"=some «list.__new__» :=
 entryFor_alias (id':="list.__new__") (by rw [fastTable_eq_tree];kernel_rfl) (by first | rfl | decide +kernel) (by decide +kernel) (by rw [fastTable_eq_tree];kernel_rfl)
theorem owner_new:("bytearray.__new__".splitOn ".__new__").headD ""="bytearray":=by simp +decide [String.splitOn,String.splitOnAux]
theorem bind0:Builtin.Bytes.bindOptional "bytearray.__init__" "bytearray" ["source","encoding","errors"] [] []=pure [none,none,none]:=by kernel_rfl
theorem bind1(v:Value):Builtin.Bytes.bindOptional "bytearray.__init__" "bytearray" ["source","encoding","errors"] [v] []=pure [some v,none,none]:=by kernel_rfl
end BA
section
variable{X:Cx}{c:Bool}{prog:Program}{w:World}{M:Model}{A:Around}{E:Value→Shared→Prop}{s:Shared}{x:Addr}{b:Array UInt8}
theorem barr_type(h:s.heap.get? x=some (barrObj b)):s.TypeIs (.ref x) "bytearray":=⟨_,h,rfl⟩
theorem barr_payload{Q:Array UInt8→Shared→Prop}(h:s.heap.get? x=some (barrObj b))(q:Q b s):wpAny M A (Builtin.Bytes.payload (.ref x)) Q E s:=by
 unfold Builtin.Bytes.payload Builtin.Bytes.payload?
 exact wpAny_bind (wpAny_bind (wpAny_load h (wpAny_pure (wpAny_pure q))))
theorem barr_isInst{Q:Bool→Shared→Prop}(h:s.heap.get? x=some (barrObj b))(q:Q true s):wpAny M A (isInstance (.ref x) (.type "bytearray")) Q E s :=
 wpAny_isInstance (T:="bytearray") (barr_type h) BA.sub q
theorem wa_neg{α:Type}{p:Prop}{d:Decidable p}{a b:Sem α}{Q:α→Shared→Prop}(hp:¬ p)(h:wpAny M A b Q E s):wpAny M A (@ite _ p d a b) Q E s:=by rw [if_neg hp];exact h
theorem barr_own{name:String}{id:String}{Q:Bool→Shared→Prop}(h:s.heap.get? x=some (barrObj b))(hl:typeLookup (.type "bytearray") (Str.ofString name)=pure (some (.builtin id)))
  (h1:id.endsWith ("."++name)=true) (h2:id.dropRight (name.length+1)="bytearray") (q:Q true s):wpAny M A (Builtin.Bytes.slotIsOwn (.ref x) name) Q E s:=by
 unfold Builtin.Bytes.slotIsOwn
 refine wpAny_bind (wpAny_specialOf (barr_type h) hl ?_)
 dsimp only
 rw [h1,h2]
 refine wa_neg nofun ?_
 first
  | exact barr_isInst h q
  | exact wpAny_bind (wpAny_pure (barr_isInst h q))
theorem barr_release{Q:Bool→Shared→Prop}(h:s.heap.get? x=some (barrObj b))(q:Q false s):wpAny M A (Builtin.Bytes.ownRelease (.ref x)) Q E s:=by
 unfold Builtin.Bytes.ownRelease
 exact wpAny_bind (barr_own (id:="bytearray.__release_buffer__") h BA.release (by decide +kernel) (by decide +kernel) (wpAny_pure q))
theorem barr_buffer{id:String}{full:Bool}{Q:Option (Array UInt8)→Shared→Prop}(h:s.heap.get? x=some (barrObj b))(q:Q (some b) s):wpAny M A (Builtin.Bytes.buffer? id (.ref x) full) Q E s:=by
 have hT:s.TypeIs (.ref x) "bytearray":=barr_type h
 unfold Builtin.Bytes.buffer?
 refine wpAny_bind (wpAny_specialOf hT BA.buffer ?_)
 dsimp only
 have tail:wpAny M A (do
   if ← Builtin.Bytes.ownRelease (.ref x) then unsupported s!"{id}:own-__release_buffer__-on-a-bytearray-subclass"
   return some (← Builtin.Bytes.payload (.ref x)):Sem (Option (Array UInt8))) Q E s:=by
  refine wpAny_bind (barr_release h (wa_neg nofun ?_))
  first
   | exact wpAny_bind (barr_payload h (wpAny_pure q))
   | exact wpAny_bind (wpAny_pure (wpAny_bind (barr_payload h (wpAny_pure q))))
 refine wpAny_bind (barr_own (id:="bytearray.__buffer__") h BA.buffer (by decide +kernel) (by decide +kernel) ?_)
 refine wa_neg nofun ?_
 first
  | (refine wpAny_bind (wpAny_specialOf hT BA.buffer ?_);exact tail)
  | (refine wpAny_bind (wpAny_pure ?_);refine wpAny_bind (wpAny_specialOf hT BA.buffer ?_);exact tail)
end
end
section
open Builtin
noncomputable def takeB(b:Array UInt8)(n:Nat):Array UInt8:=(b.toList.take n).toArray
section
variable{X:Cx}{c:Bool}{prog:Program}{w:World}{M:Model}{A:Around}{E:Value→Shared→Prop}{s:Shared}{x:Addr}{b:Array UInt8}
theorem picked_upto(b:Array UInt8)(n:Nat):KBy.picked b none (some (n:Int))=takeB b n:=by
 rw [KBc.picked_eq]
 simp only [Option.elim,clipAt_nat,List.drop_zero,Nat.sub_zero]
 unfold takeB
 congr 1
 rcases Nat.le_total n b.size with h | h
 ·rw [Nat.min_eq_left h]
 ·rw [Nat.min_eq_right h,List.take_of_length_le (by simp),List.take_of_length_le (by simpa using h)]
theorem takeB_size(b:Array UInt8)(n:Nat):(takeB b n).size=min n b.size:=by unfold takeB;simp
theorem barr_slice{sl:Addr}{n:Nat}{u:Tok}{Q:Value→Shared→Prop}(h:s.heap.get? x=some (barrObj b))(hs:s.heap.IsSliceOf sl .none (.int n u) .none)(hb:b.size≤1000)
  (q:Q (.ref s.heap.objs.size) { s with heap:=s.heap.push (barrObj (takeB b n)) }):wpAny (model prog w) A (getItem (.ref x) (.ref sl)) Q E s:=by
 have hT:s.TypeIs (.ref x) "bytearray":=barr_type h
 refine c1_3 (id hs) fun o ho hc hd=>?_
 have hTs:s.TypeIs (.ref sl) "slice":=⟨o,ho,hc⟩
 unfold getItem
 try with_reducible refine wpAny_holding ?_
 first | refine wpAny_bind (wpAny_pure ?_) | skip
 refine wpAny_bind (wpAny_sequenceKey hT (by decide) ?_)
 refine wpAny_bind (wpAny_callSpecial?_slot (name:=Str.ofString "__getitem__") hT BA.slot_getitem (wpAny_call_entry BA.slot_getitem hT BA.entry_getitem ?_ (BA.args_getitem _ _)))
 unfold Builtin.«bytearray.__getitem__»
 refine wpAny_bind (wpAny_pure ?_)
 dsimp only
 refine wpAny_bind ?_
 unfold Builtin.Bytes.subscript?
 refine wpAny_bind (wpAny_specialOf hTs slice_no_index (wpAny_pure ?_))
 dsimp only
 refine wpAny_bind (wpAny_typeOf hTs ?_)
 show wpAny _ _ (Builtin.Bytes.sliceParts (.ref sl) >>= _) _ _ s
 refine wpAny_bind ?_
 unfold Builtin.Bytes.sliceParts
 refine wpAny_bind (wpAny_field (x:=.none) ho hd rfl ?_)
 kby_none
 refine wpAny_ite (KBy.ite_no (show ¬ ((Value.none==rawInt 0)=true) from Bool.false_ne_true) ?_)
 refine wpAny_bind (wpAny_field (x:=.none) ho hd rfl ?_)
 kby_none
 refine wpAny_bind (wpAny_field (x:=.int n u) ho hd rfl ?_)
 kby_int
 refine wpAny_pure ?_
 refine wpAny_bind (barr_payload h ?_)
 have go:wpAny (model prog w) A.in1 (sliceIndices (rawPart none) (rawPart (some (n:Int))) (rawPart none) b.size) (fun r s'=>r=sliceBounds none (some (n:Int)) none b.size∧s'=s) (fun _ _=>False) s :=
  wpAny_of_eq (sliceIndices_raw none (some (n:Int)) none b.size (fun e=>nomatch e)) ⟨rfl,rfl⟩
 refine wpAny_bind (wpAny_mono go (fun r s' hr=>?_) fun _ _ e=>e.elim)
 refine c0_2 hr ?_;rintro rfl rfl
 have e1:Builtin.Bytes.sliced b (sliceBounds none (some (n:Int)) none b.size).1 (sliceBounds none (some (n:Int)) none b.size).2.1 (sliceBounds none (some (n:Int)) none b.size).2.2=takeB b n:=picked_upto b n
 rw [e1]
 refine wpAny_bind (wpAny_newObj_type ?_ ?_)
 ·exact wpAny_pure ⟨_,rfl,wpAny_pure q⟩
 ·show (takeB b n).size≤sizeLine
  rw [takeB_size,sizeLine_eq];lia
theorem barr_len{Q:Value→Shared→Prop}(h:s.heap.get? x=some (barrObj b))(hb:b.size≤1000)(q:∀ t t',Q (.int b.size t) { s with toks:=t' }):wpAny (model prog w) A (call (.builtin "len") [.ref x]) Q E s:=by
 have hT:s.TypeIs (.ref x) "bytearray":=barr_type h
 refine Calls.call_function_entry kind_len plain_len entry_len (args_len1 _) ?_
 unfold Builtin.«len»
 refine wpAny_bind (m:=oneArg "len" _) (wpAny_pure ?_)
 refine wpAny_bind (m:=callSpecial? (.ref x) (Str.ofString "__len__")) (wpAny_callSpecial?_slot (name:=Str.ofString "__len__") hT BA.slot_len (wpAny_call_entry BA.slot_len hT BA.entry_len ?_ (BA.args_len _)))
 unfold Builtin.«bytearray.__len__»
 refine wpAny_bind (wpAny_pure ?_)
 refine wpAny_bind (barr_payload h ?_)
 refine wpAny_bind (wpAny_mkInt (wpAny_pure ⟨_,rfl,?_⟩))
 show wpAny _ _ _ _ _ { s with toks:=s.toks+1 }
 refine wpAny_bind (wpAny_holding (wpAny_pure ?_))
 refine wpAny_bind (wpAny_letGo ?_)
 show wpAny _ _ (if (b.size:Int)<0 then _ else _) _ _ _
 rw [if_neg (by lia)]
 show wpAny _ _ (if (b.size:Int) ≥ 2 ^ 63 then _ else _) _ _ _
 rw [if_neg (by lia)]
 first
  | exact wpAny_bind (wpAny_mkInt (wpAny_pure ⟨_,rfl,q _ _⟩))
  | exact wpAny_bind (wpAny_pure (wpAny_bind (wpAny_mkInt (wpAny_pure ⟨_,rfl,q _ _⟩))))
theorem bytes_of_barr{Q:Value→Shared→Prop}(h:s.heap.get? x=some (barrObj b))(hb:b.size≤1000)(q:∀ t t',Q (.bytes b t) { s with toks:=t' }):wpAny (model prog w) A (call (.type "bytes") [.ref x]) Q E s:=by
 have hT:s.TypeIs (.ref x) "bytearray":=barr_type h
 refine callType_codes (Q₁:=fun obj s₁=>s₁.TypeIs obj "bytes"∧Q obj s₁) F.bm_called (F.bm_typeCall _) F.entry_object_init ?_ fun obj s₁ h₁ =>
  ⟨h₁.1,F.args_object_init_2 obj _,object_init_meets F.bm_called.init.lookup F.bm_called.made (by decide) prog w A.in1 _ s₁ ⟨h₁.1,rfl,h₁.2⟩⟩
 refine codeAny_of_tree ?_
 show wpAny _ A.in1.in1 (do checkBuiltinCall "bytes.__new__" ⟨[.type "bytes",.ref x],[]⟩;again (.builtin "bytes.__new__" ⟨[.type "bytes",.ref x],[]⟩)) _ _ s
 refine wpAny_bind (wpAny_of_eq (F.bm_newCall _) (wpAny_pure ⟨plainId_quiet F.bm_plain _,codeAny_builtin F.bm_entry ?_⟩))
 rw [Around.under_plainId F.bm_plain _]
 unfold Builtin.«bytes.__new__»
 refine wpAny_bind (wpAny_of_eq (a:=true) rfl ?_)
 refine bm_if_false rfl ?_
 refine wpAny_bind (wpAny_of_eq F.bm_sub ?_)
 refine bm_if_false rfl ?_
 refine wpAny_bind (wpAny_of_eq (F.bm_bind _) ?_)
 refine wpAny_bind (wpAny_of_eq (a:=()) rfl ?_)
 refine wpAny_bind (wpAny_of_eq (a:=()) rfl ?_)
 refine bm_if_false rfl ?_
 refine wpAny_bind (wpAny_specialOf hT BA.bytes_none ?_)
 refine wpAny_bind (wpAny_bind ?_)
 show wpAny _ _ (load x >>= _) _ _ _
 refine wpAny_bind (wpAny_load h ?_)
 refine wpAny_pure (wpAny_pure ?_)
 refine bm_if_false rfl ?_
 refine wpAny_bind (wpAny_specialOf hT BA.idx_none ?_)
 refine bm_if_true rfl ?_
 first
  | show wpAny _ _ (Builtin.Bytes.buffer? "bytes.__new__" (.ref x) true >>= _) _ _ _
  | (refine wpAny_bind ?_;show wpAny _ _ (Builtin.Bytes.buffer? "bytes.__new__" (.ref x) true >>= _) _ _ _)
 refine wpAny_bind (barr_buffer h ?_)
 refine wpAny_bind (wpAny_rule ?_)
 refine wpAny_bind (wpAny_mkBytes ?_ (by rw [sizeLine_eq];lia))
 show wpAny _ _ (if (Value.type "bytes"==Value.type "bytes")=true then _ else _) _ _ _
 refine bm_if_true (by decide) ?_
 first
  | exact wpAny_pure ⟨PySem.W.typeIs_bytes _ _ _,q _ _⟩
  | exact wpAny_bind (wpAny_pure (wpAny_pure ⟨PySem.W.typeIs_bytes _ _ _,q _ _⟩))
  | (refine wpAny_bind (wpAny_pure ?_);trace_state;exact wpAny_pure ⟨PySem.W.typeIs_bytes _ _ _,q _ _⟩)
theorem B.len_barr{a:MA}{σ:Hp}{Q:MV→Hp→Prop}(hσ:σ a=some (.barr b))(hn:b.size≤1000)(h:Q (.int b.size) σ):BCall X c (.builtin "len") [.ref a] σ Q:=fun A μ it fr s Vs E hA H hv=>by
 refine n_up ?_
 refine c1_2 (VRs.one hv) ?_;rintro V rfl hV
 refine c2_3 (H.at_ hσ hV) ?_;rintro x d rfl m h1
 exact barr_len h1 hn fun t t'=>⟨μ,.int b.size,σ,.refl _,⟨_,rfl⟩,H.toks,h⟩
theorem B.bytes_barr{a:MA}{σ:Hp}{Q:MV→Hp→Prop}(hσ:σ a=some (.barr b))(hn:b.size≤1000)(h:Q (.bytes b) σ):BCall X c (.type "bytes") [.ref a] σ Q:=fun A μ it fr s Vs E hA H hv=>by
 refine n_up ?_
 refine c1_2 (VRs.one hv) ?_;rintro V rfl hV
 refine c2_3 (H.at_ hσ hV) ?_;rintro x d rfl m h1
 exact bytes_of_barr h1 hn fun t t'=>⟨μ,.bytes b,σ,.refl _,⟨_,rfl⟩,H.toks,h⟩
end
end
section
open Builtin
section
variable{X:Cx}{c:Bool}{prog:Program}{w:World}{M:Model}{A:Around}{E:Value→Shared→Prop}{s:Shared}{x:Addr}{b:Array UInt8}
theorem n_if_false{α:Type}{d:Bool}{t u:Sem α}{Q:α→Shared→Prop}(hd:d=false)(h:wpN c M A u Q E s):wpN c M A (if d=true then t else u) Q E s:=by subst hd;exact h
theorem n_if_true{α:Type}{d:Bool}{t u:Sem α}{Q:α→Shared→Prop}(hd:d=true)(h:wpN c M A t Q E s):wpN c M A (if d=true then t else u) Q E s:=by subst hd;exact h
theorem barr_new{args:List Value}{Q₁:Value→Shared→Prop}(hcn:checkBuiltinCall "bytearray.__new__" ⟨.type "bytearray"::args,[]⟩=pure ())
  (h:Q₁ (.ref s.heap.objs.size) { s with heap:=s.heap.push (barrObj #[]) }):codeAny (model prog w) A (.call (.builtin "bytearray.__new__") ⟨.type "bytearray"::args,[]⟩) (wants Q₁ E) s:=by
 refine codeAny_of_tree ?_
 show wpAny _ A.in1 (do checkBuiltinCall "bytearray.__new__" ⟨.type "bytearray"::args,[]⟩;again (.builtin "bytearray.__new__" ⟨.type "bytearray"::args,[]⟩)) _ _ s
 refine wpAny_bind (wpAny_of_eq hcn (wpAny_pure ⟨plainId_quiet BA.plain_new _,codeAny_builtin_stack BA.entry_new rfl fun p st=>?_⟩))
 rw [Around.under_plainId BA.plain_new _]
 have hsub:=BA.sub
 have hown:=BA.owner_new
 obtain ⟨hp,g,d,tk,os⟩:=s
 simp only [hown]
 wp_walk
 exact h
theorem n_builtin{id:String}{args:Args}{bt:Builtin}{R:Result→Shared→Prop}(hb:entryFor table id=some bt)(hcl:cleanC (.builtin id args)=true)
  (h:wpN c (model prog w) (A.under (.builtin id args)) (bt args) (fun fin s'=>match fin with | .done f=>R (.ok f) s' | .again c'=>c'.quiet=true∧codeN c (model prog w) A c' R s') (fun e s'=>R (.error e) s') s) :
  codeN c (model prog w) A (.builtin id args) R s:=by
 refine codeN_of_tree hcl ?_
 show wpN c _ _ (match entryFor table id with | some b=>b args | none=>unsupported ((withoutEnding? id "#data").getD id)) _ _ s
 rw [hb];exact h
theorem n_callBuiltin{id:String}{args:Args}{bt:Builtin}{R:Result→Shared→Prop}(hq:plainId id=true)(hb:entryFor table id=some bt)(hcl:cleanC (.builtin id args)=true)
  (h:wpAny (model prog w) A.in1 (checkBuiltinCall id args) (fun _ s₁=>wpN c (model prog w) A.in1 (bt args)
   (fun fin s'=>match fin with | .done f=>R (.ok f) s' | .again c'=>c'.quiet=true∧codeN c (model prog w) A c' R s') (fun e s'=>R (.error e) s') s₁)
   (fun e s'=>R (.error e) s') s):codeN c (model prog w) A (.call (.builtin id) args) R s:=by
 refine codeN_of_tree rfl ?_
 show wpN c _ A.in1 (do checkBuiltinCall id args;again (.builtin id args)) _ _ s
 refine n_first (wpAny_mono h (fun _ s₁ h₁=>n_pure ⟨plainId_quiet hq args,n_builtin hb hcl ?_⟩) fun _ _ x=>x)
 rw [Around.under_plainId hq args];exact h₁
theorem n_entry{T:String}{name:Str}{id:String}{bt:Builtin}{self:Value}{rest:List Value}{Q:Value→Shared→Prop}(h:Slot T name id)(hT:s.TypeIs self T)(hb:entryFor table id=some bt)(ha:argsOk id ⟨self::rest,[]⟩)
  (hcl:cleanC (.builtin id ⟨self::rest,[]⟩)=true) (hc:wpN c (model prog w) A.in1 (bt ⟨self::rest,[]⟩) (fun fin s'=>∃ v,fin=.done (.ret v)∧Q v s') E s):wpN c (model prog w) A (call (.builtin id) (self::rest)) Q E s:=by
 refine n_call (n_callBuiltin h.plain hb hcl (h.check _ _ _ _ _ _ _ _ hT ha (n_mono hc (fun fin s' h'=>?_) fun _ _ h'=>h')))
 refine c1_2 h' ?_;rintro v rfl hv;exact hv
theorem n_special{self:Value}{T:String}{name:Str}{id:String}{args:List Value}{Q:Option Value→Shared→Prop}(hT:s.TypeIs self T)(h:Slot T name id)
  (hc:wpN c M A (call (.builtin id) (self::args) []) (fun v=>Q (some v)) E s):wpN c M A (callSpecial? self name args []) Q E s:=by
 simp only [callSpecial?]
 refine n_first (wpAny_specialOf hT h.lookup ?_)
 simp only [h.bind]
 exact n_holding (n_bind (n_pure (n_bind (n_mono hc (fun v s' h'=>n_pure h') fun _ _ h'=>h'))))
theorem n_barr_call{args:List Value}{Q:Value→Shared→Prop}(hct:checkTypeCall "bytearray" ⟨args,[]⟩=pure ())(hcn:checkBuiltinCall "bytearray.__new__" ⟨.type "bytearray"::args,[]⟩=pure ())
  (ha:argsOk "bytearray.__init__" ⟨.ref s.heap.objs.size::args,[]⟩)
  (h:wpN c (model prog w) A.in1.in1 («bytearray.__init__» ⟨.ref s.heap.objs.size::args,[]⟩) (fun fin s'=>fin=.done (.ret .none)∧Q (.ref s.heap.objs.size) s') E { s with heap:=s.heap.push (barrObj #[]) }) :
  wpN c (model prog w) A (call (.type "bytearray") args) Q E s:=by
 refine n_call (codeN_of_tree rfl ?_)
 show wpN c _ A.in1 (again (.builtin "type.__call__" ⟨.type "bytearray"::args,[]⟩)) _ _ _
 refine n_pure ⟨Code.quiet_builtin _ (by decide +kernel),n_builtin PySem.F.entry_type_call (by rfl) ?_⟩
 rw [Around.under_plain (weight_type_call_type "bytearray" args []) rfl]
 unfold «type.__call__»
 dsimp only
 refine n_if_false (by decide) ?_
 refine n_if_false BA.called.canCreate ?_
 refine n_step hct ?_
 refine n_step BA.mro ?_
 refine n_if_false rfl ?_
 refine n_step BA.called.made ?_
 dsimp only
 refine n_bind (n_pure ?_)
 have hobj:(s.heap.push (barrObj #[])).get? s.heap.objs.size=some (barrObj #[]):=Heap.get?_push_size _ rfl
 have hnew:wpAny (model prog w) A.in1 (call (.builtin "bytearray.__new__") (.type "bytearray"::args)) (fun obj s₁=>obj=.ref s.heap.objs.size∧s₁={ s with heap:=s.heap.push (barrObj #[]) }) E s :=
  wpAny_call (codeAny_mono (barr_new (E:=E) (Q₁:=fun obj s₁=>obj=.ref s.heap.objs.size∧s₁={ s with heap:=s.heap.push (barrObj #[]) }) hcn ⟨rfl,rfl⟩) fun r s' z=>by
   rcases r with e | (_ | _ | _ | v) <;> exact z)
 refine n_first (wpAny_holding (wpAny_mono hnew (fun obj s₁ z=>?_) fun _ _ x=>x))
 refine c0_2 z ?_;rintro rfl rfl
 refine n_first (barr_isInst hobj ?_)
 refine n_if_false rfl ?_
 refine n_bind (n_holding (n_special ⟨_,hobj,rfl⟩ BA.slot_init (n_entry BA.slot_init ⟨_,hobj,rfl⟩ BA.entry_init ha (by rfl) (n_mono h (fun fin s' z=>?_) fun _ _ x=>x))))
 refine ⟨_,z.1,?_⟩
 dsimp only
 refine n_if_false (by rfl) ?_
 exact n_pure z.2
theorem barr_write{f:Array UInt8→Array UInt8}{Q:Unit→Shared→Prop}(h:s.heap.get? x=some (barrObj b))(hf:(f b).size≤2000)(q:∀ h',Heap.SameBut x s.heap h'→h'.get? x=some (barrObj (f b))→Q () { s with heap:=h' }) :
  wpAny M A (Builtin.Bytes.write (.ref x) f) Q E s:=by
 show wpAny _ _ (updateBytearray x f) _ _ _
 unfold updateBytearray
 refine wpAny_bind (wpAny_load h ?_)
 show wpAny _ _ (update x (Obj.mapBytearray f) >>= fun _=>lookBehind x) _ _ _
 refine wpAny_bind (wpAny_update h ?_)
 have h2:(s.heap.update x (Obj.mapBytearray f)).get? x=some (barrObj (f b)):=Heap.get?_update_self (Obj.mapBytearray f) h rfl
 refine wpAny_lookBehind h2 ?_ (q _ (Heap.SameBut.update ..) h2)
 show (if (f b).size>sizeLine then some "bytearray:memory" else none)=none
 rw [if_neg]
 rw [sizeLine_eq];lia
theorem barr_exports{Q:Nat→Shared→Prop}(h:s.heap.get? x=some (barrObj b))(q:Q 0 s):wpAny M A (Builtin.Bytes.exportsOf (.ref x)) Q E s:=by
 unfold Builtin.Bytes.exportsOf
 exact wpAny_bind (wpAny_load h (wpAny_pure q))
theorem n_free{Q:Bool→Shared→Prop}(h:s.heap.get? x=some (barrObj b))(q:Q false s):wpN true M A (Builtin.Bytes.exported (.ref x) <||> (do return (← Builtin.Bytes.exportsOf (.ref x))>0)) Q E s:=by
 unfold orM
 refine n_bind (n_exported ?_)
 dsimp only [toBool]
 refine n_first (barr_exports h (n_pure ?_))
 exact q
theorem n_init0{Q:Fin→Shared→Prop}(h:s.heap.get? x=some (barrObj b))(q:∀ h',Heap.SameBut x s.heap h'→h'.get? x=some (barrObj #[])→Q (.done (.ret .none)) { s with heap:=h' }) :
  wpN true (model prog w) A («bytearray.__init__» ⟨[.ref x],[]⟩) Q E s:=by
 unfold «bytearray.__init__»
 refine n_first (barr_release h ?_)
 refine n_if_false rfl ?_
 refine n_step BA.bind0 ?_
 refine n_bind (n_pure ?_)
 refine n_bind (n_pure ?_)
 refine n_bind (n_free h ?_)
 refine n_if_false rfl ?_
 refine n_first (barr_write h (by decide) fun h' hs hx=>?_)
 refine n_bind (n_if_false rfl (n_if_false rfl (n_pure ?_)))
 exact n_pure (q h' hs hx)
theorem n_init1{y:Addr}{b':Array UInt8}{Q:Fin→Shared→Prop}(h:s.heap.get? x=some (barrObj b))(hy:s.heap.get? y=some (barrObj b'))(hxy:y≠x)(hb:b'.size≤1000)
  (q:∀ h',Heap.SameBut x s.heap h'→h'.get? x=some (barrObj b')→Q (.done (.ret .none)) { s with heap:=h' }) :
  wpN true (model prog w) A («bytearray.__init__» ⟨[.ref x,.ref y],[]⟩) Q E s:=by
 unfold «bytearray.__init__»
 refine n_first (barr_release h ?_)
 refine n_if_false rfl ?_
 refine n_step (BA.bind1 _) ?_
 refine n_bind (n_pure ?_)
 refine n_bind (n_pure ?_)
 refine n_bind (n_free h ?_)
 refine n_if_false rfl ?_
 refine n_first (barr_write h (by decide) fun h' hs hx=>?_)
 have hy':h'.get? y=some (barrObj b'):=(hs.2 y hxy).trans hy
 have hT:Shared.TypeIs { s with heap:=h' } (.ref y) "bytearray":=barr_type (s:={ s with heap:=h' }) hy'
 refine n_bind (n_up ?_)
 show wpAny _ _ (load y >>= _) _ _ _
 refine wpAny_bind (wpAny_load hy' ?_)
 refine wpAny_pure ?_
 refine n_if_false rfl ?_
 refine n_bind (n_if_false rfl (n_if_false rfl (n_pure ?_)))
 refine n_first (wpAny_specialOf hT BA.idx_none ?_)
 refine n_if_false rfl ?_
 refine n_first (barr_buffer (s:={ s with heap:=h' }) hy' ?_)
 refine n_first (wpAny_rule ?_)
 refine n_first (barr_write (s:={ s with heap:=h' }) hx (by show b'.size≤2000;lia) fun h2 hs2 hx2=>?_)
 exact n_pure (q h2 (hs.trans hs2) hx2)
theorem n_resize{Q:Unit→Shared→Prop}(h:s.heap.get? x=some (barrObj b))(q:Q () s):wpN true M A (Builtin.Bytes.checkResize (.ref x)) Q E s:=by
 unfold Builtin.Bytes.checkResize
 refine n_bind (n_free h ?_)
 exact n_if_false rfl (n_pure q)
theorem bytes_take{id:String}{b':Array UInt8}{t:Tok}:Builtin.Bytes.takeBufferQuiet? id (.bytes b' t) 0=pure (some (b',none)):=by
 have e:Builtin.Bytes.takeBuffer? id (.bytes b' t) 0=pure (some (b',none)):=by
  unfold Builtin.Bytes.takeBuffer?
  rw [KBy.special_eq KBy.look_buffer,KBy.own_buffer]
  show (do return (← Builtin.Bytes.buffer? id (.bytes b' t) false).map (·,none):Sem _)=_
  rw [KBy.buffer_eq]
  rfl
 unfold Builtin.Bytes.takeBufferQuiet?
 rw [e]
 rfl
theorem n_extend{b':Array UInt8}{t:Tok}{Q:Fin→Shared→Prop}(h:s.heap.get? x=some (barrObj b))(hb:b.size+b'.size≤1000)(q:∀ h',Heap.SameBut x s.heap h'→h'.get? x=some (barrObj (b++b'))→Q (.done (.ret .none)) { s with heap:=h' }) :
  wpN true (model prog w) A («bytearray.extend» ⟨[.ref x,.bytes b' t],[]⟩) Q E s:=by
 unfold «bytearray.extend»
 refine n_bind (n_pure ?_)
 dsimp only
 refine n_step (KBy.special_eq KBy.look_buffer) ?_
 refine n_if_true rfl ?_
 refine n_first (wpAny_rule ?_)
 refine n_first (barr_payload h ?_)
 refine n_step bytes_take ?_
 dsimp only
 refine n_if_true rfl ?_
 have fin:wpN true (model prog w) A (Builtin.Bytes.write (.ref x) (·++ b') >>= fun _=>ret .none) Q E s :=
  n_first (barr_write h (by rw [Array.size_append];lia) fun h' hs hx=>n_pure (q h' hs hx))
 show wpN true _ _ (if (!b'.isEmpty)=true then (Builtin.Bytes.checkResize (.ref x) >>= fun _=>Builtin.Bytes.write (.ref x) (·++ b') >>= fun _=>ret .none) else (Builtin.Bytes.write (.ref x) (·++ b') >>= fun _=>ret .none)) _ _ _
 split
 ·exact n_bind (n_resize h fin)
 ·exact fin
theorem B.barr0{a:MA}{σ:Hp}{Q:MV→Hp→Prop}(ha:σ a=none)(hq:Q (.ref a) (upd σ a (.barr #[]))):BCall X true (.type "bytearray") [] σ Q:=fun A μ it fr s Vs E hA H hv=>by
 obtain rfl:=VRs.none hv
 have hnew:(s.heap.push (barrObj #[])).get? s.heap.objs.size=some (barrObj #[]):=Heap.get?_push_size _ rfl
 refine n_barr_call BA.typeCall0 BA.newCall0 (BA.args_init0 _) (n_init0 (b:=#[]) hnew fun h' hs hx=>⟨rfl,?_⟩)
 exact .made (o:=.barr #[]) (s':={ s with heap:=h' }) H ha (fun b o e=>(hs.2 b (Nat.ne_of_lt (Heap.lt_size e))).trans (Heap.get?_push_of_some _ e)) (Nat.le_refl _) ⟨_,hx⟩ hx hq
theorem B.barr1{a d:MA}{σ:Hp}{Q:MV→Hp→Prop}(ha:σ a=none)(hd:σ d=some (.barr b))(hb:b.size≤1000)(hq:Q (.ref a) (upd σ a (.barr b))):BCall X true (.type "bytearray") [.ref d] σ Q:=fun A μ it fr s Vs E hA H hv=>by
 refine c1_2 (VRs.one hv) ?_;rintro V rfl hV
 refine c2_3 (H.at_ hd hV) ?_;rintro y e rfl m h1
 have hnew:(s.heap.push (barrObj #[])).get? s.heap.objs.size=some (barrObj #[]):=Heap.get?_push_size _ rfl
 have hy:(s.heap.push (barrObj #[])).get? y=some (barrObj b):=Heap.get?_push_of_some _ h1
 refine n_barr_call (BA.typeCall1 _) (BA.newCall1 _) (BA.args_init1 _ _) (n_init1 (b:=#[]) hnew hy (Nat.ne_of_lt (Heap.lt_size h1)) hb fun h' hs hx=>⟨rfl,?_⟩)
 exact .made (o:=.barr b) (s':={ s with heap:=h' }) H ha (fun b o e=>(hs.2 b (Nat.ne_of_lt (Heap.lt_size e))).trans (Heap.get?_push_of_some _ e)) (Nat.le_refl _) ⟨_,hx⟩ hx hq
theorem B.extend{a:MA}{b':Array UInt8}{σ:Hp}{Q:MV→Hp→Prop}(ha:σ a=some (.barr b))(hb:b.size+b'.size≤1000)(hq:Q .none (upd σ a (.barr (b++b')))):BCall X true (.builtin "bytearray.extend") [.ref a,.bytes b'] σ Q:=fun A μ it fr s Vs E hA H hv=>by
 obtain ⟨V,W,rfl,hV,t,rfl⟩:=VRs.two hv
 refine c2_3 (H.at_ ha hV) ?_;rintro y e rfl m h1
 refine n_entry BA.slot_extend (barr_type h1) BA.entry_extend (BA.args_extend _ _) (by rfl) (n_extend h1 hb fun h' hs hx=>⟨_,rfl,?_⟩)
 obtain ⟨_,_,_,⟨od,hod⟩⟩:=H.mub _ _ _ m
 have hdd:∃ o,h'.get? e=some o:=by
  by_cases q:e=y
  ·rw [q];exact ⟨_,hx⟩
  ·exact ⟨od,(hs.2 e q).trans hod⟩
 exact ⟨μ,.none,_,.refl _,rfl,H.change (o':=.barr (b++b')) (s':={ s with heap:=h' }) ha m (fun b o n1 n2 e=>(hs.2 b n1).trans e) rfl rfl hx ⟨_,hx⟩ hdd,hq⟩
theorem M.extend{a:MA}{σ:Hp}(ha:σ a=some (.barr b)):BMeth X σ (.ref a) "extend" (.builtin "bytearray.extend"):=⟨rfl,fun A μ it fr s V pl Q E H hV h=>by
 refine c2_3 (H.at_ ha hV) ?_;rintro y e rfl m h1
 exact getMethod_builtin (barr_type h1) BA.attrs BA.slot_extend BA.type_extend (fun a e=>by cases e;exact ⟨_,h1,rfl⟩) h⟩
end
end
noncomputable def getK{K:Type}[DecidableEq K](k:K)(kvs:List (K×MV)):Option MV:=(kvs.find? fun kv=>kv.1=k).map (·.2)
noncomputable def setK{K:Type}[DecidableEq K](k:K)(v:MV)(kvs:List (K×MV)):List (K×MV) :=
 if kvs.any (fun kv=>kv.1=k) then kvs.map (fun kv=>if kv.1=k then (kv.1,v) else kv) else kvs++[(k,v)]
noncomputable def delK{K:Type}[DecidableEq K](k:K)(kvs:List (K×MV)):List (K×MV):=kvs.filter fun kv=>decide (kv.1≠k)
section
variable{μ:Mu}{K:Type}[DecidableEq K]
theorem KVR.find{k:K}{v:MV}{kvs:List (K×MV)}{KVs:List (K×Value)}(h:KVR μ kvs KVs)(e:getK k kvs=some v):∃ V,valueAt KVs k=some V∧VR μ v V:=by
 refine c1_2 (Option.map_eq_some_iff.mp e) fun p hp hv=>?_
 refine c1_2 (All2.find (g:=fun kv=>decide (kv.1=k)) (fun a b r=>by rw [r.1]) h hp) fun q hq r=>⟨q.2,?_,hv▸r.2⟩
 unfold valueAt;rw [hq];rfl
theorem KVR.any{k:K}{kvs:List (K×MV)}{KVs:List (K×Value)}(h:KVR μ kvs KVs):KVs.any (fun kv=>kv.1=k)=kvs.any (fun kv=>kv.1=k):=All2.any (fun a b r=>by rw [r.1]) h
theorem KVR.snoc{k:K}{v:MV}{V:Value}(hv:VR μ v V){kvs:List (K×MV)}{KVs:List (K×Value)}(h:KVR μ kvs KVs):KVR μ (kvs++[(k,v)]) (KVs++[(k,V)]):=All2.append h ⟨⟨rfl,hv⟩,trivial⟩
theorem KVR.mapSet{k:K}{v:MV}{V:Value}(hv:VR μ v V){kvs:List (K×MV)}{KVs:List (K×Value)}(h:KVR μ kvs KVs) :
  KVR μ (kvs.map (fun kv=>if kv.1=k then (kv.1,v) else kv)) (KVs.map (fun kv=>if kv.1=k then (kv.1,V) else kv)):=All2.map (fun a b r=>by
 by_cases e:b.1=k
 ·rw [r.1,if_pos e,if_pos e];exact ⟨rfl,hv⟩
 ·rw [r.1,if_neg e,if_neg e];exact r) h
theorem KVR.set{k:K}{v:MV}{V:Value}(hv:VR μ v V){kvs:List (K×MV)}{KVs:List (K×Value)}(h:KVR μ kvs KVs):KVR μ (setK k v kvs) (stored KVs k V):=by
 unfold setK stored
 rw [h.any]
 split
 ·exact h.mapSet hv
 ·exact h.snoc hv
theorem KVR.del{k:K}{kvs:List (K×MV)}{KVs:List (K×Value)}(h:KVR μ kvs KVs):KVR μ (delK k kvs) (without KVs k):=All2.filter (fun a b r=>by rw [r.1]) h
end
section
variable{X:Cx}{c:Bool}{μ:Mu}{σ:Hp}{it:List (Addr×Obj)}{fr:List FrRec}{s s':Shared}
theorem HSt.touch(H:HSt X μ σ it fr s){a:MA}{o o':MO}{x d:Addr}{h':Heap}{t:Nat}(hσ:σ a=some o)(hm:μ a=some (x,d))(hs:Heap.SameBut x s.heap h')(hx:∃ o,h'.get? x=some o)(r:ORep X μ o' x d h'):HSt X μ (upd σ a o') it fr { s with heap:=h',toks:=t }:=by
 obtain ⟨_,_,_,⟨od,hod⟩⟩:=H.mub _ _ _ hm
 have hdd:∃ o,h'.get? d=some o:=by
  by_cases q:d=x
  ·rw [q];exact hx
  ·exact ⟨od,(hs.2 d q).trans hod⟩
 exact H.change (s':={ s with heap:=h',toks:=t }) hσ hm (fun b o n1 n2 e=>(hs.2 b n1).trans e) rfl rfl r hx hdd
theorem B.append{a:MA}{vs:List MV}{v:MV}{Q:MV→Hp→Prop}(hσ:σ a=some (.list vs))(hn:vs.length≤1000)(hq:Q .none (upd σ a (.list (vs++[v])))):BCall X c (.builtin "list.append") [.ref a,v] σ Q:=fun A μ it fr s Vs E hA H hv=>by
 refine n_up ?_
 refine c2_3 (VRs.two hv) ?_;rintro V W rfl hV hW
 obtain ⟨x,d,rfl,m,Ws,n,h1,h2⟩:=H.at_ hσ hV
 refine wpAny_list_append_plain ⟨n,h1⟩ (fun h' hpl hs=>?_) (by rw [List.size_toArray,h2.length];exact line1000 hn)
 refine c1_1 hpl fun n' e'=>?_
 have e2:h'.get? x=some (listO (Ws++[W]) n'):=by rw [e',show Ws.toArray.push W=(Ws++[W]).toArray from by simp]
 exact ⟨μ,.none,_,.refl _,rfl,H.touch (o':=.list (vs++[v])) hσ m hs ⟨_,e2⟩ ⟨Ws++[W],n',e2,h2.append ⟨hW,trivial⟩⟩,hq⟩
theorem M.append{a:MA}{vs:List MV}(hσ:σ a=some (.list vs)):BMeth X σ (.ref a) "append" (.builtin "list.append"):=⟨rfl,fun A μ it fr s V pl Q E H hV h=>by
 obtain ⟨x,d,rfl,m,Ws,n,h1,h2⟩:=H.at_ hσ hV
 exact Calls.getMethod_list_append h1 rfl rfl h⟩
theorem B.startswith{x y:Str}{Q:MV→Hp→Prop}(hq:Q (.bool (Txt.startswith x y)) σ):BCall X c (.builtin "str.startswith") [.str x,.str y] σ Q:=fun A μ it fr s Vs E hA H hv=>by
 refine n_up ?_
 obtain ⟨V,W,rfl,⟨t,rfl⟩,u,rfl⟩:=VRs.two hv
 exact PySem.SC.startswith ⟨μ,.bool _,σ,.refl _,rfl,H,hq⟩
theorem M.startswith{x:Str}:BMeth X σ (.str x) "startswith" (.builtin "str.startswith"):=⟨rfl,fun A μ it fr s V pl Q E H hV h=>by
 rcases hV with ⟨t,rfl⟩
 exact PySem.GM.startswith h⟩
end
inductive SubR(σ:Hp):MV→MV→MV→Prop where
 | list {a vs v} {i:Int} (h:σ a=some (.list vs)) (h0:0≤i) (h1:i≤1000000) (hx:vs[i.toNat]?=some v):SubR σ (.ref a) (.int i) v
 | tup {a vs v} {i:Int} (h:σ a=some (.tup vs)) (h0:0≤i) (h1:i≤1000000) (hx:vs[i.toNat]?=some v):SubR σ (.ref a) (.int i) v
 | dictS {a kvs v} {k:Str} (h:σ a=some (.dictS kvs)) (hx:getK k kvs=some v):SubR σ (.ref a) (.str k) v
 | dictI {a kvs v} {k:Int} (h:σ a=some (.dictI kvs)) (hx:getK k kvs=some v):SubR σ (.ref a) (.int k) v
section
variable{X:Cx}{G:Gm}{c:Bool}{σ:Hp}{ρ:Loc}{Q:MV→Hp→Loc→Prop}{E:Addr→Hp→Loc→Prop}{R:MF→Hp→Loc→Prop}
theorem getItem_ok{μ:Mu}{it:List (Addr×Obj)}{fr:List FrRec}{s:Shared}{A:Around}{ov iv v:MV}{V W:Value}{Qv:Value→Shared→Prop}{Ev:Value→Shared→Prop}(H:HSt X μ σ it fr s)(h1:VR μ ov V)(h2:VR μ iv W)(h:SubR σ ov iv v)
  (q:∀ U t,VR μ v U→Qv U { s with toks:=t }):∃ T id,s.TypeIs V T∧typeLookup (.type T) "__getitem__"=pure (some (.builtin id))∧wpAny (model prog X.w) A (getItem V W) Qv Ev s:=by
 induction h with
 | @list a vs v i h h0 h1' hx =>
  obtain ⟨x,d,rfl,m,Ws,n,g1,g2⟩:=H.at_ h h1
  refine c1_1 h2 ?_;rintro t rfl
  refine c1_2 (g2.get hx) fun U e1 e2=>?_
  have hl:s.heap.IsList x Ws.toArray:=⟨_,g1,rfl,n,rfl⟩
  exact ⟨"list",_,hl.typeIs,slot_list_getitem.lookup,wpAny_getItem_list hl h0 (by lia) (by simpa using e1) (q U _ e2)⟩
 | @tup a vs v i h h0 h1' hx =>
  obtain ⟨x,d,rfl,m,Ws,n,g1,g2⟩:=H.at_ h h1
  refine c1_1 h2 ?_;rintro t rfl
  refine c1_2 (g2.get hx) fun U e1 e2=>?_
  have hl:IsTup s.heap x Ws.toArray:=⟨_,g1,rfl,n,rfl⟩
  have hlt:i.toNat<Ws.length:=(List.getElem?_eq_some_iff.mp e1).1
  refine ⟨"tuple",_,hl.typeIs,slot_tuple_getitem.lookup,PyProof.Rows.getItem_tuple hl (by lia) (by lia) (j:=i.toNat) ?_ (by simpa using e1) (q U _ e2)⟩
  have h0':¬ i<0:=by lia
  simp [seqIndex?,h0']
  lia
 | @dictS a kvs v k h hx =>
  obtain ⟨x,d,rfl,m,KVs,g1,g2⟩:=H.at_ h h1
  refine c1_1 h2 ?_;rintro t rfl
  refine c1_2 (g2.find hx) fun U e1 e2=>?_
  exact ⟨"dict",_,g1.mapOf.typeIs,slot_dict_getitem.lookup,wpAny_getItem_of (knd:=PySem.strKind prog X.w) (k:=k) (by exact decide_eq_true rfl) g1.mapOf e1 (q U _ e2)⟩
 | @dictI a kvs v k h hx =>
  obtain ⟨x,d,rfl,m,KVs,g1,g2⟩:=H.at_ h h1
  refine c1_1 h2 ?_;rintro t rfl
  refine c1_2 (g2.find hx) fun U e1 e2=>?_
  exact ⟨"dict",_,g1.mapOf.typeIs,slot_dict_getitem.lookup,wpAny_getItem_of (knd:=intKind prog X.w) (k:=k) (by exact decide_eq_true rfl) g1.mapOf e1 (q U _ e2)⟩
noncomputable def noSlice(e:Expr):Bool:=!(Nat.beq e.ctorIdx 26)
inductive SubP(ov:MV)(Q:MV→Hp→Loc→Prop)(iv:MV)(σ:Hp)(ρ:Loc):Prop
 | mk (v:MV) (h:SubR σ ov iv v) (q:Q v σ ρ)
@[reducible] def kSub(X:Cx)(G:Gm)(slice:Expr)(Q:MV→Hp→Loc→Prop)(E:Addr→Hp→Loc→Prop)(ov:MV)(σ:Hp)(ρ:Loc):Prop:=EvE X G slice σ ρ (SubP ov Q) E
theorem EvE.sub{value slice:Expr}{pos:Pos}(h:EvE X G value σ ρ (kSub X G slice Q E) E)(hs:noSlice slice=true:=by rfl):EvE X G (.Subscript value slice pos) σ ρ Q E:=fun A env frs μ it fr s he ha hs'=>by
 refine n_sub (n_mono (h A env frs μ it fr s he ha hs') ?_ fun _ _ x=>x)
 rintro V s₁ ⟨μ₁,ov,σ₁,ρ₁,e₁,r₁,hs₁,hq⟩
 refine n_mono (hq A env frs μ₁ it fr s₁ he ha hs₁) ?_ fun _ _=>.ext e₁
 rintro W s₂ ⟨μ₂,iv,σ₂,ρ₂,e₂,r₂,hs₂,v,hv,hq₂⟩
 refine c2_1 hs₂.heap fun it' fr' H=>?_
 refine c2_3 (getItem_ok (A:=A) (Qv:=GPost X μ env it fr VR Q) (Ev:=EPost X μ env it fr frs E) H (r₁.mono e₂) r₂ hv fun U t hU=>⟨μ₂,v,σ₂,ρ₂,e₁.trans e₂,hU,hs₂.toks,hq₂⟩) fun T id hT hl hg=>?_
 exact n_up (tail_any hT hl hg (by cases slice <;> first | rfl | cases hs))
noncomputable def SlU(σ:Hp)(ov:MV)(n:Nat)(k:MV→Hp→Prop):Prop:=match ov with
 | .bytes b=>b.size≤1000∧k (.bytes (takeB b n)) σ
 | .ref x=>∃ a,σ a=none∧((∃ vs,σ x=some (.list vs)∧vs.length≤1000∧k (.ref a) (upd σ a (.list (vs.take n))))∨(∃ b,σ x=some (.barr b)∧b.size≤1000∧k (.ref a) (upd σ a (.barr (takeB b n)))))
 | _=>False
noncomputable def SlF(σ:Hp)(ov:MV)(n:Nat)(k:MV→Hp→Prop):Prop:=match ov with
 | .str x=>x.length≤1000∧k (.str ⟨(x.cps.toList.drop n).toArray⟩) σ
 | .ref x=>∃ a,σ a=none∧((∃ vs,σ x=some (.list vs)∧vs.length≤1000∧k (.ref a) (upd σ a (.list (vs.drop n))))∨(∃ vs,σ x=some (.tup vs)∧vs.length≤1000∧1≤n∧n≤vs.length∧k (.ref a) (upd σ a (.tup (vs.drop n)))))
 | _=>False
noncomputable abbrev sliceObj(l u:Value):Obj:={ cls:=.type "slice",data:=.fields #[l,u,.none] }
theorem FSt.made{μ₀ μ:Mu}{env:Env}{it:List (Addr×Obj)}{fr:List FrRec}{s:Shared}(e₀:Ext μ₀ μ)(F:FSt X μ σ env ρ it fr s){a:MA}{o:MO}{O:Obj}{t:Nat}(ha:σ a=none)
  (r:∀ x,∀ h:Heap,h.get? x=some O→ORep X (updμ μ a (x,x)) o x x h) (q:Q (.ref a) (upd σ a o) ρ) (hO:O.isFreed=false:=by rfl):GPost X μ₀ env it fr VR Q (.ref s.heap.objs.size) { s with heap:=s.heap.push O,toks:=t }:=by
 refine c2_1 F.heap fun it' fr' H=>?_
 have hnew:(s.heap.push O).get? s.heap.objs.size=some O:=Heap.get?_push_size _ hO
 have ex:Ext μ (updμ μ a (s.heap.objs.size,s.heap.objs.size)):=.upd (H.mud a ha)
 exact ⟨updμ μ a (s.heap.objs.size,s.heap.objs.size),.ref a,upd σ a o,ρ,e₀.trans ex,⟨_,_,updμ_self ..,rfl⟩,
  F.lift ex fun _ _ H=>H.make (s':={ s with heap:=s.heap.push O,toks:=t }) ha (fun b o e=>Heap.get?_push_of_some _ e) (Nat.le_refl _) ⟨_,hnew⟩ (r _ _ hnew),q⟩
theorem FSt.pushed{μ:Mu}{env:Env}{it:List (Addr×Obj)}{fr:List FrRec}{s:Shared}(F:FSt X μ σ env ρ it fr s){O:Obj}:FSt X μ σ env ρ it fr { s with heap:=s.heap.push O }:=F.grow fun b o e=>Heap.get?_push_of_some _ e
theorem slice_upto{μ₀ μ:Mu}{env:Env}{it:List (Addr×Obj)}{fr:List FrRec}{s:Shared}{A:Around}{value:Expr}{lower:Option Expr}{p:Pos}{upper:Option Expr}{ov:MV}{V:Value}{n:Nat}{t:Tok}{Ev:Value→Shared→Prop}(e₀:Ext μ₀ μ)(F:FSt X μ σ env ρ it fr s)(hV:VR μ ov V)
  (h:SlU σ ov n (fun v σ'=>Q v σ' ρ)):wpAny (model prog X.w) A (subscriptTail value (.Slice lower upper none p) V (.ref s.heap.objs.size)) (GPost X μ₀ env it fr VR Q) Ev { s with heap:=s.heap.push (sliceObj .none (.int n t)) }:=by
 have hsl:(s.heap.push (sliceObj .none (.int n t))).IsSliceOf s.heap.objs.size .none (.int n t) .none:=Heap.IsSliceOf.new ..
 have F':=F.pushed (O:=sliceObj .none (.int n t))
 refine c2_1 F'.heap fun it' fr' H=>?_
 cases ov with
 | bytes b =>
  refine c1_1 hV ?_;rintro u rfl
  refine tail_any (T:="bytes") (typeIs_bytes _ _ _) FB.slot_bytes_getitem.lookup ?_ rfl
  refine getItem_meets (typeIs_bytes _ _ _) (by decide) FB.slot_bytes_getitem FB.entry_bytes_getitem (FB.args_bytes_getitem_2 _ _) (KBc.meets_slice2 b u _ .none (.int n t)) ⟨hsl,?_,fun t' k=>?_⟩
  ·rw [picked_upto,takeB_size,sizeLine_eq];have:=h.1;lia
  ·rw [picked_upto];exact ⟨μ,.bytes _,σ,ρ,e₀,⟨_,rfl⟩,F'.toks,h.2⟩
 | ref x =>
  obtain ⟨a,ha,⟨vs,hσ,hn,hq⟩ | ⟨b,hσ,hn,hq⟩⟩:=h
  ·obtain ⟨y,d,rfl,m,Ws,k,g1,g2⟩:=H.at_ hσ hV
   have hl:(s.heap.push (sliceObj .none (.int n t))).IsList y Ws.toArray:=⟨_,g1,rfl,k,rfl⟩
   refine tail_any (T:="list") ⟨_,g1,rfl⟩ slot_list_getitem.lookup ?_ rfl
   refine wpAny_getItem_list_slice (s:={ s with heap:=s.heap.push (sliceObj .none (.int n t)) }) hl hsl .none (.int n t) .none (by simp) ?_ (by rw [List.size_toArray,g2.length];exact line1000 hn)
   rw [slicePick_upto']
   exact F'.made e₀ (o:=.list (vs.take n)) (O:=listO (Ws.take n) 0) ha (fun x h e=>⟨Ws.take n,0,e,VRs.mono (.upd (H.mud a ha)) (g2.take n)⟩) hq
  ·refine c2_3 (H.at_ hσ hV) ?_;rintro y d rfl m g1
   refine tail_any (T:="bytearray") ⟨_,g1,rfl⟩ BA.slot_getitem.lookup ?_ rfl
   refine barr_slice (s:={ s with heap:=s.heap.push (sliceObj .none (.int n t)) }) g1 hsl hn ?_
   exact F'.made e₀ (o:=.barr (takeB b n)) (O:=barrObj (takeB b n)) ha (fun x h e=>e) hq
 | _=>exact h.elim
set_option tactic.hygienic true in
theorem str_from{x:Str}{t u:Tok}{n:Nat}{μ:Mu}{s:Shared}{Qv:Value→Shared→Prop}(q:∀ U k,VR μ (.str ⟨(x.cps.toList.drop n).toArray⟩) U→Qv U { s with toks:=k })(hn:x.length≤1000):(sliceMade x t (some ((n:Int),u)) none none).post Qv s:=by
 have e:slicePicked x (some ((n:Int),u)) none none=(List.range (x.length - min n x.length)).map (min n x.length + ·):=by
  unfold slicePicked Builtin.Str.strSliceIndices
  simp only [Option.map_some,Option.map_none,Option.getD_none]
  have h1:¬ ((n:Int)<0):=Int.not_lt.mpr (Int.natCast_nonneg n)
  simp only [h1,if_false,show (1:Int)>0 by decide,if_true]
  have em:min (n:Int) (x.length:Int)=((min n x.length:Nat):Int):=by
   rcases Nat.le_total n x.length with h | h
   ·rw [Nat.min_eq_left h,Int.min_eq_left (Int.ofNat_le.mpr h)]
   ·rw [Nat.min_eq_right h,Int.min_eq_right (Int.ofNat_le.mpr h)]
  rw [em,Int.max_eq_right (Int.natCast_nonneg _)]
  exact sliceRange_one _ _
 have e2:((slicePicked x (some ((n:Int),u)) none none).filterMap (x.cps[·]?)).toArray=(x.cps.toList.drop n).toArray:=by
  rw [e,pick_run]
  have hl:x.length=x.cps.toList.length:=by simp [Str.length]
  rw [List.take_of_length_le (by rw [List.length_drop,← hl];exact Nat.le_refl _)]
  congr 1
  rcases Nat.le_total n x.length with h | h
  ·rw [Nat.min_eq_left h]
  ·rw [Nat.min_eq_right h,List.drop_of_length_le (by rw [hl];exact Nat.le_refl _),List.drop_of_length_le (by rw [← hl];exact h)]
 unfold sliceMade
 rw [e2]
 split
 ·rename_i hc
  have hz:n=0∨x.length=0:=by
   rw [e] at hc
   simp at hc
   rcases Nat.eq_zero_or_pos n with a | a
   ·exact .inl a
   rcases Nat.eq_zero_or_pos x.length with b | b
   ·exact .inr b
   exact absurd hc (Nat.ne_of_lt (Nat.sub_lt b (Nat.lt_min.mpr ⟨a,b⟩)))
  have:x=⟨(x.cps.toList.drop n).toArray⟩:=by
   rcases hz with rfl | hz
   ·simp
   ·have:x.cps=#[]:=Array.eq_empty_of_size_eq_zero hz
    cases x;simp only at this;subst this;simp
  exact q _ _ ⟨t,by rw [← this]⟩
 ·refine ⟨?_,q _ _ ⟨_,rfl⟩⟩
  show (x.cps.toList.drop n).toArray.size≤sizeLine
  rw [List.size_toArray,List.length_drop,sizeLine_eq]
  have:x.cps.toList.length≤1000:=by simpa [Str.length] using hn
  lia
theorem slice_from{μ₀ μ:Mu}{env:Env}{it:List (Addr×Obj)}{fr:List FrRec}{s:Shared}{A:Around}{value:Expr}{lower:Option Expr}{p:Pos}{upper:Option Expr}{ov:MV}{V:Value}{n:Nat}{t:Tok}{Ev:Value→Shared→Prop}(e₀:Ext μ₀ μ)(F:FSt X μ σ env ρ it fr s)(hV:VR μ ov V)
  (h:SlF σ ov n (fun v σ'=>Q v σ' ρ)):wpAny (model prog X.w) A (subscriptTail value (.Slice lower upper none p) V (.ref s.heap.objs.size)) (GPost X μ₀ env it fr VR Q) Ev { s with heap:=s.heap.push (sliceObj (.int n t) .none) }:=by
 have hsl:(s.heap.push (sliceObj (.int n t) .none)).IsSliceOf s.heap.objs.size (.int n t) .none .none:=Heap.IsSliceOf.new ..
 have F':=F.pushed (O:=sliceObj (.int n t) .none)
 refine c2_1 F'.heap fun it' fr' H=>?_
 cases ov with
 | str x =>
  refine c1_1 hV ?_;rintro u rfl
  refine tail_any (T:="str") (typeIs_str _ _ _) PySem.F.slot_str_getitem.lookup ?_ rfl
  refine wpAny_getItem_str_slice (l:=some ((n:Int),t)) (u:=none) (st:=none) ⟨_,Heap.get?_push_size _ rfl,rfl,rfl⟩ rfl (str_from (μ:=μ) (fun U k hU=>?_) h.1)
  exact ⟨μ,.str _,σ,ρ,e₀,hU,F'.toks,h.2⟩
 | ref x =>
  obtain ⟨a,ha,⟨vs,hσ,hn,hq⟩ | ⟨vs,hσ,hn,h1,h2,hq⟩⟩:=h
  ·obtain ⟨y,d,rfl,m,Ws,k,g1,g2⟩:=H.at_ hσ hV
   have hl:(s.heap.push (sliceObj (.int n t) .none)).IsList y Ws.toArray:=⟨_,g1,rfl,k,rfl⟩
   refine tail_any (T:="list") ⟨_,g1,rfl⟩ slot_list_getitem.lookup ?_ rfl
   refine wpAny_getItem_list_slice (s:={ s with heap:=s.heap.push (sliceObj (.int n t) .none) }) hl hsl (.int n t) .none .none (by simp) ?_ (by rw [List.size_toArray,g2.length];exact line1000 hn)
   rw [slicePick_from']
   exact F'.made e₀ (o:=.list (vs.drop n)) (O:=listO (Ws.drop n) 0) ha (fun x h e=>⟨Ws.drop n,0,e,VRs.mono (.upd (H.mud a ha)) (g2.drop n)⟩) hq
  ·obtain ⟨y,d,rfl,m,Ws,k,g1,g2⟩:=H.at_ hσ hV
   have hl:IsTup (s.heap.push (sliceObj (.int n t) .none)) y Ws.toArray:=⟨_,g1,rfl,k,rfl⟩
   have hlen:=g2.length
   refine tail_any (T:="tuple") ⟨_,g1,rfl⟩ slot_tuple_getitem.lookup ?_ rfl
   refine getItem_tuple_from (s:={ s with heap:=s.heap.push (sliceObj (.int n t) .none) }) hl hsl h1 (by rw [List.size_toArray,hlen];exact h2) ?_ (by rw [List.size_toArray,hlen];exact line1000 hn)
   exact F'.made e₀ (o:=.tup (vs.drop n)) (O:=tupO (Ws.drop n) 0) ha (fun x h e=>⟨Ws.drop n,0,e,VRs.mono (.upd (H.mud a ha)) (g2.drop n)⟩) hq
 | _=>exact h.elim
inductive UptoP(ov:MV)(Q:MV→Hp→Loc→Prop)(iv:MV)(σ:Hp)(ρ:Loc):Prop
 | mk (n:Nat) (e:iv=.int n) (h:SlU σ ov n (At ρ Q))
@[reducible] def kUpto(X:Cx)(G:Gm)(upper:Expr)(Q:MV→Hp→Loc→Prop)(E:Addr→Hp→Loc→Prop)(ov:MV)(σ:Hp)(ρ:Loc):Prop:=EvE X G upper σ ρ (UptoP ov Q) E
inductive FromP(ov:MV)(Q:MV→Hp→Loc→Prop)(iv:MV)(σ:Hp)(ρ:Loc):Prop
 | mk (n:Nat) (e:iv=.int n) (h:SlF σ ov n (At ρ Q))
@[reducible] def kFrom(X:Cx)(G:Gm)(lower:Expr)(Q:MV→Hp→Loc→Prop)(E:Addr→Hp→Loc→Prop)(ov:MV)(σ:Hp)(ρ:Loc):Prop:=EvE X G lower σ ρ (FromP ov Q) E
theorem EvE.upto{value upper:Expr}{p pos:Pos}(h:EvE X G value σ ρ (kUpto X G upper Q E) E) :
  EvE X G (.Subscript value (.Slice none (some upper) none p) pos) σ ρ Q E:=fun A env frs μ it fr s he ha hs=>by
 refine n_sub (n_mono (h A env frs μ it fr s he ha hs) ?_ fun _ _ x=>x)
 rintro V s₁ ⟨μ₁,ov,σ₁,ρ₁,e₁,r₁,hs₁,hq⟩
 refine n_slice (n_pure ?_)
 show wpN _ _ _ (eval upper env) _ _ _
 refine n_mono (hq A env frs μ₁ it fr s₁ he ha hs₁) ?_ fun _ _=>.ext e₁
 rintro W s₂ ⟨μ₂,iv,σ₂,ρ₂,e₂,r₂,hs₂,n,rfl,hq₂⟩
 refine c1_1 r₂ ?_;rintro t rfl
 refine n_pure (n_up ?_)
 exact slice_upto (e₁.trans e₂) hs₂ (r₁.mono e₂) hq₂
theorem EvE.from{value lower:Expr}{p pos:Pos}(h:EvE X G value σ ρ (kFrom X G lower Q E) E) :
  EvE X G (.Subscript value (.Slice (some lower) none none p) pos) σ ρ Q E:=fun A env frs μ it fr s he ha hs=>by
 refine n_sub (n_mono (h A env frs μ it fr s he ha hs) ?_ fun _ _ x=>x)
 rintro V s₁ ⟨μ₁,ov,σ₁,ρ₁,e₁,r₁,hs₁,hq⟩
 refine n_slice ?_
 show wpN _ _ _ (eval lower env) _ _ _
 refine n_mono (hq A env frs μ₁ it fr s₁ he ha hs₁) ?_ fun _ _=>.ext e₁
 rintro W s₂ ⟨μ₂,iv,σ₂,ρ₂,e₂,r₂,hs₂,n,rfl,hq₂⟩
 refine c1_1 r₂ ?_;rintro t rfl
 refine n_pure (n_pure (n_up ?_))
 exact slice_from (e₁.trans e₂) hs₂ (r₁.mono e₂) hq₂
end
inductive SetR(σ:Hp):MV→MV→MV→Hp→Prop where
 | list {a vs v} {i:Int} (h:σ a=some (.list vs)) (h0:0≤i) (h1:i<vs.length) (hn:vs.length≤1000):SetR σ (.ref a) (.int i) v (upd σ a (.list (vs.set i.toNat v)))
 | dictS {a kvs v} {k:Str} (h:σ a=some (.dictS kvs)) (hn:kvs.length≤1000):SetR σ (.ref a) (.str k) v (upd σ a (.dictS (setK k v kvs)))
 | dictI {a kvs v} {k:Int} (h:σ a=some (.dictI kvs)) (hn:kvs.length≤1000):SetR σ (.ref a) (.int k) v (upd σ a (.dictI (setK k v kvs)))
section
variable{X:Cx}{G:Gm}{c:Bool}{σ:Hp}{ρ:Loc}{Q:MV→Hp→Loc→Prop}{E:Addr→Hp→Loc→Prop}{R:MF→Hp→Loc→Prop}
theorem setItem_list{prog:Program}{w:World}{A:Around}{Ev:Value→Shared→Prop}{s:Shared}{l:Addr}{Ws:List Value}{n:Nat}{k:Int}{t:Tok}{v:Value}{Qv:Unit→Shared→Prop}(ho:s.heap.get? l=some (listO Ws n))
  (h0:0≤k) (hn:k<Ws.length) (hw:Ws.length≤1000) (hQ:∀ h' n',h'.get? l=some (listO (Ws.set k.toNat v) n')→Heap.SameBut l s.heap h'→Qv () { s with heap:=h' }) :
  wpAny (model prog w) A (setItem (.ref l) (.int k t) v) Qv Ev s:=by
 have hl:s.heap.IsList l Ws.toArray:=⟨_,ho,rfl,n,rfl⟩
 unfold setItem
 try with_reducible refine wpAny_holding ?_
 first | refine wpAny_bind (wpAny_pure ?_) | skip
 refine wpAny_bind (wpAny_sequenceKey hl.typeIs (by decide) ?_)
 refine wpAny_bind (wpAny_callSpecial?_slot (name:=Str.ofString "__setitem__") hl.typeIs slot_list_setitem (wpAny_call_entry slot_list_setitem hl.typeIs entry_list_setitem ?_ (args_list_setitem _ _ _)))
 show wpAny _ _ (Builtin.List.listSubscript? (.int k t) >>= _) _ _ s
 refine wpAny_bind (wpAny_listSubscript_int (fitsIndex_of h0 (by lia)) ?_)
 refine c1_1 (Int.eq_ofNat_of_zero_le h0) ?_;rintro j rfl
 have hj:j<Ws.toArray.size:=by simp;lia
 have hx':Ws.toArray[j]?=some Ws.toArray[j]:=Array.getElem?_eq_getElem hj
 show wpAny _ _ ((seqItemAt l j >>= fun r=>pure (r.map (j,·))) >>= _) _ _ s
 refine wpAny_bind (wpAny_bind (wpAny_seqItemAt ho rfl (wpAny_pure ?_)))
 rw [hx']
 show wpAny _ _ (setSeqItemAt l j v >>= _) _ _ s
 have hfin:(s.heap.update l (Obj.mapSeq (·.setIfInBounds j v))).get? l=some (seqObj "list" (Ws.toArray.setIfInBounds j v) _):=get?_update_seq (c:="list") ho (·.setIfInBounds j v)
 have e:Ws.toArray.setIfInBounds j v=(Ws.set j v).toArray:=by simp
 rw [e] at hfin
 refine wpAny_bind (wpAny_setSeqItemAt ho rfl ?_)
 first
  | exact wpAny_bind (wpAny_pure (wpAny_pure ⟨.none,rfl,wpAny_pure (hQ _ _ hfin (Heap.SameBut.update ..))⟩))
  | exact wpAny_pure ⟨.none,rfl,wpAny_pure (hQ _ _ hfin (Heap.SameBut.update ..))⟩
theorem delItem_ok{prog:Program}{w:World}{A:Around}{Ev:Value→Shared→Prop}{s:Shared}{K:Type}[DecidableEq K]{knd:KeyKind prog w K}{k:K}{d:Addr}{key:Value}{kvs:List (K×Value)}{Qv:Unit→Shared→Prop}(hkey:knd.is k key=true)
  (hD:s.heap.DictOf knd d kvs) (hn:kvs.length≤1000) (hk:(valueAt kvs k).isSome=true) (h:∀ h',h'.DictOf knd d (without kvs k)→Heap.SameBut d s.heap h'→Qv () { s with heap:=h',toks:=s.toks+1 }) :
  wpAny (model prog w) A (delItem (.ref d) key) Qv Ev s:=by
 unfold delItem
 try with_reducible refine wpAny_holding ?_
 refine wpAny_bind (wpAny_sequenceKey hD.typeIs (by decide) ?_)
 exact wpAny_bind (wpAny_callSpecial?_slot (name:=Str.ofString "__delitem__") hD.typeIs PySem.F.slot_dict_delitem
  (call_meetsIn PySem.F.slot_dict_delitem hD.typeIs PySem.F.entry_dict_delitem (PySem.F.args_dict_delitem_2 _ _) (meets_dict_delitem_pairs knd d hkey) ⟨kvs,hD,line1000 hn,hk,fun h' hmm hs=>wpAny_pure (h h' hmm hs)⟩))
theorem setItem_ok{μ:Mu}{it:List (Addr×Obj)}{fr:List FrRec}{s:Shared}{A:Around}{ov iv v:MV}{V W U:Value}{σ':Hp}{Qv:Unit→Shared→Prop}{Ev:Value→Shared→Prop}(H:HSt X μ σ it fr s)(h1:VR μ ov V)(h2:VR μ iv W)(h3:VR μ v U)(h:SetR σ ov iv v σ')
  (q:∀ s',(∀ it fr,HSt X μ σ it fr s→HSt X μ σ' it fr s')→Qv () s'):wpAny (model prog X.w) A (setItem V W U) Qv Ev s:=by
 induction h with
 | @list a vs v i h h0 h1' hn =>
  obtain ⟨x,d,rfl,m,Ws,n,g1,g2⟩:=H.at_ h h1
  refine c1_1 h2 ?_;rintro t rfl
  have hlen:=g2.length
  exact setItem_list g1 h0 (by lia) (by lia) fun h' n' e' hs=>q _ fun it fr H=>H.touch (o':=.list (vs.set i.toNat v)) h m hs ⟨_,e'⟩ ⟨_,n',e',g2.set _ h3⟩
 | @dictS a kvs v k h hn =>
  obtain ⟨x,d,rfl,m,KVs,g1,g2⟩:=H.at_ h h1
  refine c1_1 h2 ?_;rintro t rfl
  refine wpAny_setItem_pairs (knd:=PySem.strKind prog X.w) (k:=k) (by exact decide_eq_true rfl) g1 (fun h' hd hs=>q _ fun it fr H=>?_) (by rw [g2.length];exact line1000 hn)
  exact H.touch (o':=.dictS (setK k v kvs)) h m hs (let ⟨o,_,_,e,_⟩:=hd;⟨o,e⟩) ⟨_,hd,g2.set h3⟩
 | @dictI a kvs v k h hn =>
  obtain ⟨x,d,rfl,m,KVs,g1,g2⟩:=H.at_ h h1
  refine c1_1 h2 ?_;rintro t rfl
  refine wpAny_setItem_pairs (knd:=intKind prog X.w) (k:=k) (by exact decide_eq_true rfl) g1 (fun h' hd hs=>q _ fun it fr H=>?_) (by rw [g2.length];exact line1000 hn)
  exact H.touch (o':=.dictI (setK k v kvs)) h m hs (let ⟨o,_,_,e,_⟩:=hd;⟨o,e⟩) ⟨_,hd,g2.set h3⟩
inductive ItemP(v ov:MV)(R:MF→Hp→Loc→Prop)(iv:MV)(σ:Hp)(ρ:Loc):Prop
 | mk (σ':Hp) (h:SetR σ ov iv v σ') (q:R .next σ' ρ)
@[reducible] def kItemI(X:Cx)(G:Gm)(i:Expr)(v:MV)(R:MF→Hp→Loc→Prop)(E:Addr→Hp→Loc→Prop)(ov:MV)(σ:Hp)(ρ:Loc):Prop:=EvE X G i σ ρ (ItemP v ov R) E
@[reducible] def kItemO(X:Cx)(G:Gm)(o i:Expr)(R:MF→Hp→Loc→Prop)(E:Addr→Hp→Loc→Prop)(v:MV)(σ:Hp)(ρ:Loc):Prop:=EvE X G o σ ρ (kItemI X G i v R E) E
theorem ExS.setitem{o i value:Expr}{tpos pos:Pos}(h:EvE X G value σ ρ (kItemO X G o i R E) E)(hc:noComp value=true:=by rfl) :
  ExS X G (.Assign [.Subscript o i tpos] value pos) σ ρ R E:=fun A env frs μ it fr s he ha hs=>by
 refine n_assignSub (n_mono (h A env frs μ it fr s he ha hs) ?_ fun _ _ x=>x) (swaps_plain hc)
 rintro V s₁ ⟨μ₁,v,σ₁,ρ₁,e₁,r₁,hs₁,hq⟩
 refine n_mono (hq A env frs μ₁ it fr s₁ he ha hs₁) ?_ fun _ _=>.ext e₁
 rintro O s₂ ⟨μ₂,ov,σ₂,ρ₂,e₂,r₂,hs₂,hq₂⟩
 refine n_mono (hq₂ A env frs μ₂ it fr s₂ he ha hs₂) ?_ fun _ _=>.ext (e₁.trans e₂)
 rintro I s₃ ⟨μ₃,iv,σ₃,ρ₃,e₃,r₃,hs₃,σ',hset,hq₃⟩
 refine c2_1 hs₃.heap fun it' fr' H=>?_
 exact n_up (setItem_ok H (r₂.mono e₃) r₃ (r₁.mono (e₂.trans e₃)) hset fun s' hs'=>⟨μ₃,.next,σ',ρ₃,e₁.trans (e₂.trans e₃),rfl,hs₃.lift (.refl _) hs',hq₃⟩)
theorem key_isSome'{K:Type}[DecidableEq K]{μ:Mu}{k:K}{kvs:List (K×MV)}{KVs:List (K×Value)}(h:KVR μ kvs KVs)(hk:hasKey k kvs=true):(valueAt KVs k).isSome=true:=(key_isSome h).trans hk
inductive DelP(ov:MV)(R:MF→Hp→Loc→Prop)(iv:MV)(σ:Hp)(ρ:Loc):Prop
 | mk (a:MA) (kvs:List (Str×MV)) (k:Str) (e:ov=.ref a) (e':iv=.str k) (h:σ a=some (.dictS kvs)) (hk:hasKey k kvs=true) (n:kvs.length≤1000) (q:R .next (upd σ a (.dictS (delK k kvs))) ρ)
@[reducible] def kDel(X:Cx)(G:Gm)(i:Expr)(R:MF→Hp→Loc→Prop)(E:Addr→Hp→Loc→Prop)(ov:MV)(σ:Hp)(ρ:Loc):Prop:=EvE X G i σ ρ (DelP ov R) E
theorem ExS.delS{o i:Expr}{tpos pos:Pos}(h:EvE X G o σ ρ (kDel X G i R E) E) :
  ExS X G (.Delete [.Subscript o i tpos] pos) σ ρ R E:=fun A env frs μ it fr s he ha hs=>by
 show wpN _ _ _ (exec (.Delete [.Subscript o i tpos] pos) env) _ _ _
 rw [arm_exec_Delete]
 refine n_stand (n_bind ?_)
 show wpN _ _ _ (delete (.Subscript o i tpos) env >>= fun _=>deleteEach [] env) _ _ _
 refine n_bind ?_
 rw [arm_delete_Subscript]
 refine n_then (h A env frs μ it fr s he ha hs) ?_
 rintro O s₁ ⟨μ₁,ov,σ₁,ρ₁,e₁,r₁,hs₁,hq⟩
 refine n_bind (n_holding (n_mono (hq A env frs μ₁ it fr s₁ he ha hs₁) ?_ fun _ _=>.ext e₁))
 rintro I s₂ ⟨μ₂,iv,σ₂,ρ₂,e₂,r₂,hs₂,a,kvs,k,rfl,rfl,hσ,hk,hn,hq₂⟩
 refine n_stand ?_
 refine c2_1 hs₂.heap fun it' fr' H=>?_
 obtain ⟨x,d,rfl,m,KVs,g1,g2⟩:=H.at_ hσ (r₁.mono e₂)
 refine c1_1 r₂ ?_;rintro t rfl
 refine n_bind (n_holding (n_up (delItem_ok (knd:=PySem.strKind prog X.w) (k:=k) (by exact decide_eq_true rfl) g1 (by rw [g2.length];exact hn) (key_isSome' g2 hk) fun h' hd hs=>?_)))
 refine n_release ?_
 refine n_up (wpAny_deleteEach_nil ?_)
 refine n_pure ?_
 exact ⟨μ₂,.next,_,ρ₂,e₁.trans e₂,rfl,hs₂.lift (.refl _) fun it fr H=>H.touch (o':=.dictS (delK k kvs)) hσ m hs (let ⟨o,_,_,e,_⟩:=hd;⟨o,e⟩) ⟨_,hd,g2.del⟩,hq₂⟩
inductive NewP(o:List MV→MO)(Q:MV→Hp→Loc→Prop)(vs:List MV)(σ:Hp)(ρ:Loc):Prop
 | mk (a:MA) (h:σ a=none) (n:vs.length≤1000) (q:Q (.ref a) (upd σ a (o vs)) ρ)
theorem EvE.list{elts:List Expr}{pos:Pos}(h:EvArgs X G pos elts σ ρ (NewP .list Q) E):EvE X G (.List elts pos) σ ρ Q E:=fun A env frs μ it fr s he ha hs=>by
 refine n_list (n_mono (h A env frs μ it fr s he ha hs) ?_ fun _ _ x=>x)
 rintro Vs s₁ ⟨μ₁,vs,σ₁,ρ₁,e₁,r₁,hs₁,a,ha',hn,hq⟩
 exact ⟨by rw [r₁.length];exact line1000 hn,hs₁.made e₁ (o:=.list vs) (O:=listO Vs 0) ha' (fun x h e=>⟨Vs,0,e,r₁.mono (.upd (by refine c2_1 hs₁.heap fun _ _ H=>?_;exact H.mud a ha'))⟩) hq⟩
theorem EvE.tuple{elts:List Expr}{k:Nat}{pos:Pos}(h:EvArgs X G pos elts σ ρ (NewP .tup Q) E):EvE X G (.Tuple elts k pos) σ ρ Q E:=fun A env frs μ it fr s he ha hs=>by
 refine n_tuple (n_mono (h A env frs μ it fr s he ha hs) ?_ fun _ _ x=>x)
 rintro Vs s₁ ⟨μ₁,vs,σ₁,ρ₁,e₁,r₁,hs₁,a,ha',hn,hq⟩
 exact ⟨by rw [r₁.length];exact line1000 hn,hs₁.made e₁ (o:=.tup vs) (O:=tupO Vs 0) ha' (fun x h e=>⟨Vs,0,e,r₁.mono (.upd (by refine c2_1 hs₁.heap fun _ _ H=>?_;exact H.mud a ha'))⟩) hq⟩
theorem EvE.dictS0{pos:Pos}{a:MA}(ha:σ a=none)(h:Q (.ref a) (upd σ a (.dictS [])) ρ):EvE X G (.Dict [] [] pos) σ ρ Q E:=fun A env frs μ it fr s he hA hs=>by
 refine n_up (wpAny_Dict_empty ?_)
 have hd:(s.heap.push { cls:=.type "dict",data:=.dict #[] }).DictOf (PySem.strKind prog X.w) s.heap.objs.size []:=Heap.DictOf.new s.heap
 refine c2_1 hs.heap fun it' fr' H=>?_
 have ex:Ext μ (updμ μ a (s.heap.objs.size,s.heap.objs.size)):=.upd (H.mud a ha)
 exact ⟨_,.ref a,_,ρ,ex,⟨_,_,updμ_self ..,rfl⟩,hs.lift ex fun _ _ H=>H.make (o:=.dictS []) (s':={ s with heap:=s.heap.push { cls:=.type "dict",data:=.dict #[] } }) ha (fun b o e=>Heap.get?_push_of_some _ e) (Nat.le_refl _) ⟨_,Heap.get?_push_size _ rfl⟩ ⟨[],hd,trivial⟩,h⟩
theorem EvE.dictI0{pos:Pos}{a:MA}(ha:σ a=none)(h:Q (.ref a) (upd σ a (.dictI [])) ρ):EvE X G (.Dict [] [] pos) σ ρ Q E:=fun A env frs μ it fr s he hA hs=>by
 refine n_up (wpAny_Dict_empty ?_)
 have hd:(s.heap.push { cls:=.type "dict",data:=.dict #[] }).DictOf (intKind prog X.w) s.heap.objs.size []:=Heap.DictOf.new s.heap
 refine c2_1 hs.heap fun it' fr' H=>?_
 have ex:Ext μ (updμ μ a (s.heap.objs.size,s.heap.objs.size)):=.upd (H.mud a ha)
 exact ⟨_,.ref a,_,ρ,ex,⟨_,_,updμ_self ..,rfl⟩,hs.lift ex fun _ _ H=>H.make (o:=.dictI []) (s':={ s with heap:=s.heap.push { cls:=.type "dict",data:=.dict #[] } }) ha (fun b o e=>Heap.get?_push_of_some _ e) (Nat.le_refl _) ⟨_,Heap.get?_push_size _ rfl⟩ ⟨[],hd,trivial⟩,h⟩
inductive AddLP(u:MV)(Q:MV→Hp→Loc→Prop)(v:MV)(σ:Hp)(ρ:Loc):Prop
 | mk (a b d:MA) (vs ws:List MV) (e:u=.ref a) (e':v=.ref b) (hd:σ d=none) (h1:σ a=some (.list vs)) (h2:σ b=some (.list ws)) (n:vs.length+ws.length≤1000) (q:Q (.ref d) (upd σ d (.list (vs++ws))) ρ)
@[reducible] def kAddL(X:Cx)(G:Gm)(r:Expr)(Q:MV→Hp→Loc→Prop)(E:Addr→Hp→Loc→Prop)(u:MV)(σ:Hp)(ρ:Loc):Prop:=EvE X G r σ ρ (AddLP u Q) E
inductive MulLP(u:MV)(Q:MV→Hp→Loc→Prop)(v:MV)(σ:Hp)(ρ:Loc):Prop
 | mk (a d:MA) (v₀:MV) (i:Int) (e:u=.ref a) (e':v=.int i) (hd:σ d=none) (h1:σ a=some (.list [v₀])) (lo:-1000≤i) (hi:i≤1000) (q:Q (.ref d) (upd σ d (.list (List.replicate i.toNat v₀))) ρ)
@[reducible] def kMulL(X:Cx)(G:Gm)(r:Expr)(Q:MV→Hp→Loc→Prop)(E:Addr→Hp→Loc→Prop)(u:MV)(σ:Hp)(ρ:Loc):Prop:=EvE X G r σ ρ (MulLP u Q) E
theorem EvE.addL{l r:Expr}{pos:Pos}(h:EvE X G l σ ρ (kAddL X G r Q E) E) :
  EvE X G (.BinOp l .Add r pos) σ ρ Q E:=fun A env frs μ it fr s he ha hs=>by
 refine n_bin (n_mono (h A env frs μ it fr s he ha hs) ?_ fun _ _ x=>x)
 rintro V s₁ ⟨μ₁,v,σ₁,ρ₁,e₁,r₁,hs₁,hq⟩
 refine n_mono (hq A env frs μ₁ it fr s₁ he ha hs₁) ?_ fun _ _=>.ext e₁
 rintro W s₂ ⟨μ₂,w,σ₂,ρ₂,e₂,r₂,hs₂,a,b,d,vs,ws,rfl,rfl,hd,h1,h2,hn,hq₂⟩
 refine c2_1 hs₂.heap fun it' fr' H=>?_
 obtain ⟨x,_,rfl,m,Vs,n,g1,g2⟩:=H.at_ h1 (r₁.mono e₂)
 obtain ⟨y,_,rfl,m',Ws,k,g3,g4⟩:=H.at_ h2 r₂
 refine n_up (PySem.P.add_list g1 g3 ?_ (by simp [g2.length,g4.length];exact line1000 hn))
 rw [show Vs.toArray++Ws.toArray=(Vs++Ws).toArray from by simp]
 exact hs₂.made (e₁.trans e₂) (o:=.list (vs++ws)) (O:=listO (Vs++Ws) 0) hd (fun x h e=>⟨Vs++Ws,0,e,VRs.mono (.upd (H.mud d hd)) (g2.append g4)⟩) hq₂
theorem fold_rep{V:Value}:∀ k:Nat,List.foldl (fun x1 x2:Array Value=>x1++x2) #[] (List.replicate k #[V])=(List.replicate k V).toArray:=by
 have key:∀ (k:Nat) (acc:Array Value),List.foldl (fun x1 x2:Array Value=>x1++x2) acc (List.replicate k #[V])=acc++(List.replicate k V).toArray:=by
  intro k
  induction k with
  | zero=>intro acc;simp
  | succ k ih =>
   intro acc
   rw [List.replicate_succ,List.foldl_cons,ih,List.replicate_succ]
   apply Array.toList_inj.mp
   simp
 intro k
 rw [key];simp
theorem EvE.mulL{l r:Expr}{pos:Pos}(h:EvE X G l σ ρ (kMulL X G r Q E) E) :
  EvE X G (.BinOp l .Mult r pos) σ ρ Q E:=fun A env frs μ it fr s he ha hs=>by
 refine n_bin (n_mono (h A env frs μ it fr s he ha hs) ?_ fun _ _ x=>x)
 rintro V s₁ ⟨μ₁,v,σ₁,ρ₁,e₁,r₁,hs₁,hq⟩
 refine n_mono (hq A env frs μ₁ it fr s₁ he ha hs₁) ?_ fun _ _=>.ext e₁
 rintro W s₂ ⟨μ₂,w,σ₂,ρ₂,e₂,r₂,hs₂,a,d,v₀,i,rfl,rfl,hd,h1,hlo,hhi,hq₂⟩
 refine c2_1 hs₂.heap fun it' fr' H=>?_
 obtain ⟨x,_,rfl,m,Vs,n,g1,g2⟩:=H.at_ h1 (r₁.mono e₂)
 refine c1_1 r₂ ?_;rintro t rfl
 refine c1_2 (VRs.one g2) ?_;rintro V₀ rfl hV₀
 refine n_up (wpAny_binaryOp_repeat_ref (T:="list") (U:="int") (by decide) ⟨_,g1,rfl⟩ (fun s'=>typeIs_int s' i t) noFill_list_mul PySem.F.fills_int_mul PySem.F.slot_int_rmul repeat_list PySem.F.slot_int_index.lookup
  (call_meets PySem.F.slot_int_rmul (typeIs_int _ i t) PySem.F.entry_int_rmul (PySem.F.args_int_rmul_2 _ _) (int___rmul___int_list i t x [V₀].toArray n)
   ⟨g1,rfl,⟨_,g1,rfl⟩,call_meets PySem.F.slot_list_mul ⟨_,g1,rfl⟩ PySem.F.entry_list_mul (PySem.F.args_list_mul_2 _ _)
    (AutoListH.list___mul___list_int_3 x [V₀].toArray n i t (by simp [Builtin.List.listFitsIndex];lia) (by rw [show [V₀].toArray.size=1 from rfl];lia) (by rw [show [V₀].toArray.size=1 from rfl];simp [Builtin.List.listTooLong,sizeLine];lia)) ⟨g1,?_⟩⟩))
 have e:List.foldl (fun x1 x2:Array Value=>x1++x2) #[] (List.replicate (if ([V₀].toArray).isEmpty=true then 0 else i.toNat) [V₀].toArray)=(List.replicate i.toNat V₀).toArray:=fold_rep _
 rw [e]
 have hvr:∀ k,VRs μ₂ (List.replicate k v₀) (List.replicate k V₀):=fun k=>by
  induction k with
  | zero=>trivial
  | succ k ih=>exact ⟨hV₀,ih⟩
 have:=hs₂.made (Q:=Q) (e₁.trans e₂) (o:=.list (List.replicate i.toNat v₀)) (O:=listO (List.replicate i.toNat V₀) 0) (t:=s₂.toks) hd (fun x h e=>⟨_,0,e,(hvr _).mono (.upd (H.mud d hd))⟩) hq₂
 exact this
end
section
variable{X:Cx}{μ μ':Mu}{σ σ':Hp}{it it':List (Addr×Obj)}{fr:List FrRec}{s s':Shared}
theorem HSt.permIt(H:HSt X μ σ it fr s)(h:it.Perm it'):HSt X μ σ it' fr s where
 ok:=H.ok
 stays:=H.stays
 gens:=H.gens
 os:=H.os
 its p hp:=H.its p (h.mem_iff.mpr hp)
 frs:=H.frs
 nd:=(((h.map (·.1)).append_right _).nodup_iff).mp H.nd
 dom:=H.dom
 mud:=H.mud
 inj:=H.inj
 mub:=H.mub
 sep a x d m b hb:=H.sep a x d m b (((h.map (·.1)).append_right _).mem_iff.mpr hb)
 big:=H.big
end
section
variable{X:Cx}{G:Gm}{c:Bool}{σ:Hp}{ρ:Loc}{Q:MV→Hp→Loc→Prop}{E:Addr→Hp→Loc→Prop}{R:MF→Hp→Loc→Prop}{μ:Mu}{env:Env}{it:List (Addr×Obj)}{fr:List FrRec}{s s':Shared}
theorem FSt.item(F:FSt X μ σ env ρ it fr s){p:Addr×Obj}(hk:∀ b o,s.heap.get? b=some o→s'.heap.get? b=some o)(hp:s.heap.objs.size≤p.1)(hf:s'.heap.get? p.1=some p.2)(hg:s'.gens=s.gens:=by rfl)(ho:s'.os=s.os:=by rfl) :
  FSt X μ σ env ρ (p::it) fr s' :=
 let ⟨es,ep,own,H,k,r,o⟩:=F
 ⟨es,ep,own,(H.item hk hg ho hp hf).permIt List.perm_middle.symm,k,fun x v hx=>by
  exact (r x v hx).shift fun a ob u _ h2=>by
   rcases List.mem_append.mp h2 with h2 | h2
   ·exact List.mem_append_left _ h2
   ·exact List.mem_append_right _ (.tail _ h2),o⟩
theorem FSt.reitem{p p':Addr×Obj}(F:FSt X μ σ env ρ (p::it) fr s)(hp:p'.1=p.1)(hk:∀ b o,b≠p.1→s.heap.get? b=some o→s'.heap.get? b=some o)(hf:s'.heap.get? p.1=some p'.2)
  (hn:∀ u,p.2.data≠.cell u) (hg:s'.gens=s.gens:=by rfl) (ho:s'.os=s.os:=by rfl):FSt X μ σ env ρ (p'::it) fr s' :=
 let ⟨es,ep,own,H,k,r,o⟩:=F
 ⟨es,ep,own,((H.permIt List.perm_middle).reitem hp hk hg ho hf).permIt List.perm_middle.symm,k,fun x v hx=>by
  exact (r x v hx).shift fun a ob u hd h2=>by
   rcases List.mem_append.mp h2 with h2 | h2
   ·exact List.mem_append_left _ h2
   ·rcases List.mem_cons.mp h2 with rfl | h2
    ·exact absurd hd (hn u)
    ·exact List.mem_append_right _ (.tail _ h2),o⟩
theorem FSt.unitem{p:Addr×Obj}(F:FSt X μ σ env ρ (p::it) fr s)(hn:∀ u,p.2.data≠.cell u):FSt X μ σ env ρ it fr s :=
 let ⟨es,ep,own,H,k,r,o⟩:=F
 ⟨es,ep,own,(H.permIt List.perm_middle).unitem,k,fun x v hx=>by
  exact (r x v hx).shift fun a ob u hd h2=>by
   rcases List.mem_append.mp h2 with h2 | h2
   ·exact List.mem_append_left _ h2
   ·rcases List.mem_cons.mp h2 with rfl | h2
    ·exact absurd hd (hn u)
    ·exact List.mem_append_right _ h2,o⟩
theorem FSt.at_item{p:Addr×Obj}(F:FSt X μ σ env ρ (p::it) fr s):s.heap.get? p.1=some p.2:=let ⟨_,_,own,H,_,_,_⟩:=F;(H.its p (by simp)).1
theorem store_cell{x:String}{v:MV}{V:Value}{frs:List Env}{M:Model}{A:Around}{Qv:Unit→Shared→Prop}{Ev:Value→Shared→Prop}(he:EnvOk G env frs)(hs:FSt X μ σ env ρ it fr s)(hx:x∈G.S.cels)(hown:∃ a,env.cells.lookup (Str.ofString x)=some a)
  (hfl:env.frame=some env.locals) (hV:VR μ v V)
  (h:∀ s',FSt X μ σ env (lset x v ρ) it fr s'→Qv () s'):wpAny M A (storeName env (Str.ofString x) V) Qv Ev s:=by
 have hk:=he.ok.cels x hx
 rw [← kindOf_eq he] at hk
 refine c1_1 hown fun a ha=>?_
 obtain ⟨es,ep,own,H,k,r,o⟩:=hs
 have hoa:ownAddrs env=env.cells.map (·.2):=by unfold ownAddrs;rw [if_pos hfl]
 have mem_of_lookup:∀ {l:List (Str×Addr)} {n:Str} {b:Addr},l.lookup n=some b→(n,b)∈l:=by
  intro l n b hl
  induction l with
  | nil=>cases hl
  | cons p l ih =>
   obtain ⟨n',b'⟩:=p
   rw [List.lookup_cons] at hl
   by_cases e:(n==n')=true
   ·rw [e] at hl;cases hl;rw [eq_of_beq e];exact .head _
   ·rw [Bool.eq_false_iff.mpr e] at hl;exact .tail _ (ih hl)
 have ham:a∈own.map (·.1):=by rw [o.1,hoa];exact List.mem_map.mpr ⟨_,mem_of_lookup ha,rfl⟩
 refine c1_2 (List.mem_map.mp ham) ?_;rintro p hp rfl
 refine c1_1 (o.2 p hp) fun u hu=>?_
 have hget:=(H.its p (List.mem_append_left _ hp)).1
 refine wpAny_storeName_cell (fn_of he) hk ha ⟨p.2,hget,hu⟩ fun h' hc hsb=>h _ ?_
 refine c1_2 hc fun o' ho' hd'=>?_
 refine c2_1 (List.append_of_mem hp) ?_;rintro own1 own2 rfl
 have H1:HSt X μ σ (p::(own1++own2++it)) ((env.locals,es,ep)::fr) s:=H.permIt (by rw [List.append_assoc,List.cons_append,List.append_assoc];exact List.perm_middle)
 have H2:=H1.reitem (s':={ s with heap:=h' }) (p':=(p.1,o')) rfl (fun b o nb e=>(hsb.2 b nb).trans e) rfl rfl ho'
 have H3:HSt X μ σ (own1++(p.1,o')::own2++it) ((env.locals,es,ep)::fr) { s with heap:=h' }:=H2.permIt (by rw [List.append_assoc,List.append_assoc,List.cons_append];exact List.perm_middle.symm)
 refine ⟨es,ep,own1++(p.1,o')::own2,H3,k,fun y w hy=>?_,⟨by have:=o.1;simpa using this,fun q hq=>?_⟩⟩
 rotate_left
 ·simp only [List.mem_append,List.mem_cons] at hq
  rcases hq with hq | rfl | hq
  ·exact o.2 q (by simp [hq])
  ·exact ⟨_,hd'⟩
  ·exact o.2 q (by simp [hq])
 rw [lget_lset] at hy
 by_cases hyx:y=x
 ·subst hyx
  rw [if_pos rfl] at hy;cases hy
  exact .cel (.inl hk) p.1 o' V ha (by simp) hd' hV
 ·rw [if_neg hyx] at hy
  rcases r y w hy with ⟨q,V,h1,h2⟩ | ⟨q,b,ob,W,h1,h2,h3,h4⟩
  ·exact .loc q V h1 h2
  ·have hbne:b≠p.1:=by
    rintro rfl
    have m1:=mem_of_lookup h1
    have m2:=mem_of_lookup ha
    have nd:(env.cells.map (·.2)).Nodup:=by
     rw [← hoa,← o.1]
     exact (List.nodup_append.mp ((List.nodup_append.mp H.nd).1 |> fun z=>by rw [List.map_append] at z;exact z)).1
    have inj:∀ {l:List (Str×Addr)},(l.map (·.2)).Nodup→∀ {n m:Str} {z:Addr},(n,z)∈l→(m,z)∈l→n=m:=by
     intro l
     induction l with
     | nil=>intro _ n m z h;cases h
     | cons q l ih =>
      intro hnd n m z h1 h2
      rw [List.map_cons,List.nodup_cons] at hnd
      rcases List.mem_cons.mp h1 with e1 | e1 <;> rcases List.mem_cons.mp h2 with e2 | e2
      ·rw [← e1] at e2;exact (Prod.mk.inj e2).1.symm
      ·exact absurd (List.mem_map.mpr ⟨_,e2,rfl⟩) (by rw [← e1] at hnd;exact hnd.1)
      ·exact absurd (List.mem_map.mpr ⟨_,e1,rfl⟩) (by rw [← e2] at hnd;exact hnd.1)
      ·exact ih hnd.2 e1 e2
    exact hyx (ofString_inj (inj nd m1 m2))
   refine .cel q b ob W h1 ?_ h3 h4
   simp only [List.mem_append,List.mem_cons] at h2 ⊢
   rcases h2 with (h2 | h2 | h2) | h2
   ·exact .inl (.inl h2)
   ·exact absurd (by rw [← h2]) hbne
   ·exact .inl (.inr (.inr h2))
   ·exact .inr h2
end
section
variable{X:Cx}{G:Gm}{c:Bool}{σ:Hp}{ρ:Loc}{Q:MV→Hp→Loc→Prop}{E:Addr→Hp→Loc→Prop}{R:MF→Hp→Loc→Prop}{μ:Mu}{env:Env}{it:List (Addr×Obj)}{fr:List FrRec}{s s':Shared}
noncomputable def StOk(S:Sc)(x:String):Bool:=S.locs.contains x || (S.cels.contains x && S.plain)
theorem store_any{x:String}{v:MV}{V:Value}{frs:List Env}{M:Model}{A:Around}{Qv:Unit→Shared→Prop}{Ev:Value→Shared→Prop}(he:EnvOk G env frs)(hs:FSt X μ σ env ρ it fr s)(hx:StOk G.S x=true)(hV:VR μ v V)
  (h:∀ s',FSt X μ σ env (lset x v ρ) it fr s'→Qv () s'):wpAny M A (storeName env (Str.ofString x) V) Qv Ev s:=by
 unfold StOk at hx
 rw [Bool.or_eq_true] at hx
 rcases hx with hx | hx
 ·exact store_local he hs (inL hx) hV h
 ·rw [Bool.and_eq_true] at hx
  have hc:x∈G.S.cels:=by simpa using hx.1
  exact store_cell he hs hc (he.cel x hc) (he.here hx.2).1 hV h
theorem n_assignName{x:String}{pos:Pos}{v:MV}{V:Value}{frs:List Env}{M:Model}{A:Around}{Qv:Unit→Shared→Prop}{Ev:Value→Shared→Prop}(he:EnvOk G env frs)(hs:FSt X μ σ env ρ it fr s)(hx:StOk G.S x=true)(hV:VR μ v V)
  (h:∀ s',FSt X μ σ env (lset x v ρ) it fr s'→Qv () s'):wpAny M A (assign (.Name (Str.ofString x) pos) env V) Qv Ev s :=
 PyProof.Rows.assign_Name (store_any he hs hx hV h)
inductive Tup2P(x y:String)(R:MF→Hp→Loc→Prop)(ov:MV)(σ:Hp)(ρ:Loc):Prop
 | mk (a:MA) (u v:MV) (e:ov=.ref a) (h:σ a=some (.tup [u,v])) (q:R .next σ (lset y v (lset x u ρ)))
theorem ExS.tup2{x y:String}{px py tpos pos:Pos}{k:Nat}{value:Expr}(hG:G.b=true)(hx:StOk G.S x=true)(hy:StOk G.S y=true)
  (h:EvE X G value σ ρ (Tup2P x y R) E)
  (hs:∀ env,swapsWithSole [.Tuple [.Name (Str.ofString x) px,.Name (Str.ofString y) py] k tpos] value pos.line env=pure false:=by intro _;rfl)
  (hw:∀ env,swappedStores [.Tuple [.Name (Str.ofString x) px,.Name (Str.ofString y) py] k tpos] value env=pure none:=by intro _;rfl) :
  ExS X G (.Assign [.Tuple [.Name (Str.ofString x) px,.Name (Str.ofString y) py] k tpos] value pos) σ ρ R E:=fun A env frs μ it fr s he ha hs'=>by
 refine n_assignTup (n_mono (h A env frs μ it fr s he ha hs') ?_ fun _ _ x=>x) (hs env) (hw env)
 rintro V s₁ ⟨μ₁,ov,σ₁,ρ₁,e₁,r₁,hs₁,a,u,v,rfl,hσ,hq⟩
 refine c2_1 hs₁.heap fun it' fr' H=>?_
 obtain ⟨z,d,rfl,m,Vs,n,g1,g2⟩:=H.at_ hσ r₁
 refine n_up ?_
 rw [PyProof.Rows.assign_Tuple]
 refine wpAny_bind (wpAny_standAt ?_)
 refine c2_3 (VRs.two g2) ?_;rintro U V rfl hU hV
 refine unpack_tuple (items:=[U,V].toArray) (ha.han hG) ⟨_,g1,rfl,n,rfl⟩ rfl rfl fun h' hk=>?_
 have hs₂:FSt X μ₁ σ₁ env ρ₁ it fr { s₁ with heap:=h' }:=hs₁.grow (s':={ s₁ with heap:=h' }) fun b o e=>hk b o (Nat.ne_of_lt (Heap.lt_size e)) e
 show wpAny _ _ (do holding [V] (PySem.assign (.Name (Str.ofString x) px) env U);assignInOrder [fun v=>PySem.assign (.Name (Str.ofString y) py) env v] [V]) _ _ _
 refine wpAny_bind (wpAny_holding (n_assignName he hs₂ hx hU fun s₃ hs₃=>?_))
 show wpAny _ _ (do holding [] (PySem.assign (.Name (Str.ofString y) py) env V);assignInOrder [] []) _ _ _
 refine wpAny_bind (wpAny_holding (n_assignName he hs₃ hy hV fun s₄ hs₄=>?_))
 exact wpAny_pure ⟨μ₁,.next,σ₁,_,e₁,rfl,hs₄,hq⟩
inductive And2P(X:Cx)(G:Gm)(r:Expr)(Q:MV→Hp→Loc→Prop)(E:Addr→Hp→Loc→Prop)(v:MV)(σ:Hp)(ρ:Loc):Prop
 | mk (b:Bool) (e:v=.bool b) (h1:b=false→Q (.bool false) σ ρ) (h2:b=true→EvE X G r σ ρ Q E)
theorem EvE.and2{l r:Expr}{pos:Pos}(h:EvE X G l σ ρ (And2P X G r Q E) E):EvE X G (.BoolOp .And [l,r] pos) σ ρ Q E:=fun A env frs μ it fr s he ha hs=>by
 show wpN _ _ _ (eval (.BoolOp .And [l,r] pos) env) _ _ _
 rw [arm_eval_BoolOp]
 show wpN _ _ _ (do let v ← eval l env;standAt pos;let t ← holding [v] (truthy v);match BoolOp.And,t with | .And,false | .Or,true=>pure v | _,_=>boolOp pos .And [eval r env]) _ _ _
 refine n_then (h A env frs μ it fr s he ha hs) ?_
 rintro V s₁ ⟨μ₁,v,σ₁,ρ₁,e₁,r₁,hs₁,b,rfl,h1,h2⟩
 cases r₁
 refine n_stand (n_first (wpAny_holding (wpAny_truthy_bool ?_)))
 cases b with
 | false=>exact n_pure ⟨μ₁,.bool false,σ₁,ρ₁,e₁,rfl,hs₁,h1 rfl⟩
 | true=>exact n_mono (h2 rfl A env frs μ₁ it fr s₁ he ha hs₁) (fun _ _=>.ext e₁) fun _ _=>.ext e₁
inductive PropP(X:Cx)(G:Gm)(f:String)(n:Nat)(Q:MV→Hp→Loc→Prop)(ov:MV)(σ:Hp)(ρ:Loc):Prop
 | mk (a:MA) (C:Addr) (fs:List (String×MV)) (p fget:Addr) (rest:List Value) (e:ov=.ref a) (h:σ a=some (.inst C fs)) (c:ClsOk X.w C) (h1:findIn (Fg X.w) (.ref C) (Str.ofString f)=some (some (.ref p))) (h2:specialIn (Fg X.w) (.ref p) "__get__"=some (some (.builtin "property.__get__")))
  (h3:takesIn (Fg X.w) (.ref p)=some true) (h4:recIn (Fg X.w) p "property"=some (.ref fget::rest)) (k:CallJ X false n G.b (.ref fget) [.ref a] σ (fun v σ₂=>v.plain=true∧Q v σ₂ ρ) (fun _ _=>False))
theorem EvE.prop{e:Expr}{f:String}{pos:Pos}{n:Nat}(hn:n+1≤G.n)
  (h:EvE X G e σ ρ (PropP X G f n Q) E)
  (hns:noSuper e:=by rfl):EvE X G (.Attribute e (Str.ofString f) pos) σ ρ Q E:=fun A env frs μ it fr s he ha hs=>by
 refine n_attr (n_mono (h A env frs μ it fr s he ha hs) ?_ fun _ _ x=>x) ?_
 ·rintro V s₁ ⟨μ₁,ov,σ₁,ρ₁,e₁,r₁,hs₁,a,C,fs,p,fget,rest,rfl,hσ,hC,h1,h2,h3,h4,hq⟩
  refine n_up ?_
  obtain ⟨es,ep,own,H,k,rd,o⟩:=hs₁
  refine c2_2 r₁ ?_;rintro x d hm rfl
  refine c2_4 (inst_at H hσ hm) fun es' n' g1 g2 g3 I=>?_
  have K:=H.inK
  have hg:=plainGet_of (name:=Str.ofString "") hC.ga
  have hd:hasDictIn (Fg X.w) C=true:=hC.hd
  refine get_bind K I hg.1 (findObj_data (by refine c1_2 (any_some hd) fun cd hc _=>?_;rw [hc];rfl) h1 h2 h3) hg.2 (wpAny_call (prop_get (s:={ s₁ with toks:=s₁.toks+1 }) K h4 ?_))
  have ha':AOk n G.b A.in1 frs (((env.locals,es,ep)::fr).map (·.1)):=⟨ha.frames,ha.out,by have:=ha.depth;show A.depth+4*n≤900;lia,by have:=ha.units;show A.units+1+16*n≤9000;lia,ha.han⟩
  refine codeAny_mono (n_codeAny (hq A.in1 frs μ₁ (own++it) ((env.locals,es,ep)::fr) { s₁ with toks:=s₁.toks+1 } [.ref x] ha' H.toks ⟨⟨x,d,hm,rfl⟩,trivial⟩)) fun r s' z=>?_
  induction z with
  | err _ _ _ _ _ z=>exact z.elim
  | ret μ' v σ' e' hv H' q =>
   refine c0_2 q fun hp hq'=>?_
   exact handed_on (handed_of hv (MV.plain_ne hp)) ⟨μ',v,σ',ρ₁,e₁.trans e',hv,⟨es,ep,own,H',k,rd.mono e',o⟩,hq'⟩
 ·show (do let o ← attributeBase e _ env (eval e env);standAt pos.atName;let r ← holding [o] (getAttr o (Str.ofString f) true);letTemporaryGo e o r;pure r)=_
  rw [attributeBase_plain hns]
end
theorem HSt.dropIt{X:Cx}{μ:Mu}{σ:Hp}{it:List (Addr×Obj)}{fr:List FrRec}{s s':Shared}{p:Addr×Obj}(H:HSt X μ σ (p::it) fr s)(hk:∀ b o,b≠p.1→s.heap.get? b=some o→s'.heap.get? b=some o)(hg:s'.gens=s.gens)(ho:s'.os=s.os):HSt X μ σ it fr s':=by
 have nd:=H.nd
 rw [List.map_cons,List.cons_append] at nd
 have ln:∀ b∈it.map (·.1)++fr.map (·.1),b≠p.1:=fun b hb e=>(List.nodup_cons.mp nd).1 (e▸hb)
 have kb:∀ b o,X.base.get? b=some o→s'.heap.get? b=some o:=fun b o e=>hk b o (by rintro rfl;rw [(H.its p (.head _)).2] at e;cases e) (H.stays b o e)
 have km:∀ a x d,μ a=some (x,d)→x≠p.1∧d≠p.1:=fun a x d m=>let h:=H.sep a x d m p.1 (.head _);⟨h.1.symm,h.2.symm⟩
 refine ⟨H.ok,kb,hg.trans H.gens,ho.trans H.os,fun q hq=>⟨hk _ _ (ln _ (List.mem_append_left _ (List.mem_map_of_mem hq))) (H.its q (.tail _ hq)).1,(H.its q (.tail _ hq)).2⟩,
  fun q hq=>⟨(H.frs q hq).1.keep fun o=>hk _ o (ln _ (List.mem_append_right _ (List.mem_map_of_mem hq))),(H.frs q hq).2⟩,(List.nodup_cons.mp nd).2,fun a o e=>?_,H.mud,H.inj,fun a x d m=>?_,fun a x d m b hb=>H.sep a x d m b (.tail _ hb),H.big⟩
 ·refine c2_2 (H.dom a o e) fun x d m r=>?_
  exact ⟨x,d,m,r.mono (.refl _) (fun o=>hk _ o (km a x d m).1) fun o=>hk _ o (km a x d m).2⟩
 ·obtain ⟨h1,h2,⟨o1,h3⟩,⟨o2,h4⟩⟩:=H.mub a x d m
  exact ⟨h1,h2,⟨o1,hk _ _ (km a x d m).1 h3⟩,⟨o2,hk _ _ (km a x d m).2 h4⟩⟩
section
variable{X:Cx}{G:Gm}{c:Bool}{σ:Hp}{ρ:Loc}{Q:MV→Hp→Loc→Prop}{E:Addr→Hp→Loc→Prop}{R:MF→Hp→Loc→Prop}{μ:Mu}{env:Env}{it:List (Addr×Obj)}{fr:List FrRec}{s s':Shared}
theorem FSt.dropIt{p:Addr×Obj}(F:FSt X μ σ env ρ (p::it) fr s)(hk:∀ b o,b≠p.1→s.heap.get? b=some o→s'.heap.get? b=some o)(hn:∀ u,p.2.data≠.cell u)(hg:s'.gens=s.gens:=by rfl)(ho:s'.os=s.os:=by rfl):FSt X μ σ env ρ it fr s' :=
 let ⟨es,ep,own,H,k,r,o⟩:=F
 ⟨es,ep,own,(H.permIt List.perm_middle).dropIt hk hg ho,k,fun x v hx=>by
  exact (r x v hx).shift fun a ob u hd h2=>by
   rcases List.mem_append.mp h2 with h2 | h2
   ·exact List.mem_append_left _ h2
   ·rcases List.mem_cons.mp h2 with rfl | h2
    ·exact absurd hd (hn u)
    ·exact List.mem_append_right _ h2,o⟩
inductive ItK where | list (a:MA) | tup (a:MA) | rng (n:Nat)
noncomputable def ItP(k:ItK)(μ:Mu)(i:Nat)(o:Obj):Prop:=match k with
 | .list a=>∃ x d,μ a=some (x,d)∧o.cls=.type "list_iterator"∧o.data=.fields #[.ref x,.int i 0]
 | .tup a=>∃ x d,μ a=some (x,d)∧o.cls=.type "tuple_iterator"∧o.data=.fields #[.ref x,.int i 0]
 | .rng n=>o={ cls:=.type "range_iterator",data:=.fields #[rawInt i,rawInt ((n:Int) - i),rawInt 1] }∧i≤n
noncomputable def ItV(k:ItK)(σ:Hp)(vs:List MV):Prop:=match k with
 | .list a=>σ a=some (.list vs)
 | .tup a=>σ a=some (.tup vs)
 | .rng n=>vs=(List.range n).map fun j:Nat=>MV.int j
noncomputable def ItO(k:ItK)(σ:Hp)(ov:MV):Prop:=match k with
 | .list a=>ov=.ref a
 | .tup a=>ov=.ref a
 | .rng n=>∃ a,ov=.ref a∧σ a=some (.range n)∧n≤1000
theorem ItP.mono{k:ItK}{μ μ':Mu}(e:Ext μ μ'){i:Nat}{o:Obj}(h:ItP k μ i o):ItP k μ' i o:=by
 cases k with
 | list a=>refine c2_2 h fun x d m h=>?_;exact ⟨x,d,e _ _ m,h⟩
 | tup a=>refine c2_2 h fun x d m h=>?_;exact ⟨x,d,e _ _ m,h⟩
 | rng n=>exact h
theorem ItP.noCell{k:ItK}{i:Nat}{o:Obj}(h:ItP k μ i o):∀ u,o.data≠.cell u:=fun u e=>by
 cases k with
 | list a=>refine c2_3 h fun x d m _ h=>?_;rw [h] at e;cases e
 | tup a=>refine c2_3 h fun x d m _ h=>?_;rw [h] at e;cases e
 | rng n=>rw [h.1] at e;cases e
theorem iter_start{k:ItK}{vs:List MV}{ov:MV}{V:Value}{A:Around}{Qv:Value→Shared→Prop}{Ev:Value→Shared→Prop}(F:FSt X μ σ env ρ it fr s)(ho:ItO k σ ov)(hv:ItV k σ vs)(hV:VR μ ov V)
  (h:∀ I o s',ItP k μ 0 o→FSt X μ σ env ρ ((I,o)::it) fr s'→Qv (.ref I) s'):wpAny (model prog X.w) A (pyIter V) Qv Ev s:=by
 refine c2_1 F.heap fun it' fr' H=>?_
 have fin:∀ o:Obj,o.isFreed=false→ItP k μ 0 o→Qv (.ref s.heap.objs.size) { s with heap:=s.heap.push o }:=fun o hf hp =>
  h _ o _ hp (F.item (p:=(s.heap.objs.size,o)) (s':={ s with heap:=s.heap.push o }) (fun b o e=>Heap.get?_push_of_some _ e) (Nat.le_refl _) (Heap.get?_push_size _ hf))
 cases k with
 | list a =>
  cases ho
  obtain ⟨x,d,rfl,m,Ws,n,g1,g2⟩:=H.at_ hv hV
  exact wpAny_pyIter_list ⟨_,g1,rfl,n,rfl⟩ (fin _ rfl ⟨x,d,m,rfl,rfl⟩)
 | tup a =>
  cases ho
  obtain ⟨x,d,rfl,m,Ws,n,g1,g2⟩:=H.at_ hv hV
  exact wpAny_pyIter_tuple (tup_at g1) (fin _ rfl ⟨x,d,m,rfl,rfl⟩)
 | rng n =>
  rcases ho with ⟨a,rfl,hσ,hn⟩
  obtain ⟨x,d,rfl,m,t,u,v,g1⟩:=H.at_ hσ hV
  have hsz:Builtin.Range.rangeSize 0 (n:Int) 1=n:=by
   unfold Builtin.Range.rangeSize
   rw [if_pos (by decide)]
   split
   ·rw [Int.ediv_one];lia
   ·lia
  refine wpAny_pyIter_range g1 ?_ ?_
  ·unfold Builtin.Range.small
   rw [hsz]
   have:∀ z:Int,0≤z→z≤1000→Builtin.Range.rangeFitsLong z=true:=fun z h0 h1=>by simp [Builtin.Range.rangeFitsLong];lia
   rewrite [this 0 (by lia) (by lia),this n (by lia) (by lia),this 1 (by lia) (by lia)]
   have h2:=this ((n:Int)+(1 - 1)) (by lia) (by lia)
   simp only [show (1:Int)>0 by decide,if_true,h2]
   simp
  ·rw [hsz]
   exact fin _ rfl ⟨by simp [rawInt],Nat.zero_le _⟩
theorem iter_next{k:ItK}{vs:List MV}{i:Nat}{I:Addr}{o:Obj}{A:Around}{Qv:Option Value→Shared→Prop}{Ev:Value→Shared→Prop}(hA:A.handled=none)(F:FSt X μ σ env ρ ((I,o)::it) fr s)(hp:ItP k μ i o)(hv:ItV k σ vs)
  (h1:∀ v V o' s',vs[i]?=some v→VR μ v V→ItP k μ (i+1) o'→FSt X μ σ env ρ ((I,o')::it) fr s'→Qv (some V) s')
  (h2:∀ s',vs[i]?=none→FSt X μ σ env ρ it fr s'→Qv none s'):wpAny (model prog X.w) A (pyNext (.ref I)) Qv Ev s:=by
 refine c2_1 F.heap fun it' fr' H=>?_
 have hI:=F.at_item
 have goes:∀ (o':Obj) (h':Heap) (t:Nat),Heap.SameBut I s.heap h'→h'.get? I=some o'→FSt X μ σ env ρ ((I,o')::it) fr { s with heap:=h',toks:=t }:=fun o' h' t hs ho' =>
  F.reitem (p':=(I,o')) (s':={ s with heap:=h',toks:=t }) rfl (fun b ob nb e=>(hs.2 b nb).trans e) ho' hp.noCell
 have ends:∀ h':Heap,Heap.ExtBut I s.heap h'→FSt X μ σ env ρ it fr { s with heap:=h' }:=fun h' hk=>F.dropIt (s':={ s with heap:=h' }) (fun b ob nb e=>hk b ob nb e) hp.noCell
 cases k with
 | list a =>
  refine c2_3 (id hp) fun x d m q1 q2=>?_
  obtain ⟨_,_,mm,Ws,n,g1,g2⟩:=H.dom a _ hv
  rw [m] at mm;cases mm
  have hl:s.heap.IsList x Ws.toArray:=⟨_,g1,rfl,n,rfl⟩
  have hit:s.heap.IsListIter I x i:=⟨o,hI,q1,q2⟩
  cases e:vs[i]? with
  | some v =>
   refine c1_2 (g2.get e) fun V e1 e2=>?_
   refine wpAny_pyNext_list_item hit hl (x:=V) (by simpa using e1) fun h' hit' hs=>?_
   refine c1_3 hit' fun o' ho' c' d'=>?_
   exact h1 v V o' _ e e2 ⟨x,d,m,c',d'⟩ (goes o' h' s.toks hs ho')
  | none =>
   have:Ws.toArray[i]?=none:=by
    rw [List.getElem?_eq_none_iff] at e
    simp [g2.length];exact e
   exact wpAny_pyNext_list_end hA hit hl this fun h' hk=>h2 _ e (ends h' hk)
 | tup a =>
  refine c2_3 (id hp) fun x d m q1 q2=>?_
  obtain ⟨_,_,mm,Ws,n,g1,g2⟩:=H.dom a _ hv
  rw [m] at mm;cases mm
  have hit:s.heap.IsTupleIter I x i:=⟨o,hI,q1,q2⟩
  cases e:vs[i]? with
  | some v =>
   refine c1_2 (g2.get e) fun V e1 e2=>?_
   refine wpAny_pyNext_tuple_item hit (tup_at g1) (x:=V) (by simpa using e1) fun h' hit' hs=>?_
   refine c1_3 hit' fun o' ho' c' d'=>?_
   exact h1 v V o' _ e e2 ⟨x,d,m,c',d'⟩ (goes o' h' s.toks hs ho')
  | none =>
   have:Ws.toArray[i]?=none:=by
    rw [List.getElem?_eq_none_iff] at e
    simp [g2.length];exact e
   exact wpAny_pyNext_tuple_end hA hit (tup_at g1) this fun h' hk=>h2 _ e (ends h' hk)
 | rng n =>
  refine c0_2 (id hp) fun q1 q2=>?_
  have hit:IsRangeIter s.heap I i ((n:Int) - i) 1:=by subst q1;exact hI
  subst hv
  by_cases hi:i<n
  ·refine wpAny_pyNext_range_item hit (by lia) fun h' hit' hs=>?_
   refine h1 (.int i) _ _ _ (by simp [hi]) ⟨_,rfl⟩ ⟨?_,by lia⟩ (goes _ h' _ hs hit')
   have e1:((i:Int)+1)=((i+1:Nat):Int):=by lia
   have e2:((n:Int) - i - 1)=(n:Int) - ((i+1:Nat):Int):=by lia
   rw [e1,e2]
  ·exact wpAny_pyNext_range_end hA hit (by lia) fun h' hk=>h2 _ (by simp;lia) (ends h' hk)
theorem n_block{prog:Program}{w:World}{A:Around}{R:Result→Shared→Prop}{env:Env}{s:Shared}(h:R (.ok .next) s):codeN c (model prog w) A (.block [] env) R s :=
 n_code (codeAny_block (wpAny_execs_nil h))
theorem n_forLoop{prog:Program}{w:World}{A:Around}{R:Result→Shared→Prop}{target:Expr}{iv:Value}{body:List Stmt}{env:Env}{s:Shared}(I:Nat→Shared→Prop)
  (turn:∀ n s,I n s→wpAny (model prog w) A (pyNext iv) (fun r s₁=>match r with
   | none=>R (.ok .next) s₁
   | some v=>wpAny (model prog w) A (assign target env v) (fun _ s₂=>wpN c (model prog w) A (execs body env) (fun f s₃=>match f with
     | .next=>∃ m,m<n∧I m s₃
     | .ret v=>R (.ok (.ret v)) s₃
     | _=>False) (fun _ _=>False) s₂) (fun _ _=>False) s₁) (fun _ _=>False) s)
  (n:Nat) (h:I n s) (ht:∀ v,letOwnedTupleGo target iv v=pure ():=by intro _;rfl):codeN c (model prog w) A (.forLoop target iv body [] env) R s:=by
 refine codeN_loop rfl rfl I (fun n s hI=>?_) n h
 show wpN c _ A ((forTurn target iv body [] env).onRaise (fun x=>do noteFrame x env;theTreesLotGoes x)) _ _ s
 refine n_onRaise ?_
 simp only [forTurn]
 refine n_stand (n_bind (n_onRaise (n_up (wpAny_mono (turn n s hI) (fun r s₁ h₁=>?_) fun _ _ z=>z.elim))))
 cases r with
 | none=>exact n_pure (.inr ⟨rfl,n_block h₁⟩)
 | some v =>
  refine n_step (ht v) ?_
  refine n_first (wpAny_mono h₁ (fun _ s₂ h₂=>n_bind (n_mono h₂ (fun f s₃ h₃=>?_) fun _ _ z=>z.elim)) fun _ _ z=>z.elim)
  cases f with
  | next=>exact n_pure (.inl ⟨rfl,h₃⟩)
  | ret v=>exact n_pure h₃
  | brk=>exact h₃.elim
  | cont=>exact h₃.elim
noncomputable abbrev noE:Addr→Hp→Loc→Prop:=fun _ _ _=>False
@[reducible] def kTurn(Inv:Nat→Hp→Loc→Prop)(i:Nat)(R:MF→Hp→Loc→Prop)(mf:MF)(σ:Hp)(ρ:Loc):Prop:=match mf with | .next=>Inv (i+1) σ ρ | .ret u=>R (.ret u) σ ρ
inductive ForP(X:Cx)(G:Gm)(x:String)(body:List Stmt)(R:MF→Hp→Loc→Prop)(ov:MV)(σ:Hp)(ρ:Loc):Prop
 | mk (k:ItK) (vs:List MV) (hO:ItO k σ ov) (hV:ItV k σ vs) (Inv:Nat→Hp→Loc→Prop) (h0:Inv 0 σ ρ) (hi:∀ i σ ρ,Inv i σ ρ→ItV k σ vs)
  (hs:∀ i σ ρ v,Inv i σ ρ→vs[i]?=some v→∀ K,Lp Inv i R K→ExSs X G body σ (lset x v ρ) (Go K) noE) (he:∀ σ ρ,Inv vs.length σ ρ→R .next σ ρ)
inductive ForI(X:Cx)(k:ItK)(vs:List MV)(μ₁:Mu)(Inv:Nat→Hp→Loc→Prop)(I:Addr)(env:Env)(it:List (Addr×Obj))(fr:List FrRec)(n:Nat)(s:Shared):Prop
 | mk (i:Nat) (μ':Mu) (σ':Hp) (ρ':Loc) (o':Obj) (hin:i+n=vs.length) (e:Ext μ₁ μ') (hp:ItP k μ' i o') (F:FSt X μ' σ' env ρ' ((I,o')::it) fr s) (hinv:Inv i σ' ρ')
theorem ExS.forIn{x:String}{tpos pos:Pos}{iter:Expr}{body:List Stmt}(hG:G.b=true)(hx:StOk G.S x=true)
  (h:EvE X G iter σ ρ (ForP X G x body R) E)
  (hf:∀ env V,foldedSetIterable iter env V=pure V:=by intro _ _;rfl):ExS X G (.For (.Name (Str.ofString x) tpos) iter body [] pos) σ ρ R E:=fun A env frs μ it fr s he ha hs=>by
 show wpN _ _ _ (exec (.For (.Name (Str.ofString x) tpos) iter body [] pos) env) _ _ _
 rw [exec_For]
 refine n_stand (n_then (h A env frs μ it fr s he ha hs) ?_)
 rintro V s₁ ⟨μ₁,ov,σ₁,ρ₁,e₁,r₁,hs₁,k,vs,hO,hV,Inv,h0,hi,hstep,hend⟩
 refine n_step (hf env V) ?_
 refine n_stand (n_first (wpAny_holding (iter_start hs₁ hO hV r₁ fun I o s₂ hp hs₂=>?_)))
 unfold runOwn
 refine n_onRaise (n_mono (E:=fun _ _=>False) ?_ (fun _ _ z=>z) fun _ _ z=>z.elim)
 refine n_run (codeN_mono (n_forLoop (R:=fun r s'=>match r with | .ok f=>GPost X μ env it fr FlR R f s' | .error _=>False)
  (I:=ForI X k vs μ₁ Inv I env it fr) ?_ vs.length ⟨0,μ₁,σ₁,ρ₁,o,Nat.zero_add _,.refl _,hp,hs₂,h0⟩) fun r s' z=>by
   rcases r with e | f <;> exact z)
 rintro n s ⟨i,μ',σ',ρ',o',hin,e',hp',hs',hinv⟩
 refine iter_next (ha.han hG) hs' hp' (hi _ _ _ hinv) ?_ ?_
 ·intro v V o'' s'' hv hVR hp'' hs''
  refine n_assignName he hs'' hx hVR fun s₃ hs₃=>?_
  have hlt:i<vs.length:=(List.getElem?_eq_some_iff.mp hv).1
  refine n_mono (hstep i σ' ρ' v hinv hv (kTurn Inv i R) ⟨fun z=>z,fun z=>z⟩ A env frs μ' ((I,o'')::it) fr s₃ he ha hs₃) ?_ ?_
  ·rintro f s₄ ⟨μ₄,mf,σ₄,ρ₄,e₄,r₄,hs₄,hq⟩
   cases mf with
   | next=>cases r₄;exact ⟨n - 1,by lia,i+1,μ₄,σ₄,ρ₄,o'',by lia,e'.trans e₄,hp''.mono e₄,hs₄,hq⟩
   | ret u =>
    refine c1_2 r₄ ?_;rintro U rfl hU
    exact ⟨μ₄,.ret u,σ₄,ρ₄,e₁.trans (e'.trans e₄),⟨U,rfl,hU⟩,hs₄.unitem hp''.noCell,hq⟩
  ·rintro ev s₄ ⟨_,_,_,_,_,_,z⟩
   exact z.elim
 ·intro s'' hv hs''
  have hle:vs.length≤i:=List.getElem?_eq_none_iff.mp hv
  have:i=vs.length:=by lia
  subst this
  exact ⟨μ',.next,σ',ρ',e₁.trans e',rfl,hs'',hend _ _ hinv⟩
end
section
variable{X:Cx}{μ μ':Mu}{σ σ':Hp}{it it':List (Addr×Obj)}{fr fr':List FrRec}{s s':Shared}
theorem HSt.permFr(H:HSt X μ σ it fr s)(h:fr.Perm fr'):HSt X μ σ it fr' s where
 ok:=H.ok
 stays:=H.stays
 gens:=H.gens
 os:=H.os
 its:=H.its
 frs p hp:=H.frs p (h.mem_iff.mpr hp)
 nd:=(((h.map (·.1)).append_left _).nodup_iff).mp H.nd
 dom:=H.dom
 mud:=H.mud
 inj:=H.inj
 mub:=H.mub
 sep a x d m b hb:=H.sep a x d m b (((h.map (·.1)).append_left _).mem_iff.mpr hb)
 big:=H.big
theorem HSt.dropFr{p:FrRec}(H:HSt X μ σ it (p::fr) s)(hk:∀ b o,b≠p.1→s.heap.get? b=some o→s'.heap.get? b=some o)(hg:s'.gens=s.gens:=by rfl)(ho:s'.os=s.os:=by rfl):HSt X μ σ it fr s':=by
 have nd:=H.nd
 rw [List.map_cons] at nd
 have nd':=List.nodup_cons.mp (nodup_mid.mp nd)
 have ln:∀ b∈it.map (·.1)++fr.map (·.1),b≠p.1:=fun b hb e=>nd'.1 (e▸hb)
 have pin:p.1∈it.map (·.1)++(p::fr).map (·.1):=List.mem_append_right _ (by rw [List.map_cons];exact .head _)
 have kb:∀ b o,X.base.get? b=some o→s'.heap.get? b=some o:=fun b o e=>hk b o (by rintro rfl;rw [(H.frs p (.head _)).2] at e;cases e) (H.stays b o e)
 have km:∀ a x d,μ a=some (x,d)→x≠p.1∧d≠p.1:=fun a x d m=>let h:=H.sep a x d m p.1 pin;⟨h.1.symm,h.2.symm⟩
 refine ⟨H.ok,kb,hg.trans H.gens,ho.trans H.os,fun q hq=>⟨hk _ _ (ln _ (List.mem_append_left _ (List.mem_map_of_mem hq))) (H.its q hq).1,(H.its q hq).2⟩,
  fun q hq=>⟨(H.frs q (.tail _ hq)).1.keep fun o=>hk _ o (ln _ (List.mem_append_right _ (List.mem_map_of_mem hq))),(H.frs q (.tail _ hq)).2⟩,nd'.2,fun a o e=>?_,H.mud,H.inj,fun a x d m=>?_,fun a x d m b hb=>H.sep a x d m b (by
   simp only [List.map_cons,List.mem_append,List.mem_cons] at hb ⊢
   rcases hb with h | h <;> simp [h]),H.big⟩
 ·refine c2_2 (H.dom a o e) fun x d m r=>?_
  exact ⟨x,d,m,r.mono (.refl _) (fun o=>hk _ o (km a x d m).1) fun o=>hk _ o (km a x d m).2⟩
 ·obtain ⟨h1,h2,⟨o1,h3⟩,⟨o2,h4⟩⟩:=H.mub a x d m
  exact ⟨h1,h2,⟨o1,hk _ _ (km a x d m).1 h3⟩,⟨o2,hk _ _ (km a x d m).2 h4⟩⟩
theorem HSt.adopt{p:Addr×Obj}{a:MA}{o:MO}(H:HSt X μ σ (p::it) fr s)(ha:σ a=none)(h3:Nat.lt 3 p.1)(r:s.heap.get? p.1=some p.2→ORep X (updμ μ a (p.1,p.1)) o p.1 p.1 s.heap) :
  HSt X (updμ μ a (p.1,p.1)) (upd σ a o) it fr s:=by
 have hμ:μ a=none:=H.mud a ha
 have ex:Ext μ (updμ μ a (p.1,p.1)):=.upd hμ
 have nd:=H.nd
 rw [List.map_cons,List.cons_append] at nd
 have nd':=List.nodup_cons.mp nd
 have ln:∀ b∈it.map (·.1)++fr.map (·.1),b≠p.1:=fun b hb e=>nd'.1 (e▸hb)
 have hp:=H.its p (.head _)
 have km:∀ a x d,μ a=some (x,d)→x≠p.1∧d≠p.1:=fun a x d m=>let h:=H.sep a x d m p.1 (.head _);⟨h.1.symm,h.2.symm⟩
 refine ⟨H.ok,H.stays,H.gens,H.os,fun q hq=>H.its q (.tail _ hq),H.frs,nd'.2,?_,?_,?_,?_,?_,?_⟩
 ·intro b ob hb
  by_cases hba:b=a
  ·subst hba;rw [upd_self] at hb;cases hb;exact ⟨p.1,p.1,updμ_self ..,r hp.1⟩
  ·rw [upd_ne _ _ hba] at hb
   refine c2_2 (H.dom b ob hb) fun y e h1 h2=>?_
   exact ⟨y,e,ex _ _ h1,h2.mono ex (fun _ h=>h) fun _ h=>h⟩
 ·intro b hb
  by_cases hba:b=a
  ·subst hba;rw [upd_self] at hb;cases hb
  ·rw [upd_ne _ _ hba] at hb;rw [updμ_ne _ _ hba];exact H.mud b hb
 ·intro b c y e z f hb hc hne
  by_cases hba:b=a
  ·subst hba
   rw [updμ_self] at hb;cases hb
   rw [updμ_ne _ _ (Ne.symm hne)] at hc
   refine c0_2 (km c z f hc) fun l1 l2=>?_
   exact ⟨l1.symm,l2.symm,l1.symm,l2.symm⟩
  ·rw [updμ_ne _ _ hba] at hb
   by_cases hca:c=a
   ·subst hca
    rw [updμ_self] at hc;cases hc
    refine c0_2 (km b y e hb) fun l1 l2=>?_
    exact ⟨l1,l1,l2,l2⟩
   ·rw [updμ_ne _ _ hca] at hc;exact H.inj b c y e z f hb hc hne
 ·intro b x d hb
  by_cases hba:b=a
  ·subst hba;rw [updμ_self] at hb;cases hb;exact ⟨hp.2,hp.2,⟨_,hp.1⟩,⟨_,hp.1⟩⟩
  ·rw [updμ_ne _ _ hba] at hb;exact H.mub b x d hb
 ·intro b x d hb c hc
  by_cases hba:b=a
  ·subst hba;rw [updμ_self] at hb;cases hb;exact ⟨ln c hc,ln c hc⟩
  ·rw [updμ_ne _ _ hba] at hb;exact H.sep b x d hb c (.tail _ hc)
 ·intro b x d hb
  by_cases hba:b=a
  ·subst hba;rw [updμ_self] at hb;cases hb;exact ⟨h3,h3⟩
  ·rw [updμ_ne _ _ hba] at hb;exact H.big b x d hb
end
section
variable{c:Bool}{prog:Program}{w:World}{M:Model}{A:Around}{E:Value→Shared→Prop}{s:Shared}{env:Env}
noncomputable def cPost(M:Model)(A:Around)(E:Value→Shared→Prop)(use:Option (Value→Sem Unit))(Q:Value→Shared→Prop)(acc:Value)(C:Addr)(r:Result)(s':Shared):Prop :=
 match r,use with
 | .ok _,none=>∃ m,s'.heap.Ns C m∧∀ h',Heap.SameBut C s'.heap h'→Q acc { s' with heap:=h' }
 | .ok _,some u=>wpAny M A (u acc) (fun _ s''=>∃ m,s''.heap.Ns C m∧∀ h',Heap.SameBut C s''.heap h'→Q .none { s'' with heap:=h' }) E s'
 | .error _,_=>False
theorem n_standIf{α:Type}{q:Prop}[Decidable q]{pos:Pos}{k:PUnit→Sem α}{Q:α→Shared→Prop}(h:wpN c M A (k ()) Q E s):wpN c M A (if q then (standAt pos >>= k) else k ()) Q E s:=by
 split
 ·exact n_stand h
 ·exact h
theorem n_comprehension{e:Expr}{scope:Scope}{pos:Pos}{newAcc first:Sem Value}{g:Comprehension}{gs:List Comprehension}{cl:List (Str×Addr)}{use:Option (Value→Sem Unit)}{Q:Value→Shared→Prop}
  (hcl:clausesOf e=g::gs) (hs:∀ x,foldedSetIterable g.iter env x=pure x) (hclos:closureFor scope env=pure cl)
  (hkind:scope.kind=.function) (hnames:∀ x∈scope.names,x.2=.local→scope.names.lookup x.1=some .local)
  (h:wpN c M A first (fun x s₁=>wpAny M A (pyIter x) (fun it s₂=>wpAny M A newAcc (fun acc s₃ =>
   wpAny M A (newFunctionEnv scope env.globals cl [] env.qual none .none (some env)) (fun cenv s₄ =>
    codeN c M A (.compStart e 0 it acc { cenv with scope:=relabel scope env }) (cPost M A E use Q acc cenv.locals) s₄) E s₃) E s₂) E s₁) E s) :
  wpN c M A (comprehension e scope env pos newAcc false first use) Q E s:=by
 unfold comprehension
 rw [hclos,hcl]
 refine n_then h fun x s₁ h₁=>n_stand (n_step (hs x) (n_first (wpAny_holding (wpAny_mono h₁ (fun it s₂ h₂=>n_standIf (n_first (wpAny_mono h₂ (fun acc s₃ h₃=>n_bind (n_pure (n_first (wpAny_mono h₃ (fun cenv s₄ h₄=>?_) fun _ _ h'=>h')))) fun _ _ h'=>h'))) fun _ _ h'=>h'))))
 dsimp only
 have hv:∀ x∈(scope.names.filter fun x=>(x.2==.local || x.2==.cell) && x.1 != (".0":Str)).reverse,x.2=.local →
   Env.kindOf { cenv with scope:=relabel scope env } x.1=some .local:=fun x hx hl=>lookup_relabel_local (hnames x (List.mem_filter.mp (List.mem_reverse.mp hx)).1 hl)
 have hv':∀ x∈(scope.names.filter fun x=>(x.2==.local || x.2==.cell) && x.1 != (".0":Str)).reverse.drop 1++(scope.names.filter fun x=>(x.2==.local || x.2==.cell) && x.1 != (".0":Str)).reverse.take 1,
   x.2=.local→Env.kindOf { cenv with scope:=relabel scope env } x.1=some .local:=fun x hx hl=>by
  rcases List.mem_append.mp hx with h1 | h1
  ·exact hv x (List.mem_of_mem_drop h1) hl
  ·exact hv x (List.mem_of_mem_take h1) hl
 refine n_holding (n_bind (n_attempt (n_holding (n_run (codeN_mono h₄ fun r s' hr=>?_) (by intro z;cases z)))))
 clear h h₁ h₂ h₃ h₄
 cases r with
 | ok f =>
  cases use with
  | none =>
   refine c1_2 hr fun m hn hr=>?_
   exact n_up <| wpAny_bind (wpAny_holding (wpAny_comp_letGo (cenv:={ cenv with scope:=relabel scope env }) hkind _ s' m hv hn fun h' m' _ hs'=>wpAny_pure (hr h' hs')))
  | some u =>
   refine n_up <| wpAny_bind (wpAny_rule (wpAny_bind (wpAny_holding (wpAny_mono hr (fun _ s'' hr'=>?_) fun _ _ h'=>h'))))
   refine c1_2 hr' fun m hn hr'=>?_
   exact wpAny_bind (wpAny_comp_letGo (cenv:={ cenv with scope:=relabel scope env }) hkind _ s'' m hv' hn fun h' m' _ hs'=>wpAny_pure (hr' h' hs'))
 | error x=>exact False.elim (by cases use <;> exact hr)
theorem n_compStart{elt target iter ifs rest scope pos it acc env}{R:Result→Shared→Prop}
  (h0:codeN c (model prog w) A (.compLoop (.ListComp elt (⟨target,iter,ifs,0⟩::rest) scope pos) 0 it acc env) R s)
  (h:wpAny (model prog w) A (pyIter it) (fun it' s'=>codeN c (model prog w) A (.compLoop (.ListComp elt (⟨target,iter,ifs,0⟩::rest) scope pos) 0 it' acc env) R s') (fun _ _=>False) s) :
  codeN c (model prog w) A (.compStart (.ListComp elt (⟨target,iter,ifs,0⟩::rest) scope pos) 0 it acc env) R s:=by
 refine codeN_of_tree rfl ?_
 show wpN _ _ _ ((compStart (.ListComp elt (⟨target,iter,ifs,0⟩::rest) scope pos) 0 it acc env).onRaise (fun x=>do noteFrame x env;standAt theWindowsPlace)) _ _ s
 refine n_onRaise ?_
 unfold compStart
 show wpN _ _ _ (ask >>= _) _ _ s
 refine n_first (wpAny_askSetting ?_)
 dsimp only
 split
 ·first
   | exact n_bind (n_pure (n_pure (And.intro rfl h0)))
   | exact n_pure (And.intro rfl h0)
 ·first
   | exact n_first (wpAny_rule (n_stand (n_first (wpAny_mono h (fun it' s' h'=>n_pure (And.intro rfl h')) fun _ _ x=>x.elim))))
   | (refine n_first (wpAny_rule ?_);show wpN _ _ _ (standAt iter.pos >>= _) _ _ s;exact n_stand (n_first (wpAny_mono h (fun it' s' h'=>n_pure (And.intro rfl h')) fun _ _ x=>x.elim)))
theorem n_compLoop{elt target iter:Expr}{ifs:List Expr}{scope:Scope}{pos:Pos}{it acc:Value}{env:Env}{R:Result→Shared→Prop}(I:Nat→Shared→Prop)
  (turn:∀ n s,I n s→wpAny (model prog w) A (pyNext it) (fun r s₁=>match r with
   | none=>R (.ok .next) s₁
   | some v=>wpAny (model prog w) A (assign target env v) (fun _ s₂ =>
     wpN c (model prog w) A (forIn ifs true fun c r=>if r=true then do let ok ← isTrue c env (eval c env);pure (ForInStep.yield ok) else pure (ForInStep.yield r)) (fun ok s₃ =>
      if ok=true then wpN c (model prog w) A (eval elt env) (fun x s₄ =>
       wpAny (model prog w) A (call (.builtin "list.append") [acc,x]) (fun _ s₅=>∃ m,m<n∧I m s₅) (fun _ _=>False) s₄) (fun _ _=>False) s₃
      else ∃ m,m<n∧I m s₃) (fun _ _=>False) s₂) (fun _ _=>False) s₁) (fun _ _=>False) s)
  (n:Nat) (h:I n s) (ht:∀ v,letOwnedTupleGo target it v=pure ():=by intro _;rfl) :
  codeN c (model prog w) A (.compLoop (.ListComp elt [⟨target,iter,ifs,0⟩] scope pos) 0 it acc env) R s:=by
 refine codeN_loop rfl rfl I (fun n s hI=>?_) n h
 show wpN _ _ A ((compTurn (.ListComp elt [⟨target,iter,ifs,0⟩] scope pos) 0 it acc env).onRaise (fun x=>do noteFrame x env;theTreesLotGoes x)) _ _ s
 refine n_onRaise ?_
 rw [compTurn_list]
 refine n_stand (n_first (wpAny_mono (turn n s hI) (fun r s₁ h₁=>?_) fun _ _ z=>z.elim))
 cases r with
 | none=>exact n_pure h₁
 | some v =>
  refine n_step (ht v) ?_
  refine n_first (wpAny_mono h₁ (fun _ s₂ h₂=>n_bind (n_mono h₂ (fun ok s₃ h₃=>?_) fun _ _ z=>z.elim)) fun _ _ z=>z.elim)
  cases ok with
  | false=>exact n_pure (.inl ⟨rfl,h₃⟩)
  | true =>
   exact n_bind (n_bind (n_mono h₃ (fun x s₄ h₄=>n_first (wpAny_mono h₄ (fun _ s₅ h₅=>n_pure (n_pure (.inl ⟨rfl,h₅⟩))) fun _ _ z=>z.elim)) fun _ _ z=>z.elim))
end
noncomputable def relab(scope S:Scope):Scope :=
 { scope with names:=scope.names.map fun (n,k)=>if (k==.free && S.kind==.function && S.names.lookup n==some .cell) then (n,.cell) else (n,k) }
theorem relabel_eq{scope:Scope}{env:Env}{S:Scope}(h:env.scope=S):relabel scope env=relab scope S:=by
 unfold relabel relab Env.kindOf;rw [h]
structure CompSide(S S':Sc)(scope:Scope)(x:String)(fv:List String):Prop where
 sc:S'.scope=relab scope S.scope
 ok:S'.Ok
 cels:S'.cels=fv
 frees:S'.frees=[]
 free:∀ y∈scope.names,y.2=.free→∃ z∈fv,y.1=Str.ofString z
 fvs:∀ z∈fv,(Str.ofString z,NameKind.free)∈scope.names
 own:∀ y∈fv,y∈S.cels
 plainS:S.plain=true
 plain':S'.plain=false
 ncell:∀ y∈scope.names,y.2≠.cell
 kind:scope.kind=.function
 names:∀ y∈scope.names,y.2=.local→scope.names.lookup y.1=some .local
 lx:scope.names.lookup (Str.ofString x)=some .local
 xl:x∈S'.locs
theorem closure_ok{scope:Scope}{env:Env}(h:∀ y∈scope.names,y.2=.free→∃ a,env.cells.lookup y.1=some a) :
  ∃ cl,closureFor scope env=pure cl∧(∀ n a,cl.lookup n=some a→env.cells.lookup n=some a)∧∀ y∈scope.names,y.2=.free→∃ a,cl.lookup y.1=some a:=by
 have key:∀ (names:List (Str×NameKind)) (cs:List (Str×Addr)),(∀ y∈names,y.2=.free→∃ a,env.cells.lookup y.1=some a)→(∀ n a,cs.lookup n=some a→env.cells.lookup n=some a) →
   ∃ cl,(forIn names cs (fun (x:Str×NameKind) r=>do
    if x.2==.free then let a ← cellOf env x.1;pure (ForInStep.yield ((x.1,a)::r)) else pure (ForInStep.yield r)):Sem (List (Str×Addr)))=pure cl ∧
    (∀ n a,cl.lookup n=some a→env.cells.lookup n=some a)∧(∀ n a,cs.lookup n=some a→∃ a,cl.lookup n=some a)∧∀ y∈names,y.2=.free→∃ a,cl.lookup y.1=some a:=by
  intro names
  induction names with
  | nil=>intro cs _ h2;exact ⟨cs,rfl,h2,fun n a e=>⟨a,e⟩,fun _ h=>nomatch h⟩
  | cons q r ih =>
   intro cs h1 h2
   obtain ⟨n,k⟩:=q
   rw [List.forIn_cons]
   by_cases hk:k=.free
   ·subst hk
    refine c1_1 (h1 (n,.free) (.head _) rfl) fun a ha=>?_
    obtain ⟨cl,e1,e2,e3,e4⟩:=ih ((n,a)::cs) (fun y hy=>h1 y (.tail _ hy)) (fun m b hb=>by
     rw [List.lookup_cons] at hb
     by_cases hmn:(m==n)=true
     ·rw [hmn] at hb;cases hb;rw [eq_of_beq hmn];exact ha
     ·rw [Bool.eq_false_iff.mpr hmn] at hb;exact h2 m b hb)
    refine ⟨cl,?_,e2,fun m b hb=>?_,fun y hy hf=>?_⟩
    ·have ec:cellOf env n=pure a:=by unfold cellOf;rw [show env.cells.lookup n=some a from ha]
     simp only [ec]
     exact e1
    ·by_cases hmn:(m==n)=true
     ·exact e3 m a (by rw [List.lookup_cons,hmn])
     ·exact e3 m b (by rw [List.lookup_cons,Bool.eq_false_iff.mpr hmn];exact hb)
    ·rcases List.mem_cons.mp hy with rfl | hy
     ·exact e3 n a (by simp [List.lookup_cons])
     ·exact e4 y hy hf
   ·refine c1_4 (ih cs (fun y hy=>h1 y (.tail _ hy)) h2) fun cl e1 e2 e3 e4=>?_
    refine ⟨cl,?_,e2,e3,fun y hy hf=>?_⟩
    ·have:(k==NameKind.free)=false:=by simpa using hk
     simp only [this]
     exact e1
    ·rcases List.mem_cons.mp hy with rfl | hy
     ·exact absurd hf hk
     ·exact e4 y hy hf
 refine c1_4 (key scope.names [] h (fun n a e=>by cases e)) fun cl e1 e2 _ e4=>?_
 refine ⟨cl,?_,e2,e4⟩
 rw [← e1]
 unfold closureFor
 simp only [bind_pure]
section
variable{X:Cx}{G:Gm}{σ:Hp}{ρ:Loc}{E:Addr→Hp→Loc→Prop}
noncomputable abbrev EvIfs(X:Cx)(G:Gm)(ifs:List Expr):=J X G BR (fun env=>(forIn ifs true fun c r=>if r=true then do let ok ← isTrue c env (eval c env);pure (ForInStep.yield ok) else pure (ForInStep.yield r):Sem Bool))
theorem EvIfs.nil{Q:Bool→Hp→Loc→Prop}(h:Q true σ ρ):EvIfs X G [] σ ρ Q E:=fun A env frs μ it fr s he ha hs=>n_pure ⟨μ,true,σ,ρ,.refl _,rfl,hs,h⟩
theorem EvIfs.one{t:Expr}{Q:Bool→Hp→Loc→Prop}(h:EvT X G t σ ρ Q E):EvIfs X G [t] σ ρ Q E:=fun A env frs μ it fr s he ha hs=>by
 show wpN _ _ _ (forIn [t] true _) _ _ _
 simp only [List.forIn_cons,List.forIn_nil,if_true]
 exact n_bind (n_bind (n_mono (h A env frs μ it fr s he ha hs) (fun b s' hb=>n_pure (n_pure hb)) fun _ _ x=>x))
end
section
variable{X:Cx}{G:Gm}{σ:Hp}{ρ:Loc}{E:Addr→Hp→Loc→Prop}{μ:Mu}{env:Env}{it:List (Addr×Obj)}{fr:List FrRec}{s s':Shared}
theorem iter_self{k:ItK}{i:Nat}{I:Addr}{o:Obj}{A:Around}{Qv:Value→Shared→Prop}{Ev:Value→Shared→Prop}(hp:ItP k μ i o)(hI:s.heap.get? I=some o)(h:Qv (.ref I) s):wpAny (model prog X.w) A (pyIter (.ref I)) Qv Ev s:=by
 cases k with
 | list a=>refine c2_3 hp fun x d m h1 h2=>?_;exact wpAny_pyIter_listiter (l:=x) (i:=i) ⟨o,hI,h1,h2⟩ h
 | tup a=>refine c2_3 hp fun x d m h1 h2=>?_;exact wpAny_pyIter_tupleiter (t:=x) (i:=i) ⟨o,hI,h1,h2⟩ h
 | rng n=>rcases hp with ⟨rfl,_⟩;exact wpAny_pyIter_rangeiter hI h
@[reducible] def kPush(Inv:Nat→List MV→Hp→Prop)(i:Nat)(ys:List MV)(u:MV)(σ:Hp)(_:Loc):Prop:=Inv (i+1) (ys++[u]) σ
@[reducible] def kComp(X:Cx)(G:Gm)(elt:Expr)(Inv:Nat→List MV→Hp→Prop)(i:Nat)(ys:List MV)(b:Bool)(σ:Hp)(ρ:Loc):Prop:=(b=true→EvE X G elt σ ρ (kPush Inv i ys) noE)∧(b=false→Inv (i+1) ys σ)
structure CTurn(X:Cx)(G:Gm)(S':Sc)(fv:List String)(x:String)(elt:Expr)(ifs:List Expr)(k:ItK)(vs:List MV)(σ:Hp)(ρ ρc:Loc)(Inv:Nat→List MV→Hp→Prop):Prop where
 reads:∀ y v,lget y ρc=some v→y∈fv∧lget y ρ=some v
 start:Inv 0 [] σ
 src:∀ i ys σ,Inv i ys σ→ItV k σ vs∧ys.length≤1000
 turn:∀ i ys σ v,Inv i ys σ→vs[i]?=some v→EvIfs X ⟨G.n,G.b,S',G.c⟩ ifs σ (lset x v ρc) (kComp X ⟨G.n,G.b,S',G.c⟩ elt Inv i ys) noE
inductive CompI(X:Cx)(k:ItK)(vs:List MV)(μ₁:Mu)(Inv:Nat→List MV→Hp→Prop)(I D C:Addr)(r:List (Addr×Obj))(fr:List FrRec)(n:Nat)(s:Shared):Prop
 | mk (i:Nat) (ys:List MV) (μ':Mu) (σ':Hp) (o':Obj) (Vs:List Value) (n':Nat) (esC:Array DictEntry) (epC:Nat) (hin:i+n=vs.length) (ex:Ext μ₁ μ') (hp:ItP k μ' i o') (hV:VRs μ' ys Vs) (kC:StrKeys esC)
  (H:HSt X μ' σ' ((I,o')::(D,listO Vs n')::r) ((C,esC,epC)::fr) s) (hinv:Inv i ys σ')
theorem comp_block{S':Sc}{scope:Scope}{x:String}{fv:List String}{elt iter:Expr}{ifs:List Expr}{px pos:Pos}{cl:List (Str×Addr)}{k:ItK}{vs:List MV}{σ₁:Hp}{ρ₁ ρc:Loc}{Inv:Nat→List MV→Hp→Prop}{A:Around}{frs:List Env}{I:Addr}{o:Obj}{μ₁:Mu}
  {es:Array DictEntry} {ep:Nat} {own:List (Addr×Obj)} {RR:Value→Addr→Result→Shared→Prop} {Ev:Value→Shared→Prop}
  (CS:CompSide G.S S' scope x fv) (T:CTurn X G S' fv x elt ifs k vs σ₁ ρ₁ ρc Inv) (hG:G.b=true) (he:EnvOk G env frs) (ha:AOk G.n G.b A frs (env.locals::fr.map (·.1)))
  (hcl1:∀ n a,cl.lookup n=some a→env.cells.lookup n=some a) (hcl2:∀ y∈scope.names,y.2=.free→∃ a,cl.lookup y.1=some a)
  (hp:ItP k μ₁ 0 o) (H:HSt X μ₁ σ₁ ((I,o)::(own++it)) ((env.locals,es,ep)::fr) s) (rd:Reads μ₁ env ρ₁ es (own++it))
  (hRR:∀ D C Vs n ys μ' σ' esC epC s'',Nat.lt 3 D→Ext μ₁ μ'→VRs μ' ys Vs→StrKeys esC→HSt X μ' σ' ((D,listO Vs n)::(own++it)) ((C,esC,epC)::(env.locals,es,ep)::fr) s''→Inv vs.length ys σ'→RR (.ref D) C (.ok .next) s'') :
  wpAny (model prog X.w) A (newList []) (fun acc s₃=>wpAny (model prog X.w) A (newFunctionEnv scope env.globals cl [] env.qual none .none (some env)) (fun cenv s₄ =>
   codeN G.c (model prog X.w) A (.compStart (.ListComp elt [⟨.Name (Str.ofString x) px,iter,ifs,0⟩] scope pos) 0 (.ref I) acc { cenv with scope:=relabel scope env }) (RR acc cenv.locals) s₄) Ev s₃) Ev s:=by
 refine wpAny_newObj_type (wpAny_newFunctionEnv CS.ncell (by intro y hy;simp at hy) (fun h₁ hns₁ hsb₁=>?_) CS.kind)
 dsimp only at hns₁ hsb₁ ⊢
 generalize hH2:s.heap.push { cls:=.type "list",dict:=none,data:=.seq ([]:List Value).toArray }=H2 at hns₁ hsb₁ ⊢
 have hC:H2.objs.size=s.heap.objs.size+1:=by rw [← hH2,Heap.size_push]
 have k2:∀ b o,s.heap.get? b=some o→H2.get? b=some o:=fun b o e=>hH2▸Heap.get?_push_of_some _ e
 have k1:∀ b o,H2.get? b=some o→h₁.get? b=some o:=fun b o e=>hsb₁.extBut b o (Nat.ne_of_lt (Heap.lt_size e)) (Heap.get?_push_of_some _ e)
 have hD2:H2.get? s.heap.objs.size=some (listO [] 0):=hH2▸Heap.get?_push_size _ rfl
 have HA:HSt X μ₁ σ₁ ((s.heap.objs.size,listO [] 0)::(I,o)::(own++it)) ((env.locals,es,ep)::fr) { s with heap:=H2 } :=
  H.item (s':={ s with heap:=H2 }) k2 rfl rfl (Nat.le_refl _) hD2
 refine c3_4 hns₁ fun oC esC epC gC dC kC _=>?_
 have h3:Nat.lt 3 s.heap.objs.size:=H.three
 generalize hD:s.heap.objs.size=D at HA h3 hD2 ⊢
 generalize hCC:H2.objs.size=C at gC ⊢
 have HB:HSt X μ₁ σ₁ ((D,listO [] 0)::(I,o)::(own++it)) ((C,esC,epC)::(env.locals,es,ep)::fr) { s with heap:=h₁,toks:=s.toks+([]:List (Str×Value)).length } :=
  HA.frame (p:=(C,esC,epC)) (s':={ s with heap:=h₁,toks:=s.toks+([]:List (Str×Value)).length }) k1 rfl rfl (by rw [← hCC];exact Nat.le_refl _) ⟨oC,gC,dC⟩
 generalize hs4:({ s with heap:=h₁,toks:=s.toks+([]:List (Str×Value)).length }:Shared)=s₄ at HB ⊢
 show codeN _ _ _ (.compStart _ 0 (.ref I) (.ref D) (compEnvC scope cl C env)) _ _
 have ehere:=he.here CS.plainS
 have e1:(compEnvC scope cl C env).scope=S'.scope:=by show relabel scope env=_;rw [relabel_eq he.sc,CS.sc]
 have hkC:∀ y,(compEnvC scope cl C env).kindOf y=S'.scope.names.lookup y:=fun y=>by unfold Env.kindOf;rw [e1]
 have heC:EnvOk ⟨G.n,G.b,S',G.c⟩ (compEnvC scope cl C env) frs:=by
  refine ⟨e1,he.glob,he.blt,CS.ok,fun z=>?_,fun y hy=>?_⟩
  ·rw [CS.plain'] at z;cases z
  ·have hy':y∈fv:=CS.cels▸hy
   exact hcl2 _ (CS.fvs y hy') rfl
 have haC:AOk G.n G.b A frs ((compEnvC scope cl C env).locals::((env.locals,es,ep)::fr:List FrRec).map (·.1)) :=
  ⟨ha.frames,fun e hm=>let ⟨a,L,b,c⟩:=ha.out e hm;⟨a,L,.tail _ b,c⟩,ha.depth,ha.units,ha.han⟩
 have hneC:env.locals≠C:=by
  have nd:=HB.nd
  simp only [List.map_cons] at nd
  have:=(List.nodup_append.mp nd).2.1
  exact fun e=>(List.nodup_cons.mp this).1 (e▸.head _)
 have hoC:∀ own',OwnOk (compEnvC scope cl C env) own'→own'=[]:=fun own' h=>by
  have h1:=h.1
  unfold ownAddrs at h1
  rw [if_neg (by show ¬ env.frame=some C;rw [ehere.1];exact fun z=>hneC (Option.some.inj z))] at h1
  exact List.map_eq_nil_iff.mp h1
 have okC:OwnOk (compEnvC scope cl C env) []:=⟨by
  unfold ownAddrs
  rw [if_neg (by show ¬ env.frame=some C;rw [ehere.1];exact fun z=>hneC (Option.some.inj z))];rfl,fun _ h=>nomatch h⟩
 have rdC:∀ μ' esC o' Vs n,Ext μ₁ μ'→Reads μ' (compEnvC scope cl C env) ρc esC ([]++((I,o')::(D,listO Vs n)::(own++it))):=fun μ' esC o' Vs n ex y v hy=>by
  refine c0_2 (T.reads y v hy) fun hyf hv=>?_
  have hkind:(compEnvC scope cl C env).kindOf (Str.ofString y)=some .cell:=by rw [hkC];exact CS.ok.cels y (CS.cels▸hyf)
  have hkE:env.kindOf (Str.ofString y)=some .cell:=by rw [kindOf_eq he];exact he.ok.cels y (CS.own y hyf)
  rcases rd y v hv with ⟨q,_⟩ | ⟨_,a,ob,V,h1,h2,h3,h4⟩
  ·rw [hkE] at q;cases q
  ·refine c1_1 (hcl2 _ (CS.fvs y hyf) rfl) fun a' ha'=>?_
   have:=hcl1 _ _ ha'
   rw [h1] at this;cases this
   exact .cel (.inl hkind) a ob V ha' (.tail _ (.tail _ h2)) h3 (h4.mono ex)
 have loop:codeN G.c (model prog X.w) A (.compLoop (.ListComp elt [⟨.Name (Str.ofString x) px,iter,ifs,0⟩] scope pos) 0 (.ref I) (.ref D) (compEnvC scope cl C env)) (RR (.ref D) C) s₄:=by
  refine n_compLoop (CompI X k vs μ₁ Inv I D C (own++it) ((env.locals,es,ep)::fr))
   ?_ vs.length ⟨0,[],μ₁,σ₁,o,[],0,esC,epC,Nat.zero_add _,.refl _,hp,trivial,kC,HB.permIt (.swap ..),T.start⟩
  rintro n s₅ ⟨i,ys,μ',σ',o',Vs,n',esC,epC,hin,ex,hp',hV,kC,H',hinv⟩
  refine c0_2 (T.src _ _ _ hinv) fun hsrc hlen=>?_
  have F':FSt X μ' σ' (compEnvC scope cl C env) ρc ((I,o')::(D,listO Vs n')::(own++it)) ((env.locals,es,ep)::fr) s₅:=⟨esC,epC,[],H',kC,rdC μ' esC o' Vs n' ex,okC⟩
  refine iter_next (ha.han hG) F' hp' hsrc ?_ ?_
  ·intro v V o'' s₆ hv hVR hp'' F''
   have hlt:i<vs.length:=(List.getElem?_eq_some_iff.mp hv).1
   refine n_assignName heC F'' (by unfold StOk;simp [CS.xl]) hVR fun s₇ F₇=>?_
   refine n_mono (T.turn i ys σ' v hinv hv A _ frs μ' _ _ s₇ heC haC F₇) ?_ ?_
   ·rintro ok s₈ ⟨μ₈,b,σ₈,ρ₈,e₈,r₈,F₈,h1,h2⟩
    cases r₈
    cases ok with
    | true =>
     rw [if_pos rfl]
     refine n_mono (h1 rfl A _ frs μ₈ _ _ s₈ heC haC F₈) ?_ ?_
     ·rintro U s₉ ⟨μ₉,u,σ₉,ρ₉,e₉,r₉,⟨es9,ep9,own9,H9,k9,_,o9⟩,hq⟩
      obtain rfl:=hoC _ o9
      have H9':HSt X μ₉ σ₉ ((I,o'')::(D,listO Vs n')::(own++it)) ((C,es9,ep9)::(env.locals,es,ep)::fr) s₉:=H9
      have eV:VRs μ₉ ys Vs:=hV.mono (e₈.trans e₉)
      refine append_at (n:=n') (its:=Vs.toArray) (H9'.its (D,listO Vs n') (.tail _ (.head _))).1 (fun h' hsb hnew=>?_) (by rw [List.size_toArray,eV.length];exact line1000 hlen)
      refine ⟨n - 1,by lia,i+1,ys++[u],μ₉,σ₉,o'',Vs++[U],n' + 1,es9,ep9,by lia,ex.trans (e₈.trans e₉),(hp''.mono e₈).mono e₉,eV.append ⟨r₉,trivial⟩,k9,?_,hq⟩
      refine HSt.permIt (it:=(D,listO (Vs++[U]) (n' + 1))::(I,o'')::(own++it)) ?_ (.swap ..)
      refine (H9'.permIt (it':=(D,listO Vs n')::(I,o'')::(own++it)) (.swap ..)).reitem (s':={ s₉ with heap:=h' }) rfl (fun b o nb e=>(hsb.2 b nb).trans e) rfl rfl ?_
      rw [hnew];simp
     ·rintro ev s₉ ⟨_,_,_,_,_,_,z⟩;exact z.elim
    | false =>
     rw [if_neg (by simp)]
     obtain ⟨es8,ep8,own8,H8,k8,_,o8⟩:=F₈
     obtain rfl:=hoC _ o8
     exact ⟨n - 1,by lia,i+1,ys,μ₈,σ₈,o'',Vs,n',es8,ep8,by lia,ex.trans e₈,hp''.mono e₈,hV.mono e₈,k8,H8,h2 rfl⟩
   ·rintro ev s₈ ⟨_,_,_,_,_,_,z⟩;exact z.elim
  ·intro s₆ hv F₆
   have hle:vs.length≤i:=List.getElem?_eq_none_iff.mp hv
   have:i=vs.length:=by lia
   subst this
   obtain ⟨es6,ep6,own6,H6,k6,_,o6⟩:=F₆
   obtain rfl:=hoC _ o6
   exact hRR D C Vs n' ys μ' σ' es6 ep6 s₆ h3 ex hV k6 H6 hinv
 exact n_compStart loop (iter_self hp (HB.its (I,o) (.tail _ (.head _))).1 loop)
end
section
variable{X:Cx}{G:Gm}{σ:Hp}{ρ:Loc}{Q:MV→Hp→Loc→Prop}{R:MF→Hp→Loc→Prop}{E:Addr→Hp→Loc→Prop}{μ:Mu}{env:Env}{it:List (Addr×Obj)}{fr:List FrRec}{s s':Shared}
theorem FSt.pull{p:Addr×Obj}(F:FSt X μ σ env ρ (p::it) fr s)(hn:∀ u,p.2.data≠.cell u) :
  ∃ es ep own,HSt X μ σ (p::(own++it)) ((env.locals,es,ep)::fr) s∧StrKeys es∧Reads μ env ρ es (own++it)∧OwnOk env own:=by
 obtain ⟨es,ep,own,H,k,r,o⟩:=F
 refine ⟨es,ep,own,H.permIt List.perm_middle,k,fun x v hx=>?_,o⟩
 exact (r x v hx).shift fun a ob u hd h2=>by
  rcases List.mem_append.mp h2 with h2 | h2
  ·exact List.mem_append_left _ h2
  ·rcases List.mem_cons.mp h2 with rfl | h2
   ·exact absurd hd (hn u)
   ·exact List.mem_append_right _ h2
theorem comp_cl{S':Sc}{scope:Scope}{x:String}{fv:List String}{frs:List Env}(CS:CompSide G.S S' scope x fv)(he:EnvOk G env frs) :
  ∃ cl,closureFor scope env=pure cl∧(∀ n a,cl.lookup n=some a→env.cells.lookup n=some a)∧∀ y∈scope.names,y.2=.free→∃ a,cl.lookup y.1=some a :=
 closure_ok fun y hy hf=>by
  refine c1_2 (CS.free y hy hf) fun z hz e=>?_
  rw [e];exact he.cel z (CS.own z hz)
inductive CompP(X:Cx)(G:Gm)(S':Sc)(fv:List String)(x:String)(elt:Expr)(ifs:List Expr)(Q:MV→Hp→Loc→Prop)(ov:MV)(σ:Hp)(ρ:Loc):Prop
 | mk (k:ItK) (vs:List MV) (ρc:Loc) (Inv:Nat→List MV→Hp→Prop) (hO:ItO k σ ov) (T:CTurn X G S' fv x elt ifs k vs σ ρ ρc Inv) (he:∀ ys σ',Inv vs.length ys σ'→∃ a,σ' a=none∧Q (.ref a) (upd σ' a (.list ys)) ρ)
theorem EvE.comp{S':Sc}{scope:Scope}{x:String}{fv:List String}{elt iter:Expr}{ifs:List Expr}{px pos:Pos}(hG:G.b=true)(CS:CompSide G.S S' scope x fv)
  (h:EvE X G iter σ ρ (CompP X G S' fv x elt ifs Q) E)
  (hs:∀ env x,foldedSetIterable iter env x=pure x:=by intro _ _;rfl):EvE X G (.ListComp elt [⟨.Name (Str.ofString x) px,iter,ifs,0⟩] scope pos) σ ρ Q E:=fun A env frs μ it fr s he ha hs'=>by
 refine c1_3 (comp_cl CS he) fun cl hc1 hc2 hc3=>?_
 show wpN _ _ _ (eval (.ListComp elt [⟨.Name (Str.ofString x) px,iter,ifs,0⟩] scope pos) env) _ _ _
 rw [eval_ListComp]
 refine n_comprehension (use:=none) rfl (hs env) hc1 CS.kind CS.names (n_mono (h A env frs μ it fr s he ha hs') ?_ fun _ _ x=>x)
 rintro V s₁ ⟨μ₁,ov,σ₁,ρ₁,e₁,r₁,F₁,k,vs,ρc,Inv,hO,T,hfin⟩
 refine iter_start F₁ hO (T.src 0 [] _ T.start).1 r₁ fun I o s₂ hp F₂=>?_
 refine c3_4 (F₂.pull hp.noCell) fun es ep own H kk rd ow=>?_
 refine comp_block (RR:=fun acc C r s'=>cPost (model prog X.w) A (EPost X μ env it fr frs E) none (GPost X μ env it fr VR Q) acc C r s') CS T hG he ha hc2 hc3 hp H rd ?_
 intro D C Vs n ys μ' σ' esC epC s'' h3 ex hV kC H' hinv
 refine c1_2 ((H'.frs _ (.head _)).1) fun oC gC dC=>?_
 refine ⟨fun name=>nsFind esC name,⟨oC,esC,epC,gC,dC,kC,fun _=>rfl⟩,fun h' hsb=>?_⟩
 have H2:=H'.dropFr (s':={ s'' with heap:=h' }) (fun b o nb e=>(hsb.2 b nb).trans e)
 refine c1_2 (hfin ys σ' hinv) fun a hna hq=>?_
 have H3:=H2.adopt (a:=a) (o:=.list ys) hna h3 fun g=>⟨Vs,n,g,hV.mono (.upd (H2.mud a hna))⟩
 have ex':Ext μ' (updμ μ' a (D,D)):=.upd (H2.mud a hna)
 exact ⟨updμ μ' a (D,D),.ref a,upd σ' a (.list ys),ρ₁,e₁.trans (ex.trans ex'),⟨D,D,updμ_self ..,rfl⟩,⟨es,ep,own,H3,kk,rd.mono (ex.trans ex'),ow⟩,hq⟩
theorem ExS.assignComp{S':Sc}{scope:Scope}{x y:String}{fv:List String}{elt iter:Expr}{ifs:List Expr}{px py pos spos:Pos}(hG:G.b=true)(CS:CompSide G.S S' scope x fv)(hy:y∈G.S.locs)
  (h:EvE X G iter σ ρ (CompP X G S' fv x elt ifs (kAssign y R)) E)
  (hl:(py.line==pos.line)=true:=by rfl) (hny:(scope.names.any fun (n,k)=>n==(Str.ofString y) && (k==.local || k==.cell))=false:=by decide +kernel)
  (hs:∀ env x,foldedSetIterable iter env x=pure x:=by intro _ _;rfl):ExS X G (.Assign [.Name (Str.ofString y) py] (.ListComp elt [⟨.Name (Str.ofString x) px,iter,ifs,0⟩] scope pos) spos) σ ρ R E:=fun A env frs μ it fr s he ha hs'=>by
 refine c1_3 (comp_cl CS he) fun cl hc1 hc2 hc3=>?_
 show wpN _ _ _ (exec (.Assign [.Name (Str.ofString y) py] (.ListComp elt [⟨.Name (Str.ofString x) px,iter,ifs,0⟩] scope pos) spos) env) _ _ _
 have hk:env.kindOf (Str.ofString y)=some .local:=by rw [kindOf_eq he];exact he.ok.locs y hy
 have hbk:env.blockKind=.function:=by unfold Env.blockKind;rw [fn_of he];rfl
 rw [exec_Assign_Name_used _ _ _ _ (by
  show (pure (env.blockKind==.function && env.kindOf (Str.ofString y)==some .local && py.line==pos.line && !(scope.names.any fun (n,k)=>n==(Str.ofString y) && (k==.local || k==.cell))):Sem Bool)=pure true
  rw [hbk,hk,hl,hny];rfl)]
 refine n_stand (n_bind ?_)
 show wpN _ _ A (do let _ ← comprehension (.ListComp elt [⟨.Name (Str.ofString x) px,iter,ifs,0⟩] scope pos) scope env _ (newList []) false (eval iter env) (some (PySem.assign (.Name (Str.ofString y) py) env))) _ _ s
 refine n_bind (n_mono (n_comprehension (use:=some (PySem.assign (.Name (Str.ofString y) py) env)) (Q:=fun _ s'=>GPost X μ env it fr FlR R .next s') rfl (hs env) hc1 CS.kind CS.names (n_mono (h A env frs μ it fr s he ha hs') ?_ fun _ _ x=>x)) (fun _ s' hq=>n_pure (n_pure hq)) fun _ _ x=>x)
 rintro V s₁ ⟨μ₁,ov,σ₁,ρ₁,e₁,r₁,F₁,k,vs,ρc,Inv,hO,T,hfin⟩
 refine iter_start F₁ hO (T.src 0 [] _ T.start).1 r₁ fun I o s₂ hp F₂=>?_
 refine c3_4 (F₂.pull hp.noCell) fun es ep own H kk rd ow=>?_
 refine comp_block (RR:=fun acc C r s'=>cPost (model prog X.w) A (EPost X μ env it fr frs E) (some (PySem.assign (.Name (Str.ofString y) py) env)) (fun _ s'=>GPost X μ env it fr FlR R .next s') acc C r s') CS T hG he ha hc2 hc3 hp H rd ?_
 intro D C Vs n ys μ' σ' esC epC s'' h3 ex hV kC H' hinv
 refine c1_2 (hfin ys σ' hinv) fun a hna hq=>?_
 have H3:=H'.adopt (a:=a) (o:=.list ys) hna h3 fun g=>⟨Vs,n,g,hV.mono (.upd (H'.mud a hna))⟩
 have ex':Ext μ' (updμ μ' a (D,D)):=.upd (H'.mud a hna)
 have F3:FSt X (updμ μ' a (D,D)) (upd σ' a (.list ys)) env ρ₁ it ((C,esC,epC)::fr) s'':=⟨es,ep,own,H3.permFr (.swap ..),kk,rd.mono (ex.trans ex'),ow⟩
 show wpAny _ A (PySem.assign (.Name (Str.ofString y) py) env (.ref D)) _ _ _
 refine n_assignName (v:=.ref a) he F3 (by unfold StOk;simp [hy]) ⟨D,D,updμ_self ..,rfl⟩ fun s₄ F4=>?_
 obtain ⟨es4,ep4,own4,H4,k4,rd4,ow4⟩:=F4
 have H4':=H4.permFr (.swap ..)
 refine c1_2 ((H4'.frs _ (.head _)).1) fun oC gC dC=>?_
 refine ⟨fun name=>nsFind esC name,⟨oC,esC,epC,gC,dC,kC,fun _=>rfl⟩,fun h' hsb=>?_⟩
 have H5:=H4'.dropFr (s':={ s₄ with heap:=h' }) (fun b o nb e=>(hsb.2 b nb).trans e)
 exact ⟨updμ μ' a (D,D),.next,upd σ' a (.list ys),_,e₁.trans (ex.trans ex'),rfl,⟨es4,ep4,own4,H5,k4,rd4,ow4⟩,hq⟩
end
noncomputable def Sup(σ:Hp):Prop:=∃ N,∀ k,N≤k→σ (.x k)=none∧∀ p,σ (.d k p)=none
noncomputable def Held(σ:Hp)(a:MA):Prop:=σ a≠none∨match a with
 | .l _=>True
 | .d i _=>σ (.d i .disk)≠none
 | .x _=>False
structure Kp(P:MA→Prop)(σ σ':Hp):Prop where
 keep:∀ a,¬ P a→Held σ a→σ' a=σ a
 dom:∀ a,σ a≠none→σ' a≠none
 sup:Sup σ→Sup σ'
theorem Kp.held{P:MA→Prop}{σ σ':Hp}(h:Kp P σ σ'){a:MA}(ha:Held σ a):Held σ' a:=by
 rcases ha with ha | ha
 ·exact .inl (h.dom a ha)
 ·cases a with
  | l k=>exact .inr trivial
  | d i p=>exact .inr (h.dom _ ha)
  | x k=>exact ha.elim
theorem Kp.refl(P:MA→Prop)(σ:Hp):Kp P σ σ:=⟨fun _ _ _=>rfl,fun _ h=>h,id⟩
theorem Kp.trans{P:MA→Prop}{σ σ' σ'':Hp}(h:Kp P σ σ')(h':Kp P σ' σ''):Kp P σ σ'' :=
 ⟨fun a ha hn=>by rw [h'.keep a ha (h.held hn),h.keep a ha hn],fun a hn=>h'.dom a (h.dom a hn),fun s=>h'.sup (h.sup s)⟩
theorem Kp.mono{P P':MA→Prop}{σ σ':Hp}(h:Kp P σ σ')(hp:∀ a,P a→P' a):Kp P' σ σ' :=
 ⟨fun a ha hn=>h.keep a (fun z=>ha (hp a z)) hn,h.dom,h.sup⟩
theorem Kp.at{P:MA→Prop}{σ σ':Hp}(h:Kp P σ σ'){a:MA}{o:MO}(e:σ a=some o)(ha:¬ P a):σ' a=some o:=by rw [h.keep a ha (.inl (by rw [e];exact fun z=>nomatch z)),e]
theorem Kp.fresh{P:MA→Prop}{σ σ':Hp}{j:Nat}(h:Kp (fun a=>P a∨∃ p,a=.d j p) σ σ')(hj:∀ p,σ (.d j p)=none):Kp P σ σ' :=
 ⟨fun a ha hn=>by
  by_cases e:∃ p,a=.d j p
  ·rcases e with ⟨p,rfl⟩
   rcases hn with hn | hn
   ·exact absurd (hj p) hn
   ·exact absurd (hj .disk) hn
  ·exact h.keep a (by rintro (z | z);exact ha z;exact e z) hn,h.dom,h.sup⟩
theorem Sup.upd{σ:Hp}(h:Sup σ)(a:MA)(o:MO):Sup (upd σ a o):=by
 refine c1_1 h fun N h=>?_
 cases a with
 | d i p=>exact ⟨max N (i+1),fun k hk=>⟨by rw [upd_ne _ _ (by simp)];exact (h k (by lia)).1,fun q=>by rw [upd_ne _ _ (by intro z;cases z;lia)];exact (h k (by lia)).2 q⟩⟩
 | x j=>exact ⟨max N (j+1),fun k hk=>⟨by rw [upd_ne _ _ (by intro z;cases z;lia)];exact (h k (by lia)).1,fun q=>by rw [upd_ne _ _ (by simp)];exact (h k (by lia)).2 q⟩⟩
 | l j=>exact ⟨N,fun k hk=>⟨by rw [upd_ne _ _ (by simp)];exact (h k (by lia)).1,fun q=>by rw [upd_ne _ _ (by simp)];exact (h k (by lia)).2 q⟩⟩
theorem Kp.upd{P:MA→Prop}{σ:Hp}{a:MA}{o:MO}(h:P a):Kp P σ (upd σ a o) :=
 ⟨fun b hb _=>upd_ne _ _ (by rintro rfl;exact hb h),fun b hb=>by
  by_cases e:b=a
  ·subst e;rw [upd_self];exact fun z=>nomatch z
  ·rw [upd_ne _ _ e];exact hb,fun s=>s.upd a o⟩
theorem Kp.new{P:MA→Prop}{σ:Hp}{a:MA}{o:MO}(h:¬ Held σ a):Kp P σ (RK.upd σ a o) :=
 ⟨fun b hb hn=>upd_ne _ _ (by rintro rfl;exact h hn),fun b hb=>by
  by_cases e:b=a
  ·subst e;rw [upd_self];exact fun z=>nomatch z
  ·rw [upd_ne _ _ e];exact hb,fun s=>s.upd a o⟩
theorem free_x{σ:Hp}{k:Nat}(h:σ (.x k)=none):¬ Held σ (.x k):=by rintro (z | z);exact z h;exact z
theorem Kp.then_upd{P:MA→Prop}{σ σ':Hp}{a:MA}{o:MO}(h:Kp P σ σ')(ha:P a):Kp P σ (RK.upd σ' a o):=h.trans (.upd ha)
theorem Kp.then_x{P:MA→Prop}{σ σ':Hp}{k:Nat}{o:MO}(h:Kp P σ σ')(ha:σ' (.x k)=none):Kp P σ (RK.upd σ' (.x k) o):=h.trans (.new (free_x ha))
theorem Kp.forget_x{P:MA→Prop}{σ σ':Hp}{m:Nat}(h:Kp (fun a=>P a∨a=.x m) σ σ')(hm:σ (.x m)=none):Kp P σ σ' :=
 ⟨fun a ha hh=>h.keep a (by rintro (z | rfl);exact ha z;exact free_x hm hh) hh,h.dom,h.sup⟩
theorem Kp.none_of{P:MA→Prop}{σ σ':Hp}(h:Kp P σ σ'){a:MA}(e:σ' a=none):σ a=none:=by
 cases q:σ a with
 | none=>rfl
 | some o=>exact absurd e (h.dom _ (by rw [q];exact fun z=>nomatch z))
theorem Sup.x{σ:Hp}(h:Sup σ):∃ k,σ (.x k)=none:=let ⟨N,h⟩:=h;⟨N,(h N (Nat.le_refl _)).1⟩
theorem Sup.d{σ:Hp}(h:Sup σ):∃ i,∀ p,σ (.d i p)=none:=let ⟨N,h⟩:=h;⟨N,(h N (Nat.le_refl _)).2⟩
theorem upd_at{σ:Hp}{a b:MA}{o:MO}{r:Option MO}(h:b≠a)(e:σ b=r):upd σ a o b=r:=(upd_ne _ _ h).trans e
theorem upd_upd(σ:Hp)(a:MA)(o o':MO):upd (upd σ a o) a o'=upd σ a o':=funext fun b=>by
 by_cases h:b=a
 ·subst h;rw [upd_self,upd_self]
 ·rw [upd_ne _ _ h,upd_ne _ _ h,upd_ne _ _ h]
theorem ne_fresh{σ:Hp}{a b:MA}{o:MO}(h:σ b=some o)(h':σ a=none):b≠a:=by rintro rfl;rw [h] at h';cases h'
noncomputable def DA.tag:DA→Nat
 | .disk=>0 | .nm _=>1 | .kn _=>2 | .pr _=>3 | .jr _=>4 | .node _=>5 | .nbuf _=>6 | .file _=>7
noncomputable def MA.k1:MA→Nat
 | .d _ _=>0 | .x _=>1 | .l _=>2
noncomputable def MA.k2:MA→Nat
 | .d _ a=>a.tag | .x _=>0 | .l k=>k
noncomputable def MA.dif(a b:MA):Bool:=!(Nat.beq a.k1 b.k1) || !(Nat.beq a.k2 b.k2)
theorem ne_dif{a b:MA}(h:a.dif b=true):a≠b:=fun z=>by
 unfold MA.dif at h;rw [z,Nat.beq_refl,Nat.beq_refl] at h;cases h
theorem udf{σ:Hp}{a b:MA}{o:MO}{r:Option MO}(h:b.dif a=true)(e:σ b=r):upd σ a o b=r:=upd_at (ne_dif h) e
theorem dif_no{a b:MA}{P:Prop}(h:a=b)(e:a.dif b=true):P:=absurd h (ne_dif e)
noncomputable def MO.tg:MO→Nat
 | .inst a _=>a+7 | .list _=>0 | .tup _=>1 | .dictS _=>2 | .dictI _=>3 | .barr _=>4 | .range _=>5 | .dead=>6
noncomputable def MO.dif(a b:MO):Bool:=!(Nat.beq a.tg b.tg)
theorem MO.dif_self(a:MO):a.dif a=false:=by unfold MO.dif;rw [Nat.beq_refl];rfl
theorem mo_no{a b:MO}{P:Prop}(h:some a=some b)(e:a.dif b=true):P:=by
 rw [Option.some.inj h,MO.dif_self] at e
 exact Bool.noConfusion e
theorem d_inj{i j:Nat}{p q:DA}(h:MA.d i p=.d j q):i=j:=by injection h
theorem x_inj{i j:Nat}(h:MA.x i=.x j):i=j:=by injection h
theorem nd_inj{i j k m:Nat}(h:MA.d i (.node k)=.d j (.node m)):k=m:=by injection h with _ h;injection h
theorem nb_inj{i j k m:Nat}(h:MA.d i (.nbuf k)=.d j (.nbuf m)):k=m:=by injection h with _ h;injection h
theorem ne_obj{σ:Hp}{a b:MA}{o p:MO}(h:σ a=some o)(h':σ b=some p)(e:o.dif p=true):a≠b:=fun z=>mo_no (h.symm.trans ((congrArg σ z).trans h')) e
theorem nof{α β:Type}{P:α→β→Prop}(a:α)(b:β)(z:False):P a b:=z.elim
theorem lget_hit{x:String}{v:MV}{r:Loc}:lget x ((x,v)::r)=some v:=if_pos rfl
theorem lget_miss{x y:String}{v:MV}{r:Loc}{o:Option MV}(h:(x==y)=false)(e:lget x r=o):lget x ((y,v)::r)=o:=(if_neg (beq_eq_false_iff_ne.mp h)).trans e
theorem lget_set_hit{x:String}{v:MV}{r:Loc}:lget x (lset x v r)=some v:=by rw [lget_lset,if_pos rfl]
theorem lget_set_miss{x y:String}{v:MV}{r:Loc}{o:Option MV}(h:(x==y)=false)(e:lget x r=o):lget x (lset y v r)=o:=by rw [lget_lset,if_neg (beq_eq_false_iff_ne.mp h)];exact e
structure Nd where
 data:Array UInt8
 kept:Nat
structure Stp where
 kind:Int
 name:Str
 other:Str
 num:Nat
noncomputable abbrev Dir:=List (Str×Nat)
structure Dk where
 left:Int
 spent:Int
 alive:Bool
 made:Nat
 nd:Nat→Option Nd
 reg:List Nat
 kept:Dir
 pres:Dir
 jour:List Stp
noncomputable def dirM(d:Dir):List (Str×MV):=d.map fun p=>(p.1,MV.int p.2)
noncomputable def regM(i:Nat)(r:List Nat):List (Int×MV):=r.map fun k:Nat=>((k:Int),MV.ref (.d i (.node k)))
structure Gs where
 n:Nat
 k:Nat
 p:Nat
 j:Nat
noncomputable abbrev diskO(i:Nat)(D:Dk)(g:Gs):MO:=.inst 387 [("left",.int D.left),("spent",.int D.spent),("alive",.bool D.alive),("nodes",.ref (.d i (.nm g.n))),("made",.int D.made),
 ("kept_names",.ref (.d i (.kn g.k))),("present",.ref (.d i (.pr g.p))),("journal",.ref (.d i (.jr g.j)))]
noncomputable abbrev nodeO(i k kept:Nat):MO:=.inst 142 [("number",.int k),("data",.ref (.d i (.nbuf k))),("kept",.int kept)]
noncomputable abbrev stepO(s:Stp):MO:=.inst 170 [("kind",.int s.kind),("name",.str s.name),("other",.str s.other),("number",.int s.num)]
noncomputable def StepsAt(σ:Hp):List MA→List Stp→Prop:=All2 fun a s=>(∃ k,a=.x k)∧σ a=some (stepO s)
structure DAt(σ:Hp)(i:Nat)(D:Dk)(g:Gs)(js:List MA):Prop where
 disk:σ (.d i .disk)=some (diskO i D g)
 nodes:σ (.d i (.nm g.n))=some (.dictI (regM i D.reg))
 kept:σ (.d i (.kn g.k))=some (.dictS (dirM D.kept))
 pres:σ (.d i (.pr g.p))=some (.dictS (dirM D.pres))
 jour:σ (.d i (.jr g.j))=some (.list (js.map .ref))
 steps:StepsAt σ js D.jour
 nd:∀ k n,D.nd k=some n→σ (.d i (.node k))=some (nodeO i k n.kept)∧σ (.d i (.nbuf k))=some (.barr n.data)
 fn:∀ k,g.n<k→σ (.d i (.nm k))=none
 fk:∀ k,g.k<k→σ (.d i (.kn k))=none
 fj:∀ k,g.j<k→σ (.d i (.jr k))=none
 fd:∀ k,D.made<k→σ (.d i (.node k))=none∧σ (.d i (.nbuf k))=none
noncomputable abbrev inD(i:Nat)(a:MA):Prop:=∃ p,a=.d i p
noncomputable abbrev nil:MA→Prop:=fun _=>False
theorem StepsAt.keep{P:MA→Prop}{σ σ':Hp}(h:Kp P σ σ')(hp:∀ k,¬ P (.x k)){as:List MA}{ss:List Stp}(hs:StepsAt σ as ss):StepsAt σ' as ss :=
 All2.imp (fun _ _ r=>⟨r.1,h.at r.2 (r.1.elim fun k e=>by rw [e];exact hp k)⟩) hs
theorem DAt.held{σ:Hp}{i:Nat}{D:Dk}{g:Gs}{js:List MA}(h:DAt σ i D g js)(p:DA):Held σ (.d i p):=.inr (by show σ (.d i .disk)≠none;rw [h.disk];exact fun z=>nomatch z)
theorem DAt.dne{σ:Hp}{i j:Nat}{D:Dk}{g:Gs}{js:List MA}(h:DAt σ i D g js)(hj:∀ p,σ (.d j p)=none):¬ i=j:=fun z=>by
 have:=h.disk
 rw [z,hj .disk] at this
 cases this
theorem DAt.keep{P:MA→Prop}{σ σ':Hp}{i:Nat}{D:Dk}{g:Gs}{js:List MA}(h:DAt σ i D g js)(k:Kp P σ σ')(hp:∀ p,¬ P (.d i p))(hx:∀ k,¬ P (.x k)):DAt σ' i D g js where
 disk:=k.at h.disk (hp _)
 nodes:=k.at h.nodes (hp _)
 kept:=k.at h.kept (hp _)
 pres:=k.at h.pres (hp _)
 jour:=k.at h.jour (hp _)
 steps:=h.steps.keep k hx
 nd a n e:=⟨k.at (h.nd a n e).1 (hp _),k.at (h.nd a n e).2 (hp _)⟩
 fn a e:=(k.keep _ (hp _) (h.held _)).trans (h.fn a e)
 fk a e:=(k.keep _ (hp _) (h.held _)).trans (h.fk a e)
 fj a e:=(k.keep _ (hp _) (h.held _)).trans (h.fj a e)
 fd a e:=⟨(k.keep _ (hp _) (h.held _)).trans (h.fd a e).1,(k.keep _ (hp _) (h.held _)).trans (h.fd a e).2⟩
section
variable{X:Cx}{G:Gm}{σ:Hp}{ρ:Loc}{Q:MV→Hp→Loc→Prop}{E:Addr→Hp→Loc→Prop}{R:MF→Hp→Loc→Prop}
theorem EvE.nattr{x f:String}{np pos:Pos}{a:MA}{C:Addr}{fs:List (String×MV)}{v:MV}(hx:G.S.locs.contains x=true)(hv:lget x ρ=some (.ref a))(hσ:σ a=some (.inst C fs))(hf:isField C f=true)(hl:lget f fs=some v)(hp:v.plain=true)(h:Q v σ ρ) :
  EvE X G (.Attribute (.Name (Str.ofString x) np) (Str.ofString f) pos) σ ρ Q E:=EvE.attr (EvE.name hx hv ⟨a,C,fs,v,rfl,hσ,hf,hl,hp,h⟩)
theorem EvE.nattr2{x f k:String}{np pos pos':Pos}{a b:MA}{C C':Addr}{fs fs':List (String×MV)}{v:MV}(hx:G.S.locs.contains x=true)(hv:lget x ρ=some (.ref a))(hσ:σ a=some (.inst C fs))(hf:isField C f=true)(hl:lget f fs=some (.ref b))
  (hσ':σ b=some (.inst C' fs')) (hf':isField C' k=true) (hl':lget k fs'=some v) (hp:v.plain=true) (h:Q v σ ρ) :
  EvE X G (.Attribute (.Attribute (.Name (Str.ofString x) np) (Str.ofString f) pos) (Str.ofString k) pos') σ ρ Q E:=EvE.attr (EvE.nattr hx hv hσ hf hl rfl ⟨b,C',fs',v,rfl,hσ',hf',hl',hp,h⟩)
theorem EvE.nmeth{x m:String}{np apos pos:Pos}{args:List Expr}{a:MA}{C f:Addr}{fs:List (String×MV)}(hx:G.S.locs.contains x=true)(hv:lget x ρ=some (.ref a))(hσ:σ a=some (.inst C fs))(hm:methTab C m=some f)(hn:lget m fs=none)
  (h:EvArgs X G pos args σ ρ (kMeth X G f a Q E) E)
  (hp:allPlain args=true:=by rfl) (hl:(apos.endLine==pos.line)=true:=by rfl) (hn':decide (args.length<30)=true:=by rfl) :
  EvE X G (.Call (.Attribute (.Name (Str.ofString x) np) (Str.ofString m) apos) args [] pos) σ ρ Q E:=EvE.meth (EvE.name hx hv ⟨a,C,f,fs,rfl,hσ,meth_ok X.w hm,hn,h⟩) rfl hp hl hn'
theorem EvE.nmeth2{x f0 m:String}{np fpos apos pos:Pos}{args:List Expr}{a b:MA}{C0 C f:Addr}{fs0 fs:List (String×MV)}(hx:G.S.locs.contains x=true)(hv:lget x ρ=some (.ref a))(hσ0:σ a=some (.inst C0 fs0))(hf0:isField C0 f0=true)(hl0:lget f0 fs0=some (.ref b))
  (hσ:σ b=some (.inst C fs)) (hm:methTab C m=some f) (hn:lget m fs=none)
  (h:EvArgs X G pos args σ ρ (kMeth X G f b Q E) E)
  (hp:allPlain args=true:=by rfl) (hl:(apos.endLine==pos.line)=true:=by rfl) (hn':decide (args.length<30)=true:=by rfl) :
  EvE X G (.Call (.Attribute (.Attribute (.Name (Str.ofString x) np) (Str.ofString f0) fpos) (Str.ofString m) apos) args [] pos) σ ρ Q E:=EvE.meth (EvE.nattr hx hv hσ0 hf0 hl0 rfl ⟨b,C,f,fs,rfl,hσ,meth_ok X.w hm,hn,h⟩) rfl hp hl hn'
theorem EvE.gcall{x:String}{np pos:Pos}{args:List Expr}{f:Addr}(hx:G.S.glbs.contains x=true)(hg:glTab x=some f)
  (h:EvArgs X G pos args σ ρ (kCall X G (.ref f) Q E) E) (hp:allPlain args=true:=by rfl):EvE X G (.Call (.Name (Str.ofString x) np) args [] pos) σ ρ Q E :=
 EvE.callG hx (gl_ok X.w hg).1 (gl_ok X.w hg).2 h hp
theorem EvE.bcall{x:String}{np pos:Pos}{args:List Expr}{f:Value}(hG:G.b=true)(hx:G.S.glbs.contains x=true)(hb:blTab x=some f)
  (h:EvArgs X G pos args σ ρ (kB X G f Q) E) (hn:Str.ofString x≠"__name__":=by decide +kernel) (hp:allPlain args=true:=by rfl):EvE X G (.Call (.Name (Str.ofString x) np) args [] pos) σ ρ Q E :=
 EvE.callB hG hx (bl_ok X.w hb).1 (bl_ok X.w hb).2.1 h hn (bl_ok X.w hb).2.2 hp
@[reducible] def kThrow(E:Addr→Hp→Loc→Prop)(c:Addr)(_:MV)(σ:Hp)(ρ:Loc):Prop:=E c σ ρ
theorem ExS.raiseG{x:String}{np cpos pos:Pos}{arg:Expr}{c:Addr}(hG:G.b=true)(hx:G.S.glbs.contains x=true)(hg:glTab x=some c)(hc:excOk c=true)
  (h:EvE X ⟨G.n,G.b,G.S,false⟩ arg σ ρ (kThrow E c) E) (hp:noStar arg=true:=by rfl):ExS X G (.Raise (some (.Call (.Name (Str.ofString x) np) [arg] [] cpos)) none pos) σ ρ R E :=
 ExS.raise hG hx (gl_ok X.w hg).1 hc (EvArgs.cons (h.mono fun v σ' ρ' he=>EvArgs.nil ⟨Nat.le_of_ble_eq_true rfl,he⟩) hp) hp
theorem EvE.gint{x:String}{pos:Pos}{i:Int}(hx:G.S.glbs.contains x=true)(hv:∃ t,nsIn (Fg X.w) mainGlobals (Str.ofString x)=some (some (.int i t)))(h:Q (.int i) σ ρ):EvE X G (.Name (Str.ofString x) pos) σ ρ Q E:=by
 refine c1_1 hv fun t hv=>?_
 intro A env frs μ it fr s he ha hs
 have n:EvE X G (.Name (Str.ofString x) pos) σ ρ (fun v σ₁ ρ₁=>v=.top (.int i t)∧σ₁=σ∧ρ₁=ρ) E:=EvE.glob hx hv ⟨rfl,rfl,rfl⟩
 refine n_mono (n A env frs μ it fr s he ha hs) ?_ fun _ _ x=>x
 rintro V s₁ ⟨μ₁,v,σ₁,ρ₁,e₁,r₁,hs₁,rfl,rfl,rfl⟩
 exact ⟨μ₁,.int i,σ₁,ρ₁,e₁,⟨t,r₁⟩,hs₁,h⟩
theorem EvE.stepk{x:String}{pos:Pos}{i:Int}(hx:G.S.glbs.contains x=true)(hk:stepK x=some i)(h:Q (.int i) σ ρ):EvE X G (.Name (Str.ofString x) pos) σ ρ Q E:=EvE.gint hx (stepK_ok X.w hk) h
inductive NsetP(G:Gm)(x f:String)(R:MF→Hp→Loc→Prop)(v:MV)(σ:Hp)(ρ:Loc):Prop
 | mk (a:MA) (C:Addr) (fs:List (String×MV)) (hx:G.S.locs.contains x=true) (hv:lget x ρ=some (.ref a)) (h:σ a=some (.inst C fs)) (i:isField C f=true) (n:fs.length≤100) (q:R .next (upd σ a (.inst C (lset f v fs))) ρ)
theorem ExS.nset{x f:String}{value:Expr}{np tpos pos:Pos}(h:EvE X G value σ ρ (NsetP G x f R) E)
  (hsw:∀ env,swapsWith value (some (.Attribute (.Name (Str.ofString x) np) (Str.ofString f) tpos)) pos.line env=pure false:=by intro _;rfl):ExS X G (.Assign [.Attribute (.Name (Str.ofString x) np) (Str.ofString f) tpos] value pos) σ ρ R E :=
 ExS.setattr (h.mono fun v σ₁ ρ₁ ⟨a,C,fs,h1,h2,h3,h4,h5,h6⟩=>EvE.name h1 h2 ⟨a,C,fs,rfl,h3,h4,h5,h6⟩) hsw
theorem EvE.negc{i:Int}{k}{p pos:Pos}(h:Q (.int (-i)) σ ρ):EvE X G (.UnaryOp .USub (.Constant (.int i) k p) pos) σ ρ Q E:=EvE.neg (EvE.cInt ⟨i,rfl,h⟩)
section
variable{i j:Int}{x y:Str}
theorem bin_add(h:Q (.int (i+j)) σ ρ):BinR .Add (.int i) Q (.int j) σ ρ:=⟨_,.add i j,h⟩
theorem bin_sub(h:Q (.int (i - j)) σ ρ):BinR .Sub (.int i) Q (.int j) σ ρ:=⟨_,.sub i j,h⟩
theorem bin_cat(h1:x.length≤1000)(h2:y.length≤1000)(h:Q (.str (x++y)) σ ρ):BinR .Add (.str x) Q (.str y) σ ρ:=⟨_,.cat x y h1 h2,h⟩
theorem bin_mod(h1:j≠0)(h:Q (.int (i.fmod j)) σ ρ):BinR .Mod (.int i) Q (.int j) σ ρ:=⟨_,.mod i j h1,h⟩
theorem bin_fdiv(h1:j≠0)(h2:j.natAbs<1073741824)(h:Q (.int (i.fdiv j)) σ ρ):BinR .FloorDiv (.int i) Q (.int j) σ ρ:=⟨_,.fdiv i j h1 h2,h⟩
theorem bin_mul(h1:i.natAbs<2 ^ 30)(h2:j.natAbs<2 ^ 30)(h:Q (.int (i*j)) σ ρ):BinR .Mult (.int i) Q (.int j) σ ρ:=⟨_,.mul i j h1 h2,h⟩
end
end
def wlk(s:String):String:="\"walk_at \"\""++s++"\" str/1 PyProof.Rows.tacticWalk_at_/2"
def dk:String:="\"decide \"+ $kernel TposConfigItem/2 TconfigItem/1 null/1 ToptConfig/1 Tdecide/2"
def dis(c:Char):String:=match c with
 | 'm'=>wlk "mem" | 'l'=>wlk "lg" | 'k'=>wlk "lk" | 'e'=>wlk "ne"
 | 'a'=>"\"assumption Tassumption/1"
 | 'r'=>exa "rfl" | 't'=>exa "tru" | 'F'=>exa "fls"
 | 'b'=>"\"exact $nle $rfl null/1 tapp/2 Texact/2"
 | 'K'=>"\"intro \"_ thole/1 \"_ thole/1 null/2 Tintro/2"
 | 'I'=>"\"intro \"_ thole/1 null/1 Tintro/2"
 | 'q'=>fst [exa "rfl",dk]
 | 'f'=>fst ["\"exact \"fun \"_ thole/1 null/1 null/0 \"=> $rfl tbasicFun/4 tfun/2 Texact/2","\"exact \"fun \"_ thole/1 \"_ thole/1 null/2 null/0 \"=> $rfl tbasicFun/4 tfun/2 Texact/2"]
 | _=>dk
def arg(i:Nat):List Char→List String×List String
 | []=>([],[])
 | c::r =>
  let p:=arg (i+1) r
  match c with
  | '_'=>("\"? \"_ tsyntheticHole/2"::p.1,p.2)
  | '.'=>("\"_ thole/1"::p.1,p.2)
  | 'R'=>("$rfl"::p.1,p.2)
  | 'K' | 'I'=>(p.1,dis c::p.2)
  | _ =>
   let h:="$h"++toString i
   (("\"? "++h++" tsyntheticHole/2")::p.1,("\"case "++h++" Lean.binderIdent/1 null/0 TcaseArg/2 null/1 \"=> "++s1 (dis c)++" Tcase/4")::p.2)
def pick(l:List String):List Char→List String
 | []=>[]
 | c::r=>l.getD (c.toNat - 48) ""::pick l r
def trm(o:List Char)(a:List String):String:="\"refine' $"++String.ofList o++(if a.isEmpty then "" else " "++" ".intercalate a++" null/"++toString a.length++" tapp/2")++" Trefine'/2"
def alt(r:String):String :=
 let w:=r.splitOn " "
 let p:=arg 0 (w.getD 1 "").toList
 let t:=if w.length==3 then pick p.2 (w.getD 2 "").toList else p.2
 match (w.headD "").toList with
 | '='::c::_=>dis c
 | '!'::o=>par (trm o p.1::t)
 | o=>par (par [red (trm o p.1)]::t)
def tbl(s:String):String:=match s with
 | "st"=>"Kn.nx a_|Kn.rt a_|Lp.nx a_|Lp.rt a_|Fn.nx a_|Fn.rt a_|ExSs.consK _K|ExSs.nil _|EvArgs.cons _r|EvArgs.nil _|kCons.go _|EvE.name ml_|EvE.cell ml_d|EvE.cInt _|EvE.cStr _|EvE.cNone _|EvE.cBool _|EvE.stepk mr_ 10|EvE.nattr mlktlt_|EvE.nattr2 mlkrlkrlr_|EvE.nmeth mlkrl_rrr|EvE.nmeth2 mlkrlkrl_rrr|EvE.gcall mr_r 102|EvE.bcall rmr_dr 20134|EvE.negc _|EvE.bin r_|EvT.cmp _r|EvE.cmp _r|ExS.ifte _|ExS.ret _|ExS.assign m_r 10|ExS.nset _f|ExS.setitem _r|ExS.aug ml_|ExS.augAttr _|ExS.delS _|ExS.raiseG rmrr_r 20134|ExS.expr _r|EvT.not _|EvT.bool _|EvTs.nil _|EvTs.cons _|EvT.val _f|EvE.sub _r|bin_add _|bin_sub _|NsetP.mk ...mlktb_|AugO.mk ....Rktlb_|AugF.mk ..Rrk_"
 | "mem"=>"=t|=d|=D"
 | "lg"=>"=a|!lget_hit|!lget_set_hit|!lget_miss Fl|!lget_set_miss Fl|=r"
 | "ne"=>"=a|!ne_dif t|!ne_fresh aa|!ne_fresh' aa"
 | "lk"=>"=a|!upd_self ...|!upd_at ek"
 | "g"=>"Kn.rt a_|Kn.nx a_|Fn.rt a_|Fn.nx a_|Lp.rt a_|Lp.nx a_|ExSs.nil _"
 | "n"=>"!kIf.no q_|!ano q_I"
 | "y"=>"!kIf.yes q_|!aye q_I"
 | "go"=>"*g"
 | "r"=>"*st"
 | "c"=>"+st"
 | _=>""
def alts:List String→List String
 | []=>[]
 | r::l=>alt r::alts l
def rep(s:List Char):String:="\"repeat "++s1 (wlk (.ofList s))++" TtacticRepeat_/2"
def wlm(x:String):String:=match x.toList with
 | '*'::y=>rep y
 | '+'::y=>par ["\"refine $ExSs.consK \"? \"_ tsyntheticHole/2 null/1 tapp/2 Trefine/2",dis 'K',rep y]
 | _=>fst (alts (x.splitOn "|"))
local macro_rules
 | `(tactic| walk_at $s:str) =>
  let x:=tbl s.getString
  if x=="" then Lean.Macro.throwUnsupported else return syn (wlm x) []
section
noncomputable def dget(n:Str)(d:Dir):Option Nat:=(d.find? fun p=>p.1=n).map (·.2)
noncomputable def dset(n:Str)(k:Nat)(d:Dir):Dir:=if d.any (fun p=>p.1=n) then d.map (fun p=>if p.1=n then (p.1,k) else p) else d++[(n,k)]
noncomputable def ddel(n:Str)(d:Dir):Dir:=d.filter fun p=>decide (p.1≠n)
theorem find_map{d:Dir}{n:Str}:(dirM d).find? (fun kv=>kv.1=n)=(d.find? fun p=>p.1=n).map fun p=>(p.1,MV.int p.2):=by
 unfold dirM;rw [List.find?_map];rfl
theorem getK_dirM{n:Str}{d:Dir}:getK n (dirM d)=(dget n d).map fun k=>MV.int k:=by
 unfold getK dget;rw [find_map];cases d.find? _ <;> rfl
theorem hasKey_dirM{n:Str}{d:Dir}:hasKey n (dirM d)=(dget n d).isSome:=by
 unfold hasKey dget;rw [find_map];cases d.find? _ <;> rfl
theorem setK_dirM{n:Str}{k:Nat}{d:Dir}:setK n (.int k) (dirM d)=dirM (dset n k d):=by
 unfold setK dset dirM
 rw [List.any_map]
 show (if d.any (fun p=>p.1=n)=true then _ else _)=_
 split
 ·rw [List.map_map,List.map_map]
  refine List.map_congr_left fun p _=>?_
  show (if p.1=n then _ else _)=_
  by_cases h:p.1=n
  ·simp [h]
  ·simp [h]
 ·simp
theorem delK_dirM{n:Str}{d:Dir}:delK n (dirM d)=dirM (ddel n d):=by
 unfold delK ddel dirM;rw [List.filter_map];rfl
theorem dirM_length(d:Dir):(dirM d).length=d.length:=by unfold dirM;simp
theorem getK_regM{i k:Nat}{r:List Nat}(h:k∈r):getK (k:Int) (regM i r)=some (.ref (.d i (.node k))):=by
 induction r with
 | nil=>cases h
 | cons a r ih =>
  unfold getK regM at ih ⊢
  rw [List.map_cons,List.find?_cons]
  by_cases e:a=k
  ·rw [e,decide_eq_true rfl];rfl
  ·rw [decide_eq_false fun z=>e (Int.ofNat.inj z)]
   exact ih ((List.mem_cons.mp h).resolve_left fun z=>e z.symm)
theorem setK_regM{i k:Nat}{r:List Nat}(h:k∉r):setK (k:Int) (.ref (.d i (.node k))) (regM i r)=regM i (r++[k]):=by
 unfold setK regM
 rw [if_neg]
 ·simp
 ·simp only [List.any_map,List.any_eq_true,not_exists,not_and]
  intro a ha
  show ¬ (decide ((a:Int)=(k:Int))=true)
  rw [decide_eq_true_eq]
  intro e
  exact h ((show a=k by lia)▸ha)
theorem regM_length(i:Nat)(r:List Nat):(regM i r).length=r.length:=by unfold regM;simp
noncomputable def play(s:Stp)(d:Dir):Dir :=
 if s.kind=1 then dset s.name s.num d else if s.kind=2 then ddel s.name d else match dget s.name d with
  | some k=>dset s.other k (ddel s.name d)
  | none=>d
noncomputable def Stp.fits(s:Stp)(d:Dir):Prop:=s.kind=1∨(s.kind=2∧(dget s.name d).isSome=true)∨(s.kind=3∧(dget s.name d).isSome=true)
variable{X:Cx}{c:Bool}{σ:Hp}{i:Nat}{g:Gs}{js:List MA}{left spent:Int}{alive:Bool}{made:Nat}{nd:Nat→Option Nd}{reg:List Nat}{kept pres:Dir}{jour:List Stp}
theorem check_alive_ok{b:Bool}{d:MA}{fs}(h:σ d=some (.inst 387 fs))(ha:lget "alive" fs=some (.bool true)):CallJ X c 1 b (.ref 258) [.ref d] σ (fun v σ'=>v=.none∧σ'=σ) (fun _ _=>False):=by
 refine CallJ.fn (fn_Disk_check_alive X.w) D_Disk_check_alive rfl fun _ _=>?_
 refine ExSs.consK ?_;intro _ _
 refine ExS.ifte (EvT.not (EvT.val (EvE.nattr (by walk_at "mem") (by walk_at "lg") h rfl ha rfl ⟨_,rfl,?_⟩)))
 refine ⟨fun e=>(by cases e),fun _=>?_⟩
 walk_at "r"
 exact ⟨rfl,rfl⟩
theorem check_alive_dead{d:MA}{fs}(h:σ d=some (.inst 387 fs))(ha:lget "alive" fs=some (.bool false)):CallJ X c 1 true (.ref 258) [.ref d] σ (fun _ _=>False) (fun c σ'=>c=97∧σ'=σ):=by
 refine CallJ.fn (fn_Disk_check_alive X.w) D_Disk_check_alive rfl fun _ _=>?_
 refine ExSs.consK ?_;intro _ _
 refine ExS.ifte (EvT.not (EvT.val (EvE.nattr (by walk_at "mem") (by walk_at "lg") h rfl ha rfl ⟨_,rfl,?_⟩)))
 refine ⟨fun _=>?_,fun e=>(by cases e)⟩
 walk_at "r"
 exact ⟨rfl,rfl⟩
theorem take_steps_inf{k:Int}(h:DAt σ i ⟨-1,spent,true,made,nd,reg,kept,pres,jour⟩ g js):CallJ X c 2 true (.ref 265) [.ref (.d i .disk),.int k] σ
  (fun v σ'=>v=.int k∧σ'=upd σ (.d i .disk) (diskO i ⟨-1,spent+k,true,made,nd,reg,kept,pres,jour⟩ g)) (fun _ _=>False):=by
 have hd:=h.disk
 refine CallJ.fn (fn_Disk_take_steps X.w) D_Disk_take_steps rfl fun _ _=>?_
 walk_at "c"
 refine (check_alive_ok hd (by walk_at "lg")).mono ?_ nof
 intro v σ' zz;refine e2 zz ?_
 walk_at "r"
 refine And.intro (fun hb=>absurd hb (by simp)) (fun _=>?_)
 walk_at "r"
 exact ⟨rfl,rfl⟩
theorem take_steps_fin{k l:Nat}(h:DAt σ i ⟨(l:Int),spent,true,made,nd,reg,kept,pres,jour⟩ g js):CallJ X c 2 true (.ref 265) [.ref (.d i .disk),.int k] σ
  (fun v σ'=>(k≤l∧v=.int k∧σ'=upd σ (.d i .disk) (diskO i ⟨((l - k:Nat):Int),spent+k,true,made,nd,reg,kept,pres,jour⟩ g)) ∨
   (l<k∧v=.int l∧σ'=upd σ (.d i .disk) (diskO i ⟨0,spent+l,false,made,nd,reg,kept,pres,jour⟩ g))) (fun _ _=>False):=by
 have hd:=h.disk
 refine CallJ.fn (fn_Disk_take_steps X.w) D_Disk_take_steps rfl fun _ _=>?_
 walk_at "c"
 refine (check_alive_ok hd (by walk_at "lg")).mono ?_ nof
 intro v σ' zz;refine e2 zz ?_
 walk_at "r"
 refine And.intro (fun _=>?_) (fun hb=>absurd hb (by simp))
 walk_at "r"
 refine And.intro (fun hb=>?_) (fun hb=>?_)
 ·have hlt:l<k:=by simpa using hb
  walk_at "r"
  refine .inr ⟨hlt,rfl,?_⟩
  rw [upd_upd,upd_upd]
  have e:(l:Int) - (l:Int)=0:=by lia
  simp [lset,e]
 ·have hle:k≤l:=by simpa using hb
  walk_at "r"
  refine .inl ⟨hle,rfl,?_⟩
  rw [upd_upd]
  have e:(l:Int) - (k:Int)=((l - k:Nat):Int):=by lia
  simp [lset,e]
theorem happen_ok{st d:MA}{s:Stp}{dir:Dir}(h:σ st=some (stepO s))(hd:σ d=some (.dictS (dirM dir)))(hf:s.fits dir)(hl:dir.length≤900):CallJ X c 1 true (.ref 167) [.ref st,.ref d] σ
  (fun v σ'=>v=.none∧σ'=upd σ d (.dictS (dirM (play s dir)))) (fun _ _=>False):=by
 refine CallJ.fn (fn_DirStep_happen X.w) D_DirStep_happen rfl fun _ _=>?_
 refine ExSs.consK ?_;intro _ _
 have hl':(dirM dir).length≤1000:=by rw [dirM_length];lia
 have hds:∀ n,(ddel n dir).length≤dir.length:=fun n=>List.length_filter_le ..
 walk_at "r"
 refine And.intro (fun hb=>?_) (fun hb=>?_)
 ·have hk:s.kind=1:=by simpa using hb
  walk_at "r"
  refine ⟨_,SetR.dictS hd hl',?_⟩
  walk_at "r"
  refine ⟨rfl,?_⟩
  rw [setK_dirM];unfold play;rw [if_pos hk]
 ·have hk:¬ s.kind=1:=by simpa using hb
  walk_at "r"
  refine And.intro (fun hb=>?_) (fun hb=>?_)
  ·have hk2:s.kind=2:=by simpa using hb
   have hg:(dget s.name dir).isSome=true:=by
    rcases hf with z | ⟨_,z⟩ | ⟨z,_⟩
    ·exact absurd z hk
    ·exact z
    ·rw [hk2] at z;cases z
   walk_at "r"
   refine ⟨_,_,_,rfl,rfl,hd,by rw [hasKey_dirM];exact hg,hl',?_⟩
   walk_at "r"
   refine ⟨rfl,?_⟩
   rw [delK_dirM];unfold play;rw [if_neg hk,if_pos hk2]
  ·have hk2:¬ s.kind=2:=by simpa using hb
   have hg:(dget s.name dir).isSome=true:=by
    rcases hf with z | ⟨z,_⟩ | ⟨_,z⟩
    ·exact absurd z hk
    ·exact absurd z hk2
    ·exact z
   refine c1_1 (Option.isSome_iff_exists.mp hg) fun k hgk=>?_
   walk_at "r"
   refine ⟨_,SubR.dictS hd (by rw [getK_dirM,hgk];rfl),?_⟩
   walk_at "r"
   refine ⟨_,_,_,rfl,rfl,hd,by rw [hasKey_dirM];exact hg,hl',?_⟩
   rw [delK_dirM]
   have hne:st≠d:=ne_obj h hd rfl
   have h2:upd σ d (.dictS (dirM (ddel s.name dir))) st=some (stepO s):=upd_at hne h
   walk_at "r"
   refine ⟨_,SetR.dictS (upd_self ..) (by rw [dirM_length];have:=hds s.name;lia),?_⟩
   walk_at "r"
   refine ⟨rfl,?_⟩
   rw [setK_dirM,upd_upd];unfold play;rw [if_neg hk,if_neg hk2,hgk]
end
section
variable{σ:Hp}{i:Nat}{D D':Dk}{g:Gs}{js:List MA}
theorem StepsAt.upd{a:MA}{o:MO}(ha:∀ k o',a=.x k→σ a=some o'→False){as:List MA}{ss:List Stp}(h:StepsAt σ as ss):StepsAt (upd σ a o) as ss :=
 All2.imp (fun _ _ r=>⟨r.1,upd_at (fun z=>r.1.elim fun k e=>ha k _ (z.symm.trans e) ((congrArg σ z).symm.trans r.2)) r.2⟩) h
theorem StepsAt.snoc{a:MA}{s:Stp}(h1:(∃ k,a=.x k)∧σ a=some (stepO s)){as:List MA}{ss:List Stp}(h:StepsAt σ as ss):StepsAt σ (as++[a]) (ss++[s]):=All2.append h ⟨h1,trivial⟩
theorem StepsAt.length{as:List MA}{ss:List Stp}(h:StepsAt σ as ss):as.length=ss.length:=(All2.length h).symm
theorem notx_d{i:Nat}{p:DA}:∀ k o',(MA.d i p)=.x k→σ (.d i p)=some o'→False:=fun _ _ h=>nomatch h
local macro_rules | `(tactic| walk_at "k1")=>`(tactic| first | exact upd_at (by intro z;cases z) (by assumption) | exact upd_self ..)
theorem DAt.set(h:DAt σ i D g js)(hm:D.made≤D'.made)(e1:D'.nd=D.nd:=by rfl)(e2:D'.reg=D.reg:=by rfl)(e3:D'.kept=D.kept:=by rfl)(e4:D'.pres=D.pres:=by rfl)(e5:D'.jour=D.jour:=by rfl):DAt (upd σ (.d i .disk) (diskO i D' g)) i D' g js where
 disk:=upd_self ..
 nodes:=udf tru (by rw [e2];exact h.nodes)
 kept:=udf tru (by rw [e3];exact h.kept)
 pres:=udf tru (by rw [e4];exact h.pres)
 jour:=udf tru h.jour
 steps:=by rw [e5];exact h.steps.upd notx_d
 nd k n e:=by rw [e1] at e;exact ⟨udf tru (h.nd k n e).1,udf tru (h.nd k n e).2⟩
 fn k e:=udf tru (h.fn k e)
 fk k e:=udf tru (h.fk k e)
 fj k e:=udf tru (h.fj k e)
 fd k e:=⟨udf tru (h.fd k (by lia)).1,udf tru (h.fd k (by lia)).2⟩
theorem DAt.x(h:DAt σ i D g js){m:Nat}{o:MO}(hm:σ (.x m)=none):DAt (upd σ (.x m) o) i D g js:=h.keep (P:=nil) (.new (free_x hm)) (fun _ z=>z) fun _ z=>z
theorem DAt.node(h:DAt σ i D g js){k:Nat}{b:Array UInt8}{q:Nat}(h1:σ (.d i (.node k))=none)(hk:k≤D.made) :
  DAt (upd (upd σ (.d i (.nbuf k)) (.barr b)) (.d i (.node k)) (nodeO i k q)) i { D with nd:=fun j=>if j=k then some ⟨b,q⟩ else D.nd j } g js where
 disk:=udf tru (udf tru h.disk)
 nodes:=udf tru (udf tru h.nodes)
 kept:=udf tru (udf tru h.kept)
 pres:=udf tru (udf tru h.pres)
 jour:=udf tru (udf tru h.jour)
 steps:=(h.steps.upd notx_d).upd notx_d
 nd j n e:=by
  dsimp only at e
  by_cases hj:j=k
  ·subst hj;rw [if_pos rfl] at e;cases e
   exact ⟨upd_self ..,udf tru (upd_self ..)⟩
  ·rw [if_neg hj] at e
   exact ⟨upd_at (by intro z;first | exact hj (nd_inj z) | exact hj (nb_inj z)) (udf tru (h.nd j n e).1),udf tru (upd_at (by intro z;first | exact hj (nd_inj z) | exact hj (nb_inj z)) (h.nd j n e).2)⟩
 fn k e:=udf tru (udf tru (h.fn k e))
 fk k e:=udf tru (udf tru (h.fk k e))
 fj k e:=udf tru (udf tru (h.fj k e))
 fd j e:=by
  have e':D.made<j:=e
  exact ⟨upd_at (by intro z;cases z;lia) (udf tru (h.fd j e').1),udf tru (upd_at (by intro z;cases z;lia) (h.fd j e').2)⟩
theorem DAt.buf(h:DAt σ i D g js){k:Nat}{n:Nd}{b:Array UInt8}(hk:D.nd k=some n):DAt (upd σ (.d i (.nbuf k)) (.barr b)) i { D with nd:=fun j=>if j=k then some ⟨b,n.kept⟩ else D.nd j } g js where
 disk:=udf tru h.disk
 nodes:=udf tru h.nodes
 kept:=udf tru h.kept
 pres:=udf tru h.pres
 jour:=udf tru h.jour
 steps:=h.steps.upd notx_d
 nd j m e:=by
  dsimp only at e
  by_cases hj:j=k
  ·subst hj;rw [if_pos rfl] at e;cases e
   exact ⟨udf tru (h.nd j n hk).1,upd_self ..⟩
  ·rw [if_neg hj] at e
   exact ⟨udf tru (h.nd j m e).1,upd_at (by intro z;first | exact hj (nd_inj z) | exact hj (nb_inj z)) (h.nd j m e).2⟩
 fn k e:=udf tru (h.fn k e)
 fk k e:=udf tru (h.fk k e)
 fj k e:=udf tru (h.fj k e)
 fd j e:=by
  have e':D.made<j:=e
  exact ⟨udf tru (h.fd j e').1,upd_at (by rintro z;cases z;have:=(h.fd k e').2;rw [(h.nd k n hk).2] at this;exact sno this) (h.fd j e').2⟩
theorem DAt.keepn(h:DAt σ i D g js){k:Nat}{n:Nd}{q:Nat}(hk:D.nd k=some n):DAt (upd σ (.d i (.node k)) (nodeO i k q)) i { D with nd:=fun j=>if j=k then some ⟨n.data,q⟩ else D.nd j } g js where
 disk:=udf tru h.disk
 nodes:=udf tru h.nodes
 kept:=udf tru h.kept
 pres:=udf tru h.pres
 jour:=udf tru h.jour
 steps:=h.steps.upd notx_d
 nd j m e:=by
  dsimp only at e
  by_cases hj:j=k
  ·subst hj;rw [if_pos rfl] at e;cases e
   exact ⟨upd_self ..,udf tru (h.nd j n hk).2⟩
  ·rw [if_neg hj] at e
   exact ⟨upd_at (by intro z;first | exact hj (nd_inj z) | exact hj (nb_inj z)) (h.nd j m e).1,udf tru (h.nd j m e).2⟩
 fn k e:=udf tru (h.fn k e)
 fk k e:=udf tru (h.fk k e)
 fj k e:=udf tru (h.fj k e)
 fd j e:=by
  have e':D.made<j:=e
  exact ⟨upd_at (by rintro z;cases z;have:=(h.fd k e').1;rw [(h.nd k n hk).1] at this;exact sno this) (h.fd j e').1,udf tru (h.fd j e').2⟩
theorem DAt.regs(h:DAt σ i D g js)(r:List Nat):DAt (upd σ (.d i (.nm g.n)) (.dictI (regM i r))) i { D with reg:=r } g js where
 disk:=udf tru h.disk
 nodes:=upd_self ..
 kept:=udf tru h.kept
 pres:=udf tru h.pres
 jour:=udf tru h.jour
 steps:=h.steps.upd notx_d
 nd k n e:=⟨udf tru (h.nd k n e).1,udf tru (h.nd k n e).2⟩
 fn k e:=upd_at (by intro z;cases z;lia) (h.fn k e)
 fk k e:=udf tru (h.fk k e)
 fj k e:=udf tru (h.fj k e)
 fd j e:=⟨udf tru (h.fd j e).1,udf tru (h.fd j e).2⟩
theorem DAt.press(h:DAt σ i D g js)(d:Dir):DAt (upd σ (.d i (.pr g.p)) (.dictS (dirM d))) i { D with pres:=d } g js where
 disk:=udf tru h.disk
 nodes:=udf tru h.nodes
 kept:=udf tru h.kept
 pres:=upd_self ..
 jour:=udf tru h.jour
 steps:=h.steps.upd notx_d
 nd k n e:=⟨udf tru (h.nd k n e).1,udf tru (h.nd k n e).2⟩
 fn k e:=udf tru (h.fn k e)
 fk k e:=udf tru (h.fk k e)
 fj k e:=udf tru (h.fj k e)
 fd j e:=⟨udf tru (h.fd j e).1,udf tru (h.fd j e).2⟩
theorem DAt.kepts(h:DAt σ i D g js)(d:Dir):DAt (upd σ (.d i (.kn g.k)) (.dictS (dirM d))) i { D with kept:=d } g js where
 disk:=udf tru h.disk
 nodes:=udf tru h.nodes
 kept:=upd_self ..
 pres:=udf tru h.pres
 jour:=udf tru h.jour
 steps:=h.steps.upd notx_d
 nd k n e:=⟨udf tru (h.nd k n e).1,udf tru (h.nd k n e).2⟩
 fn k e:=udf tru (h.fn k e)
 fk k e:=upd_at (by intro z;cases z;lia) (h.fk k e)
 fj k e:=udf tru (h.fj k e)
 fd j e:=⟨udf tru (h.fd j e).1,udf tru (h.fd j e).2⟩
theorem DAt.jours(h:DAt σ i D g js){js':List MA}{ss:List Stp}(hs:StepsAt σ js' ss):DAt (upd σ (.d i (.jr g.j)) (.list (js'.map .ref))) i { D with jour:=ss } g js' where
 disk:=udf tru h.disk
 nodes:=udf tru h.nodes
 kept:=udf tru h.kept
 pres:=udf tru h.pres
 jour:=upd_self ..
 steps:=hs.upd notx_d
 nd k n e:=⟨udf tru (h.nd k n e).1,udf tru (h.nd k n e).2⟩
 fn k e:=udf tru (h.fn k e)
 fk k e:=udf tru (h.fk k e)
 fj k e:=upd_at (by intro z;cases z;lia) (h.fj k e)
 fd j e:=⟨udf tru (h.fd j e).1,udf tru (h.fd j e).2⟩
end
section
variable{X:Cx}{c:Bool}{σ:Hp}{i:Nat}{g:Gs}{js:List MA}{left spent:Int}{alive:Bool}{made:Nat}{nd:Nat→Option Nd}{reg:List Nat}{kept pres:Dir}{jour:List Stp}
theorem one_step_inf{what:Str}(h:DAt σ i ⟨-1,spent,true,made,nd,reg,kept,pres,jour⟩ g js):CallJ X c 3 true (.ref 272) [.ref (.d i .disk),.str what] σ
  (fun v σ'=>v=.none∧σ'=upd σ (.d i .disk) (diskO i ⟨-1,spent+1,true,made,nd,reg,kept,pres,jour⟩ g)) (fun _ _=>False):=by
 have hd:=h.disk
 refine CallJ.fn (fn_Disk_one_step X.w) D_Disk_one_step rfl fun _ _=>?_
 walk_at "c"
 refine (take_steps_inf h).mono ?_ nof
 intro v σ' zz;refine e2 zz ?_
 walk_at "r"
 walk_at "n"
 walk_at "r"
 exact ⟨rfl,rfl⟩
theorem one_step_fin{what:Str}{l:Nat}(h:DAt σ i ⟨(l:Int),spent,true,made,nd,reg,kept,pres,jour⟩ g js)(hw:what.length≤900):CallJ X c 3 true (.ref 272) [.ref (.d i .disk),.str what] σ
  (fun v σ'=>1≤l∧v=.none∧σ'=upd σ (.d i .disk) (diskO i ⟨((l - 1:Nat):Int),spent+1,true,made,nd,reg,kept,pres,jour⟩ g))
  (fun c σ'=>l=0∧c=97∧σ'=upd σ (.d i .disk) (diskO i ⟨0,spent,false,made,nd,reg,kept,pres,jour⟩ g)):=by
 have hd:=h.disk
 refine CallJ.fn (fn_Disk_one_step X.w) D_Disk_one_step rfl fun _ _=>?_
 walk_at "c"
 refine (take_steps_fin (k:=1) h).mono ?_ nof
 rintro v σ' (⟨h1,rfl,rfl⟩ | ⟨h1,rfl,rfl⟩)
 ·walk_at "r"
  walk_at "n"
  walk_at "r"
  exact ⟨h1,rfl,rfl⟩
 ·have hl0:l=0:=by lia
  subst hl0
  walk_at "r"
  walk_at "y"
  walk_at "r"
  refine bin_cat (by decide +kernel) (by lia) ⟨rfl,rfl,?_⟩
  simp
theorem node_of_ok{k:Nat}{n:Str}(h:DAt σ i ⟨left,spent,true,made,nd,reg,kept,pres,jour⟩ g js)(hn:dget n pres=some k)(hk:k∈reg):CallJ X c 2 true (.ref 279) [.ref (.d i .disk),.str n] σ
  (fun v σ'=>v=.ref (.d i (.node k))∧σ'=σ) (fun _ _=>False):=by
 have hd:=h.disk
 refine CallJ.fn (fn_Disk_node_of X.w) D_Disk_node_of rfl fun _ _=>?_
 walk_at "c"
 refine (check_alive_ok hd (by walk_at "lg")).mono ?_ nof
 intro v σ' zz;refine e2 zz ?_
 walk_at "r"
 refine Exists.intro _ (And.intro h.pres ?_)
 refine And.intro (fun hb=>absurd hb (by rw [hasKey_dirM,hn];simp)) (fun _=>?_)
 walk_at "r"
 refine ⟨_,SubR.dictS h.pres (by rw [getK_dirM,hn];rfl),?_⟩
 refine ⟨_,SubR.dictI h.nodes (getK_regM hk),?_⟩
 walk_at "r"
 exact ⟨rfl,rfl⟩
theorem node_of_missing{n:Str}(h:DAt σ i ⟨left,spent,true,made,nd,reg,kept,pres,jour⟩ g js)(hn:dget n pres=none)(hl:n.length≤900):CallJ X c 2 true (.ref 279) [.ref (.d i .disk),.str n] σ
  (fun _ _=>False) (fun c σ'=>c=73∧σ'=σ):=by
 have hd:=h.disk
 refine CallJ.fn (fn_Disk_node_of X.w) D_Disk_node_of rfl fun _ _=>?_
 walk_at "c"
 refine (check_alive_ok hd (by walk_at "lg")).mono ?_ nof
 intro v σ' zz;refine e2 zz ?_
 walk_at "r"
 refine Exists.intro _ (And.intro h.pres ?_)
 refine And.intro (fun _=>?_) (fun hb=>absurd hb (by rw [hasKey_dirM,hn];simp))
 walk_at "r"
 exact bin_cat (by decide +kernel) (by lia) ⟨rfl,rfl⟩
theorem dir_step_ok{a pr jr st:MA}{fs:List (String×MV)}{s:Stp}{dir:Dir}{vs:List MV}(h:σ a=some (.inst 387 fs))(hp:lget "present" fs=some (.ref pr))(hj:lget "journal" fs=some (.ref jr))
  (hpr:σ pr=some (.dictS (dirM dir))) (hjr:σ jr=some (.list vs)) (hst:σ st=some (stepO s)) (hf:s.fits dir) (hl:dir.length≤900) (hv:vs.length≤900):CallJ X c 2 true (.ref 286) [.ref a,.ref st] σ
  (fun v σ'=>v=.none∧σ'=upd (upd σ pr (.dictS (dirM (play s dir)))) jr (.list (vs++[.ref st]))) (fun _ _=>False):=by
 refine CallJ.fn (fn_Disk_dir_step X.w) D_Disk_dir_step rfl fun _ _=>?_
 refine ExSs.consK ?_;intro _ _
 have n1:a≠pr:=ne_obj h hpr rfl
 have n2:jr≠pr:=ne_obj hjr hpr rfl
 walk_at "r"
 refine (happen_ok hst hpr hf hl).mono ?_ nof
 intro v σ' zz;refine e2 zz ?_
 have hj2:upd σ pr (.dictS (dirM (play s dir))) jr=some (.list vs):=upd_at n2 hjr
 walk_at "r"
 refine EvE.bmeth rfl ?_
 walk_at "r"
 refine ⟨_,M.append hj2,?_⟩
 walk_at "r"
 refine B.append hj2 (by lia) ?_
 walk_at "r"
 exact ⟨rfl,rfl⟩
theorem DirStep_new{m:Nat}{k:Int}{n o:Str}{q:Nat}(hm:σ (.x m)=none):CallJ X c 2 true (.ref 170) [.int k,.str n,.str o,.int q] σ
  (fun v σ'=>v=.ref (.x m)∧σ'=upd σ (.x m) (stepO ⟨k,n,o,q⟩)) (fun _ _=>False):=by
 refine CallJ.cls (C:=170) (meth_ok X.w (m:="__init__") rfl) (.x m) hm ?_
 refine CallJ.fn (fn_DirStep_init X.w) D_DirStep_init rfl fun _ _=>?_
 walk_at "c"
 refine ⟨rfl,rfl,?_⟩
 rw [upd_upd,upd_upd,upd_upd,upd_upd]
 kernel_rfl
theorem Node_new{a d:MA}{k q:Int}(hm:σ a=none):CallJ X c 2 true (.ref 142) [.int k,.ref d,.int q] σ
  (fun v σ'=>v=.ref a∧σ'=upd σ a (.inst 142 [("number",.int k),("data",.ref d),("kept",.int q)])) (fun _ _=>False):=by
 refine CallJ.cls (C:=142) (meth_ok X.w (m:="__init__") rfl) a hm ?_
 refine CallJ.fn (fn_Node_init X.w) D_Node_init rfl fun _ _=>?_
 walk_at "c"
 refine ⟨rfl,rfl,?_⟩
 rw [upd_upd,upd_upd,upd_upd]
 kernel_rfl
noncomputable abbrev fileO(i:Nat)(n:Str)(k:Nat)(closed:Bool):MO:=.inst 226 [("disk",.ref (.d i .disk)),("name",.str n),("node",.ref (.d i (.node k))),("closed",.bool closed)]
theorem fileO_inj{i j k l:Nat}{n m:Str}{a b:Bool}(h:some (fileO i n k a)=some (fileO j m l b)):i=j∧n=m∧k=l∧a=b:=by
 injection h with h
 injection h with _ h
 injection h with e1 h
 injection h with e2 h
 injection h with e3 h
 injection h with e4 _
 injection e1 with _ e1;injection e1 with e1;injection e1 with e1
 injection e2 with _ e2;injection e2 with e2
 injection e3 with _ e3;injection e3 with e3;injection e3 with _ e3;injection e3 with e3
 injection e4 with _ e4;injection e4 with e4
 exact ⟨e1,e2,e3,e4⟩
theorem File_new{m i k:Nat}{n:Str}(hm:σ (.x m)=none):CallJ X c 2 true (.ref 226) [.ref (.d i .disk),.str n,.ref (.d i (.node k))] σ
  (fun v σ'=>v=.ref (.x m)∧σ'=upd σ (.x m) (fileO i n k false)) (fun _ _=>False):=by
 refine CallJ.cls (C:=226) (meth_ok X.w (m:="__init__") rfl) (.x m) hm ?_
 refine CallJ.fn (fn_File_init X.w) D_File_init rfl fun _ _=>?_
 walk_at "c"
 refine ⟨rfl,rfl,?_⟩
 rw [upd_upd,upd_upd,upd_upd,upd_upd]
 kernel_rfl
theorem SubDisk_new{m:Nat}{a:MA}{q:Str}(hm:σ (.x m)=none):CallJ X c 2 true (.ref 522) [.ref a,.str q] σ
  (fun v σ'=>v=.ref (.x m)∧σ'=upd σ (.x m) (.inst 522 [("disk",.ref a),("prefix",.str q)])) (fun _ _=>False):=by
 refine CallJ.cls (C:=522) (meth_ok X.w (m:="__init__") rfl) (.x m) hm ?_
 refine CallJ.fn (fn_SubDisk_init X.w) D_SubDisk_init rfl fun _ _=>?_
 walk_at "c"
 refine ⟨rfl,rfl,?_⟩
 rw [upd_upd,upd_upd]
 kernel_rfl
end
section
open PySem.Spec
noncomputable def leS(a b:Str):Bool:=!ltCps b.cps.toList a.cps.toList
theorem ltCps_trans{a b c:List Nat}(h:ltCps a b=true)(h':ltCps b c=true):ltCps a c=true:=by
 rw [ltCps_eq,decide_eq_true_eq] at *;exact List.lt_trans h h'
theorem ltCps_asymm{a b:List Nat}(h:ltCps a b=true):ltCps b a=false:=by
 cases e:ltCps b a with
 | false=>rfl
 | true=>rw [ltCps_eq,decide_eq_true_eq] at *;exact absurd e (List.lt_asymm h)
theorem ltCps_total{a b:List Nat}(h:ltCps a b=false)(h':ltCps b a=false):a=b:=by
 induction a generalizing b with
 | nil=>cases b with
  | nil=>rfl
  | cons=>exact Bool.noConfusion h
 | cons a r ih=>cases b with
  | nil=>exact Bool.noConfusion h'
  | cons b t =>
   simp only [ltCps,Bool.or_eq_false_iff,decide_eq_false_iff_not,Bool.and_eq_false_iff,beq_eq_false_iff_ne] at h h'
   have e:a=b:=Nat.le_antisymm (Nat.le_of_not_lt h'.1) (Nat.le_of_not_lt h.1)
   rw [e,ih (h.2.resolve_left fun z=>z e) (h'.2.resolve_left fun z=>z e.symm)]
theorem leS_trans(a b c:Str)(h:leS a b=true)(h':leS b c=true):leS a c=true:=by
 unfold leS at *
 simp only [Bool.not_eq_true'] at *
 cases e:ltCps c.cps.toList a.cps.toList with
 | false=>rfl
 | true =>
  by_cases e2:ltCps a.cps.toList b.cps.toList=true
  ·have:=ltCps_trans e e2;rw [h'] at this;cases this
  ·have:=ltCps_total (Bool.eq_false_iff.mpr e2) h
   rw [← this,e] at h';cases h'
theorem leS_total(a b:Str):(leS a b || leS b a)=true:=by
 unfold leS
 cases e:ltCps b.cps.toList a.cps.toList with
 | false=>rfl
 | true=>rw [ltCps_asymm e];rfl
theorem leS_antisymm{a b:Str}(h:leS a b=true)(h':leS b a=true):a=b:=by
 unfold leS at *
 simp only [Bool.not_eq_true'] at *
 have:=ltCps_total h' h
 cases a;cases b;simp only [Str.mk.injEq];exact Array.toList_inj.mp this
theorem risingS_pairwise:∀ {r:List Str} {p:Str},risingS p r=true→(p::r).Pairwise fun a b=>leS a b=true
 | [],p,_=>by simp
 | x::r,p,h=>by
  unfold risingS at h
  refine c0_2 (Bool.and_eq_true_iff.mp h) fun h1 h2=>?_
  have ih:=risingS_pairwise h2
  refine List.pairwise_cons.mpr ⟨fun y hy=>?_,ih⟩
  rcases List.mem_cons.mp hy with rfl | hy
  ·exact h1
  ·exact leS_trans _ _ _ h1 ((List.pairwise_cons.mp ih).1 y hy)
theorem sortedS_pairwise{l:List Str}(h:sortedS l=true):l.Pairwise fun a b=>leS a b=true:=by
 cases l with
 | nil=>simp
 | cons x r=>exact risingS_pairwise h
noncomputable def snames(l:List Str):List Str:=l.mergeSort leS
theorem snames_eq{l ks:List Str}(hp:ks.Perm l)(hs:sortedS ks=true):ks=snames l :=
 List.Perm.eq_of_pairwise (le:=fun a b=>leS a b=true) (fun a b _ _ h h'=>leS_antisymm h h') (sortedS_pairwise hs) (List.pairwise_mergeSort leS_trans leS_total l) (hp.trans (List.mergeSort_perm l leS).symm)
theorem snames_perm(l:List Str):(snames l).Perm l:=List.mergeSort_perm l leS
theorem snames_pairwise(l:List Str):(snames l).Pairwise fun a b=>leS a b=true:=List.pairwise_mergeSort leS_trans leS_total l
theorem snames_unique{l ks:List Str}(hp:ks.Perm l)(hs:ks.Pairwise fun a b=>leS a b=true):snames l=ks :=
 List.Perm.eq_of_pairwise (le:=fun a b=>leS a b=true) (fun a b _ _ h h'=>leS_antisymm h h') (snames_pairwise l) hs ((snames_perm l).trans hp.symm)
noncomputable def snums(l:List Nat):List Nat:=l.mergeSort (fun a b=>decide (a≤b))
theorem snums_eq{l:List Nat}{ks:List Int}(hp:ks.Perm (l.map fun k:Nat=>(k:Int)))(hs:ks.Pairwise (·≤ ·)):ks=(snums l).map fun k:Nat=>(k:Int):=by
 refine List.Perm.eq_of_pairwise (le:=fun a b:Int=>a≤b) (fun a b _ _ h h'=>by lia) hs ?_ (hp.trans ((List.mergeSort_perm l _).map _).symm)
 have:=List.pairwise_mergeSort (le:=fun a b:Nat=>decide (a≤b)) (by intro a b c h h';simp at *;lia) (by intro a b;simp;lia) l
 exact List.Pairwise.map _ (fun a b h=>by simp at h;lia) this
theorem snums_perm(l:List Nat):(snums l).Perm l:=List.mergeSort_perm l _
end
noncomputable def uptoOf(k:Nat)(l:List Stp):Nat:=(l.foldl (fun (a:Nat×Nat) s=>(a.1+1,if s.kind=1∧s.num=k then a.1+1 else a.2)) (0,0)).2
theorem upto_fst(k:Nat)(l:List Stp):∀ a:Nat×Nat,(l.foldl (fun (a:Nat×Nat) s=>(a.1+1,if s.kind=1∧s.num=k then a.1+1 else a.2)) a).1=a.1+l.length:=by
 induction l with
 | nil=>intro a;rfl
 | cons s l ih=>intro a;rw [List.foldl_cons,ih];simp;lia
theorem upto_snoc(k:Nat)(l:List Stp)(s:Stp):uptoOf k (l++[s])=if s.kind=1∧s.num=k then l.length+1 else uptoOf k l:=by
 unfold uptoOf
 rw [List.foldl_append,List.foldl_cons,List.foldl_nil]
 dsimp only
 rw [upto_fst]
 simp
theorem upto_le(k:Nat)(l:List Stp):uptoOf k l≤l.length:=by
 have key:∀ (l:List Stp) (a:Nat×Nat),a.2≤a.1→(l.foldl (fun (a:Nat×Nat) s=>(a.1+1,if s.kind=1∧s.num=k then a.1+1 else a.2)) a).2≤a.1+l.length:=by
  intro l
  induction l with
  | nil=>intro a h;exact h
  | cons s l ih =>
   intro a h
   rw [List.foldl_cons]
   refine Nat.le_trans (ih _ ?_) ?_
   ·dsimp only;split <;> lia
   ·simp;lia
 have:=key l (0,0) (Nat.le_refl _)
 simp only [Nat.zero_add] at this
 exact this
noncomputable def plays(l:List Stp)(d:Dir):Dir:=l.foldl (fun d s=>play s d) d
noncomputable def Fits:List Stp→Dir→Prop
 | [],_=>True
 | s::l,d=>s.fits d∧Fits l (play s d)
noncomputable def Dk.keep(D:Dk)(k:Nat):Dk:={ D with kept:=plays (D.jour.take (uptoOf k D.jour)) D.kept,jour:=D.jour.drop (uptoOf k D.jour) }
noncomputable def Dk.stepd(D:Dk)(s:Stp):Dk:={ D with spent:=D.spent+1,pres:=play s D.pres,jour:=D.jour++[s] }
noncomputable def Dk.put(D:Dk)(k:Nat)(n:Nd):Dk:={ D with nd:=fun j=>if j=k then some n else D.nd j }
noncomputable def Dk.mk1(D:Dk)(n:Str):Dk:={ (D.stepd ⟨1,n,Str.ofString "",D.made+1⟩).put (D.made+1) ⟨#[],0⟩ with made:=D.made+1,reg:=D.reg++[D.made+1] }
noncomputable def Dk.appd(D:Dk)(k:Nat)(n:Nd)(b:Array UInt8):Dk:={ D.put k ⟨n.data++b,n.kept⟩ with spent:=D.spent+b.size }
noncomputable def Dk.syncd(D:Dk)(k:Nat)(n:Nd):Dk:=({ D.put k ⟨n.data,n.data.size⟩ with spent:=D.spent+1 }).keep k
theorem rejour{σ:Hp}{i:Nat}{D:Dk}{g:Gs}{js js':List MA}(h:DAt σ i D g js){ss:List Stp}(hs:StepsAt σ js' ss) :
  DAt (upd (upd σ (.d i (.jr (g.j+1))) (.list (js'.map .ref))) (.d i .disk) (diskO i { D with jour:=ss } ⟨g.n,g.k,g.p,g.j+1⟩)) i { D with jour:=ss } ⟨g.n,g.k,g.p,g.j+1⟩ js' where
 disk:=upd_self ..
 nodes:=udf tru (udf tru h.nodes)
 kept:=udf tru (udf tru h.kept)
 pres:=udf tru (udf tru h.pres)
 jour:=udf tru (upd_self ..)
 steps:=(hs.upd notx_d).upd notx_d
 nd k n e:=⟨udf tru (udf tru (h.nd k n e).1),udf tru (udf tru (h.nd k n e).2)⟩
 fn k e:=udf tru (udf tru (h.fn k e))
 fk k e:=udf tru (udf tru (h.fk k e))
 fj k e:=by
  have e':g.j+1<k:=e
  exact udf tru (upd_at (by intro z;cases z;lia) (h.fj k (by lia)))
 fd j e:=⟨udf tru (udf tru (h.fd j e).1),udf tru (udf tru (h.fd j e).2)⟩
theorem list_length_mapref(js:List MA):(js.map MV.ref).length=js.length:=by simp
section
variable{X:Cx}{c:Bool}{σ:Hp}{i:Nat}{g:Gs}{js:List MA}{left spent:Int}{alive:Bool}{made:Nat}{nd:Nat→Option Nd}{reg:List Nat}{kept pres:Dir}{jour:List Stp}{D:Dk}
theorem fits_take{l:List Stp}{d:Dir}(h:Fits l d):∀ {j:Nat} {s:Stp},l[j]?=some s→s.fits (plays (l.take j) d):=by
 induction l generalizing d with
 | nil=>intro j s e;simp at e
 | cons a l ih =>
  intro j s e
  cases j with
  | zero=>cases e;exact h.1
  | succ j=>exact ih h.2 (by simpa using e)
set_option tactic.hygienic true in
theorem play_len(s:Stp)(d:Dir):(play s d).length≤d.length+1:=by
 have h1:∀ n k (d:Dir),(dset n k d).length≤d.length+1:=fun n k d=>by unfold dset;split <;> simp
 have h2:∀ n,(ddel n d).length≤d.length:=fun n=>List.length_filter_le ..
 unfold play
 split
 ·exact h1 ..
 ·split
  ·have:=h2 s.name;lia
  ·split
   ·rename_i k _;have:=h1 s.other k (ddel s.name d);have:=h2 s.name;lia
   ·lia
theorem plays_len(l:List Stp):∀ d:Dir,(plays l d).length≤d.length+l.length:=by
 induction l with
 | nil=>intro d;exact Nat.le_refl _
 | cons s l ih=>intro d;have:=ih (play s d);have:=play_len s d;show (plays l (play s d)).length≤_;rw [List.length_cons];lia
theorem plays_snoc(l:List Stp)(s:Stp)(d:Dir):plays (l++[s]) d=play s (plays l d):=by unfold plays;rw [List.foldl_append];rfl
set_option tactic.hygienic true in
theorem keep_creation_ok{k:Nat}(h:DAt σ i D g js)(hS:Sup σ)(hf:Fits D.jour D.kept)(hl:D.jour.length≤100)(hk:D.kept.length≤100):CallJ X c 2 true (.ref 293) [.ref (.d i .disk),.int k] σ
  (fun v σ'=>v=.none∧Kp (inD i) σ σ'∧∃ g' js',DAt σ' i (D.keep k) g' js') (fun _ _=>False):=by
 have hd:=h.disk
 refine CallJ.fn (fn_Disk_keep_creation X.w) D_Disk_keep_creation rfl fun _ _=>?_
 walk_at "c"
 refine c1_1 hS.x fun m hm=>?_
 have hjl:(js.map MV.ref).length=D.jour.length:=by rw [list_length_mapref,h.steps.length]
 refine ExS.forIn rfl (by walk_at "mem") ?_
 walk_at "r"
 refine B.len_list h.jour (by lia) ?_
 walk_at "r"
 refine B.range hm ?_
 have h1:DAt (upd σ (.x m) (.range D.jour.length)) i D g js:=h.x hm
 refine ⟨.rng D.jour.length,_,⟨_,rfl,by rw [hjl];exact upd_self ..,by lia⟩,rfl,fun q σ' ρ'=>σ'=upd σ (.x m) (.range D.jour.length)∧lget "self" ρ'=some (.ref (.d i .disk))∧lget "number" ρ'=some (.int k)∧lget "upto" ρ'=some (.int (uptoOf k (D.jour.take q):Nat)),?_,?_,?_,?_⟩
 ·rw [hjl];exact ⟨rfl,by walk_at "lg",by walk_at "lg",by walk_at "lg"⟩
 ·rintro q σ' ρ' _;rfl
 ·intro q σ' ρ' v;refine f0_4 ?_;rintro rfl g1 g2 g3;rintro hv _ _
  rw [List.getElem?_map] at hv
  refine c1_2 (Option.map_eq_some_iff.mp hv) ?_;rintro j hj rfl
  have hjq:j=q∧q<D.jour.length:=by
   have:=List.getElem?_eq_some_iff.mp hj
   refine c1_1 this fun a b=>?_
   rw [List.getElem_range] at b
   rw [List.length_range] at a
   exact ⟨b.symm,a⟩
  refine c0_2 hjq ?_;rintro rfl hlt
  have hjs:j<js.length:=by rw [h.steps.length];exact hlt
  obtain ⟨s,hs,⟨ms,hms⟩,hss⟩:=h1.steps.get (List.getElem?_eq_getElem hjs)
  have htake:D.jour.take (j+1)=D.jour.take j++[s]:=by rw [List.take_add_one,hs];rfl
  have hd1:=h1.disk
  walk_at "r"
  refine ⟨_,SubR.list h1.jour (by lia) (by lia) (by rw [Int.toNat_natCast,List.getElem?_map,List.getElem?_eq_getElem hjs];rfl),?_⟩
  walk_at "r"
  refine And.intro (fun hb=>?_) (fun hb=>?_)
  ·have hne:¬ s.kind=1:=by simpa using hb
   refine And.intro (fun hb=>absurd hb (by simp [hne])) (fun _=>?_)
   walk_at "r"
   refine ⟨rfl,by walk_at "lg",by walk_at "lg",?_⟩
   rw [htake,upto_snoc,if_neg (by simp [hne])]
   walk_at "lg"
  ·have he:s.kind=1:=by simpa using hb
   walk_at "r"
   refine And.intro (fun hb=>?_) (fun hb=>?_)
   ·have hne:¬ s.num=k:=by simp at hb;lia
    refine And.intro (fun hb=>absurd hb (by simp;lia)) (fun _=>?_)
    walk_at "r"
    refine ⟨rfl,by walk_at "lg",by walk_at "lg",?_⟩
    rw [htake,upto_snoc,if_neg (by simp [hne])]
    walk_at "lg"
   ·have he2:s.num=k:=by simp at hb;lia
    walk_at "r"
    refine And.intro (fun _=>?_) (fun hb=>absurd hb (by simp [he2]))
    walk_at "r"
    refine ⟨rfl,by walk_at "lg",by walk_at "lg",?_⟩
    rw [htake,upto_snoc,if_pos ⟨he,he2⟩,List.length_take,Nat.min_eq_left (by lia)]
    exact lget_set_hit
 ·intro σ' ρ';refine f0_4 ?_;rintro rfl g1 g2 g3
  rw [List.length_map,List.length_range,List.take_length] at g3
  have hd1:=h1.disk
  have hS1:Sup (upd σ (.x m) (.range D.jour.length)):=hS.upd _ _
  have K1:Kp (inD i) σ (upd σ (.x m) (.range D.jour.length)):=.new (free_x hm)
  refine c1_1 hS1.x fun m2 hm2=>?_
  generalize hu:uptoOf k D.jour=u at g3
  have hule:u≤D.jour.length:=hu▸upto_le k D.jour
  have hjs:(js.map MV.ref).length≤1000:=by lia
  walk_at "r"
  refine ExS.forIn rfl (by walk_at "mem") ?_
  refine EvE.upto ?_
  walk_at "r"
  refine ⟨u,rfl,.x m2,hm2,.inl ⟨_,h1.jour,hjs,?_⟩⟩
  have h2:DAt (upd (upd σ (.x m) (.range D.jour.length)) (.x m2) (.list ((js.map MV.ref).take u))) i D g js:=h1.x hm2
  have K2:Kp (inD i) σ (upd (upd σ (.x m) (.range D.jour.length)) (.x m2) (.list ((js.map MV.ref).take u))):=K1.then_x hm2
  generalize hσ2:upd (upd σ (.x m) (.range D.jour.length)) (.x m2) (.list ((js.map MV.ref).take u))=σ2 at h2 K2
  have hl2:σ2 (.x m2)=some (.list ((js.map MV.ref).take u)):=by rw [← hσ2];exact upd_self ..
  refine ⟨.list (.x m2),_,rfl,hl2,fun q σ' ρ'=>Kp (inD i) σ2 σ'∧DAt σ' i { D with kept:=plays (D.jour.take q) D.kept } g js∧lget "self" ρ'=some (.ref (.d i .disk))∧lget "upto" ρ'=some (.int u),?_,?_,?_,?_⟩
  ·exact ⟨.refl _ _,h2,g1,g3⟩
  ·intro q σ' ρ';refine f0_2 fun K _=>?_;exact K.at hl2 (by refine f1_1 fun p z=>?_;exact dif_no z rfl)
  ·intro q σ' ρ' v;refine f0_4 fun K hD q1 q3=>?_;rintro hv _ _
   have hvq:q<u∧∃ a,js[q]?=some a∧v=.ref a:=by
    rw [List.getElem?_take] at hv
    split at hv
    ·rename_i hq
     rw [List.getElem?_map] at hv
     refine c1_2 (Option.map_eq_some_iff.mp hv) ?_;rintro a ha rfl
     exact ⟨hq,a,ha,rfl⟩
    ·exact nos hv
   obtain ⟨hqu,a,ha,rfl⟩:=hvq
   obtain ⟨s,hs,⟨ms,rfl⟩,hss⟩:=hD.steps.get ha
   dsimp only at hs
   have hd3:=hD.disk
   walk_at "r"
   refine (happen_ok hss hD.kept (fits_take hf hs) (by have:=plays_len (D.jour.take q) D.kept;rw [List.length_take] at this;dsimp only;lia)).mono ?_ nof
   intro v σ3 zz;refine e2 zz ?_
   walk_at "r"
   have e:plays (D.jour.take (q+1)) D.kept=play s (plays (D.jour.take q) D.kept):=by rw [List.take_add_one,hs];exact plays_snoc ..
   refine ⟨K.then_upd ⟨_,rfl⟩,?_,by walk_at "lg",by walk_at "lg"⟩
   rw [e]
   exact hD.kepts _
  ·intro σ' ρ';refine f0_4 fun K hD q1 q3=>?_
   have hlen:((js.map MV.ref).take u).length=u:=by rw [List.length_take,hjl];lia
   rw [hlen] at hD
   have hd3:=hD.disk
   have hfj:=hD.fj (g.j+1) (by lia)
   walk_at "r"
   refine EvE.from ?_
   walk_at "r"
   refine ⟨u,rfl,.d i (.jr (g.j+1)),hfj,.inl ⟨_,hD.jour,hjs,?_⟩⟩
   walk_at "r"
   have hR:=rejour hD (hD.steps.drop u)
   refine ⟨rfl,(K2.trans K).trans ((Kp.upd ⟨_,rfl⟩).then_upd ⟨_,rfl⟩),⟨g.n,g.k,g.p,g.j+1⟩,js.drop u,?_⟩
   rw [List.map_drop] at hR
   simp only [lset] at *
   unfold Dk.keep
   rw [hu]
   exact hR
end
section
variable{X:Cx}{c:Bool}{σ:Hp}{i:Nat}{g:Gs}{js:List MA}{left spent:Int}{alive:Bool}{made:Nat}{nd:Nat→Option Nd}{reg:List Nat}{kept pres:Dir}{jour:List Stp}{D:Dk}
theorem ready_ok{b:Bool}{m k:Nat}{n:Str}(h:DAt σ i ⟨left,spent,true,made,nd,reg,kept,pres,jour⟩ g js)(hf:σ (.x m)=some (fileO i n k false)):CallJ X c 2 b (.ref 195) [.ref (.x m)] σ
  (fun v σ'=>v=.none∧σ'=σ) (fun _ _=>False):=by
 have hd:=h.disk
 refine CallJ.fn (fn_File_ready X.w) D_File_ready rfl fun _ _=>?_
 walk_at "c"
 refine (check_alive_ok hd (by walk_at "lg")).mono ?_ nof
 intro v σ' zz;refine e2 zz ?_
 walk_at "r"
 refine ⟨_,rfl,And.intro (fun z=>by cases z) (fun _=>?_)⟩
 walk_at "r"
 exact ⟨rfl,rfl⟩
theorem ready_closed{m k:Nat}{n:Str}(h:DAt σ i ⟨left,spent,true,made,nd,reg,kept,pres,jour⟩ g js)(hf:σ (.x m)=some (fileO i n k true))(hn:n.length≤500):CallJ X c 2 true (.ref 195) [.ref (.x m)] σ
  (fun _ _=>False) (fun c σ'=>c=109∧σ'=σ):=by
 have hd:=h.disk
 refine CallJ.fn (fn_File_ready X.w) D_File_ready rfl fun _ _=>?_
 walk_at "c"
 refine (check_alive_ok hd (by walk_at "lg")).mono ?_ nof
 intro v σ' zz;refine e2 zz ?_
 walk_at "r"
 refine ⟨_,rfl,And.intro (fun _=>?_) (fun z=>by cases z)⟩
 walk_at "r"
 refine bin_cat (by decide +kernel) (by lia) ?_
 walk_at "r"
 refine bin_cat ?_ (by decide +kernel) ?_
 ·rw [Str.length_append]
  have:(Str.ofString "the file ").length≤100:=by decide +kernel
  lia
 ·exact ⟨rfl,rfl⟩
theorem append_ok{m k:Nat}{n:Str}{nn:Nd}{b:Array UInt8}(h:DAt σ i ⟨-1,spent,true,made,nd,reg,kept,pres,jour⟩ g js)(hf:σ (.x m)=some (fileO i n k false))(hk:nd k=some nn)(hb:nn.data.size+b.size≤900) :
  CallJ X true 3 true (.ref 202) [.ref (.x m),.bytes b] σ
  (fun v σ'=>v=.none∧Kp (inD i) σ σ'∧DAt σ' i (Dk.appd ⟨-1,spent,true,made,nd,reg,kept,pres,jour⟩ k nn b) g js) (fun _ _=>False):=by
 have hd:=h.disk
 refine CallJ.fn (fn_File_append X.w) D_File_append rfl fun _ _=>?_
 walk_at "c"
 refine (ready_ok h hf).mono ?_ nof
 intro v σ' zz;refine e2 zz ?_
 walk_at "r"
 refine B.len_bytes (by lia) ?_
 walk_at "r"
 refine (take_steps_inf h).mono ?_ nof
 intro v σ2 zz;refine e2 zz ?_
 have h2:=h.set (D':=⟨-1,spent+(b.size:Int),true,made,nd,reg,kept,pres,jour⟩) (Nat.le_refl _)
 have K2:Kp (inD i) σ (upd σ (.d i .disk) (diskO i ⟨-1,spent+(b.size:Int),true,made,nd,reg,kept,pres,jour⟩ g)):=.upd ⟨_,rfl⟩
 have hf2:upd σ (.d i .disk) (diskO i ⟨-1,spent+(b.size:Int),true,made,nd,reg,kept,pres,jour⟩ g) (.x m)=some (fileO i n k false):=K2.at hf (by refine f1_1 fun p z=>?_;exact dif_no z rfl)
 generalize upd σ (.d i .disk) (diskO i ⟨-1,spent+(b.size:Int),true,made,nd,reg,kept,pres,jour⟩ g)=σ2 at h2 K2 hf2 ⊢
 have hd2:=h2.disk
 refine c0_2 (h2.nd k nn hk) fun hn1 hn2=>?_
 walk_at "r"
 refine And.intro (fun hb=>absurd hb (by simp)) (fun _=>?_)
 walk_at "r"
 refine EvE.bmeth rfl ?_
 walk_at "r"
 refine ⟨_,M.extend hn2,?_⟩
 walk_at "r"
 refine B.extend hn2 (by lia) ?_
 walk_at "r"
 exact ⟨rfl,K2.then_upd ⟨_,rfl⟩,h2.buf hk⟩
theorem append_dies{m k l:Nat}{n:Str}{nn:Nd}{b:Array UInt8}(h:DAt σ i ⟨(l:Int),spent,true,made,nd,reg,kept,pres,jour⟩ g js)(hf:σ (.x m)=some (fileO i n k false))(hk:nd k=some nn)(hb:nn.data.size+b.size≤900)(hl:l<b.size)(hnl:n.length≤500) :
  CallJ X true 3 true (.ref 202) [.ref (.x m),.bytes b] σ (fun _ _=>False)
  (fun c σ'=>c=97∧Kp (inD i) σ σ'∧DAt σ' i { (Dk.put ⟨0,spent+l,false,made,nd,reg,kept,pres,jour⟩ k ⟨nn.data++takeB b l,nn.kept⟩) with left:=0 } g js):=by
 have hd:=h.disk
 refine CallJ.fn (fn_File_append X.w) D_File_append rfl fun _ _=>?_
 walk_at "c"
 refine (ready_ok h hf).mono ?_ nof
 intro v σ' zz;refine e2 zz ?_
 walk_at "r"
 refine B.len_bytes (by lia) ?_
 walk_at "r"
 refine (take_steps_fin h).mono ?_ nof
 rintro v σ2 (⟨hz,_⟩ | ⟨_,rfl,rfl⟩)
 ·lia
 have h2:=h.set (D':=⟨0,spent+(l:Int),false,made,nd,reg,kept,pres,jour⟩) (Nat.le_refl _)
 have K2:Kp (inD i) σ (upd σ (.d i .disk) (diskO i ⟨0,spent+(l:Int),false,made,nd,reg,kept,pres,jour⟩ g)):=.upd ⟨_,rfl⟩
 have hf2:upd σ (.d i .disk) (diskO i ⟨0,spent+(l:Int),false,made,nd,reg,kept,pres,jour⟩ g) (.x m)=some (fileO i n k false):=K2.at hf (by refine f1_1 fun p z=>?_;exact dif_no z rfl)
 generalize upd σ (.d i .disk) (diskO i ⟨0,spent+(l:Int),false,made,nd,reg,kept,pres,jour⟩ g)=σ2 at h2 K2 hf2 ⊢
 have hd2:=h2.disk
 refine c0_2 (h2.nd k nn hk) fun hn1 hn2=>?_
 have htb:(takeB b l).size≤b.size:=by rw [takeB_size];lia
 walk_at "r"
 refine And.intro (fun _=>?_) (fun hb=>absurd hb (by simp;lia))
 walk_at "r"
 refine EvE.bmeth rfl ?_
 walk_at "r"
 refine ⟨_,M.extend hn2,?_⟩
 walk_at "r"
 refine EvE.upto ?_
 walk_at "r"
 refine ⟨l,rfl,by lia,?_⟩
 walk_at "r"
 refine B.extend hn2 (by lia) ?_
 have K3:=K2.then_upd (a:=.d i (.nbuf k)) (o:=.barr (nn.data++takeB b l)) ⟨_,rfl⟩
 have hf3:upd σ2 (.d i (.nbuf k)) (.barr (nn.data++takeB b l)) (.x m)=some (fileO i n k false):=udf tru hf2
 walk_at "r"
 refine bin_cat (by decide +kernel) (by lia) ?_
 exact ⟨rfl,K3,h2.buf hk⟩
theorem close_ok{m k:Nat}{n:Str}(h:DAt σ i ⟨left,spent,true,made,nd,reg,kept,pres,jour⟩ g js)(hf:σ (.x m)=some (fileO i n k false)):CallJ X c 3 true (.ref 216) [.ref (.x m)] σ
  (fun v σ'=>v=.none∧σ'=upd σ (.x m) (fileO i n k true)) (fun _ _=>False):=by
 have hd:=h.disk
 refine CallJ.fn (fn_File_close X.w) D_File_close rfl fun _ _=>?_
 walk_at "c"
 refine (ready_ok h hf).mono ?_ nof
 intro v σ' zz;refine e2 zz ?_
 walk_at "r"
 exact ⟨rfl,rfl⟩
theorem length_ok{m k:Nat}{n:Str}{nn:Nd}(h:DAt σ i ⟨left,spent,true,made,nd,reg,kept,pres,jour⟩ g js)(hf:σ (.x m)=some (fileO i n k false))(hk:nd k=some nn)(hb:nn.data.size≤900):CallJ X c 3 true (.ref 223) [.ref (.x m)] σ
  (fun v σ'=>v=.int nn.data.size∧σ'=σ) (fun _ _=>False):=by
 have hd:=h.disk
 refine CallJ.fn (fn_File_length X.w) D_File_length rfl fun _ _=>?_
 walk_at "c"
 refine (ready_ok h hf).mono ?_ nof
 intro v σ' zz;refine e2 zz ?_
 refine c0_2 (h.nd k nn hk) fun hn1 hn2=>?_
 walk_at "r"
 refine B.len_barr hn2 (by lia) ?_
 walk_at "go"
 exact ⟨rfl,rfl⟩
theorem closed_raises{m k:Nat}{n:Str}(h:DAt σ i ⟨left,spent,true,made,nd,reg,kept,pres,jour⟩ g js)(hf:σ (.x m)=some (fileO i n k true))(hn:n.length≤500) :
  (∀ b,CallJ X c 3 true (.ref 202) [.ref (.x m),.bytes b] σ (fun _ _=>False) (fun c σ'=>c=109∧σ'=σ))∧CallJ X c 3 true (.ref 209) [.ref (.x m)] σ (fun _ _=>False) (fun c σ'=>c=109∧σ'=σ) ∧
  CallJ X c 3 true (.ref 216) [.ref (.x m)] σ (fun _ _=>False) (fun c σ'=>c=109∧σ'=σ)∧CallJ X c 3 true (.ref 223) [.ref (.x m)] σ (fun _ _=>False) (fun c σ'=>c=109∧σ'=σ):=by
 refine ⟨fun b=>?_,?_,?_,?_⟩
 ·refine CallJ.fn (fn_File_append X.w) D_File_append rfl fun _ _=>?_
  walk_at "c"
  exact (ready_closed h hf hn).mono nof (fun _ _ z=>z)
 ·refine CallJ.fn (fn_File_sync X.w) D_File_sync rfl fun _ _=>?_
  walk_at "c"
  exact (ready_closed h hf hn).mono nof (fun _ _ z=>z)
 ·refine CallJ.fn (fn_File_close X.w) D_File_close rfl fun _ _=>?_
  walk_at "c"
  exact (ready_closed h hf hn).mono nof (fun _ _ z=>z)
 ·refine CallJ.fn (fn_File_length X.w) D_File_length rfl fun _ _=>?_
  walk_at "c"
  exact (ready_closed h hf hn).mono nof (fun _ _ z=>z)
theorem sync_ok{m k:Nat}{n:Str}{nn:Nd}(h:DAt σ i ⟨-1,spent,true,made,nd,reg,kept,pres,jour⟩ g js)(hS:Sup σ)(hf:σ (.x m)=some (fileO i n k false))(hk:nd k=some nn)(hb:nn.data.size≤900)(hn:n.length≤500)
  (hF:Fits jour kept) (hl:jour.length≤100) (hkl:kept.length≤100):CallJ X c 4 true (.ref 209) [.ref (.x m)] σ
  (fun v σ'=>v=.none∧Kp (inD i) σ σ'∧∃ g' js',DAt σ' i (Dk.syncd ⟨-1,spent,true,made,nd,reg,kept,pres,jour⟩ k nn) g' js') (fun _ _=>False):=by
 have hd:=h.disk
 refine CallJ.fn (fn_File_sync X.w) D_File_sync rfl fun _ _=>?_
 walk_at "c"
 refine ((ready_ok h hf).le (nle rfl)).mono ?_ nof
 intro v σ' zz;refine e2 zz ?_
 walk_at "r"
 refine bin_cat (by decide +kernel) (by lia) ?_
 walk_at "r"
 refine (one_step_inf h).mono ?_ nof
 intro v σ2 zz;refine e2 zz ?_
 have h2:=h.set (D':=⟨-1,spent+1,true,made,nd,reg,kept,pres,jour⟩) (Nat.le_refl _)
 have K2:Kp (inD i) σ (upd σ (.d i .disk) (diskO i ⟨-1,spent+1,true,made,nd,reg,kept,pres,jour⟩ g)):=.upd ⟨_,rfl⟩
 have hf2:upd σ (.d i .disk) (diskO i ⟨-1,spent+1,true,made,nd,reg,kept,pres,jour⟩ g) (.x m)=some (fileO i n k false):=K2.at hf (by refine f1_1 fun p z=>?_;exact dif_no z rfl)
 generalize upd σ (.d i .disk) (diskO i ⟨-1,spent+1,true,made,nd,reg,kept,pres,jour⟩ g)=σ2 at h2 K2 hf2 ⊢
 have hd2:=h2.disk
 refine c0_2 (h2.nd k nn hk) fun hn1 hn2=>?_
 walk_at "r"
 refine ExS.setattr ?_ (by intro _;rfl)
 walk_at "r"
 refine B.len_barr hn2 (by lia) ?_
 walk_at "r"
 refine ⟨_,_,_,rfl,hn1,rfl,nle rfl,?_⟩
 have h3:=h2.keepn (q:=nn.data.size) hk
 have K3:Kp (inD i) σ (upd σ2 (.d i (.node k)) (nodeO i k nn.data.size)):=K2.then_upd ⟨_,rfl⟩
 have hf3:upd σ2 (.d i (.node k)) (nodeO i k nn.data.size) (.x m)=some (fileO i n k false):=udf tru hf2
 have el:(MO.inst 142 (lset "kept" (MV.int nn.data.size) [("number",.int k),("data",.ref (.d i (.nbuf k))),("kept",.int nn.kept)]))=nodeO i k nn.data.size:=by kernel_rfl
 rw [el]
 generalize upd σ2 (.d i (.node k)) (nodeO i k nn.data.size)=σ3 at h3 K3 hf3 ⊢
 have hd3:=h3.disk
 have hn3:=(h3.nd k ⟨nn.data,nn.data.size⟩ (if_pos rfl)).1
 walk_at "r"
 refine ((keep_creation_ok h3 (K3.sup hS) hF hl hkl).le (nle rfl)).mono ?_ nof
 rintro v σ4 ⟨rfl,K4,g',js',h4⟩
 walk_at "r"
 exact ⟨rfl,K3.trans K4,g',js',h4⟩
end
noncomputable def Dk.new:Dk:=⟨-1,0,true,0,fun _=>none,[],[],[],[]⟩
section
variable{X:Cx}{c:Bool}{σ:Hp}{i:Nat}{g:Gs}{js:List MA}{left left' spent:Int}{alive:Bool}{made:Nat}{nd:Nat→Option Nd}{reg:List Nat}{kept pres:Dir}{jour:List Stp}{D:Dk}
theorem Disk_new{j:Nat}(hj:∀ p,σ (.d j p)=none):CallJ X c 2 true (.ref 387) [.int (-1)] σ
  (fun v σ'=>v=.ref (.d j .disk)∧Kp nil σ σ'∧DAt σ' j Dk.new ⟨0,0,0,0⟩ []∧σ' (.d j (.pr 1))=none) (fun _ _=>False):=by
 refine CallJ.cls (C:=387) (meth_ok X.w (m:="__init__") rfl) (.d j .disk) (hj _) ?_
 refine CallJ.fn (fn_Disk_init X.w) D_Disk_init rfl fun _ _=>?_
 walk_at "c"
 walk_at "n"
 walk_at "r"
 refine EvE.dictI0 (a:=.d j (.nm 0)) (udf tru (udf tru (udf tru (udf tru (hj _))))) ?_
 walk_at "r"
 refine EvE.dictS0 (a:=.d j (.kn 0)) (udf tru (udf tru (udf tru (udf tru (udf tru (udf tru (udf tru (hj _)))))))) ?_
 walk_at "r"
 refine EvE.dictS0 (a:=.d j (.pr 0)) (udf tru (udf tru (udf tru (udf tru (udf tru (udf tru (udf tru (udf tru (udf tru (hj _)))))))))) ?_
 walk_at "r"
 refine EvE.list ?_
 walk_at "r"
 refine ⟨.d j (.jr 0),udf tru (udf tru (udf tru (udf tru (udf tru (udf tru (udf tru (udf tru (udf tru (udf tru (udf tru (hj _))))))))))),by decide,?_⟩
 walk_at "r"
 refine ⟨rfl,rfl,?_,?_,?_⟩
 ·refine Kp.fresh (P:=nil) (j:=j) ?_ hj
  have p:∀ q,(fun a=>nil a∨∃ p,a=MA.d j p) (.d j q):=fun q=>.inr ⟨q,rfl⟩
  refine Kp.then_upd (Kp.then_upd (Kp.then_upd (Kp.then_upd (Kp.then_upd (Kp.then_upd (Kp.then_upd (Kp.then_upd (Kp.then_upd (Kp.then_upd (Kp.then_upd (Kp.then_upd (Kp.upd ?_) ?_) ?_) ?_) ?_) ?_) ?_) ?_) ?_) ?_) ?_) ?_) ?_ <;> exact p _
 ·have e:∀ (o:MO),upd (upd (upd (upd (upd (upd (upd (upd (upd (upd (upd (upd (upd σ (.d j .disk) (.inst 387 [])) (.d j .disk) o) (.d j .disk) o) (.d j .disk) o) (.d j (.nm 0)) (.dictI [])) (.d j .disk) o) (.d j .disk) o) (.d j (.kn 0)) (.dictS [])) (.d j .disk) o) (.d j (.pr 0)) (.dictS [])) (.d j .disk) o) (.d j (.jr 0)) (.list [])) (.d j .disk) o=σ→True:=fun _ _=>trivial
  refine ⟨?_,?_,?_,?_,?_,trivial,fun k n e=>(nomatch e),fun k e=>?_,fun k e=>?_,fun k e=>?_,fun k e=>⟨?_,?_⟩⟩
  ·rw [upd_self];kernel_rfl
  ·repeat first | exact upd_self .. | refine upd_at (by intro z;cases z) ?_
  ·repeat first | exact upd_self .. | refine upd_at (by intro z;cases z) ?_
  ·repeat first | exact upd_self .. | refine upd_at (by intro z;cases z) ?_
  ·repeat first | exact upd_self .. | refine upd_at (by intro z;cases z) ?_
  ·repeat first | exact hj _ | refine upd_at (by intro z;cases z <;> simp at e) ?_
  ·repeat first | exact hj _ | refine upd_at (by intro z;cases z <;> simp at e) ?_
  ·repeat first | exact hj _ | refine upd_at (by intro z;cases z <;> simp at e) ?_
  ·repeat first | exact hj _ | refine upd_at (by intro z;cases z) ?_
  ·repeat first | exact hj _ | refine upd_at (by intro z;cases z) ?_
 ·repeat first | exact hj _ | refine upd_at (by intro z;cases z) ?_
theorem create_over_core{n:Str}{E:Addr→Hp→Prop}(h:DAt σ i ⟨left,spent,true,made,nd,reg,kept,pres,jour⟩ g js)(hS:Sup σ)
  (h1:∀ what:Str,what.length≤900→CallJ X true 3 true (.ref 272) [.ref (.d i .disk),.str what] σ (fun v σ'=>v=.none∧σ'=upd σ (.d i .disk) (diskO i ⟨left',spent+1,true,made,nd,reg,kept,pres,jour⟩ g)) E)
  (hn:n.length≤500) (hr:made+1∉reg) (hpl:pres.length≤100) (hjl:jour.length≤100) (hrl:reg.length≤100):CallJ X true 4 true (.ref 307) [.ref (.d i .disk),.str n] σ
  (fun v σ'=>∃ m g' js',v=.ref (.x m)∧σ (.x m)=none∧σ' (.x m)=some (fileO i n (made+1) false)∧Kp (inD i) σ σ'∧DAt σ' i (Dk.mk1 ⟨left',spent,true,made,nd,reg,kept,pres,jour⟩ n) g' js') E:=by
 have hd:=h.disk
 refine CallJ.fn (fn_Disk_create_over X.w) D_Disk_create_over rfl fun _ _=>?_
 walk_at "c"
 refine bin_cat (by decide +kernel) (by lia) ?_
 walk_at "r"
 refine (h1 _ (by rw [Str.length_append];have:(Str.ofString "the creation of ").length≤100:=(by decide +kernel);lia)).mono ?_ (fun _ _ z=>z)
 intro v σ1 zz;refine e2 zz ?_
 have h2:=h.set (D':=⟨left',spent+1,true,made,nd,reg,kept,pres,jour⟩) (Nat.le_refl _)
 have K2:Kp (inD i) σ (upd σ (.d i .disk) (diskO i ⟨left',spent+1,true,made,nd,reg,kept,pres,jour⟩ g)):=.upd ⟨_,rfl⟩
 generalize upd σ (.d i .disk) (diskO i ⟨left',spent+1,true,made,nd,reg,kept,pres,jour⟩ g)=σ2 at h2 K2 ⊢
 have hd2:=h2.disk
 walk_at "r"
 have h3:=h2.set (D':=⟨left',spent+1,true,made+1,nd,reg,kept,pres,jour⟩) (Nat.le_succ _)
 have e3:(MO.inst 387 (lset "made" (MV.int ((made:Int)+1)) [("left",.int left'),("spent",.int (spent+1)),("alive",.bool true),("nodes",.ref (.d i (.nm g.n))),("made",.int made),
   ("kept_names",.ref (.d i (.kn g.k))),("present",.ref (.d i (.pr g.p))),("journal",.ref (.d i (.jr g.j)))]))=diskO i ⟨left',spent+1,true,made+1,nd,reg,kept,pres,jour⟩ g:=by kernel_rfl
 rw [e3]
 have K3:Kp (inD i) σ (upd σ2 (.d i .disk) (diskO i ⟨left',spent+1,true,made+1,nd,reg,kept,pres,jour⟩ g)):=K2.then_upd ⟨_,rfl⟩
 refine c0_2 (h2.fd (made+1) (Nat.lt_succ_self _)) fun f1 f2=>?_
 have f1':upd σ2 (.d i .disk) (diskO i ⟨left',spent+1,true,made+1,nd,reg,kept,pres,jour⟩ g) (.d i (.node (made+1)))=none:=udf tru f1
 have f2':upd σ2 (.d i .disk) (diskO i ⟨left',spent+1,true,made+1,nd,reg,kept,pres,jour⟩ g) (.d i (.nbuf (made+1)))=none:=udf tru f2
 generalize upd σ2 (.d i .disk) (diskO i ⟨left',spent+1,true,made+1,nd,reg,kept,pres,jour⟩ g)=σ3 at h3 K3 f1' f2' ⊢
 have hd3:=h3.disk
 walk_at "r"
 refine B.barr0 f2' ?_
 have f1'':upd σ3 (.d i (.nbuf (made+1))) (.barr #[]) (.d i (.node (made+1)))=none:=udf tru f1'
 have hd3':upd σ3 (.d i (.nbuf (made+1))) (.barr #[]) (.d i .disk)=some (diskO i ⟨left',spent+1,true,made+1,nd,reg,kept,pres,jour⟩ g):=udf tru hd3
 walk_at "r"
 refine ((Node_new f1'').le (nle rfl)).mono ?_ nof
 intro v σ4 zz;refine e2 zz ?_
 have h4:=h3.node (b:=#[]) (q:=0) f1' (Nat.le_refl _)
 have K4:Kp (inD i) σ (upd (upd σ3 (.d i (.nbuf (made+1))) (.barr #[])) (.d i (.node (made+1))) (nodeO i (made+1) 0)):=(K3.then_upd ⟨_,rfl⟩).then_upd ⟨_,rfl⟩
 have e4:MO.inst 142 [("number",.int ((made:Int)+1)),("data",.ref (.d i (.nbuf (made+1)))),("kept",.int 0)]=nodeO i (made+1) 0:=rfl
 rw [e4]
 generalize upd (upd σ3 (.d i (.nbuf (made+1))) (.barr #[])) (.d i (.node (made+1))) (nodeO i (made+1) 0)=σ4 at h4 K4 ⊢
 have hd4:=h4.disk
 have hn4:=(h4.nd (made+1) ⟨#[],0⟩ (if_pos rfl)).1
 walk_at "r"
 refine ⟨_,SetR.dictI h4.nodes (by rw [regM_length];dsimp only;lia),?_⟩
 rw [setK_regM hr]
 have h5:=h4.regs (reg++[made+1])
 have K5:Kp (inD i) σ (upd σ4 (.d i (.nm g.n)) (.dictI (regM i (reg++[made+1])))):=K4.then_upd ⟨_,rfl⟩
 generalize upd σ4 (.d i (.nm g.n)) (.dictI (regM i (reg++[made+1])))=σ5 at h5 K5 ⊢
 have hd5:=h5.disk
 have hn5:=(h5.nd (made+1) ⟨#[],0⟩ (if_pos rfl)).1
 refine c1_1 ((K5.sup hS).x) fun m hm=>?_
 walk_at "r"
 refine ((DirStep_new hm).le (nle rfl)).mono ?_ nof
 intro v σ6 zz;refine e2 zz ?_
 have h6:=h5.x (o:=stepO ⟨1,n,Str.ofString "",made+1⟩) hm
 have K6:Kp (inD i) σ (upd σ5 (.x m) (stepO ⟨1,n,Str.ofString "",made+1⟩)):=K5.then_x hm
 have hst:upd σ5 (.x m) (stepO ⟨1,n,Str.ofString "",made+1⟩) (.x m)=some (stepO ⟨1,n,Str.ofString "",made+1⟩):=upd_self ..
 generalize upd σ5 (.x m) (stepO ⟨1,n,Str.ofString "",made+1⟩)=σ6 at h6 K6 hst ⊢
 have hd6:=h6.disk
 walk_at "r"
 have hjs:(js.map MV.ref).length=jour.length:=by rw [list_length_mapref,h6.steps.length]
 refine ((dir_step_ok hd6 (by walk_at "lg") (by walk_at "lg") h6.pres h6.jour hst (.inl rfl) (by dsimp only;lia) (by lia)).le (nle rfl)).mono ?_ nof
 intro v σ7;refine f0_2 ?_;rintro rfl hσ7
 have h7:DAt σ7 i (Dk.mk1 ⟨left',spent,true,made,nd,reg,kept,pres,jour⟩ n) g (js++[.x m]):=by
  have z:=(h6.press (play ⟨1,n,Str.ofString "",made+1⟩ pres)).jours (js':=js++[.x m]) (ss:=jour++[⟨1,n,Str.ofString "",made+1⟩]) ((h6.steps.upd notx_d).snoc ⟨⟨m,rfl⟩,udf (by exact tru) hst⟩)
  rw [List.map_append] at z
  rw [hσ7]
  exact z
 have K7:Kp (inD i) σ σ7:=by rw [hσ7];exact (K6.then_upd ⟨_,rfl⟩).then_upd ⟨_,rfl⟩
 clear hσ7
 have hd7:=h7.disk
 refine c1_1 ((K7.sup hS).x) fun m2 hm2=>?_
 have hmm:σ (.x m2)=none:=by
  cases e:σ (.x m2) with
  | none=>rfl
  | some o=>exact absurd hm2 (K7.dom _ (by rw [e];exact fun z=>nomatch z))
 walk_at "r"
 refine ((File_new hm2).le (nle rfl)).mono ?_ nof
 intro v σ8 zz;refine e2 zz ?_
 walk_at "go"
 exact ⟨m2,g,js++[.x m],rfl,hmm,upd_self ..,K7.then_x hm2,h7.x hm2⟩
end
noncomputable def keysD(d:Dir):List Str:=d.map (·.1)
theorem keys_dirM(d:Dir):(dirM d).map (·.1)=keysD d:=by unfold dirM keysD;rw [List.map_map];rfl
noncomputable def regset(k:Nat)(r:List Nat):List Nat:=if k∈r then r else r++[k]
set_option tactic.hygienic true in
theorem setK_regM'{i k:Nat}{r:List Nat}:setK (k:Int) (.ref (.d i (.node k))) (regM i r)=regM i (regset k r):=by
 unfold regset
 split
 ·rename_i h
  unfold setK regM
  rw [if_pos]
  ·rw [List.map_map]
   refine List.map_congr_left fun a ha=>?_
   show (if ((a:Int)=(k:Int)) then _ else _)=_
   by_cases e:a=k
   ·subst e;simp
   ·rw [if_neg (by lia)]
  ·rw [List.any_map,List.any_eq_true]
   exact ⟨k,h,by simp⟩
 ·rename_i h
  exact setK_regM h
noncomputable def Dk.syncDir(D:Dk):Dk:={ D with spent:=D.spent+1,kept:=D.pres,jour:=[],reg:=(snames (keysD D.pres)).foldl (fun r n=>regset ((dget n D.pres).getD 0) r) [] }
theorem dget_mem{n:Str}{d:Dir}(h:n∈keysD d):(dget n d).isSome=true:=by
 unfold dget
 unfold keysD at h
 refine c1_2 (List.mem_map.mp h) ?_;rintro p hp rfl
 rw [Option.isSome_map,List.find?_isSome]
 exact ⟨p,hp,by simp⟩
theorem regset_len(k:Nat)(r:List Nat):(regset k r).length≤r.length+1:=by unfold regset;split <;> simp
theorem liv_len(f:Str→Nat)(l:List Str):∀ r:List Nat,(l.foldl (fun r n=>regset (f n) r) r).length≤r.length+l.length:=by
 induction l with
 | nil=>intro r;exact Nat.le_refl _
 | cons n l ih=>intro r;have:=ih (regset (f n) r);have:=regset_len (f n) r;rw [List.foldl_cons,List.length_cons];lia
section
variable{X:Cx}{c:Bool}{σ:Hp}{i:Nat}{g:Gs}{js:List MA}{left left' spent:Int}{alive:Bool}{made:Nat}{nd:Nat→Option Nd}{reg:List Nat}{kept pres:Dir}{jour:List Stp}{D:Dk}
theorem create_over_inf{n:Str}(h:DAt σ i ⟨-1,spent,true,made,nd,reg,kept,pres,jour⟩ g js)(hS:Sup σ)(hn:n.length≤500)(hr:made+1∉reg)(hpl:pres.length≤100)(hjl:jour.length≤100)(hrl:reg.length≤100):CallJ X true 4 true (.ref 307) [.ref (.d i .disk),.str n] σ
  (fun v σ'=>∃ m g' js',v=.ref (.x m)∧σ (.x m)=none∧σ' (.x m)=some (fileO i n (made+1) false)∧Kp (inD i) σ σ'∧DAt σ' i (Dk.mk1 ⟨-1,spent,true,made,nd,reg,kept,pres,jour⟩ n) g' js') (fun _ _=>False) :=
 create_over_core h hS (fun what _=>one_step_inf h) hn hr hpl hjl hrl
theorem create_over_fin{n:Str}{l:Nat}(h:DAt σ i ⟨((l+1:Nat):Int),spent,true,made,nd,reg,kept,pres,jour⟩ g js)(hS:Sup σ)(hn:n.length≤500)(hr:made+1∉reg)(hpl:pres.length≤100)(hjl:jour.length≤100)(hrl:reg.length≤100):CallJ X true 4 true (.ref 307) [.ref (.d i .disk),.str n] σ
  (fun v σ'=>∃ m g' js',v=.ref (.x m)∧σ (.x m)=none∧σ' (.x m)=some (fileO i n (made+1) false)∧Kp (inD i) σ σ'∧DAt σ' i (Dk.mk1 ⟨(l:Int),spent,true,made,nd,reg,kept,pres,jour⟩ n) g' js') (fun _ _=>False) :=
 create_over_core h hS (fun what hw=>(one_step_fin h hw).mono (fun v σ' ⟨_,a,b⟩=>⟨a,by simpa using b⟩) fun c σ' ⟨z,_⟩=>by cases z) hn hr hpl hjl hrl
theorem create_over_dead{n:Str}(h:DAt σ i ⟨0,spent,true,made,nd,reg,kept,pres,jour⟩ g js)(hn:n.length≤500):CallJ X true 4 true (.ref 307) [.ref (.d i .disk),.str n] σ
  (fun _ _=>False) (fun c σ'=>c=97∧Kp (inD i) σ σ'∧DAt σ' i ⟨0,spent,false,made,nd,reg,kept,pres,jour⟩ g js):=by
 have hd:=h.disk
 refine CallJ.fn (fn_Disk_create_over X.w) D_Disk_create_over rfl fun _ _=>?_
 walk_at "c"
 refine bin_cat (by decide +kernel) (by lia) ?_
 walk_at "r"
 refine (one_step_fin (l:=0) h (by rw [Str.length_append];have:(Str.ofString "the creation of ").length≤100:=(by decide +kernel);lia)).mono ?_ ?_
 ·intro v σ';refine f0_2 fun z _=>?_;lia
 ·intro c' σ';refine f0_3 ?_;rintro _ rfl rfl
  exact ⟨rfl,.upd ⟨_,rfl⟩,h.set (Nat.le_refl _)⟩
theorem create_ok{n:Str}(h:DAt σ i ⟨-1,spent,true,made,nd,reg,kept,pres,jour⟩ g js)(hS:Sup σ)(hg:dget n pres=none)(hn:n.length≤500)(hr:made+1∉reg)(hpl:pres.length≤100)(hjl:jour.length≤100)(hrl:reg.length≤100):CallJ X true 5 true (.ref 300) [.ref (.d i .disk),.str n] σ
  (fun v σ'=>∃ m g' js',v=.ref (.x m)∧σ (.x m)=none∧σ' (.x m)=some (fileO i n (made+1) false)∧Kp (inD i) σ σ'∧DAt σ' i (Dk.mk1 ⟨-1,spent,true,made,nd,reg,kept,pres,jour⟩ n) g' js') (fun _ _=>False):=by
 have hd:=h.disk
 refine CallJ.fn (fn_Disk_create X.w) D_Disk_create rfl fun _ _=>?_
 walk_at "c"
 refine ((check_alive_ok hd (by walk_at "lg")).le (nle rfl)).mono ?_ nof
 intro v σ' zz;refine e2 zz ?_
 walk_at "r"
 refine Exists.intro _ (And.intro h.pres ?_)
 refine And.intro (fun hb=>absurd hb (by rw [hasKey_dirM,hg];simp)) (fun _=>?_)
 walk_at "r"
 walk_at "go"
 refine CallJ.mono (create_over_inf h hS hn hr hpl hjl hrl) (fun v τ z=>?_) (fun _ _ z=>z)
 walk_at "go"
 exact z
theorem create_there{n:Str}(h:DAt σ i ⟨-1,spent,true,made,nd,reg,kept,pres,jour⟩ g js)(hg:(dget n pres).isSome=true)(hn:n.length≤500):CallJ X c 5 true (.ref 300) [.ref (.d i .disk),.str n] σ
  (fun _ _=>False) (fun c σ'=>c=85∧σ'=σ):=by
 have hd:=h.disk
 refine CallJ.fn (fn_Disk_create X.w) D_Disk_create rfl fun _ _=>?_
 walk_at "c"
 refine ((check_alive_ok hd (by walk_at "lg")).le (nle rfl)).mono ?_ nof
 intro v σ' zz;refine e2 zz ?_
 walk_at "r"
 refine Exists.intro _ (And.intro h.pres ?_)
 refine And.intro (fun _=>?_) (fun hb=>absurd hb (by rw [hasKey_dirM,hg];simp))
 walk_at "r"
 refine bin_cat (by decide +kernel) (by lia) ?_
 walk_at "r"
 refine bin_cat ?_ (by decide +kernel) ⟨rfl,rfl⟩
 rw [Str.length_append];have:(Str.ofString "the file ").length≤100:=by decide +kernel
 lia
theorem append_to_ok{n:Str}{k:Nat}(h:DAt σ i ⟨-1,spent,true,made,nd,reg,kept,pres,jour⟩ g js)(hS:Sup σ)(hg:dget n pres=some k)(hk:k∈reg):CallJ X c 3 true (.ref 314) [.ref (.d i .disk),.str n] σ
  (fun v σ'=>∃ m,v=.ref (.x m)∧σ (.x m)=none∧σ' (.x m)=some (fileO i n k false)∧Kp (inD i) σ σ'∧DAt σ' i ⟨-1,spent,true,made,nd,reg,kept,pres,jour⟩ g js) (fun _ _=>False):=by
 have hd:=h.disk
 refine CallJ.fn (fn_Disk_append_to X.w) D_Disk_append_to rfl fun _ _=>?_
 walk_at "c"
 refine (node_of_ok h hg hk).mono ?_ nof
 intro v σ' zz;refine e2 zz ?_
 refine c1_1 hS.x fun m hm=>?_
 walk_at "r"
 refine ((File_new hm).le (nle rfl)).mono ?_ nof
 intro v σ2 zz;refine e2 zz ?_
 walk_at "go"
 exact ⟨m,rfl,hm,upd_self ..,.new (free_x hm),h.x hm⟩
theorem append_to_missing{n:Str}(h:DAt σ i ⟨-1,spent,true,made,nd,reg,kept,pres,jour⟩ g js)(hg:dget n pres=none)(hn:n.length≤500):CallJ X c 3 true (.ref 314) [.ref (.d i .disk),.str n] σ
  (fun _ _=>False) (fun c σ'=>c=73∧σ'=σ):=by
 have hd:=h.disk
 refine CallJ.fn (fn_Disk_append_to X.w) D_Disk_append_to rfl fun _ _=>?_
 walk_at "c"
 exact (node_of_missing h hg (by lia)).mono nof (fun _ _ z=>z)
theorem remove_ok{n:Str}{k:Nat}(h:DAt σ i ⟨-1,spent,true,made,nd,reg,kept,pres,jour⟩ g js)(hS:Sup σ)(hg:dget n pres=some k)(hk:k∈reg)(hn:n.length≤500)(hpl:pres.length≤100)(hjl:jour.length≤100):CallJ X c 4 true (.ref 321) [.ref (.d i .disk),.str n] σ
  (fun v σ'=>v=.none∧Kp (inD i) σ σ'∧∃ g' js',DAt σ' i (Dk.stepd ⟨-1,spent,true,made,nd,reg,kept,pres,jour⟩ ⟨2,n,Str.ofString "",0⟩) g' js') (fun _ _=>False):=by
 have hd:=h.disk
 refine CallJ.fn (fn_Disk_remove X.w) D_Disk_remove rfl fun _ _=>?_
 walk_at "c"
 refine ((node_of_ok h hg hk).le (nle rfl)).mono ?_ nof
 intro v σ' zz;refine e2 zz ?_
 walk_at "r"
 refine bin_cat (by decide +kernel) (by lia) ?_
 walk_at "r"
 refine (one_step_inf h).mono ?_ nof
 intro v σ2;refine f0_2 ?_;rintro rfl hσ2
 have h2:DAt σ2 i ⟨-1,spent+1,true,made,nd,reg,kept,pres,jour⟩ g js:=by rw [hσ2];exact h.set (Nat.le_refl _)
 have K2:Kp (inD i) σ σ2:=by rw [hσ2];exact .upd ⟨_,rfl⟩
 clear hσ2
 have hd2:=h2.disk
 refine c1_1 ((K2.sup hS).x) fun m hm=>?_
 walk_at "r"
 refine ((DirStep_new (q:=0) hm).le (nle rfl)).mono ?_ nof
 intro v σ6;refine f0_2 ?_;rintro rfl hσ6
 have h6:DAt σ6 i ⟨-1,spent+1,true,made,nd,reg,kept,pres,jour⟩ g js:=by rw [hσ6];exact h2.x hm
 have K6:Kp (inD i) σ σ6:=by rw [hσ6];exact K2.then_x hm
 have hst:σ6 (.x m)=some (stepO ⟨2,n,Str.ofString "",0⟩):=by rw [hσ6];exact upd_self ..
 clear hσ6
 have hd6:=h6.disk
 walk_at "r"
 have hjs:(js.map MV.ref).length=jour.length:=by rw [list_length_mapref,h6.steps.length]
 refine ((dir_step_ok hd6 (by walk_at "lg") (by walk_at "lg") h6.pres h6.jour hst (.inr (.inl ⟨rfl,by dsimp only;rw [hg];rfl⟩)) (by dsimp only;lia) (by lia)).le (nle rfl)).mono ?_ nof
 intro v σ7;refine f0_2 ?_;rintro rfl hσ7
 have h7:DAt σ7 i (Dk.stepd ⟨-1,spent,true,made,nd,reg,kept,pres,jour⟩ ⟨2,n,Str.ofString "",0⟩) g (js++[.x m]):=by
  have z:=(h6.press (play ⟨2,n,Str.ofString "",0⟩ pres)).jours (js':=js++[.x m]) (ss:=jour++[⟨2,n,Str.ofString "",0⟩]) ((h6.steps.upd notx_d).snoc ⟨⟨m,rfl⟩,udf (by exact tru) hst⟩)
  rw [List.map_append] at z
  rw [hσ7]
  exact z
 have K7:Kp (inD i) σ σ7:=by rw [hσ7];exact (K6.then_upd ⟨_,rfl⟩).then_upd ⟨_,rfl⟩
 clear hσ7
 walk_at "r"
 exact ⟨rfl,K7,g,_,h7⟩
theorem remove_missing{n:Str}(h:DAt σ i ⟨-1,spent,true,made,nd,reg,kept,pres,jour⟩ g js)(hg:dget n pres=none)(hn:n.length≤500):CallJ X c 4 true (.ref 321) [.ref (.d i .disk),.str n] σ
  (fun _ _=>False) (fun c σ'=>c=73∧σ'=σ):=by
 have hd:=h.disk
 refine CallJ.fn (fn_Disk_remove X.w) D_Disk_remove rfl fun _ _=>?_
 walk_at "c"
 exact ((node_of_missing h hg (by lia)).le (nle rfl)).mono nof (fun _ _ z=>z)
theorem rename_ok{n n':Str}{k:Nat}(h:DAt σ i ⟨-1,spent,true,made,nd,reg,kept,pres,jour⟩ g js)(hS:Sup σ)(hg:dget n pres=some k)(hk:k∈reg)(hn:n.length≤500)(hpl:pres.length≤100)(hjl:jour.length≤100):CallJ X c 4 true (.ref 328) [.ref (.d i .disk),.str n,.str n'] σ
  (fun v σ'=>v=.none∧Kp (inD i) σ σ'∧∃ g' js',DAt σ' i (Dk.stepd ⟨-1,spent,true,made,nd,reg,kept,pres,jour⟩ ⟨3,n,n',0⟩) g' js') (fun _ _=>False):=by
 have hd:=h.disk
 refine CallJ.fn (fn_Disk_rename X.w) D_Disk_rename rfl fun _ _=>?_
 walk_at "c"
 refine ((node_of_ok h hg hk).le (nle rfl)).mono ?_ nof
 intro v σ' zz;refine e2 zz ?_
 walk_at "r"
 refine bin_cat (by decide +kernel) (by lia) ?_
 walk_at "r"
 refine (one_step_inf h).mono ?_ nof
 intro v σ2;refine f0_2 ?_;rintro rfl hσ2
 have h2:DAt σ2 i ⟨-1,spent+1,true,made,nd,reg,kept,pres,jour⟩ g js:=by rw [hσ2];exact h.set (Nat.le_refl _)
 have K2:Kp (inD i) σ σ2:=by rw [hσ2];exact .upd ⟨_,rfl⟩
 clear hσ2
 have hd2:=h2.disk
 refine c1_1 ((K2.sup hS).x) fun m hm=>?_
 walk_at "r"
 refine ((DirStep_new (q:=0) hm).le (nle rfl)).mono ?_ nof
 intro v σ6;refine f0_2 ?_;rintro rfl hσ6
 have h6:DAt σ6 i ⟨-1,spent+1,true,made,nd,reg,kept,pres,jour⟩ g js:=by rw [hσ6];exact h2.x hm
 have K6:Kp (inD i) σ σ6:=by rw [hσ6];exact K2.then_x hm
 have hst:σ6 (.x m)=some (stepO ⟨3,n,n',0⟩):=by rw [hσ6];exact upd_self ..
 clear hσ6
 have hd6:=h6.disk
 walk_at "r"
 have hjs:(js.map MV.ref).length=jour.length:=by rw [list_length_mapref,h6.steps.length]
 refine ((dir_step_ok hd6 (by walk_at "lg") (by walk_at "lg") h6.pres h6.jour hst (.inr (.inr ⟨rfl,by dsimp only;rw [hg];rfl⟩)) (by dsimp only;lia) (by lia)).le (nle rfl)).mono ?_ nof
 intro v σ7;refine f0_2 ?_;rintro rfl hσ7
 have h7:DAt σ7 i (Dk.stepd ⟨-1,spent,true,made,nd,reg,kept,pres,jour⟩ ⟨3,n,n',0⟩) g (js++[.x m]):=by
  have z:=(h6.press (play ⟨3,n,n',0⟩ pres)).jours (js':=js++[.x m]) (ss:=jour++[⟨3,n,n',0⟩]) ((h6.steps.upd notx_d).snoc ⟨⟨m,rfl⟩,udf (by exact tru) hst⟩)
  rw [List.map_append] at z
  rw [hσ7]
  exact z
 have K7:Kp (inD i) σ σ7:=by rw [hσ7];exact (K6.then_upd ⟨_,rfl⟩).then_upd ⟨_,rfl⟩
 clear hσ7
 walk_at "r"
 exact ⟨rfl,K7,g,_,h7⟩
theorem rename_missing{n n':Str}(h:DAt σ i ⟨-1,spent,true,made,nd,reg,kept,pres,jour⟩ g js)(hg:dget n pres=none)(hn:n.length≤500):CallJ X c 4 true (.ref 328) [.ref (.d i .disk),.str n,.str n'] σ
  (fun _ _=>False) (fun c σ'=>c=73∧σ'=σ):=by
 have hd:=h.disk
 refine CallJ.fn (fn_Disk_rename X.w) D_Disk_rename rfl fun _ _=>?_
 walk_at "c"
 exact ((node_of_missing h hg (by lia)).le (nle rfl)).mono nof (fun _ _ z=>z)
end
noncomputable def PairsAt(σ:Hp):List Nat→List (Str×Array UInt8)→Prop:=All2 fun k r=>σ (.x k)=some (.tup [.str r.1,.bytes r.2])
theorem PairsAt.keep{P:MA→Prop}{σ σ':Hp}(h:Kp P σ σ')(hp:∀ k,¬ P (.x k)){ks:List Nat}{rs:List (Str×Array UInt8)}(hs:PairsAt σ ks rs):PairsAt σ' ks rs:=All2.imp (fun _ _ r=>h.at r (hp _)) hs
theorem PairsAt.upd{σ:Hp}{a:MA}{o o':MO}(ha:σ a=some o')(hn:∀ vs,o'≠.tup vs){ks:List Nat}{rs:List (Str×Array UInt8)}(hs:PairsAt σ ks rs):PairsAt (upd σ a o) ks rs :=
 All2.imp (fun _ _ r=>upd_at (fun z=>hn _ (Option.some.inj (ha.symm.trans ((congrArg σ z).symm.trans r)))) r) hs
theorem PairsAt.snoc{σ:Hp}{k:Nat}{r:Str×Array UInt8}(h1:σ (.x k)=some (.tup [.str r.1,.bytes r.2])){ks:List Nat}{rs:List (Str×Array UInt8)}(h:PairsAt σ ks rs):PairsAt σ (ks++[k]) (rs++[r]):=All2.append h ⟨h1,trivial⟩
theorem PairsAt.length{σ:Hp}{ks:List Nat}{rs:List (Str×Array UInt8)}(h:PairsAt σ ks rs):ks.length=rs.length:=(All2.length h).symm
theorem StepsAt.keep2{P:MA→Prop}{σ σ':Hp}(h:Kp P σ σ')(hp:∀ k s,P (.x k)→σ (.x k)≠some (stepO s)){as:List MA}{ss:List Stp}(hs:StepsAt σ as ss):StepsAt σ' as ss :=
 All2.imp (fun _ _ r=>⟨r.1,h.at r.2 (r.1.elim fun k e=>by rw [e];exact fun z=>hp k _ z (e▸r.2))⟩) hs
theorem DAt.keep2{P:MA→Prop}{σ σ':Hp}{i:Nat}{D:Dk}{g:Gs}{js:List MA}(h:DAt σ i D g js)(k:Kp P σ σ')(hp:∀ p,¬ P (.d i p))(hx:∀ k s,P (.x k)→σ (.x k)≠some (stepO s)):DAt σ' i D g js where
 disk:=k.at h.disk (hp _)
 nodes:=k.at h.nodes (hp _)
 kept:=k.at h.kept (hp _)
 pres:=k.at h.pres (hp _)
 jour:=k.at h.jour (hp _)
 steps:=h.steps.keep2 k hx
 nd a n e:=⟨k.at (h.nd a n e).1 (hp _),k.at (h.nd a n e).2 (hp _)⟩
 fn a e:=(k.keep _ (hp _) (h.held _)).trans (h.fn a e)
 fk a e:=(k.keep _ (hp _) (h.held _)).trans (h.fk a e)
 fj a e:=(k.keep _ (hp _) (h.held _)).trans (h.fj a e)
 fd a e:=⟨(k.keep _ (hp _) (h.held _)).trans (h.fd a e).1,(k.keep _ (hp _) (h.held _)).trans (h.fd a e).2⟩
noncomputable def refsX(ks:List Nat):List MV:=ks.map fun k=>.ref (.x k)
noncomputable def RowsX(σ:Hp)(a:Nat)(rs:List (Str×Array UInt8)):Prop:=∃ ks,σ (.x a)=some (.tup (refsX ks))∧PairsAt σ ks rs
theorem RowsX.keep{P:MA→Prop}{σ σ':Hp}{a:Nat}{rs:List (Str×Array UInt8)}(h:RowsX σ a rs)(k:Kp P σ σ')(hp:∀ k,¬ P (.x k)):RowsX σ' a rs:=let ⟨ks,h1,h2⟩:=h;⟨ks,k.at h1 (hp _),h2.keep k hp⟩
theorem RowsX.rows{σ:Hp}{a:Nat}{rs:List (Str×Array UInt8)}(h:RowsX σ a rs):RowsAt σ (.x a) rs:=by
 refine c1_2 h fun ks h1 h2=>?_
 refine ⟨ks.map .x,by rw [h1];unfold refsX;rw [List.map_map];rfl,by rw [List.length_map];exact h2.length,fun j m r e1 e2=>?_⟩
 rw [List.getElem?_map] at e1
 refine c1_2 (Option.map_eq_some_iff.mp e1) ?_;rintro k hk rfl
 refine c1_2 (h2.get hk) fun r' e3 e4=>?_
 rw [e2] at e3;cases e3
 exact e4
noncomputable def datOf(D:Dk)(k:Nat):Array UInt8:=((D.nd k).getD ⟨#[],0⟩).data
noncomputable def rowsOf(D:Dk):List (Str×Array UInt8):=(snames (keysD D.pres)).map fun n=>(n,datOf D ((dget n D.pres).getD 0))
structure Dk.Has(D:Dk)(d:Dir):Prop where
 reg:∀ n k,dget n d=some k→k∈D.reg
 nd:∀ n k,dget n d=some k→∃ nn,D.nd k=some nn∧nn.data.size≤800∧nn.kept≤nn.data.size
section
variable{X:Cx}{c:Bool}{σ:Hp}{i:Nat}{g:Gs}{js:List MA}{left left' spent:Int}{alive:Bool}{made:Nat}{nd:Nat→Option Nd}{reg:List Nat}{kept pres:Dir}{jour:List Stp}{D:Dk}
theorem set_budget_ok{l:Nat}(h:DAt σ i ⟨left,spent,true,made,nd,reg,kept,pres,jour⟩ g js):CallJ X c 2 true (.ref 251) [.ref (.d i .disk),.int l] σ
  (fun v σ'=>v=.none∧σ'=upd σ (.d i .disk) (diskO i ⟨(l:Int),spent,true,made,nd,reg,kept,pres,jour⟩ g)) (fun _ _=>False):=by
 have hd:=h.disk
 refine CallJ.fn (fn_Disk_set_budget X.w) D_Disk_set_budget rfl fun _ _=>?_
 walk_at "c"
 refine (check_alive_ok hd (by walk_at "lg")).mono ?_ nof
 intro v σ' zz;refine e2 zz ?_
 walk_at "r"
 refine And.intro (fun hb=>absurd hb (by simp)) (fun _=>?_)
 walk_at "r"
 exact ⟨rfl,rfl⟩
theorem read_ok{n:Str}{k:Nat}{nn:Nd}(h:DAt σ i ⟨left,spent,true,made,nd,reg,kept,pres,jour⟩ g js)(hg:dget n pres=some k)(hk:k∈reg)(hn:nd k=some nn)(hb:nn.data.size≤800):CallJ X c 3 true (.ref 342) [.ref (.d i .disk),.str n] σ
  (fun v σ'=>v=.bytes nn.data∧σ'=σ) (fun _ _=>False):=by
 have hd:=h.disk
 refine CallJ.fn (fn_Disk_read X.w) D_Disk_read rfl fun _ _=>?_
 walk_at "c"
 refine EvE.attr ?_
 walk_at "r"
 refine (node_of_ok h hg hk).mono ?_ nof
 intro v σ' zz;refine e2 zz ?_
 refine c0_2 (h.nd k nn hn) fun n1 n2=>?_
 refine ⟨_,_,_,_,rfl,n1,rfl,by walk_at "lg",rfl,?_⟩
 walk_at "r"
 refine B.bytes_barr n2 (by lia) ?_
 walk_at "go"
 exact ⟨rfl,rfl⟩
theorem size_ok{n:Str}{k:Nat}{nn:Nd}(h:DAt σ i ⟨left,spent,true,made,nd,reg,kept,pres,jour⟩ g js)(hg:dget n pres=some k)(hk:k∈reg)(hn:nd k=some nn)(hb:nn.data.size≤800):CallJ X c 3 true (.ref 349) [.ref (.d i .disk),.str n] σ
  (fun v σ'=>v=.int nn.data.size∧σ'=σ) (fun _ _=>False):=by
 have hd:=h.disk
 refine CallJ.fn (fn_Disk_size X.w) D_Disk_size rfl fun _ _=>?_
 walk_at "c"
 refine EvE.attr ?_
 walk_at "r"
 refine (node_of_ok h hg hk).mono ?_ nof
 intro v σ' zz;refine e2 zz ?_
 refine c0_2 (h.nd k nn hn) fun n1 n2=>?_
 refine ⟨_,_,_,_,rfl,n1,rfl,by walk_at "lg",rfl,?_⟩
 walk_at "r"
 refine B.len_barr n2 (by lia) ?_
 walk_at "go"
 exact ⟨rfl,rfl⟩
theorem has_ok{n:Str}(h:DAt σ i ⟨left,spent,true,made,nd,reg,kept,pres,jour⟩ g js):CallJ X c 2 true (.ref 356) [.ref (.d i .disk),.str n] σ
  (fun v σ'=>v=.bool (dget n pres).isSome∧σ'=σ) (fun _ _=>False):=by
 have hd:=h.disk
 refine CallJ.fn (fn_Disk_has X.w) D_Disk_has rfl fun _ _=>?_
 walk_at "c"
 refine (check_alive_ok hd (by walk_at "lg")).mono ?_ nof
 intro v σ' zz;refine e2 zz ?_
 walk_at "r"
 refine Exists.intro _ (And.intro h.pres ?_)
 walk_at "go"
 exact ⟨by rw [hasKey_dirM],rfl⟩
theorem names_ok(h:DAt σ i ⟨left,spent,true,made,nd,reg,kept,pres,jour⟩ g js)(hS:Sup σ)(hl:pres.length<60):CallJ X c 2 true (.ref 363) [.ref (.d i .disk)] σ
  (fun v σ'=>∃ m,v=.ref (.x m)∧σ (.x m)=none∧σ'=upd σ (.x m) (.list ((snames (keysD pres)).map .str))) (fun _ _=>False):=by
 have hd:=h.disk
 refine CallJ.fn (fn_Disk_names X.w) D_Disk_names rfl fun _ _=>?_
 walk_at "c"
 refine (check_alive_ok hd (by walk_at "lg")).mono ?_ nof
 intro v σ' zz;refine e2 zz ?_
 refine c1_1 hS.x fun m hm=>?_
 walk_at "r"
 refine B.sorted_dictS hm h.pres (by rw [dirM_length];dsimp only;lia) fun ks hp hs=>?_
 rw [keys_dirM] at hp
 walk_at "go"
 exact ⟨m,rfl,hm,by rw [snames_eq hp hs]⟩
theorem names_dead(h:DAt σ i ⟨left,spent,false,made,nd,reg,kept,pres,jour⟩ g js):CallJ X c 2 true (.ref 363) [.ref (.d i .disk)] σ
  (fun _ _=>False) (fun c σ'=>c=97∧σ'=σ):=by
 have hd:=h.disk
 refine CallJ.fn (fn_Disk_names X.w) D_Disk_names rfl fun _ _=>?_
 walk_at "c"
 exact (check_alive_dead hd (by walk_at "lg")).mono nof (fun _ _ z=>z)
theorem snames_len(l:List Str):(snames l).length=l.length:=(snames_perm l).length_eq
theorem snames_mem{l:List Str}{n:Str}(h:n∈snames l):n∈l:=(snames_perm l).mem_iff.mp h
theorem row_ok(h:DAt σ i D g js)(hS:Sup σ)(hH:D.Has D.pres)(hl:D.pres.length<60):CallJ X c 1 true (.ref 384) [.ref (.d i .disk)] σ
  (fun v σ'=>∃ m,v=.ref (.x m)∧σ (.x m)=none∧RowsX σ' m (rowsOf D)∧Kp nil σ σ') (fun _ _=>False):=by
 have hd:=h.disk
 refine c1_1 hS.x fun m hm=>?_
 refine CallJ.fn (fn_Disk_row X.w) D_Disk_row rfl fun _ _=>?_
 walk_at "c"
 refine EvE.list ?_
 walk_at "r"
 refine ⟨.x m,hm,by decide,?_⟩
 have h1:DAt (upd σ (.x m) (.list [])) i D g js:=h.x hm
 have K1:Kp nil σ (upd σ (.x m) (.list [])):=.new (free_x hm)
 have hm1:upd σ (.x m) (.list []) (.x m)=some (.list (refsX [])):=upd_self ..
 generalize upd σ (.x m) (.list [])=σ1 at h1 K1 hm1 ⊢
 have hd1:=h1.disk
 refine c1_1 ((K1.sup hS).x) fun m2 hm2=>?_
 walk_at "r"
 refine ExS.forIn rfl (by walk_at "mem") ?_
 walk_at "r"
 refine B.sorted_dictS hm2 h1.pres (by rw [dirM_length];lia) fun ks hp hs=>?_
 rw [keys_dirM] at hp
 have eks:=snames_eq hp hs;clear hp hs;subst eks
 have hne:∀ {k},σ1 (.x k)=some (.list (refsX []))→k≠m2:=by intro k e z;rw [z,hm2] at e;exact nos e
 have hlenN:(snames (keysD D.pres)).length=D.pres.length:=by rw [snames_len];unfold keysD;simp
 refine ⟨.list (.x m2),_,rfl,upd_self ..,fun q σ' ρ'=>Kp (fun a=>a=.x m) σ1 σ'∧σ' (.x m2)=some (.list ((snames (keysD D.pres)).map MV.str))∧lget "self" ρ'=some (.ref (.d i .disk))∧lget "rows" ρ'=some (.ref (.x m)) ∧
  ∃ ks,σ' (.x m)=some (.list (refsX ks))∧PairsAt σ' ks (((snames (keysD D.pres)).take q).map fun n=>(n,datOf D ((dget n D.pres).getD 0))),?_,?_,?_,?_⟩
 ·exact ⟨.new (free_x hm2),upd_self ..,by walk_at "lg",by walk_at "lg",[],upd_at (by intro z;exact hne hm1 (x_inj z)) hm1,trivial⟩
 ·intro q σ' ρ';refine f0_3 fun _ e _=>?_;exact e
 ·rintro q σ' ρ' v ⟨K,hs2,q1,q2,ks,hk,hP⟩ hv _ _
  rw [List.getElem?_map] at hv
  refine c1_2 (Option.map_eq_some_iff.mp hv) ?_;rintro n hn rfl
  have hmem:n∈keysD D.pres:=snames_mem (List.mem_of_getElem? hn)
  refine c1_1 (Option.isSome_iff_exists.mp (dget_mem hmem)) fun k hgk=>?_
  refine c1_3 (hH.nd n k hgk) fun nn hnn hsz _=>?_
  have hD:DAt σ' i D g js:=h1.keep2 K (by intro p z;exact dif_no z rfl) (by intro k s z e;cases z;rw [hm1] at e;exact mo_no e rfl)
  have hdD:=hD.disk
  refine c0_2 (hD.nd k nn hnn) fun n1 n2=>?_
  have hkl:(refsX ks).length≤1000:=by unfold refsX;rw [List.length_map,hP.length,List.length_map,List.length_take];lia
  refine c1_1 ((K.sup (K1.sup hS)).x) fun m3 hm3=>?_
  walk_at "r"
  refine EvE.bmeth rfl ?_
  walk_at "r"
  refine ⟨_,M.append hk,?_⟩
  walk_at "r"
  refine EvE.tuple ?_
  walk_at "r"
  refine EvE.attr ?_
  walk_at "r"
  refine ⟨_,SubR.dictS hD.pres (by rw [getK_dirM,hgk];rfl),?_⟩
  refine ⟨_,SubR.dictI hD.nodes (getK_regM (hH.reg n k hgk)),?_⟩
  refine ⟨_,_,_,_,rfl,n1,rfl,by walk_at "lg",rfl,?_⟩
  walk_at "r"
  refine B.bytes_barr n2 (by lia) ?_
  walk_at "r"
  refine ⟨.x m3,hm3,nle rfl,?_⟩
  have hk3:upd σ' (.x m3) (.tup [.str n,.bytes nn.data]) (.x m)=some (.list (refsX ks)):=upd_at (ne_fresh hk hm3) hk
  walk_at "r"
  refine B.append hk3 hkl ?_
  walk_at "r"
  have e:(snames (keysD D.pres)).take (q+1)=(snames (keysD D.pres)).take q++[n]:=by rw [List.take_add_one,hn];rfl
  have hne2:m2≠m:=fun z=>hne hm1 z.symm
  have hne3:m2≠m3:=by intro z;rw [← z,hs2] at hm3;exact sno hm3
  refine ⟨(K.then_x hm3).then_upd rfl,upd_at (by intro z;exact hne2 (x_inj z)) (upd_at (by intro z;exact hne3 (x_inj z)) hs2),by walk_at "lg",by walk_at "lg",ks++[m3],?_,?_⟩
  ·rw [upd_self];unfold refsX;simp
  ·rw [e,List.map_append]
   refine PairsAt.upd hk3 (fun vs z=>by cases z) (PairsAt.snoc ?_ (hP.keep (P:=nil) (.new (free_x hm3)) fun _ z=>z))
   rw [upd_self]
   show _=some (MO.tup [.str n,.bytes (datOf D ((dget n D.pres).getD 0))])
   rw [hgk]
   unfold datOf
   rw [Option.getD_some,hnn]
   rfl
 ·rintro σ' ρ' ⟨K,hs2,q1,q2,ks,hk,hP⟩
  have el:((snames (keysD D.pres)).map MV.str).length=(snames (keysD D.pres)).length:=List.length_map ..
  rw [el,List.take_length] at hP
  have hkl:(refsX ks).length≤1000:=by unfold refsX;rw [List.length_map,hP.length,List.length_map];lia
  refine c1_1 ((K.sup (K1.sup hS)).x) fun m3 hm3=>?_
  walk_at "r"
  refine B.tuple_list hm3 hk hkl ?_
  have KK:Kp (fun a=>nil a∨a=.x m) σ (upd σ' (.x m3) (.tup (refsX ks))):=((K1.mono fun _ z=>z.elim).trans (K.mono fun a z=>.inr z)).then_x hm3
  walk_at "go"
  refine ⟨m3,rfl,K1.none_of (K.none_of hm3),⟨ks,upd_self ..,hP.keep (P:=nil) (.new (free_x hm3)) fun _ z=>z⟩,⟨fun a ha hh=>?_,KK.dom,KK.sup⟩⟩
  refine KK.keep a ?_ hh
  rintro (z | rfl)
  ·exact z
  ·exact free_x hm hh
end
theorem rekept{σ:Hp}{i:Nat}{D:Dk}{g:Gs}{js:List MA}(h:DAt σ i D g js)(d:Dir) :
  DAt (upd (upd σ (.d i (.kn (g.k+1))) (.dictS (dirM d))) (.d i .disk) (diskO i { D with kept:=d } ⟨g.n,g.k+1,g.p,g.j⟩)) i { D with kept:=d } ⟨g.n,g.k+1,g.p,g.j⟩ js where
 disk:=upd_self ..
 nodes:=udf tru (udf tru h.nodes)
 kept:=udf tru (upd_self ..)
 pres:=udf tru (udf tru h.pres)
 jour:=udf tru (udf tru h.jour)
 steps:=(h.steps.upd notx_d).upd notx_d
 nd k n e:=⟨udf tru (udf tru (h.nd k n e).1),udf tru (udf tru (h.nd k n e).2)⟩
 fn k e:=udf tru (udf tru (h.fn k e))
 fk k e:=by
  have e':g.k+1<k:=e
  exact udf tru (upd_at (by intro z;cases z;lia) (h.fk k (by lia)))
 fj k e:=udf tru (udf tru (h.fj k e))
 fd j e:=⟨udf tru (udf tru (h.fd j e).1),udf tru (udf tru (h.fd j e).2)⟩
theorem repres{σ:Hp}{i:Nat}{D:Dk}{g:Gs}{js:List MA}(h:DAt σ i D g js)(d:Dir) :
  DAt (upd (upd σ (.d i (.pr (g.p+1))) (.dictS (dirM d))) (.d i .disk) (diskO i { D with pres:=d } ⟨g.n,g.k,g.p+1,g.j⟩)) i { D with pres:=d } ⟨g.n,g.k,g.p+1,g.j⟩ js where
 disk:=upd_self ..
 nodes:=udf tru (udf tru h.nodes)
 kept:=udf tru (udf tru h.kept)
 pres:=udf tru (upd_self ..)
 jour:=udf tru (udf tru h.jour)
 steps:=(h.steps.upd notx_d).upd notx_d
 nd k n e:=⟨udf tru (udf tru (h.nd k n e).1),udf tru (udf tru (h.nd k n e).2)⟩
 fn k e:=udf tru (udf tru (h.fn k e))
 fk k e:=udf tru (udf tru (h.fk k e))
 fj k e:=udf tru (udf tru (h.fj k e))
 fd j e:=⟨udf tru (udf tru (h.fd j e).1),udf tru (udf tru (h.fd j e).2)⟩
theorem renodes{σ σ':Hp}{i:Nat}{D:Dk}{g:Gs}{js:List MA}(h:DAt σ i D g js){r:List Nat}(K:Kp (fun a=>a=.d i (.nm (g.n+1))) σ σ')(e:σ' (.d i (.nm (g.n+1)))=some (.dictI (regM i r))) :
  DAt (upd σ' (.d i .disk) (diskO i { D with reg:=r } ⟨g.n+1,g.k,g.p,g.j⟩)) i { D with reg:=r } ⟨g.n+1,g.k,g.p,g.j⟩ js where
 disk:=upd_self ..
 nodes:=udf tru e
 kept:=udf tru (K.at h.kept (ne_dif tru))
 pres:=udf tru (K.at h.pres (ne_dif tru))
 jour:=udf tru (K.at h.jour (ne_dif tru))
 steps:=(h.steps.keep K (by intro k z;exact dif_no z rfl)).upd notx_d
 nd k n e:=⟨udf tru (K.at (h.nd k n e).1 (ne_dif tru)),udf tru (K.at (h.nd k n e).2 (ne_dif tru))⟩
 fn k e:=by
  have e':g.n+1<k:=e
  exact udf tru ((K.keep _ (by intro z;cases z;lia) (h.held _)).trans (h.fn k (by lia)))
 fk k e:=udf tru ((K.keep _ (ne_dif (by exact tru)) (h.held _)).trans (h.fk k e))
 fj k e:=udf tru ((K.keep _ (ne_dif (by exact tru)) (h.held _)).trans (h.fj k e))
 fd j e:=⟨udf tru ((K.keep _ (ne_dif (by exact tru)) (h.held _)).trans (h.fd j e).1),udf tru ((K.keep _ (ne_dif (by exact tru)) (h.held _)).trans (h.fd j e).2)⟩
noncomputable def cutLen(n:Nd)(r:Int):Nat:=n.kept+(r.fmod ((n.data.size - n.kept:Nat)+1)).toNat
noncomputable def cutStep(D:Dk)(row:List Int)(dir:Dir)(A:Dk)(n:Str):Dk :=
 let nn:=(D.nd ((dget n dir).getD 0)).getD ⟨#[],0⟩
 let len:=cutLen nn (row.getD (A.made % row.length) 0)
 { A with made:=A.made+1,nd:=fun k=>if k=A.made+1 then some ⟨takeB nn.data len,len⟩ else A.nd k,reg:=A.reg++[A.made+1],kept:=dset n (A.made+1) A.kept,pres:=dset n (A.made+1) A.pres }
noncomputable def cutRow(ps:List Int):List Int:=if 0<ps.length then ps else [0]
noncomputable def cutDir(D:Dk)(r0:Int):Dir:=plays (D.jour.take (r0.fmod (D.jour.length+1)).toNat) D.kept
noncomputable def cutOn(D:Dk)(row:List Int)(dir:Dir)(ns:List Str):Dk:=ns.foldl (cutStep D row dir) Dk.new
noncomputable def Dk.cut(D:Dk)(ps:List Int):Dk:=cutOn D (cutRow ps) (cutDir D ((cutRow ps).getD 0 0)) (snames (keysD (cutDir D ((cutRow ps).getD 0 0))))
theorem cutOn_snoc(D:Dk)(row:List Int)(dir:Dir)(ns:List Str)(n:Str):cutOn D row dir (ns++[n])=cutStep D row dir (cutOn D row dir ns) n:=by unfold cutOn;rw [List.foldl_append];rfl
theorem dset_len(n:Str)(k:Nat)(d:Dir):(dset n k d).length≤d.length+1:=by unfold dset;split <;> simp
structure CutI(q:Nat)(A:Dk):Prop where
 left:A.left=-1
 spent:A.spent=0
 alive:A.alive=true
 made:A.made=q
 jour:A.jour=[]
 reg:∀ k∈A.reg,k≤q
 lr:A.reg.length≤q
 lk:A.kept.length≤q
 lp:A.pres.length≤q
theorem cut_inv(D:Dk)(row:List Int)(dir:Dir)(ns:List Str):CutI ns.length (cutOn D row dir ns):=by
 have key:∀ (ns:List Str) (A:Dk) (q:Nat),CutI q A→CutI (q+ns.length) (ns.foldl (cutStep D row dir) A):=by
  intro ns
  induction ns with
  | nil=>intro A q h;exact h
  | cons n ns ih =>
   intro A q h
   rw [List.foldl_cons,List.length_cons,show q+(ns.length+1)=(q+1)+ns.length by lia]
   refine ih _ _ ⟨h.left,h.spent,h.alive,by show A.made+1=_;rw [h.made],h.jour,fun k hk=>?_,?_,?_,?_⟩
   ·have hk':k∈A.reg++[A.made+1]:=hk
    rcases List.mem_append.mp hk' with z | z
    ·exact Nat.le_succ_of_le (h.reg k z)
    ·rw [List.mem_singleton] at z;rw [z,h.made];exact Nat.le_refl _
   ·show (A.reg++[A.made+1]).length≤_;rw [List.length_append];have:=h.lr;simp;exact this
   ·exact Nat.le_trans (dset_len ..) (Nat.succ_le_succ h.lk)
   ·exact Nat.le_trans (dset_len ..) (Nat.succ_le_succ h.lp)
 have:=key ns Dk.new 0 ⟨rfl,rfl,rfl,rfl,rfl,fun k h=>(nomatch h),Nat.le_refl _,Nat.le_refl _,Nat.le_refl _⟩
 rw [Nat.zero_add] at this
 exact this
theorem fmod_nn{r:Int}{n:Nat}:∃ k:Nat,r.fmod ((n:Int)+1)=(k:Int)∧k≤n:=by
 have h1:0≤r.fmod ((n:Int)+1):=Int.fmod_nonneg_of_pos r (by lia)
 have h2:r.fmod ((n:Int)+1)<(n:Int)+1:=Int.fmod_lt_of_pos r (by lia)
 refine c1_1 (Int.eq_ofNat_of_zero_le h1) fun k hk=>?_
 exact ⟨k,hk,by rw [hk] at h2;exact Int.ofNat_le.mp (Int.lt_add_one_iff.mp h2)⟩
section
variable{X:Cx}{c:Bool}{σ:Hp}{i:Nat}{g:Gs}{js:List MA}{left left' spent:Int}{alive:Bool}{made:Nat}{nd:Nat→Option Nd}{reg:List Nat}{kept pres:Dir}{jour:List Stp}{D:Dk}
theorem unsynced_ok{a d:MA}{k q:Int}{b:Array UInt8}(h:σ a=some (.inst 142 [("number",.int k),("data",.ref d),("kept",.int q)]))(hd:σ d=some (.barr b))(hb:b.size≤900):CallJ X c 1 true (.ref 132) [.ref a] σ
  (fun v σ'=>v=.int ((b.size:Int) - q)∧σ'=σ) (fun _ _=>False):=by
 refine CallJ.fn (fn_Node_unsynced X.w) D_Node_unsynced rfl fun _ _=>?_
 walk_at "c"
 refine B.len_barr hd (by lia) ?_
 walk_at "r"
 exact ⟨rfl,rfl⟩
theorem sync_dir_ok(h:DAt σ i ⟨-1,spent,true,made,nd,reg,kept,pres,jour⟩ g js)(hS:Sup σ)(hH:Dk.Has ⟨-1,spent,true,made,nd,reg,kept,pres,jour⟩ pres)(hl:pres.length<60):CallJ X c 4 true (.ref 335) [.ref (.d i .disk)] σ
  (fun v σ'=>v=.none∧Kp (inD i) σ σ'∧∃ g',DAt σ' i (Dk.syncDir ⟨-1,spent,true,made,nd,reg,kept,pres,jour⟩) g' []) (fun _ _=>False):=by
 have hd:=h.disk
 refine CallJ.fn (fn_Disk_sync_dir X.w) D_Disk_sync_dir rfl fun _ _=>?_
 walk_at "c"
 refine (one_step_inf h).mono ?_ nof
 intro v σ2;refine f0_2 ?_;rintro rfl hσ2
 have h2:DAt σ2 i ⟨-1,spent+1,true,made,nd,reg,kept,pres,jour⟩ g js:=by rw [hσ2];exact h.set (Nat.le_refl _)
 have K2:Kp (inD i) σ σ2:=by rw [hσ2];exact .upd ⟨_,rfl⟩
 clear hσ2
 have hd2:=h2.disk
 walk_at "r"
 refine B.dict_dict (h2.fk (g.k+1) (by lia)) h2.pres (by rw [dirM_length];dsimp only;lia) ?_
 walk_at "r"
 have z3:=rekept h2 pres
 have eK:∀ σ':Hp,σ'=upd (upd σ2 (.d i (.kn (g.k+1))) (.dictS (dirM pres))) (.d i .disk) (diskO i ⟨-1,spent+1,true,made,nd,reg,pres,pres,jour⟩ ⟨g.n,g.k+1,g.p,g.j⟩)→Kp (inD i) σ σ':=fun σ' e=>by rw [e];exact (K2.then_upd ⟨_,rfl⟩).then_upd ⟨_,rfl⟩
 refine EvE.list ?_
 walk_at "r"
 generalize hσ3:upd (upd σ2 (.d i (.kn (g.k+1))) (.dictS (dirM pres))) (.d i .disk) _=σ3
 have e3:σ3=upd (upd σ2 (.d i (.kn (g.k+1))) (.dictS (dirM pres))) (.d i .disk) (diskO i ⟨-1,spent+1,true,made,nd,reg,pres,pres,jour⟩ ⟨g.n,g.k+1,g.p,g.j⟩):=by rw [← hσ3];kernel_rfl
 have h3:DAt σ3 i ⟨-1,spent+1,true,made,nd,reg,pres,pres,jour⟩ ⟨g.n,g.k+1,g.p,g.j⟩ js:=by rw [e3];exact z3
 have K3:=eK σ3 e3
 clear hσ3 e3 z3 eK
 refine ⟨.d i (.jr (g.j+1)),h3.fj (g.j+1) (Nat.lt_succ_self _),by decide,?_⟩
 have hd3:=h3.disk
 have hd3':upd σ3 (.d i (.jr (g.j+1))) (.list []) (.d i .disk)=some (diskO i ⟨-1,spent+1,true,made,nd,reg,pres,pres,jour⟩ ⟨g.n,g.k+1,g.p,g.j⟩):=udf tru hd3
 walk_at "r"
 have z4:=rejour h3 (js':=[]) (ss:=[]) trivial
 generalize hσ4:upd (upd σ3 (.d i (.jr (g.j+1))) (.list [])) (.d i .disk) _=σ4
 have e4:σ4=upd (upd σ3 (.d i (.jr (g.j+1))) (.list [])) (.d i .disk) (diskO i ⟨-1,spent+1,true,made,nd,reg,pres,pres,[]⟩ ⟨g.n,g.k+1,g.p,g.j+1⟩):=by rw [← hσ4];kernel_rfl
 have h4:DAt σ4 i ⟨-1,spent+1,true,made,nd,reg,pres,pres,[]⟩ ⟨g.n,g.k+1,g.p,g.j+1⟩ []:=by rw [e4];exact z4
 have K4:Kp (inD i) σ σ4:=by rw [e4];exact (K3.then_upd ⟨_,rfl⟩).then_upd ⟨_,rfl⟩
 clear hσ4 e4 z4
 refine EvE.dictI0 (a:=.d i (.nm (g.n+1))) (h4.fn (g.n+1) (Nat.lt_succ_self _)) ?_
 have K5:Kp (fun a=>a=.d i (.nm (g.n+1))) σ4 (upd σ4 (.d i (.nm (g.n+1))) (.dictI [])):=.upd rfl
 have l5:upd σ4 (.d i (.nm (g.n+1))) (.dictI []) (.d i (.nm (g.n+1)))=some (.dictI (regM i [])):=upd_self ..
 generalize upd σ4 (.d i (.nm (g.n+1))) (.dictI [])=σ5 at K5 l5 ⊢
 have hd4:=h4.disk
 have hd5:=K5.at hd4 (ne_dif tru)
 have hp5:=K5.at h4.pres (ne_dif tru)
 have hn5:=K5.at h4.nodes (by intro z;injection z with _ z;injection z with z;exact Nat.succ_ne_self _ z.symm)
 refine c1_1 ((K5.sup (K4.sup hS)).x) fun m2 hm2=>?_
 walk_at "r"
 refine ExS.forIn rfl (by walk_at "mem") ?_
 walk_at "r"
 refine B.sorted_dictS hm2 hp5 (by rw [dirM_length];dsimp only;lia) fun ks hp hs=>?_
 rw [keys_dirM] at hp
 have eks:=snames_eq hp hs;clear hp hs;subst eks
 dsimp only
 have hlenN:(snames (keysD pres)).length=pres.length:=by rw [snames_len];unfold keysD;simp
 refine ⟨.list (.x m2),_,rfl,upd_self ..,fun q σ' ρ'=>Kp (fun a=>a=.d i (.nm (g.n+1))) σ4 σ'∧σ' (.x m2)=some (.list ((snames (keysD pres)).map MV.str))∧lget "self" ρ'=some (.ref (.d i .disk))∧lget "living" ρ'=some (.ref (.d i (.nm (g.n+1)))) ∧
  σ' (.d i (.nm (g.n+1)))=some (.dictI (regM i (((snames (keysD pres)).take q).foldl (fun r n=>regset ((dget n pres).getD 0) r) []))),?_,?_,?_,?_⟩
 ·exact ⟨K5.then_x hm2,upd_self ..,by walk_at "lg",by walk_at "lg",udf tru l5⟩
 ·intro q σ' ρ';refine f0_3 fun _ e _=>?_;exact e
 ·intro q σ' ρ' v;refine f0_5 fun K hs2 q1 q2 hL=>?_;rintro hv _ _
  rw [List.getElem?_map] at hv
  refine c1_2 (Option.map_eq_some_iff.mp hv) ?_;rintro n hn rfl
  have hmem:n∈keysD pres:=snames_mem (List.mem_of_getElem? hn)
  refine c1_1 (Option.isSome_iff_exists.mp (dget_mem hmem)) fun k hgk=>?_
  have hd6:=K.at hd4 (ne_dif tru)
  have hp6:=K.at h4.pres (ne_dif tru)
  have hn6:=K.at h4.nodes (by intro z;injection z with _ z;injection z with z;exact Nat.succ_ne_self _ z.symm)
  have hql:q<(snames (keysD pres)).length:=(List.getElem?_eq_some_iff.mp hn).1
  walk_at "r"
  refine ⟨_,SubR.dictS hp6 (by rw [getK_dirM];dsimp only;rw [hgk];rfl),?_⟩
  walk_at "r"
  refine ⟨_,SubR.dictI hn6 (getK_regM (hH.reg n k hgk)),?_⟩
  walk_at "r"
  refine ⟨_,SetR.dictI hL ?_,?_⟩
  ·rw [regM_length]
   have:=liv_len (fun n=>(dget n pres).getD 0) ((snames (keysD pres)).take q) []
   rw [List.length_take] at this
   simp at this
   lia
  walk_at "r"
  have e:(snames (keysD pres)).take (q+1)=(snames (keysD pres)).take q++[n]:=by rw [List.take_add_one,hn];rfl
  refine ⟨K.then_upd rfl,udf tru hs2,by walk_at "lg",by walk_at "lg",?_⟩
  rw [upd_self,setK_regM',e,List.foldl_append]
  show _=some (MO.dictI (regM i (regset ((dget n pres).getD 0) _)))
  rw [hgk]
  rfl
 ·intro σ' ρ';refine f0_5 fun K hs2 q1 q2 hL=>?_
  rw [List.length_map,List.take_length] at hL
  have hd6:=K.at hd4 (ne_dif tru)
  walk_at "r"
  have hR:=renodes h4 K hL
  refine ⟨rfl,(K4.trans (K.mono (by rintro a rfl;exact ⟨_,rfl⟩))).then_upd ⟨_,rfl⟩,⟨g.n+1,g.k+1,g.p,g.j+1⟩,?_⟩
  simp only [lset] at *
  exact hR
end
theorem keysD_len(d:Dir):(keysD d).length=d.length:=by unfold keysD;simp
section
variable{X:Cx}{c:Bool}{σ:Hp}{i:Nat}{g:Gs}{js:List MA}{left left' spent:Int}{alive:Bool}{made:Nat}{nd:Nat→Option Nd}{reg:List Nat}{kept pres:Dir}{jour:List Stp}{D:Dk}
set_option tactic.hygienic true in
theorem power_cut_ok{a:Nat}{ps:List Int}(h:DAt σ i D g js)(hS:Sup σ)(ha:σ (.x a)=some (.list (ps.map .int)))(hps:ps.length≤100)(hF:Fits D.jour D.kept)(hl:D.jour.length≤20)(hk:D.kept.length≤20)
  (hH:D.Has (cutDir D ((cutRow ps).getD 0 0))):CallJ X true 4 true (.ref 370) [.ref (.d i .disk),.ref (.x a)] σ
  (fun v σ'=>∃ j,v=.ref (.d j .disk)∧(∀ p,σ (.d j p)=none)∧Kp nil σ σ'∧DAt σ' j (D.cut ps) ⟨0,0,0,0⟩ []) (fun _ _=>False):=by
 have hd:=h.disk
 refine CallJ.fn (fn_Disk_power_cut X.w) D_Disk_power_cut rfl fun K hK=>?_
 refine ExSs.consK ?_;intro _ _
 refine c1_1 hS.x fun m0 hm0=>?_
 walk_at "r"
 refine EvE.list ?_
 walk_at "r"
 refine ⟨.x m0,hm0,nle rfl,?_⟩
 have hrow0:upd σ (.x m0) (.list [.int 0]) (.x m0)=some (.list (([0]:List Int).map .int)):=upd_self ..
 have h1:DAt (upd σ (.x m0) (.list [.int 0])) i D g js:=h.x hm0
 have K1:Kp nil σ (upd σ (.x m0) (.list [.int 0])):=.new (free_x hm0)
 generalize upd σ (.x m0) (.list [.int 0])=σ1 at hrow0 h1 K1 ⊢
 have ha1:=K1.at ha (fun z=>z)
 have hd1:=h1.disk
 walk_at "r"
 refine B.len_list ha1 (by rw [List.length_map];lia) ?_
 walk_at "r"
 have rest:∀ ρ r,lget "self" ρ=some (.ref (.d i .disk))→lget "row" ρ=some (.ref (.x r))→σ1 (.x r)=some (.list ((cutRow ps).map .int)) →
   ∀ {sts:List Stmt},sts=(fdBody (inCls 16 18)).drop 2→ExSs X ⟨3,true,S_Disk_power_cut,true⟩ sts σ1 ρ
    (Go K) (fun _ _ _=>False):=by
  rintro ρ r q1 q2 hr sts rfl
  have hrl:1≤(cutRow ps).length∧(cutRow ps).length≤100:=by
   unfold cutRow
   split
   ·exact ⟨by lia,by lia⟩
   ·exact ⟨by decide,by decide⟩
  refine ExSs.consK ?_;intro _ _
  refine c1_1 ((K1.sup hS).x) fun m1 hm1=>?_
  walk_at "r"
  refine B.dict_dict hm1 h1.kept (by rw [dirM_length];lia) ?_
  have h2:DAt (upd σ1 (.x m1) (.dictS (dirM D.kept))) i D g js:=h1.x hm1
  have K2:Kp nil σ (upd σ1 (.x m1) (.dictS (dirM D.kept))):=K1.then_x hm1
  have hr2:upd σ1 (.x m1) (.dictS (dirM D.kept)) (.x r)=some (.list ((cutRow ps).map .int)):=upd_at (ne_fresh hr hm1) hr
  have hdir2:upd σ1 (.x m1) (.dictS (dirM D.kept)) (.x m1)=some (.dictS (dirM D.kept)):=upd_self ..
  generalize upd σ1 (.x m1) (.dictS (dirM D.kept))=σ2 at h2 K2 hr2 hdir2 ⊢
  have hd2:=h2.disk
  have hjs:(js.map MV.ref).length=D.jour.length:=by rw [list_length_mapref,h2.steps.length]
  have hr0:((cutRow ps).map MV.int)[0]?=some (.int ((cutRow ps).getD 0 0)):=by
   rw [List.getElem?_map,List.getElem?_eq_getElem (by lia),List.getD_eq_getElem?_getD,List.getElem?_eq_getElem (by lia)];rfl
  walk_at "r"
  refine ⟨_,SubR.list hr2 (by lia) (by lia) hr0,?_⟩
  walk_at "r"
  refine B.len_list h2.jour (by lia) ?_
  walk_at "r"
  rw [hjs]
  refine c1_2 (fmod_nn (r:=(cutRow ps).getD 0 0) (n:=D.jour.length)) fun hap hhap hle=>?_
  refine bin_mod (by lia) ?_
  rw [hhap]
  refine c1_1 ((K2.sup hS).x) fun m2 hm2=>?_
  walk_at "r"
  refine ExS.forIn rfl (by walk_at "mem") ?_
  refine EvE.upto ?_
  walk_at "r"
  refine ⟨hap,rfl,.x m2,hm2,.inl ⟨_,h2.jour,by lia,?_⟩⟩
  have h3:DAt (upd σ2 (.x m2) (.list ((js.map MV.ref).take hap))) i D g js:=h2.x hm2
  have K3:Kp nil σ (upd σ2 (.x m2) (.list ((js.map MV.ref).take hap))):=K2.then_x hm2
  have hr3:upd σ2 (.x m2) (.list ((js.map MV.ref).take hap)) (.x r)=some (.list ((cutRow ps).map .int)):=upd_at (ne_fresh hr2 hm2) hr2
  have hdir3:upd σ2 (.x m2) (.list ((js.map MV.ref).take hap)) (.x m1)=some (.dictS (dirM D.kept)):=upd_at (ne_fresh hdir2 hm2) hdir2
  have hl3:upd σ2 (.x m2) (.list ((js.map MV.ref).take hap)) (.x m2)=some (.list ((js.map MV.ref).take hap)):=upd_self ..
  generalize upd σ2 (.x m2) (.list ((js.map MV.ref).take hap))=σ3 at h3 K3 hr3 hdir3 hl3 ⊢
  have hne12:¬ (.x m2:MA)=.x m1:=by intro z;rw [z,hdir3] at hl3;exact mo_no hl3 rfl
  have hner:¬ (.x r:MA)=.x m1:=by intro z;rw [z,hdir3] at hr3;exact mo_no hr3 rfl
  have hdirE:plays (D.jour.take hap) D.kept=cutDir D ((cutRow ps).getD 0 0):=by unfold cutDir;rw [hhap];rfl
  refine ⟨.list (.x m2),_,rfl,hl3,fun q σ' ρ'=>Kp (fun a=>a=.x m1) σ3 σ'∧σ' (.x m1)=some (.dictS (dirM (plays (D.jour.take q) D.kept)))∧lget "self" ρ'=some (.ref (.d i .disk))∧lget "row" ρ'=some (.ref (.x r))∧lget "directory" ρ'=some (.ref (.x m1)),?_,?_,?_,?_⟩
  ·exact ⟨.refl _ _,hdir3,by walk_at "lg",by walk_at "lg",by walk_at "lg"⟩
  ·intro q σ' ρ';refine f0_2 fun K _=>?_;exact K.at hl3 hne12
  ·intro q σ' ρ' v;refine f0_5 fun K hdr q1 q2 q3=>?_;rintro hv _ _
   have hvq:q<hap∧∃ a,js[q]?=some a∧v=.ref a:=by
    rw [List.getElem?_take] at hv
    split at hv
    ·rename_i hq
     rw [List.getElem?_map] at hv
     refine c1_2 (Option.map_eq_some_iff.mp hv) ?_;rintro a ha rfl
     exact ⟨hq,a,ha,rfl⟩
    ·exact nos hv
   obtain ⟨hqu,b,hb,rfl⟩:=hvq
   obtain ⟨s,hs,⟨ms,rfl⟩,hss⟩:=h3.steps.get hb
   have hss':=K.at hss (by intro z;rw [z,hdir3] at hss;exact mo_no hss rfl)
   walk_at "r"
   refine ((happen_ok hss' hdr (fits_take hF hs) (by have:=plays_len (D.jour.take q) D.kept;rw [List.length_take] at this;lia)).le (nle rfl)).mono ?_ nof
   intro v σ4 zz;refine e2 zz ?_
   walk_at "r"
   have e:plays (D.jour.take (q+1)) D.kept=play s (plays (D.jour.take q) D.kept):=by rw [List.take_add_one,hs];exact plays_snoc ..
   exact ⟨K.then_upd rfl,by rw [upd_self,e],by walk_at "lg",by walk_at "lg",by walk_at "lg"⟩
  ·intro σ' ρ';refine f0_5 fun K hdr q1 q2 q3=>?_
   have hlen:((js.map MV.ref).take hap).length=hap:=by rw [List.length_take,hjs];lia
   rw [hlen,hdirE] at hdr
   have h4:DAt σ' i D g js:=h3.keep2 K (by intro p z;exact dif_no z rfl) (by intro k s z e;cases z;rw [hdir3] at e;exact mo_no e rfl)
   have hr4:=K.at hr3 hner
   refine c1_1 ((K.sup (K3.sup hS)).d) fun j hj=>?_
   have hij:¬ i=j:=h4.dne hj
   have hjσ:∀ p,σ (.d j p)=none:=fun p=>by
    cases e:σ (.d j p) with
    | none=>rfl
    | some o=>exact absurd (hj p) (K.dom _ (K3.dom _ (by rw [e];exact fun z=>nomatch z)))
   generalize hdE:cutDir D ((cutRow ps).getD 0 0)=dir at hdr hH
   generalize hns:snames (keysD dir)=ns
   have hdirl:dir.length≤40:=by have:=plays_len (D.jour.take hap) D.kept;rw [hdirE,List.length_take,hdE] at this;lia
   have hnsl:ns.length=dir.length:=by rw [← hns,snames_len,keysD_len]
   walk_at "r"
   refine ((Disk_new hj).le (nle rfl)).mono ?_ nof
   intro v σ5;refine f0_4 ?_;rintro rfl K5 h5 _
   have KA:Kp (fun a=>a=.x m1) σ3 σ5:=K.trans (K5.mono fun _ z=>z.elim)
   have h4':DAt σ5 i D g js:=h4.keep K5 (fun _ z=>z) fun _ z=>z
   have hr5:=K5.at hr4 (fun z=>z)
   have hdr5:=K5.at hdr (fun z=>z)
   refine c1_1 ((KA.sup (K3.sup hS)).x) fun m5 hm5=>?_
   walk_at "r"
   refine ExS.forIn rfl (by walk_at "mem") ?_
   walk_at "r"
   refine B.sorted_dictS hm5 hdr5 (by rw [dirM_length];lia) fun ks hp hs=>?_
   rw [keys_dirM] at hp
   have eks:=snames_eq hp hs;clear hp hs;subst eks
   rw [hns]
   have hsl5:upd σ5 (.x m5) (.list (ns.map MV.str)) (.x m5)=some (.list (ns.map MV.str)):=upd_self ..
   have h6:DAt (upd σ5 (.x m5) (.list (ns.map MV.str))) j Dk.new ⟨0,0,0,0⟩ []:=h5.x hm5
   have h6':DAt (upd σ5 (.x m5) (.list (ns.map MV.str))) i D g js:=h4'.x hm5
   have hr6:upd σ5 (.x m5) (.list (ns.map MV.str)) (.x r)=some (.list ((cutRow ps).map .int)):=upd_at (ne_fresh hr5 hm5) hr5
   have hdr6:upd σ5 (.x m5) (.list (ns.map MV.str)) (.x m1)=some (.dictS (dirM dir)):=upd_at (ne_fresh hdr5 hm5) hdr5
   have KB:Kp (fun a=>a=.x m1) σ3 (upd σ5 (.x m5) (.list (ns.map MV.str))):=KA.then_x hm5
   have hjF:∀ p,σ' (.d j p)=none:=hj
   generalize upd σ5 (.x m5) (.list (ns.map MV.str))=σ6 at hsl5 h6 h6' hr6 hdr6 KB ⊢
   refine ⟨.list (.x m5),_,rfl,hsl5,fun q σ' ρ'=>Kp (inD j) σ6 σ'∧DAt σ' j (cutOn D (cutRow ps) dir (ns.take q)) ⟨0,0,0,0⟩ []∧lget "self" ρ'=some (.ref (.d i .disk))∧lget "row" ρ'=some (.ref (.x r))∧lget "directory" ρ'=some (.ref (.x m1)) ∧
    lget "after" ρ'=some (.ref (.d j .disk))∧lget "place" ρ'=some (.int (q:Nat)),?_,?_,?_,?_⟩
   ·exact ⟨.refl _ _,h6,by walk_at "lg",by walk_at "lg",by walk_at "lg",by walk_at "lg",by walk_at "lg"⟩
   ·intro q σ' ρ';refine f0_2 fun K _=>?_;exact K.at hsl5 (by refine f1_1 fun p z=>?_;exact dif_no z rfl)
   ·intro q σ7 ρ' v;refine f0_7 fun K hA q1 q2 q3 q4 q5=>?_;rintro hv _ _
    rw [List.getElem?_map] at hv
    refine c1_2 (Option.map_eq_some_iff.mp hv) ?_;rintro n hn rfl
    have hql:q<ns.length:=(List.getElem?_eq_some_iff.mp hn).1
    have hmem:n∈keysD dir:=snames_mem (by rw [hns];exact List.mem_of_getElem? hn)
    refine c1_1 (Option.isSome_iff_exists.mp (dget_mem hmem)) fun k hgk=>?_
    refine c1_3 (hH.nd n k hgk) fun nn hnn hsz hks=>?_
    have hI:=cut_inv D (cutRow ps) dir (ns.take q)
    rw [List.length_take,Nat.min_eq_left (by lia)] at hI
    have hDi:DAt σ7 i D g js:=h6'.keep K (by intro p;refine f1_1 fun p' z=>?_;exact hij (d_inj z)) (by intro k;refine f1_1 fun p' z=>?_;exact dif_no z rfl)
    have hr7:=K.at hr6 (by refine f1_1 fun p z=>?_;exact dif_no z rfl)
    have hdr7:=K.at hdr6 (by refine f1_1 fun p z=>?_;exact dif_no z rfl)
    have hdi:=hDi.disk
    refine c0_2 (hDi.nd k nn hnn) fun n1 n2=>?_
    have eq1:ns.take (q+1)=ns.take q++[n]:=by rw [List.take_add_one,hn];rfl
    generalize hAE:cutOn D (cutRow ps) dir (ns.take q)=A at hA hI
    refine J.mono (Q:=fun mf σ' ρ''=>mf=MF.next∧Kp (inD j) σ6 σ'∧DAt σ' j (cutStep D (cutRow ps) dir A n) ⟨0,0,0,0⟩ []∧lget "self" ρ''=some (.ref (.d i .disk))∧lget "row" ρ''=some (.ref (.x r))∧lget "directory" ρ''=some (.ref (.x m1)) ∧
     lget "after" ρ''=some (.ref (.d j .disk))∧lget "place" ρ''=some (.int ((q+1:Nat):Int))) ?_ ?_
    rotate_left
    ·intro mf σ' ρ'';refine f0_4 ?_;rintro rfl t1 t2 t3
     walk_at "go"
     exact ⟨t1,by rw [eq1,cutOn_snoc,hAE];exact t2,t3⟩
    obtain ⟨aleft,aspent,aalive,amade,and',areg,akept,apres,ajour⟩:=A
    obtain ⟨i1,i2,i3,i4,i5,i6,i7,i8,i9⟩:=hI
    dsimp only at i1 i2 i3 i4 i5 i6 i7 i8 i9
    subst i1 i2 i3 i4 i5
    have hdA:=hA.disk
    walk_at "r"
    refine ⟨_,SubR.dictS hdr7 (by rw [getK_dirM,hgk];rfl),?_⟩
    refine ⟨_,SubR.dictI hDi.nodes (getK_regM (hH.reg n k hgk)),?_⟩
    walk_at "r"
    refine B.len_list hr7 (by rw [List.length_map];lia) ?_
    rw [List.length_map]
    refine bin_mod (by lia) ?_
    have emod:((amade:Int).fmod ((cutRow ps).length:Int))=((amade % (cutRow ps).length:Nat):Int):=by
     rw [Int.fmod_eq_emod_of_nonneg _ (by lia)];rfl
    rw [emod]
    have hmlt:amade % (cutRow ps).length<(cutRow ps).length:=Nat.mod_lt _ (by lia)
    refine ⟨_,SubR.list hr7 (by lia) (by lia) (v:=.int ((cutRow ps).getD (amade % (cutRow ps).length) 0)) ?_,?_⟩
    ·rw [Int.toNat_natCast,List.getElem?_map,List.getElem?_eq_getElem hmlt,List.getD_eq_getElem?_getD,List.getElem?_eq_getElem hmlt];rfl
    walk_at "r"
    refine ((unsynced_ok n1 n2 (by lia)).le (nle rfl)).mono ?_ nof
    intro v σ' zz;refine e2 zz ?_
    walk_at "r"
    have euns:((nn.data.size:Int) - (nn.kept:Int)+1)=((nn.data.size - nn.kept:Nat):Int)+1:=by lia
    rw [euns]
    refine c1_2 (fmod_nn (r:=(cutRow ps).getD (amade % (cutRow ps).length) 0) (n:=nn.data.size - nn.kept)) fun rr hrr hrle=>?_
    refine bin_mod (by lia) ?_
    rw [hrr]
    have elen:cutLen nn ((cutRow ps).getD (amade % (cutRow ps).length) 0)=nn.kept+rr:=by unfold cutLen;rw [hrr];rfl
    have elI:(nn.kept:Int)+(rr:Int)=((nn.kept+rr:Nat):Int):=by lia
    refine bin_add ?_
    rw [elI]
    have hlenle:nn.kept+rr≤nn.data.size:=by lia
    generalize hLE:nn.kept+rr=len at elen hlenle ⊢
    walk_at "r"
    have hB:=hA.set (D':=⟨-1,0,true,amade+1,and',areg,akept,apres,[]⟩) (Nat.le_succ _)
    have eB:MO.inst 387 (lset "made" (MV.int ((amade:Int)+1)) [("left",.int (-1)),("spent",.int 0),("alive",.bool true),("nodes",.ref (.d j (.nm 0))),("made",.int amade),("kept_names",.ref (.d j (.kn 0))),("present",.ref (.d j (.pr 0))),("journal",.ref (.d j (.jr 0)))])=diskO j ⟨-1,0,true,amade+1,and',areg,akept,apres,[]⟩ ⟨0,0,0,0⟩:=by kernel_rfl
    rw [eB]
    have KB':Kp (inD j) σ6 (upd σ7 (.d j .disk) (diskO j ⟨-1,0,true,amade+1,and',areg,akept,apres,[]⟩ ⟨0,0,0,0⟩)):=K.then_upd ⟨_,rfl⟩
    refine c0_2 (hA.fd (amade+1) (Nat.lt_succ_self _)) fun f1 f2=>?_
    have f1':upd σ7 (.d j .disk) (diskO j ⟨-1,0,true,amade+1,and',areg,akept,apres,[]⟩ ⟨0,0,0,0⟩) (.d j (.node (amade+1)))=none:=udf tru f1
    have f2':upd σ7 (.d j .disk) (diskO j ⟨-1,0,true,amade+1,and',areg,akept,apres,[]⟩ ⟨0,0,0,0⟩) (.d j (.nbuf (amade+1)))=none:=udf tru f2
    have n1':upd σ7 (.d j .disk) (diskO j ⟨-1,0,true,amade+1,and',areg,akept,apres,[]⟩ ⟨0,0,0,0⟩) (.d i (.node k))=some (nodeO i k nn.kept):=udf tru n1
    have n2':upd σ7 (.d j .disk) (diskO j ⟨-1,0,true,amade+1,and',areg,akept,apres,[]⟩ ⟨0,0,0,0⟩) (.d i (.nbuf k))=some (.barr nn.data):=udf tru n2
    generalize upd σ7 (.d j .disk) (diskO j ⟨-1,0,true,amade+1,and',areg,akept,apres,[]⟩ ⟨0,0,0,0⟩)=σ8 at hB KB' f1' f2' n1' n2' ⊢
    refine c1_1 ((KB'.sup (KB.sup (K3.sup hS))).x) fun m9 hm9=>?_
    refine EvE.upto ?_
    walk_at "r"
    refine ⟨len,rfl,.x m9,hm9,.inr ⟨_,n2',by lia,?_⟩⟩
    have hC:=hB.x (o:=.barr (takeB nn.data len)) hm9
    have KC:Kp (inD j) σ6 (upd σ8 (.x m9) (.barr (takeB nn.data len))):=KB'.then_x hm9
    have f1'':upd σ8 (.x m9) (.barr (takeB nn.data len)) (.d j (.node (amade+1)))=none:=udf tru f1'
    have f2'':upd σ8 (.x m9) (.barr (takeB nn.data len)) (.d j (.nbuf (amade+1)))=none:=udf tru f2'
    have l9:upd σ8 (.x m9) (.barr (takeB nn.data len)) (.x m9)=some (.barr (takeB nn.data len)):=upd_self ..
    have htb:(takeB nn.data len).size≤900:=by rw [takeB_size];lia
    generalize upd σ8 (.x m9) (.barr (takeB nn.data len))=σ9 at hC KC f1'' f2'' l9 ⊢
    walk_at "r"
    refine B.barr1 f2'' l9 (by lia) ?_
    have f1c:upd σ9 (.d j (.nbuf (amade+1))) (.barr (takeB nn.data len)) (.d j (.node (amade+1)))=none:=udf tru f1''
    walk_at "r"
    refine ((Node_new f1c).le (nle rfl)).mono ?_ nof
    intro v σa;refine f0_2 ?_;rintro rfl hσa
    have hN:DAt σa j ⟨-1,0,true,amade+1,fun k=>if k=amade+1 then some ⟨takeB nn.data len,len⟩ else and' k,areg,akept,apres,[]⟩ ⟨0,0,0,0⟩ []:=by
     rw [hσa];exact hC.node (b:=takeB nn.data len) (q:=len) f1'' (Nat.le_refl _)
    have KN:Kp (inD j) σ6 σa:=by rw [hσa];exact (KC.then_upd ⟨_,rfl⟩).then_upd ⟨_,rfl⟩
    clear hσa
    have hdN:=hN.disk
    have hnr:amade+1∉areg:=fun z=>by have:=i6 _ z;lia
    walk_at "r"
    refine ⟨_,SetR.dictI hN.nodes (by rw [regM_length];dsimp only;lia),?_⟩
    have eR:setK ((amade+1:Nat):Int) (.ref (.d j (.node (amade+1)))) (regM j areg)=regM j (areg++[amade+1]):=setK_regM hnr
    rw [eR]
    have hR:=hN.regs (areg++[amade+1])
    have KR:Kp (inD j) σ6 (upd σa (.d j (.nm 0)) (.dictI (regM j (areg++[amade+1])))):=KN.then_upd ⟨_,rfl⟩
    dsimp only at hR
    generalize upd σa (.d j (.nm 0)) (.dictI (regM j (areg++[amade+1])))=σb at hR KR ⊢
    have hdR:=hR.disk
    walk_at "r"
    refine ⟨_,SetR.dictS hR.kept (by rw [dirM_length];dsimp only;lia),?_⟩
    rw [setK_dirM]
    have hK:=hR.kepts (dset n (amade+1) akept)
    have KK:Kp (inD j) σ6 (upd σb (.d j (.kn 0)) (.dictS (dirM (dset n (amade+1) akept)))):=KR.then_upd ⟨_,rfl⟩
    dsimp only at hK
    generalize upd σb (.d j (.kn 0)) (.dictS (dirM (dset n (amade+1) akept)))=σc at hK KK ⊢
    have hdK:=hK.disk
    walk_at "r"
    refine ⟨_,SetR.dictS hK.pres (by rw [dirM_length];dsimp only;lia),?_⟩
    rw [setK_dirM]
    have hP:=hK.press (dset n (amade+1) apres)
    have KP:Kp (inD j) σ6 (upd σc (.d j (.pr 0)) (.dictS (dirM (dset n (amade+1) apres)))):=KK.then_upd ⟨_,rfl⟩
    dsimp only at hP
    generalize upd σc (.d j (.pr 0)) (.dictS (dirM (dset n (amade+1) apres)))=σd at hP KP ⊢
    walk_at "r"
    refine ⟨_,_,rfl,rfl,?_⟩
    walk_at "r"
    refine ⟨rfl,KP,?_,by walk_at "lg",by walk_at "lg",by walk_at "lg",by walk_at "lg",?_⟩
    ·unfold cutStep
     dsimp only
     rw [hgk,Option.getD_some,hnn,Option.getD_some,elen]
     exact hP
    ·rw [lget_lset,if_pos rfl];rfl
   ·intro σz ρ';refine f0_7 fun K7 hA q1 q2 q3 q4 q5=>?_
    rw [List.length_map,List.take_length] at hA
    walk_at "r"
    refine ⟨j,rfl,hjσ,?_,?_⟩
    ·refine Kp.fresh (j:=j) ?_ hjσ
     refine Kp.forget_x (m:=m1) ?_ (K1.none_of hm1)
     exact (K3.mono fun _ z=>z.elim).trans ((KB.mono fun a z=>.inr z).trans (K7.mono fun a z=>.inl (.inr z)))
    ·unfold Dk.cut
     rw [hdE,hns]
     exact hA
 refine And.intro (fun hb=>?_) (fun hb=>?_)
 ·have hb':0<ps.length:=by simpa using hb
  walk_at "st"
  walk_at "st"
  walk_at "st"
  walk_at "st"
  walk_at "go"
  exact rest _ a (by walk_at "lg") (by walk_at "lg") (by unfold cutRow;rw [if_pos hb'];exact ha1) rfl
 ·have hb':¬ 0<ps.length:=by simpa using hb
  walk_at "st"
  walk_at "go"
  exact rest _ m0 (by walk_at "lg") (by walk_at "lg") (by unfold cutRow;rw [if_neg hb'];exact hrow0) rfl
end
noncomputable def copyOn(D:Dk)(ks:List Nat):Dk:=⟨D.left,D.spent,D.alive,D.made,fun k=>if k∈ks then D.nd k else none,ks,[],[],[]⟩
noncomputable def Dk.copyD(D:Dk):Dk:={ copyOn D (snums D.reg) with kept:=D.kept,pres:=D.pres,jour:=D.jour }
theorem copyOn_snoc{D:Dk}{ks:List Nat}{k:Nat}{n:Nd}(h:D.nd k=some n):copyOn D (ks++[k])={ copyOn D ks with nd:=fun j=>if j=k then some ⟨n.data,n.kept⟩ else (copyOn D ks).nd j,reg:=ks++[k] }:=by
 unfold copyOn
 congr 1
 funext j
 by_cases e:j=k
 ·subst e;simp [h]
 ·simp [e]
section
variable{X:Cx}{c:Bool}{σ:Hp}{i j:Nat}{g:Gs}{js:List MA}{left left' spent:Int}{alive:Bool}{made:Nat}{nd:Nat→Option Nd}{reg:List Nat}{kept pres:Dir}{jour:List Stp}{D:Dk}
theorem Node_copy_ok{k q:Nat}{b:Array UInt8}(h:σ (.d i (.node k))=some (nodeO i k q))(hb:σ (.d i (.nbuf k))=some (.barr b))(hs:b.size≤900)(f1:σ (.d j (.nbuf k))=none)(f2:σ (.d j (.node k))=none):CallJ X true 3 true (.ref 139) [.ref (.d i (.node k))] σ
  (fun v σ'=>v=.ref (.d j (.node k))∧σ'=upd (upd σ (.d j (.nbuf k)) (.barr b)) (.d j (.node k)) (nodeO j k q)) (fun _ _=>False):=by
 refine CallJ.fn (fn_Node_copy X.w) D_Node_copy rfl fun _ _=>?_
 walk_at "c"
 refine B.barr1 f1 hb (by lia) ?_
 have h':upd σ (.d j (.nbuf k)) (.barr b) (.d i (.node k))=some (nodeO i k q):=udf tru h
 have f2':upd σ (.d j (.nbuf k)) (.barr b) (.d j (.node k))=none:=udf tru f2
 walk_at "r"
 refine ((Node_new f2').le (nle rfl)).mono ?_ nof
 intro v σa zz;refine e2 zz ?_
 walk_at "go"
 exact ⟨rfl,rfl⟩
theorem copy_ok(h:DAt σ i D g js)(hS:Sup σ)(hn:D.reg.Nodup)(hr:∀ k∈D.reg,1≤k∧k≤D.made∧∃ n,D.nd k=some n∧n.data.size≤800)(hl:D.reg.length<60)(hk:D.kept.length≤60)(hp:D.pres.length≤60)(hj:D.jour.length≤60):CallJ X true 4 true (.ref 377) [.ref (.d i .disk)] σ
  (fun v σ'=>∃ j g' js',v=.ref (.d j .disk)∧(∀ p,σ (.d j p)=none)∧Kp nil σ σ'∧DAt σ' j D.copyD g' js') (fun _ _=>False):=by
 have hd:=h.disk
 refine CallJ.fn (fn_Disk_copy X.w) D_Disk_copy rfl fun _ _=>?_
 refine ExSs.consK ?_;intro _ _
 refine c1_1 hS.d fun j hj0=>?_
 have hij:¬ i=j:=h.dne hj0
 walk_at "r"
 refine ((Disk_new hj0).le (nle rfl)).mono ?_ nof
 intro v σ1;refine f0_4 ?_;rintro rfl K1 h1 p1
 have h1':DAt σ1 i D g js:=h.keep K1 (fun _ z=>z) fun _ z=>z
 have hd1:=h1.disk
 have hd1':=h1'.disk
 have nij:¬ (MA.d i .disk)=.d j .disk:=by intro z;exact hij (d_inj z)
 have q1:∀ o,upd σ1 (.d j .disk) o (.d i .disk)=some (diskO i D g):=fun o=>upd_at nij hd1'
 have q2:∀ o o',upd (upd σ1 (.d j .disk) o) (.d j .disk) o' (.d i .disk)=some (diskO i D g):=fun o o'=>upd_at nij (q1 o)
 have q3:∀ o o' o'',upd (upd (upd σ1 (.d j .disk) o) (.d j .disk) o') (.d j .disk) o'' (.d i .disk)=some (diskO i D g):=fun o o' o''=>upd_at nij (q2 o o')
 have q4:∀ o o' o'' p,upd (upd (upd (upd σ1 (.d j .disk) o) (.d j .disk) o') (.d j .disk) o'') (.d j .disk) p (.d i .disk)=some (diskO i D g):=fun o o' o'' p=>upd_at nij (q3 o o' o'')
 walk_at "r"
 generalize hσ2:upd (upd (upd (upd σ1 (.d j .disk) _) (.d j .disk) _) (.d j .disk) _) (.d j .disk) _=σ2
 have e2:σ2=upd σ1 (.d j .disk) (diskO j (copyOn D []) ⟨0,0,0,0⟩):=by
  rw [← hσ2,upd_upd,upd_upd,upd_upd]
  kernel_rfl
 have h2:DAt σ2 j (copyOn D []) ⟨0,0,0,0⟩ []:=by
  rw [e2]
  refine h1.set (D':=copyOn D []) (Nat.zero_le _) ?_
  unfold copyOn Dk.new;simp
 have K2:Kp (inD j) σ σ2:=by rw [e2];exact (K1.mono fun _ z=>z.elim).then_upd ⟨_,rfl⟩
 have fr2:∀ k,1≤k→σ2 (.d j (.node k))=none∧σ2 (.d j (.nbuf k))=none:=fun k hk=>by
  rw [e2];exact ⟨udf tru (h1.fd k hk).1,udf tru (h1.fd k hk).2⟩
 have p2:σ2 (.d j (.pr 1))=none:=by rw [e2];exact udf tru p1
 clear hσ2 e2 q1 q2 q3 q4
 have h2':DAt σ2 i D g js:=h.keep K2 (by intro p;refine f1_1 fun p' z=>?_;exact hij (d_inj z)) (by intro k;refine f1_1 fun p' z=>?_;exact dif_no z rfl)
 have hd2:=h2.disk
 have hd2':=h2'.disk
 refine c1_1 ((K2.sup hS).x) fun m2 hm2=>?_
 refine ExS.forIn rfl (by walk_at "mem") ?_
 walk_at "r"
 refine B.sorted_dictI hm2 h2'.nodes (by rw [regM_length];lia) fun ks hpm hs=>?_
 have ek:(regM i D.reg).map (·.1)=D.reg.map fun k:Nat=>(k:Int):=by unfold regM;rw [List.map_map];rfl
 rw [ek] at hpm
 have eks:=snums_eq hpm hs;clear hpm hs;subst eks
 generalize hns:snums D.reg=ns
 have hnsn:ns.Nodup:=by rw [← hns];exact (snums_perm D.reg).nodup_iff.mpr hn
 have hnsl:ns.length=D.reg.length:=by rw [← hns];exact (snums_perm D.reg).length_eq
 have hnsm:∀ k,k∈ns→k∈D.reg:=fun k z=>(snums_perm D.reg).mem_iff.mp (by rw [hns];exact z)
 have p3:upd σ2 (.x m2) (.list ((ns.map fun k:Nat=>(k:Int)).map MV.int)) (.d j (.pr 1))=none:=udf tru p2
 have hl3:upd σ2 (.x m2) (.list ((ns.map fun k:Nat=>(k:Int)).map MV.int)) (.x m2)=some (.list ((ns.map fun k:Nat=>(k:Int)).map MV.int)):=upd_self ..
 have h3:DAt (upd σ2 (.x m2) (.list ((ns.map fun k:Nat=>(k:Int)).map MV.int))) j (copyOn D []) ⟨0,0,0,0⟩ []:=h2.x hm2
 have h3':DAt (upd σ2 (.x m2) (.list ((ns.map fun k:Nat=>(k:Int)).map MV.int))) i D g js:=h2'.x hm2
 have K3:Kp (inD j) σ (upd σ2 (.x m2) (.list ((ns.map fun k:Nat=>(k:Int)).map MV.int))):=K2.then_x hm2
 have fr3:∀ k,1≤k→upd σ2 (.x m2) (.list ((ns.map fun k:Nat=>(k:Int)).map MV.int)) (.d j (.node k))=none∧upd σ2 (.x m2) (.list ((ns.map fun k:Nat=>(k:Int)).map MV.int)) (.d j (.nbuf k))=none:=fun k hk =>
  ⟨udf tru (fr2 k hk).1,udf tru (fr2 k hk).2⟩
 generalize upd σ2 (.x m2) (.list ((ns.map fun k:Nat=>(k:Int)).map MV.int))=σ3 at hl3 h3 h3' K3 fr3 p3 ⊢
 refine ⟨.list (.x m2),_,rfl,hl3,fun q σ' ρ'=>Kp (inD j) σ3 σ'∧DAt σ' j (copyOn D (ns.take q)) ⟨0,0,0,0⟩ []∧σ' (.d j (.pr 1))=none∧(∀ k,1≤k→k∉ns.take q→σ' (.d j (.node k))=none∧σ' (.d j (.nbuf k))=none)∧lget "self" ρ'=some (.ref (.d i .disk))∧lget "other" ρ'=some (.ref (.d j .disk)),?_,?_,?_,?_⟩
 ·refine ⟨.refl _ _,h3,p3,fun k hk _=>fr3 k hk,by walk_at "lg",by walk_at "lg"⟩
 ·intro q σ' ρ';refine f0_2 fun K _=>?_;exact K.at hl3 (by refine f1_1 fun p z=>?_;exact dif_no z rfl)
 ·intro q σ4 ρ' v;refine f0_6 fun K hA p4 hfr q1 q2=>?_;rintro hv _ _
  rw [List.getElem?_map,List.getElem?_map] at hv
  refine c1_2 (Option.map_eq_some_iff.mp hv) ?_;rintro kz hkz rfl
  refine c1_2 (Option.map_eq_some_iff.mp hkz) ?_;rintro k hkk rfl
  have hql:q<ns.length:=(List.getElem?_eq_some_iff.mp hkk).1
  have hkr:k∈D.reg:=hnsm k (List.mem_of_getElem? hkk)
  obtain ⟨hk1,hkm,nn,hnn,hsz⟩:=hr k hkr
  have etk:ns.take (q+1)=ns.take q++[k]:=by rw [List.take_add_one,hkk];rfl
  have hnt:k∉ns.take q:=by
   intro z
   have:=hnsn
   rw [← List.take_append_drop (q+1) ns,etk,List.append_assoc] at this
   exact (List.nodup_append.mp this).2.2 k z k (by simp) rfl
  refine c0_2 (hfr k hk1 hnt) fun fa fb=>?_
  have hDi:DAt σ4 i D g js:=h3'.keep K (by intro p;refine f1_1 fun p' z=>?_;exact hij (d_inj z)) (by intro k;refine f1_1 fun p' z=>?_;exact dif_no z rfl)
  have hdi:=hDi.disk
  have hdA:=hA.disk
  refine c0_2 (hDi.nd k nn hnn) fun n1 n2=>?_
  walk_at "r"
  refine EvE.meth ?_ rfl rfl rfl rfl
  walk_at "r"
  refine ⟨_,SubR.dictI hDi.nodes (getK_regM hkr),?_⟩
  refine ⟨_,_,_,_,rfl,n1,meth_ok X.w (m:="copy") rfl,by walk_at "lg",?_⟩
  walk_at "r"
  refine (Node_copy_ok n1 n2 (by lia) fb fa).mono ?_ nof
  intro v σ5;refine f0_2 ?_;rintro rfl hσ5
  have hN:=hA.node (b:=nn.data) (q:=nn.kept) fa hkm
  rw [← hσ5] at hN
  have KN:Kp (inD j) σ3 σ5:=by rw [hσ5];exact (K.then_upd ⟨_,rfl⟩).then_upd ⟨_,rfl⟩
  have hfr5:∀ k',1≤k'→k'∉ns.take (q+1)→σ5 (.d j (.node k'))=none∧σ5 (.d j (.nbuf k'))=none:=fun k' hk1' hk'=>by
   rw [etk] at hk'
   simp only [List.mem_append,List.mem_singleton,not_or] at hk'
   refine c0_2 (hfr k' hk1' hk'.1) fun a b=>?_
   rw [hσ5]
   exact ⟨upd_at (by intro z;first | exact hk'.2 (nd_inj z) | exact hk'.2 (nb_inj z)) (udf tru a),udf tru (upd_at (by intro z;first | exact hk'.2 (nd_inj z) | exact hk'.2 (nb_inj z)) b)⟩
  have p5:σ5 (.d j (.pr 1))=none:=by rw [hσ5];exact udf tru (udf tru p4)
  clear hσ5
  have hdN:=hN.disk
  walk_at "r"
  have hlr:(ns.take q).length≤100:=by rw [List.length_take];lia
  refine ⟨_,SetR.dictI hN.nodes (by rw [regM_length];show (ns.take q).length≤_;lia),?_⟩
  have eR:setK (k:Int) (.ref (.d j (.node k))) (regM j (ns.take q))=regM j (ns.take q++[k]):=setK_regM hnt
  have hR:=hN.regs (ns.take q++[k])
  walk_at "r"
  refine ⟨KN.then_upd ⟨_,rfl⟩,?_,udf tru p5,fun k' hk1' hk'=>⟨udf tru (hfr5 k' hk1' hk').1,udf tru (hfr5 k' hk1' hk').2⟩,by walk_at "lg",by walk_at "lg"⟩
  rw [etk,copyOn_snoc hnn]
  show DAt (upd σ5 (.d j (.nm 0)) (.dictI (setK (k:Int) (.ref (.d j (.node k))) (regM j (ns.take q))))) _ _ _ _
  rw [eR]
  exact hR
 ·intro σ4 ρ';refine f0_6 fun K hA p4 hfr q1 q2=>?_
  rw [List.length_map,List.length_map,List.take_length] at hA
  have K4:=K3.trans K
  have hDi:DAt σ4 i D g js:=h3'.keep K (by intro p;refine f1_1 fun p' z=>?_;exact hij (d_inj z)) (by intro k;refine f1_1 fun p' z=>?_;exact dif_no z rfl)
  have hdi:=hDi.disk
  have hdA:=hA.disk
  walk_at "r"
  refine B.dict_dict (hA.fk 1 (Nat.lt_succ_self _)) hDi.kept (by rw [dirM_length];lia) ?_
  have hK:=rekept hA D.kept
  have nij':¬ (MA.d i (.pr g.p))=.d j .disk:=by intro z;exact dif_no z rfl
  have a1:upd σ4 (.d j (.kn 1)) (.dictS (dirM D.kept)) (.d j .disk)=some (diskO j (copyOn D ns) ⟨0,0,0,0⟩):=udf tru hdA
  have a2:upd σ4 (.d j (.kn 1)) (.dictS (dirM D.kept)) (.d i .disk)=some (diskO i D g):=udf tru hdi
  walk_at "st"
  walk_at "st"
  generalize hσ5:upd (upd σ4 (.d j (.kn 1)) (.dictS (dirM D.kept))) (.d j .disk) _=σ5
  have e5:σ5=upd (upd σ4 (.d j (.kn 1)) (.dictS (dirM D.kept))) (.d j .disk) (diskO j { copyOn D ns with kept:=D.kept } ⟨0,1,0,0⟩):=by rw [← hσ5];kernel_rfl
  have h5:DAt σ5 j { copyOn D ns with kept:=D.kept } ⟨0,1,0,0⟩ []:=by rw [e5];exact hK
  have K5:Kp (inD j) σ σ5:=by rw [e5];exact (K4.then_upd ⟨_,rfl⟩).then_upd ⟨_,rfl⟩
  have p5:σ5 (.d j (.pr 1))=none:=by rw [e5];exact udf tru (udf tru p4)
  clear hσ5 e5 a1 a2 hK
  have hDi5:DAt σ5 i D g js:=h.keep K5 (by intro p;refine f1_1 fun p' z=>?_;exact hij (d_inj z)) (by intro k;refine f1_1 fun p' z=>?_;exact dif_no z rfl)
  have hdi5:=hDi5.disk
  have hd5:=h5.disk
  walk_at "r"
  refine B.dict_dict p5 hDi5.pres (by rw [dirM_length];lia) ?_
  have hR:=repres h5 D.pres
  have a1:upd σ5 (.d j (.pr 1)) (.dictS (dirM D.pres)) (.d j .disk)=some (diskO j { copyOn D ns with kept:=D.kept } ⟨0,1,0,0⟩):=udf tru hd5
  walk_at "st"
  walk_at "st"
  generalize hσ6:upd (upd σ5 (.d j (.pr 1)) (.dictS (dirM D.pres))) (.d j .disk) _=σ6
  have e6:σ6=upd (upd σ5 (.d j (.pr 1)) (.dictS (dirM D.pres))) (.d j .disk) (diskO j { copyOn D ns with kept:=D.kept,pres:=D.pres } ⟨0,1,1,0⟩):=by rw [← hσ6];kernel_rfl
  have h6:DAt σ6 j { copyOn D ns with kept:=D.kept,pres:=D.pres } ⟨0,1,1,0⟩ []:=by rw [e6];exact hR
  have K6:Kp (inD j) σ σ6:=by rw [e6];exact (K5.then_upd ⟨_,rfl⟩).then_upd ⟨_,rfl⟩
  clear hσ6 e6 a1 hR
  have hDi6:DAt σ6 i D g js:=h.keep K6 (by intro p;refine f1_1 fun p' z=>?_;exact hij (d_inj z)) (by intro k;refine f1_1 fun p' z=>?_;exact dif_no z rfl)
  have hdi6:=hDi6.disk
  have hd6:=h6.disk
  walk_at "r"
  refine B.list_list (h6.fj 1 (Nat.lt_succ_self _)) hDi6.jour (by rw [list_length_mapref,hDi6.steps.length];lia) ?_
  have hJ:=rejour h6 hDi6.steps
  have a1:upd σ6 (.d j (.jr 1)) (.list (js.map MV.ref)) (.d j .disk)=some (diskO j { copyOn D ns with kept:=D.kept,pres:=D.pres } ⟨0,1,1,0⟩):=udf tru hd6
  walk_at "st"
  walk_at "st"
  generalize hσ7:upd (upd σ6 (.d j (.jr 1)) (.list (js.map MV.ref))) (.d j .disk) _=σ7
  have e7:σ7=upd (upd σ6 (.d j (.jr 1)) (.list (js.map MV.ref))) (.d j .disk) (diskO j { copyOn D ns with kept:=D.kept,pres:=D.pres,jour:=D.jour } ⟨0,1,1,1⟩):=by rw [← hσ7];kernel_rfl
  have h7:DAt σ7 j { copyOn D ns with kept:=D.kept,pres:=D.pres,jour:=D.jour } ⟨0,1,1,1⟩ js:=by rw [e7];exact hJ
  have K7:Kp (inD j) σ σ7:=by rw [e7];exact (K6.then_upd ⟨_,rfl⟩).then_upd ⟨_,rfl⟩
  clear hσ7 e7 a1 hJ
  walk_at "r"
  exact ⟨j,_,_,rfl,hj0,Kp.fresh (P:=nil) (K7.mono fun a z=>.inr z) hj0,by unfold Dk.copyD;rw [hns];exact h7⟩
end
noncomputable abbrev subO(a:MA)(q:Str):MO:=.inst 522 [("disk",.ref a),("prefix",.str q)]
inductive Place(σ:Hp)(i:Nat):MA→List Str→Prop
 | disk:Place σ i (.d i .disk) []
 | sub {m:Nat} {a:MA} {qs:List Str} {q:Str} (h:Place σ i a qs) (e:σ (.x m)=some (subO a q)) (hq:q.length≤10):Place σ i (.x m) (qs++[q])
theorem Place.keep{P:MA→Prop}{σ σ':Hp}{i:Nat}{a:MA}{qs:List Str}(h:Place σ i a qs)(k:Kp P σ σ')(hp:∀ k,¬ P (.x k)):Place σ' i a qs:=by
 induction h with
 | disk=>exact .disk
 | sub h e hq ih=>exact .sub ih (k.at e (hp _)) hq
noncomputable def pre(qs:List Str)(n:Str):Str:=qs.foldr (fun q n=>q++n) n
theorem pre_snoc(qs:List Str)(q n:Str):pre (qs++[q]) n=pre qs (q++n):=by unfold pre;rw [List.foldr_append];rfl
theorem pre_len(qs:List Str)(h:∀ q∈qs,q.length≤10)(n:Str):(pre qs n).length≤10*qs.length+n.length:=by
 induction qs with
 | nil=>simp [pre]
 | cons q qs ih =>
  have:=ih fun q hq=>h q (.tail _ hq)
  have:=h q (.head _)
  show (q++pre qs n).length≤_
  rw [Str.length_append,List.length_cons];lia
theorem Place.qs_le{σ:Hp}{i:Nat}{a:MA}{qs:List Str}(h:Place σ i a qs):∀ q∈qs,q.length≤10:=by
 induction h with
 | disk=>intro q h;cases h
 | sub h e hq ih=>intro q h;rcases List.mem_append.mp h with z | z;exact ih q z;rw [List.mem_singleton] at z;rw [z];exact hq
noncomputable def MethJ(X:Cx)(c:Bool)(n:Nat)(σ:Hp)(a:MA)(m:String)(args:List MV)(Q:MV→Hp→Prop)(E:Addr→Hp→Prop):Prop :=
 ∃ C f fs,σ a=some (.inst C fs)∧MethOk X.w C m f∧lget m fs=none∧CallJ X c n true (.ref f) (.ref a::args) σ Q E
section
variable{X:Cx}{c:Bool}{σ:Hp}{i j n:Nat}{g:Gs}{js:List MA}{D:Dk}{Q:MV→Hp→Prop}{E:Addr→Hp→Prop}
theorem MethJ.mono{m:String}{a:MA}{args:List MV}{Q':MV→Hp→Prop}{E':Addr→Hp→Prop}(h:MethJ X c n σ a m args Q E)(hQ:∀ v σ,Q v σ→Q' v σ)(hE:∀ c σ,E c σ→E' c σ):MethJ X c n σ a m args Q' E' :=
 c3_4 h fun C f fs h1 h2 h3 h4=>⟨C,f,fs,h1,h2,h3,h4.mono hQ hE⟩
theorem MethJ.le{m:String}{a:MA}{args:List MV}{n':Nat}(h:MethJ X c n σ a m args Q E)(hn:n≤n'):MethJ X c n' σ a m args Q E :=
 c3_4 h fun C f fs h1 h2 h3 h4=>⟨C,f,fs,h1,h2,h3,h4.le hn⟩
theorem MethJ.disk{m:String}{f:Addr}{args:List MV}(h:DAt σ i D g js)(hm:methTab 387 m=some f) (hn:lget m [("left",.int D.left),("spent",.int D.spent),("alive",.bool D.alive),("nodes",.ref (.d i (.nm g.n))),("made",.int D.made),
 ("kept_names",.ref (.d i (.kn g.k))),("present",.ref (.d i (.pr g.p))),("journal",.ref (.d i (.jr g.j)))]=none) (hc:CallJ X c n true (.ref f) (.ref (.d i .disk)::args) σ Q E):MethJ X c n σ (.d i .disk) m args Q E :=
 ⟨387,f,_,h.disk,meth_ok X.w hm,hn,hc⟩
section
variable{m:Nat}{a:MA}{q:Str}
theorem sub_create{nm:Str}(e:σ (.x m)=some (subO a q))(hq:q.length≤100)(hn:nm.length≤200)(h:MethJ X c n σ a "create" [.str (q++nm)] Q E):MethJ X c (n+1) σ (.x m) "create" [.str nm] Q E:=by
 refine c3_4 h fun C f fs h1 h2 h3 h4=>?_
 refine ⟨522,_,_,e,meth_ok X.w rfl,by walk_at "lg",?_⟩
 refine CallJ.fn (fn_SubDisk_create X.w) D_SubDisk_create rfl fun _ _=>?_
 walk_at "c"
 refine EvE.meth ?_ rfl rfl rfl rfl
 walk_at "r"
 refine ⟨_,_,_,_,rfl,h1,h2,h3,?_⟩
 walk_at "r"
 refine bin_cat (by lia) (by lia) ?_
 walk_at "r"
 refine CallJ.mono (h4) (fun v τ z=>?_) (fun _ _ z=>z)
 walk_at "go"
 exact z
theorem sub_create_over{nm:Str}(e:σ (.x m)=some (subO a q))(hq:q.length≤100)(hn:nm.length≤200)(h:MethJ X c n σ a "create_over" [.str (q++nm)] Q E):MethJ X c (n+1) σ (.x m) "create_over" [.str nm] Q E:=by
 refine c3_4 h fun C f fs h1 h2 h3 h4=>?_
 refine ⟨522,_,_,e,meth_ok X.w rfl,by walk_at "lg",?_⟩
 refine CallJ.fn (fn_SubDisk_create_over X.w) D_SubDisk_create_over rfl fun _ _=>?_
 walk_at "c"
 refine EvE.meth ?_ rfl rfl rfl rfl
 walk_at "r"
 refine ⟨_,_,_,_,rfl,h1,h2,h3,?_⟩
 walk_at "r"
 refine bin_cat (by lia) (by lia) ?_
 walk_at "r"
 refine CallJ.mono (h4) (fun v τ z=>?_) (fun _ _ z=>z)
 walk_at "go"
 exact z
theorem sub_append_to{nm:Str}(e:σ (.x m)=some (subO a q))(hq:q.length≤100)(hn:nm.length≤200)(h:MethJ X c n σ a "append_to" [.str (q++nm)] Q E):MethJ X c (n+1) σ (.x m) "append_to" [.str nm] Q E:=by
 refine c3_4 h fun C f fs h1 h2 h3 h4=>?_
 refine ⟨522,_,_,e,meth_ok X.w rfl,by walk_at "lg",?_⟩
 refine CallJ.fn (fn_SubDisk_append_to X.w) D_SubDisk_append_to rfl fun _ _=>?_
 walk_at "c"
 refine EvE.meth ?_ rfl rfl rfl rfl
 walk_at "r"
 refine ⟨_,_,_,_,rfl,h1,h2,h3,?_⟩
 walk_at "r"
 refine bin_cat (by lia) (by lia) ?_
 walk_at "r"
 refine CallJ.mono (h4) (fun v τ z=>?_) (fun _ _ z=>z)
 walk_at "go"
 exact z
theorem sub_read{nm:Str}(e:σ (.x m)=some (subO a q))(hq:q.length≤100)(hn:nm.length≤200)(h:MethJ X c n σ a "read" [.str (q++nm)] Q E):MethJ X c (n+1) σ (.x m) "read" [.str nm] Q E:=by
 refine c3_4 h fun C f fs h1 h2 h3 h4=>?_
 refine ⟨522,_,_,e,meth_ok X.w rfl,by walk_at "lg",?_⟩
 refine CallJ.fn (fn_SubDisk_read X.w) D_SubDisk_read rfl fun _ _=>?_
 walk_at "c"
 refine EvE.meth ?_ rfl rfl rfl rfl
 walk_at "r"
 refine ⟨_,_,_,_,rfl,h1,h2,h3,?_⟩
 walk_at "r"
 refine bin_cat (by lia) (by lia) ?_
 walk_at "r"
 refine CallJ.mono (h4) (fun v τ z=>?_) (fun _ _ z=>z)
 walk_at "go"
 exact z
theorem sub_size{nm:Str}(e:σ (.x m)=some (subO a q))(hq:q.length≤100)(hn:nm.length≤200)(h:MethJ X c n σ a "size" [.str (q++nm)] Q E):MethJ X c (n+1) σ (.x m) "size" [.str nm] Q E:=by
 refine c3_4 h fun C f fs h1 h2 h3 h4=>?_
 refine ⟨522,_,_,e,meth_ok X.w rfl,by walk_at "lg",?_⟩
 refine CallJ.fn (fn_SubDisk_size X.w) D_SubDisk_size rfl fun _ _=>?_
 walk_at "c"
 refine EvE.meth ?_ rfl rfl rfl rfl
 walk_at "r"
 refine ⟨_,_,_,_,rfl,h1,h2,h3,?_⟩
 walk_at "r"
 refine bin_cat (by lia) (by lia) ?_
 walk_at "r"
 refine CallJ.mono (h4) (fun v τ z=>?_) (fun _ _ z=>z)
 walk_at "go"
 exact z
theorem sub_has{nm:Str}(e:σ (.x m)=some (subO a q))(hq:q.length≤100)(hn:nm.length≤200)(h:MethJ X c n σ a "has" [.str (q++nm)] Q E):MethJ X c (n+1) σ (.x m) "has" [.str nm] Q E:=by
 refine c3_4 h fun C f fs h1 h2 h3 h4=>?_
 refine ⟨522,_,_,e,meth_ok X.w rfl,by walk_at "lg",?_⟩
 refine CallJ.fn (fn_SubDisk_has X.w) D_SubDisk_has rfl fun _ _=>?_
 walk_at "c"
 refine EvE.meth ?_ rfl rfl rfl rfl
 walk_at "r"
 refine ⟨_,_,_,_,rfl,h1,h2,h3,?_⟩
 walk_at "r"
 refine bin_cat (by lia) (by lia) ?_
 walk_at "r"
 refine CallJ.mono (h4) (fun v τ z=>?_) (fun _ _ z=>z)
 walk_at "go"
 exact z
theorem sub_remove{nm:Str}(e:σ (.x m)=some (subO a q))(hq:q.length≤100)(hn:nm.length≤200)(h:MethJ X c n σ a "remove" [.str (q++nm)] (fun _ σ'=>Q .none σ') E):MethJ X c (n+1) σ (.x m) "remove" [.str nm] Q E:=by
 refine c3_4 h fun C f fs h1 h2 h3 h4=>?_
 refine ⟨522,_,_,e,meth_ok X.w rfl,by walk_at "lg",?_⟩
 refine CallJ.fn (fn_SubDisk_remove X.w) D_SubDisk_remove rfl fun _ _=>?_
 walk_at "c"
 refine EvE.meth ?_ rfl rfl rfl rfl
 walk_at "r"
 refine ⟨_,_,_,_,rfl,h1,h2,h3,?_⟩
 walk_at "r"
 refine bin_cat (by lia) (by lia) ?_
 walk_at "r"
 refine h4.mono (fun v σ' hq=>?_) fun _ _ z=>z
 walk_at "r"
 exact hq
theorem sub_rename{nm nm':Str}(e:σ (.x m)=some (subO a q))(hq:q.length≤100)(hn:nm.length≤200)(hn':nm'.length≤200)(h:MethJ X c n σ a "rename" [.str (q++nm),.str (q++nm')] (fun _ σ'=>Q .none σ') E):MethJ X c (n+1) σ (.x m) "rename" [.str nm,.str nm'] Q E:=by
 refine c3_4 h fun C f fs h1 h2 h3 h4=>?_
 refine ⟨522,_,_,e,meth_ok X.w rfl,by walk_at "lg",?_⟩
 refine CallJ.fn (fn_SubDisk_rename X.w) D_SubDisk_rename rfl fun _ _=>?_
 walk_at "c"
 refine EvE.meth ?_ rfl rfl rfl rfl
 walk_at "r"
 refine ⟨_,_,_,_,rfl,h1,h2,h3,?_⟩
 walk_at "r"
 refine bin_cat (by lia) (by lia) ?_
 walk_at "r"
 refine bin_cat (by lia) (by lia) ?_
 walk_at "r"
 refine h4.mono (fun v σ' hq=>?_) fun _ _ z=>z
 walk_at "r"
 exact hq
theorem sub_sync_dir(e:σ (.x m)=some (subO a q))(h:MethJ X c n σ a "sync_dir" [] (fun _ σ'=>Q .none σ') E):MethJ X c (n+1) σ (.x m) "sync_dir" [] Q E:=by
 refine c3_4 h fun C f fs h1 h2 h3 h4=>?_
 refine ⟨522,_,_,e,meth_ok X.w rfl,by walk_at "lg",?_⟩
 refine CallJ.fn (fn_SubDisk_sync_dir X.w) D_SubDisk_sync_dir rfl fun _ _=>?_
 walk_at "c"
 refine EvE.meth ?_ rfl rfl rfl rfl
 walk_at "r"
 refine ⟨_,_,_,_,rfl,h1,h2,h3,?_⟩
 walk_at "r"
 refine h4.mono (fun v σ' hq=>?_) fun _ _ z=>z
 walk_at "r"
 exact hq
theorem sub_set_budget{k:Int}(e:σ (.x m)=some (subO a q))(h:MethJ X c n σ a "set_budget" [.int k] (fun _ σ'=>Q .none σ') E):MethJ X c (n+1) σ (.x m) "set_budget" [.int k] Q E:=by
 refine c3_4 h fun C f fs h1 h2 h3 h4=>?_
 refine ⟨522,_,_,e,meth_ok X.w rfl,by walk_at "lg",?_⟩
 refine CallJ.fn (fn_SubDisk_set_budget X.w) D_SubDisk_set_budget rfl fun _ _=>?_
 walk_at "c"
 refine EvE.meth ?_ rfl rfl rfl rfl
 walk_at "r"
 refine ⟨_,_,_,_,rfl,h1,h2,h3,?_⟩
 walk_at "r"
 refine h4.mono (fun v σ' hq=>?_) fun _ _ z=>z
 walk_at "r"
 exact hq
end
theorem place_create{a:MA}{qs:List Str}(h:Place σ i a qs):∀ {nm:Str} {Q:MV→Hp→Prop} {E:Addr→Hp→Prop},nm.length+10*qs.length≤150→qs.length≤3→MethJ X c n σ (.d i .disk) "create" [.str (pre qs nm)] Q E→MethJ X c (n+qs.length) σ a "create" [.str nm] Q E:=by
 induction h with
 | disk=>intro nm Q E _ _ h;exact h
 | sub h e hq ih =>
  intro nm Q E h1 h2 h3
  rw [List.length_append,List.length_singleton] at h2 ⊢
  rw [pre_snoc] at h3
  rw [List.length_append,List.length_singleton] at h1
  exact sub_create e (by lia) (by lia) (ih (by rw [Str.length_append];lia) (by lia) h3)
theorem place_create_over{a:MA}{qs:List Str}(h:Place σ i a qs):∀ {nm:Str} {Q:MV→Hp→Prop} {E:Addr→Hp→Prop},nm.length+10*qs.length≤150→qs.length≤3→MethJ X c n σ (.d i .disk) "create_over" [.str (pre qs nm)] Q E→MethJ X c (n+qs.length) σ a "create_over" [.str nm] Q E:=by
 induction h with
 | disk=>intro nm Q E _ _ h;exact h
 | sub h e hq ih =>
  intro nm Q E h1 h2 h3
  rw [List.length_append,List.length_singleton] at h2 ⊢
  rw [pre_snoc] at h3
  rw [List.length_append,List.length_singleton] at h1
  exact sub_create_over e (by lia) (by lia) (ih (by rw [Str.length_append];lia) (by lia) h3)
theorem place_append_to{a:MA}{qs:List Str}(h:Place σ i a qs):∀ {nm:Str} {Q:MV→Hp→Prop} {E:Addr→Hp→Prop},nm.length+10*qs.length≤150→qs.length≤3→MethJ X c n σ (.d i .disk) "append_to" [.str (pre qs nm)] Q E→MethJ X c (n+qs.length) σ a "append_to" [.str nm] Q E:=by
 induction h with
 | disk=>intro nm Q E _ _ h;exact h
 | sub h e hq ih =>
  intro nm Q E h1 h2 h3
  rw [List.length_append,List.length_singleton] at h2 ⊢
  rw [pre_snoc] at h3
  rw [List.length_append,List.length_singleton] at h1
  exact sub_append_to e (by lia) (by lia) (ih (by rw [Str.length_append];lia) (by lia) h3)
theorem place_read{a:MA}{qs:List Str}(h:Place σ i a qs):∀ {nm:Str} {Q:MV→Hp→Prop} {E:Addr→Hp→Prop},nm.length+10*qs.length≤150→qs.length≤3→MethJ X c n σ (.d i .disk) "read" [.str (pre qs nm)] Q E→MethJ X c (n+qs.length) σ a "read" [.str nm] Q E:=by
 induction h with
 | disk=>intro nm Q E _ _ h;exact h
 | sub h e hq ih =>
  intro nm Q E h1 h2 h3
  rw [List.length_append,List.length_singleton] at h2 ⊢
  rw [pre_snoc] at h3
  rw [List.length_append,List.length_singleton] at h1
  exact sub_read e (by lia) (by lia) (ih (by rw [Str.length_append];lia) (by lia) h3)
theorem place_size{a:MA}{qs:List Str}(h:Place σ i a qs):∀ {nm:Str} {Q:MV→Hp→Prop} {E:Addr→Hp→Prop},nm.length+10*qs.length≤150→qs.length≤3→MethJ X c n σ (.d i .disk) "size" [.str (pre qs nm)] Q E→MethJ X c (n+qs.length) σ a "size" [.str nm] Q E:=by
 induction h with
 | disk=>intro nm Q E _ _ h;exact h
 | sub h e hq ih =>
  intro nm Q E h1 h2 h3
  rw [List.length_append,List.length_singleton] at h2 ⊢
  rw [pre_snoc] at h3
  rw [List.length_append,List.length_singleton] at h1
  exact sub_size e (by lia) (by lia) (ih (by rw [Str.length_append];lia) (by lia) h3)
theorem place_has{a:MA}{qs:List Str}(h:Place σ i a qs):∀ {nm:Str} {Q:MV→Hp→Prop} {E:Addr→Hp→Prop},nm.length+10*qs.length≤150→qs.length≤3→MethJ X c n σ (.d i .disk) "has" [.str (pre qs nm)] Q E→MethJ X c (n+qs.length) σ a "has" [.str nm] Q E:=by
 induction h with
 | disk=>intro nm Q E _ _ h;exact h
 | sub h e hq ih =>
  intro nm Q E h1 h2 h3
  rw [List.length_append,List.length_singleton] at h2 ⊢
  rw [pre_snoc] at h3
  rw [List.length_append,List.length_singleton] at h1
  exact sub_has e (by lia) (by lia) (ih (by rw [Str.length_append];lia) (by lia) h3)
theorem place_remove{a:MA}{qs:List Str}(h:Place σ i a qs):∀ {nm:Str} {Q:MV→Hp→Prop} {E:Addr→Hp→Prop},nm.length+10*qs.length≤150→(∀ v σ',Q v σ'→Q .none σ')→MethJ X c n σ (.d i .disk) "remove" [.str (pre qs nm)] Q E→MethJ X c (n+qs.length) σ a "remove" [.str nm] Q E:=by
 induction h with
 | disk=>intro nm Q E _ _ h;exact h
 | sub h e hq ih =>
  intro nm Q E h1 h2 h3
  rw [List.length_append,List.length_singleton] at h1 ⊢
  rw [pre_snoc] at h3
  exact sub_remove e (by lia) (by lia) ((ih (by rw [Str.length_append];lia) h2 h3).mono h2 fun _ _ z=>z)
theorem place_rename{a:MA}{qs:List Str}(h:Place σ i a qs):∀ {nm nm':Str} {Q:MV→Hp→Prop} {E:Addr→Hp→Prop},nm.length+10*qs.length≤150→nm'.length+10*qs.length≤150→(∀ v σ',Q v σ'→Q .none σ')→MethJ X c n σ (.d i .disk) "rename" [.str (pre qs nm),.str (pre qs nm')] Q E→MethJ X c (n+qs.length) σ a "rename" [.str nm,.str nm'] Q E:=by
 induction h with
 | disk=>intro nm nm' Q E _ _ _ h;exact h
 | sub h e hq ih =>
  intro nm nm' Q E h1 h1' h2 h3
  rw [List.length_append,List.length_singleton] at h1 h1' ⊢
  rw [pre_snoc,pre_snoc] at h3
  exact sub_rename e (by lia) (by lia) (by lia) ((ih (by rw [Str.length_append];lia) (by rw [Str.length_append];lia) h2 h3).mono h2 fun _ _ z=>z)
theorem place_sync_dir{a:MA}{qs:List Str}(h:Place σ i a qs):∀ {Q:MV→Hp→Prop} {E:Addr→Hp→Prop},(∀ v σ',Q v σ'→Q .none σ')→MethJ X c n σ (.d i .disk) "sync_dir" [] Q E→MethJ X c (n+qs.length) σ a "sync_dir" [] Q E:=by
 induction h with
 | disk=>intro Q E _ h;exact h
 | sub h e hq ih =>
  intro Q E h2 h3
  rw [List.length_append,List.length_singleton]
  exact sub_sync_dir e ((ih h2 h3).mono h2 fun _ _ z=>z)
theorem place_set_budget{a:MA}{qs:List Str}(h:Place σ i a qs):∀ {k:Int} {Q:MV→Hp→Prop} {E:Addr→Hp→Prop},(∀ v σ',Q v σ'→Q .none σ')→MethJ X c n σ (.d i .disk) "set_budget" [.int k] Q E→MethJ X c (n+qs.length) σ a "set_budget" [.int k] Q E:=by
 induction h with
 | disk=>intro k Q E _ h;exact h
 | sub h e hq ih =>
  intro k Q E h2 h3
  rw [List.length_append,List.length_singleton]
  exact sub_set_budget e ((ih h2 h3).mono h2 fun _ _ z=>z)
end
noncomputable def dropS(n:Nat)(x:Str):Str:=⟨(x.cps.toList.drop n).toArray⟩
noncomputable def strip1(q:Str)(l:List Str):List Str:=(l.filter fun n=>Txt.startswith n q).map (dropS q.length)
noncomputable def stripR1(q:Str)(l:List (Str×Array UInt8)):List (Str×Array UInt8):=(l.filter fun r=>Txt.startswith r.1 q).map fun r=>(dropS q.length r.1,r.2)
noncomputable def strips(qs:List Str)(l:List Str):List Str:=qs.foldl (fun l q=>strip1 q l) l
noncomputable def stripRs(qs:List Str)(l:List (Str×Array UInt8)):List (Str×Array UInt8):=qs.foldl (fun l q=>stripR1 q l) l
theorem strip1_snoc(q:Str)(l:List Str)(n:Str):strip1 q (l++[n])=strip1 q l++if Txt.startswith n q then [dropS q.length n] else []:=by
 unfold strip1;rw [List.filter_append,List.map_append];congr 1;by_cases h:Txt.startswith n q <;> simp [h]
theorem stripR1_snoc(q:Str)(l:List (Str×Array UInt8))(n:Str×Array UInt8):stripR1 q (l++[n])=stripR1 q l++if Txt.startswith n.1 q then [(dropS q.length n.1,n.2)] else []:=by
 unfold stripR1;rw [List.filter_append,List.map_append];congr 1;by_cases h:Txt.startswith n.1 q <;> simp [h]
theorem strip1_len(q:Str)(l:List Str):(strip1 q l).length≤l.length:=by unfold strip1;rw [List.length_map];exact List.length_filter_le ..
theorem stripR1_len(q:Str)(l:List (Str×Array UInt8)):(stripR1 q l).length≤l.length:=by unfold stripR1;rw [List.length_map];exact List.length_filter_le ..
theorem strip1_small{q:Str}{l:List Str}{k:Nat}(h:∀ n∈l,n.length≤k):∀ n∈strip1 q l,n.length≤k:=fun n hn=>by
 unfold strip1 at hn
 refine c1_2 (List.mem_map.mp hn) ?_;rintro m hm rfl
 have:=h m (List.mem_filter.mp hm).1
 unfold dropS Str.length
 unfold Str.length at this
 simp only [List.size_toArray,List.length_drop]
 exact Nat.le_trans (Nat.sub_le ..) this
theorem stripR1_small{q:Str}{l:List (Str×Array UInt8)}{k:Nat}(h:∀ n∈l,n.1.length≤k):∀ n∈stripR1 q l,n.1.length≤k:=fun n hn=>by
 unfold stripR1 at hn
 refine c1_2 (List.mem_map.mp hn) ?_;rintro m hm rfl
 have:=h m (List.mem_filter.mp hm).1
 unfold dropS Str.length
 unfold Str.length at this
 simp only [List.size_toArray,List.length_drop]
 exact Nat.le_trans (Nat.sub_le ..) this
section
variable{X:Cx}{c:Bool}{σ:Hp}{i j n:Nat}{g:Gs}{js:List MA}{D:Dk}{Q:MV→Hp→Prop}{E:Addr→Hp→Prop}{m:Nat}{a:MA}{q:Str}
theorem sub_names{l:List Str}(hS:Sup σ)(e:σ (.x m)=some (subO a q))(hq:q.length≤10)(hl:l.length≤100)(hsm:∀ n∈l,n.length≤500)
  (h:∀ σ1,Kp nil σ σ1→MethJ X c n σ1 a "names" [] (fun v σ'=>∃ k,v=.ref (.x k)∧σ1 (.x k)=none∧σ' (.x k)=some (.list (l.map .str))∧Kp nil σ1 σ') (fun _ _=>False)) :
  MethJ X c (n+1) σ (.x m) "names" [] (fun v σ'=>∃ k,v=.ref (.x k)∧σ (.x k)=none∧σ' (.x k)=some (.list ((strip1 q l).map .str))∧Kp nil σ σ') (fun _ _=>False):=by
 refine ⟨522,_,_,e,meth_ok X.w rfl,by walk_at "lg",?_⟩
 refine CallJ.fn (fn_SubDisk_names X.w) D_SubDisk_names rfl fun _ _=>?_
 refine ExSs.consK ?_;intro _ _
 refine c1_1 hS.x fun m0 hm0=>?_
 walk_at "r"
 refine EvE.list ?_
 walk_at "r"
 refine ⟨.x m0,hm0,nle rfl,?_⟩
 have K1:Kp nil σ (upd σ (.x m0) (.list [])):=.new (free_x hm0)
 have l1:upd σ (.x m0) (.list []) (.x m0)=some (.list (([]:List Str).map .str)):=upd_self ..
 generalize upd σ (.x m0) (.list [])=σ1 at K1 l1 ⊢
 have e1:=K1.at e (fun z=>z)
 refine c3_4 (h σ1 K1) fun C f fs h1 h2 h3 h4=>?_
 walk_at "r"
 refine ExS.forIn rfl (by walk_at "mem") ?_
 refine EvE.meth ?_ rfl rfl rfl rfl
 walk_at "r"
 refine ⟨_,_,_,_,rfl,h1,h2,h3,?_⟩
 walk_at "r"
 refine h4.mono ?_ nof
 intro v σ2;refine f1_4 ?_;rintro k rfl hfk hk K2
 have e2:=K2.at e1 (fun z=>z)
 have l2:=K2.at l1 (fun z=>z)
 have hkm:¬ (.x k:MA)=.x m0:=by intro z;rw [z,l1] at hfk;exact sno hfk
 refine ⟨.list (.x k),_,rfl,hk,fun t σ' ρ'=>Kp (fun a=>a=.x m0) σ2 σ'∧σ' (.x m0)=some (.list ((strip1 q (l.take t)).map .str))∧lget "self" ρ'=some (.ref (.x m))∧lget "found" ρ'=some (.ref (.x m0)),?_,?_,?_,?_⟩
 ·exact ⟨.refl _ _,l2,by walk_at "lg",by walk_at "lg"⟩
 ·intro t σ' ρ';refine f0_2 fun K _=>?_;exact K.at hk hkm
 ·intro t σ3 ρ' v;refine f0_4 fun K l3 q1 q2=>?_;rintro hv _ _
  rw [List.getElem?_map] at hv
  refine c1_2 (Option.map_eq_some_iff.mp hv) ?_;rintro nm hn rfl
  have hnl:=hsm nm (List.mem_of_getElem? hn)
  have etk:l.take (t+1)=l.take t++[nm]:=by rw [List.take_add_one,hn];rfl
  have hsm0:¬ (.x m:MA)=.x m0:=by intro z;rw [z,l2] at e2;exact mo_no e2 rfl
  have e3:=K.at e2 hsm0
  have hstr:=strip1_snoc q (l.take t) nm
  have hlen:=strip1_len q (l.take t)
  rw [List.length_take] at hlen
  rw [← etk] at hstr
  walk_at "r"
  refine EvE.bmeth rfl ?_
  walk_at "r"
  refine ⟨_,M.startswith,?_⟩
  walk_at "r"
  refine B.startswith ?_
  refine ⟨_,rfl,And.intro (fun hb=>?_) (fun hb=>?_)⟩
  ·rw [if_pos hb] at hstr
   walk_at "r"
   refine EvE.bmeth rfl ?_
   walk_at "r"
   refine ⟨_,M.append l3,?_⟩
   walk_at "r"
   refine EvE.from ?_
   walk_at "r"
   refine B.len_str (by lia) ?_
   refine ⟨q.length,rfl,by lia,?_⟩
   walk_at "r"
   refine B.append l3 (by rw [List.length_map];lia) ?_
   walk_at "r"
   refine ⟨K.then_upd rfl,?_,by walk_at "lg",by walk_at "lg"⟩
   rw [upd_self,hstr,List.map_append];rfl
  ·rw [if_neg (by simp [hb])] at hstr
   walk_at "r"
   refine ⟨K,?_,by walk_at "lg",by walk_at "lg"⟩
   rw [l3,hstr,List.append_nil]
 ·intro σ3 ρ';refine f0_4 fun K l3 q1 q2=>?_
  rw [List.length_map,List.take_length] at l3
  walk_at "r"
  refine ⟨m0,rfl,hm0,l3,Kp.forget_x (m:=m0) (P:=nil) ?_ hm0⟩
  exact (K1.mono fun _ z=>z.elim).trans ((K2.mono fun _ z=>z.elim).trans (K.mono fun a z=>.inr z))
theorem place_names{a:MA}{qs:List Str}{l:List Str}(hS:Sup σ)(h:Place σ i a qs)(hl:l.length≤100)(hsm:∀ n∈l,n.length≤500) :
  (∀ σ1,Kp nil σ σ1→MethJ X c n σ1 (.d i .disk) "names" [] (fun v σ'=>∃ k,v=.ref (.x k)∧σ1 (.x k)=none∧σ' (.x k)=some (.list (l.map .str))∧Kp nil σ1 σ') (fun _ _=>False)) →
  ∀ σ1,Kp nil σ σ1→MethJ X c (n+qs.length) σ1 a "names" [] (fun v σ'=>∃ k,v=.ref (.x k)∧σ1 (.x k)=none∧σ' (.x k)=some (.list ((strips qs l).map .str))∧Kp nil σ1 σ') (fun _ _=>False)∧(strips qs l).length≤100∧∀ n∈strips qs l,n.length≤500:=by
 intro h0
 induction h with
 | disk=>exact fun σ1 K=>⟨h0 σ1 K,hl,hsm⟩
 | sub h e hq ih =>
  intro σ1 K
  refine c0_3 (ih σ1 K) fun _ i2 i3=>?_
  rw [List.length_append,List.length_singleton]
  unfold strips at i2 i3 ih ⊢
  rw [List.foldl_append,List.foldl_cons,List.foldl_nil]
  exact ⟨sub_names (K.sup hS) (K.at e (fun z=>z)) hq i2 i3 (fun σ2 K2=>(ih σ2 (K.trans K2)).1),Nat.le_trans (strip1_len ..) i2,strip1_small i3⟩
theorem sub_row{l:List (Str×Array UInt8)}(hS:Sup σ)(e:σ (.x m)=some (subO a q))(hq:q.length≤10)(hl:l.length≤100)(hsm:∀ n∈l,n.1.length≤500)
  (h:∀ σ1,Kp nil σ σ1→MethJ X c n σ1 a "row" [] (fun v σ'=>∃ k,v=.ref (.x k)∧σ1 (.x k)=none∧RowsX σ' k l∧Kp nil σ1 σ') (fun _ _=>False)) :
  MethJ X c (n+1) σ (.x m) "row" [] (fun v σ'=>∃ k,v=.ref (.x k)∧σ (.x k)=none∧RowsX σ' k (stripR1 q l)∧Kp nil σ σ') (fun _ _=>False):=by
 refine ⟨522,_,_,e,meth_ok X.w rfl,by walk_at "lg",?_⟩
 refine CallJ.fn (fn_SubDisk_row X.w) D_SubDisk_row rfl fun _ _=>?_
 refine ExSs.consK ?_;intro _ _
 refine c1_1 hS.x fun m0 hm0=>?_
 walk_at "r"
 refine EvE.list ?_
 walk_at "r"
 refine ⟨.x m0,hm0,nle rfl,?_⟩
 have K1:Kp nil σ (upd σ (.x m0) (.list [])):=.new (free_x hm0)
 have l1:upd σ (.x m0) (.list []) (.x m0)=some (.list (refsX [])):=upd_self ..
 generalize upd σ (.x m0) (.list [])=σ1 at K1 l1 ⊢
 have e1:=K1.at e (fun z=>z)
 refine c3_4 (h σ1 K1) fun C f fs h1 h2 h3 h4=>?_
 walk_at "r"
 refine ExS.forIn rfl (by walk_at "mem") ?_
 refine EvE.meth ?_ rfl rfl rfl rfl
 walk_at "r"
 refine ⟨_,_,_,_,rfl,h1,h2,h3,?_⟩
 walk_at "r"
 refine h4.mono ?_ nof
 rintro v σ2 ⟨k,rfl,hfk,⟨ks,hk,hP⟩,K2⟩
 have e2:=K2.at e1 (fun z=>z)
 have l2:=K2.at l1 (fun z=>z)
 have hkm:¬ (.x k:MA)=.x m0:=by intro z;rw [z,l1] at hfk;exact sno hfk
 refine ⟨.tup (.x k),_,rfl,hk,fun t σ' ρ'=>Kp (fun a=>a=.x m0) σ2 σ'∧lget "self" ρ'=some (.ref (.x m))∧lget "rows" ρ'=some (.ref (.x m0))∧∃ ks',σ' (.x m0)=some (.list (refsX ks'))∧PairsAt σ' ks' (stripR1 q (l.take t)),?_,?_,?_,?_⟩
 ·exact ⟨.refl _ _,by walk_at "lg",by walk_at "lg",[],l2,trivial⟩
 ·intro t σ' ρ';refine f0_2 fun K _=>?_;exact K.at hk hkm
 ·rintro t σ3 ρ' v ⟨K,q1,q2,ks',l3,hP'⟩ hv _ _
  unfold refsX at hv
  rw [List.getElem?_map] at hv
  refine c1_2 (Option.map_eq_some_iff.mp hv) ?_;rintro kk hn rfl
  refine c1_2 (hP.get hn) fun r hr hrk=>?_
  have hnl:=hsm r (List.mem_of_getElem? hr)
  have etk:l.take (t+1)=l.take t++[r]:=by rw [List.take_add_one,hr];rfl
  have hsm0:¬ (.x m:MA)=.x m0:=by intro z;rw [z,l2] at e2;exact mo_no e2 rfl
  have hkk0:¬ (.x kk:MA)=.x m0:=by intro z;rw [z,l2] at hrk;exact mo_no hrk rfl
  have e3:=K.at e2 hsm0
  have hrk3:=K.at hrk hkk0
  have hstr:=stripR1_snoc q (l.take t) r
  have hlen:=stripR1_len q (l.take t)
  rw [List.length_take] at hlen
  rw [← etk] at hstr
  walk_at "r"
  refine EvE.bmeth rfl ?_
  walk_at "r"
  refine ⟨_,SubR.tup hrk3 (by decide) (by decide) rfl,?_⟩
  refine ⟨_,M.startswith,?_⟩
  walk_at "r"
  refine B.startswith ?_
  refine ⟨_,rfl,And.intro (fun hb=>?_) (fun hb=>?_)⟩
  ·rw [if_pos hb] at hstr
   refine c1_1 ((K.sup (K2.sup (K1.sup hS))).x) fun m3 hm3=>?_
   walk_at "r"
   refine EvE.bmeth rfl ?_
   walk_at "r"
   refine ⟨_,M.append l3,?_⟩
   walk_at "r"
   refine EvE.tuple ?_
   walk_at "r"
   refine EvE.from ?_
   walk_at "r"
   refine ⟨_,SubR.tup hrk3 (by decide) (by decide) rfl,?_⟩
   walk_at "r"
   refine B.len_str (by lia) ?_
   refine ⟨q.length,rfl,by lia,?_⟩
   walk_at "r"
   refine ⟨_,SubR.tup hrk3 (by decide) (by decide) rfl,?_⟩
   walk_at "r"
   refine ⟨.x m3,hm3,nle rfl,?_⟩
   have l3':upd σ3 (.x m3) (.tup [.str (dropS q.length r.1),.bytes r.2]) (.x m0)=some (.list (refsX ks')):=upd_at (ne_fresh l3 hm3) l3
   walk_at "r"
   refine B.append l3' (by unfold refsX;rw [List.length_map,hP'.length];lia) ?_
   walk_at "r"
   refine ⟨(K.then_x hm3).then_upd rfl,by walk_at "lg",by walk_at "lg",ks'++[m3],?_,?_⟩
   ·rw [upd_self];unfold refsX;rw [List.map_append];rfl
   ·rw [hstr]
    refine PairsAt.upd l3' (fun vs z=>by cases z) (PairsAt.snoc ?_ (hP'.keep (P:=nil) (.new (free_x hm3)) fun _ z=>z))
    rw [upd_self]
  ·rw [if_neg (by simp [hb])] at hstr
   walk_at "r"
   refine ⟨K,by walk_at "lg",by walk_at "lg",ks',l3,?_⟩
   rw [hstr,List.append_nil];exact hP'
 ·rintro σ3 ρ' ⟨K,q1,q2,ks',l3,hP'⟩
  have el:(refsX ks).length=l.length:=by unfold refsX;rw [List.length_map,hP.length]
  rw [el,List.take_length] at hP'
  have hlen:=stripR1_len q l
  refine c1_1 ((K.sup (K2.sup (K1.sup hS))).x) fun m3 hm3=>?_
  walk_at "r"
  refine B.tuple_list hm3 l3 (by unfold refsX;rw [List.length_map,hP'.length];lia) ?_
  have KK:=(K1.mono (P':=fun a=>nil a∨a=.x m0) fun _ z=>z.elim).trans ((K2.mono fun _ z=>z.elim).trans ((K.mono fun a z=>.inr z).then_x (o:=.tup (refsX ks')) hm3))
  walk_at "go"
  refine ⟨m3,rfl,?_,⟨ks',upd_self ..,hP'.keep (P:=nil) (.new (free_x hm3)) fun _ z=>z⟩,Kp.forget_x (m:=m0) (P:=nil) KK hm0⟩
  exact K1.none_of (K2.none_of (K.none_of hm3))
theorem place_row{a:MA}{qs:List Str}{l:List (Str×Array UInt8)}(hS:Sup σ)(h:Place σ i a qs)(hl:l.length≤100)(hsm:∀ n∈l,n.1.length≤500) :
  (∀ σ1,Kp nil σ σ1→MethJ X c n σ1 (.d i .disk) "row" [] (fun v σ'=>∃ k,v=.ref (.x k)∧σ1 (.x k)=none∧RowsX σ' k l∧Kp nil σ1 σ') (fun _ _=>False)) →
  ∀ σ1,Kp nil σ σ1→MethJ X c (n+qs.length) σ1 a "row" [] (fun v σ'=>∃ k,v=.ref (.x k)∧σ1 (.x k)=none∧RowsX σ' k (stripRs qs l)∧Kp nil σ1 σ') (fun _ _=>False)∧(stripRs qs l).length≤100∧∀ n∈stripRs qs l,n.1.length≤500:=by
 intro h0
 induction h with
 | disk=>exact fun σ1 K=>⟨h0 σ1 K,hl,hsm⟩
 | sub h e hq ih =>
  intro σ1 K
  refine c0_3 (ih σ1 K) fun _ i2 i3=>?_
  rw [List.length_append,List.length_singleton]
  unfold stripRs at i2 i3 ih ⊢
  rw [List.foldl_append,List.foldl_cons,List.foldl_nil]
  exact ⟨sub_row (K.sup hS) (K.at e (fun z=>z)) hq i2 i3 (fun σ2 K2=>(ih σ2 (K.trans K2)).1),Nat.le_trans (stripR1_len ..) i2,stripR1_small i3⟩
end
noncomputable def MadeP(σ:Hp)(D:Dk)(qs:List Str)(v:MV)(σ':Hp):Prop:=∃ j g js a,v=.ref a∧Place σ' j a qs∧(∀ p,σ (.d j p)=none)∧Kp nil σ σ'∧DAt σ' j D g js
section
variable{X:Cx}{c:Bool}{σ:Hp}{i j n:Nat}{g:Gs}{js:List MA}{D:Dk}{Q:MV→Hp→Prop}{E:Addr→Hp→Prop}{m:Nat}{a:MA}{q:Str}{qs:List Str}
theorem sub_power_cut{v:MV}(hS:Sup σ)(e:σ (.x m)=some (subO a q))(hq:q.length≤10)(h:MethJ X true (n+2) σ a "power_cut" [v] (MadeP σ D qs) (fun _ _=>False)) :
  MethJ X true (n+3) σ (.x m) "power_cut" [v] (MadeP σ D (qs++[q])) (fun _ _=>False):=by
 refine c3_4 h fun C f fs h1 h2 h3 h4=>?_
 refine ⟨522,_,_,e,meth_ok X.w rfl,by walk_at "lg",?_⟩
 refine CallJ.fn (fn_SubDisk_power_cut X.w) D_SubDisk_power_cut rfl fun _ _=>?_
 walk_at "c"
 refine EvE.meth ?_ rfl rfl rfl rfl
 walk_at "r"
 refine ⟨_,_,_,_,rfl,h1,h2,h3,?_⟩
 walk_at "r"
 refine h4.mono ?_ nof
 intro v σ';refine f4_5 ?_;rintro j g js a' rfl hP hf K hD
 have e':=K.at e (fun z=>z)
 refine c1_1 ((K.sup hS).x) fun m' hm'=>?_
 walk_at "r"
 refine ((SubDisk_new hm').le (Nat.le_add_left 2 n)).mono ?_ nof
 intro v σ2 zz;refine e2 zz ?_
 have K2:Kp nil σ' (upd σ' (.x m') (subO a' q)):=.new (free_x hm')
 walk_at "go"
 exact ⟨j,g,js,_,rfl,.sub (hP.keep K2 fun _ z=>z) (upd_self ..) hq,hf,K.trans K2,hD.x hm'⟩
theorem sub_copy(hS:Sup σ)(e:σ (.x m)=some (subO a q))(hq:q.length≤10)(h:MethJ X true (n+2) σ a "copy" [] (MadeP σ D qs) (fun _ _=>False)) :
  MethJ X true (n+3) σ (.x m) "copy" [] (MadeP σ D (qs++[q])) (fun _ _=>False):=by
 refine c3_4 h fun C f fs h1 h2 h3 h4=>?_
 refine ⟨522,_,_,e,meth_ok X.w rfl,by walk_at "lg",?_⟩
 refine CallJ.fn (fn_SubDisk_copy X.w) D_SubDisk_copy rfl fun _ _=>?_
 walk_at "c"
 refine EvE.meth ?_ rfl rfl rfl rfl
 walk_at "r"
 refine ⟨_,_,_,_,rfl,h1,h2,h3,?_⟩
 walk_at "r"
 refine h4.mono ?_ nof
 intro v σ';refine f4_5 ?_;rintro j g js a' rfl hP hf K hD
 have e':=K.at e (fun z=>z)
 refine c1_1 ((K.sup hS).x) fun m' hm'=>?_
 walk_at "r"
 refine ((SubDisk_new hm').le (Nat.le_add_left 2 n)).mono ?_ nof
 intro v σ2 zz;refine e2 zz ?_
 have K2:Kp nil σ' (upd σ' (.x m') (subO a' q)):=.new (free_x hm')
 walk_at "go"
 exact ⟨j,g,js,_,rfl,.sub (hP.keep K2 fun _ z=>z) (upd_self ..) hq,hf,K.trans K2,hD.x hm'⟩
theorem place_power_cut{v:MV}(hS:Sup σ)(h:Place σ i a qs)(h0:MethJ X true (n+2) σ (.d i .disk) "power_cut" [v] (MadeP σ D []) (fun _ _=>False)):MethJ X true (n+qs.length+2) σ a "power_cut" [v] (MadeP σ D qs) (fun _ _=>False):=by
 induction h with
 | disk=>exact h0
 | sub h e hq ih =>
  rw [List.length_append,List.length_singleton,← Nat.add_assoc]
  exact sub_power_cut (n:=n+_) hS e hq ih
theorem place_copy(hS:Sup σ)(h:Place σ i a qs)(h0:MethJ X true (n+2) σ (.d i .disk) "copy" [] (MadeP σ D []) (fun _ _=>False)):MethJ X true (n+qs.length+2) σ a "copy" [] (MadeP σ D qs) (fun _ _=>False):=by
 induction h with
 | disk=>exact h0
 | sub h e hq ih =>
  rw [List.length_append,List.length_singleton,← Nat.add_assoc]
  exact sub_copy (n:=n+_) hS e hq ih
theorem alive_ok{b:Bool}(hD:DAt σ i D g js)(h:Place σ i a qs):∀ (c:Bool) {m:Nat} {q:Str},σ (.x m)=some (subO a q)→CallJ X c (2*qs.length+1) b (.ref 412) [.ref (.x m)] σ (fun v σ'=>v=.bool D.alive∧σ'=σ) (fun _ _=>False):=by
 have hd:=hD.disk
 induction h with
 | disk =>
  intro c m q e
  refine CallJ.fn (fn_SubDisk_alive X.w) D_SubDisk_alive rfl fun _ _=>?_
  walk_at "c"
  exact ⟨rfl,rfl⟩
 | @sub m' a' qs' q' h e' hq ih =>
  intro c m q e
  refine CallJ.le (n:=2*qs'.length+3) (CallJ.fn (n:=2*qs'.length+2) (fn_SubDisk_alive X.w) D_SubDisk_alive rfl fun K hK=>?_) (by rw [List.length_append,List.length_singleton];lia)
  refine ExSs.cons ?_
  walk_at "st"
  refine c1_1 (pc_alive X.w) fun rest hrest=>?_
  refine EvE.prop (n:=2*qs'.length+1) (Nat.le_refl _) ?_ rfl
  walk_at "r"
  exact ⟨_,_,_,_,_,rest,rfl,e',cls_SubDisk X.w,pr_alive X.w,pg_alive X.w,pt_alive X.w,hrest,(ih false e').mono (fun v σ' ⟨h1,h2⟩=>⟨by rw [h1];rfl,hK.rt ⟨h1,h2⟩⟩) fun _ _ z=>z⟩
theorem spent_ok{b:Bool}(hD:DAt σ i D g js)(h:Place σ i a qs):∀ (c:Bool) {m:Nat} {q:Str},σ (.x m)=some (subO a q)→CallJ X c (2*qs.length+1) b (.ref 420) [.ref (.x m)] σ (fun v σ'=>v=.int D.spent∧σ'=σ) (fun _ _=>False):=by
 have hd:=hD.disk
 induction h with
 | disk =>
  intro c m q e
  refine CallJ.fn (fn_SubDisk_spent X.w) D_SubDisk_spent rfl fun _ _=>?_
  walk_at "c"
  exact ⟨rfl,rfl⟩
 | @sub m' a' qs' q' h e' hq ih =>
  intro c m q e
  refine CallJ.le (n:=2*qs'.length+3) (CallJ.fn (n:=2*qs'.length+2) (fn_SubDisk_spent X.w) D_SubDisk_spent rfl fun K hK=>?_) (by rw [List.length_append,List.length_singleton];lia)
  refine ExSs.cons ?_
  walk_at "st"
  refine c1_1 (pc_spent X.w) fun rest hrest=>?_
  refine EvE.prop (n:=2*qs'.length+1) (Nat.le_refl _) ?_ rfl
  walk_at "r"
  exact ⟨_,_,_,_,_,rest,rfl,e',cls_SubDisk X.w,pr_spent X.w,pg_spent X.w,pt_spent X.w,hrest,(ih false e').mono (fun v σ' ⟨h1,h2⟩=>⟨by rw [h1];rfl,hK.rt ⟨h1,h2⟩⟩) fun _ _ z=>z⟩
theorem EvE.alive{G:Gm}{ρ:Loc}{Q:MV→Hp→Loc→Prop}{E:Addr→Hp→Loc→Prop}{e:Expr}{pos:Pos}(hn:6≤G.n)(h:EvE X G e σ ρ (fun ov σ₁ ρ₁=>∃ m i a qs q D g js,ov=.ref (.x m)∧σ₁ (.x m)=some (subO a q)∧Place σ₁ i a qs∧DAt σ₁ i D g js∧qs.length≤2∧Q (.bool D.alive) σ₁ ρ₁) E)
  (hs:noSuper e):EvE X G (.Attribute e (Str.ofString "alive") pos) σ ρ Q E:=by
 refine c1_1 (pc_alive X.w) fun rest hrest=>?_
 refine EvE.prop (n:=5) (by lia) (h.mono ?_) hs
 rintro v σ' ρ' ⟨m,i,a,qs,q,D,g,js,rfl,h1,h2,h3,h4,h5⟩
 exact ⟨_,_,_,_,_,rest,rfl,h1,cls_SubDisk X.w,pr_alive X.w,pg_alive X.w,pt_alive X.w,hrest,((alive_ok h3 h2 false h1).le (by lia)).mono (fun v σ' ⟨e1,e2⟩=>⟨by rw [e1];rfl,by rw [e1,e2];exact h5⟩) fun _ _ z=>z⟩
theorem EvE.spent{G:Gm}{ρ:Loc}{Q:MV→Hp→Loc→Prop}{E:Addr→Hp→Loc→Prop}{e:Expr}{pos:Pos}(hn:6≤G.n)(h:EvE X G e σ ρ (fun ov σ₁ ρ₁=>∃ m i a qs q D g js,ov=.ref (.x m)∧σ₁ (.x m)=some (subO a q)∧Place σ₁ i a qs∧DAt σ₁ i D g js∧qs.length≤2∧Q (.int D.spent) σ₁ ρ₁) E)
  (hs:noSuper e):EvE X G (.Attribute e (Str.ofString "spent") pos) σ ρ Q E:=by
 refine c1_1 (pc_spent X.w) fun rest hrest=>?_
 refine EvE.prop (n:=5) (by lia) (h.mono ?_) hs
 rintro v σ' ρ' ⟨m,i,a,qs,q,D,g,js,rfl,h1,h2,h3,h4,h5⟩
 exact ⟨_,_,_,_,_,rest,rfl,h1,cls_SubDisk X.w,pr_spent X.w,pg_spent X.w,pt_spent X.w,hrest,((spent_ok h3 h2 false h1).le (by lia)).mono (fun v σ' ⟨e1,e2⟩=>⟨by rw [e1];rfl,by rw [e1,e2];exact h5⟩) fun _ _ z=>z⟩
end
section
variable{X:Cx}{G:Gm}{σ:Hp}{ρ:Loc}{Q:MV→Hp→Loc→Prop}{E:Addr→Hp→Loc→Prop}{R:MF→Hp→Loc→Prop}
@[reducible] def kSame(vals:List MV)(σ:Hp)(ρ:Loc)(vs:List MV)(σ':Hp)(ρ':Loc):Prop:=vs=vals∧σ'=σ∧ρ'=ρ
inductive MethJP(X:Cx)(G:Gm)(m:String)(pos:Pos)(args:List Expr)(Q:MV→Hp→Loc→Prop)(E:Addr→Hp→Loc→Prop)(ov:MV)(σ:Hp)(ρ:Loc):Prop
 | mk (a:MA) (vals:List MV) (e:ov=.ref a) (j:MethJ X G.c G.n σ a m vals (At ρ Q) (At ρ E)) (k:EvArgs X G pos args σ ρ (kSame vals σ ρ) E)
theorem EvE.methJ{o:Expr}{m:String}{apos pos:Pos}{args:List Expr}(hG:G.b=true)
  (h:EvE X G o σ ρ (MethJP X G m pos args Q E) E)
  (hns:noSuper o) (hp:allPlain args=true) (hl:(apos.endLine==pos.line)=true) (hn:decide (args.length<30)=true):EvE X G (.Call (.Attribute o (Str.ofString m) apos) args [] pos) σ ρ Q E:=by
 refine EvE.meth (h.mono ?_) hns hp hl hn
 rintro v σ₁ ρ₁ ⟨a,vals,rfl,⟨C,f,fs,h1,h2,h3,h4⟩,h5⟩
 refine ⟨a,C,f,fs,rfl,h1,h2,h3,h5.mono ?_⟩
 intro vs σ₂ ρ₂;refine f0_3 ?_;rintro rfl rfl rfl
 show CallJ X G.c G.n G.b _ _ _ _ _
 rw [hG]
 exact h4
theorem HandJ.step{c:Addr}{np pos:Pos}{n:String}{d:Addr}{b₀:Stmt}{suite:List Stmt}{rest:List ExceptHandler}(hn:G.S.glbs.contains n=true)(hg:glTab n=some d)(hd:excOk d=true)
  (h1:c=d→ExSs X ⟨G.n,false,G.S,false⟩ (b₀::suite) σ ρ R fun _ _ _=>False) (h2:c≠d→HandJ X G c σ ρ R rest):HandJ X G c σ ρ R (.ExceptHandler (some (.Name (Str.ofString n) np)) none (b₀::suite) pos::rest):=⟨hn,(gl_ok X.w hg).1,hd,h1,h2⟩
end
noncomputable def excCode(c:Addr):Int:=if c=73 then 1 else if c=85 then 2 else 3
noncomputable def excC(c:Addr):Prop:=c=73∨c=85∨c=109
noncomputable def hands:List Stmt→List ExceptHandler
 | .Try _ hs _ _ _::_=>hs
 | _::r=>hands r
 | []=>[]
noncomputable def DoesP(σ:Hp)(P:MA→Prop)(Qok:MV→Hp→Prop)(Qex:Addr→Hp→Prop)(v:MV)(σ':Hp):Prop :=
 ∃ t m code,v=.ref (.x t)∧σ' (.x t)=some (.tup [.int code,m])∧Kp P σ σ'∧((code=0∧Qok m σ')∨(∃ c,code=excCode c∧m=.none∧Qex c σ'))
section
variable{X:Cx}{c:Bool}{σ:Hp}{a f:MA}{pv fv:MV}{one two:Str}{oct:Array UInt8}{P:MA→Prop}{Qok:MV→Hp→Prop}{Qex:Addr→Hp→Prop}
theorem law_hands{n:Nat}{ρ:Loc}{K:MF→Hp→Loc→Prop}{t:Nat}{e:Addr}{hs:List ExceptHandler}(eh:hs=hands (fdBody (atTop 22)))(hc:excC e)(ht:σ (.x t)=none)(hm:lget "made" ρ=some .none)
  (h:Go K (.ret (.ref (.x t))) (upd σ (.x t) (.tup [.int (excCode e),.none])) ρ):excOk e=true∧HandJ X ⟨n,true,S_law_does,true⟩ e σ ρ (Go K) hs:=by
 subst eh
 rcases hc with rfl | rfl | rfl
 ·refine ⟨rfl,HandJ.step (by walk_at "mem") rfl rfl (fun _=>?_) (fun e=>absurd rfl e)⟩
  refine ExSs.consK ?_;intro _ _
  refine ExS.ret ?_
  refine EvE.tuple ?_
  walk_at "r"
  refine ⟨.x t,ht,nle rfl,?_⟩
  walk_at "go"
  exact h
 ·refine ⟨rfl,HandJ.step (by walk_at "mem") rfl rfl (fun e=>absurd e (by decide)) (fun _=>HandJ.step (by walk_at "mem") rfl rfl (fun _=>?_) (fun e=>absurd rfl e))⟩
  refine ExSs.consK ?_;intro _ _
  refine ExS.ret ?_
  refine EvE.tuple ?_
  walk_at "r"
  refine ⟨.x t,ht,nle rfl,?_⟩
  walk_at "go"
  exact h
 ·refine ⟨rfl,HandJ.step (by walk_at "mem") rfl rfl (fun e=>absurd e (by decide)) (fun _=>HandJ.step (by walk_at "mem") rfl rfl (fun e=>absurd e (by decide)) (fun _=>HandJ.step (by walk_at "mem") rfl rfl (fun _=>?_) (fun e=>absurd rfl e)))⟩
  refine ExSs.consK ?_;intro _ _
  refine ExS.ret ?_
  refine EvE.tuple ?_
  walk_at "r"
  refine ⟨.x t,ht,nle rfl,?_⟩
  walk_at "go"
  exact h
theorem does_0(hS:Sup σ)(hok:∀ m σ t o,Qok m σ→σ (.x t)=none→Qok m (upd σ (.x t) o))(hex:∀ c σ t o,Qex c σ→σ (.x t)=none→Qex c (upd σ (.x t) o))
  (h:MethJ X true 7 σ a "create" [.str one] (fun v σ'=>Kp P σ σ'∧Qok v σ') (fun c σ'=>excC c∧Kp P σ σ'∧Qex c σ')):CallJ X true 8 true (.ref 554) [.ref a,fv,.int 0,.str one,.str two,.bytes oct] σ (DoesP σ P Qok Qex) (fun _ _=>False):=by
 refine CallJ.fn (fn_law_does X.w) D_law_does rfl fun _ _=>?_
 walk_at "c"
 refine ExS.try rfl ?_
 walk_at "r"
 walk_at "y"
 walk_at "r"
 refine EvE.methJ rfl ?_ rfl rfl rfl rfl
 walk_at "r"
 refine ⟨_,_,rfl,h.mono ?_ ?_,?_⟩
 ·intro v σ';refine f0_2 fun K hq=>?_
  refine c1_1 ((K.sup hS).x) fun t ht=>?_
  walk_at "r"
  refine EvE.tuple ?_
  walk_at "r"
  refine ⟨.x t,ht,nle rfl,?_⟩
  walk_at "go"
  exact ⟨t,_,0,rfl,upd_self ..,K.then_x ht,.inl ⟨rfl,hok _ _ _ _ hq ht⟩⟩
 ·intro c σ';refine f0_3 fun hc K hq=>?_
  refine c1_1 ((K.sup hS).x) fun t ht=>?_
  refine law_hands rfl hc ht (by walk_at "lg") ?_
  walk_at "go"
  exact ⟨t,_,_,rfl,upd_self ..,K.then_x ht,.inr ⟨c,rfl,rfl,hex _ _ _ _ hq ht⟩⟩
 ·walk_at "r"
  exact ⟨rfl,rfl,rfl⟩
theorem does_1(hS:Sup σ)(hok:∀ m σ t o,Qok m σ→σ (.x t)=none→Qok m (upd σ (.x t) o))(hex:∀ c σ t o,Qex c σ→σ (.x t)=none→Qex c (upd σ (.x t) o))
  (h:MethJ X true 7 σ a "create_over" [.str one] (fun v σ'=>Kp P σ σ'∧Qok v σ') (fun c σ'=>excC c∧Kp P σ σ'∧Qex c σ')):CallJ X true 8 true (.ref 554) [.ref a,fv,.int 1,.str one,.str two,.bytes oct] σ (DoesP σ P Qok Qex) (fun _ _=>False):=by
 refine CallJ.fn (fn_law_does X.w) D_law_does rfl fun _ _=>?_
 walk_at "c"
 refine ExS.try rfl ?_
 walk_at "r"
 walk_at "n"
 walk_at "r"
 walk_at "y"
 walk_at "r"
 refine EvE.methJ rfl ?_ rfl rfl rfl rfl
 walk_at "r"
 refine ⟨_,_,rfl,h.mono ?_ ?_,?_⟩
 ·intro v σ';refine f0_2 fun K hq=>?_
  refine c1_1 ((K.sup hS).x) fun t ht=>?_
  walk_at "r"
  refine EvE.tuple ?_
  walk_at "r"
  refine ⟨.x t,ht,nle rfl,?_⟩
  walk_at "go"
  exact ⟨t,_,0,rfl,upd_self ..,K.then_x ht,.inl ⟨rfl,hok _ _ _ _ hq ht⟩⟩
 ·intro c σ';refine f0_3 fun hc K hq=>?_
  refine c1_1 ((K.sup hS).x) fun t ht=>?_
  refine law_hands rfl hc ht (by walk_at "lg") ?_
  walk_at "go"
  exact ⟨t,_,_,rfl,upd_self ..,K.then_x ht,.inr ⟨c,rfl,rfl,hex _ _ _ _ hq ht⟩⟩
 ·walk_at "r"
  exact ⟨rfl,rfl,rfl⟩
theorem does_2(hS:Sup σ)(hok:∀ m σ t o,Qok m σ→σ (.x t)=none→Qok m (upd σ (.x t) o))(hex:∀ c σ t o,Qex c σ→σ (.x t)=none→Qex c (upd σ (.x t) o))
  (h:MethJ X true 7 σ f "append" [.bytes oct] (fun v σ'=>Kp P σ σ'∧Qok .none σ') (fun c σ'=>excC c∧Kp P σ σ'∧Qex c σ')):CallJ X true 8 true (.ref 554) [pv,.ref f,.int 2,.str one,.str two,.bytes oct] σ (DoesP σ P Qok Qex) (fun _ _=>False):=by
 refine CallJ.fn (fn_law_does X.w) D_law_does rfl fun _ _=>?_
 walk_at "c"
 refine ExS.try rfl ?_
 walk_at "r"
 walk_at "n"
 walk_at "r"
 walk_at "n"
 walk_at "r"
 walk_at "y"
 walk_at "r"
 refine EvE.methJ rfl ?_ rfl rfl rfl rfl
 walk_at "r"
 refine ⟨_,_,rfl,h.mono ?_ ?_,?_⟩
 ·intro v σ';refine f0_2 fun K hq=>?_
  refine c1_1 ((K.sup hS).x) fun t ht=>?_
  walk_at "r"
  refine EvE.tuple ?_
  walk_at "r"
  refine ⟨.x t,ht,nle rfl,?_⟩
  walk_at "go"
  exact ⟨t,_,0,rfl,upd_self ..,K.then_x ht,.inl ⟨rfl,hok _ _ _ _ hq ht⟩⟩
 ·intro c σ';refine f0_3 fun hc K hq=>?_
  refine c1_1 ((K.sup hS).x) fun t ht=>?_
  refine law_hands rfl hc ht (by walk_at "lg") ?_
  walk_at "go"
  exact ⟨t,_,_,rfl,upd_self ..,K.then_x ht,.inr ⟨c,rfl,rfl,hex _ _ _ _ hq ht⟩⟩
 ·walk_at "r"
  exact ⟨rfl,rfl,rfl⟩
theorem does_3(hS:Sup σ)(hok:∀ m σ t o,Qok m σ→σ (.x t)=none→Qok m (upd σ (.x t) o))(hex:∀ c σ t o,Qex c σ→σ (.x t)=none→Qex c (upd σ (.x t) o))
  (h:MethJ X true 7 σ f "sync" [] (fun v σ'=>Kp P σ σ'∧Qok .none σ') (fun c σ'=>excC c∧Kp P σ σ'∧Qex c σ')):CallJ X true 8 true (.ref 554) [pv,.ref f,.int 3,.str one,.str two,.bytes oct] σ (DoesP σ P Qok Qex) (fun _ _=>False):=by
 refine CallJ.fn (fn_law_does X.w) D_law_does rfl fun _ _=>?_
 walk_at "c"
 refine ExS.try rfl ?_
 walk_at "r"
 walk_at "n"
 walk_at "r"
 walk_at "n"
 walk_at "r"
 walk_at "n"
 walk_at "r"
 walk_at "y"
 walk_at "r"
 refine EvE.methJ rfl ?_ rfl rfl rfl rfl
 walk_at "r"
 refine ⟨_,_,rfl,h.mono ?_ ?_,?_⟩
 ·intro v σ';refine f0_2 fun K hq=>?_
  refine c1_1 ((K.sup hS).x) fun t ht=>?_
  walk_at "r"
  refine EvE.tuple ?_
  walk_at "r"
  refine ⟨.x t,ht,nle rfl,?_⟩
  walk_at "go"
  exact ⟨t,_,0,rfl,upd_self ..,K.then_x ht,.inl ⟨rfl,hok _ _ _ _ hq ht⟩⟩
 ·intro c σ';refine f0_3 fun hc K hq=>?_
  refine c1_1 ((K.sup hS).x) fun t ht=>?_
  refine law_hands rfl hc ht (by walk_at "lg") ?_
  walk_at "go"
  exact ⟨t,_,_,rfl,upd_self ..,K.then_x ht,.inr ⟨c,rfl,rfl,hex _ _ _ _ hq ht⟩⟩
 ·walk_at "r"
  exact ⟨rfl,rfl,rfl⟩
theorem does_4(hS:Sup σ)(hok:∀ m σ t o,Qok m σ→σ (.x t)=none→Qok m (upd σ (.x t) o))(hex:∀ c σ t o,Qex c σ→σ (.x t)=none→Qex c (upd σ (.x t) o))
  (h:MethJ X true 7 σ a "rename" [.str one,.str two] (fun v σ'=>Kp P σ σ'∧Qok .none σ') (fun c σ'=>excC c∧Kp P σ σ'∧Qex c σ')):CallJ X true 8 true (.ref 554) [.ref a,fv,.int 4,.str one,.str two,.bytes oct] σ (DoesP σ P Qok Qex) (fun _ _=>False):=by
 refine CallJ.fn (fn_law_does X.w) D_law_does rfl fun _ _=>?_
 walk_at "c"
 refine ExS.try rfl ?_
 walk_at "r"
 walk_at "n"
 walk_at "r"
 walk_at "n"
 walk_at "r"
 walk_at "n"
 walk_at "r"
 walk_at "n"
 walk_at "r"
 walk_at "y"
 walk_at "r"
 refine EvE.methJ rfl ?_ rfl rfl rfl rfl
 walk_at "r"
 refine ⟨_,_,rfl,h.mono ?_ ?_,?_⟩
 ·intro v σ';refine f0_2 fun K hq=>?_
  refine c1_1 ((K.sup hS).x) fun t ht=>?_
  walk_at "r"
  refine EvE.tuple ?_
  walk_at "r"
  refine ⟨.x t,ht,nle rfl,?_⟩
  walk_at "go"
  exact ⟨t,_,0,rfl,upd_self ..,K.then_x ht,.inl ⟨rfl,hok _ _ _ _ hq ht⟩⟩
 ·intro c σ';refine f0_3 fun hc K hq=>?_
  refine c1_1 ((K.sup hS).x) fun t ht=>?_
  refine law_hands rfl hc ht (by walk_at "lg") ?_
  walk_at "go"
  exact ⟨t,_,_,rfl,upd_self ..,K.then_x ht,.inr ⟨c,rfl,rfl,hex _ _ _ _ hq ht⟩⟩
 ·walk_at "r"
  exact ⟨rfl,rfl,rfl⟩
theorem does_5(hS:Sup σ)(hok:∀ m σ t o,Qok m σ→σ (.x t)=none→Qok m (upd σ (.x t) o))(hex:∀ c σ t o,Qex c σ→σ (.x t)=none→Qex c (upd σ (.x t) o))
  (h:MethJ X true 7 σ a "remove" [.str one] (fun v σ'=>Kp P σ σ'∧Qok .none σ') (fun c σ'=>excC c∧Kp P σ σ'∧Qex c σ')):CallJ X true 8 true (.ref 554) [.ref a,fv,.int 5,.str one,.str two,.bytes oct] σ (DoesP σ P Qok Qex) (fun _ _=>False):=by
 refine CallJ.fn (fn_law_does X.w) D_law_does rfl fun _ _=>?_
 walk_at "c"
 refine ExS.try rfl ?_
 walk_at "r"
 walk_at "n"
 walk_at "r"
 walk_at "n"
 walk_at "r"
 walk_at "n"
 walk_at "r"
 walk_at "n"
 walk_at "r"
 walk_at "n"
 walk_at "r"
 walk_at "y"
 walk_at "r"
 refine EvE.methJ rfl ?_ rfl rfl rfl rfl
 walk_at "r"
 refine ⟨_,_,rfl,h.mono ?_ ?_,?_⟩
 ·intro v σ';refine f0_2 fun K hq=>?_
  refine c1_1 ((K.sup hS).x) fun t ht=>?_
  walk_at "r"
  refine EvE.tuple ?_
  walk_at "r"
  refine ⟨.x t,ht,nle rfl,?_⟩
  walk_at "go"
  exact ⟨t,_,0,rfl,upd_self ..,K.then_x ht,.inl ⟨rfl,hok _ _ _ _ hq ht⟩⟩
 ·intro c σ';refine f0_3 fun hc K hq=>?_
  refine c1_1 ((K.sup hS).x) fun t ht=>?_
  refine law_hands rfl hc ht (by walk_at "lg") ?_
  walk_at "go"
  exact ⟨t,_,_,rfl,upd_self ..,K.then_x ht,.inr ⟨c,rfl,rfl,hex _ _ _ _ hq ht⟩⟩
 ·walk_at "r"
  exact ⟨rfl,rfl,rfl⟩
theorem does_6(hS:Sup σ)(hok:∀ m σ t o,Qok m σ→σ (.x t)=none→Qok m (upd σ (.x t) o))(hex:∀ c σ t o,Qex c σ→σ (.x t)=none→Qex c (upd σ (.x t) o))
  (h:MethJ X true 7 σ a "append_to" [.str one] (fun v σ'=>Kp P σ σ'∧Qok v σ') (fun c σ'=>excC c∧Kp P σ σ'∧Qex c σ')):CallJ X true 8 true (.ref 554) [.ref a,fv,.int 6,.str one,.str two,.bytes oct] σ (DoesP σ P Qok Qex) (fun _ _=>False):=by
 refine CallJ.fn (fn_law_does X.w) D_law_does rfl fun _ _=>?_
 walk_at "c"
 refine ExS.try rfl ?_
 walk_at "r"
 walk_at "n"
 walk_at "r"
 walk_at "n"
 walk_at "r"
 walk_at "n"
 walk_at "r"
 walk_at "n"
 walk_at "r"
 walk_at "n"
 walk_at "r"
 walk_at "n"
 walk_at "r"
 walk_at "y"
 walk_at "r"
 refine EvE.methJ rfl ?_ rfl rfl rfl rfl
 walk_at "r"
 refine ⟨_,_,rfl,h.mono ?_ ?_,?_⟩
 ·intro v σ';refine f0_2 fun K hq=>?_
  refine c1_1 ((K.sup hS).x) fun t ht=>?_
  walk_at "r"
  refine EvE.tuple ?_
  walk_at "r"
  refine ⟨.x t,ht,nle rfl,?_⟩
  walk_at "go"
  exact ⟨t,_,0,rfl,upd_self ..,K.then_x ht,.inl ⟨rfl,hok _ _ _ _ hq ht⟩⟩
 ·intro c σ';refine f0_3 fun hc K hq=>?_
  refine c1_1 ((K.sup hS).x) fun t ht=>?_
  refine law_hands rfl hc ht (by walk_at "lg") ?_
  walk_at "go"
  exact ⟨t,_,_,rfl,upd_self ..,K.then_x ht,.inr ⟨c,rfl,rfl,hex _ _ _ _ hq ht⟩⟩
 ·walk_at "r"
  exact ⟨rfl,rfl,rfl⟩
theorem does_7(hS:Sup σ)(hok:∀ m σ t o,Qok m σ→σ (.x t)=none→Qok m (upd σ (.x t) o))(hex:∀ c σ t o,Qex c σ→σ (.x t)=none→Qex c (upd σ (.x t) o))
  (h:MethJ X true 7 σ f "close" [] (fun v σ'=>Kp P σ σ'∧Qok .none σ') (fun c σ'=>excC c∧Kp P σ σ'∧Qex c σ')):CallJ X true 8 true (.ref 554) [pv,.ref f,.int 7,.str one,.str two,.bytes oct] σ (DoesP σ P Qok Qex) (fun _ _=>False):=by
 refine CallJ.fn (fn_law_does X.w) D_law_does rfl fun _ _=>?_
 walk_at "c"
 refine ExS.try rfl ?_
 walk_at "r"
 walk_at "n"
 walk_at "r"
 walk_at "n"
 walk_at "r"
 walk_at "n"
 walk_at "r"
 walk_at "n"
 walk_at "r"
 walk_at "n"
 walk_at "r"
 walk_at "n"
 walk_at "r"
 walk_at "n"
 walk_at "r"
 walk_at "y"
 walk_at "r"
 refine EvE.methJ rfl ?_ rfl rfl rfl rfl
 walk_at "r"
 refine ⟨_,_,rfl,h.mono ?_ ?_,?_⟩
 ·intro v σ';refine f0_2 fun K hq=>?_
  refine c1_1 ((K.sup hS).x) fun t ht=>?_
  walk_at "r"
  refine EvE.tuple ?_
  walk_at "r"
  refine ⟨.x t,ht,nle rfl,?_⟩
  walk_at "go"
  exact ⟨t,_,0,rfl,upd_self ..,K.then_x ht,.inl ⟨rfl,hok _ _ _ _ hq ht⟩⟩
 ·intro c σ';refine f0_3 fun hc K hq=>?_
  refine c1_1 ((K.sup hS).x) fun t ht=>?_
  refine law_hands rfl hc ht (by walk_at "lg") ?_
  walk_at "go"
  exact ⟨t,_,_,rfl,upd_self ..,K.then_x ht,.inr ⟨c,rfl,rfl,hex _ _ _ _ hq ht⟩⟩
 ·walk_at "r"
  exact ⟨rfl,rfl,rfl⟩
theorem does_8(hS:Sup σ)(hok:∀ m σ t o,Qok m σ→σ (.x t)=none→Qok m (upd σ (.x t) o))(hex:∀ c σ t o,Qex c σ→σ (.x t)=none→Qex c (upd σ (.x t) o))
  (h:MethJ X true 7 σ a "sync_dir" [] (fun v σ'=>Kp P σ σ'∧Qok .none σ') (fun c σ'=>excC c∧Kp P σ σ'∧Qex c σ')):CallJ X true 8 true (.ref 554) [.ref a,fv,.int 8,.str one,.str two,.bytes oct] σ (DoesP σ P Qok Qex) (fun _ _=>False):=by
 refine CallJ.fn (fn_law_does X.w) D_law_does rfl fun _ _=>?_
 walk_at "c"
 refine ExS.try rfl ?_
 walk_at "r"
 walk_at "n"
 walk_at "r"
 walk_at "n"
 walk_at "r"
 walk_at "n"
 walk_at "r"
 walk_at "n"
 walk_at "r"
 walk_at "n"
 walk_at "r"
 walk_at "n"
 walk_at "r"
 walk_at "n"
 walk_at "r"
 walk_at "n"
 walk_at "r"
 refine EvE.methJ rfl ?_ rfl rfl rfl rfl
 walk_at "r"
 refine ⟨_,_,rfl,h.mono ?_ ?_,?_⟩
 ·intro v σ';refine f0_2 fun K hq=>?_
  refine c1_1 ((K.sup hS).x) fun t ht=>?_
  walk_at "r"
  refine EvE.tuple ?_
  walk_at "r"
  refine ⟨.x t,ht,nle rfl,?_⟩
  walk_at "go"
  exact ⟨t,_,0,rfl,upd_self ..,K.then_x ht,.inl ⟨rfl,hok _ _ _ _ hq ht⟩⟩
 ·intro c σ';refine f0_3 fun hc K hq=>?_
  refine c1_1 ((K.sup hS).x) fun t ht=>?_
  refine law_hands rfl hc ht (by walk_at "lg") ?_
  walk_at "go"
  exact ⟨t,_,_,rfl,upd_self ..,K.then_x ht,.inr ⟨c,rfl,rfl,hex _ _ _ _ hq ht⟩⟩
 ·walk_at "r"
  exact ⟨rfl,rfl,rfl⟩
end
noncomputable def draw(ns:List Int)(i:Nat):Int:=ns.getD (i % ns.length) 0+31*((i / ns.length:Nat):Int)
noncomputable def sX:Str:=Str.ofString "x"
noncomputable def sY:Str:=Str.ofString "y"
theorem MethJ.call{X:Cx}{c:Bool}{n:Nat}{σ:Hp}{a:MA}{m:String}{args:List MV}{Q:MV→Hp→Prop}{E:Addr→Hp→Prop}{C f:Addr}{fs:List (String×MV)}(h:MethJ X c n σ a m args Q E)(e:σ a=some (.inst C fs))(hm:methTab C m=some f) :
  CallJ X c n true (.ref f) (.ref a::args) σ Q E:=by
 refine c3_4 h fun C' f' fs' h1 h2 h3 h4=>?_
 rw [e] at h1;cases h1
 have:=h2.find
 rw [(meth_ok X.w hm).find] at this
 cases this
 exact h4
section
variable{X:Cx}{c:Bool}{σ:Hp}{i j n:Nat}{g:Gs}{js:List MA}{D:Dk}{Q:MV→Hp→Prop}{E:Addr→Hp→Prop}{m:Nat}{a:MA}{q:Str}{qs:List Str}
theorem law_names_ok{m:MA}(hm:σ m=none):CallJ X c 1 true (.ref 533) [] σ (fun v σ'=>v=.ref m∧σ'=upd σ m (.list [.str sX,.str sY])) (fun _ _=>False):=by
 refine CallJ.fn (fn_law_names X.w) D_law_names rfl fun _ _=>?_
 refine ExSs.consK ?_;intro _ _
 refine ExS.ret ?_
 refine EvE.list ?_
 walk_at "r"
 refine NewP.mk m hm ?_ ?_
 ·exact nle rfl
 walk_at "go"
 exact ⟨rfl,rfl⟩
noncomputable def kindsL:List Int:=[0,1,1,2,2,3,4,5,6,7,8]
theorem law_kinds_ok{m:MA}(hm:σ m=none):CallJ X c 1 true (.ref 540) [] σ (fun v σ'=>v=.ref m∧σ'=upd σ m (.list (kindsL.map .int))) (fun _ _=>False):=by
 refine CallJ.fn (fn_law_kinds X.w) D_law_kinds rfl fun _ _=>?_
 refine ExSs.consK ?_;intro _ _
 refine ExS.ret ?_
 refine EvE.list ?_
 walk_at "r"
 refine NewP.mk m hm ?_ ?_
 ·exact nle rfl
 walk_at "go"
 exact ⟨rfl,rfl⟩
theorem law_draw_ok{a:MA}{ns:List Int}{k:Nat}(h:σ a=some (.list (ns.map .int)))(h1:1≤ns.length)(h2:ns.length≤100)(hk:k≤1000):CallJ X c 1 true (.ref 547) [.ref a,.int k] σ (fun v σ'=>v=.int (draw ns k)∧σ'=σ) (fun _ _=>False):=by
 refine CallJ.fn (fn_law_draw X.w) D_law_draw rfl fun _ _=>?_
 walk_at "c"
 refine B.len_list h (by rw [List.length_map];lia) ?_
 rw [List.length_map]
 refine bin_mod (by lia) ?_
 have emod:((k:Int).fmod (ns.length:Int))=((k % ns.length:Nat):Int):=by rw [Int.fmod_eq_emod_of_nonneg _ (by lia)];rfl
 rw [emod]
 have hmlt:k % ns.length<ns.length:=Nat.mod_lt _ (by lia)
 refine ⟨_,SubR.list h (by lia) (by lia) (v:=.int (ns.getD (k % ns.length) 0)) ?_,?_⟩
 ·rw [Int.toNat_natCast,List.getElem?_map,List.getElem?_eq_getElem hmlt,List.getD_eq_getElem?_getD,List.getElem?_eq_getElem hmlt];rfl
 walk_at "r"
 refine B.len_list h (by rw [List.length_map];lia) ?_
 rw [List.length_map]
 refine bin_fdiv (by lia) (by lia) ?_
 have ediv:((k:Int).fdiv (ns.length:Int))=((k / ns.length:Nat):Int):=by rw [Int.fdiv_eq_ediv_of_nonneg _ (by lia)];rfl
 rw [ediv]
 have hdl:k / ns.length≤k:=Nat.div_le_self ..
 refine bin_mul (by decide) (by rw [Int.natAbs_natCast];lia) ?_
 walk_at "r"
 exact ⟨rfl,rfl⟩
theorem law_length_open{k:Nat}{nm:Str}{nn:Nd}(h:DAt σ i D g js)(ha:D.alive=true)(hf:σ (.x m)=some (fileO i nm k false))(hk:D.nd k=some nn)(hb:nn.data.size≤800):CallJ X c 4 true (.ref 561) [.ref (.x m)] σ (fun v σ'=>v=.int nn.data.size∧σ'=σ) (fun _ _=>False):=by
 obtain ⟨left,spent,alive,made,nd,reg,kept,pres,jour⟩:=D
 dsimp only at ha hk
 subst ha
 refine CallJ.fn (fn_law_length X.w) D_law_length rfl fun _ _=>?_
 refine ExSs.consK ?_;intro _ _
 refine ExS.try rfl ?_
 walk_at "r"
 refine (length_ok h hf hk (by lia)).mono ?_ nof
 intro v σ' zz;refine e2 zz ?_
 walk_at "go"
 exact ⟨rfl,rfl⟩
theorem law_length_closed{k:Nat}{nm:Str}(h:DAt σ i D g js)(ha:D.alive=true)(hf:σ (.x m)=some (fileO i nm k true))(hn:nm.length≤500):CallJ X c 4 true (.ref 561) [.ref (.x m)] σ (fun v σ'=>v=.int (-1)∧σ'=σ) (fun _ _=>False):=by
 obtain ⟨left,spent,alive,made,nd,reg,kept,pres,jour⟩:=D
 dsimp only at ha
 subst ha
 refine CallJ.fn (fn_law_length X.w) D_law_length rfl fun _ _=>?_
 refine ExSs.consK ?_;intro _ _
 refine ExS.try rfl ?_
 walk_at "r"
 refine (closed_raises h hf hn).2.2.2.mono nof ?_
 intro c σ' zz;refine e2 zz ?_
 refine ⟨rfl,HandJ.step (by walk_at "mem") rfl rfl (fun _=>?_) (fun e=>absurd rfl e)⟩
 walk_at "c"
 exact ⟨rfl,rfl⟩
theorem sub_names_dead(hS:Sup σ)(e:σ (.x m)=some (subO a q))
  (h:∀ σ1,Kp nil σ σ1→MethJ X c n σ1 a "names" [] (fun _ _=>False) (fun c σ'=>c=97∧Kp nil σ1 σ')):MethJ X c (n+1) σ (.x m) "names" [] (fun _ _=>False) (fun c σ'=>c=97∧Kp nil σ σ'):=by
 refine ⟨522,_,_,e,meth_ok X.w rfl,by walk_at "lg",?_⟩
 refine CallJ.fn (fn_SubDisk_names X.w) D_SubDisk_names rfl fun _ _=>?_
 refine ExSs.consK ?_;intro _ _
 refine c1_1 hS.x fun m0 hm0=>?_
 walk_at "r"
 refine EvE.list ?_
 walk_at "r"
 refine ⟨.x m0,hm0,nle rfl,?_⟩
 have K1:Kp nil σ (upd σ (.x m0) (.list [])):=.new (free_x hm0)
 generalize upd σ (.x m0) (.list [])=σ1 at K1 ⊢
 have e1:=K1.at e (fun z=>z)
 refine c3_4 (h σ1 K1) fun C f fs h1 h2 h3 h4=>?_
 walk_at "r"
 refine ExS.forIn rfl (by walk_at "mem") ?_
 refine EvE.meth ?_ rfl rfl rfl rfl
 walk_at "r"
 refine ⟨_,_,_,_,rfl,h1,h2,h3,?_⟩
 walk_at "r"
 exact h4.mono nof fun c σ' ⟨e,K⟩=>⟨e,K1.trans K⟩
theorem place_names_dead{a:MA}{qs:List Str}(hS:Sup σ)(h:Place σ i a qs)(hD:DAt σ i D g js)(ha:D.alive=false):∀ σ1,Kp nil σ σ1→MethJ X c (2+qs.length) σ1 a "names" [] (fun _ _=>False) (fun c σ'=>c=97∧Kp nil σ1 σ'):=by
 induction h with
 | disk =>
  intro σ1 K
  have hD1:DAt σ1 i D g js:=hD.keep K (fun _ z=>z) fun _ z=>z
  obtain ⟨left,spent,alive,made,nd,reg,kept,pres,jour⟩:=D
  dsimp only at ha
  subst ha
  exact MethJ.disk hD1 rfl (by walk_at "lg") ((names_dead hD1).mono (fun _ _ z=>z) fun c σ' ⟨e,e'⟩=>⟨e,by rw [e'];exact .refl _ _⟩)
 | sub h e hq ih =>
  intro σ1 K
  rw [List.length_append,List.length_singleton]
  exact sub_names_dead (K.sup hS) (K.at e (fun z=>z)) fun σ2 K2=>ih σ2 (K.trans K2)
theorem law_dead_ok(hS:Sup σ)(h:Place σ i a qs)(hl:qs.length≤1)(e:σ (.x m)=some (subO a q))(hq:q.length≤10)(hD:DAt σ i D g js)(ha:D.alive=false):CallJ X c 9 true (.ref 575) [.ref (.x m)] σ (fun v σ'=>v=.bool true∧Kp nil σ σ') (fun _ _=>False):=by
 refine CallJ.fn (fn_law_dead X.w) D_law_dead rfl fun _ _=>?_
 refine ExSs.consK ?_;intro _ _
 refine ExS.try rfl ?_
 walk_at "r"
 have hP:Place σ i (.x m) (qs++[q]):=.sub h e hq
 refine (((place_names_dead hS hP hD ha σ (.refl _ _)).call e rfl).le (by rw [List.length_append,List.length_singleton];dsimp only;lia)).mono nof ?_
 intro c σ';refine f0_2 ?_;rintro rfl K
 refine ⟨rfl,HandJ.step (by walk_at "mem") rfl rfl (fun _=>?_) (fun e=>absurd rfl e)⟩
 refine ExSs.consK ?_;intro _ _
 refine ExS.ret ?_
 refine EvE.not ?_
 refine EvE.alive (nle rfl) ?_ rfl
 walk_at "r"
 refine ⟨m,i,a,qs,q,D,g,js,rfl,K.at e (fun z=>z),h.keep K fun _ z=>z,hD.keep K (fun _ z=>z) fun _ z=>z,by lia,_,by rw [ha],?_⟩
 walk_at "go"
 exact ⟨rfl,K⟩
end
structure HEnt where
 e:Nat
 f0:Nat
 fp:Nat
 n0:Str
 np:Str
 k0:Nat
 kp:Nat
 cl:Bool
 so:Nat
 oo:Nat
noncomputable abbrev entO(h:HEnt):MO:=.list [.ref (.x h.f0),.ref (.x h.fp),.int h.so,.int h.oo]
structure HAt(σ:Hp)(i0 ip:Nat)(h:HEnt):Prop where
 ent:σ (.x h.e)=some (entO h)
 f0:σ (.x h.f0)=some (fileO i0 h.n0 h.k0 h.cl)
 fp:σ (.x h.fp)=some (fileO ip h.np h.kp h.cl)
 n0:h.n0.length≤500
 np:h.np.length≤500
theorem HAt.keep{P:MA→Prop}{σ σ':Hp}{i0 ip:Nat}{h:HEnt}(x:HAt σ i0 ip h)(k:Kp P σ σ')(hp:∀ k,¬ P (.x k)):HAt σ' i0 ip h:=⟨k.at x.ent (hp _),k.at x.f0 (hp _),k.at x.fp (hp _),x.n0,x.np⟩
noncomputable def SameAt(D0 Dp:Dk)(n0 np:Str):Prop :=
 (dget n0 D0.pres=none∧dget np Dp.pres=none)∨∃ k0 kp b,dget n0 D0.pres=some k0∧dget np Dp.pres=some kp∧(∃ q,D0.nd k0=some ⟨b,q⟩)∧(∃ q,Dp.nd kp=some ⟨b,q⟩)
structure Alike(D0 Dp:Dk)(qs:List Str):Prop where
 al0:D0.alive=true
 alp:Dp.alive=true
 has0:D0.Has D0.pres
 hasp:Dp.Has Dp.pres
 l0:D0.pres.length<60
 lp:Dp.pres.length<60
 one:1≤Dp.pres.length
 rows:stripRs qs (rowsOf D0)=(rowsOf Dp).drop 1
 names:strips qs (snames (keysD D0.pres))=(snames (keysD Dp.pres)).drop 1
 small:∀ n∈keysD D0.pres,n.length≤500
 x:SameAt D0 Dp (pre qs sX) sX
 y:SameAt D0 Dp (pre qs sY) sY
theorem rowsOf_len(D:Dk):(rowsOf D).length=D.pres.length:=by unfold rowsOf;rw [List.length_map,snames_len,keysD_len]
theorem rowsOf_small{D:Dk}{k:Nat}(h:∀ n∈keysD D.pres,n.length≤k):∀ r∈rowsOf D,r.1.length≤k:=fun r hr=>by
 unfold rowsOf at hr
 refine c1_2 (List.mem_map.mp hr) ?_;rintro n hn rfl
 exact h n (snames_mem hn)
theorem RowsX.drop{σ:Hp}{m:Nat}{rs:List (Str×Array UInt8)}{a:Nat}{ks:List Nat}(h2:PairsAt σ ks rs)(ha:σ (.x a)=some (.tup ((refsX ks).drop 1))):RowsX σ a (rs.drop 1):=⟨ks.drop 1,by rw [ha];unfold refsX;rw [List.map_drop],h2.drop 1⟩
section
variable{X:Cx}{c:Bool}{σ:Hp}{i j n:Nat}{g:Gs}{js:List MA}{D:Dk}{Q:MV→Hp→Prop}{E:Addr→Hp→Prop}{m:Nat}{a:MA}{q:Str}{qs:List Str}
theorem disk_row_J(hS:Sup σ)(h:DAt σ i D g js)(hH:D.Has D.pres)(hl:D.pres.length<60):∀ σ1,Kp nil σ σ1→MethJ X c 1 σ1 (.d i .disk) "row" [] (fun v σ'=>∃ k,v=.ref (.x k)∧σ1 (.x k)=none∧RowsX σ' k (rowsOf D)∧Kp nil σ1 σ') (fun _ _=>False):=fun σ1 K =>
 MethJ.disk (h.keep K (fun _ z=>z) fun _ z=>z) rfl (by walk_at "lg") (row_ok (h.keep K (fun _ z=>z) fun _ z=>z) (K.sup hS) hH hl)
theorem disk_names_J(hS:Sup σ)(h:DAt σ i D g js)(ha:D.alive=true)(hl:D.pres.length<60):∀ σ1,Kp nil σ σ1→MethJ X c 2 σ1 (.d i .disk) "names" [] (fun v σ'=>∃ k,v=.ref (.x k)∧σ1 (.x k)=none∧σ' (.x k)=some (.list ((snames (keysD D.pres)).map .str))∧Kp nil σ1 σ') (fun _ _=>False):=fun σ1 K=>by
 have hD:=h.keep K (fun _ z=>z) fun _ z=>z
 obtain ⟨left,spent,alive,made,nd,reg,kept,pres,jour⟩:=D
 dsimp only at ha hl
 subst ha
 refine MethJ.disk hD rfl (by walk_at "lg") ((names_ok hD (K.sup hS) hl).mono ?_ fun _ _ z=>z)
 intro v σ';refine f1_3 ?_;rintro k rfl hk rfl
 exact ⟨k,rfl,hk,upd_self ..,.new (free_x hk)⟩
theorem disk_has_J{nm:Str}(h:DAt σ i D g js)(ha:D.alive=true):MethJ X c 2 σ (.d i .disk) "has" [.str nm] (fun v σ'=>v=.bool (dget nm D.pres).isSome∧σ'=σ) (fun _ _=>False):=by
 obtain ⟨left,spent,alive,made,nd,reg,kept,pres,jour⟩:=D
 dsimp only at ha
 subst ha
 exact MethJ.disk h rfl (by walk_at "lg") (has_ok h)
theorem disk_read_J{nm:Str}{k:Nat}{nn:Nd}(h:DAt σ i D g js)(ha:D.alive=true)(hg:dget nm D.pres=some k)(hk:k∈D.reg)(hn:D.nd k=some nn)(hb:nn.data.size≤800):MethJ X c 3 σ (.d i .disk) "read" [.str nm] (fun v σ'=>v=.bytes nn.data∧σ'=σ) (fun _ _=>False):=by
 obtain ⟨left,spent,alive,made,nd,reg,kept,pres,jour⟩:=D
 dsimp only at ha hg hk hn
 subst ha
 exact MethJ.disk h rfl (by walk_at "lg") (read_ok h hg hk hn hb)
theorem disk_size_J{nm:Str}{k:Nat}{nn:Nd}(h:DAt σ i D g js)(ha:D.alive=true)(hg:dget nm D.pres=some k)(hk:k∈D.reg)(hn:D.nd k=some nn)(hb:nn.data.size≤800):MethJ X c 3 σ (.d i .disk) "size" [.str nm] (fun v σ'=>v=.int nn.data.size∧σ'=σ) (fun _ _=>False):=by
 obtain ⟨left,spent,alive,made,nd,reg,kept,pres,jour⟩:=D
 dsimp only at ha hg hk hn
 subst ha
 exact MethJ.disk h rfl (by walk_at "lg") (size_ok h hg hk hn hb)
theorem alike_ok{i0 ip fl:Nat}{D0 Dp:Dk}{g0 gp:Gs}{js0 jsp:List MA}{hs:List HEnt}(hS:Sup σ)(h:Place σ i0 a qs)(hql:qs.length≤1)(e:σ (.x m)=some (subO a q))(hq:q.length≤10)(h0:DAt σ i0 D0 g0 js0)(hp:DAt σ ip Dp gp jsp)(A:Alike D0 Dp (qs++[q]))
  (hf:σ (.l fl)=some (.list (hs.map fun h=>.ref (.x h.e)))) (hfl:hs.length≤100) (hH:∀ h∈hs,HAt σ i0 ip h∧∃ b,(∃ q,D0.nd h.k0=some ⟨b,q⟩)∧(∃ q,Dp.nd h.kp=some ⟨b,q⟩)∧b.size≤800) :
  CallJ X c 9 true (.ref 568) [.ref (.x m),.ref (.d ip .disk),.ref (.l fl)] σ (fun v σ'=>v=.bool true∧Kp nil σ σ') (fun _ _=>False):=by
 have hP:Place σ i0 (.x m) (qs++[q]):=.sub h e hq
 have hqs:(qs++[q]).length≤2:=by rw [List.length_append,List.length_singleton];lia
 have hdp:=hp.disk
 refine CallJ.fn (fn_law_alike X.w) D_law_alike rfl fun _ _=>?_
 walk_at "c"
 have r1:=place_row (n:=1) (c:=c) (X:=X) hS hP (l:=rowsOf D0) (by rw [rowsOf_len];have:=A.l0;lia) (rowsOf_small A.small) (disk_row_J hS h0 A.has0 A.l0) σ (.refl _ _)
 refine ((r1.1.call e rfl).le (by rw [List.length_append,List.length_singleton];dsimp only;lia)).mono ?_ nof
 intro v σ1;refine f1_4 ?_;rintro k1 rfl hk1 hR1 K1
 have hp1:=hp.keep K1 (fun _ z=>z) fun _ z=>z
 have hdp1:=hp1.disk
 refine EvE.from ?_
 walk_at "r"
 refine ((row_ok hp1 (K1.sup hS) A.hasp A.lp).le (nle rfl)).mono ?_ nof
 rintro v σ2 ⟨k2,rfl,hk2,⟨ks2,hks2,hP2⟩,K2⟩
 walk_at "r"
 refine c1_1 ((K2.sup (K1.sup hS)).x) fun k3 hk3=>?_
 have hl2:(refsX ks2).length=Dp.pres.length:=by unfold refsX;rw [List.length_map,hP2.length,rowsOf_len]
 refine ⟨1,rfl,.x k3,hk3,.inr ⟨_,hks2,by rw [hl2];have:=A.lp;lia,Nat.le_refl _,by rw [hl2];exact A.one,?_⟩⟩
 have K3:Kp nil σ2 (upd σ2 (.x k3) (.tup ((refsX ks2).drop 1))):=.new (free_x hk3)
 have hR3:RowsX (upd σ2 (.x k3) (.tup ((refsX ks2).drop 1))) k3 ((rowsOf Dp).drop 1):=RowsX.drop (m:=0) (hP2.keep K3 fun _ z=>z) (upd_self ..)
 have hR1':=(hR1.keep K2 fun _ z=>z).keep K3 fun _ z=>z
 have KA:=(K1.trans K2).trans K3
 generalize upd σ2 (.x k3) (.tup ((refsX ks2).drop 1))=σ3 at K3 hR3 hR1' KA ⊢
 refine Or.inr ⟨_,_,hR1'.rows,hR3.rows,?_⟩
 refine And.intro (fun hb=>absurd hb (by rw [A.rows];simp)) (fun _=>?_)
 clear hR1 hR1' hR3 K1 K2 K3 hks2 hP2
 have e3:=KA.at e (fun z=>z)
 have n1:=place_names (n:=2) (c:=c) (X:=X) hS hP (l:=snames (keysD D0.pres)) (by rw [snames_len,keysD_len];have:=A.l0;lia) (fun n hn=>A.small n (snames_mem hn)) (disk_names_J hS h0 A.al0 A.l0) σ3 KA
 walk_at "r"
 refine ((n1.1.call e3 rfl).le (by rw [List.length_append,List.length_singleton];dsimp only;lia)).mono ?_ nof
 intro v σ4;refine f1_4 ?_;rintro k4 rfl hk4 hL4 K4
 have hp4:=hp.keep (KA.trans K4) (fun _ z=>z) fun _ z=>z
 have hdp4:=hp4.disk
 refine EvE.from ?_
 walk_at "r"
 have z5:=(disk_names_J (c:=c) (X:=X) hS hp A.alp A.lp σ4 (KA.trans K4)).call hdp4 rfl
 refine (z5.le (nle rfl)).mono ?_ nof
 intro v σ5;refine f1_4 ?_;rintro k5 rfl hk5 hL5 K5
 walk_at "r"
 refine c1_1 ((K5.sup (K4.sup (KA.sup hS))).x) fun k6 hk6=>?_
 refine ⟨1,rfl,.x k6,hk6,.inl ⟨_,hL5,by rw [List.length_map,snames_len,keysD_len];have:=A.lp;lia,?_⟩⟩
 have K6:Kp nil σ5 (upd σ5 (.x k6) (.list (((snames (keysD Dp.pres)).map MV.str).drop 1))):=.new (free_x hk6)
 have hL6:upd σ5 (.x k6) (.list (((snames (keysD Dp.pres)).map MV.str).drop 1)) (.x k6)=some (.list (((snames (keysD Dp.pres)).drop 1).map MV.str)):=by rw [upd_self,List.map_drop]
 have hL4':=K6.at (K5.at hL4 (fun z=>z)) (fun z=>z)
 have KB:=((KA.trans K4).trans K5).trans K6
 generalize upd σ5 (.x k6) (.list (((snames (keysD Dp.pres)).map MV.str).drop 1))=σ6 at hL6 hL4' KB K6 ⊢
 refine Or.inl ⟨_,_,hL4',hL6,?_⟩
 refine And.intro (fun hb=>absurd hb (by rw [A.names];simp)) (fun _=>?_)
 clear KA K4 K5 K6 hL4 hL4' hL5 hL6 n1 z5
 have e6:=KB.at e (fun z=>z)
 refine EvTs.cons (EvT.not (EvT.val ?_ fun _ _=>rfl))
 refine EvE.alive (nle rfl) ?_ rfl
 walk_at "r"
 refine ⟨m,i0,a,qs,q,D0,g0,js0,rfl,e6,h.keep KB fun _ z=>z,h0.keep KB (fun _ z=>z) fun _ z=>z,by lia,_,by rw [A.al0],?_⟩
 walk_at "n"
 refine EvTs.nil ?_
 walk_at "n"
 have hp6:=hp.keep KB (fun _ z=>z) fun _ z=>z
 have h06:=h0.keep KB (fun _ z=>z) fun _ z=>z
 have hP6:Place σ6 i0 (.x m) (qs++[q]):=hP.keep KB fun _ z=>z
 have hf6:=KB.at hf (fun z=>z)
 have hH6:∀ h∈hs,HAt σ6 i0 ip h∧∃ b,(∃ q,D0.nd h.k0=some ⟨b,q⟩)∧(∃ q,Dp.nd h.kp=some ⟨b,q⟩)∧b.size≤800:=fun h hh=>⟨(hH h hh).1.keep KB fun _ z=>z,(hH h hh).2⟩
 have hS6:=KB.sup hS
 walk_at "go"
 walk_at "st"
 refine ExS.forIn rfl (by walk_at "mem") ?_
 walk_at "r"
 refine c1_1 hS6.x fun mN hmN=>?_
 refine ((law_names_ok hmN).le (nle rfl)).mono ?_ nof
 intro v σ7;refine f0_2 ?_;rintro rfl hσ7
 have K7:Kp nil σ6 σ7:=by rw [hσ7];exact .new (free_x hmN)
 have hl7:σ7 (.x mN)=some (.list [.str sX,.str sY]):=by rw [hσ7];exact upd_self ..
 clear hσ7
 refine ⟨.list (.x mN),_,rfl,hl7,fun t σ' ρ'=>Kp nil σ7 σ'∧lget "sub" ρ'=some (.ref (.x m))∧lget "own" ρ'=some (.ref (.d ip .disk))∧lget "files" ρ'=some (.ref (.l fl)),?_,?_,?_,?_⟩
 ·exact ⟨.refl _ _,by walk_at "lg",by walk_at "lg",by walk_at "lg"⟩
 ·intro t σ' ρ';refine f0_2 fun K _=>?_;exact K.at hl7 (fun z=>z)
 ·intro t σ8 ρ' v;refine f0_4 fun K8 q1 q2 q3=>?_;rintro hv _ _
  obtain ⟨nm,rfl,hsame,hnl⟩:∃ nm,v=.str nm∧SameAt D0 Dp (pre (qs++[q]) nm) nm∧nm.length≤5:=by
   match t,hv with
   | 0,hv=>cases hv;exact ⟨sX,rfl,A.x,by decide +kernel⟩
   | 1,hv=>cases hv;exact ⟨sY,rfl,A.y,by decide +kernel⟩
  have KC:=K7.trans K8
  have e8:=KC.at e6 (fun z=>z)
  have h08:=h06.keep KC (fun _ z=>z) fun _ z=>z
  have hp8:=hp6.keep KC (fun _ z=>z) fun _ z=>z
  have hP8:=hP6.keep KC fun _ z=>z
  have hdp8:=hp8.disk
  have lenq:nm.length+10*(qs++[q]).length≤150:=by lia
  walk_at "r"
  refine (((place_has hP8 lenq (by lia) (disk_has_J h08 A.al0)).call e8 rfl).le (by dsimp only;lia)).mono ?_ nof
  intro v σ' zz;refine e2 zz ?_
  walk_at "r"
  refine (((disk_has_J hp8 A.alp).call hdp8 rfl).le (nle rfl)).mono ?_ nof
  intro v σ' zz;refine e2 zz ?_
  rcases hsame with ⟨s1,s2⟩ | ⟨k0,kp,b,s1,s2,⟨u0,s3⟩,⟨up,s4⟩⟩
  ·rw [s1,s2]
   walk_at "n"
   walk_at "r"
   refine (((disk_has_J hp8 A.alp).call hdp8 rfl).le (nle rfl)).mono ?_ nof
   intro v σ' zz;refine e2 zz ?_
   rw [s2]
   refine ⟨_,rfl,And.intro (fun _=>?_) (fun hb=>absurd hb (by decide))⟩
   walk_at "n"
   walk_at "r"
   exact ⟨K8,by walk_at "lg",by walk_at "lg",by walk_at "lg"⟩
  ·rw [s1,s2]
   refine c1_3 (A.has0.nd _ _ s1) fun nn0 z1 z2 _=>?_
   rw [s3] at z1;cases z1
   refine c1_3 (A.hasp.nd _ _ s2) fun nnp z1 z3 _=>?_
   rw [s4] at z1;cases z1
   refine And.intro (fun hb=>absurd hb (by simp)) (fun _=>?_)
   walk_at "r"
   refine (((disk_has_J hp8 A.alp).call hdp8 rfl).le (nle rfl)).mono ?_ nof
   intro v σ' zz;refine e2 zz ?_
   rw [s2]
   refine ⟨_,rfl,And.intro (fun hb=>absurd hb (by simp)) (fun _=>?_)⟩
   walk_at "r"
   refine (((place_read hP8 lenq (by lia) (disk_read_J h08 A.al0 s1 (A.has0.reg _ _ s1) s3 z2)).call e8 rfl).le (by dsimp only;lia)).mono ?_ nof
   intro v σ' zz;refine e2 zz ?_
   walk_at "r"
   refine (((disk_read_J hp8 A.alp s2 (A.hasp.reg _ _ s2) s4 z3).call hdp8 rfl).le (nle rfl)).mono ?_ nof
   intro v σ' zz;refine e2 zz ?_
   refine And.intro (fun hb=>absurd hb (by simp)) (fun _=>?_)
   walk_at "r"
   refine (((place_size hP8 lenq (by lia) (disk_size_J h08 A.al0 s1 (A.has0.reg _ _ s1) s3 z2)).call e8 rfl).le (by dsimp only;lia)).mono ?_ nof
   intro v σ' zz;refine e2 zz ?_
   walk_at "r"
   refine (((disk_size_J hp8 A.alp s2 (A.hasp.reg _ _ s2) s4 z3).call hdp8 rfl).le (nle rfl)).mono ?_ nof
   intro v σ' zz;refine e2 zz ?_
   refine And.intro (fun hb=>absurd hb (by simp)) (fun _=>?_)
   refine EvTs.nil ?_
   walk_at "y"
   walk_at "n"
   walk_at "r"
   exact ⟨K8,by walk_at "lg",by walk_at "lg",by walk_at "lg"⟩
 ·intro σ8 ρ';refine f0_4 fun K8 q1 q2 q3=>?_
  have KC:=K7.trans K8
  have hf8:=KC.at hf6 (fun z=>z)
  walk_at "go"
  walk_at "st"
  refine ExS.forIn rfl (by walk_at "mem") ?_
  walk_at "r"
  refine ⟨.list (.l fl),_,rfl,hf8,fun t σ' ρ'=>σ'=σ8∧True,⟨rfl,trivial⟩,?_,?_,?_⟩
  ·intro t σ' ρ';refine f0_2 ?_;rintro rfl _;exact hf8
  ·intro t σ' ρ' v;refine f0_2 ?_;rintro rfl _;rintro hv _ _
   rw [List.getElem?_map] at hv
   refine c1_2 (Option.map_eq_some_iff.mp hv) ?_;rintro h hh rfl
   obtain ⟨ha,b,⟨u0,s3⟩,⟨up,s4⟩,hbs⟩:=hH6 h (List.mem_of_getElem? hh)
   have ha8:=ha.keep KC fun _ z=>z
   have h08:=h06.keep KC (fun _ z=>z) fun _ z=>z
   have hp8:=hp6.keep KC (fun _ z=>z) fun _ z=>z
   have he:=ha8.ent
   have hf0:=ha8.f0
   have hfp:=ha8.fp
   obtain ⟨he_,hf0_,hfp_,hn0,hnp,hk0,hkp,cl,so,oo⟩:=h
   dsimp only at he hf0 hfp s3 s4
   walk_at "r"
   refine ⟨_,SubR.list he (by decide) (by decide) rfl,?_⟩
   walk_at "r"
   cases cl with
   | false =>
    refine ((law_length_open h08 A.al0 hf0 s3 hbs).le (nle rfl)).mono ?_ nof
    intro v σ' zz;refine e2 zz ?_
    walk_at "r"
    refine ⟨_,SubR.list he (by decide) (by decide) rfl,?_⟩
    walk_at "r"
    refine ((law_length_open hp8 A.alp hfp s4 hbs).le (nle rfl)).mono ?_ nof
    intro v σ' zz;refine e2 zz ?_
    refine And.intro (fun hb=>absurd hb (by simp)) (fun _=>?_)
    walk_at "r"
    exact ⟨rfl,trivial⟩
   | true =>
    refine ((law_length_closed h08 A.al0 hf0 ha8.n0).le (nle rfl)).mono ?_ nof
    intro v σ' zz;refine e2 zz ?_
    walk_at "r"
    refine ⟨_,SubR.list he (by decide) (by decide) rfl,?_⟩
    walk_at "r"
    refine ((law_length_closed hp8 A.alp hfp ha8.np).le (nle rfl)).mono ?_ nof
    intro v σ' zz;refine e2 zz ?_
    walk_at "n"
    walk_at "r"
    exact ⟨rfl,trivial⟩
  ·intro σ' ρ';refine f0_2 ?_;rintro rfl _
   walk_at "r"
   exact ⟨rfl,KB.trans KC⟩
end
structure Wf(D:Dk):Prop where
 left:D.left=-1
 alive:D.alive=true
 nr:D.made+1∉D.reg
 lp:D.pres.length≤15
 lk:D.kept.length≤15
 lj:D.jour.length≤15
 lr:D.reg.length≤30
 has:D.Has D.pres
 fits:Fits D.jour D.kept
noncomputable def ndOf(D:Dk)(k:Nat):Nd:=(D.nd k).getD ⟨#[],0⟩
structure ActO where
 code:Int
 D:Dk
 new:Option Nat
 cl:Bool
noncomputable def act(kind:Nat)(D:Dk)(fk:Nat)(cl:Bool)(one two:Str)(b:Array UInt8):ActO :=
 if kind=0 then (if (dget one D.pres).isSome then ⟨2,D,none,cl⟩ else ⟨0,D.mk1 one,some (D.made+1),cl⟩)
 else if kind=1 then ⟨0,D.mk1 one,some (D.made+1),cl⟩
 else if kind=2 then (if cl then ⟨3,D,none,cl⟩ else ⟨0,D.appd fk (ndOf D fk) b,none,cl⟩)
 else if kind=3 then (if cl then ⟨3,D,none,cl⟩ else ⟨0,D.syncd fk (ndOf D fk),none,cl⟩)
 else if kind=4 then (if (dget one D.pres).isSome then ⟨0,D.stepd ⟨3,one,two,0⟩,none,cl⟩ else ⟨1,D,none,cl⟩)
 else if kind=5 then (if (dget one D.pres).isSome then ⟨0,D.stepd ⟨2,one,Str.ofString "",0⟩,none,cl⟩ else ⟨1,D,none,cl⟩)
 else if kind=6 then (if (dget one D.pres).isSome then ⟨0,D,some ((dget one D.pres).getD 0),cl⟩ else ⟨1,D,none,cl⟩)
 else if kind=7 then (if cl then ⟨3,D,none,cl⟩ else ⟨0,D,none,true⟩)
 else ⟨0,D.syncDir,none,cl⟩
section
variable{D:Dk}{k:Nat}{l:Bool}{o t:Str}{b:Array UInt8}
theorem act0:act 0 D k l o t b=if (dget o D.pres).isSome=true then ⟨2,D,none,l⟩ else ⟨0,D.mk1 o,some (D.made+1),l⟩:=rfl
theorem act1:act 1 D k l o t b=⟨0,D.mk1 o,some (D.made+1),l⟩:=rfl
theorem act2:act 2 D k l o t b=if l=true then ⟨3,D,none,l⟩ else ⟨0,D.appd k (ndOf D k) b,none,l⟩:=rfl
theorem act3:act 3 D k l o t b=if l=true then ⟨3,D,none,l⟩ else ⟨0,D.syncd k (ndOf D k),none,l⟩:=rfl
theorem act4:act 4 D k l o t b=if (dget o D.pres).isSome=true then ⟨0,D.stepd ⟨3,o,t,0⟩,none,l⟩ else ⟨1,D,none,l⟩:=rfl
theorem act5:act 5 D k l o t b=if (dget o D.pres).isSome=true then ⟨0,D.stepd ⟨2,o,Str.ofString "",0⟩,none,l⟩ else ⟨1,D,none,l⟩:=rfl
theorem act6:act 6 D k l o t b=if (dget o D.pres).isSome=true then ⟨0,D,some ((dget o D.pres).getD 0),l⟩ else ⟨1,D,none,l⟩:=rfl
theorem act7:act 7 D k l o t b=if l=true then ⟨3,D,none,l⟩ else ⟨0,D,none,true⟩:=rfl
theorem act8:act 8 D k l o t b=⟨0,D.syncDir,none,l⟩:=rfl
end
noncomputable def needsFile(kind:Nat):Bool:=kind==2 || kind==3 || kind==7
noncomputable def ActP(σ:Hp)(i:Nat)(nm:Str)(O:ActO)(m:MV)(σ':Hp):Prop :=
 (∃ g js,DAt σ' i O.D g js)∧(match O.new with | none=>m=.none | some k=>∃ x,m=.ref (.x x)∧σ (.x x)=none∧σ' (.x x)=some (fileO i nm k false))
theorem ActP.x{σ0 σ:Hp}{i:Nat}{nm:Str}{O:ActO}{m:MV}{t:Nat}{o:MO}(h:ActP σ0 i nm O m σ)(ht:σ (.x t)=none):ActP σ0 i nm O m (upd σ (.x t) o):=by
 obtain ⟨⟨g,js,h1⟩,h2⟩:=h
 refine ⟨⟨g,js,h1.x ht⟩,?_⟩
 cases e:O.new with
 | none=>rw [e] at h2;exact h2
 | some k =>
  rw [e] at h2
  refine c1_3 h2 fun x e1 e2 e3=>?_
  exact ⟨x,e1,e2,upd_at (ne_fresh e3 ht) e3⟩
noncomputable def DoneP(σ:Hp)(i:Nat)(f:Nat)(nf:Str)(fk:Nat)(kind:Nat)(nm:Str)(O:ActO)(v:MV)(σ':Hp):Prop :=
 ∃ t m,v=.ref (.x t)∧σ' (.x t)=some (.tup [.int O.code,m])∧Kp (fun a=>inD i a∨(kind=7∧a=.x f)) σ σ'∧ActP σ i nm O m σ'∧(kind=7→σ' (.x f)=some (fileO i nf fk O.cl))
section
variable{X:Cx}{σ:Hp}{i:Nat}{g:Gs}{js:List MA}{D:Dk}{a:MA}{qs:List Str}{f fk:Nat}{nf one two:Str}{cl:Bool}{fv:MV}{b:Array UInt8}
theorem ex73{c:Addr}{σ:Hp}{P:MA→Prop}{Q:Addr→Hp→Prop}{σ':Hp}(h:c=73∧σ'=σ)(hq:Q 73 σ):excC c∧Kp P σ σ'∧Q c σ':=by refine c0_2 h ?_;rintro rfl rfl;exact ⟨.inl rfl,.refl _ _,hq⟩
theorem ex85{c:Addr}{σ:Hp}{P:MA→Prop}{Q:Addr→Hp→Prop}{σ':Hp}(h:c=85∧σ'=σ)(hq:Q 85 σ):excC c∧Kp P σ σ'∧Q c σ':=by refine c0_2 h ?_;rintro rfl rfl;exact ⟨.inr (.inl rfl),.refl _ _,hq⟩
theorem ex109{c:Addr}{σ:Hp}{P:MA→Prop}{Q:Addr→Hp→Prop}{σ':Hp}(h:c=109∧σ'=σ)(hq:Q 109 σ):excC c∧Kp P σ σ'∧Q c σ':=by refine c0_2 h ?_;rintro rfl rfl;exact ⟨.inr (.inr rfl),.refl _ _,hq⟩
theorem done_of{kind:Nat}{nm:Str}{O:ActO}{P:MA→Prop}{Qex:Addr→Hp→Prop}{Qok:MV→Hp→Prop}{v:MV}{σ':Hp}(h:DoesP σ P Qok Qex v σ')(hP:∀ a,P a→inD i a∨(kind=7∧a=.x f))
  (h1:∀ m,Qok m σ'→O.code=0∧ActP σ i nm O m σ'∧(kind=7→σ' (.x f)=some (fileO i nf fk O.cl))) (h2:∀ c,Qex c σ'→O.code=excCode c∧ActP σ i nm O .none σ'∧(kind=7→σ' (.x f)=some (fileO i nf fk O.cl))):DoneP σ i f nf fk kind nm O v σ':=by
 obtain ⟨t,m,code,rfl,e,K,⟨rfl,hq⟩ | ⟨c,rfl,rfl,hq⟩⟩:=h
 ·refine c0_3 (h1 m hq) fun a1 a2 a3=>?_
  exact ⟨t,m,rfl,by rw [a1];exact e,K.mono hP,a2,a3⟩
 ·refine c0_3 (h2 c hq) fun a1 a2 a3=>?_
  exact ⟨t,_,rfl,by rw [a1];exact e,K.mono hP,a2,a3⟩
theorem does_create{pv:MV}(hS:Sup σ)(h:Place σ i a qs)(hq:qs.length≤2)(hD:DAt σ i D g js)(W:Wf D)(h1:one.length≤20):CallJ X true 8 true (.ref 554) [.ref a,fv,.int (0:Nat),.str one,.str two,.bytes b] σ (DoneP σ i f nf fk 0 (pre qs one) (act 0 D fk cl (pre qs one) (pre qs two) b)) (fun _ _=>False):=by
 have hql:=pre_len qs h.qs_le one
 have hql2:=pre_len qs h.qs_le two
 obtain ⟨left,spent,alive,made,nd,reg,kept,pres,jour⟩:=D
 obtain ⟨w1,w2,w3,w4,w5,w6,w7,w8,w9⟩:=W
 dsimp only at w1 w2 w3 w4 w5 w6 w7 w9
 subst w1 w2
 by_cases hg:(dget (pre qs one) pres).isSome=true
 ·refine (does_0 (P:=nil) (Qok:=fun _ _=>False) (Qex:=fun c σ'=>c=85∧∃ g js,DAt σ' i ⟨-1,spent,true,made,nd,reg,kept,pres,jour⟩ g js) hS (fun _ _ _ _ z _=>z.elim) (fun c σ t o ⟨e,g,js,z⟩ ht=>⟨e,g,js,z.x ht⟩)
   (((place_create h (by lia) (by lia) (Q:=fun _ _=>False) (E:=fun c σ'=>excC c∧Kp nil σ σ'∧c=85∧∃ g js,DAt σ' i ⟨-1,spent,true,made,nd,reg,kept,pres,jour⟩ g js) (MethJ.disk hD rfl (by walk_at "lg") ((create_there hD hg (by lia)).mono (fun _ _ z=>z) fun c σ' e=>ex85 (Q:=fun c σ'=>c=85∧∃ g js,DAt σ' i ⟨-1,spent,true,made,nd,reg,kept,pres,jour⟩ g js) e ⟨rfl,g,js,hD⟩))).mono nof (fun _ _ z=>z) |>.le (by lia)))).mono (fun v σ' hd=>done_of hd (fun _ z=>z.elim) (fun _ z=>z.elim) ?_) fun _ _ z=>z
  rintro c ⟨rfl,g',js',hD'⟩
  rw [act0]
  try dsimp only
  rw [if_pos hg]
  exact ⟨rfl,⟨⟨g',js',hD'⟩,rfl⟩,fun z=>by cases z⟩
 ·have hg':dget (pre qs one) pres=none:=by simpa using hg
  refine (does_0 (P:=inD i) (Qok:=fun m σ'=>∃ x g js,m=.ref (.x x)∧σ (.x x)=none∧σ' (.x x)=some (fileO i (pre qs one) (made+1) false)∧DAt σ' i (Dk.mk1 ⟨-1,spent,true,made,nd,reg,kept,pres,jour⟩ (pre qs one)) g js) (Qex:=fun _ _=>False) hS
   (fun m σ t o ⟨x,g,js,e1,e2,e3,z⟩ ht=>⟨x,g,js,e1,e2,upd_at (ne_fresh e3 ht) e3,z.x ht⟩) (fun _ _ _ _ z _=>z.elim)
   (((place_create h (by lia) (by lia) (MethJ.disk hD rfl (by walk_at "lg") (create_ok hD hS hg' (by lia) w3 (by lia) (by lia) (by lia)))).mono (fun v σ' ⟨m,g',js',e1,e2,e3,K,z⟩=>⟨K,m,g',js',e1,e2,e3,z⟩) nof) |>.le (by lia))).mono (fun v σ' hd=>done_of hd (fun _ z=>.inl z) ?_ (fun _ z=>z.elim)) fun _ _ z=>z
  intro m;refine f3_4 ?_;rintro x g' js' rfl e2 e3 hD'
  rw [act0]
  try dsimp only
  rw [if_neg hg]
  exact ⟨rfl,⟨⟨g',js',hD'⟩,x,rfl,e2,e3⟩,fun z=>by cases z⟩
theorem does_create_over{pv:MV}(hS:Sup σ)(h:Place σ i a qs)(hq:qs.length≤2)(hD:DAt σ i D g js)(W:Wf D)(h1:one.length≤20):CallJ X true 8 true (.ref 554) [.ref a,fv,.int (1:Nat),.str one,.str two,.bytes b] σ (DoneP σ i f nf fk 1 (pre qs one) (act 1 D fk cl (pre qs one) (pre qs two) b)) (fun _ _=>False):=by
 have hql:=pre_len qs h.qs_le one
 have hql2:=pre_len qs h.qs_le two
 obtain ⟨left,spent,alive,made,nd,reg,kept,pres,jour⟩:=D
 obtain ⟨w1,w2,w3,w4,w5,w6,w7,w8,w9⟩:=W
 dsimp only at w1 w2 w3 w4 w5 w6 w7 w9
 subst w1 w2
 ·refine (does_1 (P:=inD i) (Qok:=fun m σ'=>∃ x g js,m=.ref (.x x)∧σ (.x x)=none∧σ' (.x x)=some (fileO i (pre qs one) (made+1) false)∧DAt σ' i (Dk.mk1 ⟨-1,spent,true,made,nd,reg,kept,pres,jour⟩ (pre qs one)) g js) (Qex:=fun _ _=>False) hS
   (fun m σ t o ⟨x,g,js,e1,e2,e3,z⟩ ht=>⟨x,g,js,e1,e2,upd_at (ne_fresh e3 ht) e3,z.x ht⟩) (fun _ _ _ _ z _=>z.elim)
   (((place_create_over h (by lia) (by lia) (MethJ.disk hD rfl (by walk_at "lg") (create_over_inf hD hS (by lia) w3 (by lia) (by lia) (by lia)))).mono (fun v σ' ⟨m,g',js',e1,e2,e3,K,z⟩=>⟨K,m,g',js',e1,e2,e3,z⟩) nof) |>.le (by lia))).mono (fun v σ' hd=>done_of hd (fun _ z=>.inl z) ?_ (fun _ z=>z.elim)) fun _ _ z=>z
  intro m;refine f3_4 ?_;rintro x g' js' rfl e2 e3 hD'
  rw [act1]
  try dsimp only
  exact ⟨rfl,⟨⟨g',js',hD'⟩,x,rfl,e2,e3⟩,fun z=>by cases z⟩
theorem does_append_to{pv:MV}(hS:Sup σ)(h:Place σ i a qs)(hq:qs.length≤2)(hD:DAt σ i D g js)(W:Wf D)(h1:one.length≤20):CallJ X true 8 true (.ref 554) [.ref a,fv,.int (6:Nat),.str one,.str two,.bytes b] σ (DoneP σ i f nf fk 6 (pre qs one) (act 6 D fk cl (pre qs one) (pre qs two) b)) (fun _ _=>False):=by
 have hql:=pre_len qs h.qs_le one
 have hql2:=pre_len qs h.qs_le two
 obtain ⟨left,spent,alive,made,nd,reg,kept,pres,jour⟩:=D
 obtain ⟨w1,w2,w3,w4,w5,w6,w7,w8,w9⟩:=W
 dsimp only at w1 w2 w3 w4 w5 w6 w7 w9
 subst w1 w2
 by_cases hg:(dget (pre qs one) pres).isSome=true
 ·refine c1_1 (Option.isSome_iff_exists.mp hg) fun k hgk=>?_
  refine (does_6 (P:=inD i) (Qok:=fun m σ'=>∃ x g js,m=.ref (.x x)∧σ (.x x)=none∧σ' (.x x)=some (fileO i (pre qs one) k false)∧DAt σ' i (⟨-1,spent,true,made,nd,reg,kept,pres,jour⟩) g js) (Qex:=fun _ _=>False) hS
   (fun m σ t o ⟨x,g,js,e1,e2,e3,z⟩ ht=>⟨x,g,js,e1,e2,upd_at (ne_fresh e3 ht) e3,z.x ht⟩) (fun _ _ _ _ z _=>z.elim)
   (((place_append_to h (by lia) (by lia) (MethJ.disk hD rfl (by walk_at "lg") (append_to_ok hD hS hgk (w8.reg _ _ hgk)))).mono (fun v σ' ⟨m,e1,e2,e3,K,z⟩=>⟨K.mono (fun _ z=>z),m,g,js,e1,e2,e3,z⟩) nof) |>.le (by lia))).mono (fun v σ' hd=>done_of hd (fun _ z=>.inl z) ?_ (fun _ z=>z.elim)) fun _ _ z=>z
  intro m;refine f3_4 ?_;rintro x g' js' rfl e2 e3 hD'
  rw [act6]
  try dsimp only
  rw [if_pos hg,hgk]
  exact ⟨rfl,⟨⟨g',js',hD'⟩,x,rfl,e2,e3⟩,fun z=>by cases z⟩
 ·have hg':dget (pre qs one) pres=none:=by simpa using hg
  have hz:=hg
  refine (does_6 (P:=nil) (Qok:=fun _ _=>False) (Qex:=fun c σ'=>c=73∧∃ g js,DAt σ' i ⟨-1,spent,true,made,nd,reg,kept,pres,jour⟩ g js) hS (fun _ _ _ _ z _=>z.elim) (fun c σ t o ⟨e,g,js,z⟩ ht=>⟨e,g,js,z.x ht⟩)
   (((place_append_to h (by lia) (by lia) (Q:=fun _ _=>False) (E:=fun c σ'=>excC c∧Kp nil σ σ'∧c=73∧∃ g js,DAt σ' i ⟨-1,spent,true,made,nd,reg,kept,pres,jour⟩ g js) (MethJ.disk hD rfl (by walk_at "lg") ((append_to_missing hD hg' (by lia)).mono (fun _ _ z=>z) fun c σ' e=>ex73 (Q:=fun c σ'=>c=73∧∃ g js,DAt σ' i ⟨-1,spent,true,made,nd,reg,kept,pres,jour⟩ g js) e ⟨rfl,g,js,hD⟩))).mono nof (fun _ _ z=>z) |>.le (by lia)))).mono (fun v σ' hd=>done_of hd (fun _ z=>z.elim) (fun _ z=>z.elim) ?_) fun _ _ z=>z
  rintro c ⟨rfl,g',js',hD'⟩
  rw [act6]
  try dsimp only
  rw [if_neg hg]
  exact ⟨rfl,⟨⟨g',js',hD'⟩,rfl⟩,fun z=>by cases z⟩
theorem does_rename{pv:MV}(hS:Sup σ)(h:Place σ i a qs)(hq:qs.length≤2)(hD:DAt σ i D g js)(W:Wf D)(h1:one.length≤20)(h2:two.length≤20):CallJ X true 8 true (.ref 554) [.ref a,fv,.int (4:Nat),.str one,.str two,.bytes b] σ (DoneP σ i f nf fk 4 (pre qs one) (act 4 D fk cl (pre qs one) (pre qs two) b)) (fun _ _=>False):=by
 have hql:=pre_len qs h.qs_le one
 have hql2:=pre_len qs h.qs_le two
 obtain ⟨left,spent,alive,made,nd,reg,kept,pres,jour⟩:=D
 obtain ⟨w1,w2,w3,w4,w5,w6,w7,w8,w9⟩:=W
 dsimp only at w1 w2 w3 w4 w5 w6 w7 w9
 subst w1 w2
 by_cases hg:(dget (pre qs one) pres).isSome=true
 ·refine c1_1 (Option.isSome_iff_exists.mp hg) fun k hgk=>?_
  refine (does_4 (P:=inD i) (Qok:=fun m σ'=>m=.none∧∃ g js,DAt σ' i (Dk.stepd ⟨-1,spent,true,made,nd,reg,kept,pres,jour⟩ ⟨3,pre qs one,pre qs two,0⟩) g js) (Qex:=fun _ _=>False) hS
   (fun m σ t o ⟨e1,g,js,z⟩ ht=>⟨e1,g,js,z.x ht⟩) (fun _ _ _ _ z _=>z.elim)
   ((place_rename h (by lia) (by lia) (Q:=fun v σ'=>Kp (inD i) σ σ'∧MV.none=.none∧∃ g js,DAt σ' i (Dk.stepd ⟨-1,spent,true,made,nd,reg,kept,pres,jour⟩ ⟨3,pre qs one,pre qs two,0⟩) g js) (fun _ _ z=>z) (MethJ.disk hD rfl (by walk_at "lg") ((rename_ok hD hS hgk (w8.reg _ _ hgk) (by lia) (by lia) (by lia)).mono (fun v σ' ⟨_,K,g',js',z⟩=>⟨K,rfl,g',js',z⟩) nof))) |>.le (by lia))).mono (fun v σ' hd=>done_of hd (fun _ z=>.inl z) ?_ (fun _ z=>z.elim)) fun _ _ z=>z
  rintro m ⟨rfl,g',js',hD'⟩
  rw [act4]
  try dsimp only
  rw [if_pos hg]
  exact ⟨rfl,⟨⟨g',js',hD'⟩,rfl⟩,fun z=>by cases z⟩
 ·have hg':dget (pre qs one) pres=none:=by simpa using hg
  refine (does_4 (P:=nil) (Qok:=fun _ _=>False) (Qex:=fun c σ'=>c=73∧∃ g js,DAt σ' i ⟨-1,spent,true,made,nd,reg,kept,pres,jour⟩ g js) hS (fun _ _ _ _ z _=>z.elim) (fun c σ t o ⟨e,g,js,z⟩ ht=>⟨e,g,js,z.x ht⟩)
   (((place_rename h (by lia) (by lia) (Q:=fun _ _=>False) (E:=fun c σ'=>excC c∧Kp nil σ σ'∧c=73∧∃ g js,DAt σ' i ⟨-1,spent,true,made,nd,reg,kept,pres,jour⟩ g js) nof (MethJ.disk hD rfl (by walk_at "lg") ((rename_missing hD hg' (by lia)).mono (fun _ _ z=>z) fun c σ' e=>ex73 (Q:=fun c σ'=>c=73∧∃ g js,DAt σ' i ⟨-1,spent,true,made,nd,reg,kept,pres,jour⟩ g js) e ⟨rfl,g,js,hD⟩))).mono nof (fun _ _ z=>z) |>.le (by lia)))).mono (fun v σ' hd=>done_of hd (fun _ z=>z.elim) (fun _ z=>z.elim) ?_) fun _ _ z=>z
  rintro c ⟨rfl,g',js',hD'⟩
  rw [act4]
  try dsimp only
  rw [if_neg hg]
  exact ⟨rfl,⟨⟨g',js',hD'⟩,rfl⟩,fun z=>by cases z⟩
theorem does_remove{pv:MV}(hS:Sup σ)(h:Place σ i a qs)(hq:qs.length≤2)(hD:DAt σ i D g js)(W:Wf D)(h1:one.length≤20)(h2:two.length≤20):CallJ X true 8 true (.ref 554) [.ref a,fv,.int (5:Nat),.str one,.str two,.bytes b] σ (DoneP σ i f nf fk 5 (pre qs one) (act 5 D fk cl (pre qs one) (pre qs two) b)) (fun _ _=>False):=by
 have hql:=pre_len qs h.qs_le one
 have hql2:=pre_len qs h.qs_le two
 obtain ⟨left,spent,alive,made,nd,reg,kept,pres,jour⟩:=D
 obtain ⟨w1,w2,w3,w4,w5,w6,w7,w8,w9⟩:=W
 dsimp only at w1 w2 w3 w4 w5 w6 w7 w9
 subst w1 w2
 by_cases hg:(dget (pre qs one) pres).isSome=true
 ·refine c1_1 (Option.isSome_iff_exists.mp hg) fun k hgk=>?_
  refine (does_5 (P:=inD i) (Qok:=fun m σ'=>m=.none∧∃ g js,DAt σ' i (Dk.stepd ⟨-1,spent,true,made,nd,reg,kept,pres,jour⟩ ⟨2,pre qs one,Str.ofString "",0⟩) g js) (Qex:=fun _ _=>False) hS
   (fun m σ t o ⟨e1,g,js,z⟩ ht=>⟨e1,g,js,z.x ht⟩) (fun _ _ _ _ z _=>z.elim)
   ((place_remove h (by lia) (Q:=fun v σ'=>Kp (inD i) σ σ'∧MV.none=.none∧∃ g js,DAt σ' i (Dk.stepd ⟨-1,spent,true,made,nd,reg,kept,pres,jour⟩ ⟨2,pre qs one,Str.ofString "",0⟩) g js) (fun _ _ z=>z) (MethJ.disk hD rfl (by walk_at "lg") ((remove_ok hD hS hgk (w8.reg _ _ hgk) (by lia) (by lia) (by lia)).mono (fun v σ' ⟨_,K,g',js',z⟩=>⟨K,rfl,g',js',z⟩) nof))) |>.le (by lia))).mono (fun v σ' hd=>done_of hd (fun _ z=>.inl z) ?_ (fun _ z=>z.elim)) fun _ _ z=>z
  rintro m ⟨rfl,g',js',hD'⟩
  rw [act5]
  try dsimp only
  rw [if_pos hg]
  exact ⟨rfl,⟨⟨g',js',hD'⟩,rfl⟩,fun z=>by cases z⟩
 ·have hg':dget (pre qs one) pres=none:=by simpa using hg
  refine (does_5 (P:=nil) (Qok:=fun _ _=>False) (Qex:=fun c σ'=>c=73∧∃ g js,DAt σ' i ⟨-1,spent,true,made,nd,reg,kept,pres,jour⟩ g js) hS (fun _ _ _ _ z _=>z.elim) (fun c σ t o ⟨e,g,js,z⟩ ht=>⟨e,g,js,z.x ht⟩)
   (((place_remove h (by lia) (Q:=fun _ _=>False) (E:=fun c σ'=>excC c∧Kp nil σ σ'∧c=73∧∃ g js,DAt σ' i ⟨-1,spent,true,made,nd,reg,kept,pres,jour⟩ g js) nof (MethJ.disk hD rfl (by walk_at "lg") ((remove_missing hD hg' (by lia)).mono (fun _ _ z=>z) fun c σ' e=>ex73 (Q:=fun c σ'=>c=73∧∃ g js,DAt σ' i ⟨-1,spent,true,made,nd,reg,kept,pres,jour⟩ g js) e ⟨rfl,g,js,hD⟩))).mono nof (fun _ _ z=>z) |>.le (by lia)))).mono (fun v σ' hd=>done_of hd (fun _ z=>z.elim) (fun _ z=>z.elim) ?_) fun _ _ z=>z
  rintro c ⟨rfl,g',js',hD'⟩
  rw [act5]
  try dsimp only
  rw [if_neg hg]
  exact ⟨rfl,⟨⟨g',js',hD'⟩,rfl⟩,fun z=>by cases z⟩
theorem does_sync_dir{pv:MV}(hS:Sup σ)(h:Place σ i a qs)(hq:qs.length≤2)(hD:DAt σ i D g js)(W:Wf D):CallJ X true 8 true (.ref 554) [.ref a,fv,.int (8:Nat),.str one,.str two,.bytes b] σ (DoneP σ i f nf fk 8 (pre qs one) (act 8 D fk cl (pre qs one) (pre qs two) b)) (fun _ _=>False):=by
 have hql:=pre_len qs h.qs_le one
 have hql2:=pre_len qs h.qs_le two
 obtain ⟨left,spent,alive,made,nd,reg,kept,pres,jour⟩:=D
 obtain ⟨w1,w2,w3,w4,w5,w6,w7,w8,w9⟩:=W
 dsimp only at w1 w2 w3 w4 w5 w6 w7 w9
 subst w1 w2
 ·refine (does_8 (P:=inD i) (Qok:=fun m σ'=>m=.none∧∃ g js,DAt σ' i (Dk.syncDir ⟨-1,spent,true,made,nd,reg,kept,pres,jour⟩) g js) (Qex:=fun _ _=>False) hS
   (fun m σ t o ⟨e1,g,js,z⟩ ht=>⟨e1,g,js,z.x ht⟩) (fun _ _ _ _ z _=>z.elim)
   ((place_sync_dir h (Q:=fun v σ'=>Kp (inD i) σ σ'∧MV.none=.none∧∃ g js,DAt σ' i (Dk.syncDir ⟨-1,spent,true,made,nd,reg,kept,pres,jour⟩) g js) (fun _ _ z=>z) (MethJ.disk hD rfl (by walk_at "lg") ((sync_dir_ok hD hS w8 (by lia)).mono (fun v σ' ⟨_,K,g',z⟩=>⟨K,rfl,g',[],z⟩) nof))) |>.le (by lia))).mono (fun v σ' hd=>done_of hd (fun _ z=>.inl z) ?_ (fun _ z=>z.elim)) fun _ _ z=>z
  rintro m ⟨rfl,g',js',hD'⟩
  rw [act8]
  try dsimp only
  exact ⟨rfl,⟨⟨g',js',hD'⟩,rfl⟩,fun z=>by cases z⟩
theorem does_append{pv:MV}(hS:Sup σ)(hD:DAt σ i D g js)(W:Wf D){nn:Nd}{nm one2 two2:Str}(hf:σ (.x f)=some (fileO i nf fk cl))(hk:D.nd fk=some nn)(hb:nn.data.size+b.size≤800)(hnf:nf.length≤500):CallJ X true 8 true (.ref 554) [pv,.ref (.x f),.int (2:Nat),.str one,.str two,.bytes b] σ (DoneP σ i f nf fk 2 nm (act 2 D fk cl one2 two2 b)) (fun _ _=>False):=by
 obtain ⟨left,spent,alive,made,nd,reg,kept,pres,jour⟩:=D
 obtain ⟨w1,w2,w3,w4,w5,w6,w7,w8,w9⟩:=W
 dsimp only at w1 w2 w3 w4 w5 w6 w7 w9
 subst w1 w2
 dsimp only at hk
 cases cl with
 | true =>
  refine (does_2 (P:=nil) (Qok:=fun _ _=>False) (Qex:=fun c σ'=>c=109∧∃ g js,DAt σ' i ⟨-1,spent,true,made,nd,reg,kept,pres,jour⟩ g js) hS (fun _ _ _ _ z _=>z.elim) (fun c σ t o ⟨e,g,js,z⟩ ht=>⟨e,g,js,z.x ht⟩)
   (⟨226,202,_,hf,meth_ok X.w rfl,by walk_at "lg",(((closed_raises hD hf hnf).1 b).le (nle rfl)).mono nof (fun c σ' e=>ex109 (Q:=fun c σ'=>c=109∧∃ g js,DAt σ' i ⟨-1,spent,true,made,nd,reg,kept,pres,jour⟩ g js) e ⟨rfl,g,js,hD⟩)⟩)).mono (fun v σ' hd=>done_of hd (fun _ z=>z.elim) (fun _ z=>z.elim) ?_) fun _ _ z=>z
  rintro c ⟨rfl,g',js',hD'⟩
  rw [act2]
  try dsimp only
  rw [if_pos rfl]
  exact ⟨rfl,⟨⟨g',js',hD'⟩,rfl⟩,fun z=>by cases z⟩
 | false =>
  have hnd:ndOf ⟨-1,spent,true,made,nd,reg,kept,pres,jour⟩ fk=nn:=by unfold ndOf;dsimp only;rw [hk];rfl
  refine (does_2 (P:=inD i) (Qok:=fun m σ'=>m=.none∧∃ g js,DAt σ' i (Dk.appd ⟨-1,spent,true,made,nd,reg,kept,pres,jour⟩ fk nn b) g js) (Qex:=fun _ _=>False) hS
   (fun m σ t o ⟨e1,g,js,z⟩ ht=>⟨e1,g,js,z.x ht⟩) (fun _ _ _ _ z _=>z.elim)
   (⟨226,202,_,hf,meth_ok X.w rfl,by walk_at "lg",((append_ok hD hf hk (by lia)).le (nle rfl)).mono (fun v σ' ⟨_,K,z⟩=>⟨K,rfl,g,js,z⟩) nof⟩)).mono (fun v σ' hd=>done_of hd (fun _ z=>.inl z) ?_ (fun _ z=>z.elim)) fun _ _ z=>z
  rintro m ⟨rfl,g',js',hD'⟩
  rw [act2]
  try dsimp only
  rw [if_neg (by decide),hnd]
  exact ⟨rfl,⟨⟨g',js',hD'⟩,rfl⟩,fun z=>by cases z⟩
theorem does_sync{pv:MV}(hS:Sup σ)(hD:DAt σ i D g js)(W:Wf D){nn:Nd}{nm one2 two2:Str}(hf:σ (.x f)=some (fileO i nf fk cl))(hk:D.nd fk=some nn)(hb:nn.data.size+b.size≤800)(hnf:nf.length≤500):CallJ X true 8 true (.ref 554) [pv,.ref (.x f),.int (3:Nat),.str one,.str two,.bytes b] σ (DoneP σ i f nf fk 3 nm (act 3 D fk cl one2 two2 b)) (fun _ _=>False):=by
 obtain ⟨left,spent,alive,made,nd,reg,kept,pres,jour⟩:=D
 obtain ⟨w1,w2,w3,w4,w5,w6,w7,w8,w9⟩:=W
 dsimp only at w1 w2 w3 w4 w5 w6 w7 w9
 subst w1 w2
 dsimp only at hk
 cases cl with
 | true =>
  refine (does_3 (P:=nil) (Qok:=fun _ _=>False) (Qex:=fun c σ'=>c=109∧∃ g js,DAt σ' i ⟨-1,spent,true,made,nd,reg,kept,pres,jour⟩ g js) hS (fun _ _ _ _ z _=>z.elim) (fun c σ t o ⟨e,g,js,z⟩ ht=>⟨e,g,js,z.x ht⟩)
   (⟨226,209,_,hf,meth_ok X.w rfl,by walk_at "lg",(((closed_raises hD hf hnf).2.1).le (nle rfl)).mono nof (fun c σ' e=>ex109 (Q:=fun c σ'=>c=109∧∃ g js,DAt σ' i ⟨-1,spent,true,made,nd,reg,kept,pres,jour⟩ g js) e ⟨rfl,g,js,hD⟩)⟩)).mono (fun v σ' hd=>done_of hd (fun _ z=>z.elim) (fun _ z=>z.elim) ?_) fun _ _ z=>z
  rintro c ⟨rfl,g',js',hD'⟩
  rw [act3]
  try dsimp only
  rw [if_pos rfl]
  exact ⟨rfl,⟨⟨g',js',hD'⟩,rfl⟩,fun z=>by cases z⟩
 | false =>
  have hnd:ndOf ⟨-1,spent,true,made,nd,reg,kept,pres,jour⟩ fk=nn:=by unfold ndOf;dsimp only;rw [hk];rfl
  refine (does_3 (P:=inD i) (Qok:=fun m σ'=>m=.none∧∃ g js,DAt σ' i (Dk.syncd ⟨-1,spent,true,made,nd,reg,kept,pres,jour⟩ fk nn) g js) (Qex:=fun _ _=>False) hS
   (fun m σ t o ⟨e1,g,js,z⟩ ht=>⟨e1,g,js,z.x ht⟩) (fun _ _ _ _ z _=>z.elim)
   (⟨226,209,_,hf,meth_ok X.w rfl,by walk_at "lg",((sync_ok hD hS hf hk (by lia) (by lia) w9 (by lia) (by lia)).le (nle rfl)).mono (fun v σ' ⟨_,K,g',js',z⟩=>⟨K,rfl,g',js',z⟩) nof⟩)).mono (fun v σ' hd=>done_of hd (fun _ z=>.inl z) ?_ (fun _ z=>z.elim)) fun _ _ z=>z
  rintro m ⟨rfl,g',js',hD'⟩
  rw [act3]
  try dsimp only
  rw [if_neg (by decide),hnd]
  exact ⟨rfl,⟨⟨g',js',hD'⟩,rfl⟩,fun z=>by cases z⟩
theorem does_close{pv:MV}(hS:Sup σ)(hD:DAt σ i D g js)(W:Wf D){nm one2 two2:Str}(hf:σ (.x f)=some (fileO i nf fk cl))(hnf:nf.length≤500):CallJ X true 8 true (.ref 554) [pv,.ref (.x f),.int (7:Nat),.str one,.str two,.bytes b] σ (DoneP σ i f nf fk 7 nm (act 7 D fk cl one2 two2 b)) (fun _ _=>False):=by
 obtain ⟨left,spent,alive,made,nd,reg,kept,pres,jour⟩:=D
 obtain ⟨w1,w2,w3,w4,w5,w6,w7,w8,w9⟩:=W
 dsimp only at w1 w2 w3 w4 w5 w6 w7 w9
 subst w1 w2
 cases cl with
 | true =>
  refine (does_7 (P:=nil) (Qok:=fun _ _=>False) (Qex:=fun c σ'=>c=109∧σ' (.x f)=some (fileO i nf fk true)∧∃ g js,DAt σ' i ⟨-1,spent,true,made,nd,reg,kept,pres,jour⟩ g js) hS (fun _ _ _ _ z _=>z.elim) (fun c σ t o ⟨e,e',g,js,z⟩ ht=>⟨e,upd_at (ne_fresh e' ht) e',g,js,z.x ht⟩)
   (⟨226,216,_,hf,meth_ok X.w rfl,by walk_at "lg",(((closed_raises hD hf hnf).2.2.1).le (nle rfl)).mono nof (fun c σ' e=>ex109 (Q:=fun c σ'=>c=109∧σ' (.x f)=some (fileO i nf fk true)∧∃ g js,DAt σ' i ⟨-1,spent,true,made,nd,reg,kept,pres,jour⟩ g js) e ⟨rfl,hf,g,js,hD⟩)⟩)).mono (fun v σ' hd=>done_of hd (fun _ z=>z.elim) (fun _ z=>z.elim) ?_) fun _ _ z=>z
  rintro c ⟨rfl,e',g',js',hD'⟩
  rw [act7]
  try dsimp only
  rw [if_pos rfl]
  exact ⟨rfl,⟨⟨g',js',hD'⟩,rfl⟩,fun _=>e'⟩
 | false =>
  refine (does_7 (P:=fun a=>a=.x f) (Qok:=fun m σ'=>m=.none∧σ' (.x f)=some (fileO i nf fk true)∧∃ g js,DAt σ' i ⟨-1,spent,true,made,nd,reg,kept,pres,jour⟩ g js) (Qex:=fun _ _=>False) hS
   (fun m σ t o ⟨e1,e',g,js,z⟩ ht=>⟨e1,upd_at (ne_fresh e' ht) e',g,js,z.x ht⟩) (fun _ _ _ _ z _=>z.elim)
   ((⟨226,216,_,hf,meth_ok X.w rfl,by walk_at "lg",((close_ok hD hf).le (nle rfl)).mono ?hc nof⟩:MethJ X true 7 σ (.x f) _ _ _ _))).mono (fun v σ' hd=>done_of hd (fun _ z=>.inr ⟨rfl,z⟩) ?_ (fun _ z=>z.elim)) fun _ _ z=>z
  case hc =>
   intro v σ';refine f0_2 ?_;rintro _ rfl
   exact ⟨.upd rfl,rfl,upd_self ..,g,js,hD.keep2 (P:=fun a=>a=.x f) (.upd rfl) (by intro p z;exact dif_no z rfl) (by intro k s z e;cases z;rw [hf] at e;exact mo_no e rfl)⟩
  rintro m ⟨rfl,e',g',js',hD'⟩
  rw [act7]
  try dsimp only
  rw [if_neg (by decide)]
  exact ⟨rfl,⟨⟨g',js',hD'⟩,rfl⟩,fun _=>e'⟩
end
section
variable{X:Cx}{σ:Hp}{i:Nat}{g:Gs}{js:List MA}{D:Dk}{a:MA}{qs:List Str}{f fk:Nat}{nf one two:Str}{cl:Bool}{fv:MV}{b:Array UInt8}
omit X σ i g js D a qs f fk nf one two cl fv b in
@[elab_as_elim] theorem nine_el{F:Nat→Prop}(h0:F 0)(h1:F 1)(h2:F 2)(h3:F 3)(h4:F 4)(h5:F 5)(h6:F 6)(h7:F 7)(h8:F 8){k:Nat}(h:k≤8):F k:=by
 iterate 9
  cases k with
  | zero=>assumption
  | succ k=>?_
 exact absurd h (Nat.not_le.mpr (Nat.le_add_left 9 k))
theorem does_any{kind:Nat}(hk:kind≤8)(hS:Sup σ)(h:Place σ i a qs)(hq:qs.length≤2)(hD:DAt σ i D g js)(W:Wf D)(h1:one.length≤20)(h2:two.length≤20)
  (hf:needsFile kind=true→fv=.ref (.x f)∧σ (.x f)=some (fileO i nf fk cl)∧(∃ nn,D.nd fk=some nn∧nn.data.size+b.size≤800)∧nf.length≤500) :
  CallJ X true 8 true (.ref 554) [.ref a,fv,.int (kind:Nat),.str one,.str two,.bytes b] σ (DoneP σ i f nf fk kind (pre qs one) (act kind D fk cl (pre qs one) (pre qs two) b)) (fun _ _=>False):=by
 revert hf
 refine nine_el ?_ ?_ ?_ ?_ ?_ ?_ ?_ ?_ ?_ hk <;> intro hf
 ·exact does_create (pv:=.none) hS h hq hD W h1
 ·exact does_create_over (pv:=.none) hS h hq hD W h1
 ·obtain ⟨rfl,e1,⟨nn,e2,e3⟩,e4⟩:=hf rfl;exact does_append hS hD W e1 e2 e3 e4
 ·obtain ⟨rfl,e1,⟨nn,e2,e3⟩,e4⟩:=hf rfl;exact does_sync hS hD W e1 e2 e3 e4
 ·exact does_rename (pv:=.none) hS h hq hD W h1 h2
 ·exact does_remove (pv:=.none) hS h hq hD W h1 h2
 ·exact does_append_to (pv:=.none) hS h hq hD W h1
 ·obtain ⟨rfl,e1,⟨nn,e2,e3⟩,e4⟩:=hf rfl;exact does_close hS hD W e1 e4
 ·exact does_sync_dir (pv:=.none) hS h hq hD W
end
structure LS where
 D0:Dk
 Dp:Nat→Dk
 hs:Nat→List HEnt
 un:Nat→List (Str×(Nat×Nat×Nat))
 ow:List Nat
 sf:Nat
 kp:Nat→Nat
 H:List Stp
 Hp:Nat→List Stp
 C:Nat→List (Nat×Nat)
noncomputable def fset{α:Type}(f:Nat→α)(p:Nat)(v:α):Nat→α:=fun r=>if r=p then v else f r
theorem fset_self{α:Type}(f:Nat→α)(p:Nat)(v:α):fset f p v p=v:=if_pos rfl
theorem fset_ne{α:Type}(f:Nat→α){p r:Nat}(v:α)(h:r≠p):fset f p v r=f r:=if_neg h
structure Nm where
 ns:List Int
 i0:Nat
 ip:Nat→Nat
 sx:Nat→Nat
 pa:Nat→MA
 pq:Nat→Str
 qs:Nat→List Str
noncomputable def Nm.Q(N:Nm)(p:Nat):List Str:=N.qs p++[N.pq p]
noncomputable abbrev unM(u:List (Str×(Nat×Nat×Nat))):List (Str×MV):=u.map fun e=>(e.1,MV.ref (.x e.2.1))
structure NAt(σ:Hp)(N:Nm):Prop where
 ne0:∀ p<2,N.i0≠N.ip p
 ne:N.ip 0≠N.ip 1
 sub:∀ p<2,σ (.x (N.sx p))=some (subO (N.pa p) (N.pq p))∧Place σ N.i0 (N.pa p) (N.qs p)
 len:∀ p<2,(N.qs p).length≤1∧(N.pq p).length≤10
 nums:σ (.l 0)=some (.list (N.ns.map .int))
 owns:σ (.l 1)=some (.list [.ref (.d (N.ip 0) .disk),.ref (.d (N.ip 1) .disk)])
 subs:σ (.l 2)=some (.list [.ref (.x (N.sx 0)),.ref (.x (N.sx 1))])
 files:σ (.l 3)=some (.list [.ref (.l 4),.ref (.l 5)])
 under:σ (.l 6)=some (.list [.ref (.l 7),.ref (.l 8)])
structure SAt(σ:Hp)(N:Nm)(S:LS):Prop where
 sup:Sup σ
 n:NAt σ N
 d0:∃ g js,DAt σ N.i0 S.D0 g js
 dp:∀ p<2,∃ g js,DAt σ (N.ip p) (S.Dp p) g js
 f:∀ p<2,σ (.l (4+p))=some (.list ((S.hs p).map fun h=>.ref (.x h.e)))
 fh:∀ p<2,∀ h∈S.hs p,HAt σ N.i0 (N.ip p) h
 u:∀ p<2,σ (.l (7+p))=some (.dictS (unM (S.un p)))
 uh:∀ p<2,∀ e∈S.un p,σ (.x e.2.1)=some (.list [.int e.2.2.1,.int e.2.2.2])
 ow:σ (.l 9)=some (.list (S.ow.map fun (o:Nat)=>.int o))
 kp:σ (.l 10)=some (.list [.int (S.kp 0),.int (S.kp 1)])
 nd0:((S.hs 0).map (·.f0)++(S.hs 1).map (·.f0)).Nodup
 ndp:∀ p<2,((S.hs p).map (·.fp)).Nodup
theorem NAt.keep{P:MA→Prop}{σ σ':Hp}{N:Nm}(h:NAt σ N)(k:Kp P σ σ')(hx:∀ m a q,P (.x m)→σ (.x m)≠some (subO a q))(hl:∀ l,l=0∨l=1∨l=2∨l=3∨l=6→¬ P (.l l)):NAt σ' N where
 ne0:=h.ne0
 ne:=h.ne
 sub p hp:=by
  refine ⟨k.at (h.sub p hp).1 (fun z=>hx _ _ _ z (h.sub p hp).1),?_⟩
  have go:∀ {a qs},Place σ N.i0 a qs→Place σ' N.i0 a qs:=by
   intro a qs hP
   induction hP with
   | disk=>exact .disk
   | sub h e hq ih=>exact .sub ih (k.at e (fun z=>hx _ _ _ z e)) hq
  exact go (h.sub p hp).2
 len:=h.len
 nums:=k.at h.nums (hl 0 (.inl rfl))
 owns:=k.at h.owns (hl 1 (.inr (.inl rfl)))
 subs:=k.at h.subs (hl 2 (.inr (.inr (.inl rfl))))
 files:=k.at h.files (hl 3 (.inr (.inr (.inr (.inl rfl)))))
 under:=k.at h.under (hl 6 (.inr (.inr (.inr (.inr rfl)))))
theorem SAt.keep{P:MA→Prop}{σ σ':Hp}{N:Nm}{S:LS}(h:SAt σ N S)(k:Kp P σ σ')(hp:∀ a,¬ P a):SAt σ' N S where
 sup:=k.sup h.sup
 n:=h.n.keep k (fun m a q z=>absurd z (hp _)) fun l _=>hp _
 d0:=let ⟨g,js,z⟩:=h.d0;⟨g,js,z.keep k (fun _=>hp _) fun _=>hp _⟩
 dp p hp':=let ⟨g,js,z⟩:=h.dp p hp';⟨g,js,z.keep k (fun _=>hp _) fun _=>hp _⟩
 f p hp':=k.at (h.f p hp') (hp _)
 fh p hp' x hx:=(h.fh p hp' x hx).keep k fun _=>hp _
 u p hp':=k.at (h.u p hp') (hp _)
 uh p hp' e he:=k.at (h.uh p hp' e he) (hp _)
 ow:=k.at h.ow (hp _)
 kp:=k.at h.kp (hp _)
 nd0:=h.nd0
 ndp:=h.ndp
theorem two_ind{F:Nat→Prop}(h0:F 0)(h1:F 1){p:Nat}(h:p<2):F p:=by
 cases p with
 | zero=>exact h0
 | succ n=>cases n with
  | zero=>exact h1
  | succ n=>exact absurd h (Nat.not_lt.mpr (Nat.le_add_left 2 n))
theorem ip_inj{f:Nat→Nat}(hn:f 0≠f 1){r p:Nat}(hr:r<2)(hp:p<2)(e:f r=f p):r=p :=
 two_ind (F:=fun r=>f r=f p→r=p) (two_ind (F:=fun p=>f 0=f p→0=p) (fun _=>rfl) (fun e=>absurd e hn) hp) (two_ind (F:=fun p=>f 1=f p→1=p) (fun e=>absurd e.symm hn) (fun _=>rfl) hp) hr e
theorem own_eq{α:Type}{L:Nat→List α}{x:α}(nd:(L 0++L 1).Nodup){r p:Nat}(hr:r<2)(hp:p<2)(a:x∈L r)(b:x∈L p):r=p :=
 two_ind (F:=fun r=>x∈L r→r=p) (fun a=>two_ind (F:=fun p=>x∈L p→0=p) (fun _=>rfl) (fun b=>absurd rfl ((List.nodup_append.mp nd).2.2 _ a _ b)) hp b) (fun a=>two_ind (F:=fun p=>x∈L p→1=p) (fun b=>absurd rfl ((List.nodup_append.mp nd).2.2 _ b _ a)) (fun _=>rfl) hp b) hr a
theorem nodup_two{α:Type}{L:Nat→List α}(nd:(L 0++L 1).Nodup):∀ p,p<2→(L p).Nodup
 | 0,_=>(List.nodup_append.mp nd).1
 | 1,_=>(List.nodup_append.mp nd).2.1
theorem ExS.assignC{X:Cx}{G:Gm}{σ:Hp}{ρ:Loc}{E:Addr→Hp→Loc→Prop}{R:MF→Hp→Loc→Prop}{x:String}{value:Expr}{np pos:Pos}(hx:StOk G.S x=true)(h:EvE X G value σ ρ (fun v σ₁ ρ₁=>R .next σ₁ (lset x v ρ₁)) E)(hc:∀ env,swapsWith value (some (.Name (Str.ofString x) np)) pos.line env=pure false∨(noComp value=true)) :
  ExS X G (.Assign [.Name (Str.ofString x) np] value pos) σ ρ R E:=fun A env frs μ it fr s he ha hs=>by
 refine n_assign (n_mono (h A env frs μ it fr s he ha hs) ?_ fun _ _ x=>x) (by rcases hc env with z | z;exact z;exact swaps_plain z)
 rintro V s₁ ⟨μ₁,v,σ₁,ρ₁,e₁,r₁,hs₁,hq⟩
 exact n_up <| store_any he hs₁ hx r₁ fun s' hs'=>⟨μ₁,.next,σ₁,_,e₁,rfl,hs',hq⟩
theorem ExS.assignK{X:Cx}{G:Gm}{σ:Hp}{ρ:Loc}{E:Addr→Hp→Loc→Prop}{R:MF→Hp→Loc→Prop}{x:String}{value:Expr}{np pos:Pos}(hx:StOk G.S x=true)(h:EvE X G value σ ρ (fun v σ₁ ρ₁=>R .next σ₁ (lset x v ρ₁)) E)(hc:noComp value=true) :
  ExS X G (.Assign [.Name (Str.ofString x) np] value pos) σ ρ R E:=ExS.assignC hx h fun _=>.inr hc
noncomputable def cnt(p:Nat)(l:List Nat):Nat:=(l.filter fun q=>q==p).length
noncomputable def uset(n:Str)(v:Nat×Nat×Nat)(u:List (Str×(Nat×Nat×Nat))):List (Str×(Nat×Nat×Nat)):=if u.any (fun e=>e.1=n) then u.map (fun e=>if e.1=n then (e.1,v) else e) else u++[(n,v)]
noncomputable def uget(n:Str)(u:List (Str×(Nat×Nat×Nat))):Option (Nat×Nat×Nat):=(u.find? fun e=>e.1=n).map (·.2)
theorem getK_unM{n:Str}{u:List (Str×(Nat×Nat×Nat))}:getK n (unM u)=(uget n u).map fun v=>MV.ref (.x v.1):=by
 unfold getK uget unM
 rw [List.find?_map]
 show Option.map _ (Option.map _ (u.find? fun e=>decide (e.1=n)))=_
 cases u.find? _ <;> rfl
theorem setK_unM{n:Str}{v:Nat×Nat×Nat}{u:List (Str×(Nat×Nat×Nat))}:setK n (.ref (.x v.1)) (unM u)=unM (uset n v u):=by
 unfold setK uset unM
 rw [List.any_map]
 show (if u.any (fun e=>e.1=n)=true then _ else _)=_
 split
 ·rw [List.map_map,List.map_map]
  refine List.map_congr_left fun p _=>?_
  show (if p.1=n then _ else _)=_
  by_cases h:p.1=n
  ·simp [h]
  ·simp [h]
 ·simp
theorem unM_length(u:List (Str×(Nat×Nat×Nat))):(unM u).length=u.length:=by unfold unM;simp
theorem uget_mem{n:Str}{u:List (Str×(Nat×Nat×Nat))}{v:Nat×Nat×Nat}(h:uget n u=some v):(n,v)∈u:=by
 unfold uget at h
 refine c1_2 (Option.map_eq_some_iff.mp h) ?_;rintro e he rfl
 have h1:=List.find?_some he
 have h2:=List.mem_of_find?_eq_some he
 simp at h1
 subst h1
 exact h2
set_option tactic.hygienic true in
theorem uset_mem{n:Str}{u:List (Str×(Nat×Nat×Nat))}{v:Nat×Nat×Nat}{e}(h:e∈uset n v u):e=(n,v)∨e∈u:=by
 unfold uset at h
 split at h
 ·refine c1_2 (List.mem_map.mp h) ?_;rintro e' he rfl
  split
  ·rename_i q;left;rw [q]
  ·exact .inr he
 ·rcases List.mem_append.mp h with z | z
  ·exact .inr z
  ·rw [List.mem_singleton] at z;exact .inl z
structure Good(N:Nm)(S:LS):Prop where
 w0:Wf S.D0
 wp:∀ p<2,Wf (S.Dp p)
 hd:∀ p<2,∀ h∈S.hs p,∃ nn,S.D0.nd h.k0=some nn∧(S.Dp p).nd h.kp=some nn∧nn.data.size≤100
 hl:∀ p<2,(S.hs p).length≤20
 ol:S.ow.length≤20
 dir:∀ p<2,∀ n,n=sX∨n=sY→(dget (pre (N.Q p) n) S.D0.pres).isSome=(dget n (S.Dp p).pres).isSome
 un:∀ p<2,∀ n,n=sX∨n=sY→(dget n (S.Dp p).pres).isSome=true→(uget n (S.un p)).isSome=true
 ul:∀ p<2,(S.un p).length≤20
noncomputable def LS.acted(S:LS)(p:Nat)(D0 Dp:Dk):LS:={ S with D0:=D0,Dp:=fset S.Dp p Dp }
theorem SAt.acted{σ σ':Hp}{N:Nm}{S:LS}{p:Nat}{D0 Dp:Dk}(h:SAt σ N S)(hp:p<2)(k:Kp (fun a=>inD N.i0 a∨inD (N.ip p) a) σ σ')(h0:∃ g js,DAt σ' N.i0 D0 g js)(h1:∃ g js,DAt σ' (N.ip p) Dp g js):SAt σ' N (S.acted p D0 Dp) where
 sup:=k.sup h.sup
 n:=h.n.keep k (by rintro m a q (⟨p',z⟩ | ⟨p',z⟩) <;> exact dif_no z rfl) (by rintro l _ (⟨p',z⟩ | ⟨p',z⟩) <;> exact dif_no z rfl)
 d0:=h0
 dp r hr:=by
  by_cases e:r=p
  ·have e:=e.symm;subst e;show ∃ g js,DAt σ' (N.ip p) (fset S.Dp p Dp p) g js;rw [fset_self];exact h1
  ·refine c2_1 (h.dp r hr) fun g js z=>?_
   show ∃ g js,DAt σ' (N.ip r) (fset S.Dp p Dp r) g js
   rw [fset_ne _ _ e]
   have hne:N.ip r≠N.ip p:=fun w=>e (ip_inj h.n.ne hr hp w)
   refine ⟨g,js,z.keep k ?_ ?_⟩
   ·rintro q (⟨p',w⟩ | ⟨p',w⟩)
    ·injection w with w1 w2;exact h.n.ne0 r hr w1.symm
    ·injection w with w1 w2;exact hne w1
   ·rintro q (⟨p',w⟩ | ⟨p',w⟩) <;> exact dif_no w rfl
 f r hr:=k.at (h.f r hr) (by rintro (⟨p',z⟩ | ⟨p',z⟩) <;> exact dif_no z rfl)
 fh r hr x hx:=(h.fh r hr x hx).keep k (by rintro m (⟨p',z⟩ | ⟨p',z⟩) <;> exact dif_no z rfl)
 u r hr:=k.at (h.u r hr) (by rintro (⟨p',z⟩ | ⟨p',z⟩) <;> exact dif_no z rfl)
 uh r hr e he:=k.at (h.uh r hr e he) (by rintro (⟨p',z⟩ | ⟨p',z⟩) <;> exact dif_no z rfl)
 ow:=k.at h.ow (by rintro (⟨p',z⟩ | ⟨p',z⟩) <;> exact dif_no z rfl)
 kp:=k.at h.kp (by rintro (⟨p',z⟩ | ⟨p',z⟩) <;> exact dif_no z rfl)
 nd0:=h.nd0
 ndp:=h.ndp
noncomputable def closeH(f:Nat)(l:List HEnt):List HEnt:=l.map fun h=>if h.f0=f then { h with cl:=true } else h
theorem closeH_e(f:Nat)(l:List HEnt):(closeH f l).map (·.e)=l.map (·.e):=by unfold closeH;rw [List.map_map];refine List.map_congr_left fun h _=>?_;show (if h.f0=f then _ else _:HEnt).e=_;split <;> rfl
theorem closeH_f0(f:Nat)(l:List HEnt):(closeH f l).map (·.f0)=l.map (·.f0):=by unfold closeH;rw [List.map_map];refine List.map_congr_left fun h _=>?_;show (if h.f0=f then _ else _:HEnt).f0=_;split <;> rfl
theorem closeH_fp(f:Nat)(l:List HEnt):(closeH f l).map (·.fp)=l.map (·.fp):=by unfold closeH;rw [List.map_map];refine List.map_congr_left fun h _=>?_;show (if h.f0=f then _ else _:HEnt).fp=_;split <;> rfl
theorem nodup_map_inj{α β:Type}{f:α→β}{l:List α}(hn:(l.map f).Nodup){a b:α}(ha:a∈l)(hb:b∈l)(e:f a=f b):a=b:=by
 induction l with
 | nil=>cases ha
 | cons x l ih =>
  rw [List.map_cons,List.nodup_cons] at hn
  rcases List.mem_cons.mp ha with h1 | h1 <;> rcases List.mem_cons.mp hb with h2 | h2
  ·rw [h1,h2]
  ·exact absurd (List.mem_map.mpr ⟨b,h2,by rw [← e,h1]⟩) hn.1
  ·exact absurd (List.mem_map.mpr ⟨a,h1,by rw [e,h2]⟩) hn.1
  ·exact ih hn.2 h1 h2
theorem HEnt.closed{y:HEnt}(h:y.cl=true):{ y with cl:=true }=y:=by
 cases y
 cases h
 rfl
theorem SAt.closed{σ σ':Hp}{N:Nm}{S:LS}{p:Nat}{D0 Dp:Dk}{h₀:HEnt}(h:SAt σ N S)(hp:p<2)(hh:h₀∈S.hs p)(k:Kp (fun a=>(inD N.i0 a∨inD (N.ip p) a)∨(a=.x h₀.f0∨a=.x h₀.fp)) σ σ')
  (h0:∃ g js,DAt σ' N.i0 D0 g js) (h1:∃ g js,DAt σ' (N.ip p) Dp g js) (c0:σ' (.x h₀.f0)=some (fileO N.i0 h₀.n0 h₀.k0 true)) (cp:σ' (.x h₀.fp)=some (fileO (N.ip p) h₀.np h₀.kp true)) :
  SAt σ' N { (S.acted p D0 Dp) with hs:=fset S.hs p (closeH h₀.f0 (S.hs p)) }:=by
 have hf:=h.fh p hp h₀ hh
 have kx:∀ m o,σ (.x m)=some o→(∀ i n k c,o≠fileO i n k c)→σ' (.x m)=some o:=fun m o e hn=>k.at e (by
  rintro ((⟨p',z⟩ | ⟨p',z⟩) | (z | z))
  ·exact dif_no z rfl
  ·exact dif_no z rfl
  ·cases z;rw [hf.f0] at e;cases e;exact hn _ _ _ _ rfl
  ·cases z;rw [hf.fp] at e;cases e;exact hn _ _ _ _ rfl)
 have kl:∀ l o,σ (.l l)=some o→σ' (.l l)=some o:=fun l o e=>k.at e (by rintro ((⟨p',z⟩ | ⟨p',z⟩) | (z | z)) <;> exact dif_no z rfl)
 have hdist:∀ r<2,∀ x∈S.hs r,x.f0=h₀.f0→r=p∧x=h₀:=fun r hr x hx e=>by
  have nd:=h.nd0
  have hrp:r=p:=own_eq (L:=fun q=>(S.hs q).map (·.f0)) nd hr hp (List.mem_map_of_mem hx) (e▸List.mem_map_of_mem (f:=(·.f0)) hh)
  exact ⟨hrp,nodup_map_inj (nodup_two (L:=fun q=>(S.hs q).map (·.f0)) nd p hp) (by rw [← hrp];exact hx) hh e⟩
 have keepF:∀ r<2,∀ x∈S.hs r,x.f0≠h₀.f0→HAt σ' N.i0 (N.ip r) x:=fun r hr x hx hne=>by
  have hxa:=h.fh r hr x hx
  have hipr:∀ q<2,N.i0≠N.ip q:=h.n.ne0
  refine ⟨kx _ _ hxa.ent (fun _ _ _ _ z=>by cases z),k.at hxa.f0 ?_,k.at hxa.fp ?_,hxa.n0,hxa.np⟩
  ·rintro ((⟨p',z⟩ | ⟨p',z⟩) | (z | z))
   ·exact dif_no z rfl
   ·exact dif_no z rfl
   ·injection z with z;exact hne z
   ·have:=hxa.f0
    rw [z,hf.fp] at this
    exact hipr p hp (fileO_inj this).1.symm
  ·rintro ((⟨p',z⟩ | ⟨p',z⟩) | (z | z))
   ·exact dif_no z rfl
   ·exact dif_no z rfl
   ·have:=hxa.fp
    rw [z,hf.f0] at this
    exact hipr r hr (fileO_inj this).1
   ·have:=hxa.fp
    rw [z,hf.fp] at this
    have this:=fileO_inj this
    have hrp:r=p:=ip_inj h.n.ne hr hp this.1.symm
    exact hne (by rw [nodup_map_inj (h.ndp p hp) (by rw [← hrp];exact hx) hh (x_inj z)])
 refine ⟨k.sup h.sup,?_,h0,?_,?_,?_,?_,?_,kl _ _ h.ow,kl _ _ h.kp,?_,?_⟩
 ·exact h.n.keep k (by
   rintro m a q ((⟨p',z⟩ | ⟨p',z⟩) | (z | z)) e
   ·exact dif_no z rfl
   ·exact dif_no z rfl
   ·cases z;rw [hf.f0] at e;exact mo_no e rfl
   ·cases z;rw [hf.fp] at e;exact mo_no e rfl) (by rintro l _ ((⟨p',z⟩ | ⟨p',z⟩) | (z | z)) <;> exact dif_no z rfl)
 ·intro r hr
  by_cases e:r=p
  ·rw [e];show ∃ g js,DAt σ' (N.ip p) (fset S.Dp p Dp p) g js;rw [fset_self];exact h1
  ·refine c2_1 (h.dp r hr) fun g js z=>?_
   show ∃ g js,DAt σ' (N.ip r) (fset S.Dp p Dp r) g js
   rw [fset_ne _ _ e]
   have hne:N.ip r≠N.ip p:=fun w=>e (ip_inj h.n.ne hr hp w)
   refine ⟨g,js,z.keep2 k ?_ ?_⟩
   ·rintro q ((⟨p',w⟩ | ⟨p',w⟩) | (w | w))
    ·injection w with w1 w2;exact h.n.ne0 r hr w1.symm
    ·injection w with w1 w2;exact hne w1
    ·exact dif_no w rfl
    ·exact dif_no w rfl
   ·rintro q s ((⟨p',w⟩ | ⟨p',w⟩) | (w | w)) es
    ·exact dif_no w rfl
    ·exact dif_no w rfl
    ·cases w;rw [hf.f0] at es;exact mo_no es rfl
    ·cases w;rw [hf.fp] at es;exact mo_no es rfl
 ·intro r hr
  have:=kl _ _ (h.f r hr)
  show σ' (.l (4+r))=some (.list ((fset S.hs p (closeH h₀.f0 (S.hs p)) r).map fun h=>MV.ref (.x h.e)))
  rw [this]
  by_cases e:r=p
  ·rw [e,fset_self]
   have e2:∀ l:List HEnt,(l.map fun h=>MV.ref (.x h.e))=(l.map (·.e)).map fun k=>MV.ref (.x k):=fun l=>by rw [List.map_map];rfl
   rw [e2,e2,closeH_e]
  ·rw [fset_ne _ _ e]
 ·intro r hr x hx
  have hx':x∈fset S.hs p (closeH h₀.f0 (S.hs p)) r:=hx
  by_cases e:r=p
  ·rw [e,fset_self] at hx'
   unfold closeH at hx'
   refine c1_2 (List.mem_map.mp hx') fun y hy ex=>?_
   rw [e,← ex]
   by_cases hyf:y.f0=h₀.f0
   ·rw [if_pos hyf,(hdist p hp y hy hyf).2]
    exact ⟨kx _ _ hf.ent (fun _ _ _ _ z=>by cases z),c0,cp,hf.n0,hf.np⟩
   ·rw [if_neg hyf];exact keepF p hp y hy hyf
  ·rw [fset_ne _ _ e] at hx'
   exact keepF r hr x hx' fun z=>e (hdist r hr x hx' z).1
 ·intro r hr;exact kl _ _ (h.u r hr)
 ·intro r hr e he;exact kx _ _ (h.uh r hr e he) (fun _ _ _ _ z=>by cases z)
 ·have e0:∀ r,((fset S.hs p (closeH h₀.f0 (S.hs p)) r).map (·.f0))=(S.hs r).map (·.f0):=fun r=>by
   by_cases e:r=p
   ·rw [e,fset_self,closeH_f0]
   ·rw [fset_ne _ _ e]
  show ((fset S.hs p (closeH h₀.f0 (S.hs p)) 0).map (·.f0)++(fset S.hs p (closeH h₀.f0 (S.hs p)) 1).map (·.f0)).Nodup
  rw [e0,e0];exact h.nd0
 ·intro r hr
  show ((fset S.hs p (closeH h₀.f0 (S.hs p)) r).map (·.fp)).Nodup
  by_cases e:r=p
  ·rw [e,fset_self,closeH_fp];exact h.ndp p hp
  ·rw [fset_ne _ _ e];exact h.ndp r hr
noncomputable def lcSc(scope:Scope)(x:String)(fv gl:List String):Sc:={ scope:=relab scope S_law.scope,locs:=[x],cels:=fv,frees:=[],glbs:=gl,plain:=false }
section
variable{X:Cx}{σ:Hp}{ρ:Loc}{Q:MV→Hp→Loc→Prop}{E:Addr→Hp→Loc→Prop}{R:MF→Hp→Loc→Prop}
set_option tactic.hygienic true in
theorem count_comp{n:Nat}{c:Bool}{scope:Scope}{iter:Expr}{q1 q2 q3 q4 q5 pos:Pos}{p:Nat}(CS:CompSide S_law (lcSc scope "q" ["p"] []) scope "q" ["p"])
  (h:EvE X ⟨n,true,S_law,c⟩ iter σ ρ (fun ov σ₁ ρ₁=>∃ a b,∃ l:List Nat,ov=.ref a∧σ₁ a=some (.list (l.map fun (o:Nat)=>.int o))∧l.length≤1000∧lget "p" ρ₁=some (.int (p:Nat))∧σ₁ b=none∧Q (.ref b) (upd σ₁ b (.list ((l.filter fun q=>q==p).map fun (o:Nat)=>.int o))) ρ₁) E)
  (hs:∀ env x,foldedSetIterable iter env x=pure x) :
  EvE X ⟨n,true,S_law,c⟩ (.ListComp (.Name (Str.ofString "q") q1) [⟨.Name (Str.ofString "q") q2,iter,[.Compare (.Name (Str.ofString "q") q3) [.Eq] [.Name (Str.ofString "p") q4] q5],0⟩] scope pos) σ ρ Q E:=by
 refine EvE.comp rfl CS (h.mono ?_) hs
 intro v σ₁ ρ₁;refine f3_6 ?_;rintro a b l rfl ha hl hp hb hq
 refine ⟨.list a,l.map fun (o:Nat)=>MV.int o,[("p",.int p)],fun t ys σ'=>σ'=σ₁∧ys=((l.take t).filter fun q=>q==p).map fun (o:Nat)=>MV.int o,rfl,⟨?_,⟨rfl,rfl⟩,?_,?_⟩,?_⟩
 ·intro y v hy
  unfold lget at hy
  split at hy
  ·rename_i e;subst e;cases hy;exact ⟨by simp,hp⟩
  ·exact nos hy
 ·intro t ys σ';refine f0_2 ?_;rintro rfl rfl
  refine ⟨ha,?_⟩
  rw [List.length_map]
  exact Nat.le_trans (List.length_filter_le ..) (by rw [List.length_take];lia)
 ·intro t ys σ' v;refine f0_2 ?_;rintro rfl rfl;rintro hv
  rw [List.getElem?_map] at hv
  refine c1_2 (Option.map_eq_some_iff.mp hv) ?_;rintro o ho rfl
  have etk:l.take (t+1)=l.take t++[o]:=by rw [List.take_add_one,ho];rfl
  refine EvIfs.one (EvT.cmp ?_ rfl)
  refine EvE.name (by exact Eq.refl true) lget_set_hit ?_
  refine EvE.cell (by exact Eq.refl true) (lget_set_miss (by decide +kernel) lget_hit) ?_ (by decide +kernel)
  refine And.intro (fun hb=>?_) (fun hb=>?_)
  ·have hop:o=p:=by simp at hb;lia
   refine EvE.name (by exact Eq.refl true) lget_set_hit ?_
   refine ⟨rfl,?_⟩
   rw [etk,List.filter_append,List.map_append]
   simp [hop]
  ·have hop:¬ o=p:=by simp at hb;lia
   refine ⟨rfl,?_⟩
   rw [etk,List.filter_append,List.map_append]
   simp [hop]
 ·intro ys σ';refine f0_2 ?_;rintro rfl rfl
  refine ⟨b,hb,?_⟩
  rw [List.length_map,List.take_length]
  exact hq
end
noncomputable def forBody:Stmt→List Stmt
 | .For _ _ b _ _=>b
 | _=>[]
noncomputable def lawAt(k:Nat):Stmt:=((fdBody (atTop 26))[k]?).getD (.Pass default)
noncomputable def lawFor:List Stmt:=forBody (lawAt 13)
noncomputable abbrev LG:Gm:=⟨10,true,S_law,true⟩
structure RAt(ρ:Loc)(N:Nm)(sf:Nat):Prop where
 nums:lget "nums" ρ=some (.ref (.l 0))
 disk:lget "disk" ρ=some (.ref (.d N.i0 .disk))
 owns:lget "owns" ρ=some (.ref (.l 1))
 subs:lget "subs" ρ=some (.ref (.l 2))
 files:lget "files" ρ=some (.ref (.l 3))
 under:lget "under" ρ=some (.ref (.l 6))
 owners:lget "owners" ρ=some (.ref (.l 9))
 kept:lget "kept" ρ=some (.ref (.l 10))
 safe:lget "safe" ρ=some (.int (sf:Nat))
noncomputable def rNames:List String:=["nums","disk","owns","subs","files","under","owners","kept","safe"]
theorem RAt.set{ρ:Loc}{N:Nm}{sf:Nat}{x:String}{v:MV}(h:RAt ρ N sf)(hx:x∉rNames):RAt (lset x v ρ) N sf:=by
 have ne:∀ y,rNames.contains y=true→(y==x)=false:=fun y hy=>beq_eq_false_iff_ne.mpr fun e=>hx (e▸List.contains_iff_mem.mp hy)
 exact ⟨lget_set_miss (ne _ (by exact Eq.refl true)) h.nums,lget_set_miss (ne _ (by exact Eq.refl true)) h.disk,lget_set_miss (ne _ (by exact Eq.refl true)) h.owns,lget_set_miss (ne _ (by exact Eq.refl true)) h.subs,lget_set_miss (ne _ (by exact Eq.refl true)) h.files,
  lget_set_miss (ne _ (by exact Eq.refl true)) h.under,lget_set_miss (ne _ (by exact Eq.refl true)) h.owners,lget_set_miss (ne _ (by exact Eq.refl true)) h.kept,lget_set_miss (ne _ (by exact Eq.refl true)) h.safe⟩
theorem RAt.setSafe{ρ:Loc}{N:Nm}{sf sf':Nat}(h:RAt ρ N sf):RAt (lset "safe" (.int (sf':Nat)) ρ) N sf' :=
 ⟨lget_set_miss (Eq.refl false) h.nums,lget_set_miss (Eq.refl false) h.disk,lget_set_miss (Eq.refl false) h.owns,lget_set_miss (Eq.refl false) h.subs,lget_set_miss (Eq.refl false) h.files,
  lget_set_miss (Eq.refl false) h.under,lget_set_miss (Eq.refl false) h.owners,lget_set_miss (Eq.refl false) h.kept,lget_set_hit⟩
theorem SAt.ghost{σ:Hp}{N:Nm}{S S':LS}(h:SAt σ N S)(e0:S'.D0=S.D0)(e1:S'.Dp=S.Dp)(e2:S'.hs=S.hs)(e3:S'.un=S.un)(e4:S'.ow=S.ow)(e5:S'.kp=S.kp):SAt σ N S' :=
 ⟨h.sup,h.n,by rw [e0];exact h.d0,by rw [e1];exact h.dp,by rw [e2];exact h.f,by rw [e2];exact h.fh,by rw [e3];exact h.u,by rw [e3];exact h.uh,by rw [e4];exact h.ow,by rw [e5];exact h.kp,by rw [e2];exact h.nd0,by rw [e2];exact h.ndp⟩
noncomputable def ofL(l:List Nat)(a:MA):Prop:=∃ k∈l,a=.l k
theorem SAt.lists{l:List Nat}{σ σ':Hp}{N:Nm}{S S':LS}(h:SAt σ N S)(k:Kp (ofL l) σ σ')(hl:∀ x∈l,x=4∨x=5∨x=7∨x=8∨x=9∨x=10)(e0:S'.D0=S.D0)(e1:S'.Dp=S.Dp)
  (f:∀ p<2,σ' (.l (4+p))=some (.list ((S'.hs p).map fun h=>.ref (.x h.e)))) (fh:∀ p<2,∀ h∈S'.hs p,HAt σ' N.i0 (N.ip p) h) (u:∀ p<2,σ' (.l (7+p))=some (.dictS (unM (S'.un p))))
  (uh:∀ p<2,∀ e∈S'.un p,σ' (.x e.2.1)=some (.list [.int e.2.2.1,.int e.2.2.2])) (ow:σ' (.l 9)=some (.list (S'.ow.map fun (o:Nat)=>.int o))) (kp:σ' (.l 10)=some (.list [.int (S'.kp 0),.int (S'.kp 1)]))
  (nd0:((S'.hs 0).map (·.f0)++(S'.hs 1).map (·.f0)).Nodup) (ndp:∀ p<2,((S'.hs p).map (·.fp)).Nodup):SAt σ' N S' where
 sup:=k.sup h.sup
 n:=h.n.keep k (by intro m a q;refine f1_2 fun x _ z=>?_;exact dif_no z rfl) (by intro x hx;refine f1_2 fun y hy z=>?_;cases z;have:=hl _ hy;lia)
 d0:=by rw [e0];refine c2_1 h.d0 fun g js z=>?_;exact ⟨g,js,z.keep k (by intro q;refine f1_2 fun x _ w=>?_;exact dif_no w rfl) (by intro q;refine f1_2 fun x _ w=>?_;exact dif_no w rfl)⟩
 dp p hp:=by rw [e1];refine c2_1 (h.dp p hp) fun g js z=>?_;exact ⟨g,js,z.keep k (by intro q;refine f1_2 fun x _ w=>?_;exact dif_no w rfl) (by intro q;refine f1_2 fun x _ w=>?_;exact dif_no w rfl)⟩
 f:=f
 fh:=fh
 u:=u
 uh:=uh
 ow:=ow
 kp:=kp
 nd0:=nd0
 ndp:=ndp
theorem ofL_x{l:List Nat}{k:Nat}:¬ ofL l (.x k):=by refine f1_2 fun x _ z=>?_;exact dif_no z rfl
theorem ofL_l{l:List Nat}{k:Nat}(h:k∉l):¬ ofL l (.l k):=by refine f1_2 fun x hx z=>?_;cases z;exact h hx
section
variable{X:Cx}{σ:Hp}{ρ:Loc}{N:Nm}{S:LS}{p kind:Nat}{one two:Str}{made other:MV}{c:Int}{pr:MA}
structure BAt(ρ:Loc)(N:Nm)(sf p kind:Nat)(one two:Str)(made other:MV)(c:Int)(pr:MA):Prop where
 r:RAt ρ N sf
 p:lget "p" ρ=some (.int (p:Nat))
 kind:lget "kind" ρ=some (.int (kind:Nat))
 one:lget "one" ρ=some (.str one)
 two:lget "two" ρ=some (.str two)
 made:lget "made" ρ=some made
 other:lget "other" ρ=some other
 code:lget "code" ρ=some (.int c)
 pair:lget "pair" ρ=some (.ref pr)
theorem mine_step{R:MF→Hp→Loc→Prop}{st:Stmt}{rest:List Stmt}(hst:st=lawFor[14]?.getD (.Pass default))(h:SAt σ N S)(hol:S.ow.length≤20)(B:BAt ρ N S.sf p kind one two made other c pr)
  (hR:∀ σ',Kp nil σ σ'→ExSs X LG rest σ' (lset "mine" (.int (cnt p S.ow)) ρ) R (fun _ _ _=>False)):ExSs X LG (st::rest) σ ρ R (fun _ _ _=>False):=by
 subst hst
 obtain ⟨⟨r1,r2,r3,r4,r5,r6,r7,r8,r9⟩,b1,b2,b3,b4,b5,b6,b7,b8⟩:=B
 refine c1_1 h.sup.x fun m hm=>?_
 refine ExSs.consK ?_;intro _ _
 refine ExS.assignK (by walk_at "mem") ?_ rfl
 walk_at "r"
 refine count_comp (p:=p) ⟨rfl,⟨by kernel_rfl,by decide +kernel,by decide +kernel,by decide +kernel,by decide +kernel,by decide +kernel⟩,rfl,rfl,by decide +kernel,by decide +kernel,by decide +kernel,rfl,rfl,by decide +kernel,rfl,by decide +kernel,by decide +kernel,by decide +kernel⟩ ?_ (by intro _ _;rfl)
 walk_at "r"
 refine ⟨.l 9,.x m,S.ow,rfl,h.ow,by lia,b1,hm,?_⟩
 walk_at "r"
 have hle:(S.ow.filter fun q=>q==p).length≤S.ow.length:=List.length_filter_le ..
 refine B.len_list (upd_self ..) (by rw [List.length_map];lia) ?_
 rw [List.length_map]
 walk_at "go"
 exact hR _ (.new (free_x hm))
end
theorem idx2{f:Nat→MV}{p:Nat}(hp:p<2):([f 0,f 1]:List MV)[((p:Nat):Int).toNat]?=some (f p):=by
 rw [Int.toNat_natCast]
 exact two_ind (F:=fun p=>[f 0,f 1][p]?=some (f p)) rfl rfl hp
theorem set2{f:Nat→Nat}{v:Nat}{p:Nat}(hp:p<2):some (MO.list (([.int (f 0),.int (f 1)]:List MV).set p (.int v)))=some (.list [.int ((fset f p v 0:Nat):Int),.int ((fset f p v 1:Nat):Int)]):=two_ind (F:=fun p=>some (MO.list (([.int (f 0),.int (f 1)]:List MV).set p (.int v)))=some (.list [.int ((fset f p v 0:Nat):Int),.int ((fset f p v 1:Nat):Int)])) rfl rfl hp
noncomputable def LS.booked(S:LS)(p:Nat)(one:Str)(u:Nat)(en:HEnt):LS :=
 { S with ow:=S.ow++[p],un:=fset S.un p (uset one (u,S.ow.length+1,cnt p S.ow+1) (S.un p)),hs:=fset S.hs p (S.hs p++[en]) }
section
variable{X:Cx}{σ:Hp}{ρ:Loc}{N:Nm}{S:LS}{p kind:Nat}{one two:Str}{made other:MV}{c:Int}{pr:MA}
noncomputable abbrev BPostL(N:Nm)(P:LS→Prop):MF→Hp→Loc→Prop:=fun mf σ' ρ'=>mf=.next∧∃ S',P S'∧SAt σ' N S'∧RAt ρ' N S'.sf
theorem book_refused(h:SAt σ N S)(hol:S.ow.length≤20)(hc:c≠0)(B:BAt ρ N S.sf p kind one two made other c pr) :
  ExSs X LG (lawFor.drop 14) σ ρ (BPostL N fun S'=>S'=S) (fun _ _ _=>False):=by
 refine mine_step rfl h hol B fun σ' K=>?_
 obtain ⟨r,b1,b2,b3,b4,b5,b6,b7,b8⟩:=B
 have h':=h.keep K fun a z=>z
 have R':RAt (lset "mine" (.int (cnt p S.ow)) ρ) N S.sf:=r.set (by decide +kernel)
 have hcb:(c==0)=false:=by simpa using hc
 walk_at "c"
 refine And.intro (fun _=>?_) (fun hb=>absurd hb (by rw [hcb];decide))
 refine And.intro (fun hb=>absurd hb (by rw [hcb];decide)) (fun _=>?_)
 walk_at "r"
 refine And.intro (fun _=>?_) (fun hb=>absurd hb (by rw [hcb];decide))
 refine And.intro (fun hb=>absurd hb (by rw [hcb];decide)) (fun _=>?_)
 walk_at "r"
 refine And.intro (fun _=>?_) (fun hb=>absurd hb (by rw [hcb];decide))
 refine And.intro (fun hb=>absurd hb (by rw [hcb];decide)) (fun _=>?_)
 walk_at "r"
 refine And.intro (fun _=>?_) (fun hb=>absurd hb (by rw [hcb];decide))
 refine And.intro (fun hb=>absurd hb (by rw [hcb];decide)) (fun _=>?_)
 walk_at "r"
 refine And.intro (fun _=>?_) (fun hb=>absurd hb (by rw [hcb];decide))
 refine And.intro (fun hb=>absurd hb (by rw [hcb];decide)) (fun _=>?_)
 walk_at "r"
 exact ⟨rfl,S,rfl,h',R'⟩
theorem book_none2(h:SAt σ N S)(hol:S.ow.length≤20)(hp:p<2)(B:BAt ρ N S.sf p 2 one two made other 0 pr) :
  ExSs X LG (lawFor.drop 14) σ ρ (BPostL N fun S'=>S'=S) (fun _ _ _=>False):=by
 refine mine_step rfl h hol B fun σ' K=>?_
 obtain ⟨r,b1,b2,b3,b4,b5,b6,b7,b8⟩:=B
 have h':=h.keep K fun a z=>z
 have R':RAt (lset "mine" (.int (cnt p S.ow)) ρ) N S.sf:=r.set (by decide +kernel)
 obtain ⟨r1,r2,r3,r4,r5,r6,r7,r8,r9⟩:=id r
 walk_at "c"
 walk_at "n"
 walk_at "r"
 walk_at "y"
 walk_at "n"
 walk_at "r"
 walk_at "n"
 walk_at "r"
 walk_at "n"
 walk_at "r"
 walk_at "n"
 refine EvTs.nil ?_
 walk_at "y"
 walk_at "n"
 walk_at "r"
 walk_at "n"
 walk_at "r"
 walk_at "y"
 walk_at "n"
 walk_at "r"
 walk_at "n"
 walk_at "r"
 walk_at "y"
 walk_at "n"
 walk_at "r"
 walk_at "n"
 walk_at "r"
 walk_at "y"
 walk_at "n"
 walk_at "r"
 exact ⟨rfl,S,rfl,h',R'⟩
theorem book_none7(h:SAt σ N S)(hol:S.ow.length≤20)(hp:p<2)(B:BAt ρ N S.sf p 7 one two made other 0 pr) :
  ExSs X LG (lawFor.drop 14) σ ρ (BPostL N fun S'=>S'=S) (fun _ _ _=>False):=by
 refine mine_step rfl h hol B fun σ' K=>?_
 obtain ⟨r,b1,b2,b3,b4,b5,b6,b7,b8⟩:=B
 have h':=h.keep K fun a z=>z
 have R':RAt (lset "mine" (.int (cnt p S.ow)) ρ) N S.sf:=r.set (by decide +kernel)
 obtain ⟨r1,r2,r3,r4,r5,r6,r7,r8,r9⟩:=id r
 walk_at "c"
 walk_at "n"
 walk_at "r"
 walk_at "y"
 walk_at "n"
 walk_at "r"
 walk_at "n"
 walk_at "r"
 walk_at "n"
 walk_at "r"
 walk_at "n"
 refine EvTs.nil ?_
 walk_at "y"
 walk_at "n"
 walk_at "r"
 walk_at "n"
 walk_at "r"
 walk_at "y"
 walk_at "n"
 walk_at "r"
 walk_at "n"
 walk_at "r"
 walk_at "y"
 walk_at "n"
 walk_at "r"
 walk_at "n"
 walk_at "r"
 walk_at "y"
 walk_at "n"
 walk_at "r"
 exact ⟨rfl,S,rfl,h',R'⟩
theorem book_dir(h:SAt σ N S)(hol:S.ow.length≤20)(hp:p<2)(B:BAt ρ N S.sf p 8 one two made other 0 pr) :
  ExSs X LG (lawFor.drop 14) σ ρ (BPostL N fun S'=>S'={ S with sf:=S.ow.length,kp:=fset S.kp p (cnt p S.ow) }) (fun _ _ _=>False):=by
 refine mine_step rfl h hol B fun σ' K=>?_
 obtain ⟨r,b1,b2,b3,b4,b5,b6,b7,b8⟩:=B
 have h':=h.keep K fun a z=>z
 have R':RAt (lset "mine" (.int (cnt p S.ow)) ρ) N S.sf:=r.set (by decide +kernel)
 obtain ⟨r1,r2,r3,r4,r5,r6,r7,r8,r9⟩:=id r
 walk_at "c"
 walk_at "n"
 walk_at "r"
 walk_at "y"
 walk_at "n"
 walk_at "r"
 walk_at "n"
 walk_at "r"
 walk_at "n"
 walk_at "r"
 walk_at "n"
 refine EvTs.nil ?_
 walk_at "y"
 walk_at "n"
 walk_at "r"
 walk_at "n"
 walk_at "r"
 walk_at "y"
 walk_at "n"
 walk_at "r"
 walk_at "n"
 walk_at "r"
 walk_at "y"
 walk_at "n"
 walk_at "r"
 walk_at "n"
 walk_at "r"
 walk_at "n"
 refine EvTs.nil ?_
 walk_at "y"
 walk_at "r"
 refine B.len_list h'.ow (by rw [List.length_map];lia) ?_
 walk_at "r"
 refine ⟨_,SetR.list h'.kp (by lia) (by simp;lia) (nle rfl),?_⟩
 walk_at "r"
 rw [List.length_map]
 refine ⟨rfl,_,rfl,?_,RAt.setSafe R'⟩
 have K2:Kp (ofL [10]) σ' (upd σ' (.l 10) (.list (([.int (S.kp 0),.int (S.kp 1)]:List MV).set ((p:Nat):Int).toNat (.int (cnt p S.ow))))):=.upd ⟨10,by simp,rfl⟩
 refine h'.lists K2 (by simp) rfl rfl (fun q hq=>K2.at (h'.f q hq) (ofL_l (by simp;lia))) (fun q hq x hx=>(h'.fh q hq x hx).keep K2 fun _=>ofL_x) (fun q hq=>K2.at (h'.u q hq) (ofL_l (by simp;lia))) (fun q hq e he=>K2.at (h'.uh q hq e he) ofL_x)
  (K2.at h'.ow (ofL_l (by simp))) ?_ h'.nd0 h'.ndp
 rw [upd_self,Int.toNat_natCast]
 exact set2 hp
theorem book_sync(h:SAt σ N S)(hol:S.ow.length≤20)(hp:p<2){en:HEnt}(hpr:σ pr=some (entO en))(hne:∀ l,pr≠.l l)(B:BAt ρ N S.sf p 3 one two made other 0 pr) :
  ExSs X LG (lawFor.drop 14) σ ρ (BPostL N fun S'=>S'={ S with sf:=max S.sf en.so,kp:=fset S.kp p (max (S.kp p) en.oo) }) (fun _ _ _=>False):=by
 refine mine_step rfl h hol B fun σ' K=>?_
 obtain ⟨r,b1,b2,b3,b4,b5,b6,b7,b8⟩:=B
 have h':=h.keep K fun a z=>z
 have R':RAt (lset "mine" (.int (cnt p S.ow)) ρ) N S.sf:=r.set (by decide +kernel)
 obtain ⟨r1,r2,r3,r4,r5,r6,r7,r8,r9⟩:=id r
 walk_at "c"
 have hpr':σ' pr=some (entO en):=K.at hpr (fun z=>z)
 walk_at "n"
 walk_at "r"
 walk_at "y"
 walk_at "n"
 walk_at "r"
 walk_at "n"
 walk_at "r"
 walk_at "n"
 walk_at "r"
 walk_at "n"
 refine EvTs.nil ?_
 walk_at "y"
 walk_at "n"
 walk_at "r"
 walk_at "n"
 walk_at "r"
 walk_at "y"
 walk_at "n"
 walk_at "r"
 walk_at "n"
 walk_at "r"
 walk_at "n"
 refine EvTs.nil ?_
 walk_at "y"
 walk_at "r"
 refine ⟨_,SubR.list hpr' (by decide) (by decide) rfl,?_⟩
 walk_at "r"
 refine B.max ?_
 walk_at "r"
 refine ⟨_,SubR.list h'.kp (by lia) (by lia) (idx2 (f:=fun q=>.int (S.kp q)) hp),?_⟩
 walk_at "r"
 refine ⟨_,SubR.list hpr' (by decide) (by decide) rfl,?_⟩
 walk_at "r"
 refine B.max ?_
 walk_at "r"
 refine ⟨_,SetR.list h'.kp (by lia) (by simp;lia) (nle rfl),?_⟩
 walk_at "r"
 have mx:∀ a b:Nat,(if (b:Int)>(a:Int) then (b:Int) else (a:Int))=((max a b:Nat):Int):=fun a b=>by split <;> lia
 rw [mx,mx]
 refine ⟨rfl,_,rfl,?_,RAt.setSafe R'⟩
 have K2:Kp (ofL [10]) σ' (upd σ' (.l 10) (.list (([.int (S.kp 0),.int (S.kp 1)]:List MV).set ((p:Nat):Int).toNat (.int (max (S.kp p) en.oo:Nat))))):=.upd ⟨10,by simp,rfl⟩
 refine h'.lists K2 (by simp) rfl rfl (fun q hq=>K2.at (h'.f q hq) (ofL_l (by simp;lia))) (fun q hq x hx=>(h'.fh q hq x hx).keep K2 fun _=>ofL_x) (fun q hq=>K2.at (h'.u q hq) (ofL_l (by simp;lia))) (fun q hq e he=>K2.at (h'.uh q hq e he) ofL_x)
  (K2.at h'.ow (ofL_l (by simp))) ?_ h'.nd0 h'.ndp
 rw [upd_self,Int.toNat_natCast]
 exact set2 hp
theorem book_remove(h:SAt σ N S)(hol:S.ow.length≤20)(hp:p<2)(B:BAt ρ N S.sf p 5 one two made other 0 pr) :
  ExSs X LG (lawFor.drop 14) σ ρ (BPostL N fun S'=>S'={ S with ow:=S.ow++[p] }) (fun _ _ _=>False):=by
 refine mine_step rfl h hol B fun σ' K=>?_
 obtain ⟨r,b1,b2,b3,b4,b5,b6,b7,b8⟩:=B
 have h':=h.keep K fun a z=>z
 have R':RAt (lset "mine" (.int (cnt p S.ow)) ρ) N S.sf:=r.set (by decide +kernel)
 obtain ⟨r1,r2,r3,r4,r5,r6,r7,r8,r9⟩:=id r
 walk_at "c"
 walk_at "n"
 walk_at "r"
 walk_at "y"
 walk_at "n"
 walk_at "r"
 walk_at "n"
 walk_at "r"
 walk_at "n"
 walk_at "r"
 walk_at "y"
 walk_at "n"
 refine EvTs.nil ?_
 walk_at "y"
 walk_at "r"
 refine EvE.bmeth rfl ?_
 walk_at "r"
 refine ⟨_,M.append h'.ow,?_⟩
 walk_at "r"
 refine B.append h'.ow (by rw [List.length_map];lia) ?_
 walk_at "r"
 walk_at "n"
 walk_at "r"
 refine ⟨rfl,_,rfl,?_,R'⟩
 have K2:Kp (ofL [9]) σ' (upd σ' (.l 9) (.list ((S.ow.map fun (o:Nat)=>MV.int o)++[.int (p:Nat)]))):=.upd ⟨9,by simp,rfl⟩
 refine h'.lists K2 (by simp) rfl rfl (fun q hq=>K2.at (h'.f q hq) (ofL_l (by simp;lia))) (fun q hq x hx=>(h'.fh q hq x hx).keep K2 fun _=>ofL_x) (fun q hq=>K2.at (h'.u q hq) (ofL_l (by simp;lia))) (fun q hq e he=>K2.at (h'.uh q hq e he) ofL_x)
  ?_ (K2.at h'.kp (ofL_l (by simp))) h'.nd0 h'.ndp
 rw [upd_self,List.map_append];rfl
theorem book_rename(h:SAt σ N S)(hol:S.ow.length≤20)(hp:p<2){v:Nat×Nat×Nat}(hv:uget one (S.un p)=some v)(hul:(S.un p).length≤20)(B:BAt ρ N S.sf p 4 one two made other 0 pr) :
  ExSs X LG (lawFor.drop 14) σ ρ (BPostL N fun S'=>S'={ S with ow:=S.ow++[p],un:=fset S.un p (uset two v (S.un p)) }) (fun _ _ _=>False):=by
 refine mine_step rfl h hol B fun σ' K=>?_
 obtain ⟨r,b1,b2,b3,b4,b5,b6,b7,b8⟩:=B
 have h':=h.keep K fun a z=>z
 have R':RAt (lset "mine" (.int (cnt p S.ow)) ρ) N S.sf:=r.set (by decide +kernel)
 obtain ⟨r1,r2,r3,r4,r5,r6,r7,r8,r9⟩:=id r
 walk_at "c"
 walk_at "n"
 walk_at "r"
 walk_at "y"
 walk_at "n"
 walk_at "r"
 walk_at "n"
 walk_at "r"
 walk_at "y"
 walk_at "n"
 refine EvTs.nil ?_
 walk_at "y"
 walk_at "r"
 refine EvE.bmeth rfl ?_
 walk_at "r"
 refine ⟨_,M.append h'.ow,?_⟩
 walk_at "r"
 refine B.append h'.ow (by rw [List.length_map];lia) ?_
 have K2:Kp (ofL [9]) σ' (upd σ' (.l 9) (.list ((S.ow.map fun (o:Nat)=>MV.int o)++[.int (p:Nat)]))):=.upd ⟨9,by simp,rfl⟩
 have ow2:upd σ' (.l 9) (.list ((S.ow.map fun (o:Nat)=>MV.int o)++[.int (p:Nat)])) (.l 9)=some (.list ((S.ow++[p]).map fun (o:Nat)=>MV.int o)):=by rw [upd_self,List.map_append];rfl
 generalize upd σ' (.l 9) (.list ((S.ow.map fun (o:Nat)=>MV.int o)++[.int (p:Nat)]))=σ2 at K2 ow2 ⊢
 have un2:=K2.at h'.n.under (ofL_l (by simp))
 have u2:=K2.at (h'.u p hp) (ofL_l (by simp;lia))
 walk_at "r"
 walk_at "y"
 walk_at "r"
 refine ⟨_,SubR.list un2 (by lia) (by lia) (idx2 (f:=fun q=>.ref (.l (7+q))) hp),?_⟩
 walk_at "r"
 refine ⟨_,SubR.dictS u2 (by rw [getK_unM,hv];rfl),?_⟩
 walk_at "r"
 refine ⟨_,SubR.list un2 (by lia) (by lia) (idx2 (f:=fun q=>.ref (.l (7+q))) hp),?_⟩
 walk_at "r"
 refine ⟨_,SetR.dictS u2 (by rw [unM_length];lia),?_⟩
 rw [setK_unM]
 walk_at "r"
 refine ⟨rfl,_,rfl,?_,R'⟩
 have K3:Kp (ofL [9,7+p]) σ' (upd σ2 (.l (7+p)) (.dictS (unM (uset two v (S.un p))))):=(K2.mono (by intro a;refine f1_2 fun x hx z=>?_;exact ⟨x,by simp at hx;simp [hx],z⟩)).then_upd ⟨7+p,by simp,rfl⟩
 refine h'.lists K3 (by simp;lia) rfl rfl (fun q hq=>K3.at (h'.f q hq) (ofL_l (by simp;lia))) (fun q hq x hx=>(h'.fh q hq x hx).keep K3 fun _=>ofL_x) (fun q hq=>?_) (fun q hq e he=>?_)
  (upd_at (by intro z;injection z with z;lia) ow2) (K3.at h'.kp (ofL_l (by simp;lia))) h'.nd0 h'.ndp
 ·show upd σ2 (.l (7+p)) (.dictS (unM (uset two v (S.un p)))) (.l (7+q))=some (.dictS (unM (fset S.un p (uset two v (S.un p)) q)))
  by_cases e:q=p
  ·have e:=e.symm;subst e;rw [fset_self,upd_self]
  ·rw [fset_ne _ _ e];exact upd_at (by intro z;injection z with z;lia) (K2.at (h'.u q hq) (ofL_l (by simp;lia)))
 ·have he':e∈fset S.un p (uset two v (S.un p)) q:=he
  by_cases w:q=p
  ·have w:=w.symm;subst w
   rw [fset_self] at he'
   rcases uset_mem he' with rfl | z
   ·exact K3.at (h'.uh p hq (one,v) (uget_mem hv)) ofL_x
   ·exact K3.at (h'.uh p hq e z) ofL_x
  ·rw [fset_ne _ _ w] at he';exact K3.at (h'.uh q hq e he') ofL_x
theorem new_lists{σ σ':Hp}{S S':LS}{l:List Nat}{en:HEnt}(h:SAt σ N S)(hp:p<2)(k:Kp (ofL l) σ σ')(hl:∀ x∈l,x=4+p∨x=7+p∨x=9)(e0:S'.D0=S.D0)(e1:S'.Dp=S.Dp)(e2:S'.hs=fset S.hs p (S.hs p++[en]))(e3:S'.kp=S.kp)
  (f:σ' (.l (4+p))=some (.list ((S.hs p++[en]).map fun h=>.ref (.x h.e)))) (hen:HAt σ' N.i0 (N.ip p) en) (u:∀ q<2,σ' (.l (7+q))=some (.dictS (unM (S'.un q))))
  (uh:∀ q<2,∀ e∈S'.un q,σ' (.x e.2.1)=some (.list [.int e.2.2.1,.int e.2.2.2])) (ow:σ' (.l 9)=some (.list (S'.ow.map fun (o:Nat)=>.int o)))
  (hd0:∀ r<2,∀ x∈S.hs r,x.f0≠en.f0) (hdp:∀ x∈S.hs p,x.fp≠en.fp):SAt σ' N S':=by
 refine h.lists k (fun x hx=>by have:=hl x hx;lia) e0 e1 (fun q hq=>?_) (fun q hq x hx=>?_) u uh ow (by rw [e3];exact k.at h.kp (ofL_l fun z=>by have:=hl _ z;lia)) ?_ (fun q hq=>?_)
 ·rw [e2]
  by_cases e:q=p
  ·have e:=e.symm;subst e;rw [fset_self];exact f
  ·rw [fset_ne _ _ e];exact k.at (h.f q hq) (ofL_l fun z=>by have:=hl _ z;lia)
 ·rw [e2] at hx
  by_cases e:q=p
  ·have e:=e.symm;subst e
   rw [fset_self] at hx
   rcases List.mem_append.mp hx with z | z
   ·exact (h.fh p hq x z).keep k fun _=>ofL_x
   ·rw [List.mem_singleton] at z;rw [z];exact hen
  ·rw [fset_ne _ _ e] at hx;exact (h.fh q hq x hx).keep k fun _=>ofL_x
 ·rw [e2]
  have nd:=h.nd0
  have:p=0∨p=1:=by lia
  rcases this with rfl | rfl
  ·rw [fset_self,fset_ne _ _ (by decide),List.map_append,List.append_assoc]
   refine (List.perm_middle.nodup_iff).mpr (List.nodup_cons.mpr ⟨fun z=>?_,nd⟩)
   rcases List.mem_append.mp z with z | z <;> refine c1_2 (List.mem_map.mp z) fun x hx e=>?_
   ·exact hd0 0 (by decide) x hx e
   ·exact hd0 1 (by decide) x hx e
  ·rw [fset_self,fset_ne _ _ (by decide),List.map_append,← List.append_assoc]
   refine List.nodup_append.mpr ⟨nd,by simp,fun a ha b hb=>?_⟩
   simp at hb
   subst hb
   rintro rfl
   rcases List.mem_append.mp ha with z | z <;> refine c1_2 (List.mem_map.mp z) fun x hx e=>?_
   ·exact hd0 0 (by decide) x hx e
   ·exact hd0 1 (by decide) x hx e
 ·rw [e2]
  by_cases e:q=p
  ·have e:=e.symm;subst e
   rw [fset_self,List.map_append]
   refine List.nodup_append.mpr ⟨h.ndp p hq,by simp,fun a ha b hb=>?_⟩
   simp at hb
   subst hb
   rintro rfl
   refine c1_2 (List.mem_map.mp ha) fun x hx e=>?_
   exact hdp x hx e
  ·rw [fset_ne _ _ e];exact h.ndp q hq
theorem book_make0(h:SAt σ N S)(hol:S.ow.length≤20)(hp:p<2){f0 fp k0 kp:Nat}{n0 np:Str}(hm:made=.ref (.x f0))(ho:other=.ref (.x fp))(hf0:σ (.x f0)=some (fileO N.i0 n0 k0 false))(hfp:σ (.x fp)=some (fileO (N.ip p) np kp false))(hn0:n0.length≤500)(hnp:np.length≤500)
  (hd0:∀ r<2,∀ x∈S.hs r,x.f0≠f0) (hdp:∀ x∈S.hs p,x.fp≠fp) (hhl:(S.hs p).length≤20) (hul:(S.un p).length≤20) (B:BAt ρ N S.sf p 0 one two made other 0 pr) :
  ExSs X LG (lawFor.drop 14) σ ρ (BPostL N fun S'=>∃ u e,S'=S.booked p one u ⟨e,f0,fp,n0,np,k0,kp,false,S.ow.length+1,cnt p S.ow+1⟩) (fun _ _ _=>False):=by
 refine mine_step rfl h hol B fun σ' K=>?_
 obtain ⟨r,b1,b2,b3,b4,b5,b6,b7,b8⟩:=B
 have h':=h.keep K fun a z=>z
 have R':RAt (lset "mine" (.int (cnt p S.ow)) ρ) N S.sf:=r.set (by decide +kernel)
 obtain ⟨r1,r2,r3,r4,r5,r6,r7,r8,r9⟩:=id r
 walk_at "c"
 subst hm ho
 walk_at "n"
 walk_at "r"
 walk_at "n"
 refine EvTs.nil ?_
 walk_at "y"
 walk_at "r"
 refine EvE.bmeth rfl ?_
 walk_at "r"
 refine ⟨_,M.append h'.ow,?_⟩
 walk_at "r"
 refine B.append h'.ow (by rw [List.length_map];lia) ?_
 have K2:Kp (ofL [9]) σ' (upd σ' (.l 9) (.list ((S.ow.map fun (o:Nat)=>MV.int o)++[.int (p:Nat)]))):=.upd ⟨9,by simp,rfl⟩
 have ow2:upd σ' (.l 9) (.list ((S.ow.map fun (o:Nat)=>MV.int o)++[.int (p:Nat)])) (.l 9)=some (.list ((S.ow++[p]).map fun (o:Nat)=>MV.int o)):=by rw [upd_self,List.map_append];rfl
 generalize upd σ' (.l 9) (.list ((S.ow.map fun (o:Nat)=>MV.int o)++[.int (p:Nat)]))=σ2 at K2 ow2 ⊢
 have un2:=K2.at h'.n.under (ofL_l (by simp))
 have u2:=K2.at (h'.u p hp) (ofL_l (by simp;lia))
 refine c1_1 ((K2.sup h'.sup).x) fun m3 hm3=>?_
 have low:((S.ow++[p]).map fun (o:Nat)=>MV.int o).length=S.ow.length+1:=by simp
 walk_at "r"
 refine EvE.list ?_
 walk_at "r"
 refine B.len_list ow2 (by rw [low];lia) ?_
 rw [low]
 walk_at "r"
 refine ⟨.x m3,hm3,nle rfl,?_⟩
 have K3:Kp (ofL [9]) σ' (upd σ2 (.x m3) (.list [.int (S.ow.length+1:Nat),.int (cnt p S.ow+1:Nat)])):=K2.then_x hm3
 have l3:upd σ2 (.x m3) (.list [.int (S.ow.length+1:Nat),.int (cnt p S.ow+1:Nat)]) (.x m3)=some (.list [.int (S.ow.length+1:Nat),.int (cnt p S.ow+1:Nat)]):=upd_self ..
 have un3:upd σ2 (.x m3) (.list [.int (S.ow.length+1:Nat),.int (cnt p S.ow+1:Nat)]) (.l 6)=_:=udf tru un2
 have u3:upd σ2 (.x m3) (.list [.int (S.ow.length+1:Nat),.int (cnt p S.ow+1:Nat)]) (.l (7+p))=_:=udf tru u2
 have ow3:upd σ2 (.x m3) (.list [.int (S.ow.length+1:Nat),.int (cnt p S.ow+1:Nat)]) (.l 9)=_:=udf tru ow2
 have ecast:(MO.list [.int ((S.ow.length+1:Nat):Int),.int ((cnt p S.ow:Int)+1)])=MO.list [.int (S.ow.length+1:Nat),.int (cnt p S.ow+1:Nat)]:=rfl
 rw [ecast]
 generalize upd σ2 (.x m3) (.list [.int (S.ow.length+1:Nat),.int (cnt p S.ow+1:Nat)])=σ3 at K3 l3 un3 u3 ow3 ⊢
 walk_at "r"
 refine ⟨_,SubR.list un3 (by lia) (by lia) (idx2 (f:=fun q=>.ref (.l (7+q))) hp),?_⟩
 walk_at "r"
 refine ⟨_,SetR.dictS u3 (by rw [unM_length];lia),?_⟩
 rw [show setK one (MV.ref (.x m3)) (unM (S.un p))=unM (uset one (m3,S.ow.length+1,cnt p S.ow+1) (S.un p)) from setK_unM (v:=(m3,S.ow.length+1,cnt p S.ow+1))]
 have K4:Kp (ofL [9,7+p]) σ' (upd σ3 (.l (7+p)) (.dictS (unM (uset one (m3,S.ow.length+1,cnt p S.ow+1) (S.un p))))):=(K3.mono (by intro a;refine f1_2 fun x hx z=>?_;exact ⟨x,by simp at hx;simp [hx],z⟩)).then_upd ⟨7+p,by simp,rfl⟩
 have l4:upd σ3 (.l (7+p)) (.dictS (unM (uset one (m3,S.ow.length+1,cnt p S.ow+1) (S.un p)))) (.x m3)=_:=udf tru l3
 have u4:upd σ3 (.l (7+p)) (.dictS (unM (uset one (m3,S.ow.length+1,cnt p S.ow+1) (S.un p)))) (.l (7+p))=some (.dictS (unM (uset one (m3,S.ow.length+1,cnt p S.ow+1) (S.un p)))):=upd_self ..
 have ow4:upd σ3 (.l (7+p)) (.dictS (unM (uset one (m3,S.ow.length+1,cnt p S.ow+1) (S.un p)))) (.l 9)=_:=upd_at (by intro z;injection z with z;lia) ow3
 generalize upd σ3 (.l (7+p)) (.dictS (unM (uset one (m3,S.ow.length+1,cnt p S.ow+1) (S.un p))))=σ4 at K4 l4 u4 ow4 ⊢
 have fl4:=K4.at h'.n.files (ofL_l (by simp;lia))
 have f4:=K4.at (h'.f p hp) (ofL_l (by simp;lia))
 refine c1_1 ((K4.sup h'.sup).x) fun m5 hm5=>?_
 walk_at "r"
 refine EvE.bmeth rfl ?_
 walk_at "r"
 refine ⟨_,SubR.list fl4 (by lia) (by lia) (idx2 (f:=fun q=>.ref (.l (4+q))) hp),?_⟩
 refine ⟨_,M.append f4,?_⟩
 walk_at "r"
 refine EvE.list ?_
 walk_at "r"
 refine B.len_list ow4 (by rw [low];lia) ?_
 rw [low]
 walk_at "r"
 refine ⟨.x m5,hm5,nle rfl,?_⟩
 have K5:Kp (ofL [9,7+p]) σ' (upd σ4 (.x m5) (entO ⟨m5,f0,fp,n0,np,k0,kp,false,S.ow.length+1,cnt p S.ow+1⟩)):=K4.then_x hm5
 have l5:upd σ4 (.x m5) (entO ⟨m5,f0,fp,n0,np,k0,kp,false,S.ow.length+1,cnt p S.ow+1⟩) (.x m5)=some (entO ⟨m5,f0,fp,n0,np,k0,kp,false,S.ow.length+1,cnt p S.ow+1⟩):=upd_self ..
 have lm5:upd σ4 (.x m5) (entO ⟨m5,f0,fp,n0,np,k0,kp,false,S.ow.length+1,cnt p S.ow+1⟩) (.x m3)=_:=upd_at (ne_fresh l4 hm5) l4
 have u5:upd σ4 (.x m5) (entO ⟨m5,f0,fp,n0,np,k0,kp,false,S.ow.length+1,cnt p S.ow+1⟩) (.l (7+p))=_:=udf tru u4
 have ow5:upd σ4 (.x m5) (entO ⟨m5,f0,fp,n0,np,k0,kp,false,S.ow.length+1,cnt p S.ow+1⟩) (.l 9)=_:=udf tru ow4
 have f5:upd σ4 (.x m5) (entO ⟨m5,f0,fp,n0,np,k0,kp,false,S.ow.length+1,cnt p S.ow+1⟩) (.l (4+p))=_:=udf tru f4
 have ecast2:(MO.list [.ref (.x f0),.ref (.x fp),.int ((S.ow.length+1:Nat):Int),.int ((cnt p S.ow:Int)+1)])=entO ⟨m5,f0,fp,n0,np,k0,kp,false,S.ow.length+1,cnt p S.ow+1⟩:=rfl
 rw [ecast2]
 generalize upd σ4 (.x m5) (entO ⟨m5,f0,fp,n0,np,k0,kp,false,S.ow.length+1,cnt p S.ow+1⟩)=σ5 at K5 l5 lm5 u5 ow5 f5 ⊢
 walk_at "r"
 refine B.append f5 (by rw [List.length_map];lia) ?_
 walk_at "r"
 refine ⟨rfl,S.booked p one m3 ⟨m5,f0,fp,n0,np,k0,kp,false,S.ow.length+1,cnt p S.ow+1⟩,⟨m3,m5,rfl⟩,?_,R'⟩
 have K6:Kp (ofL [9,7+p,4+p]) σ' (upd σ5 (.l (4+p)) (.list (((S.hs p).map fun h=>MV.ref (.x h.e))++[.ref (.x m5)]))):=(K5.mono (by intro a;refine f1_2 fun x hx z=>?_;exact ⟨x,by simp at hx;rcases hx with rfl | rfl <;> simp,z⟩)).then_upd ⟨4+p,by simp,rfl⟩
 refine new_lists (en:=⟨m5,f0,fp,n0,np,k0,kp,false,S.ow.length+1,cnt p S.ow+1⟩) h' hp K6 (by simp) rfl rfl rfl rfl (by rw [upd_self,List.map_append];rfl) ⟨udf tru l5,K6.at (K.at hf0 fun z=>z) ofL_x,K6.at (K.at hfp fun z=>z) ofL_x,hn0,hnp⟩ (fun q hq=>?_) (fun q hq e he=>?_)
  (upd_at (by intro z;injection z with z;lia) ow5) hd0 hdp
 ·show _=some (MO.dictS (unM (fset S.un p (uset one (m3,S.ow.length+1,cnt p S.ow+1) (S.un p)) q)))
  by_cases e:q=p
  ·have e:=e.symm;subst e;rw [fset_self];exact upd_at (by intro z;injection z with z;lia) u5
  ·rw [fset_ne _ _ e];exact K6.at (h'.u q hq) (ofL_l (by simp;lia))
 ·have he':e∈fset S.un p (uset one (m3,S.ow.length+1,cnt p S.ow+1) (S.un p)) q:=he
  by_cases w:q=p
  ·have w:=w.symm;subst w
   rw [fset_self] at he'
   rcases uset_mem he' with rfl | z
   ·exact udf tru lm5
   ·exact K6.at (h'.uh p hq e z) ofL_x
  ·rw [fset_ne _ _ w] at he';exact K6.at (h'.uh q hq e he') ofL_x
theorem book_make1(h:SAt σ N S)(hol:S.ow.length≤20)(hp:p<2){f0 fp k0 kp:Nat}{n0 np:Str}(hm:made=.ref (.x f0))(ho:other=.ref (.x fp))(hf0:σ (.x f0)=some (fileO N.i0 n0 k0 false))(hfp:σ (.x fp)=some (fileO (N.ip p) np kp false))(hn0:n0.length≤500)(hnp:np.length≤500)
  (hd0:∀ r<2,∀ x∈S.hs r,x.f0≠f0) (hdp:∀ x∈S.hs p,x.fp≠fp) (hhl:(S.hs p).length≤20) (hul:(S.un p).length≤20) (B:BAt ρ N S.sf p 1 one two made other 0 pr) :
  ExSs X LG (lawFor.drop 14) σ ρ (BPostL N fun S'=>∃ u e,S'=S.booked p one u ⟨e,f0,fp,n0,np,k0,kp,false,S.ow.length+1,cnt p S.ow+1⟩) (fun _ _ _=>False):=by
 refine mine_step rfl h hol B fun σ' K=>?_
 obtain ⟨r,b1,b2,b3,b4,b5,b6,b7,b8⟩:=B
 have h':=h.keep K fun a z=>z
 have R':RAt (lset "mine" (.int (cnt p S.ow)) ρ) N S.sf:=r.set (by decide +kernel)
 obtain ⟨r1,r2,r3,r4,r5,r6,r7,r8,r9⟩:=id r
 walk_at "c"
 subst hm ho
 walk_at "n"
 walk_at "r"
 walk_at "n"
 refine EvTs.nil ?_
 walk_at "y"
 walk_at "r"
 refine EvE.bmeth rfl ?_
 walk_at "r"
 refine ⟨_,M.append h'.ow,?_⟩
 walk_at "r"
 refine B.append h'.ow (by rw [List.length_map];lia) ?_
 have K2:Kp (ofL [9]) σ' (upd σ' (.l 9) (.list ((S.ow.map fun (o:Nat)=>MV.int o)++[.int (p:Nat)]))):=.upd ⟨9,by simp,rfl⟩
 have ow2:upd σ' (.l 9) (.list ((S.ow.map fun (o:Nat)=>MV.int o)++[.int (p:Nat)])) (.l 9)=some (.list ((S.ow++[p]).map fun (o:Nat)=>MV.int o)):=by rw [upd_self,List.map_append];rfl
 generalize upd σ' (.l 9) (.list ((S.ow.map fun (o:Nat)=>MV.int o)++[.int (p:Nat)]))=σ2 at K2 ow2 ⊢
 have un2:=K2.at h'.n.under (ofL_l (by simp))
 have u2:=K2.at (h'.u p hp) (ofL_l (by simp;lia))
 refine c1_1 ((K2.sup h'.sup).x) fun m3 hm3=>?_
 have low:((S.ow++[p]).map fun (o:Nat)=>MV.int o).length=S.ow.length+1:=by simp
 walk_at "r"
 refine EvE.list ?_
 walk_at "r"
 refine B.len_list ow2 (by rw [low];lia) ?_
 rw [low]
 walk_at "r"
 refine ⟨.x m3,hm3,nle rfl,?_⟩
 have K3:Kp (ofL [9]) σ' (upd σ2 (.x m3) (.list [.int (S.ow.length+1:Nat),.int (cnt p S.ow+1:Nat)])):=K2.then_x hm3
 have l3:upd σ2 (.x m3) (.list [.int (S.ow.length+1:Nat),.int (cnt p S.ow+1:Nat)]) (.x m3)=some (.list [.int (S.ow.length+1:Nat),.int (cnt p S.ow+1:Nat)]):=upd_self ..
 have un3:upd σ2 (.x m3) (.list [.int (S.ow.length+1:Nat),.int (cnt p S.ow+1:Nat)]) (.l 6)=_:=udf tru un2
 have u3:upd σ2 (.x m3) (.list [.int (S.ow.length+1:Nat),.int (cnt p S.ow+1:Nat)]) (.l (7+p))=_:=udf tru u2
 have ow3:upd σ2 (.x m3) (.list [.int (S.ow.length+1:Nat),.int (cnt p S.ow+1:Nat)]) (.l 9)=_:=udf tru ow2
 have ecast:(MO.list [.int ((S.ow.length+1:Nat):Int),.int ((cnt p S.ow:Int)+1)])=MO.list [.int (S.ow.length+1:Nat),.int (cnt p S.ow+1:Nat)]:=rfl
 rw [ecast]
 generalize upd σ2 (.x m3) (.list [.int (S.ow.length+1:Nat),.int (cnt p S.ow+1:Nat)])=σ3 at K3 l3 un3 u3 ow3 ⊢
 walk_at "r"
 refine ⟨_,SubR.list un3 (by lia) (by lia) (idx2 (f:=fun q=>.ref (.l (7+q))) hp),?_⟩
 walk_at "r"
 refine ⟨_,SetR.dictS u3 (by rw [unM_length];lia),?_⟩
 rw [show setK one (MV.ref (.x m3)) (unM (S.un p))=unM (uset one (m3,S.ow.length+1,cnt p S.ow+1) (S.un p)) from setK_unM (v:=(m3,S.ow.length+1,cnt p S.ow+1))]
 have K4:Kp (ofL [9,7+p]) σ' (upd σ3 (.l (7+p)) (.dictS (unM (uset one (m3,S.ow.length+1,cnt p S.ow+1) (S.un p))))):=(K3.mono (by intro a;refine f1_2 fun x hx z=>?_;exact ⟨x,by simp at hx;simp [hx],z⟩)).then_upd ⟨7+p,by simp,rfl⟩
 have l4:upd σ3 (.l (7+p)) (.dictS (unM (uset one (m3,S.ow.length+1,cnt p S.ow+1) (S.un p)))) (.x m3)=_:=udf tru l3
 have u4:upd σ3 (.l (7+p)) (.dictS (unM (uset one (m3,S.ow.length+1,cnt p S.ow+1) (S.un p)))) (.l (7+p))=some (.dictS (unM (uset one (m3,S.ow.length+1,cnt p S.ow+1) (S.un p)))):=upd_self ..
 have ow4:upd σ3 (.l (7+p)) (.dictS (unM (uset one (m3,S.ow.length+1,cnt p S.ow+1) (S.un p)))) (.l 9)=_:=upd_at (by intro z;injection z with z;lia) ow3
 generalize upd σ3 (.l (7+p)) (.dictS (unM (uset one (m3,S.ow.length+1,cnt p S.ow+1) (S.un p))))=σ4 at K4 l4 u4 ow4 ⊢
 have fl4:=K4.at h'.n.files (ofL_l (by simp;lia))
 have f4:=K4.at (h'.f p hp) (ofL_l (by simp;lia))
 refine c1_1 ((K4.sup h'.sup).x) fun m5 hm5=>?_
 walk_at "r"
 refine EvE.bmeth rfl ?_
 walk_at "r"
 refine ⟨_,SubR.list fl4 (by lia) (by lia) (idx2 (f:=fun q=>.ref (.l (4+q))) hp),?_⟩
 refine ⟨_,M.append f4,?_⟩
 walk_at "r"
 refine EvE.list ?_
 walk_at "r"
 refine B.len_list ow4 (by rw [low];lia) ?_
 rw [low]
 walk_at "r"
 refine ⟨.x m5,hm5,nle rfl,?_⟩
 have K5:Kp (ofL [9,7+p]) σ' (upd σ4 (.x m5) (entO ⟨m5,f0,fp,n0,np,k0,kp,false,S.ow.length+1,cnt p S.ow+1⟩)):=K4.then_x hm5
 have l5:upd σ4 (.x m5) (entO ⟨m5,f0,fp,n0,np,k0,kp,false,S.ow.length+1,cnt p S.ow+1⟩) (.x m5)=some (entO ⟨m5,f0,fp,n0,np,k0,kp,false,S.ow.length+1,cnt p S.ow+1⟩):=upd_self ..
 have lm5:upd σ4 (.x m5) (entO ⟨m5,f0,fp,n0,np,k0,kp,false,S.ow.length+1,cnt p S.ow+1⟩) (.x m3)=_:=upd_at (ne_fresh l4 hm5) l4
 have u5:upd σ4 (.x m5) (entO ⟨m5,f0,fp,n0,np,k0,kp,false,S.ow.length+1,cnt p S.ow+1⟩) (.l (7+p))=_:=udf tru u4
 have ow5:upd σ4 (.x m5) (entO ⟨m5,f0,fp,n0,np,k0,kp,false,S.ow.length+1,cnt p S.ow+1⟩) (.l 9)=_:=udf tru ow4
 have f5:upd σ4 (.x m5) (entO ⟨m5,f0,fp,n0,np,k0,kp,false,S.ow.length+1,cnt p S.ow+1⟩) (.l (4+p))=_:=udf tru f4
 have ecast2:(MO.list [.ref (.x f0),.ref (.x fp),.int ((S.ow.length+1:Nat):Int),.int ((cnt p S.ow:Int)+1)])=entO ⟨m5,f0,fp,n0,np,k0,kp,false,S.ow.length+1,cnt p S.ow+1⟩:=rfl
 rw [ecast2]
 generalize upd σ4 (.x m5) (entO ⟨m5,f0,fp,n0,np,k0,kp,false,S.ow.length+1,cnt p S.ow+1⟩)=σ5 at K5 l5 lm5 u5 ow5 f5 ⊢
 walk_at "r"
 refine B.append f5 (by rw [List.length_map];lia) ?_
 walk_at "r"
 refine ⟨rfl,S.booked p one m3 ⟨m5,f0,fp,n0,np,k0,kp,false,S.ow.length+1,cnt p S.ow+1⟩,⟨m3,m5,rfl⟩,?_,R'⟩
 have K6:Kp (ofL [9,7+p,4+p]) σ' (upd σ5 (.l (4+p)) (.list (((S.hs p).map fun h=>MV.ref (.x h.e))++[.ref (.x m5)]))):=(K5.mono (by intro a;refine f1_2 fun x hx z=>?_;exact ⟨x,by simp at hx;rcases hx with rfl | rfl <;> simp,z⟩)).then_upd ⟨4+p,by simp,rfl⟩
 refine new_lists (en:=⟨m5,f0,fp,n0,np,k0,kp,false,S.ow.length+1,cnt p S.ow+1⟩) h' hp K6 (by simp) rfl rfl rfl rfl (by rw [upd_self,List.map_append];rfl) ⟨udf tru l5,K6.at (K.at hf0 fun z=>z) ofL_x,K6.at (K.at hfp fun z=>z) ofL_x,hn0,hnp⟩ (fun q hq=>?_) (fun q hq e he=>?_)
  (upd_at (by intro z;injection z with z;lia) ow5) hd0 hdp
 ·show _=some (MO.dictS (unM (fset S.un p (uset one (m3,S.ow.length+1,cnt p S.ow+1) (S.un p)) q)))
  by_cases e:q=p
  ·have e:=e.symm;subst e;rw [fset_self];exact upd_at (by intro z;injection z with z;lia) u5
  ·rw [fset_ne _ _ e];exact K6.at (h'.u q hq) (ofL_l (by simp;lia))
 ·have he':e∈fset S.un p (uset one (m3,S.ow.length+1,cnt p S.ow+1) (S.un p)) q:=he
  by_cases w:q=p
  ·have w:=w.symm;subst w
   rw [fset_self] at he'
   rcases uset_mem he' with rfl | z
   ·exact udf tru lm5
   ·exact K6.at (h'.uh p hq e z) ofL_x
  ·rw [fset_ne _ _ w] at he';exact K6.at (h'.uh q hq e he') ofL_x
theorem book_reopen(h:SAt σ N S)(hol:S.ow.length≤20)(hp:p<2){f0 fp k0 kp:Nat}{n0 np:Str}(hm:made=.ref (.x f0))(ho:other=.ref (.x fp))(hf0:σ (.x f0)=some (fileO N.i0 n0 k0 false))(hfp:σ (.x fp)=some (fileO (N.ip p) np kp false))(hn0:n0.length≤500)(hnp:np.length≤500)
  (hd0:∀ r<2,∀ x∈S.hs r,x.f0≠f0) (hdp:∀ x∈S.hs p,x.fp≠fp) (hhl:(S.hs p).length≤20) {v:Nat×Nat×Nat} (hv:uget one (S.un p)=some v) (B:BAt ρ N S.sf p 6 one two made other 0 pr) :
  ExSs X LG (lawFor.drop 14) σ ρ (BPostL N fun S'=>∃ e,S'={ S with hs:=fset S.hs p (S.hs p++[⟨e,f0,fp,n0,np,k0,kp,false,v.2.1,v.2.2⟩]) }) (fun _ _ _=>False):=by
 refine mine_step rfl h hol B fun σ' K=>?_
 obtain ⟨r,b1,b2,b3,b4,b5,b6,b7,b8⟩:=B
 have h':=h.keep K fun a z=>z
 have R':RAt (lset "mine" (.int (cnt p S.ow)) ρ) N S.sf:=r.set (by decide +kernel)
 obtain ⟨r1,r2,r3,r4,r5,r6,r7,r8,r9⟩:=id r
 walk_at "c"
 subst hm ho
 walk_at "n"
 walk_at "r"
 walk_at "y"
 walk_at "n"
 walk_at "r"
 walk_at "n"
 walk_at "r"
 walk_at "n"
 walk_at "r"
 walk_at "n"
 refine EvTs.nil ?_
 walk_at "y"
 walk_at "n"
 walk_at "r"
 walk_at "n"
 walk_at "r"
 walk_at "n"
 refine EvTs.nil ?_
 walk_at "y"
 walk_at "r"
 have fl4:=h'.n.files
 have f4:=h'.f p hp
 refine c1_1 h'.sup.x fun m4 hm4=>?_
 refine EvE.bmeth rfl ?_
 walk_at "r"
 refine ⟨_,SubR.list fl4 (by lia) (by lia) (idx2 (f:=fun q=>.ref (.l (4+q))) hp),?_⟩
 refine ⟨_,M.append f4,?_⟩
 refine EvArgs.cons ?_ rfl
 refine EvE.addL ?_
 refine EvE.list ?_
 walk_at "r"
 refine ⟨.x m4,hm4,nle rfl,?_⟩
 have K4:Kp (ofL []) σ' (upd σ' (.x m4) (.list [.ref (.x f0),.ref (.x fp)])):=.new (free_x hm4)
 have l4:upd σ' (.x m4) (.list [.ref (.x f0),.ref (.x fp)]) (.x m4)=some (.list [.ref (.x f0),.ref (.x fp)]):=upd_self ..
 generalize upd σ' (.x m4) (.list [.ref (.x f0),.ref (.x fp)])=σ4 at K4 l4 ⊢
 have un4:=K4.at h'.n.under (ofL_l (by simp))
 have u4:=K4.at (h'.u p hp) (ofL_l (by simp))
 have v4:=K4.at (h'.uh p hp _ (uget_mem hv)) ofL_x
 have f4':=K4.at f4 (ofL_l (by simp))
 refine c1_1 ((K4.sup h'.sup).x) fun m5 hm5=>?_
 walk_at "r"
 refine ⟨_,SubR.list un4 (by lia) (by lia) (idx2 (f:=fun q=>.ref (.l (7+q))) hp),?_⟩
 walk_at "r"
 refine ⟨_,SubR.dictS u4 (by rw [getK_unM,hv];rfl),?_⟩
 refine ⟨_,_,.x m5,_,_,rfl,rfl,hm5,l4,v4,nle rfl,?_⟩
 have K5:Kp (ofL []) σ' (upd σ4 (.x m5) (entO ⟨m5,f0,fp,n0,np,k0,kp,false,v.2.1,v.2.2⟩)):=K4.then_x hm5
 have l5:upd σ4 (.x m5) (entO ⟨m5,f0,fp,n0,np,k0,kp,false,v.2.1,v.2.2⟩) (.x m5)=some (entO ⟨m5,f0,fp,n0,np,k0,kp,false,v.2.1,v.2.2⟩):=upd_self ..
 have f5:upd σ4 (.x m5) (entO ⟨m5,f0,fp,n0,np,k0,kp,false,v.2.1,v.2.2⟩) (.l (4+p))=_:=udf tru f4'
 have ecast2:(MO.list ([.ref (.x f0),.ref (.x fp)]++[.int (v.2.1:Nat),.int (v.2.2:Nat)]))=entO ⟨m5,f0,fp,n0,np,k0,kp,false,v.2.1,v.2.2⟩:=rfl
 rw [ecast2]
 generalize upd σ4 (.x m5) (entO ⟨m5,f0,fp,n0,np,k0,kp,false,v.2.1,v.2.2⟩)=σ5 at K5 l5 f5 ⊢
 walk_at "r"
 refine B.append f5 (by rw [List.length_map];lia) ?_
 walk_at "r"
 refine ⟨rfl,{ S with hs:=fset S.hs p (S.hs p++[⟨m5,f0,fp,n0,np,k0,kp,false,v.2.1,v.2.2⟩]) },⟨m5,rfl⟩,?_,R'⟩
 have K6:Kp (ofL [4+p]) σ' (upd σ5 (.l (4+p)) (.list (((S.hs p).map fun h=>MV.ref (.x h.e))++[.ref (.x m5)]))):=(K5.mono (by intro a;refine f1_2 fun x hx z=>?_;simp at hx)).then_upd ⟨4+p,by simp,rfl⟩
 exact new_lists (en:=⟨m5,f0,fp,n0,np,k0,kp,false,v.2.1,v.2.2⟩) h' hp K6 (by simp) rfl rfl rfl rfl (by rw [upd_self,List.map_append];rfl) ⟨udf tru l5,K6.at (K.at hf0 fun z=>z) ofL_x,K6.at (K.at hfp fun z=>z) ofL_x,hn0,hnp⟩
  (fun q hq=>K6.at (h'.u q hq) (ofL_l (by simp;lia))) (fun q hq e he=>K6.at (h'.uh q hq e he) ofL_x) (K6.at h'.ow (ofL_l (by simp;lia))) hd0 hdp
end
noncomputable def isN(n:Str):Prop:=n=sX∨n=sY
noncomputable def LS.made(S:LS)(N:Nm)(p:Nat)(one:Str)(u e f0 fp:Nat):LS :=
 { ((S.acted p (S.D0.mk1 (pre (N.Q p) one)) ((S.Dp p).mk1 one)).booked p one u ⟨e,f0,fp,pre (N.Q p) one,one,S.D0.made+1,(S.Dp p).made+1,false,S.ow.length+1,cnt p S.ow+1⟩) with
  H:=S.H++[⟨1,pre (N.Q p) one,Str.ofString "",S.D0.made+1⟩],Hp:=fset S.Hp p (S.Hp p++[⟨1,one,Str.ofString "",(S.Dp p).made+1⟩]),C:=fset S.C p (S.C p++[((S.Dp p).made+1,S.D0.made+1)]) }
inductive Turn(N:Nm)(p:Nat)(oct:Array UInt8)(S:LS):LS→Prop
 | same:Turn N p oct S S
 | make {one:Str} {u e f0 fp:Nat} (h1:isN one):Turn N p oct S (S.made N p one u e f0 fp)
 | append {h:HEnt} (hh:h∈S.hs p):Turn N p oct S (S.acted p (S.D0.appd h.k0 (ndOf S.D0 h.k0) oct) ((S.Dp p).appd h.kp (ndOf (S.Dp p) h.kp) oct))
 | sync {h:HEnt} (hh:h∈S.hs p):Turn N p oct S { (S.acted p (S.D0.syncd h.k0 (ndOf S.D0 h.k0)) ((S.Dp p).syncd h.kp (ndOf (S.Dp p) h.kp))) with sf:=max S.sf h.so,kp:=fset S.kp p (max (S.kp p) h.oo) }
 | rename {one two:Str} {v:Nat×Nat×Nat} (h1:isN one) (h2:isN two) (hp:(dget one (S.Dp p).pres).isSome=true) (hv:uget one (S.un p)=some v) :
   Turn N p oct S { (S.acted p (S.D0.stepd ⟨3,pre (N.Q p) one,pre (N.Q p) two,0⟩) ((S.Dp p).stepd ⟨3,one,two,0⟩)) with ow:=S.ow++[p],un:=fset S.un p (uset two v (S.un p)),H:=S.H++[⟨3,pre (N.Q p) one,pre (N.Q p) two,0⟩],Hp:=fset S.Hp p (S.Hp p++[⟨3,one,two,0⟩]) }
 | remove {one:Str} (h1:isN one) (hp:(dget one (S.Dp p).pres).isSome=true) :
   Turn N p oct S { (S.acted p (S.D0.stepd ⟨2,pre (N.Q p) one,Str.ofString "",0⟩) ((S.Dp p).stepd ⟨2,one,Str.ofString "",0⟩)) with ow:=S.ow++[p],H:=S.H++[⟨2,pre (N.Q p) one,Str.ofString "",0⟩],Hp:=fset S.Hp p (S.Hp p++[⟨2,one,Str.ofString "",0⟩]) }
 | reopen {one:Str} {v:Nat×Nat×Nat} {e f0 fp:Nat} (h1:isN one) (hp:(dget one (S.Dp p).pres).isSome=true) (hv:uget one (S.un p)=some v) :
   Turn N p oct S { S with hs:=fset S.hs p (S.hs p++[⟨e,f0,fp,pre (N.Q p) one,one,(dget (pre (N.Q p) one) S.D0.pres).getD 0,(dget one (S.Dp p).pres).getD 0,false,v.2.1,v.2.2⟩]) }
 | close {h:HEnt} (hh:h∈S.hs p):Turn N p oct S { S with hs:=fset S.hs p (closeH h.f0 (S.hs p)) }
 | syncDir:Turn N p oct S { (S.acted p S.D0.syncDir (S.Dp p).syncDir) with sf:=S.ow.length,kp:=fset S.kp p (cnt p S.ow) }
theorem pre_nil(n:Str):pre [] n=n:=rfl
theorem Kp.or{P P':MA→Prop}{σ σ' σ'':Hp}(h:Kp P σ σ')(h':Kp P' σ' σ''):Kp (fun a=>P a∨P' a) σ σ'':=(h.mono fun _ z=>.inl z).trans (h'.mono fun _ z=>.inr z)
theorem act_code{kind:Nat}{D0 Dp:Dk}{k0 kp:Nat}{cl:Bool}{o0 t0 op tp:Str}{b:Array UInt8}(h:(dget o0 D0.pres).isSome=(dget op Dp.pres).isSome):(act kind D0 k0 cl o0 t0 b).code=(act kind Dp kp cl op tp b).code:=by
 unfold act
 rw [h]
 repeat' split
 all_goals rfl
section
variable{X:Cx}{σ:Hp}{ρ:Loc}{N:Nm}{S:LS}{p kind:Nat}{one two:Str}{oct:Array UInt8}
structure TAt(ρ:Loc)(N:Nm)(sf p kind:Nat)(one two:Str)(oct:Array UInt8)(pr:MA):Prop where
 r:RAt ρ N sf
 p:lget "p" ρ=some (.int (p:Nat))
 kind:lget "kind" ρ=some (.int (kind:Nat))
 one:lget "one" ρ=some (.str one)
 two:lget "two" ρ=some (.str two)
 octets:lget "octets" ρ=some (.bytes oct)
 pair:lget "pair" ρ=some (.ref pr)
set_option tactic.hygienic true in
theorem turn_acts{pr:MA}{v0 vp:MV}{x2 x3:MV}{en:HEnt}(h:SAt σ N S)(G:Good N S)(hp:p<2)(hk:kind≤8)(h1:isN one)(h2:isN two)(ho:oct.size≤10)(T:TAt ρ N S.sf p kind one two oct pr)
  (hpr:σ pr=some (.list [v0,vp,x2,x3])) (hprl:∀ l,pr≠.l l) (hpd:∀ i q,pr≠.d i q) (hen:needsFile kind=true→en∈S.hs p∧v0=.ref (.x en.f0)∧vp=.ref (.x en.fp)∧x2=.int en.so∧x3=.int en.oo) :
  ExSs X LG (lawFor.drop 11) σ ρ (BPostL N fun S'=>Turn N p oct S S') (fun _ _ _=>False):=by
 obtain ⟨⟨r1,r2,r3,r4,r5,r6,r7,r8,r9⟩,b1,b2,b3,b4,b5,b6⟩:=id T
 have hsub:=(h.n.sub p hp).1
 have hplc:=(h.n.sub p hp).2
 have hlen:=h.n.len p hp
 have hP:Place σ N.i0 (.x (N.sx p)) (N.Q p):=.sub hplc hsub hlen.2
 have hQl:(N.Q p).length≤2:=by unfold Nm.Q;rw [List.length_append,List.length_singleton];lia
 have hnl:∀ n,isN n→n.length≤5:=by rintro n (rfl | rfl) <;> decide +kernel
 refine c2_1 h.d0 fun g0 js0 hD0=>?_
 refine c2_1 (h.dp p hp) fun gp jsp hDp=>?_
 have hnL:∀ n,isN n→(pre (N.Q p) n).length≤500:=fun n hn=>by have:=pre_len (N.Q p) hP.qs_le n;have:=hnl n hn;lia
 refine ExSs.consK ?_;intro _ _
 refine ExS.tup2 rfl (by walk_at "mem") (by walk_at "mem") ?_ (by intro _;rfl) (by intro _;rfl)
 walk_at "r"
 refine ⟨_,SubR.list h.n.subs (by lia) (by lia) (idx2 (f:=fun q=>.ref (.x (N.sx q))) hp),?_⟩
 walk_at "r"
 refine ⟨_,SubR.list hpr (by decide) (by decide) rfl,?_⟩
 walk_at "r"
 refine ((does_any (f:=en.f0) (fk:=en.k0) (nf:=en.n0) (cl:=en.cl) hk h.sup hP hQl hD0 G.w0 (by have:=hnl _ h1;lia) (by have:=hnl _ h2;lia) (fun z=>by
  refine c0_4 (hen z) fun e1 e2 e3 _=>?_
  refine c1_3 (G.hd p hp en e1) fun nn d1 d2 d3=>?_
  exact ⟨e2,(h.fh p hp en e1).f0,⟨nn,d1,by lia⟩,(h.fh p hp en e1).n0⟩)).le (by decide)).mono ?_ nof
 intro v σ1;refine f2_5 ?_;rintro t1 m1 rfl ht1 K1 A1 C1
 have hi0p:N.i0≠N.ip p:=h.n.ne0 p hp
 have keep1:∀ a o,σ a=some o→(∀ q,a≠.d N.i0 q)→(∀ i n k c,o≠fileO i n k c)→σ1 a=some o:=fun a o e ha hn=>K1.at e (by
  rintro (⟨q,z⟩ | ⟨hk7,z⟩)
  ·exact ha q z
  ·refine c0_2 (hen (by rw [hk7];rfl)) fun e1 _=>?_
   rw [z,(h.fh p hp en e1).f0] at e
   cases e
   exact hn _ _ _ _ rfl)
 have S1:Sup σ1:=K1.sup h.sup
 have hDp1:DAt σ1 (N.ip p) (S.Dp p) gp jsp:=hDp.keep2 K1 (by
   rintro q (⟨q',z⟩ | ⟨_,z⟩)
   ·injection z with z1 z2;exact hi0p z1.symm
   ·exact dif_no z rfl) (by
   rintro k s (⟨q',z⟩ | ⟨hk7,z⟩) es
   ·exact dif_no z rfl
   ·refine c0_2 (hen (by rw [hk7];rfl)) fun e1 _=>?_
    injection z with z
    rw [z,(h.fh p hp en e1).f0] at es
    exact mo_no es rfl)
 have own1:=keep1 _ _ h.n.owns (fun q z=>by exact dif_no z rfl) (fun _ _ _ _ z=>by cases z)
 have pr1:=keep1 _ _ hpr (hpd _) (fun _ _ _ _ z=>by cases z)
 have fp1:∀ x,x∈S.hs p→σ1 (.x x.fp)=some (fileO (N.ip p) x.np x.kp x.cl):=fun x hx=>K1.at (h.fh p hp x hx).fp (by
  rintro (⟨q,z⟩ | ⟨hk7,z⟩)
  ·exact dif_no z rfl
  ·refine c0_2 (hen (by rw [hk7];rfl)) fun e1 _=>?_
   have:=(h.fh p hp x hx).fp
   rw [z,(h.fh p hp en e1).f0] at this
   exact hi0p (fileO_inj this).1)
 refine ⟨_,_,_,rfl,ht1,?_⟩
 walk_at "go"
 walk_at "st"
 refine ExS.tup2 rfl (by walk_at "mem") (by walk_at "mem") ?_ (by intro _;rfl) (by intro _;rfl)
 walk_at "r"
 refine ⟨_,SubR.list own1 (by lia) (by lia) (idx2 (f:=fun q=>.ref (.d (N.ip q) .disk)) hp),?_⟩
 walk_at "r"
 refine ⟨_,SubR.list pr1 (by decide) (by decide) rfl,?_⟩
 walk_at "r"
 refine ((does_any (f:=en.fp) (fk:=en.kp) (nf:=en.np) (cl:=en.cl) hk S1 (Place.disk (i:=N.ip p)) (by decide) hDp1 (G.wp p hp) (by have:=hnl _ h1;lia) (by have:=hnl _ h2;lia) (fun z=>by
  refine c0_4 (hen z) fun e1 _ e2 _=>?_
  refine c1_3 (G.hd p hp en e1) fun nn d1 d2 d3=>?_
  exact ⟨e2,fp1 en e1,⟨nn,d2,by lia⟩,(h.fh p hp en e1).np⟩)).le (by decide)).mono ?_ nof
 intro v σ2;refine f2_5 ?_;rintro t2 m2 rfl ht2 K2 A2 C2
 refine ⟨_,_,_,rfl,ht2,?_⟩
 walk_at "st"
 walk_at "r"
 have hdir:=G.dir p hp one h1
 rw [act_code (kp:=en.kp) (op:=pre [] one) (tp:=pre [] two) hdir]
 refine And.intro (fun hb=>absurd hb (by simp)) (fun _=>?_)
 walk_at "st"
 generalize hρ:lset "other" m2 (lset "again" (.int (act kind (S.Dp p) en.kp en.cl (pre [] one) (pre [] two) oct).code) (lset "made" m1 (lset "code" (.int (act kind (S.Dp p) en.kp en.cl (pre [] one) (pre [] two) oct).code) ρ)))=ρ2
 have B:BAt ρ2 N S.sf p kind one two m1 m2 (act kind (S.Dp p) en.kp en.cl (pre [] one) (pre [] two) oct).code pr:=by
  rw [← hρ]
  refine ⟨(((T.r.set (by decide +kernel)).set (by decide +kernel)).set (by decide +kernel)).set (by decide +kernel),?_,?_,?_,?_,?_,?_,?_,?_⟩ <;> walk_at "lg"
 clear hρ
 have hdp':(dget one (S.Dp p).pres).isSome=(dget (pre (N.Q p) one) S.D0.pres).isSome:=hdir.symm
 have K12:kind≠7→Kp (fun a=>inD N.i0 a∨inD (N.ip p) a) σ σ2:=fun hk7=>Kp.or (K1.mono fun a z=>by rcases z with z | ⟨z,_⟩;exact z;exact absurd z hk7) (K2.mono fun a z=>by rcases z with z | ⟨z,_⟩;exact z;exact absurd z hk7)
 have d02:∀ {D:Dk},(∃ g js,DAt σ1 N.i0 D g js)→∃ g js,DAt σ2 N.i0 D g js:=fun ⟨g,js,z⟩=>⟨g,js,z.keep2 K2 (by
   rintro q (⟨q',w⟩ | ⟨_,w⟩)
   ·injection w with w1 w2;exact hi0p w1
   ·exact dif_no w rfl) (by
   rintro k s (⟨q',w⟩ | ⟨hk7,w⟩) es
   ·exact dif_no w rfl
   ·refine c0_2 (hen (by rw [hk7];rfl)) fun e1 _=>?_
    injection w with w
    rw [w,fp1 en e1] at es
    exact mo_no es rfl)⟩
 have pr2:σ2 pr=some (.list [v0,vp,x2,x3]):=K2.at pr1 (by
  rintro (⟨q,z⟩ | ⟨hk7,z⟩)
  ·exact hpd _ _ z
  ·refine c0_2 (hen (by rw [hk7];rfl)) fun e1 _=>?_
   rw [z,fp1 en e1] at pr1
   exact mo_no pr1 rfl)
 have SA:kind≠7→SAt σ2 N (S.acted p (act kind S.D0 en.k0 en.cl (pre (N.Q p) one) (pre (N.Q p) two) oct).D (act kind (S.Dp p) en.kp en.cl (pre [] one) (pre [] two) oct).D):=fun hk7=>h.acted hp (K12 hk7) (d02 A1.1) A2.1
 have same:∀ {σ'},SAt σ' N (S.acted p S.D0 (S.Dp p))→SAt σ' N S:=fun z=>by
  have e:S.acted p S.D0 (S.Dp p)=S:=by
   unfold LS.acted
   have:fset S.Dp p (S.Dp p)=S.Dp:=by funext r;unfold fset;split;(rename_i e;rw [e]);rfl
   rw [this]
  rw [e] at z;exact z
 have refuse:∀ {c:Int} {kind:Nat},c≠0→SAt σ2 N S→BAt ρ2 N S.sf p kind one two m1 m2 c pr→ExSs X LG (lawFor.drop 14) σ2 ρ2 (BPostL N fun S'=>Turn N p oct S S') (fun _ _ _=>False):=fun hc hs B =>
  (book_refused hs G.ol hc B).mono fun mf σ' ρ' ⟨a,S',e,hs',hr'⟩=>⟨a,S',by rw [e];exact .same,hs',hr'⟩
 have newH:∀ {x k:Nat},σ (.x x)=none→σ1 (.x x)=some (fileO N.i0 (pre (N.Q p) one) k false)→σ2 (.x x)=some (fileO N.i0 (pre (N.Q p) one) k false)∧∀ r<2,∀ y∈S.hs r,y.f0≠x:=fun {x k} e1 e2=>by
  refine ⟨K2.at e2 ?_,fun r hr y hy e=>?_⟩
  ·rintro (⟨q,z⟩ | ⟨hk7,z⟩)
   ·exact dif_no z rfl
   ·refine c0_2 (hen (by rw [hk7];rfl)) fun w1 _=>?_
    injection z with z
    have:=fp1 en w1
    rw [← z,e2] at this
    exact hi0p (fileO_inj this).1
  ·have:=(h.fh r hr y hy).f0
   rw [e,e1] at this;exact nos this
 have newP:∀ {y:Nat},σ1 (.x y)=none→∀ z∈S.hs p,z.fp≠y:=fun {y} e1 z hz e=>by
  have:=fp1 z hz
  rw [e,e1] at this;exact nos this
 rcases (by lia:kind=0∨kind=1∨kind=2∨kind=3∨kind=4∨kind=5∨kind=6∨kind=7∨kind=8) with hk' | hk' | hk' | hk' | hk' | hk' | hk' | hk' | hk'
 ·
  rw [hk'] at SA B A1 A2
  by_cases hg:(dget (pre (N.Q p) one) S.D0.pres).isSome=true
  ·have hg':(dget (pre [] one) (S.Dp p).pres).isSome=true:=by rw [pre_nil,hdp'];exact hg
   have e0:act 0 S.D0 en.k0 en.cl (pre (N.Q p) one) (pre (N.Q p) two) oct=⟨2,S.D0,none,en.cl⟩:=act0.trans (if_pos hg)
   have ep:act 0 (S.Dp p) en.kp en.cl (pre [] one) (pre [] two) oct=⟨2,S.Dp p,none,en.cl⟩:=act0.trans (if_pos hg')
   rw [e0,ep] at SA;rw [ep] at B
   walk_at "go"
   exact refuse (by dsimp only;decide) (same (SA (by decide))) B
  ·have hg':¬ (dget (pre [] one) (S.Dp p).pres).isSome=true:=by rw [pre_nil,hdp'];exact hg
   have e0:act 0 S.D0 en.k0 en.cl (pre (N.Q p) one) (pre (N.Q p) two) oct=⟨0,S.D0.mk1 (pre (N.Q p) one),some (S.D0.made+1),en.cl⟩:=act0.trans (if_neg hg)
   have ep:act 0 (S.Dp p) en.kp en.cl (pre [] one) (pre [] two) oct=⟨0,(S.Dp p).mk1 one,some ((S.Dp p).made+1),en.cl⟩:=act0.trans (if_neg hg')
   rw [e0,ep] at SA;rw [ep] at B;rw [e0] at A1;rw [ep] at A2
   obtain ⟨_,f0,ef0,n1,n2⟩:=A1
   obtain ⟨_,fp,efp,n3,n4⟩:=A2
   rw [ef0,efp] at B
   refine c0_2 (newH n1 n2) fun w1 w2=>?_
   walk_at "go"
   refine (book_make0 (SA (by decide)) G.ol hp rfl rfl w1 n4 (hnL one h1) (by have:=hnl _ h1;rw [pre_nil];lia) w2 (newP n3) (G.hl p hp) (G.ul p hp) B).mono ?_
   rintro mf σ' ρ' ⟨rfl,S',⟨u,e,rfl⟩,hs',hr'⟩
   exact ⟨rfl,S.made N p one u e f0 fp,.make h1,hs'.ghost rfl rfl rfl rfl rfl rfl,hr'⟩
 ·
  rw [hk'] at SA B A1 A2
  have e0:act 1 S.D0 en.k0 en.cl (pre (N.Q p) one) (pre (N.Q p) two) oct=⟨0,S.D0.mk1 (pre (N.Q p) one),some (S.D0.made+1),en.cl⟩:=act1
  have ep:act 1 (S.Dp p) en.kp en.cl (pre [] one) (pre [] two) oct=⟨0,(S.Dp p).mk1 one,some ((S.Dp p).made+1),en.cl⟩:=act1
  rw [e0,ep] at SA;rw [ep] at B;rw [e0] at A1;rw [ep] at A2
  obtain ⟨_,f0,ef0,n1,n2⟩:=A1
  obtain ⟨_,fp,efp,n3,n4⟩:=A2
  rw [ef0,efp] at B
  refine c0_2 (newH n1 n2) fun w1 w2=>?_
  walk_at "go"
  refine (book_make1 (SA (by decide)) G.ol hp rfl rfl w1 n4 (hnL one h1) (by have:=hnl _ h1;rw [pre_nil];lia) w2 (newP n3) (G.hl p hp) (G.ul p hp) B).mono ?_
  rintro mf σ' ρ' ⟨rfl,S',⟨u,e,rfl⟩,hs',hr'⟩
  exact ⟨rfl,S.made N p one u e f0 fp,.make h1,hs'.ghost rfl rfl rfl rfl rfl rfl,hr'⟩
 ·
  rw [hk'] at SA B
  refine c0_2 (hen (by rw [hk'];rfl)) fun hen1 _=>?_
  cases hcl:en.cl with
  | true =>
   have e0:act 2 S.D0 en.k0 en.cl (pre (N.Q p) one) (pre (N.Q p) two) oct=⟨3,S.D0,none,true⟩:=by rw [hcl];rfl
   have ep:act 2 (S.Dp p) en.kp en.cl (pre [] one) (pre [] two) oct=⟨3,S.Dp p,none,true⟩:=by rw [hcl];rfl
   rw [e0,ep] at SA;rw [ep] at B
   walk_at "go"
   exact refuse (by dsimp only;decide) (same (SA (by decide))) B
  | false =>
   have e0:act 2 S.D0 en.k0 en.cl (pre (N.Q p) one) (pre (N.Q p) two) oct=⟨0,S.D0.appd en.k0 (ndOf S.D0 en.k0) oct,none,false⟩:=by rw [hcl];rfl
   have ep:act 2 (S.Dp p) en.kp en.cl (pre [] one) (pre [] two) oct=⟨0,(S.Dp p).appd en.kp (ndOf (S.Dp p) en.kp) oct,none,false⟩:=by rw [hcl];rfl
   rw [e0,ep] at SA;rw [ep] at B
   walk_at "go"
   refine (book_none2 (SA (by decide)) G.ol hp B).mono ?_
   rintro mf σ' ρ' ⟨rfl,S',rfl,hs',hr'⟩
   exact ⟨rfl,_,.append hen1,hs',hr'⟩
 ·
  rw [hk'] at SA B
  refine c0_5 (hen (by rw [hk'];rfl)) fun hen1 e1 e2 e3 e4=>?_
  rw [e1,e2,e3,e4] at pr2
  cases hcl:en.cl with
  | true =>
   have e0:act 3 S.D0 en.k0 en.cl (pre (N.Q p) one) (pre (N.Q p) two) oct=⟨3,S.D0,none,true⟩:=by rw [hcl];rfl
   have ep:act 3 (S.Dp p) en.kp en.cl (pre [] one) (pre [] two) oct=⟨3,S.Dp p,none,true⟩:=by rw [hcl];rfl
   rw [e0,ep] at SA;rw [ep] at B
   walk_at "go"
   exact refuse (by dsimp only;decide) (same (SA (by decide))) B
  | false =>
   have e0:act 3 S.D0 en.k0 en.cl (pre (N.Q p) one) (pre (N.Q p) two) oct=⟨0,S.D0.syncd en.k0 (ndOf S.D0 en.k0),none,false⟩:=by rw [hcl];rfl
   have ep:act 3 (S.Dp p) en.kp en.cl (pre [] one) (pre [] two) oct=⟨0,(S.Dp p).syncd en.kp (ndOf (S.Dp p) en.kp),none,false⟩:=by rw [hcl];rfl
   rw [e0,ep] at SA;rw [ep] at B
   walk_at "go"
   refine (book_sync (en:=en) (SA (by decide)) G.ol hp pr2 hprl B).mono ?_
   rintro mf σ' ρ' ⟨rfl,S',rfl,hs',hr'⟩
   exact ⟨rfl,_,.sync hen1,hs',hr'⟩
 ·
  rw [hk'] at SA B
  by_cases hg:(dget (pre (N.Q p) one) S.D0.pres).isSome=true
  ·have hg':(dget (pre [] one) (S.Dp p).pres).isSome=true:=by rw [pre_nil,hdp'];exact hg
   have e0:act 4 S.D0 en.k0 en.cl (pre (N.Q p) one) (pre (N.Q p) two) oct=⟨0,S.D0.stepd ⟨3,pre (N.Q p) one,pre (N.Q p) two,0⟩,none,en.cl⟩:=act4.trans (if_pos hg)
   have ep:act 4 (S.Dp p) en.kp en.cl (pre [] one) (pre [] two) oct=⟨0,(S.Dp p).stepd ⟨3,one,two,0⟩,none,en.cl⟩:=act4.trans (if_pos hg')
   rw [e0,ep] at SA;rw [ep] at B
   refine c1_1 (Option.isSome_iff_exists.mp (G.un p hp one h1 hg')) fun v hv=>?_
   walk_at "go"
   refine (book_rename (SA (by decide)) G.ol hp hv (G.ul p hp) B).mono ?_
   rintro mf σ' ρ' ⟨rfl,S',rfl,hs',hr'⟩
   exact ⟨rfl,_,.rename h1 h2 hg' hv,hs'.ghost rfl rfl rfl rfl rfl rfl,hr'⟩
  ·have hg':¬ (dget (pre [] one) (S.Dp p).pres).isSome=true:=by rw [pre_nil,hdp'];exact hg
   have e0:act 4 S.D0 en.k0 en.cl (pre (N.Q p) one) (pre (N.Q p) two) oct=⟨1,S.D0,none,en.cl⟩:=act4.trans (if_neg hg)
   have ep:act 4 (S.Dp p) en.kp en.cl (pre [] one) (pre [] two) oct=⟨1,S.Dp p,none,en.cl⟩:=act4.trans (if_neg hg')
   rw [e0,ep] at SA;rw [ep] at B
   walk_at "go"
   exact refuse (by dsimp only;decide) (same (SA (by decide))) B
 ·
  rw [hk'] at SA B
  by_cases hg:(dget (pre (N.Q p) one) S.D0.pres).isSome=true
  ·have hg':(dget (pre [] one) (S.Dp p).pres).isSome=true:=by rw [pre_nil,hdp'];exact hg
   have e0:act 5 S.D0 en.k0 en.cl (pre (N.Q p) one) (pre (N.Q p) two) oct=⟨0,S.D0.stepd ⟨2,pre (N.Q p) one,Str.ofString "",0⟩,none,en.cl⟩:=act5.trans (if_pos hg)
   have ep:act 5 (S.Dp p) en.kp en.cl (pre [] one) (pre [] two) oct=⟨0,(S.Dp p).stepd ⟨2,one,Str.ofString "",0⟩,none,en.cl⟩:=act5.trans (if_pos hg')
   rw [e0,ep] at SA;rw [ep] at B
   walk_at "go"
   refine (book_remove (SA (by decide)) G.ol hp B).mono ?_
   rintro mf σ' ρ' ⟨rfl,S',rfl,hs',hr'⟩
   exact ⟨rfl,_,.remove h1 hg',hs'.ghost rfl rfl rfl rfl rfl rfl,hr'⟩
  ·have hg':¬ (dget (pre [] one) (S.Dp p).pres).isSome=true:=by rw [pre_nil,hdp'];exact hg
   have e0:act 5 S.D0 en.k0 en.cl (pre (N.Q p) one) (pre (N.Q p) two) oct=⟨1,S.D0,none,en.cl⟩:=act5.trans (if_neg hg)
   have ep:act 5 (S.Dp p) en.kp en.cl (pre [] one) (pre [] two) oct=⟨1,S.Dp p,none,en.cl⟩:=act5.trans (if_neg hg')
   rw [e0,ep] at SA;rw [ep] at B
   walk_at "go"
   exact refuse (by dsimp only;decide) (same (SA (by decide))) B
 ·
  rw [hk'] at SA B A1 A2
  by_cases hg:(dget (pre (N.Q p) one) S.D0.pres).isSome=true
  ·have hg':(dget (pre [] one) (S.Dp p).pres).isSome=true:=by rw [pre_nil,hdp'];exact hg
   have e0:act 6 S.D0 en.k0 en.cl (pre (N.Q p) one) (pre (N.Q p) two) oct=⟨0,S.D0,some ((dget (pre (N.Q p) one) S.D0.pres).getD 0),en.cl⟩:=act6.trans (if_pos hg)
   have ep:act 6 (S.Dp p) en.kp en.cl (pre [] one) (pre [] two) oct=⟨0,S.Dp p,some ((dget one (S.Dp p).pres).getD 0),en.cl⟩:=act6.trans (if_pos hg')
   rw [e0,ep] at SA;rw [ep] at B;rw [e0] at A1;rw [ep] at A2
   obtain ⟨_,f0,ef0,n1,n2⟩:=A1
   obtain ⟨_,fp,efp,n3,n4⟩:=A2
   rw [ef0,efp] at B
   refine c0_2 (newH n1 n2) fun w1 w2=>?_
   refine c1_1 (Option.isSome_iff_exists.mp (G.un p hp one h1 hg')) fun v hv=>?_
   walk_at "go"
   refine (book_reopen (same (SA (by decide))) G.ol hp rfl rfl w1 n4 (hnL one h1) (by have:=hnl _ h1;rw [pre_nil];lia) w2 (newP n3) (G.hl p hp) hv B).mono ?_
   rintro mf σ' ρ' ⟨rfl,S',⟨e,rfl⟩,hs',hr'⟩
   exact ⟨rfl,_,.reopen h1 hg' hv,hs',hr'⟩
  ·have hg':¬ (dget (pre [] one) (S.Dp p).pres).isSome=true:=by rw [pre_nil,hdp'];exact hg
   have e0:act 6 S.D0 en.k0 en.cl (pre (N.Q p) one) (pre (N.Q p) two) oct=⟨1,S.D0,none,en.cl⟩:=act6.trans (if_neg hg)
   have ep:act 6 (S.Dp p) en.kp en.cl (pre [] one) (pre [] two) oct=⟨1,S.Dp p,none,en.cl⟩:=act6.trans (if_neg hg')
   rw [e0,ep] at SA;rw [ep] at B
   walk_at "go"
   exact refuse (by dsimp only;decide) (same (SA (by decide))) B
 ·
  rw [hk'] at B A1 A2
  refine c0_2 (hen (by rw [hk'];rfl)) fun hen1 _=>?_
  have c0:=C1 hk'
  have cp:=C2 hk'
  rw [hk'] at c0 cp
  have Kc:Kp (fun a=>(inD N.i0 a∨inD (N.ip p) a)∨(a=.x en.f0∨a=.x en.fp)) σ σ2:=(K1.mono (by
    rintro a (z | ⟨_,z⟩)
    ·exact .inl (.inl z)
    ·exact .inr (.inl z))).trans (K2.mono (by
    rintro a (z | ⟨_,z⟩)
    ·exact .inl (.inr z)
    ·exact .inr (.inr z)))
  have c02:∀ b,σ1 (.x en.f0)=some (fileO N.i0 en.n0 en.k0 b)→σ2 (.x en.f0)=some (fileO N.i0 en.n0 en.k0 b):=fun b e=>K2.at e (by
   rintro (⟨q,z⟩ | ⟨_,z⟩)
   ·exact dif_no z rfl
   ·have:=fp1 en hen1
    rw [← z,e] at this
    exact hi0p (fileO_inj this).1)
  cases hcl:en.cl with
  | true =>
   have e0:act 7 S.D0 en.k0 en.cl (pre (N.Q p) one) (pre (N.Q p) two) oct=⟨3,S.D0,none,true⟩:=by rw [hcl];rfl
   have ep:act 7 (S.Dp p) en.kp en.cl (pre [] one) (pre [] two) oct=⟨3,S.Dp p,none,true⟩:=by rw [hcl];rfl
   rw [ep] at B;rw [e0] at A1 c0;rw [ep] at A2 cp
   have hsz:=h.closed (h₀:=en) hp hen1 Kc (d02 A1.1) A2.1 (c02 _ c0) cp
   have eid:closeH en.f0 (S.hs p)=S.hs p:=by
    unfold closeH
    refine (List.map_congr_left fun y hy=>?_).trans (List.map_id _)
    by_cases e:y.f0=en.f0
    ·rw [if_pos e]
     exact HEnt.closed (by rw [nodup_map_inj (nodup_two (L:=fun q=>(S.hs q).map (·.f0)) h.nd0 p hp) hy hen1 e,hcl])
    ·rw [if_neg e];rfl
   have hs2:SAt σ2 N S:=by
    rw [eid] at hsz
    have e2:fset S.hs p (S.hs p)=S.hs:=by funext r;unfold fset;split;(rename_i e;rw [e]);rfl
    rw [e2] at hsz
    exact same (hsz.ghost rfl rfl rfl rfl rfl rfl)
   walk_at "go"
   exact refuse (by dsimp only;decide) hs2 B
  | false =>
   have e0:act 7 S.D0 en.k0 en.cl (pre (N.Q p) one) (pre (N.Q p) two) oct=⟨0,S.D0,none,true⟩:=by rw [hcl];rfl
   have ep:act 7 (S.Dp p) en.kp en.cl (pre [] one) (pre [] two) oct=⟨0,S.Dp p,none,true⟩:=by rw [hcl];rfl
   rw [ep] at B;rw [e0] at A1 c0;rw [ep] at A2 cp
   have hsz:=h.closed (h₀:=en) hp hen1 Kc (d02 A1.1) A2.1 (c02 _ c0) cp
   have e3:fset S.Dp p (S.Dp p)=S.Dp:=by funext r;unfold fset;split;(rename_i e;rw [e]);rfl
   have hs2:SAt σ2 N { S with hs:=fset S.hs p (closeH en.f0 (S.hs p)) }:=by
    refine hsz.ghost rfl ?_ rfl rfl rfl rfl
    show S.Dp=fset S.Dp p (S.Dp p)
    rw [e3]
   walk_at "go"
   refine (book_none7 hs2 G.ol hp B).mono ?_
   rintro mf σ' ρ' ⟨rfl,S',rfl,hs',hr'⟩
   exact ⟨rfl,_,.close hen1,hs',hr'⟩
 ·
  rw [hk'] at SA B
  have e0:act 8 S.D0 en.k0 en.cl (pre (N.Q p) one) (pre (N.Q p) two) oct=⟨0,S.D0.syncDir,none,en.cl⟩:=rfl
  have ep:act 8 (S.Dp p) en.kp en.cl (pre [] one) (pre [] two) oct=⟨0,(S.Dp p).syncDir,none,en.cl⟩:=rfl
  rw [e0,ep] at SA;rw [ep] at B
  walk_at "go"
  refine (book_dir (SA (by decide)) G.ol hp B).mono ?_
  rintro mf σ' ρ' ⟨rfl,S',rfl,hs',hr'⟩
  exact ⟨rfl,_,.syncDir,hs',hr'⟩
end
theorem gl_law(w:World):nsIn (Fg w) mainGlobals (Str.ofString "law")=some (some (.ref 580)):=by kernel_rfl
noncomputable def BodyOk(N:Nat):Prop:=∀ (X:Cx) (xs:Addr) (Vs:List Value) (ns:List Int),X.Ok→X.base.IsList xs Vs.toArray→IntsAre Vs ns→ns.length≤63 →
 ExSs X ⟨N,true,S_law,true⟩ (fdBody (atTop 26)) (fun _=>none) [("script",.top (.ref xs))] (fun mf _ _=>retOf mf=.bool true) (fun _ _ _=>False)
theorem n_callCells{c:Bool}{prog:Program}{w:World}{A:Around}{s:Shared}{R:Result→Shared→Prop}{a:Addr}{o:Obj}{fd:FuncData}{body:List Stmt}{vals:List Value}{binds:List (Str×Value)}
  (hroom:A.depth<recursionLimit) (ho:s.heap.get? a=some o) (hdata:o.data=.func fd) (hlim:s.heap.NoLimit) (hcd:s.heap.CodeRec fd.code fd.qualname)
  (hbody:fd.body=.stmts body) (hbind:bindArgs fd ⟨vals,[]⟩=pure binds) (hclo:fd.closure=[])
  (hkind:∀ x∈binds,fd.scope.names.lookup x.1=some .local∨(fd.scope.names.lookup x.1=some .cell∧((cellsFrom (s.heap.objs.size+1) fd.scope.names []).lookup x.1).isSome=true))
  (h:∀ s₁,InCallC s (callEnvC fd s.heap.objs.size a).locals (bindL (callEnvC fd s.heap.objs.size a).kindOf binds fun _=>none) (callEnvC fd s.heap.objs.size a).cells
    (bindC (callEnvC fd s.heap.objs.size a).kindOf binds fun _=>none) s₁ →
   wpN c (model prog w) (A.deeper (callEnvC fd s.heap.objs.size a)) (execs body (callEnvC fd s.heap.objs.size a)) (fun f s'=>R (.ok (.ret (match f with | .ret v=>v | _=>.none))) s')
    (fun e s'=>wpN c (model prog w) (A.deeper (callEnvC fd s.heap.objs.size a)) (leaving (callEnvC fd s.heap.objs.size a) e) (fun _ s''=>R (.error e) s'') (fun e' s''=>R (.error e') s'') s') s₁)
  (hco:fd.scope.isCoroutine=false) (hgen:fd.scope.isGenerator=false) (hk:fd.scope.kind=.function) :
  codeN c (model prog w) A (.call (.ref a) ⟨vals,[]⟩) R s:=by
 refine n_callFunction hroom ho hdata hco hgen hbody hcd ?_
 rw [hbind,hclo]
 refine wpAny_pure (wpAny_newFunctionEnv_cells hk hkind fun env he s' x=>?_)
 subst he
 exact ⟨hlim.keeps x.toInCall.keep,n_func (h s' x)⟩
set_option tactic.hygienic true in
theorem law_entry{N:Nat}(hN:N≤100)(hB:BodyOk N):PySem.Challenge.rw_nz0367_01.Holds:=by
 refine hd ?_
 intro w s₀ s₁ mg mb G Y fa o pm cd doc dV kV ho hd' hcd hD hmg hg args vals as hpre hlay hrd hwl hlo
 have KX:(Fg w).In s₁.heap:=Y
 have V:=(Ground.X G).2
 refine Ground.open G ?_
 intro T B D TE TW
 clear D TE TW B
 wrow_args hpre hlay hrd hwl hlo
 rename_i ns _ _ _ _ _ _ _ xs Vs _ hL _ _ _ hI _ hlen _
 have hfa:fa=580:=by
  have h1:=mg_of KX T.g (gl_law w)
  have h2:mg (Str.ofString "law")=some (.ref fa):=hmg
  rw [h2] at h1
  injection h1 with h1
  injection h1
 subst hfa
 have hlen63:ns.length≤63:=by
  have:¬ (63:Int)<(ns.length:Int):=hlen
  lia
 refine c2_2 ((fn_law w).ex) fun pm' cd' hob hcode=>?_
 let X:Cx:=⟨w,s₁.heap,mg,mb,s₁.os⟩
 have XO:X.Ok:=⟨KX,topRead_of T⟩
 refine n_callCells (fd:=fnOf (fdName (atTop 26)) (Str.ofString "law") (fdParams (atTop 26)) (fdBody (atTop 26)) (fdScope (atTop 26)) .none .none .none pm' none (.ref cd') .none) (body:=fdBody (atTop 26)) (binds:=[(Str.ofString "script",.ref xs)]) (by decide +kernel) (KX _ _ hob) rfl T.nolimit (codeRec_of KX hcode) rfl (by kernel_rfl) rfl
  (fun x hx=>.inl (by rw [List.mem_singleton] at hx;subst hx;exact O_law.locs "script" (by decide +kernel))) ?_ (by kernel_rfl) (by kernel_rfl) (by kernel_rfl)
 intro s₂ IC
 generalize henv:callEnvC (fnOf (fdName (atTop 26)) (Str.ofString "law") (fdParams (atTop 26)) (fdBody (atTop 26)) (fdScope (atTop 26)) .none .none .none pm' none (.ref cd') .none) s₁.heap.objs.size 580=env at IC ⊢
 have e1:env.scope=S_law.scope:=by rw [← henv];rfl
 have e2:env.locals=s₁.heap.objs.size:=by rw [← henv];rfl
 have e3:env.frame=some env.locals:=by rw [← henv];rfl
 have hkind:∀ x,env.kindOf x=S_law.scope.names.lookup x:=fun x=>by unfold Env.kindOf;rw [e1]
 have hks:env.kindOf (Str.ofString "script")=some .local:=by rw [hkind];exact O_law.locs "script" (by decide +kernel)
 have IC':InCallC s₁ env.locals (fun y=>if y=Str.ofString "script" then some (.ref xs) else none) env.cells (fun _=>none) s₂:=by
  have:=IC
  unfold bindL bindC at this
  rw [if_pos hks,if_pos hks] at this
  exact this
 clear IC
 have hcells:env.cells=[(Str.ofString "p",s₁.heap.objs.size+2),(Str.ofString "nums",s₁.heap.objs.size+1)]:=by rw [← henv];kernel_rfl
 have eg:env.globals=mainGlobals:=by rw [← henv];rfl
 have eb:env.builtins=builtinsNs:=by rw [← henv];rfl
 clear henv
 obtain ⟨⟨⟨h₂,tk,rfl⟩,⟨oL,es,ep,gL,dL,kL,fL⟩,hkeep,hfresh⟩,hcell,_,_⟩:=IC'
 refine c1_2 (hcell (Str.ofString "nums") (s₁.heap.objs.size+1) (by rw [hcells];kernel_rfl)) fun o1 g1 d1=>?_
 refine c1_2 (hcell (Str.ofString "p") (s₁.heap.objs.size+2) (by rw [hcells];kernel_rfl)) fun o2 g2 d2=>?_
 have base:∀ y,s₁.heap.objs.size≤y→s₁.heap.get? y=none:=fun y hy=>none_of_le hy
 have HS:HSt X (fun _=>none) (fun _=>none) ([(s₁.heap.objs.size+2,o2),(s₁.heap.objs.size+1,o1)]++[]) [(env.locals,es,ep)] { s₁ with heap:=h₂,toks:=tk }:=by
  refine ⟨XO,hkeep,hg,rfl,?_,?_,?_,?_,?_,?_,?_,?_,?_⟩
  ·intro p hp
   simp only [List.append_nil,List.mem_cons,List.not_mem_nil,or_false] at hp
   rcases hp with rfl | rfl
   ·exact ⟨g2,base _ (by lia)⟩
   ·exact ⟨g1,base _ (by lia)⟩
  ·intro p hp
   rw [List.mem_singleton] at hp
   subst hp
   exact ⟨⟨oL,gL,dL⟩,base _ (by rw [e2];exact Nat.le_refl _)⟩
  ·rw [e2]
   simp
  ·intro a o e;exact nos e
  ·intro a e;rfl
  ·intro a b x d y e h;exact nos h
  ·intro a x d h;exact nos h
  ·intro a x d h;exact nos h
  ·intro a x d h;exact nos h
 have FS:FSt X (fun _=>none) (fun _=>none) env [("script",.top (.ref xs))] [] [] { s₁ with heap:=h₂,toks:=tk }:=by
  refine ⟨es,ep,_,HS,kL,fun x v hx=>?_,?_,?_⟩
  ·unfold lget at hx
   split at hx
   ·rename_i e
    subst e
    cases hx
    exact .loc hks (.ref xs) ((fL _).trans (if_pos rfl)) rfl
   ·exact nos hx
  ·unfold ownAddrs
   rw [if_pos e3,hcells]
   rfl
  ·intro p hp
   simp only [List.mem_cons,List.not_mem_nil,or_false] at hp
   rcases hp with rfl | rfl
   ·exact ⟨_,d2⟩
   ·exact ⟨_,d1⟩
 have EO:EnvOk ⟨N,true,S_law,true⟩ env [env]:=⟨e1,eg,eb,O_law,fun _=>⟨e3,[],rfl⟩,fun x hx=>by
  have:x="nums"∨x="p":=by simpa [S_law] using hx
  rcases this with rfl | rfl
  ·exact ⟨s₁.heap.objs.size+1,by rw [hcells];kernel_rfl⟩
  ·exact ⟨s₁.heap.objs.size+2,by rw [hcells];kernel_rfl⟩⟩
 have AO:AOk N true (callerA.deeper env) [env] (env.locals::([]:List FrRec).map (·.1)):=by
  refine ⟨rfl,fun e he=>?_,?_,?_,fun _=>rfl⟩
  ·rw [List.mem_singleton] at he
   rw [he]
   exact ⟨by rw [e1,O_law.fn];exact fun z=>ScopeKind.noConfusion z,env.locals,.head _,e3⟩
  ·show 301+1+4*N≤900;lia
  ·show 4+3+16*N≤9000;lia
 refine n_mono (hB X xs Vs ns XO hL hI hlen63 (callerA.deeper env) env [env] _ [] [] _ EO AO FS) ?_ ?_
 ·rintro f s' ⟨μ',mf,σ',ρ',ex,rf,⟨es',ep',own',H',_,_,_⟩,hq⟩
  cases mf with
  | next=>cases hq
  | ret v =>
   refine c1_2 rf ?_;rintro U rfl hU
   have hv:v=.bool true:=hq
   subst hv
   have hU':U=.bool true:=hU
   subst hU'
   refine GoodW.toG ⟨.inl ⟨_,.bool true,[],rfl,raisesW_false ?_,.bool true,?_,unshared_nil⟩,H'.stays,H'.os,H'.gens⟩
   ·wrow_none_raised
   ·wrow_post
 ·rintro e s' ⟨_,_,_,_,_,_,z⟩
  exact z.elim
section
variable{X:Cx}{σ:Hp}{ρ:Loc}{N:Nm}{S:LS}{p kind:Nat}{one two:Str}{oct:Array UInt8}
theorem fmodN(a b:Nat):(a:Int).fmod (b:Int)=((a % b:Nat):Int):=by rw [Int.fmod_eq_emod_of_nonneg _ (by lia)];rfl
theorem fdivN(a b:Nat):(a:Int).fdiv (b:Int)=((a / b:Nat):Int):=by rw [Int.fdiv_eq_ediv_of_nonneg _ (by lia)];rfl
noncomputable abbrev TPost(N:Nm)(S:LS):MF→Hp→Loc→Prop:=BPostL N fun S'=>∃ p<2,∃ oct:Array UInt8,oct.size≤3∧Turn N p oct S S'
theorem turn_tail{w i:Nat}(h:SAt σ N S)(G:Good N S)(hp:p<2)(hk:kind≤8)(hi:i≤10)(R:RAt ρ N S.sf)(b1:lget "p" ρ=some (.int (p:Nat)))(b2:lget "kind" ρ=some (.int (kind:Nat)))(b3:lget "w" ρ=some (.int (w:Nat)))(b4:lget "i" ρ=some (.int (i:Nat)))
  (hf:needsFile kind=true→S.hs p≠[]):ExSs X LG (lawFor.drop 6) σ ρ (TPost N S) (fun _ _ _=>False):=by
 obtain ⟨m1,hm1⟩:=h.sup.x
 walk_at "c"
 refine ((law_names_ok hm1).le (nle rfl)).mono ?_ nof
 rintro v σ1 ⟨rfl,e1⟩
 have K1:Kp nil σ σ1:=by rw [e1];exact .new (free_x hm1)
 have l1:σ1 (.x m1)=some (.list [.str sX,.str sY]):=by rw [e1];exact upd_self ..
 clear e1
 obtain ⟨one,hone,hN1⟩:∃ one,([.str sX,.str sY]:List MV)[((w % 2:Nat):Int).toNat]?=some (.str one)∧isN one:=by
  rw [Int.toNat_natCast]
  have:w % 2=0∨w % 2=1:=Nat.mod_two_eq_zero_or_one w
  rcases this with e | e <;> rw [e]
  ·exact ⟨sX,rfl,.inl rfl⟩
  ·exact ⟨sY,rfl,.inr rfl⟩
 walk_at "r"
 refine bin_mod (by decide) ?_
 rw [show ((w:Int).fmod 2)=((w % 2:Nat):Int) from fmodN w 2]
 refine ⟨_,SubR.list l1 (by lia) (by lia) hone,?_⟩
 obtain ⟨m2,hm2⟩:=(K1.sup h.sup).x
 walk_at "r"
 refine ((law_names_ok hm2).le (nle rfl)).mono ?_ nof
 rintro v σ2 ⟨rfl,e2⟩
 have K2:Kp nil σ σ2:=by rw [e2];exact K1.then_x hm2
 have l2:σ2 (.x m2)=some (.list [.str sX,.str sY]):=by rw [e2];exact upd_self ..
 clear e2
 obtain ⟨two,htwo,hN2⟩:∃ two,([.str sX,.str sY]:List MV)[((w / 2 % 2:Nat):Int).toNat]?=some (.str two)∧isN two:=by
  rw [Int.toNat_natCast]
  have:w / 2 % 2=0∨w / 2 % 2=1:=Nat.mod_two_eq_zero_or_one (w / 2)
  rcases this with e | e <;> rw [e]
  ·exact ⟨sX,rfl,.inl rfl⟩
  ·exact ⟨sY,rfl,.inr rfl⟩
 walk_at "r"
 refine bin_fdiv (by decide) (by decide) ?_
 rw [show ((w:Int).fdiv 2)=((w / 2:Nat):Int) from fdivN w 2]
 walk_at "r"
 refine bin_mod (by decide) ?_
 rw [show (((w / 2:Nat):Int).fmod 2)=((w / 2 % 2:Nat):Int) from fmodN (w / 2) 2]
 refine ⟨_,SubR.list l2 (by lia) (by lia) htwo,?_⟩
 obtain ⟨m3,hm3⟩:=(K2.sup h.sup).x
 walk_at "r"
 refine EvE.list ?_
 walk_at "r"
 refine ⟨.x m3,hm3,nle rfl,?_⟩
 have K3:Kp nil σ (upd σ2 (.x m3) (.list [.none,.none,.int 0,.int 0])):=K2.then_x hm3
 have l3:upd σ2 (.x m3) (.list [.none,.none,.int 0,.int 0]) (.x m3)=some (.list [.none,.none,.int 0,.int 0]):=upd_self ..
 generalize upd σ2 (.x m3) (.list [.none,.none,.int 0,.int 0])=σ3 at K3 l3 ⊢
 have h3:=h.keep K3 fun a z=>z
 walk_at "st"
 have rest:∀ ρ' pr v0 vp x2 x3 en,RAt ρ' N S.sf→lget "p" ρ'=some (.int (p:Nat))→lget "kind" ρ'=some (.int (kind:Nat))→lget "one" ρ'=some (.str one)→lget "two" ρ'=some (.str two)→lget "w" ρ'=some (.int (w:Nat))→lget "i" ρ'=some (.int (i:Nat))→lget "pair" ρ'=some (.ref (.x pr)) →
   σ3 (.x pr)=some (.list [v0,vp,x2,x3])→(needsFile kind=true→en∈S.hs p∧v0=.ref (.x en.f0)∧vp=.ref (.x en.fp)∧x2=.int en.so∧x3=.int en.oo)→ExSs X LG (lawFor.drop 10) σ3 ρ' (TPost N S) (fun _ _ _=>False):=by
  intro ρ' pr v0 vp x2 x3 en R' c1 c2 c3 c4 c5 c6 c7 hpr hen
  obtain ⟨m4,hm4⟩:=h3.sup.x
  refine ExSs.consK ?_;intro _ _
  refine ExS.assign (by walk_at "mem") ?_ rfl
  refine EvE.bcall rfl (by walk_at "mem") rfl ?_ (by decide +kernel) rfl
  refine EvArgs.cons ?_ rfl
  refine EvE.mulL ?_
  refine EvE.list ?_
  walk_at "r"
  refine ⟨.x m4,hm4,nle rfl,?_⟩
  have K4:Kp nil σ3 (upd σ3 (.x m4) (.list [.int (65+(i:Int))])):=.new (free_x hm4)
  have l4:upd σ3 (.x m4) (.list [.int (65+(i:Int))]) (.x m4)=some (.list [.int (65+(i:Int))]):=upd_self ..
  generalize upd σ3 (.x m4) (.list [.int (65+(i:Int))])=σ4 at K4 l4 ⊢
  obtain ⟨m5,hm5⟩:=(K4.sup h3.sup).x
  walk_at "r"
  refine bin_fdiv (by decide) (by decide) ?_
  rw [show ((w:Int).fdiv 2)=((w / 2:Nat):Int) from fdivN w 2]
  walk_at "r"
  refine bin_mod (by decide) ?_
  rw [show (((w / 2:Nat):Int).fmod 4)=((w / 2 % 4:Nat):Int) from fmodN (w / 2) 4]
  refine ⟨.x m4,.x m5,_,_,rfl,rfl,hm5,l4,by lia,by lia,?_⟩
  rw [Int.toNat_natCast]
  have K5:Kp nil σ3 (upd σ4 (.x m5) (.list (List.replicate (w / 2 % 4) (.int (65+(i:Int)))))):=K4.then_x hm5
  have l5:upd σ4 (.x m5) (.list (List.replicate (w / 2 % 4) (.int (65+(i:Int))))) (.x m5)=some (.list ((List.replicate (w / 2 % 4) (65+(i:Int))).map .int)):=by rw [upd_self,List.map_replicate]
  generalize upd σ4 (.x m5) (.list (List.replicate (w / 2 % 4) (.int (65+(i:Int)))))=σ5 at K5 l5 ⊢
  walk_at "r"
  refine B.bytes_ints l5 (by rw [List.length_replicate];lia) (fun n hn=>by have:=List.eq_of_mem_replicate hn;lia) ?_
  have hsz:(byteArr (List.replicate (w / 2 % 4) (65+(i:Int)))).size≤3:=by rw [byteArr_size,List.length_replicate];exact Nat.le_of_lt_succ (Nat.mod_lt _ (nle rfl))
  walk_at "go"
  refine (turn_acts (oct:=byteArr (List.replicate (w / 2 % 4) (65+(i:Int)))) (en:=en) (h3.keep K5 fun a z=>z) G hp hk hN1 hN2 (by lia) ⟨R'.set (by decide +kernel),by walk_at "lg",by walk_at "lg",by walk_at "lg",by walk_at "lg",by walk_at "lg",by walk_at "lg"⟩ (K5.at hpr fun z=>z) (fun l z=>by cases z) (fun i q z=>by cases z) hen).mono ?_
  rintro mf σ' ρ'' ⟨a,S',t,hs',hr'⟩
  exact ⟨a,S',⟨p,hp,_,hsz,t⟩,hs',hr'⟩
 have R3:RAt (lset "pair" (.ref (.x m3)) (lset "two" (.str two) (lset "one" (.str one) ρ))) N S.sf:=((R.set (by decide +kernel)).set (by decide +kernel)).set (by decide +kernel)
 have f3:=h3.f p hp
 have hhl:=G.hl p hp
 obtain ⟨r1,r2,r3,r4,r5,r6,r7,r8,r9⟩:=id R3
 walk_at "r"
 refine ⟨_,SubR.list h3.n.files (by lia) (by lia) (idx2 (f:=fun q=>.ref (.l (4+q))) hp),?_⟩
 walk_at "r"
 refine B.len_list f3 (by rw [List.length_map];lia) ?_
 rw [List.length_map]
 walk_at "r"
 by_cases hz:S.hs p=[]
 ·rw [hz]
  walk_at "n"
  walk_at "st"
  walk_at "go"
  exact rest _ m3 _ _ _ _ ⟨0,0,0,sX,sX,0,0,false,0,0⟩ R3 (by walk_at "lg") (by walk_at "lg") (by walk_at "lg") (by walk_at "lg") (by walk_at "lg") (by walk_at "lg") lget_set_hit l3 (fun z=>absurd hz (hf z))
 ·have hpos:0<(S.hs p).length:=List.length_pos_iff.mpr hz
  refine And.intro (fun _=>?_) (fun hb=>absurd hb (by simp;lia))
  walk_at "st"
  walk_at "st"
  walk_at "st"
  walk_at "r"
  refine ⟨_,SubR.list h3.n.files (by lia) (by lia) (idx2 (f:=fun q=>.ref (.l (4+q))) hp),?_⟩
  walk_at "r"
  refine ⟨_,SubR.list h3.n.files (by lia) (by lia) (idx2 (f:=fun q=>.ref (.l (4+q))) hp),?_⟩
  walk_at "r"
  refine B.len_list f3 (by rw [List.length_map];lia) ?_
  rw [List.length_map]
  refine bin_mod (by lia) ?_
  rw [fmodN]
  have hlt:w % (S.hs p).length<(S.hs p).length:=Nat.mod_lt _ hpos
  generalize hen:(S.hs p)[w % (S.hs p).length]=en
  have hmem:en∈S.hs p:=by rw [← hen];exact List.getElem_mem _
  refine ⟨.ref (.x en.e),SubR.list f3 (by lia) (by lia) (by rw [Int.toNat_natCast,List.getElem?_map,List.getElem?_eq_getElem hlt,hen];rfl),?_⟩
  walk_at "st"
  walk_at "go"
  exact rest _ en.e _ _ _ _ en (R3.set (by decide +kernel)) (by walk_at "lg") (by walk_at "lg") (by walk_at "lg") (by walk_at "lg") (by walk_at "lg") (by walk_at "lg") lget_set_hit (h3.fh p hp en hmem).ent (fun _=>⟨hmem,rfl,rfl,rfl,rfl⟩)
end
theorem draw_nat{ns:List Int}(h:∀ x∈ns,0≤x)(h1:1≤ns.length)(k:Nat):∃ y:Nat,draw ns k=(y:Int):=by
 have hlt:k % ns.length<ns.length:=Nat.mod_lt _ (by lia)
 have:0≤draw ns k:=by
  unfold draw
  rw [List.getD_eq_getElem?_getD,List.getElem?_eq_getElem hlt]
  have:=h _ (List.getElem_mem hlt)
  dsimp only [Option.getD_some]
  generalize k / ns.length=d
  lia
 exact ⟨(draw ns k).toNat,(Int.toNat_of_nonneg this).symm⟩
structure NumOk(N:Nm):Prop where
 pos:1≤N.ns.length
 le:N.ns.length≤63
 nn:∀ x∈N.ns,0≤x
theorem cmpEqI{a b:Int}{t:Bool}{σ:Hp}{k:Bool→Prop}(e:(a==b)=t)(h:k t):cmpR .Eq (.int a) (.int b) σ k:=by subst e;exact h
section
variable{X:Cx}{σ:Hp}{ρ:Loc}{N:Nm}{S:LS}{p kind:Nat}
theorem turn_head{i:Nat}(h:SAt σ N S)(G:Good N S)(hN:NumOk N)(hi:i≤10)(R:RAt ρ N S.sf)(b4:lget "i" ρ=some (.int (i:Nat))):ExSs X LG lawFor σ ρ (TPost N S) (fun _ _ _=>False):=by
 obtain ⟨r1,r2,r3,r4,r5,r6,r7,r8,r9⟩:=id R
 refine c1_1 (draw_nat hN.nn hN.pos (1+i)) fun y hy=>?_
 walk_at "c"
 rw [show (1:Int)+(i:Int)=((1+i:Nat):Int) from rfl]
 refine ((law_draw_ok (k:=1+i) h.n.nums hN.pos (by have:=hN.le;lia) (by lia)).le (nle rfl)).mono ?_ nof
 intro v s0;refine f0_2 ?_;rintro rfl e0
 have e0':=e0.symm
 subst e0'
 rw [hy]
 walk_at "go"
 walk_at "st"
 refine ExS.assignK (by walk_at "mem") ?_ rfl
 walk_at "r"
 refine bin_mod (by decide) ?_
 rw [show ((y:Int).fmod 2)=((y % 2:Nat):Int) from fmodN y 2]
 have hp:y % 2<2:=Nat.mod_lt _ (by decide)
 generalize y % 2=p at hp ⊢
 walk_at "r"
 refine bin_fdiv (by decide) (by decide) ?_
 rw [show ((y:Int).fdiv 2)=((y / 2:Nat):Int) from fdivN y 2]
 generalize y / 2=z
 refine c1_1 h.sup.x fun m1 hm1=>?_
 walk_at "r"
 refine ((law_kinds_ok hm1).le (nle rfl)).mono ?_ nof
 intro v σ1;refine f0_2 ?_;rintro rfl e1
 have K1:Kp nil σ σ1:=by rw [e1];exact .new (free_x hm1)
 have l1:σ1 (.x m1)=some (.list (kindsL.map .int)):=by rw [e1];exact upd_self ..
 clear e1
 have h1:=h.keep K1 fun a z=>z
 have hzl:z % 11<11:=Nat.mod_lt _ (by decide)
 obtain ⟨kind,hkd,hk8⟩:∃ kind:Nat,(kindsL.map MV.int)[((z % 11:Nat):Int).toNat]?=some (.int (kind:Nat))∧kind≤8:=by
  rw [Int.toNat_natCast]
  generalize z % 11=t at hzl
  rcases (by lia:t=0∨t=1∨t=2∨t=3∨t=4∨t=5∨t=6∨t=7∨t=8∨t=9∨t=10) with rfl | rfl | rfl | rfl | rfl | rfl | rfl | rfl | rfl | rfl | rfl
  ·exact ⟨0,rfl,by decide⟩
  ·exact ⟨1,rfl,by decide⟩
  ·exact ⟨1,rfl,by decide⟩
  ·exact ⟨2,rfl,by decide⟩
  ·exact ⟨2,rfl,by decide⟩
  ·exact ⟨3,rfl,by decide⟩
  ·exact ⟨4,rfl,by decide⟩
  ·exact ⟨5,rfl,by decide⟩
  ·exact ⟨6,rfl,by decide⟩
  ·exact ⟨7,rfl,by decide⟩
  ·exact ⟨8,rfl,by decide⟩
 walk_at "r"
 refine bin_mod (by decide) ?_
 rw [show ((z:Int).fmod 11)=((z % 11:Nat):Int) from fmodN z 11]
 refine ⟨_,SubR.list l1 (by lia) (by lia) hkd,?_⟩
 walk_at "r"
 refine bin_fdiv (by decide) (by decide) ?_
 rw [show ((z:Int).fdiv 11)=((z / 11:Nat):Int) from fdivN z 11]
 generalize z / 11=w
 walk_at "st"
 have R5:∀ k:Nat,RAt (lset "w" (.int (w:Nat)) (lset "kind" (.int (k:Nat)) (lset "z" (.int (z:Nat)) (lset "p" (.int (p:Nat)) (lset "y" (.int (y:Nat)) ρ))))) N S.sf:=fun k=>((((R.set (by decide +kernel)).set (by decide +kernel)).set (by decide +kernel)).set (by decide +kernel)).set (by decide +kernel)
 have hlen:∀ {QQ:Nat→Prop},True:=fun {_}=>trivial
 have f3:=h1.f p hp
 have hhl:=G.hl p hp
 have c2:lget "kind" (lset "w" (.int (w:Nat)) (lset "kind" (.int (kind:Nat)) (lset "z" (.int (z:Nat)) (lset "p" (.int (p:Nat)) (lset "y" (.int (y:Nat)) ρ)))))=some (.int (kind:Nat)):=by walk_at "lg"
 have c3:lget "w" (lset "w" (.int (w:Nat)) (lset "kind" (.int (kind:Nat)) (lset "z" (.int (z:Nat)) (lset "p" (.int (p:Nat)) (lset "y" (.int (y:Nat)) ρ)))))=some (.int (w:Nat)):=by walk_at "lg"
 have c1:lget "p" (lset "w" (.int (w:Nat)) (lset "kind" (.int (kind:Nat)) (lset "z" (.int (z:Nat)) (lset "p" (.int (p:Nat)) (lset "y" (.int (y:Nat)) ρ)))))=some (.int (p:Nat)):=by walk_at "lg"
 have c4:lget "i" (lset "w" (.int (w:Nat)) (lset "kind" (.int (kind:Nat)) (lset "z" (.int (z:Nat)) (lset "p" (.int (p:Nat)) (lset "y" (.int (y:Nat)) ρ)))))=some (.int (i:Nat)):=by walk_at "lg"
 have R6:=R5 kind
 clear R5
 generalize lset "w" (.int (w:Nat)) (lset "kind" (.int (kind:Nat)) (lset "z" (.int (z:Nat)) (lset "p" (.int (p:Nat)) (lset "y" (.int (y:Nat)) ρ))))=ρ5 at c1 c2 c3 c4 R6 ⊢
 have done:∀ ρ',RAt ρ' N S.sf→lget "p" ρ'=some (.int (p:Nat))→(∃ k:Nat,k≤8∧lget "kind" ρ'=some (.int (k:Nat))∧(needsFile k=true→S.hs p≠[]))→lget "w" ρ'=some (.int (w:Nat))→lget "i" ρ'=some (.int (i:Nat))→ExSs X LG (lawFor.drop 6) σ1 ρ' (TPost N S) (fun _ _ _=>False) :=
  fun ρ' d1 d2 ⟨k,e1,e2,e3⟩ d3 d4=>turn_tail h1 G hp e1 hi d1 d2 e2 d3 d4 e3
 obtain ⟨q1,q2,q3,q4,q5,q6,q7,q8,q9⟩:=id R6
 by_cases hnf:needsFile kind=true
 ·have hk3:kind=2∨kind=3∨kind=7:=by unfold needsFile at hnf;simp at hnf;lia
  have last:∀ {QB:Bool→Prop},(S.hs p=[]→QB true)→(S.hs p≠[]→QB false)→cmpR .Eq (.int ((S.hs p).length:Nat)) (.int 0) σ1 QB:=fun {QB} a b=>by
   by_cases e:S.hs p=[]
   ·exact cmpEqI (by rw [e];rfl) (a e)
   ·exact cmpEqI (t:=false) (by have:=List.length_pos_iff.mpr e;simp;exact e) (b e)
  have yes:=fun e:S.hs p=[]=>done (lset "kind" (.int 1) ρ5) (R6.set (by decide +kernel)) (by walk_at "lg") ⟨1,by decide,lget_set_hit,fun z=>by cases z⟩ (by walk_at "lg") (by walk_at "lg")
  have no:=fun e:S.hs p≠[]=>done ρ5 R6 c1 ⟨kind,hk8,c2,fun _=>e⟩ c3 c4
  walk_at "r"
  by_cases k2:kind=2
  ·refine cmpEqI (t:=true) (by rw [k2];rfl) (And.intro (fun _=>And.intro (fun hb=>absurd hb (by decide)) (fun _=>?_)) (fun hb=>absurd hb (by decide)))
   walk_at "r"
   refine ⟨_,SubR.list h1.n.files (by lia) (by lia) (idx2 (f:=fun q=>.ref (.l (4+q))) hp),?_⟩
   walk_at "r"
   refine B.len_list f3 (by rw [List.length_map];lia) ?_
   rw [List.length_map]
   walk_at "r"
   refine last (fun e=>And.intro (fun hb=>absurd hb (by decide)) (fun _=>?_)) (fun e=>And.intro (fun _=>?_) (fun hb=>absurd hb (by decide)))
   ·walk_at "r"
    walk_at "y"
    walk_at "st"
    walk_at "st"
    walk_at "st"
    walk_at "st"
    walk_at "go"
    exact yes e
   ·walk_at "n"
    walk_at "st"
    walk_at "go"
    exact no e
  ·refine cmpEqI (t:=false) (by simp;lia) (And.intro (fun hb=>absurd hb (by decide)) (fun _=>?_))
   walk_at "r"
   by_cases k3:kind=3
   ·refine cmpEqI (t:=true) (by rw [k3];rfl) (And.intro (fun _=>And.intro (fun hb=>absurd hb (by decide)) (fun _=>?_)) (fun hb=>absurd hb (by decide)))
    walk_at "r"
    refine ⟨_,SubR.list h1.n.files (by lia) (by lia) (idx2 (f:=fun q=>.ref (.l (4+q))) hp),?_⟩
    walk_at "r"
    refine B.len_list f3 (by rw [List.length_map];lia) ?_
    rw [List.length_map]
    walk_at "r"
    refine last (fun e=>And.intro (fun hb=>absurd hb (by decide)) (fun _=>?_)) (fun e=>And.intro (fun _=>?_) (fun hb=>absurd hb (by decide)))
    ·walk_at "r"
     walk_at "y"
     walk_at "st"
     walk_at "st"
     walk_at "st"
     walk_at "st"
     walk_at "go"
     exact yes e
    ·walk_at "n"
     walk_at "st"
     walk_at "go"
     exact no e
   ·refine cmpEqI (t:=false) (by simp;lia) (And.intro (fun hb=>absurd hb (by decide)) (fun _=>?_))
    walk_at "r"
    refine cmpEqI (t:=true) (by rw [(by lia:kind=7)];rfl) (And.intro (fun _=>And.intro (fun hb=>absurd hb (by decide)) (fun _=>?_)) (fun hb=>absurd hb (by decide)))
    walk_at "r"
    refine ⟨_,SubR.list h1.n.files (by lia) (by lia) (idx2 (f:=fun q=>.ref (.l (4+q))) hp),?_⟩
    walk_at "r"
    refine B.len_list f3 (by rw [List.length_map];lia) ?_
    rw [List.length_map]
    walk_at "r"
    refine last (fun e=>And.intro (fun hb=>absurd hb (by decide)) (fun _=>?_)) (fun e=>And.intro (fun _=>?_) (fun hb=>absurd hb (by decide)))
    ·walk_at "r"
     walk_at "y"
     walk_at "st"
     walk_at "st"
     walk_at "st"
     walk_at "st"
     walk_at "go"
     exact yes e
    ·walk_at "n"
     walk_at "st"
     walk_at "go"
     exact no e
 ·have e2:kind≠2:=fun z=>hnf (by rw [z];rfl)
  have e3:kind≠3:=fun z=>hnf (by rw [z];rfl)
  have e7:kind≠7:=fun z=>hnf (by rw [z];rfl)
  walk_at "r"
  refine cmpEqI (t:=false) (by simp;lia) (And.intro (fun hb=>absurd hb (by decide)) (fun _=>?_))
  walk_at "r"
  refine cmpEqI (t:=false) (by simp;lia) (And.intro (fun hb=>absurd hb (by decide)) (fun _=>?_))
  walk_at "r"
  refine cmpEqI (t:=false) (by simp;lia) (And.intro (fun hb=>absurd hb (by decide)) (fun _=>?_))
  walk_at "r"
  refine And.intro (fun _=>And.intro (fun hb=>absurd hb (by decide)) (fun _=>?_)) (fun hb=>absurd hb (by decide))
  walk_at "st"
  walk_at "go"
  exact done ρ5 R6 c1 ⟨kind,hk8,c2,fun z=>absurd z hnf⟩ c3 c4
end
noncomputable abbrev FinP:MF→Hp→Loc→Prop:=fun mf _ _=>retOf mf=.bool true
noncomputable abbrev lawTail(k:Nat):List Stmt:=(fdBody (atTop 26)).drop k
section
variable{X:Cx}{σ:Hp}{ρ:Loc}{N:Nm}{S0:LS}
theorem main_loop{a:Nat}{Inv:Nat→LS→Prop}(hN:NumOk N)(hG:∀ t S,Inv t S→t≤6→Good N S)(hT:∀ t S p oct S',Inv t S→t≤5→p<2→oct.size≤3→Turn N p oct S S'→Inv (t+1) S')(h0:Inv 0 S0)
  (rest:∀ t S σ ρ,t≤6→Inv t S→SAt σ N S→RAt ρ N S.sf→ExSs X LG (lawTail 14) σ ρ FinP (fun _ _ _=>False)) (h:SAt σ N S0) (R:RAt ρ N S0.sf) (b1:lget "a" ρ=some (.int (a:Nat))):ExSs X LG (lawTail 13) σ ρ FinP (fun _ _ _=>False):=by
 refine ExSs.consK ?_;intro _ _
 have h5:a % 5<5:=Nat.mod_lt _ (by decide)
 refine c1_1 h.sup.x fun m1 hm1=>?_
 refine ExS.forIn rfl (by walk_at "mem") ?_
 walk_at "r"
 refine bin_mod (by decide) ?_
 rw [show ((a:Int).fmod 5)=((a % 5:Nat):Int) from fmodN a 5]
 refine bin_add ?_
 rw [show (2:Int)+((a % 5:Nat):Int)=((2+a % 5:Nat):Int) from rfl]
 have hn6:2+a % 5≤6:=by lia
 generalize 2+a % 5=n at hn6 ⊢
 walk_at "r"
 refine B.range hm1 ?_
 have h1:=h.keep (P:=nil) (.new (free_x hm1)) (σ':=upd σ (.x m1) (.range n)) fun a z=>z
 refine ⟨.rng n,_,⟨_,rfl,upd_self ..,by lia⟩,rfl,fun q σ' ρ'=>∃ S,Inv q S∧SAt σ' N S∧RAt ρ' N S.sf,⟨S0,h0,h1,R⟩,?_,?_,?_⟩
 ·intro q σ' ρ' _;exact rfl
 ·intro q σ' ρ' v;refine f1_3 fun S hI hs hr=>?_;rintro hv _ _
  rw [List.getElem?_map] at hv
  refine c1_2 (Option.map_eq_some_iff.mp hv) ?_;rintro j hj rfl
  refine c1_1 (List.getElem?_eq_some_iff.mp hj) fun hq hj=>?_
  rw [List.getElem_range] at hj
  rw [List.length_range] at hq
  subst hj
  refine (turn_head hs (hG _ _ hI (by lia)) hN (by lia) (hr.set (by decide +kernel)) lget_set_hit).mono ?_
  rintro mf σ2 ρ2 ⟨rfl,S',⟨p,hp,oct,ho,t⟩,hs',hr'⟩
  walk_at "go"
  exact ⟨S',hT _ _ _ _ _ hI (by lia) hp ho t,hs',hr'⟩
 ·intro σ' ρ';refine f1_3 fun S hI hs hr=>?_
  rw [List.length_map,List.length_range] at hI
  walk_at "go"
  exact rest n S σ' ρ' hn6 hI hs hr
end
structure RowOk(D:Dk):Prop where
 has:D.Has D.pres
 l:D.pres.length<60
 small:∀ n∈keysD D.pres,n.length≤500
structure CutOk(D:Dk)(ps:List Int):Prop where
 fits:Fits D.jour D.kept
 lj:D.jour.length≤20
 lk:D.kept.length≤20
 has:D.Has (cutDir D ((cutRow ps).getD 0 0))
 row:RowOk (D.cut ps)
section
variable{X:Cx}{c:Bool}{σ:Hp}{ρ:Loc}{N:Nm}{S0:LS}{i n:Nat}{a:MA}{qs:List Str}{D:Dk}{g:Gs}{js:List MA}
theorem cut_place{l:Nat}{ps:List Int}(hS:Sup σ)(h:Place σ i a qs)(hq:qs.length≤2)(hD:DAt σ i D g js)(C:CutOk D ps)(ha:σ (.x l)=some (.list (ps.map .int)))(hps:ps.length≤100) :
  MethJ X true 8 σ a "power_cut" [.ref (.x l)] (MadeP σ (D.cut ps) qs) (fun _ _=>False) :=
 MethJ.le (place_power_cut (n:=2) hS h (MethJ.disk hD rfl (by walk_at "lg") ((power_cut_ok hD hS ha hps C.fits C.lj C.lk C.has).mono (fun v σ' ⟨j,e,f,K,z⟩=>⟨j,_,_,_,e,.disk,f,K,z⟩) fun _ _ z=>z))) (by lia)
theorem row_place(hS:Sup σ)(h:Place σ i a qs)(hq:qs.length≤2)(hD:DAt σ i D g js)(O:RowOk D) :
  MethJ X c 8 σ a "row" [] (fun v σ'=>∃ k,v=.ref (.x k)∧σ (.x k)=none∧RowsX σ' k (stripRs qs (rowsOf D))∧Kp nil σ σ') (fun _ _=>False) :=
 MethJ.le ((place_row (n:=1) hS h (l:=rowsOf D) (by rw [rowsOf_len];have:=O.l;lia) (rowsOf_small O.small) (disk_row_J hS hD O.has O.l) σ (.refl _ _)).1) (by lia)
@[reducible] def kMethK(X:Cx)(G:Gm)(a:MA)(m:String)(σ:Hp)(Q:MV→Hp→Loc→Prop)(E:Addr→Hp→Loc→Prop)(vs:List MV)(σ₂:Hp)(ρ₂:Loc):Prop:=σ₂ a=σ a∧MethJ X G.c G.n σ₂ a m vs (At ρ₂ Q) (At ρ₂ E)
inductive MethKP(X:Cx)(G:Gm)(m:String)(pos:Pos)(args:List Expr)(Q:MV→Hp→Loc→Prop)(E:Addr→Hp→Loc→Prop)(ov:MV)(σ:Hp)(ρ:Loc):Prop
 | mk (a:MA) (C:Addr) (fs:List (String×MV)) (f:Addr) (e:ov=.ref a) (h:σ a=some (.inst C fs)) (M:methTab C m=some f) (n:lget m fs=none) (k:EvArgs X G pos args σ ρ (kMethK X G a m σ Q E) E)
theorem EvE.methK{G:Gm}{Q:MV→Hp→Loc→Prop}{E:Addr→Hp→Loc→Prop}{o:Expr}{m:String}{apos pos:Pos}{args:List Expr}(hG:G.b=true)
  (h:EvE X G o σ ρ (MethKP X G m pos args Q E) E)
  (hns:noSuper o) (hp:allPlain args=true) (hl:(apos.endLine==pos.line)=true) (hn:decide (args.length<30)=true):EvE X G (.Call (.Attribute o (Str.ofString m) apos) args [] pos) σ ρ Q E:=by
 refine EvE.meth (h.mono ?_) hns hp hl hn
 rintro v σ₁ ρ₁ ⟨a,C,fs,f,rfl,h1,h2,h3,h4⟩
 refine ⟨a,C,f,fs,rfl,h1,meth_ok X.w h2,h3,h4.mono ?_⟩
 intro vs σ₂ ρ₂;refine f0_2 fun e hM=>?_
 show CallJ X G.c G.n G.b _ _ _ _ _
 rw [hG]
 exact MethJ.call hM (by rw [e];exact h1) h2
theorem Place.cls(h:Place σ i a qs)(hD:DAt σ i D g js):(σ a=some (diskO i D g))∨(∃ b q,σ a=some (subO b q)):=by
 cases h with
 | disk=>exact .inl hD.disk
 | sub h e hq=>exact .inr ⟨_,_,e⟩
end
structure AlikeOk(N:Nm)(S:LS):Prop where
 al:∀ p<2,Alike S.D0 (S.Dp p) (N.Q p)
 hd:∀ p<2,∀ h∈S.hs p,∃ b:Array UInt8,(∃ q,S.D0.nd h.k0=some ⟨b,q⟩)∧(∃ q,(S.Dp p).nd h.kp=some ⟨b,q⟩)∧b.size≤800
 hl:∀ p<2,(S.hs p).length≤20
 sp:S.D0.spent - 2=((S.Dp 0).spent - 2)+((S.Dp 1).spent - 2)
theorem cmpNeI{a b:Int}{t:Bool}{σ:Hp}{k:Bool→Prop}(e:(a != b)=t)(h:k t):cmpR .NotEq (.int a) (.int b) σ k:=by subst e;exact h
section
variable{X:Cx}{σ:Hp}{ρ:Loc}{N:Nm}{S:LS}
theorem tail14(F:AlikeOk N S)(rest:∀ σ ρ,SAt σ N S→RAt ρ N S.sf→ExSs X LG (lawTail 16) σ ρ FinP (fun _ _ _=>False))(h:SAt σ N S)(R:RAt ρ N S.sf):ExSs X LG (lawTail 14) σ ρ FinP (fun _ _ _=>False):=by
 refine ExSs.consK ?_;intro _ _
 refine c1_1 h.sup.x fun m1 hm1=>?_
 refine ExS.forIn rfl (by walk_at "mem") ?_
 walk_at "r"
 refine B.range hm1 ?_
 have h1:=h.keep (P:=nil) (.new (free_x hm1)) (σ':=upd σ (.x m1) (.range 2)) fun a z=>z
 refine ⟨.rng 2,_,⟨_,rfl,upd_self ..,by lia⟩,rfl,fun q σ' ρ'=>SAt σ' N S∧RAt ρ' N S.sf,⟨h1,R⟩,?_,?_,?_⟩
 ·intro q σ' ρ' _;exact rfl
 ·intro p σ ρ v;refine f0_2 fun h hr=>?_;rintro hv _ _
  rw [List.getElem?_map] at hv
  refine c1_2 (Option.map_eq_some_iff.mp hv) ?_;rintro j hj rfl
  refine c1_1 (List.getElem?_eq_some_iff.mp hj) fun hq hj=>?_
  rw [List.getElem_range] at hj
  rw [List.length_range] at hq
  subst hj
  refine c2_1 h.d0 fun g0 js0 hD0=>?_
  refine c2_1 (h.dp p hq) fun gp jsp hDp=>?_
  refine c0_2 (h.n.sub p hq) fun e1 hP=>?_
  have hl:=h.n.len p hq
  have hr':RAt (lset "p" (.int (p:Nat)) ρ) N S.sf:=hr.set (by decide +kernel)
  have hpv:lget "p" (lset "p" (.int (p:Nat)) ρ)=some (.int (p:Nat)):=lget_set_hit
  generalize lset "p" (.int (p:Nat)) ρ=ρ1 at hr' hpv ⊢
  obtain ⟨r1,r2,r3,r4,r5,r6,r7,r8,r9⟩:=id hr'
  walk_at "r"
  refine ⟨_,SubR.list h.n.subs (by lia) (by lia) (idx2 (f:=fun q=>.ref (.x (N.sx q))) hq),?_⟩
  walk_at "r"
  refine ⟨_,SubR.list h.n.owns (by lia) (by lia) (idx2 (f:=fun q=>.ref (.d (N.ip q) .disk)) hq),?_⟩
  walk_at "r"
  refine ⟨_,SubR.list h.n.files (by lia) (by lia) (idx2 (f:=fun q=>.ref (.l (4+q))) hq),?_⟩
  walk_at "r"
  refine ((alike_ok h.sup hP hl.1 e1 hl.2 hD0 hDp (F.al p hq) (h.f p hq) (by have:=F.hl p hq;lia) (fun x hx=>⟨h.fh p hq x hx,F.hd p hq x hx⟩)).le (nle rfl)).mono ?_ nof
  intro v σ1;refine f0_2 ?_;rintro rfl K1
  have h1:=h.keep K1 fun a z=>z
  refine c2_1 h1.d0 fun g1 js1 hD1=>?_
  refine c0_2 (h1.n.sub p hq) fun f1 hP1=>?_
  have hdk:=hD1.disk
  refine ⟨true,rfl,And.intro (fun hb=>absurd hb (by decide)) (fun _=>?_)⟩
  walk_at "r"
  refine EvE.spent (G:=LG) (by decide) ?_ rfl
  walk_at "r"
  refine ⟨_,SubR.list h1.n.subs (by lia) (by lia) (idx2 (f:=fun q=>.ref (.x (N.sx q))) hq),?_⟩
  refine ⟨N.sx p,N.i0,N.pa p,N.qs p,N.pq p,S.D0,g1,js1,rfl,f1,hP1,hD1,by lia,?_⟩
  walk_at "r"
  refine cmpNeI (t:=false) (by simp) (And.intro (fun hb=>absurd hb (by decide)) (fun _=>?_))
  walk_at "r"
  walk_at "n"
  walk_at "r"
  exact ⟨h1,hr'⟩
 ·intro σ ρ;refine f0_2 fun h hr=>?_
  refine c2_1 h.d0 fun g0 js0 hD0=>?_
  refine c2_1 (h.dp 0 (by decide)) fun gp jsp hDp=>?_
  refine c2_1 (h.dp 1 (by decide)) fun gq jsq hDq=>?_
  have hd0:=hD0.disk
  have hd1:=hDp.disk
  have hd2:=hDq.disk
  obtain ⟨r1,r2,r3,r4,r5,r6,r7,r8,r9⟩:=id hr
  walk_at "r"
  refine EvE.attr ?_
  walk_at "r"
  refine ⟨_,SubR.list h.n.owns (by decide) (by decide) rfl,?_⟩
  refine ⟨_,_,_,_,rfl,hd1,rfl,by walk_at "lg",rfl,?_⟩
  walk_at "r"
  refine EvE.attr ?_
  walk_at "r"
  refine ⟨_,SubR.list h.n.owns (by decide) (by decide) rfl,?_⟩
  refine ⟨_,_,_,_,rfl,hd2,rfl,by walk_at "lg",rfl,?_⟩
  walk_at "r"
  refine cmpNeI (t:=false) (by have:=F.sp;simp;lia) (And.intro (fun hb=>absurd hb (by decide)) (fun _=>?_))
  walk_at "st"
  walk_at "go"
  exact rest σ ρ h hr
end
structure EAt(σ:Hp)(ρ:Loc)(N:Nm)(S:LS)(es:List Int)(e o:Nat):Prop where
 r:RAt ρ N S.sf
 ends:lget "ends" ρ=some (.ref (.x e))
 le:σ (.x e)=some (.list (es.map .int))
 old:lget "old" ρ=some (.ref (.x o))
 lo:RowsX σ o (rowsOf S.D0)
theorem EAt.keep{σ σ':Hp}{ρ:Loc}{N:Nm}{S:LS}{es:List Int}{e o:Nat}(h:EAt σ ρ N S es e o)(K:Kp nil σ σ'):EAt σ' ρ N S es e o :=
 ⟨h.r,h.ends,K.at h.le (fun z=>z),h.old,h.lo.keep K fun _ z=>z⟩
theorem EAt.set{σ:Hp}{ρ:Loc}{N:Nm}{S:LS}{es:List Int}{e o:Nat}{x:String}{v:MV}(h:EAt σ ρ N S es e o)(hx:x∉rNames)(h1:x≠"ends")(h2:x≠"old"):EAt σ (lset x v ρ) N S es e o :=
 ⟨h.r.set hx,lget_set_miss (beq_eq_false_iff_ne.mpr fun z=>h1 z.symm) h.ends,h.le,lget_set_miss (beq_eq_false_iff_ne.mpr fun z=>h2 z.symm) h.old,h.lo⟩
noncomputable def endsOf(N:Nm):List Int:=[draw N.ns 8,draw N.ns 9,draw N.ns 10,draw N.ns 11]
section
variable{X:Cx}{σ:Hp}{ρ:Loc}{Q:MV→Hp→Loc→Prop}{E:Addr→Hp→Loc→Prop}{R:MF→Hp→Loc→Prop}{N:Nm}{S:LS}
set_option tactic.hygienic true in
theorem seg16(hN:NumOk N)(hr:RowOk S.D0)(rest:∀ σ ρ e o pk,SAt σ N S→EAt σ ρ N S (endsOf N) e o→lget "picks" ρ=some (.ref (.x pk))→σ (.x pk)=some (.list [])→ExSs X LG (lawTail 19) σ ρ FinP (fun _ _ _=>False))(h:SAt σ N S)(R:RAt ρ N S.sf):ExSs X LG (lawTail 16) σ ρ FinP (fun _ _ _=>False):=by
 obtain ⟨r1,r2,r3,r4,r5,r6,r7,r8,r9⟩:=id R
 refine c1_1 h.sup.x fun m1 hm1=>?_
 refine ExSs.consK ?_;intro _ _
 refine ExS.assignComp (S':=lcSc _ "j" ["nums"] ["_law_draw"]) (fv:=["nums"]) rfl ⟨rfl,⟨by kernel_rfl,by decide +kernel,by decide +kernel,by decide +kernel,by decide +kernel,by decide +kernel⟩,rfl,rfl,by decide +kernel,by decide +kernel,by decide +kernel,rfl,rfl,by decide +kernel,rfl,by decide +kernel,by decide +kernel,by decide +kernel⟩ (by walk_at "mem") ?_
 walk_at "r"
 refine B.range hm1 ?_
 have K1:Kp nil σ (upd σ (.x m1) (.range 4)):=.new (free_x hm1)
 have e1:upd σ (.x m1) (.range 4) (.x m1)=some (.range 4):=upd_self ..
 generalize upd σ (.x m1) (.range 4)=σ1 at K1 e1 ⊢
 have h1:=h.keep K1 fun a z=>z
 refine ⟨.rng 4,(List.range 4).map fun j:Nat=>MV.int j,[("nums",.ref (.l 0))],fun t ys σ'=>t≤4∧σ'=σ1∧ys=(List.range t).map fun j=>MV.int (draw N.ns (8+j)),⟨_,rfl,e1,by lia⟩,⟨?_,⟨by decide,rfl,rfl⟩,?_,?_⟩,?_⟩
 ·intro y v hy
  unfold lget at hy
  split at hy
  ·rename_i e;subst e;cases hy;exact ⟨List.Mem.head _,r1⟩
  ·exact nos hy
 ·intro t ys σ';refine f0_3 ?_;rintro ht rfl rfl
  exact ⟨rfl,by rw [List.length_map,List.length_range];lia⟩
 ·intro t ys σ' v;refine f0_3 ?_;rintro ht hσ rfl;rintro hv
  have hσ':=hσ.symm
  subst hσ'
  rw [List.getElem?_map] at hv
  refine c1_2 (Option.map_eq_some_iff.mp hv) ?_;rintro j hj rfl
  refine c1_1 (List.getElem?_eq_some_iff.mp hj) fun hq hj=>?_
  rw [List.getElem_range] at hj
  rw [List.length_range] at hq
  subst hj
  refine EvIfs.nil (And.intro (fun _=>?_) (fun hb=>by cases hb))
  have g1:lget "nums" (lset "j" (.int (t:Nat)) [("nums",.ref (.l 0))])=some (.ref (.l 0)):=by walk_at "lg"
  have g2:lget "j" (lset "j" (.int (t:Nat)) [("nums",.ref (.l 0))])=some (.int (t:Nat)):=lget_set_hit
  generalize lset "j" (.int (t:Nat)) [("nums",MV.ref (.l 0))]=ρc at g1 g2 ⊢
  walk_at "r"
  rw [show (8:Int)+(t:Int)=((8+t:Nat):Int) from rfl]
  refine ((law_draw_ok (k:=8+t) h1.n.nums hN.pos (by have:=hN.le;lia) (by lia)).le (nle rfl)).mono ?_ nof
  intro v s0;refine f0_2 ?_;rintro rfl e0
  exact ⟨by lia,e0,by rw [List.range_succ,List.map_append];rfl⟩
 ·intro ys σ';refine f0_3 ?_;rintro _ hσ rfl
  have hσ':=hσ.symm
  subst hσ'
  refine c1_1 ((K1.sup h.sup).x) fun b hb=>?_
  have hle:(List.range ((List.range 4).map fun j:Nat=>MV.int j).length).map (fun j=>MV.int (draw N.ns (8+j)))=(endsOf N).map .int:=rfl
  rw [hle]
  refine ⟨.x b,hb,?_⟩
  have K2:Kp nil σ (upd σ1 (.x b) (.list ((endsOf N).map .int))):=K1.then_x hb
  have l2:upd σ1 (.x b) (.list ((endsOf N).map .int)) (.x b)=some (.list ((endsOf N).map .int)):=upd_self ..
  generalize upd σ1 (.x b) (.list ((endsOf N).map .int))=σ2 at K2 l2 ⊢
  refine c1_1 ((K2.sup h.sup).x) fun m3 hm3=>?_
  walk_at "r"
  refine EvE.list ?_
  walk_at "r"
  refine ⟨.x m3,hm3,nle rfl,?_⟩
  have K3:Kp nil σ2 (upd σ2 (.x m3) (.list [])):=.new (free_x hm3)
  have l3:upd σ2 (.x m3) (.list []) (.x m3)=some (.list []):=upd_self ..
  generalize upd σ2 (.x m3) (.list [])=σ3 at K3 l3 ⊢
  have h3:=h.keep (K2.trans K3) fun a z=>z
  refine c2_1 h3.d0 fun g0 js0 hD0=>?_
  have hdk:=hD0.disk
  walk_at "r"
  refine ((row_ok hD0 h3.sup hr.has hr.l).le (nle rfl)).mono ?_ nof
  intro v σ4;refine f1_4 ?_;rintro k rfl hk hR K4
  have l4:=K4.at (K3.at l2 fun z=>z) fun z=>z
  walk_at "go"
  refine rest σ4 _ b k m3 (h3.keep K4 fun a z=>z) ⟨?_,?_,l4,?_,hR⟩ ?_ (K4.at l3 fun z=>z)
  ·exact ((R.set (by decide +kernel)).set (by decide +kernel)).set (by decide +kernel)
  all_goals walk_at "lg"
end
noncomputable def stepsOf(S:LS)(p j:Nat):Int:=(cnt p (S.ow.take (S.sf+j)):Int) - (S.kp p:Int)
noncomputable def partOf(S:LS)(es:List Int)(p j pl:Nat):List (Str×Array UInt8):=(rowsOf ((S.Dp p).cut (stepsOf S p j::es.drop pl))).drop 1
structure CutsOk(N:Nm)(S:LS):Prop where
 c0:∀ ps,CutOk S.D0 ps
 cp:∀ p<2,∀ ps,CutOk (S.Dp p) ps
 one:∀ p<2,∀ ps,1≤((S.Dp p).cut ps).pres.length
 sf:S.sf≤S.ow.length
 ol:S.ow.length≤20
 eq0:∀ es j,es.length=4→j≤S.ow.length - S.sf→stripRs (N.Q 0) (rowsOf (S.D0.cut ((j:Int)::es)))=partOf S es 0 j 0
 eq1:∀ es j,es.length=4→j≤S.ow.length - S.sf→stripRs (N.Q 1) (rowsOf (S.D0.cut ((j:Int)::es)))=partOf S es 1 j (partOf S es 0 j 0).length
 pl:∀ es j,(partOf S es 0 j 0).length≤4
noncomputable def plOf(S:LS)(es:List Int)(j p:Nat):Nat:=if p=0 then 0 else if p=1 then (partOf S es 0 j 0).length else (partOf S es 0 j 0).length+(partOf S es 1 j (partOf S es 0 j 0).length).length
theorem CutsOk.eq{N:Nm}{S:LS}(C:CutsOk N S){p:Nat}(hp:p<2)(es:List Int)(he:es.length=4){j:Nat}(hj:j≤S.ow.length - S.sf):stripRs (N.Q p) (rowsOf (S.D0.cut ((j:Int)::es)))=partOf S es p j (plOf S es j p):=by
 have:p=0∨p=1:=by lia
 rcases this with rfl | rfl
 ·exact C.eq0 es j he hj
 ·exact C.eq1 es j he hj
theorem plOf_next{S:LS}{es:List Int}{j p:Nat}(hp:p<2):plOf S es j (p+1)=plOf S es j p+(partOf S es p j (plOf S es j p)).length:=by
 have:p=0∨p=1:=by lia
 rcases this with rfl | rfl
 ·show (partOf S es 0 j 0).length=0+(partOf S es 0 j 0).length;lia
 ·rfl
section
variable{X:Cx}{σ:Hp}{ρ:Loc}{N:Nm}{S:LS}{es:List Int}{e o:Nat}
theorem cut_turn{j p pk:Nat}(C:CutsOk N S)(hel:es.length=4)(hj:j≤S.ow.length - S.sf)(hp:p<2)(h:SAt σ N S)(T:EAt σ ρ N S es e o)(b1:lget "j" ρ=some (.int (j:Nat)))(b2:lget "p" ρ=some (.int (p:Nat)))
  (b3:lget "place" ρ=some (.int (plOf S es j p:Nat))) (b4:lget "picks" ρ=some (.ref (.x pk))) (l4:σ (.x pk)=some (.list (((j:Int)::es).map .int))) :
  ExSs X LG (forBody ((forBody (lawAt 19))[2]?.getD (.Pass default))) σ ρ (fun mf σ' ρ'=>mf=.next∧SAt σ' N S∧EAt σ' ρ' N S es e o∧lget "j" ρ'=some (.int (j:Nat)) ∧
   lget "place" ρ'=some (.int (plOf S es j (p+1):Nat))∧lget "picks" ρ'=some (.ref (.x pk))∧σ' (.x pk)=some (.list (((j:Int)::es).map .int))) (fun _ _ _=>False):=by
 obtain ⟨⟨r1,r2,r3,r4,r5,r6,r7,r8,r9⟩,t1,t2,t3,t4⟩:=id T
 walk_at "c"
 refine c1_1 h.sup.x fun m1 hm1=>?_
 refine count_comp (p:=p) ⟨rfl,⟨by kernel_rfl,by decide +kernel,by decide +kernel,by decide +kernel,by decide +kernel,by decide +kernel⟩,rfl,rfl,by decide +kernel,by decide +kernel,by decide +kernel,rfl,rfl,by decide +kernel,rfl,by decide +kernel,by decide +kernel,by decide +kernel⟩ ?_ (by intro _ _;rfl)
 refine EvE.upto ?_
 walk_at "r"
 refine ⟨S.sf+j,rfl,.x m1,hm1,.inl ⟨_,h.ow,by rw [List.length_map];have:=C.ol;lia,?_⟩⟩
 rw [← List.map_take]
 have K1:Kp nil σ (upd σ (.x m1) (.list ((S.ow.take (S.sf+j)).map fun (o:Nat)=>MV.int o))):=.new (free_x hm1)
 have l1:upd σ (.x m1) (.list ((S.ow.take (S.sf+j)).map fun (o:Nat)=>MV.int o)) (.x m1)=some (.list ((S.ow.take (S.sf+j)).map fun (o:Nat)=>MV.int o)):=upd_self ..
 generalize upd σ (.x m1) (.list ((S.ow.take (S.sf+j)).map fun (o:Nat)=>MV.int o))=σ1 at K1 l1 ⊢
 refine c1_1 ((K1.sup h.sup).x) fun m2 hm2=>?_
 have hle1:(S.ow.take (S.sf+j)).length≤20:=by rw [List.length_take];exact Nat.le_trans (Nat.min_le_right ..) C.ol
 refine ⟨.x m1,.x m2,_,rfl,l1,by lia,b2,hm2,?_⟩
 have hle2:((S.ow.take (S.sf+j)).filter fun q=>q==p).length≤20:=Nat.le_trans (List.length_filter_le ..) hle1
 have K2:Kp nil σ (upd σ1 (.x m2) (.list (((S.ow.take (S.sf+j)).filter fun q=>q==p).map fun (o:Nat)=>MV.int o))):=K1.then_x hm2
 have l2:upd σ1 (.x m2) (.list (((S.ow.take (S.sf+j)).filter fun q=>q==p).map fun (o:Nat)=>MV.int o)) (.x m2)=some (.list (((S.ow.take (S.sf+j)).filter fun q=>q==p).map fun (o:Nat)=>MV.int o)):=upd_self ..
 generalize upd σ1 (.x m2) (.list (((S.ow.take (S.sf+j)).filter fun q=>q==p).map fun (o:Nat)=>MV.int o))=σ2 at K2 l2 ⊢
 have h2:=h.keep K2 fun a z=>z
 walk_at "r"
 refine B.len_list l2 (by rw [List.length_map];lia) ?_
 rw [List.length_map]
 walk_at "r"
 refine ⟨_,SubR.list h2.kp (by lia) (by lia) (idx2 (f:=fun q=>.int (S.kp q)) hp),?_⟩
 walk_at "r"
 rw [show ((((S.ow.take (S.sf+j)).filter fun q=>q==p).length:Nat):Int) - ((S.kp p:Nat):Int)=stepsOf S p j from rfl]
 refine EvE.from ?_
 refine EvE.methJ rfl ?_ rfl rfl rfl rfl
 refine EvE.methK rfl ?_ rfl rfl rfl rfl
 walk_at "r"
 refine ⟨_,SubR.list h2.n.owns (by lia) (by lia) (idx2 (f:=fun q=>.ref (.d (N.ip q) .disk)) hp),?_⟩
 refine c2_1 (h2.dp p hp) fun gp jsp hDp=>?_
 have hdk:=hDp.disk
 refine ⟨.d (N.ip p) .disk,387,_,370,rfl,hdk,rfl,by walk_at "lg",?_⟩
 refine c1_1 h2.sup.x fun m3 hm3=>?_
 refine EvArgs.cons ?_ rfl
 refine EvE.addL ?_
 refine EvE.list ?_
 walk_at "r"
 refine ⟨.x m3,hm3,nle rfl,?_⟩
 have K3:Kp nil σ2 (upd σ2 (.x m3) (.list [.int (stepsOf S p j)])):=.new (free_x hm3)
 have l3:upd σ2 (.x m3) (.list [.int (stepsOf S p j)]) (.x m3)=some (.list [.int (stepsOf S p j)]):=upd_self ..
 generalize upd σ2 (.x m3) (.list [.int (stepsOf S p j)])=σ3 at K3 l3 ⊢
 have t2':=K3.at (K2.at t2 fun z=>z) fun z=>z
 refine c1_1 ((K3.sup h2.sup).x) fun m4 hm4=>?_
 refine EvE.from ?_
 walk_at "r"
 refine ⟨plOf S es j p,rfl,.x m4,hm4,.inl ⟨_,t2',by rw [List.length_map];lia,?_⟩⟩
 rw [← List.map_drop]
 have K4:Kp nil σ2 (upd σ3 (.x m4) (.list ((es.drop (plOf S es j p)).map .int))):=K3.then_x hm4
 have l4':upd σ3 (.x m4) (.list ((es.drop (plOf S es j p)).map .int)) (.x m4)=some (.list ((es.drop (plOf S es j p)).map .int)):=upd_self ..
 have l3':upd σ3 (.x m4) (.list ((es.drop (plOf S es j p)).map .int)) (.x m3)=some (.list [.int (stepsOf S p j)]):=upd_at (ne_fresh l3 hm4) l3
 generalize upd σ3 (.x m4) (.list ((es.drop (plOf S es j p)).map .int))=σ4 at K4 l4' l3' ⊢
 refine c1_1 ((K4.sup h2.sup).x) fun m5 hm5=>?_
 refine ⟨.x m3,.x m4,.x m5,_,_,rfl,rfl,hm5,l3',l4',by rw [List.length_map,List.length_drop];simp;lia,?_⟩
 have K5:Kp nil σ2 (upd σ4 (.x m5) (.list ([.int (stepsOf S p j)]++(es.drop (plOf S es j p)).map .int))):=K4.then_x hm5
 have l5:upd σ4 (.x m5) (.list ([.int (stepsOf S p j)]++(es.drop (plOf S es j p)).map .int)) (.x m5)=some (.list ((stepsOf S p j::es.drop (plOf S es j p)).map .int)):=upd_self ..
 generalize upd σ4 (.x m5) (.list ([.int (stepsOf S p j)]++(es.drop (plOf S es j p)).map .int))=σ5 at K5 l5 ⊢
 refine EvArgs.nil ?_
 have hDp5:=hDp.keep K5 (fun _ z=>z) fun _ z=>z
 refine ⟨(K5.at hdk fun z=>z).trans hdk.symm,((cut_place (K5.sup h2.sup) (.disk) (by decide) hDp5 (C.cp p hp _) l5 (by rw [List.length_cons,List.length_drop];lia)).le (n':=10) (by decide)).mono ?_ nof⟩
 intro v σ6;refine f4_5 ?_;rintro jj g' js' a' rfl hP' hf' K6 hD'
 refine ⟨a',[],rfl,((row_place ((K5.trans K6).sup h2.sup) hP' (by decide) hD' (C.cp p hp _).row).le (n':=10) (by decide)).mono ?_ nof,?_⟩
 rotate_left
 ·refine EvArgs.nil ?_
  exact ⟨rfl,rfl,rfl⟩
 rintro v σ7 ⟨k,rfl,hk,⟨ks,hks,hPr⟩,K7⟩
 have K27:Kp nil σ2 σ7:=(K5.trans K6).trans K7
 refine c1_1 ((K27.sup h2.sup).x) fun m8 hm8=>?_
 have hlen:(refsX ks).length=((S.Dp p).cut (stepsOf S p j::es.drop (plOf S es j p))).pres.length:=by unfold refsX;rw [List.length_map,hPr.length];exact rowsOf_len _
 have hcl:=(C.cp p hp (stepsOf S p j::es.drop (plOf S es j p))).row.l
 walk_at "r"
 refine ⟨1,rfl,.x m8,hm8,.inr ⟨_,hks,by lia,Nat.le_refl _,by rw [hlen];exact C.one p hp _,?_⟩⟩
 have K8:Kp nil σ7 (upd σ7 (.x m8) (.tup ((refsX ks).drop 1))):=.new (free_x hm8)
 have hR8:RowsX (upd σ7 (.x m8) (.tup ((refsX ks).drop 1))) m8 (partOf S es p j (plOf S es j p)):=RowsX.drop (m:=0) (hPr.keep K8 fun _ z=>z) (upd_self ..)
 have K28:=K27.trans K8
 generalize upd σ7 (.x m8) (.tup ((refsX ks).drop 1))=σ8 at K28 hR8 ⊢
 have h8:=h2.keep K28 fun a z=>z
 have l8:=K28.at (K2.at l4 fun z=>z) fun z=>z
 have T8:EAt σ8 (lset "there" (.ref (.x m8)) (lset "steps" (.int (stepsOf S p j)) ρ)) N S es e o:=((T.keep (K2.trans K28)).set (by decide +kernel) (by decide +kernel) (by decide +kernel)).set (by decide +kernel) (by decide +kernel) (by decide +kernel)
 walk_at "st"
 have c1:lget "j" (lset "there" (.ref (.x m8)) (lset "steps" (.int (stepsOf S p j)) ρ))=some (.int (j:Nat)):=by walk_at "lg"
 have c2:lget "p" (lset "there" (.ref (.x m8)) (lset "steps" (.int (stepsOf S p j)) ρ))=some (.int (p:Nat)):=by walk_at "lg"
 have c3:lget "place" (lset "there" (.ref (.x m8)) (lset "steps" (.int (stepsOf S p j)) ρ))=some (.int (plOf S es j p:Nat)):=by walk_at "lg"
 have c4:lget "picks" (lset "there" (.ref (.x m8)) (lset "steps" (.int (stepsOf S p j)) ρ))=some (.ref (.x pk)):=by walk_at "lg"
 have c5:lget "there" (lset "there" (.ref (.x m8)) (lset "steps" (.int (stepsOf S p j)) ρ))=some (.ref (.x m8)):=by walk_at "lg"
 generalize lset "there" (.ref (.x m8)) (lset "steps" (.int (stepsOf S p j)) ρ)=ρ8 at T8 c1 c2 c3 c4 c5 ⊢
 clear K28 K27 hPr hks hP' hD' K6 K5 l5 K4 l4' l3' K3 l3 hDp5 K7 hk r1 r2 r3 r4 r5 r6 r7 r8 r9 t1 t2 t3 t4
 obtain ⟨⟨r1,r2,r3,r4,r5,r6,r7,r8,r9⟩,t1,t2,t3,t4⟩:=id T8
 refine c2_1 h8.d0 fun g0 js0 hD0=>?_
 refine c0_2 (h8.n.sub p hp) fun e1 hP=>?_
 have hl:=h8.n.len p hp
 walk_at "go"
 refine ExSs.consK ?_;intro _ _
 refine ExS.ifte ?_
 refine EvT.cmp ?_ rfl
 refine EvE.methJ rfl ?_ rfl rfl rfl rfl
 refine EvE.methJ rfl ?_ rfl rfl rfl rfl
 walk_at "r"
 refine ⟨_,SubR.list h8.n.subs (by lia) (by lia) (idx2 (f:=fun q=>.ref (.x (N.sx q))) hp),?_⟩
 refine ⟨.x (N.sx p),[.ref (.x pk)],rfl,((cut_place h8.sup (.sub hP e1 hl.2) (by rw [List.length_append,List.length_singleton];lia) hD0 (C.c0 _) l8 (by rw [List.length_cons];lia)).le (n':=10) (by decide)).mono ?_ nof,?_⟩
 rotate_left
 ·walk_at "r"
  exact ⟨rfl,rfl,rfl⟩
 intro v σ9;refine f4_5 ?_;rintro jj g' js' a' rfl hP' hf' K9 hD'
 refine ⟨a',[],rfl,((row_place (K9.sup h8.sup) hP' (by rw [List.length_append,List.length_singleton];lia) hD' (C.c0 _).row).le (n':=10) (by decide)).mono ?_ nof,?_⟩
 rotate_left
 ·refine EvArgs.nil ?_
  exact ⟨rfl,rfl,rfl⟩
 intro v σa;refine f1_4 ?_;rintro ka rfl hka hRa Ka
 have KA:=K9.trans Ka
 have hRt:=hR8.keep KA fun _ z=>z
 walk_at "r"
 refine Or.inr ⟨_,_,hRa.rows,hRt.rows,?_⟩
 refine And.intro (fun hb=>absurd hb (by
  have:=C.eq hp es hel hj
  unfold Nm.Q at this
  rw [this];simp)) (fun _=>?_)
 walk_at "st"
 walk_at "st"
 refine c1_2 hRt fun kt hkt hPt=>?_
 have hlt:(refsX kt).length=(partOf S es p j (plOf S es j p)).length:=by unfold refsX;rw [List.length_map,hPt.length]
 have hlt2:(partOf S es p j (plOf S es j p)).length≤100:=by unfold partOf;rw [List.length_drop,rowsOf_len];lia
 walk_at "r"
 refine B.len_tup hkt (by lia) ?_
 rw [hlt]
 walk_at "r"
 refine ⟨_,_,rfl,rfl,?_⟩
 walk_at "go"
 refine ⟨rfl,h8.keep KA fun a z=>z,(T8.keep KA).set (by decide +kernel) (by decide +kernel) (by decide +kernel),by walk_at "lg",?_,by walk_at "lg",KA.at l8 fun z=>z⟩
 rw [plOf_next hp]
 exact lget_set_hit
structure PAt(σ:Hp)(ρ:Loc)(pk:Nat)(ps:List Int):Prop where
 v:lget "picks" ρ=some (.ref (.x pk))
 l:σ (.x pk)=some (.list (ps.map .int))
 n:ps.length≤10
theorem cut_loop(C:CutsOk N S)(hel:es.length=4)(rest:∀ σ ρ pk ps,SAt σ N S→EAt σ ρ N S es e o→PAt σ ρ pk ps→ExSs X LG (lawTail 20) σ ρ FinP (fun _ _ _=>False)){pk:Nat}(h:SAt σ N S)(T:EAt σ ρ N S es e o)
  (b:lget "picks" ρ=some (.ref (.x pk))) (l:σ (.x pk)=some (.list [])):ExSs X LG (lawTail 19) σ ρ FinP (fun _ _ _=>False):=by
 obtain ⟨⟨r1,r2,r3,r4,r5,r6,r7,r8,r9⟩,t1,t2,t3,t4⟩:=id T
 refine c1_1 h.sup.x fun m1 hm1=>?_
 have hol:=C.ol
 have hsf:=C.sf
 refine ExSs.consK ?_;intro _ _
 refine ExS.forIn rfl (by walk_at "mem") ?_
 walk_at "r"
 refine B.len_list h.ow (by rw [List.length_map];lia) ?_
 rw [List.length_map]
 walk_at "r"
 rw [show (S.ow.length:Int) - (S.sf:Int)+1=((S.ow.length - S.sf+1:Nat):Int) by rw [Int.natCast_add,Int.ofNat_sub C.sf];rfl]
 refine B.range hm1 ?_
 have K1:Kp nil σ (upd σ (.x m1) (.range ((S.ow.length - S.sf+1:Nat):Int))):=.new (free_x hm1)
 refine ⟨.rng (S.ow.length - S.sf+1),(List.range (S.ow.length - S.sf+1)).map fun j:Nat=>MV.int j,⟨_,rfl,upd_self ..,by lia⟩,rfl,fun q σ' ρ'=>SAt σ' N S∧EAt σ' ρ' N S es e o∧∃ pk ps,PAt σ' ρ' pk ps,⟨h.keep K1 fun a z=>z,T.keep K1,pk,[],b,K1.at l fun z=>z,Nat.zero_le _⟩,fun _ _ _ _=>rfl,?_,?_⟩
 ·clear r1 r2 r3 r4 r5 r6 r7 r8 r9 t1 t2 t3 t4 T h K1 l b hm1
  intro j σ ρ v;refine f0_3 fun h T _=>?_;rintro hv _ _
  rw [List.getElem?_map] at hv
  refine c1_2 (Option.map_eq_some_iff.mp hv) ?_;rintro j' hj' rfl
  refine c1_1 (List.getElem?_eq_some_iff.mp hj') fun hq hj'=>?_
  rw [List.getElem_range] at hj'
  rw [List.length_range] at hq
  subst hj'
  have hT:=T.set (x:="j") (v:=.int (j:Nat)) (by decide +kernel) (by decide +kernel) (by decide +kernel)
  have b1:lget "j" (lset "j" (.int (j:Nat)) ρ)=some (.int (j:Nat)):=lget_set_hit
  generalize lset "j" (.int (j:Nat)) ρ=ρ1 at hT b1 ⊢
  obtain ⟨⟨r1,r2,r3,r4,r5,r6,r7,r8,r9⟩,t1,t2,t3,t4⟩:=id hT
  refine c1_1 h.sup.x fun m2 hm2=>?_
  walk_at "st"
  refine ExS.assign (by walk_at "mem") ?_ rfl
  refine EvE.addL ?_
  refine EvE.list ?_
  walk_at "r"
  refine ⟨.x m2,hm2,nle rfl,?_⟩
  have K2:Kp nil σ (upd σ (.x m2) (.list [.int (j:Nat)])):=.new (free_x hm2)
  have l2:upd σ (.x m2) (.list [.int (j:Nat)]) (.x m2)=some (.list [.int (j:Nat)]):=upd_self ..
  generalize upd σ (.x m2) (.list [.int (j:Nat)])=σ2 at K2 l2 ⊢
  have t2':=K2.at t2 fun z=>z
  refine c1_1 ((K2.sup h.sup).x) fun m3 hm3=>?_
  walk_at "r"
  refine ⟨.x m2,.x e,.x m3,_,_,rfl,rfl,hm3,l2,t2',by rw [List.length_map];simp;lia,?_⟩
  have K3:Kp nil σ (upd σ2 (.x m3) (.list ([.int (j:Nat)]++es.map .int))):=K2.then_x hm3
  have l3:upd σ2 (.x m3) (.list ([.int (j:Nat)]++es.map .int)) (.x m3)=some (.list (((j:Int)::es).map .int)):=upd_self ..
  generalize upd σ2 (.x m3) (.list ([.int (j:Nat)]++es.map .int))=σ3 at K3 l3 ⊢
  have h3:=h.keep K3 fun a z=>z
  have T3:EAt σ3 (lset "place" (.int 0) (lset "picks" (.ref (.x m3)) ρ1)) N S es e o:=((hT.keep K3).set (by decide +kernel) (by decide +kernel) (by decide +kernel)).set (by decide +kernel) (by decide +kernel) (by decide +kernel)
  walk_at "st"
  walk_at "st"
  walk_at "st"
  walk_at "st"
  walk_at "go"
  have c1:lget "j" (lset "place" (.int 0) (lset "picks" (.ref (.x m3)) ρ1))=some (.int (j:Nat)):=by walk_at "lg"
  have c3:lget "place" (lset "place" (.int 0) (lset "picks" (.ref (.x m3)) ρ1))=some (.int (plOf S es j 0:Nat)):=lget_set_hit
  have c4:lget "picks" (lset "place" (.int 0) (lset "picks" (.ref (.x m3)) ρ1))=some (.ref (.x m3)):=by walk_at "lg"
  generalize lset "place" (.int 0) (lset "picks" (.ref (.x m3)) ρ1)=ρ3 at T3 c1 c3 c4 ⊢
  clear r1 r2 r3 r4 r5 r6 r7 r8 r9 t1 t2 t3 t4 t2' hT b1
  refine c1_1 h3.sup.x fun m4 hm4=>?_
  refine ExSs.consK ?_;intro _ _
  refine ExS.forIn rfl (by walk_at "mem") ?_
  walk_at "r"
  refine B.range hm4 ?_
  have K4:Kp nil σ3 (upd σ3 (.x m4) (.range 2)):=.new (free_x hm4)
  refine ⟨.rng 2,(List.range 2).map fun j:Nat=>MV.int j,⟨_,rfl,upd_self ..,by lia⟩,rfl,fun q σ' ρ'=>SAt σ' N S∧EAt σ' ρ' N S es e o∧lget "j" ρ'=some (.int (j:Nat)) ∧
   lget "place" ρ'=some (.int (plOf S es j q:Nat))∧lget "picks" ρ'=some (.ref (.x m3))∧σ' (.x m3)=some (.list (((j:Int)::es).map .int)),⟨h3.keep K4 fun a z=>z,T3.keep K4,c1,c3,c4,K4.at l3 fun z=>z⟩,fun _ _ _ _=>rfl,?_,?_⟩
  ·intro p σ ρ v;refine f0_6 fun h T d1 d2 d3 d4=>?_;rintro hv _ _
   rw [List.getElem?_map] at hv
   refine c1_2 (Option.map_eq_some_iff.mp hv) ?_;rintro j' hj' rfl
   refine c1_1 (List.getElem?_eq_some_iff.mp hj') fun hp hj'=>?_
   rw [List.getElem_range] at hj'
   rw [List.length_range] at hp
   subst hj'
   refine (cut_turn (pk:=m3) C hel (by lia) hp h (T.set (by decide +kernel) (by decide +kernel) (by decide +kernel)) (by walk_at "lg") lget_set_hit (by walk_at "lg") (by walk_at "lg") d4).mono ?_
   intro mf σ' ρ';refine f0_7 ?_;rintro rfl a1 a2 a3 a4 a5 a6
   walk_at "go"
   exact ⟨a1,a2,a3,a4,a5,a6⟩
  ·intro σ' ρ';refine f0_6 fun a1 a2 a3 a4 a5 a6=>?_
   walk_at "st"
   walk_at "go"
   exact ⟨a1,a2,m3,_,a5,a6,by rw [List.length_cons];lia⟩
 ·rintro σ' ρ' ⟨hs,ht,pk,ps,hp⟩
  walk_at "go"
  exact rest σ' ρ' pk ps hs ht hp
end
structure CopyOk(D:Dk):Prop where
 nodup:D.reg.Nodup
 hr:∀ k∈D.reg,1≤k∧k≤D.made∧∃ n,D.nd k=some n∧n.data.size≤800
 hl:D.reg.length<60
 hk:D.kept.length≤60
 hp:D.pres.length≤60
 hj:D.jour.length≤60
 row:RowOk D.copyD
 cut:∀ ps,CutOk D.copyD ps
 rows:rowsOf D.copyD=rowsOf D
 cuts:∀ ps,rowsOf (D.copyD.cut ps)=rowsOf (D.cut ps)
section
variable{X:Cx}{σ:Hp}{ρ:Loc}{N:Nm}{S:LS}{es:List Int}{e o i:Nat}{a:MA}{qs:List Str}{D:Dk}{g:Gs}{js:List MA}
theorem copy_place(hS:Sup σ)(h:Place σ i a qs)(hq:qs.length≤2)(hD:DAt σ i D g js)(C:CopyOk D):MethJ X true 8 σ a "copy" [] (MadeP σ D.copyD qs) (fun _ _=>False) :=
 MethJ.le (place_copy (n:=2) hS h (MethJ.disk hD rfl (by walk_at "lg") ((copy_ok hD hS C.nodup C.hr C.hl C.hk C.hp C.hj).mono (fun v σ' ⟨j,g',js',e,f,K,z⟩=>⟨j,g',js',_,e,.disk,f,K,z⟩) fun _ _ z=>z))) (by lia)
theorem Place.sub1{q:Str}(h:Place σ i a qs)(e:qs=[q]):∃ m,a=.x m∧σ (.x m)=some (subO (.d i .disk) q):=by
 cases h with
 | disk=>cases e
 | @sub m a' qs' q' h' e' hq' =>
  have hqn:qs'=[]:=by
   have:=congrArg List.length e
   simp at this
   exact this
  subst hqn
  cases e
  have:∀ {b l},Place σ i b l→l=[]→b=.d i .disk:=by
   intro b l hb hl
   cases hb with
   | disk=>rfl
   | sub _ _ _=>simp at hl
  obtain rfl:=this h' rfl
  exact ⟨_,rfl,e'⟩
theorem seg20(C:CutsOk N S)(Y:CopyOk S.D0)(O:RowOk S.D0)(hq0:N.qs 0=[])(rest:∀ σ ρ,SAt σ N S→EAt σ ρ N S es e o→ExSs X LG (lawTail 22) σ ρ FinP (fun _ _ _=>False)){pk:Nat}{ps:List Int}(h:SAt σ N S)(T:EAt σ ρ N S es e o)(P:PAt σ ρ pk ps) :
  ExSs X LG (lawTail 20) σ ρ FinP (fun _ _ _=>False):=by
 obtain ⟨⟨r1,r2,r3,r4,r5,r6,r7,r8,r9⟩,t1,t2,t3,t4⟩:=id T
 refine ExSs.consK ?_;intro _ _
 refine ExS.forIn rfl (by walk_at "mem") ?_
 walk_at "r"
 refine ⟨.list (.l 2),_,rfl,h.n.subs,fun q σ' ρ'=>SAt σ' N S∧EAt σ' ρ' N S es e o∧PAt σ' ρ' pk ps,⟨h,T,P⟩,fun _ _ _ z=>z.1.n.subs,?_,?_⟩
 ·clear r1 r2 r3 r4 r5 r6 r7 r8 r9 t1 t2 t3 t4 T P h
  intro p σ ρ v;refine f0_3 fun h T P=>?_;rintro hv _ _
  have hpv:p<2∧v=.ref (.x (N.sx p)):=by
   match p,hv with
   | 0,hv=>cases hv;exact ⟨by decide,rfl⟩
   | 1,hv=>cases hv;exact ⟨by decide,rfl⟩
  refine c0_2 hpv ?_;rintro hp rfl
  have hT:=T.set (x:="sub") (v:=.ref (.x (N.sx p))) (by decide +kernel) (by decide +kernel) (by decide +kernel)
  have b1:lget "sub" (lset "sub" (.ref (.x (N.sx p))) ρ)=some (.ref (.x (N.sx p))):=lget_set_hit
  have b2:lget "picks" (lset "sub" (.ref (.x (N.sx p))) ρ)=some (.ref (.x pk)):=lget_set_miss (by decide +kernel) P.v
  generalize lset "sub" (.ref (.x (N.sx p))) ρ=ρ1 at hT b1 b2 ⊢
  refine c2_1 h.d0 fun g0 js0 hD0=>?_
  refine c0_2 (h.n.sub p hp) fun e1 hP=>?_
  have hl:=h.n.len p hp
  have hql:(N.qs p++[N.pq p]).length≤2:=by rw [List.length_append,List.length_singleton];lia
  have hPp:=Place.sub hP e1 hl.2
  obtain ⟨⟨r1,r2,r3,r4,r5,r6,r7,r8,r9⟩,t1,t2,t3,t4⟩:=id hT
  refine ExSs.consK ?_;intro _ _
  refine ExS.ifte ?_
  refine EvT.cmp ?_ rfl
  refine EvE.methJ rfl ?_ rfl rfl rfl rfl
  refine EvE.methJ rfl ?_ rfl rfl rfl rfl
  refine EvE.methJ rfl ?_ rfl rfl rfl rfl
  walk_at "r"
  refine ⟨.x (N.sx p),[],rfl,((copy_place h.sup hPp hql hD0 Y).le (n':=10) (by decide)).mono ?_ nof,?_⟩
  rotate_left
  ·refine EvArgs.nil ?_
   exact ⟨rfl,rfl,rfl⟩
  intro v σ1;refine f4_5 ?_;rintro j1 g1 js1 a1 rfl hP1 hf1 K1 hD1
  refine ⟨a1,[.ref (.x pk)],rfl,((cut_place (K1.sup h.sup) hP1 hql hD1 (Y.cut _) (K1.at P.l fun z=>z) (by have:=P.n;lia)).le (n':=10) (by decide)).mono ?_ nof,?_⟩
  rotate_left
  ·walk_at "r"
   exact ⟨rfl,rfl,rfl⟩
  intro v σ2;refine f4_5 ?_;rintro j2 g2 js2 a2 rfl hP2 hf2 K2 hD2
  have K12:=K1.trans K2
  refine ⟨a2,[],rfl,((row_place (K12.sup h.sup) hP2 hql hD2 (Y.cut _).row).le (n':=10) (by decide)).mono ?_ nof,?_⟩
  rotate_left
  ·refine EvArgs.nil ?_
   exact ⟨rfl,rfl,rfl⟩
  intro v σ3;refine f1_4 ?_;rintro k3 rfl hk3 hR3 K3
  have K13:=K12.trans K3
  have h3:=h.keep K13 fun a z=>z
  have hP3:=hPp.keep K13 fun _ z=>z
  have hD3:=hD0.keep K13 (fun _ z=>z) fun _ z=>z
  refine EvE.methJ rfl ?_ rfl rfl rfl rfl
  refine EvE.methJ rfl ?_ rfl rfl rfl rfl
  walk_at "r"
  refine ⟨.x (N.sx p),[.ref (.x pk)],rfl,((cut_place h3.sup hP3 hql hD3 (C.c0 _) (K13.at P.l fun z=>z) (by have:=P.n;lia)).le (n':=10) (by decide)).mono ?_ nof,?_⟩
  rotate_left
  ·walk_at "r"
   exact ⟨rfl,rfl,rfl⟩
  intro v σ4;refine f4_5 ?_;rintro j4 g4 js4 a4 rfl hP4 hf4 K4 hD4
  refine ⟨a4,[],rfl,((row_place (K4.sup h3.sup) hP4 hql hD4 (C.c0 _).row).le (n':=10) (by decide)).mono ?_ nof,?_⟩
  rotate_left
  ·refine EvArgs.nil ?_
   exact ⟨rfl,rfl,rfl⟩
  intro v σ5;refine f1_4 ?_;rintro k5 rfl hk5 hR5 K5
  have K15:=K13.trans (K4.trans K5)
  refine Or.inr ⟨_,_,(hR3.keep (K4.trans K5) fun _ z=>z).rows,hR5.rows,?_⟩
  refine And.intro (fun hb=>absurd hb (by rw [Y.cuts];simp)) (fun _=>?_)
  walk_at "st"
  walk_at "st"
  walk_at "go"
  exact ⟨h.keep K15 fun a z=>z,hT.keep K15,b2,K15.at P.l fun z=>z,P.n⟩
 ·clear r1 r2 r3 r4 r5 r6 r7 r8 r9 t1 t2 t3 t4 T P h
  intro σ ρ;refine f0_3 fun h T P=>?_
  obtain ⟨⟨r1,r2,r3,r4,r5,r6,r7,r8,r9⟩,t1,t2,t3,t4⟩:=id T
  refine c2_1 h.d0 fun g0 js0 hD0=>?_
  refine c0_2 (h.n.sub 0 (by decide)) fun e1 hP=>?_
  have hl:=h.n.len 0 (by decide)
  have hql:(N.qs 0++[N.pq 0]).length≤2:=by rw [List.length_append,List.length_singleton];lia
  have hPp:=Place.sub hP e1 hl.2
  have b2:=P.v
  walk_at "st"
  walk_at "go"
  refine ExSs.consK ?_;intro _ _
  refine ExS.ifte ?_
  refine EvT.bool ?_
  refine EvTs.cons ?_
  refine EvT.cmp ?_ rfl
  refine EvE.methJ rfl ?_ rfl rfl rfl rfl
  refine EvE.attr ?_
  refine EvE.methJ rfl ?_ rfl rfl rfl rfl
  walk_at "r"
  refine ⟨_,SubR.list h.n.subs (by decide) (by decide) rfl,?_⟩
  refine ⟨.x (N.sx 0),[.ref (.x pk)],rfl,((cut_place h.sup hPp hql hD0 (C.c0 _) P.l (by have:=P.n;lia)).le (n':=10) (by decide)).mono ?_ nof,?_⟩
  rotate_left
  ·walk_at "r"
   exact ⟨rfl,rfl,rfl⟩
  intro v σ1;refine f4_5 ?_;rintro j1 g1 js1 a1 rfl hP1 hf1 K1 hD1
  obtain ⟨m,q,rfl,em⟩:∃ m q,a1=.x m∧σ1 (.x m)=some (subO (.d j1 .disk) q):=by
   refine c1_2 (Place.sub1 hP1 (by rw [hq0];rfl)) fun m e1 e2=>?_
   exact ⟨m,_,e1,e2⟩
  refine ⟨_,_,_,_,rfl,em,rfl,by walk_at "lg",rfl,?_⟩
  refine ⟨.d j1 .disk,[],rfl,((row_place (K1.sup h.sup) .disk (by decide) hD1 (C.c0 _).row).le (n':=10) (by decide)).mono ?_ nof,?_⟩
  rotate_left
  ·refine EvArgs.nil ?_
   exact ⟨rfl,rfl,rfl⟩
  intro v σ2;refine f1_4 ?_;rintro k2 rfl hk2 hR2 K2
  have K12:=K1.trans K2
  have h2:=h.keep K12 fun a z=>z
  have hD2:=hD0.keep K12 (fun _ z=>z) fun _ z=>z
  refine EvE.methJ rfl ?_ rfl rfl rfl rfl
  refine EvE.methJ rfl ?_ rfl rfl rfl rfl
  walk_at "r"
  refine ⟨.d N.i0 .disk,[.ref (.x pk)],rfl,((cut_place h2.sup .disk (by decide) hD2 (C.c0 _) (K12.at P.l fun z=>z) (by have:=P.n;lia)).le (n':=10) (by decide)).mono ?_ nof,?_⟩
  rotate_left
  ·walk_at "r"
   exact ⟨rfl,rfl,rfl⟩
  intro v σ3;refine f4_5 ?_;rintro j3 g3 js3 a3 rfl hP3 hf3 K3 hD3
  refine ⟨a3,[],rfl,((row_place (K3.sup h2.sup) hP3 (by decide) hD3 (C.c0 _).row).le (n':=10) (by decide)).mono ?_ nof,?_⟩
  rotate_left
  ·refine EvArgs.nil ?_
   exact ⟨rfl,rfl,rfl⟩
  intro v σ4;refine f1_4 ?_;rintro k4 rfl hk4 hR4 K4
  have K34:=K3.trans K4
  have K14:=K12.trans K34
  refine Or.inr ⟨_,_,(hR2.keep K34 fun _ z=>z).rows,hR4.rows,?_⟩
  refine And.intro (fun hb=>absurd hb (by simp)) (fun _=>?_)
  have h4:=h.keep K14 fun a z=>z
  have T4:=T.keep K14
  have hD4:=hD0.keep K14 (fun _ z=>z) fun _ z=>z
  have hdk:=hD4.disk
  walk_at "r"
  refine ((row_ok hD4 h4.sup O.has O.l).le (nle rfl)).mono ?_ nof
  intro v σ5;refine f1_4 ?_;rintro k5 rfl hk5 hR5 K5
  walk_at "r"
  refine Or.inr ⟨_,_,hR5.rows,(T4.lo.keep K5 fun _ z=>z).rows,?_⟩
  refine And.intro (fun hb=>absurd hb (by simp)) (fun _=>?_)
  walk_at "r"
  walk_at "n"
  walk_at "st"
  walk_at "go"
  exact rest σ5 ρ (h4.keep K5 fun a z=>z) (T4.keep K5)
end
noncomputable abbrev part0(N:Nm)(S:LS)(p:Nat):List (Str×Array UInt8):=stripRs (N.Q p) (rowsOf S.D0)
noncomputable abbrev part1(N:Nm)(S:LS)(p:Nat):List (Str×Array UInt8):=stripRs (N.Q p) (rowsOf (S.D0.cut []))
noncomputable def TwinAt(σ:Hp)(N:Nm)(S:LS)(p:Nat)(v:MV):Prop:=∃ j m g js,v=.ref (.x m)∧Place σ j (.x m) (N.Q p)∧j≠N.i0∧DAt σ j S.D0.copyD g js
noncomputable def StillAt(σ:Hp)(N:Nm)(S:LS)(p:Nat)(v:MV):Prop:=∃ k,v=.ref (.x k)∧RowsX σ k (part1 N S p)
theorem TwinAt.keep{σ σ':Hp}{N:Nm}{S:LS}{p:Nat}{v:MV}{P:MA→Prop}(h:TwinAt σ N S p v)(K:Kp P σ σ')(hP:∀ a,P a→inD N.i0 a):TwinAt σ' N S p v:=by
 refine c4_4 h fun j m g js e h1 h2 h3=>?_
 have K':=K.mono hP
 exact ⟨j,m,g,js,e,h1.keep K' (by intro k;refine f1_1 fun q z=>?_;exact dif_no z rfl),h2,h3.keep K' (by intro p;refine f1_1 fun q z=>?_;cases z;exact h2 rfl) (by intro p;refine f1_1 fun q z=>?_;exact dif_no z rfl)⟩
theorem StillAt.keep{σ σ':Hp}{N:Nm}{S:LS}{p:Nat}{v:MV}{P:MA→Prop}(h:StillAt σ N S p v)(K:Kp P σ σ')(hP:∀ a,P a→inD N.i0 a):StillAt σ' N S p v:=by
 refine c1_2 h fun k e h1=>?_
 exact ⟨k,e,h1.keep (K.mono hP) (by intro k;refine f1_1 fun q z=>?_;exact dif_no z rfl)⟩
structure ZAt(σ:Hp)(ρ:Loc)(N:Nm)(S:LS)(bg:Nat)(k0 k1 st tw:Nat):Prop where
 r:RAt ρ N S.sf
 budget:lget "budget" ρ=some (.int (bg:Nat))
 spent:lget "spent" ρ=some (.int S.D0.spent)
 first:lget "first" ρ=some (.ref (.x k0))
 second:lget "second" ρ=some (.ref (.x k1))
 rest:lget "rest" ρ=some (.ref (.x k1))
 still:lget "still" ρ=some (.ref (.x st))
 twins:lget "twins" ρ=some (.ref (.x tw))
 l0:RowsX σ k0 (part0 N S 0)
 l1:RowsX σ k1 (part0 N S 1)
 ls:∃ v0 v1,σ (.x st)=some (.list [v0,v1])∧StillAt σ N S 0 v0∧StillAt σ N S 1 v1
 lt:∃ v0 v1,σ (.x tw)=some (.list [v0,v1])∧TwinAt σ N S 0 v0∧TwinAt σ N S 1 v1
theorem ZAt.keep{σ σ':Hp}{ρ:Loc}{N:Nm}{S:LS}{bg:Nat}{k0 k1 st tw:Nat}{P:MA→Prop}(h:ZAt σ ρ N S bg k0 k1 st tw)(K:Kp P σ σ')(hP:∀ a,P a→inD N.i0 a):ZAt σ' ρ N S bg k0 k1 st tw:=by
 have hx:∀ k,¬ P (.x k):=fun k z=>by refine c1_1 (hP _ z) fun q w=>?_;exact dif_no w rfl
 refine c2_3 h.ls fun v0 v1 a1 a2 a3=>?_
 refine c2_3 h.lt fun w0 w1 b1 b2 b3=>?_
 exact ⟨h.r,h.budget,h.spent,h.first,h.second,h.rest,h.still,h.twins,h.l0.keep K hx,h.l1.keep K hx,⟨v0,v1,K.at a1 (hx _),a2.keep K hP,a3.keep K hP⟩,⟨w0,w1,K.at b1 (hx _),b2.keep K hP,b3.keep K hP⟩⟩
theorem fmod4(r:Int):∃ k:Nat,r.fmod 4=(k:Int)∧k≤3:=fmod_nn (n:=3)
noncomputable def TwoUp(F:Hp→Nat→MV→Prop)(t:Nat)(ys:List MV)(σ:Hp):Prop:=ys.length=t∧∀ q v,ys[q]?=some v→F σ q v
set_option tactic.hygienic true in
theorem TwoUp.snoc{F:Hp→Nat→MV→Prop}{t:Nat}{ys:List MV}{σ σ':Hp}{u:MV}(h:TwoUp F t ys σ)(hk:∀ q v,F σ q v→F σ' q v)(hu:F σ' t u):TwoUp F (t+1) (ys++[u]) σ':=by
 refine c0_2 h fun h1 h2=>?_
 refine ⟨by rw [List.length_append,h1];rfl,fun q v hv=>?_⟩
 rw [List.getElem?_append] at hv
 split at hv
 ·exact hk _ _ (h2 q v hv)
 ·rename_i hq
  have hq':q - ys.length=0∧v=u:=by
   match e:q - ys.length,hv with
   | 0,hv=>cases hv;exact ⟨rfl,rfl⟩
  refine c0_2 hq' ?_;rintro hq1 rfl
  have:q=t:=Nat.le_antisymm (h1▸Nat.le_of_sub_eq_zero hq1) (h1▸Nat.le_of_not_lt hq)
  subst this
  exact hu
theorem lc{α:Type}{l:List α}{n:Nat}(h:l.length=n+1):∃ a t,l=a::t∧t.length=n:=by
 cases l with
 | nil=>cases h
 | cons a t=>exact ⟨a,t,rfl,Nat.succ.inj h⟩
theorem len_two{α:Type}{l:List α}(h:l.length=2):∃ a b,l=[a,b] :=
 c2_2 (lc h) fun a t e h=>c2_2 (lc h) fun b u e' h'=>⟨a,b,by rw [e,e',List.length_eq_zero_iff.mp h']⟩
theorem TwoUp.two{F:Hp→Nat→MV→Prop}{ys:List MV}{σ:Hp}(h:TwoUp F 2 ys σ):∃ v0 v1,ys=[v0,v1]∧F σ 0 v0∧F σ 1 v1:=by
 refine c0_2 h fun h1 h2=>?_
 refine c2_1 (len_two h1) ?_;rintro v0 v1 rfl
 exact ⟨v0,v1,rfl,h2 0 v0 rfl,h2 1 v1 rfl⟩
theorem Place.inv{σ:Hp}{i:Nat}{a:MA}{qs' qs:List Str}{q:Str}(h:Place σ i a qs')(e:qs'=qs++[q]):∃ m b,a=.x m∧σ (.x m)=some (subO b q)∧Place σ i b qs∧q.length≤10:=by
 cases h with
 | disk=>exact absurd e (by simp)
 | @sub m b qs2 q2 h' e' hq' =>
  refine c0_2 (List.append_inj' e rfl) fun e1 e2=>?_
  subst e1
  cases e2
  exact ⟨m,b,rfl,e',h',hq'⟩
section
variable{X:Cx}{σ:Hp}{ρ:Loc}{N:Nm}{S:LS}{es:List Int}{e o i:Nat}{a:MA}{qs:List Str}{D:Dk}{g:Gs}{js:List MA}
theorem seg22(C:CutsOk N S)(Y:CopyOk S.D0)(O:RowOk S.D0)(hel:es.length=4)(rest:∀ bg σ ρ k0 k1 st tw,bg≤3→SAt σ N S→ZAt σ ρ N S bg k0 k1 st tw→ExSs X LG (lawTail 29) σ ρ FinP (fun _ _ _=>False))(h:SAt σ N S)(T:EAt σ ρ N S es e o) :
  ExSs X LG (lawTail 22) σ ρ FinP (fun _ _ _=>False):=by
 obtain ⟨⟨r1,r2,r3,r4,r5,r6,r7,r8,r9⟩,t1,t2,t3,t4⟩:=id T
 refine c2_1 h.d0 fun g0 js0 hD0=>?_
 have hdk:=hD0.disk
 refine c0_2 (h.n.sub 0 (by decide)) fun e1 hP=>?_
 have hl:=h.n.len 0 (by decide)
 have hql:(N.qs 0++[N.pq 0]).length≤2:=by rw [List.length_append,List.length_singleton];lia
 have hPp:=Place.sub hP e1 hl.2
 refine c0_2 (h.n.sub 1 (by decide)) fun e1' hP'=>?_
 have hl':=h.n.len 1 (by decide)
 have hql':(N.qs 1++[N.pq 1]).length≤2:=by rw [List.length_append,List.length_singleton];lia
 have hPp':=Place.sub hP' e1' hl'.2
 refine c1_2 (fmod4 (es.getD 3 0)) fun bg hbg hbl=>?_
 walk_at "c"
 refine ⟨_,SubR.list t2 (by decide) (by decide) (v:=.int (es.getD 3 0)) (by
  rw [show ((3:Int).toNat)=3 from rfl,List.getElem?_map,List.getElem?_eq_getElem (by lia),List.getD_eq_getElem?_getD,List.getElem?_eq_getElem (by lia)];rfl),?_⟩
 walk_at "r"
 refine bin_mod (by decide) ?_
 rw [hbg]
 walk_at "r"
 refine EvE.methJ rfl ?_ rfl rfl rfl rfl
 walk_at "r"
 refine ⟨_,SubR.list h.n.subs (by decide) (by decide) rfl,?_⟩
 refine ⟨.x (N.sx 0),[],rfl,((row_place h.sup hPp hql hD0 O).le (n':=10) (by decide)).mono ?_ nof,?_⟩
 rotate_left
 ·refine EvArgs.nil ?_
  exact ⟨rfl,rfl,rfl⟩
 intro v σ1;refine f1_4 ?_;rintro k0 rfl hk0 hR0 K1
 have h1:=h.keep K1 fun a z=>z
 have hD1:=hD0.keep K1 (fun _ z=>z) fun _ z=>z
 walk_at "r"
 refine EvE.methJ rfl ?_ rfl rfl rfl rfl
 walk_at "r"
 refine ⟨_,SubR.list h1.n.subs (by decide) (by decide) rfl,?_⟩
 refine ⟨.x (N.sx 1),[],rfl,((row_place h1.sup (hPp'.keep K1 fun _ z=>z) hql' hD1 O).le (n':=10) (by decide)).mono ?_ nof,?_⟩
 rotate_left
 ·refine EvArgs.nil ?_
  exact ⟨rfl,rfl,rfl⟩
 intro v σ2;refine f1_4 ?_;rintro k1 rfl hk1 hR1 K2
 have K12:=K1.trans K2
 have h2:=h.keep K12 fun a z=>z
 walk_at "r"
 have R5:RAt (lset "rest" (.ref (.x k1)) (lset "second" (.ref (.x k1)) (lset "first" (.ref (.x k0)) (lset "spent" (.int S.D0.spent) (lset "budget" (.int (bg:Nat)) ρ))))) N S.sf:=((((T.r.set (by decide +kernel)).set (by decide +kernel)).set (by decide +kernel)).set (by decide +kernel)).set (by decide +kernel)
 have c1:lget "budget" (lset "rest" (.ref (.x k1)) (lset "second" (.ref (.x k1)) (lset "first" (.ref (.x k0)) (lset "spent" (.int S.D0.spent) (lset "budget" (.int (bg:Nat)) ρ)))))=some (.int (bg:Nat)):=by walk_at "lg"
 have c2:lget "spent" (lset "rest" (.ref (.x k1)) (lset "second" (.ref (.x k1)) (lset "first" (.ref (.x k0)) (lset "spent" (.int S.D0.spent) (lset "budget" (.int (bg:Nat)) ρ)))))=some (.int S.D0.spent):=by walk_at "lg"
 have c3:lget "first" (lset "rest" (.ref (.x k1)) (lset "second" (.ref (.x k1)) (lset "first" (.ref (.x k0)) (lset "spent" (.int S.D0.spent) (lset "budget" (.int (bg:Nat)) ρ)))))=some (.ref (.x k0)):=by walk_at "lg"
 have c4:lget "second" (lset "rest" (.ref (.x k1)) (lset "second" (.ref (.x k1)) (lset "first" (.ref (.x k0)) (lset "spent" (.int S.D0.spent) (lset "budget" (.int (bg:Nat)) ρ)))))=some (.ref (.x k1)):=by walk_at "lg"
 have c5:lget "rest" (lset "rest" (.ref (.x k1)) (lset "second" (.ref (.x k1)) (lset "first" (.ref (.x k0)) (lset "spent" (.int S.D0.spent) (lset "budget" (.int (bg:Nat)) ρ)))))=some (.ref (.x k1)):=by walk_at "lg"
 walk_at "go"
 generalize lset "rest" (.ref (.x k1)) (lset "second" (.ref (.x k1)) (lset "first" (.ref (.x k0)) (lset "spent" (.int S.D0.spent) (lset "budget" (.int (bg:Nat)) ρ))))=ρ2 at R5 c1 c2 c3 c4 c5 ⊢
 clear r1 r2 r3 r4 r5 r6 r7 r8 r9 t1 t2 t3 t4
 obtain ⟨r1,r2,r3,r4,r5,r6,r7,r8,r9⟩:=id R5
 have hR0':=hR0.keep K2 fun _ z=>z
 refine ExS.assignComp (S':=lcSc _ "sub" [] []) (fv:=[]) rfl ⟨rfl,⟨by kernel_rfl,by decide +kernel,by decide +kernel,by decide +kernel,by decide +kernel,by decide +kernel⟩,rfl,rfl,by decide +kernel,by decide +kernel,by decide +kernel,rfl,rfl,by decide +kernel,rfl,by decide +kernel,by decide +kernel,by decide +kernel⟩ (by walk_at "mem") ?_
 walk_at "r"
 refine ⟨.list (.l 2),[.ref (.x (N.sx 0)),.ref (.x (N.sx 1))],[],fun t ys σ'=>t≤2∧Kp nil σ2 σ'∧TwoUp (fun σ q v=>StillAt σ N S q v) t ys σ',rfl,⟨(by intro y v hy;exact nos hy),⟨by decide,.refl _ _,rfl,(fun q v hv=>by simp at hv)⟩,?_,?_⟩,?_⟩
 ·intro t ys σ';refine f0_3 fun ht K hy=>?_
  exact ⟨(h2.keep K fun a z=>z).n.subs,by rw [hy.1];lia⟩
 ·intro t ys σ' v;refine f0_3 fun ht K hy=>?_;rintro hv
  have hpv:t<2∧v=.ref (.x (N.sx t)):=by
   match t,hv with
   | 0,hv=>cases hv;exact ⟨by decide,rfl⟩
   | 1,hv=>cases hv;exact ⟨by decide,rfl⟩
  refine c0_2 hpv ?_;rintro hp rfl
  have h':=h2.keep K fun a z=>z
  refine c2_1 h'.d0 fun gz jz hDz=>?_
  refine c0_2 (h'.n.sub t hp) fun ez hPz=>?_
  have hlz:=h'.n.len t hp
  have hqlz:(N.qs t++[N.pq t]).length≤2:=by rw [List.length_append,List.length_singleton];lia
  have hPzz:=Place.sub hPz ez hlz.2
  refine EvIfs.nil (And.intro (fun _=>?_) (fun hb=>by cases hb))
  refine EvE.methJ rfl ?_ rfl rfl rfl rfl
  refine EvE.methK rfl ?_ rfl rfl rfl rfl
  refine EvE.name (by exact Eq.refl true) lget_set_hit ?_
  refine ⟨.x (N.sx t),522,_,_,rfl,ez,rfl,by walk_at "lg",?_⟩
  refine c1_1 h'.sup.x fun m hm=>?_
  refine EvArgs.cons ?_ rfl
  refine EvE.list ?_
  refine EvArgs.nil ?_
  refine ⟨.x m,hm,nle rfl,?_⟩
  have Km:Kp nil σ' (upd σ' (.x m) (.list [])):=.new (free_x hm)
  have lm:upd σ' (.x m) (.list []) (.x m)=some (.list (([]:List Int).map .int)):=upd_self ..
  generalize upd σ' (.x m) (.list [])=σm at Km lm ⊢
  refine EvArgs.nil ?_
  refine ⟨(Km.at ez fun z=>z).trans ez.symm,((cut_place (Km.sup h'.sup) (hPzz.keep Km fun _ z=>z) hqlz (hDz.keep Km (fun _ z=>z) fun _ z=>z) (C.c0 []) lm (by decide)).le (n':=10) (by decide)).mono ?_ nof⟩
  intro v σa;refine f4_5 ?_;rintro ja ga jsa aa rfl hPa hfa Ka hDa
  have Kma:=Km.trans Ka
  refine ⟨aa,[],rfl,((row_place (Kma.sup h'.sup) hPa hqlz hDa (C.c0 _).row).le (n':=10) (by decide)).mono ?_ nof,?_⟩
  rotate_left
  ·refine EvArgs.nil ?_
   exact ⟨rfl,rfl,rfl⟩
  intro v σb;refine f1_4 ?_;rintro kb rfl hkb hRb Kb
  have Kall:=Kma.trans Kb
  exact ⟨by lia,K.trans Kall,hy.snoc (fun q v z=>z.keep Kall fun _ w=>w.elim) ⟨kb,rfl,hRb⟩⟩
 ·intro ys σ';refine f0_3 fun _ K hy=>?_
  refine c2_3 (TwoUp.two hy) ?_;rintro v0 v1 rfl hv0 hv1
  refine c1_1 ((K.sup h2.sup).x) fun st hst=>?_
  refine ⟨.x st,hst,?_⟩
  have K3:Kp nil σ2 (upd σ' (.x st) (.list [v0,v1])):=K.then_x hst
  have K3':Kp nil σ' (upd σ' (.x st) (.list [v0,v1])):=.new (free_x hst)
  have l3:upd σ' (.x st) (.list [v0,v1]) (.x st)=some (.list [v0,v1]):=upd_self ..
  have hv0':=hv0.keep K3' fun _ w=>w.elim
  have hv1':=hv1.keep K3' fun _ w=>w.elim
  generalize upd σ' (.x st) (.list [v0,v1])=σ3 at K3 l3 hv0' hv1' ⊢
  clear K3' hv0 hv1 hy K hst σ'
  have h3:=h2.keep K3 fun a z=>z
  have d1:lget "budget" (lset "still" (.ref (.x st)) ρ2)=some (.int (bg:Nat)):=by walk_at "lg"
  have d2:lget "spent" (lset "still" (.ref (.x st)) ρ2)=some (.int S.D0.spent):=by walk_at "lg"
  have d3:lget "first" (lset "still" (.ref (.x st)) ρ2)=some (.ref (.x k0)):=by walk_at "lg"
  have d4:lget "second" (lset "still" (.ref (.x st)) ρ2)=some (.ref (.x k1)):=by walk_at "lg"
  have d5:lget "rest" (lset "still" (.ref (.x st)) ρ2)=some (.ref (.x k1)):=by walk_at "lg"
  have d6:lget "still" (lset "still" (.ref (.x st)) ρ2)=some (.ref (.x st)):=by walk_at "lg"
  have R6:RAt (lset "still" (.ref (.x st)) ρ2) N S.sf:=R5.set (by decide +kernel)
  walk_at "go"
  generalize lset "still" (.ref (.x st)) ρ2=ρ3 at d1 d2 d3 d4 d5 d6 R6 ⊢
  clear r1 r2 r3 r4 r5 r6 r7 r8 r9 c1 c2 c3 c4 c5 R5
  obtain ⟨r1,r2,r3,r4,r5,r6,r7,r8,r9⟩:=id R6
  walk_at "go"
  walk_at "st"
  refine ExS.assignComp (S':=lcSc _ "sub" [] []) (fv:=[]) rfl ⟨rfl,⟨by kernel_rfl,by decide +kernel,by decide +kernel,by decide +kernel,by decide +kernel,by decide +kernel⟩,rfl,rfl,by decide +kernel,by decide +kernel,by decide +kernel,rfl,rfl,by decide +kernel,rfl,by decide +kernel,by decide +kernel,by decide +kernel⟩ (by walk_at "mem") ?_
  walk_at "r"
  walk_at "go"
  refine ⟨.list (.l 2),[.ref (.x (N.sx 0)),.ref (.x (N.sx 1))],[],fun t ys σ'=>t≤2∧Kp nil σ3 σ'∧TwoUp (fun σ q v=>TwinAt σ N S q v) t ys σ',rfl,⟨(by intro y v hy;exact nos hy),⟨by decide,.refl _ _,rfl,(fun q v hv=>by simp at hv)⟩,?_,?_⟩,?_⟩
  ·intro t ys σ';refine f0_3 fun ht K hy=>?_
   exact ⟨(h3.keep K fun a z=>z).n.subs,by rw [hy.1];lia⟩
  ·intro t ys σ' v;refine f0_3 fun ht K hy=>?_;rintro hv
   have hpv:t<2∧v=.ref (.x (N.sx t)):=by
    match t,hv with
    | 0,hv=>cases hv;exact ⟨by decide,rfl⟩
    | 1,hv=>cases hv;exact ⟨by decide,rfl⟩
   refine c0_2 hpv ?_;rintro hp rfl
   have h':=h3.keep K fun a z=>z
   refine c2_1 h'.d0 fun gz jz hDz=>?_
   refine c0_2 (h'.n.sub t hp) fun ez hPz=>?_
   have hlz:=h'.n.len t hp
   have hqlz:(N.qs t++[N.pq t]).length≤2:=by rw [List.length_append,List.length_singleton];lia
   have hPzz:=Place.sub hPz ez hlz.2
   refine EvIfs.nil (And.intro (fun _=>?_) (fun hb=>by cases hb))
   refine EvE.methJ rfl ?_ rfl rfl rfl rfl
   refine EvE.name (by exact Eq.refl true) lget_set_hit ?_
   refine ⟨.x (N.sx t),[],rfl,((copy_place h'.sup hPzz hqlz hDz Y).le (n':=10) (by decide)).mono ?_ nof,?_⟩
   rotate_left
   ·refine EvArgs.nil ?_
    exact ⟨rfl,rfl,rfl⟩
   intro v σa;refine f4_5 ?_;rintro ja ga jsa aa rfl hPa hfa Ka hDa
   refine c2_4 (hPa.inv rfl) ?_;rintro ma ba rfl ea hPa' _
   have hne:ja≠N.i0:=by
    rintro rfl
    have:=hfa .disk
    rw [hDz.disk] at this
    exact sno this
   exact ⟨by lia,K.trans Ka,hy.snoc (fun q v z=>z.keep Ka fun _ w=>w.elim) ⟨ja,ma,ga,jsa,rfl,hPa,hne,hDa⟩⟩
  ·intro ys σ';refine f0_3 fun _ K hy=>?_
   refine c2_3 (TwoUp.two hy) ?_;rintro w0 w1 rfl hw0 hw1
   refine c1_1 ((K.sup h3.sup).x) fun tw htw=>?_
   refine ⟨.x tw,htw,?_⟩
   have K4:Kp nil σ3 (upd σ' (.x tw) (.list [w0,w1])):=K.then_x htw
   have K4':Kp nil σ' (upd σ' (.x tw) (.list [w0,w1])):=.new (free_x htw)
   have l4:upd σ' (.x tw) (.list [w0,w1]) (.x tw)=some (.list [w0,w1]):=upd_self ..
   walk_at "go"
   refine rest bg _ _ k0 k1 st tw hbl (h3.keep K4 fun a z=>z) ⟨R6.set (by decide +kernel),by walk_at "lg",by walk_at "lg",by walk_at "lg",by walk_at "lg",by walk_at "lg",by walk_at "lg",by walk_at "lg",(hR0'.keep K3 fun _ z=>z).keep K4 fun _ z=>z,(hR1.keep K3 fun _ z=>z).keep K4 fun _ z=>z,⟨v0,v1,K4.at l3 fun z=>z,hv0'.keep K4 fun _ w=>w.elim,hv1'.keep K4 fun _ w=>w.elim⟩,⟨w0,w1,l4,hw0.keep K4' fun _ w=>w.elim,hw1.keep K4' fun _ w=>w.elim⟩⟩
end
noncomputable def LS.on(S:LS)(D:Dk):LS:={ S with D0:=D }
set_option tactic.hygienic true in
theorem SAt.on{σ σ':Hp}{N:Nm}{S:LS}{D:Dk}(h:SAt σ N S)(k:Kp (inD N.i0) σ σ')(h0:∃ g js,DAt σ' N.i0 D g js):SAt σ' N (S.on D):=by
 refine c2_1 (h.dp 0 (by decide)) fun gp jsp hDp=>?_
 have hne:=h.n.ne0 0 (by decide)
 refine (h.acted (p:=0) (Dp:=S.Dp 0) (by decide) (k.mono fun a z=>.inl z) h0 ⟨gp,jsp,hDp.keep k (by intro p;refine f1_1 fun q z=>?_;injection z with z1 z2;exact hne z1.symm) (by intro p;refine f1_1 fun q z=>?_;exact dif_no z rfl)⟩).ghost rfl ?_ rfl rfl rfl rfl
 funext r
 show S.Dp r=fset S.Dp 0 (S.Dp 0) r
 unfold fset
 split
 ·rename_i e;rw [e]
 ·rfl
noncomputable def sevens(k:Nat):Array UInt8:=byteArr (List.replicate k 7)
theorem sevens_size(k:Nat):(sevens k).size=k:=by unfold sevens;rw [byteArr_size,List.length_replicate]
noncomputable def deadOf(D:Dk)(bg:Nat)(n:Str):Dk :=
 if bg=0 then { D with left:=0,alive:=false }
 else { ((Dk.mk1 { D with left:=((bg - 1:Nat):Int) } n).put (D.made+1) ⟨#[]++takeB (sevens bg) (bg - 1),0⟩) with left:=0,spent:=D.spent+1+((bg - 1:Nat):Int),alive:=false }
theorem deadOf_succ(D:Dk)(l:Nat)(n:Str):deadOf D (l+1) n={ ((Dk.mk1 { D with left:=(l:Int) } n).put (D.made+1) ⟨#[]++takeB (sevens (l+1)) l,0⟩) with left:=0,spent:=D.spent+1+(l:Int),alive:=false }:=by
 unfold deadOf
 rw [if_neg (Nat.succ_ne_zero l)]
 rfl
section
variable{X:Cx}{σ:Hp}{ρ:Loc}{N:Nm}{S:LS}{es:List Int}{e o i:Nat}{a:MA}{qs:List Str}{D:Dk}{g:Gs}{js:List MA}
theorem seg29{bg k0 k1 st tw:Nat}(hbg:bg≤3)(W:Wf S.D0)(rest:∀ σ' ρ',SAt σ' N (S.on (deadOf S.D0 bg (pre (N.Q 1) sX)))→ZAt σ' ρ' N S bg k0 k1 st tw→lget "dead" ρ'=some (.bool true)→ExSs X LG (lawTail 32) σ' ρ' FinP (fun _ _ _=>False))
  (h:SAt σ N S) (T:ZAt σ ρ N S bg k0 k1 st tw):ExSs X LG (lawTail 29) σ ρ FinP (fun _ _ _=>False):=by
 obtain ⟨⟨r1,r2,r3,r4,r5,r6,r7,r8,r9⟩,t1,t2,t3,t4,t5,t6,t7,t8,t9,t10,t11⟩:=id T
 refine c2_1 h.d0 fun g0 js0 hD0=>?_
 have hql:∀ p<2,(N.qs p++[N.pq p]).length≤2:=fun p hp=>by rw [List.length_append,List.length_singleton];have:=h.n.len p hp;lia
 have hPp:=fun (p:Nat) (hp:p<2)=>Place.sub (h.n.sub p hp).2 (h.n.sub p hp).1 (h.n.len p hp).2
 generalize hDE:S.D0=D at hD0 W rest
 obtain ⟨left,spent,alive,made,nd,reg,kept,pres,jour⟩:=D
 obtain ⟨w1,w2,w3,w4,w5,w6,w7,w8,w9⟩:=W
 dsimp only at w1 w2 w3 w4 w5 w6 w7 w9
 subst w1 w2
 refine ExSs.consK ?_;intro _ _
 refine ExS.expr ?_ rfl
 refine EvE.methJ rfl ?_ rfl rfl rfl rfl
 walk_at "r"
 refine ⟨_,SubR.list h.n.subs (by decide) (by decide) rfl,?_⟩
 refine ⟨.x (N.sx 0),[.int (bg:Nat)],rfl,?_,?_⟩
 rotate_left
 ·walk_at "r"
  exact ⟨rfl,rfl,rfl⟩
 refine ((place_set_budget (n:=2) (hPp 0 (by decide)) (Q:=fun _ σ'=>σ'=upd σ (.d N.i0 .disk) (diskO N.i0 ⟨(bg:Int),spent,true,made,nd,reg,kept,pres,jour⟩ g0)) (E:=fun _ _=>False) (fun _ _ z=>z)
  (MethJ.disk hD0 rfl (by walk_at "lg") ((set_budget_ok hD0).mono (fun _ _ z=>z.2) fun _ _ z=>z))).le (n':=10) (by have:=hql 0 (by decide);lia)).mono ?_ nof
 rintro v σ1 e1
 have hD1:DAt σ1 N.i0 ⟨(bg:Int),spent,true,made,nd,reg,kept,pres,jour⟩ g0 js0:=by rw [e1];exact hD0.set (Nat.le_refl _)
 have K1:Kp (inD N.i0) σ σ1:=by rw [e1];exact .upd ⟨_,rfl⟩
 clear e1
 have S1:=K1.sup h.sup
 have hsub1:=K1.at h.n.subs (by refine f1_1 fun q z=>?_;exact dif_no z rfl)
 have hP1:=(hPp 1 (by decide)).keep K1 (by intro k;refine f1_1 fun q z=>?_;exact dif_no z rfl)
 have hpl:=pre_len (N.Q 1) hP1.qs_le sX
 have hql1:=hql 1 (by decide)
 have hsx:sX.length=1:=by decide +kernel
 have hL:(pre (N.Q 1) sX).length≤500:=by have:(N.Q 1).length≤2:=hql1;lia
 have c1:lget "budget" (lset "dead" (.bool false) ρ)=some (.int (bg:Nat)):=by walk_at "lg"
 have c4:lget "subs" (lset "dead" (.bool false) ρ)=some (.ref (.l 2)):=by walk_at "lg"
 have fin:∀ σ',Kp (inD N.i0) σ σ'→(∃ g js,DAt σ' N.i0 (deadOf ⟨-1,spent,true,made,nd,reg,kept,pres,jour⟩ bg (pre (N.Q 1) sX)) g js)→ExSs X LG (lawTail 32) σ' (lset "dead" (.bool true) (lset "dead" (.bool false) ρ)) FinP (fun _ _ _=>False):=fun σ' K hd=>by
  have T':=T.keep K fun a z=>z
  refine rest σ' _ (h.on K hd) ?_ lget_set_hit
  obtain ⟨a1,a2,a3,a4,a5,a6,a7,a8,a9,a10,a11,a12⟩:=T'
  rw [hDE] at a3
  refine ⟨(a1.set (by decide +kernel)).set (by decide +kernel),by walk_at "lg",?_,by walk_at "lg",by walk_at "lg",by walk_at "lg",by walk_at "lg",by walk_at "lg",a9,a10,a11,a12⟩
  rw [hDE]
  walk_at "lg"
 walk_at "st"
 walk_at "st"
 walk_at "st"
 walk_at "st"
 walk_at "go"
 refine ExSs.consK ?_;intro _ _
 refine ExS.try rfl ?_
 generalize lset "dead" (.bool false) ρ=ρ1 at c1 c4 fin ⊢
 refine ExSs.consK ?_;intro _ _
 refine ExS.expr ?_ rfl
 refine EvE.methK rfl ?_ rfl rfl rfl rfl
 refine EvE.methJ rfl ?_ rfl rfl rfl rfl
 walk_at "r"
 refine ⟨_,SubR.list hsub1 (by decide) (by decide) rfl,?_⟩
 refine ⟨.x (N.sx 1),[.str sX],rfl,?_,?_⟩
 rotate_left
 ·walk_at "r"
  exact ⟨rfl,rfl,rfl⟩
 by_cases hb0:bg=0
 ·subst hb0
  refine (place_create_over (n:=4) hP1 (Q:=fun _ _=>False) (E:=fun c σ'=>c=97∧Kp (inD N.i0) σ1 σ'∧DAt σ' N.i0 ⟨0,spent,false,made,nd,reg,kept,pres,jour⟩ g0 js0) (by lia) (by lia)
   (MethJ.disk hD1 rfl (by walk_at "lg") (create_over_dead hD1 hL))).le (n':=10) (by lia) |>.mono nof ?_
  intro c σ2;refine f0_3 ?_;rintro rfl K2 hD2
  refine ⟨rfl,HandJ.step (by walk_at "mem") rfl rfl (fun _=>?_) (fun e=>absurd rfl e)⟩
  refine ExSs.consK ?_;intro _ _
  walk_at "st"
  walk_at "st"
  walk_at "st"
  walk_at "go"
  exact fin σ2 (K1.trans K2) ⟨g0,js0,hD2⟩
 ·obtain ⟨l,rfl⟩:∃ l,bg=l+1:=⟨bg - 1,by lia⟩
  refine (place_create_over (n:=4) hP1 (Q:=fun v σ'=>∃ m g' js',v=.ref (.x m)∧σ1 (.x m)=none∧σ' (.x m)=some (fileO N.i0 (pre (N.Q 1) sX) (made+1) false)∧Kp (inD N.i0) σ1 σ'∧DAt σ' N.i0 (Dk.mk1 ⟨(l:Int),spent,true,made,nd,reg,kept,pres,jour⟩ (pre (N.Q 1) sX)) g' js') (E:=fun _ _=>False) (by lia) (by lia)
   (MethJ.disk hD1 rfl (by walk_at "lg") (create_over_fin (l:=l) hD1 S1 hL w3 (by lia) (by lia) (by lia)))).le (n':=10) (by lia) |>.mono ?_ nof
  intro v σ2;refine f3_5 ?_;rintro mf g2 js2 rfl hm0 hf2 K2 hD2
  refine ⟨.x mf,_,_,_,rfl,hf2,rfl,by walk_at "lg",?_⟩
  refine c1_1 ((K2.sup S1).x) fun m3 hm3=>?_
  refine EvArgs.cons ?_ rfl
  refine EvE.bcall rfl (by walk_at "mem") rfl ?_ (by decide +kernel) rfl
  refine EvArgs.cons ?_ rfl
  refine EvE.mulL ?_
  refine EvE.list ?_
  walk_at "r"
  refine ⟨.x m3,hm3,nle rfl,?_⟩
  have K3:Kp nil σ2 (upd σ2 (.x m3) (.list [.int 7])):=.new (free_x hm3)
  have l3:upd σ2 (.x m3) (.list [.int 7]) (.x m3)=some (.list [.int 7]):=upd_self ..
  generalize upd σ2 (.x m3) (.list [.int 7])=σ3 at K3 l3 ⊢
  refine c1_1 ((K3.sup (K2.sup S1)).x) fun m4 hm4=>?_
  walk_at "r"
  refine ⟨.x m3,.x m4,_,_,rfl,rfl,hm4,l3,by lia,by lia,?_⟩
  rw [Int.toNat_natCast]
  have K4:Kp nil σ2 (upd σ3 (.x m4) (.list (List.replicate (l+1) (.int 7)))):=K3.then_x hm4
  have l4:upd σ3 (.x m4) (.list (List.replicate (l+1) (.int 7))) (.x m4)=some (.list ((List.replicate (l+1) (7:Int)).map .int)):=by rw [upd_self,List.map_replicate]
  generalize upd σ3 (.x m4) (.list (List.replicate (l+1) (.int 7)))=σ4 at K4 l4 ⊢
  walk_at "r"
  refine B.bytes_ints l4 (by rw [List.length_replicate];lia) (fun n hn=>by have:=List.eq_of_mem_replicate hn;lia) ?_
  have hD4:=hD2.keep K4 (fun _ z=>z) fun _ z=>z
  have hf4:=K4.at hf2 fun z=>z
  refine EvArgs.nil ?_
  refine ⟨hf4.trans hf2.symm,_,_,_,hf4,meth_ok X.w rfl,by walk_at "lg",?_⟩
  refine ((append_dies (k:=made+1) (nn:=⟨#[],0⟩) (b:=sevens (l+1)) hD4 hf4 (by simp [Dk.put]) (by rw [sevens_size];simp;lia) (by rw [sevens_size];lia) hL).le (by decide)).mono nof ?_
  intro c σ5;refine f0_3 ?_;rintro rfl K5 hD5
  refine ⟨rfl,HandJ.step (by walk_at "mem") rfl rfl (fun _=>?_) (fun e=>absurd rfl e)⟩
  refine ExSs.consK ?_;intro _ _
  walk_at "st"
  walk_at "st"
  walk_at "st"
  walk_at "go"
  refine fin σ5 ((K1.trans K2).trans ((K4.mono fun _ z=>z.elim).trans K5)) ⟨g2,js2,?_⟩
  rw [deadOf_succ]
  exact hD5
end
noncomputable def restOf(bg:Nat)(rows:List (Str×Array UInt8)):List (Str×Array UInt8):=if bg=0 then rows else (sX,sevens (bg - 1))::rows.filter fun r=>r.1 != sX
structure YAt(σ:Hp)(ρ:Loc)(N:Nm)(S:LS)(bg:Nat)(k0 k1 kr st tw:Nat):Prop where
 r:RAt ρ N S.sf
 budget:lget "budget" ρ=some (.int (bg:Nat))
 spent:lget "spent" ρ=some (.int S.D0.spent)
 first:lget "first" ρ=some (.ref (.x k0))
 second:lget "second" ρ=some (.ref (.x k1))
 rest:lget "rest" ρ=some (.ref (.x kr))
 still:lget "still" ρ=some (.ref (.x st))
 twins:lget "twins" ρ=some (.ref (.x tw))
 dead:lget "dead" ρ=some (.bool true)
 l0:RowsX σ k0 (part0 N S 0)
 l1:RowsX σ k1 (part0 N S 1)
 lr:RowsX σ kr (restOf bg (part0 N S 1))
 ls:∃ v0 v1,σ (.x st)=some (.list [v0,v1])∧StillAt σ N S 0 v0∧StillAt σ N S 1 v1
 lt:∃ v0 v1,σ (.x tw)=some (.list [v0,v1])∧TwinAt σ N S 0 v0∧TwinAt σ N S 1 v1
theorem YAt.keep{σ σ':Hp}{ρ:Loc}{N:Nm}{S:LS}{bg:Nat}{k0 k1 kr st tw:Nat}(h:YAt σ ρ N S bg k0 k1 kr st tw)(K:Kp nil σ σ'):YAt σ' ρ N S bg k0 k1 kr st tw:=by
 refine c2_3 h.ls fun v0 v1 a1 a2 a3=>?_
 refine c2_3 h.lt fun w0 w1 b1 b2 b3=>?_
 exact ⟨h.r,h.budget,h.spent,h.first,h.second,h.rest,h.still,h.twins,h.dead,h.l0.keep K fun _ z=>z,h.l1.keep K fun _ z=>z,h.lr.keep K fun _ z=>z,⟨v0,v1,K.at a1 (fun z=>z),a2.keep K fun _ z=>z.elim,a3.keep K fun _ z=>z.elim⟩,⟨w0,w1,K.at b1 (fun z=>z),b2.keep K fun _ z=>z.elim,b3.keep K fun _ z=>z.elim⟩⟩
theorem cmpNeS{a b:Str}{t:Bool}{σ:Hp}{k:Bool→Prop}(e:(a != b)=t)(h:k t):cmpR .NotEq (.str a) (.str b) σ k:=by subst e;exact h
section
variable{X:Cx}{σ:Hp}{ρ:Loc}{N:Nm}{S:LS}
theorem seg32{D2:Dk}{bg k0 k1 st tw:Nat}(hbg:bg≤3)(hlen:(part0 N S 1).length≤100)(rest:∀ σ' ρ' kr,SAt σ' N (S.on D2)→YAt σ' ρ' N S bg k0 k1 kr st tw→ExSs X LG (lawTail 33) σ' ρ' FinP (fun _ _ _=>False))
  (h:SAt σ N (S.on D2)) (T:ZAt σ ρ N S bg k0 k1 st tw) (hd:lget "dead" ρ=some (.bool true)):ExSs X LG (lawTail 32) σ ρ FinP (fun _ _ _=>False):=by
 obtain ⟨⟨r1,r2,r3,r4,r5,r6,r7,r8,r9⟩,t1,t2,t3,t4,t5,t6,t7,t8,t9,t10,t11⟩:=id T
 walk_at "c"
 by_cases hb0:bg=0
 ·subst hb0
  walk_at "n"
  walk_at "st"
  walk_at "go"
  exact rest σ ρ k1 h ⟨T.r,t1,t2,t3,t4,t5,t6,t7,hd,t8,t9,t9,t10,t11⟩
 ·obtain ⟨l,rfl⟩:∃ l,bg=l+1:=⟨bg - 1,by lia⟩
  refine And.intro (fun _=>?_) (fun hb=>absurd hb (by simp))
  refine c1_1 h.sup.x fun m1 hm1=>?_
  walk_at "st"
  refine ExS.assign (by walk_at "mem") ?_ rfl
  refine EvE.bcall rfl (by walk_at "mem") rfl ?_ (by decide +kernel) rfl
  refine EvArgs.cons ?_ rfl
  refine EvE.addL ?_
  refine EvE.list ?_
  refine EvArgs.cons ?_ rfl
  refine EvE.tuple ?_
  refine EvArgs.cons ?_ rfl
  walk_at "st"
  refine EvArgs.cons ?_ rfl
  refine EvE.bcall rfl (by walk_at "mem") rfl ?_ (by decide +kernel) rfl
  refine EvArgs.cons ?_ rfl
  refine EvE.mulL ?_
  refine EvE.list ?_
  walk_at "r"
  refine ⟨.x m1,hm1,nle rfl,?_⟩
  have K1:Kp nil σ (upd σ (.x m1) (.list [.int 7])):=.new (free_x hm1)
  have l1:upd σ (.x m1) (.list [.int 7]) (.x m1)=some (.list [.int 7]):=upd_self ..
  generalize upd σ (.x m1) (.list [.int 7])=σ1 at K1 l1 ⊢
  refine c1_1 ((K1.sup h.sup).x) fun m2 hm2=>?_
  walk_at "r"
  rw [show ((l+1:Nat):Int) - 1=(l:Int) by lia]
  refine ⟨.x m1,.x m2,_,_,rfl,rfl,hm2,l1,by lia,by lia,?_⟩
  rw [Int.toNat_natCast]
  have K2:Kp nil σ (upd σ1 (.x m2) (.list (List.replicate l (.int 7)))):=K1.then_x hm2
  have l2:upd σ1 (.x m2) (.list (List.replicate l (.int 7))) (.x m2)=some (.list ((List.replicate l (7:Int)).map .int)):=by rw [upd_self,List.map_replicate]
  generalize upd σ1 (.x m2) (.list (List.replicate l (.int 7)))=σ2 at K2 l2 ⊢
  walk_at "r"
  refine B.bytes_ints l2 (by rw [List.length_replicate];lia) (fun n hn=>by have:=List.eq_of_mem_replicate hn;lia) ?_
  refine c1_1 ((K2.sup h.sup).x) fun m3 hm3=>?_
  walk_at "r"
  refine ⟨.x m3,hm3,nle rfl,?_⟩
  have K3:Kp nil σ (upd σ2 (.x m3) (.tup [.str sX,.bytes (sevens l)])):=K2.then_x hm3
  have l3:upd σ2 (.x m3) (.tup [.str sX,.bytes (sevens l)]) (.x m3)=some (.tup [.str sX,.bytes (sevens l)]):=upd_self ..
  change EvArgs _ _ _ _ (upd σ2 (.x m3) (.tup [.str sX,.bytes (sevens l)])) _ _ _
  generalize upd σ2 (.x m3) (.tup [.str sX,.bytes (sevens l)])=σ3 at K3 l3 ⊢
  refine c1_1 ((K3.sup h.sup).x) fun m4 hm4=>?_
  walk_at "r"
  refine ⟨.x m4,hm4,nle rfl,?_⟩
  have K4:Kp nil σ (upd σ3 (.x m4) (.list [.ref (.x m3)])):=K3.then_x hm4
  have l4:upd σ3 (.x m4) (.list [.ref (.x m3)]) (.x m4)=some (.list [.ref (.x m3)]):=upd_self ..
  have l3':upd σ3 (.x m4) (.list [.ref (.x m3)]) (.x m3)=some (.tup [.str sX,.bytes (sevens l)]):=upd_at (ne_fresh l3 hm4) l3
  generalize upd σ3 (.x m4) (.list [.ref (.x m3)])=σ4 at K4 l4 l3' ⊢
  have T4:=T.keep K4 fun _ z=>z.elim
  refine c1_2 T4.l1 fun ks hks hPs=>?_
  walk_at "r"
  have hkl:(refsX ks).length=(part0 N S 1).length:=by unfold refsX;rw [List.length_map,hPs.length]
  refine EvE.comp (S':=lcSc _ "row" [] []) (fv:=[]) rfl ⟨rfl,⟨by kernel_rfl,by decide +kernel,by decide +kernel,by decide +kernel,by decide +kernel,by decide +kernel⟩,rfl,rfl,by decide +kernel,by decide +kernel,by decide +kernel,rfl,rfl,by decide +kernel,rfl,by decide +kernel,by decide +kernel,by decide +kernel⟩ ?_
  walk_at "r"
  refine ⟨.tup (.x k1),refsX ks,[],fun t ys σ'=>σ'=σ4∧∃ ks',ys=refsX ks'∧PairsAt σ4 ks' (((part0 N S 1).take t).filter fun r=>r.1 != sX),rfl,⟨(by intro y v hy;exact nos hy),⟨rfl,[],rfl,trivial⟩,?_,?_⟩,?_⟩
  ·rintro t ys σ' ⟨rfl,ks',rfl,hp⟩
   refine ⟨hks,?_⟩
   have h1:=hp.length
   have h2:(((part0 N S 1).take t).filter fun r=>r.1 != sX).length≤100:=Nat.le_trans (List.length_filter_le ..) (by rw [List.length_take];lia)
   unfold refsX
   rw [List.length_map]
   lia
  ·rintro t ys σ' v ⟨hσ,ks',rfl,hp⟩ hv
   have hσ':=hσ.symm
   subst hσ'
   unfold refsX at hv
   rw [List.getElem?_map] at hv
   refine c1_2 (Option.map_eq_some_iff.mp hv) ?_;rintro k hk rfl
   refine c1_2 (hPs.get hk) fun r hr hkr=>?_
   have etk:(part0 N S 1).take (t+1)=(part0 N S 1).take t++[r]:=by rw [List.take_add_one,hr];rfl
   refine EvIfs.one (EvT.cmp ?_ rfl)
   refine EvE.sub ?_ rfl
   refine EvE.name (by exact Eq.refl true) lget_set_hit ?_
   refine EvE.cInt ?_
   refine ⟨_,SubR.tup hkr (by decide) (by decide) rfl,?_⟩
   refine EvE.cStr ?_
   by_cases e:r.1=sX
   ·refine cmpNeS (t:=false) (by rw [e];decide) (And.intro (fun hb=>by cases hb) (fun _=>?_))
    refine ⟨rfl,ks',rfl,?_⟩
    rw [etk,List.filter_append]
    have:([r].filter fun r=>r.1 != sX)=[]:=by simp [e]
    rw [this,List.append_nil]
    exact hp
   ·have e':(r.1 != sX)=true:=by simp [e]
    refine cmpNeS (t:=true) e' (And.intro (fun _=>?_) (fun hb=>by cases hb))
    refine EvE.name (by exact Eq.refl true) lget_set_hit ?_
    refine ⟨rfl,ks'++[k],by unfold refsX;rw [List.map_append];rfl,?_⟩
    rw [etk,List.filter_append]
    have:([r].filter fun r=>r.1 != sX)=[r]:=by simp [e]
    rw [this]
    exact hp.snoc hkr
  ·rintro ys σ' ⟨hσ,ks',rfl,hp⟩
   have hσ':=hσ.symm
   subst hσ'
   rw [hkl,List.take_length] at hp
   refine c1_1 ((K4.sup h.sup).x) fun m5 hm5=>?_
   refine ⟨.x m5,hm5,?_⟩
   have K5':Kp nil σ4 (upd σ4 (.x m5) (.list (refsX ks'))):=.new (free_x hm5)
   have K5:=K4.trans K5'
   have l5:upd σ4 (.x m5) (.list (refsX ks')) (.x m5)=some (.list (refsX ks')):=upd_self ..
   have l5':=K5'.at l4 fun z=>z
   have l5'':=K5'.at l3' fun z=>z
   have hp5:=hp.keep K5' fun _ z=>z
   generalize upd σ4 (.x m5) (.list (refsX ks'))=σ5 at K5 l5 l5' l5'' hp5 ⊢
   refine c1_1 ((K5.sup h.sup).x) fun m6 hm6=>?_
   have hlk:(refsX ks').length≤100:=by
    unfold refsX
    rw [List.length_map,hp.length]
    exact Nat.le_trans (List.length_filter_le ..) hlen
   refine ⟨.x m4,.x m5,.x m6,_,_,rfl,rfl,hm6,l5',l5,by simp;lia,?_⟩
   have K6':Kp nil σ5 (upd σ5 (.x m6) (.list ([.ref (.x m3)]++refsX ks'))):=.new (free_x hm6)
   have K6:=K5.trans K6'
   have l6:upd σ5 (.x m6) (.list ([.ref (.x m3)]++refsX ks')) (.x m6)=some (.list ([.ref (.x m3)]++refsX ks')):=upd_self ..
   have l6':=K6'.at l5'' fun z=>z
   have hp6:=hp5.keep K6' fun _ z=>z
   generalize upd σ5 (.x m6) (.list ([.ref (.x m3)]++refsX ks'))=σ6 at K6 l6 l6' hp6 ⊢
   refine c1_1 ((K6.sup h.sup).x) fun m7 hm7=>?_
   walk_at "r"
   refine B.tuple_list hm7 l6 (by rw [List.length_append];simp;lia) ?_
   have K7':Kp nil σ6 (upd σ6 (.x m7) (.tup ([.ref (.x m3)]++refsX ks'))):=.new (free_x hm7)
   have K7:=K6.trans K7'
   have hR7:RowsX (upd σ6 (.x m7) (.tup ([.ref (.x m3)]++refsX ks'))) m7 (restOf (l+1) (part0 N S 1)):=by
    unfold restOf
    rw [if_neg hb0]
    exact ⟨m3::ks',upd_self ..,K7'.at l6' (fun z=>z),hp6.keep K7' fun _ z=>z⟩
   generalize upd σ6 (.x m7) (.tup ([.ref (.x m3)]++refsX ks'))=σ7 at K7 hR7 ⊢
   walk_at "go"
   have T7:=T.keep K7 fun _ z=>z.elim
   obtain ⟨a1,a2,a3,a4,a5,a6,a7,a8,a9,a10,a11,a12⟩:=T7
   exact rest σ7 _ m7 (h.keep K7 fun a z=>z) ⟨a1.set (by decide +kernel),by walk_at "lg",by walk_at "lg",by walk_at "lg",by walk_at "lg",by walk_at "lg",by walk_at "lg",by walk_at "lg",by walk_at "lg",a9,a10,hR7,a11,a12⟩
end
structure DeadOk(N:Nm)(S:LS)(bg:Nat)(D2:Dk):Prop where
 al:D2.alive=false
 sp:D2.spent=S.D0.spent+(bg:Int)
 row:RowOk D2
 r0:stripRs (N.Q 0) (rowsOf D2)=part0 N S 0
 r1:stripRs (N.Q 1) (rowsOf D2)=restOf bg (part0 N S 1)
 cut:CutOk D2 []
 c:∀ p<2,stripRs (N.Q p) (rowsOf (D2.cut []))=part1 N S p
section
variable{X:Cx}{σ:Hp}{ρ:Loc}{N:Nm}{S:LS}
theorem seg36{D2:Dk}(ha:D2.alive=false)(h:SAt σ N (S.on D2))(R:RAt ρ N S.sf):ExSs X LG (lawTail 36) σ ρ FinP (fun _ _ _=>False):=by
 obtain ⟨r1,r2,r3,r4,r5,r6,r7,r8,r9⟩:=id R
 refine ExSs.consK ?_;intro _ _
 refine ExS.ret ?_
 refine EvE.and2 ?_
 refine c2_1 h.d0 fun g0 js0 hD0=>?_
 have hD0:DAt σ N.i0 D2 g0 js0:=hD0
 walk_at "r"
 refine ⟨_,SubR.list h.n.subs (by decide) (by decide) rfl,?_⟩
 walk_at "r"
 refine ((law_dead_ok h.sup (h.n.sub 0 (by decide)).2 (h.n.len 0 (by decide)).1 (h.n.sub 0 (by decide)).1 (h.n.len 0 (by decide)).2 hD0 ha).le (nle rfl)).mono ?_ nof
 intro v σ1;refine f0_2 ?_;rintro rfl K1
 refine ⟨true,rfl,(fun hb=>by cases hb),fun _=>?_⟩
 have h1:=h.keep K1 fun a z=>z
 have hD1:=hD0.keep K1 (fun _ z=>z) fun _ z=>z
 walk_at "r"
 refine ⟨_,SubR.list h1.n.subs (by decide) (by decide) rfl,?_⟩
 walk_at "r"
 refine ((law_dead_ok h1.sup (h1.n.sub 1 (by decide)).2 (h1.n.len 1 (by decide)).1 (h1.n.sub 1 (by decide)).1 (h1.n.len 1 (by decide)).2 hD1 ha).le (nle rfl)).mono ?_ nof
 intro v σ2;refine f0_2 ?_;rintro rfl K2
 walk_at "go"
 rfl
theorem seg35{D2:Dk}{bg k0 k1 kr st tw:Nat}(F:DeadOk N S bg D2)(hal:S.D0.alive=true)
  (h:SAt σ N (S.on D2)) (T:YAt σ ρ N S bg k0 k1 kr st tw):ExSs X LG (lawTail 35) σ ρ FinP (fun _ _ _=>False):=by
 refine ExSs.consK ?_;intro _ _
 refine c1_1 h.sup.x fun m1 hm1=>?_
 refine ExS.forIn rfl (by walk_at "mem") ?_
 walk_at "r"
 refine B.range hm1 ?_
 have K1:Kp nil σ (upd σ (.x m1) (.range 2)):=.new (free_x hm1)
 refine ⟨.rng 2,(List.range 2).map fun j:Nat=>MV.int j,⟨_,rfl,upd_self ..,by lia⟩,rfl,fun q σ' ρ'=>SAt σ' N (S.on D2)∧YAt σ' ρ' N S bg k0 k1 kr st tw,⟨h.keep K1 fun a z=>z,T.keep K1⟩,fun _ _ _ _=>rfl,?_,?_⟩
 ·clear T h K1 hm1
  intro p σ ρ v;refine f0_2 fun h T=>?_;rintro hv _ _
  rw [List.getElem?_map] at hv
  refine c1_2 (Option.map_eq_some_iff.mp hv) ?_;rintro j' hj' rfl
  refine c1_1 (List.getElem?_eq_some_iff.mp hj') fun hp hj'=>?_
  rw [List.getElem_range] at hj'
  rw [List.length_range] at hp
  subst hj'
  obtain ⟨⟨r1,r2,r3,r4,r5,r6,r7,r8,r9⟩,t1,t2,t3,t4,t5,t6,t7,t8,t9,t10,t11,⟨v0,v1,ls,hs0,hs1⟩,⟨w0,w1,lt,hw0,hw1⟩⟩:=id T
  refine c2_1 h.d0 fun g0 js0 hD0=>?_
  have hD0:DAt σ N.i0 D2 g0 js0:=hD0
  have ez:=(h.n.sub p hp).1
  have hql:(N.qs p++[N.pq p]).length≤2:=by rw [List.length_append,List.length_singleton];have:=h.n.len p hp;lia
  have hPp:=Place.sub (h.n.sub p hp).2 ez (h.n.len p hp).2
  refine ExSs.consK ?_;intro _ _
  refine ExS.assign (by walk_at "mem") ?_ rfl
  refine EvE.methK rfl ?_ rfl rfl rfl rfl
  walk_at "r"
  refine ⟨_,SubR.list h.n.subs (by lia) (by lia) (idx2 (f:=fun q=>.ref (.x (N.sx q))) hp),?_⟩
  refine ⟨.x (N.sx p),522,_,_,rfl,ez,rfl,by walk_at "lg",?_⟩
  refine c1_1 h.sup.x fun m hm=>?_
  refine EvArgs.cons ?_ rfl
  refine EvE.list ?_
  refine EvArgs.nil ?_
  refine ⟨.x m,hm,nle rfl,?_⟩
  have Km:Kp nil σ (upd σ (.x m) (.list [])):=.new (free_x hm)
  have lm:upd σ (.x m) (.list []) (.x m)=some (.list (([]:List Int).map .int)):=upd_self ..
  generalize upd σ (.x m) (.list [])=σm at Km lm ⊢
  refine EvArgs.nil ?_
  refine ⟨(Km.at ez fun z=>z).trans ez.symm,((cut_place (Km.sup h.sup) (hPp.keep Km fun _ z=>z) hql (hD0.keep Km (fun _ z=>z) fun _ z=>z) F.cut lm (by decide)).le (n':=10) (by decide)).mono ?_ nof⟩
  intro v σa;refine f4_5 ?_;rintro ja ga jsa aa rfl hPa hfa Ka hDa
  refine c2_4 (hPa.inv rfl) ?_;rintro ma ba rfl ea hPa' _
  have Kma:=Km.trans Ka
  have Ta:=T.keep Kma
  have ha:=h.keep Kma fun a z=>z
  walk_at "st"
  have hiv:∀ (w:MV),True:=fun _=>trivial
  have lt':=Kma.at lt fun z=>z
  have ls':=Kma.at ls fun z=>z
  obtain ⟨w,hw,hwt⟩:∃ w,[w0,w1][((p:Nat):Int).toNat]?=some w∧TwinAt σa N S p w:=by
   exact two_ind (F:=fun p=>∃ w,[w0,w1][((p:Nat):Int).toNat]?=some w∧TwinAt σa N S p w) ⟨w0,rfl,hw0.keep Kma fun _ z=>z.elim⟩ ⟨w1,rfl,hw1.keep Kma fun _ z=>z.elim⟩ hp
  obtain ⟨s,hs,hst⟩:∃ s,[v0,v1][((p:Nat):Int).toNat]?=some s∧StillAt σa N S p s:=by
   exact two_ind (F:=fun p=>∃ s,[v0,v1][((p:Nat):Int).toNat]?=some s∧StillAt σa N S p s) ⟨v0,rfl,hs0.keep Kma fun _ z=>z.elim⟩ ⟨v1,rfl,hs1.keep Kma fun _ z=>z.elim⟩ hp
  refine c4_4 hwt ?_;rintro jt mt gt jst rfl hPt hjt hDt
  refine c2_4 (hPt.inv rfl) fun mt' bt et0 et hPt' _=>?_
  cases et0
  refine c1_2 hst ?_;rintro ks rfl hRs
  have c1:lget "p" (lset "left" (.ref (.x ma)) (lset "p" (.int (p:Nat)) ρ))=some (.int (p:Nat)):=by walk_at "lg"
  have c2:lget "left" (lset "left" (.ref (.x ma)) (lset "p" (.int (p:Nat)) ρ))=some (.ref (.x ma)):=lget_set_hit
  have c3:lget "twins" (lset "left" (.ref (.x ma)) (lset "p" (.int (p:Nat)) ρ))=some (.ref (.x tw)):=by walk_at "lg"
  have c4:lget "still" (lset "left" (.ref (.x ma)) (lset "p" (.int (p:Nat)) ρ))=some (.ref (.x st)):=by walk_at "lg"
  have Tn:YAt σa (lset "left" (.ref (.x ma)) (lset "p" (.int (p:Nat)) ρ)) N S bg k0 k1 kr st tw:=by
   obtain ⟨a1,a2,a3,a4,a5,a6,a7,a8,a9,a10,a11,a12,a13,a14⟩:=Ta
   exact ⟨(a1.set (by decide +kernel)).set (by decide +kernel),by walk_at "lg",by walk_at "lg",by walk_at "lg",by walk_at "lg",by walk_at "lg",by walk_at "lg",by walk_at "lg",by walk_at "lg",a10,a11,a12,a13,a14⟩
  walk_at "go"
  generalize lset "left" (.ref (.x ma)) (lset "p" (.int (p:Nat)) ρ)=ρ2 at c1 c2 c3 c4 Tn ⊢
  have hlN:(N.qs p).length≤2:=by have:=h.n.len p hp;lia
  walk_at "r"
  refine EvE.alive (G:=LG) (by decide) ?_ rfl
  walk_at "r"
  refine ⟨_,SubR.list lt' (by lia) (by lia) hw,?_⟩
  refine ⟨mt,jt,bt,N.qs p,N.pq p,S.D0.copyD,gt,jst,rfl,et,hPt',hDt,hlN,true,by rw [show S.D0.copyD.alive=S.D0.alive from rfl,hal],?_⟩
  walk_at "n"
  walk_at "r"
  refine EvE.alive (G:=LG) (by decide) ?_ rfl
  walk_at "r"
  refine ⟨ma,ja,ba,N.qs p,N.pq p,D2.cut [],ga,jsa,rfl,ea,hPa',hDa,hlN,true,congrArg MV.bool (cut_inv D2 _ _ _).alive,?_⟩
  walk_at "n"
  refine EvTs.cons ?_
  refine EvT.cmp ?_ rfl
  refine EvE.methJ rfl ?_ rfl rfl rfl rfl
  walk_at "r"
  refine ⟨.x ma,[],rfl,((row_place ha.sup hPa hql hDa F.cut.row).le (n':=10) (by decide)).mono ?_ nof,?_⟩
  rotate_left
  ·refine EvArgs.nil ?_
   exact ⟨rfl,rfl,rfl⟩
  intro v σb;refine f1_4 ?_;rintro kb rfl hkb hRb Kb
  have ls2:=Kb.at ls' fun z=>z
  walk_at "r"
  refine ⟨_,SubR.list ls2 (by lia) (by lia) hs,?_⟩
  refine Or.inr ⟨_,_,hRb.rows,(hRs.keep Kb fun _ z=>z).rows,?_⟩
  refine And.intro (fun hb=>absurd hb (by
   have:=F.c p hp
   unfold Nm.Q at this
   rw [this];simp)) (fun _=>?_)
  walk_at "st"
  walk_at "n"
  walk_at "st"
  walk_at "st"
  walk_at "go"
  exact ⟨ha.keep Kb fun a z=>z,Tn.keep Kb⟩
 ·intro σ' ρ';refine f0_2 fun hs ht=>?_
  walk_at "go"
  exact seg36 F.al hs ht.r
theorem seg34{D2:Dk}{bg k0 k1 kr st tw:Nat}(F:DeadOk N S bg D2)(Y:CopyOk S.D0)(hal:S.D0.alive=true)
  (h:SAt σ N (S.on D2)) (T:YAt σ ρ N S bg k0 k1 kr st tw):ExSs X LG (lawTail 34) σ ρ FinP (fun _ _ _=>False):=by
 obtain ⟨⟨r1,r2,r3,r4,r5,r6,r7,r8,r9⟩,t1,t2,t3,t4,t5,t6,t7,t8,t9,t10,t11,⟨v0,v1,ls,hs0,hs1⟩,⟨w0,w1,lt,hw0,hw1⟩⟩:=id T
 have hql:∀ p<2,(N.Q p).length≤2:=fun p hp=>by unfold Nm.Q;rw [List.length_append,List.length_singleton];have:=h.n.len p hp;lia
 refine c4_4 hw0 ?_;rintro ja ma ga jsa rfl hPa hja hDa
 refine c4_4 hw1 ?_;rintro jb mb gb jsb rfl hPb hjb hDb
 refine ExSs.consK ?_;intro _ _
 refine ExS.ifte ?_
 refine EvT.bool ?_
 refine EvTs.cons ?_
 refine EvT.cmp ?_ rfl
 refine EvE.methJ rfl ?_ rfl rfl rfl rfl
 walk_at "r"
 refine ⟨_,SubR.list lt (by decide) (by decide) rfl,?_⟩
 refine ⟨.x ma,[],rfl,((row_place h.sup hPa (hql 0 (by decide)) hDa Y.row).le (n':=10) (by decide)).mono ?_ nof,?_⟩
 rotate_left
 ·refine EvArgs.nil ?_
  exact ⟨rfl,rfl,rfl⟩
 intro v σ1;refine f1_4 ?_;rintro k2 rfl hk2 hR2 K1
 have lt1:=K1.at lt fun z=>z
 walk_at "r"
 refine Or.inr ⟨_,_,hR2.rows,(t9.keep K1 fun _ z=>z).rows,?_⟩
 refine And.intro (fun hb=>absurd hb (by rw [Y.rows];simp)) (fun _=>?_)
 refine EvTs.cons ?_
 refine EvT.cmp ?_ rfl
 refine EvE.methJ rfl ?_ rfl rfl rfl rfl
 walk_at "r"
 refine ⟨_,SubR.list lt1 (by decide) (by decide) rfl,?_⟩
 refine ⟨.x mb,[],rfl,((row_place (K1.sup h.sup) (hPb.keep K1 fun _ z=>z) (hql 1 (by decide)) (hDb.keep K1 (fun _ z=>z) fun _ z=>z) Y.row).le (n':=10) (by decide)).mono ?_ nof,?_⟩
 rotate_left
 ·refine EvArgs.nil ?_
  exact ⟨rfl,rfl,rfl⟩
 intro v σ2;refine f1_4 ?_;rintro k3 rfl hk3 hR3 K2
 have K12:=K1.trans K2
 walk_at "r"
 refine Or.inr ⟨_,_,hR3.rows,(t10.keep K12 fun _ z=>z).rows,?_⟩
 refine And.intro (fun hb=>absurd hb (by rw [Y.rows];simp)) (fun _=>?_)
 walk_at "st"
 walk_at "n"
 walk_at "st"
 walk_at "go"
 exact seg35 F hal (h.keep K12 fun a z=>z) (T.keep K12)
theorem seg33{D2:Dk}{bg k0 k1 kr st tw:Nat}(F:DeadOk N S bg D2)(Y:CopyOk S.D0)(hal:S.D0.alive=true)
  (h:SAt σ N (S.on D2)) (T:YAt σ ρ N S bg k0 k1 kr st tw):ExSs X LG (lawTail 33) σ ρ FinP (fun _ _ _=>False):=by
 obtain ⟨⟨r1,r2,r3,r4,r5,r6,r7,r8,r9⟩,t1,t2,t3,t4,t5,t6,t7,t8,t9,t10,t11,⟨v0,v1,ls,hs0,hs1⟩,⟨w0,w1,lt,hw0,hw1⟩⟩:=id T
 refine c2_1 h.d0 fun g0 js0 hD0=>?_
 have hD0:DAt σ N.i0 D2 g0 js0:=hD0
 have hdk:=hD0.disk
 have hql:∀ p<2,(N.qs p++[N.pq p]).length≤2:=fun p hp=>by rw [List.length_append,List.length_singleton];have:=h.n.len p hp;lia
 have hPp:=fun (p:Nat) (hp:p<2)=>Place.sub (h.n.sub p hp).2 (h.n.sub p hp).1 (h.n.len p hp).2
 walk_at "c"
 refine ⟨true,rfl,And.intro (fun hb=>absurd hb (by decide)) (fun _=>?_)⟩
 walk_at "r"
 rw [F.sp]
 refine cmpNeI (t:=false) (by simp) (And.intro (fun hb=>absurd hb (by decide)) (fun _=>?_))
 refine EvTs.cons ?_
 refine EvT.cmp ?_ rfl
 refine EvE.methJ rfl ?_ rfl rfl rfl rfl
 walk_at "r"
 refine ⟨_,SubR.list h.n.subs (by decide) (by decide) rfl,?_⟩
 refine ⟨.x (N.sx 0),[],rfl,((row_place h.sup (hPp 0 (by decide)) (hql 0 (by decide)) hD0 F.row).le (n':=10) (by decide)).mono ?_ nof,?_⟩
 rotate_left
 ·refine EvArgs.nil ?_
  exact ⟨rfl,rfl,rfl⟩
 intro v σ1;refine f1_4 ?_;rintro ka rfl hka hRa K1
 have h1:=h.keep K1 fun a z=>z
 have hD1:=hD0.keep K1 (fun _ z=>z) fun _ z=>z
 walk_at "r"
 refine Or.inr ⟨_,_,hRa.rows,(t9.keep K1 fun _ z=>z).rows,?_⟩
 refine And.intro (fun hb=>absurd hb (by
  have:=F.r0
  unfold Nm.Q part0 at this
  rw [this];simp [part0,Nm.Q])) (fun _=>?_)
 refine EvTs.cons ?_
 refine EvT.cmp ?_ rfl
 refine EvE.methJ rfl ?_ rfl rfl rfl rfl
 walk_at "r"
 refine ⟨_,SubR.list h1.n.subs (by decide) (by decide) rfl,?_⟩
 refine ⟨.x (N.sx 1),[],rfl,((row_place h1.sup ((hPp 1 (by decide)).keep K1 fun _ z=>z) (hql 1 (by decide)) hD1 F.row).le (n':=10) (by decide)).mono ?_ nof,?_⟩
 rotate_left
 ·refine EvArgs.nil ?_
  exact ⟨rfl,rfl,rfl⟩
 intro v σ2;refine f1_4 ?_;rintro kb rfl hkb hRb K2
 walk_at "r"
 refine Or.inr ⟨_,_,hRb.rows,((t11.keep K1 fun _ z=>z).keep K2 fun _ z=>z).rows,?_⟩
 refine And.intro (fun hb=>absurd hb (by
  have:=F.r1
  unfold Nm.Q at this
  rw [this];simp)) (fun _=>?_)
 walk_at "st"
 walk_at "n"
 walk_at "st"
 have K12:=K1.trans K2
 have h2:=h.keep K12 fun a z=>z
 have T2:=T.keep K12
 walk_at "go"
 exact seg34 F Y hal h2 T2
end
structure FinOk(N:Nm)(S:LS):Prop where
 alike:AlikeOk N S
 cuts:CutsOk N S
 copy:CopyOk S.D0
 row:RowOk S.D0
 q0:N.qs 0=[]
 wf:Wf S.D0
 dead:∀ bg≤3,DeadOk N S bg (deadOf S.D0 bg (pre (N.Q 1) sX))
theorem law_end{X:Cx}{σ:Hp}{ρ:Loc}{N:Nm}{S:LS}(hN:NumOk N)(F:FinOk N S)(h:SAt σ N S)(R:RAt ρ N S.sf):ExSs X LG (lawTail 14) σ ρ FinP (fun _ _ _=>False):=by
 have hlen:(part0 N S 1).length≤100:=by
  have hl:∀ (qs:List Str) (l:List (Str×Array UInt8)),(stripRs qs l).length≤l.length:=by
   intro qs
   induction qs with
   | nil=>intro l;exact Nat.le_refl _
   | cons q qs ih=>intro l;exact Nat.le_trans (ih _) (stripR1_len q l)
  have:=hl (N.Q 1) (rowsOf S.D0)
  rw [rowsOf_len] at this
  have:=F.row.l
  show (stripRs (N.Q 1) (rowsOf S.D0)).length≤100
  lia
 refine tail14 F.alike (fun σ ρ h R=>?_) h R
 refine seg16 hN F.row (fun σ ρ e o pk h T b l=>?_) h R
 refine cut_loop F.cuts (by rfl) (fun σ ρ pk ps h T P=>?_) h T b l
 refine seg20 F.cuts F.copy F.row F.q0 (fun σ ρ h T=>?_) h T P
 refine seg22 F.cuts F.copy F.row (by rfl) (fun bg σ ρ k0 k1 st tw hbg h T=>?_) h T
 refine seg29 hbg F.wf (fun σ ρ h T hd=>?_) h T
 refine seg32 hbg hlen (fun σ ρ kr h T=>?_) h T hd
 exact seg33 (F.dead bg hbg) F.copy F.wf.alive h T
theorem ints_vrs{μ:Mu}:∀ {Vs:List Value} {ns:List Int},IntsAre Vs ns→VRs μ (ns.map MV.int) Vs
 | _,_,.nil=>trivial
 | _,_,.cons n t h=>⟨⟨t,rfl⟩,ints_vrs h⟩
theorem ints_take{Vs:List Value}{ns:List Int}(h:IntsAre Vs ns):∀ k,IntsAre (Vs.take k) (ns.take k):=by
 induction h with
 | nil=>intro k;rw [List.take_nil,List.take_nil];exact .nil
 | cons n t h ih =>
  intro k
  cases k with
  | zero=>exact .nil
  | succ k=>exact .cons n t (ih k)
theorem ints_len{Vs:List Value}{ns:List Int}(h:IntsAre Vs ns):Vs.length=ns.length:=by
 induction h with
 | nil=>rfl
 | cons n t h ih=>rw [List.length_cons,List.length_cons,ih]
theorem lset_lset(x:String)(v u:MV):∀ ρ:Loc,lset x v (lset x u ρ)=lset x v ρ
 | []=>by show (if x=x then (x,v)::[] else _)=_;rw [if_pos rfl];rfl
 | (y,w)::r=>by
  show lset x v (if x=y then (x,u)::r else (y,w)::lset x u r)=(if x=y then (x,v)::r else (y,w)::lset x v r)
  by_cases e:x=y
  ·rw [if_pos e,if_pos e];show (if x=x then _ else _)=_;rw [if_pos rfl]
  ·rw [if_neg e,if_neg e];show (if x=y then _ else _)=_;rw [if_neg e,lset_lset x v u r]
section
variable{X:Cx}{G:Gm}{σ:Hp}{ρ:Loc}{Q:MV→Hp→Loc→Prop}{E:Addr→Hp→Loc→Prop}{R:MF→Hp→Loc→Prop}
theorem EvE.script{xs:Addr}{Vs:List Value}{ns:List Int}(hL:X.base.IsList xs Vs.toArray)(hI:IntsAre Vs ns)(hlen:ns.length≤63){value upper:Expr}{p pos:Pos}
  (h:EvE X G value σ ρ (fun ov σ₁ ρ₁=>ov=.top (.ref xs)∧EvE X G upper σ₁ ρ₁ (fun iv σ₂ ρ₂=>∃ n:Nat,iv=.int n∧∃ a,σ₂ a=none∧Q (.ref a) (upd σ₂ a (.list ((ns.take n).map .int))) ρ₂) E) E) :
  EvE X G (.Subscript value (.Slice none (some upper) none p) pos) σ ρ Q E:=fun A env frs μ it fr s he ha hs=>by
 refine n_sub (n_mono (h A env frs μ it fr s he ha hs) ?_ fun _ _ x=>x)
 rintro V s₁ ⟨μ₁,ov,σ₁,ρ₁,e₁,r₁,hs₁,rfl,hq⟩
 refine n_slice (n_pure ?_)
 show wpN _ _ _ (eval upper env) _ _ _
 refine n_mono (hq A env frs μ₁ it fr s₁ he ha hs₁) ?_ fun _ _=>.ext e₁
 rintro W s₂ ⟨μ₂,iv,σ₂,ρ₂,e₂,r₂,hs₂,n,rfl,a,ha',hq₂⟩
 refine c1_1 r₂ ?_;rintro t rfl
 have hV:V=.ref xs:=r₁
 subst hV
 refine n_pure (n_up ?_)
 have hsl:(s₂.heap.push (sliceObj .none (.int n t))).IsSliceOf s₂.heap.objs.size .none (.int n t) .none:=Heap.IsSliceOf.new ..
 have F':=hs₂.pushed (O:=sliceObj .none (.int n t))
 refine c2_1 F'.heap fun it' fr' H=>?_
 refine c1_2 hL fun O g1 g2=>?_
 have g1':=H.stays _ _ g1
 obtain ⟨c1,k,c2⟩:=id g2
 refine tail_any (T:="list") ⟨_,g1',c1⟩ slot_list_getitem.lookup ?_ rfl
 refine wpAny_getItem_list_slice (s:={ s₂ with heap:=s₂.heap.push (sliceObj .none (.int n t)) }) ⟨O,g1',g2⟩ hsl .none (.int n t) .none (by simp) ?_ (by rw [List.size_toArray,ints_len hI];exact line1000 (by lia))
 rw [slicePick_upto']
 exact F'.made (e₁.trans e₂) (o:=.list ((ns.take n).map .int)) (O:=listO (Vs.take n) 0) ha' (fun x h e=>⟨Vs.take n,0,e,ints_vrs (ints_take hI n)⟩) hq₂
theorem ExS.assignCel{x:String}{value:Expr}{np pos:Pos}(hx:x∈G.S.cels)(hpl:G.S.plain=true)(h:EvE X G value σ ρ (fun v σ₁ ρ₁=>R .next σ₁ (lset x v ρ₁)) E) :
  ExS X G (.Assign [.Name (Str.ofString x) np] value pos) σ ρ R E:=fun A env frs μ it fr s he ha hs=>by
 refine n_assign (n_mono (h A env frs μ it fr s he ha hs) ?_ fun _ _ x=>x) ?_
 ·rintro V s₁ ⟨μ₁,v,σ₁,ρ₁,e₁,r₁,hs₁,hq⟩
  exact n_up <| store_any he hs₁ (by unfold StOk;simp [hx,hpl]) r₁ fun s' hs'=>⟨μ₁,.next,σ₁,_,e₁,rfl,hs',hq⟩
 ·have hk:env.kindOf (Str.ofString x)=some .cell:=by rw [kindOf_eq he];exact he.ok.cels x hx
  unfold swapsWith
  cases value <;> first | rfl | (dsimp only;rw [hk];simp only [show (some NameKind.cell==some NameKind.local)=false from rfl,Bool.and_false,Bool.false_and])
end
section
variable{X:Cx}{σ:Hp}{ρ:Loc}
noncomputable def numsOf(ns:List Int):List Int:=if ns.take 12=[] then [5] else (ns.take 12).map fun x=>x.fmod 999983
theorem numsOf_nn(ns:List Int):∀ x∈numsOf ns,0≤x:=by
 intro x hx
 unfold numsOf at hx
 split at hx
 ·rw [List.mem_singleton] at hx;lia
 ·refine c1_2 (List.mem_map.mp hx) ?_;rintro y _ rfl
  exact Int.fmod_nonneg_of_pos _ (by decide)
set_option tactic.hygienic true in
theorem numsOf_pos(ns:List Int):1≤(numsOf ns).length:=by
 unfold numsOf
 split
 ·exact Nat.le_refl _
 ·rename_i h
  rw [List.length_map]
  exact List.length_pos_iff.mpr h
theorem numsOf_len(ns:List Int):(numsOf ns).length≤12:=by
 unfold numsOf
 split
 ·decide
 ·rw [List.length_map,List.length_take];lia
theorem seg0{xs:Addr}{Vs:List Value}{ns:List Int}(hL:X.base.IsList xs Vs.toArray)(hI:IntsAre Vs ns)(hlen:ns.length≤63)(hS:Sup σ)(hl0:σ (.l 0)=none)(hs:lget "script" ρ=some (.top (.ref xs)))
  (rest:∀ σ' (a:Nat),Kp (fun z=>z=.l 0) σ σ'→σ' (.l 0)=some (.list ((numsOf ns).map .int))→ExSs X LG (lawTail 3) σ' (lset "a" (.int (a:Nat)) (lset "nums" (.ref (.l 0)) ρ)) FinP (fun _ _ _=>False)) :
  ExSs X LG (lawTail 0) σ ρ FinP (fun _ _ _=>False):=by
 refine ExSs.consK ?_;intro _ _
 refine ExS.assignCel (by walk_at "mem") rfl ?_
 refine EvE.comp (S':=lcSc _ "x" [] []) (fv:=[]) rfl ⟨rfl,⟨by kernel_rfl,by decide +kernel,by decide +kernel,by decide +kernel,by decide +kernel,by decide +kernel⟩,rfl,rfl,by decide +kernel,by decide +kernel,by decide +kernel,rfl,rfl,by decide +kernel,rfl,by decide +kernel,by decide +kernel,by decide +kernel⟩ ?_ (by intro _ _;rfl)
 refine EvE.script hL hI hlen ?_
 refine c1_1 hS.x fun m1 hm1=>?_
 walk_at "r"
 refine ⟨rfl,?_⟩
 walk_at "r"
 refine ⟨12,rfl,.x m1,hm1,?_⟩
 have K1:Kp nil σ (upd σ (.x m1) (.list ((ns.take 12).map .int))):=.new (free_x hm1)
 have l1:upd σ (.x m1) (.list ((ns.take 12).map .int)) (.x m1)=some (.list ((ns.take 12).map .int)):=upd_self ..
 generalize upd σ (.x m1) (.list ((ns.take 12).map .int))=σ1 at K1 l1 ⊢
 have htl:(ns.take 12).length≤12:=by rw [List.length_take];lia
 refine ⟨.list (.x m1),(ns.take 12).map .int,[],fun t ys σ'=>σ'=σ1∧ys=((ns.take 12).take t).map fun x=>MV.int (x.fmod 999983),rfl,⟨(by intro y v hy;exact nos hy),⟨rfl,rfl⟩,?_,?_⟩,?_⟩
 ·intro t ys σ';refine f0_2 ?_;rintro rfl rfl
  refine ⟨l1,?_⟩
  rw [List.length_map,List.length_take]
  lia
 ·intro t ys σ' v;refine f0_2 ?_;rintro hσ rfl;rintro hv
  have hσ':=hσ.symm
  subst hσ'
  rw [List.getElem?_map] at hv
  refine c1_2 (Option.map_eq_some_iff.mp hv) ?_;rintro x hx rfl
  have etk:(ns.take 12).take (t+1)=(ns.take 12).take t++[x]:=by rw [List.take_add_one,hx];rfl
  refine EvIfs.nil (And.intro (fun _=>?_) (fun hb=>by cases hb))
  refine EvE.bin rfl ?_
  refine EvE.name (by exact Eq.refl true) lget_set_hit ?_
  refine EvE.cInt ?_
  refine bin_mod (by decide) ?_
  exact ⟨rfl,by rw [etk,List.map_append];rfl⟩
 ·intro ys σ';refine f0_2 ?_;rintro hσ rfl
  have hσ':=hσ.symm
  subst hσ'
  rw [List.length_map,List.take_length]
  have go:∀ σ' ρ',Kp (fun z=>z=.l 0) σ σ'→σ' (.l 0)=some (.list ((numsOf ns).map .int))→ρ'=lset "nums" (.ref (.l 0)) ρ→ExSs X LG (lawTail 2) σ' ρ' FinP (fun _ _ _=>False):=by
   rintro σ' ρ' K l rfl
   refine c1_1 (draw_nat (numsOf_nn ns) (numsOf_pos ns) 0) fun y hy=>?_
   walk_at "c"
   refine ((law_draw_ok (k:=0) l (numsOf_pos ns) (by have:=numsOf_len ns;lia) (by lia)).le (nle rfl)).mono ?_ nof
   intro v s0;refine f0_2 ?_;rintro rfl e0
   have e0':=e0.symm
   subst e0'
   rw [hy]
   walk_at "go"
   exact rest σ' y K l
  by_cases hz:ns.take 12=[]
  ·refine c1_1 ((K1.sup hS).x) fun m2 hm2=>?_
   rw [hz]
   refine ⟨.x m2,hm2,?_⟩
   have K2:Kp nil σ (upd σ1 (.x m2) (.list [])):=K1.then_x hm2
   have l2:upd σ1 (.x m2) (.list []) (.x m2)=some (.list []):=upd_self ..
   have hl2:upd σ1 (.x m2) (.list []) (.l 0)=none:=(K2.keep (.l 0) (fun z=>z) (.inr trivial)).trans hl0
   walk_at "go"
   show ExSs X LG _ (upd σ1 (.x m2) (.list [])) _ _ _
   generalize upd σ1 (.x m2) (.list [])=σ2 at K2 l2 hl2 ⊢
   have c1:lget "nums" (lset "nums" (.ref (.x m2)) ρ)=some (.ref (.x m2)):=lget_set_hit
   walk_at "c"
   refine B.len_list l2 (by decide) ?_
   walk_at "r"
   walk_at "y"
   walk_at "st"
   refine ExS.assignCel (by walk_at "mem") rfl ?_
   refine EvE.list ?_
   walk_at "r"
   refine ⟨.l 0,hl2,nle rfl,?_⟩
   walk_at "st"
   walk_at "go"
   refine go _ _ ((K2.mono fun _ z=>z.elim).then_upd rfl) (by rw [upd_self];unfold numsOf;rw [if_pos hz];rfl) ?_
   exact lset_lset _ _ _ _
  ·refine ⟨.l 0,(K1.keep (.l 0) (fun z=>z) (.inr trivial)).trans hl0,?_⟩
   have K2:Kp (fun z=>z=.l 0) σ (upd σ1 (.l 0) (.list ((ns.take 12).map fun x=>.int (x.fmod 999983)))):=(K1.mono fun _ z=>z.elim).then_upd rfl
   have l2:upd σ1 (.l 0) (.list ((ns.take 12).map fun x=>.int (x.fmod 999983))) (.l 0)=some (.list ((numsOf ns).map .int)):=by rw [upd_self];unfold numsOf;rw [if_neg hz,List.map_map];rfl
   walk_at "go"
   show ExSs X LG _ (upd σ1 (.l 0) (.list ((ns.take 12).map fun x=>.int (x.fmod 999983)))) _ _ _
   generalize upd σ1 (.l 0) (.list ((ns.take 12).map fun x=>.int (x.fmod 999983)))=σ2 at K2 l2 ⊢
   have c1:lget "nums" (lset "nums" (.ref (.l 0)) ρ)=some (.ref (.l 0)):=lget_set_hit
   have hp:=numsOf_pos ns
   have hle:=numsOf_len ns
   walk_at "c"
   refine B.len_list l2 (by rw [List.length_map];lia) ?_
   rw [List.length_map]
   walk_at "r"
   refine And.intro (fun hb=>absurd hb (by simp;intro z;rw [z] at hp;exact absurd hp (by decide))) (fun _=>?_)
   walk_at "st"
   walk_at "go"
   exact go σ2 _ K2 l2 rfl
end
noncomputable def s0:Str:=Str.ofString "0"
noncomputable def Dinit:Dk:=(Dk.mk1 Dk.new s0).syncDir
theorem Kp.none_d{P:MA→Prop}{σ σ':Hp}{j:Nat}(h:Kp P σ σ')(hj:∀ p,σ' (.d j p)=none):∀ p,σ (.d j p)=none:=fun p=>h.none_of (hj p)
section
variable{X:Cx}{σ:Hp}{ρ:Loc}
theorem init_has:Dk.Has (Dk.mk1 Dk.new s0) (Dk.mk1 Dk.new s0).pres:=by
 have e:(Dk.mk1 Dk.new s0).pres=[(s0,1)]:=by rfl
 rw [e]
 constructor
 ·intro n k h
  unfold dget at h
  simp at h
  refine c0_2 h fun h1 h2=>?_
  subst h2
  exact List.mem_singleton.mpr rfl
 ·intro n k h
  unfold dget at h
  simp at h
  refine c0_2 h fun h1 h2=>?_
  subst h2
  exact ⟨⟨#[],0⟩,rfl,by decide,by decide⟩
theorem one_turn{j:Nat}{g:Gs}{js:List MA}(hS:Sup σ)(h:DAt σ j Dk.new g js)(b:lget "one" ρ=some (.ref (.d j .disk))) :
  ExSs X LG (forBody (lawAt 5)) σ ρ (fun mf σ' ρ'=>mf=.next∧ρ'=ρ∧Kp (inD j) σ σ'∧∃ g js,DAt σ' j Dinit g js) (fun _ _ _=>False):=by
 have hd:=h.disk
 walk_at "c"
 refine ((create_ok (n:=s0) (show DAt σ j ⟨-1,0,true,0,fun _=>none,[],[],[],[]⟩ g js from h) hS rfl (by decide +kernel) (by decide) (by decide) (by decide) (by decide)).le (nle rfl)).mono ?_ nof
 intro v σ1;refine f3_5 ?_;rintro m g1 js1 rfl _ _ K1 h1
 have hd1:=h1.disk
 walk_at "r"
 refine ((sync_dir_ok h1 (K1.sup hS) init_has (by decide)).le (nle rfl)).mono ?_ nof
 rintro v σ2 ⟨rfl,K2,g2,h2⟩
 walk_at "st"
 walk_at "go"
 exact ⟨rfl,rfl,K1.trans K2,g2,_,h2⟩
theorem seg3{a:Nat}(hS:Sup σ)(hl1:σ (.l 1)=none)(b1:lget "nums" ρ=some (.ref (.l 0)))(b2:lget "a" ρ=some (.int (a:Nat)))
  (rest:∀ σ' ρ' (j0 j1 j2:Nat),Kp (fun z=>z=.l 1) σ σ'→j0≠j1→j0≠j2→j1≠j2→(∃ g js,DAt σ' j0 Dinit g js)→(∃ g js,DAt σ' j1 Dinit g js)→(∃ g js,DAt σ' j2 Dinit g js)→σ' (.l 1)=some (.list [.ref (.d j1 .disk),.ref (.d j2 .disk)]) →
   lget "nums" ρ'=some (.ref (.l 0))→lget "a" ρ'=some (.int (a:Nat))→lget "disk" ρ'=some (.ref (.d j0 .disk))→lget "owns" ρ'=some (.ref (.l 1))→ExSs X LG (lawTail 6) σ' ρ' FinP (fun _ _ _=>False)) :
  ExSs X LG (lawTail 3) σ ρ FinP (fun _ _ _=>False):=by
 refine c1_1 hS.d fun j0 hj0=>?_
 walk_at "c"
 refine ((Disk_new hj0).le (nle rfl)).mono ?_ nof
 intro v σ1;refine f0_4 ?_;rintro rfl K1 h1 _
 have S1:=K1.sup hS
 refine c1_1 S1.d fun j1 hj1=>?_
 have n01:j0≠j1:=h1.dne hj1
 walk_at "go"
 refine ExSs.consK ?_;intro _ _
 refine ExS.assign (by walk_at "mem") ?_ rfl
 refine EvE.list ?_
 walk_at "r"
 refine ((Disk_new hj1).le (nle rfl)).mono ?_ nof
 intro v σ2;refine f0_4 ?_;rintro rfl K2 h2 _
 have S2:=K2.sup S1
 have h1':=h1.keep K2 (fun _ z=>z) fun _ z=>z
 refine c1_1 S2.d fun j2 hj2=>?_
 have n02:j0≠j2:=h1'.dne hj2
 have n12:j1≠j2:=h2.dne hj2
 walk_at "r"
 refine ((Disk_new hj2).le (nle rfl)).mono ?_ nof
 intro v σ3;refine f0_4 ?_;rintro rfl K3 h3 _
 have S3:=K3.sup S2
 have h1'':=h1'.keep K3 (fun _ z=>z) fun _ z=>z
 have h2':=h2.keep K3 (fun _ z=>z) fun _ z=>z
 have K13:Kp nil σ σ3:=(K1.trans K2).trans K3
 walk_at "r"
 refine ⟨.l 1,(K13.keep (.l 1) (fun z=>z) (.inr trivial)).trans hl1,nle rfl,?_⟩
 have K4':Kp (fun z=>z=.l 1) σ3 (upd σ3 (.l 1) (.list [.ref (.d j1 .disk),.ref (.d j2 .disk)])):=.upd rfl
 have K4:Kp (fun z=>z=.l 1) σ (upd σ3 (.l 1) (.list [.ref (.d j1 .disk),.ref (.d j2 .disk)])):=(K13.mono fun _ z=>z.elim).then_upd rfl
 have l4:upd σ3 (.l 1) (.list [.ref (.d j1 .disk),.ref (.d j2 .disk)]) (.l 1)=some (.list [.ref (.d j1 .disk),.ref (.d j2 .disk)]):=upd_self ..
 have kd:∀ {j:Nat} {D:Dk} {g:Gs} {js:List MA},DAt σ3 j D g js→DAt (upd σ3 (.l 1) (.list [.ref (.d j1 .disk),.ref (.d j2 .disk)])) j D g js:=fun z=>z.keep K4' (by rintro p w;exact dif_no w rfl) (by rintro p w;exact dif_no w rfl)
 have q0:=kd h1''
 have q1:=kd h2'
 have q2:=kd h3
 walk_at "go"
 show ExSs X LG _ (upd σ3 (.l 1) (.list [.ref (.d j1 .disk),.ref (.d j2 .disk)])) _ _ _
 generalize upd σ3 (.l 1) (.list [.ref (.d j1 .disk),.ref (.d j2 .disk)])=σ4 at K4 l4 q0 q1 q2 ⊢
 have c1:lget "nums" (lset "owns" (.ref (.l 1)) (lset "disk" (.ref (.d j0 .disk)) ρ))=some (.ref (.l 0)):=by walk_at "lg"
 have c2:lget "a" (lset "owns" (.ref (.l 1)) (lset "disk" (.ref (.d j0 .disk)) ρ))=some (.int (a:Nat)):=by walk_at "lg"
 have c3:lget "disk" (lset "owns" (.ref (.l 1)) (lset "disk" (.ref (.d j0 .disk)) ρ))=some (.ref (.d j0 .disk)):=by walk_at "lg"
 have c4:lget "owns" (lset "owns" (.ref (.l 1)) (lset "disk" (.ref (.d j0 .disk)) ρ))=some (.ref (.l 1)):=by walk_at "lg"
 walk_at "go"
 generalize lset "owns" (.ref (.l 1)) (lset "disk" (.ref (.d j0 .disk)) ρ)=ρ4 at c1 c2 c3 c4 ⊢
 refine c1_1 ((K4.sup hS).x) fun m5 hm5=>?_
 refine ExSs.consK ?_;intro _ _
 refine ExS.forIn rfl (by walk_at "mem") ?_
 refine EvE.addL ?_
 refine EvE.list ?_
 walk_at "r"
 refine ⟨.x m5,hm5,nle rfl,?_⟩
 have K5:Kp nil σ4 (upd σ4 (.x m5) (.list [.ref (.d j0 .disk)])):=.new (free_x hm5)
 have l5:upd σ4 (.x m5) (.list [.ref (.d j0 .disk)]) (.x m5)=some (.list [.ref (.d j0 .disk)]):=upd_self ..
 generalize upd σ4 (.x m5) (.list [.ref (.d j0 .disk)])=σ5 at K5 l5 ⊢
 have l45:=K5.at l4 fun z=>z
 refine c1_1 ((K5.sup (K4.sup hS)).x) fun m6 hm6=>?_
 walk_at "r"
 refine ⟨.x m5,.l 1,.x m6,_,_,rfl,rfl,hm6,l5,l45,nle rfl,?_⟩
 have K6:Kp nil σ4 (upd σ5 (.x m6) (.list ([.ref (.d j0 .disk)]++[.ref (.d j1 .disk),.ref (.d j2 .disk)]))):=K5.then_x hm6
 have l6:upd σ5 (.x m6) (.list ([.ref (.d j0 .disk)]++[.ref (.d j1 .disk),.ref (.d j2 .disk)])) (.x m6)=some (.list [.ref (.d j0 .disk),.ref (.d j1 .disk),.ref (.d j2 .disk)]):=upd_self ..
 generalize upd σ5 (.x m6) (.list ([.ref (.d j0 .disk)]++[.ref (.d j1 .disk),.ref (.d j2 .disk)]))=σ6 at K6 l6 ⊢
 have S6:=K6.sup (K4.sup hS)
 have r0:=q0.keep K6 (fun _ z=>z) fun _ z=>z
 have r1:=q1.keep K6 (fun _ z=>z) fun _ z=>z
 have r2:=q2.keep K6 (fun _ z=>z) fun _ z=>z
 refine ⟨.list (.x m6),[.ref (.d j0 .disk),.ref (.d j1 .disk),.ref (.d j2 .disk)],rfl,l6,fun q σ' ρ'=>Kp (fun z=>inD j0 z∨inD j1 z∨inD j2 z) σ6 σ'∧(∃ g js,DAt σ' j0 (if 0<q then Dinit else Dk.new) g js)∧(∃ g js,DAt σ' j1 (if 1<q then Dinit else Dk.new) g js)∧(∃ g js,DAt σ' j2 (if 2<q then Dinit else Dk.new) g js) ∧
  lget "nums" ρ'=some (.ref (.l 0))∧lget "a" ρ'=some (.int (a:Nat))∧lget "disk" ρ'=some (.ref (.d j0 .disk))∧lget "owns" ρ'=some (.ref (.l 1)),⟨.refl _ _,⟨_,_,r0⟩,⟨_,_,r1⟩,⟨_,_,r2⟩,c1,c2,c3,c4⟩,?_,?_,?_⟩
 ·intro q σ' ρ';refine f0_2 fun K _=>?_
  exact K.at l6 (by rintro (⟨p,z⟩ | ⟨p,z⟩ | ⟨p,z⟩) <;> exact dif_no z rfl)
 ·intro q σ' ρ' v;refine f0_8 fun K d0 d1 d2 e1 e2 e3 e4=>?_;rintro hv _ _
  have hne:∀ {j j':Nat} {D:Dk} {σ'':Hp},j≠j'→Kp (inD j') σ' σ''→(∃ g js,DAt σ' j D g js)→∃ g js,DAt σ'' j D g js:=fun hjj K ⟨g,js,z⟩=>⟨g,js,z.keep K (by intro p;refine f1_1 fun q w=>?_;injection w with w1 w2;exact hjj w1) (by intro p;refine f1_1 fun q w=>?_;exact dif_no w rfl)⟩
  match q,hv with
  | 0,hv =>
   cases hv
   refine c2_1 d0 fun g js d0=>?_
   refine (one_turn (K.sup S6) d0 lget_set_hit).mono ?_
   intro mf σ'' ρ'';refine f0_4 ?_;rintro rfl rfl K' d
   walk_at "go"
   exact ⟨K.trans (K'.mono fun _ z=>.inl z),d,hne n01.symm K' d1,hne n02.symm K' d2,by walk_at "lg",by walk_at "lg",by walk_at "lg",by walk_at "lg"⟩
  | 1,hv =>
   cases hv
   refine c2_1 d1 fun g js d1=>?_
   refine (one_turn (K.sup S6) d1 lget_set_hit).mono ?_
   intro mf σ'' ρ'';refine f0_4 ?_;rintro rfl rfl K' d
   walk_at "go"
   exact ⟨K.trans (K'.mono fun _ z=>.inr (.inl z)),hne n01 K' d0,d,hne n12.symm K' d2,by walk_at "lg",by walk_at "lg",by walk_at "lg",by walk_at "lg"⟩
  | 2,hv =>
   cases hv
   refine c2_1 d2 fun g js d2=>?_
   refine (one_turn (K.sup S6) d2 lget_set_hit).mono ?_
   intro mf σ'' ρ'';refine f0_4 ?_;rintro rfl rfl K' d
   walk_at "go"
   exact ⟨K.trans (K'.mono fun _ z=>.inr (.inr z)),hne n02 K' d0,hne n12 K' d1,d,by walk_at "lg",by walk_at "lg",by walk_at "lg",by walk_at "lg"⟩
 ·intro σ' ρ';refine f0_8 fun K d0 d1 d2 e1 e2 e3 e4=>?_
  have KK:Kp (fun z=>z=.l 1) σ σ':=by
   have b0:∀ p,σ (.d j0 p)=none:=hj0
   have b1:∀ p,σ (.d j1 p)=none:=K1.none_d hj1
   have b2:∀ p,σ (.d j2 p)=none:=(K1.trans K2).none_d hj2
   have K46:Kp (fun z=>z=.l 1) σ σ6:=K4.trans (K6.mono fun _ z=>z.elim)
   refine Kp.fresh (j:=j2) (Kp.fresh (j:=j1) (Kp.fresh (j:=j0) ((K46.mono fun _ z=>.inl (.inl (.inl z))).trans (K.mono ?_)) b0) b1) b2
   rintro z (w | w | w)
   ·exact .inr w
   ·exact .inl (.inr w)
   ·exact .inl (.inl (.inr w))
  walk_at "go"
  exact rest σ' ρ' j0 j1 j2 KK n01 n02 n12 d0 d1 d2 (K.at (K6.at l4 fun z=>z) (by rintro (⟨p,z⟩ | ⟨p,z⟩ | ⟨p,z⟩) <;> exact dif_no z rfl)) e1 e2 e3 e4
end
noncomputable def sA:Str:=Str.ofString "a-"
noncomputable def sB:Str:=Str.ofString "b-"
noncomputable def sBb:Str:=Str.ofString "b"
noncomputable def sD:Str:=Str.ofString "-"
noncomputable def secondQ(qs:List Str)(q:Str):Prop:=(qs=[]∧q=sB)∨(qs=[sBb]∧q=sD)
section
variable{X:Cx}{σ:Hp}{ρ:Loc}
theorem seg6{a j0:Nat}{g:Gs}{js:List MA}(hS:Sup σ)(hD:DAt σ j0 Dinit g js)(hl2:σ (.l 2)=none)(b1:lget "nums" ρ=some (.ref (.l 0)))(b2:lget "a" ρ=some (.int (a:Nat)))(b3:lget "disk" ρ=some (.ref (.d j0 .disk)))(b4:lget "owns" ρ=some (.ref (.l 1)))
  (rest:∀ σ' ρ' (m0 m1:Nat) a1 q1 qs1,Kp (fun z=>z=.l 2) σ σ'→σ' (.x m0)=some (subO (.d j0 .disk) sA)→σ' (.x m1)=some (subO a1 q1)→Place σ' j0 a1 qs1→secondQ qs1 q1→σ' (.l 2)=some (.list [.ref (.x m0),.ref (.x m1)]) →
   lget "nums" ρ'=some (.ref (.l 0))→lget "a" ρ'=some (.int (a:Nat))→lget "disk" ρ'=some (.ref (.d j0 .disk))→lget "owns" ρ'=some (.ref (.l 1))→lget "subs" ρ'=some (.ref (.l 2))→ExSs X LG (lawTail 8) σ' ρ' FinP (fun _ _ _=>False)) :
  ExSs X LG (lawTail 6) σ ρ FinP (fun _ _ _=>False):=by
 refine c1_1 hS.x fun m0 hm0=>?_
 refine ExSs.consK ?_;intro _ _
 walk_at "st"
 refine EvE.list ?_
 walk_at "r"
 refine ((SubDisk_new hm0).le (nle rfl)).mono ?_ nof
 intro v σ1;refine f0_2 ?_;rintro rfl e1
 have K1:Kp nil σ σ1:=by rw [e1];exact .new (free_x hm0)
 have l1:σ1 (.x m0)=some (subO (.d j0 .disk) sA):=by rw [e1];exact upd_self ..
 clear e1
 refine c1_1 ((K1.sup hS).x) fun m1 hm1=>?_
 walk_at "r"
 refine ((SubDisk_new hm1).le (nle rfl)).mono ?_ nof
 intro v σ2;refine f0_2 ?_;rintro rfl e2
 have K2':Kp nil σ1 σ2:=by rw [e2];exact .new (free_x hm1)
 have K2:=K1.trans K2'
 have l2:σ2 (.x m1)=some (subO (.d j0 .disk) sB):=by rw [e2];exact upd_self ..
 have l1':=K2'.at l1 fun z=>z
 clear e2
 walk_at "r"
 refine ⟨.l 2,(K2.keep (.l 2) (fun z=>z) (.inr trivial)).trans hl2,nle rfl,?_⟩
 have K3':Kp (fun z=>z=.l 2) σ2 (upd σ2 (.l 2) (.list [.ref (.x m0),.ref (.x m1)])):=.upd rfl
 have K3:Kp (fun z=>z=.l 2) σ (upd σ2 (.l 2) (.list [.ref (.x m0),.ref (.x m1)])):=(K2.mono fun _ z=>z.elim).then_upd rfl
 have l3:upd σ2 (.l 2) (.list [.ref (.x m0),.ref (.x m1)]) (.l 2)=some (.list [.ref (.x m0),.ref (.x m1)]):=upd_self ..
 have l1'':=K3'.at l1' (ne_dif tru)
 have l2'':=K3'.at l2 (ne_dif tru)
 walk_at "go"
 show ExSs X LG _ (upd σ2 (.l 2) (.list [.ref (.x m0),.ref (.x m1)])) _ _ _
 generalize upd σ2 (.l 2) (.list [.ref (.x m0),.ref (.x m1)])=σ3 at K3 l3 l1'' l2'' ⊢
 have c1:lget "nums" (lset "subs" (.ref (.l 2)) ρ)=some (.ref (.l 0)):=by walk_at "lg"
 have c2:lget "a" (lset "subs" (.ref (.l 2)) ρ)=some (.int (a:Nat)):=by walk_at "lg"
 have c3:lget "disk" (lset "subs" (.ref (.l 2)) ρ)=some (.ref (.d j0 .disk)):=by walk_at "lg"
 have c4:lget "owns" (lset "subs" (.ref (.l 2)) ρ)=some (.ref (.l 1)):=by walk_at "lg"
 have c5:lget "subs" (lset "subs" (.ref (.l 2)) ρ)=some (.ref (.l 2)):=lget_set_hit
 walk_at "go"
 generalize lset "subs" (.ref (.l 2)) ρ=ρ3 at c1 c2 c3 c4 c5 ⊢
 walk_at "c"
 refine bin_fdiv (by decide) (by decide) ?_
 rw [show ((a:Int).fdiv 5)=((a / 5:Nat):Int) from fdivN a 5]
 walk_at "r"
 refine bin_mod (by decide) ?_
 rw [show (((a / 5:Nat):Int).fmod 2)=((a / 5 % 2:Nat):Int) from fmodN (a / 5) 2]
 walk_at "r"
 by_cases ho:a / 5 % 2=1
 ·rw [ho]
  walk_at "y"
  refine c1_1 ((K3.sup hS).x) fun m4 hm4=>?_
  refine ExSs.consK ?_;intro _ _
  walk_at "st"
  walk_at "r"
  refine ((SubDisk_new hm4).le (nle rfl)).mono ?_ nof
  intro v σ4;refine f0_2 ?_;rintro rfl e4
  have K4':Kp nil σ3 σ4:=by rw [e4];exact .new (free_x hm4)
  have l4:σ4 (.x m4)=some (subO (.d j0 .disk) sBb):=by rw [e4];exact upd_self ..
  clear e4
  have K4:Kp (fun z=>z=.l 2) σ σ4:=K3.trans (K4'.mono fun _ z=>z.elim)
  refine c1_1 ((K4.sup hS).x) fun m5 hm5=>?_
  walk_at "r"
  refine ((SubDisk_new hm5).le (nle rfl)).mono ?_ nof
  intro v σ5;refine f0_2 ?_;rintro rfl e5
  have K5':Kp nil σ4 σ5:=by rw [e5];exact .new (free_x hm5)
  have l5:σ5 (.x m5)=some (subO (.x m4) sD):=by rw [e5];exact upd_self ..
  clear e5
  have K35:=K4'.trans K5'
  have l45:=K5'.at l4 fun z=>z
  have l35:=K35.at l3 fun z=>z
  have l15:=K35.at l1'' fun z=>z
  walk_at "r"
  refine ⟨_,SetR.list l35 (by decide) (Int.lt_of_lt_of_le (by decide:(1:Int)<2) (Int.le_refl _)) (nle rfl),?_⟩
  have K6':Kp (fun z=>z=.l 2) σ5 (upd σ5 (.l 2) (.list ([MV.ref (.x m0),.ref (.x m1)].set (1:Int).toNat (.ref (.x m5))))):=.upd rfl
  have K6:Kp (fun z=>z=.l 2) σ (upd σ5 (.l 2) (.list ([MV.ref (.x m0),.ref (.x m1)].set (1:Int).toNat (.ref (.x m5))))):=(K3.trans (K35.mono fun _ z=>z.elim)).trans K6'
  have l6:upd σ5 (.l 2) (.list ([MV.ref (.x m0),.ref (.x m1)].set (1:Int).toNat (.ref (.x m5)))) (.l 2)=some (.list [.ref (.x m0),.ref (.x m5)]):=upd_self ..
  have l16:=K6'.at l15 (ne_dif tru)
  have l46:=K6'.at l45 (ne_dif tru)
  have l56:=K6'.at l5 (ne_dif tru)
  walk_at "go"
  show ExSs X LG _ (upd σ5 (.l 2) (.list ([MV.ref (.x m0),.ref (.x m1)].set (1:Int).toNat (.ref (.x m5))))) _ _ _
  generalize upd σ5 (.l 2) (.list ([MV.ref (.x m0),.ref (.x m1)].set (1:Int).toNat (.ref (.x m5))))=σ6 at K6 l6 l16 l46 l56 ⊢
  exact rest σ6 ρ3 m0 m5 (.x m4) sD ([]++[sBb]) K6 l16 l56 (.sub .disk l46 (by decide +kernel)) (.inr ⟨rfl,rfl⟩) l6 c1 c2 c3 c4 c5
 ·refine And.intro (fun hb=>absurd hb (by simp;lia)) (fun _=>?_)
  walk_at "st"
  walk_at "go"
  exact rest σ3 ρ3 m0 m1 _ _ [] K3 l1'' l2'' .disk (.inl ⟨rfl,rfl⟩) l3 c1 c2 c3 c4 c5
structure LAt(σ:Hp)(ρ:Loc):Prop where
 l4:σ (.l 4)=some (.list [])
 l5:σ (.l 5)=some (.list [])
 l3:σ (.l 3)=some (.list [.ref (.l 4),.ref (.l 5)])
 l7:σ (.l 7)=some (.dictS [])
 l8:σ (.l 8)=some (.dictS [])
 l6:σ (.l 6)=some (.list [.ref (.l 7),.ref (.l 8)])
 l9:σ (.l 9)=some (.list [])
 l10:σ (.l 10)=some (.list [.int 0,.int 0])
 files:lget "files" ρ=some (.ref (.l 3))
 under:lget "under" ρ=some (.ref (.l 6))
 owners:lget "owners" ρ=some (.ref (.l 9))
 kept:lget "kept" ρ=some (.ref (.l 10))
 safe:lget "safe" ρ=some (.int (0:Nat))
noncomputable def late(z:MA):Prop:=∃ k,3≤k∧z=.l k
theorem seg8{a j0:Nat}(hl:∀ k,3≤k→σ (.l k)=none)(b1:lget "nums" ρ=some (.ref (.l 0)))(b2:lget "a" ρ=some (.int (a:Nat)))(b3:lget "disk" ρ=some (.ref (.d j0 .disk)))(b4:lget "owns" ρ=some (.ref (.l 1)))(b5:lget "subs" ρ=some (.ref (.l 2)))
  (rest:∀ σ' ρ',Kp late σ σ'→LAt σ' ρ'→lget "nums" ρ'=some (.ref (.l 0))→lget "a" ρ'=some (.int (a:Nat))→lget "disk" ρ'=some (.ref (.d j0 .disk))→lget "owns" ρ'=some (.ref (.l 1))→lget "subs" ρ'=some (.ref (.l 2))→ExSs X LG (lawTail 13) σ' ρ' FinP (fun _ _ _=>False)) :
  ExSs X LG (lawTail 8) σ ρ FinP (fun _ _ _=>False):=by
 have nl:∀ {j k:Nat},j≠k→(MA.l j)≠.l k:=fun h z=>by cases z;exact h rfl
 have ua:∀ {τ:Hp} {j k:Nat} {o:MO} {x:Option MO},j≠k→τ (.l j)=x→upd τ (.l k) o (.l j)=x:=fun h e=>(upd_ne _ _ (nl h)).trans e
 refine ExSs.consK ?_;intro _ _
 walk_at "st"
 refine EvE.list ?_
 refine EvArgs.cons ?_ rfl
 refine EvE.list ?_
 refine EvArgs.nil ?_
 refine ⟨.l 4,hl 4 (by decide),nle rfl,?_⟩
 refine EvArgs.cons ?_ rfl
 refine EvE.list ?_
 refine EvArgs.nil ?_
 refine ⟨.l 5,ua (by decide) (hl 5 (by decide)),nle rfl,?_⟩
 refine EvArgs.nil ?_
 refine ⟨.l 3,ua (by decide) (ua (by decide) (hl 3 (by decide))),nle rfl,?_⟩
 have K1:Kp late σ (upd (upd (upd σ (.l 4) (.list [])) (.l 5) (.list [])) (.l 3) (.list [.ref (.l 4),.ref (.l 5)])):=((Kp.upd ⟨4,by decide,rfl⟩).then_upd ⟨5,by decide,rfl⟩).then_upd ⟨3,by decide,rfl⟩
 have x3:upd (upd (upd σ (.l 4) (.list [])) (.l 5) (.list [])) (.l 3) (.list [.ref (.l 4),.ref (.l 5)]) (.l 3)=some (.list [.ref (.l 4),.ref (.l 5)]):=upd_self ..
 have x4:upd (upd (upd σ (.l 4) (.list [])) (.l 5) (.list [])) (.l 3) (.list [.ref (.l 4),.ref (.l 5)]) (.l 4)=some (.list []):=ua (by decide) (ua (by decide) (upd_self ..))
 have x5:upd (upd (upd σ (.l 4) (.list [])) (.l 5) (.list [])) (.l 3) (.list [.ref (.l 4),.ref (.l 5)]) (.l 5)=some (.list []):=ua (by decide) (upd_self ..)
 have hl1:∀ k,6≤k→upd (upd (upd σ (.l 4) (.list [])) (.l 5) (.list [])) (.l 3) (.list [.ref (.l 4),.ref (.l 5)]) (.l k)=none:=fun k hk=>ua (by lia) (ua (by lia) (ua (by lia) (hl k (by lia))))
 walk_at "go"
 show ExSs X LG _ (upd (upd (upd σ (.l 4) (.list [])) (.l 5) (.list [])) (.l 3) (.list [.ref (.l 4),.ref (.l 5)])) _ _ _
 generalize upd (upd (upd σ (.l 4) (.list [])) (.l 5) (.list [])) (.l 3) (.list [.ref (.l 4),.ref (.l 5)])=σ1 at K1 x3 x4 x5 hl1 ⊢
 clear hl
 refine ExSs.consK ?_;intro _ _
 walk_at "st"
 refine EvE.list ?_
 refine EvArgs.cons ?_ rfl
 refine EvE.dictS0 (a:=.l 7) (hl1 7 (by decide)) ?_
 refine EvArgs.cons ?_ rfl
 refine EvE.dictS0 (a:=.l 8) (ua (by decide) (hl1 8 (by decide))) ?_
 refine EvArgs.nil ?_
 refine ⟨.l 6,ua (by decide) (ua (by decide) (hl1 6 (by decide))),nle rfl,?_⟩
 have K2:Kp late σ (upd (upd (upd σ1 (.l 7) (.dictS [])) (.l 8) (.dictS [])) (.l 6) (.list [.ref (.l 7),.ref (.l 8)])):=((K1.then_upd ⟨7,by decide,rfl⟩).then_upd ⟨8,by decide,rfl⟩).then_upd ⟨6,by decide,rfl⟩
 have x6:upd (upd (upd σ1 (.l 7) (.dictS [])) (.l 8) (.dictS [])) (.l 6) (.list [.ref (.l 7),.ref (.l 8)]) (.l 6)=some (.list [.ref (.l 7),.ref (.l 8)]):=upd_self ..
 have x7:upd (upd (upd σ1 (.l 7) (.dictS [])) (.l 8) (.dictS [])) (.l 6) (.list [.ref (.l 7),.ref (.l 8)]) (.l 7)=some (.dictS []):=ua (by decide) (ua (by decide) (upd_self ..))
 have x8:upd (upd (upd σ1 (.l 7) (.dictS [])) (.l 8) (.dictS [])) (.l 6) (.list [.ref (.l 7),.ref (.l 8)]) (.l 8)=some (.dictS []):=ua (by decide) (upd_self ..)
 have y3:upd (upd (upd σ1 (.l 7) (.dictS [])) (.l 8) (.dictS [])) (.l 6) (.list [.ref (.l 7),.ref (.l 8)]) (.l 3)=some (.list [.ref (.l 4),.ref (.l 5)]):=ua (by decide) (ua (by decide) (ua (by decide) x3))
 have y4:upd (upd (upd σ1 (.l 7) (.dictS [])) (.l 8) (.dictS [])) (.l 6) (.list [.ref (.l 7),.ref (.l 8)]) (.l 4)=some (.list []):=ua (by decide) (ua (by decide) (ua (by decide) x4))
 have y5:upd (upd (upd σ1 (.l 7) (.dictS [])) (.l 8) (.dictS [])) (.l 6) (.list [.ref (.l 7),.ref (.l 8)]) (.l 5)=some (.list []):=ua (by decide) (ua (by decide) (ua (by decide) x5))
 have hl2:∀ k,9≤k→upd (upd (upd σ1 (.l 7) (.dictS [])) (.l 8) (.dictS [])) (.l 6) (.list [.ref (.l 7),.ref (.l 8)]) (.l k)=none:=fun k hk=>ua (by lia) (ua (by lia) (ua (by lia) (hl1 k (by lia))))
 walk_at "go"
 show ExSs X LG _ (upd (upd (upd σ1 (.l 7) (.dictS [])) (.l 8) (.dictS [])) (.l 6) (.list [.ref (.l 7),.ref (.l 8)])) _ _ _
 generalize upd (upd (upd σ1 (.l 7) (.dictS [])) (.l 8) (.dictS [])) (.l 6) (.list [.ref (.l 7),.ref (.l 8)])=σ2 at K2 x6 x7 x8 y3 y4 y5 hl2 ⊢
 clear K1 x3 x4 x5 hl1
 refine ExSs.consK ?_;intro _ _
 walk_at "st"
 refine EvE.list ?_
 refine EvArgs.nil ?_
 refine ⟨.l 9,hl2 9 (by decide),nle rfl,?_⟩
 walk_at "go"
 walk_at "c"
 refine EvE.list ?_
 walk_at "r"
 refine ⟨.l 10,ua (by decide) (hl2 10 (by decide)),nle rfl,?_⟩
 walk_at "go"
 refine rest _ _ ((K2.then_upd ⟨9,by decide,rfl⟩).then_upd ⟨10,by decide,rfl⟩) ⟨ua (by decide) (ua (by decide) y4),ua (by decide) (ua (by decide) y5),ua (by decide) (ua (by decide) y3),ua (by decide) (ua (by decide) x7),ua (by decide) (ua (by decide) x8),ua (by decide) (ua (by decide) x6),ua (by decide) (upd_self ..),upd_self ..,?_,?_,?_,?_,?_⟩ ?_ ?_ ?_ ?_ ?_
 all_goals walk_at "lg"
end
noncomputable def LS0:LS:=⟨Dinit,fun _=>Dinit,fun _=>[],fun _=>[],[],0,fun _=>0,[],fun _=>[],fun _=>[]⟩
structure NameOk(N:Nm):Prop where
 num:NumOk N
 q0:N.qs 0=[]
 p0:N.pq 0=sA
 q1:secondQ (N.qs 1) (N.pq 1)
theorem set_up{X:Cx}{xs:Addr}{Vs:List Value}{ns:List Int}(hL:X.base.IsList xs Vs.toArray)(hI:IntsAre Vs ns)(hlen:ns.length≤63)
  (rest:∀ N (a:Nat) σ ρ,NameOk N→SAt σ N LS0→RAt ρ N LS0.sf→lget "a" ρ=some (.int (a:Nat))→ExSs X LG (lawTail 13) σ ρ FinP (fun _ _ _=>False)) :
  ExSs X LG (fdBody (atTop 26)) (fun _=>none) [("script",.top (.ref xs))] FinP (fun _ _ _=>False):=by
 have hS:Sup (fun _:MA=>(none:Option MO)):=⟨0,fun k _=>⟨rfl,fun _=>rfl⟩⟩
 refine seg0 hL hI hlen hS rfl lget_hit (fun σ1 a K1 l1=>?_)
 have S1:=K1.sup hS
 have nl:∀ {j k:Nat},j≠k→(MA.l j)≠.l k:=fun h z=>by cases z;exact h rfl
 have c1:lget "nums" (lset "a" (.int (a:Nat)) (lset "nums" (.ref (.l 0)) [("script",.top (.ref xs))]))=some (.ref (.l 0)):=lget_set_miss (by decide +kernel) lget_set_hit
 have c2:lget "a" (lset "a" (.int (a:Nat)) (lset "nums" (.ref (.l 0)) [("script",.top (.ref xs))]))=some (.int (a:Nat)):=lget_set_hit
 have n1:∀ k,k≠0→σ1 (.l k)=none:=fun k hk=>K1.keep (.l k) (nl hk) (.inr trivial)
 refine seg3 S1 (n1 1 (by decide)) c1 c2 (fun σ2 ρ2 j0 j1 j2 K2 n01 n02 n12 d0 d1 d2 l2 b1 b2 b3 b4=>?_)
 have S2:=K2.sup S1
 have n2:∀ k,k≠0→k≠1→σ2 (.l k)=none:=fun k h0 h1=>(K2.keep (.l k) (nl h1) (.inr trivial)).trans (n1 k h0)
 refine c2_1 d0 fun g0 js0 hD0=>?_
 refine c2_1 d1 fun g1 js1 hD1=>?_
 refine c2_1 d2 fun g2 js2 hD2=>?_
 refine seg6 S2 hD0 (n2 2 (by decide) (by decide)) b1 b2 b3 b4 (fun σ3 ρ3 m0 m1 a1 q1 qs1 K3 e0 e1 hP hQ l3 b1 b2 b3 b4 b5=>?_)
 have S3:=K3.sup S2
 have n3:∀ k,3≤k→σ3 (.l k)=none:=fun k hk=>(K3.keep (.l k) (nl (by lia)) (.inr trivial)).trans (n2 k (by lia) (by lia))
 refine seg8 (j0:=j0) n3 b1 b2 b3 b4 b5 (fun σ4 ρ4 K4 L b1 b2 b3 b4 b5=>?_)
 have lx:∀ {k:Nat},¬ late (.x k):=by intro k;refine f1_2 fun j _ z=>?_;exact dif_no z rfl
 have ld:∀ {i:Nat} {p},¬ late (.d i p):=by intro i p;refine f1_2 fun j _ z=>?_;exact dif_no z rfl
 have ll:∀ {k:Nat},k<3→¬ late (.l k):=by intro k hk;refine f1_2 fun j hj z=>?_;cases z;lia
 have kd:∀ {j:Nat} {D:Dk} {g:Gs} {js:List MA},DAt σ2 j D g js→DAt σ4 j D g js:=fun z=>(z.keep K3 (by intro p w;exact dif_no w rfl) (by intro p w;exact dif_no w rfl)).keep K4 (fun _=>ld) fun _=>lx
 let N:Nm:=⟨numsOf ns,j0,fun p=>if p=0 then j1 else j2,fun p=>if p=0 then m0 else m1,fun p=>if p=0 then .d j0 .disk else a1,fun p=>if p=0 then sA else q1,fun p=>if p=0 then [] else qs1⟩
 have hP4:Place σ4 j0 a1 qs1:=hP.keep K4 fun _=>lx
 have two:∀ {F:Nat→Prop},F 0→F 1→∀ p<2,F p:=fun h0 h1 p hp=>by
  have:p=0∨p=1:=by lia
  rcases this with rfl | rfl
  ·exact h0
  ·exact h1
 have hq1:q1.length≤10∧qs1.length≤1:=by
  rcases hQ with ⟨rfl,rfl⟩ | ⟨rfl,rfl⟩
  ·exact ⟨by decide +kernel,by decide⟩
  ·exact ⟨by decide +kernel,by decide⟩
 have hNA:NAt σ4 N:=by
  refine ⟨two n01 n02,n12,two ⟨K4.at e0 lx,.disk⟩ ⟨K4.at e1 lx,hP4⟩,two ⟨Nat.zero_le 1,(by decide +kernel:sA.length≤10)⟩ ⟨hq1.2,hq1.1⟩,?_,?_,?_,L.l3,L.l6⟩
  ·exact K4.at (K3.at (K2.at l1 (nl (by decide))) (nl (by decide))) (ll (by decide))
  ·exact K4.at (K3.at l2 (nl (by decide))) (ll (by decide))
  ·exact K4.at l3 (ll (by decide))
 refine rest N a σ4 ρ4 ⟨⟨numsOf_pos ns,by have:=numsOf_len ns;show (numsOf ns).length≤63;lia,numsOf_nn ns⟩,rfl,rfl,hQ⟩ ⟨K4.sup S3,hNA,⟨g0,js0,kd hD0⟩,two ⟨g1,js1,kd hD1⟩ ⟨g2,js2,kd hD2⟩,two L.l4 L.l5,?_,two L.l7 L.l8,?_,L.l9,L.l10,List.nodup_nil,fun _ _=>List.nodup_nil⟩
  ⟨b1,b3,b4,b5,L.files,L.under,L.owners,L.kept,L.safe⟩ b2
 ·intro p hp h hh;cases hh
 ·intro p hp h hh;cases hh
structure InvOk(Inv:Nm→Nat→LS→Prop):Prop where
 start:∀ N,NameOk N→Inv N 0 LS0
 turn:∀ N t S p oct S',NameOk N→Inv N t S→t≤5→p<2→oct.size≤3→Turn N p oct S S'→Inv N (t+1) S'
 good:∀ N t S,NameOk N→Inv N t S→t≤6→Good N S
 fin:∀ N t S,NameOk N→Inv N t S→t≤6→FinOk N S
theorem body_of{Inv:Nm→Nat→LS→Prop}(I:InvOk Inv):BodyOk 10:=fun X xs Vs ns XO hL hI hlen =>
 set_up hL hI hlen fun N a σ ρ hN h R b=>main_loop hN.num (fun t S hi ht=>I.good N t S hN hi ht) (fun t S p oct S' hi ht hp ho T=>I.turn N t S p oct S' hN hi ht hp ho T) (I.start N hN)
  (fun t S σ ρ ht hi h R=>law_end hN.num (I.fin N t S hN hi ht) h R) h R b
theorem holds_of{Inv:Nm→Nat→LS→Prop}(I:InvOk Inv):PySem.Challenge.rw_nz0367_01.Holds:=law_entry (N:=10) (by decide) (body_of I)
theorem dget_cons(n m:Str)(k:Nat)(d:Dir):dget n ((m,k)::d)=if m=n then some k else dget n d:=by
 unfold dget
 rw [List.find?_cons]
 by_cases h:m=n
 ·simp [h]
 ·simp [h]
theorem dget_map(n m:Str)(k:Nat)(d:Dir):dget m (d.map fun p=>if p.1=n then (p.1,k) else p)=if m=n then (dget m d).map fun _=>k else dget m d:=by
 induction d with
 | nil=>exact (ite_self (c:=m=n) (none:Option Nat)).symm
 | cons p d ih =>
  cases p with | mk a b =>
  rw [List.map_cons]
  by_cases h:a=n
  ·rw [if_pos (show (a,b).1=n from h),dget_cons,ih,dget_cons]
   by_cases e:a=m
   ·rw [if_pos e,if_pos e,if_pos (e.symm.trans h)];rfl
   ·rw [if_neg e,if_neg e]
  ·rw [if_neg (show ¬ (a,b).1=n from h),dget_cons,ih,dget_cons]
   by_cases e:a=m
   ·rw [if_pos e,if_pos e,if_neg fun z=>h (e.trans z)]
   ·rw [if_neg e,if_neg e]
theorem dget_append(n m:Str)(k:Nat)(d:Dir):dget m (d++[(n,k)])=(dget m d).or (if n=m then some k else none):=by
 induction d with
 | nil=>rw [List.nil_append,dget_cons];rfl
 | cons p d ih =>
  cases p with | mk a b =>
  rw [List.cons_append,dget_cons,dget_cons,ih]
  by_cases h:a=m
  ·rw [if_pos h,if_pos h];rfl
  ·rw [if_neg h,if_neg h]
theorem any_dget(n:Str)(d:Dir):d.any (fun p=>p.1=n)=(dget n d).isSome:=by
 induction d with
 | nil=>rfl
 | cons p d ih =>
  cases p with | mk a b =>
  rw [List.any_cons,dget_cons,ih]
  by_cases h:a=n
  ·rw [if_pos h,decide_eq_true (show (a,b).1=n from h)];rfl
  ·rw [if_neg h,decide_eq_false (show ¬ (a,b).1=n from h)];rfl
set_option tactic.hygienic true in
theorem dget_dset(n m:Str)(k:Nat)(d:Dir):dget m (dset n k d)=if m=n then some k else dget m d:=by
 unfold dset
 rw [any_dget]
 split
 ·rename_i h
  rw [dget_map]
  by_cases e:m=n
  ·subst e
   rw [if_pos rfl,if_pos rfl]
   refine c1_1 (Option.isSome_iff_exists.mp h) fun x hx=>?_
   rw [hx];rfl
  ·rw [if_neg e,if_neg e]
 ·rename_i h
  rw [dget_append]
  by_cases e:m=n
  ·subst e
   have:dget m d=none:=by simpa using h
   rw [this];simp
  ·have e':¬ n=m:=fun z=>e z.symm
   rw [if_neg e,if_neg e'];simp
theorem dget_ddel(n m:Str)(d:Dir):dget m (ddel n d)=if m=n then none else dget m d:=by
 induction d with
 | nil=>exact (ite_self (c:=m=n) (none:Option Nat)).symm
 | cons p d ih =>
  cases p with | mk a b =>
  by_cases h:a=n
  ·rw [show ddel n ((a,b)::d)=ddel n d from List.filter_cons_of_neg fun z=>of_decide_eq_true z h,ih,dget_cons]
   by_cases e:m=n
   ·rw [if_pos e,if_pos e]
   ·rw [if_neg e,if_neg e,if_neg fun z=>e (z.symm.trans h)]
  ·rw [show ddel n ((a,b)::d)=(a,b)::ddel n d from List.filter_cons_of_pos (decide_eq_true h),dget_cons,dget_cons,ih]
   by_cases e:a=m
   ·rw [if_pos e,if_pos e,if_neg fun z=>h (e.trans z)]
   ·rw [if_neg e,if_neg e]
theorem keys_mem(n:Str)(d:Dir):n∈keysD d↔(dget n d).isSome=true:=by
 rw [← any_dget,List.any_eq_true]
 unfold keysD
 rw [List.mem_map]
 constructor
 ·refine f1_2 ?_;rintro p hp rfl;exact ⟨p,hp,by simp⟩
 ·refine f1_2 fun p hp e=>?_;exact ⟨p,hp,by simpa using e⟩
theorem keys_dset(n:Str)(k:Nat)(d:Dir):keysD (dset n k d)=if (dget n d).isSome then keysD d else keysD d++[n]:=by
 unfold dset
 rw [any_dget]
 split
 ·unfold keysD
  rw [List.map_map]
  refine List.map_congr_left fun p _=>?_
  show (if p.1=n then (p.1,k) else p).1=p.1
  split <;> rfl
 ·unfold keysD;rw [List.map_append];rfl
theorem keys_ddel(n:Str)(d:Dir):keysD (ddel n d)=(keysD d).filter fun m=>decide (m≠n):=by
 unfold keysD ddel
 rw [List.filter_map]
 rfl
set_option tactic.hygienic true in
theorem nodup_dset{n:Str}{k:Nat}{d:Dir}(h:(keysD d).Nodup):(keysD (dset n k d)).Nodup:=by
 rw [keys_dset]
 split
 ·exact h
 ·rename_i hn
  rw [List.nodup_append]
  refine ⟨h,by simp,fun a ha b hb=>?_⟩
  rw [List.mem_singleton] at hb
  subst hb
  rintro rfl
  exact hn ((keys_mem _ _).mp ha)
theorem nodup_ddel{n:Str}{d:Dir}(h:(keysD d).Nodup):(keysD (ddel n d)).Nodup:=by
 rw [keys_ddel];exact h.filter _
theorem plays_snoc'(l:List Stp)(s:Stp)(d:Dir):plays (l++[s]) d=play s (plays l d):=by unfold plays;rw [List.foldl_append];rfl
theorem plays_append(l l':List Stp)(d:Dir):plays (l++l') d=plays l' (plays l d):=by unfold plays;rw [List.foldl_append]
theorem dget_play(s:Stp)(d:Dir)(m:Str):dget m (play s d)=if s.kind=1 then (if m=s.name then some s.num else dget m d) else if s.kind=2 then (if m=s.name then none else dget m d) else
  match dget s.name d with
  | some k=>if m=s.other then some k else if m=s.name then none else dget m d
  | none=>dget m d:=by
 unfold play
 split
 ·exact dget_dset ..
 split
 ·exact dget_ddel ..
 cases dget s.name d with
 | some k=>dsimp only;rw [dget_dset,dget_ddel]
 | none=>rfl
theorem fits_append:∀ {l:List Stp} {d:Dir} {s:Stp},Fits l d→s.fits (plays l d)→Fits (l++[s]) d
 | [],d,s,_,h=>⟨h,trivial⟩
 | a::l,d,s,h,h'=>⟨h.1,fits_append h.2 h'⟩
theorem fits_drop:∀ (k:Nat) {l:List Stp} {d:Dir},Fits l d→Fits (l.drop k) (plays (l.take k) d)
 | 0,l,d,h=>by simpa [plays] using h
 | k+1,[],d,h=>by simp [Fits]
 | k+1,a::l,d,h=>by
  rw [List.drop_succ_cons,List.take_succ_cons]
  exact fits_drop k h.2
theorem snames_univ{U l:List Str}(hU:U.Pairwise fun a b=>leS a b=true)(hn:U.Nodup)(hl:l.Nodup)(hs:∀ n∈l,n∈U):snames l=U.filter fun n=>decide (n∈l):=by
 refine snames_unique ?_ (hU.filter _)
 rw [List.perm_ext_iff_of_nodup (hn.filter _) hl]
 intro a
 rw [List.mem_filter]
 constructor
 ·refine f0_2 fun _ h=>?_;simpa using h
 ·intro h;exact ⟨hs a h,by simpa using h⟩
noncomputable def atN(D:Dk)(d:Dir)(n:Str):Option Nd:=(dget n d).map (ndOf D)
noncomputable def viewOf(D:Dk)(d:Dir)(U:List Str):List (Str×Option Nd):=U.map fun n=>(n,atN D d n)
noncomputable def rowsV(l:List (Str×Option Nd)):List (Str×Array UInt8):=l.filterMap fun e=>e.2.map fun nd=>(e.1,nd.data)
noncomputable def cutV(row:List Int):Nat→List (Str×Option Nd)→List (Str×Array UInt8)
 | _,[]=>[]
 | q,(_,none)::l=>cutV row q l
 | q,(n,some nd)::l=>(n,takeB nd.data (cutLen nd (row.getD (q % row.length) 0)))::cutV row (q+1) l
structure Univ(U:List Str)(d:Dir):Prop where
 nd:(keysD d).Nodup
 sub:∀ n,(dget n d).isSome=true→n∈U
noncomputable def Rising(U:List Str):Prop:=U.Pairwise (fun a b=>leS a b=true)∧U.Nodup
theorem names_univ{U:List Str}{d:Dir}(hU:Rising U)(h:Univ U d):snames (keysD d)=U.filter fun n=>(dget n d).isSome:=by
 rw [snames_univ hU.1 hU.2 h.nd (fun n hn=>h.sub n ((keys_mem n d).mp hn))]
 refine List.filter_congr fun n _=>?_
 rw [Bool.eq_iff_iff]
 simp only [decide_eq_true_eq]
 exact keys_mem n d
theorem rows_view{U:List Str}{D:Dk}(hU:Rising U)(h:Univ U D.pres):rowsOf D=rowsV (viewOf D D.pres U):=by
 unfold rowsOf viewOf
 rw [names_univ hU h]
 clear hU h
 induction U with
 | nil=>rfl
 | cons n U ih =>
  rw [List.filter_cons,List.map_cons]
  unfold rowsV at ih ⊢
  rw [List.filterMap_cons]
  unfold atN
  cases e:dget n D.pres with
  | none=>exact ih
  | some k =>
   simp only [Option.isSome_some,if_true,List.map_cons,e,Option.getD_some,Option.map_some]
   rw [ih]
   rfl
noncomputable def cutL(F:Nat→Str→Array UInt8):Nat→List Str→List (Str×Array UInt8)
 | _,[]=>[]
 | q,n::l=>(n,F q n)::cutL F (q+1) l
theorem cutL_snoc(F:Nat→Str→Array UInt8)(n:Str):∀ (l:List Str) (q:Nat),cutL F q (l++[n])=cutL F q l++[(n,F (q+l.length) n)]
 | [],q=>rfl
 | m::l,q=>by
  show (m,F q m)::cutL F (q+1) (l++[n])=(m,F q m)::(cutL F (q+1) l++_)
  rw [cutL_snoc F n l (q+1),List.length_cons,show q+1+l.length=q+(l.length+1) by lia]
noncomputable def cutF(D:Dk)(row:List Int)(dir:Dir)(q:Nat)(n:Str):Array UInt8 :=
 takeB (ndOf D ((dget n dir).getD 0)).data (cutLen (ndOf D ((dget n dir).getD 0)) (row.getD (q % row.length) 0))
structure CutP(D:Dk)(row:List Int)(dir:Dir)(ns:List Str)(A:Dk):Prop where
 keys:keysD A.pres=ns
 made:A.made=ns.length
 has:∀ n k,dget n A.pres=some k→k≤A.made∧k∈A.reg∧∃ nn,A.nd k=some nn∧nn.data.size≤800∧nn.kept≤nn.data.size
 rows:ns.map (fun n=>(n,datOf A ((dget n A.pres).getD 0)))=cutL (cutF D row dir) 0 ns
theorem cutLen_le{nn:Nd}(r:Int)(h:nn.kept≤nn.data.size):cutLen nn r≤nn.data.size:=by
 unfold cutLen
 refine c1_2 (fmod_nn (r:=r) (n:=nn.data.size - nn.kept)) fun k hk hle=>?_
 rw [hk,Int.toNat_natCast]
 exact Nat.le_trans (Nat.add_le_add_left hle _) (Nat.le_of_eq (Nat.add_sub_cancel' h))
theorem cutP_snoc{D:Dk}{row:List Int}{dir:Dir}{ns:List Str}{A:Dk}{n:Str}(hH:D.Has dir)(C:CutP D row dir ns A)(hnot:n∉ns)(hin:(dget n dir).isSome=true):CutP D row dir (ns++[n]) (cutStep D row dir A n):=by
 refine c1_1 (Option.isSome_iff_exists.mp hin) fun k0 hk0=>?_
 refine c1_3 (hH.nd n k0 hk0) fun nn hnn hsz hkept=>?_
 have hnone:(dget n A.pres).isSome=false:=by
  cases e:(dget n A.pres).isSome with
  | false=>rfl
  | true=>exact absurd (by rw [← C.keys];exact (keys_mem n A.pres).mpr e) hnot
 have hpres:(cutStep D row dir A n).pres=dset n (A.made+1) A.pres:=rfl
 have hmade:(cutStep D row dir A n).made=A.made+1:=rfl
 have hreg:(cutStep D row dir A n).reg=A.reg++[A.made+1]:=rfl
 have hnew:(cutStep D row dir A n).nd (A.made+1)=some ⟨takeB nn.data (cutLen nn (row.getD (A.made % row.length) 0)),cutLen nn (row.getD (A.made % row.length) 0)⟩:=by
  show (if A.made+1=A.made+1 then _ else _)=_
  rw [if_pos rfl,hk0,Option.getD_some,hnn];rfl
 have hold:∀ k,k≤A.made→(cutStep D row dir A n).nd k=A.nd k:=fun k hk=>by
  show (if k=A.made+1 then _ else _)=_
  rw [if_neg (by lia)]
 have hlen:=cutLen_le (row.getD (A.made % row.length) 0) hkept
 refine ⟨?_,?_,?_,?_⟩
 ·rw [hpres,keys_dset,hnone,C.keys];rfl
 ·rw [hmade,C.made,List.length_append];rfl
 ·intro m k h
  rw [hpres,dget_dset] at h
  split at h
  ·cases h
   refine ⟨Nat.le_refl _,by rw [hreg];simp,_,hnew,?_,?_⟩
   ·rw [takeB_size];lia
   ·show cutLen nn _≤(takeB nn.data _).size
    rw [takeB_size];lia
  ·refine c0_3 (C.has m k h) fun h1 h2 h3=>?_
   exact ⟨by rw [hmade];lia,by rw [hreg];exact List.mem_append_left _ h2,by rw [hold k h1];exact h3⟩
 ·rw [List.map_append,cutL_snoc,Nat.zero_add,← C.rows]
  congr 1
  ·refine List.map_congr_left fun m hm=>?_
   have hne:¬ m=n:=by rintro rfl;exact hnot hm
   have hms:(dget m A.pres).isSome=true:=(keys_mem m A.pres).mp (by rw [C.keys];exact hm)
   refine c1_1 (Option.isSome_iff_exists.mp hms) fun k hk=>?_
   rw [hpres,dget_dset,if_neg hne,hk,Option.getD_some]
   unfold datOf
   rw [hold k (C.has m k hk).1]
  ·rw [List.map_cons,List.map_nil,hpres,dget_dset,if_pos rfl,Option.getD_some]
   unfold datOf
   rw [hnew,Option.getD_some]
   unfold cutF ndOf
   rw [hk0,Option.getD_some,hnn,Option.getD_some,C.made]
theorem cut_all{D:Dk}{row:List Int}{dir:Dir}(hH:D.Has dir):∀ (ns:List Str),ns.Nodup→(∀ n∈ns,(dget n dir).isSome=true)→CutP D row dir ns (cutOn D row dir ns):=by
 intro ns hn hs
 have key:∀ k≤ns.length,CutP D row dir (ns.take k) (cutOn D row dir (ns.take k)):=by
  intro k
  induction k with
  | zero=>intro _;exact ⟨rfl,rfl,(fun n k h=>by exact nos h),rfl⟩
  | succ k ih =>
   intro hk
   have C:=ih (by lia)
   have hlt:k<ns.length:=by lia
   have e1:ns.take (k+1)=ns.take k++[ns[k]]:=by rw [List.take_add_one,List.getElem?_eq_getElem hlt];rfl
   have hnot:ns[k]∉ns.take k:=by
    have:=hn.sublist (List.take_sublist (k+1) ns)
    rw [e1,List.nodup_append] at this
    intro z
    exact this.2.2 _ z _ (List.mem_singleton.mpr rfl) rfl
   rw [e1,cutOn_snoc]
   exact cutP_snoc hH C hnot (hs _ (List.getElem_mem hlt))
 have:=key ns.length (Nat.le_refl _)
 rw [List.take_length] at this
 exact this
structure RowIn(D:Dk)(U:List Str):Prop where
 has:D.Has D.pres
 keys:∀ n∈keysD D.pres,n∈U
 len:D.pres.length≤U.length
theorem cutL_view{D:Dk}{row:List Int}{dir:Dir}:∀ (U:List Str) (q:Nat),cutL (cutF D row dir) q (U.filter fun n=>(dget n dir).isSome)=cutV row q (viewOf D dir U)
 | [],q=>rfl
 | n::U,q=>by
  rw [List.filter_cons]
  unfold viewOf
  rw [List.map_cons]
  unfold atN
  cases e:dget n dir with
  | none=>exact cutL_view U q
  | some k =>
   simp only [Option.isSome_some,if_true,Option.map_some]
   show (n,cutF D row dir q n)::cutL (cutF D row dir) (q+1) _=(n,_)::cutV row (q+1) _
   rw [cutL_view U (q+1)]
   unfold cutF
   rw [e,Option.getD_some]
   rfl
theorem rows_cut{U:List Str}{D:Dk}{ps:List Int}(hU:Rising U)(h:Univ U (cutDir D ((cutRow ps).getD 0 0)))(hH:D.Has (cutDir D ((cutRow ps).getD 0 0))) :
  rowsOf (D.cut ps)=cutV (cutRow ps) 0 (viewOf D (cutDir D ((cutRow ps).getD 0 0)) U)∧RowIn (D.cut ps) U:=by
 generalize hdir:cutDir D ((cutRow ps).getD 0 0)=dir at h hH
 have e:D.cut ps=cutOn D (cutRow ps) dir (U.filter fun n=>(dget n dir).isSome):=by
  unfold Dk.cut
  rw [hdir,names_univ hU h]
 have hns:(U.filter fun n=>(dget n dir).isSome).Nodup:=hU.2.filter _
 have hsort:=hU.1.filter fun n=>(dget n dir).isSome
 have C:=cut_all (row:=cutRow ps) hH (U.filter fun n=>(dget n dir).isSome) hns (fun n hn=>by simpa using (List.mem_filter.mp hn).2)
 rw [← e] at C
 refine ⟨?_,⟨fun n k hk=>(C.has n k hk).2.1,fun n k hk=>(C.has n k hk).2.2⟩,fun n hn=>?_,?_⟩
 ·unfold rowsOf
  rw [C.keys,snames_unique (List.Perm.refl _) hsort,C.rows,cutL_view]
 ·rw [C.keys] at hn
  exact (List.mem_filter.mp hn).1
 ·have:=congrArg List.length C.keys
  unfold keysD at this
  rw [List.length_map] at this
  rw [this]
  exact List.length_filter_le ..
noncomputable def aX:Str:=Str.ofString "a-x"
noncomputable def aY:Str:=Str.ofString "a-y"
noncomputable def bX:Str:=Str.ofString "b-x"
noncomputable def bY:Str:=Str.ofString "b-y"
noncomputable def U0:List Str:=[s0,aX,aY,bX,bY]
noncomputable def U1:List Str:=[s0,sX,sY]
theorem U0_rising:Rising U0:=⟨by decide +kernel,by decide +kernel⟩
theorem U1_rising:Rising U1:=⟨by decide +kernel,by decide +kernel⟩
theorem sk{q n:Str}{b:Array UInt8}{l:List (Str×Array UInt8)}(h:Txt.startswith n q=false):stripR1 q ((n,b)::l)=stripR1 q l:=by
 unfold stripR1
 rw [List.filter_cons_of_neg (by rw [h];exact Bool.false_ne_true)]
theorem kp{q n n':Str}{b:Array UInt8}{l:List (Str×Array UInt8)}(h:Txt.startswith n q=true)(e:dropS q.length n=n'):stripR1 q ((n,b)::l)=(n',b)::stripR1 q l:=by
 unfold stripR1
 rw [List.filter_cons_of_pos (p:=fun r:Str×Array UInt8=>Txt.startswith r.1 q) (a:=(n,b)) h,← e];rfl
noncomputable def dX:Str:=Str.ofString "-x"
noncomputable def dY:Str:=Str.ofString "-y"
theorem f1:Txt.startswith s0 sA=false:=by decide +kernel
theorem f2:Txt.startswith aX sA=true:=by decide +kernel
theorem f3:Txt.startswith aY sA=true:=by decide +kernel
theorem f4:Txt.startswith bX sA=false:=by decide +kernel
theorem f5:Txt.startswith bY sA=false:=by decide +kernel
theorem f6:Txt.startswith s0 sB=false:=by decide +kernel
theorem f7:Txt.startswith aX sB=false:=by decide +kernel
theorem f8:Txt.startswith aY sB=false:=by decide +kernel
theorem f9:Txt.startswith bX sB=true:=by decide +kernel
theorem f10:Txt.startswith bY sB=true:=by decide +kernel
theorem f11:Txt.startswith s0 sBb=false:=by decide +kernel
theorem f12:Txt.startswith aX sBb=false:=by decide +kernel
theorem f13:Txt.startswith aY sBb=false:=by decide +kernel
theorem f14:Txt.startswith bX sBb=true:=by decide +kernel
theorem f15:Txt.startswith bY sBb=true:=by decide +kernel
theorem f16:Txt.startswith dX sD=true:=by decide +kernel
theorem f17:Txt.startswith dY sD=true:=by decide +kernel
theorem g1:dropS sA.length aX=sX:=by decide +kernel
theorem g2:dropS sA.length aY=sY:=by decide +kernel
theorem g3:dropS sB.length bX=sX:=by decide +kernel
theorem g4:dropS sB.length bY=sY:=by decide +kernel
theorem g5:dropS sBb.length bX=dX:=by decide +kernel
theorem g6:dropS sBb.length bY=dY:=by decide +kernel
theorem g7:dropS sD.length dX=sX:=by decide +kernel
theorem g8:dropS sD.length dY=sY:=by decide +kernel
theorem strip_second{qs:List Str}{q:Str}(h:secondQ qs q)(l:List (Str×Array UInt8))(hl:∀ r∈l,r.1∈U0):stripRs (qs++[q]) l=stripRs [sB] l:=by
 rcases h with ⟨rfl,rfl⟩ | ⟨rfl,rfl⟩
 ·rfl
 ·show stripR1 sD (stripR1 sBb l)=stripR1 sB l
  induction l with
  | nil=>rfl
  | cons r l ih =>
   have ih:=ih fun r hr=>hl r (.tail _ hr)
   have hn:r.1∈U0:=hl r (.head _)
   cases r with | mk n b =>
   have e1:∀ {n b},Txt.startswith n sBb=false→Txt.startswith n sB=false→stripR1 sD (stripR1 sBb ((n,b)::l))=stripR1 sB ((n,b)::l):=fun a c=>by rw [sk a,sk c,ih]
   have e2:∀ {n m k b},Txt.startswith n sBb=true→dropS sBb.length n=m→Txt.startswith m sD=true→dropS sD.length m=k→Txt.startswith n sB=true→dropS sB.length n=k→stripR1 sD (stripR1 sBb ((n,b)::l))=stripR1 sB ((n,b)::l):=fun a c d e f g=>by rw [kp a c,kp d e,kp f g,ih]
   cases hn with
   | head=>exact e1 f11 f6
   | tail _ hn=>cases hn with
    | head=>exact e1 f12 f7
    | tail _ hn=>cases hn with
     | head=>exact e1 f13 f8
     | tail _ hn=>cases hn with
      | head=>exact e2 f14 g5 f16 g7 f9 g3
      | tail _ hn=>cases hn with
       | head=>exact e2 f15 g6 f17 g8 f10 g4
       | tail _ hn=>cases hn
section
variable{p n n':Str}{o:Option Nd}{l l':List (Str×Option Nd)}{row row':List Int}{q q':Nat}{r:List (Str×Array UInt8)}
theorem st_keep(h1:Txt.startswith n p=true)(h2:dropS p.length n=n')(hr:row.getD (q % row.length) 0=row'.getD (q' % row'.length) 0)(i0:stripR1 p (cutV row q l)=cutV row' q' l')(i1:stripR1 p (cutV row (q+1) l)=cutV row' (q' + 1) l') :
  stripR1 p (cutV row q ((n,o)::l))=cutV row' q' ((n',o)::l'):=by
 cases o with
 | none=>exact i0
 | some nd =>
  show stripR1 p ((n,takeB nd.data (cutLen nd (row.getD (q % row.length) 0)))::cutV row (q+1) l)=(n',takeB nd.data (cutLen nd (row'.getD (q' % row'.length) 0)))::cutV row' (q' + 1) l'
  rw [kp h1 h2,hr,i1]
theorem st_skip(h1:Txt.startswith n p=false)(i0:stripR1 p (cutV row q l)=r)(i1:stripR1 p (cutV row (q+1) l)=r):stripR1 p (cutV row q ((n,o)::l))=r:=by
 cases o with
 | none=>exact i0
 | some nd=>exact (sk h1).trans i1
theorem rk_keep(h1:Txt.startswith n p=true)(h2:dropS p.length n=n')(i:stripR1 p (rowsV l)=rowsV l'):stripR1 p (rowsV ((n,o)::l))=rowsV ((n',o)::l'):=by
 cases o with
 | none=>exact i
 | some nd=>exact (kp h1 h2).trans (congrArg (List.cons _) i)
theorem rk_skip(h1:Txt.startswith n p=false)(i:stripR1 p (rowsV l)=r):stripR1 p (rowsV ((n,o)::l))=r:=by
 cases o with
 | none=>exact i
 | some nd=>exact (sk h1).trans i
variable{e e':Nd}{u v w z:Option Nd}{j s s' e0 e1 e2 e3:Int}
theorem cut_first:stripRs [sA] (cutV [j,e0,e1,e2,e3] 0 [(s0,some e),(aX,u),(aY,v),(bX,w),(bY,z)])=(cutV [s,e0,e1,e2,e3] 0 [(s0,some e'),(sX,u),(sY,v)]).drop 1:=by
 have t:∀ q,stripR1 sA (cutV [j,e0,e1,e2,e3] q [(bX,w),(bY,z)])=[]:=fun q=>st_skip f4 (st_skip f5 rfl rfl) (st_skip f5 rfl rfl)
 exact (sk f1).trans (st_keep (row':=[s,e0,e1,e2,e3]) (q':=1) f2 g1 rfl (st_keep f3 g2 rfl (t 1) (t 2)) (st_keep f3 g2 rfl (t 2) (t 3)))
theorem cut_second:stripRs [sB] (cutV [j,e0,e1,e2,e3] 0 [(s0,some e),(aX,u),(aY,v),(bX,w),(bY,z)]) =
  (cutV (s::[e0,e1,e2,e3].drop ((cutV [s',e0,e1,e2,e3] 0 [(s0,some e'),(sX,u),(sY,v)]).drop 1).length) 0 [(s0,some e'),(sX,w),(sY,z)]).drop 1:=by
 have t:∀ (k:Nat) (row':List Int),[j,e0,e1,e2,e3].getD ((1+k) % 5) 0=row'.getD (1 % row'.length) 0→[j,e0,e1,e2,e3].getD ((1+k+1) % 5) 0=row'.getD (2 % row'.length) 0 →
   stripR1 sB (cutV [j,e0,e1,e2,e3] (1+k) [(bX,w),(bY,z)])=cutV row' 1 [(sX,w),(sY,z)]:=fun k row' a b=>st_keep f9 g3 a (st_keep f10 g4 a rfl rfl) (st_keep f10 g4 b rfl rfl)
 cases u with
 | none=>cases v with
  | none=>exact (sk f6).trans (t 0 _ rfl rfl)
  | some=>exact (sk f6).trans ((sk f8).trans (t 1 _ rfl rfl))
 | some=>cases v with
  | none=>exact (sk f6).trans ((sk f7).trans (t 1 _ rfl rfl))
  | some=>exact (sk f6).trans ((sk f7).trans ((sk f8).trans (t 2 _ rfl rfl)))
theorem row_first:stripRs [sA] (rowsV [(s0,some e),(aX,u),(aY,v),(bX,w),(bY,z)])=(rowsV [(s0,some e'),(sX,u),(sY,v)]).drop 1 :=
 (sk f1).trans (rk_keep f2 g1 (rk_keep f3 g2 (rk_skip f4 (rk_skip f5 rfl))))
theorem row_second:stripRs [sB] (rowsV [(s0,some e),(aX,u),(aY,v),(bX,w),(bY,z)])=(rowsV [(s0,some e'),(sX,w),(sY,z)]).drop 1 :=
 (sk f6).trans (rk_skip f7 (rk_skip f8 (rk_keep f9 g3 (rk_keep f10 g4 rfl))))
end
noncomputable def nmo(p:Nat)(n:Str):Str:=if p=0 then (if n=sX then aX else aY) else (if n=sX then bX else bY)
theorem two_cases{p:Nat}(h:p<2):p=0∨p=1:=by lia
theorem pre_nmo{N:Nm}(h:NameOk N){p:Nat}(hp:p<2){n:Str}(hn:isN n):pre (N.Q p) n=nmo p n:=by
 rcases two_cases hp with rfl | rfl
 ·unfold Nm.Q
  rw [h.q0,h.p0]
  rcases hn with rfl | rfl <;> decide +kernel
 ·unfold Nm.Q
  rcases h.q1 with ⟨e1,e2⟩ | ⟨e1,e2⟩ <;> rw [e1,e2] <;> rcases hn with rfl | rfl <;> decide +kernel
theorem nmo_inj{p r:Nat}(hp:p<2)(hr:r<2){n m:Str}(hn:isN n)(hm:isN m)(h:nmo p n=nmo r m):p=r∧n=m:=by
 rcases two_cases hp with rfl | rfl <;> rcases two_cases hr with rfl | rfl <;> rcases hn with rfl | rfl <;> rcases hm with rfl | rfl <;> first | exact ⟨rfl,rfl⟩ | exact absurd h (by decide +kernel)
theorem nmo_s0{p:Nat}(hp:p<2){n:Str}(hn:isN n):nmo p n≠s0:=by
 rcases two_cases hp with rfl | rfl <;> rcases hn with rfl | rfl <;> decide +kernel
theorem nmo_U0{p:Nat}(hp:p<2){n:Str}(hn:isN n):nmo p n∈U0:=by
 rcases two_cases hp with rfl | rfl <;> rcases hn with rfl | rfl <;> decide +kernel
theorem isN_U1{n:Str}(hn:isN n):n∈U1:=by rcases hn with rfl | rfl <;> decide +kernel
theorem isN_s0{n:Str}(hn:isN n):n≠s0:=by rcases hn with rfl | rfl <;> decide +kernel
noncomputable abbrev Prs:=Nat→List (Nat×Nat)
structure DRel(C:Prs)(d0:Dir)(d:Nat→Dir):Prop where
 u0:Univ U0 d0
 u:∀ p<2,Univ U1 (d p)
 z0:dget s0 d0=some 1
 z:∀ p<2,dget s0 (d p)=some 1
 r:∀ p<2,∀ n,isN n→(dget (nmo p n) d0=none∧dget n (d p)=none)∨∃ kp k0,dget n (d p)=some kp∧dget (nmo p n) d0=some k0∧(kp,k0)∈C p
theorem DRel.mono{C C':Prs}{d0:Dir}{d:Nat→Dir}(h:DRel C d0 d)(hC:∀ p<2,∀ x∈C p,x∈C' p):DRel C' d0 d :=
 ⟨h.u0,h.u,h.z0,h.z,fun p hp n hn=>(h.r p hp n hn).imp_right fun ⟨kp,k0,a,b,c⟩=>⟨kp,k0,a,b,hC p hp _ c⟩⟩
set_option tactic.hygienic true in
theorem Univ.dset{U:List Str}{d:Dir}{n:Str}{k:Nat}(h:Univ U d)(hn:n∈U):Univ U (dset n k d) :=
 ⟨nodup_dset h.nd,fun m hm=>by
  rw [dget_dset] at hm
  split at hm
  ·rename_i e;rw [e];exact hn
  ·exact h.sub m hm⟩
theorem Univ.ddel{U:List Str}{d:Dir}{n:Str}(h:Univ U d):Univ U (ddel n d) :=
 ⟨nodup_ddel h.nd,fun m hm=>by
  rw [dget_ddel] at hm
  split at hm
  ·cases hm
  ·exact h.sub m hm⟩
theorem DRel.set{C:Prs}{d0:Dir}{d:Nat→Dir}(h:DRel C d0 d){p:Nat}(hp:p<2){n:Str}(hn:isN n){kp k0:Nat}(hC:(kp,k0)∈C p):DRel C (dset (nmo p n) k0 d0) (fset d p (dset n kp (d p))):=by
 refine ⟨h.u0.dset (nmo_U0 hp hn),fun r hr=>?_,?_,fun r hr=>?_,fun r hr m hm=>?_⟩
 ·by_cases e:r=p
  ·have e:=e.symm;subst e;rw [fset_self];exact (h.u p hr).dset (isN_U1 hn)
  ·rw [fset_ne _ _ e];exact h.u r hr
 ·rw [dget_dset,if_neg (nmo_s0 hp hn).symm];exact h.z0
 ·by_cases e:r=p
  ·have e:=e.symm;subst e;rw [fset_self,dget_dset,if_neg (isN_s0 hn).symm];exact h.z p hr
  ·rw [fset_ne _ _ e];exact h.z r hr
 ·by_cases e:r=p
  ·have e:=e.symm;subst e
   rw [fset_self]
   by_cases e2:m=n
   ·subst e2
    rw [dget_dset,dget_dset,if_pos rfl,if_pos rfl]
    exact .inr ⟨kp,k0,rfl,rfl,hC⟩
   ·rw [dget_dset,dget_dset,if_neg e2,if_neg fun z=>e2 (nmo_inj hr hr hm hn z).2]
    exact h.r p hr m hm
  ·rw [fset_ne _ _ e,dget_dset,if_neg fun z=>e (nmo_inj hr hp hm hn z).1]
   exact h.r r hr m hm
theorem DRel.del{C:Prs}{d0:Dir}{d:Nat→Dir}(h:DRel C d0 d){p:Nat}(hp:p<2){n:Str}(hn:isN n):DRel C (ddel (nmo p n) d0) (fset d p (ddel n (d p))):=by
 refine ⟨h.u0.ddel,fun r hr=>?_,?_,fun r hr=>?_,fun r hr m hm=>?_⟩
 ·by_cases e:r=p
  ·have e:=e.symm;subst e;rw [fset_self];exact (h.u p hr).ddel
  ·rw [fset_ne _ _ e];exact h.u r hr
 ·rw [dget_ddel,if_neg (nmo_s0 hp hn).symm];exact h.z0
 ·by_cases e:r=p
  ·have e:=e.symm;subst e;rw [fset_self,dget_ddel,if_neg (isN_s0 hn).symm];exact h.z p hr
  ·rw [fset_ne _ _ e];exact h.z r hr
 ·by_cases e:r=p
  ·have e:=e.symm;subst e
   rw [fset_self]
   by_cases e2:m=n
   ·subst e2
    rw [dget_ddel,dget_ddel,if_pos rfl,if_pos rfl]
    exact .inl ⟨rfl,rfl⟩
   ·rw [dget_ddel,dget_ddel,if_neg e2,if_neg fun z=>e2 (nmo_inj hr hr hm hn z).2]
    exact h.r p hr m hm
  ·rw [fset_ne _ _ e,dget_ddel,if_neg fun z=>e (nmo_inj hr hp hm hn z).1]
   exact h.r r hr m hm
theorem fset_fset{α:Type}(f:Nat→α)(p:Nat)(v w:α):fset (fset f p v) p w=fset f p w:=by
 funext r
 unfold fset
 split <;> rfl
structure SRel(C:Prs)(p:Nat)(s t:Stp):Prop where
 k:s.kind=t.kind
 kk:t.kind=1∨t.kind=2∨t.kind=3
 n:isN t.name
 sn:s.name=nmo p t.name
 o:t.kind=3→isN t.other∧s.other=nmo p t.other
 c:t.kind=1→(t.num,s.num)∈C p
theorem SRel.mono{C C':Prs}{p:Nat}{s t:Stp}(h:SRel C p s t)(hC:∀ x∈C p,x∈C' p):SRel C' p s t:=⟨h.k,h.kk,h.n,h.sn,h.o,fun z=>hC _ (h.c z)⟩
set_option tactic.hygienic true in
theorem DRel.play{C:Prs}{d0:Dir}{d:Nat→Dir}(h:DRel C d0 d){p:Nat}(hp:p<2){s t:Stp}(R:SRel C p s t):DRel C (play s d0) (fset d p (play t (d p))):=by
 rcases R.kk with e | e | e
 ·unfold RK.play
  rw [if_pos (R.k.trans e),if_pos e,R.sn]
  exact h.set hp R.n (R.c e)
 ·unfold RK.play
  rw [if_neg (by rw [R.k,e];decide),if_pos (R.k.trans e),if_neg (by rw [e];decide),if_pos e,R.sn]
  exact h.del hp R.n
 ·refine c0_2 (R.o e) fun o1 o2=>?_
  unfold RK.play
  rw [if_neg (by rw [R.k,e];decide),if_neg (by rw [R.k,e];decide),if_neg (by rw [e];decide),if_neg (by rw [e];decide),R.sn,o2]
  rcases h.r p hp t.name R.n with ⟨a,b⟩ | ⟨kp,k0,a,b,c⟩
  ·rw [a,b]
   have:fset d p (d p)=d:=by funext r;unfold fset;split;(rename_i e;rw [e]);rfl
   dsimp only
   rw [this]
   exact h
  ·rw [a,b]
   dsimp only
   have:=(h.del hp R.n).set hp o1 c
   rw [fset_self,fset_fset] at this
   exact this
noncomputable def dinit:Dir:=[(s0,1)]
structure DkH(D:Dk)(H:List Stp)(sf t:Nat):Prop where
 left:D.left=-1
 alive:D.alive=true
 pres:D.pres=plays H dinit
 kept:D.kept=plays (H.take sf) dinit
 jour:D.jour=H.drop sf
 sfl:sf≤H.length
 hl:H.length≤t
 fits:Fits H dinit
 reg:∀ j,sf≤j→j≤H.length→∀ n k,dget n (plays (H.take j) dinit)=some k→k∈D.reg
 regn:D.reg.Nodup
 regb:∀ k∈D.reg,1≤k∧k≤D.made
 rl:D.reg.length≤1+t
 nd:∀ k,1≤k→k≤D.made→∃ nn,D.nd k=some nn∧nn.data.size≤3*t∧nn.kept≤nn.data.size
 one:D.nd 1=some ⟨#[],0⟩
 made:1≤D.made
 numb:∀ s∈H,s.kind=1→2≤s.num∧s.num≤D.made
 uniq:∀ (i j:Nat) (s s':Stp),H[i]?=some s→H[j]?=some s'→s.kind=1→s'.kind=1→s.num=s'.num→i=j
theorem DkH.mono{D:Dk}{H:List Stp}{sf t t':Nat}(h:DkH D H sf t)(ht:t≤t'):DkH D H sf t' :=
 { h with hl:=Nat.le_trans h.hl ht,rl:=Nat.le_trans h.rl (by lia),nd:=fun k a b=>let ⟨nn,x,y,z⟩:=h.nd k a b;⟨nn,x,by lia,z⟩ }
theorem take_snoc{α:Type}{l:List α}{a:α}{j:Nat}(h:j≤l.length):(l++[a]).take j=l.take j:=by rw [List.take_append_of_le_length h]
theorem take_snoc'{α:Type}{l:List α}{a:α}:(l++[a]).take (l.length+1)=l++[a]:=List.take_of_length_le (by rw [List.length_append];simp)
theorem uniq_snoc{H:List Stp}{s:Stp}(h:∀ (i j:Nat) (s s':Stp),H[i]?=some s→H[j]?=some s'→s.kind=1→s'.kind=1→s.num=s'.num→i=j)(hs:s.kind=1→∀ s'∈H,s'.kind=1→s'.num≠s.num) :
  ∀ (i j:Nat) (a b:Stp),(H++[s])[i]?=some a→(H++[s])[j]?=some b→a.kind=1→b.kind=1→a.num=b.num→i=j:=by
 intro i j a b hi hj ha hb e
 have at_:∀ {i:Nat} {a:Stp},(H++[s])[i]?=some a→(i<H.length∧H[i]?=some a)∨(i=H.length∧a=s):=by
  intro i a h
  by_cases hlt:i<H.length
  ·rw [List.getElem?_append_left hlt] at h;exact .inl ⟨hlt,h⟩
  ·rw [List.getElem?_append_right (by lia)] at h
   match e:i - H.length,h with
   | 0,h=>cases h;exact .inr ⟨Nat.le_antisymm (Nat.le_of_sub_eq_zero e) (Nat.le_of_not_lt hlt),rfl⟩
 rcases at_ hi with ⟨_,x⟩ | ⟨x1,x2⟩ <;> rcases at_ hj with ⟨_,y⟩ | ⟨y1,y2⟩
 ·exact h i j a b x y ha hb e
 ·subst y2;exact absurd e (hs hb a (List.mem_of_getElem? x) ha)
 ·subst x2;exact absurd e.symm (hs ha b (List.mem_of_getElem? y) hb)
 ·lia
theorem DkH.mk1{D:Dk}{H:List Stp}{sf t:Nat}(h:DkH D H sf t)(n:Str):DkH (D.mk1 n) (H++[⟨1,n,Str.ofString "",D.made+1⟩]) sf (t+1) where
 left:=h.left
 alive:=h.alive
 pres:=by rw [plays_snoc',← h.pres];rfl
 kept:=by rw [take_snoc h.sfl];exact h.kept
 jour:=by rw [List.drop_append_of_le_length h.sfl,← h.jour];rfl
 sfl:=by rw [List.length_append];have:=h.sfl;lia
 hl:=by rw [List.length_append];have:=h.hl;simp;lia
 fits:=fits_append h.fits (.inl rfl)
 reg:=by
  intro j h1 h2 m k hk
  show k∈D.reg++[D.made+1]
  rw [List.length_append,List.length_singleton] at h2
  by_cases e:j≤H.length
  ·rw [take_snoc e] at hk
   exact List.mem_append_left _ (h.reg j h1 e m k hk)
  ·have:j=H.length+1:=by lia
   subst this
   rw [take_snoc',plays_snoc',dget_play,if_pos rfl] at hk
   split at hk
   ·cases hk;simp
   ·refine List.mem_append_left _ (h.reg H.length h.sfl (Nat.le_refl _) m k ?_)
    rw [List.take_length];exact hk
 regn:=by
  show (D.reg++[D.made+1]).Nodup
  rw [List.nodup_append]
  refine ⟨h.regn,by simp,fun a ha b hb=>?_⟩
  rw [List.mem_singleton] at hb
  have:=h.regb a ha
  lia
 regb:=by
  intro k hk
  have hk':k∈D.reg++[D.made+1]:=hk
  show 1≤k∧k≤D.made+1
  rcases List.mem_append.mp hk' with z | z
  ·have:=h.regb k z;lia
  ·rw [List.mem_singleton] at z;lia
 rl:=by show (D.reg++[D.made+1]).length≤_;rw [List.length_append];have:=h.rl;simp;lia
 nd:=by
  intro k h1 h2
  have h2':k≤D.made+1:=h2
  show ∃ nn,(if k=D.made+1 then some ⟨#[],0⟩ else D.nd k)=some nn∧_
  by_cases e:k=D.made+1
  ·rw [if_pos e];exact ⟨_,rfl,Nat.zero_le _,Nat.le_refl _⟩
  ·rw [if_neg e]
   refine c1_3 (h.nd k h1 (by lia)) fun nn a b c=>?_
   exact ⟨nn,a,by lia,c⟩
 one:=by
  show (if 1=D.made+1 then _ else D.nd 1)=_
  have:=h.made
  rw [if_neg (by lia)]
  exact h.one
 made:=Nat.le_succ_of_le h.made
 numb:=by
  intro s hs hk
  show 2≤s.num∧s.num≤D.made+1
  rcases List.mem_append.mp hs with z | z
  ·have:=h.numb s z hk;lia
  ·rw [List.mem_singleton] at z
   subst z
   have:=h.made
   exact ⟨by show 2≤D.made+1;lia,Nat.le_refl _⟩
 uniq:=uniq_snoc h.uniq fun _ s' hs' hk=>by
  have:=h.numb s' hs' hk
  show s'.num≠D.made+1
  lia
set_option tactic.hygienic true in
theorem DkH.stepd{D:Dk}{H:List Stp}{sf t:Nat}(h:DkH D H sf t){s:Stp}(hk1:s.kind≠1)(hf:s.fits D.pres):DkH (D.stepd s) (H++[s]) sf (t+1) where
 left:=h.left
 alive:=h.alive
 pres:=by rw [plays_snoc',← h.pres];rfl
 kept:=by rw [take_snoc h.sfl];exact h.kept
 jour:=by rw [List.drop_append_of_le_length h.sfl,← h.jour];rfl
 sfl:=by rw [List.length_append];have:=h.sfl;lia
 hl:=by rw [List.length_append];have:=h.hl;simp;lia
 fits:=fits_append h.fits (by rw [← h.pres];exact hf)
 reg:=by
  intro j h1 h2 m k hk
  show k∈D.reg
  rw [List.length_append,List.length_singleton] at h2
  by_cases e:j≤H.length
  ·rw [take_snoc e] at hk
   exact h.reg j h1 e m k hk
  ·have:j=H.length+1:=by lia
   subst this
   have old:∀ n k,dget n (plays H dinit)=some k→k∈D.reg:=fun n k hk=>h.reg H.length h.sfl (Nat.le_refl _) n k (by rw [List.take_length];exact hk)
   rw [take_snoc',plays_snoc',dget_play,if_neg hk1] at hk
   split at hk
   ·split at hk
    ·exact nos hk
    ·exact old _ _ hk
   ·split at hk
    ·rename_i k' hk'
     split at hk
     ·cases hk;exact old _ _ hk'
     ·split at hk
      ·exact nos hk
      ·exact old _ _ hk
    ·exact old _ _ hk
 regn:=h.regn
 regb:=h.regb
 rl:=by have:=h.rl;show D.reg.length≤_;lia
 nd:=by
  intro k h1 h2
  refine c1_3 (h.nd k h1 h2) fun nn a b c=>?_
  exact ⟨nn,a,by lia,c⟩
 one:=h.one
 made:=h.made
 numb:=by
  intro s' hs hk
  rcases List.mem_append.mp hs with z | z
  ·exact h.numb s' z hk
  ·rw [List.mem_singleton] at z;subst z;exact absurd hk hk1
 uniq:=uniq_snoc h.uniq fun z=>absurd z hk1
theorem upto_none(k:Nat)(l:List Stp)(a:Nat×Nat)(h:∀ s∈l,¬ (s.kind=1∧s.num=k)):(l.foldl (fun (a:Nat×Nat) s=>(a.1+1,if s.kind=1∧s.num=k then a.1+1 else a.2)) a).2=a.2:=by
 induction l generalizing a with
 | nil=>rfl
 | cons s l ih=>rw [List.foldl_cons,ih _ fun s hs=>h s (.tail _ hs)];exact if_neg (h s (.head _))
theorem upto_at(k:Nat)(l:List Stp)(a:Nat×Nat)(i:Nat)(s:Stp)(h:l[i]?=some s)(hs:s.kind=1∧s.num=k)(hl:∀ j s',i<j→l[j]?=some s'→¬ (s'.kind=1∧s'.num=k)) :
  (l.foldl (fun (a:Nat×Nat) s=>(a.1+1,if s.kind=1∧s.num=k then a.1+1 else a.2)) a).2=a.1+i+1:=by
 induction l generalizing a i with
 | nil=>cases h
 | cons x l ih=>cases i with
  | zero =>
   rewrite [List.foldl_cons,upto_none k l _ fun s hs=>c1_1 (List.mem_iff_getElem?.mp hs) fun j hj=>hl (j+1) s (Nat.succ_pos j) hj]
   rw [Option.some.inj h];exact if_pos hs
  | succ i =>
   rw [List.foldl_cons,ih _ i h fun j s' hj hs'=>hl (j+1) s' (Nat.succ_lt_succ hj) hs']
   show a.1+1+i+1=a.1+(i+1)+1
   rw [Nat.add_right_comm a.1 1 i];rfl
theorem DkH.appd{D:Dk}{H:List Stp}{sf t k:Nat}{b:Array UInt8}(h:DkH D H sf t)(h2:2≤k)(hk:k≤D.made)(hb:b.size≤3):DkH (D.appd k (ndOf D k) b) H sf (t+1) where
 left:=h.left
 alive:=h.alive
 pres:=h.pres
 kept:=h.kept
 jour:=h.jour
 sfl:=h.sfl
 hl:=by have:=h.hl;lia
 fits:=h.fits
 reg:=h.reg
 regn:=h.regn
 regb:=h.regb
 rl:=by have:=h.rl;show D.reg.length≤_;lia
 nd:=by
  intro j h1 h2
  show ∃ nn,(if j=k then some ⟨(ndOf D k).data++b,(ndOf D k).kept⟩ else D.nd j)=some nn∧_
  by_cases e:j=k
  ·subst e
   rw [if_pos rfl]
   refine c1_3 (h.nd j h1 h2) fun nn x y z=>?_
   refine ⟨_,rfl,?_,?_⟩
   ·show ((ndOf D j).data++b).size≤_
    unfold ndOf
    rw [x,Option.getD_some,Array.size_append]
    lia
   ·show (ndOf D j).kept≤((ndOf D j).data++b).size
    unfold ndOf
    rw [x,Option.getD_some,Array.size_append]
    lia
  ·rw [if_neg e]
   refine c1_3 (h.nd j h1 h2) fun nn x y z=>?_
   exact ⟨nn,x,by lia,z⟩
 one:=by
  show (if 1=k then _ else D.nd 1)=_
  rw [if_neg (by lia)]
  exact h.one
 made:=h.made
 numb:=h.numb
 uniq:=h.uniq
theorem plays_take_drop(H:List Stp)(a b:Nat)(d:Dir):plays ((H.drop a).take b) (plays (H.take a) d)=plays (H.take (a+b)) d:=by
 rw [← plays_append,List.take_add]
theorem DkH.upto{D:Dk}{H:List Stp}{sf t k so:Nat}{s:Stp}(h:DkH D H sf t)(hso:1≤so)(hs:H[so - 1]?=some s)(hs1:s.kind=1)(hs2:s.num=k):uptoOf k D.jour=max sf so - sf:=by
 rw [h.jour]
 unfold uptoOf
 by_cases e:sf<so
 ·rw [upto_at k (H.drop sf) (0,0) (so - 1 - sf) s (by rw [List.getElem?_drop,Nat.add_sub_cancel' (Nat.le_pred_of_lt e)];exact hs) ⟨hs1,hs2⟩]
  ·show 0+(so - 1 - sf)+1=_
   rw [Nat.max_eq_right (Nat.le_of_lt e)];lia
  ·intro j s' hj hs';refine f0_2 fun q1 q2=>?_
   rw [List.getElem?_drop] at hs'
   rw [h.uniq _ _ _ _ hs hs' hs1 q1 (by rw [hs2,q2]),Nat.add_sub_cancel_left] at hj
   exact Nat.lt_irrefl _ hj
 ·rw [upto_none]
  ·rw [Nat.max_eq_left (Nat.le_of_not_lt e)];exact (Nat.sub_self sf).symm
  ·intro s' hs';refine f0_2 fun q1 q2=>?_
   refine c1_1 (List.mem_iff_getElem?.mp hs') fun j hj=>?_
   rw [List.getElem?_drop] at hj
   have:=h.uniq _ _ _ _ hs hj hs1 q1 (by rw [hs2,q2])
   lia
theorem DkH.syncd{D:Dk}{H:List Stp}{sf t k so:Nat}{s:Stp}(h:DkH D H sf t)(h2:2≤k)(hk:k≤D.made)(hso:1≤so)(hsl:so≤H.length)(hs:H[so - 1]?=some s)(hs1:s.kind=1)(hs2:s.num=k):DkH (D.syncd k (ndOf D k)) H (max sf so) (t+1):=by
 have hu:=h.upto hso hs hs1 hs2
 have hsf:=h.sfl
 refine { left:=h.left,alive:=h.alive,pres:=h.pres,kept:=?_,jour:=?_,sfl:=Nat.max_le.mpr ⟨hsf,hsl⟩,hl:=by have:=h.hl;lia,fits:=h.fits,reg:=fun j a b=>h.reg j (Nat.le_trans (Nat.le_max_left ..) a) b,regn:=h.regn,regb:=h.regb,rl:=by have:=h.rl;show D.reg.length≤_;lia,nd:=?_,one:=?_,made:=h.made,numb:=h.numb,uniq:=h.uniq }
 ·show plays (D.jour.take (uptoOf k D.jour)) D.kept=_
  rw [hu,h.jour,h.kept,plays_take_drop,Nat.add_sub_cancel' (Nat.le_max_left sf so)]
 ·show D.jour.drop (uptoOf k D.jour)=_
  rw [hu,h.jour,List.drop_drop,Nat.add_sub_cancel' (Nat.le_max_left sf so)]
 ·intro j h1 h2
  show ∃ nn,(if j=k then some ⟨(ndOf D k).data,(ndOf D k).data.size⟩ else D.nd j)=some nn∧_
  by_cases e:j=k
  ·subst e
   rw [if_pos rfl]
   refine c1_3 (h.nd j h1 h2) fun nn x y z=>?_
   refine ⟨_,rfl,?_,Nat.le_refl _⟩
   show (ndOf D j).data.size≤_
   unfold ndOf
   rw [x,Option.getD_some]
   lia
  ·rw [if_neg e]
   refine c1_3 (h.nd j h1 h2) fun nn x y z=>?_
   exact ⟨nn,x,by lia,z⟩
 ·show (if 1=k then _ else D.nd 1)=_
  rw [if_neg (by lia)]
  exact h.one
set_option tactic.hygienic true in
theorem regset_mem(k x:Nat)(r:List Nat):x∈regset k r↔x∈r∨x=k:=by
 unfold regset
 split
 ·rename_i h
  exact ⟨.inl,fun z=>z.elim id fun e=>e▸h⟩
 ·rw [List.mem_append,List.mem_singleton]
set_option tactic.hygienic true in
theorem regset_nodup{k:Nat}{r:List Nat}(h:r.Nodup):(regset k r).Nodup:=by
 unfold regset
 split
 ·exact h
 ·rename_i hn
  rw [List.nodup_append]
  exact ⟨h,by simp,fun a ha b hb=>by rw [List.mem_singleton] at hb;subst hb;rintro rfl;exact hn ha⟩
theorem liv_mem(f:Str→Nat)(x:Nat)(l:List Str)(r:List Nat):x∈l.foldl (fun r n=>regset (f n) r) r↔x∈r∨∃ n∈l,x=f n:=by
 induction l generalizing r with
 | nil=>exact ⟨.inl,fun h=>h.elim id fun h=>c1_2 h fun _ z _=>nomatch z⟩
 | cons n l ih =>
  rw [List.foldl_cons,ih,regset_mem]
  constructor
  ·rintro ((h | h) | ⟨m,hm,h⟩)
   ·exact .inl h
   ·exact .inr ⟨n,.head _,h⟩
   ·exact .inr ⟨m,.tail _ hm,h⟩
  ·rintro (h | ⟨m,hm,h⟩)
   ·exact .inl (.inl h)
   ·rcases List.mem_cons.mp hm with z | hm
    ·exact .inl (.inr (z▸h))
    ·exact .inr ⟨m,hm,h⟩
theorem liv_nodup(f:Str→Nat):∀ (l:List Str) (r:List Nat),r.Nodup→(l.foldl (fun r n=>regset (f n) r) r).Nodup
 | [],r,h=>h
 | n::l,r,h=>by rw [List.foldl_cons];exact liv_nodup f l _ (regset_nodup h)
theorem DkH.pres_len{D:Dk}{H:List Stp}{sf t:Nat}(h:DkH D H sf t):D.pres.length≤1+t:=by
 rw [h.pres]
 have:=plays_len H dinit
 have:=h.hl
 have:dinit.length=1:=rfl
 lia
theorem DkH.presR{D:Dk}{H:List Stp}{sf t:Nat}(h:DkH D H sf t){n:Str}{k:Nat}(e:dget n D.pres=some k):k∈D.reg :=
 h.reg H.length h.sfl (Nat.le_refl _) n k (by rw [List.take_length,← h.pres];exact e)
theorem DkH.syncDir{D:Dk}{H:List Stp}{sf t:Nat}(h:DkH D H sf t):DkH D.syncDir H H.length (t+1):=by
 have hreg:∀ x,x∈D.syncDir.reg↔∃ n∈snames (keysD D.pres),x=(dget n D.pres).getD 0:=fun x=>by
  show x∈(snames (keysD D.pres)).foldl (fun r n=>regset ((dget n D.pres).getD 0) r) []↔_
  rw [liv_mem];simp
 have hkey:∀ n∈snames (keysD D.pres),∃ k,dget n D.pres=some k:=fun n hn=>Option.isSome_iff_exists.mp ((keys_mem _ _).mp ((snames_perm _).mem_iff.mp hn))
 refine { left:=h.left,alive:=h.alive,pres:=h.pres,kept:=?_,jour:=?_,sfl:=Nat.le_refl _,hl:=by have:=h.hl;lia,fits:=h.fits,reg:=?_,regn:=liv_nodup _ _ _ List.nodup_nil,regb:=?_,rl:=?_,nd:=?_,one:=h.one,made:=h.made,numb:=h.numb,uniq:=h.uniq }
 ·show D.pres=_;rw [List.take_length];exact h.pres
 ·show []=_;rw [List.drop_length]
 ·intro j h1 h2 n k hk
  have:j=H.length:=by lia
  subst this
  rw [List.take_length,← h.pres] at hk
  rw [hreg]
  exact ⟨n,(snames_perm _).mem_iff.mpr ((keys_mem _ _).mpr (by rw [hk];rfl)),by rw [hk];rfl⟩
 ·intro k hk
  refine c1_2 ((hreg k).mp hk) ?_;rintro n hn rfl
  refine c1_1 (hkey n hn) fun k e=>?_
  rw [e]
  exact h.regb k (h.presR e)
 ·show ((snames (keysD D.pres)).foldl (fun r n=>regset ((dget n D.pres).getD 0) r) []).length≤_
  have:=liv_len (fun n=>(dget n D.pres).getD 0) (snames (keysD D.pres)) []
  have h3:(snames (keysD D.pres)).length=D.pres.length:=by rw [snames_len,keysD_len]
  have:=h.pres_len
  simp only [List.length_nil,Nat.zero_add] at *
  lia
 ·intro k h1 h2
  refine c1_3 (h.nd k h1 h2) fun nn a b c=>?_
  exact ⟨nn,a,by lia,c⟩
theorem DkH.has{D:Dk}{H:List Stp}{sf t j:Nat}(h:DkH D H sf t)(ht:t≤100)(h1:sf≤j)(h2:j≤H.length):D.Has (plays (H.take j) dinit):=by
 refine ⟨fun n k e=>h.reg j h1 h2 n k e,fun n k e=>?_⟩
 have hb:=h.regb k (h.reg j h1 h2 n k e)
 refine c1_3 (h.nd k hb.1 hb.2) fun nn a b c=>?_
 exact ⟨nn,a,by lia,c⟩
theorem DkH.wf{D:Dk}{H:List Stp}{sf t:Nat}(h:DkH D H sf t)(ht:t≤6):Wf D where
 left:=h.left
 alive:=h.alive
 nr:=fun z=>by have:=(h.regb _ z).2;lia
 lp:=by have:=h.pres_len;lia
 lk:=by rw [h.kept];have:=plays_len (H.take sf) dinit;rw [List.length_take] at this;have:=h.hl;have:dinit.length=1:=rfl;lia
 lj:=by rw [h.jour,List.length_drop];have:=h.hl;lia
 lr:=by have:=h.rl;lia
 has:=by rw [h.pres];have:=h.has (j:=H.length) (by lia) h.sfl (Nat.le_refl _);rw [List.take_length] at this;exact this
 fits:=by rw [h.jour,h.kept];exact fits_drop sf h.fits
theorem DkH.cutDir{D:Dk}{H:List Stp}{sf t:Nat}(h:DkH D H sf t)(r:Int):∃ j,sf≤j∧j≤H.length∧cutDir D r=plays (H.take j) dinit:=by
 unfold RK.cutDir
 refine c1_2 (fmod_nn (r:=r) (n:=D.jour.length)) fun k hk hle=>?_
 rw [hk,Int.toNat_natCast,h.kept,h.jour,plays_take_drop]
 rw [h.jour,List.length_drop] at hle
 have:=h.sfl
 exact ⟨sf+k,by lia,by lia,rfl⟩
theorem DkH.cutDir_at{D:Dk}{H:List Stp}{sf t k:Nat}(h:DkH D H sf t)(hk:sf+k≤H.length):RK.cutDir D (k:Int)=plays (H.take (sf+k)) dinit:=by
 unfold RK.cutDir
 have hl:D.jour.length=H.length - sf:=by rw [h.jour,List.length_drop]
 have:((k:Int).fmod ((D.jour.length:Int)+1))=(k:Int):=by
  rw [Int.fmod_eq_emod_of_nonneg _ (by lia),Int.emod_eq_of_lt (Int.natCast_nonneg k) (by rw [hl];exact Int.lt_add_one_of_le (Int.ofNat_le.mpr (Nat.le_sub_of_add_le' hk)))]
 rw [this,Int.toNat_natCast,h.kept,h.jour,plays_take_drop]
structure Born(S:LS)(p kp k0 so oo:Nat):Prop where
 c:(kp,k0)∈S.C p
 s1:1≤so
 s2:so≤S.H.length
 o1:1≤oo
 oc:cnt p (S.ow.take so)=oo
 st:∃ s,S.H[so - 1]?=some s∧s.kind=1∧s.num=k0
 op:∃ s,(S.Hp p)[oo - 1]?=some s∧s.kind=1∧s.num=kp
structure Inv(N:Nm)(t:Nat)(S:LS):Prop where
 ol:S.ow.length=S.H.length
 len:∀ p<2,(S.Hp p).length=cnt p S.ow
 kp:∀ p<2,S.kp p≤cnt p (S.ow.take S.sf)
 dir:∀ j≤S.H.length,DRel S.C (plays (S.H.take j) dinit) (fun p=>plays ((S.Hp p).take (cnt p (S.ow.take j))) dinit)
 d0:DkH S.D0 S.H S.sf t
 dp:∀ p<2,DkH (S.Dp p) (S.Hp p) (S.kp p) t
 cn:∀ p<2,∀ x∈S.C p,(2≤x.1∧x.1≤(S.Dp p).made)∧(2≤x.2∧x.2≤S.D0.made)∧∃ nn,S.D0.nd x.2=some nn∧(S.Dp p).nd x.1=some nn
 ci:∀ p<2,∀ r<2,∀ x∈S.C p,∀ y∈S.C r,x.2=y.2→p=r∧x=y
 cj:∀ p<2,∀ x∈S.C p,∀ y∈S.C p,x.1=y.1→x=y
 hs:∀ p<2,∀ h∈S.hs p,Born S p h.kp h.k0 h.so h.oo
 un:∀ p<2,∀ n,isN n→∀ kp k0,dget n (S.Dp p).pres=some kp→dget (nmo p n) S.D0.pres=some k0→∃ v,uget n (S.un p)=some v∧Born S p kp k0 v.2.1 v.2.2
 hsl:∀ p<2,(S.hs p).length≤t
 unl:∀ p<2,(S.un p).length≤t
 sp:S.D0.spent - 2=((S.Dp 0).spent - 2)+((S.Dp 1).spent - 2)
theorem Dinit_reg:Dinit.reg=[1]:=by decide +kernel
set_option tactic.hygienic true in
theorem dinit_univ{U:List Str}(h:s0∈U):Univ U dinit:=by
 refine ⟨by unfold dinit keysD;simp,fun n hn=>?_⟩
 unfold dinit at hn
 rw [dget_cons] at hn
 split at hn
 ·rename_i e;rw [← e];exact h
 ·cases hn
theorem dinit_s0:dget s0 dinit=some 1:=by unfold dinit;rw [dget_cons,if_pos rfl]
theorem dinit_ne{n:Str}(h:n≠s0):dget n dinit=none:=by
 unfold dinit
 rw [dget_cons,if_neg h.symm];rfl
theorem dinit_rel(C:Prs):DRel C dinit fun _=>dinit :=
 ⟨dinit_univ (by unfold U0;simp),fun _ _=>dinit_univ (by unfold U1;simp),dinit_s0,fun _ _=>dinit_s0,fun p hp n hn=>.inl ⟨dinit_ne (nmo_s0 hp hn),dinit_ne (isN_s0 hn)⟩⟩
theorem Dinit_hist:DkH Dinit [] 0 0 where
 left:=rfl
 alive:=rfl
 pres:=rfl
 kept:=rfl
 jour:=rfl
 sfl:=Nat.le_refl _
 hl:=Nat.le_refl _
 fits:=trivial
 reg:=by
  intro j _ h2 n k hk
  have:j=0:=by simpa using h2
  subst this
  rw [Dinit_reg]
  have hk':dget n dinit=some k:=hk
  unfold dinit at hk'
  rw [dget_cons] at hk'
  split at hk'
  ·cases hk';simp
  ·exact nos hk'
 regn:=by rw [Dinit_reg];simp
 regb:=by rw [Dinit_reg];intro k hk;rw [List.mem_singleton] at hk;subst hk;exact ⟨Nat.le_refl _,Nat.le_refl _⟩
 rl:=by rw [Dinit_reg];exact Nat.le_refl _
 nd:=by
  intro k h1 h2
  have h2':k≤1:=h2
  have:k=1:=by lia
  subst this
  exact ⟨⟨#[],0⟩,rfl,Nat.le_refl _,Nat.le_refl _⟩
 one:=rfl
 made:=Nat.le_refl _
 numb:=fun s hs=>nomatch hs
 uniq:=fun i j s s' h=>by simp at h
theorem inv_start(N:Nm):Inv N 0 LS0 where
 ol:=rfl
 len:=fun _ _=>rfl
 kp:=fun _ _=>Nat.le_refl _
 dir:=by
  intro j hj
  have:j=0:=Nat.le_zero.mp hj
  subst this
  exact dinit_rel _
 d0:=Dinit_hist
 dp:=fun _ _=>Dinit_hist
 cn:=fun p hp x hx=>nomatch hx
 ci:=fun p hp r hr x hx=>nomatch hx
 cj:=fun p hp x hx=>nomatch hx
 hs:=fun p hp h hh=>nomatch hh
 un:=by
  intro p hp n hn kp k0 h1 h2
  have:dget n dinit=some kp:=h1
  rw [dinit_ne (isN_s0 hn)] at this
  exact nos this
 hsl:=fun _ _=>Nat.le_refl _
 unl:=fun _ _=>Nat.le_refl _
 sp:=by decide
theorem DRel.congr{C:Prs}{d0:Dir}{d d':Nat→Dir}(h:DRel C d0 d)(e:∀ p<2,d p=d' p):DRel C d0 d' :=
 ⟨h.u0,fun p hp=>e p hp▸h.u p hp,h.z0,fun p hp=>e p hp▸h.z p hp,fun p hp=>e p hp▸h.r p hp⟩
theorem Inv.now{N:Nm}{t:Nat}{S:LS}(I:Inv N t S):DRel S.C S.D0.pres fun p=>(S.Dp p).pres:=by
 have:=I.dir S.H.length (Nat.le_refl _)
 rw [List.take_length,← I.d0.pres] at this
 refine this.congr fun p hp=>?_
 show plays ((S.Hp p).take (cnt p (S.ow.take S.H.length))) dinit=(S.Dp p).pres
 rw [← I.ol,List.take_length,← I.len p hp,List.take_length,(I.dp p hp).pres]
theorem Inv.mono{N:Nm}{t t':Nat}{S:LS}(I:Inv N t S)(h:t≤t'):Inv N t' S :=
 { I with d0:=I.d0.mono h,dp:=fun p hp=>(I.dp p hp).mono h,hsl:=fun p hp=>Nat.le_trans (I.hsl p hp) h,unl:=fun p hp=>Nat.le_trans (I.unl p hp) h }
theorem Inv.good{N:Nm}{t:Nat}{S:LS}(hN:NameOk N)(I:Inv N t S)(ht:t≤6):Good N S where
 w0:=I.d0.wf ht
 wp p hp:=(I.dp p hp).wf ht
 hd:=by
  intro p hp h hh
  have b:=I.hs p hp h hh
  obtain ⟨_,h2,nn,e1,e2⟩:=I.cn p hp _ b.c
  refine c1_3 (I.d0.nd h.k0 (by have:=h2.1;dsimp only at this;lia) h2.2) fun nn' e3 hs _=>?_
  rw [e1] at e3
  cases e3
  exact ⟨nn,e1,e2,by lia⟩
 hl p hp:=by have:=I.hsl p hp;lia
 ol:=by rw [I.ol];have:=I.d0.hl;lia
 dir:=by
  intro p hp n hn
  rw [pre_nmo hN hp hn]
  rcases I.now.r p hp n hn with ⟨a,b⟩ | ⟨kp,k0,a,b,_⟩
  ·rw [a,b]
  ·rw [a,b];rfl
 un:=by
  intro p hp n hn h
  refine c1_1 (Option.isSome_iff_exists.mp h) fun kp hk=>?_
  rcases I.now.r p hp n hn with ⟨_,b⟩ | ⟨kp',k0,a,b,_⟩
  ·rw [b] at hk;exact nos hk
  ·refine c1_2 (I.un p hp n hn kp' k0 a b) fun v hv _=>?_
   rw [hv];rfl
 ul p hp:=by have:=I.unl p hp;lia
theorem cnt_take_le(p:Nat)(l:List Nat){a b:Nat}(h:a≤b):cnt p (l.take a)≤cnt p (l.take b):=by
 unfold cnt
 have:(l.take a).Sublist (l.take b):=by
  have e:l.take a=(l.take b).take a:=by rw [List.take_take,Nat.min_eq_left h]
  rw [e]
  exact List.take_sublist ..
 exact (this.filter _).length_le
set_option tactic.hygienic true in
theorem fset_same{α:Type}(f:Nat→α)(p:Nat):fset f p (f p)=f:=by
 funext r
 unfold fset
 split
 ·rename_i e;rw [e]
 ·rfl
theorem Inv.acted{N:Nm}{t p sf' kp':Nat}{S:LS}{D0 Dp:Dk}(I:Inv N t S)(hp:p<2)(a0:DkH D0 S.H sf' (t+1))(ap:DkH Dp (S.Hp p) kp' (t+1))(m0:D0.made=S.D0.made)(mp:Dp.made=(S.Dp p).made)
  (hsf:S.sf≤sf') (hkp:kp'≤cnt p (S.ow.take sf')) (hn:∀ x∈S.C p,∃ nn,D0.nd x.2=some nn∧Dp.nd x.1=some nn) (ho:∀ r<2,r≠p→∀ x∈S.C r,D0.nd x.2=S.D0.nd x.2)
  (hs:D0.spent - S.D0.spent=Dp.spent - (S.Dp p).spent):Inv N (t+1) { (S.acted p D0 Dp) with sf:=sf',kp:=fset S.kp p kp' } where
 ol:=I.ol
 len:=I.len
 kp r hr:=by
  show fset S.kp p kp' r≤cnt r (S.ow.take sf')
  by_cases e:r=p
  ·have e:=e.symm;subst e;rw [fset_self];exact hkp
  ·rw [fset_ne _ _ e];exact Nat.le_trans (I.kp r hr) (cnt_take_le r S.ow hsf)
 dir:=I.dir
 d0:=a0
 dp r hr:=by
  show DkH (fset S.Dp p Dp r) (S.Hp r) (fset S.kp p kp' r) (t+1)
  by_cases e:r=p
  ·have e:=e.symm;subst e;rw [fset_self,fset_self];exact ap
  ·rw [fset_ne _ _ e,fset_ne _ _ e];exact (I.dp r hr).mono (Nat.le_succ t)
 cn r hr x hx:=by
  obtain ⟨c1,c2,nn,c3,c4⟩:=I.cn r hr x hx
  show (2≤x.1∧x.1≤(fset S.Dp p Dp r).made)∧(2≤x.2∧x.2≤D0.made)∧∃ nn,D0.nd x.2=some nn∧(fset S.Dp p Dp r).nd x.1=some nn
  rw [m0]
  by_cases e:r=p
  ·have e:=e.symm;subst e;rw [fset_self,mp];exact ⟨c1,c2,hn x hx⟩
  ·rw [fset_ne _ _ e];exact ⟨c1,c2,nn,(ho r hr e x hx).trans c3,c4⟩
 ci:=I.ci
 cj:=I.cj
 hs r hr h hh:=let b:=I.hs r hr h hh;⟨b.c,b.s1,b.s2,b.o1,b.oc,b.st,b.op⟩
 un r hr n hn kp k0 h1 h2:=by
  have e0:D0.pres=S.D0.pres:=by rw [a0.pres,I.d0.pres]
  have ep:(fset S.Dp p Dp r).pres=(S.Dp r).pres:=by
   by_cases e:r=p
   ·have e:=e.symm;subst e;rw [fset_self,ap.pres,(I.dp p hr).pres]
   ·rw [fset_ne _ _ e]
  have h1':dget n (fset S.Dp p Dp r).pres=some kp:=h1
  have h2':dget (nmo r n) D0.pres=some k0:=h2
  rw [ep] at h1'
  rw [e0] at h2'
  refine c1_2 (I.un r hr n hn kp k0 h1' h2') fun v hv b=>?_
  exact ⟨v,hv,b.c,b.s1,b.s2,b.o1,b.oc,b.st,b.op⟩
 hsl r hr:=Nat.le_succ_of_le (I.hsl r hr)
 unl r hr:=Nat.le_succ_of_le (I.unl r hr)
 sp:=by
  show D0.spent - 2=((fset S.Dp p Dp 0).spent - 2)+((fset S.Dp p Dp 1).spent - 2)
  have:=I.sp
  rcases two_cases hp with rfl | rfl
  ·rw [fset_self,fset_ne _ _ (by decide)];lia
  ·rw [fset_self,fset_ne _ _ (by decide)];lia
theorem Inv.append{N:Nm}{t p:Nat}{S:LS}{h:HEnt}{oct:Array UInt8}(I:Inv N t S)(hp:p<2)(ho:oct.size≤3)(hh:h∈S.hs p) :
  Inv N (t+1) (S.acted p (S.D0.appd h.k0 (ndOf S.D0 h.k0) oct) ((S.Dp p).appd h.kp (ndOf (S.Dp p) h.kp) oct)):=by
 have b:=(I.hs p hp h hh).c
 obtain ⟨c1,c2,nn,c3,c4⟩:=I.cn p hp _ b
 dsimp only at c1 c2 c3 c4
 have e0:ndOf S.D0 h.k0=nn:=by unfold ndOf;rw [c3];rfl
 have ep:ndOf (S.Dp p) h.kp=nn:=by unfold ndOf;rw [c4];rfl
 have:=I.acted hp (sf':=S.sf) (kp':=S.kp p) (I.d0.appd c2.1 c2.2 ho) ((I.dp p hp).appd c1.1 c1.2 ho) rfl rfl (Nat.le_refl _) (I.kp p hp) (fun x hx=>?_) (fun r hr hne x hx=>?_) ?_
 ·rw [fset_same] at this
  exact this
 ·rw [e0,ep]
  show ∃ n',(if x.2=h.k0 then some ⟨nn.data++oct,nn.kept⟩ else S.D0.nd x.2)=some n'∧(if x.1=h.kp then some ⟨nn.data++oct,nn.kept⟩ else (S.Dp p).nd x.1)=some n'
  by_cases e:x.2=h.k0
  ·have:=(I.ci p hp p hp x hx _ b e).2
   subst this
   rw [if_pos rfl,if_pos rfl]
   exact ⟨_,rfl,rfl⟩
  ·have e':¬ x.1=h.kp:=fun z=>e (by rw [I.cj p hp x hx _ b z])
   rw [if_neg e,if_neg e']
   obtain ⟨_,_,n',q1,q2⟩:=I.cn p hp x hx
   exact ⟨n',q1,q2⟩
 ·show (if x.2=h.k0 then _ else S.D0.nd x.2)=_
  rw [if_neg fun z=>hne (I.ci r hr p hp x hx _ b z).1]
 ·show (S.D0.spent+oct.size) - S.D0.spent=((S.Dp p).spent+oct.size) - (S.Dp p).spent
  lia
theorem Inv.sync{N:Nm}{t p:Nat}{S:LS}{h:HEnt}(I:Inv N t S)(hp:p<2)(hh:h∈S.hs p) :
  Inv N (t+1) { (S.acted p (S.D0.syncd h.k0 (ndOf S.D0 h.k0)) ((S.Dp p).syncd h.kp (ndOf (S.Dp p) h.kp))) with sf:=max S.sf h.so,kp:=fset S.kp p (max (S.kp p) h.oo) }:=by
 have B:=I.hs p hp h hh
 have b:=B.c
 obtain ⟨c1,c2,nn,c3,c4⟩:=I.cn p hp _ b
 dsimp only at c1 c2 c3 c4
 have e0:ndOf S.D0 h.k0=nn:=by unfold ndOf;rw [c3];rfl
 have ep:ndOf (S.Dp p) h.kp=nn:=by unfold ndOf;rw [c4];rfl
 refine c1_3 B.st fun s s1 s2 s3=>?_
 refine c1_3 B.op fun o o1 o2 o3=>?_
 have hoo:h.oo≤(S.Hp p).length:=by
  refine c1_1 (List.getElem?_eq_some_iff.mp o1) fun hlt _=>Nat.le_of_pred_lt hlt
 refine I.acted hp (I.d0.syncd c2.1 c2.2 B.s1 B.s2 s1 s2 s3) ((I.dp p hp).syncd c1.1 c1.2 B.o1 hoo o1 o2 o3) rfl rfl (Nat.le_max_left ..) ?_ (fun x hx=>?_) (fun r hr hne x hx=>?_) ?_
 ·refine Nat.max_le.mpr ⟨Nat.le_trans (I.kp p hp) (cnt_take_le p S.ow (Nat.le_max_left ..)),?_⟩
  rw [← B.oc]
  exact cnt_take_le p S.ow (Nat.le_max_right ..)
 ·rw [e0,ep]
  show ∃ n',(if x.2=h.k0 then some ⟨nn.data,nn.data.size⟩ else S.D0.nd x.2)=some n'∧(if x.1=h.kp then some ⟨nn.data,nn.data.size⟩ else (S.Dp p).nd x.1)=some n'
  by_cases e:x.2=h.k0
  ·have:=(I.ci p hp p hp x hx _ b e).2
   subst this
   rw [if_pos rfl,if_pos rfl]
   exact ⟨_,rfl,rfl⟩
  ·have e':¬ x.1=h.kp:=fun z=>e (by rw [I.cj p hp x hx _ b z])
   rw [if_neg e,if_neg e']
   obtain ⟨_,_,n',q1,q2⟩:=I.cn p hp x hx
   exact ⟨n',q1,q2⟩
 ·show (if x.2=h.k0 then _ else S.D0.nd x.2)=_
  rw [if_neg fun z=>hne (I.ci r hr p hp x hx _ b z).1]
 ·show (S.D0.spent+1) - S.D0.spent=((S.Dp p).spent+1) - (S.Dp p).spent
  lia
theorem Inv.syncDir{N:Nm}{t p:Nat}{S:LS}(I:Inv N t S)(hp:p<2):Inv N (t+1) { (S.acted p S.D0.syncDir (S.Dp p).syncDir) with sf:=S.ow.length,kp:=fset S.kp p (cnt p S.ow) }:=by
 have a0:=I.d0.syncDir
 have ap:=(I.dp p hp).syncDir
 rw [I.len p hp] at ap
 rw [← I.ol] at a0
 refine I.acted hp a0 ap rfl rfl (by rw [I.ol];exact I.d0.sfl) (by rw [List.take_length];exact Nat.le_refl _) (fun x hx=>?_) (fun r hr hne x hx=>rfl) ?_
 ·obtain ⟨_,_,nn,q1,q2⟩:=I.cn p hp x hx
  exact ⟨nn,q1,q2⟩
 ·show (S.D0.spent+1) - S.D0.spent=((S.Dp p).spent+1) - (S.Dp p).spent
  lia
theorem Inv.handles{N:Nm}{t p:Nat}{S:LS}{l:List HEnt}(I:Inv N t S)(hp:p<2)(hl:l.length≤t+1)(hb:∀ h∈l,Born S p h.kp h.k0 h.so h.oo):Inv N (t+1) { S with hs:=fset S.hs p l } where
 ol:=I.ol
 len:=I.len
 kp:=I.kp
 dir:=I.dir
 d0:=I.d0.mono (Nat.le_succ t)
 dp r hr:=(I.dp r hr).mono (Nat.le_succ t)
 cn:=I.cn
 ci:=I.ci
 cj:=I.cj
 hs r hr h hh:=by
  have hh':h∈fset S.hs p l r:=hh
  have b:Born S r h.kp h.k0 h.so h.oo:=by
   by_cases e:r=p
   ·have e:=e.symm;subst e;rw [fset_self] at hh';exact hb h hh'
   ·rw [fset_ne _ _ e] at hh';exact I.hs r hr h hh'
  exact ⟨b.c,b.s1,b.s2,b.o1,b.oc,b.st,b.op⟩
 un r hr n hn kp k0 h1 h2:=let ⟨v,hv,b⟩:=I.un r hr n hn kp k0 h1 h2;⟨v,hv,b.c,b.s1,b.s2,b.o1,b.oc,b.st,b.op⟩
 hsl r hr:=by
  show (fset S.hs p l r).length≤t+1
  by_cases e:r=p
  ·have e:=e.symm;subst e;rw [fset_self];exact hl
  ·rw [fset_ne _ _ e];exact Nat.le_succ_of_le (I.hsl r hr)
 unl r hr:=Nat.le_succ_of_le (I.unl r hr)
 sp:=I.sp
theorem Inv.close{N:Nm}{t p f:Nat}{S:LS}(I:Inv N t S)(hp:p<2):Inv N (t+1) { S with hs:=fset S.hs p (closeH f (S.hs p)) }:=by
 refine I.handles hp (by unfold closeH;rw [List.length_map];exact Nat.le_succ_of_le (I.hsl p hp)) fun h hh=>?_
 unfold closeH at hh
 refine c1_2 (List.mem_map.mp hh) ?_;rintro h' hh' rfl
 split
 ·exact I.hs p hp h' hh'
 ·exact I.hs p hp h' hh'
theorem Inv.reopen{N:Nm}{t p:Nat}{S:LS}{one:Str}{v:Nat×Nat×Nat}{e f0 fp:Nat}{n0:Str}(hN:NameOk N)(I:Inv N t S)(hp:p<2)(h1:isN one)(hs:(dget one (S.Dp p).pres).isSome=true)(hv:uget one (S.un p)=some v) :
  Inv N (t+1) { S with hs:=fset S.hs p (S.hs p++[⟨e,f0,fp,n0,one,(dget (pre (N.Q p) one) S.D0.pres).getD 0,(dget one (S.Dp p).pres).getD 0,false,v.2.1,v.2.2⟩]) }:=by
 refine I.handles hp (by rw [List.length_append];have:=I.hsl p hp;simp;lia) fun h hh=>?_
 rcases List.mem_append.mp hh with z | z
 ·exact I.hs p hp h z
 ·rw [List.mem_singleton] at z
  subst z
  rw [pre_nmo hN hp h1]
  refine c1_1 (Option.isSome_iff_exists.mp hs) fun kp hk=>?_
  rcases I.now.r p hp one h1 with ⟨_,b⟩ | ⟨kp',k0,a,b,_⟩
  ·rw [b] at hk;exact nos hk
  ·refine c1_2 (I.un p hp one h1 kp' k0 a b) fun w hw B=>?_
   rw [hv] at hw
   cases hw
   rw [a,b]
   exact B
theorem cnt_snoc(r p:Nat)(l:List Nat):cnt r (l++[p])=cnt r l+if p=r then 1 else 0:=by
 unfold cnt
 rw [List.filter_append,List.length_append]
 by_cases h:p=r
 ·subst h;simp
 ·simp [h]
theorem cnt_le(p:Nat)(l:List Nat)(j:Nat):cnt p (l.take j)≤cnt p l:=by
 unfold cnt
 exact ((List.take_sublist j l).filter _).length_le
theorem Inv.pushed{N:Nm}{t p:Nat}{S:LS}{C':Prs}{s u:Stp}(I:Inv N t S)(hp:p<2)(R:SRel C' p s u)(hC:∀ r<2,∀ x∈S.C r,x∈C' r) :
  ∀ j≤(S.H++[s]).length,DRel C' (plays ((S.H++[s]).take j) dinit) (fun r=>plays ((fset S.Hp p (S.Hp p++[u]) r).take (cnt r ((S.ow++[p]).take j))) dinit):=by
 intro j hj
 rw [List.length_append,List.length_singleton] at hj
 by_cases e:j≤S.H.length
 ·rw [take_snoc e]
  refine ((I.dir j e).mono hC).congr fun r hr=>?_
  rw [take_snoc (by rw [I.ol];exact e)]
  by_cases e2:r=p
  ·have e2:=e2.symm;subst e2
   rw [fset_self,take_snoc (by rw [I.len p hr];exact cnt_le p S.ow j)]
  ·rw [fset_ne _ _ e2]
 ·have:j=S.H.length+1:=by lia
  subst this
  rw [take_snoc',plays_snoc']
  have h0:=I.dir S.H.length (Nat.le_refl _)
  rw [List.take_length] at h0
  refine ((h0.mono hC).play hp R).congr fun r hr=>?_
  rw [← I.ol,take_snoc',cnt_snoc,List.take_length]
  by_cases e2:r=p
  ·have e2:=e2.symm;subst e2
   rw [fset_self,fset_self,if_pos rfl,← I.len p hr,take_snoc',List.take_length,plays_snoc']
  ·rw [fset_ne _ _ e2,fset_ne _ _ e2,if_neg (fun z=>e2 z.symm),Nat.add_zero]
theorem Born.push{S S':LS}{p r kp k0 so oo:Nat}{s u:Stp}(b:Born S r kp k0 so oo)(hol:S.ow.length=S.H.length)(hH:S'.H=S.H++[s])(hHp:S'.Hp=fset S.Hp p (S.Hp p++[u]))(how:S'.ow=S.ow++[p])(hC:∀ x∈S.C r,x∈S'.C r):Born S' r kp k0 so oo:=by
 refine c1_3 b.st fun s' a1 a2 a3=>?_
 refine c1_3 b.op fun u' c1 c2 c3=>?_
 refine ⟨hC _ b.c,b.s1,?_,b.o1,?_,⟨s',?_,a2,a3⟩,⟨u',?_,c2,c3⟩⟩
 ·rw [hH,List.length_append];have:=b.s2;lia
 ·rw [how,take_snoc (by rw [hol];exact b.s2)];exact b.oc
 ·rw [hH,List.getElem?_append_left (List.getElem?_eq_some_iff.mp a1).1];exact a1
 ·rw [hHp]
  by_cases e:r=p
  ·have e:=e.symm;subst e
   rw [fset_self,List.getElem?_append_left (List.getElem?_eq_some_iff.mp c1).1];exact c1
  ·rw [fset_ne _ _ e];exact c1
theorem uget_uset(n m:Str)(v:Nat×Nat×Nat)(u:List (Str×(Nat×Nat×Nat))):uget m (uset n v u)=if m=n then some v else uget m u:=by
 have cons:∀ (a:Str) b (u:List (Str×(Nat×Nat×Nat))),uget m ((a,b)::u)=if a=m then some b else uget m u:=fun a b u=>by
  unfold uget
  rw [List.find?_cons]
  by_cases e:a=m
  ·rw [if_pos e,decide_eq_true e];rfl
  ·rw [if_neg e,decide_eq_false e]
 have key:∀ u:List (Str×(Nat×Nat×Nat)),uget m (u.map fun e=>if e.1=n then (e.1,v) else e)=if m=n then (uget m u).map fun _=>v else uget m u:=by
  intro u
  induction u with
  | nil=>exact (ite_self (c:=m=n) (none:Option (Nat×Nat×Nat))).symm
  | cons a u ih =>
   cases a with | mk a b =>
   rw [List.map_cons]
   by_cases h:a=n
   ·rw [if_pos (show (a,b).1=n from h),cons,ih,cons]
    by_cases h2:a=m
    ·rw [if_pos h2,if_pos h2,if_pos (h2.symm.trans h)];rfl
    ·rw [if_neg h2,if_neg h2]
   ·rw [if_neg (show ¬ (a,b).1=n from h),cons,ih,cons]
    by_cases h2:a=m
    ·rw [if_pos h2,if_pos h2,if_neg fun z=>h (h2.trans z)]
    ·rw [if_neg h2,if_neg h2]
 unfold uset
 by_cases ha:u.any (fun e=>e.1=n)=true
 ·rw [if_pos ha,key]
  by_cases e:m=n
  ·subst e
   rw [if_pos rfl,if_pos rfl]
   have:(uget m u).isSome=true:=by
    unfold uget
    rw [Option.isSome_map,List.find?_isSome]
    rw [List.any_eq_true] at ha
    exact ha
   refine c1_1 (Option.isSome_iff_exists.mp this) fun x hx=>?_
   rw [hx];rfl
  ·rw [if_neg e,if_neg e]
 ·rw [if_neg ha]
  unfold uget
  rw [List.find?_append]
  by_cases e:m=n
  ·subst e
   have:u.find? (fun e=>decide (e.1=m))=none:=by
    rw [List.find?_eq_none]
    intro x hx z
    exact ha (List.any_eq_true.mpr ⟨x,hx,z⟩)
   rw [this];simp
  ·have e':¬ n=m:=fun z=>e z.symm
   rw [if_neg e];simp [e']
theorem uset_len(n:Str)(v:Nat×Nat×Nat)(u:List (Str×(Nat×Nat×Nat))):(uset n v u).length≤u.length+1:=by unfold uset;split <;> simp
noncomputable def LS.stepped(S:LS)(p:Nat)(s u:Stp)(un:Nat→List (Str×(Nat×Nat×Nat))):LS :=
 { (S.acted p (S.D0.stepd s) ((S.Dp p).stepd u)) with ow:=S.ow++[p],un:=un,H:=S.H++[s],Hp:=fset S.Hp p (S.Hp p++[u]) }
theorem fits_of{s:Stp}{d:Dir}(h:s.kind=2∨s.kind=3)(e:(dget s.name d).isSome=true):s.fits d:=by
 rcases h with h | h
 ·exact .inr (.inl ⟨h,e⟩)
 ·exact .inr (.inr ⟨h,e⟩)
theorem Inv.step{N:Nm}{t p:Nat}{S:LS}{s u:Stp}{un:Nat→List (Str×(Nat×Nat×Nat))}(I:Inv N t S)(hp:p<2)(R:SRel S.C p s u)(hk:u.kind=2∨u.kind=3)(hf:(dget u.name (S.Dp p).pres).isSome=true)
  (hun:∀ r<2,∀ n,isN n→∀ kp k0,dget n (fset (fun r=>(S.Dp r).pres) p (play u (S.Dp p).pres) r)=some kp→dget (nmo r n) (play s S.D0.pres)=some k0→∃ v,uget n (un r)=some v∧Born S r kp k0 v.2.1 v.2.2)
  (unl:∀ r<2,(un r).length≤t+1):Inv N (t+1) (S.stepped p s u un):=by
 have hk1:u.kind≠1:=by rcases hk with h | h <;> rw [h] <;> decide
 have hs1:s.kind≠1:=by rw [R.k];exact hk1
 have hf0:(dget s.name S.D0.pres).isSome=true:=by
  rw [R.sn]
  refine c1_1 (Option.isSome_iff_exists.mp hf) fun kp hkp=>?_
  rcases I.now.r p hp u.name R.n with ⟨_,b⟩ | ⟨_,k0,_,b,_⟩
  ·rw [b] at hkp;exact nos hkp
  ·rw [b];rfl
 have bp:∀ {r kp k0 so oo},Born S r kp k0 so oo→Born (S.stepped p s u un) r kp k0 so oo:=fun b=>b.push I.ol rfl rfl rfl fun _ z=>z
 refine { ol:=?_,len:=?_,kp:=?_,dir:=I.pushed hp R fun _ _ _ z=>z,d0:=I.d0.stepd hs1 (fits_of (by rw [R.k];exact hk) hf0),dp:=?_,cn:=?_,ci:=I.ci,cj:=I.cj,hs:=fun r hr h hh=>bp (I.hs r hr h hh),un:=?_,hsl:=fun r hr=>Nat.le_succ_of_le (I.hsl r hr),unl:=unl,sp:=?_ }
 ·show (S.ow++[p]).length=(S.H++[s]).length
  rw [List.length_append,List.length_append,I.ol];rfl
 ·intro r hr
  show (fset S.Hp p (S.Hp p++[u]) r).length=cnt r (S.ow++[p])
  rw [cnt_snoc]
  by_cases e:r=p
  ·have e:=e.symm;subst e;rw [fset_self,List.length_append,I.len p hr,if_pos rfl];rfl
  ·rw [fset_ne _ _ e,I.len r hr,if_neg fun z=>e z.symm];rfl
 ·intro r hr
  show S.kp r≤cnt r ((S.ow++[p]).take S.sf)
  rw [take_snoc (by rw [I.ol];exact I.d0.sfl)]
  exact I.kp r hr
 ·intro r hr
  show DkH (fset S.Dp p ((S.Dp p).stepd u) r) (fset S.Hp p (S.Hp p++[u]) r) (S.kp r) (t+1)
  by_cases e:r=p
  ·have e:=e.symm;subst e;rw [fset_self,fset_self];exact (I.dp p hr).stepd hk1 (fits_of hk hf)
  ·rw [fset_ne _ _ e,fset_ne _ _ e];exact (I.dp r hr).mono (Nat.le_succ t)
 ·intro r hr x hx
  have:=I.cn r hr x hx
  show (2≤x.1∧x.1≤(fset S.Dp p ((S.Dp p).stepd u) r).made)∧(2≤x.2∧x.2≤S.D0.made)∧∃ nn,S.D0.nd x.2=some nn∧(fset S.Dp p ((S.Dp p).stepd u) r).nd x.1=some nn
  by_cases e:r=p
  ·have e:=e.symm;subst e;rw [fset_self];exact this
  ·rw [fset_ne _ _ e];exact this
 ·intro r hr n hn kp k0 h1 h2
  have h1':dget n (fset S.Dp p ((S.Dp p).stepd u) r).pres=some kp:=h1
  have e:(fset S.Dp p ((S.Dp p).stepd u) r).pres=fset (fun r=>(S.Dp r).pres) p (play u (S.Dp p).pres) r:=by
   by_cases e:r=p
   ·have e:=e.symm;subst e;rw [fset_self,fset_self];rfl
   ·rw [fset_ne _ _ e,fset_ne _ _ e]
  rw [e] at h1'
  refine c1_2 (hun r hr n hn kp k0 h1' h2) fun v hv b=>?_
  exact ⟨v,hv,bp b⟩
 ·show (S.D0.spent+1) - 2=((fset S.Dp p ((S.Dp p).stepd u) 0).spent - 2)+((fset S.Dp p ((S.Dp p).stepd u) 1).spent - 2)
  have:=I.sp
  rcases two_cases hp with rfl | rfl
  ·rw [fset_self,fset_ne _ _ (by decide)];show (S.D0.spent+1) - 2=((S.Dp 0).spent+1 - 2)+((S.Dp 1).spent - 2);lia
  ·rw [fset_self,fset_ne _ _ (by decide)];show (S.D0.spent+1) - 2=((S.Dp 0).spent - 2)+((S.Dp 1).spent+1 - 2);lia
theorem Inv.remove{N:Nm}{t p:Nat}{S:LS}{one:Str}(hN:NameOk N)(I:Inv N t S)(hp:p<2)(h1:isN one)(hf:(dget one (S.Dp p).pres).isSome=true) :
  Inv N (t+1) (S.stepped p ⟨2,pre (N.Q p) one,Str.ofString "",0⟩ ⟨2,one,Str.ofString "",0⟩ S.un):=by
 rw [pre_nmo hN hp h1]
 refine I.step hp ⟨rfl,.inr (.inl rfl),h1,rfl,(fun z=>by cases z),(fun z=>by cases z)⟩ (.inl rfl) hf (fun r hr n hn kp k0 e1 e2=>?_) fun r hr=>Nat.le_succ_of_le (I.unl r hr)
 rw [dget_play,if_neg (by dsimp only;decide),if_pos rfl] at e2
 split at e2
 ·exact nos e2
 by_cases e:r=p
 ·have e:=e.symm;subst e
  rw [fset_self,dget_play,if_neg (by dsimp only;decide),if_pos rfl] at e1
  split at e1
  ·exact nos e1
  exact I.un p hr n hn kp k0 e1 e2
 ·rw [fset_ne _ _ e] at e1
  exact I.un r hr n hn kp k0 e1 e2
set_option tactic.hygienic true in
theorem Inv.rename{N:Nm}{t p:Nat}{S:LS}{one two:Str}{v:Nat×Nat×Nat}(hN:NameOk N)(I:Inv N t S)(hp:p<2)(h1:isN one)(h2:isN two)(hf:(dget one (S.Dp p).pres).isSome=true)(hv:uget one (S.un p)=some v) :
  Inv N (t+1) (S.stepped p ⟨3,pre (N.Q p) one,pre (N.Q p) two,0⟩ ⟨3,one,two,0⟩ (fset S.un p (uset two v (S.un p)))):=by
 rw [pre_nmo hN hp h1,pre_nmo hN hp h2]
 refine I.step hp ⟨rfl,.inr (.inr rfl),h1,rfl,(fun _=>⟨h2,rfl⟩),(fun z=>by cases z)⟩ (.inr rfl) hf (fun r hr n hn kp k0 e1 e2=>?_) fun r hr=>?_
 ·refine c1_1 (Option.isSome_iff_exists.mp hf) fun kp1 hk1=>?_
  rcases I.now.r p hp one h1 with ⟨_,b⟩ | ⟨kp2,k2,a,b,_⟩
  ·rw [b] at hk1;exact nos hk1
  rw [dget_play,if_neg (by dsimp only;decide),if_neg (by dsimp only;decide)] at e2
  dsimp only at e2
  rw [b] at e2
  dsimp only at e2
  by_cases e:r=p
  ·have e:=e.symm;subst e
   rw [fset_self,dget_play,if_neg (by dsimp only;decide),if_neg (by dsimp only;decide)] at e1
   dsimp only at e1
   have a':dget one (S.Dp p).pres=some kp2:=a
   rw [a'] at e1
   dsimp only at e1
   rw [fset_self,uget_uset]
   by_cases en:n=two
   ·subst en
    rw [if_pos rfl] at e1 e2 ⊢
    cases e1;cases e2
    refine c1_2 (I.un p hr one h1 _ _ a' b) fun w hw B=>?_
    rw [hv] at hw
    cases hw
    exact ⟨v,rfl,B⟩
   ·rw [if_neg en] at e1 ⊢
    rw [if_neg fun z=>en (nmo_inj hr hr hn h2 z).2] at e2
    split at e1
    ·exact nos e1
    rename_i en1
    rw [if_neg fun z=>en1 (nmo_inj hr hr hn h1 z).2] at e2
    exact I.un p hr n hn kp k0 e1 e2
  ·rw [fset_ne _ _ e] at e1 ⊢
   rw [if_neg fun z=>e (nmo_inj hr hp hn h2 z).1,if_neg fun z=>e (nmo_inj hr hp hn h1 z).1] at e2
   exact I.un r hr n hn kp k0 e1 e2
 ·by_cases e:r=p
  ·have e:=e.symm;subst e;rw [fset_self];exact Nat.le_trans (uset_len ..) (Nat.succ_le_succ (I.unl p hr))
  ·rw [fset_ne _ _ e];exact Nat.le_succ_of_le (I.unl r hr)
theorem mem_snocC{C:Prs}{p r:Nat}{x y:Nat×Nat}(h:y∈fset C p (C p++[x]) r):y∈C r∨(r=p∧y=x):=by
 by_cases e:r=p
 ·have e:=e.symm;subst e
  rw [fset_self] at h
  rcases List.mem_append.mp h with z | z
  ·exact .inl z
  ·rw [List.mem_singleton] at z;exact .inr ⟨rfl,z⟩
 ·rw [fset_ne _ _ e] at h;exact .inl h
theorem snocC_old{C:Prs}{p r:Nat}{x y:Nat×Nat}(h:y∈C r):y∈fset C p (C p++[x]) r:=by
 by_cases e:r=p
 ·have e:=e.symm;subst e;rw [fset_self];exact List.mem_append_left _ h
 ·rw [fset_ne _ _ e];exact h
theorem snocC_new{C:Prs}{p:Nat}{x:Nat×Nat}:x∈fset C p (C p++[x]) p:=by rw [fset_self];simp
theorem sum_fset(f:Nat→Dk)(p:Nat)(X:Dk)(hp:p<2)(hX:X.spent=(f p).spent+1):(fset f p X 0).spent+(fset f p X 1).spent=(f 0).spent+(f 1).spent+1:=by
 rcases two_cases hp with rfl | rfl
 ·rw [fset_self,fset_ne _ _ (by decide),hX];lia
 ·rw [fset_self,fset_ne _ _ (by decide),hX];lia
theorem Inv.make{N:Nm}{t p:Nat}{S:LS}{one:Str}{u e f0 fp:Nat}(hN:NameOk N)(I:Inv N t S)(hp:p<2)(h1:isN one):Inv N (t+1) (S.made N p one u e f0 fp):=by
 unfold LS.made LS.booked
 rw [pre_nmo hN hp h1]
 have hR:SRel (fset S.C p (S.C p++[((S.Dp p).made+1,S.D0.made+1)])) p ⟨1,nmo p one,Str.ofString "",S.D0.made+1⟩ ⟨1,one,Str.ofString "",(S.Dp p).made+1⟩:=⟨rfl,.inl rfl,h1,rfl,(fun z=>by cases z),fun _=>snocC_new⟩
 have hC:∀ r<2,∀ x∈S.C r,x∈fset S.C p (S.C p++[((S.Dp p).made+1,S.D0.made+1)]) r:=fun r _ x hx=>snocC_old hx
 generalize hS':LS.mk _ _ _ _ _ _ _ _ _ _=S'
 have eD0:S'.D0=S.D0.mk1 (nmo p one):=by rw [← hS'] <;> rfl
 have eDp:S'.Dp=fset S.Dp p ((S.Dp p).mk1 one):=by rw [← hS'] <;> rfl
 have ehs:S'.hs=fset S.hs p (S.hs p++[⟨e,f0,fp,nmo p one,one,S.D0.made+1,(S.Dp p).made+1,false,S.ow.length+1,cnt p S.ow+1⟩]):=by rw [← hS'] <;> rfl
 have eun:S'.un=fset S.un p (uset one (u,S.ow.length+1,cnt p S.ow+1) (S.un p)):=by rw [← hS'] <;> rfl
 have eow:S'.ow=S.ow++[p]:=by rw [← hS'] <;> rfl
 have esf:S'.sf=S.sf:=by rw [← hS'] <;> rfl
 have ekp:S'.kp=S.kp:=by rw [← hS'] <;> rfl
 have eH:S'.H=S.H++[⟨1,nmo p one,Str.ofString "",S.D0.made+1⟩]:=by rw [← hS'] <;> rfl
 have eHp:S'.Hp=fset S.Hp p (S.Hp p++[⟨1,one,Str.ofString "",(S.Dp p).made+1⟩]):=by rw [← hS'] <;> rfl
 have eC:S'.C=fset S.C p (S.C p++[((S.Dp p).made+1,S.D0.made+1)]):=by rw [← hS'] <;> rfl
 clear hS'
 have bp:∀ {r kp k0 so oo},Born S r kp k0 so oo→Born S' r kp k0 so oo:=fun b=>b.push I.ol eH eHp eow fun x hx=>by rw [eC];exact snocC_old hx
 have new:Born S' p ((S.Dp p).made+1) (S.D0.made+1) (S.ow.length+1) (cnt p S.ow+1):=by
  refine ⟨by rw [eC];exact snocC_new,by lia,by rw [eH,List.length_append,I.ol];exact Nat.le_refl _,by lia,?_,⟨⟨1,nmo p one,Str.ofString "",S.D0.made+1⟩,?_,rfl,rfl⟩,⟨⟨1,one,Str.ofString "",(S.Dp p).made+1⟩,?_,rfl,rfl⟩⟩
  ·rw [eow,take_snoc',cnt_snoc,if_pos rfl]
  ·rw [eH,Nat.add_sub_cancel,I.ol,List.getElem?_append_right (Nat.le_refl _),Nat.sub_self];rfl
  ·rw [eHp,fset_self,Nat.add_sub_cancel,← I.len p hp,List.getElem?_append_right (Nat.le_refl _),Nat.sub_self];rfl
 have made1:=I.d0.made
 have madep:=(I.dp p hp).made
 refine { ol:=?_,len:=?_,kp:=?_,dir:=?_,d0:=?_,dp:=?_,cn:=?_,ci:=?_,cj:=?_,hs:=?_,un:=?_,hsl:=?_,unl:=?_,sp:=?_ }
 ·rw [eow,eH,List.length_append,List.length_append,I.ol];rfl
 ·intro r hr
  rw [eHp,eow,cnt_snoc]
  by_cases e:r=p
  ·have e:=e.symm;subst e;rw [fset_self,List.length_append,I.len p hr,if_pos rfl];rfl
  ·rw [fset_ne _ _ e,I.len r hr,if_neg fun z=>e z.symm];rfl
 ·intro r hr
  rw [ekp,eow,esf,take_snoc (by rw [I.ol];exact I.d0.sfl)]
  exact I.kp r hr
 ·rw [eH,eHp,eow,eC]
  exact I.pushed hp hR hC
 ·rw [eD0,eH,esf];exact I.d0.mk1 _
 ·intro r hr
  rw [eDp,eHp,ekp]
  by_cases e:r=p
  ·have e:=e.symm;subst e;rw [fset_self,fset_self];exact (I.dp p hr).mk1 _
  ·rw [fset_ne _ _ e,fset_ne _ _ e];exact (I.dp r hr).mono (Nat.le_succ t)
 ·intro r hr x hx
  rw [eC] at hx
  rw [eDp,eD0]
  have n0:∀ k,k≠S.D0.made+1→(S.D0.mk1 (nmo p one)).nd k=S.D0.nd k:=fun k hk=>if_neg hk
  have np:∀ k,k≠(S.Dp p).made+1→((S.Dp p).mk1 one).nd k=(S.Dp p).nd k:=fun k hk=>if_neg hk
  rcases mem_snocC hx with hx | ⟨er,ex⟩
  ·obtain ⟨c1,c2,nn,c3,c4⟩:=I.cn r hr x hx
   rw [n0 _ (by lia)]
   by_cases e:r=p
   ·have e:=e.symm;subst e
    rw [fset_self,np _ (by lia)]
    exact ⟨⟨c1.1,Nat.le_succ_of_le c1.2⟩,⟨c2.1,Nat.le_succ_of_le c2.2⟩,nn,c3,c4⟩
   ·rw [fset_ne _ _ e]
    exact ⟨c1,⟨c2.1,Nat.le_succ_of_le c2.2⟩,nn,c3,c4⟩
  ·rw [er,ex,fset_self]
   exact ⟨⟨by dsimp only;lia,Nat.le_refl _⟩,⟨by dsimp only;lia,Nat.le_refl _⟩,⟨#[],0⟩,if_pos rfl,if_pos rfl⟩
 ·intro r hr q hq x hx y hy exy
  rw [eC] at hx hy
  rcases mem_snocC hx with hx' | ⟨e1,e2⟩ <;> rcases mem_snocC hy with hy' | ⟨e3,e4⟩
  ·exact I.ci r hr q hq x hx' y hy' exy
  ·have:=(I.cn r hr x hx').2.1.2;rw [e4] at exy;dsimp only at exy;lia
  ·have:=(I.cn q hq y hy').2.1.2;rw [e2] at exy;dsimp only at exy;lia
  ·exact ⟨e1.trans e3.symm,e2.trans e4.symm⟩
 ·intro r hr x hx y hy exy
  rw [eC] at hx hy
  rcases mem_snocC hx with hx' | ⟨e1,e2⟩ <;> rcases mem_snocC hy with hy' | ⟨e3,e4⟩
  ·exact I.cj r hr x hx' y hy' exy
  ·have:=(I.cn r hr x hx').1.2;rw [e4,← e3] at exy;dsimp only at exy;lia
  ·have:=(I.cn r hr y hy').1.2;rw [e2,← e1] at exy;dsimp only at exy;lia
  ·exact e2.trans e4.symm
 ·intro r hr h hh
  rw [ehs] at hh
  by_cases e:r=p
  ·have e:=e.symm;subst e
   rw [fset_self] at hh
   rcases List.mem_append.mp hh with z | z
   ·exact bp (I.hs p hr h z)
   ·rw [List.mem_singleton] at z;subst z;exact new
  ·rw [fset_ne _ _ e] at hh;exact bp (I.hs r hr h hh)
 ·intro r hr n hn kp k0 e1 e2
  rw [eDp] at e1
  rw [eD0] at e2
  rw [eun]
  have e2':dget n (play ⟨1,one,Str.ofString "",(S.Dp p).made+1⟩ (S.Dp p).pres)=dget n ((S.Dp p).mk1 one).pres:=rfl
  have e3':dget (nmo r n) (play ⟨1,nmo p one,Str.ofString "",S.D0.made+1⟩ S.D0.pres)=some k0:=e2
  rw [dget_play,if_pos rfl] at e3'
  by_cases e:r=p
  ·have e:=e.symm;subst e
   rw [fset_self,← e2',dget_play,if_pos rfl] at e1
   rw [fset_self,uget_uset]
   by_cases en:n=one
   ·have en:=en.symm;subst en
    rw [if_pos rfl] at e1 e3' ⊢
    cases e1;cases e3'
    exact ⟨_,rfl,new⟩
   ·rw [if_neg en] at e1 ⊢
    rw [if_neg fun z=>en (nmo_inj hr hr hn h1 z).2] at e3'
    refine c1_2 (I.un p hr n hn kp k0 e1 e3') fun v hv b=>?_
    exact ⟨v,hv,bp b⟩
  ·rw [fset_ne _ _ e] at e1 ⊢
   rw [if_neg fun z=>e (nmo_inj hr hp hn h1 z).1] at e3'
   refine c1_2 (I.un r hr n hn kp k0 e1 e3') fun v hv b=>?_
   exact ⟨v,hv,bp b⟩
 ·intro r hr
  rw [ehs]
  by_cases e:r=p
  ·have e:=e.symm;subst e;rw [fset_self,List.length_append];have:=I.hsl p hr;simp;lia
  ·rw [fset_ne _ _ e];exact Nat.le_succ_of_le (I.hsl r hr)
 ·intro r hr
  rw [eun]
  by_cases e:r=p
  ·have e:=e.symm;subst e;rw [fset_self];exact Nat.le_trans (uset_len ..) (Nat.succ_le_succ (I.unl p hr))
  ·rw [fset_ne _ _ e];exact Nat.le_succ_of_le (I.unl r hr)
 ·rw [eD0,eDp]
  have:=I.sp
  have q0:(S.D0.mk1 (nmo p one)).spent=S.D0.spent+1:=rfl
  have qp:((S.Dp p).mk1 one).spent=(S.Dp p).spent+1:=rfl
  rw [q0]
  have:=sum_fset S.Dp p _ hp qp
  lia
theorem inv_turn{N:Nm}{t p:Nat}{S S':LS}{oct:Array UInt8}(hN:NameOk N)(I:Inv N t S)(hp:p<2)(ho:oct.size≤3)(T:Turn N p oct S S'):Inv N (t+1) S':=by
 cases T with
 | same=>exact I.mono (Nat.le_succ t)
 | make h1=>exact I.make hN hp h1
 | append hh=>exact I.append hp ho hh
 | sync hh=>exact I.sync hp hh
 | rename h1 h2 hf hv=>exact I.rename hN hp h1 h2 hf hv
 | remove h1 hf=>exact I.remove hN hp h1 hf
 | reopen h1 hf hv=>exact I.reopen hN hp h1 hf hv
 | close hh=>exact I.close hp
 | syncDir=>exact I.syncDir hp
theorem view0(D:Dk)(d:Dir):viewOf D d U0=[(s0,atN D d s0),(aX,atN D d aX),(aY,atN D d aY),(bX,atN D d bX),(bY,atN D d bY)]:=rfl
theorem view1(D:Dk)(d:Dir):viewOf D d U1=[(s0,atN D d s0),(sX,atN D d sX),(sY,atN D d sY)]:=rfl
theorem nmo_0x:nmo 0 sX=aX:=by decide +kernel
theorem nmo_0y:nmo 0 sY=aY:=by decide +kernel
theorem nmo_1x:nmo 1 sX=bX:=by decide +kernel
theorem nmo_1y:nmo 1 sY=bY:=by decide +kernel
theorem Inv.at{N:Nm}{t:Nat}{S:LS}(I:Inv N t S){d0:Dir}{d:Nat→Dir}(R:DRel S.C d0 d){p:Nat}(hp:p<2){n:Str}(hn:isN n):atN S.D0 d0 (nmo p n)=atN (S.Dp p) (d p) n:=by
 unfold atN
 rcases R.r p hp n hn with ⟨a,b⟩ | ⟨kp,k0,a,b,c⟩
 ·rw [a,b];rfl
 ·rw [a,b]
  obtain ⟨_,_,nn,q1,q2⟩:=I.cn p hp _ c
  unfold ndOf
  rw [Option.map_some,Option.map_some,q1,q2]
theorem Inv.at0{N:Nm}{t:Nat}{S:LS}(I:Inv N t S){d0:Dir}{d:Nat→Dir}(R:DRel S.C d0 d):atN S.D0 d0 s0=some ⟨#[],0⟩:=by
 unfold atN ndOf
 rw [R.z0,Option.map_some,I.d0.one];rfl
theorem Inv.atp{N:Nm}{t:Nat}{S:LS}(I:Inv N t S){d0:Dir}{d:Nat→Dir}(R:DRel S.C d0 d){p:Nat}(hp:p<2):atN (S.Dp p) (d p) s0=some ⟨#[],0⟩:=by
 unfold atN ndOf
 rw [R.z p hp,Option.map_some,(I.dp p hp).one];rfl
theorem Inv.views{N:Nm}{t:Nat}{S:LS}(I:Inv N t S){d0:Dir}{d:Nat→Dir}(R:DRel S.C d0 d):∃ u v w z,
  viewOf S.D0 d0 U0=[(s0,some ⟨#[],0⟩),(aX,u),(aY,v),(bX,w),(bY,z)]∧viewOf (S.Dp 0) (d 0) U1=[(s0,some ⟨#[],0⟩),(sX,u),(sY,v)]∧viewOf (S.Dp 1) (d 1) U1=[(s0,some ⟨#[],0⟩),(sX,w),(sY,z)]:=by
 refine ⟨atN S.D0 d0 aX,atN S.D0 d0 aY,atN S.D0 d0 bX,atN S.D0 d0 bY,?_,?_,?_⟩
 ·rw [view0,I.at0 R]
 ·have h1:=I.at R (p:=0) (by decide) (n:=sX) (.inl rfl)
  have h2:=I.at R (p:=0) (by decide) (n:=sY) (.inr rfl)
  rw [nmo_0x] at h1
  rw [nmo_0y] at h2
  rw [view1,I.atp R (by decide),← h1,← h2]
 ·have h1:=I.at R (p:=1) (by decide) (n:=sX) (.inl rfl)
  have h2:=I.at R (p:=1) (by decide) (n:=sY) (.inr rfl)
  rw [nmo_1x] at h1
  rw [nmo_1y] at h2
  rw [view1,I.atp R (by decide),← h1,← h2]
theorem Q0_eq{N:Nm}(hN:NameOk N):N.Q 0=[sA]:=by unfold Nm.Q;rw [hN.q0,hN.p0];rfl
theorem rowsV_U0{D:Dk}{d:Dir}:∀ r∈rowsV (viewOf D d U0),r.1∈U0:=by
 intro r hr
 unfold rowsV at hr
 refine c1_2 (List.mem_filterMap.mp hr) fun e he h=>?_
 unfold viewOf at he
 refine c1_2 (List.mem_map.mp he) ?_;rintro n hn rfl
 refine c1_2 (Option.map_eq_some_iff.mp h) ?_;rintro nd _ rfl
 exact hn
theorem cutV_U0{row:List Int}:∀ (l:List (Str×Option Nd)) (q:Nat),(∀ e∈l,e.1∈U0)→∀ r∈cutV row q l,r.1∈U0
 | [],q,_,r,hr=>by cases hr
 | (n,none)::l,q,h,r,hr=>cutV_U0 l q (fun e he=>h e (List.mem_cons_of_mem _ he)) r hr
 | (n,some nd)::l,q,h,r,hr=>by
  rcases List.mem_cons.mp hr with rfl | hr
  ·exact h (n,some nd) (List.mem_cons_self ..)
  ·exact cutV_U0 l (q+1) (fun e he=>h e (List.mem_cons_of_mem _ he)) r hr
theorem view_U0{D:Dk}{d:Dir}:∀ e∈viewOf D d U0,e.1∈U0:=by
 intro e he
 unfold viewOf at he
 refine c1_2 (List.mem_map.mp he) ?_;rintro n hn rfl
 exact hn
theorem U_len{U:List Str}(h:U=U0∨U=U1):(∀ n∈U,n.length≤500)∧U.length≤5:=by
 rcases h with rfl | rfl
 ·exact ⟨by decide +kernel,by decide⟩
 ·exact ⟨by decide +kernel,by decide⟩
theorem RowIn.ok{D:Dk}{U:List Str}(hU:U=U0∨U=U1)(h:RowIn D U):RowOk D :=
 ⟨h.has,by have:=h.len;have:=(U_len hU).2;lia,fun n hn=>(U_len hU).1 n (h.keys n hn)⟩
theorem names_rows(D:Dk):snames (keysD D.pres)=(rowsOf D).map (·.1):=by
 unfold rowsOf
 rw [List.map_map]
 exact (List.map_id _).symm
theorem strip1_rows(q:Str)(l:List (Str×Array UInt8)):strip1 q (l.map (·.1))=(stripR1 q l).map (·.1):=by
 unfold strip1 stripR1;rw [List.filter_map,List.map_map,List.map_map];rfl
theorem strips_rows:∀ (qs:List Str) (l:List (Str×Array UInt8)),strips qs (l.map (·.1))=(stripRs qs l).map (·.1)
 | [],l=>rfl
 | q::qs,l=>by
  show strips qs (strip1 q (l.map (·.1)))=(stripRs qs (stripR1 q l)).map (·.1)
  rw [strip1_rows,strips_rows qs]
theorem Inv.rows0{N:Nm}{t:Nat}{S:LS}(I:Inv N t S):rowsOf S.D0=rowsV (viewOf S.D0 S.D0.pres U0):=rows_view U0_rising I.now.u0
theorem Inv.rowsp{N:Nm}{t:Nat}{S:LS}(I:Inv N t S){p:Nat}(hp:p<2):rowsOf (S.Dp p)=rowsV (viewOf (S.Dp p) (S.Dp p).pres U1):=rows_view U1_rising (I.now.u p hp)
theorem Inv.part{N:Nm}{t:Nat}{S:LS}(hN:NameOk N)(I:Inv N t S){p:Nat}(hp:p<2):stripRs (N.Q p) (rowsOf S.D0)=(rowsOf (S.Dp p)).drop 1:=by
 refine c4_3 (I.views I.now) fun u v w z v0 v1 v2=>?_
 rw [I.rows0,I.rowsp hp]
 rcases two_cases hp with rfl | rfl
 ·rw [Q0_eq hN,v0,v1]
  exact row_first
 ·have:N.Q 1=N.qs 1++[N.pq 1]:=rfl
  rw [this,strip_second hN.q1 _ rowsV_U0,v0,v2]
  exact row_second
theorem Inv.alike{N:Nm}{t:Nat}{S:LS}(hN:NameOk N)(I:Inv N t S)(ht:t≤6):AlikeOk N S where
 al p hp:=by
  have hw:=I.d0.wf ht
  have hwp:=(I.dp p hp).wf ht
  have same:∀ n,isN n→SameAt S.D0 (S.Dp p) (pre (N.Q p) n) n:=by
   intro n hn
   rw [pre_nmo hN hp hn]
   rcases I.now.r p hp n hn with ⟨a,b⟩ | ⟨kp,k0,a,b,c⟩
   ·exact .inl ⟨a,b⟩
   ·obtain ⟨_,_,nn,q1,q2⟩:=I.cn p hp _ c
    exact .inr ⟨k0,kp,nn.data,b,a,⟨nn.kept,q1⟩,⟨nn.kept,q2⟩⟩
  have hrow:=I.part hN hp
  refine ⟨hw.alive,hwp.alive,hw.has,hwp.has,by have:=hw.lp;lia,by have:=hwp.lp;lia,?_,hrow,?_,?_,same sX (.inl rfl),same sY (.inr rfl)⟩
  ·have hz:=I.now.z p hp
   cases e:(S.Dp p).pres with
   | nil=>rw [e] at hz;exact nos hz
   | cons a l=>rw [List.length_cons];lia
  ·rw [names_rows,names_rows,strips_rows,hrow,List.map_drop]
  ·intro n hn
   exact (U_len (.inl rfl)).1 n (I.now.u0.sub n ((keys_mem n _).mp hn))
 hd p hp h hh:=by
  have b:=I.hs p hp h hh
  obtain ⟨_,h2,nn,e1,e2⟩:=I.cn p hp _ b.c
  dsimp only at h2 e1 e2
  refine c1_3 (I.d0.nd h.k0 (by lia) h2.2) fun nn' e3 hs _=>?_
  rw [e1] at e3
  cases e3
  exact ⟨nn.data,⟨nn.kept,e1⟩,⟨nn.kept,e2⟩,by lia⟩
 hl p hp:=by have:=I.hsl p hp;lia
 sp:=I.sp
theorem Inv.row{N:Nm}{t:Nat}{S:LS}(I:Inv N t S)(ht:t≤6):RowOk S.D0 :=
 ⟨(I.d0.wf ht).has,by have:=(I.d0.wf ht).lp;lia,fun n hn=>(U_len (.inl rfl)).1 n (I.now.u0.sub n ((keys_mem n _).mp hn))⟩
theorem cut_ok{D:Dk}{H:List Stp}{sf t:Nat}{U:List Str}(h:DkH D H sf t)(ht:t≤6)(hU:U=U0∨U=U1)(hr:Rising U)(hu:∀ j,sf≤j→j≤H.length→Univ U (plays (H.take j) dinit))(ps:List Int) :
  CutOk D ps∧RowIn (D.cut ps) U:=by
 have W:=h.wf ht
 refine c1_3 (h.cutDir ((cutRow ps).getD 0 0)) fun j j1 j2 e=>?_
 have hH:=h.has (by lia) j1 j2
 rw [← e] at hH
 have hv:=hu j j1 j2
 rw [← e] at hv
 refine c0_2 (rows_cut (ps:=ps) hr hv hH) fun _ r=>?_
 exact ⟨⟨W.fits,by have:=W.lj;lia,by have:=W.lk;lia,hH,r.ok hU⟩,r⟩
theorem cnt_onto(p:Nat):∀ (l:List Nat) (k:Nat),k≤cnt p l→∃ j≤l.length,cnt p (l.take j)=k
 | l,0,_=>⟨0,Nat.zero_le _,by rw [List.take_zero];rfl⟩
 | [],k+1,h=>by cases h
 | a::r,k+1,h=>by
  by_cases e:a=p
  ·have h':k≤cnt p r:=by
    unfold cnt at h ⊢
    simp [e] at h
    exact h
   refine c1_2 (cnt_onto p r k h') fun j hj hc=>?_
   refine ⟨j+1,by rw [List.length_cons];lia,?_⟩
   rw [List.take_succ_cons]
   unfold cnt at hc ⊢
   simp [e,hc]
  ·have h':k+1≤cnt p r:=by
    unfold cnt at h ⊢
    simp [e] at h
    exact h
   refine c1_2 (cnt_onto p r (k+1) h') fun j hj hc=>?_
   refine ⟨j+1,by rw [List.length_cons];lia,?_⟩
   rw [List.take_succ_cons]
   unfold cnt at hc ⊢
   simp [e,hc]
theorem Inv.own{N:Nm}{t p:Nat}{S:LS}(I:Inv N t S)(hp:p<2){k:Nat}(hk:k≤(S.Hp p).length):∃ d0 d,DRel S.C d0 d∧d p=plays ((S.Hp p).take k) dinit:=by
 rw [I.len p hp] at hk
 refine c1_2 (cnt_onto p S.ow k hk) fun j hj hc=>?_
 exact ⟨_,_,I.dir j (by rw [← I.ol];exact hj),by show plays ((S.Hp p).take (cnt p (S.ow.take j))) dinit=_;rw [hc]⟩
theorem cutRow_cons(a:Int)(l:List Int):cutRow (a::l)=a::l:=by unfold cutRow;rw [if_pos (by simp)]
theorem Inv.cutsEq{N:Nm}{t p j:Nat}{S:LS}(I:Inv N t S)(ht:t≤6)(hp:p<2)(hj:j≤S.ow.length - S.sf)(l:List Int) :
  rowsOf ((S.Dp p).cut (stepsOf S p j::l))=cutV (stepsOf S p j::l) 0 (viewOf (S.Dp p) (plays ((S.Hp p).take (cnt p (S.ow.take (S.sf+j)))) dinit) U1):=by
 have hk:S.kp p≤cnt p (S.ow.take (S.sf+j)):=Nat.le_trans (I.kp p hp) (cnt_take_le p S.ow (Nat.le_add_right ..))
 have hle:=cnt_le p S.ow (S.sf+j)
 have hlen:=I.len p hp
 have e:stepsOf S p j=((cnt p (S.ow.take (S.sf+j)) - S.kp p:Nat):Int):=by unfold stepsOf;exact (Int.ofNat_sub hk).symm
 have hd:=(I.dp p hp).cutDir_at (k:=cnt p (S.ow.take (S.sf+j)) - S.kp p) (by rw [Nat.add_sub_cancel' hk,hlen];exact hle)
 rw [← e,Nat.add_sub_cancel' hk] at hd
 have hd':cutDir (S.Dp p) ((cutRow (stepsOf S p j::l)).getD 0 0)=plays ((S.Hp p).take (cnt p (S.ow.take (S.sf+j)))) dinit:=by rw [cutRow_cons];exact hd
 refine c2_2 (I.own hp (k:=cnt p (S.ow.take (S.sf+j))) (by rw [hlen];exact hle)) fun d0 d R ed=>?_
 have hu:=R.u p hp
 rw [ed,← hd'] at hu
 have hH:=(I.dp p hp).has (j:=cnt p (S.ow.take (S.sf+j))) (by lia) hk (by rw [hlen];exact hle)
 rw [← hd'] at hH
 have:=(rows_cut U1_rising hu hH).1
 rw [hd',cutRow_cons] at this
 exact this
theorem Inv.sfj{N:Nm}{t j:Nat}{S:LS}(I:Inv N t S)(hj:j≤S.ow.length - S.sf):S.sf+j≤S.H.length:=by
 have hsf:=I.d0.sfl
 rw [I.ol] at hj;lia
theorem Inv.cuts0{N:Nm}{t j:Nat}{S:LS}(I:Inv N t S)(ht:t≤6)(hj:j≤S.ow.length - S.sf)(l:List Int) :
  rowsOf (S.D0.cut ((j:Int)::l))=cutV ((j:Int)::l) 0 (viewOf S.D0 (plays (S.H.take (S.sf+j)) dinit) U0):=by
 have hq:=I.sfj hj
 have hd':cutDir S.D0 ((cutRow ((j:Int)::l)).getD 0 0)=plays (S.H.take (S.sf+j)) dinit:=by rw [cutRow_cons];exact I.d0.cutDir_at hq
 have hu:=(I.dir (S.sf+j) hq).u0
 rw [← hd'] at hu
 have hH:=I.d0.has (j:=S.sf+j) (by lia) (Nat.le_add_right ..) hq
 rw [← hd'] at hH
 have:=(rows_cut U0_rising hu hH).1
 rw [hd',cutRow_cons] at this
 exact this
theorem four{es:List Int}(h:es.length=4):∃ a b c d,es=[a,b,c,d] :=
 c2_2 (lc h) fun a _ e h=>c2_2 (lc h) fun b _ e' h=>c2_1 (len_two h) fun c d e2=>⟨a,b,c,d,by rw [e,e',e2]⟩
theorem Inv.cuts{N:Nm}{t:Nat}{S:LS}(hN:NameOk N)(I:Inv N t S)(ht:t≤6):CutsOk N S where
 c0 ps:=(cut_ok I.d0 ht (.inl rfl) U0_rising (fun j _ j2=>(I.dir j j2).u0) ps).1
 cp p hp ps:=(cut_ok (I.dp p hp) ht (.inr rfl) U1_rising (fun j _ j2=>by refine c2_2 (I.own hp j2) fun _ _ R e=>?_;rw [← e];exact R.u p hp) ps).1
 one p hp ps:=by
  refine c1_3 ((I.dp p hp).cutDir ((cutRow ps).getD 0 0)) fun j j1 j2 e=>?_
  refine c2_2 (I.own hp j2) fun _ _ R ed=>?_
  have hu:=R.u p hp
  have hz:=R.z p hp
  have hH:=(I.dp p hp).has (j:=j) (by lia) j1 j2
  rw [ed,← e] at hu hz
  rw [← e] at hH
  have h:=(rows_cut (ps:=ps) U1_rising hu hH).1
  rw [← rowsOf_len,h,view1]
  have:atN (S.Dp p) (cutDir (S.Dp p) ((cutRow ps).getD 0 0)) s0=some (ndOf (S.Dp p) 1):=by unfold atN;rw [hz];rfl
  rw [this]
  show 1≤(_::_).length
  rw [List.length_cons]
  lia
 sf:=by rw [I.ol];exact I.d0.sfl
 ol:=by rw [I.ol];have:=I.d0.hl;lia
 eq0 es j he hj:=by
  refine c4_1 (four he) ?_;rintro a b c d rfl
  refine c4_3 (I.views (I.dir (S.sf+j) (I.sfj hj))) fun u v w z v0 v1 v2=>?_
  unfold partOf
  rw [I.cuts0 ht hj,List.drop_zero,I.cutsEq ht (by decide) hj,Q0_eq hN,v0,v1]
  exact cut_first
 eq1 es j he hj:=by
  refine c4_1 (four he) ?_;rintro a b c d rfl
  refine c4_3 (I.views (I.dir (S.sf+j) (I.sfj hj))) fun u v w z v0 v1 v2=>?_
  unfold partOf
  have:N.Q 1=N.qs 1++[N.pq 1]:=rfl
  rw [I.cuts0 ht hj,List.drop_zero,I.cutsEq ht (by decide) hj,I.cutsEq ht (by decide) hj,this,strip_second hN.q1 _ (cutV_U0 _ _ view_U0),v0,v1,v2]
  exact cut_second
 pl es j:=by
  have r:=(cut_ok (I.dp 0 (by decide)) ht (.inr rfl) U1_rising (fun j _ j2=>by refine c2_2 (I.own (p:=0) (by decide) j2) fun _ _ R e=>?_;rw [← e];exact R.u 0 (by decide)) (stepsOf S 0 j::es.drop 0)).2
  unfold partOf
  rw [List.length_drop,rowsOf_len]
  exact Nat.le_trans (Nat.sub_le ..) (Nat.le_trans r.len (nle rfl))
theorem view_congr{D D':Dk}{d:Dir}{U:List Str}(h:∀ n k,dget n d=some k→D'.nd k=D.nd k):viewOf D' d U=viewOf D d U:=by
 unfold viewOf
 refine List.map_congr_left fun n _=>?_
 unfold atN
 cases e:dget n d with
 | none=>rfl
 | some k=>rw [Option.map_some,Option.map_some];unfold ndOf;rw [h n k e]
theorem copy_nd{D:Dk}{k:Nat}(h:k∈D.reg):D.copyD.nd k=D.nd k:=by
 show (if k∈snums D.reg then D.nd k else none)=D.nd k
 rw [if_pos ((snums_perm D.reg).mem_iff.mpr h)]
theorem copy_reg{D:Dk}{k:Nat}:k∈D.copyD.reg↔k∈D.reg:=(snums_perm D.reg).mem_iff
theorem copy_cutDir(D:Dk)(r:Int):cutDir D.copyD r=cutDir D r:=rfl
theorem Inv.copy{N:Nm}{t:Nat}{S:LS}(I:Inv N t S)(ht:t≤6):CopyOk S.D0:=by
 have W:=I.d0.wf ht
 have hasC:∀ {d:Dir},S.D0.Has d→S.D0.copyD.Has d:=fun h=>⟨fun n k e=>copy_reg.mpr (h.reg n k e),fun n k e=>by rw [copy_nd (h.reg n k e)];exact h.nd n k e⟩
 have ur:=I.now.u0
 have cut:∀ ps,CutOk S.D0.copyD ps∧rowsOf (S.D0.copyD.cut ps)=rowsOf (S.D0.cut ps):=by
  intro ps
  refine c1_3 (I.d0.cutDir ((cutRow ps).getD 0 0)) fun j j1 j2 e=>?_
  have hH:=I.d0.has (by lia) j1 j2
  rw [← e] at hH
  have hv:=(I.dir j j2).u0
  rw [← e] at hv
  refine c0_2 (rows_cut (ps:=ps) U0_rising hv hH) fun a _=>?_
  refine c0_2 (rows_cut (D:=S.D0.copyD) (ps:=ps) U0_rising hv (hasC hH)) fun b r=>?_
  refine ⟨⟨W.fits,by have:=W.lj;show S.D0.jour.length≤20;lia,by have:=W.lk;show S.D0.kept.length≤20;lia,hasC hH,r.ok (.inl rfl)⟩,?_⟩
  rw [a,b,copy_cutDir,view_congr fun n k e=>copy_nd (hH.reg n k e)]
 refine ⟨I.d0.regn,fun k hk=>?_,by have:=W.lr;lia,by have:=W.lk;lia,by have:=W.lp;lia,by have:=W.lj;lia,?_,fun ps=>(cut ps).1,?_,fun ps=>(cut ps).2⟩
 ·refine c0_2 (I.d0.regb k hk) fun h1 h2=>?_
  refine c1_3 (I.d0.nd k h1 h2) fun nn a b _=>?_
  exact ⟨h1,h2,nn,a,by lia⟩
 ·have:=I.row ht
  exact ⟨hasC this.has,this.l,this.small⟩
 ·have e:rowsOf S.D0.copyD=rowsV (viewOf S.D0.copyD S.D0.pres U0):=rows_view (D:=S.D0.copyD) U0_rising ur
  rw [e,I.rows0,view_congr fun n k e=>copy_nd (W.has.reg n k e)]
theorem sevens_take{l:Nat}(h:l≤2):#[]++takeB (sevens (l+1)) l=sevens l:=by
 rcases (by lia:l=0∨l=1∨l=2) with rfl | rfl | rfl <;> decide +kernel
theorem Inv.dead0{N:Nm}{t:Nat}{S:LS}(hN:NameOk N)(I:Inv N t S)(ht:t≤6)(n:Str):DeadOk N S 0 (deadOf S.D0 0 n):=by
 have e:deadOf S.D0 0 n={ S.D0 with left:=0,alive:=false }:=by unfold deadOf;rw [if_pos rfl]
 rw [e]
 have C:=(I.cuts hN ht).c0 []
 have R:=I.row ht
 refine ⟨rfl,by show S.D0.spent=S.D0.spent+((0:Nat):Int);simp,⟨⟨R.has.reg,R.has.nd⟩,R.l,R.small⟩,rfl,?_,⟨C.fits,C.lj,C.lk,⟨C.has.reg,C.has.nd⟩,C.row⟩,fun p hp=>rfl⟩
 unfold restOf
 rw [if_pos rfl]
 rfl
section
variable{e:Nd}{u v w z:Option Nd}{nn:Nd}
theorem row_first'(w':Option Nd):stripRs [sA] (rowsV [(s0,some e),(aX,u),(aY,v),(bX,w),(bY,z)])=stripRs [sA] (rowsV [(s0,some e),(aX,u),(aY,v),(bX,w'),(bY,z)]):=by
 rw [row_first (e':=e),row_first (e':=e)]
theorem row_rest:stripRs [sB] (rowsV [(s0,some e),(aX,u),(aY,v),(bX,some nn),(bY,z)])=(sX,nn.data)::(stripRs [sB] (rowsV [(s0,some e),(aX,u),(aY,v),(bX,w),(bY,z)])).filter fun r=>r.1 != sX:=by
 rw [row_second (e':=e),row_second (e':=e)]
 have hy:(sY != sX)=true:=by decide +kernel
 have hx:(sX != sX)=false:=by decide +kernel
 cases w <;> cases z <;> simp only [rowsV,List.filterMap_cons,List.filterMap_nil,Option.map_some,Option.map_none,List.drop_succ_cons,List.drop_zero,List.filter_cons,List.filter_nil,hx,hy,if_true,Bool.false_eq_true,if_false]
end
theorem Inv.dead1{N:Nm}{t l:Nat}{S:LS}(hN:NameOk N)(I:Inv N t S)(ht:t≤6)(hl:l≤2):DeadOk N S (l+1) (deadOf S.D0 (l+1) (pre (N.Q 1) sX)):=by
 have hpre:pre (N.Q 1) sX=bX:=(pre_nmo hN (by decide) (.inl rfl)).trans nmo_1x
 rw [hpre,deadOf_succ]
 generalize hD2:({ ((Dk.mk1 { S.D0 with left:=(l:Int) } bX).put (S.D0.made+1) ⟨#[]++takeB (sevens (l+1)) l,0⟩) with left:=0,spent:=S.D0.spent+1+(l:Int),alive:=false }:Dk)=D2
 have ea:D2.alive=false:=by rw [← hD2]
 have es:D2.spent=S.D0.spent+1+(l:Int):=by rw [← hD2]
 have ep:D2.pres=dset bX (S.D0.made+1) S.D0.pres:=by rw [← hD2] <;> rfl
 have ek:D2.kept=S.D0.kept:=by rw [← hD2] <;> rfl
 have ej:D2.jour=S.D0.jour++[⟨1,bX,Str.ofString "",S.D0.made+1⟩]:=by rw [← hD2] <;> rfl
 have er:D2.reg=S.D0.reg++[S.D0.made+1]:=by rw [← hD2] <;> rfl
 have en:D2.nd (S.D0.made+1)=some ⟨sevens l,0⟩:=by
  rw [← hD2]
  show (if S.D0.made+1=S.D0.made+1 then some (⟨#[]++takeB (sevens (l+1)) l,0⟩:Nd) else _)=_
  rw [if_pos rfl,sevens_take hl]
 have eo:∀ k,k∈S.D0.reg→D2.nd k=S.D0.nd k:=by
  intro k hk
  have:=(I.d0.regb k hk).2
  rw [← hD2]
  show (if k=S.D0.made+1 then _ else if k=S.D0.made+1 then _ else S.D0.nd k)=_
  rw [if_neg (by lia),if_neg (by lia)]
 clear hD2
 have W:=I.d0.wf ht
 have ur:=I.now.u0
 have hasK:∀ {d:Dir},S.D0.Has d→D2.Has d:=fun h=>⟨fun n k e=>by rw [er];exact List.mem_append_left _ (h.reg n k e),fun n k e=>by rw [eo k (h.reg n k e)];exact h.nd n k e⟩
 have u2:Univ U0 D2.pres:=by rw [ep];exact ur.dset (by unfold U0;simp)
 have hasP:D2.Has D2.pres:=by
  rw [ep]
  refine ⟨fun n k e=>?_,fun n k e=>?_⟩
  ·rw [dget_dset] at e
   split at e
   ·cases e;rw [er];simp
   ·exact (hasK W.has).reg n k e
  ·rw [dget_dset] at e
   split at e
   ·cases e;exact ⟨_,en,by show (sevens l).size≤800;rw [sevens_size];lia,Nat.zero_le _⟩
   ·exact (hasK W.has).nd n k e
 have vat:∀ n,n≠bX→atN D2 D2.pres n=atN S.D0 S.D0.pres n:=by
  intro n hn
  unfold atN
  rw [ep,dget_dset,if_neg hn]
  cases e:dget n S.D0.pres with
  | none=>rfl
  | some k=>rw [Option.map_some,Option.map_some];unfold ndOf;rw [eo k (W.has.reg n k e)]
 have vbx:atN D2 D2.pres bX=some ⟨sevens l,0⟩:=by
  unfold atN
  rw [ep,dget_dset,if_pos rfl,Option.map_some]
  unfold ndOf
  rw [en];rfl
 have view2:viewOf D2 D2.pres U0=[(s0,some ⟨#[],0⟩),(aX,atN S.D0 S.D0.pres aX),(aY,atN S.D0 S.D0.pres aY),(bX,some ⟨sevens l,0⟩),(bY,atN S.D0 S.D0.pres bY)]:=by
  rw [view0,vbx,vat s0 (by decide +kernel),vat aX (by decide +kernel),vat aY (by decide +kernel),vat bY (by decide +kernel),I.at0 I.now]
 have view1':viewOf S.D0 S.D0.pres U0=[(s0,some ⟨#[],0⟩),(aX,atN S.D0 S.D0.pres aX),(aY,atN S.D0 S.D0.pres aY),(bX,atN S.D0 S.D0.pres bX),(bY,atN S.D0 S.D0.pres bY)]:=by
  rw [view0,I.at0 I.now]
 have rows2:rowsOf D2=rowsV (viewOf D2 D2.pres U0):=rows_view U0_rising u2
 have hQ1:N.Q 1=N.qs 1++[N.pq 1]:=rfl
 have hlen:D2.pres.length<60:=by rw [ep];have:=dset_len bX (S.D0.made+1) S.D0.pres;have:=W.lp;lia
 have hc0:∀ D:Dk,cutDir D ((cutRow []).getD 0 0)=D.kept:=by
  intro D
  show cutDir D 0=D.kept
  unfold cutDir
  have:(0:Int).fmod ((D.jour.length:Int)+1)=0:=by rw [Int.fmod_eq_emod_of_nonneg _ (by lia)];exact Int.zero_emod _
  rw [this]
  rfl
 have hH:S.D0.Has S.D0.kept:=by rw [I.d0.kept];exact I.d0.has (by lia) (Nat.le_refl _) I.d0.sfl
 have hv:Univ U0 S.D0.kept:=by rw [I.d0.kept];exact (I.dir S.sf I.d0.sfl).u0
 refine c0_2 (rows_cut (D:=S.D0) (ps:=[]) U0_rising (by rw [hc0];exact hv) (by rw [hc0];exact hH)) fun ca _=>?_
 refine c0_2 (rows_cut (D:=D2) (ps:=[]) U0_rising (by rw [hc0,ek];exact hv) (by rw [hc0,ek];exact hasK hH)) fun cb rb=>?_
 have ceq:rowsOf (D2.cut [])=rowsOf (S.D0.cut []):=by
  rw [ca,cb,hc0,hc0,ek,view_congr fun n k e=>eo k (hH.reg n k e)]
 refine ⟨ea,by rw [es];lia,⟨hasP,hlen,fun n hn=>(U_len (.inl rfl)).1 n (u2.sub n ((keys_mem n _).mp hn))⟩,?_,?_,⟨?_,?_,?_,?_,rb.ok (.inl rfl)⟩,fun p hp=>by rw [ceq]⟩
 ·show _=stripRs (N.Q 0) (rowsOf S.D0)
  rw [rows2,view2,I.rows0,view1',Q0_eq hN]
  exact row_first' _
 ·unfold restOf part0
  rw [if_neg (Nat.succ_ne_zero l),rows2,I.rows0,hQ1,strip_second hN.q1 _ rowsV_U0,strip_second hN.q1 _ rowsV_U0,view2,view1']
  exact row_rest
 ·rw [ej,ek];exact fits_append W.fits (.inl rfl)
 ·rw [ej,List.length_append];have:=W.lj;simp;lia
 ·rw [ek];have:=W.lk;lia
 ·rw [hc0,ek];exact hasK hH
theorem Inv.fin{N:Nm}{t:Nat}{S:LS}(hN:NameOk N)(I:Inv N t S)(ht:t≤6):FinOk N S :=
 ⟨I.alike hN ht,I.cuts hN ht,I.copy ht,I.row ht,hN.q0,I.d0.wf ht,fun bg hb=>by
  cases bg with
  | zero=>exact I.dead0 hN ht _
  | succ l=>exact I.dead1 hN ht (by lia)⟩
theorem inv_ok:InvOk Inv:=⟨fun N _=>inv_start N,fun N t S p oct S' hN I _ hp ho T=>inv_turn hN I hp ho T,fun N t S hN I ht=>I.good hN ht,fun N t S hN I ht=>I.fin hN ht⟩
theorem holds:PySem.Challenge.rw_nz0367_01.Holds:=holds_of inv_ok
end RK
theorem PySem.Challenge.cw_nz0367_01_holds : PySem.Challenge.rw_nz0367_01.Holds := by
 exact RK.holds
