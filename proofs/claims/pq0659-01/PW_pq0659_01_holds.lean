import PyProof.Rows.All
import KE.IntBitsLaws
import KE.KBytesCut
import KE.KLam
import KE.KIntText
import KE.KRevSl
import KE.KItem
import KE.KDictSum
import KE.KxDecode
import KE.KIsBytes
import OpenK.ZBase
import KE.BytesMulAny
import PySem.Challenge.RW_pq0659_01
set_option Elab.async false
set_option linter.all false
set_option compiler.extract_closed false
set_option bootstrap.genMatcherCode false
set_option genSizeOf false
set_option genInjectivity false
set_option tactic.hygienic false
set_option maxRecDepth 1000000
set_option maxHeartbeats 0
set_option autoImplicit false

namespace Mine.Internal
open PySem PySem.W PyProof.Rows PySem.SeqAt
noncomputable section
variable{a b:Prop}
section
universe u
theorem al_beq{n m:Nat}(h:n.beq m=true):n=m:=Nat.eq_of_beq_eq_true h
theorem al_ble{n m:Nat}(h:n.ble m=true):n≤m:=Nat.le_of_ble_eq_true h
theorem al_mem{α:Type}{l:List α}{i:Nat}{a:α}(h:l[i]?=some a):a∈l:=List.mem_of_getElem? h
theorem al_inj{α:Type u}{a b:α}(h:some a=some b):a=b:=Option.some.inj h
theorem al_all{α:Type}{p:α→Bool}{l:List α}(h:l.all p=true):∀x∈l,p x=true:=List.all_eq_true.mp h
theorem al_con{α:Type}(y:α){a:α}{l:List α}(h:a∈l):a∈y::l:=List.mem_cons_of_mem y h
theorem al_self{α:Type}{a:α}{l:List α}:a∈a::l:=List.mem_cons_self
theorem al_mc{α:Type}{a b:α}{l:List α}(h:a∈b::l):a=b∨a∈l:=List.mem_cons.mp h
variable{α:Sort u}{β γ δ ε:Type}{P:Prop}
theorem dm{a:α→Prop}(h:∃x0,a x0)(k:∀x0,a x0→P):P:=h.elim k
theorem Fz{a:α→β→Prop}(h:∃x0 x1,a x0 x1)(k:∀x0 x1,a x0 x1→P):P:=h.elim fun x h=>dm h (k x)
theorem NG{a:α→β→γ→Prop}(h:∃x0 x1 x2,a x0 x1 x2)(k:∀x0 x1 x2,a x0 x1 x2→P):P:=h.elim fun x h=>Fz h (k x)
theorem Kj{a:α→β→γ→δ→Prop}(h:∃x0 x1 x2 x3,a x0 x1 x2 x3)(k:∀x0 x1 x2 x3,a x0 x1 x2 x3→P):P:=h.elim fun x h=>NG h (k x)
theorem Ax{a:α→β→γ→δ→ε→Prop}(h:∃x0 x1 x2 x3 x4,a x0 x1 x2 x3 x4)(k:∀x0 x1 x2 x3 x4,a x0 x1 x2 x3 x4→P):P:=h.elim fun x h=>Kj h (k x)
theorem aw(h:a∧b)(k:a→b→P):P:=k h.1 h.2
theorem aC{a b:α→Prop}(h:∃x0,a x0∧b x0)(k:∀x0,a x0→b x0→P):P:=h.elim fun x h=>aw h (k x)
theorem d9{a b:α→β→Prop}(h:∃x0 x1,a x0 x1∧b x0 x1)(k:∀x0 x1,a x0 x1→b x0 x1→P):P:=h.elim fun x h=>aC h (k x)
theorem ml{a b:α→β→γ→Prop}(h:∃x0 x1 x2,a x0 x1 x2∧b x0 x1 x2)(k:∀x0 x1 x2,a x0 x1 x2→b x0 x1 x2→P):P:=h.elim fun x h=>d9 h (k x)
theorem H8{a b:α→β→γ→δ→Prop}(h:∃x0 x1 x2 x3,a x0 x1 x2 x3∧b x0 x1 x2 x3)(k:∀x0 x1 x2 x3,a x0 x1 x2 x3→b x0 x1 x2 x3→P):P:=h.elim fun x h=>ml h (k x)
theorem Rl{a b:α→β→γ→δ→ε→Prop}(h:∃x0 x1 x2 x3 x4,a x0 x1 x2 x3 x4∧b x0 x1 x2 x3 x4)(k:∀x0 x1 x2 x3 x4,a x0 x1 x2 x3 x4→b x0 x1 x2 x3 x4→P):P:=h.elim fun x h=>H8 h (k x)
theorem dz{c:Prop}(h:a∧b∧c)(k:a→b→c→P):P:=aw h.2 (k h.1)
theorem lu{a b c:α→Prop}(h:∃x0,a x0∧b x0∧c x0)(k:∀x0,a x0→b x0→c x0→P):P:=h.elim fun x h=>dz h (k x)
theorem jP{a b c:α→β→Prop}(h:∃x0 x1,a x0 x1∧b x0 x1∧c x0 x1)(k:∀x0 x1,a x0 x1→b x0 x1→c x0 x1→P):P:=h.elim fun x h=>lu h (k x)
theorem Fy{a b c:α→β→γ→Prop}(h:∃x0 x1 x2,a x0 x1 x2∧b x0 x1 x2∧c x0 x1 x2)(k:∀x0 x1 x2,a x0 x1 x2→b x0 x1 x2→c x0 x1 x2→P):P:=h.elim fun x h=>jP h (k x)
theorem Rn{a b c:α→β→γ→δ→Prop}(h:∃x0 x1 x2 x3,a x0 x1 x2 x3∧b x0 x1 x2 x3∧c x0 x1 x2 x3)(k:∀x0 x1 x2 x3,a x0 x1 x2 x3→b x0 x1 x2 x3→c x0 x1 x2 x3→P):P:=h.elim fun x h=>Fy h (k x)
theorem VK{a b c:α→β→γ→δ→ε→Prop}(h:∃x0 x1 x2 x3 x4,a x0 x1 x2 x3 x4∧b x0 x1 x2 x3 x4∧c x0 x1 x2 x3 x4)(k:∀x0 x1 x2 x3 x4,a x0 x1 x2 x3 x4→b x0 x1 x2 x3 x4→c x0 x1 x2 x3 x4→P):P:=h.elim fun x h=>Rn h (k x)
theorem lx{c d:Prop}(h:a∧b∧c∧d)(k:a→b→c→d→P):P:=dz h.2 (k h.1)
theorem Ay{a b c d:α→Prop}(h:∃x0,a x0∧b x0∧c x0∧d x0)(k:∀x0,a x0→b x0→c x0→d x0→P):P:=h.elim fun x h=>lx h (k x)
theorem Kk{a b c d:α→β→Prop}(h:∃x0 x1,a x0 x1∧b x0 x1∧c x0 x1∧d x0 x1)(k:∀x0 x1,a x0 x1→b x0 x1→c x0 x1→d x0 x1→P):P:=h.elim fun x h=>Ay h (k x)
theorem oK{a b c d:α→β→γ→Prop}(h:∃x0 x1 x2,a x0 x1 x2∧b x0 x1 x2∧c x0 x1 x2∧d x0 x1 x2)(k:∀x0 x1 x2,a x0 x1 x2→b x0 x1 x2→c x0 x1 x2→d x0 x1 x2→P):P:=h.elim fun x h=>Kk h (k x)
theorem uT{a b c d:α→β→γ→δ→Prop}(h:∃x0 x1 x2 x3,a x0 x1 x2 x3∧b x0 x1 x2 x3∧c x0 x1 x2 x3∧d x0 x1 x2 x3)(k:∀x0 x1 x2 x3,a x0 x1 x2 x3→b x0 x1 x2 x3→c x0 x1 x2 x3→d x0 x1 x2 x3→P):P:=h.elim fun x h=>oK h (k x)
theorem VJ{a b c d:α→β→γ→δ→ε→Prop}(h:∃x0 x1 x2 x3 x4,a x0 x1 x2 x3 x4∧b x0 x1 x2 x3 x4∧c x0 x1 x2 x3 x4∧d x0 x1 x2 x3 x4)(k:∀x0 x1 x2 x3 x4,a x0 x1 x2 x3 x4→b x0 x1 x2 x3 x4→c x0 x1 x2 x3 x4→d x0 x1 x2 x3 x4→P):P:=h.elim fun x h=>uT h (k x)
theorem Kl{c d e:Prop}(h:a∧b∧c∧d∧e)(k:a→b→c→d→e→P):P:=lx h.2 (k h.1)
theorem Ql{a b c d e:α→Prop}(h:∃x0,a x0∧b x0∧c x0∧d x0∧e x0)(k:∀x0,a x0→b x0→c x0→d x0→e x0→P):P:=h.elim fun x h=>Kl h (k x)
theorem TQ{a b c d e:α→β→Prop}(h:∃x0 x1,a x0 x1∧b x0 x1∧c x0 x1∧d x0 x1∧e x0 x1)(k:∀x0 x1,a x0 x1→b x0 x1→c x0 x1→d x0 x1→e x0 x1→P):P:=h.elim fun x h=>Ql h (k x)
theorem Qk{a b c d e:α→β→γ→Prop}(h:∃x0 x1 x2,a x0 x1 x2∧b x0 x1 x2∧c x0 x1 x2∧d x0 x1 x2∧e x0 x1 x2)(k:∀x0 x1 x2,a x0 x1 x2→b x0 x1 x2→c x0 x1 x2→d x0 x1 x2→e x0 x1 x2→P):P:=h.elim fun x h=>TQ h (k x)
theorem ND{a b c d e:α→β→γ→δ→Prop}(h:∃x0 x1 x2 x3,a x0 x1 x2 x3∧b x0 x1 x2 x3∧c x0 x1 x2 x3∧d x0 x1 x2 x3∧e x0 x1 x2 x3)(k:∀x0 x1 x2 x3,a x0 x1 x2 x3→b x0 x1 x2 x3→c x0 x1 x2 x3→d x0 x1 x2 x3→e x0 x1 x2 x3→P):P:=h.elim fun x h=>Qk h (k x)
theorem TP{a b c d e:α→β→γ→δ→ε→Prop}(h:∃x0 x1 x2 x3 x4,a x0 x1 x2 x3 x4∧b x0 x1 x2 x3 x4∧c x0 x1 x2 x3 x4∧d x0 x1 x2 x3 x4∧e x0 x1 x2 x3 x4)(k:∀x0 x1 x2 x3 x4,a x0 x1 x2 x3 x4→b x0 x1 x2 x3 x4→c x0 x1 x2 x3 x4→d x0 x1 x2 x3 x4→e x0 x1 x2 x3 x4→P):P:=h.elim fun x h=>ND h (k x)
theorem Rp{c d e f:Prop}(h:a∧b∧c∧d∧e∧f)(k:a→b→c→d→e→f→P):P:=Kl h.2 (k h.1)
theorem TR{a b c d e f:α→Prop}(h:∃x0,a x0∧b x0∧c x0∧d x0∧e x0∧f x0)(k:∀x0,a x0→b x0→c x0→d x0→e x0→f x0→P):P:=h.elim fun x h=>Rp h (k x)
theorem Ro{a b c d e f:α→β→Prop}(h:∃x0 x1,a x0 x1∧b x0 x1∧c x0 x1∧d x0 x1∧e x0 x1∧f x0 x1)(k:∀x0 x1,a x0 x1→b x0 x1→c x0 x1→d x0 x1→e x0 x1→f x0 x1→P):P:=h.elim fun x h=>TR h (k x)
theorem NF{a b c d e f:α→β→γ→Prop}(h:∃x0 x1 x2,a x0 x1 x2∧b x0 x1 x2∧c x0 x1 x2∧d x0 x1 x2∧e x0 x1 x2∧f x0 x1 x2)(k:∀x0 x1 x2,a x0 x1 x2→b x0 x1 x2→c x0 x1 x2→d x0 x1 x2→e x0 x1 x2→f x0 x1 x2→P):P:=h.elim fun x h=>Ro h (k x)
theorem VM{a b c d e f:α→β→γ→δ→Prop}(h:∃x0 x1 x2 x3,a x0 x1 x2 x3∧b x0 x1 x2 x3∧c x0 x1 x2 x3∧d x0 x1 x2 x3∧e x0 x1 x2 x3∧f x0 x1 x2 x3)(k:∀x0 x1 x2 x3,a x0 x1 x2 x3→b x0 x1 x2 x3→c x0 x1 x2 x3→d x0 x1 x2 x3→e x0 x1 x2 x3→f x0 x1 x2 x3→P):P:=h.elim fun x h=>NF h (k x)
theorem TO{a b c d e f:α→β→γ→δ→ε→Prop}(h:∃x0 x1 x2 x3 x4,a x0 x1 x2 x3 x4∧b x0 x1 x2 x3 x4∧c x0 x1 x2 x3 x4∧d x0 x1 x2 x3 x4∧e x0 x1 x2 x3 x4∧f x0 x1 x2 x3 x4)(k:∀x0 x1 x2 x3 x4,a x0 x1 x2 x3 x4→b x0 x1 x2 x3 x4→c x0 x1 x2 x3 x4→d x0 x1 x2 x3 x4→e x0 x1 x2 x3 x4→f x0 x1 x2 x3 x4→P):P:=h.elim fun x h=>VM h (k x)
theorem TV{c d e f g:Prop}(h:a∧b∧c∧d∧e∧f∧g)(k:a→b→c→d→e→f→g→P):P:=Rp h.2 (k h.1)
theorem VS{a b c d e f g:α→Prop}(h:∃x0,a x0∧b x0∧c x0∧d x0∧e x0∧f x0∧g x0)(k:∀x0,a x0→b x0→c x0→d x0→e x0→f x0→g x0→P):P:=h.elim fun x h=>TV h (k x)
theorem VQ{a b c d e f g:α→β→Prop}(h:∃x0 x1,a x0 x1∧b x0 x1∧c x0 x1∧d x0 x1∧e x0 x1∧f x0 x1∧g x0 x1)(k:∀x0 x1,a x0 x1→b x0 x1→c x0 x1→d x0 x1→e x0 x1→f x0 x1→g x0 x1→P):P:=h.elim fun x h=>VS h (k x)
theorem VO{a b c d e f g:α→β→γ→Prop}(h:∃x0 x1 x2,a x0 x1 x2∧b x0 x1 x2∧c x0 x1 x2∧d x0 x1 x2∧e x0 x1 x2∧f x0 x1 x2∧g x0 x1 x2)(k:∀x0 x1 x2,a x0 x1 x2→b x0 x1 x2→c x0 x1 x2→d x0 x1 x2→e x0 x1 x2→f x0 x1 x2→g x0 x1 x2→P):P:=h.elim fun x h=>VQ h (k x)
theorem Rm{a b c d e f g:α→β→γ→δ→Prop}(h:∃x0 x1 x2 x3,a x0 x1 x2 x3∧b x0 x1 x2 x3∧c x0 x1 x2 x3∧d x0 x1 x2 x3∧e x0 x1 x2 x3∧f x0 x1 x2 x3∧g x0 x1 x2 x3)(k:∀x0 x1 x2 x3,a x0 x1 x2 x3→b x0 x1 x2 x3→c x0 x1 x2 x3→d x0 x1 x2 x3→e x0 x1 x2 x3→f x0 x1 x2 x3→g x0 x1 x2 x3→P):P:=h.elim fun x h=>VO h (k x)
theorem TU{c d e f g i:Prop}(h:a∧b∧c∧d∧e∧f∧g∧i)(k:a→b→c→d→e→f→g→i→P):P:=TV h.2 (k h.1)
theorem VR{a b c d e f g i:α→Prop}(h:∃x0,a x0∧b x0∧c x0∧d x0∧e x0∧f x0∧g x0∧i x0)(k:∀x0,a x0→b x0→c x0→d x0→e x0→f x0→g x0→i x0→P):P:=h.elim fun x h=>TU h (k x)
theorem VP{a b c d e f g i:α→β→Prop}(h:∃x0 x1,a x0 x1∧b x0 x1∧c x0 x1∧d x0 x1∧e x0 x1∧f x0 x1∧g x0 x1∧i x0 x1)(k:∀x0 x1,a x0 x1→b x0 x1→c x0 x1→d x0 x1→e x0 x1→f x0 x1→g x0 x1→i x0 x1→P):P:=h.elim fun x h=>VR h (k x)
theorem VN{a b c d e f g i:α→β→γ→Prop}(h:∃x0 x1 x2,a x0 x1 x2∧b x0 x1 x2∧c x0 x1 x2∧d x0 x1 x2∧e x0 x1 x2∧f x0 x1 x2∧g x0 x1 x2∧i x0 x1 x2)(k:∀x0 x1 x2,a x0 x1 x2→b x0 x1 x2→c x0 x1 x2→d x0 x1 x2→e x0 x1 x2→f x0 x1 x2→g x0 x1 x2→i x0 x1 x2→P):P:=h.elim fun x h=>VP h (k x)
theorem pi_inj{α:Type u}{a c:α}{b d:β}(h:some (a,b)=some (c,d)):a=c∧b=d:=Prod.mk.inj (al_inj h)
end
end
end Mine.Internal
namespace Mine.Internal
open PySem PyProof.Rows
open PySem.Sem (wp)
noncomputable section
variable{Q:Unit→Shared→Prop}{R:Result→Shared→Prop}
noncomputable def iq(id:String):Bool:=!(Builtin.Bytes.decodersThatHold.contains id)&&!(guardIds.contains id)
def jQ:Code→Bool
 |.builtin id _=>iq id
 |_=>true
def Xb(l:List (Code×Pos)):Prop:=∀x∈l,jQ x.1=true
def Cl(Γ:Ctx):Prop:=jQ Γ.code=true∧Xb Γ.below
theorem Cl.goto{Γ:Ctx}(h:Cl Γ){c:Code}(hc:jQ c=true):Cl (Γ.goto c):=⟨hc,h.2⟩
theorem Cl.enter{Γ:Ctx}(h:Cl Γ){c:Code}(hc:jQ c=true)(hd:Option Value)(p:Pos):Cl (Γ.enter c hd p):=
 ⟨hc,fun x hx=>by
  rcases al_mc hx with rfl|hx
  ·exact h.1
  ·exact h.2 x hx⟩
def ab{α:Type}(M:Model)(A:Around)(t:Sem α)(Q:α→Shared→Prop)(E:Value→Shared→Prop)(s:Shared):Prop:=
 ∀Γ p,Γ.In A→Cl Γ→wp M Γ t (fun a Y s'=>Q a s') (fun e Y s'=>E e s') p s
def aY(M:Model)(A:Around)(c:Code)(R:Result→Shared→Prop)(s:Shared):Prop:=
 jQ c=true∧∀Γ p,Γ.code=c→Γ.Below A→Cl Γ→wpCode M Γ R p s
section
variable{α β:Type}{M:Model}{A:Around}{E:Value→Shared→Prop}{s:Shared}
theorem lf{t:Sem α}{Q:α→Shared→Prop}(h:PySem.wpAny M A t Q E s):ab M A t Q E s:=fun Γ p ij Y=>h Γ p ij
theorem V7{c:Code}(h:PySem.codeAny M A c R s)(hn:jQ c=true:=by rfl):aY M A c R s:=⟨hn,fun Γ p hc ij Y=>h Γ p hc ij⟩
theorem aG{t:Sem α}{Q Q':α→Shared→Prop}{E':Value→Shared→Prop}(h:ab M A t Q E s)
  (hQ:∀a s,Q a s→Q' a s)(hE:∀e s,E e s→E' e s):ab M A t Q' E' s:=
 fun Γ p ij hc=>Sem.wp_mono M Γ t (fun a Y s=>hQ a s) (fun e Y s=>hE e s) p s (h Γ p ij hc)
theorem af{a:α}{Q:α→Shared→Prop}(h:Q a s):ab M A (pure a) Q E s:=fun Y Y Y Y=>h
theorem cX{tag:String}(h:Q () s):ab M A (rule tag) Q E s:=fun Y Y Y Y=>h
theorem au{pos:Pos}(h:Q () s):ab M A (standAt pos) Q E s:=fun Y Y Y Y=>h
theorem gF(h:Q () s):ab M A point Q E s:=fun Y Y Y Y=>h
theorem aa{m:Sem α}{f:α→Sem β}{Q:β→Shared→Prop}(h:ab M A m (fun a s'=>ab M A (f a) Q E s') E s):
  ab M A (m>>=f) Q E s:=fun Γ p ij hc=>by
 rw [Sem.wp_bind'];exact Sem.wp_mono M Γ m (fun a p' s' k=>k Γ p' ij hc) (fun Y Y Y k=>k) p s (h Γ p ij hc)
theorem dc{m:Sem α}{k:Value→Sem Unit}{Q:α→Shared→Prop}
  (h:ab M A m Q (fun e s'=>ab M A (k e) (fun Y gA=>E e gA) E s') s):ab M A (m.onRaise k) Q E s:=fun Γ p ij hc=>by
 rw [Sem.wp_onRaise];exact Sem.wp_mono M Γ m (fun Y Y Y k=>k) (fun e p' s' k=>k Γ p' ij hc) p s (h Γ p ij hc)
theorem jN{m:Sem α}{Q:Except Value α→Shared→Prop}(h:ab M A m (fun a=>Q (.ok a)) (fun e=>Q (.error e)) s):
  ab M A m.attempt Q E s:=fun Γ p ij hc=>by rw [Sem.wp_attempt];exact h Γ p ij hc
theorem aj{vs:List Value}{m:Sem α}{Q:α→Shared→Prop}(h:ab M A m Q E s):ab M A (holding vs m) Q E s:=
 fun Γ p ij hc=>by rw [Sem.wp_holding];exact h Γ p ij hc
theorem pz{c:Prop} [Decidable c]{a b:Sem α}{Q:α→Shared→Prop}(h:if c then ab M A a Q E s else ab M A b Q E s):
  ab M A (if c then a else b) Q E s:=by split<;>simp_all
theorem fH{c:Code}{R':Result→Shared→Prop}(h:aY M A c R s)(hR:∀r s,R r s→R' r s):aY M A c R' s:=
 ⟨h.1,fun Γ p hc ij hk=>wpCode_mono hR (h.2 Γ p hc ij hk)⟩
theorem px{c:Code}{h:Option Value}{Q:Flow→Shared→Prop}
  (hc:aY M (A.mark h) c (fun r s'=>match r with|.ok f=>Q f s'|.error e=>E e s') s)(hnb:h≠some byPass:=by intro x;cases x):
  ab M A (run c h) Q E s:=
 fun Γ p ij hk=>by rw [Sem.wp_run];exact hc.2 _ p rfl (ij.enter c h p hnb) (hk.enter hc.1 h p)
theorem mR{c:Code}{Q:Value→Shared→Prop}
  (hc:aY M A c (fun r s'=>match r with|.ok (.ret v)=>Q v s'|.ok _=>False|.error e=>E e s') s):
  ab M A (runValue c) Q E s:=fun Γ p ij hk=>by
 rw [Sem.wp_runValue];exact hc.2 _ p rfl (ij.enter c none p (by intro x;injection x)) (hk.enter hc.1 none p)
theorem dj{f:Value}{pos:List Value}{kw:List (Str×Value)}{Q:Value→Shared→Prop}
  (hc:aY M A (.call f ⟨pos,kw⟩) (fun r s'=>match r with|.ok (.ret v)=>Q v s'|.ok _=>False|.error e=>E e s') s):
  ab M A (call f pos kw) Q E s:=mR hc
theorem bf{c:Code}
  (h:ab M (A.under c) (M.den c) (fun fin s'=>match fin with|.done f=>R (.ok f) s'|.again c'=>c'.quiet=true∧aY M A c' R s')
   (fun e s'=>R (.error e) s') s)(hn:jQ c=true:=by rfl):aY M A c R s:=⟨hn,fun Γ p hc ij hk=>by
 rw [wpCode_iff_wp,hc];refine Sem.wp_mono M Γ _ (fun fin p' s' h'=>?_) (fun Y Y Y h'=>h') p s (h Γ p (hc▸ij.in) hk)
 cases fin with
 |done f=>exact h'
 |again c'=>exact⟨h'.1,h'.2.2 (Γ.goto c') p' rfl (ij.goto c') (hk.goto h'.2.1)⟩⟩
theorem kr{c:Code}(hq:c.quiet=true)(I:Nat→Shared→Prop)
  (turn:∀n s,I n s→ab M (A.under c) (M.den c)
   (fun fin s'=>match fin with|.done f=>R (.ok f) s'|.again c'=>c'=c∧∃m,m<n∧I m s') (fun e s'=>R (.error e) s') s)
  (n:Nat)(h:I n s)(hn:jQ c=true:=by rfl):aY M A c R s:=by
 induction n using Nat.strongRecOn generalizing s with
 |ind n ih=>
  refine bf (aG (turn n s h) (fun fin s' hf=>?_) fun Y Y h'=>h') hn
  cases fin with
  |done f=>exact hf
  |again c'=>obtain⟨rfl,m,hm,hI⟩:=hf;exact⟨hq,ih m hm hI⟩
theorem oT{c:Code}(hq:c.quiet=true)(I:Nat→Shared→Prop)
  (turn:∀n s,I n s→ab M (A.under c) (M.den c)
   (fun fin s'=>match fin with
    |.done f=>R (.ok f) s'
    |.again c'=>(c'=c∧∃m,m<n∧I m s')∨(c'.quiet=true∧aY M A c' R s')) (fun e s'=>R (.error e) s') s)
  (n:Nat)(h:I n s)(hn:jQ c=true:=by rfl):aY M A c R s:=by
 induction n using Nat.strongRecOn generalizing s with
 |ind n ih=>
  refine bf (aG (turn n s h) (fun fin s' hf=>?_) fun Y Y h'=>h') hn
  cases fin with
  |done f=>exact hf
  |again c'=>
   rcases hf with⟨rfl,m,hm,hI⟩|hf
   ·exact⟨hq,ih m hm hI⟩
   ·exact hf
def cameBackBy(M:Model)(A:Around)(env:Env)(E:Value→Shared→Prop):Value→Shared→Prop:=
 fun x s'=>ab M A (do
  if(←field x 1)==.none then unsupported "frame.own-activation:exception-without-traceback"
  setFlight x env.frame) (fun Y gA=>E x gA) E s'
def notedBy(M:Model)(A:Around)(env:Env)(E:Value→Shared→Prop):Value→Shared→Prop:=
 fun x s'=>ab M A (noteFrame x env) (fun Y gA=>E x gA) E s'
theorem kl{c:Code}{env:Env}{h:Option Value}{Q:Flow→Shared→Prop}
  (hc:aY M (A.mark h) c (fun r s'=>match r with|.ok f=>Q f s'|.error e=>cameBackBy M A env E e s') s)(hnb:h≠some byPass:=by intro x;cases x):
  ab M A (runOwn c env h) Q E s:=by
 unfold runOwn;exact dc (px hc hnb)
theorem gG{env:Env}{m:Sem α}{Q:α→Shared→Prop}(h:ab M A m Q (notedBy M A env E) s):ab M A (m.onRaise fun x=>do noteFrame x env;theTreesLotGoes x) Q E s:=
 dc (aG h (fun Y Y q=>q) fun Y Y hx=>aa (aG hx (fun Y Y e=>lf (wpAny_theTreesLotGoes e)) fun Y Y e=>e))
theorem oR{env:Env}{m:Sem α}{pos:Pos}{Q:α→Shared→Prop}(h:ab M A m Q (notedBy M A env E) s):
  ab M A (m.onRaise fun x=>do noteFrame x env;standAt pos) Q E s:=
 dc (aG h (fun Y Y q=>q) fun Y Y hx=>aa (aG hx (fun Y Y e=>au e) fun Y Y e=>e))
end
end
end Mine.Internal
namespace Mine.Internal
open PySem PySem.W PyProof.Rows
open PySem.Sem (wp)
noncomputable section
variable{Q:Value→Shared→Prop}{pos:Pos}
section
variable{α:Type}{M:Model}{A:Around}{E:Value→Shared→Prop}{s:Shared}{env:PySem.Env}
theorem sq{β:Type}{m:Sem α}{f:α→Sem β}{Q:β→Shared→Prop}{P:α→Shared→Prop}(h:ab M A m P E s)(k:∀a s',P a s'→ab M A (f a) Q E s'):
  ab M A (m>>=f) Q E s:=aa (aG h k fun Y Y x=>x)
theorem uY{vs:List Value}{m:Sem α}{Q:α→Shared→Prop}(h:ab M A m Q E s):ab M A (m.keep vs) Q E s:=
 fun Γ p ij hc=>by rw [Sem.wp_keep];exact h Γ p ij hc
theorem cm{vs:List Value}{m:Sem Value}(h:ab M A m Q E s):ab M A (operate vs m) Q E s:=
 fun Γ p ij hc=>by rw [Sem.wp_operate];exact h Γ p ij hc
theorem eU{vs keep:List Value}{Q:Unit→Shared→Prop}(h:Q () s):ab M A (release vs keep) Q E s:=fun Γ p Y Y=>by
 rw [Sem.wp_release];exact h
theorem fW{x:Str}{v:Value}{Q:Unit→Shared→Prop}(h:ab M A (storeName env x v) Q E s):ab M A (bindName env x v) Q E s:=
 fun Γ p ij hc=>by rw [Sem.wp_bindName];exact h Γ p ij hc
theorem aT{t:Sem α}{a:α}{Q:α→Shared→Prop}(h:t=pure a)(hQ:Q a s):ab M A t Q E s:=h▸af hQ
theorem aX{c:Prop} [Decidable c]{a b:Sem α}{Q:α→Shared→Prop}(hc:decide c=false)(h:ab M A b Q E s):
  ab M A (if c then a else b) Q E s:=by rw [if_neg (of_decide_eq_false hc)];exact h
theorem iU{c:Prop} [Decidable c]{a b:Sem α}{Q:α→Shared→Prop}(hc:decide c=true)(h:ab M A a Q E s):
  ab M A (if c then a else b) Q E s:=by rw [if_pos (of_decide_eq_true hc)];exact h
set_option tactic.hygienic true in
theorem fm{c:Prop} [Decidable c]{a b:Sem α}{Q:α→Shared→Prop}(ha:c→ab M A a Q E s)(hb:¬c→ab M A b Q E s):
  ab M A (if c then a else b) Q E s:=by
 split
 ·next h=>exact ha h
 ·next h=>exact hb h
theorem mS{x:Str}(h:ab M A (loadName env x) Q E s)(hd:(x==("__debug__":Str))=false:=by decide):
  ab M A (eval (.Name x pos) env) Q E s:=by
 rw [eval_Name env x pos hd];exact aa (au h)
theorem tB{x:Str}(hk:env.scope.kind=.function)(hx:env.kindOf x=some .globalImplicit):loadName env x=loadGlobal env x:=by
 unfold loadName Env.blockKind;rw [hk,hx]
 rfl
theorem fc{x:Str}(hk:env.scope.kind=.function)(hx:env.kindOf x=some .globalImplicit)
  (h:ab M A (loadGlobal env x) Q E s)(hd:(x==("__debug__":Str))=false:=by decide):ab M A (eval (.Name x pos) env) Q E s:=by
 refine mS ?_ hd
 exact(tB hk hx).symm▸h
theorem sb{l op r pos}
  (h:ab M A (eval l env) (fun a ag=>ab M A (eval r env) (fun b aK=>ab M A (binaryOp op a b) Q E aK) E ag) E s):
  ab M A (eval (.BinOp l op r pos) env) Q E s:=by
 rw [eval_BinOp];exact sq h fun a ag k=>sq (aj k) fun b aK k=>aa (au (cm k))
theorem oS{op:UnaryOp}{x:Expr}(h:ab M A (eval x env) (fun v ag=>ab M A (unaryOp op v) Q E ag) E s):
  ab M A (eval (.UnaryOp op x pos) env) Q E s:=by
 rw [arm_eval_UnaryOp];exact sq h fun v ag k=>aa (au (aj k))
theorem mU{l op r pos}
  (h:ab M A (eval l env) (fun a ag=>ab M A (eval r env) (fun b aK=>ab M A (compareOp op a b) Q E aK) E ag) E s)
  (hm:behindInMarks op r=false:=by with_unfolding_all rfl):
  ab M A (eval (.Compare l [op] [r] pos) env) Q E s:=by
 rw [eval_Compare1,markedBehindIn_of_false hm];exact sq h fun a ag k=>sq (aj k) fun b aK k=>aa (au (cm k))
theorem iK{l op r pos whole}{Q:Bool→Shared→Prop}
  (h:ab M A (eval l env) (fun a ag=>ab M A (eval r env) (fun b aK=>ab M A (compareOp op a b)
   (fun c bI=>ab M A (truthy c) Q E bI) E aK) E ag) E s)
  (hm:behindInMarks op r=false:=by with_unfolding_all rfl):ab M A (isTrue (.Compare l [op] [r] pos) env whole) Q E s:=by
 rw [isTrue_Compare1,markedBehindIn_of_false hm];exact sq h fun a ag k=>sq (aj k) fun b aK k=>aa (au (sq (cm k) fun c bI k=>aj k))
theorem mW{op e pos}(h:ab M A (eval e env) Q E s):ab M A (eval (.BoolOp op [e] pos) env) Q E s:=h
theorem u5{we og rest pos}
  (h:ab M A (eval we env) (fun v ag=>ab M A (truthy v) (fun c aK=>if c then ab M A (eval (.BoolOp .And (og::rest) pos) env) Q E aK else Q v aK) E ag) E s):
  ab M A (eval (.BoolOp .And (we::og::rest) pos) env) Q E s:=by
 show ab M A (eval we env>>=fun v=>standAt pos>>=fun Y=>holding [v] (truthy v)>>=fun c=>_) Q E s
 refine sq h fun v ag k=>aa (au (sq (aj k) fun c aK k=>?_))
 cases c<;>first|exact k|exact af k
theorem yO{we og rest pos}
  (h:ab M A (eval we env) (fun v ag=>ab M A (truthy v) (fun c aK=>if c then Q v aK else ab M A (eval (.BoolOp .Or (og::rest) pos) env) Q E aK) E ag) E s):
  ab M A (eval (.BoolOp .Or (we::og::rest) pos) env) Q E s:=by
 show ab M A (eval we env>>=fun v=>standAt pos>>=fun Y=>holding [v] (truthy v)>>=fun c=>_) Q E s
 refine sq h fun v ag k=>aa (au (sq (aj k) fun c aK k=>?_))
 cases c<;>first|exact k|exact af k
theorem r9{test body orelse:Expr}
  (h:ab M A (isTrue test env (eval test env)) (fun b ag=>if b then ab M A (eval body env) Q E ag else ab M A (eval orelse env) Q E ag) E s):
  ab M A (eval (.IfExp test body orelse pos) env) Q E s:=by
 rw [arm_eval_IfExp];exact sq h fun b ag k=>by cases b<;>exact k
theorem isTrue_not{x pos whole}{Q:Bool→Shared→Prop}(h:ab M A (isTrue x env (eval x env)) (fun c s'=>Q (!c) s') E s):
  ab M A (isTrue (.UnaryOp .Not x pos) env whole) Q E s:=by
 show ab M A (isTrue x env (eval x env)>>=fun c=>pure (!c)) Q E s
 exact sq h fun c s' k=>af k
theorem isTrue_and{x rest pos whole}{Q:Bool→Shared→Prop}
  (h:ab M A (isTrue x env (eval x env)) (fun c s'=>if c then ab M A (isTrue (.BoolOp .And rest pos) env whole) Q E s' else Q false s') E s):
  ab M A (isTrue (.BoolOp .And (x::rest) pos) env whole) Q E s:=by
 show ab M A (isTrue x env (eval x env)>>=fun c=>_) Q E s
 exact sq h fun c s' k=>by cases c<;>first|exact k|exact af k
theorem isTrue_or{x rest pos whole}{Q:Bool→Shared→Prop}
  (h:ab M A (isTrue x env (eval x env)) (fun c s'=>if c then Q true s' else ab M A (isTrue (.BoolOp .Or rest pos) env whole) Q E s') E s):
  ab M A (isTrue (.BoolOp .Or (x::rest) pos) env whole) Q E s:=by
 show ab M A (isTrue x env (eval x env)>>=fun c=>_) Q E s
 exact sq h fun c s' k=>by cases c<;>first|exact k|exact af k
theorem isTrue_chain{l sW sU ops oZ vj rs pos whole}{Q:Bool→Shared→Prop}
  (h:ab M A (eval l env) (fun a ag=>ab M A (testChain pos a (sW::sU::ops) (eval oZ env::eval vj env::evalEach rs env)) Q E ag) E s)
  (hm:lastMarks (sW::sU::ops) (oZ::vj::rs)=false:=by with_unfolding_all rfl):
  ab M A (isTrue (.Compare l (sW::sU::ops) (oZ::vj::rs) pos) env whole) Q E s:=by
 show ab M A (eval l env>>=fun a=>testChain pos a (sW::sU::ops) (markedEach (sW::sU::ops) (oZ::vj::rs) (evalEach (oZ::vj::rs) env))) Q E s
 rw [markedEach_of_false _ _ _ hm];exact aa h
theorem yJ{a:Value}{op:CmpOp}{r:Sem Value}{Q:Bool→Shared→Prop}
  (h:ab M A r (fun b ag=>ab M A (compareOp op a b) (fun c aK=>ab M A (truthy c) Q E aK) E ag) E s):ab M A (testChain pos a [op] [r]) Q E s:=by
 show ab M A (holding [a] r>>=fun b=>standAt pos>>=fun Y=>operate [a,b] (compareOp op a b)>>=fun c=>holding [c] (truthy c)) Q E s
 exact sq (aj h) fun b ag k=>aa (au (sq (cm k) fun c aK k=>aj k))
theorem yI{a:Value}{op jI:CmpOp}{ops:List CmpOp}{r r':Sem Value}{rs:List (Sem Value)}{Q:Bool→Shared→Prop}
  (h:ab M A r (fun b ag=>ab M A (compareOp op a b) (fun c aK=>ab M A (truthy c)
   (fun t bI=>if t then ab M A (testChain pos b (jI::ops) (r'::rs)) Q E bI else Q false bI) E aK) E ag) E s):
  ab M A (testChain pos a (op::jI::ops) (r::r'::rs)) Q E s:=by
 show ab M A (holding [a] r>>=fun b=>standAt pos>>=fun Y=>holding [a,b] (compareOp op a b)>>=fun c=>release [a,b] [c]>>=fun Y=>holding [c,b] (truthy c)>>=fun t=>_) Q E s
 refine sq (aj h) fun b ag k=>aa (au (sq (aj k) fun c aK k=>aa (eU (sq (aj k) fun t bI k=>?_))))
 cases t<;>first|exact k|exact af k
theorem gV{e:Expr}{rest:List Expr}{Q:List Value→Shared→Prop}
  (h:ab M A (eval e env) (fun v ag=>ab M A (spliced (backTo pos (starEach rest env))) (fun vs aK=>Q (v::vs) aK) E ag) E s)
  (he:starEach (e::rest) env=(false,eval e env)::starEach rest env:=by rfl):ab M A (spliced (backTo pos (starEach (e::rest) env))) Q E s:=by
 rw [he];show ab M A (eval e env>>=fun v=>(pure [v]:Sem (List Value))>>=fun here=>holding here (spliced (backTo pos (starEach rest env)))>>=fun vs=>pure (here++vs)) Q E s
 exact sq h fun v ag k=>aa (af (sq (aj k) fun vs aK k=>af k))
theorem uZ{elts:List Expr}
  (h:ab M A (spliced (backTo pos (starEach elts env)))
   (fun vs ag=>vs.length≤sizeLine∧Q (.ref ag.heap.objs.size) {ag with heap:=ag.heap.push {cls:=.type "list",data:=.seq vs.toArray}}) E s):ab M A (eval (.List elts pos) env) Q E s:=by
 rw [arm_eval_List];exact aa (au (sq h fun vs ag k=>lf (wpAny_newObj_type k.2 (by show vs.toArray.size≤sizeLine;rw [List.size_toArray];exact k.1))))
theorem r8{elts:List Expr}{k:Nat}
  (h:ab M A (spliced (backTo pos (starEach elts env)))
   (fun vs ag=>vs.length≤sizeLine∧Q (.ref ag.heap.objs.size) {ag with heap:=ag.heap.push {cls:=.type "tuple",data:=.seq vs.toArray}}) E s):ab M A (eval (.Tuple elts k pos) env) Q E s:=by
 rw [arm_eval_Tuple];exact aa (au (sq h fun vs ag k=>lf (wpAny_newObj_type k.2 (by show vs.toArray.size≤sizeLine;rw [List.size_toArray];exact k.1))))
theorem evalArgs_plain{f:Value}{x:Sem Value}{rest:List (Bool×Sem Value)}{Q:Args→Shared→Prop}
  (h:ab M A (spliced ((false,x)::rest)) (fun vs s'=>Q ⟨vs,[]⟩ s') E s):ab M A (evalArgs f true ((false,x)::rest) []) Q E s:=by
 unfold evalArgs;show ab M A (spliced ((false,x)::rest)>>=fun vs=>_) Q E s
 exact sq h fun vs s' k=>aj (aa (af (aa (af (af k)))))
theorem dA{e:Expr}(h:ab M A (eval e env) Q E s):ab M A (evalPart (some e) env) Q E s:=h
theorem iX{lower upper step:Option Expr}{p:Pos}
  (h:ab M A (evalPart lower env) (fun l ag=>ab M A (evalPart upper env) (fun u aK=>ab M A (evalPart step env) (fun st bI=>
   Q (.ref bI.heap.objs.size) {bI with heap:=bI.heap.push {cls:=.type "slice",data:=.fields #[l,u,st]}}) E aK) E ag) E s):
  ab M A (eval (.Slice lower upper step p) env) Q E s:=by
 rw [arm_eval_Slice];exact sq h fun l ag k=>sq (aj k) fun u aK k=>sq (aj k) fun st bI k=>lf (wpAny_newObj_type k)
theorem jU{value slice pos}
  (h:ab M A (eval value env) (fun o ag=>ab M A (eval slice env) (fun i aK=>ab M A (subscriptTail value slice o i) Q E aK) E ag) E s):
  ab M A (eval (.Subscript value slice pos) env) Q E s:=by
 rw [eval_Subscript];exact sq h fun o ag k=>sq (aj k) fun i aK k=>aa (au k)
theorem evalPairs_cons{k v:Sem Value}{rest:List (Sem Value×Sem Value)}{Q:List (Value×Value)→Shared→Prop}
  (h:ab M A k (fun kv ag=>ab M A v (fun vv aK=>ab M A (evalPairs rest) (fun vs bI=>Q ((kv,vv)::vs) bI) E aK) E ag) E s):
  ab M A (evalPairs ((k,v)::rest)) Q E s:=by
 rw [evalPairs];exact sq h fun kv ag k=>sq (aj k) fun vv aK k=>sq (aj k) fun vs bI k=>af k
theorem AG{params:Arguments}{body:Expr}{scope:Scope}(o9:defaultsOf params env=([],[]))
  (h:ab M A (makeFunction "<lambda>" (env.qual++"<lambda>") params (.expr body) scope env [] [] [] pos pos.line) Q E s):
  ab M A (eval (.Lambda params body scope pos) env) Q E s:=by
 rw [arm_eval_Lambda,o9];exact aa (af (aa (aj (af h))))
theorem bq{self:Value}{T:String}{name:Str}{id:String}{args:List Value}{kw:List (Str×Value)}
  {Q:Option Value→Shared→Prop}(hT:s.TypeIs self T)(h:Slot T name id)
  (hc:ab M A (call (.builtin id) (self::args) kw) (fun v=>Q (some v)) E s):ab M A (callSpecial? self name args kw) Q E s:=by
 unfold callSpecial?;refine aa (lf (wpAny_specialOf hT h.lookup ?_));simp only[h.bind];exact aj (aa (af (sq hc fun v s' k=>af k)))
theorem ly{st rest}{Q:Flow→Shared→Prop}
  (h:ab M A (exec st env) (fun f s'=>match f with|.next=>ab M A (execs rest env) Q E s'|f=>Q f s') E s):
  ab M A (execs (st::rest) env) Q E s:=by
 rw [execs_cons];exact sq h fun f s' k=>by cases f<;>first|exact k|exact af k
theorem AE{test body orelse pos}{Q:Flow→Shared→Prop}
  (h:ab M A (isTrue test env (eval test env))
   (fun b aK=>if b then ab M A (execs body env) Q E aK else ab M A (execs orelse env) Q E aK) E s):
  ab M A (exec (.If test body orelse pos) env) Q E s:=by
 rw [exec_If];exact aa (au (sq h fun b aK k=>by cases b<;>exact k))
theorem km{e pos}{Q:Flow→Shared→Prop}(h:ab M A (eval e env) (fun v=>Q (.ret v)) E s):
  ab M A (exec (.Return (some e) pos) env) Q E s:=by
 rw [exec_Return_some];exact aa (au (sq h fun v ag k=>af k))
theorem rZ{test body orelse pos}{Q:Flow→Shared→Prop}
  (h:aY M A (.whileLoop test body orelse env) (fun r s'=>match r with|.ok f=>Q f s'|.error e=>cameBackBy M A env E e s') s):
  ab M A (exec (.While test body orelse pos) env) Q E s:=by
 rw [exec_While];exact aa (au (kl h))
theorem gH{x pos' value pos}{Q:Flow→Shared→Prop}
  (h:ab M A (eval value env) (fun v ag=>ab M A (storeName env x v) (fun Y=>Q .next) E ag) E s)
  (hs:swapsWith value (some (.Name x pos')) pos.line env=pure false:=by rfl):
  ab M A (exec (.Assign [.Name x pos'] value pos) env) Q E s:=by
 rw [exec_Assign_Name env x pos' value pos hs];exact aa (au (sq h fun v ag k=>aa (au (sq (fW k) fun Y aK k=>af k))))
theorem lC{o i pos v}{Q:Unit→Shared→Prop}(h:ab M A (eval o env) (fun ov aK=>ab M A (eval i env) (fun iv bI=>ab M A (setItem ov iv v) Q E bI) E aK) E s):ab M A (assign (.Subscript o i pos) env v) Q E s:=by
 show ab M A (holding [v] (eval o env)>>=_) Q E s;exact sq (aj h) fun ov aK k=>sq (aj k) fun iv bI k=>aa (au (sq (aj k) fun Y kF k=>eU k))
theorem eC{o i pos' value pos}{Q:Flow→Shared→Prop}
  (h:ab M A (eval value env) (fun v ag=>ab M A (eval o env) (fun ov aK=>ab M A (eval i env) (fun iv bI=>
   ab M A (setItem ov iv v) (fun Y=>Q .next) E bI) E aK) E ag) E s)
  (hs:swapsWith value (some (.Subscript o i pos')) pos.line env=pure false:=by rfl):
  ab M A (exec (.Assign [.Subscript o i pos'] value pos) env) Q E s:=fun Γ p ij hc=>by
 rw [exec_Assign_Subscript o i pos' value pos hs];exact aa (au (sq h fun v ag k=>sq (lC k) fun Y aK k=>af k)) Γ p ij hc
theorem plainObj_wpAny_Assign_Attribute{o attr pos' value pos}{Q:Flow→Shared→Prop}
  (h:ab M A (eval value env) (fun v ag=>ab M A (eval o env) (fun ov aK=>ab M A (setAttr ov attr v) (fun Y=>Q .next) E aK) E ag) E s)
  (hs:swapsWith value (some (.Attribute o attr pos')) pos.line env=pure false:=by rfl):
  ab M A (exec (.Assign [.Attribute o attr pos'] value pos) env) Q E s:=fun Γ p ij hc=>by
 rw [plainObj_exec_Assign_Attribute o attr pos' value pos hs];refine aa (au (sq h fun v ag k=>aa ?_)) Γ p ij hc
 show ab M A (holding [v] (eval o env)>>=_) _ E ag;exact sq (aj k) fun ov aK k=>aa (au (sq (aj k) fun Y bI k=>eU (af k)))
theorem dg{x pos v}{Q:Unit→Shared→Prop}(h:ab M A (storeName env x v) Q E s):
  ab M A (assign (.Name x pos) env v) Q E s:=by
 rw [PySem.assign_Name];exact aa (au (fW h))
theorem assignInOrder_cons{t:Value→Sem Unit}{ts:List (Value→Sem Unit)}{x:Value}{xs:List Value}{Q:Unit→Shared→Prop}
  (h:ab M A (t x) (fun Y ag=>ab M A (assignInOrder ts xs) Q E ag) E s):ab M A (assignInOrder (t::ts) (x::xs)) Q E s:=by
 show ab M A (holding xs (t x)>>=fun Y=>assignInOrder ts xs) Q E s
 exact aa (aj h)
theorem iT{body orelse:Sem Flow}{h₀:ExceptHandler}{hs:List ExceptHandler}{Q:Flow→Shared→Prop}
  (h:ab M A body (fun f ag=>match f with|.next=>ab M A orelse Q E ag|f=>Q f ag)
   (fun e ag=>ab M A (noteFrame e env) (fun Y aK=>ab M A (setFlight e none) (fun Y bI=>ab M A (handleBy e env (h₀::hs)) Q E bI) E aK) E ag) s):
  ab M A (tryStmt false body (h₀::hs) orelse [] env) Q E s:=by
 show ab M A (body.attempt>>=_) Q E s;refine aa (jN (aG h (fun f ag k=>?_) fun e ag k=>?_))
 ·cases f<;>first|exact k|exact af k
 ·exact sq k fun Y Y k=>aa k
end
section
variable{prog:Program}{w:World}{A:Around}{E:Value→Shared→Prop}{R:Result→Shared→Prop}{s:Shared}{env:PySem.Env}
theorem lz{body orelse:List Stmt}{h₀:ExceptHandler}{hs:List ExceptHandler}{Q:Flow→Shared→Prop}
  (h:ab (model prog w) A (execs body env) (fun f ag=>match f with|.next=>ab (model prog w) A (execs orelse env) Q E ag|f=>Q f ag)
   (fun e ag=>ab (model prog w) A (noteFrame e env) (fun Y aK=>ab (model prog w) A (setFlight e none) (fun Y bI=>ab (model prog w) A (handleBy e env (h₀::hs)) Q E bI) E aK) E ag) s):
  ab (model prog w) A (exec (.Try body (h₀::hs) orelse [] pos) env) Q E s:=by
 rw [arm_exec_Try];exact aa (au (iT h))
theorem mT{e pos}{Q:Flow→Shared→Prop}(h:ab (model prog w) A (eval e env) (fun Y=>Q .next) E s)
  (hi:interactive env=false:=by rfl)(hs:swapsWith e none pos.line env=pure false:=by rfl):
  ab (model prog w) A (exec (.Expr e pos) env) Q E s:=by
 rw [exec_Expr env e pos hi hs];exact aa (au (sq h fun v s' k=>lf (wpAny_dropValue k)))
theorem oU{stmts:List Stmt}
  (h:ab (model prog w) A (execs stmts env) (fun f s'=>R (.ok f) s') (notedBy (model prog w) A env fun e s'=>R (.error e) s') s):aY (model prog w) A (.block stmts env) R s:=by
 refine bf ?_
 show ab _ _ ((execs stmts env).onRaise (fun x=>do noteFrame x env;theTreesLotGoes x)>>=fun f=>pure (Fin.done f)) _ _ s
 exact sq (gG h) fun f s' k=>af k
theorem kq{test body orelse}(I:Nat→Shared→Prop)
  (turn:∀n s,I n s→
   ab (model prog w) A (isTrue test env (eval test env)) (fun b aK=>
    if b then ab (model prog w) A (execs body env) (fun f bI=>match f with
      |.next|.cont=>∃m,m<n∧I m bI
      |.brk=>R (.ok .next) bI
      |.ret v=>R (.ok (.ret v)) bI) (notedBy (model prog w) A env fun e s'=>R (.error e) s') aK
    else ab (model prog w) A (execs orelse env) (fun f bI=>R (.ok f) bI) (notedBy (model prog w) A env fun e s'=>R (.error e) s') aK)
    (notedBy (model prog w) A env fun e s'=>R (.error e) s') s)
  (n:Nat)(h:I n s):aY (model prog w) A (.whileLoop test body orelse env) R s:=by
 refine kr rfl I (fun n s hI=>?_) n h
 show ab _ A ((whileTurn test body orelse env).onRaise (fun x=>do noteFrame x env;theTreesLotGoes x)) _ _ s
 refine gG ?_
 simp only[whileTurn]
 refine sq (turn n s hI) fun b aK k=>?_
 cases b with
 |false=>
  simp only[Bool.false_eq_true,if_false]at k⊢
  exact sq k fun f bI k=>af k
 |true=>
  simp only[if_true]at k⊢
  refine sq k fun f bI k=>?_
  cases f<;>first|exact af ⟨rfl,k⟩|exact af k
theorem jH{target it body orelse}(I:Nat→Shared→Prop)
  (turn:∀n s,I n s→ab (model prog w) A (pyNext it) (fun r ag=>match r with
   |none=>ab (model prog w) A (execs orelse env) (fun f bI=>R (.ok f) bI) (notedBy (model prog w) A env fun e s'=>R (.error e) s') ag
   |some v=>ab (model prog w) A (letOwnedTupleGo target it v) (fun Y sr=>
     ab (model prog w) A (assign target env v) (fun Y aK=>ab (model prog w) A (execs body env) (fun f bI=>match f with
      |.next|.cont=>∃m,m<n∧I m bI
      |.brk=>R (.ok .next) bI
      |.ret v=>R (.ok (.ret v)) bI) (notedBy (model prog w) A env fun e s'=>R (.error e) s') aK) (notedBy (model prog w) A env fun e s'=>R (.error e) s') sr) (notedBy (model prog w) A env fun e s'=>R (.error e) s') ag) (notedBy (model prog w) A env fun e s'=>R (.error e) s') s)
  (n:Nat)(h:I n s):aY (model prog w) A (.forLoop target it body orelse env) R s:=by
 refine oT rfl I (fun n s hI=>?_) n h
 show ab _ A ((forTurn target it body orelse env).onRaise (fun x=>do noteFrame x env;theTreesLotGoes x)) _ _ s
 refine gG ?_
 simp only[forTurn]
 refine aa (au (aa (dc (aG (turn n s hI) (fun r ag k=>?_) fun Y Y k=>au k))))
 cases r with
 |none=>exact af (.inr ⟨rfl,oU k⟩)
 |some v=>
  refine sq k fun Y sr k=>sq k fun Y aK k=>sq k fun f bI k=>?_
  cases f<;>first|exact af (.inl ⟨rfl,k⟩)|exact af k
theorem qF{body}
  (h:ab (model prog w) (A.deeper env) (execs body env) (fun f s'=>R (.ok (.ret (match f with|.ret v=>v|_=>.none))) s')
   (fun e s'=>ab (model prog w) (A.deeper env) (leaving env e) (fun Y gA=>R (.error e) gA) (fun e' gA=>R (.error e') gA) s') s):
  aY (model prog w) A (.func body env) R s:=by
 refine bf ?_
 show ab _ (A.deeper env) (point>>=fun Y=>(execs body env).onRaise (leaving env)>>=fun f=>_) _ _ s
 refine aa (gF (aa (dc (aG h (fun f s' k=>?_) fun Y Y k=>k))))
 cases f<;>exact af k
theorem qD{e:Expr}
  (h:ab (model prog w) (A.deeper env) (eval e env) (fun v s'=>R (.ok (.ret v)) s')
   (fun e' s'=>ab (model prog w) (A.deeper env) (leaving env e') (fun Y gA=>R (.error e') gA) (fun SX gA=>R (.error SX) gA) s') s):
  aY (model prog w) A (.expr e env) R s:=by
 refine bf ?_
 show ab _ (A.deeper env) (point>>=fun Y=>(eval e env).onRaise (leaving env)>>=fun v=>ret v) _ _ s
 exact aa (gF (aa (dc (aG h (fun v s' k=>af k) fun Y Y k=>k))))
theorem uy{a:Addr}{args:Args}{o:Obj}{fd:FuncData}(hroom:A.depth<recursionLimit)
  (ho:s.heap.get? a=some o)(C0:o.data=.func fd)(hco:fd.scope.isCoroutine=false)(hgen:fd.scope.isGenerator=false)(hcd:s.heap.CodeRec fd.code fd.qualname)
  (h:ab (model prog w) A.in1 (bindArgs fd args) (fun binds ag=>
   ab (model prog w) A.in1 (newFunctionEnv fd.scope fd.globals fd.closure binds (fd.qualname++".<locals>.") (some a) fd.code none fd.builtins)
    (fun env aK=>aK.heap.NoLimit∧aY (model prog w) A (match fd.body with|.stmts b=>.func b env|.expr b=>.expr b env) R aK) (fun e s'=>R (.error e) s') ag) (fun e s'=>R (.error e) s') s):
  aY (model prog w) A (.call (.ref a) args) R s:=by
 refine bf ?_
 show ab _ A.in1 (load a>>=_) _ _ s;refine aa (lf (wpAny_load ho ?_));rw [C0];show ab _ A.in1 (callFunction a fd args) _ _ s;unfold callFunction;rw [hco,hgen];refine uT hcd fun c oc vs tq hc hoc hdc hq=>?_
 rw [hc]at h⊢;refine aa (m:=field (.ref c) 1) (lf (wpAny_field hoc hdc hq ?_))
 refine aa (af ?_)
 exact sq h fun binds ag k=>sq k fun env aK k=>aa (lf (wpAny_enterFrame k.1 hroom (af (And.intro (by cases fd.body<;>rfl) k.2))))
theorem iL{a:Addr}{args:Args}{o:Obj}{fd:FuncData}{body:List Stmt}(hroom:A.depth<recursionLimit)
  (ho:s.heap.get? a=some o)
  (C0:o.data=.func fd)(hco:fd.scope.isCoroutine=false)(hgen:fd.scope.isGenerator=false)(hbody:fd.body=.stmts body)(hcd:s.heap.CodeRec fd.code fd.qualname)
  (h:ab (model prog w) A.in1 (bindArgs fd args) (fun binds ag=>
   ab (model prog w) A.in1 (newFunctionEnv fd.scope fd.globals fd.closure binds (fd.qualname++".<locals>.") (some a) fd.code none fd.builtins)
    (fun env aK=>aK.heap.NoLimit∧aY (model prog w) A (.func body env) R aK) (fun e s'=>R (.error e) s') ag) (fun e s'=>R (.error e) s') s):
  aY (model prog w) A (.call (.ref a) args) R s:=
 uy hroom ho C0 hco hgen hcd (by rw [hbody];exact h)
theorem qE{a:Addr}{args:Args}{o:Obj}{fd:FuncData}{body:Expr}(hroom:A.depth<recursionLimit)
  (ho:s.heap.get? a=some o)
  (C0:o.data=.func fd)(hco:fd.scope.isCoroutine=false)(hgen:fd.scope.isGenerator=false)(hbody:fd.body=.expr body)(hcd:s.heap.CodeRec fd.code fd.qualname)
  (h:ab (model prog w) A.in1 (bindArgs fd args) (fun binds ag=>
   ab (model prog w) A.in1 (newFunctionEnv fd.scope fd.globals fd.closure binds (fd.qualname++".<locals>.") (some a) fd.code none fd.builtins)
    (fun env aK=>aK.heap.NoLimit∧aY (model prog w) A (.expr body env) R aK) (fun e s'=>R (.error e) s') ag) (fun e s'=>R (.error e) s') s):
  aY (model prog w) A (.call (.ref a) args) R s:=
 uy hroom ho C0 hco hgen hcd (by rw [hbody];exact h)
theorem ik{elt target iter ifs rest scope pos it acc}
  (h0:aY (model prog w) A (.compLoop (.ListComp elt (⟨target,iter,ifs,0⟩::rest) scope pos) 0 it acc env) R s)
  (h:ab (model prog w) A (pyIter it) (fun Ub s'=>aY (model prog w) A (.compLoop (.ListComp elt (⟨target,iter,ifs,0⟩::rest) scope pos) 0 Ub acc env) R s')
   (notedBy (model prog w) A env fun x s'=>R (.error x) s') s):
  aY (model prog w) A (.compStart (.ListComp elt (⟨target,iter,ifs,0⟩::rest) scope pos) 0 it acc env) R s:=by
 refine bf ?_
 show ab _ _ ((compStart (.ListComp elt (⟨target,iter,ifs,0⟩::rest) scope pos) 0 it acc env).onRaise (fun x=>do noteFrame x env;standAt theWindowsPlace)) _ _ s
 refine oR ?_
 unfold compStart;show ab _ _ (ask>>=_) _ _ s;refine aa (lf (wpAny_askSetting ?_));refine pz ?_;split
 ·first
   |exact aa (af (af (And.intro rfl h0)))
   |exact af (And.intro rfl h0)
 ·refine aa (cX ?_)
  show ab _ _ (standAt iter.pos>>=_) _ _ s;exact aa (au (sq h fun Ub s' k=>af (And.intro rfl k)))
end
end
end Mine.Internal
namespace Mine.Internal
open PySem PySem.W PySem.Calls PyProof.Rows Builtin Builtin.ObjectAttr Builtin.Getset_descriptor
open PySem.Sem (wp)
noncomputable section
section
variable{prog:Program}{w:World}{A:Around}{E:Value→Shared→Prop}{R:Result→Shared→Prop}{s:Shared}{env:PySem.Env}
theorem fY{elts:List Expr}{x1}{pos:Pos}{t:Addr}{items:Array Value}{Q:Unit→Shared→Prop}(hh:A.handled=none)(ht:IsTup s.heap t items)
  (hn:(assignEach elts env).length=items.size)(hstar:(assignEach elts env).findIdx? (·.1)=none)
  (h:∀h',Heap.ExtBut s.heap.objs.size s.heap h'→ab (model prog w) A (assignInOrder ((assignEach elts env).map (·.2)) items.toList) Q E {s with heap:=h'}):
  ab (model prog w) A (assign (.Tuple elts x1 pos) env (.ref t)) Q E s:=by
 rw [assign_Tuple];refine aa (au ?_);unfold unpack;rw [hn,hstar];exact aa (aj (lf (unpackItems_tuple hh ht h)))
theorem pe{pairs:List (Sem Value×Sem Value)}{Q:List (Value×Value)→Shared→Prop}(h:ab (model prog w) A (evalPairs pairs) Q E s):
  ab (model prog w) A (evalPairs pairs) (fun vs s'=>vs.length=pairs.length∧Q vs s') E s:=
 fun Γ p ij hc=>wp_evalPairs_len _ Γ pairs _ _ p s (h Γ p ij hc)
theorem oP{K:Type} [DecidableEq K]{knd:KeyKind prog w K}{pairs:List (Sem Value×Sem Value)}{Q:Addr→Shared→Prop}(hlen:pairs.length≤15)
  (h:ab (model prog w) A (evalPairs pairs) (fun vs ag=>∃kvs,Carries knd vs kvs∧ag.heap.DictOf knd s.heap.objs.size []∧
   ∀h',h'.DictOf knd s.heap.objs.size (merged [] kvs)→Heap.SameBut s.heap.objs.size ag.heap h'→Q s.heap.objs.size {ag with heap:=h',toks:=ag.toks+vs.length}) E
   {s with heap:=s.heap.push {cls:=.type "dict",data:=.dict #[]}}):
  ab (model prog w) A (subDict pairs) Q E s:=by
 unfold subDict;refine aa (lf (wpAny_alloc ?_));refine aa (aj ?_);rw [if_pos hlen];refine sq (pe h) fun vs ag k=>?_
 obtain⟨hvl,kvs,hc,hm,hQ⟩:=k
 have hsz:([]:List (K×Value)).length+kvs.length≤sizeLine:=by
  have e:=hc.length
  rw [sizeLine_eq,List.length_nil];lia
 exact aj (aa (lf (wpAny_storeAll (knd:=knd) vs kvs [] ag _ hc hm hsz fun h' KU pY=>af (af (hQ h' KU pY)))))
theorem lA{K:Type} [DecidableEq K]{knd:KeyKind prog w K}{keys:List (Option Expr)}{values:List Expr}{pos:Pos}{pairs:List (Sem Value×Sem Value)}{Q:Value→Shared→Prop}
  (hshape:(evalEachOpt keys env).zip ((evalEach values env).map fun v=>do let x←v;standAt pos;pure x)=pairs.map fun p=>(some p.1,p.2))(h0:pairs≠[])(hlen:pairs.length≤15)
  (h:ab (model prog w) A (evalPairs pairs) (fun vs ag=>∃kvs,Carries knd vs kvs∧ag.heap.DictOf knd s.heap.objs.size []∧
   ∀h',h'.DictOf knd s.heap.objs.size (merged [] kvs)→Heap.SameBut s.heap.objs.size ag.heap h'→Q (.ref s.heap.objs.size) {ag with heap:=h',toks:=ag.toks+vs.length}) E
   {s with heap:=s.heap.push {cls:=.type "dict",data:=.dict #[]}}):
  ab (model prog w) A (eval (.Dict keys values pos) env) Q E s:=by
 rw [arm_eval_Dict,hshape,dictDisplay_pairs pairs h0 (by lia)]
 refine aa (au (aa (oP (knd:=knd) hlen (aG h (fun vs ag k=>?_) fun Y Y e=>e))))
 refine lu (k:) fun kvs hc hm hq=>?_
 exact⟨kvs,hc,hm,fun h' a b=>af (hq h' a b)⟩
def compPost(M:Model)(A:Around)(E:Value→Shared→Prop)(use:Option (Value→Sem Unit))(Q:Value→Shared→Prop)(acc:Value)(C:Addr)(r:Result)(s':Shared):Prop:=
 match r,use with
 |.ok _,none=>∃m,s'.heap.Ns C m∧∀h',Heap.SameBut C s'.heap h'→Q acc {s' with heap:=h'}
 |.ok _,some u=>ab M A (u acc) (fun Y gA=>∃m,gA.heap.Ns C m∧∀h',Heap.SameBut C gA.heap h'→Q .none {gA with heap:=h'}) E s'
 |.error x,_=>∃m,s'.heap.Ns C m∧∀h',Heap.SameBut C s'.heap h'→∀cenv:PySem.Env,cenv.locals=C→ab M A (passOn "comprehension.variables-let-go" x cenv:Sem Value) (fun Y Y=>False) E {s' with heap:=h'}
theorem oQ{M:Model}{α:Type}{c:Prop} [Decidable c]{pos:Pos}{k:PUnit→Sem α}{Q:α→Shared→Prop}(h:ab M A (k ()) Q E s):
  ab M A (if c then(standAt pos>>=k)else k ()) Q E s:=by
 split
 ·exact aa (au h)
 ·exact h
theorem gN{M:Model}{e:Expr}{scope:Scope}{pos:Pos}{B9 first:Sem Value}{g:Comprehension}{gs:List Comprehension}{cl:List (Str×Addr)}{use:Option (Value→Sem Unit)}
  {Q:Value→Shared→Prop}
  (hcl:clausesOf e=g::gs)(hs:∀x,foldedSetIterable g.iter env x=pure x)(hclos:closureFor scope env=pure cl)
  (hkind:scope.kind=.function)(hnames:∀x∈scope.names,x.2=.local→scope.names.lookup x.1=some .local)
  (h:ab M A first (fun x ag=>ab M A (pyIter x) (fun it aK=>ab M A B9 (fun acc bI=>
   ab M A (newFunctionEnv scope env.globals cl [] env.qual none .none (some env)) (fun cenv kF=>
    aY M A (.compStart e 0 it acc {cenv with scope:=relabel scope env}) (compPost M A E use Q acc cenv.locals) kF) E bI) E aK) E ag) E s):
  ab M A (comprehension e scope env pos B9 false first use) Q E s:=by
 unfold comprehension;rw [hclos,hcl];refine sq h fun x ag h₁=>aa (au (aa (aT (hs x) (sq (aj h₁) fun it aK bl=>
  oQ (sq bl fun acc bI dD=>aa (af (sq dD fun cenv kF iy=>?_)))))))
 dsimp only
 have hv:∀x∈(scope.names.filter fun x=>(x.2==.local||x.2==.cell)&&x.1 !=(".0":Str)).reverse,x.2=.local→
   PySem.Env.kindOf {cenv with scope:=relabel scope env} x.1=some .local:=fun x hx hl=>lookup_relabel_local (hnames x (List.mem_filter.mp (List.mem_reverse.mp hx)).1 hl)
 have Wh:∀x∈(scope.names.filter fun x=>(x.2==.local||x.2==.cell)&&x.1 !=(".0":Str)).reverse.drop 1++(scope.names.filter fun x=>(x.2==.local||x.2==.cell)&&x.1 !=(".0":Str)).reverse.take 1,
   x.2=.local→PySem.Env.kindOf {cenv with scope:=relabel scope env} x.1=some .local:=fun x hx hl=>by
  rcases List.mem_append.mp hx with h1|h1
  ·exact hv x (List.mem_of_mem_drop h1) hl
  ·exact hv x (List.mem_of_mem_take h1) hl
 refine aj (aa (jN (aj (px (fH iy fun r s' hr=>?_)))))
 cases r with
 |ok f=>
  cases use with
  |none=>
   refine aC (hr:) fun m hn hr=>?_
   exact aa (aj (lf (wpAny_comp_letGo (cenv:={cenv with scope:=relabel scope env}) hkind _ s' m hv hn fun h' m' Y pY=>af (hr h' pY))))
  |some u=>
   refine aa (cX (sq (aj hr) fun Y gA k=>?_))
   refine aC (k:) fun m hn k=>?_
   exact aa (lf (wpAny_comp_letGo (cenv:={cenv with scope:=relabel scope env}) hkind _ gA m Wh hn fun h' m' Y pY=>af (k h' pY)))
 |error x=>
  have RW:∃m,s'.heap.Ns cenv.locals m∧∀h',Heap.SameBut cenv.locals s'.heap h'→∀IZ:PySem.Env,IZ.locals=cenv.locals→ab M A (passOn "comprehension.variables-let-go" x IZ:Sem Value) (fun Y Y=>False) E {s' with heap:=h'}:=by cases use<;>exact hr
  refine aC (RW:) fun m hn hr=>?_
  exact aa (aj (lf (wpAny_comp_letGo (cenv:={cenv with scope:=relabel scope env}) hkind _ s' m hv hn fun h' m' Y pY=>aG (hr h' pY _ rfl) (fun Y Y f=>f.elim) fun Y Y y=>y)))
def Gj(M:Model)(A:Around)(R:Result→Shared→Prop)(fin:Fin)(s':Shared):Prop:=
 match fin with|.done f=>R (.ok f) s'|.again c'=>c'.quiet=true∧aY M A c' R s'
theorem fq{id:String}{args:Args}{b:Builtin}(hb:entryFor table id=some b)
  (h:ab (model prog w) (A.under (.builtin id args)) (b args) (Gj (model prog w) A R) (fun e s'=>R (.error e) s') s)(hn:iq id=true:=by decide+kernel):
  aY (model prog w) A (.builtin id args) R s:=by
 refine bf ?_ hn
 show ab _ _ (match entryFor table id with|some b=>b args|none=>unsupported ((withoutEnding? id "#data").getD id)) _ _ s
 rw [hb];exact h
theorem d7{id:String}{args:Args}{b:Builtin}(hq:(Code.builtin id args).quiet=true)(hb:entryFor table id=some b)
  (h:ab (model prog w) A.in1 (checkBuiltinCall id args) (fun Y ag=>ab (model prog w) (A.under (.builtin id args)) (b args) (Gj (model prog w) A R) (fun e s'=>R (.error e) s') ag)
   (fun e s'=>R (.error e) s') s)(hn:iq id=true:=by decide+kernel):aY (model prog w) A (.call (.builtin id) args) R s:=by
 refine bf ?_
 show ab _ A.in1 (checkBuiltinCall id args>>=fun Y=>pure (Fin.again (.builtin id args))) _ _ s
 exact sq h fun Y ag k=>af (And.intro hq (fq hb k hn))
theorem fb{id:String}{args:Args}{b:Builtin}(hq:plainId id=true)(hb:entryFor table id=some b)
  (h:ab (model prog w) A.in1 (checkBuiltinCall id args) (fun Y ag=>ab (model prog w) A.in1 (b args) (Gj (model prog w) A R) (fun e s'=>R (.error e) s') ag)
   (fun e s'=>R (.error e) s') s)(hn:iq id=true:=by decide+kernel):aY (model prog w) A (.call (.builtin id) args) R s:=
 d7 (plainId_quiet hq args) hb (by rw [Around.under_plainId hq args];exact h) hn
theorem bW{T:String}{name:Str}
  {id:String}{b:Builtin}{self:Value}{rest:List Value}{Q:Value→Shared→Prop}(h:Slot T name id)(hT:s.TypeIs self T)
  (hb:entryFor table id=some b)
  (hc:ab (model prog w) A.in1 (b ⟨self::rest,[]⟩) (fun fin s'=>∃v,fin=.done (.ret v)∧Q v s') E s)
  (ha:argsOk id ⟨self::rest,[]⟩:=by rfl)(hn:iq id=true:=by decide+kernel):
  ab (model prog w) A (call (.builtin id) (self::rest)) Q E s:=by
 refine dj (fb h.plain hb (lf (h.check _ _ _ _ _ _ _ _ hT ha (aG hc (fun fin s' k=>?_) fun Y Y k=>k))) hn)
 obtain⟨v,rfl,hv⟩:=k;exact hv
theorem yL{C:Addr}{h:Heap}{g:_}{d:_}{t:Tok}{os:_}{rest:List Value}{kw:List (Str×Value)}{init:Value}(Y1:Makes (model prog w) h C)(hi:Looks (model prog w) h (typeLookup (.ref C) "__init__") (some init))
  (hb:∀self,Looks (model prog w) h (bindSpecial init self) (init,[self]))(hne:(some init !=some (Value.builtin "object.__init__"))=true∨(rest=[]∧kw=[]))
  (hq:aY (model prog w) (A.under (.builtin "type.__call__" ⟨.ref C::rest,kw⟩)) (.call init ⟨.ref (h.objs.size+1)::rest,kw⟩) (InitBack (h.objs.size+1) R) ⟨(h.push emptyDict).push (instObj C h.objs.size),g,d,t,os⟩):
  aY (model prog w) A (.call (.ref C) ⟨rest,kw⟩) R ⟨h,g,d,t,os⟩:=by
 have Y':=Y1
 obtain⟨⟨oc,od,cd,sl,hC,e1,e2,e4⟩,made,base,self,top,Pq,typ⟩:=Y1
 refine bf ?_
 show ab _ _ (callAny (.ref C) _) _ _ _;refine aa (m:=load C) (lf (wpAny_load hC ?_))
 show ab _ _ (callAny.viaDunder (.ref C) _) _ _ _;unfold callAny.viaDunder;refine aa (lf (Pq.at ?_))
 dsimp only
 rw [tc_bind];refine aa (af (aa (af ?_)));refine af (a:=Fin.again (.call (.builtin "type.__call__") ⟨.ref C::rest,kw⟩)) (And.intro rfl ?_)
 refine d7 (Code.quiet_builtin _ (by decide+kernel)) entry_typeCall (lf (check_slot tc_kind tc_split typ (tc_args _ _ _) ?_))
 have hm:Looks (model prog w) h (mroOf (.ref C)) cd.mro:=((Looks.ld (part:=none) hC).andThen .now).andThen .now
 show ab _ _ (mroOf (.ref C)>>=fun m=>_) _ _ _
 refine aa (lf (hm.at ?_))
 rw [e4];show ab _ _ (Bind.madeBy (.ref C)>>=fun m=>_) _ _ _
 refine aa (lf (made.at ?_))
 refine aa (af (aa (aj ?_)))
 refine lf (PySem.wpAny_call (new_K Y' hi hne ?_))
 have k:∀b o,h.get? b=some o→((h.push emptyDict).push (instObj C h.objs.size)).get? b=some o:=fun b o e=>Heap.get?_push_of_some _ (Heap.get?_push_of_some _ e)
 have hx:((h.push emptyDict).push (instObj C h.objs.size)).get? (h.objs.size+1)=some (instObj C h.objs.size):=by heap_get
 have t1:Looks (model prog w) ((h.push emptyDict).push (instObj C h.objs.size)) (typeOf (.ref (h.objs.size+1))) (.ref C):=(Looks.ld hx).andThen .now
 have s1:=self.keeps k
 have i1:=hi.keeps k
 have b1:=(hb (.ref (h.objs.size+1))).keeps k
 show ab _ _ (isInstance (.ref (h.objs.size+1)) (.ref C)>>=fun m=>_) _ _ _
 refine aa (lf ((t1.andThen s1:Looks _ _ (isInstance (.ref (h.objs.size+1)) (.ref C)) true).at ?_))
 simp only[Bool.not_true,Bool.false_eq_true,if_false]
 refine aa (aj ?_)
 unfold callSpecial?;refine aa (lf ((t1.andThen i1:Looks _ _ (specialOf (.ref (h.objs.size+1)) "__init__") (some init)).at ?_));refine aj (aa (lf (b1.at ?_)));refine aa (dj (fH hq fun r s' z=>?_))
 rcases r with e|(v|_|_|_)<;>first|exact z|exact z.elim|skip
 obtain⟨rfl,z⟩:=z
 exact af (af z)
end
end
end Mine.Internal
namespace Mine.Internal
open PySem PySem.W PyProof.Rows PySem.SeqAt
noncomputable section
variable{A:Around}{E Q:Value→Shared→Prop}{M M' Z:Addr→Prop}{b r:Bool}{d i j k kind n:Nat}{es:List DictEntry}{h h':Heap}{hi:Option Int}{o:Obj}{pos:Pos}{ras vs:List Value}{rv:Value}{st:Shared}{tg:List Nat}{value x x1:Expr}{xs:List Expr}{α β:Type}{ν:Nat→Int}{J σ':List Addr}
inductive IE where
 |c (i:Int)|v (k:Nat)
 |add (a b:IE)|sub (a b:IE)|mul (a b:IE)|div (a b:IE)|mod (a b:IE)
 |tab (l:List Int) (a:IE)
 deriving Inhabited
noncomputable def IE.eval(ν:Nat→Int):IE→Int
 |.c i=>i
 |.v k=>ν k
 |.add a b=>a.eval ν+b.eval ν
 |.sub a b=>a.eval ν - b.eval ν
 |.mul a b=>a.eval ν*b.eval ν
 |.div a b=>Int.fdiv (a.eval ν) (b.eval ν)
 |.mod a b=>Int.fmod (a.eval ν) (b.eval ν)
 |.tab l a=>l.getD (a.eval ν).toNat 0
inductive AV where
 |none
 |bool (b:Bool)
 |int (e:IE)
 |str (s:List Nat)
 |bytes (b:List IE)
 |t (l:List AV)
 |dW (l:List (List Nat×AV))
 |ref (i:Nat)
 |fn (k:Nat)
 |cls (k:Nat)
 |bi (k:Nat)
 |uU (k:Nat) (bM:List AV)
 |xv (a b:Int)
 |mj (i:Nat)
 deriving Inhabited
variable{a v:AV}{as l:List AV}
inductive AO where
 |list (l:List AV)
 |inst (c d:Nat)
 |ns (l:List (Nat×AV))
 |cb (b:List IE)
 deriving Inhabited
inductive Op where
 |add|sub|mul|div|mod|pow
 deriving Inhabited
inductive Cm where
 |eq|ne|lt|le|gt|ge|is|tI|oM|B8
 deriving Inhabited
inductive CE where
 |n (x:Nat)
 |val (v:AV)
 |t (es:List CE)
 |list (es:List CE)
 |dW (ks:List (List Nat)) (es:List CE)
 |bin (op:Op) (a b:CE)
 |cmp (op:Cm) (a b:CE)
 |chain (op:Cm) (a b:CE) (jI:Cm) (c:CE)
 |and (es:List CE)
 |or (es:List CE)
 |not (a:CE)
 |neg (a:CE)
 |ite (t a b:CE)
 |attr (o:CE) (n:Nat)
 |idx (o i:CE)
 |il (o:CE) (lo hi:Option CE)
 |rev (o:CE)
 |call (f:CE) (as:List CE)
 |bC (o:CE) (n:Nat) (as:List CE)
 |comp (elt:CE) (tg:List Nat) (flat:Bool) (it:CE) (ifs:List CE)
 |gy (elt:CE) (tg:List Nat) (flat:Bool) (ifs:List CE) (src:AV) (k:Nat) (acc:List AV)
 |lam (k:Nat) (bM:List Nat)
 |eM (x:Nat)
 |bad (n:Nat)
 deriving Inhabited
variable{e:CE}
inductive CS where
 |bU (x:Nat) (e:CE)
 |cD (xs:List Nat) (e:CE)
 |aR (o:CE) (n:Nat) (e:CE)
 |jM (o i:CE) (e:CE)
 |iP (o lo hi:CE) (e:CE)
 |iJ (o i:CE) (x:Nat) (e:CE)
 |ex (e:CE)
 |ret (e:CE)
 |ite (t:CE) (a b:List CS)
 |for (tg:List Nat) (flat:Bool) (kind:Nat) (it:CE) (b:List CS)
 |gQ (tg:List Nat) (flat:Bool) (kind:Nat) (src:AV) (k:Nat) (b:List CS)
 |while (t:CE) (b:List CS)
 |try (b:List CS)
 |pass
 |bad (n:Nat)
 deriving Inhabited
inductive aE(α:Type)where
 |nil
 |node (v:Option α) (l r:aE α)
 deriving Inhabited
namespace aE
noncomputable def get(t:aE α):Nat→Option α:=
 aE.rec (motive:=fun Y=>Nat→Option α) (fun Y=>.none) (fun v Y Y gl gr i=>
  Nat.rec (motive:=fun Y=>Option α) v (fun Y Y=>Nat.rec (motive:=fun Y=>Option α) (gr (Nat.sub (Nat.div i 2) 1)) (fun Y Y=>gl (Nat.div i 2)) (Nat.mod i 2)) i) t
noncomputable def Qg(f:aE α→Nat→α→aE α)(i:Nat)(o:α)(v:Option α)(l r:aE α):aE α:=
 Nat.rec (motive:=fun Y=>aE α) (.node (some o) l r) (fun Y Y=>Nat.rec (motive:=fun Y=>aE α) (.node v l (f r (Nat.sub (Nat.div i 2) 1) o)) (fun Y Y=>.node v (f l (Nat.div i 2) o) r) (Nat.mod i 2)) i
def put(n:Nat):aE α→Nat→α→aE α:=
 Nat.rec (motive:=fun Y=>aE α→Nat→α→aE α) (fun t Y Y=>t) (fun Y f t i o=>aE.rec (motive:=fun Y=>aE α) (Qg f i o .none .nil .nil) (fun v l r Y Y=>Qg f i o v l r) t) n
def ofList(l:List α):aE α:=(l.foldl (fun(p:aE α×Nat) o=>(put 40 p.1 p.2 o,p.2+1)) (.nil,0)).1
end aE
noncomputable def ig(a b:Int):Bool:=PySem.W.Z.eqB a b
noncomputable def iN(a b:Int):Bool:=PySem.W.Z.ltB a b
noncomputable def jC(a b:Int):Bool:=PySem.W.Z.leB a b
noncomputable def lEq:List Nat→List Nat→Bool
 |[],m=>(match m with|[]=>true|_::_=>false)
 |a::x,m=>match m with|[]=>false|b::y=>match Nat.beq a b with|true=>lEq x y|false=>false
abbrev Rg:=List (Int×Int)
variable{rg:Rg}
def mu(a b:Int):Int:=match jC a b with|true=>a|false=>b
def imax(a b:Int):Int:=match jC a b with|true=>b|false=>a
noncomputable def Cw:List Int→Int→Int
 |[],m=>m
 |a::l,m=>Cw l (mu a m)
noncomputable def Cy:List Int→Int→Int
 |[],m=>m
 |a::l,m=>Cy l (imax a m)
noncomputable def ck(b:Bool)(r:Option α):Option α:=match b with|true=>r|false=>none
noncomputable def fM(o:Option α)(g:α→Option β):Option β:=match o with|some a=>g a|none=>none
noncomputable def jW(l:List α)(g:α→List α→Option β):Option β:=match l with|a::r=>g a r|[]=>none
noncomputable def gE(e:IE):Option Int:=match e with|.c i=>some i|_=>none
noncomputable def El(e:IE):Option Nat:=match e with|.v i=>some i|_=>none
noncomputable def mr:IE→IE
 |.c i=>.c i|.v k=>.v k|.add a _=>a|.sub a _=>a|.mul a _=>a|.div a _=>a|.mod a _=>a|.tab _ a=>a
noncomputable def qT:IE→IE
 |.c i=>.c i|.v k=>.v k|.add _ a=>a|.sub _ a=>a|.mul _ a=>a|.div _ a=>a|.mod _ a=>a|.tab _ a=>a
noncomputable def HR:IE→List Int
 |.c _=>[]|.v _=>[]|.add _ _=>[]|.sub _ _=>[]|.mul _ _=>[]|.div _ _=>[]|.mod _ _=>[]|.tab l _=>l
noncomputable def Mh(e:IE)(k:Nat):Bool:=Nat.beq e.ctorIdx k
noncomputable def fQ(rg:Rg):IE→Option (Int×Int)
 |.c i=>some (i,i)
 |.v k=>rg[k]?
 |.add a b=>fM (fQ rg a) fun p=>fM (fQ rg b) fun q=>some (p.1+q.1,p.2+q.2)
 |.sub a b=>fM (fQ rg a) fun p=>fM (fQ rg b) fun q=>some (p.1 - q.2,p.2 - q.1)
 |.mul a b=>fM (fQ rg a) fun p=>fM (gE b) fun i=>ck (jC 0 i) (some (p.1*i,p.2*i))
 |.div a b=>fM (fQ rg a) fun p=>fM (gE b) fun i=>ck (iN 0 i) (some (Int.fdiv p.1 i,Int.fdiv p.2 i))
 |.mod a b=>fM (fQ rg a) fun Y=>fM (gE b) fun i=>ck (iN 0 i) (some (0,i - 1))
 |.tab l a=>fM (fQ rg a) fun p=>ck (jC 0 p.1&&iN p.2 l.length) (jW ((l.take (p.2+1).toNat).drop p.1.toNat) fun x r=>some (Cw r x,Cy r x))
def lQ(e:IE):Option (IE×Int):=ck (Mh e 2) (fM (gE (qT e)) fun i=>some (mr e,i))
def uG(x:IE)(j:Int):IE:=match gE x with
 |some i=>.c (i+j)
 |none=>match lQ x with
  |some p=>(match ig (p.2+j) 0 with|true=>p.1|false=>.add p.1 (.c (p.2+j)))
  |none=>match ig j 0 with|true=>x|false=>.add x (.c j)
def L0(x y:IE):IE:=match lQ x with
 |some p=>(match lQ y with|some q=>uG (.add p.1 q.1) (p.2+q.2)|none=>.add (.add p.1 y) (.c p.2))
 |none=>match lQ y with|some q=>.add (.add x q.1) (.c q.2)|none=>.add x y
def mkAdd(x y:IE):IE:=match gE y with
 |some j=>uG x j
 |none=>match gE x with|some i=>uG y i|none=>L0 x y
def mkSub(x y:IE):IE:=match gE y with
 |some j=>uG x (-j)
 |none=>.sub x y
def mulC(x:IE)(j:Int):IE:=match gE x with
 |some i=>.c (i*j)
 |none=>match ig j 0 with
  |true=>.c 0
  |false=>match ig j 1 with
   |true=>x
   |false=>match lQ x with
    |some p=>.add (.mul p.1 (.c j)) (.c (p.2*j))
    |none=>.mul x (.c j)
def mkMul(x y:IE):IE:=match gE y with
 |some j=>mulC x j
 |none=>match gE x with|some i=>mulC y i|none=>.mul x y
def both(x y:IE)(g:Int→Int→α)(d:α):α:=match gE x with
 |some i=>(match gE y with|some j=>g i j|none=>d)
 |none=>d
def Ik(x y:IE):IE:=both x y (fun i j=>.c (Int.fdiv i j)) (.div x y)
noncomputable def ox(m:Int):IE→IE
 |.add a b=>mkAdd (ox m a) (ox m b)
 |.mul a b=>(match gE b with
  |some k=>(match ig (Int.emod k m) 0 with|true=>.c 0|false=>.mul a b)
  |none=>.mul a b)
 |.c i=>.c (Int.emod i m)
 |.v k=>.v k
 |.sub a b=>.sub a b
 |.div a b=>.div a b
 |.mod a b=>.mod a b
 |.tab l a=>.tab l a
def BL(rg:Rg)(m:Int)(x y:IE):IE:=match fQ rg y with
 |some p=>(match iN (p.2 - Int.fdiv p.1 m*m) m with
  |true=>uG y (-(Int.fdiv p.1 m*m))
  |false=>.mod x (.c m))
 |none=>.mod x (.c m)
def Ij(rg:Rg)(x y:IE):IE:=both x y (fun i j=>.c (Int.fmod i j)) (match gE y with
 |some m=>(match iN 0 m with
  |true=>BL rg m x (ox m x)
  |false=>.mod x (.c m))
 |none=>.mod x y)
structure AS where
 hp:aE AO
 n:Nat
 rg:Rg
 deriving Inhabited
variable{s s':AS}
inductive aH(α:Type)where
 |ok (a:α)
 |fork (k:Nat) (a b:IE) (t f:aH α)
 |bad (n:Nat)
 deriving Inhabited
namespace aH
noncomputable def bind(r:aH α)(g:α→aH β):aH β:=
 aH.rec (motive:=fun Y=>aH β) (fun a=>g a) (fun k a b Y Y ht hf=>.fork k a b ht hf) (fun n=>.bad n) r
end aH
noncomputable def ff:Rg→Nat→Int×Int→Rg
 |[],_,_=>[]
 |x::r,k,y=>match Nat.beq k 0 with
  |true=>y::r
  |false=>x::ff r (k - 1) y
def pC(x:IE):Option (Nat×Int):=match El x with
 |some k=>some (k,0)
 |none=>fM (lQ x) fun p=>fM (El p.1) fun k=>some (k,p.2)
def dM(kind:Nat)(i j:Int):Bool:=match kind with
 |0=>ig i j
 |1=>iN i j
 |_=>jC i j
noncomputable def pick(sw b:Bool)(r1 r2 r3 r4:Rg):Rg:=match sw with
 |false=>(match b with|true=>r1|false=>r2)
 |true=>match b with|true=>r3|false=>r4
def mF(rg:Rg)(kind:Nat)(sw:Bool)(k:Nat)(m:Int)(b:Bool):Rg:=
 match rg[k]? with
 |none=>rg
 |some p=>match kind with
  |0=>(match b with
   |true=>ff rg k (imax p.1 m,mu p.2 m)
   |false=>match ig p.1 m with
    |true=>ff rg k (p.1+1,p.2)
    |false=>match ig p.2 m with
     |true=>ff rg k (p.1,p.2 - 1)
     |false=>rg)
  |1=>pick sw b (ff rg k (p.1,mu p.2 (m - 1))) (ff rg k (imax p.1 m,p.2)) (ff rg k (imax p.1 (m+1),p.2)) (ff rg k (p.1,mu p.2 m))
  |_=>pick sw b (ff rg k (p.1,mu p.2 m)) (ff rg k (imax p.1 (m+1),p.2)) (ff rg k (imax p.1 m,p.2)) (ff rg k (p.1,mu p.2 (m - 1)))
def narrow(rg:Rg)(kind:Nat)(x y:IE)(b:Bool):Rg:=match gE y with
 |some j=>(match pC x with
  |some p=>mF rg kind false p.1 (j - p.2) b
  |none=>rg)
 |none=>match gE x with
  |some j=>(match pC y with
   |some p=>mF rg kind true p.1 (j - p.2) b
   |none=>rg)
  |none=>rg
noncomputable def F4:List Int→List Int→Bool
 |[],m=>(match m with|[]=>true|_::_=>false)
 |a::x,m=>match m with|[]=>false|b::y=>match ig a b with|true=>F4 x y|false=>false
def so(k:Nat)(y:IE)(f g:IE→Bool):Bool:=match Mh y k with
 |true=>(match f (mr y)with|true=>g (qT y)|false=>false)
 |false=>false
noncomputable def fB:IE→IE→Bool
 |.c i,y=>(match gE y with|some j=>ig i j|none=>false)
 |.v i,y=>(match El y with|some j=>Nat.beq i j|none=>false)
 |.add a b,y=>so 2 y (fun c=>fB a c) fun c=>fB b c
 |.sub a b,y=>so 3 y (fun c=>fB a c) fun c=>fB b c
 |.mul a b,y=>so 4 y (fun c=>fB a c) fun c=>fB b c
 |.div a b,y=>so 5 y (fun c=>fB a c) fun c=>fB b c
 |.mod a b,y=>so 6 y (fun c=>fB a c) fun c=>fB b c
 |.tab l a,y=>so 7 y (fun c=>fB a c) fun Y=>F4 l (HR y)
def Lr(p q:Int×Int)(a b:IE):Option Bool:=match iN p.2 q.1||iN q.2 p.1 with
 |true=>some false
 |false=>match ig p.1 p.2&&(ig q.1 q.2&&ig p.1 q.1)with
  |true=>some true
  |false=>ck (fB a b) (some true)
def Lq(p q:Int×Int):Option Bool:=match iN p.2 q.1 with
 |true=>some true
 |false=>ck (jC q.2 p.1) (some false)
def Lp(p q:Int×Int):Option Bool:=match jC p.2 q.1 with
 |true=>some true
 |false=>ck (iN q.2 p.1) (some false)
def rF(rg:Rg)(kind:Nat)(a b:IE):Option Bool:=
 fM (fQ rg a) fun p=>fM (fQ rg b) fun q=>match kind with
  |0=>Lr p q a b
  |1=>Lq p q
  |_=>Lp p q
noncomputable def qX(m:Int):List Int→Bool
 |[]=>true
 |x::r=>match ig x m with|true=>false|false=>qX m r
def tabAt(rg:Rg)(a b:IE):Option (IE×IE):=ck (Mh a 7) (fM (El (mr a)) fun k=>fM (gE b) fun m=>fM rg[k]? fun p=>ck (jC 0 p.1&&iN p.2 (HR a).length) (jW (((HR a).take (p.2+1).toNat).drop p.1.toNat) fun x r=>
 ck (ig x m&&qX m r) (some (.v k,.c p.1))))
def Bv(rg:Rg)(kind:Nat)(a b:IE):Option (IE×IE):=match kind with
 |0=>tabAt rg a b
 |_=>none
def yf(kind:Nat)(x y:IE)(s:AS):aH (Bool×AS):=.fork kind x y (.ok (true,{s with rg:=narrow s.rg kind x y true})) (.ok (false,{s with rg:=narrow s.rg kind x y false}))
def ask'(kind:Nat)(a b:IE)(s:AS):aH (Bool×AS):=match rF s.rg kind a b with
 |some r=>.ok (r,s)
 |none=>match Bv s.rg kind a b with
  |some p=>yf 0 p.1 p.2 s
  |none=>yf kind a b s
def ask(kind:Nat)(a b:IE)(s:AS):aH (Bool×AS):=both a b (fun i j=>.ok (dM kind i j,s)) (ask' kind a b s)
noncomputable def oA:Nat→IE→AS→aH (Int×AS)
 |0,_,_=>.bad 1
 |n+1,e,s=>match gE e with
  |some i=>.ok (i,s)
  |none=>match fQ s.rg e with
   |none=>.bad 2
   |some p=>match ig p.1 p.2 with
    |true=>.ok (p.1,s)
    |false=>(ask 0 e (.c p.1) s).bind fun(b,s)=>match b with
     |true=>.ok (p.1,s)
     |false=>oA n e s
abbrev Env:=List (Nat×AV)
variable{env:PySem.Env}{ρ:Env}
noncomputable def az:Env→Nat→Option AV
 |[],_=>none
 |p::r,x=>match Nat.beq p.1 x with|true=>some p.2|false=>az r x
noncomputable def bO:Env→Nat→AV→Env
 |[],x,v=>[(x,v)]
 |p::r,x,v=>match Nat.beq p.1 x with|true=>(x,v)::r|false=>p::bO r x v
noncomputable def i9:AV→Bool
 |.bi _=>false
 |.mj _=>false
 |_=>true
noncomputable def gm:List (Nat×Nat)→Nat→Option Nat
 |[],_=>none
 |p::r,x=>match Nat.beq p.1 x with|true=>some p.2|false=>gm r x
inductive Fl where
 |nx
 |rt (v:AV)
 deriving Inhabited
structure Fn where
 ps:List Nat
 df:List AV
 body:List CS
 deriving Inhabited
structure Pg where
 fs:aE Fn
 gn:aE (List Nat×List Nat×CE)
 cs:aE (Nat×List (Nat×Nat))
 gl:aE AV
 nf:Nat
 sm:Nat→List AV→AS→Option (aH (AV×AS))
 smd:Nat
variable{P:Pg}
structure Ih where
 ev:CE→Env→AS→aH (AV×AS)
 ts:CE→Env→AS→aH (Bool×AS)
 xs:List CS→Env→AS→aH (Fl×Env×AS)
 ca:AV→List AV→AS→aH (AV×AS)
variable{ih:Ih}
noncomputable def AS.get(s:AS)(i:Nat):Option AO:=s.hp.get i
noncomputable def AS.new(s:AS)(o:AO):Nat×AS:=(s.n,{s with hp:=aE.put 40 s.hp s.n o,n:=s.n+1})
noncomputable def AS.alloc(s:AS)(o:AO):aH (Nat×AS):=match Nat.blt s.n 1000000 with
 |true=>.ok (s.new o)
 |false=>.bad 95
noncomputable def AS.upd(s:AS)(i:Nat)(o:AO):AS:={s with hp:=aE.put 40 s.hp i o}
structure oO where
 append:Nat
 extend:Nat
 pop:Nat
 split:Nat
 find:Nat
 join:Nat
 get:Nat
 init:Nat
variable{N:oO}
noncomputable def jD(n:Nat)(r:aH α):aH α:=match Nat.ble n 100000 with
 |true=>r
 |false=>.bad 96
def newList(s:AS)(l:List AV):aH (AV×AS):=jD l.length<|(s.alloc (.list l)).bind fun(i,s)=>.ok (.ref i,s)
noncomputable def listOf(s:AS):AV→Option (List AV)
 |.ref i=>match s.get i with
  |some (.list l)=>some l
  |_=>none
 |_=>none
noncomputable def instOf(s:AS):AV→Option (Nat×Nat×List (Nat×AV))
 |.ref i=>match s.get i with
  |some (.inst c d)=>match s.get d with
   |some (.ns l)=>some (c,d,l)
   |_=>none
  |_=>none
 |_=>none
noncomputable def rK(s:AS):AV→Option (List IE)
 |.ref i=>match s.get i with
  |some (.cb b)=>some b
  |_=>none
 |_=>none
abbrev RV:=aH (AV×AS)
section
noncomputable def one(as:List AV)(g:AV→aH β):aH β:=match as with
 |[a]=>g a
 |_=>.bad 30
noncomputable def two(as:List AV)(g:AV→AV→aH β):aH β:=match as with
 |[a,b]=>g a b
 |_=>.bad 30
noncomputable def cL(a:AV)(g:IE→aH β):aH β:=match a with
 |.int e=>g e
 |_=>.bad 30
noncomputable def onStr(a:AV)(g:List Nat→aH β):aH β:=match a with
 |.str x=>g x
 |_=>.bad 42
noncomputable def Fv(a:AV)(g:List IE→aH β):aH β:=match a with
 |.bytes x=>g x
 |_=>.bad 42
noncomputable def pR(a:AV)(g:List AV→aH β):aH β:=match a with
 |.t x=>g x
 |_=>.bad 42
noncomputable def Aw(s:AS)(a:AV)(gl:List AV→aH β)(gb:List IE→aH β):aH β:=match a with
 |.ref i=>match s.get i with
  |some (.list l)=>gl l
  |some (.cb l)=>gb l
  |_=>.bad 21
 |_=>.bad 30
def kj(s:AS)(a:AV)(g:List AV→aH β):aH β:=match listOf s a with
 |some l=>g l
 |none=>.bad 45
noncomputable def iff(b:Bool)(r r':aH β):aH β:=match b with
 |true=>r
 |false=>r'
noncomputable def gd(b:Bool)(r:aH β):aH β:=match b with
 |true=>r
 |false=>.bad 12
noncomputable def bL(o:Option α)(g:α→aH β):aH β:=match o with
 |some a=>g a
 |none=>.bad 44
end
noncomputable def clamp(n:Nat)(i:Int):Nat:=match i with
 |.ofNat k=>Nat.min k n
 |.negSucc k=>n - (k+1)
noncomputable def cut(l:List α)(lo hi:Nat):List α:=(l.take hi).drop lo
noncomputable def index(n:Nat)(i:Int):Option Nat:=match i with
 |.ofNat k=>match Nat.blt k n with|true=>some k|false=>none
 |.negSucc k=>match Nat.ble (k+1) n with|true=>some (n - (k+1))|false=>none
noncomputable def strLt:List Nat→List Nat→Bool
 |[],[]=>false
 |[],_::_=>true
 |_::_,[]=>false
 |a::x,b::y=>match Nat.blt a b with
  |true=>true
  |false=>match Nat.beq a b with
   |true=>strLt x y
   |false=>false
noncomputable def gk(c:Nat):List Nat→Bool
 |[]=>false
 |b::y=>match Nat.beq b c with|true=>true|false=>gk c y
noncomputable def rD:List IE→List IE→AS→aH (Bool×AS)
 |[],m,s=>(match m with|[]=>.ok (true,s)|_::_=>.ok (false,s))
 |a::x,m,s=>match m with
  |[]=>.ok (false,s)
  |b::y=>(ask 0 a b s).bind fun(r,s)=>match r with
   |true=>rD x y s
   |false=>.ok (false,s)
def eqB(a b:AV)(s:AS):aH (Bool×AS):=match a with
 |.int x=>cL b fun y=>ask 0 x y s
 |.str x=>onStr b fun y=>.ok (lEq x y,s)
 |.bytes x=>Fv b fun y=>rD x y s
 |_=>.bad 3
noncomputable def Ds:List AV→List AV→AS→aH (Bool×AS)
 |[],m,s=>(match m with|[]=>.ok (true,s)|_::_=>.ok (false,s))
 |a::x,m,s=>match m with
  |[]=>.ok (false,s)
  |b::y=>(eqB a b s).bind fun(r,s)=>(Ds x y s).bind fun(r',s)=>.ok (r&&r',s)
def IT(x y:List AV)(s:AS):aH (Bool×AS):=iff (Nat.beq x.length y.length) (Ds x y s) (.ok (false,s))
def SI(a b:AV)(s:AS):aH (Bool×AS):=match a with
 |.t x=>pR b fun y=>Ds x y s
 |.ref i=>kj s (.ref i) fun x=>kj s b fun y=>IT x y s
 |a=>eqB a b s
noncomputable def qz(a:AV):List AV→AS→aH (Bool×AS)
 |[],s=>.ok (false,s)
 |b::y,s=>(eqB b a s).bind fun(r,s)=>(qz a y s).bind fun(r',s)=>.ok (r||r',s)
noncomputable def D9(a:IE):List IE→AS→aH (Bool×AS)
 |[],s=>.ok (false,s)
 |b::y,s=>(ask 0 a b s).bind fun(r,s)=>match r with
  |true=>.ok (true,s)
  |false=>D9 a y s
noncomputable def gw:List (List Nat×AV)→List Nat→Option AV
 |[],_=>none
 |p::r,k=>match lEq p.1 k with|true=>some p.2|false=>gw r k
noncomputable def FI(r:aH (Bool×AS))(neg:Bool):aH (AV×AS):=r.bind fun(b,s)=>.ok (.bool (b !=neg),s)
def Ug(x:IE)(y:List IE)(s:AS):aH (Bool×AS):=bL (fQ s.rg x) fun p=>gd (jC 0 p.1&&iN p.2 256) (D9 x y s)
def Ue(x y:List Nat)(s:AS):aH (Bool×AS):=gd (Nat.beq x.length 1) (.ok (gk (x.headD 0) y,s))
def isIn(a b:AV)(s:AS):aH (Bool×AS):=match b with
 |.t l=>qz a l s
 |.ref i=>kj s (.ref i) fun l=>qz a l s
 |.str y=>onStr a fun x=>Ue x y s
 |.bytes y=>cL a fun x=>Ug x y s
 |.dW l=>onStr a fun x=>.ok ((gw l x).isSome,s)
 |_=>.bad 7
noncomputable def isNone(a b:AV)(s:AS):aH (Bool×AS):=match b with
 |.none=>(match a with
  |.none=>.ok (true,s)
  |.bool _=>.ok (false,s)
  |.int _=>.ok (false,s)
  |.str _=>.ok (false,s)
  |.t _=>.ok (false,s)
  |.ref _=>.ok (false,s)
  |_=>.bad 8)
 |_=>.bad 8
def IY(a b:AV)(s:AS):aH (Bool×AS):=match a with
 |.int x=>cL b fun y=>ask 2 x y s
 |.str x=>onStr b fun y=>.ok (!strLt y x,s)
 |_=>.bad 9
def compare(op:Cm)(a b:AV)(s:AS):aH (Bool×AS):=match op with
 |.eq=>SI a b s
 |.ne=>(SI a b s).bind fun(r,s)=>.ok (!r,s)
 |.is=>isNone a b s
 |.tI=>(isNone a b s).bind fun(r,s)=>.ok (!r,s)
 |.oM=>isIn a b s
 |.B8=>(isIn a b s).bind fun(r,s)=>.ok (!r,s)
 |.lt=>cL a fun x=>cL b fun y=>ask 1 x y s
 |.le=>IY a b s
 |.gt=>cL a fun x=>cL b fun y=>ask 1 y x s
 |.ge=>cL a fun x=>cL b fun y=>ask 2 y x s
noncomputable def mC(l:List α):Nat→List α
 |0=>[]
 |n+1=>l++mC l n
def eW(rg:Rg)(e:IE):Bool:=match fQ rg e with
 |some p=>iN (-18446744073709551616) p.1&&iN p.2 18446744073709551616
 |none=>false
def mid(rg:Rg)(e:IE):Bool:=match fQ rg e with
 |some p=>iN (-(2^8192:Nat)) p.1&&iN p.2 (2^8192:Nat)
 |none=>false
def Qj(e:IE)(g:Int→RV):RV:=bL (gE e) g
def Rf(i j:Int)(s:AS):RV:=match j with
 |.ofNat n=>gd (Nat.ble n 200&&eW s.rg (.c i)) (.ok (.int (.c (i^n)),s))
 |.negSucc _=>.bad 11
def H7(op:Op)(x y:IE)(s:AS):RV:=match op with
 |.add=>.ok (.int (mkAdd x y),s)
 |.sub=>.ok (.int (mkSub x y),s)
 |.mul=>gd (eW s.rg y||(eW s.rg x||(mid s.rg x&&mid s.rg y))) (.ok (.int (mkMul x y),s))
 |.div=>Qj y fun j=>gd (iN 0 j&&iN j 1073741824) (.ok (.int (Ik x (.c j)),s))
 |.mod=>Qj y fun j=>gd (iN 0 j) (.ok (.int (Ij s.rg x (.c j)),s))
 |.pow=>Qj x fun i=>Qj y fun j=>Rf i j s
def PB(x:List IE)(y:IE)(s:AS):RV:=(oA 40 y s).bind fun(n,s)=>gd (Nat.ble 1 x.length&&(Nat.ble x.length 16&&(jC (-100000) n&&jC n 100000))) (.ok (.bytes (mC x n.toNat),s))
def Rj(op:Op)(x:List IE)(b:AV)(s:AS):RV:=match op with
 |.add=>Fv b fun y=>jD (x.length+y.length) (.ok (.bytes (x++y),s))
 |.mul=>cL b fun y=>PB x y s
 |_=>.bad 11
noncomputable def BY(op:Op)(r:RV):RV:=match op with
 |.add=>r
 |_=>.bad 11
def binop(op:Op)(a b:AV)(s:AS):RV:=match a with
 |.int x=>cL b fun y=>H7 op x y s
 |.bytes x=>Rj op x b s
 |.t x=>BY op (pR b fun y=>jD (x.length+y.length) (.ok (.t (x++y),s)))
 |.ref i=>BY op (kj s (.ref i) fun x=>kj s b fun y=>newList s (x++y))
 |_=>.bad 11
def getIdx(l:List α)(i:IE)(s:AS):aH (α×AS):=jD l.length<|(oA 40 i s).bind fun(i,s)=>bL (index l.length i) fun k=>bL l[k]? fun x=>.ok (x,s)
noncomputable def constsOf:List IE→Option (List Int)
 |[]=>some []
 |a::r=>fM (gE a) fun i=>(constsOf r).map (i::·)
def CK(l:List IE)(i:IE)(s:AS):RV:=(getIdx l i s).bind fun(x,s)=>.ok (.int x,s)
def tH(l:List IE)(i:IE)(s:AS):Option RV:=match gE i with
 |some _=>none
 |none=>fM (fQ s.rg i) fun p=>fM (constsOf l) fun vs=>ck (iN p.1 p.2&&(jC 0 p.1&&iN p.2 l.length)) (some (jD l.length (.ok (.int (.tab vs i),s))))
def item(o i:AV)(s:AS):RV:=match o with
 |.t l=>cL i fun i=>getIdx l i s
 |.str l=>cL i fun i=>(getIdx l i s).bind fun(x,s)=>.ok (.str [x],s)
 |.bytes l=>cL i fun i=>(match tH l i s with|some r=>r|none=>CK l i s)
 |.dW l=>onStr i fun k=>bL (gw l k) fun v=>.ok (v,s)
 |.ref r=>cL i fun i=>kj s (.ref r) fun l=>getIdx l i s
 |_=>.bad 17
def bound(d:Nat)(n:Nat)(o:Option AV)(s:AS):aH (Nat×AS):=match o with
 |none=>.ok (d,s)
 |some v=>cL v fun e=>(oA 40 e s).bind fun(i,s)=>.ok (clamp n i,s)
def sliceOf(l:List α)(lo hi:Option AV)(s:AS):aH (List α×AS):=
 jD l.length<|(bound 0 l.length lo s).bind fun(a,s)=>(bound l.length l.length hi s).bind fun(b,s)=>.ok (cut l a b,s)
def qQ(o:AV)(lo hi:Option AV)(s:AS):RV:=Aw s o (fun l=>(sliceOf l lo hi s).bind fun(x,s)=>newList s x) fun l=>(sliceOf l lo hi s).bind fun(x,s)=>(s.alloc (.cb x)).bind fun(i,s)=>.ok (.ref i,s)
def slice(o:AV)(lo hi:Option AV)(s:AS):RV:=match o with
 |.t l=>(sliceOf l lo hi s).bind fun(x,s)=>.ok (.t x,s)
 |.str l=>(sliceOf l lo hi s).bind fun(x,s)=>.ok (.str x,s)
 |.bytes l=>(sliceOf l lo hi s).bind fun(x,s)=>.ok (.bytes x,s)
 |o=>qQ o lo hi s
noncomputable def intOf(a:AV):Option IE:=match a with|.int e=>some e|_=>none
noncomputable def strOf(a:AV):Option (List Nat):=match a with|.str x=>some x|_=>none
noncomputable def Lz(a:AV):Option (List IE):=match a with|.bytes x=>some x|_=>none
noncomputable def allOf(f:AV→Option α):List AV→Option (List α)
 |[]=>some []
 |a::r=>fM (f a) fun x=>fM (allOf f r) fun xs=>some (x::xs)
def wQ(rg:Rg)(e:IE):Bool:=match fQ rg e with
 |some p=>jC 0 p.1&&iN p.2 256
 |none=>false
noncomputable def ET(a:IE):List IE→IE
 |[]=>a
 |e::r=>ET (mkAdd a e) r
def tC(n:Nat)(s:AS):RV:=jD n (.ok (.int (.c n),s))
def UC(a:AV)(s:AS):RV:=match a with
 |.t l=>tC l.length s
 |.str l=>tC l.length s
 |.bytes l=>tC l.length s
 |a=>Aw s a (fun l=>tC l.length s) fun l=>tC l.length s
def UB(a:AV)(s:AS):RV:=cL a fun a=>(oA 40 a s).bind fun(a,s)=>.ok (.xv 0 a,s)
def Py(a b:AV)(s:AS):RV:=cL a fun a=>cL b fun b=>(oA 40 a s).bind fun(a,s)=>(oA 40 b s).bind fun(b,s)=>.ok (.xv a b,s)
def UA(a:AV)(s:AS):RV:=Aw s a (fun l=>bL (allOf intOf l) fun b=>gd (b.all (wQ s.rg)) (jD l.length (.ok (.bytes b,s)))) fun b=>jD b.length (.ok (.bytes b,s))
def Uz(a:AV)(s:AS):RV:=match a with
 |.bytes b=>jD b.length ((s.alloc (.cb b)).bind fun(i,s)=>.ok (.ref i,s))
 |_=>.bad 30
def Uy(a:AV)(s:AS):RV:=Aw s a (fun l=>newList s l) fun Y=>.bad 24
def Ux(a:AV)(s:AS):RV:=match a with
 |.t l=>.ok (.t l,s)
 |a=>Aw s a (fun l=>jD l.length (.ok (.t l,s))) fun Y=>.bad 25
def Uw(a:AV)(s:AS):RV:=match a with
 |.dW l=>match l with
  |[]=>newList s []
  |_=>.bad 30
 |_=>.bad 30
def Uv(a b:AV)(s:AS):RV:=cL a fun a=>cL b fun b=>(ask 1 a b s).bind fun(r,s)=>.ok (.int (match r with|true=>b|false=>a),s)
def Px(a b:AV)(s:AS):RV:=cL a fun a=>cL b fun b=>(ask 1 b a s).bind fun(r,s)=>.ok (.int (match r with|true=>b|false=>a),s)
def Pw(a:AV)(s:AS):RV:=cL a fun a=>(ask 1 a (.c 0) s).bind fun(r,s)=>.ok (.int (match r with|true=>mkSub (.c 0) a|false=>a),s)
def LL(a:AV)(s:AS):RV:=match a with
 |.str l=>match l with
  |[d]=>match Nat.ble 48 d&&Nat.ble d 57 with
   |true=>.ok (.int (.c (.ofNat (d - 48))),s)
   |false=>.bad 26
  |_=>.bad 30
 |.bool b=>.ok (.int (.c (match b with|true=>1|false=>0)),s)
 |a=>cL a fun a=>.ok (.int a,s)
def Pu(a:AV)(s:AS):RV:=Aw s a (fun l=>bL (allOf intOf l) fun es=>.ok (.int (ET (.c 0) es),s)) fun Y=>.bad 28
noncomputable def GW(a b:AV)(s:AS):RV:=match b with
 |.bi 5=>match a with
  |.t _=>.ok (.bool true,s)
  |.none=>.ok (.bool false,s)
  |.bool _=>.ok (.bool false,s)
  |.bytes _=>.ok (.bool false,s)
  |.str _=>.ok (.bool false,s)
  |_=>.bad 30
 |_=>.bad 30
def pn(g:AV→AS→RV)(as:List AV)(s:AS):RV:=one as fun a=>g a s
def GS(g:AV→AV→AS→RV)(as:List AV)(s:AS):RV:=two as fun a b=>g a b s
def yu(g:AV→AS→RV)(g':AV→AV→AS→RV)(as:List AV)(s:AS):RV:=match as with
 |[a]=>g a s
 |as=>two as fun a b=>g' a b s
noncomputable def GR(_:List AV)(_:AS):RV:=.bad 30
def Ut:List (List AV→AS→RV):=[pn UC,yu UB Py,pn UA,pn Uz,pn Uy,pn Ux,pn Uw,GR,GR,GS Uv,GS Px,pn Pw,pn LL,pn Pu,GS GW]
noncomputable def Km:List (List AV→AS→RV)→Nat→List AV→AS→RV
 |[],_=>GR
 |f::r,k=>match k with
  |0=>f
  |k+1=>Km r k
def builtin(k:Nat)(as:List AV)(s:AS):RV:=Km Ut k as s
def JQ(a b:Int)(k:Nat):aH (Option AV):=gd (jC (-1000000) a&&(jC a 1000000&&(jC (-1000000) b&&jC b 1000000))) (.ok (match iN (a+k) b with|true=>some (.int (.c (a+k)))|false=>none))
def QX(s:AS)(src:AV)(k:Nat):aH (Option AV):=match src with
 |.t l=>.ok l[k]?
 |.bytes l=>.ok (l[k]?.map .int)
 |.str l=>.ok (l[k]?.map fun c=>.str [c])
 |.dW l=>(match l with|[]=>.ok none|_=>.bad 31)
 |.xv a b=>JQ a b k
 |.ref i=>kj s (.ref i) fun l=>.ok l[k]?
 |_=>.bad 31
def QW(s:AS)(src:AV)(k:Nat):aH (Option AV):=match src with
 |.bytes l=>.ok (l[k]?.map fun v=>.t [.int (.c k),.int v])
 |a=>kj s a fun l=>.ok (l[k]?.map fun v=>.t [.int (.c k),v])
def xG(x y:Option AV):Option AV:=fM x fun x=>fM y fun y=>some (.t [x,y])
def QV(s:AS)(src:AV)(k:Nat):aH (Option AV):=pR src fun l=>two l fun a b=>kj s a fun l=>kj s b fun m=>.ok (xG l[k]? m[k]?)
def iE(s:AS)(kind:Nat)(src:AV)(k:Nat):aH (Option AV):=match kind with
 |0=>QX s src k
 |1=>QW s src k
 |2=>QV s src k
 |_=>.bad 34
def ib(tg:List Nat)(flat:Bool)(v:AV)(ρ:Env):Option Env:=match flat with
 |true=>(match tg with|[x]=>some (bO ρ x v)|_=>none)
 |false=>match v with
  |.t l=>ck (Nat.beq tg.length l.length) (some ((tg.zip l).foldl (fun ρ p=>bO ρ p.1 p.2) ρ))
  |_=>none
def bindArgs(ps:List Nat)(df:List AV)(as:List AV):Option Env:=
 ck (Nat.ble as.length ps.length&&Nat.ble ps.length (as.length+df.length)) (some (ps.zip (as++df.drop (as.length+df.length - ps.length))))
noncomputable def qj(ih:Ih):List CE→Env→AS→aH (List AV×AS)
 |[],_,s=>.ok ([],s)
 |e::r,ρ,s=>(ih.ev e ρ s).bind fun(v,s)=>(qj ih r ρ s).bind fun(vs,s)=>.ok (v::vs,s)
noncomputable def SD(ih:Ih):Option CE→Env→AS→aH (Option AV×AS)
 |none,_,s=>.ok (none,s)
 |some e,ρ,s=>(ih.ev e ρ s).bind fun(v,s)=>.ok (some v,s)
def truthy(v:AV)(s:AS):aH (Bool×AS):=match v with
 |.bool b=>.ok (b,s)
 |v=>kj s v fun l=>jD l.length (.ok (match l with|[]=>false|_=>true,s))
noncomputable def Dm(ih:Ih):List CE→Env→AS→aH (AV×AS)
 |[],_,_=>.bad 37
 |[e],ρ,s=>ih.ev e ρ s
 |e::r,ρ,s=>(ih.ev e ρ s).bind fun(v,s)=>(truthy v s).bind fun(b,s)=>match b with
  |true=>Dm ih r ρ s
  |false=>.ok (v,s)
noncomputable def Lj(ih:Ih):List CE→Env→AS→aH (AV×AS)
 |[],_,_=>.bad 37
 |[e],ρ,s=>ih.ev e ρ s
 |e::r,ρ,s=>(ih.ev e ρ s).bind fun(v,s)=>(truthy v s).bind fun(b,s)=>match b with
  |false=>Lj ih r ρ s
  |true=>.ok (v,s)
noncomputable def Bp(ih:Ih):List CE→Env→AS→aH (Bool×AS)
 |[],_,s=>.ok (true,s)
 |e::r,ρ,s=>(ih.ts e ρ s).bind fun(b,s)=>match b with
  |true=>Bp ih r ρ s
  |false=>.ok (false,s)
noncomputable def JG(ih:Ih):List CE→Env→AS→aH (Bool×AS)
 |[],_,s=>.ok (false,s)
 |e::r,ρ,s=>(ih.ts e ρ s).bind fun(b,s)=>match b with
  |false=>JG ih r ρ s
  |true=>.ok (true,s)
noncomputable def xk(ih:Ih):List CE→Env→AS→aH (Bool×AS)
 |[],_,s=>.ok (true,s)
 |e::r,ρ,s=>(ih.ts e ρ s).bind fun(b,s)=>match b with
  |true=>xk ih r ρ s
  |false=>.ok (false,s)
noncomputable def wM(ρ:Env):List Nat→Option (List AV)
 |[]=>some []
 |x::r=>fM (az ρ x) fun v=>fM (wM ρ r) fun vs=>some (v::vs)
def wL(op:Cm)(jI:Cm)(a b:AV)(s:AS)(c:AS→aH (AV×AS)):aH (Bool×AS):=
 (compare op a b s).bind fun(r,s)=>match r with
  |false=>.ok (false,s)
  |true=>(c s).bind fun(d,s)=>compare jI b d s
inductive Callee where
 |own (g:AV) (first:List AV)
 |kind
 |no (k:Nat)
def jE(v:AV)(o:Option AV)(m:Option Nat):Callee:=match o with
 |some g=>(match m with
  |none=>(match i9 g with
   |true=>.own g []
   |false=>.no 57)
  |some _=>.no 55)
 |none=>match m with
  |some k=>.own (.fn k) [v]
  |none=>.no 55
def yr(P:Pg)(v:AV)(n:Nat)(c:Nat)(fl:List (Nat×AV)):Callee:=match P.cs.get c with
 |some p=>jE v (az fl n) (gm p.2 n)
 |none=>.no 56
def kZ(P:Pg)(s:AS)(v:AV)(n:Nat):Callee:=match instOf s v with
 |some p=>yr P v n p.1 p.2.2
 |none=>match listOf s v with
  |some _=>.kind
  |none=>.no 58
def callee(P:Pg)(s:AS)(v:AV)(n:Nat):Callee:=match v with
 |.str _=>.kind
 |.bytes _=>.kind
 |.dW _=>.kind
 |v=>kZ P s v n
def Co(x:List Nat)(vs:List AV)(s:AS):RV:=one vs fun a=>onStr a fun y=>match Nat.ble 1 y.length with
    |true=>jD x.length (jD (Txt.split ⟨x.toArray⟩ ⟨y.toArray⟩).length (newList s ((Txt.split ⟨x.toArray⟩ ⟨y.toArray⟩).map fun(t:Str)=>AV.str t.cps.toList)))
    |false=>.bad 42
def Im(x:List Nat)(vs:List AV)(s:AS):RV:=two vs fun a b=>onStr a fun y=>cL b fun i=>match i with
    |.c k=>.ok (.int (.c (Txt.find3 ⟨x.toArray⟩ ⟨y.toArray⟩ k)),s)
    |_=>.bad 43
def Il(x:List Nat)(vs:List AV)(s:AS):RV:=one vs fun w=>kj s w fun l=>bL (allOf strOf l) fun xs=>iff (JoinOk ⟨x.toArray⟩ (xs.map fun l=>⟨l.toArray⟩))
    (.ok (.str (Txt.join ⟨x.toArray⟩ (xs.map fun l=>⟨l.toArray⟩)).cps.toList,s)) (.bad 44)
def Cq(x:List IE)(vs:List AV)(s:AS):RV:=one vs fun w=>kj s w fun l=>bL (allOf Lz l) fun xs=>gd (Nat.ble 2 l.length&&Nat.beq x.length 0) (jD xs.flatten.length (jD l.length (.ok (.bytes xs.flatten,s))))
def NT(l:List (List Nat×AV))(vs:List AV)(s:AS):RV:=two vs fun a d=>onStr a fun k=>.ok ((gw l k).getD d,s)
def NV(i:Nat)(l:List AV)(vs:List AV)(s:AS):RV:=one vs fun w=>jD (l.length+1) (.ok (.none,s.upd i (.list (l++[w]))))
def NU(i:Nat)(l:List AV)(vs:List AV)(s:AS):RV:=one vs fun w=>kj s w fun m=>jD (l.length+m.length) (.ok (.none,s.upd i (.list (l++m))))
def NR(i:Nat)(l:List AV)(vs:List AV)(s:AS):RV:=match vs with
 |[]=>bL l.getLast? fun w=>jD l.length (.ok (w,s.upd i (.list l.dropLast)))
 |_=>.bad 54
def RD(N:oO)(x:List Nat)(n:Nat)(vs:List AV)(s:AS):RV:=
 iff (Nat.beq n N.split) (Co x vs s) (iff (Nat.beq n N.find) (Im x vs s) (iff (Nat.beq n N.join) (Il x vs s) (.bad 46)))
def NS(P:Pg)(N:oO)(i:Nat)(l:List AV)(n:Nat)(vs:List AV)(s:AS):RV:=
 iff (Nat.ble P.nf i) (iff (Nat.beq n N.append) (NV i l vs s) (iff (Nat.beq n N.extend) (NU i l vs s) (iff (Nat.beq n N.pop) (NR i l vs s) (.bad 54)))) (.bad 51)
def xO(P:Pg)(N:oO)(v:AV)(n:Nat)(vs:List AV)(s:AS):RV:=match v with
 |.str x=>RD N x n vs s
 |.bytes x=>iff (Nat.beq n N.join) (Cq x vs s) (.bad 49)
 |.dW l=>iff (Nat.beq n N.get) (NT l vs s) (.bad 50)
 |.ref i=>match s.get i with
  |some (.list l)=>NS P N i l n vs s
  |_=>.bad 58
 |_=>.bad 59
noncomputable def Rv(m:Option Nat)(r:aH β):aH β:=match m with
 |none=>r
 |some _=>.bad 39
def PG(P:Pg)(v:AV)(n:Nat)(s:AS):RV:=bL (instOf s v) fun q=>bL (P.cs.get q.1) fun p=>Rv (gm p.2 n) (bL (az q.2.2 n) fun w=>gd (i9 w) (.ok (w,s)))
def cq(P:Pg)(N:oO)(ih:Ih)(e:CE)(ρ:Env)(s:AS):aH (AV×AS):=match e with
 |.n x=>bL (az ρ x) fun v=>.ok (v,s)
 |.val v=>.ok (v,s)
 |.t es=>(qj ih es ρ s).bind fun(vs,s)=>jD vs.length (.ok (.t vs,s))
 |.list es=>(qj ih es ρ s).bind fun(vs,s)=>newList s vs
 |.dW ks es=>(qj ih es ρ s).bind fun(vs,s)=>jD vs.length (.ok (.dW (ks.zip vs),s))
 |.bin op a b=>(ih.ev a ρ s).bind fun(x,s)=>(ih.ev b ρ s).bind fun(y,s)=>binop op x y s
 |.cmp op a b=>(ih.ev a ρ s).bind fun(x,s)=>(ih.ev b ρ s).bind fun(y,s)=>FI (compare op x y s) false
 |.chain _ _ _ _ _=>.bad 38
 |.and es=>Dm ih es ρ s
 |.or es=>Lj ih es ρ s
 |.not _=>.bad 38
 |.neg a=>(ih.ev a ρ s).bind fun(v,s)=>cL v fun e=>.ok (.int (mkSub (.c 0) e),s)
 |.ite t a b=>(ih.ts t ρ s).bind fun(r,s)=>match r with
  |true=>ih.ev a ρ s
  |false=>ih.ev b ρ s
 |.attr o n=>(ih.ev o ρ s).bind fun(v,s)=>PG P v n s
 |.idx o i=>(ih.ev o ρ s).bind fun(v,s)=>(ih.ev i ρ s).bind fun(w,s)=>item v w s
 |.il o lo hi=>(ih.ev o ρ s).bind fun(v,s)=>(SD ih lo ρ s).bind fun(a,s)=>(SD ih hi ρ s).bind fun(b,s)=>slice v a b s
 |.rev o=>(ih.ev o ρ s).bind fun(v,s)=>kj s v fun l=>newList s l.reverse
 |.call f as=>(ih.ev f ρ s).bind fun(g,s)=>(qj ih as ρ s).bind fun(vs,s)=>ih.ca g vs s
 |.bC o n as=>(ih.ev o ρ s).bind fun(v,s)=>match callee P s v n with
  |.own g first=>(qj ih as ρ s).bind fun(vs,s)=>ih.ca g (first++vs) s
  |.kind=>(qj ih as ρ s).bind fun(vs,s)=>xO P N v n vs s
  |.no k=>.bad k
 |.comp elt tg flat it ifs=>(ih.ev it ρ s).bind fun(v,s)=>ih.ev (.gy elt tg flat ifs v 0 []) ρ s
 |.gy elt tg flat ifs src k acc=>(iE s 0 src k).bind fun x=>match x with
  |none=>newList s acc.reverse
  |some v=>bL (ib tg flat v ρ) fun ρ'=>(xk ih ifs ρ' s).bind fun(b,s)=>match b with
    |false=>ih.ev (.gy elt tg flat ifs src (k+1) acc) ρ s
    |true=>(ih.ev elt ρ' s).bind fun(w,s)=>ih.ev (.gy elt tg flat ifs src (k+1) (w::acc)) ρ s
 |.lam k cs=>bL (wM ρ cs) fun vs=>.ok (.uU k vs,s)
 |.eM x=>bL (P.gl.get x) fun v=>.ok (v,s)
 |.bad n=>.bad (100000+n)
def plainT(ih:Ih)(e:CE)(ρ:Env)(s:AS):aH (Bool×AS):=(ih.ev e ρ s).bind fun(v,s)=>truthy v s
def stepT(ih:Ih)(e:CE)(ρ:Env)(s:AS):aH (Bool×AS):=match e with
 |.not a=>(ih.ts a ρ s).bind fun(b,s)=>.ok (!b,s)
 |.and es=>Bp ih es ρ s
 |.or es=>JG ih es ρ s
 |.cmp op a b=>(ih.ev a ρ s).bind fun(x,s)=>(ih.ev b ρ s).bind fun(y,s)=>compare op x y s
 |.chain op a b jI c=>(ih.ev a ρ s).bind fun(x,s)=>(ih.ev b ρ s).bind fun(y,s)=>wL op jI x y s fun s=>ih.ev c ρ s
 |.n x=>plainT ih (.n x) ρ s
 |.attr o n=>plainT ih (.attr o n) ρ s
 |.call f as=>plainT ih (.call f as) ρ s
 |.bC o n as=>plainT ih (.bC o n as) ρ s
 |_=>.bad 36
noncomputable def setAt:List α→Nat→α→List α
 |[],_,_=>[]
 |x::r,k,y=>match Nat.beq k 0 with
  |true=>y::r
  |false=>x::setAt r (k - 1) y
abbrev RX:=aH (Fl×Env×AS)
noncomputable def BS(a:AV)(g:Nat→RX):RX:=match a with
 |.ref i=>g i
 |_=>.bad 68
def M0(P:Pg)(w:AV)(n:Nat)(v:AV)(ρ:Env)(s:AS):RX:=bL (instOf s w) fun q=>bL (P.cs.get q.1) fun p=>Rv (gm p.2 n) (gd (Nat.ble P.nf q.2.1&&Nat.ble q.2.2.length 500) (.ok (.nx,ρ,s.upd q.2.1 (.ns (bO q.2.2 n v)))))
def JV(P:Pg)(w j v:AV)(ρ:Env)(s:AS):RX:=BS w fun r=>cL j fun j=>kj s (.ref r) fun l=>gd (Nat.ble P.nf r) (jD l.length ((oA 40 j s).bind fun(j,s)=>bL (index l.length j) fun k=>.ok (.nx,ρ,s.upd r (.list (setAt l k v)))))
def setB(r:Nat)(l x:List IE)(a b:AV)(ρ:Env)(s:AS):RX:=jD l.length<|(bound 0 l.length (some a) s).bind fun(a,s)=>(bound 0 l.length (some b) s).bind fun(b,s)=>gd (Nat.ble a b&&Nat.beq x.length (b - a)) (.ok (.nx,ρ,s.upd r (.cb (l.take a++x++l.drop b))))
def MZ(P:Pg)(w a b v:AV)(ρ:Env)(s:AS):RX:=BS w fun r=>Fv v fun x=>bL (rK s (.ref r)) fun l=>gd (Nat.ble P.nf r) (setB r l x a b ρ s)
def bQ(P:Pg)(ih:Ih)(c:CS)(ρ:Env)(s:AS):aH (Fl×Env×AS):=match c with
 |.bU x e=>(ih.ev e ρ s).bind fun(v,s)=>.ok (.nx,bO ρ x v,s)
 |.cD xs e=>(ih.ev e ρ s).bind fun(v,s)=>pR v fun l=>gd (Nat.beq xs.length l.length) (.ok (.nx,(xs.zip l).foldl (fun ρ p=>bO ρ p.1 p.2) ρ,s))
 |.aR o n e=>(ih.ev e ρ s).bind fun(v,s)=>(ih.ev o ρ s).bind fun(w,s)=>M0 P w n v ρ s
 |.jM o i e=>(ih.ev e ρ s).bind fun(v,s)=>(ih.ev o ρ s).bind fun(w,s)=>(ih.ev i ρ s).bind fun(j,s)=>JV P w j v ρ s
 |.iJ o i x e=>(ih.ev e ρ s).bind fun(v,s)=>pR v fun l=>two l fun v u=>(ih.ev o ρ s).bind fun(w,s)=>(ih.ev i ρ s).bind fun(j,s)=>JV P w j v (bO ρ x u) s
 |.iP o lo hi e=>(ih.ev e ρ s).bind fun(v,s)=>(ih.ev o ρ s).bind fun(w,s)=>(ih.ev lo ρ s).bind fun(a,s)=>(ih.ev hi ρ s).bind fun(b,s)=>MZ P w a b v ρ s
 |.ex e=>(ih.ev e ρ s).bind fun(_,s)=>.ok (.nx,ρ,s)
 |.ret e=>(ih.ev e ρ s).bind fun(v,s)=>.ok (.rt v,ρ,s)
 |.ite t a b=>(ih.ts t ρ s).bind fun(r,s)=>match r with
  |true=>ih.xs a ρ s
  |false=>ih.xs b ρ s
 |.for tg flat kind it b=>(ih.ev it ρ s).bind fun(v,s)=>ih.xs [.gQ tg flat kind v 0 b] ρ s
 |.gQ tg flat kind src k b=>(iE s kind src k).bind fun x=>match x with
  |none=>.ok (.nx,ρ,s)
  |some v=>bL (ib tg flat v ρ) fun ρ=>(ih.xs b ρ s).bind fun(f,ρ,s)=>match f with
    |.rt v=>.ok (.rt v,ρ,s)
    |.nx=>ih.xs [.gQ tg flat kind src (k+1) b] ρ s
 |.while t b=>(ih.ts t ρ s).bind fun(r,s)=>match r with
  |false=>.ok (.nx,ρ,s)
  |true=>(ih.xs b ρ s).bind fun(f,ρ,s)=>match f with
   |.rt v=>.ok (.rt v,ρ,s)
   |.nx=>ih.xs [.while t b] ρ s
 |.try b=>ih.xs b ρ s
 |.pass=>.ok (.nx,ρ,s)
 |.bad n=>.bad (200000+n)
def BA(P:Pg)(ih:Ih):List CS→Env→AS→aH (Fl×Env×AS)
 |[],ρ,s=>.ok (.nx,ρ,s)
 |c::r,ρ,s=>(bQ P ih c ρ s).bind fun(f,ρ,s)=>match f with
  |.rt v=>.ok (.rt v,ρ,s)
  |.nx=>match r with
   |[]=>.ok (.nx,ρ,s)
   |_=>ih.xs r ρ s
def nq(P:Pg)(ih:Ih)(k:Nat)(as:List AV)(s:AS):aH (AV×AS):=bL (P.fs.get k) fun f=>bL (bindArgs f.ps f.df as) fun ρ=>(ih.xs f.body ρ s).bind fun(f,_,s)=>.ok (match f with|.rt v=>v|.nx=>.none,s)
noncomputable def VH(o:Option RV)(r:RV):RV:=match o with
 |some q=>q
 |none=>r
noncomputable def MX(P:Pg)(ok:Bool)(k:Nat)(as:List AV)(s:AS):Option RV:=match ok with
 |true=>P.sm k as s
 |false=>none
noncomputable def Iq(v:AV):Bool:=Nat.beq v.ctorIdx 0
def xq(P:Pg)(ih:Ih)(ok:Bool)(g:AV)(as:List AV)(s:AS):aH (AV×AS):=match g with
 |.fn k=>bL (P.fs.get k) fun Y=>VH (MX P ok k as s) (nq P ih k as s)
 |.cls c=>bL (P.cs.get c) fun p=>(s.alloc (.ns [])).bind fun(d,s)=>(s.alloc (.inst c d)).bind fun(x,s)=>(nq P ih p.1 (.ref x::as) s).bind fun(v,s)=>gd (Iq v) (.ok (.ref x,s))
 |.uU k bM=>bL (P.gn.get k) fun q=>bL (bindArgs q.1 [] as) fun ρ=>ih.ev q.2.2 (ρ++q.2.1.zip bM) s
 |.bi k=>builtin k as s
 |_=>.bad 77
def step(P:Pg)(N:oO)(ih:Nat→Ih)(d:Nat):Ih:=⟨fun e ρ s=>cq P N (ih d) e ρ s,fun e ρ s=>stepT (ih d) e ρ s,fun c ρ s=>BA P (ih d) c ρ s,fun g as s=>match d with|0=>.bad 94|d+1=>xq P (ih d) (Nat.ble P.smd d) g as s⟩
noncomputable def run(P:Pg)(N:oO):Nat→Nat→Ih
 |0=>fun Y=>⟨fun Y Y Y=>.bad 90,fun Y Y Y=>.bad 91,fun Y Y Y=>.bad 92,fun Y Y Y=>.bad 93⟩
 |n+1=>step P N (run P N n)
structure Tx where
 nm:Nat→Str
 tabs:List (Addr×Addr)
 lam:Nat→FuncData→Prop
 bM:Nat→List Nat
 tD:Addr→Pos→Str
 attrs:List Nat
structure Cx extends Tx where
 prog:Program
 w:World
 ν:Nat→Int
 U:Nat→Value
 hb:Heap
 mv:Nat→Addr
 cZ:Nat→Addr
 nf:Nat
 f0:aE AO
 K:Frag
variable{C:Cx}
noncomputable def Uu:List Value:=[.builtin "len",.type "range",.type "bytes",.type "bytearray",.type "list",.type "tuple",.builtin "sorted",.type "enumerate",.type "zip",.builtin "max",.builtin "min",.builtin "abs",.type "int",.builtin "sum",.builtin "isinstance",.builtin "chr",.builtin "ord"]
noncomputable def uV(k:Nat):Value:=Uu.getD k .none
theorem C5{P:Value→Prop}(n:P .none)(l:List Value):l.foldr (fun v r=>P v∧r) True→∀k,P (l.getD k .none):=by
 induction l with
 |nil=>exact fun Y Y=>n
 |cons a l ih=>exact fun h k=>Nat.casesOn k h.1 fun k=>ih h.2 k
noncomputable def aP(l:List Nat):Str:=⟨l.toArray⟩
noncomputable def cj(ν:Nat→Int)(e:IE):UInt8:=UInt8.ofNat (e.eval ν).toNat
def bk(ν:Nat→Int)(l:List IE):Prop:=∀e∈l,0≤e.eval ν∧e.eval ν<256
def aQ(ν:Nat→Int)(l:List IE):Array UInt8:=(l.map (cj ν)).toArray
noncomputable abbrev fw(vs:List Value)(n:Nat):Obj:={cls:=.type "tuple",data:=.seq vs.toArray n}
noncomputable abbrev bS(vs:List Value)(n:Nat):Obj:={cls:=.type "list",data:=.seq vs.toArray n}
noncomputable abbrev bG(es:List DictEntry)(n:Nat):Obj:={cls:=.type "dict",data:=.dict es.toArray n}
noncomputable abbrev cR(b:Array UInt8):Obj:={cls:=.type "bytearray",data:=.bytearray b 0}
noncomputable abbrev zC(c dx:Addr):Obj:={cls:=.ref c,dict:=some dx,data:=.plain}
section
def du(M:Addr→Prop)(h:Heap)(cl:List (Str×Addr))(nm:Nat→Str)(l:List Nat):List Addr→List Value→Prop:=List.rec (motive:=fun Y=>List Addr→List Value→Prop) (fun cs vs=>cs=[]∧vs=[])
 (fun x Y r cs vs=>∃c Eu v uS o,cs=c::Eu∧vs=v::uS∧cl.lookup (nm x)=some c∧¬M c∧h.get? c=some o∧o.data=.cell (some v)∧r Eu uS) l
abbrev VV:=Value→Prop
abbrev He:=List Value→Prop
abbrev Mn:=List DictEntry→Prop
section
variable(C:Cx)(J:List Addr)(M:Addr→Prop)(h:Heap)
noncomputable def Be(e:IE):VV:=fun rv=>∃t,rv=.int (e.eval C.ν) t
def Bc(l:List Nat):VV:=fun rv=>∃t,rv=.str (aP l) t
def qN(l:List IE):VV:=fun rv=>bk C.ν l∧∃t,rv=.bytes (aQ C.ν l) t
noncomputable def Bb(r:He):VV:=fun rv=>∃a vs n,rv=.ref a∧¬M a∧h.get? a=some (fw vs n)∧r vs
noncomputable def Bf(r:Mn):VV:=fun rv=>∃a es n,rv=.ref a∧¬M a∧(a==sysModules)=false∧h.get? a=some (bG es n)∧r es
structure w5(k:Nat)(r:He)(a c:Addr)(o oc:Obj)(fd:FuncData)(vs:Array Value)(t:Tok)(cs:List Addr)(rvs:List Value):Prop where
 out:¬M a
 at_:h.get? a=some o
 cls:o.cls=.type "function"
 dat:o.data=.func fd
 lam:C.lam k fd
 code:fd.code=.ref c
 Nw:¬M c
 Tb:h.get? c=some oc
 Ph:oc.data=.fields vs
 qual:vs[1]?=some (.str fd.qualname t)
 bM:du M h fd.closure C.nm (C.bM k) cs rvs
 vals:r rvs
 all:∀x c,fd.closure.lookup x=some c→∃y∈C.bM k,x=C.nm y
noncomputable def Bg(k:Nat)(r:He):VV:=fun rv=>∃a,rv=.ref a∧∃c o oc fd vs t cs rvs,w5 C M h k r a c o oc fd vs t cs rvs
noncomputable def Bd(a b:Int):VV:=fun rv=>∃x t u w,rv=.ref x∧¬M x∧h.get? x=some {cls:=.type "range",data:=.fields #[.int a t,.int b u,.int 1 w]}
noncomputable def u9(v:VV)(r:He):He:=fun rvs=>∃rv rs,rvs=rv::rs∧v rv∧r rs
noncomputable def wo(p:DictEntry→Prop)(r:Mn):Mn:=fun es=>∃e kW,es=e::kW∧p e∧r kW
def ot(k:List Nat)(v:VV)(e:DictEntry):Prop:=∃rv t,e=⟨PyData.keyHash C.w.params (aP k),.str (aP k) t,rv⟩∧v rv
def ao(v:AV):Value→Prop:=AV.rec (motive_1:=fun Y=>VV) (motive_2:=fun Y=>He) (motive_3:=fun Y=>Mn) (motive_4:=fun Y=>DictEntry→Prop)
 (fun rv=>rv=.none) (fun b rv=>rv=.bool b) (Be C) Bc (qN C) (fun Y=>Bb M h) (fun Y=>Bf M h) (fun i rv=>∃a,rv=.ref a∧J[i]?=some a) (fun k rv=>rv=.ref (C.mv k)) (fun k rv=>rv=.ref (C.cZ k)) (fun k rv=>rv=uV k) (fun k Y=>Bg C M h k) (Bd M h) (fun i rv=>rv=C.U i)
 (fun rvs=>rvs=[]) (fun Y Y=>u9) (fun es=>es=[]) (fun Y Y=>wo) (fun k Y=>ot C k) v
def ay(l:List AV):List Value→Prop:=AV.rec_1 (motive_1:=fun Y=>VV) (motive_2:=fun Y=>He) (motive_3:=fun Y=>Mn) (motive_4:=fun Y=>DictEntry→Prop)
 (fun rv=>rv=.none) (fun b rv=>rv=.bool b) (Be C) Bc (qN C) (fun Y=>Bb M h) (fun Y=>Bf M h) (fun i rv=>∃a,rv=.ref a∧J[i]?=some a) (fun k rv=>rv=.ref (C.mv k)) (fun k rv=>rv=.ref (C.cZ k)) (fun k rv=>rv=uV k) (fun k Y=>Bg C M h k) (Bd M h) (fun i rv=>rv=C.U i)
 (fun rvs=>rvs=[]) (fun Y Y=>u9) (fun es=>es=[]) (fun Y Y=>wo) (fun k Y=>ot C k) l
def cM(l:List (List Nat×AV)):List DictEntry→Prop:=AV.rec_2 (motive_1:=fun Y=>VV) (motive_2:=fun Y=>He) (motive_3:=fun Y=>Mn) (motive_4:=fun Y=>DictEntry→Prop)
 (fun rv=>rv=.none) (fun b rv=>rv=.bool b) (Be C) Bc (qN C) (fun Y=>Bb M h) (fun Y=>Bf M h) (fun i rv=>∃a,rv=.ref a∧J[i]?=some a) (fun k rv=>rv=.ref (C.mv k)) (fun k rv=>rv=.ref (C.cZ k)) (fun k rv=>rv=uV k) (fun k Y=>Bg C M h k) (Bd M h) (fun i rv=>rv=C.U i)
 (fun rvs=>rvs=[]) (fun Y Y=>u9) (fun es=>es=[]) (fun Y Y=>wo) (fun k Y=>ot C k) l
end
end
def Hg(C:Cx)(J:List Addr)(M:Addr→Prop)(h:Heap)(v:AV)(rv:Value):Prop:=match v with
 |.none=>rv=.none
 |.bool b=>rv=.bool b
 |.int e=>∃t,rv=.int (e.eval C.ν) t
 |.str l=>∃t,rv=.str (aP l) t
 |.bytes l=>bk C.ν l∧∃t,rv=.bytes (aQ C.ν l) t
 |.t l=>∃a vs n,rv=.ref a∧¬M a∧h.get? a=some (fw vs n)∧ay C J M h l vs
 |.dW l=>∃a es n,rv=.ref a∧¬M a∧(a==sysModules)=false∧h.get? a=some (bG es n)∧cM C J M h l es
 |.ref i=>∃a,rv=.ref a∧J[i]?=some a
 |.fn k=>rv=.ref (C.mv k)
 |.cls k=>rv=.ref (C.cZ k)
 |.bi k=>rv=uV k
 |.uU k bM=>∃a,rv=.ref a∧∃c o oc fd vs t cs rvs,w5 C M h k (ay C J M h bM) a c o oc fd vs t cs rvs
 |.xv a b=>∃x t u w,rv=.ref x∧¬M x∧h.get? x=some {cls:=.type "range",data:=.fields #[.int a t,.int b u,.int 1 w]}
 |.mj i=>rv=C.U i
section
theorem ao.of(V:Hg C J M h v rv):ao C J M h v rv:=AV.casesOn (motive_1:=fun v=>Hg C J M h v rv→ao C J M h v rv) v id (fun Y=>id) (fun Y=>id) (fun Y=>id) (fun Y=>id) (fun Y=>id) (fun Y=>id) (fun Y=>id) (fun Y=>id) (fun Y=>id) (fun Y=>id) (fun Y Y=>id) (fun Y Y=>id) (fun Y=>id) V
theorem ay.of(V:∃v r,ras=v::r∧ao C J M h a v∧ay C J M h l r):ay C J M h (a::l) ras:=V
theorem cM.of{k:List Nat}{l:List (List Nat×AV)}(V:∃e kW,es=e::kW∧(∃v t,e=⟨PyData.keyHash C.w.params (aP k),.str (aP k) t,v⟩∧ao C J M h a v)∧cM C J M h l kW):cM C J M h ((k,a)::l) es:=V
theorem du.of{cl:List (Str×Addr)}{nm:Nat→Str}{x:Nat}{xs:List Nat}{cs:List Addr}(V:∃c Eu v uS o,cs=c::Eu∧vs=v::uS∧cl.lookup (nm x)=some c∧¬M c∧h.get? c=some o∧o.data=.cell (some v)∧du M h cl nm xs Eu uS):du M h cl nm (x::xs) cs vs:=V
theorem ao.none:ao C J M h .none .none:=rfl
theorem ao.bool(b:Bool):ao C J M h (.bool b) (.bool b):=rfl
theorem ao.int(e:IE)(i:Int)(t:Tok)(q:e.eval C.ν=i):ao C J M h (.int e) (.int i t):=⟨t,q▸rfl⟩
theorem ao.str(l:List Nat)(t:Tok):ao C J M h (.str l) (.str (aP l) t):=⟨t,rfl⟩
theorem ao.bytes(l:List IE)(t:Tok)(q:bk C.ν l):ao C J M h (.bytes l) (.bytes (aQ C.ν l) t):=⟨q,t,rfl⟩
theorem ao.t(l:List AV)(a:Addr)(vs:List Value)(n:Nat)(h1:¬M a)(h2:h.get? a=some (fw vs n))(h3:ay C J M h l vs):ao C J M h (.t l) (.ref a):=.of ⟨a,vs,n,rfl,h1,h2,h3⟩
theorem ao.dW(l:List (List Nat×AV))(a:Addr)(es:List DictEntry)(n:Nat)(h1:¬M a)(h2:(a==sysModules)=false)(h3:h.get? a=some (bG es n))(h4:cM C J M h l es):ao C J M h (.dW l) (.ref a):=.of ⟨a,es,n,rfl,h1,h2,h3,h4⟩
theorem ao.ref(i:Nat)(a:Addr)(q:J[i]?=some a):ao C J M h (.ref i) (.ref a):=⟨a,rfl,q⟩
theorem ao.fn(k:Nat):ao C J M h (.fn k) (.ref (C.mv k)):=rfl
theorem ao.cls(k:Nat):ao C J M h (.cls k) (.ref (C.cZ k)):=rfl
theorem ao.bi(k:Nat):ao C J M h (.bi k) (uV k):=rfl
theorem ao.uU(k:Nat)(bM:List AV)(a c:Addr)(o oc:Obj)(fd:FuncData)(vs:Array Value)(t:Tok)(cs:List Addr)(rvs:List Value)(h1:¬M a)(h2:h.get? a=some o)(h3:o.cls=.type "function")(h4:o.data=.func fd)(h5:C.lam k fd)(h6:fd.code=.ref c)(h7:¬M c)(h8:h.get? c=some oc)(h9:oc.data=.fields vs)(WM:vs[1]?=some (.str fd.qualname t))
  (Sm:du M h fd.closure C.nm (C.bM k) cs rvs)(Sl:ay C J M h bM rvs)(Sk:∀x c,fd.closure.lookup x=some c→∃y∈C.bM k,x=C.nm y):ao C J M h (.uU k bM) (.ref a):=.of ⟨a,rfl,c,o,oc,fd,vs,t,cs,rvs,⟨h1,h2,h3,h4,h5,h6,h7,h8,h9,WM,Sm,Sl,Sk⟩⟩
theorem ao.xv(a b:Int)(x:Addr)(t u v:Tok)(h1:¬M x)(h2:h.get? x=some {cls:=.type "range",data:=.fields #[.int a t,.int b u,.int 1 v]}):ao C J M h (.xv a b) (.ref x):=⟨x,t,u,v,rfl,h1,h2⟩
theorem ao.mj(i:Nat):ao C J M h (.mj i) (C.U i):=rfl
theorem ay.nil:ay C J M h [] []:=rfl
theorem ay.cons{v:Value}(V:ao C J M h a v)(R:ay C J M h l vs):ay C J M h (a::l) (v::vs):=.of ⟨v,vs,rfl,V,R⟩
theorem cM.nil:cM C J M h [] []:=rfl
theorem cM.cons{k:List Nat}{v:Value}{t:Tok}{l:List (List Nat×AV)}(V:ao C J M h a v)(R:cM C J M h l es):cM C J M h ((k,a)::l) (⟨PyData.keyHash C.w.params (aP k),.str (aP k) t,v⟩::es):=.of ⟨_,es,rfl,⟨v,t,rfl,V⟩,R⟩
theorem ao.inv(V:ao C J M h v rv):Hg C J M h v rv:=AV.casesOn (motive_1:=fun v=>ao C J M h v rv→Hg C J M h v rv) v id (fun Y=>id) (fun Y=>id) (fun Y=>id) (fun Y=>id) (fun Y=>id) (fun Y=>id) (fun Y=>id) (fun Y=>id) (fun Y=>id) (fun Y=>id) (fun Y Y=>id) (fun Y Y=>id) (fun Y=>id) V
section
variable{P:Value→Prop}
@[elab_as_elim] theorem ao.ed{e:IE}(V:ao C J M h (.int e) rv)(k:∀t,P (.int (e.eval C.ν) t)):P rv:=dm V.inv fun t q=>q▸k t
@[elab_as_elim] theorem ao.gB{l:List Nat}(V:ao C J M h (.str l) rv)(k:∀t,P (.str (aP l) t)):P rv:=dm V.inv fun t q=>q▸k t
@[elab_as_elim] theorem ao.dY{l:List IE}(V:ao C J M h (.bytes l) rv)(k:bk C.ν l→∀t,P (.bytes (aQ C.ν l) t)):P rv:=aw V.inv fun b q=>dm q fun t q=>q▸k b t
@[elab_as_elim] theorem ao.kD(V:ao C J M h (.t l) rv)(k:∀a vs n,¬M a→h.get? a=some (fw vs n)→ay C J M h l vs→P (.ref a)):P rv:=oK V.inv fun a vs n q a1 a2 a3=>q▸k a vs n a1 a2 a3
@[elab_as_elim] theorem ao.wz{l:List (List Nat×AV)}(V:ao C J M h (.dW l) rv)(k:∀a es n,¬M a→(a==sysModules)=false→h.get? a=some (bG es n)→cM C J M h l es→P (.ref a)):P rv:=Qk V.inv fun a es n q a1 a2 a3 a4=>q▸k a es n a1 a2 a3 a4
end
theorem ay.un(V:ay C J M h (a::l) ras):∃v r,ras=v::r∧ao C J M h a v∧ay C J M h l r:=V
theorem ay.nl(V:ay C J M h [] ras):ras=[]:=V
@[elab_as_elim] theorem ay.ind{P:List AV→List Value→Prop}(V:ay C J M h l vs)(nil:P [] [])(cons:∀a v l vs,ao C J M h a v→ay C J M h l vs→P l vs→P (a::l) (v::vs)):P l vs:=
 List.rec (motive:=fun l=>∀vs,ay C J M h l vs→P l vs) (fun Y V=>V.nl▸nil) (fun a l ih Y V=>jP V.un fun v vs q x r=>q▸cons a v l vs x r (ih vs r)) l vs V
@[elab_as_elim] theorem ay.oI{P:List Value→Prop}(V:ay C J M h (a::l) vs)(k:∀v r,ao C J M h a v→ay C J M h l r→P (v::r)):P vs:=jP V.un fun v r q x y=>q▸k v r x y
theorem ay.one(V:ay C J M h [a] ras):∃ra,ras=[ra]∧ao C J M h a ra:=jP V.un fun v Y e f R=>⟨v,e.trans (congrArg (v::·) R.nl),f⟩
theorem ay.two{b:AV}(V:ay C J M h [a,b] ras):∃ra rb,ras=[ra,rb]∧ao C J M h a ra∧ao C J M h b rb:=jP V.un fun v Y e f R=>aC R.one fun w q W=>⟨v,w,e.trans (congrArg (v::·) q),f,W⟩
theorem cM.at{k:List Nat}{l:List (List Nat×AV)}(V:cM C J M h ((k,a)::l) es):∃e kW,es=e::kW∧(∃v t,e=⟨PyData.keyHash C.w.params (aP k),.str (aP k) t,v⟩∧ao C J M h a v)∧cM C J M h l kW:=V
theorem cM.un{p:List Nat×AV}{l:List (List Nat×AV)}(V:cM C J M h (p::l) es):∃v t kW,es=⟨PyData.keyHash C.w.params (aP p.1),.str (aP p.1) t,v⟩::kW∧ao C J M h p.2 v∧cM C J M h l kW:=jP V.at fun Y es q f g=>d9 f fun v t e f=>⟨v,t,es,q.trans (congrArg (·::es) e),f,g⟩
theorem cM.nl(V:cM C J M h [] es):es=[]:=V
theorem du.un{cl:List (Str×Addr)}{nm:Nat→Str}{x:Nat}{xs:List Nat}{cs:List Addr}(V:du M h cl nm (x::xs) cs vs):∃c Eu v uS o,cs=c::Eu∧vs=v::uS∧cl.lookup (nm x)=some c∧¬M c∧h.get? c=some o∧o.data=.cell (some v)∧du M h cl nm xs Eu uS:=V
theorem du.cons{cl:List (Str×Addr)}{nm:Nat→Str}{x:Nat}{c:Addr}{v:Value}{xs:List Nat}{cs:List Addr}(h1:cl.lookup (nm x)=some c)(h2:¬M c)(h3:h.get? c=some o)(h4:o.data=.cell (some v))(h5:du M h cl nm xs cs vs):du M h cl nm (x::xs) (c::cs) (v::vs):=.of ⟨c,cs,v,vs,o,rfl,rfl,h1,h2,h3,h4,h5⟩
theorem du.nil{cl:List (Str×Addr)}{nm:Nat→Str}:du M h cl nm [] [] []:=⟨rfl,rfl⟩
theorem ay.length:∀{vs:List Value},ay C J M h l vs→l.length=vs.length:=
 List.rec (motive:=fun l=>∀{vs:List Value},ay C J M h l vs→l.length=vs.length) (@fun Y e=>(congrArg List.length e.nl).symm) (fun Y Y ih Y V=>jP V.un fun Y Y e Y R=>(congrArg Nat.succ (ih R)).trans (congrArg List.length e).symm) l
end
theorem oo{p:Nat×AV}{r:Env}{x:Nat}(q:Nat.beq p.1 x=true):az (p::r) x=some p.2:=by unfold az;rw [q]
theorem l7{p:Nat×AV}{r:Env}{x:Nat}(q:Nat.beq p.1 x=false):az (p::r) x=az r x:=by rw [az,q]
structure Ext(M:Addr→Prop)(h h':Heap):Prop where
 live:∀b o,h.get? b=some o→∃o',h'.get? b=some o'
 keep:∀b o,¬M b→h.get? b=some o→h'.get? b=some o
structure aJ(Z:Addr→Prop)(J:List Addr)(M:Addr→Prop)(h:Heap)(σ':List Addr)(M':Addr→Prop)(h':Heap):Prop where
 pre:∃l,σ'=J++l∧∀a∈l,h.get? a=none
 ext:Ext (fun a=>M a∧¬Z a) h h'
 more:∀a,M a→M' a
 fresh:∀a,M' a→M a∨h.get? a=none
theorem Heap.ba(h:Heap):h.get? h.objs.size=none:=by
 cases q:h.get? h.objs.size with
 |none=>rfl
 |some o=>exact absurd (Heap.lt_size q) (Nat.lt_irrefl _)
theorem aM{a:Addr}(e:h.get? a=some o)(n:h.get? a=none):False:=by rw [e]at n;injection n
section
variable{Z':Addr→Prop}{yP:List Addr}{aN Hl:Addr→Prop}{pZ:Heap}
theorem Ext.dead(X:Ext M h h'){a:Addr}(n:h'.get? a=none):h.get? a=none:=by
 cases q:h.get? a with
 |none=>rfl
 |some o=>refine dm (X.live a o q:) fun o' e=>?_;exact(aM e n).elim
theorem Ext.refl(M:Addr→Prop)(h:Heap):Ext M h h:=⟨fun Y o e=>⟨o,e⟩,fun Y Y Y e=>e⟩
theorem aJ.refl(Z:Addr→Prop)(J:List Addr)(M:Addr→Prop)(h:Heap):aJ Z J M h J M h:=⟨⟨[],by simp,fun Y m=>nomatch m⟩,Ext.refl _ h,fun Y x=>x,fun Y x=>.inl x⟩
theorem aJ.notM(G:aJ Z J M h σ' M' h'){a:Addr}(hn:¬M a)(e:h.get? a=some o):¬M' a:=fun q=>
 (G.fresh a q).elim hn fun q=>aM e q
theorem aJ.kept(G:aJ Z J M h σ' M' h'){a:Addr}(hn:¬M a)(e:h.get? a=some o):h'.get? a=some o:=G.ext.keep a o (fun q=>hn q.1) e
theorem aJ.di(G:aJ Z J M h σ' M' h'){a:Addr}(hn:Z a)(e:h.get? a=some o):h'.get? a=some o:=G.ext.keep a o (fun q=>q.2 hn) e
theorem aJ.trans(G:aJ Z J M h σ' M' h')(G':aJ Z σ' M' h' yP Hl pZ):aJ Z J M h yP Hl pZ:=by
 obtain⟨l,rfl,f⟩:=G.pre
 obtain⟨l',rfl,f'⟩:=G'.pre
 refine⟨⟨l++l',by simp,fun a m=>(List.mem_append.mp m).elim (f a) fun m=>G.ext.dead (f' a m)⟩,⟨fun b o e=>?_,fun b o hn e=>?_⟩,fun a x=>G'.more a (G.more a x),fun a x=>(G'.fresh a x).elim (fun x=>G.fresh a x) fun x=>.inr (G.ext.dead x)⟩
 ·refine dm (G.ext.live b o e:) fun o' e'=>?_
  exact G'.ext.live b o' e'
 ·refine G'.ext.keep b o (fun q=>(G.fresh b q.1).elim (fun x=>hn ⟨x,q.2⟩) fun x=>aM e x) (G.ext.keep b o hn e)
theorem aJ.less(G:aJ Z J M h σ' M' h')(hz:∀a,Z' a→Z a):aJ Z' J M h σ' M' h':=
 ⟨G.pre,⟨G.ext.live,fun b o hn e=>G.ext.keep b o (fun q=>hn ⟨q.1,fun x=>q.2 (hz b x)⟩) e⟩,G.more,G.fresh⟩
theorem aJ.heap(Z:Addr→Prop)(J:List Addr)(M:Addr→Prop)(hk:∀b o,h.get? b=some o→h'.get? b=some o):aJ Z J M h J M h':=
 ⟨⟨[],by simp,fun Y m=>nomatch m⟩,⟨fun b o e=>⟨o,hk b o e⟩,fun b o Y e=>hk b o e⟩,fun Y x=>x,fun Y x=>.inl x⟩
end
structure uR(J:List Addr)(M:Addr→Prop)(h:Heap)(σ':List Addr)(M':Addr→Prop)(h':Heap):Prop where
 pre:∃l,σ'=J++l
 keep:∀a o,¬M a→h.get? a=some o→¬M' a∧h'.get? a=some o
theorem uR.notM(G:uR J M h σ' M' h'){a:Addr}(hn:¬M a)(e:h.get? a=some o):¬M' a:=(G.keep a o hn e).1
theorem uR.kept(G:uR J M h σ' M' h'){a:Addr}(hn:¬M a)(e:h.get? a=some o):h'.get? a=some o:=(G.keep a o hn e).2
theorem aJ.chg(G:aJ Z J M h σ' M' h'):uR J M h σ' M' h':=⟨let⟨l,e,_⟩:=G.pre;⟨l,e⟩,fun Y Y hn e=>⟨G.notM hn e,G.kept hn e⟩⟩
theorem du.chg(G:uR J M h σ' M' h'){cl:List (Str×Addr)}{nm:Nat→Str}{xs:List Nat}:∀{cs:List Addr}{vs:List Value},du M h cl nm xs cs vs→du M' h' cl nm xs cs vs:=
 List.rec (motive:=fun xs=>∀{cs:List Addr}{vs:List Value},du M h cl nm xs cs vs→du M' h' cl nm xs cs vs) id (fun Y Y ih Y Y V=>Ax V.un fun c cs v vs o f=>.of ⟨c,cs,v,vs,o,f.1,f.2.1,f.2.2.1,G.notM f.2.2.2.1 f.2.2.2.2.1,G.kept f.2.2.2.1 f.2.2.2.2.1,f.2.2.2.2.2.1,ih f.2.2.2.2.2.2⟩) xs
section
variable(G:uR J M h σ' M' h')
include G
theorem w5.chg{r r':He}{a c:Addr}{oc:Obj}{fd:FuncData}{vs:Array Value}{t:Tok}{cs:List Addr}{rvs:List Value}(hr:∀vs,r vs→r' vs)(V:w5 C M h k r a c o oc fd vs t cs rvs):w5 C M' h' k r' a c o oc fd vs t cs rvs:=
 ⟨G.notM V.out V.at_,G.kept V.out V.at_,V.cls,V.dat,V.lam,V.code,G.notM V.Nw V.Tb,G.kept V.Nw V.Tb,V.Ph,V.qual,V.bM.chg G,hr _ V.vals,V.all⟩
theorem Fe{v:Value}(V:ao C J M h (.ref i) v):ao C σ' M' h' (.ref i) v:=aC V fun a e q=>dm G.pre fun l z=>⟨a,e,z▸(List.getElem?_append_left (List.getElem?_eq_some_iff.mp q).1).trans q⟩
theorem ao.chg:∀{v:Value},ao C J M h a v→ao C σ' M' h' a v:=fun{v} V=>
 AV.rec (motive_1:=fun a=>∀v,ao C J M h a v→ao C σ' M' h' a v) (motive_2:=fun l=>∀vs,ay C J M h l vs→ay C σ' M' h' l vs) (motive_3:=fun l=>∀es,cM C J M h l es→cM C σ' M' h' l es)
  (motive_4:=fun p=>∀e,ot C p.1 (ao C J M h p.2) e→ot C p.1 (ao C σ' M' h' p.2) e)
  (fun Y V=>V) (fun Y Y V=>V) (fun Y Y V=>V) (fun Y Y V=>V) (fun Y Y V=>V) (fun l r v V=>oK (show∃a vs n,v=Value.ref a∧¬M a∧h.get? a=some (fw vs n)∧ay C J M h l vs from V) fun a vs n e n' g x=>.of ⟨a,vs,n,e,G.notM n' g,G.kept n' g,r vs x⟩) (fun l r v V=>Qk (show∃a es n,v=Value.ref a∧¬M a∧(a==sysModules)=false∧h.get? a=some (bG es n)∧cM C J M h l es from V) fun a es n e n' s g x=>.of ⟨a,es,n,e,G.notM n' g,s,G.kept n' g,r es x⟩)
  (fun Y Y V=>Fe G V) (fun Y Y V=>V) (fun Y Y V=>V) (fun Y Y V=>V) (fun k l r v V=>aC (show∃a,v=Value.ref a∧∃c o oc fd vs t cs rvs,w5 C M h k (ay C J M h l) a c o oc fd vs t cs rvs from V) fun a e X=>.of ⟨a,e,Kj X fun c o oc fd X=>Kj X fun vs t cs rvs X=>⟨c,o,oc,fd,vs,t,cs,rvs,X.chg G r⟩⟩)
  (fun a b v V=>Rn (show∃x t u w,v=Value.ref x∧¬M x∧h.get? x=some {cls:=.type "range",data:=.fields #[.int a t,.int b u,.int 1 w]}from V) fun x t u w e n g=>⟨x,t,u,w,e,G.notM n g,G.kept n g⟩) (fun Y Y V=>V) (fun Y V=>V) (fun Y Y x r Y V=>jP V.un fun v vs e f g=>.of ⟨v,vs,e,x v f,r vs g⟩) (fun Y V=>V) (fun Y Y x r Y V=>jP V.at fun v vs e f g=>.of ⟨v,vs,e,x v f,r vs g⟩)
  (fun Y Y x Y V=>d9 V fun v t e f=>⟨v,t,e,x v f⟩) a v V
theorem ay.chg{a:List AV}:∀{v:List Value},ay C J M h a v→ay C σ' M' h' a v:=
 List.rec (motive:=fun a=>∀{v:List Value},ay C J M h a v→ay C σ' M' h' a v) id (fun Y Y ih Y V=>jP V.un fun v vs e f g=>.of ⟨v,vs,e,f.chg G,ih g⟩) a
end
theorem ao.grow(G:aJ Z J M h σ' M' h'){v:Value}(V:ao C J M h a v):ao C σ' M' h' a v:=V.chg G.chg
theorem ay.grow(G:aJ Z J M h σ' M' h'){a:List AV}{v:List Value}(V:ay C J M h a v):ay C σ' M' h' a v:=V.chg G.chg
def bY(C:Cx)(J:List Addr)(M:Addr→Prop)(h:Heap)(l:List (Nat×AV)):List DictEntry→Prop:=List.rec (motive:=fun Y=>List DictEntry→Prop) (fun es=>es=[])
 (fun p Y r es=>∃v t kW,es=⟨PyData.keyHash C.w.params (C.nm p.1),.str (C.nm p.1) t,v⟩::kW∧ao C J M h p.2 v∧r kW) l
theorem bY.nil:bY C J M h [] []:=rfl
theorem bY.cons{x:Nat}{v:Value}{t:Tok}{l:List (Nat×AV)}(V:ao C J M h a v)(R:bY C J M h l es):bY C J M h ((x,a)::l) (⟨PyData.keyHash C.w.params (C.nm x),.str (C.nm x) t,v⟩::es):=⟨v,t,es,rfl,V,R⟩
theorem bY.un{p:Nat×AV}{l:List (Nat×AV)}(V:bY C J M h (p::l) es):∃v t kW,es=⟨PyData.keyHash C.w.params (C.nm p.1),.str (C.nm p.1) t,v⟩::kW∧ao C J M h p.2 v∧bY C J M h l kW:=V
theorem bY.nl(V:bY C J M h [] es):es=[]:=V
@[elab_as_elim] theorem bY.oI{P:List DictEntry→Prop}{p:Nat×AV}{l:List (Nat×AV)}(V:bY C J M h (p::l) es)(k:∀v t kW,ao C J M h p.2 v→bY C J M h l kW→P (⟨PyData.keyHash C.w.params (C.nm p.1),.str (C.nm p.1) t,v⟩::kW)):P es:=Fy V.un fun v t es q a b=>q▸k v t es a b
@[elab_as_elim] theorem bY.ind{P:List (Nat×AV)→List DictEntry→Prop}{l:List (Nat×AV)}(V:bY C J M h l es)(nil:P [] [])(cons:∀p l v t es,ao C J M h p.2 v→bY C J M h l es→P l es→P (p::l) (⟨PyData.keyHash C.w.params (C.nm p.1),.str (C.nm p.1) t,v⟩::es)):P l es:=
 List.rec (motive:=fun l=>∀es,bY C J M h l es→P l es) (fun Y V=>V.nl▸nil) (fun p l ih Y V=>V.oI fun v t es x r=>cons p l v t es x r (ih es r)) l es V
theorem bY.chg(G:uR J M h σ' M' h'){a:List (Nat×AV)}:∀{v:List DictEntry},bY C J M h a v→bY C σ' M' h' a v:=
 List.rec (motive:=fun a=>∀{v:List DictEntry},bY C J M h a v→bY C σ' M' h' a v) id (fun Y Y ih Y V=>Fy V.un fun v t es e f g=>⟨v,t,es,e,f.chg G,ih g⟩) a
theorem bY.grow(G:aJ Z J M h σ' M' h'){a:List (Nat×AV)}{v:List DictEntry}(V:bY C J M h a v):bY C σ' M' h' a v:=V.chg G.chg
def cF(C:Cx)(J:List Addr)(M:Addr→Prop)(h:Heap)(o:AO)(a:Addr):Prop:=match o with
 |.list l=>∃vs n,h.get? a=some (bS vs n)∧ay C J M h l vs
 |.inst c d=>∃dx,h.get? a=some (zC (C.cZ c) dx)∧J[d]?=some dx
 |.ns l=>∃es n,h.get? a=some (bG es n)∧bY C J M h l es
 |.cb b=>h.get? a=some (cR (aQ C.ν b))∧bk C.ν b
section
theorem cF.list(l:List AV)(a:Addr)(vs:List Value)(n:Nat)(h1:h.get? a=some (bS vs n))(h2:ay C J M h l vs):cF C J M h (.list l) a:=⟨vs,n,h1,h2⟩
theorem cF.inst(c d:Nat)(a dx:Addr)(h1:h.get? a=some (zC (C.cZ c) dx))(h2:J[d]?=some dx):cF C J M h (.inst c d) a:=⟨dx,h1,h2⟩
theorem cF.ns(l:List (Nat×AV))(a:Addr)(es:List DictEntry)(n:Nat)(h1:h.get? a=some (bG es n))(h2:bY C J M h l es):cF C J M h (.ns l) a:=⟨es,n,h1,h2⟩
theorem cF.cb(b:List IE)(a:Addr)(h1:h.get? a=some (cR (aQ C.ν b)))(h2:bk C.ν b):cF C J M h (.cb b) a:=⟨h1,h2⟩
theorem cF.listI{a:Addr}(R:cF C J M h (.list l) a):∃vs n,h.get? a=some (bS vs n)∧ay C J M h l vs:=R
theorem cF.instI{c:Nat}{a:Addr}(R:cF C J M h (.inst c d) a):∃dx,h.get? a=some (zC (C.cZ c) dx)∧J[d]?=some dx:=R
theorem cF.Qm{l:List (Nat×AV)}{a:Addr}(R:cF C J M h (.ns l) a):∃es n,h.get? a=some (bG es n)∧bY C J M h l es:=R
theorem cF.jt{b:List IE}{a:Addr}(R:cF C J M h (.cb b) a):h.get? a=some (cR (aQ C.ν b))∧bk C.ν b:=R
end
def qA(C:Cx)(M:Addr→Prop)(h:Heap)(P:Addr):Prop:=
 ∃ps,M P∧h.get? P=some (tabObj ps)∧TriplesOk ps.toList∧∀pos cv,codeAmong pos ps.toList=some cv→∃c oc vs t,cv=.ref c∧¬M c∧h.get? c=some oc∧oc.data=.fields vs∧vs[1]?=some (.str (C.tD P pos) t)
structure aq(C:Cx)(J:List Addr)(M:Addr→Prop)(s:AS)(h:Heap):Prop where
 len:s.n=J.length
 lim:s.n≤1000000
 gC:C.nf≤s.n∧∀i,i<C.nf→s.hp.get i=C.f0.get i
 nodup:J.Nodup
 low:∀i o,s.hp.get i=some o→i<s.n
 obj:∀i o a,s.hp.get i=some o→J[i]?=some a→cF C J M h o a
 je:∀i a,J[i]?=some a→C.nf≤i→M a
 ye:∀i a,J[i]?=some a→i<C.nf→¬M a
 there:∀a,a∈J→∃o,h.get? a=some o
 mlt:∀a,M a→∃o,h.get? a=some o
 base:∀b o,C.hb.get? b=some o→¬M b∧h.get? b=some o
 tab:∀p∈C.tabs,qA C M h p.2∧p.2∉J
 rg:∀(k:Nat)(p:Int×Int),s.rg[k]?=some p→p.1≤C.ν k∧C.ν k≤p.2
noncomputable def dX(ν:Nat→Int)(k:Nat)(a b:IE):Bool:=match k with
 |0=>decide (a.eval ν=b.eval ν)
 |1=>decide (a.eval ν<b.eval ν)
 |_=>decide (a.eval ν≤b.eval ν)
def aH.leaf(ν:Nat→Int):aH α→Option α
 |.ok a=>some a
 |.fork k a b t f=>match dX ν k a b with
  |true=>t.leaf ν
  |false=>f.leaf ν
 |.bad _=>none
theorem aH.lI(ν:Nat→Int)(g:α→aH β):∀r:aH α,(r.bind g).leaf ν=(r.leaf ν).bind fun a=>(g a).leaf ν
 |.ok a=>rfl
 |.bad n=>rfl
 |.fork k a b t f=>by
  have ht:=aH.lI ν g t
  have hf:=aH.lI ν g f
  show(match dX ν k a b with|true=>(t.bind g).leaf ν|false=>(f.bind g).leaf ν)=(match dX ν k a b with|true=>t.leaf ν|false=>f.leaf ν).bind fun a=>(g a).leaf ν
  cases dX ν k a b with
  |true=>exact ht
  |false=>exact hf
theorem aH.jz{g:α→aH β}{r:aH α}{y:β}(e:(r.bind g).leaf ν=some y):∃a,r.leaf ν=some a∧(g a).leaf ν=some y:=by
 rw [aH.lI]at e;cases q:r.leaf ν with
 |none=>rw [q]at e;injection e
 |some a=>rw [q]at e;exact⟨a,rfl,e⟩
theorem aH.bd{g:α→aH β}{r:aH α}{y:β}{P:Prop}(e:(r.bind g).leaf ν=some y)(k:∀a,r.leaf ν=some a→(g a).leaf ν=some y→P):P:=aC (aH.jz e) k
theorem aH.cz{γ:Type}{g:α×γ→aH β}{r:aH (α×γ)}{y:β}{P:Prop}(e:(r.bind g).leaf ν=some y)(k:∀a c,r.leaf ν=some (a,c)→(g (a,c)).leaf ν=some y→P):P:=aC (aH.jz e) fun a=>k a.1 a.2
theorem aH.UD{γ δ:Type}{g:α×γ×δ→aH β}{r:aH (α×γ×δ)}{y:β}{P:Prop}(e:(r.bind g).leaf ν=some y)(k:∀a c d,r.leaf ν=some (a,c,d)→(g (a,c,d)).leaf ν=some y→P):P:=aC (aH.jz e) fun a=>k a.1 a.2.1 a.2.2
theorem DZ{γ δ:Type}{R:aH (β×γ×δ)}{g:β×γ×δ→aH α}{r:α}(e:(R.bind g).leaf ν=some r):∃b c s,R.leaf ν=some (b,c,s)∧(g (b,c,s)).leaf ν=some r:=
 (aH.jz e).elim fun x h=>⟨x.1,x.2.1,x.2.2,h⟩
theorem Pt{γ:Type}{R:aH (β×γ)}{g:β×γ→aH α}{r:α}(e:(R.bind g).leaf ν=some r):∃b s,R.leaf ν=some (b,s)∧(g (b,s)).leaf ν=some r:=
 (aH.jz e).elim fun x h=>⟨x.1,x.2,h⟩
theorem no{x:α}{P:Prop}(h:none=some x):P:=nomatch h
theorem zB{x:IE}(e:intOf a=some x):a=.int x:=by
 cases a with
 |int y=>exact congrArg AV.int (al_inj e)
 |_=>exact no e
theorem yZ{x:List Nat}(e:strOf a=some x):a=.str x:=by
 cases a with
 |str y=>exact congrArg AV.str (al_inj e)
 |_=>exact no e
theorem DR{x:List IE}(e:Lz a=some x):a=.bytes x:=by
 cases a with
 |bytes y=>exact congrArg AV.bytes (al_inj e)
 |_=>exact no e
section
variable{r:β}
theorem gZ{g:AV→aH β}(e:(one as g).leaf ν=some r):∃a,as=[a]∧(g a).leaf ν=some r:=by
 cases as with
 |nil=>exact no e
 |cons a l=>cases l with
  |nil=>exact⟨a,rfl,e⟩
  |cons b l=>exact no e
theorem kC{g:AV→AV→aH β}(e:(two as g).leaf ν=some r):∃a b,as=[a,b]∧(g a b).leaf ν=some r:=by
 cases as with
 |nil=>exact no e
 |cons a l=>cases l with
  |nil=>exact no e
  |cons b l=>cases l with
   |nil=>exact⟨a,b,rfl,e⟩
   |cons _ _=>exact no e
theorem aV{g:IE→aH β}(e:(cL a g).leaf ν=some r):∃x,a=.int x∧(g x).leaf ν=some r:=by
 cases a with
 |int x=>exact⟨x,rfl,e⟩
 |_=>exact no e
theorem dk{g:List Nat→aH β}(e:(onStr a g).leaf ν=some r):∃x,a=.str x∧(g x).leaf ν=some r:=by
 cases a with
 |str x=>exact⟨x,rfl,e⟩
 |_=>exact no e
theorem aI{o:Option α}{g:α→aH β}(e:(bL o g).leaf ν=some r):∃x,o=some x∧(g x).leaf ν=some r:=by
 cases o with
 |none=>exact no e
 |some x=>exact⟨x,rfl,e⟩
theorem pW(q:listOf s a=some l):∃i,a=.ref i∧s.get i=some (.list l):=by
 cases a with
 |ref i=>
  unfold listOf at q
  dsimp only at q
  cases z:s.get i with
  |none=>rw [z]at q;exact no q
  |some o=>
   rw [z]at q;cases o with
   |list m=>exact⟨i,rfl,z.trans (congrArg (fun m=>some (AO.list m)) (al_inj q))⟩
   |_=>exact no q
 |_=>exact no q
theorem eF{g:List AV→aH β}(e:(kj s a g).leaf ν=some r):∃i l,a=.ref i∧s.get i=some (.list l)∧(g l).leaf ν=some r:=by
 cases q:listOf s a with
 |none=>unfold kj at e;rw [q]at e;exact no e
 |some l=>
  unfold kj at e;rw [q]at e;refine aC (pW q:) fun i h1 h2=>?_
  exact⟨i,l,h1,h2,e⟩
theorem dn{p q:aH β}(e:(iff b p q).leaf ν=some r):(b=true∧p.leaf ν=some r)∨(b=false∧q.leaf ν=some r):=by
 cases b with
 |true=>exact .inl ⟨rfl,e⟩
 |false=>exact .inr ⟨rfl,e⟩
theorem g9{gl:List AV→aH β}{gb:List IE→aH β}(e:(Aw s a gl gb).leaf ν=some r):∃i,a=.ref i∧((∃l,s.get i=some (.list l)∧(gl l).leaf ν=some r)∨∃l,s.get i=some (.cb l)∧(gb l).leaf ν=some r):=by
 cases a with
 |ref i=>
  refine⟨i,rfl,?_⟩
  unfold Aw at e
  dsimp only at e
  cases q:s.get i with
  |none=>rw [q]at e;exact no e
  |some o=>
   rw [q]at e;cases o with
   |list l=>exact .inl ⟨l,rfl,e⟩
   |cb l=>exact .inr ⟨l,rfl,e⟩
   |_=>exact no e
 |_=>exact no e
theorem lE{g:List IE→aH β}(e:(Fv a g).leaf ν=some r):∃x,a=.bytes x∧(g x).leaf ν=some r:=by
 cases a with
 |bytes x=>exact⟨x,rfl,e⟩
 |_=>exact no e
theorem ip{g:List AV→aH β}(e:(pR a g).leaf ν=some r):∃x,a=.t x∧(g x).leaf ν=some r:=by
 cases a with
 |t x=>exact⟨x,rfl,e⟩
 |_=>exact no e
theorem cJ{g:List AV→aH β}(e:(kj s (.ref i) g).leaf ν=some r):∃l,s.get i=some (.list l)∧(g l).leaf ν=some r:=by
 refine d9 (eF e:) fun j l q h=>?_
 injection q with q;subst q;exact⟨l,h⟩
theorem cC{p:aH β}(e:(gd b p).leaf ν=some r):b=true∧p.leaf ν=some r:=by
 cases b with
 |true=>exact⟨rfl,e⟩
 |false=>exact no e
theorem tj{m:Option Nat}{p:aH β}(e:(Rv m p).leaf ν=some r):m=none∧p.leaf ν=some r:=by
 cases m with
 |none=>exact⟨rfl,e⟩
 |some _=>exact no e
theorem nB{g:Nat→RX}{r:Fl×Env×AS}(e:(BS a g).leaf ν=some r):∃i,a=.ref i∧(g i).leaf ν=some r:=by
 cases a with
 |ref x=>exact⟨x,rfl,e⟩
 |_=>exact no e
theorem instOf_eq{q:Nat×Nat×List (Nat×AV)}(e:instOf s a=some q):∃i,a=.ref i∧s.get i=some (.inst q.1 q.2.1)∧s.get q.2.1=some (.ns q.2.2):=by
 cases a with
 |ref i=>
  unfold instOf at e
  dsimp only at e
  cases z:s.get i with
  |none=>rw [z]at e;exact no e
  |some o=>
   rw [z]at e;cases o with
   |inst c d=>
    dsimp only at e
    cases y:s.get d with
    |none=>rw [y]at e;exact no e
    |some o=>
     rw [y]at e;cases o with
     |ns l=>(injection e with e;subst e);exact⟨i,rfl,z,y⟩
     |_=>exact no e
   |_=>exact no e
 |_=>exact no e
theorem qt{l:List IE}(e:rK s (.ref i)=some l):s.get i=some (.cb l):=by
 unfold rK at e
 dsimp only at e
 cases z:s.get i with
 |none=>rw [z]at e;exact no e
 |some o=>
  rw [z]at e;cases o with
  |cb m=>exact congrArg (fun m=>some (AO.cb m)) (al_inj e)
  |_=>exact no e
end
structure Kd where
 k:Str→Option NameKind
 code:Option Addr
 qual:Str
variable{kd:Kd}
inductive dy(Z M:Addr→Prop)(env:PySem.Env)(h:Heap)(x:Str)(v:Value):Prop
 |loc (m:Str→Option Value):env.kindOf x=some .local→Z env.locals→h.Ns env.locals m→m x=some v→dy Z M env h x v
 |cell (c:Addr) (o:Obj):(env.kindOf x=some .cell∨env.kindOf x=some .free)→env.cells.lookup x=some c→(Z c∨¬M c)→h.get? c=some o→o.data=.cell (some v)→dy Z M env h x v
def gM(k:Option NameKind):Prop:=k=some .local∨k=some .cell∨k=some .free
structure eZ(C:Cx)(Z:Addr→Prop)(J:List Addr)(M:Addr→Prop)(kd:Kd)(env:PySem.Env)(ρ:Env)(h:Heap):Prop where
 glob:env.globals=mainGlobals
 iO:env.builtins=builtinsNs
 kind:env.scope.kind=.function
 kinds:∀x,env.kindOf x=kd.k x
 DK:∀x,kd.k x=some .cell∨kd.k x=some .free→∃c,env.cells.lookup x=some c
 wK:∀x c,env.cells.lookup x=some c→∃o,h.get? c=some o
 code:∀c,kd.code=some c→env.code=.ref c∧env.qual=kd.qual∧∀x a,env.cells.lookup x=some a→¬M a
 vars:∀x v,az ρ x=some v→gM (kd.k (C.nm x))→∃rv,dy Z M env h (C.nm x) rv∧ao C J M h v rv
def bz(A:Around)(d:Nat):Prop:=A.handled=none∧A.depth+2*d+4<recursionLimit∧A.units+12*d+40<cLine
def bZ(C:Cx)(Z:Addr→Prop)(J:List Addr)(h:Heap):Prop:=∀a,Z a→(∃o,h.get? a=some o)∧a∉J∧∀p∈C.tabs,a≠p.2
theorem dy.grow(G:aJ Z J M h σ' M' h'){x:Str}{v:Value}(R:dy Z M env h x v):dy Z M' env h' x v:=by
 cases R with
 |loc m a b c d=>
  refine ml (c:) fun o es ep e r=>?_
  exact .loc m a b ⟨o,es,ep,G.di b e,r⟩ d
 |cell c o a b e f g=>exact .cell c o a b (e.imp id fun n=>G.notM n f) (e.elim (fun n=>G.di n f) fun n=>G.kept n f) g
theorem eZ.grow(G:aJ Z J M h σ' M' h')(F:eZ C Z J M kd env ρ h):eZ C Z σ' M' kd env ρ h':=
 ⟨F.glob,F.iO,F.kind,F.kinds,F.DK,(fun x c q=>let⟨o,e⟩:=F.wK x c q;G.ext.live c o e),(fun c q=>let⟨a1,a2,a3⟩:=F.code c q;⟨a1,a2,fun x a q=>let⟨o,e⟩:=F.wK x a q;G.notM (a3 x a q) e⟩),fun x v e k=>let⟨rv,a,b⟩:=F.vars x v e k;⟨rv,a.grow G,b.grow G⟩⟩
def KV(C:Cx)(Z:Addr→Prop)(J:List Addr)(M:Addr→Prop)(st:Shared)(v:AV)(s':AS)(Q:Value→Shared→Prop):Prop:=
 ∀σ' M' h' tk rv,aJ Z J M st.heap σ' M' h'→aq C σ' M' s' h'→ao C σ' M' h' v rv→Q rv {st with heap:=h',toks:=tk}
def Qy(C:Cx)(Z:Addr→Prop)(J:List Addr)(M:Addr→Prop)(st:Shared)(v:List AV)(s':AS)(Q:List Value→Shared→Prop):Prop:=
 ∀σ' M' h' tk rv,aJ Z J M st.heap σ' M' h'→aq C σ' M' s' h'→ay C σ' M' h' v rv→Q rv {st with heap:=h',toks:=tk}
def KB(C:Cx)(Z:Addr→Prop)(J:List Addr)(M:Addr→Prop)(st:Shared)(b:Bool)(s':AS)(Q:Bool→Shared→Prop):Prop:=
 ∀σ' M' h' tk,aJ Z J M st.heap σ' M' h'→aq C σ' M' s' h'→Q b {st with heap:=h',toks:=tk}
theorem KV.ok(K:KV C Z J M st v s' Q){b:AS}(e:(aH.ok (a,b)).leaf ν=some (v,s')):KV C Z J M st a b Q:=by
 obtain⟨rfl,rfl⟩:=pi_inj e;exact K
section
variable{tk:Tok}
theorem KV.after(K:KV C Z J M st v s' Q)(G:aJ Z J M st.heap σ' M' h'):KV C Z σ' M' {st with heap:=h',toks:=tk} v s' Q:=
 fun cg dG bl bb rv aZ S R=>K cg dG bl bb rv (G.trans aZ) S R
theorem KB.after{Q:Bool→Shared→Prop}(K:KB C Z J M st b s' Q)(G:aJ Z J M st.heap σ' M' h'):KB C Z σ' M' {st with heap:=h',toks:=tk} b s' Q:=
 fun cg dG bl bb aZ S=>K cg dG bl bb (G.trans aZ) S
theorem KV.of{v':AV}{gA:AS}(e:(aH.ok (v',gA):aH (AV×AS)).leaf ν=some (v,s'))(K:KV C Z J M st v s' Q):KV C Z J M st v' gA Q:=by obtain⟨rfl,rfl⟩:=pi_inj e;exact K
theorem Qy.of{v v':List AV}{gA:AS}{Q:List Value→Shared→Prop}(e:(aH.ok (v',gA):aH (List AV×AS)).leaf ν=some (v,s'))(K:Qy C Z J M st v s' Q):Qy C Z J M st v' gA Q:=by obtain⟨rfl,rfl⟩:=pi_inj e;exact K
theorem KB.of{b':Bool}{gA:AS}{Q:Bool→Shared→Prop}(e:(aH.ok (b',gA):aH (Bool×AS)).leaf ν=some (b,s'))(K:KB C Z J M st b s' Q):KB C Z J M st b' gA Q:=by obtain⟨rfl,rfl⟩:=pi_inj e;exact K
theorem KV.now(K:KV C Z J M st v s' Q)(S:aq C J M s' st.heap)(R:ao C J M st.heap v rv)(tk:Tok):Q rv {st with toks:=tk}:=
 K J M st.heap tk rv (aJ.refl _ _ _ _) S R
theorem KB.now{Q:Bool→Shared→Prop}(K:KB C Z J M st b s' Q)(S:aq C J M s' st.heap)(tk:Tok):Q b {st with toks:=tk}:=
 K J M st.heap tk (aJ.refl _ _ _ _) S
end
noncomputable def H6:Op→Operator
 |.add=>.Add|.sub=>.Sub|.mul=>.Mult|.div=>.FloorDiv|.mod=>.Mod|.pow=>.Pow
noncomputable def mL:Cm→CmpOp
 |.eq=>.Eq|.ne=>.NotEq|.lt=>.Lt|.le=>.LtE|.gt=>.Gt|.ge=>.GtE|.is=>.Is|.tI=>.IsNot|.oM=>.In|.B8=>.NotIn
inductive rT:AV→Const→Prop
 |none:rT .none .none
 |bool (b:Bool):rT (.bool b) (.bool b)
 |int (i:Int):rT (.int (.c i)) (.int i)
 |str (l:List Nat):rT (.str l) (.str (aP l))
 |bytes (l:List IE) (b:List UInt8):(∀e∈l,∃i:Nat,i<256∧e=.c (i:Int))→l.map (cj fun Y=>0)=b→rT (.bytes l) (.bytes b)
noncomputable def cn(kd:Kd)(sc:Scope):Kd:=⟨fun x=>(sc.names.map fun(p:Str×NameKind)=>if(p.2==NameKind.free&&kd.k p.1==some NameKind.cell)then(p.1,NameKind.cell)else(p.1,p.2)).lookup x,kd.code,kd.qual⟩
def iS(ks:List (List Nat)):List (Option Expr)→Prop:=List.rec (motive:=fun Y=>List (Option Expr)→Prop) (fun xs=>xs=[]) (fun k Y r xs=>∃n pos sg,xs=some (.Constant (.str (aP k)) n pos)::sg∧r sg) ks
theorem iS.nil:iS [] []:=rfl
theorem iS.cons{k:List Nat}{n pos ks xs}(h:iS ks xs):iS (k::ks) (some (.Constant (.str (aP k)) n pos)::xs):=⟨n,pos,xs,rfl,h⟩
theorem iS.nl{xs:List (Option Expr)}(h:iS [] xs):xs=[]:=h
theorem iS.un{k:List Nat}{ks:List (List Nat)}{xs:List (Option Expr)}(h:iS (k::ks) xs):∃n pos sg,xs=some (.Constant (.str (aP k)) n pos)::sg∧iS ks sg:=h
def cf(C:Tx)(p:Str→Prop)(tg:List Nat):List Expr→Prop:=List.rec (motive:=fun Y=>List Expr→Prop) (fun xs=>xs=[]) (fun x Y r xs=>∃s pos sg,xs=.Name s pos::sg∧s=C.nm x∧p s∧r sg) tg
def eJ(C:Tx)(p:Str→Prop)(tg:List Nat)(flat:Bool)(x:Expr):Prop:=match flat with
 |true=>∃y s pos,tg=[y]∧x=.Name s pos∧s=C.nm y∧p s
 |false=>∃xs k pos,x=.Tuple xs k pos∧cf C p tg xs
section
variable{C:Tx}{p q:Str→Prop}
theorem cf.nil:cf C p [] []:=rfl
theorem cf.of{x:Nat}(h:∃s pos sg,xs=.Name s pos::sg∧s=C.nm x∧p s∧cf C p tg sg):cf C p (x::tg) xs:=h
theorem cf.un{x:Nat}(h:cf C p (x::tg) xs):∃s pos sg,xs=.Name s pos::sg∧s=C.nm x∧p s∧cf C p tg sg:=h
theorem cf.nl(h:cf C p [] xs):xs=[]:=h
theorem cf.cons{x:Nat}{s:Str}(h1:s=C.nm x)(h2:p s)(h3:cf C p tg xs):cf C p (x::tg) (.Name s pos::xs):=.of ⟨s,pos,xs,rfl,h1,h2,h3⟩
@[elab_as_elim] theorem cf.ind{P:List Nat→List Expr→Prop}(h:cf C p tg xs)(nil:P [] [])(cons:∀x s pos tg xs,s=C.nm x→p s→cf C p tg xs→P tg xs→P (x::tg) (.Name s pos::xs)):P tg xs:=
 List.rec (motive:=fun tg=>∀xs,cf C p tg xs→P tg xs) (fun Y h=>h.nl▸nil) (fun x tg ih Y h=>oK h.un fun s pos xs q a b c=>q▸cons x s pos tg xs a b c (ih xs c)) tg xs h
theorem cf.mono(h:cf C p tg xs)(k:∀s,p s→q s):cf C q tg xs:=h.ind .nil fun Y s Y Y Y a b Y ih=>.cons a (k s b) ih
theorem eJ.one{x:Nat}{s:Str}(h1:s=C.nm x)(h2:p s):eJ C p [x] true (.Name s pos):=⟨x,s,pos,rfl,rfl,h1,h2⟩
theorem eJ.many(h:cf C p tg xs):eJ C p tg false (.Tuple xs k pos):=⟨xs,k,pos,rfl,h⟩
theorem eJ.Ny(h:eJ C p tg true x):∃y s pos,tg=[y]∧x=.Name s pos∧s=C.nm y∧p s:=h
theorem eJ.Ck(h:eJ C p tg false x):∃xs k pos,x=.Tuple xs k pos∧cf C p tg xs:=h
theorem eJ.mono{flat:Bool}(h:eJ C p tg flat x)(k:∀s,p s→q s):eJ C q tg flat x:=by
 cases flat with
 |true=>exact oK h.Ny fun y s pos a b c d=>⟨y,s,pos,a,b,c,k s d⟩
 |false=>exact ml h.Ck fun xs n pos a b=>⟨xs,n,pos,a,b.mono k⟩
end
abbrev L8(C:Tx)(kd:Str→Option NameKind):List Nat→List Expr→Prop:=cf C fun s=>kd s=some .local
abbrev I9(C:Tx)(kd:Str→Option NameKind):List Nat→Bool→Expr→Prop:=eJ C fun s=>kd s=some .local
structure wY(C:Tx)(kd:Kd)(k:Nat)(bM:List Nat)(params:Arguments)(body:Expr)(scope:Scope)(pos:Pos):Prop where
 at_:∃c P,kd.code=some c∧(c,P)∈C.tabs∧∀pos,C.tD P pos=kd.qual++"<lambda>"
 dflt:∀env,defaultsOf params env=([],[])
 jT:C.bM k=bM
 free:∀y∈scope.names,y.2=.free→kd.k y.1=some .cell∨kd.k y.1=some .free
 has:∀x∈bM,(C.nm x,NameKind.free)∈scope.names
 all:∀y∈scope.names,y.2=.free→∃x∈bM,y.1=C.nm x
 lam:∀pm cdv ctv qual clos,C.lam k {name:="<lambda>",qualname:=qual,params,body:=.expr body,scope,globals:=mainGlobals,closure:=clos,defaults:=.none,kwdefaults:=.none,doc:=.none,pyModule:=pm,annotations:=none,code:=cdv,closureTuple:=ctv,builtins:=builtinsNs}
section
abbrev FF:=Kd→Expr→Prop
abbrev yG:=Kd→List Expr→Prop
abbrev Mr:=Kd→Option Expr→Prop
section
variable(C:Tx)
noncomputable def Dj(x:Nat):FF:=fun kd e=>∃s pos,e=.Name s pos∧s=C.nm x∧gM (kd.k s)∧(s==("__debug__":Str))=false∧(s==("__classdict__":Str))=false
noncomputable def uc(x:Nat):FF:=fun kd e=>∃s pos,e=.Name s pos∧s=C.nm x∧kd.k s=some .globalImplicit∧(s==("__debug__":Str))=false
noncomputable def tZ(v:AV):FF:=fun Y e=>∃c k pos,e=.Constant c k pos∧rT v c
noncomputable def t4(l:yG):FF:=fun kd e=>∃xs k pos,e=.Tuple xs k pos∧l kd xs
noncomputable def n7(l:yG):FF:=fun kd e=>∃xs pos,e=.List xs pos∧l kd xs
def ud(ks:List (List Nat))(es:List CE)(l:yG):FF:=fun kd e=>∃kx xs pos,e=.Dict kx xs pos∧iS ks kx∧l kd xs∧ks.length=es.length∧(ks.map aP).Nodup∧ks.length≤15
def uf(op:Op)(a b:FF):FF:=fun kd e=>∃x y pos,e=.BinOp x (H6 op) y pos∧a kd x∧b kd y
def ue(op:Cm)(a b:FF):FF:=fun kd e=>∃x y pos,e=.Compare x [mL op] [y] pos∧a kd x∧b kd y∧behindInMarks (mL op) y=false
def kV(op jI:Cm)(a b c:FF):FF:=fun kd e=>∃x y z pos,e=.Compare x [mL op,mL jI] [y,z] pos∧a kd x∧b kd y∧c kd z∧lastMarks [mL op,mL jI] [y,z]=false
noncomputable def gR(op:BoolOp)(l:yG):FF:=fun kd e=>∃xs pos,e=.BoolOp op xs pos∧l kd xs
noncomputable def pd(op:UnaryOp)(a:FF):FF:=fun kd e=>∃x pos,e=.UnaryOp op x pos∧a kd x
noncomputable def ua(a b c:FF):FF:=fun kd e=>∃x y z pos,e=.IfExp x y z pos∧a kd x∧b kd y∧c kd z
noncomputable def oa(n:Nat)(a:FF):FF:=fun kd e=>∃x s pos,e=.Attribute x s pos∧s=C.nm n∧n∈C.attrs∧(∀id p q,x≠.Call (.Name id p) [] [] q)∧a kd x
noncomputable def ub(a b:FF):FF:=fun kd e=>∃x y pos,e=.Subscript x y pos∧a kd x∧b kd y
noncomputable def t5(a:FF)(lo hi:Mr):FF:=fun kd e=>∃x l u p pos,e=.Subscript x (.Slice l u none p) pos∧a kd x∧lo kd l∧hi kd u
noncomputable def t6(a:FF):FF:=fun kd e=>∃x k p1 p2 p3 p4,e=.Subscript x (.Slice none none (some (.UnaryOp .USub (.Constant (.int 1) k p1) p2)) p3) p4∧a kd x
noncomputable def t9(k:Nat)(bM:List Nat):FF:=fun kd e=>∃params body scope pos,e=.Lambda params body scope pos∧wY C kd k bM params body scope pos
noncomputable def n9(f:FF)(l:yG):FF:=fun kd e=>∃x xs pos,e=.Call x xs [] pos∧f kd x∧(∀o n p,x≠.Attribute o n p)∧l kd xs
noncomputable def n6(n:Nat)(a:FF)(l:yG):FF:=fun kd e=>∃x s apos xs pos,e=.Call (.Attribute x s apos) xs [] pos∧s=C.nm n∧n∈C.attrs∧(∀id p q,x≠.Call (.Name id p) [] [] q)∧a kd x∧l kd xs∧xs.length<30∧(apos.endLine==pos.line)=true
structure Eg(elt:FF)(tg:List Nat)(flat:Bool)(it:FF)(ifs:yG)(kd:Kd)(xe xt xi:Expr)(xs:List Expr)(sc:Scope):Prop where
 Xl:I9 C (fun n=>sc.names.lookup n) tg flat xt
 fit:it kd xi
 WQ:elt (cn kd sc) xe
 WO:ifs (cn kd sc) xs
 kind:sc.kind=.function
 Ru:∀y∈sc.names,y.2≠.cell
 loc:∀y∈sc.names,y.2=.local→sc.names.lookup y.1=some .local
 free:∀y∈sc.names,y.2=.free→kd.k y.1=some .cell∨kd.k y.1=some .free
 mem:∀x,sc.names.lookup (C.nm x)=some .local→x∈tg
 TX:∀x k p,xi≠.Set x k p
 Rt:sc.isCoroutine=false
 TY:sc.isGenerator=false
noncomputable def n8(tg:List Nat)(flat:Bool)(elt it:FF)(ifs:yG):FF:=fun kd e=>∃xe xt xi xs sc pos,e=.ListComp xe [⟨xt,xi,xs,0⟩] sc pos∧Eg C elt tg flat it ifs kd xe xt xi xs sc
noncomputable def yl:FF:=fun Y e=>∀xs k p,e≠.Set xs k p
noncomputable def wc(a:FF)(l:yG):yG:=fun kd ys=>∃x xs,ys=x::xs∧a kd x∧(∀y p,x≠.Starred y p)∧l kd xs
noncomputable def wb(a:FF):Mr:=fun kd o=>∃x,o=some x∧a kd x
def ak(kd:Kd)(e:CE):Expr→Prop:=CE.rec (motive_1:=fun Y=>FF) (motive_2:=fun Y=>yG) (motive_3:=fun Y=>Mr)
 (Dj C) tZ (fun Y=>t4) (fun Y=>n7) ud (fun op Y Y=>uf op) (fun op Y Y=>ue op) (fun op Y Y jI Y=>kV op jI) (fun Y=>gR .And) (fun Y=>gR .Or) (fun Y=>pd .Not) (fun Y=>pd .USub) (fun Y Y Y=>ua) (fun Y n=>oa C n) (fun Y Y=>ub) (fun Y Y Y=>t5) (fun Y=>t6) (fun Y Y=>n9) (fun Y n Y=>n6 C n) (fun Y tg flat Y Y=>n8 C tg flat) (fun Y Y Y Y Y Y Y Y Y Y Y=>False) (t9 C) (uc C) (fun Y=>yl)
 (fun Y xs=>xs=[]) (fun Y Y=>wc) (fun Y o=>o=none) (fun Y=>wb) e kd
def cp(kd:Kd)(e:List CE):List Expr→Prop:=CE.rec_1 (motive_1:=fun Y=>FF) (motive_2:=fun Y=>yG) (motive_3:=fun Y=>Mr)
 (Dj C) tZ (fun Y=>t4) (fun Y=>n7) ud (fun op Y Y=>uf op) (fun op Y Y=>ue op) (fun op Y Y jI Y=>kV op jI) (fun Y=>gR .And) (fun Y=>gR .Or) (fun Y=>pd .Not) (fun Y=>pd .USub) (fun Y Y Y=>ua) (fun Y n=>oa C n) (fun Y Y=>ub) (fun Y Y Y=>t5) (fun Y=>t6) (fun Y Y=>n9) (fun Y n Y=>n6 C n) (fun Y tg flat Y Y=>n8 C tg flat) (fun Y Y Y Y Y Y Y Y Y Y Y=>False) (t9 C) (uc C) (fun Y=>yl)
 (fun Y xs=>xs=[]) (fun Y Y=>wc) (fun Y o=>o=none) (fun Y=>wb) e kd
def eK(kd:Kd)(e:Option CE):Option Expr→Prop:=CE.rec_2 (motive_1:=fun Y=>FF) (motive_2:=fun Y=>yG) (motive_3:=fun Y=>Mr)
 (Dj C) tZ (fun Y=>t4) (fun Y=>n7) ud (fun op Y Y=>uf op) (fun op Y Y=>ue op) (fun op Y Y jI Y=>kV op jI) (fun Y=>gR .And) (fun Y=>gR .Or) (fun Y=>pd .Not) (fun Y=>pd .USub) (fun Y Y Y=>ua) (fun Y n=>oa C n) (fun Y Y=>ub) (fun Y Y Y=>t5) (fun Y=>t6) (fun Y Y=>n9) (fun Y n Y=>n6 C n) (fun Y tg flat Y Y=>n8 C tg flat) (fun Y Y Y Y Y Y Y Y Y Y Y=>False) (t9 C) (uc C) (fun Y=>yl)
 (fun Y xs=>xs=[]) (fun Y Y=>wc) (fun Y o=>o=none) (fun Y=>wb) e kd
end
end
abbrev FS(C:Tx)(a:CE):FF:=fun kd=>ak C kd a
abbrev uQ(C:Tx)(a:List CE):yG:=fun kd=>cp C kd a
abbrev QA(C:Tx)(a:Option CE):Mr:=fun kd=>eK C kd a
section
variable{C:Tx}
namespace ak
section
variable{op jI:Op}{o1 o2:Cm}{x:Nat}{a b c:CE}{es:List CE}{ks:List (List Nat)}{lo hi:Option CE}{flat:Bool}{e:Expr}
theorem Rw(h:ak C kd (.n x) e):Dj C x kd e:=h
theorem OC(h:ak C kd (.eM x) e):uc C x kd e:=h
theorem MK(h:ak C kd (.val v) e):tZ v kd e:=h
theorem tupI(h:ak C kd (.t es) e):t4 (uQ C es) kd e:=h
theorem listI(h:ak C kd (.list es) e):n7 (uQ C es) kd e:=h
theorem Pf(h:ak C kd (.dW ks es) e):ud ks es (uQ C es) kd e:=h
theorem binI(h:ak C kd (.bin op a b) e):uf op (FS C a) (FS C b) kd e:=h
theorem Lw(h:ak C kd (.cmp o1 a b) e):ue o1 (FS C a) (FS C b) kd e:=h
theorem DI(h:ak C kd (.chain o1 a b o2 c) e):kV o1 o2 (FS C a) (FS C b) (FS C c) kd e:=h
theorem LZ(h:ak C kd (.and es) e):gR .And (uQ C es) kd e:=h
theorem Ri(h:ak C kd (.or es) e):gR .Or (uQ C es) kd e:=h
theorem NI(h:ak C kd (.not a) e):pd .Not (FS C a) kd e:=h
theorem NK(h:ak C kd (.neg a) e):pd .USub (FS C a) kd e:=h
theorem FZ(h:ak C kd (.ite a b c) e):ua (FS C a) (FS C b) (FS C c) kd e:=h
theorem D5(h:ak C kd (.attr a n) e):oa C n (FS C a) kd e:=h
theorem Og(h:ak C kd (.idx a b) e):ub (FS C a) (FS C b) kd e:=h
theorem MY(h:ak C kd (.il a lo hi) e):t5 (FS C a) (QA C lo) (QA C hi) kd e:=h
theorem Nj(h:ak C kd (.rev a) e):t6 (FS C a) kd e:=h
theorem N7(h:ak C kd (.lam n tg) e):t9 C n tg kd e:=h
theorem DO(h:ak C kd (.call a es) e):n9 (FS C a) (uQ C es) kd e:=h
theorem Cf(h:ak C kd (.bC a n es) e):n6 C n (FS C a) (uQ C es) kd e:=h
theorem DE(h:ak C kd (.comp a tg flat b es) e):n8 C tg flat (FS C a) (FS C b) (uQ C es) kd e:=h
theorem Ta(h:ak C kd (.bad n) e):yl kd e:=h
theorem VX(h:Dj C x kd e):ak C kd (.n x) e:=h
theorem Sn(h:uc C x kd e):ak C kd (.eM x) e:=h
theorem QO(h:tZ v kd e):ak C kd (.val v) e:=h
theorem oX(h:t4 (uQ C es) kd e):ak C kd (.t es) e:=h
theorem N0(h:n7 (uQ C es) kd e):ak C kd (.list es) e:=h
theorem S0(h:ud ks es (uQ C es) kd e):ak C kd (.dW ks es) e:=h
theorem S7(h:uf op (FS C a) (FS C b) kd e):ak C kd (.bin op a b) e:=h
theorem S4(h:ue o1 (FS C a) (FS C b) kd e):ak C kd (.cmp o1 a b) e:=h
theorem Lx(h:kV o1 o2 (FS C a) (FS C b) (FS C c) kd e):ak C kd (.chain o1 a b o2 c) e:=h
theorem Te(h:gR .And (uQ C es) kd e):ak C kd (.and es) e:=h
theorem VI(h:gR .Or (uQ C es) kd e):ak C kd (.or es) e:=h
theorem Rq(h:pd .Not (FS C a) kd e):ak C kd (.not a) e:=h
theorem Rx(h:pd .USub (FS C a) kd e):ak C kd (.neg a) e:=h
theorem KD(h:ua (FS C a) (FS C b) (FS C c) kd e):ak C kd (.ite a b c) e:=h
theorem PI(h:oa C n (FS C a) kd e):ak C kd (.attr a n) e:=h
theorem RP(h:ub (FS C a) (FS C b) kd e):ak C kd (.idx a b) e:=h
theorem Q0(h:t5 (FS C a) (QA C lo) (QA C hi) kd e):ak C kd (.il a lo hi) e:=h
theorem Q9(h:t6 (FS C a) kd e):ak C kd (.rev a) e:=h
theorem RJ(h:t9 C n tg kd e):ak C kd (.lam n tg) e:=h
theorem Pp(h:n9 (FS C a) (uQ C es) kd e):ak C kd (.call a es) e:=h
theorem NP(h:n6 C n (FS C a) (uQ C es) kd e):ak C kd (.bC a n es) e:=h
theorem Pk(h:n8 C tg flat (FS C a) (FS C b) (uQ C es) kd e):ak C kd (.comp a tg flat b es) e:=h
theorem bad(h:∀xs k p,e≠.Set xs k p):ak C kd (.bad n) e:=h
section
variable{s:Str}{pos' p1 p2 p3 p4 apos:Pos}{cst:Const}{y z l u:Expr}{X:Expr}{kx:List (Option Expr)}{ol ou:Option Expr}
theorem nm(h1:s=C.nm x)(h2:gM (kd.k s))(h3:(s==("__debug__":Str))=false)(h4:(s==("__classdict__":Str))=false):ak C kd (.n x) (.Name s pos):=VX ⟨s,pos,rfl,h1,h2,h3,h4⟩
theorem eM(h1:s=C.nm x)(h2:kd.k s=some .globalImplicit)(h3:(s==("__debug__":Str))=false):ak C kd (.eM x) (.Name s pos):=Sn ⟨s,pos,rfl,h1,h2,h3⟩
theorem val(h:rT v cst):ak C kd (.val v) (.Constant cst k pos):=QO ⟨cst,k,pos,rfl,h⟩
theorem t(h:cp C kd es xs):ak C kd (.t es) (.Tuple xs k pos):=oX ⟨xs,k,pos,rfl,h⟩
theorem list(h:cp C kd es xs):ak C kd (.list es) (.List xs pos):=N0 ⟨xs,pos,rfl,h⟩
theorem dW(h1:iS ks kx)(h2:cp C kd es xs)(h3:ks.length=es.length)(h4:(ks.map aP).Nodup)(h5:ks.length≤15):ak C kd (.dW ks es) (.Dict kx xs pos):=S0 ⟨kx,xs,pos,rfl,h1,h2,h3,h4,h5⟩
theorem bin(h1:ak C kd a X)(h2:ak C kd b y):ak C kd (.bin op a b) (.BinOp X (H6 op) y pos):=S7 ⟨X,y,pos,rfl,h1,h2⟩
theorem cmp(h1:ak C kd a X)(h2:ak C kd b y)(h3:behindInMarks (mL o1) y=false):ak C kd (.cmp o1 a b) (.Compare X [mL o1] [y] pos):=S4 ⟨X,y,pos,rfl,h1,h2,h3⟩
theorem chain(h1:ak C kd a X)(h2:ak C kd b y)(h3:ak C kd c z)(h4:lastMarks [mL o1,mL o2] [y,z]=false):ak C kd (.chain o1 a b o2 c) (.Compare X [mL o1,mL o2] [y,z] pos):=Lx ⟨X,y,z,pos,rfl,h1,h2,h3,h4⟩
theorem and(h:cp C kd es xs):ak C kd (.and es) (.BoolOp .And xs pos):=Te ⟨xs,pos,rfl,h⟩
theorem or(h:cp C kd es xs):ak C kd (.or es) (.BoolOp .Or xs pos):=VI ⟨xs,pos,rfl,h⟩
theorem not(h:ak C kd a X):ak C kd (.not a) (.UnaryOp .Not X pos):=Rq ⟨X,pos,rfl,h⟩
theorem neg(h:ak C kd a X):ak C kd (.neg a) (.UnaryOp .USub X pos):=Rx ⟨X,pos,rfl,h⟩
theorem ite(h1:ak C kd a X)(h2:ak C kd b y)(h3:ak C kd c z):ak C kd (.ite a b c) (.IfExp X y z pos):=KD ⟨X,y,z,pos,rfl,h1,h2,h3⟩
theorem attr(h1:s=C.nm n)(h2:n∈C.attrs)(h3:∀id p q,X≠.Call (.Name id p) [] [] q)(h4:ak C kd a X):ak C kd (.attr a n) (.Attribute X s pos):=PI ⟨X,s,pos,rfl,h1,h2,h3,h4⟩
theorem idx(h1:ak C kd a X)(h2:ak C kd b y):ak C kd (.idx a b) (.Subscript X y pos):=RP ⟨X,y,pos,rfl,h1,h2⟩
theorem il(h1:ak C kd a X)(h2:eK C kd lo ol)(h3:eK C kd hi ou):ak C kd (.il a lo hi) (.Subscript X (.Slice ol ou none pos') pos):=Q0 ⟨X,ol,ou,pos',pos,rfl,h1,h2,h3⟩
theorem rev(h1:ak C kd a X):ak C kd (.rev a) (.Subscript X (.Slice none none (some (.UnaryOp .USub (.Constant (.int 1) k p1) p2)) p3) p4):=Q9 ⟨X,k,p1,p2,p3,p4,rfl,h1⟩
theorem lam{params:Arguments}{body:Expr}{scope:Scope}(h:wY C kd n tg params body scope pos):ak C kd (.lam n tg) (.Lambda params body scope pos):=RJ ⟨params,body,scope,pos,rfl,h⟩
theorem call(h1:ak C kd a X)(h2:∀o n p,X≠.Attribute o n p)(h3:cp C kd es xs):ak C kd (.call a es) (.Call X xs [] pos):=Pp ⟨X,xs,pos,rfl,h1,h2,h3⟩
theorem bC(h1:s=C.nm n)(h2:n∈C.attrs)(h3:∀id p q,X≠.Call (.Name id p) [] [] q)(h4:ak C kd a X)(h5:cp C kd es xs)(h6:xs.length<30)(h7:(apos.endLine==pos.line)=true):ak C kd (.bC a n es) (.Call (.Attribute X s apos) xs [] pos):=NP ⟨X,s,apos,xs,pos,rfl,h1,h2,h3,h4,h5,h6,h7⟩
end
end
end ak
theorem cp.nl(h:cp C kd [] xs):xs=[]:=h
theorem cp.un{es:List CE}(h:cp C kd (e::es) xs):∃x r,xs=x::r∧ak C kd e x∧(∀y p,x≠.Starred y p)∧cp C kd es r:=h
@[elab_as_elim] theorem cp.oI{es:List CE}{P:List Expr→Prop}(h:cp C kd (e::es) xs)(k:∀x r,ak C kd e x→(∀y p,x≠.Starred y p)→cp C kd es r→P (x::r)):P xs:=Kk h.un fun x r q a b c=>q▸k x r a b c
theorem cp.nil:cp C kd [] []:=rfl
theorem cp.of{es:List CE}(h:∃x r,xs=x::r∧ak C kd e x∧(∀y p,x≠.Starred y p)∧cp C kd es r):cp C kd (e::es) xs:=h
theorem cp.cons{es:List CE}(h1:ak C kd e x)(h2:∀y p,x≠.Starred y p)(h3:cp C kd es xs):cp C kd (e::es) (x::xs):=.of ⟨x,xs,rfl,h1,h2,h3⟩
theorem eK.VW{x:Option Expr}(h:eK C kd .none x):x=.none:=h
theorem eK.MU{x:Option Expr}(h:eK C kd (.some e) x):∃y,x=.some y∧ak C kd e y:=h
theorem eK.none:eK C kd .none .none:=rfl
theorem eK.of{x:Option Expr}(h:∃y,x=.some y∧ak C kd e y):eK C kd (.some e) x:=h
theorem eK.some(h:ak C kd e x):eK C kd (.some e) (.some x):=.of ⟨x,rfl,h⟩
end
abbrev I8(C:Cx):=L8 C.toTx
abbrev uP(C:Cx):=I9 C.toTx
abbrev PZ(C:Cx):=wY C.toTx
abbrev aU(C:Cx):=ak C.toTx
abbrev cP(C:Cx):=cp C.toTx
abbrev yE(C:Cx):=eK C.toTx
abbrev Md(C:Cx):Model:=model C.prog C.w
def fV(C:Cx)(ih:Ih)(d:Nat):Prop:=∀e ρ s v s',(ih.ev e ρ s).leaf C.ν=some (v,s')→∀kd ex,aU C kd e ex→∀Z J M env A st,eZ C Z J M kd env ρ st.heap→aq C J M s st.heap→bz A d→bZ C Z J st.heap→
 ∀Q E,KV C Z J M st v s' Q→ab (Md C) A (eval ex env) Q E st
def uX(C:Cx)(ih:Ih)(d:Nat):Prop:=∀e ρ s b s',(ih.ts e ρ s).leaf C.ν=some (b,s')→∀kd ex,aU C kd e ex→∀Z J M env A st,eZ C Z J M kd env ρ st.heap→aq C J M s st.heap→bz A d→bZ C Z J st.heap→
 ∀Q E,KB C Z J M st b s' Q→ab (Md C) A (isTrue ex env (eval ex env)) Q E st
noncomputable def aE.vl(t:aE α):Option α:=t.casesOn none fun v Y Y=>v
noncomputable def aE.lf(t:aE α):aE α:=t.casesOn .nil fun Y l Y=>l
noncomputable def aE.rt(t:aE α):aE α:=t.casesOn .nil fun Y Y r=>r
section
variable{t:aE α}{o:α}
theorem aE.IH:t.get 0=t.vl:=by cases t<;>rfl
theorem aE.nV(q:(i+1) %2=0):t.get (i+1)=t.rt.get ((i+1)/2 - 1):=by
 cases t with
 |nil=>rfl
 |node v l r=>exact congrArg (Nat.rec (motive:=fun Y=>Option α) (r.get ((i+1)/2 - 1)) fun Y Y=>l.get ((i+1)/2)) q
theorem aE.nU(q:(i+1) %2=k+1):t.get (i+1)=t.lf.get ((i+1)/2):=by
 cases t with
 |nil=>rfl
 |node v l r=>exact congrArg (Nat.rec (motive:=fun Y=>Option α) (r.get ((i+1)/2 - 1)) fun Y Y=>l.get ((i+1)/2)) q
theorem aE.MS{f:aE α→Nat→α→aE α}{v:Option α}{l r:aE α}(q:(i+1) %2=0):Qg f (i+1) o v l r=.node v l (f r ((i+1)/2 - 1) o):=congrArg (Nat.rec (motive:=fun Y=>aE α) (.node v l (f r ((i+1)/2 - 1) o)) fun Y Y=>.node v (f l ((i+1)/2) o) r) q
theorem aE.MR{f:aE α→Nat→α→aE α}{v:Option α}{l r:aE α}(q:(i+1) %2=k+1):Qg f (i+1) o v l r=.node v (f l ((i+1)/2) o) r:=congrArg (Nat.rec (motive:=fun Y=>aE α) (.node v l (f r ((i+1)/2 - 1) o)) fun Y Y=>.node v (f l ((i+1)/2) o) r) q
theorem aE.H2:put (n+1) t 0 o=.node (some o) t.lf t.rt:=by cases t<;>rfl
theorem aE.H4(q:(i+1) %2=0):put (n+1) t (i+1) o=.node t.vl t.lf (put n t.rt ((i+1)/2 - 1) o):=by cases t<;>exact MS q
theorem aE.H3(q:(i+1) %2=k+1):put (n+1) t (i+1) o=.node t.vl (put n t.lf ((i+1)/2) o) t.rt:=by cases t<;>exact MR q
end
theorem K2{m p:Nat}(d:2*m+0=i+1)(h:i+1<2*p - 1):m - 1<p - 1:=
 Nat.sub_lt_sub_right (Nat.pos_of_ne_zero fun e=>by rw [e]at d;exact nomatch d) (Nat.lt_of_mul_lt_mul_left (a:=2) (Nat.lt_of_le_of_lt (Nat.le_of_eq d) (Nat.lt_of_lt_of_le h (Nat.sub_le _ _))))
theorem K0{m p:Nat}(d:2*m+1=i+1)(h:i+1<2*p - 1):m<p - 1:=
 Nat.lt_sub_of_add_lt (Nat.lt_of_mul_lt_mul_left (a:=2) (Nat.lt_of_le_of_lt (Nat.le_of_eq (congrArg (·+1) d)) (Nat.add_lt_of_lt_sub h)))
theorem vr{m:Nat}(q:m %2=k+1):k=0:=Nat.le_zero.mp (Nat.le_of_lt_succ (Nat.lt_of_succ_lt_succ ((congrArg (·<2) q).mp (Nat.mod_lt m Nat.two_pos))))
theorem AS.b8(t:aE AO)(n:Nat):∀(i:Nat)(o:AO),i<2^n - 1→(aE.put n t i o).get i=some o:=by
 induction n generalizing t with
 |zero=>exact fun i Y h=>absurd h (Nat.not_lt_zero i)
 |succ n ih=>
  intro i o h;cases i with
  |zero=>rw [aE.H2];rfl
  |succ i=>
   have d:=Nat.div_add_mod (i+1) 2
   rw [Nat.pow_succ,Nat.mul_comm]at h;cases q:(i+1) %2 with
   |zero=>rw [aE.H4 q,aE.nV q];exact ih _ _ _ (K2 (q▸d) h)
   |succ k=>rw [aE.H3 q,aE.nU q];exact ih _ _ _ (K0 ((congrArg (2*((i+1)/2)+·) (q.trans (congrArg (·+1) (vr q)))).symm.trans d) h)
theorem xI{b:Nat}(hij:i+1≠j+1)(q:(i+1) %2=b)(r:(j+1) %2=b):(i+1)/2≠(j+1)/2:=fun e=>
 hij ((Nat.div_add_mod (i+1) 2).symm.trans ((congrArg (2*·+_) e).trans ((congrArg (_+·) (q.trans r.symm)).trans (Nat.div_add_mod (j+1) 2))))
theorem tU(q:(i+1) %2=0):0<(i+1)/2:=Nat.pos_of_ne_zero fun e=>by
 have d:=Nat.div_add_mod (i+1) 2
 rw [q,e]at d;exact nomatch d
theorem AS.br(t:aE AO)(n:Nat):∀(i j:Nat)(o:AO),i≠j→(aE.put n t i o).get j=t.get j:=by
 induction n generalizing t with
 |zero=>intro i j o _;rfl
 |succ n ih=>
  intro i j o hij;cases i with
  |zero=>
   rw [aE.H2];cases j with
   |zero=>exact absurd rfl hij
   |succ j=>
    cases r:(j+1) %2 with
    |zero=>exact(aE.nV r).trans (aE.nV (t:=t) r).symm
    |succ k=>exact(aE.nU r).trans (aE.nU (t:=t) r).symm
  |succ i=>
   cases q:(i+1) %2 with
   |zero=>
    rw [aE.H4 q];cases j with
    |zero=>exact(aE.IH (t:=t)).symm
    |succ j=>
     cases r:(j+1) %2 with
     |zero=>exact(aE.nV r).trans ((ih _ _ _ _ fun e=>xI hij q r (Nat.sub_one_cancel (tU q) (tU r) e)).trans (aE.nV (t:=t) r).symm)
     |succ k=>exact(aE.nU r).trans (aE.nU (t:=t) r).symm
   |succ k=>
    rw [aE.H3 q];cases j with
    |zero=>exact(aE.IH (t:=t)).symm
    |succ j=>
     cases r:(j+1) %2 with
     |zero=>exact(aE.nV r).trans (aE.nV (t:=t) r).symm
     |succ k'=>exact(aE.nU r).trans ((ih _ _ _ _ (xI hij q (r.trans (congrArg (·+1) ((vr r).trans (vr q).symm))))).trans (aE.nU (t:=t) r).symm)
section
theorem cF.chg(G:uR J M h σ' M' h'){o:AO}{a:Addr}(R:cF C J M h o a)(e:∀x,h.get? a=some x→h'.get? a=some x):cF C σ' M' h' o a:=by
 cases o with
 |list l=>exact d9 R.listI fun vs n q r=>.list l a vs n (e _ q) (r.chg G)
 |inst c d=>exact aC R.instI fun dx q r=>.inst c d a dx (e _ q) (dm G.pre fun l z=>z▸(List.getElem?_append_left (List.getElem?_eq_some_iff.mp r).1).trans r)
 |ns l=>exact d9 R.Qm fun es n q r=>.ns l a es n (e _ q) (r.chg G)
 |cb b=>exact⟨e _ R.jt.1,R.jt.2⟩
theorem cF.grow(G:aJ Z J M h σ' M' h'){o:AO}{a:Addr}(R:cF C J M h o a)(e:∀x,h.get? a=some x→h'.get? a=some x):cF C σ' M' h' o a:=R.chg G.chg e
theorem aq.nH(S:aq C J M s h){a:Addr}(ha:h.get? a=none):¬M a:=fun q=>let⟨_,e⟩:=S.mlt a q;aM e ha
theorem cF.live{o:AO}{a:Addr}(R:cF C J M h o a):∃x,h.get? a=some x:=by
 cases o with
 |list l=>exact d9 R.listI fun Y Y q Y=>⟨_,q⟩
 |inst c d=>exact aC R.instI fun Y q Y=>⟨_,q⟩
 |ns l=>exact d9 R.Qm fun Y Y q Y=>⟨_,q⟩
 |cb b=>exact⟨_,R.jt.1⟩
theorem aq.inj(S:aq C J M s h){a:Addr}(e:J[i]?=some a)(e':J[j]?=some a):i=j:=by
 refine dm (List.getElem?_eq_some_iff.mp e:) fun hi KZ=>?_
 refine dm (List.getElem?_eq_some_iff.mp e':) fun hj Uj=>?_
 have P:=List.pairwise_iff_getElem.mp S.nodup
 rcases Nat.lt_trichotomy i j with q|q|q
 ·exact absurd (KZ.trans Uj.symm) (P i j hi hj q)
 ·exact q
 ·exact absurd (Uj.trans KZ.symm) (P j i hj hi q)
theorem qA.keep{P:Addr}(T:qA C M h P)(hk:∀b o,h.get? b=some o→h'.get? b=some o):qA C M h' P:=
 let⟨ps,a,b,c,d⟩:=T;⟨ps,a,hk _ _ b,c,fun pos cv e=>let⟨c,oc,vs,t,e1,e2,e3,e4⟩:=d pos cv e;⟨c,oc,vs,t,e1,e2,hk _ _ e3,e4⟩⟩
theorem aq.heap(S:aq C J M s h)(hk:∀b o,h.get? b=some o→h'.get? b=some o):aq C J M s h':=
 ⟨S.len,S.lim,S.gC,S.nodup,S.low,fun i o a e q=>(S.obj i o a e q).grow (aJ.heap (fun Y=>False) J M hk) (fun x=>hk a x),S.je,S.ye,fun a m=>let⟨o,e⟩:=S.there a m;⟨o,hk _ _ e⟩,fun a m=>let⟨o,e⟩:=S.mlt a m;⟨o,hk _ _ e⟩,fun b o e=>⟨(S.base b o e).1,hk b o (S.base b o e).2⟩,fun p hp=>⟨(S.tab p hp).1.keep hk,(S.tab p hp).2⟩,S.rg⟩
theorem aq.alloc(S:aq C J M s h)(KW:Nat.blt s.n 1000000=true){a:Addr}(hk:∀b o,h.get? b=some o→h'.get? b=some o)(ha:h.get? a=none)(o:AO)
  (ho:cF C (J++[a]) (fun b=>M b∨b=a) h' o a):aq C (J++[a]) (fun b=>M b∨b=a) (s.new o).2 h'∧aJ Z J M h (J++[a]) (fun b=>M b∨b=a) h'∧(J++[a])[s.n]?=some a:=by
 have G:aJ Z J M h (J++[a]) (fun b=>M b∨b=a) h':=⟨⟨[a],rfl,fun b m=>by rw [List.mem_singleton]at m;rw [m];exact ha⟩,⟨fun b o e=>⟨o,hk b o e⟩,fun b o Y e=>hk b o e⟩,fun Y x=>.inl x,fun b x=>x.elim .inl fun q=>.inr (q▸ha)⟩
 have hn:a∉J:=fun m=>let⟨_,e⟩:=S.there a m;aM e ha
 have Ol:s.n<1000000:=al_ble KW
 have hnf:=S.gC
 have hroom:s.n<2^40 - 1:=Nat.lt_trans Ol (by decide)
 have he:(J++[a])[s.n]?=some a:=by rw [S.len,List.getElem?_append_right (Nat.le_refl _),Nat.sub_self];rfl
 refine⟨⟨?_,Ol,⟨Nat.le_succ_of_le hnf.1,fun i hi=>(AS.br s.hp 40 s.n i o (by have:=hnf.1;lia)).trans (hnf.2 i hi)⟩,?_,?_,?_,?_,?_,?_,fun b m=>m.elim (fun m=>let⟨o,e⟩:=S.mlt b m;⟨o,hk _ _ e⟩) fun m=>m▸ho.live,?_,?_,S.rg⟩,G,he⟩
 ·show s.n+1=_
  rw [S.len];simp
 ·rw [List.nodup_append]
  exact⟨S.nodup,by simp,fun x hx y hy=>by rw [List.mem_singleton]at hy;subst hy;rintro rfl;exact hn hx⟩
 ·intro i o' e
  show i<s.n+1
  by_cases hi:s.n=i
  ·lia
  ·have:(aE.put 40 s.hp s.n o).get i=some o':=e
   rw [AS.br _ _ _ _ _ hi]at this;have:=S.low i o' this
   lia
 ·intro i o' b e q
  by_cases hi:s.n=i
  ·subst hi
   have e':(aE.put 40 s.hp s.n o).get s.n=some o':=e
   rw [AS.b8 _ _ _ _ hroom]at e';injection e' with e';subst e';rw [he]at q;injection q with q;subst q;exact ho
  ·have e':(aE.put 40 s.hp s.n o).get i=some o':=e
   rw [AS.br _ _ _ _ _ hi]at e';have hl:=S.low i o' e'
   rw [S.len]at hl;rw [List.getElem?_append_left hl]at q;exact(S.obj i o' b e' q).grow G (fun x y=>hk b x y)
 ·intro i b q hle
  rcases Nat.lt_or_ge i J.length with hl|hl
  ·rw [List.getElem?_append_left hl]at q
   exact .inl (S.je i b q hle)
  ·rw [List.getElem?_append_right hl]at q
   have:b∈[a]:=al_mem q
   exact .inr (List.mem_singleton.mp this)
 ·intro i b q CV hb
  have hl:i<J.length:=by rw [←S.len];exact Nat.lt_of_lt_of_le CV hnf.1
  rw [List.getElem?_append_left hl]at q;refine hb.elim (S.ye i b q CV) fun x=>?_
  subst x;exact hn (al_mem q)
 ·intro b m
  rcases List.mem_append.mp m with m|m
  ·refine dm (S.there b m:) fun o e=>?_
   exact⟨o,hk _ _ e⟩
  ·rw [List.mem_singleton]at m;subst m;exact ho.live
 ·intro b o' e
  refine aw (S.base b o' e:) fun x y=>?_
  refine⟨fun q=>q.elim x fun q=>?_,hk b o' y⟩
  subst q;exact aM y ha
 ·intro p hp
  obtain⟨⟨ps,a1,a2,a3,a4⟩,a5⟩:=S.tab p hp
  refine⟨⟨ps,.inl a1,hk _ _ a2,a3,fun pos cv e=>?_⟩,fun m=>?_⟩
  ·refine uT (a4 pos cv e:) fun c oc vs t e1 e2 e3 e4=>?_
   exact⟨c,oc,vs,t,e1,G.notM e2 e3,hk _ _ e3,e4⟩
  ·rcases List.mem_append.mp m with m|m
   ·exact a5 m
   ·rw [List.mem_singleton]at m
    rw [m]at a2;exact aM a2 ha
theorem aq.push(S:aq C J M s h)(o:Obj):aq C J M s (h.push o):=S.heap fun Y Y e=>Heap.get?_push_of_some _ e
theorem aJ.push(Z:Addr→Prop)(J:List Addr)(M:Addr→Prop)(h:Heap)(o:Obj):aJ Z J M h J M (h.push o):=aJ.heap Z J M fun Y Y e=>Heap.get?_push_of_some _ e
theorem aq.update(S:aq C J M s h){a:Addr}{x:Obj}{f:Obj→Obj}{o o':AO}(hi:J[i]?=some a)(hn:C.nf≤i)(hz:bZ C Z J h)(he:s.hp.get i=some o')(hx:h.get? a=some x)(hf:(f x).isFreed=false)
  (ho:aJ Z J M h J M (h.update a f)→(h.update a f).get? a=some (f x)→cF C J M (h.update a f) o a):aq C J M (s.upd i o) (h.update a f)∧aJ Z J M h J M (h.update a f):=by
 have hs:∀b,b≠a→(h.update a f).get? b=h.get? b:=fun b hb=>Heap.get?_update_ne _ _ _ _ hb
 have hm:=S.je i a hi hn
 have nz:¬Z a:=fun q=>(hz a q).2.1 (al_mem hi)
 have hu:=Heap.get?_update_self f hx hf
 have hv:∀b o,h.get? b=some o→∃o',(h.update a f).get? b=some o':=fun b o e=>by
  by_cases hb:b=a
  ·subst hb;exact⟨_,hu⟩
  ·exact⟨o,(hs b hb).trans e⟩
 have G:aJ Z J M h J M (h.update a f):=⟨⟨[],by simp,fun Y m=>nomatch m⟩,⟨hv,fun b o hb e=>(hs b fun q=>hb (by rw [q];exact⟨hm,nz⟩)).trans e⟩,fun Y x=>x,fun Y x=>.inl x⟩
 have hl:=S.low i o' he
 have hr:s.n<2^40 - 1:=Nat.lt_of_le_of_lt S.lim (by decide)
 refine⟨⟨S.len,S.lim,⟨S.gC.1,fun j hj=>(AS.br s.hp 40 i j o (by lia)).trans (S.gC.2 j hj)⟩,S.nodup,?_,?_,S.je,S.ye,fun b m=>let⟨o,e⟩:=S.there b m;hv b o e,fun b m=>let⟨o,e⟩:=S.mlt b m;hv b o e,?_,?_,S.rg⟩,G⟩
 ·intro j te e
  by_cases hj:i=j
  ·subst hj;exact hl
  ·have e':(aE.put 40 s.hp i o).get j=some te:=e
   rw [AS.br _ _ _ _ _ hj]at e';exact S.low j te e'
 ·intro j te b e q
  by_cases hj:i=j
  ·subst hj
   have e':(aE.put 40 s.hp i o).get i=some te:=e
   rw [AS.b8 _ _ _ _ (Nat.lt_trans hl hr)]at e';injection e' with e';subst e';rw [hi]at q;injection q with q;subst q;exact ho G hu
  ·have e':(aE.put 40 s.hp i o).get j=some te:=e
   rw [AS.br _ _ _ _ _ hj]at e';have hb:b≠a:=fun z=>hj (S.inj hi (z▸q))
   exact(S.obj j te b e' q).grow G fun y hy=>(hs b hb).trans hy
 ·intro b te e
  refine aw (S.base b te e:) fun n y=>?_
  exact⟨n,(hs b fun z=>n (z▸hm)).trans y⟩
 ·intro p hp
  obtain⟨⟨ps,a1,a2,a3,a4⟩,a5⟩:=S.tab p hp
  refine⟨⟨ps,a1,(hs _ fun z=>a5 (by rw [z];exact al_mem hi)).trans a2,a3,fun pos cv e=>?_⟩,a5⟩
  refine uT (a4 pos cv e:) fun c oc vs t e1 e2 e3 e4=>?_
  exact⟨c,oc,vs,t,e1,e2,(hs _ fun z=>e2 (by rw [z];exact hm)).trans e3,e4⟩
theorem bZ.grow(z:bZ C Z J h)(G:aJ Z J M h σ' M' h'):bZ C Z σ' h':=fun a q=>by
 obtain⟨l,rfl,f⟩:=G.pre
 obtain⟨⟨o,z1⟩,z2,z3⟩:=z a q
 exact⟨G.ext.live a o z1,fun m=>(List.mem_append.mp m).elim z2 fun m=>aM z1 (f a m),z3⟩
end
def rS(C:Cx)(x:Nat)(v:AV):Prop:=∃rv,(∀J M h,(∀b o,C.hb.get? b=some o→¬M b∧h.get? b=some o)→ao C J M h v rv)∧∃mg,C.hb.Ns mainGlobals mg∧
 (mg (C.nm x)=some rv∨(mg (C.nm x)=none∧∃mb,C.hb.Ns builtinsNs mb∧mb (C.nm x)=some rv))
section
theorem dy.wp{x:Str}(R:dy Z M env st.heap x rv)(hk:env.scope.kind=.function)(h1:(x==("__debug__":Str))=false)(h2:(x==("__classdict__":Str))=false)(q:Q rv st):
  ab (Md C) A (eval (.Name x pos) env) Q E st:=by
 refine mS ?_ h1
 cases R with
 |loc m a b c e=>exact lf<|wpAny_loadName_local hk a c e q
 |cell c o a b e f g=>exact a.elim (fun a=>lf<|wpAny_loadName_cell hk a b ⟨o,f,g⟩ q) fun a=>lf<|wpAny_loadName_free hk a b ⟨o,f,g⟩ q h2
theorem Q1{x:Nat}(e:(cq P N ih (.n x) ρ s).leaf C.ν=some (v,s')){sN:Str}(h1:sN=C.nm x)(h2:gM (kd.k sN))(h3:(sN==("__debug__":Str))=false)(h4:(sN==("__classdict__":Str))=false)(F:eZ C Z J M kd env ρ st.heap)(S:aq C J M s st.heap)(K:KV C Z J M st v s' Q):
  ab (Md C) A (eval (.Name sN pos) env) Q E st:=by
  subst h1;exact aC (aI e) fun w q e=>aC (F.vars x w q h2) fun rv R V=>R.wp F.kind h3 h4 ((K.of e).now S V st.toks)
theorem M1(e:(cq P N ih (.val a) ρ s).leaf C.ν=some (v,s')){cc:Const}{kk:Nat}(h:rT a cc)(S:aq C J M s st.heap)(K:KV C Z J M st v s' Q):
  ab (Md C) A (eval (.Constant cc kk pos) env) Q E st:=by
  unfold cq at e;obtain⟨rfl,rfl⟩:=pi_inj e
  rw [arm_eval_Constant];cases h with
  |none=>exact af (K.now S .none st.toks)
  |bool b=>exact af (K.now S (.bool b) st.toks)
  |int i=>exact lf<|wpAny_mkInt (K.now S (.int (.c i) i _ rfl) _)
  |str l=>exact lf<|wpAny_mkText (K.now S (.str l _) _)
  |bytes l b hb hl=>
   refine aa (lf<|wpAny_fresh (af ?_))
   have hE:∀ν:Nat→Int,∀e∈l,∃i:Nat,i<256∧e.eval ν=(i:Int):=fun ν e he=>by
    obtain⟨i,hi,rfl⟩:=hb e he
    exact⟨i,hi,rfl⟩
   have hq:l.map (cj C.ν)=b:=by
    rw [←hl];refine List.map_congr_left fun e he=>?_
    obtain⟨i,hi,rfl⟩:=hb e he
    rfl
   have:b.toArray=aQ C.ν l:=by unfold aQ;rw [hq]
   rw [this];exact K.now S (.bytes l _ fun e he=>by
    refine aC (hE C.ν e he:) fun i hi q=>?_
    rw [q];lia) _
theorem zI{x:Nat}{w:AV}(W:rS C x w)(S:aq C J M s st.heap)(F:eZ C Z J M kd env ρ st.heap)(k:∀rv,ao C J M st.heap w rv→Q rv st):ab (Md C) A (loadGlobal env (C.nm x)) Q E st:=
 aC W fun rv V W=>aC W fun mg G hm=>by
  have kp:∀b o,C.hb.get? b=some o→st.heap.get? b=some o:=fun b o e=>(S.base b o e).2
  have G':st.heap.Ns env.globals mg:=by rw [F.glob];exact G.keeps kp
  exact hm.elim (fun hm=>lf<|Calls.loadGlobal_global G' hm (k rv (V _ _ _ S.base))) fun hm=>aw hm fun hm h=>aC h fun mb B hb=>lf<|Calls.loadGlobal_builtin G' hm (by rw [F.iO];exact B.keeps kp) hb (k rv (V _ _ _ S.base))
theorem Na(W:∀x v,P.gl.get x=some v→rS C x v){x:Nat}(e:(cq P N ih (.eM x) ρ s).leaf C.ν=some (v,s')){sN:Str}(h1:sN=C.nm x)(h2:kd.k sN=some .globalImplicit)(h3:(sN==("__debug__":Str))=false)(F:eZ C Z J M kd env ρ st.heap)(S:aq C J M s st.heap)(K:KV C Z J M st v s' Q):
  ab (Md C) A (eval (.Name sN pos) env) Q E st:=by
  subst h1;refine aC (aI e) fun w q e=>fc F.kind ((F.kinds _).trans h2) (zI (W x w q) S F fun rv V=>(K.of e).now S V st.toks) h3
theorem bu{r:aH α}{a:α}(e:(jD n r).leaf ν=some a):n≤100000∧r.leaf ν=some a:=by
 unfold jD at e;cases q:Nat.ble n 100000 with
 |true=>rw [q]at e;exact⟨al_ble q,e⟩
 |false=>rw [q]at e;injection e
theorem bJ(h:n≤100000):n≤sizeLine:=Nat.le_trans h (by decide)
theorem dI(h:∀y p,x≠.Starred y p):starEach (x::xs) env=(false,eval x env)::starEach xs env:=by
 cases x<;>first|rfl|exact absurd rfl (h _ _)
theorem fS(H:fV C ih d):∀{es:List CE}{ρ:Env}{s:AS}{vs:List AV}{s':AS},(qj ih es ρ s).leaf C.ν=some (vs,s')→∀{kd:Kd}{xs:List Expr},cP C kd es xs→∀{Z:Addr→Prop}{J:List Addr}{M:Addr→Prop}{env:PySem.Env}{A:Around}{st:Shared}(pos:Pos),
  eZ C Z J M kd env ρ st.heap→aq C J M s st.heap→bz A d→bZ C Z J st.heap→∀{Q:List Value→Shared→Prop}{E:Value→Shared→Prop},Qy C Z J M st vs s' Q→ab (Md C) A (spliced (backTo pos (starEach xs env))) Q E st:=by
 intro es
 induction es with
 |nil=>
  intro ρ s vs s' e kd xs hf Z J M env A st pos F S R z Q E K;exact hf.nl▸lf (wpAny_items_nil (K.of e J M st.heap st.toks [] (aJ.refl _ _ _ _) S .nil))
 |cons a es CQ=>
  intro ρ s vs s' e kd xs hf Z J M env A st pos F S R z Q E K;refine aH.bd e fun p e1 e=>aH.bd e fun q e2 e=>hf.oI fun x sg f1 f2 f3=>?_
  refine gV (H a ρ s p.1 p.2 e1 kd x f1 Z J M env A st F S R z _ _ fun aA aN h₁ aS rv G aD V=>?_) (dI f2)
  exact CQ e2 f3 pos (F.grow G) aD R (z.grow G) fun cg dG bl bb rvs aZ bN dN=>K.of e cg dG bl bb _ (G.trans aZ) bN (.cons (V.grow aZ) dN)
theorem M3(H:fV C ih d){es:List CE}(e:(cq P N ih (.t es) ρ s).leaf C.ν=some (v,s')){kk:Nat}(h:cP C kd es xs)(F:eZ C Z J M kd env ρ st.heap)(S:aq C J M s st.heap)(R:bz A d)(z:bZ C Z J st.heap)(K:KV C Z J M st v s' Q):
  ab (Md C) A (eval (.Tuple xs kk pos) env) Q E st:=by
  unfold cq at e;refine aH.cz e fun vs ag e1 e=>?_
  refine aw (bu e:) fun hl e=>?_
  obtain⟨rfl,rfl⟩:=pi_inj e
  refine r8 (fS H e1 h _ F S R z fun aA aN h₁ aS rvs G aD V=>⟨by rw [←V.length];exact bJ hl,?_⟩)
  have G':=aJ.push Z aA aN h₁ (fw rvs 0)
  exact K aA aN _ aS _ (G.trans G') (aD.push _) (.t vs _ rvs 0 (aD.nH (Heap.ba _)) (Heap.get?_push_size _ rfl) (V.grow G'))
theorem eS{o:AO}(e:(s.alloc o).leaf ν=some (i,s')):Nat.blt s.n 1000000=true∧i=s.n∧s'=(s.new o).2:=by
 unfold AS.alloc at e;cases q:Nat.blt s.n 1000000 with
 |true=>rw [q]at e;obtain⟨rfl,rfl⟩:=pi_inj e;exact⟨rfl,rfl,rfl⟩
 |false=>rw [q]at e;injection e
theorem newList_K{rvs:List Value}(e:(newList s l).leaf C.ν=some (v,s'))(S:aq C J M s st.heap)(V:ay C J M st.heap l rvs)(K:KV C Z J M st v s' Q)(tk:Tok):
  rvs.length≤sizeLine∧Q (.ref st.heap.objs.size) {st with heap:=st.heap.push (bS rvs 0),toks:=tk}:=by
 unfold newList at e;refine aw (bu e:) fun hl e=>?_
 refine aH.cz e fun i ag e1 e=>?_
 obtain⟨rfl,rfl⟩:=pi_inj e
 obtain⟨hb,rfl,rfl⟩:=eS e1
 refine⟨by rw [←V.length];exact bJ hl,?_⟩
 have hg:=Heap.get?_push_size st.heap (o:=bS rvs 0) rfl
 have G:aJ Z J M st.heap (J++[st.heap.objs.size]) (fun b=>M b∨b=st.heap.objs.size) (st.heap.push (bS rvs 0)):=
  ⟨⟨[st.heap.objs.size],rfl,fun b m=>by rw [List.mem_singleton]at m;rw [m];exact Heap.ba _⟩,⟨fun b o e=>⟨o,Heap.get?_push_of_some _ e⟩,fun b o Y e=>Heap.get?_push_of_some _ e⟩,fun Y x=>.inl x,fun b x=>x.elim .inl fun q=>.inr (q▸Heap.ba _)⟩
 obtain⟨S',G',he⟩:=S.alloc (Z:=Z) hb (h':=st.heap.push (bS rvs 0)) (a:=st.heap.objs.size) (fun Y Y e=>Heap.get?_push_of_some _ e) (Heap.ba _) (.list l)
  (.list l _ rvs 0 hg (V.grow G))
 exact K _ _ _ tk _ G' S' (.ref _ _ he)
theorem JX(H:fV C ih d){es:List CE}(e:(cq P N ih (.list es) ρ s).leaf C.ν=some (v,s'))(h:cP C kd es xs)(F:eZ C Z J M kd env ρ st.heap)(S:aq C J M s st.heap)(R:bz A d)(z:bZ C Z J st.heap)(K:KV C Z J M st v s' Q):
  ab (Md C) A (eval (.List xs pos) env) Q E st:=by
  unfold cq at e;refine aH.cz e fun vs ag e1 e=>?_
  exact uZ (fS H e1 h _ F S R z fun aA aN h₁ aS rvs G aD V=>newList_K (st:={st with heap:=h₁,toks:=aS}) e aD V (K.after G) aS)
theorem BF(H:fV C ih d){a b:CE}{y:Expr}{op:AV→AV→AS→aH (AV×AS)}{t:Value→Value→Sem Value}
  (e:((ih.ev a ρ s).bind fun(x,s)=>(ih.ev b ρ s).bind fun(y,s)=>op x y s).leaf C.ν=some (v,s'))(h1:aU C kd a x)(h2:aU C kd b y)(F:eZ C Z J M kd env ρ st.heap)(S:aq C J M s st.heap)(R:bz A d)(z:bZ C Z J st.heap)(K:KV C Z J M st v s' Q)
  (ht:∀{av bv:AV}{ag:AS}{rv rw:Value}{J:List Addr}{M:Addr→Prop}{st:Shared}{Q:Value→Shared→Prop},(op av bv ag).leaf C.ν=some (v,s')→ao C J M st.heap av rv→ao C J M st.heap bv rw→aq C J M ag st.heap→bZ C Z J st.heap→KV C Z J M st v s' Q→ab (Md C) A (t rv rw) Q E st):
  ab (Md C) A (eval x env) (fun a ag=>ab (Md C) A (eval y env) (fun b aK=>ab (Md C) A (t a b) Q E aK) E ag) E st:=by
 refine aH.cz e fun av ag e1 e=>?_
 refine aH.cz e fun bv aK e2 e=>?_
 refine H a ρ s av ag e1 kd x h1 Z J M env A st F S R z _ _ fun aA aN h₁ aS rv aF aD bV=>?_
 refine H b ρ ag bv aK e2 kd y h2 Z aA aN env A _ (F.grow aF) aD R (z.grow aF) _ _ fun cg dG bl bb rw aZ bN dN=>?_
 exact ht (st:={st with heap:=bl,toks:=bb}) e (bV.grow aZ) dN bN ((z.grow aF).grow aZ) (K.after (aF.trans aZ))
theorem M8(H:fV C ih d)(HT:uX C ih d){t a b:CE}(e:(cq P N ih (.ite t a b) ρ s).leaf C.ν=some (v,s')){x2 x3:Expr}(h1:aU C kd t x1)(h2:aU C kd a x2)(h3:aU C kd b x3)(F:eZ C Z J M kd env ρ st.heap)(S:aq C J M s st.heap)(R:bz A d)(z:bZ C Z J st.heap)(K:KV C Z J M st v s' Q):
  ab (Md C) A (eval (.IfExp x1 x2 x3 pos) env) Q E st:=by
  unfold cq at e;refine aH.cz e fun r ag e1 e=>?_
  refine r9 (HT t ρ s r ag e1 kd _ h1 Z J M env A st F S R z _ _ fun aA aN h₁ aS aF aD=>?_)
  cases r with
  |true=>exact H a ρ ag v s' e kd _ h2 Z aA aN env A _ (F.grow aF) aD R (z.grow aF) _ _ (K.after aF)
  |false=>exact H b ρ ag v s' e kd _ h3 Z aA aN env A _ (F.grow aF) aD R (z.grow aF) _ _ (K.after aF)
end
theorem bH{a b:Int}:ig a b=true↔a=b:=PySem.W.Z.eqB_iff a b
theorem bp{a b:Int}:iN a b=true↔a<b:=PySem.W.Z.ltB_iff a b
theorem bE{a b:Int}:jC a b=true↔a≤b:=PySem.W.Z.leB_iff a b
theorem Iw{a b:Int}(h:ig a b=false):a≠b:=fun q=>by rw [bH.mpr q]at h;injection h
theorem Iv{a b:Int}(h:iN a b=false):b≤a:=Int.not_lt.mp fun q=>by rw [bp.mpr q]at h;injection h
theorem yc{a b:Int}(h:jC a b=false):b<a:=Int.not_le.mp fun q=>by rw [bE.mpr q]at h;injection h
def bX(ν:Nat→Int)(rg:Rg):Prop:=∀(k:Nat)(p:Int×Int),rg[k]?=some p→p.1≤ν k∧ν k≤p.2
theorem x7(a b:Int):mu a b≤a∧mu a b≤b:=by
 unfold mu;cases q:jC a b with
 |true=>have:=bE.mp q;simp only;lia
 |false=>have:=yc q;simp only;lia
theorem xT(a b:Int):a≤imax a b∧b≤imax a b:=by
 unfold imax;cases q:jC a b with
 |true=>have:=bE.mp q;simp only;lia
 |false=>have:=yc q;simp only;lia
theorem mG:∀(l:List Int)(m x:Int),x=m∨x∈l→Cw l m≤x
 |[],m,x,h=>by rcases h with rfl|h;exact Int.le_refl _;cases h
 |a::l,m,x,h=>by
  unfold Cw;rcases h with rfl|h
  ·exact Int.le_trans (mG l _ _ (.inl rfl)) (x7 a x).2
  ·rcases al_mc h with rfl|h
   ·exact Int.le_trans (mG l _ _ (.inl rfl)) (x7 x m).1
   ·exact mG l _ _ (.inr h)
theorem mI:∀(l:List Int)(m x:Int),x=m∨x∈l→x≤Cy l m
 |[],m,x,h=>by rcases h with rfl|h;exact Int.le_refl _;cases h
 |a::l,m,x,h=>by
  unfold Cy;rcases h with rfl|h
  ·exact Int.le_trans (xT a x).2 (mI l _ _ (.inl rfl))
  ·rcases al_mc h with rfl|h
   ·exact Int.le_trans (xT x m).1 (mI l _ _ (.inl rfl))
   ·exact mI l _ _ (.inr h)
theorem xn{t:List Int}{lo hi i:Int}(h0:0≤lo)(h1:hi<t.length)(h2:lo≤i)(h3:i≤hi):t.getD i.toNat 0∈(t.take (hi+1).toNat).drop lo.toNat:=by
 refine dm (Int.eq_ofNat_of_zero_le h0:) fun a ea=>?_
 refine dm (Int.eq_ofNat_of_zero_le (Int.le_trans h0 h2):) fun k ek=>?_
 refine dm (Int.eq_ofNat_of_zero_le (Int.le_trans h0 (Int.le_trans h2 h3)):) fun b eb=>?_
 subst ea ek eb;have h2:=Int.ofNat_le.mp h2
 have h3:=Int.ofNat_le.mp h3
 have hlt:k<t.length:=Nat.lt_of_le_of_lt h3 (Int.ofNat_lt.mp h1)
 show t.getD k 0∈(t.take (b+1)).drop a;rw [List.getD_eq_getElem?_getD,List.getElem?_eq_getElem hlt];refine al_mem (i:=k - a) ?_
 rw [List.getElem?_drop,Nat.add_sub_cancel' h2,List.getElem?_take,if_pos (Nat.lt_succ_of_le h3),List.getElem?_eq_getElem hlt]
 rfl
theorem qh{a b m:Int}(h:a≤b)(hm:0<m):Int.fdiv a m≤Int.fdiv b m:=by
 rw [Int.fdiv_eq_ediv_of_nonneg _ (Int.le_of_lt hm),Int.fdiv_eq_ediv_of_nonneg _ (Int.le_of_lt hm)];exact Int.ediv_le_ediv hm h
theorem aB{r:Option α}{y:α}(h:ck b r=some y):b=true∧r=some y:=by
 cases b with
 |true=>exact⟨rfl,h⟩
 |false=>injection h
theorem aL{o:Option α}{g:α→Option β}{y:β}(h:fM o g=some y):∃a,o=some a∧g a=some y:=by
 cases o with
 |none=>injection h
 |some a=>exact⟨a,rfl,h⟩
theorem bA{l:List α}{g:α→List α→Option β}{y:β}(h:jW l g=some y):∃a r,l=a::r∧g a r=some y:=by
 cases l with
 |nil=>injection h
 |cons a r=>exact⟨a,r,rfl,h⟩
theorem ae{a:Bool}(h:(a&&b)=true):a=true∧b=true:=(Bool.and_eq_true a b).mp h
theorem fA{a:Bool}(h:(a||b)=true):a=true∨b=true:=(Bool.or_eq_true a b).mp h
theorem dh{a:Bool}(h:(!a)=true):a=false:=by cases a with
 |true=>injection h
 |false=>rfl
theorem cT{x:IE}{i:Int}(h:gE x=some i):x=.c i:=by cases x<;>first|exact congrArg IE.c (al_inj h)|injection h
theorem jV{x:IE}(h:El x=some k):x=.v k:=by cases x<;>first|exact congrArg IE.v (al_inj h)|injection h
def zf(l:List Prop)(k:Nat):Prop:=Nat.rec (motive:=fun Y=>List Prop→Prop) (fun l=>l.headD True) (fun Y r l=>r l.tail) k l
theorem Of(e:IE):zf [True,True,e=.add (mr e) (qT e),e=.sub (mr e) (qT e),e=.mul (mr e) (qT e),e=.div (mr e) (qT e),e=.mod (mr e) (qT e),e=.tab (HR e) (mr e)] e.ctorIdx:=by
 cases e<;>first|exact trivial|exact rfl
theorem ji{e:IE}(h:Mh e k=true):zf [True,True,e=.add (mr e) (qT e),e=.sub (mr e) (qT e),e=.mul (mr e) (qT e),e=.div (mr e) (qT e),e=.mod (mr e) (qT e),e=.tab (HR e) (mr e)] k:=al_beq h▸Of e
theorem Hd{x:IE}{p:IE×Int}(h:lQ x=some p):x=.add p.1 (.c p.2):=by
 refine aw (aB h:) fun h0 h=>?_
 refine aC (aL h:) fun i e h=>?_
 injection h with h;subst h;exact(show x=.add (mr x) (qT x)from ji h0).trans (congrArg (IE.add _) (cT e))
theorem jF{x:IE}{p:IE×Int}(ν:Nat→Int)(h:lQ x=some p):x.eval ν=p.1.eval ν+p.2:=congrArg (IE.eval ν) (Hd h)
theorem gT{x:IE}{i:Int}(ν:Nat→Int)(h:gE x=some i):x.eval ν=i:=congrArg (IE.eval ν) (cT h)
section
def Wi(p:Int×Int)(x:Int):Prop:=p.1≤x∧x≤p.2
theorem Wi.add{p q:Int×Int}{x y:Int}(a:Wi p x)(b:Wi q y):Wi (p.1+q.1,p.2+q.2) (x+y):=⟨Int.add_le_add a.1 b.1,Int.add_le_add a.2 b.2⟩
theorem Wi.sub{p q:Int×Int}{x y:Int}(a:Wi p x)(b:Wi q y):Wi (p.1 - q.2,p.2 - q.1) (x - y):=⟨Int.sub_le_sub a.1 b.2,Int.sub_le_sub a.2 b.1⟩
theorem Wi.tab{t:List Int}{p:Int×Int}{i x:Int}{r:List Int}(b1:0≤p.1)(b2:p.2<t.length)(hv:Wi p i)(hl:(t.take (p.2+1).toNat).drop p.1.toNat=x::r):Wi (Cw r x,Cy r x) (t.getD i.toNat 0):=by
 have hm:t.getD i.toNat 0∈x::r:=hl▸xn b1 b2 hv.1 hv.2
 exact⟨mG r x _ (al_mc hm),mI r x _ (al_mc hm)⟩
theorem dw(R:bX ν rg):∀{e:IE}{p:Int×Int},fQ rg e=some p→Wi p (e.eval ν):=by
 intro e
 induction e with
 |c i=>intro p q;injection q with q;subst q;exact⟨Int.le_refl _,Int.le_refl _⟩
 |v k=>exact fun q=>R k _ q
 |add a b ha hb=>
  intro p q;refine aC (aL q:) fun x e1 q=>?_
  refine aC (aL q:) fun y e2 q=>?_
  injection q with q;subst q;exact(ha e1).add (hb e2)
 |sub a b ha hb=>
  intro p q;refine aC (aL q:) fun x e1 q=>?_
  refine aC (aL q:) fun y e2 q=>?_
  injection q with q;subst q;exact(ha e1).sub (hb e2)
 |mul a b ha hb=>
  intro p q;refine aC (aL q:) fun x e1 q=>?_
  refine aC (aL q:) fun i e2 q=>?_
  refine aw (aB q:) fun hi q=>?_
  injection q with q;subst q;rw [cT e2];exact⟨Int.mul_le_mul_of_nonneg_right (ha e1).1 (bE.mp hi),Int.mul_le_mul_of_nonneg_right (ha e1).2 (bE.mp hi)⟩
 |div a b ha hb=>
  intro p q;refine aC (aL q:) fun x e1 q=>?_
  refine aC (aL q:) fun i e2 q=>?_
  refine aw (aB q:) fun hi q=>?_
  injection q with q;subst q;rw [cT e2];exact⟨qh (ha e1).1 (bp.mp hi),qh (ha e1).2 (bp.mp hi)⟩
 |mod a b ha hb=>
  intro p q;refine aC (aL q:) fun x e1 q=>?_
  refine aC (aL q:) fun i e2 q=>?_
  refine aw (aB q:) fun hi q=>?_
  injection q with q;subst q;rw [cT e2];exact⟨Int.fmod_nonneg_of_pos _ (bp.mp hi),Int.le_sub_one_of_lt (Int.fmod_lt_of_pos _ (bp.mp hi))⟩
 |tab t a ha=>
  intro p q;refine aC (aL q:) fun x e1 q=>?_
  refine aw (aB q:) fun hb q=>?_
  refine d9 (bA q:) fun y r hl q=>?_
  injection q with q;subst q;exact Wi.tab (bE.mp (ae hb).1) (bp.mp (ae hb).2) (ha e1) hl
theorem xU(R:bX ν rg){e:IE}{l h:Int}(q:fQ rg e=some (l,h)):l≤e.eval ν∧e.eval ν≤h:=dw R q
end
theorem ic(ν:Nat→Int)(x:IE)(j:Int):(uG x j).eval ν=x.eval ν+j:=by
 unfold uG;cases q:gE x with
 |some i=>rw [cT q];rfl
 |none=>
  simp only
  cases q:lQ x with
  |some p=>
   dsimp only
   rw [jF ν q,Int.add_assoc];cases q:ig (p.2+j) 0 with
   |true=>rw [bH.mp q,Int.add_zero]
   |false=>rfl
  |none=>
   dsimp only
   cases q:ig j 0 with
   |true=>rw [bH.mp q,Int.add_zero]
   |false=>rfl
theorem As(ν:Nat→Int)(x y:IE):(L0 x y).eval ν=x.eval ν+y.eval ν:=by
 unfold L0;cases q:lQ x with
 |some p=>
  dsimp only
  rw [jF ν q];cases q:lQ y with
  |some r=>
   rw [jF ν q];show(uG _ _).eval ν=_;rw [ic];show p.1.eval ν+r.1.eval ν+(p.2+r.2)=_
   lia
  |none=>exact Int.add_right_comm ..
 |none=>
  dsimp only
  cases q:lQ y with
  |some r=>rw [jF ν q];exact Int.add_assoc ..
  |none=>rfl
theorem kb(ν:Nat→Int)(x y:IE):(mkAdd x y).eval ν=x.eval ν+y.eval ν:=by
 unfold mkAdd;cases q:gE y with
 |some j=>rw [gT ν q];exact ic ..
 |none=>
  dsimp only
  cases q:gE x with
  |some i=>rw [gT ν q];exact(ic ..).trans (Int.add_comm ..)
  |none=>exact As ..
theorem ka(ν:Nat→Int)(x y:IE):(mkSub x y).eval ν=x.eval ν - y.eval ν:=by
 unfold mkSub;cases q:gE y with
 |some j=>rw [gT ν q];exact ic ..
 |none=>rfl
theorem pV(ν:Nat→Int)(x:IE)(j:Int):(mulC x j).eval ν=x.eval ν*j:=by
 unfold mulC;cases q:gE x with
 |some i=>rw [cT q];rfl
 |none=>
  dsimp only
  cases q:ig j 0 with
  |true=>rw [bH.mp q,Int.mul_zero];rfl
  |false=>
   dsimp only
   cases q:ig j 1 with
   |true=>rw [bH.mp q,Int.mul_one]
   |false=>
    dsimp only
    cases q:lQ x with
    |some p=>rw [jF ν q,Int.add_mul];rfl
    |none=>rfl
theorem vw(ν:Nat→Int)(x y:IE):(mkMul x y).eval ν=x.eval ν*y.eval ν:=by
 unfold mkMul;cases q:gE y with
 |some j=>rw [gT ν q];exact pV ..
 |none=>
  dsimp only
  cases q:gE x with
  |some i=>rw [gT ν q];exact(pV ..).trans (Int.mul_comm ..)
  |none=>rfl
theorem rJ{P:α→Prop}{x y:IE}{g:Int→Int→α}{d:α}(h:∀i j,x=.c i→y=.c j→P (g i j))(hd:P d):P (both x y g d):=by
 unfold both;cases q:gE x with
 |none=>exact hd
 |some i=>
  cases q':gE y with
  |none=>exact hd
  |some j=>exact h i j (cT q) (cT q')
theorem vz(ν:Nat→Int)(x y:IE):(Ik x y).eval ν=Int.fdiv (x.eval ν) (y.eval ν):=rJ (P:=fun z:IE=>z.eval ν=_) (fun i j ex ey=>by rw [ex,ey];rfl) rfl
theorem ke(ν:Nat→Int){m:Int}:∀x:IE,(ox m x).eval ν % m=x.eval ν % m
 |.c i=>by
  show(Int.emod i m) % m=i % m;exact Int.emod_emod_of_dvd _ (Int.dvd_refl m)
 |.v k=>rfl
 |.add a b=>by
  have h1:=ke ν (m:=m) a
  have h2:=ke ν (m:=m) b
  show(mkAdd (ox m a) (ox m b)).eval ν % m=(a.eval ν+b.eval ν) % m;rw [kb,Int.add_emod,h1,h2,←Int.add_emod]
 |.sub a b=>rfl
 |.mul a b=>by
  unfold ox;cases q:gE b with
  |none=>rfl
  |some k=>
   dsimp only
   cases q':ig (Int.emod k m) 0 with
   |false=>rfl
   |true=>
    show(0:Int) % m=(a.eval ν*b.eval ν) % m;rw [gT ν q,Int.mul_emod,show k % m=0 from bH.mp q',Int.mul_zero]
 |.div a b=>rfl
 |.mod a b=>rfl
 |.tab l a=>rfl
theorem vm(R:bX ν rg){m:Int}(hm:0<m){x y:IE}(h:y.eval ν % m=x.eval ν % m):(BL rg m x y).eval ν=Int.fmod (x.eval ν) m:=by
 unfold BL;cases q:fQ rg y with
 |none=>rfl
 |some p=>
  dsimp only
  cases q':iN (p.2 - Int.fdiv p.1 m*m) m with
  |false=>rfl
  |true=>
   dsimp only
   have b:=bp.mp q'
   refine aw (dw R q:) fun v1 v2=>?_
   rw [ic,Int.fmod_eq_emod_of_nonneg _ (Int.le_of_lt hm),←h];rw [Int.fdiv_eq_ediv_of_nonneg _ (Int.le_of_lt hm)]at b⊢;have key:(y.eval ν - p.1/m*m) % m=y.eval ν - p.1/m*m:=Int.emod_eq_of_lt (Int.sub_nonneg_of_le (Int.le_trans (Int.ediv_mul_le p.1 (Int.ne_of_gt hm)) v1)) (Int.lt_of_le_of_lt (Int.sub_le_sub_right v2 _) b)
   exact Int.sub_eq_add_neg.symm.trans (key.symm.trans (Int.sub_mul_emod_self_right ..))
theorem vy(R:bX ν rg)(x y:IE):(Ij rg x y).eval ν=Int.fmod (x.eval ν) (y.eval ν):=by
 refine rJ (P:=fun z:IE=>z.eval ν=_) (fun i j ex ey=>by rw [ex,ey];rfl) ?_
 cases q:gE y with
 |none=>rfl
 |some m=>
  dsimp only
  rw [cT q];cases q':iN 0 m with
  |false=>rfl
  |true=>exact vm R (bp.mp q') (ke ν _)
theorem j0(R:bX ν rg){e:IE}(h:eW rg e=true):Builtin.Int.intBits (e.eval ν)≤64:=by
 unfold eW at h;cases q:fQ rg e with
 |none=>rw [q]at h;injection h
 |some p=>
  rw [q]at h;refine aw (ae h:) fun b1 b2=>?_
  refine aw (dw R q:) fun v1 v2=>?_
  exact intBits_le_64 (Int.lt_of_lt_of_le (bp.mp b1) v1) (Int.lt_of_le_of_lt v2 (bp.mp b2))
theorem L1{B:Nat}{l x h:Int}(a: -(B:Int)<l)(b:l≤x)(c:x≤h)(d:h<(B:Int)):x.natAbs<B:=by lia
theorem Cd(R:bX ν rg){e:IE}(h:mid rg e=true):Builtin.Int.intBits (e.eval ν)≤8192:=by
 unfold mid at h;cases q:fQ rg e with
 |none=>rw [q]at h;injection h
 |some p=>
  rw [q]at h;refine aw (ae h:) fun b1 b2=>?_
  refine aw (dw R q:) fun v1 v2=>?_
  exact PySem.intBits_le_iff.mpr (L1 (bp.mp b1) v1 v2 (bp.mp b2))
section
theorem NM(R:bX ν rg){x y:IE}(hb:(eW rg y||(eW rg x||(mid rg x&&mid rg y)))=true):IntMulOk (x.eval ν) (y.eval ν):=by
 rcases fA hb with hb|hb
 ·exact IntMulOk.of_right (j0 R hb)
 ·rcases fA hb with hb|hb
  ·exact IntMulOk.of_left (j0 R hb)
  ·exact IntMulOk.of_bits (Nat.le_trans (Cd R (ae hb).1) (by decide)) (Nat.le_trans (Cd R (ae hb).2) (by decide))
theorem Nn{i:Int}(b1:n≤200)(b3:Builtin.Int.intBits i≤64):(Builtin.Int.intBits i:Int)*(n:Int)≤64*200:=Int.mul_le_mul (by exact_mod_cast b3) (by lia) (by lia) (by decide)
theorem Ej{x y:IE}{op:Op}{rw:Value}(e:(H7 op x y s).leaf C.ν=some (v,s'))(V:ao C J M st.heap (.int x) rv)(W:ao C J M st.heap (.int y) rw)(S:aq C J M s st.heap)
  (K:KV C Z J M st v s' Q):ab (Md C) A (binaryOp (H6 op) rv rw) Q E st:=by
 refine V.ed fun t=>?_
 refine W.ed fun u=>?_
 have R:bX C.ν s.rg:=S.rg
 cases op with
 |add=>(obtain⟨rfl,rfl⟩:=pi_inj e);exact lf<|add_int (K.now S (.int _ _ _ (kb _ _ _)) _)
 |sub=>(obtain⟨rfl,rfl⟩:=pi_inj e);exact lf<|PyProof.Rows.sub_int (K.now S (.int _ _ _ (ka _ _ _)) _)
 |mul=>
  refine aw (cC e:) fun hb e=>?_
  obtain⟨rfl,rfl⟩:=pi_inj e
  exact lf<|mul_int (K.now S (.int _ _ _ (vw _ _ _)) _) (NM R hb)
 |div=>
  refine aC (aI e:) fun j q e=>?_
  refine aw (cC e:) fun hb e=>?_
  obtain⟨rfl,rfl⟩:=pi_inj e
  have b1:=bp.mp (ae hb).1
  have b2:=bp.mp (ae hb).2
  rw [cT q];exact lf<|floordiv_int (show j≠0 by lia) (K.now S (.int _ _ _ (vz _ _ _)) _) (.inl (PyProof.noPylong_small (show j.natAbs<1073741824 by lia)))
 |mod=>
  refine aC (aI e:) fun j q e=>?_
  refine aw (cC e:) fun hb e=>?_
  obtain⟨rfl,rfl⟩:=pi_inj e
  have b1:=bp.mp hb
  rw [cT q];exact lf<|mod_int' (show j≠0 by lia) (K.now S (.int _ _ _ (vy R _ _)) _)
 |pow=>
  refine aC (aI e:) fun i q e=>?_
  refine aC (aI e:) fun j q' e=>?_
  cases j with
  |negSucc n=>exact no e
  |ofNat n=>
   refine aw (cC e:) fun hb e=>?_
   obtain⟨rfl,rfl⟩:=pi_inj e
   rw [cT q,cT q'];exact lf<|pow_int (n:=((n:Nat):Int)) (Int.natCast_nonneg n) (Int.le_trans (Nn (al_ble (ae hb).1) (j0 (e:=.c i) R (ae hb).2)) (by decide)) (by rw [Int.toNat_natCast];exact K.now S (.int (.c (i^n)) (i^n) st.toks rfl) _)
end
theorem pN:∀(rg:Rg)(k:Nat)(y:Int×Int)(j:Nat)(p:Int×Int),(ff rg k y)[j]?=some p→(j=k∧p=y)∨rg[j]?=some p
 |[],_,_,_,_,h=>by injection h
 |x::r,k,y,j,p,h=>by
  unfold ff at h;cases q:Nat.beq k 0 with
  |true=>
   rw [q]at h;have:k=0:=al_beq q
   subst this;cases j with
   |zero=>left;simpa using h.symm
   |succ j=>right;simpa using h
  |false=>
   rw [q]at h;have hk:k≠0:=Nat.ne_of_beq_eq_false q
   cases j with
   |zero=>right;simpa using h
   |succ j=>
    rcases pN r (k - 1) y j p (by simpa using h)with⟨a,b⟩|a
    ·left;exact⟨a▸Nat.sub_one_add_one hk,b⟩
    ·right;simpa using a
theorem bX.set(R:bX ν rg){l h:Int}(h1:l≤ν k)(h2:ν k≤h):bX ν (ff rg k (l,h)):=fun j p e=>by
 rcases pN rg k (l,h) j p e with⟨rfl,rfl⟩|e
 ·exact⟨h1,h2⟩
 ·exact R j p e
theorem sh{x:IE}{p:Nat×Int}(h:pC x=some p):x.eval ν=ν p.1+p.2:=by
 unfold pC at h;cases q:El x with
 |some k=>
  rw [q]at h;injection h with h;subst h;rw [jV q];exact(Int.add_zero _).symm
 |none=>
  rw [q]at h;refine aC (aL h:) fun r q1 h=>?_
  refine aC (aL h:) fun k q2 h=>?_
  injection h with h;subst h;rw [jF ν q1,jV q2];rfl
theorem iz(ν:Nat→Int)(kind:Nat)(a b:IE):dX ν kind a b=dM kind (a.eval ν) (b.eval ν):=by
 have e0:∀i j:Int,decide (i=j)=ig i j:=fun i j=>by rw [Bool.eq_iff_iff,decide_eq_true_iff,bH]
 have e1:∀i j:Int,decide (i<j)=iN i j:=fun i j=>by rw [Bool.eq_iff_iff,decide_eq_true_iff,bp]
 have e2:∀i j:Int,decide (i≤j)=jC i j:=fun i j=>by rw [Bool.eq_iff_iff,decide_eq_true_iff,bE]
 match kind with
 |0=>exact e0 _ _
 |1=>exact e1 _ _
 |_+2=>exact e2 _ _
theorem qy(kind:Nat)(x d j:Int):dM kind (x+d) j=dM kind x (j - d)∧dM kind j (x+d)=dM kind (j - d) x:=by
 match kind with
 |0=>exact⟨Bool.eq_iff_iff.mpr (bH.trans (Iff.trans (eq_comm.trans (Int.sub_eq_iff_eq_add.symm.trans eq_comm)) bH.symm)),Bool.eq_iff_iff.mpr (bH.trans (Iff.trans Int.sub_eq_iff_eq_add.symm bH.symm))⟩
 |1=>exact⟨Bool.eq_iff_iff.mpr (bp.trans (Iff.trans ⟨Int.lt_sub_right_of_add_lt,Int.add_lt_of_lt_sub_right⟩ bp.symm)),Bool.eq_iff_iff.mpr (bp.trans (Iff.trans ⟨Int.sub_right_lt_of_lt_add,Int.lt_add_of_sub_right_lt⟩ bp.symm))⟩
 |_+2=>exact⟨Bool.eq_iff_iff.mpr (bE.trans (Iff.trans ⟨Int.le_sub_right_of_add_le,Int.add_le_of_le_sub_right⟩ bE.symm)),Bool.eq_iff_iff.mpr (bE.trans (Iff.trans ⟨Int.sub_right_le_of_le_add,Int.le_add_of_sub_right_le⟩ bE.symm))⟩
theorem xS{x a b:Int}(h1:x≤a)(h2:x≤b):x≤mu a b:=by
 unfold mu;cases jC a b<;>assumption
theorem x8{x a b:Int}(h1:a≤x)(h2:b≤x):imax a b≤x:=by
 unfold imax;cases jC a b<;>assumption
section
theorem bX.upTo(R:bX ν rg){p:Int×Int}{u:Int}(e:rg[k]?=some p)(h:ν k≤u):bX ν (ff rg k (p.1,mu p.2 u)):=
 R.set (R k p e).1 (xS (R k p e).2 h)
theorem bX.from(R:bX ν rg){p:Int×Int}{l:Int}(e:rg[k]?=some p)(h:l≤ν k):bX ν (ff rg k (imax p.1 l,p.2)):=
 R.set (x8 (R k p e).1 h) (R k p e).2
theorem sO{P:Rg→Prop}{sw:Bool}{r1 r2 r3 r4:Rg}(h1:sw=false→b=true→P r1)(h2:sw=false→b=false→P r2)(h3:sw=true→b=true→P r3)(h4:sw=true→b=false→P r4):P (pick sw b r1 r2 r3 r4):=by
 cases sw<;>cases b
 ·exact h2 rfl rfl
 ·exact h1 rfl rfl
 ·exact h4 rfl rfl
 ·exact h3 rfl rfl
def MH(kind:Nat)(sw:Bool)(x m:Int):Bool:=match sw with|false=>dM kind x m|true=>dM kind m x
theorem nK(R:bX ν rg){sw:Bool}{m:Int}(hb:MH kind sw (ν k) m=b):bX ν (mF rg kind sw k m b):=by
 unfold mF;cases e:rg[k]? with
 |none=>exact R
 |some p=>
  match kind with
  |0=>
   have hw:ig (ν k) m=b:=by
    cases sw with
    |false=>exact hb
    |true=>rw [←hb];exact Bool.eq_iff_iff.mpr (bH.trans (Iff.trans ⟨Eq.symm,Eq.symm⟩ bH.symm))
   cases b with
   |true=>
    have q:=bH.mp hw
    exact R.set (x8 (R k p e).1 (Int.le_of_eq q.symm)) (xS (R k p e).2 (Int.le_of_eq q))
   |false=>
    have q:=Iw hw
    refine aw (R k p e:) fun r1 r2=>?_
    cases q1:ig p.1 m with
    |true=>
     have:=bH.mp q1
     simp only[q1]
     exact R.set (by lia) r2
    |false=>
     cases q2:ig p.2 m with
     |true=>
      have:=bH.mp q2
      simp only[q1,q2]
      exact R.set r1 (by lia)
     |false=>simp only[q1,q2];exact R
  |1=>
   refine sO (fun a c=>?_) (fun a c=>?_) (fun a c=>?_) (fun a c=>?_)<;>subst a<;>subst c
   ·exact R.upTo e (Int.le_sub_one_of_lt (bp.mp hb))
   ·exact R.from e (Iv hb)
   ·exact R.from e (Int.add_one_le_of_lt (bp.mp hb))
   ·exact R.upTo e (Iv hb)
  |_+2=>
   refine sO (fun a c=>?_) (fun a c=>?_) (fun a c=>?_) (fun a c=>?_)<;>subst a<;>subst c
   ·exact R.upTo e (bE.mp hb)
   ·exact R.from e (Int.add_one_le_of_lt (yc hb))
   ·exact R.from e (bE.mp hb)
   ·exact R.upTo e (Int.le_sub_one_of_lt (yc hb))
theorem pU(R:bX ν rg){x y:IE}(hb:dX ν kind x y=b):bX ν (narrow rg kind x y b):=by
 rw [iz]at hb;unfold narrow;cases q:gE y with
 |some j=>
  cases q':pC x with
  |none=>exact R
  |some p=>exact nK R ((qy kind _ _ _).1.symm.trans (by rw [←sh q',←gT ν q];exact hb))
 |none=>
  cases q:gE x with
  |none=>exact R
  |some j=>
   cases q':pC y with
   |none=>exact R
   |some p=>exact nK (sw:=true) R ((qy kind _ _ _).2.symm.trans (by rw [←sh q',←gT ν q];exact hb))
end
theorem x9:∀{a b:List Int},F4 a b=true→a=b
 |[],[],_=>rfl
 |[],_::_,h=>nomatch h
 |_::_,[],h=>nomatch h
 |a::x,b::y,h=>by
  unfold F4 at h
  dsimp only at h
  cases q:ig a b with
  |true=>rw [q]at h;rw [bH.mp q,x9 h]
  |false=>rw [q]at h;injection h
theorem jx{y:IE}{f g:IE→Bool}(h:so k y f g=true):Mh y k=true∧f (mr y)=true∧g (qT y)=true:=by
 unfold so at h;cases q:Mh y k with
 |false=>rw [q]at h;injection h
 |true=>
  rw [q]at h;cases q':f (mr y)with
  |false=>simp only[q']at h;injection h
  |true=>simp only[q']at h;exact⟨rfl,rfl,h⟩
theorem uk(f:Int→Int→Int){a b c d:Int}(h1:a=b)(h2:c=d):f a c=f b d:=h1▸h2▸rfl
theorem eG(ν:Nat→Int){a:IE}:∀{b:IE},fB a b=true→a.eval ν=b.eval ν:=by
 induction a with
 |c i=>
  intro y h;unfold fB at h;cases q:gE y with
  |none=>rw [q]at h;injection h
  |some j=>rw [q]at h;rw [cT q,bH.mp h]
 |v i=>
  intro y h;unfold fB at h;cases q:El y with
  |none=>rw [q]at h;injection h
  |some j=>rw [q]at h;rw [jV q,al_beq h]
 |add a b ha hb=>
  intro y h;refine dz (jx h:) fun h0 h1 h2=>?_
  rw [show y=.add (mr y) (qT y)from ji h0]
  exact uk Int.add (ha h1) (hb h2)
 |sub a b ha hb=>
  intro y h;refine dz (jx h:) fun h0 h1 h2=>?_
  rw [show y=.sub (mr y) (qT y)from ji h0]
  exact uk Int.sub (ha h1) (hb h2)
 |mul a b ha hb=>
  intro y h;refine dz (jx h:) fun h0 h1 h2=>?_
  rw [show y=.mul (mr y) (qT y)from ji h0]
  exact uk Int.mul (ha h1) (hb h2)
 |div a b ha hb=>
  intro y h;refine dz (jx h:) fun h0 h1 h2=>?_
  rw [show y=.div (mr y) (qT y)from ji h0]
  exact uk Int.fdiv (ha h1) (hb h2)
 |mod a b ha hb=>
  intro y h;refine dz (jx h:) fun h0 h1 h2=>?_
  rw [show y=.mod (mr y) (qT y)from ji h0]
  exact uk Int.fmod (ha h1) (hb h2)
 |tab l a ha=>
  intro y h;refine dz (jx h:) fun h0 h1 h2=>?_
  rw [show y=.tab (HR y) (mr y)from ji h0,x9 h2]
  exact congrArg (fun i:Int=>(HR y).getD i.toNat 0) (ha h1)
section
variable{p q:Int×Int}{x y:Int}
theorem GB{a b:IE}(P:Wi p (a.eval ν))(Q:Wi q (b.eval ν))(h:Lr p q a b=some r):dM 0 (a.eval ν) (b.eval ν)=r:=by
 refine aw (P:) fun p1 p2=>?_
 refine aw (Q:) fun q1 q2=>?_
 unfold Lr at h;cases c:iN p.2 q.1||iN q.2 p.1 with
 |true=>
  rw [c]at h;injection h with h;subst h;cases z:dM 0 (a.eval ν) (b.eval ν)with
  |false=>rfl
  |true=>
   have z:=bH.mp z
   exfalso
   rcases fA c with c|c<;>(have:=bp.mp c;lia)
 |false=>
  rw [c]at h
  dsimp only at h
  cases c:ig p.1 p.2&&(ig q.1 q.2&&ig p.1 q.1)with
  |true=>
   rw [c]at h;injection h with h;subst h;have c1:=bH.mp (ae c).1
   have c2:=bH.mp (ae (ae c).2).1
   have c3:=bH.mp (ae (ae c).2).2
   exact bH.mpr (by lia)
  |false=>
   rw [c]at h;refine aw (aB h:) fun c h=>?_
   injection h with h;subst h;exact bH.mpr (eG ν c)
theorem GA(P:Wi p x)(Q:Wi q y)(h:Lq p q=some r):iN x y=r:=by
 unfold Lq at h;cases c:iN p.2 q.1 with
 |true=>
  rw [c]at h;injection h with h;subst h;exact bp.mpr (Int.lt_of_le_of_lt P.2 (Int.lt_of_lt_of_le (bp.mp c) Q.1))
 |false=>
  rw [c]at h;refine aw (aB h:) fun c h=>?_
  injection h with h;subst h;cases z:iN x y with
  |false=>rfl
  |true=>exact absurd (bp.mp z) (Int.not_lt.mpr (Int.le_trans Q.2 (Int.le_trans (bE.mp c) P.1)))
theorem Gz(P:Wi p x)(Q:Wi q y)(h:Lp p q=some r):jC x y=r:=by
 unfold Lp at h;cases c:jC p.2 q.1 with
 |true=>
  rw [c]at h;injection h with h;subst h;exact bE.mpr (Int.le_trans P.2 (Int.le_trans (bE.mp c) Q.1))
 |false=>
  rw [c]at h;refine aw (aB h:) fun c h=>?_
  injection h with h;subst h;cases z:jC x y with
  |false=>rfl
  |true=>exact absurd (bE.mp z) (Int.not_le.mpr (Int.lt_of_le_of_lt Q.2 (Int.lt_of_lt_of_le (bp.mp c) P.1)))
end
theorem wy(R:bX ν rg){a b:IE}(h:rF rg kind a b=some r):dX ν kind a b=r:=by
 rw [iz];refine aC (aL h:) fun p q1 h=>?_
 refine aC (aL h:) fun q q2 h=>?_
 match kind with
 |0=>exact GB (dw R q1) (dw R q2) h
 |1=>exact GA (dw R q1) (dw R q2) h
 |_+2=>exact Gz (dw R q1) (dw R q2) h
def SameBut(s s':AS):Prop:=s'.hp=s.hp∧s'.n=s.n
theorem aq.lD(S:aq C J M s h)(B:SameBut s s')(R:bX C.ν s'.rg):aq C J M s' h:=by
 refine aw (B:) fun b1 b2=>?_
 exact⟨b2▸S.len,b2▸S.lim,⟨b2▸S.gC.1,fun i hi=>by rw [b1];exact S.gC.2 i hi⟩,S.nodup,fun i o e=>by rw [b2];exact S.low i o (b1▸e),fun i o a e=>S.obj i o a (b1▸e),S.je,S.ye,S.there,S.mlt,S.base,S.tab,R⟩
theorem zg{m:Int}{l:List Int}(h:qX m l=true):m∉l:=by
 induction l with
 |nil=>exact List.not_mem_nil
 |cons x r ih=>
  unfold qX at h;cases q:ig x m with
  |true=>rw [q]at h;injection h
  |false=>
   rw [q]at h
   rintro hm
   rcases al_mc hm with rfl|hm
   ·exact Iw q rfl
   ·exact ih h hm
theorem yX{l:List Int}{lo hi i m x:Int}{r:List Int}(b1:0≤lo)(b2:hi<l.length)(h1:lo≤i)(h2:i≤hi)(hl:(l.take (hi+1).toNat).drop lo.toNat=x::r)(q1:x=m)(q2:m∉r):(i=lo)↔l.getD i.toNat 0=m:=by
 subst q1;refine⟨fun e=>?_,fun e=>?_⟩
 ·have h0:=congrArg (·[0]?) hl
  simp only[List.getElem?_drop,List.getElem?_cons_zero]at h0
  rw [Nat.add_zero,List.getElem?_take,if_pos (by lia)]at h0
  rw [e,List.getD_eq_getElem?_getD,h0];rfl
 ·have ht:=congrArg List.tail hl
  rw [List.tail_cons,List.tail_drop]at ht;refine Classical.byContradiction fun hlo=>q2 ?_
  rw [←e,←ht];have:=xn (t:=l) (lo:=lo+1) (hi:=hi) (i:=i) (by lia) b2 (by lia) h2
  rwa[show(lo+1).toNat=lo.toNat+1 by lia]at this
theorem Bu(R:bX ν rg){a b:IE}{p:IE×IE}(h:tabAt rg a b=some p):dX ν 0 p.1 p.2=dX ν 0 a b:=by
 refine aw (aB h:) fun h0 h=>?_
 refine aC (aL h:) fun k e1 h=>?_
 refine aC (aL h:) fun m e2 h=>?_
 refine aC (aL h:) fun p e h=>?_
 refine aw (aB h:) fun hb h=>?_
 refine d9 (bA h:) fun x r hl h=>?_
 refine aw (aB h:) fun q h=>?_
 injection h with h;subst h;rw [show a=.tab (HR a) (mr a)from ji h0,cT e2,jV e1]
 exact decide_eq_decide.mpr (yX (bE.mp (ae hb).1) (bp.mp (ae hb).2) (R k p e).1 (R k p e).2 hl (bH.mp (ae q).1) (zg (ae q).2))
theorem p7{a b:IE}(R:bX ν s.rg)(e:(yf kind a b s).leaf ν=some (r,s')):dX ν kind a b=r∧SameBut s s'∧bX ν s'.rg:=by
 unfold yf aH.leaf at e;cases q:dX ν kind a b with
 |true=>rw [q]at e;obtain⟨rfl,rfl⟩:=pi_inj e;exact⟨rfl,⟨rfl,rfl⟩,pU R q⟩
 |false=>rw [q]at e;obtain⟨rfl,rfl⟩:=pi_inj e;exact⟨rfl,⟨rfl,rfl⟩,pU R q⟩
theorem An{a b:IE}(R:bX ν s.rg)(e:(ask' kind a b s).leaf ν=some (r,s')):dX ν kind a b=r∧SameBut s s'∧bX ν s'.rg:=by
 unfold ask' at e;cases q:rF s.rg kind a b with
 |some b=>rw [q]at e;obtain⟨rfl,rfl⟩:=pi_inj e;exact⟨wy R q,⟨rfl,rfl⟩,R⟩
 |none=>
  rw [q]at e
  dsimp only at e
  cases q:Bv s.rg kind a b with
  |none=>rw [q]at e;exact p7 R e
  |some p=>
   rw [q]at e;refine aw (p7 R e:) fun f1 f2=>?_
   cases kind with
   |succ k=>injection q
   |zero=>exact⟨(Bu R q).symm.trans f1,f2⟩
theorem dq{a b:IE}(R:bX ν s.rg):(ask kind a b s).leaf ν=some (r,s')→dX ν kind a b=r∧SameBut s s'∧bX ν s'.rg:=
 rJ (P:=fun z:aH (Bool×AS)=>z.leaf ν=some (r,s')→_) (fun i j ei ej e=>by
  obtain⟨rfl,rfl⟩:=pi_inj e
  rw [ei,ej];exact⟨iz ν kind _ _,⟨rfl,rfl⟩,R⟩) (An R)
theorem SameBut.refl(s:AS):SameBut s s:=⟨rfl,rfl⟩
theorem SameBut.trans{gA:AS}(a:SameBut s s')(b:SameBut s' gA):SameBut s gA:=⟨b.1.trans a.1,b.2.trans a.2⟩
theorem eR(n:Nat){e:IE}:∀{s:AS}{i:Int}{s':AS},bX ν s.rg→(oA n e s).leaf ν=some (i,s')→e.eval ν=i∧SameBut s s'∧bX ν s'.rg:=by
 induction n with
 |zero=>exact fun Y h=>no h
 |succ n ih=>
  intro s i s' R h;unfold oA at h;cases q:gE e with
  |some j=>rw [q]at h;obtain⟨rfl,rfl⟩:=pi_inj h;exact⟨gT ν q,⟨rfl,rfl⟩,R⟩
  |none=>
   rw [q]at h
   dsimp only at h
   cases q:fQ s.rg e with
   |none=>rw [q]at h;exact no h
   |some p=>
    rw [q]at h
    dsimp only at h
    refine aw (dw R q:) fun v1 v2=>?_
    cases q:ig p.1 p.2 with
    |true=>
     rw [q]at h;obtain⟨rfl,rfl⟩:=pi_inj h
     exact⟨Int.le_antisymm (bH.mp q▸v2) v1,⟨rfl,rfl⟩,R⟩
    |false=>
     rw [q]at h;refine aH.cz h fun b ag e1 h=>?_
     refine dz (dq R e1:) fun c1 c2 c3=>?_
     cases b with
     |true=>(obtain⟨rfl,rfl⟩:=pi_inj h);exact⟨of_decide_eq_true (show decide (e.eval ν=p.1)=true from c1),c2,c3⟩
     |false=>
      refine dz (ih c3 h:) fun d1 d2 d3=>?_
      exact⟨d1,c2.trans d2,d3⟩
section
theorem KV.any(K:KV C Z J M st v s' Q)(S:aq C J M s' st.heap)(R:ao C J M st.heap v rv)(tk:Tok):Q rv {st with toks:=tk}:=K.now S R tk
theorem ao.str_inv{l:List Nat}(V:ao C J M h (.str l) rv):∃t,rv=.str (aP l) t:=V.inv
theorem cw(ν:Nat→Int)(l:List IE):(aQ ν l).size=l.length:=by simp[aQ]
theorem pk(ν:Nat→Int)(l m:List IE):aQ ν l++aQ ν m=aQ ν (l++m):=by simp[aQ]
theorem bk.append{l m:List IE}(a:bk ν l)(b:bk ν m):bk ν (l++m):=fun e he=>(List.mem_append.mp he).elim (a e) (b e)
theorem ay.append:∀{m:List AV}{vs ws:List Value},ay C J M h l vs→ay C J M h m ws→ay C J M h (l++m) (vs++ws):=
 List.rec (motive:=fun l=>∀{m:List AV}{vs ws:List Value},ay C J M h l vs→ay C J M h m ws→ay C J M h (l++m) (vs++ws)) (fun a b=>a.nl▸b) (fun Y Y ih Y Y Y a b=>jP a.un fun Y Y e x r=>e▸.cons x (ih r b)) l
theorem Hs{x y:List IE}{rw:Value}(e:(jD (x.length+y.length) (.ok (AV.bytes (x++y),s))).leaf C.ν=some (v,s'))(V:ao C J M st.heap (.bytes x) rv)(W:ao C J M st.heap (.bytes y) rw)(S:aq C J M s st.heap)
  (K:KV C Z J M st v s' Q):ab (Md C) A (binaryOp .Add rv rw) Q E st:=by
 refine V.dY fun b1 t=>?_
 refine W.dY fun b2 u=>?_
 refine aw (bu e:) fun hl e=>?_
 obtain⟨rfl,rfl⟩:=pi_inj e
 refine lf<|PySem.W.KBy.add_bytes (by rw [cw,cw];lia) fun t' k=>?_
 rw [pk];exact K.any S (.bytes _ t' (b1.append b2)) k
theorem Qe{x y:List AV}{rw:Value}(e:(jD (x.length+y.length) (.ok (AV.t (x++y),s))).leaf C.ν=some (v,s'))(V:ao C J M st.heap (.t x) rv)(W:ao C J M st.heap (.t y) rw)(S:aq C J M s st.heap)
  (K:KV C Z J M st v s' Q):ab (Md C) A (binaryOp .Add rv rw) Q E st:=by
 refine V.kD fun a vs n ha ea Va=>?_
 refine W.kD fun b ws m hb eb Vb=>?_
 refine aw (bu e:) fun hl e=>?_
 obtain⟨rfl,rfl⟩:=pi_inj e
 have hlen:vs.length+ws.length≤sizeLine:=by rw [←Va.length,←Vb.length];exact bJ hl
 have eA:vs.toArray++ws.toArray=(vs++ws).toArray:=by simp
 by_cases hv:vs=[]
 ·refine lf<|concat_meets ⟨_,ea,rfl⟩ ⟨_,eb,rfl⟩ noFill_tuple_add seq_tuple_add PySem.F.slot_tuple_add PySem.F.entry_tuple_add (PySem.F.args_tuple_add_2 _ _) (tuple_addW0 a b vs.toArray ws.toArray n m none none #[] #[] (by simp[hv])) ⟨ea,eb,?_⟩
  subst hv;cases List.eq_nil_of_length_eq_zero Va.length;exact K.now S (.t y b ws m hb eb Vb) st.toks
 ·by_cases hw:ws=[]
  ·refine lf<|concat_meets ⟨_,ea,rfl⟩ ⟨_,eb,rfl⟩ noFill_tuple_add seq_tuple_add PySem.F.slot_tuple_add PySem.F.entry_tuple_add (PySem.F.args_tuple_add_2 _ _) (tuple_addW1 a b vs.toArray ws.toArray n m none none #[] #[] (by simpa using hv) (by simp[hw])) ⟨ea,eb,?_⟩
   subst hw;cases List.eq_nil_of_length_eq_zero Vb.length;rw [List.append_nil]at K;exact K.now S (.t x a vs n ha ea Va) st.toks
  ·refine lf<|concat_meets ⟨_,ea,rfl⟩ ⟨_,eb,rfl⟩ noFill_tuple_add seq_tuple_add PySem.F.slot_tuple_add PySem.F.entry_tuple_add (PySem.F.args_tuple_add_2 _ _) (tuple_addW2 a b vs.toArray ws.toArray n m none none #[] #[] (by simpa using hv) (by simpa using hw) (by rw [List.size_toArray,List.size_toArray];exact hlen)) ⟨ea,eb,?_⟩
   rw [eA];have G:=aJ.push Z J M st.heap (fw (vs++ws) 0)
   exact K J M _ st.toks _ G (S.push _) (.t _ _ _ 0 (S.nH (Heap.ba _)) (Heap.get?_push_size _ rfl) ((Va.append Vb).grow G))
theorem ao.nN(S:aq C J M s st.heap)(V:ao C J M st.heap (.ref i) rv)(e:s.get i=some (.list l)):∃a vs n,rv=.ref a∧J[i]?=some a∧st.heap.get? a=some (bS vs n)∧ay C J M st.heap l vs:=by
 exact aC V.inv fun a q1 q=>d9 (S.obj i _ a e q).listI fun vs n h1 h2=>⟨a,vs,n,q1,q,h1,h2⟩
@[elab_as_elim] theorem ao.listE{P:Value→Prop}(S:aq C J M s st.heap)(V:ao C J M st.heap (.ref i) rv)(e:s.get i=some (.list l))(k:∀a vs n,J[i]?=some a→st.heap.get? a=some (bS vs n)→ay C J M st.heap l vs→P (.ref a)):P rv:=oK (V.nN S e) fun a vs n q a1 a2 a3=>q▸k a vs n a1 a2 a3
theorem Ma{x y:List AV}{rw:Value}(ei:s.get i=some (.list x))(ej:s.get j=some (.list y))(e:(newList s (x++y)).leaf C.ν=some (v,s'))(V:ao C J M st.heap (.ref i) rv)(W:ao C J M st.heap (.ref j) rw)(S:aq C J M s st.heap)
  (K:KV C Z J M st v s' Q):ab (Md C) A (binaryOp .Add rv rw) Q E st:=by
 refine V.listE S ei fun a vs n ha ea Va=>?_
 refine W.listE S ej fun b ws m hb eb Vb=>?_
 have eA:vs.toArray++ws.toArray=(vs++ws).toArray:=by simp
 refine aw (newList_K e S (Va.append Vb) K st.toks:) fun hl hq=>?_
 refine lf<|P.add_list ea eb (by rw [eA];exact hq) (by rw [List.size_toArray,List.size_toArray,←List.length_append];exact hl)
theorem j8(l:List α):∀n:Nat,mC l n=(List.replicate n l).flatten
 |0=>rfl
 |n+1=>by rw [List.replicate_succ,List.flatten_cons,←j8 l n];rfl
theorem Mb{x:List IE}{y:IE}{rw:Value}(e:(PB x y s).leaf C.ν=some (v,s'))(V:ao C J M st.heap (.bytes x) rv)(W:ao C J M st.heap (.int y) rw)(S:aq C J M s st.heap)
  (K:KV C Z J M st v s' Q):ab (Md C) A (binaryOp .Mult rv rw) Q E st:=by
 refine V.dY fun b1 t=>?_
 refine W.ed fun u=>?_
 refine aH.cz e fun n ag e1 e=>?_
 refine dz (eR 40 S.rg e1:) fun c1 c2 c3=>?_
 refine aw (cC e:) fun hb e=>?_
 ·obtain⟨rfl,rfl⟩:=pi_inj e
  refine aw (ae hb:) fun h1 hb=>?_
  refine aw (ae hb:) fun h2 hb=>?_
  refine aw (ae hb:) fun h3 h4=>?_
  have h1:1≤x.length:=al_ble h1
  have h2:x.length≤16:=al_ble h2
  have h3:=bE.mp h3
  have h4:=bE.mp h4
  rw [c1];refine lf<|bytes_mul_any (b:=x.map (cj C.ν)) (n:=n) (by intro q;rw [List.map_eq_nil_iff]at q;subst q;simp at h1) (by lia) (by lia) (by simpa using h2) fun t' k=>?_
  have hE:((List.replicate n.toNat (x.map (cj C.ν))).flatten).toArray=aQ C.ν (mC x n.toNat):=by
   unfold aQ;rw [j8,List.map_flatten,List.map_replicate]
  rw [hE];refine K.any (S.lD c2 c3) (.bytes _ t' ?_) k;rw [j8];intro q hq;refine aC (List.mem_flatten.mp hq:) fun l hl hq=>?_
  rw [List.eq_of_mem_replicate hl]at hq;exact b1 q hq
theorem nC{op:Op}{r:RV}{y:AV×AS}(e:(BY op r).leaf ν=some y):op=.add∧r.leaf ν=some y:=by
 cases op with
 |add=>exact⟨rfl,e⟩
 |_=>exact no e
theorem Tv{op:Op}{av bv:AV}{rw:Value}(e:(binop op av bv s).leaf C.ν=some (v,s'))(V:ao C J M st.heap av rv)(W:ao C J M st.heap bv rw)(S:aq C J M s st.heap)(K:KV C Z J M st v s' Q):
  ab (Md C) A (binaryOp (H6 op) rv rw) Q E st:=by
 cases av with
 |int x=>
  obtain⟨y,rfl,e⟩:=aV e
  exact Ej e V W S K
 |bytes x=>cases op with
  |add=>
   obtain⟨y,rfl,e⟩:=lE e
   exact Hs e V W S K
  |mul=>
   obtain⟨y,rfl,e⟩:=aV e
   exact Mb e V W S K
  |_=>exact no e
 |t x=>
  obtain⟨rfl,e⟩:=nC e
  obtain⟨y,rfl,e⟩:=ip e
  exact Qe e V W S K
 |ref i=>
  obtain⟨rfl,e⟩:=nC e
  refine aC (cJ e:) fun x ex e=>?_
  obtain⟨j,y,rfl,ey,e⟩:=eF e
  exact Ma ex ey e V W S K
 |_=>exact no e
end
noncomputable def kX(a b:Value):Bool:=match a with
 |.int a _=>(match b with|.int b _=>a==b|_=>false)
 |.str a _=>(match b with|.str b _=>a==b|_=>false)
 |.bytes a _=>(match b with|.bytes b _=>a.toList==b.toList|_=>false)
 |_=>false
def PP(a b:Value):Prop:=∀A s,EqAt A s a b (kX a b)∧RcAt A s a b (kX a b)∧RcNeAt A s a b (!kX a b)
theorem sL(A:Around)(s:Shared)(b c:Array UInt8)(t u:Tok):RcAt A s (.bytes b t) (.bytes c u) (b.toList==c.toList):=fun prog w E Q h=>
 richCompare_gives (op:=.Eq) (T:="bytes") rfl rfl FB.slot_bytes_eq FB.entry_bytes_eq (FB.args_bytes_eq_2 _ _) (gives_bytes_eq b c t u) (fun x=>nomatch x) h
theorem vq(A:Around)(s:Shared)(b c:Array UInt8)(t u:Tok):RcNeAt A s (.bytes b t) (.bytes c u) (!(b.toList==c.toList)):=fun prog w E Q h=>
 richCompare_gives (op:=.NotEq) (T:="bytes") rfl rfl FB.slot_bytes_ne FB.entry_bytes_ne (FB.args_bytes_ne_2 _ _) (gives_bytes_ne b c t u) (fun x=>nomatch x) h
theorem wh(A:Around)(s:Shared)(b c:Array UInt8)(t u:Tok):EqAt A s (.bytes b t) (.bytes c u) (b.toList==c.toList):=fun prog w E Q h=>by
 unfold eqBool;refine PySem.wpAny_holding ?_;refine PySem.wpAny_ite_split (fun hab=>?_) (fun Y=>?_)
 ·have e:b=c:=by have:=eq_of_beq hab;injection this
  subst e;exact PySem.wpAny_bind (PySem.wpAny_rule (PySem.wpAny_pure (by simpa using h)))
 ·exact PySem.wpAny_bind (sL A s b c t u prog w E _ (PySem.wpAny_truthy_bool h))
theorem kc:∀{x y:List Nat},lEq x y=true→x=y
 |[],[],_=>rfl
 |[],_::_,h=>nomatch h
 |_::_,[],h=>nomatch h
 |a::x,b::y,h=>by
  unfold lEq at h
  dsimp only at h
  cases q:Nat.beq a b with
  |true=>rw [q]at h;rw [al_beq q,kc h]
  |false=>rw [q]at h;injection h
theorem jh:∀l:List Nat,lEq l l=true
 |[]=>rfl
 |a::x=>by unfold lEq;dsimp only;rw [Nat.beq_refl];exact jh x
theorem lEq_iff{x y:List Nat}:lEq x y=true↔x=y:=⟨kc,fun e=>e▸jh x⟩
theorem nh{x y:List Nat}:aP x=aP y↔x=y:=by
 unfold aP;constructor
 ·intro h;injection h with h;simpa using h
 ·rintro rfl;rfl
theorem By(x y:List Nat):(aP x==aP y)=lEq x y:=by
 rw [Bool.eq_iff_iff,beq_iff_eq,nh,lEq_iff]
theorem uA{a b:IE}(ha:0≤a.eval ν∧a.eval ν<256)(hb:0≤b.eval ν∧b.eval ν<256):cj ν a=cj ν b↔a.eval ν=b.eval ν:=by
 unfold cj;constructor
 ·intro h
  have h:=congrArg UInt8.toNat h
  rw [UInt8.toNat_ofNat',UInt8.toNat_ofNat',Nat.mod_eq_of_lt ((Int.toNat_lt ha.1).mpr ha.2),Nat.mod_eq_of_lt ((Int.toNat_lt hb.1).mpr hb.2)]at h;exact(Int.toNat_of_nonneg ha.1).symm.trans ((congrArg Int.ofNat h).trans (Int.toNat_of_nonneg hb.1))
 ·intro h;rw [h]
theorem Aa{a b:IE}{q:Bool}(ha:0≤a.eval ν∧a.eval ν<256)(hb:0≤b.eval ν∧b.eval ν<256)(c:decide (a.eval ν=b.eval ν)=q):(cj ν a==cj ν b)=q:=by
 rw [←c,Bool.eq_iff_iff,beq_iff_eq,decide_eq_true_iff];exact uA ha hb
theorem rC{x:List IE}:∀{y:List IE}{s:AS}{r:Bool}{s':AS},bX ν s.rg→bk ν x→bk ν y→(rD x y s).leaf ν=some (r,s')→((x.map (cj ν))==(y.map (cj ν)))=r∧SameBut s s'∧bX ν s'.rg:=by
 induction x with
 |nil=>intro y s r s' R _ _ e;cases y<;>((obtain⟨rfl,rfl⟩:=pi_inj e);exact⟨rfl,.refl _,R⟩)
 |cons a x ih=>
  intro y s r s' R bx bw e;cases y with
  |nil=>(obtain⟨rfl,rfl⟩:=pi_inj e);exact⟨rfl,.refl _,R⟩
  |cons b y=>
   refine aH.cz e fun q ag e1 e=>?_
   refine dz (dq R e1:) fun c1 c2 c3=>?_
   rw [List.map_cons,List.map_cons,List.cons_beq_cons,Aa (bx a al_self) (bw b al_self) c1];cases q with
   |true=>
    refine dz (ih c3 (fun e m=>bx e (al_con _ m)) (fun e m=>bw e (al_con _ m)) e:) fun d1 d2 d3=>?_
    exact⟨d1,c2.trans d2,d3⟩
   |false=>(obtain⟨rfl,rfl⟩:=pi_inj e);exact⟨rfl,c2,c3⟩
section
theorem oi{b:AV}{rw:Value}(e:(eqB a b s).leaf C.ν=some (r,s'))(V:ao C J M h a rv)(W:ao C J M h b rw)(R:bX C.ν s.rg):kX rv rw=r∧PP rv rw∧SameBut s s'∧bX C.ν s'.rg:=by
 cases a with
 |int x=>
  obtain⟨y,rfl,e⟩:=aV e
  obtain⟨t,rfl⟩:=V.inv
  obtain⟨u,rfl⟩:=W.inv
  refine dz (dq (kind:=0) R e:) fun c1 c2 c3=>?_
  exact⟨c1,fun A s=>⟨.int_int _ _ _ _,.int_int _ _ _ _,.int_int _ _ _ _⟩,c2,c3⟩
 |str x=>
  obtain⟨y,rfl,e⟩:=dk e
  obtain⟨t,rfl⟩:=V.inv
  obtain⟨u,rfl⟩:=W.inv
  obtain⟨rfl,rfl⟩:=pi_inj e
  exact⟨By x y,fun A s=>⟨.str_str _ _ _ _,.str_str _ _ _ _,.str_str _ _ _ _⟩,.refl _,R⟩
 |bytes x=>
  obtain⟨y,rfl,e⟩:=lE e
  obtain⟨bx,t,rfl⟩:=V.inv
  obtain⟨bw,u,rfl⟩:=W.inv
  refine dz (rC R bx bw e:) fun c1 c2 c3=>?_
  exact⟨c1,fun A s=>⟨wh A s _ _ _ _,sL A s _ _ _ _,vq A s _ _ _ _⟩,c2,c3⟩
 |_=>exact no e
noncomputable def Hc:List Value→List Value→Bool
 |[],m=>(match m with|[]=>true|_::_=>false)
 |a::x,m=>match m with|[]=>false|b::y=>kX a b&&Hc x y
theorem ql{x:List AV}:∀{y:List AV}{s:AS}{r:Bool}{s':AS}{vs ws:List Value},bX C.ν s.rg→(Ds x y s).leaf C.ν=some (r,s')→ay C J M h x vs→ay C J M h y ws→
  Hc vs ws=r∧(∀j(h1:j<vs.length)(h2:j<ws.length),PP vs[j] ws[j])∧SameBut s s'∧bX C.ν s'.rg:=by
 induction x with
 |nil=>exact fun{y}{s}{r}{s'}{vs}{ws} R e V W=>V.nl▸(by
   have h:Hc [] ws=r∧s=s':=by
    cases y with
    |nil=>(obtain⟨rfl,rfl⟩:=pi_inj e);exact⟨by rw [W.nl];rfl,rfl⟩
    |cons b y=>(obtain⟨rfl,rfl⟩:=pi_inj e);exact⟨jP W.un fun w ws q Y Y=>by rw [q];rfl,rfl⟩
   exact⟨h.1,fun j h1=>absurd h1 (Nat.not_lt_zero _),h.2▸.refl _,h.2▸R⟩)
 |cons a x ih=>
  intro y s r s' vs ws R e V W;refine jP V.un fun v vs q V r1=>q▸?_
  cases y with
  |nil=>rw [W.nl];obtain⟨rfl,rfl⟩:=pi_inj e;exact⟨rfl,fun j Y h1=>absurd h1 (Nat.not_lt_zero _),.refl _,R⟩
  |cons b y=>
   refine jP W.un fun w ws q W r2=>q▸aH.bd e fun p e1 e=>aH.bd e fun p' e2 e=>lx (oi e1 V W R) fun c1 c2 c3 c4=>lx (ih c4 e2 r1 r2) fun d1 d2 d3 d4=>?_
   obtain⟨rfl,rfl⟩:=pi_inj e
   exact⟨congr (congrArg and c1) d1,fun j=>Nat.casesOn (motive:=fun j=>∀(h1:j<(v::vs).length)(h2:j<(w::ws).length),PP (v::vs)[j] (w::ws)[j]) j (fun Y Y=>c2) fun j h1 h2=>d2 j (Nat.lt_of_succ_lt_succ h1) (Nat.lt_of_succ_lt_succ h2),c3.trans d3,d4⟩
theorem oF(vs:List Value):∀ws:List Value,Hc vs ws=((List.range (min vs.length ws.length)).all (fun j=>kX (vs.getD j .none) (ws.getD j .none))&&vs.length==ws.length):=by
 induction vs with
 |nil=>intro ws;cases ws<;>rfl
 |cons a x ih=>
  intro ws;cases ws with
  |nil=>exact(Bool.and_false _).symm
  |cons b y=>
   rw [List.length_cons,List.length_cons,Nat.succ_min_succ,List.range_succ_eq_map,List.all_cons,List.all_map,Bool.and_assoc,show(x.length+1==y.length+1)=(x.length==y.length)from Bool.eq_iff_iff.mpr ((beq_iff_eq).trans (Nat.succ_inj.trans beq_iff_eq.symm))]
   exact congrArg (kX a b&&·) (ih y)
theorem getD_at(h:j<vs.length):vs.getD j .none=vs[j]:=by rw [List.getD_eq_getElem?_getD,List.getElem?_eq_getElem h];rfl
theorem isTup{a:Addr}(e:h.get? a=some (fw vs n)):h.IsTuple a vs.toArray:=⟨_,e,rfl,n,rfl⟩
theorem cB{a:Addr}(e:h.get? a=some (bS vs n)):h.IsList a vs.toArray:=⟨_,e,rfl,n,rfl⟩
theorem yA{ws:List Value}(c2:∀j(h1:j<vs.length)(h2:j<ws.length),PP vs[j] ws[j])(A:Around)(s:Shared):∀j(h1:j<vs.toArray.size)(h2:j<ws.toArray.size),EqAt A s vs.toArray[j] ws.toArray[j] (kX (vs.getD j .none) (ws.getD j .none)):=fun j h1 h2=>by
 have h1:j<vs.length:=by simpa using h1
 have h2:j<ws.length:=by simpa using h2
 rw [getD_at h1,getD_at h2];exact(c2 j h1 h2 A s).1
def Hp(C:Cx)(A:Around)(st:Shared)(rv rw:Value)(r:Bool)(s s':AS):Prop:=RcAt A st rv rw r∧RcNeAt A st rv rw (!r)∧SameBut s s'∧bX C.ν s'.rg
theorem Dq{x y:List AV}{rw:Value}(hu:A.units<cLine)(e:(IT x y s).leaf C.ν=some (r,s'))(ei:s.get i=some (.list x))(ej:s.get j=some (.list y))(V:ao C J M st.heap (.ref i) rv)(W:ao C J M st.heap (.ref j) rw)(S:aq C J M s st.heap):Hp C A st rv rw r s s':=by
 refine V.listE S ei fun a vs n ha ea Va=>?_
 refine W.listE S ej fun b ws m hb eb Vb=>?_
 rcases dn e with⟨hl,e⟩|⟨hl,e⟩
 ·have hl:=al_beq hl
  rw [Va.length,Vb.length]at hl;refine lx (ql S.rg e Va Vb:) fun c1 c2 c3 c4=>?_
  have hr:((List.range vs.toArray.size).all fun j=>kX (vs.getD j .none) (ws.getD j .none))=r:=by
   rw [←c1,oF,hl,Nat.min_self];simp[hl]
  subst hr;exact⟨.lists (cB ea) (cB eb) (by simpa using hl) hu (yA c2 A.in1 st),RcNeAt.lists (cB ea) (cB eb) (by simpa using hl) hu (yA c2 A.in1 st),c3,c4⟩
 ·obtain⟨rfl,rfl⟩:=pi_inj e
  have hl:=Nat.ne_of_beq_eq_false hl
  rw [Va.length,Vb.length]at hl;exact⟨.lists_lengths (cB ea) (cB eb) (by simpa using hl) hu,RcNeAt.lists_lengths (cB ea) (cB eb) (by simpa using hl) hu,.refl _,S.rg⟩
theorem Gv{x y:List AV}{rw:Value}(hu:A.units<cLine)(e:(Ds x y s).leaf C.ν=some (r,s'))(V:ao C J M st.heap (.t x) rv)(W:ao C J M st.heap (.t y) rw)(S:aq C J M s st.heap):Hp C A st rv rw r s s':=by
 refine V.kD fun a vs n ha ea Va=>?_
 refine W.kD fun b ws m hb eb Vb=>?_
 refine lx (ql S.rg e Va Vb:) fun c1 c2 c3 c4=>?_
 rw [oF]at c1;subst c1;exact⟨.tuples (isTup ea) (isTup eb) hu (yA c2 A.in1 st),RcNeAt.tuples (isTup ea) (isTup eb) hu (yA c2 A.in1 st),c3,c4⟩
theorem Dp{b:AV}{rw:Value}(V:ao C J M st.heap a rv)(W:ao C J M st.heap b rw)(e:(eqB a b s).leaf C.ν=some (r,s'))(S:aq C J M s st.heap):Hp C A st rv rw r s s':=by
 refine lx (oi e V W S.rg:) fun c1 c2 c3 c4=>?_
 refine dz (c2 A st:) fun Y d2 d3=>?_
 rw [c1]at d2 d3;exact⟨d2,d3,c3,c4⟩
theorem Dr{b:AV}{rw:Value}(hu:A.units<cLine)(e:(SI a b s).leaf C.ν=some (r,s'))(V:ao C J M st.heap a rv)(W:ao C J M st.heap b rw)(S:aq C J M s st.heap):Hp C A st rv rw r s s':=by
 cases a with
 |t x=>
  obtain⟨y,rfl,e⟩:=ip e
  exact Gv hu e V W S
 |ref i=>
  refine aC (cJ e:) fun x ei e=>?_
  obtain⟨j,y,rfl,ej,e⟩:=eF e
  exact Dq hu e ei ej V W S
 |_=>exact Dp V W e S
end
theorem xN(c:Nat):∀y:List Nat,gk c y=decide (c∈y)
 |[]=>by simp[gk]
 |b::y=>by
  unfold gk;cases q:Nat.beq b c with
  |true=>have:=al_beq q;simp[this]
  |false=>
   have:=Nat.ne_of_beq_eq_false q
   simp only
   rw [xN c y];have h:c≠b:=fun e=>this e.symm
   simp[h]
theorem nJ{a b:Nat}:Nat.blt a b=true↔a<b:=by
 unfold Nat.blt;exact⟨fun h=>al_ble h,fun h=>Nat.ble_eq_true_of_le h⟩
theorem pJ:∀{x y:List Nat},strLt x y=true↔x<y
 |[],[]=>by simp[strLt]
 |[],b::y=>by simp[strLt]
 |a::x,[]=>by simp[strLt]
 |a::x,b::y=>by
  unfold strLt;rw [List.cons_lt_cons_iff];cases q:Nat.blt a b with
  |true=>have:=nJ.mp q;simp[this]
  |false=>
   have h1:¬a<b:=fun h=>by rw [nJ.mpr h]at q;injection q
   cases q':Nat.beq a b with
   |true=>
    have:=al_beq q'
    subst this;simp only;rw [pJ];simp
   |false=>
    have:=Nat.ne_of_beq_eq_false q'
    simp[h1,this]
theorem jl(b:Array UInt8)(i:Int)(t u:Tok)(h0:0≤i)(h1:i<256):Gives (Builtin.«bytes.__contains__» ⟨[.bytes b t,.int i u],[]⟩) (.val (.bool (b.contains i.toNat.toUInt8))):=by
 refine .of_wp fun M A E s Q hq=>?_
 show PySem.wpAny M A (Builtin.Bytes.containsIn "bytes.__contains__" (.bytes b t) (.int i u)>>=fun r=>_) _ E s
 refine PySem.wpAny_bind ?_
 unfold Builtin.Bytes.containsIn;show PySem.wpAny M A (Builtin.Bytes.buffer? "bytes.__contains__" (.bytes b t)>>=fun r=>_) _ E s
 refine PySem.wpAny_bind (PySem.wpAny_of_eq KBy.buffer_eq ?_)
 show PySem.wpAny M A (if(decide (i<0)||decide (i≥256))=true then _ else _) _ E s;rw [if_neg (by simp;lia)]
 exact PySem.wpAny_pure (PySem.wpAny_pure ⟨_,rfl,hq⟩)
section
theorem oE:∀{s:AS}{r:Bool}{s':AS}{vs:List Value},bX C.ν s.rg→(qz a l s).leaf C.ν=some (r,s')→ao C J M h a rv→ay C J M h l vs→
  (vs.any fun y=>kX y rv)=r∧(∀y,y∈vs→PP y rv)∧SameBut s s'∧bX C.ν s'.rg:=by
 induction l with
 |nil=>exact fun R e V W=>W.nl▸(by obtain⟨rfl,rfl⟩:=pi_inj e;exact⟨rfl,(fun y m=>nomatch m),.refl _,R⟩)
 |cons b l ih=>
  exact fun R e V W=>aH.bd e fun p e1 e=>aH.bd e fun p' e2 e=>jP W.un fun w ws q W r2=>lx (oi e1 W V R) fun c1 c2 c3 c4=>lx (ih c4 e2 V r2) fun d1 d2 d3 d4=>q▸(by
   obtain⟨rfl,rfl⟩:=pi_inj e
   exact⟨congr (congrArg or c1) d1,fun y m=>(al_mc m).elim (fun q=>q▸c2) (d2 y),c3.trans d3,d4⟩)
theorem wU{a:IE}(ha:0≤a.eval ν∧a.eval ν<256){l:List IE}:∀{s:AS}{r:Bool}{s':AS},bX ν s.rg→bk ν l→(D9 a l s).leaf ν=some (r,s')→
  (l.map (cj ν)).contains (cj ν a)=r∧SameBut s s'∧bX ν s'.rg:=by
 induction l with
 |nil=>exact fun R Y e=>by obtain⟨rfl,rfl⟩:=pi_inj e;exact⟨rfl,.refl _,R⟩
 |cons b l ih=>
  intro s r s' R B e;refine aH.bd e fun p e1 e=>dz (dq R e1) fun c1 c2 c3=>?_
  have hb:=uA ha (B b al_self)
  have c1:decide (a.eval ν=b.eval ν)=p.1:=c1
  rw [List.map_cons,List.contains_cons];obtain⟨q,ag⟩:=p
  cases q with
  |true=>
   obtain⟨rfl,rfl⟩:=pi_inj e
   rw [hb.mpr (of_decide_eq_true c1),beq_self_eq_true];exact⟨rfl,c2,c3⟩
  |false=>
   refine dz (ih c3 (fun e m=>B e (al_con _ m)) e) fun d1 d2 d3=>?_
   rw [show(cj ν a==cj ν b)=false from beq_eq_false_iff_ne.mpr fun q=>of_decide_eq_false c1 (hb.mp q),d1]
   exact⟨rfl,c2.trans d2,d3⟩
theorem ym(C:Cx)(k k':List Nat)(t:Tok):Value.isStrOf (aP k) (.str (aP k') t)=lEq k' k:=
 Bool.eq_iff_iff.mpr ⟨fun q=>dm (Value.isStrOf_shape q) fun Y hu=>lEq_iff.mpr (nh.mp (by injection hu)),fun q=>lEq_iff.mp q▸strKind_is C.prog C.w _ t⟩
theorem tY{p:α→Bool}{a:α}{l:List α}(h:p a=true):(a::l).find? p=some a:=by rw [List.find?_cons,h]
theorem qf{p:α→Bool}{a:α}{l:List α}(h:p a=false):(a::l).find? p=l.find? p:=by rw [List.find?_cons,h]
def Ja(C:Cx)(J:List Addr)(M:Addr→Prop)(h:Heap)(o:Option AV)(f:Option DictEntry):Prop:=match o with
 |none=>f=none
 |some v=>∃e,f=some e∧ao C J M h v e.val
theorem cM.find(k:List Nat){l:List (List Nat×AV)}:∀{es:List DictEntry},cM C J M h l es→Ja C J M h (gw l k) (es.find? (fun e=>Value.isStrOf (aP k) e.key)):=by
 induction l with
 |nil=>exact fun V=>V.nl▸rfl
 |cons p l ih=>
  exact fun V=>Fy V.un fun v t es q V r=>q▸(by
   unfold gw;cases z:lEq p.1 k with
   |true=>exact⟨_,tY ((ym C k p.1 t).trans z),V⟩
   |false=>exact(qf (p:=fun e:DictEntry=>Value.isStrOf (aP k) e.key) (a:=⟨PyData.keyHash C.w.params (aP p.1),.str (aP p.1) t,v⟩) ((ym C k p.1 t).trans z)).symm▸ih r)
theorem cM.keys{l:List (List Nat×AV)}:∀{es:List DictEntry},cM C J M h l es→∀e∈es,∃k,(strKind C.prog C.w).is k e.key=true∧e.hash=(strKind C.prog C.w).hash k:=by
 induction l with
 |nil=>exact fun V=>V.nl▸fun e m=>nomatch m
 |cons p l ih=>exact fun V=>Fy V.un fun v t es q V r=>q▸fun e m=>(al_mc m).elim (fun q=>q▸⟨aP p.1,strKind_is _ _ _ _,rfl⟩) (ih r e)
theorem rG{l:List (List Nat×AV)}{a:Addr}(e:h.get? a=some (bG es n))(r:cM C J M h l es):h.MapOf (strKind C.prog C.w) a (fun k=>(es.find? fun e=>Value.isStrOf k e.key).map (·.val)):=
 ⟨_,es.toArray,n,e,⟨rfl,rfl,rfl⟩,rfl,fun e m=>r.keys e (by simpa using m),fun k=>by
  show findBy Value.isStrOf _ _=_;unfold findBy;simp⟩
theorem rL(l:List UInt8)(c:UInt8):l.toArray.contains c=l.contains c:=by simp
theorem QR(ν:Nat→Int)(x:IE):(x.eval ν).toNat.toUInt8=cj ν x:=rfl
section
variable{neg:Bool}{rw:Value}
theorem KI(e:(qz a l s).leaf C.ν=some (r,s'))(V:ao C J M st.heap a rv)(W:ao C J M st.heap (.t l) rw)(S:aq C J M s st.heap)(K:KB C Z J M st (r !=neg) s' (fun b=>Q (.bool b))):ab (Md C) A (compareOp (if neg then .NotIn else .In) rv rw) Q E st:=by
 refine W.kD fun b ws m hb eb Vb=>?_
 refine lx (oE S.rg e V Vb:) fun c1 c2 c3 c4=>?_
 have hp:∀y,y∈ws.toArray→EqAt A.in1 st y rv (kX y rv):=fun y m=>(c2 y (List.mem_toArray.mp m) A.in1 st).1
 have K:=K.now (S.lD c3 c4) st.toks
 have hr:ws.toArray.any (fun y=>kX y rv)=r:=by rw [←c1];simp
 subst hr;cases neg with
 |true=>exact lf<|notIn_tupleAt _ (isTup eb) hp (by rwa[Bool.bne_true]at K)
 |false=>exact lf<|in_tupleAt _ (isTup eb) hp (by rwa[Bool.bne_false]at K)
theorem Ex(ej:s.get i=some (.list l))(e:(qz a l s).leaf C.ν=some (r,s'))(V:ao C J M st.heap a rv)(W:ao C J M st.heap (.ref i) rw)(S:aq C J M s st.heap)(K:KB C Z J M st (r !=neg) s' (fun b=>Q (.bool b))):ab (Md C) A (compareOp (if neg then .NotIn else .In) rv rw) Q E st:=by
 refine W.listE S ej fun b ws m hb eb Vb=>?_
 refine lx (oE S.rg e V Vb:) fun c1 c2 c3 c4=>?_
 have hp:∀y,y∈ws.toArray→EqAt A.in1 st y rv (kX y rv):=fun y m=>(c2 y (List.mem_toArray.mp m) A.in1 st).1
 have K:=K.now (S.lD c3 c4) st.toks
 have hr:ws.toArray.any (fun y=>kX y rv)=r:=by rw [←c1];simp
 subst hr;cases neg with
 |true=>exact lf<|notIn_listAt _ (cB eb) hp (by rwa[Bool.bne_true]at K)
 |false=>exact lf<|in_listAt _ (cB eb) hp (by rwa[Bool.bne_false]at K)
theorem Ji{x y:List Nat}(e:(Ue x y s).leaf C.ν=some (r,s'))(V:ao C J M st.heap (.str x) rv)(W:ao C J M st.heap (.str y) rw)(S:aq C J M s st.heap)(K:KB C Z J M st (r !=neg) s' (fun b=>Q (.bool b))):ab (Md C) A (compareOp (if neg then .NotIn else .In) rv rw) Q E st:=by
 refine V.gB fun t=>?_
 refine W.gB fun u=>?_
 refine aw (cC e) fun hx e=>?_
 cases x with
 |nil=>injection hx
 |cons c x=>cases x with
  |cons _ _=>injection hx
  |nil=>
   obtain⟨rfl,rfl⟩:=pi_inj e
   have K:=K.now S st.toks
   have hr:(!(Builtin.Str.occurrences (aP y) (aP [c]) 0 (aP y).length 1).isEmpty)=gk ([c].headD 0) y:=(StrLaws.found_one (aP y) c).trans (xN c y).symm
   rw [←hr]at K;cases neg with
   |true=>exact lf<|P.notIn_str (by rwa[Bool.bne_true]at K)
   |false=>exact lf<|P.in_str (by rwa[Bool.bne_false]at K)
theorem CP{x:IE}{y:List IE}(e:(Ug x y s).leaf C.ν=some (r,s'))(V:ao C J M st.heap (.int x) rv)(W:ao C J M st.heap (.bytes y) rw)(S:aq C J M s st.heap)(K:KB C Z J M st (r !=neg) s' (fun b=>Q (.bool b))):ab (Md C) A (compareOp (if neg then .NotIn else .In) rv rw) Q E st:=by
 refine aC (aI e:) fun p q e=>?_
 refine aw (cC e:) fun hb e=>?_
 refine aw (dw S.rg q:) fun v1 v2=>?_
 have b1:=Int.le_trans (bE.mp (ae hb).1) v1
 have b2:=Int.lt_of_le_of_lt v2 (bp.mp (ae hb).2)
 refine V.ed fun t=>?_
 refine W.dY fun B u=>?_
 refine dz (wU (ν:=C.ν) (a:=x) ⟨b1,b2⟩ S.rg B e:) fun c1 c2 c3=>?_
 have K:=K.now (S.lD c2 c3) st.toks
 have hr:(aQ C.ν y).contains ((x.eval C.ν).toNat.toUInt8)=r:=by
  rw [←c1];unfold aQ;rw [rL,QR]
 have g:=jl (aQ C.ν y) (x.eval C.ν) u t b1 b2
 rw [hr]at g;cases neg with
 |true=>exact lf<|notIn_gives (typeIs_bytes st _ u) FB.slot_bytes_contains FB.entry_bytes_contains (FB.args_bytes_contains_2 _ _) g (by rwa[Bool.bne_true]at K)
 |false=>exact lf<|in_gives (typeIs_bytes st _ u) FB.slot_bytes_contains FB.entry_bytes_contains (FB.args_bytes_contains_2 _ _) g (by rwa[Bool.bne_false]at K)
theorem KJ{x:List Nat}{l:List (List Nat×AV)}(e:(aH.ok ((gw l x).isSome,s)).leaf C.ν=some (r,s'))(V:ao C J M st.heap (.str x) rv)(W:ao C J M st.heap (.dW l) rw)(S:aq C J M s st.heap)(K:KB C Z J M st (r !=neg) s' (fun b=>Q (.bool b))):ab (Md C) A (compareOp (if neg then .NotIn else .In) rv rw) Q E st:=by
 obtain⟨rfl,rfl⟩:=pi_inj e
 refine V.gB fun t=>?_
 refine W.wz fun a es n ha hs ea Ra=>?_
 have hm:=rG ea Ra
 have hr:((es.find? fun e=>Value.isStrOf (aP x) e.key).map (·.val)).isSome=(gw l x).isSome:=by
  have:=Ra.find x
  cases q:gw l x with
  |none=>rw [q]at this;rw [show es.find? _=none from this];rfl
  |some v=>rw [q]at this;refine aC (this:) fun e h1 Y=>?_;rw [h1];rfl
 rw [←hr]at K;cases neg with
 |true=>exact lf<|wpAny_notIn_of (strKind_is _ _ _ _) hs hm (by rw [Bool.bne_true]at K;exact K.now S _)
 |false=>exact lf<|wpAny_in_of (strKind_is _ _ _ _) hs hm (by rw [Bool.bne_false]at K;exact K.now S _)
end
theorem Iu(neg:Bool){b:AV}{rw:Value}(e:(isIn a b s).leaf C.ν=some (r,s'))(V:ao C J M st.heap a rv)(W:ao C J M st.heap b rw)(S:aq C J M s st.heap)
  (K:KB C Z J M st (r !=neg) s' (fun b=>Q (.bool b))):ab (Md C) A (compareOp (if neg then .NotIn else .In) rv rw) Q E st:=by
 cases b with
 |t l=>exact KI e V W S K
 |ref i=>
  refine aC (cJ e:) fun l ej e=>?_
  exact Ex ej e V W S K
 |str y=>
  obtain⟨x,rfl,e⟩:=dk e
  exact Ji e V W S K
 |bytes y=>
  obtain⟨x,rfl,e⟩:=aV e
  exact CP e V W S K
 |dW l=>
  obtain⟨x,rfl,e⟩:=dk e
  exact KJ e V W S K
 |_=>exact no e
theorem l3{b:AV}{rw:Value}(e:(isNone a b s).leaf C.ν=some (r,s'))(V:ao C J M h a rv)(W:ao C J M h b rw):rw=.none∧(rv==Value.none)=r∧s'=s:=by
 cases b with
 |none=>
  cases W.inv
  refine⟨rfl,?_⟩
  cases a with
  |none=>cases V.inv;obtain⟨rfl,rfl⟩:=pi_inj e;exact⟨rfl,rfl⟩
  |bool x=>cases V.inv;obtain⟨rfl,rfl⟩:=pi_inj e;exact⟨rfl,rfl⟩
  |int x=>obtain⟨t,rfl⟩:=V.inv;obtain⟨rfl,rfl⟩:=pi_inj e;exact⟨rfl,rfl⟩
  |str x=>obtain⟨t,rfl⟩:=V.inv;obtain⟨rfl,rfl⟩:=pi_inj e;exact⟨rfl,rfl⟩
  |t x=>obtain⟨a,vs,n,rfl,_⟩:=V.inv;obtain⟨rfl,rfl⟩:=pi_inj e;exact⟨rfl,rfl⟩
  |ref x=>obtain⟨a,rfl,_⟩:=V.inv;obtain⟨rfl,rfl⟩:=pi_inj e;exact⟨rfl,rfl⟩
  |_=>exact no e
 |_=>exact no e
theorem N6{b:AV}{rw:Value}(e:(IY a b s).leaf C.ν=some (r,s'))(V:ao C J M st.heap a rv)(W:ao C J M st.heap b rw)(S:aq C J M s st.heap)
  (K:KB C Z J M st r s' (fun b=>Q (.bool b))):ab (Md C) A (compareOp .LtE rv rw) Q E st:=by
 cases a with
 |int x=>
  obtain⟨y,rfl,e⟩:=aV e
  refine V.ed fun t=>?_
  refine W.ed fun u=>?_
  refine dz (dq (kind:=2) S.rg e:) fun c1 c2 c3=>?_
  have c1:decide (x.eval C.ν≤y.eval C.ν)=r:=c1
  exact lf<|PyProof.Rows.le_int (by rw [c1];exact K.now (S.lD c2 c3) st.toks)
 |str x=>
  obtain⟨y,rfl,e⟩:=dk e
  refine V.gB fun t=>?_
  refine W.gB fun u=>?_
  obtain⟨rfl,rfl⟩:=pi_inj e
  refine lf<|P.le_str ?_
  have RW:decide ((aP y).cps.toList<(aP x).cps.toList)=strLt y x:=by
   rw [Bool.eq_iff_iff,decide_eq_true_eq,pJ];exact Iff.rfl
  rw [RW];exact K.now S st.toks
 |_=>exact no e
theorem Hr{op:Cm}{b:AV}{rw:Value}(hu:A.units<cLine)(e:(compare op a b s).leaf C.ν=some (r,s'))(V:ao C J M st.heap a rv)(W:ao C J M st.heap b rw)(S:aq C J M s st.heap)
  (K:KB C Z J M st r s' (fun b=>Q (.bool b))):ab (Md C) A (compareOp (mL op) rv rw) Q E st:=by
 cases op with
 |eq=>
  refine lx (Dr hu e V W S:) fun c1 c2 c3 c4=>?_
  exact lf<|c1 _ _ E Q (K.now (S.lD c3 c4) st.toks)
 |ne=>
  refine aH.cz e fun q ag e1 e=>?_
  refine lx (Dr hu e1 V W S:) fun c1 c2 c3 c4=>?_
  obtain⟨rfl,rfl⟩:=pi_inj e
  exact lf<|c2 _ _ E Q (K.now (S.lD c3 c4) st.toks)
 |is=>
  obtain⟨rfl,h1,rfl⟩:=l3 e V W
  exact lf<|is_none (by rw [h1];exact K.now S st.toks)
 |tI=>
  refine aH.cz e fun q ag e1 e=>?_
  obtain⟨rfl,rfl⟩:=pi_inj e
  obtain⟨rfl,h1,rfl⟩:=l3 e1 V W
  exact lf<|isNot_none (by rw [h1];exact K.now S st.toks)
 |oM=>exact Iu (Z:=Z) false e V W S (by simpa using K)
 |B8=>
  refine aH.cz e fun q ag e1 e=>?_
  obtain⟨rfl,rfl⟩:=pi_inj e
  exact Iu (Z:=Z) true e1 V W S (by simpa using K)
 |lt=>
  obtain⟨x,rfl,e⟩:=aV e
  obtain⟨y,rfl,e⟩:=aV e
  refine V.ed fun t=>?_
  refine W.ed fun u=>?_
  refine dz (dq (kind:=1) S.rg e:) fun c1 c2 c3=>?_
  have c1:decide (x.eval C.ν<y.eval C.ν)=r:=c1
  exact lf<|PyProof.Rows.lt_int (by rw [c1];exact K.now (S.lD c2 c3) st.toks)
 |gt=>
  obtain⟨x,rfl,e⟩:=aV e
  obtain⟨y,rfl,e⟩:=aV e
  refine V.ed fun t=>?_
  refine W.ed fun u=>?_
  refine dz (dq (kind:=1) S.rg e:) fun c1 c2 c3=>?_
  have c1:decide (y.eval C.ν<x.eval C.ν)=r:=c1
  exact lf<|PyProof.Rows.gt_int (by rw [c1];exact K.now (S.lD c2 c3) st.toks)
 |ge=>
  obtain⟨x,rfl,e⟩:=aV e
  obtain⟨y,rfl,e⟩:=aV e
  refine V.ed fun t=>?_
  refine W.ed fun u=>?_
  refine dz (dq (kind:=2) S.rg e:) fun c1 c2 c3=>?_
  have c1:decide (y.eval C.ν≤x.eval C.ν)=r:=c1
  exact lf<|PyProof.Rows.ge_int (by rw [c1];exact K.now (S.lD c2 c3) st.toks)
 |le=>exact N6 e V W S K
end
section
variable{ex:Expr}
theorem bz.units(R:bz A d):A.units<cLine:=by have:=R.2.2;lia
theorem iY{Q:Bool→Shared→Prop}(e:(truthy v s).leaf C.ν=some (r,s'))(V:ao C J M st.heap v rv)(S:aq C J M s st.heap)(K:KB C Z J M st r s' Q):ab (Md C) A (PySem.truthy rv) Q E st:=by
 cases v with
 |bool b=>
  cases V.inv;obtain⟨rfl,rfl⟩:=pi_inj e
  exact lf<|wpAny_truthy_bool (K.now S st.toks)
 |ref i=>
  refine aC (cJ e:) fun l el e=>?_
  obtain⟨hl,e⟩:=bu e
  refine V.listE S el fun a vs n ha ea Va=>?_
  obtain⟨rfl,rfl⟩:=pi_inj e
  have hlen:=Va.length
  refine lf<|wpAny_truthy_list (cB ea) (by rw [List.size_toArray,←hlen];lia) ?_
  cases l with
  |nil=>exact Va.nl▸K.now S _
  |cons _ _=>exact jP Va.un fun Y Y q Y Y=>q▸K.now S _
 |_=>exact no e
theorem Nd(H:fV C ih d){op:Op}{a b:CE}(e:(cq P N ih (.bin op a b) ρ s).leaf C.ν=some (v,s')){x2:Expr}(h1:aU C kd a x1)(h2:aU C kd b x2)(F:eZ C Z J M kd env ρ st.heap)(S:aq C J M s st.heap)(R:bz A d)(z:bZ C Z J st.heap)(K:KV C Z J M st v s' Q):
  ab (Md C) A (eval (.BinOp x1 (H6 op) x2 pos) env) Q E st:=by
 exact sb (BF H (op:=binop op) (t:=binaryOp (H6 op)) e h1 h2 F S R z K fun e V W S Y K=>Tv e V W S K)
theorem zo{r:aH (Bool×AS)}{neg:Bool}(e:(FI r neg).leaf ν=some (v,s')):∃b,r.leaf ν=some (b,s')∧v=.bool (b !=neg):=by
 unfold FI at e;refine aH.cz e fun b ag e1 e=>?_
 obtain⟨rfl,rfl⟩:=pi_inj e
 exact⟨b,e1,rfl⟩
theorem Nc(H:fV C ih d){op:Cm}{a b:CE}(e:(cq P N ih (.cmp op a b) ρ s).leaf C.ν=some (v,s')){x2:Expr}(h1:aU C kd a x1)(h2:aU C kd b x2)(h3:behindInMarks (mL op) x2=false)(F:eZ C Z J M kd env ρ st.heap)(S:aq C J M s st.heap)(R:bz A d)(z:bZ C Z J st.heap)(K:KV C Z J M st v s' Q):
  ab (Md C) A (eval (.Compare x1 [mL op] [x2] pos) env) Q E st:=by
  refine mU (BF H (op:=fun x y s=>FI (compare op x y s) false) (t:=compareOp (mL op)) e h1 h2 F S R z K fun{av bv ag rv rw J M st Q} e V W S _ K=>?_) h3
  obtain⟨r,e1,rfl⟩:=zo e
  exact Hr (Z:=Z) R.units e1 V W S fun σ' M' h' tk G S'=>K σ' M' h' tk _ G S' (by simpa using ao.bool r)
theorem MQ(H:fV C ih d){op:Cm}{a b:CE}{Q:Bool→Shared→Prop}{whole:Sem Value}{y:Expr}(e:(stepT ih (.cmp op a b) ρ s).leaf C.ν=some (r,s'))(h1:aU C kd a x)(h2:aU C kd b y)(h3:behindInMarks (mL op) y=false)(F:eZ C Z J M kd env ρ st.heap)(S:aq C J M s st.heap)(R:bz A d)(z:bZ C Z J st.heap)(K:KB C Z J M st r s' Q):
  ab (Md C) A (isTrue (.Compare x [mL op] [y] pos) env whole) Q E st:=by
 refine aH.cz e fun av ag e1 e=>?_
 refine aH.cz e fun bv aK e2 e=>?_
 refine iK ?_ h3
 refine H a ρ s av ag e1 kd x h1 Z J M env A st F S R z _ _ fun aA aN h₁ aS rv aF aD bV=>?_
 refine H b ρ ag bv aK e2 kd y h2 Z aA aN env A _ (F.grow aF) aD R (z.grow aF) _ _ fun cg dG bl bb rw aZ bN dN=>?_
 exact Hr (Z:=Z) (st:={st with heap:=bl,toks:=bb}) R.units e (bV.grow aZ) dN bN fun σ' M' h' tk G S'=>lf<|wpAny_truthy_bool (K σ' M' h' tk ((aF.trans aZ).trans G) S')
theorem uv{op jI:Cm}{b:AV}{c:AS→aH (AV×AS)}(e:(wL op jI a b s c).leaf C.ν=some (r,s')):∃q ag,(compare op a b s).leaf C.ν=some (q,ag)∧
  (match q with|false=>r=false∧s'=ag|true=>∃d aK,(c ag).leaf C.ν=some (d,aK)∧(compare jI b d aK).leaf C.ν=some (r,s')):=by
 unfold wL at e;refine aH.cz e fun q ag e1 e=>?_
 refine⟨q,ag,e1,?_⟩
 cases q with
 |false=>(obtain⟨rfl,rfl⟩:=pi_inj e);exact⟨rfl,rfl⟩
 |true=>
  refine aH.cz e fun d aK e2 e=>?_
  exact⟨d,aK,e2,e⟩
theorem EP(H:fV C ih d){op jI:Cm}{a b c:CE}{Q:Bool→Shared→Prop}{whole:Sem Value}{y w:Expr}(e:(stepT ih (.chain op a b jI c) ρ s).leaf C.ν=some (r,s'))(h1:aU C kd a x)(h2:aU C kd b y)(h3:aU C kd c w)(h4:lastMarks [mL op,mL jI] [y,w]=false)(F:eZ C Z J M kd env ρ st.heap)(S:aq C J M s st.heap)(R:bz A d)(z:bZ C Z J st.heap)(K:KB C Z J M st r s' Q):
  ab (Md C) A (isTrue (.Compare x [mL op,mL jI] [y,w] pos) env whole) Q E st:=by
 refine aH.cz e fun av ag e1 e=>?_
 refine aH.cz e fun bv aK e2 e=>?_
 refine d9 (uv e:) fun q bI e4 e5=>?_
 refine isTrue_chain ?_ h4
 refine H a ρ s av ag e1 kd x h1 Z J M env A st F S R z _ _ fun aA aN h₁ aS rv aF aD bV=>?_
 refine yI (H b ρ ag bv aK e2 kd y h2 Z aA aN env A _ (F.grow aF) aD R (z.grow aF) _ _ fun cg dG bl bb rw aZ bN dN=>?_)
 have P5:=aF.trans aZ
 refine Hr (Z:=Z) (st:={st with heap:=bl,toks:=bb}) R.units e4 (bV.grow aZ) dN bN fun ky rP dD gX c0 fk=>lf<|wpAny_truthy_bool ?_
 have Qz:=P5.trans c0
 cases q with
 |false=>
  obtain⟨rfl,rfl⟩:=e5
  exact K _ _ _ _ Qz fk
 |true=>
  refine d9 (e5:) fun dv kF e6 e7=>?_
  refine yJ (H c ρ bI dv kF e6 kd w h3 Z ky rP env A _ (F.grow Qz) fk R (z.grow Qz) _ _ fun lW uM iy fG rx dO lg Ea=>?_)
  exact Hr (Z:=Z) (st:={st with heap:=iy,toks:=fG}) R.units e7 ((dN.grow c0).grow dO) Ea lg fun σ' M' h' tk G S'=>lf<|wpAny_truthy_bool (K σ' M' h' tk ((Qz.trans dO).trans G) S')
theorem LY(H:fV C ih d)(pos:Pos){es:List CE}:∀{xs:List Expr}{s:AS}{J:List Addr}{M:Addr→Prop}{st:Shared}{Q:Value→Shared→Prop},(Dm ih es ρ s).leaf C.ν=some (v,s')→cP C kd es xs→eZ C Z J M kd env ρ st.heap→aq C J M s st.heap→bz A d→bZ C Z J st.heap→KV C Z J M st v s' Q→
  ab (Md C) A (eval (.BoolOp .And xs pos) env) Q E st:=by
 induction es with
 |nil=>exact fun e=>no e
 |cons a l CQ=>
  intro xs s J M st Q e hl F S R z K;refine hl.oI fun x xs h1 Y h4=>?_
  cases l with
  |nil=>exact h4.nl▸mW (H a ρ s v s' e kd _ h1 Z J M env A st F S R z _ _ K)
  |cons b r=>
   refine aH.cz e fun av ag e1 e=>aH.cz e fun q aK e2 e=>?_
   revert h4
   refine fun h4=>h4.oI fun x' sg h2 h3 h4=>u5 (H a ρ s av ag e1 kd _ h1 Z J M env A st F S R z _ _ fun aA aN h₁ aS rv aF aD bV=>?_)
   refine iY (Z:=Z) (st:={st with heap:=h₁,toks:=aS}) e2 bV aD fun cg dG bl bb aZ bN=>?_
   cases q with
   |true=>exact CQ (st:={st with heap:=bl,toks:=bb}) e (.cons h2 h3 h4) (F.grow (aF.trans aZ)) bN R (z.grow (aF.trans aZ)) (K.after (aF.trans aZ))
   |false=>exact K.of e _ _ _ _ _ (aF.trans aZ) bN (bV.grow aZ)
theorem Nx(H:fV C ih d)(pos:Pos){es:List CE}:∀{xs:List Expr}{s:AS}{J:List Addr}{M:Addr→Prop}{st:Shared}{Q:Value→Shared→Prop},(Lj ih es ρ s).leaf C.ν=some (v,s')→cP C kd es xs→eZ C Z J M kd env ρ st.heap→aq C J M s st.heap→bz A d→bZ C Z J st.heap→KV C Z J M st v s' Q→
  ab (Md C) A (eval (.BoolOp .Or xs pos) env) Q E st:=by
 induction es with
 |nil=>exact fun e=>no e
 |cons a l CQ=>
  intro xs s J M st Q e hl F S R z K;refine hl.oI fun x xs h1 Y h4=>?_
  cases l with
  |nil=>exact h4.nl▸mW (H a ρ s v s' e kd _ h1 Z J M env A st F S R z _ _ K)
  |cons b r=>
   refine aH.cz e fun av ag e1 e=>aH.cz e fun q aK e2 e=>?_
   revert h4
   refine fun h4=>h4.oI fun x' sg h2 h3 h4=>yO (H a ρ s av ag e1 kd _ h1 Z J M env A st F S R z _ _ fun aA aN h₁ aS rv aF aD bV=>?_)
   refine iY (Z:=Z) (st:={st with heap:=h₁,toks:=aS}) e2 bV aD fun cg dG bl bb aZ bN=>?_
   cases q with
   |false=>exact CQ (st:={st with heap:=bl,toks:=bb}) e (.cons h2 h3 h4) (F.grow (aF.trans aZ)) bN R (z.grow (aF.trans aZ)) (K.after (aF.trans aZ))
   |true=>exact K.of e _ _ _ _ _ (aF.trans aZ) bN (bV.grow aZ)
theorem EN(HT:uX C ih d)(pos:Pos)(whole:Sem Value){es:List CE}:∀{xs:List Expr}{s:AS}{r:Bool}{J:List Addr}{M:Addr→Prop}{st:Shared}{Q:Bool→Shared→Prop},(Bp ih es ρ s).leaf C.ν=some (r,s')→cP C kd es xs→eZ C Z J M kd env ρ st.heap→aq C J M s st.heap→bz A d→bZ C Z J st.heap→KB C Z J M st r s' Q→
  ab (Md C) A (isTrue (.BoolOp .And xs pos) env whole) Q E st:=by
 induction es with
 |nil=>intro xs s r J M st Q e hl F S R z K;exact hl.nl▸lf (isTrue_and_nil ((K.of e).now S st.toks))
 |cons a l CQ=>
  intro xs s r J M st Q e hl F S R z K;refine hl.oI fun x xs h1 Y h4=>aH.cz e fun q aK e2 e=>isTrue_and (HT a ρ s q aK e2 kd _ h1 Z J M env A st F S R z _ _ fun cg dG bl bb G bN=>?_)
  cases q with
  |true=>exact CQ (st:={st with heap:=bl,toks:=bb}) e h4 (F.grow G) bN R (z.grow G) (K.after G)
  |false=>exact K.of e _ _ _ _ G bN
theorem JI(HT:uX C ih d)(pos:Pos)(whole:Sem Value){es:List CE}:∀{xs:List Expr}{s:AS}{r:Bool}{J:List Addr}{M:Addr→Prop}{st:Shared}{Q:Bool→Shared→Prop},(JG ih es ρ s).leaf C.ν=some (r,s')→cP C kd es xs→eZ C Z J M kd env ρ st.heap→aq C J M s st.heap→bz A d→bZ C Z J st.heap→KB C Z J M st r s' Q→
  ab (Md C) A (isTrue (.BoolOp .Or xs pos) env whole) Q E st:=by
 induction es with
 |nil=>intro xs s r J M st Q e hl F S R z K;exact hl.nl▸lf (isTrue_or_nil ((K.of e).now S st.toks))
 |cons a l CQ=>
  intro xs s r J M st Q e hl F S R z K;refine hl.oI fun x xs h1 Y h4=>aH.cz e fun q aK e2 e=>isTrue_or (HT a ρ s q aK e2 kd _ h1 Z J M env A st F S R z _ _ fun cg dG bl bb G bN=>?_)
  cases q with
  |false=>exact CQ (st:={st with heap:=bl,toks:=bb}) e h4 (F.grow G) bN R (z.grow G) (K.after G)
  |true=>exact K.of e _ _ _ _ G bN
theorem M6(H:fV C ih d){a:CE}(e:(cq P N ih (.neg a) ρ s).leaf C.ν=some (v,s'))(h1:aU C kd a x1)(F:eZ C Z J M kd env ρ st.heap)(S:aq C J M s st.heap)(R:bz A d)(z:bZ C Z J st.heap)(K:KV C Z J M st v s' Q):
  ab (Md C) A (eval (.UnaryOp .USub x1 pos) env) Q E st:=by
  refine aH.cz e fun av ag e1 e=>?_
  refine oS (H a ρ s av ag e1 kd _ h1 Z J M env A st F S R z _ _ fun aA aN h₁ aS rv aF aD bV=>?_)
  obtain⟨x,rfl,e⟩:=aV e
  obtain⟨rfl,rfl⟩:=pi_inj e
  refine bV.ed fun t=>?_
  exact lf<|PySem.P.neg_int (K _ _ _ _ _ aF aD (.int _ _ _ (by rw [ka];exact Int.zero_sub _)))
end
theorem lY(h1:j<n):seqIndex? (j:Int) n=some j:=by
 unfold seqIndex?;rw [if_neg (Int.not_lt.mpr (Int.natCast_nonneg j)),if_pos (by rw [Bool.and_eq_true,decide_eq_true_eq,decide_eq_true_eq];exact⟨Int.natCast_nonneg j,Int.ofNat_lt.mpr h1⟩)]
 rfl
theorem seqIndex_of{i:Int}(h0:0≤i)(h1:i<n):seqIndex? i n=some i.toNat:=dm (Int.eq_ofNat_of_zero_le h0:) fun k e=>by subst e;exact lY (Int.ofNat_lt.mp h1)
structure yB(n:Nat)(i:Int)(k:Nat):Prop where
 s:seqIndex? i n=some k
 lo: -(n:Int)≤i
 hi:i<n
 lt:k<n
 nn:0≤i→i.toNat=k
 ng:i<0→(i+n).toNat=k
theorem KN(h:j<n):yB n (j:Int) j:=⟨lY h,Int.le_trans (Int.neg_nonpos_of_nonneg (Int.natCast_nonneg n)) (Int.natCast_nonneg j),Int.ofNat_lt.mpr h,h,fun Y=>Int.toNat_natCast j,fun q=>absurd q (Int.not_lt.mpr (Int.natCast_nonneg j))⟩
theorem w6(h:j+1≤n):Int.negSucc j+(n:Int)=((n - (j+1):Nat):Int):=Int.subNatNat_of_le h
theorem Ca(h:j+1≤n):n - (j+1)<n:=Nat.sub_lt (Nat.lt_of_lt_of_le (Nat.succ_pos j) h) (Nat.succ_pos j)
theorem sG(h:j+1≤n):seqIndex? (Int.negSucc j) n=some (n - (j+1)):=by
 unfold seqIndex?;rw [if_pos (Int.negSucc_lt_zero j)];show(if _ then some (Int.negSucc j+(n:Int)).toNat else none)=_;rw [w6 h,if_pos (by rw [Bool.and_eq_true,decide_eq_true_eq,decide_eq_true_eq];exact⟨Int.natCast_nonneg _,Int.ofNat_lt.mpr (Ca h)⟩)]
 rfl
theorem KO(h:j+1≤n):yB n (Int.negSucc j) (n - (j+1)):=⟨sG h,Int.neg_le_neg (Int.ofNat_le.mpr h),Int.lt_of_lt_of_le (Int.negSucc_lt_zero j) (Int.natCast_nonneg n),Ca h,fun q=>absurd (Int.negSucc_lt_zero j) (Int.not_lt.mpr q),fun Y=>by rw [w6 h];rfl⟩
theorem tP{i:Int}(h:index n i=some k):yB n i k:=by
 cases i with
 |ofNat j=>
  unfold index at h
  dsimp only at h
  cases q:Nat.blt j n with
  |true=>rw [q]at h;injection h with h;subst h;exact KN (nJ.mp q)
  |false=>rw [q]at h;injection h
 |negSucc j=>
  unfold index at h
  dsimp only at h
  cases q:Nat.ble (j+1) n with
  |true=>rw [q]at h;injection h with h;subst h;exact KO (al_ble q)
  |false=>rw [q]at h;injection h
theorem gJ{l:List α}{i:IE}{x:α}(R:bX ν s.rg)(e:(getIdx l i s).leaf ν=some (x,s')):l.length≤100000∧SameBut s s'∧bX ν s'.rg∧∃k,l[k]?=some x∧yB l.length (i.eval ν) k:=by
 refine aw (bu e:) fun hl e=>?_
 refine aH.cz e fun j ag e1 e=>?_
 refine dz (eR 40 R e1:) fun c1 c2 c3=>?_
 refine aC (aI e:) fun k hk e=>?_
 refine aC (aI e:) fun y hx e=>?_
 obtain⟨rfl,rfl⟩:=pi_inj e
 exact⟨hl,c2,c3,k,hx,c1▸tP hk⟩
theorem Br(x:Int):(max 0 x).toNat=x.toNat:=by
 cases x with
 |ofNat k=>exact congrArg Int.toNat (Int.max_eq_right (Int.natCast_nonneg k))
 |negSucc k=>exact(congrArg Int.toNat (Int.max_eq_left (Int.le_of_lt (Int.negSucc_lt_zero k)))).trans rfl
theorem oB(n:Nat)(i:Int):clamp n i=clipAt n i:=by
 cases i with
 |ofNat k=>
  unfold clipAt;rw [if_neg (show¬Int.ofNat k<0 from Int.not_lt.mpr (Int.natCast_nonneg k))]
  refine Eq.trans ?_ (Br _).symm
  show min k n=(min (k:Int) n).toNat;refine(Nat.le_total k n).elim (fun q=>?_) fun q=>?_
  ·rw [Nat.min_eq_left q,Int.min_eq_left (Int.ofNat_le.mpr q)];rfl
  ·rw [Nat.min_eq_right q,Int.min_eq_right (Int.ofNat_le.mpr q)];rfl
 |negSucc k=>
  unfold clipAt;rw [if_pos (Int.negSucc_lt_zero k)];refine Eq.trans ?_ (Br _).symm;rw [Int.min_eq_left (Int.le_trans (Int.add_le_add_right (Int.le_of_lt (Int.negSucc_lt_zero k)) n) (Int.le_of_eq (Int.zero_add _))),Int.add_comm];exact(Int.toNat_sub n (k+1)).symm
theorem qq(n:Nat)(i:Int):clipAt n i≤n:=oB n i▸(by cases i with|ofNat k=>exact Nat.min_le_right _ _|negSucc k=>exact Nat.sub_le _ _)
section
variable{ex:Expr}
theorem ay.get(V:ay C J M h l vs){x:AV}(e:l[k]?=some x):∃y,vs[k]?=some y∧ao C J M h x y:=
 V.ind (P:=fun l vs=>∀k x,l[k]?=some x→∃y,vs[k]?=some y∧ao C J M h x y) (fun Y Y e=>Mine.Internal.no e) (fun Y v Y Y x Y ih k=>Nat.casesOn k (fun Y e=>⟨v,rfl,al_inj e▸x⟩) fun k y e=>ih k y e) k x e
theorem ay.drop(k:Nat)(V:ay C J M h l vs):ay C J M h (l.drop k) (vs.drop k):=
 V.ind (P:=fun l vs=>∀k,ay C J M h (l.drop k) (vs.drop k)) (fun k=>by rw [List.drop_nil,List.drop_nil];exact .nil) (fun Y Y Y Y x r ih k=>Nat.casesOn k (.cons x r) ih) k
theorem ay.take(k:Nat)(V:ay C J M h l vs):ay C J M h (l.take k) (vs.take k):=
 V.ind (P:=fun l vs=>∀k,ay C J M h (l.take k) (vs.take k)) (fun k=>by rw [List.take_nil,List.take_nil];exact .nil) (fun Y Y Y Y x r ih k=>Nat.casesOn k .nil fun k=>.cons x (ih k)) k
theorem ay.cut(a b:Nat)(V:ay C J M h l vs):ay C J M h ((l.drop a).take b) ((vs.drop a).take b):=(V.drop a).take b
theorem m9(slice:Expr)(o i:Value):subscripted slice false o i=operate [i,o] (getItem o i)∨subscripted slice false o i=operate [o,i] (getItem o i):=by
 cases slice with
 |Slice l u s p=>cases s<;>first|exact .inl rfl|exact .inr rfl
 |_=>exact .inr rfl
theorem dP{T id:String}{slice:Expr}{o i:Value}(hT:st.TypeIs o T)(hl:typeLookup (.type T) "__getitem__"=pure (some (.builtin id)))(h:ab (Md C) A (getItem o i) Q E st):ab (Md C) A (subscriptTail value slice o i) Q E st:=by
 unfold subscriptTail;refine aa ?_;rw [getitemInPython_of_ne hT.not_modules];refine aa (lf<|wpAny_specialOf hT hl ?_);have fin:ab (Md C) A (subscripted slice false o i) (fun r bI=>ab (Md C) A (letTemporaryGo value o r>>=fun Y=>pure r) Q E bI) E st:=by
  have h':=aG h (fun r bI dD=>aa (lf<|wpAny_letTemporaryGo (prog:=C.prog) (w:=C.w) (E:=E) (base:=value) (o:=o) (r:=r) (Q:=fun Y s=>ab (Md C) A (pure r) Q E s) (af dD))) fun Y Y x=>x
  exact(m9 slice o i).elim (fun q=>q▸cm h') fun q=>q▸cm h'
 exact af (aa fin)
theorem uj{l:List IE}:∀{vs:List Int},constsOf l=some vs→∀(k:Nat)(x:IE),l[k]?=some x→vs[k]?=some (x.eval ν):=by
 induction l with
 |nil=>exact fun Y Y Y e=>no e
 |cons a l ih=>
  intro vs e k x h;refine aC (aL e:) fun i q e=>?_
  cases q':constsOf l with
  |none=>rw [q']at e;injection e
  |some ws=>
   rw [q']at e;injection e with e;subst e;cases k with
   |zero=>(injection h with h;subst h);exact congrArg some (gT ν q).symm
   |succ k=>exact ih q' k x h
theorem tV{l:List IE}{i:Int}{t u:Tok}{x:IE}(B:bk C.ν l)(hl:l.length≤100000)(h1:seqIndex? i l.length=some k)(h2:l[k]?=some x)(h3: -(l.length:Int)≤i)(h4:i<l.length)
  (K:∀t',Q (.int (x.eval C.ν) t') {st with toks:=st.toks+1}):ab (Md C) A (getItem (.bytes (aQ C.ν l) t) (.int i u)) Q E st:=by
 have hx:(aQ C.ν l)[k]?=some (cj C.ν x):=by
  unfold aQ;rw [List.getElem?_toArray,List.getElem?_map,h2];rfl
 refine lf<|getItem_gives (typeIs_bytes st _ t) (by decide) FB.slot_bytes_getitem FB.entry_bytes_getitem (FB.args_bytes_getitem_2 _ _) (gives_bytes_getitem _ i t u (cj C.ν x) ?_ ?_) ?_
 ·simp only[Builtin.Bytes.fitsIndex,Bool.and_eq_true,decide_eq_true_eq];lia
 ·rw [cw,h1];exact hx
 ·have hb:=B x (al_mem h2)
  have:(((cj C.ν x).toNat:Nat):Int)=x.eval C.ν:=by
   unfold cj;rw [UInt8.toNat_ofNat',Nat.mod_eq_of_lt ((Int.toNat_lt hb.1).mpr hb.2)];exact Int.toNat_of_nonneg hb.1
  show Q (.int ((cj C.ν x).toNat:Nat) st.toks) {st with toks:=st.toks+1}
  rw [this];exact K _
section
variable{slice:Expr}{rw:Value}
theorem AI{i:IE}(e:(getIdx l i s).leaf C.ν=some (v,s'))(V:ao C J M st.heap (.t l) rv)(W:ao C J M st.heap (.int i) rw)(S:aq C J M s st.heap)(K:KV C Z J M st v s' Q):ab (Md C) A (subscriptTail value slice rv rw) Q E st:=by
 refine V.kD fun a vs n ha ea Va=>?_
 refine W.ed fun u=>?_
 obtain⟨hl,c2,c3,k,d2,I⟩:=gJ S.rg e
 refine aC (Va.get d2:) fun y hy Vy=>?_
 rw [Va.length]at hl I;exact dP ⟨_,ea,rfl⟩ F.slot_tuple_getitem.lookup (lf<|PySem.P.getItem_tuple (t:=a) (items:=vs.toArray) (n:=n) ea (by have:=I.lo;lia) (by have:=I.hi;lia) (by rw [List.size_toArray];exact I.s) (by simpa using hy) (K.now (S.lD c2 c3) Vy st.toks))
theorem AK{l:List Nat}{i:IE}(e:((getIdx l i s).bind fun(x,s)=>aH.ok (AV.str [x],s)).leaf C.ν=some (v,s'))(V:ao C J M st.heap (.str l) rv)(W:ao C J M st.heap (.int i) rw)(S:aq C J M s st.heap)(K:KV C Z J M st v s' Q):ab (Md C) A (subscriptTail value slice rv rw) Q E st:=by
 refine V.gB fun t=>?_
 refine W.ed fun u=>?_
 refine aH.cz e fun x ag e1 e=>?_
 obtain⟨hl,c2,c3,k,d2,I⟩:=gJ S.rg e1
 obtain⟨rfl,rfl⟩:=pi_inj e
 have hlen:(aP l).length=l.length:=by simp[aP,Str.length]
 exact dP (typeIs_str st _ t) F.slot_str_getitem.lookup (lf<|PySem.P.getItem_str (c:=x) (by rw [Bool.or_eq_false_iff];constructor<;>(apply decide_eq_false;have:=I.lo;have:=I.hi;lia)) (by rw [hlen,I.s];simpa[aP]using d2) (K.now (S.lD c2 c3) (.str [x] _) _))
theorem zA{l:List IE}{i:IE}(e:(CK l i s).leaf C.ν=some (v,s'))(V:ao C J M st.heap (.bytes l) rv)(W:ao C J M st.heap (.int i) rw)(S:aq C J M s st.heap)(K:KV C Z J M st v s' Q):ab (Md C) A (subscriptTail value slice rv rw) Q E st:=by
 refine V.dY fun B t=>?_
 refine W.ed fun u=>?_
 refine aH.cz e fun x ag e1 e=>?_
 obtain⟨hl,c2,c3,k,d2,I⟩:=gJ S.rg e1
 obtain⟨rfl,rfl⟩:=pi_inj e
 exact dP (typeIs_bytes st _ t) FB.slot_bytes_getitem.lookup (tV B hl I.s d2 I.lo I.hi fun t'=>K.now (S.lD c2 c3) (.int _ _ _ rfl) _)
theorem AJ{l:List IE}{i:IE}{r:RV}(q:tH l i s=some r)(e:r.leaf C.ν=some (v,s'))(V:ao C J M st.heap (.bytes l) rv)(W:ao C J M st.heap (.int i) rw)(S:aq C J M s st.heap)(K:KV C Z J M st v s' Q):ab (Md C) A (subscriptTail value slice rv rw) Q E st:=by
 refine V.dY fun B t=>?_
 refine W.ed fun u=>?_
 unfold tH at q;cases q0:gE i with
 |some j=>rw [q0]at q;injection q
 |none=>
  rw [q0]at q;refine aC (aL q:) fun p q1 q=>?_
  refine aC (aL q:) fun vs q2 q=>?_
  refine aw (aB q:) fun hb q=>?_
  injection q with q;subst q;refine aw (bu e:) fun hl e=>?_
  obtain⟨rfl,rfl⟩:=pi_inj e
  refine aw (dw S.rg q1:) fun v1 v2=>?_
  have b1:=Int.le_trans (bE.mp (ae (ae hb).2).1) v1
  have b2:=Int.lt_of_le_of_lt v2 (bp.mp (ae (ae hb).2).2)
  have hx:=List.getElem?_eq_getElem ((Int.toNat_lt b1).mpr b2)
  refine dP (typeIs_bytes st _ t) FB.slot_bytes_getitem.lookup (tV B hl (seqIndex_of b1 b2) hx (Int.le_trans (Int.neg_nonpos_of_nonneg (Int.natCast_nonneg _)) b1) b2 fun t'=>K.now S (.int _ _ _ ?_) _)
  show vs.getD (i.eval C.ν).toNat 0=_;rw [List.getD_eq_getElem?_getD,uj q2 _ _ hx];rfl
theorem CJ{l:List (List Nat×AV)}{k:List Nat}(q:gw l k=some v)(V:ao C J M st.heap (.dW l) rv)(W:ao C J M st.heap (.str k) rw)(S:aq C J M s st.heap)(K:KV C Z J M st v s Q):ab (Md C) A (subscriptTail value slice rv rw) Q E st:=by
 refine V.wz fun a es n ha hs ea Ra=>?_
 refine W.gB fun t=>?_
 have hf:=Ra.find k
 rw [q]at hf;refine aC (hf:) fun en h1 h2=>?_
 have hm:=rG ea Ra
 exact dP hm.typeIs slot_dict_getitem.lookup (lf<|wpAny_getItem_of (strKind_is _ _ _ _) hm (v:=en.val) (by rw [h1];rfl) (K.now S h2 _))
theorem yM{r:Nat}{i:IE}(el:s.get r=some (.list l))(e:(getIdx l i s).leaf C.ν=some (v,s'))(V:ao C J M st.heap (.ref r) rv)(W:ao C J M st.heap (.int i) rw)(S:aq C J M s st.heap)(K:KV C Z J M st v s' Q):ab (Md C) A (subscriptTail value slice rv rw) Q E st:=by
 refine V.listE S el fun a vs n ha ea Va=>?_
 refine W.ed fun u=>?_
 obtain⟨hl,c2,c3,k,d2,I⟩:=gJ S.rg e
 refine aC (Va.get d2:) fun y hy Vy=>?_
 rw [Va.length]at hl I;have KK:=K.now (S.lD c2 c3) Vy st.toks
 refine dP ⟨_,ea,rfl⟩ slot_list_getitem.lookup ?_
 by_cases h0:0≤i.eval C.ν
 ·exact lf<|wpAny_getItem_list (cB ea) h0 (by have:=I.hi;lia) (by rw [I.nn h0];simpa using hy) KK
 ·refine lf<|wpAny_getItem_list_neg (cB ea) (by lia) (by rw [List.size_toArray];have:=I.lo;lia) (by have:=I.lo;lia) ?_ KK
  rw [List.size_toArray,I.ng (by lia)];simpa using hy
end
theorem FW{i:AV}{slice:Expr}{rw:Value}(e:(item a i s).leaf C.ν=some (v,s'))(V:ao C J M st.heap a rv)(W:ao C J M st.heap i rw)(S:aq C J M s st.heap)(K:KV C Z J M st v s' Q):ab (Md C) A (subscriptTail value slice rv rw) Q E st:=by
 cases a with
 |t l=>
  obtain⟨x,rfl,e⟩:=aV e
  exact AI e V W S K
 |str l=>
  obtain⟨x,rfl,e⟩:=aV e
  exact AK e V W S K
 |bytes l=>
  obtain⟨x,rfl,e⟩:=aV e
  have e:(match tH l x s with|some r=>r|none=>CK l x s).leaf C.ν=some (v,s'):=e
  cases q:tH l x s with
  |none=>rw [q]at e;exact zA e V W S K
  |some r=>rw [q]at e;exact AJ q e V W S K
 |dW l=>
  obtain⟨k,rfl,e⟩:=dk e
  refine aC (aI e:) fun w q e=>?_
  obtain⟨rfl,rfl⟩:=pi_inj e
  exact CJ q V W S K
 |ref r=>
  obtain⟨x,rfl,e⟩:=aV e
  refine aC (cJ e:) fun l el e=>?_
  exact yM el e V W S K
 |_=>exact no e
theorem M9(H:fV C ih d){a b:CE}(e:(cq P N ih (.idx a b) ρ s).leaf C.ν=some (v,s')){y:Expr}(h1:aU C kd a x)(h2:aU C kd b y)(F:eZ C Z J M kd env ρ st.heap)(S:aq C J M s st.heap)(R:bz A d)(z:bZ C Z J st.heap)(K:KV C Z J M st v s' Q):
  ab (Md C) A (eval (.Subscript x y pos) env) Q E st:=by
 exact jU (BF H (op:=item) (t:=subscriptTail x y) e h1 h2 F S R z K fun e V W S Y K=>FW e V W S K)
end
theorem i6(lo hi:Option Int)(n:Nat):Builtin.Str.strSliceIndices lo hi 1 n=(List.range (hi.elim n (clipAt n) - lo.elim 0 (clipAt n))).map (lo.elim 0 (clipAt n)+·):=by
 have h:Builtin.Str.strSliceIndices lo hi 1 n=sliceRange (sliceBounds lo hi none n).1 (sliceBounds lo hi none n).2.1 1:=by
  cases lo<;>cases hi<;>simp[Builtin.Str.strSliceIndices,sliceBounds]
 rw [h,sliceBounds_plain,sliceRange_one]
theorem uu(v:Int)(n:Nat):(if v<0 then max (v+(n:Int)) 0 else min v (n:Int))=((clipAt n v:Nat):Int):=by
 rw [clipAt_cast];refine(Decidable.em (v<0)).elim (fun c=>?_) fun c=>?_
 ·rw [if_pos c,if_pos c,Int.min_eq_left (Int.le_trans (Int.add_le_add_right (Int.le_of_lt c) n) (Int.le_of_eq (Int.zero_add _))),Int.max_comm]
 ·rw [if_neg c,if_neg c,Int.max_eq_right (Int.le_min.mpr ⟨Int.not_lt.mp c,Int.natCast_nonneg n⟩)]
theorem Ar(lo hi:Option Int)(n:Nat):Builtin.Slice.sliceAdjust lo hi 1 (n:Int)=(((lo.elim 0 (clipAt n):Nat):Int),((hi.elim n (clipAt n):Nat):Int)):=by
 unfold Builtin.Slice.sliceAdjust;have h1:¬((1:Int)<0):=by decide
 simp only[h1,if_false]
 refine Prod.ext ?_ ?_
 ·cases lo with
  |none=>rfl
  |some v=>exact uu v n
 ·cases hi with
  |none=>rfl
  |some v=>exact uu v n
set_option tactic.hygienic true in
theorem zc(a b:Nat):Builtin.Slice.slicePlaces (a:Int) (b:Int) 1=b - a:=by
 unfold Builtin.Slice.slicePlaces;rw [if_pos (by decide)]
 split
 ·rename_i c
  rw [Int.ediv_one];show((b:Int) - a - 1+1).toNat=_;rw [Int.sub_add_cancel,Int.toNat_sub]
 ·rename_i c
  exact(Nat.sub_eq_zero_of_le (Int.ofNat_le.mp (Int.not_lt.mp c))).symm
noncomputable def cu(l:List α)(lo hi:Option Int):List α:=(l.drop (lo.elim 0 (clipAt l.length))).take (hi.elim l.length (clipAt l.length) - lo.elim 0 (clipAt l.length))
theorem pQ(l:List α)(lo hi:Option Int):(cu l lo hi).length≤l.length:=by
 exact((List.take_sublist _ _).trans (List.drop_sublist _ _)).length_le
theorem sP(l:List α)(lo hi:Option Int)(h:(cu l lo hi).length=l.length):cu l lo hi=l:=by
 unfold cu at h⊢;rw [List.length_take,List.length_drop]at h;cases l with
 |nil=>rw [List.drop_nil,List.take_nil]
 |cons x r=>
  have h0:lo.elim 0 (clipAt (x::r).length)=0:=by
   generalize lo.elim 0 (clipAt (x::r).length)=a at h
   cases a with
   |zero=>rfl
   |succ a=>exact absurd (Nat.le_trans (Nat.le_of_eq h.symm) (Nat.min_le_right _ _)) (Nat.not_le.mpr (Nat.sub_lt (Nat.succ_pos r.length) (Nat.succ_pos a)))
  rw [h0]at h⊢;rw [List.drop_zero,List.take_of_length_le (Nat.le_trans (Nat.le_of_eq h.symm) (Nat.min_le_left _ _))]
section
variable{ex:Expr}
noncomputable def lb(C:Cx)(J:List Addr)(M:Addr→Prop)(h:Heap):Option AV→Value→Prop
 |none,rv=>rv=.none
 |some v,rv=>ao C J M h v rv
theorem kg{dd:Nat}(R:bX C.ν s.rg)(e:(bound dd n (some v) s).leaf C.ν=some (k,s'))(V:ao C J M h v rv):∃j,IsPart rv (some j)∧k=clipAt n j∧SameBut s s'∧bX C.ν s'.rg:=by
 obtain⟨y,rfl,e⟩:=aV e
 refine aH.cz e fun j ag e1 e=>?_
 refine dz (eR 40 R e1:) fun c1 c2 c3=>?_
 obtain⟨rfl,rfl⟩:=pi_inj e
 refine V.ed fun t=>?_
 exact⟨j,by rw [c1];exact .int _ _,oB _ _,c2,c3⟩
theorem oD{dd:Nat}{x:Option AV}(R:bX C.ν s.rg)(e:(bound dd n x s).leaf C.ν=some (k,s'))(V:lb C J M h x rv):∃lo,IsPart rv lo∧k=lo.elim dd (clipAt n)∧SameBut s s'∧bX C.ν s'.rg:=by
 cases x with
 |none=>
  obtain⟨rfl,rfl⟩:=pi_inj e
  have V:rv=.none:=V
  subst V;exact⟨none,.none,rfl,.refl _,R⟩
 |some v=>
  refine lu (kg R e V:) fun j h1 h2 h3=>?_
  exact⟨some j,h1,h2,h3⟩
theorem eD{l:List α}{x y:Option AV}{rw:Value}{r:List α}(R:bX C.ν s.rg)(e:(sliceOf l x y s).leaf C.ν=some (r,s'))(V:lb C J M h x rv)(W:lb C J M h y rw):
  l.length≤100000∧∃lo hi,IsPart rv lo∧IsPart rw hi∧r=cu l lo hi∧SameBut s s'∧bX C.ν s'.rg:=by
 unfold sliceOf at e;refine aw (bu e:) fun hl e=>?_
 refine aH.cz e fun a ag e1 e=>?_
 refine aH.cz e fun b aK e2 e=>?_
 obtain⟨lo,p1,rfl,c2,c3⟩:=oD R e1 V
 obtain⟨hi,p2,rfl,d2,d3⟩:=oD c3 e2 W
 obtain⟨rfl,rfl⟩:=pi_inj e
 refine⟨hl,lo,hi,p1,p2,?_,c2.trans d2,d3⟩
 unfold cut cu;rw [List.drop_take]
theorem mh{sl:Addr}{vl vu:Value}{lo:Option Int}{Q:Int×Int×Nat→Shared→Prop}(hs:st.heap.IsSliceOf sl vl vu .none)(pl:IsPart vl lo)(pu:IsPart vu hi)(h:Q (((lo.elim 0 (clipAt n):Nat):Int),1,hi.elim n (clipAt n) - lo.elim 0 (clipAt n)) st):
  ab (Md C) A (Builtin.Slice.sliceApplied (.ref sl) (pure (n:Int))) Q E st:=by
 refine lu (id hs:) fun os hos hcs hds=>?_
 unfold Builtin.Slice.sliceApplied Builtin.Slice.sliceFields;refine aa (aa (lf<|wpAny_field hos hds (x:=vl) rfl (aa (lf<|wpAny_field hos hds (x:=vu) rfl (aa (lf<|wpAny_field hos hds (x:=.none) rfl (af ?_)))))))
 refine aa (lf<|slicePart_none ?_)
 show ab _ _ (if((1:Int)==0)=true then _ else _) _ _ st;rw [if_neg (by decide)]
 have sp:∀{v:Value}{k:Option Int}{Q:Option Int→Shared→Prop},IsPart v k→Q k st→ab (Md C) A (Builtin.Slice.slicePartIndex v) Q E st:=fun p q=>by
  cases p with
  |none=>exact lf<|slicePart_none q
  |int i t=>exact lf<|slicePart_int q
 refine aa (sp pl (aa (sp pu (aa (af ?_)))))
 show ab _ _ (match Builtin.Slice.sliceAdjust lo hi 1 (n:Int)with|(lo,hi)=>pure (lo,(1:Int),Builtin.Slice.slicePlaces lo hi 1)) _ _ st
 rw [Ar];show ab _ _ (pure (((lo.elim 0 (clipAt n):Nat):Int),(1:Int),Builtin.Slice.slicePlaces ((lo.elim 0 (clipAt n):Nat):Int) ((hi.elim n (clipAt n):Nat):Int) 1)) _ _ st;rw [zc];exact af h
theorem Fp(xs:List Value)(a k:Nat):((List.range k).filterMap fun(j:Nat)=>xs.toArray[((a:Int)+(j:Int)*1).toNat]?).toArray=((xs.drop a).take k).toArray:=by
 have e:(fun(j:Nat)=>xs.toArray[((a:Int)+(j:Int)*1).toNat]?)=fun j=>xs.toArray[a+j]?:=by
  funext j
  have:((a:Int)+(j:Int)*1).toNat=a+j:=by lia
  rw [this]
 rw [e];have:=pick_run xs.toArray a k
 rw [List.filterMap_map]at this;have e2:((fun x=>xs.toArray[x]?)∘fun x=>a+x)=fun k=>xs.toArray[a+k]?:=rfl
 rw [e2]at this;rw [this]
theorem jK{t sl:Addr}{vl vu:Value}{lo:Option Int}(ht:IsTup st.heap t vs.toArray)(hs:st.heap.IsSliceOf sl vl vu .none)(pl:IsPart vl lo)(pu:IsPart vu hi)(hz:vs.length≤100000)
  (h0:(cu vs lo hi)=vs→Q (.ref t) st)(h:Q (.ref st.heap.objs.size) {st with heap:=st.heap.push (fw (cu vs lo hi) 0)}):ab (Md C) A (getItem (.ref t) (.ref sl)) Q E st:=by
 have hdrop:sizeOk (.seq (cu vs lo hi).toArray):=by
  show(cu vs lo hi).toArray.size≤sizeLine;rw [List.size_toArray];exact Nat.le_trans (pQ _ _ _) (bJ hz)
 refine lu (id hs:) fun os hos hcs hds=>?_
 have WE:st.TypeIs (.ref sl) "slice":=⟨os,hos,hcs⟩
 unfold getItem
 try with_reducible refine aj ?_
 first|refine aa (af ?_)|skip
 refine aa (lf<|wpAny_sequenceKey ht.typeIs (by decide) ?_)
 refine aa (bq (name:=Str.ofString "__getitem__") ht.typeIs slot_tuple_getitem
  (bW slot_tuple_getitem ht.typeIs entry_tuple_getitem ?_ (args_tuple_getitem _ _)))
 show ab _ _ (Builtin.Tuple.tupleItemsOf (.ref t)>>=_) _ _ st;refine aa (lf<|tupleItemsOf_ ht ?_);refine aa (lf<|wpAny_typeOf WE ?_);rw [if_pos (by decide)]
 refine aa (mh (n:=vs.toArray.size) hs pl pu ?_)
 have hn:vs.toArray.size=vs.length:=by simp
 rw [hn]
 generalize ha:lo.elim 0 (clipAt vs.length)=a
 generalize hb:hi.elim vs.length (clipAt vs.length)=b
 have hp:cu vs lo hi=(vs.drop a).take (b - a):=by unfold cu;rw [ha,hb]
 show ab _ _ (if((a:Int)==0&&(1:Int)==1&&(b - a)==vs.toArray.size)=true then _ else _) _ _ st;rw [Fp vs a (b - a),←hp]
 by_cases hw:((a:Int)==0&&(1:Int)==1&&(b - a)==vs.toArray.size)=true
 ·rw [if_pos hw]
  simp only[Bool.and_eq_true,beq_iff_eq]at hw
  obtain⟨⟨w1,_⟩,w2⟩:=hw
  have Wj:ab (Md C) A.in1 (Builtin.Tuple.tupleIsExact (.ref t)) (fun r s'=>r=true∧s'=st) (fun Y Y=>False) st:=by
   unfold Builtin.Tuple.tupleIsExact;exact aa (lf<|wpAny_typeOf ht.typeIs (af ⟨by decide,rfl⟩))
  refine aa (aG Wj (fun r s' hr=>?_) fun Y Y x=>x.elim)
  obtain⟨rfl,rfl⟩:=hr
  refine aa (cX ?_)
  refine af ⟨_,rfl,af (h0 ?_)⟩
  have:a=0:=by lia
  subst this;rw [hp,List.drop_zero,List.take_of_length_le (by lia)]
 ·rw [if_neg hw]
  first
   |exact aa (m:=Builtin.Tuple.tupleExact _) (lf<|wpAny_newObj_type (af ⟨_,rfl,af h⟩) hdrop)
   |exact aa (m:=Builtin.Tuple.tupleExact _) (lf<|wpAny_newObj_type (aa (af (af ⟨_,rfl,af h⟩))) hdrop)
   |exact aa (aa (m:=Builtin.Tuple.tupleExact _) (lf<|wpAny_newObj_type (af (af ⟨_,rfl,af h⟩)) hdrop))
   |exact aa (aa (m:=Builtin.Tuple.tupleExact _) (lf<|wpAny_newObj_type (af ⟨_,rfl,af h⟩) hdrop))
end
section
variable{ex:Expr}
theorem gj{rvs:List Value}{a:Addr}(e:(newList s l).leaf C.ν=some (v,s'))(S:aq C J M s st.heap)(V:ay C J M st.heap l rvs)(K:KV C Z J M st v s' Q)(tk:Tok)
  (hk:∀b o,st.heap.get? b=some o→h'.get? b=some o)(ha:st.heap.get? a=none)(hg:h'.get? a=some (bS rvs n)):Q (.ref a) {st with heap:=h',toks:=tk}:=by
 unfold newList at e;refine aw (bu e:) fun hl e=>?_
 refine aH.cz e fun i ag e1 e=>?_
 obtain⟨rfl,rfl⟩:=pi_inj e
 obtain⟨hb,rfl,rfl⟩:=eS e1
 have G:aJ Z J M st.heap (J++[a]) (fun b=>M b∨b=a) h':=
  ⟨⟨[a],rfl,fun b m=>by rw [List.mem_singleton]at m;rw [m];exact ha⟩,⟨fun b o e=>⟨o,hk _ _ e⟩,fun b o Y e=>hk _ _ e⟩,fun Y x=>.inl x,fun b x=>x.elim .inl fun q=>.inr (q▸ha)⟩
 refine dz (S.alloc (Z:=Z) hb hk ha (.list l) (.list l _ rvs n hg (V.grow G)):) fun S' G' he=>?_
 exact K _ _ _ tk _ G' S' (.ref _ _ he)
theorem lZ(e:(newList s l).leaf ν=some (v,s')):l.length≤100000:=by
 unfold newList at e;exact(bu e).1
theorem nI{l:List IE}{a:Addr}(e:(s.alloc (.cb l)).leaf C.ν=some (i,s'))(B:bk C.ν l)(S:aq C J M s st.heap)(K:KV C Z J M st (.ref i) s' Q)(tk:Tok)
  (hk:∀b o,st.heap.get? b=some o→h'.get? b=some o)(ha:st.heap.get? a=none)(hg:h'.get? a=some (cR (aQ C.ν l))):Q (.ref a) {st with heap:=h',toks:=tk}:=by
 obtain⟨hb,rfl,rfl⟩:=eS e
 refine dz (S.alloc (Z:=Z) hb hk ha (.cb l) (.cb l _ hg B):) fun S' G' he=>?_
 exact K _ _ _ tk _ G' S' (.ref _ _ he)
theorem i0(l:List Nat):(aP l).length=l.length:=by simp[aP,Str.length]
theorem BO(l:List Nat)(lo hi:Option Int):(Builtin.Str.strSliceIndices lo hi 1 l.length).filterMap ((aP l).cps[·]?)=cu l lo hi:=by
 rw [i6];exact pick_run (aP l).cps _ _
theorem F6(l:List Nat)(lo hi:Option Int)(h:(Builtin.Str.strSliceIndices lo hi 1 l.length).length=l.length):cu l lo hi=l:=by
 apply sP
 rw [i6,List.length_map,List.length_range]at h;have hb:hi.elim l.length (clipAt l.length)≤l.length:=by
  cases hi with
  |none=>exact Nat.le_refl _
  |some j=>exact qq _ _
 unfold cu;rw [List.length_take,List.length_drop];exact(Nat.min_eq_left (Nat.sub_le_sub_right hb _)).trans h
noncomputable abbrev pM(vl vu:Value):Obj:={cls:=.type "slice",data:=.fields #[vl,vu,.none]}
theorem bk.sub{l m:List IE}(B:bk ν l)(h:∀e∈m,e∈l):bk ν m:=fun e he=>B e (h e he)
theorem pP{l:List α}{lo:Option Int}{x:α}(h:x∈cu l lo hi):x∈l:=List.mem_of_mem_drop (List.mem_of_mem_take h)
theorem kN(ν:Nat→Int)(l:List IE)(lo hi:Option Int):KBy.picked (aQ ν l) lo hi=aQ ν (cu l lo hi):=by
 rw [KBc.picked_eq,cw];unfold aQ cu;rw [List.toList_toArray,List.map_take,List.map_drop]
theorem lb.grow(G:aJ Z J M h σ' M' h'):∀{x:Option AV}{rv:Value},lb C J M h x rv→lb C σ' M' h' x rv
 |none,_,e=>e
 |some _,_,V=>ao.grow G V
def jG(C:Cx):Prop:=∀(A:Around)(st:Shared)(E:Value→Shared→Prop)(a sl:Addr)(b:Array UInt8)(vl vu:Value)(lo hi:Option Int)(Q:Value→Shared→Prop),st.heap.get? a=some (cR b)→st.heap.IsSliceOf sl vl vu .none→IsPart vl lo→IsPart vu hi→b.size≤100000→
 (∀tk,Q (.ref st.heap.objs.size) {st with heap:=st.heap.push (cR (KBy.picked b lo hi)),toks:=tk})→ab (Md C) A (getItem (.ref a) (.ref sl)) Q E st
theorem k7:typeLookup (.type "bytearray") "__getitem__"=pure (some (.builtin "bytearray.__getitem__")):=by rw [typeLookup_type,builtinLookup_eq_fast];kernel_rfl
section
variable{sx:Expr}{vl vu:Value}{sl:Addr}{li:Option Int}
theorem y8(hl:l.length≤100000)(p1:IsPart vl li)(p2:IsPart vu hi)(hS:st.heap.IsSliceOf sl vl vu .none)(V:ao C J M st.heap (.t l) rv)(S:aq C J M s st.heap)(K:KV C Z J M st (.t (cu l li hi)) s Q):ab (Md C) A (subscriptTail value sx rv (.ref sl)) Q E st:=by
 refine V.kD fun a vs n ha ea Va=>?_
 have ht:IsTup st.heap a vs.toArray:=⟨_,ea,rfl,n,rfl⟩
 have hlen:=Va.length
 have hc:ay C J M st.heap (cu l li hi) (cu vs li hi):=by
  unfold cu;rw [←hlen];exact Va.cut _ _
 refine dP ht.typeIs slot_tuple_getitem.lookup (jK ht hS p1 p2 (hlen▸hl) (fun hw=>?_) ?_)
 ·exact K.now S (.t _ a vs n ha ea (by rw [←hw];exact hc)) st.toks
 ·have G2:=aJ.push Z J M st.heap (fw (cu vs li hi) 0)
  exact K _ _ _ st.toks _ G2 (S.push _) (.t _ _ _ 0 (S.nH (Heap.ba _)) (Heap.get?_push_size _ rfl) (hc.grow G2))
theorem qC(p:IsPart vl li):∃p:Option (Int×Tok),PySem.partValue p=vl∧p.map (·.1)=li:=by
 cases p with
 |none=>exact⟨none,rfl,rfl⟩
 |int i t=>exact⟨some (i,t),rfl,rfl⟩
set_option tactic.hygienic true in
theorem y9{l:List Nat}(hl:l.length≤100000)(p1:IsPart vl li)(p2:IsPart vu hi)(hS:st.heap.IsSliceOf sl vl vu .none)(V:ao C J M st.heap (.str l) rv)(S:aq C J M s st.heap)(K:KV C Z J M st (.str (cu l li hi)) s Q):ab (Md C) A (subscriptTail value sx rv (.ref sl)) Q E st:=by
 refine V.gB fun t=>?_
 obtain⟨pl,rfl,hpl⟩:=qC p1
 obtain⟨pu,rfl,hpu⟩:=qC p2
 refine dP (typeIs_str _ _ t) F.slot_str_getitem.lookup (lf<|getItem_meets (typeIs_str _ _ t) (by decide) F.slot_str_getitem F.entry_str_getitem (F.args_str_getitem_2 _ _) (meets_str_getitem_slice (aP l) t _ pl pu none (by decide)) ⟨hS,?_⟩)
 have hI:slicePicked (aP l) pl pu none=Builtin.Str.strSliceIndices li hi 1 l.length:=by
  unfold slicePicked;rw [hpl,hpu,i0];rfl
 unfold sliceMade;rw [hI,i0];split
 ·rename_i hw
  simp only[Bool.and_eq_true,beq_iff_eq]at hw
  rw [F6 l li hi hw.2]at K;exact K.now S (.str l t) st.toks
 ·rw [BO]
  exact⟨by show(aP (cu l li hi)).length≤sizeLine;rw [i0];exact Nat.le_trans (pQ _ _ _) (bJ hl),K.now S (.str _ _) _⟩
theorem sC{l:List IE}(hl:l.length≤100000)(p1:IsPart vl li)(p2:IsPart vu hi)(hS:st.heap.IsSliceOf sl vl vu .none)(V:ao C J M st.heap (.bytes l) rv)(S:aq C J M s st.heap)(K:KV C Z J M st (.bytes (cu l li hi)) s Q):ab (Md C) A (subscriptTail value sx rv (.ref sl)) Q E st:=by
 refine V.dY fun B t=>?_
 refine dP (typeIs_bytes _ _ t) FB.slot_bytes_getitem.lookup (lf<|getItem_meets (typeIs_bytes _ _ t) (by decide) FB.slot_bytes_getitem FB.entry_bytes_getitem (FB.args_bytes_getitem_2 _ _) (KBc.meets_slice2 (aQ C.ν l) t _ p1 p2)
  ⟨hS,Nat.le_trans (KBc.size_picked_le _ _ _) (by rw [cw];exact bJ hl),fun t' k=>?_⟩)
 rw [kN];exact K.now S (.bytes _ t' (B.sub fun e he=>pP he)) k
theorem u0(hl:l.length≤100000)(p1:IsPart vl li)(p2:IsPart vu hi)(hS:st.heap.IsSliceOf sl vl vu .none)(el:s.get i=some (.list l))(V:ao C J M st.heap (.ref i) rv)(S:aq C J M s st.heap){ag:AS}(c2:SameBut s ag)(c3:bX C.ν ag.rg)(e:(newList ag (cu l li hi)).leaf C.ν=some (v,s'))(K:KV C Z J M st v s' Q):ab (Md C) A (subscriptTail value sx rv (.ref sl)) Q E st:=by
 refine V.listE S el fun a vs n ha ea Va=>?_
 have hlen:=Va.length
 have hc:ay C J M st.heap (cu l li hi) (cu vs li hi):=by
  unfold cu;rw [←hlen];exact Va.cut _ _
 have hp:slicePick vs.toArray li hi none=(cu vs li hi).toArray:=by
  unfold slicePick;rw [sliceBounds_plain,sliceRange_one,pick_run];unfold cu;simp
 refine dP ⟨_,ea,rfl⟩ slot_list_getitem.lookup (lf<|wpAny_getItem_list_slice (cB ea) hS p1 p2 .none (by simp) ?_ (by rw [List.size_toArray,←hlen];exact bJ hl))
 rw [hp];exact gj e (S.lD c2 c3) hc K st.toks (fun Y Y e=>Heap.get?_push_of_some _ e) (Heap.ba _) (Heap.get?_push_size _ rfl)
theorem vh(HB:jG C){l:List IE}(hl:l.length≤100000)(p1:IsPart vl li)(p2:IsPart vu hi)(hS:st.heap.IsSliceOf sl vl vu .none)(el:s.get i=some (.cb l))(V:ao C J M st.heap (.ref i) rv)(S:aq C J M s st.heap){ag:AS}(c2:SameBut s ag)(c3:bX C.ν ag.rg)
  (e:((ag.alloc (.cb (cu l li hi))).bind fun(i,s)=>aH.ok (AV.ref i,s)).leaf C.ν=some (v,s'))(K:KV C Z J M st v s' Q):ab (Md C) A (subscriptTail value sx rv (.ref sl)) Q E st:=by
 refine aH.cz e fun j aK e2 e=>?_
 obtain⟨rfl,rfl⟩:=pi_inj e
 obtain⟨a,rfl,q⟩:=V.inv
 exact aw (S.obj _ _ a el q).jt fun ea B=>by
  refine dP ⟨_,ea,rfl⟩ k7 (HB _ _ _ _ _ _ _ _ _ _ _ ea hS p1 p2 (by rw [cw];exact hl) fun tk=>?_)
  rw [kN];exact nI e2 (B.sub fun e he=>pP he) (S.lD c2 c3) K tk (fun Y Y e=>Heap.get?_push_of_some _ e) (Heap.ba _) (Heap.get?_push_size _ rfl)
end
theorem BC(HB:jG C){lo hi:Option AV}{sl:Expr}{vl vu:Value}(e:(slice a lo hi s).leaf C.ν=some (v,s'))(V:ao C J M st.heap a rv)(VL:lb C J M st.heap lo vl)(VU:lb C J M st.heap hi vu)(S:aq C J M s st.heap)(K:KV C Z J M st v s' Q):
  ab (Md C) A (subscriptTail value sl rv (.ref st.heap.objs.size)) Q E {st with heap:=st.heap.push (pM vl vu)}:=by
 have G:=aJ.push Z J M st.heap (pM vl vu)
 have S1:=S.push (pM vl vu)
 have hS:(st.heap.push (pM vl vu)).IsSliceOf st.heap.objs.size vl vu .none:=Heap.IsSliceOf.new ..
 have V1:=V.grow G
 have K1:=K.after (tk:=st.toks) G
 cases a with
 |t l=>
  refine aH.cz e fun x ag e1 e=>?_
  obtain⟨hl,li,KZ,p1,p2,rfl,c2,c3⟩:=eD S.rg e1 VL VU
  obtain⟨rfl,rfl⟩:=pi_inj e
  exact y8 hl p1 p2 hS V1 (S1.lD c2 c3) K1
 |str l=>
  refine aH.cz e fun x ag e1 e=>?_
  obtain⟨hl,li,KZ,p1,p2,rfl,c2,c3⟩:=eD S.rg e1 VL VU
  obtain⟨rfl,rfl⟩:=pi_inj e
  exact y9 hl p1 p2 hS V1 (S1.lD c2 c3) K1
 |bytes l=>
  refine aH.cz e fun x ag e1 e=>?_
  obtain⟨hl,li,KZ,p1,p2,rfl,c2,c3⟩:=eD S.rg e1 VL VU
  obtain⟨rfl,rfl⟩:=pi_inj e
  exact sC hl p1 p2 hS V1 (S1.lD c2 c3) K1
 |ref r=>
  have e:(qQ (.ref r) lo hi s).leaf C.ν=some (v,s'):=e
  refine aC (g9 e:) fun i q h=>?_
  injection q with q;subst q;rcases h with⟨l,el,e⟩|⟨l,el,e⟩
  ·refine aH.cz e fun x ag e1 e=>?_
   obtain⟨hl,li,KZ,p1,p2,rfl,c2,c3⟩:=eD S.rg e1 VL VU
   exact u0 hl p1 p2 hS el V1 S1 c2 c3 e K1
  ·refine aH.cz e fun x ag e1 e=>?_
   obtain⟨hl,li,KZ,p1,p2,rfl,c2,c3⟩:=eD S.rg e1 VL VU
   exact vh HB hl p1 p2 hS el V1 S1 c2 c3 e K1
 |_=>exact no e
end
structure Ei(C:Cx)(c f:Nat)(ms:List (Nat×Nat)):Prop where
 cd:∃cd,clsIn C.K (C.cZ c)=some cd∧cd.hasDict=true
 ga:findIn C.K (.ref (C.cZ c)) "__getattribute__"=some (some (.builtin "object.__getattribute__"))
 gt:findIn C.K (.ref (C.cZ c)) "__getattr__"=some none
 own:∀n∈C.attrs,gm ms n=none→findIn C.K (.ref (C.cZ c)) (C.nm n)=some none
 VZ:∀n k,gm ms n=some k→findIn C.K (.ref (C.cZ c)) (C.nm n)=some (some (.ref (C.mv k)))∧typeIn C.K (.ref (C.mv k))=some (.type "function")
 T7:makesIn C.K (C.cZ c)=true
 Ud:findIn C.K (.ref (C.cZ c)) "__init__"=some (some (.ref (C.mv f)))∧typeIn C.K (.ref (C.mv f))=some (.type "function")
 over:plainOver C.K (C.cZ c)=true
 sa:findIn C.K (.ref (C.cZ c)) "__setattr__"=some (some (.builtin "object.__setattr__"))
structure Wd(C:Cx)(P:Pg):Prop where
 inj:∀x y,C.nm x=C.nm y→x=y
 glob:∀x v,P.gl.get x=some v→rS C x v
 Ua:C.K.In C.hb
 cls:∀c f ms,P.cs.get c=some (f,ms)→Ei C c f ms
 nf:P.nf=C.nf
 mods:∃o,C.hb.get? sysModules=some o
 cb:jG C
section
variable{ex:Expr}
theorem qk(H:fV C ih d){x:Option CE}{l:Option Expr}{w:Option AV}(e:(SD ih x ρ s).leaf C.ν=some (w,s'))(hf:yE C kd x l)(F:eZ C Z J M kd env ρ st.heap)(S:aq C J M s st.heap)(R:bz A d)(z:bZ C Z J st.heap)
  (K:∀σ' M' h' tk rv,aJ Z J M st.heap σ' M' h'→aq C σ' M' s' h'→lb C σ' M' h' w rv→Q rv {st with heap:=h',toks:=tk}):ab (Md C) A (evalPart l env) Q E st:=by
 cases x with
 |none=>(obtain⟨rfl,rfl⟩:=pi_inj e);exact hf.VW▸lf (wpAny_evalPart_none (K _ _ _ st.toks _ (aJ.refl _ _ _ _) S rfl))
 |some x=>
  refine aC hf.MU fun y q h=>q▸aH.cz e fun av ag e1 e=>?_
  obtain⟨rfl,rfl⟩:=pi_inj e
  exact dA (H _ ρ s av _ e1 kd _ h Z J M env A st F S R z _ _ K)
theorem M4(W:Wd C P)(H:fV C ih d){a:CE}{lo hi:Option CE}(e:(cq P N ih (.il a lo hi) ρ s).leaf C.ν=some (v,s')){l1 u1:Option Expr}{Rh:Pos}(h1:aU C kd a x1)(h2:yE C kd lo l1)(h3:yE C kd hi u1)(F:eZ C Z J M kd env ρ st.heap)(S:aq C J M s st.heap)(R:bz A d)(z:bZ C Z J st.heap)(K:KV C Z J M st v s' Q):
  ab (Md C) A (eval (.Subscript x1 (.Slice l1 u1 none Rh) pos) env) Q E st:=by
  unfold cq at e;refine aH.cz e fun av ag e1 e=>?_
  refine aH.cz e fun al aK e2 e=>?_
  refine aH.cz e fun ah bI e3 e=>?_
  refine jU (H _ ρ s av ag e1 kd _ h1 Z J M env A st F S R z _ _ fun aA aN h₁ aS rv aF aD bV=>?_)
  refine iX (qk H e2 h2 (F.grow aF) aD R (z.grow aF) fun cg dG bl bb vl aZ bN dN=>?_)
  have P5:=aF.trans aZ
  refine qk (st:={st with heap:=bl,toks:=bb}) H e3 h3 (F.grow P5) bN R (z.grow P5) fun ky rP dD gX vu c0 fk wW=>?_
  rw [evalPart_none];refine af ?_;exact BC (st:={st with heap:=dD,toks:=gX}) W.cb e ((bV.grow aZ).grow c0) (dN.grow c0) wW fk (K.after (P5.trans c0))
theorem ay.reverse(V:ay C J M h l vs):ay C J M h l.reverse vs.reverse:=
 V.ind .nil fun Y Y Y Y x Y ih=>by rw [List.reverse_cons,List.reverse_cons];exact ih.append (.cons x .nil)
theorem BK{slice:Expr}{sl:Addr}{t:Tok}(e:(newList s l.reverse).leaf C.ν=some (v,s'))(el:s.get i=some (.list l))(V:ao C J M st.heap (.ref i) rv)(S:aq C J M s st.heap)(hS:st.heap.IsSliceOf sl .none .none (.int (-1) t))(K:KV C Z J M st v s' Q):
  ab (Md C) A (subscriptTail value slice rv (.ref sl)) Q E st:=by
 refine V.listE S el fun a vs n ha ea Va=>?_
 have hll:=lZ e
 rw [List.length_reverse,Va.length]at hll;refine dP ⟨_,ea,rfl⟩ slot_list_getitem.lookup (lf<|wpAny_getItem_list_slice (cB ea) hS .none .none (.int (-1) t) (by simp) ?_ (by rw [List.size_toArray];exact bJ hll))
 rw [krv_pick,List.toList_toArray];exact gj e S Va.reverse K st.toks (fun Y Y e=>Heap.get?_push_of_some _ e) (Heap.ba _) (Heap.get?_push_size _ rfl)
theorem M5(H:fV C ih d){a:CE}(e:(cq P N ih (.rev a) ρ s).leaf C.ν=some (v,s')){kk:Nat}{p1 p2 p3 p4:Pos}(h1:aU C kd a x1)(F:eZ C Z J M kd env ρ st.heap)(S:aq C J M s st.heap)(R:bz A d)(z:bZ C Z J st.heap)(K:KV C Z J M st v s' Q):
  ab (Md C) A (eval (.Subscript x1 (.Slice none none (some (.UnaryOp .USub (.Constant (.int 1) kk p1) p2)) p3) p4) env) Q E st:=by
  refine aH.cz e fun av ag e1 e=>?_
  refine jU (H _ ρ s av ag e1 kd _ h1 Z J M env A st F S R z _ _ fun aA aN h₁ aS rv aF aD bV=>?_)
  obtain⟨i,l,rfl,el,e⟩:=eF e
  refine iX ?_
  rw [evalPart_none];refine af (af ?_);rw [evalPart_some];refine lf<|lit_neg _ fun w tk hw=>?_
  have hw:=hw h₁
  cases hw with
  |int _ t=>
   have G:=aJ.push Z aA aN h₁ {cls:=.type "slice",data:=.fields #[.none,.none,.int (-1) t]}
   exact BK (st:={st with heap:=h₁.push {cls:=.type "slice",data:=.fields #[.none,.none,.int (-1) t]},toks:=tk}) e el (bV.grow G) (aD.push _) (Heap.IsSliceOf.new ..) (K.after (aF.trans G))
theorem AH(hi:∀x y,C.nm x=C.nm y→x=y)(k' k:Nat)(t:Tok):Value.isStr (.str (C.nm k') t) (C.nm k)=Nat.beq k' k:=by
 show(C.nm k'==C.nm k)=_;rw [Bool.eq_iff_iff,beq_iff_eq];exact⟨fun q=>by rw [hi _ _ q];exact Nat.beq_refl k,fun q=>by rw [al_beq q]⟩
theorem bY.find(hi:∀x y,C.nm x=C.nm y→x=y)(k:Nat){l:List (Nat×AV)}(V:bY C J M h l es):Ja C J M h (az l k) (es.find? (fun e=>e.key.isStr (C.nm k))):=
 V.ind rfl fun p l v t es x Y ih=>by
  have hk:=AH hi p.1 k t
  unfold az;cases q:Nat.beq p.1 k with
  |true=>exact⟨_,tY (hk.trans q),x⟩
  |false=>exact(qf (p:=fun e:DictEntry=>e.key.isStr (C.nm k)) (a:=⟨PyData.keyHash C.w.params (C.nm p.1),.str (C.nm p.1) t,v⟩) (hk.trans q)).symm▸ih
theorem bY.noRef{l:List (Nat×AV)}(V:bY C J M h l es):es.any (·.refKey)=false:=
 V.ind rfl fun Y Y Y Y Y Y Y ih=>by rw [List.any_cons,ih];rfl
theorem bY.len{l:List (Nat×AV)}(V:bY C J M h l es):l.length=es.length:=
 V.ind rfl fun Y Y Y Y Y Y Y ih=>congrArg Nat.succ ih
theorem bY.put(hi:∀x y,C.nm x=C.nm y→x=y)(k:Nat)(V:ao C J M h v rv)(t:Tok){l:List (Nat×AV)}:∀{es:List DictEntry},bY C J M h l es→
  bY C J M h (bO l k v) (nsPutIn (C.nm k).cps.size (C.nm k).cps.toList (fun|some e=>{e with val:=rv}|none=>⟨PyData.keyHash C.w.params (C.nm k),.str (C.nm k) t,rv⟩) es).1:=by
 induction l with
 |nil=>exact fun W=>W.nl▸.cons V .nil
 |cons p l ih=>
  intro es W;refine W.oI fun w t' es W r=>?_
  unfold bO nsPutIn
  dsimp only
  rw [show(Value.str (C.nm p.1) t').isStrByCps (C.nm k).cps.size (C.nm k).cps.toList=Nat.beq p.1 k from(Value.isStrByCps_eq ..).trans (AH hi p.1 k t')]
  cases q:Nat.beq p.1 k with
  |true=>exact al_beq q▸.cons V r
  |false=>exact .cons W (ih r)
theorem instOf_inv(S:aq C J M s st.heap){c dd:Nat}{l:List (Nat×AV)}(V:ao C J M st.heap a rv)(e:instOf s a=some (c,dd,l)):∃x dx es n,rv=.ref x∧st.heap.get? x=some (zC (C.cZ c) dx)∧J[dd]?=some dx∧s.hp.get dd=some (.ns l)∧
  st.heap.get? dx=some (bG es n)∧bY C J M st.heap l es:=by
 refine lu (instOf_eq e) fun i z q q'=>aC (z▸V:ao C J M st.heap (.ref i) rv).inv fun x e hx=>aC (S.obj _ _ x q hx).instI fun dx h1 h2=>d9 (S.obj _ _ dx q' h2).Qm fun es n h3 h4=>⟨x,dx,es,n,e,h1,h2,q',h3,h4⟩
theorem inst_at{x cA dx:Addr}(h1:h.get? x=some (zC cA dx))(h3:h.get? dx=some (bG es n)):InstAt h x (zC cA dx) cA (some (bG es n)):=⟨h1,rfl,rfl,h3⟩
theorem lookIn_dict{nm:Str}(hr:es.any (·.refKey)=false):lookIn nm (bG es n)=some ((es.find? (fun e=>e.key.isStr nm)).map (·.val)):=by
 unfold lookIn;simp only;cases q:es.find? (fun e=>e.key.isStr nm)with
 |some e=>rfl
 |none=>simp only[hr];rfl
theorem ao.handed(V:ao C J M h a rv)(hp:i9 a=true):handedIn rv=true:=by
 cases a with
 |bi _=>exact absurd hp Bool.false_ne_true
 |mj _=>exact absurd hp Bool.false_ne_true
 |none=>exact V.inv▸rfl
 |bool x=>exact V.inv▸rfl
 |int x=>exact V.ed fun Y=>rfl
 |str x=>exact V.gB fun Y=>rfl
 |bytes x=>exact V.dY fun Y Y=>rfl
 |t x=>exact V.kD fun Y Y Y Y Y Y=>rfl
 |dW x=>exact V.wz fun Y Y Y Y Y Y Y=>rfl
 |ref x=>exact dm V.inv fun Y q=>q.1▸rfl
 |fn _=>exact V.inv▸rfl
 |cls _=>exact V.inv▸rfl
 |uU _ _=>exact dm V.inv fun Y q=>q.1▸rfl
 |xv _ _=>exact Rn V.inv fun Y Y Y Y q Y Y=>q▸rfl
end
theorem uC{nm:Str}{whole:Sem Value}(h:∀id p q,x≠.Call (.Name id p) [] [] q):attributeBase x nm env whole=whole:=by
 cases x with
 |Call f as kw p=>cases f with
  |Name id q=>cases as with
   |nil=>cases kw with
    |nil=>exact absurd rfl (h _ _ _)
    |cons=>rfl
   |cons=>rfl
  |_=>rfl
 |_=>rfl
section
variable{ex:Expr}
theorem Oc(W:Wd C P)(S:aq C J M s st.heap):C.K.In st.heap:=fun a o e=>(S.base a o (W.Ua a o e)).2
theorem findObj_own{c f:Nat}{ms:List (Nat×Nat)}(O:Ei C c f ms)(hn:n∈C.attrs)(hm:gm ms n=none){e:DictEntry}(hr:es.any (·.refKey)=false)(h:es.find? (fun e=>e.key.isStr (C.nm n))=some e):
  findObj C.K (C.cZ c) (some (bG es k)) (C.nm n)=some (.value e.val):=by
 refine aC (O.cd:) fun cd h1 h2=>?_
 unfold findObj;rw [h1,Option.bind_some,O.own n hn hm];show(PySem.W.ownOf cd (some (bG es k)) (C.nm n)).bind _=_;rw [show PySem.W.ownOf cd (some (bG es k)) (C.nm n)=some (some e.val)from(if_pos h2).trans ((lookIn_dict hr).trans (by rw [h];rfl))]
 rfl
theorem tW(W:Wd C P){c f dd:Nat}{ms:List (Nat×Nat)}{l:List (Nat×AV)}{w:AV}(S:aq C J M s st.heap)(V:ao C J M st.heap a rv)(hi:instOf s a=some (c,dd,l))(hc:P.cs.get c=some (f,ms))(hn:n∈C.attrs)(hm:gm ms n=none)(hg:az l n=some w)(hp:i9 w=true)
  (K:KV C Z J M st w s Q):PySem.wpAny (Md C) A (getAttr rv (C.nm n) b) Q E st:=by
 obtain⟨x,dx,es,k,rfl,h1,h2,h3,h4,h5⟩:=instOf_inv S V hi
 have O:=W.cls _ _ _ hc
 have hf:=h5.find W.inj n
 rw [hg]at hf;refine aC (hf:) fun en e1 e2=>?_
 refine get_value (Oc W S) (inst_at h1 h4) O.ga (findObj_own O hn hm h5.noRef e1) (e2.handed hp) (K.now S e2 _)
theorem JY(W:Wd C P)(H:fV C ih d){o:CE}(e:(cq P N ih (.attr o n) ρ s).leaf C.ν=some (v,s')){sN:Str}(h1:sN=C.nm n)(h2:n∈C.attrs)(h3:∀id p q,x1≠.Call (.Name id p) [] [] q)(h4:aU C kd o x1)(F:eZ C Z J M kd env ρ st.heap)(S:aq C J M s st.heap)(R:bz A d)(z:bZ C Z J st.heap)(K:KV C Z J M st v s' Q):
  ab (Md C) A (eval (.Attribute x1 sN pos) env) Q E st:=by
  subst h1;unfold cq at e;refine aH.cz e fun av ag e1 e=>?_
  rw [arm_eval_Attribute,uC h3];refine aa (aG (H _ ρ s av ag e1 kd _ h4 Z J M env A st F S R z (fun o ag=>ab (Md C) A (getAttr o (C.nm n) true) Q E ag) _ fun aA aN h₁ aS rv aF aD bV=>?_) (fun o ag h₁=>aa (au (aa (aj (aG h₁ (fun r aK bl=>aa (lf<|wpAny_letTemporaryGo (af bl))) fun Y Y x=>x))))) fun Y Y x=>x)
  refine aC (aI e:) fun q hi e=>?_
  refine aC (aI e:) fun p hc e=>?_
  obtain⟨hm,e⟩:=tj e
  refine aC (aI e:) fun w hg e=>?_
  obtain⟨hp,e⟩:=cC e
  obtain⟨rfl,rfl⟩:=pi_inj e
  exact lf<|tW W (st:={st with heap:=h₁,toks:=aS}) aD bV hi hc h2 hm hg hp (K.after aF)
set_option tactic.hygienic true in
theorem putName_dict{nm:Str}{hash:Int}{key:Value}:∃k',Obj.putName nm hash key rv (bG es k)=bG (nsPutIn nm.cps.size nm.cps.toList (fun|some e=>{e with val:=rv}|none=>⟨hash,key,rv⟩) es).1 k':=by
 unfold Obj.putName
 dsimp only[bG]
 split
 ·rename_i kW q;exact⟨k,congrArg (fun p:List DictEntry×Bool=>bG p.1 k) q.symm⟩
 ·rename_i kW q;exact⟨k+1,congrArg (fun p:List DictEntry×Bool=>bG p.1 (k+1)) q.symm⟩
theorem oj(x:Nat)(v:AV):∀l:List (Nat×AV),(bO l x v).length≤l.length+1
 |[]=>Nat.le_refl _
 |p::r=>by
  unfold bO;split
  ·simp
  ·simp only[List.length_cons];have:=oj x v r;lia
theorem BE(W:Wd C P){c f dd:Nat}{ms:List (Nat×Nat)}{l:List (Nat×AV)}{w:AV}{rw:Value}{Q:Unit→Shared→Prop}(S:aq C J M s st.heap)(z:bZ C Z J st.heap)(V:ao C J M st.heap a rv)(Vw:ao C J M st.heap w rw)(hi:instOf s a=some (c,dd,l))(hc:P.cs.get c=some (f,ms))(hn:n∈C.attrs)(hm:gm ms n=none)
  (hnf:C.nf≤dd)(hl:l.length≤500)(K:∀σ' M' h' tk,aJ Z J M st.heap σ' M' h'→aq C σ' M' (s.upd dd (.ns (bO l n w))) h'→Q () {st with heap:=h',toks:=tk}):ab (Md C) A (setAttr rv (C.nm n) rw) Q E st:=by
 obtain⟨x,dx,es,k,rfl,h1,h2,h3,h4,h5⟩:=instOf_inv S V hi
 have O:=W.cls _ _ _ hc
 have X:=Oc W S
 have I:=inst_at h1 h4
 refine lf (set_plain (C:=C.cZ c) X I O.sa ?_)
 have ht:takerIn C.K (C.cZ c) (C.nm n)=some none:=by
  unfold takerIn;rw [O.own n hn hm];rfl
 refine osa_open (s:={st with toks:=st.toks+1}) X I O.over ht fun b=>?_
 refine aC (O.cd:) fun cd hcd C0=>?_
 refine dm (putName_dict (nm:=C.nm n) (hash:=PyData.keyHash C.w.params (C.nm n)) (key:=.str (C.nm n) (st.toks+1)) (rv:=rw) (es:=es) (k:=k):) fun k' hput=>?_
 have hlen:=h5.len
 have hN:=h5.put W.inj n Vw (st.toks+1)
 have hU:=S.update (f:=Obj.putName (C.nm n) (PyData.keyHash C.w.params (C.nm n)) (.str (C.nm n) (st.toks+1)) rw) (o:=.ns (bO l n w)) h2 hnf z h3 h4 (by rw [hput];rfl) fun G hg=>by
  rw [hput]at hg;exact .ns _ _ _ _ hg (hN.grow G)
 have D':(st.heap.update dx (Obj.putName (C.nm n) (PyData.keyHash C.w.params (C.nm n)) (.str (C.nm n) (st.toks+1)) rw)).get? dx=some (bG _ k'):=(Heap.get?_update_self _ h4 (by rw [hput];rfl)).trans (congrArg some hput)
 refine PySem.wpAny_bind (PySem.wpAny_pure (PySem.wpAny_bind (PySem.wpAny_bind (PySem.wpAny_loadPart h1 (PySem.wpAny_bind ((looks_clsIn X hcd).here (s:={st with toks:=st.toks+1}) ?_))))))
 rw [C0];refine PySem.wpAny_pure (a:=some dx) (PySem.wpAny_bind (PySem.wpAny_pure (PySem.wpAny_bind ?_)))
 unfold nsSet;refine PySem.wpAny_bind (PySem.wpAny_bind (PySem.wpAny_askSetting (PySem.wpAny_pure (PySem.wpAny_bind (PySem.wpAny_mkText (PySem.wpAny_bind (PySem.wpAny_loadPart h4 ?_)))))));have Wz:(!es.toArray.any (·.key.isStr (C.nm n))&&es.toArray.any (·.refKey))=false:=by
  have:=h5.noRef
  rw [List.any_toArray,List.any_toArray,this,Bool.and_false]
 dsimp only[bG]
 rw [aRefKeyMayBeTheName_at,Wz];refine PySem.wpAny_updatePart h4 ?_;refine PySem.wpAny_bind (PySem.wpAny_lookBehind D' (pastItsLine_dict ?_) ?_)
 ·rw [List.size_toArray]
  have h7:=oj n w l
  refine Nat.le_trans (Nat.le_of_eq hN.len.symm) ?_
  rw [sizeLine_eq]
  lia
 ·exact PySem.wpAny_pure (K _ _ _ _ hU.2 hU.1)
end
noncomputable def qu(sl:List (Str×Value))(x:Str×Value):List (Str×Value):=if(sl.lookup x.1).isNone=true then sl++[(x.1,x.2)]else sl
theorem D3:∀(l sl:List (Str×Value)),(forIn l sl fun x __s=>if(List.lookup x.fst __s).isNone=true then pure (ForInStep.yield (__s++[(x.fst,x.snd)]))else pure (ForInStep.yield __s):Sem (List (Str×Value)))=pure (l.foldl qu sl)
 |[],sl=>rfl
 |x::l,sl=>by
  rw [List.forIn_cons,List.foldl_cons];unfold qu;split
  ·rw [pure_bind];exact D3 l _
  ·rw [pure_bind];exact D3 l _
theorem vE(n:Str)(a b:List (Str×Value)):(a++b).lookup n=(a.lookup n).or (b.lookup n):=by
 induction a with
 |nil=>rfl
 |cons p a ih=>
  rw [List.cons_append,List.lookup_cons,List.lookup_cons];split
  ·rfl
  ·exact ih
set_option tactic.hygienic true in
theorem PC(n:Str)(l sl:List (Str×Value)):(l.foldl qu sl).lookup n=(sl.lookup n).or (l.lookup n):=by
 induction l generalizing sl with
 |nil=>exact(Option.or_none ..).symm
 |cons x l ih=>
  rw [List.foldl_cons,ih];unfold qu;rw [List.lookup_cons];split
  ·rename_i h
   rw [vE]
   by_cases q:n=x.1
   ·subst q
    rw [Option.isNone_iff_eq_none.mp h];simp
   ·have:(n==x.1)=false:=beq_eq_false_iff_ne.mpr q
    simp[List.lookup_cons,this]
  ·rename_i h
   by_cases q:n=x.1
   ·subst q
    cases e:sl.lookup x.1 with
    |none=>rw [e]at h;simp at h
    |some v=>simp
   ·have:(n==x.1)=false:=beq_eq_false_iff_ne.mpr q
    simp[this]
theorem kP:∀{names:List Str}(vals:List Value),names.Nodup→∀(i:Nat)(h:i<names.length),(names.zip vals).lookup names[i]=vals[i]?
 |[],_,_,i,h=>absurd h (Nat.not_lt_zero _)
 |n::ns,[],_,i,h=>by simp
 |n::ns,v::vs,nd,0,h=>by simp[List.lookup_cons]
 |n::ns,v::vs,nd,i+1,h=>by
  rw [List.nodup_cons]at nd;rw [List.zip_cons_cons,List.lookup_cons];have hi:i<ns.length:=by simpa using h
  have:(ns[i]==n)=false:=beq_eq_false_iff_ne.mpr fun e=>nd.1 (e▸List.getElem_mem hi)
  simp only[List.getElem_cons_succ,this]
  rw [kP vs nd.2 i hi];simp
theorem Dc{L:Str→Option Value}:∀{names:List Str}{tgt:List Value},names.length=tgt.length→(∀(i:Nat)(h:i<names.length),L names[i]=tgt[i]?)→names.filterMap (fun n=>(L n).map fun x=>(n,x))=names.zip tgt
 |[],[],_,_=>rfl
 |[],_::_,h,_=>by simp at h
 |_::_,[],h,_=>by simp at h
 |n::ns,v::vs,h,hl=>by
  have h0:=hl 0 (by simp)
  simp only[List.getElem_cons_zero,List.getElem?_cons_zero]at h0
  rw [List.filterMap_cons,h0];simp only[Option.map_some,List.zip_cons_cons];rw [Dc (by simpa using h) fun i hi=>hl (i+1) (by simpa using hi)]
theorem u4{M:Model}{c:Prop} [Decidable c]{a b:Sem α}{Q:α→Shared→Prop}{s:Shared}(h:¬c)(k:PySem.wpAny M A b Q E s):PySem.wpAny M A (if c then a else b) Q E s:=by
 rw [if_neg h];exact k
section
variable{names:List Str}{vals ds dd:List Value}(h1:vals.length≤names.length)(h2:names.length≤vals.length+ds.length)(h3:ds.length≤names.length)(nd:names.Nodup)
include h1 h2 nd
theorem yN(hdd:dd=ds):(names.take (names.length - dd.length)).filter (fun n=>(List.lookup n (names.zip vals)).isNone)=[]:=by
 subst hdd;rw [List.filter_eq_nil_iff];intro n hn;obtain⟨i,hi,rfl⟩:=List.getElem_of_mem hn
 rw [List.length_take]at hi;have hn:i<names.length:=Nat.lt_of_lt_of_le hi (Nat.min_le_right _ _)
 rw [List.getElem_take,kP vals nd i hn,List.getElem?_eq_getElem (Nat.lt_of_lt_of_le hi (Nat.le_trans (Nat.min_le_left _ _) (Nat.sub_le_of_le_add h2)))];exact Bool.false_ne_true
include h3
theorem Ey(hdd:dd=ds):(names++[]).filterMap (fun n=>((((names.drop (names.length - dd.length)).zip dd).foldl qu (names.zip vals)).lookup n).map fun x=>(n,x))=names.zip (vals++ds.drop (vals.length+ds.length - names.length)):=by
 subst hdd;rw [List.append_nil];have e1:vals.length+dd.length - names.length+(names.length - dd.length)=vals.length:=by rw [←Nat.add_sub_assoc h3,Nat.sub_add_cancel h2,Nat.add_sub_cancel]
 refine Dc (L:=fun n=>List.lookup n (((names.drop (names.length - dd.length)).zip dd).foldl qu (names.zip vals))) (by rw [List.length_append,List.length_drop,←Nat.add_sub_assoc (Nat.sub_le_of_le_add (Nat.add_comm _ names.length▸Nat.add_le_add_right h1 _)),Nat.sub_sub_self h2]) fun i hi=>?_
 rw [PC,kP vals nd i hi];refine(Nat.lt_or_ge i vals.length).elim (fun q=>?_) fun q=>?_
 ·rw [List.getElem?_append_left q,List.getElem?_eq_getElem q];rfl
 ·have c1:names.length - dd.length≤i:=Nat.le_trans (Nat.le_add_left _ _) (e1.symm▸q)
  rw [List.getElem?_eq_none q,Option.none_or,List.getElem?_append_right q];have C0:i - (names.length - dd.length)<(names.drop (names.length - dd.length)).length:=by rw [List.length_drop];exact Nat.sub_lt_sub_right c1 hi
  have e:names[i]=(names.drop (names.length - dd.length))[i - (names.length - dd.length)]:=by
   rw [List.getElem_drop]
   congr 1
   exact(Nat.add_sub_cancel' c1).symm
  rw [e,kP dd (nd.sublist (List.drop_sublist _ _)) _ C0,List.getElem?_drop];refine congrArg (dd[·]?) ?_;have e2:i - vals.length=i - (names.length - dd.length) - (vals.length+dd.length - names.length):=by rw [←Nat.sub_add_eq,Nat.add_comm,e1]
  rw [e2,Nat.add_sub_cancel' (Nat.le_sub_of_add_le (e1.symm▸q))]
end
theorem mc{s:Shared}{fd:FuncData}{names:List Str}{vals ds:List Value}(hp:fd.params.posonlyargs=[])(hn:fd.params.args.map (·.arg)=names)(hv:fd.params.vararg=none)(hk:fd.params.kwonlyargs=[])(Qp:fd.params.kwarg=none)
  (hd:∀(M:Model)(A:Around)(E:Value→Shared→Prop)(Q:Option (Array Value)→Shared→Prop),(∀x:Option (Array Value),(x.getD #[]).toList=ds→Q x s)→PySem.wpAny M A (seqItems? fd.defaults) Q E s)
  (h1:vals.length≤names.length)(h2:names.length≤vals.length+ds.length)(h3:ds.length≤names.length)(nd:names.Nodup):BindsTo s fd ⟨vals,[]⟩ (names.zip (vals++ds.drop (vals.length+ds.length - names.length))):=by
 intro M A E Q hq;obtain⟨fname,fqual,⟨po,as,va,ko,kd,kw,df⟩,r1,r2,r3,r4,r5,r6,r7⟩:=fd
 dsimp only at hp hn hv hk Qp hd
 subst hp hn hv hk Qp;unfold PySem.bindArgs;refine PySem.wpAny_bind (PySem.wpAny_pure ?_);refine PySem.wpAny_bind (hd _ _ _ _ fun x hx=>?_)
 have hdd:List.drop ((x.getD #[]).toList.length - (as.map (·.arg)).length) (x.getD #[]).toList=ds:=by
  rw [hx,Nat.sub_eq_zero_of_le h3,List.drop_zero]
 refine u4 (fun c=>?_) ?_
 ·exact absurd (of_decide_eq_true (Bool.and_eq_true_iff.mp c).1) (Nat.not_lt.mpr h1)
 refine u4 (fun c=>?_) ?_
 ·have c:(!(List.filter (fun n=>(List.lookup n ((as.map fun x:Arg=>x.arg).zip vals)).isNone) (List.take ((as.map fun x:Arg=>x.arg).length - (List.drop ((x.getD #[]).toList.length - (as.map fun x:Arg=>x.arg).length) (x.getD #[]).toList).length) (as.map fun x:Arg=>x.arg))).isEmpty)=true:=c
  rw [yN h1 h2 nd hdd]at c;exact Bool.false_ne_true c
 refine PySem.wpAny_bind (PySem.wpAny_of_eq (D3 _ _) ?_)
 refine PySem.wpAny_bind (PySem.wpAny_pure ?_)
 refine u4 Bool.false_ne_true ?_
 exact PySem.wpAny_pure ((congrArg (fun l=>Q l s) (Ey h1 h2 h3 nd hdd)).mpr hq)
def dR(kd:Kd)(cs:Bool)(s:Str):Prop:=kd.k s=some .local∨(kd.k s=some .cell∧cs=true)
abbrev Eb(C:Tx)(kd:Kd)(cs:Bool):List Nat→List Expr→Prop:=cf C (dR kd cs)
abbrev Ec(C:Tx)(kd:Kd)(cs:Bool):List Nat→Bool→Expr→Prop:=eJ C (dR kd cs)
def lj(C:Tx)(kd:Kd)(k:Nat)(e:CE)(x:Expr):Prop:=(k=0∧ak C kd e x)∨(k=1∧∃x0 p pos,x=.Call (.Name "enumerate" p) [x0] [] pos∧kd.k "enumerate"=some .globalImplicit∧ak C kd e x0∧(∀y p,x0≠.Starred y p))∨
 (k=2∧∃a b x0 y0,e=.t [a,b]∧∃p pos,x=.Call (.Name "zip" p) [x0,y0] [] pos∧kd.k "zip"=some .globalImplicit∧ak C kd a x0∧ak C kd b y0∧(∀y p,x0≠.Starred y p)∧(∀z p,y0≠.Starred z p))
theorem lj.plain{C:Tx}(h:ak C kd e x):lj C kd 0 e x:=.inl ⟨rfl,h⟩
theorem lj.enum{C:Tx}{p:Pos}(h1:kd.k "enumerate"=some .globalImplicit)(h2:ak C kd e x)(h3:∀y p,x≠.Starred y p):lj C kd 1 e (.Call (.Name "enumerate" p) [x] [] pos):=.inr (.inl ⟨rfl,x,p,pos,rfl,h1,h2,h3⟩)
theorem lj.zip{C:Tx}{a b:CE}{y:Expr}{p:Pos}(h1:kd.k "zip"=some .globalImplicit)(h2:ak C kd a x)(h3:ak C kd b y)(h4:∀y p,x≠.Starred y p)(h5:∀z p,y≠.Starred z p):lj C kd 2 (.t [a,b]) (.Call (.Name "zip" p) [x,y] [] pos):=.inr (.inr ⟨rfl,a,b,x,y,rfl,p,pos,rfl,h1,h2,h3,h4,h5⟩)
def bP(x:Expr):Prop:=Nat.beq x.ctorIdx 8=false∧Nat.beq x.ctorIdx 9=false∧Nat.beq x.ctorIdx 10=false
def wX(C:Tx)(kd:Kd)(xs:List Nat)(ts:List Expr)(ex:Expr):Prop:=∀env:PySem.Env,(∀x,env.kindOf x=kd.k x)→env.scope.kind=.function→
 swappedStores ts ex env=pure none∨(swappedStores ts ex env=pure (some (xs.map C.nm))∧xs.Nodup)
abbrev FX:=Stmt→Prop
abbrev Jd:=List Stmt→Prop
section
section
variable(C:Tx)(kd:Kd)(cs:Bool)
def Hq(s:Str)(e:CE)(ex:Expr):Prop:=∃elt tg flat it ifs,e=.comp elt tg flat it ifs∧∃xe xt xi xs sc,∃lpos,ex=.ListComp xe [⟨xt,xi,xs,0⟩] sc lpos∧∀y∈sc.names,y.1≠s
noncomputable def xg(x:Nat)(e:CE):FX:=fun st=>∃s p pos ex,st=.Assign [.Name s p] ex pos∧s=C.nm x∧dR kd cs s∧ak C kd e ex∧(bP ex∨Hq s e ex)
noncomputable def qH(xs:List Nat)(e:CE):FX:=fun st=>∃ts k p ex pos,st=.Assign [.Tuple ts k p] ex pos∧Eb C kd cs xs ts∧ak C kd e ex∧bP ex∧wX C kd xs [.Tuple ts k p] ex
noncomputable def qK(o:CE)(n:Nat)(e:CE):FX:=fun st=>∃s xo p ex pos,st=.Assign [.Attribute xo s p] ex pos∧s=C.nm n∧n∈C.attrs∧ak C kd o xo∧ak C kd e ex∧bP ex
noncomputable def qJ(o i e:CE):FX:=fun st=>∃xo xi p ex pos,st=.Assign [.Subscript xo xi p] ex pos∧ak C kd o xo∧ak C kd i xi∧ak C kd e ex∧bP ex
noncomputable def qI(o lo hi e:CE):FX:=fun st=>∃xo xl xh q p,∃ex pos,st=.Assign [.Subscript xo (.Slice (some xl) (some xh) none q) p] ex pos∧ak C kd o xo∧ak C kd lo xl∧ak C kd hi xh∧ak C kd e ex∧bP ex
noncomputable def mA(o i:CE)(x:Nat)(e:CE):FX:=fun st=>∃xo xi p s q,∃k r ex pos,st=.Assign [.Tuple [.Subscript xo xi p,.Name s q] k r] ex pos∧s=C.nm x∧dR kd cs s∧ak C kd o xo∧ak C kd i xi∧ak C kd e ex∧bP ex∧∀es k p,ex≠.Tuple es k p
noncomputable def EG(e:CE):FX:=fun st=>∃ex pos,st=.Expr ex pos∧ak C kd e ex∧bP ex
noncomputable def xc(e:CE):FX:=fun st=>(∃ex pos,st=.Return (some ex) pos∧ak C kd e ex)∨(e=.val .none∧∃pos,st=.Return none pos)
noncomputable def xd(t:CE)(a b:Jd):FX:=fun st=>∃x ys zs pos,st=.If x ys zs pos∧ak C kd t x∧a ys∧b zs
noncomputable def xf(tg:List Nat)(flat:Bool)(kind:Nat)(it:CE)(b:Jd):FX:=fun st=>∃xt xi ys pos,st=.For xt xi ys [] pos∧Ec C kd cs tg flat xt∧(kind=0∨flat=false)∧lj C kd kind it xi∧b ys
noncomputable def mz(t:CE)(b:Jd):FX:=fun st=>∃x ys pos,st=.While x ys [] pos∧ak C kd t x∧b ys
noncomputable def xa(b:Jd):FX:=fun st=>∃ys h hs pos,st=.Try ys (h::hs) [] [] pos∧b ys
noncomputable def qG:FX:=fun st=>∃pos,st=.Pass pos
noncomputable def A0(a:FX)(l:Jd):Jd:=fun ys=>∃x xs,ys=x::xs∧a x∧l xs
def bc(c:CS):Stmt→Prop:=CS.rec (motive_1:=fun Y=>FX) (motive_2:=fun Y=>Jd) (xg C kd cs) (qH C kd cs) (qK C kd) (qJ C kd) (qI C kd) (mA C kd cs) (EG C kd) (xc C kd) (fun t Y Y=>xd C kd t) (fun tg flat kind it Y=>xf C kd cs tg flat kind it) (fun Y Y Y Y Y Y Y Y=>False) (fun t Y=>mz C kd t) (fun Y=>xa) qG (fun Y Y=>True) (fun xs=>xs=[]) (fun Y Y=>A0) c
def b7(c:List CS):List Stmt→Prop:=CS.rec_1 (motive_1:=fun Y=>FX) (motive_2:=fun Y=>Jd) (xg C kd cs) (qH C kd cs) (qK C kd) (qJ C kd) (qI C kd) (mA C kd cs) (EG C kd) (xc C kd) (fun t Y Y=>xd C kd t) (fun tg flat kind it Y=>xf C kd cs tg flat kind it) (fun Y Y Y Y Y Y Y Y=>False) (fun t Y=>mz C kd t) (fun Y=>xa) qG (fun Y Y=>True) (fun xs=>xs=[]) (fun Y Y=>A0) c
end
end
section
variable{C:Tx}{cs:Bool}
namespace bc
section
variable{x:Nat}{xs:List Nat}{flat:Bool}{o i lo hi t:CE}{a b:List CS}{st:Stmt}
theorem PR(h:bc C kd cs (.bU x e) st):xg C kd cs x e st:=h
theorem PK(h:bc C kd cs (.cD xs e) st):qH C kd cs xs e st:=h
theorem PU(h:bc C kd cs (.aR o n e) st):qK C kd o n e st:=h
theorem PQ(h:bc C kd cs (.jM o i e) st):qJ C kd o i e st:=h
theorem PM(h:bc C kd cs (.iP o lo hi e) st):qI C kd o lo hi e st:=h
theorem LU(h:bc C kd cs (.iJ o i x e) st):mA C kd cs o i x e st:=h
theorem WU(h:bc C kd cs (.ex e) st):EG C kd e st:=h
theorem Rb(h:bc C kd cs (.ret e) st):xc C kd e st:=h
theorem FZ(h:bc C kd cs (.ite t a b) st):xd C kd t (b7 C kd cs a) (b7 C kd cs b) st:=h
theorem Gg(h:bc C kd cs (.for tg flat kind e b) st):xf C kd cs tg flat kind e (b7 C kd cs b) st:=h
theorem Jx(h:bc C kd cs (.while t b) st):mz C kd t (b7 C kd cs b) st:=h
theorem QQ(h:bc C kd cs (.try b) st):xa (b7 C kd cs b) st:=h
theorem Nt(h:bc C kd cs .pass st):qG st:=h
theorem PN(h:xg C kd cs x e st):bc C kd cs (.bU x e) st:=h
theorem PJ(h:qH C kd cs xs e st):bc C kd cs (.cD xs e) st:=h
theorem PT(h:qK C kd o n e st):bc C kd cs (.aR o n e) st:=h
theorem PO(h:qJ C kd o i e st):bc C kd cs (.jM o i e) st:=h
theorem PL(h:qI C kd o lo hi e st):bc C kd cs (.iP o lo hi e) st:=h
theorem LS(h:mA C kd cs o i x e st):bc C kd cs (.iJ o i x e) st:=h
theorem WT(h:EG C kd e st):bc C kd cs (.ex e) st:=h
theorem Nk(h:xc C kd e st):bc C kd cs (.ret e) st:=h
theorem KD(h:xd C kd t (b7 C kd cs a) (b7 C kd cs b) st):bc C kd cs (.ite t a b) st:=h
theorem Sr(h:xf C kd cs tg flat kind e (b7 C kd cs b) st):bc C kd cs (.for tg flat kind e b) st:=h
theorem Jw(h:mz C kd t (b7 C kd cs b) st):bc C kd cs (.while t b) st:=h
theorem QP(h:xa (b7 C kd cs b) st):bc C kd cs (.try b) st:=h
theorem Nr(h:qG st):bc C kd cs .pass st:=h
theorem bad:bc C kd cs (.bad n) st:=trivial
section
variable{s:Str}{p q r:Pos}{eX xo xi xl xh X xt:Expr}{ts:List Expr}{ys zs:List Stmt}
theorem bU(h1:s=C.nm x)(h2:dR kd cs s)(h3:ak C kd e eX)(h4:bP eX):bc C kd cs (.bU x e) (.Assign [.Name s p] eX pos):=PN ⟨s,p,pos,eX,rfl,h1,h2,h3,.inl h4⟩
theorem Tc{elt it:CE}{ifs:List CE}{xe xt:Expr}{xs:List Expr}{sc:Scope}{lpos:Pos}(h1:s=C.nm x)(h2:dR kd cs s)(h3:ak C kd (.comp elt tg flat it ifs) (.ListComp xe [⟨xt,xi,xs,0⟩] sc lpos))(h4:∀y∈sc.names,y.1≠s):bc C kd cs (.bU x (.comp elt tg flat it ifs)) (.Assign [.Name s p] (.ListComp xe [⟨xt,xi,xs,0⟩] sc lpos) pos):=PN ⟨s,p,pos,_,rfl,h1,h2,h3,.inr ⟨elt,tg,flat,it,ifs,rfl,xe,xt,xi,xs,sc,lpos,rfl,h4⟩⟩
theorem cD(h1:Eb C kd cs xs ts)(h2:ak C kd e eX)(h3:bP eX)(h4:wX C kd xs [.Tuple ts k p] eX):bc C kd cs (.cD xs e) (.Assign [.Tuple ts k p] eX pos):=PJ ⟨ts,k,p,eX,pos,rfl,h1,h2,h3,h4⟩
theorem iJ(h1:s=C.nm x)(h2:dR kd cs s)(h3:ak C kd o xo)(h4:ak C kd i xi)(h5:ak C kd e eX)(h6:bP eX)(h7:∀es k p,eX≠.Tuple es k p):bc C kd cs (.iJ o i x e) (.Assign [.Tuple [.Subscript xo xi p,.Name s q] k r] eX pos):=LS ⟨xo,xi,p,s,q,k,r,eX,pos,rfl,h1,h2,h3,h4,h5,h6,h7⟩
theorem aR(h1:s=C.nm n)(h2:n∈C.attrs)(h3:ak C kd o xo)(h4:ak C kd e eX)(h5:bP eX):bc C kd cs (.aR o n e) (.Assign [.Attribute xo s p] eX pos):=PT ⟨s,xo,p,eX,pos,rfl,h1,h2,h3,h4,h5⟩
theorem jM(h1:ak C kd o xo)(h2:ak C kd i xi)(h3:ak C kd e eX)(h4:bP eX):bc C kd cs (.jM o i e) (.Assign [.Subscript xo xi p] eX pos):=PO ⟨xo,xi,p,eX,pos,rfl,h1,h2,h3,h4⟩
theorem iP(h1:ak C kd o xo)(h2:ak C kd lo xl)(h3:ak C kd hi xh)(h4:ak C kd e eX)(h5:bP eX):bc C kd cs (.iP o lo hi e) (.Assign [.Subscript xo (.Slice (some xl) (some xh) none q) p] eX pos):=PL ⟨xo,xl,xh,q,p,eX,pos,rfl,h1,h2,h3,h4,h5⟩
theorem ex(h1:ak C kd e eX)(h2:bP eX):bc C kd cs (.ex e) (.Expr eX pos):=WT ⟨eX,pos,rfl,h1,h2⟩
theorem ret(h:ak C kd e eX):bc C kd cs (.ret e) (.Return (some eX) pos):=Nk (.inl ⟨eX,pos,rfl,h⟩)
theorem Rc:bc C kd cs (.ret (.val .none)) (.Return none pos):=Nk (.inr ⟨rfl,pos,rfl⟩)
theorem ite(h1:ak C kd t X)(h2:b7 C kd cs a ys)(h3:b7 C kd cs b zs):bc C kd cs (.ite t a b) (.If X ys zs pos):=KD ⟨X,ys,zs,pos,rfl,h1,h2,h3⟩
theorem «for»(h1:Ec C kd cs tg flat xt)(h2:kind=0∨flat=false)(h3:lj C kd kind e xi)(h4:b7 C kd cs b ys):bc C kd cs (.for tg flat kind e b) (.For xt xi ys [] pos):=Sr ⟨xt,xi,ys,pos,rfl,h1,h2,h3,h4⟩
theorem «while»(h1:ak C kd t X)(h2:b7 C kd cs b ys):bc C kd cs (.while t b) (.While X ys [] pos):=Jw ⟨X,ys,pos,rfl,h1,h2⟩
theorem «try»{h:ExceptHandler}{hs:List ExceptHandler}(h1:b7 C kd cs b ys):bc C kd cs (.try b) (.Try ys (h::hs) [] [] pos):=QP ⟨ys,h,hs,pos,rfl,h1⟩
theorem pass:bc C kd cs .pass (.Pass pos):=Nr ⟨pos,rfl⟩
end
end
end bc
theorem b7.nil:b7 C kd cs [] []:=rfl
theorem b7.nl{xs:List Stmt}(h:b7 C kd cs [] xs):xs=[]:=h
theorem b7.of{c:CS}{r:List CS}{xs:List Stmt}(h:∃x ys,xs=x::ys∧bc C kd cs c x∧b7 C kd cs r ys):b7 C kd cs (c::r) xs:=h
theorem b7.un{c:CS}{r:List CS}{xs:List Stmt}(h:b7 C kd cs (c::r) xs):∃x ys,xs=x::ys∧bc C kd cs c x∧b7 C kd cs r ys:=h
theorem b7.cons{c:CS}{x:Stmt}{r:List CS}{xs:List Stmt}(h1:bc C kd cs c x)(h2:b7 C kd cs r xs):b7 C kd cs (c::r) (x::xs):=.of ⟨x,xs,rfl,h1,h2⟩
end
abbrev pq(C:Cx):=Eb C.toTx
abbrev mx(C:Cx):=Ec C.toTx
abbrev Ho(C:Cx):=lj C.toTx
abbrev yz(C:Cx):=wX C.toTx
abbrev fD(C:Cx):=bc C.toTx
abbrev cQ(C:Cx):=b7 C.toTx
structure cW(C:Cx)(Z:Addr→Prop)(J:List Addr)(M own:Addr→Prop)(kd:Kd)(cs:Bool)(env:PySem.Env)(ρ:Env)(h:Heap):Prop where
 f:eZ C (fun a=>Z a∨own a) J M kd env ρ h
 eE:∀a,own a→M a∧¬Z a
 gh:bZ C own J h
 lo:own env.locals
 ns:∃m,h.Ns env.locals m
 ce:cs=true→∀x,kd.k x=some .cell→∃c v,env.cells.lookup x=some c∧h.IsCell c v∧own c
 lc:∀x c,env.cells.lookup x=some c→c≠env.locals
 ap:cs=true→∀x y c,env.cells.lookup x=some c→env.cells.lookup y=some c→x=y
 fN:env.scope.kind=.function
noncomputable def uO(C:Cx)(J:List Addr)(M:Addr→Prop)(h:Heap):Fl→Flow→Prop
 |.nx,f=>f=.next
 |.rt v,f=>∃rv,f=.ret rv∧ao C J M h v rv
def KX(C:Cx)(Z:Addr→Prop)(J:List Addr)(M own:Addr→Prop)(kd:Kd)(cs:Bool)(env:PySem.Env)(st:Shared)(f:Fl)(ρ':Env)(s':AS)(Q:Flow→Shared→Prop):Prop:=
 ∀σ' M' h' tk fl,aJ Z J M st.heap σ' M' h'→aq C σ' M' s' h'→cW C Z σ' M' own kd cs env ρ' h'→uO C σ' M' h' f fl→Q fl {st with heap:=h',toks:=tk}
theorem KX.ok{own:Addr→Prop}{cs:Bool}{f:Fl}{ρ':Env}{Q:Flow→Shared→Prop}(K:KX C Z J M own kd cs env st f ρ' s' Q){a:Fl}{b:Env}{c:AS}(e:(aH.ok (a,b,c)).leaf ν=some (f,ρ',s')):KX C Z J M own kd cs env st a b c Q:=by
 injection e with e;injection e with e fJ;subst e;injection fJ with fJ mX;subst fJ mX;exact K
def uW(C:Cx)(ih:Ih)(d:Nat):Prop:=∀cl ρ s f ρ' s',(ih.xs cl ρ s).leaf C.ν=some (f,ρ',s')→∀kd cs xs,cQ C kd cs cl xs→∀Z J M own env A st,cW C Z J M own kd cs env ρ st.heap→aq C J M s st.heap→bz A d→bZ C Z J st.heap→
 ∀Q E,KX C Z J M own kd cs env st f ρ' s' Q→ab (Md C) A (execs xs env) Q E st
section
variable{own:Addr→Prop}{cs:Bool}
theorem bZ.bF{Z':Addr→Prop}(z:bZ C Z' J h)(G:aJ Z J M h σ' M' h'):bZ C Z' σ' h':=fun a q=>by
 obtain⟨l,rfl,f⟩:=G.pre
 obtain⟨⟨o,z1⟩,z2,z3⟩:=z a q
 exact⟨G.ext.live a o z1,fun m=>(List.mem_append.mp m).elim z2 fun m=>aM z1 (f a m),z3⟩
theorem cW.z(F:cW C Z J M own kd cs env ρ h)(z:bZ C Z J h):bZ C (fun a=>Z a∨own a) J h:=fun a q=>q.elim (z a) (F.gh a)
theorem cW.grow(F:cW C Z J M own kd cs env ρ h)(G:aJ (fun a=>Z a∨own a) J M h σ' M' h'):cW C Z σ' M' own kd cs env ρ h':=
 ⟨F.f.grow G,fun a q=>⟨G.more a (F.eE a q).1,(F.eE a q).2⟩,F.gh.bF G,F.lo,let⟨m,o,es,ep,e,r⟩:=F.ns;⟨m,o,es,ep,G.di (.inr F.lo) e,r⟩,
  fun k x q=>by
   obtain⟨c,v,h1,⟨o,h2,h3⟩,h5⟩:=F.ce k x q
   exact⟨c,v,h1,⟨o,G.di (.inr h5) h2,h3⟩,h5⟩,
  F.lc,F.ap,F.fN⟩
theorem KX.after{f:Fl}{ρ':Env}{Q:Flow→Shared→Prop}{tk:Tok}(K:KX C Z J M own kd cs env st f ρ' s' Q)(G:aJ Z J M st.heap σ' M' h'):KX C Z σ' M' own kd cs env {st with heap:=h',toks:=tk} f ρ' s' Q:=
 fun cg dG bl bb fl aZ S F R=>K cg dG bl bb fl (G.trans aZ) S F R
theorem sT(S:aq C J M s h){a:Addr}(hm:M a)(hz:¬Z a)(ho:a∉J)(ht:∀p∈C.tabs,a≠p.2)(hs:Heap.SameBut a h h')(hl:∃o,h'.get? a=some o):aq C J M s h'∧aJ Z J M h J M h':=by
 have hv:∀b o,h.get? b=some o→∃o',h'.get? b=some o':=fun b o e=>by
  by_cases hb:b=a
  ·subst hb;exact hl
  ·exact⟨o,(hs.2 b hb).trans e⟩
 have G:aJ Z J M h J M h':=⟨⟨[],by simp,fun Y m=>nomatch m⟩,⟨hv,fun b o hb e=>(hs.2 b fun q=>hb (by rw [q];exact⟨hm,hz⟩)).trans e⟩,fun Y x=>x,fun Y x=>.inl x⟩
 refine⟨⟨S.len,S.lim,S.gC,S.nodup,S.low,?_,S.je,S.ye,fun b m=>let⟨o,e⟩:=S.there b m;hv b o e,fun b m=>let⟨o,e⟩:=S.mlt b m;hv b o e,?_,?_,S.rg⟩,G⟩
 ·intro i o b e q
  have hb:b≠a:=fun z=>ho (z▸al_mem q)
  exact(S.obj i o b e q).grow G fun x hx=>(hs.2 b hb).trans hx
 ·intro b o e
  refine aw (S.base b o e:) fun n y=>?_
  exact⟨n,(hs.2 b fun z=>n (z▸hm)).trans y⟩
 ·intro p hp
  obtain⟨⟨ps,a1,a2,a3,a4⟩,a5⟩:=S.tab p hp
  refine⟨⟨ps,a1,(hs.2 _ fun z=>ht p hp z.symm).trans a2,a3,fun pos cv e=>?_⟩,a5⟩
  refine uT (a4 pos cv e:) fun c oc vs t e1 e2 e3 e4=>?_
  exact⟨c,oc,vs,t,e1,e2,(hs.2 _ fun z=>e2 (by rw [z];exact hm)).trans e3,e4⟩
theorem cO(x y:Nat)(v:AV):∀ρ:Env,az (bO ρ x v) y=if y=x then some v else az ρ y
 |[]=>by
  unfold bO az
  by_cases h:y=x
  ·subst h;simp[Nat.beq_refl]
  ·have:Nat.beq x y=false:=by cases q:Nat.beq x y with|false=>rfl|true=>exact absurd (al_beq q).symm h
   simp[this,h,az]
 |(k,w)::r=>by
  unfold bO
  by_cases hk:k=x
  ·subst hk
   simp only[Nat.beq_refl]
   unfold az
   by_cases h:y=k
   ·subst h;simp[Nat.beq_refl]
   ·have:Nat.beq k y=false:=by cases q:Nat.beq k y with|false=>rfl|true=>exact absurd (al_beq q).symm h
    simp[this,h]
  ·have hb:Nat.beq k x=false:=by cases q:Nat.beq k x with|false=>rfl|true=>exact absurd (al_beq q) hk
   simp only[hb]
   unfold az;have ih:=cO x y v r
   cases q:Nat.beq k y with
   |true=>
    have:=al_beq q
    subst this;simp[hk]
   |false=>exact ih
theorem fZ(inj:∀x y,C.nm x=C.nm y→x=y){x:Nat}{Q:Unit→Shared→Prop}(hk:dR kd cs (C.nm x))(F:cW C Z J M own kd cs env ρ st.heap)(S:aq C J M s st.heap)(V:ao C J M st.heap v rv)
  (K:∀h' tk,aJ Z J M st.heap J M h'→aq C J M s h'→(∀Z₀ gI,cW C Z₀ J M own kd cs env gI st.heap→cW C Z₀ J M own kd cs env (bO gI x v) h')→Q () {st with heap:=h',toks:=tk}):ab (Md C) A (storeName env (C.nm x) rv) Q E st:=by
 have kk:=F.f.kinds
 have fin:∀(a:Addr)(h':Heap)(tk:Tok),own a→Heap.SameBut a st.heap h'→(∃o,h'.get? a=some o)→(∃m,h'.Ns env.locals m)→(∀y c,env.cells.lookup y=some c→c=a→∃v,h'.IsCell c v)→
   (∀(Z₀:Addr→Prop) y w rw,C.nm y≠C.nm x→dy (fun a=>Z₀ a∨own a) M env st.heap (C.nm y) rw→ao C J M st.heap w rw→dy (fun a=>Z₀ a∨own a) M env h' (C.nm y) rw)→(∀Z₀:Addr→Prop,dy (fun a=>Z₀ a∨own a) M env h' (C.nm x) rv)→Q () {st with heap:=h',toks:=tk}:=by
  intro a h' tk ha hs hl hn hca hold hnew;refine aw (F.eE a ha:) fun hm hz=>?_
  refine dz (F.gh a ha:) fun Xj ho ht=>?_
  refine aw (sT (Z:=Z) S hm hz ho ht hs hl:) fun S' G=>?_
  refine K h' tk G S' fun Z₀ gI F=>⟨⟨F.f.glob,F.f.iO,F.f.kind,kk,F.f.DK,(fun y c q=>let⟨o,e⟩:=F.f.wK y c q;G.ext.live c o e),F.f.code,fun y w e q=>?_⟩,F.eE,fun b q=>?_,F.lo,hn,fun k y q=>?_,F.lc,F.ap,F.fN⟩
  ·rw [cO]at e
   by_cases hy:y=x
   ·subst hy
    rw [if_pos rfl]at e;injection e with e;subst e;exact⟨rv,hnew Z₀,V.grow G⟩
   ·rw [if_neg hy]at e
    refine aC (F.f.vars y w e q:) fun Qi R V'=>?_
    exact⟨Qi,hold Z₀ y w Qi (fun q=>hy (inj _ _ q)) R V',V'.grow G⟩
  ·refine dz (F.gh b q:) fun b1 b2 b3=>?_
   refine dm (b1:) fun o e=>?_
   exact⟨G.ext.live b o e,b2,b3⟩
  ·refine jP (F.ce k y q:) fun c v' h1 h2 h4=>?_
   by_cases hc:c=a
   ·refine dm (hca y c h1 hc:) fun TK q=>?_
    exact⟨c,TK,h1,q,h4⟩
   ·exact⟨c,v',h1,h2.sameBut hs hc,h4⟩
 refine dm (F.ns:) fun m N=>?_
 rcases hk with hk|⟨hk,hc⟩
 ·refine lf<|wpAny_storeName_local ((kk _).trans hk) N (fun h' hn hs=>?_) (by rw [F.f.kind];rfl)
  refine fin env.locals h' _ F.lo hs ?_ ⟨_,hn⟩ (fun y c e q=>absurd q (F.lc y c e)) ?_ fun Z₀=>(.loc _ ((kk _).trans hk) (.inr F.lo) hn (by simp))
  ·refine ml (hn:) fun o es ep e Y=>?_;exact⟨o,e⟩
  ·intro Z₀ y w Qi hy R V'
   cases R with
   |loc m' a b c d=>
    refine .loc _ a b hn ?_
    refine oK (c:) fun o es ep e1 e2 e3 e4=>?_
    refine oK (N:) fun o' kW Xm f1 f2 f3 f4=>?_
    rw [e1]at f1;injection f1 with f1;subst f1;rw [e2]at f2;injection f2 with f2 sd;subst f2 sd;simp only[if_neg hy];rw [←f4,e4];exact d
   |cell c o a b e f g=>exact .cell c o a b e ((hs.2 c (F.lc _ _ b)).trans f) g
 ·refine jP (F.ce hc _ hk:) fun c U2 h1 h2 h4=>?_
  have hL:=F.lc _ _ h1
  refine lf<|wpAny_storeName_cell F.f.kind ((kk _).trans hk) h1 h2 fun h' hn hs=>?_
  refine aC (hn:) fun o' e' d'=>?_
  refine fin c h' st.toks h4 hs ⟨o',e'⟩ ⟨m,N.sameBut hs (Ne.symm hL)⟩ (fun y c' Y q=>⟨some rv,by subst q;exact⟨o',e',d'⟩⟩) ?_ fun Z₀=>(.cell c o' (.inl ((kk _).trans hk)) h1 (.inl (.inr h4)) e' d')
  intro Z₀ y w Qi hy R V';cases R with
  |loc m' a b c' d=>exact .loc m' a b (c'.sameBut hs (Ne.symm hL)) d
  |cell c' o a b e f g=>exact .cell c' o a b e ((hs.2 c' fun q=>hy (F.ap hc _ _ c (q▸b) h1)).trans f) g
end
def PY(C:Cx)(ih:Ih)(d:Nat):Prop:=∀g as s v s',(ih.ca g as s).leaf C.ν=some (v,s')→∀Z J M A st rg ras,aq C J M s st.heap→bz A d→bZ C Z J st.heap→ao C J M st.heap g rg→ay C J M st.heap as ras→
 (∀Q E,(∀k,Q k st)→ab (Md C) A (keeperOf rg) Q E st)∧∀Q E,KV C Z J M st v s' Q→ab (Md C) A (call rg ras []) Q E st
structure FnAt(C:Cx)(k:Nat)(f:Fn)(o:Obj)(fd:FuncData)(body:List Stmt)(cs:Bool)(ds:List Value)(kd:Kd):Prop where
 at_:C.hb.get? (C.mv k)=some o
 data:o.data=.func fd
 code:C.hb.CodeRec fd.code fd.qualname
 nP:fd.body=.stmts body
 uU:fd.closure=[]
 glob:fd.globals=mainGlobals
 iO:fd.builtins=builtinsNs
 kind:fd.scope.kind=.function
 co:fd.scope.isCoroutine=false
 gen:fd.scope.isGenerator=false
 pos:fd.params.posonlyargs=[]
 args:fd.params.args.map (·.arg)=f.ps.map C.nm
 vararg:fd.params.vararg=none
 N9:fd.params.kwonlyargs=[]
 kwarg:fd.params.kwarg=none
 nd:(f.ps.map C.nm).Nodup
 Pd:ds.length≤f.ps.length
 dflt:(fd.defaults=.none∧ds=[])∨∃T o n,fd.defaults=.ref T∧C.hb.get? T=some o∧o.data=.seq ds.toArray n
 Pb:∀J M h,(∀b o,C.hb.get? b=some o→¬M b∧h.get? b=some o)→ay C J M h f.df ds
 qY:∀x,fd.scope.names.lookup x≠some .free
 kinds:∀x∈f.ps,fd.scope.names.lookup (C.nm x)=some .local∨fd.scope.names.lookup (C.nm x)=some .cell
 Ep:kd.k=fun x=>fd.scope.names.lookup x
 nT:∀c,kd.code=some c→fd.code=.ref c∧fd.qualname++".<locals>."=kd.qual∧cs=false
 fits:cQ C kd cs f.body body
def uN(C:Cx)(k:Nat)(f:Fn):Prop:=∃o fd body cs ds kd,FnAt C k f o fd body cs ds kd
theorem gS:∀(names:List (Str×NameKind))(n:Nat)(acc:List (Str×Addr))(x:Str),(acc.lookup x).isSome=true→((cellsFrom n names acc).lookup x).isSome=true
 |[],_,_,_,h=>h
 |(y,k)::r,n,acc,x,h=>by
  unfold cellsFrom;split
  ·refine gS r _ _ x ?_
   rw [List.lookup_cons];split
   ·rfl
   ·exact h
  ·exact gS r _ _ x h
theorem de:∀(names:List (Str×NameKind))(n:Nat)(acc:List (Str×Addr))(x:Str),names.lookup x=some .cell→((cellsFrom n names acc).lookup x).isSome=true
 |[],_,_,_,h=>by simp at h
 |(y,k)::r,n,acc,x,h=>by
  rw [List.lookup_cons]at h;unfold cellsFrom;cases q:x==y with
  |true=>
   rw [q]at h;injection h with h;subst h;rw [if_pos (by rfl)]
   refine gS r _ _ x ?_
   rw [List.lookup_cons,q];rfl
  |false=>
   rw [q]at h;split
   ·exact de r _ _ x h
   ·exact de r _ _ x h
theorem Ah{kd:Str→Option NameKind}{n:Str}(l:List (Str×Value)):∀(m:Str→Option Value),n∉l.map (·.1)→bindL kd l m n=m n:=by
 induction l with
 |nil=>exact fun Y Y=>rfl
 |cons p r ih=>
  intro m h;rw [List.map_cons,List.mem_cons,not_or]at h;unfold bindL;rw [ih _ h.2];split
  ·show(if n=p.1 then some p.2 else m n)=m n
   rw [if_neg h.1]
  ·rfl
theorem Ai{kd:Str→Option NameKind}{n:Str}(l:List (Str×Value)):∀(m:Str→Option Value),n∉l.map (·.1)→bindC kd l m n=m n:=by
 induction l with
 |nil=>exact fun Y Y=>rfl
 |cons p r ih=>
  intro m h;rw [List.map_cons,List.mem_cons,not_or]at h;unfold bindC;rw [ih _ h.2];split
  ·rfl
  ·show(if n=p.1 then some p.2 else m n)=m n
   rw [if_neg h.1]
theorem DX{kd:Str→Option NameKind}{n:Str}{v:Value}(hk:kd n=some .local)(l:List (Str×Value)):∀(m:Str→Option Value),(l.map (·.1)).Nodup→(n,v)∈l→bindL kd l m n=some v:=by
 induction l with
 |nil=>exact fun Y Y h=>nomatch h
 |cons p r ih=>
  intro m nd h;rw [List.map_cons,List.nodup_cons]at nd;unfold bindL;rcases al_mc h with e|h
  ·subst e
   rw [Ah r _ nd.1,if_pos hk];simp
  ·exact ih _ nd.2 h
theorem DY{kd:Str→Option NameKind}{n:Str}{v:Value}(hk:kd n≠some .local)(l:List (Str×Value)):∀(m:Str→Option Value),(l.map (·.1)).Nodup→(n,v)∈l→bindC kd l m n=some v:=by
 induction l with
 |nil=>exact fun Y Y h=>nomatch h
 |cons p r ih=>
  intro m nd h;rw [List.map_cons,List.nodup_cons]at nd;unfold bindC;rcases al_mc h with e|h
  ·subst e
   rw [Ai r _ nd.1,if_neg hk];simp
  ·exact ih _ nd.2 h
section
theorem om{nm:Nat→Str}{x:Nat}{ps:List Nat}:∀{as:List AV}{rs:List Value},ay C J M h as rs→az (ps.zip as) x=some v→∃rv,ao C J M h v rv∧(nm x,rv)∈(ps.map nm).zip rs∧x∈ps:=by
 induction ps with
 |nil=>exact fun Y e=>no e
 |cons p ps ih=>
  intro as rs V e;cases as with
  |nil=>exact no e
  |cons a as=>
   refine V.oI fun w rs V r=>?_
   cases q:Nat.beq p x with
   |true=>
    have e:=(oo (p:=(p,a)) (r:=ps.zip as) q).symm.trans e
    cases al_beq q
    exact⟨w,al_inj e▸V,al_self,al_self⟩
   |false=>exact lu (ih r ((l7 (p:=(p,a)) (r:=ps.zip as) q).symm.trans e)) fun rv h1 h2 h3=>⟨rv,h1,al_con _ h2,al_con _ h3⟩
theorem aq.uF(S:aq C J M s st.heap){h₁:Heap}{own:Addr→Prop}(hk:∀b o,st.heap.get? b=some o→h₁.get? b=some o)(hn:∀a,own a→st.heap.get? a=none)(hl:∀a,own a→∃o,h₁.get? a=some o):
  aq C J (fun a=>M a∨own a) s h₁∧aJ Z J M st.heap J (fun a=>M a∨own a) h₁:=by
 have G:aJ Z J M st.heap J (fun a=>M a∨own a) h₁:=⟨⟨[],by simp,fun Y m=>nomatch m⟩,⟨fun b o e=>⟨o,hk b o e⟩,fun b o Y e=>hk b o e⟩,fun Y x=>.inl x,fun a x=>x.imp id (hn a)⟩
 refine⟨⟨S.len,S.lim,S.gC,S.nodup,S.low,fun i o a e q=>(S.obj i o a e q).grow G fun x=>hk a x,fun i a q hi=>.inl (S.je i a q hi),fun i a q hi=>fun x=>x.elim (S.ye i a q hi) fun x=>?_,fun a m=>let⟨o,e⟩:=S.there a m;⟨o,hk _ _ e⟩,fun a m=>m.elim (fun m=>let⟨o,e⟩:=S.mlt a m;⟨o,hk _ _ e⟩) (hl a),fun b o e=>⟨fun x=>x.elim (S.base b o e).1 fun x=>aM (S.base b o e).2 (hn b x),hk b o (S.base b o e).2⟩,fun p hp=>?_,S.rg⟩,G⟩
 ·refine dm (S.there a (al_mem q):) fun o e=>?_
  exact aM e (hn a x)
 ·obtain⟨⟨ps,a1,a2,a3,a4⟩,a5⟩:=S.tab p hp
  refine⟨⟨ps,.inl a1,hk _ _ a2,a3,fun pos cv e=>?_⟩,a5⟩
  refine uT (a4 pos cv e:) fun c oc vs t e1 e2 e3 e4=>?_
  exact⟨c,oc,vs,t,e1,G.notM e2 e3,hk _ _ e3,e4⟩
theorem k9{ps:List Nat}{df:List AV}(e:bindArgs ps df as=some ρ):as.length≤ps.length∧ps.length≤as.length+df.length∧ρ=ps.zip (as++df.drop (as.length+df.length - ps.length)):=by
 exact aw (aB e) fun q e=>⟨al_ble (ae q).1,al_ble (ae q).2,(al_inj e).symm⟩
def uK(A:Around)(d:Nat):Prop:=A.handled=none∧A.depth+2*d+5<recursionLimit∧A.units+12*d+43<cLine
theorem bz.c(R:bz A (d+1)):uK A d:=⟨R.1,by have:=R.2.1;lia,by have:=R.2.2;lia⟩
theorem uK.deeper(R:uK A d)(env:PySem.Env):bz (A.deeper env) d:=by
 refine dz (R:) fun h1 h2 h3=>?_
 refine⟨h1,?_,?_⟩
 ·show A.depth+1+2*d+4<_
  lia
 ·show A.units+3+12*d+40<_
  lia
theorem yg(hlim:C.hb.NoLimit)(H:uW C ih d){f:Fn}(hf:P.fs.get k=some f)(O:uN C k f)(e:(nq P ih k as s).leaf C.ν=some (v,s'))(S:aq C J M s st.heap)(R:uK A d)(z:bZ C Z J st.heap)(V:ay C J M st.heap as ras){T:Result→Shared→Prop}(K:KV C Z J M st v s' fun rv s'=>T (.ok (.ret rv)) s'):
  aY (Md C) A (.call (.ref (C.mv k)) ⟨ras,[]⟩) T st:=by
 obtain⟨o,fd,body,cs,ds,kd,O⟩:=O
 refine aC (aI e) fun f' Qq e=>?_
 cases al_inj (hf.symm.trans Qq)
 refine aC (aI e) fun ρ hb e=>?_
 refine aH.UD e fun fl ρ' ag e1 e=>?_
 obtain⟨rfl,rfl⟩:=pi_inj e
 obtain⟨b1,b2,rfl⟩:=k9 hb
 have hbase:∀b o,C.hb.get? b=some o→st.heap.get? b=some o:=fun b o e=>(S.base b o e).2
 have Vd:=O.Pb J M st.heap S.base
 have dl:=Vd.length
 have vl:=V.length
 refine iL (by have:=R.2.1;lia) (hbase _ _ O.at_) O.data O.co O.gen O.nP (let⟨c,oc,vs,t,q1,q2,q3,q4⟩:=O.code;⟨c,oc,vs,t,q1,hbase _ _ q2,q3,q4⟩) ?_
 have hB:BindsTo st fd ⟨ras,[]⟩ ((f.ps.map C.nm).zip (ras++ds.drop (ras.length+ds.length - (f.ps.map C.nm).length))):=by
  refine mc O.pos O.args O.vararg O.N9 O.kwarg (fun M A E Q hq=>?_) (by rw [List.length_map];lia) (by rw [List.length_map];lia) (by rw [List.length_map];exact O.Pd) O.nd
  rcases O.dflt with⟨q1,q2⟩|⟨T,o,n,q1,q2,q3⟩
  ·rw [q1]
   refine PySem.wpAny_bind (PySem.wpAny_pure (PySem.wpAny_pure (hq _ ?_)))
   rw [q2];rfl
  ·rw [q1]
   exact wpAny_seqItems (hbase _ _ q2) q3 (hq _ rfl)
 refine lf (hB _ _ _ _ ?_)
 have hkk:∀x∈(f.ps.map C.nm).zip (ras++ds.drop (ras.length+ds.length - (f.ps.map C.nm).length)),∃y∈f.ps,x.1=C.nm y:=fun x hx=>by
  have:=(List.of_mem_zip (a:=x.1) (b:=x.2) hx).1
  refine aC (List.mem_map.mp this:) fun y h1 h2=>?_
  exact⟨y,h1,h2.symm⟩
 rw [O.uU];refine lf<|wpAny_newFunctionEnv_cells O.kind (fun x hx=>?_) fun env he aK I=>?_
 ·refine aC (hkk x hx:) fun y h1 h2=>?_
  rw [h2];exact(O.kinds y h1).imp id fun q=>⟨q,de _ _ _ _ q⟩
 ·subst he
  have hlk:=I.toInCall.keep
  obtain⟨h₁,tk,rfl⟩:=I.toInCall.same
  refine⟨(hlim.keeps hbase).keeps hlk,qF ?_⟩
  have hzip:=Vd.drop (ras.length+ds.length - (f.ps.map C.nm).length)
  have hV:ay C J M st.heap (as++f.df.drop (as.length+f.df.length - f.ps.length)) (ras++ds.drop (ras.length+ds.length - (f.ps.map C.nm).length)):=by
   rw [vl,dl,←List.length_map (f:=C.nm) (as:=f.ps)]
   exact V.append hzip
  have hnd:(((f.ps.map C.nm).zip (ras++ds.drop (ras.length+ds.length - (f.ps.map C.nm).length))).map (·.1)).Nodup:=by
   rw [List.map_fst_zip (by rw [List.length_append,List.length_drop,List.length_map];lia)]
   exact O.nd
  have hdead:∀c,st.heap.objs.size≤c→st.heap.get? c=none:=fun c hc=>by
   cases q:st.heap.get? c with
   |none=>rfl
   |some o=>exact absurd (Heap.lt_size q) (Nat.not_lt.mpr hc)
  have hup:∀n c,(cellsFrom (st.heap.objs.size+1) fd.scope.names []).lookup n=some c→st.heap.objs.size<c:=fun n c q=>I.above n c (mem_of_lookup q)
  have hce:=I.cell
  have hns:=I.toInCall.ns
  have hA:=aq.uF (Z:=Z) (h₁:=h₁) (own:=fun a=>a=st.heap.objs.size∨(cs=true∧∃n,(cellsFrom (st.heap.objs.size+1) fd.scope.names []).lookup n=some a)) S hlk
   (fun a q=>q.elim (fun q=>hdead a (Nat.le_of_eq q.symm)) fun⟨_,n,q⟩=>hdead a (Nat.le_of_lt (hup n a q)))
   (fun a q=>q.elim (fun q=>by refine ml (hns:) fun o es ep e Y=>?_;exact⟨o,q▸e⟩) fun⟨_,n,q⟩=>let⟨o,e,_⟩:=hce n a q;⟨o,e⟩)
  obtain⟨aD,aF⟩:=hA
  refine H f.body _ s fl ρ' _ e1 kd cs body O.fits Z J _ (fun a=>a=st.heap.objs.size∨(cs=true∧∃n,(cellsFrom (st.heap.objs.size+1) fd.scope.names []).lookup n=some a)) _ _ _ ⟨⟨O.glob,O.iO,O.kind,fun Y=>by rw [O.Ep];rfl,fun x q=>by
   rw [O.Ep]at q;exact q.elim (fun q=>Option.isSome_iff_exists.mp (de _ _ _ _ q)) fun q=>absurd q (O.qY x),(fun x c q=>let⟨o,e,_⟩:=hce x c q;⟨o,e⟩),(fun c q=>let⟨a1,a2,a3⟩:=O.nT c q;⟨a1,a2,fun x a q=>by
   rintro(q'|q'|q')
   ·refine dm (S.mlt a q':) fun o e=>?_
    exact aM e (hdead a (Nat.le_of_lt (hup x a q)))
   ·exact Nat.ne_of_gt (hup x a q) q'
   ·rw [a3]at q';cases q'.1⟩),fun x w q hm=>?_⟩,?_,?_,.inl rfl,⟨_,hns⟩,?_,fun n c q=>Nat.ne_of_gt (hup n c q),fun Y x y c q q'=>name_of_addr I.apart (mem_of_lookup q) (mem_of_lookup q'),O.kind⟩ aD (R.deeper _) (z.bF aF) _ _ fun σ' M' h' HQ OH G S' F' r=>?_
  ·refine lu (om (nm:=C.nm) hV q:) fun rv V1 h1 h2=>?_
   refine⟨rv,?_,V1.grow aF⟩
   rcases O.kinds x h2 with hk|hk
   ·exact .loc _ hk (.inr (.inl rfl)) hns (DX hk _ _ hnd h1)
   ·refine dm (Option.isSome_iff_exists.mp (de fd.scope.names (st.heap.objs.size+1) [] (C.nm x) hk):) fun c hc=>?_
    refine aC (hce _ _ hc:) fun oc c1 c2=>?_
    rw [DY (by show fd.scope.names.lookup (C.nm x)≠_;rw [hk];exact fun q=>by(injection q with q;injection q)) _ _ hnd h1]at c2
    refine .cell c oc (.inl hk) hc ?_ c1 c2
    cases cs with
    |true=>exact .inl (.inr (.inr ⟨rfl,_,hc⟩))
    |false=>
     refine .inr fun q=>q.elim (fun q=>let⟨o,e⟩:=S.mlt c q;aM e (hdead c (Nat.le_of_lt (hup _ c hc)))) fun q=>q.elim (fun q=>?_) fun q=>by cases q.1
     exact absurd q (Nat.ne_of_gt (hup _ c hc))
  ·intro a q
   refine⟨.inr q,fun hz=>?_⟩
   obtain⟨⟨o,e⟩,_⟩:=z a hz
   exact aM e (q.elim (fun q=>hdead a (Nat.le_of_eq q.symm)) fun⟨_,n,q⟩=>hdead a (Nat.le_of_lt (hup n a q)))
  ·intro a q
   have hd:st.heap.get? a=none:=q.elim (fun q=>hdead a (Nat.le_of_eq q.symm)) fun⟨_,n,q⟩=>hdead a (Nat.le_of_lt (hup n a q))
   refine⟨q.elim (fun q=>by refine ml (hns:) fun o es ep e Y=>?_;exact⟨o,q▸e⟩) fun⟨_,n,q⟩=>let⟨o,e,_⟩:=hce n a q;⟨o,e⟩,fun m=>?_,fun p hp q=>?_⟩
   ·refine dm (S.there a m:) fun o e=>?_
    exact aM e hd
   ·obtain⟨⟨ps,a1,a2,a3,a4⟩,a5⟩:=S.tab p hp
    rw [←q]at a2;exact aM a2 hd
  ·intro hcs x hk
   rw [O.Ep]at hk;refine dm (Option.isSome_iff_exists.mp (de fd.scope.names (st.heap.objs.size+1) [] x hk):) fun c hc=>?_
   exact⟨c,_,hc,hce _ _ hc,.inr ⟨hcs,_,hc⟩⟩
  ·cases fl with
   |nx=>
    have:OH=.next:=r
    subst this;exact K σ' M' h' HQ .none (aF.trans G) S' .none
   |rt w=>
    obtain⟨rv,rfl,V'⟩:=r
    exact K σ' M' h' HQ rv (aF.trans G) S' V'
theorem yh(hlim:C.hb.NoLimit)(H:uW C ih d){f:Fn}(hf:P.fs.get k=some f)(O:uN C k f)(e:(nq P ih k as s).leaf C.ν=some (v,s'))(S:aq C J M s st.heap)(R:uK A d)(z:bZ C Z J st.heap)(V:ay C J M st.heap as ras)(K:KV C Z J M st v s' Q):
  ab (Md C) A (call (.ref (C.mv k)) ras []) Q E st:=dj (yg hlim H hf O e S R z V K)
end
section
variable{ex:Expr}
theorem rB{f:Value}{Q:Args→Shared→Prop}(h:ab (Md C) A (spliced []) (fun vs s'=>Q ⟨vs,[]⟩ s') E st):ab (Md C) A (evalArgs f true [] []) Q E st:=by
 unfold evalArgs;show ab _ A (spliced []>>=_) Q E st;exact aa (aG h (fun vs s' h'=>aj (aa (af (aa (af (af h')))))) fun Y Y x=>x)
theorem dJ{f:Value}{es:List CE}(hf:cP C kd es xs)(pos:Pos){Q:Args→Shared→Prop}(h:ab (Md C) A (spliced (backTo pos (starEach xs env))) (fun vs s'=>Q ⟨vs,[]⟩ s') E st):
  ab (Md C) A (evalArgs f true (backTo pos (starEach xs env)) []) Q E st:=by
 cases es with
 |nil=>
  rw [hf.nl]at h⊢;exact rB h
 |cons a es=>
  refine Kk hf.un fun x r q h1 h2 h3=>?_
  rw [q,dI h2]at h⊢;exact evalArgs_plain h
theorem gc{es:List CE}(hf:cP C kd es xs)(pos:Pos):(backTo pos (starEach xs env)).any (·.1)=false:=by
 induction es generalizing xs with
 |nil=>exact hf.nl▸rfl
 |cons a es ih=>exact hf.oI fun x r Y h2 h3=>dI h2▸ih h3
theorem eH{f:Value}{first:List Value}{args:List (Bool×Sem Value)}(hp:args.any (·.1)=false)
  (h:ab (Md C) A (evalArgs f true args []) (fun x ag=>(∀Q E,(∀k,Q k ag)→ab (Md C) A (keeperOf f) Q E ag)∧ab (Md C) A (call f (first++x.pos) x.kw) Q E ag) E st):ab (Md C) A (callWith pos f first args []) Q E st:=by
 unfold callWith;refine aa (aj (aG h (fun x ag h₁=>aa (au ?_)) fun Y Y x=>x))
 have tail:∀{t:Sem Value},ab (Md C) A t Q E ag→ab (Md C) A (t>>=fun r=>holding [r] point>>=fun Y=>pure r) Q E ag:=
  fun ht=>aa (aG ht (fun r aK hr=>aa (aj (gF (af hr)))) fun Y Y x=>x)
 rw [hp];have mk:∀m,ab (Md C) A (callMarked m f (first++x.pos) x.kw) Q E ag:=fun m=>by unfold callMarked;exact uY h₁.2
 refine aa (h₁.1 _ _ fun k=>?_)
 cases k with
 |machine=>exact tail h₁.2
 |frame=>
  show ab (Md C) A (if _ then _ else _) Q E ag;exact fm (fun Y=>tail h₁.2) fun Y=>tail (mk _)
 |boundFrame=>
  show ab (Md C) A (if _ then _ else _) Q E ag;exact fm (fun Y=>tail h₁.2) fun Y=>tail (mk _)
 |caller=>exact tail (cm h₁.2)
theorem Jh(H:fV C ih d)(HC:PY C ih d){f:CE}{es:List CE}(e:(cq P N ih (.call f es) ρ s).leaf C.ν=some (v,s'))(h1:aU C kd f x)(h2:∀o n p,x≠.Attribute o n p)(h3:cP C kd es xs)(F:eZ C Z J M kd env ρ st.heap)(S:aq C J M s st.heap)(R:bz A d)(z:bZ C Z J st.heap)(K:KV C Z J M st v s' Q):
  ab (Md C) A (eval (.Call x xs [] pos) env) Q E st:=by
  unfold cq at e;refine aH.cz e fun g ag e1 e=>?_
  refine aH.cz e fun vs aK e2 e=>?_
  have q:eval (.Call x xs [] pos) env=(eval x env>>=fun f=>callWith pos f [] (backTo pos (starEach xs env)) []):=by
   cases x<;>first|rfl|exact absurd rfl (h2 _ _ _)
  rw [q];refine aa (H f ρ s g ag e1 kd _ h1 Z J M env A st F S R z _ _ fun aA aN h₁ aS rg aF aD bV=>?_)
  refine eH (gc h3 pos) (dJ h3 pos (fS H e2 h3 pos (st:={st with heap:=h₁,toks:=aS}) (F.grow aF) aD R (z.grow aF) fun cg dG bl bb rvs aZ bN dN=>?_))
  have G:=aF.trans aZ
  have c:=HC g vs aK v s' e Z cg dG A {st with heap:=bl,toks:=bb} rg rvs bN R (z.grow G) (bV.grow aZ) dN
  exact⟨c.1,c.2 _ _ (K.after G)⟩
theorem vb(A:Around)(c:Addr)(rest:List Value)(kw:List (Str×Value)):(A.under (.builtin "type.__call__" ⟨.ref c::rest,kw⟩)).handled=A.handled∧(A.under (.builtin "type.__call__" ⟨.ref c::rest,kw⟩)).depth=A.depth+1∧(A.under (.builtin "type.__call__" ⟨.ref c::rest,kw⟩)).units=A.units+1:=by
 refine⟨rfl,?_,?_⟩
 ·show A.depth+Code.weight _=_
  rfl
 ·show A.units+Code.cUnits _=_
  rfl
theorem zu{f:Fn}(O:uN C k f)(S:aq C J M s st.heap){Q:Keeper→Shared→Prop}(K:∀k,Q k st):ab (Md C) A (keeperOf (.ref (C.mv k))) Q E st:=by
 obtain⟨o,fd,body,cs,ds,kd,O⟩:=O
 unfold keeperOf;refine aa (lf<|wpAny_load (S.base _ _ O.at_).2 ?_);rw [O.data];exact af (K _)
theorem vJ(W:Wd C P){c f:Nat}{ms:List (Nat×Nat)}(hc:P.cs.get c=some (f,ms))(S:aq C J M s st.heap){Q:Keeper→Shared→Prop}(K:∀k,Q k st):ab (Md C) A (keeperOf (.ref (C.cZ c))) Q E st:=by
 have Y1:=makes_of (M:=Md C) (Oc W S) (W.cls _ _ _ hc).T7
 refine H8 (Y1.obj:) fun oc od cd sl h1 Y=>?_
 unfold keeperOf;refine aa (lf<|wpAny_load h1 ?_);refine aa (lf (Y1.call.here ?_));exact af (K _)
theorem CM(h:Iq v=true):v=.none:=by cases v<;>first|rfl|exact Bool.noConfusion h
theorem Kp{hh:Heap}{c:Nat}(S:aq C J M s hh)(R7:Nat.blt s.n 1000000=true)(R6:Nat.blt (s.new (.ns [])).2.n 1000000=true):
  ((hh.push emptyDict).push (instObj (C.cZ c) hh.objs.size)).get? (hh.objs.size+1)=some (instObj (C.cZ c) hh.objs.size)∧aq C (J++[hh.objs.size]++[hh.objs.size+1]) (fun b=>(M b∨b=hh.objs.size)∨b=hh.objs.size+1) ((s.new (.ns [])).2.new (.inst c s.n)).2 ((hh.push emptyDict).push (instObj (C.cZ c) hh.objs.size))∧
  aJ Z J M hh (J++[hh.objs.size]++[hh.objs.size+1]) (fun b=>(M b∨b=hh.objs.size)∨b=hh.objs.size+1) ((hh.push emptyDict).push (instObj (C.cZ c) hh.objs.size))∧(J++[hh.objs.size]++[hh.objs.size+1])[(s.new (.ns [])).2.n]?=some (hh.objs.size+1)∧True∧True:=by
 have k1:∀b o,hh.get? b=some o→(hh.push emptyDict).get? b=some o:=fun b o e=>Heap.get?_push_of_some _ e
 have k2:∀b o,(hh.push emptyDict).get? b=some o→((hh.push emptyDict).push (instObj (C.cZ c) hh.objs.size)).get? b=some o:=fun b o e=>Heap.get?_push_of_some _ e
 refine dz (S.alloc (Z:=Z) R7 k1 (Heap.ba _) (.ns []) (.ns [] _ [] 0 (Heap.get?_push_size _ rfl) .nil)) fun aD aF Od=>?_
 have hd2:(hh.push emptyDict).get? (hh.objs.size+1)=none:=Heap.size_push (h:=hh) (o:=emptyDict)▸Heap.ba (hh.push emptyDict)
 have g2:((hh.push emptyDict).push (instObj (C.cZ c) hh.objs.size)).get? (hh.objs.size+1)=some (instObj (C.cZ c) hh.objs.size):=by
  have:=Heap.get?_push_size (hh.push emptyDict) (o:=instObj (C.cZ c) hh.objs.size) rfl
  rwa[Heap.size_push]at this
 refine dz (aD.alloc (Z:=Z) R6 k2 hd2 (.inst c s.n) (.inst c s.n _ hh.objs.size g2 ((List.getElem?_append_left (List.getElem?_eq_some_iff.mp Od).1).trans Od))) fun bN aZ FU=>⟨g2,bN,aF.trans aZ,FU,trivial,trivial⟩
theorem uq(W:Wd C P)(hlim:C.hb.NoLimit)(hfn:∀k f,P.fs.get k=some f→uN C k f)(H:uW C ih d){ok:Bool}{c:Nat}(e:(xq P ih ok (.cls c) as s).leaf C.ν=some (v,s'))(S:aq C J M s st.heap)(R:bz A (d+1))(z:bZ C Z J st.heap)(V:ay C J M st.heap as ras)(K:KV C Z J M st v s' Q):
  (∀Q E,(∀k,Q k st)→ab (Md C) A (keeperOf (.ref (C.cZ c))) Q E st)∧ab (Md C) A (call (.ref (C.cZ c)) ras []) Q E st:=by
 refine aC (aI e) fun p hc e=>⟨fun Q E K=>vJ W hc S K,?_⟩
 refine aH.cz e fun i ag e1 e=>aH.cz e fun j aK e2 e=>aH.cz e fun w bI e3 e4=>aw (cC e4) fun hw e5=>?_
 obtain⟨R7,rfl,rfl⟩:=eS e1
 obtain⟨R6,rfl,rfl⟩:=eS e2
 refine aC (aI e3) fun fn hfs Y=>?_
 rw [CM hw]at e3;have O:=W.cls _ _ _ hc
 have X:=Oc W S
 obtain⟨hh,g,dr,t,os⟩:=st
 refine Rp (Kp (Z:=Z) (c:=c) (hh:=hh) S R7 R6) fun g2 bN G FU v8 Y=>?_
 refine dj (yL (makes_of X O.T7) (looks_findIn X O.Ud.1) (fun self=>bind_fn X self O.Ud.2) (.inl rfl) ?_)
 refine dz (vb A (C.cZ c) ras []) fun u1 u2 u3=>?_
 refine yg hlim H (k:=p.1) (f:=fn) hfs (hfn _ _ hfs) (ras:=.ref (hh.objs.size+1)::ras) e3 bN ⟨u1.trans R.1,by rw [u2];have:=R.2.1;lia,by rw [u3];have:=R.2.2;lia⟩ (z.grow G) (.cons (.ref _ _ FU) (V.grow G)) fun σ' M' h' tk rv G' S' V'=>?_
 exact(ao.inv V':rv=.none)▸⟨rfl,K.of e5 σ' M' h' tk _ (G.trans G') S' ((ao.ref _ _ FU).grow G')⟩
end
section
variable{ex:Expr}
theorem yK{es:List CE}(hf:cP C kd es xs)(pos:Pos):(backTo pos (starEach xs env)).all (!·.1)=true:=by
 induction es generalizing xs with
 |nil=>exact hf.nl▸rfl
 |cons a es ih=>exact hf.oI fun x r Y h2 h3=>dI h2▸ih h3
theorem zk{es:List CE}{nm:Str}{apos:Pos}(h3:∀id p q,x≠.Call (.Name id p) [] [] q)(hf:cP C kd es xs)(hl:xs.length<30)(hp:(apos.endLine==pos.line)=true)
  (h:ab (Md C) A (eval x env) (fun ov ag=>ab (Md C) A (getMethod ov nm (do return (←importBound x env).getD true)) (fun fx aK=>ab (Md C) A (callWith pos fx.1 fx.2 (backTo pos (starEach xs env)) []) Q E aK) E ag) E st):
  ab (Md C) A (eval (.Call (.Attribute x nm apos) xs [] pos) env) Q E st:=by
 have q:eval (.Call (.Attribute x nm apos) xs [] pos) env=(do
   let ov←attributeBase x nm env (eval x env)
   standAt apos.atName
   methodCall x nm apos pos env ov (xs.length+0) (backTo pos (starEach xs env)) []):=rfl
 rw [q,uC h3];have hm:methodCallForm (xs.length+0) (backTo pos (starEach xs env)) []=true:=by
  unfold methodCallForm;rw [yK hf pos]
  simpa using hl
 refine aa (aG h (fun ov ag h₁=>aa (au ?_)) fun Y Y x=>x)
 unfold methodCall calleeOf methodCallPos;rw [hm];refine aa (aj (aG (by simpa using h₁) (fun fx aK bl=>?_) fun Y Y x=>x))
 simp only[hp,Bool.not_true,Bool.false_or,if_true]
 exact aa (af bl)
theorem pA(H:fV C ih d)(HC:PY C ih d){g:AV}{first:List AV}{rg:Value}{rf:List Value}{es:List CE}(e:((qj ih es ρ s).bind fun(vs,s)=>ih.ca g (first++vs) s).leaf C.ν=some (v,s'))(h3:cP C kd es xs)(F:eZ C Z J M kd env ρ st.heap)
  (S:aq C J M s st.heap)(R:bz A d)(z:bZ C Z J st.heap)(Vg:ao C J M st.heap g rg)(Vf:ay C J M st.heap first rf)(K:KV C Z J M st v s' Q):ab (Md C) A (callWith pos rg rf (backTo pos (starEach xs env)) []) Q E st:=by
 refine aH.cz e fun vs aK e2 e=>?_
 refine eH (gc h3 pos) (dJ h3 pos (fS H e2 h3 pos F S R z fun cg dG bl bb rvs aZ bN dN=>?_))
 have c:=HC g (first++vs) aK v s' e Z cg dG A {st with heap:=bl,toks:=bb} rg (rf++rvs) bN R (z.grow aZ) (Vg.grow aZ) ((Vf.grow aZ).append dN)
 exact⟨c.1,c.2 _ _ (K.after aZ)⟩
theorem sE{l:List (Nat×AV)}(inj:∀x y,C.nm x=C.nm y→x=y)(R:bY C J M h l es)(e:az l n=none):shadowIn (some (bG es k)) (C.nm n)=some false:=by
 have:=R.find inj n
 rw [e]at this;show(lookIn (C.nm n) (bG es k)).map (·.isSome)=some false;rw [lookIn_dict R.noRef,show es.find? _=none from this];rfl
end
end
end Mine.Internal
namespace Mine.Internal
open PySem PySem.W PyProof.Rows PySem.SeqAt PySem.Builtin.Str
noncomputable section
variable{Q:Value→Shared→Prop}{h:Heap}{i:Nat}{l vC:List AV}{vs:List Value}
structure L5(C:Cx)(N:oO):Prop where
 append:C.nm N.append="append"
 extend:C.nm N.extend="extend"
 pop:C.nm N.pop="pop"
 split:C.nm N.split="split"
 find:C.nm N.find="find"
 join:C.nm N.join="join"
 get:C.nm N.get="get"
theorem o7{a b:Nat}(h:Nat.beq a b=true):a=b:=al_beq h
theorem gY(t:Str):aP t.cps.toList=t:=by cases t;simp[aP]
section
variable{C:Cx}{P:Pg}{N:oO}{ih:Ih}{d:Nat}{ρ:Env}{s s':AS}{v w:AV}{kd:Kd}{Z:Addr→Prop}{J:List Addr}{M:Addr→Prop}{env:PySem.Env}{A:Around}{st:Shared}{ex:Expr}{E:Value→Shared→Prop}
theorem sA:∀(l:List (Str×Tok)),ay C J M h ((l.map (·.1)).map fun t=>AV.str t.cps.toList) (strValues l)
 |[]=>.nil
 |(t,k)::r=>by
  refine .cons (v:=.str t k) ?_ (sA r)
  have q:ao C J M h (.str t.cps.toList) (.str (aP t.cps.toList) k):=ao.str t.cps.toList k
  rwa[gY]at q
theorem fj(f:Array Value→Array Value)(vs ws:List Value)(n:Nat)(h:f vs.toArray=ws.toArray):∃n',Obj.mapSeq f (bS vs n)=bS ws n':=by
 refine⟨if(f vs.toArray).size==vs.toArray.size then n else n+1,?_⟩
 show({cls:=.type "list",data:=.seq (f vs.toArray) _}:Obj)=_
 rw [h]
set_option tactic.hygienic true in
theorem Ew{x y:List Nat}{t u:Tok}(e:((match Nat.ble 1 y.length with
    |true=>jD x.length (jD (Txt.split ⟨x.toArray⟩ ⟨y.toArray⟩).length (newList s ((Txt.split ⟨x.toArray⟩ ⟨y.toArray⟩).map fun(t:Str)=>AV.str t.cps.toList)))
    |false=>.bad 42).leaf C.ν)=some (v,s'))(S:aq C J M s st.heap)(K:KV C Z J M st v s' Q):ab (Md C) A (call (.builtin "str.split") [.str (aP x) t,.str (aP y) u] []) Q E st:=by
 split at e
 ·rename_i hy
  refine aw (bu e:) fun hx e=>?_
  refine aw (bu e:) fun hn e=>?_
  have hy:((aP y).length==0)=false:=by
   rw [beq_eq_false_iff_ne,i0];have:=al_ble hy
   lia
  have RU:(aP x).length≤sizeLine:=by rw [i0];exact bJ hx
  have key:∀(l:List (Str×Tok)) tk,l.map (·.1)=Txt.split (aP x) (aP y)→Q (.ref st.heap.objs.size) {st with heap:=st.heap.push (bS (strValues l) 0),toks:=tk}:=fun l tk hl=>by
   refine gj e S ?_ K tk (fun Y Y e=>Heap.get?_push_of_some _ e) (Heap.ba _) (Heap.get?_push_size _ rfl)
   show ay C J M st.heap ((Txt.split (aP x) (aP y)).map _) _;rw [←hl];exact sA l
  cases h1:(decide ((aP x).length<(aP y).length)||decide (PySem.Builtin.Str.strKind (aP x)<PySem.Builtin.Str.strKind (aP y)))
  ·cases hf:(occurrences (aP x) (aP y) 0 (aP x).length ((aP x).length+1)).isEmpty
   ·have hsp:Txt.split (aP x) (aP y)=partsBetween (aP x) (occurrences (aP x) (aP y) 0 (aP x).length ((aP x).length+1)) (aP y).length:=(if_neg (ne_true_of_eq_false h1)).trans (if_neg (ne_true_of_eq_false hf))
    have Wo:(partsBetween (aP x) (occurrences (aP x) (aP y) 0 (aP x).length ((aP x).length+1)) (aP y).length).length≤sizeLine:=by
     rw [←hsp];exact bJ hn
    refine lf<|call_meets PySem.F.slot_str_split (typeIs_str _ _ _) PySem.F.entry_str_split (PySem.F.args_str_split_2 _ _) (meets_str_split_sep (aP x) (aP y) t u h1 hy hf RU Wo) ?_
    show wants Q E _ {st with toks:=_,heap:=st.heap.push {cls:=.type "list",data:=.seq (strsFrom st.toks (partsBetween (aP x) (occurrences (aP x) (aP y) 0 (aP x).length ((aP x).length+1)) (aP y).length)).toArray}}
    rw [strsFrom_eq];exact key (numbered st.toks _) _ ((numbered_texts _ _).trans hsp.symm)
   ·exact lf<|call_meets PySem.F.slot_str_split (typeIs_str _ _ _) PySem.F.entry_str_split (PySem.F.args_str_split_2 _ _) (meets_str_split_not_found (aP x) (aP y) t u h1 hy hf)
     (key [(aP x,t)] st.toks ((if_neg (ne_true_of_eq_false h1)).trans (if_pos hf)).symm)
  ·exact lf<|call_meets PySem.F.slot_str_split (typeIs_str _ _ _) PySem.F.entry_str_split (PySem.F.args_str_split_2 _ _) (meets_str_split_cannot_occur (aP x) (aP y) t u h1)
    (key [(aP x,t)] st.toks (if_pos h1).symm)
 ·injection e
theorem lP{α γ:Type}{f:AV→Option α}(g:γ→Value)(T:α→γ→Prop)(hf:∀{a x v},f a=some x→ao C J M h a v→∃c,v=g c∧T x c):∀{xs:List α}{vs:List Value},allOf f l=some xs→ay C J M h l vs→∃m:List (α×γ),xs=m.map (·.1)∧vs=m.map (fun p=>g p.2)∧∀p∈m,T p.1 p.2:=by
 induction l with
 |nil=>exact fun e R=>⟨[],(al_inj e).symm,R.nl,fun Y m=>nomatch m⟩
 |cons a l ih=>
  exact fun e R=>aC (aL e) fun x hx e=>aC (aL e) fun ys hy e=>jP R.un fun v uS ev V R=>aC (hf hx V) fun c hc hT=>lu (ih hy R) fun m h1 h2 h3=>
   ⟨(x,c)::m,(al_inj e).symm.trans (congrArg (x::·) h1),ev.trans (hc▸h2▸rfl),fun p hp=>(al_mc hp).elim (fun q=>q▸hT) (h3 p)⟩
theorem Bx{xs:List (List Nat)}(e:allOf strOf l=some xs)(R:ay C J M h l vs):∃m:List (Str×Tok),vs=strValues m∧m.map (·.1)=xs.map aP:=
 lu (lP (γ:=Str×Tok) (fun p=>.str p.1 p.2) (fun x c=>c.1=aP x) (fun e V=>dm (yZ e▸V:ao C J M h (.str _) _).str_inv fun t q=>⟨(_,t),q,rfl⟩) e R) fun m h1 h2 h3=>
  ⟨m.map (·.2),h2.trans (by unfold strValues;rw [List.map_map];rfl),by rw [h1,List.map_map,List.map_map];exact List.map_congr_left h3⟩
theorem D2{a rv:Value}(S:aq C J M s st.heap)(z:bZ C Z J st.heap)(hnf:C.nf≤i)(el:s.get i=some (.list l))(hl:l.length+1≤100000)(Va:ao C J M st.heap (.ref i) a)(Vw:ao C J M st.heap w rv)(K:KV C Z J M st .none (s.upd i (.list (l++[w]))) Q):
  ab (Md C) A (call (.builtin "list.append") [a,rv] []) Q E st:=by
 refine Va.listE S el fun x vs n hx ex Vs=>?_
 have hlen:=Vs.length
 refine lf<|call_meets PySem.F.slot_list_append ⟨_,ex,rfl⟩ PySem.F.entry_list_append (PySem.F.args_list_append_2 _ _) (list_append x vs.toArray n rv (by rw [List.size_toArray,←hlen];exact bJ (by lia))) ⟨ex,?_⟩
 have U:=S.update (Z:=Z) (f:=Obj.mapSeq fun q=>q.push rv) (o:=.list (l++[w])) hx hnf z el ex rfl fun G hg=>by
  refine dm (fj (fun q=>q.push rv) vs (vs++[rv]) n (by simp):) fun n' q=>?_
  exact .list _ _ (vs++[rv]) n' (hg.trans (congrArg some q)) ((Vs.append (.cons Vw .nil)).grow G)
 exact K J M _ _ .none U.2 U.1 .none
theorem D1{j:Nat}{m:List AV}{a b:Value}(S:aq C J M s st.heap)(z:bZ C Z J st.heap)(hnf:C.nf≤i)(el:s.get i=some (.list l))(em:s.get j=some (.list m))(hl:l.length+m.length≤100000)(Va:ao C J M st.heap (.ref i) a)(Vb:ao C J M st.heap (.ref j) b)(K:KV C Z J M st .none (s.upd i (.list (l++m))) Q):
  ab (Md C) A (call (.builtin "list.extend") [a,b] []) Q E st:=by
 refine Va.listE S el fun x vs n hx ex Vs=>?_
 refine Vb.listE S em fun y ws k hy ey Ws=>?_
 have hlen:=Vs.length
 have CW:=Ws.length
 have hs:vs.toArray.size+ws.toArray.size≤sizeLine:=by rw [List.size_toArray,List.size_toArray,←hlen,←CW];exact bJ hl
 refine lf<|call_meets PySem.F.slot_list_extend ⟨_,ex,rfl⟩ PySem.F.entry_list_extend (PySem.F.args_list_extend_2 _ _) (AutoSeq1.list_extend_list_list_0 x vs.toArray n y ws.toArray k (extend_door hs) (Nat.le_trans (Nat.le_add_right _ _) hs) (Nat.le_succ_of_le hs)) ⟨ex,ey,?_⟩
 have U:=S.update (Z:=Z) (f:=Obj.mapSeq fun q=>q++ws.toArray) (o:=.list (l++m)) hx hnf z el ex rfl fun G hg=>by
  refine dm (fj (fun q=>q++ws.toArray) vs (vs++ws) n (by simp):) fun n' q=>?_
  exact .list _ _ (vs++ws) n' (hg.trans (congrArg some q)) ((Vs.append Ws).grow G)
 exact K J M _ _ .none U.2 U.1 .none
theorem ay.dropLast(V:ay C J M h l vs):ay C J M h l.dropLast vs.dropLast:=by
 rw [List.dropLast_eq_take,List.dropLast_eq_take,V.length];exact V.take _
theorem ay.last{w:AV}(V:ay C J M h l vs)(e:l.getLast?=some w):∃rv,vs[vs.length - 1]?=some rv∧ao C J M h w rv:=
 V.get (V.length▸List.getLast?_eq_getElem?.symm.trans e)
theorem Pz{a:Value}(S:aq C J M s st.heap)(z:bZ C Z J st.heap)(hnf:C.nf≤i)(el:s.get i=some (.list l))(hl:l.length≤100000)(hw:l.getLast?=some w)(Va:ao C J M st.heap (.ref i) a)(K:KV C Z J M st w (s.upd i (.list l.dropLast)) Q):
  ab (Md C) A (call (.builtin "list.pop") [a] []) Q E st:=by
 refine Va.listE S el fun x vs n hx ex Vs=>?_
 have hlen:=Vs.length
 refine aC (Vs.last hw:) fun rv h1 h2=>?_
 refine lf<|call_meets PySem.F.slot_list_pop ⟨_,ex,rfl⟩ PySem.F.entry_list_pop (PySem.F.args_list_pop_1 _) (MeetsSeq.list_pop_last x vs.toArray n rv (by simpa using h1) (by rw [List.size_toArray,←hlen];exact bJ hl)) ⟨ex,?_⟩
 have U:=S.update (Z:=Z) (f:=Obj.mapSeq fun q=>q.eraseIdxIfInBounds (vs.toArray.size - 1)) (o:=.list l.dropLast) hx hnf z el ex rfl fun G hg=>by
  obtain⟨n',q⟩:=fj (fun q=>q.eraseIdxIfInBounds (vs.toArray.size - 1)) vs vs.dropLast n (by
   rcases List.eq_nil_or_concat vs with rfl|⟨p,y,rfl⟩
   ·rfl
   ·unfold Array.eraseIdxIfInBounds
    simp only[List.concat_eq_append,List.size_toArray,List.length_append,List.length_singleton,Nat.add_sub_cancel,List.dropLast_concat]
    rw [dif_pos (Nat.lt_succ_self _)];apply Array.toList_inj.mp;rw [Array.toList_eraseIdx,List.eraseIdx_append_of_length_le (Nat.le_refl _)];simp)
  exact .list _ _ vs.dropLast n' (hg.trans (congrArg some q)) (Vs.dropLast.grow G)
 exact K J M _ _ rv U.2 U.1 (h2.grow U.2)
end
def ie(C:Cx):Prop:=(∀(A:Around)(st:Shared)(E:Value→Shared→Prop)(a:Array UInt8)(t:Tok)(pl:Sem Bool)(Q:Value×List Value→Shared→Prop),Q (.builtin "bytes.join",[.bytes a t]) st→ab (Md C) A (getMethod (.bytes a t) "join" pl) Q E st)∧
 ∀(A:Around)(st:Shared)(E:Value→Shared→Prop)(t:Tok)(x:Addr)(bs:List (Array UInt8×Tok))(n:Nat)(Q:Value→Shared→Prop),st.heap.get? x=some (bS (bs.map fun p=>.bytes p.1 p.2) n)→2≤bs.length→(bs.map fun p=>p.1.toList).flatten.length≤100000→bs.length≤100000→
  (∀tk t',Q (.bytes (bs.map fun p=>p.1.toList).flatten.toArray t') {st with toks:=tk})→ab (Md C) A (call (.builtin "bytes.join") [.bytes #[] t,.ref x] []) Q E st
section
variable{C:Cx}{P:Pg}{N:oO}{ih:Ih}{d:Nat}{ρ:Env}{s s':AS}{v w:AV}{kd:Kd}{Z:Addr→Prop}{J:List Addr}{M:Addr→Prop}{env:PySem.Env}{A:Around}{st:Shared}{ex:Expr}{E:Value→Shared→Prop}
theorem z7{xs:List (List IE)}(e:allOf Lz l=some xs)(R:ay C J M h l vs):∃m:List (Array UInt8×Tok),vs=m.map (fun p=>Value.bytes p.1 p.2)∧m.map (fun p=>p.1.toList)=xs.map (fun l=>l.map (cj C.ν))∧∀l∈xs,bk C.ν l:=
 lu (lP (γ:=Array UInt8×Tok) (fun p=>.bytes p.1 p.2) (fun x c=>c.1.toList=x.map (cj C.ν)∧bk C.ν x) (fun e V=>aw (DR e▸V:ao C J M h (.bytes _) _).inv fun b q=>dm q fun t q=>⟨(_,t),q,rfl,b⟩) e R) fun m h1 h2 h3=>
  ⟨m.map (·.2),h2.trans (by rw [List.map_map];rfl),by rw [h1,List.map_map,List.map_map];exact List.map_congr_left fun p hp=>(h3 p hp).1,fun l hl=>aC (List.mem_map.mp (h1▸hl):∃p,p∈m∧p.1=l) fun p hp q=>q▸(h3 p hp).2⟩
theorem ao.EU(t:Str)(k:Tok):ao C J M h (.str t.cps.toList) (.str t k):=by
 have q:ao C J M h (.str t.cps.toList) (.str (aP t.cps.toList) k):=ao.str t.cps.toList k
 rwa[gY]at q
theorem zv{id:String}{Q:Keeper→Shared→Prop}(K:∀k,Q k st):ab (Md C) A (keeperOf (.builtin id)) Q E st:=af (K _)
structure Au(C:Cx)(A:Around)(E:Value→Shared→Prop)(v:AV)(nm:Str)(cy s:AS)(vs:List AV)(w:AV)(s':AS)(id:String):Prop where
 get:∀J M st rv pl(Q:Value×List Value→Shared→Prop),aq C J M cy st.heap→ao C J M st.heap v rv→Q (.builtin id,[rv]) st→ab (Md C) A (getMethod rv nm pl) Q E st
 call:∀Z J M st rv rvs(Q:Value→Shared→Prop),aq C J M s st.heap→bZ C Z J st.heap→ao C J M st.heap v rv→ay C J M st.heap vs rvs→KV C Z J M st w s' Q→ab (Md C) A (call (.builtin id) (rv::rvs) []) Q E st
section
variable{cy:AS}{vs:List AV}
theorem AF{x:List Nat}(e:(Co x vs s).leaf C.ν=some (w,s')):Au C A E (.str x) "split" cy s vs w s' "str.split":=by
 obtain⟨a,rfl,e⟩:=gZ e
 obtain⟨y,rfl,e⟩:=dk e
 refine⟨fun J M st rv pl Q S V q=>?_,fun Z J M st rv rvs Q S z V Vs K=>?_⟩
 ·revert q
  exact V.gB fun t q=>lf (PySem.GM.split q)
 ·refine V.gB fun t=>?_
  obtain⟨_,rfl,V'⟩:=Vs.one
  refine V'.gB fun u=>?_
  exact Ew e S K
theorem FK{x:List Nat}(e:(Im x vs s).leaf C.ν=some (w,s')):Au C A E (.str x) "find" cy s vs w s' "str.find":=by
 obtain⟨a,b,rfl,e⟩:=kC e
 obtain⟨y,rfl,e⟩:=dk e
 obtain⟨i,rfl,e⟩:=aV e
 cases i with
 |c k=>
  obtain⟨rfl,rfl⟩:=pi_inj e
  refine⟨fun J M st rv pl Q S V q=>?_,fun Z J M st rv rvs Q S z V Vs K=>?_⟩
  ·revert q
   exact V.gB fun t q=>lf (PySem.GM.find q)
  ·refine V.gB fun t=>?_
   obtain⟨_,_,rfl,V',W'⟩:=Vs.two
   refine V'.gB fun u=>?_
   refine W'.ed fun u'=>?_
   exact lf<|PySem.SC.find3 (K.now S (.int _ _ _ rfl) _)
 |_=>exact no e
theorem FJ{x:List Nat}(e:(Il x vs s).leaf C.ν=some (w,s')):Au C A E (.str x) "join" cy s vs w s' "str.join":=by
 obtain⟨a,rfl,e⟩:=gZ e
 obtain⟨i,l,rfl,el,e⟩:=eF e
 refine aC (aI e:) fun xs hx e=>?_
 rcases dn e with⟨hj,e⟩|⟨_,e⟩
 ·obtain⟨rfl,rfl⟩:=pi_inj e
  refine⟨fun J M st rv pl Q S V q=>?_,fun Z J M st rv rvs Q S z V Vs K=>?_⟩
  ·revert q
   exact V.gB fun t q=>lf (PySem.GM.join q)
  ·refine V.gB fun t=>?_
   obtain⟨_,rfl,V'⟩:=Vs.one
   refine V'.listE S el fun y vs k hy ey Vl=>?_
   obtain⟨m,rfl,hm⟩:=Bx hx Vl
   refine lf<|PySem.SC.join (l:=m) ⟨_,ey,rfl,k,rfl⟩ hm hj fun t' k'=>?_
   exact K.now S (ao.EU _ t') _
 ·exact no e
theorem Cn(HJ:ie C){x:List IE}(e:(Cq x vs s).leaf C.ν=some (w,s')):Au C A E (.bytes x) "join" cy s vs w s' "bytes.join":=by
 obtain⟨a,rfl,e⟩:=gZ e
 obtain⟨i,l,rfl,el,e⟩:=eF e
 refine aC (aI e) fun xs hx e=>aw (cC e) fun hb e=>aw (bu e) fun c1 e=>aw (bu e) fun c2 e=>?_
 refine⟨fun J M st rv pl Q S V q=>aw V.inv fun Y z=>dm z fun t z=>by rw [z]at q⊢;exact HJ.1 _ _ _ _ _ _ _ q,fun Z J M st rv rvs Q S z V Vs K=>?_⟩
 have Wf:x=[]:=List.eq_nil_of_length_eq_zero (al_beq (ae hb).2)
 refine V.dY fun Y t=>aC Vs.one fun r q V'=>q▸V'.listE S el fun y vs k hy ey Vl=>lu (z7 hx Vl) fun m q hm hB=>?_
 have hq:(m.map fun p=>p.1.toList).flatten=xs.flatten.map (cj C.ν):=by rw [hm,List.map_flatten]
 have hn:l.length=m.length:=by rw [Vl.length,q,List.length_map]
 rw [q]at ey;rw [Wf];refine HJ.2 _ _ _ _ _ m k _ ey (hn▸al_ble (ae hb).1) (by rw [hq,List.length_map];exact c1) (hn▸c2) fun tk t'=>?_
 rw [hq];exact(K.of e).now S (.bytes _ t' fun e he=>aC (List.mem_flatten.mp he) fun z h1 h2=>hB z h1 e h2) tk
theorem Kv{l:List (List Nat×AV)}(e:(NT l vs s).leaf C.ν=some (w,s')):Au C A E (.dW l) "get" cy s vs w s' "dict.get":=by
 obtain⟨a,d,rfl,e⟩:=kC e
 obtain⟨k,rfl,e⟩:=dk e
 obtain⟨rfl,rfl⟩:=pi_inj e
 refine⟨fun J M st rv pl Q S V q=>?_,fun Z J M st rv rvs Q S z V Vs K=>?_⟩
 ·revert q
  exact V.wz fun a es n ha hs ea Ra q=>lf<|getMethod_builtin (T:="dict") ⟨_,ea,rfl⟩ PySem.F.plainAttrs_dict PySem.F.slot_dict_get PySem.F.type_dict_get (fun a q=>by injection q with q;subst q;exact⟨_,ea,rfl⟩) q
 ·refine V.wz fun a es n ha hs ea Ra=>?_
  obtain⟨_,_,rfl,V',W'⟩:=Vs.two
  refine V'.gB fun u=>?_
  refine lf<|call_meetsIn PySem.F.slot_dict_get ⟨_,ea,rfl⟩ PySem.F.entry_dict_get (PySem.F.args_dict_get_3 _ _ _) (meets_dict_get_default (PySem.strKind C.prog C.w) a (strKind_is _ _ _ _) hs _) ⟨_,rG ea Ra,?_⟩
  have hf:=Ra.find k
  cases q:gw l k with
  |none=>rw [q]at hf K;rw [show es.find? _=none from hf];exact K.now S W' _
  |some w=>rw [q]at hf K;refine aC (hf:) fun en h1 h2=>?_;rw [h1];exact K.now S h2 _
theorem Au.list(jo:cy.get i=some (.list vC)){id:String}{nm:Str}(slot:Slot "list" nm id)(ty:typeOf (.builtin id)=pure (.type "method_descriptor"))
  (H:∀Z J M st rv rvs(Q:Value→Shared→Prop),aq C J M s st.heap→bZ C Z J st.heap→ao C J M st.heap (.ref i) rv→ay C J M st.heap vs rvs→KV C Z J M st w s' Q→ab (Md C) A (PySem.call (.builtin id) (rv::rvs) []) Q E st):Au C A E (.ref i) nm cy s vs w s' id:=
 ⟨fun J M st rv pl Q S V q=>by
  revert q
  exact V.listE S jo fun x vs n hx ex Vs q=>lf<|getMethod_builtin (T:="list") ⟨_,ex,rfl⟩ PySem.F.plainAttrs_list slot ty (fun a q=>by injection q with q;subst q;exact⟨_,ex,rfl⟩) q,H⟩
theorem Kx(jo:cy.get i=some (.list vC))(hnf:C.nf≤i)(el:s.get i=some (.list l))(e:(NV i l vs s).leaf C.ν=some (w,s')):Au C A E (.ref i) "append" cy s vs w s' "list.append":=by
 obtain⟨a,rfl,e⟩:=gZ e
 refine aw (bu e:) fun c1 e=>?_
 obtain⟨rfl,rfl⟩:=pi_inj e
 refine .list jo PySem.F.slot_list_append PySem.F.type_list_append fun Z J M st rv rvs Q S z V Vs K=>?_
 obtain⟨_,rfl,V'⟩:=Vs.one
 exact D2 S z hnf el c1 V V' K
theorem Kw(jo:cy.get i=some (.list vC))(hnf:C.nf≤i)(el:s.get i=some (.list l))(e:(NU i l vs s).leaf C.ν=some (w,s')):Au C A E (.ref i) "extend" cy s vs w s' "list.extend":=by
 obtain⟨a,rfl,e⟩:=gZ e
 obtain⟨j,m,rfl,em,e⟩:=eF e
 refine aw (bu e:) fun c1 e=>?_
 obtain⟨rfl,rfl⟩:=pi_inj e
 refine .list jo PySem.F.slot_list_extend PySem.F.type_list_extend fun Z J M st rv rvs Q S z V Vs K=>?_
 obtain⟨_,rfl,V'⟩:=Vs.one
 exact D1 S z hnf el em c1 V V' K
theorem Kt(jo:cy.get i=some (.list vC))(hnf:C.nf≤i)(el:s.get i=some (.list l))(e:(NR i l vs s).leaf C.ν=some (w,s')):Au C A E (.ref i) "pop" cy s vs w s' "list.pop":=by
 cases vs with
 |nil=>
  refine aC (aI e:) fun u hu e=>?_
  refine aw (bu e:) fun c1 e=>?_
  obtain⟨rfl,rfl⟩:=pi_inj e
  refine .list jo PySem.F.slot_list_pop PySem.F.type_list_pop fun Z J M st rv rvs Q S z V Vs K=>?_
  subst Vs;exact Pz S z hnf el c1 hu V K
 |cons _ _=>exact no e
theorem ux{a:AV}{o:Option AV}{m:Option Nat}{g:AV}{first:List AV}(e:jE a o m=.own g first):(first=[]∧o=some g∧m=none∧i9 g=true)∨∃k,g=.fn k∧first=[a]∧o=none∧m=some k:=by
 cases o with
 |none=>cases m with
  |none=>injection e
  |some k=>(injection e with e sd;subst e sd);exact .inr ⟨k,rfl,rfl,rfl,rfl⟩
 |some x=>cases m with
  |some _=>injection e
  |none=>
   unfold jE at e
   dsimp only at e
   cases q:i9 x with
   |true=>rw [q]at e;injection e with e sd;subst e sd;exact .inl ⟨rfl,rfl,rfl,q⟩
   |false=>rw [q]at e;injection e
theorem rH{a:AV}{o:Option AV}{m:Option Nat}(e:jE a o m=.kind):False:=by
 cases o with
 |none=>cases m<;>injection e
 |some x=>cases m with
  |some _=>injection e
  |none=>
   unfold jE at e
   dsimp only at e
   cases q:i9 x<;>(rw [q]at e;injection e)
theorem l9{n:Nat}{c:Callee}(e:kZ P cy v n=c):(∃q p,instOf cy v=some q∧P.cs.get q.1=some p∧jE v (az q.2.2 n) (gm p.2 n)=c)∨(∃k,c=.no k)∨(∃l,listOf cy v=some l)∧c=.kind:=by
 unfold kZ at e;cases q:instOf cy v with
 |some q'=>
  rw [q]at e
  dsimp only[yr]at e
  cases z:P.cs.get q'.1 with
  |none=>rw [z]at e;exact .inr (.inl ⟨_,e.symm⟩)
  |some p=>rw [z]at e;exact .inl ⟨q',p,rfl,z,e⟩
 |none=>
  rw [q]at e
  dsimp only at e
  cases z:listOf cy v with
  |none=>rw [z]at e;exact .inr (.inl ⟨_,e.symm⟩)
  |some l=>rw [z]at e;exact .inr (.inr ⟨⟨l,rfl⟩,e.symm⟩)
theorem uw{n:Nat}(hk:callee P cy (.ref i) n=.kind):∃vC,cy.get i=some (.list vC):=by
 have hk:kZ P cy (.ref i) n=.kind:=hk
 rcases l9 hk with⟨_,_,_,_,h⟩|⟨k,h⟩|⟨⟨l,h⟩,_⟩
 ·exact(rH h).elim
 ·injection h
 ·refine aC (pW h:) fun j q h=>?_
  injection q with q;subst q;exact⟨l,h⟩
set_option tactic.hygienic true in
theorem Ku(W:L5 C N)(Wd:Wd C P)(HJ:ie C){n:Nat}(hk:callee P cy v n=.kind)(e:(xO P N v n vs s).leaf C.ν=some (w,s')):∃id:String,Au C A E v (C.nm n) cy s vs w s' id:=by
 have at':∀{k:Nat}{nm:Str}{id:String},Nat.beq n k=true→C.nm k=nm→Au C A E v nm cy s vs w s' id→∃id:String,Au C A E v (C.nm n) cy s vs w s' id:=fun h q H=>⟨_,by rw [o7 h,q];exact H⟩
 cases v with
 |str x=>
  rcases dn e with⟨h,e⟩|⟨_,e⟩
  ·exact at' h W.split (AF e)
  rcases dn e with⟨h,e⟩|⟨_,e⟩
  ·exact at' h W.find (FK e)
  rcases dn e with⟨h,e⟩|⟨_,e⟩
  ·exact at' h W.join (FJ e)
  exact no e
 |bytes x=>
  rcases dn e with⟨h,e⟩|⟨_,e⟩
  ·exact at' h W.join (Cn HJ e)
  exact no e
 |dW l=>
  rcases dn e with⟨h,e⟩|⟨_,e⟩
  ·exact at' h W.get (Kv e)
  exact no e
 |ref i=>
  refine dm (uw hk:) fun vC jo=>?_
  unfold xO at e
  dsimp only at e
  split at e
  ·rename_i l el
   rcases dn e with⟨hnf,e⟩|⟨_,e⟩
   ·have hnf:C.nf≤i:=by rw [←Wd.nf];exact al_ble hnf
    rcases dn e with⟨h,e⟩|⟨_,e⟩
    ·exact at' h W.append (Kx jo hnf el e)
    rcases dn e with⟨h,e⟩|⟨_,e⟩
    ·exact at' h W.extend (Kw jo hnf el e)
    rcases dn e with⟨h,e⟩|⟨_,e⟩
    ·exact at' h W.pop (Kt jo hnf el e)
    exact no e
   ·exact no e
  ·exact no e
 |_=>exact no e
end
end
end
end Mine.Internal
namespace Mine.Internal
open PySem PySem.W PyProof.Rows PySem.SeqAt
noncomputable section
variable{A:Around}{C:Cx}{E:Value→Shared→Prop}{M M' M₀ T Z Z' own:Addr→Prop}{N:oO}{P:Pg}{Q:Flow→Shared→Prop}{a:Addr}{b:List CS}{cs flat:Bool}{d k kind n:Nat}{elt:CE}{env:PySem.Env}{ex xe xi xt:Expr}{f:Fl}{h h':Heap}{ifs:List CE}{ih:Ih}{kd:Kd}{ks:List (List Nat)}{l:List AV}{m:Str→Option Value}{p pos:Pos}{ras:List Value}{rv:Value}{s s':AS}{sc:Scope}{src v w:AV}{st:Shared}{tg:List Nat}{x:Stmt}{xs:List Expr}{ys:List Stmt}{ρ ρ':Env}{J σ' dH:List Addr}
section
theorem wN{g:AV}{first:List AV}(e:callee P s v n=.own g first):∃c dd l f ms,instOf s v=some (c,dd,l)∧P.cs.get c=some (f,ms)∧
  ((first=[]∧az l n=some g∧gm ms n=none∧i9 g=true)∨∃k,g=.fn k∧first=[v]∧az l n=none∧gm ms n=some k):=by
 have key:kZ P s v n=.own g first:=by
  cases v<;>first|exact e|injection e
 rcases l9 key with⟨q,p,h1,h2,h⟩|⟨k,h⟩|⟨_,h⟩
 ·exact⟨_,_,_,_,_,h1,h2,ux h⟩
 ·injection h
 ·injection h
theorem JW(W:Wd C P)(WN:L5 C N)(HJ:ie C)(H:fV C ih d)(HC:PY C ih d){o:CE}{es:List CE}{Q:Value→Shared→Prop}(e:(cq P N ih (.bC o n es) ρ s).leaf C.ν=some (v,s')){x1:Expr}{sN:Str}{apos:Pos}(h1:sN=C.nm n)(h2:n∈C.attrs)(h3:∀id p q,x1≠.Call (.Name id p) [] [] q)(h4:aU C kd o x1)(h5:cP C kd es xs)(h6:xs.length<30)(h7:(apos.endLine==pos.line)=true)(F:eZ C Z J M kd env ρ st.heap)(S:aq C J M s st.heap)(R:bz A d)(z:bZ C Z J st.heap)(K:KV C Z J M st v s' Q):
  ab (Md C) A (eval (.Call (.Attribute x1 sN apos) xs [] pos) env) Q E st:=by
  subst h1;unfold cq at e;refine aH.cz e fun av ag e1 e=>?_
  refine zk h3 h5 h6 h7 (H _ ρ s av ag e1 kd _ h4 Z J M env A st F S R z _ _ fun aA aN h₁ aS rv aF aD bV=>?_)
  have e:(match callee P ag av n with
   |.own g first=>(qj ih es ρ ag).bind fun(vs,s)=>ih.ca g (first++vs) s
   |.kind=>(qj ih es ρ ag).bind fun(vs,s)=>xO P N av n vs s
   |.no k=>.bad k).leaf C.ν=some (v,s'):=e
  cases hq:callee P ag av n with
  |own g first=>
   rw [hq]at e;refine VK (wN hq:) fun c dd l f ms hi hc hh=>?_
   have O:=W.cls _ _ _ hc
   have X:=Oc (st:={st with heap:=h₁,toks:=aS}) W aD
   rcases hh with⟨rfl,hg,hm,hp⟩|⟨k,rfl,rfl,hg,hm⟩
   ·obtain⟨x,dx,kW,k,hx,i1,i2,i3,i4,i5⟩:=instOf_inv (st:={st with heap:=h₁,toks:=aS}) aD bV hi
    subst hx;refine lf (method_usual X (inst_at i1 i4) O.ga O.gt (O.own n h2 hm) rfl ?_);refine tW W (Z:=Z) (st:={st with heap:=h₁,toks:=aS}) aD bV hi hc h2 hm hg hp fun cg dG bl bb rg aZ bN dN=>?_
    have G:=aF.trans aZ
    exact pA (st:={st with heap:=bl,toks:=bb}) H HC e h5 (F.grow G) bN R (z.grow G) dN .nil (K.after G)
   ·obtain⟨x,dx,kW,k',hx,i1,i2,i3,i4,i5⟩:=instOf_inv (st:={st with heap:=h₁,toks:=aS}) aD bV hi
    subst hx;obtain⟨m1,m2⟩:=O.VZ n k hm
    refine lf<|method_fn X (inst_at i1 i4) O.ga O.gt m1 m2 (sE W.inj i5 hg) ?_
    exact pA (st:={st with heap:=h₁,toks:=aS}) H HC e h5 (F.grow aF) aD R (z.grow aF) (.fn k) (.cons bV .nil) (K.after aF)
  |kind=>
   rw [hq]at e;refine aH.cz e fun vs aK e2 e=>?_
   obtain⟨id,m1,m2⟩:=Ku WN W HJ hq e
   refine m1 _ _ {st with heap:=h₁,toks:=aS} _ _ _ aD bV ?_
   refine eH (gc h5 _) (dJ h5 _ (fS H e2 h5 _ (st:={st with heap:=h₁,toks:=aS}) (F.grow aF) aD R (z.grow aF) fun cg dG bl bb rvs aZ bN dN=>?_))
   have G:=aF.trans aZ
   exact⟨fun Q E K=>zv K,m2 _ _ _ {st with heap:=bl,toks:=bb} _ _ _ bN (z.grow G) (bV.grow aZ) dN (K.after G)⟩
  |no k=>rw [hq]at e;exact no e
end
section
def KS(C:Cx)(Z:Addr→Prop)(J:List Addr)(M own:Addr→Prop)(kd:Kd)(cs:Bool)(env:PySem.Env)(st:Shared)(f:Env→Option Env)(s:AS)(Q:Unit→Shared→Prop):Prop:=
 ∀h' tk,aJ Z J M st.heap J M h'→aq C J M s h'→(∀Z₀ gI bT,f gI=some bT→cW C Z₀ J M own kd cs env gI st.heap→cW C Z₀ J M own kd cs env bT h')→Q () {st with heap:=h',toks:=tk}
theorem Bz(h:pq C kd cs tg xs):(assignEach xs env).length=tg.length∧(assignEach xs env).findIdx? (·.1)=none:=by
 refine h.ind ⟨rfl,rfl⟩ fun Y sN Y Y Y h1 h2 h3 ih=>?_
 ·refine⟨by rw [List.length_cons,←ih.1];rfl,?_⟩
  show List.findIdx? _ ((false,_)::_)=none;rw [List.findIdx?_cons,ih.2];rfl
theorem EW(inj:∀x y,C.nm x=C.nm y→x=y)(h:pq C kd cs tg xs):∀{l:List AV}{vs:List Value}{ρ:Env}{st:Shared}{Q:Unit→Shared→Prop},tg.length=l.length→ay C J M st.heap l vs→cW C Z J M own kd cs env ρ st.heap→aq C J M s st.heap→
  KS C Z J M own kd cs env st (fun ρ=>some ((tg.zip l).foldl (fun ρ p=>bO ρ p.1 p.2) ρ)) s Q→ab (Md C) A (assignInOrder ((assignEach xs env).map (·.2)) vs) Q E st:=by
 refine fun{l}{vs}{ρ}{st}{Q}=>cf.ind (P:=fun tg xs=>∀(l:List AV)(vs:List Value)(ρ:Env)(st:Shared)(Q:Unit→Shared→Prop),tg.length=l.length→ay C J M st.heap l vs→cW C Z J M own kd cs env ρ st.heap→aq C J M s st.heap→
  KS C Z J M own kd cs env st (fun ρ=>some ((tg.zip l).foldl (fun ρ p=>bO ρ p.1 p.2) ρ)) s Q→ab (Md C) A (assignInOrder ((assignEach xs env).map (·.2)) vs) Q E st) h ?_ ?_ l vs ρ st Q
 ·intro l vs ρ st Q hl V F S K
  cases l with
  |nil=>exact V.nl▸lf (assignInOrder_nil (K _ st.toks (aJ.refl _ _ _ _) S fun Y Y Y q F=>by injection q with q;subst q;exact F))
  |cons a r=>injection hl
 ·intro x sN pos tg xs h1 h2 h3 ih l vs ρ st Q hl V F S K
  cases l with
  |nil=>injection hl
  |cons a l=>
   subst h1;refine V.oI fun v r V r=>assignInOrder_cons (dg (fZ inj h2 F S V fun h' tk G S' F'=>?_))
   refine ih _ _ _ {st with heap:=h',toks:=tk} _ (by simpa using hl) (r.grow G) (F' _ _ F) S' fun pZ HQ G' uJ Qc=>?_
   exact K pZ HQ (G.trans G') uJ fun Z₀ gI bT q w3=>Qc Z₀ _ _ q (F' Z₀ gI w3)
theorem k8(h:Nat.beq tg.length l.length=true):ib tg false (.t l) ρ=some ((tg.zip l).foldl (fun ρ p=>bO ρ p.1 p.2) ρ):=by
 show ck (Nat.beq tg.length l.length) _=_;rw [h];rfl
theorem qr(e:ib tg false v ρ=some ρ'):∃l,v=.t l∧Nat.beq tg.length l.length=true∧ρ'=(tg.zip l).foldl (fun ρ p=>bO ρ p.1 p.2) ρ:=by
 cases v with
 |t l=>
  refine aw (aB e:) fun h e=>?_
  injection e with e;subst e;exact⟨l,rfl,h,rfl⟩
 |_=>exact no e
theorem Af(e:ib tg true v ρ=some ρ'):∃x,tg=[x]∧ρ'=bO ρ x v:=by
 cases tg with
 |nil=>exact no e
 |cons x r=>cases r with
  |nil=>(injection e with e;subst e);exact⟨x,rfl,rfl⟩
  |cons _ _=>exact no e
theorem qO(inj:∀x y,C.nm x=C.nm y→x=y)(h:mx C kd cs tg flat xt){Q:Unit→Shared→Prop}(hh:A.handled=none)(e:ib tg flat v ρ=some ρ')(V:ao C J M st.heap v rv)(F:cW C Z J M own kd cs env ρ st.heap)(S:aq C J M s st.heap)
  (K:KS C Z J M own kd cs env st (ib tg flat v) s Q):ab (Md C) A (assign xt env rv) Q E st:=by
 cases flat with
 |true=>
  refine oK h.Ny fun y sN pos q1 q2 h1 h2=>?_
  rw [q1]at e K;rw [h1]at q2 h2;rw [q2];injection e with e;subst e;exact dg (fZ inj h2 F S V fun h' tk G S' F'=>K h' tk G S' fun Z₀ gI bT q w3=>by injection q with q;subst q;exact F' Z₀ gI w3)
 |false=>
  refine ml h.Ck fun xs Y Y q h1=>?_
  rw [q];obtain⟨l,rfl,hlb,rfl⟩:=qr e
  have hl:=o7 hlb
  refine V.kD fun a vs n ha ea Va=>?_
  have ht:IsTup st.heap a vs.toArray:=⟨_,ea,rfl,n,rfl⟩
  have hlen:=Va.length
  refine aw (Bz (env:=env) h1:) fun l1 l2=>?_
  refine fY hh ht (by rw [l1,hl,hlen,List.size_toArray]) l2 fun h' he=>?_
  have hk:∀b o,st.heap.get? b=some o→h'.get? b=some o:=fun b o e=>he b o (Nat.ne_of_lt (Heap.lt_size e)) e
  rw [List.toList_toArray];refine EW (st:={st with heap:=h'}) inj h1 hl (Va.grow (aJ.heap Z J M hk)) (F.grow (aJ.heap _ J M hk)) (S.heap hk) fun pZ HQ G' uJ Qc=>?_
  exact K pZ HQ ((aJ.heap Z J M hk).trans G') uJ fun Z₀ gI bT q w3=>Qc Z₀ gI bT ((k8 hlb).symm.trans q) (w3.grow (aJ.heap _ J M hk))
structure jw(C:Cx)(kind:Nat)(src:AV)(I:Addr)(T:Addr→Prop)(St:List Addr→(Addr→Prop)→Nat→Heap→Prop):Prop where
 keep:∀{Z:Addr→Prop}{J:List Addr}{M:Addr→Prop}{h:Heap}{σ':List Addr}{M':Addr→Prop}{h':Heap}{k:Nat},(∀a,T a→Z a)→aJ Z J M h σ' M' h'→St J M k h→St σ' M' k h'
 self:∀{J:List Addr}{M:Addr→Prop}{k:Nat}{A:Around}{st:Shared}{Q E:Value→Shared→Prop},A.handled=none→St J M k st.heap→Q (.ref I) st→ab (Md C) A (pyIter (.ref I)) Q E st
 next:∀{Z:Addr→Prop}{J:List Addr}{M:Addr→Prop}{s:AS}{st:Shared}{k:Nat}{A:Around}{E:Value→Shared→Prop}{r:Option AV}{Q:Option Value→Shared→Prop},A.handled=none→aq C J M s st.heap→(∀a,T a→M a∧¬Z a∧a∉J∧∀p∈C.tabs,a≠p.2)→St J M k st.heap→(iE s kind src k).leaf C.ν=some r→
  (r=none→∀h' tk,(∀b o,¬T b→st.heap.get? b=some o→h'.get? b=some o)→Q none {st with heap:=h',toks:=tk})→
  (∀v,r=some v→∀h' tk rv,aJ Z J M st.heap J M h'→aq C J M s h'→ao C J M h' v rv→
   (∀(target:Expr)(A:Around)(Q:Unit→Shared→Prop)(E:Value→Shared→Prop),(kind=0∨∃xs k pos,target=.Tuple xs k pos)→(∀pZ,aJ Z J M h' J M pZ→aq C J M s pZ→St J M (k+1) pZ→Q () {st with heap:=pZ,toks:=tk})→ab (Md C) A (letOwnedTupleGo target (.ref I) rv) Q E {st with heap:=h',toks:=tk})→
   Q (some rv) {st with heap:=h',toks:=tk})→
  ab (Md C) A (pyNext (.ref I)) Q E st
def Made(C:Cx)(kind:Nat)(src:AV)(s:AS)(J:List Addr)(M:Addr→Prop)(st:Shared)(A:Around)(t:Sem Value):Prop:=∀(Q E:Value→Shared→Prop),
 (∀I T St h' tk,jw C kind src I T St→T I→(∀a,T a→st.heap.get? a=none∧∃o,h'.get? a=some o)→(∀b o,st.heap.get? b=some o→h'.get? b=some o)→(∀aN:Addr→Prop,(∀a,aN a→M a∨st.heap.get? a=none)→(∀a,M a→aN a)→aq C J aN s h'→St J aN 0 h')→Q (.ref I) {st with heap:=h',toks:=tk})→
 ab (Md C) A t Q E st
def iB(C:Cx):Prop:=∀(src:AV)(rv:Value)(s:AS)(J:List Addr)(M:Addr→Prop)(st:Shared)(A:Around),aq C J M s st.heap→ao C J M st.heap src rv→(∃r,(iE s 0 src 0).leaf C.ν=some r)→Made C 0 src s J M st A (pyIter rv)
def mQ(C:Cx):Prop:=∀(src:AV)(rv:Value)(s:AS)(J:List Addr)(M:Addr→Prop)(st:Shared)(A:Around),A.handled=none→A.units+20<cLine→aq C J M s st.heap→ao C J M st.heap src rv→(∃r,(iE s 1 src 0).leaf C.ν=some r)→Made C 1 src s J M st A (call (.type "enumerate") [rv] [])
def rO(C:Cx):Prop:=∀(x y:AV)(rx ry:Value)(s:AS)(J:List Addr)(M:Addr→Prop)(st:Shared)(A:Around),A.handled=none→A.units+20<cLine→aq C J M s st.heap→ao C J M st.heap x rx→ao C J M st.heap y ry→(∃r,(iE s 2 (.t [x,y]) 0).leaf C.ν=some r)→Made C 2 (.t [x,y]) s J M st A (call (.type "zip") [rx,ry] [])
end
set_option tactic.hygienic true in
theorem kf:∀(l:List (Str×NameKind))(acc:List (Str×Addr)),(∀y∈l,y.2=.free→∃c,env.cells.lookup y.1=some c)→(∀x c,acc.lookup x=some c→env.cells.lookup x=some c)→
  ∃cl,(forIn l acc fun x r=>(if(x.2==NameKind.free)=true then(do let a←cellOf env x.1;pure (ForInStep.yield ((x.1,a)::r)))else pure (ForInStep.yield r)):Sem (List (Str×Addr)))=pure cl∧(∀x c,cl.lookup x=some c→env.cells.lookup x=some c)∧(∀y∈l,y.2=.free→(cl.lookup y.1).isSome=true)∧(∀x,(acc.lookup x).isSome=true→(cl.lookup x).isSome=true)∧(∀x,(cl.lookup x).isSome=true→(acc.lookup x).isSome=true∨∃y∈l,y.1=x∧y.2=.free)
 |[],acc,_,ha=>⟨acc,rfl,ha,(fun Y m=>nomatch m),(fun Y h=>h),fun Y h=>.inl h⟩
 |(n,k)::r,acc,hl,ha=>by
  by_cases hk:k=.free
  ·subst hk
   obtain⟨c,hc⟩:=hl (n,.free) al_self rfl
   obtain⟨cl,h1,h2,h3,h4,h5⟩:=kf r ((n,c)::acc) (fun y m=>hl y (al_con _ m)) (fun x c' e=>by
    rw [List.lookup_cons]at e;split at e
    ·rename_i q;injection e with e;subst e;rw [beq_iff_eq.mp q];exact hc
    ·exact ha x c' e)
   refine⟨cl,?_,h2,fun y m hy=>?_,fun x h=>h4 x ?_,fun x h=>?_⟩
   ·have hq:(cellOf env n:Sem Addr)=pure c:=by unfold cellOf;rw [hc]
    have hb:(NameKind.free==NameKind.free)=true:=rfl
    rw [List.forIn_cons];simp only[hb,if_true,hq,pure_bind];exact h1
   ·rcases al_mc m with rfl|m
    ·exact h4 _ (by rw [List.lookup_cons];simp)
    ·exact h3 y m hy
   ·rw [List.lookup_cons]
    split
    ·rfl
    ·exact h
   ·rcases h5 x h with q|⟨y,m,q⟩
    ·rw [List.lookup_cons]at q
     split at q
     ·rename_i hx;exact .inr ⟨(n,.free),al_self,(beq_iff_eq.mp hx).symm,rfl⟩
     ·exact .inl q
    ·exact .inr ⟨y,al_con _ m,q⟩
  ·refine Ql (kf r acc (fun y m=>hl y (al_con _ m)) ha:) fun cl h1 h2 h3 h4 h5=>?_
   refine⟨cl,?_,h2,fun y m hy=>?_,h4,fun x h=>(h5 x h).imp id fun⟨y,m,q⟩=>⟨y,al_con _ m,q⟩⟩
   ·have:(k==NameKind.free)=false:=beq_eq_false_iff_ne.mpr hk
    rw [List.forIn_cons];simp only[this,Bool.false_eq_true,if_false,pure_bind];exact h1
   ·rcases al_mc m with rfl|m
    ·exact absurd hy hk
    ·exact h3 y m hy
theorem l8{scope:Scope}(hl:∀y∈scope.names,y.2=.free→∃c,env.cells.lookup y.1=some c):∃cl,closureFor scope env=pure cl∧(∀x c,cl.lookup x=some c→env.cells.lookup x=some c)∧(∀y∈scope.names,y.2=.free→(cl.lookup y.1).isSome=true)∧(∀x,(cl.lookup x).isSome=true→∃y∈scope.names,y.1=x∧y.2=.free):=by
 refine Ql (kf scope.names [] hl (fun x c e=>by simp at e):) fun cl h1 h2 h3 Y h5=>?_
 refine⟨cl,?_,h2,h3,fun x h=>(h5 x h).elim (fun q=>by simp at q) id⟩
 unfold closureFor;refine Eq.trans (congrArg (·>>=fun r=>pure r) ?_) (pure_bind cl _)
 refine Eq.trans ?_ h1
 rfl
theorem iF{f:Str×NameKind→NameKind}:∀(l:List (Str×NameKind))(x:Str),(l.map fun p=>(p.1,f p)).lookup x=(l.find? fun p=>x==p.1).map f
 |[],x=>rfl
 |(n,k)::r,x=>by
  rw [List.map_cons,List.lookup_cons,List.find?_cons];cases q:x==n with
  |true=>rfl
  |false=>exact iF r x
theorem jr(kd:Kd)(sc:Scope)(x:Str):(cn kd sc).k x=(sc.names.find? fun p=>x==p.1).map fun p=>if(p.2==NameKind.free&&kd.k p.1==some NameKind.cell)=true then NameKind.cell else p.2:=by
 rw [←iF];show List.lookup x _=List.lookup x _
 congr 1
 refine List.map_congr_left fun p Y=>?_
 split<;>rfl
theorem lH:∀(l:List (Str×NameKind))(x:Str),l.lookup x=(l.find? fun p=>x==p.1).map (·.2)
 |[],x=>rfl
 |(n,k)::r,x=>by
  rw [List.lookup_cons,List.find?_cons];cases q:x==n with
  |true=>rfl
  |false=>exact lH r x
noncomputable def ph(tg:List Nat):Env→Env
 |[]=>[]
 |p::r=>if p.1∈tg then ph tg r else p::ph tg r
set_option tactic.hygienic true in
theorem cY(tg:List Nat)(y:Nat):∀ρ:Env,az (ph tg ρ) y=if y∈tg then none else az ρ y
 |[]=>by simp[ph,az]
 |p::r=>by
  unfold ph;split
  ·rename_i hp
   rw [cY tg y r];split
   ·rfl
   ·rename_i hy
    have:Nat.beq p.1 y=false:=by cases q:Nat.beq p.1 y with|false=>rfl|true=>exact absurd (o7 q▸hp) hy
    conv=>rhs;unfold az
    rw [this]
  ·rename_i hp
   unfold az;cases q:Nat.beq p.1 y with
   |true=>rw [if_neg (o7 q▸hp)]
   |false=>exact cY tg y r
set_option tactic.hygienic true in
theorem p9:∀(tg:List Nat)(l:List AV)(ρ ρ':Env),tg.length=l.length→(∀y,y∉tg→az ρ y=az ρ' y)→∀y,az ((tg.zip l).foldl (fun ρ p=>bO ρ p.1 p.2) ρ) y=az ((tg.zip l).foldl (fun ρ p=>bO ρ p.1 p.2) ρ') y
 |[],l,ρ,ρ',_,h,y=>h y (by simp)
 |t::tg,[],ρ,ρ',hl,_,_=>by simp at hl
 |t::tg,a::l,ρ,ρ',hl,h,y=>by
  rw [List.zip_cons_cons,List.foldl_cons,List.foldl_cons];refine p9 tg l _ _ (by simpa using hl) (fun z hz=>?_) y
  rw [cO,cO];split
  ·rfl
  ·rename_i q;exact h z (by simp[q,hz])
theorem p8:∀(tg:List Nat)(l:List AV)(ρ:Env)(y:Nat),y∉tg→az ((tg.zip l).foldl (fun ρ p=>bO ρ p.1 p.2) ρ) y=az ρ y
 |[],_,_,_,_=>rfl
 |_::_,[],_,_,_=>rfl
 |t::tg,a::l,ρ,y,h=>by
  rw [List.zip_cons_cons,List.foldl_cons,p8 tg l _ y (fun q=>h (al_con _ q)),cO]
  exact if_neg fun q=>h (by rw [q];exact al_self)
set_option tactic.hygienic true in
theorem Ag(e:ib tg flat v ρ=some ρ'):∃bT,ib tg flat v (ph tg ρ)=some bT∧(∀y,az ρ' y=az bT y)∧∀y w,az (ph tg ρ) y=some w→az bT y=some w:=by
 cases flat with
 |true=>
  obtain⟨x,rfl,rfl⟩:=Af e
  refine⟨_,rfl,fun y=>?_,fun y w q=>?_⟩
  ·rw [cO,cO]
   split
   ·rfl
   ·rename_i hy;rw [cY,if_neg (by simpa using hy)]
  ·rw [cY]at q
   split at q
   ·injection q
   ·rename_i hy
    rw [cO,if_neg (by simpa using hy),cY,if_neg hy];exact q
 |false=>
  obtain⟨l,rfl,hl,rfl⟩:=qr e
  refine⟨_,k8 hl,fun y=>p9 _ _ _ _ (o7 hl) (fun y hy=>by rw [cY,if_neg hy]) y,fun y w q=>?_⟩
  rw [cY]at q;split at q
  ·injection q
  ·rename_i hy
   rw [p8 _ _ _ _ hy,cY,if_neg hy];exact q
section
theorem eZ.sub(F:eZ C Z J M kd env ρ h)(hs:∀y w,az ρ' y=some w→az ρ y=some w):eZ C Z J M kd env ρ' h:=
 ⟨F.glob,F.iO,F.kind,F.kinds,F.DK,F.wK,F.code,fun x v e k=>F.vars x v (hs x v e) k⟩
theorem cW.sub(F:cW C Z J M own kd cs env ρ h)(hs:∀y w,az ρ' y=some w→az ρ y=some w):cW C Z J M own kd cs env ρ' h:=
 ⟨F.f.sub hs,F.eE,F.gh,F.lo,F.ns,F.ce,F.lc,F.ap,F.fN⟩
theorem dy.more{x:Str}(R:dy Z M env h x rv)(hz:∀a,Z a→Z' a):dy Z' M env h x rv:=by
 cases R with
 |loc m a b c d=>exact .loc m a (hz _ b) c d
 |cell c o a b e f g=>exact .cell c o a b (e.imp (hz _) id) f g
theorem aq.eY(S:aq C J M s h)(hT:∀a,T a→M a∧a∉J∧∀p∈C.tabs,a≠p.2)(hk:∀b o,¬T b→h.get? b=some o→h'.get? b=some o):aq C J (fun b=>M b∧¬T b) s h'∧uR J M h J (fun b=>M b∧¬T b) h':=by
 have X:uR J M h J (fun b=>M b∧¬T b) h':=⟨⟨[],by simp⟩,fun b o hn e=>⟨fun q=>hn q.1,hk b o (fun q=>hn (hT b q).1) e⟩⟩
 refine⟨⟨S.len,S.lim,S.gC,S.nodup,S.low,fun i o b e q=>?_,fun i b q hi=>⟨S.je i b q hi,fun z=>(hT b z).2.1 (al_mem q)⟩,fun i b q hi=>fun x=>S.ye i b q hi x.1,fun b m=>?_,fun b m=>?_,fun b o e=>?_,fun p hp=>?_,S.rg⟩,X⟩
 ·have hb:¬T b:=fun z=>(hT b z).2.1 (al_mem q)
  exact(S.obj i o b e q).chg X fun x hx=>hk b x hb hx
 ·obtain⟨o,e⟩:=S.there b m
  exact⟨o,hk b o (fun z=>(hT b z).2.1 m) e⟩
 ·obtain⟨o,e⟩:=S.mlt b m.1
  exact⟨o,hk b o m.2 e⟩
 ·refine aw (S.base b o e:) fun n y=>?_
  exact⟨fun q=>n q.1,hk b o (fun z=>n (hT b z).1) y⟩
 ·obtain⟨⟨ps,a1,a2,a3,a4⟩,a5⟩:=S.tab p hp
  have KQ:¬T p.2:=fun z=>(hT _ z).2.2 p hp rfl
  refine⟨⟨ps,⟨a1,KQ⟩,hk _ _ KQ a2,a3,fun pos cv e=>?_⟩,a5⟩
  refine uT (a4 pos cv e:) fun c oc vs t e1 e2 e3 e4=>?_
  exact⟨c,oc,vs,t,e1,fun q=>e2 q.1,hk _ _ (fun z=>e2 (hT c z).1) e3,e4⟩
theorem aJ.eY{h₀:Heap}(G:aJ Z dH M₀ h₀ J M h)(hd:∀a,T a→h₀.get? a=none)(hm:∀b,M₀ b→∃o,h₀.get? b=some o)(hk:∀b o,¬T b→h.get? b=some o→h'.get? b=some o):aJ Z dH M₀ h₀ J (fun b=>M b∧¬T b) h':=by
 have ne:∀b o,h₀.get? b=some o→¬T b:=fun b o e q=>aM e (hd b q)
 refine⟨G.pre,⟨fun b o e=>?_,fun b o hn e=>hk b o (ne b o e) (G.ext.keep b o hn e)⟩,fun b m=>⟨G.more b m,let⟨o,e⟩:=hm b m;ne b o e⟩,fun b m=>G.fresh b m.1⟩
 obtain⟨o',e'⟩:=G.ext.live b o e
 exact⟨o',hk b o' (ne b o e) e'⟩
theorem aq.forget(S:aq C J M s h)(ha:M a)(CR:a∉J)(ht:∀p∈C.tabs,a≠p.2)(hs:Heap.SameBut a h h'):aq C J (fun b=>M b∧b≠a) s h'∧uR J M h J (fun b=>M b∧b≠a) h':=
 S.eY (T:=fun b=>b=a) (fun b q=>q▸⟨ha,CR,ht⟩) fun b o hb e=>(hs.2 b hb).trans e
theorem aJ.forget{h₀:Heap}(G:aJ Z dH M₀ h₀ J M h)(hd:h₀.get? a=none)(hm:∀b,M₀ b→∃o,h₀.get? b=some o)(hs:Heap.SameBut a h h'):aJ Z dH M₀ h₀ J (fun b=>M b∧b≠a) h':=
 G.eY (T:=fun b=>b=a) (fun b q=>q▸hd) hm fun b o hb e=>(hs.2 b hb).trans e
theorem cW.eY(F:cW C Z J M own kd cs env ρ h)(hM:∀a,T a→M a)(h1:∀a,T a→¬own a)(h2:∀x c,env.cells.lookup x=some c→¬T c)(hs:∀b o,¬T b→h.get? b=some o→h'.get? b=some o):cW C Z J (fun b=>M b∧¬T b) own kd cs env ρ h':=by
 have X:uR J M h J (fun b=>M b∧¬T b) h':=⟨⟨[],by simp⟩,fun b o hn e=>⟨fun q=>hn q.1,hs b o (fun q=>hn (hM b q)) e⟩⟩
 have lo:¬T env.locals:=fun q=>h1 _ q F.lo
 have ns:∀m,h.Ns env.locals m→h'.Ns env.locals m:=fun m⟨o,es,ep,e,r⟩=>⟨o,es,ep,hs _ _ lo e,r⟩
 refine⟨⟨F.f.glob,F.f.iO,F.f.kind,F.f.kinds,F.f.DK,fun x c q=>?_,(fun c q=>let⟨a1,a2,a3⟩:=F.f.code c q;⟨a1,a2,fun x a q z=>a3 x a q z.1⟩),fun x v e k=>?_⟩,fun a q=>⟨⟨(F.eE a q).1,fun z=>h1 a z q⟩,(F.eE a q).2⟩,fun a q=>?_,F.lo,let⟨m,N⟩:=F.ns;⟨m,ns m N⟩,fun k x q=>?_,F.lc,F.ap,F.fN⟩
 ·obtain⟨o,e⟩:=F.f.wK x c q
  exact⟨o,hs c o (h2 x c q) e⟩
 ·refine aC (F.f.vars x v e k:) fun rv Rr V=>?_
  refine⟨rv,?_,V.chg X⟩
  cases Rr with
  |loc m a b c d=>exact .loc m a b (ns m c) d
  |cell c o a b e f g=>exact .cell c o a b (e.imp id fun n q=>n q.1) (hs c o (h2 _ c b) f) g
 ·obtain⟨⟨o,e⟩,b,c⟩:=F.gh a q
  exact⟨⟨o,hs a o (fun z=>h1 a z q) e⟩,b,c⟩
 ·obtain⟨c,v,q1,⟨o,q2,Vx⟩,q3⟩:=F.ce k x q
  exact⟨c,v,q1,⟨o,hs c o (h2 _ _ q1) q2,Vx⟩,q3⟩
theorem aq.adopt(S:aq C J M s h)(KW:Nat.blt s.n 1000000=true)(hm:M a)(CR:a∉J)(ht:∀p∈C.tabs,a≠p.2)(o:AO)(ho:cF C J M h o a):aq C (J++[a]) M (s.new o).2 h∧uR J M h (J++[a]) M h∧(J++[a])[s.n]?=some a:=by
 have X:uR J M h (J++[a]) M h:=⟨⟨[a],rfl⟩,fun b o hn e=>⟨hn,e⟩⟩
 have Ol:s.n<1000000:=al_ble KW
 have hroom:s.n<2^40 - 1:=Nat.lt_trans Ol (by decide)
 have he:(J++[a])[s.n]?=some a:=by rw [S.len,List.getElem?_append_right (Nat.le_refl _),Nat.sub_self];rfl
 refine⟨⟨?_,Ol,⟨Nat.le_succ_of_le S.gC.1,fun i hi=>(AS.br s.hp 40 s.n i o (by have:=S.gC.1;lia)).trans (S.gC.2 i hi)⟩,?_,?_,?_,?_,?_,?_,S.mlt,S.base,fun p hp=>⟨(S.tab p hp).1,fun m=>?_⟩,S.rg⟩,X,he⟩
 ·show s.n+1=_
  rw [S.len];simp
 ·rw [List.nodup_append]
  exact⟨S.nodup,by simp,fun x hx y hy=>by rw [List.mem_singleton]at hy;subst hy;rintro rfl;exact CR hx⟩
 ·intro i o' e
  show i<s.n+1
  by_cases hi:s.n=i
  ·lia
  ·have:(aE.put 40 s.hp s.n o).get i=some o':=e
   rw [AS.br _ _ _ _ _ hi]at this;have:=S.low i o' this
   lia
 ·intro i o' b e q
  by_cases hi:s.n=i
  ·subst hi
   have e':(aE.put 40 s.hp s.n o).get s.n=some o':=e
   rw [AS.b8 _ _ _ _ hroom]at e';injection e' with e';subst e';rw [he]at q;injection q with q;subst q;exact ho.chg X fun Y e=>e
  ·have e':(aE.put 40 s.hp s.n o).get i=some o':=e
   rw [AS.br _ _ _ _ _ hi]at e';have hl:=S.low i o' e'
   rw [S.len]at hl;rw [List.getElem?_append_left hl]at q;exact(S.obj i o' b e' q).chg X fun x y=>y
 ·intro i b q hle
  rcases Nat.lt_or_ge i J.length with hl|hl
  ·rw [List.getElem?_append_left hl]at q
   exact S.je i b q hle
  ·rw [List.getElem?_append_right hl]at q
   have:b∈[a]:=al_mem q
   exact(List.mem_singleton.mp this)▸hm
 ·intro i b q CV
  have hl:i<J.length:=by rw [←S.len];exact Nat.lt_of_lt_of_le CV S.gC.1
  rw [List.getElem?_append_left hl]at q;exact S.ye i b q CV
 ·intro b m
  rcases List.mem_append.mp m with m|m
  ·exact S.there b m
  ·rw [List.mem_singleton]at m;subst m;exact S.mlt b hm
 ·rcases List.mem_append.mp m with m|m
  ·exact(S.tab p hp).2 m
  ·rw [List.mem_singleton]at m
   exact ht p hp m.symm
theorem aJ.adopt{h₀:Heap}(G:aJ Z dH M₀ h₀ J M h)(hd:h₀.get? a=none):aJ Z dH M₀ h₀ (J++[a]) M h:=by
 obtain⟨l,rfl,f⟩:=G.pre
 exact⟨⟨l++[a],by simp,fun b m=>(List.mem_append.mp m).elim (f b) fun m=>by rw [List.mem_singleton]at m;rw [m];exact hd⟩,G.ext,G.more,G.fresh⟩
end
section
variable{prog:Program}{w:World}{R:Result→Shared→Prop}{s:Shared}
def Bl(prog:Program)(w:World)(A:Around)(elt target:Expr)(ifs:List Expr)(it acc:Value)(env:PySem.Env)(R:Result→Shared→Prop)(J1:Shared→Prop)(E:Value→Shared→Prop)(r:Option Value)(ag:Shared):Prop:=match r with
 |none=>R (.ok .next) ag
 |some v=>ab (model prog w) A (letOwnedTupleGo target it v) (fun Y sr=>ab (model prog w) A (assign target env v) (fun Y aK=>
   ab (model prog w) A (forIn ifs true fun c r=>if r=true then do let ok←isTrue c env (eval c env);pure (ForInStep.yield ok)else pure (ForInStep.yield r)) (fun ok bI=>
    if ok=true then ab (model prog w) A (eval elt env) (fun x kF=>ab (model prog w) A (call (.builtin "list.append") [acc,x]) (fun Y m8=>J1 m8) E kF) E bI
    else J1 bI) E aK) E sr) E ag
theorem wC{elt target iter:Expr}{ifs:List Expr}{scope:Scope}{it acc:Value}(I:Nat→Shared→Prop)
  (turn:∀n s,I n s→∀E,ab (model prog w) A (pyNext it) (Bl prog w A elt target ifs it acc env R (fun s=>∃m,m<n∧I m s) E) E s)
  (n:Nat)(h:I n s):aY (model prog w) A (.compLoop (.ListComp elt [⟨target,iter,ifs,0⟩] scope pos) 0 it acc env) R s:=by
 refine kr rfl I (fun n s hI=>?_) n h
 show ab _ A ((compTurn (.ListComp elt [⟨target,iter,ifs,0⟩] scope pos) 0 it acc env).onRaise (fun x=>do noteFrame x env;theTreesLotGoes x)) _ _ s
 refine gG ?_
 rw [compTurn_list];refine aa (au (aa (aG (turn n s hI _) (fun r ag h₁=>?_) fun Y Y h'=>h')))
 cases r with
 |none=>exact af h₁
 |some v=>
  refine aa (aG h₁ (fun Y sr Oh=>?_) fun Y Y h'=>h')
  refine aa (aG Oh (fun Y aK bl=>aa (aG bl (fun ok bI dD=>?_) fun Y Y h'=>h')) fun Y Y h'=>h')
  cases ok with
  |false=>exact af ⟨rfl,dD⟩
  |true=>exact aa (aa (aG dD (fun x kF iy=>aa (aG iy (fun Y m8 vQ=>af (af ⟨rfl,vQ⟩)) fun Y Y h'=>h')) fun Y Y h'=>h'))
end
section
theorem FC(l:List Expr):(forIn l false fun c r=>if r=true then do let ok←isTrue c env (eval c env);pure (ForInStep.yield ok)else pure (ForInStep.yield r):Sem Bool)=pure false:=by
 induction l with
 |nil=>rfl
 |cons c l ih=>rw [List.forIn_cons];simp only[Bool.false_eq_true,if_false,pure_bind];exact ih
theorem Bs(HT:uX C ih d):∀{xs:List Expr}{s:AS}{b:Bool}{s':AS}{J:List Addr}{M:Addr→Prop}{st:Shared}{Q:Bool→Shared→Prop},(xk ih ifs ρ s).leaf C.ν=some (b,s')→cP C kd ifs xs→eZ C Z J M kd env ρ st.heap→aq C J M s st.heap→bz A d→bZ C Z J st.heap→KB C Z J M st b s' Q→
  ab (Md C) A (forIn xs true fun c r=>if r=true then do let ok←isTrue c env (eval c env);pure (ForInStep.yield ok)else pure (ForInStep.yield r)) Q E st:=by
 induction ifs with
 |nil=>
  intro xs s b s' J M st Q e hl F S R z K;rw [hl.nl,List.forIn_nil];exact af ((K.of e).now S st.toks)
 |cons a l CQ=>
  intro xs s b s' J M st Q e hl F S R z K;refine hl.oI fun x xs h1 Y h4=>aH.cz e fun q aK e2 e=>?_
  rw [List.forIn_cons];show ab (Md C) A ((isTrue x env (eval x env)>>=fun ok=>pure (ForInStep.yield ok))>>=_) Q E st
  refine aa (aa (HT a ρ s q aK e2 kd _ h1 Z J M env A st F S R z _ _ fun cg dG bl bb G bN=>af ?_))
  cases q with
  |true=>exact CQ (st:={st with heap:=bl,toks:=bb}) e h4 (F.grow G) bN R (z.grow G) (K.after G)
  |false=>
   show ab _ A (forIn _ false _) Q E _;rw [FC];exact af (K.of e _ _ _ _ G bN)
theorem eZ.more(F:eZ C Z J M kd env ρ h)(hz:∀a,Z a→Z' a):eZ C Z' J M kd env ρ h:=
 ⟨F.glob,F.iO,F.kind,F.kinds,F.DK,F.wK,F.code,fun x v e k=>let⟨rv,a,b⟩:=F.vars x v e k;⟨rv,a.more hz,b⟩⟩
set_option tactic.hygienic true in
theorem wF{cl:List (Str×Addr)}{L:Addr}(hk:sc.kind=.function)(hcell:∀y∈sc.names,y.2≠.cell)(hfree:∀y∈sc.names,y.2=.free→kd.k y.1=some .cell∨kd.k y.1=some .free)(htg:∀x,sc.names.lookup (C.nm x)=some .local→x∈tg)
  (hcl:∀x c,cl.lookup x=some c→env.cells.lookup x=some c)(C1:∀y∈sc.names,y.2=.free→(cl.lookup y.1).isSome=true)(F:eZ C Z J M kd env ρ h)(hn:h.Ns L m)(hm:M L)(hz:¬Z L)(zL:bZ C (fun a=>a=L) J h)(hL:∀x c,env.cells.lookup x=some c→c≠L):
  cW C Z J M (fun a=>a=L) (cn kd sc) false (compEnvC sc cl L env) (ph tg ρ) h:=by
 have hkinds:∀x,(compEnvC sc cl L env).kindOf x=(cn kd sc).k x:=fun x=>by
  show List.lookup x (relabel sc env).names=_;show List.lookup x _=List.lookup x _;unfold relabel
  congr 1
  refine List.map_congr_left fun p Y=>?_
  obtain⟨n,k⟩:=p
  have Ep:env.kindOf n=kd.k n:=F.kinds n
  show(if(k==NameKind.free&&env.scope.kind==.function&&env.kindOf n==some NameKind.cell)=true then(n,NameKind.cell)else(n,k))=if(k==NameKind.free&&kd.k n==some NameKind.cell)=true then(n,NameKind.cell)else(n,k);have hb:(ScopeKind.function==ScopeKind.function)=true:=rfl
  rw [F.kind,Ep,hb,Bool.and_true]
 have hfind:∀x k,(cn kd sc).k x=some k→k≠.local→∃y∈sc.names,y.1=x∧(k=.cell∨k=.free→y.2=.free):=by
  intro x k hk hne;rw [jr]at hk;refine aC (Option.map_eq_some_iff.mp hk:) fun y h1 h2=>?_
  refine⟨y,List.mem_of_find?_eq_some h1,(beq_iff_eq.mp (List.find?_some (p:=fun p:Str×NameKind=>x==p.1) h1)).symm,fun hcf=>?_⟩
  split at h2
  ·rename_i q
   have:=(Bool.and_eq_true_iff.mp q).1
   exact beq_iff_eq.mp this
  ·subst h2
   rcases hcf with q|q
   ·exact absurd q (hcell y (List.mem_of_find?_eq_some h1))
   ·exact q
 have hcel:∀x,(cn kd sc).k x=some .cell∨(cn kd sc).k x=some .free→∃c,cl.lookup x=some c∧env.cells.lookup x=some c∧(kd.k x=some .cell∨kd.k x=some .free):=by
  intro x hx;have:∃k,(cn kd sc).k x=some k∧(k=.cell∨k=.free):=hx.elim (fun q=>⟨_,q,.inl rfl⟩) fun q=>⟨_,q,.inr rfl⟩
  refine aC (this:) fun k h1 h2=>?_
  obtain⟨y,h3,h4,h5⟩:=hfind x k h1 (by rcases h2 with rfl|rfl<;>exact fun q=>by injection q)
  have h6:=h5 h2
  obtain⟨c,hc⟩:=Option.isSome_iff_exists.mp (C1 y h3 h6)
  rw [h4]at hc;exact⟨c,hc,hcl _ _ hc,h4▸hfree y h3 h6⟩
 refine⟨⟨F.glob,F.iO,hk,hkinds,(fun x hx=>let⟨c,h1,_⟩:=hcel x hx;⟨c,h1⟩),(fun x c q=>F.wK x c (hcl x c q)),(fun c q=>let⟨a1,a2,a3⟩:=F.code c q;⟨a1,a2,fun x a q=>a3 x a (hcl x a q)⟩),fun x v e hq=>?_⟩,fun a q=>by subst q;exact⟨hm,hz⟩,zL,rfl,⟨m,hn⟩,(fun q=>by injection q),fun x c q=>hL x c (hcl x c q),(fun q=>by injection q),hk⟩
 rw [cY]at e;split at e
 ·injection e
 ·rename_i hx
  have hnl:(cn kd sc).k (C.nm x)≠some .local:=fun q=>by
   rw [jr]at q;refine aC (Option.map_eq_some_iff.mp q:) fun y h1 h2=>?_
   split at h2
   ·injection h2
   ·exact hx (htg x (by rw [lH,h1];exact congrArg some h2))
  rcases hq with hq|hq
  ·exact absurd hq hnl
  ·refine lu (hcel _ hq:) fun c h1 h2 h3=>?_
   refine aC (F.vars x v e (.inr h3):) fun rv Rr V=>?_
   refine⟨rv,?_,V⟩
   cases Rr with
   |loc m' a b c' d=>rw [F.kinds]at a;rw [a]at h3;rcases h3 with q|q<;>(injection q with q;injection q)
   |cell c' o a b e' f g=>
    rw [b]at h2;cases (h2);exact .cell c o (by rw [hkinds];exact hq) h1 (e'.imp .inl id) f g
end
section
theorem cW.xK(F:cW C Z J M own kd cs env ρ h)(hz:∀a,Z a→Z' a)(hn:∀a,own a→¬Z' a):cW C Z' J M own kd cs env ρ h:=
 ⟨F.f.more fun a q=>q.imp (hz a) id,fun a q=>⟨(F.eE a q).1,hn a q⟩,F.gh,F.lo,F.ns,F.ce,F.lc,F.ap,F.fN⟩
theorem De(h:uP C (fun n=>sc.names.lookup n) tg flat xt):mx C (cn kd sc) false tg flat xt:=by
 have key:∀s,sc.names.lookup s=some .local→(cn kd sc).k s=some .local:=fun s hs=>by
  rw [lH]at hs;rw [jr];refine aC (Option.map_eq_some_iff.mp hs:) fun y h1 h2=>?_
  rw [h1,Option.map_some,h2]
  rfl
 exact eJ.mono h fun s h2=>.inl (key s h2)
theorem AM{vs:List Value}{Q:Value→Shared→Prop}(ex:st.heap.get? a=some (bS vs n))(hl:vs.length≤100000)(K:∀h' n',Heap.SameBut a st.heap h'→h'.get? a=some (bS (vs++[rv]) n')→Q .none {st with heap:=h'}):
  ab (Md C) A (call (.builtin "list.append") [.ref a,rv] []) Q E st:=by
 refine lf<|call_meets PySem.F.slot_list_append ⟨_,ex,rfl⟩ PySem.F.entry_list_append (PySem.F.args_list_append_2 _ _) (list_append a vs.toArray n rv (by rw [List.size_toArray];exact bJ hl)) ⟨ex,?_⟩
 refine dm (fj (fun q=>q.push rv) vs (vs++[rv]) n (by simp):) fun n' q=>?_
 exact K _ n' (Heap.SameBut.update ..) ((Heap.get?_update_self _ ex rfl).trans (congrArg some q))
structure rU(C:Cx)(Z T:Addr→Prop)(M:Addr→Prop)(env:PySem.Env)(D L:Addr):Prop where
 ne:D≠L
 z:∀a,Z a→a≠D∧a≠L
 t:∀a,T a→a≠D∧a≠L
 tm:∀a,T a→M a∧¬Z a
 tc:∀x c,env.cells.lookup x=some c→¬T c
structure lU(C:Cx)(P:Pg)(N:oO)(d n:Nat)(elt:CE)(tg:List Nat)(flat:Bool)(ifs:List CE)(src:AV)(ρ:Env)(v:AV)(s':AS)(kd:Kd)(sc:Scope)(cl:List (Str×Addr))(env:PySem.Env)(Z T:Addr→Prop)(St:List Addr→(Addr→Prop)→Nat→Heap→Prop)(D L:Addr)(J:List Addr)(M:Addr→Prop)(h:Heap)
  (m:Nat)(h':Heap)(σ':List Addr)(M':Addr→Prop)(ag:AS)(k:Nat)(acc:List AV)(ys:List Value)(nD:Nat):Prop where
 e:((run P N m d).ev (.gy elt tg flat ifs src k acc) ρ ag).leaf C.ν=some (v,s')
 G:aJ Z J M h σ' M' h'
 hM:∀a,(T a∨(a=D∨a=L))→M' a
 S:aq C σ' M' ag h'
 FX:cW C Z σ' M' (fun a=>a=L) (cn kd sc) false (compEnvC sc cl L env) (ph tg ρ) h'
 st:St σ' M' k h'
 hD:h'.get? D=some (bS ys nD)
 Vy:ay C σ' M' h' acc.reverse ys
 zW:bZ C (fun a=>T a∨(a=D∨a=L)) σ' h'
 zZ:bZ C Z σ' h'
 len:acc.length+m≤n
def CompEnd(C:Cx)(s':AS)(v:AV)(st:Shared)(dH:List Addr)(M₀ Z:Addr→Prop)(h₀:Heap)(RR:Value→Addr→Result→Shared→Prop):Prop:=∀D L h' tk σ' M',aJ Z dH M₀ h₀ σ' M' h'→aq C σ' M' s' h'→ao C σ' M' h' v (.ref D)→h₀.get? L=none→M' L→bZ C (fun a=>a=L) σ' h'→(∃m,h'.Ns L m)→RR (.ref D) L (.ok .next) {st with heap:=h',toks:=tk}
section
variable{cl:List (Str×Addr)}{St:List Addr→(Addr→Prop)→Nat→Heap→Prop}{D L:Addr}{m nD:Nat}{ag:AS}{acc:List AV}{ys:List Value}{h₀:Heap}{RR:Value→Addr→Result→Shared→Prop}
theorem DB(Fx:rU C Z T M env D L)(H:lU C P N d n elt tg flat ifs src ρ v s' kd sc cl env Z T St D L J M h m h' σ' M' ag k acc ys nD)(hcl:∀x c,cl.lookup x=some c→env.cells.lookup x=some c)(oz:h.get? D=none)(ia:h.get? L=none)
  (iQ:aJ Z dH M₀ h₀ J M h)(dT:∀a,T a→h₀.get? a=none)(kS:∀b,M₀ b→∃o,h₀.get? b=some o)(K4:CompEnd C s' v st dH M₀ Z h₀ RR)(og:(newList ag acc.reverse).leaf C.ν=some (v,s')){bl:Heap}{bb:Tok}(jk:∀b o,¬T b→h'.get? b=some o→bl.get? b=some o):RR (.ref D) L (.ok .next) {st with heap:=bl,toks:=bb}:=by
 refine aw (bu og:) fun hl og=>?_
 refine aH.cz og fun i bI Sz og=>?_
 obtain⟨rfl,rfl⟩:=pi_inj og
 obtain⟨hb,rfl,rfl⟩:=eS Sz
 refine aw (H.S.eY (T:=T) (fun a q=>⟨H.hM a (.inl q),(H.zW a (.inl q)).2⟩) jk:) fun bN Tf=>?_
 have TZ:¬T D:=fun q=>(Fx.t D q).1 rfl
 have Ry:¬T L:=fun q=>(Fx.t L q).2 rfl
 refine dz (H.zW D (.inr (.inl rfl)):) fun UZ QN QM=>?_
 refine dz (bN.adopt hb ⟨H.hM D (.inr (.inl rfl)),TZ⟩ QN QM (.list acc.reverse) (.list _ _ ys nD (jk _ _ TZ H.hD) (H.Vy.chg Tf)):) fun fk X he=>?_
 have aZ:=(iQ.trans H.G).eY dT kS jk
 have P8:=H.FX.eY (T:=T) (fun a q=>H.hM a (.inl q)) (fun a q q'=>Ry (q'▸q)) (fun x c q=>Fx.tc x c (hcl x c q)) jk
 obtain⟨⟨oL,eL⟩,b2,b3⟩:=H.zW L (.inr (.inr rfl))
 refine K4 D L bl bb (σ'++[D]) _ (aZ.adopt (iQ.ext.dead oz)) fk (.ref _ _ he) (iQ.ext.dead ia) ⟨H.hM L (.inr (.inr rfl)),Ry⟩ (fun a q=>?_) P8.ns
 rw [q];exact⟨⟨oL,jk _ _ Ry eL⟩,fun m=>(List.mem_append.mp m).elim b2 fun m=>Fx.ne (List.mem_singleton.mp m).symm,b3⟩
theorem Mv(zW:bZ C (fun a=>T a∨(a=D∨a=L)) J h)(zZ:bZ C Z J h):bZ C (fun a=>(Z a∨a=L)∨(T a∨a=D)) J h:=fun a q=>q.elim (fun q=>q.elim (zZ a) fun q=>zW a (.inr (.inr q))) fun q=>q.elim (fun q=>zW a (.inl q)) fun q=>zW a (.inr (.inl q))
theorem zV(inj:∀x y,C.nm x=C.nm y→x=y)(HE:fV C (run P N m d) d)(HT:uX C (run P N m d) d){I:Addr}{x:AV}(Fx:rU C Z T M env D L)(H:lU C P N d n elt tg flat ifs src ρ v s' kd sc cl env Z T St D L J M h (m+1) h' σ' M' ag k acc ys nD)
  (hn:n≤100000)(It:jw C 0 src I T St)(R:bz A d)(fT:uP C (fun n=>sc.names.lookup n) tg flat xt)(fE:aU C (cn kd sc) elt xe)(fI:cP C (cn kd sc) ifs xs)(hb:ib tg flat x ρ=some ρ')
  (e':((xk (run P N m d) ifs ρ' ag).bind fun(b,s)=>match b with
    |false=>(run P N m d).ev (.gy elt tg flat ifs src (k+1) acc) ρ s
    |true=>((run P N m d).ev elt ρ' s).bind fun(w,s)=>(run P N m d).ev (.gy elt tg flat ifs src (k+1) (w::acc)) ρ s).leaf C.ν=some (v,s'))
  {dD:Heap}{bb:Tok}{rv:Value}(c0:aJ (fun a=>(Z a∨a=L)∨a=D) σ' M' h' σ' M' dD)(fk:aq C σ' M' ag dD)(V:ao C σ' M' dD x rv)(su:St σ' M' (k+1) dD){J1:Shared→Prop}
  (K:∀h' tk σ' M' ag acc ys nD,lU C P N d n elt tg flat ifs src ρ v s' kd sc cl env Z T St D L J M h m h' σ' M' ag (k+1) acc ys nD→J1 {st with heap:=h',toks:=tk}){E:Value→Shared→Prop}:
  ab (Md C) A (assign xt (compEnvC sc cl L env) rv) (fun Y aK=>ab (Md C) A (forIn xs true fun c r=>if r=true then do let ok←isTrue c (compEnvC sc cl L env) (eval c (compEnvC sc cl L env));pure (ForInStep.yield ok)else pure (ForInStep.yield r)) (fun ok bI=>
    if ok=true then ab (Md C) A (eval xe (compEnvC sc cl L env)) (fun x kF=>ab (Md C) A (call (.builtin "list.append") [.ref D,x]) (fun Y m8=>J1 m8) E kF) E bI
    else J1 bI) E aK) E {st with heap:=dD,toks:=bb}:=by
 refine lu (Ag hb:) fun bT Iz Wk Ui=>?_
 have Jc:=H.FX.grow (c0.less fun a q=>.inl q)
 refine qO (Z:=fun a=>Z a∨(T a∨a=D)) (st:={st with heap:=dD,toks:=bb}) inj (De (kd:=kd) fT) R.1 Iz V (Jc.xK (fun Y q=>.inl q) fun a q=>by
  rw [q];exact fun x=>x.elim (fun x=>(Fx.z _ x).2 rfl) fun x=>x.elim (fun x=>(Fx.t _ x).2 rfl) fun x=>Fx.ne x.symm) fk fun iy fG dO lg my=>?_
 have Jb:=my Z _ _ Iz Jc
 have Bw:=It.keep (Z:=fun a=>Z a∨(T a∨a=D)) (fun a q=>.inr (.inl q)) dO su
 have Oy:=dO.di (.inr (.inr rfl)) (c0.di (.inr rfl) H.hD)
 have I4:=(H.Vy.grow c0).grow dO
 have Hw:=(H.zW.bF c0).bF dO
 have Hu:=(H.zZ.bF c0).bF dO
 have rR:=(H.G.trans (c0.less fun a q=>.inl (.inl q))).trans (dO.less fun a q=>.inl q)
 refine aH.cz e' fun b m8 Sy e'=>?_
 have fr:∀{J M h},cW C Z J M (fun a=>a=L) (cn kd sc) false (compEnvC sc cl L env) bT h→eZ C (fun a=>(Z a∨a=L)∨(T a∨a=D)) J M (cn kd sc) (compEnvC sc cl L env) ρ' h:=fun FX=>(FX.f.sub fun y w q=>(Wk y)▸q).more fun a q=>.inl q
 refine Bs HT (st:={st with heap:=iy,toks:=fG}) Sy fI (fr Jb) lg R (Mv Hw Hu) fun w7 Ed vQ pH lS Hi=>?_
 have Ef:=Jb.grow (lS.less fun a q=>.inl q)
 have HU:=It.keep (fun a q=>.inr (.inl q)) lS Bw
 have IF:=lS.di (.inr (.inr rfl)) Oy
 have AY:=Hw.bF lS
 have AX:=Hu.bF lS
 have yD:=rR.trans (lS.less fun a q=>.inl (.inl q))
 have IB:∀a,(T a∨(a=D∨a=L))→Ed a:=fun a q=>lS.more a (H.hM a q)
 have hlen:=H.len
 cases b with
 |false=>
  rw [if_neg Bool.false_ne_true];exact K vQ pH w7 Ed m8 acc ys nD ⟨e',yD,IB,Hi,Ef.sub Ui,HU,IF,I4.grow lS,AY,AX,by lia⟩
 |true=>
  rw [if_pos rfl];refine aH.cz e' fun w JJ Sx e'=>?_
  refine HE elt ρ' m8 w JJ Sx _ xe fE _ w7 Ed _ A {st with heap:=vQ,toks:=pH} (fr Ef) Hi R (Mv AY AX) _ _ fun mY uL ru kE rw iC uI Tg=>?_
  have Ox:=iC.di (.inr (.inr rfl)) IF
  have I3:=(I4.grow lS).grow iC
  have Hv:=AY.bF iC
  have IA:∀a,(T a∨(a=D∨a=L))→uL a:=fun a q=>iC.more a (IB a q)
  have hy:=I3.length
  rw [List.length_reverse]at hy;refine AM (st:={st with heap:=ru,toks:=kE}) Ox (by lia) fun RQ n' Oj ID=>?_
  refine dz (Hv D (.inr (.inl rfl)):) fun UZ QN QM=>?_
  refine aw (sT (Z:=fun a=>(Z a∨a=L)∨T a) uI (IA D (.inr (.inl rfl))) (fun q=>q.elim (fun q=>q.elim (fun q=>(Fx.z D q).1 rfl) Fx.ne) fun q=>(Fx.t D q).1 rfl) QN QM Oj ⟨_,ID⟩:) fun Th wZ=>?_
  have Hm:=(iC.less fun a q=>.inl (.inl q)).trans (wZ.less fun a q=>.inl (.inl q))
  refine K RQ kE mY uL JJ (w::acc) (ys++[rw]) n' ⟨e',yD.trans Hm,IA,Th,((Ef.grow (iC.less fun a q=>.inl q)).grow (wZ.less fun a q=>.inl q)).sub Ui,It.keep (fun a q=>.inr q) wZ (It.keep (fun a q=>.inr (.inl q)) iC HU),ID,?_,Hv.bF wZ,(AX.bF iC).bF wZ,by rw [List.length_cons];lia⟩
  rw [List.reverse_cons];exact(I3.grow wZ).append (.cons (Tg.grow wZ) .nil)
theorem DA(inj:∀x y,C.nm x=C.nm y→x=y)(HB:∀m,m≤n→fV C (run P N m d) d∧uX C (run P N m d) d){I:Addr}(Fx:rU C Z T M env D L)
  (hn:n≤100000)(It:jw C 0 src I T St)(R:bz A d)(fT:uP C (fun n=>sc.names.lookup n) tg flat xt)(fE:aU C (cn kd sc) elt xe)(fI:cP C (cn kd sc) ifs xs)
  (hcl:∀x c,cl.lookup x=some c→env.cells.lookup x=some c)(oz:h.get? D=none)(ia:h.get? L=none)(iQ:aJ Z dH M₀ h₀ J M h)(dT:∀a,T a→h₀.get? a=none)(kS:∀b,M₀ b→∃o,h₀.get? b=some o)(K4:CompEnd C s' v st dH M₀ Z h₀ RR)
  {tk:Tok}(H:lU C P N d n elt tg flat ifs src ρ v s' kd sc cl env Z T St D L J M h n h' σ' M' ag k acc ys nD):aY (Md C) A (.compLoop (.ListComp xe [⟨xt,xi,xs,0⟩] sc pos) 0 (.ref I) (.ref D) (compEnvC sc cl L env)) (RR (.ref D) L) {st with heap:=h',toks:=tk}:=by
 refine wC (fun m nk=>∃h' tk σ' M' ag k acc ys nD,nk={st with heap:=h',toks:=tk}∧lU C P N d n elt tg flat ifs src ρ v s' kd sc cl env Z T St D L J M h m h' σ' M' ag k acc ys nD) ?_ n ⟨h',tk,σ',M',ag,k,acc,ys,nD,rfl,H⟩
 rintro m nk ⟨h',tk,σ',M',ag,k,acc,ys,nD,rfl,H⟩ E
 have e:=H.e
 cases m with
 |zero=>exact no e
 |succ m=>
  refine aH.bd e fun r er e'=>?_
  refine It.next (Z:=fun a=>(Z a∨a=L)∨a=D) (st:={st with heap:=h',toks:=tk}) R.1 H.S (fun a q=>⟨H.hM a (.inl q),fun x=>x.elim (fun x=>x.elim (Fx.tm a q).2 (Fx.t a q).2) (Fx.t a q).1,(H.zW a (.inl q)).2⟩) H.st er (fun hr bl bb jk=>?_) fun x hx bl bb rv aZ bN dN own=>?_
  ·rw [hr]at e'
   exact DB Fx H hcl oz ia iQ dT kS K4 e' jk
  ·rw [hx]at e'
   exact aC (aI e') fun ρ' hb e'=>by
    have hm:m≤n:=by have:=H.len;lia
    refine own _ A _ E (.inl rfl) fun dD c0 fk su=>?_
    exact zV inj (HB m hm).1 (HB m hm).2 Fx H hn It R fT fE fI hb e' (aZ.trans c0) fk (dN.grow c0) su fun h' tk σ' M' ag acc ys nD H'=>⟨m,Nat.lt_succ_self _,h',tk,σ',M',ag,k+1,acc,ys,nD,rfl,H'⟩
end
theorem wD(inj:∀x y,C.nm x=C.nm y→x=y)(hn:n≤100000)(HB:∀m,m≤n→fV C (run P N m d) d∧uX C (run P N m d) d){cl:List (Str×Addr)}
  (e:((run P N n d).ev (.gy elt tg flat ifs src 0 []) ρ s).leaf C.ν=some (v,s'))(fT:uP C (fun n=>sc.names.lookup n) tg flat xt)(fE:aU C (cn kd sc) elt xe)(fI:cP C (cn kd sc) ifs xs)
  (hk:sc.kind=.function)(hcell:∀y∈sc.names,y.2≠.cell)(hfree:∀y∈sc.names,y.2=.free→kd.k y.1=some .cell∨kd.k y.1=some .free)(htg:∀x,sc.names.lookup (C.nm x)=some .local→x∈tg)
  (hcl:∀x c,cl.lookup x=some c→env.cells.lookup x=some c)(C1:∀y∈sc.names,y.2=.free→(cl.lookup y.1).isSome=true)
  {I:Addr}{T:Addr→Prop}{St:List Addr→(Addr→Prop)→Nat→Heap→Prop}(It:jw C 0 src I T St)(F:eZ C Z J M kd env ρ h)(S:aq C J M s h)(R:bz A d)(z:bZ C Z J h)(hT:∀a,T a→M a∧¬Z a)(Mj:∀x c,env.cells.lookup x=some c→¬T c)(zT:bZ C T J h)(Ga:St J M 0 h)
  {dH:List Addr}{M₀:Addr→Prop}{h₀:Heap}(iQ:aJ Z dH M₀ h₀ J M h)(dT:∀a,T a→h₀.get? a=none)(kS:∀b,M₀ b→∃o,h₀.get? b=some o)
  {RR:Value→Addr→Result→Shared→Prop}(K4:CompEnd C s' v st dH M₀ Z h₀ RR){D L:Addr}{h₁:Heap}{tk:Tok}(Qr:D≠L)(oz:h.get? D=none)(ia:h.get? L=none)(old:∀b o,h.get? b=some o→h₁.get? b=some o)(IG:h₁.get? D=some (bS [] 0)){V0:Str→Option Value}(nQ:h₁.Ns L V0):
  aY (Md C) A (.compStart (.ListComp xe [⟨xt,xi,xs,0⟩] sc pos) 0 (.ref I) (.ref D) (compEnvC sc cl L env)) (RR (.ref D) L) {st with heap:=h₁,toks:=tk}:=by
 have Ow:∃o,h₁.get? L=some o:=let⟨o,es,ep,e,_⟩:=nQ;⟨o,e⟩
 have dead:∀a,(a=D∨a=L)→h.get? a=none:=fun a q=>q.elim (fun q=>q▸oz) fun q=>q▸ia
 have live:∀a,(a=D∨a=L)→∃o,h₁.get? a=some o:=fun a q=>q.elim (fun q=>q▸⟨_,IG⟩) fun q=>q▸Ow
 have off:∀{b:Addr},(∃o,h.get? b=some o)→b≠D∧b≠L:=fun⟨o,e⟩=>⟨fun x=>aM (x▸e) oz,fun x=>aM (x▸e) ia⟩
 have Fx:rU C Z T M env D L:=⟨Qr,fun a q=>off (z a q).1,fun a q=>off (zT a q).1,hT,Mj⟩
 obtain⟨aD,aF⟩:=aq.uF (st:={st with heap:=h}) (Z:=Z) (h₁:=h₁) (own:=fun a=>a=D∨a=L) S old dead live
 have Hx:bZ C (fun a=>T a∨(a=D∨a=L)) J h₁:=fun a q=>by
  rcases q with q|q
  ·obtain⟨⟨o,e⟩,b,c⟩:=zT a q
   exact⟨⟨o,old a o e⟩,b,c⟩
  ·refine⟨live a q,fun m=>let⟨o,e⟩:=S.there a m;aM e (dead a q),fun p hp q'=>?_⟩
   obtain⟨⟨ps,a1,a2,a3,a4⟩,a5⟩:=S.tab p hp
   exact aM (q'▸a2) (dead a q)
 have P9:cW C Z J _ (fun a=>a=L) (cn kd sc) false (compEnvC sc cl L env) (ph tg ρ) h₁:=
  wF hk hcell hfree htg hcl C1 (F.grow aF) nQ (.inr (.inr rfl)) (fun q=>(Fx.z L q).2 rfl) (fun a q=>Hx a (.inr (.inr q))) fun x c q=>(off (F.wK _ c q)).2
 have sy:=It.keep (Z:=T) (fun Y q=>q) (aq.uF (st:={st with heap:=h}) (Z:=T) (h₁:=h₁) (own:=fun a=>a=D∨a=L) S old dead live).2 Ga
 have H:lU C P N d n elt tg flat ifs src ρ v s' kd sc cl env Z T St D L J M h n h₁ J _ s 0 [] [] 0:=⟨e,aF,fun a q=>q.imp (fun q=>(hT a q).1) id,aD,P9,sy,IG,.nil,Hx,z.bF aF,by simp⟩
 have key:∀tk,aY (Md C) A (.compLoop (.ListComp xe [⟨xt,xi,xs,0⟩] sc pos) 0 (.ref I) (.ref D) (compEnvC sc cl L env)) (RR (.ref D) L) {st with heap:=h₁,toks:=tk}:=fun tk=>DA inj HB Fx hn It R fT fE fI hcl oz ia iQ dT kS K4 H
 exact ik (key _) (It.self R.1 sy (key _))
theorem zX(inj:∀x y,C.nm x=C.nm y→x=y)(hn:n≤100000)(HB:∀m,m≤n→fV C (run P N m d) d∧uX C (run P N m d) d){cl:List (Str×Addr)}
  (e:((run P N n d).ev (.gy elt tg flat ifs src 0 []) ρ s).leaf C.ν=some (v,s'))(fT:uP C (fun n=>sc.names.lookup n) tg flat xt)(fE:aU C (cn kd sc) elt xe)(fI:cP C (cn kd sc) ifs xs)
  (hk:sc.kind=.function)(hcell:∀y∈sc.names,y.2≠.cell)(hfree:∀y∈sc.names,y.2=.free→kd.k y.1=some .cell∨kd.k y.1=some .free)(htg:∀x,sc.names.lookup (C.nm x)=some .local→x∈tg)
  (hcl:∀x c,cl.lookup x=some c→env.cells.lookup x=some c)(C1:∀y∈sc.names,y.2=.free→(cl.lookup y.1).isSome=true)
  {I:Addr}{T:Addr→Prop}{St:List Addr→(Addr→Prop)→Nat→Heap→Prop}(It:jw C 0 src I T St)(F:eZ C Z J M kd env ρ st.heap)(S:aq C J M s st.heap)(R:bz A d)(z:bZ C Z J st.heap)(hT:∀a,T a→M a∧¬Z a)(Mj:∀x c,env.cells.lookup x=some c→¬T c)(zT:bZ C T J st.heap)(Ga:St J M 0 st.heap)
  {dH:List Addr}{M₀:Addr→Prop}{h₀:Heap}(iQ:aJ Z dH M₀ h₀ J M st.heap)(dT:∀a,T a→h₀.get? a=none)(kS:∀b,M₀ b→∃o,h₀.get? b=some o)
  {RR:Value→Addr→Result→Shared→Prop}
  (K4:CompEnd C s' v st dH M₀ Z h₀ RR):
  ab (Md C) A (PySem.newList []) (fun acc bI=>ab (Md C) A (newFunctionEnv sc env.globals cl [] env.qual none .none (some env)) (fun cenv kF=>
   aY (Md C) A (.compStart (.ListComp xe [⟨xt,xi,xs,0⟩] sc pos) 0 (.ref I) acc {cenv with scope:=relabel sc env}) (RR acc cenv.locals) kF) E bI) E st:=by
 refine lf<|wpAny_newObj_type (lf<|wpAny_newFunctionEnv hcell (by intro y hy;simp at hy) (fun h₁ nQ vW=>?_) hk)
 dsimp only at nQ vW⊢
 have dead:∀a,st.heap.objs.size≤a→st.heap.get? a=none:=fun a ha=>by
  cases q:st.heap.get? a with
  |none=>rfl
  |some o=>exact absurd (Heap.lt_size q) (Nat.not_lt.mpr ha)
 have hC:∀o:Obj,(st.heap.push o).objs.size=st.heap.objs.size+1:=fun o=>Heap.size_push ..
 have ia:st.heap.get? (st.heap.push {cls:=.type "list",dict:=none,data:=.seq ([]:List Value).toArray}).objs.size=none:=dead _ (by rw [hC];exact Nat.le_succ _)
 have Qr:st.heap.objs.size≠(st.heap.push {cls:=.type "list",dict:=none,data:=.seq ([]:List Value).toArray}).objs.size:=by rw [hC];exact Nat.ne_of_lt (Nat.lt_succ_self _)
 exact wD inj hn HB e fT fE fI hk hcell hfree htg hcl C1 It F S R z hT Mj zT Ga iQ dT kS K4 Qr (dead _ (Nat.le_refl _)) ia (fun b o e=>vW.extBut b o (fun q=>aM e (q▸ia)) (Heap.get?_push_of_some _ (Heap.get?_push_of_some _ e))) (vW.extBut _ _ Qr (Heap.get?_push_of_some _ (Heap.get?_push_size _ rfl))) nQ
end
section
theorem qc(h:∀x k p,xi≠.Set x k p)(x:Value):foldedSetIterable xi env x=pure x:=by
 unfold foldedSetIterable;cases xi<;>first|rfl|exact absurd rfl (h _ _ _)
theorem zY(e:((run P N n d).ev (.gy elt tg flat ifs src 0 []) ρ s).leaf C.ν=some (v,s')):∃r,(iE s 0 src 0).leaf C.ν=some r:=by
 cases n with
 |zero=>injection e
 |succ m=>
  have e':(cq P N (run P N m d) (.gy elt tg flat ifs src 0 []) ρ s).leaf C.ν=some (v,s'):=e
  unfold cq at e';refine aC (aH.jz e':) fun r er Y=>?_
  exact⟨r,er⟩
abbrev Eh(C:Cx)(kd:Kd)(elt:CE)(tg:List Nat)(flat:Bool)(it:CE)(ifs:List CE)(xe xt xi:Expr)(xs:List Expr)(sc:Scope):Prop:=Eg C.toTx (FS C.toTx elt) tg flat (FS C.toTx it) (uQ C.toTx ifs) kd xe xt xi xs sc
theorem qd{it:CE}(h:aU C kd (.comp elt tg flat it ifs) (.ListComp xe [⟨xt,xi,xs,0⟩] sc pos)):Eh C kd elt tg flat it ifs xe xt xi xs sc:=by
 obtain⟨_,_,_,_,_,_,q,f⟩:=ak.DE h
 injection q with q sd fJ;subst q;injection sd with sd UN;injection sd with sd UM QB;subst sd UM QB;cases UN;subst fJ;exact f
theorem um(HI:iB C)(inj:∀x y,C.nm x=C.nm y→x=y)(hn:n≤100000)(HB:∀m,m≤n→fV C (run P N m d) d∧uX C (run P N m d) d){it:CE}{use:Option (Value→Sem Unit)}{Q:Value→Shared→Prop}
  (e:(cq P N (run P N n d) (.comp elt tg flat it ifs) ρ s).leaf C.ν=some (v,s'))(hf:Eh C kd elt tg flat it ifs xe xt xi xs sc)(F:eZ C Z J M kd env ρ st.heap)(S:aq C J M s st.heap)(R:bz A d)(z:bZ C Z J st.heap)
  (K:∀D L h' tk σ' M',aJ Z J M st.heap σ' M' h'→aq C σ' M' s' h'→ao C σ' M' h' v (.ref D)→st.heap.get? L=none→M' L→bZ C (fun a=>a=L) σ' h'→(∃m,h'.Ns L m)→compPost (Md C) A E use Q (.ref D) L (.ok .next) {st with heap:=h',toks:=tk})(pos':Pos):
  ab (Md C) A (comprehension (.ListComp xe [⟨xt,xi,xs,0⟩] sc pos) sc env pos' (PySem.newList []) false (eval xi env) use) Q E st:=by
 obtain⟨f1,f2,f3,f4,f5,f6,f7,f8,f9,WS,_,_⟩:=hf
 refine aH.cz e fun src ag e1 e=>?_
 refine Ay (l8 (scope:=sc) (env:=env) fun y hy hfr=>F.DK y.1 (f8 y hy hfr):) fun cl c1 c2 c3 Y=>?_
 refine gN (use:=use) (Q:=Q) rfl (qc WS) c1 f5 f7 ((HB n (Nat.le_refl _)).1 _ ρ s src ag e1 kd _ f2 Z J M env A st F S R z _ _ fun aA aN h₁ aS rv aF aD bV=>?_)
 refine HI src rv ag aA aN {st with heap:=h₁,toks:=aS} A aD bV (zY e) _ _ fun I T St bl bb It Xk oN hk Ga=>?_
 have hA:=aq.uF (Z:=Z) (st:={st with heap:=h₁,toks:=aS}) (h₁:=bl) (own:=T) aD hk (fun a q=>(oN a q).1) (fun a q=>(oN a q).2)
 refine aw (hA:) fun bN aZ=>?_
 have oV:=z.grow aF
 have G:=aF.trans aZ
 refine zX (st:={st with heap:=bl,toks:=bb}) inj hn HB e f1 f3 f4 f5 f6 f8 f9 c2 c3 It (F.grow G) bN R (z.grow G) (fun a q=>⟨.inr q,fun hz=>let⟨⟨o,e⟩,_⟩:=oV a hz;aM e (oN a q).1⟩) (fun x c q hc=>let⟨o,e⟩:=(F.grow aF).wK x c q;aM e (oN c hc).1) (fun a q=>⟨(oN a q).2,fun m=>let⟨o,e⟩:=aD.there a m;aM e (oN a q).1,fun p hp q'=>?_⟩) (Ga _ (fun a q=>q.imp id fun q=>(oN a q).1) (fun a q=>.inl q) bN) G (fun a q=>aF.ext.dead (oN a q).1) (fun b m=>S.mlt b m) fun D L h' tk σ' M' G' S' V' hL Mk zL hns=>?_
 ·obtain⟨⟨ps,a1,a2,a3,a4⟩,a5⟩:=aD.tab p hp
  exact aM (q'▸a2) (oN a q).1
 ·exact K D L h' tk σ' M' G' S' V' hL Mk zL hns
theorem BG(HI:iB C)(inj:∀x y,C.nm x=C.nm y→x=y)(hn:n≤100000)(HB:∀m,m≤n→fV C (run P N m d) d∧uX C (run P N m d) d){it:CE}{Q:Value→Shared→Prop}
  (e:(cq P N (run P N n d) (.comp elt tg flat it ifs) ρ s).leaf C.ν=some (v,s')){xe xt xi:Expr}{xs:List Expr}{sc:Scope}{pos:Pos}(hf:Eh C kd elt tg flat it ifs xe xt xi xs sc)(F:eZ C Z J M kd env ρ st.heap)(S:aq C J M s st.heap)(R:bz A d)(z:bZ C Z J st.heap)(K:KV C Z J M st v s' Q):
  ab (Md C) A (eval (.ListComp xe [⟨xt,xi,xs,0⟩] sc pos) env) Q E st:=by
 rw [eval_ListComp];refine um HI inj hn HB (use:=none) e hf F S R z (fun D L h' tk σ' M' G S' V hL Mk zL hns=>?_) _
 refine dm (hns:) fun m hns=>?_
 refine⟨m,hns,fun pZ hs=>?_⟩
 refine dz (zL L rfl:) fun b1 b2 b3=>?_
 refine aw (S'.forget Mk b2 b3 hs:) fun uJ X=>?_
 exact K σ' _ pZ tk _ (G.forget hL (fun b m=>S.mlt b m) hs) uJ (V.chg X)
end
theorem kT:∀(ps:List (Nat×AV))(ρ:Env)(y:Nat),y∉ps.map (·.1)→az (ps.foldl (fun ρ p=>bO ρ p.1 p.2) ρ) y=az ρ y
 |[],_,_,_=>rfl
 |p::r,ρ,y,h=>by
  rw [List.map_cons,List.mem_cons,not_or]at h;rw [List.foldl_cons,kT r _ y h.2,cO,if_neg h.1]
theorem rz:∀(ps:List (Nat×AV))(ρ:Env)(y:Nat)(a:AV),(ps.map (·.1)).Nodup→(y,a)∈ps→az (ps.foldl (fun ρ p=>bO ρ p.1 p.2) ρ) y=some a
 |p::r,ρ,y,a,nd,h=>by
  rw [List.map_cons,List.nodup_cons]at nd;rw [List.foldl_cons];rcases al_mc h with e|h
  ·subst e
   rw [kT r _ _ nd.1,cO,if_pos rfl]
  ·exact rz r _ y a nd.2 h
theorem C8(ps:List (Nat×AV))(ρ:Env)(nd:(ps.map (·.1)).Nodup)(y:Nat):az (ps.foldl (fun ρ p=>bO ρ p.1 p.2) ρ) y=az (ps.reverse.foldl (fun ρ p=>bO ρ p.1 p.2) ρ) y:=by
 have VY:(ps.reverse.map (·.1)).Nodup:=by rw [List.map_reverse];exact List.pairwise_reverse.mpr (List.Pairwise.imp (fun h=>Ne.symm h) nd)
 by_cases hy:y∈ps.map (·.1)
 ·obtain⟨⟨y',a⟩,h1,h2⟩:=List.mem_map.mp hy
  simp only at h2
  subst h2;rw [rz ps ρ _ a nd h1,rz ps.reverse ρ _ a VY (List.mem_reverse.mpr h1)]
 ·rw [kT ps ρ y hy,kT ps.reverse ρ y (by rw [List.map_reverse,List.mem_reverse];exact hy)]
theorem xw{α β:Type}:∀(a:List α)(b:List β),a.length=b.length→a.reverse.zip b.reverse=(a.zip b).reverse
 |[],b,_=>by simp
 |x::a,[],h=>by simp at h
 |x::a,y::b,h=>by
  have h':a.length=b.length:=by simpa using h
  rw [List.reverse_cons,List.reverse_cons,List.zip_cons_cons,List.reverse_cons,←xw a b h',List.zip_append (by simp[h'])]
  rfl
theorem pI(h:bP ex)(t:Option Expr)(n:Nat)(env:PySem.Env):swapsWith ex t n env=pure false:=by
 cases ex<;>first|rfl|exact Bool.noConfusion (show true=false from h.1)|exact Bool.noConfusion (show true=false from h.2.1)|exact Bool.noConfusion (show true=false from h.2.2)
section
theorem B2(F:eZ C Z J M kd env ρ h):interactive env=false:=by unfold interactive;rw [F.kind];rfl
theorem KX.ev{tk:Tok}(K:KX C Z J M own kd cs env st f ρ' s' Q)(G:aJ (fun a=>Z a∨own a) J M st.heap σ' M' h'):KX C Z σ' M' own kd cs env {st with heap:=h',toks:=tk} f ρ' s' Q:=K.after (G.less fun Y q=>.inl q)
theorem MA(inj:∀x y,C.nm x=C.nm y→x=y)(H:fV C ih d){y:Nat}{a:CE}(e:(bQ P ih (.bU y a) ρ s).leaf C.ν=some (f,ρ',s')){nm:Str}(h1:nm=C.nm y)(h2:dR kd cs nm)(h3:aU C kd a ex)(h4:bP ex)
  (F:cW C Z J M own kd cs env ρ st.heap)(S:aq C J M s st.heap)(R:bz A d)(z:bZ C Z J st.heap)(K:KX C Z J M own kd cs env st f ρ' s' Q):ab (Md C) A (exec (.Assign [.Name nm p] ex pos) env) Q E st:=by
 subst h1;refine aH.cz e fun av ag e1 e=>?_
 injection e with e;injection e with e fJ;subst e;injection fJ with fJ mX;subst fJ mX;refine gH (H a ρ s av _ e1 kd _ h3 _ J M env A st F.f S R (F.z z) _ _ fun aA aN h₁ aS rv aF aD bV=>?_) (pI h4 _ _ _)
 refine fZ (st:={st with heap:=h₁,toks:=aS}) inj h2 (F.grow aF) aD bV fun bl bb aZ bN eN=>?_
 exact(K.ev (tk:=aS) aF) aA aN bl bb .next aZ bN (eN _ _ (F.grow aF)) rfl
theorem oh{ts:List Expr}(h4:bP ex){sw:Option (List Str)}(hs:swappedStores [.Tuple ts k p] ex env=pure sw)(h:ab (Md C) A (eval ex env) (fun v ag=>ab (Md C) A (assignStores env v sw [assign (.Tuple ts k p) env]) Q E ag) E st):
  ab (Md C) A (exec (.Assign [.Tuple ts k p] ex pos) env) Q E st:=by
 rw [arm_exec_Assign];refine aa (au (aa ?_));show ab _ _ (swapsWith ex (some (.Tuple ts k p)) pos.line env) _ _ _;rw [pI h4];refine af ?_;simp only[Bool.false_eq_true,if_false];refine aa (aG h (fun v ag h₁=>?_) fun Y Y x=>x)
 rw [hs];exact aa (af h₁)
theorem DW(inj:∀x y,C.nm x=C.nm y→x=y)(tg:List Nat):∀{l:List AV}{vs:List Value}{ρ:Env}{st:Shared}{Q:Unit→Shared→Prop},(∀y∈tg,dR kd cs (C.nm y))→tg.length=l.length→ay C J M st.heap l vs→cW C Z J M own kd cs env ρ st.heap→aq C J M s st.heap→
  KS C Z J M own kd cs env st (fun ρ=>some ((tg.zip l).foldl (fun ρ p=>bO ρ p.1 p.2) ρ)) s Q→ab (Md C) A (assignInOrder (tg.map fun y=>bindName env (C.nm y)) vs) Q E st:=by
 induction tg with
 |nil=>
  intro l vs ρ st Q _ hl V F S K;cases l with
  |nil=>exact V.nl▸lf (assignInOrder_nil (K _ st.toks (aJ.refl _ _ _ _) S fun Y Y Y q F=>by injection q with q;subst q;exact F))
  |cons a r=>injection hl
 |cons y tg ih=>
  intro l vs ρ st Q hk hl V F S K;cases l with
  |nil=>injection hl
  |cons a l=>
   refine V.oI fun v vs V r=>assignInOrder_cons (fW (fZ inj (hk y al_self) F S V fun h' tk G S' F'=>?_))
   exact ih (st:={st with heap:=h',toks:=tk}) (fun y m=>hk y (al_con _ m)) (Nat.succ.inj hl) (r.grow G) (F' _ _ F) S' fun pZ HQ G' uJ Qc=>K pZ HQ (G.trans G') uJ fun Z₀ gI bT q w3=>Qc Z₀ _ _ q (F' Z₀ gI w3)
theorem vg(h:pq C kd cs tg xs):∀y∈tg,dR kd cs (C.nm y):=by
 exact h.ind (fun Y m=>nomatch m) fun Y Y Y Y Y h1 h2 h3 ih y m=>(al_mc m).elim (fun q=>by rw [q,←h1];exact h2) (ih y)
theorem Jp(inj:∀x y,C.nm x=C.nm y→x=y)(H:fV C ih d){a:CE}(e:(bQ P ih (.cD tg a) ρ s).leaf C.ν=some (f,ρ',s')){ts:List Expr}(h1:pq C kd cs tg ts)(h2:aU C kd a ex)(h3:bP ex)(h4:yz C kd tg [.Tuple ts k p] ex)
  (F:cW C Z J M own kd cs env ρ st.heap)(S:aq C J M s st.heap)(R:bz A d)(z:bZ C Z J st.heap)(K:KX C Z J M own kd cs env st f ρ' s' Q):ab (Md C) A (exec (.Assign [.Tuple ts k p] ex pos) env) Q E st:=by
 refine aH.cz e fun av ag e1 e=>?_
 obtain⟨l,rfl,e⟩:=ip e
 obtain⟨hl,e⟩:=cC e
 injection e with e;injection e with e fJ;subst e;injection fJ with fJ mX;subst fJ mX;rcases h4 env F.f.kinds F.f.kind with hs|⟨hs,nd⟩
 ·refine oh h3 hs (H a ρ s _ _ e1 kd _ h2 _ J M env A st F.f S R (F.z z) _ _ fun aA aN h₁ aS rv aF aD bV=>?_)
  unfold assignStores;have cH:=F.grow aF
  refine aa (qO (st:={st with heap:=h₁,toks:=aS}) inj (.many h1) R.1 (ρ':=(tg.zip l).foldl (fun ρ p=>bO ρ p.1 p.2) ρ) (k8 hl) bV cH aD fun bl bb aZ bN eN=>af ?_)
  exact(K.ev (tk:=aS) aF) aA aN bl bb .next aZ bN (eN _ _ _ (k8 hl) cH) rfl
 ·refine oh h3 hs (H a ρ s _ _ e1 kd _ h2 _ J M env A st F.f S R (F.z z) _ _ fun aA aN h₁ aS rv aF aD bV=>?_)
  unfold assignStores;have cH:=F.grow aF
  refine bV.kD fun t vs n ht et Vt=>?_
  have hlen:=Vt.length
  have hl:=o7 hl
  have CW:(tg.map C.nm).length=vs.toArray.size:=by rw [List.length_map,List.size_toArray,hl,hlen]
  refine aa (cX (aa ?_))
  rw [CW];refine lf<|unpackItems_tuple (s:={st with heap:=h₁,toks:=aS}) R.1 ⟨_,et,rfl,n,rfl⟩ fun bl he=>?_
  have hk:∀b o,h₁.get? b=some o→bl.get? b=some o:=fun b o e=>he b o (Nat.ne_of_lt (Heap.lt_size e)) e
  have aZ:=aJ.heap Z aA aN hk
  have eN:=cH.grow (aJ.heap _ aA aN hk)
  rw [List.toList_toArray,←List.map_reverse,List.map_map];refine aa (DW (st:={st with heap:=bl,toks:=aS}) inj tg.reverse (l:=l.reverse) (fun y m=>vg h1 y (List.mem_reverse.mp m)) (by rw [List.length_reverse,List.length_reverse,hl]) (Vt.grow aZ).reverse eN (aD.heap hk) fun dD gX c0 fk iR=>af ?_)
  have my:=iR _ _ _ rfl eN
  refine(K.ev (tk:=aS) aF) aA aN dD gX .next (aZ.trans c0) fk (my.sub fun y w q=>?_) rfl
  have hz:tg.reverse.zip l.reverse=(tg.zip l).reverse:=xw tg l hl
  rw [hz,←C8 (tg.zip l) ρ (by rw [List.map_fst_zip (Nat.le_of_eq hl)];exact nd)]
  exact q
end
def lr(C:Cx):Prop:=∀(A:Around)(st:Shared)(E:Value→Shared→Prop)(a sl:Addr)(b x:Array UInt8)(t:Tok)(vl vu:Value)(lo hi:Option Int)(Q:Unit→Shared→Prop),A.handled=none→A.units+20<cLine→st.heap.get? a=some (cR b)→st.heap.IsSliceOf sl vl vu .none→IsPart vl lo→IsPart vu hi→b.size≤100000→
 lo.elim 0 (clipAt b.size)≤hi.elim b.size (clipAt b.size)→x.size=hi.elim b.size (clipAt b.size) - lo.elim 0 (clipAt b.size)→
 (∀h' tk,(∀c o,c≠a→st.heap.get? c=some o→h'.get? c=some o)→h'.get? a=some (cR (b.extract 0 (lo.elim 0 (clipAt b.size))++x++b.extract (hi.elim b.size (clipAt b.size)) b.size))→Q () {st with heap:=h',toks:=tk})→ab (Md C) A (setItem (.ref a) (.ref sl) (.bytes x t)) Q E st
section
theorem E4{l:Addr}{items:Array Value}{k:Int}{t:Tok}{v:Value}{Q:Unit→Shared→Prop}(ho:st.heap.get? l=some ({cls:=.type "list",data:=.seq items n}:Obj))(h0:k<0)(h1: -(items.size:Int)≤k)(hfit: -(2^63)≤k)
  (hQ:Q () {st with heap:=st.heap.update l (Obj.mapSeq (·.setIfInBounds (k+items.size).toNat v))}):ab (Md C) A (setItem (.ref l) (.int k t) v) Q E st:=by
 have hl:st.heap.IsList l items:=PySem.IsL.isList (n:=n) ho
 unfold setItem
 try with_reducible refine aj ?_
 first|refine aa (af ?_)|skip
 refine aa (lf<|wpAny_sequenceKey hl.typeIs (by decide) ?_)
 refine aa (bq (name:=Str.ofString "__setitem__") hl.typeIs slot_list_setitem
  (bW slot_list_setitem hl.typeIs entry_list_setitem ?_ (args_list_setitem _ _ _)))
 show ab _ _ (Builtin.List.listSubscript? (.int k t)>>=_) _ _ st;refine aa (lf<|wpAny_listSubscript_int (fitsIndex_neg h0 hfit) ?_);clear hfit;have hidx:=PySem.seqIndex_neg h0 h1
 have hj:(k+items.size).toNat<items.size:=by lia
 obtain⟨j,rfl⟩:∃j:Nat,k=Int.negSucc j:=by
  cases k with
  |ofNat n=>exact absurd h0 (Int.not_lt.mpr (Int.natCast_nonneg n))
  |negSucc n=>exact⟨n,rfl⟩
 have RU:=Array.getElem?_eq_getElem hj
 show ab _ _ ((Builtin.List.listItems (.ref l)>>=fun xs=>pure ((seqIndex? (Int.negSucc j) xs.size).bind fun i=>xs[i]?.map (i,·)))>>=_) _ _ st
 refine aa (aa ?_)
 show ab _ _ (seqItems? (.ref l)>>=_) _ _ st;refine aa (lf<|wpAny_seqItems ho rfl (af (af ?_)));rw [hidx];simp only[Option.bind_some,RU,Option.map_some];show ab _ _ (setSeqItemAt l _ v>>=_) _ _ st;refine aa (lf<|wpAny_setSeqItemAt ho rfl ?_)
 first
  |exact aa (af (af ⟨.none,rfl,af hQ⟩))
  |exact af ⟨.none,rfl,af hQ⟩
theorem ay.set{a:AV}(V:ao C J M h a rv){vs:List Value}(k:Nat)(W:ay C J M h l vs):ay C J M h (setAt l k a) (vs.set k rv):=
 W.ind (P:=fun l vs=>∀k,ay C J M h (setAt l k a) (vs.set k rv)) (fun Y=>.nil) (fun Y Y Y Y W r ih k=>Nat.casesOn k (.cons V r) fun k=>.cons W (ih k)) k
theorem BD(R3:P.nf=C.nf){i:Nat}{j:IE}{jj:Int}{aK:AS}{a rj:Value}{Q:Unit→Shared→Prop}(S:aq C J M s st.heap)(z:bZ C Z J st.heap)(hnf:Nat.ble P.nf i=true)(el:s.get i=some (.list l))(hl:l.length≤100000)(ec:(oA 40 j s).leaf C.ν=some (jj,aK))(hk:index l.length jj=some k)
  (Va:ao C J M st.heap (.ref i) a)(Vj:ao C J M st.heap (.int j) rj)(V:ao C J M st.heap v rv)(K:∀h',aJ Z J M st.heap J M h'→aq C J M (aK.upd i (.list (setAt l k v))) h'→Q () {st with heap:=h'}):ab (Md C) A (setItem a rj rv) Q E st:=by
 refine Va.listE S el fun y vs n hy ey Vs=>?_
 refine Vj.ed fun t=>?_
 refine dz (eR 40 S.rg ec:) fun c1 c2 c3=>?_
 obtain⟨d1,d2,d3,d4,d5,d6⟩:=tP hk
 rw [←c1]at d1 d2 d3 d5 d6;have hlen:=Vs.length
 have hnf:C.nf≤i:=by rw [←R3];exact al_ble hnf
 have bN:=S.lD c2 c3
 have Pa:aK.hp.get i=some (.list l):=by
  rw [c2.1];exact el
 have fin:∀(kk:Nat),kk=k→Q () {st with heap:=st.heap.update y (Obj.mapSeq (·.setIfInBounds kk rv))}:=by
  intro kk q;subst q;have U:=bN.update (Z:=Z) (f:=Obj.mapSeq (·.setIfInBounds kk rv)) (o:=.list (setAt l kk v)) hy hnf z Pa ey rfl fun G hg=>by
   refine dm (fj (·.setIfInBounds kk rv) vs (vs.set kk rv) n (by apply Array.toList_inj.mp;simp):) fun n' q=>?_
   exact .list _ _ _ n' (hg.trans (congrArg some q)) ((ay.set V kk Vs).grow G)
  exact K _ U.2 U.1
 by_cases h0:0≤j.eval C.ν
 ·exact lf<|ki_setAt (items:=vs.toArray) ey h0 (by lia) (by rw [List.size_toArray];lia) (fin _ (d5 h0))
 ·have Un:j.eval C.ν<0:=by lia
  refine E4 (items:=vs.toArray) ey Un (by rw [List.size_toArray];lia) (by lia) (fin _ ?_)
  rw [List.size_toArray,←hlen];exact d6 Un
end
section
theorem EI{b x:List UInt8}{lo hi:Nat}(h:lo≤hi):b.toArray.extract 0 lo++x.toArray++b.toArray.extract hi b.toArray.size=(b.take lo++x++b.drop hi).toArray:=by
 apply Array.toList_inj.mp
 simp
 exact List.take_of_length_le (by simp)
theorem aq.turned(S:aq C J M s h){i:Nat}{o o':AO}(hi:J[i]?=some a)(hn:C.nf≤i)(hz:bZ C Z J h)(he:s.hp.get i=some o')(hs:∀b x,b≠a→h.get? b=some x→h'.get? b=some x)(hu:∃x,h'.get? a=some x)
  (ho:aJ Z J M h J M h'→cF C J M h' o a):aq C J M (s.upd i o) h'∧aJ Z J M h J M h':=by
 have hm:=S.je i a hi hn
 have nz:¬Z a:=fun q=>(hz a q).2.1 (al_mem hi)
 have hv:∀b o,h.get? b=some o→∃o',h'.get? b=some o':=fun b o e=>by
  by_cases hb:b=a
  ·subst hb;exact hu
  ·exact⟨o,hs b o hb e⟩
 have G:aJ Z J M h J M h':=⟨⟨[],by simp,fun Y m=>nomatch m⟩,⟨hv,fun b o hb e=>hs b o (fun q=>hb (by rw [q];exact⟨hm,nz⟩)) e⟩,fun Y x=>x,fun Y x=>.inl x⟩
 have hl:=S.low i o' he
 have hr:s.n<2^40 - 1:=Nat.lt_of_le_of_lt S.lim (by decide)
 refine⟨⟨S.len,S.lim,⟨S.gC.1,fun j hj=>(AS.br s.hp 40 i j o (by lia)).trans (S.gC.2 j hj)⟩,S.nodup,?_,?_,S.je,S.ye,fun b m=>let⟨o,e⟩:=S.there b m;hv b o e,fun b m=>let⟨o,e⟩:=S.mlt b m;hv b o e,?_,?_,S.rg⟩,G⟩
 ·intro j te e
  by_cases hj:i=j
  ·subst hj;exact hl
  ·have e':(aE.put 40 s.hp i o).get j=some te:=e
   rw [AS.br _ _ _ _ _ hj]at e';exact S.low j te e'
 ·intro j te b e q
  by_cases hj:i=j
  ·subst hj
   have e':(aE.put 40 s.hp i o).get i=some te:=e
   rw [AS.b8 _ _ _ _ (Nat.lt_trans hl hr)]at e';injection e' with e';subst e';rw [hi]at q;injection q with q;subst q;exact ho G
  ·have e':(aE.put 40 s.hp i o).get j=some te:=e
   rw [AS.br _ _ _ _ _ hj]at e';have hb:b≠a:=fun z=>hj (S.inj hi (z▸q))
   exact(S.obj j te b e' q).grow G fun y hy=>hs b y hb hy
 ·intro b te e
  refine aw (S.base b te e:) fun n y=>?_
  exact⟨n,hs b _ (fun z=>n (z▸hm)) y⟩
 ·intro p hp
  obtain⟨⟨ps,a1,a2,a3,a4⟩,a5⟩:=S.tab p hp
  refine⟨⟨ps,a1,hs _ _ (fun z=>a5 (by rw [z];exact al_mem hi)) a2,a3,fun pos cv e=>?_⟩,a5⟩
  refine uT (a4 pos cv e:) fun c oc vs t e1 e2 e3 e4=>?_
  exact⟨c,oc,vs,t,e1,e2,hs _ _ (fun z=>e2 (by rw [z];exact hm)) e3,e4⟩
theorem wO{ν:Nat→Int}{l x:List IE}{lo hi:Nat}(h:lo≤hi):(aQ ν l).extract 0 lo++aQ ν x++(aQ ν l).extract hi l.length=aQ ν (l.take lo++x++l.drop hi):=by
 have:=EI (b:=l.map (cj ν)) (x:=x.map (cj ν)) h
 rw [List.size_toArray,List.length_map]at this;unfold aQ;rw [this,List.map_append,List.map_append,List.map_take,List.map_drop]
def L2(C:Cx)(Z:Addr→Prop)(J:List Addr)(M:Addr→Prop)(A:Around)(st:Shared)(f:Fl)(ρ ρ':Env)(s':AS)(t:Sem Unit):Prop:=f=.nx∧ρ'=ρ∧∀(Q:Unit→Shared→Prop)(E:Value→Shared→Prop),
 (∀σ' M' h' tk,aJ Z J M st.heap σ' M' h'→aq C σ' M' s' h'→Q () {st with heap:=h',toks:=tk})→ab (Md C) A t Q E st
section
variable{rw rj:Value}
theorem xu(W:Wd C P){j:AV}(S:aq C J M s st.heap)(z:bZ C Z J st.heap)(e:(JV P w j v ρ s).leaf C.ν=some (f,ρ',s'))(V:ao C J M st.heap w rw)(J1:ao C J M st.heap j rj)(X:ao C J M st.heap v rv):L2 C Z J M A st f ρ ρ' s' (setItem rw rj rv):=by
 obtain⟨i,rfl,e⟩:=nB e
 obtain⟨y,rfl,e⟩:=aV e
 refine aC (cJ e:) fun l el e=>?_
 refine aw (cC e:) fun hnf e=>?_
 refine aw (bu e:) fun hl e=>?_
 refine aH.cz e fun jj ag e1 e=>?_
 refine aC (aI e:) fun k hk e=>?_
 injection e with e;injection e with e fJ;subst e;injection fJ with fJ mX;subst fJ mX;exact⟨rfl,rfl,fun Q E K=>BD W.nf S z hnf el hl e1 hk V J1 X fun h' G S'=>K _ _ _ st.toks G S'⟩
theorem E7(W:Wd C P)(hn:n∈C.attrs)(S:aq C J M s st.heap)(z:bZ C Z J st.heap)(e:(M0 P w n v ρ s).leaf C.ν=some (f,ρ',s'))(V:ao C J M st.heap w rw)(X:ao C J M st.heap v rv):L2 C Z J M A st f ρ ρ' s' (setAttr rw (C.nm n) rv):=by
 refine aC (aI e:) fun q hi e=>?_
 refine aC (aI e:) fun p hc e=>?_
 refine aw (tj e:) fun hm e=>?_
 refine aw (cC e:) fun hb e=>?_
 injection e with e;injection e with e fJ;subst e;injection fJ with fJ mX;subst fJ mX;exact⟨rfl,rfl,fun Q E K=>BE W S z V X hi hc hn hm (by rw [←W.nf];exact al_ble (ae hb).1) (al_ble (ae hb).2) K⟩
theorem rI{ν:Nat→Int}{l x:List IE}(B:bk ν l)(X:bk ν x)(m n:Nat):bk ν (l.take m++x++l.drop n):=fun y hy=>
 (List.mem_append.mp hy).elim (fun hy=>(List.mem_append.mp hy).elim (fun hy=>B y (List.mem_of_mem_take hy)) (X y)) fun hy=>B y (List.mem_of_mem_drop hy)
theorem E6(HS:lr C)(hA:A.handled=none)(hu:A.units+20<cLine){i:Nat}{l xb:List IE}{ra rb:Value}{sl:Addr}{li hi:Int}{ag:AS}{Q:Unit→Shared→Prop}(hS:st.heap.IsSliceOf sl ra rb .none)(S:aq C J M s st.heap)(z:bZ C Z J st.heap)(el:s.get i=some (.cb l))(hnf:C.nf≤i)(hl:l.length≤100000)(p1:IsPart ra (some li))(p2:IsPart rb (some hi))(h1:clipAt l.length li≤clipAt l.length hi)(h2:xb.length=clipAt l.length hi - clipAt l.length li)(hs:SameBut s ag)(R:bX C.ν ag.rg)
  (V:ao C J M st.heap (.ref i) rw)(X:ao C J M st.heap (.bytes xb) rv)(K:∀σ' M' h' tk,aJ Z J M st.heap σ' M' h'→aq C σ' M' (ag.upd i (.cb (l.take (clipAt l.length li)++xb++l.drop (clipAt l.length hi)))) h'→Q () {st with heap:=h',toks:=tk}):ab (Md C) A (setItem rw (.ref sl) rv) Q E st:=
 X.dY fun hb t=>aC V.inv fun ad q hq=>q▸aw (S.obj _ _ ad el hq).jt fun ea B=>by
  have sz:=cw C.ν l
  refine HS A st E ad sl (aQ C.ν l) (aQ C.ν xb) t ra rb (some li) (some hi) _ hA hu ea hS p1 p2 (sz▸hl) (by rw [sz];exact h1) (by rw [sz,cw];exact h2) fun vQ pH Oo tR=>?_
  rw [sz]at tR;have tR:=tR.trans (congrArg (fun b=>some (cR b)) (wO h1))
  exact aw ((S.lD hs R).turned (Z:=Z) hq hnf z ((congrArg (fun t:aE AO=>t.get i) hs.1).trans el) Oo ⟨_,tR⟩ fun Y=>.cb _ _ tR (rI B hb _ _)) fun S' G=>K _ _ _ pH G S'
theorem E5(HS:lr C)(W:Wd C P)(hA:A.handled=none)(hu:A.units+20<cLine){a b:AV}{ra rb:Value}{sl:Addr}(hS:st.heap.IsSliceOf sl ra rb .none)(S:aq C J M s st.heap)(z:bZ C Z J st.heap)(e:(MZ P w a b v ρ s).leaf C.ν=some (f,ρ',s'))(V:ao C J M st.heap w rw)(La:ao C J M st.heap a ra)(Lb:ao C J M st.heap b rb)(X:ao C J M st.heap v rv):
  L2 C Z J M A st f ρ ρ' s' (setItem rw (.ref sl) rv):=by
 obtain⟨i,rfl,e⟩:=nB e
 obtain⟨xb,rfl,e⟩:=lE e
 refine aC (aI e) fun l q e=>aw (cC e) fun hnf e=>aw (bu e) fun hl e=>aH.cz e fun a0 m8 e5 e=>aH.cz e fun b0 JJ e6 e=>Ay (kg S.rg e5 La) fun li p1 ea c2 c3=>Ay (kg c3 e6 Lb) fun hi p2 eb d2 d3=>?_
 rw [ea,eb]at e;refine aw (cC e) fun hab e=>?_
 injection e with e;injection e with e fJ;subst e;injection fJ with fJ mX;subst fJ mX;exact⟨rfl,rfl,fun Q E K=>E6 HS hA hu hS S z (qt q) (W.nf▸al_ble hnf) hl p1 p2 (al_ble (ae hab).1) (o7 (ae hab).2) (c2.trans d2) d3 V X K⟩
end
theorem Jr(W:Wd C P)(H:fV C ih d){o i a:CE}(e:(bQ P ih (.jM o i a) ρ s).leaf C.ν=some (f,ρ',s')){xo:Expr}(h1:aU C kd o xo)(h2:aU C kd i xi)(h3:aU C kd a ex)(h4:bP ex)
  (F:cW C Z J M own kd cs env ρ st.heap)(S:aq C J M s st.heap)(R:bz A d)(z:bZ C Z J st.heap)(K:KX C Z J M own kd cs env st f ρ' s' Q):ab (Md C) A (exec (.Assign [.Subscript xo xi p] ex pos) env) Q E st:=by
 refine aH.cz e fun av ag e1 e=>?_
 refine aH.cz e fun ow aK e2 e=>?_
 refine aH.cz e fun jv bI e3 e=>?_
 refine eC (H a ρ s av ag e1 kd _ h3 _ J M env A st F.f S R (F.z z) _ _ fun aA aN h₁ aS rv aF aD bV=>?_) (pI h4 _ _ _)
 have cH:=F.grow aF
 have oV:=z.bF aF
 refine H o ρ ag ow aK e2 kd _ h1 _ aA aN env A {st with heap:=h₁,toks:=aS} cH.f aD R (cH.z oV) _ _ fun cg dG bl bb ro aZ bN dN=>?_
 have eN:=cH.grow aZ
 have mZ:=oV.bF aZ
 refine H i ρ aK jv bI e3 kd _ h2 _ cg dG env A {st with heap:=bl,toks:=bb} eN.f bN R (eN.z mZ) _ _ fun ky rP dD gX rj c0 fk wW=>?_
 have iR:=eN.grow c0
 obtain⟨q1,q2,hset⟩:=xu (A:=A) (st:={st with heap:=dD,toks:=gX}) W fk (iR.z (mZ.bF c0)) e (dN.grow c0) wW ((bV.grow aZ).grow c0)
 exact hset _ _ fun lW uM iy fG dO lg=>(K.ev (tk:=gX) ((aF.trans aZ).trans c0)) lW uM iy fG .next (dO.less fun Y q=>.inl q) lg (q2▸iR.grow dO) (q1▸rfl)
theorem Jt(W:Wd C P)(H:fV C ih d){o a:CE}(e:(bQ P ih (.aR o n a) ρ s).leaf C.ν=some (f,ρ',s')){xo:Expr}{nm:Str}(h0:nm=C.nm n)(hn:n∈C.attrs)(h1:aU C kd o xo)(h3:aU C kd a ex)(h4:bP ex)
  (F:cW C Z J M own kd cs env ρ st.heap)(S:aq C J M s st.heap)(R:bz A d)(z:bZ C Z J st.heap)(K:KX C Z J M own kd cs env st f ρ' s' Q):ab (Md C) A (exec (.Assign [.Attribute xo nm p] ex pos) env) Q E st:=by
 subst h0;refine aH.cz e fun av ag e1 e=>?_
 refine aH.cz e fun ow aK e2 e=>?_
 refine plainObj_wpAny_Assign_Attribute (H a ρ s av ag e1 kd _ h3 _ J M env A st F.f S R (F.z z) _ _ fun aA aN h₁ aS rv aF aD bV=>?_) (pI h4 _ _ _)
 have cH:=F.grow aF
 have oV:=z.bF aF
 refine H o ρ ag ow aK e2 kd _ h1 _ aA aN env A {st with heap:=h₁,toks:=aS} cH.f aD R (cH.z oV) _ _ fun cg dG bl bb ro aZ bN dN=>?_
 have eN:=cH.grow aZ
 obtain⟨q1,q2,hset⟩:=E7 (A:=A) (st:={st with heap:=bl,toks:=bb}) W hn bN (eN.z (oV.bF aZ)) e dN (bV.grow aZ)
 exact hset _ _ fun ky rP dD gX c0 fk=>(K.ev (tk:=bb) (aF.trans aZ)) ky rP dD gX .next (c0.less fun Y q=>.inl q) fk (q2▸eN.grow c0) (q1▸rfl)
theorem EK{u x y:AV}(V:ao C J M h (.t [x,y]) rv):∃t r1 r2,rv=.ref t∧(∃n,h.get? t=some (fw [r1,r2] n))∧ao C J M h x r1∧ao C J M h y r2:=by
 refine V.kD fun t vs n ht et Vt=>?_
 obtain⟨r1,r2,rfl,V1,V2⟩:=Vt.two
 exact⟨t,r1,r2,rfl,⟨n,et⟩,V1,V2⟩
theorem vf{xo:Expr}{nm:Str}{q r:Pos}(h6:∀es k p,ex≠.Tuple es k p):swappedStores [.Tuple [.Subscript xo xi p,.Name nm q] k r] ex env=pure none:=by
 cases ex<;>first|rfl|exact absurd rfl (h6 _ _ _)
theorem EC(inj:∀x y,C.nm x=C.nm y→x=y)(W:Wd C P)(H:fV C ih d){o i a:CE}{y:Nat}(e:(bQ P ih (.iJ o i y a) ρ s).leaf C.ν=some (f,ρ',s')){xo:Expr}{nm:Str}{q r:Pos}(h0:nm=C.nm y)(h5:dR kd cs nm)(h1:aU C kd o xo)(h2:aU C kd i xi)(h3:aU C kd a ex)(h4:bP ex)(h6:∀es k p,ex≠.Tuple es k p)
  (F:cW C Z J M own kd cs env ρ st.heap)(S:aq C J M s st.heap)(R:bz A d)(z:bZ C Z J st.heap)(K:KX C Z J M own kd cs env st f ρ' s' Q):ab (Md C) A (exec (.Assign [.Tuple [.Subscript xo xi p,.Name nm q] k r] ex pos) env) Q E st:=by
 subst h0;refine aH.cz e fun av ag e1 e=>?_
 obtain⟨l,rfl,e⟩:=ip e
 obtain⟨va,vu,rfl,e⟩:=kC e
 refine aH.cz e fun ow aK e2 e=>?_
 refine aH.cz e fun jv bI e3 e=>?_
 refine oh h4 (vf h6) (H a ρ s _ ag e1 kd _ h3 _ J M env A st F.f S R (F.z z) _ _ fun aA aN h₁ aS rv aF aD bV=>?_)
 obtain⟨t,r1,r2,rfl,⟨n,et⟩,Va,Vu⟩:=EK (u:=va) bV
 refine aa (fY (s:={st with heap:=h₁,toks:=aS}) R.1 ⟨_,et,rfl,n,rfl⟩ rfl rfl fun bl he=>?_)
 have hk:∀b o,h₁.get? b=some o→bl.get? b=some o:=fun b o e=>he b o (Nat.ne_of_lt (Heap.lt_size e)) e
 have aZ:=aJ.heap (fun a=>Z a∨own a) aA aN hk
 have eN:=(F.grow aF).grow aZ
 have mZ:=(z.bF aF).bF aZ
 refine assignInOrder_cons ?_
 show ab _ _ (assign (.Subscript xo xi p) env r1) _ _ _;rw [assign_Subscript];refine aa (aj (H o ρ ag ow aK e2 kd _ h1 _ aA aN env A {st with heap:=bl,toks:=aS} eN.f (aD.heap hk) R (eN.z mZ) _ _ fun ky rP dD gX ro c0 fk wW=>?_))
 have iR:=eN.grow c0
 have AP:=mZ.bF c0
 refine aa (aj (H i ρ aK jv bI e3 kd _ h2 _ ky rP env A {st with heap:=dD,toks:=gX} iR.f fk R (iR.z AP) _ _ fun lW uM iy fG rj dO lg Ea=>?_))
 have my:=iR.grow dO
 have G:=((aF.trans aZ).trans c0).trans dO
 have Gu:=(aZ.trans c0).trans dO
 refine aa (au (aa (aj ?_)))
 obtain⟨q1,q2,hset⟩:=xu (A:=A) (st:={st with heap:=iy,toks:=fG}) W lg (my.z (AP.bF dO)) e (wW.grow dO) Ea (Va.grow Gu)
 refine hset _ _ fun w7 Ed vQ pH lS Hi=>eU ?_
 have Ee:=my.grow lS
 refine assignInOrder_cons ?_
 show ab _ _ (assign (.Name (C.nm y) q) env r2) _ _ _;refine dg (fZ (st:={st with heap:=vQ,toks:=pH}) inj h5 Ee Hi (Vu.grow (Gu.trans lS)) fun ru kE iC uI L7=>?_)
 refine lf<|assignInOrder_nil (af ?_)
 exact(K.ev (tk:=fG) (G.trans lS)) w7 Ed ru kE .next iC uI (q2▸L7 _ _ Ee) (q1▸rfl)
theorem Jq(HS:lr C)(W:Wd C P)(H:fV C ih d){o lo hi a:CE}(e:(bQ P ih (.iP o lo hi a) ρ s).leaf C.ν=some (f,ρ',s')){xo xl xh:Expr}{q:Pos}(h1:aU C kd o xo)(h2:aU C kd lo xl)(Si:aU C kd hi xh)(h3:aU C kd a ex)(h4:bP ex)
  (F:cW C Z J M own kd cs env ρ st.heap)(S:aq C J M s st.heap)(R:bz A d)(z:bZ C Z J st.heap)(K:KX C Z J M own kd cs env st f ρ' s' Q):ab (Md C) A (exec (.Assign [.Subscript xo (.Slice (some xl) (some xh) none q) p] ex pos) env) Q E st:=by
 refine aH.cz e fun av ag e1 e=>?_
 refine aH.cz e fun ow aK e2 e=>?_
 refine aH.cz e fun la bI e3 e=>?_
 refine aH.cz e fun ha kF e4 e=>?_
 refine eC (H a ρ s av ag e1 kd _ h3 _ J M env A st F.f S R (F.z z) _ _ fun aA aN h₁ aS rv aF aD bV=>?_) (pI h4 _ _ _)
 have cH:=F.grow aF
 have oV:=z.bF aF
 refine H o ρ ag ow aK e2 kd _ h1 _ aA aN env A {st with heap:=h₁,toks:=aS} cH.f aD R (cH.z oV) _ _ fun cg dG bl bb ro aZ bN dN=>?_
 have eN:=cH.grow aZ
 have mZ:=oV.bF aZ
 refine iX (dA (H lo ρ aK la bI e3 kd _ h2 _ cg dG env A {st with heap:=bl,toks:=bb} eN.f bN R (eN.z mZ) _ _ fun ky rP dD gX rl c0 fk wW=>?_))
 have iR:=eN.grow c0
 have AP:=mZ.bF c0
 refine dA (H hi ρ bI ha kF e4 kd _ Si _ ky rP env A {st with heap:=dD,toks:=gX} iR.f fk R (iR.z AP) _ _ fun lW uM iy fG rh dO lg Ea=>?_)
 rw [evalPart_none];refine af ?_;have GP:=aJ.push (fun a=>Z a∨own a) lW uM iy (pM rl rh)
 have Ts:=c0.trans dO
 have Ee:=(iR.grow dO).grow GP
 obtain⟨q1,q2,hset⟩:=E5 (A:=A) (st:={st with heap:=iy.push (pM rl rh),toks:=fG}) HS W R.1 (by have:=R.2.2;lia) (Heap.IsSliceOf.new ..) (lg.push _) (Ee.z ((AP.bF dO).bF GP)) e ((dN.grow Ts).grow GP) ((wW.grow dO).grow GP) (Ea.grow GP) ((bV.grow (aZ.trans Ts)).grow GP)
 exact hset _ _ fun mY uL ru kE iC uI=>(K.ev (tk:=fG) (((aF.trans aZ).trans Ts).trans GP)) mY uL ru kE .next (iC.less fun Y q=>.inl q) uI (q2▸Ee.grow iC) (q1▸rfl)
end
section
theorem KX.now{fl:Flow}(K:KX C Z J M own kd cs env st f ρ' s' Q)(S:aq C J M s' st.heap)(F:cW C Z J M own kd cs env ρ' st.heap)(r:uO C J M st.heap f fl)(tk:Tok):Q fl {st with toks:=tk}:=
 K J M st.heap tk fl (aJ.refl _ _ _ _) S F r
theorem QD(H:fV C ih d){a:CE}(e:(bQ P ih (.ex a) ρ s).leaf C.ν=some (f,ρ',s'))(h3:aU C kd a ex)(h4:bP ex)
  (F:cW C Z J M own kd cs env ρ st.heap)(S:aq C J M s st.heap)(R:bz A d)(z:bZ C Z J st.heap)(K:KX C Z J M own kd cs env st f ρ' s' Q):ab (Md C) A (exec (.Expr ex pos) env) Q E st:=by
 unfold bQ at e;refine aH.cz e fun av ag e1 e=>?_
 injection e with e;injection e with e fJ;subst e;injection fJ with fJ mX;subst fJ mX;refine mT (H a ρ s av _ e1 kd _ h3 _ J M env A st F.f S R (F.z z) _ _ fun aA aN h₁ aS rv aF aD bV=>?_) (B2 F.f) (pI h4 _ _ _)
 exact K aA aN h₁ aS .next (aF.less fun Y q=>.inl q) aD (F.grow aF) rfl
theorem Mx(H:fV C ih d){a:CE}(e:(bQ P ih (.ret a) ρ s).leaf C.ν=some (f,ρ',s'))(h3:aU C kd a ex)
  (F:cW C Z J M own kd cs env ρ st.heap)(S:aq C J M s st.heap)(R:bz A d)(z:bZ C Z J st.heap)(K:KX C Z J M own kd cs env st f ρ' s' Q):ab (Md C) A (exec (.Return (some ex) pos) env) Q E st:=by
 unfold bQ at e;refine aH.cz e fun av ag e1 e=>?_
 injection e with e;injection e with e fJ;subst e;injection fJ with fJ mX;subst fJ mX;refine km (H a ρ s av _ e1 kd _ h3 _ J M env A st F.f S R (F.z z) _ _ fun aA aN h₁ aS rv aF aD bV=>?_)
 exact K aA aN h₁ aS (.ret rv) (aF.less fun Y q=>.inl q) aD (F.grow aF) ⟨rv,rfl,bV⟩
theorem My(HT:uX C ih d)(HX:uW C ih d){t:CE}{a:List CS}(e:(bQ P ih (.ite t a b) ρ s).leaf C.ν=some (f,ρ',s')){zs:List Stmt}(h1:aU C kd t ex)(h2:cQ C kd cs a ys)(h3:cQ C kd cs b zs)
  (F:cW C Z J M own kd cs env ρ st.heap)(S:aq C J M s st.heap)(R:bz A d)(z:bZ C Z J st.heap)(K:KX C Z J M own kd cs env st f ρ' s' Q):ab (Md C) A (exec (.If ex ys zs pos) env) Q E st:=by
 unfold bQ at e;refine aH.cz e fun r ag e1 e=>?_
 refine AE (HT t ρ s r ag e1 kd _ h1 _ J M env A st F.f S R (F.z z) _ _ fun aA aN h₁ aS aF aD=>?_)
 cases r with
 |true=>exact HX a ρ ag f ρ' s' e kd cs ys h2 Z aA aN own env A {st with heap:=h₁,toks:=aS} (F.grow aF) aD R (z.bF aF) Q E (K.ev aF)
 |false=>exact HX b ρ ag f ρ' s' e kd cs zs h3 Z aA aN own env A {st with heap:=h₁,toks:=aS} (F.grow aF) aD R (z.bF aF) Q E (K.ev aF)
theorem Mw(HX:uW C ih d){a:List CS}(e:(bQ P ih (.try a) ρ s).leaf C.ν=some (f,ρ',s')){hd:ExceptHandler}{hs:List ExceptHandler}(h2:cQ C kd cs a ys)
  (F:cW C Z J M own kd cs env ρ st.heap)(S:aq C J M s st.heap)(R:bz A d)(z:bZ C Z J st.heap)(K:KX C Z J M own kd cs env st f ρ' s' Q):ab (Md C) A (exec (.Try ys (hd::hs) [] [] pos) env) Q E st:=by
 unfold bQ at e;refine lz (HX a ρ s f ρ' s' e kd cs ys h2 Z J M own env A st F S R z _ _ fun aA aN h₁ aS fl aF aD cH oZ=>?_)
 have q:=K aA aN h₁ aS fl aF aD cH oZ
 cases fl with
 |next=>exact lf<|wpAny_execs_nil q
 |_=>exact q
theorem cW.forget(F:cW C Z J M own kd cs env ρ h){L:Addr}(hM:M L)(h1:¬own L)(h2:∀x c,env.cells.lookup x=some c→c≠L)(hs:Heap.SameBut L h h'):cW C Z J (fun b=>M b∧b≠L) own kd cs env ρ h':=by
 have X:uR J M h J (fun b=>M b∧b≠L) h':=⟨⟨[],by simp⟩,fun b o hn e=>⟨fun q=>hn q.1,(hs.2 b fun q=>hn (q▸hM)).trans e⟩⟩
 have lo:env.locals≠L:=fun q=>h1 (q▸F.lo)
 refine⟨⟨F.f.glob,F.f.iO,F.f.kind,F.f.kinds,F.f.DK,fun x c q=>?_,(fun c q=>let⟨a1,a2,a3⟩:=F.f.code c q;⟨a1,a2,fun x a q z=>a3 x a q z.1⟩),fun x v e k=>?_⟩,fun a q=>⟨⟨(F.eE a q).1,fun z=>h1 (z▸q)⟩,(F.eE a q).2⟩,fun a q=>?_,F.lo,let⟨m,N⟩:=F.ns;⟨m,N.sameBut hs lo⟩,fun k x q=>?_,F.lc,F.ap,F.fN⟩
 ·refine dm (F.f.wK x c q:) fun o e=>?_
  exact⟨o,(hs.2 c (h2 x c q)).trans e⟩
 ·refine aC (F.f.vars x v e k:) fun rv Rr V=>?_
  refine⟨rv,?_,V.chg X⟩
  cases Rr with
  |loc m a b c d=>exact .loc m a b (c.sameBut hs lo) d
  |cell c o a b e f g=>exact .cell c o a b (e.imp id fun n q=>n q.1) ((hs.2 c (h2 _ c b)).trans f) g
 ·obtain⟨⟨o,e⟩,b,c⟩:=F.gh a q
  exact⟨⟨o,(hs.2 a fun z=>h1 (z▸q)).trans e⟩,b,c⟩
 ·refine jP (F.ce k x q:) fun c v q1 q2 q3=>?_
  exact⟨c,v,q1,q2.sameBut hs (h2 _ _ q1),q3⟩
set_option tactic.hygienic true in
theorem Js(HI:iB C)(inj:∀x y,C.nm x=C.nm y→x=y)(hn:n≤100000)(HB:∀m,m≤n→fV C (run P N m d) d∧uX C (run P N m d) d){y:Nat}{it:CE}
  {xe xt xi:Expr}{xs:List Expr}{sc:Scope}{nm:Str}{p pos lpos:Pos}
  (e:((cq P N (run P N n d) (.comp elt tg flat it ifs) ρ s).bind fun(v,s)=>.ok (Fl.nx,bO ρ y v,s)).leaf C.ν=some (f,ρ',s'))(h0:nm=C.nm y)(h5:dR kd cs nm)(hf:aU C kd (.comp elt tg flat it ifs) (.ListComp xe [⟨xt,xi,xs,0⟩] sc lpos))
  (F:cW C Z J M own kd cs env ρ st.heap)(S:aq C J M s st.heap)(R:bz A d)(z:bZ C Z J st.heap)(K:KX C Z J M own kd cs env st f ρ' s' Q):ab (Md C) A (exec (.Assign [.Name nm p] (.ListComp xe [⟨xt,xi,xs,0⟩] sc lpos) pos) env) Q E st:=by
 subst h0;refine aH.cz e fun av ag e1 e=>?_
 injection e with e;injection e with e fJ;subst e;injection fJ with fJ mX;subst fJ mX;obtain⟨b,hsw⟩:∃b,swapsWith (.ListComp xe [⟨xt,xi,xs,0⟩] sc lpos) (some (.Name (C.nm y) p)) pos.line env=pure b:=⟨_,rfl⟩
 cases b with
 |false=>
  refine gH (BG HI inj hn HB e1 (qd hf) F.f S R (F.z z) fun aA aN h₁ aS rv aF aD bV=>?_) hsw
  refine fZ (st:={st with heap:=h₁,toks:=aS}) inj h5 (F.grow aF) aD bV fun bl bb aZ bN eN=>?_
  exact(K.ev (tk:=aS) aF) aA aN bl bb .next aZ bN (eN _ _ (F.grow aF)) rfl
 |true=>
  rw [exec_Assign_Name_used _ _ _ _ hsw];refine aa (au (aa ?_));show ab _ A (do let _←comprehension (.ListComp xe [⟨xt,xi,xs,0⟩] sc lpos) sc env _ (PySem.newList []) false (eval xi env) (some (assign (.Name (C.nm y) p) env))) _ _ st;refine aa (aG (um HI inj hn HB (use:=some (assign (.Name (C.nm y) p) env)) (Q:=fun Y s'=>Q .next s') e1 (qd hf) F.f S R (F.z z) (fun D L h' tk σ' M' G S' V hL Mk zL hns=>?_) _) (fun Y s' hq=>af (af hq)) fun Y Y e=>e)
  refine dm (hns:) fun m hns=>?_
  show ab _ A (assign (.Name (C.nm y) p) env (.ref D)) _ E _;have F':=F.grow G
  have Um:¬own L:=fun q=>let⟨⟨o,e⟩,_⟩:=F.gh L q;aM e hL
  have WI:∀x c,env.cells.lookup x=some c→c≠L:=fun x c q z=>let⟨o,e⟩:=F.f.wK x c q;aM (z▸e) hL
  refine dg (fZ (Z:=fun a=>Z a∨a=L) (st:={st with heap:=h',toks:=tk}) inj h5 (F'.xK (fun Y q=>.inl q) fun a q=>fun x=>x.elim (F'.eE a q).2 fun x=>Um (x▸q)) S' V fun bl bb aZ bN eN=>?_)
  refine ml (hns:) fun o es ep eL er=>?_
  refine⟨m,⟨o,es,ep,aZ.di (.inr rfl) eL,er⟩,fun dD hs=>?_⟩
  refine dz ((zL.bF aZ) L rfl:) fun b1 b2 b3=>?_
  obtain⟨fk,X⟩:=bN.forget Mk b2 b3 hs
  have iQ:=(G.less (Z':=Z) fun Y q=>.inl q).trans (aZ.less fun Y q=>.inl q)
  exact K σ' _ dD bb .next (iQ.forget hL (fun b m=>S.mlt b m) hs) fk ((eN _ _ F').forget Mk Um WI hs) rfl
end
section
theorem NC{ν:Nat→Int}{a:Fl}{b:Env}{c:AS}(e:(aH.ok (a,b,c)).leaf ν=some (f,ρ',s')):a=f∧b=ρ'∧c=s':=by
 injection e with e;injection e with e fJ;subst e;injection fJ with fJ mX;subst fJ mX;exact⟨rfl,rfl,rfl⟩
theorem y5{c:CS}(e:(BA P ih [c] ρ s).leaf C.ν=some (f,ρ',s')):(bQ P ih c ρ s).leaf C.ν=some (f,ρ',s'):=by
 refine aH.UD e fun g bT ag e1 e=>?_
 refine e1.trans ?_
 cases g<;>exact e
theorem qR{m:Nat}{c:CS}(e:((run P N m d).xs [c] ρ s).leaf C.ν=some (f,ρ',s')):∃m',m=m'+1∧(bQ P (run P N m' d) c ρ s).leaf C.ν=some (f,ρ',s'):=by
 cases m with
 |zero=>injection e
 |succ m=>exact⟨m,rfl,y5 e⟩
inductive PX(C:Cx)(P:Pg)(N:oO)(d n:Nat)(t:CE)(b:List CS)(f:Fl)(ρ':Env)(s':AS)(Z:Addr→Prop)(J:List Addr)(M own:Addr→Prop)(kd:Kd)(cs:Bool)(env:PySem.Env)(st:Shared)(m:Nat):Shared→Prop
 |mk (h' tk σ' M' bT ag):(bQ P (run P N m d) (.while t b) bT ag).leaf C.ν=some (f,ρ',s')→aJ Z J M st.heap σ' M' h'→aq C σ' M' ag h'→cW C Z σ' M' own kd cs env bT h'→bZ C Z σ' h'→m≤n→PX C P N d n t b f ρ' s' Z J M own kd cs env st m {st with heap:=h',toks:=tk}
inductive Qa(C:Cx)(P:Pg)(N:oO)(d n:Nat)(tg:List Nat)(flat:Bool)(kind:Nat)(src:AV)(b:List CS)(T:Addr→Prop)(St:List Addr→(Addr→Prop)→Nat→Heap→Prop)(f:Fl)(ρ':Env)(s':AS)(Z:Addr→Prop)(J:List Addr)(M own:Addr→Prop)(kd:Kd)(cs:Bool)(env:PySem.Env)(st:Shared)(m:Nat):Shared→Prop
 |mk (h' tk σ' M' bT ag k):(bQ P (run P N m d) (.gQ tg flat kind src k b) bT ag).leaf C.ν=some (f,ρ',s')→aJ Z J M st.heap σ' M' h'→(∀a,T a→M' a)→aq C σ' M' ag h'→cW C Z σ' M' own kd cs env bT h'→St σ' M' k h'→bZ C T σ' h'→bZ C Z σ' h'→m≤n→Qa C P N d n tg flat kind src b T St f ρ' s' Z J M own kd cs env st m {st with heap:=h',toks:=tk}
theorem EB(HB:∀m,m≤n→uX C (run P N m d) d∧uW C (run P N m d) d){t:CE}(e:(bQ P (run P N n d) (.while t b) ρ s).leaf C.ν=some (f,ρ',s'))(h1:aU C kd t ex)(h2:cQ C kd cs b ys)
  (F:cW C Z J M own kd cs env ρ st.heap)(S:aq C J M s st.heap)(R:bz A d)(z:bZ C Z J st.heap)(K:KX C Z J M own kd cs env st f ρ' s' Q):ab (Md C) A (exec (.While ex ys [] pos) env) Q E st:=by
 refine rZ (kq (PX C P N d n t b f ρ' s' Z J M own kd cs env st) ?_ n
  (.mk st.heap st.toks J M ρ s e (aJ.refl _ _ _ _) S F z (Nat.le_refl _)))
 refine fun m nk H=>H.rec fun h' tk σ' M' bT ag e G S' F' z' hm=>?_
 refine d9 (Pt e) fun r aK e1 e=>?_
 refine(HB m hm).1 t bT ag r aK e1 kd _ h1 _ σ' M' env A {st with heap:=h',toks:=tk} F'.f S' R (F'.z z') _ _ fun cg dG bl bb aZ bN=>?_
 have eN:=F'.grow aZ
 have mZ:=z'.bF aZ
 have iQ:=G.trans (aZ.less fun Y q=>.inl q)
 cases r with
 |false=>
  refine dz (NC e) fun q1 q2 q3=>?_
  rw [if_neg Bool.false_ne_true];exact lf<|wpAny_execs_nil (K cg dG bl bb .next iQ (q3▸bN) (q2▸eN) (q1▸rfl))
 |true=>
  rw [if_pos rfl];refine ml (DZ e) fun OE Ht bI e3 e=>?_
  refine(HB m hm).2 b bT aK OE Ht bI e3 kd cs ys h2 Z cg dG own env A {st with heap:=bl,toks:=bb} eN bN R mZ _ _ fun lW uM iy fG fl dO lg my Ng=>?_
  cases OE with
  |rt w=>
   refine dz (NC e) fun q1 q2 q3=>?_
   refine aC (Ng:) fun rv q V=>?_
   subst q;exact K lW uM iy fG _ (iQ.trans dO) (q3▸lg) (q2▸my) (q1▸⟨rv,rfl,V⟩)
  |nx=>
   cases (Ng:fl=.next)
   refine aC (qR e) fun m' KU e'=>?_
   exact⟨m',KU▸Nat.lt_succ_self _,(.mk iy fG lW uM Ht bI e' (iQ.trans dO) lg my (mZ.bF dO) (by subst KU;lia))⟩
theorem cW.N5(F:cW C Z' J M own kd cs env ρ h)(hz:∀a,Z' a→Z a∨T a)(We:∀a,Z a→Z' a)(hc:∀x c,env.cells.lookup x=some c→¬T c):cW C Z J M own kd cs env ρ h:=by
 refine⟨⟨F.f.glob,F.f.iO,F.f.kind,F.f.kinds,F.f.DK,F.f.wK,F.f.code,fun x v e k=>?_⟩,fun a q=>⟨(F.eE a q).1,fun x=>(F.eE a q).2 (We a x)⟩,F.gh,F.lo,F.ns,F.ce,F.lc,F.ap,F.fN⟩
 obtain⟨rv,Rr,V⟩:=F.f.vars x v e k
 refine⟨rv,?_,V⟩
 cases Rr with
 |loc m a b c d=>exact .loc m a (.inr F.lo) c d
 |cell c o a b e f g=>exact .cell c o a b (e.imp (fun q=>q.elim (fun q=>.inl ((hz c q).resolve_right (hc _ c b))) .inr) id) f g
theorem C7(inj:∀x y,C.nm x=C.nm y→x=y)(HB:∀m,m≤n→uW C (run P N m d) d)(e:(bQ P (run P N n d) (.gQ tg flat kind src 0 b) ρ s).leaf C.ν=some (f,ρ',s'))(fT:mx C kd cs tg flat xt)(hfl:kind=0∨flat=false)(h2:cQ C kd cs b ys)
  {I:Addr}{T:Addr→Prop}{St:List Addr→(Addr→Prop)→Nat→Heap→Prop}(It:jw C kind src I T St)(F:cW C Z J M own kd cs env ρ st.heap)(S:aq C J M s st.heap)(R:bz A d)(z:bZ C Z J st.heap)(hT:∀a,T a→M a∧¬Z a∧¬own a)(Mj:∀x c,env.cells.lookup x=some c→¬T c)(zT:bZ C T J st.heap)(Ga:St J M 0 st.heap)
  {dH:List Addr}{M₀:Addr→Prop}{h₀:Heap}(iQ:aJ Z dH M₀ h₀ J M st.heap)(dT:∀a,T a→h₀.get? a=none)(kS:∀b,M₀ b→∃o,h₀.get? b=some o)
  {RR:Result→Shared→Prop}(K:KX C Z dH M₀ own kd cs env {st with heap:=h₀} f ρ' s' fun fl s'=>RR (.ok fl) s'):aY (Md C) A (.forLoop xt (.ref I) ys [] env) RR st:=by
 refine jH (Qa C P N d n tg flat kind src b T St f ρ' s' Z J M own kd cs env st) ?_ n
  (.mk st.heap st.toks J M ρ s 0 e (aJ.refl _ _ _ _) (fun a q=>(hT a q).1) S F Ga zT z (Nat.le_refl _))
 refine fun m nk H=>H.rec fun h' tk σ' M' bT ag k e G hM S' F' nk QC z' hm=>?_
 refine aH.bd e fun r er e=>?_
 refine It.next (Z:=fun a=>Z a∨own a) (st:={st with heap:=h',toks:=tk}) R.1 S' (fun a q=>⟨hM a q,fun x=>x.elim (hT a q).2.1 (hT a q).2.2,(QC a q).2⟩) nk er (fun hr bl bb jk=>?_) fun x hx bl bb rv aZ bN dN lot=>?_
 ·rw [hr]at e
  refine dz (NC e) fun q1 q2 q3=>?_
  have bN:=(S'.eY (T:=T) (fun a q=>⟨hM a q,(QC a q).2⟩) jk).1
  exact lf<|wpAny_execs_nil (K σ' _ bl bb .next ((iQ.trans G).eY dT kS jk) (q3▸bN) (q2▸F'.eY hM (fun a q=>(hT a q).2.2) Mj jk) (q1▸rfl))
 ·rw [hx]at e
  exact aC (aI e) fun Ms hb e=>by
   refine lot _ A _ _ (hfl.imp id fun q:flat=false=>ml (q▸fT:mx C kd cs tg false xt).Ck fun xs k pos e Y=>⟨xs,k,pos,e⟩) fun dD c0 fk su=>?_
   have mP:=aZ.trans c0
   have iR:=F'.grow mP
   refine qO (Z:=fun a=>Z a∨T a) (st:={st with heap:=dD,toks:=bb}) inj fT R.1 hb (dN.grow c0) (iR.xK (fun Y q=>.inl q) fun a q=>fun x=>x.elim (iR.eE a q).2 fun x=>(hT a x).2.2 q) fk fun iy fG dO lg my=>?_
   have UK:=my Z _ _ hb iR
   have P7:=my (fun a=>Z a∨T a) _ _ hb (iR.xK (fun Y q=>.inl q) fun a q=>fun x=>x.elim (iR.eE a q).2 fun x=>(hT a x).2.2 q)
   have Bw:=It.keep (fun a q=>.inr q) dO su
   have Hy:=(QC.bF mP).bF dO
   have Mu:=(z'.bF mP).bF dO
   have rR:=(G.trans (mP.less fun Y q=>.inl q)).trans (dO.less fun Y q=>.inl q)
   refine ml (DZ e) fun OD AN m8 e5 e=>?_
   refine HB m hm b Ms ag OD AN m8 e5 kd cs ys h2 (fun a=>Z a∨T a) σ' M' own env A {st with heap:=iy,toks:=fG} P7 lg R (fun a q=>q.elim (Mu a) (Hy a)) _ _ fun mY uL ru kE fl iC uI L7 Nf=>?_
   have yC:=rR.trans (iC.less fun Y q=>.inl q)
   have I7:cW C Z mY uL own kd cs env AN ru:=L7.N5 (fun Y q=>q) (fun Y q=>.inl q) Mj
   cases OD with
   |rt w=>
    refine dz (NC e) fun q1 q2 q3=>?_
    refine aC (Nf:) fun rv q V=>?_
    subst q;exact K mY uL ru kE _ (iQ.trans yC) (q3▸uI) (q2▸I7) (q1▸⟨rv,rfl,V⟩)
   |nx=>
    cases (Nf:fl=.next)
    refine aC (qR e) fun m' KU e'=>?_
    exact⟨m',KU▸Nat.lt_succ_self _,(.mk ru kE mY uL AN m8 (k+1) e' yC (fun a q=>iC.more a (hM a q)) uI I7 (It.keep (fun a q=>.inr q) iC Bw) (Hy.bF iC) (Mu.bF iC) (by subst KU;lia))⟩
end
section
theorem bB{x y:Expr}(q:x=y)(h:Nat.beq y.ctorIdx (Expr.Set [] default default).ctorIdx=false):∀xs k p,x≠.Set xs k p:=fun Y Y Y z=>Bool.noConfusion (h.symm.trans (congrArg (fun x=>Nat.beq (Expr.ctorIdx x) (Expr.Set [] default default).ctorIdx) (q.symm.trans z)))
theorem tX{e:CE}{x:Expr}(h:aU C kd e x):∀xs k p,x≠.Set xs k p:=by
 cases e with
 |n _=>exact jP (ak.Rw h) fun Y Y q Y Y=>bB q rfl
 |val _=>exact ml (ak.MK h) fun Y Y Y q Y=>bB q rfl
 |t _=>exact ml (ak.tupI h) fun Y Y Y q Y=>bB q rfl
 |list _=>exact d9 (ak.listI h) fun Y Y q Y=>bB q rfl
 |dW _ _=>exact ml (ak.Pf h) fun Y Y Y q Y=>bB q rfl
 |bin _ _ _=>exact ml (ak.binI h) fun Y Y Y q Y=>bB q rfl
 |cmp _ _ _=>exact ml (ak.Lw h) fun Y Y Y q Y=>bB q rfl
 |chain _ _ _ _ _=>exact H8 (ak.DI h) fun Y Y Y Y q Y=>bB q rfl
 |and _=>exact d9 (ak.LZ h) fun Y Y q Y=>bB q rfl
 |or _=>exact d9 (ak.Ri h) fun Y Y q Y=>bB q rfl
 |not _=>exact d9 (ak.NI h) fun Y Y q Y=>bB q rfl
 |neg _=>exact d9 (ak.NK h) fun Y Y q Y=>bB q rfl
 |ite _ _ _=>exact H8 (ak.FZ h) fun Y Y Y Y q Y=>bB q rfl
 |attr _ _=>exact ml (ak.D5 h) fun Y Y Y q Y=>bB q rfl
 |idx _ _=>exact ml (ak.Og h) fun Y Y Y q Y=>bB q rfl
 |il _ _ _=>exact Rl (ak.MY h) fun Y Y Y Y Y q Y=>bB q rfl
 |rev _=>exact Ax (ak.Nj h) fun Y Y Y Y Y h=>aC h fun Y q Y=>bB q rfl
 |call _ _=>exact ml (ak.DO h) fun Y Y Y q Y=>bB q rfl
 |bC _ _ _=>exact Rl (ak.Cf h) fun Y Y Y Y Y q Y=>bB q rfl
 |comp _ _ _ _ _=>exact Ax (ak.DE h) fun Y Y Y Y Y h=>aC h fun Y q Y=>bB q rfl
 |gy _ _ _ _ _ _ _=>exact False.elim h
 |lam _ _=>exact H8 (ak.N7 h) fun Y Y Y Y q Y=>bB q rfl
 |eM _=>exact d9 (ak.OC h) fun Y Y q Y=>bB q rfl
 |bad _=>exact ak.Ta h
theorem nZ(inj:∀x y,C.nm x=C.nm y→x=y)(HB:∀m,m≤n→uW C (run P N m d) d){t:Sem Value}(e:(bQ P (run P N n d) (.gQ tg flat kind src 0 b) ρ s).leaf C.ν=some (f,ρ',s'))(fT:mx C kd cs tg flat xt)(hfl:kind=0∨flat=false)(h2:cQ C kd cs b ys)
  (F:cW C Z J M own kd cs env ρ st.heap)(S:aq C J M s st.heap)(R:bz A d)(z:bZ C Z J st.heap)(mk:Made C kind src s J M st A t)(K:KX C Z J M own kd cs env st f ρ' s' Q):
  ab (Md C) A t (fun it ag=>(∃I,it=.ref I)∧(∀Q',Q' it ag→ab (Md C) A (pyIter it) Q' E ag)∧ab (Md C) A (runOwn (.forLoop xt it ys [] env) env) Q E ag) E st:=by
 refine mk _ _ fun I T St h₁ aS It hI oN hk Ga=>?_
 have hA:=aq.uF (Z:=Z) (h₁:=h₁) (own:=T) S hk (fun a q=>(oN a q).1) (fun a q=>(oN a q).2)
 have WK:=aq.uF (Z:=fun a=>Z a∨own a) (h₁:=h₁) (own:=T) S hk (fun a q=>(oN a q).1) (fun a q=>(oN a q).2)
 refine aw (hA:) fun aD aF=>?_
 have hst:=Ga _ (fun a q=>q.imp id fun q=>(oN a q).1) (fun a q=>.inl q) aD
 refine⟨⟨I,rfl⟩,fun Q' q=>It.self R.1 hst q,kl ?_⟩
 refine C7 inj HB (st:={st with heap:=h₁,toks:=aS}) e fT hfl h2 It (F.grow WK.2) aD R (z.bF aF) (fun a q=>⟨.inr q,fun hz=>let⟨⟨o,e⟩,_⟩:=z a hz;aM e (oN a q).1,fun hz=>let⟨⟨o,e⟩,_⟩:=F.gh a hz;aM e (oN a q).1⟩)
  (fun x c q hc=>let⟨o,e⟩:=F.f.wK x c q;aM e (oN c hc).1) (fun a q=>⟨(oN a q).2,fun m=>let⟨o,e⟩:=S.there a m;aM e (oN a q).1,fun p hp q'=>?_⟩) hst aF (fun a q=>(oN a q).1) (fun b m=>S.mlt b m) K
 obtain⟨⟨ps,a1,a2,a3,a4⟩,a5⟩:=S.tab p hp
 exact aM (q'▸a2) (oN a q).1
theorem n0{m:Nat}(e:(bQ P (run P N m d) (.gQ tg flat kind src 0 b) ρ s).leaf C.ν=some (f,ρ',s')):∃r,(iE s kind src 0).leaf C.ν=some r:=by
 unfold bQ at e;refine aH.bd e fun r er Y=>?_
 exact⟨r,er⟩
structure lh(C:Cx)(P:Pg):Prop where
 enum:∃x,C.nm x="enumerate"∧P.gl.get x=some (.bi 7)
 zip:∃x,C.nm x="zip"∧P.gl.get x=some (.bi 8)
theorem C4(W:Wd C P){x:Nat}{nm:Str}{Q:Value→Shared→Prop}(h1:C.nm x=nm)(h2:P.gl.get x=some (.bi k))(h3:kd.k nm=some .globalImplicit)(h4:(nm==("__debug__":Str))=false)(F:eZ C Z J M kd env ρ st.heap)(S:aq C J M s st.heap)(q:Q (uV k) st):ab (Md C) A (eval (.Name nm p) env) Q E st:=by
 subst h1;obtain⟨rv,V,mg,G,hm⟩:=W.glob x _ h2
 have V:=V J M st.heap S.base
 have hrv:rv=uV k:=V.inv
 subst hrv;have kp:∀b o,C.hb.get? b=some o→st.heap.get? b=some o:=fun b o e=>(S.base b o e).2
 have G':st.heap.Ns env.globals mg:=by rw [F.glob];exact G.keeps kp
 refine fc F.kind ((F.kinds _).trans h3) ?_ h4
 rcases hm with hm|⟨hm,mb,B,hb⟩
 ·exact lf<|Calls.loadGlobal_global G' hm q
 ·exact lf<|Calls.loadGlobal_builtin G' hm (by rw [F.iO];exact B.keeps kp) hb q
theorem JD{a b:CE}{vs:List AV}(e:(qj ih [a,b] ρ s).leaf C.ν=some (vs,s')):∃x y,vs=[x,y]:=
 aH.cz e fun x Y Y e=>aH.cz e fun ws Y e2 e=>aH.cz e2 fun y Y Y e2=>aH.cz e2 fun Xe Y e3 e2=>⟨x,y,by obtain⟨rfl,rfl⟩:=pi_inj e;obtain⟨rfl,rfl⟩:=pi_inj e2;obtain⟨rfl,rfl⟩:=pi_inj e3;rfl⟩
theorem zJ{it:CE}(e:(bQ P (run P N n d) (.for tg flat kind it b) ρ s).leaf C.ν=some (f,ρ',s')):∃src ag n',n=n'+1∧((run P N n d).ev it ρ s).leaf C.ν=some (src,ag)∧(bQ P (run P N n' d) (.gQ tg flat kind src 0 b) ρ ag).leaf C.ν=some (f,ρ',s'):=by
 unfold bQ at e;refine aH.cz e fun src ag e1 e=>?_
 refine aC (qR e:) fun n' h e'=>?_
 exact⟨src,ag,n',h,e1,e'⟩
theorem bz.xj(R:bz A d):A.units+20<cLine:=by have:=R.2.2;lia
def Hn(C:Cx)(A:Around)(E:Value→Shared→Prop)(Q:Flow→Shared→Prop)(xt:Expr)(ys:List Stmt)(env:PySem.Env)(rv:Value)(sy:Shared):Prop:=ab (Md C) A (pyIter rv) (fun it ag=>ab (Md C) A (runOwn (.forLoop xt it ys [] env) env) Q E ag) E sy
theorem nY(hset:∀x k p,xi≠.Set x k p)(h:ab (Md C) A (eval xi env) (Hn C A E Q xt ys env) E st):ab (Md C) A (exec (.For xt xi ys [] pos) env) Q E st:=by
 rw [arm_exec_For];refine aa (au (aa (aG h (fun rv sy h=>?_) fun Y Y q=>q)))
 rw [qc hset];exact aa (af (aa (au (aa (aj h)))))
section
variable{it:CE}
theorem zK(inj:∀x y,C.nm x=C.nm y→x=y)(HI:iB C)(HV:fV C (run P N (n+1) d) d)(HB:∀m,m≤n→uW C (run P N m d) d){ag:AS}(e1:((run P N (n+1) d).ev it ρ s).leaf C.ν=some (src,ag))(e':(bQ P (run P N n d) (.gQ tg flat 0 src 0 b) ρ ag).leaf C.ν=some (f,ρ',s'))
  (fT:mx C kd cs tg flat xt)(h1:aU C kd it xi)(h2:cQ C kd cs b ys)(F:cW C Z J M own kd cs env ρ st.heap)(S:aq C J M s st.heap)(R:bz A d)(z:bZ C Z J st.heap)(K:KX C Z J M own kd cs env st f ρ' s' Q):ab (Md C) A (eval xi env) (Hn C A E Q xt ys env) E st:=
 HV it ρ s src ag e1 kd _ h1 _ J M env A st F.f S R (F.z z) _ _ fun aA aN h₁ aS rv aF aD bV=>
  aG (nZ (st:={st with heap:=h₁,toks:=aS}) inj HB e' fT (.inl rfl) h2 (F.grow aF) aD R (z.bF aF) (HI src rv ag aA aN _ A aD bV (n0 e')) (K.ev aF)) (fun it aK hq=>hq.2.2) fun Y Y q=>q
theorem C6(inj:∀x y,C.nm x=C.nm y→x=y)(W:Wd C P)(FN:lh C P)(HE:mQ C)(HV:fV C (run P N (n+1) d) d)(HB:∀m,m≤n→uW C (run P N m d) d){ag:AS}{x0:Expr}{p0 fz:Pos}(hk:kd.k "enumerate"=some .globalImplicit)(hst:∀y p,x0≠.Starred y p)(e1:((run P N (n+1) d).ev it ρ s).leaf C.ν=some (src,ag))(e':(bQ P (run P N n d) (.gQ tg flat 1 src 0 b) ρ ag).leaf C.ν=some (f,ρ',s'))
  (fT:mx C kd cs tg flat xt)(hfl:flat=false)(h1:aU C kd it x0)(h2:cQ C kd cs b ys)(F:cW C Z J M own kd cs env ρ st.heap)(S:aq C J M s st.heap)(R:bz A d)(z:bZ C Z J st.heap)(K:KX C Z J M own kd cs env st f ρ' s' Q):ab (Md C) A (eval (.Call (.Name "enumerate" p0) [x0] [] fz) env) (Hn C A E Q xt ys env) E st:=by
 refine aC FN.enum fun gx g1 g2=>?_
 show ab (Md C) A (eval (.Name "enumerate" p0) env>>=fun f=>callWith fz f [] (backTo fz (starEach [x0] env)) []) _ E st
 refine aa (C4 W g1 g2 hk (by decide) F.f S ?_)
 have fl:cP C kd [it] [x0]:=.cons h1 hst .nil
 refine eH (gc fl fz) (dJ fl fz ?_)
 refine gV (HV it ρ s src ag e1 kd _ h1 _ J M env A st F.f S R (F.z z) _ _ fun aA aN h₁ aS rv aF aD bV=>?_) (dI hst)
 exact lf<|wpAny_items_nil ⟨fun Q' E' k=>af (k _),aG (nZ (st:={st with heap:=h₁,toks:=aS}) inj HB e' fT (.inr hfl) h2 (F.grow aF) aD R (z.bF aF) (HE src rv ag aA aN _ A R.1 R.xj aD bV (n0 e')) (K.ev aF)) (fun it aK hq=>hq.2.1 _ hq.2.2) fun Y Y q=>q⟩
theorem Gd(inj:∀x y,C.nm x=C.nm y→x=y)(W:Wd C P)(FN:lh C P)(HZ:rO C)(Tq:fV C (run P N n d) d)(HB:∀m,m≤n→uW C (run P N m d) d){ag:AS}{a0 b0:CE}{x0 y0:Expr}{p0 fz:Pos}(hk:kd.k "zip"=some .globalImplicit)(hst:∀y p,x0≠.Starred y p)(vV:∀y p,y0≠.Starred y p)(e1:((run P N (n+1) d).ev (.t [a0,b0]) ρ s).leaf C.ν=some (src,ag))(e':(bQ P (run P N n d) (.gQ tg flat 2 src 0 b) ρ ag).leaf C.ν=some (f,ρ',s'))
  (fT:mx C kd cs tg flat xt)(hfl:flat=false)(h1:aU C kd a0 x0)(OA:aU C kd b0 y0)(h2:cQ C kd cs b ys)(F:cW C Z J M own kd cs env ρ st.heap)(S:aq C J M s st.heap)(R:bz A d)(z:bZ C Z J st.heap)(K:KX C Z J M own kd cs env st f ρ' s' Q):ab (Md C) A (eval (.Call (.Name "zip" p0) [x0,y0] [] fz) env) (Hn C A E Q xt ys env) E st:=by
 refine aC FN.zip fun gx g1 g2=>?_
 show ab (Md C) A (eval (.Name "zip" p0) env>>=fun f=>callWith fz f [] (backTo fz (starEach [x0,y0] env)) []) _ E st
 refine aa (C4 W g1 g2 hk (by decide) F.f S ?_)
 have fl:cP C kd [a0,b0] [x0,y0]:=.cons h1 hst (.cons OA vV .nil)
 refine aH.cz (show(cq P N (run P N n d) (.t [a0,b0]) ρ s).leaf C.ν=some (src,ag)from e1) fun vs aK e2 e3=>aw (bu e3) fun Y e3=>?_
 cases (e3)
 refine eH (gc fl fz) (dJ fl fz (fS Tq e2 fl fz F.f S R (F.z z) fun aA aN h₁ aS rvs aF aD bV=>?_))
 obtain⟨u1,u2,rfl⟩:=JD e2
 refine jP bV.two fun r1 r2 q Va Vb=>q▸⟨fun Q' E' k=>af (k _),?_⟩
 exact aG (nZ (st:={st with heap:=h₁,toks:=aS}) inj HB e' fT (.inr hfl) h2 (F.grow aF) aD R (z.bF aF) (HZ u1 u2 r1 r2 ag aA aN _ A R.1 R.xj aD Va Vb (n0 e')) (K.ev aF)) (fun it aK hq=>hq.2.1 _ hq.2.2) fun Y Y q=>q
theorem Mz(inj:∀x y,C.nm x=C.nm y→x=y)(W:Wd C P)(FN:lh C P)(HI:iB C)(HE:mQ C)(HZ:rO C)(HV:fV C (run P N n d) d)(Tq:∀m,m≤n→fV C (run P N m d) d)(HB:∀m,m≤n→uW C (run P N m d) d)
  (e:(bQ P (run P N n d) (.for tg flat kind it b) ρ s).leaf C.ν=some (f,ρ',s'))(fT:mx C kd cs tg flat xt)(hfl:kind=0∨flat=false)(hi:Ho C kd kind it xi)(h2:cQ C kd cs b ys)(F:cW C Z J M own kd cs env ρ st.heap)(S:aq C J M s st.heap)(R:bz A d)(z:bZ C Z J st.heap)(K:KX C Z J M own kd cs env st f ρ' s' Q):
  ab (Md C) A (exec (.For xt xi ys [] pos) env) Q E st:=by
 obtain⟨src,ag,n',rfl,e1,e'⟩:=zJ e
 have Tr:∀m,m≤n'→uW C (run P N m d) d:=fun m hm=>HB m (Nat.le_succ_of_le hm)
 rcases hi with⟨rfl,h1⟩|⟨rfl,hi⟩|⟨rfl,hi⟩
 ·exact nY (tX h1) (zK inj HI HV Tr e1 e' fT h1 h2 F S R z K)
 ·exact oK hi fun x0 p fz q hk h1 hst=>q▸nY (fun Y Y Y q=>nomatch q) (C6 inj W FN HE HV Tr hk hst e1 e' fT (hfl.resolve_left (by decide)) h1 h2 F S R z K)
 ·refine H8 hi fun a0 b0 x0 y0 qe hi=>Ro hi fun p fz q hk h1 OA hst vV=>?_
  rw [q];rw [qe]at e1;exact nY (fun Y Y Y q=>nomatch q) (Gd inj W FN HZ (Tq n' (Nat.le_succ n')) Tr hk hst vV e1 e' fT (hfl.resolve_left (by decide)) h1 OA h2 F S R z K)
end
end
structure L6(C:Cx):Prop where
 mg:∃mg bm o,C.hb.Ns mainGlobals mg∧mg "__builtins__"=some (.ref bm)∧bm≠builtinsNs∧bm≠mainGlobals∧C.hb.get? bm=some o∧o.cls=.type "module"∧o.dict=some builtinsNs∧o.data=.plain
 hd:∀p∈C.tabs,CodeHd C.hb p.1 p.2
set_option tactic.hygienic true in
theorem wV{pos':Pos}{c cv:Value}(l:List Value)(h:TriplesOk l)(e:codeAmong pos' (l++[rawInt pos.line,rawInt pos.col,c])=some cv):codeAmong pos' l=some cv∨cv=c:=by
 fun_induction TriplesOk l with
 |case1=>
  simp only[List.nil_append,codeAmong,rawInt]at e
  split at e
  ·injection e with e;subst e;exact .inr rfl
  ·injection e
 |case2 a t b u x rest ih=>
  simp only[List.cons_append,codeAmong]at e⊢
  split at e
  ·rename_i hc;rw [if_pos hc];exact .inl e
  ·rename_i hc;rw [if_neg hc];exact ih h e
 |case3 l h1 h2=>exact h.elim
section
theorem Bt(S:aq C J M s h){T:Addr}(hm:M T)(CR:T∉J)(hz:¬Z T)(hk:∀b o,b≠T→h.get? b=some o→h'.get? b=some o)(hT:qA C M h' T):aq C J M s h'∧aJ Z J M h J M h':=by
 have hu:∃o,h'.get? T=some o:=let⟨ps,_,e,_⟩:=hT;⟨_,e⟩
 have hv:∀b o,h.get? b=some o→∃o',h'.get? b=some o':=fun b o e=>by
  by_cases hb:b=T
  ·subst hb;exact hu
  ·exact⟨o,hk b o hb e⟩
 have G:aJ Z J M h J M h':=⟨⟨[],by simp,fun Y m=>nomatch m⟩,⟨hv,fun b o hb e=>hk b o (fun q=>hb (by rw [q];exact⟨hm,hz⟩)) e⟩,fun Y x=>x,fun Y x=>.inl x⟩
 refine⟨⟨S.len,S.lim,S.gC,S.nodup,S.low,fun i o b e q=>?_,S.je,S.ye,fun b m=>let⟨o,e⟩:=S.there b m;hv b o e,fun b m=>let⟨o,e⟩:=S.mlt b m;hv b o e,fun b o e=>?_,fun p hp=>?_,S.rg⟩,G⟩
 ·have hb:b≠T:=fun z=>CR (z▸al_mem q)
  exact(S.obj i o b e q).grow G fun x hx=>hk b x hb hx
 ·refine aw (S.base b o e:) fun n y=>?_
  exact⟨n,hk b o (fun z=>n (z▸hm)) y⟩
 ·by_cases KQ:p.2=T
  ·exact⟨KQ▸hT,(S.tab p hp).2⟩
  ·obtain⟨⟨ps,a1,a2,a3,a4⟩,a5⟩:=S.tab p hp
   refine⟨⟨ps,a1,hk _ _ KQ a2,a3,fun pos cv e=>?_⟩,a5⟩
   refine uT (a4 pos cv e:) fun c oc vs t e1 e2 e3 e4=>?_
   exact⟨c,oc,vs,t,e1,e2,hk _ _ (fun z=>e2 (by rw [z];exact hm)) e3,e4⟩
theorem GJ{bM:List Nat}{scope:Scope}{clos:List (Str×Addr)}(c2:∀x c,clos.lookup x=some c→env.cells.lookup x=some c)(c3:∀y∈scope.names,y.2=.free→(clos.lookup y.1).isSome=true)(hfree:∀y∈scope.names,y.2=.free→kd.k y.1=some .cell∨kd.k y.1=some .free)(F:eZ C Z J M kd env ρ h)(hM:∀x a,env.cells.lookup x=some a→¬M a):
  ∀{vs:List AV},(∀x∈bM,(C.nm x,NameKind.free)∈scope.names)→wM ρ bM=some vs→∃cs rvs,du M h clos C.nm bM cs rvs∧ay C J M h vs rvs:=by
 induction bM with
 |nil=>intro vs _ e;injection e with e;subst e;exact⟨[],[],.nil,.nil⟩
 |cons y r ih=>
  intro vs hh e;refine aC (aL e) fun v h1 e=>aC (aL e) fun ws h2 e=>d9 (ih (fun x m=>hh x (al_con _ m)) h2) fun cs rvs R1 R2=>?_
  have hy:=hh y al_self
  have hk:=hfree _ hy rfl
  refine aC (F.vars y v h1 (.inr hk)) fun rv Rr V=>dm (Option.isSome_iff_exists.mp (c3 _ hy rfl)) fun c hc=>?_
  rw [←al_inj e];cases Rr with
  |loc m a b c' d=>rw [F.kinds]at a;rw [a]at hk;rcases hk with q|q<;>(injection q with q;injection q)
  |cell c' o a b e' f g=>exact⟨c::cs,rv::rvs,.cons hc (al_inj (b.symm.trans (c2 _ _ hc))▸hM _ _ b) (al_inj (b.symm.trans (c2 _ _ hc))▸f) g R1,.cons V R2⟩
theorem M7(LW:L6 C){bM:List Nat}{Q:Value→Shared→Prop}(e:(cq P N ih (.lam k bM) ρ s).leaf C.ν=some (v,s')){params:Arguments}{body:Expr}{scope:Scope}(L:PZ C kd k bM params body scope pos)(F:eZ C Z J M kd env ρ st.heap)(S:aq C J M s st.heap)(z:bZ C Z J st.heap)(K:KV C Z J M st v s' Q):
  ab (Md C) A (eval (.Lambda params body scope pos) env) Q E st:=by
  refine jP (L.at_:) fun c T h1 h2 h3=>?_
  refine dz (F.code c h1:) fun f1 f2 f3=>?_
  refine aC (aI e) fun vs jT e=>?_
  obtain⟨rfl,rfl⟩:=pi_inj e
  refine Ay (l8 (scope:=scope) (env:=env) fun y hy hfr=>F.DK y.1 (L.free y hy hfr):) fun clos c1 c2 c3 c4=>?_
  refine d9 (GJ c2 c3 L.free F f3 L.has jT:) fun cs rvs R1 R2=>?_
  have hcl:∀x c,clos.lookup x=some c→∃y∈C.bM k,x=C.nm y:=fun x c q=>by
   refine lu (c4 x (by rw [q];rfl):) fun y m q1 q2=>?_
   rw [L.jT,←q1];exact L.all y m q2
  refine VN (LW.mg:) fun mg bm ob g1 g2 g3 g4 g5 g6 g7 g8=>?_
  have kp:∀b o,C.hb.get? b=some o→st.heap.get? b=some o:=fun b o e=>(S.base b o e).2
  obtain⟨⟨ps,a1,a2,a3,a4⟩,a5⟩:=S.tab _ h2
  have hB:st.heap.BuiltinsAt mg T:=⟨bm,ob,g2,g3,g4,fun q=>(S.base bm ob g5).1 (q▸a1),kp _ _ g5,g6,g7,g8⟩
  have hC:CodeHd st.heap c T:=(LW.hd _ h2).keeps kp
  have hge:env.globals=mainGlobals:=F.glob
  have hne:mainGlobals≠T:=by
   refine ml (g1:) fun o es ep e Y=>?_
   exact fun q=>(S.base _ _ e).1 (q▸a1)
  have hz:¬Z T:=fun q=>(z T q).2.2 _ h2 rfl
  refine AG (L.dflt env) ?_
  cases hq:codeAmong pos ps.toList with
  |some cv=>
   refine lf<|kla_makeFunctionHit c1 hge (g1.keeps kp) f1 hC a2 a3 hq hB fun ctv h' tk hk hsz=>?_
   obtain⟨c',oc,ws,t,rfl,b2,b3,b4,b5⟩:=a4 pos cv hq
   have C0:h'.get? h'.objs.size=none:=Heap.ba _
   have hnew:st.heap.get? h'.objs.size=none:=by
    cases q:st.heap.get? h'.objs.size with
    |none=>rfl
    |some o=>exact(aM (hk _ _ q) C0).elim
   have kk:∀b o,st.heap.get? b=some o→(h'.push {cls:=.type "function",data:=.func (kla_fn "<lambda>" (env.qual++"<lambda>") params body scope clos ((mg "__name__").getD .none) (.ref c') ctv)}).get? b=some o:=fun b o e=>Heap.get?_push_of_some _ (hk b o e)
   have G:=aJ.heap Z J M kk
   refine K J M _ tk _ G (S.heap kk) ?_
   refine .uU k vs h'.objs.size c' _ oc _ ws t cs rvs (S.nH hnew) (Heap.get?_push_size _ rfl) rfl rfl (L.lam _ _ _ _ _) rfl b2 (kk _ _ b3) b4 ?_ ?_ (R2.grow G) hcl
   ·show ws[1]?=some (.str (env.qual++"<lambda>") t)
    rw [b5,h3,f2]
   ·rw [L.jT];exact R1.chg G.chg
  |none=>
   refine lf<|kla_makeFunction c1 hge (g1.keeps kp) f1 hC a2 a3 hq hne hB fun c' ctv h' tk hs hsz hlt hcr K3=>?_
   refine uT (hcr:) fun Xn oc ws t hcc b3 b4 b5=>?_
   injection hcc with hcc;subst hcc;have dead:∀a,st.heap.objs.size≤a→st.heap.get? a=none:=fun a ha=>by
    cases q:st.heap.get? a with
    |none=>rfl
    |some o=>exact absurd (Heap.lt_size q) (Nat.not_lt.mpr ha)
   have hk:∀b o,b≠T→st.heap.get? b=some o→h'.get? b=some o:=fun b o hb e=>hs b o hb e
   have Ul:¬M c':=fun q=>let⟨o,e⟩:=S.mlt c' q;aM e (dead c' hsz)
   have hql:env.qual++"<lambda>"=C.tD T pos:=by rw [h3,f2]
   have Sd:qA C M h' T:=by
    refine⟨ps++#[rawInt pos.line,rawInt pos.col,.ref c'],a1,K3,?_,fun pos' cv e=>?_⟩
    ·rw [Array.toList_append]
     exact TriplesOk_snoc _ _ _ _ a3
    ·rw [Array.toList_append]at e
     rcases wV _ a3 e with e|rfl
     ·refine ND (a4 pos' cv e:) fun d1 od wd td e1 e2 e3 e4 e5=>?_
      exact⟨d1,od,wd,td,e1,e2,hk _ _ (fun q=>e2 (q▸a1)) e3,e4,e5⟩
     ·exact⟨c',oc,ws,t,rfl,Ul,b3,b4,by rw [b5,hql,h3,h3]⟩
   refine aw (Bt (Z:=Z) S a1 a5 hz hk Sd:) fun aD aF=>?_
   have aZ:=aJ.push Z J M h' (kla_obj "<lambda>" (env.qual++"<lambda>") params body scope clos ((mg "__name__").getD .none) c' ctv)
   have hnew:h'.get? h'.objs.size=none:=Heap.ba _
   refine K J M _ tk _ (aF.trans aZ) (aD.push _) ?_
   refine .uU k vs h'.objs.size c' _ oc _ ws t cs rvs (aD.nH hnew) (Heap.get?_push_size _ rfl) rfl rfl (L.lam _ _ _ _ _) rfl Ul (Heap.get?_push_of_some _ b3) b4 b5 ?_ (R2.grow (aF.trans aZ)) hcl
   rw [L.jT];exact R1.chg (aF.trans aZ).chg
end
structure oH(C:Cx)(k:Nat)(ps cs:List Nat)(e:CE)(fd:FuncData)(body:Expr)(kd:Kd):Prop where
 nP:fd.body=.expr body
 glob:fd.globals=mainGlobals
 iO:fd.builtins=builtinsNs
 kind:fd.scope.kind=.function
 co:fd.scope.isCoroutine=false
 gen:fd.scope.isGenerator=false
 pos:fd.params.posonlyargs=[]
 args:fd.params.args.map (·.arg)=ps.map C.nm
 vararg:fd.params.vararg=none
 N9:fd.params.kwonlyargs=[]
 kwarg:fd.params.kwarg=none
 dflt:fd.defaults=.none
 nd:(ps.map C.nm).Nodup
 cell:∀x∈fd.scope.names,x.2≠.cell
 loc:∀x∈ps,fd.scope.names.lookup (C.nm x)=some .local
 free:∀x,fd.scope.names.lookup x=some .free→∃y∈cs,x=C.nm y
 apart:∀x∈cs,fd.scope.names.lookup (C.nm x)=some .free
 Ep:kd.k=fun x=>fd.scope.names.lookup x
 nT:kd.code=none
 fits:aU C kd e body
def I5(C:Cx)(k:Nat)(ps cs:List Nat)(e:CE):Prop:=C.bM k=cs∧∀fd,C.lam k fd→∃body kd,oH C k ps cs e fd body kd
theorem du.get{cl:List (Str×Addr)}{nm:Nat→Str}{xs:List Nat}:∀{cs:List Addr}{vs:List Value}{as:List AV},du M h cl nm xs cs vs→ay C J M h as vs→(∀x∈xs,∃c o,cl.lookup (nm x)=some c∧h.get? c=some o)∧
  ∀x v,az (xs.zip as) x=some v→∃rv c o,cl.lookup (nm x)=some c∧¬M c∧h.get? c=some o∧o.data=.cell (some rv)∧ao C J M h v rv∧x∈xs:=by
 induction xs with
 |nil=>exact fun Y Y=>⟨fun Y m=>(nomatch m),fun x v e=>no e⟩
 |cons y xs ih=>
  intro cs vs as V R;refine Ax V.un fun c Eu v' uS o f=>?_
  rw [f.2.1]at R;cases as with
  |nil=>exact nomatch (R.nl:v'::uS=[])
  |cons a as=>
   refine jP R.un fun TK r q R1 R2=>?_
   injection q with q sd;subst q sd;refine aw (ih f.2.2.2.2.2.2 R2) fun i1 i2=>⟨fun x m=>(al_mc m).elim (fun q=>⟨c,o,q▸f.2.2.1,f.2.2.2.2.1⟩) (i1 x),fun x v e=>?_⟩
   cases q:Nat.beq y x with
   |true=>exact⟨v',c,o,o7 q▸f.2.2.1,f.2.2.2.1,f.2.2.2.2.1,f.2.2.2.2.2.1,al_inj ((oo (p:=(y,a)) (r:=xs.zip as) q).symm.trans e)▸R1,o7 q▸al_self⟩
   |false=>exact NF (i2 x v ((l7 (p:=(y,a)) (r:=xs.zip as) q).symm.trans e)) fun rv c' o j1 j2 j3 j4 j5 j6=>⟨rv,c',o,j1,j2,j3,j4,j5,al_con _ j6⟩
theorem oq(x:Nat):∀(a b:Env),az (a++b) x=(az a x).or (az b x)
 |[],b=>by simp[az]
 |p::a,b=>by
  have h1:az (p::(a++b)) x=match Nat.beq p.1 x with|true=>some p.2|false=>az (a++b) x:=rfl
  have h2:az (p::a) x=match Nat.beq p.1 x with|true=>some p.2|false=>az a x:=rfl
  rw [List.cons_append,h1,h2];cases q:Nat.beq p.1 x with
  |true=>rfl
  |false=>exact oq x a b
section
theorem BJ(l:List (Str×Value)):∀(n:Str)(v:Value),(l.map (·.1)).Nodup→(n,v)∈l→l.reverse.lookup n=some v:=by
 induction l with
 |nil=>exact fun Y Y Y m=>nomatch m
 |cons p r ih=>
  intro n v nd m;rw [List.map_cons,List.nodup_cons]at nd;rw [List.reverse_cons,List.lookup_append];rcases al_mc m with e|m
  ·have:r.reverse.lookup p.1=none:=by
    cases q:r.reverse.lookup p.1 with
    |none=>rfl
    |some u=>exact absurd (List.mem_map.mpr ⟨(p.1,u),List.mem_reverse.mp (mem_of_lookup q),rfl⟩) nd.1
   rw [←e]at this⊢;rw [this,List.lookup_cons,beq_self_eq_true];rfl
  ·rw [ih n v nd.2 m];rfl
section
variable{ps csn:List Nat}{ce:CE}{fd:FuncData}{body:Expr}
theorem zt(L:oH C k ps csn ce fd body kd)(hl:ras.length=ps.length):BindsTo st fd ⟨ras,[]⟩ ((ps.map C.nm).zip ras):=by
 have hB:=mc (ds:=[]) (s:=st) (vals:=ras) L.pos L.args L.vararg L.N9 L.kwarg (fun M A E Q hq=>by rw [L.dflt];exact PySem.wpAny_bind (PySem.wpAny_pure (PySem.wpAny_pure (hq _ rfl)))) (by rw [List.length_map];exact Nat.le_of_eq hl) (by rw [List.length_map,hl];exact Nat.le_add_right _ _) (Nat.zero_le _) L.nd
 rwa[List.drop_nil,List.append_nil]at hB
theorem zr{l:Addr}{q:Str}{cs:List Addr}{as bM:List AV}{rvs:List Value}(L:oH C k ps csn ce fd body kd)(Sm:du M h fd.closure C.nm csn cs rvs)(Sl:ay C J M h bM rvs)(V:ay C J M h as ras)(Sk:∀x c,fd.closure.lookup x=some c→∃y∈csn,x=C.nm y)
  (hns:h.Ns l m)(hM:M l)(hm:∀n v,(n,v)∈(ps.map C.nm).zip ras→m n=some v):eZ C (fun a=>Z a∨a=l) J M kd (newEnv fd.scope l fd.globals fd.closure q (some a) fd.code none fd.builtins) (ps.zip as++csn.zip bM) h:=by
 refine aw (du.get Sm Sl) fun g1 g2=>?_
 refine⟨L.glob,L.iO,L.kind,fun x=>by rw [L.Ep];rfl,fun x q=>?_,fun x c q=>?_,(fun c q=>by rw [L.nT]at q;exact no q),fun x u q Y=>?_⟩
 ·rw [L.Ep]at q
  exact q.elim (fun q=>absurd rfl (L.cell _ (mem_of_lookup q))) fun q=>aC (L.free x q) fun y m e=>Fz (g1 y m) fun c' o' q1=>⟨c',e▸q1.1⟩
 ·refine aC (Sk x c q) fun y m e=>d9 (g1 y m) fun c' o' q1 q2=>?_
  rw [e]at q;exact⟨o',al_inj (q1.symm.trans q)▸q2⟩
 ·rw [oq]at q
  cases hq:az (ps.zip as) x with
  |some u'=>
   rw [hq]at q;exact lu (om (nm:=C.nm) V hq) fun rv V1 m1 m2=>⟨rv,.loc _ (L.loc x m2) (.inr rfl) hns (hm _ _ m1),al_inj q▸V1⟩
  |none=>
   rw [hq]at q;exact NF (g2 x u q) fun rv c' o' q1 q2 q3 q4 q5 q6=>⟨rv,.cell c' o' (.inr (L.apart x q6)) q1 (.inr q2) q3 q4,q5⟩
theorem bZ.one(S:aq C J M s st.heap)(z:bZ C Z J st.heap){h₁:Heap}(G:aJ Z J M st.heap J M' h₁)(hns:h₁.Ns st.heap.objs.size m):bZ C (fun a=>Z a∨a=st.heap.objs.size) J h₁:=fun a q=>q.elim (z.bF G a) fun q=>by
 rw [q];have ia:st.heap.get? st.heap.objs.size=none:=Heap.ba _
 refine⟨NG hns fun o es ep e=>⟨o,e.1⟩,fun m=>let⟨o,e⟩:=S.there _ m;aM e ia,fun p hp q=>?_⟩
 exact dm (S.tab p hp).1 fun Y a=>aM (q▸a.2.1) ia
theorem GD(hlim:C.hb.NoLimit)(H:fV C ih d){bM as:List AV}{c:Addr}{o oc:Obj}{vs:Array Value}{t:Tok}{cs:List Addr}{rvs:List Value}{Q:Value→Shared→Prop}(L:oH C k ps csn ce fd body kd)(jT:C.bM k=csn)(X:w5 C M st.heap k (ay C J M st.heap bM) a c o oc fd vs t cs rvs)(hl:as.length=ps.length)(e:(ih.ev ce (ps.zip as++csn.zip bM) s).leaf C.ν=some (v,s'))(S:aq C J M s st.heap)(R:bz A (d+1))(z:bZ C Z J st.heap)(V:ay C J M st.heap as ras)(K:KV C Z J M st v s' Q):ab (Md C) A (call (.ref a) ras []) Q E st:=by
 have hr:ras.length=ps.length:=V.length.symm.trans hl
 refine dj (qE (by have:=R.2.1;lia) X.at_ X.dat L.co L.gen L.nP ⟨c,oc,vs,t,X.code,X.Tb,X.Ph,X.qual⟩ (lf (zt L hr _ _ _ _ (lf<|wpAny_newFunctionEnv L.cell (fun x hx=>?_) (fun h₁ hns hsb=>?_) L.kind))))
 ·exact aC (List.mem_map.mp (List.of_mem_zip (a:=x.1) (b:=x.2) hx).1) fun y q1 q2=>q2▸L.loc y q1
 ·have Iy:∀b o,st.heap.get? b=some o→h₁.get? b=some o:=fun b o e=>hsb.extBut b o (Nat.ne_of_lt (Heap.lt_size e)) (Heap.get?_push_of_some _ e)
  refine⟨(hlim.keeps fun b o e=>(S.base b o e).2).keeps Iy,qD ?_⟩
  refine aw (aq.uF (Z:=Z) (h₁:=h₁) (own:=fun a=>a=st.heap.objs.size) S Iy (fun a q=>q▸Heap.ba _) (fun a q=>NG hns fun o Y Y e=>⟨o,q▸e.1⟩)) fun aD aF=>?_
  exact H ce _ s v s' e kd body L.fits _ J _ _ _ _ (zr L (jT▸X.bM.chg aF.chg) (X.vals.grow aF) (V.grow aF) (jT▸X.all) hns (.inr rfl) fun n v m=>BJ _ _ _ (by rw [List.map_fst_zip (by rw [List.length_map,hr];exact Nat.le_refl _)];exact L.nd) m) aD (R.c.deeper _) (z.one S aF hns) _ _ fun σ' M' h' tk rv G S' V'=>K σ' M' h' tk rv (aF.trans (G.less fun Y q=>.inl q)) S' V'
theorem ur(hlim:C.hb.NoLimit)(H:fV C ih d){ok:Bool}{bM as:List AV}{rg:Value}{Q:Value→Shared→Prop}(hlm:∀k ps cs e,P.gn.get k=some (ps,cs,e)→I5 C k ps cs e)(e:(xq P ih ok (.uU k bM) as s).leaf C.ν=some (v,s'))(S:aq C J M s st.heap)(R:bz A (d+1))(z:bZ C Z J st.heap)(Vg:ao C J M st.heap (.uU k bM) rg)(V:ay C J M st.heap as ras)(K:KV C Z J M st v s' Q):
  (∀Q E,(∀k,Q k st)→ab (Md C) A (keeperOf rg) Q E st)∧ab (Md C) A (call rg ras []) Q E st:=by
 refine aC Vg.inv fun a q X=>Kj X fun c o oc fd X=>Kj X fun vs t cs rvs X=>q▸⟨fun Q E K=>?_,?_⟩
 ·unfold keeperOf
  refine aa (lf<|wpAny_load X.at_ ?_)
  rw [X.dat];exact af (K _)
 ·replace e:(bL (P.gn.get k) fun q=>bL (bindArgs q.1 [] as) fun ρ=>ih.ev q.2.2 (ρ++q.2.1.zip bM) s).leaf C.ν=some (v,s'):=e
  refine aC (aI e) fun p hl e=>aC (aI e) fun ρ hb e=>aw (hlm k p.1 p.2.1 p.2.2 hl) fun jT hL=>Fz (hL fd X.lam) fun body kd L=>dz (k9 hb) fun b1 b2 b3=>?_
  have hlen:as.length=p.1.length:=Nat.le_antisymm b1 b2
  rw [b3,List.drop_nil,List.append_nil]at e;exact GD hlim H L jT X hlen e S R z V K
end
end
theorem rk{ps:List (Str×Value)}:∀kvs:List (Str×Value),((kvs++ps).map (·.1)).Nodup→merged kvs ps=kvs++ps:=by
 induction ps with
 |nil=>exact fun kvs Y=>(List.append_nil kvs).symm
 |cons p r ih=>
  intro kvs nd;have h1:stored kvs p.1 p.2=kvs++[p]:=by
   unfold stored;rw [if_neg];intro q;refine aC (List.any_eq_true.mp q) fun x hx he=>?_
   rw [List.map_append,List.nodup_append]at nd;exact nd.2.2 x.1 (List.mem_map_of_mem hx) p.1 al_self (of_decide_eq_true he)
  show merged (stored kvs p.1 p.2) r=_;rw [h1,ih (kvs++[p]) (by rw [List.append_assoc];exact nd),List.append_assoc]
  rfl
section
noncomputable def Nl(env:PySem.Env)(pos:Pos)(kx:List (Option Expr))(xs:List Expr):List (Sem Value×Sem Value):=kx.zipWith (fun k x=>(k.elim (pure .none) fun k=>eval k env,do let v←eval x env;standAt pos;pure v)) xs
theorem J5(pos:Pos):∀{es:List CE}{kx:List (Option Expr)}{xs:List Expr},iS ks kx→cP C kd es xs→ks.length=es.length→
  (evalEachOpt kx env).zip ((evalEach xs env).map fun v=>do let x←v;standAt pos;pure x)=(Nl env pos kx xs).map (fun p=>(some p.1,p.2))∧(Nl env pos kx xs).length=ks.length:=by
 induction ks with
 |nil=>exact fun hk Y Y=>hk.nl▸⟨rfl,rfl⟩
 |cons k ks ih=>
  intro es kx xs hk hf hl;cases es with
  |nil=>injection hl
  |cons a es=>exact hf.oI fun x xs Y Y h3=>ml hk.un fun n p T9 q hk=>aw (ih hk h3 (Nat.succ.inj hl)) fun i1 i2=>q▸⟨congrArg (List.cons (some (eval (.Constant (.str (aP k)) n p) env),(do let v←eval x env;standAt pos;pure v:Sem Value))) i1,congrArg Nat.succ i2⟩
theorem sR(H:fV C ih d)(pos:Pos):∀{es:List CE}{kx:List (Option Expr)}{xs:List Expr}{s:AS}{vs:List AV}{J:List Addr}{M:Addr→Prop}{st:Shared}{Q:List (Value×Value)→Shared→Prop},(qj ih es ρ s).leaf C.ν=some (vs,s')→iS ks kx→cP C kd es xs→ks.length=es.length→eZ C Z J M kd env ρ st.heap→aq C J M s st.heap→bz A d→bZ C Z J st.heap→
  (∀σ' M' h' tk(rvs:List Value)(pv:List (Value×Value)),aJ Z J M st.heap σ' M' h'→aq C σ' M' s' h'→ay C σ' M' h' vs rvs→Carries (PySem.strKind C.prog C.w) pv ((ks.map aP).zip rvs)→rvs.length=ks.length→Q pv {st with heap:=h',toks:=tk})→
  ab (Md C) A (evalPairs (Nl env pos kx xs)) Q E st:=by
 induction ks with
 |nil=>
  intro es kx xs s vs J M st Q e hk hf hl F S R z K;cases es with
  |cons a b=>injection hl
  |nil=>
   obtain⟨rfl,rfl⟩:=pi_inj e
   rw [hk.nl,hf.nl];exact lf<|evalPairs_nil (K J M st.heap st.toks [] [] (aJ.refl _ _ _ _) S .nil trivial rfl)
 |cons k ks ihk=>
  intro es kx xs s vs J M st Q e hk hf hl F S R z K;cases es with
  |nil=>injection hl
  |cons a es=>
   refine aH.cz e fun v ag e1 e=>aH.cz e fun ws aK e2 e=>hf.oI fun x xs h1 h2 h3=>ml hk.un fun n p T9 q hk=>?_
   obtain⟨rfl,rfl⟩:=pi_inj e
   rw [q];refine evalPairs_cons (k:=eval (.Constant (.str (aP k)) n p) env) (v:=do let v←eval x env;standAt pos;pure v) (rest:=Nl env pos T9 xs) (lf<|Calls.Constant_str ?_)
   refine aa (H a ρ s v ag e1 kd x h1 Z J M env A {st with toks:=st.toks+1} F S R z _ _ fun aA aN h₁ aS rv G aD V=>aa (au (af ?_)))
   exact ihk (st:={st with heap:=h₁,toks:=aS}) (Q:=fun vs bI=>Q ((.str (aP k) st.toks,rv)::vs) bI) e2 hk h3 (Nat.succ.inj hl) (F.grow G) aD R (z.grow G) fun cg dG bl bb rvs pv aZ bN dN Cr hr=>K cg dG bl bb (rv::rvs) ((.str (aP k) st.toks,rv)::pv) (G.trans aZ) bN (.cons (V.grow aZ) dN) ⟨strKind_is _ _ _ _,rfl,Cr⟩ (congrArg Nat.succ hr)
theorem wx{o:Obj}{es:Array DictEntry}{ep:Nat}(h1:o.ExactDict)(h2:o.data=.dict es ep):o=bG es.toList ep:=by
 obtain⟨c,dd,dt,sl⟩:=o
 refine dz (h1:) fun a b c'=>?_
 simp only at a b c' h2
 subst a b c' h2
 rfl
theorem AL{k:List Nat}{e:DictEntry}{k':Str}(h1:(PySem.strKind C.prog C.w).is k' e.key=true)(h2:e.hash=(PySem.strKind C.prog C.w).hash k')(p1:(PySem.strKind C.prog C.w).is (aP k) e.key=true):∃t,e=⟨PyData.keyHash C.w.params (aP k),.str (aP k) t,e.val⟩:=by
 rw [Value.isStrOf_inj _ _ _ h1 p1]at h2;obtain⟨eh,ek,ev⟩:=e
 exact dm (Value.isStrOf_shape p1) fun t ht=>⟨t,by cases (ht:ek=_);cases (h2:eh=_);rfl⟩
theorem Dn:∀{as:List AV}{rvs:List Value}{es:List DictEntry},ay C J M h as rvs→ks.length=rvs.length→(∀e∈es,∃k,(PySem.strKind C.prog C.w).is k e.key=true∧e.hash=(PySem.strKind C.prog C.w).hash k)→Pairs (PySem.strKind C.prog C.w) es ((ks.map aP).zip rvs)→cM C J M h (ks.zip as) es:=by
 induction ks with
 |nil=>intro as rvs es V hl _ p;cases p;exact .nil
 |cons k ks ih=>
  intro as rvs es V hl hh p;cases as with
  |nil=>rw [V.nl]at hl;injection hl
  |cons a as=>
   revert hl p
   refine V.oI fun rv rvs V r hl p=>?_
   rw [List.map_cons,List.zip_cons_cons]at p;cases p with
   |@cons e _ kW _ p1 p2 p3=>exact aC (hh e al_self) fun k' h1 h2=>dm (AL h1 h2 p1) fun t q=>Eq.mpr (congrArg (fun e=>cM C J M h ((k,a)::ks.zip as) (e::kW)) q) (.cons (t:=t) (p2▸V) (ih r (Nat.succ.inj hl) (fun e m=>hh e (al_con _ m)) p3))
theorem Dw(H:fV C ih d)(pos:Pos){es:List CE}{vs:List AV}{kx:List (Option Expr)}{D:Addr}{h₁:Heap}{Q:Value→Shared→Prop}(e1:(qj ih es ρ s).leaf C.ν=some (vs,s'))(hk:iS ks kx)(hl:cP C kd es xs)(hlen:ks.length=es.length)(hnd:(ks.map aP).Nodup)(F:eZ C Z J M kd env ρ st.heap)(S:aq C J M s st.heap)(R:bz A d)(z:bZ C Z J st.heap)
  (dead:st.heap.get? D=none)(hsys:(D==sysModules)=false)(Wt:∀b o,st.heap.get? b=some o→h₁.get? b=some o)(v8:h₁.get? D=some (bG [] 0))(K:KV C Z J M st (.dW (ks.zip vs)) s' Q):
  ab (Md C) A (evalPairs (Nl env pos kx xs)) (fun vs ag=>∃kvs,Carries (PySem.strKind C.prog C.w) vs kvs∧ag.heap.DictOf (PySem.strKind C.prog C.w) D []∧
    ∀h',h'.DictOf (PySem.strKind C.prog C.w) D (merged [] kvs)→Heap.SameBut D ag.heap h'→Q (.ref D) {ag with heap:=h',toks:=ag.toks+vs.length}) E {st with heap:=h₁}:=by
 refine aw (aq.uF (Z:=Z) (h₁:=h₁) (own:=fun a=>a=D) S Wt (fun a q=>q▸dead) (fun a q=>q▸⟨_,v8⟩)) fun aD aF=>?_
 have zD:bZ C (fun a=>a=D) J h₁:=fun a q=>q▸⟨⟨_,v8⟩,fun m=>let⟨o,e⟩:=S.there _ m;aM e dead,fun p hp q=>dm (S.tab p hp).1 fun Y a=>aM (q▸a.2.1) dead⟩
 refine sR (st:={st with heap:=h₁}) H pos e1 hk hl hlen ((F.grow aF).more (Z':=fun a=>Z a∨a=D) fun Y q=>.inl q) aD R (fun a q=>q.elim (z.bF aF a) (zD a)) fun cg dG bl bb rvs pv aZ bN dN Cr hr=>?_
 refine⟨(ks.map aP).zip rvs,Cr,⟨_,_,0,aZ.di (.inr rfl) v8,⟨rfl,rfl,rfl⟩,rfl,fun e m=>(nomatch (List.mem_toArray.mp m)),.nil,List.Pairwise.nil⟩,fun dD Oz hs=>NF Oz fun o kW ep o1 o2 o3 o4 o5 o6=>?_⟩
 rw [rk [] (by rw [List.nil_append,List.map_fst_zip (Nat.le_of_eq (by rw [List.length_map,hr]))];exact hnd),List.nil_append]at o5
 rw [wx o2 o3]at o1;refine dz ((zD.bF aZ) D rfl) fun b1 b2 b3=>aw (bN.forget (aZ.more D (.inr rfl)) b2 b3 hs) fun fk X=>?_
 exact K cg _ dD _ _ ((aF.trans (aZ.less fun Y q=>.inl q)).forget dead (fun b m=>S.mlt b m) hs) fk (.dW _ D kW.toList ep (fun q=>q.2 rfl) hsys o1 (Dn (dN.chg X) hr.symm (fun e m=>o4 e (Array.mem_toList_iff.mp m)) o5))
theorem Nb(W:Wd C P)(H:fV C ih d){es:List CE}{Q:Value→Shared→Prop}(e:(cq P N ih (.dW ks es) ρ s).leaf C.ν=some (v,s')){kx:List (Option Expr)}(hk:iS ks kx)(hl:cP C kd es xs)(hlen:(ks).length=(es).length)(hnd:((ks).map aP).Nodup)(WL:(ks).length≤15)(F:eZ C Z J M kd env ρ st.heap)(S:aq C J M s st.heap)(R:bz A d)(z:bZ C Z J st.heap)(K:KV C Z J M st v s' Q):
  ab (Md C) A (eval (.Dict kx xs pos) env) Q E st:=by
 refine aH.cz e fun vs ag e1 e=>aw (bu e) fun Y e=>?_
 have K:=K.of e
 have dead:st.heap.get? st.heap.objs.size=none:=Heap.ba _
 have hsys:(st.heap.objs.size==sysModules)=false:=beq_eq_false_iff_ne.mpr fun q=>dm W.mods fun o e=>aM (q▸(S.base _ _ e).2) dead
 cases ks with
 |nil=>
  cases es with
  |cons a b=>injection hlen
  |nil=>
   obtain⟨rfl,rfl⟩:=pi_inj e1
   rw [hk.nl,hl.nl];exact lf<|wpAny_Dict_empty (K J M _ st.toks _ (aJ.push Z J M st.heap (bG [] 0)) (S.push _) (.dW [] _ [] 0 (S.nH dead) hsys (Heap.get?_push_size _ rfl) .nil))
 |cons k ks=>exact aw (J5 (env:=env) pos hk hl hlen) fun p1 p2=>lA (knd:=PySem.strKind C.prog C.w) p1 (fun q=>by rw [q]at p2;injection p2) (by rw [p2];exact WL) (Dw H pos e1 hk hl hlen hnd F S R z dead hsys (fun b o e=>Heap.get?_push_of_some _ e) (Heap.get?_push_size _ rfl) K)
end
def Qd(C:Cx):Prop:=∀k as s v s',(builtin k as s).leaf C.ν=some (v,s')→∀Z J M A st ras,aq C J M s st.heap→bz A 0→bZ C Z J st.heap→ay C J M st.heap as ras→∀Q E,KV C Z J M st v s' Q→ab (Md C) A (call (uV k) ras []) Q E st
def L4(C:Cx)(P:Pg):Prop:=∀k as s r v s',P.sm k as s=some r→r.leaf C.ν=some (v,s')→∀Z J M A st ras,aq C J M s st.heap→bz A (P.smd+1)→bZ C Z J st.heap→ay C J M st.heap as ras→∀Q E,KV C Z J M st v s' Q→ab (Md C) A (call (.ref (C.mv k)) ras []) Q E st
structure WF(C:Cx)(P:Pg)(N:oO):Prop where
 wd:Wd C P
 lim:C.hb.NoLimit
 fns:∀k f,P.fs.get k=some f→uN C k f
 gn:∀k ps cs e,P.gn.get k=some (ps,cs,e)→I5 C k ps cs e
 lw:L6 C
 cV:L5 C N
 bj:ie C
 Pr:lr C
 bi:Qd C
 it:iB C
 en:mQ C
 zp:rO C
 Uo:lh C P
 sm:L4 C P
def L3(C:Cx)(P:Pg)(N:oO)(n:Nat):Prop:=∀d,fV C (run P N n d) d∧uX C (run P N n d) d∧uW C (run P N n d) d∧PY C (run P N n d) d
theorem bz.mono{d':Nat}(R:bz A d)(h:d'≤d):bz A d':=⟨R.1,by have:=R.2.1;lia,by have:=R.2.2;lia⟩
section
theorem Gr(X:WF C P N)(hn:n≤100000)(HB:∀m,m≤n→L3 C P N m):fV C (run P N (n+1) d) d:=by
 intro e ρ s v s' he kd ex hf Z J M env A st F S R z Q E K;have he:(cq P N (run P N n d) e ρ s).leaf C.ν=some (v,s'):=he
 refine lx (HB n (Nat.le_refl _) d:) fun H HT HX HC=>?_
 cases e with
 |n _=>exact TQ (ak.Rw hf) fun s pos q a b c d=>q▸Q1 he a b c d F S K
 |val _=>exact ml (ak.MK hf) fun Y Y Y q a=>q▸M1 he a S K
 |t _=>exact ml (ak.tupI hf) fun Y Y Y q a=>q▸M3 H he a F S R z K
 |list _=>exact d9 (ak.listI hf) fun Y Y q a=>q▸JX H he a F S R z K
 |dW _ _=>exact NF (ak.Pf hf) fun Y Y Y q a b c d e=>q▸Nb X.wd H he a b c d e F S R z K
 |bin _ _ _=>exact Fy (ak.binI hf) fun Y Y Y q a b=>q▸Nd H he a b F S R z K
 |cmp _ _ _=>exact oK (ak.Lw hf) fun Y Y Y q a b c=>q▸Nc H he a b c F S R z K
 |chain _ _ _ _ _=>exact no he
 |and _=>exact d9 (ak.LZ hf) fun Y Y q a=>q▸LY H _ he a F S R z K
 |or _=>exact d9 (ak.Ri hf) fun Y Y q a=>q▸Nx H _ he a F S R z K
 |not _=>exact no he
 |neg _=>exact d9 (ak.NK hf) fun Y Y q a=>q▸M6 H he a F S R z K
 |ite _ _ _=>exact uT (ak.FZ hf) fun Y Y Y Y q a b c=>q▸M8 H HT he a b c F S R z K
 |attr _ _=>exact Qk (ak.D5 hf) fun Y Y Y q a b c d=>q▸JY X.wd H he a b c d F S R z K
 |idx _ _=>exact Fy (ak.Og hf) fun Y Y Y q a b=>q▸M9 H he a b F S R z K
 |il _ _ _=>exact VJ (ak.MY hf) fun Y Y Y Y Y q a b c=>q▸M4 X.wd H he a b c F S R z K
 |rev _=>exact Ax (ak.Nj hf) fun Y Y Y Y Y h=>aC h fun Y q a=>q▸M5 H he a F S R z K
 |call _ _=>exact oK (ak.DO hf) fun Y Y Y q a b c=>q▸Jh H HC he a b c F S R z K
 |bC _ _ _=>exact Ax (ak.Cf hf) fun Y Y Y Y Y h=>lx h fun q a b h=>Kl h fun c d e f g=>q▸JW X.wd X.cV X.bj H HC he a b c d e f g F S R z K
 |comp _ _ _ _ _=>exact Ax (ak.DE hf) fun Y Y Y Y Y h=>aC h fun Y q f=>q▸BG X.it X.wd.inj hn (fun m hm=>⟨(HB m hm d).1,(HB m hm d).2.1⟩) he f F S R z K
 |gy _ _ _ _ _ _ _=>exact False.elim hf
 |lam _ _=>exact H8 (ak.N7 hf) fun Y Y Y Y q a=>q▸M7 X.lw he a F S z K
 |eM _=>exact Kk (ak.OC hf) fun Y Y q a b c=>q▸Na X.wd.glob he a b c F S K
 |bad _=>exact no he
theorem mB(H:fV C ih d){e:CE}{r:Bool}{Q:Bool→Shared→Prop}(he:(plainT ih e ρ s).leaf C.ν=some (r,s'))(hf:aU C kd e ex)(F:eZ C Z J M kd env ρ st.heap)(S:aq C J M s st.heap)(R:bz A d)(z:bZ C Z J st.heap)(K:KB C Z J M st r s' Q)
  (h1:∀whole:Sem Value,isTrue ex env whole=(do let v←whole;standAt ex.pos;holding [v] (PySem.truthy v))):ab (Md C) A (isTrue ex env (eval ex env)) Q E st:=by
 refine aH.cz he fun v ag e1 e2=>?_
 rw [h1];refine aa (H e ρ s v ag e1 kd _ hf Z J M env A st F S R z _ _ fun aA aN h₁ aS rv aF aD bV=>?_)
 exact aa (au (aj (iY (Z:=Z) (st:={st with heap:=h₁,toks:=aS}) e2 bV aD (K.after aF))))
theorem MP(HT:uX C ih d){e:CE}{r:Bool}{Q:Bool→Shared→Prop}(he:((ih.ts e ρ s).bind fun(b,s)=>.ok (!b,s):aH (Bool×AS)).leaf C.ν=some (r,s'))(hf:aU C kd e ex)(F:eZ C Z J M kd env ρ st.heap)(S:aq C J M s st.heap)(R:bz A d)(z:bZ C Z J st.heap)(K:KB C Z J M st r s' Q):
  ab (Md C) A (isTrue (.UnaryOp .Not ex pos) env (eval (.UnaryOp .Not ex pos) env)) Q E st:=by
 refine aH.cz he fun b ag e1 e2=>?_
 obtain⟨rfl,rfl⟩:=pi_inj e2
 exact isTrue_not (HT _ ρ s b _ e1 kd _ hf Z J M env A st F S R z _ _ fun aA aN h₁ aS aF aD=>K aA aN h₁ aS aF aD)
theorem EL(HB:L3 C P N n):uX C (run P N (n+1) d) d:=by
 intro e ρ s r s' he kd ex hf Z J M env A st F S R z Q E K;have he:(stepT (run P N n d) e ρ s).leaf C.ν=some (r,s'):=he
 refine lx (HB d:) fun H HT HX HC=>?_
 cases e with
 |not _=>exact d9 (ak.NI hf) fun Y Y q a=>q▸MP HT he a F S R z K
 |and _=>exact d9 (ak.LZ hf) fun Y Y q a=>q▸EN HT _ _ he a F S R z K
 |or _=>exact d9 (ak.Ri hf) fun Y Y q a=>q▸JI HT _ _ he a F S R z K
 |cmp _ _ _=>exact oK (ak.Lw hf) fun Y Y Y q a b c=>q▸MQ H he a b c F S R z K
 |chain _ _ _ _ _=>exact ND (ak.DI hf) fun Y Y Y Y q a b c e=>q▸EP H he a b c e F S R z K
 |n _=>exact Fz (ak.Rw hf) fun Y Y h=>by rw [h.1]at hf⊢;exact mB H he hf F S R z K fun Y=>rfl
 |attr _ _=>exact NG (ak.D5 hf) fun Y Y Y h=>by rw [h.1]at hf⊢;exact mB H he hf F S R z K fun Y=>rfl
 |call _ _=>exact NG (ak.DO hf) fun Y Y Y h=>by rw [h.1]at hf⊢;exact mB H he hf F S R z K fun Y=>rfl
 |bC _ _ _=>exact Ax (ak.Cf hf) fun Y Y Y Y Y h=>by rw [h.1]at hf⊢;exact mB H he hf F S R z K fun Y=>rfl
 |_=>exact no he
theorem Jo(X:WF C P N)(hn:n≤100000)(HB:∀m,m≤n→L3 C P N m){c:CS}(e:(bQ P (run P N n d) c ρ s).leaf C.ν=some (f,ρ',s'))(hf:fD C kd cs c x)(F:cW C Z J M own kd cs env ρ st.heap)(S:aq C J M s st.heap)(R:bz A d)(z:bZ C Z J st.heap)(K:KX C Z J M own kd cs env st f ρ' s' Q):
  ab (Md C) A (exec x env) Q E st:=by
 refine lx (HB n (Nat.le_refl _) d:) fun H HT HX HC=>?_
 cases c with
 |bU y a=>
  exact Kj (bc.PR hf) fun sN p pos ex h=>lx h fun q h1 h2 h=>aw h fun h3 h4=>by
   rw [q];rcases h4 with h4|h4
   ·exact MA X.wd.inj H e h1 h2 h3 h4 F S R z K
   ·cases n with
    |zero=>exact no e
    |succ m=>
     refine Ax h4 fun elt tg flat it ifs h4=>aw h4 fun q1 h4=>Ax h4 fun xe xt xi xs sc h4=>aC h4 fun lpos q2 Y=>?_
     rw [q2]at h3⊢;rw [q1]at e h3;exact Js X.it X.wd.inj (Nat.le_of_succ_le hn) (fun k hk=>⟨(HB k (Nat.le_succ_of_le hk) d).1,(HB k (Nat.le_succ_of_le hk) d).2.1⟩) e h1 h2 h3 F S R z K
 |cD _ _=>exact TP (bc.PK hf) fun Y Y Y Y Y q h1 h2 h3 h4=>q▸Jp X.wd.inj H e h1 h2 h3 h4 F S R z K
 |iJ _ _ _ _=>exact Ax (bc.LU hf) fun Y Y Y Y Y h=>Kj h fun Y Y Y Y h=>lx h fun q h0 h5 h=>Kl h fun h1 h2 h3 h4 h6=>q▸EC X.wd.inj X.wd H e h0 h5 h1 h2 h3 h4 h6 F S R z K
 |aR _ _ _=>exact TO (bc.PU hf) fun Y Y Y Y Y q h0 hn h1 h3 h4=>q▸Jt X.wd H e h0 hn h1 h3 h4 F S R z K
 |jM _ _ _=>exact TP (bc.PQ hf) fun Y Y Y Y Y q h1 h2 h3 h4=>q▸Jr X.wd H e h1 h2 h3 h4 F S R z K
 |iP _ _ _ _=>exact Ax (bc.PM hf) fun Y Y Y Y Y h=>Ro h fun Y Y q h1 h2 Si h3 h4=>q▸Jq X.Pr X.wd H e h1 h2 Si h3 h4 F S R z K
 |ex _=>exact jP (bc.WU hf) fun Y Y q h1 h2=>q▸QD H e h1 h2 F S R z K
 |ret _=>
  exact(bc.Rb hf).elim (fun h=>d9 h fun Y Y q h1=>q▸Mx H e h1 F S R z K) fun h=>aw h fun q h=>dm h fun Y q'=>by
   rw [q]at e;rw [q'];cases n with
   |zero=>exact no e
   |succ m=>exact lf (wpAny_Return_none ((K.ok e).now S F ⟨.none,rfl,.none⟩ st.toks))
 |ite _ _ _=>exact uT (bc.FZ hf) fun Y Y Y Y q h1 h2 h3=>q▸My HT HX e h1 h2 h3 F S R z K
 |«for» _ _ _ _ _=>exact ND (bc.Gg hf) fun Y Y Y Y q h1 OA h2 h3=>q▸Mz X.wd.inj X.wd X.Uo X.it X.en X.zp H (fun m hm=>(HB m hm d).1) (fun m hm=>(HB m hm d).2.2.1) e h1 OA h2 h3 F S R z K
 |gQ _ _ _ _ _ _=>exact False.elim hf
 |«while» _ _=>exact Fy (bc.Jx hf) fun Y Y Y q h1 h2=>q▸EB (fun m hm=>⟨(HB m hm d).2.1,(HB m hm d).2.2.1⟩) e h1 h2 F S R z K
 |«try» _=>exact H8 (bc.QQ hf) fun Y Y Y Y q h1=>q▸Mw HX e h1 F S R z K
 |pass=>exact dm (bc.Nt hf) fun Y q=>q▸lf (wpAny_Pass ((K.ok e).now S F rfl st.toks))
 |bad _=>exact no e
theorem AZ(e:(aH.ok (Fl.nx,ρ,s)).leaf C.ν=some (f,ρ',s'))(F:cW C Z J M own kd cs env ρ st.heap)(S:aq C J M s st.heap)(K:KX C Z J M own kd cs env st f ρ' s' Q):ab (Md C) A (execs [] env) Q E st:=
 lf (wpAny_execs_nil ((K.ok e).now S F rfl st.toks))
set_option tactic.hygienic true in
theorem EA(X:WF C P N)(hn:n≤100000)(HB:∀m,m≤n→L3 C P N m):uW C (run P N (n+1) d) d:=by
 intro cl ρ s f ρ' s' e kd cs xs hf Z J M own env A st F S R z Q E K;have e:(BA P (run P N n d) cl ρ s).leaf C.ν=some (f,ρ',s'):=e
 cases cl with
 |nil=>exact hf.nl▸AZ e F S K
 |cons c cl=>
  refine ml (DZ e) fun So bT ag e1 e=>jP hf.un fun x xs q h1 h2=>?_
  rw [q];refine ly (Jo X hn HB e1 h1 F S R z fun aA aN h₁ aS fl aF aD cH oZ=>?_)
  cases So with
  |rt w=>
   refine dz (NC e) fun q1 q2 q3=>?_
   exact aC oZ fun rv q V=>q▸K aA aN h₁ aS _ aF (q3▸aD) (q2▸cH) (q1▸⟨rv,rfl,V⟩)
  |nx=>
   rw [show fl=.next from oZ]
   cases cl with
   |nil=>exact h2.nl▸AZ e cH aD (K.after aF)
   |cons c' cl=>exact(HB n (Nat.le_refl _) d).2.2.1 _ bT ag f ρ' s' e kd cs _ h2 Z aA aN own env A {st with heap:=h₁,toks:=aS} cH aD R (z.bF aF) Q E (K.after aF)
def Tn(v:Value):Prop:=∃k,keeperOf v=pure k
theorem vK(k:Nat){Q:Keeper→Shared→Prop}(K:∀k,Q k st):ab (Md C) A (keeperOf (uV k)) Q E st:=
 dm (C5 (P:=Tn) ⟨_,rfl⟩ Uu ⟨⟨_,rfl⟩,⟨_,rfl⟩,⟨_,rfl⟩,⟨_,rfl⟩,⟨_,rfl⟩,⟨_,rfl⟩,⟨_,rfl⟩,⟨_,rfl⟩,⟨_,rfl⟩,⟨_,rfl⟩,⟨_,rfl⟩,⟨_,rfl⟩,⟨_,rfl⟩,⟨_,rfl⟩,⟨_,rfl⟩,⟨_,rfl⟩,⟨_,rfl⟩,trivial⟩ k) fun x q=>(show keeperOf (uV k)=pure x from q)▸af (K x)
theorem GK(X:WF C P N)(HB:L3 C P N n):PY C (run P N (n+1) d) d:=by
 intro g as s v s' e Z J M A st rg ras S R z Vg V;cases d with
 |zero=>exact no e
 |succ d=>
  have e:(xq P (run P N n d) (Nat.ble P.smd d) g as s).leaf C.ν=some (v,s'):=e
  refine lx (HB d:) fun H HT HX HC=>?_
  cases g with
  |fn k=>
   rw [show rg=_ from Vg.inv]
   refine aC (aI e) fun fn hfs e=>⟨fun Q E K=>zu (X.fns _ _ hfs) S K,fun Q E K=>?_⟩
   cases hs:MX P (Nat.ble P.smd d) k as s with
   |none=>rw [hs]at e;exact yh X.lim HX hfs (X.fns _ _ hfs) e S R.c z V K
   |some r=>
    rw [hs]at e;cases hb:Nat.ble P.smd d with
    |false=>rw [hb]at hs;exact no hs
    |true=>rw [hb]at hs;exact X.sm k as s r v s' hs e Z J M A st ras S (R.mono (Nat.succ_le_succ (show P.smd≤d from al_ble hb))) z V Q E K
  |cls c=>
   rw [show rg=_ from Vg.inv]
   exact⟨fun Q E K=>(uq (Q:=fun Y Y=>True) (E:=fun Y Y=>True) X.wd X.lim X.fns HX e S R z V (fun Y Y Y Y Y Y Y Y=>trivial)).1 Q E K,fun Q E K=>(uq X.wd X.lim X.fns HX e S R z V K).2⟩
  |uU k bM=>exact⟨fun Q E K=>(ur (Q:=fun Y Y=>True) (E:=fun Y Y=>True) X.lim H X.gn e S R z Vg V (fun Y Y Y Y Y Y Y Y=>trivial)).1 Q E K,fun Q E K=>(ur X.lim H X.gn e S R z Vg V K).2⟩
  |bi k=>
   rw [show rg=_ from Vg.inv]
   exact⟨fun Q E K=>vK k K,fun Q E K=>X.bi k as s v s' e Z J M A st ras S (R.mono (Nat.zero_le _)) z V Q E K⟩
  |_=>exact no e
theorem sound(X:WF C P N):∀n,n≤100000→L3 C P N n:=by
 intro n
 induction n using Nat.strongRecOn with
 |ind n ih=>
  intro hn d;cases n with
  |zero=>exact⟨(fun Y Y Y Y Y e=>by injection e),(fun Y Y Y Y Y e=>by injection e),(fun Y Y Y Y Y Y e=>by injection e),(fun Y Y Y Y Y e=>by injection e)⟩
  |succ n=>
   have HB:∀m,m≤n→L3 C P N m:=fun m hm=>ih m (Nat.lt_succ_of_le hm) (by lia)
   exact⟨Gr X (by lia) HB,EL (HB n (Nat.le_refl _)),EA X (by lia) HB,GK X (HB n (Nat.le_refl _))⟩
end
section
theorem aq.lX(S:aq C J M s h)(hT:∀a,T a→M a∧¬Z a∧a∉J∧∀p∈C.tabs,a≠p.2)(hk:∀b o,¬T b→h.get? b=some o→h'.get? b=some o)(hl:∀a,T a→∃o,h'.get? a=some o):aq C J M s h'∧aJ Z J M h J M h':=by
 have hv:∀b o,h.get? b=some o→∃o',h'.get? b=some o':=fun b o e=>by
  by_cases hb:T b
  ·exact hl b hb
  ·exact⟨o,hk b o hb e⟩
 have G:aJ Z J M h J M h':=⟨⟨[],by simp,fun Y m=>nomatch m⟩,⟨hv,fun b o hb e=>hk b o (fun q=>hb ⟨(hT b q).1,(hT b q).2.1⟩) e⟩,fun Y x=>x,fun Y x=>.inl x⟩
 refine⟨⟨S.len,S.lim,S.gC,S.nodup,S.low,fun i o b e q=>?_,S.je,S.ye,fun b m=>let⟨o,e⟩:=S.there b m;hv b o e,fun b m=>let⟨o,e⟩:=S.mlt b m;hv b o e,fun b o e=>?_,fun p hp=>?_,S.rg⟩,G⟩
 ·have hb:¬T b:=fun z=>(hT b z).2.2.1 (al_mem q)
  exact(S.obj i o b e q).grow G fun x hx=>hk b x hb hx
 ·refine aw (S.base b o e:) fun n y=>?_
  exact⟨n,hk b o (fun z=>n (hT b z).1) y⟩
 ·obtain⟨⟨ps,a1,a2,a3,a4⟩,a5⟩:=S.tab p hp
  refine⟨⟨ps,a1,hk _ _ (fun z=>(hT _ z).2.2.2 p hp rfl) a2,a3,fun pos cv e=>?_⟩,a5⟩
  refine uT (a4 pos cv e:) fun c oc vs t e1 e2 e3 e4=>?_
  exact⟨c,oc,vs,t,e1,e2,hk _ _ (fun z=>e2 (hT _ z).1) e3,e4⟩
theorem Ky{I:Addr}{o:Obj}{T:String}{Q:Unit→Shared→Prop}(e:st.heap.get? I=some o)(hc:o.cls=.type T)(hT:["enumerate","zip","dict_itemiterator","dict_reverseitemiterator","odict_iterator","itertools.zip_longest","itertools.pairwise"].contains T=false)(q:Q () st):ab (Md C) A (letOwnedTupleGo (.Tuple default default default) (.ref I) (.ref a)) Q E st:=by
 refine aa (lf<|wpAny_load e ?_)
 rw [hc];cases o.data<;>first|exact af q|skip
 show ab _ _ (if(_&&_)=true then _ else _) Q E st;rw [hT];exact af q
noncomputable def Cu(it v:Value):Sem Unit:=letOwnedTupleGo (.Tuple default default default) it v
theorem NW{it:Value}(v:Value):(∃r,it=.ref r)∨Cu it v=pure ():=by
 cases it<;>first|exact .inr rfl|exact .inl ⟨_,rfl⟩
theorem NY{v:Value}(r:Addr):(∃a,v=.ref a)∨Cu (.ref r) v=pure ():=by
 cases v<;>first|exact .inr rfl|exact .inl ⟨_,rfl⟩
theorem NX(target:Expr)(it v:Value):letOwnedTupleGo target it v=Cu it v∨letOwnedTupleGo target it v=pure ():=by
 cases target<;>first|exact .inr rfl|exact .inl rfl
theorem xR{target:Expr}{it v:Value}{Q:Unit→Shared→Prop}(q:Q () st)(k:∀r a,it=.ref r→v=.ref a→ab (Md C) A (Cu it v) Q E st):ab (Md C) A (letOwnedTupleGo target it v) Q E st:=
 (NX target it v).elim (fun e=>e▸(NW v).elim (fun⟨r,e1⟩=>(NY r).elim (fun⟨a,e2⟩=>k r a e1 e2) fun e2=>(e1▸e2:Cu it v=pure ())▸af q) fun e1=>e1▸af q) fun e=>e▸af q
theorem rp{target:Expr}{it v:Value}{Q:Unit→Shared→Prop}(hv:∀a,v≠.ref a)(q:Q () st):ab (Md C) A (letOwnedTupleGo target it v) Q E st:=
 xR q fun Y a Y e=>absurd e (hv a)
theorem xQ{target:Expr}{I:Addr}{v:Value}{o:Obj}{T:String}{Q:Unit→Shared→Prop}(e:st.heap.get? I=some o)(hc:o.cls=.type T)(hT:["enumerate","zip","dict_itemiterator","dict_reverseitemiterator","odict_iterator","itertools.zip_longest","itertools.pairwise"].contains T=false)(q:Q () st):ab (Md C) A (letOwnedTupleGo target (.ref I) v) Q E st:=
 xR q fun Y Y Y e'=>e'▸Ky e hc hT q
theorem gq{I:Addr}{fp wr:List Addr}{Pn:Nat→Value→Prop}{St:Nat→Heap→Prop}{item:Nat→Option AV}(W:∀A:Around,A.handled=none→Walks C.prog C.w A I fp wr n Pn St)(hI:∀i h,St i h→∀b∈wr,∃o,h.get? b=some o)
  (hsrc:∀s k r,(iE s kind src k).leaf C.ν=some r→r=item k)(hend:item n=none)
  (hlot:∀i h v,St i h→Pn i v→∀(target:Expr)(A:Around)(st:Shared)(Q:Unit→Shared→Prop)(E:Value→Shared→Prop),(∃o T,st.heap.get? I=some o∧o.cls=.type T∧True)∨True→St (i+1) st.heap→Q () st→ab (Md C) A (letOwnedTupleGo target (.ref I) v) Q E st):
  jw C kind src I (fun a=>a∈wr) fun J M k h=>k≤n∧St k h∧(∀b∈fp,b∉wr→¬M b∧∃o,h.get? b=some o)∧∀i v,i<n→Pn i v→∃a,item i=some a∧ao C J M h a v:=by
 have h0:(⟨none,0,none,none,1⟩:Around).handled=none:=rfl
 refine⟨fun{Z J M h σ' M' h' k} hz G⟨h1,h2,h3,h4⟩=>?_,fun{J M k A st Q E} hh⟨h1,h2,h3,h4⟩ q=>lf<|(W A hh).self k st Q E h2 q,fun{Z J M s st k A E r Q} hh S hT⟨h1,h2,h3,h4⟩ er kn ks=>?_⟩
 ·refine⟨h1,(W _ h0).frame k h h' h2 fun b hb o e=>?_,fun b hb hn=>?_,fun i v hi hp=>?_⟩
  ·by_cases hw:b∈wr
   ·exact G.di (hz b hw) e
   ·exact G.kept (h3 b hb hw).1 e
  ·obtain⟨a,o,e⟩:=h3 b hb hn
   exact⟨G.notM a e,o,G.kept a e⟩
  ·refine aC (h4 i v hi hp:) fun a e V=>?_
   exact⟨a,e,V.grow G⟩
 ·have hr:=hsrc s k r er
  rcases Nat.lt_or_ge k n with hk|hk
  ·refine lf<|(W A hh).item k st Q E hk h2 fun v h' tk hp vV hkp=>?_
   refine aC (h4 k v hk hp:) fun a e V=>?_
   refine aw (S.lX (Z:=Z) hT (fun b o hb e=>hkp b o hb e) (hI _ _ vV):) fun S' G=>?_
   refine ks a (by rw [hr,e]) h' tk v G S' (V.grow G) fun target A Q E Y K=>?_
   refine hlot k _ v h2 hp target A {st with heap:=h',toks:=tk} Q E (.inr trivial) vV (K h' (aJ.refl _ _ _ _) S' ⟨hk,vV,fun b hb hn=>?_,fun i u hi hp=>?_⟩)
   ·obtain⟨m,o,e⟩:=h3 b hb hn
    exact⟨m,o,hkp b o hn e⟩
   ·refine aC (h4 i u hi hp:) fun a e V=>?_
    exact⟨a,e,V.grow G⟩
  ·have:k=n:=by lia
   subst this;refine lf<|(W A hh).done st Q E h2 fun h' tk hkp=>kn (by rw [hr,hend]) h' tk fun b o hb e=>hkp b o hb e
end
section
theorem ay.back{vs:List Value}(V:ay C J M h l vs){y:Value}(e:vs[k]?=some y):∃x,l[k]?=some x∧ao C J M h x y:=
 V.ind (P:=fun l vs=>∀k y,vs[k]?=some y→∃x,l[k]?=some x∧ao C J M h x y) (fun Y Y e=>Mine.Internal.no e) (fun a Y Y Y x Y ih k=>Nat.casesOn k (fun Y e=>⟨a,rfl,al_inj e▸x⟩) fun k y e=>ih k y e) k y e
theorem GG{aN:Addr→Prop}(hk:∀b o,h.get? b=some o→h'.get? b=some o)(h1:∀a,aN a→M a∨h.get? a=none):uR J M h J aN h':=
 ⟨⟨[],by simp⟩,fun a o hn e=>⟨fun q=>(h1 a q).elim hn fun q=>aM e q,hk a o e⟩⟩
theorem dQ{b:Addr}(h:a∈[b]):a=b:=List.mem_singleton.mp h
theorem Bj(x:UInt8)(e:IE)(ν:Nat→Int)(h0:0≤e.eval ν)(h1:e.eval ν<256)(h:cj ν e=x):(x.toNat:Int)=e.eval ν:=by
 subst h;unfold cj;rw [UInt8.toNat_ofNat_of_lt' (by show _<256;lia)]
 lia
theorem hK:st.heap.get? st.heap.objs.size=none:=Heap.ba _
theorem kp(o:Obj)(b:Addr)(o':Obj)(e:st.heap.get? b=some o'):(st.heap.push o).get? b=some o':=Heap.get?_push_of_some o e
theorem gp(o:Obj)(hf:o.isFreed=false):(st.heap.push o).get? st.heap.objs.size=some o:=Heap.get?_push_size _ hf
section
theorem CF(V:ao C J M st.heap (.t l) rv):Made C 0 (.t l) s J M st A (pyIter rv):=by
 intro Q E K;refine V.kD fun a vs n ha ea Va=>?_
 have ht:st.heap.IsTuple a vs.toArray:=⟨_,ea,rfl,n,rfl⟩
 have hne:a≠st.heap.objs.size:=Nat.ne_of_lt (Heap.lt_size ea)
 have hl:=Va.length
 refine lf<|wpAny_pyIter_tuple ht (K _ _ _ _ _ (gq (item:=fun k=>l[k]?) (fun A hh=>Walks.tuple hh st.heap.objs.size a hne vs.toArray) (fun i h q b hb=>?_) (fun s k r e=>?_) ?_ fun i h v q hp target A st Q E Y q' k=>?_) (List.mem_singleton.mpr rfl) (fun b hb=>?_) (kp _) fun aN h1 h2 aD=>?_)
 ·rw [dQ hb];obtain⟨⟨o,e,_⟩,_⟩:=q;exact⟨o,e⟩
 ·injection e with e;subst e;rfl
 ·rw [List.size_toArray,←hl];exact List.getElem?_eq_none (Nat.le_refl _)
 ·obtain⟨⟨o,e,hc,_⟩,_⟩:=q'
  exact xQ e hc (by decide) k
 ·rw [dQ hb];exact⟨hK,_,gp _ rfl⟩
 ·refine⟨Nat.zero_le _,⟨⟨_,gp _ rfl,rfl,rfl⟩,⟨_,kp _ _ _ ea,rfl,n,rfl⟩⟩,fun b hb hn=>?_,fun i v hi hp=>?_⟩
  ·rcases al_mc hb with q|q
   ·exact absurd (q▸List.mem_singleton.mpr rfl) hn
   ·rw [dQ q];exact⟨fun q=>(h1 a q).elim ha fun q=>aM ea q,_,kp _ _ _ ea⟩
  ·refine aC (Va.back (k:=i) (y:=v) (by simpa using hp):) fun x q1 q2=>?_
   exact⟨x,q1,q2.chg (GG (kp _) h1)⟩
theorem vL{l:List IE}(V:ao C J M st.heap (.bytes l) rv):Made C 0 (.bytes l) s J M st A (pyIter rv):=by
 intro Q E K;refine V.dY fun hb t=>?_
 refine lf<|KBw.pyIter_bytes (K _ _ _ _ _ (gq (item:=fun k=>l[k]?.map .int) (fun A hh=>KBw.walks hh st.heap.objs.size (aQ C.ν l) t) (fun i h q b hb=>?_) (fun s k r e=>?_) ?_ fun i h v q hp target A st Q E Y q' k=>?_) (List.mem_singleton.mpr rfl) (fun b hb=>?_) (kp _) fun aN h1 h2 aD=>?_)
 ·rw [dQ hb];refine aC (q:) fun o e Y=>?_;exact⟨o,e⟩
 ·injection e with e;subst e;rfl
 ·rw [cw];simp
 ·obtain⟨c,u,_,rfl⟩:=hp
  exact rp (fun a q=>by injection q) k
 ·rw [dQ hb];exact⟨hK,_,gp _ rfl⟩
 ·refine⟨Nat.zero_le _,⟨_,gp _ rfl,rfl,rfl⟩,fun b Ov hn=>absurd Ov hn,fun i v hi hp=>?_⟩
  obtain⟨c,u,q1,rfl⟩:=hp
  have hq:(l.map (cj C.ν))[i]?=some c:=by
   have:(aQ C.ν l)[i]?=some c:=q1
   unfold aQ at this
   simpa using this
  rw [List.getElem?_map]at hq;refine aC (Option.map_eq_some_iff.mp hq:) fun x q2 q3=>?_
  have hx:=hb x (al_mem q2)
  refine⟨.int x,by rw [q2];rfl,.int x _ u (Bj c x C.ν hx.1 hx.2 q3).symm⟩
theorem CG{l:List Nat}(V:ao C J M st.heap (.str l) rv):Made C 0 (.str l) s J M st A (pyIter rv):=by
 intro Q E K;refine V.gB fun t=>?_
 have fin:∀(ty:String)(W:∀A:Around,A.handled=none→Walks C.prog C.w A st.heap.objs.size [st.heap.objs.size] [st.heap.objs.size] (aP l).cps.size (SignAt (aP l)) (fun i h=>h.IsStrIter st.heap.objs.size ty (aP l) t i)),
   Q (.ref st.heap.objs.size) {st with heap:=st.heap.push {cls:=.type ty,data:=.fields #[.str (aP l) t,.int 0 0]}}:=by
  intro ty W;refine K _ _ _ _ st.toks (gq (item:=fun k=>l[k]?.map fun c=>.str [c]) W (fun i h q b hb=>?_) (fun s k r e=>?_) ?_ fun i h v q hp target A st Q E Y q' k=>?_) (List.mem_singleton.mpr rfl) (fun b hb=>?_) (kp _) fun aN h1 h2 aD=>?_
  ·rw [dQ hb];refine aC (q:) fun o e Y=>?_;exact⟨o,e⟩
  ·injection e with e;subst e;rfl
  ·simp[aP]
  ·obtain⟨c,u,_,rfl⟩:=hp
   exact rp (fun a q=>by injection q) k
  ·rw [dQ hb];exact⟨hK,_,gp _ rfl⟩
  ·refine⟨Nat.zero_le _,⟨_,gp _ rfl,rfl,rfl⟩,fun b Ov hn=>absurd Ov hn,fun i v hi hp=>?_⟩
   obtain⟨c,u,q1,rfl⟩:=hp
   have hq:l[i]?=some c:=by simpa[aP]using q1
   exact⟨.str [c],by rw [hq];rfl,.str [c] u⟩
 cases ha:(aP l).cps.all (·<128)
 ·exact lf<|wpAny_pyIter_wide ha (fin "str_iterator" fun A hh=>Walks.strWide hh _ _ _)
 ·exact lf<|wpAny_pyIter_ascii ha (fin "str_ascii_iterator" fun A hh=>Walks.strAscii hh _ _ _)
theorem CI(V:ao C J M st.heap (.dW []) rv):Made C 0 (.dW []) s J M st A (pyIter rv):=by
 intro Q E K;refine V.wz fun a es n ha hs ea Ra=>?_
 subst Ra;have hd:st.heap.DictAt (PySem.strKind C.prog C.w) a [] n:=⟨_,_,ea,⟨rfl,rfl,rfl⟩,rfl,fun e m=>by simp at m,.nil,by simp⟩
 have hne:a≠st.heap.objs.size:=Nat.ne_of_lt (Heap.lt_size ea)
 refine lf<|wpAny_pyIter_dict hs hd (K _ _ _ _ _ (gq (item:=fun Y=>none) (fun A hh=>Walks.dictKeys (knd:=PySem.strKind C.prog C.w) hh st.heap.objs.size a hne [] n) (fun i h q b hb=>?_) (fun s k r e=>?_) rfl fun i h v q hp target A st Q E Y q' k=>?_) (List.mem_singleton.mpr rfl) (fun b hb=>?_) (kp _) fun aN h1 h2 aD=>?_)
 ·rw [dQ hb];obtain⟨⟨o,e,_⟩,_⟩:=q;exact⟨o,e⟩
 ·injection e with e;subst e;rfl
 ·refine d9 (hp:) fun k x q Y=>?_;simp at q
 ·rw [dQ hb];exact⟨hK,_,gp _ rfl⟩
 ·refine⟨Nat.zero_le _,⟨⟨_,gp _ rfl,rfl,rfl⟩,hd.keep (kp _)⟩,fun b hb hn=>?_,fun i v hi hp=>by simp at hi⟩
  rcases al_mc hb with q|q
  ·exact absurd (q▸List.mem_singleton.mpr rfl) hn
  ·rw [dQ q];exact⟨fun q=>(h1 a q).elim ha fun q=>aM ea q,_,kp _ _ _ ea⟩
theorem sI(a b:Int):Builtin.Range.rangeSize a b 1=((b - a).toNat:Int):=by
 unfold Builtin.Range.rangeSize;simp only[show(1:Int)>0 by decide,if_true,Int.ediv_one]
 split<;>lia
theorem zb{a b:Int}(b1: -1000000≤a)(b2:a≤1000000)(b3: -1000000≤b)(b4:b≤1000000):Builtin.Range.small a b 1=true:=by
 unfold Builtin.Range.small;rw [sI];unfold Builtin.Range.rangeFitsLong;simp only[Bool.and_eq_true,decide_eq_true_eq,Bool.or_eq_true];refine⟨⟨⟨⟨⟨?_,?_⟩,?_,?_⟩,?_⟩,?_,?_⟩,.inr ?_⟩<;>(try simp)<;>lia
theorem CH{a b:Int}(hb:(jC (-1000000) a&&(jC a 1000000&&(jC (-1000000) b&&jC b 1000000)))=true)(V:ao C J M st.heap (.xv a b) rv):Made C 0 (.xv a b) s J M st A (pyIter rv):=by
 intro Q E K;obtain⟨y,t,u,w,rfl,hy,ey⟩:=V.inv
 have hsz:=sI a b
 have hsm:=zb (bE.mp (ae hb).1) (bE.mp (ae (ae hb).2).1) (bE.mp (ae (ae (ae hb).2).2).1) (bE.mp (ae (ae (ae hb).2).2).2)
 refine lf<|wpAny_pyIter_range ey hsm (K _ _ _ _ _ (gq (n:=(b - a).toNat) (item:=fun k=>match iN (a+k) b with|true=>some (.int (.c (a+k)))|false=>none) (fun A hh=>Walks.range hh st.heap.objs.size a 1 (b - a).toNat) (fun i h q b hb=>?_) (fun s k r e=>?_) ?_ fun i h v q hp target A st Q E Y q' k=>?_) (List.mem_singleton.mpr rfl) (fun b hb=>?_) (kp _) fun aN h1 h2 aD=>?_)
 ·rw [dQ hb];exact⟨_,q⟩
 ·refine aw (cC (show(JQ a b k).leaf C.ν=some r from e):) fun Y e=>?_;injection e with e;subst e;rfl
 ·have:iN (a+((b - a).toNat:Nat)) b=false:=by
   cases q:iN (a+((b - a).toNat:Nat)) b with
   |false=>rfl
   |true=>have:=bp.mp q;lia
  rw [this]
 ·obtain⟨t,rfl⟩:=hp
  exact rp (fun a q=>by injection q) k
 ·rw [dQ hb];exact⟨hK,_,gp _ rfl⟩
 ·refine⟨Nat.zero_le _,?_,fun b Ov hn=>absurd Ov hn,fun i v hi hp=>?_⟩
  ·have:=gp (st:=st) {cls:=.type "range_iterator",data:=.fields #[rawInt a,rawInt (Builtin.Range.rangeSize a b 1),rawInt 1]} rfl
   rw [hsz]at this;simp only[hsz];show(st.heap.push _).get? _=_
   simpa using this
  ·obtain⟨t,rfl⟩:=hp
   have:iN (a+(i:Int)) b=true:=bp.mpr (by lia)
   rw [this];exact⟨_,rfl,.int _ _ t (by simp[IE.eval])⟩
theorem zy{i:Nat}(S:aq C J M s st.heap)(el:s.get i=some (.list l))(V:ao C J M st.heap (.ref i) rv):Made C 0 (.ref i) s J M st A (pyIter rv):=by
 intro Q E K;refine V.listE S el fun a vs n ha ea Va=>?_
 have hne:a≠st.heap.objs.size:=Nat.ne_of_lt (Heap.lt_size ea)
 refine lf<|wpAny_pyIter_list (cB ea) (K st.heap.objs.size (fun b=>b=st.heap.objs.size) (fun J M k h=>∃ax,J[i]?=some ax∧h.IsListIter st.heap.objs.size ax k) _ _ ⟨fun{Z J M h σ' M' h' k} hz G⟨ax,q1,o,q2,q3⟩=>?_,fun{J M k A st Q E} hh⟨ax,q1,q2⟩ q=>lf<|wpAny_pyIter_listiter q2 q,fun{Z J M s nk k A E r Q} hh S hT⟨ax,q1,q2⟩ er kn ks=>?_⟩ rfl (fun b hb=>?_) (kp _) fun aN h1 h2 aD=>?_)
 ·obtain⟨l,rfl,_⟩:=G.pre
  refine⟨ax,?_,o,G.di (hz _ rfl) q2,q3⟩
  rw [List.getElem?_append_left]
  ·exact q1
  ·exact(List.getElem?_eq_some_iff.mp q1).1
 ·refine aC (cJ (show(kj s (.ref i) fun l=>aH.ok l[k]?).leaf C.ν=some r from er):) fun l' SJ er=>?_
  injection er with er;subst er;exact d9 (S.obj i _ ax SJ q1).listI fun uS n' e' V'=>by
   cases hq:l'[k]? with
   |some x=>
    refine aC (V'.get hq:) fun y hy Vy=>?_
    refine lf<|wpAny_pyNext_list_item q2 (cB e') (x:=y) (by simpa using hy) fun h' CX pY=>?_
    obtain⟨S',G⟩:=S.lX (Z:=Z) hT (fun b o hb e=>pY.extBut b o hb e) (fun b hb=>by subst hb;obtain⟨o,e,_⟩:=CX;exact⟨o,e⟩)
    refine ks x hq h' nk.toks y G S' (Vy.grow G) fun target A Q E Y K=>?_
    refine lu (id CX:) fun o e hc hd=>?_
    exact xQ e hc (by decide) (K h' (aJ.refl _ _ _ _) S' ⟨ax,q1,CX⟩)
   |none=>
    refine lf<|wpAny_pyNext_list_end hh q2 (cB e') (by
     have:=V'.length
     have hk:l'.length≤k:=List.getElem?_eq_none_iff.mp hq
     simp;lia) fun h' Ot=>kn hq h' nk.toks fun b o hb e=>Ot b o hb e
 ·rw [hb];exact⟨hK,_,gp _ rfl⟩
 ·exact⟨a,ha,_,gp _ rfl,rfl,rfl⟩
end
theorem FV:iB C:=by
 intro src rv s J M st A S V ⟨r0,e0⟩;cases src with
 |t l=>exact CF V
 |bytes l=>exact vL V
 |str l=>exact CG V
 |dW l=>cases l with
  |nil=>exact CI V
  |cons=>exact no e0
 |xv a b=>exact CH (cC (show(JQ a b 0).leaf C.ν=some r0 from e0)).1 V
 |ref i=>
  refine aC (cJ (show(kj s (.ref i) fun l=>aH.ok l[0]?).leaf C.ν=some r0 from e0):) fun l el Y=>?_
  exact zy S el V
 |_=>exact no e0
end
end
end Mine.Internal
namespace MineB.Internal
open PySem PySem.W PySem.Calls PyProof.Rows Builtin
open PySem.W.KBw
noncomputable section
namespace KBw
section
variable{prog:Program}{w:World}{A:Around}{E:Value→Shared→Prop}{s:Shared}{b:Array UInt8}{t:Tok}
theorem tu{it:Addr}{i:Nat}{c:UInt8}{Q:Value→Shared→Prop}(hit:IsBytesIter s.heap it b t i)(hx:b[i]?=some c)
  (hQ:∀h',IsBytesIter h' it b t (i+1)→Heap.SameBut it s.heap h'→Q (.int (c.toNat:Int) s.toks) {s with heap:=h',toks:=s.toks+1}):wpAny (model prog w) A (Builtin.SmallTypes.nextOf (.ref it)) Q E s:=by
 obtain⟨o,ho,hc,hd⟩:=id hit
 unfold Builtin.SmallTypes.nextOf;refine wpAny_bind (wpAny_callSpecial?_slot (name:=PySem.Str.ofString "__next__") (iter_typeIs hit) slot_next
  (wpAny_call_entry slot_next (iter_typeIs hit) entry_next ?_ (args_next _)))
 show wpAny _ _ (field (.ref it) 0>>=_) _ _ s;refine wpAny_bind (wpAny_field ho hd (x:=.bytes b t) rfl ?_)
 show wpAny _ _ (if(Value.bytes b t==Value.none)=true then _ else _) _ _ s;rw [if_neg (show¬((Value.bytes b t==Value.none)=true)from Bool.false_ne_true)]
 show wpAny _ _ (field (.ref it) 1>>=_) _ _ s;refine wpAny_bind (wpAny_field ho hd (x:=.int i 0) rfl ?_)
 refine wpAny_bind (wpAny_of_eq (a:=b) rfl ?_)
 simp only[Int.toNat_natCast,hx]
 refine wpAny_bind (wpAny_setField ho hd (by simp) (wpAny_bind (wpAny_mkInt (wpAny_pure ⟨_,rfl,wpAny_pure (hQ _ ?_ (Heap.SameBut.update ..))⟩))))
 exact⟨_,Heap.get?_update_self _ ho (Obj.isFreed_of_fields (Obj.data_mapFields hd _)),(Obj.cls_mapFields ..).trans hc,by
  rw [Obj.data_mapFields hd];simp[rawInt]⟩
theorem vt{it:Addr}{i:Nat}{Q:Value→Shared→Prop}(hh:A.handled=none)(hit:IsBytesIter s.heap it b t i)(hx:b[i]?=none)
  (hE:∀h' e,Heap.ExtBut it s.heap h'→(∃o,h'.get? e=some o∧o.cls=.type "StopIteration")→E (.ref e) {s with heap:=h'}):wpAny (model prog w) A (Builtin.SmallTypes.nextOf (.ref it)) Q E s:=by
 obtain⟨o,ho,hc,hd⟩:=id hit
 unfold Builtin.SmallTypes.nextOf;refine wpAny_bind (wpAny_callSpecial?_slot (name:=PySem.Str.ofString "__next__") (iter_typeIs hit) slot_next
  (wpAny_call_entry slot_next (iter_typeIs hit) entry_next ?_ (args_next _)))
 show wpAny _ _ (field (.ref it) 0>>=_) _ _ s;refine wpAny_bind (wpAny_field ho hd (x:=.bytes b t) rfl ?_)
 show wpAny _ _ (if(Value.bytes b t==Value.none)=true then _ else _) _ _ s;rw [if_neg (show¬((Value.bytes b t==Value.none)=true)from Bool.false_ne_true)]
 show wpAny _ _ (field (.ref it) 1>>=_) _ _ s;refine wpAny_bind (wpAny_field ho hd (x:=.int i 0) rfl ?_)
 refine wpAny_bind (wpAny_of_eq (a:=b) rfl ?_)
 simp only[Int.toNat_natCast,hx]
 refine wpAny_bind (wpAny_rule (wpAny_bind (wpAny_setField ho hd (by simp) ?_)))
 show wpAny _ _ (newExc (.type "StopIteration") []>>=_) _ _ _;refine wpAny_bind ?_;simp only[newExc,newTuple];refine wpAny_bind (wpAny_newObj_type ?_ (by size_fits))
 refine wpAny_bind (m:=firstArgMember _ _) (wpAny_of_eq (a:=Value.none) (by first|rfl|(simp only[firstArgMember];rfl)) ?_)
 refine wpAny_newObj_type ?_ (by size_fits)
 unfold raiseNew;refine wpAny_bind (wpAny_handled ?_);rw [show A.in1.handled=none from hh]
 refine wpAny_bind (wpAny_pure (wpAny_throw ?_))
 exact hE _ _ (((Heap.SameBut.update ..).extBut.push _).push _) ⟨_,Heap.get?_push_size _ rfl,rfl⟩
end
theorem draws{prog:Program}{w:World}{A:Around}(hh:A.handled=none)(it:Addr)(b:Array UInt8)(t:Tok):
  Draws prog w A it [it] b.size (fun i v=>∃c u,b[i]?=some c∧v=.int (c.toNat:Int) u) (fun i h=>IsBytesIter h it b t i)where
 live:=fun Y Y st=>let⟨o,ho,_⟩:=st;⟨o,ho⟩
 frame:=fun Y Y Y st hk=>let⟨o,ho,r⟩:=st;⟨o,hk it (by simp) o ho,r⟩
 item:=fun i s Q E hi st hQ=>by
  refine tu st (c:=b[i]) (by simp[hi]) fun h' CX pY=>?_
  exact hQ _ h' (s.toks+1) ⟨_,_,by simp[hi],rfl⟩ CX pY
 done:=fun s Q E st hE=>vt hh st (by simp) hE
theorem jg(x:Array UInt8)(t:Tok):
  Meets (Builtin.«enumerate.__new__» ⟨[.type "enumerate",.bytes x t],[]⟩) (fun Y R s=>
   R (.ok (.ret (.ref (s.heap.push {cls:=.type "bytes_iterator",data:=.fields #[.bytes x t,.int 0 0]}).objs.size)))
    {s with heap:=(s.heap.push {cls:=.type "bytes_iterator",data:=.fields #[.bytes x t,.int 0 0]}).push {cls:=.type "enumerate",data:=.fields #[.none,.bool false,.ref s.heap.objs.size,rawInt 0,.none,.none]}}):=
 .of_wp fun prog w A R s h=>by
  obtain⟨hp,g,d,tk,os⟩:=s
  have hsub:=sub_enumerate
  wp_walk
  refine wpAny_stack_any fun st=>wpAny_pure ?_
  refine wpAny_ite_split (fun Y=>?_) fun Y=>?_
  ·wp_walk using pyIter_bytes
   exact⟨_,rfl,h⟩
  ·wp_walk using pyIter_bytes
   exact⟨_,rfl,h⟩
theorem js{prog:Program}{w:World}{A:Around}{E:Value→Shared→Prop}{s:Shared}{x:Array UInt8}{t:Tok}{Q:Value→Shared→Prop}
  (h:∀h',IsEnum h' (s.heap.objs.size+1) s.heap.objs.size 0 .none→IsBytesIter h' s.heap.objs.size x t 0→
   (∀b o,s.heap.get? b=some o→h'.get? b=some o)→Q (.ref (s.heap.objs.size+1)) {s with heap:=h'}):
  wpAny (model prog w) A (call (.type "enumerate") [.bytes x t]) Q E s:=by
 refine callType_new F.called_enumerate (by decide) (F.typeCall_enumerate_1 _) (F.newCall_enumerate_1 _) (fun obj=>F.args_object_init_2 obj _) F.entry_enumerate_new
  (jg x t) ?_
 have hz:(s.heap.push {cls:=.type "bytes_iterator",data:=.fields #[.bytes x t,.int 0 0]}).objs.size=s.heap.objs.size+1:=Heap.size_push ..
 show _∧_;rw [hz];have he:IsEnum ((s.heap.push {cls:=.type "bytes_iterator",data:=.fields #[.bytes x t,.int 0 0]}).push
   {cls:=.type "enumerate",data:=.fields #[.none,.bool false,.ref s.heap.objs.size,rawInt 0,.none,.none]}) (s.heap.objs.size+1) s.heap.objs.size 0 .none:=by
  have:=Heap.get?_push_size (s.heap.push {cls:=.type "bytes_iterator",data:=.fields #[.bytes x t,.int 0 0]})
   (o:={cls:=.type "enumerate",data:=.fields #[.none,.bool false,.ref s.heap.objs.size,rawInt 0,.none,.none]}) rfl
  rw [hz]at this;exact this
 refine⟨⟨_,he,rfl⟩,h _ he ⟨_,Heap.get?_push_of_some _ (Heap.get?_push_size _ rfl),rfl,rfl⟩ fun b o y=>Heap.get?_push_of_some _ (Heap.get?_push_of_some _ y)⟩
end KBw
end
end MineB.Internal
namespace Mine.Internal
open PySem PySem.W PyProof.Rows PySem.SeqAt
noncomputable section
variable{i:Nat}
section
variable{C:Cx}{s s':AS}{v w:AV}{Z:Addr→Prop}{J σ':List Addr}{M M':Addr→Prop}{A:Around}{st:Shared}{h h':Heap}
theorem eQ(h:Heap)(k:Nat):h.get? (h.objs.size+k)=none:=by
 cases q:h.get? (h.objs.size+k)with
 |none=>rfl
 |some o=>exact absurd (Heap.lt_size q) (Nat.not_lt_of_le (Nat.le_add_right _ _))
section
variable{rv:Value}
theorem zP(hh:A.handled=none){l:List AV}(S:aq C J M s st.heap)(el:s.get i=some (.list l))(V:ao C J M st.heap (.ref i) rv):Made C 1 (.ref i) s J M st A (call (.type "enumerate") [rv] []):=by
 intro Q E K;have d0:st.heap.get? st.heap.objs.size=none:=Heap.ba _
 have d1:st.heap.get? (st.heap.objs.size+1)=none:=eQ _ 1
 have hne:(st.heap.objs.size+1:Nat)≠st.heap.objs.size:=Nat.succ_ne_self _
 refine V.listE S el fun a vs n ha ea Va=>?_
 refine lf<|call_enumerate_list (cB ea) fun h₁ he hi Y hk=>?_
 refine K (st.heap.objs.size+1) (fun b=>b=st.heap.objs.size+1∨b=st.heap.objs.size) (fun J M k h=>∃ax old,J[i]?=some ax∧h.IsListIter st.heap.objs.size ax k∧IsEnum h (st.heap.objs.size+1) st.heap.objs.size k old) h₁ st.toks ?_ (.inl rfl) (fun b hb=>?_) hk fun aN h1 h2 aD=>⟨a,.none,ha,hi,he⟩
 ·refine⟨fun{Z J M h σ' M' h' k} hz G⟨ax,old,q1,⟨o,q2,q3⟩,q4⟩=>?_,fun{J M k A st Q E} hh⟨ax,old,q1,q2,q3⟩ q=>lf<|wpAny_pyIter_enum q3 q,fun{Z J M s nk k A E r Q} hh S hT⟨ax,old,q1,q2,q3⟩ er kn ks=>?_⟩
  ·obtain⟨l,rfl,_⟩:=G.pre
   refine⟨ax,old,?_,⟨o,G.di (hz _ (.inr rfl)) q2,q3⟩,G.di (hz _ (.inl rfl)) q4⟩
   rw [List.getElem?_append_left]
   ·exact q1
   ·exact(List.getElem?_eq_some_iff.mp q1).1
  ·refine aC (cJ (show(kj s (.ref i) fun l=>aH.ok (l[k]?.map fun v=>AV.t [.int (.c k),v])).leaf C.ν=some r from er):) fun l' SJ er=>?_
   injection er with er;subst er;exact d9 (S.obj i _ ax SJ q1).listI fun uS n' e' V'=>by
    have hax:ax≠st.heap.objs.size:=fun q=>(hT _ (.inr rfl)).2.2.1 (q▸al_mem q1)
    have WB:ax≠st.heap.objs.size+1:=fun q=>(hT _ (.inl rfl)).2.2.1 (q▸al_mem q1)
    cases hq:l'[k]? with
    |some x=>
     refine aC (V'.get hq:) fun y hy Vy=>?_
     refine lf<|wpAny_pyNext_enum_item q3 q2 (cB e') (x:=y) (by simpa using hy) hne fun h' hO hI R9 Y pY=>?_
     obtain⟨S',G⟩:=S.lX (Z:=Z) hT (fun b o hb e=>pY b o (fun q=>hb (.inl q)) (fun q=>hb (.inr q)) e) (fun b hb=>by
      rcases hb with rfl|rfl
      ·exact⟨_,hO⟩
      ·refine aC (hI:) fun o e Y=>?_;exact⟨o,e⟩)
     have Sa:nk.heap.get? nk.heap.objs.size=none:=Heap.ba _
     refine ks _ (by rw [hq];rfl) h' _ (.ref nk.heap.objs.size) G S' (.t _ _ [.int k nk.toks,y] _ (S.nH Sa) R9 (.cons (.int _ _ _ rfl) (.cons (Vy.grow G) .nil))) fun target A Q E ht K=>?_
     obtain⟨xs,kk,pos,rfl⟩:=ht.resolve_left (by decide)
     refine lf<|wpAny_letOwnedTupleGo_enum (s:={nk with heap:=h',toks:=nk.toks+1}) hO fun bl tS iG=>?_
     obtain⟨uJ,P6⟩:=S'.lX (Z:=Z) hT (fun b o hb e=>iG.extBut b o (fun q=>hb (.inl q)) e) (fun b hb=>by
      rcases hb with rfl|rfl
      ·exact⟨_,tS⟩
      ·refine aC (hI.extBut iG.extBut hne.symm:) fun o e Y=>?_;exact⟨o,e⟩)
     refine K bl P6 uJ ⟨ax,y,q1,hI.extBut iG.extBut hne.symm,?_⟩
     have:((k:Int)+1)=((k+1:Nat):Int):=by lia
     rw [←this];exact tS
    |none=>
     refine lf<|wpAny_pyNext_enum_end hh q3 q2 (cB e') (by
      have:=V'.length
      have hk:l'.length≤k:=List.getElem?_eq_none_iff.mp hq
      simp;lia) fun h' Ot=>kn (by rw [hq];rfl) h' nk.toks fun b o hb e=>Ot b o (fun q=>hb (.inr q)) e
 ·rcases hb with rfl|rfl
  ·exact⟨d1,_,he⟩
  ·refine aC (hi:) fun o e Y=>?_;exact⟨d0,o,e⟩
theorem wi(hh:A.handled=none){l:List IE}(V:ao C J M st.heap (.bytes l) rv):Made C 1 (.bytes l) s J M st A (call (.type "enumerate") [rv] []):=by
 intro Q E K;have d0:st.heap.get? st.heap.objs.size=none:=Heap.ba _
 have d1:st.heap.get? (st.heap.objs.size+1)=none:=eQ _ 1
 have hne:(st.heap.objs.size+1:Nat)≠st.heap.objs.size:=Nat.succ_ne_self _
 refine V.dY fun hb t=>?_
 refine lf<|MineB.Internal.KBw.js fun h₁ he hi hk=>?_
 refine K (st.heap.objs.size+1) (fun b=>b=st.heap.objs.size+1∨b=st.heap.objs.size) (fun J M k h=>∃old,KBw.IsBytesIter h st.heap.objs.size (aQ C.ν l) t k∧k≤(aQ C.ν l).size∧IsEnum h (st.heap.objs.size+1) st.heap.objs.size k old) h₁ st.toks ?_ (.inl rfl) (fun b hb=>?_) hk fun aN h1 h2 aD=>⟨.none,hi,Nat.zero_le _,he⟩
 ·refine⟨fun{Z J M h σ' M' h' k} hz G⟨old,⟨o,q2,q3⟩,q5,q4⟩=>?_,fun{J M k A st Q E} hh⟨old,q2,q5,q3⟩ q=>lf<|wpAny_pyIter_enum q3 q,fun{Z J M s nk k A E r Q} hh S hT⟨old,q2,q5,q3⟩ er kn ks=>?_⟩
  ·exact⟨old,⟨o,G.di (hz _ (.inr rfl)) q2,q3⟩,q5,G.di (hz _ (.inl rfl)) q4⟩
  ·injection er with er;subst er
   have D:=MineB.Internal.KBw.draws (prog:=C.prog) (w:=C.w) (A:=A.in1) hh st.heap.objs.size (aQ C.ν l) t
   rcases Nat.lt_or_ge k (aQ C.ν l).size with hk|hk
   ·refine lf<|wpAny_pyNext_enum_itemD D q3 q2 hk hne (by simp[hne]) fun x h' tk hP hO hI R9 Y pY=>?_
    obtain⟨c,u,q1,rfl⟩:=hP
    have hq:(l.map (cj C.ν))[k]?=some c:=by
     have:(aQ C.ν l)[k]?=some c:=q1
     unfold aQ at this
     simpa using this
    rw [List.getElem?_map]at hq;refine aC (Option.map_eq_some_iff.mp hq:) fun x e2 e3=>?_
    have hx:=hb x (al_mem e2)
    obtain⟨S',G⟩:=S.lX (Z:=Z) hT (fun b o hb e=>pY b o (fun q=>hb (.inl q)) (fun q=>hb (.inr q)) e) (fun b hb=>by
     rcases hb with rfl|rfl
     ·exact⟨_,hO⟩
     ·refine aC (hI:) fun o e Y=>?_;exact⟨o,e⟩)
    have Sa:nk.heap.get? nk.heap.objs.size=none:=Heap.ba _
    refine ks _ (by rw [e2];rfl) h' _ (.ref nk.heap.objs.size) G S' (.t _ _ [.int k tk,.int (c.toNat:Int) u] _ (S.nH Sa) R9 (.cons (.int _ _ _ rfl) (.cons (.int x _ u (Bj c x C.ν hx.1 hx.2 e3).symm) .nil))) fun target A Q E ht K=>?_
    obtain⟨xs,kk,pos,rfl⟩:=ht.resolve_left (by decide)
    refine lf<|wpAny_letOwnedTupleGo_enum (s:={nk with heap:=h',toks:=tk+1}) hO fun bl tS iG=>?_
    have IC:KBw.IsBytesIter bl st.heap.objs.size (aQ C.ν l) t (k+1):=by
     refine aC (hI:) fun o e r=>?_
     exact⟨o,iG.extBut _ _ hne.symm e,r⟩
    obtain⟨uJ,P6⟩:=S'.lX (Z:=Z) hT (fun b o hb e=>iG.extBut b o (fun q=>hb (.inl q)) e) (fun b hb=>by
     rcases hb with rfl|rfl
     ·exact⟨_,tS⟩
     ·refine aC (IC:) fun o e Y=>?_;exact⟨o,e⟩)
    refine K bl P6 uJ ⟨.int (c.toNat:Int) u,IC,hk,?_⟩
    have:((k:Int)+1)=((k+1:Nat):Int):=by lia
    rw [←this];exact tS
   ·have:k=(aQ C.ν l).size:=by lia
    subst this;refine lf<|wpAny_pyNext_enum_endD D q3 q2 fun h' Ot=>kn (by rw [cw];simp) h' nk.toks fun b o hb e=>Ot b o (fun q=>hb (.inr q)) e
 ·rcases hb with rfl|rfl
  ·exact⟨d1,_,he⟩
  ·refine aC (hi:) fun o e Y=>?_;exact⟨d0,o,e⟩
end
theorem Gw:mQ C:=by
 intro src rv s J M st A hh _ S V ⟨r0,e0⟩;cases src with
 |bytes l=>exact wi hh V
 |ref i=>
  refine aC (cJ (show(kj s (.ref i) fun l=>aH.ok (l[0]?.map fun v=>AV.t [.int (.c 0),v])).leaf C.ν=some r0 from e0):) fun l el Y=>?_
  exact zP hh S el V
 |_=>exact no e0
end
section
variable{C:Cx}{s s':AS}{v w:AV}{Z:Addr→Prop}{J σ':List Addr}{M M':Addr→Prop}{A:Around}{st:Shared}{h h':Heap}
theorem jO{n j:Nat}(h:i≠j):n+i≠n+j:=fun q=>h (Nat.add_left_cancel q)
def ZW(w:Value)(n:Nat)(i j:Nat)(J:List Addr)(k:Nat)(h:Heap):Prop:=∃a b x y,J[i]?=some a∧J[j]?=some b∧IsZip h (n+4) (n+2) (n+3) w∧IsPair h (n+2) (.ref n) (.ref (n+1))∧IsPair h (n+3) x y∧h.IsListIter n a k∧h.IsListIter (n+1) b k
abbrev Mm:=ZW .none
theorem pX{n:Addr}{l:Addr}{k:Nat}(I:h.IsListIter n l k)(hk:∀o,h.get? n=some o→h'.get? n=some o):h'.IsListIter n l k:=let⟨o,e,r⟩:=I;⟨o,hk o e,r⟩
def ZT(n c:Addr):Prop:=c=n+4∨c=n+2∨c=n+3∨c=n∨c=n+1
theorem ZT.all{n:Addr}{P:Addr→Prop}(h1:P (n+4))(h2:P (n+2))(h3:P (n+3))(h4:P n)(h5:P (n+1)):∀c,ZT n c→P c:=fun c hc=>by
 rcases hc with rfl|rfl|rfl|rfl|rfl<;>assumption
theorem ZW.live{w:Value}{n j:Nat}{k:Nat}(H:ZW w n i j J k h):∀c,ZT n c→∃o,h.get? c=some o:=by
 obtain⟨a,b,x,y,_,_,q1,q2,q3,⟨o4,q4,_⟩,⟨o5,q5,_⟩⟩:=H
 exact ZT.all ⟨_,q1⟩ ⟨_,q2⟩ ⟨_,q3⟩ ⟨_,q4⟩ ⟨_,q5⟩
theorem w8{n a b:Addr}(na:¬ZT n a)(nb:¬ZT n b):ZipApart (n+4) (n+2) (n+3) n (n+1) a b:=
 ⟨jO (by decide),jO (by decide),jO (i:=0) (by decide),jO (by decide),jO (by decide),jO (j:=0) (by decide),jO (by decide),jO (j:=0) (by decide),jO (by decide),jO (i:=0) (by decide),
  fun q=>na (.inl q),fun q=>na (.inr (.inr (.inl q))),fun q=>na (.inr (.inr (.inr (.inl q)))),fun q=>na (.inr (.inr (.inr (.inr q)))),
  fun q=>nb (.inl q),fun q=>nb (.inr (.inr (.inl q))),fun q=>nb (.inr (.inr (.inr (.inl q)))),fun q=>nb (.inr (.inr (.inr (.inr q))))⟩
theorem ZW.keep{w:Value}{n j:Nat}{k:Nat}(hz:∀a,ZT n a→Z a)(G:aJ Z J M h σ' M' h')(H:ZW w n i j J k h):ZW w n i j σ' k h':=by
 refine Rm (H:) fun a b x y qa qb q1 q2 q3 q4 q5=>?_
 obtain⟨l,rfl,_⟩:=G.pre
 have ap:∀{i:Nat}{a:Addr},J[i]?=some a→(J++l)[i]?=some a:=fun{i a} q=>by
  rw [List.getElem?_append_left]
  ·exact q
  ·exact(List.getElem?_eq_some_iff.mp q).1
 exact⟨a,b,x,y,ap qa,ap qb,G.di (hz _ (.inl rfl)) q1,G.di (hz _ (.inr (.inl rfl))) q2,G.di (hz _ (.inr (.inr (.inl rfl)))) q3,
  pX q4 fun o e=>G.di (hz _ (.inr (.inr (.inr (.inl rfl))))) e,pX q5 fun o e=>G.di (hz _ (.inr (.inr (.inr (.inr rfl))))) e⟩
section
variable{E:Value→Shared→Prop}{Q:Option Value→Shared→Prop}{n:Addr}{j k:Nat}{l m:List AV}
theorem AU(S:aq C J M s st.heap)(hT:∀a,ZT n a→M a∧¬Z a∧a∉J∧∀p∈C.tabs,a≠p.2)(H:Mm n i j J k st.heap)(el:s.get i=some (.list l))(em:s.get j=some (.list m)){x y:AV}(ex:l[k]?=some x)(ey:m[k]?=some y)
  (ks:∀h' tk rv,aJ Z J M st.heap J M h'→aq C J M s h'→ao C J M h' (.t [x,y]) rv→
   (∀(target:Expr)(A:Around)(Q:Unit→Shared→Prop)(E:Value→Shared→Prop),(2=0∨∃xs k pos,target=.Tuple xs k pos)→(∀pZ,aJ Z J M h' J M pZ→aq C J M s pZ→Mm n i j J (k+1) pZ→Q () {st with heap:=pZ,toks:=tk})→ab (Md C) A (letOwnedTupleGo target (.ref (n+4)) rv) Q E {st with heap:=h',toks:=tk})→
   Q (some rv) {st with heap:=h',toks:=tk}):ab (Md C) A (pyNext (.ref (n+4))) Q E st:=by
 refine Rm (H:) fun a b u v qa qb q1 q2 q3 q4 q5=>?_
 have D:=w8 (fun q=>(hT _ q).2.2.1 (al_mem qa)) fun q=>(hT _ q).2.2.1 (al_mem qb)
 exact d9 (S.obj i _ a el qa).listI fun TJ n1 e1 W1=>d9 (S.obj j _ b em qb).listI fun TH n2 e2 W2=>by
   refine aC (W1.get ex:) fun p hp Vp=>?_
   refine aC (W2.get ey:) fun q hq Vq=>?_
   refine lf<|wpAny_pyNext_zip_item D q1 q2 q3 q4 q5 (cB e1) (cB e2) (x:=p) (y:=q) (by simpa using hp) (by simpa using hq) fun h' a1 a2 a3 a4 a5 Y pY=>?_
   have k2:IsPair h' (n+2) (.ref n) (.ref (n+1)):=pY _ _ D.TIz D.TITO D.TIi1 D.TIi2 q2
   have H':ZW _ n i j J (k+1) h':=⟨a,b,p,q,qa,qb,a1,k2,a2,a3,a4⟩
   refine aw (S.lX (Z:=Z) hT (fun c o hc e=>pY c o (fun q=>hc (.inl q)) (fun q=>hc (.inr (.inr (.inl q)))) (fun q=>hc (.inr (.inr (.inr (.inl q))))) (fun q=>hc (.inr (.inr (.inr (.inr q))))) e) H'.live:) fun S' G=>?_
   refine ks h' _ (.ref st.heap.objs.size) G S' (.t _ _ [p,q] _ (S.nH (Heap.ba _)) a5 (.cons (Vp.grow G) (.cons (Vq.grow G) .nil))) fun target A Q E ht K=>?_
   obtain⟨xs,kk,pos,rfl⟩:=ht.resolve_left (by decide)
   refine lf<|wpAny_letOwnedTupleGo_zip (s:={st with heap:=h',toks:=st.toks}) a1 fun bl Oi iG=>?_
   have P4:Mm n i j J (k+1) bl:=⟨a,b,p,q,qa,qb,Oi,iG.extBut _ _ D.TIz k2,iG.extBut _ _ D.TOz a2,a3.extBut iG.extBut D.i1z,a4.extBut iG.extBut D.i2z⟩
   refine aw (S'.lX (Z:=Z) hT (fun c o hc e=>iG.extBut c o (fun q=>hc (.inl q)) e) P4.live:) fun uJ P6=>?_
   exact K bl P6 uJ P4
theorem w9(hh:A.handled=none)(S:aq C J M s st.heap)(hT:∀a,ZT n a→M a∧¬Z a∧a∉J∧∀p∈C.tabs,a≠p.2)(H:Mm n i j J k st.heap)(el:s.get i=some (.list l))(em:s.get j=some (.list m))(hend:l[k]?=none∨m[k]?=none)
  (kn:∀h' tk,(∀b o,¬ZT n b→st.heap.get? b=some o→h'.get? b=some o)→Q none {st with heap:=h',toks:=tk}):ab (Md C) A (pyNext (.ref (n+4))) Q E st:=by
 refine Rm (H:) fun a b u v qa qb q1 q2 q3 q4 q5=>?_
 have D:=w8 (fun q=>(hT _ q).2.2.1 (al_mem qa)) fun q=>(hT _ q).2.2.1 (al_mem qb)
 exact d9 (S.obj i _ a el qa).listI fun TJ n1 e1 W1=>d9 (S.obj j _ b em qb).listI fun TH n2 e2 W2=>by
   have he:TJ.toArray[k]?=none∨TH.toArray[k]?=none:=hend.imp (fun c=>by
    have hk:=List.getElem?_eq_none_iff.mp c
    rw [W1.length]at hk
    simpa using hk) fun c=>by
    have hk:=List.getElem?_eq_none_iff.mp c
    rw [W2.length]at hk
    simpa using hk
   exact lf<|wpAny_pyNext_zip_end hh D q1 q2 q3 q4 q5 (cB e1) (cB e2) he fun h' Mi=>kn h' st.toks fun c o hc e=>Mi c o (fun q=>hc (.inl q)) (fun q=>hc (.inr (.inr (.inl q)))) (fun q=>hc (.inr (.inr (.inr (.inl q))))) (fun q=>hc (.inr (.inr (.inr (.inr q))))) e
end
theorem BB{j k:Nat}{ν:Nat→Int}{r:Option AV}(e:(iE s 2 (.t [.ref i,.ref j]) k).leaf ν=some r):∃l m,s.get i=some (.list l)∧s.get j=some (.list m)∧xG l[k]? m[k]?=r:=by
 refine aC (cJ (show(kj s (.ref i) fun l=>kj s (.ref j) fun m=>aH.ok (xG l[k]? m[k]?)).leaf ν=some r from e):) fun l el e=>?_
 refine aC (cJ e:) fun m em e=>?_
 injection e with e;subst e;exact⟨l,m,el,em,rfl⟩
theorem AR{j:Nat}(n:Addr):jw C 2 (.t [.ref i,.ref j]) (n+4) (ZT n) fun J Y k h=>Mm n i j J k h:=by
 refine⟨fun{Z J M h σ' M' h' k} hz G H=>H.keep hz G,fun{J M k A st Q E} hh⟨a,b,x,y,qa,qb,q1,_⟩ q=>lf<|wpAny_pyIter_zip q1 q,fun{Z J M s st k A E r Q} hh S hT H er kn ks=>?_⟩
 obtain⟨l,m,el,em,rfl⟩:=BB er
 cases c1:l[k]? with
 |none=>exact w9 hh S hT H el em (.inl c1) fun h' tk hk=>kn (by rw [c1];rfl) h' tk hk
 |some x=>cases c2:m[k]? with
  |none=>exact w9 hh S hT H el em (.inr c2) fun h' tk hk=>kn (by rw [c1,c2];rfl) h' tk hk
  |some y=>exact AU S hT H el em c1 c2 fun h' tk rv G S' V own=>ks _ (by rw [c1,c2];rfl) h' tk rv G S' V own
theorem AQ(hh:A.handled=none){j:Nat}{l m:List AV}{r1 r2:Value}(S:aq C J M s st.heap)(el:s.get i=some (.list l))(em:s.get j=some (.list m))(V1:ao C J M st.heap (.ref i) r1)(V2:ao C J M st.heap (.ref j) r2):Made C 2 (.t [.ref i,.ref j]) s J M st A (call (.type "zip") [r1,r2] []):=by
 intro Q E K;obtain⟨a,vs,na,rfl,ha,ea,Va⟩:=V1.nN S el
 obtain⟨b,ws,nb,rfl,hb,eb,Vb⟩:=V2.nN S em
 refine lf<|call_zip_2 (cB ea) (cB eb) fun h₁ z1 z2 z3 z4 z5 Y hk=>?_
 have H:Mm st.heap.objs.size i j J 0 h₁:=⟨a,b,.none,.none,ha,hb,z1,z2,z3,z4,z5⟩
 exact K _ (ZT st.heap.objs.size) _ h₁ st.toks (AR st.heap.objs.size) (.inl rfl) (fun c hc=>⟨ZT.all (P:=fun c=>st.heap.get? c=none) (eQ _ 4) (eQ _ 2) (eQ _ 3) (eQ _ 0) (eQ _ 1) c hc,H.live c hc⟩) hk fun Y Y Y Y=>H
theorem Jn:rO C:=by
 intro u1 u2 r1 r2 s J M st A hh _ S V1 V2 ⟨r0,e0⟩;obtain⟨i,l,rfl,el,e⟩:=eF (show(kj s u1 fun l=>kj s u2 fun m=>aH.ok (xG l[0]? m[0]?)).leaf C.ν=some r0 from e0)
 obtain⟨j,m,rfl,em,_⟩:=eF e
 exact AQ hh S el em V1 V2
end
end
end Mine.Internal
namespace MineB.Internal
open PySem PySem.W PySem.Calls PyProof.Rows Builtin
open PySem.W.KBw
noncomputable section
namespace KBa
theorem y7:Slot "bytearray" "__init__" "bytearray.__init__":=
 .of (owner:="bytearray") (n:="__init__") (by rw [typeLookup_type,builtinLookup_eq_fast];kernel_rfl) (by decide+kernel) (by decide+kernel) (by decide+kernel)
  (by first|exact .inl (by decide+kernel)|exact .inr (by decide+kernel)) (by rw [isSubtype_type];kernel_rfl)
theorem kI:Slot "bytearray" "__getitem__" "bytearray.__getitem__":=
 .of (owner:="bytearray") (n:="__getitem__") (by rw [typeLookup_type,builtinLookup_eq_fast];kernel_rfl) (by decide+kernel) (by decide+kernel) (by decide+kernel)
  (by first|exact .inl (by decide+kernel)|exact .inr (by decide+kernel)) (by rw [isSubtype_type];kernel_rfl)
theorem kH:Slot "bytearray" "__setitem__" "bytearray.__setitem__":=
 .of (owner:="bytearray") (n:="__setitem__") (by rw [typeLookup_type,builtinLookup_eq_fast];kernel_rfl) (by decide+kernel) (by decide+kernel) (by decide+kernel)
  (by first|exact .inl (by decide+kernel)|exact .inr (by decide+kernel)) (by rw [isSubtype_type];kernel_rfl)
theorem pL:Slot "bytearray" "__len__" "bytearray.__len__":=
 .of (owner:="bytearray") (n:="__len__") (by rw [typeLookup_type,builtinLookup_eq_fast];kernel_rfl) (by decide+kernel) (by decide+kernel) (by decide+kernel)
  (by first|exact .inl (by decide+kernel)|exact .inr (by decide+kernel)) (by rw [isSubtype_type];kernel_rfl)
theorem mro:mroOf (.type "bytearray")=pure [.type "bytearray",.type "object"]:=by rw [mroOf_type];kernel_rfl
theorem vD:typeLookup (.type "bytearray") "__new__"=pure (some (.builtin "bytearray.__new__")):=by rw [typeLookup_type,builtinLookup_eq_fast];kernel_rfl
theorem called:TypeCalled "bytearray" "bytearray.__new__" "bytearray.__init__":=
 ⟨by decide+kernel,by decide+kernel,⟨_,_,mro⟩,madeBy_type mro vD (by decide+kernel),by decide+kernel,by rw [isSubtype_type];kernel_rfl,y7⟩
theorem vc(a:Value):checkTypeCall "bytearray" ⟨[a],[]⟩=pure ():=by kernel_rfl
theorem zi(a:Value):checkBuiltinCall "bytearray.__new__" ⟨[.type "bytearray",a],[]⟩=pure ():=by kernel_rfl
theorem zQ:entryFor table "bytearray.__new__"=some Builtin.«list.__new__»:=entryFor_alias (id':="list.__new__") (by kernel_rfl) (by first|rfl|decide+kernel|(unfold String.splitOn;simp+decide [String.splitOnAux])) (by decide+kernel) (by kernel_rfl)
theorem wk:entryFor table "bytearray.__init__"=some Builtin.«bytearray.__init__»:=entryFor_of_tree (by kernel_rfl)
theorem pg:entryFor table "bytearray.__getitem__"=some Builtin.«bytearray.__getitem__»:=entryFor_of_tree (by kernel_rfl)
theorem pf:entryFor table "bytearray.__setitem__"=some Builtin.«bytearray.__setitem__»:=entryFor_of_tree (by kernel_rfl)
theorem wm:entryFor table "bytearray.__len__"=some Builtin.«bytearray.__len__»:=entryFor_of_tree (by kernel_rfl)
theorem pO:plainId "bytearray.__new__"=true:=by decide+kernel
theorem Ap(a b:Value):argsOk "bytearray.__init__" ⟨[a,b],[]⟩:=by unfold argsOk;kernel_rfl
theorem rN(a b:Value):argsOk "bytearray.__getitem__" ⟨[a,b],[]⟩:=by unfold argsOk;kernel_rfl
theorem rM(a b c:Value):argsOk "bytearray.__setitem__" ⟨[a,b,c],[]⟩:=by unfold argsOk;kernel_rfl
theorem Aq(a:Value):argsOk "bytearray.__len__" ⟨[a],[]⟩:=by unfold argsOk;kernel_rfl
theorem zd:("bytearray.__new__".splitOn ".__new__").headD ""="bytearray":=by simp+decide [String.splitOn,String.splitOnAux]
theorem sub_self:isSubtype (.type "bytearray") (.type "bytearray")=pure true:=by rw [isSubtype_type];kernel_rfl
section
variable{prog:Program}{w:World}{A:Around}{E:Value→Shared→Prop}{s:Shared}
theorem DF(a:Value){Q₁:Value→Shared→Prop}
  (h:Q₁ (.ref s.heap.objs.size) {s with heap:=s.heap.push {cls:=.type "bytearray",data:=.bytearray #[]}}):
  codeAny (model prog w) A (.call (.builtin "bytearray.__new__") ⟨[.type "bytearray",a],[]⟩) (wants Q₁ E) s:=by
 refine codeAny_of_tree ?_
 show wpAny _ A.in1 (do checkBuiltinCall "bytearray.__new__" ⟨[.type "bytearray",a],[]⟩;again (.builtin "bytearray.__new__" ⟨[.type "bytearray",a],[]⟩)) _ _ s;refine wpAny_bind (wpAny_of_eq (zi a) (wpAny_pure ⟨plainId_quiet pO _,codeAny_builtin_stack zQ rfl fun p st=>?_⟩))
 rw [Around.under_plainId pO _];have hsub:=sub_self
 have hown:=zd
 obtain⟨hp,g,d,tk,os⟩:=s
 simp only[hown]
 wp_walk
 exact h
end
end KBa
end
end MineB.Internal
namespace Mine.Internal
open PySem PySem.W PyProof.Rows PySem.SeqAt
noncomputable section
section
variable{C:Cx}{P:Pg}{N:oO}{ih:Ih}{d:Nat}{ρ:Env}{s s':AS}{v w:AV}{kd:Kd}{Z:Addr→Prop}{J:List Addr}{M:Addr→Prop}{env:PySem.Env}{A:Around}{st:Shared}{ex:Expr}{Q:Value→Shared→Prop}{E:Value→Shared→Prop}
def rW(C:Cx):Prop:=∀(A:Around)(st:Shared)(E:Value→Shared→Prop)(a:Addr)(b:Array UInt8)(Q:Value→Shared→Prop),st.heap.get? a=some (cR b)→b.size≤100000→
 (∀tk t,Q (.int b.size t) {st with toks:=tk})→ab (Md C) A (call (.builtin "len") [.ref a] []) Q E st
def lV(C:Cx):Prop:=∀(A:Around)(st:Shared)(E:Value→Shared→Prop)(a:Addr)(b:Array UInt8)(Q:Value→Shared→Prop),st.heap.get? a=some (cR b)→b.size≤100000→
 (∀tk t,Q (.bytes b t) {st with toks:=tk})→ab (Md C) A (call (.type "bytes") [.ref a] []) Q E st
def rV(C:Cx):Prop:=∀(A:Around)(st:Shared)(E:Value→Shared→Prop)(b:Array UInt8)(t:Tok)(Q:Value→Shared→Prop),b.size≤100000→
 (∀tk h',(∀c o,st.heap.get? c=some o→h'.get? c=some o)→h'.get? st.heap.objs.size=some (cR b)→Q (.ref st.heap.objs.size) {st with heap:=h',toks:=tk})→ab (Md C) A (call (.type "bytearray") [.bytes b t] []) Q E st
theorem fU(ν:Nat→Int)(l:List IE):(aQ ν l).size=l.length:=by unfold aQ;simp
theorem x6{h:Heap}{l:List AV}{es:List IE}{vs:List Value}(e:allOf intOf l=some es)(R:ay C J M h l vs):∃m:List (Int×Tok),vs=m.map (fun p=>Value.int p.1 p.2)∧m.map (·.1)=es.map (fun e=>e.eval C.ν):=
 lu (lP (γ:=Int×Tok) (fun p=>.int p.1 p.2) (fun x c=>c.1=x.eval C.ν) (fun e V=>dm (zB e▸V:ao C J M h (.int _) _).inv fun t q=>⟨(_,t),q,rfl⟩) e R) fun m h1 h2 h3=>
  ⟨m.map (·.2),h2.trans (by rw [List.map_map];rfl),by rw [h1,List.map_map,List.map_map];exact List.map_congr_left h3⟩
theorem yY{ν:Nat→Int}(es:List IE):∀a:IE,(ET a es).eval ν=a.eval ν+(es.map fun e=>e.eval ν).sum:=by
 induction es with
 |nil=>exact fun a=>(Int.add_zero _).symm
 |cons e es ih=>exact fun a=>by rw [ET,ih,kb,List.map_cons,List.sum_cons,Int.add_assoc]
theorem intsAre_map(m:List (Int×Tok)):IntsAre (m.map fun p=>Value.int p.1 p.2) (m.map (·.1)):=by
 induction m with
 |nil=>exact .nil
 |cons p m ih=>exact .cons _ _ ih
theorem Ab{ν:Nat→Int}{rg:Rg}(R:bX ν rg){e:IE}(h:wQ rg e=true):0≤e.eval ν∧e.eval ν<256:=by
 unfold wQ at h;cases q:fQ rg e with
 |none=>rw [q]at h;exact nomatch h
 |some p=>
  rw [q]at h;exact⟨Int.le_trans (bE.mp (ae h).1) (xU R q).1,Int.lt_of_le_of_lt (xU R q).2 (bp.mp (ae h).2)⟩
theorem rq{b:Array UInt8}{t:Tok}(h:Q (.bool false) {st with toks:=st.toks+1}):PySem.wpAny (Md C) A (call (.builtin "isinstance") [.bytes b t,.type "tuple"]) Q E st:=by
 refine PySem.call_isinstance (S:=fun Y R s=>R (.ok (.ret (.bool false))) {s with toks:=s.toks+1}) (fun Y Y Y Y s hs=>?_) h
 obtain⟨hp,g,d,t',os⟩:=s
 exact isinstance_outer (isinstance_nested_false_bytes (by decide+kernel) F.isi_meta_tuple (by rw [isSubtype_type];kernel_rfl) hs)
theorem qP{a:Addr}{n:Nat}(hh:A.handled=none)(hs:(a==sysModules)=false)(ea:st.heap.get? a=some (bG [] n))
  (h:∀h' tk D c,(∀b o,st.heap.get? b=some o→h'.get? b=some o)→st.heap.get? D=none→h'.get? D=some (bS [] c)→Q (.ref D) {st with heap:=h',toks:=tk}):
  PySem.wpAny (Md C) A (call (.builtin "sorted") [.ref a]) Q E st:=by
 have hd:st.heap.DictAt (PySem.strKind C.prog C.w) a [] n:=⟨_,_,ea,⟨rfl,rfl,rfl⟩,rfl,fun e m=>by simp at m,.nil,by simp⟩
 refine Calls.call_function_entry kind_sorted plain_sorted entry_sorted (args_sorted1 _) ?_
 unfold Builtin.«sorted»;refine PySem.wpAny_bind (m:=checkCount "sorted" 1 1 _) (PySem.wpAny_pure ?_)
 refine PySem.wpAny_bind (kdu_collect (A:=A.in1) (kdl_dict (knd:=PySem.strKind C.prog C.w) (kvs:=[]) (ep:=n) hs) hh hd (Nat.zero_le _) fun h' tk acc hk hacc=>?_)
 have hl:acc=#[]:=Array.size_eq_zero_iff.mp hacc.1
 subst hl;refine PySem.wpAny_bind (wpAny_newList ?_ (Nat.zero_le _));have RZ:(h'.push {cls:=.type "list",data:=.seq ([]:List Value).toArray}).get? h'.objs.size=some (seqObj "list" ([]:List Value).toArray 0):=Heap.get?_push_size _ rfl
 refine PySem.wpAny_bind (PySem.wpAny_holding (PySem.wpAny_call_entry (s:={st with heap:=h'.push {cls:=.type "list",data:=.seq ([]:List Value).toArray},toks:=tk}) slot_list_sort ⟨_,RZ,rfl⟩ entry_list_sort (list_sort_tree RZ .nil (by decide) fun out VT a1 a2 a3=>⟨_,rfl,?_⟩) (args_list_sort _)))
 have hns:VT=[]:=a2.eq_nil
 subst hns;have ho:out.toList=[]:=List.eq_nil_of_length_eq_zero a1.length
 have ho:out=#[]:=by apply Array.toList_inj.mp;exact ho
 subst ho;refine PySem.wpAny_pure ⟨_,rfl,?_⟩;have hdead:st.heap.get? h'.objs.size=none:=by
  cases q:st.heap.get? h'.objs.size with
  |none=>rfl
  |some o=>exact(aM (hk _ _ q) (Heap.ba h')).elim
 have key:∀b o,b≠h'.objs.size→h'.get? b=some o→(sortedHeap (h'.push {cls:=.type "list",data:=.seq ([]:List Value).toArray}) h'.objs.size [] #[]).get? b=some o:=fun b o hb e=>by
  unfold sortedHeap;rw [Heap.get?_update_other _ _ (Ne.symm hb)];refine Heap.get?_push_of_some _ (Heap.get?_push_of_some _ ?_);rw [Heap.get?_update_other _ _ (Ne.symm hb)];exact Heap.get?_push_of_some _ e
 obtain⟨c,hc⟩:∃c,(sortedHeap (h'.push {cls:=.type "list",data:=.seq ([]:List Value).toArray}) h'.objs.size [] #[]).get? h'.objs.size=some (bS [] c):=by
  have Wn:=get?_update_seq RZ (fun Y=>#[])
  have Wm:=Heap.get?_push_of_some (seqObj "list" #[] 0) (Heap.get?_push_of_some (seqObj "tuple" ([]:List Value).toArray 0) Wn)
  exact⟨_,get?_update_seq Wm (fun Y=>#[])⟩
 exact h _ tk h'.objs.size c (fun b o e=>key b o (fun q=>aM (q▸e) hdead) (hk b o e)) hdead hc
end
section
variable{C:Cx}{P:Pg}{N:oO}{ih:Ih}{d:Nat}{ρ:Env}{s s':AS}{v w:AV}{kd:Kd}{Z:Addr→Prop}{J:List Addr}{M:Addr→Prop}{env:PySem.Env}{A:Around}{st:Shared}{ex:Expr}{Q:Value→Shared→Prop}{E:Value→Shared→Prop}
theorem wu:∀d:Nat,d<58→48≤d→PySem.intText? (aP [d])=some ((d - 48:Nat):Int):=by decide+kernel
theorem Uc{h:Heap}{a:Addr}{vs:List Value}{n:Nat}(e:h.get? a=some (fw vs n)):IsTup h a vs.toArray:=⟨_,e,rfl,n,rfl⟩
theorem ao.D0(S:aq C J M s st.heap){i:Nat}{l:List IE}{rv:Value}(V:ao C J M st.heap (.ref i) rv)(e:s.get i=some (.cb l)):∃a,rv=.ref a∧J[i]?=some a∧st.heap.get? a=some (cR (aQ C.ν l))∧bk C.ν l:=by
 obtain⟨a,rfl,ha⟩:=V.inv
 exact⟨a,rfl,ha,(S.obj i _ a e ha).jt⟩
def Jf(C:Cx)(k:Nat)(f:List AV→AS→RV):Prop:=∀as s v s',(f as s).leaf C.ν=some (v,s')→∀Z J M A st ras,aq C J M s st.heap→bz A 0→bZ C Z J st.heap→ay C J M st.heap as ras→∀Q E,KV C Z J M st v s' Q→ab (Md C) A (call (uV k) ras []) Q E st
def yH(C:Cx)(k:Nat)(g:AV→AS→RV):Prop:=∀a s v s',(g a s).leaf C.ν=some (v,s')→∀Z J M A st ra,aq C J M s st.heap→bz A 0→ao C J M st.heap a ra→∀Q E,KV C Z J M st v s' Q→ab (Md C) A (call (uV k) [ra] []) Q E st
def L9(C:Cx)(k:Nat)(g:AV→AV→AS→RV):Prop:=∀a b s v s',(g a b s).leaf C.ν=some (v,s')→∀Z J M A st ra rb,aq C J M s st.heap→bz A 0→ao C J M st.heap a ra→ao C J M st.heap b rb→∀Q E,KV C Z J M st v s' Q→ab (Md C) A (call (uV k) [ra,rb] []) Q E st
@[elab_as_elim] theorem ao.I0{P:Value→Prop}(S:aq C J M s st.heap){i:Nat}{l:List IE}{rv:Value}(V:ao C J M st.heap (.ref i) rv)(e:s.get i=some (.cb l))(k:∀a,J[i]?=some a→st.heap.get? a=some (cR (aQ C.ν l))→bk C.ν l→P (.ref a)):P rv:=Ay (V.D0 S e) fun a q a1 a2 a3=>q▸k a a1 a2 a3
theorem yH.one{k:Nat}{g:AV→AS→RV}(H:yH C k g):Jf C k (pn g):=fun as s v s' e Z J M A st ras S R z V Q E K=>by
 obtain⟨a,rfl,e⟩:=gZ e
 obtain⟨ra,rfl,V1⟩:=V.one
 exact H a s v s' e Z J M A st ra S R V1 Q E K
theorem L9.two{k:Nat}{g:AV→AV→AS→RV}(H:L9 C k g):Jf C k (GS g):=fun as s v s' e Z J M A st ras S R z V Q E K=>by
 obtain⟨a,b,rfl,e⟩:=kC e
 obtain⟨ra,rb,rfl,V1,W1⟩:=V.two
 exact H a b s v s' e Z J M A st ra rb S R V1 W1 Q E K
theorem yH.or{k:Nat}{g:AV→AS→RV}{g':AV→AV→AS→RV}(H:yH C k g)(H':L9 C k g'):Jf C k (yu g g'):=fun as s v s' e Z J M A st ras S R z V Q E K=>by
 cases as with
 |nil=>exact no e
 |cons a l=>cases l with
  |nil=>exact H.one [a] s v s' e Z J M A st ras S R z V Q E K
  |cons b l=>exact H'.two (a::b::l) s v s' e Z J M A st ras S R z V Q E K
theorem Jf.no{k:Nat}:Jf C k GR:=fun Y Y Y Y e=>Mine.Internal.no e
theorem hH{n:Nat}(e:(tC n s).leaf C.ν=some (v,s')):n≤100000∧v=.int (.c n)∧s'=s:=by
 refine aw (bu e:) fun hl e=>?_
 obtain⟨rfl,rfl⟩:=pi_inj e;exact⟨hl,rfl,rfl⟩
theorem LM(HL:rW C):yH C 0 UC:=fun a s v s' e Z J M A st ra S R V Q E K=>by
 have ref:∀i,(Aw s (.ref i) (fun l=>tC l.length s) fun l=>tC l.length s).leaf C.ν=some (v,s')→ao C J M st.heap (.ref i) ra→ab (Md C) A (call (uV 0) [ra] []) Q E st:=fun i e V=>by
  refine aC (g9 e:) fun Y q e=>?_
  injection q with q;subst q;rcases e with⟨l,ei,e⟩|⟨l,ei,e⟩
  ·obtain⟨hl,rfl,rfl⟩:=hH e
   refine V.listE S ei fun a vs n Y ea Vs=>?_
   have hlen:=Vs.length
   refine lf (Calls.call_len_list (cB ea) (by simp;lia) ?_)
   exact K.now S (.int _ _ _ (by simp[IE.eval];lia)) _
  ·obtain⟨hl,rfl,rfl⟩:=hH e
   refine V.I0 S ei fun a Y ea hb=>?_
   refine HL A st E a _ Q ea (by rw [fU];lia) fun tk t=>?_
   exact K.now S (.int _ _ _ (by rw [fU];rfl)) _
 cases a with
 |t l=>
  obtain⟨hl,rfl,rfl⟩:=hH e
  refine V.kD fun a vs n Y ea Vs=>?_
  have hlen:=Vs.length
  refine lf (len_tuple (Uc ea) (by simp;lia) ?_)
  exact K.now S (.int _ _ _ (by simp[IE.eval];lia)) _
 |str l=>
  obtain⟨hl,rfl,rfl⟩:=hH e
  refine V.gB fun t=>?_
  refine lf (P.len_str (by unfold aP Str.length;simp;lia) ?_)
  exact K.now S (.int _ _ _ (by unfold aP Str.length;simp[IE.eval])) _
 |bytes l=>
  obtain⟨hl,rfl,rfl⟩:=hH e
  refine V.dY fun hb t=>?_
  refine lf (len_bytes (by rw [fU];lia) ?_)
  exact K.now S (.int _ _ _ (by rw [fU];rfl)) _
 |ref i=>exact ref i e V
 |_=>exact no e
theorem LK:yH C 1 UB:=fun a s v s' e Z J M A st ra S R V Q E K=>by
 obtain⟨x,rfl,e⟩:=aV e
 refine aH.cz e fun n ag e1 e=>?_
 refine dz (eR 40 S.rg e1:) fun c1 c2 c3=>?_
 obtain⟨rfl,rfl⟩:=pi_inj e
 refine V.ed fun t=>?_
 rw [c1];refine lf (call_range_1 ?_);have hk:∀b o,st.heap.get? b=some o→(st.heap.push {cls:=.type "range",data:=.fields #[.int 0 st.toks,.int n t,.int 1 (st.toks+1)]}).get? b=some o:=fun b o e=>Heap.get?_push_of_some _ e
 have G:=aJ.heap Z J M hk
 have hm:¬M st.heap.objs.size:=S.nH (Heap.ba _)
 exact K _ _ _ _ _ G ((S.lD c2 c3).heap hk) (.xv 0 n _ _ _ _ hm (Heap.get?_push_size _ rfl))
theorem G3:L9 C 1 Py:=fun a b s v s' e Z J M A st ra rb S R V W Q E K=>by
 obtain⟨x,rfl,f⟩:=aV e
 clear e;obtain⟨y,rfl,e⟩:=aV f
 clear f;refine aH.cz e fun n ag e1 e=>?_
 refine aH.cz e fun m aK e2 e=>?_
 refine dz (eR 40 S.rg e1:) fun c1 c2 c3=>?_
 refine dz (eR 40 c3 e2:) fun d1 d2 d3=>?_
 obtain⟨rfl,rfl⟩:=pi_inj e
 refine V.ed fun t=>?_
 refine W.ed fun u=>?_
 rw [c1,d1];refine lf (call_range_2 ?_);have hk:∀b o,st.heap.get? b=some o→(st.heap.push {cls:=.type "range",data:=.fields #[.int n t,.int m u,.int 1 st.toks]}).get? b=some o:=fun b o e=>Heap.get?_push_of_some _ e
 have G:=aJ.heap Z J M hk
 have hm:¬M st.heap.objs.size:=S.nH (Heap.ba _)
 exact K _ _ _ _ _ G (((S.lD c2 c3).lD d2 d3).heap hk) (.xv n m _ _ _ _ hm (Heap.get?_push_size _ rfl))
theorem LJ(HB:lV C):yH C 2 UA:=fun a s v s' e Z J M A st ra S R V Q E K=>by
 obtain⟨i,rfl,⟨l,ei,e⟩|⟨l,ei,e⟩⟩:=g9 e
 ·refine aC (aI e) fun es he e=>aw (cC e) fun hb e=>aw (bu e) fun hl e=>?_
  obtain⟨rfl,rfl⟩:=pi_inj e
  refine V.listE S ei fun a vs n Y ea Vs=>aC (x6 he Vs) fun m q hm=>?_
  have hB:bk C.ν es:=fun e he=>Ab S.rg (al_all hb e he)
  refine lf (call_bytes_ints (cB ea) (q▸intsAre_map m) (fun n hn=>aC (List.mem_map.mp (hm▸hn:n∈es.map fun e=>e.eval C.ν)) fun(e:IE) he q=>(show e.eval C.ν=n from q)▸hB e he) (Vs.length▸bJ hl) R.1 fun h' t k hk=>?_)
  rw [show byteArr (m.map (·.1))=aQ C.ν es by unfold byteArr aQ;rw [hm,List.map_map];rfl]
  exact K _ _ _ _ _ (aJ.heap Z J M hk) (S.heap hk) (.bytes _ t hB)
 ·refine aw (bu e:) fun hl e=>?_
  obtain⟨rfl,rfl⟩:=pi_inj e
  refine V.I0 S ei fun a Y ea hb=>?_
  refine HB A st E a _ Q ea (by rw [fU];exact hl) fun tk t=>?_
  exact K.now S (.bytes _ t hb) _
theorem LI(HN:rV C):yH C 3 Uz:=fun a s v s' e Z J M A st ra S R V Q E K=>by
 cases a with
 |bytes b=>
  refine aw (bu e:) fun hl e=>?_
  refine aH.cz e fun i ag e1 e=>?_
  obtain⟨rfl,rfl⟩:=pi_inj e
  refine V.dY fun hb t=>?_
  refine HN A st E _ t Q (by rw [fU];exact hl) fun tk h' hk hg=>?_
  exact nI e1 hb S K tk hk (Heap.ba _) hg
 |_=>exact no e
theorem LH:yH C 4 Uy:=fun a s v s' e Z J M A st ra S R V Q E K=>by
 obtain⟨i,rfl,⟨l,ei,e⟩|⟨l,ei,e⟩⟩:=g9 e
 ·have hl:=lZ e
  refine V.listE S ei fun a vs n Y ea Vs=>?_
  refine lf (call_list_seq (hsz:=by have h1:=Vs.length;rw [sizeLine_eq,List.size_toArray];lia) a (.inl rfl) ea rfl rfl fun h' c' hk hD=>?_)
  exact gj e S Vs K _ hk (Heap.ba _) hD
 ·exact no e
theorem LG:yH C 5 Ux:=fun a s v s' e Z J M A st ra S R V Q E K=>by
 have ref:∀i,(Aw s (.ref i) (fun l=>jD l.length (.ok (.t l,s))) fun Y=>.bad 25).leaf C.ν=some (v,s')→ao C J M st.heap (.ref i) ra→ab (Md C) A (call (uV 5) [ra] []) Q E st:=fun i e V=>by
  obtain⟨_,q,⟨l,ei,e⟩|⟨l,ei,e⟩⟩:=g9 e
  ·injection q with q;subst q
   refine aw (bu e:) fun hl e=>?_
   obtain⟨rfl,rfl⟩:=pi_inj e
   refine V.listE S ei fun a vs n Y ea Vs=>?_
   refine lf (call_tuple_list (hsz:=by have h1:=Vs.length;rw [sizeLine_eq,List.size_toArray];lia) (cB ea) fun h' hk=>?_)
   have Mi:∀b o,st.heap.get? b=some o→(h'.push {cls:=.type "tuple",data:=.seq vs.toArray}).get? b=some o:=fun b o e=>Heap.get?_push_of_some _ (hk b o e)
   have hm:¬M h'.objs.size:=fun q=>by
    refine dm (S.mlt _ q:) fun o e=>?_
    exact aM (hk _ _ e) (Heap.ba h')
   have G:=aJ.heap Z J M Mi
   exact K _ _ _ _ _ G (S.heap Mi) (.t _ _ vs 0 hm (Heap.get?_push_size _ rfl) (Vs.grow G))
  ·exact no e
 cases a with
 |t l=>
  obtain⟨rfl,rfl⟩:=pi_inj e
  exact oK V.inv fun a vs n q Y ea Vs=>by
   rw [q]at V⊢;exact lf (call_tuple_tup (Uc ea) (K.now S V _))
 |ref i=>exact ref i e V
 |_=>exact no e
theorem LF:yH C 6 Uw:=fun a s v s' e Z J M A st ra S R V Q E K=>by
 cases a with
 |dW l=>cases l with
  |nil=>
   refine V.wz fun a es n ha hs ea Ra=>?_
   subst Ra;refine lf (qP R.1 hs ea fun h' tk D c hk hd hg=>?_)
   exact gj e S .nil K tk hk hd hg
  |cons _ _=>exact no e
 |_=>exact no e
theorem LD:L9 C 9 Uv:=fun a b s v s' e Z J M A st ra rb S R V W Q E K=>by
 obtain⟨x,rfl,f⟩:=aV e
 clear e;obtain⟨y,rfl,e⟩:=aV f
 clear f;refine aH.cz e fun b ag e1 e=>?_
 refine dz (dq S.rg e1:) fun c1 c2 c3=>?_
 obtain⟨rfl,rfl⟩:=pi_inj e
 refine V.ed fun t=>?_
 refine W.ed fun u=>?_
 refine lf (max_two_ints R.1 fun h' tk hk=>?_)
 have c1:decide (_<_)=b:=c1
 refine K _ _ _ _ _ (aJ.heap Z J M hk) ((S.lD c2 c3).heap hk) ?_
 cases b with
 |true=>rw [if_pos (of_decide_eq_true c1)];exact .int _ _ _ rfl
 |false=>rw [if_neg (of_decide_eq_false c1)];exact .int _ _ _ rfl
theorem G1:L9 C 10 Px:=fun a b s v s' e Z J M A st ra rb S R V W Q E K=>by
 obtain⟨x,rfl,f⟩:=aV e
 clear e;obtain⟨y,rfl,e⟩:=aV f
 clear f;refine aH.cz e fun b ag e1 e=>?_
 refine dz (dq S.rg e1:) fun c1 c2 c3=>?_
 obtain⟨rfl,rfl⟩:=pi_inj e
 refine V.ed fun t=>?_
 refine W.ed fun u=>?_
 refine lf (min_two_ints R.1 fun h' tk hk=>?_)
 have c1:decide (_<_)=b:=c1
 refine K _ _ _ _ _ (aJ.heap Z J M hk) ((S.lD c2 c3).heap hk) ?_
 cases b with
 |true=>rw [if_pos (of_decide_eq_true c1)];exact .int _ _ _ rfl
 |false=>rw [if_neg (of_decide_eq_false c1)];exact .int _ _ _ rfl
theorem GZ:yH C 11 Pw:=fun a s v s' e Z J M A st ra S R V Q E K=>by
 obtain⟨x,rfl,e⟩:=aV e
 refine aH.cz e fun b ag e1 e=>?_
 refine dz (dq S.rg e1:) fun c1 c2 c3=>?_
 obtain⟨rfl,rfl⟩:=pi_inj e
 refine V.ed fun t=>?_
 refine lf (call_abs_int fun u tk=>?_)
 have c1:decide (_<(0:Int))=b:=c1
 refine K.now (S.lD c2 c3) ?_ tk
 cases b with
 |true=>rw [if_pos (of_decide_eq_true c1)];exact .int _ _ _ (by rw [ka];simp[IE.eval])
 |false=>rw [if_neg (of_decide_eq_false c1)];exact .int _ _ _ rfl
set_option tactic.hygienic true in
theorem GY:yH C 12 LL:=fun a s v s' e Z J M A st ra S R V Q E K=>by
 cases a with
 |str l=>cases l with
  |nil=>exact no e
  |cons d l=>cases l with
   |nil=>
    unfold LL at e;simp only at e;split at e
    ·rename_i hd
     simp only[Bool.and_eq_true]at hd
     have h1:=al_ble hd.1
     have h2:=al_ble hd.2
     obtain⟨rfl,rfl⟩:=pi_inj e
     refine V.gB fun t=>?_
     refine lf (KIN.call_text (wu _ (Nat.lt_succ_of_le h2) h1) (by show 1≤640;decide) ?_)
     exact K.now S (.int _ _ _ rfl) _
    ·exact no e
   |cons _ _=>exact no e
 |int a=>
  obtain⟨rfl,rfl⟩:=pi_inj e
  exact dm V.inv fun t q=>by
   rw [q]at V⊢;exact lf (call_int_int (K.now S V _))
 |bool b=>
  obtain⟨rfl,rfl⟩:=pi_inj e
  cases V.inv
  refine lf (call_int_bool ?_)
  refine K.now S (.int _ _ _ ?_) _
  cases b<;>rfl
 |_=>exact no e
theorem GX:yH C 13 Pu:=fun a s v s' e Z J M A st ra S R V Q E K=>by
 obtain⟨i,rfl,⟨l,ei,e⟩|⟨l,ei,e⟩⟩:=g9 e
 ·refine aC (aI e) fun es he e=>?_
  obtain⟨rfl,rfl⟩:=pi_inj e
  refine V.listE S ei fun a vs n Y ea Vs=>aC (x6 he Vs) fun m q hm=>?_
  rw [q]at ea;have hl:st.heap.IsList a (intItems m.toArray):=by
   have:=cB ea
   simpa[intItems]using this
  refine lf (sum_intListG R.1 hl fun h' tk t' hk=>K _ _ _ _ _ (aJ.heap Z J M hk) (S.heap hk) (.int _ _ _ ?_))
  rw [yY,preSum_eq,List.take_of_length_le (by rw [List.length_map];exact Nat.le_refl _)]
  exact(Int.zero_add _).trans (congrArg List.sum hm.symm)
 ·exact no e
set_option tactic.hygienic true in
theorem GV{a b:AV}{r:AV×AS}(e:(GW a b s).leaf C.ν=some r):b=.bi 5:=by
 cases b with
 |bi k=>
  unfold GW at e;split at e
  ·rename_i h;exact h
  ·exact no e
 |_=>exact no e
theorem GU:L9 C 14 GW:=fun a b s v s' e Z J M A st ra rb S R V W Q E K=>by
 cases GV e
 cases W.inv
 cases a with
 |t l=>
  obtain⟨rfl,rfl⟩:=pi_inj e
  refine V.kD fun a vs n Y ea Vs=>?_
  exact lf (IsiPair.tuple_tuple ea rfl (K.now S (.bool true) _))
 |none=>
  obtain⟨rfl,rfl⟩:=pi_inj e
  cases V.inv
  exact lf (IsiPair.NoneType_tuple (K.now S (.bool false) _))
 |bool b=>
  obtain⟨rfl,rfl⟩:=pi_inj e
  cases V.inv
  exact lf (IsiPair.bool_tuple (K.now S (.bool false) _))
 |bytes l=>
  obtain⟨rfl,rfl⟩:=pi_inj e
  refine V.dY fun hb t=>?_
  exact lf (rq (K.now S (.bool false) _))
 |str l=>
  obtain⟨rfl,rfl⟩:=pi_inj e
  refine V.gB fun t=>?_
  exact lf (IsiPair.str_tuple (K.now S (.bool false) _))
 |_=>exact no e
noncomputable def Ek(C:Cx):Nat→List (List AV→AS→RV)→Prop
 |_,[]=>True
 |k,f::r=>Jf C k f∧Ek C (k+1) r
theorem Ek.zf:∀{l:List (List AV→AS→RV)}{j:Nat}(k:Nat),Ek C j l→Jf C (j+k) (Km l k)
 |[],_,_,_=>Jf.no
 |_::_,_,0,H=>H.1
 |_::_,j,k+1,H=>by
  have:=Ek.zf k H.2
  rw [Nat.add_right_comm]at this;exact this
theorem S8(HL:rW C)(HB:lV C)(HN:rV C):Qd C:=fun k=>by
 have H:Ek C 0 Ut:=⟨(LM HL).one,LK.or G3,(LJ HB).one,(LI HN).one,LH.one,LG.one,LF.one,.no,.no,LD.two,G1.two,GZ.one,GY.one,GX.one,GU.two,trivial⟩
 have:=H.zf k
 rw [Nat.zero_add]at this;exact this
end
end
end Mine.Internal
namespace MineB.Internal
open PySem PySem.W PySem.Calls PyProof.Rows Builtin
open PySem.W.KBw
noncomputable section
namespace KBa
noncomputable abbrev gU(b:Array UInt8):Obj:={cls:=.type "bytearray",data:=.bytearray b 0}
theorem look_buffer:typeLookup (.type "bytearray") "__buffer__"=pure (some (.builtin "bytearray.__buffer__")):=by rw [typeLookup_type,builtinLookup_eq_fast];kernel_rfl
theorem look_release:typeLookup (.type "bytearray") "__release_buffer__"=pure (some (.builtin "bytearray.__release_buffer__")):=by rw [typeLookup_type,builtinLookup_eq_fast];kernel_rfl
theorem vG:typeLookup (.type "bytearray") "__bytes__"=pure none:=by rw [typeLookup_type,builtinLookup_eq_fast];kernel_rfl
theorem vF:typeLookup (.type "bytearray") "__index__"=pure none:=by rw [typeLookup_type,builtinLookup_eq_fast];kernel_rfl
section
variable{prog:Program}{w:World}{A:Around}{E:Value→Shared→Prop}{s:Shared}{a:Addr}{b:Array UInt8}
theorem typ(e:s.heap.get? a=some (gU b)):s.TypeIs (.ref a) "bytearray":=⟨_,e,rfl⟩
theorem gg{M:Model}(e:s.heap.get? a=some (gU b)){Q:Array UInt8→Shared→Prop}(h:Q b s):wpAny M A (Bytes.payload (.ref a)) Q E s:=by
 unfold Bytes.payload Bytes.payload?;refine wpAny_bind (wpAny_bind (wpAny_load e ?_));exact wpAny_pure (wpAny_pure h)
set_option tactic.hygienic true in
theorem own_buffer{M:Model}(e:s.heap.get? a=some (gU b)){Q:Bool→Shared→Prop}(h:Q true s):wpAny M A (Bytes.slotIsOwn (.ref a) "__buffer__") Q E s:=by
 unfold Bytes.slotIsOwn;refine wpAny_bind (wpAny_specialOf (typ e) look_buffer ?_);have key:∀x:String,x="bytearray"→wpAny M A (isInstance (.ref a) (.type x)) Q E s:=fun x hx=>by
  rw [hx];exact wpAny_isInstance (typ e) sub_self h
 simp only
 split
 ·rename_i hx
  exact absurd hx (by decide+kernel)
 ·exact key _ (by decide+kernel)
set_option tactic.hygienic true in
theorem own_release{M:Model}(e:s.heap.get? a=some (gU b)){Q:Bool→Shared→Prop}(h:Q false s):wpAny M A (Bytes.ownRelease (.ref a)) Q E s:=by
 unfold Bytes.ownRelease;refine wpAny_bind ?_;unfold Bytes.slotIsOwn;refine wpAny_bind (wpAny_specialOf (typ e) look_release ?_);have key:∀x:String,x="bytearray"→wpAny M A (isInstance (.ref a) (.type x)) (fun r s'=>wpAny M A (pure !r) Q E s') E s:=fun x hx=>by
  rw [hx];exact wpAny_isInstance (typ e) sub_self (wpAny_pure h)
 simp only
 split
 ·rename_i hx
  exact absurd hx (by decide+kernel)
 ·exact key _ (by decide+kernel)
theorem Ac{M:Model}{id:String}{full:Bool}(e:s.heap.get? a=some (gU b)){Q:Option (Array UInt8)→Shared→Prop}(h:Q (some b) s):wpAny M A (Bytes.buffer? id (.ref a) full) Q E s:=by
 unfold Bytes.buffer?;refine wpAny_bind (wpAny_specialOf (typ e) look_buffer ?_);refine wpAny_bind (own_buffer e ?_);refine wpAny_bind (wpAny_specialOf (typ e) look_buffer ?_);refine wpAny_bind (own_release e ?_);exact wpAny_bind (gg e (wpAny_pure h))
theorem Kz{Q:Value→Shared→Prop}(e:s.heap.get? a=some (gU b))(hfit:b.size≤1000000)(h:Q (.int b.size (s.toks+1)) {s with toks:=s.toks+1+1}):wpAny (model prog w) A (call (.builtin "len") [.ref a]) Q E s:=by
 refine Calls.call_function_entry kind_len plain_len entry_len (args_len1 _) ?_
 unfold Builtin.«len»;refine wpAny_bind (m:=oneArg "len" _) (wpAny_pure ?_)
 refine wpAny_bind (m:=callSpecial? (.ref a) (Str.ofString "__len__")) (wpAny_callSpecial?_slot (name:=Str.ofString "__len__") (typ e) pL
  (wpAny_call_entry pL (typ e) wm ?_ (Aq _)))
 show wpAny _ _ (Bytes.payload (.ref a)>>=fun b=>retInt b.size) _ _ s
 refine wpAny_bind (gg e ?_)
 refine wpAny_bind (wpAny_mkInt (wpAny_pure ⟨_,rfl,?_⟩))
 refine wpAny_bind (wpAny_holding (wpAny_pure ?_))
 refine wpAny_bind (wpAny_letGo ?_)
 show wpAny _ _ (if((b.size:Nat):Int)<0 then _ else _) _ _ _;rw [if_neg (by lia)]
 show wpAny _ _ (if((b.size:Nat):Int)≥2^63 then _ else _) _ _ _;rw [if_neg (by lia)]
 exact wpAny_bind (wpAny_mkInt (wpAny_pure ⟨_,rfl,h⟩))
theorem z6{Q:Value→Shared→Prop}(e:s.heap.get? a=some (gU b))(hz:b.size≤sizeLine)(h:Q (.bytes b s.toks) {s with toks:=s.toks+1}):
  codeAny (model prog w) A (.call (.builtin "bytes.__new__") ⟨[.type "bytes",.ref a],[]⟩) (wants Q E) s:=by
 refine codeAny_of_tree ?_
 show wpAny _ A.in1 (do checkBuiltinCall "bytes.__new__" ⟨[.type "bytes",.ref a],[]⟩;again (.builtin "bytes.__new__" ⟨[.type "bytes",.ref a],[]⟩)) _ _ s;refine wpAny_bind (wpAny_of_eq (F.bm_newCall _) (wpAny_pure ⟨plainId_quiet F.bm_plain _,codeAny_builtin F.bm_entry ?_⟩));rw [Around.under_plainId F.bm_plain _];unfold Builtin.«bytes.__new__»;refine wpAny_bind (wpAny_of_eq (a:=true) rfl ?_)
 refine bm_if_false rfl ?_
 refine wpAny_bind (wpAny_of_eq F.bm_sub ?_)
 refine bm_if_false rfl ?_
 refine wpAny_bind (wpAny_of_eq (F.bm_bind _) ?_)
 refine wpAny_bind (wpAny_of_eq (a:=()) rfl ?_)
 refine wpAny_bind (wpAny_of_eq (a:=()) rfl ?_)
 refine bm_if_false rfl ?_
 refine wpAny_bind (wpAny_specialOf (typ e) vG ?_)
 refine wpAny_bind (wpAny_bind ?_)
 show wpAny _ _ (load a>>=_) _ _ _;refine wpAny_bind (wpAny_load e ?_);refine wpAny_pure (wpAny_pure ?_);refine bm_if_false rfl ?_;refine wpAny_bind (wpAny_specialOf (typ e) vF ?_);refine bm_if_true rfl ?_
 first
  |show wpAny _ _ (Builtin.Bytes.buffer? "bytes.__new__" (.ref a) true>>=_) _ _ _
  |(refine wpAny_bind ?_;show wpAny _ _ (Builtin.Bytes.buffer? "bytes.__new__" (.ref a) true>>=_) _ _ _)
 refine wpAny_bind (Ac e ?_)
 refine wpAny_bind (wpAny_rule ?_)
 refine wpAny_bind (wpAny_mkBytes ?_ hz)
 first
  |exact wpAny_pure h
  |exact wpAny_pure (wpAny_pure h)
  |exact wpAny_bind (wpAny_pure (wpAny_pure h))
theorem DQ{Q:Value→Shared→Prop}(e:s.heap.get? a=some (gU b))(hz:b.size≤sizeLine)(h:Q (.bytes b s.toks) {s with toks:=s.toks+1}):wpAny (model prog w) A (call (.type "bytes") [.ref a]) Q E s:=by
 refine callType_codes (Q₁:=fun obj ag=>ag.TypeIs obj "bytes"∧Q obj ag) F.bm_called (F.bm_typeCall _) F.entry_object_init
  (z6 e hz ⟨PySem.W.typeIs_bytes _ _ _,h⟩) fun obj ag h₁=>?_
 exact⟨h₁.1,F.args_object_init_2 obj _,object_init_meets F.bm_called.init.lookup F.bm_called.made (by decide) prog w A.in1 _ ag ⟨h₁.1,rfl,h₁.2⟩⟩
end
end KBa
end
end MineB.Internal
namespace Mine.Internal
open PySem PySem.W PyProof.Rows PySem.SeqAt
noncomputable section
variable{C:Cx}
theorem G5:rW C:=fun A st E a b Q e hz h=>lf (MineB.Internal.KBa.Kz e (by lia) (h _ _))
theorem Al:lV C:=fun A st E a b Q e hz h=>lf (MineB.Internal.KBa.DQ e (by rw [sizeLine_eq];lia) (h _ _))
end
end Mine.Internal
namespace MineB.Internal
open PySem PySem.W PySem.Calls PyProof.Rows Builtin
open PySem.W.KBw
noncomputable section
namespace KBa
section
variable{prog:Program}{w:World}{A:Around}{E:Value→Shared→Prop}{s:Shared}{a sl:Addr}{b:Array UInt8}{l u:Value}{lo hi:Option Int}
theorem nA{M:Model}(hS:s.heap.IsSliceOf sl l u .none)(hl:IsPart l lo)(hu:IsPart u hi){Q:Value×Value×Value→Shared→Prop}(h:Q (rawPart lo,rawPart hi,rawPart none) s):wpAny M A (Bytes.sliceParts (.ref sl)) Q E s:=by
 obtain⟨o,ho,hc,hd⟩:=hS
 unfold Bytes.sliceParts;refine wpAny_bind (wpAny_field (x:=.none) ho hd rfl ?_)
 kby_none
 refine wpAny_ite (KBy.ite_no (show¬((Value.none==rawInt 0)=true)from Bool.false_ne_true) ?_)
 refine wpAny_bind (wpAny_field (x:=l) ho hd rfl ?_)
 cases hl<;>cases hu<;>(first
  |(kby_none;(refine wpAny_bind (wpAny_field (x:=.none) ho hd rfl ?_));kby_none)
  |(kby_none;(refine wpAny_bind (wpAny_field (x:=.int _ _) ho hd rfl ?_));kby_int)
  |(kby_int;(refine wpAny_bind (wpAny_field (x:=.none) ho hd rfl ?_));kby_none)
  |(kby_int;(refine wpAny_bind (wpAny_field (x:=.int _ _) ho hd rfl ?_));kby_int))<;>exact wpAny_pure h
theorem kO{M:Model}(hS:s.heap.IsSliceOf sl l u .none){Q:Option Int→Shared→Prop}(h:Q none s):wpAny M A (Bytes.subscript? (.ref sl)) Q E s:=by
 obtain⟨o,ho,hc,hd⟩:=hS
 have hT:s.TypeIs (.ref sl) "slice":=⟨o,ho,hc⟩
 unfold Bytes.subscript?;exact wpAny_bind (wpAny_specialOf hT slice_no_index (wpAny_pure h))
theorem pa{Q:Value→Shared→Prop}(e:s.heap.get? a=some (gU b))(hS:s.heap.IsSliceOf sl l u .none)(hl:IsPart l lo)(hu:IsPart u hi)(hz:b.size≤sizeLine)
  (h:Q (.ref s.heap.objs.size) {s with heap:=s.heap.push (gU (KBy.picked b lo hi))}):wpAny (model prog w) A (getItem (.ref a) (.ref sl)) Q E s:=by
 have hT:s.TypeIs (.ref sl) "slice":=let⟨o,ho,hc,_⟩:=hS;⟨o,ho,hc⟩
 refine wpAny_getItem_slot (typ e) (by decide) kI (wpAny_call_entry kI (typ e) pg ?_ (rN _ _))
 show wpAny _ _ (Bytes.subscript? (.ref sl)>>=fun r=>_) _ _ s
 refine wpAny_bind (kO hS ?_)
 refine wpAny_bind (wpAny_typeOf hT ?_)
 show wpAny _ _ (Bytes.sliceParts (.ref sl)>>=fun r=>_) _ _ s
 refine wpAny_bind (nA hS hl hu ?_)
 refine wpAny_bind (gg e ?_)
 refine wpAny_bind (wpAny_of_eq (sliceIndices_raw lo hi none b.size (fun e=>nomatch e)) ?_)
 refine wpAny_bind ?_
 unfold Bytes.newBytearray;refine wpAny_newObj_type ?_ (Nat.le_trans (KBc.size_picked_le b lo hi) hz);exact wpAny_pure ⟨_,rfl,h⟩
end
end KBa
end
end MineB.Internal
namespace Mine.Internal
open PySem PySem.W PyProof.Rows PySem.SeqAt
noncomputable section
variable{C:Cx}
theorem Ak:jG C:=fun A st E a sl b vl vu lo hi Q e hS hl hu hz h=>lf (MineB.Internal.KBa.pa e hS hl hu (by rw [sizeLine_eq];lia) (h _))
end
end Mine.Internal
namespace Mine.Internal
open PySem PySem.W PyProof.Rows Builtin
noncomputable section
section
variable{prog:Program}{w:World}{A:Around}{E:Value→Shared→Prop}{s:Shared}
theorem z0{args:List Value}{Bi:Builtin}{Q Q₁:Value→Shared→Prop}(hct:checkTypeCall "bytearray" ⟨args,[]⟩=pure ())(Lm:entryFor table "bytearray.__init__"=some Bi)
  (hnew:PySem.codeAny (model prog w) A.in1 (.call (.builtin "bytearray.__new__") ⟨.type "bytearray"::args,[]⟩) (wants Q₁ E) s)
  (hnext:∀obj ag,Q₁ obj ag→ag.TypeIs obj "bytearray"∧argsOk "bytearray.__init__" ⟨obj::args,[]⟩∧
   ab (model prog w) A.in1.in1 (Bi ⟨obj::args,[]⟩) (Gj (model prog w) A.in1 (wants (fun r aK=>r=.none∧Q obj aK) E)) (fun e s'=>E e s') ag):
  ab (model prog w) A (call (.type "bytearray") args) Q E s:=by
 have ft:=MineB.Internal.KBa.called
 refine dj (bf ?_)
 show ab _ _ (callAny (.type "bytearray") _) _ _ _;refine af ⟨Code.quiet_builtin _ (by decide+kernel),fq F.entry_type_call ?_⟩
 rw [Around.under_plain (weight_type_call_type "bytearray" args []) rfl];unfold Builtin.«type.__call__»;refine aX (c:=(Value.type "bytearray"==Value.type "type")=true) (by rw [ft.notType];rfl) ?_
 refine aX (c:=(_:Bool)=true) (decide_eq_false (by rw [ft.canCreate];exact Bool.false_ne_true)) ?_
 refine aa (aT hct (aa (aT MineB.Internal.KBa.mro (aX rfl ?_))))
 rw [ft.made];refine aa (af (aa (af ?_)));refine aa (aj (dj (fH (V7 hnew) fun r ag hr=>?_)))
 rcases r with e|(obj|_|_|_)<;>first|exact hr|exact hr.elim|skip
 refine dz (hnext _ _ hr) fun hT RY hsi=>?_
 refine aa (lf (wpAny_isInstance hT ft.sub (aX rfl ?_)))
 refine aa (aj (bq hT ft.init (dj ?_)))
 refine fH (fb ft.init.plain Lm (lf (ft.init.check _ _ _ _ _ _ _ _ hT RY hsi))) fun vj aK CT=>?_
 rcases vj with e|(r|_|_|_)<;>first|exact CT|exact CT.elim|skip
 obtain⟨rfl,hq⟩:=CT
 exact af hq
theorem ug{M:Model}{v:Value}{Q:Bool→Shared→Prop}(h:Q false s):ab M A (Bytes.exported v) Q E s:=fun Γ p ij hc=>by
 unfold Bytes.exported;show Sem.wp M Γ (stack>>=fun st=>pure (st.any _)) _ _ p s
 rw [Sem.wp_bind'];show Q (((Γ.code,p)::Γ.below).any _) s;rw [List.any_eq_false.mpr ?_]
 ·exact h
 ·intro x hx
  have hn:jQ x.1=true:=by
   rcases al_mc hx with rfl|hx
   ·exact hc.1
   ·exact hc.2 x hx
  obtain⟨c,q⟩:=x
  cases c with
  |builtin id args=>
   have hn:iq id=true:=hn
   have k:∀i:String,iq i=false→id≠i:=fun i hi e=>by rw [e,hi]at hn;injection hn
   intro hh
   delta Bytes.exported.match_1 at hh
   have hh:dite (id="bytearray.__contains__") _ _=true:=hh
   rw [dif_neg (k _ (by decide+kernel)),dif_neg (k _ (by decide+kernel)),dif_neg (k _ (by decide+kernel)),dif_neg (k _ (by decide+kernel)),dif_neg (k _ (by decide+kernel))]at hh
   have no:Bytes.decodersThatHold.contains id=false:=dh (ae hn).1
   obtain⟨pos,kw⟩:=args
   cases pos with
   |nil=>exact Bool.false_ne_true hh
   |cons a r=>
    have hh:(Bytes.sameRef a v&&Bytes.decodersThatHold.contains id)=true:=hh
    rw [no,Bool.and_false]at hh;exact Bool.false_ne_true hh
  |_=>exact Bool.false_ne_true
end
end
end Mine.Internal
namespace MineB.Internal
open PySem PySem.W PySem.Calls PyProof.Rows Builtin
open PySem.W.KBw
noncomputable section
namespace KBa
theorem Ae(v:Value):Bytes.bindOptional "bytearray.__init__" "bytearray" ["source","encoding","errors"] [v] []=pure [some v,none,none]:=by kernel_rfl
theorem jc:typeLookup (.type "bytes") "__index__"=pure none:=by rw [typeLookup_type,builtinLookup_eq_fast];kernel_rfl
theorem uB{id:String}{b:Array UInt8}{t:Tok}:Bytes.buffer? id (.bytes b t) true=pure (some b):=by
 unfold Bytes.buffer?;rw [KBy.special_eq KBy.look_buffer,KBy.own_buffer,KBy.own_release]
 kernel_rfl
section
variable{prog:Program}{w:World}{A:Around}{E:Value→Shared→Prop}{s:Shared}{a:Addr}{b:Array UInt8}
theorem m4{M:Model}{f:Array UInt8→Array UInt8}(e:s.heap.get? a=some (gU b))(hz:(f b).size≤sizeLine){Q:Unit→Shared→Prop}(h:Q () {s with heap:=s.heap.update a (Obj.mapBytearray f)}):wpAny M A (Bytes.write (.ref a) f) Q E s:=by
 show wpAny M A (updateBytearray a f) Q E s;unfold updateBytearray;refine wpAny_bind (wpAny_load e ?_);show wpAny _ _ (update a (Obj.mapBytearray f)>>=fun Y=>lookBehind a) _ _ _
 refine wpAny_bind (wpAny_update e ?_)
 refine wpAny_lookBehind (Heap.get?_update_self (Obj.mapBytearray f) e rfl) ?_ h
 show(if(f b).size>sizeLine then some "bytearray:memory" else none)=none;rw [if_neg (Nat.not_lt.mpr hz)]
theorem lB{f:Array UInt8→Array UInt8}(e:s.heap.get? a=some (gU b)):(s.heap.update a (Obj.mapBytearray f)).get? a=some (gU (f b)):=Heap.get?_update_self (Obj.mapBytearray f) e rfl
end
end KBa
end
end MineB.Internal
namespace Mine.Internal
open PySem PySem.W PyProof.Rows Builtin
noncomputable section
section
variable{prog:Program}{w:World}{A:Around}{E:Value→Shared→Prop}{s:Shared}{a:Addr}{b:Array UInt8}{t:Tok}
open MineB.Internal.KBa (gU)
theorem vN{Q:Fin→Shared→Prop}(e:s.heap.get? a=some (gU #[]))(hz:b.size≤sizeLine)
  (h:∀h',(∀c o,c≠a→s.heap.get? c=some o→h'.get? c=some o)→h'.get? a=some (gU b)→Q (.done (.ret .none)) {s with heap:=h'}):
  ab (model prog w) A (Builtin.«bytearray.__init__» ⟨[.ref a,.bytes b t],[]⟩) Q E s:=by
 show ab _ _ (_>>=_) _ _ _;refine aa (lf (MineB.Internal.KBa.own_release e (aX rfl (aa (aT (MineB.Internal.KBa.Ae _) ?_)))));refine aa (aT (a:=()) rfl ?_)
 refine aa (aT (a:=()) rfl ?_)
 refine aa ?_
 show ab _ _ (Bytes.exported (.ref a)>>=fun r=>_) _ _ _
 refine aa (ug ?_)
 show ab _ _ (Bytes.exportsOf (.ref a)>>=fun r=>pure (decide (r>0))) _ _ _
 unfold Bytes.exportsOf;refine aa (aa (lf (wpAny_load e ?_)));refine af (af ?_);refine aX rfl (aa (lf (MineB.Internal.KBa.m4 e (Nat.zero_le _) ?_)));have e1:=MineB.Internal.KBa.lB (f:=fun Y=>#[]) e
 refine aa (aT (a:=none) rfl ?_)
 refine aX rfl (aa (aT (a:=()) rfl ?_))
 refine aa (aT (a:=none) ((KBy.special_eq MineB.Internal.KBa.jc)) ?_)
 refine aX rfl ?_
 rw [MineB.Internal.KBa.uB];refine aa (af (aa (cX (aa (lf (MineB.Internal.KBa.m4 e1 hz ?_))))));refine af (h _ (fun c o hc ec=>?_) (MineB.Internal.KBa.lB (f:=fun Y=>b) e1))
 rw [Heap.get?_update_other _ _ (Ne.symm hc),Heap.get?_update_other _ _ (Ne.symm hc),ec]
end
variable{C:Cx}
theorem yv:rV C:=fun A st E b t Q hz h=>by
 refine z0 (Q₁:=fun obj ag=>obj=.ref st.heap.objs.size∧ag={st with heap:=st.heap.push (MineB.Internal.KBa.gU #[])}) (MineB.Internal.KBa.vc _) MineB.Internal.KBa.wk (MineB.Internal.KBa.DF _ ⟨rfl,rfl⟩) fun obj ag h₁=>?_
 obtain⟨rfl,rfl⟩:=h₁
 have hS:(st.heap.push (MineB.Internal.KBa.gU #[])).get? st.heap.objs.size=some (MineB.Internal.KBa.gU #[]):=Heap.get?_push_size _ rfl
 refine⟨⟨_,hS,rfl⟩,MineB.Internal.KBa.Ap _ _,vN hS (by rw [sizeLine_eq];lia) fun h' hk hg=>?_⟩
 exact⟨rfl,h st.toks h' (fun c o ec=>hk c o (Nat.ne_of_lt (Heap.lt_size ec)) (Heap.get?_push_of_some _ ec)) hg⟩
theorem q8:typeLookup (.type "bytes") "__int__"=pure none:=by rw [typeLookup_type,builtinLookup_eq_fast];kernel_rfl
theorem nE:typeLookup (.type "bytes") "__float__"=pure none:=by rw [typeLookup_type,builtinLookup_eq_fast];kernel_rfl
theorem Bh{b x:Array UInt8}{i j:Nat}(h:i≤j)(hj:j≤b.size)(hx:x.size=j - i):(b.extract 0 (i:Int).toNat++x++b.extract (j:Int).toNat b.size).size=b.size:=by
 rw [Array.size_append,Array.size_append,Array.size_extract,Array.size_extract,hx,Int.toNat_natCast,Int.toNat_natCast,Nat.min_eq_left (Nat.le_trans h hj),Nat.min_self,Nat.sub_zero,Nat.add_sub_cancel' h,Nat.add_sub_cancel' hj]
section
variable{C:Cx}
theorem oY{A:Around}{st:Shared}{E:Value→Shared→Prop}{a sl:Addr}{b x:Array UInt8}{t:Tok}{vl vu:Value}{lo hi:Option Int}{Q:PySem.Fin→Shared→Prop}(e:st.heap.get? a=some (MineB.Internal.KBa.gU b))(hS:st.heap.IsSliceOf sl vl vu .none)(pl:IsPart vl lo)(pu:IsPart vu hi)(hz:b.size≤100000)
  (hle:lo.elim 0 (clipAt b.size)≤hi.elim b.size (clipAt b.size))(hx:x.size=hi.elim b.size (clipAt b.size) - lo.elim 0 (clipAt b.size))(hh:hi.elim b.size (clipAt b.size)≤b.size)
  (h:∀h' tk,(∀c o,c≠a→st.heap.get? c=some o→h'.get? c=some o)→h'.get? a=some (MineB.Internal.KBa.gU (b.extract 0 (lo.elim 0 (clipAt b.size))++x++b.extract (hi.elim b.size (clipAt b.size)) b.size))→Q (.done (.ret .none)) {st with heap:=h',toks:=tk}):
  ab (Md C) A (Builtin.«bytearray.__setitem__» ⟨[.ref a,.ref sl,.bytes x t],[]⟩) Q E st:=by
 have hT:st.TypeIs (.ref sl) "slice":=let⟨o,ho,hc,_⟩:=hS;⟨o,ho,hc⟩
 unfold Builtin.«bytearray.__setitem__»
 dsimp only
 refine aX rfl (aa (lf (MineB.Internal.KBa.kO hS ?_)))
 refine aa (lf (wpAny_typeOf hT (aX rfl (aa (lf (MineB.Internal.KBa.nA hS pl pu ?_))))))
 refine aX rfl (aa (lf (wpAny_isInstance (typeIs_bytes _ _ _) F.sub_bytes_bytearray (iU rfl ?_))))
 rw [KBy.special_eq MineB.Internal.KBa.jc,KBy.special_eq q8,KBy.special_eq nE,show isInstance (.bytes x t) (.type "complex")=pure false from F.sub_bytes_complex]
 refine aa (aT (a:=false) rfl (aa (aT (a:=none) rfl (aX rfl ?_))))
 refine aa (cX (aa (yv A st E x t _ (by rw [hx];exact Nat.le_trans (Nat.sub_le _ _) (Nat.le_trans hh hz)) fun tk h' hk hg=>?_)))
 have WG:h'.IsSliceOf sl vl vu .none:=let⟨o,ho,q⟩:=hS;⟨o,hk _ _ ho,q⟩
 refine aa (aj (lf (MineB.Internal.KBa.nA (s:={st with heap:=h',toks:=tk}) WG pl pu ?_)))
 refine aa (lf (MineB.Internal.KBa.gg (s:={st with heap:=h',toks:=tk}) hg (aa (lf (MineB.Internal.KBa.gg (s:={st with heap:=h',toks:=tk}) (hk _ _ e) ?_)))))
 refine aa (aT (sliceIndices_raw lo hi none b.size (fun e=>nomatch e)) ?_)
 rw [sliceBounds_plain];refine iU rfl ?_
 generalize lo.elim 0 (clipAt b.size)=i at hle hx h⊢
 generalize hi.elim b.size (clipAt b.size)=j at hle hx hh h⊢
 rw [show max (i:Int) (j:Int)=(j:Int)from Int.max_eq_right (Int.ofNat_le.mpr hle)]
 refine aa (cX (aX (decide_eq_false (by
  rw [bne_iff_ne];exact fun q=>q (by rw [hx];exact Int.ofNat_sub hle))) ?_))
 refine aa (lf (MineB.Internal.KBa.m4 (s:={st with heap:=h',toks:=tk}) (hk _ _ e) (by rw [sizeLine_eq];exact Nat.le_trans (Nat.le_of_eq (Bh hle hh hx)) (Nat.le_trans hz (by decide))) ?_))
 exact af (h _ tk (fun c o hca ec=>(Heap.get?_update_other _ _ (Ne.symm hca)).trans (hk _ _ ec)) (MineB.Internal.KBa.lB (f:=fun b=>b.extract 0 ((i:Int)).toNat++x++b.extract ((j:Int)).toNat b.size) (s:={st with heap:=h',toks:=tk}) (hk _ _ e)))
theorem GF(n:Nat)(hi:Option Int):hi.elim n (clipAt n)≤n:=by
 cases hi with
 |none=>exact Nat.le_refl _
 |some i=>exact qq n i
theorem G4:lr C:=fun A st E a sl b x t vl vu lo hi Q Y Y e hS pl pu hz hle hx h=>by
 have hT:st.TypeIs (.ref sl) "slice":=let⟨o,ho,hc,_⟩:=hS;⟨o,ho,hc⟩
 unfold setItem;refine aj ?_;refine aa (lf (wpAny_sequenceKey (MineB.Internal.KBa.typ e) (by decide) ?_))
 refine aa (bq (name:=Str.ofString "__setitem__") (MineB.Internal.KBa.typ e) MineB.Internal.KBa.kH
  (bW MineB.Internal.KBa.kH (MineB.Internal.KBa.typ e) MineB.Internal.KBa.pf ?_ (MineB.Internal.KBa.rM _ _ _)))
 refine oY e hS pl pu hz hle hx (GF _ _) fun h' tk hk hg=>⟨_,rfl,?_⟩
 exact af (h h' tk hk hg)
end
end
end Mine.Internal
namespace MineB.Internal
open PySem PySem.W PySem.Calls PyProof.Rows Builtin
open PySem.W.KBw
noncomputable section
namespace Tp
theorem pK:Slot "bytes" "join" "bytes.join":=
 .of (owner:="bytes") (n:="join") (by rw [typeLookup_type,builtinLookup_eq_fast];kernel_rfl) (by decide+kernel) (by decide+kernel) (by decide+kernel)
  (by first|exact .inl (by decide+kernel)|exact .inr (by decide+kernel)) (by rw [isSubtype_type];kernel_rfl)
theorem yV:typeOf (.builtin "bytes.join")=pure (.type "method_descriptor"):=by show builtinType _=_;rw [builtinType_eq_fast];kernel_rfl
theorem wj:entryFor table "bytes.join"=some Builtin.«bytes.join»:=entryFor_of_tree (by kernel_rfl)
theorem Ao(a b:Value):argsOk "bytes.join" ⟨[a,b],[]⟩:=by unfold argsOk;kernel_rfl
theorem EO{id:String}{b:Array UInt8}{t:Tok}:Bytes.takeBufferQuiet? id (.bytes b t) 0=pure (some (b,none)):=by
 unfold Bytes.takeBufferQuiet? Bytes.takeBuffer?;rw [KBy.special_eq KBy.look_buffer,KBy.own_buffer];have h:((0:Int)==Bytes.fullReadOnly)=false:=by decide
 rw [h,KBy.buffer_eq]
 kernel_rfl
theorem zw(l:List (Array UInt8)):∀(k:Nat)(out:Array UInt8),
  ((l.zipIdx k).foldl (fun out(x:Array UInt8×Nat)=>(if x.2>0 then out++(#[]:Array UInt8)else out)++x.1) out).toList=out.toList++(l.map (·.toList)).flatten:=by
 induction l with
 |nil=>exact fun Y Y=>(List.append_nil _).symm
 |cons x r ih=>
  intro k out;rw [List.zipIdx_cons,List.foldl_cons,ih,List.map_cons,List.flatten_cons,←List.append_assoc,Array.toList_append]
  by_cases h:k>0
  ·rw [if_pos h,Array.append_empty]
  ·rw [if_neg h]
theorem zx(l:List (Array UInt8)):Bytes.joined #[] l=(l.map (·.toList)).flatten.toArray:=Array.toList_inj.mp (zw l 0 #[])
theorem fold_add(l:List (Array UInt8)):∀k:Nat,l.foldl (fun n(x:Array UInt8)=>n+x.size) k=k+(l.map (·.toList)).flatten.length:=by
 induction l with
 |nil=>exact fun Y=>rfl
 |cons x r ih=>intro k;rw [List.foldl_cons,ih,List.map_cons,List.flatten_cons,List.length_append,Nat.add_assoc];rfl
section
variable{prog:Program}{w:World}{A:Around}{E:Value→Shared→Prop}{s:Shared}
theorem method{M:Model}{b:Array UInt8}{t:Tok}{pl:Sem Bool}{Q:Value×List Value→Shared→Prop}(h:Q (.builtin "bytes.join",[.bytes b t]) s):wpAny M A (getMethod (.bytes b t) "join" pl) Q E s:=
 KBd.method_of (.bytes b t) (typeIs_bytes _ _ _) pK yV KBd.noRef h
theorem N4{M:Model}{Q:Unit→Shared→Prop}(h:Q () s)(l:List (Value×Option Value))(keep:List Value):(∀p∈l,p.2=none)→wpAny M A (Bytes.joinLetGo l keep) Q E s:=by
 induction l with
 |nil=>exact fun Y=>wpAny_pure h
 |cons p r ih=>
  intro hl;obtain⟨x,u⟩:=p
  cases (hl _ List.mem_cons_self:u=none)
  exact wpAny_bind (m:=letGo _ _) (wpAny_letGo (ih fun p m=>hl p (List.mem_cons_of_mem _ m)))
theorem zM{β:Type}{f:Nat→β}{body:Nat→β→Sem (ForInStep β)}{Q:β→Shared→Prop}(n:Nat):∀(i:Nat)(_:∀k,i≤k→k<i+n→∀Q':ForInStep β→Shared→Prop,Q' (.yield (f (k+1))) s→wpAny (model prog w) A (body k (f k)) Q' E s)(_:Q (f (i+n)) s),wpAny (model prog w) A (forIn (List.range' i n) (f i) body) Q E s:=by
 induction n with
 |zero=>intro i _ h;rw [List.range'_zero,List.forIn_nil];exact wpAny_pure h
 |succ n ih=>
  intro i st h;rw [List.range'_succ,List.forIn_cons];refine wpAny_bind (st i (Nat.le_refl _) (Nat.lt_add_of_pos_right (Nat.succ_pos n)) _ ?_);exact ih (i+1) (fun k h1 h2=>st k (Nat.le_of_succ_le h1) (by rwa[Nat.add_right_comm,Nat.add_assoc]at h2)) (by rwa[Nat.add_right_comm,Nat.add_assoc])
abbrev Qv(bs:List (Array UInt8×Tok)):Array Value:=(bs.map fun p=>Value.bytes p.1 p.2).toArray
theorem DS(bs:List (Array UInt8×Tok)):(Qv bs).size=bs.length:=by rw [List.size_toArray,List.length_map]
theorem GN{bs:List (Array UInt8×Tok)}{k:Nat}(h:k<bs.length):(Qv bs).getD k .none=.bytes (bs[k]).1 (bs[k]).2:=by simp[Array.getD,h]
theorem GO(l:List (Array UInt8×Tok)):((l.map fun p=>(Value.bytes p.1 p.2,(none:Option Value))).any fun y=>y.1.onHeap)=false:=by
 rw [List.any_eq_false];exact fun y hy=>Exists.elim (List.mem_map.mp hy) fun p q=>q.2▸Bool.false_ne_true
theorem yt{bs:List (Array UInt8×Tok)}{k:Nat}(h:k<bs.length):((bs.take (k+1)).map (·.1)).toArray=((bs.take k).map (·.1)).toArray.push bs[k].1∧((bs.take (k+1)).map fun p=>(Value.bytes p.1 p.2,(none:Option Value)))=((bs.take k).map fun p=>(Value.bytes p.1 p.2,none))++[(.bytes bs[k].1 bs[k].2,none)]:=by
 rw [List.take_add_one,List.getElem?_eq_getElem h,List.map_append,List.map_append];exact⟨Array.toList_inj.mp (by rw [Array.toList_push];rfl),rfl⟩
theorem B1{l:List (Array UInt8)}(h:(l.map (·.toList)).flatten.length≤100000)(n:Nat):¬Bytes.tooLong (l.toArray.foldl (fun n(x:Array UInt8)=>n+x.size) ((#[]:Array UInt8).size*n))=true:=by
 rw [List.foldl_toArray',fold_add,show(#[]:Array UInt8).size*n=0 from Nat.zero_mul n,Nat.zero_add]
 ·exact fun q=>absurd (of_decide_eq_true q) (Nat.not_lt_of_le (by rw [sizeLine_eq];exact Nat.le_trans h (by decide)))
 ·rfl
theorem FT{t:Tok}{x:Addr}{bs:List (Array UInt8×Tok)}{n:Nat}{Q:Value→Shared→Prop}(e:s.heap.get? x=some ({cls:=.type "list",data:=.seq (Qv bs) n}:Obj))(h2:2≤bs.length)
  (hz:(bs.map fun p=>p.1.toList).flatten.length≤100000)(h:∀tk t',Q (.bytes (bs.map fun p=>p.1.toList).flatten.toArray t') {s with toks:=tk}):
  wpAny (model prog w) A (call (.builtin "bytes.join") [.bytes #[] t,.ref x]) Q E s:=by
 refine wpAny_call_entry pK (typeIs_bytes _ _ _) wj ?_ (Ao _ _)
 show wpAny _ _ (Bytes.joinM .bytes ⟨[.bytes #[] t,.ref x],[]⟩) _ _ _;unfold Bytes.joinM;refine wpAny_bind (wpAny_of_eq (a:=(Value.bytes #[] t,Value.ref x)) rfl ?_)
 show wpAny _ _ (Bytes.joinItems (.ref x)>>=_) _ _ _;unfold Bytes.joinItems;refine wpAny_bind (wpAny_bind (wpAny_typeOf (T:="list") ⟨_,e,rfl⟩ (wpAny_pure (wpAny_bind (wpAny_seqItems e rfl ?_)))))
 obtain⟨p,q,r,rfl⟩:∃p q r,bs=p::q::r:=by
  cases bs with
  |nil=>exact absurd h2 (by decide)
  |cons p bs=>cases bs with
   |nil=>exact absurd h2 (by decide:¬2≤1)
   |cons q r=>exact⟨p,q,r,rfl⟩
 refine wpAny_bind (m:=forIn _ _ _) ?_
 rw [Std.Legacy.Range.forIn_eq_forIn_range']
 generalize p::q::r=bs at*
 show wpAny _ _ (forIn (List.range' 0 (((Qv bs).size - 0+1 - 1)/1) 1) _ _) _ _ s;rw [Nat.sub_zero,Nat.add_sub_cancel,Nat.div_one,DS];refine zM (f:=fun i=>(((bs.take i).map (·.1)).toArray,(bs.take i).map fun p=>(Value.bytes p.1 p.2,none))) bs.length 0 (fun k Y hlt Q' hq=>?_) ?_
 ·rw [Nat.zero_add]at hlt
  refine wpAny_bind (wpAny_seqItems e rfl ?_)
  show wpAny _ _ (if(_||List.any _ _)=true then _ else _) _ _ s;refine wpAny_ite_false (decide_eq_false (by rw [GO];decide)) ?_
  rw [GN hlt,EO];refine wpAny_bind (wpAny_holding (wpAny_pure (wpAny_bind (wpAny_seqItems e rfl ?_))));refine wpAny_ite_false (decide_eq_false (by simp)) (wpAny_pure ?_)
  rw [(yt hlt).1,(yt hlt).2]at hq;exact hq
 ·rw [Nat.zero_add,List.take_length]
  refine wpAny_bind (wpAny_of_eq (a:=(#[]:Array UInt8)) rfl (wpAny_ite_false (decide_eq_false (B1 (by rw [List.map_map];exact hz) _)) ?_))
  show wpAny _ _ (mkBytes (Bytes.joined #[] (bs.map (·.1)))>>=_) _ _ _;rw [zx,List.map_map];refine wpAny_bind (wpAny_mkBytes ?_ (by rw [List.size_toArray,sizeLine_eq];exact Nat.le_trans hz (by decide)))
  exact wpAny_bind (wpAny_holding (wpAny_point (wpAny_bind (N4 (wpAny_pure ⟨_,rfl,h _ _⟩) _ _ fun p m=>Exists.elim (List.mem_map.mp m) fun q w=>w.2▸rfl))))
end
end Tp
end
end MineB.Internal
namespace Mine.Internal
open PySem PySem.W PyProof.Rows PySem.SeqAt
noncomputable section
variable{C:Cx}{M:Addr→Prop}{a e:CE}{es:List CE}{f:AV→Value→Bool}{flat:Bool}{k n y:Nat}{l:List Nat}{o:Option NameKind}{r:Option (Option Value)}{v:Value}{x:Expr}{α:Type}{J:List Addr}
theorem z8:ie C:=⟨fun A st E a t pl Q h=>lf (MineB.Internal.Tp.method h),fun A st E t x bs n Q e h2 hz Y h=>lf (MineB.Internal.Tp.FT e h2 hz h)⟩
noncomputable def PE(a b:Bool):Bool:=match a with|true=>b|false=>!b
noncomputable def tn(l:List α):Bool:=match l with|[]=>true|_::_=>false
def Qn(a b:IE):Bool:=both a b ig false
noncomputable def allR(f:α→α→Bool):List α→List α→Bool
 |[],m=>tn m
 |a::x,m=>match m with|[]=>false|b::y=>f a b&&allR f x y
def KP:List IE→List IE→Bool:=allR Qn
structure UL where
 b:Bool
 i:IE
 s:List Nat
 y:List IE
 t:List AV
 d:List (List Nat×AV)
 r:Nat
noncomputable def w0:UL:=⟨false,.c 0,[],[],[],[],0⟩
def wA:AV→UL
 |.none=>w0
 |.bool b=>{w0 with b:=b}
 |.int i=>{w0 with i:=i}
 |.str s=>{w0 with s:=s}
 |.bytes y=>{w0 with y:=y}
 |.t t=>{w0 with t:=t}
 |.dW d=>{w0 with d:=d}
 |.ref r=>{w0 with r:=r}
 |.fn r=>{w0 with r:=r}
 |.cls r=>{w0 with r:=r}
 |.bi r=>{w0 with r:=r}
 |.uU _ _=>w0
 |.xv _ _=>w0
 |.mj r=>{w0 with r:=r}
noncomputable def kQ(o:Option α)(g:α→Bool):Bool:=match o with|some a=>g a|none=>false
noncomputable def xC(m:Nat)(π:Nat→Nat):Nat→AV→AV→Bool
 |0,_,_=>false
 |n+1,a,b=>Nat.beq a.ctorIdx b.ctorIdx&&(match a with
  |.none=>true
  |.bool x=>PE x (wA b).b
  |.int x=>Qn x (wA b).i
  |.str x=>lEq x (wA b).s
  |.bytes x=>KP x (wA b).y
  |.t x=>allR (xC m π n) x (wA b).t
  |.dW x=>tn x&&tn (wA b).d
  |.ref i=>Nat.blt i m&&Nat.beq (π i) (wA b).r
  |.fn i=>Nat.beq i (wA b).r
  |.cls i=>Nat.beq i (wA b).r
  |.bi i=>Nat.beq i (wA b).r
  |.uU _ _=>false
  |.xv _ _=>false
  |.mj _=>false)
def xC.Fg(m:Nat)(π:Nat→Nat)(n:Nat):List AV→List AV→Bool:=allR (xC m π n)
structure SE where
 k:Nat
 d:Option Int
 as:List AV
 v:AV
def Gy:Option Int→List IE→Bool
 |none,_=>true
 |some i,b=>match b.drop 5 with
  |x::_=>Qn (.c i) x
  |[]=>false
noncomputable def n4(m:Nat)(b:List IE)(k:Nat)(as:List AV):List SE→Option AV
 |[]=>none
 |e::r=>match Nat.beq e.k k&&(Gy e.d b&&xC.Fg m id 20 e.as as)with
  |true=>some e.v
  |false=>n4 m b k as r
def MW(tab:List SE)(m:Nat)(k:Nat)(as:List AV)(s:AS):Option (aH (AV×AS)):=match Nat.beq k 136||(Nat.beq k 167||Nat.beq k 168)with
 |false=>none
 |true=>match s.hp.get m with
  |some (.cb b)=>match Nat.beq b.length 29 with
   |true=>match n4 (m+1) b k as tab with
    |some v=>some (.ok (v,s))
    |none=>none
   |false=>none
  |_=>none
structure LR where
 k:Nat
 bM:List Nat
 params:Arguments
 body:Expr
 scope:Scope
 t:List (Nat×NameKind)
structure Tk where
 ve:List (List Nat)
 FD:List (Str×Nat)
 o8:List LR
 rE:List Str
abbrev kh:=List (Nat×NameKind)
variable{t:kh}
structure qB where
 t:kh
 lam:Bool
noncomputable def gP:kh→Nat→Option NameKind
 |[],_=>none
 |p::r,x=>match Nat.beq p.1 x with|true=>some p.2|false=>gP r x
noncomputable def kB:NameKind→Nat
 |.local=>0|.cell=>1|.free=>2|.globalImplicit=>3|.globalExplicit=>4
def iM(o:Option NameKind)(n:Nat):Bool:=match o with|some k=>Nat.beq (kB k) n|none=>false
noncomputable def jA(T:Tk)(s:Str)(x:Nat):Tk:={T with FD:=(s,x)::T.FD}
noncomputable def AW:List Nat→List (Str×NameKind)→Option kh
 |[],r=>match r with|[]=>some []|_::_=>none
 |x::l,r=>jW r fun p r=>fM (AW l r) fun t=>some ((x,p.2)::t)
noncomputable def Kh:List Nat→List (Str×NameKind)→List (Str×Nat)→List (Str×Nat)
 |[],_,acc=>acc
 |x::l,r,acc=>match r with|p::r=>(p.1,x)::Kh l r acc|[]=>acc
def mi(T:Tk)(names:List (Str×NameKind)):Option (kh×List Nat×Tk):=jW T.ve fun l r=>fM (AW l names) fun t=>some (t,l,{T with ve:=r})
def pushS(l:List Nat)(names:List (Str×NameKind))(T:Tk):Tk:={T with FD:=Kh l names T.FD}
noncomputable def xm:List (Str×NameKind)→List (Str×NameKind)
 |[]=>[]
 |_::r=>r
def Pc:List (Str×NameKind)→Bool
 |p::_=>Nat.beq (kB p.2) 0
 |[]=>false
def H5(l:List Nat)(names:List (Str×NameKind))(T:Tk):Tk:={pushS l (xm names) T with rE:=(match names with|p::_=>p.1|[]=>Str.empty)::T.rE}
def qo(K:kh)(t:kh):kh:=t.map fun p=>match Nat.beq (kB p.2) 2&&iM (gP K p.1) 1 with|true=>(p.1,.cell)|false=>(p.1,p.2)
set_option genSizeOf false
set_option genInjectivity false
structure XV where
 s:Str
 c:Const
 a:Expr
 b:Expr
 d:Expr
 xs:List Expr
 kx:List (Option Expr)
 bo:BoolOp
 op:Operator
 uo:UnaryOp
 cs:List CmpOp
 l:Option Expr
 u:Option Expr
 t:Option Expr
 ar:Arguments
 sc:Scope
 kw:List Keyword
 gs:List Comprehension
 k:Nat
 p:Pos
noncomputable def x0:XV:=⟨default,default,default,default,default,[],[],default,default,default,[],none,none,none,default,default,[],[],0,default⟩
def vX:Expr→XV
 |.BoolOp o xs p=>{x0 with bo:=o,xs:=xs,p:=p}
 |.NamedExpr _ _ _=>x0
 |.BinOp a o b p=>{x0 with a:=a,op:=o,b:=b,p:=p}
 |.UnaryOp o a p=>{x0 with uo:=o,a:=a,p:=p}
 |.Lambda r a s p=>{x0 with ar:=r,a:=a,sc:=s,p:=p}
 |.IfExp a b d p=>{x0 with a:=a,b:=b,d:=d,p:=p}
 |.Dict k xs p=>{x0 with kx:=k,xs:=xs,p:=p}
 |.Set _ _ _=>x0
 |.ListComp a g s p=>{x0 with a:=a,gs:=g,sc:=s,p:=p}
 |.SetComp _ _ _ _=>x0
 |.DictComp _ _ _ _ _=>x0
 |.GeneratorExp _ _ _ _=>x0
 |.Await _ _=>x0
 |.Yield _ _=>x0
 |.YieldFrom _ _=>x0
 |.Compare a o xs p=>{x0 with a:=a,cs:=o,xs:=xs,p:=p}
 |.Call a xs k p=>{x0 with a:=a,xs:=xs,kw:=k,p:=p}
 |.FormattedValue _ _ _ _=>x0
 |.JoinedStr _ _=>x0
 |.Constant c k p=>{x0 with c:=c,k:=k,p:=p}
 |.Attribute a s p=>{x0 with a:=a,s:=s,p:=p}
 |.Subscript a b p=>{x0 with a:=a,b:=b,p:=p}
 |.Starred _ _=>x0
 |.Name s p=>{x0 with s:=s,p:=p}
 |.List xs p=>{x0 with xs:=xs,p:=p}
 |.Tuple xs k p=>{x0 with xs:=xs,k:=k,p:=p}
 |.Slice l u t p=>{x0 with l:=l,u:=u,t:=t,p:=p}
noncomputable def UJ(x:Expr)(v:XV):List Prop:=[x=.BoolOp v.bo v.xs v.p,True,x=.BinOp v.a v.op v.b v.p,x=.UnaryOp v.uo v.a v.p,x=.Lambda v.ar v.a v.sc v.p,x=.IfExp v.a v.b v.d v.p,x=.Dict v.kx v.xs v.p,True,x=.ListComp v.a v.gs v.sc v.p,
 True,True,True,True,True,True,x=.Compare v.a v.cs v.xs v.p,x=.Call v.a v.xs v.kw v.p,True,True,x=.Constant v.c v.k v.p,x=.Attribute v.a v.s v.p,x=.Subscript v.a v.b v.p,True,x=.Name v.s v.p,x=.List v.xs v.p,x=.Tuple v.xs v.k v.p,x=.Slice v.l v.u v.t v.p]
theorem tg(x:Expr):zf (UJ x (vX x)) x.ctorIdx:=by cases x<;>first|exact rfl|exact trivial
noncomputable def cN(x:Expr)(k:Nat):Bool:=Nat.beq x.ctorIdx k
theorem dB(h:cN x k=true):zf (UJ x (vX x)) k:=al_beq h▸tg x
theorem nO{y:Expr}(h:(!cN x k)=true)(e:y.ctorIdx=k):x≠y:=fun q=>by
 subst e q;unfold cN at h;rw [Nat.beq_refl]at h;injection h
noncomputable def NB(c:Const)(g:Bool→Bool):Bool:=match c with|.bool b=>g b|_=>false
noncomputable def Kg(c:Const)(g:Int→Bool):Bool:=match c with|.int b=>g b|_=>false
noncomputable def Kf(c:Const)(g:Str→Bool):Bool:=match c with|.str b=>g b|_=>false
noncomputable def NA(c:Const)(g:List UInt8→Bool):Bool:=match c with|.bytes b=>g b|_=>false
noncomputable def Oe(c:Const):Bool:=match c with|.none=>true|_=>false
noncomputable def Ke(e:IE)(g:Int→Bool):Bool:=match e with|.c i=>g i|_=>false
noncomputable def zh{β:Type}(l:List α)(o:Option β):Option β:=match l with|[]=>o|_::_=>none
noncomputable def JC(l:List α)(g:α→List α→Bool):Bool:=match l with|a::r=>g a r|[]=>false
noncomputable def isNil(l:List α):Bool:=match l with|[]=>true|_::_=>false
noncomputable def Nz(o:Option α)(g:α→Bool):Bool:=match o with|some a=>g a|none=>false
noncomputable def tJ(o:Option α):Bool:=match o with|none=>true|some _=>false
noncomputable def oC:List IE→List UInt8→Bool
 |[],b=>isNil b
 |e::l,b=>JC b fun u r=>Ke e fun i=>(jC 0 i&&Nat.blt i.toNat 256)&&(Nat.beq i.toNat u.toNat&&oC l r)
noncomputable def Qw(a b:Bool):Bool:=match a with|true=>b|false=>!b
def fC(v:AV)(c:Const):Bool:=match v with
 |.none=>Oe c
 |.bool b=>NB c (Qw b)
 |.int e=>Kg c fun j=>Ke e fun i=>ig i j
 |.str l=>Kf c fun s=>lEq l s.cps.toList
 |.bytes l=>NA c (oC l)
 |_=>false
noncomputable def fK:List (List Nat)→List (Option Expr)→Bool
 |[],xs=>isNil xs
 |k::ks,xs=>JC xs fun o xs=>Nz o fun x=>cN x 19&&(Kf (vX x).c (fun s=>lEq k s.cps.toList)&&fK ks xs)
noncomputable def Sv(t:kh):List Nat→List Expr→Tk→Option Tk
 |[],xs,T=>zh xs (some T)
 |x::tg,xs,T=>jW xs fun e xs=>ck (cN e 23&&iM (gP t x) 0) (Sv t tg xs (jA T (vX e).s x))
def fT(t:kh)(tg:List Nat)(flat:Bool)(xt:Expr)(T:Tk):Option Tk:=match flat with
 |true=>jW tg fun x r=>ck (isNil r&&(cN xt 23&&iM (gP t x) 0)) (some (jA T (vX xt).s x))
 |false=>ck (cN xt 25) (Sv t tg (vX xt).xs T)
def nF(x:Expr):Bool:=!cN x 7
def xH(x:Expr):Bool:=!(cN x 16&&(cN (vX x).a 23&&isNil (vX x).xs))
def Ic(x:Expr):Bool:=!cN x 20
def noStar(x:Expr):Bool:=!cN x 22
def Rk(a:Op)(b:Operator):Bool:=decide (b=H6 a)
def Qu(a:Cm)(b:CmpOp):Bool:=decide (b=mL a)
noncomputable def qZ:List (List Nat)→Bool
 |[]=>true
 |a::r=>r.all (fun b=>!lEq a b)&&qZ r
noncomputable def gO:List Nat→Bool
 |[]=>true
 |a::r=>!gk a r&&gO r
structure Sp where
 d1:Nat
 d2:Nat
 en:Nat
 zp:Nat
 attrs:List Nat
variable{S:Sp}
abbrev Ff:=CE→Expr→Tk→Option Tk
noncomputable def fL(f:Ff):List CE→List Expr→Tk→Option Tk
 |[],xs,T=>zh xs (some T)
 |e::es,xs,T=>jW xs fun x xs=>ck (noStar x) ((f e x T).bind fun T=>fL f es xs T)
def fO(f:Ff)(e:Option CE)(x:Option Expr)(T:Tk):Option Tk:=match e with
 |none=>ck (tJ x) (some T)
 |some e=>fM x fun x=>f e x T
noncomputable def sQ(f:Ff)(a:CE)(x:Expr)(T:Tk)(g:Tk→Option Tk):Option Tk:=(f a x T).bind g
def wI(K t:kh)(tg:List Nat)(xi:Expr)(sc:Scope):Bool:=
 (match sc.kind with|.function=>true|_=>false)&&(t.all (fun p=>!Nat.beq (kB p.2) 1)&&(t.all (fun p=>!Nat.beq (kB p.2) 0||iM (gP t p.1) 0)&&
 (t.all (fun p=>!Nat.beq (kB p.2) 2||(iM (gP K p.1) 1||iM (gP K p.1) 2))&&(t.all (fun p=>!Nat.beq (kB p.2) 0||gk p.1 tg)&&(nF xi&&(!sc.isCoroutine&&!sc.isGenerator))))))
def N8(K t:kh)(bM:List Nat)(params:Arguments):Bool:=
 (match params.defaults,params.kw_defaults with|[],[]=>true|_,_=>false)&&(t.all (fun p=>!Nat.beq (kB p.2) 2||(iM (gP K p.1) 1||iM (gP K p.1) 2))&&(bM.all (fun x=>t.any fun p=>Nat.beq p.1 x&&Nat.beq (kB p.2) 2)&&t.all (fun p=>!Nat.beq (kB p.2) 2||gk p.1 bM)))
def Ur(S:Sp)(K:qB)(y:Nat)(x:Expr)(T:Tk):Option Tk:=ck (cN x 23&&((iM (gP K.t y) 0||(iM (gP K.t y) 1||iM (gP K.t y) 2))&&(!Nat.beq y S.d1&&!Nat.beq y S.d2))) (some (jA T (vX x).s y))
def OP(S:Sp)(K:qB)(y:Nat)(x:Expr)(T:Tk):Option Tk:=ck (cN x 23&&(iM (gP K.t y) 3&&!Nat.beq y S.d1)) (some (jA T (vX x).s y))
def OR(f:Ff)(op:Cm)(a b:CE)(x:Expr)(T:Tk):Option Tk:=ck (cN x 15) (jW (vX x).cs fun q cs=>jW (vX x).xs fun r rs=>ck (isNil cs&&(isNil rs&&(Qu op q&&nF r))) (sQ f a (vX x).a T fun T=>f b r T))
def Dk(f:Ff)(op:Cm)(a b:CE)(jI:Cm)(c:CE)(x:Expr)(T:Tk):Option Tk:=ck (cN x 15) (jW (vX x).cs fun q cs=>jW cs fun q' cs=>jW (vX x).xs fun r rs=>jW rs fun r' rs=>
 ck (isNil cs&&(isNil rs&&(Qu op q&&(Qu jI q'&&nF r')))) (sQ f a (vX x).a T fun T=>sQ f b r T fun T=>f c r' T))
def yk(f:Ff)(o:BoolOp)(es:List CE)(x:Expr)(T:Tk):Option Tk:=ck (cN x 0&&decide ((vX x).bo=o)) (fL f es (vX x).xs T)
def Qs(f:Ff)(o:UnaryOp)(a:CE)(x:Expr)(T:Tk):Option Tk:=ck (cN x 3&&decide ((vX x).uo=o)) (f a (vX x).a T)
def OL(f:Ff)(o:CE)(lo hi:Option CE)(x:Expr)(T:Tk):Option Tk:=ck (cN x 21&&(cN (vX x).b 26&&tJ (vX (vX x).b).t)) (sQ f o (vX x).a T fun T=>(fO f lo (vX (vX x).b).l T).bind fun T=>fO f hi (vX (vX x).b).u T)
def OM(f:Ff)(o:CE)(x:Expr)(T:Tk):Option Tk:=ck (cN x 21&&(cN (vX x).b 26&&(tJ (vX (vX x).b).l&&tJ (vX (vX x).b).u))) (fM (vX (vX x).b).t fun y=>ck (cN y 3&&(decide ((vX y).uo=.USub)&&(cN (vX y).a 19&&Kg (vX (vX y).a).c (ig 1)))) (f o (vX x).a T))
def OO(K:qB)(k:Nat)(bM:List Nat)(x:Expr)(T:Tk):Option Tk:=ck (cN x 4) (fM (mi T (vX x).sc.names) fun p=>ck (K.lam&&N8 K.t p.1 bM (vX x).ar) (some (pushS p.2.1 (vX x).sc.names {p.2.2 with o8:=⟨k,bM,(vX x).ar,(vX x).a,(vX x).sc,p.1⟩::p.2.2.o8})))
def IP(f:Ff)(g:CE)(es:List CE)(x:Expr)(T:Tk):Option Tk:=ck (cN x 16&&(isNil (vX x).kw&&Ic (vX x).a)) (sQ f g (vX x).a T fun T=>fL f es (vX x).xs T)
def IK(S:Sp)(f:Ff)(o:CE)(y:Nat)(es:List CE)(x:Expr)(T:Tk):Option Tk:=ck (cN x 16&&(isNil (vX x).kw&&(cN (vX x).a 20&&(gk y S.attrs&&(xH (vX (vX x).a).a&&(Nat.blt (vX x).xs.length 30&&Nat.beq (vX (vX x).a).p.endLine (vX x).p.line))))))
 (sQ f o (vX (vX x).a).a (jA T (vX (vX x).a).s y) fun T=>fL f es (vX x).xs T)
def IM(f f':Ff)(K:qB)(elt:CE)(tg:List Nat)(flat:Bool)(it:CE)(ifs:List CE)(x:Expr)(g:Comprehension)(p:kh×List Nat×Tk):Option Tk:=ck (Pc (vX x).sc.names&&(ig 0 g.is_async&&wI K.t p.1 tg g.iter (vX x).sc))
 ((fT p.1 tg flat g.target p.2.2).bind fun T=>sQ f it g.iter T fun T=>sQ f' elt (vX x).a T fun T=>(fL f' ifs g.ifs T).bind fun T=>some (H5 p.2.1 (vX x).sc.names T))
noncomputable def fE(S:Sp):Nat→qB→CE→Expr→Tk→Option Tk
 |0,_,_,_,_=>none
 |n+1,K,e,x,T=>match e with
  |.n y=>Ur S K y x T
  |.val v=>ck (cN x 19&&fC v (vX x).c) (some T)
  |.t es=>ck (cN x 25) (fL (fE S n K) es (vX x).xs T)
  |.list es=>ck (cN x 24) (fL (fE S n K) es (vX x).xs T)
  |.dW ks es=>ck (cN x 6&&(fK ks (vX x).kx&&(Nat.beq ks.length es.length&&(qZ ks&&Nat.ble ks.length 15)))) (fL (fE S n K) es (vX x).xs T)
  |.bin op a b=>ck (cN x 2&&Rk op (vX x).op) (sQ (fE S n K) a (vX x).a T fun T=>fE S n K b (vX x).b T)
  |.cmp op a b=>OR (fE S n K) op a b x T
  |.chain op a b jI c=>Dk (fE S n K) op a b jI c x T
  |.and es=>yk (fE S n K) .And es x T
  |.or es=>yk (fE S n K) .Or es x T
  |.not a=>Qs (fE S n K) .Not a x T
  |.neg a=>Qs (fE S n K) .USub a x T
  |.ite t a b=>ck (cN x 5) (sQ (fE S n K) t (vX x).a T fun T=>sQ (fE S n K) a (vX x).b T fun T=>fE S n K b (vX x).d T)
  |.attr o y=>ck (cN x 20&&(gk y S.attrs&&xH (vX x).a)) (fE S n K o (vX x).a (jA T (vX x).s y))
  |.idx o i=>ck (cN x 21) (sQ (fE S n K) o (vX x).a T fun T=>fE S n K i (vX x).b T)
  |.il o lo hi=>OL (fE S n K) o lo hi x T
  |.rev o=>OM (fE S n K) o x T
  |.call f es=>IP (fE S n K) f es x T
  |.bC o y es=>IK S (fE S n K) o y es x T
  |.comp elt tg flat it ifs=>ck (cN x 8) (jW (vX x).gs fun g gs=>ck (isNil gs) (fM (mi T (xm (vX x).sc.names)) fun p=>IM (fE S n K) (fE S n ⟨qo K.t p.1,K.lam⟩) K elt tg flat it ifs x g p))
  |.gy ..=>none
  |.lam k bM=>OO K k bM x T
  |.eM y=>OP S K y x T
  |.bad _=>ck (nF x) (some T)
def Tj(C:Cx)(r:LR):Prop:=C.bM r.k=r.bM∧∀pm cdv ctv qual clos,C.lam r.k {name:="<lambda>",qualname:=qual,params:=r.params,body:=.expr r.body,scope:=r.scope,globals:=mainGlobals,closure:=clos,defaults:=.none,kwdefaults:=.none,doc:=.none,pyModule:=pm,annotations:=none,code:=cdv,closureTuple:=ctv,builtins:=builtinsNs}
def aO(C:Cx)(T:Tk):Prop:=(∀p∈T.FD,p.1=C.nm p.2)∧(∀r∈T.o8,Tj C r)∧∀s∈T.rE,s=".0"
structure KR(C:Cx)(kd:Kd)(K:qB):Prop where
 k:∀x,kd.k (C.nm x)=gP K.t x
 lam:K.lam=true→∃c P,kd.code=some c∧(c,P)∈C.tabs∧∀pos,C.tD P pos=kd.qual++"<lambda>"
structure eI(C:Cx)(S:Sp):Prop where
 d1:C.nm S.d1="__debug__"
 d2:C.nm S.d2="__classdict__"
 en:C.nm S.en="enumerate"
 zp:C.nm S.zp="zip"
 attrs:∀n,gk n S.attrs=true→n∈C.attrs
 inj:∀x y,C.nm x=C.nm y→x=y
 H9:∀x,C.nm x≠".0"
theorem jd{β:Type}{l:List α}{o:Option β}{y:β}(h:zh l o=some y):l=[]∧o=some y:=by
 cases l with
 |nil=>exact⟨rfl,h⟩
 |cons a r=>injection h
theorem si{l:List α}{g:α→List α→Bool}(h:JC l g=true):∃a r,l=a::r∧g a r=true:=by
 cases l with
 |nil=>injection h
 |cons a r=>exact⟨a,r,rfl,h⟩
theorem bD{l:List α}(h:isNil l=true):l=[]:=by
 cases l with
 |nil=>rfl
 |cons a r=>injection h
theorem BR{o:Option α}{g:α→Bool}(h:Nz o g=true):∃a,o=some a∧g a=true:=by
 cases o with
 |none=>injection h
 |some a=>exact⟨a,rfl,h⟩
theorem ix{o:Option α}(h:tJ o=true):o=none:=by
 cases o with
 |none=>rfl
 |some a=>injection h
theorem BX{c:Const}{g:Bool→Bool}(h:NB c g=true):∃b,c=.bool b∧g b=true:=by
 cases c<;>first|exact⟨_,rfl,h⟩|injection h
theorem sZ{c:Const}{g:Int→Bool}(h:Kg c g=true):∃b,c=.int b∧g b=true:=by
 cases c<;>first|exact⟨_,rfl,h⟩|injection h
theorem sY{c:Const}{g:Str→Bool}(h:Kf c g=true):∃b,c=.str b∧g b=true:=by
 cases c<;>first|exact⟨_,rfl,h⟩|injection h
theorem BW{c:Const}{g:List UInt8→Bool}(h:NA c g=true):∃b,c=.bytes b∧g b=true:=by
 cases c<;>first|exact⟨_,rfl,h⟩|injection h
theorem F0{c:Const}(h:Oe c=true):c=.none:=by
 cases c<;>first|exact rfl|injection h
theorem sX{e:IE}{g:Int→Bool}(h:Ke e g=true):∃i,e=.c i∧g i=true:=by
 cases e<;>first|exact⟨_,rfl,h⟩|injection h
theorem cU(P:α→Prop){x y:α}(q:x=y)(h:P y):P x:=q▸h
section
theorem Hz(h:cN x 0=true):x=.BoolOp (vX x).bo (vX x).xs (vX x).p:=dB h
theorem QH(h:cN x 2=true):x=.BinOp (vX x).a (vX x).op (vX x).b (vX x).p:=dB h
theorem QE(h:cN x 3=true):x=.UnaryOp (vX x).uo (vX x).a (vX x).p:=dB h
theorem QG(h:cN x 4=true):x=.Lambda (vX x).ar (vX x).a (vX x).sc (vX x).p:=dB h
theorem UO(h:cN x 5=true):x=.IfExp (vX x).a (vX x).b (vX x).d (vX x).p:=dB h
theorem ME(h:cN x 6=true):x=.Dict (vX x).kx (vX x).xs (vX x).p:=dB h
theorem TF(h:cN x 8=true):x=.ListComp (vX x).a (vX x).gs (vX x).sc (vX x).p:=dB h
theorem MF(h:cN x 15=true):x=.Compare (vX x).a (vX x).cs (vX x).xs (vX x).p:=dB h
theorem A1(h:cN x 16=true):x=.Call (vX x).a (vX x).xs (vX x).kw (vX x).p:=dB h
theorem u7(h:cN x 19=true):x=.Constant (vX x).c (vX x).k (vX x).p:=dB h
theorem A2(h:cN x 20=true):x=.Attribute (vX x).a (vX x).s (vX x).p:=dB h
theorem yS(h:cN x 21=true):x=.Subscript (vX x).a (vX x).b (vX x).p:=dB h
theorem kz(h:cN x 23=true):x=.Name (vX x).s (vX x).p:=dB h
theorem MC(h:cN x 24=true):x=.List (vX x).xs (vX x).p:=dB h
theorem yR(h:cN x 25=true):x=.Tuple (vX x).xs (vX x).k (vX x).p:=dB h
theorem QF(h:cN x 26=true):x=.Slice (vX x).l (vX x).u (vX x).t (vX x).p:=dB h
end
theorem aW{β:Type}{r:Option α}{g:α→Option β}{y:β}(h:r.bind g=some y):∃a,r=some a∧g a=some y:=by
 cases r with
 |none=>injection h
 |some a=>exact⟨a,rfl,h⟩
noncomputable def kU:Nat→NameKind
 |0=>.local|1=>.cell|2=>.free|3=>.globalImplicit|_=>.globalExplicit
theorem Ip(a:NameKind):kU (kB a)=a:=by cases a<;>rfl
theorem lJ{a b:NameKind}(h:kB a=kB b):a=b:=by rw [←Ip a,h,Ip]
theorem tG(h:iM o 0=true):o=some .local:=by
 unfold iM at h;split at h
 ·exact congrArg some (lJ (al_beq h))
 ·injection h
theorem CC(h:iM o 1=true):o=some .cell:=by
 unfold iM at h;split at h
 ·exact congrArg some (lJ (al_beq h))
 ·injection h
theorem FR(h:iM o 2=true):o=some .free:=by
 unfold iM at h;split at h
 ·exact congrArg some (lJ (al_beq h))
 ·injection h
theorem KC(h:iM o 3=true):o=some .globalImplicit:=by
 unfold iM at h;split at h
 ·exact congrArg some (lJ (al_beq h))
 ·injection h
theorem CD{a b:NameKind}(hb:kB b=n)(h:(!Nat.beq (kB a) n)=true):a≠b:=fun e=>by
 subst e;rw [hb,Nat.beq_refl]at h;injection h
theorem jf:∀{l:List Nat}{x:Nat},gk x l=true→x∈l
 |[],_,h=>by injection h
 |b::y,x,h=>by
  unfold gk at h;cases q:Nat.beq b x with
  |true=>rw [al_beq q];exact al_self
  |false=>rw [q]at h;exact al_con _ (jf h)
theorem nL:∀{l:List Nat}{x:Nat},gk x l=false→x∉l
 |[],_,_=>by simp
 |b::y,x,h=>by
  unfold gk at h;cases q:Nat.beq b x with
  |true=>rw [q]at h;injection h
  |false=>
   rw [q]at h;have:=nL h
   intro m;rcases al_mc m with e|m
   ·subst e;rw [Nat.beq_refl]at q;injection q
   ·exact this m
theorem jB:∀{l:List Nat},gO l=true→l.Nodup
 |[],_=>.nil
 |a::r,h=>by
  have⟨h1,h2⟩:=ae h
  exact List.nodup_cons.mpr ⟨nL (dh h1),jB h2⟩
theorem pT:∀{l:List (List Nat)},qZ l=true→(l.map aP).Nodup
 |[],_=>.nil
 |a::r,h=>by
  have⟨h1,h2⟩:=ae h
  refine List.nodup_cons.mpr ⟨fun m=>?_,pT h2⟩
  refine aC (List.mem_map.mp m:) fun b hb e=>?_
  have:=nh.mp e
  subst this;have:=al_all h1 b hb
  rw [jh]at this;injection this
theorem jX{s:Str}(h:lEq l s.cps.toList=true):s=aP l:=by
 rw [kc h];exact(gY s).symm
noncomputable def jq:Str×NameKind:=(".0",.local)
section
variable{kd:Kd}{K:qB}{T T' uH:Tk}
theorem aO.jA{s:Str}{x:Nat}(G:aO C (jA T s x)):aO C T∧s=C.nm x:=⟨⟨fun p m=>G.1 p (al_con _ m),G.2⟩,G.1 (s,x) al_self⟩
theorem m3:∀{l:List Nat}{names:List (Str×NameKind)}{t:kh}{acc:List (Str×Nat)},AW l names=some t→(∀p∈Kh l names acc,p.1=C.nm p.2)→(∀p∈acc,p.1=C.nm p.2)∧names=t.map (fun p=>(C.nm p.1,p.2))
 |[],[],t,acc,h,G=>by injection h with h;subst h;exact⟨G,rfl⟩
 |x::l,p::r,t,acc,h,G=>by
  refine aC (aL h:) fun t' q h=>?_
  ·injection h with h;subst h
   refine aw (m3 q fun p m=>G p (al_con _ m):) fun g1 g2=>?_
   refine⟨g1,?_⟩
   have:=G (p.1,x) al_self
   rw [List.map_cons,←g2,←this]
 |[],_::_,_,_,h,_=>by injection h
 |_::_,[],_,_,h,_=>by injection h
theorem sM{names:List (Str×NameKind)}(h:mi T names=some (t,l,uH)):AW l names=some t∧uH.FD=T.FD∧uH.o8=T.o8∧uH.rE=T.rE:=by
 refine d9 (bA h:) fun l r e h=>?_
 refine aC (aL h:) fun t q h=>?_
 injection h with h;injection h with h fJ;subst h;injection fJ with fJ mX;subst fJ mX;exact⟨q,rfl,rfl,rfl⟩
theorem jy{names:List (Str×NameKind)}(h:mi T names=some (t,l,uH))(G:aO C uH):aO C T:=by
 refine lx (sM h:) fun Y a b c=>?_
 exact⟨a▸G.1,b▸G.2.1,c▸G.2.2⟩
theorem mE{names:List (Str×NameKind)}(h:mi T names=some (t,l,uH))(G:aO C (pushS l names T')):aO C T'∧names=t.map (fun p=>(C.nm p.1,p.2)):=by
 refine dz (sM h:) fun q Y Y=>?_
 refine aw (m3 (C:=C) q G.1:) fun g1 g2=>?_
 exact⟨⟨g1,G.2⟩,g2⟩
theorem xE{names:List (Str×NameKind)}(h:mi T (xm names)=some (t,l,uH))(hd:Pc names=true)(G:aO C (H5 l names T')):aO C T'∧names=jq::t.map (fun p=>(C.nm p.1,p.2)):=by
 cases names with
 |nil=>injection hd
 |cons p r=>
  have hs:p.1=".0":=G.2.2 _ al_self
  refine aw (mE (T':=T') h ⟨G.1,G.2.1,fun s m=>G.2.2 s (al_con _ m)⟩:) fun g e=>?_
  refine⟨g,?_⟩
  have e:r=_:=e
  rw [←e];have hk:p.2=.local:=lJ (al_beq hd)
  show p::r=jq::r;rw [show p=jq from Prod.ext hs hk]
theorem dU(inj:∀x y,C.nm x=C.nm y→x=y)(x:Nat):∀t:kh,(t.map (fun p=>(C.nm p.1,p.2))).lookup (C.nm x)=gP t x
 |[]=>rfl
 |p::r=>by
  rw [List.map_cons,List.lookup_cons];unfold gP;cases q:Nat.beq p.1 x with
  |true=>rw [al_beq q];simp
  |false=>
   have:(C.nm x==C.nm p.1)=false:=by
    cases z:(C.nm x==C.nm p.1)with
    |false=>rfl
    |true=>rw [inj _ _ (beq_iff_eq.mp z),Nat.beq_refl]at q;injection q
   rw [this];exact dU inj x r
theorem iu(SO:eI C S)(x:Nat)(t:kh):(jq::t.map (fun p=>(C.nm p.1,p.2))).lookup (C.nm x)=gP t x:=by
 rw [List.lookup_cons];have:(C.nm x==jq.1)=false:=by
  cases z:(C.nm x==jq.1)with
  |false=>rfl
  |true=>exact(SO.H9 x (beq_iff_eq.mp z)).elim
 rw [this];exact dU SO.inj x t
theorem mN{names:List (Str×NameKind)}(e:names=jq::t.map (fun p=>(C.nm p.1,p.2))){y:Str×NameKind}(m:y∈names):y=jq∨∃p∈t,y=(C.nm p.1,p.2):=by
 rw [e]at m;rcases al_mc m with q|m
 ·exact .inl q
 ·refine aC (List.mem_map.mp m:) fun p hp q=>?_
  exact .inr ⟨p,hp,q.symm⟩
theorem ku{names:List (Str×NameKind)}(e:names=t.map (fun p=>(C.nm p.1,p.2))){y:Str×NameKind}(m:y∈names):∃p∈t,y=(C.nm p.1,p.2):=by
 rw [e]at m;refine aC (List.mem_map.mp m:) fun p hp q=>?_
 exact⟨p,hp,q.symm⟩
theorem LA{a b:Bool}(h:Qw a b=true):a=b:=by cases a<;>cases b<;>first|rfl|injection h
theorem GL:∀(l:List IE)(b:List UInt8),oC l b=true→(∀e∈l,∃i:Nat,i<256∧e=.c (i:Int))∧l.map (cj fun Y=>0)=b:=by
 intro l
 induction l with
 |nil=>
  intro b h;rw [bD h];exact⟨(fun Y m=>nomatch m),rfl⟩
 |cons e l ih=>
  intro b h;obtain⟨u,r,rfl,h⟩:=si h
  obtain⟨i,rfl,h⟩:=sX h
  refine aw (ae h:) fun h h3=>?_
  refine aw (ae h:) fun h1 h4=>?_
  refine aw (ae h3:) fun h2 h3=>?_
  have h2:=al_beq h2
  refine aw (ih _ h3:) fun k1 k2=>?_
  have hi:i=(i.toNat:Int):=(Int.toNat_of_nonneg ((PySem.W.Z.leB_iff ..).mp h1)).symm
  refine⟨fun e m=>?_,?_⟩
  ·rcases al_mc m with rfl|m
   ·exact⟨i.toNat,al_ble h4,congrArg IE.c hi⟩
   ·exact k1 e m
  ·rw [List.map_cons,k2]
   congr 1
   show UInt8.ofNat i.toNat=u;rw [h2];simp
theorem IQ{v:AV}{c:Const}(h:fC v c=true):rT v c:=by
 cases v with
 |none=>rw [F0 h];exact .none
 |bool b=>obtain⟨c',rfl,h⟩:=BX h;rw [LA h];exact .bool _
 |int e=>
  obtain⟨j,rfl,h⟩:=sZ h
  obtain⟨i,rfl,h⟩:=sX h
  rw [(PySem.W.Z.eqB_iff ..).mp h];exact .int _
 |str l=>obtain⟨s,rfl,h⟩:=sY h;rw [jX h];exact .str _
 |bytes l=>
  obtain⟨b,rfl,h⟩:=BW h
  refine aw (GL _ _ h:) fun a b=>?_
  exact .bytes _ _ a b
 |_=>injection h
theorem IL:∀{ks:List (List Nat)}{xs:List (Option Expr)},fK ks xs=true→iS ks xs
 |[],xs,h=>bD h▸.nil
 |k::ks,xs,h=>by
  obtain⟨o,r,rfl,h⟩:=si h
  obtain⟨x,rfl,h⟩:=BR h
  refine aw (ae h:) fun h0 h=>?_
  refine aw (ae h:) fun h1 h=>?_
  refine aC (sY h1:) fun s e h1=>?_
  exact cU (fun x=>iS (k::ks) (some x::r)) ((u7 h0).trans (congrArg (fun c=>Expr.Constant c _ _) (e.trans (congrArg Const.str (jX h1))))) (.cons (IL h))
theorem Lf{k:Str→Option NameKind}(hk:∀x,k (C.nm x)=gP t x):∀{tg:List Nat}{xs:List Expr}{T T':Tk},Sv t tg xs T=some T'→aO C T'→aO C T∧I8 C k tg xs:=by
 intro tg
 induction tg with
 |nil=>
  intro xs T T' h G;obtain⟨rfl,h⟩:=jd h
  injection h with h;subst h;exact⟨G,.nil⟩
 |cons x tg ih=>
  intro xs T T' h G;obtain⟨e,r,rfl,h⟩:=bA h
  refine aw (aB h:) fun h1 h2=>?_
  refine aw (ae h1:) fun h0 h1=>?_
  refine aw (ih h2 G:) fun g f=>?_
  refine aw (g.jA:) fun g q=>?_
  exact⟨g,cU (fun e=>I8 C k (x::tg) (e::r)) (kz h0) (.cons q (by rw [q,hk];exact tG h1) f)⟩
theorem OK{k:Str→Option NameKind}(hk:∀x,k (C.nm x)=gP t x){tg:List Nat}{xt:Expr}(h:fT t tg flat xt T=some T')(G:aO C T'):aO C T∧uP C k tg flat xt:=by
 cases flat with
 |true=>
  obtain⟨e,r,rfl,h⟩:=bA h
  refine aw (aB h:) fun h1 h=>?_
  refine aw (ae h1:) fun h2 h1=>?_
  refine aw (ae h1:) fun h0 h1=>?_
  injection h with h;subst h;refine aw (G.jA:) fun g q=>?_
  rw [bD h2];exact⟨g,cU (uP C k [e] true) (kz h0) (.one q (by rw [q,hk];exact tG h1))⟩
 |false=>
  refine aw (aB h:) fun h0 h=>?_
  refine aw (Lf hk h G:) fun g f=>?_
  exact⟨g,cU (uP C k tg false) (yR h0) (.many f)⟩
def Hf(C:Cx)(kd:Kd)(f:Ff):Prop:=∀e x T T',f e x T=some T'→aO C T'→aO C T∧aU C kd e x
theorem l5{f:Ff}(H:Hf C kd f):∀{es:List CE}{xs:List Expr}{T T':Tk},fL f es xs T=some T'→aO C T'→aO C T∧cP C kd es xs:=by
 intro es
 induction es with
 |nil=>
  intro xs T T' h G;obtain⟨rfl,h⟩:=jd h
  injection h with h;subst h;exact⟨G,.nil⟩
 |cons e es ih=>
  intro xs T T' h G;obtain⟨x,r,rfl,h⟩:=bA h
  refine aw (aB h:) fun h1 h2=>?_
  refine aC (aW h2:) fun T1 h2 h3=>?_
  refine aw (ih h3 G:) fun g f2=>?_
  refine aw (H _ _ _ _ h2 g:) fun g f1=>?_
  exact⟨g,.cons f1 (fun y p=>nO h1 rfl) f2⟩
theorem IJ{f:Ff}(H:Hf C kd f){e:Option CE}{x:Option Expr}(h:fO f e x T=some T')(G:aO C T'):aO C T∧yE C kd e x:=by
 cases e with
 |none=>
  refine aw (aB h:) fun h1 h=>?_
  injection h with h;subst h;exact⟨G,ix h1▸.none⟩
 |some e=>
  obtain⟨y,rfl,h⟩:=aL h
  refine aw (H _ _ _ _ h G:) fun g f1=>?_
  exact⟨g,.some f1⟩
theorem Kb{a:Op}{b:Operator}(h:Rk a b=true):b=H6 a:=of_decide_eq_true h
theorem wJ{a:Cm}{b:CmpOp}(h:Qu a b=true):b=mL a:=of_decide_eq_true h
theorem B4(h:nF x=true):∀xs k p,x≠.Set xs k p:=fun Y Y Y=>nO h rfl
theorem ti{op:CmpOp}:nF x=true→behindInMarks op x=false:=by
 cases x<;>first|exact fun Y=>rfl|exact fun h=>nomatch h
theorem th(h:xH x=true):∀id p q,x≠.Call (.Name id p) [] [] q:=by
 intro id p q e;rw [e]at h;injection h
theorem B5(h:Ic x=true):∀o n p,x≠.Attribute o n p:=fun Y Y Y=>nO h rfl
theorem j9(SO:eI C S){d:Nat}{s:Str}(hd:C.nm d=s)(h:(!Nat.beq y d)=true):(C.nm y==s)=false:=by
 cases q:(C.nm y==s)with
 |false=>rfl
 |true=>
  have:=beq_iff_eq.mp q
  rw [←hd]at this;rw [SO.inj _ _ this,Nat.beq_refl]at h;injection h
theorem DD(SO:eI C S)(R:KR C kd K){sc:Scope}(e:sc.names=jq::t.map (fun p=>(C.nm p.1,p.2))):KR C (cn kd sc) ⟨qo K.t t,K.lam⟩:=by
 refine⟨fun x=>?_,R.lam⟩
 show((sc.names.map fun(p:Str×NameKind)=>if(p.2==NameKind.free&&kd.k p.1==some NameKind.cell)then(p.1,NameKind.cell)else(p.1,p.2)).lookup (C.nm x))=gP (qo K.t t) x
 rw [←iu SO x,e,List.map_cons];unfold qo;rw [List.map_map,List.map_map];have h0:(if(jq.2==NameKind.free&&kd.k jq.1==some NameKind.cell)=true then(jq.1,NameKind.cell)else(jq.1,jq.2))=jq:=by
  rw [show(jq.2==NameKind.free)=false from rfl];simp
 simp only[h0]
 congr 2
 refine List.map_congr_left fun p Y=>?_
 simp only[Function.comp]
 rw [R.k];have h1:(p.2==NameKind.free)=Nat.beq (kB p.2) 2:=by cases p.2<;>rfl
 have h2:(gP K.t p.1==some NameKind.cell)=iM (gP K.t p.1) 1:=by
  cases gP K.t p.1 with
  |none=>rfl
  |some k=>cases k<;>rfl
 rw [h1,h2];cases (Nat.beq (kB p.2) 2&&iM (gP K.t p.1) 1)<;>rfl
end
section
theorem rr{a b:Bool}(h:(!a||b)=true)(ha:a=true):b=true:=by subst ha;exact h
theorem wH{kd:Kd}{K:qB}(SO:eI C S)(R:KR C kd K){tg:List Nat}{xi:Expr}{sc:Scope}(e:sc.names=jq::t.map (fun p=>(C.nm p.1,p.2)))(h:wI K.t t tg xi sc=true):
  sc.kind=.function∧(∀y∈sc.names,y.2≠.cell)∧(∀y∈sc.names,y.2=.local→sc.names.lookup y.1=some .local)∧(∀y∈sc.names,y.2=.free→kd.k y.1=some .cell∨kd.k y.1=some .free)∧(∀x,sc.names.lookup (C.nm x)=some .local→x∈tg)∧(∀x k p,xi≠.Set x k p)∧sc.isCoroutine=false∧sc.isGenerator=false:=by
 unfold wI at h;refine aw (ae h:) fun h1 h=>?_
 refine aw (ae h:) fun h2 h=>?_
 refine aw (ae h:) fun h3 h=>?_
 refine aw (ae h:) fun h4 h=>?_
 refine aw (ae h:) fun h5 h=>?_
 refine aw (ae h:) fun h6 h=>?_
 refine aw (ae h:) fun h7 h8=>?_
 refine⟨?_,fun y m=>?_,fun y m q=>?_,fun y m q=>?_,fun x q=>?_,?_,dh h7,dh h8⟩
 ·revert h1;cases sc.kind<;>first|exact fun Y=>rfl|exact fun h=>nomatch h
 ·rcases mN e m with rfl|⟨p,hp,rfl⟩
  ·intro q;injection q
  ·exact CD rfl (al_all h2 p hp)
 ·rcases mN e m with rfl|⟨p,hp,rfl⟩
  ·rw [e];exact List.lookup_cons_self
  ·have q:p.2=.local:=q
   have:=al_all h3 p hp
   rw [q]at this;rw [e,iu SO];exact tG this
 ·rcases mN e m with rfl|⟨p,hp,rfl⟩
  ·injection q
  ·have q:p.2=.free:=q
   have:=al_all h4 p hp
   rw [q]at this;show kd.k (C.nm p.1)=_∨kd.k (C.nm p.1)=_;rw [R.k];exact(fA (rr this rfl)).imp CC FR
 ·rw [e,iu SO]at q
  have key:∀t:kh,t.all (fun p=>!Nat.beq (kB p.2) 0||gk p.1 tg)=true→gP t x=some .local→x∈tg:=by
   intro t
   induction t with
   |nil=>intro _ q;injection q
   |cons p r ih=>
    intro h q;rw [List.all_cons]at h;refine aw (ae h:) fun a b=>?_
    unfold gP at q;cases z:Nat.beq p.1 x with
    |true=>
     rw [z]at q;cases al_beq z;have q:p.2=.local:=al_inj q
     rw [q]at a;exact jf a
    |false=>rw [z]at q;exact ih b q
  exact key t h5 q
 ·intro x k p q;rw [q]at h6;injection h6
section
variable{kd:Kd}{K:qB}{f:Ff}{T T':Tk}
theorem m7(H:Hf C kd f){b:CE}{y:Expr}(h:sQ f a x T (fun T=>f b y T)=some T')(G:aO C T'):aO C T∧aU C kd a x∧aU C kd b y:=by
 refine aC (aW h:) fun T1 h1 h2=>?_
 refine aw (H _ _ _ _ h2 G:) fun g f2=>?_
 refine aw (H _ _ _ _ h1 g:) fun g f1=>?_
 exact⟨g,f1,f2⟩
theorem iZ(H:Hf C kd f){b c:CE}{y z:Expr}(h:sQ f a x T (fun T=>sQ f b y T fun T=>f c z T)=some T')(G:aO C T'):aO C T∧aU C kd a x∧aU C kd b y∧aU C kd c z:=by
 refine aC (aW h:) fun T1 h1 h2=>?_
 refine aw (m7 H h2 G:) fun g f2=>?_
 refine aw (H _ _ _ _ h1 g:) fun g f1=>?_
 exact⟨g,f1,f2⟩
theorem xP(H:Hf C kd f){xs:List Expr}(h:sQ f a x T (fun T=>fL f es xs T)=some T')(G:aO C T'):aO C T∧aU C kd a x∧cP C kd es xs:=by
 refine aC (aW h:) fun T1 h1 h2=>?_
 refine aw (l5 H h2 G:) fun g f2=>?_
 refine aw (H _ _ _ _ h1 g:) fun g f1=>?_
 exact⟨g,f1,f2⟩
theorem NJ(SO:eI C S)(R:KR C kd K)(h:Ur S K y x T=some T')(G:aO C T'):aO C T∧aU C kd (.n y) x:=by
 refine aw (aB h:) fun h1 h=>?_
 refine aw (ae h1:) fun h0 h1=>?_
 refine aw (ae h1:) fun h1 h2=>?_
 refine aw (ae h2:) fun a b=>?_
 injection h with h;subst h;refine aw (G.jA:) fun g e=>?_
 refine⟨g,cU (aU C kd (.n y)) (kz h0) (.nm e ?_ (by rw [e];exact j9 SO SO.d1 a) (by rw [e];exact j9 SO SO.d2 b))⟩
 unfold gM;rw [e,R.k];exact(fA h1).imp tG fun h=>(fA h).imp CC FR
theorem K7(SO:eI C S)(R:KR C kd K)(h:OP S K y x T=some T')(G:aO C T'):aO C T∧aU C kd (.eM y) x:=by
 refine aw (aB h:) fun h1 h=>?_
 refine aw (ae h1:) fun h0 h1=>?_
 refine aw (ae h1:) fun h1 h2=>?_
 injection h with h;subst h;refine aw (G.jA:) fun g e=>?_
 exact⟨g,cU (aU C kd (.eM y)) (kz h0) (.eM e (by rw [e,R.k];exact KC h1) (by rw [e];exact j9 SO SO.d1 h2))⟩
theorem JB{v:AV}(h:ck (cN x 19&&fC v (vX x).c) (some T)=some T')(G:aO C T'):aO C T∧aU C kd (.val v) x:=by
 refine aw (aB h:) fun h1 h=>?_
 refine aw (ae h1:) fun h0 h1=>?_
 injection h with h;subst h;exact⟨G,cU (aU C kd (.val v)) (u7 h0) (.val (IQ h1))⟩
theorem JE(H:Hf C kd f)(h:ck (cN x 25) (fL f es (vX x).xs T)=some T')(G:aO C T'):aO C T∧aU C kd (.t es) x:=by
 refine aw (aB h:) fun h0 h=>?_
 refine aw (l5 H h G:) fun g f=>?_
 exact⟨g,cU (aU C kd (.t es)) (yR h0) (.t f)⟩
theorem FL(H:Hf C kd f)(h:ck (cN x 24) (fL f es (vX x).xs T)=some T')(G:aO C T'):aO C T∧aU C kd (.list es) x:=by
 refine aw (aB h:) fun h0 h=>?_
 refine aw (l5 H h G:) fun g f=>?_
 exact⟨g,cU (aU C kd (.list es)) (MC h0) (.list f)⟩
theorem Ls(H:Hf C kd f){ks:List (List Nat)}(h:ck (cN x 6&&(fK ks (vX x).kx&&(Nat.beq ks.length es.length&&(qZ ks&&Nat.ble ks.length 15)))) (fL f es (vX x).xs T)=some T')(G:aO C T'):aO C T∧aU C kd (.dW ks es) x:=by
 refine aw (aB h:) fun h1 h=>?_
 refine aw (ae h1:) fun h0 h1=>?_
 refine aw (ae h1:) fun a h1=>?_
 refine aw (ae h1:) fun b h1=>?_
 refine aw (ae h1:) fun c d=>?_
 refine aw (l5 H h G:) fun g f=>?_
 exact⟨g,cU (aU C kd (.dW ks es)) (ME h0) (.dW (IL a) f (al_beq b) (pT c) (al_ble d))⟩
theorem LB(H:Hf C kd f){op:Op}{b:CE}(h:ck (cN x 2&&Rk op (vX x).op) (sQ f a (vX x).a T fun T=>f b (vX x).b T)=some T')(G:aO C T'):aO C T∧aU C kd (.bin op a b) x:=by
 refine aw (aB h:) fun h1 h=>?_
 refine aw (ae h1:) fun h0 h1=>?_
 refine dz (m7 H h G:) fun g f1 f2=>?_
 exact⟨g,cU (aU C kd (.bin op a b)) ((QH h0).trans (congrArg (fun o=>Expr.BinOp _ o _ _) (Kb h1))) (.bin f1 f2)⟩
theorem Lv(H:Hf C kd f){op:Cm}{b:CE}(h:OR f op a b x T=some T')(G:aO C T'):aO C T∧aU C kd (.cmp op a b) x:=by
 refine aw (aB h:) fun h0 h=>?_
 refine d9 (bA h:) fun q cs ec h=>?_
 refine d9 (bA h:) fun r rs er h=>?_
 refine aw (aB h:) fun h1 h=>?_
 refine aw (ae h1:) fun n1 h1=>?_
 refine aw (ae h1:) fun n2 h1=>?_
 refine aw (ae h1:) fun h1 h4=>?_
 refine dz (m7 H h G:) fun g f1 f2=>?_
 have e:=MF h0
 rw [ec,er,bD n1,bD n2,wJ h1]at e;exact⟨g,cU (aU C kd (.cmp op a b)) e (.cmp f1 f2 (ti h4))⟩
theorem DH(H:Hf C kd f){op jI:Cm}{b c:CE}(h:Dk f op a b jI c x T=some T')(G:aO C T'):aO C T∧aU C kd (.chain op a b jI c) x:=by
 refine aw (aB h:) fun h0 h=>?_
 refine d9 (bA h:) fun q cs ec h=>?_
 refine d9 (bA h:) fun q' Eu WX h=>?_
 refine d9 (bA h:) fun r rs er h=>?_
 refine d9 (bA h:) fun r' Xg WW h=>?_
 refine aw (aB h:) fun h1 h=>?_
 refine aw (ae h1:) fun n1 h1=>?_
 refine aw (ae h1:) fun n2 h1=>?_
 refine aw (ae h1:) fun h1 h2=>?_
 refine aw (ae h2:) fun h2 h4=>?_
 refine lx (iZ H h G:) fun g f1 f2 f3=>?_
 have e:=MF h0
 rw [ec,er,WX,WW,bD n1,bD n2,wJ h1,wJ h2]at e;exact⟨g,cU (aU C kd (.chain op a b jI c)) e (.chain f1 f2 f3 (ti h4))⟩
theorem Hb(H:Hf C kd f)(h:yk f .And es x T=some T')(G:aO C T'):aO C T∧aU C kd (.and es) x:=by
 refine aw (aB h:) fun h1 h=>?_
 refine aw (ae h1:) fun h0 h1=>?_
 refine aw (l5 H h G:) fun g f=>?_
 exact⟨g,cU (aU C kd (.and es)) ((Hz h0).trans (congrArg (fun o=>Expr.BoolOp o _ _) (of_decide_eq_true h1))) (.and f)⟩
theorem Ka(H:Hf C kd f)(h:yk f .Or es x T=some T')(G:aO C T'):aO C T∧aU C kd (.or es) x:=by
 refine aw (aB h:) fun h1 h=>?_
 refine aw (ae h1:) fun h0 h1=>?_
 refine aw (l5 H h G:) fun g f=>?_
 exact⟨g,cU (aU C kd (.or es)) ((Hz h0).trans (congrArg (fun o=>Expr.BoolOp o _ _) (of_decide_eq_true h1))) (.or f)⟩
theorem FA(H:Hf C kd f)(h:Qs f .Not a x T=some T')(G:aO C T'):aO C T∧aU C kd (.not a) x:=by
 refine aw (aB h:) fun h1 h=>?_
 refine aw (ae h1:) fun h0 h1=>?_
 refine aw (H _ _ _ _ h G:) fun g f=>?_
 exact⟨g,cU (aU C kd (.not a)) ((QE h0).trans (congrArg (fun o=>Expr.UnaryOp o _ _) (of_decide_eq_true h1))) (.not f)⟩
theorem FG(H:Hf C kd f)(h:Qs f .USub a x T=some T')(G:aO C T'):aO C T∧aU C kd (.neg a) x:=by
 refine aw (aB h:) fun h1 h=>?_
 refine aw (ae h1:) fun h0 h1=>?_
 refine aw (H _ _ _ _ h G:) fun g f=>?_
 exact⟨g,cU (aU C kd (.neg a)) ((QE h0).trans (congrArg (fun o=>Expr.UnaryOp o _ _) (of_decide_eq_true h1))) (.neg f)⟩
theorem FY(H:Hf C kd f){t b:CE}(h:ck (cN x 5) (sQ f t (vX x).a T fun T=>sQ f a (vX x).b T fun T=>f b (vX x).d T)=some T')(G:aO C T'):aO C T∧aU C kd (.ite t a b) x:=by
 refine aw (aB h:) fun h0 h=>?_
 refine lx (iZ H h G:) fun g f1 f2 f3=>?_
 exact⟨g,cU (aU C kd (.ite t a b)) (UO h0) (.ite f1 f2 f3)⟩
theorem D4(SO:eI C S)(H:Hf C kd f){o:CE}(h:ck (cN x 20&&(gk y S.attrs&&xH (vX x).a)) (f o (vX x).a (jA T (vX x).s y))=some T')(G:aO C T'):aO C T∧aU C kd (.attr o y) x:=by
 refine aw (aB h:) fun h1 h=>?_
 refine aw (ae h1:) fun h0 h1=>?_
 refine aw (ae h1:) fun h1 h2=>?_
 refine aw (H _ _ _ _ h G:) fun g f=>?_
 refine aw (g.jA:) fun g e=>?_
 exact⟨g,cU (aU C kd (.attr o y)) (A2 h0) (.attr e (SO.attrs _ h1) (th h2) f)⟩
theorem F5(H:Hf C kd f){o i:CE}(h:ck (cN x 21) (sQ f o (vX x).a T fun T=>f i (vX x).b T)=some T')(G:aO C T'):aO C T∧aU C kd (.idx o i) x:=by
 refine aw (aB h:) fun h0 h=>?_
 refine dz (m7 H h G:) fun g f1 f2=>?_
 exact⟨g,cU (aU C kd (.idx o i)) (yS h0) (.idx f1 f2)⟩
theorem EZ(H:Hf C kd f){o:CE}{lo hi:Option CE}(h:OL f o lo hi x T=some T')(G:aO C T'):aO C T∧aU C kd (.il o lo hi) x:=by
 refine aw (aB h:) fun h1 h=>?_
 refine aw (ae h1:) fun h0 h1=>?_
 refine aw (ae h1:) fun h1 h2=>?_
 refine aC (aW h:) fun T1 h3 h=>?_
 refine aC (aW h:) fun T2 h4 h5=>?_
 refine aw (IJ H h5 G:) fun g f3=>?_
 refine aw (IJ H h4 g:) fun g f2=>?_
 refine aw (H _ _ _ _ h3 g:) fun g f1=>?_
 exact⟨g,cU (aU C kd (.il o lo hi)) ((yS h0).trans (congrArg (fun b=>Expr.Subscript _ b _) ((QF h1).trans (congrArg (fun t=>Expr.Slice _ _ t _) (ix h2))))) (.il f1 f2 f3)⟩
theorem Fb(H:Hf C kd f){o:CE}(h:OM f o x T=some T')(G:aO C T'):aO C T∧aU C kd (.rev o) x:=by
 refine aw (aB h:) fun h1 h=>?_
 refine aw (ae h1:) fun h0 h1=>?_
 refine aw (ae h1:) fun h1 h2=>?_
 refine aw (ae h2:) fun h2 h3=>?_
 refine aC (aL h:) fun y ey h=>?_
 refine aw (aB h:) fun h4 h=>?_
 refine aw (ae h4:) fun h4 h5=>?_
 refine aw (ae h5:) fun h5 h6=>?_
 refine aw (ae h6:) fun h6 h7=>?_
 refine aC (sZ h7:) fun i ei h7=>?_
 refine aw (H _ _ _ _ h G:) fun g f1=>?_
 have e1:=u7 h6
 rw [ei,←(PySem.W.Z.eqB_iff ..).mp h7]at e1;have e2:=QE h4
 rw [of_decide_eq_true h5,e1]at e2;have e3:=QF h1
 rw [ix h2,ix h3,ey]at e3;exact⟨g,cU (aU C kd (.rev o)) ((yS h0).trans (congrArg (fun b=>Expr.Subscript _ b _) (e3.trans (congrArg (fun t=>Expr.Slice none none (some t) _) e2)))) (.rev f1)⟩
theorem DN(H:Hf C kd f){p:CE}(h:IP f p es x T=some T')(G:aO C T'):aO C T∧aU C kd (.call p es) x:=by
 refine aw (aB h:) fun h1 h=>?_
 refine aw (ae h1:) fun h0 h1=>?_
 refine aw (ae h1:) fun h1 h2=>?_
 refine dz (xP H h G:) fun g f1 f2=>?_
 exact⟨g,cU (aU C kd (.call p es)) ((A1 h0).trans (congrArg (fun k=>Expr.Call _ _ k _) (bD h1))) (.call f1 (B5 h2) f2)⟩
theorem Ce(SO:eI C S)(H:Hf C kd f){o:CE}(h:IK S f o y es x T=some T')(G:aO C T'):aO C T∧aU C kd (.bC o y es) x:=by
 refine aw (aB h:) fun h1 h=>?_
 refine aw (ae h1:) fun h0 h1=>?_
 refine aw (ae h1:) fun h2 h1=>?_
 refine aw (ae h1:) fun h3 h1=>?_
 refine aw (ae h1:) fun h1 h4=>?_
 refine aw (ae h4:) fun h4 h5=>?_
 refine aw (ae h5:) fun h5 h6=>?_
 refine dz (xP H h G:) fun g f1 f2=>?_
 refine aw (g.jA:) fun g e=>?_
 have q:=A1 h0
 rw [bD h2]at q;exact⟨g,cU (aU C kd (.bC o y es)) (q.trans (congrArg (fun a=>Expr.Call a _ _ _) (A2 h3))) (.bC e (SO.attrs _ h1) (th h4) f1 f2 (al_ble h5) (by rw [al_beq h6];exact beq_self_eq_true _))⟩
theorem DC(SO:eI C S)(R:KR C kd K)(H:Hf C kd f){f':kh→Ff}(H':∀t RL,KR C RL ⟨qo K.t t,K.lam⟩→Hf C RL (f' t)){elt it:CE}{tg:List Nat}{ifs:List CE}{g:Comprehension}{p:kh×List Nat×Tk}
  (hp:mi T (xm (vX x).sc.names)=some p)(e:x=.ListComp (vX x).a [g] (vX x).sc (vX x).p)(h:IM f (f' p.1) K elt tg flat it ifs x g p=some T')(G:aO C T'):aO C T∧aU C kd (.comp elt tg flat it ifs) x:=by
 obtain⟨t,l,T1⟩:=p
 obtain⟨gt,gi,gf,ga⟩:=g
 refine aw (aB h:) fun h1 h=>?_
 refine aw (ae h1:) fun h0 h1=>?_
 refine aw (ae h1:) fun ha h1=>?_
 refine aC (aW h:) fun T2 h2 h=>?_
 refine aC (aW h:) fun T3 h3 h=>?_
 refine aC (aW h:) fun T4 h4 h=>?_
 refine aC (aW h:) fun T5 h5 h=>?_
 injection h with h;subst h;refine aw (xE hp h0 G:) fun c ec=>?_
 refine TU (wH SO R ec h1:) fun c1 c2 c3 c4 c5 c6 c7 c8=>?_
 have HC:=H' t _ (DD SO R ec)
 refine aw (l5 HC h5 c:) fun c f4=>?_
 refine aw (HC _ _ _ _ h4 c:) fun c f3=>?_
 refine aw (H _ _ _ _ h3 c:) fun c f2=>?_
 refine aw (OK (k:=fun n=>(vX x).sc.names.lookup n) (fun x=>by rw [ec];exact iu SO x t) h2 c:) fun c f1=>?_
 rw [←(show(0:Int)=ga from(PySem.W.Z.eqB_iff ..).mp ha)]at e
 exact⟨jy hp c,cU (aU C kd (.comp elt tg flat it ifs)) e (ak.Pk ⟨_,_,_,_,_,_,rfl,⟨f1,f2,f3,f4,c1,c2,c3,c4,c5,c6,c7,c8⟩⟩)⟩
theorem FQ(R:KR C kd K){bM:List Nat}(h:OO K k bM x T=some T')(G:aO C T'):aO C T∧aU C kd (.lam k bM) x:=by
 refine aw (aB h:) fun h0 h=>?_
 obtain⟨⟨t,l,T1⟩,hp,h⟩:=aL h
 refine aw (aB h:) fun h1 h=>?_
 refine aw (ae h1:) fun hl h1=>?_
 injection h with h;subst h;refine aw (mE hp G:) fun g e=>?_
 have gl:=g.2.1 _ al_self
 have g:=jy (C:=C) hp ⟨g.1,fun r m=>g.2.1 r (al_con _ m),g.2.2⟩
 unfold N8 at h1;refine aw (ae h1:) fun a1 h1=>?_
 refine aw (ae h1:) fun a2 h1=>?_
 refine aw (ae h1:) fun a3 a4=>?_
 refine⟨g,cU (aU C kd (.lam k bM)) (QG h0) (.lam ⟨R.lam hl,fun env=>?_,gl.1,fun y m q=>?_,fun x m=>?_,fun y m q=>?_,gl.2⟩)⟩
 ·revert a1
  generalize (vX x).ar=params
  intro a1;cases params with
  |mk p a v ko kd kw df=>
   cases df<;>cases kd<;>first|rfl|injection a1
 ·obtain⟨p,hp,rfl⟩:=ku e m
  have q:p.2=.free:=q
  have:=al_all a2 p hp
  rw [q]at this;show kd.k (C.nm p.1)=_∨kd.k (C.nm p.1)=_;rw [R.k];exact(fA (rr this rfl)).imp CC FR
 ·have:=al_all a3 x m
  refine aC (List.any_eq_true.mp this:) fun p hp q=>?_
  refine aw (ae q:) fun q1 q2=>?_
  rw [e];refine List.mem_map.mpr ⟨p,hp,?_⟩;rw [al_beq q1,show p.2=NameKind.free from lJ (al_beq q2)]
 ·obtain⟨p,hp,rfl⟩:=ku e m
  have q:p.2=.free:=q
  have:=al_all a4 p hp
  rw [q]at this;exact⟨p.1,jf this,rfl⟩
theorem G7(h:ck (nF x) (some T)=some T')(G:aO C T'):aO C T∧aU C kd (.bad n) x:=by
 refine aw (aB h:) fun h1 h=>?_
 injection h with h;subst h;exact⟨G,.bad (B4 h1)⟩
end
theorem l6(SO:eI C S):∀(n:Nat)(K:qB)(kd:Kd),KR C kd K→Hf C kd (fE S n K):=by
 intro n
 induction n with
 |zero=>intro K kd R e x T T' h;injection h
 |succ n ih=>
  intro K kd R e;have H:=ih K kd R
  cases e with
  |n y=>exact fun x T T'=>NJ SO R
  |val v=>exact fun x T T'=>JB
  |t es=>exact fun x T T'=>JE H
  |list es=>exact fun x T T'=>FL H
  |dW ks es=>exact fun x T T'=>Ls H
  |bin op a b=>exact fun x T T'=>LB H
  |cmp op a b=>exact fun x T T'=>Lv H
  |chain op a b jI c=>exact fun x T T'=>DH H
  |and es=>exact fun x T T'=>Hb H
  |or es=>exact fun x T T'=>Ka H
  |not a=>exact fun x T T'=>FA H
  |neg a=>exact fun x T T'=>FG H
  |ite t a b=>exact fun x T T'=>FY H
  |attr o y=>exact fun x T T'=>D4 SO H
  |idx o i=>exact fun x T T'=>F5 H
  |il o lo hi=>exact fun x T T'=>EZ H
  |rev o=>exact fun x T T'=>Fb H
  |call f es=>exact fun x T T'=>DN H
  |bC o y es=>exact fun x T T'=>Ce SO H
  |comp elt tg flat it ifs=>
   intro x T T' h G;refine aw (aB h:) fun h0 h=>?_
   refine d9 (bA h:) fun g gs eg h=>?_
   refine aw (aB h:) fun h1 h=>?_
   refine aC (aL h:) fun p hp h=>?_
   exact DC SO R H (f':=fun t=>fE S n ⟨qo K.t t,K.lam⟩) (fun t RL R'=>ih _ _ R') hp ((TF h0).trans (congrArg (fun g=>Expr.ListComp _ g _ _) (eg.trans (congrArg (g::·) (bD h1))))) h G
  |gy=>exact fun x T T' h=>nomatch h
  |lam k bM=>exact fun x T T'=>FQ R
  |eM y=>exact fun x T T'=>K7 SO R
  |bad n=>exact fun x T T'=>G7
end
set_option genSizeOf false
set_option genInjectivity false
def y4(t:kh)(cs:Bool)(x:Nat):Bool:=iM (gP t x) 0||(cs&&iM (gP t x) 1)
noncomputable def Gm(t:kh)(cs:Bool):List Nat→List Expr→Tk→Option Tk
 |[],xs,T=>zh xs (some T)
 |x::tg,xs,T=>jW xs fun e xs=>ck (cN e 23&&y4 t cs x) (Gm t cs tg xs (jA T (vX e).s x))
def II(t:kh)(cs:Bool)(tg:List Nat)(flat:Bool)(xt:Expr)(T:Tk):Option Tk:=match flat with
 |true=>jW tg fun x r=>ck (isNil r&&(cN xt 23&&y4 t cs x)) (some (jA T (vX xt).s x))
 |false=>ck (cN xt 25) (Gm t cs tg (vX xt).xs T)
def nG(x:Expr):Bool:=!cN x 8&&(!cN x 9&&!cN x 10)
def Ia(x:Expr):Bool:=!cN x 25
noncomputable def kJ(l:Nat):List Expr→Bool
 |[]=>true
 |x::r=>Nat.beq (vX x).p.line l&&kJ l r
def vH(ts:List Expr):Nat:=match ts with|x::_=>(vX x).p.line|[]=>0
def QT(t:kh)(xs:List Nat)(ts:List Expr)(ex:Expr):Bool:=match cN ex 25 with
 |true=>(vX ex).xs.all (foldedForSure 8)||(!(Nat.beq xs.length 2||Nat.beq xs.length 3)||(xs.all (fun x=>iM (gP t x) 0)&&(kJ (vH ts) ts&&(!(vX ex).xs.all (constantsAlone 8)&&gO xs))))
 |false=>true
noncomputable def yd(T:Tk):List Nat:=match T.ve with|l::_=>l|[]=>[]
def DP(x:Expr):Bool:=cN x 16&&(isNil (vX x).kw&&cN (vX x).a 23)
def Gg(S:Sp)(n:Nat)(K:qB)(kind:Nat)(it:CE)(x:Expr)(T:Tk):Option Tk:=match kind with
 |0=>fE S n K it x T
 |1=>jW (vX x).xs fun y r=>ck (DP x&&(isNil r&&(iM (gP K.t S.en) 3&&noStar y))) (fE S n K it y (jA T (vX (vX x).a).s S.en))
 |2=>jW (vX x).xs fun y r=>jW r fun z r=>ck (DP x&&(isNil r&&(iM (gP K.t S.zp) 3&&Nat.beq it.ctorIdx 2))) (fE S n K it (.Tuple [y,z] 0 default) (jA T (vX (vX x).a).s S.zp))
 |_=>none
def LV(S:Sp)(n:Nat)(K:qB)(y:Nat)(e:CE)(ex:Expr)(T:Tk):Option Tk:=match Nat.beq e.ctorIdx 19 with
 |true=>ck (!gk y (yd T)) (fE S n K e ex T)
 |false=>ck (nG ex) (fE S n K e ex T)
structure SV where
 a:Expr
 b:Expr
 ts:List Expr
 o:Option Expr
 ys:List Stmt
 zs:List Stmt
 ws:List Stmt
 hs:List ExceptHandler
 p:Pos
 nm:Str
 ar:Arguments
 sc:Scope
 ns:List Str
noncomputable def s0:SV:=⟨default,default,[],none,[],[],[],[],default,default,default,default,[]⟩
def vS:Stmt→SV
 |.FunctionDef n r ys _ _ _ s _ _ p=>{s0 with nm:=n,ar:=r,ys:=ys,sc:=s,p:=p}
 |.AsyncFunctionDef _ _ _ _ _ _ _ _ _ _=>s0
 |.ClassDef n bs _ ys _ _ s _ _ ns p=>{s0 with nm:=n,ys:=ys,ts:=bs,sc:=s,ns:=ns,p:=p}
 |.Return o p=>{s0 with o:=o,p:=p}
 |.Delete _ _=>s0
 |.Assign ts a p=>{s0 with ts:=ts,a:=a,p:=p}
 |.TypeAlias _ _ _ _ _ _ _=>s0
 |.AugAssign _ _ _ _=>s0
 |.AnnAssign _ _ _ _ _=>s0
 |.For a b ys zs p=>{s0 with a:=a,b:=b,ys:=ys,zs:=zs,p:=p}
 |.AsyncFor _ _ _ _ _=>s0
 |.While a ys zs p=>{s0 with a:=a,ys:=ys,zs:=zs,p:=p}
 |.If a ys zs p=>{s0 with a:=a,ys:=ys,zs:=zs,p:=p}
 |.With _ _ _=>s0
 |.AsyncWith _ _ _=>s0
 |.Match _ _ _=>s0
 |.Raise _ _ _=>s0
 |.Try ys hs zs ws p=>{s0 with ys:=ys,hs:=hs,zs:=zs,ws:=ws,p:=p}
 |.TryStar _ _ _ _ _=>s0
 |.Assert _ _ _=>s0
 |.Import _ _=>s0
 |.ImportFrom _ _ _ _=>s0
 |.Global _ _=>s0
 |.Nonlocal _ _=>s0
 |.Expr a p=>{s0 with a:=a,p:=p}
 |.Pass _=>s0
 |.Break _=>s0
 |.Continue _=>s0
noncomputable def UI(x:Stmt)(v:SV):List Prop:=[True,True,True,x=.Return v.o v.p,True,x=.Assign v.ts v.a v.p,True,True,True,x=.For v.a v.b v.ys v.zs v.p,True,x=.While v.a v.ys v.zs v.p,x=.If v.a v.ys v.zs v.p,True,True,True,True,x=.Try v.ys v.hs v.zs v.ws v.p,
 True,True,True,True,True,True,x=.Expr v.a v.p]
theorem ts(x:Stmt):zf (UI x (vS x)) x.ctorIdx:=by cases x<;>first|exact rfl|exact trivial
noncomputable def fR(x:Stmt)(k:Nat):Bool:=Nat.beq x.ctorIdx k
theorem iw{x:Stmt}(h:fR x k=true):zf (UI x (vS x)) k:=al_beq h▸ts x
abbrev Fx:=CS→Stmt→Tk→Option Tk
noncomputable def AB(f:Fx):List CS→List Stmt→Tk→Option Tk
 |[],xs,T=>zh xs (some T)
 |e::es,xs,T=>jW xs fun x xs=>(f e x T).bind fun T=>AB f es xs T
def LX(x:Stmt)(g:Expr→Option Tk):Option Tk:=ck (fR x 5) (jW (vS x).ts fun t r=>ck (isNil r) (g t))
def Am(x:Stmt)(b:Bool)(g:Expr→Option Tk):Option Tk:=LX x fun t=>ck (b&&nG (vS x).a) (g t)
def MG(S:Sp)(n:Nat)(K:qB)(cs:Bool)(y:Nat)(e:CE)(x:Stmt)(T:Tk):Option Tk:=LX x fun t=>ck (cN t 23&&y4 K.t cs y) (LV S n K y e (vS x).a (jA T (vX t).s y))
def HA(K:qB)(cs:Bool)(f:Ff)(ys:List Nat)(e:CE)(x:Stmt)(T:Tk):Option Tk:=Am x true fun t=>ck (cN t 25&&QT K.t ys (vX t).xs (vS x).a) ((Gm K.t cs ys (vX t).xs T).bind fun T=>f e (vS x).a T)
def A6(K:qB)(cs:Bool)(f:Ff)(o i:CE)(y:Nat)(e:CE)(x:Stmt)(T:Tk):Option Tk:=Am x (y4 K.t cs y&&Ia (vS x).a) fun t=>ck (cN t 25) (jW (vX t).xs fun q r=>jW r fun n r=>ck (isNil r&&(cN q 21&&cN n 23)) (sQ f o (vX q).a (jA T (vX n).s y) fun T=>sQ f i (vX q).b T fun T=>f e (vS x).a T))
def HM(S:Sp)(f:Ff)(o:CE)(y:Nat)(e:CE)(x:Stmt)(T:Tk):Option Tk:=Am x (gk y S.attrs) fun t=>ck (cN t 20) (sQ f o (vX t).a (jA T (vX t).s y) fun T=>f e (vS x).a T)
def HH(f:Ff)(o i e:CE)(x:Stmt)(T:Tk):Option Tk:=Am x true fun t=>ck (cN t 21) (sQ f o (vX t).a T fun T=>sQ f i (vX t).b T fun T=>f e (vS x).a T)
def HD(f:Ff)(o lo hi e:CE)(x:Stmt)(T:Tk):Option Tk:=Am x true fun t=>ck (cN t 21&&(cN (vX t).b 26&&tJ (vX (vX t).b).t)) (fM (vX (vX t).b).l fun l=>fM (vX (vX t).b).u fun u=>sQ f o (vX t).a T fun T=>sQ f lo l T fun T=>sQ f hi u T fun T=>f e (vS x).a T)
noncomputable def valOf(e:CE):AV:=match e with|.val v=>v|_=>.none
def xX(e:CE):Bool:=Nat.beq e.ctorIdx 1&&Nat.beq (valOf e).ctorIdx 0
def MB(f:Ff)(e:CE)(x:Stmt)(T:Tk):Option Tk:=ck (fR x 3) (match(vS x).o with
 |some y=>f e y T
 |none=>ck (xX e) (some T))
def MD(S:Sp)(n:Nat)(K:qB)(cs:Bool)(f:Fx)(tg:List Nat)(flat:Bool)(kind:Nat)(it:CE)(b:List CS)(x:Stmt)(T:Tk):Option Tk:=ck (fR x 9&&(isNil (vS x).zs&&(Nat.beq kind 0||!flat)))
 ((II K.t cs tg flat (vS x).a T).bind fun T=>(Gg S n K kind it (vS x).b T).bind fun T=>AB f b (vS x).ys T)
noncomputable def fX(S:Sp):Nat→qB→Bool→CS→Stmt→Tk→Option Tk
 |0,_,_,_,_,_=>none
 |n+1,K,cs,c,x,T=>match c with
  |.bU y e=>MG S n K cs y e x T
  |.cD ys e=>HA K cs (fE S n K) ys e x T
  |.aR o y e=>HM S (fE S n K) o y e x T
  |.jM o i e=>HH (fE S n K) o i e x T
  |.iP o lo hi e=>HD (fE S n K) o lo hi e x T
  |.iJ o i y e=>A6 K cs (fE S n K) o i y e x T
  |.ex e=>ck (fR x 24&&nG (vS x).a) (fE S n K e (vS x).a T)
  |.ret e=>MB (fE S n K) e x T
  |.ite t a b=>ck (fR x 12) (sQ (fE S n K) t (vS x).a T fun T=>(AB (fX S n K cs) a (vS x).ys T).bind fun T=>AB (fX S n K cs) b (vS x).zs T)
  |.for tg flat kind it b=>MD S n K cs (fX S n K cs) tg flat kind it b x T
  |.gQ ..=>none
  |.while t b=>ck (fR x 11&&isNil (vS x).zs) (sQ (fE S n K) t (vS x).a T fun T=>AB (fX S n K cs) b (vS x).ys T)
  |.try b=>ck (fR x 17&&(!isNil (vS x).hs&&(isNil (vS x).zs&&isNil (vS x).ws))) (AB (fX S n K cs) b (vS x).ys T)
  |.pass=>none
  |.bad _=>some T
structure FE where
 k:Nat
 i:Nat
 j:Option Nat
 a:Addr
 c:Addr
 df:Option Addr
 pm:Value
 lam:Bool
 ve:List (List Nat)
def jm(body:List Stmt)(i:Nat)(j:Option Nat):Str×SV:=match j with
 |none=>(Str.empty,vS (body.getD i default))
 |some j=>((vS (body.getD i default)).nm++(".":Str),vS ((vS (body.getD i default)).ys.getD j default))
noncomputable def WR(e:FE)(pre:Str)(v:SV):FuncData:={name:=v.nm,qualname:=pre++v.nm,params:=v.ar,body:=.stmts v.ys,scope:=v.sc,globals:=3,closure:=[],closureTuple:=.none,code:=.ref e.c,builtins:=builtinsNs,defaults:=(match e.df with|some d=>.ref d|none=>.none),kwdefaults:=.none,annotations:=none,pyModule:=e.pm,doc:=.none}
def fdOf(body:List Stmt)(e:FE):FuncData:=WR e (jm body e.i e.j).1 (jm body e.i e.j).2
noncomputable def Fw:List Nat→List Arg→Tk→Option Tk
 |[],xs,T=>zh xs (some T)
 |x::l,xs,T=>jW xs fun a r=>Fw l r (jA T a.arg x)
noncomputable def isFn(k:ScopeKind):Bool:=decide (k=.function)
def PW(a:Arguments):Bool:=isNil a.posonlyargs&&(tJ a.vararg&&(isNil a.kwonlyargs&&tJ a.kwarg))
def Us(S:Sp)(e:FE)(f:Fn)(v:SV)(p:kh×List Nat×Tk):Option Tk:=ck (PW v.ar&&(isFn v.sc.kind&&(!v.sc.isCoroutine&&(!v.sc.isGenerator&&(p.1.all (fun p=>!Nat.beq (kB p.2) 2)&&(f.ps.all (fun x=>iM (gP p.1 x) 0||iM (gP p.1 x) 1)&&gO f.ps))))))
 ((Fw f.ps v.ar.args p.2.2).bind fun T=>(AB (fX S 60 ⟨p.1,e.lam⟩ (!e.lam)) f.body v.ys T).bind fun T=>some (pushS p.2.1 v.sc.names T))
def fF(S:Sp)(fs:aE Fn)(body:List Stmt)(e:FE)(T:Tk):Option Tk:=fM (fs.get e.k) fun f=>fM (mi {T with ve:=e.ve} (jm body e.i e.j).2.sc.names) fun p=>Us S e f (jm body e.i e.j).2 p
noncomputable def Qt(S:Sp)(fs:aE Fn)(body:List Stmt):List FE→Tk→Option Tk
 |[],T=>some T
 |e::r,T=>(fF S fs body e T).bind fun T=>Qt S fs body r T
def ON(S:Sp)(r:LR)(T:Tk)(ps cs:List Nat)(e:CE)(p:kh×List Nat×Tk):Option Tk:=ck (PW r.params&&(isFn r.scope.kind&&(!r.scope.isCoroutine&&(!r.scope.isGenerator&&(p.1.all (fun p=>!Nat.beq (kB p.2) 1)&&(ps.all (fun x=>iM (gP p.1 x) 0)&&(p.1.all (fun p=>!Nat.beq (kB p.2) 2||gk p.1 cs)&&(cs.all (fun x=>iM (gP p.1 x) 2)&&(gO ps&&lEq r.bM cs)))))))))
 ((Fw ps r.params.args p.2.2).bind fun T'=>(fE S 60 ⟨p.1,false⟩ e r.body T').bind fun T'=>ck (isNil T'.o8) (some {pushS p.2.1 r.scope.names T' with o8:=T.o8}))
def Sw(S:Sp)(gn:aE (List Nat×List Nat×CE))(lG:List (Nat×List (List Nat)))(r:LR)(T:Tk):Option Tk:=fM (gn.get r.k) fun q=>fM (lG.lookup r.k) fun tp=>fM (mi {T with ve:=tp,o8:=[]} r.scope.names) fun p=>ON S r T q.1 q.2.1 q.2.2 p
noncomputable def zO(S:Sp)(gn:aE (List Nat×List Nat×CE))(lG:List (Nat×List (List Nat))):List LR→Tk→Option Tk
 |[],T=>some T
 |r::l,T=>(Sw S gn lG r T).bind fun T=>zO S gn lG l T
section
variable{kd:Kd}{K:qB}{cs:Bool}{T T':Tk}
theorem kG(R:KR C kd K){x:Nat}{s:Str}(e:s=C.nm x)(h:y4 K.t cs x=true):dR kd cs s:=by
 subst e;unfold dR;rw [R.k];rcases fA h with h|h
 ·exact .inl (tG h)
 ·refine aw (ae h:) fun a b=>?_
  exact .inr ⟨CC b,a⟩
theorem yj(R:KR C kd K):∀{tg:List Nat}{xs:List Expr}{T T':Tk},Gm K.t cs tg xs T=some T'→aO C T'→aO C T∧pq C kd cs tg xs:=by
 intro tg
 induction tg with
 |nil=>
  intro xs T T' h G;obtain⟨rfl,h⟩:=jd h
  injection h with h;subst h;exact⟨G,.nil⟩
 |cons x tg ih=>
  intro xs T T' h G;obtain⟨e,r,rfl,h⟩:=bA h
  refine aw (aB h:) fun h1 h2=>?_
  refine aw (ae h1:) fun h0 h1=>?_
  refine aw (ih h2 G:) fun g f=>?_
  refine aw (g.jA:) fun g q=>?_
  exact⟨g,cU (fun e=>pq C kd cs (x::tg) (e::r)) (kz h0) (.cons q (kG R q h1) f)⟩
theorem Di(R:KR C kd K){tg:List Nat}{xt:Expr}(h:II K.t cs tg flat xt T=some T')(G:aO C T'):aO C T∧mx C kd cs tg flat xt:=by
 cases flat with
 |true=>
  obtain⟨e,r,rfl,h⟩:=bA h
  refine aw (aB h:) fun h1 h=>?_
  refine aw (ae h1:) fun h2 h1=>?_
  refine aw (ae h1:) fun h0 h1=>?_
  injection h with h;subst h;refine aw (G.jA:) fun g q=>?_
  rw [bD h2];exact⟨g,cU (mx C kd cs [e] true) (kz h0) (.one q (kG R q h1))⟩
 |false=>
  refine aw (aB h:) fun h0 h=>?_
  refine aw (yj R h G:) fun g f=>?_
  exact⟨g,cU (mx C kd cs tg false) (yR h0) (.many f)⟩
theorem NL(a:cN x 8=false)(b:cN x 9=false)(c:cN x 10=false):bP x:=⟨a,b,c⟩
theorem lF(h:nG x=true):bP x:=NL (dh (ae h).1) (dh (ae (ae h).2).1) (dh (ae (ae h).2).2)
theorem B3(h:Ia x=true):∀es k p,x≠.Tuple es k p:=fun Y Y Y=>nO h rfl
theorem FO:∀{xs:List Nat}{ts:List Expr},pq C kd cs xs ts→xs.length=ts.length:=by
 intro es
 induction es with
 |nil=>exact fun h=>h.nl▸rfl
 |cons e es ihl=>exact fun h=>oK h.un fun Y Y Y q Y Y r=>q▸congrArg Nat.succ (ihl r)
theorem xJ(a b:Nat):Nat.beq a b=(a==b):=by rw [Bool.eq_iff_iff,beq_iff_eq];exact⟨al_beq,fun e=>e▸Nat.beq_refl a⟩
theorem namesOf(R:KR C kd K){env:PySem.Env}(hk:∀x,env.kindOf x=kd.k x)(l:Nat){F:Expr→Option Str}(hF:∀s pos,F (.Name s pos)=if(env.kindOf s==some .local&&pos.line==l)=true then some s else none):∀{xs:List Nat}{ts:List Expr},pq C kd cs xs ts→xs.all (fun x=>iM (gP K.t x) 0)=true→kJ l ts=true→
  ts.filterMap F=xs.map C.nm:=by
 intro xs
 induction xs with
 |nil=>exact fun h Y Y=>h.nl▸rfl
 |cons x xs ih=>
  intro ts h h1 h2;refine oK h.un fun s pos ts q e st r=>?_
  rw [q]at h2⊢;rw [List.all_cons]at h1;have:(env.kindOf s==some NameKind.local&&pos.line==l)=true:=by
   rw [hk,e,R.k,tG (ae h1).1,show pos.line=l from al_beq (ae h2).1];simp
  rw [List.filterMap_cons_some ((hF s pos).trans (if_pos this)),ih r (ae h1).2 (ae h2).2,e,List.map_cons]
theorem ya{P:Prop} [Decidable P]{a b c:α}{Q:Prop}(h:¬P→b=a∨(b=c∧Q)):(if P then a else b)=a∨((if P then a else b)=c∧Q):=by
 by_cases p:P
 ·exact .inl (if_pos p)
 ·rw [if_neg p];exact h p
theorem JK(R:KR C kd K){xs:List Nat}{ts vs:List Expr}{k':Nat}{p p':Pos}(hs:pq C kd cs xs ts)
  (h:(vs.all (foldedForSure 8)||(!(Nat.beq xs.length 2||Nat.beq xs.length 3)||(xs.all (fun x=>iM (gP K.t x) 0)&&(kJ (vH ts) ts&&(!vs.all (constantsAlone 8)&&gO xs)))))=true):yz C kd xs [.Tuple ts k p] (.Tuple vs k' p'):=by
 intro env hk hfun;have Wr:(ts.head?.map (·.pos.line)).getD 0=vH ts:=by
  cases xs with
  |nil=>exact hs.nl▸rfl
  |cons=>exact oK hs.un fun Y Y Y q Y Y Y=>q▸rfl
 unfold swappedStores;refine ya fun c1=>ya fun c2=>ya fun c3=>ya fun c4=>?_
 rcases fA h with h|h
 ·exact(c4 h).elim
 rcases fA h with h|h
 ·rw [xJ,xJ,FO hs]at h
  rw [h]at c1;exact(c1 rfl).elim
 refine aw (ae h:) fun h2 h=>?_
 refine aw (ae h:) fun h3 h=>?_
 refine aw (ae h:) fun h4 h5=>?_
 have c5:¬vs.all (constantsAlone 8)=true:=by rw [dh h4];exact Bool.false_ne_true
 exact .inr ⟨(if_neg c5).trans (congrArg (fun l=>pure (some l)) (namesOf R hk _ (fun Y Y=>rfl) hs h2 (by rw [Wr];exact h3))),jB h5⟩
theorem ES{ts:List Expr}{p:Pos}{env:PySem.Env}{ex:Expr}:cN ex 25=false→swappedStores [.Tuple ts k p] ex env=pure none:=by
 cases ex<;>first|exact fun Y=>rfl|exact fun h=>nomatch (show true=false from h)
theorem JL(R:KR C kd K){xs:List Nat}{ts:List Expr}{p:Pos}{ex:Expr}(hs:pq C kd cs xs ts)(h:QT K.t xs ts ex=true):yz C kd xs [.Tuple ts k p] ex:=by
 unfold QT at h;cases q:cN ex 25 with
 |true=>
  rw [q]at h;exact cU (yz C kd xs [.Tuple ts k p]) (yR q) (JK R hs h)
 |false=>exact fun env Y Y=>.inl (ES q)
end
section
variable{x:Stmt}
theorem Q3(h:fR x 3=true):x=.Return (vS x).o (vS x).p:=iw h
theorem Q6(h:fR x 5=true):x=.Assign (vS x).ts (vS x).a (vS x).p:=iw h
theorem Q4(h:fR x 9=true):x=.For (vS x).a (vS x).b (vS x).ys (vS x).zs (vS x).p:=iw h
theorem JZ(h:fR x 11=true):x=.While (vS x).a (vS x).ys (vS x).zs (vS x).p:=iw h
theorem Vi(h:fR x 12=true):x=.If (vS x).a (vS x).ys (vS x).zs (vS x).p:=iw h
theorem Q2(h:fR x 17=true):x=.Try (vS x).ys (vS x).hs (vS x).zs (vS x).ws (vS x).p:=iw h
theorem Q5(h:fR x 24=true):x=.Expr (vS x).a (vS x).p:=iw h
end
theorem DL(e:CE):zf [True,e=.val (valOf e),∃es,e=.t es,True,True,True,True,True,True,True,True,True,True,True,True,True,True,True,True,∃a b c d f,e=.comp a b c d f] e.ctorIdx:=by
 cases e<;>first|exact trivial|exact rfl|exact⟨_,rfl⟩|exact⟨_,_,_,_,_,rfl⟩
theorem PF(v:AV):zf [v=.none] v.ctorIdx:=by cases v<;>first|exact trivial|exact rfl
theorem Ly(h:Nat.beq e.ctorIdx 2=true):∃es,e=.t es:=by
 have:=DL e
 rw [al_beq h]at this;exact this
theorem GI(h:Nat.beq e.ctorIdx 19=true):∃a b c d f,e=.comp a b c d f:=by
 have:=DL e
 rw [al_beq h]at this;exact this
theorem GH(h:xX e=true):e=.val .none:=by
 refine aw (ae h:) fun h1 h2=>?_
 have a:=DL e
 rw [al_beq h1]at a;have b:=PF (valOf e)
 rw [al_beq h2]at b;exact Eq.trans a (congrArg CE.val b)
section
variable{kd:Kd}{K:qB}{cs:Bool}{T T':Tk}
theorem uz(h:DP x=true):x=.Call (.Name (vX (vX x).a).s (vX (vX x).a).p) (vX x).xs [] (vX x).p:=by
 refine aw (ae h:) fun h0 h=>?_
 refine aw (ae h:) fun h1 h2=>?_
 have e:=A1 h0
 rw [bD h1]at e;exact e.trans (congrArg (fun a=>Expr.Call a _ _ _) (kz h2))
theorem EJ{y z:Expr}(h:cP C kd es [y,z]):∃a b,es=[a,b]∧aU C kd a y∧aU C kd b z∧(∀w p,y≠.Starred w p)∧∀w p,z≠.Starred w p:=by
 cases es with
 |nil=>exact nomatch h.nl
 |cons a es=>
  refine Kk h.un fun x r q f1 s1 h=>?_
  injection q with q sd;subst q sd;cases es with
  |nil=>exact nomatch h.nl
  |cons b es=>
   refine Kk h.un fun x r q f2 s2 h=>?_
   injection q with q sd;subst q sd;cases es with
   |nil=>exact⟨a,b,rfl,f1,f2,s1,s2⟩
   |cons c es=>exact Fz h.un fun Y Y q=>nomatch q.1
theorem Dd(SO:eI C S)(R:KR C kd K){y z:Expr}(h:fE S n K (.t es) (.Tuple [y,z] 0 default) T=some T')(G:aO C T'):aO C T∧∃a b,es=[a,b]∧aU C kd a y∧aU C kd b z∧(∀w p,y≠.Starred w p)∧∀w p,z≠.Starred w p:=by
 cases n with
 |zero=>injection h
 |succ n=>
  have h:fL (fE S n K) es [y,z] T=some T':=h
  refine aw (l5 (l6 SO n K kd R) h G:) fun g h=>?_
  refine⟨g,?_⟩
  exact EJ h
theorem Ge(SO:eI C S)(R:KR C kd K):∀{kind:Nat}{it:CE}{x:Expr},Gg S n K kind it x T=some T'→aO C T'→aO C T∧Ho C kd kind it x
 |0,_,_,h,G=>⟨(l6 SO n K kd R _ _ _ _ h G).1,.plain (l6 SO n K kd R _ _ _ _ h G).2⟩
 |1,it,x,h,G=>by
  refine d9 (bA h:) fun y r ey h=>?_
  refine aw (aB h:) fun h1 h=>?_
  refine aw (ae h1:) fun hc h1=>?_
  refine aw (ae h1:) fun hr h1=>?_
  refine aw (ae h1:) fun a b=>?_
  refine aw (l6 SO n K kd R _ _ _ _ h G:) fun g f=>?_
  refine aw (g.jA:) fun g e=>?_
  have q:=uz hc
  rw [ey,bD hr,e,SO.en]at q;exact⟨g,cU (Ho C kd 1 it) q (.enum (by rw [←SO.en,R.k];exact KC a) f fun Y Y=>nO b rfl)⟩
 |2,it,x,h,G=>by
  refine d9 (bA h:) fun y r ey h=>?_
  refine d9 (bA h:) fun z r' ez h=>?_
  refine aw (aB h:) fun h1 h=>?_
  refine aw (ae h1:) fun hc h1=>?_
  refine aw (ae h1:) fun hr h1=>?_
  refine aw (ae h1:) fun a b=>?_
  obtain⟨es,rfl⟩:=Ly b
  obtain⟨g,u,v,rfl,f1,f2,s1,s2⟩:=Dd SO R h G
  refine aw (g.jA:) fun g e=>?_
  have q:=uz hc
  rw [ey,ez,bD hr,e,SO.zp]at q;exact⟨g,cU (Ho C kd 2 (.t [u,v])) q (.zip (by rw [←SO.zp,R.k];exact KC a) f1 f2 s1 s2)⟩
 |_+3,_,_,h,_=>nomatch h
theorem sf:∀{l:List Nat}{names:List (Str×NameKind)}{t:kh},AW l names=some t→∀p∈t,p.1∈l
 |[],[],_,h,_,m=>by injection h with h;subst h;cases m
 |[],_::_,_,h,_,_=>nomatch h
 |x::l,names,t,h,q,m=>by
  obtain⟨p,r,rfl,h⟩:=bA h
  refine aC (aL h:) fun t' e h=>?_
  injection h with h;subst h;rcases al_mc m with rfl|m
  ·exact al_self
  ·exact al_con _ (sf e q m)
theorem Fo{names:List (Str×NameKind)}{p:kh×List Nat×Tk}(h:mi T names=some p):∀q∈p.1,q.1∈yd T:=by
 refine d9 (bA h:) fun l r e h=>?_
 refine aC (aL h:) fun t q h=>?_
 injection h with h;subst h;unfold yd;rw [e];exact sf q
theorem wG(SO:eI C S){elt it:CE}{tg:List Nat}{ifs:List CE}{ex:Expr}(h1:(!gk y (yd T))=true)(h:fE S n K (.comp elt tg flat it ifs) ex T=some T')(G:aO C T'):
  ∃xe xt xi xs sc p,ex=.ListComp xe [⟨xt,xi,xs,0⟩] sc p∧∀z∈sc.names,z.1≠C.nm y:=by
 cases n with
 |zero=>injection h
 |succ n=>
  refine aw (aB h:) fun h0 h=>?_
  obtain⟨⟨gt,gi,gf,ga⟩,gs,eg,h⟩:=bA h
  refine aw (aB h:) fun hn h=>?_
  refine aC (aL h:) fun p hp h=>?_
  refine aw (aB h:) fun hd h=>?_
  refine aC (aW h:) fun T2 Y h=>?_
  refine aC (aW h:) fun T3 Y h=>?_
  refine aC (aW h:) fun T4 Y h=>?_
  refine aC (aW h:) fun T5 Y h=>?_
  have e:=TF h0
  rw [eg,bD hn]at e;rw [←(show(0:Int)=ga from(PySem.W.Z.eqB_iff ..).mp (ae (ae hd).2).1)]at e
  refine⟨_,_,_,_,_,_,e,fun z m q=>?_⟩
  have m2:=Fo hp
  obtain⟨t,l,T1⟩:=p
  injection h with h;subst h;refine aw (xE hp (ae hd).1 G:) fun Y e=>?_
  rcases mN e m with rfl|⟨p',KQ,rfl⟩
  ·exact SO.H9 _ q.symm
  ·exact nL (dh h1) (SO.inj _ _ q▸m2 p' KQ)
theorem LQ(SO:eI C S)(R:KR C kd K){ex:Expr}{s:Str}{p pos:Pos}(hy:y4 K.t cs y=true)(h:LV S n K y e ex (jA T s y)=some T')(G:aO C T'):aO C T∧fD C kd cs (.bU y e) (.Assign [.Name s p] ex pos):=by
 unfold LV at h;cases q:Nat.beq e.ctorIdx 19 with
 |true=>
  rw [q]at h;refine aw (aB h:) fun h1 h=>?_
  obtain⟨elt,tg,flat,it,ifs,rfl⟩:=GI q
  obtain⟨xe,xt,xi,xs,sc,lp,ee,ap⟩:=wG SO h1 h G
  refine aw (l6 SO n K kd R _ _ _ _ h G:) fun g f=>?_
  refine aw (g.jA:) fun g es=>?_
  rw [←es]at ap;rw [ee]at f⊢;exact⟨g,.Tc es (kG R es hy) f ap⟩
 |false=>
  rw [q]at h;refine aw (aB h:) fun h1 h=>?_
  refine aw (l6 SO n K kd R _ _ _ _ h G:) fun g f=>?_
  refine aw (g.jA:) fun g es=>?_
  exact⟨g,.bU es (kG R es hy) f (lF h1)⟩
def Mq(C:Cx)(kd:Kd)(cs:Bool)(f:Fx):Prop:=∀e x T T',f e x T=some T'→aO C T'→aO C T∧fD C kd cs e x
theorem lM{f:Fx}(H:Mq C kd cs f):∀{es:List CS}{xs:List Stmt}{T T':Tk},AB f es xs T=some T'→aO C T'→aO C T∧cQ C kd cs es xs:=by
 intro es
 induction es with
 |nil=>
  intro xs T T' h G;obtain⟨rfl,h⟩:=jd h
  injection h with h;subst h;exact⟨G,.nil⟩
 |cons e es ih=>
  intro xs T T' h G;obtain⟨x,r,rfl,h⟩:=bA h
  refine aC (aW h:) fun T1 h2 h3=>?_
  refine aw (ih h3 G:) fun g f2=>?_
  refine aw (H _ _ _ _ h2 g:) fun g f1=>?_
  exact⟨g,.cons f1 f2⟩
variable{f:Ff}{fx:Fx}{x:Stmt}
theorem uD{g:Expr→Option Tk}(h:LX x g=some T'):∃t,x=.Assign [t] (vS x).a (vS x).p∧g t=some T':=by
 refine aw (aB h:) fun h0 h=>?_
 refine d9 (bA h:) fun t r e h=>?_
 refine aw (aB h:) fun h1 h=>?_
 have q:=Q6 h0
 rw [e,bD h1]at q;exact⟨t,q,h⟩
theorem ju{b:Bool}{g:Expr→Option Tk}(h:Am x b g=some T'):∃t,x=.Assign [t] (vS x).a (vS x).p∧b=true∧bP (vS x).a∧g t=some T':=by
 refine aC (uD h:) fun t e h=>?_
 refine aw (aB h:) fun h1 h=>?_
 refine aw (ae h1:) fun h1 h2=>?_
 exact⟨t,e,h1,lF h2,h⟩
theorem qw{c:CS}{t t':Expr}(e:x=.Assign [t] (vS x).a (vS x).p)(q:t=t')(h:fD C kd cs c (.Assign [t'] (vS x).a (vS x).p)):fD C kd cs c x:=cU (fD C kd cs c) (e.trans (congrArg (fun t=>Stmt.Assign [t] _ _) q)) h
theorem EH(SO:eI C S)(R:KR C kd K)(h:MG S n K cs y e x T=some T')(G:aO C T'):aO C T∧fD C kd cs (.bU y e) x:=by
 refine aC (uD h:) fun t q h=>?_
 refine aw (aB h:) fun h1 h=>?_
 refine aw (ae h1:) fun h0 h1=>?_
 refine aw (LQ (p:=(vX t).p) (pos:=(vS x).p) SO R h1 h G:) fun g f=>?_
 exact⟨g,qw q (kz h0) f⟩
theorem A3(R:KR C kd K)(H:Hf C kd f){ys:List Nat}(h:HA K cs f ys e x T=some T')(G:aO C T'):aO C T∧fD C kd cs (.cD ys e) x:=by
 refine Ay (ju h:) fun t q Y nc h=>?_
 refine aw (aB h:) fun h1 h=>?_
 refine aw (ae h1:) fun h0 h1=>?_
 refine aC (aW h:) fun T1 h2 h3=>?_
 refine aw (H _ _ _ _ h3 G:) fun g f2=>?_
 refine aw (yj R h2 g:) fun g f1=>?_
 exact⟨g,qw q (yR h0) (.cD f1 f2 nc (JL R f1 h1))⟩
theorem yT(R:KR C kd K)(H:Hf C kd f){o i:CE}(h:A6 K cs f o i y e x T=some T')(G:aO C T'):aO C T∧fD C kd cs (.iJ o i y e) x:=by
 refine Ay (ju h:) fun t q h1 nc h=>?_
 refine aw (ae h1:) fun h1 h2=>?_
 refine aw (aB h:) fun h0 h=>?_
 refine d9 (bA h:) fun u r eu h=>?_
 refine d9 (bA h:) fun w r' ew h=>?_
 refine aw (aB h:) fun h3 h=>?_
 refine aw (ae h3:) fun h3 h4=>?_
 refine aw (ae h4:) fun h4 h5=>?_
 refine lx (iZ H h G:) fun g f1 f2 f3=>?_
 refine aw (g.jA:) fun g e=>?_
 have p:=yR h0
 rw [eu,ew,bD h3]at p;have p:=p.trans (congrArg (fun u=>Expr.Tuple [u,w] _ _) (yS h4))
 exact⟨g,qw q (p.trans (congrArg (fun w=>Expr.Tuple [_,w] _ _) (kz h5))) (.iJ e (kG R e h1) f1 f2 f3 nc (B3 h2))⟩
theorem A7(SO:eI C S)(H:Hf C kd f){o:CE}(h:HM S f o y e x T=some T')(G:aO C T'):aO C T∧fD C kd cs (.aR o y e) x:=by
 refine Ay (ju h:) fun t q h1 nc h=>?_
 refine aw (aB h:) fun h0 h=>?_
 refine dz (m7 H h G:) fun g f1 f2=>?_
 refine aw (g.jA:) fun g e=>?_
 exact⟨g,qw q (A2 h0) (.aR e (SO.attrs _ h1) f1 f2 nc)⟩
theorem A5(H:Hf C kd f){o i:CE}(h:HH f o i e x T=some T')(G:aO C T'):aO C T∧fD C kd cs (.jM o i e) x:=by
 refine Ay (ju h:) fun t q Y nc h=>?_
 refine aw (aB h:) fun h0 h=>?_
 refine lx (iZ H h G:) fun g f1 f2 f3=>?_
 exact⟨g,qw q (yS h0) (.jM f1 f2 f3 nc)⟩
theorem A4(H:Hf C kd f){o lo hi:CE}(h:HD f o lo hi e x T=some T')(G:aO C T'):aO C T∧fD C kd cs (.iP o lo hi e) x:=by
 refine Ay (ju h:) fun t q Y nc h=>?_
 refine aw (aB h:) fun h1 h=>?_
 refine aw (ae h1:) fun h0 h1=>?_
 refine aw (ae h1:) fun h1 h2=>?_
 refine aC (aL h:) fun l el h=>?_
 refine aC (aL h:) fun u eu h=>?_
 refine aC (aW h:) fun T1 h3 h=>?_
 refine lx (iZ H h G:) fun g f2 f3 f4=>?_
 refine aw (H _ _ _ _ h3 g:) fun g f1=>?_
 have p:=QF h1
 rw [ix h2,el,eu]at p;exact⟨g,qw q ((yS h0).trans (congrArg (fun b=>Expr.Subscript _ b _) p)) (.iP f1 f2 f3 f4 nc)⟩
theorem EE(H:Hf C kd f)(h:MB f e x T=some T')(G:aO C T'):aO C T∧fD C kd cs (.ret e) x:=by
 refine aw (aB h:) fun h0 h=>?_
 have q:=Q3 h0
 cases eo:(vS x).o with
 |some y=>
  rw [eo]at h q;refine aw (H _ _ _ _ h G:) fun g f1=>?_
  exact⟨g,cU (fD C kd cs (.ret e)) q (.ret f1)⟩
 |none=>
  rw [eo]at h q;refine aw (aB h:) fun h1 h=>?_
  injection h with h;subst h;rw [GH h1];exact⟨G,cU (fD C kd cs (.ret (.val .none))) q .Rc⟩
theorem EF(SO:eI C S)(R:KR C kd K)(HX:Mq C kd cs fx){kind:Nat}{tg:List Nat}{it:CE}{b:List CS}(h:MD S n K cs fx tg flat kind it b x T=some T')(G:aO C T'):aO C T∧fD C kd cs (.for tg flat kind it b) x:=by
 refine aw (aB h:) fun h1 h=>?_
 refine aw (ae h1:) fun h0 h1=>?_
 refine aw (ae h1:) fun h2 h1=>?_
 refine aC (aW h:) fun T1 h3 h=>?_
 refine aC (aW h:) fun T2 h4 h=>?_
 refine aw (lM HX h G:) fun g f3=>?_
 refine aw (Ge SO R h4 g:) fun g f2=>?_
 refine aw (Di R h3 g:) fun g f1=>?_
 exact⟨g,cU (fD C kd cs (.for tg flat kind it b)) ((Q4 h0).trans (congrArg (fun z=>Stmt.For _ _ _ z _) (bD h2))) (.for f1 ((fA h1).imp al_beq dh) f2 f3)⟩
theorem Ju(H:Hf C kd f)(HX:Mq C kd cs fx){t:CE}{a b:List CS}(h:ck (fR x 12) (sQ f t (vS x).a T fun T=>(AB fx a (vS x).ys T).bind fun T=>AB fx b (vS x).zs T)=some T')(G:aO C T'):aO C T∧fD C kd cs (.ite t a b) x:=by
 refine aw (aB h:) fun h0 h=>?_
 refine aC (aW h:) fun T1 h3 h=>?_
 refine aC (aW h:) fun T2 h4 h=>?_
 refine aw (lM HX h G:) fun g f3=>?_
 refine aw (lM HX h4 g:) fun g f2=>?_
 refine aw (H _ _ _ _ h3 g:) fun g f1=>?_
 exact⟨g,cU (fD C kd cs (.ite t a b)) (Vi h0) (.ite f1 f2 f3)⟩
theorem yQ(H:Hf C kd f)(HX:Mq C kd cs fx){t:CE}{b:List CS}(h:ck (fR x 11&&isNil (vS x).zs) (sQ f t (vS x).a T fun T=>AB fx b (vS x).ys T)=some T')(G:aO C T'):aO C T∧fD C kd cs (.while t b) x:=by
 refine aw (aB h:) fun h1 h=>?_
 refine aw (ae h1:) fun h0 h1=>?_
 refine aC (aW h:) fun T1 h3 h=>?_
 refine aw (lM HX h G:) fun g f2=>?_
 refine aw (H _ _ _ _ h3 g:) fun g f1=>?_
 exact⟨g,cU (fD C kd cs (.while t b)) ((JZ h0).trans (congrArg (fun z=>Stmt.While _ _ z _) (bD h1))) (.while f1 f2)⟩
theorem ED(HX:Mq C kd cs fx){b:List CS}(h:ck (fR x 17&&(!isNil (vS x).hs&&(isNil (vS x).zs&&isNil (vS x).ws))) (AB fx b (vS x).ys T)=some T')(G:aO C T'):aO C T∧fD C kd cs (.try b) x:=by
 refine aw (aB h:) fun h1 h=>?_
 refine aw (ae h1:) fun h0 h1=>?_
 refine aw (ae h1:) fun h2 h1=>?_
 refine aw (ae h1:) fun h3 h4=>?_
 refine aw (lM HX h G:) fun g f1=>?_
 have q:=Q2 h0
 rw [bD h3,bD h4]at q;cases eh:(vS x).hs with
 |nil=>rw [eh]at h2;injection h2
 |cons a r=>
  rw [eh]at q;exact⟨g,cU (fD C kd cs (.try b)) q (.try f1)⟩
theorem Jv(H:Hf C kd f)(h:ck (fR x 24&&nG (vS x).a) (f e (vS x).a T)=some T')(G:aO C T'):aO C T∧fD C kd cs (.ex e) x:=by
 refine aw (aB h:) fun h1 h=>?_
 refine aw (ae h1:) fun h0 h1=>?_
 refine aw (H _ _ _ _ h G:) fun g f1=>?_
 exact⟨g,cU (fD C kd cs (.ex e)) (Q5 h0) (.ex f1 (lF h1))⟩
theorem OJ(SO:eI C S)(R:KR C kd K):∀n:Nat,Mq C kd cs (fX S n K cs):=by
 intro n
 induction n with
 |zero=>intro c x T T' h;injection h
 |succ n HX=>
  intro c;have H:=l6 SO n K kd R
  cases c with
  |bU y e=>exact fun x T T'=>EH SO R
  |cD ys e=>exact fun x T T'=>A3 R H
  |aR o y e=>exact fun x T T'=>A7 SO H
  |jM o i e=>exact fun x T T'=>A5 H
  |iP o lo hi e=>exact fun x T T'=>A4 H
  |iJ o i y e=>exact fun x T T'=>yT R H
  |ex e=>exact fun x T T'=>Jv H
  |ret e=>exact fun x T T'=>EE H
  |ite t a b=>exact fun x T T'=>Ju H HX
  |«for» tg flat kind it b=>exact fun x T T'=>EF SO R HX
  |gQ=>exact fun x T T' h=>nomatch h
  |«while» t b=>exact fun x T T'=>yQ H HX
  |«try» b=>exact fun x T T'=>ED HX
  |pass=>exact fun x T T' h=>nomatch h
  |bad n=>intro x T T' h G;injection h with h;subst h;exact⟨G,.bad⟩
end
def ny(body:List Stmt)(e:FE):Str:=(fdOf body e).qualname
structure HF(C:Cx)(body:List Stmt)(e:FE)(f:Fn):Prop where
 a:C.mv e.k=e.a
 get:C.hb.get? e.a=some {cls:=.type "function",data:=.func (fdOf body e)}
 code:C.hb.CodeRec (.ref e.c) (ny body e)
 W6:∃ds:List Value,ds.length≤f.ps.length∧((e.df=none∧ds=[])∨∃T o n,e.df=some T∧C.hb.get? T=some o∧o.data=.seq ds.toArray n)∧∀J M h,(∀b o,C.hb.get? b=some o→¬M b∧h.get? b=some o)→ay C J M h f.df ds
 tab:e.lam=true→∃P,(e.c,P)∈C.tabs∧∀pos,C.tD P pos=(ny body e++".<locals>.")++"<lambda>"
section
variable{kd:Kd}{K:qB}{cs:Bool}{T T':Tk}
theorem qW:∀{ps:List Nat}{args:List Arg}{T T':Tk},Fw ps args T=some T'→aO C T'→aO C T∧args.map (·.arg)=ps.map C.nm
 |[],_,_,_,h,G=>by
  obtain⟨rfl,h⟩:=jd h
  injection h with h;subst h;exact⟨G,rfl⟩
 |x::l,_,T,T',h,G=>by
  obtain⟨a,r,rfl,h⟩:=bA h
  refine aw (qW (ps:=l) (args:=r) (T:=jA T a.arg x) h G:) fun g e=>?_
  refine aw (g.jA:) fun g e'=>?_
  exact⟨g,by rw [List.map_cons,List.map_cons,e,e']⟩
theorem Ig(SO:eI C S){ps:List Nat}(h:gO ps=true):(ps.map C.nm).Nodup:=List.pairwise_map.mpr ((jB h).imp fun hne q=>hne (SO.inj _ _ q))
theorem mV{names:List (Str×NameKind)}{x:Str}{k:NameKind}:names.lookup x=some k→(x,k)∈names:=by
 induction names with
 |nil=>intro h;injection h
 |cons p r ih=>
  intro h;rw [List.lookup_cons]at h;cases q:x==p.1 with
  |true=>rw [q]at h;injection h with h;subst h;rw [beq_iff_eq.mp q];exact al_self
  |false=>rw [q]at h;exact al_con _ (ih h)
theorem xZ{k:ScopeKind}(h:isFn k=true):k=.function:=of_decide_eq_true h
theorem D8{a:Arguments}(h:PW a=true):a.posonlyargs=[]∧a.vararg=none∧a.kwonlyargs=[]∧a.kwarg=none:=
 ⟨bD (ae h).1,ix (ae (ae h).2).1,bD (ae (ae (ae h).2).2).1,ix (ae (ae (ae h).2).2).2⟩
structure Qb(C:Cx)(e:FE)(f:Fn)(v:SV)(t:kh):Prop where
 ar:PW v.ar=true
 kind:v.sc.kind=.function
 co:v.sc.isCoroutine=false
 gen:v.sc.isGenerator=false
 free:t.all (fun p=>!Nat.beq (kB p.2) 2)=true
 loc:f.ps.all (fun x=>iM (gP t x) 0||iM (gP t x) 1)=true
 nd:gO f.ps=true
 en:v.sc.names=t.map (fun p=>(C.nm p.1,p.2))
 ea:v.ar.args.map (·.arg)=f.ps.map C.nm
theorem Lh(SO:eI C S){e:FE}{f:Fn}{v:SV}{p:kh×List Nat×Tk}(hp:mi T v.sc.names=some p)(h:Us S e f v p=some T')(G:aO C T')
  (R:v.sc.names=p.1.map (fun p=>(C.nm p.1,p.2))→KR C kd ⟨p.1,e.lam⟩):aO C T∧Qb C e f v p.1∧cQ C kd (!e.lam) f.body v.ys:=by
 obtain⟨t,l,T1⟩:=p
 refine aw (aB h:) fun h1 h=>?_
 refine aC (aW h:) fun T2 h2 h=>?_
 refine aC (aW h:) fun T3 h3 h=>?_
 injection h with h;subst h;refine aw (mE hp G:) fun g en=>?_
 refine aw (lM (OJ (cs:=!e.lam) SO (R en) 60) h3 g:) fun g fx=>?_
 refine aw (qW h2 g:) fun g ea=>?_
 refine aw (ae h1:) fun a0 h1=>?_
 refine aw (ae h1:) fun a1 h1=>?_
 refine aw (ae h1:) fun a2 h1=>?_
 refine aw (ae h1:) fun a3 h1=>?_
 refine aw (ae h1:) fun a4 h1=>?_
 refine aw (ae h1:) fun a5 a6=>?_
 exact⟨jy hp g,⟨a0,xZ a1,dh a2,dh a3,a4,a5,a6,en,ea⟩,fx⟩
theorem Qb.qY{e:FE}{f:Fn}{v:SV}(V:Qb C e f v t)(x:Str)(q:v.sc.names.lookup x=some .free):False:=by
 refine aC (ku V.en (mV q):) fun p hp ep=>?_
 exact CD (a:=p.2) (b:=.free) rfl (al_all V.free p hp) (Prod.mk.inj ep).2.symm
theorem Qb.kinds{e:FE}{f:Fn}{v:SV}(SO:eI C S)(V:Qb C e f v t):∀x∈f.ps,v.sc.names.lookup (C.nm x)=some .local∨v.sc.names.lookup (C.nm x)=some .cell:=fun x m=>by
 rw [V.en,dU SO.inj];exact(fA (al_all V.loc x m)).imp tG CC
def kdOf(body:List Stmt)(e:FE):Kd:=⟨fun x=>(jm body e.i e.j).2.sc.names.lookup x,if e.lam then some e.c else none,ny body e++".<locals>."⟩
theorem Ob(SO:eI C S){body:List Stmt}{e:FE}{f:Fn}(H:HF C body e f)(en:(jm body e.i e.j).2.sc.names=t.map (fun p=>(C.nm p.1,p.2))):KR C (kdOf body e) ⟨t,e.lam⟩:=by
 refine⟨fun x=>?_,fun hl=>?_⟩
 ·show(jm body e.i e.j).2.sc.names.lookup (C.nm x)=gP t x
  rw [en];exact dU SO.inj x t
 ·refine aC (H.tab hl:) fun P p1 p2=>?_
  exact⟨e.c,P,if_pos hl,p1,p2⟩
theorem OQ(SO:eI C S){fs:aE Fn}{body:List Stmt}{e:FE}{f:Fn}(hf:fs.get e.k=some f)(h:fF S fs body e T=some T')(G:aO C T')(H:HF C body e f):aO C T∧uN C e.k f:=by
 refine aC (aL h:) fun f' ef h=>?_
 cases hf.symm.trans ef
 refine aC (aL h:) fun p hp h=>?_
 refine dz (Lh SO hp h G (Ob SO H):) fun g V fx=>?_
 refine⟨⟨g.1,g.2⟩,?_⟩
 refine lu (H.W6:) fun ds d1 d2 d3=>?_
 refine lx (D8 V.ar:) fun r1 r2 r3 r4=>?_
 exact⟨{cls:=.type "function",data:=.func (fdOf body e)},fdOf body e,(jm body e.i e.j).2.ys,!e.lam,ds,kdOf body e,{
  at_:=H.a▸H.get
  data:=rfl
  code:=H.code
  nP:=rfl
  uU:=rfl
  glob:=rfl
  iO:=rfl
  kind:=V.kind
  co:=V.co
  gen:=V.gen
  pos:=r1
  args:=V.ea
  vararg:=r2
  N9:=r3
  kwarg:=r4
  nd:=Ig SO V.nd
  Pd:=d1
  dflt:=by
   rcases d2 with⟨q1,q2⟩|⟨T,o,n,q1,q2,q3⟩
   ·exact .inl ⟨show(match e.df with|some d=>Value.ref d|none=>.none)=_ by rw [q1],q2⟩
   ·exact .inr ⟨T,o,n,show(match e.df with|some d=>Value.ref d|none=>.none)=_ by rw [q1],q2,q3⟩
  Pb:=d3
  qY:=fun x q=>V.qY x q
  kinds:=V.kinds SO
  Ep:=rfl
  nT:=fun c q=>by
   cases hl:e.lam with
   |true=>
    have q:(if e.lam then some e.c else none)=some c:=q
    rw [hl]at q;injection q with q;subst q;exact⟨rfl,rfl,rfl⟩
   |false=>
    have q:(if e.lam then some e.c else none)=some c:=q
    rw [hl]at q;injection q
  fits:=fx}⟩
structure Tu(C:Cx)(r:LR)(ps cs:List Nat)(e:CE)(t:kh):Prop where
 ar:PW r.params=true
 kind:r.scope.kind=.function
 co:r.scope.isCoroutine=false
 gen:r.scope.isGenerator=false
 cell:t.all (fun p=>!Nat.beq (kB p.2) 1)=true
 loc:ps.all (fun x=>iM (gP t x) 0)=true
 free:t.all (fun p=>!Nat.beq (kB p.2) 2||gk p.1 cs)=true
 apart:cs.all (fun x=>iM (gP t x) 2)=true
 nd:gO ps=true
 bM:r.bM=cs
 en:r.scope.names=t.map (fun p=>(C.nm p.1,p.2))
 ea:r.params.args.map (·.arg)=ps.map C.nm
 fits:aU C ⟨fun x=>r.scope.names.lookup x,none,""⟩ e r.body
theorem Gn(SO:eI C S){r:LR}{T0:Tk}{ps cs:List Nat}{p:kh×List Nat×Tk}(hp:mi T0 r.scope.names=some p)(h:ON S r T ps cs e p=some T')(G:aO C T'):aO C T0∧Tu C r ps cs e p.1:=by
 obtain⟨t,l,T1⟩:=p
 refine aw (aB h:) fun h1 h=>?_
 refine aC (aW h:) fun T2 h2 h=>?_
 refine aC (aW h:) fun T3 h3 h=>?_
 refine aw (aB h:) fun hl h=>?_
 injection h with h;subst h;refine aw (mE (C:=C) (T':=T3) hp ⟨G.1,(fun x m=>by rw [show(pushS l r.scope.names T3).o8=[]from bD hl]at m;cases m),G.2.2⟩:) fun g en=>?_
 have R:KR C ⟨fun x=>r.scope.names.lookup x,none,""⟩ ⟨t,false⟩:=⟨fun x=>by
  show r.scope.names.lookup (C.nm x)=gP t x;rw [en];exact dU SO.inj x t,fun hl=>by injection hl⟩
 refine aw (l6 SO 60 _ _ R _ _ _ _ h3 g:) fun g fx=>?_
 refine aw (qW h2 g:) fun g ea=>?_
 refine aw (ae h1:) fun a0 h1=>?_
 refine aw (ae h1:) fun a1 h1=>?_
 refine aw (ae h1:) fun a2 h1=>?_
 refine aw (ae h1:) fun a3 h1=>?_
 refine aw (ae h1:) fun a4 h1=>?_
 refine aw (ae h1:) fun a5 h1=>?_
 refine aw (ae h1:) fun a6 h1=>?_
 refine aw (ae h1:) fun a7 h1=>?_
 refine aw (ae h1:) fun a8 a9=>?_
 exact⟨jy hp g,⟨a0,xZ a1,dh a2,dh a3,a4,a5,a6,a7,a8,kc a9,en,ea,fx⟩⟩
theorem Tu.fn(SO:eI C S){r:LR}{ps cs:List Nat}(V:Tu C r ps cs e t)(fd:FuncData)(b1:fd.body=.expr r.body)(b2:fd.params=r.params)(b3:fd.scope=r.scope)(b4:fd.globals=mainGlobals)(b5:fd.builtins=builtinsNs)(b6:fd.defaults=.none):
  oH C r.k ps cs e fd r.body ⟨fun x=>r.scope.names.lookup x,none,""⟩:=by
 refine lx (D8 V.ar:) fun r1 r2 r3 r4=>?_
 exact{
  nP:=b1
  glob:=b4
  iO:=b5
  kind:=b3▸V.kind
  co:=b3▸V.co
  gen:=b3▸V.gen
  pos:=b2▸r1
  args:=b2▸V.ea
  vararg:=b2▸r2
  N9:=b2▸r3
  kwarg:=b2▸r4
  dflt:=b6
  nd:=Ig SO V.nd
  cell:=fun x m=>by
   rw [b3]at m;obtain⟨p,hp,rfl⟩:=ku V.en m
   exact CD rfl (al_all V.cell p hp)
  loc:=fun x m=>by
   rw [b3,V.en,dU SO.inj];exact tG (al_all V.loc x m)
  free:=fun x q=>by
   rw [b3]at q;refine aC (ku V.en (mV q):) fun p hp ep=>?_
   refine aw (Prod.mk.inj ep:) fun e1 e2=>?_
   have:=al_all V.free p hp
   rw [←e2]at this;exact⟨p.1,jf (rr this rfl),e1⟩
  apart:=fun x m=>by
   rw [b3,V.en,dU SO.inj];exact FR (al_all V.apart x m)
  Ep:=by rw [b3]
  nT:=rfl
  fits:=V.fits}
theorem t8{gn:aE (List Nat×List Nat×CE)}{lt:List (Nat×List (List Nat))}{r:LR}{T T':Tk}(h:Sw S gn lt r T=some T'):T'.o8=T.o8:=by
 refine aC (aL h:) fun q Y h=>?_
 refine aC (aL h:) fun tp Y h=>?_
 refine aC (aL h:) fun p Y h=>?_
 refine aw (aB h:) fun Y h=>?_
 refine aC (aW h:) fun T2 Y h=>?_
 refine aC (aW h:) fun T3 Y h=>?_
 refine aw (aB h:) fun Y h=>?_
 injection h with h;subst h;rfl
theorem Lg(SO:eI C S){gn:aE (List Nat×List Nat×CE)}{lt:List (Nat×List (List Nat))}{r:LR}(h:Sw S gn lt r T=some T')(G:aO C T'):aO C T∧∀ps cs e,gn.get r.k=some (ps,cs,e)→
  r.bM=cs∧∀fd:FuncData,fd.body=.expr r.body→fd.params=r.params→fd.scope=r.scope→fd.globals=mainGlobals→fd.builtins=builtinsNs→fd.defaults=.none→∃body kd,oH C r.k ps cs e fd body kd:=by
 have hs:=t8 h
 refine aC (aL h:) fun q eq h=>?_
 refine aC (aL h:) fun tp Y h=>?_
 refine aC (aL h:) fun p hp h=>?_
 refine aw (Gn SO hp h G:) fun g V=>?_
 refine⟨⟨g.1,hs▸G.2.1,g.2.2⟩,fun ps cs e q'=>?_⟩
 cases eq.symm.trans q'
 exact⟨V.bM,fun fd b1 b2 b3 b4 b5 b6=>⟨_,_,V.fn SO fd b1 b2 b3 b4 b5 b6⟩⟩
theorem qi{gn:aE (List Nat×List Nat×CE)}{lt:List (Nat×List (List Nat))}:∀(l:List LR)(T T':Tk),zO S gn lt l T=some T'→T'.o8=T.o8
 |[],T,T',h=>by injection h with h;subst h;rfl
 |r::l,T,T',h=>by
  unfold zO at h;refine aC (aW h:) fun T1 h1 h2=>?_
  exact(qi l T1 T' h2).trans (t8 h1)
end
noncomputable def iV(i:Int):CE:=.val (.int (.c i))
noncomputable def sV(l:List Nat):CE:=.val (.str l)
noncomputable def cG(k:Nat)(l:List CE):CE:=.call (.eM k) l
noncomputable def tN(v:α)(l r:aE α):aE α:=.node (some v) l r
noncomputable def tM(l r:aE α):aE α:=.node none l r
noncomputable def tO:aE α:=.nil
def n5:List CS:=[.bU 138 (iV 17),.for [29] true 0 (.il (.n 168) none (some (iV 24))) [.bU 138 (.bin .add (.bin .mul (.n 138) (iV 1543)) (.bin .mod (.bin .add (.bin .mul (iV 2) (cG 3 [cG 10 [.n 29]])) (cG 10 [.cmp .lt (.n 29) (iV 0)])) (.bin .pow (iV 10) (iV 36))))],.ret (.list [.n 138,iV 0,.bin .add (.bin .mul (iV 2) (.n 138)) (iV 1)])]
def hJ:List CS:=[.bU 40 (cG 259 [.n 168]),.cD [36,184] (.t [cG 258 [.n 40,iV 2],cG 262 [.n 40,.t [.val (.bytes [.c 51]),.val (.bytes [.c 55]),.val (.bytes [.c 50,.c 48]),.val (.bytes [.c 49]),.val (.bytes [.c 52,.c 53])]]]),.cD [160,139] (.t [cG 334 [.n 40],cG 291 []]),.bU 65 (.t [.t [cG 261 [sV [73]],.val (.none),cG 180 [sV [67],.n 36]],.t [cG 261 [sV [71]],.val (.none),.val (.none)]]),.bU 199 (cG 180 [sV [80],.n 36]),.bU 6 (.t [sV [117,110,115,116,114,105,110,103],cG 261 [sV [83]],.t [.t [.t [sV [116,101,120,116],.val (.bytes [.c 44])],.val (.bool false)]],.n 65,.n 199,cG 180 [sV [78],.n 36],.t []]),.ite (.cmp .ne (cG 332 [.n 139,.n 160,.n 6]) (cG 217 [.n 160])) [.ret (.val (.bool false))] [],.bU 319 (.t [sV [115,116,114,105,110,103],.t [.t [.t [sV [116,101,120,116],.n 184],.val (.none)]],cG 261 [sV [73]],.n 199,.t []]),.bU 113 (cG 260 [.n 160,.bin .add (iV 21) (.bin .mul (iV 2) (.bin .sub (.idx (.n 160) (iV 5)) (iV 49))),.val (.bytes [.c 48,.c 49])]),.for [16] true 0 (.t [.n 160,.n 113]) [.ite (.cmp .ne (cG 332 [.n 139,.n 16,.n 319]) (cG 333 [.n 16,.n 184])) [.ret (.val (.bool false))] []],.ret (.val (.bool true))]
def AA:aE Fn:=(tM (tM (tM (tM (tN ⟨[73,2],[],[.ite (.cmp .oM (.il (.n 73) (some (.n 2)) (some (.bin .add (.n 2) (iV 2)))) (.t [sV [67,82],sV [68,66]])) [.bad 0] [],.ite (.cmp .B8 (.idx (.n 73) (.n 2)) (.eM 79)) [.bad 0] [],.ret (.idx (.n 73) (.n 2))]⟩ (tM (tM (tN ⟨[43],[],[.ite (.cmp .tI (.attr (.n 43) 137) (.val (.none))) [.bad 0] [],.ite (.not (cG 226 [.n 43])) [.ret (cG 249 [.n 43])] [],.bU 47 (.comp (.n 11) [11] true (cG 314 [.n 43]) [.cmp .eq (.attr (.n 11) 278) (sV [])]),.ret (.bC (.val (.bytes [])) 44 [.comp (.bin .mul (cG 367 [.n 11]) (.bC (.n 11) 89 [])) [11] true (.n 47) []])]⟩ tO tO) (tN ⟨[67,68,89,2],[],[.aR (.n 67) 68 (.n 68),.aR (.n 67) 89 (.n 89),.aR (.n 67) 2 (.n 2)]⟩ tO tO)) (tN ⟨[43],[],[.bU 52 (.bin .add (.rev (cG 370 [.n 43])) (.list [.n 43])),.ret (.comp (.n 16) [16] true (.n 52) [.cmp .tI (.attr (.n 16) 162) (.val (.none))])]⟩ (tN ⟨[121,83,184],[],[.bU 112 (.bC (.n 121) 318 []),.ite (.cmp .lt (.n 112) (iV 0)) [.ret (.n 184)] [],.bad 0,.bad 0,.bad 0,.bad 0,.bad 0,.bad 0]⟩ tO tO) (tN ⟨[67],[],[.aR (.n 67) 213 (.list []),.aR (.n 67) 192 (.list []),.aR (.n 67) 94 (.dW [] []),.aR (.n 67) 124 (.list []),.aR (.n 67) 69 (iV 0),.aR (.n 67) 187 (.dW [] [])]⟩ tO tO))) (tM (tN ⟨[121,163],[],[.ite (.cmp .eq (.attr (.n 121) 220) (sV [110,117,109,101,114,105,99])) [.ret (cG 275 [.n 121,.n 163])] [],.ite (.cmp .eq (.attr (.n 121) 220) (sV [101,100,105,116,101,100])) [.bad 0] [],.ret (cG 183 [cG 415 [.n 163]])]⟩ (tN ⟨[163,175,2],[],[.ret (.cmp .eq (.il (.n 163) (some (.n 2)) (some (.bin .add (.n 2) (cG 12 [.n 175])))) (.n 175))]⟩ tO tO) (tN ⟨[67],[],[.ite (.or [.cmp .eq (.bC (.n 67) 151 []) (iV 0),.cmp .oM (.attr (.n 67) 49) (.t [sV [44],sV [46]])]) [.ret (.val (.bool false))] [],.ret (.cmp .le (.bin .add (.bin .add (.bC (.n 67) 151 []) (.attr (.n 67) 50)) (.attr (.n 67) 133)) (.eM 417))]⟩ tO tO)) (tN ⟨[43,90],[],[.bU 69 (iV 0),.bU 83 (.list []),.for [11] true 0 (cG 314 [.n 43]) [.ex (cG 280 [.n 11,.bin .add (.n 90) (iV 1)]),.ite (.cmp .eq (.attr (.n 11) 278) (sV [])) [.bU 69 (.bin .add (.n 69) (cG 326 [.n 11]))] [.bad 0],.ex (.bC (.n 83) 146 [.n 11])],.ite (.cmp .gt (.bin .mul (.n 69) (.bC (.n 43) 89 [])) (.eM 412)) [.bad 0] [],.ret (.n 69)]⟩ (tN ⟨[56,36],[],[.bU 16 (cG 261 [sV [73]]),.ret (.t [sV [114,101,102],.n 56,.t [],.t [.ite (.cmp .eq (.n 36) (iV 0)) (.n 16) (.t [sV [45],.t [sV [43],.n 16,.n 16],.n 16])],.val (.none)])]⟩ tO tO) tO))) (tN ⟨[73],[],[.ite (.cmp .gt (cG 12 [.n 73]) (.eM 255)) [.bad 0] [],.bU 97 (.bC (sV []) 44 [.comp (.ite (.chain .le (sV [97]) (.n 68) .le (sV [122])) (.bad 0) (.n 68)) [68] true (.n 73) []]),.bU 123 (cG 242 [.n 97]),.ite (.cmp .ne (.comp (.n 16) [16] true (.n 123) [.cmp .oM (.attr (.n 16) 68) (.t [sV [65],sV [88]])]) (.list [])) [.ret (cG 382 [.n 97,.n 123])] [],.ret (cG 407 [.n 97,.n 123])]⟩ (tM (tN ⟨[121,163],[],[.ite (.cmp .ne (cG 12 [.n 163]) (.attr (.n 121) 69)) [.bad 0] [],.ite (.cmp .eq (.attr (.n 121) 136) (sV [100,105,115,112,108,97,121])) [.ret (cG 389 [.n 121,.n 163])] [],.bad 0,.bad 0,.ret (.n 96)]⟩ (tN ⟨[139,58],[],[.ite (.cmp .is (.n 58) (.val (.none))) [.ret (.val (.none))] [],.bad 0,.bad 0]⟩ tO tO) tO) (tN ⟨[96,56],[],[.ite (.cmp .eq (cG 12 [.n 96]) (iV 0)) [.bad 0] [],.ite (.cmp .gt (cG 12 [.n 96]) (iV 1)) [.bad 0] [],.ret (.idx (.n 96) (iV 0))]⟩ (tN ⟨[139,19],[],[.cD [75,56,316,320,58] (.n 19),.bU 194 (cG 134 [.comp (cG 409 [.n 139,.n 33]) [33] true (.n 320) []]),.bU 32 (.ite (.cmp .is (.n 58) (.val (.none))) (.val (.none)) (.bad 0)),.ret (.t [.n 75,.n 56,.n 316,.n 194,.n 32])]⟩ tO tO) tO)) (tM (tN ⟨[131],[],[.ret (.and [cG 302 [.n 131,.eM 134],.cmp .eq (cG 12 [.n 131]) (iV 5),.cmp .eq (.idx (.n 131) (iV 0)) (sV [114,101,102])])]⟩ tO (tN ⟨[67],[],[.ite (.or [.cmp .ne (.attr (.n 67) 220) (sV [110,117,109,101,114,105,99]),.cmp .ne (.attr (.n 67) 136) (sV [100,105,115,112,108,97,121]),.not (.attr (.n 67) 272)]) [.ret (.neg (iV 1))] [],.ret (.ite (.cmp .eq (.attr (.n 67) 68) (sV [108,101,97,100,105,110,103])) (iV 0) (.bin .sub (.attr (.n 67) 69) (iV 1)))]⟩ tO tO)) (tM (tN ⟨[160,184],[],[.bU 2 (.bin .sub (.idx (.n 160) (iV 5)) (iV 49)),.ite (.cmp .ne (.idx (.n 160) (.bin .add (iV 22) (.bin .mul (iV 2) (.n 2)))) (iV 49)) [.ret (.t [.n 160,sV [111,118,101,114]])] [],.ret (.t [cG 360 [cG 260 [.n 160,iV 5,.il (.n 184) none (some (iV 1))],.n 2,iV 2],.ite (.cmp .gt (cG 12 [.n 184]) (iV 1)) (sV [111,118,101,114]) (sV [])])]⟩ tO tO) tO)))) (tN ⟨[0,120,301],[],[.ite (.cmp .ge (.n 120) (.idx (.n 0) (iV 1))) [.ret (.bin .mul (.idx (.n 0) (iV 0)) (.bin .pow (iV 10) (.bin .sub (.n 120) (.idx (.n 0) (iV 1)))))] [],.bad 0,.bad 0,.bad 0,.bad 0]⟩ (tN ⟨[209],[],[.ret (cG 21 [.comp (.bin .mul (.n 89) (cG 12 [.n 68])) [68,89] false (.n 209) [.cmp .B8 (.n 68) (.bC (.eM 356) 125 [sV [32]])]])]⟩ (tM (tN ⟨[30],[],[.ite (.cmp .oM (.n 30) (.eM 358)) [.bad 0] [],.ite (.cmp .oM (.n 30) (.eM 384)) [.bad 0] [],.ret (.t [.bin .sub (.n 30) (.eM 385),.val (.bool false)])]⟩ (tN ⟨[33,161],[],[.bU 59 (.list []),.for [48,58] false 0 (cG 200 [.n 33]) [.ite (.cmp .eq (.n 48) (sV [108,101,97,102])) [.ex (.bC (.n 59) 146 [.call (.n 161) [.n 58]])] [.ite (.cmp .eq (.n 58) (sV [110,101,103])) [.bad 0] [.bU 118 (.bC (.n 59) 18 []),.ex (.bC (.n 59) 146 [cG 182 [.n 58,.bC (.n 59) 18 [],.n 118]])]]],.ret (.bC (.n 59) 18 [])]⟩ tO tO) (tN ⟨[67,89,228],[],[.ite (.cmp .ne (.attr (.n 67) 115) (sV [])) [.bad 0,.bad 0] []]⟩ tO tO)) (tN ⟨[43],[],[.bU 96 (cG 212 [.n 43,.lam 0 []]),.ret (.ite (.cmp .ne (.n 96) (sV [])) (.n 96) (sV [100,105,115,112,108,97,121]))]⟩ (tN ⟨[71,163],[],[.cD [160,164,121] (.n 71),.iP (.n 160) (.n 164) (.bin .add (.n 164) (.attr (.n 121) 69)) (cG 238 [.n 163,.n 121])]⟩ tO tO) (tN ⟨[67,56,31,94,315,299],[(.bool false)],[.aR (.n 67) 56 (.n 56),.aR (.n 67) 31 (.n 31),.aR (.n 67) 94 (.n 94),.aR (.n 67) 315 (.n 315),.aR (.n 67) 299 (.n 299)]⟩ tO tO))) (tN ⟨[197,369,391],[],[.ite (.and [.n 369,.bad 0]) [.bad 0] [],.ite (.and [.n 391,.bad 0]) [.bad 0] [],.ite (.and [.n 391,.bad 0]) [.bad 0] []]⟩ (tN ⟨[171,163,37],[],[.ite (.not (cG 219 [.attr (.n 171) 220,.attr (.n 37) 220])) [.bad 0] [],.ite (.or [.cmp .eq (.attr (.n 171) 220) (sV [103,114,111,117,112]),.cmp .eq (.attr (.n 37) 220) (sV [103,114,111,117,112])]) [.bad 0] [],.ite (.cmp .oM (.attr (.n 37) 220) (.eM 177)) [.ret (cG 308 [.n 37,cG 401 [.n 171,.n 163]])] [],.ret (cG 245 [.n 37,cG 211 [.n 171,.n 163]])]⟩ (tN ⟨[163,297,2],[],[.for [55,157] false 0 (.n 297) [.ite (.cmp .eq (cG 12 [.n 55]) (iV 0)) [.bad 0] [],.ite (cG 191 [.n 163,.n 55,.n 2]) [.ret (.t [.n 55,.n 157])] []],.ret (.val (.none))]⟩ tO tO) tO) (tN ⟨[64,164,28],[],[.ex (cG 280 [.n 64,iV 0]),.ex (cG 351 [.n 64,.n 164,.n 28]),.for [43] true 0 (.attr (.n 64) 47) [.ite (.cmp .eq (.attr (.n 43) 100) (.eM 214)) [.bad 0] []]]⟩ (tN ⟨[160,164,163],[],[.ret (.bin .add (.bin .add (.il (.n 160) none (some (.n 164))) (.n 163)) (.il (.n 160) (some (.bin .add (.n 164) (cG 12 [.n 163]))) none))]⟩ tO tO) tO))) (tM (tN ⟨[121],[],[.ret (.cmp .eq (.attr (.n 121) 220) (sV [110,117,109,101,114,105,99]))]⟩ (tN ⟨[171,37],[],[.ret (.cmp .oM (.n 37) (cG 223 [.n 171]))]⟩ (tN ⟨[139,33],[],[.ret (cG 239 [.n 33,.lam 1 [139]])]⟩ tO tO) tO) (tN ⟨[43],[],[.bU 136 (cG 250 [.n 43]),.ite (.cmp .eq (.n 136) (sV [105,110,100,101,120])) [.bad 0,.bad 0] [],.ite (.cmp .is (.attr (.n 43) 375) (.val (.none))) [.bad 0] [],.bU 197 (cG 377 [.attr (.n 43) 375]),.bU 392 (.and [.cmp .eq (.n 136) (sV [100,105,115,112,108,97,121]),.cmp .eq (.attr (.n 197) 220) (sV [110,117,109,101,114,105,99]),.attr (.n 197) 272]),.cD [68,342] (.ite (.or [.cmp .ne (.attr (.n 43) 68) (sV []),.n 392]) (cG 206 [.n 43]) (.t [sV [116,114,97,105,108,105,110,103],.val (.bool false)])),.ret (cG 241 [.n 197,.n 136,.n 68,.n 342,.attr (.n 43) 369,.attr (.n 43) 391])]⟩ (tN ⟨[168],[],n5⟩ tO tO) tO)) (tM (tN ⟨[31],[],[.bU 96 (.list []),.for [64] true 0 (cG 202 [.n 31]) [.ex (.bC (.n 96) 153 [cG 344 [.n 64]])],.ret (.n 96)]⟩ (tN ⟨[281,98],[],[.bU 110 (.list []),.for [195,265] false 0 (.idx (.n 281) (iV 1)) [.bU 55 (.ite (.cmp .is (.n 265) (.val (.none))) (.val (.none)) (.bad 0)),.ex (.bC (.n 110) 146 [.t [cG 348 [.n 195,.n 98],.n 55]])],.cD [37,85] (.t [cG 348 [.idx (.n 281) (iV 2),.n 98],cG 198 [.idx (.n 281) (iV 3),.n 98]]),.ite (.not (.chain .le (iV 1) (.n 85) .le (cG 12 [.n 37]))) [.ret (sV [111,118,101,114])] [],.cD [163,270,57] (cG 172 [.n 110,.n 37,.n 85]),.ex (.bC (.n 98) 114 [.idx (.n 281) (iV 2),.n 163]),.ex (cG 233 [.idx (.n 281) (iV 3),.n 270,.n 98]),.ret (.ite (.n 57) (sV [111,118,101,114]) (sV []))]⟩ tO tO) (tN ⟨[67,11],[],[.aR (.n 11) 165 (.n 67),.ex (.bC (.attr (.n 67) 47) 146 [.n 11])]⟩ tO tO)) (tN ⟨[31,43],[],[.ite (.cmp .tI (.attr (.attr (.n 43) 162) 266) (.val (.none))) [.bad 0,.bad 0,.bad 0] [],.bU 107 (.comp (.attr (.n 16) 56) [16] true (cG 344 [.n 43]) []),.for [368,56] false 0 (.attr (.attr (.n 43) 162) 46) [.bad 0]]⟩ tO tO))))) (tN ⟨[0,1],[],[.cD [95,169,120] (cG 383 [.n 0,.n 1]),.ret (cG 183 [.bin .add (.n 95) (.n 169),.n 120])]⟩ (tM (tN ⟨[73],[],[.cD [96,2] (.t [.list [],iV 0]),.while (.cmp .lt (.n 2) (cG 12 [.n 73])) [.bU 68 (cG 205 [.n 73,.n 2]),.cD [89,7] (cG 221 [.n 73,.bin .add (.n 2) (cG 12 [.n 68])]),.ite (.and [.cmp .gt (.n 7) (.bin .add (.n 2) (cG 12 [.n 68])),.cmp .oM (.n 68) (.bC (.eM 402) 125 [sV [32]])]) [.bad 0] [],.ex (.bC (.n 96) 146 [cG 27 [.n 68,.n 89,.n 2]]),.bU 2 (.n 7)],.ret (.n 96)]⟩ (tM (tN ⟨[121,135],[],[.bU 51 (cG 303 [.n 121,.n 135]),.ite (.cmp .eq (.attr (.n 121) 136) (sV [100,105,115,112,108,97,121])) [.ret (cG 403 [.n 121,.n 51])] [],.bad 0]⟩ (tN ⟨[33],[],[.bU 96 (.list []),.bU 52 (.list [.t [sV [101,120,112,114],.n 33]]),.while (.n 52) [.cD [48,41] (.bC (.n 52) 18 []),.ite (.cmp .eq (.n 48) (sV [111,112])) [.ex (.bC (.n 96) 146 [.t [.n 48,.n 41]])] [.ite (.cmp .oM (.idx (.n 41) (iV 0)) (.eM 256)) [.ex (.bC (.n 52) 153 [.list [.t [sV [111,112],.idx (.n 41) (iV 0)],.t [sV [101,120,112,114],.idx (.n 41) (iV 2)],.t [sV [101,120,112,114],.idx (.n 41) (iV 1)]]])] [.ite (.cmp .eq (.idx (.n 41) (iV 0)) (sV [110,101,103])) [.bad 0] [.ex (.bC (.n 96) 146 [.t [sV [108,101,97,102],.n 41]])]]]],.ret (.n 96)]⟩ tO tO) (tN ⟨[67],[],[.aR (.n 67) 66 (iV 0),.aR (.n 67) 229 (.val (.bool false)),.aR (.n 67) 115 (sV []),.aR (.n 67) 50 (iV 0),.aR (.n 67) 133 (iV 0),.aR (.n 67) 108 (iV 0),.aR (.n 67) 76 (sV []),.aR (.n 67) 141 (iV 0),.aR (.n 67) 156 (iV 0),.aR (.n 67) 148 (iV 0),.aR (.n 67) 188 (.val (.bool false)),.aR (.n 67) 68 (sV []),.aR (.n 67) 105 (sV []),.aR (.n 67) 49 (sV []),.aR (.n 67) 189 (.val (.bool false)),.aR (.n 67) 340 (.val (.bool false))]⟩ tO tO)) (tN ⟨[43],[],[.ret (.comp (.n 11) [11] true (.attr (.n 43) 47) [.cmp .ne (.attr (.n 11) 100) (.eM 214)])]⟩ (tN ⟨[139,19,163],[],[.cD [160,164,121] (cG 207 [.n 139,.n 19]),.ite (.cmp .ne (.attr (.n 121) 136) (sV [100,105,115,112,108,97,121])) [.bad 0] [],.iP (.n 160) (.n 164) (.bin .add (.n 164) (.attr (.n 121) 69)) (cG 380 [.n 121,cG 87 [.il (.n 160) (some (.n 164)) (some (.bin .add (.n 164) (.attr (.n 121) 69)))],.n 163])]⟩ tO tO) (tN ⟨[67,201,122,65],[],[.aR (.n 67) 201 (.n 201),.aR (.n 67) 122 (.n 122),.aR (.n 67) 65 (cG 53 [.n 65]),.aR (.n 67) 286 (.list []),.aR (.n 67) 160 (cG 264 [cG 405 [.attr (.n 201) 31]]),.aR (.n 67) 187 (.dW [] []),.for [56] true 0 (cG 170 [.attr (.attr (.n 201) 31) 187]) [.bad 0],.aR (.n 67) 101 (.dW [] []),.aR (.n 67) 186 (.dW [] []),.aR (.n 67) 310 (.list []),.aR (.n 67) 235 (.val (.bytes [])),.aR (.n 67) 124 (.dW [] [])]⟩ tO tO))) (tN ⟨[197,136],[],[.ite (.cmp .B8 (.n 136) (.bC (.eM 144) 125 [sV [32]])) [.bad 0] [],.ite (.cmp .eq (.n 136) (sV [105,110,100,101,120])) [.bad 0] [],.ite (.and [.cmp .ne (.n 136) (sV [100,105,115,112,108,97,121]),.bad 0]) [.bad 0] []]⟩ (tN ⟨[121,163],[],[.ite (.cmp .eq (.attr (.n 121) 220) (sV [97,108,110,117,109,45,101,100,105,116,101,100])) [.bad 0] [],.ret (cG 181 [.n 163,.attr (.n 121) 69,.attr (.n 121) 369])]⟩ (tN ⟨[163,265],[],[.ite (.cmp .is (.n 265) (.val (.none))) [.ret (.n 163)] [],.bad 0,.bad 0]⟩ tO tO) tO) (tM (tN ⟨[161],[],[.ret (cG 87 [.list [.bin .add (iV 48) (.bin .div (.n 161) (iV 10)),.bin .add (iV 48) (.bin .mod (.n 161) (iV 10))]])]⟩ tO tO) tO))) (tM (tM (tN ⟨[121,161],[],[.ret (cG 309 [.n 121,cG 246 [.n 161,.attr (.n 121) 120,.val (.bool false)]])]⟩ (tN ⟨[139,195],[],[.ite (.cmp .eq (.idx (.n 195) (iV 0)) (sV [114,101,102])) [.cD [160,164,121] (cG 207 [.n 139,.n 195]),.ret (.t [.n 121,cG 87 [.il (.n 160) (some (.n 164)) (some (.bin .add (.n 164) (.attr (.n 121) 69)))]])] [],.ite (.cmp .eq (.idx (.n 195) (iV 0)) (sV [110,117,109,98,101,114])) [.bad 0,.bad 0] [],.ite (.cmp .eq (.idx (.n 195) (iV 0)) (sV [116,101,120,116])) [.ret (.t [cG 324 [.idx (.n 195) (iV 1)],.idx (.n 195) (iV 1)])] [],.bad 0]⟩ tO tO) tO) (tN ⟨[43,320,58],[],[.bU 173 (cG 397 [.n 43]),.ite (.cmp .ne (cG 12 [.n 320]) (cG 12 [.n 173])) [.bad 0] [],.bU 164 (.attr (.n 43) 164),.for [128,282] false 2 (.t [.n 173,.n 320]) [.ite (.not (.chain .le (iV 1) (.n 282) .le (.attr (.attr (.n 128) 162) 42))) [.bad 0] [],.bU 164 (.bin .add (.n 164) (.bin .mul (.bin .sub (.n 282) (iV 1)) (.attr (.n 128) 69)))],.ite (.cmp .is (.n 58) (.val (.none))) [.ret (.t [.n 164,.attr (.n 43) 69])] [],.bad 0,.bad 0,.bad 0,.bad 0]⟩ (tN ⟨[139,281],[],[.ret (cG 352 [cG 353 [.n 139,.il (.n 281) none (some (.neg (iV 1)))],cG 224 [.n 139]])]⟩ tO tO) tO)) (tM (tN ⟨[31],[],[.bU 96 (.list []),.for [56] true 0 (.attr (.n 31) 94) [.bad 0],.ret (.bin .add (.bin .add (.n 96) (.attr (.n 31) 213)) (.attr (.n 31) 192))]⟩ (tN ⟨[199,98],[],[.ret (.ite (.cmp .is (.n 199) (.val (.none))) (iV 1) (.bC (.n 98) 145 [.n 199]))]⟩ tO tO) tO) (tM (tN ⟨[168],[],hJ⟩ tO tO) tO)))) (tN ⟨[0],[],[.ret (cG 246 [.n 0,iV 0,.val (.bool false)])]⟩ (tN ⟨[209],[],[.bU 123 (.comp (.n 68) [68,89] false (.n 209) []),.ite (.or [.cmp .oM (sV [66]) (.n 123),.cmp .oM (sV [48]) (.n 123),.cmp .oM (sV [47]) (.n 123)]) [.bad 0] [],.ret (.ite (.cmp .eq (.n 123) (.list [sV [65]])) (sV [97,108,112,104,97,98,101,116,105,99]) (sV [97,108,112,104,97,110,117,109,101,114,105,99]))]⟩ (tM (tM (tN ⟨[139,43],[],[.ite (.cmp .eq (.attr (.n 43) 28) (sV [])) [.ret (.t [.attr (.n 139) 160,iV 0,cG 12 [.attr (.n 139) 160]])] [],.bad 0,.bad 0]⟩ tO tO) tO) (tN ⟨[31,43],[],[.bU 22 (cG 204 [.n 43]),.for [56] true 0 (.attr (.n 31) 94) [.bad 0],.ret (sV [])]⟩ (tN ⟨[139],[],[.ret (cG 77 [.lam 2 [139],.lam 3 [139],.lam 4 [139],.lam 5 [139],.lam 6 [139],.eM 273,.lam 7 []])]⟩ tO tO) tO)) (tN ⟨[69],[],[.ret (cG 80 [sV [103,114,111,117,112],.n 69])]⟩ (tN ⟨[195,121],[],[.ite (.cmp .eq (.n 195) (.t [sV [102,105,103,117,114,101],sV [90,69,82,79]])) [.ret (cG 308 [.n 121,cG 183 [iV 0]])] [],.bad 0,.bad 0]⟩ (tN ⟨[163,297,85],[],[.for [2] true 0 (cG 117 [.n 85,cG 12 [.n 163]]) [.bU 9 (cG 366 [.n 163,.n 297,.n 2]),.ite (.cmp .tI (.n 9) (.val (.none))) [.ret (.t [.il (.n 163) (some (.n 85)) (some (.n 2)),.idx (.n 9) (iV 0),cG 413 [.n 163,.idx (.n 9) (iV 0),.idx (.n 9) (iV 1),.n 2]])] []],.ret (.t [.il (.n 163) (some (.n 85)) none,.val (.bytes []),cG 12 [.n 163]])]⟩ tO tO) (tN ⟨[67,220,69,197,136,68,342,369,391],[(.none),(.str [100,105,115,112,108,97,121]),(.str [116,114,97,105,108,105,110,103]),(.bool false),(.bool false),(.bool false)],[.aR (.n 67) 220 (.n 220),.aR (.n 67) 69 (.n 69),.aR (.n 67) 197 (.n 197),.aR (.n 67) 136 (.n 136),.aR (.n 67) 68 (.n 68),.aR (.n 67) 342 (.n 342),.aR (.n 67) 369 (.n 369),.aR (.n 67) 391 (.n 391),.aR (.n 67) 151 (iV 0),.aR (.n 67) 120 (iV 0),.aR (.n 67) 272 (.val (.bool false)),.ite (.and [.cmp .tI (.n 197) (.val (.none)),.cmp .oM (.n 220) (.t [sV [110,117,109,101,114,105,99],sV [101,100,105,116,101,100]])]) [.aR (.n 67) 151 (.attr (.n 197) 151),.aR (.n 67) 120 (.attr (.n 197) 120),.aR (.n 67) 272 (.attr (.n 197) 272)] []]⟩ tO tO)) (tN ⟨[119,164],[],[.bU 7 (.n 164),.bU 83 (.list []),.for [64] true 0 (.n 119) [.ite (.cmp .eq (.attr (.n 64) 278) (sV [])) [.ex (cG 317 [.n 64,.n 7,sV []])] [.bad 0],.bU 7 (cG 14 [.n 7,.bin .add (.attr (.n 64) 164) (.attr (.n 64) 69)]),.ex (.bC (.n 83) 146 [.n 64])],.ret (.n 7)]⟩ (tN ⟨[73,112],[],[.bU 96 (.val (.bytes [])),.while (.and [.cmp .lt (.n 112) (cG 12 [.n 73]),.cmp .ne (.idx (.n 73) (.n 112)) (iV 44)]) [.cD [96,112] (.t [.bin .add (.n 96) (.il (.n 73) (some (.n 112)) (some (.bin .add (.n 112) (iV 1)))),.bin .add (.n 112) (iV 1)])],.ret (.t [.n 96,cG 15 [.bin .add (.n 112) (iV 1),cG 12 [.n 73]]])]⟩ tO tO) tO))) (tM (tN ⟨[121],[],[.ret (.bin .pow (iV 10) (.attr (.n 121) 151))]⟩ (tN ⟨[163,69],[],[.ite (.cmp .eq (.n 163) (.val (.bytes []))) [.bad 0] [],.ret (.il (.bin .mul (.n 163) (.bin .add (.bin .div (.n 69) (cG 12 [.n 163])) (iV 1))) none (some (.n 69)))]⟩ (tN ⟨[121,135],[],[.ite (.cmp .eq (.attr (.n 121) 220) (sV [101,100,105,116,101,100])) [.bad 0] [],.ret (cG 309 [.n 121,.n 135])]⟩ tO tO) tO) (tM (tN ⟨[40,70],[],[.ret (.idx (.n 70) (cG 258 [.n 40,cG 12 [.n 70]]))]⟩ tO tO) tO)) (tN ⟨[161,89],[],[.cD [96,62] (.t [.list [],.n 161]),.for [74] true 0 (cG 117 [.n 89]) [.ex (.bC (.n 96) 146 [.bin .mod (.n 62) (iV 10)]),.bU 62 (.bin .div (.n 62) (iV 10))],.ret (.rev (.n 96))]⟩ (tN ⟨[43],[],[.bU 147 (cG 370 [.n 43]),.ret (.ite (.cmp .ne (.n 147) (.list [])) (.idx (.n 147) (.neg (iV 1))) (.n 43))]⟩ (tN ⟨[281,98],[],[.bU 163 (cG 348 [.idx (.n 281) (iV 1),.n 98]),.bU 102 (.comp (.t [cG 348 [.n 195,.n 98],.n 157]) [195,157] false (.idx (.n 281) (iV 2)) []),.bU 85 (cG 198 [.idx (.n 281) (iV 4),.n 98]),.bU 126 (.comp (.bC (.n 98) 71 [.n 37]) [37,55,89] false (.idx (.n 281) (iV 3)) []),.bU 306 (.comp (.ite (.cmp .is (.n 55) (.val (.none))) (.val (.none)) (.bad 0)) [37,55,89] false (.idx (.n 281) (iV 3)) []),.ite (.not (.chain .le (iV 1) (.n 85) .le (cG 12 [.n 163]))) [.ret (sV [111,118,101,114])] [],.ite (.cmp .eq (.n 102) (.list [])) [.bad 0] [.cD [166,270,57] (cG 248 [.n 163,.n 102,.n 85,cG 12 [.n 126]])],.ex (cG 304 [.n 166,.idx (.n 281) (iV 3),.n 126,.n 306,.n 98]),.ex (cG 233 [.idx (.n 281) (iV 4),.n 270,.n 98]),.ite (.cmp .tI (.idx (.n 281) (iV 5)) (.val (.none))) [.ex (.bC (.n 98) 45 [.idx (.n 281) (iV 5),.bin .add (.bC (.n 98) 145 [.idx (.n 281) (iV 5)]) (cG 12 [.n 166])])] [],.ret (.ite (.n 57) (sV [111,118,101,114]) (sV []))]⟩ tO tO) tO) tO))))) (tN ⟨[135,120],[(.int (.c (0)))],[.ite (.cmp .lt (.n 120) (iV 0)) [.bad 0] [],.while (.and [.cmp .gt (.n 120) (iV 0),.bad 0]) [.bad 0,.bad 0],.ret (.t [.n 135,.n 120])]⟩ (tN ⟨[0,1],[],[.bU 120 (cG 14 [.idx (.n 0) (iV 1),.idx (.n 1) (iV 1)]),.ret (.t [.bin .mul (.idx (.n 0) (iV 0)) (.bin .pow (iV 10) (.bin .sub (.n 120) (.idx (.n 0) (iV 1)))),.bin .mul (.idx (.n 1) (iV 0)) (.bin .pow (iV 10) (.bin .sub (.n 120) (.idx (.n 1) (iV 1)))),.n 120])]⟩ (tM (tN ⟨[73,2],[],[.ite (.cmp .ne (.il (.n 73) (some (.n 2)) (some (.bin .add (.n 2) (iV 1)))) (sV [40])) [.ret (.t [iV 1,.n 2])] [],.bU 7 (.bC (.n 73) 34 [sV [41],.n 2]),.bU 184 (.il (.n 73) (some (.bin .add (.n 2) (iV 1))) (some (cG 14 [.n 7,.n 2]))),.ite (.or [.not (.chain .le (iV 1) (cG 12 [.n 184]) .le (iV 4)),.cmp .ne (.comp (.n 68) [68] true (.n 184) [.cmp .B8 (.n 68) (.eM 176)]) (.list []),.cmp .eq (cG 10 [.n 184]) (iV 0)]) [.bad 0] [],.ret (.t [cG 10 [.n 184],.bin .add (.n 7) (iV 1)])]⟩ (tM (tM (tN ⟨[31],[],[.bU 96 (cG 264 [.bin .mul (.val (.bytes [.c 32])) (.attr (.n 31) 69)]),.for [56] true 0 (.attr (.n 31) 94) [.bad 0],.for [64] true 0 (.attr (.n 31) 213) [.ite (.cmp .eq (.attr (.n 64) 278) (sV [])) [.iP (.n 96) (.attr (.n 64) 164) (.bin .add (.attr (.n 64) 164) (.attr (.n 64) 69)) (cG 367 [.n 64])] []],.ret (cG 87 [.n 96])]⟩ tO tO) tO) (tN ⟨[43],[],[.ret (.cmp .ne (.comp (.n 11) [11] true (.attr (.n 43) 47) [.cmp .ne (.attr (.n 11) 100) (.eM 214)]) (.list []))]⟩ (tN ⟨[139,195,69],[],[.ite (.cmp .oM (.idx (.n 195) (iV 0)) (.t [sV [102,105,103,117,114,101],sV [97,108,108]])) [.bad 0] [],.cD [121,163] (cG 311 [.n 139,.n 195]),.ret (cG 376 [.n 121,.n 163])]⟩ tO tO) tO)) (tN ⟨[197,136,342],[],[.ite (.cmp .eq (.n 136) (sV [112,97,99,107,101,100])) [.bad 0] [],.ite (.cmp .eq (.n 136) (sV [98,105,110,97,114,121])) [.bad 0] [],.ret (.bin .add (.attr (.n 197) 69) (.ite (.n 342) (iV 1) (iV 0)))]⟩ (tN ⟨[121,163],[],[.ite (.cmp .ne (.attr (.n 121) 220) (sV [110,117,109,101,114,105,99])) [.ret (.n 163)] [],.bad 0,.bad 0]⟩ tO (tN ⟨[67],[],[.ite (.cmp .gt (.attr (.n 67) 50) (iV 0)) [.bad 0] [],.ret (.bin .sub (.attr (.n 67) 148) (.attr (.n 67) 133))]⟩ tO tO)) (tN ⟨[43,164,28],[],[.aR (.n 43) 164 (.n 164),.aR (.n 43) 28 (.n 28),.bU 41 (.n 164),.bU 83 (.list []),.for [11] true 0 (cG 314 [.n 43]) [.ite (.cmp .eq (.attr (.n 11) 278) (sV [])) [.ex (cG 351 [.n 11,.n 41,.n 28]),.bU 41 (.bin .add (.n 41) (cG 326 [.n 11]))] [.bad 0],.ex (.bC (.n 83) 146 [.n 11])]]⟩ (tN ⟨[],[],[.cD [31,167] (.t [cG 24 [],cG 25 [iV 1,sV [82,69,67]]]),.for [56,197] false 0 (.t [.t [sV [83],sV [88,40,53,41]],.t [sV [73],sV [57]],.t [sV [71],sV [88,40,51,41]],.t [sV [67],sV [57]],.t [sV [78],sV [57,57]],.t [sV [80],sV [83,57,57]]]) [.bU 43 (cG 25 [iV 2,.n 56]),.aR (.n 43) 375 (.n 197),.ite (.cmp .oM (.n 56) (.t [sV [67],sV [78],sV [80]])) [.aR (.n 43) 162 (cG 143 [iV 4,iV 4])] [],.ex (.bC (.n 167) 4 [.n 43])],.aR (.n 31) 213 (.list [.n 167]),.ex (cG 190 [.n 31]),.ret (cG 81 [cG 179 [sV [80],.n 31,.dW [] [],.val (.none)],.val (.none),.list []])]⟩ tO tO) tO))) (tM (tM (tN ⟨[121,163],[],[.ret (cG 183 [cG 247 [.n 121,.n 163],.attr (.n 121) 120])]⟩ (tN ⟨[139,19],[],[.bU 43 (cG 269 [.attr (.attr (.n 139) 201) 31,.idx (.n 19) (iV 1),.idx (.n 19) (iV 2)]),.bU 58 (cG 196 [.n 139,.idx (.n 19) (iV 4)]),.cD [164,69] (cG 208 [.n 43,.comp (cG 251 [.n 139,.n 33]) [33] true (.idx (.n 19) (iV 3)) [],.n 58]),.cD [160,112] (cG 410 [.n 139,.n 43,.n 164,.n 69]),.ret (.t [.n 160,.n 112,.ite (.cmp .is (.n 58) (.val (.none))) (.attr (.n 43) 121) (.bad 0)])]⟩ tO tO) tO) (tN ⟨[31,56,316],[],[.bU 84 (.comp (.n 43) [43] true (cG 263 [.n 31]) [.cmp .eq (.attr (.n 43) 56) (.n 56)]),.ret (cG 234 [.comp (.n 43) [43] true (.n 84) [cG 393 [.bin .add (cG 371 [.n 43]) (.list [cG 185 [.n 31,.n 43]]),.n 316]],.n 56])]⟩ (tN ⟨[139,281],[],[.ret (cG 404 [.n 281,.lam 8 [139]])]⟩ tO tO) tO)) (tM (tN ⟨[131,149],[],[.ite (.not (cG 302 [.n 131,.eM 134])) [.ret (.n 131)] [],.bU 96 (cG 134 [.comp (cG 404 [.n 16,.n 149]) [16] true (.n 131) []]),.ret (.ite (cG 158 [.n 96]) (.call (.n 149) [.n 96]) (.n 96))]⟩ (tN ⟨[195,98],[],[.ret (.bC (.n 98) 93 [.n 195,iV 1])]⟩ tO tO) (tN ⟨[67,13,42,266,46,187],[(.none),(.t []),(.t [])],[.aR (.n 67) 13 (.n 13),.aR (.n 67) 42 (.n 42),.aR (.n 67) 266 (.n 266),.aR (.n 67) 46 (cG 134 [.n 46]),.aR (.n 67) 187 (cG 134 [.n 187])]⟩ tO tO)) (tN ⟨[31],[],[.aR (.n 31) 187 (.dW [] []),.bU 107 (.comp (.attr (.n 43) 56) [43] true (cG 263 [.n 31]) []),.for [43] true 0 (cG 263 [.n 31]) [.for [56] true 0 (.ite (.cmp .tI (.attr (.n 43) 162) (.val (.none))) (.attr (.attr (.n 43) 162) 187) (.t [])) [.bad 0,.bad 0,.bad 0]]]⟩ (tN ⟨[139,160,281],[],[.iP (.attr (.n 139) 160) (iV 0) (iV 29) (.n 160),.try [.bU 75 (.ite (.cmp .eq (.idx (.n 281) (iV 0)) (sV [115,116,114,105,110,103])) (cG 267 [.n 139,.n 281]) (cG 336 [.n 139,.n 281]))],.ret (.t [cG 87 [.attr (.n 139) 160],.n 75])]⟩ tO tO) tO)))) (tN ⟨[0],[],[.ret (.cmp .eq (.idx (.n 0) (iV 1)) (iV 0))]⟩ (tN ⟨[73,123],[],[.cD [109,209] (.t [cG 78 [],cG 321 [.n 123]]),.for [16] true 0 (.n 123) [.ex (.bC (.n 109) 72 [.n 16])],.ite (.or [.not (.bC (.n 109) 230 []),.cmp .gt (cG 411 [.n 209]) (.eM 416)]) [.bad 0] [],.bU 113 (.cmp .eq (.comp (.n 68) [68,89] false (.n 209) [.cmp .B8 (.n 68) (.bC (.eM 331) 125 [sV [32]])]) (.list [])),.bU 220 (.ite (.n 113) (sV [110,117,109,101,114,105,99]) (sV [101,100,105,116,101,100])),.bU 272 (.or [.attr (.n 109) 229,.cmp .ne (.attr (.n 109) 68) (sV [])]),.ret (cG 178 [.n 73,.n 209,.n 220,.bC (.n 109) 151 [],.bC (.n 109) 120 [],.n 272,cG 411 [.n 209]])]⟩ (tM (tN ⟨[121,163],[],[.cD [184,341] (.t [.comp (.bin .sub (.n 30) (.eM 385)) [30] true (.n 163) [],.val (.bool false)]),.bU 112 (.bC (.n 121) 318 []),.ite (.and [.cmp .ge (.n 112) (iV 0),.attr (.n 121) 342]) [.bad 0,.bad 0,.bad 0] [.ite (.cmp .ge (.n 112) (iV 0)) [.iJ (.n 184) (.n 112) 341 (cG 396 [.idx (.n 163) (.n 112)])] []],.bU 96 (cG 406 [.n 184]),.ret (.ite (.n 341) (.bad 0) (.n 96))]⟩ (tN ⟨[139,195],[],[.ret (.and [.cmp .eq (.idx (.n 195) (iV 0)) (sV [114,101,102]),.cmp .eq (.idx (.n 195) (iV 2)) (.t []),.cmp .oM (.idx (.n 195) (iV 1)) (.attr (.n 139) 187)])]⟩ tO tO) (tN ⟨[67,16],[],[.ite (.or [.cmp .gt (.attr (.n 67) 133) (iV 0),.attr (.n 67) 188]) [.bad 0] [],.aR (.n 67) 108 (.bin .add (.attr (.n 67) 108) (.attr (.n 16) 89)),.ex (.bC (.n 67) 292 [.attr (.n 16) 89,.val (.bool false)])]⟩ tO tO)) (tN ⟨[43],[],[.for [16] true 0 (.bin .add (.list [.n 43]) (cG 370 [.n 43])) [.ite (.cmp .ne (.attr (.n 16) 68) (sV [])) [.bad 0] []],.ret (.t [sV [116,114,97,105,108,105,110,103],.val (.bool false)])]⟩ tO tO)) (tN ⟨[197,136,68,342,369,391],[(.str [100,105,115,112,108,97,121]),(.str [116,114,97,105,108,105,110,103]),(.bool false),(.bool false),(.bool false)],[.ex (cG 335 [.n 197,.n 136]),.ex (cG 293 [.n 197,.n 136,.n 68,.n 342]),.ex (cG 388 [.n 197,.n 369,.n 391]),.bU 69 (cG 243 [.n 197,.n 136,.n 342]),.ret (cG 80 [.attr (.n 197) 220,.n 69,.n 197,.n 136,.n 68,.n 342,.n 369,.n 391])]⟩ (tN ⟨[195],[],[.ite (.cmp .eq (.idx (.n 195) (iV 0)) (sV [97,108,108])) [.ret (.idx (.n 195) (iV 1))] [],.ret (.idx (.dW [[90,69,82,79],[83,80,65,67,69],[72,73,71,72],[76,79,87],[81,85,79,84,69]] [.val (.bytes [.c 48]),.val (.bytes [.c 32]),.val (.bytes [.c 255]),.val (.bytes [.c 0]),.val (.bytes [.c 34])]) (.idx (.n 195) (iV 1)))]⟩ (tN ⟨[163,55,157,2],[],[.bU 148 (.bin .add (.n 2) (cG 12 [.n 55])),.while (.and [.n 157,.bad 0]) [.bad 0],.ret (.n 148)]⟩ tO tO) tO) (tM (tN ⟨[160,2,236],[],[.ret (cG 260 [.n 160,.bin .add (iV 21) (.bin .mul (iV 2) (.n 2)),.bin .add (.val (.bytes [.c 48])) (.il (.val (.bytes [.c 123,.c 65,.c 66,.c 67,.c 68,.c 69,.c 70,.c 71,.c 72,.c 73])) (some (.n 236)) (some (.bin .add (.n 236) (iV 1))))])]⟩ tO tO) tO))) (tM (tN ⟨[121],[],[.ret (.cmp .oM (.attr (.n 121) 220) (.t [sV [110,117,109,101,114,105,99],sV [105,110,100,101,120]]))]⟩ (tN ⟨[163,69,369],[(.bool false)],[.ite (.n 369) [.bad 0] [],.ret (.bin .add (.il (.n 163) none (some (.n 69))) (.bin .mul (.eM 355) (.bin .sub (.n 69) (cG 12 [.n 163]))))]⟩ (tN ⟨[139,33],[],[.bU 140 (cG 253 [.n 139,.n 33]),.ite (.not (cG 230 [.n 140])) [.bad 0] [],.ret (cG 252 [.n 140])]⟩ tO tO) tO) (tN ⟨[43],[],[.ret (.bin .mul (.attr (.n 43) 69) (.bC (.n 43) 89 []))]⟩ (tN ⟨[40,54],[],[.ite (.cmp .eq (.idx (.n 40) (iV 0)) (iV 0)) [.jM (.n 40) (iV 1) (.bin .add (.idx (.n 40) (iV 1)) (iV 1)),.jM (.n 40) (iV 0) (.bin .mul (.bin .pow (iV 1000003) (.bin .add (iV 5) (.idx (.n 40) (iV 1)))) (.idx (.n 40) (iV 2)))] [],.bU 91 (.bin .mod (.idx (.n 40) (iV 0)) (.n 54)),.jM (.n 40) (iV 0) (.bin .div (.idx (.n 40) (iV 0)) (.n 54)),.ret (.n 91)]⟩ tO tO) tO)) (tN ⟨[121,135],[],[.bU 51 (.bin .mod (cG 3 [.n 135]) (cG 325 [.n 121])),.ret (.ite (.and [.cmp .lt (.n 135) (iV 0),.attr (.n 121) 272]) (.bad 0) (.n 51))]⟩ (tN ⟨[43],[],[.bU 96 (.list []),.bU 82 (.attr (.n 43) 165),.while (.cmp .tI (.n 82) (.val (.none))) [.ex (.bC (.n 96) 146 [.n 82]),.bU 82 (.attr (.n 82) 165)],.ret (.n 96)]⟩ (tN ⟨[166,65,126,306,98],[],[.for [2] true 0 (cG 117 [cG 12 [.n 166]]) [.cD [111,55] (.idx (.n 166) (.n 2)),.ex (.bC (.n 98) 86 [.idx (.n 126) (.n 2),.n 111]),.ite (.cmp .tI (.idx (.n 306) (.n 2)) (.val (.none))) [.bad 0] [],.ite (.cmp .tI (.idx (.idx (.n 65) (.n 2)) (iV 2)) (.val (.none))) [.ex (.bC (.n 98) 45 [.idx (.idx (.n 65) (.n 2)) (iV 2),cG 12 [.n 111]])] []]]⟩ tO tO) (tN ⟨[67],[],[.ret (.ite (.cmp .is (.attr (.n 67) 162) (.val (.none))) (iV 1) (.attr (.attr (.n 67) 162) 42))]⟩ tO tO)) (tN ⟨[31],[],[.bU 41 (iV 0),.for [56] true 0 (.attr (.n 31) 94) [.bad 0],.aR (.n 31) 69 (cG 346 [.attr (.n 31) 213,.n 41]),.ite (.cmp .gt (.attr (.n 31) 69) (.eM 329)) [.bad 0] [],.ex (cG 345 [.attr (.n 31) 192]),.ex (cG 350 [.n 31]),.for [43] true 0 (cG 263 [.n 31]) [.ite (.cmp .tI (.attr (.n 43) 162) (.val (.none))) [.ex (cG 363 [.n 31,.n 43])] []]]⟩ (tN ⟨[67,73,209,220,151,120,272,69],[],[.aR (.n 67) 73 (.n 73),.aR (.n 67) 209 (.n 209),.aR (.n 67) 220 (.n 220),.aR (.n 67) 151 (.n 151),.aR (.n 67) 120 (.n 120),.aR (.n 67) 272 (.n 272),.aR (.n 67) 69 (.n 69)]⟩ tO tO) tO))))) (tN ⟨[0,1],[],[.cD [95,169,120] (cG 383 [.n 0,.n 1]),.ret (cG 183 [.bin .sub (.n 95) (.n 169),.n 120])]⟩ (tM (tN ⟨[123],[],[.bU 96 (.list []),.for [16] true 0 (.n 123) [.ite (.and [.cmp .ne (.n 96) (.list []),.cmp .eq (.idx (.idx (.n 96) (.neg (iV 1))) (iV 0)) (.attr (.n 16) 68)]) [.jM (.n 96) (.neg (iV 1)) (.t [.attr (.n 16) 68,.bin .add (.idx (.idx (.n 96) (.neg (iV 1))) (iV 1)) (.attr (.n 16) 89)])] [.ex (.bC (.n 96) 146 [.t [.attr (.n 16) 68,.attr (.n 16) 89]])]],.ret (.n 96)]⟩ (tM (tN ⟨[184],[],[.bU 96 (iV 0),.for [2,154] false 1 (.n 184) [.ite (.not (.chain .le (iV 0) (.n 154) .le (iV 9))) [.bad 0] [],.bU 96 (.bin .add (.bin .mul (iV 10) (.n 96)) (.n 154))],.ret (.n 96)]⟩ (tN ⟨[68,51,118],[],[.ite (.cmp .eq (.n 68) (sV [43])) [.ret (cG 60 [.n 51,.n 118])] [],.ite (.cmp .eq (.n 68) (sV [45])) [.ret (cG 104 [.n 51,.n 118])] [],.bad 0,.bad 0]⟩ tO tO) (tN ⟨[67],[],[.ret (.bin .add (.bin .add (.attr (.n 67) 108) (.attr (.n 67) 141)) (.attr (.n 67) 156))]⟩ tO tO)) (tN ⟨[43,61],[],[.for [16] true 0 (.bin .add (.list [.n 43]) (cG 370 [.n 43])) [.ite (.cmp .ne (.call (.n 61) [.n 16]) (sV [])) [.bad 0] []],.ret (sV [])]⟩ (tN ⟨[163,121],[],[.ite (.cmp .gt (cG 12 [.n 163]) (iV 0)) [.ret (cG 106 [cG 324 [.n 163],.n 163,.n 121])] [],.ite (.cmp .oM (.attr (.n 121) 220) (.t [sV [110,117,109,101,114,105,99],sV [101,100,105,116,101,100]])) [.ret (cG 155 [.t [sV [102,105,103,117,114,101],sV [90,69,82,79]],.n 121])] [],.ret (cG 155 [.t [sV [102,105,103,117,114,101],sV [83,80,65,67,69]],.n 121])]⟩ tO tO) (tN ⟨[67,93,114,145,45,71,86,63],[],[.aR (.n 67) 93 (.n 93),.aR (.n 67) 114 (.n 114),.aR (.n 67) 145 (.n 145),.aR (.n 67) 45 (.n 45),.aR (.n 67) 71 (.n 71),.aR (.n 67) 86 (.n 86),.aR (.n 67) 63 (.n 63)]⟩ tO tO))) (tN ⟨[197,136,68,342],[],[.ite (.and [.cmp .ne (.n 68) (sV [108,101,97,100,105,110,103]),.cmp .ne (.n 68) (sV [116,114,97,105,108,105,110,103])]) [.bad 0] [],.ite (.and [.cmp .eq (.n 68) (sV [116,114,97,105,108,105,110,103]),.not (.n 342)]) [.ret (.val .none)] [],.bad 0]⟩ (tN ⟨[121,161],[],[.ite (.cmp .eq (.attr (.n 121) 220) (sV [101,100,105,116,101,100])) [.bad 0] [],.ret (cG 295 [.n 121,.n 161])]⟩ (tN ⟨[65,37,85],[],[.ite (.not (.chain .le (iV 1) (.n 85) .le (cG 12 [.n 37]))) [.bad 0] [],.bU 270 (.n 85),.for [163,265] false 0 (.n 65) [.bU 111 (cG 279 [.n 163,.n 265]),.bU 63 (.bin .sub (.bin .add (cG 12 [.n 37]) (iV 1)) (.n 270)),.bU 39 (.il (.n 111) none (some (.n 63))),.bU 37 (.bin .add (.bin .add (.il (.n 37) none (some (.bin .sub (.n 270) (iV 1)))) (.n 39)) (.il (.n 37) (some (.bin .add (.bin .sub (.n 270) (iV 1)) (cG 12 [.n 39]))) none)),.bU 270 (.bin .add (.n 270) (cG 12 [.n 39])),.ite (.cmp .lt (cG 12 [.n 39]) (cG 12 [.n 111])) [.ret (.t [.n 37,.n 270,.val (.bool true)])] []],.ret (.t [.n 37,.n 270,.val (.bool false)])]⟩ tO tO) tO) (tM (tN ⟨[40],[],[.bU 85 (.bin .add (.bin .add (cG 87 [.comp (cG 262 [.n 40,.val (.bytes [.c 50,.c 44,.c 51,.c 49,.c 52,.c 44])]) [74] true (cG 117 [iV 5]) []]) (cG 87 [.list [.bin .add (iV 49) (cG 258 [.n 40,iV 4])]])) (.val (.bytes [.c 103,.c 104,.c 105]))),.bU 150 (cG 87 [.comp (.bin .add (iV 48) (cG 258 [.n 40,iV 10])) [74] true (cG 117 [iV 4]) []]),.bU 210 (.bC (.val (.bytes [])) 44 [.comp (cG 218 [cG 258 [.n 40,iV 90]]) [74] true (cG 117 [iV 4]) []]),.ret (.bin .add (.bin .add (.bin .add (.n 85) (.n 150)) (.n 210)) (.bC (.val (.bytes [])) 44 [.comp (cG 218 [cG 258 [.n 40,iV 8]]) [74] true (cG 117 [iV 4]) []]))]⟩ tO tO) tO))) (tM (tM (tN ⟨[220],[],[.bU 130 (.t [sV [103,114,111,117,112],sV [97,108,112,104,97,98,101,116,105,99],sV [97,108,112,104,97,110,117,109,101,114,105,99],sV [97,108,110,117,109,45,101,100,105,116,101,100]]),.bU 65 (.dW [[103,114,111,117,112],[97,108,112,104,97,110,117,109,101,114,105,99],[97,108,112,104,97,98,101,116,105,99],[97,108,110,117,109,45,101,100,105,116,101,100],[110,117,109,101,114,105,99],[101,100,105,116,101,100]] [.bin .add (.n 130) (.eM 177),.bin .add (.n 130) (.eM 177),.n 130,.n 130,.bin .add (.t [sV [103,114,111,117,112],sV [97,108,112,104,97,110,117,109,101,114,105,99],sV [97,108,110,117,109,45,101,100,105,116,101,100]]) (.eM 177),.bin .add (.t [sV [103,114,111,117,112],sV [97,108,112,104,97,110,117,109,101,114,105,99],sV [97,108,110,117,109,45,101,100,105,116,101,100]]) (.eM 177)]),.ret (.bC (.n 65) 8 [.n 220,.t []])]⟩ (tN ⟨[139,195],[],[.ite (.cmp .eq (.idx (.n 195) (iV 0)) (sV [110,117,109,98,101,114])) [.ret (.idx (.n 195) (iV 1))] [],.ite (.cmp .eq (.n 195) (.t [sV [102,105,103,117,114,101],sV [90,69,82,79]])) [.bad 0] [],.ite (cG 227 [.n 139,.n 195]) [.bad 0] [],.cD [121,163] (cG 311 [.n 139,.n 195]),.ite (.not (cG 271 [.n 121])) [.bad 0] [],.ret (cG 275 [.n 121,.n 163])]⟩ tO tO) tO) (tM (tN ⟨[139,281],[],[.ret (cG 400 [cG 353 [.n 139,.il (.n 281) none (some (.neg (iV 1)))],cG 224 [.n 139]])]⟩ tO tO) tO)) (tM (tN ⟨[43],[],[.bU 96 (.list []),.bU 52 (.list [.n 43]),.while (.cmp .ne (.n 52) (.list [])) [.bU 16 (.bC (.n 52) 18 []),.ex (.bC (.n 96) 146 [.n 16]),.ex (.bC (.n 52) 153 [.rev (.attr (.n 16) 47)])],.ret (.n 96)]⟩ (tN ⟨[199,236,98],[],[.ite (.cmp .tI (.n 199) (.val (.none))) [.ex (.bC (.n 98) 45 [.n 199,.n 236])] []]⟩ tO tO) (tN ⟨[67,100,56],[],[.aR (.n 67) 100 (.n 100),.aR (.n 67) 56 (.n 56),.aR (.n 67) 375 (.val (.none)),.aR (.n 67) 136 (sV []),.aR (.n 67) 68 (sV []),.aR (.n 67) 342 (.val (.bool false)),.aR (.n 67) 162 (.val (.none)),.aR (.n 67) 278 (sV []),.aR (.n 67) 137 (.val (.none)),.aR (.n 67) 369 (.val (.bool false)),.aR (.n 67) 391 (.val (.bool false)),.aR (.n 67) 294 (.list []),.aR (.n 67) 47 (.list []),.aR (.n 67) 165 (.val (.none)),.aR (.n 67) 203 (.val (.none)),.aR (.n 67) 28 (sV []),.aR (.n 67) 164 (iV 0),.aR (.n 67) 69 (iV 0),.aR (.n 67) 121 (.val (.none))]⟩ tO tO)) tO))) (tN ⟨[135,151],[],[.ret (.cmp .lt (cG 3 [.n 135]) (.bin .pow (iV 10) (.n 151)))]⟩ (tN ⟨[73,123],[],[.for [16] true 0 (.n 123) [.ite (.cmp .B8 (.attr (.n 16) 68) (.bC (.eM 289) 125 [sV [32]])) [.bad 0] []],.bU 209 (cG 321 [.n 123]),.ite (.cmp .gt (cG 411 [.n 209]) (.eM 416)) [.bad 0] [],.ret (cG 178 [.n 73,.n 209,cG 399 [.n 209],iV 0,iV 0,.val (.bool false),cG 411 [.n 209]])]⟩ (tM (tM (tN ⟨[139,43,164,69],[],[.cD [160,85,7] (cG 274 [.n 139,.n 43]),.ite (.cmp .gt (.bin .add (.bin .add (.n 85) (.n 164)) (.n 69)) (.n 7)) [.bad 0] [],.ret (.t [.n 160,.bin .add (.n 85) (.n 164)])]⟩ tO tO) tO) (tN ⟨[147,316],[],[.bU 2 (iV 0),.for [56] true 0 (.n 147) [.ite (.and [.cmp .lt (.n 2) (cG 12 [.n 316]),.bad 0]) [.bad 0] []],.ret (.cmp .eq (.n 2) (cG 12 [.n 316]))]⟩ (tN ⟨[139,33],[],[.ret (.ite (.cmp .is (.n 33) (.val (.none))) (.val (.none)) (.t [sV [110,117,109,98,101,114],cG 183 [cG 251 [.n 139,.n 33]]]))]⟩ tO tO) tO)) (tN ⟨[163],[],[.ret (cG 80 [sV [97,108,112,104,97,110,117,109,101,114,105,99],cG 12 [.n 163]])]⟩ (tN ⟨[195,121],[],[.ite (.cmp .oM (.attr (.n 121) 220) (.eM 177)) [.ret (cG 390 [.n 195,.n 121])] [],.ite (.or [.cmp .eq (.attr (.n 121) 220) (sV [105,110,100,101,120]),.and [.cmp .eq (.attr (.n 121) 220) (sV [97,108,112,104,97,98,101,116,105,99]),.cmp .eq (.n 195) (.t [sV [102,105,103,117,114,101],sV [90,69,82,79]])]]) [.bad 0] [],.bU 73 (cG 240 [cG 312 [.n 195],.attr (.n 121) 69]),.ret (.ite (.cmp .eq (.attr (.n 121) 220) (sV [97,108,110,117,109,45,101,100,105,116,101,100])) (.bad 0) (.n 73))]⟩ (tN ⟨[163,297,85,54],[],[.ite (.not (.chain .le (iV 1) (.n 85) .le (cG 12 [.n 163]))) [.bad 0] [],.cD [166,2] (.t [.list [],.bin .sub (.n 85) (iV 1)]),.while (.and [.cmp .lt (cG 12 [.n 166]) (.n 54),.cmp .lt (.n 2) (cG 12 [.n 163])]) [.cD [111,55,2] (cG 307 [.n 163,.n 297,.n 2]),.ex (.bC (.n 166) 146 [.t [.n 111,.n 55]])],.ret (.t [.n 166,.bin .add (.n 2) (iV 1),.cmp .lt (.n 2) (cG 12 [.n 163])])]⟩ tO tO) tO) (tN ⟨[119],[],[.bU 83 (.list []),.for [64] true 0 (.n 119) [.bad 0,.ex (.bC (.n 83) 146 [.n 64])]]⟩ (tN ⟨[160],[],[.cD [2,73] (.t [.bin .sub (.idx (.n 160) (iV 5)) (iV 49),.il (.n 160) none (some (iV 5))]),.bU 85 (.bin .sub (.idx (.n 160) (.bin .add (iV 22) (.bin .mul (iV 2) (.n 2)))) (iV 48)),.ite (.not (.chain .le (iV 1) (.n 85) .le (iV 5))) [.ret (.t [.n 160,sV [111,118,101,114]])] [],.cD [95,112] (cG 290 [.n 73,.bin .sub (.n 85) (iV 1)]),.cD [166,96] (.t [iV 1,cG 260 [.n 160,iV 5,.il (.bin .add (.val (.bytes [.c 48])) (.n 95)) (some (.neg (iV 1))) none]]),.bU 96 (cG 260 [.n 96,.bin .add (iV 9) (.n 2),cG 87 [.list [.bin .add (iV 48) (cG 12 [.n 95])]]]),.ite (.cmp .lt (.n 112) (iV 5)) [.cD [169,112] (cG 290 [.n 73,.n 112]),.cD [166,96] (.t [iV 2,cG 260 [.n 96,iV 6,.il (.bin .add (.n 169) (.val (.bytes [.c 32,.c 32,.c 32]))) none (some (iV 3))]])] [],.bU 129 (.bin .add (.bin .sub (.bin .add (.bin .mul (iV 10) (.bin .sub (.idx (.n 160) (.bin .add (iV 13) (.bin .mul (iV 2) (.n 2)))) (iV 48))) (.idx (.n 160) (.bin .add (iV 14) (.bin .mul (iV 2) (.n 2))))) (iV 48)) (.n 166)),.bU 96 (cG 260 [cG 360 [.n 96,.n 2,.bin .add (.n 112) (iV 1)],.bin .add (iV 13) (.bin .mul (iV 2) (.n 2)),cG 218 [.n 129]]),.ret (.t [.n 96,.ite (.cmp .lt (.n 112) (iV 5)) (sV [111,118,101,114]) (sV [])])]⟩ tO tO) tO))) (tM (tM (tN ⟨[163],[],[.bU 161 (iV 0),.for [2,30] false 1 (.n 163) [.ite (.not (.chain .le (.eM 330) (.n 30) .le (.bin .add (.eM 330) (iV 9)))) [.bad 0] [],.bU 161 (.bin .sub (.bin .add (.bin .mul (iV 10) (.n 161)) (.n 30)) (.eM 330))],.ret (.n 161)]⟩ (tN ⟨[139,19,161,301],[],[.ite (cG 227 [.n 139,.n 19]) [.bad 0,.bad 0,.ret (.val (.bool false))] [],.cD [160,164,121] (cG 207 [.n 139,.n 19]),.ite (.cmp .B8 (.attr (.n 121) 220) (.t [sV [110,117,109,101,114,105,99],sV [101,100,105,116,101,100]])) [.bad 0] [],.bU 135 (cG 246 [.n 161,.attr (.n 121) 120,.n 301]),.ite (.not (cG 35 [.n 135,.attr (.n 121) 151])) [.ret (.val (.bool true))] [],.iP (.n 160) (.n 164) (.bin .add (.n 164) (.attr (.n 121) 69)) (cG 394 [.n 121,.n 135]),.ret (.val (.bool false))]⟩ tO tO) (tN ⟨[67,16],[],[.bU 68 (.attr (.n 16) 68),.ite (.or [.attr (.n 67) 189,.and [.attr (.n 67) 229,.cmp .B8 (.n 68) (.t [sV [57],sV [80],sV [86]])],.and [.cmp .eq (.n 68) (sV [83]),.cmp .gt (.attr (.n 67) 66) (iV 0)]]) [.bad 0] [],.ite (.cmp .eq (.n 68) (sV [83])) [.aR (.n 67) 229 (.val (.bool true))] [.ite (.cmp .eq (.n 68) (sV [57])) [.ex (.bC (.n 67) 283 [.n 16])] [.bad 0]],.aR (.n 67) 66 (.bin .add (.attr (.n 67) 66) (iV 1)),.aR (.n 67) 49 (.n 68)]⟩ tO tO)) (tN ⟨[43,90],[],[.ite (.cmp .gt (.n 90) (.eM 288)) [.bad 0] [],.ite (.and [.cmp .tI (.attr (.n 43) 162) (.val (.none)),.or [.cmp .eq (.attr (.n 43) 100) (iV 1),.cmp .eq (.attr (.n 43) 100) (.eM 327),.cmp .lt (.attr (.attr (.n 43) 162) 42) (iV 1)]]) [.bad 0] [],.ite (.not (cG 226 [.n 43])) [.aR (.n 43) 121 (cG 305 [.n 43]),.aR (.n 43) 69 (.attr (.attr (.n 43) 121) 69),.ret (.val .none)] [],.ite (.cmp .tI (.attr (.n 43) 375) (.val (.none))) [.bad 0] [],.aR (.n 43) 69 (cG 298 [.n 43,.n 90]),.aR (.n 43) 121 (cG 338 [.attr (.n 43) 69])]⟩ (tN ⟨[56],[],[.ret (.t [sV [114,101,102],.n 56,.t [],.t [],.val (.none)])]⟩ tO tO) tO)) (tN ⟨[121,135],[],[.bU 88 (.comp (.bin .add (.eM 385) (.n 154)) [154] true (cG 337 [cG 3 [.n 135],.attr (.n 121) 151]) []),.ite (.not (.attr (.n 121) 272)) [.ret (cG 87 [.n 88])] [],.ite (.attr (.n 121) 342) [.bad 0,.bad 0] [],.bU 112 (.ite (.cmp .eq (.attr (.n 121) 68) (sV [108,101,97,100,105,110,103])) (iV 0) (.bin .sub (cG 12 [.n 88]) (iV 1))),.bU 20 (.ite (.cmp .lt (.n 135) (iV 0)) (.eM 384) (.eM 358)),.jM (.n 88) (.n 112) (.idx (.n 20) (.bin .sub (.idx (.n 88) (.n 112)) (.eM 385))),.ret (cG 87 [.n 88])]⟩ (tN ⟨[43],[],[.ret (.comp (.attr (.n 16) 56) [16] true (cG 370 [.n 43]) [.cmp .ne (.attr (.n 16) 56) (.eM 142)])]⟩ (tN ⟨[121,163],[],[.ite (.cmp .eq (.attr (.n 121) 220) (sV [105,110,100,101,120])) [.bad 0] [],.ite (.cmp .ne (.attr (.n 121) 220) (sV [110,117,109,101,114,105,99])) [.ret (.n 163)] [],.ite (.cmp .ne (.attr (.n 121) 136) (sV [100,105,115,112,108,97,121])) [.bad 0] [],.bU 112 (.bC (.n 121) 318 []),.ite (.cmp .lt (.n 112) (iV 0)) [.ret (.n 163)] [],.bad 0,.bad 0,.bad 0]⟩ tO tO) tO) (tN ⟨[43],[],[.ite (.or [.cmp .eq (.attr (.attr (.n 43) 121) 220) (sV [105,110,100,101,120]),cG 300 [.attr (.n 43) 121]]) [.ret (cG 309 [.attr (.n 43) 121,iV 0])] [],.ret (.bin .mul (.val (.bytes [.c 32])) (.attr (.n 43) 69))]⟩ tO tO)))))))
def jR:aE (List Nat×List Nat×CE):=(tN (([16],[],.attr (.n 16) 136)) (tN (([195],[139],cG 276 [.n 139,.n 195])) (tN (([19,163],[139],cG 354 [.n 139,.n 19,.n 163])) (tN (([71],[],.bad 0)) tO tO) tO) (tN (([19,161],[139],cG 127 [.n 139,.n 19,cG 183 [.n 161],.val (.bool false)])) tO tO)) (tN (([195,69],[139],cG 349 [.n 139,.n 195,.n 69])) (tN (([19],[139],cG 252 [cG 276 [.n 139,.n 19]])) (tN (([19],[139],cG 378 [.n 139,.n 19])) tO tO) tO) (tN (([19],[139],cG 207 [.n 139,.n 19])) tO tO)))
def GC:aE (Nat×List (Nat×Nat)):=(tM (tM (tM (tN ((191,[(216,191),(92,192)])) (tN ((226,[(216,226)])) tO tO) tO) (tN ((216,[(216,216)])) tO tO)) (tM tO (tN ((223,[(216,223)])) tO tO))) (tM (tM (tN ((193,[(216,193),(151,194),(292,195),(283,196),(285,197),(323,198),(381,199),(398,200),(284,203),(322,204),(244,205),(72,206),(230,207),(120,208)])) (tN ((227,[(216,227)])) tO tO) tO) (tN ((218,[(216,218),(4,219),(89,220)])) tO tO)) (tN ((188,[(216,188)])) (tN ((213,[(216,213),(318,215)])) tO tO) (tN ((225,[(216,225)])) tO tO))))
def Et:aE AV:=(tM (tM (tN (.bi 11) (tM (tN (.bi 10) (tM (tM (tN (.fn 142) (tN (.int (.c (30))) tO tO) (tN (.fn 4) tO tO)) (tN (.fn 143) tO tO)) (tM (tM tO (tN (.fn 78) tO tO)) (tN (.fn 74) (tN (.fn 112) tO tO) tO))) (tM (tN (.str [65,66,80,83,86,88,90,57,48,47,44,46,43,45,42,36]) (tN (.cls 11) (tN (.fn 44) tO tO) (tN (.fn 21) tO tO)) (tN (.fn 136) (tN (.fn 49) tO tO) tO)) (tM (tM (tN (.fn 60) tO tO) tO) (tN (.fn 131) (tN (.fn 127) tO tO) tO)))) (tN (.bi 8) (tM (tM (tM (tN (.fn 91) tO tO) tO) (tM (tN (.int (.c (77))) tO tO) tO)) (tM (tM (tN (.fn 73) tO tO) tO) tO)) (tM (tN (.bi 2) (tM (tN (.fn 145) tO tO) (tN (.fn 20) tO tO)) tO) (tM (tN (.fn 2) (tN (.fn 137) tO tO) tO) (tN (.fn 71) tO tO))))) (tM (tM (tN (.fn 14) (tM (tM (tN (.fn 171) tO tO) tO) tO) (tM (tM (tN (.fn 176) tO tO) tO) (tN (.fn 132) (tN (.bytes [.c 32]) tO tO) tO))) (tM (tM (tM (tN (.fn 72) tO tO) (tN (.fn 62) tO tO)) (tN (.fn 80) tO tO)) (tM (tN (.cls 16) (tN (.fn 149) tO tO) tO) (tN (.fn 48) (tN (.fn 94) tO tO) tO)))) (tN (.cls 7) (tM (tM (tM (tN (.fn 169) tO tO) tO) (tM (tN (.str [57,32,80,32,83,32,86]) tO tO) tO)) (tM tO (tM (tN (.fn 123) tO tO) tO))) (tM (tM (tN (.fn 86) tO (tN (.fn 19) tO tO)) (tN (.fn 75) tO tO)) (tM tO (tN (.fn 140) tO tO)))))) (tM (tM (tM (tM (tM (tM tO (tN (.int (.c (48))) tO tO)) (tM (tN (.fn 18) tO tO) tO)) (tM (tM (tN (.str [65,32,88,32,57,32,66,32,48,32,47]) tO tO) (tN (.int (.c (18))) tO tO)) (tM (tN (.fn 168) tO tO) tO))) (tM (tN (.cls 14) (tM (tN (.fn 163) tO tO) (tN (.fn 79) tO tO)) (tM (tN (.fn 61) tO tO) tO)) (tM (tN (.t [(.str [110,117,109,101,114,105,99]),(.str [101,100,105,116,101,100])]) (tN (.fn 107) tO tO) tO) (tN (.fn 52) tO tO)))) (tN (.cls 12) (tM (tM (tM tO (tN (.fn 102) tO tO)) (tM (tN (.int (.c (10000000))) tO tO) tO)) (tM tO (tN (.fn 154) tO tO))) (tM (tM (tM tO (tN (.fn 166) tO tO)) (tN (.fn 182) (tN (.fn 118) tO tO) tO)) (tM (tN (.fn 101) tO tO) (tN (.fn 126) (tN (.fn 23) tO tO) tO))))) (tM (tN (.bi 13) (tM (tM (tM (tN (.fn 174) tO tO) (tN (.fn 68) tO tO)) (tM (tN (.fn 45) tO tO) tO)) (tM (tM (tN (.fn 50) tO tO) tO) tO)) (tN (.bi 4) (tM (tM tO (tN (.fn 128) tO tO)) tO) (tN (.bi 1) (tN (.fn 76) (tN (.fn 65) tO tO) tO) (tN (.fn 81) tO tO)))) (tM (tM (tN (.cls 15) (tM (tN (.fn 104) tO tO) (tN (.fn 95) tO tO)) (tN (.fn 15) (tN (.fn 183) tO tO) tO)) tO) (tM (tM (tM tO (tN (.fn 148) tO tO)) (tN (.fn 16) (tN (.fn 160) tO tO) tO)) (tM (tM (tN (.fn 115) tO tO) tO) (tN (.fn 139) tO tO))))))) (tM (tM (tM (tM (tM (tM (tM (tN (.t [(.str [43]),(.str [45]),(.str [42]),(.str [47]),(.str [42,42])]) tO tO) (tN (.bytes [.c 125,.c 74,.c 75,.c 76,.c 77,.c 78,.c 79,.c 80,.c 81,.c 82]) tO tO)) tO) (tM (tM (tN (.int (.c (20))) tO tO) (tN (.int (.c (9999))) tO tO)) (tN (.fn 165) (tN (.fn 155) tO tO) tO))) (tM (tN (.cls 10) (tN (.str [100,105,115,112,108,97,121,32,112,97,99,107,101,100,32,98,105,110,97,114,121,32,105,110,100,101,120]) tO (tN (.fn 157) tO tO)) (tN (.fn 105) (tN (.fn 170) tO tO) tO)) (tM (tN (.str [48,49,50,51,52,53,54,55,56,57]) (tN (.fn 156) tO tO) tO) (tN (.fn 77) tO tO)))) (tN (.cls 13) (tM (tM (tM (tN (.bi 3) tO tO) tO) (tN (.fn 129) tO tO)) (tN (.fn 6) tO (tM (tN (.fn 180) tO tO) tO))) (tM (tM (tM (tN (.fn 110) tO tO) tO) (tM (tN (.fn 90) tO tO) tO)) (tM (tM (tN (.fn 84) tO tO) tO) (tN (.fn 150) (tN (.fn 158) tO tO) tO))))) (tN (.bi 0) (tM (tM (tM (tM (tN (.fn 179) tO tO) (tN (.fn 51) tO tO)) (tN (.fn 135) (tN (.fn 54) tO tO) tO)) (tM tO (tM (tN (.str [80,32,83,32,86]) tO tO) tO))) (tM (tM (tM (tN (.fn 138) tO tO) (tN (.fn 88) tO tO)) (tN (.fn 98) tO tO)) (tM (tN (.fn 175) (tN (.fn 82) tO tO) tO) tO))) (tM (tM (tM (tM (tN (.bi 7) tO tO) (tN (.fn 67) tO tO)) (tN (.fn 93) (tN (.fn 184) tO tO) tO)) (tM (tN (.fn 146) (tN (.fn 43) tO tO) tO) tO)) (tN (.fn 5) (tM (tM tO (tN (.int (.c (1000000))) tO tO)) (tM (tN (.fn 152) tO tO) tO)) (tM tO (tN (.fn 13) (tN (.fn 159) tO tO) tO)))))) (tM (tN (.bi 12) (tM (tM (tM (tM (tN (.fn 172) tO tO) tO) tO) (tM (tM (tN (.fn 181) tO tO) tO) (tN (.fn 96) (tN (.fn 161) tO tO) tO))) (tM (tM (tM (tN (.fn 133) tO tO) (tN (.str [83,32,86,32,46,32,67,82,32,68,66]) tO tO)) (tM (tN (.fn 53) tO tO) tO)) (tM (tN (.cls 6) tO tO) (tN (.fn 17) (tN (.fn 92) tO tO) tO)))) (tM (tM (tM (tM tO (tN (.fn 141) tO tO)) (tN (.fn 89) (tN (.int (.c (48))) tO tO) tO)) (tN (.fn 83) (tN (.bi 6) (tN (.fn 111) tO tO) tO) (tN (.fn 103) tO tO))) (tM (tM (tM tO (tN (.fn 134) tO tO)) (tN (.fn 177) (tN (.fn 117) tO tO) tO)) (tM (tM (tN (.fn 97) tO tO) tO) (tN (.fn 99) (tN (.fn 167) tO tO) tO))))) (tN (.bi 9) (tM (tM (tM (tN (.bi 5) (tN (.fn 173) tO tO) (tN (.fn 85) tO tO)) (tN (.fn 153) (tN (.fn 108) tO tO) tO)) (tM tO (tN (.fn 12) (tN (.bytes [.c 123,.c 65,.c 66,.c 67,.c 68,.c 69,.c 70,.c 71,.c 72,.c 73]) tO tO) tO))) (tM (tM (tM tO (tN (.fn 66) tO tO)) (tN (.int (.c (66))) tO tO)) (tM (tN (.fn 130) tO tO) (tN (.fn 11) tO tO)))) (tM (tM (tN (.cls 8) (tN (.str [70,73,76,76,69,82]) tO tO) (tN (.fn 100) (tN (.fn 178) tO tO) tO)) (tM (tM (tN (.bi 14) tO tO) tO) (tN (.fn 162) (tN (.fn 147) tO tO) tO))) (tM (tM (tN (.fn 87) tO tO) (tM (tN (.fn 120) tO tO) tO)) (tM (tN (.fn 124) tO tO) (tM (tN (.fn 22) tO tO) tO))))))))
noncomputable def cV:oO:=⟨146,153,18,125,34,44,8,216⟩
noncomputable def Ss:List (Nat×Nat):=[(2,125),(4,139),(5,146),(6,153),(11,189),(12,196),(13,203),(14,210),(15,278),(16,283),(17,290),(18,297),(19,302),(20,433),(21,438),(22,445),(23,450),(43,660),(44,667),(45,674),(48,695),(49,702),(50,709),(51,714),(52,722),(53,729),(54,736),(60,778),(61,785),(62,790),(65,809),(66,816),(67,823),(68,828),(71,849),(72,856),(73,863),(74,871),(75,878),(76,886),(77,893),(78,900),(79,907),(80,914),(81,921),(82,928),(83,935),(84,942),(85,949),(86,956),(87,963),(88,968),(89,1079),(90,1086),(91,1093),(92,1100),(93,1107),(94,1112),(95,1117),(96,1122),(97,1127),(98,1134),(99,1141),(100,1148),(101,1153),(102,1160),(103,1167),(104,1172),(105,1179),(107,1193),(108,1200),(110,1214),(111,1221),(112,1228),(115,1247),(117,1261),(118,1268),(120,1280),(123,1295),(124,1302),(126,1316),(127,1321),(128,1328),(129,1336),(130,1343),(131,1350),(132,1378),(133,1385),(134,1392),(135,1399),(136,1404),(137,1411),(138,1418),(139,1425),(140,1432),(141,1439),(142,1446),(143,1453),(145,1467),(146,1474),(147,1481),(148,1488),(149,1495),(150,1502),(152,1537),(153,1544),(154,1551),(155,1558),(156,1565),(157,1570),(158,1575),(159,1582),(160,1589),(161,1596),(162,1603),(163,1610),(165,1624),(166,1631),(167,1636),(168,1643),(169,1650),(170,1657),(171,1693),(172,1700),(173,1707),(174,1714),(175,1721),(176,1728),(177,1735),(178,1740),(179,1747),(180,1754),(181,1761),(182,1768),(183,1775),(184,1782),(185,1789),(188,224),(191,257),(193,316),(194,323),(195,330),(196,337),(206,407),(207,414),(208,421),(213,632),(215,646),(216,985),(218,1013),(219,1020),(220,1027),(223,1060),(225,1364),(226,1523),(227,1672),(192,264),(197,344),(198,351),(199,358),(200,365),(203,386),(204,393),(205,400)]
noncomputable def cZ:List (Nat×Nat×Nat):=[(6,239,238),(7,267,266),(8,424,423),(10,649,648),(11,995,994),(12,1042,1041),(13,1068,1067),(14,1367,1366),(15,1526,1525),(16,1682,1681)]
def B6:aE Str:=(tN "a" (tN "b" (tN "abs" (tN "end" (tN "min" (tN "data" (tN "room" (tN "store" (tN "MOST_TEXT" tO tO) (tN "units_beside" tO tO)) (tN "lies_at" (tN "strung_row" tO tO) tO)) (tN "first" (tN "length" (tN "CheckFault" tO tO) (tN "whole_figures_of" tO tO)) (tN "goals_of" (tN "set_offsets" tO tO) tO))) (tN "kids" (tN "SIGNS" (tN "Occurs" (tN "has_units" tO tO) (tN "text_category" tO tO)) (tN "spot_in" (tN "check_usage" tO tO) tO)) (tN "piece" (tN "wanted" (tN "kept_units" tO tO) tO) (tN "reckoned" (tN "first_octets" tO tO) tO)))) (tN "zip" (tN "head" (tN "spot" (tN "units" (tN "all_items" tO tO) (tN "is_blank_zero" tO tO)) (tN "pointer" (tN "ALONE_items" tO tO) tO)) (tN "meant" (tN "record" (tN "cut_octets" tO tO) tO) (tN "lay_file" (tN "PictureFault" tO tO) tO))) (tN "mark" (tN "bytes" (tN "digits" (tN "sent_part" tO tO) (tN "number_picture" tO tO)) (tN "RunFault" (tN "items_meant" tO tO) tO)) (tN "roots" (tN "decimal" (tN "operand_in" tO tO) tO) (tN "units_in" (tN "picture_text" tO tO) tO))))) (tN "kid" (tN "ref" (tN "fits" (tN "self" (tN "thing" (tN "_law_heap" tO tO) (tN "binary_octets" tO tO)) (tN "operand" (tN "take_point" tO tO) tO)) (tN "index" (tN "octets" (tN "_law_world" tO tO) tO) (tN "is_index" (tN "BLANK_moving" tO tO) tO))) (tN "left" (tN "ahead" (tN "around" (tN "number_in" tO tO) (tN "display_octets" tO tO)) (tN "text_in" (tN "index_shape" tO tO) tO)) (tN "point" (tN "Program" (tN "next_piece" tO tO) tO) (tN "size_for" (tN "names_around" tO tO) tO)))) (tN "Sign" (tN "item" (tN "word" (tN "world" (tN "do_string" tO tO) (tN "packed_octets" tO tO)) (tN "renames" (tN "PLAIN_SIGNS" tO tO) tO)) (tN "names" (tN "source" (tN "is_initial" tO tO) tO) (tN "open_row" (tN "check_occurs" tO tO) tO))) (tN "pile" (tN "digit" (tN "filled" (tN "take_nine" tO tO) (tN "size_of_symbols" tO tO)) (tN "can_move" (tN "lies_within" tO tO) tO)) (tN "signs" (tN "indexes" (tN "procedures" tO tO) tO) (tN "whole_in" (tN "set_renaming" tO tO) tO)))))) (tN "chr" (tN "hit" (tN "ord" (tN "expr" (tN "rows" (tN "tally" (tN "__debug__" tO tO) (tN "NOUGHT_usages" tO tO)) (tN "negated" (tN "symbols_of" tO tO) tO)) (tN "great" (tN "number" (tN "TEXT_SIGNS" tO tO) (tN "MOST_DIGITS_pictures" tO tO)) (tN "inserted" (tN "with_places" tO tO) tO))) (tN "last" (tN "World" (tN "amount" (tN "lay_piece" tO tO) (tN "worth_in_text" tO tO)) (tN "symbols" (tN "figures_for" tO tO) tO)) (tN "plain" (tN "NUMBERS" (tN "leaf_shape" tO tO) tO) (tN "shape_of" (tN "is_justified" tO tO) tO)))) (tN "Item" (tN "here" (tN "text" (tN "value" (tN "delimiter" tO tO) (tN "leads_through" tO tO)) (tN "program" (tN "MOST_MEMORY" tO tO) tO)) (tN "money" (tN "second" (tN "delimiters" tO tO) tO) (tN "moved_on" (tN "binary_units" tO tO) tO))) (tN "over" (tN "count" (tN "extend" (tN "statement" tO tO) (tN "number_in_place" tO tO)) (tN "_law_cut" (tN "lay_linkage" tO tO) tO)) (tN "shape" (tN "file_of" (tN "piece_size" tO tO) tO) (tN "unvalued" (tN "read_picture" tO tO) tO))))) (tN "low" (tN "sum" (tN "goal" (tN "size" (tN "trail" (tN "_law_name" tO tO) (tN "display_units" tO tO)) (tN "picture" (tN "unit_bound" tO tO) tO)) (tN "links" (tN "parent" (tN "check_sign" tO tO) tO) (tN "is_plain" (tN "MINUS_usages" tO tO) tO))) (tN "list" (tN "begin" (tN "change" (tN "redefined" tO tO) (tN "initial_memory" tO tO)) (tN "working" (tN "is_negative" tO tO) tO)) (tN "range" (tN "aligned" (tN "octets_for" tO tO) tO) (tN "text_for" (tN "packed_units" tO tO) tO)))) (tN "cell" (tN "keep" (tN "Hands" (tN "zeros" (tN "find_item" tO tO) (tN "tables_around" tO tO)) (tN "sign_at" (tN "_law_joined" tO tO) tO)) (tN "order" (tN "tables" (tN "is_rounded" tO tO) tO) (tN "quotient" (tN "cut_quotient" tO tO) tO))) (tN "read" (tN "fetch" (tN "is_all" (tN "take_zero" tO tO) (tN "behind_delimiter" tO tO)) (tN "count_at" (tN "sent_octets" tO tO) tO)) (tN "split" (tN "is_over" (tN "set_record" tO tO) tO) (tN "worth_in" (tN "take_scaling" tO tO) tO))))))) (tN "at" (tN "add" (tN "get" (tN "one" (tN "ends" (tN "root" (tN "table" (tN "TWO_SIDED" tO tO) (tN "MINUS_FIGURES" tO tO)) (tN "linkage" (tN "subscripts" tO tO) tO)) (tN "found" (tN "memory" (tN "MOST_DEPTH" tO tO) (tN "MOST_SIZE_pictures" tO tO)) (tN "hands_of" (tN "string_with" tO tO) tO))) (tN "kind" (tN "Shape" (tN "USAGES" (tN "is_signed" tO tO) (tN "unstring_with" tO tO)) (tN "stretch" (tN "do_unstring" tO tO) tO)) (tN "place" (tN "FIGURES" (tN "lay_pieces" tO tO) tO) (tN "repeated" (tN "is_ascending" tO tO) tO)))) (tN "Data" (tN "heap" (tN "take" (tN "usage" (tN "bytearray" tO tO) (tN "is_signed_row" tO tO)) (tN "postfix" (tN "LedgerError" tO tO) tO)) (tN "minus" (tN "script" (tN "data_fault" tO tO) tO) (tN "lay_upon" (tN "_law_pointer" tO tO) tO))) (tN "name" (tN "codes" (tN "edited" (tN "set_sizes" tO tO) (tN "unsigned_shape" tO tO)) (tN "__init__" (tN "items_under" tO tO) tO)) (tN "scale" (tN "figures" (tN "pattern_of" tO tO) tO) (tN "unstrung" (tN "plain_octets" tO tO) tO))))) (tN "len" (tN "row" (tN "form" (tN "sign" (tN "times" (tN "_law_laid" tO tO) (tN "check_clauses" tO tO)) (tN "part_of" (tN "text_shape" tO tO) tO)) (tN "level" (tN "offset" (tN "add_behind" tO tO) tO) (tN "is_loose" (tN "LAID_NOWHERE" tO tO) tO))) (tN "line" (tN "alike" (tN "behind" (tN "number_of" tO tO) (tN "exchanged_refs" tO tO)) (tN "told_up" (tN "is_inserted" tO tO) tO)) (tN "power" (tN "_law_at" (tN "number_for" tO tO) tO) (tN "take_end" (tN "number_shape" tO tO) tO)))) (tN "base" (tN "join" (tN "zero" (tN "worth" (tN "enumerate" tO tO) (tN "signed_figure" tO tO)) (tN "root_of" (tN "_law_behind" tO tO) tO)) (tN "nines" (tN "strung" (tN "is_numeric" tO tO) tO) (tN "position" (tN "cut_by_sizes" tO tO) tO))) (tN "plus" (tN "fault" (tN "floats" (tN "take_sign" tO tO) (tN "MOST_SIZE_layout" tO tO)) (tN "category" (tN "lone_octets" tO tO) tO)) (tN "sorts" (tN "is_late" (tN "qualifiers" tO tO) tO) (tN "whole_of" (tN "signed_again" tO tO) tO)))))) (tN "cut" (tN "int" (tN "pop" (tN "find" (tN "seen" (tN "texts" (tN "_law_draw" tO tO) (tN "__classdict__" tO tO)) (tN "numbers" (tN "take_money" tO tO) tO)) (tN "hands" (tN "occurs" (tN "_law_piece" tO tO) tO) (tN "is_group" (tN "write_plain" tO tO) tO))) (tN "lead" (tN "above" (tN "append" (tN "memory_of" tO tO) (tN "ALONE_pictures" tO tO)) (tN "tallies" (tN "group_shape" tO tO) tO)) (tN "plant" (tN "Picture" (tN "mark_spots" tO tO) tO) (tN "signs_of" (tN "items_around" tO tO) tO)))) (tN "PLUS" (tN "high" (tN "turn" (tN "whole" (tN "depending" tO tO) (tN "number_octets" tO tO)) (tN "records" (tN "NOUGHT_CODE" tO tO) tO)) (tN "moved" (tN "sorted" (tN "group_size" tO tO) tO) (tN "only_one" (tN "binary_width" tO tO) tO))) (tN "part" (tN "depth" (tN "figure" (tN "subscript" tO tO) (tN "place_of_octets" tO tO)) (tN "_law_two" (tN "lay_working" tO tO) tO)) (tN "shelf" (tN "handles" (tN "plain_kids" tO tO) tO) (tN "usage_of" (tN "ref_in_place" tO tO) tO))))) (tN "max" (tN "top" (tN "half" (tN "some" (tN "tuple" (tN "_law_pick" tO tO) (tN "filled_number" tO tO)) (tN "pointed" (tN "whole_size" tO tO) tO)) (tN "marks" (tN "pieces" (tN "conditions" tO tO) tO) (tN "is_whole" (tN "PLUS_FIGURES" tO tO) tO))) (tN "many" (tN "bring" (tN "counts" (tN "redefines" tO tO) (tN "joined_figures" tO tO)) (tN "RENAMING" (tN "is_separate" tO tO) tO)) (tN "right" (tN "applied" (tN "open_paths" tO tO) tO) (tN "units_at" (tN "packed_width" tO tO) tO)))) (tN "code" (tN "keys" (tN "Order" (tN "FILLER" (tN "following" tO tO) (tN "take_inserted" tO tO)) (tN "sign_of" (tN "_law_memory" tO tO) tO)) (tN "pairs" (tN "valued" (tN "isinstance" tO tO) tO) (tN "received" (tN "delimiter_at" tO tO) tO))) (tN "rest" (tN "files" (tN "is_ref" (tN "told_rows" tO tO) (tN "number_of_edited" tO tO)) (tN "first_at" (tN "set_indexes" tO tO) tO)) (tN "spots" (tN "lay_out" (tN "sign_place" tO tO) tO) (tN "DataFault" (tN "text_picture" tO tO) tO))))))))
noncomputable def tl:Nat:=418
noncomputable def y6:Sp:=⟨257,386,268,23,[4,292,145,146,2,28,148,86,220,294,89,31,266,151,153,92,93,94,34,156,8,186,42,99,187,391,299,340,369,188,189,229,342,272,230,44,45,46,47,49,50,100,192,101,13,160,105,56,108,162,164,310,235,165,197,375,114,115,18,315,201,278,203,63,65,120,66,121,122,68,318,69,124,125,71,209,72,244,398,322,283,323,381,284,285,73,286,133,136,137,213,76,141]⟩
noncomputable def Ii:Value:=.str "ledgerspeak.decimals" 316
noncomputable def rX:Value:=.str "ledgerspeak.pictures" 447
noncomputable def Az:Value:=.str "ledgerspeak.shapes" 1043
noncomputable def Eo:Value:=.str "ledgerspeak.usages" 1260
noncomputable def zj:Value:=.str "ledgerspeak.moving" 1400
noncomputable def T6:Value:=.str "ledgerspeak.tree" 1518
noncomputable def tx:Value:=.str "ledgerspeak.items" 1533
noncomputable def NO:Value:=.str "ledgerspeak.references" 1796
noncomputable def xM:Value:=.str "ledgerspeak.layout" 1843
noncomputable def RB:Value:=.str "ledgerspeak.reckoning" 2049
noncomputable def mq:Value:=.str "ledgerspeak.world" 2089
noncomputable def fg:Value:=.str "ledgerspeak.stringing" 2238
noncomputable def RC:Value:=.str "ledgerspeak.program" 2561
def AD:List FE:=[⟨2,13,none,125,124,(some 118),Ii,false,[[135,120]]⟩,
 ⟨4,15,none,139,138,none,Ii,false,[[0,1,120,14]]⟩,
 ⟨5,16,none,146,145,none,Ii,false,[[0,1,95,169,120,383,183]]⟩,
 ⟨6,17,none,153,152,none,Ii,false,[[0,1,95,169,120,383,183]]⟩,
 ⟨11,22,none,189,188,none,Ii,false,[[0,120,301,69,38,365,3]]⟩,
 ⟨12,23,none,196,195,none,Ii,false,[[0]]⟩,
 ⟨13,24,none,203,202,none,Ii,false,[[0,246]]⟩,
 ⟨14,25,none,210,209,none,Ii,false,[[135,151,3]]⟩,
 ⟨15,38,none,278,277,none,rX,false,[[73,2,79,359]]⟩,
 ⟨16,39,none,283,282,none,rX,false,[[73,2,7,184,14,12,10,359],[68,176]]⟩,
 ⟨17,40,none,290,289,none,rX,false,[[73,96,2,68,89,7,12,205,221,402,359,27]]⟩,
 ⟨18,41,none,297,296,none,rX,false,[[123,96,16]]⟩,
 ⟨19,42,none,302,301,none,rX,false,[[209,21],[68,89,356,12]]⟩,
 ⟨20,44,none,433,432,none,rX,false,[[73,123,109,209,16,113,220,272,78,321,411,416,359,12,178],[68,89,331]]⟩,
 ⟨21,45,none,438,437,none,rX,false,[[209,123],[68,89]]⟩,
 ⟨22,46,none,445,444,none,rX,false,[[73,123,16,209,289,321,411,416,359,12,178,399]]⟩,
 ⟨23,47,none,450,449,none,rX,false,[[73,97,123,12,255,359,242,382,407],[68,5,17],[16]]⟩,
 ⟨43,81,none,660,659,none,Az,false,[[121]]⟩,
 ⟨44,82,none,667,666,none,Az,false,[[121]]⟩,
 ⟨45,83,none,674,673,none,Az,false,[[121]]⟩,
 ⟨48,86,none,695,694,none,Az,false,[[197,136,342,374,362]]⟩,
 ⟨49,87,none,702,701,none,Az,false,[[197,136,144,254]]⟩,
 ⟨50,88,none,709,708,none,Az,false,[[197,136,68,342,254]]⟩,
 ⟨51,89,none,714,713,none,Az,false,[[197,369,391,254]]⟩,
 ⟨52,90,none,722,721,(some 715),Az,false,[[197,136,68,342,369,391,69,335,293,388,243,80]]⟩,
 ⟨53,91,none,729,728,none,Az,false,[[69,80]]⟩,
 ⟨54,92,none,736,735,none,Az,false,[[163,80,12]]⟩,
 ⟨60,107,none,778,777,none,Eo,false,[[121,135,51,3,325]]⟩,
 ⟨61,108,none,785,784,none,Eo,false,[[161,89,96,62,74,117]]⟩,
 ⟨62,109,none,790,789,none,Eo,false,[[121,135,88,68,112,20,337,3,87,357,26,12,384,358,385],[154,385]]⟩,
 ⟨65,112,none,809,808,none,Eo,false,[[121,135,51,303,403,395,387]]⟩,
 ⟨66,113,none,816,815,none,Eo,false,[[184,96,2,154,268,215]]⟩,
 ⟨67,114,none,823,822,none,Eo,false,[[30,358,384,385]]⟩,
 ⟨68,115,none,828,827,none,Eo,false,[[121,163,184,341,112,96,26,357,215,396,406],[30,385]]⟩,
 ⟨71,118,none,849,848,none,Eo,false,[[121,163,96,12,215,389,373,361,3,325]]⟩,
 ⟨72,119,none,856,855,none,Eo,false,[[121,163,183,247]]⟩,
 ⟨73,120,none,863,862,none,Eo,false,[[121,161,309,246]]⟩,
 ⟨74,125,none,871,870,none,zj,false,[[220,130,65,177]]⟩,
 ⟨75,126,none,878,877,none,zj,false,[[171,37,223]]⟩,
 ⟨76,127,none,886,885,(some 879),zj,false,[[163,69,369,355,12,14]]⟩,
 ⟨77,128,none,893,892,none,zj,false,[[163,69,215,12]]⟩,
 ⟨78,129,none,900,899,none,zj,false,[[163,161,2,30,268,330,215]]⟩,
 ⟨79,130,none,907,906,none,zj,false,[[121,163,275,414,183,415]]⟩,
 ⟨80,131,none,914,913,none,zj,false,[[121,163,215,309,408,3,247]]⟩,
 ⟨81,132,none,921,920,none,zj,false,[[121,163,225,181]]⟩,
 ⟨82,133,none,928,927,none,zj,false,[[121,161,152,295]]⟩,
 ⟨83,134,none,935,934,none,zj,false,[[171,163,37,219,215,181,177,308,401,245,211]]⟩,
 ⟨84,135,none,942,941,none,zj,false,[[195]]⟩,
 ⟨85,136,none,949,948,none,zj,false,[[195,121,308,183,215,415,240]]⟩,
 ⟨86,137,none,956,955,none,zj,false,[[195,121,73,177,390,215,240,312,225]]⟩,
 ⟨87,139,none,963,962,none,T6,false,[[131,302,134,12]]⟩,
 ⟨88,140,none,968,967,none,T6,false,[[131,149,96,302,134,158],[16,404,149]]⟩,
 ⟨89,148,none,1079,1078,none,tx,false,[[31,96,56]]⟩,
 ⟨90,149,none,1086,1085,none,tx,false,[[43,96,52,16]]⟩,
 ⟨91,150,none,1093,1092,none,tx,false,[[31,96,64,202,344]]⟩,
 ⟨92,151,none,1100,1099,none,tx,false,[[43,96,82]]⟩,
 ⟨93,152,none,1107,1106,none,tx,false,[[43,147,370]]⟩,
 ⟨94,153,none,1112,1111,none,tx,false,[[43,370],[16,142]]⟩,
 ⟨95,154,none,1117,1116,none,tx,false,[[43,52,370],[16]]⟩,
 ⟨96,155,none,1122,1121,none,tx,false,[[43],[11,214]]⟩,
 ⟨97,156,none,1127,1126,none,tx,false,[[43],[11,214]]⟩,
 ⟨98,157,none,1134,1133,none,tx,false,[[43,61,16,370]]⟩,
 ⟨99,158,none,1141,1140,none,tx,true,[[43,96,212],[16]]⟩,
 ⟨100,159,none,1148,1147,none,tx,false,[[43,16,370]]⟩,
 ⟨101,161,none,1153,1152,none,NO,false,[[31,43,22,56,204]]⟩,
 ⟨102,162,none,1160,1159,none,NO,false,[[147,316,2,56,12]]⟩,
 ⟨103,163,none,1167,1166,none,NO,false,[[96,56,12,287]]⟩,
 ⟨104,164,none,1172,1171,none,NO,false,[[31,56,316,84,263,234],[43,56],[43,393,371,185,31,316]]⟩,
 ⟨105,165,none,1179,1178,none,NO,false,[[43,320,58,173,164,128,282,85,159,397,12,215,23]]⟩,
 ⟨107,171,none,1193,1192,none,xM,false,[[43,136,197,392,68,342,250,296,339,377,206,241]]⟩,
 ⟨108,172,none,1200,1199,none,xM,false,[[43]]⟩,
 ⟨110,174,none,1214,1213,none,xM,false,[[43,90,288,296,327,226,305,298,338]]⟩,
 ⟨111,175,none,1221,1220,none,xM,false,[[43,90,69,83,11,314,280,326,277,296,412]]⟩,
 ⟨112,176,none,1228,1227,none,xM,false,[[43,164,28,41,83,11,314,351,326,277]]⟩,
 ⟨115,179,none,1247,1246,none,xM,false,[[64,164,28,43,280,351,214,379]]⟩,
 ⟨117,181,none,1261,1260,none,xM,false,[[119,164,7,83,64,317,232,14]]⟩,
 ⟨118,182,none,1268,1267,none,xM,false,[[119,83,64,317,232]]⟩,
 ⟨120,184,none,1280,1279,none,xM,false,[[31,43,107,56,263,296],[43]]⟩,
 ⟨123,187,none,1295,1294,none,xM,false,[[31,43,103,107,368,56,343,296,344],[16]]⟩,
 ⟨124,188,none,1302,1301,none,xM,false,[[31,41,56,43,231,346,329,254,345,350,263,363]]⟩,
 ⟨126,190,none,1316,1315,none,xM,false,[[43,300,309]]⟩,
 ⟨127,191,none,1321,1320,none,xM,false,[[43,47,174,226,249,314],[11],[11,367]]⟩,
 ⟨128,192,none,1328,1327,none,xM,false,[[31,96,56,64,264,367,87]]⟩,
 ⟨129,195,none,1336,1335,none,RB,false,[[33,96,52,48,41,256]]⟩,
 ⟨130,196,none,1343,1342,none,RB,false,[[68,51,118,60,104,132,237,116]]⟩,
 ⟨131,197,none,1350,1349,none,RB,false,[[33,161,59,48,58,118,200,193,182]]⟩,
 ⟨132,200,none,1378,1377,none,mq,false,[[139,195]]⟩,
 ⟨133,201,none,1385,1384,none,mq,false,[[139,43,12,215]]⟩,
 ⟨134,202,none,1392,1391,none,mq,false,[[139,43,164,69,160,85,7,274,215]]⟩,
 ⟨135,203,none,1399,1398,none,mq,false,[[139,58,159,251]]⟩,
 ⟨136,204,none,1404,1403,none,mq,false,[[139,19,43,58,164,69,160,112,269,196,208,410,80],[33,251,139]]⟩,
 ⟨137,205,none,1411,1410,none,mq,false,[[139,195,160,164,121,207,87,372,309,246,324,215]]⟩,
 ⟨138,206,none,1418,1417,none,mq,false,[[139,195,121,163,227,183,311,271,215,275]]⟩,
 ⟨139,207,none,1425,1424,none,mq,true,[[139,33,239],[195,139,276]]⟩,
 ⟨140,208,none,1432,1431,none,mq,false,[[139,33,140,253,230,215,252]]⟩,
 ⟨141,209,none,1439,1438,none,mq,false,[[121,135,152,183,309]]⟩,
 ⟨142,210,none,1446,1445,none,mq,false,[[139,19,161,301,160,164,121,135,227,230,215,252,207,246,35,394]]⟩,
 ⟨143,212,none,1453,1452,none,fg,false,[[163,175,2,12]]⟩,
 ⟨145,214,none,1467,1466,none,fg,false,[[163,265,2,222]]⟩,
 ⟨146,215,none,1474,1473,none,fg,false,[[65,37,85,270,163,265,111,63,39,12,279]]⟩,
 ⟨147,216,none,1481,1480,none,fg,false,[[163,297,2,55,157,12,215,191]]⟩,
 ⟨148,217,none,1488,1487,none,fg,false,[[163,55,157,2,148,12,191]]⟩,
 ⟨149,218,none,1495,1494,none,fg,false,[[163,297,85,2,9,117,12,366,413]]⟩,
 ⟨150,219,none,1502,1501,none,fg,false,[[163,297,85,54,166,2,111,55,12,307]]⟩,
 ⟨152,222,none,1537,1536,none,fg,false,[[195,98]]⟩,
 ⟨153,223,none,1544,1543,none,fg,false,[[199,98]]⟩,
 ⟨154,224,none,1551,1550,none,fg,false,[[199,236,98]]⟩,
 ⟨155,225,none,1558,1557,none,fg,false,[[281,98,110,195,265,55,37,85,163,270,57,348,198,12,172,233]]⟩,
 ⟨156,226,none,1565,1564,none,fg,false,[[166,65,126,306,98,2,111,55,117,12]]⟩,
 ⟨157,227,none,1570,1569,none,fg,false,[[281,98,163,102,85,126,306,166,270,57,348,198,12,364,248,304,233],[195,157,348,98],[37,55,89,98],[37,55,89,98]]⟩,
 ⟨158,228,none,1575,1574,none,fg,false,[[121,163,154,112,341,215,87,337,3,247,396,385]]⟩,
 ⟨159,229,none,1582,1581,none,fg,false,[[121,83,184,112,154,341,229,123,396,385,384,358,87]]⟩,
 ⟨160,230,none,1589,1588,none,fg,false,[[139,195,69,121,163,155,80,311,376]]⟩,
 ⟨161,231,none,1596,1595,none,fg,false,[[139,19,163,160,164,121,207,215,380,87]]⟩,
 ⟨162,232,none,1603,1602,none,fg,false,[[163,121,12,106,324,155]]⟩,
 ⟨163,233,none,1610,1609,none,fg,false,[[71,163,160,164,121,238]]⟩,
 ⟨165,235,none,1624,1623,none,fg,true,[[139,77,273],[195,69,139,349],[19,163,139,354],[19,139,252,276],[19,161,139,127,183],[19,139,207],[71,313]]⟩,
 ⟨166,236,none,1631,1630,none,fg,false,[[139,33,183,251]]⟩,
 ⟨167,237,none,1636,1635,none,fg,false,[[139,19,75,56,316,320,58,194,32,134],[33,409,139]]⟩,
 ⟨168,238,none,1643,1642,none,fg,true,[[139,281,404],[19,139,378]]⟩,
 ⟨169,239,none,1650,1649,none,fg,false,[[139,281,352,353,224]]⟩,
 ⟨170,240,none,1657,1656,none,fg,false,[[139,281,400,353,224]]⟩,
 ⟨171,244,none,1693,1692,none,(.str "law_pq0659_01" 2607),false,[[168,138,29,3,10]]⟩,
 ⟨172,245,none,1700,1699,none,(.str "law_pq0659_01" 2607),false,[[40,54,91]]⟩,
 ⟨173,246,none,1707,1706,none,(.str "law_pq0659_01" 2607),false,[[40,70,258,12]]⟩,
 ⟨174,247,none,1714,1713,none,(.str "law_pq0659_01" 2607),false,[[56]]⟩,
 ⟨175,248,none,1721,1720,none,(.str "law_pq0659_01" 2607),false,[[56,36,16,261]]⟩,
 ⟨176,249,none,1728,1727,none,(.str "law_pq0659_01" 2607),false,[[31,167,56,197,43,24,25,143,190,81,179]]⟩,
 ⟨177,250,none,1735,1734,none,(.str "law_pq0659_01" 2607),false,[[161,87]]⟩,
 ⟨178,251,none,1740,1739,none,(.str "law_pq0659_01" 2607),false,[[40,85,150,210,87,117,258],[74,262,40],[74,258,40],[74,218,258,40],[74,218,258,40]]⟩,
 ⟨179,252,none,1747,1746,none,(.str "law_pq0659_01" 2607),false,[[160,164,163,12]]⟩,
 ⟨180,253,none,1754,1753,none,(.str "law_pq0659_01" 2607),false,[[160,2,236,260]]⟩,
 ⟨181,254,none,1761,1760,none,(.str "law_pq0659_01" 2607),false,[[73,112,96,12,15]]⟩,
 ⟨182,255,none,1768,1767,none,(.str "law_pq0659_01" 2607),false,[[160,2,73,85,95,112,166,96,169,129,290,260,87,12,360,218]]⟩,
 ⟨183,256,none,1775,1774,none,(.str "law_pq0659_01" 2607),false,[[160,184,2,360,260,12]]⟩,
 ⟨184,257,none,1782,1781,none,(.str "law_pq0659_01" 2607),false,[[139,160,281,75,267,336,328,87]]⟩,
 ⟨185,258,none,1789,1788,none,(.str "law_pq0659_01" 2607),false,[[168,40,36,184,160,139,65,199,6,319,113,16,259,258,262,334,291,261,180,332,217,260,333]]⟩,
 ⟨188,36,(some 0),224,223,none,rX,false,[[67,73,209,220,151,120,272,69]]⟩,
 ⟨191,37,(some 0),257,256,none,rX,false,[[67,68,89,2]]⟩,
 ⟨193,43,(some 0),316,315,none,rX,false,[[67]]⟩,
 ⟨194,43,(some 1),323,322,none,rX,false,[[67]]⟩,
 ⟨195,43,(some 2),330,329,none,rX,false,[[67,89,228]]⟩,
 ⟨196,43,(some 3),337,336,none,rX,false,[[67,16]]⟩,
 ⟨206,43,(some 13),407,406,none,rX,false,[[67,16,68]]⟩,
 ⟨207,43,(some 14),414,413,none,rX,false,[[67,417]]⟩,
 ⟨208,43,(some 15),421,420,none,rX,false,[[67]]⟩,
 ⟨213,80,(some 0),632,631,(some 625),Az,false,[[67,220,69,197,136,68,342,369,391]]⟩,
 ⟨215,80,(some 2),646,645,none,Az,false,[[67]]⟩,
 ⟨216,145,(some 0),985,984,(some 978),tx,false,[[67,13,42,266,46,187,134]]⟩,
 ⟨218,146,(some 0),1013,1012,none,tx,false,[[67,100,56]]⟩,
 ⟨219,146,(some 1),1020,1019,none,tx,false,[[67,11]]⟩,
 ⟨220,146,(some 2),1027,1026,none,tx,false,[[67]]⟩,
 ⟨223,147,(some 0),1060,1059,none,tx,false,[[67]]⟩,
 ⟨225,199,(some 0),1364,1363,none,mq,false,[[67,201,122,65,56,53,264,405,170]]⟩,
 ⟨226,221,(some 0),1523,1522,none,fg,false,[[67,93,114,145,45,71,86,63]]⟩,
 ⟨227,242,(some 0),1672,1671,(some 1665),RC,false,[[67,56,31,94,315,299]]⟩]
noncomputable def lG:List (Nat×List (List Nat)):=[(0,[[16]]),(1,[[195,139,276]]),(2,[[195,69,139,349]]),(3,[[19,163,139,354]]),(4,[[19,139,252,276]]),(5,[[19,161,139,127,183]]),(6,[[19,139,207]]),(7,[[71,313]]),(8,[[19,139,378]])]
structure TS where
 n:Nat
 t:Nat
 tr:BT
 rest:List DictEntry
 me:Nat
 nm:Value
 ct:List Value
 QU:List DictEntry
 se:Nat
noncomputable def F3:BT→Nat→Obj→BT
 |.nil,_,o=>.node o .nil .nil
 |.node v l r,i,o=>match Nat.beq i 0 with
  |true=>.node o l r
  |false=>match Nat.beq (i %2) 1 with
   |true=>.node v (F3 l (i/2) o) r
   |false=>.node v l (F3 r (i/2 - 1) o)
noncomputable def sF:BT→Nat→(Obj→Obj)→BT
 |.nil,_,_=>.nil
 |.node v l r,i,f=>match Nat.beq i 0 with
  |true=>.node (f v) l r
  |false=>match Nat.beq (i %2) 1 with
   |true=>.node v (sF l (i/2) f) r
   |false=>.node v l (sF r (i/2 - 1) f)
namespace TS
noncomputable def txt(s:TS)(x:Str):Value×TS:=(.str x s.t,{s with t:=s.t+1})
def al(s:TS)(o:Obj):Nat×TS:=(s.n,{s with tr:=F3 s.tr s.n o,n:=s.n+1})
noncomputable def Bk:List Str→TS→List Value×TS
 |[],s=>([],s)
 |x::r,s=>match s.txt x with
  |(v,s)=>match Bk r s with
   |(vs,s)=>(v::vs,s)
end TS
noncomputable def oX(l:List Value):Obj:={cls:=.type "tuple",data:=.seq l.toArray 0}
noncomputable def mw(c:Value)(l:List Value):Obj:={cls:=c,data:=.fields l.toArray}
noncomputable def ri(n:Nat):Value:=.int n 0
def IW(s:TS)(name qual:Str)(first argc flags:Nat)(free:List Str)(Wa:Bool)(loc:Option (List Str×List Str))(tm:Option FuncData):Nat×TS:=
 match s.txt name with
 |(v0,s)=>match s.txt qual with
 |(v1,s)=>match s.txt "/claim/cut.py" with
 |(v2,s)=>match TS.Bk free s with
 |(fv,s)=>match s.al (oX fv)with
 |(ft,s)=>match s.al (mw .none [])with
 |(tb,s)=>match(match loc with|some l=>(match TS.Bk l.1 s with|(a,s)=>match s.al (oX a)with|(x,s)=>match TS.Bk l.2 s with|(b,s)=>match s.al (oX b)with|(y,s)=>((Value.ref x,Value.ref y),s))|none=>((Value.none,Value.none),s))with
 |((l1,l2),s)=>match(match tm with|some fd=>(match s.al {cls:=.none,data:=.func fd}with|(x,s)=>(Value.ref x,s))|none=>(Value.none,s))with
 |(tv,s)=>match(s.t,{s with t:=s.t+1})with
 |(idv,s)=>match s.txt "/claim/cut.py" with
 |(v3,s)=>s.al (mw (.type "code") [v0,v1,v2,ri first,ri argc,ri 0,ri 0,ri flags,.ref ft,.bool Wa,ri 181,.ref tb,.none,l1,l2,tv,ri idv,ri first,v3])
noncomputable def Cv(x:Str):List DictEntry→Option Value
 |[]=>none
 |e::r=>match e.key.isStr x with|true=>some e.val|false=>Cv x r
noncomputable def WV(s:TS):Const→Value×TS
 |.int i=>(.int i s.t,{s with t:=s.t+1})
 |.str x=>s.txt x
 |.bytes b=>(.bytes b.toArray s.t,{s with t:=s.t+1})
 |.bool b=>(.bool b,s)
 |_=>(.none,s)
noncomputable def Lk(f:TS→Expr→Value×TS):List Expr→TS→List Value×TS
 |[],s=>([],s)
 |e::r,s=>match f s e with|(v,s)=>match Lk f r s with|(vs,s)=>(v::vs,s)
noncomputable def SF:Nat→TS→Expr→Value×TS
 |0,s,_=>(.none,s)
 |n+1,s,e=>match cN e 19 with
  |true=>WV s (vX e).c
  |false=>match cN e 23 with
   |true=>((Cv (vX e).s s.rest).getD .none,s)
   |false=>match cN e 25 with
    |true=>match Lk (SF n) (vX e).xs s with|(vs,s)=>match s.al (oX vs)with|(a,s)=>(.ref a,s)
    |false=>(.none,s)
def Up(s:TS)(pre:Str)(st:Stmt):Str×Nat×Nat×Pos×TS:=match vS st with
 |⟨_,_,_,_,body,_,_,_,pos,name,args,scope,_⟩=>match Lk (SF 5) args.defaults s with
  |(dv,s)=>match(match dv with|[]=>(Value.none,s)|_=>match s.al (oX dv)with|(a,s)=>(Value.ref a,s))with
  |(dV,s)=>match IW s name (pre++name) pos.line (args.posonlyargs.length+args.args.length) (functionFlags false false scope ⟨"",0,false,0⟩) scope.freeNames true (localNames args scope (.stmts body))
    (some {name,qualname:=pre++name,params:=args,body:=.stmts body,scope,globals:=builtinsNs,closure:=[],defaults:=.none,kwdefaults:=.none})with
  |(c,s)=>match s.al {cls:=.type "function",data:=.func {name,qualname:=pre++name,params:=args,body:=.stmts body,scope,globals:=mainNs,closure:=[],closureTuple:=.none,code:=.ref c,builtins:=builtinsNs,defaults:=dV,kwdefaults:=.none,annotations:=none,pyModule:=s.nm,doc:=.none}}with
  |(f,s)=>(name,f,c,pos,s)
noncomputable def J3(P:Params)(s:TS)(x:Str)(v:Value):TS:={s with rest:=⟨PyData.keyHash P x,.str x s.t,v⟩::s.rest,t:=s.t+1,me:=s.me+1}
def JH(pos:Pos)(c:Nat):List Value:=[ri pos.line,ri pos.col,.ref c]
noncomputable def DV(P:Params)(pre:Str):List Stmt→TS→List DictEntry→List Value→List DictEntry×List Value×TS
 |[],s,es,ct=>(es,ct,s)
 |st::r,s,es,ct=>match fR st 25 with
  |true=>DV P pre r s es ct
  |false=>match Up s pre st with
  |(x,f,c,pos,s)=>DV P pre r {s with t:=s.t+1} (es++[⟨PyData.keyHash P x,.str x s.t,.ref f⟩]) (ct++JH pos c)
noncomputable def ui(es:List DictEntry)(n:Nat):Obj:={cls:=.type "dict",data:=.dict es.toArray n}
noncomputable def key(P:Params)(x:Str)(t:Nat)(v:Value):DictEntry:=⟨PyData.keyHash P x,.str x t,v⟩
noncomputable def PV:Value→Option String
 |.type x=>some x
 |_=>none
noncomputable def D6:Value→Option Nat
 |.ref b=>some b
 |_=>none
noncomputable def Po:Data→Option ClassData
 |.cls cd=>some cd
 |_=>none
noncomputable def K8:Data→List Value
 |.fields vs=>vs.toList
 |_=>[]
noncomputable def Ib:Option α→Bool
 |none=>true
 |some _=>false
def S5(P:Params)(s:TS)(name:Str)(bases:List Expr)(body:List Stmt)(scope:Scope)(statics:List Str)(pos:Pos):TS:=
 let base:Option Value:=match bases with|b::_=>some ((Cv (vX b).s s.rest).getD (.type "Exception"))|[]=>none
 match s.al (oX base.toList)with
 |(bt,s)=>match s.txt name with
 |(nv,s)=>match{s with t:=s.t+1}.al (mw (.type "builtin_function_or_method") [.builtin "type.__prepare__",.type "type"])with
 |(_,s)=>match s.al (ui [] 0)with
 |(ns,s)=>match IW s name name pos.line 0 0 [] false none none with
 |(code,s)=>match s.al {cls:=.type "frame",data:=.plain,slots:=#[some (.ref code),some (.ref mainNs),some (.ref ns),none,some s.nm,none,some (.ref builtinsNs)]}with
 |(_,s)=>match(s.t,{s with t:=s.t+5})with
 |(k,s)=>match([key P "__module__" k s.nm,key P "__qualname__" (k+2) (.str name (k+1)),key P "__firstlineno__" (k+4) (.int pos.line (k+3))]:List DictEntry)with
 |es=>match DV P (name++".") body s es []with
 |(es,ct,s)=>match TS.Bk statics s with
 |(sv,s)=>match s.al (oX sv)with
 |(sa,s)=>match(es++[key P "__static_attributes__" s.t (.ref sa)],{s with t:=s.t+1})with
 |(es,s)=>
  let cdict:=s.n
  let cls:=s.n+1
  let own:List DictEntry:=es.filter fun e=>!e.key.isStr "__qualname__"
  let plain:=Ib base
  let exc:=!Ib (base.bind PV)
  let(own,adds,more,Vk):List DictEntry×Nat×List Obj×Nat:=match plain,exc with
   |true,_=>(own++[key P "__dict__" (s.t+1) (.ref (cls+1)),key P "__weakref__" (s.t+3) (.ref (cls+2)),key P "__doc__" (s.t+4) .none],3,
     [mw (.type "getset_descriptor") [.str "__dict__" s.t,.ref cls,.builtin "function.__dict__",.builtin "function.__dict__#set"],mw (.type "getset_descriptor") [.str "__weakref__" (s.t+2),.ref cls,.builtin "ExceptionGroup.__weakref__",.none]],s.t+5)
   |_,true=>(own++[key P "__weakref__" (s.t+1) (.ref (cls+1)),key P "__doc__" (s.t+2) .none],2,
     [mw (.type "getset_descriptor") [.str "__weakref__" s.t,.ref cls,.builtin "ExceptionGroup.__weakref__",.none]],s.t+3)
   |_,_=>(own++[key P "__doc__" s.t .none],1,[],s.t+1)
  let mro:List Value:=match base with
   |none=>[.type "object"]
   |some v=>match PV v with
    |some x=>[.type x,.type "BaseException",.type "object"]
    |none=>match(D6 v).bind fun b=>(s.tr.get b).bind fun o=>Po o.data with
     |some cd=>cd.mro
     |none=>[]
  let cd:ClassData:={name,bases:=(match base with|none=>[Value.type "object"]|some b=>[b]),mro:=Value.ref cls::mro,ns:=cdict,qualname:=name,hasDict:=true,slotNames:=[],subclasses:=[],abstract:=false,collection:=none,hasDel:=false}
  let co:Obj:={cls:=.type "type",data:=.cls cd,slots:=#[(match base with|none=>(none:Option Value)|_=>some (Value.ref bt)),none,some nv,some (.str name (k+1)),some (.builtin (if plain then "object.__new__" else "Exception.__new__")),some (.bool true)]}
  let objs:List Obj:=[ui own (adds+1),co]++more++[mw (.type "super") [Value.ref cls,Value.ref cls,Value.ref cls],mw (.type "builtin_function_or_method") [Value.builtin "object.__init_subclass__",Value.ref cls]]
  let s:TS:=objs.foldl (fun s o=>(TS.al s o).2) {s with t:=Vk}
  let s:=match exc with
   |true=>{s with QU:=[key P "type.__subclasses__.Exception.0" s.t (ri cls),key P "type.__subclasses__.Exception.n" (s.t+1) (ri 1)],se:=2,t:=s.t+2}
   |false=>s
  let s:=match base.bind D6 with
   |some b=>{s with tr:=sF s.tr b fun o=>match Po o.data with|some cd=>{o with data:=.cls {cd with subclasses:=cd.subclasses++[Value.ref cls]}}|none=>o}
   |none=>s
  let s:={s with tr:=(sF s.tr ns fun Y=>ui es es.length),t:=s.t+1}
  let s:=match((s.tr.get code).bind fun o=>(K8 o.data)[11]?).bind D6 with
   |some tb=>{s with tr:=sF s.tr tb fun Y=>mw Value.none ct}
   |none=>s
  let s:=J3 P s name (.ref cls)
  {s with ct:=(JH pos code).reverse++s.ct}
def iP(P:Params)(s:TS)(st:Stmt):List Expr→TS
 |[]=>s
 |x::_=>match SF 5 s (vS st).a with
  |(v,s)=>match(vX x).s==("__name__":Str)with
   |true=>{s with nm:=v,t:=s.t+1}
   |false=>J3 P s (vX x).s v
def HW(P:Params)(s:TS)(st:Stmt):TS:=match fR st 0 with
 |true=>match Up s Str.empty st with
  |(x,fa,ca,pos,s)=>match J3 P s x (.ref fa)with
   |s=>{s with ct:=(JH pos ca).reverse++s.ct}
 |false=>match fR st 2 with
  |true=>match vS st with
   |⟨_,_,bases,_,body,_,_,_,pos,name,_,scope,statics⟩=>S5 P s name bases body scope statics pos
  |false=>match fR st 5 with
   |true=>iP P s st (vS st).ts
   |false=>s
noncomputable def jZ(P:Params):List Stmt→TS→TS
 |[],s=>s
 |st::r,s=>jZ P r (HW P s st)
section
noncomputable def prog:Program:=(PySem.Challenge.rw_pq0659_01.row).prog
def body:List Stmt:=behindTheImports prog
noncomputable def Ll:PySem.Env:={scope:=prog.main.scope,locals:=mainNs,globals:=mainNs,cells:=[],code:=.ref 13,frame:=some 14}
def codeB:Code:=.body body Ll
noncomputable def fz:Pos:=⟨0,0,0,0⟩
def posOf(st:Stmt):Pos:=match fR st 5 with
 |true=>match(vS st).ts with
  |x::_=>(vX x).p
  |[]=>fz
 |false=>(vS st).p
def posAt:Nat→Pos
 |0=>fz
 |k+1=>match body[k]? with|some st=>posOf st|none=>fz
def JO(P:Params):List Obj:=(boot_heap P).objs.toList++[oX [],mw .none [],mw (.type "code") [.str "<module>" 182,.str "<module>" 183,.str "/claim/cut.py" 184,ri 1,ri 0,ri 0,ri 0,ri 0,.ref 11,.bool false,ri 181,.ref 12,.none,.none,.none,.none,ri 185,ri 1,.str "/claim/cut.py" 186],
 {cls:=.type "frame",data:=.plain,slots:=#[some (.ref 13),some (.ref 3),some (.ref 3),none,some (.str "__main__" 164),none,some (.ref 0)]}]
noncomputable def treeOf:List Obj→Nat→BT→BT
 |[],_,t=>t
 |o::r,n,t=>treeOf r (n+1) (F3 t n o)
noncomputable def NQ(P:Params):List DictEntry:=match(((boot_heap P).objs.toList.drop 3):List Obj)with|(⟨_,_,Data.dict es _,_⟩:Obj)::_=>es.toList|_=>[]
def Qf(P:Params):TS:={n:=15,t:=187,tr:=treeOf (JO P) 0 .nil,rest:=[],me:=9,nm:=.str "__main__" 164,ct:=[],QU:=[],se:=0}
def gW(P:Params)(k:Nat):TS:=jZ P (body.take k) (Qf P)
noncomputable def HY(v:Value):List DictEntry→List DictEntry
 |[]=>[]
 |e::r=>match e.key.isStr "__name__" with|true=>{e with val:=v}::r|false=>e::HY v r
def zN(P:Params)(s:TS):BT:=sF (sF (sF s.tr 3 fun Y=>ui (HY s.nm (NQ P)++s.rest.reverse) s.me) 12 fun Y=>mw .none s.ct.reverse) 2 fun Y=>{ui s.QU s.se with cls:=.none}
def E0(w:World)(os:OsState)(s:TS):SharedT:=⟨zN w.params s,s.n,(boot_heap w.params).life,#[],boot_drawn,s.t,os⟩
noncomputable def part(a b:Nat):List Stmt:=(body.drop a).take (b - a)
abbrev iA(w:World)(os:OsState)(a b N:Nat):Prop:=segRunT treeTable prog w 11 (some (.ref 6)) 1 N (E0 w os (gW w.params a)) (piecesOf (part a b) Ll codeB (posAt a) [topFrame fz])=some (.next,E0 w os (jZ w.params (part a b) (gW w.params a)),codeB,posAt b)
abbrev eO(a b N:Nat):Prop:=∀(w:World)(os:OsState),iA w os a b N
theorem LN(C:World→OsState→Prop):Nonempty {q:World×OsState//C q.1 q.2→∀w os,C w os}:=by
 by_cases h:∀w os,C w os
 ·exact⟨⟨(⟨fun Y Y=>0,{strHash:=fun Y=>0,shareClass:=fun Y=>0,mergeTok:=fun t=>t,idOf:=fun Y=>0,idOfShared:=fun Y Y=>0,followText:=fun Y=>false,idOfImm:=fun Y=>0}⟩,{}),fun Y=>h⟩⟩
 ·have⟨w,h⟩:=Classical.not_forall.mp h
  have⟨os,h⟩:=Classical.not_forall.mp h
  exact⟨⟨(w,os),fun k=>absurd k h⟩⟩
noncomputable def bad(C:World→OsState→Prop):{q:World×OsState//C q.1 q.2→∀w os,C w os}:=Classical.choice (LN C)
theorem gz(C:World→OsState→Prop)(h:C (bad C).1.1 (bad C).1.2):∀w os,C w os:=(bad C).2 h
theorem VE:eO 0 50 4000:=gz (fun w os=>iA w os 0 50 4000) (by kernel_rfl)
theorem VD:eO 50 100 4000:=gz (fun w os=>iA w os 50 100 4000) (by kernel_rfl)
theorem VC:eO 100 145 4000:=gz (fun w os=>iA w os 100 145 4000) (by kernel_rfl)
theorem VB:eO 145 190 4000:=gz (fun w os=>iA w os 145 190 4000) (by kernel_rfl)
theorem VA:eO 190 225 4000:=gz (fun w os=>iA w os 190 225 4000) (by kernel_rfl)
theorem Vz:eO 225 259 4000:=gz (fun w os=>iA w os 225 259 4000) (by kernel_rfl)
end
section
noncomputable def nameOf:Stmt→List Str
 |.Assign [.Name x _] _ _=>[x]
 |.FunctionDef x _ _ _ _ _ _ _ _ _=>[x]
 |.ClassDef x _ _ _ _ _ _ _ _ _ _=>[x]
 |_=>[]
def qv:Program:=view prog [258]
def loose:List Str:=(body.take 258).flatMap nameOf
noncomputable def mods:List Str:=importedModules prog.main.body
def lR(P:Params):Heap:=absHeap (zN P (gW P 259)) 1790 (boot_heap P).life
end
section
noncomputable def jJ(x:Nat):Str:=(B6.get x).getD ⟨#[x+1000]⟩
noncomputable def Dt(s:Str):Nat:=s.cps.toList.foldl (fun a c=>Nat.add (Nat.add (Nat.mul a 2097152) c) 1) 0
noncomputable def Xa:List Nat→Bool:=fun l=>l.casesOn true fun c r=>r.casesOn (Nat.blt c 1000) fun Y Y=>true
def Td(s:Str)(prev e:Nat)(r:Bool):Bool:=Nat.blt prev e&&(Xa s.cps.toList&&r)
def Ha(n:Nat):Nat→Nat→Bool:=n.rec (fun Y Y=>true) fun Y r x prev=>(B6.get x).any fun s=>Td s prev (Dt s) (r (x+1) (Dt s))
theorem bg{o:Option α}{p:α→Bool}(h:o.any p=true):∃a,o=some a∧p a=true:=(Option.any_eq_true p o).mp h
namespace aE
noncomputable def ents(t:aE α):List (Nat×α):=t.rec [] fun v Y Y a b=>v.toList.map (fun a=>(0,a))++(a.map (fun p=>(2*p.1+1,p.2))++b.map (fun p=>(2*p.1+2,p.2)))
theorem fi{t:aE α}{i:Nat}{a:α}(h:t.get i=some a):(i,a)∈t.ents:=by
 induction t generalizing i with
 |nil=>exact no h
 |node v l r ihl ihr=>
  cases i with
  |zero=>exact List.mem_append_left _ (List.mem_map.mpr ⟨a,by rw [show v=some a from h];exact List.mem_singleton_self a,rfl⟩)
  |succ i=>
   have h:Nat.rec (motive:=fun Y=>Option α) (r.get ((i+1)/2 - 1)) (fun Y Y=>l.get ((i+1)/2)) ((i+1) %2)=some a:=h
   have d:=Nat.div_add_mod (i+1) 2
   refine List.mem_append_right _ ?_
   cases q:(i+1) %2 with
   |zero=>
    rw [q]at h d;refine List.mem_append_right _ (List.mem_map.mpr ⟨_,ihr h,Prod.ext (Eq.trans ?_ d) rfl⟩);show 2*((i+1)/2 - 1)+2=2*((i+1)/2)+0
    generalize (i+1)/2=m at d
    cases m with
    |zero=>exact nomatch d
    |succ k=>rfl
   |succ k=>
    have k0:k=0:=Nat.le_zero.mp (Nat.le_of_lt_succ (Nat.lt_of_succ_lt_succ ((congrArg (·<2) q).mp (Nat.mod_lt (i+1) Nat.two_pos))))
    rw [q]at h d;rw [k0]at d;exact List.mem_append_left _ (List.mem_map.mpr ⟨_,ihl h,Prod.ext d rfl⟩)
end aE
theorem rd{x:Nat}{s:Str}(q:B6.get x=some s):jJ x=s:=by unfold jJ;rw [q];rfl
theorem B7{x:Nat}(q:B6.get x=none):jJ x=⟨#[x+1000]⟩:=by unfold jJ;rw [q];rfl
theorem yx{x:Nat}:∀(n k prev:Nat),Ha n k prev=true→k≤x→x<k+n→∃s,B6.get x=some s∧prev<Dt s∧(∀c,s.cps.toList=[c]→c<1000):=by
 intro n
 induction n with
 |zero=>intro k _ _ h1 h2;exact absurd h2 (Nat.not_lt.mpr h1)
 |succ n ih=>
  intro k prev h h1 h2;refine aC (bg h:) fun s q h=>?_
  refine aw (ae h:) fun a h=>?_
  refine aw (ae h:) fun b h=>?_
  refine(Nat.eq_or_lt_of_le h1).elim (fun e=>?_) fun l=>?_
  ·subst e;exact⟨s,q,al_ble a,fun c e=>by rw [e]at b;exact al_ble b⟩
  ·refine lu (ih (k+1) _ h l (Nat.succ_add_eq_add_succ k n▸h2):) fun s' e1 e2 e3=>?_
   exact⟨s',e1,Nat.lt_trans (al_ble a) e2,e3⟩
theorem G9{x:Nat}(hl:x<y):∀(n k prev:Nat),Ha n k prev=true→k≤x→y<k+n→Dt (jJ x)<Dt (jJ y):=by
 intro n
 induction n with
 |zero=>intro k _ _ h1 h2;exact absurd (Nat.lt_trans hl h2) (Nat.not_lt.mpr h1)
 |succ n ih=>
  intro k prev h h1 h2;refine aC (bg h:) fun s q h=>?_
  refine aw (ae h:) fun Y h=>?_
  refine aw (ae h:) fun Y h=>?_
  refine(Nat.eq_or_lt_of_le h1).elim (fun e=>?_) fun l=>?_
  ·subst e
   refine lu (yx n (k+1) _ h hl (Nat.succ_add_eq_add_succ k n▸h2):) fun s' e1 e2 Y=>?_
   rw [rd q,rd e1];exact e2
  ·exact ih (k+1) _ h l (Nat.succ_add_eq_add_succ k n▸h2)
theorem Ko(h:Ha tl 0 0=true)(hb:B6.ents.all (fun p=>Nat.blt p.1 tl)=true)(x y:Nat)(e:jJ x=jJ y):x=y:=by
 have lt:∀{x s},B6.get x=some s→x<tl:=fun q=>al_ble (al_all hb _ (aE.fi q))
 have le:∀{x},x<tl→x<0+tl:=fun l=>(Nat.zero_add tl).symm▸l
 have far:∀{x},¬x<tl→jJ x=⟨#[x+1000]⟩:=fun{x} l=>by
  cases q:B6.get x with
  |none=>exact B7 q
  |some s=>exact absurd (lt q) l
 have one:∀{x y},x<tl→¬y<tl→jJ x=jJ y→False:=fun{x y} l l' e=>by
  refine lu (yx tl 0 0 h (Nat.zero_le x) (le l):) fun s q Y c=>?_
  rw [rd q,far l']at e;exact absurd (c (y+1000) (by rw [e])) (Nat.not_lt.mpr (Nat.le_add_left 1000 y))
 have two:∀{x y},x<y→y<tl→jJ x=jJ y→False:=fun{x y} l l' e=>absurd (G9 l tl 0 0 h (Nat.zero_le x) (le l')) (by rw [e];exact Nat.lt_irrefl _)
 refine(Decidable.em (x<tl)).elim (fun hx=>?_) fun hx=>?_
 ·refine(Decidable.em (y<tl)).elim (fun hy=>?_) fun hy=>(one hx hy e).elim
  exact(Nat.lt_trichotomy x y).elim (fun l=>(two l hy e).elim) fun q=>q.elim id fun l=>(two l hx e.symm).elim
 ·refine(Decidable.em (y<tl)).elim (fun hy=>(one hy hx e.symm).elim) fun hy=>?_
  rw [far hx,far hy]at e;exact Nat.add_right_cancel (List.cons.inj (congrArg (fun s:Str=>s.cps.toList) e)).1
noncomputable def T8(l:List (Nat×Nat))(x:Nat):Nat:=l.rec 0 fun p Y r=>cond (Nat.beq p.1 x) p.2 r
def lL(k:Nat):Nat:=T8 Ss k
def qp(k:Nat):Nat:=T8 (cZ.map fun p=>(p.1,p.2.1)) k
noncomputable def gu:Obj:={cls:=.none,data:=.freed}
noncomputable def tF:List FE:=AD.filter fun e=>e.lam
noncomputable def dZ:List (Addr×Addr):=tF.map fun e=>(e.c,e.c - 4)
def Bq(P:Params):BT:=zN P (gW P 259)
def KY(l:List (Addr×Addr))(t:BT):BT:=l.foldl (fun t p=>t.set p.2 fun Y=>gu) t
def Em(P:Params):BT:=KY dZ (Bq P)
noncomputable def lives(o:Obj):Bool:=!Nat.beq o.data.ctorIdx 10
theorem CY(l:List (Addr×Addr))(t:BT)(b:Addr)(h:∀p∈l,b≠p.2):(KY l t).get b=t.get b:=by
 induction l generalizing t with
 |nil=>rfl
 |cons p r ih=>exact(ih _ fun x m=>h x (al_con _ m)).trans ((BT.get_set ..).trans (if_neg (h p al_self)))
theorem F7{t:BT}{b x:Addr}(hs:(t.get b).isSome=true):(t.set x fun Y=>gu).get b=some gu∨b≠x∧(t.set x fun Y=>gu).get b=t.get b:=by
 rw [BT.get_set];refine(Decidable.em (b=x)).elim (fun e=>.inl ?_) fun e=>.inr ⟨e,if_neg e⟩
 rw [if_pos e,←e];refine dm (Option.isSome_iff_exists.mp hs:) fun o q=>?_
 rw [q];rfl
theorem zF(l:List (Addr×Addr))(t:BT)(b:Addr)(hs:(t.get b).isSome=true)(h:(∃p∈l,b=p.2)∨t.get b=some gu):(KY l t).get b=some gu:=by
 induction l generalizing t with
 |nil=>exact h.elim (fun h=>aC h fun p m Y=>nomatch m) id
 |cons p r ih=>
  refine(F7 (x:=p.2) hs).elim (fun q=>ih _ (by rw [q];rfl) (.inr q)) fun q=>ih _ (q.2▸hs) (h.elim (fun h=>?_) fun h=>.inr (q.2.trans h))
  refine aC h fun x m e=>(al_mc m).elim (fun z=>absurd (z▸e) q.1) fun m=>.inl ⟨x,m,e⟩
noncomputable def jY(a b:String):Bool:=a==b
noncomputable def vB(v:Value):Option Bool:=v.casesOn none none none (fun b=>some b) (fun Y Y=>none) (fun Y Y=>none) (fun Y Y=>none) (fun Y Y=>none) (fun Y=>none) (fun Y=>none) fun Y=>none
noncomputable def vI(v:Value):Option Int:=v.casesOn none none none (fun Y=>none) (fun i Y=>some i) (fun Y Y=>none) (fun Y Y=>none) (fun Y Y=>none) (fun Y=>none) (fun Y=>none) fun Y=>none
noncomputable def vStr(v:Value):Option Str:=v.casesOn none none none (fun Y=>none) (fun Y Y=>none) (fun Y Y=>none) (fun s Y=>some s) (fun Y Y=>none) (fun Y=>none) (fun Y=>none) fun Y=>none
noncomputable def vY(v:Value):Option (Array UInt8):=v.casesOn none none none (fun Y=>none) (fun Y Y=>none) (fun Y Y=>none) (fun Y Y=>none) (fun b Y=>some b) (fun Y=>none) (fun Y=>none) fun Y=>none
noncomputable def vT(v:Value):Option String:=v.casesOn none none none (fun Y=>none) (fun Y Y=>none) (fun Y Y=>none) (fun Y Y=>none) (fun Y Y=>none) (fun s=>some s) (fun Y=>none) fun Y=>none
noncomputable def vU(v:Value):Option String:=v.casesOn none none none (fun Y=>none) (fun Y Y=>none) (fun Y Y=>none) (fun Y Y=>none) (fun Y Y=>none) (fun Y=>none) (fun s=>some s) fun Y=>none
noncomputable def vR(v:Value):Option Addr:=v.casesOn none none none (fun Y=>none) (fun Y Y=>none) (fun Y Y=>none) (fun Y Y=>none) (fun Y Y=>none) (fun Y=>none) (fun Y=>none) fun a=>some a
theorem HP{x:Bool}(h:vB v=some x):v=.bool x:=by cases v<;>first|exact no h|exact congrArg _ (al_inj h)
theorem HO{x:Int}(h:vI v=some x):∃t,v=.int x t:=by cases v<;>first|exact no h|exact⟨_,congrArg (Value.int · _) (al_inj h)⟩
theorem qM{x:Str}(h:vStr v=some x):∃t,v=.str x t:=by cases v<;>first|exact no h|exact⟨_,congrArg (Value.str · _) (al_inj h)⟩
theorem ML{x:Array UInt8}(h:vY v=some x):∃t,v=.bytes x t:=by cases v<;>first|exact no h|exact⟨_,congrArg (Value.bytes · _) (al_inj h)⟩
theorem pD{x:String}(h:vT v=some x):v=.type x:=by cases v<;>first|exact no h|exact congrArg _ (al_inj h)
theorem Ba{x:String}(h:vU v=some x):v=.builtin x:=by cases v<;>first|exact no h|exact congrArg _ (al_inj h)
theorem pF{x:Addr}(h:vR v=some x):v=.ref x:=by cases v<;>first|exact no h|exact congrArg _ (al_inj h)
noncomputable def Lu(d:Data):Option (List Value):=d.casesOn none (fun Y=>none) (fun vs Y=>some vs.toList) (fun Y Y=>none) (fun Y Y Y=>none) (fun Y Y=>none) (fun Y=>none) (fun Y=>none) (fun Y=>none) (fun Y=>none) none
noncomputable def IV(d:Data):Option (List DictEntry):=d.casesOn none (fun Y=>none) (fun Y Y=>none) (fun es Y=>some es.toList) (fun Y Y Y=>none) (fun Y Y=>none) (fun Y=>none) (fun Y=>none) (fun Y=>none) (fun Y=>none) none
noncomputable def S2(d:Data):Option (List Value):=d.casesOn none (fun Y=>none) (fun Y Y=>none) (fun Y Y=>none) (fun Y Y Y=>none) (fun Y Y=>none) (fun Y=>none) (fun Y=>none) (fun Y=>none) (fun vs=>some vs.toList) none
theorem yp{d:Data}{l:List Value}(h:Lu d=some l):∃n,d=.seq l.toArray n:=by cases d<;>first|exact no h|exact⟨_,by rw [←al_inj h]⟩
theorem Dy{d:Data}{l:List DictEntry}(h:IV d=some l):∃n,d=.dict l.toArray n:=by cases d<;>first|exact no h|exact⟨_,by rw [←al_inj h]⟩
theorem Dx{d:Data}{l:List Value}(h:S2 d=some l):d=.fields l.toArray:=by cases d<;>first|exact no h|rw [←al_inj h]
theorem w4{d:Data}(h:Nat.beq d.ctorIdx 0=true):d=.plain:=by cases d<;>first|rfl|exact Bool.noConfusion h
def S9(v w:Value):Bool:=(vU w).elim ((vT w).any fun t=>(vT v).any (jY · t)) fun t=>(vU v).any (jY · t)
theorem LC{w:Value}(h:S9 v w=true):v=w:=by
 unfold S9 at h;cases q:vU w with
 |some t=>
  rw [q]at h;refine aC (bg h:) fun s q1 h=>?_
  rw [Ba q,Ba q1,show s=t from beq_iff_eq.mp h]
 |none=>
  rw [q]at h;refine aC (bg h:) fun t q h=>?_
  refine aC (bg h:) fun s q1 h=>?_
  rw [pD q,pD q1,show s=t from beq_iff_eq.mp h]
noncomputable def Uh(e:IE):Option Int:=e.casesOn (fun i=>some i) (fun Y=>none) (fun Y Y=>none) (fun Y Y=>none) (fun Y Y=>none) (fun Y Y=>none) (fun Y Y=>none) fun Y Y=>none
theorem KL{e:IE}{i:Int}(h:Uh e=some i):e=.c i:=by cases e<;>first|exact no h|exact congrArg _ (al_inj h)
noncomputable def J1(f:AV→Value→Bool)(l:List AV):List Value→Bool:=l.rec (fun r=>r.isEmpty) fun a Y k r=>r.casesOn false fun v r=>f a v&&k r
def Fd(tr:BT)(f:AV→Value→Bool)(a:AV)(v:Value):Bool:=match a with
 |.none=>Nat.beq v.ctorIdx 0
 |.bool b=>(vB v).any (Qw b)
 |.int e=>(Uh e).any fun i=>(vI v).any (ig i)
 |.str l=>(vStr v).any fun s=>lEq l s.cps.toList
 |.bytes l=>(vY v).any fun b=>oC l b.toList
 |.t l=>(vR v).any fun x=>(tr.get x).any fun o=>(vT o.cls).any (jY · "tuple")&&(o.dict.isNone&&(o.slots.isEmpty&&(Nat.blt x 1790&&(Lu o.data).any (J1 f l))))
 |.fn k=>(vR v).any (Nat.beq · (lL k))
 |.cls k=>(vR v).any (Nat.beq · (qp k))
 |.bi k=>S9 v (uV k)
 |_=>false
def BM(tr:BT)(n:Nat):AV→Value→Bool:=n.rec (fun Y Y=>false) fun Y f=>Fd tr f
theorem z9:∀(l:List IE)(b:List UInt8),oC l b=true→(∀e∈l,∃i:Nat,i<256∧e=.c (i:Int))∧∀ν,l.map (cj ν)=b:=by
 intro l b h;have:=IQ (v:=.bytes l) (c:=.bytes b) h
 cases this with
 |bytes _ _ h1 h2=>
  refine⟨h1,fun ν=>?_⟩
  rw [←h2];refine List.map_congr_left fun e m=>?_
  obtain⟨i,_,rfl⟩:=h1 e m
  rfl
def oG(tr:BT)(h:Heap):Prop:=∀a o,tr.get a=some o→Nat.blt a 1790=true→lives o=true→h.get? a=some o
theorem xy{h:Heap}(ok:∀a v,f a v=true→ao C J M h a v):∀(l:List AV)(r:List Value),J1 f l r=true→ay C J M h l r:=by
 intro l
 induction l with
 |nil=>intro r q;exact(List.isEmpty_iff.mp q).symm▸.nil
 |cons a l ih=>
  intro r q;cases r with
  |nil=>exact Bool.noConfusion q
  |cons v r=>exact aw (ae q:) fun q1 q2=>.cons (ok a v q1) (ih r q2)
theorem Ki{o:Obj}{c:Value}{d:Option Addr}{da:Data}{s:Array (Option Value)}(h1:o.cls=c)(h2:o.dict=d)(h3:o.data=da)(h4:o.slots=s):o=⟨c,d,da,s⟩:=by subst h1 h2;subst h3 h4;rfl
theorem hG{o:Obj}{d:Data}(e:o.data=d)(h:Nat.beq d.ctorIdx 10=false):lives o=true:=by unfold lives;rw [e,h];rfl
theorem BN{tr:BT}(hb:oG tr C.hb){h:Heap}(ext:∀b o,C.hb.get? b=some o→¬M b∧h.get? b=some o)(ok:∀a v,f a v=true→ao C J M h a v){l:List AV}(q:Fd tr f (.t l) v=true):ao C J M h (.t l) v:=by
 refine aC (bg q:) fun x e q=>?_
 refine aC (bg q:) fun o g q=>?_
 refine aw (ae q:) fun a1 q=>?_
 refine aw (ae q:) fun a2 q=>?_
 refine aw (ae q:) fun a3 q=>?_
 refine aw (ae q:) fun a4 q=>?_
 refine aC (bg q:) fun vs d q=>?_
 refine aC (bg a1:) fun t b1 a1=>?_
 refine dm (yp d:) fun n d=>?_
 refine aw (ext _ _ (hb _ _ g a4 (hG d rfl)):) fun g1 g2=>?_
 rw [pF e];refine .t _ _ vs n g1 (g2.trans (congrArg some (Ki ((pD b1).trans (congrArg _ (beq_iff_eq.mp a1))) (Option.isNone_iff_eq_none.mp a2) d (Array.isEmpty_iff.mp a3)))) (xy ok _ _ q)
theorem vn{tr:BT}{h:Heap}{l:List IE}(q:Fd tr f (.bytes l) v=true):ao C J M h (.bytes l) v:=by
 refine aC (bg q:) fun b e q=>?_
 refine dm (ML e:) fun t e=>?_
 refine aw (z9 _ _ q:) fun h1 h2=>?_
 rw [e,show b=aQ C.ν l by unfold aQ;rw [h2]]
 exact .bytes _ _ fun x m=>aC (h1 x m) fun i hi e=>e▸⟨Int.natCast_nonneg i,Int.ofNat_lt.mpr hi⟩
theorem G8{b c:Bool}(h:Qw b c=true):c=b:=by cases b<;>cases c<;>first|rfl|exact Bool.noConfusion h
theorem Fc{tr:BT}(hb:oG tr C.hb)(hf:C.mv=lL)(hc:C.cZ=qp){h:Heap}(ext:∀b o,C.hb.get? b=some o→¬M b∧h.get? b=some o)(ok:∀a v,f a v=true→ao C J M h a v)(a:AV)(v:Value)(q:Fd tr f a v=true):ao C J M h a v:=by
 cases a with
 |none=>cases v<;>first|exact .none|exact Bool.noConfusion q
 |bool b=>exact aC (bg q:) fun c e q=>by rw [HP e,G8 q];exact .bool _
 |int e=>exact aC (bg q:) fun i e q=>aC (bg q:) fun j e2 q=>dm (HO e2:) fun t e2=>by rw [KL e,e2];exact .int _ _ _ ((PySem.W.Z.eqB_iff ..).mp q)
 |str l=>exact aC (bg q:) fun s e q=>dm (qM e:) fun t e=>by rw [e,jX q];exact .str _ _
 |bytes l=>exact vn q
 |t l=>exact BN hb ext ok q
 |fn k=>exact aC (bg q:) fun x e q=>by rw [pF e,al_beq q,←hf];exact .fn k
 |cls k=>exact aC (bg q:) fun x e q=>by rw [pF e,al_beq q,←hc];exact .cls k
 |bi k=>rw [LC q];exact .bi k
 |_=>exact Bool.noConfusion q
theorem xx{tr:BT}(hb:oG tr C.hb)(hf:C.mv=lL)(hc:C.cZ=qp)(n:Nat){h:Heap}(ext:∀b o,C.hb.get? b=some o→¬M b∧h.get? b=some o):∀(a:AV)(v:Value),BM tr n a v=true→ao C J M h a v:=by
 induction n with
 |zero=>intro a v h;exact Bool.noConfusion h
 |succ n ih=>exact Fc hb hf hc ext ih
end
section
noncomputable def yq(k:Nat):List Nat:=((jR.get k).map fun p=>p.2.1).getD []
def Lc:Option Tk:=(Qt y6 AA body AD ⟨[],[],[],[]⟩).bind fun T=>zO y6 jR lG T.o8 T
noncomputable def iH:Tk:=Lc.getD ⟨[],[],[],[]⟩
def RK(k:Nat)(fd:FuncData):Prop:=∃r∈iH.o8,r.k=k∧fd.body=.expr r.body∧fd.params=r.params∧fd.scope=r.scope∧fd.globals=mainGlobals∧fd.builtins=builtinsNs∧fd.defaults=.none
def TN(e:FE):Str:=(ny body e++(".<locals>.":Str))++("<lambda>":Str)
def Io(P:Addr)(_:Pos):Str:=(tF.find? fun e=>Nat.beq (e.c - 4) P).elim Str.empty TN
def IX(tr:BT)(c:Addr):Option Str:=(tr.get c).bind fun o=>(S2 o.data).bind fun vs=>vs[1]?.bind vStr
def SY(tr:BT)(e:FE):Bool:=(AA.get e.k).any fun f=>e.df.elim f.df.isEmpty fun T=>Nat.blt T 1790&&(tr.get T).any fun o=>(Lu o.data).any fun vs=>Nat.ble vs.length f.ps.length&&J1 (BM tr 10) f.df vs
def Uq(tr:BT)(e:FE):Bool:=Nat.beq (lL e.k) e.a&&(Nat.blt e.a 1790&&(Nat.blt e.c 1790&&SY tr e))
noncomputable def Ml(vs:List Value)(i:Nat)(p:Value→Bool):Bool:=vs[i]?.any p
theorem oe{vs:List Value}{i:Nat}{p:Value→Bool}(h:Ml vs i p=true):∃v,vs.toArray[i]?=some v∧p v=true:=aC (bg h:) fun v e q=>⟨v,(List.getElem?_toArray ..).trans e,q⟩
theorem gD{vs:Array Value}{i:Nat}(h:vs[i]?=some v):vs.getD i .none=v:=by rw [Array.getD_eq_getD_getElem?,h];rfl
theorem xY(h:(vI v).isSome=true):∃i t,v=.int i t:=dm (Option.isSome_iff_exists.mp h:) fun i e=>⟨i,HO e⟩
theorem F1(h:(vB v).isSome=true):∃b,v=.bool b:=dm (Option.isSome_iff_exists.mp h:) fun i e=>⟨i,HP e⟩
theorem xV(h:(vStr v).isSome=true):∃s t,v=.str s t:=dm (Option.isSome_iff_exists.mp h:) fun i e=>⟨i,qM e⟩
def KG(P:Addr)(v:Value):Bool:=(vR v).any (Nat.beq · P)
theorem xW{P:Addr}(h:KG P v=true):v=.ref P:=aC (bg h:) fun a e q=>(pF e).trans (congrArg _ (al_beq q))
def Uk(tr:BT)(p:Addr×Addr):Bool:=Nat.blt p.1 1790&&(tr.get p.1).any fun o=>(vT o.cls).any (jY · "code")&&(S2 o.data).any fun vs=>Ml vs 7 (fun v=>(vI v).isSome)&&(Ml vs 9 (fun v=>(vB v).isSome)&&(Ml vs 10 (fun v=>(vI v).isSome)&&(Ml vs 11 (KG p.2)&&(Ml vs 18 (fun v=>(vStr v).isSome)&&!Nat.beq p.1 p.2))))
def Pe(tr:BT)(a:Addr):Option (List DictEntry):=(tr.get a).bind fun o=>IV o.data
def oy(tr:BT)(a:Addr):List DictEntry:=(Pe tr a).getD []
def mJ(tr:BT)(a:Addr):Bool:=(Pe tr a).any fun es=>es.all fun e=>(vStr e.key).isSome
def KA(v:Value)(l:List Nat):Bool:=(vStr v).any fun s=>lEq s.cps.toList l
def jn(l:List Nat)(es:List DictEntry):Option Value:=(es.find? fun e=>KA e.key l).map (·.val)
def C3(tr:BT)(es bs:List DictEntry)(v:AV)(l:List Nat):Bool:=(jn l es).elim ((jn l bs).any (BM tr 10 v)) (BM tr 10 v)
def OB(tr:BT)(es bs:List DictEntry)(p:Nat×AV):Bool:=C3 tr es bs p.2 (jJ p.1).cps.toList
def RO(r:Option (Option Value))(s:String):Bool:=r.any fun o=>o.any fun v=>(vU v).any (jY · s)
noncomputable def RN(r:Option (Option Value)):Bool:=r.any (·.isNone)
def RM(r:Option (Option Value))(a:Addr):Bool:=r.any fun o=>o.any (KG a)
def KH(r:Option Value):Bool:=r.any fun v=>(vT v).any (jY · "function")
def Pm(K:Frag)(a f:Nat)(ms:List (Nat×Nat)):Bool:=(clsIn K a).any (·.hasDict)&&(RO (findIn K (.ref a) "__getattribute__") "object.__getattribute__"&&(RN (findIn K (.ref a) "__getattr__")&&
  (y6.attrs.all (fun n=>(gm ms n).isSome||RN (findIn K (.ref a) (jJ n)))&&(ms.all (fun q=>RM (findIn K (.ref a) (jJ q.1)) (lL q.2)&&KH (typeIn K (.ref (lL q.2))))&&
  (makesIn K a&&(RM (findIn K (.ref a) "__init__") (lL f)&&(KH (typeIn K (.ref (lL f)))&&(plainOver K a&&RO (findIn K (.ref a) "__setattr__") "object.__setattr__"))))))))
def S6(K:Frag)(p:Nat×(Nat×List (Nat×Nat))):Bool:=Pm K (qp p.1) p.2.1 p.2.2
def Tt:List Addr:=cZ.flatMap (fun p=>[p.2.1,p.2.2])++GC.ents.flatMap (fun p=>p.2.2.map fun q=>lL q.2)
noncomputable def nX(tr:BT):Frag:=Tt.map fun a=>(a,(tr.get a).getD default)
def OF(tr:BT):Bool:=Tt.all fun a=>(tr.get a).any fun o=>lives o&&Nat.blt a 1790
def UE(v:Option Value)(p:Addr→Bool):Bool:=v.any fun v=>(vR v).any p
def Rz(tr:BT):Bool:=UE (jn ("__builtins__":Str).cps.toList (oy tr 3)) fun bm=>!Nat.beq bm 0&&(!Nat.beq bm 3&&(Nat.blt bm 1790&&(tr.get bm).any fun o=>(vT o.cls).any (jY · "module")&&(o.dict.any (Nat.beq · 0)&&Nat.beq o.data.ctorIdx 0)))
def RI(tr:BT):Bool:=UE (jn ("law":Str).cps.toList (oy tr 3)) (Nat.beq · (lL 185))
structure iD(tr trw:BT):Prop where
 fns:AD.map (fun e=>tr.get e.a)=AD.map (fun e=>some {cls:=.type "function",data:=.func (fdOf body e)})
 codes:AD.map (fun e=>IX tr e.c)=AD.map (fun e=>some (ny body e))
 fe:AD.all (Uq tr)=true
 tabs:dZ.map (fun p=>trw.get p.2)=dZ.map (fun Y=>some (tabObj #[]))
 hd:dZ.all (Uk tr)=true
 lq:tF.map (fun e=>Io (e.c - 4) default)=tF.map TN
 yo:(mJ tr 3&&(mJ tr 0&&mJ tr 2))=true
 lim:jn ("sys.recursionlimit":Str).cps.toList (oy tr 2)=none
 mods:(tr.get 1).any lives=true
 glob:Et.ents.all (OB tr (oy tr 3) (oy tr 0))=true
 mod:Rz tr=true
 V8:RI tr=true
 Sq:OF tr=true
 cls:GC.ents.all (S6 (nX tr))=true
structure ki:Prop where
 all:(Lc.isSome,iH.FD.map (·.1),iH.rE,iH.o8.all (fun r=>lEq r.bM (yq r.k)))=(true,iH.FD.map (fun p=>jJ p.2),iH.rE.map (fun Y=>(".0":Str)),true)
 asc:Ha tl 0 0=true
 W8:B6.ents.all (fun p=>Nat.blt p.1 tl)=true
 dot:B6.ents.all (fun p=>!lEq p.2.cps.toList [46,48])=true
 sp:[jJ y6.d1,jJ y6.d2,jJ y6.en,jJ y6.zp,jJ cV.append,jJ cV.extend,jJ cV.pop,jJ cV.split,jJ cV.find,jJ cV.join,jJ cV.get,jJ cV.init]=[("__debug__":Str),"__classdict__","enumerate","zip","append","extend","pop","split","find","join","get","__init__"]
 has:AA.ents.all (fun p=>AD.any fun e=>Nat.beq e.k p.1)=true
 OG:[Et.get y6.en,Et.get y6.zp]=[some (.bi 7),some (.bi 8)]
 o8:jR.ents.all (fun p=>iH.o8.any fun r=>Nat.beq r.k p.1)=true
end
section
def Dz(w:World)(ν:Nat→Int)(nf:Nat)(f0:aE AO)(h:Heap)(K:Frag)(U:Nat→Value):Cx:={prog:=prog,w:=w,ν:=ν,U:=U,hb:=h,nm:=jJ,mv:=lL,cZ:=qp,tabs:=dZ,lam:=RK,bM:=yq,tD:=Io,nf:=nf,f0:=f0,K:=K,attrs:=y6.attrs}
def Nq(nf:Nat)(sm:Nat→List AV→AS→Option (aH (AV×AS)))(smd:Nat):Pg:=⟨AA,jR,GC,Et,nf,sm,smd⟩
section
variable{w:World}{ν:Nat→Int}{nf:Nat}{f0:aE AO}{hp:Heap}{K:Frag}{U:Nat→Value}{tr trw:BT}
theorem Ir(F:ki):∀x y,jJ x=jJ y→x=y:=Ko F.asc F.W8
theorem all1{β:Type}{f g:α→β}{l:List α}(e:l.map f=l.map g){a:α}(m:a∈l):f a=g a:=List.map_inj_left.mp e a m
theorem QY(F:ki):eI (Dz w ν nf f0 hp K U) y6:=by
 have s:=F.sp
 simp only[List.cons.injEq,and_true]at s
 refine Kl (s:) fun s1 s2 s3 s4 Y=>?_
 refine⟨s1,s2,s3,s4,fun n m=>jf m,Ir F,fun x e=>?_⟩
 have e:jJ x=".0":=e
 have e2:(".0":Str).cps.toList=[46,48]:=by decide+kernel
 cases q:B6.get x with
 |some s=>
  rw [rd q]at e;have:(!lEq s.cps.toList [46,48])=true:=al_all F.dot _ (aE.fi q)
  rw [e,e2,jh]at this;exact Bool.noConfusion this
 |none=>
  rw [B7 q]at e;have e:[x+1000]=(".0":Str).cps.toList:=congrArg (fun s:Str=>s.cps.toList) e
  exact nomatch List.tail_eq_of_cons_eq (e.trans e2)
theorem K5(F:ki):aO (Dz w ν nf f0 hp K U) iH:=by
 have h:=F.all
 refine aw (Prod.mk.inj h:) fun Y h=>?_
 refine aw (Prod.mk.inj h:) fun h1 h=>?_
 refine aw (Prod.mk.inj h:) fun h2 h3=>?_
 refine⟨fun p m=>all1 h1 m,fun r m=>⟨(kc (al_all h3 r m)).symm,fun pm cdv ctv qual clos=>⟨r,m,rfl,rfl,rfl,rfl,rfl,rfl,rfl⟩⟩,fun s m=>?_⟩
 have:iH.rE.map id=iH.rE.map (fun Y=>(".0":Str)):=by rw [List.map_id];exact h2
 exact all1 this m
theorem Li(SO:eI C S){fs:aE Fn}{body:List Stmt}(HF:∀e f,fs.get e.k=some f→e∈AD→HF C body e f):∀(l:List FE)(T T':Tk),(∀e∈l,e∈AD)→Qt S fs body l T=some T'→aO C T'→aO C T∧∀e∈l,∀f,fs.get e.k=some f→uN C e.k f:=by
 intro l
 induction l with
 |nil=>exact fun T T' Y h G=>⟨al_inj h▸G,fun Y m=>nomatch m⟩
 |cons e r ih=>
  intro T T' hm h G;unfold Qt at h;refine aC (aW h:) fun T1 h1 h2=>?_
  refine aw (ih T1 T' (fun x m=>hm x (al_con _ m)) h2 G:) fun g fr=>?_
  have key:∀f,fs.get e.k=some f→aO C T∧uN C e.k f:=fun f hf=>OQ SO hf h1 g (HF e f hf (hm e al_self))
  refine aC (aL h1:) fun f hf Y=>?_
  refine⟨(key f hf).1,fun x m f' Qq=>?_⟩
  rcases al_mc m with rfl|m
  ·exact(key f' Qq).2
  ·exact fr x m f' Qq
theorem Gp(SO:eI C S){gn:aE (List Nat×List Nat×CE)}{lt:List (Nat×List (List Nat))}:∀(l:List LR)(T T':Tk),zO S gn lt l T=some T'→aO C T'→aO C T∧∀r∈l,∀ps cs e,gn.get r.k=some (ps,cs,e)→
  r.bM=cs∧∀fd:FuncData,fd.body=.expr r.body→fd.params=r.params→fd.scope=r.scope→fd.globals=mainGlobals→fd.builtins=builtinsNs→fd.defaults=.none→∃body kd,oH C r.k ps cs e fd body kd:=by
 intro l
 induction l with
 |nil=>exact fun T T' h G=>⟨al_inj h▸G,fun Y m=>nomatch m⟩
 |cons e r ih=>
  intro T T' h G;unfold zO at h;refine aC (aW h:) fun T1 h1 h2=>?_
  refine aw (ih T1 T' h2 G:) fun g fr=>?_
  refine aw (Lg SO h1 g:) fun g f1=>?_
  refine⟨g,fun x m=>?_⟩
  rcases al_mc m with rfl|m
  ·exact f1
  ·exact fr x m
theorem DG(HG:oG tr hp){c:Addr}{q:Str}(h:IX tr c=some q)(hc:Nat.blt c 1790=true):hp.CodeRec (.ref c) q:=by
 refine aC (aW h:) fun o z h=>?_
 refine aC (aW h:) fun vs d h=>?_
 refine aC (aW h:) fun v e h=>?_
 refine dm (qM h:) fun t h=>?_
 have d:=Dx d
 exact⟨c,o,vs.toArray,t,rfl,HG _ _ z hc (hG d rfl),d,(List.getElem?_toArray ..).trans (h▸e)⟩
theorem R4(HG:oG tr hp)(F:iD tr trw)(e:FE)(f:Fn)(hf:AA.get e.k=some f)(m:e∈AD):HF (Dz w ν nf f0 hp K U) body e f:=by
 have hb:=al_all F.fe e m
 unfold Uq at hb;refine aw (ae hb:) fun b1 hb=>?_
 refine aw (ae hb:) fun b2 hb=>?_
 refine aw (ae hb:) fun b3 b4=>?_
 refine⟨al_beq b1,HG _ _ (all1 F.fns m) b2 rfl,DG HG (all1 F.codes m) b3,?_,fun hl=>?_⟩
 ·refine aC (bg b4:) fun f' q b4=>?_
  cases hf.symm.trans q
  cases hd:e.df with
  |none=>
   rw [hd]at b4;refine⟨[],Nat.zero_le _,.inl ⟨rfl,rfl⟩,fun J M h ext=>?_⟩
   rw [List.isEmpty_iff.mp b4];exact .nil
  |some T=>
   rw [hd]at b4;refine aw (ae b4:) fun c1 b4=>?_
   refine aC (bg b4:) fun o z b4=>?_
   refine aC (bg b4:) fun vs d b4=>?_
   refine aw (ae b4:) fun c2 c3=>?_
   refine dm (yp d:) fun n d=>?_
   exact⟨vs,al_ble c2,.inr ⟨T,o,n,rfl,HG _ _ z c1 (hG d rfl),d⟩,fun J M h ext=>xy (xx (C:=Dz w ν nf f0 hp K U) HG rfl rfl 10 ext) _ _ c3⟩
 ·have hm:e∈tF:=List.mem_filter.mpr ⟨m,hl⟩
  exact⟨e.c - 4,List.mem_map.mpr ⟨e,hm,rfl⟩,fun Y=>all1 F.lq hm⟩
theorem CB(x:Str)(v:Value):v.isStr x=KA v x.cps.toList:=by
 cases v with
 |str s t=>
  show(s==x)=lEq s.cps.toList x.cps.toList;rw [Bool.eq_iff_iff,beq_iff_eq];exact⟨fun q=>q▸jh _,fun q=>by rw [←gY s,←gY x,kc q]⟩
 |_=>rfl
theorem kY(HG:oG tr hp){a:Addr}(h:mJ tr a=true)(ha:Nat.blt a 1790=true):hp.Ns a (hp.nsMap a)∧∀x:Str,hp.nsMap a x=jn x.cps.toList (oy tr a):=by
 refine aC (bg h:) fun es q h=>?_
 refine aC (aW q:) fun o z d=>?_
 refine dm (Dy d:) fun n d'=>?_
 have g:=HG _ _ z ha (hG d' rfl)
 obtain⟨c,dd,da,sl⟩:=o
 have d':da=_:=d'
 subst d';have hn:hp.isNs a=true:=by
  unfold Heap.isNs;rw [g];refine(Array.all_eq_true_iff_forall_mem).mpr fun e m=>?_
  refine Fz (xV (al_all h e (List.mem_toArray.mp m)):) fun s t e=>?_
  rw [e]
 refine⟨.of_isNs hn,fun x=>?_⟩
 unfold Heap.nsMap jn oy;rw [g,q];show(es.toArray.find? fun e=>e.key.isStr x).map (·.val)=_
 rw [←Array.find?_toList,show(fun e:DictEntry=>e.key.isStr x)=fun e=>KA e.key x.cps.toList from funext fun e=>CB x e.key]
 rfl
theorem C2{tr:BT}{es bs:List DictEntry}{v:AV}(h:C3 tr es bs v l=true):∃rv,BM tr 10 v rv=true∧(jn l es=some rv∨jn l es=none∧jn l bs=some rv):=by
 unfold C3 at h;cases q:jn l es with
 |some rv=>rw [q]at h;exact⟨rv,h,.inl rfl⟩
 |none=>rw [q]at h;exact aC (bg h:) fun rv q' h=>⟨rv,h,.inr ⟨rfl,q'⟩⟩
theorem K6(HG:oG tr hp)(F:iD tr trw)(x:Nat)(v:AV)(h:Et.get x=some v):rS (Dz w ν nf f0 hp K U) x v:=by
 have hd:=F.yo
 refine aw (ae hd:) fun d1 hd=>?_
 refine aw (ae hd:) fun d2 d3=>?_
 refine aw (kY HG d1 (by rfl):) fun N1 E1=>?_
 refine aw (kY HG d2 (by rfl):) fun N2 E2=>?_
 refine aC (C2 (al_all F.glob (x,v) (aE.fi h)):) fun rv hg q=>?_
 refine⟨rv,fun J M h ext=>xx (C:=Dz w ν nf f0 hp K U) HG rfl rfl 10 ext v rv hg,_,N1,?_⟩
 exact q.elim (fun q=>.inl ((E1 _).trans q)) fun q=>.inr ⟨(E1 _).trans q.1,_,N2,(E2 _).trans q.2⟩
theorem CO{s:String}(h:RO r s=true):r=some (some (.builtin s)):=
 aC (bg h:) fun o e h=>aC (bg h:) fun v e1 h=>aC (bg h:) fun t e2 h=>by rw [e,e1,Ba e2,show t=s from beq_iff_eq.mp h]
theorem CN(h:RN r=true):r=some none:=
 aC (bg h:) fun o e h=>e.trans (congrArg some (Option.isNone_iff_eq_none.mp h))
theorem CL{a:Addr}(h:RM r a=true):r=some (some (.ref a)):=
 aC (bg h:) fun o e h=>aC (bg h:) fun v e1 h=>by rw [e,e1,xW h]
theorem x5{r:Option Value}(h:KH r=true):r=some (.type "function"):=
 aC (bg h:) fun v e h=>aC (bg h:) fun s e1 h=>by rw [e,pD e1,show s="function" from beq_iff_eq.mp h]
theorem zq{ms:List (Nat×Nat)}(h:gm ms n=some k):(n,k)∈ms:=by
 induction ms with
 |nil=>exact no h
 |cons p r ih=>
  unfold gm at h;cases q:Nat.beq p.1 n with
  |true=>rw [q]at h;rw [←al_beq q,←al_inj h];exact al_self
  |false=>rw [q]at h;exact al_con _ (ih h)
theorem Pl(HK:K=nX tr)(F:iD tr trw)(c f:Nat)(ms:List (Nat×Nat))(h:GC.get c=some (f,ms)):Ei (Dz w ν nf f0 hp K U) c f ms:=by
 subst HK;have hc:Pm (nX tr) (qp c) f ms=true:=al_all F.cls _ (aE.fi h)
 refine aw (ae hc:) fun c1 hc=>?_
 refine aw (ae hc:) fun c2 hc=>?_
 refine aw (ae hc:) fun c3 hc=>?_
 refine aw (ae hc:) fun c4 hc=>?_
 refine aw (ae hc:) fun c5 hc=>?_
 refine aw (ae hc:) fun c6 hc=>?_
 refine aw (ae hc:) fun c7 hc=>?_
 refine aw (ae hc:) fun c8 hc=>?_
 refine aw (ae hc:) fun c9 W7=>?_
 refine⟨?_,CO c2,CN c3,fun n m hn=>?_,fun n k hk=>?_,c6,⟨CL c7,x5 c8⟩,c9,CO W7⟩
 ·exact bg c1
 ·have:=al_all c4 n m
  rw [hn]at this;exact CN this
 ·have:=al_all c5 _ (zq hk)
  refine aw (ae this:) fun a b=>?_
  exact⟨CL a,x5 b⟩
theorem Oa(HG:oG tr hp)(F:iD tr trw):(nX tr).In hp:=by
 intro a o h;have hm:∀(l:List Addr),(l.map fun a=>(a,((tr).get a).getD default)).lookup a=some o→a∈l∧o=((tr).get a).getD default:=by
  intro l
  induction l with
  |nil=>intro q;injection q
  |cons b r ih=>
   intro q;rw [List.map_cons,List.lookup_cons]at q;cases z:a==b with
   |true=>
    rw [z]at q;have:=beq_iff_eq.mp z
    subst this;injection q with q;subst q;exact⟨al_self,rfl⟩
   |false=>
    rw [z]at q;refine aw (ih q:) fun i1 i2=>?_
    exact⟨al_con _ i1,i2⟩
 refine aw (hm Tt h:) fun m e=>?_
 refine aC (bg (al_all F.Sq a m):) fun o' q this=>?_
 refine aw (ae this:) fun a1 a2=>?_
 rw [e,q];exact HG _ _ q a2 a1
theorem CA(HG:oG tr hp)(F:iD tr trw):L6 (Dz w ν nf f0 hp K U):=by
 have hd:=F.yo
 refine aw (ae hd:) fun d1 hd=>?_
 refine aw (kY HG d1 (by rfl):) fun N1 E1=>?_
 refine⟨?_,fun p m=>?_⟩
 ·refine aC (bg F.mod:) fun v q hm=>?_
  refine aC (bg hm:) fun bm e hm=>?_
  refine aw (ae hm:) fun a1 hm=>?_
  refine aw (ae hm:) fun a2 hm=>?_
  refine aw (ae hm:) fun a3 hm=>?_
  refine aC (bg hm:) fun o z hm=>?_
  refine aw (ae hm:) fun b1 hm=>?_
  refine aw (ae hm:) fun b2 b3=>?_
  refine aC (bg b1:) fun s c1 b1=>?_
  refine aC (bg b2:) fun x c2 b2=>?_
  have dp:=w4 b3
  refine⟨_,bm,_,N1,(E1 _).trans (q.trans (congrArg some (pF e))),fun e=>?_,fun e=>?_,HG _ _ z a3 (hG dp rfl),(pD c1).trans (congrArg _ (beq_iff_eq.mp b1)),c2.trans (congrArg some (al_beq b2)),dp⟩
  ·rw [e]at a1;exact Bool.noConfusion a1
  ·rw [e]at a2;exact Bool.noConfusion a2
 ·refine aw (ae (al_all F.hd p m):) fun a3 hh=>?_
  refine aC (bg hh:) fun o z hh=>?_
  refine aw (ae hh:) fun a1 hh=>?_
  refine aC (bg hh:) fun vs d hh=>?_
  refine aw (ae hh:) fun h7 hh=>?_
  refine aw (ae hh:) fun h9 hh=>?_
  refine aw (ae hh:) fun hx hh=>?_
  refine aw (ae hh:) fun hP hh=>?_
  refine aw (ae hh:) fun Sj a4=>?_
  have d:=Dx d
  refine aC (bg a1:) fun s c1 a1=>?_
  refine aC (oe h7:) fun v7 e7 h7=>Fz (xY h7:) fun i7 t7 q7=>?_
  refine aC (oe h9:) fun v9 e9 h9=>dm (F1 h9:) fun b9 q9=>?_
  refine aC (oe hx:) fun vx ex hx=>Fz (xY hx:) fun Wc Vh qx=>?_
  refine aC (oe hP:) fun vP eP hP=>?_
  refine aC (oe Sj:) fun uS es Sj=>Fz (xV Sj:) fun Vn Ve qs=>?_
  rw [xW hP]at eP;refine⟨o,vs.toArray,Vn,Ve,i7,t7,b9,Wc,Vh,HG _ _ z a3 (hG d rfl),(pD c1).trans (congrArg _ (beq_iff_eq.mp a1)),d,eP,gD eP,(gD es).trans qs,(gD e7).trans q7,(gD e9).trans q9,(gD ex).trans qx,fun e=>?_⟩
  rw [e,Nat.beq_refl]at a4;exact Bool.noConfusion a4
theorem QL(N:ki)(HG:oG tr hp)(HK:K=nX tr)(F:iD tr trw){sm:Nat→List AV→AS→Option (aH (AV×AS))}{smd:Nat}(hs:L4 (Dz w ν nf f0 hp K U) (Nq nf sm smd)):WF (Dz w ν nf f0 hp K U) (Nq nf sm smd) cV:=by
 have SO:=QY (w:=w) (ν:=ν) (nf:=nf) (f0:=f0) (hp:=hp) (K:=K) (U:=U) N
 have hall:=N.all
 refine aw (Prod.mk.inj hall:) fun hsome Y=>?_
 refine dm (Option.isSome_iff_exists.mp hsome:) fun T2 hT=>?_
 have e2:iH=T2:=by unfold iH;rw [hT];rfl
 have G:=K5 (w:=w) (ν:=ν) (nf:=nf) (f0:=f0) (hp:=hp) (K:=K) (U:=U) N
 rw [e2]at G;have K3:=hT
 unfold Lc at K3;refine aC (aW K3:) fun T1 h1 h2=>?_
 refine aw (Gp SO _ _ _ h2 G:) fun g1 lm=>?_
 refine aw (Li SO (fun e f hf m=>R4 HG F e f hf m) AD _ _ (fun Y m=>m) h1 g1:) fun Y fo=>?_
 have hd:=F.yo
 refine aw (ae hd:) fun d1 hd=>?_
 refine aw (ae hd:) fun d2 d3=>?_
 refine aw (kY HG d3 (by rfl):) fun N3 E3=>?_
 have hsp:=N.sp
 simp only[List.cons.injEq,and_true]at hsp
 obtain⟨_,_,sen,szp,s5,s6,s7,s8,s9,Vr,Vo,Xf⟩:=hsp
 have same:T2.o8=T1.o8:=qi _ _ _ h2
 exact{
  wd:={
   inj:=Ir N
   glob:=K6 HG F
   Ua:=by subst HK;exact Oa HG F
   cls:=Pl HK F
   nf:=rfl
   mods:=by
    exact aC (bg F.mods:) fun o q h=>⟨o,HG _ _ q (by rfl) h⟩
   cb:=Ak}
  lim:=⟨_,N3,(E3 _).trans F.lim⟩
  fns:=fun k f hf=>by
   have:=al_all N.has _ (aE.fi hf)
   refine aC (List.any_eq_true.mp this:) fun e m q=>?_
   have q:e.k=k:=al_beq q
   have hf:AA.get k=some f:=hf
   rw [←q]at hf⊢;exact fo e m f hf
  gn:=fun k ps cs e hl=>by
   have hl:jR.get k=some (ps,cs,e):=hl
   refine⟨by show yq k=cs;unfold yq;rw [hl];rfl,fun fd hfd=>?_⟩
   obtain⟨r,m,rfl,b1,b2,b3,b4,b5,b6⟩:=hfd
   rw [e2,same]at m;exact(lm r m ps cs e hl).2 fd b1 b2 b3 b4 b5 b6
  lw:=CA HG F
  cV:=⟨s5,s6,s7,s8,s9,Vr,Vo⟩
  bj:=z8
  Pr:=G4
  bi:=S8 G5 Al yv
  it:=FV
  en:=Gw
  zp:=Jn
  Uo:=by
   exact⟨⟨y6.en,sen,(List.cons.inj N.OG).1⟩,⟨y6.zp,szp,(List.cons.inj (List.cons.inj N.OG).2).1⟩⟩
  sm:=hs}
end
end
noncomputable def Cx.re(C:Cx)(ν:Nat→Int)(nf:Nat)(f0:aE AO)(U:Nat→Value):Cx:={C with ν:=ν,nf:=nf,f0:=f0,U:=U}
theorem cQ.re{ν:Nat→Int}{nf:Nat}{f0:aE AO}{U:Nat→Value}{kd:Kd}{cs:Bool}{c:List CS}{x:List Stmt}(h:cQ C kd cs c x):cQ (C.re ν nf f0 U) kd cs c x:=h
def Vv(m:Nat)(π:Nat→Nat)(n:Nat)(a b:Nat×AV):Bool:=Nat.beq a.1 b.1&&xC m π n a.2 b.2
def TM(m:Nat)(π:Nat→Nat)(n:Nat):List (Nat×AV)→List (Nat×AV)→Bool:=allR (Vv m π n)
def H0(m:Nat)(π:Nat→Nat)(a b:AO):Bool:=match a with
 |.list x=>(match b with|.list y=>xC.Fg m π 20 x y|_=>false)
 |.inst c d=>(match b with|.inst c' d'=>Nat.beq c c'&&(Nat.blt d m&&Nat.beq (π d) d')|_=>false)
 |.ns x=>(match b with|.ns y=>TM m π 20 x y|_=>false)
 |.cb x=>(match b with|.cb y=>KP x y|_=>false)
section
variable{ν:Nat→Int}{nf:Nat}{f0:aE AO}{U:Nat→Value}{σ':List Addr}{M':Addr→Prop}{h:Heap}{m:Nat}{π:Nat→Nat}
theorem DT{x y:IE}{g:Int→Int→Bool}(h:both x y g false=true):∃i j,x=.c i∧y=.c j∧g i j=true:=by
 unfold both at h;cases q:gE x with
 |none=>rw [q]at h;injection h
 |some i=>
  rw [q]at h
  dsimp only at h
  cases q':gE y with
  |none=>rw [q']at h;injection h
  |some j=>rw [q']at h;exact⟨i,j,cT q,cT q',h⟩
theorem vO{a b:IE}(h:Qn a b=true):∃i,a=.c i∧b=.c i:=by
 obtain⟨i,j,rfl,rfl,h⟩:=DT h
 rw [bH.mp h];exact⟨_,rfl,rfl⟩
theorem fP{l:List α}(h:tn l=true):l=[]:=by
 cases l with
 |nil=>rfl
 |cons=>injection h
theorem lO{f:α→α→Bool}{a:α}{x y:List α}(h:allR f (a::x) y=true):∃b r,y=b::r∧f a b=true∧allR f x r=true:=by
 cases y with
 |nil=>injection h
 |cons b r=>exact⟨b,r,rfl,ae h⟩
theorem yb{a:List IE}:∀{b:List IE},KP a b=true→a=b∧∀e∈a,∃i,e=.c i:=by
 induction a with
 |nil=>intro b h;exact⟨(fP h).symm,fun Y m=>nomatch m⟩
 |cons a x ih=>
  intro b h;obtain⟨b,y,rfl,h1,h2⟩:=lO h
  obtain⟨i,rfl,rfl⟩:=vO h1
  obtain⟨rfl,k⟩:=ih h2
  refine⟨rfl,fun e m=>?_⟩
  rcases al_mc m with rfl|m
  ·exact⟨i,rfl⟩
  ·exact k e m
theorem ma{l:List IE}(k:∀e∈l,∃i,e=.c i)(ν eV:Nat→Int):aQ ν l=aQ eV l∧(bk ν l→bk eV l):=by
 refine⟨?_,fun B e m=>?_⟩
 ·unfold aQ
  congr 1
  refine List.map_congr_left fun e m=>?_
  obtain⟨i,rfl⟩:=k e m
  rfl
 ·obtain⟨i,rfl⟩:=k e m
  exact B _ m
theorem LO{a b:Bool}(h:PE a b=true):a=b:=by cases a<;>cases b<;>first|rfl|injection h
structure Hj(C:Cx)(J σ':List Addr)(M M':Addr→Prop)(m:Nat)(π:Nat→Nat):Prop where
 at_:∀j a,j<m→J[π j]?=some a→σ'[j]?=some a
 less:∀a,M' a→M a
theorem LP(v:AV):zf [v=.none,v=.bool (wA v).b,v=.int (wA v).i,v=.str (wA v).s,v=.bytes (wA v).y,v=.t (wA v).t,v=.dW (wA v).d,v=.ref (wA v).r,v=.fn (wA v).r,v=.cls (wA v).r,v=.bi (wA v).r,True,True,v=.mj (wA v).r] v.ctorIdx:=by
 cases v<;>first|exact rfl|exact trivial
theorem gL{v:AV}(h:Nat.beq k v.ctorIdx=true):zf [v=.none,v=.bool (wA v).b,v=.int (wA v).i,v=.str (wA v).s,v=.bytes (wA v).y,v=.t (wA v).t,v=.dW (wA v).d,v=.ref (wA v).r,v=.fn (wA v).r,v=.cls (wA v).r,v=.bi (wA v).r,True,True,v=.mj (wA v).r] k:=al_beq h▸LP v
theorem dC{o:Option α}{g:α→Bool}(h:kQ o g=true):∃a,o=some a∧g a=true:=by
 cases o with
 |none=>injection h
 |some a=>exact⟨a,rfl,h⟩
theorem yy{f:AV→AV→Bool}(H:∀(a b:AV)(v:Value),f a b=true→ao C J M h b v→ao (C.re ν nf f0 U) σ' M' h a v){x:List AV}:∀{y:List AV}{vs:List Value},allR f x y=true→ay C J M h y vs→ay (C.re ν nf f0 U) σ' M' h x vs:=by
 induction x with
 |nil=>intro y vs q W;cases fP q;exact W.nl▸.nil
 |cons a x ih=>
  intro y vs q W;obtain⟨b,y,rfl,q1,q2⟩:=lO q
  exact W.oI fun v Y W1 W2=>.cons (H a b v q1 W1) (ih q2 W2)
theorem m6{a b:AV}(e:a=b)(V:ao C J M h a v):ao C J M h b v:=e▸V
theorem qS(X:Hj C J σ' M M' m π):∀(n:Nat)(a b:AV)(v:Value),xC m π n a b=true→ao C J M h b v→ao (C.re ν nf f0 U) σ' M' h a v:=by
 intro n
 induction n with
 |zero=>intro a b v e;injection e
 |succ n ih=>
  intro a b v e V;refine aw (ae e:) fun t e=>?_
  have t:=gL t
  cases a with
  |none=>cases (m6 (b:=.none) t V).inv;exact .none
  |bool x=>
   have V:=(m6 (b:=.bool (wA b).b) t V).inv
   rw [show v=_ from V,←LO e];exact .bool _
  |int x=>
   obtain⟨i,rfl,q⟩:=vO e
   obtain⟨t,rfl⟩:=(m6 (b:=.int (wA b).i) t V).inv
   exact .int _ _ t (by rw [q];rfl)
  |str x=>
   obtain⟨t,rfl⟩:=(m6 (b:=.str (wA b).s) t V).inv
   rw [←kc e];exact .str _ _
  |bytes x=>
   refine aw (yb e:) fun q k=>?_
   obtain⟨B,t,rfl⟩:=(m6 (b:=.bytes (wA b).y) t V).inv
   rw [←q]at B⊢;refine aw (ma k C.ν ν:) fun k1 k2=>?_
   rw [k1];exact .bytes _ t (k2 B)
  |t x=>
   obtain⟨a,vs,k,rfl,h1,h2,h3⟩:=(m6 (b:=.t (wA b).t) t V).inv
   exact .t _ a vs k (fun q=>h1 (X.less _ q)) h2 (yy ih e h3)
  |dW x=>
   obtain⟨a,es,k,rfl,h1,h2,h3,h4⟩:=(m6 (b:=.dW (wA b).d) t V).inv
   rw [fP (ae e).2]at h4;rw [fP (ae e).1];rw [h4.nl]at h3;exact .dW _ a _ k (fun q=>h1 (X.less _ q)) h2 h3 .nil
  |ref i=>
   obtain⟨a,rfl,h1⟩:=(m6 (b:=.ref (wA b).r) t V).inv
   exact .ref _ a (X.at_ _ _ (al_ble (ae e).1) (by rw [al_beq (ae e).2];exact h1))
  |fn i=>exact(ao.inv (al_beq e▸m6 (b:=.fn (wA b).r) t V:ao C J M h (.fn i) v):v=_)▸.fn i
  |cls i=>exact(ao.inv (al_beq e▸m6 (b:=.cls (wA b).r) t V:ao C J M h (.cls i) v):v=_)▸.cls i
  |bi i=>exact(ao.inv (al_beq e▸m6 (b:=.bi (wA b).r) t V:ao C J M h (.bi i) v):v=_)▸.bi i
  |_=>injection e
theorem xB(X:Hj C J σ' M M' m π)(n:Nat)(x y:List AV)(vs:List Value)(q:xC.Fg m π n x y=true)(W:ay C J M h y vs):ay (C.re ν nf f0 U) σ' M' h x vs:=yy (qS X n) q W
theorem J2(X:Hj C J σ' M M' m π)(n:Nat):∀(x y:List (Nat×AV))(es:List DictEntry),TM m π n x y=true→bY C J M h y es→bY (C.re ν nf f0 U) σ' M' h x es:=by
 intro x
 induction x with
 |nil=>intro y vs q W;cases fP q;exact W.nl▸.nil
 |cons a x ih=>
  intro y vs q W;obtain⟨b,y,rfl,q1,q2⟩:=lO q
  exact W.oI fun v t es W1 W2=>al_beq (ae q1).1▸.cons (x:=a.1) (a:=a.2) (qS X n _ _ _ (ae q1).2 W1) (ih y _ q2 W2)
theorem vp(X:Hj C J σ' M M' m π){a b:AO}{x:Addr}(e:H0 m π a b=true)(O:cF C J M h b x):cF (C.re ν nf f0 U) σ' M' h a x:=by
 cases a with
 |list _=>cases b with
  |list _=>exact d9 O.listI fun vs n h1 h2=>.list _ _ vs n h1 (xB X _ _ _ _ e h2)
  |_=>injection e
 |inst _ _=>cases b with
  |inst _ _=>exact aC O.instI fun dx h1 h2=>al_beq (ae e).1▸.inst _ _ _ dx h1 (X.at_ _ _ (al_ble (ae (ae e).2).1) (al_beq (ae (ae e).2).2▸h2))
  |_=>injection e
 |ns _=>cases b with
  |ns _=>exact d9 O.Qm fun es n h1 h2=>.ns _ _ es n h1 (J2 X _ _ _ _ e h2)
  |_=>injection e
 |cb _=>cases b with
  |cb _=>
   obtain⟨rfl,k⟩:=yb e
   exact aw (ma k C.ν ν) fun k1 k2=>.cb _ _ (k1▸O.jt.1) (k2 O.jt.2)
  |_=>injection e
noncomputable def bR(J:List Addr)(π:Nat→Nat)(m:Nat):List Addr:=(List.range m).map fun j=>J.getD (π j) 0
theorem kK{j:Nat}(hj:j<m):(bR J π m)[j]?=some (J.getD (π j) 0):=by
 unfold bR;rw [List.getElem?_map,List.getElem?_range hj];rfl
theorem nW{i:Nat}(h:i<J.length):J[i]?=some (J.getD i 0):=by
 rw [List.getD_eq_getElem?_getD,List.getElem?_eq_getElem h];rfl
def rQ(M:Addr→Prop)(l:List Addr)(nf:Nat)(a:Addr):Prop:=M a∧∀i,i<nf→l[i]?≠some a
def I1(Z:Addr→Prop)(J l:List Addr)(a:Addr):Prop:=Z a∨(a∈J∧a∉l)
theorem cK{s:AS}(S:aq C J M s h)(dF:∀j,j<m→π j<s.n){i:Nat}{a:Addr}(q:(bR J π m)[i]?=some a):J[π i]?=some a∧i<m:=by
 have hi:i<m:=by
  have:=(List.getElem?_eq_some_iff.mp q).1
  unfold bR at this
  rwa[List.length_map,List.length_range]at this
 exact⟨(nW (S.len▸dF i hi)).trans ((kK hi).symm.trans q),hi⟩
theorem i8{s:AS}(S:aq C J M s h)(dF:∀j,j<m→π j<s.n){a:Addr}(x:a∈bR J π m):a∈J:=
 (List.getElem?_of_mem x).elim fun Y q=>al_mem (cK S dF q).1
theorem nr:Hj C J (bR J π m) M (rQ M (bR J π m) nf) m π:=⟨fun j a hj q=>(kK hj).trans (congrArg some (by rw [List.getD_eq_getElem?_getD,q];rfl)),fun a x=>x.1⟩
theorem E9{s:AS}(S:aq C J M s h)(dF:∀j,j<m→π j<s.n)(hinj:∀i j,i<m→j<m→π i=π j→i=j):(bR J π m).Nodup:=by
 unfold bR;refine List.pairwise_map.mpr (List.Pairwise.imp_of_mem ?_ List.nodup_range);intro i j hi hj hne e;have hi:=List.mem_range.mp hi
 have hj:=List.mem_range.mp hj
 exact hne (hinj i j hi hj (S.inj (nW (S.len▸dF i hi)) ((nW (S.len▸dF j hj)).trans (congrArg some e.symm))))
theorem aq.dS{s:AS}(S:aq C J M s h){s':AS}(hm:s'.n≤1000000)(hnf:nf≤s'.n)(dF:∀j,j<s'.n→π j<s.n)(hinj:∀i j,i<s'.n→j<s'.n→π i=π j→i=j)
  (hf:∀i,i<nf→s'.hp.get i=f0.get i)(hmut:∀i,nf≤i→i<s'.n→C.nf≤π i)(hlow:∀i o,s'.hp.get i=some o→i<s'.n)
  (hobj:∀i o,s'.hp.get i=some o→(∀(σ':List Addr)(M':Addr→Prop),Hj C J σ' M M' s'.n π→cF (C.re ν nf f0 U) σ' M' h o (J.getD (π i) 0)))(hrg:bX ν s'.rg):
  aq (C.re ν nf f0 U) (bR J π s'.n) (rQ M (bR J π s'.n) nf) s' h:=by
 have len:(bR J π s'.n).length=s'.n:=by unfold bR;rw [List.length_map,List.length_range]
 have nm:∀p∈C.tabs,∀i:Nat,(bR J π s'.n)[i]?≠some p.2:=fun p hp i e=>(S.tab p hp).2 (al_mem (cK S dF e).1)
 refine⟨len.symm,hm,⟨hnf,hf⟩,E9 S dF hinj,hlow,fun i o a e q=>?_,fun i a q hi=>⟨S.je (π i) a (cK S dF q).1 (hmut i hi (cK S dF q).2),fun j hj e=>?_⟩,fun i a q hi x=>x.2 i hi q,fun a x=>S.there a (i8 S dF x),fun a x=>S.mlt a x.1,fun b o e=>?_,fun p hp=>⟨?_,fun x=>(List.getElem?_of_mem x).elim (nm p hp)⟩,hrg⟩
 ·rw [kK (cK S dF q).2]at q
  exact al_inj q▸hobj i o e _ _ nr
 ·have hi:nf≤i:=hi
  have:=hinj i j (cK S dF q).2 (cK S dF e).2 (S.inj (cK S dF q).1 (cK S dF e).1)
  lia
 ·exact⟨fun x=>(S.base b o e).1 x.1,(S.base b o e).2⟩
 ·refine Ay (S.tab p hp).1 fun ps a1 a2 a3 a4=>?_
  refine⟨ps,⟨a1,fun i Y=>nm p hp i⟩,a2,a3,fun pos cv e=>?_⟩
  refine uT (a4 pos cv e:) fun c oc vs t e1 e2 e3 e4=>?_
  exact⟨c,oc,vs,t,e1,fun x=>e2 x.1,e3,e4⟩
theorem bZ.dS{Z:Addr→Prop}{s:AS}(S:aq C J M s h)(z:bZ C Z J h)(dF:∀j,j<m→π j<s.n):bZ (C.re ν nf f0 U) (I1 Z J (bR J π m)) (bR J π m) h:=fun a q=>
 q.elim (fun q=>⟨(z a q).1,fun x=>(z a q).2.1 (i8 S dF x),(z a q).2.2⟩) fun q=>⟨S.there a q.1,q.2,fun p hp e=>(S.tab p hp).2 (e▸q.1)⟩
end
end
end Mine.Internal
namespace Mine.Internal
open PySem PySem.W PyProof.Rows PySem.SeqAt
open PySem.Sem (wp)
noncomputable section
variable{M₀ Z₀:Addr→Prop}
noncomputable def md{α:Type}(p:α→Bool):aH α→Bool
 |.ok a=>p a
 |.fork _ _ _ t f=>match md p t with|true=>md p f|false=>false
 |.bad _=>false
set_option tactic.hygienic true in
theorem eT{α:Type}{p:α→Bool}(ν:Nat→Int):∀{r:aH α},md p r=true→∃a,r.leaf ν=some a∧p a=true
 |.ok a,h=>⟨a,rfl,h⟩
 |.fork k a b t f,h=>by
  unfold md at h;split at h
  ·rename_i q
   refine aC (eT ν q:) fun x e1 p1=>?_
   refine aC (eT ν h:) fun y e2 p2=>?_
   unfold aH.leaf;cases dX ν k a b with
   |true=>exact⟨x,e1,p1⟩
   |false=>exact⟨y,e2,p2⟩
  ·injection h
 |.bad _,h=>by injection h
theorem kA{M:Model}{Γ:Ctx}{env:PySem.Env}{ys:List Stmt}{Q:Flow→Pos→Shared→Prop}{E:Value→Pos→Shared→Prop}:∀(xs:List Stmt)(p:Pos)(s:Shared),
  wp M Γ (execs xs env) (fun f p' s'=>match f with|.next=>wp M Γ (execs ys env) Q E p' s'|f=>Q f p' s') E p s→wp M Γ (execs (xs++ys) env) Q E p s
 |[],_,_,h=>h
 |x::xs,p,s,h=>by
  rw [List.cons_append,execs_cons,Sem.wp_bind'];rw [execs_cons,Sem.wp_bind']at h;refine Sem.wp_mono M Γ _ (fun f p' s' h'=>?_) (fun Y Y Y h'=>h') _ _ h
  cases f<;>first|exact kA xs p' s' h'|exact h'
theorem fu{M:Model}{A:Around}{env:PySem.Env}{xs ys:List Stmt}{Q:Flow→Shared→Prop}{E:Value→Shared→Prop}{s:Shared}
  (h:ab M A (execs xs env) (fun f s'=>match f with|.next=>ab M A (execs ys env) Q E s'|f=>Q f s') E s):ab M A (execs (xs++ys) env) Q E s:=fun Γ p ij hc=>by
 refine kA xs p s (Sem.wp_mono M Γ _ (fun f p' s' h'=>?_) (fun Y Y Y h'=>h') _ _ (h Γ p ij hc))
 cases f<;>first|exact h' Γ p' ij hc|exact h'
theorem cQ.split{C:Cx}{kd:Kd}{cs:Bool}{m l:List CS}:∀{xs:List Stmt},cQ C kd cs (l++m) xs→∃ys zs,xs=ys++zs∧cQ C kd cs l ys∧cQ C kd cs m zs:=by
 induction l with
 |nil=>exact fun{xs} h=>⟨[],xs,rfl,.nil,h⟩
 |cons c l ih=>exact fun h=>jP (b7.un h) fun x r q a b=>jP (ih b) fun ys zs e h1 h2=>⟨x::ys,zs,by rw [q,e];rfl,.cons a h1,h2⟩
section
variable{C:Cx}{ν:Nat→Int}{nf:Nat}{f0:aE AO}{U:Nat→Value}{J σ' yP:List Addr}{M M' Hl Z Z' own:Addr→Prop}{h h':Heap}{kd:Kd}{cs:Bool}{env:PySem.Env}{ρ ρ':Env}
theorem cW.dS{s:AS}(S:aq C J M s h)(F:cW C Z J M own kd cs env ρ h)(hm:∀a,M' a→M a)(hM:∀a,own a→M' a)(hz:∀a,Z a→Z' a)(hZ:∀a,Z' a→Z a∨a∈J)(CR:∀a,a∈σ'→a∈J)
  (hv:∀x v',az ρ' x=some v'→gM (kd.k (C.nm x))→∃rv,dy (fun a=>Z a∨own a) M env h (C.nm x) rv∧ao (C.re ν nf f0 U) σ' M' h v' rv):cW (C.re ν nf f0 U) Z' σ' M' own kd cs env ρ' h:=by
 refine⟨⟨F.f.glob,F.f.iO,F.f.kind,F.f.kinds,F.f.DK,F.f.wK,fun c q=>?_,fun x v' e k=>?_⟩,fun a q=>⟨hM a q,fun z=>?_⟩,fun a q=>?_,F.lo,F.ns,F.ce,F.lc,F.ap,F.fN⟩
 ·refine dz (F.f.code c q:) fun a1 a2 a3=>?_
  exact⟨a1,a2,fun x a q z=>a3 x a q (hm a z)⟩
 ·refine aC (hv x v' e k:) fun rv R V=>?_
  refine⟨rv,?_,V⟩
  cases R with
  |loc m a b c d=>exact .loc m a (b.imp (hz _) id) c d
  |cell c o a b e f g=>exact .cell c o a b (e.imp (fun z=>z.imp (hz _) id) fun n z=>n (hm _ z)) f g
 ·rcases hZ a z with z|z
  ·exact(F.eE a q).2 z
  ·exact(F.gh a q).2.1 z
 ·refine dz (F.gh a q:) fun a1 a2 a3=>?_
  exact⟨a1,fun m=>a2 (CR a m),a3⟩
structure Way(h₀:Heap)(M₀ Z₀:Addr→Prop)(J:List Addr)(M Z:Addr→Prop)(h:Heap):Prop where
 more:∀a,M₀ a→M a
 fresh:∀a,M a→M₀ a∨h₀.get? a=none
 keep:∀a,Z₀ a→Z a
 ext:Ext (fun a=>M₀ a∧¬Z₀ a) h₀ h
 new:∀a,a∈J→h₀.get? a=none
theorem Way.start(h₀:Heap)(M₀ Z₀:Addr→Prop):Way h₀ M₀ Z₀ [] M₀ Z₀ h₀:=⟨fun Y x=>x,fun Y x=>.inl x,fun Y x=>x,Ext.refl _ _,fun Y m=>nomatch m⟩
theorem Way.go{h₀:Heap}(W:Way h₀ M₀ Z₀ J M Z h)(G:aJ Z J M h σ' M' h'):Way h₀ M₀ Z₀ σ' M' Z h':=by
 obtain⟨l,rfl,f⟩:=G.pre
 refine⟨fun a x=>G.more a (W.more a x),fun a x=>?_,W.keep,⟨fun b o e=>?_,fun b o hn e=>?_⟩,fun a m=>?_⟩
 ·rcases G.fresh a x with x|x
  ·exact W.fresh a x
  ·exact .inr (W.ext.dead x)
 ·refine dm (W.ext.live b o e:) fun o' e'=>?_
  exact G.ext.live b o' e'
 ·refine G.ext.keep b o (fun q=>?_) (W.ext.keep b o hn e)
  rcases W.fresh b q.1 with x|x
  ·exact hn ⟨x,fun z=>q.2 (W.keep b z)⟩
  ·exact aM e x
 ·rcases List.mem_append.mp m with m|m
  ·exact W.new a m
  ·exact W.ext.dead (f a m)
theorem Way.dS{h₀:Heap}(W:Way h₀ M₀ Z₀ J M Z h)(hl:∀a,M₀ a→∃o,h₀.get? a=some o)(hm:∀a,M' a→M a)(hM:∀a,M a→M' a∨a∈J)(hz:∀a,Z a→Z' a)(CR:∀a,a∈σ'→a∈J):Way h₀ M₀ Z₀ σ' M' Z' h:=
 ⟨fun a x=>(hM a (W.more a x)).elim id fun m=>let⟨_,e⟩:=hl a x;(aM e (W.new a m)).elim,fun a x=>W.fresh a (hm a x),fun a x=>hz a (W.keep a x),W.ext,fun a m=>W.new a (CR a m)⟩
theorem cW.j7{s:AS}{π:Nat→Nat}{m:Nat}(S:aq C J M s h)(F:cW C Z J M own kd cs env ρ h)(dF:∀j,j<m→π j<s.n)
  (hv:∀x v',az ρ' x=some v'→gM (kd.k (C.nm x))→∃rv,dy (fun a=>Z a∨own a) M env h (C.nm x) rv∧ao (C.re ν nf f0 U) (bR J π m) (rQ M (bR J π m) nf) h v' rv):
  cW (C.re ν nf f0 U) (I1 Z J (bR J π m)) (bR J π m) (rQ M (bR J π m) nf) own kd cs env ρ' h:=
 cW.dS S F (fun a x=>x.1) (fun a x=>⟨(F.eE a x).1,fun i Y q=>(F.gh a x).2.1 (al_mem (cK S dF q).1)⟩) (fun a x=>.inl x) (fun a x=>x.imp id fun x=>x.1) (fun a x=>i8 S dF x) hv
theorem cW.tell{x:Nat}{v:AV}(F:cW C Z J M own kd cs env ρ h)(g:az ρ x=some v){p:Value→Prop}(hv:∀rv,ao C J M h v rv→p rv)(k:gM (kd.k (C.nm x))):∃rv,dy (fun a=>Z a∨own a) M env h (C.nm x) rv∧p rv:=
 (F.f.vars x v g k).elim fun rv x=>⟨rv,x.1,hv rv x.2⟩
theorem Way.j7{h₀:Heap}{s:AS}{π:Nat→Nat}{m:Nat}(W:Way h₀ M₀ Z₀ J M Z h)(S:aq C J M s h)(dF:∀j,j<m→π j<s.n)(hl:∀a,M₀ a→∃o,h₀.get? a=some o):Way h₀ M₀ Z₀ (bR J π m) (rQ M (bR J π m) nf) (I1 Z J (bR J π m)) h:=
 Way.dS W hl (fun a x=>x.1) (fun a x=>(Classical.em (a∈bR J π m)).elim (fun q=>.inr (i8 S dF q)) fun q=>.inl ⟨x,fun i Y e=>q (al_mem e)⟩) (fun a x=>.inl x) (fun a x=>i8 S dF x)
noncomputable def lT(p:Nat→AV→Prop):Env→Prop
 |[]=>True
 |a::r=>p a.1 a.2∧lT p r
theorem lT.at_{p:Nat→AV→Prop}{ρ:Env}:lT p ρ→∀{x:Nat}{v:AV},az ρ x=some v→p x v:=by
 induction ρ with
 |nil=>exact fun _{x v}(h:none=some v)=>no h
 |cons a r ih=>
  intro H x v h;unfold az at h;cases q:Nat.beq a.1 x with
  |true=>rw [q]at h;exact o7 q▸al_inj h▸H.1
  |false=>rw [q]at h;exact ih H.2 h
theorem qU{t:aE AO}{k i:Nat}{m0 o:AO}(hk:k<2^40 - 1)(q:(aE.put 40 t k m0).get i=some o):(i=k∧o=m0)∨t.get i=some o:=by
 by_cases hi:k=i
 ·subst hi;rw [AS.b8 _ _ _ _ hk]at q;exact .inl ⟨rfl,(al_inj q).symm⟩
 ·rw [AS.br _ _ _ _ _ hi]at q;exact .inr q
def MO(e:IE)(v:AV):Bool:=Nat.beq 2 v.ctorIdx&&fB (wA v).i e
def JF(i:Nat)(v:AV):Bool:=Nat.beq 7 v.ctorIdx&&Nat.beq i (wA v).r
def MN(i:Nat)(v:AV):Bool:=Nat.beq 13 v.ctorIdx&&Nat.beq i (wA v).r
theorem Bo{e:IE}{v:AV}(h:MO e v=true):∃x,v=.int x∧fB x e=true:=⟨_,gL (ae h).1,(ae h).2⟩
theorem vd{i:Nat}{v:AV}(h:JF i v=true):v=.ref i:=(gL (k:=7) (ae h).1:v=.ref (wA v).r).trans (congrArg AV.ref (al_beq (ae h).2).symm)
theorem Bn{i:Nat}{v:AV}(h:MN i v=true):v=.mj i:=(gL (k:=13) (ae h).1:v=.mj (wA v).r).trans (congrArg AV.mj (al_beq (ae h).2).symm)
noncomputable def nx(q:Env→AS→Bool)(p:Fl×Env×AS):Bool:=match p.1 with|.nx=>q p.2.1 p.2.2|.rt _=>false
theorem B0{q:Env→AS→Bool}{p:Fl×Env×AS}(h:nx q p=true):p.1=.nx∧q p.2.1 p.2.2=true:=by
 obtain⟨f,ρ,s⟩:=p
 cases f with
 |nx=>exact⟨rfl,h⟩
 |rt v=>exact Bool.noConfusion h
theorem rA{f:Fl}{fl:Flow}(e:f=.nx)(r:uO C J M h f fl):fl=.next:=(e▸r:uO C J M h .nx fl)
theorem kL{C C':Cx}{J σ':List Addr}{M M':Addr→Prop}{h h':Heap}{x x':IE}{v:Value}(q:x'.eval C'.ν=x.eval C.ν)(V:ao C J M h (.int x) v):ao C' σ' M' h' (.int x') v:=
 V.inv.elim fun t e=>e▸.int _ _ t q
theorem aq.back{C':Cx}{s cy gA:AS}(hC:C'.hb=C.hb∧C'.tabs=C.tabs∧C'.tD=C.tD)(S:aq C J M s h)(G:aJ Z' σ' M' h yP Hl h')(uJ:aq C' yP Hl gA h')(hm:∀a,M' a→M a)(hM:∀a,M a→M' a)
  (e1:cy.n=s.n)(e2:cy.rg=s.rg)(hf:∀i,i<C.nf→cy.hp.get i=C.f0.get i)(hlow:∀i o,cy.hp.get i=some o→i<cy.n)(hobj:∀i o a,cy.hp.get i=some o→J[i]?=some a→cF C J (fun a=>M a∨(h.get? a=none∧Hl a)) h' o a):
  aq C J (fun a=>M a∨(h.get? a=none∧Hl a)) cy h':=by
 refine⟨e1▸S.len,e1▸S.lim,⟨e1▸S.gC.1,hf⟩,S.nodup,hlow,hobj,fun i a q hi=>.inl (S.je i a q hi),fun i a q hi x=>?_,fun a m=>?_,fun a x=>?_,fun b o e=>?_,fun p hp=>?_,e2▸S.rg⟩
 ·rcases x with x|x
  ·exact S.ye i a q hi x
  ·refine dm (S.there a (al_mem q):) fun o e=>?_
   exact aM e x.1
 ·refine dm (S.there a m:) fun o e=>?_
  exact G.ext.live a o e
 ·rcases x with x|x
  ·refine dm (S.mlt a x:) fun o e=>?_
   exact G.ext.live a o e
  ·exact uJ.mlt a x.2
 ·refine aw (S.base b o e:) fun n y=>?_
  refine⟨fun x=>x.elim n fun x=>aM y x.1,(uJ.base b o (hC.1▸e)).2⟩
 ·obtain⟨⟨ps,a1,a2,a3,a4⟩,a5⟩:=uJ.tab p (hC.2.1▸hp)
  obtain⟨⟨Xh,b1,b2,_⟩,b5⟩:=S.tab p hp
  refine⟨⟨ps,.inl b1,a2,a3,fun pos cv e=>?_⟩,b5⟩
  refine ND (a4 pos cv e:) fun c oc vs t f1 f2 f3 f4 f5=>?_
  exact⟨c,oc,vs,t,f1,fun x=>x.elim (fun x=>f2 (G.more c (hM c x))) fun x=>f2 x.2,f3,f4,by rw [←hC.2.2];exact f5⟩
theorem aJ.yw(hm:∀a,M' a→M a)(hz:∀a,M' a→Z a→Z' a)(G:aJ Z' σ' M' h yP Hl h'):aJ Z J M h J (fun a=>M a∨(h.get? a=none∧Hl a)) h':=
 ⟨⟨[],by simp,fun Y m=>nomatch m⟩,⟨G.ext.live,fun b o hn e=>G.ext.keep b o (fun q=>hn ⟨hm b q.1,fun z=>q.2 (hz b q.1 z)⟩) e⟩,fun a x=>.inl x,fun a x=>x.elim .inl fun x=>.inr x.1⟩
end
end
end Mine.Internal
namespace Mine.Internal
open PySem PySem.W PyProof.Rows PySem.SeqAt
noncomputable section
variable{C:Cx}{E:Value→Shared→Prop}{M M' M₀ aN Z Z₀:Addr→Prop}{Q:Flow→Shared→Prop}{U:Nat→Value}{W d0 d1:Int}{b:List IE}{h h₁:Heap}{i:Nat}{is:List Int}{la:Addr}{s ag:AS}{st:Shared}{v:AV}{w:World}{ν:Nat→Int}{J σ' aA:List Addr}
noncomputable def Kq(d:Option Int)(j:Nat):IE:=match d,Nat.beq j 5 with|some i,true=>.c i|_,_=>.v j
def memD(d:Option Int):List IE:=(List.range 29).map (Kq d)
def sD(f0:aE AO)(m:Nat)(d:Option Int):AS:=⟨aE.put 40 f0 m (.cb (memD d)),m+1,List.replicate 29 (0,255)⟩
noncomputable def l4:List IE→List IE→Bool
 |[],[]=>true
 |a::x,b::y=>match fB a b with|true=>l4 x y|false=>false
 |_,_=>false
def Me(P:Pg)(N:oO)(f0:aE AO)(m fuel dep:Nat)(e:SE):Bool:=match(run P N fuel dep).ca (.fn e.k) e.as (sD f0 m e.d)with
 |.ok (v,s)=>xC (m+1) id 20 e.v v&&(match s.hp.get m with|some (.cb l)=>l4 l (memD e.d)|_=>false)
 |_=>false
set_option tactic.hygienic true in
theorem kR(ν:Nat→Int):∀{a b:List IE},l4 a b=true→a.map (fun e=>e.eval ν)=b.map (fun e=>e.eval ν)
 |[],[],_=>rfl
 |a::x,b::y,h=>by
  unfold l4 at h;split at h
  ·rename_i q;rw [List.map_cons,List.map_cons,eG ν q,kR ν h]
  ·injection h
 |[],_::_,h=>by injection h
 |_::_,[],h=>by injection h
theorem gK{eV:Nat→Int}{a:List IE}(h:a.map (fun e=>e.eval ν)=b.map (fun e=>e.eval eV)):aQ ν a=aQ eV b∧(bk eV b→bk ν a):=by
 refine⟨?_,fun B e m=>?_⟩
 ·unfold aQ cj
  congr 1
  have:=congrArg (List.map fun i:Int=>UInt8.ofNat i.toNat) h
  rw [List.map_map,List.map_map]at this;exact this
 ·have:e.eval ν∈b.map (fun e=>e.eval eV):=h▸List.mem_map.mpr ⟨e,m,rfl⟩
  refine aC (List.mem_map.mp this:) fun x hx q=>?_
  rw [←q];exact B x hx
set_option tactic.hygienic true in
theorem n3{m k:Nat}{as:List AV}:∀{l:List SE},n4 m b k as l=some v→∃e∈l,e.k=k∧Gy e.d b=true∧xC.Fg m id 20 e.as as=true∧e.v=v
 |[],h=>by injection h
 |e::r,h=>by
  unfold n4 at h;split at h
  ·rename_i q
   obtain⟨q1,q⟩:=Bool.and_eq_true_iff.mp q
   obtain⟨q2,q3⟩:=Bool.and_eq_true_iff.mp q
   injection h with h;subst h;exact⟨e,al_self,al_beq q1,q2,q3,rfl⟩
  ·refine aC (n3 h:) fun x hx y=>?_
   exact⟨x,al_con _ hx,y⟩
noncomputable def fh(ν:Nat→Int)(b:List IE)(j:Nat):Int:=(b.map fun e=>e.eval ν).getD j 0
set_option tactic.hygienic true in
theorem zm(hl:b.length=29){d:Option Int}(hd:Gy d b=true):(memD d).map (fun e=>e.eval (fh ν b))=b.map (fun e=>e.eval ν):=by
 apply List.ext_getElem?
 intro j;unfold memD;rw [List.map_map,List.getElem?_map,List.getElem?_map];rcases Nat.lt_or_ge j 29 with hj|hj
 ·rw [List.getElem?_range hj,List.getElem?_eq_getElem (by lia)]
  show some (IE.eval (fh ν b) (Kq d j))=some (b[j].eval ν);have hv:fh ν b j=b[j].eval ν:=by
   unfold fh;rw [List.getD_eq_getElem?_getD,List.getElem?_map,List.getElem?_eq_getElem (by lia)];rfl
  congr 1
  unfold Kq;split
  ·rename_i i q
   have Wu:j=5:=al_beq q
   subst Wu;unfold Gy at hd;simp only at hd;have:b.drop 5=b[5]::b.drop 6:=List.drop_eq_getElem_cons (by lia)
   rw [this]at hd;refine aC (vO hd:) fun i' e1 e2=>?_
   injection e1 with e1;subst e1;rw [e2];rfl
  ·exact hv
 ·rw [List.getElem?_eq_none (by rw [List.length_range];lia),List.getElem?_eq_none (by lia)];rfl
noncomputable def mO(ν:Nat→Int):Nat→Rg→Prop
 |_,[]=>True
 |k,p::r=>(p.1≤ν k∧ν k≤p.2)∧mO ν (k+1) r
theorem mO.at_{l:Rg}:∀{k:Nat},mO ν k l→∀{j:Nat}{p:Int×Int},l[j]?=some p→p.1≤ν (k+j)∧ν (k+j)≤p.2:=by
 induction l with
 |nil=>exact fun{k} _{j p}(h:none=some p)=>no h
 |cons a l ih=>
  intro k H j p h;cases j with
  |zero=>exact al_inj h▸H.1
  |succ j=>exact Nat.add_right_comm k 1 j▸ih H.2 h
theorem mO.ok{l:Rg}(H:mO ν 0 l):bX ν l:=fun k Y h=>Nat.zero_add k▸H.at_ h
theorem mO.app{l m:Rg}:∀{k:Nat},mO ν k l→mO ν (k+l.length) m→mO ν k (l++m):=by
 induction l with
 |nil=>exact fun Y h=>h
 |cons a l ih=>exact fun{k} H h=>⟨H.1,ih H.2 ((Nat.succ_add_eq_add_succ k l.length).symm▸h:mO ν (k+1+l.length) m)⟩
theorem mO.rep{p:Int×Int}(n:Nat):∀{k:Nat},(∀j,k≤j→j<k+n→p.1≤ν j∧ν j≤p.2)→mO ν k (List.replicate n p):=by
 induction n with
 |zero=>exact fun Y=>trivial
 |succ n ih=>exact fun{k} h=>⟨h k (Nat.le_refl k) (Nat.lt_add_of_pos_right (Nat.succ_pos n)),ih fun j a b=>h j (Nat.le_of_succ_le a) (Nat.succ_add_eq_add_succ k n▸b)⟩
theorem mO.map{l:List Int}:∀{k:Nat},(∀j m,l[j]?=some m→0≤ν (k+j)∧ν (k+j)≤m - 1)→mO ν k (l.map fun m=>(0,m - 1)):=by
 induction l with
 |nil=>exact fun Y=>trivial
 |cons a l ih=>exact fun{k} h=>⟨h 0 a rfl,ih fun j m q=>Nat.add_right_comm k 1 j▸h (j+1) m q⟩
def MM(l:List IE)(v:AV):Bool:=Nat.beq 4 v.ctorIdx&&l4 (wA v).y l
theorem Bm{l:List IE}(h:MM l v=true):∃x,v=.bytes x∧l4 x l=true:=⟨_,gL (ae h).1,(ae h).2⟩
theorem xA{C':Cx}{x l:List IE}{a:Addr}(O:cF C J M h (.cb x) a)(e:l.map (fun e=>e.eval C'.ν)=x.map (fun e=>e.eval C.ν)):cF C' σ' M' h (.cb l) a:=by
 exact aw (gK e) fun b1 b2=>.cb _ _ (b1.symm▸O.jt.1) (b2 O.jt.2)
theorem mM{x:List IE}{a:Addr}(O:cF C J M h (.cb x) a):h.get? a=some (cR (aQ C.ν x))∧bk C.ν x:=O.jt
theorem Cg(B:bk ν b)(j:Nat):0≤fh ν b j∧fh ν b j≤255:=by
 unfold fh;rw [List.getD_eq_getElem?_getD,List.getElem?_map];cases q:b[j]? with
 |none=>exact⟨Int.le_refl 0,(by decide:(0:Int)≤255)⟩
 |some x=>
  have:=B x (al_mem q)
  exact⟨this.1,Int.le_of_lt_add_one this.2⟩
set_option tactic.hygienic true in
theorem EY{tab:List SE}{m k:Nat}{as:List AV}{r:aH (AV×AS)}(h:MW tab m k as s=some r):∃b v,s.hp.get m=some (.cb b)∧b.length=29∧n4 (m+1) b k as tab=some v∧r=.ok (v,s):=by
 unfold MW at h;split at h
 ·injection h
 split at h
 case h_2=>injection h
 rename_i b hb
 split at h
 case h_2=>injection h
 rename_i hl
 split at h
 case h_2=>injection h
 rename_i v hv
 exact⟨b,v,hb,al_beq hl,hv,(al_inj h).symm⟩
set_option tactic.hygienic true in
theorem E8{P:Pg}{N:oO}{f0:aE AO}{m fuel dep:Nat}{e:SE}(h:Me P N f0 m fuel dep e=true):∃v s l,(run P N fuel dep).ca (.fn e.k) e.as (sD f0 m e.d)=.ok (v,s)∧xC (m+1) id 20 e.v v=true∧s.hp.get m=some (.cb l)∧l4 l (memD e.d)=true:=by
 unfold Me at h;split at h
 case h_2=>injection h
 rename_i v s hr
 refine aw (ae h) fun hv h=>?_
 split at h
 case h_2=>injection h
 exact⟨v,s,_,hr,hv,‹_›,h⟩
section
variable{P:Pg}{N:oO}
theorem MV{m:Nat}(hm:m<1000)(hnf:C.nf=m)(R5:∀i o,C.f0.get i=some o→i<m∧H0 (m+1) id o o=true)(S:aq C J M s h)(hb:s.hp.get m=some (.cb b)){d:Option Int}(mD:(memD d).map (fun e=>e.eval (fh C.ν b))=b.map (fun e=>e.eval C.ν))(dF:∀j,j<m+1→id j<s.n):
  aq (C.re (fh C.ν b) C.nf C.f0 C.U) (bR J id (m+1)) (rQ M (bR J id (m+1)) C.nf) (sD C.f0 m d) h:=by
 have Om:cF C J M h (.cb b) (J.getD m 0):=S.obj m _ _ hb (nW (S.len▸S.low m _ hb))
 have lo:∀i o,(sD C.f0 m d).hp.get i=some o→i<m+1∧∀(σ':List Addr)(M':Addr→Prop),Hj C J σ' M M' (m+1) id→cF (C.re (fh C.ν b) C.nf C.f0 C.U) σ' M' h o (J.getD i 0):=fun i o q=>
  (qU (Nat.lt_trans hm (by decide)) q).elim (fun q=>by rw [q.1,q.2];exact⟨Nat.lt_succ_self m,fun Y Y Y=>xA Om mD⟩) fun q=>have f:=R5 i o q;have hi:=Nat.lt_succ_of_lt f.1
   ⟨hi,fun Y Y X=>vp X f.2 (S.obj i o _ ((S.gC.2 i (hnf▸f.1)).trans q) (nW (S.len▸dF i hi)))⟩
 exact aq.dS (s':=sD C.f0 m d) (π:=id) S (Nat.le_trans hm (by decide)) (hnf▸Nat.le_succ m) dF (fun i j Y Y q=>q) (fun i hi=>AS.br C.f0 40 m i _ (Nat.ne_of_gt (hnf▸hi))) (fun i hi Y=>hi) (fun i o q=>(lo i o q).1) (fun i o q=>(lo i o q).2) (mO.ok (mO.rep 29 fun j Y Y=>Cg (mM Om).2 j))
theorem QZ{m:Nat}(hnf:C.nf=m)(S:aq C J M s st.heap)(hb:s.hp.get m=some (.cb b)){d:Option Int}(mD:(memD d).map (fun e=>e.eval (fh C.ν b))=b.map (fun e=>e.eval C.ν))(dF:∀j,j<m+1→id j<s.n)
  {v v':AV}{gA:AS}{l:List IE}(hv:xC (m+1) id 20 v v'=true)(hs:gA.hp.get m=some (.cb l))(hmem:l4 l (memD d)=true){Q:Value→Shared→Prop}(K:KV C Z J M st v s Q):
  KV (C.re (fh C.ν b) C.nf C.f0 C.U) (I1 Z J (bR J id (m+1))) (bR J id (m+1)) (rQ M (bR J id (m+1)) C.nf) st v' gA Q:=by
 intro aA aN h₁ tk rv G aD bV;refine aC (G.pre:) fun Cs q CU=>?_
 subst q;have hM:∀a,M a→rQ M (bR J id (m+1)) C.nf a:=fun a x=>⟨x,fun i hi q=>S.ye i a (cK S dF q).1 hi x⟩
 have Gf:aJ Z J M st.heap J (fun a=>M a∨(st.heap.get? a=none∧aN a)) h₁:=aJ.yw (fun a x=>x.1) (fun a Y x=>.inl x) G
 have len:(bR J id (m+1)).length=m+1:=by unfold bR;rw [List.length_map,List.length_range]
 have UG:∀{i:Nat},i<m+1→(bR J id (m+1)++Cs)[i]?=(bR J id (m+1))[i]?:=fun hi=>List.getElem?_append_left (len.symm▸hi)
 have ham:J[m]?=some (J.getD m 0):=nW (S.len▸S.low m _ hb)
 refine K J _ h₁ tk rv Gf (aq.back (C':=C.re (fh C.ν b) C.nf C.f0 C.U) ⟨rfl,rfl,rfl⟩ S G aD (fun a x=>x.1) hM rfl rfl S.gC.2 S.low fun i o a q1 q2=>(S.obj i o a q1 q2).chg Gf.chg fun x hx=>?_)
  (qS (ν:=C.ν) (nf:=C.nf) (f0:=C.f0) (U:=C.U) (⟨fun j a hj q=>(cK S dF ((UG hj).symm.trans q)).1,fun a x=>x.elim (fun x=>G.more a (hM a x)) fun x=>x.2⟩:Hj (C.re (fh C.ν b) C.nf C.f0 C.U) (bR J id (m+1)++Cs) J aN (fun a=>M a∨(st.heap.get? a=none∧aN a)) (m+1) id) 20 _ _ _ hv bV)
 by_cases hi:i<m+1
 ·by_cases him:i=m
  ·subst him
   have ea:a=J.getD i 0:=al_inj (q2.symm.trans ham)
   subst ea;have Ti:=mM (aD.obj i _ (J.getD i 0) hs ((UG (Nat.lt_succ_self i)).trans (kK (Nat.lt_succ_self i))))
   have O:=mM (S.obj i _ _ hb ham)
   exact(Ti.1.trans (congrArg (fun x=>some (cR x)) ((gK (kR (fh C.ν b) hmem)).1.trans (gK mD).1))).trans (O.1.symm.trans hx)
  ·exact G.kept (fun x=>S.ye i a q2 (by lia) x.1) hx
 ·refine G.di (.inr ⟨al_mem q2,fun mm=>?_⟩) hx
  refine dm (List.getElem?_of_mem mm:) fun j q3=>?_
  exact hi (S.inj q2 (cK S dF q3).1▸(cK S dF q3).2)
theorem JR{m fuel dep:Nat}{tab:List SE}(hm:m<1000)(hnf:C.nf=m)(hX:∀eV,WF (C.re eV C.nf C.f0 C.U) P N)(hfu:fuel≤100000)
  (R5:∀i o,C.f0.get i=some o→i<m∧H0 (m+1) id o o=true)(jD:∀e∈tab,Me P N C.f0 m fuel dep e=true):
  ∀k as s r v s',MW tab m k as s=some r→r.leaf C.ν=some (v,s')→∀Z J M A st ras,aq C J M s st.heap→bz A dep→bZ C Z J st.heap→ay C J M st.heap as ras→∀Q E,KV C Z J M st v s' Q→ab (Md C) A (call (.ref (C.mv k)) ras []) Q E st:=by
 intro k as s r v s' hsm hr Z J M A st ras S R z V Q E K;refine Kk (EY hsm) fun b v0 hb hl hfind q=>?_
 subst q;have K:=K.ok hr
 refine Ql (n3 hfind) fun e he q1 hd has q2=>?_
 subst q1 q2;refine oK (E8 (jD e he)) fun v' gA l hrun hv hs hmem=>?_
 have mD:=zm (ν:=C.ν) hl hd
 have dF:∀j,j<m+1→id j<s.n:=fun j hj=>Nat.lt_of_le_of_lt (Nat.le_of_lt_succ hj) (S.low m _ hb)
 exact((sound (hX (fh C.ν b)) fuel hfu dep).2.2.2 (.fn e.k) e.as (sD C.f0 m e.d) v' gA (hrun▸rfl) _ _ _ A st (.ref (C.mv e.k)) ras (MV hm hnf R5 S hb mD dF) R (bZ.dS S z dF) (.fn e.k) (xB (ν:=fh C.ν b) (nf:=C.nf) (f0:=C.f0) (U:=C.U) nr 20 _ _ _ has V)).2 Q E (QZ hnf S hb mD dF hv hs hmem K)
end
section
def PH:Pg:=⟨AA,jR,GC,Et,1,fun Y Y Y=>none,0⟩
def iI:List CS:=match n5 with|[_,.for _ _ _ _ b,_]=>b|_=>[]
noncomputable def R1(w i:Int):Env:=[(168,.ref 0),(138,.int (.c w)),(29,.int (.c i))]
theorem Aj{n d:Nat}{op:Op}{a b:CE}{x y:AV}{ρ:Env}(h1:(run PH cV n d).ev a ρ s=.ok (x,s))(h2:(run PH cV n d).ev b ρ s=.ok (y,s)):(run PH cV (n+1) d).ev (.bin op a b) ρ s=binop op x y s:=by
 show((run PH cV n d).ev a ρ s).bind (fun(x,s)=>((run PH cV n d).ev b ρ s).bind fun(y,s)=>binop op x y s)=_
 rw [h1];show((run PH cV n d).ev b ρ s).bind (fun(y,s)=>binop op x y s)=_
 rw [h2];rfl
theorem NN(j:Int)(s:AS):binop .mul (.int (.c 2)) (.int (.c j)) s=.ok (.int (.c (2*j)),s):=by
 have h:eW s.rg (.c 2)=true:=by kernel_rfl
 show(match eW s.rg (.c j)||(eW s.rg (.c 2)||(mid s.rg (.c 2)&&mid s.rg (.c j)))with|true=>aH.ok (AV.int (mkMul (.c 2) (.c j)),s)|false=>.bad 12)=_
 rw [h,Bool.true_or,Bool.or_true]
 rfl
noncomputable def eA:CE:=.call (.eM 3) [.call (.eM 10) [.n 29]]
noncomputable def eB:CE:=.call (.eM 10) [.cmp .lt (.n 29) (.val (.int (.c (0))))]
theorem cell{n:Nat}{w i a b:Int}(h1:(run PH cV (n+7) 19).ev eA (R1 w i) s=.ok (.int (.c a),s))(h2:(run PH cV (n+8) 19).ev eB (R1 w i) s=.ok (.int (.c b),s)):
  (run PH cV (n+12) 19).xs iI (R1 w i) s=.ok (.nx,R1 (w*1543+Int.fmod (2*a+b) (10^36)) i,s):=by
 have e1:(run PH cV (n+8) 19).ev (.bin .mul (.val (.int (.c 2))) eA) (R1 w i) s=.ok (.int (.c (2*a)),s):=(Aj (x:=.int (.c 2)) rfl h1).trans (NN a s)
 have e2:(run PH cV (n+9) 19).ev (.bin .add (.bin .mul (.val (.int (.c 2))) eA) eB) (R1 w i) s=.ok (.int (.c (2*a+b)),s):=(Aj e1 h2).trans rfl
 have e3:(run PH cV (n+9) 19).ev (.bin .pow (.val (.int (.c 10))) (.val (.int (.c 36)))) (R1 w i) s=.ok (.int (.c (10^36)),s):=by kernel_rfl
 have e4:(run PH cV (n+10) 19).ev (.bin .mod (.bin .add (.bin .mul (.val (.int (.c 2))) eA) eB) (.bin .pow (.val (.int (.c 10))) (.val (.int (.c 36))))) (R1 w i) s=.ok (.int (.c (Int.fmod (2*a+b) (10^36))),s):=(Aj e2 e3).trans (by kernel_rfl)
 have e5:(run PH cV (n+10) 19).ev (.bin .mul (.n 138) (.val (.int (.c 1543)))) (R1 w i) s=.ok (.int (.c (w*1543)),s):=by kernel_rfl
 have e6:=(Aj (op:=.add) e5 e4).trans (show binop .add _ _ s=.ok (.int (.c (w*1543+Int.fmod (2*a+b) (10^36))),s)from rfl)
 show(((run PH cV (n+11) 19).ev (.bin .add (.bin .mul (.n 138) (.val (.int (.c 1543)))) (.bin .mod (.bin .add (.bin .mul (.val (.int (.c 2))) eA) eB) (.bin .pow (.val (.int (.c 10))) (.val (.int (.c 36)))))) (R1 w i) s).bind fun(v,s)=>aH.ok (Fl.nx,bO (R1 w i) 138 v,s)).bind _=_
 rw [e6]
 rfl
theorem DJ(n:Nat)(w i:Int)(s:AS):∃r:Int,0≤r∧r<10^36∧(run PH cV (n+12) 19).xs iI (R1 w i) s=.ok (.nx,R1 (w*1543+r) i,s):=by
 have b:∀x:Int,0≤Int.fmod x (10^36)∧Int.fmod x (10^36)<10^36:=fun x=>by
  rw [Int.fmod_eq_emod_of_nonneg _ (by decide)]
  exact⟨Int.emod_nonneg _ (by decide),Int.emod_lt_of_pos _ (by decide)⟩
 cases i with
 |ofNat k=>
  have h1:(run PH cV (n+7) 19).ev eA (R1 w (Int.ofNat k)) s=.ok (.int (.c (Int.ofNat k)),s):=by kernel_rfl
  have h2:(run PH cV (n+8) 19).ev eB (R1 w (Int.ofNat k)) s=.ok (.int (.c 0),s):=by kernel_rfl
  exact⟨_,(b _).1,(b _).2,cell h1 h2⟩
 |negSucc k=>
  have h1:(run PH cV (n+7) 19).ev eA (R1 w (Int.negSucc k)) s=.ok (.int (.c (0+ -Int.negSucc k)),s):=by kernel_rfl
  have h2:(run PH cV (n+8) 19).ev eB (R1 w (Int.negSucc k)) s=.ok (.int (.c 1),s):=by kernel_rfl
  exact⟨_,(b _).1,(b _).2,cell h1 h2⟩
end
section
noncomputable def cI(is:List Int):List AV:=is.map fun i=>.int (.c i)
noncomputable def R0(w:Int):Env:=[(168,.ref 0),(138,.int (.c w))]
def Av(j:Nat)(w:Int):Prop:=0≤w∧w<2^(120+11*j)
theorem Av.step{j:Nat}{w r:Int}(h:Av j w)(h0:0≤r)(h1:r<10^36):Av (j+1) (w*1543+r):=by
 refine aw (h:) fun a b=>?_
 have e:(2:Int)^(120+11*(j+1))=2^(120+11*j)*2048:=by
  rw [show 120+11*(j+1)=(120+11*j)+11 by lia,Int.pow_add];rfl
 have p:(2:Int)^120≤2^(120+11*j):=by
  rw [Int.pow_add];have:(1:Int)≤2^(11*j):=by
   have:1≤2^(11*j):=Nat.one_le_two_pow
   exact_mod_cast this
  have q:(0:Int)<2^120:=by decide
  have:=Int.mul_le_mul_of_nonneg_left this (Int.le_of_lt q)
  lia
 have t:(10:Int)^36<2^120:=by decide
 unfold Av;rw [e];constructor<;>lia
theorem Kc{β:Type}{l:List AV}{g:List AV→aH β}(h:s.get i=some (.list l)):kj s (.ref i) g=g l:=by
 unfold kj listOf
 dsimp only
 rw [h]
theorem BU{β:Type}{l:List AV}{g:List AV→aH β}{k:List IE→aH β}(h:s.get i=some (.list l)):Aw s (.ref i) g k=g l:=by
 unfold Aw
 dsimp only
 rw [h]
theorem NZ{cs:List Int}(hs:s.hp.get 1=some (.list (cI cs))):∀(k j:Nat),j+k=cs.length→∀(m:Nat)(w:Int)(ρ:Env),(ρ=R0 w∨∃x,ρ=R1 w x)→Av j w→
  ∃w' ρ',Av cs.length w'∧(ρ'=R0 w'∨∃x,ρ'=R1 w' x)∧(run PH cV (m+14+k) 19).xs [.gQ [29] true 0 (.ref 1) j iI] ρ s=.ok (.nx,ρ',s):=by
 intro k;have hsrc:∀j,iE s 0 (.ref 1) j=.ok (cI cs)[j]?:=fun j=>Kc hs
 have hstep:∀(n j:Nat)(ρ:Env),(run PH cV (n+1) 19).xs [.gQ [29] true 0 (.ref 1) j iI] ρ s=((iE s 0 (.ref 1) j).bind fun x=>match x with
   |none=>.ok (.nx,ρ,s)
   |some v=>bL (ib [29] true v ρ) fun ρ=>((run PH cV n 19).xs iI ρ s).bind fun(f,ρ,s)=>match f with
     |.rt v=>.ok (.rt v,ρ,s)
     |.nx=>(run PH cV n 19).xs [.gQ [29] true 0 (.ref 1) (j+1) iI] ρ s:aH (Fl×Env×AS)).bind fun(f,ρ,s)=>match f with
     |.rt v=>.ok (.rt v,ρ,s)
     |.nx=>.ok (.nx,ρ,s):=fun n j ρ=>rfl
 induction k with
 |zero=>
  intro j hj m w ρ RT hw;refine⟨w,ρ,by rw [←hj];exact hw,RT,?_⟩
  rw [show m+14+0=(m+13)+1 by lia,hstep,hsrc]
  have:(cI cs)[j]?=none:=List.getElem?_eq_none (by unfold cI;rw [List.length_map];lia)
  rw [this];rfl
 |succ k ih=>
  intro j hj m w ρ RT hw;have hlt:j<cs.length:=by lia
  refine lu (DJ (m+2+k) w cs[j] s:) fun r r0 r1 hc=>?_
  refine jP (ih (j+1) (by lia) m (w*1543+r) (R1 (w*1543+r) cs[j]) (.inr ⟨_,rfl⟩) (hw.step r0 r1):) fun w' ρ' a1 a2 a3=>?_
  refine⟨w',ρ',a1,a2,?_⟩
  rw [show m+14+(k+1)=(m+14+k)+1 by lia,hstep,hsrc]
  have:(cI cs)[j]?=some (.int (.c cs[j])):=by unfold cI;rw [List.getElem?_map,List.getElem?_eq_getElem hlt];rfl
  rw [this];have hb:ib [29] true (.int (.c cs[j])) ρ=some (R1 w cs[j]):=by
   rcases RT with rfl|⟨x,rfl⟩<;>rfl
  show((bL (ib [29] true (.int (.c cs[j])) ρ) fun ρ=>((run PH cV (m+14+k) 19).xs iI ρ s).bind fun(f,ρ,s)=>match f with
     |.rt v=>.ok (.rt v,ρ,s)
     |.nx=>(run PH cV (m+14+k) 19).xs [.gQ [29] true 0 (.ref 1) (j+1) iI] ρ s:aH (Fl×Env×AS)).bind _)=_
  rw [hb];show((((run PH cV (m+14+k) 19).xs iI (R1 w cs[j]) s).bind _:aH (Fl×Env×AS)).bind _)=_;rw [show m+14+k=(m+2+k)+12 by lia,hc]
  show(((run PH cV ((m+2+k)+12) 19).xs [.gQ [29] true 0 (.ref 1) (j+1) iI] (R1 (w*1543+r) cs[j]) s).bind _)=_;rw [show(m+2+k)+12=m+14+k by lia,a3]
  rfl
def d8(is:List Int):AS:=⟨aE.put 40 .nil 0 (.list (cI is)),1,[]⟩
def cS(is:List Int):AS:=((d8 is).new (.list (cI (is.take 24)))).2
def fy(is:List Int)(w:Int):AS:=((cS is).new (.list [.int (.c w),.int (.c 0),.int (.c (2*w+1))])).2
theorem Gq{ih:Ih}{ρ:Env}:qj ih [] ρ s=.ok ([],s):=rfl
theorem wg{ih:Ih}{ρ:Env}{s1 s2:AS}{e:CE}{r:List CE}{vs:List AV}(h1:ih.ev e ρ s=.ok (v,s1))(h2:qj ih r ρ s1=.ok (vs,s2)):qj ih (e::r) ρ s=.ok (v::vs,s2):=by
 show(ih.ev e ρ s).bind (fun(v,s)=>(qj ih r ρ s).bind fun(vs,s)=>aH.ok (v::vs,s))=_
 rw [h1];show(qj ih r ρ s1).bind (fun(vs,s)=>aH.ok (v::vs,s))=_
 rw [h2];rfl
theorem zG(is:List Int)(h:is.length≤63):∃w:Int,0≤w∧w<2^400∧(run PH cV 100 20).ca (.fn 171) [.ref 0] (d8 is)=.ok (.ref 2,fy is w):=by
 have hl:(is.take 24).length≤24:=by rw [List.length_take];lia
 have g1:(cS is).hp.get 1=some (.list (cI (is.take 24))):=AS.b8 (d8 is).hp 40 1 (.list (cI (is.take 24))) (by decide)
 refine jP (NZ g1 (is.take 24).length 0 (by lia) (83 - (is.take 24).length) 17 (R0 17) (.inl rfl) ⟨by decide,by decide⟩:) fun w ρ' i1 i2 i3=>?_
 have hw:w<2^400:=by
  have a:=i1.2
  have:(2:Int)^(120+11*(is.take 24).length)≤2^400:=by
   have:(2:Nat)^(120+11*(is.take 24).length)≤2^400:=Nat.pow_le_pow_right (by decide) (by lia)
   exact_mod_cast this
  lia
 refine⟨w,i1.1,hw,?_⟩
 rw [show 83 - (is.take 24).length+14+(is.take 24).length=97 by lia]at i3
 have hsl:slice (.ref 0) none (some (.int (.c 24))) (d8 is)=.ok (.ref 1,cS is):=by
  have g0:(d8 is).get 0=some (.list (cI is)):=AS.b8 .nil 40 0 (.list (cI is)) (by decide)
  have hlen:(cI is).length=is.length:=by unfold cI;simp
  have hc:cut (cI is) 0 (Nat.min 24 (cI is).length)=cI (is.take 24):=by
   unfold cut cI;rw [List.drop_zero,List.length_map,←List.map_take]
   congr 1
   show is.take (min 24 is.length)=_;rw [List.take_eq_take_iff];lia
  have c1:Nat.ble (cI is).length 100000=true:=Nat.ble_eq_true_of_le (by lia)
  have c2:Nat.ble (cI (is.take 24)).length 100000=true:=Nat.ble_eq_true_of_le (by unfold cI;rw [List.length_map];lia)
  show qQ (.ref 0) none (some (.int (.c 24))) (d8 is)=_;unfold qQ;rw [BU g0];have e1:sliceOf (cI is) none (some (.int (.c 24))) (d8 is)=.ok (cI (is.take 24),d8 is):=by
   unfold sliceOf jD;simp only[c1];show aH.ok (cut (cI is) 0 (Nat.min 24 (cI is).length),d8 is)=_;rw [hc]
  rw [e1];show newList (d8 is) (cI (is.take 24))=_;unfold newList jD;simp only[c2]
  rfl
 have e7:(run PH cV 97 19).ev (.il (.n 168) none (some (.val (.int (.c 24))))) (R0 17) (d8 is)=.ok (.ref 1,cS is):=hsl
 have hm:∀(x:Int),(ρ'=R0 w∨∃x,ρ'=R1 w x)→az ρ' 138=some (.int (.c w)):=fun Y q=>by rcases q with rfl|⟨x,rfl⟩<;>rfl
 have hg:=hm 0 i2
 have Ie:∀n d s,(run PH cV (n+1) d).ev (.n 138) ρ' s=.ok (.int (.c w),s):=fun n d s=>by
  show(bL (az ρ' 138) fun v=>aH.ok (v,s))=_
  rw [hg];rfl
 have e8:(run PH cV 94 19).ev (.bin .mul (.val (.int (.c 2))) (.n 138)) ρ' (cS is)=.ok (.int (.c (2*w)),cS is):=(Aj (x:=.int (.c 2)) rfl (Ie 92 19 _)).trans (NN w _)
 have e9:(run PH cV 95 19).ev (.bin .add (.bin .mul (.val (.int (.c 2))) (.n 138)) (.val (.int (.c 1)))) ρ' (cS is)=.ok (.int (.c (2*w+1)),cS is):=(Aj e8 (y:=.int (.c 1)) rfl).trans rfl
 have WY:=wg e9 (Gq (ih:=run PH cV 95 19) (ρ:=ρ') (s:=cS is))
 have SW:=wg (Ie 94 19 (cS is)) (wg (v:=.int (.c 0)) (e:=.val (.int (.c 0))) (s:=cS is) rfl WY)
 have W5:(run PH cV 96 19).ev (.list [.n 138,.val (.int (.c 0)),.bin .add (.bin .mul (.val (.int (.c 2))) (.n 138)) (.val (.int (.c 1)))]) ρ' (cS is)=.ok (.ref 2,fy is w):=by
  show(qj (run PH cV 95 19) _ ρ' (cS is)).bind (fun(vs,s)=>newList s vs)=_
  rw [SW]
  rfl
 have W4:(run PH cV 97 19).xs [.ret (.list [.n 138,.val (.int (.c 0)),.bin .add (.bin .mul (.val (.int (.c 2))) (.n 138)) (.val (.int (.c 1)))])] ρ' (cS is)=.ok (.rt (.ref 2),ρ',fy is w):=by
  show((((run PH cV 96 19).ev _ ρ' (cS is)).bind fun(v,s)=>aH.ok (Fl.rt v,ρ',s)).bind _:aH (Fl×Env×AS))=_
  rw [W5];rfl
 have W3:(run PH cV 98 19).xs (n5.drop 1) (R0 17) (d8 is)=.ok (.rt (.ref 2),ρ',fy is w):=by
  show((((run PH cV 97 19).ev (.il (.n 168) none (some (.val (.int (.c 24))))) (R0 17) (d8 is)).bind fun(v,s)=>(run PH cV 97 19).xs [.gQ [29] true 0 v 0 iI] (R0 17) s).bind fun(f,ρ,s)=>match f with
   |.rt v=>aH.ok (.rt v,ρ,s)
   |.nx=>(run PH cV 97 19).xs (n5.drop 2) ρ s)=_
  rw [e7];show((run PH cV 97 19).xs [.gQ [29] true 0 (.ref 1) 0 iI] (R0 17) (cS is)).bind (fun(f,ρ,s)=>match f with
   |.rt v=>aH.ok (.rt v,ρ,s)
   |.nx=>(run PH cV 97 19).xs (n5.drop 2) ρ s)=_
  rw [i3];exact W4
 have WZ:(run PH cV 99 19).xs n5 [(168,.ref 0)] (d8 is)=.ok (.rt (.ref 2),ρ',fy is w):=W3
 show((run PH cV 99 19).xs n5 [(168,.ref 0)] (d8 is)).bind (fun(f,_,s)=>aH.ok (match f with|.rt v=>v|.nx=>.none,s))=_
 rw [WZ]
 rfl
end
def PD:Pg:=⟨AA,jR,GC,Et,0,fun Y Y Y=>none,0⟩
noncomputable def jL:Int:=2^4000
def qn(j:Int):AS:=⟨aE.put 40 .nil 0 (.list [.int (.v 0),.int (.c j),.int (.v 1)]),1,[(0,jL),(0,jL)]⟩
noncomputable def pb(j:Int):Int:=1000003^(5+(j+1)).toNat
def ints3(o:AO):Option (IE×IE×IE):=match o with
 |.list l=>jW l fun x r=>jW r fun y r=>jW r fun z r=>ck (tn r&&(Nat.beq 2 x.ctorIdx&&(Nat.beq 2 y.ctorIdx&&Nat.beq 2 z.ctorIdx))) (some ((wA x).i,(wA y).i,(wA z).i))
 |_=>none
theorem tL{o:AO}{p:IE×IE×IE}(h:ints3 o=some p):o=.list [.int p.1,.int p.2.1,.int p.2.2]:=by
 cases o with
 |list l=>
  obtain⟨x,r,rfl,h⟩:=bA h
  obtain⟨y,r,rfl,h⟩:=bA h
  obtain⟨z,r,rfl,h⟩:=bA h
  refine aw (aB h:) fun c h=>?_
  injection h with h;subst h;rw [fP (ae c).1];have hx:x=.int (wA x).i:=gL (ae (ae c).2).1
  have hy:y=.int (wA y).i:=gL (ae (ae (ae c).2).2).1
  have hz:z=.int (wA z).i:=gL (ae (ae (ae c).2).2).2
  exact congrArg AO.list (congr (congrArg List.cons hx) (congr (congrArg List.cons hy) (congrArg (fun z=>[z]) hz)))
 |_=>exact no h
def Ct(s:AS)(a b c:IE):Bool:=kQ (s.hp.get 0) fun o=>kQ (ints3 o) fun p=>fB p.1 a&&(fB p.2.1 b&&fB p.2.2 c)
theorem rn(ν:Nat→Int){p q r:IE}(h:Ct s p q r=true):∃x y z,s.hp.get 0=some (.list [.int x,.int y,.int z])∧x.eval ν=p.eval ν∧y.eval ν=q.eval ν∧z.eval ν=r.eval ν:=by
 refine aC (dC h:) fun o e h=>?_
 refine aC (dC h:) fun p e' h=>?_
 exact⟨p.1,p.2.1,p.2.2,e.trans (congrArg some (tL e')),eG ν (ae h).1,eG ν (ae (ae h).2).1,eG ν (ae (ae h).2).2⟩
noncomputable def BV(r:RV)(g:Nat→IE→IE→RV→RV→Bool):Bool:=match r with
 |.fork k a b t f=>g k a b t f
 |_=>false
def BZ(r:RV)(g:IE→AS→Bool):Bool:=match r with
 |.ok p=>Nat.beq 2 p.1.ctorIdx&&g (wA p.1).i p.2
 |_=>false
def IU(m j:Int):Bool:=BV ((run PD cV 60 10).ca (.fn 172) [.ref 0,.int (.c m)] (qn j)) fun k x y t f=>(Nat.beq k 0&&(fB x (.v 0)&&fB y (.c 0)))&&
 (BZ t (fun e s=>fB e (.mod (.mul (.v 1) (.c (pb j))) (.c m))&&Ct s (.div (.mul (.v 1) (.c (pb j))) (.c m)) (.c (j+1)) (.v 1))&&
  BZ f (fun e s=>fB e (.mod (.v 0) (.c m))&&Ct s (.div (.v 0) (.c m)) (.c j) (.v 1)))
theorem ze{r:RV}{g:Nat→IE→IE→RV→RV→Bool}(h:BV r g=true):∃k a b t f,r=.fork k a b t f∧g k a b t f=true:=by
 cases r with
 |fork k a b t f=>exact⟨k,a,b,t,f,rfl,h⟩
 |_=>injection h
theorem ta{r:RV}{g:IE→AS→Bool}(h:BZ r g=true):∃e s,r=.ok (.int e,s)∧g e s=true:=by
 cases r with
 |ok p=>
  refine aw (ae h:) fun h1 h2=>?_
  have e:p.1=.int (wA p.1).i:=gL h1
  exact⟨_,_,congrArg aH.ok (Prod.ext e rfl),h2⟩
 |_=>injection h
def lN(H:Int)(p:Int×Int):Int×Int:=if p.1=0 then(H*pb p.2,p.2+1)else p
theorem zS{m j:Int}(h:IU m j=true)(ν:Nat→Int):∃e s x y z,((run PD cV 60 10).ca (.fn 172) [.ref 0,.int (.c m)] (qn j)).leaf ν=some (.int e,s)∧s.hp.get 0=some (.list [.int x,.int y,.int z])∧
  e.eval ν=Int.fmod (lN (ν 1) (ν 0,j)).1 m∧x.eval ν=Int.fdiv (lN (ν 1) (ν 0,j)).1 m∧y.eval ν=(lN (ν 1) (ν 0,j)).2∧z.eval ν=ν 1:=by
 refine Rl (ze h:) fun k a b t f er h=>?_
 refine aw (ae h:) fun h1 h2=>?_
 refine aw (ae h1:) fun ek h1=>?_
 refine aw (ae h2:) fun ht hf=>?_
 refine d9 (ta ht:) fun e1 s1 et ht=>?_
 refine d9 (ta hf:) fun e2 s2 ef hf=>?_
 rw [er,et,ef];have ec:dX ν k a b=decide (ν 0=0):=by
  rw [al_beq ek];show decide (a.eval ν=b.eval ν)=_;rw [eG ν (ae h1).1,eG ν (ae h1).2];rfl
 unfold aH.leaf;rw [ec]
 by_cases hz:ν 0=0
 ·refine oK (rn ν (ae ht).2:) fun x y z g q1 q2 q3=>?_
  rw [decide_eq_true hz,show lN (ν 1) (ν 0,j)=(ν 1*pb j,j+1)from if_pos hz]
  exact⟨e1,s1,x,y,z,rfl,g,eG ν (ae ht).1,q1,q2,q3⟩
 ·refine oK (rn ν (ae hf).2:) fun x y z g q1 q2 q3=>?_
  rw [decide_eq_false hz,show lN (ν 1) (ν 0,j)=(ν 0,j)from if_neg hz]
  exact⟨e2,s2,x,y,z,rfl,g,eG ν (ae hf).1,q1,q2,q3⟩
noncomputable def wt:List Int:=[2,5,6,4,10,90,8]
def Ln:Bool:=wt.all fun m=>(List.range 21).all fun j=>IU m j
theorem Du:Ln=true:=by kernel_rfl
section
noncomputable def nM:List Int:=[2,5,6,6,6,6,6,4,10,10,10,10,90,90,90,90,8,8,8,8]
noncomputable def mK(k:Nat):Int:=nM.getD k 2
noncomputable def stK(W:Int):Nat→Int×Int
 |0=>(W,0)
 |k+1=>(Int.fdiv (lN (2*W+1) (stK W k)).1 (mK k),(lN (2*W+1) (stK W k)).2)
def dK(W:Int)(k:Nat):Int:=Int.fmod (lN (2*W+1) (stK W k)).1 (mK k)
def ν0(W:Int)(j:Nat):Int:=if j<20 then dK W j else if j<41 then(stK W (j - 20)).1 else if j<62 then(stK W (j - 41)).2 else 2*W+1
def Q8:Rg:=nM.map (fun m=>(0,m - 1))++(List.replicate 21 (0,jL)++(List.replicate 21 (0,20)++[(0,jL)]))
theorem Cp(k:Nat):2≤mK k∧mK k≤90:=by
 unfold mK;rcases Nat.lt_or_ge k 20 with h|h
 ·have:∀k:Fin 20,2≤nM.getD k.1 2∧nM.getD k.1 2≤90:=by decide
  exact this ⟨k,h⟩
 ·rw [List.getD_eq_getElem?_getD,List.getElem?_eq_none (by exact h)]
  decide
theorem yi{a m:Int}(h:0≤a)(hm:2≤m):0≤Int.fdiv a m∧Int.fdiv a m≤a:=by
 rw [Int.fdiv_eq_ediv_of_nonneg _ (by lia)]
 exact⟨Int.ediv_nonneg h (by lia),Int.ediv_le_self m h⟩
set_option exponentiation.threshold 5000 in
theorem Gl{j:Int}(h0:0≤j)(h:j≤20):0≤pb j∧pb j≤2^540:=by
 unfold pb;have e:(5+(j+1)).toNat≤26:=by lia
 have a:(1000003:Nat)^(5+(j+1)).toNat≤1000003^26:=Nat.pow_le_pow_right (by decide) e
 have b:(1000003:Nat)^26≤2^540:=by decide
 have c:(1000003:Nat)^(5+(j+1)).toNat≤2^540:=Nat.le_trans a b
 have d:(0:Int)≤1000003^(5+(j+1)).toNat:=Int.pow_nonneg (by decide)
 have c':=Int.ofNat_le.mpr c
 rw [Int.natCast_pow,Int.natCast_pow]at c';exact⟨d,c'⟩
theorem nj(h0:0≤W)(h1:W<2^400):∀k,k≤20→(0≤(stK W k).1∧(stK W k).1≤jL)∧(0≤(stK W k).2∧(stK W k).2≤k)
 |0,_=>⟨⟨h0,by
   have:(2:Int)^400≤jL:=by decide+kernel
   show W≤jL;lia⟩,by show(0:Int)≤0∧(0:Int)≤0;lia⟩
 |k+1,hk=>by
  obtain⟨⟨a1,a2⟩,a3,a4⟩:=nj h0 h1 k (by lia)
  have hm:=Cp k
  show(0≤Int.fdiv (lN (2*W+1) (stK W k)).1 (mK k)∧Int.fdiv (lN (2*W+1) (stK W k)).1 (mK k)≤jL)∧(0≤(lN (2*W+1) (stK W k)).2∧(lN (2*W+1) (stK W k)).2≤((k+1:Nat):Int));unfold lN;split
  ·refine aw (Gl (j:=(stK W k).2) a3 (by lia):) fun f1 f2=>?_
   have p0:0≤(2*W+1)*pb (stK W k).2:=Int.mul_nonneg (by lia) f1
   have p4:(2:Int)^401=2*2^400:=by decide+kernel
   have p1:(2*W+1)*pb (stK W k).2≤2^401*2^540:=Int.mul_le_mul (by lia) f2 f1 (by decide+kernel)
   have p2:(2:Int)^401*2^540≤jL:=by decide+kernel
   have q:=yi p0 hm.1
   refine⟨⟨q.1,?_⟩,?_⟩
   ·show Int.fdiv ((2*W+1)*pb (stK W k).2) (mK k)≤jL
    lia
   ·show 0≤(stK W k).2+1∧(stK W k).2+1≤((k+1:Nat):Int)
    lia
  ·have q:=yi a1 hm.1
   refine⟨⟨q.1,by lia⟩,by lia⟩
theorem Pj(j:Nat)(hj:j<20):0≤ν0 W j∧ν0 W j≤mK j - 1:=by
 have hm:=Cp j
 rw [show ν0 W j=dK W j from if_pos hj]
 unfold dK;rw [Int.fmod_eq_emod_of_nonneg _ (by lia)]
 exact⟨Int.emod_nonneg _ (by lia),Int.le_sub_one_of_lt (Int.emod_lt_of_pos _ (by lia))⟩
theorem vk(h0:0≤W)(h1:W<2^400):bX (ν0 W) Q8:=by
 refine mO.ok (mO.app (mO.map fun j m h=>?_) (mO.app (mO.rep 21 fun j a b=>?_) (mO.app (mO.rep 21 fun j a b=>?_) ⟨?_,trivial⟩)))
 ·have hj:j<20:=(List.getElem?_eq_some_iff.mp h).1
  have e:mK j=m:=by unfold mK;rw [List.getD_eq_getElem?_getD,h];rfl
  rw [Nat.zero_add,←e];exact Pj j hj
 ·have a:20≤j:=a
  have b:j<41:=b
  rw [show ν0 W j=(stK W (j - 20)).1 from(if_neg (Nat.not_lt.mpr a)).trans (if_pos b)]
  exact(nj h0 h1 (j - 20) (Nat.sub_le_of_le_add (Nat.le_of_lt_succ b))).1
 ·have a:41≤j:=a
  have b:j<62:=b
  rw [show ν0 W j=(stK W (j - 41)).2 from(if_neg (Nat.not_lt.mpr (Nat.le_trans (by decide) a))).trans ((if_neg (Nat.not_lt.mpr a)).trans (if_pos b))]
  have hb:j - 41≤20:=Nat.sub_le_of_le_add (Nat.le_of_lt_succ b)
  have:=(nj h0 h1 (j - 41) hb).2
  exact⟨this.1,Int.le_trans this.2 (Int.ofNat_le.mpr hb)⟩
 ·have:2*W+1≤jL:=by
   have q:(2:Int)*2^400≤jL:=by decide+kernel
   lia
  exact⟨by show 0≤2*W+1;lia,this⟩
def JS(as:List AV)(s:AS):Option RV:=jW as fun x r=>ck (tn r&&(Nat.beq 13 x.ctorIdx&&(Nat.beq (wA x).r 0&&Nat.blt s.n 1000000))) (some (.ok (.ref s.n,(s.new (.list [.int (.v 20),.int (.v 41),.int (.v 62)])).2)))
def TG(o:AO):Option (Nat×Nat×Nat):=fM (ints3 o) fun p=>fM (El p.1) fun a=>fM (El p.2.1) fun b=>fM (El p.2.2) fun c=>some (a,b,c)
theorem JA{o:AO}{p:Nat×Nat×Nat}(h:TG o=some p):o=.list [.int (.v p.1),.int (.v p.2.1),.int (.v p.2.2)]:=by
 refine aC (aL h:) fun q e h=>?_
 refine aC (aL h:) fun a e1 h=>?_
 refine aC (aL h:) fun b e2 h=>?_
 refine aC (aL h:) fun c e3 h=>?_
 injection h with h;subst h;rw [tL e,jV e1,jV e2,jV e3]
noncomputable def drawn(i a b:Nat)(s:AS):RV:=.ok (.int (.v (a - 20)),s.upd i (.list [.int (.v (a+1)),.int (.v (b+1)),.int (.v 62)]))
def JT(as:List AV)(s:AS):Option RV:=jW as fun x r=>jW r fun y r=>ck (tn r&&(Nat.beq 7 x.ctorIdx&&Nat.beq 2 y.ctorIdx)) (fM (gE (wA y).i) fun m=>fM (s.hp.get (wA x).r) fun o=>fM (TG o) fun p=>
 ck (Nat.ble 20 p.1&&(Nat.blt p.1 40&&(Nat.beq p.2.1 (p.1+21)&&(Nat.beq p.2.2 62&&ig m (mK (p.1 - 20)))))) (some (drawn (wA x).r p.1 p.2.1 s)))
def Qh(k:Nat)(as:List AV)(s:AS):Option RV:=match Nat.beq k 171 with
 |true=>JS as s
 |false=>match Nat.beq k 172 with
  |true=>JT as s
  |false=>none
end
section
section
variable{vs:List Value}{nn:Nat}
theorem F2{C':Cx}{h':Heap}{x y z x' y' z':IE}{vs:List Value}(V:ay C J M h [.int x,.int y,.int z] vs)(hx:x'.eval C'.ν=x.eval C.ν)(hy:y'.eval C'.ν=y.eval C.ν)(hz:z'.eval C'.ν=z.eval C.ν):ay C' σ' M' h' [.int x',.int y',.int z'] vs:=by
 refine jP V.un fun v r e a V=>?_
 refine jP V.un fun u r' e' b V=>?_
 refine aC V.one fun w SX c=>?_
 exact e▸.cons (kL hx a) (e'▸.cons (kL hy b) (SX▸.cons (kL hz c) .nil))
theorem mH{C':Cx}{x y z x' y' z':IE}{a:Addr}(O:cF C J M h (.list [.int x,.int y,.int z]) a)(hx:x'.eval C'.ν=x.eval C.ν)(hy:y'.eval C'.ν=y.eval C.ν)(hz:z'.eval C'.ν=z.eval C.ν):cF C' σ' M' h (.list [.int x',.int y',.int z']) a:=by
 exact d9 O.listI fun ws n o1 o2=>.list _ _ _ n o1 (F2 o2 hx hy hz)
theorem BQ{k:Nat}{ras:List Value}(V:ay C J M h [.mj k] ras):ras=[C.U k]:=
 V.one.elim fun v q=>q.1.trans (congrArg (fun v=>[v]) q.2.inv)
theorem qV{J9 o:AO}(q:(aE.put 40 .nil 0 J9).get i=some o):i=0∧o=J9:=by
 by_cases hi:0=i
 ·subst hi
  rw [AS.b8 .nil 40 0 J9 (by decide)]at q
  exact⟨rfl,(al_inj q).symm⟩
 ·rw [AS.br _ _ _ _ _ hi]at q
  exact no q
theorem F9(S:aq C J M s h)(nm:¬M la)(hh:h.get? la=some (bS vs nn))(hvs:∀(C:Cx) J M h,ay C J M h (cI is) vs):
  aq (C.re C.ν 1 (aE.put 40 .nil 0 (.list (cI is))) C.U) [la] M (d8 is) h:=by
 have QS:∀p∈C.tabs,M p.2:=fun p hp=>let⟨⟨_,a,_⟩,_⟩:=S.tab p hp;a
 refine⟨rfl,(by show 1≤1000000;decide),⟨Nat.le_refl 1,fun i Y=>rfl⟩,List.pairwise_singleton _ _,fun i o q=>?_,fun i o a q1 q2=>?_,fun i a q hi=>?_,fun i a q Y=>?_,fun a m=>?_,S.mlt,S.base,fun p hp=>⟨(S.tab p hp).1,fun m=>?_⟩,fun k p q=>no q⟩
 ·have:=(qV q).1;show i<1;lia
 ·refine aw (qV q1:) fun x y=>?_
  subst x y;injection q2 with q2;subst q2;exact .list _ _ vs nn hh (hvs _ _ _ _)
 ·rw [List.getElem?_eq_none hi]at q;exact no q
 ·have:a∈[la]:=al_mem q
  rw [List.mem_singleton.mp this];exact nm
 ·rw [List.mem_singleton.mp m];exact⟨_,hh⟩
 ·have:=QS p hp
  rw [List.mem_singleton.mp m]at this;exact nm this
theorem F8{f0:aE AO}(S:aq C J M s h)(hnf:C.nf=0)(nm:¬M la)(z:bZ C Z J h):bZ (C.re C.ν 1 f0 C.U) (fun a=>(Z a∧a≠la)∨a∈J) [la] h:=fun a q=>by
 have Wb:∀a,a∈J→M a:=fun a m=>(List.getElem?_of_mem m).elim fun i q=>S.je i a q (by lia)
 rcases q with⟨q,hn⟩|q
 ·exact⟨(z a q).1,fun m=>hn (List.mem_singleton.mp m),(z a q).2.2⟩
 ·exact⟨S.there a q,fun m=>nm (List.mem_singleton.mp m▸Wb a q),fun p hp e=>(S.tab p hp).2 (e▸q)⟩
theorem zH:(fy is W).hp.get 2=some (.list [.int (.c W),.int (.c 0),.int (.c (2*W+1))]):=by
 have e:(fy is W).hp=aE.put 40 (cS is).hp (cS is).n (.list [.int (.c W),.int (.c 0),.int (.c (2*W+1))]):=rfl
 rw [e,show(cS is).n=2 from rfl]
 exact AS.b8 (cS is).hp 40 2 _ (by decide)
theorem CZ(rY:C.ν=ν0 W){f0:aE AO}(hlt:Nat.blt s.n 1000000=true)(nm:¬M la)(S:aq C J M s st.heap){Q:Value→Shared→Prop}
  (K:KV C Z J M st (.ref s.n) (s.new (.list [.int (.v 20),.int (.v 41),.int (.v 62)])).2 Q):
  KV (C.re C.ν 1 f0 C.U) (fun a=>(Z a∧a≠la)∨a∈J) [la] M st (.ref 2) (fy is W) Q:=by
 intro aA aN h₁ tk rv G aD bV;refine aC (G.pre:) fun Cs e CU=>?_
 subst e;refine aC (bV.inv:) fun a2 e R8=>?_
 subst e;have Wq:a2∈Cs:=al_mem (i:=1) R8
 have dead:=CU a2 Wq
 have m2:aN a2:=aD.je 2 a2 R8 (by show 1≤2;decide)
 have Gf:aJ Z J M st.heap J (fun a=>M a∨(st.heap.get? a=none∧aN a)) h₁:=aJ.yw (Z':=fun a=>(Z a∧a≠la)∨a∈J) (fun Y x=>x) (fun a hm hz=>.inl ⟨hz,fun e=>nm (e▸hm)⟩) G
 have Sb:aq C J (fun a=>M a∨(st.heap.get? a=none∧aN a)) s h₁:=aq.back (C':=C.re C.ν 1 f0 C.U) ⟨rfl,rfl,rfl⟩ S G aD (fun Y x=>x) (fun Y x=>x) rfl rfl S.gC.2 S.low fun i o a q1 q2=>
  (S.obj i o a q1 q2).chg Gf.chg fun x hx=>G.di (.inr (al_mem q2)) hx
 have On:cF C J (fun a=>M a∨(st.heap.get? a=none∧aN a)) h₁ (.list [.int (.v 20),.int (.v 41),.int (.v 62)]) a2:=
  mH (aD.obj 2 (.list [.int (.c W),.int (.c 0),.int (.c (2*W+1))]) a2 zH R8) (rY▸rfl) (rY▸rfl) (rY▸rfl)
 have RS:a2∉J:=fun m=>let⟨_,e⟩:=S.there a2 m;aM e dead
 refine dz (aq.adopt Sb hlt (.inr ⟨dead,m2⟩) RS (fun p hp e=>(S.tab p hp).1.elim fun Y y=>aM (e▸y.2.1) dead) _ On:) fun S3 X3 W9=>?_
 exact K (J++[a2]) _ h₁ tk (.ref a2) ⟨⟨[a2],rfl,fun a m=>by rw [List.mem_singleton.mp m];exact dead⟩,Gf.ext,Gf.more,Gf.fresh⟩ S3 (.ref _ _ W9)
theorem v5(hnf:C.nf=0)(rY:C.ν=ν0 W)(hU:C.U 0=.ref la)(hX:∀eV Dl,WF (C.re eV 1 Dl C.U) PH cV)(hla:C.hb.get? la=some (bS vs nn))(hvs:∀(C:Cx) J M h,ay C J M h (cI is) vs)
  (hW:(run PH cV 100 20).ca (.fn 171) [.ref 0] (d8 is)=.ok (.ref 2,fy is W))
  {s:AS}{Z:Addr→Prop}{J:List Addr}{M:Addr→Prop}{A:Around}{st:Shared}{ras:List Value}(hlt:Nat.blt s.n 1000000=true)(S:aq C J M s st.heap)(R:bz A 20)(z:bZ C Z J st.heap)(V:ay C J M st.heap [.mj 0] ras){Q E:Value→Shared→Prop}
  (K:KV C Z J M st (.ref s.n) (s.new (.list [.int (.v 20),.int (.v 41),.int (.v 62)])).2 Q):ab (Md C) A (call (.ref (C.mv 171)) ras []) Q E st:=by
 have e0:ras=[.ref la]:=hU▸BQ V
 subst e0;refine aw (S.base la _ hla:) fun nm hh=>?_
 exact((sound (hX C.ν (aE.put 40 .nil 0 (.list (cI is)))) 100 (by decide) 20).2.2.2 (.fn 171) [.ref 0] (d8 is) (.ref 2) (fy is W) (hW▸rfl) _ _ _ A st (.ref (C.mv 171)) [.ref la] (F9 S nm hh hvs) R (F8 S hnf nm z) (.fn 171) (.cons (.ref 0 la rfl) .nil)).2 Q E (CZ rY hlt nm S K)
def νD(W:Int)(k:Nat):Nat→Int:=fun j=>if j=0 then(stK W k).1 else 2*W+1
section
variable{a:Nat}(Es:20≤a)(Gb:a<40)
include Es Gb
theorem Jm:ν0 W a=(stK W (a - 20)).1:=(if_neg (by lia)).trans (if_pos (by lia))
theorem Jk:ν0 W (a+21)=(stK W (a - 20)).2:=(if_neg (by lia)).trans ((if_neg (by lia)).trans ((if_pos (by lia)).trans (by rw [show a+21 - 41=a - 20 by lia])))
theorem Jl:ν0 W (a+1)=(stK W (a - 20+1)).1:=(if_neg (by lia)).trans ((if_pos (by lia)).trans (by rw [Nat.sub_add_comm Es]))
theorem Jj:ν0 W (a+1+21)=(stK W (a - 20+1)).2:=(if_neg (by lia)).trans ((if_neg (by lia)).trans ((if_pos (by lia)).trans (by rw [show a+1+21 - 41=a - 20+1 by lia])))
theorem Mt:ν0 W (a - 20)=dK W (a - 20):=if_pos (by lia)
end
theorem Gx(h0:0≤W)(h1:W<2^400){k:Nat}(hk:k≤20):bX (νD W k) [(0,jL),(0,jL)]:=by
 have hb:(2:Int)^401≤jL:=by decide+kernel
 have he:(2:Int)^401=2*2^400:=by decide+kernel
 intro j p q
 match j,q with
 |0,q=>(injection q with q;subst q);exact(nj h0 h1 k hk).1
 |1,q=>(injection q with q;subst q);show 0≤2*W+1∧2*W+1≤jL;lia
 |j+2,q=>exact no q
theorem Dv(h0:0≤W)(h1:W<2^400){k:Nat}(hk:k<20):∃e s x y z,((run PD cV 60 10).ca (.fn 172) [.ref 0,.int (.c (mK k))] (qn (stK W k).2)).leaf (νD W k)=some (.int e,s)∧s.hp.get 0=some (.list [.int x,.int y,.int z])∧
  e.eval (νD W k)=dK W k∧x.eval (νD W k)=(stK W (k+1)).1∧y.eval (νD W k)=(stK W (k+1)).2∧z.eval (νD W k)=2*W+1:=by
 refine dz (nj h0 h1 k (Nat.le_of_lt hk):) fun Y b3 b4=>?_
 have hm:mK k∈wt:=(show∀k:Fin 20,nM.getD k.1 2∈wt by decide) ⟨k,hk⟩
 have hB:=al_all (al_all Du _ hm) (stK W k).2.toNat (List.mem_range.mpr (by lia))
 rw [show(((stK W k).2.toNat:Nat):Int)=(stK W k).2 by lia]at hB
 exact zS hB (νD W k)
theorem qm{j:Int}{k:Nat}{o:AO}(q:(qn j).hp.get k=some o):k=0∧o=.list [.int (.v 0),.int (.c j),.int (.v 1)]:=by
 by_cases hk:0=k
 ·subst hk
  have q:(aE.put 40 .nil 0 (.list [.int (.v 0),.int (.c j),.int (.v 1)])).get 0=some o:=q
  rw [AS.b8 _ _ _ _ (by decide)]at q
  exact⟨rfl,(al_inj q).symm⟩
 ·have q:(aE.put 40 .nil 0 _).get k=some o:=q
  rw [AS.br _ _ _ _ _ hk]at q;exact no q
theorem sJ{ai:Addr}(hai:J[i]?=some ai):bR J (fun Y=>i) 1=[ai]:=by
 unfold bR;show [J.getD i 0]=_;rw [List.getD_eq_getElem?_getD,hai];rfl
theorem Lo(hnf:C.nf=0)(rY:C.ν=ν0 W)(h0:0≤W)(h1:W<2^400){a:Nat}(Es:20≤a)(Gb:a<40)(hs:s.hp.get i=some (.list [.int (.v a),.int (.v (a+21)),.int (.v 62)]))(S:aq C J M s h){ai:Addr}(hai:J[i]?=some ai):
  aq (C.re (νD W (a - 20)) 0 .nil C.U) (bR J (fun Y=>i) 1) (rQ M (bR J (fun Y=>i) 1) 0) (qn (stK W (a - 20)).2) h:=by
 have hin:i<s.n:=S.low i _ hs
 refine aq.dS (s':=qn _) (π:=fun Y=>i) S (by show 1≤_;decide) (Nat.zero_le _) (fun Y Y=>hin) (fun x y hx hy Y=>by have hx:x<1:=hx;have hy:y<1:=hy;lia) (fun k hk=>absurd hk (Nat.not_lt_zero k)) (fun k Y Y=>by lia) (fun k o q=>by rw [(qm q).1];exact Nat.one_pos) (fun k o q σ' M' X=>?_) (Gx h0 h1 (by lia))
 rw [(qm q).2,show J.getD i 0=ai by rw [List.getD_eq_getElem?_getD,hai];rfl]
 exact mH (S.obj i _ ai hs hai) (by rw [rY];exact(Jm Es Gb).symm) (by rw [rY];exact(Jk Es Gb).symm) (by rw [rY];rfl)
theorem zU(hnf:C.nf=0){gA:AS}{o o':AO}(S:aq C J M s h)(hs:s.hp.get i=some o){ai:Addr}(hai:J[i]?=some ai){eV:Nat→Int}
  (G:aJ (I1 Z J (bR J (fun Y=>i) 1)) (bR J (fun Y=>i) 1) (rQ M (bR J (fun Y=>i) 1) 0) h aA aN h₁)(aD:aq (C.re eV 0 .nil C.U) aA aN gA h₁)(On:cF C J (fun a=>M a∨(h.get? a=none∧aN a)) h₁ o' ai):
  aq C J (fun a=>M a∨(h.get? a=none∧aN a)) (s.upd i o') h₁:=by
 have hin:i<s.n:=S.low i _ hs
 have Gf:aJ Z J M h J (fun a=>M a∨(h.get? a=none∧aN a)) h₁:=aJ.yw (fun a x=>x.1) (fun a Y x=>.inl x) G
 refine aq.back (C':=C.re eV 0 .nil C.U) ⟨rfl,rfl,rfl⟩ S G aD (fun a x=>x.1) (fun a x=>⟨x,fun k hk=>absurd hk (Nat.not_lt_zero k)⟩) rfl rfl (fun k hk=>by lia) (fun k o q=>?_) fun k o b q1 q2=>?_
 ·by_cases hk:i=k
  ·exact hk▸hin
  ·have q:(aE.put 40 s.hp i _).get k=some o:=q
   rw [AS.br _ _ _ _ _ hk]at q;exact S.low k o q
 ·by_cases hk:i=k
  ·subst hk
   have q1:(aE.put 40 s.hp i _).get i=some o:=q1
   rw [AS.b8 _ _ _ _ (Nat.lt_of_lt_of_le hin (Nat.le_trans S.lim (by decide)))]at q1
   injection q1 with q1;subst q1;rw [hai]at q2;injection q2 with q2;subst q2;exact On
  ·have q1:(aE.put 40 s.hp i _).get k=some o:=q1
   rw [AS.br _ _ _ _ _ hk]at q1;refine(S.obj k o b q1 q2).chg Gf.chg fun x hx=>G.di (.inr ⟨al_mem q2,fun m=>?_⟩) hx
   rw [sJ hai]at m;rw [List.mem_singleton.mp m]at q2;exact hk (S.inj hai q2)
theorem wq(hnf:C.nf=0)(rY:C.ν=ν0 W)(h0:0≤W)(h1:W<2^400)(hX:∀eV Dl,WF (C.re eV 0 Dl C.U) PD cV)
  {s:AS}{i a:Nat}(Es:20≤a)(Gb:a<40)(hs:s.hp.get i=some (.list [.int (.v a),.int (.v (a+21)),.int (.v 62)]))
  {Z:Addr→Prop}{J:List Addr}{M:Addr→Prop}{A:Around}{st:Shared}{ras:List Value}(S:aq C J M s st.heap)(R:bz A 10)(z:bZ C Z J st.heap)(V:ay C J M st.heap [.ref i,.int (.c (mK (a - 20)))] ras){Q E:Value→Shared→Prop}
  (K:KV C Z J M st (.int (.v (a - 20))) (s.upd i (.list [.int (.v (a+1)),.int (.v (a+1+21)),.int (.v 62)])) Q):ab (Md C) A (call (.ref (C.mv 172)) ras []) Q E st:=by
 obtain⟨ai,hai⟩:∃x,J[i]?=some x:=⟨_,nW (by rw [←S.len];exact S.low i _ hs)⟩
 refine TO (Dv h0 h1 (k:=a - 20) (by lia):) fun e gA x y z' hleaf hget k1 k2 k3 k4=>?_
 have TC:=sJ hai
 obtain⟨ra,rm,rfl,Va,Vm⟩:=V.two
 obtain⟨x1,rfl,hx⟩:=Va.inv
 obtain⟨t,rfl⟩:=Vm.inv
 cases hai.symm.trans hx
 refine((sound (hX (νD W (a - 20)) .nil) 60 (by decide) 10).2.2.2 (.fn 172) [.ref 0,.int (.c (mK (a - 20)))] _ (.int e) gA hleaf _ _ _ A st (.ref (C.mv 172)) _ (Lo hnf rY h0 h1 Es Gb hs S hai) R (bZ.dS (ν:=νD W (a - 20)) (nf:=0) (f0:=.nil) (U:=C.U) (π:=fun Y=>i) (m:=1) S z (fun Y Y=>S.low i _ hs)) (.fn 172) (.cons (.ref 0 _ (by rw [TC];rfl)) (.cons (.int _ _ t rfl) .nil))).2 Q E ?_
 intro aA aN h₁ tk rv G aD bV;obtain⟨Cs,rfl,CU⟩:=G.pre
 have On:=mH (C':=C) (σ':=J) (M':=fun a=>M a∨(st.heap.get? a=none∧aN a)) (x':=.v (a+1)) (y':=.v (a+1+21)) (z':=.v 62) (aD.obj 0 _ ai hget (by rw [TC];rfl)) (by rw [rY];exact(Jl Es Gb).trans k2.symm) (by rw [rY];exact(Jj Es Gb).trans k3.symm) (by rw [rY];exact k4.symm)
 obtain⟨u,rfl⟩:=bV.inv
 exact K J _ h₁ tk _ (aJ.yw (fun a x=>x.1) (fun a Y x=>.inl x) G) (zU hnf S hs hai G aD On) (.int _ _ u (by rw [rY];exact(Mt Es Gb).trans k1.symm))
theorem JU(hnf:C.nf=0)(rY:C.ν=ν0 W)(hU:C.U 0=.ref la)(h0:0≤W)(h1:W<2^400)(WD:∀eV Dl,WF (C.re eV 1 Dl C.U) PH cV)(hX:∀eV Dl,WF (C.re eV 0 Dl C.U) PD cV)(hla:C.hb.get? la=some (bS vs nn))(hvs:∀(C:Cx) J M h,ay C J M h (cI is) vs)
  (hW:(run PH cV 100 20).ca (.fn 171) [.ref 0] (d8 is)=.ok (.ref 2,fy is W))(k:Nat)(as:List AV)(s:AS)(r:aH (AV×AS))(v:AV)(s':AS)(hk:Qh k as s=some r)(hr:r.leaf C.ν=some (v,s'))
  (Z:Addr→Prop)(J:List Addr)(M:Addr→Prop)(A:Around)(st:Shared)(ras:List Value)(S:aq C J M s st.heap)(R:bz A 20)(z:bZ C Z J st.heap)(V:ay C J M st.heap as ras)(Q E:Value→Shared→Prop)(K:KV C Z J M st v s' Q):ab (Md C) A (call (.ref (C.mv k)) ras []) Q E st:=by
 unfold Qh at hk;cases e1:Nat.beq k 171 with
 |true=>
  rw [e1]at hk;obtain⟨x,r,rfl,hk⟩:=bA hk
  refine aw (aB hk:) fun c hk=>?_
  injection hk with hk;subst hk;obtain⟨rfl,rfl⟩:=pi_inj hr
  have hx:x=.mj (wA x).r:=gL (ae (ae c).2).1
  rw [fP (ae c).1,hx,al_beq (ae (ae (ae c).2).2).1]at V;rw [al_beq e1];exact v5 hnf rY hU WD hla hvs hW (ae (ae (ae c).2).2).2 S R z V K
 |false=>
  rw [e1]at hk
  dsimp only at hk
  cases e2:Nat.beq k 172 with
  |false=>rw [e2]at hk;injection hk
  |true=>
   rw [e2]at hk;refine d9 (bA hk:) fun x t ex hk=>?_
   refine d9 (bA hk:) fun y u ey hk=>?_
   refine aw (aB hk:) fun c hk=>?_
   refine aC (aL hk:) fun m em hk=>?_
   refine aC (aL hk:) fun o hs hk=>?_
   refine aC (aL hk:) fun p eo hk=>?_
   refine aw (aB hk:) fun d hk=>?_
   injection hk with hk;subst hk;obtain⟨rfl,rfl⟩:=pi_inj hr
   have hx:x=.ref (wA x).r:=gL (ae (ae c).2).1
   have hy:y=.int (wA y).i:=gL (ae (ae c).2).2
   refine aw (ae d:) fun c1 d=>?_
   refine aw (ae d:) fun c2 d=>?_
   refine aw (ae d:) fun c3 d=>?_
   have c1:=al_ble c1
   have c3:=al_beq c3
   rw [JA eo,c3,al_beq (ae d).1]at hs;rw [ex,ey,fP (ae c).1,hx,hy,cT em,bH.mp (ae d).2]at V;rw [c3]at K;rw [al_beq e2];exact wq hnf rY h0 h1 hX c1 (al_ble c2) hs S (R.mono (by decide)) z V (by rw [show p.1+1+21=p.1+21+1 by lia];exact K)
end
end
noncomputable def gv:aE AO:=(.node (some (.inst 14 1)) (.node (some (.ns [(201,.ref 2),(122,.none),(65,.ref 75),(286,.ref 76),(160,.ref 78),(187,.dW []),(101,.dW []),(186,.dW []),(310,.ref 77),(235,.bytes []),(124,.dW [])])) (.node (some (.ns [(56,.str [80]),(31,.ref 4),(94,.dW []),(315,.none),(299,.bool false)])) (.node (some (.inst 12 8)) (.node (some (.inst 10 16)) (.node (some (.list [])) (.node (some (.ns [(13,.int (.c (4))),(42,.int (.c (4))),(266,.none),(46,.t []),(187,.t [])])) .nil .nil) .nil) (.node (some (.ns [(73,.str [57]),(209,.ref 48),(220,.str [110,117,109,101,114,105,99]),(151,.int (.c (1))),(120,.int (.c (0))),(272,.bool false),(69,.int (.c (1)))])) .nil .nil)) (.node (some (.list [])) (.node (some (.ns [(100,.int (.c (2))),(56,.str [67]),(375,.str [57]),(136,.str []),(68,.str []),(342,.bool false),(162,.ref 40),(278,.str []),(137,.none),(369,.bool false),(391,.bool false),(294,.ref 42),(47,.ref 43),(165,.ref 7),(203,.none),(28,.str []),(164,.int (.c (9))),(69,.int (.c (1))),(121,.ref 44)])) (.node (some (.inst 10 72)) .nil .nil) .nil) (.node (some (.inst 10 56)) .nil .nil))) (.node (some (.inst 12 12)) (.node (some (.list [.t [.str [88],.int (.c (5))]])) (.node (some (.inst 6 36)) (.node (some (.ns [(220,.str [110,117,109,101,114,105,99]),(69,.int (.c (2))),(197,.ref 68),(136,.str [100,105,115,112,108,97,121]),(68,.str [116,114,97,105,108,105,110,103]),(342,.bool false),(369,.bool false),(391,.bool false),(151,.int (.c (2))),(120,.int (.c (0))),(272,.bool true)])) .nil .nil) .nil) (.node (some (.inst 11 52)) .nil .nil)) (.node (some (.ns [(73,.str [57]),(209,.ref 28),(220,.str [110,117,109,101,114,105,99]),(151,.int (.c (1))),(120,.int (.c (0))),(272,.bool false),(69,.int (.c (1)))])) (.node (some (.list [])) (.node (some (.list [])) .nil .nil) .nil) (.node (some (.list [.t [.str [57],.int (.c (2))]])) .nil .nil)))) (.node (some (.ns [(213,.ref 6),(192,.ref 73),(94,.dW []),(124,.ref 74),(69,.int (.c (29))),(187,.dW [])])) (.node (some (.list [])) (.node (some (.inst 6 18)) (.node (some (.inst 10 34)) (.node (some (.list [])) .nil .nil) .nil) (.node (some (.inst 12 50)) .nil .nil)) (.node (some (.ns [(220,.str [110,117,109,101,114,105,99]),(69,.int (.c (1))),(197,.ref 26),(136,.str [100,105,115,112,108,97,121]),(68,.str [116,114,97,105,108,105,110,103]),(342,.bool false),(369,.bool false),(391,.bool false),(151,.int (.c (1))),(120,.int (.c (0))),(272,.bool false)])) (.node (some (.ns [(13,.int (.c (4))),(42,.int (.c (4))),(266,.none),(46,.t []),(187,.t [])])) (.node (some (.list [])) .nil .nil) .nil) (.node (some (.inst 6 58)) .nil .nil))) (.node (some (.list [])) (.node (some (.ns [(100,.int (.c (2))),(56,.str [73]),(375,.str [57]),(136,.str []),(68,.str []),(342,.bool false),(162,.none),(278,.str []),(137,.none),(369,.bool false),(391,.bool false),(294,.ref 22),(47,.ref 23),(165,.ref 7),(203,.none),(28,.str []),(164,.int (.c (5))),(69,.int (.c (1))),(121,.ref 24)])) (.node (some (.list [.t [.str [88],.int (.c (3))]])) (.node (some (.ns [(73,.str [83,57,57]),(209,.ref 70),(220,.str [110,117,109,101,114,105,99]),(151,.int (.c (2))),(120,.int (.c (0))),(272,.bool true),(69,.int (.c (2)))])) .nil .nil) .nil) (.node (some (.list [])) .nil .nil)) (.node (some (.inst 12 30)) (.node (some (.ns [(220,.str [110,117,109,101,114,105,99]),(69,.int (.c (1))),(197,.ref 46),(136,.str [100,105,115,112,108,97,121]),(68,.str [116,114,97,105,108,105,110,103]),(342,.bool false),(369,.bool false),(391,.bool false),(151,.int (.c (1))),(120,.int (.c (0))),(272,.bool false)])) (.node (some (.list [])) .nil .nil) .nil) (.node (some (.ns [(100,.int (.c (2))),(56,.str [80]),(375,.str [83,57,57]),(136,.str []),(68,.str []),(342,.bool false),(162,.ref 62),(278,.str []),(137,.none),(369,.bool false),(391,.bool false),(294,.ref 64),(47,.ref 65),(165,.ref 7),(203,.none),(28,.str []),(164,.int (.c (21))),(69,.int (.c (2))),(121,.ref 66)])) .nil .nil))))) (.node (some (.inst 16 3)) (.node (some (.inst 13 5)) (.node (some (.ns [(100,.int (.c (1))),(56,.str [82,69,67]),(375,.none),(136,.str []),(68,.str []),(342,.bool false),(162,.none),(278,.str []),(137,.none),(369,.bool false),(391,.bool false),(294,.ref 9),(47,.ref 10),(165,.none),(203,.none),(28,.str []),(164,.int (.c (0))),(69,.int (.c (29))),(121,.ref 71)])) (.node (some (.ns [(220,.str [97,108,112,104,97,110,117,109,101,114,105,99]),(69,.int (.c (5))),(197,.ref 17),(136,.str [100,105,115,112,108,97,121]),(68,.str [116,114,97,105,108,105,110,103]),(342,.bool false),(369,.bool false),(391,.bool false),(151,.int (.c (0))),(120,.int (.c (0))),(272,.bool false)])) (.node (some (.list [])) (.node (some (.list [])) .nil .nil) .nil) (.node (some (.list [.t [.str [57],.int (.c (1))]])) .nil .nil)) (.node (some (.inst 10 25)) (.node (some (.inst 11 41)) (.node (some (.ns [(220,.str [103,114,111,117,112]),(69,.int (.c (29))),(197,.none),(136,.str [100,105,115,112,108,97,121]),(68,.str [116,114,97,105,108,105,110,103]),(342,.bool false),(369,.bool false),(391,.bool false),(151,.int (.c (0))),(120,.int (.c (0))),(272,.bool false)])) .nil .nil) .nil) (.node (some (.ns [(220,.str [110,117,109,101,114,105,99]),(69,.int (.c (2))),(197,.ref 57),(136,.str [100,105,115,112,108,97,121]),(68,.str [116,114,97,105,108,105,110,103]),(342,.bool false),(369,.bool false),(391,.bool false),(151,.int (.c (2))),(120,.int (.c (0))),(272,.bool false)])) .nil .nil))) (.node (some (.ns [(100,.int (.c (2))),(56,.str [83]),(375,.str [88,40,53,41]),(136,.str []),(68,.str []),(342,.bool false),(162,.none),(278,.str []),(137,.none),(369,.bool false),(391,.bool false),(294,.ref 13),(47,.ref 14),(165,.ref 7),(203,.none),(28,.str []),(164,.int (.c (0))),(69,.int (.c (5))),(121,.ref 15)])) (.node (some (.inst 12 21)) (.node (some (.ns [(73,.str [88,40,51,41]),(209,.ref 37),(220,.str [97,108,112,104,97,110,117,109,101,114,105,99]),(151,.int (.c (0))),(120,.int (.c (0))),(272,.bool false),(69,.int (.c (3)))])) (.node (some (.inst 6 69)) .nil .nil) .nil) (.node (some (.ns [(13,.int (.c (4))),(42,.int (.c (4))),(266,.none),(46,.t []),(187,.t [])])) .nil .nil)) (.node (some (.list [.t [.str [57],.int (.c (1))]])) (.node (some (.inst 10 45)) (.node (some (.list [])) .nil .nil) .nil) (.node (some (.inst 12 61)) .nil .nil)))) (.node (some (.list [.ref 7])) (.node (some (.list [.ref 11,.ref 20,.ref 29,.ref 38,.ref 49,.ref 60])) (.node (some (.ns [(73,.str [88,40,53,41]),(209,.ref 19),(220,.str [97,108,112,104,97,110,117,109,101,114,105,99]),(151,.int (.c (0))),(120,.int (.c (0))),(272,.bool false),(69,.int (.c (5)))])) (.node (some (.ns [(220,.str [97,108,112,104,97,110,117,109,101,114,105,99]),(69,.int (.c (3))),(197,.ref 35),(136,.str [100,105,115,112,108,97,121]),(68,.str [116,114,97,105,108,105,110,103]),(342,.bool false),(369,.bool false),(391,.bool false),(151,.int (.c (0))),(120,.int (.c (0))),(272,.bool false)])) (.node (some (.inst 10 67)) .nil .nil) .nil) (.node (some (.ns [(100,.int (.c (2))),(56,.str [78]),(375,.str [57,57]),(136,.str []),(68,.str []),(342,.bool false),(162,.ref 51),(278,.str []),(137,.none),(369,.bool false),(391,.bool false),(294,.ref 53),(47,.ref 54),(165,.ref 7),(203,.none),(28,.str []),(164,.int (.c (13))),(69,.int (.c (2))),(121,.ref 55)])) .nil .nil)) (.node (some (.inst 6 27)) (.node (some (.list [])) (.node (some (.list [])) .nil .nil) .nil) (.node (some (.ns [(73,.str [57,57]),(209,.ref 59),(220,.str [110,117,109,101,114,105,99]),(151,.int (.c (2))),(120,.int (.c (0))),(272,.bool false),(69,.int (.c (2)))])) .nil .nil))) (.node (some (.list [])) (.node (some (.list [])) (.node (some (.inst 12 39)) (.node (some (.list [.t [.str [83],.int (.c (1))],.t [.str [57],.int (.c (2))]])) .nil .nil) .nil) (.node (some (.list [])) .nil .nil)) (.node (some (.ns [(100,.int (.c (2))),(56,.str [71]),(375,.str [88,40,51,41]),(136,.str []),(68,.str []),(342,.bool false),(162,.none),(278,.str []),(137,.none),(369,.bool false),(391,.bool false),(294,.ref 31),(47,.ref 32),(165,.ref 7),(203,.none),(28,.str []),(164,.int (.c (6))),(69,.int (.c (3))),(121,.ref 33)])) (.node (some (.inst 6 47)) .nil .nil) (.node (some (.inst 11 63)) .nil .nil))))))
noncomputable def Ks:AO:=.cb [.c (32),.c (32),.c (32),.c (32),.c (32),.c (48),.c (32),.c (32),.c (32),.c (48),.c (48),.c (48),.c (48),.c (48),.c (48),.c (48),.c (48),.c (48),.c (48),.c (48),.c (48),.c (48),.c (123),.c (48),.c (123),.c (48),.c (123),.c (48),.c (123)]
section
def PA:Pg:=⟨AA,jR,GC,Et,0,Qh,19⟩
noncomputable def Np:List Nat:=[341,340,338,337,15,14,53,20,19,21,22,24,23,25,26,86,85,83,82,74,28,27,29,30,113,112,110,109,100,32,31,33,34,141,140,138,137,129,36,35,40,39,37,38,168,167,165,164,155,42,41,46,45,43,44,198,197,195,194,184,48,47,52,51,49,50,237,236,231,230,216,239,238,17,18,342,343,376,374]
noncomputable def πA(j:Nat):Nat:=Np.getD j 0
noncomputable def JP:List CS:=hJ.take 2
noncomputable def EX:List CS:=(hJ.drop 2).take 1
def vi:AS:=⟨.nil,0,Q8⟩
noncomputable def V3:List AV:=[.int (.v 22),.int (.v 43),.int (.v 62)]
def Mf:AS:=⟨aE.put 40 .nil 0 (.list V3),1,Q8⟩
noncomputable def sH:Env:=[(168,.mj 0)]
noncomputable def BH:Env:=[(40,.ref 0),(36,.int (.v 0)),(184,.mj 1)]
noncomputable def Kr:List IE:=([2,3,4,5,6].map fun k=>IE.tab [50,44,51,49,52,44] (.v k))++([.add (.v 7) (.c 49),.c 103,.c 104,.c 105]++(([8,9,10,11].map fun k=>IE.add (.v k) (.c 48))++
 (([12,13,14,15].flatMap fun k=>[IE.add (.div (.v k) (.c 10)) (.c 48),.add (.mod (.v k) (.c 10)) (.c 48)])++([16,17,18,19].flatMap fun k=>[IE.add (.div (.v k) (.c 10)) (.c 48),.add (.v k) (.c 48)]))))
def vM(e:IE):Bool:=kQ (gE e) fun i=>jC 48 i&&jC i 57
def Su:List IE→Bool
 |[]=>false
 |a::r=>vM a&&(match r with|[]=>true|b::r=>vM b&&tn r)
def Dg(v:AV):Bool:=Nat.beq 4 v.ctorIdx&&Su (wA v).y
def VG:Fl×Env×AS→Bool:=nx fun ρ s=>kQ (az ρ 40) (JF 0)&&(kQ (az ρ 36) (MO (.v 0))&&(kQ (az ρ 184) Dg&&(Nat.beq s.n 1&&Ct s (.v 22) (.v 43) (.v 62))))
def MI(π:Nat→Nat)(s:AS):Bool:=gv.ents.all (fun p=>Nat.blt p.1 78&&kQ (s.hp.get (π p.1)) (H0 79 π p.2))&&kQ (s.hp.get (π 78)) (H0 79 π Ks)
def VF:Fl×Env×AS→Bool:=nx fun ρ s=>kQ (az ρ 36) (MO (.v 0))&&(kQ (az ρ 184) (MN 1)&&(kQ (az ρ 160) (MM Kr)&&(kQ (az ρ 139) (JF (πA 0))&&(MI πA s&&Np.all (fun i=>Nat.blt i s.n)))))
theorem SH:md VG ((run PA cV 3000 60).xs JP sH vi)=true:=by kernel_rfl
theorem SG:md VF ((run PA cV 3000 60).xs EX BH Mf)=true:=by kernel_rfl
theorem J6:gO Np=true:=by kernel_rfl
theorem xF:Np.length=79:=by kernel_rfl
theorem IS:gv.ents.all (fun p=>Nat.blt p.1 78&&H0 79 id p.2 p.2)=true:=by kernel_rfl
end
noncomputable def bK:AV:=.t []
noncomputable def iW(k:Int):AV:=.int (.c k)
def sN(k:Int):AV:=.t [.t [.str [110,117,109,98,101,114],.t [iW k,iW 0]]]
noncomputable def rf(c:Nat)(x:AV):AV:=.t [.str [114,101,102],.str [c],.t [],x,.none]
def us(a b c:AV):AV:=.t [.str [117,110,115,116,114,105,110,103],(rf 83 bK),.t [.t [.t [.str [116,101,120,116],.bytes [.c (44)]],.bool false]],.t [.t [(rf 73 bK),.none,a],.t [(rf 71 bK),.none,.none]],b,c]
def Mo:List SE:=[⟨136,none,[.ref 0,(rf 83 bK)],.t [.ref 78,(iW 0),.ref 15]⟩,
 ⟨136,none,[.ref 0,(rf 73 bK)],.t [.ref 78,(iW 5),.ref 24]⟩,
 ⟨136,none,[.ref 0,(rf 71 bK)],.t [.ref 78,(iW 6),.ref 33]⟩,
 ⟨136,none,[.ref 0,(rf 67 (sN 1))],.t [.ref 78,(iW 9),.ref 44]⟩,
 ⟨136,none,[.ref 0,(rf 67 (sN 2))],.t [.ref 78,(iW 10),.ref 44]⟩,
 ⟨136,none,[.ref 0,(rf 67 (sN 3))],.t [.ref 78,(iW 11),.ref 44]⟩,
 ⟨136,none,[.ref 0,(rf 67 (sN 4))],.t [.ref 78,(iW 12),.ref 44]⟩,
 ⟨136,none,[.ref 0,(rf 78 (sN 1))],.t [.ref 78,(iW 13),.ref 55]⟩,
 ⟨136,none,[.ref 0,(rf 78 (sN 2))],.t [.ref 78,(iW 15),.ref 55]⟩,
 ⟨136,none,[.ref 0,(rf 78 (sN 3))],.t [.ref 78,(iW 17),.ref 55]⟩,
 ⟨136,none,[.ref 0,(rf 78 (sN 4))],.t [.ref 78,(iW 19),.ref 55]⟩,
 ⟨136,none,[.ref 0,(rf 80 (sN 1))],.t [.ref 78,(iW 21),.ref 66]⟩,
 ⟨136,none,[.ref 0,(rf 80 (sN 2))],.t [.ref 78,(iW 23),.ref 66]⟩,
 ⟨136,none,[.ref 0,(rf 80 (sN 3))],.t [.ref 78,(iW 25),.ref 66]⟩,
 ⟨136,none,[.ref 0,(rf 80 (sN 4))],.t [.ref 78,(iW 27),.ref 66]⟩,
 ⟨167,some 49,[.ref 0,(rf 80 (.t [(rf 73 bK)]))],(rf 80 (sN 1))⟩,
 ⟨168,some 49,[.ref 0,(us (rf 67 (.t [(rf 73 bK)])) (rf 80 (.t [(rf 73 bK)])) (rf 78 (.t [(rf 73 bK)])))],(us (rf 67 (sN 1)) (rf 80 (sN 1)) (rf 78 (sN 1)))⟩,
 ⟨167,some 50,[.ref 0,(rf 80 (.t [(rf 73 bK)]))],(rf 80 (sN 2))⟩,
 ⟨168,some 50,[.ref 0,(us (rf 67 (.t [(rf 73 bK)])) (rf 80 (.t [(rf 73 bK)])) (rf 78 (.t [(rf 73 bK)])))],(us (rf 67 (sN 2)) (rf 80 (sN 2)) (rf 78 (sN 2)))⟩,
 ⟨167,some 51,[.ref 0,(rf 80 (.t [(rf 73 bK)]))],(rf 80 (sN 3))⟩,
 ⟨168,some 51,[.ref 0,(us (rf 67 (.t [(rf 73 bK)])) (rf 80 (.t [(rf 73 bK)])) (rf 78 (.t [(rf 73 bK)])))],(us (rf 67 (sN 3)) (rf 80 (sN 3)) (rf 78 (sN 3)))⟩,
 ⟨167,some 52,[.ref 0,(rf 80 (.t [(rf 73 bK)]))],(rf 80 (sN 4))⟩,
 ⟨168,some 52,[.ref 0,(us (rf 67 (.t [(rf 73 bK)])) (rf 80 (.t [(rf 73 bK)])) (rf 78 (.t [(rf 73 bK)])))],(us (rf 67 (sN 4)) (rf 80 (sN 4)) (rf 78 (sN 4)))⟩,
 ⟨167,some 49,[.ref 0,(rf 80 (.t [.t [.str [45],.t [.str [43],(rf 73 bK),(rf 73 bK)],(rf 73 bK)]]))],(rf 80 (sN 1))⟩,
 ⟨168,some 49,[.ref 0,(us (rf 67 (.t [.t [.str [45],.t [.str [43],(rf 73 bK),(rf 73 bK)],(rf 73 bK)]])) (rf 80 (.t [.t [.str [45],.t [.str [43],(rf 73 bK),(rf 73 bK)],(rf 73 bK)]])) (rf 78 (.t [.t [.str [45],.t [.str [43],(rf 73 bK),(rf 73 bK)],(rf 73 bK)]])))],(us (rf 67 (sN 1)) (rf 80 (sN 1)) (rf 78 (sN 1)))⟩,
 ⟨167,some 50,[.ref 0,(rf 80 (.t [.t [.str [45],.t [.str [43],(rf 73 bK),(rf 73 bK)],(rf 73 bK)]]))],(rf 80 (sN 2))⟩,
 ⟨168,some 50,[.ref 0,(us (rf 67 (.t [.t [.str [45],.t [.str [43],(rf 73 bK),(rf 73 bK)],(rf 73 bK)]])) (rf 80 (.t [.t [.str [45],.t [.str [43],(rf 73 bK),(rf 73 bK)],(rf 73 bK)]])) (rf 78 (.t [.t [.str [45],.t [.str [43],(rf 73 bK),(rf 73 bK)],(rf 73 bK)]])))],(us (rf 67 (sN 2)) (rf 80 (sN 2)) (rf 78 (sN 2)))⟩,
 ⟨167,some 51,[.ref 0,(rf 80 (.t [.t [.str [45],.t [.str [43],(rf 73 bK),(rf 73 bK)],(rf 73 bK)]]))],(rf 80 (sN 3))⟩,
 ⟨168,some 51,[.ref 0,(us (rf 67 (.t [.t [.str [45],.t [.str [43],(rf 73 bK),(rf 73 bK)],(rf 73 bK)]])) (rf 80 (.t [.t [.str [45],.t [.str [43],(rf 73 bK),(rf 73 bK)],(rf 73 bK)]])) (rf 78 (.t [.t [.str [45],.t [.str [43],(rf 73 bK),(rf 73 bK)],(rf 73 bK)]])))],(us (rf 67 (sN 3)) (rf 80 (sN 3)) (rf 78 (sN 3)))⟩,
 ⟨167,some 52,[.ref 0,(rf 80 (.t [.t [.str [45],.t [.str [43],(rf 73 bK),(rf 73 bK)],(rf 73 bK)]]))],(rf 80 (sN 4))⟩,
 ⟨168,some 52,[.ref 0,(us (rf 67 (.t [.t [.str [45],.t [.str [43],(rf 73 bK),(rf 73 bK)],(rf 73 bK)]])) (rf 80 (.t [.t [.str [45],.t [.str [43],(rf 73 bK),(rf 73 bK)],(rf 73 bK)]])) (rf 78 (.t [.t [.str [45],.t [.str [43],(rf 73 bK),(rf 73 bK)],(rf 73 bK)]])))],(us (rf 67 (sN 4)) (rf 80 (sN 4)) (rf 78 (sN 4)))⟩]
section
def PS:Pg:=⟨AA,jR,GC,Et,78,MW Mo 78,39⟩
def Qx:Pg:=⟨AA,jR,GC,Et,78,fun Y Y Y=>none,0⟩
noncomputable def sj(k:Nat):IE:=.tab [44,50,51,49,52] (.v k)
noncomputable def dig(k:Nat):IE:=.add (.v k) (.c 48)
def vA(a:Int):List IE:=[sj 0,sj 1,sj 2,sj 3,sj 4,.c (49+a),.c 103,.c 104,.c 105,dig 5,dig 6,dig 7,dig 8,dig 9,dig 13,dig 10,dig 14,dig 11,dig 15,dig 12,dig 16,.c 48,dig 17,.c 48,dig 18,.c 48,dig 19,.c 48,dig 20]
noncomputable def Mg:Rg:=[(0,4),(0,4),(0,4),(0,4),(0,4),(0,9),(0,9),(0,9),(0,9),(0,8),(0,8),(0,8),(0,8),(0,9),(0,9),(0,9),(0,9),(0,7),(0,7),(0,7),(0,7),(0,9),(0,9)]
noncomputable def FH:List IE:=(List.range 29).map fun j=>.v (23+j)
def Q7:Rg:=Mg++List.replicate 29 (0,255)
def sB:AS:=⟨aE.put 40 gv 78 Ks,79,Mg⟩
def sS:AS:=⟨aE.put 40 gv 78 (.cb FH),79,Q7⟩
noncomputable def MT:List CS:=(hJ.drop 3).take 4
noncomputable def Mc:List CS:=hJ.drop 7
noncomputable def Fu:AV:=.t [.str [114,101,102],.str [73],.t [],.t [],.none]
def J4(f:Int):AV:=.t [.str [114,101,102],.str [80],.t [],.t [match ig f 0 with|true=>Fu|false=>.t [.str [45],.t [.str [43],Fu,Fu],Fu]],.none]
def Ni(f a:Int):Env:=[(36,.int (.c f)),(184,.mj 1),(160,.bytes (vA a)),(139,.ref 0)]
def OI:Bool→AV
 |true=>.bytes [dig 21]
 |false=>.bytes [dig 21,dig 22]
def Nh(f a:Int)(l:Bool):Env:=[(184,OI l),(160,.bytes (vA a)),(139,.ref 0),(199,J4 f)]
def pB(f a:Int):Fl×Env×AS→Bool:=nx fun ρ s=>kQ (az ρ 160) (MM (vA a))&&(kQ (az ρ 139) (JF 0)&&(kQ (az ρ 184) (MN 1)&&(kQ (az ρ 199) (xC 79 id 20 (J4 f))&&kQ (rK s (.ref 78)) fun b=>Nat.beq b.length 29)))
def pS(p:Fl×Env×AS):Bool:=match p.1 with|.rt v=>Nat.beq 1 v.ctorIdx&&(wA v).b|.nx=>false
def Gs(f a:Int):Bool:=md (pB f a) ((run PS cV 3000 60).xs MT (Ni f a) sB)
def uh(f a:Int)(l:Bool):Bool:=md pS ((run PS cV 3000 60).xs Mc (Nh f a l) sS)
structure mf:Prop where
 b:∀f a:Nat,f<2→a<4→Gs f a=true
 s:∀(f a:Nat)(l:Bool),f<2→a<4→uh f a l=true
 t:Mo.all (Me Qx cV gv 78 3000 40)=true
end
section
noncomputable def jS:List (Addr×Addr)→Heap→Heap
 |[],h=>h
 |p::r,h=>jS r (h.update p.2 fun Y=>gu)
theorem yU(h:Heap)(a:Addr):(h.update a fun Y=>gu).get? a=none:=by
 show(match(h.objs.modify a fun Y=>gu)[a]? with|some ⟨_,_,.freed,_⟩=>none|o=>o)=none
 rw [Array.getElem?_modify,if_pos rfl];cases h.objs[a]?<;>rfl
theorem nS(l:List (Addr×Addr))(h:Heap)(b:Addr)(o:Obj)(e:(jS l h).get? b=some o):h.get? b=some o∧∀p∈l,b≠p.2:=by
 induction l generalizing h with
 |nil=>exact⟨e,fun Y m=>nomatch m⟩
 |cons p r ih=>
  refine aw (ih _ e:) fun a1 a2=>?_
  by_cases q:b=p.2
  ·subst q;rw [yU]at a1;injection a1
  ·rw [Heap.get?_update_ne _ _ _ _ q]at a1
   exact⟨a1,fun x m=>by
    rcases al_mc m with rfl|m
    ·exact q
    ·exact a2 x m⟩
theorem lK:∀(l:List (Addr×Addr))(h:Heap)(b:Addr),(∀p∈l,b≠p.2)→(jS l h).get? b=h.get? b
 |[],h,b,_=>rfl
 |p::r,h,b,q=>by
  show(jS r (h.update p.2 fun Y=>gu)).get? b=_
  rw [lK r _ b fun x m=>q x (al_con _ m),Heap.get?_update_ne _ _ _ _ (q p al_self)]
theorem pG{P:Params}(F:iD (Em P) (Bq P))(hk:∀b o,(lR P).get? b=some o→h.get? b=some o):oG (Em P) (jS dZ h):=by
 intro a o e h1 h2
 by_cases q:∃p∈dZ,a=p.2
 ·exfalso
  obtain⟨p,m,rfl⟩:=q
  have hs:((Bq P).get p.2).isSome=true:=by rw [all1 F.tabs m];rfl
  have:=zF dZ (Bq P) p.2 hs (.inl ⟨p,m,rfl⟩)
  rw [show(Em P).get p.2=some gu from this]at e
  injection e with e;subst e;injection h2
 ·have q:∀p∈dZ,a≠p.2:=fun p m e=>q ⟨p,m,e⟩
  rw [lK dZ h a q];refine hk a o ?_;have e':(Bq P).get a=some o:=(CY dZ (Bq P) a q).symm.trans e
  unfold lR;rw [abs_get (t:=zN P (gW P 259)) (al_ble h1) e']
  obtain⟨c,d,dt,sl⟩:=o
  cases dt<;>first|rfl|injection h2
structure Base(w:World)(h:Heap)(la:Addr)(is:List Int)(W:Int)where
 vs:List Value
 nn:Nat
 N:ki
 F:iD (Em w.params) (Bq w.params)
 keep:∀b o,(lR w.params).get? b=some o→h.get? b=some o
 list:h.get? la=some (bS vs nn)
 V9:∀(C:Cx) J M h,ay C J M h (cI is) vs
 NH:∀p∈dZ,la≠p.2
 W0:0≤W
 W1:W<2^400
 hW:(run PH cV 100 20).ca (.fn 171) [.ref 0] (d8 is)=.ok (.ref 2,fy is W)
section
variable(B:Base w h la is W)
def Cb(w:World)(h:Heap)(ν:Nat→Int)(nf:Nat)(f0:aE AO)(U:Nat→Value):Cx:=Dz w ν nf f0 (jS dZ h) (nX (Em w.params)) U
include B
theorem Jy(ν:Nat→Int)(nf:Nat)(f0:aE AO)(U:Nat→Value){sm:Nat→List AV→AS→Option (aH (AV×AS))}{smd:Nat}(hs:L4 (Cb w h ν nf f0 U) (Nq nf sm smd)):WF (Cb w h ν nf f0 U) (Nq nf sm smd) cV:=
 QL B.N (pG B.F B.keep) rfl B.F hs
theorem qL(ν:Nat→Int)(nf:Nat)(f0:aE AO)(U:Nat→Value):WF (Cb w h ν nf f0 U) (Nq nf (fun Y Y Y=>none) 0) cV:=Jy B ν nf f0 U fun Y Y Y Y Y Y e=>by injection e
theorem Jz(U:Nat→Value)(hU:U 0=.ref la):WF (Cb w h (ν0 W) 0 .nil U) PA cV:=
 Jy B (ν0 W) 0 .nil U (sm:=Qh) (smd:=19) fun k as s r v s' e1 e2 Z J M A st ras S R z V Q E K=>
  JU (C:=Cb w h (ν0 W) 0 .nil U) (W:=W) (la:=la) (is:=is) (vs:=B.vs) (nn:=B.nn) rfl rfl hU B.W0 B.W1 (fun eV Dl=>qL B eV 1 Dl U) (fun eV Dl=>qL B eV 0 Dl U)
   (by show(jS dZ h).get? la=_;rw [lK dZ h la B.NH];exact B.list) B.V9 B.hW k as s r v s' e1 e2 Z J M A st ras S R z V Q E K
theorem MJ(T:Mo.all (Me Qx cV gv 78 3000 40)=true)(ν:Nat→Int)(U:Nat→Value):WF (Cb w h ν 78 gv U) PS cV:=
 Jy B ν 78 gv U (sm:=MW Mo 78) (smd:=39) (JR (C:=Cb w h ν 78 gv U) (P:=Qx) (N:=cV) (m:=78) (fuel:=3000) (dep:=40) (tab:=Mo) (by decide) rfl (fun eV=>qL B eV 78 gv U) (by decide)
  (fun i o e=>by
   have:=al_all IS _ (aE.fi e)
   refine aw (ae this:) fun a b=>?_
   exact⟨al_ble a,b⟩) (fun e m=>al_all T e m))
end
end
section
theorem bh{α:Type}{a b:α}{l m:List α}(h:a=b)(g:l=m):a::l=b::m:=by rw [h,g]
noncomputable def Fm(d:Int):Int:=([1,0,2,3,4,0]:List Int).getD d.toNat 0
def ν1(W d0 d1:Int)(j:Nat):Int:=if j<5 then Fm (ν0 W (2+j))else if j<9 then ν0 W (j+3)else if j<13 then Int.fdiv (ν0 W (j+3)) 10 else if j<17 then Int.fmod (ν0 W (j - 1)) 10 else if j<21 then ν0 W (j - 1)else if j=21 then d0 else if j=22 then d1 else 0
section
theorem l0(j:Nat)(m:Int)(h:mK j=m)(hj:j<20):0≤ν0 W j∧ν0 W j≤m - 1:=h▸Pj j hj
theorem tE(j:Nat)(hj:j<5):IE.eval (ν1 W d0 d1) (sj j)=IE.eval (ν0 W) (.tab [50,44,51,49,52,44] (.v (2+j))):=by
 have hm:mK (2+j)=6:=by
  have:∀j:Fin 5,mK (2+j.1)=6:=by decide
  exact this ⟨j,hj⟩
 have b:=l0 (W:=W) (2+j) 6 hm (Nat.lt_of_lt_of_le (Nat.add_lt_add_left hj 2) (by decide))
 show([44,50,51,49,52]:List Int).getD (ν1 W d0 d1 j).toNat 0=([50,44,51,49,52,44]:List Int).getD (ν0 W (2+j)).toNat 0;have e:ν1 W d0 d1 j=Fm (ν0 W (2+j)):=by unfold ν1;rw [if_pos hj]
 rw [e]
 generalize ν0 W (2+j)=x at b
 have:x=0∨x=1∨x=2∨x=3∨x=4∨x=5:=by lia
 rcases this with rfl|rfl|rfl|rfl|rfl|rfl<;>rfl
theorem cE(j:Nat)(h1:5≤j)(h2:j<9):IE.eval (ν1 W d0 d1) (dig j)=IE.eval (ν0 W) (.add (.v (j+3)) (.c 48)):=by
 show ν1 W d0 d1 j+48=ν0 W (j+3)+48;unfold ν1;rw [if_neg (by lia),if_pos h2]
theorem dE(j:Nat)(h1:9≤j)(h2:j<13):IE.eval (ν1 W d0 d1) (dig j)=IE.eval (ν0 W) (.add (.div (.v (j+3)) (.c 10)) (.c 48)):=by
 show ν1 W d0 d1 j+48=Int.fdiv (ν0 W (j+3)) 10+48;unfold ν1;rw [if_neg (by lia),if_neg (by lia),if_pos h2]
theorem uE(j:Nat)(h1:13≤j)(h2:j<17):IE.eval (ν1 W d0 d1) (dig j)=IE.eval (ν0 W) (.add (.mod (.v (j - 1)) (.c 10)) (.c 48)):=by
 show ν1 W d0 d1 j+48=Int.fmod (ν0 W (j - 1)) 10+48;unfold ν1;rw [if_neg (by lia),if_neg (by lia),if_neg (by lia),if_pos h2]
theorem pE(j:Nat)(h1:17≤j)(h2:j<21):IE.eval (ν1 W d0 d1) (dig j)=IE.eval (ν0 W) (.add (.v (j - 1)) (.c 48)):=by
 show ν1 W d0 d1 j+48=ν0 W (j - 1)+48;unfold ν1;rw [if_neg (by lia),if_neg (by lia),if_neg (by lia),if_neg (by lia),if_pos h2]
theorem zE(k:Nat)(h1:16≤k)(h2:k<20)(ν:Nat→Int):IE.eval ν (.c 48)=IE.eval (ν0 W) (.add (.div (.v k) (.c 10)) (.c 48)):=by
 have hm:mK k=8:=by
  have:∀j:Fin 4,mK (16+j.1)=8:=by decide
  have:=this ⟨k - 16,Nat.sub_lt_left_of_lt_add h1 h2⟩
  rwa[Nat.add_sub_cancel' h1]at this
 have b:=l0 (W:=W) k 8 hm h2
 show(48:Int)=Int.fdiv (ν0 W k) 10+48;rw [Int.fdiv_eq_ediv_of_nonneg _ (by decide),Int.ediv_eq_zero_of_lt b.1 (by lia)];rfl
theorem Ci{a:Nat}(ha:ν0 W 7=a):(vA a).map (fun e=>e.eval (ν1 W d0 d1))=Kr.map (fun e=>e.eval (ν0 W)):=by
 have hi:IE.eval (ν1 W d0 d1) (.c (49+a))=IE.eval (ν0 W) (.add (.v 7) (.c 49)):=by show(49+(a:Int))=ν0 W 7+49;lia
 refine bh (tE 0 (by decide))<|bh (tE 1 (by decide))<|bh (tE 2 (by decide))<|bh (tE 3 (by decide))<|bh (tE 4 (by decide))<|bh hi<|bh rfl<|bh rfl<|bh rfl<|
  bh (cE 5 (by decide) (by decide))<|bh (cE 6 (by decide) (by decide))<|bh (cE 7 (by decide) (by decide))<|bh (cE 8 (by decide) (by decide))<|
  bh (dE 9 (by decide) (by decide))<|bh (uE 13 (by decide) (by decide))<|bh (dE 10 (by decide) (by decide))<|bh (uE 14 (by decide) (by decide))<|
  bh (dE 11 (by decide) (by decide))<|bh (uE 15 (by decide) (by decide))<|bh (dE 12 (by decide) (by decide))<|bh (uE 16 (by decide) (by decide))<|
  bh (zE 16 (by decide) (by decide) _)<|bh (pE 17 (by decide) (by decide))<|bh (zE 17 (by decide) (by decide) _)<|bh (pE 18 (by decide) (by decide))<|
  bh (zE 18 (by decide) (by decide) _)<|bh (pE 19 (by decide) (by decide))<|bh (zE 19 (by decide) (by decide) _)<|bh (pE 20 (by decide) (by decide)) rfl
theorem Nu(j:Nat)(h:mK j=6)(hj:j<20):0≤Fm (ν0 W j)∧Fm (ν0 W j)≤4:=by
 have b:=l0 (W:=W) j 6 h hj
 generalize ν0 W j=x at b
 have:x=0∨x=1∨x=2∨x=3∨x=4∨x=5:=by lia
 rcases this with rfl|rfl|rfl|rfl|rfl|rfl<;>decide
theorem J8(j:Nat)(h:mK j=10)(hj:j<20):0≤ν0 W j∧ν0 W j≤9:=l0 j 10 h hj
theorem Nv(j:Nat)(h:mK j=8)(hj:j<20):0≤ν0 W j∧ν0 W j≤7:=l0 j 8 h hj
theorem Nm(j:Nat)(h:mK j=90)(hj:j<20):0≤Int.fdiv (ν0 W j) 10∧Int.fdiv (ν0 W j) 10≤8:=by
 have b:=l0 (W:=W) j 90 h hj
 rw [Int.fdiv_eq_ediv_of_nonneg _ (by decide)]
 lia
theorem xD(x:Int):0≤Int.fmod x 10∧Int.fmod x 10≤9:=by
 rw [Int.fmod_eq_emod_of_nonneg _ (by decide)]
 lia
theorem BI(h0:0≤d0∧d0≤9)(h1:0≤d1∧d1≤9):bX (ν1 W d0 d1) Mg:=by
 refine mO.ok (ν:=ν1 W d0 d1) (l:=Mg) ?_
 have T:=fun j a b=>Nu (W:=W) j a b
 have U:=fun j a b=>J8 (W:=W) j a b
 have V:=fun j a b=>Nm (W:=W) j a b
 have X:=fun j a b=>Nv (W:=W) j a b
 exact⟨T 2 rfl (by decide),T 3 rfl (by decide),T 4 rfl (by decide),T 5 rfl (by decide),T 6 rfl (by decide),
  U 8 rfl (by decide),U 9 rfl (by decide),U 10 rfl (by decide),U 11 rfl (by decide),
  V 12 rfl (by decide),V 13 rfl (by decide),V 14 rfl (by decide),V 15 rfl (by decide),
  xD _,xD _,xD _,xD _,X 16 rfl (by decide),X 17 rfl (by decide),X 18 rfl (by decide),X 19 rfl (by decide),h0,h1,trivial⟩
noncomputable def ν2(ν:Nat→Int)(b:List IE)(j:Nat):Int:=if j<23 then ν j else(b.map fun e=>e.eval ν).getD (j - 23) 0
theorem Cj{eV:Nat→Int}(h:∀j,j<23→eV j=ν j)(a:Int):(vA a).map (fun e=>e.eval eV)=(vA a).map (fun e=>e.eval ν):=by
 have t:∀j,j<23→IE.eval eV (sj j)=IE.eval ν (sj j):=fun j hj=>by show List.getD _ (eV j).toNat 0=List.getD _ (ν j).toNat 0;rw [h j hj]
 have d:∀j,j<23→IE.eval eV (dig j)=IE.eval ν (dig j):=fun j hj=>by show eV j+48=ν j+48;rw [h j hj]
 refine bh (t 0 (by decide))<|bh (t 1 (by decide))<|bh (t 2 (by decide))<|bh (t 3 (by decide))<|bh (t 4 (by decide))<|bh rfl<|bh rfl<|bh rfl<|bh rfl<|
  bh (d 5 (by decide))<|bh (d 6 (by decide))<|bh (d 7 (by decide))<|bh (d 8 (by decide))<|
  bh (d 9 (by decide))<|bh (d 13 (by decide))<|bh (d 10 (by decide))<|bh (d 14 (by decide))<|
  bh (d 11 (by decide))<|bh (d 15 (by decide))<|bh (d 12 (by decide))<|bh (d 16 (by decide))<|
  bh rfl<|bh (d 17 (by decide))<|bh rfl<|bh (d 18 (by decide))<|
  bh rfl<|bh (d 19 (by decide))<|bh rfl<|bh (d 20 (by decide)) rfl
theorem zl(hl:b.length=29):FH.map (fun e=>e.eval (ν2 ν b))=b.map (fun e=>e.eval ν):=by
 apply List.ext_getElem?
 intro j;unfold FH;rw [List.map_map,List.getElem?_map,List.getElem?_map];rcases Nat.lt_or_ge j 29 with hj|hj
 ·rw [List.getElem?_range hj,List.getElem?_eq_getElem (by lia)]
  show some (ν2 ν b (23+j))=some (b[j].eval ν);unfold ν2;rw [if_neg (by lia),show 23+j - 23=j by lia,List.getD_eq_getElem?_getD,List.getElem?_map,List.getElem?_eq_getElem (by lia)];rfl
 ·rw [List.getElem?_eq_none (by rw [List.length_range];lia),List.getElem?_eq_none (by lia)];rfl
set_option tactic.hygienic true in
theorem J0(h:bX ν Mg)(hl:b.length=29)(hb:bk ν b):bX (ν2 ν b) Q7:=by
 intro k p q;unfold Q7 at q;rcases Nat.lt_or_ge k 23 with hk|hk
 ·rw [List.getElem?_append_left (by exact hk)]at q
  unfold ν2;rw [if_pos hk];exact h k p q
 ·rw [List.getElem?_append_right (by exact hk),List.getElem?_replicate]at q
  have Mi:k - Mg.length=k - 23:=rfl
  rw [Mi]at q;split at q
  ·rename_i hj
   injection q with q;subst q;unfold ν2;rw [if_neg (by lia),List.getD_eq_getElem?_getD,List.getElem?_map,List.getElem?_eq_getElem (by lia)]
   have:=hb b[k - 23] (List.getElem_mem _)
   show 0≤b[k - 23].eval ν∧b[k - 23].eval ν≤255
   lia
  ·injection q
end
end
section
section
def KF(w:World)(h:Heap)(kd:Kd)(cs:Bool)(env:PySem.Env)(own:Addr→Prop)(h₀:Heap)(M₀ Z₀:Addr→Prop)(st:Shared)(Q:Flow→Shared→Prop):Prop:=
 ∀ν nf f0 U σ' M' Z' h' s' ρ' tk,Way h₀ M₀ Z₀ σ' M' Z' h'→aq (Cb w h ν nf f0 U) σ' M' s' h'→cW (Cb w h ν nf f0 U) Z' σ' M' own kd cs env ρ' h'→Q (.ret (.bool true)) {st with heap:=h',toks:=tk}
variable{kd:Kd}{cs:Bool}{xs:List Stmt}{own:Addr→Prop}{h₀:Heap}{env:PySem.Env}{A:Around}
theorem Fs{x:Fl×Env×AS}{fl:Flow}(p:pS x=true)(r:uO C J M h x.1 fl):fl=.ret (.bool true):=by
 obtain⟨f,ρ,s⟩:=x
 cases f with
 |nx=>exact Bool.noConfusion p
 |rt v=>
  refine aw (ae (p:(Nat.beq 1 v.ctorIdx&&(wA v).b)=true)) fun t b=>?_
  have t:v=.bool (wA v).b:=gL t
  rw [b]at t;exact aC (r:) fun rv q V=>q.trans (congrArg Flow.ret ((t▸V:ao C J M h (.bool true) rv).inv))
theorem Gh(B:Base w h la is W)(EV:mf){f a:Nat}{l:Bool}(hf:f<2)(ha:a<4)(hfit:cQ (Cb w h ν 78 gv U) kd cs Mc xs)(F:cW (Cb w h ν 78 gv U) Z J M own kd cs env (Nh f a l) st.heap)
  (S:aq (Cb w h ν 78 gv U) J M sS st.heap)(R:bz A 60)(z:bZ (Cb w h ν 78 gv U) Z J st.heap)(Wy:Way h₀ M₀ Z₀ J M Z st.heap)(K:KF w h kd cs env own h₀ M₀ Z₀ st Q):ab (Md (Cb w h ν 78 gv U)) A (execs xs env) Q E st:=by
 refine aC (eT ν (EV.s f a l hf ha)) fun x e p=>?_
 refine(sound (MJ B EV.t ν U) 3000 (by decide) 60).2.2.1 Mc (Nh f a l) sS x.1 x.2.1 x.2.2 e kd cs xs hfit Z J M own env A st F S R z Q E ?_
 intro σ' M' h' tk OH G S' F' r;exact Fs p r▸K ν 78 gv U σ' M' Z h' x.2.2 x.2.1 tk (Wy.go G) S' F'
theorem BP{rv:Value}(V:ao C J M h v rv)(e:v=.mj i):rv=C.U i:=(e▸V:ao C J M h (.mj i) rv).inv
theorem vo{rv:Value}(V:ao C J M h v rv)(e:v=.ref i):∃a,rv=.ref a∧J[i]?=some a:=(e▸V:ao C J M h (.ref i) rv).inv
theorem nu{π:Nat→Nat}{m j:Nat}{a:Addr}(hj:j<m)(q:J[π j]?=some a):(bR J π m)[j]?=some a:=(kK hj).trans (congrArg some (by rw [List.getD_eq_getElem?_getD,q];rfl))
theorem kM{C':Cx}{h':Heap}{x l:List IE}{rv:Value}(V:ao C J M h (.bytes x) rv)(e:l.map (fun e=>e.eval C'.ν)=x.map (fun e=>e.eval C.ν)):ao C' σ' M' h' (.bytes l) rv:=
 aw V.inv fun B q=>q.elim fun t q=>aw (gK e) fun b1 b2=>q▸b1▸.bytes _ t (b2 B)
def yF(ν:Nat→Int)(l:Bool)(v:Value):Prop:=∀(C:Cx) J M h,C.ν=ν→ao C J M h (OI l) v
theorem OS{o:AO}(e:gv.get i=some o):i<78∧H0 79 id o o=true:=
 (ae (al_all IS _ (aE.fi e))).imp al_ble id
theorem Jg(aD:aq (Cb w h (ν1 W d0 d1) 78 gv U) aA aN ag h₁)(hb:ag.get 78=some (.cb b)):cF (Cb w h (ν1 W d0 d1) 78 gv U) aA aN h₁ (.cb b) (aA.getD 78 0):=
 aD.obj 78 _ _ hb (nW (aD.len▸aD.low 78 _ hb))
theorem Xc(Er:0≤d0∧d0≤9)(v8:0≤d1∧d1≤9)(aD:aq (Cb w h (ν1 W d0 d1) 78 gv U) aA aN ag h₁)(hb:ag.get 78=some (.cb b))(hbl:b.length=29)(dF:∀j,j<79→id j<ag.n):
  aq ((Cb w h (ν1 W d0 d1) 78 gv U).re (ν2 (ν1 W d0 d1) b) 78 gv U) (bR aA id 79) (rQ aN (bR aA id 79) 78) sS h₁:=by
 have lo:∀i o,sS.hp.get i=some o→i<79∧∀(σ':List Addr)(M':Addr→Prop),Hj (Cb w h (ν1 W d0 d1) 78 gv U) aA σ' aN M' 79 id→cF ((Cb w h (ν1 W d0 d1) 78 gv U).re (ν2 (ν1 W d0 d1) b) 78 gv U) σ' M' h₁ o (aA.getD i 0):=fun i o q=>
  (qU (t:=gv) (k:=78) (m0:=.cb FH) (by decide) q).elim (fun q=>by rw [q.1,q.2];exact⟨by decide,fun Y Y Y=>xA (Jg aD hb) (zl hbl)⟩) fun q=>have f:=OS q;have hi:=Nat.lt_succ_of_lt f.1
   ⟨hi,fun Y Y X=>vp X f.2 (aD.obj i o _ ((aD.gC.2 i f.1).trans q) (nW (aD.len▸dF i hi)))⟩
 exact aq.dS (s':=sS) (π:=id) aD (by show 79≤1000000;decide) (by show 78≤79;decide) dF (fun i j Y Y q=>q) (fun i hi=>AS.br gv 40 78 i _ (Nat.ne_of_gt hi)) (fun i hi Y=>hi) (fun i o q=>(lo i o q).1) (fun i o q=>(lo i o q).2) (J0 (BI Er v8) hbl (mM (Jg aD hb)).2)
theorem Xd{f a:Nat}{l:Bool}(hfig:∀eV,eV 21=d0→eV 22=d1→yF eV l (U 1)){bT:Env}(aD:aq (Cb w h (ν1 W d0 d1) 78 gv U) aA aN ag h₁)(cH:cW (Cb w h (ν1 W d0 d1) 78 gv U) Z aA aN own kd cs env bT h₁)(dF:∀j,j<79→id j<ag.n)
  (p1:kQ (az bT 160) (MM (vA a))=true)(p2:kQ (az bT 139) (JF 0)=true)(p3:kQ (az bT 184) (MN 1)=true)(p4:kQ (az bT 199) (xC 79 id 20 (J4 f))=true):
  cW ((Cb w h (ν1 W d0 d1) 78 gv U).re (ν2 (ν1 W d0 d1) b) 78 gv U) (I1 Z aA (bR aA id 79)) (bR aA id 79) (rQ aN (bR aA id 79) 78) own kd cs env (Nh f a l) h₁:=by
 have low:∀j,j<23→ν2 (ν1 W d0 d1) b j=ν1 W d0 d1 j:=fun j hj=>if_pos hj
 refine aC (dC p1) fun x1 g1 e1=>?_
 refine aC (dC p2) fun x2 g2 e2=>?_
 refine aC (dC p3) fun x3 g3 e3=>?_
 refine aC (dC p4) fun x4 g4 e4=>?_
 refine cH.j7 aD dF fun y v' e=>lT.at_ (ρ:=Nh f a l) (p:=fun y v'=>gM (kd.k ((Cb w h (ν1 W d0 d1) 78 gv U).nm y))→∃rv,dy (fun a=>Z a∨own a) aN env h₁ ((Cb w h (ν1 W d0 d1) 78 gv U).nm y) rv∧ao ((Cb w h (ν1 W d0 d1) 78 gv U).re (ν2 (ν1 W d0 d1) b) 78 gv U) (bR aA id 79) (rQ aN (bR aA id 79) 78) h₁ v' rv) ⟨?_,?_,?_,?_,trivial⟩ e
 ·exact cH.tell g3 fun rv V=>(BP V (Bn e3)).symm▸hfig (ν2 (ν1 W d0 d1) b) (low 21 (by decide)) (low 22 (by decide)) _ _ _ _ rfl
 ·exact cH.tell g1 fun rv V=>aC (Bm e1) fun x q e=>kM (q▸V) ((Cj low a).trans (kR (ν1 W d0 d1) e).symm)
 ·exact cH.tell g2 fun rv V=>aC (vo V (vd e2)) fun x q hx=>q▸.ref 0 x (nu (by decide) hx)
 ·exact cH.tell g4 fun rv V=>qS nr 20 _ _ _ e4 V
theorem J7(B:Base w h la is W)(EV:mf)(Er:0≤d0∧d0≤9)(v8:0≤d1∧d1≤9){f a:Nat}{l:Bool}(hf:f<2)(ha:a<4)(hfig:∀eV,eV 21=d0→eV 22=d1→yF eV l (U 1))
  {xs ys:List Stmt}(hfit:cQ (Cb w h (ν1 W d0 d1) 78 gv U) kd cs MT xs)(Oq:cQ (Cb w h (ν1 W d0 d1) 78 gv U) kd cs Mc ys)(F:cW (Cb w h (ν1 W d0 d1) 78 gv U) Z J M own kd cs env (Ni f a) st.heap)
  (S:aq (Cb w h (ν1 W d0 d1) 78 gv U) J M sB st.heap)(R:bz A 60)(z:bZ (Cb w h (ν1 W d0 d1) 78 gv U) Z J st.heap)(nR:∀a,M₀ a→∃o,h₀.get? a=some o)(Wy:Way h₀ M₀ Z₀ J M Z st.heap)(K:KF w h kd cs env own h₀ M₀ Z₀ st Q):
  ab (Md (Cb w h (ν1 W d0 d1) 78 gv U)) A (execs (xs++ys) env) Q E st:=by
 refine aC (eT (ν1 W d0 d1) (EV.b f a hf ha)) fun x e p=>?_
 refine fu ((sound (MJ B EV.t (ν1 W d0 d1) U) 3000 (by decide) 60).2.2.1 MT (Ni f a) sB x.1 x.2.1 x.2.2 e kd cs xs hfit Z J M own env A st F S R z _ E ?_)
 intro aA aN h₁ tk OH G aD cH r;refine aw (B0 p) fun q p=>?_
 cases rA q r
 refine aw (ae p) fun p1 p=>?_
 refine aw (ae p) fun p2 p=>?_
 refine aw (ae p) fun p3 p=>?_
 refine aw (ae p) fun p4 p5=>?_
 refine aC (dC p5) fun b hb hbl=>?_
 have hb:=qt hb
 have dF:∀j,j<79→id j<x.2.2.n:=fun j hj=>Nat.lt_of_le_of_lt (Nat.le_of_lt_succ hj) (aD.low 78 _ hb)
 exact Gh (ν:=ν2 (ν1 W d0 d1) b) (U:=U) (st:={st with heap:=h₁,toks:=tk}) B EV hf ha Oq.re (Xd hfig aD cH dF p1 p2 p3 p4) (Xc Er v8 aD hb (al_beq hbl) dF) R (bZ.dS aD (z.bF G) dF) ((Wy.go G).j7 aD dF nR) K
end
end
section
theorem u6{j:Nat}(hj:j<79):Np[j]?=some (πA j):=by
 unfold πA;rw [List.getD_eq_getElem?_getD,List.getElem?_eq_getElem (by rw [xF];exact hj)];rfl
theorem Ez{j:Nat}(hi:i<79)(hj:j<79)(e:πA i=πA j):i=j:=by
 have nd:=jB J6
 have a:=u6 hi
 have b:=u6 hj
 rw [←e]at b;exact(List.getElem?_inj (by rw [xF];exact hi) nd).mp (a.trans b.symm)
section
variable{kd:Kd}{cs:Bool}{own:Addr→Prop}{h₀:Heap}{env:PySem.Env}{A:Around}
theorem Cc{x m:Int}(b:0≤x∧x≤m - 1):∃a:Nat,x=a∧(x:Int)<m:=⟨x.toNat,(Int.toNat_of_nonneg b.1).symm,Int.lt_of_le_sub_one b.2⟩
theorem Tw(Er:0≤d0∧d0≤9)(v8:0≤d1∧d1≤9)(aD:aq (Cb w h (ν0 W) 0 .nil U) aA aN ag h₁)(dF:∀j,j<79→πA j<ag.n)(p5:MI πA ag=true):
  aq ((Cb w h (ν0 W) 0 .nil U).re (ν1 W d0 d1) 78 gv U) (bR aA πA 79) (rQ aN (bR aA πA 79) 78) sB h₁:=by
 have lo:∀i o,sB.hp.get i=some o→i<79∧kQ (ag.hp.get (πA i)) (H0 79 πA o)=true:=fun i o q=>
  (qU (t:=gv) (k:=78) (m0:=Ks) (by decide) q).elim (fun q=>by rw [q.1,q.2];exact⟨by decide,(ae p5).2⟩) fun q=>(ae (al_all (ae p5).1 _ (aE.fi q))).imp (fun q=>Nat.lt_succ_of_lt (al_ble q)) id
 exact aq.dS (s':=sB) (π:=πA) aD (by show 79≤1000000;decide) (by show 78≤79;decide) dF (fun i j hi hj q=>Ez hi hj q) (fun i hi=>AS.br gv 40 78 i _ (Nat.ne_of_gt hi)) (fun i Y Y=>Nat.zero_le _) (fun i o q=>(lo i o q).1)
  (fun i o q σ' M' X=>aC (dC (lo i o q).2) fun o' g e=>vp X e (aD.obj (πA i) o' _ g (nW (aD.len▸dF i (lo i o q).1)))) (BI Er v8)
theorem Tz{f a:Nat}{bT:Env}(aD:aq (Cb w h (ν0 W) 0 .nil U) aA aN ag h₁)(cH:cW (Cb w h (ν0 W) 0 .nil U) Z aA aN own kd cs env bT h₁)(dF:∀j,j<79→πA j<ag.n)(ha:ν0 W 7=a)(hf:ν0 W 0=f)
  (p1:kQ (az bT 36) (MO (.v 0))=true)(p2:kQ (az bT 184) (MN 1)=true)(p3:kQ (az bT 160) (MM Kr)=true)(p4:kQ (az bT 139) (JF (πA 0))=true):
  cW ((Cb w h (ν0 W) 0 .nil U).re (ν1 W d0 d1) 78 gv U) (I1 Z aA (bR aA πA 79)) (bR aA πA 79) (rQ aN (bR aA πA 79) 78) own kd cs env (Ni f a) h₁:=by
 refine aC (dC p1) fun x1 g1 e1=>?_
 refine aC (dC p2) fun x2 g2 e2=>?_
 refine aC (dC p3) fun x3 g3 e3=>?_
 refine aC (dC p4) fun x4 g4 e4=>?_
 refine cH.j7 aD dF fun y v' e=>lT.at_ (ρ:=Ni f a) (p:=fun y v'=>gM (kd.k ((Cb w h (ν0 W) 0 .nil U).nm y))→∃rv,dy (fun a=>Z a∨own a) aN env h₁ ((Cb w h (ν0 W) 0 .nil U).nm y) rv∧ao ((Cb w h (ν0 W) 0 .nil U).re (ν1 W d0 d1) 78 gv U) (bR aA πA 79) (rQ aN (bR aA πA 79) 78) h₁ v' rv) ⟨?_,?_,?_,?_,trivial⟩ e
 ·exact cH.tell g1 fun rv V=>aC (Bo e1) fun x q e=>kL (C:=(Cb w h (ν0 W) 0 .nil U)) (x:=x) (hf.symm.trans (eG (ν0 W) e).symm) (q▸V)
 ·exact cH.tell g2 fun rv V=>(BP V (Bn e2)).symm▸.mj 1
 ·exact cH.tell g3 fun rv V=>aC (Bm e3) fun x q e=>kM (q▸V) ((Mine.Internal.Ci ha).trans (kR (ν0 W) e).symm)
 ·exact cH.tell g4 fun rv V=>aC (vo V (vd e4)) fun x q hx=>q▸.ref 0 x (nu (by decide) hx)
theorem Fq(B:Base w h la is W)(EV:mf)(Er:0≤d0∧d0≤9)(v8:0≤d1∧d1≤9)(hU:U 0=.ref la){l:Bool}(hfig:∀eV,eV 21=d0→eV 22=d1→yF eV l (U 1))
  {xs ys zs:List Stmt}(hfit:cQ (Cb w h (ν0 W) 0 .nil U) kd cs EX xs)(Wx:cQ (Cb w h (ν0 W) 0 .nil U) kd cs MT ys)(Ww:cQ (Cb w h (ν0 W) 0 .nil U) kd cs Mc zs)(F:cW (Cb w h (ν0 W) 0 .nil U) Z J M own kd cs env BH st.heap)
  (S:aq (Cb w h (ν0 W) 0 .nil U) J M Mf st.heap)(R:bz A 60)(z:bZ (Cb w h (ν0 W) 0 .nil U) Z J st.heap)(nR:∀a,M₀ a→∃o,h₀.get? a=some o)(Wy:Way h₀ M₀ Z₀ J M Z st.heap)(K:KF w h kd cs env own h₀ M₀ Z₀ st Q):
  ab (Md (Cb w h (ν0 W) 0 .nil U)) A (execs (xs++(ys++zs)) env) Q E st:=by
 refine aC (eT (ν0 W) SG) fun x e p=>?_
 refine fu ((sound (Jz B U hU) 3000 (by decide) 60).2.2.1 EX BH Mf x.1 x.2.1 x.2.2 e kd cs xs hfit Z J M own env A st F S R z _ E ?_)
 intro aA aN h₁ tk OH G aD cH r;refine aw (B0 p) fun q p=>?_
 cases rA q r
 refine aw (ae p) fun p1 p=>?_
 refine aw (ae p) fun p2 p=>?_
 refine aw (ae p) fun p3 p=>?_
 refine aw (ae p) fun p4 p=>?_
 refine aw (ae p) fun p5 p6=>?_
 have dF:∀j,j<79→πA j<x.2.2.n:=fun j hj=>al_ble (al_all p6 _ (al_mem (u6 hj)))
 refine dm (Cc (l0 (W:=W) 7 4 rfl (by decide))) fun a ha=>?_
 refine dm (Cc (l0 (W:=W) 0 2 rfl (by decide))) fun f hf=>?_
 exact J7 (d0:=d0) (d1:=d1) (U:=U) (st:={st with heap:=h₁,toks:=tk}) B EV Er v8 (Int.ofNat_lt.mp (hf.1▸hf.2)) (Int.ofNat_lt.mp (ha.1▸ha.2)) hfig Wx.re Ww.re (Tz aD cH dF ha.1 hf.1 p1 p2 p3 p4) (Tw Er v8 aD dF p5) R (bZ.dS aD (z.bF G) dF) nR ((Wy.go G).j7 aD dF nR) K
theorem yn{e:IE}(h:vM e=true):∃i:Int,e=.c (48+i)∧0≤i∧i≤9:=by
 refine aC (dC h) fun i q h=>?_
 have a:=bE.mp (ae h).1
 have b:=bE.mp (ae h).2
 exact⟨i - 48,(cT q).trans (congrArg IE.c (by lia)),by lia,by lia⟩
theorem qg(h:Dg v=true):∃i:Int,(0≤i∧i≤9)∧(v=.bytes [.c (48+i)]∨∃j:Int,(0≤j∧j≤9)∧v=.bytes [.c (48+i),.c (48+j)]):=by
 refine aw (ae h) fun t h=>?_
 have t:v=.bytes (wA v).y:=gL t
 generalize (wA v).y=y at t h
 cases y with
 |nil=>exact Bool.noConfusion h
 |cons a r=>
  refine aw (ae h) fun h1 h=>?_
  refine lu (yn h1) fun i e b1 b2=>?_
  cases r with
  |nil=>exact⟨i,⟨b1,b2⟩,.inl (e▸t)⟩
  |cons b r=>
   refine aw (ae h) fun h2 h=>?_
   refine lu (yn h2) fun j e' c1 c2=>?_
   exact⟨i,⟨b1,b2⟩,.inr ⟨j,⟨c1,c2⟩,e▸e'▸fP h▸t⟩⟩
theorem K9{rv:Value}(hv:Dg v=true)(V:ao C J M h v rv):∃(l:Bool)(d0 d1:Int),(0≤d0∧d0≤9)∧(0≤d1∧d1≤9)∧∀eV:Nat→Int,eV 21=d0→eV 22=d1→yF eV l rv:=by
 refine aC (qg hv) fun i bi h=>?_
 rcases h with q|⟨j,bj,q⟩
 ·refine⟨true,i,0,bi,⟨by decide,by decide⟩,fun eV e0 Y C' σ' M' h' SA=>kM (q▸V) ?_⟩
  rw [SA];show [eV 21+48]=[48+i];rw [e0,Int.add_comm]
 ·refine⟨false,i,j,bi,bj,fun eV e0 e1 C' σ' M' h' SA=>kM (q▸V) ?_⟩
  rw [SA];show [eV 21+48,eV 22+48]=[48+i,48+j];rw [e0,e1,Int.add_comm 48 i,Int.add_comm 48 j]
end
end
section
section
variable{kd:Kd}{cs:Bool}{own:Addr→Prop}{h₀:Heap}{env:PySem.Env}{A:Around}
theorem wR:hJ=JP++(EX++(MT++Mc)):=rfl
theorem Gk(hv:Dg v=true):∃rv,ao C J M h v rv:=by
 have ok:∀{i:Int},0≤i∧i≤9→0≤(IE.c (48+i)).eval C.ν∧(IE.c (48+i)).eval C.ν<256:=fun{i} q=>by
  show 0≤48+i∧48+i<256
  lia
 refine aC (qg hv) fun i bi h=>?_
 rcases h with q|⟨j,bj,q⟩
 ·rw [q];exact⟨_,.bytes _ 0 fun e m=>List.mem_singleton.mp m▸ok bi⟩
 ·rw [q];exact⟨_,.bytes _ 0 fun e m=>(al_mc m).elim (fun q=>q▸ok bi) fun m=>List.mem_singleton.mp m▸ok bj⟩
noncomputable def U0(la:Addr):Nat→Value:=fun Y=>.ref la
noncomputable def U1(la:Addr)(v:Value):Nat→Value:=fun i=>match i with|0=>.ref la|_=>v
theorem Df{ρ:Env}{x:Nat}(F:cW C Z J M own kd cs env ρ h)(g:az ρ x=some v)(p:Dg v=true):∃rv,ao C J M h v rv∧(gM (kd.k (C.nm x))→dy (fun a=>Z a∨own a) M env h (C.nm x) rv):=
 (Classical.em (gM (kd.k (C.nm x)))).elim (fun k=>(F.f.vars x v g k).elim fun rv y=>⟨rv,y.2,fun Y=>y.1⟩) fun k=>(Gk p).elim fun rv V=>⟨rv,V,fun q=>(k q).elim⟩
theorem TA(h0:0≤W)(h1:W<2^400)(aD:aq (Cb w h (ν0 W) 0 .nil (U0 la)) aA aN ag h₁)(dF:∀j,j<1→id j<ag.n)(p5:Ct ag (.v 22) (.v 43) (.v 62)=true):
  aq ((Cb w h (ν0 W) 0 .nil (U0 la)).re (ν0 W) 0 .nil U) (bR aA id 1) (rQ aN (bR aA id 1) 0) Mf h₁:=by
 refine oK (rn (ν0 W) p5) fun y1 y2 y3 hl q1 q2 q3=>?_
 have lo:∀i o,Mf.hp.get i=some o→i<1∧∀(σ':List Addr)(M':Addr→Prop),cF ((Cb w h (ν0 W) 0 .nil (U0 la)).re (ν0 W) 0 .nil U) σ' M' h₁ o (aA.getD i 0):=fun i o q=>by
  refine aw (qV q) fun x y=>?_
  rw [x,y];exact⟨Nat.one_pos,fun Y Y=>mH (aD.obj 0 _ (aA.getD 0 0) hl (nW (aD.len▸dF 0 Nat.one_pos))) q1.symm q2.symm q3.symm⟩
 exact aq.dS (s':=Mf) (π:=id) aD (by show 1≤1000000;decide) (Nat.zero_le _) dF (fun i j Y Y q=>q) (fun i hi=>absurd hi (Nat.not_lt_zero i)) (fun i Y Y=>Nat.zero_le _) (fun i o q=>(lo i o q).1) (fun i o q σ' M' Y=>(lo i o q).2 σ' M') (vk h0 h1)
theorem TB{rv:Value}{bT:Env}(aD:aq (Cb w h (ν0 W) 0 .nil (U0 la)) aA aN ag h₁)(cH:cW (Cb w h (ν0 W) 0 .nil (U0 la)) Z aA aN own kd cs env bT h₁)(dF:∀j,j<1→id j<ag.n)
  (p1:kQ (az bT 40) (JF 0)=true)(p2:kQ (az bT 36) (MO (.v 0))=true)(Se:gM (kd.k ((Cb w h (ν0 W) 0 .nil (U0 la)).nm 184))→dy (fun a=>Z a∨own a) aN env h₁ ((Cb w h (ν0 W) 0 .nil (U0 la)).nm 184) rv):
  cW ((Cb w h (ν0 W) 0 .nil (U0 la)).re (ν0 W) 0 .nil (U1 la rv)) (I1 Z aA (bR aA id 1)) (bR aA id 1) (rQ aN (bR aA id 1) 0) own kd cs env BH h₁:=by
 refine aC (dC p1) fun x1 g1 e1=>?_
 refine aC (dC p2) fun x2 g2 e2=>?_
 refine cH.j7 aD dF fun y v' e=>lT.at_ (ρ:=BH) (p:=fun y v'=>gM (kd.k ((Cb w h (ν0 W) 0 .nil (U0 la)).nm y))→∃TL,dy (fun a=>Z a∨own a) aN env h₁ ((Cb w h (ν0 W) 0 .nil (U0 la)).nm y) TL∧ao ((Cb w h (ν0 W) 0 .nil (U0 la)).re (ν0 W) 0 .nil (U1 la rv)) (bR aA id 1) (rQ aN (bR aA id 1) 0) h₁ v' TL) ⟨?_,?_,?_,trivial⟩ e
 ·exact cH.tell g1 fun rv V=>aC (vo V (vd e1)) fun x q hx=>q▸.ref 0 x (nu (by decide) hx)
 ·exact cH.tell g2 fun rv V=>aC (Bo e2) fun x q e=>kL (C:=(Cb w h (ν0 W) 0 .nil (U0 la))) (x:=x) (eG (ν0 W) e).symm (q▸V)
 ·exact fun k=>⟨rv,Se k,.mj 1⟩
theorem GQ(B:Base w h la is W)(EV:mf){xs:List Stmt}(hfit:cQ (Cb w h (ν0 W) 0 .nil (U0 la)) kd cs hJ xs)(F:cW (Cb w h (ν0 W) 0 .nil (U0 la)) Z J M own kd cs env sH st.heap)
  (S:aq (Cb w h (ν0 W) 0 .nil (U0 la)) J M vi st.heap)(R:bz A 60)(z:bZ (Cb w h (ν0 W) 0 .nil (U0 la)) Z J st.heap)(nR:∀a,M₀ a→∃o,h₀.get? a=some o)(Wy:Way h₀ M₀ Z₀ J M Z st.heap)(K:KF w h kd cs env own h₀ M₀ Z₀ st Q):
  ab (Md (Cb w h (ν0 W) 0 .nil (U0 la))) A (execs xs env) Q E st:=by
 rw [wR]at hfit;obtain⟨x1,xr,rfl,Sh,hfit⟩:=hfit.split
 obtain⟨x2,xr,rfl,Sg,hfit⟩:=hfit.split
 obtain⟨x3,x4,rfl,hB,hS⟩:=hfit.split
 refine aC (eT (ν0 W) SH) fun x e p=>?_
 refine fu ((sound (Jz B (U0 la) rfl) 3000 (by decide) 60).2.2.1 JP sH vi x.1 x.2.1 x.2.2 e kd cs x1 Sh Z J M own env A st F S R z _ E ?_)
 intro aA aN h₁ tk OH G aD cH r;refine aw (B0 p) fun q p=>?_
 cases rA q r
 refine aw (ae p) fun p1 p=>?_
 refine aw (ae p) fun p2 p=>?_
 refine aw (ae p) fun p3 p=>?_
 refine aw (ae p) fun p4 p5=>?_
 have hn:x.2.2.n=1:=al_beq p4
 have dF:∀j,j<1→id j<x.2.2.n:=fun j hj=>hn.symm▸hj
 refine aC (dC p3) fun fv g3 p3=>?_
 refine aC (Df cH g3 p3) fun rv V Se=>?_
 refine Fy (K9 p3 V) fun l d0 d1 Er v8 hfig=>?_
 exact Fq (U:=U1 la rv) (st:={st with heap:=h₁,toks:=tk}) B EV Er v8 rfl hfig Sg.re hB.re hS.re (TB aD cH dF p1 p2 Se) (TA B.W0 B.W1 aD dF p5) R (bZ.dS aD (z.bF G) dF) nR ((Wy.go G).j7 aD dF nR) K
end
end
section
def tQ:Ih:=⟨fun Y Y Y=>.bad 0,fun Y Y Y=>.bad 0,fun cl ρ s=>@ite _ (cl=hJ∧ρ=sH∧s=vi) (Classical.propDecidable _) (.ok (.rt (.bool true),[],vi)) (.bad 0),fun Y Y Y=>.bad 0⟩
section
theorem ER(B:Base w h la is W)(EV:mf):uW (Cb w h (ν0 W) 0 .nil (U0 la)) tQ 60:=by
 intro cl ρ s f ρ' s' e kd cs xs hf Z J M own env A st F S R z Q E K;have e:(@ite _ (cl=hJ∧ρ=sH∧s=vi) (Classical.propDecidable _) (aH.ok (Fl.rt (.bool true),([]:Env),vi)) (.bad 0)).leaf (ν0 W)=some (f,ρ',s'):=e
 by_cases q:cl=hJ∧ρ=sH∧s=vi
 ·rw [if_pos q]at e
  injection e with e;injection e with e fJ;subst e;injection fJ with fJ mX;subst fJ mX;obtain⟨rfl,rfl,rfl⟩:=q
  have CR:J=[]:=by
   have:0=J.length:=S.len
   exact List.length_eq_zero_iff.mp this.symm
  subst CR;refine GQ (M₀:=M) (Z₀:=Z) (h₀:=st.heap) B EV hf F S R z S.mlt (Way.start _ _ _) ?_
  intro ν nf f0 U σ' M' Z' h' s' ρ' tk Wy S' F';refine K [] M' h' tk _ ⟨⟨[],rfl,fun Y m=>nomatch m⟩,Wy.ext,Wy.more,Wy.fresh⟩ ?_ ?_ ⟨_,rfl,.bool true⟩
  ·exact⟨rfl,by decide,⟨Nat.le_refl 0,fun i hi=>absurd hi (Nat.not_lt_zero i)⟩,.nil,(fun i o e=>by injection e),(fun i o a e Y=>by injection e),(fun i a e Y=>by injection e),(fun i a e Y=>by injection e),(fun a m=>nomatch m),S'.mlt,S'.base,fun p hp=>⟨(S'.tab p hp).1,fun m=>nomatch m⟩,vk B.W0 B.W1⟩
  ·refine⟨⟨F'.f.glob,F'.f.iO,F'.f.kind,F'.f.kinds,F'.f.DK,F'.f.wK,F'.f.code,fun x v e=>by injection e⟩,fun a x=>⟨(F'.eE a x).1,fun zz=>(F'.eE a x).2 (Wy.keep a zz)⟩,fun a x=>?_,F'.lo,F'.ns,F'.ce,F'.lc,F'.ap,F'.fN⟩
   refine dz (F'.gh a x:) fun a1 a2 a3=>?_
   exact⟨a1,(fun m=>nomatch m),a3⟩
 ·rw [if_neg q]at e
  injection e
theorem C9:AA.get 185=some ⟨[168],[],hJ⟩:=by kernel_rfl
theorem Ou{tr:BT}{p:Addr×Addr}(e2:Uk tr p=true):p.1<1790:=by
 exact al_ble (ae e2).1
theorem xp(F:iD (Em w.params) (Bq w.params)):∀p∈dZ,(lR w.params).get? p.2=some (tabObj #[]):=fun p m=>by
 have e1:=all1 F.tabs m
 have e2:=al_all F.hd p m
 have hlt:p.2<1790:=by
  obtain⟨e,he,rfl⟩:=List.mem_map.mp m
  exact Nat.lt_of_le_of_lt (Nat.sub_le e.c 4) (Ou e2)
 unfold lR;rw [abs_get (t:=zN w.params (gW w.params 259)) hlt e1]
 rfl
theorem Cz(B:Base w h la is W)(EV:mf){A:Around}(Sh:A.handled=none)(Sg:A.depth+125<recursionLimit)(WJ:A.units+763<cLine)(hst:st.heap=h){Q:Value→Shared→Prop}
  (K:∀h' tk,(∀b o,h.get? b=some o→(∀p∈dZ,b≠p.2)→h'.get? b=some o)→(∀p∈dZ,∃ps,h'.get? p.2=some (tabObj ps))→Q (.bool true) {st with heap:=h',toks:=tk}):ab (model prog w) A (call (.ref (lL 185)) [.ref la] []) Q E st:=by
 have X:=Jz B (U0 la) rfl
 have tb:∀p∈dZ,h.get? p.2=some (tabObj #[]):=fun p m=>B.keep _ _ (xp B.F p m)
 have hide:∀b o,(jS dZ h).get? b=some o→h.get? b=some o∧∀p∈dZ,b≠p.2:=nS dZ h
 have S:aq (Cb w h (ν0 W) 0 .nil (U0 la)) [] (fun a=>∃p∈dZ,a=p.2) vi st.heap:=by
  rw [hst];refine⟨rfl,by decide,⟨Nat.le_refl 0,fun i hi=>absurd hi (Nat.not_lt_zero i)⟩,.nil,(fun i o e=>by injection e),(fun i o a e Y=>by injection e),(fun i a e Y=>by injection e),(fun i a e Y=>by injection e),(fun a m=>nomatch m),?_,?_,?_,vk B.W0 B.W1⟩
  ·rintro a ⟨p,m,rfl⟩;exact⟨_,tb p m⟩
  ·intro b o e
   obtain⟨a1,a2⟩:=hide b o e
   exact⟨fun⟨p,m,q⟩=>a2 p m q,a1⟩
  ·intro p m
   exact⟨⟨#[],⟨p,m,rfl⟩,tb p m,trivial,fun pos cv e=>by injection e⟩,fun x=>nomatch x⟩
 have hleaf:(nq PA tQ 185 [.mj 0] vi).leaf (ν0 W)=some (.bool true,vi):=by
  have e:tQ.xs hJ sH vi=.ok (.rt (.bool true),[],vi):=if_pos ⟨rfl,rfl,rfl⟩
  have:nq PA tQ 185 [.mj 0] vi=((tQ.xs hJ sH vi).bind fun(f,_,s)=>.ok (match f with|.rt v=>v|.nx=>.none,s)):=by
   unfold nq;rw [show PA.fs.get 185=_ from C9]
   rfl
  rw [this,e];rfl
 refine yh (C:=Cb w h (ν0 W) 0 .nil (U0 la)) (P:=PA) (k:=185) (d:=60) (Z:=fun Y=>False) X.lim (ER B EV) C9 (X.fns 185 _ C9) hleaf S ⟨Sh,Sg,WJ⟩ (fun a x=>x.elim) (.cons (.mj 0) .nil) ?_
 intro σ' M' h' tk rv G S' V;subst V;refine K h' tk (fun b o e hn=>?_) fun p m=>let⟨⟨ps,_,a2,_⟩,_⟩:=S'.tab p m;⟨ps,a2⟩
 rw [hst]at G;exact G.ext.keep b o (fun q=>let⟨p,m,e⟩:=q.1;hn p m e) e
end
end
end
end Mine.Internal
namespace Mine.Internal
open PySem PySem.W PySem.Spec PySem.Calls PyProof.Rows
noncomputable section
theorem DM:Cl ⟨.builtin "claim.caller" {},none,none,[],none⟩:=⟨by decide+kernel,fun Y m=>nomatch m⟩
theorem zR{prog:Program}{w:World}{t:Sem Fin}{s:Shared}{R:Result→Shared→Prop}(hreg:s.asleep)
  (h:ab (model prog w) callerA t (fun fin s'=>∃f,fin=.done f∧(R (.ok f) s'∧leftWithCleanup s'.gens=false)) (fun e s'=>R (.error e) s'∧leftWithCleanup s'.gens=false) s):
  ∃n r s' gA,runN (denote table) prog w n s ⟨t,.builtin "claim.caller" {},default,[]⟩=.halted (outcomeOf r) s'∧
   schedN (denote table) prog w n (.single s ⟨t,.builtin "claim.caller" {},default,[]⟩)=.halted (outcomeOf r) s'∧s'.forget=gA.forget∧R r gA:=by
 have h1:Sem.wp (model prog w) ⟨.builtin "claim.caller" {},none,none,[],none⟩ t (Sem.finPost (model prog w) ⟨.builtin "claim.caller" {},none,none,[],none⟩ fun r s'=>R r s'∧leftWithCleanup s'.gens=false)
   (fun e Y s'=>R (.error e) s'∧leftWithCleanup s'.gens=false) default s:=by
  refine Sem.wp_mono _ _ t (fun fin p' s' h'=>?_) (fun Y Y Y h'=>h') default s (h _ default caller_in DM)
  obtain⟨f,rfl,hf⟩:=h'
  exact hf
 refine uT (wp_halts_full (M:=model prog w) (R:=R) hreg h1:) fun n r ag aK hs hn hfo hR=>?_
 exact⟨n,r,aK,ag,hn,hs,hfo,hR⟩
theorem pj{c:ClaimW}{tree:List Value→Sem Fin}{w:World}{s:Shared}{free:Addr→Prop}{gens:Prop}{kept:Heap→Prop}(hz:s.asleep)(hgens:s.gens=#[])
  (hspec:∀args,c.pre args=true→WData.layableAll args=true→
   ∀ord:List DictEntry→List DictEntry,(∀l,(ord l).Perm l)→
   ∃vs ag,layAllW c.records (classAt s.heap) w.params ord args s=some (vs,ag)∧
    ab (model c.prog w) callerA (tree vs) (fun fin s'=>∃f,fin=.done f∧(c.Ends s args vs ag (.ok f) s'∧s'.os=s.os∧AllBare s'.gens∧kept s'.heap))
     (fun e s'=>c.Ends s args vs ag (.error e) s'∧s'.os=s.os∧AllBare s'.gens∧kept s'.heap) ag):
  c.CallFrom (fun vs=>⟨tree vs,.builtin "claim.caller" {},default,[]⟩) w free gens kept s:=by
 intro args hpre hlay ord hord;refine d9 (hspec args hpre hlay ord hord:) fun vs ag hlaid nT=>?_
 have hal:=layAllW_rest _ _ _ hlaid
 refine uT (zR (prog:=c.prog) (w:=w) (t:=tree vs) (s:=ag) (R:=fun r s'=>c.Ends s args vs ag r s'∧s'.os=s.os∧kept s'.heap) (Shared.asleep_of_life hal.2.2.2 hz)
  (aG nT (fun fin s' h=>h.elim fun f h=>⟨f,h.1,⟨h.2.1,h.2.2.1,h.2.2.2.2⟩,leftWithCleanup_false_of_bare h.2.2.2.1⟩) fun e s' h=>⟨⟨h.1,h.2.1,h.2.2.2⟩,leftWithCleanup_false_of_bare h.2.2.1⟩)) fun k r s' gA hrun hsched hfo hR=>?_
 refine Kl (Shared.forget_eq hfo:) fun eh Y Y eo Y=>?_
 have hlife:s'.heap.life=s.heap.life:=(runN_life _ _ _ hrun).trans hal.2.2.2
 refine⟨vs,ag,hlaid,k,_,s',hsched,?_,(fun Y i x hx=>by rw [hgens]at hx;simp at hx),eh▸hR.2.2,by rw [hlife],Shared.rest_eq (eo.trans hR.2.1)⟩
 exact Or.imp (fun h=>h.elim fun v h=>⟨v,congrArg outcomeOf h.1,h.2.1,h.2.2.1,h.2.2.2.1,fun b o y Y=>h.2.2.2.2.1 b o y,h.2.2.2.2.2⟩)
  (fun h=>h.elim fun e h=>h.elim fun ob h=>h.elim fun cls h=>⟨e,ob,cls,congrArg outcomeOf h.1,h.2.1,h.2.2.1,h.2.2.2.1,h.2.2.2.2.1,fun b o y Y=>h.2.2.2.2.2 b o y⟩) (hR.1.congr eh)
abbrev I2(q:Program)(loose:List Str){α:Type}(Yf:Shared→α)(Ya:World→α)(r:RowW)(d:DefRec):Prop:=
 ∀(w:World)(cy ag:Shared),Yf cy=Ya w→ag.gens=#[]→
  ∀(args:List WData)(vals:List Value)(as:List Addr)(mg mb:Str→Option Value),Ground q loose r.records (fun Y Y=>True) w cy mg mb ag.heap→Laid r.records w cy ag args vals as→r.claim.pre args=true→WData.layableAll args=true→ReadsAllW r.records (classAt cy.heap) ag.heap vals args as→WellAll w.params ag.heap vals args→
   ∀f,mg d.name=some f→
   ab (model r.prog w) callerA (PySem.call f vals) (fun v s'=>GoodWG r.claim (classAt cy.heap) (ExcName.means cy.heap) args ag (.ok (.ret v)) s')
    (fun e s'=>GoodWG r.claim (classAt cy.heap) (ExcName.means cy.heap) args ag (.error e) s') ag
theorem fn_ref{q:Program}{loose:List Str}{R:WRecords}{XP:(Str→Option Value)→Heap→Prop}{w:World}{s:Shared}{mg mb:Str→Option Value}{h:Heap}(G:Ground q loose R XP w s mg mb h){n:Str}{d:DefRec}{kwd:List (Str×Expr)}(o9:defOf q n=some (d,kwd)):∃a,mg n=some (.ref a):=by
 obtain⟨a,_,_,_,_,_,_,h1,_⟩:=G.fn o9
 exact⟨a,h1⟩
theorem vZ{r:OpenRow}{q:Program}{loose:List Str}{α:Type}{Yf:Shared→α}{Ya:World→α}{d:DefRec}{kwd:List (Str×Expr)}{N:Nat}
  (left:LeftO r.prog q loose (fun Y=>true) Yf Ya N)
  (o9:defOf q r.name=some (d,kwd))(hp:r.prog.theDef r.name=some (d.params,d.body,d.scope))(hk:kwWritten? d.params.kwonlyargs d.params.kw_defaults=some kwd)(WH:∀s,RecFacts r.toRowW.records (s:Shared).heap)(Qo:(!r.writes||r.records.isEmpty)=true)
  (k1:r.wellSaid=true)(ok:(chainsOk q&&opensWell r.prog&&(frees r.toRowW&&r.within.isEmpty))=true)(hb:r.prog.bare)(hw:r.toRowW.promised)
  (call:I2 q loose Yf Ya r.toRowW d):r.Holds:=by
 refine⟨k1,hw,?_⟩
 refine aw (Bool.and_eq_true_iff.mp ok:) fun ok k5=>?_
 refine aw (Bool.and_eq_true_iff.mp ok:) fun hch o1=>?_
 refine aw (Bool.and_eq_true_iff.mp k5:) fun k5 k6=>?_
 refine Kl (frees_parts k5:) fun hsame hu ha hap hm=>?_
 refine⟨⟨hb,o1,by show r.toRowW.makers.map _=[];rw [hm];rfl⟩,hw.witness,fun w=>⟨(left.behind (XP:=fun Y Y=>True) (fun Y Y=>trivial) hch w).1,fun s' pY=>?_⟩⟩
 refine lu ((left.behind (XP:=fun Y Y=>True) (fun Y Y=>trivial) hch w).2 s' pY:) fun cy hf Wv h=>TR h fun s hT hz hgens hg G0 y=>?_
 have RF:=WH s
 have K3:=hT
 refine⟨cy,hf,Wv,s,hT,?_,RF.1,RF.2.1,?_⟩
 ·intro n hn
  have e:n=r.name:=by
   cases q:r.pinned with
   |true=>rw [q]at hn;exact List.mem_singleton.mp hn
   |false=>rw [q]at hn;exact absurd hn List.not_mem_nil
  exact e▸pinned_of_view hg G0 o9 hp hk
 have hgens:s.gens=#[]:=Array.eq_empty_of_size_eq_zero (beq_iff_eq.mp hgens)
 have G:Ground q loose r.toRowW.records (fun Y Y=>True) w s _ _ s.heap:=RF.ground G0
 refine pj (c:=r.toRowW.claim) hz hgens fun args hpre hlay ord hord=>?_
 obtain⟨⟨vs,ag⟩,hlaid⟩:=Option.isSome_iff_exists.mp (layAllW_isSome (P:=w.params) (ord:=ord) G.has args r.toRowW.args s (pre_splitW hpre).1)
 have keeps:=layAllW_keeps _ _ _ hlaid
 have hal:=layAllW_rest _ _ _ hlaid
 refine lu (reads_layAllW hord _ _ _ hlaid hlay ag.heap (fun Y Y e=>e):) fun as hrd hin hold=>?_
 have L:Laid r.toRowW.records w s ag args vs as:=⟨⟨ord,hord,hlaid⟩,hrd,hin,hold,keeps,hal.1.trans hgens,hal.2.2.1⟩
 have aF:=G.keeps (fun Y Y Y x Y=>x) keeps
 refine dm (fn_ref aF o9) fun a h1=>?_
 have h:=call w s ag y L.gens args vs as _ _ aF L hpre hlay L.reads L.well _ (defOf_name o9▸h1)
 have hi:=ident_freeW hu ha hap
 have hwi:r.toRowW.claim.within=[]:=List.isEmpty_iff.mp k6
 refine⟨vs,ag,hlaid,?_⟩
 refine aa (lf (PySem.wpAny_nsGet aF.T.g ?_))
 rw [h1];exact aa (aG h (fun v s' g=>af ⟨_,rfl,have z:=g.laid (c:=r.toRowW.claim) hsame hwi hi L;⟨z.1,z.2.1,z.2.2,fun q=>⟨namesKept_of K3 hg _ keeps g.2.1.old,noTable Qo q⟩⟩⟩) fun e s' g=>have z:=g.laid (c:=r.toRowW.claim) hsame hwi hi L;⟨z.1,z.2.1,z.2.2,fun q=>⟨namesKept_of K3 hg _ keeps g.2.1.old,noTable Qo q⟩⟩)
end
end Mine.Internal
namespace Mine.Internal
open PySem PySem.W PyProof.Rows PySem.SeqAt
noncomputable section
section
noncomputable abbrev row:=(PySem.Challenge.rw_pq0659_01).row
theorem tT{R:WRecords}:∀{xs:List WData},WShape.hasItems R xs .int=true→∃is:List Int,xs=is.map .int
 |[],_=>⟨[],rfl⟩
 |d::r,h=>by
  unfold WShape.hasItems at h;refine aw (ae h:) fun h1 h2=>?_
  obtain⟨i,rfl⟩:=hasW_int h1
  obtain⟨is,rfl⟩:=tT h2
  exact⟨i::is,rfl⟩
theorem tK{P:Params}{h:Heap}:∀{is:List Int}{vs:List Value},WellAll P h vs (is.map .int)→∀(C:Cx) J M h',ay C J M h' (cI is) vs
 |[],_,.nil,_,_,_,_=>.nil
 |i::is,_,.cons a r,C,J,M,h'=>by
  cases a;exact .cons (.int _ _ _ rfl) (tK r C J M h')
theorem D7{args:List WData}(hp:row.toRowW.claim.pre args=true):∃is:List Int,args=[.list (is.map .int)]∧is.length≤63:=by
 refine aw (pre_splitW hp:) fun h1 h2=>?_
 obtain⟨d,r,rfl,h3,h4⟩:=hasAllW_cons h1
 have:=hasAllW_nil h4
 subst this;obtain⟨xs,rfl,h5⟩:=hasW_list h3
 obtain⟨is,rfl⟩:=tT h5
 refine⟨is,rfl,?_⟩
 rcases Nat.lt_or_ge 63 is.length with q|q
 ·exfalso
  have e:WTm.holds row.toRowW.records row.toRowW.pre {args:=[.list (is.map .int)]}=false:=by
   show WTm.holds [] (.and (.not (.lt (.lit (.int 63)) (.len (.arg 0)))) (.lit (.bool true))) {args:=[.list (is.map .int)]}=false
   have hl:(List.map WData.int is).length=is.length:=List.length_map ..
   have d:decide ((63:Int)<((List.map WData.int is).length:Int))=true:=decide_eq_true (by rw [hl];lia)
   exact congrArg (fun b=>WTm.holds [] (.and (.not (.lit (.bool b))) (.lit (.bool true))) {args:=[.list (is.map .int)]}) d
  rw [e]at h2;injection h2
 ·exact q
structure Known:Prop where
 N:ki
 F:∀w:World,iD (Em w.params) (Bq w.params)
 E:mf
def dd:DefRec:=match defOf qv row.name with|some (d,_)=>d|none=>⟨row.name,default,[],default,default⟩
theorem o9:defOf qv row.name=some (dd,[]):=by kernel_rfl
theorem well_list{P:Params}{h:Heap}{vals:List Value}{is:List Int}(WA:WellAll P h vals [.list (is.map .int)]):∃la vs,∃_:Unit,vals=[.ref la]∧h.get? la=some {cls:=.type "list",data:=.seq (vs:List Value).toArray}∧WellAll P h vs (is.map .int)∧True:=by
 cases WA with
 |cons wl wn=>
 cases wn;cases wl with
 |@list la vs _ hl wa=>exact⟨la,vs,(),rfl,hl,wa,trivial⟩
theorem A9(Kn:Known):I2 qv loose (fun s=>s.heap) (fun w=>lR w.params) row.toRowW dd:=by
 intro w cy ag hY hg args vals as mg mb G L hpre hlay RA WA f hf;have hY:cy.heap=lR w.params:=hY
 clear RA hlay;refine aC (D7 hpre:) fun is WC hlen=>?_
 clear hpre;subst WC;refine lu (zG is hlen:) fun W W0 W1 hW=>?_
 refine oK (well_list WA:) fun la vs Y Wg hl wa Y=>?_
 subst Wg;have hk:∀b o,(lR w.params).get? b=some o→ag.heap.get? b=some o:=fun b o e=>L.keeps b o (hY▸e)
 have tb:∀p∈dZ,(lR w.params).get? p.2=some (tabObj #[]):=xp (Kn.F w)
 have nt:∀p∈dZ,la≠p.2:=fun p m e=>by
  have:=hk _ _ (tb p m)
  rw [←e,hl]at this;cases this
 have B:Base w ag.heap la is W:=⟨vs,0,Kn.N,Kn.F w,hk,hl,tK wa,nt,W0,W1,hW⟩
 have HG:=pG (Kn.F w) hk
 have hd:=(Kn.F w).yo
 refine aw (ae hd:) fun d1 Y=>?_
 refine aw (kY HG d1 (by rfl):) fun N1 E1=>?_
 have N2:ag.heap.Ns mainGlobals ((jS dZ ag.heap).nsMap 3):=N1.keeps fun b o e=>(nS dZ _ b o e).1
 refine aC (bg (Kn.F w).V8:) fun v hfind hlaw=>?_
 refine aC (bg hlaw:) fun a hv ha=>?_
 have ha:=al_beq ha
 have hmg:mg=(jS dZ ag.heap).nsMap 3:=G.T.g.eq_nsMap.trans N2.eq_nsMap.symm
 have hname:dd.name=("law":Str):=defOf_name o9
 have hfv:f=.ref (lL 185):=by
  rw [hmg,hname,E1,hfind]at hf;rw [←al_inj hf,pF hv,ha]
 subst hfv;refine Cz B Kn.E rfl (by decide) (by decide) rfl fun h' tk keep tabs=>?_
 refine⟨.inl ⟨.bool true,.bool true,[],rfl,fun Y=>rfl,.bool true,by kernel_rfl,fun Y=>⟨.nil,fun Y m=>nomatch m⟩⟩,⟨fun b o e=>?_,fun b o e=>?_⟩,rfl,?_⟩
 ·by_cases q:∃p∈dZ,b=p.2
  ·obtain⟨p,m,rfl⟩:=q
   right;left
   have e0:=hk _ _ (tb p m)
   rw [e]at e0;have e0:=al_inj e0
   refine(tabs p m).elim fun ps e3=>⟨?_,e0▸rfl,#[],ps,e0▸rfl,?_⟩
   ·clear e e0 tabs keep e3
    obtain⟨o,uS,file,tf,flags,tg,Xi,text,tt,c1,c2,c3,c4,_⟩:=(CA (w:=w) (ν:=ν0 W) (nf:=0) (f0:=.nil) (K:=nX (Em w.params)) (U:=U0 la) HG (Kn.F w)).hd p m
    exact⟨p.1,o,uS,(nS dZ _ _ _ c1).1,c2,c3,c4⟩
   ·rw [e3,e0];simp
  ·exact .inl (keep b o e fun p m z=>q ⟨p,m,z⟩)
 ·by_cases q:∃p∈dZ,b=p.2
  ·obtain⟨p,m,rfl⟩:=q
   obtain⟨ps,e3⟩:=tabs p m
   exact⟨_,e3⟩
  ·exact⟨o,keep b o e fun p m z=>q ⟨p,m,z⟩⟩
 ·show AllBare ag.gens
  rw [hg];exact AllBare.empty
end
section
theorem Wl:row.prog.theDef row.name=some (dd.params,dd.body,dd.scope):=by kernel_rfl
theorem Qp:kwWritten? dd.params.kwonlyargs dd.params.kw_defaults=some []:=by kernel_rfl
theorem Rd:row.toRowW.records=[]:=by kernel_rfl
theorem RY:(chainsOk qv&&opensWell row.prog&&(frees row.toRowW&&row.within.isEmpty))=true:=by kernel_rfl
theorem Qo:(!row.writes||row.records.isEmpty)=true:=by kernel_rfl
theorem za(left:LeftO prog qv loose (fun Y=>true) (fun s=>s.heap) (fun w=>lR w.params) 30000)(k1:row.wellSaid=true)(hb:row.prog.bare)(hw:row.toRowW.promised)(Kn:Known):row.Holds:=
 vZ (r:=row) (q:=qv) (loose:=loose) (Yf:=fun s=>s.heap) (Ya:=fun w=>lR w.params) (N:=30000) left o9 Wl Qp (fun Y=>recFacts_nil Rd) Qo k1 RY hb hw (A9 Kn)
end
section
theorem Ld:ki:=⟨by kernel_rfl,by kernel_rfl,by kernel_rfl,by kernel_rfl,by kernel_rfl,by kernel_rfl,by kernel_rfl,by kernel_rfl⟩
theorem Le:∀(w:World)(_:OsState),iD (Em w.params) (Bq w.params):=gz (fun w Y=>iD (Em w.params) (Bq w.params)) ⟨by kernel_rfl,by kernel_rfl,by kernel_rfl,by kernel_rfl,by kernel_rfl,by kernel_rfl,by kernel_rfl,by kernel_rfl,by kernel_rfl,by kernel_rfl,by kernel_rfl,by kernel_rfl,by kernel_rfl,by kernel_rfl⟩
end
section
theorem ni(P:Params):∀(l m:List Stmt)(s:TS),jZ P (l++m) s=jZ P m (jZ P l s)
 |[],_,_=>rfl
 |x::l,m,s=>ni P l m (HW P s x)
theorem yW(P:Params){a b:Nat}(h:a≤b):gW P b=jZ P (part a b) (gW P a):=by
 unfold gW part;rw [←ni]
 congr 1
 have:b=a+(b - a):=(Nat.add_sub_cancel' h).symm
 conv=>lhs;rw [this]
 exact List.take_add
theorem jb{a b c:Nat}(h:a≤b)(h':b≤c):part a c=part a b++part b c:=by
 unfold part;have:c - a=(b - a)+(c - b):=((Nat.add_comm _ _).trans (Nat.sub_add_sub_cancel h' h)).symm
 rw [this,List.take_add,List.drop_drop];rw [Nat.add_sub_cancel' h]
theorem Fj(w:World)(os:OsState):topGo treeTable prog w 11 (some (.ref 6)) 12 ⟨boot_heap w.params,#[],boot_drawn,boot_toks,os⟩ (topStub prog)=some ((E0 w os (Qf w.params)).abs,⟨denote treeTable codeB,codeB,fz,[topFrame fz]⟩):=by kernel_rfl
theorem Ad(w:World)(os:OsState):segRunT treeTable prog w 11 (some (.ref 6)) 1 1 (E0 w os (Qf w.params)) (blockOf body Ll codeB fz [topFrame fz])=some (.next,E0 w os (Qf w.params),codeB,fz):=by kernel_rfl
theorem DU:part 0 259=body:=by kernel_rfl
theorem Ft:opening prog=plainProg prog.main.scope.names:=by kernel_rfl
theorem Dh(s:Shared):fenceModules? prog s=some s:=by kernel_rfl
theorem Gi(w:World)(os:OsState)(s:TS):topRun treeTable prog w 11 (some (.ref 6)) 2 (E0 w os s).abs ⟨doneF .next,codeB,posAt 259,[topFrame fz]⟩=some (E0 w os s).abs:=by kernel_rfl
theorem EM(w:World)(os:OsState)(p1:eO 0 50 4000)(p2:eO 50 100 4000)(p3:eO 100 145 4000)(p4:eO 145 190 4000)(p5:eO 190 225 4000)(p6:eO 225 259 4000):
  topRun treeTable prog w 11 (some (.ref 6)) (12+(1+(4000+(4000+(4000+(4000+(4000+(4000+2)))))))) ⟨boot_heap w.params,#[],boot_drawn,boot_toks,os⟩ (topStub prog)=some (E0 w os (gW w.params 259)).abs:=by
 have q1:=segRun_of (p1 w os)
 have q2:=segRun_of (p2 w os)
 have q3:=segRun_of (p3 w os)
 have q4:=segRun_of (p4 w os)
 have q5:=segRun_of (p5 w os)
 have q6:=segRun_of (p6 w os)
 rw [←yW w.params (by decide)]at q1 q2 q3 q4 q5 q6
 have hb:body=part 0 50++(part 50 100++(part 100 145++(part 145 190++(part 190 225++(part 225 259++([])))))):=by
  rw [List.append_nil,←jb (by decide) (by decide),←jb (by decide) (by decide),←jb (by decide) (by decide),←jb (by decide) (by decide),←jb (by decide) (by decide),DU]
 refine go_top (Fj w os) ?_
 refine piece_block (segRun_of (Ad w os)) ?_
 rw [hb];exact piece_app q1 (piece_app q2 (piece_app q3 (piece_app q4 (piece_app q5 (piece_app q6 (piece_nil (Gi w os _)))))))
end
section
theorem RH:∀(w:World)(_:OsState),staticsOk mods (boot_heap w.params) (lR w.params)=true:=gz (fun w Y=>staticsOk mods (boot_heap w.params) (lR w.params)=true) (by kernel_rfl)
theorem RG:∀(w:World)(_:OsState),laidKept (boot_heap w.params) (lR w.params)=true:=gz (fun w Y=>laidKept (boot_heap w.params) (lR w.params)=true) (by kernel_rfl)
theorem RE:∀(w:World)(_:OsState),namesBound prog (lR w.params)=true:=gz (fun w Y=>namesBound prog (lR w.params)=true) (by kernel_rfl)
def Sf(w:World)(os:OsState):Shared:=⟨lR w.params,#[],boot_drawn,(gW w.params 259).t,os⟩
theorem sk:∀(w:World)(os:OsState),openSeen qv loose mods (fun Y=>true) true (Sf w os)=openGood qv loose:=gz (fun w os=>openSeen qv loose mods (fun Y=>true) true (Sf w os)=openGood qv loose) (by kernel_rfl)
theorem V6(w:World):staticsOk mods (boot_heap w.params) (lR w.params)=true:=RH w {}
theorem V5(w:World):laidKept (boot_heap w.params) (lR w.params)=true:=RG w {}
theorem V4(w:World):namesBound prog (lR w.params)=true:=RE w {}
end
section
theorem tk(P:Params):((gW P 259).n,(gW P 259).t)=(1790,2755):=by kernel_rfl
theorem sz(w:World):((boot_heap w.params).isNs mainGlobals&&(Array.mk []:Array GenState).size==0,(boot_heap w.params).objs.size,(boot_heap w.params).nsMap mainGlobals "__annotations__")=(true,11,some (.ref 6)):=by kernel_rfl
theorem FP(p1:eO 0 50 4000)(p2:eO 50 100 4000)(p3:eO 100 145 4000)(p4:eO 145 190 4000)(p5:eO 190 225 4000)(p6:eO 225 259 4000):LeftO prog qv loose (fun Y=>true) (fun s=>s.heap) (fun w=>lR w.params) 30000:=by
 have e:∀(w:World)(os:OsState),(E0 w os (gW w.params 259)).abs=⟨lR w.params,#[],boot_drawn,2755,os⟩:=fun w os=>by
  have t:=tk w.params
  have t1:(gW w.params 259).n=1790:=congrArg Prod.fst t
  have t2:(gW w.params 259).t=2755:=congrArg Prod.snd t
  show(⟨absHeap (zN w.params (gW w.params 259)) (gW w.params 259).n (boot_heap w.params).life,#[],boot_drawn,(gW w.params 259).t,os⟩:Shared)=_;rw [t1,t2]
  rfl
 refine LeftO.of_pieces (H₀:=boot_heap) (H₁:=lR) (gs₀:=Array.mk []) (gs₁:=#[]) (d₀:=boot_drawn) (d₁:=boot_drawn) (k₀:=boot_toks) (k₁:=2755) (m₀:=11) (ann:=some (.ref 6)) (M:=12+(1+(4000+(4000+(4000+(4000+(4000+(4000+2))))))))
  (boot_open Ft (by decide) Dh) sz (fun w os=>(EM w os p1 p2 p3 p4 p5 p6).trans (congrArg some (e w os))) (by decide) fun w=>funext fun os=>?_
 have k:=sk w os
 have t2:(gW w.params 259).t=2755:=congrArg Prod.snd (tk w.params)
 unfold Sf at k;rw [t2]at k;refine Prod.ext ?_ (Prod.ext k rfl);show(staticsOk mods (boot_heap w.params) (lR w.params)&&namesBound prog (lR w.params)&&true&&laidKept (boot_heap w.params) (lR w.params))=true;rw [V6,V5,V4];rfl
end
section
theorem SU:Gs 0 0=true:=by kernel_rfl
theorem SS:Gs 0 1=true:=by kernel_rfl
theorem SR:Gs 0 2=true:=by kernel_rfl
theorem SQ:Gs 0 3=true:=by kernel_rfl
theorem SP:Gs 1 0=true:=by kernel_rfl
theorem SN:Gs 1 1=true:=by kernel_rfl
theorem SM:Gs 1 2=true:=by kernel_rfl
theorem SK:Gs 1 3=true:=by kernel_rfl
theorem O8:uh 0 0 true=true:=by kernel_rfl
theorem O9:uh 0 0 false=true:=by kernel_rfl
theorem O6:uh 0 1 true=true:=by kernel_rfl
theorem O7:uh 0 1 false=true:=by kernel_rfl
theorem O4:uh 0 2 true=true:=by kernel_rfl
theorem O5:uh 0 2 false=true:=by kernel_rfl
theorem O2:uh 0 3 true=true:=by kernel_rfl
theorem O3:uh 0 3 false=true:=by kernel_rfl
theorem O0:uh 1 0 true=true:=by kernel_rfl
theorem O1:uh 1 0 false=true:=by kernel_rfl
theorem OY:uh 1 1 true=true:=by kernel_rfl
theorem OZ:uh 1 1 false=true:=by kernel_rfl
theorem OW:uh 1 2 true=true:=by kernel_rfl
theorem OX:uh 1 2 false=true:=by kernel_rfl
theorem OU:uh 1 3 true=true:=by kernel_rfl
theorem OV:uh 1 3 false=true:=by kernel_rfl
theorem et:Mo.all (Me Qx cV gv 78 3000 40)=true:=by kernel_rfl
theorem OT:mf:=by
 refine⟨fun f a hf ha=>?_,fun f a l hf ha=>?_,et⟩
 ·have hf:f=0∨f=1:=by lia
  have ha:a=0∨a=1∨a=2∨a=3:=by lia
  rcases hf with rfl|rfl
  ·rcases ha with rfl|rfl|rfl|rfl
   ·exact SU
   ·exact SS
   ·exact SR
   ·exact SQ
  ·rcases ha with rfl|rfl|rfl|rfl
   ·exact SP
   ·exact SN
   ·exact SM
   ·exact SK
 ·have hf:f=0∨f=1:=by lia
  have ha:a=0∨a=1∨a=2∨a=3:=by lia
  cases l
  ·rcases hf with rfl|rfl
   ·rcases ha with rfl|rfl|rfl|rfl
    ·exact O9
    ·exact O7
    ·exact O5
    ·exact O3
   ·rcases ha with rfl|rfl|rfl|rfl
    ·exact O1
    ·exact OZ
    ·exact OX
    ·exact OV
  ·rcases hf with rfl|rfl
   ·rcases ha with rfl|rfl|rfl|rfl
    ·exact O8
    ·exact O6
    ·exact O4
    ·exact O2
   ·rcases ha with rfl|rfl|rfl|rfl
    ·exact O0
    ·exact OY
    ·exact OW
    ·exact OU
end
end
end Mine.Internal
namespace Mine.Internal
open PySem PySem.W PyProof.Rows
open TablesWhole
noncomputable section
theorem oW(top:Scope)(cx:TablesWhole.Ctx)(sc:Scope)(a b:List Stmt):wSs holds top cx sc (a++b)=(wSs holds top cx sc a&&wSs holds top cx sc b):=by
 induction a with
 |nil=>rfl
 |cons s r ih=>
  show(wS holds top cx sc s&&wSs holds top cx sc (r++b))=((wS holds top cx sc s&&wSs holds top cx sc r)&&wSs holds top cx sc b);rw [ih,Bool.and_assoc]
theorem m5(top:Scope)(cx:TablesWhole.Ctx)(sc:Scope)(a b:List Stmt):wSs gather top cx sc (a++b)=(wSs gather top cx sc a++wSs gather top cx sc b):=by
 induction a with
 |nil=>rfl
 |cons s r ih=>
  show(wS gather top cx sc s++wSs gather top cx sc (r++b))=((wS gather top cx sc s++wSs gather top cx sc r)++wSs gather top cx sc b);rw [ih,List.append_assoc]
theorem JM(top:Scope)(cx:TablesWhole.Ctx)(sc:Scope)(l:List Stmt)(i k:Nat)(h:wSs holds top cx sc ((l.drop i).take k)=true)(r:wSs holds top cx sc (l.drop (i+k))=true):wSs holds top cx sc (l.drop i)=true:=by
 rw [←List.take_append_drop k (l.drop i),oW,h,List.drop_drop,r];rfl
theorem JN(top:Scope)(cx:TablesWhole.Ctx)(sc:Scope)(l:List Stmt)(i k:Nat)(h:(wSs gather top cx sc ((l.drop i).take k)).isEmpty=true)(r:(wSs gather top cx sc (l.drop (i+k))).isEmpty=true):(wSs gather top cx sc (l.drop i)).isEmpty=true:=by
 rw [←List.take_append_drop k (l.drop i),m5,List.isEmpty_iff.mp h,List.drop_drop,List.isEmpty_iff.mp r];rfl
theorem A8(m:Module)(hg:(wSs gather m.scope ⟨m.scope,[],[],[],none⟩ m.scope (m.body.drop 0)).isEmpty=true)(hn:noTwice m.scope=true)
  (hh:wSs holds m.scope ⟨m.scope,[],[],[],none⟩ m.scope (m.body.drop 0)=true):wModule holds m=true:=by
 rw [List.drop_zero]at hg hh;unfold wModule;simp only[List.isEmpty_iff.mp hg];show(true&&(noTwice m.scope&&(wSs holds m.scope ⟨m.scope,[],[],[],none⟩ m.scope m.body&&true)))=true;rw [hn,hh];rfl
theorem Fi(p:Program)(h:wModule holds p.main=true)(h1:p.modules=[])(h2:p.parses=[])(h3:p.harvested=[]):p.tablesWhole=true:=by
 show(wModule holds p.main&&(Alg.all holds (p.modules.map _)&&(Alg.all holds (p.parses.map _)&&(Alg.all holds (p.harvested.map _)&&true))))=true;rw [h,h1,h2,h3];rfl
noncomputable abbrev pw:=PySem.Challenge.pw_pq0659_01
noncomputable def oJ:Scope:=pw.main.scope
def En:TablesWhole.Ctx:=⟨oJ,[],[],[],none⟩
noncomputable def ja:List Stmt:=pw.main.body
abbrev Hh(i:Nat):Prop:=(wSs holds oJ En oJ ((ja.drop i).take 33)&&(wSs gather oJ En oJ ((ja.drop i).take 33)).isEmpty)=true
theorem tw_step(i:Nat)(h:Hh i)(r:wSs holds oJ En oJ (ja.drop (i+33))=true∧(wSs gather oJ En oJ (ja.drop (i+33))).isEmpty=true):wSs holds oJ En oJ (ja.drop i)=true∧(wSs gather oJ En oJ (ja.drop i)).isEmpty=true:=
 ⟨JM oJ En oJ ja i 33 (Bool.and_eq_true_iff.mp h).1 r.1,JN oJ En oJ ja i 33 (Bool.and_eq_true_iff.mp h).2 r.2⟩
theorem Vc:Hh 0:=by kernel_rfl
theorem U9:Hh 33:=by kernel_rfl
theorem U8:Hh 66:=by kernel_rfl
theorem U7:Hh 99:=by kernel_rfl
theorem U6:Hh 132:=by kernel_rfl
theorem U5:Hh 165:=by kernel_rfl
theorem U4:Hh 198:=by kernel_rfl
theorem U3:Hh 231:=by kernel_rfl
theorem tw_end:ja.drop 264=[]:=by kernel_rfl
theorem tw_all:wSs holds oJ En oJ (ja.drop 0)=true∧(wSs gather oJ En oJ (ja.drop 0)).isEmpty=true:=tw_step 0 Vc (tw_step 33 U9 (tw_step 66 U8 (tw_step 99 U7 (tw_step 132 U6 (tw_step 165 U5 (tw_step 198 U4 (tw_step 231 U3 (tw_end▸⟨rfl,rfl⟩))))))))
theorem once:noTwice oJ=true:=by decide+kernel
theorem tw:PySem.Challenge.pw_pq0659_01.tablesWhole=true:=Fi _ (A8 _ tw_all.2 once tw_all.1) rfl rfl rfl
theorem G6:(PySem.Challenge.rw_pq0659_01).row.prog.bare:=⟨rfl,rfl,rfl,rfl,rfl,tw⟩
theorem Fh:(PySem.Challenge.rw_pq0659_01).row.toRowW.promised:=⟨[.list []],by kernel_rfl,by kernel_rfl⟩
end
end Mine.Internal
namespace Mine.Internal
open PySem PySem.W PyProof.Rows PySem.SeqAt
noncomputable section
noncomputable abbrev ll:OpenLaw:=PySem.Challenge.rw_pq0659_01
theorem nr_split(lk:Look)(l:List Stmt)(k:Nat)(h1:noRoadLSs lk (l.take k)=true)(h2:noRoadLSs lk (l.drop k)=true):noRoadLSs lk l=true:=by
 induction l generalizing k with
 |nil=>rfl
 |cons x r ih=>
  cases k with
  |zero=>exact h2
  |succ k=>exact look_both (ae h1).1 (ih k (ae h1).2 h2)
noncomputable def tA:Look:={strict:=!(importedModules ll.row.prog.main.body).all cThrough.contains,foot:=none,bare:=(["vars","dir","locals"]:List Str).filter (readsOut ll.row.prog ll.row.prog.main.body)}
theorem UY:namesResolve ll.row.prog=true:=by kernel_rfl
theorem UX:noRoadLSs tA (ll.row.prog.main.body.take 90)=true:=by kernel_rfl
theorem UW:noRoadLSs tA ((ll.row.prog.main.body.drop 90).take 90)=true:=by kernel_rfl
theorem UU:noRoadLSs tA ((ll.row.prog.main.body.drop 90).drop 90)=true:=by kernel_rfl
theorem UT:(namesMeet ll.row.prog ll.row.prog.main.body fun Y n=>attrL n)=true:=by kernel_rfl
theorem US:(sreFenced ll.row.prog.main&&((moduleNames ll.row.prog.main.body).isEmpty||lookedIntoSs (moduleNames ll.row.prog.main.body) ll.row.prog.main.body))=true:=by kernel_rfl
theorem UR:ll.row.prog.boundNames.all (fun n=>!worldNames.contains n)=true:=by kernel_rfl
theorem UQ:looksOpen ll.row.prog=true:=look_both (look_both (look_both (look_both US UY) UR) (nr_split tA _ 90 UX (nr_split tA _ 90 UW UU))) UT
theorem UP:ll.row.wellSaid=true:=by
 unfold OpenRow.wellSaid OpenRow.partSaid
 iterate 15 refine look_both ?_ (by kernel_rfl)
 exact UQ
theorem QK:(namesMeet ll.prog ll.above fun Y n=>!ll.own.contains n)=true:=by kernel_rfl
theorem QJ:(ll.prog.main.body.flatMap importedNames).all (fun n=>!ll.reads n||(drawsOf n ll.prog.main.body).all fun mn=>mn.2 !=("attrgetter":Str)&&mn.2 !=("methodcaller":Str))=true:=by kernel_rfl
theorem QI:ll.wellSaid=true:=by
 unfold OpenLaw.wellSaid;refine look_both ?_ (by kernel_rfl)
 refine look_both ?_ QK
 iterate 4 refine look_both ?_ (by kernel_rfl)
 refine look_both ?_ QJ
 iterate 11 refine look_both ?_ (by kernel_rfl)
 exact UP
end
end Mine.Internal
open PySem PySem.W PyProof.Rows
theorem PySem.Challenge.cw_pq0659_01_holds : PySem.Challenge.rw_pq0659_01.Holds := by
 refine holds_law Mine.Internal.QI fun said=>?_
 exact Mine.Internal.za (Mine.Internal.FP Mine.Internal.VE Mine.Internal.VD Mine.Internal.VC Mine.Internal.VB Mine.Internal.VA Mine.Internal.Vz) said Mine.Internal.G6 Mine.Internal.Fh ⟨Mine.Internal.Ld,fun w=>Mine.Internal.Le w {},Mine.Internal.OT⟩
